import PyProof.Rows.All
import Wide.All
import OpenK.AllK
import Wide.FinOn
import HandS.ForMost
import HandS.ForExc
import HandS.TryMany
import HandS.ExcInit
import HandS.ExcField
import HandS.CallSlots
import HandS.IsInst
import HandS.SortKw
import HandS.SortInts
import HandS.Flow
import HandS.Wide
import HandS.TupAny
import HandS.Deep
import HandS.Style
import HandS.SetFor
import HandS.RaiseMore
import PySem.Challenge.RW_parcelbank_k47_history_text
set_option Elab.async false
set_option linter.all false
set_option autoImplicit false
set_option maxRecDepth 100000
set_option maxHeartbeats 1000000
namespace PL
open PySem PySem.Spec PyProof.Rows L2

/-! ## data -/
inductive D where
  | non | bl (b : Bool) | int (i : Int) | str (s : Str) | tup (xs : List D) | lst (xs : List D) | scr (ns : List Int)
  deriving Inhabited

inductive Exc where
  | badValue (what : D) | tooMany (limit : D) | badText (line word what : D) | noPlacing (members : D) | refused (reason : D)
def Exc.cls : Exc → Str
  | .badValue _ => "BadValue" | .tooMany _ => "TooMany" | .badText _ _ _ => "BadText" | .noPlacing _ => "NoPlacing" | .refused _ => "Refused"
/-- in the order in which the dict is told: the last stored first -/
def Exc.flds : Exc → List (Str × D)
  | .badValue w => [("what", w)] | .tooMany l => [("limit", l)] | .badText l w x => [("what", x), ("word", w), ("line", l)] | .noPlacing m => [("members", m)] | .refused r => [("reason", r)]

inductive Res (α : Type) where
  | ok (a : α) | exc (e : Exc) | stuck
def Res.bind {α β : Type} : Res α → (α → Res β) → Res β
  | .ok a, f => f a
  | .exc e, _ => .exc e
  | .stuck, _ => .stuck
inductive RV where
  | sh (d : D) | ow (xs : List D)
/-- what a slot may own: an object that nothing else knows -/
inductive OB where
  | lst (xs : List D) | dk (kvs : List (Key × D))
inductive Sl where
  | no | sh (d : D) | ow (o : OB) | tmp (d : D)
abbrev En := List Sl
inductive Out where
  | next (ρ : En) | ret (r : RV) | brk (ρ : En) | cont (ρ : En) | exc (e : Exc) (ρ : En) | stuck

/-! ## what stands for what -/
mutual
inductive Rep (K : PySem.W.Frag) (G : Hp) : V → D → Prop
  | non : Rep K G .non .non
  | bl (b : Bool) : Rep K G (.bl b) (.bl b)
  | int (i : Int) : Rep K G (.int i) (.int i)
  | str (x : Str) : Rep K G (.str x) (.str x)
  | tup {a : Addr} {vs : List V} {ds : List D} : SqT K G a vs → Reps K G vs ds → Rep K G (.ref a) (.tup ds)
  | lst {a : Addr} {vs : List V} {ds : List D} : G a = some (.lst vs) → Reps K G vs ds → Rep K G (.ref a) (.lst ds)
  | scr {a : Addr} {ns : List Int} : SqL K G a (ns.map V.int) → Rep K G (.ref a) (.scr ns)
inductive Reps (K : PySem.W.Frag) (G : Hp) : List V → List D → Prop
  | nil : Reps K G [] []
  | cons {v : V} {vs : List V} {d : D} {ds : List D} : Rep K G v d → Reps K G vs ds → Reps K G (v :: vs) (d :: ds)
end

theorem same_tup {K : PySem.W.Frag} {G G' : Hp} {a : Addr} {xs : List V} (e : Same G G') (h : SqT K G a xs) : SqT K G' a xs := by
  rcases h with (h | ⟨o, h⟩) | h
  · exact .inl (.inl (e _ _ h))
  · exact .inl (.inr ⟨o, e _ _ h⟩)
  · exact .inr h

section
variable {K : PySem.W.Frag} {G G' H H' : Hp}
mutual
theorem Rep.mono (e : Same G G') : ∀ (d : D) (v : V), Rep K G v d → Rep K G' v d
  | .non, _, .non => .non
  | .bl _, _, .bl b => .bl b
  | .int _, _, .int b => .int b
  | .str _, _, .str b => .str b
  | .tup ds, _, .tup h r => .tup (same_tup e h) (Reps.mono e ds _ r)
  | .lst ds, _, .lst h r => .lst (e _ _ h) (Reps.mono e ds _ r)
  | .scr _, _, .scr h => .scr (Same.seq e h)
theorem Reps.mono (e : Same G G') : ∀ (ds : List D) (vs : List V), Reps K G vs ds → Reps K G' vs ds
  | [], _, .nil => .nil
  | d :: ds, _, .cons h r => .cons (Rep.mono e d _ h) (Reps.mono e ds _ r)
end
theorem Reps.len : ∀ {ds : List D} {vs : List V}, Reps K G vs ds → vs.length = ds.length
  | [], _, .nil => rfl
  | d :: ds, _, .cons h r => by rw [List.length_cons, List.length_cons, Reps.len r]
theorem Reps.get : ∀ {ds : List D} {vs : List V} {i : Nat} {d : D}, Reps K G vs ds → ds[i]? = some d → ∃ v, vs[i]? = some v ∧ Rep K G v d
  | [], _, i, d, .nil, h => by simp at h
  | d0 :: ds, _, 0, d, .cons h r, e => by
    simp at e; subst e; exact ⟨_, rfl, h⟩
  | d0 :: ds, _, i + 1, d, .cons h r, e => by
    obtain ⟨v, e1, e2⟩ := Reps.get (i := i) (d := d) r (by simpa using e)
    exact ⟨v, by simpa using e1, e2⟩
theorem Reps.getV : ∀ {ds : List D} {vs : List V} {i : Nat} {v : V}, Reps K G vs ds → vs[i]? = some v → ∃ d, ds[i]? = some d ∧ Rep K G v d
  | [], _, i, d, .nil, h => by simp at h
  | d0 :: ds, _, 0, d, .cons h r, e => by
    simp at e; subst e; exact ⟨_, rfl, h⟩
  | d0 :: ds, _, i + 1, d, .cons h r, e => by
    obtain ⟨v, e1, e2⟩ := Reps.getV (i := i) (v := d) r (by simpa using e)
    exact ⟨v, by simpa using e1, e2⟩
theorem Reps.app : ∀ {ds es : List D} {vs us : List V}, Reps K G vs ds → Reps K G us es → Reps K G (vs ++ us) (ds ++ es)
  | [], _, _, _, .nil, s => s
  | d :: ds, _, _, _, .cons h r, s => .cons h (Reps.app r s)
theorem Reps.take : ∀ {ds : List D} {vs : List V} (n : Nat), Reps K G vs ds → Reps K G (vs.take n) (ds.take n)
  | _, _, 0, _ => by simpa using Reps.nil
  | [], _, n + 1, .nil => .nil
  | d :: ds, _, n + 1, .cons h r => .cons h (Reps.take n r)
theorem Reps.drop : ∀ {ds : List D} {vs : List V} (n : Nat), Reps K G vs ds → Reps K G (vs.drop n) (ds.drop n)
  | _, _, 0, r => r
  | [], _, n + 1, .nil => .nil
  | d :: ds, _, n + 1, .cons h r => Reps.drop n r
theorem Reps.set {v : V} {d : D} (q : Rep K G v d) : ∀ {ds : List D} {vs : List V} (n : Nat), Reps K G vs ds → Reps K G (vs.set n v) (ds.set n d)
  | [], _, n, .nil => .nil
  | d0 :: ds, _, 0, .cons h r => .cons q r
  | d0 :: ds, _, n + 1, .cons h r => .cons h (Reps.set q n r)
theorem Reps.rep : ∀ {ds : List D} {vs : List V} (k : Nat), Reps K G vs ds → Reps K G (List.replicate k vs).flatten (List.replicate k ds).flatten
  | _, _, 0, _ => .nil
  | _, _, k + 1, r => by
    rw [List.replicate_succ, List.replicate_succ, List.flatten_cons, List.flatten_cons]
    exact Reps.app r (Reps.rep k r)
theorem Reps.ints : ∀ {ns : List Int} {vs : List V}, Reps K G vs (ns.map D.int) → vs = ns.map V.int
  | [], _, .nil => rfl
  | n :: ns, _, .cons (.int _) r => by rw [List.map_cons, ← Reps.ints r]
theorem Reps.ofInts : ∀ (ns : List Int), Reps K G (ns.map V.int) (ns.map D.int)
  | [] => .nil
  | n :: ns => .cons (.int n) (Reps.ofInts ns)
end

inductive KReps (K : PySem.W.Frag) (G : Hp) : List (Key × V) → List (Key × D) → Prop
  | nil : KReps K G [] []
  | cons {k : Key} {v : V} {vs : List (Key × V)} {d : D} {ds : List (Key × D)} : Rep K G v d → KReps K G vs ds → KReps K G ((k, v) :: vs) ((k, d) :: ds)
inductive RepO (K : PySem.W.Frag) (G : Hp) : HO → OB → Prop
  | lst {vs : List V} {ds : List D} : Reps K G vs ds → RepO K G (.lst vs) (.lst ds)
  | dk {vs : List (Key × V)} {ds : List (Key × D)} : KReps K G vs ds → RepO K G (.dK vs) (.dk ds)
theorem KReps.mono {K : PySem.W.Frag} {G G' : Hp} (e : Same G G') : ∀ {vs : List (Key × V)} {ds : List (Key × D)}, KReps K G vs ds → KReps K G' vs ds
  | _, _, .nil => .nil
  | _, _, .cons h r => .cons (Rep.mono e _ _ h) (KReps.mono e r)
theorem RepO.mono {K : PySem.W.Frag} {G G' : Hp} (e : Same G G') {h : HO} {o : OB} : RepO K G h o → RepO K G' h o
  | .lst r => .lst (Reps.mono e _ _ r)
  | .dk r => .dk (KReps.mono e r)

/-! ## growth of heaps -/
/-- G: what is shared (read, never written); H: what is tracked -/
structure Grow (G H G' H' : Hp) : Prop where
  g : Same G G'
  h : Same H H'
  s : Same G' H'
  f : ∀ a, G a = none → H a ≠ none → G' a = none
section
variable {K : PySem.W.Frag} {G G1 G2 H H1 H2 : Hp}
theorem Grow.refl (s : Same G H) : Grow G H G H := ⟨Same.refl _, Same.refl _, s, fun _ h _ => h⟩
theorem Grow.trans (a : Grow G H G1 H1) (b : Grow G1 H1 G2 H2) : Grow G H G2 H2 :=
  ⟨a.g.trans b.g, a.h.trans b.h, b.s, fun x e1 e2 => b.f x (a.f x e1 e2) (by
    cases q : H x with
    | none => exact absurd q e2
    | some o => rw [a.h x o q]; simp)⟩
theorem same_new {H : Hp} {p : Addr} {o : HO} (h : H p = none) : Same H (upd H p o) := fun b x e => by
  rw [upd_ne (ne_of_none e h)]; exact e
/-- a new object, shared at once -/
theorem Grow.new (s : Same G H) {p : Addr} {o : HO} (h : H p = none) : Grow G H (upd G p o) (upd H p o) :=
  ⟨same_new (s.free h), same_new h, fun b x e => by
    by_cases hb : b = p
    · subst hb; rw [upd_same] at e ⊢; exact e
    · rw [upd_ne hb] at e ⊢; exact s b x e, fun a e1 e2 => by
    have : a ≠ p := fun z => by rw [z] at e2; exact e2 h
    rw [upd_ne this]; exact e1⟩
/-- a new object, not shared -/
theorem Grow.own (s : Same G H) {p : Addr} {o : HO} (h : H p = none) : Grow G H G (upd H p o) :=
  ⟨Same.refl _, same_new h, fun b x e => by
    have : b ≠ p := ne_of_none (s b x e) h
    rw [upd_ne this]; exact s b x e, fun a e1 _ => e1⟩
/-- a fresh object becomes shared -/
theorem Grow.share (a : Grow G H G1 H1) {p : Addr} {o : HO} (h : H p = none) (h1 : G1 p = none) (e : H1 p = some o) : Grow G H (upd G1 p o) H1 :=
  ⟨fun b x q => by
    have : b ≠ p := ne_of_none (a.g b x q) h1
    rw [upd_ne this]; exact a.g b x q, a.h, fun b x q => by
    by_cases hb : b = p
    · subst hb; rw [upd_same] at q; cases q; exact e
    · rw [upd_ne hb] at q; exact a.s b x q, fun b e1 e2 => by
    have : b ≠ p := fun z => by rw [z] at e2; exact e2 h
    rw [upd_ne this]; exact a.f b e1 e2⟩
end

/-! ## states -/
def SlR (K : PySem.W.Frag) (H0 G H : Hp) : Sl → Option V → Prop
  | .no, _ => True
  | .sh d, o => ∃ v, o = some v ∧ Rep K G v d
  | .ow ob, o => ∃ l ho, o = some (.ref l) ∧ H0 l = none ∧ G l = none ∧ H l = some ho ∧ RepO K G ho ob
  | .tmp _, _ => True
/-- a region of its own, of data that is read for a while and then let go -/
structure Tm (K : PySem.W.Frag) (H0 : Hp) (ρ : En) (σ : L2.St) (G H T : Hp) : Prop where
  at_ : ∀ b x, T b = some x → G b = none ∧ H0 b = none ∧ H b = some x
  rep : ∀ (i : Nat) (d : D), ρ[i]? = some (.tmp d) → ∃ v, σ[i]? = some (some v) ∧ Rep K T v d
  dis : ∀ (i : Nat) (ob : OB) (l : Addr), ρ[i]? = some (.ow ob) → σ[i]? = some (some (.ref l)) → T l = none
structure R (K : PySem.W.Frag) (G0 H0 : Hp) (ρ : En) (σ : L2.St) (G H : Hp) : Prop where
  gr : Grow G0 H0 G H
  len : ρ.length = σ.length
  slot : ∀ (i : Nat) (s : Sl), ρ[i]? = some s → ∃ o, σ[i]? = some o ∧ SlR K H0 G H s o
  dis : ∀ (i j : Nat) (xs ys : OB), i ≠ j → ρ[i]? = some (.ow xs) → ρ[j]? = some (.ow ys) → σ[i]? ≠ σ[j]?
  tm : ∃ T, Tm K H0 ρ σ G H T
section
variable {K : PySem.W.Frag} {G0 H0 G H G1 H1 : Hp} {ρ : En} {σ : L2.St}
theorem SlR.grow (g : Grow G H G1 H1) : ∀ {s : Sl} {o : Option V}, SlR K H0 G H s o → SlR K H0 G1 H1 s o
  | .no, _, _ => trivial
  | .sh d, _, ⟨v, e, r⟩ => ⟨v, e, Rep.mono g.g d v r⟩
  | .ow xs, _, ⟨l, vs, e, h0, h1, h2, r⟩ => ⟨l, vs, e, h0, g.f l h1 (by rw [h2]; simp), g.h l _ h2, RepO.mono g.g r⟩
  | .tmp _, _, _ => trivial
theorem Tm.grow {T : Hp} (t : Tm K H0 ρ σ G H T) (g : Grow G H G1 H1) : Tm K H0 ρ σ G1 H1 T :=
  ⟨fun b x e => let ⟨a1, a2, a3⟩ := t.at_ b x e; ⟨g.f b a1 (by rw [a3]; simp), a2, g.h b x a3⟩, t.rep, t.dis⟩
theorem R.grow (r : R K G0 H0 ρ σ G H) (g : Grow G H G1 H1) : R K G0 H0 ρ σ G1 H1 :=
  ⟨r.gr.trans g, r.len, fun i s e => let ⟨o, e1, e2⟩ := r.slot i s e; ⟨o, e1, e2.grow g⟩, r.dis, r.tm.imp fun _ t => t.grow g⟩
theorem R.sub (r : R K G0 H0 ρ σ G H) : Same G H := r.gr.s
theorem R.sh (r : R K G0 H0 ρ σ G H) {i : Nat} {d : D} (h : ρ[i]? = some (.sh d)) : ∃ v, σ[i]? = some (some v) ∧ Rep K G v d := by
  obtain ⟨o, e1, v, e2, e3⟩ := r.slot i _ h
  exact ⟨v, by rw [e1, e2], e3⟩
theorem R.ow (r : R K G0 H0 ρ σ G H) {i : Nat} {xs : OB} (h : ρ[i]? = some (.ow xs)) : ∃ l ho, σ[i]? = some (some (.ref l)) ∧ H0 l = none ∧ G l = none ∧ H l = some ho ∧ RepO K G ho xs := by
  obtain ⟨o, e1, l, vs, e2, e3⟩ := r.slot i _ h
  exact ⟨l, vs, by rw [e1, e2], e3⟩
theorem R.owL (r : R K G0 H0 ρ σ G H) {i : Nat} {xs : List D} (h : ρ[i]? = some (.ow (.lst xs))) : ∃ l vs, σ[i]? = some (some (.ref l)) ∧ H0 l = none ∧ G l = none ∧ H l = some (.lst vs) ∧ Reps K G vs xs := by
  obtain ⟨l, ho, e1, e2, e3, e4, e5⟩ := r.ow h
  cases e5 with
  | lst q => exact ⟨l, _, e1, e2, e3, e4, q⟩
theorem R.owK (r : R K G0 H0 ρ σ G H) {i : Nat} {xs : List (Key × D)} (h : ρ[i]? = some (.ow (.dk xs))) : ∃ l vs, σ[i]? = some (some (.ref l)) ∧ H0 l = none ∧ G l = none ∧ H l = some (.dK vs) ∧ KReps K G vs xs := by
  obtain ⟨l, ho, e1, e2, e3, e4, e5⟩ := r.ow h
  cases e5 with
  | dk q => exact ⟨l, _, e1, e2, e3, e4, q⟩
theorem get_set {α : Type} {xs : List α} {i j : Nat} {x y : α} (h : (xs.set i x)[j]? = some y) : (j = i ∧ y = x ∧ i < xs.length) ∨ (j ≠ i ∧ xs[j]? = some y) := by
  by_cases e : j = i
  · subst e
    by_cases l : j < xs.length
    · rw [List.getElem?_set_self l] at h; cases h; exact .inl ⟨rfl, rfl, l⟩
    · rw [List.getElem?_eq_none (by simpa using l)] at h; cases h
  · rw [List.getElem?_set_ne (Ne.symm e)] at h; exact .inr ⟨e, h⟩
/-- another slot is set, not to a region's data -/
theorem Tm.set {T : Hp} (t : Tm K H0 ρ σ G H T) (i : Nat) {s : Sl} {o : Option V} (hs : ∀ d, s ≠ .tmp d) (ho : ∀ ob l, s = .ow ob → o = some (.ref l) → T l = none) (hl : ρ.length = σ.length) : Tm K H0 (ρ.set i s) (σ.set i o) G H T := by
  refine ⟨t.at_, fun j d e => ?_, fun j ob l e e2 => ?_⟩
  · rcases get_set e with ⟨_, z, _⟩ | ⟨n, e⟩
    · exact absurd z.symm (hs d)
    · rw [List.getElem?_set_ne (Ne.symm n)]; exact t.rep j d e
  · rcases get_set e with ⟨rfl, z, l1⟩ | ⟨n, e⟩
    · rw [List.getElem?_set_self (by rw [← hl]; exact l1)] at e2
      exact ho ob l z.symm (Option.some.inj e2)
    · rw [List.getElem?_set_ne (Ne.symm n)] at e2; exact t.dis j ob l e e2
/-- a slot is set to shared data -/
theorem R.setSh (r : R K G0 H0 ρ σ G H) (i : Nat) {v : V} {d : D} (q : Rep K G v d) : R K G0 H0 (ρ.set i (.sh d)) (σ.set i (some v)) G H := by
  refine ⟨r.gr, by simp [r.len], fun j s e => ?_, fun j k xs ys hn e1 e2 => ?_, r.tm.imp fun _ t => t.set i (fun _ z => by cases z) (fun _ _ z => by cases z) r.len⟩
  · rcases get_set e with ⟨rfl, rfl, l⟩ | ⟨ne, e⟩
    · refine ⟨some v, List.getElem?_set_self (by rw [← r.len]; exact l), v, rfl, q⟩
    · rw [List.getElem?_set_ne (Ne.symm ne)]; exact r.slot j s e
  · rcases get_set e1 with ⟨_, z, _⟩ | ⟨n1, e1⟩
    · cases z
    · rcases get_set e2 with ⟨_, z, _⟩ | ⟨n2, e2⟩
      · cases z
      · rw [List.getElem?_set_ne (Ne.symm n1), List.getElem?_set_ne (Ne.symm n2)]; exact r.dis j k xs ys hn e1 e2
/-- a slot is set to a new object of its own -/
theorem R.setNew (r : R K G0 H0 ρ σ G H) (i : Nat) {l : Addr} {vs : HO} {xs : OB} (g : Grow G H G1 H1) (hn : H l = none) (hg : G1 l = none) (hh : H1 l = some vs) (q : RepO K G1 vs xs) :
    R K G0 H0 (ρ.set i (.ow xs)) (σ.set i (some (.ref l))) G1 H1 := by
  have r1 := r.grow g
  refine ⟨r1.gr, by simp [r1.len], fun j s e => ?_, fun j k ys zs hne e1 e2 => ?_, ?_⟩
  · rcases get_set e with ⟨rfl, rfl, l'⟩ | ⟨ne, e⟩
    · exact ⟨some (.ref l), List.getElem?_set_self (by rw [← r1.len]; exact l'), l, vs, rfl, r.gr.h.free hn, hg, hh, q⟩
    · rw [List.getElem?_set_ne (Ne.symm ne)]; exact r1.slot j s e
  · have nw : ∀ (j : Nat) (ys : OB), ρ[j]? = some (.ow ys) → σ[j]? ≠ some (some (.ref l)) := fun j ys e z => by
      obtain ⟨l', vs', e1, _, _, e2, _⟩ := r.ow e
      rw [e1] at z; cases z; rw [e2] at hn; cases hn
    rcases get_set e1 with ⟨rfl, _, l1⟩ | ⟨n1, f1⟩
    · rcases get_set e2 with ⟨z, _, _⟩ | ⟨n2, f2⟩
      · exact absurd z.symm hne
      · rw [List.getElem?_set_self (by rw [← r1.len]; exact l1), List.getElem?_set_ne (Ne.symm n2)]
        exact fun z => nw k zs f2 z.symm
    · rcases get_set e2 with ⟨rfl, _, l1⟩ | ⟨n2, f2⟩
      · rw [List.getElem?_set_self (by rw [← r1.len]; exact l1), List.getElem?_set_ne (Ne.symm n1)]
        exact nw j ys f1
      · rw [List.getElem?_set_ne (Ne.symm n1), List.getElem?_set_ne (Ne.symm n2)]; exact r1.dis j k ys zs hne f1 f2
  · obtain ⟨T, t⟩ := r.tm
    refine ⟨T, (t.grow g).set i (fun _ z => by cases z) (fun _ _ _ z => ?_) r1.len⟩
    cases z
    cases e : T l with
    | none => rfl
    | some x => have := (t.at_ l x e).2.2; rw [hn] at this; cases this
theorem R.setNo (r : R K G0 H0 ρ σ G H) (i : Nat) (o : Option V) : R K G0 H0 (ρ.set i .no) (σ.set i o) G H := by
  refine ⟨r.gr, by simp [r.len], fun j s e => ?_, fun j k ys zs hn e1 e2 => ?_, r.tm.imp fun _ t => t.set i (fun _ z => by cases z) (fun _ _ z => by cases z) r.len⟩
  · rcases get_set e with ⟨rfl, rfl, l'⟩ | ⟨ne, e⟩
    · exact ⟨o, List.getElem?_set_self (by rw [← r.len]; exact l'), trivial⟩
    · rw [List.getElem?_set_ne (Ne.symm ne)]; exact r.slot j s e
  · rcases get_set e1 with ⟨_, z, _⟩ | ⟨n1, e1⟩
    · cases z
    · rcases get_set e2 with ⟨_, z, _⟩ | ⟨n2, e2⟩
      · cases z
      · rw [List.getElem?_set_ne (Ne.symm n1), List.getElem?_set_ne (Ne.symm n2)]; exact r.dis j k ys zs hn e1 e2
/-- an owned list becomes shared -/
def frz (i : Nat) (ρ : En) : En := match ρ[i]? with | some (.ow (.lst xs)) => ρ.set i (.sh (.lst xs)) | _ => ρ
theorem R.frz (r : R K G0 H0 ρ σ G H) {i : Nat} {xs : List D} (h : ρ[i]? = some (.ow (.lst xs))) :
    ∃ l vs, σ[i]? = some (some (.ref l)) ∧ G l = none ∧ H l = some (.lst vs) ∧ Reps K G vs xs ∧ Same G (upd G l (.lst vs)) ∧ R K G0 H0 (ρ.set i (.sh (.lst xs))) σ (upd G l (.lst vs)) H := by
  obtain ⟨l, vs, e1, h0, hg, hh, q⟩ := r.owL h
  have sg : Same G (upd G l (.lst vs)) := same_new hg
  have gr : Grow G0 H0 (upd G l (.lst vs)) H := r.gr.share h0 hg hh
  refine ⟨l, vs, e1, hg, hh, q, sg, gr, by simp [r.len], fun j s e => ?_, fun j k ys zs hn e1' e2 => ?_, ?_⟩
  · rcases get_set e with ⟨rfl, rfl, l'⟩ | ⟨ne, e⟩
    · exact ⟨_, e1, _, rfl, .lst upd_same (Reps.mono sg _ _ q)⟩
    · obtain ⟨o, e2, q2⟩ := r.slot j s e
      refine ⟨o, e2, ?_⟩
      cases s with
      | no => trivial
      | tmp d => trivial
      | sh d => obtain ⟨v, a, b⟩ := q2; exact ⟨v, a, Rep.mono sg _ _ b⟩
      | ow ys =>
        obtain ⟨l2, vs2, a, b, c, d, f⟩ := q2
        refine ⟨l2, vs2, a, b, ?_, d, RepO.mono sg f⟩
        have : l2 ≠ l := fun z => r.dis j i ys (.lst xs) ne e h (by rw [e2, e1, a, z])
        rw [upd_ne this]; exact c
  · rcases get_set e1' with ⟨_, z, _⟩ | ⟨n1, e1'⟩
    · cases z
    · rcases get_set e2 with ⟨_, z, _⟩ | ⟨n2, e2⟩
      · cases z
      · exact r.dis j k ys zs hn e1' e2
  · obtain ⟨T, t⟩ := r.tm
    refine ⟨T, fun b x e => ?_, fun j d e => ?_, fun j ob l2 e e2 => ?_⟩
    · obtain ⟨a1, a2, a3⟩ := t.at_ b x e
      have : b ≠ l := fun z => by rw [z, t.dis i _ l h e1] at e; cases e
      exact ⟨by rw [upd_ne this]; exact a1, a2, a3⟩
    · rcases get_set e with ⟨_, z, _⟩ | ⟨n, e⟩
      · cases z
      · exact t.rep j d e
    · rcases get_set e with ⟨_, z, _⟩ | ⟨n, e⟩
      · cases z
      · exact t.dis j ob l2 e e2
/-- an owned list is written -/
theorem R.write (r : R K G0 H0 ρ σ G H) {i : Nat} {xs ys : OB} {l : Addr} {us : HO} (h : ρ[i]? = some (.ow xs)) (hl : σ[i]? = some (some (.ref l))) (q : RepO K G us ys) :
    R K G0 H0 (ρ.set i (.ow ys)) σ G (upd H l us) := by
  obtain ⟨l', vs, e1, h0, hg, hh, _⟩ := r.ow h
  rw [hl] at e1; cases e1
  have gr : Grow G0 H0 G (upd H l us) := ⟨r.gr.g, fun b o e => by
    have : b ≠ l := ne_of_none e h0
    rw [upd_ne this]; exact r.gr.h b o e, fun b o e => by
    have : b ≠ l := ne_of_none e hg
    rw [upd_ne this]; exact r.gr.s b o e, r.gr.f⟩
  refine ⟨gr, by simp [r.len], fun j s e => ?_, fun j k as bs hn e1 e2 => ?_, ?_⟩
  · rcases get_set e with ⟨rfl, rfl, _⟩ | ⟨ne, e⟩
    · exact ⟨_, hl, l, us, rfl, h0, hg, upd_same, q⟩
    · obtain ⟨o, e2, q2⟩ := r.slot j s e
      refine ⟨o, e2, ?_⟩
      cases s with
      | no => trivial
      | tmp d => trivial
      | sh d => exact q2
      | ow zs =>
        obtain ⟨l2, vs2, a, b, c, d, f⟩ := q2
        have : l2 ≠ l := fun z => r.dis j i zs xs ne e h (by rw [e2, hl, a, z])
        exact ⟨l2, vs2, a, b, c, by rw [upd_ne this]; exact d, f⟩
  · have w1 : ∀ {j : Nat} {as : OB}, (ρ.set i (.ow ys))[j]? = some (.ow as) → ∃ as', ρ[j]? = some (.ow as') := fun {j as} e => by
      rcases get_set e with ⟨rfl, _, _⟩ | ⟨_, e⟩
      · exact ⟨xs, h⟩
      · exact ⟨as, e⟩
    obtain ⟨a1, z1⟩ := w1 e1
    obtain ⟨a2, z2⟩ := w1 e2
    exact r.dis j k a1 a2 hn z1 z2
  · obtain ⟨T, t⟩ := r.tm
    have tl := t.dis i _ l h hl
    refine ⟨T, fun b x e => ?_, fun j d e => ?_, fun j ob l2 e e2 => ?_⟩
    · obtain ⟨a1, a2, a3⟩ := t.at_ b x e
      have : b ≠ l := fun z => by rw [z, tl] at e; cases e
      exact ⟨a1, a2, by rw [upd_ne this]; exact a3⟩
    · rcases get_set e with ⟨_, z, _⟩ | ⟨n, e⟩
      · cases z
      · exact t.rep j d e
    · rcases get_set e with ⟨rfl, _, _⟩ | ⟨n, e⟩
      · rw [hl] at e2; cases e2; exact tl
      · exact t.dis j ob l2 e e2
end
end PL

set_option maxRecDepth 100000
set_option maxHeartbeats 1000000
namespace PL
open PySem PySem.Spec PyProof.Rows L2

end PL
namespace L2
open PySem PySem.Spec PyProof.Rows
/-! ## weaker readings -/
section
variable {X : Cx}
theorem PE.imp {e : Expr} {t t' : TE} (h : PE X e t) (k : ∀ σ H Q, t' σ H Q → t σ H Q) : PE X e t' := ⟨fun pins s σ H Q I w => h.run pins s σ H Q I (k σ H Q w)⟩
theorem PT.imp {e : Expr} {t t' : TT} (h : PT X e t) (k : ∀ σ H Q, t' σ H Q → t σ H Q) : PT X e t' := ⟨fun pins s σ H Q I w => h.run pins s σ H Q I (k σ H Q w)⟩
theorem PW.imp {e : Expr} {t t' : TT} (h : PW X e t) (k : ∀ σ H Q, t' σ H Q → t σ H Q) : PW X e t' := ⟨fun wh pins s σ H Q I w => h.run wh pins s σ H Q I (k σ H Q w)⟩
theorem PA.imp {es : List Expr} {t t' : TA} (h : PA X es t) (k : ∀ σ H Q, t' σ H Q → t σ H Q) : PA X es t' := ⟨fun pos pins s σ H Q I w => h.run pos pins s σ H Q I (k σ H Q w)⟩
theorem PS.imp {st : Stmt} {t t' : TS} (h : PS X st t) (k : ∀ D σ H, t' D σ H → t D σ H) : PS X st t' := ⟨fun pins s σ H D I w => h.run pins s σ H D I (k D σ H w)⟩
theorem PSs.imp {st : List Stmt} {t t' : TS} (h : PSs X st t) (k : ∀ D σ H, t' D σ H → t D σ H) : PSs X st t' := ⟨fun pins s σ H D I w => h.run pins s σ H D I (k D σ H w)⟩
end

end L2
namespace PL
open PySem PySem.Spec PyProof.Rows L2
/-! ## the readings of pure meanings -/
structure Amb where
  W : WX
  G0 : Hp
  H0 : Hp
def clOf (mg : Str → Option Value) (n : Str) : Value := (mg n).getD .none
def XR (K : PySem.W.Frag) (G H : Hp) (d : Addr) (e : Exc) : Prop := ∃ vs, H d = some (.xd ((e.flds.map (·.1)).zip vs)) ∧ Reps K G vs (e.flds.map (·.2))
section
variable (K : PySem.W.Frag) (mg : Str → Option Value) (a : Amb)
def Wn (σ : L2.St) (G H : Hp) (e : Exc) : Prop := ∀ d G' H', Grow G H G' H' → XR K G' H' d e → a.W (clOf mg e.cls) (some d) σ H'
def PostE {α : Type} (σ : L2.St) (G H : Hp) (r : Res α) (k : α → Prop) : Prop := match r with
  | .ok x => k x
  | .exc e => Wn K mg a σ G H e
  | .stuck => False
def RR (ρ : En) (σ : L2.St) (G H : Hp) : Prop := R K a.G0 a.H0 ρ σ G H
/-- an expression that gives shared data -/
def tD (f : En → Res D) : TE := fun σ H Q => ∃ ρ G, RR K a ρ σ G H ∧ PostE K mg a σ G H (f ρ) fun d => ∀ v G' H', Grow G H G' H' → Rep K G' v d → Q v H'
/-- .. a new list -/
def tO (f : En → Res (List D)) : TE := fun σ H Q => ∃ ρ G, RR K a ρ σ G H ∧ PostE K mg a σ G H (f ρ) fun ds => ∀ l vs G' H', Grow G H G' H' → H l = none → G' l = none → H' l = some (.lst vs) → Reps K G' vs ds → Q (.ref l) H'
def tT (f : En → Res Bool) : TT := fun σ H Q => ∃ ρ G, RR K a ρ σ G H ∧ PostE K mg a σ G H (f ρ) fun b => ∀ G' H', Grow G H G' H' → Q b H'
def tA (f : En → Res (List D)) : TA := fun σ H Q => ∃ ρ G, RR K a ρ σ G H ∧ PostE K mg a σ G H (f ρ) fun ds => ∀ vs G' H', Grow G H G' H' → Reps K G' vs ds → Q vs H'
def Post (Dn : Ends) (G : Hp) (o : Out) : Prop := match o with
  | .next ρ => ∀ σ' G' H', RR K a ρ σ' G' H' → Same G G' → Dn.nx σ' H'
  | .brk ρ => ∀ σ' G' H', RR K a ρ σ' G' H' → Same G G' → Dn.bk σ' H'
  | .cont ρ => ∀ σ' G' H', RR K a ρ σ' G' H' → Same G G' → Dn.ct σ' H'
  | .ret (.sh d) => ∀ v G' H', Grow a.G0 a.H0 G' H' → Same G G' → Rep K G' v d → Dn.rt v H'
  | .ret (.ow xs) => ∀ l vs G' H', Grow a.G0 a.H0 G' H' → Same G G' → a.H0 l = none → G' l = none → H' l = some (.lst vs) → Reps K G' vs xs → Dn.rt (.ref l) H'
  | .exc e ρ => ∀ d σ' G' H', RR K a ρ σ' G' H' → Same G G' → XR K G' H' d e → a.W (clOf mg e.cls) (some d) σ' H'
  | .stuck => False
def tS (f : En → Out) : TS := fun Dn σ H => ∃ ρ G, RR K a ρ σ G H ∧ Post K mg a Dn G (f ρ)
end
section
variable {K : PySem.W.Frag} {mg : Str → Option Value} {a : Amb} {α β : Type} {σ : L2.St} {G H G1 H1 : Hp} {ρ : En}
theorem Wn.grow {e : Exc} (g : Grow G H G1 H1) (w : Wn K mg a σ G H e) : Wn K mg a σ G1 H1 e := fun d G' H' g' x => w d G' H' (g.trans g') x
theorem PostE.bind {r : Res α} {f : α → Res β} {k : β → Prop} (h : PostE K mg a σ G H (r.bind f) k) : PostE K mg a σ G H r fun x => PostE K mg a σ G H (f x) k := by
  cases r <;> exact h
theorem PostE.imp {r : Res α} {k k' : α → Prop} (h : PostE K mg a σ G H r k) (q : ∀ x, r = .ok x → k x → k' x) : PostE K mg a σ G H r k' := by
  cases r with
  | ok x => exact q x rfl h
  | exc e => exact h
  | stuck => exact h
theorem PostE.grow {r : Res α} {k : α → Prop} (h : PostE K mg a σ G H r k) (g : Grow G H G1 H1) : PostE K mg a σ G1 H1 r k := by
  cases r with
  | ok x => exact h
  | exc e => exact Wn.grow g h
  | stuck => exact h
theorem PostE.okOf {r : Res α} {k : α → Prop} {x : α} (h : PostE K mg a σ G H r k) (e : r = .ok x) : k x := by
  rw [e] at h; exact h
theorem Post.mono {Dn : Ends} {o : Out} (s : Same G G1) (h : Post K mg a Dn G o) : Post K mg a Dn G1 o := by
  cases o with
  | next ρ => exact fun σ' G' H' r s' => h σ' G' H' r (s.trans s')
  | brk ρ => exact fun σ' G' H' r s' => h σ' G' H' r (s.trans s')
  | cont ρ => exact fun σ' G' H' r s' => h σ' G' H' r (s.trans s')
  | ret r => cases r with
    | sh d => exact fun v G' H' r s' => h v G' H' r (s.trans s')
    | ow xs => exact fun l vs G' H' r s' => h l vs G' H' r (s.trans s')
  | exc e ρ => exact fun d σ' G' H' r s' => h d σ' G' H' r (s.trans s')
  | stuck => exact h
end

/-! ## meanings: expressions -/
def eC (d : D) : En → Res D := fun _ => .ok d
def eVar (i : Nat) : En → Res D := fun ρ => match ρ[i]? with | some (.sh d) => .ok d | _ => .stuck
def bin (o : D → D → Res D) (f g : En → Res D) : En → Res D := fun ρ => (f ρ).bind fun x => (g ρ).bind fun y => o x y
def una (o : D → Res D) (f : En → Res D) : En → Res D := fun ρ => (f ρ).bind fun x => o x
def aNil : En → Res (List D) := fun _ => .ok []
def aCons (f : En → Res D) (g : En → Res (List D)) : En → Res (List D) := fun ρ => (f ρ).bind fun x => (g ρ).bind fun xs => .ok (x :: xs)
/-- a function of the argument list -/
def app (o : List D → Res D) (f : En → Res (List D)) : En → Res D := fun ρ => (f ρ).bind o
def appO (o : List D → Res (List D)) (f : En → Res (List D)) : En → Res (List D) := fun ρ => (f ρ).bind o
/-- a new list, shared at once -/
def own (f : En → Res (List D)) : En → Res D := fun ρ => (f ρ).bind fun xs => .ok (.lst xs)
def tru (f : En → Res Bool) : En → Res D := fun ρ => (f ρ).bind fun b => .ok (.bl b)
def ifE (c : En → Res Bool) (f g : En → Res D) : En → Res D := fun ρ => (c ρ).bind fun b => if b then f ρ else g ρ
def andB (f g : En → Res Bool) : En → Res Bool := fun ρ => (f ρ).bind fun b => if b then g ρ else .ok false
def orB (f g : En → Res Bool) : En → Res Bool := fun ρ => (f ρ).bind fun b => if b then .ok true else g ρ
def notB (f : En → Res Bool) : En → Res Bool := fun ρ => (f ρ).bind fun b => .ok (!b)
/-- under a condition -/
def gd {α : Type} (c : Prop) [Decidable c] (r : Res α) : Res α := if c then r else .stuck
theorem PostE.gd {K : PySem.W.Frag} {mg : Str → Option Value} {a : Amb} {α : Type} {σ : L2.St} {G H : Hp} {c : Prop} [Decidable c] {r : Res α} {k : α → Prop} (h : PostE K mg a σ G H (gd c r) k) : c ∧ PostE K mg a σ G H r k := by
  unfold PL.gd at h
  by_cases hc : c
  · rw [if_pos hc] at h; exact ⟨hc, h⟩
  · rw [if_neg hc] at h; exact h.elim
theorem gd_ok {α : Type} {c : Prop} [Decidable c] {r : Res α} {x : α} (h : gd c r = .ok x) : c ∧ r = .ok x := by
  unfold gd at h
  by_cases hc : c
  · rw [if_pos hc] at h; exact ⟨hc, h⟩
  · rw [if_neg hc] at h; cases h
theorem gd_exc {α : Type} {c : Prop} [Decidable c] {r : Res α} {e : Exc} (h : gd c r = .exc e) : c ∧ r = .exc e := by
  unfold gd at h
  by_cases hc : c
  · rw [if_pos hc] at h; exact ⟨hc, h⟩
  · rw [if_neg hc] at h; cases h
theorem gd_pos {α : Type} {c : Prop} [Decidable c] {r : Res α} (h : c) : gd c r = r := if_pos h
def bOf : D → Res Bool | .bl b => .ok b | _ => .stuck
def truD : D → Res Bool
  | .non => .ok false | .bl b => .ok b | .int i => .ok (i != 0)
  | .str s => gd (s.length ≤ sizeLine) (.ok ((s.length : Int) != 0))
  | .tup xs => .ok (!xs.isEmpty) | .lst xs => .ok (!xs.isEmpty) | .scr ns => .ok (!ns.isEmpty)
/-- a value as a test -/
def tst (o : D → Res Bool) (f : En → Res D) : En → Res Bool := fun ρ => (f ρ).bind o
/-- and, or, not as values: all but the last a bool -/
def andV (f g : En → Res D) : En → Res D := fun ρ => (f ρ).bind fun x => (bOf x).bind fun b => if b then g ρ else .ok (.bl false)
def orV (f g : En → Res D) : En → Res D := fun ρ => (f ρ).bind fun x => (bOf x).bind fun b => if b then .ok (.bl true) else g ρ
def notV (f : En → Res D) : En → Res D := fun ρ => (f ρ).bind fun x => (bOf x).bind fun b => .ok (.bl (!b))

/-! ## meanings: statements -/
def ofR {α : Type} (ρ : En) (r : Res α) (k : α → Out) : Out := match r with | .ok x => k x | .exc e => .exc e ρ | .stuck => .stuck
def sNext : En → Out := fun ρ => .next ρ
def sSeq (f g : En → Out) : En → Out := fun ρ => match f ρ with | .next ρ' => g ρ' | o => o
def sSet (i : Nat) (f : En → Res D) : En → Out := fun ρ => ofR ρ (f ρ) fun d => .next (ρ.set i (.sh d))
def sSetO (i : Nat) (f : En → Res (List D)) : En → Out := fun ρ => ofR ρ (f ρ) fun d => .next (ρ.set i (.ow (.lst d)))
def sDrop (f : En → Res D) : En → Out := fun ρ => ofR ρ (f ρ) fun _ => .next ρ
def sRet (f : En → Res D) : En → Out := fun ρ => ofR ρ (f ρ) fun d => .ret (.sh d)
def sRetO (f : En → Res (List D)) : En → Out := fun ρ => ofR ρ (f ρ) fun d => .ret (.ow d)
/-- return of an owned list at slot i -/
def sRetV (i : Nat) : En → Out := fun ρ => match ρ[i]? with | some (.ow (.lst xs)) => .ret (.ow xs) | _ => .stuck
def sRetN : En → Out := fun _ => .ret (.sh .non)
def sIf (c : En → Res Bool) (f g : En → Out) : En → Out := fun ρ => ofR ρ (c ρ) fun b => if b then f ρ else g ρ
def sBrk : En → Out := fun ρ => .brk ρ
def sCont : En → Out := fun ρ => .cont ρ
def sFrz (i : Nat) (f : En → Out) : En → Out := fun ρ => match ρ[i]? with | some (.ow (.lst xs)) => f (ρ.set i (.sh (.lst xs))) | _ => .stuck

/-! ## rules: expressions -/
section
variable {X : Cx} {a : Amb} {e b : Expr} {es : List Expr} {f g : En → Res D} {pos : Pos}

theorem pe_const {d : D} {v : V} (h : PE X e (tC v)) (r : ∀ G, Rep X.K G v d) : PE X e (tD X.K X.mg a (eC d)) :=
  h.imp fun σ H Q ⟨ρ, G, hR, q⟩ => q v G H (Grow.refl hR.sub) (r G)
theorem d_int {i : Int} {j : Nat} : PE X (.Constant (.int i) j pos) (tD X.K X.mg a (eC (.int i))) := pe_const pe_int fun _ => .int i
theorem d_bl {i : Bool} {j : Nat} : PE X (.Constant (.bool i) j pos) (tD X.K X.mg a (eC (.bl i))) := pe_const pe_bl fun _ => .bl i
theorem d_non {j : Nat} : PE X (.Constant .none j pos) (tD X.K X.mg a (eC .non)) := pe_const pe_non fun _ => .non
theorem d_str {x : Str} {j : Nat} : PE X (.Constant (.str x) j pos) (tD X.K X.mg a (eC (.str x))) := pe_const pe_str fun _ => .str x
/-- a module's constant -/
theorem d_glob {x : Str} {d : D} {v : V} {u : Value} (hm : X.mg x = some u) (r : RelV v u) (q : ∀ G, Rep X.K G v d) (hg : Gl X x := by rfl) (hd : (x == ("__debug__" : Str)) = false := by decide) : PE X (.Name x pos) (tD X.K X.mg a (eC d)) := pe_const (pe_glob hg hm r hd) q
theorem d_var (i : Nat) {x : Str} (hN : X.N[i]? = some x := by rfl) (hv : Vis X.env.scope x := by first | exact Or.inl rfl | exact Or.inr (Or.inl rfl) | exact Or.inr (Or.inr rfl)) (hd : (x == ("__debug__" : Str)) = false := by decide)
    (hcd : (x == ("__classdict__" : Str)) = false := by decide) : PE X (.Name x pos) (tD X.K X.mg a (eVar i)) :=
  (pe_var hN hv hd hcd).imp fun σ H Q ⟨ρ, G, hR, q⟩ => by
    unfold eVar at q
    cases h : ρ[i]? with
    | none => rw [h] at q; exact q.elim
    | some s => cases s with
      | no => rw [h] at q; exact q.elim
      | tmp _ => rw [h] at q; exact q.elim
      | ow xs => rw [h] at q; exact q.elim
      | sh d =>
        rw [h] at q
        obtain ⟨v, e1, r⟩ := hR.sh h
        exact ⟨v, e1, q v G H (Grow.refl hR.sub) r⟩

/-- an operator on data -/
def OpD (X : Cx) (op : Value → Value → Sem Value) (o : D → D → Res D) : Prop := ∃ r : R2, OpR X op r ∧
  ∀ (G H : Hp) (x y : V) (c d z : D) (Q : VK), Same G H → Rep X.K G x c → Rep X.K G y d → o c d = .ok z → (∀ v G' H', Grow G H G' H' → Rep X.K G' v z → Q v H') → r x y H Q
/-- .. it raises nothing -/
def NoX (o : D → D → Res D) : Prop := ∀ x y e, o x y ≠ .exc e
theorem bin_ok {o : D → D → Res D} {r : R2} (hx : NoX o)
    (hr : ∀ (G H : Hp) (x y : V) (c d z : D) (Q : VK), Same G H → Rep X.K G x c → Rep X.K G y d → o c d = .ok z → (∀ v G' H', Grow G H G' H' → Rep X.K G' v z → Q v H') → r x y H Q)
    (σ : L2.St) (H : Hp) (Q : VK) (h : tD X.K X.mg a (bin o f g) σ H Q) : tOp r (tD X.K X.mg a f) (tD X.K X.mg a g) σ H Q := by
  obtain ⟨ρ, G, hR, q⟩ := h
  refine ⟨ρ, G, hR, (PostE.bind q).imp fun x e1 q1 v1 G1 H1 g1 r1 => ?_⟩
  refine ⟨ρ, G1, hR.grow g1, ((PostE.bind q1).grow g1).imp fun y e2 q2 v2 G2 H2 g2 r2 => ?_⟩
  cases h3 : o x y with
  | stuck => rw [h3] at q2; exact q2.elim
  | exc e => exact absurd h3 (hx x y e)
  | ok z =>
    rw [h3] at q2
    exact hr G2 H2 v1 v2 x y z Q g2.s (Rep.mono g2.g _ _ r1) r2 h3 fun v G' H' g3 r3 => q2 v G' H' ((g1.trans g2).trans g3) r3
theorem d_bin {op : Operator} {o : D → D → Res D} (ho : OpD X (binaryOp op) o) (hx : NoX o) (hf : PE X e (tD X.K X.mg a f)) (hg : PE X b (tD X.K X.mg a g)) : PE X (.BinOp e op b pos) (tD X.K X.mg a (bin o f g)) := by
  obtain ⟨r, h1, h2⟩ := ho
  exact (pe_op h1 hf hg).imp (bin_ok hx h2)
theorem d_cmp {op : CmpOp} {o : D → D → Res D} (ho : OpD X (compareOp op) o) (hx : NoX o) (hf : PE X e (tD X.K X.mg a f)) (hg : PE X b (tD X.K X.mg a g)) (hm : behindInMarks op b = false) : PE X (.Compare e [op] [b] pos) (tD X.K X.mg a (bin o f g)) := by
  obtain ⟨r, h1, h2⟩ := ho
  exact (pe_cmpR h1 hf hg hm).imp (bin_ok hx h2)
/-- a comparison as a test -/
theorem t_cmp {op : CmpOp} {o : D → D → Res D} (ho : OpD X (compareOp op) o) (hx : NoX o) (hf : PE X e (tD X.K X.mg a f)) (hg : PE X b (tD X.K X.mg a g)) (hm : behindInMarks op b = false) : PT X (.Compare e [op] [b] pos) (tT X.K X.mg a (tst bOf (bin o f g))) := by
  obtain ⟨r, h1, h2⟩ := ho
  refine (pt_cmpR h1 hf hg hm).imp fun σ H Q ⟨ρ, G, hR, q⟩ => ?_
  refine bin_ok hx h2 σ H _ ⟨ρ, G, hR, (PostE.bind q).imp fun x e1 q1 v G' H' g1 r1 => ?_⟩
  cases r1 with
  | bl k => exact ⟨k, rfl, q1 G' H' g1⟩
  | _ => exact q1.elim
/-- the truth of a value as a test -/
theorem t_tru (hf : PE X e (tD X.K X.mg a f)) (he : ∀ whole, isTrue e X.env whole = (do let v ← whole; standAt e.pos; holding [v] (truthy v)) := by intro _; rfl) : PT X e (tT X.K X.mg a (tst truD f)) := by
  refine (pt_truth hf he).imp fun σ H Q ⟨ρ, G, hR, q⟩ => ?_
  refine ⟨ρ, G, hR, (PostE.bind q).imp fun x e1 q1 v G' H' g1 r1 => ?_⟩
  have sh := g1.s
  cases r1 with
  | non => exact ⟨false, rfl, q1 G' H' g1⟩
  | bl k => exact ⟨k, rfl, q1 G' H' g1⟩
  | int i => exact ⟨_, rfl, q1 G' H' g1⟩
  | str s =>
    obtain ⟨hz, q1⟩ := PostE.gd q1
    exact ⟨_, ⟨hz, rfl⟩, q1 G' H' g1⟩
  | @tup p vs ds h r =>
    refine ⟨!ds.isEmpty, .inr (.inl ⟨vs, same_tup sh h, ?_⟩), q1 G' H' g1⟩
    cases r <;> rfl
  | @lst p vs ds h r =>
    refine ⟨!ds.isEmpty, .inl ⟨vs, SqL.of (sh _ _ h), ?_⟩, q1 G' H' g1⟩
    cases r <;> rfl
  | @scr p ns h =>
    refine ⟨!ns.isEmpty, .inl ⟨_, sh.seq h, ?_⟩, q1 G' H' g1⟩
    cases ns <;> rfl
theorem t_not {t : En → Res Bool} (h : PT X e (tT X.K X.mg a t)) : PT X (.UnaryOp .Not e pos) (tT X.K X.mg a (notB t)) :=
  (pt_not h).imp fun σ H Q ⟨ρ, G, hR, q⟩ => ⟨ρ, G, hR, (PostE.bind q).imp fun x _ q1 => q1⟩
theorem t_and1 {t : En → Res Bool} (h : PT X e (tT X.K X.mg a t)) : PW X (.BoolOp .And [e] pos) (tT X.K X.mg a t) := pw_and1 h
theorem t_or1 {t : En → Res Bool} (h : PT X e (tT X.K X.mg a t)) : PW X (.BoolOp .Or [e] pos) (tT X.K X.mg a t) := pw_or1 h
theorem t_and {t u : En → Res Bool} (h : PT X e (tT X.K X.mg a t)) (h2 : PW X (.BoolOp .And (b :: es) pos) (tT X.K X.mg a u)) : PW X (.BoolOp .And (e :: b :: es) pos) (tT X.K X.mg a (andB t u)) :=
  (pw_and h h2).imp fun σ H Q ⟨ρ, G, hR, q⟩ => ⟨ρ, G, hR, (PostE.bind q).imp fun x e1 q1 G' H' g1 => by
    cases x with
    | true => exact ⟨ρ, G', hR.grow g1, (q1.grow g1).imp fun y _ q2 G2 H2 g2 => q2 G2 H2 (g1.trans g2)⟩
    | false => exact q1 G' H' g1⟩
theorem t_or {t u : En → Res Bool} (h : PT X e (tT X.K X.mg a t)) (h2 : PW X (.BoolOp .Or (b :: es) pos) (tT X.K X.mg a u)) : PW X (.BoolOp .Or (e :: b :: es) pos) (tT X.K X.mg a (orB t u)) :=
  (pw_or h h2).imp fun σ H Q ⟨ρ, G, hR, q⟩ => ⟨ρ, G, hR, (PostE.bind q).imp fun x e1 q1 G' H' g1 => by
    cases x with
    | true => exact q1 G' H' g1
    | false => exact ⟨ρ, G', hR.grow g1, (q1.grow g1).imp fun y _ q2 G2 H2 g2 => q2 G2 H2 (g1.trans g2)⟩⟩
theorem d_one {op : BoolOp} (h : PE X e (tD X.K X.mg a f)) : PE X (.BoolOp op [e] pos) (tD X.K X.mg a f) := pe_one h
theorem d_and (h : PE X e (tD X.K X.mg a f)) (h2 : PE X (.BoolOp .And (b :: es) pos) (tD X.K X.mg a g)) : PE X (.BoolOp .And (e :: b :: es) pos) (tD X.K X.mg a (andV f g)) :=
  (pe_and h h2).imp fun σ H Q ⟨ρ, G, hR, q⟩ => ⟨ρ, G, hR, (PostE.bind q).imp fun x e1 q1 v G' H' g1 r1 => by
    cases r1 with
    | bl k => cases k with
      | true => exact ⟨true, rfl, ρ, G', hR.grow g1, (q1.grow g1).imp fun y _ q2 w G2 H2 g2 => q2 w G2 H2 (g1.trans g2)⟩
      | false => exact ⟨false, rfl, q1 _ G' H' g1 (.bl false)⟩
    | _ => exact q1.elim⟩
theorem d_or (h : PE X e (tD X.K X.mg a f)) (h2 : PE X (.BoolOp .Or (b :: es) pos) (tD X.K X.mg a g)) : PE X (.BoolOp .Or (e :: b :: es) pos) (tD X.K X.mg a (orV f g)) :=
  (pe_or h h2).imp fun σ H Q ⟨ρ, G, hR, q⟩ => ⟨ρ, G, hR, (PostE.bind q).imp fun x e1 q1 v G' H' g1 r1 => by
    cases r1 with
    | bl k => cases k with
      | false => exact ⟨false, rfl, ρ, G', hR.grow g1, (q1.grow g1).imp fun y _ q2 w G2 H2 g2 => q2 w G2 H2 (g1.trans g2)⟩
      | true => exact ⟨true, rfl, q1 _ G' H' g1 (.bl true)⟩
    | _ => exact q1.elim⟩
theorem d_not (h : PE X e (tD X.K X.mg a f)) : PE X (.UnaryOp .Not e pos) (tD X.K X.mg a (notV f)) :=
  (pe_not h).imp fun σ H Q ⟨ρ, G, hR, q⟩ => ⟨ρ, G, hR, (PostE.bind q).imp fun x e1 q1 v G' H' g1 r1 => by
    cases r1 with
    | bl k => exact ⟨k, rfl, q1 _ G' H' g1 (.bl _)⟩
    | _ => exact q1.elim⟩
theorem d_ifE {c : Expr} {t : En → Res Bool} (hc : PT X c (tT X.K X.mg a t)) (h : PE X e (tD X.K X.mg a f)) (h2 : PE X b (tD X.K X.mg a g)) : PE X (.IfExp c e b pos) (tD X.K X.mg a (ifE t f g)) :=
  (pe_ifExp hc h h2).imp fun σ H Q ⟨ρ, G, hR, q⟩ => ⟨ρ, G, hR, (PostE.bind q).imp fun x e1 q1 G' H' g1 => by
    cases x with
    | true => exact ⟨ρ, G', hR.grow g1, (q1.grow g1).imp fun y _ q2 w G2 H2 g2 => q2 w G2 H2 (g1.trans g2)⟩
    | false => exact ⟨ρ, G', hR.grow g1, (q1.grow g1).imp fun y _ q2 w G2 H2 g2 => q2 w G2 H2 (g1.trans g2)⟩⟩
/-- a new list, shared at once -/
theorem d_own {fo : En → Res (List D)} (h : PE X e (tO X.K X.mg a fo)) : PE X e (tD X.K X.mg a (own fo)) :=
  h.imp fun σ H Q ⟨ρ, G, hR, q⟩ => ⟨ρ, G, hR, (PostE.bind q).imp fun x e1 q1 l vs G' H' g1 n1 n2 h1 r1 =>
    q1 _ _ _ (g1.share n1 n2 h1) (.lst upd_same (Reps.mono (same_new n2) _ _ r1))⟩
/-! argument lists, displays -/
theorem a_nil : PA X [] (tA X.K X.mg a aNil) := pa_nil.imp fun σ H Q ⟨ρ, G, hR, q⟩ => q [] G H (Grow.refl hR.sub) .nil
theorem a_cons {fs : En → Res (List D)} (h : PE X e (tD X.K X.mg a f)) (hs : PA X es (tA X.K X.mg a fs)) (hst : starEach (e :: es) X.env = (false, eval e X.env) :: starEach es X.env := by rfl) : PA X (e :: es) (tA X.K X.mg a (aCons f fs)) :=
  (pa_cons h hs hst).imp fun σ H Q ⟨ρ, G, hR, q⟩ => ⟨ρ, G, hR, (PostE.bind q).imp fun x e1 q1 v G' H' g1 r1 =>
    ⟨ρ, G', hR.grow g1, ((PostE.bind q1).grow g1).imp fun xs e2 q2 vs G2 H2 g2 r2 => q2 (v :: vs) G2 H2 (g1.trans g2) (.cons (Rep.mono g2.g _ _ r1) r2)⟩⟩
def tupD (xs : List D) : Res D := gd (xs.length ≤ sizeLine) (.ok (.tup xs))
def lstD (xs : List D) : Res (List D) := gd (xs.length ≤ sizeLine) (.ok xs)
theorem d_tup {fs : En → Res (List D)} {x1 : Nat} (hs : PA X es (tA X.K X.mg a fs)) : PE X (.Tuple es x1 pos) (tD X.K X.mg a (app tupD fs)) :=
  (pe_tup hs).imp fun σ H Q ⟨ρ, G, hR, q⟩ => ⟨ρ, G, hR, (PostE.bind q).imp fun xs e1 q1 vs G' H' g1 r1 => by
    obtain ⟨hz, q1⟩ := PostE.gd q1
    exact ⟨by rw [r1.len]; exact hz, fun p hp => q1 (.ref p) _ _ (g1.trans (Grow.new g1.s hp)) (.tup (SqT.of upd_same) (Reps.mono (same_new (g1.s.free hp)) _ _ r1))⟩⟩
theorem o_lst {fs : En → Res (List D)} (hs : PA X es (tA X.K X.mg a fs)) : PE X (.List es pos) (tO X.K X.mg a (appO lstD fs)) :=
  (pe_lst hs).imp fun σ H Q ⟨ρ, G, hR, q⟩ => ⟨ρ, G, hR, (PostE.bind q).imp fun xs e1 q1 vs G' H' g1 r1 => by
    obtain ⟨hz, q1⟩ := PostE.gd q1
    exact ⟨by rw [r1.len]; exact hz, fun p hp => q1 p vs G' (upd H' p (.lst vs)) (g1.trans (Grow.own g1.s hp)) (g1.h.free hp) (g1.s.free hp) upd_same r1⟩⟩
end

/-! ## rules: statements -/
section
variable {X : Cx} {a : Amb} {e b : Expr} {st : Stmt} {sts : List Stmt} {f : En → Res D} {F F2 : En → Out} {pos : Pos}
theorem ofR_post {α : Type} {σ : L2.St} {G H : Hp} {ρ : En} {r : Res α} {k : α → Out} {Dn : Ends} (hR : RR X.K a ρ σ G H) (h : Post X.K X.mg a Dn G (ofR ρ r k)) : PostE X.K X.mg a σ G H r fun x => Post X.K X.mg a Dn G (k x) := by
  cases r with
  | ok x => exact h
  | exc e => exact fun d G' H' g x => h d σ G' H' (R.grow hR g) g.g x
  | stuck => exact h
theorem s_nil : PSs X [] (tS X.K X.mg a sNext) := pss_nil.imp fun Dn σ H ⟨ρ, G, hR, q⟩ => q σ G H hR (Same.refl _)
theorem s_cons (h : PS X st (tS X.K X.mg a F)) (h2 : PSs X sts (tS X.K X.mg a F2)) : PSs X (st :: sts) (tS X.K X.mg a (sSeq F F2)) :=
  (pss_cons h h2).imp fun Dn σ H ⟨ρ, G, hR, q⟩ => by
    refine ⟨ρ, G, hR, ?_⟩
    unfold sSeq at q
    cases e1 : F ρ with
    | next ρ' => rw [e1] at q; exact fun σ' G' H' r' s' => ⟨ρ', G', r', Post.mono s' q⟩
    | brk ρ' => rw [e1] at q; exact q
    | cont ρ' => rw [e1] at q; exact q
    | ret r => rw [e1] at q; cases r <;> exact q
    | exc e ρ' => rw [e1] at q; exact q
    | stuck => rw [e1] at q; exact q
theorem s_one (h : PS X st (tS X.K X.mg a F)) : PSs X [st] (tS X.K X.mg a F) := pss_one h
/-- a list becomes shared, ahead of what follows -/
theorem s_frz (i : Nat) (h : PSs X sts (tS X.K X.mg a F)) : PSs X sts (tS X.K X.mg a (sFrz i F)) :=
  h.imp fun Dn σ H ⟨ρ, G, hR, q⟩ => by
    unfold sFrz at q
    cases e1 : ρ[i]? with
    | none => rw [e1] at q; exact q.elim
    | some s => cases s with
      | no => rw [e1] at q; exact q.elim
      | tmp _ => rw [e1] at q; exact q.elim
      | sh d => rw [e1] at q; exact q.elim
      | ow ob => cases ob with
        | dk kvs => rw [e1] at q; exact q.elim
        | lst xs =>
          rw [e1] at q
          obtain ⟨l, vs, _, _, _, _, sg, hR'⟩ := R.frz hR e1
          exact ⟨_, _, hR', Post.mono sg q⟩
theorem s_ret (h : PE X e (tD X.K X.mg a f)) : PS X (.Return (some e) pos) (tS X.K X.mg a (sRet f)) :=
  (ps_ret h).imp fun Dn σ H ⟨ρ, G, hR, q⟩ => ⟨ρ, G, hR, (ofR_post hR q).imp fun x _ q1 v G' H' g r => q1 v G' H' (hR.gr.trans g) g.g r⟩
theorem s_retO {fo : En → Res (List D)} (h : PE X e (tO X.K X.mg a fo)) : PS X (.Return (some e) pos) (tS X.K X.mg a (sRetO fo)) :=
  (ps_ret h).imp fun Dn σ H ⟨ρ, G, hR, q⟩ => ⟨ρ, G, hR, (ofR_post hR q).imp fun x _ q1 l vs G' H' g n1 n2 h1 r => q1 l vs G' H' (hR.gr.trans g) g.g (hR.gr.h.free n1) n2 h1 r⟩
theorem s_retV (i : Nat) {x : Str} {pos2 : Pos} (hN : X.N[i]? = some x := by rfl) (hv : Vis X.env.scope x := by first | exact Or.inl rfl | exact Or.inr (Or.inl rfl) | exact Or.inr (Or.inr rfl)) (hd : (x == ("__debug__" : Str)) = false := by decide)
    (hcd : (x == ("__classdict__" : Str)) = false := by decide) : PS X (.Return (some (.Name x pos)) pos2) (tS X.K X.mg a (sRetV i)) :=
  (ps_ret (pe_var hN hv hd hcd)).imp fun Dn σ H ⟨ρ, G, hR, q⟩ => by
    unfold sRetV at q
    cases e1 : ρ[i]? with
    | none => rw [e1] at q; exact q.elim
    | some s => cases s with
      | no => rw [e1] at q; exact q.elim
      | tmp _ => rw [e1] at q; exact q.elim
      | sh d => rw [e1] at q; exact q.elim
      | ow ob => cases ob with
        | dk kvs => rw [e1] at q; exact q.elim
        | lst xs =>
          rw [e1] at q
          obtain ⟨l, vs, e2, h0, hg, hh, r⟩ := R.owL hR e1
          exact ⟨_, e2, q l vs G H hR.gr (Same.refl _) h0 hg hh r⟩
theorem s_retN : PS X (.Return none pos) (tS X.K X.mg a sRetN) :=
  ps_retN.imp fun Dn σ H ⟨ρ, G, hR, q⟩ => q .non G H hR.gr (Same.refl _) .non
theorem s_set {i : Nat} {x : Str} {p : Pos} (hnd : X.N.Nodup) (h : PE X e (tD X.K X.mg a f)) (hN : X.N[i]? = some x := by rfl) (hx : Loc X.env.scope x := by first | exact Or.inl rfl | exact Or.inr rfl)
    (hfn : X.fn x = true ∨ X.env.scope.names.lookup x = some .local := by first | exact .inl rfl | exact .inr rfl) (hs : swapsWith e (some (.Name x p)) pos.line X.env = pure false := by rfl) :
    PS X (.Assign [.Name x p] e pos) (tS X.K X.mg a (sSet i f)) :=
  (ps_set hnd hN hx h hs hfn).imp fun Dn σ H ⟨ρ, G, hR, q⟩ => ⟨ρ, G, hR, (ofR_post hR q).imp fun d _ q1 v G' H' g r => q1 _ G' H' (R.setSh (R.grow hR g) i r) g.g⟩
theorem s_setO {i : Nat} {x : Str} {p : Pos} {fo : En → Res (List D)} (hnd : X.N.Nodup) (h : PE X e (tO X.K X.mg a fo)) (hN : X.N[i]? = some x := by rfl) (hx : Loc X.env.scope x := by first | exact Or.inl rfl | exact Or.inr rfl)
    (hfn : X.fn x = true ∨ X.env.scope.names.lookup x = some .local := by first | exact .inl rfl | exact .inr rfl) (hs : swapsWith e (some (.Name x p)) pos.line X.env = pure false := by rfl) :
    PS X (.Assign [.Name x p] e pos) (tS X.K X.mg a (sSetO i fo)) :=
  (ps_set hnd hN hx h hs hfn).imp fun Dn σ H ⟨ρ, G, hR, q⟩ => ⟨ρ, G, hR, (ofR_post hR q).imp fun d _ q1 l vs G' H' g n1 n2 h1 r => q1 _ G' H' (R.setNew hR i g n1 n2 h1 (.lst r)) g.g⟩
theorem s_drop (h : PE X e (tD X.K X.mg a f)) (hs : swapsWith e none pos.line X.env = pure false := by rfl) : PS X (.Expr e pos) (tS X.K X.mg a (sDrop f)) :=
  (ps_expr h hs).imp fun Dn σ H ⟨ρ, G, hR, q⟩ => ⟨ρ, G, hR, (ofR_post hR q).imp fun d _ q1 v G' H' g r => q1 _ G' H' (R.grow hR g) g.g⟩
theorem s_if {c : Expr} {t : En → Res Bool} {ss : List Stmt} (hc : PT X c (tT X.K X.mg a t)) (h : PSs X sts (tS X.K X.mg a F)) (h2 : PSs X ss (tS X.K X.mg a F2)) : PS X (.If c sts ss pos) (tS X.K X.mg a (sIf t F F2)) :=
  (ps_if hc h h2).imp fun Dn σ H ⟨ρ, G, hR, q⟩ => ⟨ρ, G, hR, (ofR_post hR q).imp fun b _ q1 G' H' g => by
    cases b with
    | true => exact ⟨ρ, G', R.grow hR g, Post.mono g.g q1⟩
    | false => exact ⟨ρ, G', R.grow hR g, Post.mono g.g q1⟩⟩
theorem s_brk : PS X (.Break pos) (tS X.K X.mg a sBrk) := ps_break.imp fun Dn σ H ⟨ρ, G, hR, q⟩ => q σ G H hR (Same.refl _)
theorem s_cont : PS X (.Continue pos) (tS X.K X.mg a sCont) := ps_continue.imp fun Dn σ H ⟨ρ, G, hR, q⟩ => q σ G H hR (Same.refl _)
theorem s_pass : PS X (.Pass pos) (tS X.K X.mg a sNext) := ps_pass.imp fun Dn σ H ⟨ρ, G, hR, q⟩ => q σ G H hR (Same.refl _)
end
end PL

set_option maxRecDepth 100000
set_option maxHeartbeats 1000000
namespace PL
open PySem PySem.Spec PyProof.Rows L2

/-! ## data as the library's -/
mutual
def toPy : D → PyData
  | .non => .none | .bl b => .bool b | .int i => .int i | .str s => .str s | .tup xs => .tuple (toPys xs) | .lst xs => .list (toPys xs) | .scr _ => .dict []
def toPys : List D → List PyData
  | [] => []
  | x :: xs => toPy x :: toPys xs
end
mutual
theorem Rep.dp {K : PySem.W.Frag} {G : Hp} : ∀ (d : D) (v : V), (toPy d).canLay0 = true → Rep K G v d → Dp K G v (toPy d)
  | .non, _, _, .non => .non
  | .bl b, _, _, .bl _ => .bl b
  | .int b, _, _, .int _ => .int b
  | .str b, _, _, .str _ => .str b
  | .tup ds, _, h, .tup e r => .tup e (Reps.dp ds _ (by simpa only [toPy, PyData.canLay0] using h) r)
  | .lst ds, _, h, .lst e r => .lst (SqL.of e) (Reps.dp ds _ (by simpa only [toPy, PyData.canLay0] using h) r)
  | .scr _, _, h, .scr _ => by simp only [toPy, PyData.canLay0] at h; cases h
theorem Reps.dp {K : PySem.W.Frag} {G : Hp} : ∀ (ds : List D) (vs : List V), PyData.canLayAll0 (toPys ds) = true → Reps K G vs ds → DpAll K G vs (toPys ds)
  | [], _, _, .nil => .nil
  | d :: ds, _, h, .cons e r => by
    have h' : ((toPy d).canLay0 && PyData.canLayAll0 (toPys ds)) = true := by simpa only [toPys, PyData.canLayAll0] using h
    obtain ⟨h1, h2⟩ := Bool.and_eq_true_iff.mp h'
    exact .cons (Rep.dp d _ h1 e) (Reps.dp ds _ h2 r)
end
mutual
theorem Dp.monoS {K : PySem.W.Frag} {G H : Hp} (s : Same G H) : ∀ (d : PyData) (v : V), Dp K G v d → Dp K H v d
  | _, _, .non => .non
  | _, _, .bl b => .bl b
  | _, _, .int b => .int b
  | _, _, .str b => .str b
  | .list ds, _, .lst e r => .lst (s.seq e) (DpAll.monoS s ds _ r)
  | .tuple ds, _, .tup e r => .tup (same_tup s e) (DpAll.monoS s ds _ r)
theorem DpAll.monoS {K : PySem.W.Frag} {G H : Hp} (s : Same G H) : ∀ (ds : List PyData) (vs : List V), DpAll K G vs ds → DpAll K H vs ds
  | _, _, .nil => .nil
  | d :: ds, _, .cons e r => .cons (Dp.monoS s d _ e) (DpAll.monoS s ds _ r)
end
def shp (d : D) : Bool := SeqAt.shaped (toPy d)
theorem shp_dp {K : PySem.W.Frag} {G H : Hp} (s : Same G H) {d : D} {v : V} (h : shp d = true) (r : Rep K G v d) : Dp K H v (toPy d) := Dp.monoS s _ _ (Rep.dp d v (SeqAt.canLay_of_shaped h) r)
theorem units64 {k : Nat} {A : Around} (r : Room k A) : A.units + 64 < cLine := r.units
theorem units65 {k : Nat} {A : Around} (r : Room k A) : A.units + 65 < cLine := by have := r.un; omega

/-! ## operators -/
def addD : D → D → Res D
  | .int a, .int b => .ok (.int (a + b))
  | .str a, .str b => gd (a.length + b.length ≤ sizeLine) (.ok (.str (a ++ b)))
  | .tup a, .tup b => gd (a.length + b.length ≤ sizeLine) (.ok (.tup (a ++ b)))
  | .lst a, .lst b => gd (a.length + b.length ≤ sizeLine) (.ok (.lst (a ++ b)))
  | _, _ => .stuck
def subD : D → D → Res D | .int a, .int b => .ok (.int (a - b)) | _, _ => .stuck
def mulD : D → D → Res D
  | .int a, .int b => gd (a.natAbs.log2 + b.natAbs.log2 < 1000000) (.ok (.int (a * b)))
  | .lst a, .int b => gd (-(2 ^ 63) ≤ b ∧ b < 2 ^ 63 ∧ a.length * b.toNat ≤ sizeLine) (.ok (.lst (List.replicate b.toNat a).flatten))
  | _, _ => .stuck
def modD : D → D → Res D | .int a, .int b => gd (0 < b) (.ok (.int (a % b))) | _, _ => .stuck
def fdivD : D → D → Res D | .int a, .int b => gd (0 < b ∧ b < 2 ^ 64) (.ok (.int (a / b))) | _, _ => .stuck
def powD : D → D → Res D | .int a, .int b => gd (0 ≤ b ∧ b ≤ 1000000 ∧ a.natAbs < 2 ^ 64) (.ok (.int (a ^ b.toNat))) | _, _ => .stuck
def ltD : D → D → Res D | .int a, .int b => .ok (.bl (decide (a < b))) | _, _ => .stuck
def leD : D → D → Res D | .int a, .int b => .ok (.bl (decide (a ≤ b))) | _, _ => .stuck
def gtD : D → D → Res D | .int a, .int b => .ok (.bl (decide (b < a))) | _, _ => .stuck
def geD : D → D → Res D | .int a, .int b => .ok (.bl (decide (b ≤ a))) | _, _ => .stuck
def eqv (a b : D) : Bool := PyData.eqv (toPy a) (toPy b)
def eqD (a b : D) : Res D := gd (shp a = true ∧ shp b = true) (.ok (.bl (eqv a b)))
def neD (a b : D) : Res D := gd (shp a = true ∧ shp b = true) (.ok (.bl (!eqv a b)))
/-- is, is not: with None, True, False -/
def isNonD : D → Bool | .non => true | _ => false
def isD : D → D → Res D
  | a, .non => .ok (.bl (isNonD a))
  | .bl a, .bl b => .ok (.bl (decide (a = b)))
  | _, _ => .stuck
def isNotD : D → D → Res D
  | a, .non => .ok (.bl (!isNonD a))
  | .bl a, .bl b => .ok (.bl (!decide (a = b)))
  | _, _ => .stuck
def sign1 (s : Str) : Option Nat := match s.cps.toList with | [c] => some c | _ => none
def flD : D → Bool | .non => true | .bl _ => true | .int _ => true | .str _ => true | _ => false
def inD : D → D → Res D
  | .str a, .str b => match sign1 a with | some c => .ok (.bl (decide (c ∈ b.cps.toList))) | none => .stuck
  | a, .lst xs => gd (shp a = true ∧ shp (.lst xs) = true) (.ok (.bl (xs.any fun x => eqv x a)))
  | a, .tup xs => gd (flD a = true ∧ xs.all flD = true) (.ok (.bl (xs.any fun x => eqv x a)))
  | _, _ => .stuck
def notInD : D → D → Res D
  | .str a, .str b => match sign1 a with | some c => .ok (.bl (!decide (c ∈ b.cps.toList))) | none => .stuck
  | a, .lst xs => gd (shp a = true ∧ shp (.lst xs) = true) (.ok (.bl (!xs.any fun x => eqv x a)))
  | a, .tup xs => gd (flD a = true ∧ xs.all flD = true) (.ok (.bl (!xs.any fun x => eqv x a)))
  | _, _ => .stuck

theorem nox_add : NoX addD := fun x y e h => by
  cases x <;> cases y <;> first | (cases h; done) | (have := (gd_exc h).2; cases this)
theorem nox_sub : NoX subD := fun x y e h => by cases x <;> cases y <;> cases h
theorem nox_mul : NoX mulD := fun x y e h => by
  cases x <;> cases y <;> first | (cases h; done) | (have := (gd_exc h).2; cases this)
theorem nox_mod : NoX modD := fun x y e h => by
  cases x <;> cases y <;> first | (cases h; done) | (have := (gd_exc h).2; cases this)
theorem nox_fdiv : NoX fdivD := fun x y e h => by
  cases x <;> cases y <;> first | (cases h; done) | (have := (gd_exc h).2; cases this)
theorem nox_pow : NoX powD := fun x y e h => by
  cases x <;> cases y <;> first | (cases h; done) | (have := (gd_exc h).2; cases this)
theorem nox_lt : NoX ltD := fun x y e h => by cases x <;> cases y <;> cases h
theorem nox_le : NoX leD := fun x y e h => by cases x <;> cases y <;> cases h
theorem nox_gt : NoX gtD := fun x y e h => by cases x <;> cases y <;> cases h
theorem nox_ge : NoX geD := fun x y e h => by cases x <;> cases y <;> cases h
theorem nox_eq : NoX eqD := fun x y e h => by have := (gd_exc h).2; cases this
theorem nox_ne : NoX neD := fun x y e h => by have := (gd_exc h).2; cases this
theorem nox_is : NoX isD := fun x y e h => by cases x <;> cases y <;> cases h
theorem nox_isNot : NoX isNotD := fun x y e h => by cases x <;> cases y <;> cases h
theorem nox_in : NoX inD := fun x y e h => by
  cases x <;> cases y <;> first
    | (cases h; done)
    | (have := (gd_exc h).2; cases this)
    | (simp only [inD] at h; split at h <;> cases h)
theorem nox_notIn : NoX notInD := fun x y e h => by
  cases x <;> cases y <;> first
    | (cases h; done)
    | (have := (gd_exc h).2; cases this)
    | (simp only [notInD] at h; split at h <;> cases h)

section
variable {X : Cx}
theorem opI_of {bop : Value → Value → Sem Value} {C : Int → Int → Prop} {g : Int → Int → D} {gv : Int → Int → V} {o : D → D → Res D} (h : OpR X bop (rI C gv)) (hg : ∀ i j G, Rep X.K G (gv i j) (g i j))
    (ho : ∀ x y z, o x y = .ok z → ∃ i j, x = .int i ∧ y = .int j ∧ C i j ∧ z = g i j) : OpD X bop o :=
  ⟨_, h, fun G H x y c d z Q s rx ry e k => by
    obtain ⟨i, j, rfl, rfl, hc, rfl⟩ := ho _ _ _ e
    cases rx; cases ry
    exact ⟨i, j, rfl, rfl, hc, k _ G H (Grow.refl s) (hg i j G)⟩⟩
theorem opI0_of {bop : Value → Value → Sem Value} {g : Int → Int → D} {gv : Int → Int → V} {o : D → D → Res D} (h : OpR X bop (rI0 gv)) (hg : ∀ i j G, Rep X.K G (gv i j) (g i j))
    (ho : ∀ x y z, o x y = .ok z → ∃ i j, x = .int i ∧ y = .int j ∧ z = g i j) : OpD X bop o :=
  ⟨_, h, fun G H x y c d z Q s rx ry e k => by
    obtain ⟨i, j, rfl, rfl, rfl⟩ := ho _ _ _ e
    cases rx; cases ry
    exact ⟨i, j, rfl, rfl, k _ G H (Grow.refl s) (hg i j G)⟩⟩
theorem od_sub : OpD X (binaryOp .Sub) subD := opI0_of (g := fun i j => .int (i - j)) op_sub (fun _ _ _ => .int _) fun x y z e => by
  cases x <;> cases y <;> first | (cases e; done) | (cases e; exact ⟨_, _, rfl, rfl, rfl⟩)
theorem od_mod : OpD X (binaryOp .Mod) modD := opI_of (g := fun i j => .int (i % j)) op_mod (fun _ _ _ => .int _) fun x y z e => by
  cases x <;> cases y <;> first | (cases e; done) | (obtain ⟨h, e⟩ := gd_ok e; cases e; exact ⟨_, _, rfl, rfl, h, rfl⟩)
theorem od_fdiv : OpD X (binaryOp .FloorDiv) fdivD := opI_of (g := fun i j => .int (i / j)) op_fdivW (fun _ _ _ => .int _) fun x y z e => by
  cases x <;> cases y <;> first | (cases e; done) | (obtain ⟨h, e⟩ := gd_ok e; cases e; exact ⟨_, _, rfl, rfl, wide_div h.1 (b := 64) (by omega) (by decide) (by decide), rfl⟩)
theorem od_pow : OpD X (binaryOp .Pow) powD := opI_of (g := fun i j => .int (i ^ j.toNat)) op_pow (fun _ _ _ => .int _) fun x y z e => by
  cases x <;> cases y <;> first | (cases e; done) | (obtain ⟨h, e⟩ := gd_ok e; cases e; exact ⟨_, _, rfl, rfl, h, rfl⟩)
theorem od_lt : OpD X (compareOp .Lt) ltD := opI0_of (g := fun i j => .bl (decide (i < j))) op_lt (fun _ _ _ => .bl _) fun x y z e => by
  cases x <;> cases y <;> first | (cases e; done) | (cases e; exact ⟨_, _, rfl, rfl, rfl⟩)
theorem od_le : OpD X (compareOp .LtE) leD := opI0_of (g := fun i j => .bl (decide (i ≤ j))) op_le (fun _ _ _ => .bl _) fun x y z e => by
  cases x <;> cases y <;> first | (cases e; done) | (cases e; exact ⟨_, _, rfl, rfl, rfl⟩)
theorem od_gt : OpD X (compareOp .Gt) gtD := opI0_of (g := fun i j => .bl (decide (j < i))) op_gt (fun _ _ _ => .bl _) fun x y z e => by
  cases x <;> cases y <;> first | (cases e; done) | (cases e; exact ⟨_, _, rfl, rfl, rfl⟩)
theorem od_ge : OpD X (compareOp .GtE) geD := opI0_of (g := fun i j => .bl (decide (j ≤ i))) op_ge (fun _ _ _ => .bl _) fun x y z e => by
  cases x <;> cases y <;> first | (cases e; done) | (cases e; exact ⟨_, _, rfl, rfl, rfl⟩)
theorem od_eq {k : Nat} (hr : Room k X.A) : OpD X (compareOp .Eq) eqD := ⟨_, op_eqD hr.units, fun G H x y c d z Q s rx ry e q => by
  obtain ⟨⟨h1, h2⟩, e⟩ := gd_ok e
  cases e
  exact ⟨_, _, shp_dp s h1 rx, shp_dp s h2 ry, h1, h2, q _ G H (Grow.refl s) (.bl _)⟩⟩
theorem od_ne {k : Nat} (hr : Room k X.A) : OpD X (compareOp .NotEq) neD := ⟨_, op_neD hr.units, fun G H x y c d z Q s rx ry e q => by
  obtain ⟨⟨h1, h2⟩, e⟩ := gd_ok e
  cases e
  exact ⟨_, _, shp_dp s h1 rx, shp_dp s h2 ry, h1, h2, q _ G H (Grow.refl s) (.bl _)⟩⟩
theorem rep_non {K : PySem.W.Frag} {G : Hp} {v : V} {d : D} (r : Rep K G v d) : decide (v = .non) = isNonD d := by
  cases r <;> simp [isNonD]
theorem od_is : OpD X (compareOp .Is) isD := ⟨_, (op_isN).or op_isBl, fun G H x y c d z Q s rx ry e q => by
  cases ry with
  | non =>
    refine .inl ⟨rfl, ?_⟩
    rw [rep_non rx]
    have e' : z = .bl (isNonD c) := by cases c <;> (cases e; rfl)
    subst e'
    exact q _ G H (Grow.refl s) (.bl _)
  | bl b =>
    cases rx with
    | bl a => cases e; exact .inr ⟨a, b, rfl, rfl, q _ G H (Grow.refl s) (.bl _)⟩
    | _ => cases e
  | _ => cases rx <;> cases e⟩
theorem od_isNot : OpD X (compareOp .IsNot) isNotD := ⟨_, (op_notN).or op_notBl, fun G H x y c d z Q s rx ry e q => by
  cases ry with
  | non =>
    refine .inl ⟨rfl, ?_⟩
    rw [rep_non rx]
    have e' : z = .bl (!isNonD c) := by cases c <;> (cases e; rfl)
    subst e'
    exact q _ G H (Grow.refl s) (.bl _)
  | bl b =>
    cases rx with
    | bl a => cases e; exact .inr ⟨a, b, rfl, rfl, q _ G H (Grow.refl s) (.bl _)⟩
    | _ => cases e
  | _ => cases rx <;> cases e⟩
theorem sign1_eq {s : Str} {c : Nat} (h : sign1 s = some c) : s = ⟨#[c]⟩ := by
  obtain ⟨cs⟩ := s
  unfold sign1 at h
  split at h
  · rename_i c' e
    cases h
    have : cs = #[c] := by
      apply Array.toList_inj.mp; simpa using e
    rw [this]
  · cases h
theorem fl_flat {K : PySem.W.Frag} {G : Hp} {v : V} {d : D} (h : flD d = true) (r : Rep K G v d) : flatV v = true := by
  cases r <;> first | rfl | cases h
theorem fl_eqv {K : PySem.W.Frag} {G : Hp} {v u : V} {d e : D} (h : flD d = true) (h2 : flD e = true) (r : Rep K G v d) (q : Rep K G u e) : eqV v u = eqv d e := by
  cases r <;> first | (cases h; done) | (cases q <;> first | (cases h2; done) | (simp only [eqV, eqv, toPy, PyData.eqv]))
theorem fl_in {K : PySem.W.Frag} {G : Hp} {u : V} {e : D} (h2 : flD e = true) (q : Rep K G u e) : ∀ {ds : List D} {vs : List V}, ds.all flD = true → Reps K G vs ds → vs.all flatV = true ∧ inV u vs = ds.any fun x => eqv x e
  | [], _, _, .nil => ⟨rfl, rfl⟩
  | d :: ds, _, h, .cons r t => by
    rw [List.all_cons, Bool.and_eq_true] at h
    obtain ⟨i1, i2⟩ := fl_in h2 q h.2 t
    refine ⟨by rw [List.all_cons, fl_flat h.1 r, i1] <;> rfl, ?_⟩
    unfold inV at i2 ⊢
    rw [List.any_cons, List.any_cons, fl_eqv h.1 h2 r q, i2]
theorem od_in {k : Nat} (hr : Room k X.A) : OpD X (compareOp .In) inD := ⟨_, ((op_in_sign).or (op_inD (units65 hr))).or op_in_seq, fun G H x y c d z Q s rx ry e q => by
  have lcase : ∀ xs, d = .lst xs → inD c d = gd (shp c = true ∧ shp (.lst xs) = true) (.ok (.bl (xs.any fun x => eqv x c))) → rInD X.K x y H Q := fun xs hd he => by
    subst hd
    rw [he] at e
    obtain ⟨⟨h1, h2⟩, e⟩ := gd_ok e
    cases e
    refine ⟨_, toPys xs, shp_dp s h1 rx, by have := shp_dp s h2 ry; simpa only [toPy] using this, h1, by simpa only [shp, toPy] using h2, ?_⟩
    have e2 : ((toPys xs).any fun z => PyData.eqv z (toPy c)) = xs.any fun x => eqv x c := by
      clear h2 q he e ry
      induction xs with
      | nil => rfl
      | cons a r ih => simp only [toPys, List.any_cons, ih, eqv]
    rw [e2]
    exact q _ G H (Grow.refl s) (.bl _)
  have tcase : ∀ xs, d = .tup xs → inD c d = gd (flD c = true ∧ xs.all flD = true) (.ok (.bl (xs.any fun x => eqv x c))) → rIn X.K false x y H Q := fun xs hd he => by
    subst hd
    rw [he] at e
    obtain ⟨⟨h1, h2⟩, e⟩ := gd_ok e
    cases e
    cases ry with
    | @tup p vs ds h r =>
      obtain ⟨i1, i2⟩ := fl_in h1 rx h2 r
      refine ⟨p, vs, rfl, .inr (same_tup s h), fl_flat h1 rx, i1, ?_⟩
      rw [i2]
      exact q _ G H (Grow.refl s) (.bl _)
  cases d with
  | lst xs => exact .inl (.inr (lcase xs rfl (by cases c <;> rfl)))
  | tup xs => exact .inr (tcase xs rfl (by cases c <;> rfl))
  | str b =>
    cases c with
    | str a =>
      simp only [inD] at e
      split at e
      · rename_i cc hc
        cases e
        cases rx; cases ry
        exact .inl (.inl ⟨cc, b, by rw [sign1_eq hc], rfl, q _ G H (Grow.refl s) (.bl _)⟩)
      · cases e
    | _ => cases e
  | _ => cases c <;> cases e⟩
theorem od_notIn {k : Nat} (hr : Room k X.A) : OpD X (compareOp .NotIn) notInD := ⟨_, ((op_notIn_sign).or (op_notInD (units65 hr))).or op_notIn_seq, fun G H x y c d z Q s rx ry e q => by
  have lcase : ∀ xs, d = .lst xs → notInD c d = gd (shp c = true ∧ shp (.lst xs) = true) (.ok (.bl (!xs.any fun x => eqv x c))) → rNotInD X.K x y H Q := fun xs hd he => by
    subst hd
    rw [he] at e
    obtain ⟨⟨h1, h2⟩, e⟩ := gd_ok e
    cases e
    refine ⟨_, toPys xs, shp_dp s h1 rx, by have := shp_dp s h2 ry; simpa only [toPy] using this, h1, by simpa only [shp, toPy] using h2, ?_⟩
    have e2 : ((toPys xs).any fun z => PyData.eqv z (toPy c)) = xs.any fun x => eqv x c := by
      clear h2 q he e ry
      induction xs with
      | nil => rfl
      | cons a r ih => simp only [toPys, List.any_cons, ih, eqv]
    rw [e2]
    exact q _ G H (Grow.refl s) (.bl _)
  have tcase : ∀ xs, d = .tup xs → notInD c d = gd (flD c = true ∧ xs.all flD = true) (.ok (.bl (!xs.any fun x => eqv x c))) → rIn X.K true x y H Q := fun xs hd he => by
    subst hd
    rw [he] at e
    obtain ⟨⟨h1, h2⟩, e⟩ := gd_ok e
    cases e
    cases ry with
    | @tup p vs ds h r =>
      obtain ⟨i1, i2⟩ := fl_in h1 rx h2 r
      refine ⟨p, vs, rfl, .inr (same_tup s h), fl_flat h1 rx, i1, ?_⟩
      rw [i2]
      exact q _ G H (Grow.refl s) (.bl _)
  cases d with
  | lst xs => exact .inl (.inr (lcase xs rfl (by cases c <;> rfl)))
  | tup xs => exact .inr (tcase xs rfl (by cases c <;> rfl))
  | str b =>
    cases c with
    | str a =>
      simp only [notInD] at e
      split at e
      · rename_i cc hc
        cases e
        cases rx; cases ry
        exact .inl (.inl ⟨cc, b, by rw [sign1_eq hc], rfl, q _ G H (Grow.refl s) (.bl _)⟩)
      · cases e
    | _ => cases e
  | _ => cases c <;> cases e⟩
theorem tupl_nil {K : PySem.W.Frag} {G : Hp} {vs : List V} {ds : List D} (r : Reps K G vs ds) : vs = [] ↔ ds = [] := by
  cases r <;> simp
theorem od_add : OpD X (binaryOp .Add) addD := ⟨_, ((op_add).or op_add_str).or ((op_catA).or op_cat), fun G H x y c d z Q s rx ry e q => by
  cases rx with
  | int i => cases ry with
    | int j => cases e; exact .inl (.inl ⟨i, j, rfl, rfl, q _ G H (Grow.refl s) (.int _)⟩)
    | _ => cases e
  | str i => cases ry with
    | str j => obtain ⟨h, e⟩ := gd_ok e; cases e; exact .inl (.inr ⟨i, j, rfl, rfl, h, q _ G H (Grow.refl s) (.str _)⟩)
    | _ => cases e
  | @tup p vs ds h1 r1 => cases ry with
    | @tup p2 us es h2 r2 =>
      obtain ⟨h, e⟩ := gd_ok e; cases e
      refine .inr (.inl ⟨p, p2, vs, us, rfl, rfl, same_tup s h1, same_tup s h2, by rw [r1.len, r2.len]; exact h, fun z => ?_, fun z1 z2 => ?_, fun z1 z2 l hl => ?_⟩)
      · have : ds = [] := (tupl_nil r1).mp z
        subst this
        exact q _ G H (Grow.refl s) (.tup h2 r2)
      · have : es = [] := (tupl_nil r2).mp z2
        subst this
        rw [List.append_nil] at q
        exact q _ G H (Grow.refl s) (.tup h1 r1)
      · exact q _ _ _ (Grow.new s hl) (.tup (SqT.of upd_same) (Reps.mono (same_new (s.free hl)) _ _ (r1.app r2)))
    | _ => cases e
  | @lst p vs ds h1 r1 => cases ry with
    | @lst p2 us es h2 r2 =>
      obtain ⟨h, e⟩ := gd_ok e; cases e
      exact .inr (.inr ⟨p, p2, vs, us, rfl, rfl, s _ _ h1, s _ _ h2, by rw [r1.len, r2.len]; exact h, fun l hl => q _ _ _ (Grow.new s hl) (.lst upd_same (Reps.mono (same_new (s.free hl)) _ _ (r1.app r2)))⟩)
    | _ => cases e
  | _ => cases ry <;> cases e⟩
theorem od_mul : OpD X (binaryOp .Mult) mulD := ⟨_, (op_mulW).or op_rep, fun G H x y c d z Q s rx ry e q => by
  cases rx with
  | int i => cases ry with
    | int j => obtain ⟨h, e⟩ := gd_ok e; cases e; exact .inl ⟨i, j, rfl, rfl, h, q _ G H (Grow.refl s) (.int _)⟩
    | _ => cases e
  | @lst p vs ds h1 r1 => cases ry with
    | int j =>
      obtain ⟨⟨a1, a2, a3⟩, e⟩ := gd_ok e; cases e
      exact .inr ⟨p, j, vs, rfl, rfl, s _ _ h1, a1, a2, by rw [r1.len]; exact a3, fun l hl => q _ _ _ (Grow.new s hl) (.lst upd_same (Reps.mono (same_new (s.free hl)) _ _ (r1.rep _)))⟩
    | _ => cases e
  | _ => cases ry <;> cases e⟩
end

/-! ## unary minus -/
def negD : D → Res D | .int i => .ok (.int (-i)) | _ => .stuck
section
variable {X : Cx} {a : Amb} {e : Expr} {f : En → Res D} {pos : Pos}
theorem d_neg (h : PE X e (tD X.K X.mg a f)) : PE X (.UnaryOp .USub e pos) (tD X.K X.mg a (una negD f)) :=
  (pe_un un_neg h).imp fun σ H Q ⟨ρ, G, hR, q⟩ => ⟨ρ, G, hR, (PostE.bind q).imp fun x _ q1 v G' H' g r => by
    cases r with
    | int i => exact ⟨i, rfl, q1 _ G' H' g (.int _)⟩
    | _ => exact q1.elim⟩
end
end PL

set_option maxRecDepth 100000
set_option maxHeartbeats 1000000
namespace PL
open PySem PySem.Spec PyProof.Rows L2

/-! ## subscripts -/
theorem Reps.atI {K : PySem.W.Frag} {G : Hp} {vs : List V} {ds : List D} {i : Int} {d : D} (r : Reps K G vs ds) (h : atI ds i = some d) : ∃ v, L2.atI vs i = some v ∧ Rep K G v d := by
  unfold L2.atI at h ⊢
  rw [r.len]
  cases e : ixN ds.length i with
  | none => rw [e] at h; cases h
  | some j =>
    rw [e] at h
    exact r.get h
def ixD : D → D → Res D
  | .lst xs, .int i => match atI xs i with | some d => .ok d | none => .stuck
  | .tup xs, .int i => match atI xs i with | some d => .ok d | none => .stuck
  | .scr ns, .int i => match atI ns i with | some d => .ok (.int d) | none => .stuck
  | .str s, .int i => gd (s.length ≤ sizeLine) (match atI s.cps.toList i with | some c => .ok (.str ⟨#[c]⟩) | none => .stuck)
  | _, _ => .stuck
theorem nox_ix : NoX ixD := fun x y e h => by
  cases x <;> cases y <;> first
    | (cases h; done)
    | (simp only [ixD] at h; split at h <;> cases h)
    | (simp only [ixD] at h; obtain ⟨_, h⟩ := gd_exc h; split at h <;> cases h)
def cutG {α : Type} (xs : List α) (lo hi : Option Int) : List α := (xs.drop (HT.sIx xs.length 0 lo)).take (HT.sIx xs.length xs.length hi - HT.sIx xs.length 0 lo)
theorem Reps.cut {K : PySem.W.Frag} {G : Hp} {vs : List V} {ds : List D} (r : Reps K G vs ds) (lo hi : Option Int) : Reps K G (cutV vs lo hi) (cutG ds lo hi) := by
  unfold cutV cutG
  rw [r.len]
  exact (r.drop _).take _
def sliceD (x : D) (lo hi : Option Int) : Res D := match x with
  | .lst xs => .ok (.lst (cutG xs lo hi))
  | .tup xs => .ok (.tup (cutG xs lo hi))
  | .str s => gd (s.length ≤ sizeLine) (.ok (.str (cutS s lo hi)))
  | _ => .stuck
def pN : En → Res (Option Int) := fun _ => .ok none
def pS (f : En → Res D) : En → Res (Option Int) := fun ρ => (f ρ).bind fun x => match x with | .int i => .ok (some i) | _ => .stuck
def sliceE (f : En → Res D) (l h : En → Res (Option Int)) : En → Res D := fun ρ => (f ρ).bind fun x => (l ρ).bind fun lo => (h ρ).bind fun hi => sliceD x lo hi
section
variable (K : PySem.W.Frag) (mg : Str → Option Value) (a : Amb)
def tP (f : En → Res (Option Int)) : TO := fun σ H Q => ∃ ρ G, RR K a ρ σ G H ∧ PostE K mg a σ G H (f ρ) fun d => ∀ G' H', Grow G H G' H' → Q d H'
end
section
variable {X : Cx} {a : Amb} {e b : Expr} {es : List Expr} {f g : En → Res D} {pos : Pos}
theorem d_ix (hf : PE X e (tD X.K X.mg a f)) (hg : PE X b (tD X.K X.mg a g)) (hp : PlainIx b) : PE X (.Subscript e b pos) (tD X.K X.mg a (bin ixD f g)) :=
  (pe_ix ix_seq hf hg hp).imp (bin_ok nox_ix fun G H x y c d z Q s rx ry h q => by
    cases ry with
    | int i =>
      cases rx with
      | @lst p vs ds h1 r1 =>
        simp only [ixD] at h
        split at h
        · rename_i d' hd; cases h
          obtain ⟨v, e1, r⟩ := r1.atI hd
          exact .inl ⟨p, vs, i, v, rfl, rfl, SqL.of (s _ _ h1), e1, q _ G H (Grow.refl s) r⟩
        · cases h
      | @tup p vs ds h1 r1 =>
        simp only [ixD] at h
        split at h
        · rename_i d' hd; cases h
          obtain ⟨v, e1, r⟩ := r1.atI hd
          exact .inr (.inl ⟨p, vs, i, v, rfl, rfl, same_tup s h1, e1, q _ G H (Grow.refl s) r⟩)
        · cases h
      | @scr p ns h1 =>
        simp only [ixD] at h
        split at h
        · rename_i n hd; cases h
          have e1 : L2.atI (ns.map V.int) i = some (.int n) := by
            unfold L2.atI at hd ⊢
            rw [List.length_map]
            cases e0 : ixN ns.length i with
            | none => rw [e0] at hd; cases hd
            | some j =>
              rw [e0] at hd
              show (ns.map V.int)[j]? = _
              rw [List.getElem?_map, show ns[j]? = some n from hd] <;> rfl
          exact .inl ⟨p, _, i, _, rfl, rfl, s.seq h1, e1, q _ G H (Grow.refl s) (.int n)⟩
        · cases h
      | str z' =>
        simp only [ixD] at h
        obtain ⟨hz, h⟩ := gd_ok h
        split at h
        · rename_i n hd; cases h
          exact .inr (.inr ⟨z', i, n, rfl, rfl, hz, hd, q _ G H (Grow.refl s) (.str _)⟩)
        · cases h
      | _ => cases h
    | _ => cases rx <;> cases h)
theorem p_non : PO X none (tP X.K X.mg a pN) := ⟨fun pins s σ H Q I ⟨ρ, G, hR, q⟩ => (po_none (X := X)).run pins s σ H Q I (q G H (Grow.refl hR.sub))⟩
theorem p_some (h : PE X e (tD X.K X.mg a f)) : PO X (some e) (tP X.K X.mg a (pS f)) := ⟨fun pins s σ H Q I ⟨ρ, G, hR, q⟩ => by
  refine (po_some h).run pins s σ H Q I ⟨ρ, G, hR, (PostE.bind q).imp fun x _ q1 v G' H' g1 r1 => ?_⟩
  cases r1 with
  | int i => exact ⟨i, rfl, q1 G' H' g1⟩
  | _ => exact q1.elim⟩
theorem d_slice {lo hi : Option Expr} {l u : En → Res (Option Int)} {p2 : Pos} (hf : PE X e (tD X.K X.mg a f)) (hl : PO X lo (tP X.K X.mg a l)) (hu : PO X hi (tP X.K X.mg a u)) : PE X (.Subscript e (.Slice lo hi none p2) pos) (tD X.K X.mg a (sliceE f l u)) :=
  (pe_slice ((sl_list).or ((sl_tupA).or sl_str)) hf hl hu).imp fun σ H Q ⟨ρ, G, hR, q⟩ =>
    ⟨ρ, G, hR, (PostE.bind q).imp fun x _ q1 v G1 H1 g1 r1 => ⟨ρ, G1, R.grow hR g1, ((PostE.bind q1).grow g1).imp fun lo' _ q2 G2 H2 g2 =>
      ⟨ρ, G2, R.grow (R.grow hR g1) g2, ((PostE.bind q2).grow (g1.trans g2)).imp fun hi' _ q3 G3 H3 g3 => by
        have r3 := Rep.mono (g2.g.trans g3.g) _ _ r1
        have gg := (g1.trans g2).trans g3
        have sg := g3.s
        cases r3 with
        | @lst p vs ds h1 r => exact .inl ⟨p, vs, rfl, SqL.of (sg _ _ h1), fun l' hl' => q3 _ _ _ (gg.trans (Grow.new sg hl')) (.lst upd_same (Reps.mono (same_new (sg.free hl')) _ _ (r.cut lo' hi')))⟩
        | @tup p vs ds h1 r =>
          refine .inr (.inl ⟨p, vs, rfl, same_tup sg h1, fun hw => ?_, fun hw l' hl' => q3 _ _ _ (gg.trans (Grow.new sg hl')) (.tup (SqT.of upd_same) (Reps.mono (same_new (sg.free hl')) _ _ (r.cut lo' hi')))⟩)
          have e1 : cutG ds lo' hi' = ds := by
            unfold cutG
            rw [r.len] at hw
            rw [hw.1, hw.2]; simp
          have q4 : ∀ v G' H', Grow G H G' H' → Rep X.K G' v (.tup ds) → Q v H' := fun v G' H' g r => q3 v G' H' g (by rw [e1]; exact r)
          exact q4 _ _ _ gg (.tup h1 r)
        | str s =>
          obtain ⟨hz, q4⟩ := PostE.gd q3
          exact .inr (.inr ⟨s, rfl, hz, q4 _ _ _ gg (.str _)⟩)
        | _ => exact q3.elim⟩⟩⟩
end

/-! ## calls of built-ins -/
def NoXL (o : List D → Res D) : Prop := ∀ xs e, o xs ≠ .exc e
def CallD (X : Cx) (f : Value) (o : List D → Res D) : Prop := ∃ r : List V → Hp → VK → Prop, CallR X f r ∧
  ∀ (G H : Hp) (vs : List V) (ds : List D) (z : D) (Q : VK), Same G H → Reps X.K G vs ds → o ds = .ok z → (∀ v G' H', Grow G H G' H' → Rep X.K G' v z → Q v H') → r vs H Q
/-- .. whose value is a new list -/
def CallO (X : Cx) (f : Value) (o : List D → Res (List D)) : Prop := ∃ r : List V → Hp → VK → Prop, CallR X f r ∧
  ∀ (G H : Hp) (vs : List V) (ds zs : List D) (Q : VK), Same G H → Reps X.K G vs ds → o ds = .ok zs → (∀ l us G' H', Grow G H G' H' → H l = none → G' l = none → H' l = some (.lst us) → Reps X.K G' us zs → Q (.ref l) H') → r vs H Q
section
variable {X : Cx} {a : Amb} {e b : Expr} {es : List Expr} {f g : En → Res D} {fs : En → Res (List D)} {pos p : Pos} {x : Str} {id T : String}
theorem app_run {o : List D → Res D} {r : List V → Hp → VK → Prop} (hx : NoXL o)
    (hr : ∀ (G H : Hp) (vs : List V) (ds : List D) (z : D) (Q : VK), Same G H → Reps X.K G vs ds → o ds = .ok z → (∀ v G' H', Grow G H G' H' → Rep X.K G' v z → Q v H') → r vs H Q)
    (σ : L2.St) (H : Hp) (Q : VK) (h : tD X.K X.mg a (app o fs) σ H Q) : tCB r (tA X.K X.mg a fs) σ H Q := by
  obtain ⟨ρ, G, hR, q⟩ := h
  refine ⟨ρ, G, hR, (PostE.bind q).imp fun ds _ q1 vs G1 H1 g1 r1 => ?_⟩
  cases h3 : o ds with
  | stuck => rw [h3] at q1; exact q1.elim
  | exc e => exact absurd h3 (hx ds e)
  | ok z =>
    rw [h3] at q1
    exact hr G1 H1 vs ds z Q g1.s r1 h3 fun v G' H' g3 r3 => q1 v G' H' (g1.trans g3) r3
theorem appO_run {o : List D → Res (List D)} {r : List V → Hp → VK → Prop} (hx : ∀ xs e, o xs ≠ .exc e)
    (hr : ∀ (G H : Hp) (vs : List V) (ds zs : List D) (Q : VK), Same G H → Reps X.K G vs ds → o ds = .ok zs → (∀ l us G' H', Grow G H G' H' → H l = none → G' l = none → H' l = some (.lst us) → Reps X.K G' us zs → Q (.ref l) H') → r vs H Q)
    (σ : L2.St) (H : Hp) (Q : VK) (h : tO X.K X.mg a (appO o fs) σ H Q) : tCB r (tA X.K X.mg a fs) σ H Q := by
  obtain ⟨ρ, G, hR, q⟩ := h
  refine ⟨ρ, G, hR, (PostE.bind q).imp fun ds _ q1 vs G1 H1 g1 r1 => ?_⟩
  cases h3 : o ds with
  | stuck => rw [h3] at q1; exact q1.elim
  | exc e => exact absurd h3 (hx ds e)
  | ok z =>
    rw [h3] at q1
    exact hr G1 H1 vs ds z Q g1.s r1 h3 fun l us G' H' g3 n1 n2 h1 r3 => q1 l us G' H' (g1.trans g3) (g1.h.free n1) n2 h1 r3
theorem d_callB {o : List D → Res D} (hc : CallD X (.builtin id) o) (hx : NoXL o) (hv : bootBuiltins x = some (.builtin id)) (hm : X.mg x = none) (ha : PA X (e :: es) (tA X.K X.mg a fs)) (hg : Gl X x := by rfl) (hn : x ≠ "__name__" := by decide) (hdb : (x == ("__debug__" : Str)) = false := by decide)
    (he : starEach (e :: es) X.env = (false, eval e X.env) :: starEach es X.env := by rfl) (hpl : (backTo pos (starEach es X.env)).any (·.1) = false := by rfl) : PE X (.Call (.Name x p) (e :: es) [] pos) (tD X.K X.mg a (app o fs)) := by
  obtain ⟨r, h1, h2⟩ := hc
  exact (pe_callB h1 hg hm hv ha hn hdb he hpl).imp (app_run hx h2)
theorem d_callTy {o : List D → Res D} (hc : CallD X (.type T) o) (hx : NoXL o) (hv : bootBuiltins x = some (.type T)) (hm : X.mg x = none) (ha : PA X (e :: es) (tA X.K X.mg a fs)) (hg : Gl X x := by rfl) (hn : x ≠ "__name__" := by decide) (hdb : (x == ("__debug__" : Str)) = false := by decide)
    (he : starEach (e :: es) X.env = (false, eval e X.env) :: starEach es X.env := by rfl) (hpl : (backTo pos (starEach es X.env)).any (·.1) = false := by rfl) : PE X (.Call (.Name x p) (e :: es) [] pos) (tD X.K X.mg a (app o fs)) := by
  obtain ⟨r, h1, h2⟩ := hc
  exact (pe_callTy h1 hg hm hv ha hn hdb he hpl).imp (app_run hx h2)
theorem o_callB {o : List D → Res (List D)} (hc : CallO X (.builtin id) o) (hx : ∀ xs e, o xs ≠ .exc e) (hv : bootBuiltins x = some (.builtin id)) (hm : X.mg x = none) (ha : PA X (e :: es) (tA X.K X.mg a fs)) (hg : Gl X x := by rfl) (hn : x ≠ "__name__" := by decide) (hdb : (x == ("__debug__" : Str)) = false := by decide)
    (he : starEach (e :: es) X.env = (false, eval e X.env) :: starEach es X.env := by rfl) (hpl : (backTo pos (starEach es X.env)).any (·.1) = false := by rfl) : PE X (.Call (.Name x p) (e :: es) [] pos) (tO X.K X.mg a (appO o fs)) := by
  obtain ⟨r, h1, h2⟩ := hc
  exact (pe_callB h1 hg hm hv ha hn hdb he hpl).imp (appO_run hx h2)
theorem o_callTy {o : List D → Res (List D)} (hc : CallO X (.type T) o) (hx : ∀ xs e, o xs ≠ .exc e) (hv : bootBuiltins x = some (.type T)) (hm : X.mg x = none) (ha : PA X (e :: es) (tA X.K X.mg a fs)) (hg : Gl X x := by rfl) (hn : x ≠ "__name__" := by decide) (hdb : (x == ("__debug__" : Str)) = false := by decide)
    (he : starEach (e :: es) X.env = (false, eval e X.env) :: starEach es X.env := by rfl) (hpl : (backTo pos (starEach es X.env)).any (·.1) = false := by rfl) : PE X (.Call (.Name x p) (e :: es) [] pos) (tO X.K X.mg a (appO o fs)) := by
  obtain ⟨r, h1, h2⟩ := hc
  exact (pe_callTy h1 hg hm hv ha hn hdb he hpl).imp (appO_run hx h2)
end

def lenL : List D → Res D
  | [.str s] => gd (s.length ≤ sizeLine) (.ok (.int s.length))
  | [.tup xs] => .ok (.int xs.length) | [.lst xs] => .ok (.int xs.length) | [.scr ns] => .ok (.int ns.length)
  | _ => .stuck
def absL : List D → Res D | [.int i] => .ok (.int (if i < 0 then -i else i)) | _ => .stuck
def intL : List D → Res D
  | [.int i] => .ok (.int i) | [.bl b] => .ok (.int (if b then 1 else 0))
  | [.str s] => match PySem.intText? s with | some n => gd (s.length ≤ 640) (.ok (.int n)) | none => .stuck
  | _ => .stuck
def strL : List D → Res D | [.int i] => gd (i.natAbs.log2 < 1920) (.ok (.str (toString i))) | [.str s] => .ok (.str s) | _ => .stuck
def max2L : List D → Res D | [.int i, .int j] => .ok (.int (if j > i then j else i)) | _ => .stuck
def min2L : List D → Res D | [.int i, .int j] => .ok (.int (if j < i then j else i)) | _ => .stuck
def listL : List D → Res (List D) | [.lst xs] => .ok xs | [.tup xs] => .ok xs | [.scr ns] => .ok (ns.map .int) | _ => .stuck
def tupleL : List D → Res D | [.lst xs] => .ok (.tup xs) | [.tup xs] => .ok (.tup xs) | _ => .stuck
theorem nox_len : NoXL lenL := fun xs e h => by
  unfold lenL at h; split at h <;> first | (cases h; done) | (have := (gd_exc h).2; cases this)
theorem nox_abs : NoXL absL := fun xs e h => by unfold absL at h; split at h <;> cases h
theorem nox_int : NoXL intL := fun xs e h => by
  unfold intL at h; split at h <;> first | (cases h; done) | (split at h <;> first | (cases h; done) | (have := (gd_exc h).2; cases this))
theorem nox_str : NoXL strL := fun xs e h => by
  unfold strL at h; split at h <;> first | (cases h; done) | (have := (gd_exc h).2; cases this)
theorem nox_max2 : NoXL max2L := fun xs e h => by unfold max2L at h; split at h <;> cases h
theorem nox_min2 : NoXL min2L := fun xs e h => by unfold min2L at h; split at h <;> cases h
theorem nox_list : ∀ xs e, listL xs ≠ .exc e := fun xs e h => by unfold listL at h; split at h <;> cases h
theorem nox_tuple : NoXL tupleL := fun xs e h => by unfold tupleL at h; split at h <;> cases h
section
variable {X : Cx}
theorem reps1 {K : PySem.W.Frag} {G : Hp} {vs : List V} {d : D} (r : Reps K G vs [d]) : ∃ v, vs = [v] ∧ Rep K G v d := by
  cases r with
  | cons h r => cases r; exact ⟨_, rfl, h⟩
theorem reps2 {K : PySem.W.Frag} {G : Hp} {vs : List V} {d e : D} (r : Reps K G vs [d, e]) : ∃ v u, vs = [v, u] ∧ Rep K G v d ∧ Rep K G u e := by
  cases r with
  | cons h r =>
    obtain ⟨u, rfl, h2⟩ := reps1 r
    exact ⟨_, _, rfl, h, h2⟩
theorem cd_len : CallD X (.builtin "len") lenL := ⟨_, call_len, fun G H vs ds z Q s r h q => by
  unfold lenL at h
  split at h
  · obtain ⟨v, rfl, r1⟩ := reps1 r
    obtain ⟨hz, h⟩ := gd_ok h; cases h; cases r1
    exact ⟨_, _, rfl, ⟨hz, rfl⟩, q _ G H (Grow.refl s) (.int _)⟩
  · obtain ⟨v, rfl, r1⟩ := reps1 r
    cases h
    cases r1 with
    | @tup p vs ds h1 r2 => exact ⟨_, _, rfl, .inr ⟨vs, same_tup s h1, r2.len.symm⟩, q _ G H (Grow.refl s) (.int _)⟩
  · obtain ⟨v, rfl, r1⟩ := reps1 r
    cases h
    cases r1 with
    | @lst p vs ds h1 r2 => exact ⟨_, _, rfl, .inl ⟨vs, SqL.of (s _ _ h1), r2.len.symm⟩, q _ G H (Grow.refl s) (.int _)⟩
  · obtain ⟨v, rfl, r1⟩ := reps1 r
    cases h
    cases r1 with
    | @scr p ns h1 => exact ⟨_, _, rfl, .inl ⟨_, s.seq h1, by rw [List.length_map]⟩, q _ G H (Grow.refl s) (.int _)⟩
  · cases h⟩
theorem cd_abs : CallD X (.builtin "abs") absL := ⟨_, call_abs, fun G H vs ds z Q s r h q => by
  unfold absL at h
  split at h
  · obtain ⟨v, rfl, r1⟩ := reps1 r
    cases h; cases r1
    exact ⟨_, rfl, q _ G H (Grow.refl s) (.int _)⟩
  · cases h⟩
theorem cd_int : CallD X (.type "int") intL := ⟨_, (call_int1).or call_int_str, fun G H vs ds z Q s r h q => by
  unfold intL at h
  split at h
  · obtain ⟨v, rfl, r1⟩ := reps1 r
    cases h; cases r1
    exact .inl (.inl ⟨_, rfl, q _ G H (Grow.refl s) (.int _)⟩)
  · obtain ⟨v, rfl, r1⟩ := reps1 r
    cases h; cases r1
    exact .inl (.inr ⟨_, rfl, q _ G H (Grow.refl s) (.int _)⟩)
  · obtain ⟨v, rfl, r1⟩ := reps1 r
    cases r1
    split at h
    · rename_i n hn
      obtain ⟨hz, h⟩ := gd_ok h; cases h
      exact .inr ⟨_, n, rfl, hn, hz, q _ G H (Grow.refl s) (.int _)⟩
    · cases h
  · cases h⟩
theorem cd_max2 (hc : X.calm = true) : CallD X (.builtin "max") max2L := ⟨_, call_max2 hc, fun G H vs ds z Q s r h q => by
  unfold max2L at h
  split at h
  · obtain ⟨v, u, rfl, r1, r2⟩ := reps2 r
    cases h; cases r1; cases r2
    exact ⟨_, _, rfl, q _ G H (Grow.refl s) (.int _)⟩
  · cases h⟩
theorem cd_min2 (hc : X.calm = true) : CallD X (.builtin "min") min2L := ⟨_, call_min2 hc, fun G H vs ds z Q s r h q => by
  unfold min2L at h
  split at h
  · obtain ⟨v, u, rfl, r1, r2⟩ := reps2 r
    cases h; cases r1; cases r2
    exact ⟨_, _, rfl, q _ G H (Grow.refl s) (.int _)⟩
  · cases h⟩
theorem co_list : CallO X (.type "list") listL := ⟨_, call_list_of, fun G H vs ds z Q s r h q => by
  unfold listL at h
  split at h
  · obtain ⟨v, rfl, r1⟩ := reps1 r
    cases h
    cases r1 with
    | @lst p vs ds h1 r2 => exact ⟨p, vs, rfl, .inl (SqL.of (s _ _ h1)), fun l hl => q l vs G _ (Grow.own s hl) hl (s.free hl) upd_same r2⟩
  · obtain ⟨v, rfl, r1⟩ := reps1 r
    cases h
    cases r1 with
    | @tup p vs ds h1 r2 => exact ⟨p, vs, rfl, .inr (same_tup s h1), fun l hl => q l vs G _ (Grow.own s hl) hl (s.free hl) upd_same r2⟩
  · obtain ⟨v, rfl, r1⟩ := reps1 r
    cases h
    cases r1 with
    | @scr p ns h1 => exact ⟨p, _, rfl, .inl (s.seq h1), fun l hl => q l _ G _ (Grow.own s hl) hl (s.free hl) upd_same (Reps.ofInts _)⟩
  · cases h⟩
theorem cd_tuple : CallD X (.type "tuple") tupleL := ⟨_, call_tuple_of, fun G H vs ds z Q s r h q => by
  unfold tupleL at h
  split at h
  · obtain ⟨v, rfl, r1⟩ := reps1 r
    cases h
    cases r1 with
    | @lst p vs ds h1 r2 => exact ⟨p, vs, rfl, .inl ⟨SqL.of (s _ _ h1), fun l hl => q _ _ _ (Grow.new s hl) (.tup (SqT.of upd_same) (Reps.mono (same_new (s.free hl)) _ _ r2))⟩⟩
  · obtain ⟨v, rfl, r1⟩ := reps1 r
    cases h
    cases r1 with
    | @tup p vs ds h1 r2 => exact ⟨p, vs, rfl, .inr ⟨same_tup s h1, q _ G H (Grow.refl s) (.tup h1 r2)⟩⟩
  · cases h⟩
end

/-! ## isinstance -/
def tyD : D → String
  | .non => "NoneType" | .bl _ => "bool" | .int _ => "int" | .str _ => "str" | .tup _ => "tuple" | .lst _ => "list" | .scr _ => "list"
def isiB (t T : String) : Bool := t == T || (t == "bool" && T == "int")
def isiD (T : String) (f : En → Res D) : En → Res D := fun ρ => (f ρ).bind fun d => .ok (.bl (isiB (tyD d) T))
theorem kit_int : ∀ t ∈ ["NoneType", "bool", "int", "str", "tuple", "list"], kitB t "int" = some (isiB t "int") := by decide +kernel
theorem kit_bool : ∀ t ∈ ["NoneType", "bool", "int", "str", "tuple", "list"], kitB t "bool" = some (isiB t "bool") := by decide +kernel
theorem kit_str : ∀ t ∈ ["NoneType", "bool", "int", "str", "tuple", "list"], kitB t "str" = some (isiB t "str") := by decide +kernel
theorem kit_tuple : ∀ t ∈ ["NoneType", "bool", "int", "str", "tuple", "list"], kitB t "tuple" = some (isiB t "tuple") := by decide +kernel
theorem kit_list : ∀ t ∈ ["NoneType", "bool", "int", "str", "tuple", "list"], kitB t "list" = some (isiB t "list") := by decide +kernel
theorem tyx_of {K : PySem.W.Frag} {G H : Hp} (s : Same G H) {v : V} {d : D} (r : Rep K G v d) : TyX K H v (.type (tyD d)) := by
  cases r with
  | non => exact .base .non
  | bl b => exact .base (.bl b)
  | int b => exact .base (.int b)
  | str b => exact .base (.str b)
  | @tup p vs ds h r =>
    rcases same_tup s h with (h | ⟨o, h⟩) | ⟨o, its, n, h, hc, _⟩
    · exact .base (.tup h)
    · exact .fTuple h
    · exact .kTuple h hc
  | @lst p vs ds h r => exact .base (.lst (s _ _ h))
  | @scr p ns h =>
    rcases s.seq h with (h | ⟨o, h⟩) | ⟨o, its, n, h, hc, _⟩
    · exact .base (.lst h)
    · exact .base (.frz h)
    · exact .kList h hc
theorem tyD_mem (d : D) : tyD d ∈ ["NoneType", "bool", "int", "str", "tuple", "list"] := by cases d <;> simp [tyD]
section
variable {X : Cx} {a : Amb} {e : Expr} {f : En → Res D} {pos p p2 : Pos} {x : Str} {T : String}
theorem d_isi (hk : ∀ t ∈ ["NoneType", "bool", "int", "str", "tuple", "list"], kitB t T = some (isiB t T)) (hm : X.mg "isinstance" = none) (hmx : X.mg x = none) (hvx : bootBuiltins x = some (.type T)) (he : PE X e (tD X.K X.mg a f)) (hg : Gl X "isinstance" := by rfl) (hgx : Gl X x := by rfl)
    (hst : starEach [e, .Name x p2] X.env = (false, eval e X.env) :: starEach [.Name x p2] X.env := by rfl) (hst2 : starEach [.Name x p2] X.env = (false, eval (.Name x p2) X.env) :: starEach [] X.env := by rfl) (hpl : (backTo pos (starEach [.Name x p2] X.env)).any (·.1) = false := by rfl)
    (hn : x ≠ "__name__" := by decide) (hd : (x == ("__debug__" : Str)) = false := by decide) :
    PE X (.Call (.Name "isinstance" p) [e, .Name x p2] [] pos) (tD X.K X.mg a (isiD T f)) :=
  (pe_callB call_isi hg hm PyProof.Rows.boot_isinstance (pa_cons he (pa_cons (pe_bltn (v := .ty T) hgx hmx hvx rfl hn hd) pa_nil hst2) hst) (by decide) (by decide) hst hpl).imp fun σ H Q ⟨ρ, G, hR, q⟩ =>
    ⟨ρ, G, hR, (PostE.bind q).imp fun d _ q1 v G' H' g r => ⟨v, .ty T, _, _, _, rfl, .ty T, tyx_of g.s r, kit_ty (hk _ (tyD_mem d)), q1 _ G' H' g (.bl _)⟩⟩
end
end PL

set_option maxRecDepth 100000
set_option maxHeartbeats 1000000
namespace L2
open PySem PySem.Spec PyProof.Rows
theorem PI.imp {X : Cx} {tg e : Expr} {t t' : TI} (h : PI X tg e t) (k : ∀ σ H Q, t' σ H Q → t σ H Q) : PI X tg e t' := ⟨fun pins s σ H Q I w => h.run pins s σ H Q I (k σ H Q w)⟩
theorem PG.imp {X : Cx} {e : Expr} {t t' : TG} (h : PG X e t) (k : ∀ v σ H Q, t' v σ H Q → t v σ H Q) : PG X e t' := ⟨fun pins s σ H v u Q I r w => h.run pins s σ H v u Q I r (k v σ H Q w)⟩
end L2
namespace PL
open PySem PySem.Spec PyProof.Rows L2

/-! ## what is walked -/
/-- J yields the data ds, as long as the heap holds what B holds -/
def ItOk (K : PySem.W.Frag) (J : It) (B G : Hp) (ds : List D) : Prop := ∀ H', Same B H' → ∀ i, (ds.length ≤ i → J.stop i H') ∧ (∀ d, ds[i]? = some d → J.go i H' ∧ ∀ x H'', J.yld i H' x H'' → H'' = H' ∧ Rep K G x d)
def tI (K : PySem.W.Frag) (mg : Str → Option Value) (a : Amb) (f : En → Res (List D)) : TI := fun σ H Rk => ∃ ρ G, RR K a ρ σ G H ∧ PostE K mg a σ G H (f ρ) fun ds => ∀ J G' H', Grow G H G' H' → ItOk K J G' G' ds → Rk J H'
theorem ItOk.lst {K : PySem.W.Frag} {B G : Hp} {p : Addr} {vs : List V} {ds : List D} (h : SqL K B p vs) (r : Reps K G vs ds) : ItOk K (Itl K p) B G ds := fun H' s i => by
  have hq := s.seq h
  refine ⟨fun hl => ⟨vs, hq, by rw [r.len]; exact hl⟩, fun d e => ?_⟩
  obtain ⟨v, e1, q⟩ := r.get e
  refine ⟨⟨vs, v, hq, e1⟩, fun x H'' y => ⟨y.1, ?_⟩⟩
  have e2 := y.2 vs hq
  rw [e1] at e2; cases e2; exact q
theorem ItOk.tup {K : PySem.W.Frag} {B G : Hp} {p : Addr} {vs : List V} {ds : List D} (h : SqT K B p vs) (r : Reps K G vs ds) : ItOk K (Itt K p) B G ds := fun H' s i => by
  have hq := same_tup s h
  refine ⟨fun hl => ⟨vs, hq, by rw [r.len]; exact hl⟩, fun d e => ?_⟩
  obtain ⟨v, e1, q⟩ := r.get e
  refine ⟨⟨vs, v, hq, e1⟩, fun x H'' y => ⟨y.1, ?_⟩⟩
  have e2 := y.2 vs hq
  rw [e1] at e2; cases e2; exact q
theorem ItOk.rng {K : PySem.W.Frag} {B G : Hp} (lo : Int) (n : Nat) : ItOk K (Itr lo n) B G ((List.range n).map fun k => .int (lo + (k : Nat))) := fun H' s i => by
  refine ⟨fun hl => (show n ≤ i by simpa using hl), fun d e => ?_⟩
  rw [List.getElem?_map] at e
  by_cases hi : i < n
  · rw [List.getElem?_range hi] at e
    cases e
    exact ⟨hi, fun x H'' ⟨h1, h2⟩ => ⟨h1, by rw [h2]; exact .int _⟩⟩
  · rw [List.getElem?_eq_none (by simpa using hi)] at e; cases e
def signs (s : Str) : List D := s.cps.toList.map fun c => .str ⟨#[c]⟩
theorem ItOk.str {K : PySem.W.Frag} {B G : Hp} (s : Str) : ItOk K (Its s) B G (signs s) := fun H' _ i => by
  unfold signs
  refine ⟨fun hl => (show s.cps.size ≤ i by simpa using hl), fun d e => ?_⟩
  rw [List.getElem?_map] at e
  cases e1 : s.cps.toList[i]? with
  | none => rw [e1] at e; cases e
  | some c =>
    rw [e1] at e; cases e
    have e2 : s.cps[i]? = some c := by rw [← e1]; simp
    refine ⟨(Array.getElem?_eq_some_iff.mp e2).1, fun x H'' ⟨h1, c', h2, h3⟩ => ⟨h1, ?_⟩⟩
    rw [e2] at h2; cases h2
    rw [h3]; exact .str _
def seqOf : D → Res (List D)
  | .lst xs => .ok xs | .tup xs => .ok xs | .scr ns => .ok (ns.map .int) | .str s => .ok (signs s) | _ => .stuck
def itE (f : En → Res D) : En → Res (List D) := fun ρ => (f ρ).bind seqOf
def rng1 : List D → Res (List D)
  | [.int j] => gd (-(2 ^ 62) ≤ j ∧ j < 2 ^ 62) (.ok ((List.range j.toNat).map fun k => .int ((k : Nat) : Int))) | _ => .stuck
def rng2 : List D → Res (List D)
  | [.int i, .int j] => gd (-(2 ^ 62) ≤ i ∧ i < 2 ^ 62 ∧ -(2 ^ 62) ≤ j ∧ j < 2 ^ 62) (.ok ((List.range (j - i).toNat).map fun k => .int (i + (k : Nat)))) | _ => .stuck
section
variable {X : Cx} {a : Amb} {e b tg : Expr} {es : List Expr} {f g : En → Res D} {fs : En → Res (List D)} {pos p : Pos}
theorem i_seq (h : PE X e (tD X.K X.mg a f)) : PI X tg e (tI X.K X.mg a (itE f)) := ⟨fun pins s σ H Rk I ⟨ρ, G, hR, q⟩ => by
  have q1 := PostE.bind q
  cases hf : f ρ with
  | stuck => rw [hf] at q1; exact q1.elim
  | exc e => 
    refine (pi_list h).run pins s σ H Rk I ⟨ρ, G, hR, ?_⟩
    rw [hf] at q1 ⊢
    exact q1
  | ok d =>
    rw [hf] at q1
    cases d with
    | lst xs =>
      refine (pi_list h).run pins s σ H Rk I ⟨ρ, G, hR, ?_⟩
      rw [hf]
      intro v G' H' g r
      cases r with
      | @lst p vs ds h1 r => exact ⟨p, rfl, ⟨vs, SqL.of (g.s _ _ h1)⟩, q1 _ G' H' g (.lst (SqL.of h1) r)⟩
    | scr ns =>
      refine (pi_list h).run pins s σ H Rk I ⟨ρ, G, hR, ?_⟩
      rw [hf]
      intro v G' H' g r
      cases r with
      | @scr p ns h1 => exact ⟨p, rfl, ⟨_, g.s.seq h1⟩, q1 _ G' H' g (.lst h1 (Reps.ofInts ns))⟩
    | tup xs =>
      refine (pi_tup h).run pins s σ H Rk I ⟨ρ, G, hR, ?_⟩
      rw [hf]
      intro v G' H' g r
      cases r with
      | @tup p vs ds h1 r => exact ⟨p, rfl, ⟨vs, same_tup g.s h1⟩, q1 _ G' H' g (.tup h1 r)⟩
    | str z =>
      refine (pi_str h).run pins s σ H Rk I ⟨ρ, G, hR, ?_⟩
      rw [hf]
      intro v G' H' g r
      cases r
      exact ⟨z, rfl, q1 _ G' H' g (.str z)⟩
    | _ => exact q1.elim⟩
/-- a new list, walked -/
theorem i_new (h : PE X e (tO X.K X.mg a fs)) : PI X tg e (tI X.K X.mg a fs) :=
  (pi_list h).imp fun σ H Q ⟨ρ, G, hR, q⟩ => ⟨ρ, G, hR, q.imp fun ds _ q1 l vs G' H' g n1 n2 h1 r => ⟨l, rfl, ⟨vs, SqL.of h1⟩, q1 _ _ H' (g.share n1 n2 h1) (.lst (SqL.of upd_same) (Reps.mono (same_new n2) _ _ r))⟩⟩
theorem i_rng1 (hm : X.mg "range" = none) (ha : PA X [e] (tA X.K X.mg a fs)) (hg : Gl X "range" := by rfl) (hs : starEach [e] X.env = [(false, eval e X.env)] := by rfl) : PI X tg (.Call (.Name "range" p) [e] [] pos) (tI X.K X.mg a (appO rng1 fs)) :=
  (pi_range1 hg hm ha hs).imp fun σ H Q ⟨ρ, G, hR, q⟩ => ⟨ρ, G, hR, (PostE.bind q).imp fun ds _ q1 vs G' H' g r => by
    unfold rng1 at q1
    split at q1
    · obtain ⟨v, rfl, r1⟩ := reps1 r
      obtain ⟨⟨h1, h2⟩, q2⟩ := PostE.gd q1
      cases r1
      refine ⟨_, rfl, h1, h2, q2 _ G' H' g ?_⟩
      have := ItOk.rng (K := X.K) (B := G') (G := G') 0 (Int.toNat ‹Int›)
      simpa only [Int.zero_add] using this
    · exact q1.elim⟩
theorem i_rng2 (hm : X.mg "range" = none) (ha : PA X [e, b] (tA X.K X.mg a fs)) (hg : Gl X "range" := by rfl) (hs : starEach [e, b] X.env = [(false, eval e X.env), (false, eval b X.env)] := by rfl) (hs2 : starEach [b] X.env = [(false, eval b X.env)] := by rfl) :
    PI X tg (.Call (.Name "range" p) [e, b] [] pos) (tI X.K X.mg a (appO rng2 fs)) :=
  (pi_range2 hg hm ha hs hs2).imp fun σ H Q ⟨ρ, G, hR, q⟩ => ⟨ρ, G, hR, (PostE.bind q).imp fun ds _ q1 vs G' H' g r => by
    unfold rng2 at q1
    split at q1
    · obtain ⟨v, u, rfl, r1, r2⟩ := reps2 r
      obtain ⟨h1, q2⟩ := PostE.gd q1
      cases r1; cases r2
      exact ⟨_, _, rfl, h1, q2 _ G' H' g (ItOk.rng _ _)⟩
    · exact q1.elim⟩
end

/-! ## targets -/
def gN (i : Nat) : D → En → Res En := fun d ρ => .ok (ρ.set i (.sh d))
/-- a tuple's items to slots -/
def setAll : List Nat → List D → En → Res En
  | [], [], ρ => .ok ρ
  | i :: is, d :: ds, ρ => setAll is ds (ρ.set i (.sh d))
  | _, _, _ => .stuck
def gT (is : List Nat) : D → En → Res En := fun d ρ => match d with | .tup xs => setAll is xs ρ | _ => .stuck
def tG (K : PySem.W.Frag) (a : Amb) (t : D → En → Res En) : TG := fun v σ H Q => ∃ ρ G d ρ', RR K a ρ σ G H ∧ Rep K G v d ∧ t d ρ = .ok ρ' ∧ ∀ σ', RR K a ρ' σ' G H → Q σ' H
def tGs (K : PySem.W.Frag) (a : Amb) (is : List Nat) : TGs := fun vs σ H Q => ∃ ρ G ds ρ', RR K a ρ σ G H ∧ Reps K G vs ds ∧ setAll is ds ρ = .ok ρ' ∧ ∀ σ', RR K a ρ' σ' G H → Q σ' H
section
variable {X : Cx} {a : Amb} {e : Expr} {es : List Expr} {pos : Pos}
theorem g_name (i : Nat) {x : Str} (hnd : X.N.Nodup) (hN : X.N[i]? = some x := by rfl) (hx : Loc X.env.scope x := by first | exact Or.inl rfl | exact Or.inr rfl)
    (hfn : X.fn x = true ∨ X.env.scope.names.lookup x = some .local := by first | exact .inl rfl | exact .inr rfl) : PG X (.Name x pos) (tG X.K a (gN i)) :=
  (pg_name hnd hN hx hfn).imp fun v σ H Q ⟨ρ, G, d, ρ', hR, r, e1, q⟩ => by
    cases e1
    exact q _ (R.setSh hR i r)
theorem gs_nil : PGs X [] (tGs X.K a []) := ⟨fun pins s σ H vs us Q I r ⟨ρ, G, ds, ρ', hR, rr, e1, q⟩ => by
  cases ds with
  | nil =>
    cases rr
    cases e1
    exact (pgs_nil (X := X)).run pins s σ H [] us Q I r ⟨rfl, q σ hR⟩
  | cons _ _ => cases e1⟩
theorem gs_cons {i : Nat} {is : List Nat} {x : Str} (hnd : X.N.Nodup) (h2 : PGs X es (tGs X.K a is)) (hN : X.N[i]? = some x := by rfl) (hx : Loc X.env.scope x := by first | exact Or.inl rfl | exact Or.inr rfl)
    (hfn : X.fn x = true ∨ X.env.scope.names.lookup x = some .local := by first | exact .inl rfl | exact .inr rfl)
    (hs : (assignEach (.Name x pos :: es) X.env).map (·.2) = assign (.Name x pos) X.env :: (assignEach es X.env).map (·.2) := by rfl) : PGs X (.Name x pos :: es) (tGs X.K a (i :: is)) :=
  ⟨fun pins s σ H vs us Q I r ⟨ρ, G, ds, ρ', hR, rr, e1, q⟩ => by
    cases ds with
    | nil => cases e1
    | cons d ds =>
      cases rr with
      | cons r1 rr =>
        exact (pgs_cons (pg_name (pos := pos) hnd hN hx hfn) h2 hs).run pins s σ H _ us Q I r ⟨_, _, rfl, _, G, ds, ρ', R.setSh hR i r1, rr, e1, q⟩⟩
theorem setAll_len : ∀ {is : List Nat} {ds : List D} {ρ ρ' : En}, setAll is ds ρ = .ok ρ' → ds.length = is.length
  | [], [], _, _, _ => rfl
  | i :: is, d :: ds, ρ, _, h => by
    have e : ds.length = is.length := setAll_len (ρ := ρ.set i (.sh d)) h
    simp [e]
  | [], _ :: _, _, _, h => by cases h
  | _ :: _, [], _, _, h => by cases h
theorem g_tup {is : List Nat} {k : Nat} (hc : X.calm = true) (h : PGs X es (tGs X.K a is)) (hn : (assignEach es X.env).length = is.length := by rfl) (hst : (assignEach es X.env).findIdx? (·.1) = none := by rfl) : PG X (.Tuple es k pos) (tG X.K a (gT is)) :=
  (pg_tup hc h hn hst).imp fun v σ H Q ⟨ρ, G, d, ρ', hR, r, e1, q⟩ => by
    cases r with
    | @tup p vs ds h1 rr => exact ⟨p, vs, rfl, same_tup (R.sub hR) h1, by rw [rr.len, setAll_len e1], ρ, G, ds, ρ', hR, rr, e1, q⟩
    | _ => cases e1
end

/-! ## for -/
/-- behind one turn of a loop: k goes on -/
def lpO (k : En → Out) : Out → Out
  | .next ρ => k ρ
  | .cont ρ => k ρ
  | .brk ρ => .next ρ
  | .ret r => .ret r
  | .exc e ρ => .exc e ρ
  | .stuck => .stuck
def forL (t : D → En → Res En) (b : En → Out) : List D → En → Out
  | [], ρ => .next ρ
  | d :: ds, ρ => match t d ρ with
    | .ok ρ1 => lpO (forL t b ds) (b ρ1)
    | _ => .stuck
theorem Post.lp {K : PySem.W.Frag} {mg : Str → Option Value} {a : Amb} {Dn : Ends} {G : Hp} {k : En → Out} {o : Out} {N : L2.St → Hp → Prop} (h : Post K mg a Dn G (lpO k o))
    (hN : ∀ ρ σ G' H, RR K a ρ σ G' H → Same G G' → Post K mg a Dn G' (k ρ) → N σ H) : Post K mg a { Dn with nx := N, ct := N, bk := Dn.nx } G o := by
  cases o with
  | next ρ => exact fun σ' G' H' r s => hN ρ σ' G' H' r s (Post.mono s h)
  | cont ρ => exact fun σ' G' H' r s => hN ρ σ' G' H' r s (Post.mono s h)
  | brk ρ => exact h
  | ret r => cases r <;> exact h
  | exc e ρ => exact h
  | stuck => exact h
def sFor (it : En → Res (List D)) (t : D → En → Res En) (b : En → Out) : En → Out := fun ρ => ofR ρ (it ρ) fun ds => forL t b ds ρ
section
variable {X : Cx} {a : Amb} {tg iter : Expr} {sts : List Stmt} {it : En → Res (List D)} {t : D → En → Res En} {F : En → Out} {pos : Pos}
theorem s_for (po : PassesOwn (model X.prog X.w) X.A X.env X.xe) (hc : X.calm = true) (hi : PI X tg iter (tI X.K X.mg a it)) (hg : PG X tg (tG X.K a t)) (hb : PSs X sts (tS X.K X.mg a F)) (hs : ∀ x, foldedSetIterable iter X.env x = pure x := by intro _; rfl) :
    PS X (.For tg iter sts [] pos) (tS X.K X.mg a (sFor it t F)) :=
  (ps_for po hc hi hg hb hs).imp fun Dn σ H ⟨ρ, G, hR, q⟩ => ⟨ρ, G, hR, (ofR_post hR q).imp fun ds _ q1 J G1 H1 g ok => by
    refine ⟨fun i m σ' H' => m = ds.length - i ∧ i ≤ ds.length ∧ ∃ ρ' G', RR X.K a ρ' σ' G' H' ∧ Same G1 G' ∧ Post X.K X.mg a Dn G' (forL t F (ds.drop i) ρ'),
      ⟨ds.length, by simp, Nat.zero_le _, ρ, G1, R.grow hR g, Same.refl _, by rw [List.drop_zero]; exact Post.mono g.g q1⟩, ?_⟩
    rintro i m σ' H' ⟨rfl, hi, ρ', G', hR', sg, q2⟩
    obtain ⟨stop, go⟩ := ok H' (sg.trans (R.sub hR')) i
    by_cases hl : i < ds.length
    · refine .inr ?_
      have e1 : ds[i]? = some ds[i] := List.getElem?_eq_getElem hl
      have e2 : ds.drop i = ds[i] :: ds.drop (i + 1) := List.drop_eq_getElem_cons hl
      rw [e2] at q2
      obtain ⟨h1, h2⟩ := go _ e1
      refine ⟨h1, fun σ2 H2 => ∃ ρ2 G2, RR X.K a ρ2 σ2 G2 H2 ∧ Same G1 G2 ∧ Post X.K X.mg a Dn G2 (forL t F (ds.drop (i + 1)) ρ2), fun σ2 H2 ⟨ρ2, G2, a1, a2, a3⟩ => ⟨ds.length - (i + 1), by omega, rfl, hl, ρ2, G2, a1, a2, a3⟩, fun x H2 y => ?_⟩
      obtain ⟨rfl, r⟩ := h2 x H2 y
      have rx := Rep.mono sg _ _ r
      cases ht : t ds[i] ρ' with
      | exc e => unfold forL at q2; rw [ht] at q2; exact q2.elim
      | stuck => unfold forL at q2; rw [ht] at q2; exact q2.elim
      | ok ρ1 =>
        unfold forL at q2
        rw [ht] at q2
        exact ⟨ρ', G', _, ρ1, hR', rx, ht, fun σ3 hR3 => ⟨ρ1, G', hR3, Post.lp q2 fun ρ2 σ4 G4 H4 r4 s4 p4 => ⟨ρ2, G4, r4, sg.trans s4, p4⟩⟩⟩
    · have e : i = ds.length := by omega
      subst e
      rw [List.drop_length] at q2
      exact .inl ⟨stop (Nat.le_refl _), q2 σ' G' H' hR' (Same.refl _)⟩⟩
end

/-! ## while, with a number of turns that is enough -/
def whlN (c : En → Res Bool) (b : En → Out) : Nat → En → Out
  | 0, _ => .stuck
  | n + 1, ρ => ofR ρ (c ρ) fun k => if k then lpO (whlN c b n) (b ρ) else .next ρ
section
variable {X : Cx} {a : Amb} {c : Expr} {sts : List Stmt} {t : En → Res Bool} {F : En → Out} {pos : Pos}
theorem s_whl (n : Nat) (po : PassesOwn (model X.prog X.w) X.A X.env X.xe) (hc : PT X c (tT X.K X.mg a t)) (hb : PSs X sts (tS X.K X.mg a F)) : PS X (.While c sts [] pos) (tS X.K X.mg a (whlN t F n)) :=
  (ps_while po hc hb).imp fun Dn σ H ⟨ρ, G, hR, q⟩ => by
    refine ⟨fun m σ' H' => ∃ ρ' G', RR X.K a ρ' σ' G' H' ∧ Post X.K X.mg a Dn G' (whlN t F m ρ'), ⟨n, ρ, G, hR, q⟩, ?_⟩
    rintro m σ' H' ⟨ρ', G', hR', q2⟩
    cases m with
    | zero => exact q2.elim
    | succ m =>
      unfold whlN at q2
      refine ⟨ρ', G', hR', (ofR_post hR' q2).imp fun k _ q3 G2 H2 g => ?_⟩
      cases k with
      | false => exact q3 _ G2 H2 (R.grow hR' g) g.g
      | true =>
        exact ⟨fun σ2 H2 => ∃ ρ2 G2, RR X.K a ρ2 σ2 G2 H2 ∧ Post X.K X.mg a Dn G2 (whlN t F m ρ2), fun σ2 H2 w => ⟨m, Nat.lt_succ_self _, w⟩, ρ', G2, R.grow hR' g, Post.lp (Post.mono g.g q3) fun ρ2 σ4 G4 H4 r4 s4 p4 => ⟨ρ2, G4, r4, p4⟩⟩
end
end PL

set_option maxRecDepth 100000
set_option maxHeartbeats 1000000
namespace PL
open PySem PySem.Spec PyProof.Rows L2

theorem Grow.mut {G H G' H' : Hp} (g : Grow G H G' H') {p : Addr} {o : HO} (h : H p = none) (h1 : G' p = none) : Grow G H G' (upd H' p o) :=
  ⟨g.g, fun b x e => by
    have : b ≠ p := ne_of_none e h
    rw [upd_ne this]; exact g.h b x e, fun b x e => by
    have : b ≠ p := ne_of_none e h1
    rw [upd_ne this]; exact g.s b x e, g.f⟩

/-! ## what a context must have -/
structure GE (k : Nat) (X : Cx) (a : Amb) : Prop where
  tk : Takes X a.W
  hr : Room k X.A
  calm : X.calm = true
  nd : X.N.Nodup
structure GS (k : Nat) (X : Cx) (a : Amb) : Prop extends GE k X a where
  po : PassesOwn (model X.prog X.w) X.A X.env X.xe
  hs : X.stack = X.env :: X.outer
  hf : X.env.frame = some X.env.locals
def aB (a : Amb) : Amb := { a with W := fun _ _ _ _ => False }
theorem GE.blk {k : Nat} {X : Cx} {a : Amb} (c : GE k X a) (s : Shared) (H : Hp) (sc : Scope) (ce : Env) (fp : List Addr) : GE k (X.blk s H sc ce fp) (aB a) := ⟨takes0, c.hr, c.calm, c.nd⟩
theorem GS.tr {k : Nat} {X : Cx} {a : Amb} (c : GS k X a) {W : WX} {pn : List (Addr × Obj)} {xe : Value → Shared → Prop} (tk : Takes (X.tr pn xe) W) (po : PassesOwn (model X.prog X.w) X.A X.env xe) : GS k (X.tr pn xe) { a with W := W } :=
  ⟨⟨tk, c.hr, c.calm, c.nd⟩, po, c.hs, c.hf⟩

/-! ## defs -/
def rvD : Res RV → Res D | .ok (.sh d) => .ok d | .ok (.ow xs) => .ok (.lst xs) | .exc e => .exc e | .stuck => .stuck
def rvO : Res RV → Res (List D) | .ok (.ow xs) => .ok xs | .ok (.sh _) => .stuck | .exc e => .exc e | .stuck => .stuck
def callE (m : List D → Res RV) (fs : En → Res (List D)) : En → Res D := fun ρ => (fs ρ).bind fun ds => rvD (m ds)
def callO (m : List D → Res RV) (fs : En → Res (List D)) : En → Res (List D) := fun ρ => (fs ρ).bind fun ds => rvO (m ds)
def spOf (K : PySem.W.Frag) (mg : Str → Option Value) (n : Nat) (m : List D → Res RV) : Sp := fun vs H Q E => vs.length = n ∧ ∃ G ds, Same G H ∧ Reps K G vs ds ∧ (match m ds with
  | .ok (.sh d) => ∀ v G' H', Grow G H G' H' → Rep K G' v d → Q v H'
  | .ok (.ow xs) => ∀ l us G' H', Grow G H G' H' → H l = none → G' l = none → H' l = some (.lst us) → Reps K G' us xs → Q (.ref l) H'
  | .exc e => ∀ d G' H', Grow G H G' H' → XR K G' H' d e → E (clOf mg e.cls) (some d) H'
  | .stuck => False)
structure FnP (P : Program) (w : World) (K : PySem.W.Frag) (mg : Str → Option Value) (base : Heap) (k : Nat) (x : Str) (ps : List Str) (m : List D → Res RV) : Prop where
  ex : ∃ f fd, FnOk P w K mg base (L2.CX P w) k f fd ps (spOf K mg ps.length m) ∧ mg x = some (.ref f) ∧ PySem.W.keepIn K (.ref f) = true ∧ Binds K fd ps []
theorem FnP.mono {P : Program} {w : World} {K : PySem.W.Frag} {mg : Str → Option Value} {base : Heap} {k j : Nat} {x : Str} {ps : List Str} {m : List D → Res RV} (F : FnP P w K mg base k x ps m) (h : k ≤ j) : FnP P w K mg base j x ps m := by
  obtain ⟨f, fd, F1, h2⟩ := F.ex
  exact ⟨f, fd, F1.mono h, h2⟩
section
variable {X : Cx} {a : Amb} {e : Expr} {es : List Expr} {fs : En → Res (List D)} {pos p : Pos} {x : Str} {k k' : Nat} {ps : List Str} {m : List D → Res RV}
theorem d_call (F : FnP X.prog X.w X.K X.mg X.base k' x ps m) (c : GE k X a) (hk : k' ≤ k) (hl : (e :: es).length = ps.length) (ha : PA X (e :: es) (tA X.K X.mg a fs)) (hfl : ∀ ρ ds, fs ρ = .ok ds → ds.length = (e :: es).length)
    (hg : Gl X x := by rfl) (hdb : (x == ("__debug__" : Str)) = false := by decide) (he : starEach (e :: es) X.env = (false, eval e X.env) :: starEach es X.env := by rfl) (hpl : (backTo pos (starEach es X.env)).any (·.1) = false := by rfl) :
    PE X (.Call (.Name x p) (e :: es) [] pos) (tD X.K X.mg a (callE m fs)) := by
  obtain ⟨f, fd, F1, hm, hkp, hb⟩ := F.ex
  refine (pe_callS F1 (c.hr.mono hk) hg hm hkp hb (fun σ => passAt c.tk σ) ha hdb he hpl).imp fun σ H Q ⟨ρ, G, hR, q⟩ => ⟨ρ, G, hR, (PostE.bind q).imp fun ds ed q1 vs G' H' g r => ?_⟩
  refine ⟨by rw [r.len, hfl ρ ds ed, hl], G', ds, g.s, r, ?_⟩
  cases h : m ds with
  | stuck => rw [h] at q1; exact q1.elim
  | exc ex => rw [h] at q1; exact fun d G2 H2 g2 xr => q1 d G2 H2 (g.trans g2) xr
  | ok rv =>
    rw [h] at q1
    cases rv with
    | sh d => exact fun v G2 H2 g2 r2 => q1 v G2 H2 (g.trans g2) r2
    | ow xs => exact fun l us G2 H2 g2 n1 n2 h1 r2 => q1 _ _ H2 ((g.trans g2).share (g.h.free n1) n2 h1) (.lst upd_same (Reps.mono (same_new n2) _ _ r2))
theorem o_call (F : FnP X.prog X.w X.K X.mg X.base k' x ps m) (c : GE k X a) (hk : k' ≤ k) (hl : (e :: es).length = ps.length) (ha : PA X (e :: es) (tA X.K X.mg a fs)) (hfl : ∀ ρ ds, fs ρ = .ok ds → ds.length = (e :: es).length)
    (hg : Gl X x := by rfl) (hdb : (x == ("__debug__" : Str)) = false := by decide) (he : starEach (e :: es) X.env = (false, eval e X.env) :: starEach es X.env := by rfl) (hpl : (backTo pos (starEach es X.env)).any (·.1) = false := by rfl) :
    PE X (.Call (.Name x p) (e :: es) [] pos) (tO X.K X.mg a (callO m fs)) := by
  obtain ⟨f, fd, F1, hm, hkp, hb⟩ := F.ex
  refine (pe_callS F1 (c.hr.mono hk) hg hm hkp hb (fun σ => passAt c.tk σ) ha hdb he hpl).imp fun σ H Q ⟨ρ, G, hR, q⟩ => ⟨ρ, G, hR, (PostE.bind q).imp fun ds ed q1 vs G' H' g r => ?_⟩
  refine ⟨by rw [r.len, hfl ρ ds ed, hl], G', ds, g.s, r, ?_⟩
  cases h : m ds with
  | stuck => rw [h] at q1; exact q1.elim
  | exc ex => rw [h] at q1; exact fun d G2 H2 g2 xr => q1 d G2 H2 (g.trans g2) xr
  | ok rv =>
    rw [h] at q1
    cases rv with
    | sh d => exact q1.elim
    | ow xs => exact fun l us G2 H2 g2 n1 n2 h1 r2 => q1 l us G2 H2 (g.trans g2) (g.h.free n1) n2 h1 r2
theorem fl_nil : ∀ (ρ : En) (ds : List D), aNil ρ = .ok ds → ds.length = ([] : List Expr).length := fun ρ ds h => by cases h; rfl
theorem fl_cons {f : En → Res D} (h : ∀ (ρ : En) (ds : List D), fs ρ = .ok ds → ds.length = es.length) : ∀ (ρ : En) (ds : List D), aCons f fs ρ = .ok ds → ds.length = (e :: es).length := fun ρ ds h1 => by
  unfold aCons at h1
  cases h2 : f ρ with
  | ok d =>
    rw [h2] at h1
    cases h3 : fs ρ with
    | ok xs => simp only [Res.bind, h3] at h1; cases h1; simp [h ρ xs h3]
    | exc _ => simp only [Res.bind, h3] at h1; cases h1
    | stuck => simp only [Res.bind, h3] at h1; cases h1
  | exc _ => rw [h2] at h1; cases h1
  | stuck => rw [h2] at h1; cases h1
end
def start0 (n : Nat) (ds : List D) : En := ds.map .sh ++ List.replicate (n - ds.length) .no
def runO : Out → Res RV
  | .ret r => .ok r | .next _ => .ok (.sh .non) | .exc e _ => .exc e | .brk _ => .stuck | .cont _ => .stuck | .stuck => .stuck
def runF (n : Nat) (b : En → Out) (ds : List D) : Res RV := runO (b (start0 n ds))
theorem start_ok {K : PySem.W.Frag} {N : List Str} {vs : List V} {ds : List D} {G H : Hp} (s : Same G H) (r : Reps K G vs ds) : R K G H (start0 N.length ds) (L2.start N vs) G H := by
  refine ⟨Grow.refl s, by simp [start0, L2.start, r.len], fun i sl e => ?_, fun i j xs ys hn e1 e2 => ?_, fun _ => none, fun b x e => by (cases e), fun i d e => ?_, fun i ob l e e2 => rfl⟩
  · unfold start0 at e
    unfold L2.start
    by_cases hi : i < ds.length
    · rw [List.getElem?_append_left (by simpa using hi), List.getElem?_map, List.getElem?_eq_getElem hi] at e
      cases e
      obtain ⟨v, e1, q⟩ := r.get (List.getElem?_eq_getElem hi)
      refine ⟨some v, ?_, v, rfl, q⟩
      rw [List.getElem?_append_left (by simpa [r.len] using hi), List.getElem?_map, e1] <;> rfl
    · have hi2 : ds.length ≤ i := by omega
      rw [List.getElem?_append_right (by simpa using hi2), List.getElem?_replicate] at e
      split at e
      · cases e
        refine ⟨none, ?_, trivial⟩
        rw [List.getElem?_append_right (by simpa [r.len] using hi2), List.getElem?_replicate, r.len]
        rename_i h
        rw [List.length_map] at h ⊢
        rw [r.len, if_pos h]
      · cases e
  · exfalso
    unfold start0 at e1
    by_cases hi : i < ds.length
    · rw [List.getElem?_append_left (by simpa using hi), List.getElem?_map, List.getElem?_eq_getElem hi] at e1
      cases e1
    · have hi2 : ds.length ≤ i := by omega
      rw [List.getElem?_append_right (by simpa using hi2), List.getElem?_replicate] at e1
      split at e1 <;> cases e1
  · exfalso
    unfold start0 at e
    by_cases hi : i < ds.length
    · rw [List.getElem?_append_left (by simpa using hi), List.getElem?_map, List.getElem?_eq_getElem hi] at e
      cases e
    · have hi2 : ds.length ≤ i := by omega
      rw [List.getElem?_append_right (by simpa using hi2), List.getElem?_replicate] at e
      split at e <;> cases e
section
variable {P : Program} {w : World} {K : PySem.W.Frag} {mg : Str → Option Value} {base : Heap}
abbrev ambOf (E : XK) (G0 H0 : Hp) : Amb := ⟨fun cls d _ H => E cls d H, G0, H0⟩
theorem fn_ok {x qual : Str} {st : Stmt} {f : Addr} {fd : FuncData} {N ps : List Str} {k : Nat} {b : En → Out} (F : Fun K x qual st f fd) (S : FnScope N ps (defScope st))
    (body : ∀ (cdv : Value) (A : Around) (outer : List Env) (s : Shared) (H G0 : Hp) (E : XK), GS k (cxOf (L2.CX P w) P w K mg base N qual (defScope st) f cdv A outer s H E) (ambOf E G0 H) →
      PSs (cxOf (L2.CX P w) P w K mg base N qual (defScope st) f cdv A outer s H E) (defBody st) (tS K mg (ambOf E G0 H) b)) :
    FnOk P w K mg base (L2.CX P w) (k + 1) f fd ps (spOf K mg ps.length (runF N.length b)) := by
  refine F.okX S (fun vs H Q E h => h.1) (fun cdv A outer s H vs Q E hr h => ?_)
  obtain ⟨hl, G, ds, sg, r, q⟩ := h
  have c : GS k (cxOf (L2.CX P w) P w K mg base N qual (defScope st) f cdv A outer s H E) (ambOf E G H) := ⟨⟨takes_of rfl rfl rfl rfl, hr, rfl, S.nd⟩, passes_of rfl, rfl, rfl⟩
  refine ⟨_, body cdv A outer s H G E c, start0 N.length ds, G, start_ok sg r, ?_⟩
  unfold runF at q
  cases h : b (start0 N.length ds) with
  | next ρ => rw [h] at q; exact fun σ' G' H' r' _ => q .non G' H' r'.gr .non
  | brk ρ => rw [h] at q; exact q.elim
  | cont ρ => rw [h] at q; exact q.elim
  | exc e ρ => rw [h] at q; exact fun d σ' G' H' r' _ xr => q d G' H' r'.gr xr
  | stuck => rw [h] at q; exact q.elim
  | ret rv =>
    rw [h] at q
    cases rv with
    | sh d => exact fun v G' H' g _ r => q v G' H' g r
    | ow xs => exact fun l us G' H' g _ n1 n2 h1 r => q l us G' H' g n1 n2 h1 r
theorem fn_mk {x qual : Str} {st : Stmt} {f : Addr} {fd : FuncData} {N ps : List Str} {k : Nat} {b : En → Out} (F : Fun K x qual st f fd) (S : FnScope N ps (defScope st)) (hm : mg x = some (.ref f)) (hb : Binds K fd ps [])
    (body : ∀ (cdv : Value) (A : Around) (outer : List Env) (s : Shared) (H G0 : Hp) (E : XK), GS k (cxOf (L2.CX P w) P w K mg base N qual (defScope st) f cdv A outer s H E) (ambOf E G0 H) →
      PSs (cxOf (L2.CX P w) P w K mg base N qual (defScope st) f cdv A outer s H E) (defBody st) (tS K mg (ambOf E G0 H) b)) :
    FnP P w K mg base (k + 1) x ps (runF N.length b) := ⟨f, fd, fn_ok F S body, hm, F.kp, hb⟩
end

/-! ## comprehensions -/
def lcL (i : Nat) (tt : En → Res Bool) (te : En → Res D) : List D → En → Res (List D)
  | [], _ => .ok []
  | d :: ds, ρ => match tt (ρ.set i (.sh d)) with
    | .ok true => (match te (ρ.set i (.sh d)) with
      | .ok v => (match lcL i tt te ds ρ with | .ok vs => .ok (v :: vs) | _ => .stuck)
      | _ => .stuck)
    | .ok false => lcL i tt te ds ρ
    | _ => .stuck
def lcE (it : En → Res (List D)) (i : Nat) (tt : En → Res Bool) (te : En → Res D) : En → Res (List D) := fun ρ => (it ρ).bind fun ds => gd (ds.length ≤ sizeLine) (lcL i tt te ds ρ)
def yesB : En → Res Bool := fun _ => .ok true
section
variable {X : Cx} {a : Amb} {elt tg iter c : Expr} {ifs : List Expr} {scope : Scope} {pos : Pos} {it : En → Res (List D)} {tt : En → Res Bool} {te : En → Res D} {i : Nat}
theorem ts_nil : PTs X [] (tT X.K X.mg a yesB) := ⟨fun pins s σ H Q I ⟨ρ, G, hR, q⟩ => (pts_nil (X := X)).run pins s σ H Q I (q G H (Grow.refl (R.sub hR)))⟩
theorem ts_one (h : PT X c (tT X.K X.mg a tt)) : PTs X [c] (tT X.K X.mg a tt) := pts_one h
theorem lc_run (σ : L2.St) (H : Hp) (Q : VK) (h : tO X.K X.mg a (lcE it i tt te) σ H Q) : tLc (tI X.K X.mg a it) (gName i) (tT X.K X.mg (aB a) tt) (tD X.K X.mg (aB a) te) [i] σ H Q := by
  obtain ⟨ρ, G, hR, q⟩ := h
  refine ⟨ρ, G, hR, (PostE.bind q).imp fun ds _ q1 J G1 H1 g ok Dl hD => ?_⟩
  obtain ⟨hz, q1⟩ := PostE.gd q1
  cases hL : lcL i tt te ds ρ with
  | stuck => rw [hL] at q1; exact q1.elim
  | exc e =>
    exfalso
    have no : ∀ (ds : List D), lcL i tt te ds ρ ≠ .exc e := by
      intro ds
      induction ds with
      | nil => intro z; cases z
      | cons d ds ih =>
        intro z
        unfold lcL at z
        repeat' (first | (split at z) | exact ih z | cases z)
    exact no ds hL
  | ok vs =>
    rw [hL] at q1
    have hR0 : R X.K a.G0 a.H0 (ρ.set i .no) (wipe σ [i]) G H := R.setNo hR i none
    refine ⟨fun j m H' => m = ds.length - j ∧ j ≤ ds.length ∧ ∃ G' acc done rest, Grow G1 H1 G' H' ∧ G' Dl = none ∧ H' Dl = some (.lst acc) ∧ Reps X.K G' acc done ∧ done.length ≤ j ∧ lcL i tt te (ds.drop j) ρ = .ok rest ∧ vs = done ++ rest,
      ⟨ds.length, by simp, Nat.zero_le _, G1, [], [], vs, Grow.own g.s hD, g.s.free hD, upd_same, .nil, Nat.le_refl _, by rw [List.drop_zero]; exact hL, rfl⟩, ?_⟩
    rintro j m H' ⟨rfl, hj, G', acc, done, rest, gg, nD, eD, rD, lD, eL, eV⟩
    obtain ⟨stop, go⟩ := ok H' (gg.g.trans gg.s) j
    by_cases hl : j < ds.length
    · refine .inr ?_
      have e1 : ds[j]? = some ds[j] := List.getElem?_eq_getElem hl
      obtain ⟨h1, h2⟩ := go _ e1
      rw [List.drop_eq_getElem_cons hl] at eL
      refine ⟨h1, fun H2 => ∃ G' acc done rest, Grow G1 H1 G' H2 ∧ G' Dl = none ∧ H2 Dl = some (.lst acc) ∧ Reps X.K G' acc done ∧ done.length ≤ j + 1 ∧ lcL i tt te (ds.drop (j + 1)) ρ = .ok rest ∧ vs = done ++ rest, fun H2 w => ⟨ds.length - (j + 1), by omega, rfl, hl, w⟩, fun x H2 y => ?_⟩
      obtain ⟨rfl, rx⟩ := h2 x H2 y
      have rx' := Rep.mono gg.g _ _ rx
      refine ⟨by simp [wipe], ?_⟩
      have hR1 : R X.K a.G0 a.H0 (ρ.set i (.sh ds[j])) ((wipe σ [i]).set i (some x)) G' H2 := by
        have := R.setSh ((hR0.grow g).grow gg) i rx'
        rwa [List.set_set] at this
      unfold lcL at eL
      refine ⟨ρ.set i (.sh ds[j]), G', hR1, ?_⟩
      cases ht : tt (ρ.set i (.sh ds[j])) with
      | stuck => rw [ht] at eL; cases eL
      | exc e => rw [ht] at eL; cases eL
      | ok b =>
        rw [ht] at eL
        intro G2 H3 g2
        have nD2 : G2 Dl = none := g2.f Dl nD (by rw [eD]; simp)
        cases b with
        | false => exact ⟨G2, acc, done, rest, gg.trans g2, nD2, g2.h _ _ eD, Reps.mono g2.g _ _ rD, by omega, eL, eV⟩
        | true =>
          refine ⟨ρ.set i (.sh ds[j]), G2, R.grow hR1 g2, ?_⟩
          cases he : te (ρ.set i (.sh ds[j])) with
          | stuck => rw [he] at eL; cases eL
          | exc e => rw [he] at eL; cases eL
          | ok dv =>
            simp only [he] at eL
            intro v G3 H4 g3 rv
            have nD3 : G3 Dl = none := g3.f Dl nD2 (by rw [g2.h _ _ eD]; simp)
            cases hL2 : lcL i tt te (ds.drop (j + 1)) ρ with
            | stuck => rw [hL2] at eL; cases eL
            | exc e => rw [hL2] at eL; cases eL
            | ok rs =>
              rw [hL2] at eL
              cases eL
              refine ⟨acc, g3.h _ _ (g2.h _ _ eD), by rw [rD.len]; omega, G3, acc ++ [v], done ++ [dv], rs, ((gg.trans g2).trans g3).mut hD nD3, nD3, upd_same, (Reps.mono (g2.g.trans g3.g) _ _ rD).app (.cons rv .nil), by simp; omega, rfl, by rw [eV, List.append_assoc]; rfl⟩
    · have e : j = ds.length := by omega
      subst e
      rw [List.drop_length] at eL
      cases eL
      rw [List.append_nil] at eV
      subst eV
      exact .inl ⟨stop (Nat.le_refl _), q1 Dl acc G' H' (g.trans gg) (g.h.free hD) nD eD rD⟩
theorem o_lc {x : Str} {k : Nat} (ge : GE k X a) (hi : PI X tg iter (tI X.K X.mg a it)) (ok : blkC X.N X.env.scope scope [(x, i)] = true)
    (hg : ∀ (s : Shared) (H : Hp) (C : Addr) (cl : List (Str × Addr)) (fp : List Addr), PG (X.blk s H scope (compEnvC scope cl C X.env) fp) tg (gName i))
    (ht : ∀ (s : Shared) (H : Hp) (C : Addr) (cl : List (Str × Addr)) (fp : List Addr), PTs (X.blk s H scope (compEnvC scope cl C X.env) fp) ifs (tT X.K X.mg (aB a) tt))
    (he : ∀ (s : Shared) (H : Hp) (C : Addr) (cl : List (Str × Addr)) (fp : List Addr), PE (X.blk s H scope (compEnvC scope cl C X.env) fp) elt (tD X.K X.mg (aB a) te)) (hs : ∀ x, foldedSetIterable iter X.env x = pure x := by intro _; rfl) :
    PE X (.ListComp elt [⟨tg, iter, ifs, 0⟩] scope pos) (tO X.K X.mg a (lcE it i tt te)) :=
  (pe_lc (own := [(x, i)]) ge.calm ge.nd hi (blkOk_by ok) hg ht he hs).imp lc_run
/-- name = [..] -/
theorem s_setLc {j : Nat} {x y : Str} {py spos : Pos} {k : Nat} (ge : GE k X a) (hy : X.N[j]? = some y) (hyl : X.env.scope.names.lookup y = some .local) (hsw : swapsWith (.ListComp elt [⟨tg, iter, ifs, 0⟩] scope pos) (some (.Name y py)) spos.line X.env = pure true)
    (hi : PI X tg iter (tI X.K X.mg a it)) (ok : blkC X.N X.env.scope scope [(x, i)] = true)
    (hg : ∀ (s : Shared) (H : Hp) (C : Addr) (cl : List (Str × Addr)) (fp : List Addr), PG (X.blk s H scope (compEnvC scope cl C X.env) fp) tg (gName i))
    (ht : ∀ (s : Shared) (H : Hp) (C : Addr) (cl : List (Str × Addr)) (fp : List Addr), PTs (X.blk s H scope (compEnvC scope cl C X.env) fp) ifs (tT X.K X.mg (aB a) tt))
    (he : ∀ (s : Shared) (H : Hp) (C : Addr) (cl : List (Str × Addr)) (fp : List Addr), PE (X.blk s H scope (compEnvC scope cl C X.env) fp) elt (tD X.K X.mg (aB a) te)) (hs : ∀ x, foldedSetIterable iter X.env x = pure x := by intro _; rfl) :
    PS X (.Assign [.Name y py] (.ListComp elt [⟨tg, iter, ifs, 0⟩] scope pos) spos) (tS X.K X.mg a (sSetO j (lcE it i tt te))) :=
  (ps_setLc (own := [(x, i)]) ge.calm ge.nd hy hyl hsw hi (blkOk_by ok) hg ht he hs).imp fun Dn σ H ⟨ρ, G, hR, q⟩ => lc_run σ H _ ⟨ρ, G, hR, (ofR_post hR q).imp fun d _ q1 l vs G' H' g n1 n2 h1 r => q1 _ G' H' (R.setNew hR j g n1 n2 h1 (.lst r)) g.g⟩
/-- .. shared at once -/
theorem s_setLcS {j : Nat} {x y : Str} {py spos : Pos} {k : Nat} (ge : GE k X a) (hy : X.N[j]? = some y) (hyl : X.env.scope.names.lookup y = some .local) (hsw : swapsWith (.ListComp elt [⟨tg, iter, ifs, 0⟩] scope pos) (some (.Name y py)) spos.line X.env = pure true)
    (hi : PI X tg iter (tI X.K X.mg a it)) (ok : blkC X.N X.env.scope scope [(x, i)] = true)
    (hg : ∀ (s : Shared) (H : Hp) (C : Addr) (cl : List (Str × Addr)) (fp : List Addr), PG (X.blk s H scope (compEnvC scope cl C X.env) fp) tg (gName i))
    (ht : ∀ (s : Shared) (H : Hp) (C : Addr) (cl : List (Str × Addr)) (fp : List Addr), PTs (X.blk s H scope (compEnvC scope cl C X.env) fp) ifs (tT X.K X.mg (aB a) tt))
    (he : ∀ (s : Shared) (H : Hp) (C : Addr) (cl : List (Str × Addr)) (fp : List Addr), PE (X.blk s H scope (compEnvC scope cl C X.env) fp) elt (tD X.K X.mg (aB a) te)) (hs : ∀ x, foldedSetIterable iter X.env x = pure x := by intro _; rfl) :
    PS X (.Assign [.Name y py] (.ListComp elt [⟨tg, iter, ifs, 0⟩] scope pos) spos) (tS X.K X.mg a (sSet j (own (lcE it i tt te)))) :=
  (ps_setLc (own := [(x, i)]) ge.calm ge.nd hy hyl hsw hi (blkOk_by ok) hg ht he hs).imp fun Dn σ H ⟨ρ, G, hR, q⟩ => lc_run σ H _ ⟨ρ, G, hR, (PostE.bind (ofR_post hR q)).imp fun d _ q1 l vs G' H' g n1 n2 h1 r =>
    q1 _ _ H' (R.setSh (R.grow hR (g.share n1 n2 h1)) j (.lst upd_same (Reps.mono (same_new n2) _ _ r))) (g.share n1 n2 h1).g⟩
end
end PL

set_option maxRecDepth 100000
set_option maxHeartbeats 1000000
namespace PL
open PySem PySem.Spec PyProof.Rows L2

/-! ## try with several clauses «except X as n» -/
/-- a clause: the class, the slot of its name, its suite's reading -/
structure Cla where
  c : Value
  i : Nat
  ts : Addr → Value → Option Addr → TS
def wrapE (i : Nat) (D : Ends) : Ends := ⟨fun σ H => D.nx (σ.set i none) H, D.rt, fun σ H => D.bk (σ.set i none) H, fun σ H => D.ct (σ.set i none) H⟩
def wCl (K : PySem.W.Frag) (W : WX) (D : Ends) : List Cla → WX
  | [] => W
  | l :: r => fun cls d σ H => ∃ b, PySem.W.exmOne K cls l.c = some b ∧ (b = true → ∀ a, H a = none → l.ts a cls d (wrapE l.i D) (σ.set l.i (some (.ref a))) H) ∧ (b = false → wCl K W D r cls d σ H)
inductive ClOk (X : Cx) : List ExceptHandler → List Cla → Prop
  | nil : ClOk X [] []
  | cons {x n : Str} {l : Cla} {b0 : Stmt} {bs : List Stmt} {np ps : Pos} {hds : List ExceptHandler} {r : List Cla} (hc : Names X x l.c) (hi : X.N[l.i]? = some n) (hl : X.env.kindOf n = some .local)
      (hs : ∀ (a : Addr) (oe : Obj) (cls : Value) (d : Option Addr) (pn : List (Addr × Obj)), Zc cls d oe → (∃ vs, oe.data = .fields vs) → PSs (X.suite a ((a, oe) :: pn)) (b0 :: bs) (l.ts a cls d)) (h : ClOk X hds r) :
      ClOk X (.ExceptHandler (some (.Name x np)) (some n) (b0 :: bs) ps :: hds) (l :: r)
/-- an exception caught in X -/
structure Cau (X : Cx) (pins : List (Addr × Obj)) (σ : L2.St) (H : Hp) (B : Heap) (a : Addr) (cls : Value) (d : Option Addr) (sI s : Shared) : Prop where
  J : Inv X pins σ H sI
  nb : ∀ b o, sI.heap.get? b = some o → b ∉ frs X.stack → B.get? b = some o
  up : sI.heap.UpToSlots s.heap
  fl : HandSPX.FlyingZ B (X.env :: X.outer) a (Zc cls d) s.heap
  na : H a = none
  nL : a ≠ X.env.locals
  nF : a ∉ X.fs
  os : s.os = sI.os
  ag : AllBare s.gens
section
variable {X : Cx} {pins : List (Addr × Obj)} {σ : L2.St} {H : Hp} {B : Heap} {a : Addr} {cls : Value} {d : Option Addr} {sI s : Shared} {W : WX} {Dn : Ends}
theorem Cau.land (c : Cau X pins σ H B a cls d sI s) {h : Heap} (fl : HandSPX.FlyingZ B (X.env :: X.outer) a (Zc cls d) h) (up : s.heap.UpToSlots h) : Cau X pins σ H B a cls d sI { s with heap := h } :=
  ⟨c.J, c.nb, c.up.trans up, fl, c.na, c.nL, c.nF, c.os, c.ag⟩
theorem Cau.inv (c : Cau X pins σ H B a cls d sI s) : Inv X pins σ H s := c.J.landed c.nb c.fl.1 c.up c.os c.ag
theorem Cau.suite (c : Cau X pins σ H B a cls d sI s) : ∃ oe, Zc cls d oe ∧ (∃ vs, oe.data = .fields vs) ∧ s.heap.get? a = some oe ∧ Inv (X.suite a ((a, oe) :: (X.pn ++ pins))) [] σ H s := by
  obtain ⟨oe, vs, h1, h2, h3⟩ := c.fl.there
  exact ⟨oe, h2, ⟨vs, h3⟩, h1, c.inv.suite h1 h3 c.na c.nL c.nF⟩
/-- no clause took it: it goes on -/
theorem Cau.on (c : Cau X pins σ H B a cls d sI s) (hs : X.stack = X.env :: X.outer) (hf : X.env.frame = some X.env.locals) (tk : Takes X W) (w : W cls d σ H) : wpAny (model X.prog X.w) X.A (handleBy (.ref a) X.env []) (SP X pins Dn) X.xe s := by
  refine wpAny_handleBy_nil ?_
  have fl0 := c.fl
  obtain ⟨k1, k2, k3, oe, vs, T, oT, ts', he, hz, hd, h1, hr⟩ := c.fl
  unfold PySem.passOn
  refine wpAny_bind (wpAny_field he hd h1 ?_)
  rw [if_neg (show ¬ ((Value.ref T == Value.none) = true) by simp)]
  have go : wpAny (model X.prog X.w) X.A (setFlight (.ref a) X.env.frame) (fun _ t => wpAny (model X.prog X.w) X.A (throw (.ref a) : Sem Flow) (SP X pins Dn) X.xe t) X.xe s := by
    rw [hf]
    refine HandSPX.setFlight_upZ fl0 fun h4 hh4 up4 => wpAny_throw (tk _ _ ?_)
    exact ⟨a, B, sI, pins, σ, H, cls, d, rfl, c.J, c.nb, c.up.trans up4, .inr (.inr (by rw [hs]; exact hh4)), c.na, c.os, c.ag, w⟩
  first | exact wpAny_bind (wpAny_pure (wpAny_bind go)) | exact wpAny_bind go
theorem Cau.clauses (hs : X.stack = X.env :: X.outer) (hf : X.env.frame = some X.env.locals) (hN : X.N.Nodup) (tk : Takes X W) : ∀ {hds : List ExceptHandler} {ls : List Cla}, ClOk X hds ls → ∀ {s : Shared}, Cau X pins σ H B a cls d sI s → wCl X.K W Dn ls cls d σ H →
    wpAny (model X.prog X.w) X.A (handleBy (.ref a) X.env hds) (SP X pins Dn) X.xe s := by
  intro hds ls ok
  induction ok with
  | nil => intro s c w; exact c.on hs hf tk w
  | @cons x n l b0 bs np ps hds r hc hi hl hsu h ih =>
    intro s c w
    obtain ⟨b, e1, yes, no⟩ := w
    obtain ⟨oe, z1, z2, z3, S⟩ := c.suite
    have okX := c.J.ok
    refine wpAny_handleBy_cons (codeAny_handlers_test ?_) (by intro q; cases q)
    have lt : PySem.W.Looks (model X.prog X.w) s.heap (typeOf (.ref a)) cls := fun A Q E s' k q => wpAny_typeOf_ref (k _ _ z3) (by rw [z1.1]; exact q)
    have lm := PySem.W.exm_one (M := model X.prog X.w) c.inv.kIn lt e1
    have asked : ∀ {Q E : Value → Shared → Prop}, Q l.c s → wpAny (model X.prog X.w) (X.A.mark (some (.ref a))) (eval (.Name x np) X.env) Q E s := fun {Q E} q => by
      obtain ⟨g1, g2, g3 | ⟨g3, g4, g5⟩⟩ := hc
      · exact ld_glob (X := X.suite a ((a, oe) :: (X.pn ++ pins))) S g1 g3 q g2
      · exact ld_blt (X := X.suite a ((a, oe) :: (X.pn ++ pins))) S g1 g3 g4 q g5 g2
    refine asked (lm.here ?_)
    cases b with
    | false =>
      show wpAny _ X.A (handleBy (.ref a) X.env hds) _ _ _
      exact ih c (no rfl)
    | true =>
      refine codeAny_handlers_suite_as (HandSPX.lands_againZ c.fl fun h4 fl4 up4 => ?_)
      have c4 := c.land fl4 up4
      obtain ⟨oe4, y1, y2, y3, S4⟩ := c4.suite
      refine store_ok (X := X.suite a ((a, oe4) :: (X.pn ++ pins))) (v := .ref a) S4 hN hi (.inl hl) rfl (fun s5 S5 => ?_) (.inr hl)
      refine wpAny_mono ((hsu a oe4 cls d (X.pn ++ pins) y1 y2).run [] s5 _ H _ S5 (yes rfl a c.na)) (fun f s6 q => ?_) (fun _ _ z => False.elim z)
      have gone : ∀ {σ6 : L2.St} {H6 : Hp} {Q : Shared → Prop}, Inv (X.suite a ((a, oe4) :: (X.pn ++ pins))) [] σ6 H6 s6 → (∀ s7, Inv X pins (σ6.set l.i none) H6 s7 → Q s7) →
          wpAny (model X.prog X.w) X.A (do bindName X.env n .none; unbindBehindTheSuite X.env n ps) (fun _ s7 => Q s7) X.xe s6 := fun {σ6 H6 Q} S6 hq => gone_ok (S6.unsuite okX) hN hi hl hq
      cases f with
      | next => obtain ⟨σ6, H6, S6, q6⟩ := q; exact gone S6 fun s7 J7 => ⟨_, _, J7, q6⟩
      | brk => obtain ⟨σ6, H6, S6, q6⟩ := q; exact gone S6 fun s7 J7 => ⟨_, _, J7, q6⟩
      | cont => obtain ⟨σ6, H6, S6, q6⟩ := q; exact gone S6 fun s7 J7 => ⟨_, _, J7, q6⟩
      | ret u => obtain ⟨v6, σ6, H6, S6, r6, q6⟩ := q; exact gone S6 fun s7 J7 => ⟨_, _, _, J7, r6, q6⟩
theorem ps_try_cl {body : List Stmt} {h0 : ExceptHandler} {hds : List ExceptHandler} {ls : List Cla} {pos : Pos} {tb : WX → TS} (hs : X.stack = X.env :: X.outer) (hf : X.env.frame = some X.env.locals) (hN : X.N.Nodup) (tk : Takes X W)
    (hb : ∀ (W' : WX) (pn : List (Addr × Obj)) (xe : Value → Shared → Prop), Takes (X.tr pn xe) W' → PassesOwn (model X.prog X.w) X.A X.env xe → PSs (X.tr pn xe) body (tb W'))
    (hh : ClOk X (h0 :: hds) ls) : PS X (.Try body (h0 :: hds) [] [] pos) (fun D σ H => tb (wCl X.K W D ls) D σ H) := by
  refine ⟨fun pins s σ H D I h => ?_⟩
  have ok := I.ok
  have fr : X.A.frames = some (X.env :: X.outer) := by rw [ok.frames, hs]
  refine wpAny_Try_except ?_
  refine wpAny_mono ((hb (wCl X.K W D ls) (X.pn ++ pins) (fun e s1 => wpAny (model X.prog X.w) X.A (noteFrame e X.env) (fun _ s2 => wpAny (model X.prog X.w) X.A (setFlight e none) (fun _ s3 =>
    wpAny (model X.prog X.w) X.A (handleBy e X.env (h0 :: hds)) (SP X pins D) X.xe s3) X.xe s2) X.xe s1) (fun u s' xx => ?_) PassesOwn.looking).run [] s σ H D (I.toTry _) h) (fun f s1 q => ?_) (fun e s1 he => he)
  · obtain ⟨a, B, sI, pins', σ', H', cls, d, rfl, J', nb, up, sky, na, os, ag, w⟩ := xx
    have J : Inv X pins σ' H' sI := J'.ofTry ok
    show wpAny (model X.prog X.w) X.A (noteFrame (.ref a) X.env) _ _ _
    refine Sky.land Zc.steady fr hf (by rw [← hs]; exact sky : Sky B (X.env :: X.outer) a (Zc cls d) X.env.locals s'.heap) fun h3 fl3 up3 => ?_
    obtain ⟨oe3, vs3, he3, hz3, hd3⟩ := fl3.there
    have nfr : a ∉ frs (X.env :: X.outer) := fun hm => by
      obtain ⟨_, o', e', hnf⟩ := fl3.2.2.1.mem hm
      rw [he3] at e'; cases e'
      exact hnf _ hd3
    have nL : a ≠ X.env.locals := fun z => nfr (List.mem_filterMap.mpr ⟨X.env, List.mem_cons_self, by rw [hf, z]⟩)
    have nF : a ∉ X.fs := fun hm => by
      obtain ⟨e, he, q⟩ := List.mem_filterMap.mp hm
      exact nfr (List.mem_filterMap.mpr ⟨e, List.mem_cons_of_mem _ he, q⟩)
    exact Cau.clauses hs hf hN tk hh (s := { s' with heap := h3 }) ⟨J, nb, up.trans up3, fl3, na, nL, nF, os, ag⟩ w
  · cases f with
    | next => obtain ⟨σ', H', J', q⟩ := q; exact wpAny_execs_nil ⟨σ', H', J'.ofTry ok, q⟩
    | brk => obtain ⟨σ', H', J', q⟩ := q; exact ⟨σ', H', J'.ofTry ok, q⟩
    | cont => obtain ⟨σ', H', J', q⟩ := q; exact ⟨σ', H', J'.ofTry ok, q⟩
    | ret u => obtain ⟨v, σ', H', J', r, q⟩ := q; exact ⟨v, σ', H', J'.ofTry ok, r, q⟩
end
end PL

set_option maxRecDepth 100000
set_option maxHeartbeats 1000000
namespace PL
open PySem PySem.Spec PyProof.Rows L2

/-! ## own exceptions -/
def spIn (C : Addr) (fl : List Str) : Sp := fun vs H Q _ => ∃ a ws, vs = .ref a :: ws ∧ ws.length = fl.length ∧ H a = some (exo a C none) ∧
  ∀ d H2, H d = none → d ≠ a → H2 a = some (exo a C (some d)) → H2 d = some (exd d ((fl.zip ws).reverse)) → (∀ b, b ≠ a → b ≠ d → H2 b = H b) → Q .non H2
structure ExT (P : Program) (w : World) (K : PySem.W.Frag) (mg : Str → Option Value) (base : Heap) (x : Str) (fl : List Str) (C : Addr) : Prop where
  gC : mg x = some (.ref C)
  oex : OexC K C
  xf : XfC K C
  noF : ∀ f ∈ fl, PySem.W.findIn K (.ref C) f = some none
  fn : ∃ fI fd, PySem.W.findIn K (.ref C) "__init__" = some (some (.ref fI)) ∧ PySem.W.typeIn K (.ref fI) = some (.type "function") ∧ FnOk P w K mg base CX0 2 fI fd ("self" :: fl) (spIn C fl) ∧ Binds K fd ("self" :: fl) []
theorem Reps.rev {K : PySem.W.Frag} {G : Hp} : ∀ {ds : List D} {vs : List V}, Reps K G vs ds → Reps K G vs.reverse ds.reverse
  | [], _, .nil => .nil
  | d :: ds, _, .cons h r => by
    rw [List.reverse_cons, List.reverse_cons]
    exact (Reps.rev r).app (.cons h .nil)
theorem zip_rev {α β γ : Type} : ∀ {fl : List α} {ds : List β} {ws : List γ}, ds.length = fl.length → ws.length = fl.length → (((fl.zip ds).reverse).map (·.1)).zip ws.reverse = (fl.zip ws).reverse := by
  intro fl ds ws h1 h2
  have e : ((fl.zip ds).reverse).map (·.1) = fl.reverse := by
    rw [List.map_reverse, List.map_fst_zip (by omega)]
  rw [e]
  apply List.ext_getElem
  · simp [h2]
  · intro i a1 a2
    simp only [List.getElem_zip, List.getElem_reverse, List.length_zip]
    simp at a1
    congr 1 <;> (congr 1 <;> omega)
def sRaise (mk : List D → Res Exc) (fs : En → Res (List D)) : En → Out := fun ρ => ofR ρ (fs ρ) fun ds => ofR ρ (mk ds) fun e => .exc e ρ
def mkBV : List D → Res Exc | [w] => .ok (.badValue w) | _ => .stuck
def mkTM : List D → Res Exc | [w] => .ok (.tooMany w) | _ => .stuck
def mkBT : List D → Res Exc | [l, w, x] => .ok (.badText l w x) | _ => .stuck
def mkNP : List D → Res Exc | [w] => .ok (.noPlacing w) | _ => .stuck
def mkRF : List D → Res Exc | [w] => .ok (.refused w) | _ => .stuck
/-- the maker makes the class's exceptions -/
def MkX (x : Str) (fl : List Str) (mk : List D → Res Exc) : Prop := ∀ ds r, mk ds = r → r = .stuck ∨ ∃ e, r = .ok e ∧ e.cls = x ∧ ds.length = fl.length ∧ e.flds = (fl.zip ds).reverse
theorem mkx_bv : MkX "BadValue" ["what"] mkBV := fun ds r h => by
  unfold mkBV at h; split at h <;> subst h
  · exact .inr ⟨_, rfl, rfl, rfl, rfl⟩
  · exact .inl rfl
theorem mkx_tm : MkX "TooMany" ["limit"] mkTM := fun ds r h => by
  unfold mkTM at h; split at h <;> subst h
  · exact .inr ⟨_, rfl, rfl, rfl, rfl⟩
  · exact .inl rfl
theorem mkx_bt : MkX "BadText" ["line", "word", "what"] mkBT := fun ds r h => by
  unfold mkBT at h; split at h <;> subst h
  · exact .inr ⟨_, rfl, rfl, rfl, rfl⟩
  · exact .inl rfl
theorem mkx_np : MkX "NoPlacing" ["members"] mkNP := fun ds r h => by
  unfold mkNP at h; split at h <;> subst h
  · exact .inr ⟨_, rfl, rfl, rfl, rfl⟩
  · exact .inl rfl
theorem mkx_rf : MkX "Refused" ["reason"] mkRF := fun ds r h => by
  unfold mkRF at h; split at h <;> subst h
  · exact .inr ⟨_, rfl, rfl, rfl, rfl⟩
  · exact .inl rfl
section
variable {X : Cx} {a : Amb} {e : Expr} {es : List Expr} {fs : En → Res (List D)} {pos p pos2 : Pos} {x : Str} {fl : List Str} {C : Addr} {k : Nat} {mk : List D → Res Exc}
theorem s_raise (T : ExT X.prog X.w X.K X.mg X.base x fl C) (c : GS k X a) (hk : 3 ≤ k) (hmk : MkX x fl mk) (ha : PA X (e :: es) (tA X.K X.mg a fs)) (hfl : fl.length ≤ 10 := by decide) (hg : Gl X x := by rfl)
    (hdb : (x == ("__debug__" : Str)) = false := by decide) (he : starEach (e :: es) X.env = (false, eval e X.env) :: starEach es X.env := by rfl) (hpl : (backTo pos (starEach es X.env)).any (·.1) = false := by rfl) :
    PS X (.Raise (some (.Call (.Name x p) (e :: es) [] pos)) none pos2) (tS X.K X.mg a (sRaise mk fs)) := by
  obtain ⟨fI, fd, iC, tI, F1, hb⟩ := T.fn
  refine (ps_raise c.calm c.tk (pmk_oex T.oex iC tI F1 (c.hr.mono hk) hb .nil pass0 hg T.gC ha hdb he hpl)).imp fun Dn σ H ⟨ρ, G, hR, q⟩ => ?_
  refine ⟨ρ, G, hR, (ofR_post hR q).imp fun ds _ q1 vs G' H' g r => ?_⟩
  rcases hmk ds _ rfl with h | ⟨ex, h, hc, hl, hf⟩
  · rw [h] at q1; exact q1.elim
  · rw [h] at q1
    have hlv : vs.length = fl.length := by rw [r.len, hl]
    refine ⟨by omega, fun b hb => ?_⟩
    rw [List.append_nil]
    refine ⟨b, vs, rfl, hlv, upd_same, fun d H2 hd hne h2a h2d rest => ⟨rfl, d, _, h2a, h2d, ?_, ?_⟩⟩
    · rw [upd_ne hne] at hd; exact hd
    · have hd' : H' d = none := by rw [upd_ne hne] at hd; exact hd
      have sm : Same H' (upd (L2.del H2 b) d (.xd ((fl.zip vs).reverse))) := fun y o ey => by
        have n1 : y ≠ d := ne_of_none ey hd'
        have n2 : y ≠ b := ne_of_none ey hb
        rw [upd_ne n1, del_ne n2, rest y n2 n1, upd_ne n2]
        exact ey
      have gg : Grow G H G' (upd (L2.del H2 b) d (.xd ((fl.zip vs).reverse))) := ⟨g.g, g.h.trans sm, g.s.trans sm, g.f⟩
      have cls : clOf X.mg ex.cls = .ref C := by unfold clOf; rw [hc, T.gC]; rfl
      rw [← cls]
      refine q1 d σ G' _ (R.grow hR gg) gg.g ⟨vs.reverse, ?_, ?_⟩
      · rw [hf, zip_rev hl hlv]
        exact upd_same
      · rw [hf, List.map_reverse, List.map_snd_zip (by omega)]
        exact r.rev
end

/-! ## own exceptions' makers: __init__ with one field, with three -/
section
variable {P : Program} {w : World} {K : PySem.W.Frag} {mg : Str → Option Value} {base : Heap}
/-- self.f = f, in such a body -/
theorem ost {X : Cx} {f : Str} {o e : Expr} {to te : TE} {p' pos : Pos} (ho : PE X o to) (he : PE X e te) (hs : swapsWith e (some (.Attribute o f p')) pos.line X.env = pure false := by rfl) : PS X (.Assign [.Attribute o f p'] e pos) (tOst X.K f to te) := ps_ost ho he hs
theorem init1 {f : Addr} {fd : FuncData} {qual fl : Str} {st : Stmt} {C : Addr} (F : Fun K "__init__" qual st f fd) (S : FnScope [("self" : Str), fl] [("self" : Str), fl] (defScope st)) (o : OexC K C) (no : PySem.W.findIn K (.ref C) fl = some none)
    (body : ∀ (cdv : Value) (A : Around) (outer : List Env) (s : Shared) (H : Hp) (E : XK), PSs (cxOf CX0 P w K mg base [("self" : Str), fl] qual (defScope st) f cdv A outer s H E).nox (defBody st) (tOst K fl (tVar 0) (tVar 1))) : FnOk P w K mg base CX0 2 f fd [("self" : Str), fl] (spIn C [fl]) := by
  refine F.ok S (fun vs H Q E h => ?_) (fun cdv A outer s H vs Q E hr h => ?_)
  · obtain ⟨a, ws, rfl, hl, _⟩ := h
    simpa using hl
  · obtain ⟨a, ws, rfl, hl, ha, q⟩ := h
    match ws, hl with
    | [w1], _ =>
      refine ⟨_, body cdv A outer s H E, ?_⟩
      refine ⟨w1, rfl, .ref a, rfl, a, C, rfl, o, no, .inl ⟨ha, fun dx n1 n2 => ?_⟩⟩
      refine q dx _ n1 n2 upd_same ?_ fun b h1 h2 => ?_
      · rw [upd_ne n2, upd_same] <;> rfl
      · rw [upd_ne h1, upd_ne h2]
theorem init3 {f : Addr} {fd : FuncData} {qual f1 f2 f3 : Str} {st : Stmt} {C : Addr} (F : Fun K "__init__" qual st f fd) (S : FnScope [("self" : Str), f1, f2, f3] [("self" : Str), f1, f2, f3] (defScope st)) (o : OexC K C) (n1 : PySem.W.findIn K (.ref C) f1 = some none) (n2 : PySem.W.findIn K (.ref C) f2 = some none) (n3 : PySem.W.findIn K (.ref C) f3 = some none)
    (body : ∀ (cdv : Value) (A : Around) (outer : List Env) (s : Shared) (H : Hp) (E : XK), PSs (cxOf CX0 P w K mg base [("self" : Str), f1, f2, f3] qual (defScope st) f cdv A outer s H E).nox (defBody st) (tSeq (tOst K f1 (tVar 0) (tVar 1)) (tSeq (tOst K f2 (tVar 0) (tVar 2)) (tOst K f3 (tVar 0) (tVar 3))))) : FnOk P w K mg base CX0 2 f fd [("self" : Str), f1, f2, f3] (spIn C [f1, f2, f3]) := by
  refine F.ok S (fun vs H Q E h => ?_) (fun cdv A outer s H vs Q E hr h => ?_)
  · obtain ⟨a, ws, rfl, hl, _⟩ := h
    simpa using hl
  · obtain ⟨a, ws, rfl, hl, ha, q⟩ := h
    match ws, hl with
    | [w1, w2, w3], _ =>
      refine ⟨_, body cdv A outer s H E, ?_⟩
      refine ⟨w1, rfl, .ref a, rfl, a, C, rfl, o, n1, .inl ⟨ha, fun dx m1 m2 => ?_⟩⟩
      have e1 : upd (upd H dx (exd dx [(f1, w1)])) a (exo a C (some dx)) dx = some (exd dx [(f1, w1)]) := by rw [upd_ne m2, upd_same]
      refine ⟨w2, rfl, .ref a, rfl, a, C, rfl, o, n2, .inr ⟨dx, _, upd_same, e1, (by simp), ?_⟩⟩
      refine ⟨w3, rfl, .ref a, rfl, a, C, rfl, o, n3, .inr ⟨dx, _, ?_, upd_same, (by simp), ?_⟩⟩
      · rw [upd_ne (Ne.symm m2), upd_same]
      · refine q dx _ m1 m2 ?_ ?_ fun b h1 h2 => ?_
        · rw [upd_ne (Ne.symm m2), upd_ne (Ne.symm m2), upd_same]
        · exact upd_same
        · rw [upd_ne h2, upd_ne h2, upd_ne h1, upd_ne h2]
end

/-! ## try -/
/-- a clause: which exceptions it takes, the slot of its name, what it does -/
structure Clz where
  kn : Exc → Bool
  is : Exc → Bool
  i : Nat
  f : Exc → En → Out
/-- the name of the clause goes -/
def unset (i : Nat) : Out → Out
  | .next ρ => .next (ρ.set i .no) | .brk ρ => .brk (ρ.set i .no) | .cont ρ => .cont (ρ.set i .no) | .ret r => .ret r | .exc _ _ => .stuck | .stuck => .stuck
def tryO : List Clz → Exc → En → Out
  | [], e, ρ => .exc e ρ
  | l :: r, e, ρ => if l.kn e then (if l.is e then unset l.i (l.f e (ρ.set l.i .no)) else tryO r e ρ) else .stuck
def sTry (b : En → Out) (ls : List Clz) : En → Out := fun ρ => match b ρ with | .exc e ρ' => tryO ls e ρ' | o => o
/-- what a suite knows: e caught, at the address p, its dict at d -/
def Su (K : PySem.W.Frag) (mg : Str → Option Value) (a : Amb) (i : Nat) (p : Addr) (cls : Value) (d : Option Addr) (e : Exc) (ρ : En) (σ : L2.St) (G H : Hp) : Prop :=
  (∃ dd, d = some dd ∧ XR K G H dd e) ∧ cls = clOf mg e.cls ∧ (∀ o, σ[i]? = some o → o = some (.ref p)) ∧ RR K a ρ σ G H
theorem XR.grow {K : PySem.W.Frag} {G H G' H' : Hp} {d : Addr} {e : Exc} (g : Grow G H G' H') (x : XR K G H d e) : XR K G' H' d e := by
  obtain ⟨vs, h1, h2⟩ := x
  exact ⟨vs, g.h _ _ h1, Reps.mono g.g _ _ h2⟩
theorem Su.grow {K : PySem.W.Frag} {mg : Str → Option Value} {a : Amb} {i : Nat} {p : Addr} {cls : Value} {d : Option Addr} {e : Exc} {ρ : En} {σ : L2.St} {G H G' H' : Hp} (s : Su K mg a i p cls d e ρ σ G H) (g : Grow G H G' H') : Su K mg a i p cls d e ρ σ G' H' := by
  obtain ⟨⟨dd, h1, h2⟩, h3, h4, h5⟩ := s
  exact ⟨⟨dd, h1, h2.grow g⟩, h3, h4, R.grow h5 g⟩
section
variable (K : PySem.W.Frag) (mg : Str → Option Value) (a : Amb) (i : Nat) (p : Addr) (cls : Value) (d : Option Addr)
def tSu (f : Exc → En → Out) : TS := fun Dn σ H => ∃ e ρ G, Su K mg a i p cls d e ρ σ G H ∧ Post K mg (aB a) Dn G (f e ρ)
def tX (f : Exc → En → Res D) : TE := fun σ H Q => ∃ e ρ G, Su K mg a i p cls d e ρ σ G H ∧ PostE K mg (aB a) σ G H (f e ρ) fun z => ∀ v G' H', Grow G H G' H' → Rep K G' v z → Q v H'
def tXA (f : Exc → En → Res (List D)) : TA := fun σ H Q => ∃ e ρ G, Su K mg a i p cls d e ρ σ G H ∧ PostE K mg (aB a) σ G H (f e ρ) fun z => ∀ v G' H', Grow G H G' H' → Reps K G' v z → Q v H'
end
/-- the clauses' meanings and readings -/
inductive ClzOk (X : Cx) (a : Amb) : List ExceptHandler → List Clz → Prop
  | nil : ClzOk X a [] []
  | cons {x n : Str} {C : Addr} {l : Clz} {b0 : Stmt} {bs : List Stmt} {np ps : Pos} {hds : List ExceptHandler} {r : List Clz} (hc : Names X x (.ref C)) (hi : X.N[l.i]? = some n) (hl : X.env.kindOf n = some .local)
      (hm : ∀ e, l.kn e = true → PySem.W.exmOne X.K (clOf X.mg e.cls) (.ref C) = some (l.is e))
      (hs : ∀ (p : Addr) (oe : Obj) (cls : Value) (d : Option Addr) (pn : List (Addr × Obj)), Zc cls d oe → (∃ vs, oe.data = .fields vs) → PSs (X.suite p ((p, oe) :: pn)) (b0 :: bs) (tSu X.K X.mg a l.i p cls d l.f)) (h : ClzOk X a hds r) :
      ClzOk X a (.ExceptHandler (some (.Name x np)) (some n) (b0 :: bs) ps :: hds) (l :: r)
section
variable {X : Cx} {a : Amb} {k : Nat}
theorem clz_cl {hds : List ExceptHandler} {ls : List Clz} (h : ClzOk X a hds ls) : ∃ cs : List Cla, ClOk X hds cs ∧
    ∀ (Dn : Ends) (e : Exc) (ρ : En) (d : Addr) (σ : L2.St) (G H : Hp), RR X.K a ρ σ G H → XR X.K G H d e → Post X.K X.mg a Dn G (tryO ls e ρ) → wCl X.K a.W Dn cs (clOf X.mg e.cls) (some d) σ H := by
  induction h with
  | nil => exact ⟨[], .nil, fun Dn e ρ d σ G H r x p => p d σ G H r (Same.refl _) x⟩
  | @cons x n C l b0 bs np ps hds r hc hi hl hm hs h ih =>
    obtain ⟨cs, h1, h2⟩ := ih
    refine ⟨⟨.ref C, l.i, fun p cls d => tSu X.K X.mg a l.i p cls d l.f⟩ :: cs, .cons hc hi hl hs h1, fun Dn e ρ d σ G H r x p => ?_⟩
    unfold tryO at p
    by_cases hk : l.kn e = true
    case neg => rw [if_neg hk] at p; exact p.elim
    rw [if_pos hk] at p
    refine ⟨l.is e, hm e hk, fun hb q hq => ?_, fun hb => ?_⟩
    · rw [hb, if_pos rfl] at p
      refine ⟨e, ρ.set l.i .no, G, ⟨⟨d, rfl, x⟩, rfl, fun o ho => ?_, R.setNo r l.i _⟩, ?_⟩
      · rcases get_set ho with ⟨_, z, _⟩ | ⟨z, _⟩
        · exact z
        · exact absurd rfl z
      · cases hf : l.f e (ρ.set l.i .no) with
        | next ρ2 => rw [hf] at p; exact fun σ' G' H' r' s' => p _ G' H' (R.setNo r' l.i none) s'
        | brk ρ2 => rw [hf] at p; exact fun σ' G' H' r' s' => p _ G' H' (R.setNo r' l.i none) s'
        | cont ρ2 => rw [hf] at p; exact fun σ' G' H' r' s' => p _ G' H' (R.setNo r' l.i none) s'
        | ret rv => rw [hf] at p; cases rv <;> exact p
        | exc e2 ρ2 => rw [hf] at p; exact p.elim
        | stuck => rw [hf] at p; exact p.elim
    · rw [hb, if_neg Bool.false_ne_true] at p
      exact h2 Dn e ρ d σ G H r x p
theorem s_try {body : List Stmt} {h0 : ExceptHandler} {hds : List ExceptHandler} {ls : List Clz} {pos : Pos} {F : En → Out} (c : GS k X a)
    (hb : ∀ (W' : WX) (pn : List (Addr × Obj)) (xe : Value → Shared → Prop), GS k (X.tr pn xe) { a with W := W' } → PSs (X.tr pn xe) body (tS X.K X.mg { a with W := W' } F))
    (hh : ClzOk X a (h0 :: hds) ls) : PS X (.Try body (h0 :: hds) [] [] pos) (tS X.K X.mg a (sTry F ls)) := by
  obtain ⟨cs, h1, h2⟩ := clz_cl hh
  refine (ps_try_cl (tb := fun W' => tS X.K X.mg { a with W := W' } F) c.hs c.hf c.nd c.tk (fun W' pn xe tk po => hb W' pn xe (c.tr tk po)) h1).imp fun Dn σ H ⟨ρ, G, hR, q⟩ => ?_
  refine ⟨ρ, G, hR, ?_⟩
  unfold sTry at q
  cases hF : F ρ with
  | exc e ρ' => rw [hF] at q; exact fun d σ' G' H' r' s' x => h2 Dn e ρ' d σ' G' H' r' x (Post.mono s' q)
  | next ρ2 => rw [hF] at q; exact q
  | brk ρ2 => rw [hF] at q; exact q
  | cont ρ2 => rw [hF] at q; exact q
  | ret rv => rw [hF] at q; cases rv <;> exact q
  | stuck => rw [hF] at q; exact q.elim
theorem exm_pair {K : PySem.W.Frag} {A C : Addr} {b : Bool} (h1 : PySem.W.subIn K (.ref C) (.type "BaseException") = some true) (h2 : PySem.W.isClsIn K C = true) (h3 : PySem.W.typeIn K (.ref C) = some (.type "type")) (h4 : PySem.W.subIn K (.ref A) (.ref C) = some b) : PySem.W.exmOne K (.ref A) (.ref C) = some b := by
  have e1 : (PySem.W.subIn K (.ref C) (.type "BaseException") == some true) = true := by rw [h1] <;> rfl
  have z : (PySem.W.clsIn K C).isSome = true := h2
  have e2 : ((PySem.W.clsIn K C).isSome && PySem.W.typeIn K (.ref C) == some (.type "type")) = true := by rw [z, h3] <;> rfl
  show (if (PySem.W.subIn K (.ref C) (.type "BaseException") == some true) = true then (if ((PySem.W.clsIn K C).isSome && PySem.W.typeIn K (.ref C) == some (.type "type")) = true then PySem.W.subIn K (.ref A) (.ref C) else none) else none) = some b
  rw [if_pos e1, if_pos e2]
  exact h4
end
/-! in a suite -/
def fldX (x fld : Str) : Exc → En → Res D := fun e _ => gd (e.cls = x) (match e.flds.lookup fld with | some d => .ok d | none => .stuck)
section
variable {X : Cx} {a : Amb} {i : Nat} {p : Addr} {oe : Obj} {cls : Value} {d : Option Addr} {pn : List (Addr × Obj)} {e b : Expr} {es : List Expr} {pos : Pos} {f g : Exc → En → Res D} {fs : Exc → En → Res (List D)}
theorem x_lift {f : En → Res D} (h : PE (X.suite p ((p, oe) :: pn)) e (tD X.K X.mg (aB a) f)) : PE (X.suite p ((p, oe) :: pn)) e (tX X.K X.mg a i p cls d fun _ => f) :=
  h.imp fun σ H Q ⟨ex, ρ, G, hS, q⟩ => ⟨ρ, G, hS.2.2.2, q⟩
theorem lookup_zip {K : PySem.W.Frag} {G : Hp} {fld : Str} {z : D} : ∀ {fs : List (Str × D)} {vs : List V}, Reps K G vs (fs.map (·.2)) → fs.lookup fld = some z → ∃ v, ((fs.map (·.1)).zip vs).lookup fld = some v ∧ Rep K G v z
  | [], _, _, h => by cases h
  | (x, d) :: r, _, .cons (v := v) (vs := vs) h1 h2, h => by
    show ∃ w, List.lookup fld ((x, v) :: (r.map (·.1)).zip vs) = some w ∧ _
    by_cases hx : (fld == x) = true
    · rw [List.lookup_cons, hx] at h
      simp only at h
      cases h
      exact ⟨v, by rw [List.lookup_cons, hx], h1⟩
    · have hx' : (fld == x) = false := by simpa using hx
      rw [List.lookup_cons, hx'] at h
      obtain ⟨w, e1, e2⟩ := lookup_zip h2 h
      exact ⟨w, by rw [List.lookup_cons, hx']; exact e1, e2⟩
theorem x_fld {x n fld : Str} {C : Addr} {flds : List Str} {np : Pos} (T : ExT X.prog X.w X.K X.mg X.base x flds C) (hm : fld ∈ flds) (hz : Zc cls d oe) (hf : ∃ vs, oe.data = .fields vs) (hi : X.N[i]? = some n)
    (hv : Vis X.env.scope n := by first | exact Or.inl rfl | exact Or.inr (Or.inl rfl) | exact Or.inr (Or.inr rfl)) (hd : (n == ("__debug__" : Str)) = false := by decide) (hcd : (n == ("__classdict__" : Str)) = false := by decide)
    (hb : attributeBase (.Name n np) fld X.env (eval (.Name n np) X.env) = eval (.Name n np) X.env := by rfl) : PE (X.suite p ((p, oe) :: pn)) (.Attribute (.Name n np) fld pos) (tX X.K X.mg a i p cls d (fldX x fld)) := by
  refine ⟨fun pins s σ H Q I ⟨ex, ρ, G, ⟨⟨dd, h1, vs, h2, h3⟩, h4, h5, h6⟩, q⟩ => ?_⟩
  obtain ⟨hx, q1⟩ := PostE.gd q
  refine (pe_xf T.xf (T.noF fld hm) hz hf (pe_var (X := X.suite p ((p, oe) :: pn)) hi hv hd hcd) hb).run pins s σ H Q I ?_
  have hlen : i < σ.length := by
    have e1 : σ.length = X.N.length := I.len
    rw [e1]; exact (List.getElem?_eq_some_iff.mp hi).1
  have e2 := h5 _ (List.getElem?_eq_getElem hlen)
  cases hL : ex.flds.lookup fld with
  | none => rw [hL] at q1; exact q1.elim
  | some z =>
    rw [hL] at q1
    obtain ⟨v, e3, e4⟩ := lookup_zip h3 hL
    refine ⟨.ref p, by rw [List.getElem?_eq_getElem hlen, e2], rfl, ?_, dd, _, v, h1, h2, e3, q1 v G H (Grow.refl (R.sub h6)) e4⟩
    rw [h4, hx]; unfold clOf; rw [T.gC]; rfl
theorem xa_nil : PA (X.suite p ((p, oe) :: pn)) [] (tXA X.K X.mg a i p cls d fun _ => aNil) := pa_nil.imp fun σ H Q ⟨ex, ρ, G, hS, q⟩ => q [] G H (Grow.refl (R.sub hS.2.2.2)) .nil
theorem xa_cons (h : PE (X.suite p ((p, oe) :: pn)) e (tX X.K X.mg a i p cls d f)) (hs : PA (X.suite p ((p, oe) :: pn)) es (tXA X.K X.mg a i p cls d fs)) (hst : starEach (e :: es) X.env = (false, eval e X.env) :: starEach es X.env := by rfl) :
    PA (X.suite p ((p, oe) :: pn)) (e :: es) (tXA X.K X.mg a i p cls d fun ex => aCons (f ex) (fs ex)) :=
  (pa_cons h hs hst).imp fun σ H Q ⟨ex, ρ, G, hS, q⟩ => ⟨ex, ρ, G, hS, (PostE.bind q).imp fun x e1 q1 v G' H' g1 r1 =>
    ⟨ex, ρ, G', hS.grow g1, ((PostE.bind q1).grow g1).imp fun xs e2 q2 vs G2 H2 g2 r2 => q2 (v :: vs) G2 H2 (g1.trans g2) (.cons (Rep.mono g2.g _ _ r1) r2)⟩⟩
theorem x_tup {x1 : Nat} (hs : PA (X.suite p ((p, oe) :: pn)) es (tXA X.K X.mg a i p cls d fs)) : PE (X.suite p ((p, oe) :: pn)) (.Tuple es x1 pos) (tX X.K X.mg a i p cls d fun ex => app tupD (fs ex)) :=
  (pe_tup hs).imp fun σ H Q ⟨ex, ρ, G, hS, q⟩ => ⟨ex, ρ, G, hS, (PostE.bind q).imp fun xs e1 q1 vs G' H' g1 r1 => by
    obtain ⟨hz, q1⟩ := PostE.gd q1
    exact ⟨by rw [r1.len]; exact hz, fun y hp => q1 (.ref y) _ _ (g1.trans (Grow.new g1.s hp)) (.tup (SqT.of upd_same) (Reps.mono (same_new (g1.s.free hp)) _ _ r1))⟩⟩
def xRet (f : Exc → En → Res D) : Exc → En → Out := fun ex ρ => ofR ρ (f ex ρ) fun z => .ret (.sh z)
theorem su_ret (h : PE (X.suite p ((p, oe) :: pn)) e (tX X.K X.mg a i p cls d f)) : PSs (X.suite p ((p, oe) :: pn)) [.Return (some e) pos] (tSu X.K X.mg a i p cls d (xRet f)) :=
  (pss_one (ps_ret h)).imp fun Dn σ H ⟨ex, ρ, G, hS, q⟩ => ⟨ex, ρ, G, hS, (ofR_post (a := aB a) hS.2.2.2 q).imp fun x _ q1 v G' H' g r => q1 v G' H' (hS.2.2.2.gr.trans g) g.g r⟩
end
end PL

set_option maxRecDepth 100000
set_option maxHeartbeats 1000000
namespace PL
open PySem PySem.Spec PyProof.Rows L2

/-! ## lists of one's own, changed -/
def owL (ρ : En) (i : Nat) : Res (List D) := match ρ[i]? with | some (.ow (.lst xs)) => .ok xs | _ => .stuck
theorem owL_eq {ρ : En} {i : Nat} {xs : List D} (h : owL ρ i = .ok xs) : ρ[i]? = some (.ow (.lst xs)) := by
  unfold owL at h
  cases e : ρ[i]? with
  | none => rw [e] at h; cases h
  | some s => cases s with
    | no => rw [e] at h; cases h
    | tmp _ => rw [e] at h; cases h
    | sh d => rw [e] at h; cases h
    | ow o => cases o with
      | dk k => rw [e] at h; cases h
      | lst ys => rw [e] at h; cases h; rfl
def setL (ρ : En) (i : Nat) (xs : List D) : En := ρ.set i (.ow (.lst xs))
/-- i.append(f) -/
def sApp (i : Nat) (f : En → Res D) : En → Out := fun ρ => ofR ρ (owL ρ i) fun xs => ofR ρ (f ρ) fun d => ofR ρ (gd (xs.length < sizeLine) (.ok ())) fun _ => .next (setL ρ i (xs ++ [d]))
/-- i.pop() as a statement -/
def sPop (i : Nat) : En → Out := fun ρ => ofR ρ (owL ρ i) fun xs => ofR ρ (gd (xs ≠ []) (.ok ())) fun _ => .next (setL ρ i xs.dropLast)
/-- i.pop(f) as a statement -/
def popAt (xs : List D) : D → Res (List D) | .int n => gd (0 ≤ n ∧ n < xs.length ∧ xs.length < 2 ^ 62) (.ok (xs.eraseIdx n.toNat)) | _ => .stuck
def sPopAt (i : Nat) (f : En → Res D) : En → Out := fun ρ => ofR ρ (owL ρ i) fun xs => ofR ρ (f ρ) fun d => ofR ρ (popAt xs d) fun ys => .next (setL ρ i ys)
/-- i.insert(f, g) -/
def insAt (xs : List D) : List D → Res (List D) | [.int n, d] => gd (xs.length < sizeLine ∧ 0 ≤ n ∧ n < 2 ^ 63) (.ok (xs.take n.toNat ++ [d] ++ xs.drop n.toNat)) | _ => .stuck
def sIns (i : Nat) (fs : En → Res (List D)) : En → Out := fun ρ => ofR ρ (owL ρ i) fun xs => ofR ρ (fs ρ) fun ds => ofR ρ (insAt xs ds) fun ys => .next (setL ρ i ys)
/-- i[f] = g -/
def putAt (xs : List D) (d : D) : D → Res (List D) | .int n => (match ixN xs.length n with | some j => .ok (xs.set j d) | none => .stuck) | _ => .stuck
def sPut (i : Nat) (f g : En → Res D) : En → Out := fun ρ => ofR ρ (owL ρ i) fun xs => ofR ρ (g ρ) fun d => ofR ρ (f ρ) fun n => ofR ρ (putAt xs d n) fun ys => .next (setL ρ i ys)
/-- i[f], i a list of one's own -/
def ixO (i : Nat) (f : En → Res D) : En → Res D := fun ρ => (owL ρ i).bind fun xs => (f ρ).bind fun n => match n with
  | .int n => (match atI xs n with | some d => .ok d | none => .stuck)
  | _ => .stuck
mutual
/-- no list in it -/
def scl : D → Bool | .non => true | .bl _ => true | .int _ => true | .str _ => true | .tup xs => sclA xs | _ => false
def sclA : List D → Bool | [] => true | d :: ds => scl d && sclA ds
end
def sclX (e : Exc) : Bool := sclA (e.flds.map (·.2))
/-- a list of one's own is read: the value is a scalar -/
def borE (i : Nat) (f : En → Res D) : En → Res D := fun ρ => match owL ρ i with
  | .ok xs => (match f (ρ.set i (.sh (.lst xs))) with
    | .ok d => gd (scl d = true) (.ok d)
    | .exc e => gd (sclX e = true) (.exc e)
    | .stuck => .stuck)
  | _ => .stuck
def borT (i : Nat) (f : En → Res Bool) : En → Res Bool := fun ρ => match owL ρ i with
  | .ok xs => (match f (ρ.set i (.sh (.lst xs))) with
    | .ok d => .ok d
    | .exc e => gd (sclX e = true) (.exc e)
    | .stuck => .stuck)
  | _ => .stuck
theorem sqt_ne {K : PySem.W.Frag} {G G' : Hp} {l p : Addr} {vs us : List V} (hG : G l = some (.lst vs)) (hs : ∀ b x, b ≠ l → G b = some x → G' b = some x) (h : SqT K G p us) : SqT K G' p us := by
  rcases h with (h | ⟨o, h⟩) | h
  · exact .inl (.inl (hs _ _ (fun z => by rw [z, hG] at h; cases h) h))
  · exact .inl (.inr ⟨o, hs _ _ (fun z => by rw [z, hG] at h; cases h) h⟩)
  · exact .inr h
mutual
theorem scl_rep {K : PySem.W.Frag} {G G' : Hp} {l : Addr} {vs : List V} (hG : G l = some (.lst vs)) (hs : ∀ b x, b ≠ l → G b = some x → G' b = some x) : ∀ (d : D) (v : V), scl d = true → Rep K G v d → Rep K G' v d
  | .non, _, _, .non => .non
  | .bl _, _, _, .bl b => .bl b
  | .int _, _, _, .int b => .int b
  | .str _, _, _, .str b => .str b
  | .tup ds, _, h, .tup s r => .tup (sqt_ne hG hs s) (scl_reps hG hs ds _ h r)
theorem scl_reps {K : PySem.W.Frag} {G G' : Hp} {l : Addr} {vs : List V} (hG : G l = some (.lst vs)) (hs : ∀ b x, b ≠ l → G b = some x → G' b = some x) : ∀ (ds : List D) (us : List V), sclA ds = true → Reps K G us ds → Reps K G' us ds
  | [], _, _, .nil => .nil
  | d :: ds, _, h, .cons r rr => .cons (scl_rep hG hs d _ (Bool.and_eq_true_iff.mp h).1 r) (scl_reps hG hs ds _ (Bool.and_eq_true_iff.mp h).2 rr)
end
/-- all but l -/
def less (G : Hp) (l : Addr) : Hp := fun b => if b = l then none else G b
theorem less_grow {G H G' H' : Hp} {l : Addr} {vs : List V} (sb : Same G H) (hg : G l = none) (g : Grow (upd G l (.lst vs)) H G' H') : Grow G H (less G' l) H' where
  g := fun b x e => by
    have : b ≠ l := fun z => by rw [z, hg] at e; cases e
    show (if b = l then none else G' b) = some x
    rw [if_neg this]
    exact g.g b x (by rw [upd_ne this]; exact e)
  h := g.h
  s := fun b x e => by
    unfold less at e
    split at e
    · cases e
    · exact g.s b x e
  f := fun b h1 h2 => by
    unfold less
    split
    · rfl
    · rename_i z
      exact g.f b (by rw [upd_ne z]; exact h1) h2
theorem less_keep {G' : Hp} {l : Addr} : ∀ b x, b ≠ l → G' b = some x → less G' l b = some x := fun b x h e => by unfold less; rw [if_neg h]; exact e
theorem owL_nox {ρ : En} {i : Nat} {e : Exc} : owL ρ i ≠ .exc e := by unfold owL; split <;> (intro z; cases z)
theorem ow_post {K : PySem.W.Frag} {mg : Str → Option Value} {a : Amb} {Dn : Ends} {G : Hp} {ρ : En} {i : Nat} {k : List D → Out} (h : Post K mg a Dn G (ofR ρ (owL ρ i) k)) : ∃ xs, owL ρ i = .ok xs ∧ Post K mg a Dn G (k xs) := by
  cases e : owL ρ i with
  | ok xs => rw [e] at h; exact ⟨xs, rfl, h⟩
  | exc ex => exact absurd e owL_nox
  | stuck => rw [e] at h; exact h.elim
theorem gd_post {K : PySem.W.Frag} {mg : Str → Option Value} {a : Amb} {Dn : Ends} {G : Hp} {ρ : En} {α : Type} {c : Prop} [Decidable c] {r : Res α} {k : α → Out} (h : Post K mg a Dn G (ofR ρ (gd c r) k)) : c ∧ Post K mg a Dn G (ofR ρ r k) := by
  by_cases hc : c
  · rw [gd_pos hc] at h; exact ⟨hc, h⟩
  · have e : gd c r = .stuck := if_neg hc
    rw [e] at h; exact h.elim
section
variable {X : Cx} {a : Amb} {e b : Expr} {es : List Expr} {f g : En → Res D} {fs : En → Res (List D)} {pos p pos2 apos : Pos} {x : Str} {i : Nat}
theorem s_app (i : Nat) (h : PE X e (tD X.K X.mg a f)) (hN : X.N[i]? = some x := by rfl) (hv : Vis X.env.scope x := by first | exact Or.inl rfl | exact Or.inr (Or.inl rfl) | exact Or.inr (Or.inr rfl)) (hd : (x == ("__debug__" : Str)) = false := by decide) (hcd : (x == ("__classdict__" : Str)) = false := by decide)
    (hsw : swapsWith (.Call (.Attribute (.Name x p) "append" apos) [e] [] pos) none pos2.line X.env = pure false := by rfl)
    (hbase : attributeBase (.Name x p) "append" X.env (eval (.Name x p) X.env) = eval (.Name x p) X.env := by rfl)
    (hfew : ((backTo pos (starEach (e :: []) X.env)).all (fun x => !x.1) && (backToKw pos (keywordEach [] X.env)).all (fun x => x.1.isSome) && decide ((e :: ([] : List Expr)).length + ([] : List Keyword).length + (if ([] : List Keyword).isEmpty then 0 else 1) < 30)) = true := by rfl)
    (hline : (apos.endLine == pos.line) = true := by rfl) (hs : starEach (e :: []) X.env = (false, eval e X.env) :: starEach [] X.env := by rfl) (hplain : (backTo pos (starEach [] X.env)).any (·.1) = false := by rfl) :
    PS X (.Expr (.Call (.Attribute (.Name x p) "append" apos) [e] [] pos) pos2) (tS X.K X.mg a (sApp i f)) :=
  (ps_expr (pe_bm PySem.F.plainAttrs_list PySem.F.slot_list_append PySem.F.type_list_append mt_append (pe_var hN hv hd hcd) (pa_cons h pa_nil hs) hbase hfew hline hs hplain) hsw).imp fun Dn σ H ⟨ρ, G, hR, q⟩ => by
    obtain ⟨xs, hx, q⟩ := ow_post q
    obtain ⟨l, vs, e1, h0, hg, hh, r⟩ := R.owL hR (owL_eq hx)
    refine ⟨.ref l, e1, Or.inl ⟨rfl, vs, SqL.of hh⟩, ρ, G, hR, (ofR_post hR q).imp fun d _ q1 v G' H' gr rd => ?_⟩
    obtain ⟨hz, q1⟩ := gd_post q1
    exact ⟨l, vs, v, rfl, rfl, gr.h _ _ hh, by rw [r.len]; exact hz, q1 σ G' _ (R.write (R.grow hR gr) (owL_eq hx) e1 (.lst ((Reps.mono gr.g _ _ r).app (.cons rd .nil)))) gr.g⟩
theorem s_ins (i : Nat) (h : PA X (e :: es) (tA X.K X.mg a fs)) (hN : X.N[i]? = some x := by rfl) (hv : Vis X.env.scope x := by first | exact Or.inl rfl | exact Or.inr (Or.inl rfl) | exact Or.inr (Or.inr rfl)) (hd : (x == ("__debug__" : Str)) = false := by decide) (hcd : (x == ("__classdict__" : Str)) = false := by decide)
    (hsw : swapsWith (.Call (.Attribute (.Name x p) "insert" apos) (e :: es) [] pos) none pos2.line X.env = pure false := by rfl)
    (hbase : attributeBase (.Name x p) "insert" X.env (eval (.Name x p) X.env) = eval (.Name x p) X.env := by rfl)
    (hfew : ((backTo pos (starEach (e :: es) X.env)).all (fun x => !x.1) && (backToKw pos (keywordEach [] X.env)).all (fun x => x.1.isSome) && decide ((e :: es).length + ([] : List Keyword).length + (if ([] : List Keyword).isEmpty then 0 else 1) < 30)) = true := by rfl)
    (hline : (apos.endLine == pos.line) = true := by rfl) (hs : starEach (e :: es) X.env = (false, eval e X.env) :: starEach es X.env := by rfl) (hplain : (backTo pos (starEach es X.env)).any (·.1) = false := by rfl) :
    PS X (.Expr (.Call (.Attribute (.Name x p) "insert" apos) (e :: es) [] pos) pos2) (tS X.K X.mg a (sIns i fs)) :=
  (ps_expr (pe_bm PySem.F.plainAttrs_list PySem.F.slot_list_insert PySem.F.type_list_insert mt_insert (pe_var hN hv hd hcd) h hbase hfew hline hs hplain) hsw).imp fun Dn σ H ⟨ρ, G, hR, q⟩ => by
    obtain ⟨xs, hx, q⟩ := ow_post q
    obtain ⟨l, vs, e1, h0, hg, hh, r⟩ := R.owL hR (owL_eq hx)
    refine ⟨.ref l, e1, Or.inl ⟨rfl, vs, SqL.of hh⟩, ρ, G, hR, (ofR_post hR q).imp fun ds _ q1 us G' H' gr rd => ?_⟩
    unfold insAt at q1
    split at q1
    · obtain ⟨v, u, rfl, r1, r2⟩ := reps2 rd
      obtain ⟨⟨hz, h1, h2⟩, q1⟩ := gd_post q1
      cases r1
      have rr := Reps.mono gr.g _ _ r
      exact ⟨l, vs, _, u, rfl, rfl, gr.h _ _ hh, by rw [r.len]; exact hz, h1, h2, q1 σ G' _ (R.write (R.grow hR gr) (owL_eq hx) e1 (.lst (((rr.take _).app (.cons r2 .nil)).app (rr.drop _)))) gr.g⟩
    · exact q1.elim
theorem s_pop (i : Nat) (hN : X.N[i]? = some x := by rfl) (hv : Vis X.env.scope x := by first | exact Or.inl rfl | exact Or.inr (Or.inl rfl) | exact Or.inr (Or.inr rfl)) (hd : (x == ("__debug__" : Str)) = false := by decide) (hcd : (x == ("__classdict__" : Str)) = false := by decide)
    (hsw : swapsWith (.Call (.Attribute (.Name x p) "pop" apos) [] [] pos) none pos2.line X.env = pure false := by rfl)
    (hbase : attributeBase (.Name x p) "pop" X.env (eval (.Name x p) X.env) = eval (.Name x p) X.env := by rfl) (hline : (apos.endLine == pos.line) = true := by rfl) :
    PS X (.Expr (.Call (.Attribute (.Name x p) "pop" apos) [] [] pos) pos2) (tS X.K X.mg a (sPop i)) :=
  (ps_expr (pe_bm0 PySem.F.plainAttrs_list PySem.F.slot_list_pop PySem.F.type_list_pop mt_pop (pe_var hN hv hd hcd) hbase hline) hsw).imp fun Dn σ H ⟨ρ, G, hR, q⟩ => by
    obtain ⟨xs, hx, q⟩ := ow_post q
    obtain ⟨l, vs, e1, h0, hg, hh, r⟩ := R.owL hR (owL_eq hx)
    obtain ⟨hz, q⟩ := gd_post q
    have hl : vs.length - 1 < vs.length := by
      have : 0 < xs.length := by cases xs with | nil => exact absurd rfl hz | cons _ _ => simp
      rw [r.len]; omega
    have rd : Reps X.K G vs.dropLast xs.dropLast := by
      rw [List.dropLast_eq_take, List.dropLast_eq_take, r.len]; exact r.take _
    exact ⟨.ref l, e1, Or.inl ⟨rfl, vs, SqL.of hh⟩, l, vs, _, rfl, rfl, hh, List.getElem?_eq_getElem hl, q σ G _ (R.write hR (owL_eq hx) e1 (.lst rd)) (Same.refl _)⟩
theorem reps_erase {K : PySem.W.Frag} {G : Hp} : ∀ {ds : List D} {vs : List V} (n : Nat), Reps K G vs ds → Reps K G (vs.eraseIdx n) (ds.eraseIdx n)
  | [], _, n, .nil => by simpa using Reps.nil
  | d :: ds, _, 0, .cons h r => r
  | d :: ds, _, n + 1, .cons h r => .cons h (reps_erase n r)
theorem s_popAt (i : Nat) (h : PE X e (tD X.K X.mg a f)) (hN : X.N[i]? = some x := by rfl) (hv : Vis X.env.scope x := by first | exact Or.inl rfl | exact Or.inr (Or.inl rfl) | exact Or.inr (Or.inr rfl)) (hd : (x == ("__debug__" : Str)) = false := by decide) (hcd : (x == ("__classdict__" : Str)) = false := by decide)
    (hsw : swapsWith (.Call (.Attribute (.Name x p) "pop" apos) [e] [] pos) none pos2.line X.env = pure false := by rfl)
    (hbase : attributeBase (.Name x p) "pop" X.env (eval (.Name x p) X.env) = eval (.Name x p) X.env := by rfl)
    (hfew : ((backTo pos (starEach (e :: []) X.env)).all (fun x => !x.1) && (backToKw pos (keywordEach [] X.env)).all (fun x => x.1.isSome) && decide ((e :: ([] : List Expr)).length + ([] : List Keyword).length + (if ([] : List Keyword).isEmpty then 0 else 1) < 30)) = true := by rfl)
    (hline : (apos.endLine == pos.line) = true := by rfl) (hs : starEach (e :: []) X.env = (false, eval e X.env) :: starEach [] X.env := by rfl) (hplain : (backTo pos (starEach [] X.env)).any (·.1) = false := by rfl) :
    PS X (.Expr (.Call (.Attribute (.Name x p) "pop" apos) [e] [] pos) pos2) (tS X.K X.mg a (sPopAt i f)) :=
  (ps_expr (pe_bm PySem.F.plainAttrs_list PySem.F.slot_list_pop PySem.F.type_list_pop mt_popAt (pe_var hN hv hd hcd) (pa_cons h pa_nil hs) hbase hfew hline hs hplain) hsw).imp fun Dn σ H ⟨ρ, G, hR, q⟩ => by
    obtain ⟨xs, hx, q⟩ := ow_post q
    obtain ⟨l, vs, e1, h0, hg, hh, r⟩ := R.owL hR (owL_eq hx)
    refine ⟨.ref l, e1, Or.inl ⟨rfl, vs, SqL.of hh⟩, ρ, G, hR, (ofR_post hR q).imp fun d _ q1 v G' H' gr rd => ?_⟩
    unfold popAt at q1
    cases rd with
    | int n =>
      obtain ⟨⟨h1, h2, h3⟩, q1⟩ := gd_post q1
      have hn : n.toNat < vs.length := by rw [r.len]; omega
      have e2 : seqIndex? n vs.length = some n.toNat := PySem.StrLaws.seqIndex_nonneg h1 (by rw [r.len]; exact h2)
      exact ⟨l, vs, n, n.toNat, _, rfl, rfl, gr.h _ _ hh, by omega, by omega, e2, List.getElem?_eq_getElem hn, q1 σ G' _ (R.write (R.grow hR gr) (owL_eq hx) e1 (.lst (reps_erase _ (Reps.mono gr.g _ _ r)))) gr.g⟩
    | _ => exact q1.elim
theorem s_put (i : Nat) (hf : PE X b (tD X.K X.mg a f)) (hg : PE X e (tD X.K X.mg a g)) (hN : X.N[i]? = some x := by rfl) (hv : Vis X.env.scope x := by first | exact Or.inl rfl | exact Or.inr (Or.inl rfl) | exact Or.inr (Or.inr rfl)) (hd : (x == ("__debug__" : Str)) = false := by decide) (hcd : (x == ("__classdict__" : Str)) = false := by decide)
    (hs : swapsWithSole [.Subscript (.Name x p) b pos] e pos2.line X.env = pure false := by rfl) (hw : swappedStores [.Subscript (.Name x p) b pos] e X.env = pure none := by rfl)
    (h1 : (assignEach [.Subscript (.Name x p) b pos] X.env).map (·.2) = [assign (.Subscript (.Name x p) b pos) X.env] := by rfl)
    (ha : ∀ v, assign (.Subscript (.Name x p) b pos) X.env v = (do let ov ← holding [v] (eval (.Name x p) X.env); let iv ← holding [v, ov] (eval b X.env); standAt pos; holding [v, ov, iv] (setItem ov iv v); release [v, ov, iv] []) := by intro _; rfl) :
    PS X (.Assign [.Subscript (.Name x p) b pos] e pos2) (tS X.K X.mg a (sPut i f g)) :=
  (ps_asg hg (pg_sub (pe_var hN hv hd hcd) hf set_list ha) hs hw h1).imp fun Dn σ H ⟨ρ, G, hR, q⟩ => by
    obtain ⟨xs, hx, q⟩ := ow_post q
    refine ⟨ρ, G, hR, (ofR_post hR q).imp fun d _ q1 v G1 H1 g1 r1 => ?_⟩
    have hR1 := R.grow hR g1
    obtain ⟨l, vs, e1, h0, hg, hh, r⟩ := R.owL hR1 (owL_eq hx)
    refine ⟨.ref l, e1, ρ, G1, hR1, (ofR_post (a := a) hR1 (Post.mono g1.g q1)).imp fun n _ q2 u G2 H2 g2 r2 => ?_⟩
    unfold putAt at q2
    cases r2 with
    | int n =>
      cases hj : ixN xs.length n with
      | none => simp only [hj] at q2; exact q2.elim
      | some j =>
        simp only [hj] at q2
        exact ⟨l, vs, n, j, rfl, rfl, g2.h _ _ hh, by rw [r.len]; exact hj, q2 σ G2 _ (R.write (R.grow hR1 g2) (owL_eq hx) e1 (.lst (Reps.set (Rep.mono g2.g _ _ r1) _ (Reps.mono g2.g _ _ r)))) g2.g⟩
    | _ => exact q2.elim
theorem d_ixO (i : Nat) (hf : PE X b (tD X.K X.mg a f)) (hp : PlainIx b) (hN : X.N[i]? = some x := by rfl) (hv : Vis X.env.scope x := by first | exact Or.inl rfl | exact Or.inr (Or.inl rfl) | exact Or.inr (Or.inr rfl)) (hd : (x == ("__debug__" : Str)) = false := by decide) (hcd : (x == ("__classdict__" : Str)) = false := by decide) :
    PE X (.Subscript (.Name x p) b pos) (tD X.K X.mg a (ixO i f)) :=
  (pe_ix ix_list (pe_var hN hv hd hcd) hf hp).imp fun σ H Q ⟨ρ, G, hR, q⟩ => by
    unfold ixO at q
    cases hx : owL ρ i with
    | exc ex => exact absurd hx owL_nox
    | stuck => rw [hx] at q; exact q.elim
    | ok xs =>
      rw [hx] at q
      obtain ⟨l, vs, e1, h0, hg, hh, r⟩ := R.owL hR (owL_eq hx)
      refine ⟨.ref l, e1, ρ, G, hR, (PostE.bind (r := f ρ) q).imp fun n _ q1 v G' H' g1 r1 => ?_⟩
      cases r1 with
      | int n =>
        cases hj : atI xs n with
        | none => simp only [hj] at q1; exact q1.elim
        | some d =>
          simp only [hj] at q1
          obtain ⟨u, e2, r2⟩ := (Reps.mono g1.g _ _ r).atI hj
          exact ⟨l, vs, n, u, rfl, rfl, SqL.of (g1.h _ _ hh), e2, q1 u G' H' g1 r2⟩
      | _ => exact q1.elim
theorem bor_wn {σ : L2.St} {G H : Hp} {l : Addr} {vs : List V} {ex : Exc} (s : Same G H) (hg : G l = none) (hs : sclX ex = true) (w : Wn X.K X.mg a σ G H ex) : Wn X.K X.mg a σ (upd G l (.lst vs)) H ex := fun d G' H' g' xr => by
  refine w d _ H' (less_grow s hg g') ?_
  obtain ⟨us, h1, h2⟩ := xr
  exact ⟨us, h1, scl_reps (g'.g _ _ upd_same) less_keep _ _ hs h2⟩
theorem d_bor (i : Nat) (h : PE X e (tD X.K X.mg a f)) : PE X e (tD X.K X.mg a (borE i f)) :=
  h.imp fun σ H Q ⟨ρ, G, hR, q⟩ => by
    unfold borE at q
    cases hx : owL ρ i with
    | exc ex => exact absurd hx owL_nox
    | stuck => rw [hx] at q; exact q.elim
    | ok xs =>
      simp only [hx] at q
      obtain ⟨l, vs, e1, hg, hh, r, sg, hR'⟩ := R.frz hR (owL_eq hx)
      refine ⟨ρ.set i (.sh (.lst xs)), _, hR', ?_⟩
      cases hf : f (ρ.set i (.sh (.lst xs))) with
      | stuck => simp only [hf] at q; exact q.elim
      | exc ex =>
        simp only [hf] at q
        obtain ⟨h1, q⟩ := PostE.gd q
        exact bor_wn (R.sub hR) hg h1 q
      | ok d =>
        simp only [hf] at q
        obtain ⟨h1, q⟩ := PostE.gd q
        exact fun v G' H' g' r' => q v _ H' (less_grow (R.sub hR) hg g') (scl_rep (g'.g _ _ upd_same) less_keep _ _ h1 r')
theorem t_bor {t : En → Res Bool} (i : Nat) (h : PT X e (tT X.K X.mg a t)) : PT X e (tT X.K X.mg a (borT i t)) :=
  h.imp fun σ H Q ⟨ρ, G, hR, q⟩ => by
    unfold borT at q
    cases hx : owL ρ i with
    | exc ex => exact absurd hx owL_nox
    | stuck => rw [hx] at q; exact q.elim
    | ok xs =>
      simp only [hx] at q
      obtain ⟨l, vs, e1, hg, hh, r, sg, hR'⟩ := R.frz hR (owL_eq hx)
      refine ⟨ρ.set i (.sh (.lst xs)), _, hR', ?_⟩
      cases hf : t (ρ.set i (.sh (.lst xs))) with
      | stuck => simp only [hf] at q; exact q.elim
      | exc ex =>
        simp only [hf] at q
        obtain ⟨h1, q⟩ := PostE.gd q
        exact bor_wn (R.sub hR) hg h1 q
      | ok d =>
        simp only [hf] at q
        exact fun G' H' g' => q G H' ⟨Same.refl _, g'.h, (R.sub hR).trans g'.h, fun _ h _ => h⟩
/-- .. a new list made while a list of one's own is read -/
def borO (i : Nat) (f : En → Res (List D)) : En → Res (List D) := fun ρ => match owL ρ i with
  | .ok xs => (match f (ρ.set i (.sh (.lst xs))) with
    | .ok ds => gd (sclA ds = true) (.ok ds)
    | .exc e => gd (sclX e = true) (.exc e)
    | .stuck => .stuck)
  | _ => .stuck
theorem o_bor {fo : En → Res (List D)} (i : Nat) (h : PE X e (tO X.K X.mg a fo)) : PE X e (tO X.K X.mg a (borO i fo)) :=
  h.imp fun σ H Q ⟨ρ, G, hR, q⟩ => by
    unfold borO at q
    cases hx : owL ρ i with
    | exc ex => exact absurd hx owL_nox
    | stuck => rw [hx] at q; exact q.elim
    | ok xs =>
      simp only [hx] at q
      obtain ⟨l, vs, e1, hg, hh, r, sg, hR'⟩ := R.frz hR (owL_eq hx)
      refine ⟨ρ.set i (.sh (.lst xs)), _, hR', ?_⟩
      cases hf : fo (ρ.set i (.sh (.lst xs))) with
      | stuck => simp only [hf] at q; exact q.elim
      | exc ex =>
        simp only [hf] at q
        obtain ⟨h1, q⟩ := PostE.gd q
        exact bor_wn (R.sub hR) hg h1 q
      | ok d =>
        simp only [hf] at q
        obtain ⟨h1, q⟩ := PostE.gd q
        exact fun l2 us G' H' g' n1 n2 e2 r' => q l2 us _ H' (less_grow (R.sub hR) hg g') n1 (by unfold less; rw [n2, ite_self]) e2 (scl_reps (g'.g _ _ upd_same) less_keep _ _ h1 r')
end
end PL

set_option maxRecDepth 100000
set_option maxHeartbeats 1000000
namespace PL
open PySem PySem.Spec PyProof.Rows L2

/-! ## dicts of one's own, keys ints and texts -/
def keyOf : D → Res Key | .int i => .ok (.inl i) | .str s => .ok (.inr s) | _ => .stuck
def valD (kvs : List (Key × D)) (k : Key) : Option D := (kvs.find? fun kv => decide (kv.1 = k)).map (·.2)
def putD (kvs : List (Key × D)) (k : Key) (d : D) : List (Key × D) := if kvs.any (fun kv => decide (kv.1 = k)) then kvs.map fun kv => if kv.1 = k then (kv.1, d) else kv else kvs ++ [(k, d)]
def owK (ρ : En) (i : Nat) : Res (List (Key × D)) := match ρ[i]? with | some (.ow (.dk xs)) => .ok xs | _ => .stuck
theorem owK_eq {ρ : En} {i : Nat} {xs : List (Key × D)} (h : owK ρ i = .ok xs) : ρ[i]? = some (.ow (.dk xs)) := by
  unfold owK at h
  cases e : ρ[i]? with
  | none => rw [e] at h; cases h
  | some s => cases s with
    | no => rw [e] at h; cases h
    | tmp _ => rw [e] at h; cases h
    | sh d => rw [e] at h; cases h
    | ow o => cases o with
      | lst k => rw [e] at h; cases h
      | dk ys => rw [e] at h; cases h; rfl
theorem owK_nox {ρ : En} {i : Nat} {e : Exc} : owK ρ i ≠ .exc e := by unfold owK; split <;> (intro z; cases z)
theorem owK_post {K : PySem.W.Frag} {mg : Str → Option Value} {a : Amb} {Dn : Ends} {G : Hp} {ρ : En} {i : Nat} {k : List (Key × D) → Out} (h : Post K mg a Dn G (ofR ρ (owK ρ i) k)) : ∃ xs, owK ρ i = .ok xs ∧ Post K mg a Dn G (k xs) := by
  cases e : owK ρ i with
  | ok xs => rw [e] at h; exact ⟨xs, rfl, h⟩
  | exc ex => exact absurd e owK_nox
  | stuck => rw [e] at h; exact h.elim
theorem kreps_val {K : PySem.W.Frag} {G : Hp} {k : Key} : ∀ {kvs : List (Key × V)} {kds : List (Key × D)}, KReps K G kvs kds → (valV kvs k = none ∧ valD kds k = none) ∨ ∃ v d, valV kvs k = some v ∧ valD kds k = some d ∧ Rep K G v d
  | _, _, .nil => .inl ⟨rfl, rfl⟩
  | (k0, v) :: r, (_, d) :: ds, .cons h t => by
    by_cases e : k0 = k
    · exact .inr ⟨v, d, by simp [valV, e], by simp [valD, e], h⟩
    · have e1 : valV ((k0, v) :: r) k = valV r k := by simp [valV, List.find?_cons, e]
      have e2 : valD ((k0, d) :: ds) k = valD ds k := by simp [valD, List.find?_cons, e]
      rw [e1, e2]
      exact kreps_val t
theorem kreps_any {K : PySem.W.Frag} {G : Hp} {k : Key} : ∀ {kvs : List (Key × V)} {kds : List (Key × D)}, KReps K G kvs kds → (kvs.any fun kv => decide (kv.1 = k)) = kds.any fun kv => decide (kv.1 = k)
  | _, _, .nil => rfl
  | (k0, v) :: r, (_, d) :: ds, .cons h t => by simp only [List.any_cons, kreps_any t]
theorem kreps_len {K : PySem.W.Frag} {G : Hp} : ∀ {kvs : List (Key × V)} {kds : List (Key × D)}, KReps K G kvs kds → kvs.length = kds.length
  | _, _, .nil => rfl
  | (k0, v) :: r, (_, d) :: ds, .cons h t => by simp [kreps_len t]
theorem kreps_map {K : PySem.W.Frag} {G : Hp} {k : Key} {v0 : V} {d0 : D} (q : Rep K G v0 d0) : ∀ {kvs : List (Key × V)} {kds : List (Key × D)}, KReps K G kvs kds → KReps K G (kvs.map fun kv => if kv.1 = k then (kv.1, v0) else kv) (kds.map fun kv => if kv.1 = k then (kv.1, d0) else kv)
  | _, _, .nil => .nil
  | (k0, v) :: r, (_, d) :: ds, .cons h t => by
    simp only [List.map_cons]
    by_cases e : k0 = k
    · rw [if_pos e, if_pos e]; exact .cons q (kreps_map q t)
    · rw [if_neg e, if_neg e]; exact .cons h (kreps_map q t)
theorem kreps_snoc {K : PySem.W.Frag} {G : Hp} {k : Key} {v0 : V} {d0 : D} (q : Rep K G v0 d0) : ∀ {kvs : List (Key × V)} {kds : List (Key × D)}, KReps K G kvs kds → KReps K G (kvs ++ [(k, v0)]) (kds ++ [(k, d0)])
  | _, _, .nil => .cons q .nil
  | (k0, v) :: r, (_, d) :: ds, .cons h t => .cons h (kreps_snoc q t)
theorem kreps_put {K : PySem.W.Frag} {G : Hp} {k : Key} {v0 : V} {d0 : D} (q : Rep K G v0 d0) {kvs : List (Key × V)} {kds : List (Key × D)} (r : KReps K G kvs kds) : KReps K G (putK kvs k v0) (putD kds k d0) := by
  unfold putK putD
  rw [kreps_any r]
  split
  · exact kreps_map q r
  · exact kreps_snoc q r
/-- i = {} -/
def sNewK (i : Nat) : En → Out := fun ρ => .next (ρ.set i (.ow (.dk [])))
/-- i[f] = g -/
def sPutK (i : Nat) (f g : En → Res D) : En → Out := fun ρ => ofR ρ (owK ρ i) fun kvs => ofR ρ (g ρ) fun d => ofR ρ (f ρ) fun n => ofR ρ (keyOf n) fun k => ofR ρ (gd (kvs.length < sizeLine) (.ok ())) fun _ => .next (ρ.set i (.ow (.dk (putD kvs k d))))
/-- i[f], found -/
def getK (i : Nat) (f : En → Res D) : En → Res D := fun ρ => (owK ρ i).bind fun kvs => (f ρ).bind fun n => (keyOf n).bind fun k => match valD kvs k with | some d => .ok d | none => .stuck
/-- f in i -/
def inK (i : Nat) (f : En → Res D) : En → Res D := fun ρ => (owK ρ i).bind fun kvs => (f ρ).bind fun n => (keyOf n).bind fun k => .ok (.bl (valD kvs k).isSome)
theorem keyOf_rep {K : PySem.W.Frag} {G : Hp} {v : V} {d : D} {k : Key} (r : Rep K G v d) (h : keyOf d = .ok k) : v = kV k := by
  cases r <;> first | (cases h; rfl) | cases h
section
variable {X : Cx} {a : Amb} {e b : Expr} {es : List Expr} {f g : En → Res D} {fs : En → Res (List D)} {pos p pos2 apos : Pos} {x : Str} {i k : Nat}
theorem s_newK (i : Nat) (hnd : X.N.Nodup) (hN : X.N[i]? = some x := by rfl) (hx : Loc X.env.scope x := by first | exact Or.inl rfl | exact Or.inr rfl) (hfn : X.fn x = true ∨ X.env.scope.names.lookup x = some .local := by first | exact .inl rfl | exact .inr rfl)
    (hs : swapsWith (.Dict [] [] pos) (some (.Name x p)) pos2.line X.env = pure false := by rfl) : PS X (.Assign [.Name x p] (.Dict [] [] pos) pos2) (tS X.K X.mg a (sNewK i)) :=
  (ps_set hnd hN hx pe_dnewK hs hfn).imp fun Dn σ H ⟨ρ, G, hR, q⟩ => fun y hy => q _ G _ (R.setNew hR i (Grow.own (R.sub hR) hy) hy ((R.sub hR).free hy) upd_same (.dk .nil)) (Same.refl _)
theorem s_putK (i : Nat) (ge : GE k X a) (hf : PE X b (tD X.K X.mg a f)) (hg : PE X e (tD X.K X.mg a g)) (hN : X.N[i]? = some x := by rfl) (hv : Vis X.env.scope x := by first | exact Or.inl rfl | exact Or.inr (Or.inl rfl) | exact Or.inr (Or.inr rfl)) (hd : (x == ("__debug__" : Str)) = false := by decide) (hcd : (x == ("__classdict__" : Str)) = false := by decide)
    (hs : swapsWith e (some (.Subscript (.Name x p) b pos)) pos2.line X.env = pure false := by rfl) : PS X (.Assign [.Subscript (.Name x p) b pos] e pos2) (tS X.K X.mg a (sPutK i f g)) :=
  (ps_dput (hu_of ge.hr) (pe_var hN hv hd hcd) hf hg hs).imp fun Dn σ H ⟨ρ, G, hR, q⟩ => by
    obtain ⟨xs, hx, q⟩ := owK_post q
    refine ⟨ρ, G, hR, (ofR_post hR q).imp fun d _ q1 v G1 H1 g1 r1 => ?_⟩
    have hR1 := R.grow hR g1
    obtain ⟨l, vs, e1, h0, hg, hh, r⟩ := R.owK hR1 (owK_eq hx)
    refine ⟨.ref l, e1, ρ, G1, hR1, (ofR_post (a := a) hR1 (Post.mono g1.g q1)).imp fun n _ q2 u G2 H2 g2 r2 => ?_⟩
    cases hk : keyOf n with
    | stuck => rw [hk] at q2; exact q2.elim
    | exc ex => cases n <;> cases hk
    | ok ky =>
      rw [hk] at q2
      obtain ⟨hz, q2⟩ := gd_post q2
      rw [keyOf_rep r2 hk]
      have rr := KReps.mono g2.g r
      exact ⟨l, _, rfl, DPut.k (k := ky) (g2.h _ _ hh) (by rw [kreps_len rr]; exact hz), q2 σ G2 _ (R.write (R.grow hR1 g2) (owK_eq hx) e1 (.dk (kreps_put (Rep.mono g2.g _ _ r1) rr))) g2.g⟩
theorem d_getK (i : Nat) (ge : GE k X a) (hf : PE X b (tD X.K X.mg a f)) (hp : NoSl b) (hN : X.N[i]? = some x := by rfl) (hv : Vis X.env.scope x := by first | exact Or.inl rfl | exact Or.inr (Or.inl rfl) | exact Or.inr (Or.inr rfl)) (hd : (x == ("__debug__" : Str)) = false := by decide) (hcd : (x == ("__classdict__" : Str)) = false := by decide) :
    PE X (.Subscript (.Name x p) b pos) (tD X.K X.mg a (getK i f)) :=
  (pe_dget (hu_of ge.hr) (pe_var hN hv hd hcd) hf hp).imp fun σ H Q ⟨ρ, G, hR, q⟩ => by
    unfold getK at q
    cases hx : owK ρ i with
    | exc ex => exact absurd hx owK_nox
    | stuck => rw [hx] at q; exact q.elim
    | ok xs =>
      rw [hx] at q
      obtain ⟨l, vs, e1, h0, hg, hh, r⟩ := R.owK hR (owK_eq hx)
      refine ⟨.ref l, e1, ρ, G, hR, (PostE.bind (r := f ρ) q).imp fun n _ q1 v G' H' g1 r1 => ?_⟩
      cases hk : keyOf n with
      | stuck => rw [hk] at q1; exact q1.elim
      | exc ex => cases n <;> cases hk
      | ok ky =>
        rw [hk] at q1
        rcases kreps_val (k := ky) (KReps.mono g1.g r) with ⟨a1, a2⟩ | ⟨w, d, a1, a2, a3⟩
        · simp only [Res.bind, a2] at q1; exact q1.elim
        · simp only [Res.bind, a2] at q1
          rw [keyOf_rep r1 hk]
          exact ⟨l, w, rfl, by rw [← a1]; exact DGet.k (g1.h _ _ hh), q1 w G' H' g1 a3⟩
end

/-! ## a module's constants -/
section
variable {X : Cx} {a : Amb} {pos : Pos} {x : Str}
theorem d_gint {i : Int} (h : ∃ t, X.mg x = some (.int i t)) (hg : Gl X x := by rfl) (hd : (x == ("__debug__" : Str)) = false := by decide) : PE X (.Name x pos) (tD X.K X.mg a (eC (.int i))) := by
  obtain ⟨t, h⟩ := h
  exact d_glob (v := .int i) h ⟨t, rfl⟩ (fun _ => .int i) hg hd
theorem d_gstr {z : Str} (h : ∃ t, X.mg x = some (.str z t)) (hg : Gl X x := by rfl) (hd : (x == ("__debug__" : Str)) = false := by decide) : PE X (.Name x pos) (tD X.K X.mg a (eC (.str z))) := by
  obtain ⟨t, h⟩ := h
  exact d_glob (v := .str z) h ⟨t, rfl⟩ (fun _ => .str z) hg hd
theorem d_gref {d : D} (h : ∃ p, X.mg x = some (.ref p) ∧ ∀ G, Rep X.K G (.ref p) d) (hg : Gl X x := by rfl) (hd : (x == ("__debug__" : Str)) = false := by decide) : PE X (.Name x pos) (tD X.K X.mg a (eC d)) := by
  obtain ⟨p, h, q⟩ := h
  exact d_glob (v := .ref p) h rfl q hg hd
end

/-! ## new lists by operators and slices -/
def catO : D → D → Res (List D) | .lst a, .lst b => gd (a.length + b.length ≤ sizeLine) (.ok (a ++ b)) | _, _ => .stuck
def repO : D → D → Res (List D) | .lst a, .int b => gd (-(2 ^ 63) ≤ b ∧ b < 2 ^ 63 ∧ a.length * b.toNat ≤ sizeLine) (.ok (List.replicate b.toNat a).flatten) | _, _ => .stuck
def binO (o : D → D → Res (List D)) (f g : En → Res D) : En → Res (List D) := fun ρ => (f ρ).bind fun x => (g ρ).bind fun y => o x y
def cutO : D → Option Int → Option Int → Res (List D) | .lst xs, lo, hi => .ok (cutG xs lo hi) | _, _, _ => .stuck
def sliceO (f : En → Res D) (l h : En → Res (Option Int)) : En → Res (List D) := fun ρ => (f ρ).bind fun x => (l ρ).bind fun lo => (h ρ).bind fun hi => cutO x lo hi
section
variable {X : Cx} {a : Amb} {e b : Expr} {f g : En → Res D} {pos : Pos}
theorem o_cat (hf : PE X e (tD X.K X.mg a f)) (hg : PE X b (tD X.K X.mg a g)) : PE X (.BinOp e .Add b pos) (tO X.K X.mg a (binO catO f g)) :=
  (pe_op op_cat hf hg).imp fun σ H Q ⟨ρ, G, hR, q⟩ => ⟨ρ, G, hR, (PostE.bind q).imp fun x _ q1 v1 G1 H1 g1 r1 => ⟨ρ, G1, R.grow hR g1, ((PostE.bind q1).grow g1).imp fun y _ q2 v2 G2 H2 g2 r2 => by
    have r1' := Rep.mono g2.g _ _ r1
    cases r1' with
    | @lst p vs ds h1 s1 => cases r2 with
      | @lst p2 us es h2 s2 =>
        obtain ⟨hz, q3⟩ := PostE.gd q2
        exact ⟨p, p2, vs, us, rfl, rfl, g2.s _ _ h1, g2.s _ _ h2, by rw [s1.len, s2.len]; exact hz, fun l hl => q3 l _ G2 _ ((g1.trans g2).trans (Grow.own g2.s hl)) ((g1.trans g2).h.free hl) (g2.s.free hl) upd_same (s1.app s2)⟩
      | _ => exact q2.elim
    | _ => cases r2 <;> exact q2.elim⟩⟩
theorem o_rep (hf : PE X e (tD X.K X.mg a f)) (hg : PE X b (tD X.K X.mg a g)) : PE X (.BinOp e .Mult b pos) (tO X.K X.mg a (binO repO f g)) :=
  (pe_op op_rep hf hg).imp fun σ H Q ⟨ρ, G, hR, q⟩ => ⟨ρ, G, hR, (PostE.bind q).imp fun x _ q1 v1 G1 H1 g1 r1 => ⟨ρ, G1, R.grow hR g1, ((PostE.bind q1).grow g1).imp fun y _ q2 v2 G2 H2 g2 r2 => by
    have r1' := Rep.mono g2.g _ _ r1
    cases r1' with
    | @lst p vs ds h1 s1 => cases r2 with
      | int n =>
        obtain ⟨⟨b1, b2, b3⟩, q3⟩ := PostE.gd q2
        exact ⟨p, n, vs, rfl, rfl, g2.s _ _ h1, b1, b2, by rw [s1.len]; exact b3, fun l hl => q3 l _ G2 _ ((g1.trans g2).trans (Grow.own g2.s hl)) ((g1.trans g2).h.free hl) (g2.s.free hl) upd_same (s1.rep _)⟩
      | _ => exact q2.elim
    | _ => cases r2 <;> exact q2.elim⟩⟩
theorem o_slice {lo hi : Option Expr} {l u : En → Res (Option Int)} {p2 : Pos} (hf : PE X e (tD X.K X.mg a f)) (hl : PO X lo (tP X.K X.mg a l)) (hu : PO X hi (tP X.K X.mg a u)) : PE X (.Subscript e (.Slice lo hi none p2) pos) (tO X.K X.mg a (sliceO f l u)) :=
  (pe_slice sl_list hf hl hu).imp fun σ H Q ⟨ρ, G, hR, q⟩ =>
    ⟨ρ, G, hR, (PostE.bind q).imp fun x _ q1 v G1 H1 g1 r1 => ⟨ρ, G1, R.grow hR g1, ((PostE.bind q1).grow g1).imp fun lo' _ q2 G2 H2 g2 =>
      ⟨ρ, G2, R.grow (R.grow hR g1) g2, ((PostE.bind q2).grow (g1.trans g2)).imp fun hi' _ q3 G3 H3 g3 => by
        have r3 := Rep.mono (g2.g.trans g3.g) _ _ r1
        have gg := (g1.trans g2).trans g3
        cases r3 with
        | @lst p vs ds h1 r => exact ⟨p, vs, rfl, SqL.of (g3.s _ _ h1), fun l' hl' => q3 l' _ _ _ (gg.trans (Grow.own g3.s hl')) (gg.h.free hl') (g3.s.free hl') upd_same (r.cut lo' hi')⟩
        | _ => exact q3.elim⟩⟩⟩
end
/-- what is never come to -/
def sNever : En → Out := fun _ => .stuck
theorem s_never {X : Cx} {a : Amb} {sts : List Stmt} : PSs X sts (tS X.K X.mg a sNever) := pss_never.imp fun Dn σ H ⟨ρ, G, hR, q⟩ => q.elim

/-! ## n op= e, ints -/
def sAug (i : Nat) (o : Int → Int → Int) (f : En → Res D) : En → Out := fun ρ => match ρ[i]? with
  | some (.sh (.int n)) => ofR ρ (f ρ) fun d => (match d with | .int m => .next (ρ.set i (.sh (.int (o n m)))) | _ => .stuck)
  | _ => .stuck
section
variable {X : Cx} {a : Amb} {e : Expr} {f : En → Res D} {pos p : Pos} {x : Str}
theorem s_aug {op : Operator} {o : Int → Int → Int} (ho : PIp X op (ipI o)) (i : Nat) (hnd : X.N.Nodup) (hf : PE X e (tD X.K X.mg a f)) (hN : X.N[i]? = some x := by rfl) (hx : Loc X.env.scope x := by first | exact Or.inl rfl | exact Or.inr rfl)
    (hfn : X.fn x = true ∨ X.env.scope.names.lookup x = some .local := by first | exact .inl rfl | exact .inr rfl) : PS X (.AugAssign (.Name x p) op e pos) (tS X.K X.mg a (sAug i o f)) :=
  (ps_aug hnd hN hx hf ho hfn).imp fun Dn σ H ⟨ρ, G, hR, q⟩ => by
    unfold sAug at q
    cases e1 : ρ[i]? with
    | none => rw [e1] at q; exact q.elim
    | some s => cases s with
      | no => rw [e1] at q; exact q.elim
      | tmp _ => rw [e1] at q; exact q.elim
      | ow _ => rw [e1] at q; exact q.elim
      | sh d =>
        rw [e1] at q
        cases d with
        | int n =>
          obtain ⟨v, e2, r⟩ := R.sh hR e1
          cases r
          refine ⟨.int n, e2, ρ, G, hR, (ofR_post hR q).imp fun d _ q1 v G' H' g r => ?_⟩
          cases r with
          | int m => exact ⟨n, m, rfl, rfl, q1 _ G' H' (R.setSh (R.grow hR g) i (.int _)) g.g⟩
          | _ => exact q1.elim
        | _ => exact q.elim
end
end PL

set_option maxRecDepth 100000
set_option maxHeartbeats 1000000
namespace PL
open PySem PySem.Spec PyProof.Rows L2

theorem cd_str {X : Cx} : CallD X (.type "str") strL := ⟨_, (call_str_int).or SkE.call_str_str, fun G H vs ds z Q s r h q => by
  unfold strL at h
  split at h
  · obtain ⟨v, rfl, r1⟩ := reps1 r
    obtain ⟨hz, h⟩ := gd_ok h
    cases h; cases r1
    exact .inl ⟨_, rfl, hz, q _ G H (Grow.refl s) (.str _)⟩
  · obtain ⟨v, rfl, r1⟩ := reps1 r
    cases h; cases r1
    exact .inr ⟨_, rfl, q _ G H (Grow.refl s) (.str _)⟩
  · cases h⟩
/-- a, b = e -/
def sAsg (t : D → En → Res En) (f : En → Res D) : En → Out := fun ρ => ofR ρ (f ρ) fun d => match t d ρ with | .ok ρ' => .next ρ' | _ => .stuck
theorem s_asg {X : Cx} {a : Amb} {tg e : Expr} {t : D → En → Res En} {f : En → Res D} {pos : Pos} (he : PE X e (tD X.K X.mg a f)) (hg : PG X tg (tG X.K a t)) (hs : swapsWithSole [tg] e pos.line X.env = pure false := by rfl) (hw : swappedStores [tg] e X.env = pure none := by rfl)
    (h1 : (assignEach [tg] X.env).map (·.2) = [assign tg X.env] := by rfl) : PS X (.Assign [tg] e pos) (tS X.K X.mg a (sAsg t f)) :=
  (ps_asg he hg hs hw h1).imp fun Dn σ H ⟨ρ, G, hR, q⟩ => ⟨ρ, G, hR, (ofR_post hR q).imp fun d _ q1 v G' H' g r => by
    cases ht : t d ρ with
    | ok ρ' => simp only [ht] at q1; exact ⟨ρ, G', d, ρ', R.grow hR g, r, ht, fun σ' hR' => q1 σ' G' H' hR' g.g⟩
    | exc _ => simp only [ht] at q1; exact q1.elim
    | stuck => simp only [ht] at q1; exact q1.elim⟩
/-- of parts of the top: the callee's fact as it is asked for -/
abbrev Fx (P : Program) (K : PySem.W.Frag) (mg : Str → Option Value) (x qual : Str) (st : Stmt) (ps : List Str) : Prop := ∃ f fd, Fun K x qual st f fd ∧ mg x = some (.ref f) ∧ Binds K fd ps []
end PL

set_option maxRecDepth 100000
set_option maxHeartbeats 1000000
namespace PL
open PySem PySem.Spec PyProof.Rows L2
/-! ## the end: facts of the top -/
section
variable {P : Program} {w : World} {K : PySem.W.Frag} {mg : Str → Option Value} {base h : Heap}
theorem fx_mk (X : K.In h) (G : h.Ns mainGlobals mg) {x qual : Str} {st : Stmt} {f : Addr} {oc : Value} {od an : Option Addr} {osl : Array (Option Value)} {kV doc pm cdv ct : Value} {ps : List Str}
    (a : PySem.W.nsIn K mainGlobals x = some (some (.ref f))) (l : K.lookup f = some ⟨oc, od, .func (PySem.W.fnOf x qual (defArgs st) (defBody st) (defScope st) .none kV doc pm an cdv ct), osl⟩) (c : PySem.W.codeIn K cdv qual = true) (k : PySem.W.keepIn K (.ref f) = true)
    (b : ∀ (kV doc pm : Value) (an : Option Addr) (cdv ct : Value) (us : List Value), us.length = ps.length → bindArgs (PySem.W.fnOf x qual (defArgs st) (defBody st) (defScope st) .none kV doc pm an cdv ct) ⟨us, []⟩ = pure (ps.zip us)) : Fx P K mg x qual st ps :=
  ⟨f, _, fun_mk l c k, PySem.W.mg_of X G a, (fun_mk l c k).binds b⟩
/-- a method's text in a class's -/
def inCls (s : Stmt) (j : Nat) : Stmt := match s with
  | .ClassDef _ _ _ b _ _ _ _ _ _ _ => b.getD j (.Pass ⟨0, 0, 0, 0⟩)
  | _ => .Pass ⟨0, 0, 0, 0⟩
theorem ext1 (X : K.In h) (G : h.Ns mainGlobals mg) {x qual fl : Str} {st : Stmt} {C f : Addr} {oc : Value} {od an : Option Addr} {osl : Array (Option Value)} {kV doc pm cdv ct : Value}
    {nm qn : Str} {N : Addr} {bs bm : List Value} {sn : List Str} {sub : List Value} {ab : Bool} {col : Option Bool} {dd : Option Addr} {m0 m1 m2 m3 m5 : Option Value}
    (a : PySem.W.nsIn K mainGlobals x = some (some (.ref C))) (xL : K.lookup C = some (excClassObj nm qn C N bs bm true sn sub ab col dd m0 m1 m2 m3 m5 "ValueError.__new__")) (rv : PySem.HandSPX.refsVE bm = true)
    (sa : PySem.W.findIn K (.ref C) "__setattr__" = some (some (.builtin "object.__setattr__"))) (ga : PySem.W.findIn K (.ref C) "__getattribute__" = some (some (.builtin "BaseException.__getattribute__"))) (gg : PySem.W.findIn K (.ref C) "__getattr__" = some none)
    (n1 : PySem.W.findIn K (.ref C) fl = some none) (iC : PySem.W.findIn K (.ref C) "__init__" = some (some (.ref f))) (tI : PySem.W.typeIn K (.ref f) = some (.type "function"))
    (l : K.lookup f = some ⟨oc, od, .func (PySem.W.fnOf "__init__" qual (defArgs st) (defBody st) (defScope st) .none kV doc pm an cdv ct), osl⟩) (c : PySem.W.codeIn K cdv qual = true) (k : PySem.W.keepIn K (.ref f) = true)
    (kC : PySem.W.keepIn K (.ref C) = true) (eC : PySem.W.subIn K (.ref C) (.type "BaseException") = some true) (tC : PySem.W.typeIn K (.ref C) = some (.type "type")) (hC : PySem.W.hasDictIn K C = true)
    (S : FnScope [("self" : Str), fl] [("self" : Str), fl] (defScope st))
    (b : ∀ (kV doc pm : Value) (an : Option Addr) (cdv ct : Value) (us : List Value), us.length = [("self" : Str), fl].length → bindArgs (PySem.W.fnOf "__init__" qual (defArgs st) (defBody st) (defScope st) .none kV doc pm an cdv ct) ⟨us, []⟩ = pure ([("self" : Str), fl].zip us))
    (body : ∀ (base : Heap) (cdv : Value) (A : Around) (outer : List Env) (s : Shared) (H : Hp) (E : XK), PSs (cxOf CX0 P w K mg base [("self" : Str), fl] qual (defScope st) f cdv A outer s H E).nox (defBody st) (tOst K fl (tVar 0) (tVar 1))) :
    ∀ base : Heap, ExT P w K mg base x [fl] C := by
  intro base
  have o : OexC K C := ⟨⟨nm, qn, N, bs, bm, sn, sub, ab, col, dd, m0, m1, m2, m3, m5, xL, rv⟩, sa, eC, tC, kC⟩
  refine ⟨PySem.W.mg_of X G a, o, ⟨ga, gg, eC, hC⟩, fun g hg => ?_, f, _, iC, tI, init1 (fun_mk l c k) S o n1 (body base), (fun_mk l c k).binds b⟩
  rw [List.mem_singleton] at hg
  subst hg
  exact n1
theorem ext3 (X : K.In h) (G : h.Ns mainGlobals mg) {x qual f1 f2 f3 : Str} {st : Stmt} {C f : Addr} {oc : Value} {od an : Option Addr} {osl : Array (Option Value)} {kV doc pm cdv ct : Value}
    {nm qn : Str} {N : Addr} {bs bm : List Value} {sn : List Str} {sub : List Value} {ab : Bool} {col : Option Bool} {dd : Option Addr} {m0 m1 m2 m3 m5 : Option Value}
    (a : PySem.W.nsIn K mainGlobals x = some (some (.ref C))) (xL : K.lookup C = some (excClassObj nm qn C N bs bm true sn sub ab col dd m0 m1 m2 m3 m5 "ValueError.__new__")) (rv : PySem.HandSPX.refsVE bm = true)
    (sa : PySem.W.findIn K (.ref C) "__setattr__" = some (some (.builtin "object.__setattr__"))) (ga : PySem.W.findIn K (.ref C) "__getattribute__" = some (some (.builtin "BaseException.__getattribute__"))) (gg : PySem.W.findIn K (.ref C) "__getattr__" = some none)
    (n1 : PySem.W.findIn K (.ref C) f1 = some none) (n2 : PySem.W.findIn K (.ref C) f2 = some none) (n3 : PySem.W.findIn K (.ref C) f3 = some none) (iC : PySem.W.findIn K (.ref C) "__init__" = some (some (.ref f))) (tI : PySem.W.typeIn K (.ref f) = some (.type "function"))
    (l : K.lookup f = some ⟨oc, od, .func (PySem.W.fnOf "__init__" qual (defArgs st) (defBody st) (defScope st) .none kV doc pm an cdv ct), osl⟩) (c : PySem.W.codeIn K cdv qual = true) (k : PySem.W.keepIn K (.ref f) = true)
    (kC : PySem.W.keepIn K (.ref C) = true) (eC : PySem.W.subIn K (.ref C) (.type "BaseException") = some true) (tC : PySem.W.typeIn K (.ref C) = some (.type "type")) (hC : PySem.W.hasDictIn K C = true)
    (S : FnScope [("self" : Str), f1, f2, f3] [("self" : Str), f1, f2, f3] (defScope st))
    (b : ∀ (kV doc pm : Value) (an : Option Addr) (cdv ct : Value) (us : List Value), us.length = [("self" : Str), f1, f2, f3].length → bindArgs (PySem.W.fnOf "__init__" qual (defArgs st) (defBody st) (defScope st) .none kV doc pm an cdv ct) ⟨us, []⟩ = pure ([("self" : Str), f1, f2, f3].zip us))
    (body : ∀ (base : Heap) (cdv : Value) (A : Around) (outer : List Env) (s : Shared) (H : Hp) (E : XK), PSs (cxOf CX0 P w K mg base [("self" : Str), f1, f2, f3] qual (defScope st) f cdv A outer s H E).nox (defBody st) (tSeq (tOst K f1 (tVar 0) (tVar 1)) (tSeq (tOst K f2 (tVar 0) (tVar 2)) (tOst K f3 (tVar 0) (tVar 3))))) :
    ∀ base : Heap, ExT P w K mg base x [f1, f2, f3] C := by
  intro base
  have o : OexC K C := ⟨⟨nm, qn, N, bs, bm, sn, sub, ab, col, dd, m0, m1, m2, m3, m5, xL, rv⟩, sa, eC, tC, kC⟩
  refine ⟨PySem.W.mg_of X G a, o, ⟨ga, gg, eC, hC⟩, fun g hg => ?_, f, _, iC, tI, init3 (fun_mk l c k) S o n1 n2 n3 (body base), (fun_mk l c k).binds b⟩
  simp only [List.mem_cons, List.not_mem_nil, or_false] at hg
  rcases hg with e | e | e <;> subst e
  · exact n1
  · exact n2
  · exact n3
end
theorem cx_false {P : Program} {w : World} {H : Hp} {s : Shared} {e : Value} {s' : Shared} (h : L2.CX P w [] H s (fun _ _ _ => False) e s') : False := by
  unfold L2.CX at h
  obtain ⟨_, _, _, _, _, _, h⟩ := h
  simp_all
theorem ctup_mk {K : PySem.W.Frag} {h : Heap} {mg : Str → Option Value} (X : K.In h) (G : h.Ns mainGlobals mg) {x : Str} {p : Addr} {o : Obj} {its : Array Value} {n : Nat} {vs : List V} {ds : List D} (a : PySem.W.nsIn K mainGlobals x = some (some (.ref p))) (l : K.lookup p = some o) (hc : o.cls = .type "tuple") (hd : o.data = .seq its n)
    (hz : its.size ≤ sizeLine) (hv : Vals vs its.toList) (r : ∀ G : Hp, Reps K G vs ds) : ∃ p, mg x = some (.ref p) ∧ ∀ G : Hp, Rep K G (.ref p) (.tup ds) :=
  ⟨p, PySem.W.mg_of X G a, fun G => .tup (.inr ⟨o, its, n, l, hc, hd, hz, hv⟩) (r G)⟩
theorem cint_mk {K : PySem.W.Frag} {h : Heap} {mg : Str → Option Value} (X : K.In h) (G : h.Ns mainGlobals mg) {x : Str} {i : Int} {v : Value} {t : _} (a : PySem.W.nsIn K mainGlobals x = some (some v)) (e : v = .int i t) : ∃ t, mg x = some (.int i t) := ⟨t, e ▸ PySem.W.mg_of X G a⟩
theorem cstr_mk {K : PySem.W.Frag} {h : Heap} {mg : Str → Option Value} (X : K.In h) (G : h.Ns mainGlobals mg) {x z : Str} {v : Value} {t : _} (a : PySem.W.nsIn K mainGlobals x = some (some v)) (e : v = .str z t) : ∃ t, mg x = some (.str z t) := ⟨t, e ▸ PySem.W.mg_of X G a⟩
/-- what a law is asked -/
def spLaw (K : PySem.W.Frag) : Sp := fun vs H Q _ => ∃ (a : Addr) (ns : List Int), vs = [.ref a] ∧ SqL K H a (ns.map V.int) ∧ ns.length ≤ 63 ∧ ∀ H', Q (.bl true) H'
theorem law_sp {K : PySem.W.Frag} {mg : Str → Option Value} {m : List D → Res RV} (hm : ∀ ns : List Int, ns.length ≤ 63 → m [.scr ns] = .ok (.sh (.bl true))) {vs : List V} {H : Hp} {Q : VK} {E : XK} (h : spLaw K vs H Q E) : spOf K mg 1 m vs H Q E := by
  obtain ⟨a, ns, rfl, hS, hl, q⟩ := h
  refine ⟨rfl, H, [.scr ns], Same.refl _, .cons (.scr hS) .nil, ?_⟩
  rw [hm ns hl]
  exact fun v G' H' g r => by cases r; exact q H'
theorem end_law {P : Program} {w : World} {K : PySem.W.Frag} {mg : Str → Option Value} {h : Heap} {fa : Addr} (X : K.In h) (G : h.Ns mainGlobals mg) (hfa : mg "law" = some (.ref fa)) {st : Stmt} {f : Addr} {oc : Value} {od an : Option Addr} {osl : Array (Option Value)} {kV doc pm cdv ct : Value}
    {k : Nat} {m : List D → Res RV} (hmT : ∀ ns : List Int, ns.length ≤ 63 → m [.scr ns] = .ok (.sh (.bl true)))
    (a : PySem.W.nsIn K mainGlobals "law" = some (some (.ref f))) (l : K.lookup f = some ⟨oc, od, .func (PySem.W.fnOf "law" "law" (defArgs st) (defBody st) (defScope st) .none kV doc pm an cdv ct), osl⟩) (c : PySem.W.codeIn K cdv "law" = true) (kp : PySem.W.keepIn K (.ref f) = true)
    (b : ∀ (s : Shared) (u : Value), BindsTo s (PySem.W.fnOf "law" "law" (defArgs st) (defBody st) (defScope st) .none kV doc pm an cdv ct) ⟨[u], []⟩ [("script", u)])
    (ok : ∀ (base : Heap) (f : Addr) (fd : FuncData), Fun K "law" "law" st f fd → FnOk P w K mg base (L2.CX P w) k f fd ["script"] (spOf K mg 1 m)) :
    ∃ fd : FuncData, (∀ (s : Shared) (u : Value), BindsTo s fd ⟨[u], []⟩ [("script", u)]) ∧ ∀ base : Heap, K.In base → base.Ns mainGlobals mg → FnOk P w K mg base (L2.CX P w) k fa fd ["script"] (spLaw K) := by
  have e := hfa.symm.trans (PySem.W.mg_of X G a)
  cases e
  exact ⟨_, b, fun base _ _ => (ok base _ _ (fun_mk l c kp)).imp fun vs H Q E h => law_sp hmT h⟩
/-! the same, K told by a fact of it -/
abbrev FxK {K : PySem.W.Frag} {h : Heap} (_ : K.In h) (P : Program) (mg : Str → Option Value) (x qual : Str) (st : Stmt) (ps : List Str) : Prop := Fx P K mg x qual st ps
abbrev CtK {K : PySem.W.Frag} {h : Heap} (_ : K.In h) (mg : Str → Option Value) (x : Str) (d : D) : Prop := ∃ p, mg x = some (.ref p) ∧ ∀ G : Hp, Rep K G (.ref p) d
abbrev ExtK {K : PySem.W.Frag} {h : Heap} (_ : K.In h) (P : Program) (w : World) (mg : Str → Option Value) (x : Str) (fl : List Str) (C : Addr) : Prop := ∀ base : Heap, ExT P w K mg base x fl C
abbrev ExmK {K : PySem.W.Frag} {h : Heap} (_ : K.In h) (A C : Addr) (b : Bool) : Prop := PySem.W.exmOne K (.ref A) (.ref C) = some b
end PL

set_option maxRecDepth 100000
set_option maxHeartbeats 1000000
namespace PL
open PySem PySem.Spec PyProof.Rows L2
/-! ## texts joined and split -/
def strsOf : List D → Option (List Str)
  | [] => some []
  | .str s :: ds => (strsOf ds).map (s :: ·)
  | _ :: _ => none
def joinD (a : Str) : D → Res D
  | .lst xs => (match strsOf xs with | some ys => gd ((ys.map (·.length)).sum + ys.length * a.length ≤ 16777216) (.ok (.str (Txt.join a ys))) | none => .stuck)
  | .tup xs => (match strsOf xs with | some ys => gd ((ys.map (·.length)).sum + ys.length * a.length ≤ 16777216) (.ok (.str (Txt.join a ys))) | none => .stuck)
  | _ => .stuck
def splitO (a : Str) : D → Res (List D)
  | .str b => gd ((b.length == 0) = false ∧ a.length + 2 ≤ sizeLine) (.ok ((Txt.split a b).map .str))
  | _ => .stuck
/-- a text's method with one argument -/
def strM {α : Type} (o : Str → D → Res α) (f g : En → Res D) : En → Res α := fun ρ => (f ρ).bind fun x => match x with | .str s => (g ρ).bind fun y => o s y | _ => .stuck
theorem strsOf_reps {K : PySem.W.Frag} {G : Hp} : ∀ {ds : List D} {vs : List V} {ys : List Str}, strsOf ds = some ys → Reps K G vs ds → vs = ys.map V.str
  | [], _, _, h, .nil => by cases h; rfl
  | .str s :: ds, _, ys, h, .cons (.str _) r => by
    unfold strsOf at h
    cases e : strsOf ds with
    | none => rw [e] at h; cases h
    | some zs =>
      rw [e] at h; cases h
      rw [strsOf_reps e r]; rfl
theorem reps_strs {K : PySem.W.Frag} {G : Hp} : ∀ ys : List Str, Reps K G (ys.map V.str) (ys.map D.str)
  | [] => .nil
  | y :: ys => .cons (.str y) (reps_strs ys)
section
variable {X : Cx} {a : Amb} {e b : Expr} {f g : En → Res D} {pos apos : Pos}
theorem d_join (hf : PE X e (tD X.K X.mg a f)) (hg : PE X b (tD X.K X.mg a g)) (hs : starEach [b] X.env = [(false, eval b X.env)] := by rfl) (hbase : attributeBase e "join" X.env (eval e X.env) = eval e X.env := by rfl) (hline : (apos.endLine == pos.line) = true := by rfl) :
    PE X (.Call (.Attribute e "join" apos) [b] [] pos) (tD X.K X.mg a (strM joinD f g)) :=
  (pe_join hf hg hs hbase hline).imp fun σ H Q ⟨ρ, G, hR, q⟩ => ⟨ρ, G, hR, (PostE.bind q).imp fun x _ q1 v G1 H1 g1 r1 => by
    cases r1 with
    | str s =>
      refine ⟨⟨_, rfl⟩, ρ, G1, R.grow hR g1, ((PostE.bind q1).grow g1).imp fun y _ q2 u G2 H2 g2 r2 => ?_⟩
      cases r2 with
      | @lst p vs ds h1 r =>
        cases hz : strsOf ds with
        | none => simp only [joinD, hz] at q2; exact q2.elim
        | some ys =>
          simp only [joinD, hz] at q2
          obtain ⟨hl, q3⟩ := PostE.gd q2
          have := strsOf_reps hz r
          subst this
          exact ⟨s, p, ys, rfl, rfl, .inl (SqL.of (g2.s _ _ h1)), hl, q3 _ G2 H2 (g1.trans g2) (.str _)⟩
      | @tup p vs ds h1 r =>
        cases hz : strsOf ds with
        | none => simp only [joinD, hz] at q2; exact q2.elim
        | some ys =>
          simp only [joinD, hz] at q2
          obtain ⟨hl, q3⟩ := PostE.gd q2
          have := strsOf_reps hz r
          subst this
          exact ⟨s, p, ys, rfl, rfl, .inr (same_tup g2.s h1), hl, q3 _ G2 H2 (g1.trans g2) (.str _)⟩
      | _ => exact q2.elim
    | _ => exact q1.elim⟩
theorem o_split (hf : PE X e (tD X.K X.mg a f)) (hg : PE X b (tD X.K X.mg a g)) (hs : starEach [b] X.env = [(false, eval b X.env)] := by rfl) (hbase : attributeBase e "split" X.env (eval e X.env) = eval e X.env := by rfl) (hline : (apos.endLine == pos.line) = true := by rfl) :
    PE X (.Call (.Attribute e "split" apos) [b] [] pos) (tO X.K X.mg a (strM splitO f g)) :=
  (pe_split hf hg hs hbase hline).imp fun σ H Q ⟨ρ, G, hR, q⟩ => ⟨ρ, G, hR, (PostE.bind q).imp fun x _ q1 v G1 H1 g1 r1 => by
    cases r1 with
    | str s =>
      refine ⟨⟨_, rfl⟩, ρ, G1, R.grow hR g1, ((PostE.bind q1).grow g1).imp fun y _ q2 u G2 H2 g2 r2 => ?_⟩
      cases r2 with
      | str t =>
        obtain ⟨⟨hz, hl⟩, q3⟩ := PostE.gd q2
        exact ⟨s, t, rfl, rfl, hz, hl, fun p hp => q3 p _ G2 _ ((g1.trans g2).trans (Grow.own g2.s hp)) ((g1.trans g2).h.free hp) (g2.s.free hp) upd_same (reps_strs _)⟩
      | _ => exact q2.elim
    | _ => exact q1.elim⟩
end
/-! ## sum, all, any of a list -/
def intsOf : List D → Option (List Int)
  | [] => some []
  | .int s :: ds => (intsOf ds).map (s :: ·)
  | _ :: _ => none
def blsOf : List D → Option (List Bool)
  | [] => some []
  | .bl s :: ds => (blsOf ds).map (s :: ·)
  | _ :: _ => none
def sumL : List D → Res D | [.lst xs] => (match intsOf xs with | some ns => .ok (.int ns.sum) | none => .stuck) | _ => .stuck
def allL : List D → Res D | [.lst xs] => (match blsOf xs with | some ns => .ok (.bl (ns.all id)) | none => .stuck) | _ => .stuck
theorem intsOf_reps {K : PySem.W.Frag} {G : Hp} : ∀ {ds : List D} {vs : List V} {ys : List Int}, intsOf ds = some ys → Reps K G vs ds → vs = ys.map V.int
  | [], _, _, h, .nil => by cases h; rfl
  | .int s :: ds, _, ys, h, .cons (.int _) r => by
    unfold intsOf at h
    cases e : intsOf ds with
    | none => rw [e] at h; cases h
    | some zs =>
      rw [e] at h; cases h
      rw [intsOf_reps e r]; rfl
theorem blsOf_reps {K : PySem.W.Frag} {G : Hp} : ∀ {ds : List D} {vs : List V} {ys : List Bool}, blsOf ds = some ys → Reps K G vs ds → vs = ys.map V.bl
  | [], _, _, h, .nil => by cases h; rfl
  | .bl s :: ds, _, ys, h, .cons (.bl _) r => by
    unfold blsOf at h
    cases e : blsOf ds with
    | none => rw [e] at h; cases h
    | some zs =>
      rw [e] at h; cases h
      rw [blsOf_reps e r]; rfl
theorem nox_sum : NoXL sumL := fun xs e h => by
  unfold sumL at h; split at h
  · split at h <;> cases h
  · cases h
theorem nox_all : NoXL allL := fun xs e h => by
  unfold allL at h; split at h
  · split at h <;> cases h
  · cases h
theorem cd_sum {X : Cx} (hc : X.calm = true) : CallD X (.builtin "sum") sumL := ⟨_, cr_sum hc, fun G H vs ds z Q s r h q => by
  unfold sumL at h
  split at h
  · obtain ⟨v, rfl, r1⟩ := reps1 r
    split at h
    · rename_i ns hn
      cases h
      cases r1 with
      | @lst p vs ds h1 rr =>
        have := intsOf_reps hn rr
        subst this
        exact ⟨p, ns, rfl, SqL.of (s _ _ h1), q _ G H (Grow.refl s) (.int _)⟩
    · cases h
  · cases h⟩
theorem cd_all {X : Cx} (hc : X.calm = true) : CallD X (.builtin "all") allL := ⟨_, cr_all hc, fun G H vs ds z Q s r h q => by
  unfold allL at h
  split at h
  · obtain ⟨v, rfl, r1⟩ := reps1 r
    split at h
    · rename_i ns hn
      cases h
      cases r1 with
      | @lst p vs ds h1 rr =>
        have := blsOf_reps hn rr
        subst this
        exact ⟨p, ns, rfl, SqL.of (s _ _ h1), q _ G H (Grow.refl s) (.bl _)⟩
    · cases h
  · cases h⟩
end PL

set_option maxRecDepth 100000
set_option maxHeartbeats 1000000
namespace PL
open PySem PySem.Spec PyProof.Rows L2
/-! ## data of a region of its own: told = f(texts, numbers); tests on told; told[1].append(e) -/
def sclr : D → Bool | .non => true | .bl _ => true | .int _ => true | .str _ => true | _ => false
def isTmp : Sl → Bool | .tmp _ => true | _ => false
/-- no other such slot -/
def noTmp (ρ : En) (i : Nat) : Bool := !(ρ.set i .no).any isTmp
theorem noTmp_at {ρ : En} {i j : Nat} {d : D} (h : noTmp ρ i = true) (hj : j ≠ i) : ρ[j]? ≠ some (.tmp d) := fun e => by
  unfold noTmp at h
  rw [Bool.not_eq_true', List.any_eq_false] at h
  have : (ρ.set i .no)[j]? = some (.tmp d) := by rw [List.getElem?_set_ne (Ne.symm hj)]; exact e
  exact h _ (List.mem_of_getElem? this) rfl
theorem sclr_reps {K : PySem.W.Frag} {G G' : Hp} : ∀ {ds : List D} {vs : List V}, ds.all sclr = true → Reps K G vs ds → Reps K G' vs ds
  | [], _, _, .nil => .nil
  | d :: ds, _, h, .cons r rr => by
    rw [List.all_cons, Bool.and_eq_true] at h
    refine .cons ?_ (sclr_reps h.2 rr)
    cases r with
    | non => exact .non
    | bl b => exact .bl b
    | int b => exact .int b
    | str b => exact .str b
    | _ => exact absurd h.1 (fun z => by cases z)
def no0 : Hp := fun _ => none
/-- i = f(..): the result in a region of its own -/
def sSetT (i : Nat) (m : List D → Res RV) (fs : En → Res (List D)) : En → Out := fun ρ => ofR ρ (fs ρ) fun ds => match m ds with
  | .ok (.sh d) => ofR ρ (gd (noTmp ρ i = true ∧ ds.all sclr = true) (.ok ())) fun _ => .next (ρ.set i (.tmp d))
  | _ => .stuck
theorem R.setTmp {K : PySem.W.Frag} {G0 H0 G H T : Hp} {ρ : En} {σ : L2.St} (r : R K G0 H0 ρ σ G H) (i : Nat) {v : V} {d : D} (hn : noTmp ρ i = true) (hT : ∀ b x, T b = some x → G b = none ∧ H0 b = none ∧ H b = some x) (q : Rep K T v d)
    (ho : ∀ (j : Nat) (ob : OB) (l : Addr), ρ[j]? = some (.ow ob) → σ[j]? = some (some (.ref l)) → T l = none) : R K G0 H0 (ρ.set i (.tmp d)) (σ.set i (some v)) G H := by
  refine ⟨r.gr, by simp [r.len], fun j s e => ?_, fun j k ys zs hn e1 e2 => ?_, T, hT, fun j d2 e => ?_, fun j ob l e e2 => ?_⟩
  · rcases get_set e with ⟨rfl, rfl, l'⟩ | ⟨ne, e⟩
    · exact ⟨some v, List.getElem?_set_self (by rw [← r.len]; exact l'), trivial⟩
    · rw [List.getElem?_set_ne (Ne.symm ne)]; exact r.slot j s e
  · rcases get_set e1 with ⟨_, z, _⟩ | ⟨n1, e1⟩
    · cases z
    · rcases get_set e2 with ⟨_, z, _⟩ | ⟨n2, e2⟩
      · cases z
      · rw [List.getElem?_set_ne (Ne.symm n1), List.getElem?_set_ne (Ne.symm n2)]; exact r.dis j k ys zs hn e1 e2
  · rcases get_set e with ⟨rfl, z, l'⟩ | ⟨ne, e⟩
    · cases z
      exact ⟨v, List.getElem?_set_self (by rw [← r.len]; exact l'), q⟩
    · exact absurd e (noTmp_at hn ne)
  · rcases get_set e with ⟨_, z, _⟩ | ⟨n, e⟩
    · cases z
    · rw [List.getElem?_set_ne (Ne.symm n)] at e2; exact ho j ob l e e2
section
variable {X : Cx} {a : Amb} {e : Expr} {es : List Expr} {fs : En → Res (List D)} {pos p py pos2 : Pos} {x y : Str} {k k' : Nat} {ps : List Str} {m : List D → Res RV}
theorem s_setT (i : Nat) (F : FnP X.prog X.w X.K X.mg X.base k' x ps m) (c : GE k X a) (hk : k' ≤ k) (hl : (e :: es).length = ps.length) (ha : PA X (e :: es) (tA X.K X.mg a fs)) (hfl : ∀ ρ ds, fs ρ = .ok ds → ds.length = (e :: es).length)
    (hg : Gl X x := by rfl) (hdb : (x == ("__debug__" : Str)) = false := by decide) (he : starEach (e :: es) X.env = (false, eval e X.env) :: starEach es X.env := by rfl) (hpl : (backTo pos (starEach es X.env)).any (·.1) = false := by rfl)
    (hN : X.N[i]? = some y := by rfl) (hx : Loc X.env.scope y := by first | exact Or.inl rfl | exact Or.inr rfl) (hfn : X.fn y = true ∨ X.env.scope.names.lookup y = some .local := by first | exact .inl rfl | exact .inr rfl)
    (hs : swapsWith (.Call (.Name x p) (e :: es) [] pos) (some (.Name y py)) pos2.line X.env = pure false := by rfl) :
    PS X (.Assign [.Name y py] (.Call (.Name x p) (e :: es) [] pos) pos2) (tS X.K X.mg a (sSetT i m fs)) := by
  obtain ⟨f, fd, F1, hm, hkp, hb⟩ := F.ex
  refine (ps_set c.nd hN hx (pe_callS F1 (c.hr.mono hk) hg hm hkp hb (fun σ => passAt c.tk σ) ha hdb he hpl) hs hfn).imp fun Dn σ H ⟨ρ, G, hR, q⟩ => ⟨ρ, G, hR, (ofR_post hR q).imp fun ds ed q1 vs G' H' g r => ?_⟩
  cases h : m ds with
  | stuck => simp only [h] at q1; exact q1.elim
  | exc ex => simp only [h] at q1; exact q1.elim
  | ok rv =>
    cases rv with
    | ow xs => simp only [h] at q1; exact q1.elim
    | sh d =>
      simp only [h] at q1
      obtain ⟨⟨hn, hs⟩, q1⟩ := gd_post q1
      refine ⟨by rw [r.len, hfl ρ ds ed, hl], no0, ds, (fun b x e => by cases e), sclr_reps hs r, ?_⟩
      simp only [h]
      intro v T H2 g2 r2
      have hR1 : R X.K a.G0 a.H0 ρ σ G' H' := R.grow hR g
      have free : ∀ b z, T b = some z → H' b = none := fun b z e => by
        cases e2 : H' b with
        | none => rfl
        | some o => have := g2.f b rfl (by rw [e2]; simp); rw [this] at e; cases e
      have hR2 : R X.K a.G0 a.H0 ρ σ G' H2 := R.grow hR1 ⟨Same.refl _, g2.h, g.s.trans g2.h, fun _ h _ => h⟩
      refine q1 _ G' H2 (R.setTmp hR2 i hn (fun b z e => ⟨g.s.free (free b z e), ?_, g2.s b z e⟩) r2 fun j ob l e1 e2 => ?_) g.g
      · exact hR1.gr.h.free (free b z e)
      · obtain ⟨l', ho, e3, _, _, e4, _⟩ := hR1.ow e1
        rw [e2] at e3
        cases e3
        cases e5 : T l with
        | none => rfl
        | some z => rw [free l z e5] at e4; cases e4
end
/-- a test on it -/
def tmpT (i : Nat) (t : En → Res Bool) : En → Res Bool := fun ρ => match ρ[i]? with
  | some (.tmp d) => (match t (ρ.set i (.sh d)) with | .ok b => gd (noTmp ρ i = true) (.ok b) | _ => .stuck)
  | _ => .stuck
def join2 (G T : Hp) : Hp := fun b => match G b with | some x => some x | none => T b
theorem join2_l {G T : Hp} : Same G (join2 G T) := fun b x e => by unfold join2; rw [e]
theorem join2_r {G T : Hp} (h : ∀ b x, T b = some x → G b = none) : Same T (join2 G T) := fun b x e => by unfold join2; rw [h b x e]; exact e
theorem join2_none {G T : Hp} {b : Addr} (h : G b = none) (h2 : T b = none) : join2 G T b = none := by unfold join2; rw [h]; exact h2
theorem R.lend {K : PySem.W.Frag} {G0 H0 G H : Hp} {ρ : En} {σ : L2.St} (r : R K G0 H0 ρ σ G H) {i : Nat} {d : D} (hn : noTmp ρ i = true) (h : ρ[i]? = some (.tmp d)) : ∃ T, Same G (join2 G T) ∧ R K G0 H0 (ρ.set i (.sh d)) σ (join2 G T) H := by
  obtain ⟨T, t⟩ := r.tm
  obtain ⟨v, e1, q⟩ := t.rep i d h
  have sT : Same T (join2 G T) := join2_r fun b x e => (t.at_ b x e).1
  have sH : Same (join2 G T) H := fun b x e => by
    unfold join2 at e
    cases e2 : G b with
    | some z => rw [e2] at e; cases e; exact r.sub b _ e2
    | none => rw [e2] at e; exact (t.at_ b x e).2.2
  refine ⟨T, join2_l, ⟨r.gr.g.trans join2_l, r.gr.h, sH, fun b h1 h2 => join2_none (r.gr.f b h1 h2) ?_⟩, by simp [r.len], fun j s e => ?_, fun j k ys zs hne e1 e2 => ?_, no0, fun b x e => by (cases e), fun j d2 e => ?_, fun _ _ _ _ _ => rfl⟩
  · cases e : T b with
    | none => rfl
    | some z => exact absurd (t.at_ b z e).2.1 h2
  · rcases get_set e with ⟨rfl, rfl, l'⟩ | ⟨ne, e⟩
    · exact ⟨some v, e1, v, rfl, Rep.mono sT _ _ q⟩
    · obtain ⟨o, e2, q2⟩ := r.slot j s e
      refine ⟨o, e2, ?_⟩
      cases s with
      | no => trivial
      | tmp d => trivial
      | sh d => obtain ⟨v, a, b⟩ := q2; exact ⟨v, a, Rep.mono join2_l _ _ b⟩
      | ow ys =>
        obtain ⟨l2, vs2, a, b, c, d, f⟩ := q2
        exact ⟨l2, vs2, a, b, join2_none c (t.dis j ys l2 e (by rw [e2, a])), d, RepO.mono join2_l f⟩
  · rcases get_set e1 with ⟨_, z, _⟩ | ⟨n1, e1⟩
    · cases z
    · rcases get_set e2 with ⟨_, z, _⟩ | ⟨n2, e2⟩
      · cases z
      · exact r.dis j k ys zs hne e1 e2
  · rcases get_set e with ⟨_, z, _⟩ | ⟨n, e⟩
    · cases z
    · exact absurd e (noTmp_at hn n)
section
variable {X : Cx} {a : Amb} {e : Expr}
theorem t_tmp {t : En → Res Bool} (i : Nat) (h : PT X e (tT X.K X.mg a t)) : PT X e (tT X.K X.mg a (tmpT i t)) :=
  h.imp fun σ H Q ⟨ρ, G, hR, q⟩ => by
    unfold tmpT at q
    cases hx : ρ[i]? with
    | none => rw [hx] at q; exact q.elim
    | some s => cases s with
      | no => rw [hx] at q; exact q.elim
      | sh _ => rw [hx] at q; exact q.elim
      | ow _ => rw [hx] at q; exact q.elim
      | tmp d =>
        simp only [hx] at q
        cases hf : t (ρ.set i (.sh d)) with
        | stuck => simp only [hf] at q; exact q.elim
        | exc ex => simp only [hf] at q; exact q.elim
        | ok b =>
          simp only [hf] at q
          obtain ⟨hn, q⟩ := PostE.gd q
          obtain ⟨T, sg, hR'⟩ := R.lend hR hn hx
          refine ⟨ρ.set i (.sh d), _, hR', ?_⟩
          simp only [hf]
          exact fun G' H' g' => q G H' ⟨Same.refl _, g'.h, (R.sub hR).trans g'.h, fun _ h _ => h⟩
end
theorem R.letgo {K : PySem.W.Frag} {G0 H0 G H T : Hp} {ρ : En} {σ : L2.St} (r : R K G0 H0 ρ σ G H) (t : Tm K H0 ρ σ G H T) {i : Nat} {l : Addr} {o1 o2 : HO} (hn : noTmp ρ i = true) (hl : T l = some o1) : R K G0 H0 (ρ.set i .no) σ G (upd H l o2) := by
  obtain ⟨a1, a2, a3⟩ := t.at_ l _ hl
  refine ⟨⟨r.gr.g, fun b x e => ?_, fun b x e => ?_, fun b h1 h2 => r.gr.f b h1 h2⟩, by simp [r.len], fun j s e => ?_, fun j k ys zs hne e1 e2 => ?_, no0, fun b x e => by (cases e), fun j d2 e => ?_, fun _ _ _ _ _ => rfl⟩
  · rw [upd_ne (ne_of_none e a2)]; exact r.gr.h b x e
  · rw [upd_ne (ne_of_none e a1)]; exact r.gr.s b x e
  · rcases get_set e with ⟨rfl, rfl, l'⟩ | ⟨ne, e⟩
    · obtain ⟨o, e2, _⟩ := r.slot j ρ[j] (List.getElem?_eq_getElem l')
      exact ⟨o, e2, trivial⟩
    · obtain ⟨o, e2, q2⟩ := r.slot j s e
      refine ⟨o, e2, ?_⟩
      cases s with
      | no => trivial
      | tmp d => trivial
      | sh d => exact q2
      | ow ys =>
        obtain ⟨l2, vs2, a, b, c, d, f⟩ := q2
        have : l2 ≠ l := fun z => by
          have := t.dis j ys l2 e (by rw [e2, a])
          rw [z, hl] at this; cases this
        exact ⟨l2, vs2, a, b, c, by rw [upd_ne this]; exact d, f⟩
  · rcases get_set e1 with ⟨_, z, _⟩ | ⟨n1, e1⟩
    · cases z
    · rcases get_set e2 with ⟨_, z, _⟩ | ⟨n2, e2⟩
      · cases z
      · exact r.dis j k ys zs hne e1 e2
  · rcases get_set e with ⟨_, z, _⟩ | ⟨n, e⟩
    · cases z
    · exact absurd e (noTmp_at hn n)
section
variable {X : Cx} {a : Amb} {e : Expr}
/-- told[1].append(e), and told is not looked at again -/
def sAppT (i : Nat) (f : En → Res D) : En → Out := fun ρ => match ρ[i]? with
  | some (.tmp (.tup [_, .lst xs])) => ofR ρ (f ρ) fun _ => ofR ρ (gd (noTmp ρ i = true ∧ xs.length < sizeLine) (.ok ())) fun _ => .next (ρ.set i .no)
  | _ => .stuck
theorem s_appT {f : En → Res D} {x : Str} {p p2 apos pos pos2 : Pos} {j : Nat} (i : Nat) (h : PE X e (tD X.K X.mg a f)) (hN : X.N[i]? = some x := by rfl) (hv : Vis X.env.scope x := by first | exact Or.inl rfl | exact Or.inr (Or.inl rfl) | exact Or.inr (Or.inr rfl)) (hd : (x == ("__debug__" : Str)) = false := by decide) (hcd : (x == ("__classdict__" : Str)) = false := by decide)
    (hsw : swapsWith (.Call (.Attribute (.Subscript (.Name x p) (.Constant (.int 1) j p2) pos) "append" apos) [e] [] pos2) none pos2.line X.env = pure false := by rfl)
    (hbase : attributeBase (.Subscript (.Name x p) (.Constant (.int 1) j p2) pos) "append" X.env (eval (.Subscript (.Name x p) (.Constant (.int 1) j p2) pos) X.env) = eval (.Subscript (.Name x p) (.Constant (.int 1) j p2) pos) X.env := by rfl)
    (hfew : ((backTo pos2 (starEach (e :: []) X.env)).all (fun x => !x.1) && (backToKw pos2 (keywordEach [] X.env)).all (fun x => x.1.isSome) && decide ((e :: ([] : List Expr)).length + ([] : List Keyword).length + (if ([] : List Keyword).isEmpty then 0 else 1) < 30)) = true := by rfl)
    (hline : (apos.endLine == pos2.line) = true := by rfl) (hs : starEach (e :: []) X.env = (false, eval e X.env) :: starEach [] X.env := by rfl) (hplain : (backTo pos2 (starEach [] X.env)).any (·.1) = false := by rfl) :
    PS X (.Expr (.Call (.Attribute (.Subscript (.Name x p) (.Constant (.int 1) j p2) pos) "append" apos) [e] [] pos2) pos2) (tS X.K X.mg a (sAppT i f)) :=
  (ps_expr (pe_bm PySem.F.plainAttrs_list PySem.F.slot_list_append PySem.F.type_list_append mt_append (pe_ix ix_seq (pe_var hN hv hd hcd) pe_int (fun _ _ => rfl)) (pa_cons h pa_nil hs) hbase hfew hline hs hplain) hsw).imp fun Dn σ H ⟨ρ, G, hR, q⟩ => by
    unfold sAppT at q
    split at q
    · rename_i x0 xs hx
      obtain ⟨T, t⟩ := hR.tm
      obtain ⟨v, e1, r⟩ := t.rep i _ hx
      cases r with
      | @tup pp vs ds hp rr => cases rr with
        | cons r0 rr => cases rr with
          | cons r1 rr => cases rr with
            | nil => cases r1 with
              | @lst l us ds hl rl =>
                obtain ⟨a1, a2, a3⟩ := t.at_ l _ hl
                have sTH : Same T H := fun b x e => (t.at_ b x e).2.2
                refine ⟨.ref pp, e1, .inr (.inl ⟨pp, _, 1, .ref l, rfl, rfl, same_tup sTH hp, rfl, Or.inl ⟨rfl, us, SqL.of a3⟩, ρ, G, hR, (ofR_post hR q).imp fun d _ q1 v G' H' gr rd => ?_⟩)⟩
                obtain ⟨⟨hn, hz⟩, q1⟩ := gd_post q1
                refine ⟨l, us, v, rfl, rfl, gr.h _ _ a3, by rw [rl.len]; exact hz, q1 σ G' _ ?_ gr.g⟩
                exact R.letgo (R.grow hR gr) (t.grow gr) hn hl
    · exact q.elim
end
end PL

set_option maxRecDepth 100000
set_option maxHeartbeats 1000000
namespace PL
open PySem
theorem bind_ok {α β : Type} (a : α) (f : α → Res β) : (Res.ok a).bind f = f a := Eq.trans rfl rfl
theorem bind_exc {α β : Type} (e : Exc) (f : α → Res β) : (Res.exc e).bind f = .exc e := Eq.trans rfl rfl
theorem bind_stuck {α β : Type} (f : α → Res β) : (Res.stuck : Res α).bind f = .stuck := Eq.trans rfl rfl
theorem ofR_ok {α : Type} (ρ : En) (a : α) (k : α → Out) : ofR ρ (.ok a) k = k a := Eq.trans rfl rfl
theorem ofR_exc {α : Type} (ρ : En) (e : Exc) (k : α → Out) : ofR ρ (.exc e) k = .exc e ρ := Eq.trans rfl rfl
theorem seq_next {f g : En → Out} {ρ ρ' : En} (h : f ρ = .next ρ') : sSeq f g ρ = g ρ' := by unfold sSeq; rw [h]
theorem seq_ret {f g : En → Out} {ρ : En} {r : RV} (h : f ρ = .ret r) : sSeq f g ρ = .ret r := by unfold sSeq; rw [h]
theorem seq_exc {f g : En → Out} {ρ ρ' : En} {e : Exc} (h : f ρ = .exc e ρ') : sSeq f g ρ = .exc e ρ' := by unfold sSeq; rw [h]
theorem for_nil (t : D → En → Res En) (b : En → Out) (ρ : En) : forL t b [] ρ = .next ρ := Eq.trans rfl rfl
theorem for_cons (i : Nat) (b : En → Out) (d : D) (ds : List D) (ρ : En) : forL (gN i) b (d :: ds) ρ = lpO (forL (gN i) b ds) (b (ρ.set i (.sh d))) := Eq.trans rfl rfl
theorem lp_next (k : En → Out) (ρ : En) : lpO k (.next ρ) = k ρ := Eq.trans rfl rfl
theorem lp_ret (k : En → Out) (r : RV) : lpO k (.ret r) = .ret r := Eq.trans rfl rfl
theorem lp_exc (k : En → Out) (e : Exc) (ρ : En) : lpO k (.exc e ρ) = .exc e ρ := Eq.trans rfl rfl
theorem sz (n : Nat) (h : n ≤ 16777216) : n ≤ sizeLine := by rw [sizeLine_eq]; exact h
theorem sz' (n : Nat) (h : n < 16777216) : n < sizeLine := by rw [sizeLine_eq]; exact h
theorem atI_nat {α : Type} (xs : List α) (i : Nat) : L2.atI xs (i : Int) = xs[i]? := by
  unfold L2.atI L2.ixN
  rw [if_pos (by omega)]
  by_cases h : (i : Int) < xs.length
  · rw [if_pos h]; show xs[(i : Int).toNat]? = _; rw [Int.toNat_natCast]
  · rw [if_neg h, List.getElem?_eq_none (by omega)]; rfl
theorem atI_of {α : Type} (xs : List α) (i : Int) (n : Nat) (h : i = n) : L2.atI xs i = xs[n]? := by rw [h, atI_nat]
theorem atI_0 {α : Type} (x : α) (xs : List α) : L2.atI (x :: xs) 0 = some x := atI_of _ 0 0 rfl
theorem atI_1 {α : Type} (x y : α) (xs : List α) : L2.atI (x :: y :: xs) 1 = some y := atI_of _ 1 1 rfl
theorem atI_2 {α : Type} (x y z : α) (xs : List α) : L2.atI (x :: y :: z :: xs) 2 = some z := atI_of _ 2 2 rfl
theorem atI_3 {α : Type} (x y z w : α) (xs : List α) : L2.atI (x :: y :: z :: w :: xs) 3 = some w := atI_of _ 3 3 rfl
theorem eq_int (a b : Int) : eqD (.int a) (.int b) = .ok (.bl (decide (a = b))) := by
  unfold eqD
  rw [gd_pos ⟨rfl, rfl⟩]
  show Res.ok (D.bl (a == b)) = _
  rw [Bool.beq_eq_decide_eq]
theorem ne_int (a b : Int) : neD (.int a) (.int b) = .ok (.bl (!decide (a = b))) := by
  unfold neD
  rw [gd_pos ⟨rfl, rfl⟩]
  show Res.ok (D.bl (!(a == b))) = _
  rw [Bool.beq_eq_decide_eq]
theorem shp_str {a : Str} (h : PyData.strOk a = true) : shp (.str a) = true := by
  unfold shp SeqAt.shaped
  simp [toPy, PyData.canLay0, PyData.depth, h]
theorem eq_str {a b : Str} (h : PyData.strOk a = true) (h2 : PyData.strOk b = true) : eqD (.str a) (.str b) = .ok (.bl (decide (a = b))) := by
  unfold eqD
  rw [gd_pos ⟨shp_str h, shp_str h2⟩]
  show Res.ok (D.bl (a == b)) = _
  rw [Bool.beq_eq_decide_eq]
theorem ne_str {a b : Str} (h : PyData.strOk a = true) (h2 : PyData.strOk b = true) : neD (.str a) (.str b) = .ok (.bl (!decide (a = b))) := by
  unfold neD
  rw [gd_pos ⟨shp_str h, shp_str h2⟩]
  show Res.ok (D.bl (!(a == b))) = _
  rw [Bool.beq_eq_decide_eq]
theorem eq_bl (a b : Bool) : eqD (.bl a) (.bl b) = .ok (.bl (decide (a = b))) := by
  cases a <;> cases b <;> rfl
theorem rng1_nat (n : Nat) (h : n ≤ 1000000000) : rng1 [.int (n : Nat)] = .ok ((List.range n).map fun k => .int ((k : Nat) : Int)) := by
  show gd (-(2 ^ 62) ≤ (n : Int) ∧ (n : Int) < 2 ^ 62) (.ok ((List.range (n : Int).toNat).map fun k => D.int ((k : Nat) : Int))) = _
  rw [gd_pos (by omega), Int.toNat_natCast]
theorem rep_nat (xs : List D) (n : Nat) (h : n ≤ 1000000000) (hz : xs.length * n ≤ 16777216) : repO (.lst xs) (.int (n : Nat)) = .ok (List.replicate n xs).flatten := by
  show gd (-(2 ^ 63) ≤ (n : Int) ∧ (n : Int) < 2 ^ 63 ∧ xs.length * (n : Int).toNat ≤ sizeLine) (.ok (List.replicate (n : Int).toNat xs).flatten) = _
  rw [gd_pos ⟨by omega, by omega, by rw [Int.toNat_natCast]; exact sz _ hz⟩, Int.toNat_natCast]
theorem mul_nat (xs : List D) (n : Nat) (h : n ≤ 1000000000) (hz : xs.length * n ≤ 16777216) : mulD (.lst xs) (.int (n : Nat)) = .ok (.lst (List.replicate n xs).flatten) := by
  show gd (-(2 ^ 63) ≤ (n : Int) ∧ (n : Int) < 2 ^ 63 ∧ xs.length * (n : Int).toNat ≤ sizeLine) (.ok (D.lst (List.replicate (n : Int).toNat xs).flatten)) = _
  rw [gd_pos ⟨by omega, by omega, by rw [Int.toNat_natCast]; exact sz _ hz⟩, Int.toNat_natCast]
theorem add_lst (xs ys : List D) (h : xs.length + ys.length ≤ 16777216) : addD (.lst xs) (.lst ys) = .ok (.lst (xs ++ ys)) := gd_pos (sz _ h)
theorem add_tup (xs ys : List D) (h : xs.length + ys.length ≤ 16777216) : addD (.tup xs) (.tup ys) = .ok (.tup (xs ++ ys)) := gd_pos (sz _ h)
theorem tup_ok (xs : List D) (h : xs.length ≤ 16777216) : tupD xs = .ok (.tup xs) := gd_pos (sz _ h)
theorem lst_ok (xs : List D) (h : xs.length ≤ 16777216) : lstD xs = .ok xs := gd_pos (sz _ h)
theorem len_lst (xs : List D) : lenL [.lst xs] = .ok (.int (xs.length : Nat)) := rfl
theorem len_tup (xs : List D) : lenL [.tup xs] = .ok (.int (xs.length : Nat)) := rfl
theorem rep_one (d : D) (m : Nat) : (List.replicate m [d]).flatten = List.replicate m d := by
  induction m with
  | zero => rfl
  | succ m ih => rw [List.replicate_succ, List.flatten_cons, ih]; rfl
theorem run_of {n : Nat} {b : En → Out} {ds : List D} {env : En} {o : Out} {r : Res RV} (he : start0 n ds = env) (ho : b env = o) (hr : runO o = r) : runF n b ds = r := by subst he; unfold runF; rw [ho]; exact hr
theorem set_eq {i : Nat} {f : En → Res D} {ρ : En} {d : D} (h : f ρ = .ok d) : sSet i f ρ = .next (ρ.set i (.sh d)) := by unfold sSet; rw [h, ofR_ok]
theorem setO_eq {i : Nat} {f : En → Res (List D)} {ρ : En} {d : List D} (h : f ρ = .ok d) : sSetO i f ρ = .next (ρ.set i (.ow (.lst d))) := by unfold sSetO; rw [h, ofR_ok]
theorem for_eq {it : En → Res (List D)} {t : D → En → Res En} {b : En → Out} {ρ : En} {ds : List D} {o : Out} (h : it ρ = .ok ds) (hf : forL t b ds ρ = o) : sFor it t b ρ = o := by unfold sFor; rw [h, ofR_ok]; exact hf
theorem appO_eq {o : List D → Res (List D)} {f : En → Res (List D)} {ρ : En} {ds : List D} {r : Res (List D)} (h : f ρ = .ok ds) (hr : o ds = r) : appO o f ρ = r := by unfold appO; rw [h, bind_ok]; exact hr
theorem app_eq {o : List D → Res D} {f : En → Res (List D)} {ρ : En} {ds : List D} {r : Res D} (h : f ρ = .ok ds) (hr : o ds = r) : app o f ρ = r := by unfold app; rw [h, bind_ok]; exact hr
theorem cons_eq {f : En → Res D} {g : En → Res (List D)} {ρ : En} {d : D} {ds : List D} (h : f ρ = .ok d) (h2 : g ρ = .ok ds) : aCons f g ρ = .ok (d :: ds) := by unfold aCons; rw [h, bind_ok, h2, bind_ok]
theorem call_eq {m : List D → Res RV} {f : En → Res (List D)} {ρ : En} {ds : List D} {r : Res D} (h : f ρ = .ok ds) (hr : rvD (m ds) = r) : callE m f ρ = r := by unfold callE; rw [h, bind_ok]; exact hr
theorem bin_eq {o : D → D → Res D} {f g : En → Res D} {ρ : En} {x y : D} {r : Res D} (h : f ρ = .ok x) (h2 : g ρ = .ok y) (hr : o x y = r) : bin o f g ρ = r := by unfold bin; rw [h, bind_ok, h2, bind_ok]; exact hr
theorem binO_eq {o : D → D → Res (List D)} {f g : En → Res D} {ρ : En} {x y : D} {r : Res (List D)} (h : f ρ = .ok x) (h2 : g ρ = .ok y) (hr : o x y = r) : binO o f g ρ = r := by unfold binO; rw [h, bind_ok, h2, bind_ok]; exact hr
theorem own_eq {f : En → Res (List D)} {ρ : En} {xs : List D} (h : f ρ = .ok xs) : own f ρ = .ok (.lst xs) := by unfold own; rw [h, bind_ok]
theorem ret_eq {f : En → Res D} {ρ : En} {d : D} (h : f ρ = .ok d) : sRet f ρ = .ret (.sh d) := by unfold sRet; rw [h, ofR_ok]
theorem retO_eq {f : En → Res (List D)} {ρ : En} {d : List D} (h : f ρ = .ok d) : sRetO f ρ = .ret (.ow d) := by unfold sRetO; rw [h, ofR_ok]
theorem if_eq {c : En → Res Bool} {f g : En → Out} {ρ : En} {b : Bool} {o : Out} (h : c ρ = .ok b) (ho : (if b then f ρ else g ρ) = o) : sIf c f g ρ = o := by unfold sIf; rw [h, ofR_ok]; exact ho
theorem drop_eq {f : En → Res D} {ρ : En} {d : D} (h : f ρ = .ok d) : sDrop f ρ = .next ρ := by unfold sDrop; rw [h, ofR_ok]
theorem drop_exc {f : En → Res D} {ρ : En} {e : Exc} (h : f ρ = .exc e) : sDrop f ρ = .exc e ρ := by unfold sDrop; rw [h, ofR_exc]
theorem tst_eq {o : D → Res Bool} {f : En → Res D} {ρ : En} {d : D} {r : Res Bool} (h : f ρ = .ok d) (hr : o d = r) : tst o f ρ = r := by unfold tst; rw [h, bind_ok]; exact hr
theorem not_eq {f : En → Res Bool} {ρ : En} {b : Bool} (h : f ρ = .ok b) : notB f ρ = .ok (!b) := by unfold notB; rw [h, bind_ok]
theorem lc_yes {i : Nat} {tt : En → Res Bool} {te : En → Res D} {d v : D} {ds vs : List D} {ρ : En} (h : tt (ρ.set i (.sh d)) = .ok true) (h2 : te (ρ.set i (.sh d)) = .ok v) (h3 : lcL i tt te ds ρ = .ok vs) : lcL i tt te (d :: ds) ρ = .ok (v :: vs) := by
  unfold lcL; rw [h]; simp only [h2, h3]
theorem lc_no {i : Nat} {tt : En → Res Bool} {te : En → Res D} {d : D} {ds : List D} {ρ : En} {r : Res (List D)} (h : tt (ρ.set i (.sh d)) = .ok false) (h3 : lcL i tt te ds ρ = r) : lcL i tt te (d :: ds) ρ = r := by
  unfold lcL; rw [h]; exact h3
theorem seq_n {f g : En → Out} {ρ ρ' : En} {o : Out} (h : f ρ = .next ρ') (k : g ρ' = o) : sSeq f g ρ = o := (seq_next h).trans k
theorem lce_eq {it : En → Res (List D)} {i : Nat} {tt : En → Res Bool} {te : En → Res D} {ρ : En} {ds vs : List D} (h : it ρ = .ok ds) (hz : ds.length ≤ 16777216) (h2 : lcL i tt te ds ρ = .ok vs) : lcE it i tt te ρ = .ok vs := by
  unfold lcE; rw [h, bind_ok, gd_pos (sz _ hz)]; exact h2
end PL

set_option maxRecDepth 100000
set_option maxHeartbeats 1000000
namespace PL
open PySem
theorem tup2 (a b : D) : tupD [a, b] = .ok (.tup [a, b]) := gd_pos (sz _ (by simp))
theorem cut_last (xs : List D) : cutG xs (some (-1)) none = xs.drop (xs.length - 1) := by
  unfold cutG
  have e1 : HT.sIx xs.length 0 (some (-1)) = xs.length - 1 := by
    show (if (-1 : Int) < 0 then ((-1 : Int) + (xs.length : Int)).toNat else min (-1 : Int).toNat xs.length) = xs.length - 1
    rw [if_pos (by decide)]
    omega
  rw [e1, HT.sIx_none, List.take_of_length_le (by rw [List.length_drop]; omega)]
theorem eq_lst_shp {xs ys : List D} (h : shp (.lst xs) = true) (h2 : shp (.lst ys) = true) : eqD (.lst xs) (.lst ys) = .ok (.bl (eqv (.lst xs) (.lst ys))) := gd_pos ⟨h, h2⟩
theorem ne_of_eqD {a b : D} {v : Bool} (h : eqD a b = .ok (.bl v)) : neD a b = .ok (.bl (!v)) := by
  unfold eqD at h
  unfold neD
  obtain ⟨hc, h⟩ := gd_ok h
  rw [gd_pos hc]
  cases h
  rfl
theorem app_ok {i : Nat} {f : En → Res D} {ρ : En} {xs : List D} {d : D} (h : owL ρ i = .ok xs) (hf : f ρ = .ok d) (hz : xs.length < 16777216) : sApp i f ρ = .next (setL ρ i (xs ++ [d])) := by
  unfold sApp
  rw [h, ofR_ok, hf, ofR_ok, gd_pos (sz' _ hz), ofR_ok]
theorem put_ok {i : Nat} {f g : En → Res D} {ρ : En} {xs : List D} {d n : D} {j : Nat} (h : owL ρ i = .ok xs) (hg : g ρ = .ok d) (hf : f ρ = .ok n) (hn : n = .int (j : Nat)) (hj : j < xs.length) : sPut i f g ρ = .next (setL ρ i (xs.set j d)) := by
  subst hn
  have e : putAt xs d (.int (j : Nat)) = .ok (xs.set j d) := by
    have e : L2.ixN xs.length (j : Nat) = some j := by
      unfold L2.ixN
      rw [if_pos (by omega), if_pos (by omega), Int.toNat_natCast]
    show (match L2.ixN xs.length (j : Nat) with | some j => Res.ok (xs.set j d) | none => .stuck) = _
    rw [e]
  unfold sPut
  rw [h, ofR_ok, hg, ofR_ok, hf, ofR_ok, e, ofR_ok]
theorem ixO_ok {i : Nat} {f : En → Res D} {ρ : En} {xs : List D} {j : Nat} (h : owL ρ i = .ok xs) (hf : f ρ = .ok (.int (j : Nat))) (hj : j < xs.length) : ixO i f ρ = .ok xs[j] := by
  unfold ixO
  rw [h, bind_ok, hf, bind_ok]
  show (match L2.atI xs (j : Nat) with | some d => Res.ok d | none => .stuck) = _
  rw [atI_nat, List.getElem?_eq_getElem hj]
theorem bor_len {ρ : En} {i : Nat} {xs : List D} (h : owL ρ i = .ok xs) (hv : (ρ.set i (.sh (.lst xs)))[i]? = some (.sh (.lst xs))) : borE i (app lenL (aCons (eVar i) aNil)) ρ = .ok (.int (xs.length : Nat)) := by
  unfold borE
  rw [h]
  have e : app lenL (aCons (eVar i) aNil) (ρ.set i (.sh (.lst xs))) = .ok (.int (xs.length : Nat)) := app_eq (cons_eq (show eVar i _ = .ok (.lst xs) by unfold eVar; rw [hv]) rfl) (len_lst xs)
  simp only [e]
  exact gd_pos rfl
theorem putK_ok {i : Nat} {f g : En → Res D} {ρ : En} {kvs : List (L2.Key × D)} {d n : D} {k : L2.Key} (h : owK ρ i = .ok kvs) (hg : g ρ = .ok d) (hf : f ρ = .ok n) (hk : keyOf n = .ok k) (hz : kvs.length < 16777216) : sPutK i f g ρ = .next (ρ.set i (.ow (.dk (putD kvs k d)))) := by
  unfold sPutK
  rw [h, ofR_ok, hg, ofR_ok, hf, ofR_ok, hk, ofR_ok, gd_pos (sz' _ hz), ofR_ok]
theorem getK_ok {i : Nat} {f : En → Res D} {ρ : En} {kvs : List (L2.Key × D)} {d n : D} {k : L2.Key} (h : owK ρ i = .ok kvs) (hf : f ρ = .ok n) (hk : keyOf n = .ok k) (hv : valD kvs k = some d) : getK i f ρ = .ok d := by
  unfold getK
  rw [h, bind_ok, hf, bind_ok, hk, bind_ok, hv]
theorem call_sh {m : List D → Res RV} {f : En → Res (List D)} {ρ : En} {ds : List D} {d : D} (h : f ρ = .ok ds) (hm : m ds = .ok (.sh d)) : callE m f ρ = .ok d := call_eq h (by rw [hm]; rfl)
theorem call_ow {m : List D → Res RV} {f : En → Res (List D)} {ρ : En} {ds : List D} {d : List D} (h : f ρ = .ok ds) (hm : m ds = .ok (.ow d)) : callE m f ρ = .ok (.lst d) := call_eq h (by rw [hm]; rfl)
theorem call_exc {m : List D → Res RV} {f : En → Res (List D)} {ρ : En} {ds : List D} {e : Exc} (h : f ρ = .ok ds) (hm : m ds = .exc e) : callE m f ρ = .exc e := call_eq h (by rw [hm]; rfl)
theorem callO_ow {m : List D → Res RV} {f : En → Res (List D)} {ρ : En} {ds : List D} {d : List D} (h : f ρ = .ok ds) (hm : m ds = .ok (.ow d)) : callO m f ρ = .ok d := by unfold callO; rw [h, bind_ok, hm]; rfl
theorem callO_exc {m : List D → Res RV} {f : En → Res (List D)} {ρ : En} {ds : List D} {e : Exc} (h : f ρ = .ok ds) (hm : m ds = .exc e) : callO m f ρ = .exc e := by unfold callO; rw [h, bind_ok, hm]; rfl
theorem borT_ok {i : Nat} {t : En → Res Bool} {ρ : En} {xs : List D} {b : Bool} (h : owL ρ i = .ok xs) (ht : t (ρ.set i (.sh (.lst xs))) = .ok b) : borT i t ρ = .ok b := by
  unfold borT; rw [h]; simp only [ht]
theorem borE_ok {i : Nat} {t : En → Res D} {ρ : En} {xs : List D} {d : D} (h : owL ρ i = .ok xs) (ht : t (ρ.set i (.sh (.lst xs))) = .ok d) (hs : scl d = true) : borE i t ρ = .ok d := by
  unfold borE; rw [h]; simp only [ht]; exact gd_pos hs
theorem borO_ok {i : Nat} {t : En → Res (List D)} {ρ : En} {xs ds : List D} (h : owL ρ i = .ok xs) (ht : t (ρ.set i (.sh (.lst xs))) = .ok ds) (hs : sclA ds = true) : borO i t ρ = .ok ds := by
  unfold borO; rw [h]; simp only [ht]; exact gd_pos hs
theorem andV_yes {f g : En → Res D} {ρ : En} (h : f ρ = .ok (.bl true)) (h2 : g ρ = .ok (.bl true)) : andV f g ρ = .ok (.bl true) := by unfold andV; rw [h, bind_ok]; exact h2
theorem cut_init (xs : List D) (x : D) : cutG (xs ++ [x]) none (some (-1)) = xs := by
  unfold cutG
  have e1 : HT.sIx (xs ++ [x]).length (xs ++ [x]).length (some (-1)) = xs.length := by
    show (if (-1 : Int) < 0 then ((-1 : Int) + ((xs ++ [x]).length : Int)).toNat else min (-1 : Int).toNat (xs ++ [x]).length) = xs.length
    rw [if_pos (by decide), List.length_append]
    simp only [List.length_cons, List.length_nil]
    omega
  rw [e1, HT.sIx_none, List.drop_zero, Nat.sub_zero, List.take_left]
theorem sclA_of : ∀ {xs : List D}, (∀ x ∈ xs, scl x = true) → sclA xs = true
  | [], _ => rfl
  | x :: xs, h => by
    unfold sclA
    rw [h x List.mem_cons_self, sclA_of fun y hy => h y (List.mem_cons_of_mem _ hy)]
    rfl
theorem cut_to (xs : List D) (k : Nat) : cutG xs none (some (k : Int)) = xs.take k := by
  unfold cutG
  rw [HT.sIx_none, HT.sIx_nat, List.drop_zero, Nat.sub_zero, List.take_eq_take_iff]
  omega
theorem cut_from (xs : List D) (k : Nat) (hk : 0 < k) : cutG xs (some (-(k : Int))) none = xs.drop (xs.length - k) := by
  unfold cutG
  have e1 : HT.sIx xs.length 0 (some (-(k : Int))) = xs.length - k := by
    show (if (-(k : Int)) < 0 then ((-(k : Int)) + (xs.length : Int)).toNat else min (-(k : Int)).toNat xs.length) = xs.length - k
    rw [if_pos (by omega)]
    omega
  rw [e1, HT.sIx_none, List.take_of_length_le (by rw [List.length_drop]; omega)]
theorem flat_len (n : Nat) (xs : List D) : (List.replicate n xs).flatten.length = n * xs.length := by
  induction n with
  | zero => simp
  | succ n ih => rw [List.replicate_succ, List.flatten_cons, List.length_append, ih, Nat.succ_mul]; omega
theorem or_no {f g : En → Res Bool} {ρ : En} (h : f ρ = .ok false) (h2 : g ρ = .ok false) : orB f g ρ = .ok false := by unfold orB; rw [h, bind_ok]; exact h2
theorem it_eq {f : En → Res D} {ρ : En} {d : D} {ds : List D} (h : f ρ = .ok d) (hs : seqOf d = .ok ds) : itE f ρ = .ok ds := by unfold itE; rw [h, bind_ok]; exact hs
theorem map_erase {α β : Type} (f : α → β) : ∀ (l : List α) (n : Nat), (l.map f).eraseIdx n = (l.eraseIdx n).map f
  | [], _ => rfl
  | x :: l, 0 => rfl
  | x :: l, n + 1 => by
    show f x :: (l.map f).eraseIdx n = f x :: (l.eraseIdx n).map f
    rw [map_erase f l n]
end PL

set_option maxRecDepth 100000
set_option maxHeartbeats 1000000
namespace K47
open PySem PySem.Spec PyProof.Rows L2 PL
def knX : Exc → Bool | .badText _ _ _ => true | .badValue _ => true | .tooMany _ => true | _ => false
def isX_BadText : Exc → Bool | .badText _ _ _ => true | _ => false
def isX_BadValue : Exc → Bool | .badValue _ => true | _ => false
def isX_TooMany : Exc → Bool | .tooMany _ => true | _ => false
/-! ### _law_row -/
def B1__law_row : En → Out := (sSeq (sApp 4 (bin modD (app intL (aCons (eVar 3) aNil)) (eVar 2))) (sSet 3 (bin fdivD (eVar 3) (eVar 2))))
def B2__law_row : En → Out := (sSeq (sSet 5 (bin modD (app intL (aCons (bin addD (bin addD (bin mulD (eVar 5) (eC (.int 69621))) (bin mulD (eVar 6) (eC (.int 48271)))) (eVar 3)) aNil)) (eC (.int 2147483629)))) (sApp 4 (bin modD (app intL (aCons (bin fdivD (eVar 5) (eC (.int 7))) aNil)) (eVar 2))))
def b__law_row : En → Out := (sSeq (sSet 3 (app absL (aCons (eVar 0) aNil))) (sSeq (sSetO 4 (appO lstD aNil)) (sSeq (sIf (tst bOf (bin geD (eVar 3) (bin powD (eC (.int 10)) (eC (.int 18))))) (sSeq (sSet 3 (bin subD (eVar 3) (bin powD (eC (.int 10)) (eC (.int 18))))) (sSeq (sFor (appO rng1 (aCons (eVar 1) aNil)) (gN 6) B1__law_row) (sRetV 4))) sNext) (sSeq (sSet 5 (bin modD (app intL (aCons (bin addD (bin mulD (eVar 3) (eC (.int 48271))) (eC (.int 11))) aNil)) (eC (.int 2147483647)))) (sSeq (sFor (appO rng1 (aCons (eVar 1) aNil)) (gN 6) B2__law_row) (sRetV 4))))))
def m__law_row : List D → Res RV := runF 7 b__law_row
/-! ### _law_cell -/
def b__law_cell : En → Out := (sSeq (sIf (tst bOf (bin ltD (eVar 1) (app lenL (aCons (eVar 0) aNil)))) (sRet (app intL (aCons (bin ixD (eVar 0) (eVar 1)) aNil))) sNext) (sRet (eC (.int 0))))
def m__law_cell : List D → Res RV := runF 2 b__law_cell
/-! ### _law_name -/
def B1__law_name : En → Out := (sIf (tst bOf (bin gtD (eVar 3) (eC (.int 0)))) (sSeq (sSet 2 (bin addD (eVar 2) (bin ixD (eVar 1) (bin modD (app intL (aCons (eVar 3) aNil)) (eC (.int 36)))))) (sSet 3 (bin fdivD (eVar 3) (eC (.int 36))))) sNext)
def b__law_name : En → Out := (sSeq (sSet 1 (eC (.str "abcdefghijklmnopqrstuvwxyz0123456789"))) (sSeq (sSet 2 (bin ixD (eVar 1) (bin modD (app intL (aCons (eVar 0) aNil)) (eC (.int 26))))) (sSeq (sSet 3 (bin fdivD (eVar 0) (eC (.int 26)))) (sSeq (sFor (appO rng1 (aCons (eC (.int 11)) aNil)) (gN 4) B1__law_name) (sRet (eVar 2))))))
def m__law_name : List D → Res RV := runF 5 b__law_name
/-! ### _law_history -/
def B1__law_history : En → Out := (sSeq (sSet 9 (bin modD (app intL (aCons (bin ixD (eVar 3) (eVar 8)) aNil)) (bin ixD (own (appO lstD (aCons (eC (.int 7)) (aCons (eC (.int 30)) (aCons (eC (.int 1000)) (aCons (eC (.int 1000001)) aNil)))))) (eVar 2)))) (sApp 7 (app tupD (aCons (eVar 9) (aCons (bin ixD (eVar 4) (eVar 8)) (aCons (callE m__law_name (aCons (bin ixD (eVar 5) (eVar 8)) aNil)) (aCons (bin ixD (own (appO lstD (aCons (eC (.str "in")) (aCons (eC (.str "out")) aNil)))) (bin ixD (eVar 6) (eVar 8))) aNil)))))))
def b__law_history : En → Out := (sSeq (sSet 2 (bin ixD (callE m__law_row (aCons (callE m__law_cell (aCons (eVar 0) (aCons (eC (.int 6)) aNil))) (aCons (eC (.int 1)) (aCons (eC (.int 4)) aNil)))) (eC (.int 0)))) (sSeq (sSet 3 (callE m__law_row (aCons (callE m__law_cell (aCons (eVar 0) (aCons (eC (.int 1)) aNil))) (aCons (eVar 1) (aCons (eC (.int 1000001)) aNil))))) (sSeq (sSet 4 (callE m__law_row (aCons (callE m__law_cell (aCons (eVar 0) (aCons (eC (.int 2)) aNil))) (aCons (eVar 1) (aCons (eC (.int 30)) aNil))))) (sSeq (sSet 5 (callE m__law_row (aCons (callE m__law_cell (aCons (eVar 0) (aCons (eC (.int 3)) aNil))) (aCons (eVar 1) (aCons (bin mulD (eC (.int 26)) (bin powD (eC (.int 36)) (eC (.int 11)))) aNil))))) (sSeq (sSet 6 (callE m__law_row (aCons (callE m__law_cell (aCons (eVar 0) (aCons (eC (.int 4)) aNil))) (aCons (eVar 1) (aCons (eC (.int 2)) aNil))))) (sSeq (sSetO 7 (appO lstD aNil)) (sSeq (sFor (appO rng1 (aCons (eVar 1) aNil)) (gN 8) B1__law_history) (sRetV 7))))))))
def m__law_history : List D → Res RV := runF 10 b__law_history
/-! ### _law_written -/
def B1__law_written : En → Out := (sApp 1 (strM joinD (eC (.str " ")) (own (appO lstD (aCons (app strL (aCons (bin ixD (eVar 2) (eC (.int 0))) aNil)) (aCons (app strL (aCons (bin ixD (eVar 2) (eC (.int 1))) aNil)) (aCons (bin ixD (eVar 2) (eC (.int 2))) (aCons (bin ixD (eVar 2) (eC (.int 3))) aNil))))))))
def b__law_written : En → Out := (sSeq (sSetO 1 (appO lstD aNil)) (sSeq (sFor (itE (eVar 0)) (gN 2) B1__law_written) (sFrz 1 (sRet (strM joinD (eC (.str "\n")) (eVar 1))))))
def m__law_written : List D → Res RV := runF 3 b__law_written
/-! ### need_list -/
def b_need_list : En → Out := (sSeq (sIf (notB (tst truD (isiD "list" (eVar 0)))) (sRaise mkBV (aCons (eVar 2) aNil)) sNext) (sIf (tst bOf (bin gtD (app lenL (aCons (eVar 0) aNil)) (eVar 1))) (sRaise mkTM (aCons (eVar 1) aNil)) sNext))
def m_need_list : List D → Res RV := runF 3 b_need_list
/-! ### is_integer -/
def b_is_integer : En → Out := (sRet (andV (isiD "int" (eVar 0)) (notV (isiD "bool" (eVar 0)))))
def m_is_integer : List D → Res RV := runF 1 b_is_integer
/-! ### in_range -/
def b_in_range : En → Out := (sRet (andV (callE m_is_integer (aCons (eVar 0) aNil)) (andV (bin leD (eVar 1) (eVar 0)) (bin leD (eVar 0) (eVar 2)))))
def m_in_range : List D → Res RV := runF 3 b_in_range
/-! ### is_time -/
def b_is_time : En → Out := (sRet (callE m_in_range (aCons (eVar 0) (aCons (eC (.int 0)) (aCons (eC (.int 1000000)) aNil)))))
def m_is_time : List D → Res RV := runF 1 b_is_time
/-! ### is_name -/
def B1_is_name : En → Out := (sIf (andB (tst bOf (bin notInD (eVar 1) (eC (.str "abcdefghijklmnopqrstuvwxyz")))) (tst bOf (bin notInD (eVar 1) (eC (.str "0123456789"))))) (sRet (eC (.bl false))) sNext)
def b_is_name : En → Out := (sSeq (sIf (orB (notB (tst truD (isiD "str" (eVar 0)))) (orB (tst bOf (bin ltD (app lenL (aCons (eVar 0) aNil)) (eC (.int 1)))) (tst bOf (bin gtD (app lenL (aCons (eVar 0) aNil)) (eC (.int 12)))))) (sRet (eC (.bl false))) sNext) (sSeq (sIf (tst bOf (bin notInD (bin ixD (eVar 0) (eC (.int 0))) (eC (.str "abcdefghijklmnopqrstuvwxyz")))) (sRet (eC (.bl false))) sNext) (sSeq (sFor (itE (eVar 0)) (gN 1) B1_is_name) (sRet (eC (.bl true))))))
def m_is_name : List D → Res RV := runF 2 b_is_name
/-! ### is_opening -/
def b_is_opening : En → Out := (sSeq (sIf (orB (notB (tst truD (isiD "tuple" (eVar 0)))) (tst bOf (bin neD (app lenL (aCons (eVar 0) aNil)) (eC (.int 4))))) (sRet (eC (.bl false))) sNext) (sSeq (sIf (orB (notB (tst truD (callE m_is_time (aCons (bin ixD (eVar 0) (eC (.int 0))) aNil)))) (orB (notB (tst truD (callE m_in_range (aCons (bin ixD (eVar 0) (eC (.int 1))) (aCons (eC (.int 0)) (aCons (eC (.int 29)) aNil)))))) (notB (tst truD (callE m_is_name (aCons (bin ixD (eVar 0) (eC (.int 2))) aNil)))))) (sRet (eC (.bl false))) sNext) (sRet (bin inD (bin ixD (eVar 0) (eC (.int 3))) (eC (.tup [(.str "in"), (.str "out")]))))))
def m_is_opening : List D → Res RV := runF 1 b_is_opening
/-! ### need_history -/
def B1_need_history : En → Out := (sIf (notB (tst truD (callE m_is_opening (aCons (eVar 1) aNil)))) (sRaise mkBV (aCons (eC (.str "history")) aNil)) sNext)
def b_need_history : En → Out := (sSeq (sDrop (callE m_need_list (aCons (eVar 0) (aCons (eC (.int 60)) (aCons (eC (.str "history")) aNil))))) (sFor (itE (eVar 0)) (gN 1) B1_need_history))
def m_need_history : List D → Res RV := runF 2 b_need_history
/-! ### format_history -/
def E1_format_history : En → Res D := (app strL (aCons (eVar 2) aNil))
def E2_format_history : En → Res D := (strM joinD (eC (.str " ")) (own (lcE (itE (eVar 1)) 2 yesB E1_format_history)))
def b_format_history : En → Out := (sSeq (sDrop (callE m_need_history (aCons (eVar 0) aNil))) (sRet (strM joinD (eC (.str "\n")) (own (lcE (itE (eVar 0)) 1 yesB E2_format_history)))))
def m_format_history : List D → Res RV := runF 3 b_format_history
/-! ### _law_word -/
def b__law_word : En → Out := (sSeq (sSet 1 (own (appO lstD (aCons (eC (.str "0")) (aCons (eC (.str "00")) (aCons (eC (.str "01")) (aCons (eC (.str "1")) (aCons (eC (.str "7")) (aCons (eC (.str "29")) (aCons (eC (.str "30")) (aCons (eC (.str "31")) (aCons (eC (.str "029")) (aCons (eC (.str "999999")) (aCons (eC (.str "1000000")) (aCons (eC (.str "1000001")) (aCons (eC (.str "0000001")) aNil)))))))))))))))) (sSeq (sSet 1 (bin addD (eVar 1) (own (appO lstD (aCons (eC (.str "12345678901234567890")) (aCons (eC (.str "-1")) (aCons (eC (.str "-0")) (aCons (eC (.str "+1")) (aCons (eC (.str "1.0")) (aCons (eC (.str "1e3")) (aCons (eC (.str "1_0")) (aCons (eC (.str "0x1")) (aCons (eC (.str "")) (aCons (eC (.str "a")) (aCons (eC (.str "z9")) (aCons (eC (.str "9z")) aNil)))))))))))))))) (sSeq (sSet 1 (bin addD (eVar 1) (own (appO lstD (aCons (eC (.str "Anna")) (aCons (eC (.str "annA")) (aCons (eC (.str "an_a")) (aCons (eC (.str "an-a")) (aCons (eC (.str "abcdefghijkl")) (aCons (eC (.str "abcdefghijklm")) (aCons (eC (.str "in")) (aCons (eC (.str "out")) (aCons (eC (.str "In")) (aCons (eC (.str "OUT")) (aCons (eC (.str "inn")) aNil))))))))))))))) (sSeq (sSet 1 (bin addD (eVar 1) (own (appO lstD (aCons (eC (.str "ou")) (aCons (eC (.str "none")) (aCons (eC (.str "\t")) (aCons (eC (.str "in\t")) aNil)))))))) (sRet (bin ixD (eVar 1) (bin modD (app intL (aCons (eVar 0) aNil)) (eC (.int 40)))))))))
def m__law_word : List D → Res RV := runF 2 b__law_word
/-! ### _law_same -/
def B1__law_same (again : List D → Res RV) : En → Out := (sIf (notB (tst truD (callE again (aCons (bin ixD (eVar 0) (eVar 2)) (aCons (bin ixD (eVar 1) (eVar 2)) aNil))))) (sRet (eC (.bl false))) sNext)
def b__law_same (again : List D → Res RV) : En → Out := (sSeq (sIf (tst bOf (bin isD (eVar 1) (eC .non))) (sRet (bin isD (eVar 0) (eC .non))) sNext) (sSeq (sIf (tst truD (isiD "bool" (eVar 1))) (sRet (andV (isiD "bool" (eVar 0)) (bin eqD (eVar 0) (eVar 1)))) sNext) (sSeq (sIf (tst truD (isiD "int" (eVar 1))) (sRet (andV (isiD "int" (eVar 0)) (andV (notV (isiD "bool" (eVar 0))) (bin eqD (eVar 0) (eVar 1))))) sNext) (sSeq (sIf (tst truD (isiD "str" (eVar 1))) (sRet (andV (isiD "str" (eVar 0)) (bin eqD (eVar 0) (eVar 1)))) sNext) (sSeq (sIf (andB (tst truD (isiD "tuple" (eVar 1))) (notB (tst truD (isiD "tuple" (eVar 0))))) (sRet (eC (.bl false))) sNext) (sSeq (sIf (andB (tst truD (isiD "list" (eVar 1))) (notB (tst truD (isiD "list" (eVar 0))))) (sRet (eC (.bl false))) sNext) (sSeq (sIf (tst bOf (bin neD (app lenL (aCons (eVar 0) aNil)) (app lenL (aCons (eVar 1) aNil)))) (sRet (eC (.bl false))) sNext) (sSeq (sFor (appO rng1 (aCons (app lenL (aCons (eVar 1) aNil)) aNil)) (gN 2) (B1__law_same again)) (sRet (eC (.bl true)))))))))))
def m__law_same : Nat → List D → Res RV | 0 => runF 3 sNever | n + 1 => runF 3 (b__law_same (m__law_same n))
/-! ### _law_number -/
def B1__law_number : En → Out := (sIf (tst bOf (bin notInD (eVar 2) (eC (.str "0123456789")))) (sRet (eC (.bl false))) sNext)
def b__law_number : En → Out := (sSeq (sFor (itE (eVar 0)) (gN 2) B1__law_number) (sRet (andV (bin neD (eVar 0) (eC (.str ""))) (andV (bin eqD (app strL (aCons (app intL (aCons (eVar 0) aNil)) aNil)) (eVar 0)) (bin leD (app intL (aCons (eVar 0) aNil)) (eVar 1))))))
def m__law_number : List D → Res RV := runF 3 b__law_number
/-! ### _law_is_name -/
def E1__law_is_name : En → Res D := (bin inD (eVar 2) (bin addD (eVar 1) (eC (.str "0123456789"))))
def b__law_is_name : En → Out := (sSeq (sSet 1 (eC (.str "abcdefghijklmnopqrstuvwxyz"))) (sSeq (sIf (orB (tst bOf (bin eqD (eVar 0) (eC (.str "")))) (orB (tst bOf (bin gtD (app lenL (aCons (eVar 0) aNil)) (eC (.int 12)))) (tst bOf (bin notInD (bin ixD (eVar 0) (eC (.int 0))) (eVar 1))))) (sRet (eC (.bl false))) sNext) (sRet (app allL (aCons (own (lcE (itE (eVar 0)) 2 yesB E1__law_is_name)) aNil)))))
def m__law_is_name : List D → Res RV := runF 3 b__law_is_name
/-! ### _law_good -/
def b__law_good : En → Out := (sSeq (sIf (tst bOf (bin eqD (eVar 0) (eC (.int 1)))) (sRet (callE m__law_number (aCons (eVar 1) (aCons (eC (.int 1000000)) aNil)))) sNext) (sSeq (sIf (tst bOf (bin eqD (eVar 0) (eC (.int 2)))) (sRet (callE m__law_number (aCons (eVar 1) (aCons (eC (.int 29)) aNil)))) sNext) (sSeq (sIf (tst bOf (bin eqD (eVar 0) (eC (.int 3)))) (sRet (callE m__law_is_name (aCons (eVar 1) aNil))) sNext) (sRet (orV (bin eqD (eVar 1) (eC (.str "in"))) (bin eqD (eVar 1) (eC (.str "out"))))))))
def m__law_good : List D → Res RV := runF 2 b__law_good
/-! ### _law_read -/
def B1__law_read : En → Out := (sSeq (sIf (tst bOf (bin gtD (eVar 5) (app lenL (aCons (eVar 4) aNil)))) (sRet (app tupD (aCons (eC (.str "text")) (aCons (bin addD (eVar 3) (eC (.int 1))) (aCons (eVar 5) (aCons (eC (.str "missing")) aNil)))))) sNext) (sIf (notB (tst truD (callE m__law_good (aCons (eVar 5) (aCons (bin ixD (eVar 4) (bin subD (eVar 5) (eC (.int 1)))) aNil))))) (sRet (app tupD (aCons (eC (.str "text")) (aCons (bin addD (eVar 3) (eC (.int 1))) (aCons (eVar 5) (aCons (bin ixD (own (appO lstD (aCons (eC (.str "time")) (aCons (eC (.str "box")) (aCons (eC (.str "person")) (aCons (eC (.str "way")) aNil)))))) (bin subD (eVar 5) (eC (.int 1)))) aNil)))))) sNext))
def B2__law_read : En → Out := (sSeq (sSet 4 (own (strM splitO (bin ixD (eVar 1) (eVar 3)) (eC (.str " "))))) (sSeq (sFor (appO rng2 (aCons (eC (.int 1)) (aCons (eC (.int 5)) aNil))) (gN 5) B1__law_read) (sSeq (sIf (tst bOf (bin gtD (app lenL (aCons (eVar 4) aNil)) (eC (.int 4)))) (sRet (app tupD (aCons (eC (.str "text")) (aCons (bin addD (eVar 3) (eC (.int 1))) (aCons (eC (.int 5)) (aCons (eC (.str "extra")) aNil)))))) sNext) (sApp 2 (app tupD (aCons (app intL (aCons (bin ixD (eVar 4) (eC (.int 0))) aNil)) (aCons (app intL (aCons (bin ixD (eVar 4) (eC (.int 1))) aNil)) (aCons (bin ixD (eVar 4) (eC (.int 2))) (aCons (bin ixD (eVar 4) (eC (.int 3))) aNil)))))))))
def b__law_read : En → Out := (sSeq (sIf (tst bOf (bin eqD (eVar 0) (eC (.str "")))) (sRet (app tupD (aCons (eC (.str "read")) (aCons (own (appO lstD aNil)) aNil)))) sNext) (sSeq (sSet 1 (own (strM splitO (eVar 0) (eC (.str "\n"))))) (sSeq (sIf (tst bOf (bin gtD (app lenL (aCons (eVar 1) aNil)) (eC (.int 60)))) (sRet (app tupD (aCons (eC (.str "many")) (aCons (eC (.int 60)) aNil)))) sNext) (sSeq (sSetO 2 (appO lstD aNil)) (sSeq (sFor (appO rng1 (aCons (app lenL (aCons (eVar 1) aNil)) aNil)) (gN 3) B2__law_read) (sFrz 2 (sRet (app tupD (aCons (eC (.str "read")) (aCons (eVar 2) aNil))))))))))
def m__law_read : List D → Res RV := runF 6 b__law_read
/-! ### need_text -/
def b_need_text : En → Out := (sIf (notB (tst truD (isiD "str" (eVar 0)))) (sRaise mkBV (aCons (eVar 1) aNil)) sNext)
def m_need_text : List D → Res RV := runF 2 b_need_text
/-! ### lines_of -/
def b_lines_of : En → Out := (sSeq (sIf (tst bOf (bin eqD (eVar 0) (eC (.str "")))) (sRetO (appO lstD aNil)) sNext) (sSeq (sSet 2 (own (strM splitO (eVar 0) (eC (.str "\n"))))) (sSeq (sIf (tst bOf (bin gtD (app lenL (aCons (eVar 2) aNil)) (eVar 1))) (sRaise mkTM (aCons (eVar 1) aNil)) sNext) (sRet (eVar 2)))))
def m_lines_of : List D → Res RV := runF 3 b_lines_of
/-! ### word_at -/
def b_word_at : En → Out := (sSeq (sIf (tst bOf (bin gtD (eVar 1) (app lenL (aCons (eVar 0) aNil)))) (sRaise mkBT (aCons (eVar 2) (aCons (eVar 1) (aCons (eC (.str "missing")) aNil)))) sNext) (sRet (bin ixD (eVar 0) (bin subD (eVar 1) (eC (.int 1))))))
def m_word_at : List D → Res RV := runF 3 b_word_at
/-! ### is_written -/
def B1_is_written : En → Out := (sIf (tst bOf (bin notInD (eVar 3) (eC (.str "0123456789")))) (sRet (eC (.bl false))) sNext)
def b_is_written : En → Out := (sSeq (sIf (orB (tst bOf (bin eqD (eVar 0) (eC (.str "")))) (tst bOf (bin gtD (app lenL (aCons (eVar 0) aNil)) (eC (.int 9))))) (sRet (eC (.bl false))) sNext) (sSeq (sFor (itE (eVar 0)) (gN 3) B1_is_written) (sSeq (sIf (andB (tst bOf (bin gtD (app lenL (aCons (eVar 0) aNil)) (eC (.int 1)))) (tst bOf (bin eqD (bin ixD (eVar 0) (eC (.int 0))) (eC (.str "0"))))) (sRet (eC (.bl false))) sNext) (sRet (andV (bin leD (eVar 1) (app intL (aCons (eVar 0) aNil))) (bin leD (app intL (aCons (eVar 0) aNil)) (eVar 2)))))))
def m_is_written : List D → Res RV := runF 4 b_is_written
/-! ### number_at -/
def b_number_at : En → Out := (sSeq (sSet 5 (callE m_word_at (aCons (eVar 0) (aCons (eVar 1) (aCons (eVar 2) aNil))))) (sSeq (sIf (notB (tst truD (callE m_is_written (aCons (eVar 5) (aCons (eC (.int 0)) (aCons (eVar 3) aNil)))))) (sRaise mkBT (aCons (eVar 2) (aCons (eVar 1) (aCons (eVar 4) aNil)))) sNext) (sRet (app intL (aCons (eVar 5) aNil)))))
def m_number_at : List D → Res RV := runF 6 b_number_at
/-! ### name_at -/
def b_name_at : En → Out := (sSeq (sSet 4 (callE m_word_at (aCons (eVar 0) (aCons (eVar 1) (aCons (eVar 2) aNil))))) (sSeq (sIf (notB (tst truD (callE m_is_name (aCons (eVar 4) aNil)))) (sRaise mkBT (aCons (eVar 2) (aCons (eVar 1) (aCons (eVar 3) aNil)))) sNext) (sRet (eVar 4))))
def m_name_at : List D → Res RV := runF 5 b_name_at
/-! ### need_end -/
def b_need_end : En → Out := (sIf (tst bOf (bin gtD (app lenL (aCons (eVar 0) aNil)) (eVar 1))) (sRaise mkBT (aCons (eVar 2) (aCons (bin addD (eVar 1) (eC (.int 1))) (aCons (eC (.str "extra")) aNil)))) sNext)
def m_need_end : List D → Res RV := runF 3 b_need_end
/-! ### opening_at -/
def b_opening_at : En → Out := (sSeq (sSet 2 (callE m_number_at (aCons (eVar 0) (aCons (eC (.int 1)) (aCons (eVar 1) (aCons (eC (.int 1000000)) (aCons (eC (.str "time")) aNil))))))) (sSeq (sSet 3 (callE m_number_at (aCons (eVar 0) (aCons (eC (.int 2)) (aCons (eVar 1) (aCons (eC (.int 29)) (aCons (eC (.str "box")) aNil))))))) (sSeq (sSet 4 (callE m_name_at (aCons (eVar 0) (aCons (eC (.int 3)) (aCons (eVar 1) (aCons (eC (.str "person")) aNil)))))) (sSeq (sSet 5 (callE m_word_at (aCons (eVar 0) (aCons (eC (.int 4)) (aCons (eVar 1) aNil))))) (sSeq (sIf (tst bOf (bin notInD (eVar 5) (eC (.tup [(.str "in"), (.str "out")])))) (sRaise mkBT (aCons (eVar 1) (aCons (eC (.int 4)) (aCons (eC (.str "way")) aNil)))) sNext) (sSeq (sDrop (callE m_need_end (aCons (eVar 0) (aCons (eC (.int 4)) (aCons (eVar 1) aNil))))) (sRet (app tupD (aCons (eVar 2) (aCons (eVar 3) (aCons (eVar 4) (aCons (eVar 5) aNil))))))))))))
def m_opening_at : List D → Res RV := runF 6 b_opening_at
/-! ### parse_history -/
def B1_parse_history : En → Out := (sSeq (sAug 2 (fun x y => x + y) (eC (.int 1))) (sApp 1 (callE m_opening_at (aCons (own (strM splitO (eVar 3) (eC (.str " ")))) (aCons (eVar 2) aNil)))))
def b_parse_history : En → Out := (sSeq (sDrop (callE m_need_text (aCons (eVar 0) (aCons (eC (.str "text")) aNil)))) (sSeq (sSetO 1 (appO lstD aNil)) (sSeq (sSet 2 (eC (.int 0))) (sSeq (sFor (itE (callE m_lines_of (aCons (eVar 0) (aCons (eC (.int 60)) aNil)))) (gN 3) B1_parse_history) (sRetV 1)))))
def m_parse_history : List D → Res RV := runF 4 b_parse_history
/-! ### _law_told -/
def b__law_told : En → Out := (sTry (sRet (app tupD (aCons (eC (.str "read")) (aCons (callE m_parse_history (aCons (eVar 0) aNil)) aNil)))) [⟨knX, isX_BadText, 1, (xRet (fun ex => app tupD ((fun ex => aCons ((fun _ => (eC (.str "text"))) ex) ((fun ex => aCons ((fldX "BadText" "line") ex) ((fun ex => aCons ((fldX "BadText" "word") ex) ((fun ex => aCons ((fldX "BadText" "what") ex) ((fun _ => aNil) ex)) ex)) ex)) ex)) ex)))⟩, ⟨knX, isX_TooMany, 1, (xRet (fun ex => app tupD ((fun ex => aCons ((fun _ => (eC (.str "many"))) ex) ((fun ex => aCons ((fldX "TooMany" "limit") ex) ((fun _ => aNil) ex)) ex)) ex)))⟩, ⟨knX, isX_BadValue, 1, (xRet (fun ex => app tupD ((fun ex => aCons ((fun _ => (eC (.str "value"))) ex) ((fun ex => aCons ((fldX "BadValue" "what") ex) ((fun _ => aNil) ex)) ex)) ex)))⟩])
def m__law_told : List D → Res RV := runF 2 b__law_told
/-! ### _law_asked -/
def b__law_asked : En → Out := (sSeq (sSet 1 (callE m__law_read (aCons (eVar 0) aNil))) (sSeq (sSetT 2 m__law_told (aCons (eVar 0) aNil)) (sSeq (sIf (tmpT 2 (notB (tst truD (callE (m__law_same 6) (aCons (eVar 2) (aCons (eVar 1) aNil)))))) (sRet (eC (.bl false))) sNext) (sSeq (sIf (tst bOf (bin neD (bin ixD (eVar 1) (eC (.int 0))) (eC (.str "read")))) (sRet (eC (.bl true))) sNext) (sSeq (sIf (tst bOf (bin neD (callE m_format_history (aCons (own (appO listL (aCons (bin ixD (eVar 1) (eC (.int 1))) aNil))) aNil)) (eVar 0))) (sRet (eC (.bl false))) sNext) (sSeq (sAppT 2 (app tupD (aCons (eC (.int 0)) (aCons (eC (.int 0)) (aCons (eC (.str "a")) (aCons (eC (.str "in")) aNil)))))) (sRet (callE (m__law_same 6) (aCons (callE m__law_told (aCons (eVar 0) aNil)) (aCons (eVar 1) aNil))))))))))
def m__law_asked : List D → Res RV := runF 3 b__law_asked
/-! ### _law_changed_line -/
def b__law_changed_line : En → Out := (sSeq (sSetO 4 (strM splitO (eVar 0) (eC (.str " ")))) (sSeq (sSet 5 (borE 4 (bin modD (app intL (aCons (eVar 2) aNil)) (app lenL (aCons (eVar 4) aNil))))) (sSeq (sIf (tst bOf (bin eqD (eVar 1) (eC (.int 0)))) (sPut 4 (eVar 5) (callE m__law_word (aCons (eVar 3) aNil))) sNext) (sSeq (sIf (tst bOf (bin eqD (eVar 1) (eC (.int 1)))) (sPopAt 4 (eVar 5)) sNext) (sSeq (sIf (tst bOf (bin eqD (eVar 1) (eC (.int 2)))) (sApp 4 (callE m__law_word (aCons (eVar 3) aNil))) sNext) (sSeq (sIf (tst bOf (bin eqD (eVar 1) (eC (.int 3)))) (sIns 4 (aCons (eVar 5) (aCons (ixO 4 (eVar 5)) aNil))) sNext) (sSeq (sIf (tst bOf (bin eqD (eVar 1) (eC (.int 4)))) (sIns 4 (aCons (eVar 5) (aCons (eC (.str "")) aNil))) sNext) (sSeq (sIf (tst bOf (bin eqD (eVar 1) (eC (.int 5)))) (sSeq (sSet 6 (ixO 4 (eVar 5))) (sSeq (sPut 4 (eVar 5) (borE 4 (bin ixD (eVar 4) (bin modD (app intL (aCons (eVar 3) aNil)) (app lenL (aCons (eVar 4) aNil)))))) (sPut 4 (borE 4 (bin modD (app intL (aCons (eVar 3) aNil)) (app lenL (aCons (eVar 4) aNil)))) (eVar 6)))) sNext) (sFrz 4 (sRet (strM joinD (eC (.str " ")) (eVar 4))))))))))))
def m__law_changed_line : List D → Res RV := runF 7 b__law_changed_line
/-! ### _law_changed -/
def B1__law_changed : En → Out := (sSeq (sSet 5 (bin modD (app intL (aCons (bin ixD (eVar 2) (bin mulD (eC (.int 4)) (eVar 4))) aNil)) (eC (.int 16)))) (sSeq (sSet 6 (borE 3 (bin modD (app intL (aCons (bin ixD (eVar 2) (bin addD (bin mulD (eC (.int 4)) (eVar 4)) (eC (.int 1)))) aNil)) (app lenL (aCons (eVar 3) aNil))))) (sSeq (sIf (tst bOf (bin ltD (eVar 5) (eC (.int 6)))) (sPut 3 (eVar 6) (callE m__law_changed_line (aCons (ixO 3 (eVar 6)) (aCons (eVar 5) (aCons (bin ixD (eVar 2) (bin addD (bin mulD (eC (.int 4)) (eVar 4)) (eC (.int 2)))) (aCons (bin ixD (eVar 2) (bin addD (bin mulD (eC (.int 4)) (eVar 4)) (eC (.int 3)))) aNil)))))) sNext) (sSeq (sIf (tst bOf (bin eqD (eVar 5) (eC (.int 6)))) (sIns 3 (aCons (eVar 6) (aCons (eC (.str "")) aNil))) sNext) (sSeq (sIf (tst bOf (bin eqD (eVar 5) (eC (.int 7)))) (sSeq (sSet 7 (ixO 3 (eVar 6))) (sSeq (sPut 3 (eVar 6) (ixO 3 (eC (.int 0)))) (sPut 3 (eC (.int 0)) (eVar 7)))) sNext) (sSeq (sIf (tst bOf (bin eqD (eVar 5) (eC (.int 8)))) (sApp 3 (eC (.str ""))) sNext) (sIf (orB (tst bOf (bin eqD (eVar 5) (eC (.int 9)))) (tst bOf (bin eqD (eVar 5) (eC (.int 10))))) (sPut 3 (eVar 6) (callE m__law_changed_line (aCons (ixO 3 (eVar 6)) (aCons (eC (.int 0)) (aCons (bin ixD (eVar 2) (bin addD (bin mulD (eC (.int 4)) (eVar 4)) (eC (.int 2)))) (aCons (bin ixD (eVar 2) (bin addD (bin mulD (eC (.int 4)) (eVar 4)) (eC (.int 3)))) aNil)))))) sNext)))))))
def b__law_changed : En → Out := (sSeq (sSet 2 (callE m__law_row (aCons (eVar 1) (aCons (eC (.int 8)) (aCons (eC (.int 5040)) aNil))))) (sSeq (sSetO 3 (strM splitO (eVar 0) (eC (.str "\n")))) (sSeq (sFor (appO rng1 (aCons (eC (.int 2)) aNil)) (gN 4) B1__law_changed) (sFrz 3 (sRet (strM joinD (eC (.str "\n")) (eVar 3)))))))
def m__law_changed : List D → Res RV := runF 8 b__law_changed
/-! ### law -/
def B1_law : En → Out := (sIf (notB (tst truD (callE (m__law_same 6) (aCons (callE m__law_told (aCons (eVar 8) aNil)) (aCons (app tupD (aCons (eC (.str "value")) (aCons (eC (.str "text")) aNil))) aNil))))) (sRet (eC (.bl false))) sNext)
def b_law : En → Out := (sSeq (sSet 1 (callE m__law_row (aCons (callE m__law_cell (aCons (eVar 0) (aCons (eC (.int 0)) aNil))) (aCons (eC (.int 4)) (aCons (eC (.int 5040)) aNil))))) (sSeq (sSet 2 (bin modD (app intL (aCons (bin ixD (eVar 1) (eC (.int 0))) aNil)) (eC (.int 10)))) (sSeq (sIf (tst bOf (bin eqD (bin modD (app intL (aCons (bin ixD (eVar 1) (eC (.int 1))) aNil)) (eC (.int 4))) (eC (.int 0)))) (sSet 2 (bin addD (eC (.int 50)) (bin modD (app intL (aCons (bin ixD (eVar 1) (eC (.int 0))) aNil)) (eC (.int 11))))) sNext) (sSeq (sSet 3 (callE m__law_history (aCons (eVar 0) (aCons (eVar 2) aNil)))) (sSeq (sSet 4 (callE m__law_written (aCons (eVar 3) aNil))) (sSeq (sSet 5 (own (appO listL (aCons (eVar 3) aNil)))) (sSeq (sSet 6 (callE m_format_history (aCons (eVar 5) aNil))) (sSeq (sIf (orB (notB (tst truD (callE (m__law_same 6) (aCons (eVar 6) (aCons (eVar 4) aNil))))) (orB (notB (tst truD (callE (m__law_same 6) (aCons (eVar 5) (aCons (eVar 3) aNil))))) (notB (tst truD (callE (m__law_same 6) (aCons (callE m__law_told (aCons (eVar 4) aNil)) (aCons (app tupD (aCons (eC (.str "read")) (aCons (eVar 3) aNil))) aNil))))))) (sRet (eC (.bl false))) sNext) (sSeq (sIf (orB (notB (tst truD (callE m__law_asked (aCons (eVar 4) aNil)))) (notB (tst truD (callE m__law_asked (aCons (callE m__law_changed (aCons (eVar 4) (aCons (callE m__law_cell (aCons (eVar 0) (aCons (eC (.int 5)) aNil))) aNil))) aNil))))) (sRet (eC (.bl false))) sNext) (sSeq (sSetO 7 (sliceO (bin addD (own (strM splitO (eVar 4) (eC (.str "\n")))) (bin mulD (own (appO lstD (aCons (eC (.str "0 0 a in")) aNil))) (eC (.int 61)))) pN (pS (eC (.int 61))))) (sSeq (sPut 7 (bin modD (app intL (aCons (bin ixD (eVar 1) (eC (.int 2))) aNil)) (eC (.int 61))) (callE m__law_word (aCons (bin ixD (eVar 1) (eC (.int 3))) aNil))) (sSeq (sIf (borT 7 (orB (notB (tst truD (callE m__law_asked (aCons (strM joinD (eC (.str "\n")) (eVar 7)) aNil)))) (orB (notB (tst truD (callE m__law_asked (aCons (strM joinD (eC (.str "\n")) (sliceE (eVar 7) pN (pS (eC (.int 60))))) aNil)))) (notB (tst truD (callE m__law_asked (aCons (strM joinD (eC (.str "\n")) (sliceE (eVar 7) (pS (eC (.int 1))) pN)) aNil))))))) (sRet (eC (.bl false))) sNext) (sFrz 7 (sSeq (sFor (appO lstD (aCons (eC .non) (aCons (eC (.int 5)) (aCons (own (appO listL (aCons (eVar 7) aNil))) (aCons (app tupleL (aCons (eVar 3) aNil)) aNil))))) (gN 8) B1_law) (sRet (eC (.bl true)))))))))))))))))
def m_law : List D → Res RV := runF 9 b_law
end K47

set_option maxRecDepth 100000
set_option maxHeartbeats 1000000
namespace K47
open PySem PL
theorem is_integer_eq (d : D) : m_is_integer [d] = .ok (.sh (.bl (isiB (tyD d) "int" && !isiB (tyD d) "bool"))) := by cases d <;> rfl
theorem in_range_int (i lo hi : Int) : m_in_range [.int i, .int lo, .int hi] = .ok (.sh (.bl (decide (lo ≤ i) && decide (i ≤ hi)))) := by
  have h : m_is_integer [.int i] = .ok (.sh (.bl true)) := rfl
  unfold m_in_range b_in_range
  simp only [PL.runF, PL.runO, PL.start0, PL.sSeq, PL.sNext, PL.sSet, PL.sSetO, PL.sDrop, PL.sRet, PL.sRetO, PL.sRetV, PL.sRetN, PL.sIf, PL.sBrk, PL.sCont, PL.sFrz, PL.sFor, PL.sAsg, PL.sRaise, PL.sTry, PL.tryO, PL.unset, PL.xRet, PL.fldX, PL.ofR_ok, PL.ofR_exc, PL.eC, PL.eVar, PL.bin, PL.una, PL.aNil, PL.aCons, PL.app, PL.appO, PL.own, PL.tru, PL.ifE, PL.andB, PL.orB, PL.notB, PL.gd, PL.bOf, PL.truD, PL.tst, PL.andV, PL.orV, PL.notV, PL.callE, PL.callO, PL.rvD, PL.rvO, PL.bind_ok, PL.bind_exc, PL.bind_stuck, PL.addD, PL.subD, PL.mulD, PL.modD, PL.fdivD, PL.powD, PL.ltD, PL.leD, PL.gtD, PL.geD, PL.isD, PL.isNotD, PL.isNonD, PL.ixD, PL.sliceD, PL.sliceE, PL.pN, PL.pS, PL.lenL, PL.absL, PL.intL, PL.max2L, PL.min2L, PL.listL, PL.tupleL, PL.isiD, PL.isiB, PL.tyD, PL.itE, PL.seqOf, PL.gN, PL.gT, PL.setAll, PL.lp_next, PL.lp_ret, PL.lp_exc, PL.for_nil, PL.for_cons, PL.atI_0, PL.atI_1, PL.atI_2, PL.atI_3, PL.tupD, PL.lstD, PL.owL, PL.setL, PL.sApp, PL.sPop, PL.sPopAt, PL.popAt, PL.sPut, PL.putAt, PL.ixO, PL.borE, PL.borT, PL.borO, PL.binO, PL.catO, PL.repO, PL.cutO, PL.sliceO, PL.lcE, PL.yesB, PL.mkBV, PL.mkTM, PL.mkBT, PL.negD, List.map_cons, List.map_nil, List.length_cons, List.length_nil, List.getElem?_cons_zero, List.getElem?_cons_succ, List.set_cons_zero, List.set_cons_succ, List.cons_append, List.nil_append, List.replicate_succ, List.replicate_zero, List.append_nil, Nat.reduceSub, Nat.reduceAdd, Bool.false_eq_true, List.map, PL.eq_int, PL.ne_int, PL.eq_bl,  if_true, if_false, ite_true, ite_false, h]
  cases decide (lo ≤ i) <;> rfl
theorem need_list_ok (xs : List D) (n : Int) (w : D) (h : (xs.length : Int) ≤ n) : m_need_list [.lst xs, .int n, w] = .ok (.sh .non) := by
  unfold m_need_list b_need_list
  have h2 : ¬ n < (xs.length : Int) := by omega
  simp [PL.runF, PL.runO, PL.start0, PL.sSeq, PL.sNext, PL.sSet, PL.sSetO, PL.sDrop, PL.sRet, PL.sRetO, PL.sRetV, PL.sRetN, PL.sIf, PL.sBrk, PL.sCont, PL.sFrz, PL.sFor, PL.sAsg, PL.sRaise, PL.sTry, PL.tryO, PL.unset, PL.xRet, PL.fldX, PL.ofR_ok, PL.ofR_exc, PL.eC, PL.eVar, PL.bin, PL.una, PL.aNil, PL.aCons, PL.app, PL.appO, PL.own, PL.tru, PL.ifE, PL.andB, PL.orB, PL.notB, PL.gd, PL.bOf, PL.truD, PL.tst, PL.andV, PL.orV, PL.notV, PL.callE, PL.callO, PL.rvD, PL.rvO, PL.bind_ok, PL.bind_exc, PL.bind_stuck, PL.addD, PL.subD, PL.mulD, PL.modD, PL.fdivD, PL.powD, PL.ltD, PL.leD, PL.gtD, PL.geD, PL.isD, PL.isNotD, PL.isNonD, PL.ixD, PL.sliceD, PL.sliceE, PL.pN, PL.pS, PL.lenL, PL.absL, PL.intL, PL.max2L, PL.min2L, PL.listL, PL.tupleL, PL.isiD, PL.isiB, PL.tyD, PL.itE, PL.seqOf, PL.gN, PL.gT, PL.setAll, PL.lp_next, PL.lp_ret, PL.lp_exc, PL.for_nil, PL.for_cons, PL.atI_0, PL.atI_1, PL.atI_2, PL.atI_3, PL.tupD, PL.lstD, PL.owL, PL.setL, PL.sApp, PL.sPop, PL.sPopAt, PL.popAt, PL.sPut, PL.putAt, PL.ixO, PL.borE, PL.borT, PL.borO, PL.binO, PL.catO, PL.repO, PL.cutO, PL.sliceO, PL.lcE, PL.yesB, PL.mkBV, PL.mkTM, PL.mkBT, PL.negD, List.map_cons, List.map_nil, List.length_cons, List.length_nil, List.getElem?_cons_zero, List.getElem?_cons_succ, List.set_cons_zero, List.set_cons_succ, List.cons_append, List.nil_append, List.replicate_succ, List.replicate_zero, List.append_nil, Nat.reduceSub, Nat.reduceAdd, Bool.false_eq_true, List.map, PL.eq_int, PL.ne_int, PL.eq_bl,  if_true, if_false, ite_true, ite_false, h2]
theorem need_list_many (xs : List D) (n : Int) (w : D) (h : n < (xs.length : Int)) : m_need_list [.lst xs, .int n, w] = .exc (.tooMany (.int n)) := by
  unfold m_need_list b_need_list
  simp [PL.runF, PL.runO, PL.start0, PL.sSeq, PL.sNext, PL.sSet, PL.sSetO, PL.sDrop, PL.sRet, PL.sRetO, PL.sRetV, PL.sRetN, PL.sIf, PL.sBrk, PL.sCont, PL.sFrz, PL.sFor, PL.sAsg, PL.sRaise, PL.sTry, PL.tryO, PL.unset, PL.xRet, PL.fldX, PL.ofR_ok, PL.ofR_exc, PL.eC, PL.eVar, PL.bin, PL.una, PL.aNil, PL.aCons, PL.app, PL.appO, PL.own, PL.tru, PL.ifE, PL.andB, PL.orB, PL.notB, PL.gd, PL.bOf, PL.truD, PL.tst, PL.andV, PL.orV, PL.notV, PL.callE, PL.callO, PL.rvD, PL.rvO, PL.bind_ok, PL.bind_exc, PL.bind_stuck, PL.addD, PL.subD, PL.mulD, PL.modD, PL.fdivD, PL.powD, PL.ltD, PL.leD, PL.gtD, PL.geD, PL.isD, PL.isNotD, PL.isNonD, PL.ixD, PL.sliceD, PL.sliceE, PL.pN, PL.pS, PL.lenL, PL.absL, PL.intL, PL.max2L, PL.min2L, PL.listL, PL.tupleL, PL.isiD, PL.isiB, PL.tyD, PL.itE, PL.seqOf, PL.gN, PL.gT, PL.setAll, PL.lp_next, PL.lp_ret, PL.lp_exc, PL.for_nil, PL.for_cons, PL.atI_0, PL.atI_1, PL.atI_2, PL.atI_3, PL.tupD, PL.lstD, PL.owL, PL.setL, PL.sApp, PL.sPop, PL.sPopAt, PL.popAt, PL.sPut, PL.putAt, PL.ixO, PL.borE, PL.borT, PL.borO, PL.binO, PL.catO, PL.repO, PL.cutO, PL.sliceO, PL.lcE, PL.yesB, PL.mkBV, PL.mkTM, PL.mkBT, PL.negD, List.map_cons, List.map_nil, List.length_cons, List.length_nil, List.getElem?_cons_zero, List.getElem?_cons_succ, List.set_cons_zero, List.set_cons_succ, List.cons_append, List.nil_append, List.replicate_succ, List.replicate_zero, List.append_nil, Nat.reduceSub, Nat.reduceAdd, Bool.false_eq_true, List.map, PL.eq_int, PL.ne_int, PL.eq_bl,  if_true, if_false, ite_true, ite_false, h]
theorem need_list_no (xs : List D) (n : Int) (w : D) : m_need_list [.tup xs, .int n, w] = .exc (.badValue w) := by
  unfold m_need_list b_need_list
  simp [PL.runF, PL.runO, PL.start0, PL.sSeq, PL.sNext, PL.sSet, PL.sSetO, PL.sDrop, PL.sRet, PL.sRetO, PL.sRetV, PL.sRetN, PL.sIf, PL.sBrk, PL.sCont, PL.sFrz, PL.sFor, PL.sAsg, PL.sRaise, PL.sTry, PL.tryO, PL.unset, PL.xRet, PL.fldX, PL.ofR_ok, PL.ofR_exc, PL.eC, PL.eVar, PL.bin, PL.una, PL.aNil, PL.aCons, PL.app, PL.appO, PL.own, PL.tru, PL.ifE, PL.andB, PL.orB, PL.notB, PL.gd, PL.bOf, PL.truD, PL.tst, PL.andV, PL.orV, PL.notV, PL.callE, PL.callO, PL.rvD, PL.rvO, PL.bind_ok, PL.bind_exc, PL.bind_stuck, PL.addD, PL.subD, PL.mulD, PL.modD, PL.fdivD, PL.powD, PL.ltD, PL.leD, PL.gtD, PL.geD, PL.isD, PL.isNotD, PL.isNonD, PL.ixD, PL.sliceD, PL.sliceE, PL.pN, PL.pS, PL.lenL, PL.absL, PL.intL, PL.max2L, PL.min2L, PL.listL, PL.tupleL, PL.isiD, PL.isiB, PL.tyD, PL.itE, PL.seqOf, PL.gN, PL.gT, PL.setAll, PL.lp_next, PL.lp_ret, PL.lp_exc, PL.for_nil, PL.for_cons, PL.atI_0, PL.atI_1, PL.atI_2, PL.atI_3, PL.tupD, PL.lstD, PL.owL, PL.setL, PL.sApp, PL.sPop, PL.sPopAt, PL.popAt, PL.sPut, PL.putAt, PL.ixO, PL.borE, PL.borT, PL.borO, PL.binO, PL.catO, PL.repO, PL.cutO, PL.sliceO, PL.lcE, PL.yesB, PL.mkBV, PL.mkTM, PL.mkBT, PL.negD, List.map_cons, List.map_nil, List.length_cons, List.length_nil, List.getElem?_cons_zero, List.getElem?_cons_succ, List.set_cons_zero, List.set_cons_succ, List.cons_append, List.nil_append, List.replicate_succ, List.replicate_zero, List.append_nil, Nat.reduceSub, Nat.reduceAdd, Bool.false_eq_true, List.map, PL.eq_int, PL.ne_int, PL.eq_bl,  if_true, if_false, ite_true, ite_false]
end K47

set_option maxRecDepth 100000
set_option maxHeartbeats 1000000
namespace K47
open PySem PL
/-! ## rows -/
/-- the signs of a name -/
def lett (c : Nat) : Bool := decide (97 ≤ c) && decide (c ≤ 122)
def dgt (c : Nat) : Bool := decide (48 ≤ c) && decide (c ≤ 57)
def nmOk : List Nat → Bool | [] => false | c :: cs => lett c && cs.all (fun x => lett x || dgt x) && decide (cs.length ≤ 11)
def nm (cs : List Nat) : Str := ⟨cs.toArray⟩
theorem in_letters (c : Nat) : decide (c ∈ ("abcdefghijklmnopqrstuvwxyz" : Str).cps.toList) = lett c := by
  have e : ("abcdefghijklmnopqrstuvwxyz" : Str).cps.toList = [97, 98, 99, 100, 101, 102, 103, 104, 105, 106, 107, 108, 109, 110, 111, 112, 113, 114, 115, 116, 117, 118, 119, 120, 121, 122] := by decide +kernel
  rw [e]
  unfold lett
  simp only [List.mem_cons, List.not_mem_nil, or_false]
  rw [Bool.eq_iff_iff]
  simp only [decide_eq_true_eq, Bool.and_eq_true]
  omega
theorem in_digits (c : Nat) : decide (c ∈ ("0123456789" : Str).cps.toList) = dgt c := by
  have e : ("0123456789" : Str).cps.toList = [48, 49, 50, 51, 52, 53, 54, 55, 56, 57] := by decide +kernel
  rw [e]
  unfold dgt
  simp only [List.mem_cons, List.not_mem_nil, or_false]
  rw [Bool.eq_iff_iff]
  simp only [decide_eq_true_eq, Bool.and_eq_true]
  omega
theorem notin_letters (c : Nat) : notInD (.str ⟨#[c]⟩) (.str "abcdefghijklmnopqrstuvwxyz") = .ok (.bl (!lett c)) := by
  show Res.ok (D.bl (!decide (c ∈ ("abcdefghijklmnopqrstuvwxyz" : Str).cps.toList))) = _
  rw [in_letters]
theorem notin_digits (c : Nat) : notInD (.str ⟨#[c]⟩) (.str "0123456789") = .ok (.bl (!dgt c)) := by
  show Res.ok (D.bl (!decide (c ∈ ("0123456789" : Str).cps.toList))) = _
  rw [in_digits]
/-- a name's loop -/
theorem name_loop (s : D) : ∀ (cs : List Nat) (o : Sl), ∃ o', forL (gN 1) B1_is_name (cs.map fun c => .str ⟨#[c]⟩) [.sh s, o] = if cs.all (fun x => lett x || dgt x) then .next [.sh s, o'] else .ret (.sh (.bl false))
  | [], o => ⟨o, rfl⟩
  | c :: cs, o => by
    obtain ⟨o', ih⟩ := name_loop s cs (.sh (.str ⟨#[c]⟩))
    refine ⟨o', ?_⟩
    show lpO (forL (gN 1) B1_is_name (cs.map fun c => .str ⟨#[c]⟩)) (B1_is_name [.sh s, .sh (.str ⟨#[c]⟩)]) = _
    have hb : B1_is_name [.sh s, .sh (.str ⟨#[c]⟩)] = if (lett c || dgt c) = true then .next [.sh s, .sh (.str ⟨#[c]⟩)] else .ret (.sh (.bl false)) := by
      unfold B1_is_name
      simp only [PL.runF, PL.runO, PL.start0, PL.sSeq, PL.sNext, PL.sSet, PL.sSetO, PL.sDrop, PL.sRet, PL.sRetO, PL.sRetV, PL.sRetN, PL.sIf, PL.sBrk, PL.sCont, PL.sFrz, PL.sFor, PL.sAsg, PL.sRaise, PL.sTry, PL.tryO, PL.unset, PL.xRet, PL.fldX, PL.ofR_ok, PL.ofR_exc, PL.eC, PL.eVar, PL.bin, PL.una, PL.aNil, PL.aCons, PL.app, PL.appO, PL.own, PL.tru, PL.ifE, PL.andB, PL.orB, PL.notB, PL.gd, PL.bOf, PL.truD, PL.tst, PL.andV, PL.orV, PL.notV, PL.callE, PL.callO, PL.rvD, PL.rvO, PL.bind_ok, PL.bind_exc, PL.bind_stuck, PL.addD, PL.subD, PL.mulD, PL.modD, PL.fdivD, PL.powD, PL.ltD, PL.leD, PL.gtD, PL.geD, PL.isD, PL.isNotD, PL.isNonD, PL.ixD, PL.sliceD, PL.sliceE, PL.pN, PL.pS, PL.lenL, PL.absL, PL.intL, PL.max2L, PL.min2L, PL.listL, PL.tupleL, PL.isiD, PL.isiB, PL.tyD, PL.itE, PL.seqOf, PL.gN, PL.gT, PL.setAll, PL.lp_next, PL.lp_ret, PL.lp_exc, PL.for_nil, PL.for_cons, PL.atI_0, PL.atI_1, PL.atI_2, PL.atI_3, PL.tupD, PL.lstD, PL.owL, PL.setL, PL.sApp, PL.sPop, PL.sPopAt, PL.popAt, PL.sPut, PL.putAt, PL.ixO, PL.borE, PL.borT, PL.borO, PL.binO, PL.catO, PL.repO, PL.cutO, PL.sliceO, PL.lcE, PL.yesB, PL.mkBV, PL.mkTM, PL.mkBT, PL.negD, List.map_cons, List.map_nil, List.length_cons, List.length_nil, List.getElem?_cons_zero, List.getElem?_cons_succ, List.set_cons_zero, List.set_cons_succ, List.cons_append, List.nil_append, List.replicate_succ, List.replicate_zero, List.append_nil, Nat.reduceSub, Nat.reduceAdd, Bool.false_eq_true, List.map, PL.eq_int, PL.ne_int, PL.eq_bl,  if_true, if_false, ite_true, ite_false, notin_letters, notin_digits]
      cases lett c <;> cases dgt c <;> rfl
    rw [hb, List.all_cons]
    by_cases h : (lett c || dgt c) = true
    · rw [if_pos h, h, Bool.true_and]
      exact ih
    · rw [if_neg h]
      have h' : (lett c || dgt c) = false := by simpa using h
      rw [h', Bool.false_and]
      rfl
/-- is_name of a short text -/
theorem is_name_str (cs : List Nat) (h : cs.length ≤ 20) : m_is_name [.str (nm cs)] = .ok (.sh (.bl (nmOk cs))) := by
  have hl : (nm cs).length = cs.length := by show cs.toArray.size = _; simp
  have hs : cs.length ≤ sizeLine := sz _ (by omega)
  cases cs with
  | nil => rfl
  | cons c cs =>
    have h1 : ¬ (((c :: cs).length : Nat) : Int) < 1 := by simp only [List.length_cons]; omega
    have hx : (nm (c :: cs)).cps.toList = c :: cs := by simp [nm]
    have h0 : L2.atI (c :: cs) 0 = some c := by
      have e : L2.ixN (c :: cs).length 0 = some 0 := by
        unfold L2.ixN
        rw [if_pos (by omega), if_pos (by simp only [List.length_cons]; omega)] <;> rfl
      unfold L2.atI
      rw [e] <;> rfl
    have hsg : signs (nm (c :: cs)) = (c :: cs).map fun c => .str ⟨#[c]⟩ := by unfold signs; rw [hx]
    unfold m_is_name b_is_name
    by_cases h2 : (12 : Int) < (((c :: cs).length : Nat) : Int)
    · have e : nmOk (c :: cs) = false := by
        unfold nmOk
        have : ¬ cs.length ≤ 11 := by simp only [List.length_cons] at h2; omega
        simp [this]
      rw [e]
      simp only [List.length_cons] at h1 h2 hl hs
      simp only [PL.runF, PL.runO, PL.start0, PL.sSeq, PL.sNext, PL.sSet, PL.sSetO, PL.sDrop, PL.sRet, PL.sRetO, PL.sRetV, PL.sRetN, PL.sIf, PL.sBrk, PL.sCont, PL.sFrz, PL.sFor, PL.sAsg, PL.sRaise, PL.sTry, PL.tryO, PL.unset, PL.xRet, PL.fldX, PL.ofR_ok, PL.ofR_exc, PL.eC, PL.eVar, PL.bin, PL.una, PL.aNil, PL.aCons, PL.app, PL.appO, PL.own, PL.tru, PL.ifE, PL.andB, PL.orB, PL.notB, PL.gd, PL.bOf, PL.truD, PL.tst, PL.andV, PL.orV, PL.notV, PL.callE, PL.callO, PL.rvD, PL.rvO, PL.bind_ok, PL.bind_exc, PL.bind_stuck, PL.addD, PL.subD, PL.mulD, PL.modD, PL.fdivD, PL.powD, PL.ltD, PL.leD, PL.gtD, PL.geD, PL.isD, PL.isNotD, PL.isNonD, PL.ixD, PL.sliceD, PL.sliceE, PL.pN, PL.pS, PL.lenL, PL.absL, PL.intL, PL.max2L, PL.min2L, PL.listL, PL.tupleL, PL.isiD, PL.isiB, PL.tyD, PL.itE, PL.seqOf, PL.gN, PL.gT, PL.setAll, PL.lp_next, PL.lp_ret, PL.lp_exc, PL.for_nil, PL.for_cons, PL.atI_0, PL.atI_1, PL.atI_2, PL.atI_3, PL.tupD, PL.lstD, PL.owL, PL.setL, PL.sApp, PL.sPop, PL.sPopAt, PL.popAt, PL.sPut, PL.putAt, PL.ixO, PL.borE, PL.borT, PL.borO, PL.binO, PL.catO, PL.repO, PL.cutO, PL.sliceO, PL.lcE, PL.yesB, PL.mkBV, PL.mkTM, PL.mkBT, PL.negD, List.map_cons, List.map_nil, List.length_cons, List.length_nil, List.getElem?_cons_zero, List.getElem?_cons_succ, List.set_cons_zero, List.set_cons_succ, List.cons_append, List.nil_append, List.replicate_succ, List.replicate_zero, List.append_nil, Nat.reduceSub, Nat.reduceAdd, Bool.false_eq_true, List.map, PL.eq_int, PL.ne_int, PL.eq_bl,  if_true, if_false, ite_true, ite_false, String.reduceBEq, decide_true, decide_false, Bool.not_true, Bool.not_false, Bool.true_and, Bool.false_and, Bool.and_true, Bool.and_false, Bool.true_or, Bool.false_or, Bool.or_true, Bool.or_false, decide_not, Bool.not_eq_true, Bool.not_not, reduceCtorEq, ne_eq, not_true_eq_false, not_false_eq_true, eq_self, beq_self_eq_true, bne_self_eq_false, and_true, true_and, and_self, hl, hs, h1, h2]
    · have l11 : decide (cs.length ≤ 11) = true := by
        simp only [List.length_cons] at h2
        exact decide_eq_true (by omega)
      have e : nmOk (c :: cs) = (lett c && cs.all (fun x => lett x || dgt x)) := by show ((lett c && _) && decide _) = _; rw [l11, Bool.and_true]
      rw [e]
      obtain ⟨o', nl⟩ := name_loop (.str (nm (c :: cs))) (c :: cs) .no
      rw [← hsg] at nl
      simp only [List.length_cons] at h1 h2 hl hs
      cases hc : lett c with
      | false => simp only [PL.runF, PL.runO, PL.start0, PL.sSeq, PL.sNext, PL.sSet, PL.sSetO, PL.sDrop, PL.sRet, PL.sRetO, PL.sRetV, PL.sRetN, PL.sIf, PL.sBrk, PL.sCont, PL.sFrz, PL.sFor, PL.sAsg, PL.sRaise, PL.sTry, PL.tryO, PL.unset, PL.xRet, PL.fldX, PL.ofR_ok, PL.ofR_exc, PL.eC, PL.eVar, PL.bin, PL.una, PL.aNil, PL.aCons, PL.app, PL.appO, PL.own, PL.tru, PL.ifE, PL.andB, PL.orB, PL.notB, PL.gd, PL.bOf, PL.truD, PL.tst, PL.andV, PL.orV, PL.notV, PL.callE, PL.callO, PL.rvD, PL.rvO, PL.bind_ok, PL.bind_exc, PL.bind_stuck, PL.addD, PL.subD, PL.mulD, PL.modD, PL.fdivD, PL.powD, PL.ltD, PL.leD, PL.gtD, PL.geD, PL.isD, PL.isNotD, PL.isNonD, PL.ixD, PL.sliceD, PL.sliceE, PL.pN, PL.pS, PL.lenL, PL.absL, PL.intL, PL.max2L, PL.min2L, PL.listL, PL.tupleL, PL.isiD, PL.isiB, PL.tyD, PL.itE, PL.seqOf, PL.gN, PL.gT, PL.setAll, PL.lp_next, PL.lp_ret, PL.lp_exc, PL.for_nil, PL.for_cons, PL.atI_0, PL.atI_1, PL.atI_2, PL.atI_3, PL.tupD, PL.lstD, PL.owL, PL.setL, PL.sApp, PL.sPop, PL.sPopAt, PL.popAt, PL.sPut, PL.putAt, PL.ixO, PL.borE, PL.borT, PL.borO, PL.binO, PL.catO, PL.repO, PL.cutO, PL.sliceO, PL.lcE, PL.yesB, PL.mkBV, PL.mkTM, PL.mkBT, PL.negD, List.map_cons, List.map_nil, List.length_cons, List.length_nil, List.getElem?_cons_zero, List.getElem?_cons_succ, List.set_cons_zero, List.set_cons_succ, List.cons_append, List.nil_append, List.replicate_succ, List.replicate_zero, List.append_nil, Nat.reduceSub, Nat.reduceAdd, Bool.false_eq_true, List.map, PL.eq_int, PL.ne_int, PL.eq_bl,  if_true, if_false, ite_true, ite_false, String.reduceBEq, decide_true, decide_false, Bool.not_true, Bool.not_false, Bool.true_and, Bool.false_and, Bool.and_true, Bool.and_false, Bool.true_or, Bool.false_or, Bool.or_true, Bool.or_false, decide_not, Bool.not_eq_true, Bool.not_not, reduceCtorEq, ne_eq, not_true_eq_false, not_false_eq_true, eq_self, beq_self_eq_true, bne_self_eq_false, and_true, true_and, and_self, hl, hs, h1, h2, hx, h0, notin_letters, hc]
      | true =>
        cases ha : cs.all (fun x => lett x || dgt x) <;> simp only [List.all_cons, hc, ha, String.reduceBEq, decide_true, decide_false, Bool.not_true, Bool.not_false, Bool.true_and, Bool.false_and, Bool.and_true, Bool.and_false, Bool.true_or, Bool.false_or, Bool.or_true, Bool.or_false, decide_not, Bool.not_eq_true, Bool.not_not, reduceCtorEq, ne_eq, not_true_eq_false, not_false_eq_true, eq_self, beq_self_eq_true, bne_self_eq_false, and_true, true_and, and_self, if_true, if_false] at nl <;> simp only [PL.runF, PL.runO, PL.start0, PL.sSeq, PL.sNext, PL.sSet, PL.sSetO, PL.sDrop, PL.sRet, PL.sRetO, PL.sRetV, PL.sRetN, PL.sIf, PL.sBrk, PL.sCont, PL.sFrz, PL.sFor, PL.sAsg, PL.sRaise, PL.sTry, PL.tryO, PL.unset, PL.xRet, PL.fldX, PL.ofR_ok, PL.ofR_exc, PL.eC, PL.eVar, PL.bin, PL.una, PL.aNil, PL.aCons, PL.app, PL.appO, PL.own, PL.tru, PL.ifE, PL.andB, PL.orB, PL.notB, PL.gd, PL.bOf, PL.truD, PL.tst, PL.andV, PL.orV, PL.notV, PL.callE, PL.callO, PL.rvD, PL.rvO, PL.bind_ok, PL.bind_exc, PL.bind_stuck, PL.addD, PL.subD, PL.mulD, PL.modD, PL.fdivD, PL.powD, PL.ltD, PL.leD, PL.gtD, PL.geD, PL.isD, PL.isNotD, PL.isNonD, PL.ixD, PL.sliceD, PL.sliceE, PL.pN, PL.pS, PL.lenL, PL.absL, PL.intL, PL.max2L, PL.min2L, PL.listL, PL.tupleL, PL.isiD, PL.isiB, PL.tyD, PL.itE, PL.seqOf, PL.gN, PL.gT, PL.setAll, PL.lp_next, PL.lp_ret, PL.lp_exc, PL.for_nil, PL.for_cons, PL.atI_0, PL.atI_1, PL.atI_2, PL.atI_3, PL.tupD, PL.lstD, PL.owL, PL.setL, PL.sApp, PL.sPop, PL.sPopAt, PL.popAt, PL.sPut, PL.putAt, PL.ixO, PL.borE, PL.borT, PL.borO, PL.binO, PL.catO, PL.repO, PL.cutO, PL.sliceO, PL.lcE, PL.yesB, PL.mkBV, PL.mkTM, PL.mkBT, PL.negD, List.map_cons, List.map_nil, List.length_cons, List.length_nil, List.getElem?_cons_zero, List.getElem?_cons_succ, List.set_cons_zero, List.set_cons_succ, List.cons_append, List.nil_append, List.replicate_succ, List.replicate_zero, List.append_nil, Nat.reduceSub, Nat.reduceAdd, Bool.false_eq_true, List.map, PL.eq_int, PL.ne_int, PL.eq_bl,  if_true, if_false, ite_true, ite_false, String.reduceBEq, decide_true, decide_false, Bool.not_true, Bool.not_false, Bool.true_and, Bool.false_and, Bool.and_true, Bool.and_false, Bool.true_or, Bool.false_or, Bool.or_true, Bool.or_false, decide_not, Bool.not_eq_true, Bool.not_not, reduceCtorEq, ne_eq, not_true_eq_false, not_false_eq_true, eq_self, beq_self_eq_true, bne_self_eq_false, and_true, true_and, and_self, hl, hs, h1, h2, hx, h0, notin_letters, hc, nl]
end K47

set_option maxRecDepth 100000
set_option maxHeartbeats 1000000
namespace K47
open PySem PL
abbrev yes : Res RV := .ok (.sh (.bl true))
abbrev no : Res RV := .ok (.sh (.bl false))
abbrev bv (b : Bool) : Res RV := .ok (.sh (.bl b))
theorem in_range_not (d : D) (lo hi : Int) (h : m_is_integer [d] = no) : m_in_range [d, .int lo, .int hi] = no := by
  unfold m_in_range b_in_range
  simp only [PL.runF, PL.runO, PL.start0, PL.sSeq, PL.sNext, PL.sSet, PL.sSetO, PL.sDrop, PL.sRet, PL.sRetO, PL.sRetV, PL.sRetN, PL.sIf, PL.sBrk, PL.sCont, PL.sFrz, PL.sFor, PL.sAsg, PL.sRaise, PL.sTry, PL.tryO, PL.unset, PL.xRet, PL.fldX, PL.ofR_ok, PL.ofR_exc, PL.eC, PL.eVar, PL.bin, PL.una, PL.aNil, PL.aCons, PL.app, PL.appO, PL.own, PL.tru, PL.ifE, PL.andB, PL.orB, PL.notB, PL.gd, PL.bOf, PL.truD, PL.tst, PL.andV, PL.orV, PL.notV, PL.callE, PL.callO, PL.rvD, PL.rvO, PL.bind_ok, PL.bind_exc, PL.bind_stuck, PL.addD, PL.subD, PL.mulD, PL.modD, PL.fdivD, PL.powD, PL.ltD, PL.leD, PL.gtD, PL.geD, PL.isD, PL.isNotD, PL.isNonD, PL.ixD, PL.sliceD, PL.sliceE, PL.pN, PL.pS, PL.lenL, PL.absL, PL.intL, PL.max2L, PL.min2L, PL.listL, PL.tupleL, PL.isiD, PL.isiB, PL.tyD, PL.itE, PL.seqOf, PL.gN, PL.gT, PL.setAll, PL.lp_next, PL.lp_ret, PL.lp_exc, PL.for_nil, PL.for_cons, PL.atI_0, PL.atI_1, PL.atI_2, PL.atI_3, PL.tupD, PL.lstD, PL.owL, PL.setL, PL.sApp, PL.sPop, PL.sPopAt, PL.popAt, PL.sPut, PL.putAt, PL.ixO, PL.borE, PL.borT, PL.borO, PL.binO, PL.catO, PL.repO, PL.cutO, PL.sliceO, PL.lcE, PL.yesB, PL.mkBV, PL.mkTM, PL.mkBT, PL.negD, List.map_cons, List.map_nil, List.length_cons, List.length_nil, List.getElem?_cons_zero, List.getElem?_cons_succ, List.set_cons_zero, List.set_cons_succ, List.cons_append, List.nil_append, List.replicate_succ, List.replicate_zero, List.append_nil, Nat.reduceSub, Nat.reduceAdd, Bool.false_eq_true, List.map, PL.eq_int, PL.ne_int, PL.eq_bl,  if_true, if_false, ite_true, ite_false, h]
theorem time_int (i : Int) : m_is_time [.int i] = bv (decide (0 ≤ i) && decide (i ≤ 1000000)) := by
  unfold m_is_time b_is_time
  simp only [PL.runF, PL.runO, PL.start0, PL.sSeq, PL.sNext, PL.sSet, PL.sSetO, PL.sDrop, PL.sRet, PL.sRetO, PL.sRetV, PL.sRetN, PL.sIf, PL.sBrk, PL.sCont, PL.sFrz, PL.sFor, PL.sAsg, PL.sRaise, PL.sTry, PL.tryO, PL.unset, PL.xRet, PL.fldX, PL.ofR_ok, PL.ofR_exc, PL.eC, PL.eVar, PL.bin, PL.una, PL.aNil, PL.aCons, PL.app, PL.appO, PL.own, PL.tru, PL.ifE, PL.andB, PL.orB, PL.notB, PL.gd, PL.bOf, PL.truD, PL.tst, PL.andV, PL.orV, PL.notV, PL.callE, PL.callO, PL.rvD, PL.rvO, PL.bind_ok, PL.bind_exc, PL.bind_stuck, PL.addD, PL.subD, PL.mulD, PL.modD, PL.fdivD, PL.powD, PL.ltD, PL.leD, PL.gtD, PL.geD, PL.isD, PL.isNotD, PL.isNonD, PL.ixD, PL.sliceD, PL.sliceE, PL.pN, PL.pS, PL.lenL, PL.absL, PL.intL, PL.max2L, PL.min2L, PL.listL, PL.tupleL, PL.isiD, PL.isiB, PL.tyD, PL.itE, PL.seqOf, PL.gN, PL.gT, PL.setAll, PL.lp_next, PL.lp_ret, PL.lp_exc, PL.for_nil, PL.for_cons, PL.atI_0, PL.atI_1, PL.atI_2, PL.atI_3, PL.tupD, PL.lstD, PL.owL, PL.setL, PL.sApp, PL.sPop, PL.sPopAt, PL.popAt, PL.sPut, PL.putAt, PL.ixO, PL.borE, PL.borT, PL.borO, PL.binO, PL.catO, PL.repO, PL.cutO, PL.sliceO, PL.lcE, PL.yesB, PL.mkBV, PL.mkTM, PL.mkBT, PL.negD, List.map_cons, List.map_nil, List.length_cons, List.length_nil, List.getElem?_cons_zero, List.getElem?_cons_succ, List.set_cons_zero, List.set_cons_succ, List.cons_append, List.nil_append, List.replicate_succ, List.replicate_zero, List.append_nil, Nat.reduceSub, Nat.reduceAdd, Bool.false_eq_true, List.map, PL.eq_int, PL.ne_int, PL.eq_bl,  if_true, if_false, ite_true, ite_false, in_range_int]
theorem time_not (d : D) (h : m_is_integer [d] = no) : m_is_time [d] = no := by
  unfold m_is_time b_is_time
  simp only [PL.runF, PL.runO, PL.start0, PL.sSeq, PL.sNext, PL.sSet, PL.sSetO, PL.sDrop, PL.sRet, PL.sRetO, PL.sRetV, PL.sRetN, PL.sIf, PL.sBrk, PL.sCont, PL.sFrz, PL.sFor, PL.sAsg, PL.sRaise, PL.sTry, PL.tryO, PL.unset, PL.xRet, PL.fldX, PL.ofR_ok, PL.ofR_exc, PL.eC, PL.eVar, PL.bin, PL.una, PL.aNil, PL.aCons, PL.app, PL.appO, PL.own, PL.tru, PL.ifE, PL.andB, PL.orB, PL.notB, PL.gd, PL.bOf, PL.truD, PL.tst, PL.andV, PL.orV, PL.notV, PL.callE, PL.callO, PL.rvD, PL.rvO, PL.bind_ok, PL.bind_exc, PL.bind_stuck, PL.addD, PL.subD, PL.mulD, PL.modD, PL.fdivD, PL.powD, PL.ltD, PL.leD, PL.gtD, PL.geD, PL.isD, PL.isNotD, PL.isNonD, PL.ixD, PL.sliceD, PL.sliceE, PL.pN, PL.pS, PL.lenL, PL.absL, PL.intL, PL.max2L, PL.min2L, PL.listL, PL.tupleL, PL.isiD, PL.isiB, PL.tyD, PL.itE, PL.seqOf, PL.gN, PL.gT, PL.setAll, PL.lp_next, PL.lp_ret, PL.lp_exc, PL.for_nil, PL.for_cons, PL.atI_0, PL.atI_1, PL.atI_2, PL.atI_3, PL.tupD, PL.lstD, PL.owL, PL.setL, PL.sApp, PL.sPop, PL.sPopAt, PL.popAt, PL.sPut, PL.putAt, PL.ixO, PL.borE, PL.borT, PL.borO, PL.binO, PL.catO, PL.repO, PL.cutO, PL.sliceO, PL.lcE, PL.yesB, PL.mkBV, PL.mkTM, PL.mkBT, PL.negD, List.map_cons, List.map_nil, List.length_cons, List.length_nil, List.getElem?_cons_zero, List.getElem?_cons_succ, List.set_cons_zero, List.set_cons_succ, List.cons_append, List.nil_append, List.replicate_succ, List.replicate_zero, List.append_nil, Nat.reduceSub, Nat.reduceAdd, Bool.false_eq_true, List.map, PL.eq_int, PL.ne_int, PL.eq_bl,  if_true, if_false, ite_true, ite_false, in_range_not d _ _ h]
theorem op_gen {t b n x : D} {a1 a2 a3 a4 : Bool} (h1 : m_is_time [t] = bv a1) (h2 : m_in_range [b, .int 0, .int 29] = bv a2) (h3 : m_is_name [n] = bv a3) (h4 : inD x (.tup [.str "in", .str "out"]) = .ok (.bl a4)) :
    m_is_opening [.tup [t, b, n, x]] = bv (a1 && (a2 && (a3 && a4))) := by
  unfold m_is_opening b_is_opening
  cases a1 <;> cases a2 <;> cases a3 <;> simp [PL.runF, PL.runO, PL.start0, PL.sSeq, PL.sNext, PL.sSet, PL.sSetO, PL.sDrop, PL.sRet, PL.sRetO, PL.sRetV, PL.sRetN, PL.sIf, PL.sBrk, PL.sCont, PL.sFrz, PL.sFor, PL.sAsg, PL.sRaise, PL.sTry, PL.tryO, PL.unset, PL.xRet, PL.fldX, PL.ofR_ok, PL.ofR_exc, PL.eC, PL.eVar, PL.bin, PL.una, PL.aNil, PL.aCons, PL.app, PL.appO, PL.own, PL.tru, PL.ifE, PL.andB, PL.orB, PL.notB, PL.gd, PL.bOf, PL.truD, PL.tst, PL.andV, PL.orV, PL.notV, PL.callE, PL.callO, PL.rvD, PL.rvO, PL.bind_ok, PL.bind_exc, PL.bind_stuck, PL.addD, PL.subD, PL.mulD, PL.modD, PL.fdivD, PL.powD, PL.ltD, PL.leD, PL.gtD, PL.geD, PL.isD, PL.isNotD, PL.isNonD, PL.ixD, PL.sliceD, PL.sliceE, PL.pN, PL.pS, PL.lenL, PL.absL, PL.intL, PL.max2L, PL.min2L, PL.listL, PL.tupleL, PL.isiD, PL.isiB, PL.tyD, PL.itE, PL.seqOf, PL.gN, PL.gT, PL.setAll, PL.lp_next, PL.lp_ret, PL.lp_exc, PL.for_nil, PL.for_cons, PL.atI_0, PL.atI_1, PL.atI_2, PL.atI_3, PL.tupD, PL.lstD, PL.owL, PL.setL, PL.sApp, PL.sPop, PL.sPopAt, PL.popAt, PL.sPut, PL.putAt, PL.ixO, PL.borE, PL.borT, PL.borO, PL.binO, PL.catO, PL.repO, PL.cutO, PL.sliceO, PL.lcE, PL.yesB, PL.mkBV, PL.mkTM, PL.mkBT, PL.negD, List.map_cons, List.map_nil, List.length_cons, List.length_nil, List.getElem?_cons_zero, List.getElem?_cons_succ, List.set_cons_zero, List.set_cons_succ, List.cons_append, List.nil_append, List.replicate_succ, List.replicate_zero, List.append_nil, Nat.reduceSub, Nat.reduceAdd, Bool.false_eq_true, List.map, PL.eq_int, PL.ne_int, PL.eq_bl,  if_true, if_false, ite_true, ite_false, String.reduceBEq, decide_true, decide_false, Bool.not_true, Bool.not_false, Bool.true_and, Bool.false_and, Bool.and_true, Bool.and_false, Bool.true_or, Bool.false_or, Bool.or_true, Bool.or_false, decide_not, Bool.not_eq_true, Bool.not_not, reduceCtorEq, ne_eq, not_true_eq_false, not_false_eq_true, eq_self, beq_self_eq_true, bne_self_eq_false, and_true, true_and, and_self, h1, h2, h3, h4]
theorem op_tup {xs : List D} (h : xs.length ≠ 4) : m_is_opening [.tup xs] = no := by
  unfold m_is_opening b_is_opening
  have h2 : ¬ (xs.length : Int) = 4 := by omega
  simp only [PL.runF, PL.runO, PL.start0, PL.sSeq, PL.sNext, PL.sSet, PL.sSetO, PL.sDrop, PL.sRet, PL.sRetO, PL.sRetV, PL.sRetN, PL.sIf, PL.sBrk, PL.sCont, PL.sFrz, PL.sFor, PL.sAsg, PL.sRaise, PL.sTry, PL.tryO, PL.unset, PL.xRet, PL.fldX, PL.ofR_ok, PL.ofR_exc, PL.eC, PL.eVar, PL.bin, PL.una, PL.aNil, PL.aCons, PL.app, PL.appO, PL.own, PL.tru, PL.ifE, PL.andB, PL.orB, PL.notB, PL.gd, PL.bOf, PL.truD, PL.tst, PL.andV, PL.orV, PL.notV, PL.callE, PL.callO, PL.rvD, PL.rvO, PL.bind_ok, PL.bind_exc, PL.bind_stuck, PL.addD, PL.subD, PL.mulD, PL.modD, PL.fdivD, PL.powD, PL.ltD, PL.leD, PL.gtD, PL.geD, PL.isD, PL.isNotD, PL.isNonD, PL.ixD, PL.sliceD, PL.sliceE, PL.pN, PL.pS, PL.lenL, PL.absL, PL.intL, PL.max2L, PL.min2L, PL.listL, PL.tupleL, PL.isiD, PL.isiB, PL.tyD, PL.itE, PL.seqOf, PL.gN, PL.gT, PL.setAll, PL.lp_next, PL.lp_ret, PL.lp_exc, PL.for_nil, PL.for_cons, PL.atI_0, PL.atI_1, PL.atI_2, PL.atI_3, PL.tupD, PL.lstD, PL.owL, PL.setL, PL.sApp, PL.sPop, PL.sPopAt, PL.popAt, PL.sPut, PL.putAt, PL.ixO, PL.borE, PL.borT, PL.borO, PL.binO, PL.catO, PL.repO, PL.cutO, PL.sliceO, PL.lcE, PL.yesB, PL.mkBV, PL.mkTM, PL.mkBT, PL.negD, List.map_cons, List.map_nil, List.length_cons, List.length_nil, List.getElem?_cons_zero, List.getElem?_cons_succ, List.set_cons_zero, List.set_cons_succ, List.cons_append, List.nil_append, List.replicate_succ, List.replicate_zero, List.append_nil, Nat.reduceSub, Nat.reduceAdd, Bool.false_eq_true, List.map, PL.eq_int, PL.ne_int, PL.eq_bl,  if_true, if_false, ite_true, ite_false, String.reduceBEq, decide_true, decide_false, Bool.not_true, Bool.not_false, Bool.true_and, Bool.false_and, Bool.and_true, Bool.and_false, Bool.true_or, Bool.false_or, Bool.or_true, Bool.or_false, decide_not, Bool.not_eq_true, Bool.not_not, reduceCtorEq, ne_eq, not_true_eq_false, not_false_eq_true, eq_self, beq_self_eq_true, bne_self_eq_false, and_true, true_and, and_self, h2]
theorem op_not {d : D} (h : isiB (tyD d) "tuple" = false) : m_is_opening [d] = no := by
  cases d <;> first | rfl | (cases h; done)
structure Row where
  t : Int
  b : Int
  p : List Nat
  w : Bool
def way (w : Bool) : Str := if w then "in" else "out"
def Row.d (r : Row) : D := .tup [.int r.t, .int r.b, .str (nm r.p), .str (way r.w)]
def Row.ok (r : Row) : Prop := 0 ≤ r.t ∧ r.t ≤ 1000000 ∧ 0 ≤ r.b ∧ r.b ≤ 29 ∧ nmOk r.p = true
theorem nm_len {p : List Nat} (h : nmOk p = true) : 1 ≤ p.length ∧ p.length ≤ 12 := by
  cases p with
  | nil => cases h
  | cons c cs =>
    unfold nmOk at h
    simp only [Bool.and_eq_true, decide_eq_true_eq] at h
    simp only [List.length_cons]
    omega
theorem way_in (w : Bool) : inD (.str (way w)) (.tup [.str "in", .str "out"]) = .ok (.bl true) := by cases w <;> rfl
theorem row_time {r : Row} (h : r.ok) : m_is_time [.int r.t] = yes := by rw [time_int, decide_eq_true h.1, decide_eq_true h.2.1]; rfl
theorem row_box {r : Row} (h : r.ok) : m_in_range [.int r.b, .int 0, .int 29] = yes := by rw [in_range_int, decide_eq_true h.2.2.1, decide_eq_true h.2.2.2.1]; rfl
theorem row_name {r : Row} (h : r.ok) : m_is_name [.str (nm r.p)] = yes := by rw [is_name_str _ (by have := nm_len h.2.2.2.2; omega), h.2.2.2.2]
theorem op_row {r : Row} (h : r.ok) : m_is_opening [r.d] = yes := op_gen (row_time h) (row_box h) (row_name h) (way_in _)
/-! ## doors' checks -/
theorem rows_loop {v : D} : ∀ (rs : List Row) (o : Sl), (∀ r ∈ rs, r.ok) → ∃ o', forL (gN 1) B1_need_history (rs.map Row.d) [.sh v, o] = .next [.sh v, o']
  | [], o, _ => ⟨o, rfl⟩
  | r :: rs, o, h => by
    obtain ⟨o', ih⟩ := rows_loop (v := v) rs (.sh r.d) fun x hx => h x (List.mem_cons_of_mem _ hx)
    refine ⟨o', ?_⟩
    have hb : B1_need_history [.sh v, .sh r.d] = .next [.sh v, .sh r.d] := by
      unfold B1_need_history
      simp only [PL.runF, PL.runO, PL.start0, PL.sSeq, PL.sNext, PL.sSet, PL.sSetO, PL.sDrop, PL.sRet, PL.sRetO, PL.sRetV, PL.sRetN, PL.sIf, PL.sBrk, PL.sCont, PL.sFrz, PL.sFor, PL.sAsg, PL.sRaise, PL.sTry, PL.tryO, PL.unset, PL.xRet, PL.fldX, PL.ofR_ok, PL.ofR_exc, PL.eC, PL.eVar, PL.bin, PL.una, PL.aNil, PL.aCons, PL.app, PL.appO, PL.own, PL.tru, PL.ifE, PL.andB, PL.orB, PL.notB, PL.gd, PL.bOf, PL.truD, PL.tst, PL.andV, PL.orV, PL.notV, PL.callE, PL.callO, PL.rvD, PL.rvO, PL.bind_ok, PL.bind_exc, PL.bind_stuck, PL.addD, PL.subD, PL.mulD, PL.modD, PL.fdivD, PL.powD, PL.ltD, PL.leD, PL.gtD, PL.geD, PL.isD, PL.isNotD, PL.isNonD, PL.ixD, PL.sliceD, PL.sliceE, PL.pN, PL.pS, PL.lenL, PL.absL, PL.intL, PL.max2L, PL.min2L, PL.listL, PL.tupleL, PL.isiD, PL.isiB, PL.tyD, PL.itE, PL.seqOf, PL.gN, PL.gT, PL.setAll, PL.lp_next, PL.lp_ret, PL.lp_exc, PL.for_nil, PL.for_cons, PL.atI_0, PL.atI_1, PL.atI_2, PL.atI_3, PL.tupD, PL.lstD, PL.owL, PL.setL, PL.sApp, PL.sPop, PL.sPopAt, PL.popAt, PL.sPut, PL.putAt, PL.ixO, PL.borE, PL.borT, PL.borO, PL.binO, PL.catO, PL.repO, PL.cutO, PL.sliceO, PL.lcE, PL.yesB, PL.mkBV, PL.mkTM, PL.mkBT, PL.negD, List.map_cons, List.map_nil, List.length_cons, List.length_nil, List.getElem?_cons_zero, List.getElem?_cons_succ, List.set_cons_zero, List.set_cons_succ, List.cons_append, List.nil_append, List.replicate_succ, List.replicate_zero, List.append_nil, Nat.reduceSub, Nat.reduceAdd, Bool.false_eq_true, List.map, PL.eq_int, PL.ne_int, PL.eq_bl,  if_true, if_false, ite_true, ite_false, String.reduceBEq, decide_true, decide_false, Bool.not_true, Bool.not_false, Bool.true_and, Bool.false_and, Bool.and_true, Bool.and_false, Bool.true_or, Bool.false_or, Bool.or_true, Bool.or_false, decide_not, Bool.not_eq_true, Bool.not_not, reduceCtorEq, ne_eq, not_true_eq_false, not_false_eq_true, eq_self, beq_self_eq_true, bne_self_eq_false, and_true, true_and, and_self, op_row (h r List.mem_cons_self)]
    show lpO _ (B1_need_history [.sh v, .sh r.d]) = _
    rw [hb]
    exact ih
theorem need_history_ok (rs : List Row) (h : ∀ r ∈ rs, r.ok) (hl : rs.length ≤ 60) : m_need_history [.lst (rs.map Row.d)] = .ok (.sh .non) := by
  have h1 := need_list_ok (rs.map Row.d) 60 (.str "history") (by simp; omega)
  obtain ⟨o', h2⟩ := rows_loop (v := .lst (rs.map Row.d)) rs .no h
  unfold m_need_history b_need_history
  simp only [PL.runF, PL.runO, PL.start0, PL.sSeq, PL.sNext, PL.sSet, PL.sSetO, PL.sDrop, PL.sRet, PL.sRetO, PL.sRetV, PL.sRetN, PL.sIf, PL.sBrk, PL.sCont, PL.sFrz, PL.sFor, PL.sAsg, PL.sRaise, PL.sTry, PL.tryO, PL.unset, PL.xRet, PL.fldX, PL.ofR_ok, PL.ofR_exc, PL.eC, PL.eVar, PL.bin, PL.una, PL.aNil, PL.aCons, PL.app, PL.appO, PL.own, PL.tru, PL.ifE, PL.andB, PL.orB, PL.notB, PL.gd, PL.bOf, PL.truD, PL.tst, PL.andV, PL.orV, PL.notV, PL.callE, PL.callO, PL.rvD, PL.rvO, PL.bind_ok, PL.bind_exc, PL.bind_stuck, PL.addD, PL.subD, PL.mulD, PL.modD, PL.fdivD, PL.powD, PL.ltD, PL.leD, PL.gtD, PL.geD, PL.isD, PL.isNotD, PL.isNonD, PL.ixD, PL.sliceD, PL.sliceE, PL.pN, PL.pS, PL.lenL, PL.absL, PL.intL, PL.max2L, PL.min2L, PL.listL, PL.tupleL, PL.isiD, PL.isiB, PL.tyD, PL.itE, PL.seqOf, PL.gN, PL.gT, PL.setAll, PL.lp_next, PL.lp_ret, PL.lp_exc, PL.for_nil, PL.for_cons, PL.atI_0, PL.atI_1, PL.atI_2, PL.atI_3, PL.tupD, PL.lstD, PL.owL, PL.setL, PL.sApp, PL.sPop, PL.sPopAt, PL.popAt, PL.sPut, PL.putAt, PL.ixO, PL.borE, PL.borT, PL.borO, PL.binO, PL.catO, PL.repO, PL.cutO, PL.sliceO, PL.lcE, PL.yesB, PL.mkBV, PL.mkTM, PL.mkBT, PL.negD, List.map_cons, List.map_nil, List.length_cons, List.length_nil, List.getElem?_cons_zero, List.getElem?_cons_succ, List.set_cons_zero, List.set_cons_succ, List.cons_append, List.nil_append, List.replicate_succ, List.replicate_zero, List.append_nil, Nat.reduceSub, Nat.reduceAdd, Bool.false_eq_true, List.map, PL.eq_int, PL.ne_int, PL.eq_bl,  if_true, if_false, ite_true, ite_false, h1, h2]
theorem need_history_many (xs : List D) (h : 60 < xs.length) : m_need_history [.lst xs] = .exc (.tooMany (.int 60)) := by
  have h1 := need_list_many xs 60 (.str "history") (by omega)
  unfold m_need_history b_need_history
  simp only [PL.runF, PL.runO, PL.start0, PL.sSeq, PL.sNext, PL.sSet, PL.sSetO, PL.sDrop, PL.sRet, PL.sRetO, PL.sRetV, PL.sRetN, PL.sIf, PL.sBrk, PL.sCont, PL.sFrz, PL.sFor, PL.sAsg, PL.sRaise, PL.sTry, PL.tryO, PL.unset, PL.xRet, PL.fldX, PL.ofR_ok, PL.ofR_exc, PL.eC, PL.eVar, PL.bin, PL.una, PL.aNil, PL.aCons, PL.app, PL.appO, PL.own, PL.tru, PL.ifE, PL.andB, PL.orB, PL.notB, PL.gd, PL.bOf, PL.truD, PL.tst, PL.andV, PL.orV, PL.notV, PL.callE, PL.callO, PL.rvD, PL.rvO, PL.bind_ok, PL.bind_exc, PL.bind_stuck, PL.addD, PL.subD, PL.mulD, PL.modD, PL.fdivD, PL.powD, PL.ltD, PL.leD, PL.gtD, PL.geD, PL.isD, PL.isNotD, PL.isNonD, PL.ixD, PL.sliceD, PL.sliceE, PL.pN, PL.pS, PL.lenL, PL.absL, PL.intL, PL.max2L, PL.min2L, PL.listL, PL.tupleL, PL.isiD, PL.isiB, PL.tyD, PL.itE, PL.seqOf, PL.gN, PL.gT, PL.setAll, PL.lp_next, PL.lp_ret, PL.lp_exc, PL.for_nil, PL.for_cons, PL.atI_0, PL.atI_1, PL.atI_2, PL.atI_3, PL.tupD, PL.lstD, PL.owL, PL.setL, PL.sApp, PL.sPop, PL.sPopAt, PL.popAt, PL.sPut, PL.putAt, PL.ixO, PL.borE, PL.borT, PL.borO, PL.binO, PL.catO, PL.repO, PL.cutO, PL.sliceO, PL.lcE, PL.yesB, PL.mkBV, PL.mkTM, PL.mkBT, PL.negD, List.map_cons, List.map_nil, List.length_cons, List.length_nil, List.getElem?_cons_zero, List.getElem?_cons_succ, List.set_cons_zero, List.set_cons_succ, List.cons_append, List.nil_append, List.replicate_succ, List.replicate_zero, List.append_nil, Nat.reduceSub, Nat.reduceAdd, Bool.false_eq_true, List.map, PL.eq_int, PL.ne_int, PL.eq_bl,  if_true, if_false, ite_true, ite_false, h1]
theorem need_history_no (xs : List D) : m_need_history [.tup xs] = .exc (.badValue (.str "history")) := by
  have h1 := need_list_no xs 60 (.str "history")
  unfold m_need_history b_need_history
  simp only [PL.runF, PL.runO, PL.start0, PL.sSeq, PL.sNext, PL.sSet, PL.sSetO, PL.sDrop, PL.sRet, PL.sRetO, PL.sRetV, PL.sRetN, PL.sIf, PL.sBrk, PL.sCont, PL.sFrz, PL.sFor, PL.sAsg, PL.sRaise, PL.sTry, PL.tryO, PL.unset, PL.xRet, PL.fldX, PL.ofR_ok, PL.ofR_exc, PL.eC, PL.eVar, PL.bin, PL.una, PL.aNil, PL.aCons, PL.app, PL.appO, PL.own, PL.tru, PL.ifE, PL.andB, PL.orB, PL.notB, PL.gd, PL.bOf, PL.truD, PL.tst, PL.andV, PL.orV, PL.notV, PL.callE, PL.callO, PL.rvD, PL.rvO, PL.bind_ok, PL.bind_exc, PL.bind_stuck, PL.addD, PL.subD, PL.mulD, PL.modD, PL.fdivD, PL.powD, PL.ltD, PL.leD, PL.gtD, PL.geD, PL.isD, PL.isNotD, PL.isNonD, PL.ixD, PL.sliceD, PL.sliceE, PL.pN, PL.pS, PL.lenL, PL.absL, PL.intL, PL.max2L, PL.min2L, PL.listL, PL.tupleL, PL.isiD, PL.isiB, PL.tyD, PL.itE, PL.seqOf, PL.gN, PL.gT, PL.setAll, PL.lp_next, PL.lp_ret, PL.lp_exc, PL.for_nil, PL.for_cons, PL.atI_0, PL.atI_1, PL.atI_2, PL.atI_3, PL.tupD, PL.lstD, PL.owL, PL.setL, PL.sApp, PL.sPop, PL.sPopAt, PL.popAt, PL.sPut, PL.putAt, PL.ixO, PL.borE, PL.borT, PL.borO, PL.binO, PL.catO, PL.repO, PL.cutO, PL.sliceO, PL.lcE, PL.yesB, PL.mkBV, PL.mkTM, PL.mkBT, PL.negD, List.map_cons, List.map_nil, List.length_cons, List.length_nil, List.getElem?_cons_zero, List.getElem?_cons_succ, List.set_cons_zero, List.set_cons_succ, List.cons_append, List.nil_append, List.replicate_succ, List.replicate_zero, List.append_nil, Nat.reduceSub, Nat.reduceAdd, Bool.false_eq_true, List.map, PL.eq_int, PL.ne_int, PL.eq_bl,  if_true, if_false, ite_true, ite_false, h1]
theorem bad_loop {v x : D} (hx : m_is_opening [x] = no) : ∀ (rs : List Row) (ys : List D) (o : Sl), (∀ r ∈ rs, r.ok) → ∃ ρ, forL (gN 1) B1_need_history (rs.map Row.d ++ x :: ys) [.sh v, o] = .exc (.badValue (.str "history")) ρ
  | [], ys, o, _ => by
    have hb : B1_need_history [.sh v, .sh x] = .exc (.badValue (.str "history")) [.sh v, .sh x] := by
      unfold B1_need_history
      simp only [PL.runF, PL.runO, PL.start0, PL.sSeq, PL.sNext, PL.sSet, PL.sSetO, PL.sDrop, PL.sRet, PL.sRetO, PL.sRetV, PL.sRetN, PL.sIf, PL.sBrk, PL.sCont, PL.sFrz, PL.sFor, PL.sAsg, PL.sRaise, PL.sTry, PL.tryO, PL.unset, PL.xRet, PL.fldX, PL.ofR_ok, PL.ofR_exc, PL.eC, PL.eVar, PL.bin, PL.una, PL.aNil, PL.aCons, PL.app, PL.appO, PL.own, PL.tru, PL.ifE, PL.andB, PL.orB, PL.notB, PL.gd, PL.bOf, PL.truD, PL.tst, PL.andV, PL.orV, PL.notV, PL.callE, PL.callO, PL.rvD, PL.rvO, PL.bind_ok, PL.bind_exc, PL.bind_stuck, PL.addD, PL.subD, PL.mulD, PL.modD, PL.fdivD, PL.powD, PL.ltD, PL.leD, PL.gtD, PL.geD, PL.isD, PL.isNotD, PL.isNonD, PL.ixD, PL.sliceD, PL.sliceE, PL.pN, PL.pS, PL.lenL, PL.absL, PL.intL, PL.max2L, PL.min2L, PL.listL, PL.tupleL, PL.isiD, PL.isiB, PL.tyD, PL.itE, PL.seqOf, PL.gN, PL.gT, PL.setAll, PL.lp_next, PL.lp_ret, PL.lp_exc, PL.for_nil, PL.for_cons, PL.atI_0, PL.atI_1, PL.atI_2, PL.atI_3, PL.tupD, PL.lstD, PL.owL, PL.setL, PL.sApp, PL.sPop, PL.sPopAt, PL.popAt, PL.sPut, PL.putAt, PL.ixO, PL.borE, PL.borT, PL.borO, PL.binO, PL.catO, PL.repO, PL.cutO, PL.sliceO, PL.lcE, PL.yesB, PL.mkBV, PL.mkTM, PL.mkBT, PL.negD, List.map_cons, List.map_nil, List.length_cons, List.length_nil, List.getElem?_cons_zero, List.getElem?_cons_succ, List.set_cons_zero, List.set_cons_succ, List.cons_append, List.nil_append, List.replicate_succ, List.replicate_zero, List.append_nil, Nat.reduceSub, Nat.reduceAdd, Bool.false_eq_true, List.map, PL.eq_int, PL.ne_int, PL.eq_bl,  if_true, if_false, ite_true, ite_false, String.reduceBEq, decide_true, decide_false, Bool.not_true, Bool.not_false, Bool.true_and, Bool.false_and, Bool.and_true, Bool.and_false, Bool.true_or, Bool.false_or, Bool.or_true, Bool.or_false, decide_not, Bool.not_eq_true, Bool.not_not, reduceCtorEq, ne_eq, not_true_eq_false, not_false_eq_true, eq_self, beq_self_eq_true, bne_self_eq_false, and_true, true_and, and_self, hx]
    refine ⟨[.sh v, .sh x], ?_⟩
    show lpO _ (B1_need_history [.sh v, .sh x]) = _
    rw [hb]; rfl
  | r :: rs, ys, o, h => by
    obtain ⟨ρ, ih⟩ := bad_loop (v := v) hx rs ys (.sh r.d) fun x hx => h x (List.mem_cons_of_mem _ hx)
    refine ⟨ρ, ?_⟩
    have hb : B1_need_history [.sh v, .sh r.d] = .next [.sh v, .sh r.d] := by
      unfold B1_need_history
      simp only [PL.runF, PL.runO, PL.start0, PL.sSeq, PL.sNext, PL.sSet, PL.sSetO, PL.sDrop, PL.sRet, PL.sRetO, PL.sRetV, PL.sRetN, PL.sIf, PL.sBrk, PL.sCont, PL.sFrz, PL.sFor, PL.sAsg, PL.sRaise, PL.sTry, PL.tryO, PL.unset, PL.xRet, PL.fldX, PL.ofR_ok, PL.ofR_exc, PL.eC, PL.eVar, PL.bin, PL.una, PL.aNil, PL.aCons, PL.app, PL.appO, PL.own, PL.tru, PL.ifE, PL.andB, PL.orB, PL.notB, PL.gd, PL.bOf, PL.truD, PL.tst, PL.andV, PL.orV, PL.notV, PL.callE, PL.callO, PL.rvD, PL.rvO, PL.bind_ok, PL.bind_exc, PL.bind_stuck, PL.addD, PL.subD, PL.mulD, PL.modD, PL.fdivD, PL.powD, PL.ltD, PL.leD, PL.gtD, PL.geD, PL.isD, PL.isNotD, PL.isNonD, PL.ixD, PL.sliceD, PL.sliceE, PL.pN, PL.pS, PL.lenL, PL.absL, PL.intL, PL.max2L, PL.min2L, PL.listL, PL.tupleL, PL.isiD, PL.isiB, PL.tyD, PL.itE, PL.seqOf, PL.gN, PL.gT, PL.setAll, PL.lp_next, PL.lp_ret, PL.lp_exc, PL.for_nil, PL.for_cons, PL.atI_0, PL.atI_1, PL.atI_2, PL.atI_3, PL.tupD, PL.lstD, PL.owL, PL.setL, PL.sApp, PL.sPop, PL.sPopAt, PL.popAt, PL.sPut, PL.putAt, PL.ixO, PL.borE, PL.borT, PL.borO, PL.binO, PL.catO, PL.repO, PL.cutO, PL.sliceO, PL.lcE, PL.yesB, PL.mkBV, PL.mkTM, PL.mkBT, PL.negD, List.map_cons, List.map_nil, List.length_cons, List.length_nil, List.getElem?_cons_zero, List.getElem?_cons_succ, List.set_cons_zero, List.set_cons_succ, List.cons_append, List.nil_append, List.replicate_succ, List.replicate_zero, List.append_nil, Nat.reduceSub, Nat.reduceAdd, Bool.false_eq_true, List.map, PL.eq_int, PL.ne_int, PL.eq_bl,  if_true, if_false, ite_true, ite_false, String.reduceBEq, decide_true, decide_false, Bool.not_true, Bool.not_false, Bool.true_and, Bool.false_and, Bool.and_true, Bool.and_false, Bool.true_or, Bool.false_or, Bool.or_true, Bool.or_false, decide_not, Bool.not_eq_true, Bool.not_not, reduceCtorEq, ne_eq, not_true_eq_false, not_false_eq_true, eq_self, beq_self_eq_true, bne_self_eq_false, and_true, true_and, and_self, op_row (h r List.mem_cons_self)]
    show lpO _ (B1_need_history [.sh v, .sh r.d]) = _
    rw [hb]
    exact ih
theorem need_history_bad (rs : List Row) (x : D) (ys : List D) (h : ∀ r ∈ rs, r.ok) (hx : m_is_opening [x] = no) (hl : rs.length + ys.length < 60) : m_need_history [.lst (rs.map Row.d ++ x :: ys)] = .exc (.badValue (.str "history")) := by
  have h1 := need_list_ok (rs.map Row.d ++ x :: ys) 60 (.str "history") (by simp; omega)
  obtain ⟨ρ, h2⟩ := bad_loop (v := .lst (rs.map Row.d ++ x :: ys)) hx rs ys .no h
  unfold m_need_history b_need_history
  simp only [PL.runF, PL.runO, PL.start0, PL.sSeq, PL.sNext, PL.sSet, PL.sSetO, PL.sDrop, PL.sRet, PL.sRetO, PL.sRetV, PL.sRetN, PL.sIf, PL.sBrk, PL.sCont, PL.sFrz, PL.sFor, PL.sAsg, PL.sRaise, PL.sTry, PL.tryO, PL.unset, PL.xRet, PL.fldX, PL.ofR_ok, PL.ofR_exc, PL.eC, PL.eVar, PL.bin, PL.una, PL.aNil, PL.aCons, PL.app, PL.appO, PL.own, PL.tru, PL.ifE, PL.andB, PL.orB, PL.notB, PL.gd, PL.bOf, PL.truD, PL.tst, PL.andV, PL.orV, PL.notV, PL.callE, PL.callO, PL.rvD, PL.rvO, PL.bind_ok, PL.bind_exc, PL.bind_stuck, PL.addD, PL.subD, PL.mulD, PL.modD, PL.fdivD, PL.powD, PL.ltD, PL.leD, PL.gtD, PL.geD, PL.isD, PL.isNotD, PL.isNonD, PL.ixD, PL.sliceD, PL.sliceE, PL.pN, PL.pS, PL.lenL, PL.absL, PL.intL, PL.max2L, PL.min2L, PL.listL, PL.tupleL, PL.isiD, PL.isiB, PL.tyD, PL.itE, PL.seqOf, PL.gN, PL.gT, PL.setAll, PL.lp_next, PL.lp_ret, PL.lp_exc, PL.for_nil, PL.for_cons, PL.atI_0, PL.atI_1, PL.atI_2, PL.atI_3, PL.tupD, PL.lstD, PL.owL, PL.setL, PL.sApp, PL.sPop, PL.sPopAt, PL.popAt, PL.sPut, PL.putAt, PL.ixO, PL.borE, PL.borT, PL.borO, PL.binO, PL.catO, PL.repO, PL.cutO, PL.sliceO, PL.lcE, PL.yesB, PL.mkBV, PL.mkTM, PL.mkBT, PL.negD, List.map_cons, List.map_nil, List.length_cons, List.length_nil, List.getElem?_cons_zero, List.getElem?_cons_succ, List.set_cons_zero, List.set_cons_succ, List.cons_append, List.nil_append, List.replicate_succ, List.replicate_zero, List.append_nil, Nat.reduceSub, Nat.reduceAdd, Bool.false_eq_true, List.map, PL.eq_int, PL.ne_int, PL.eq_bl,  if_true, if_false, ite_true, ite_false, h1, h2]
end K47

set_option maxRecDepth 100000
set_option maxHeartbeats 1000000
namespace K47
open PySem PL
/-! ## _law_same of a thing and itself -/
mutual
def pl : D → Bool
  | .str s => PyData.strOk s
  | .tup xs => plA xs && decide (xs.length ≤ 1000)
  | .lst xs => plA xs && decide (xs.length ≤ 1000)
  | .scr _ => false
  | _ => true
def plA : List D → Bool
  | [] => true
  | x :: xs => pl x && plA xs
end
mutual
def dep : D → Nat
  | .tup xs => depA xs + 1
  | .lst xs => depA xs + 1
  | _ => 0
def depA : List D → Nat
  | [] => 0
  | x :: xs => max (dep x) (depA xs)
end
theorem plA_mem : ∀ {xs : List D} {x : D}, plA xs = true → x ∈ xs → pl x = true
  | y :: ys, x, h, m => by
    unfold plA at h
    rw [Bool.and_eq_true] at h
    rcases List.mem_cons.mp m with e | e
    · subst e; exact h.1
    · exact plA_mem h.2 e
theorem depA_mem : ∀ {xs : List D} {x : D}, x ∈ xs → dep x ≤ depA xs
  | y :: ys, x, m => by
    unfold depA
    rcases List.mem_cons.mp m with e | e
    · subst e; omega
    · have := depA_mem e; omega
theorem same_loop {n : Nat} {d : D} {xs : List D} (hix : ∀ k, (hk : k < xs.length) → ixD d (.int (k : Nat)) = .ok xs[k]) (h : ∀ x ∈ xs, m__law_same n [x, x] = yes) : ∀ (ks : List Nat) (o : Sl), (∀ k ∈ ks, k < xs.length) →
    ∃ o', forL (gN 2) (B1__law_same (m__law_same n)) (ks.map fun k => .int ((k : Nat) : Int)) [.sh d, .sh d, o] = .next [.sh d, .sh d, o']
  | [], o, _ => ⟨o, rfl⟩
  | k :: ks, o, hk => by
    obtain ⟨o', ih⟩ := same_loop hix h ks (.sh (.int (k : Nat))) fun x hx => hk x (List.mem_cons_of_mem _ hx)
    refine ⟨o', ?_⟩
    have hl := hk k List.mem_cons_self
    have hb : B1__law_same (m__law_same n) [.sh d, .sh d, .sh (.int (k : Nat))] = .next [.sh d, .sh d, .sh (.int (k : Nat))] := by
      unfold B1__law_same
      have e : PL.bin ixD (eVar 0) (eVar 2) [.sh d, .sh d, .sh (.int (k : Nat))] = .ok xs[k] := hix k hl
      have e2 : PL.bin ixD (eVar 1) (eVar 2) [.sh d, .sh d, .sh (.int (k : Nat))] = .ok xs[k] := hix k hl
      have e3 := h xs[k] (List.getElem_mem hl)
      unfold sIf notB tst callE aCons
      rw [e]
      simp only [bind_ok]
      unfold aNil
      rw [e2]
      simp only [bind_ok, e3]
      rfl
    show lpO _ (B1__law_same (m__law_same n) [.sh d, .sh d, .sh (.int (k : Nat))]) = _
    rw [hb]
    exact ih
theorem ix_tup (xs : List D) (k : Nat) (h : k < xs.length) : ixD (.tup xs) (.int (k : Nat)) = .ok xs[k] := by
  show (match L2.atI xs (k : Nat) with | some d => Res.ok d | none => .stuck) = _
  rw [atI_nat, List.getElem?_eq_getElem h]
theorem ix_lst (xs : List D) (k : Nat) (h : k < xs.length) : ixD (.lst xs) (.int (k : Nat)) = .ok xs[k] := by
  show (match L2.atI xs (k : Nat) with | some d => Res.ok d | none => .stuck) = _
  rw [atI_nat, List.getElem?_eq_getElem h]
theorem same_seq {n : Nat} {d : D} {xs : List D} (hd : d = .tup xs ∨ d = .lst xs) (hl : xs.length ≤ 1000) (h : ∀ x ∈ xs, m__law_same n [x, x] = yes) : m__law_same (n + 1) [d, d] = yes := by
  have hix : ∀ k, (hk : k < xs.length) → ixD d (.int (k : Nat)) = .ok xs[k] := by
    rcases hd with e | e <;> subst e
    · exact ix_tup xs
    · exact ix_lst xs
  obtain ⟨o', hf⟩ := same_loop hix h (List.range xs.length) .no fun k hk => List.mem_range.mp hk
  have g1 := rng1_nat xs.length (by omega)
  show runO (b__law_same (m__law_same n) [.sh d, .sh d, .no]) = _
  have step : ∀ (f g : En → Out), f [.sh d, .sh d, .no] = .next [.sh d, .sh d, .no] → sSeq f g [.sh d, .sh d, .no] = g [.sh d, .sh d, .no] := fun f g e => seq_next e
  have hlen : lenL [d] = .ok (.int (xs.length : Nat)) := by rcases hd with e | e <;> subst e <;> rfl
  unfold b__law_same
  rw [step, step, step, step, step, step, step]
  · unfold sSeq sFor PL.appO PL.app PL.aCons PL.aNil PL.eVar
    simp only [List.getElem?_cons_zero, List.getElem?_cons_succ, bind_ok, hlen, g1, ofR_ok, hf]
    rfl
  · unfold sIf PL.tst PL.bin PL.app PL.aCons PL.aNil PL.eVar
    simp only [List.getElem?_cons_zero, List.getElem?_cons_succ, bind_ok, hlen, ne_int, decide_true, Bool.not_true]
    rfl
  all_goals (rcases hd with e | e <;> subst e <;> rfl)
theorem same_refl : ∀ (n : Nat) (d : D), pl d = true → dep d < n → m__law_same n [d, d] = yes
  | 0, d, _, h => absurd h (Nat.not_lt_zero _)
  | n + 1, d, h, hn => by
    cases d with
    | non => rfl
    | bl b => cases b <;> rfl
    | int i =>
      show runF 3 (b__law_same (m__law_same n)) [.int i, .int i] = _
      unfold b__law_same
      simp only [PL.runF, PL.runO, PL.start0, PL.sSeq, PL.sNext, PL.sSet, PL.sSetO, PL.sDrop, PL.sRet, PL.sRetO, PL.sRetV, PL.sRetN, PL.sIf, PL.sBrk, PL.sCont, PL.sFrz, PL.sFor, PL.sAsg, PL.sRaise, PL.sTry, PL.tryO, PL.unset, PL.xRet, PL.fldX, PL.ofR_ok, PL.ofR_exc, PL.eC, PL.eVar, PL.bin, PL.una, PL.aNil, PL.aCons, PL.app, PL.appO, PL.own, PL.tru, PL.ifE, PL.andB, PL.orB, PL.notB, PL.gd, PL.bOf, PL.truD, PL.tst, PL.andV, PL.orV, PL.notV, PL.callE, PL.callO, PL.rvD, PL.rvO, PL.bind_ok, PL.bind_exc, PL.bind_stuck, PL.addD, PL.subD, PL.mulD, PL.modD, PL.fdivD, PL.powD, PL.ltD, PL.leD, PL.gtD, PL.geD, PL.isD, PL.isNotD, PL.isNonD, PL.ixD, PL.sliceD, PL.sliceE, PL.pN, PL.pS, PL.lenL, PL.absL, PL.intL, PL.max2L, PL.min2L, PL.listL, PL.tupleL, PL.isiD, PL.isiB, PL.tyD, PL.itE, PL.seqOf, PL.gN, PL.gT, PL.setAll, PL.lp_next, PL.lp_ret, PL.lp_exc, PL.for_nil, PL.for_cons, PL.atI_0, PL.atI_1, PL.atI_2, PL.atI_3, PL.tupD, PL.lstD, PL.owL, PL.setL, PL.sApp, PL.sPop, PL.sPopAt, PL.popAt, PL.sPut, PL.putAt, PL.ixO, PL.borE, PL.borT, PL.borO, PL.binO, PL.catO, PL.repO, PL.cutO, PL.sliceO, PL.lcE, PL.yesB, PL.mkBV, PL.mkTM, PL.mkBT, PL.negD, List.map_cons, List.map_nil, List.length_cons, List.length_nil, List.getElem?_cons_zero, List.getElem?_cons_succ, List.set_cons_zero, List.set_cons_succ, List.cons_append, List.nil_append, List.replicate_succ, List.replicate_zero, List.append_nil, Nat.reduceSub, Nat.reduceAdd, Bool.false_eq_true, List.map, PL.eq_int, PL.ne_int, PL.eq_bl,  if_true, if_false, ite_true, ite_false, String.reduceBEq, decide_true, decide_false, Bool.not_true, Bool.not_false, Bool.true_and, Bool.false_and, Bool.and_true, Bool.and_false, Bool.true_or, Bool.false_or, Bool.or_true, Bool.or_false, decide_not, Bool.not_eq_true, Bool.not_not, reduceCtorEq, ne_eq, not_true_eq_false, not_false_eq_true, eq_self, beq_self_eq_true, bne_self_eq_false, and_true, true_and, and_self]
    | str s =>
      show runF 3 (b__law_same (m__law_same n)) [.str s, .str s] = _
      unfold b__law_same
      simp only [PL.runF, PL.runO, PL.start0, PL.sSeq, PL.sNext, PL.sSet, PL.sSetO, PL.sDrop, PL.sRet, PL.sRetO, PL.sRetV, PL.sRetN, PL.sIf, PL.sBrk, PL.sCont, PL.sFrz, PL.sFor, PL.sAsg, PL.sRaise, PL.sTry, PL.tryO, PL.unset, PL.xRet, PL.fldX, PL.ofR_ok, PL.ofR_exc, PL.eC, PL.eVar, PL.bin, PL.una, PL.aNil, PL.aCons, PL.app, PL.appO, PL.own, PL.tru, PL.ifE, PL.andB, PL.orB, PL.notB, PL.gd, PL.bOf, PL.truD, PL.tst, PL.andV, PL.orV, PL.notV, PL.callE, PL.callO, PL.rvD, PL.rvO, PL.bind_ok, PL.bind_exc, PL.bind_stuck, PL.addD, PL.subD, PL.mulD, PL.modD, PL.fdivD, PL.powD, PL.ltD, PL.leD, PL.gtD, PL.geD, PL.isD, PL.isNotD, PL.isNonD, PL.ixD, PL.sliceD, PL.sliceE, PL.pN, PL.pS, PL.lenL, PL.absL, PL.intL, PL.max2L, PL.min2L, PL.listL, PL.tupleL, PL.isiD, PL.isiB, PL.tyD, PL.itE, PL.seqOf, PL.gN, PL.gT, PL.setAll, PL.lp_next, PL.lp_ret, PL.lp_exc, PL.for_nil, PL.for_cons, PL.atI_0, PL.atI_1, PL.atI_2, PL.atI_3, PL.tupD, PL.lstD, PL.owL, PL.setL, PL.sApp, PL.sPop, PL.sPopAt, PL.popAt, PL.sPut, PL.putAt, PL.ixO, PL.borE, PL.borT, PL.borO, PL.binO, PL.catO, PL.repO, PL.cutO, PL.sliceO, PL.lcE, PL.yesB, PL.mkBV, PL.mkTM, PL.mkBT, PL.negD, List.map_cons, List.map_nil, List.length_cons, List.length_nil, List.getElem?_cons_zero, List.getElem?_cons_succ, List.set_cons_zero, List.set_cons_succ, List.cons_append, List.nil_append, List.replicate_succ, List.replicate_zero, List.append_nil, Nat.reduceSub, Nat.reduceAdd, Bool.false_eq_true, List.map, PL.eq_int, PL.ne_int, PL.eq_bl,  if_true, if_false, ite_true, ite_false, String.reduceBEq, decide_true, decide_false, Bool.not_true, Bool.not_false, Bool.true_and, Bool.false_and, Bool.and_true, Bool.and_false, Bool.true_or, Bool.false_or, Bool.or_true, Bool.or_false, decide_not, Bool.not_eq_true, Bool.not_not, reduceCtorEq, ne_eq, not_true_eq_false, not_false_eq_true, eq_self, beq_self_eq_true, bne_self_eq_false, and_true, true_and, and_self, eq_str h h]
    | tup xs =>
      unfold pl at h
      unfold dep at hn
      rw [Bool.and_eq_true, decide_eq_true_eq] at h
      exact same_seq (.inl rfl) h.2 fun x hx => same_refl n x (plA_mem h.1 hx) (by have := depA_mem hx; omega)
    | lst xs =>
      unfold pl at h
      unfold dep at hn
      rw [Bool.and_eq_true, decide_eq_true_eq] at h
      exact same_seq (.inr rfl) h.2 fun x hx => same_refl n x (plA_mem h.1 hx) (by have := depA_mem hx; omega)
    | scr ns => cases h
theorem plA_of : ∀ {xs : List D}, (∀ x ∈ xs, pl x = true) → plA xs = true
  | [], _ => rfl
  | x :: xs, h => by
    unfold plA
    rw [h x List.mem_cons_self, plA_of fun y hy => h y (List.mem_cons_of_mem _ hy)]
    rfl
theorem depA_of {n : Nat} : ∀ {xs : List D}, (∀ x ∈ xs, dep x ≤ n) → depA xs ≤ n
  | [], _ => Nat.zero_le _
  | x :: xs, h => by
    unfold depA
    have h1 := h x List.mem_cons_self
    have h2 := depA_of (n := n) fun y hy => h y (List.mem_cons_of_mem _ hy)
    omega
end K47

set_option maxRecDepth 100000
set_option maxHeartbeats 1000000
namespace K47
open PySem PL
/-! ## the near openings -/
theorem nm_length (p : List Nat) : (nm p).length = p.length := by show p.toArray.size = _; simp
theorem nm_app (p q : List Nat) : nm p ++ nm q = nm (p ++ q) := by
  show (⟨p.toArray ++ q.toArray⟩ : Str) = ⟨(p ++ q).toArray⟩
  rw [List.append_toArray]
theorem cut_nm (p : List Nat) (k : Nat) : L2.cutS (nm p) none (some (k : Int)) = nm (p.take k) := by
  unfold L2.cutS
  rw [nm_length, HT.sIx_none, HT.sIx_nat]
  show (⟨_⟩ : Str) = ⟨_⟩
  congr 2
  have e : (nm p).cps.toList = p := by simp [nm]
  rw [e, List.drop_zero, Nat.sub_zero, List.take_eq_take_iff]
  omega
theorem lit7 : ("7" : Str) = nm [55] := by decide +kernel
theorem litA : ("A" : Str) = nm [65] := by decide +kernel
theorem lit_ : (" " : Str) = nm [32] := by decide +kernel
theorem lit0 : ("" : Str) = nm [] := by decide +kernel
theorem litm : ("abcdefghijklm" : Str) = nm [97, 98, 99, 100, 101, 102, 103, 104, 105, 106, 107, 108, 109] := by decide +kernel
theorem way_len (w : Bool) : (way w).length ≤ 3 := by cases w <;> decide
end K47

set_option maxRecDepth 100000
set_option maxHeartbeats 1000000
namespace K47
open PySem PL
/-! ## what the law draws -/
theorem mod_int (a b : Int) (h : 0 < b) : modD (.int a) (.int b) = .ok (.int (a % b)) := gd_pos h
theorem fdiv_int (a b : Int) (h : 0 < b) (h2 : b < 18446744073709551616) : fdivD (.int a) (.int b) = .ok (.int (a / b)) := gd_pos ⟨h, h2⟩
theorem mul_int (a b : Int) (h : a.natAbs < 2 ^ 100) (h2 : b.natAbs < 2 ^ 100) : mulD (.int a) (.int b) = .ok (.int (a * b)) := by
  refine gd_pos ?_
  have x := PySem.Flt.log2_lt_of (by decide) h
  have y := PySem.Flt.log2_lt_of (by decide) h2
  omega
def Draws (n : Nat) (lim : Int) (xs : List Int) : Prop := xs.length = n ∧ ∀ x ∈ xs, 0 ≤ x ∧ x < lim
theorem row_loop1 {c m s5 : Sl} {lim : Int} (h0 : 0 < lim) (h1 : lim < 18446744073709551616) : ∀ (ks : List Nat) (rest : Int) (acc : List D) (o6 : Sl), acc.length + ks.length ≤ 100000 → ∃ xs rest' o6', Draws ks.length lim xs ∧
    forL (gN 6) B1__law_row (ks.map fun k => .int ((k : Nat) : Int)) [c, m, .sh (.int lim), .sh (.int rest), .ow (.lst acc), s5, o6] = .next [c, m, .sh (.int lim), .sh (.int rest'), .ow (.lst (acc ++ xs.map D.int)), s5, o6']
  | [], rest, acc, o6, _ => ⟨[], rest, o6, ⟨rfl, fun x hx => by cases hx⟩, by rw [List.map_nil, List.map_nil, List.append_nil]; rfl⟩
  | k :: ks, rest, acc, o6, hz => by
    simp only [List.length_cons] at hz
    obtain ⟨xs, rest', o6', ⟨hl, hx⟩, ih⟩ := row_loop1 (c := c) (m := m) (s5 := s5) h0 h1 ks (rest / lim) (acc ++ [.int (rest % lim)]) (.sh (.int (k : Nat))) (by simp only [List.length_append, List.length_cons, List.length_nil]; omega)
    refine ⟨rest % lim :: xs, rest', o6', ⟨by rw [List.length_cons, List.length_cons, hl], fun x h => ?_⟩, ?_⟩
    · rcases List.mem_cons.mp h with e | e
      · subst e; exact ⟨Int.emod_nonneg _ (by omega), Int.emod_lt_of_pos _ h0⟩
      · exact hx x e
    · rw [List.map_cons, for_cons]
      show lpO _ (B1__law_row [c, m, .sh (.int lim), .sh (.int rest), .ow (.lst acc), s5, .sh (.int (k : Nat))]) = _
      have hb : B1__law_row [c, m, .sh (.int lim), .sh (.int rest), .ow (.lst acc), s5, .sh (.int (k : Nat))] = .next [c, m, .sh (.int lim), .sh (.int (rest / lim)), .ow (.lst (acc ++ [.int (rest % lim)])), s5, .sh (.int (k : Nat))] :=
        seq_n (app_ok (xs := acc) rfl (bin_eq (x := .int rest) (app_eq (cons_eq rfl rfl) rfl) rfl (mod_int rest lim h0)) (by omega)) (set_eq (bin_eq rfl rfl (fdiv_int rest lim h0 h1)))
      rw [hb, lp_next, ih, List.append_assoc]
      rfl
theorem row_loop2 {c m : Sl} {lim rest : Int} (h0 : 0 < lim) (hr : 0 ≤ rest) (hr2 : rest < 1000000000000000000) : ∀ (ks : List Nat) (st : Int) (acc : List D) (o6 : Sl), (∀ k ∈ ks, k < 100000) → 0 ≤ st → st < 2147483648 → acc.length + ks.length ≤ 100000 → ∃ xs s5 o6', Draws ks.length lim xs ∧
    forL (gN 6) B2__law_row (ks.map fun k => .int ((k : Nat) : Int)) [c, m, .sh (.int lim), .sh (.int rest), .ow (.lst acc), .sh (.int st), o6] = .next [c, m, .sh (.int lim), .sh (.int rest), .ow (.lst (acc ++ xs.map D.int)), s5, o6']
  | [], st, acc, o6, _, _, _, _ => ⟨[], _, o6, ⟨rfl, fun x hx => by cases hx⟩, by rw [List.map_nil, List.map_nil, List.append_nil]; rfl⟩
  | k :: ks, st, acc, o6, hk, s0, s1, hz => by
    simp only [List.length_cons] at hz
    have hk0 := hk k List.mem_cons_self
    let st' : Int := (st * 69621 + (k : Nat) * 48271 + rest) % 2147483629
    have t0 : 0 ≤ st' := Int.emod_nonneg _ (by decide)
    have t1 : st' < 2147483629 := Int.emod_lt_of_pos _ (by decide)
    obtain ⟨xs, s5, o6', ⟨hl, hx⟩, ih⟩ := row_loop2 (c := c) (m := m) h0 hr hr2 ks st' (acc ++ [.int (st' / 7 % lim)]) (.sh (.int (k : Nat))) (fun x h => hk x (List.mem_cons_of_mem _ h)) t0 (by omega) (by simp only [List.length_append, List.length_cons, List.length_nil]; omega)
    refine ⟨st' / 7 % lim :: xs, s5, o6', ⟨by rw [List.length_cons, List.length_cons, hl], fun x h => ?_⟩, ?_⟩
    · rcases List.mem_cons.mp h with e | e
      · subst e; exact ⟨Int.emod_nonneg _ (by omega), Int.emod_lt_of_pos _ h0⟩
      · exact hx x e
    · rw [List.map_cons, for_cons]
      show lpO _ (B2__law_row [c, m, .sh (.int lim), .sh (.int rest), .ow (.lst acc), .sh (.int st), .sh (.int (k : Nat))]) = _
      have hb : B2__law_row [c, m, .sh (.int lim), .sh (.int rest), .ow (.lst acc), .sh (.int st), .sh (.int (k : Nat))] = .next [c, m, .sh (.int lim), .sh (.int rest), .ow (.lst (acc ++ [.int (st' / 7 % lim)])), .sh (.int st'), .sh (.int (k : Nat))] := by
        refine seq_n (set_eq (d := .int st') (bin_eq (x := .int (st * 69621 + (k : Nat) * 48271 + rest)) (app_eq (cons_eq (bin_eq (bin_eq (bin_eq rfl rfl (mul_int _ _ (by omega) (by decide))) (bin_eq rfl rfl (mul_int _ _ (by omega) (by decide))) rfl) rfl rfl) rfl) rfl) rfl (mod_int _ _ (by decide)))) ?_
        exact app_ok (xs := acc) rfl (bin_eq (x := .int (st' / 7)) (app_eq (cons_eq (bin_eq rfl rfl (fdiv_int _ _ (by decide) (by decide))) rfl) rfl) rfl (mod_int _ _ h0)) (by omega)
      rw [hb, lp_next, ih, List.append_assoc]
      rfl
theorem pow18 : powD (.int 10) (.int 18) = .ok (.int 1000000000000000000) := by
  show gd _ (Res.ok (D.int (10 ^ (18 : Int).toNat))) = _
  rw [gd_pos (by decide)]
  rw [show (10 : Int) ^ (18 : Int).toNat = 1000000000000000000 from by decide]
theorem draw (cell : Int) (n : Nat) (lim : Int) (hn : n ≤ 1000) (h0 : 0 < lim) (h1 : lim < 18446744073709551616) : ∃ xs, Draws n lim xs ∧ m__law_row [.int cell, .int (n : Nat), .int lim] = .ok (.ow (xs.map D.int)) := by
  let r : Int := if cell < 0 then -cell else cell
  have r0 : 0 ≤ r := by show 0 ≤ (if cell < 0 then -cell else cell); split <;> omega
  have rg := rng1_nat n (by omega)
  have p18 : ∀ ρ : En, PL.bin powD (eC (.int 10)) (eC (.int 18)) ρ = .ok (.int 1000000000000000000) := fun ρ => bin_eq rfl rfl pow18
  have en : [Sl.sh (.int cell), .sh (.int (n : Nat)), .sh (.int lim), .no, .no, .no, .no] = start0 7 [.int cell, .int (n : Nat), .int lim] := rfl
  by_cases hb : (1000000000000000000 : Int) ≤ r
  · obtain ⟨xs, rest', o6', hd, hf⟩ := row_loop1 (c := .sh (.int cell)) (m := .sh (.int (n : Nat))) (s5 := .no) h0 h1 (List.range n) (r - 1000000000000000000) [] .no (by rw [List.length_range]; simp only [List.length_nil]; omega)
    rw [List.length_range] at hd
    refine ⟨xs, hd, ?_⟩
    refine run_of (b := b__law_row) (env := [.sh (.int cell), .sh (.int (n : Nat)), .sh (.int lim), .no, .no, .no, .no]) (o := .ret (.ow (xs.map D.int))) rfl ?_ rfl
    unfold b__law_row
    refine seq_n (set_eq (d := .int r) (app_eq (cons_eq rfl rfl) rfl)) (seq_n (setO_eq (appO_eq rfl (lst_ok [] (by simp)))) ?_)
    show sSeq _ _ [.sh (.int cell), .sh (.int (n : Nat)), .sh (.int lim), .sh (.int r), .ow (.lst []), .no, .no] = _
    refine seq_ret (if_eq (b := true) (tst_eq (d := .bl true) (bin_eq (x := .int r) rfl (p18 _) (by show Res.ok (D.bl (decide ((1000000000000000000 : Int) ≤ r))) = _; rw [decide_eq_true hb])) rfl) ?_)
    rw [if_pos rfl]
    refine seq_n (set_eq (d := .int (r - 1000000000000000000)) (bin_eq rfl (p18 _) rfl)) ?_
    exact seq_n (for_eq (appO_eq (cons_eq rfl rfl) rg) hf) rfl
  · have st0 : 0 ≤ (r * 48271 + 11) % 2147483647 := Int.emod_nonneg _ (by decide)
    have st1 : (r * 48271 + 11) % 2147483647 < 2147483647 := Int.emod_lt_of_pos _ (by decide)
    obtain ⟨xs, s5, o6', hd, hf⟩ := row_loop2 (c := .sh (.int cell)) (m := .sh (.int (n : Nat))) (rest := r) h0 r0 (by omega) (List.range n) ((r * 48271 + 11) % 2147483647) [] .no (fun k hk => by have := List.mem_range.mp hk; omega) st0 (by omega) (by rw [List.length_range]; simp only [List.length_nil]; omega)
    rw [List.length_range] at hd
    refine ⟨xs, hd, ?_⟩
    refine run_of (b := b__law_row) (env := [.sh (.int cell), .sh (.int (n : Nat)), .sh (.int lim), .no, .no, .no, .no]) (o := .ret (.ow (xs.map D.int))) rfl ?_ rfl
    unfold b__law_row
    refine seq_n (set_eq (d := .int r) (app_eq (cons_eq rfl rfl) rfl)) (seq_n (setO_eq (appO_eq rfl (lst_ok [] (by simp)))) ?_)
    show sSeq _ _ [.sh (.int cell), .sh (.int (n : Nat)), .sh (.int lim), .sh (.int r), .ow (.lst []), .no, .no] = _
    refine seq_n (if_eq (b := false) (tst_eq (d := .bl false) (bin_eq (x := .int r) rfl (p18 _) (by show Res.ok (D.bl (decide ((1000000000000000000 : Int) ≤ r))) = _; rw [decide_eq_false hb])) rfl) rfl) ?_
    refine seq_n (set_eq (d := .int ((r * 48271 + 11) % 2147483647)) (bin_eq (x := .int (r * 48271 + 11)) (app_eq (cons_eq (bin_eq (bin_eq rfl rfl (mul_int r 48271 (by omega) (by decide))) rfl rfl) rfl) rfl) rfl (mod_int _ _ (by decide)))) ?_
    exact seq_n (for_eq (appO_eq (cons_eq rfl rfl) rg) hf) rfl
theorem cell_eq (ns : List Int) (k : Nat) : ∃ c : Int, m__law_cell [.scr ns, .int (k : Nat)] = .ok (.sh (.int c)) := by
  have ht : tst bOf (PL.bin ltD (eVar 1) (app lenL (aCons (eVar 0) aNil))) [.sh (.scr ns), .sh (.int (k : Nat))] = .ok (decide ((k : Int) < (ns.length : Nat))) := tst_eq (bin_eq rfl (app_eq (cons_eq rfl rfl) rfl) rfl) rfl
  by_cases h : k < ns.length
  · refine ⟨ns[k], run_of (b := b__law_cell) (env := [.sh (.scr ns), .sh (.int (k : Nat))]) (o := .ret (.sh (.int ns[k]))) rfl ?_ rfl⟩
    rw [decide_eq_true (by omega)] at ht
    have ix : ixD (.scr ns) (.int (k : Nat)) = .ok (.int ns[k]) := by
      show (match L2.atI ns (k : Nat) with | some d => Res.ok (D.int d) | none => .stuck) = _
      rw [atI_nat, List.getElem?_eq_getElem h]
    exact seq_ret (if_eq ht (ret_eq (app_eq (cons_eq (bin_eq rfl rfl ix) rfl) rfl)))
  · refine ⟨0, run_of (b := b__law_cell) (env := [.sh (.scr ns), .sh (.int (k : Nat))]) (o := .ret (.sh (.int 0))) rfl ?_ rfl⟩
    rw [decide_eq_false (by omega)] at ht
    exact seq_n (if_eq ht rfl) (ret_eq rfl)
theorem draw_get {n : Nat} {lim : Int} {xs : List Int} (h : Draws n lim xs) {k : Nat} (hk : k < n) : ∃ x, ixD (.lst (xs.map D.int)) (.int (k : Nat)) = .ok (.int x) ∧ 0 ≤ x ∧ x < lim := by
  have hk' : k < xs.length := by rw [h.1]; exact hk
  refine ⟨xs[k], ?_, h.2 _ (List.getElem_mem hk')⟩
  rw [ix_lst _ _ (by rw [List.length_map]; exact hk'), List.getElem_map]
end K47

set_option maxRecDepth 100000
set_option maxHeartbeats 1000000
namespace K47
open PySem PL
/-! ## names -/
def lets : List Nat := [97, 98, 99, 100, 101, 102, 103, 104, 105, 106, 107, 108, 109, 110, 111, 112, 113, 114, 115, 116, 117, 118, 119, 120, 121, 122, 48, 49, 50, 51, 52, 53, 54, 55, 56, 57]
theorem lets_ok : ∀ i : Fin 36, (lett (lets[i.1]'i.2) || dgt (lets[i.1]'i.2)) = true ∧ (i.1 < 26 → lett (lets[i.1]'i.2) = true) := by decide
abbrev LET : D := .str "abcdefghijklmnopqrstuvwxyz0123456789"
theorem lets_ix {i : Int} (h0 : 0 ≤ i) (h : i < 36) : ∃ c, ixD LET (.int i) = .ok (.str (nm [c])) ∧ (lett c || dgt c) = true ∧ (i < 26 → lett c = true) := by
  obtain ⟨j, rfl⟩ := Int.eq_ofNat_of_zero_le h0
  have hj : j < 36 := by omega
  obtain ⟨h1, h2⟩ := lets_ok ⟨j, hj⟩
  refine ⟨lets[j]'hj, ?_, h1, fun z => h2 (by show j < 26; omega)⟩
  have e : ("abcdefghijklmnopqrstuvwxyz0123456789" : Str).cps.toList = lets := by decide +kernel
  show gd _ (match L2.atI ("abcdefghijklmnopqrstuvwxyz0123456789" : Str).cps.toList (j : Nat) with | some c => Res.ok (D.str ⟨#[c]⟩) | none => .stuck) = _
  rw [gd_pos (sz _ (by decide +kernel)), e, atI_nat, List.getElem?_eq_getElem hj]
  rfl
def Nq (p : List Nat) : Prop := ∃ c cs, p = c :: cs ∧ lett c = true ∧ ∀ x ∈ cs, (lett x || dgt x) = true
theorem nq_ok {p : List Nat} (h : Nq p) (hl : p.length ≤ 12) : nmOk p = true := by
  obtain ⟨c, cs, rfl, h1, h2⟩ := h
  show (lett c && cs.all (fun x => lett x || dgt x) && decide (cs.length ≤ 11)) = true
  simp only [List.length_cons] at hl
  rw [h1, List.all_eq_true.mpr h2, decide_eq_true (by omega)]
  rfl
theorem add_nm (p : List Nat) (c : Nat) (h : p.length ≤ 100) : addD (.str (nm p)) (.str (nm [c])) = .ok (.str (nm (p ++ [c]))) := by
  show gd _ (Res.ok (D.str (nm p ++ nm [c]))) = _
  rw [gd_pos (sz _ (by rw [nm_length, nm_length]; simp only [List.length_cons, List.length_nil]; omega)), nm_app]
theorem name_turns {a0 : Sl} : ∀ (ks : List Nat) (p : List Nat) (rest : Int) (o : Sl), Nq p → 0 ≤ rest → p.length + ks.length ≤ 12 → ∃ p' rest' o', Nq p' ∧ p'.length ≤ p.length + ks.length ∧
    forL (gN 4) B1__law_name (ks.map fun k => .int ((k : Nat) : Int)) [a0, .sh LET, .sh (.str (nm p)), .sh (.int rest), o] = .next [a0, .sh LET, .sh (.str (nm p')), .sh (.int rest'), o']
  | [], p, rest, o, h, _, _ => ⟨p, rest, o, h, Nat.le_refl _, rfl⟩
  | k :: ks, p, rest, o, h, hr, hl => by
    simp only [List.length_cons] at hl
    have ht : tst bOf (PL.bin gtD (eVar 3) (eC (.int 0))) [a0, .sh LET, .sh (.str (nm p)), .sh (.int rest), .sh (.int (k : Nat))] = .ok (decide (0 < rest)) := tst_eq (bin_eq rfl rfl rfl) rfl
    by_cases h0 : 0 < rest
    · rw [decide_eq_true h0] at ht
      obtain ⟨c, e1, e2, _⟩ := lets_ix (i := rest % 36) (Int.emod_nonneg _ (by decide)) (Int.emod_lt_of_pos _ (by decide))
      have hb : B1__law_name [a0, .sh LET, .sh (.str (nm p)), .sh (.int rest), .sh (.int (k : Nat))] = .next [a0, .sh LET, .sh (.str (nm (p ++ [c]))), .sh (.int (rest / 36)), .sh (.int (k : Nat))] := by
        refine if_eq ht ?_
        rw [if_pos rfl]
        refine seq_n (set_eq (d := .str (nm (p ++ [c]))) (bin_eq rfl (bin_eq rfl (bin_eq (x := .int rest) (app_eq (cons_eq rfl rfl) rfl) rfl (mod_int rest 36 (by decide))) e1) (add_nm p c (by omega)))) ?_
        exact set_eq (bin_eq rfl rfl (fdiv_int rest 36 (by decide) (by decide)))
      have hq : Nq (p ++ [c]) := by
        obtain ⟨c0, cs, rfl, h1, h2⟩ := h
        refine ⟨c0, cs ++ [c], rfl, h1, fun x hx => ?_⟩
        rcases List.mem_append.mp hx with z | z
        · exact h2 x z
        · rw [List.mem_singleton.mp z]; exact e2
      obtain ⟨p', rest', o', i1, i2, i3⟩ := name_turns (a0 := a0) ks (p ++ [c]) (rest / 36) (.sh (.int (k : Nat))) hq (by omega) (by simp only [List.length_append, List.length_cons, List.length_nil]; omega)
      refine ⟨p', rest', o', i1, by simp only [List.length_append, List.length_cons, List.length_nil] at i2 ⊢; omega, ?_⟩
      rw [List.map_cons, for_cons]
      show lpO _ (B1__law_name [a0, .sh LET, .sh (.str (nm p)), .sh (.int rest), .sh (.int (k : Nat))]) = _
      rw [hb, lp_next, i3]
    · rw [decide_eq_false h0] at ht
      obtain ⟨p', rest', o', i1, i2, i3⟩ := name_turns (a0 := a0) ks p rest (.sh (.int (k : Nat))) h hr (by omega)
      refine ⟨p', rest', o', i1, by simp only [List.length_cons]; omega, ?_⟩
      rw [List.map_cons, for_cons]
      show lpO _ (B1__law_name [a0, .sh LET, .sh (.str (nm p)), .sh (.int rest), .sh (.int (k : Nat))]) = _
      have hb : B1__law_name [a0, .sh LET, .sh (.str (nm p)), .sh (.int rest), .sh (.int (k : Nat))] = .next [a0, .sh LET, .sh (.str (nm p)), .sh (.int rest), .sh (.int (k : Nat))] := if_eq ht rfl
      rw [hb, lp_next, i3]
theorem name_eq {n : Int} (h0 : 0 ≤ n) : ∃ p, nmOk p = true ∧ m__law_name [.int n] = .ok (.sh (.str (nm p))) := by
  obtain ⟨c, e1, _, e3⟩ := lets_ix (i := n % 26) (Int.emod_nonneg _ (by decide)) (by have := Int.emod_lt_of_pos n (by decide : (0 : Int) < 26); omega)
  have hc := e3 (Int.emod_lt_of_pos _ (by decide))
  obtain ⟨p', rest', o', i1, i2, i3⟩ := name_turns (a0 := .sh (.int n)) (List.range 11) [c] (n / 26) .no ⟨c, [], rfl, hc, fun x hx => by cases hx⟩ (by omega) (by simp)
  refine ⟨p', nq_ok i1 (by simp at i2; omega), run_of (b := b__law_name) (env := [.sh (.int n), .no, .no, .no, .no]) (o := .ret (.sh (.str (nm p')))) rfl ?_ rfl⟩
  refine seq_n (set_eq (d := LET) rfl) ?_
  refine seq_n (set_eq (d := .str (nm [c])) (bin_eq rfl (bin_eq (x := .int n) (app_eq (cons_eq rfl rfl) rfl) rfl (mod_int n 26 (by decide))) e1)) ?_
  refine seq_n (set_eq (d := .int (n / 26)) (bin_eq rfl rfl (fdiv_int n 26 (by decide) (by decide)))) ?_
  exact seq_n (for_eq (appO_eq (cons_eq rfl rfl) (rng1_nat 11 (by decide))) i3) (ret_eq rfl)
end K47

set_option maxRecDepth 100000
set_option maxHeartbeats 1000000
namespace K47
open PySem PL
/-! ## numbers in words -/
def allD (cs : List Nat) : Bool := cs.all dgt
def canon (cs : List Nat) : Bool := match cs with | [] => false | [_] => true | c :: _ :: _ => c != 48
def vl (cs : List Nat) : Nat := NumText.digitsVal cs
def goodNum (high : Nat) (cs : List Nat) : Bool := allD cs && canon cs && decide (vl cs ≤ high)
theorem allD_mem {cs : List Nat} (h : allD cs = true) : NumText.AllDigits cs := fun c hc => by
  have := List.all_eq_true.mp h c hc
  unfold dgt at this
  simp only [Bool.and_eq_true, decide_eq_true_eq] at this
  exact this
theorem numL_head : ∀ n : Nat, 10 ≤ n → ∃ c r, TL.numL n = c :: r ∧ c ≠ 48 ∧ r ≠ [] := by
  intro n
  induction n using Nat.strongRecOn with
  | _ n ih =>
    intro h
    rw [TL.numL_step h]
    by_cases h2 : n / 10 < 10
    · rw [TL.numL_lt h2]
      exact ⟨48 + n / 10, [48 + n % 10], rfl, by omega, by simp⟩
    · obtain ⟨c, r, e, hc, hr⟩ := ih (n / 10) (by omega) (by omega)
      exact ⟨c, r ++ [48 + n % 10], by rw [e]; rfl, hc, by simp⟩
theorem numL_canon (n : Nat) : canon (TL.numL n) = true := by
  by_cases h : n < 10
  · rw [TL.numL_lt h]; rfl
  · obtain ⟨c, r, e, hc, hr⟩ := numL_head n (by omega)
    rw [e]
    cases r with
    | nil => exact absurd rfl hr
    | cons d r => show (c != 48) = true; simpa using hc
theorem numL_allD (n : Nat) : allD (TL.numL n) = true := List.all_eq_true.mpr fun c hc => by
  have := TL.numL_digits n c hc
  unfold dgt
  simp only [Bool.and_eq_true, decide_eq_true_eq]
  exact this
theorem vl_snoc (ds : List Nat) (d : Nat) : vl (ds ++ [d]) = 10 * vl ds + (d - 48) := by
  unfold vl
  have := NumText.digitsVal_snoc ds d
  omega
theorem canon_init {ds : List Nat} {d : Nat} (hd : ds ≠ []) (h : canon (ds ++ [d]) = true) : canon ds = true ∧ ∃ c r, ds = c :: r ∧ c ≠ 48 := by
  cases ds with
  | nil => exact absurd rfl hd
  | cons c r =>
    have hc : c ≠ 48 := by
      cases r with
      | nil => have : (c != 48) = true := h; simpa using this
      | cons e r => have : (c != 48) = true := h; simpa using this
    refine ⟨?_, c, r, rfl, hc⟩
    cases r with
    | nil => rfl
    | cons e r => show (c != 48) = true; simpa using hc
theorem numL_back : ∀ (n : Nat) (cs : List Nat), cs.length = n → allD cs = true → canon cs = true → TL.numL (vl cs) = cs := by
  intro n
  induction n with
  | zero =>
    intro cs hl _ hc
    rw [List.length_eq_zero_iff.mp hl] at hc
    cases hc
  | succ n ih =>
    intro cs hl ha hc
    rcases List.eq_nil_or_concat cs with e | ⟨ds, d, e⟩
    · rw [e] at hl; cases hl
    · rw [List.concat_eq_append] at e
      subst e
      have hal := allD_mem ha
      have hd := hal d (by simp)
      have had : allD ds = true := List.all_eq_true.mpr fun x hx => List.all_eq_true.mp ha x (List.mem_append_left _ hx)
      rw [vl_snoc]
      by_cases h0 : ds = []
      · subst h0
        have : vl [] = 0 := rfl
        rw [this, TL.numL_lt (by omega)]
        show [48 + (10 * 0 + (d - 48))] = [d]
        congr 1
        omega
      · obtain ⟨hc2, c, r, e, hne⟩ := canon_init h0 hc
        have hcr := hal c (by rw [e]; simp)
        have hp : 0 < vl ds := by
          rw [e]
          exact NumText.digitsVal_pos (by omega)
        rw [TL.numL_step (by omega)]
        have e1 : (10 * vl ds + (d - 48)) / 10 = vl ds := by omega
        have e2 : 48 + (10 * vl ds + (d - 48)) % 10 = d := by omega
        rw [e1, e2, ih ds (by simpa using hl) had hc2]
theorem numL_iff {cs : List Nat} (ha : allD cs = true) : TL.numL (vl cs) = cs ↔ canon cs = true :=
  ⟨fun e => by rw [← e]; exact numL_canon _, numL_back _ cs rfl ha⟩
theorem int_word {cs : List Nat} (ha : allD cs = true) (hne : cs ≠ []) (hl : cs.length ≤ 640) : intL [.str (nm cs)] = .ok (.int ((vl cs : Nat) : Int)) := by
  have e : PySem.intText? (nm cs) = some ((vl cs : Nat) : Int) := by
    have h1 : (nm cs).cps.toList = cs := by simp [nm]
    have h2 := PySem.intText_digits (x := nm cs) (by rw [h1]; exact allD_mem ha) (by rw [h1]; exact hne) (by rw [nm_length]; omega)
    rw [h1] at h2
    exact h2
  show (match PySem.intText? (nm cs) with | some n => gd ((nm cs).length ≤ 640) (Res.ok (D.int n)) | none => .stuck) = _
  rw [e]
  exact gd_pos (by rw [nm_length]; exact hl)
theorem str_num (n : Nat) (h : n < 2 ^ 200) : strL [.int ((n : Nat) : Int)] = .ok (.str (nm (TL.numL n))) := by
  have h2 : (((n : Nat) : Int)).natAbs < 2 ^ 200 := by rw [Int.natAbs_natCast]; exact h
  have hlog : (((n : Nat) : Int)).natAbs.log2 < 1920 := Nat.lt_trans (PySem.Flt.log2_lt_of (k := 200) (by decide) h2) (by decide)
  show gd ((((n : Nat) : Int)).natAbs.log2 < 1920) (Res.ok (D.str (Str.ofString (toString ((n : Nat) : Int))))) = _
  rw [gd_pos hlog]
  have : Str.ofString (toString ((n : Nat) : Int)) = nm (TL.numL n) := TL.ext_tl (by rw [TL.tl_num]; simp [nm, TL.tl])
  rw [this]
theorem vl_lt : ∀ (n : Nat) (cs : List Nat), cs.length = n → allD cs = true → vl cs < 10 ^ n := by
  intro n
  induction n with
  | zero => intro cs hl _; rw [List.length_eq_zero_iff.mp hl]; decide
  | succ n ih =>
    intro cs hl ha
    rcases List.eq_nil_or_concat cs with e | ⟨ds, d, e⟩
    · rw [e] at hl; cases hl
    · rw [List.concat_eq_append] at e
      subst e
      have hd := allD_mem ha d (by simp)
      have := ih ds (by simpa using hl) (List.all_eq_true.mpr fun x hx => List.all_eq_true.mp ha x (List.mem_append_left _ hx))
      rw [vl_snoc, Nat.pow_succ]
      omega
end K47

set_option maxRecDepth 100000
set_option maxHeartbeats 1000000
namespace K47
open PySem PL
/-! ## words -/
def asc (cs : List Nat) : Bool := cs.all fun c => decide (c < 128)
def wOk (cs : List Nat) : Prop := asc cs = true ∧ cs.length ≤ 40
theorem asc_ok {cs : List Nat} (h : asc cs = true) : PyData.strOk (nm cs) = true := by
  unfold PyData.strOk nm
  simp only [List.all_toArray, List.all_eq_true, decide_eq_true_eq]
  intro c hc
  have := List.all_eq_true.mp h c hc
  simp only [decide_eq_true_eq] at this
  omega
theorem nm_inj {a b : List Nat} : nm a = nm b ↔ a = b := ⟨fun h => by
  have := congrArg (fun x : Str => x.cps.toList) h
  simpa [nm] using this, fun h => by rw [h]⟩
theorem eq_nm {a b : List Nat} (h : asc a = true) (h2 : asc b = true) : eqD (.str (nm a)) (.str (nm b)) = .ok (.bl (decide (a = b))) := by
  rw [eq_str (asc_ok h) (asc_ok h2)]
  have : decide (nm a = nm b) = decide (a = b) := by
    rw [decide_eq_decide]; exact nm_inj
  rw [this]
theorem ne_nm {a b : List Nat} (h : asc a = true) (h2 : asc b = true) : neD (.str (nm a)) (.str (nm b)) = .ok (.bl (!decide (a = b))) := ne_of_eqD (eq_nm h h2)
theorem len_nm (cs : List Nat) (h : cs.length ≤ 10000000) : lenL [.str (nm cs)] = .ok (.int (cs.length : Nat)) := by
  show gd ((nm cs).length ≤ sizeLine) (Res.ok (D.int ((nm cs).length : Nat))) = _
  rw [nm_length, gd_pos (sz _ (by omega))]
theorem signs_nm (cs : List Nat) : signs (nm cs) = cs.map fun c => .str ⟨#[c]⟩ := by
  have hx : (nm cs).cps.toList = cs := by simp [nm]
  unfold signs; rw [hx]
theorem numL_asc (n : Nat) : asc (TL.numL n) = true := List.all_eq_true.mpr fun c hc => by
  have := TL.numL_digits n c hc
  simp only [decide_eq_true_eq]; omega
theorem dig_loop {a0 a1 : Sl} : ∀ (cs : List Nat) (o : Sl), ∃ o', forL (gN 2) B1__law_number (cs.map fun c => .str ⟨#[c]⟩) [a0, a1, o] = if allD cs = true then .next [a0, a1, o'] else .ret (.sh (.bl false))
  | [], o => ⟨o, rfl⟩
  | c :: cs, o => by
    obtain ⟨o', ih⟩ := dig_loop (a0 := a0) (a1 := a1) cs (.sh (.str ⟨#[c]⟩))
    refine ⟨o', ?_⟩
    rw [List.map_cons, for_cons]
    show lpO _ (B1__law_number [a0, a1, .sh (.str ⟨#[c]⟩)]) = _
    have ht : tst bOf (PL.bin notInD (eVar 2) (eC (.str "0123456789"))) [a0, a1, .sh (.str ⟨#[c]⟩)] = .ok (!dgt c) := tst_eq (bin_eq rfl rfl (notin_digits c)) rfl
    unfold allD
    rw [List.all_cons]
    cases hd : dgt c with
    | true =>
      rw [hd] at ht
      have hb : B1__law_number [a0, a1, .sh (.str ⟨#[c]⟩)] = .next [a0, a1, .sh (.str ⟨#[c]⟩)] := if_eq ht rfl
      rw [hb, lp_next, Bool.true_and]
      exact ih
    | false =>
      rw [hd] at ht
      have hb : B1__law_number [a0, a1, .sh (.str ⟨#[c]⟩)] = .ret (.sh (.bl false)) := if_eq ht rfl
      rw [hb, lp_ret, Bool.false_and]
      rfl
theorem law_number (cs : List Nat) (high : Nat) (h : wOk cs) (hh : high ≤ 1000000) : m__law_number [.str (nm cs), .int (high : Nat)] = bv (goodNum high cs) := by
  obtain ⟨o', hf⟩ := dig_loop (a0 := .sh (.str (nm cs))) (a1 := .sh (.int (high : Nat))) cs .no
  have hl := h.2
  cases ha : allD cs with
  | false =>
    rw [ha, if_neg (by decide)] at hf
    have : goodNum high cs = false := by unfold goodNum; rw [ha]; rfl
    rw [this]
    exact run_of (b := b__law_number) (env := [.sh (.str (nm cs)), .sh (.int (high : Nat)), .no]) (o := .ret (.sh (.bl false))) rfl (seq_ret (for_eq (it_eq rfl (show seqOf (.str (nm cs)) = .ok _ from congrArg Res.ok (signs_nm cs))) hf)) rfl
  | true =>
    rw [ha, if_pos rfl] at hf
    refine run_of (b := b__law_number) (env := [.sh (.str (nm cs)), .sh (.int (high : Nat)), .no]) (o := .ret (.sh (.bl (goodNum high cs)))) rfl (seq_n (for_eq (it_eq rfl (show seqOf (.str (nm cs)) = .ok _ from congrArg Res.ok (signs_nm cs))) hf) (ret_eq ?_)) rfl
    have e0 : ("" : Str) = nm [] := by decide +kernel
    have c1 : PL.bin neD (eVar 0) (eC (.str "")) [.sh (.str (nm cs)), .sh (.int (high : Nat)), o'] = .ok (.bl (!decide (cs = []))) := bin_eq rfl rfl (by rw [e0]; exact ne_nm h.1 rfl)
    unfold andV
    rw [c1, bind_ok]
    show (if (!decide (cs = [])) = true then _ else _) = _
    cases cs with
    | nil => rfl
    | cons c r =>
      have iw := int_word ha (by simp) (by omega)
      have vb := vl_lt _ _ rfl ha
      have sn := str_num (vl (c :: r)) (Nat.lt_of_lt_of_le vb (Nat.le_trans (Nat.pow_le_pow_right (by decide) hl) (by decide +kernel)))
      have i0 : ∀ o, app intL (aCons (eVar 0) aNil) [.sh (.str (nm (c :: r))), .sh (.int (high : Nat)), o] = .ok (.int ((vl (c :: r) : Nat) : Int)) := fun o => app_eq (cons_eq rfl rfl) iw
      have c2 : PL.bin eqD (app strL (aCons (app intL (aCons (eVar 0) aNil)) aNil)) (eVar 0) [.sh (.str (nm (c :: r))), .sh (.int (high : Nat)), o'] = .ok (.bl (canon (c :: r))) := by
        have : decide (TL.numL (vl (c :: r)) = c :: r) = canon (c :: r) := by
          cases hc : canon (c :: r)
          · exact decide_eq_false fun z => by rw [numL_iff ha, hc] at z; cases z
          · exact decide_eq_true ((numL_iff ha).mpr hc)
        rw [← this]
        exact bin_eq (app_eq (cons_eq (i0 _) rfl) sn) rfl (eq_nm (numL_asc _) h.1)
      have c3 : PL.bin leD (app intL (aCons (eVar 0) aNil)) (eVar 1) [.sh (.str (nm (c :: r))), .sh (.int (high : Nat)), o'] = .ok (.bl (decide (vl (c :: r) ≤ high))) := by
        refine bin_eq (i0 _) rfl ?_
        show Res.ok (D.bl (decide (((vl (c :: r) : Nat) : Int) ≤ ((high : Nat) : Int)))) = _
        have : decide (((vl (c :: r) : Nat) : Int) ≤ ((high : Nat) : Int)) = decide (vl (c :: r) ≤ high) := by rw [decide_eq_decide]; omega
        rw [this]
      rw [if_pos (by simp)]
      show (PL.bin eqD _ _ _).bind _ = _
      rw [c2, bind_ok]
      show (if canon (c :: r) = true then _ else _) = _
      unfold goodNum
      rw [ha]
      cases hc : canon (c :: r)
      · rfl
      · rw [if_pos rfl, c3]; rfl
end K47

set_option maxRecDepth 100000
set_option maxHeartbeats 1000000
namespace K47
open PySem PL
theorem wr_loop {a0 a1 a2 : Sl} : ∀ (cs : List Nat) (o : Sl), ∃ o', forL (gN 3) B1_is_written (cs.map fun c => .str ⟨#[c]⟩) [a0, a1, a2, o] = if allD cs = true then .next [a0, a1, a2, o'] else .ret (.sh (.bl false))
  | [], o => ⟨o, rfl⟩
  | c :: cs, o => by
    obtain ⟨o', ih⟩ := wr_loop (a0 := a0) (a1 := a1) (a2 := a2) cs (.sh (.str ⟨#[c]⟩))
    refine ⟨o', ?_⟩
    rw [List.map_cons, for_cons]
    show lpO _ (B1_is_written [a0, a1, a2, .sh (.str ⟨#[c]⟩)]) = _
    have ht : tst bOf (PL.bin notInD (eVar 3) (eC (.str "0123456789"))) [a0, a1, a2, .sh (.str ⟨#[c]⟩)] = .ok (!dgt c) := tst_eq (bin_eq rfl rfl (notin_digits c)) rfl
    unfold allD
    rw [List.all_cons]
    cases hd : dgt c with
    | true =>
      rw [hd] at ht
      have hb : B1_is_written [a0, a1, a2, .sh (.str ⟨#[c]⟩)] = .next [a0, a1, a2, .sh (.str ⟨#[c]⟩)] := if_eq ht rfl
      rw [hb, lp_next, Bool.true_and]
      exact ih
    | false =>
      rw [hd] at ht
      have hb : B1_is_written [a0, a1, a2, .sh (.str ⟨#[c]⟩)] = .ret (.sh (.bl false)) := if_eq ht rfl
      rw [hb, lp_ret, Bool.false_and]
      rfl
theorem good_len {cs : List Nat} {high : Nat} (hh : high ≤ 1000000) (h : goodNum high cs = true) : cs.length ≤ 7 := by
  unfold goodNum at h
  simp only [Bool.and_eq_true, decide_eq_true_eq] at h
  obtain ⟨⟨ha, hc⟩, hv⟩ := h
  have := (numL_iff ha).mpr hc
  rw [← this]
  exact TL.numL_len (by decide) (by omega)
theorem or_eq {f g : En → Res Bool} {ρ : En} {x y : Bool} (h : f ρ = .ok x) (h2 : g ρ = .ok y) : orB f g ρ = .ok (x || y) := by
  unfold orB; rw [h, bind_ok]; cases x
  · rw [if_neg (by decide), h2, Bool.false_or]
  · rfl
theorem and_eq {f g : En → Res Bool} {ρ : En} {x y : Bool} (h : f ρ = .ok x) (h2 : x = true → g ρ = .ok y) : andB f g ρ = .ok (x && y) := by
  unfold andB; rw [h, bind_ok]; cases x
  · rfl
  · rw [if_pos rfl, h2 rfl, Bool.true_and]
theorem lit_zero : ("0" : Str) = nm [48] := by decide +kernel
theorem is_written (cs : List Nat) (high : Nat) (h : wOk cs) (hh : high ≤ 1000000) : m_is_written [.str (nm cs), .int 0, .int (high : Nat)] = bv (goodNum high cs) := by
  have hl := h.2
  let W : Sl := .sh (.str (nm cs))
  let L0 : Sl := .sh (.int 0)
  let HH : Sl := .sh (.int (high : Nat))
  have e0 : ("" : Str) = nm [] := by decide +kernel
  have t1 : orB (tst bOf (PL.bin eqD (eVar 0) (eC (.str "")))) (tst bOf (PL.bin gtD (app lenL (aCons (eVar 0) aNil)) (eC (.int 9)))) [W, L0, HH, .no] = .ok (decide (cs = []) || decide ((9 : Int) < (cs.length : Nat))) :=
    or_eq (tst_eq (bin_eq rfl rfl (by rw [e0]; exact eq_nm h.1 rfl)) rfl) (tst_eq (bin_eq (app_eq (cons_eq rfl rfl) (len_nm cs (by omega))) rfl rfl) rfl)
  by_cases hb : (decide (cs = []) || decide ((9 : Int) < (cs.length : Nat))) = true
  · have hf : goodNum high cs = false := by
      cases hg : goodNum high cs with
      | false => rfl
      | true =>
        exfalso
        have := good_len hh hg
        simp only [Bool.or_eq_true, decide_eq_true_eq] at hb
        rcases hb with e | e
        · subst e
          unfold goodNum canon at hg
          simp at hg
        · omega
    rw [hf]
    rw [hb] at t1
    exact run_of (b := b_is_written) (env := [W, L0, HH, .no]) (o := .ret (.sh (.bl false))) rfl (seq_ret (if_eq t1 (ret_eq rfl))) rfl
  · have hb' : (decide (cs = []) || decide ((9 : Int) < (cs.length : Nat))) = false := by simpa using hb
    rw [hb'] at t1
    simp only [Bool.or_eq_false_iff, decide_eq_false_iff_not] at hb'
    obtain ⟨hne, h9⟩ := hb'
    obtain ⟨o', hf⟩ := wr_loop (a0 := W) (a1 := L0) (a2 := HH) cs .no
    have sq : itE (eVar 0) [W, L0, HH, .no] = .ok (cs.map fun c => .str ⟨#[c]⟩) := it_eq rfl (show seqOf (.str (nm cs)) = .ok _ from congrArg Res.ok (signs_nm cs))
    cases ha : allD cs with
    | false =>
      rw [ha, if_neg (by decide)] at hf
      have : goodNum high cs = false := by unfold goodNum; rw [ha]; rfl
      rw [this]
      exact run_of (b := b_is_written) (env := [W, L0, HH, .no]) (o := .ret (.sh (.bl false))) rfl (seq_n (if_eq t1 rfl) (seq_ret (for_eq sq hf))) rfl
    | true =>
      rw [ha, if_pos rfl] at hf
      obtain ⟨c, r, e⟩ : ∃ c r, cs = c :: r := by
        cases cs with
        | nil => exact absurd rfl hne
        | cons c r => exact ⟨c, r, rfl⟩
      have iw := int_word ha hne (by omega)
      have i0 : ixD (.str (nm cs)) (.int 0) = .ok (.str (nm [c])) := by
        have hx : (nm cs).cps.toList = cs := by simp [nm]
        show gd _ (match L2.atI (nm cs).cps.toList 0 with | some c => Res.ok (D.str ⟨#[c]⟩) | none => .stuck) = _
        rw [gd_pos (sz _ (by rw [nm_length]; omega)), hx, e, atI_0]
        rfl
      have ac : asc [c] = true := by
        have := List.all_eq_true.mp h.1 c (by rw [e]; simp)
        unfold asc
        rw [List.all_cons, this]; rfl
      have t2 : andB (tst bOf (PL.bin gtD (app lenL (aCons (eVar 0) aNil)) (eC (.int 1)))) (tst bOf (PL.bin eqD (PL.bin ixD (eVar 0) (eC (.int 0))) (eC (.str "0")))) [W, L0, HH, o'] = .ok (decide ((1 : Int) < (cs.length : Nat)) && decide ([c] = [48])) :=
        and_eq (tst_eq (bin_eq (app_eq (cons_eq rfl rfl) (len_nm cs (by omega))) rfl rfl) rfl) fun _ => tst_eq (bin_eq (bin_eq rfl rfl i0) rfl (by rw [lit_zero]; exact eq_nm ac rfl)) rfl
      have hcan : canon cs = !(decide ((1 : Int) < (cs.length : Nat)) && decide ([c] = [48])) := by
        rw [e]
        cases r with
        | nil => rfl
        | cons d r =>
          show (c != 48) = _
          have : decide ((1 : Int) < ((c :: d :: r).length : Nat)) = true := decide_eq_true (by simp only [List.length_cons]; omega)
          rw [this, Bool.true_and]
          by_cases h8 : c = 48
          · subst h8; rfl
          · have : ¬ [c] = [48] := fun z => h8 (by cases z; rfl)
            rw [decide_eq_false this]
            simpa using h8
      cases hz : (decide ((1 : Int) < (cs.length : Nat)) && decide ([c] = [48])) with
      | true =>
        rw [hz] at t2 hcan
        have : goodNum high cs = false := by unfold goodNum; rw [hcan, ha]; rfl
        rw [this]
        exact run_of (b := b_is_written) (env := [W, L0, HH, .no]) (o := .ret (.sh (.bl false))) rfl (seq_n (if_eq t1 rfl) (seq_n (for_eq sq hf) (seq_ret (if_eq t2 (ret_eq rfl))))) rfl
      | false =>
        rw [hz] at t2 hcan
        have hg : goodNum high cs = decide (vl cs ≤ high) := by unfold goodNum; rw [hcan, ha]; rfl
        rw [hg]
        refine run_of (b := b_is_written) (env := [W, L0, HH, .no]) (o := .ret (.sh (.bl (decide (vl cs ≤ high))))) rfl (seq_n (if_eq t1 rfl) (seq_n (for_eq sq hf) (seq_n (if_eq t2 rfl) (ret_eq ?_)))) rfl
        have ii : app intL (aCons (eVar 0) aNil) [W, L0, HH, o'] = .ok (.int ((vl cs : Nat) : Int)) := app_eq (cons_eq rfl rfl) iw
        have c1 : PL.bin leD (eVar 1) (app intL (aCons (eVar 0) aNil)) [W, L0, HH, o'] = .ok (.bl true) := bin_eq rfl ii (by
          show Res.ok (D.bl (decide ((0 : Int) ≤ ((vl cs : Nat) : Int)))) = _
          rw [decide_eq_true (by omega)])
        have c2 : PL.bin leD (app intL (aCons (eVar 0) aNil)) (eVar 2) [W, L0, HH, o'] = .ok (.bl (decide (vl cs ≤ high))) := bin_eq ii rfl (by
          show Res.ok (D.bl (decide (((vl cs : Nat) : Int) ≤ ((high : Nat) : Int)))) = _
          have : decide (((vl cs : Nat) : Int) ≤ ((high : Nat) : Int)) = decide (vl cs ≤ high) := by rw [decide_eq_decide]; omega
          rw [this])
        unfold andV
        rw [c1, bind_ok]
        exact c2
end K47

set_option maxRecDepth 100000
set_option maxHeartbeats 1000000
namespace K47
open PySem PL
/-! ## a line's words read -/
def WS (ws : List (List Nat)) : D := .lst (ws.map fun w => .str (nm w))
theorem ws_len (ws : List (List Nat)) : lenL [WS ws] = .ok (.int (ws.length : Nat)) := by
  unfold WS; rw [len_lst, List.length_map]
theorem ws_ix (ws : List (List Nat)) (k : Nat) (h : k < ws.length) : ixD (WS ws) (.int (k : Nat)) = .ok (.str (nm ws[k])) := by
  unfold WS; rw [ix_lst _ _ (by rw [List.length_map]; exact h), List.getElem_map]
theorem bt3 (a b c : D) : mkBT [a, b, c] = .ok (.badText a b c) := rfl
theorem raise_eq {mk : List D → Res Exc} {fs : En → Res (List D)} {ρ : En} {ds : List D} {e : Exc} (h : fs ρ = .ok ds) (h2 : mk ds = .ok e) : sRaise mk fs ρ = .exc e ρ := by unfold sRaise; rw [h, ofR_ok, h2, ofR_ok]
theorem word_at_ok (ws : List (List Nat)) (p : Nat) (line : D) (h0 : 0 < p) (h : p ≤ ws.length) : m_word_at [WS ws, .int (p : Nat), line] = .ok (.sh (.str (nm (ws[p - 1]'(by omega))))) := by
  have ht : tst bOf (PL.bin gtD (eVar 1) (app lenL (aCons (eVar 0) aNil))) [.sh (WS ws), .sh (.int (p : Nat)), .sh line] = .ok (decide (((ws.length : Nat) : Int) < (p : Nat))) := tst_eq (bin_eq rfl (app_eq (cons_eq rfl rfl) (ws_len ws)) rfl) rfl
  rw [decide_eq_false (by omega)] at ht
  refine run_of (b := b_word_at) (env := [.sh (WS ws), .sh (.int (p : Nat)), .sh line]) (o := .ret (.sh (.str (nm (ws[p - 1]'(by omega)))))) rfl (seq_n (if_eq ht rfl) (ret_eq ?_)) rfl
  refine bin_eq (y := .int ((p - 1 : Nat) : Int)) rfl (bin_eq rfl rfl ?_) (ws_ix ws (p - 1) (by omega))
  show Res.ok (D.int ((p : Int) - 1)) = _
  congr 2; omega
theorem word_at_no (ws : List (List Nat)) (p : Nat) (line : D) (h : ws.length < p) : m_word_at [WS ws, .int (p : Nat), line] = .exc (.badText line (.int (p : Nat)) (.str "missing")) := by
  have ht : tst bOf (PL.bin gtD (eVar 1) (app lenL (aCons (eVar 0) aNil))) [.sh (WS ws), .sh (.int (p : Nat)), .sh line] = .ok (decide (((ws.length : Nat) : Int) < (p : Nat))) := tst_eq (bin_eq rfl (app_eq (cons_eq rfl rfl) (ws_len ws)) rfl) rfl
  rw [decide_eq_true (by omega)] at ht
  exact run_of (b := b_word_at) (env := [.sh (WS ws), .sh (.int (p : Nat)), .sh line]) (o := .exc (.badText line (.int (p : Nat)) (.str "missing")) [.sh (WS ws), .sh (.int (p : Nat)), .sh line]) rfl (seq_exc (if_eq ht (raise_eq (cons_eq rfl (cons_eq rfl (cons_eq rfl rfl))) rfl))) rfl
theorem set_exc {i : Nat} {f : En → Res D} {ρ : En} {e : Exc} (h : f ρ = .exc e) : sSet i f ρ = .exc e ρ := by unfold sSet; rw [h, ofR_exc]
theorem number_no (ws : List (List Nat)) (p : Nat) (line high what : D) (h : ws.length < p) : m_number_at [WS ws, .int (p : Nat), line, high, what] = .exc (.badText line (.int (p : Nat)) (.str "missing")) :=
  run_of (b := b_number_at) (env := [.sh (WS ws), .sh (.int (p : Nat)), .sh line, .sh high, .sh what, .no]) (o := .exc (.badText line (.int (p : Nat)) (.str "missing")) [.sh (WS ws), .sh (.int (p : Nat)), .sh line, .sh high, .sh what, .no]) rfl
    (seq_exc (set_exc (call_exc (cons_eq rfl (cons_eq rfl (cons_eq rfl rfl))) (word_at_no ws p line h)))) rfl
theorem number_ok (ws : List (List Nat)) (p : Nat) (line what : D) (high : Nat) (hh : high ≤ 1000000) (hw : ∀ w ∈ ws, wOk w) (h0 : 0 < p) (h : p ≤ ws.length) : m_number_at [WS ws, .int (p : Nat), line, .int (high : Nat), what] =
    if goodNum high (ws[p - 1]'(by omega)) = true then .ok (.sh (.int ((vl (ws[p - 1]'(by omega)) : Nat) : Int))) else .exc (.badText line (.int (p : Nat)) what) := by
  let w := ws[p - 1]'(by omega)
  have wk : wOk w := hw _ (List.getElem_mem _)
  have iw := is_written w high wk hh
  let E : En := [.sh (WS ws), .sh (.int (p : Nat)), .sh line, .sh (.int (high : Nat)), .sh what, .sh (.str (nm w))]
  have s1 : sSet 5 (callE m_word_at (aCons (eVar 0) (aCons (eVar 1) (aCons (eVar 2) aNil)))) [.sh (WS ws), .sh (.int (p : Nat)), .sh line, .sh (.int (high : Nat)), .sh what, .no] = .next E := set_eq (call_sh (cons_eq rfl (cons_eq rfl (cons_eq rfl rfl))) (word_at_ok ws p line h0 h))
  have ht : notB (tst truD (callE m_is_written (aCons (eVar 5) (aCons (eC (.int 0)) (aCons (eVar 3) aNil))))) E = .ok (!goodNum high w) := not_eq (tst_eq (call_sh (cons_eq rfl (cons_eq rfl (cons_eq rfl rfl))) iw) rfl)
  show _ = if goodNum high w = true then _ else _
  cases hg : goodNum high w with
  | true =>
    rw [hg] at ht
    rw [if_pos rfl]
    have hg2 : allD w = true ∧ w ≠ [] := by
      unfold goodNum at hg
      simp only [Bool.and_eq_true] at hg
      refine ⟨hg.1.1, fun z => ?_⟩
      rw [z] at hg
      exact absurd hg.1.2 (by decide)
    exact run_of (b := b_number_at) (env := [.sh (WS ws), .sh (.int (p : Nat)), .sh line, .sh (.int (high : Nat)), .sh what, .no]) (o := .ret (.sh (.int ((vl w : Nat) : Int)))) rfl (seq_n s1 (seq_n (if_eq ht rfl) (ret_eq (app_eq (cons_eq rfl rfl) (int_word hg2.1 hg2.2 (by have := wk.2; omega)))))) rfl
  | false =>
    rw [hg] at ht
    rw [if_neg (by decide)]
    exact run_of (b := b_number_at) (env := [.sh (WS ws), .sh (.int (p : Nat)), .sh line, .sh (.int (high : Nat)), .sh what, .no]) (o := .exc (.badText line (.int (p : Nat)) what) E) rfl (seq_n s1 (seq_exc (if_eq ht (raise_eq (cons_eq rfl (cons_eq rfl (cons_eq rfl rfl))) rfl)))) rfl
theorem name_no (ws : List (List Nat)) (p : Nat) (line what : D) (h : ws.length < p) : m_name_at [WS ws, .int (p : Nat), line, what] = .exc (.badText line (.int (p : Nat)) (.str "missing")) :=
  run_of (b := b_name_at) (env := [.sh (WS ws), .sh (.int (p : Nat)), .sh line, .sh what, .no]) (o := .exc (.badText line (.int (p : Nat)) (.str "missing")) [.sh (WS ws), .sh (.int (p : Nat)), .sh line, .sh what, .no]) rfl
    (seq_exc (set_exc (call_exc (cons_eq rfl (cons_eq rfl (cons_eq rfl rfl))) (word_at_no ws p line h)))) rfl
theorem is_name_w (cs : List Nat) (h : cs.length ≤ 40) : m_is_name [.str (nm cs)] = bv (nmOk cs) := by
  by_cases h2 : cs.length ≤ 20
  · exact is_name_str cs h2
  · have e : nmOk cs = false := by
      cases hn : nmOk cs with
      | false => rfl
      | true => have := nm_len hn; omega
    rw [e]
    have t1 : orB (notB (tst truD (isiD "str" (eVar 0)))) (orB (tst bOf (PL.bin ltD (app lenL (aCons (eVar 0) aNil)) (eC (.int 1)))) (tst bOf (PL.bin gtD (app lenL (aCons (eVar 0) aNil)) (eC (.int 12))))) [.sh (.str (nm cs)), .no] = .ok true := by
      have a := or_eq (f := tst bOf (PL.bin ltD (app lenL (aCons (eVar 0) aNil)) (eC (.int 1)))) (g := tst bOf (PL.bin gtD (app lenL (aCons (eVar 0) aNil)) (eC (.int 12)))) (ρ := [.sh (.str (nm cs)), .no]) (x := decide (((cs.length : Nat) : Int) < 1)) (y := decide ((12 : Int) < (cs.length : Nat))) (tst_eq (bin_eq (app_eq (cons_eq rfl rfl) (len_nm cs (by omega))) rfl rfl) rfl) (tst_eq (bin_eq (app_eq (cons_eq rfl rfl) (len_nm cs (by omega))) rfl rfl) rfl)
      have b := or_eq (f := notB (tst truD (isiD "str" (eVar 0)))) (ρ := [.sh (.str (nm cs)), .no]) (x := false) rfl a
      rw [b, decide_eq_true (show (12 : Int) < (cs.length : Nat) by omega), Bool.or_true, Bool.or_true]
    exact run_of (b := b_is_name) (env := [.sh (.str (nm cs)), .no]) (o := .ret (.sh (.bl false))) rfl (seq_ret (if_eq t1 (ret_eq rfl))) rfl
theorem name_ok (ws : List (List Nat)) (p : Nat) (line what : D) (hw : ∀ w ∈ ws, wOk w) (h0 : 0 < p) (h : p ≤ ws.length) : m_name_at [WS ws, .int (p : Nat), line, what] =
    if nmOk (ws[p - 1]'(by omega)) = true then .ok (.sh (.str (nm (ws[p - 1]'(by omega))))) else .exc (.badText line (.int (p : Nat)) what) := by
  let w := ws[p - 1]'(by omega)
  have wk : wOk w := hw _ (List.getElem_mem _)
  let E : En := [.sh (WS ws), .sh (.int (p : Nat)), .sh line, .sh what, .sh (.str (nm w))]
  have s1 : sSet 4 (callE m_word_at (aCons (eVar 0) (aCons (eVar 1) (aCons (eVar 2) aNil)))) [.sh (WS ws), .sh (.int (p : Nat)), .sh line, .sh what, .no] = .next E := set_eq (call_sh (cons_eq rfl (cons_eq rfl (cons_eq rfl rfl))) (word_at_ok ws p line h0 h))
  have ht : notB (tst truD (callE m_is_name (aCons (eVar 4) aNil))) E = .ok (!nmOk w) := not_eq (tst_eq (call_sh (cons_eq rfl rfl) (is_name_w w wk.2)) rfl)
  show _ = if nmOk w = true then _ else _
  cases hg : nmOk w with
  | true =>
    rw [hg] at ht
    rw [if_pos rfl]
    exact run_of (b := b_name_at) (env := [.sh (WS ws), .sh (.int (p : Nat)), .sh line, .sh what, .no]) (o := .ret (.sh (.str (nm w)))) rfl (seq_n s1 (seq_n (if_eq ht rfl) (ret_eq rfl))) rfl
  | false =>
    rw [hg] at ht
    rw [if_neg (by decide)]
    exact run_of (b := b_name_at) (env := [.sh (WS ws), .sh (.int (p : Nat)), .sh line, .sh what, .no]) (o := .exc (.badText line (.int (p : Nat)) what) E) rfl (seq_n s1 (seq_exc (if_eq ht (raise_eq (cons_eq rfl (cons_eq rfl (cons_eq rfl rfl))) rfl)))) rfl
end K47

set_option maxRecDepth 100000
set_option maxHeartbeats 1000000
namespace K47
open PySem PL
def isWay (d : List Nat) : Bool := decide (d = [105, 110]) || decide (d = [111, 117, 116])
abbrev Rd := Sum (Nat × Str) (Nat × Nat × List Nat × List Nat)
def rdLine : List (List Nat) → Rd
  | [] => .inl (1, "missing")
  | a :: r1 => if goodNum 1000000 a = true then (match r1 with
    | [] => .inl (2, "missing")
    | b :: r2 => if goodNum 29 b = true then (match r2 with
      | [] => .inl (3, "missing")
      | c :: r3 => if nmOk c = true then (match r3 with
        | [] => .inl (4, "missing")
        | d :: r4 => if isWay d = true then (match r4 with
          | [] => .inr (vl a, vl b, c, d)
          | _ :: _ => .inl (5, "extra")) else .inl (4, "way")) else .inl (3, "person")) else .inl (2, "box")) else .inl (1, "time")
def rowD (x : Nat × Nat × List Nat × List Nat) : D := .tup [.int ((x.1 : Nat) : Int), .int ((x.2.1 : Nat) : Int), .str (nm x.2.2.1), .str (nm x.2.2.2)]
def atRes (line : D) : Rd → Res RV
  | .inl (p, s) => .exc (.badText line (.int ((p : Nat) : Int)) (.str s))
  | .inr x => .ok (.sh (rowD x))
theorem lit_in : ("in" : Str) = nm [105, 110] := by decide +kernel
theorem lit_out : ("out" : Str) = nm [111, 117, 116] := by decide +kernel
theorem notin_ways (d : List Nat) : notInD (.str (nm d)) (.tup [.str "in", .str "out"]) = .ok (.bl (!isWay d)) := by
  show gd _ (Res.ok (D.bl (!([D.str "in", D.str "out"].any fun x => eqv x (.str (nm d)))))) = _
  rw [gd_pos ⟨rfl, rfl⟩]
  have e : ∀ w : List Nat, eqv (.str (nm w)) (.str (nm d)) = decide (d = w) := fun w => by
    show (nm w == nm d) = _
    rw [Bool.beq_eq_decide_eq, decide_eq_decide, nm_inj]
    exact ⟨fun z => z.symm, fun z => z.symm⟩
  rw [lit_in, lit_out]
  show Res.ok (D.bl (!(eqv (.str (nm [105, 110])) (.str (nm d)) || (eqv (.str (nm [111, 117, 116])) (.str (nm d)) || false)))) = _
  rw [e, e, Bool.or_false]
  rfl
theorem opening_at (ws : List (List Nat)) (line : D) (hw : ∀ w ∈ ws, wOk w) : m_opening_at [WS ws, line] = atRes line (rdLine ws) := by
  have E : ∀ (t b p w : Sl), ([.sh (WS ws), .sh line, t, b, p, w] : En) = [.sh (WS ws), .sh line, t, b, p, w] := fun _ _ _ _ => rfl
  let e0 : En := [.sh (WS ws), .sh line, .no, .no, .no, .no]
  have fin : ∀ (o : Out) (r : Res RV), b_opening_at e0 = o → runO o = r → m_opening_at [WS ws, line] = r := fun o r h1 h2 => run_of (b := b_opening_at) (env := e0) rfl h1 h2
  have n1 := fun (h : 1 ≤ ws.length) => number_ok ws 1 line (.str "time") 1000000 (by decide) hw (by decide) h
  have n2 := fun (h : 2 ≤ ws.length) => number_ok ws 2 line (.str "box") 29 (by decide) hw (by decide) h
  have n3 := fun (h : 3 ≤ ws.length) => name_ok ws 3 line (.str "person") hw (by decide) h
  have n4 := fun (h : 4 ≤ ws.length) => word_at_ok ws 4 line (by decide) h
  cases ws with
  | nil => exact fin _ _ (seq_exc (set_exc (call_exc (cons_eq rfl (cons_eq rfl (cons_eq rfl (cons_eq rfl (cons_eq rfl rfl))))) (number_no [] 1 line _ _ (by decide))))) rfl
  | cons a r1 =>
    have m1 : m_number_at [WS (a :: r1), .int ((1 : Nat) : Int), line, .int ((1000000 : Nat) : Int), .str "time"] = if goodNum 1000000 a = true then .ok (.sh (.int ((vl a : Nat) : Int))) else .exc (.badText line (.int ((1 : Nat) : Int)) (.str "time")) := n1 (by simp)
    by_cases g1 : goodNum 1000000 a = true
    · simp only [g1, if_true] at m1
      simp only [rdLine, g1, if_true]
      have s1 : sSet 2 (callE m_number_at (aCons (eVar 0) (aCons (eC (.int 1)) (aCons (eVar 1) (aCons (eC (.int 1000000)) (aCons (eC (.str "time")) aNil)))))) e0 = .next [.sh (WS (a :: r1)), .sh line, .sh (.int ((vl a : Nat) : Int)), .no, .no, .no] := set_eq (call_sh (cons_eq rfl (cons_eq rfl (cons_eq rfl (cons_eq rfl (cons_eq rfl rfl))))) m1)
      cases r1 with
      | nil => exact fin _ _ (seq_n s1 (seq_exc (set_exc (call_exc (cons_eq rfl (cons_eq rfl (cons_eq rfl (cons_eq rfl (cons_eq rfl rfl))))) (number_no [a] 2 line _ _ (by simp)))))) rfl
      | cons b r2 =>
        have m2 : m_number_at [WS (a :: b :: r2), .int ((2 : Nat) : Int), line, .int ((29 : Nat) : Int), .str "box"] = if goodNum 29 b = true then .ok (.sh (.int ((vl b : Nat) : Int))) else .exc (.badText line (.int ((2 : Nat) : Int)) (.str "box")) := n2 (by simp)
        by_cases g2 : goodNum 29 b = true
        · simp only [g2, if_true] at m2 ⊢
          have s2 : sSet 3 (callE m_number_at (aCons (eVar 0) (aCons (eC (.int 2)) (aCons (eVar 1) (aCons (eC (.int 29)) (aCons (eC (.str "box")) aNil)))))) [.sh (WS (a :: b :: r2)), .sh line, .sh (.int ((vl a : Nat) : Int)), .no, .no, .no] = .next [.sh (WS (a :: b :: r2)), .sh line, .sh (.int ((vl a : Nat) : Int)), .sh (.int ((vl b : Nat) : Int)), .no, .no] := set_eq (call_sh (cons_eq rfl (cons_eq rfl (cons_eq rfl (cons_eq rfl (cons_eq rfl rfl))))) m2)
          cases r2 with
          | nil => exact fin _ _ (seq_n s1 (seq_n s2 (seq_exc (set_exc (call_exc (cons_eq rfl (cons_eq rfl (cons_eq rfl (cons_eq rfl rfl)))) (name_no [a, b] 3 line _ (by simp))))))) rfl
          | cons c r3 =>
            have m3 : m_name_at [WS (a :: b :: c :: r3), .int ((3 : Nat) : Int), line, .str "person"] = if nmOk c = true then .ok (.sh (.str (nm c))) else .exc (.badText line (.int ((3 : Nat) : Int)) (.str "person")) := n3 (by simp)
            by_cases g3 : nmOk c = true
            · simp only [g3, if_true] at m3 ⊢
              have s3 : sSet 4 (callE m_name_at (aCons (eVar 0) (aCons (eC (.int 3)) (aCons (eVar 1) (aCons (eC (.str "person")) aNil))))) [.sh (WS (a :: b :: c :: r3)), .sh line, .sh (.int ((vl a : Nat) : Int)), .sh (.int ((vl b : Nat) : Int)), .no, .no] = .next [.sh (WS (a :: b :: c :: r3)), .sh line, .sh (.int ((vl a : Nat) : Int)), .sh (.int ((vl b : Nat) : Int)), .sh (.str (nm c)), .no] := set_eq (call_sh (cons_eq rfl (cons_eq rfl (cons_eq rfl (cons_eq rfl rfl)))) m3)
              cases r3 with
              | nil => exact fin _ _ (seq_n s1 (seq_n s2 (seq_n s3 (seq_exc (set_exc (call_exc (cons_eq rfl (cons_eq rfl (cons_eq rfl rfl))) (word_at_no [a, b, c] 4 line (by simp)))))))) rfl
              | cons d r4 =>
                have m4 : m_word_at [WS (a :: b :: c :: d :: r4), .int ((4 : Nat) : Int), line] = .ok (.sh (.str (nm d))) := n4 (by simp)
                have s4 : sSet 5 (callE m_word_at (aCons (eVar 0) (aCons (eC (.int 4)) (aCons (eVar 1) aNil)))) [.sh (WS (a :: b :: c :: d :: r4)), .sh line, .sh (.int ((vl a : Nat) : Int)), .sh (.int ((vl b : Nat) : Int)), .sh (.str (nm c)), .no] = .next [.sh (WS (a :: b :: c :: d :: r4)), .sh line, .sh (.int ((vl a : Nat) : Int)), .sh (.int ((vl b : Nat) : Int)), .sh (.str (nm c)), .sh (.str (nm d))] := set_eq (call_sh (cons_eq rfl (cons_eq rfl (cons_eq rfl rfl))) m4)
                have t5 : tst bOf (PL.bin notInD (eVar 5) (eC (.tup [.str "in", .str "out"]))) [.sh (WS (a :: b :: c :: d :: r4)), .sh line, .sh (.int ((vl a : Nat) : Int)), .sh (.int ((vl b : Nat) : Int)), .sh (.str (nm c)), .sh (.str (nm d))] = .ok (!isWay d) := tst_eq (bin_eq rfl rfl (notin_ways d)) rfl
                by_cases g4 : isWay d = true
                · simp only [g4, if_true]
                  rw [g4] at t5
                  have lw : lenL [WS (a :: b :: c :: d :: r4)] = .ok (.int (((a :: b :: c :: d :: r4).length : Nat) : Int)) := ws_len _
                  have tn : tst bOf (PL.bin gtD (app lenL (aCons (eVar 0) aNil)) (eVar 1)) [.sh (WS (a :: b :: c :: d :: r4)), .sh (.int 4), .sh line] = .ok (decide ((4 : Int) < ((a :: b :: c :: d :: r4).length : Nat))) := tst_eq (bin_eq (app_eq (cons_eq rfl rfl) lw) rfl rfl) rfl
                  cases r4 with
                  | nil =>
                    have ne : m_need_end [WS [a, b, c, d], .int 4, line] = .ok (.sh .non) := run_of (b := b_need_end) (env := [.sh (WS [a, b, c, d]), .sh (.int 4), .sh line]) (o := .next [.sh (WS [a, b, c, d]), .sh (.int 4), .sh line]) rfl (if_eq (b := false) tn rfl) rfl
                    exact fin _ _ (seq_n s1 (seq_n s2 (seq_n s3 (seq_n s4 (seq_n (if_eq t5 rfl) (seq_n (drop_eq (call_sh (cons_eq rfl (cons_eq rfl (cons_eq rfl rfl))) ne)) (ret_eq (app_eq (cons_eq rfl (cons_eq rfl (cons_eq rfl (cons_eq rfl rfl)))) (tup_ok _ (by simp))))))))) ) rfl
                  | cons x r5 =>
                    rw [decide_eq_true (by simp only [List.length_cons]; omega)] at tn
                    have ne : m_need_end [WS (a :: b :: c :: d :: x :: r5), .int 4, line] = .exc (.badText line (.int 5) (.str "extra")) := run_of (b := b_need_end) (env := [.sh (WS (a :: b :: c :: d :: x :: r5)), .sh (.int 4), .sh line]) (o := .exc (.badText line (.int 5) (.str "extra")) [.sh (WS (a :: b :: c :: d :: x :: r5)), .sh (.int 4), .sh line]) rfl (if_eq tn (raise_eq (cons_eq rfl (cons_eq (bin_eq rfl rfl rfl) (cons_eq rfl rfl))) rfl)) rfl
                    exact fin _ _ (seq_n s1 (seq_n s2 (seq_n s3 (seq_n s4 (seq_n (if_eq t5 rfl) (seq_exc (drop_exc (call_exc (cons_eq rfl (cons_eq rfl (cons_eq rfl rfl))) ne)))))))) rfl
                · have g4' : isWay d = false := by simpa using g4
                  simp only [g4', Bool.false_eq_true, if_false]
                  rw [g4'] at t5
                  exact fin _ _ (seq_n s1 (seq_n s2 (seq_n s3 (seq_n s4 (seq_exc (if_eq t5 (raise_eq (cons_eq rfl (cons_eq rfl (cons_eq rfl rfl))) rfl))))))) rfl
            · have g3' : nmOk c = false := by simpa using g3
              simp only [g3', Bool.false_eq_true, if_false] at m3 ⊢
              exact fin _ _ (seq_n s1 (seq_n s2 (seq_exc (set_exc (call_exc (cons_eq rfl (cons_eq rfl (cons_eq rfl (cons_eq rfl rfl)))) m3))))) rfl
        · have g2' : goodNum 29 b = false := by simpa using g2
          simp only [g2', Bool.false_eq_true, if_false] at m2 ⊢
          exact fin _ _ (seq_n s1 (seq_exc (set_exc (call_exc (cons_eq rfl (cons_eq rfl (cons_eq rfl (cons_eq rfl (cons_eq rfl rfl))))) m2)))) rfl
    · have g1' : goodNum 1000000 a = false := by simpa using g1
      simp only [g1', Bool.false_eq_true, if_false] at m1
      simp only [rdLine, g1', Bool.false_eq_true, if_false]
      exact fin _ _ (seq_exc (set_exc (call_exc (cons_eq rfl (cons_eq rfl (cons_eq rfl (cons_eq rfl (cons_eq rfl rfl))))) m1))) rfl
end K47

set_option maxRecDepth 100000
set_option maxHeartbeats 1000000
namespace K47
open PySem PL
/-! ## lines -/
theorem nm_tl (l : List Nat) : TL.tl (nm l) = l := by simp [nm, TL.tl]
theorem map_nm_tl : ∀ l : List (List Nat), (l.map nm).map TL.tl = l
  | [] => rfl
  | x :: l => by rw [List.map_cons, List.map_cons, nm_tl, map_nm_tl l]
theorem split_nm {a b : List Nat} (hb : b ≠ []) (hk : b.all (· < 256) = true) : Txt.split (nm a) (nm b) = (TL.spl b 0 [] a).map nm := by
  refine TL.map_tl_inj ?_
  rw [map_nm_tl]
  have h := TL.split_spl (nm a) (nm b) (by rw [nm_tl]; exact hb) (TL.kind_ok (by rw [← Array.all_toList]; simpa [nm] using hk))
  rw [nm_tl, nm_tl] at h
  exact h
theorem join_nm (a : List Nat) (ys : List (List Nat)) : Txt.join (nm a) (ys.map nm) = nm (TL.joinL a ys) := by
  refine TL.ext_tl ?_
  rw [TL.join_eq, TL.tl_join, map_nm_tl, nm_tl, nm_tl]
theorem join_spl {a b : List Nat} (hb : b ≠ []) (hk : b.all (· < 256) = true) : TL.joinL b (TL.spl b 0 [] a) = a := by
  have h := StrLaws.join_split (nm a) (nm b)
  rw [split_nm hb hk] at h
  have h2 := TL.tl_join (nm b) ((TL.spl b 0 [] a).map nm)
  rw [h, map_nm_tl, nm_tl, nm_tl] at h2
  exact h2.symm
theorem lit_sp : (" " : Str) = nm [32] := by decide +kernel
theorem lit_nl : ("\n" : Str) = nm [10] := by decide +kernel
def words (l : List Nat) : List (List Nat) := TL.spl [32] 0 [] l
def linesL (t : List Nat) : List (List Nat) := TL.spl [10] 0 [] t
def lOk (l : List Nat) : Prop := l.length ≤ 5000 ∧ ∀ w ∈ words l, wOk w
theorem strsD (ws : List (List Nat)) : (ws.map nm).map D.str = ws.map fun w => .str (nm w) := by rw [List.map_map]; rfl
theorem split_words {f : En → Res D} {ρ : En} {l : List Nat} (h : f ρ = .ok (.str (nm l))) (hl : l.length ≤ 1000000) : PL.own (strM splitO f (eC (.str " "))) ρ = .ok (WS (words l)) := by
  refine own_eq ?_
  unfold strM
  rw [h, bind_ok]
  show splitO (nm l) (.str " ") = _
  show gd _ (Res.ok ((Txt.split (nm l) " ").map D.str)) = _
  rw [gd_pos ⟨by decide +kernel, sz _ (by rw [nm_length]; omega)⟩, lit_sp, split_nm (by simp) (by decide), strsD]
  rfl
theorem split_lines {f : En → Res D} {ρ : En} {l : List Nat} (h : f ρ = .ok (.str (nm l))) (hl : l.length ≤ 1000000) : strM splitO f (eC (.str "\n")) ρ = .ok ((linesL l).map fun w => .str (nm w)) := by
  unfold strM
  rw [h, bind_ok]
  show gd _ (Res.ok ((Txt.split (nm l) "\n").map D.str)) = _
  rw [gd_pos ⟨by decide +kernel, sz _ (by rw [nm_length]; omega)⟩, lit_nl, split_nm (by simp) (by decide), strsD]
  rfl
abbrev RdA := Sum (Nat × Nat × Str) (List (Nat × Nat × List Nat × List Nat))
def rdAll : Nat → List (List Nat) → RdA
  | _, [] => .inr []
  | k, l :: ls => match rdLine (words l) with
    | .inl (p, s) => .inl (k + 1, p, s)
    | .inr x => (match rdAll (k + 1) ls with | .inl e => .inl e | .inr xs => .inr (x :: xs))
theorem aug_eq {i : Nat} {o : Int → Int → Int} {f : En → Res D} {ρ : En} {n m : Int} (h : ρ[i]? = some (.sh (.int n))) (hf : f ρ = .ok (.int m)) : sAug i o f ρ = .next (ρ.set i (.sh (.int (o n m)))) := by
  unfold sAug
  rw [h]
  simp only [hf, ofR_ok]
theorem app_exc {i : Nat} {f : En → Res D} {ρ : En} {xs : List D} {e : Exc} (h : owL ρ i = .ok xs) (hf : f ρ = .exc e) : sApp i f ρ = .exc e ρ := by
  unfold sApp
  rw [h, ofR_ok, hf, ofR_exc]
theorem parse_loop {T : Sl} : ∀ (ls : List (List Nat)) (k : Nat) (acc : List D) (o : Sl), (∀ l ∈ ls, lOk l) → acc.length + ls.length ≤ 1000 → ∃ ρ' o',
    forL (gN 3) B1_parse_history (ls.map fun w => .str (nm w)) [T, .ow (.lst acc), .sh (.int ((k : Nat) : Int)), o] = match rdAll k ls with
      | .inl (l, p, s) => .exc (.badText (.int ((l : Nat) : Int)) (.int ((p : Nat) : Int)) (.str s)) ρ'
      | .inr xs => .next [T, .ow (.lst (acc ++ xs.map rowD)), .sh (.int ((k + ls.length : Nat) : Int)), o']
  | [], k, acc, o, _, _ => ⟨[], o, by
    show Out.next _ = Out.next [T, .ow (.lst (acc ++ [])), .sh (.int ((k : Nat) : Int)), o]
    rw [List.append_nil]⟩
  | l :: ls, k, acc, o, h, hz => by
    simp only [List.length_cons] at hz
    have hl := h l List.mem_cons_self
    have oa := opening_at (words l) (.int ((k + 1 : Nat) : Int)) hl.2
    have s1 : sAug 2 (fun x y => x + y) (eC (.int 1)) [T, .ow (.lst acc), .sh (.int ((k : Nat) : Int)), .sh (.str (nm l))] = .next [T, .ow (.lst acc), .sh (.int ((k + 1 : Nat) : Int)), .sh (.str (nm l))] := by
      rw [aug_eq (n := (k : Nat)) (m := 1) rfl rfl]
      rfl
    have sw : PL.own (strM splitO (eVar 3) (eC (.str " "))) [T, .ow (.lst acc), .sh (.int ((k + 1 : Nat) : Int)), .sh (.str (nm l))] = .ok (WS (words l)) := split_words rfl (by have := hl.1; omega)
    rw [List.map_cons, for_cons]
    show ∃ ρ' o', lpO _ (B1_parse_history [T, .ow (.lst acc), .sh (.int ((k : Nat) : Int)), .sh (.str (nm l))]) = _
    unfold rdAll
    cases hr : rdLine (words l) with
    | inl ps =>
      obtain ⟨p, s⟩ := ps
      rw [hr] at oa
      have hb : B1_parse_history [T, .ow (.lst acc), .sh (.int ((k : Nat) : Int)), .sh (.str (nm l))] = .exc (.badText (.int ((k + 1 : Nat) : Int)) (.int ((p : Nat) : Int)) (.str s)) [T, .ow (.lst acc), .sh (.int ((k + 1 : Nat) : Int)), .sh (.str (nm l))] :=
        seq_n s1 (app_exc (xs := acc) rfl (call_exc (cons_eq sw (cons_eq rfl rfl)) oa))
      exact ⟨_, .no, by rw [hb, lp_exc]⟩
    | inr x =>
      rw [hr] at oa
      have hb : B1_parse_history [T, .ow (.lst acc), .sh (.int ((k : Nat) : Int)), .sh (.str (nm l))] = .next [T, .ow (.lst (acc ++ [rowD x])), .sh (.int ((k + 1 : Nat) : Int)), .sh (.str (nm l))] :=
        seq_n s1 (app_ok (xs := acc) rfl (call_sh (cons_eq sw (cons_eq rfl rfl)) oa) (by omega))
      obtain ⟨ρ', o', ih⟩ := parse_loop (T := T) ls (k + 1) (acc ++ [rowD x]) (.sh (.str (nm l))) (fun y hy => h y (List.mem_cons_of_mem _ hy)) (by simp only [List.length_append, List.length_cons, List.length_nil]; omega)
      refine ⟨ρ', o', ?_⟩
      rw [hb, lp_next, ih]
      cases rdAll (k + 1) ls with
      | inl e => rfl
      | inr xs =>
        simp only [List.map_cons, List.append_assoc, List.length_cons]
        have : k + 1 + ls.length = k + (ls.length + 1) := by omega
        rw [this]
        rfl
end K47

set_option maxRecDepth 100000
set_option maxHeartbeats 1000000
namespace K47
open PySem PL
/-! ## the law's own reading -/
abbrev LTS : D := .str "abcdefghijklmnopqrstuvwxyz"
theorem in_both (c : Nat) : inD (.str ⟨#[c]⟩) (.str ("abcdefghijklmnopqrstuvwxyz" ++ "0123456789" : Str)) = .ok (.bl (lett c || dgt c)) := by
  show Res.ok (D.bl (decide (c ∈ (("abcdefghijklmnopqrstuvwxyz" : Str) ++ ("0123456789" : Str)).cps.toList))) = _
  have e : (("abcdefghijklmnopqrstuvwxyz" : Str) ++ ("0123456789" : Str)).cps.toList = ("abcdefghijklmnopqrstuvwxyz" : Str).cps.toList ++ ("0123456789" : Str).cps.toList := TL.tl_append _ _
  rw [e]
  have : decide (c ∈ ("abcdefghijklmnopqrstuvwxyz" : Str).cps.toList ++ ("0123456789" : Str).cps.toList) = (decide (c ∈ ("abcdefghijklmnopqrstuvwxyz" : Str).cps.toList) || decide (c ∈ ("0123456789" : Str).cps.toList)) := by
    rw [Bool.eq_iff_iff]; simp only [decide_eq_true_eq, Bool.or_eq_true, List.mem_append]
  rw [this, in_letters, in_digits]
theorem all_lc {a0 : Sl} : ∀ (cs : List Nat) (o : Sl), lcL 2 yesB E1__law_is_name (cs.map fun c => .str ⟨#[c]⟩) [a0, .sh LTS, o] = .ok (cs.map fun c => .bl (lett c || dgt c))
  | [], _ => rfl
  | c :: cs, o => by
    rw [List.map_cons, List.map_cons]
    refine lc_yes rfl ?_ (all_lc cs o)
    refine bin_eq rfl (bin_eq (r := .ok (.str ("abcdefghijklmnopqrstuvwxyz" ++ "0123456789" : Str))) rfl rfl ?_) (in_both c)
    exact gd_pos (sz _ (by decide +kernel))
theorem bls_map : ∀ (bs : List Bool), blsOf (bs.map D.bl) = some bs
  | [] => rfl
  | b :: bs => by rw [List.map_cons]; unfold blsOf; rw [bls_map bs]; rfl
theorem law_is_name (cs : List Nat) (h : wOk cs) : m__law_is_name [.str (nm cs)] = bv (nmOk cs) := by
  have hl := h.2
  have e0 : ("" : Str) = nm [] := by decide +kernel
  let W : Sl := .sh (.str (nm cs))
  have a1 : tst bOf (PL.bin eqD (eVar 0) (eC (.str ""))) [W, .sh LTS, .no] = .ok (decide (cs = [])) := tst_eq (bin_eq rfl rfl (by rw [e0]; exact eq_nm h.1 rfl)) rfl
  have a2 : tst bOf (PL.bin gtD (app lenL (aCons (eVar 0) aNil)) (eC (.int 12))) [W, .sh LTS, .no] = .ok (decide ((12 : Int) < (cs.length : Nat))) := tst_eq (bin_eq (app_eq (cons_eq rfl rfl) (len_nm cs (by omega))) rfl rfl) rfl
  let g : En → Out := sIf (orB (tst bOf (PL.bin eqD (eVar 0) (eC (.str "")))) (orB (tst bOf (PL.bin gtD (app lenL (aCons (eVar 0) aNil)) (eC (.int 12)))) (tst bOf (PL.bin notInD (PL.bin ixD (eVar 0) (eC (.int 0))) (eVar 1))))) (sRet (eC (.bl false))) sNext
  have start : ∀ (o : Out) (r : Res RV), sSeq g (sRet (app allL (aCons (PL.own (lcE (itE (eVar 0)) 2 yesB E1__law_is_name)) aNil))) [W, .sh LTS, .no] = o → runO o = r → m__law_is_name [.str (nm cs)] = r := fun o r h1 h3 =>
    run_of (b := b__law_is_name) (env := [W, .no, .no]) rfl (seq_n (set_eq rfl) h1) h3
  cases cs with
  | nil => exact start _ _ (seq_ret (if_eq (b := true) (by unfold orB; rw [a1]; rfl) (ret_eq rfl))) rfl
  | cons c r =>
    have hx : (nm (c :: r)).cps.toList = c :: r := by simp [nm]
    have i0 : ixD (.str (nm (c :: r))) (.int 0) = .ok (.str ⟨#[c]⟩) := by
      show gd _ (match L2.atI (nm (c :: r)).cps.toList 0 with | some c => Res.ok (D.str ⟨#[c]⟩) | none => .stuck) = _
      rw [gd_pos (sz _ (by rw [nm_length]; omega)), hx, atI_0]
    have a3 : tst bOf (PL.bin notInD (PL.bin ixD (eVar 0) (eC (.int 0))) (eVar 1)) [W, .sh LTS, .no] = .ok (!lett c) := tst_eq (bin_eq (bin_eq rfl rfl i0) rfl (notin_letters c)) rfl
    have tt := or_eq a1 (or_eq a2 a3)
    rw [decide_eq_false (by simp), Bool.false_or] at tt
    have nmv : nmOk (c :: r) = (lett c && r.all (fun x => lett x || dgt x) && decide (r.length ≤ 11)) := rfl
    by_cases hb : (decide ((12 : Int) < ((c :: r).length : Nat)) || !lett c) = true
    · rw [hb] at tt
      have : nmOk (c :: r) = false := by
        rw [nmv]
        simp only [Bool.or_eq_true, decide_eq_true_eq, Bool.not_eq_true'] at hb
        rcases hb with z | z
        · have : ¬ r.length ≤ 11 := by simp only [List.length_cons] at z; omega
          rw [decide_eq_false this, Bool.and_false]
        · rw [z]; rfl
      rw [this]
      exact start _ _ (seq_ret (if_eq tt (ret_eq rfl))) rfl
    · have hb' : (decide ((12 : Int) < ((c :: r).length : Nat)) || !lett c) = false := by simpa using hb
      rw [hb'] at tt
      simp only [Bool.or_eq_false_iff, decide_eq_false_iff_not, Bool.not_eq_false'] at hb'
      have lc := all_lc (a0 := W) (c :: r) .no
      have sq : itE (eVar 0) [W, .sh LTS, .no] = .ok ((c :: r).map fun c => .str ⟨#[c]⟩) := it_eq rfl (show seqOf (.str (nm (c :: r))) = .ok _ from congrArg Res.ok (signs_nm (c :: r)))
      have hv : nmOk (c :: r) = ((c :: r).map fun c => (lett c || dgt c)).all id := by
        rw [nmv, List.map_cons, List.all_cons, hb'.2, decide_eq_true (by have := hb'.1; simp only [List.length_cons] at this; omega), Bool.and_true, Bool.true_and, List.all_map]
        show _ = ((true || dgt c) && _)
        rw [Bool.true_or, Bool.true_and]
        rfl
      rw [hv]
      refine start _ _ (seq_n (if_eq tt rfl) (ret_eq (app_eq (cons_eq (own_eq (lce_eq sq (by rw [List.length_map]; omega) lc)) rfl) ?_))) rfl
      show (match blsOf ((c :: r).map fun c => D.bl (lett c || dgt c)) with | some ns => Res.ok (D.bl (ns.all id)) | none => .stuck) = _
      have : ((c :: r).map fun c => D.bl (lett c || dgt c)) = ((c :: r).map fun c => (lett c || dgt c)).map D.bl := by rw [List.map_map]; rfl
      rw [this, bls_map]
def goodAt (p : Nat) (w : List Nat) : Bool := if p = 1 then goodNum 1000000 w else if p = 2 then goodNum 29 w else if p = 3 then nmOk w else isWay w
theorem law_good (p : Nat) (w : List Nat) (hp : 1 ≤ p ∧ p ≤ 4) (h : wOk w) : m__law_good [.int ((p : Nat) : Int), .str (nm w)] = bv (goodAt p w) := by
  let E : En := [.sh (.int ((p : Nat) : Int)), .sh (.str (nm w))]
  have ifn : ∀ (x : Nat) (F : En → Out), p ≠ x → sIf (tst bOf (PL.bin eqD (eVar 0) (eC (.int ((x : Nat) : Int))))) F sNext E = .next E := fun x F hx =>
    if_eq (b := false) (tst_eq (bin_eq rfl rfl (by rw [eq_int, decide_eq_false (by omega)])) rfl) rfl
  have ify : ∀ (x : Nat) (F : En → Out) (o : Out), p = x → F E = o → sIf (tst bOf (PL.bin eqD (eVar 0) (eC (.int ((x : Nat) : Int))))) F sNext E = o := fun x F o hx ho =>
    if_eq (b := true) (tst_eq (bin_eq rfl rfl (by rw [eq_int, decide_eq_true (by omega)])) rfl) ho
  have fin : ∀ (b : Bool), b__law_good E = .ret (.sh (.bl b)) → m__law_good [.int ((p : Nat) : Int), .str (nm w)] = bv b := fun b hb => run_of (b := b__law_good) (env := E) rfl hb rfl
  unfold goodAt
  by_cases h1 : p = 1
  · rw [if_pos h1]
    exact fin _ (seq_ret (ify 1 _ _ h1 (ret_eq (call_sh (cons_eq rfl (cons_eq rfl rfl)) (law_number w 1000000 h (by decide))))))
  · rw [if_neg h1]
    by_cases h2 : p = 2
    · rw [if_pos h2]
      exact fin _ (seq_n (ifn 1 _ h1) (seq_ret (ify 2 _ _ h2 (ret_eq (call_sh (cons_eq rfl (cons_eq rfl rfl)) (law_number w 29 h (by decide)))))))
    · rw [if_neg h2]
      by_cases h3 : p = 3
      · rw [if_pos h3]
        exact fin _ (seq_n (ifn 1 _ h1) (seq_n (ifn 2 _ h2) (seq_ret (ify 3 _ _ h3 (ret_eq (call_sh (cons_eq rfl rfl) (law_is_name w h)))))))
      · rw [if_neg h3]
        refine fin _ (seq_n (ifn 1 _ h1) (seq_n (ifn 2 _ h2) (seq_n (ifn 3 _ h3) (ret_eq ?_))))
        have c1 : PL.bin eqD (eVar 1) (eC (.str "in")) E = .ok (.bl (decide (w = [105, 110]))) := bin_eq rfl rfl (by rw [lit_in]; exact eq_nm h.1 rfl)
        have c2 : PL.bin eqD (eVar 1) (eC (.str "out")) E = .ok (.bl (decide (w = [111, 117, 116]))) := bin_eq rfl rfl (by rw [lit_out]; exact eq_nm h.1 rfl)
        unfold orV isWay
        rw [c1, bind_ok]
        show (if decide (w = [105, 110]) = true then _ else _) = _
        cases hd : decide (w = [105, 110]) with
        | true => rfl
        | false => rw [if_neg (by decide), c2]; rfl
end K47

set_option maxRecDepth 100000
set_option maxHeartbeats 1000000
namespace K47
open PySem PL
def whatAt (p : Nat) : Str := if p = 1 then "time" else if p = 2 then "box" else if p = 3 then "person" else "way"
def errD (k p : Nat) (s : Str) : D := .tup [.str "text", .int ((k + 1 : Nat) : Int), .int ((p : Nat) : Int), .str s]
theorem what_ix (p : Nat) (hp : 1 ≤ p ∧ p ≤ 4) : ixD (.lst [.str "time", .str "box", .str "person", .str "way"]) (.int ((p : Nat) - 1 : Int)) = .ok (.str (whatAt p)) := by
  rcases (by omega : p = 1 ∨ p = 2 ∨ p = 3 ∨ p = 4) with h | h | h | h <;> subst h <;> rfl
theorem place_turn {T L O : Sl} (k p : Nat) (ws : List (List Nat)) (hp : 1 ≤ p ∧ p ≤ 4) (hw : ∀ w ∈ ws, wOk w) (hl : ws.length ≤ 10000) :
    B1__law_read [T, L, O, .sh (.int ((k : Nat) : Int)), .sh (WS ws), .sh (.int ((p : Nat) : Int))] = if h : p ≤ ws.length then (if goodAt p (ws[p - 1]'(by omega)) = true then .next [T, L, O, .sh (.int ((k : Nat) : Int)), .sh (WS ws), .sh (.int ((p : Nat) : Int))] else .ret (.sh (errD k p (whatAt p)))) else .ret (.sh (errD k p "missing")) := by
  let E : En := [T, L, O, .sh (.int ((k : Nat) : Int)), .sh (WS ws), .sh (.int ((p : Nat) : Int))]
  have t1 : tst bOf (PL.bin gtD (eVar 5) (app lenL (aCons (eVar 4) aNil))) E = .ok (decide (((ws.length : Nat) : Int) < (p : Nat))) := tst_eq (bin_eq rfl (app_eq (cons_eq rfl rfl) (ws_len ws)) rfl) rfl
  have k1 : PL.bin addD (eVar 3) (eC (.int 1)) E = .ok (.int ((k + 1 : Nat) : Int)) := rfl
  by_cases h : p ≤ ws.length
  · rw [dif_pos h]
    rw [decide_eq_false (by omega)] at t1
    let w := ws[p - 1]'(by omega)
    have wk : wOk w := hw _ (List.getElem_mem _)
    have iw : PL.bin ixD (eVar 4) (PL.bin subD (eVar 5) (eC (.int 1))) E = .ok (.str (nm w)) := by
      refine bin_eq (y := .int ((p - 1 : Nat) : Int)) rfl (bin_eq rfl rfl ?_) (ws_ix ws (p - 1) (by omega))
      show Res.ok (D.int ((p : Int) - 1)) = _
      congr 2; omega
    have t2 : notB (tst truD (callE m__law_good (aCons (eVar 5) (aCons (PL.bin ixD (eVar 4) (PL.bin subD (eVar 5) (eC (.int 1)))) aNil)))) E = .ok (!goodAt p w) := not_eq (tst_eq (call_sh (cons_eq rfl (cons_eq iw rfl)) (law_good p w hp wk)) rfl)
    show _ = if goodAt p w = true then _ else _
    cases hg : goodAt p w with
    | true =>
      rw [hg] at t2
      rw [if_pos rfl]
      exact seq_n (if_eq t1 rfl) (if_eq t2 rfl)
    | false =>
      rw [hg] at t2
      rw [if_neg (by decide)]
      refine seq_n (if_eq t1 rfl) (if_eq t2 (ret_eq (app_eq (cons_eq rfl (cons_eq k1 (cons_eq rfl (cons_eq (bin_eq (own_eq (appO_eq (cons_eq rfl (cons_eq rfl (cons_eq rfl (cons_eq rfl rfl)))) (lst_ok _ (by simp)))) (bin_eq rfl rfl rfl) (what_ix p hp)) rfl)))) (tup_ok _ (by simp)))))
  · rw [dif_neg h]
    rw [decide_eq_true (by omega)] at t1
    exact seq_ret (if_eq t1 (ret_eq (app_eq (cons_eq rfl (cons_eq k1 (cons_eq rfl (cons_eq rfl rfl)))) (tup_ok _ (by simp)))))
theorem rng_places : rng2 [.int 1, .int 5] = .ok [.int ((1 : Nat) : Int), .int ((2 : Nat) : Int), .int ((3 : Nat) : Int), .int ((4 : Nat) : Int)] := by
  show gd _ (Res.ok ((List.range (5 - 1 : Int).toNat).map fun k => D.int (1 + (k : Nat)))) = _
  rw [gd_pos (by decide)]
  rfl
/-- the places of one line -/
theorem places {T L O o5 : Sl} (k : Nat) (ws : List (List Nat)) (hw : ∀ w ∈ ws, wOk w) (hl : ws.length ≤ 10000) :
    (∃ p s, rdLine ws = .inl (p, s) ∧ p ≤ 4 ∧ forL (gN 5) B1__law_read [.int ((1 : Nat) : Int), .int ((2 : Nat) : Int), .int ((3 : Nat) : Int), .int ((4 : Nat) : Int)] [T, L, O, .sh (.int ((k : Nat) : Int)), .sh (WS ws), o5] = .ret (.sh (errD k p s))) ∨
    (∃ a b c d r, ws = a :: b :: c :: d :: r ∧ goodNum 1000000 a = true ∧ goodNum 29 b = true ∧ nmOk c = true ∧ isWay d = true ∧ forL (gN 5) B1__law_read [.int ((1 : Nat) : Int), .int ((2 : Nat) : Int), .int ((3 : Nat) : Int), .int ((4 : Nat) : Int)] [T, L, O, .sh (.int ((k : Nat) : Int)), .sh (WS ws), o5] = .next [T, L, O, .sh (.int ((k : Nat) : Int)), .sh (WS ws), .sh (.int ((4 : Nat) : Int))]) := by
  have q1 := place_turn (T := T) (L := L) (O := O) k 1 ws (by decide) hw hl
  have q2 := place_turn (T := T) (L := L) (O := O) k 2 ws (by decide) hw hl
  have q3 := place_turn (T := T) (L := L) (O := O) k 3 ws (by decide) hw hl
  have q4 := place_turn (T := T) (L := L) (O := O) k 4 ws (by decide) hw hl
  have go : ∀ (p : Nat) (ds : List D) (o : Sl), forL (gN 5) B1__law_read (.int ((p : Nat) : Int) :: ds) [T, L, O, .sh (.int ((k : Nat) : Int)), .sh (WS ws), o] = lpO (forL (gN 5) B1__law_read ds) (B1__law_read [T, L, O, .sh (.int ((k : Nat) : Int)), .sh (WS ws), .sh (.int ((p : Nat) : Int))]) := fun p ds o => for_cons _ _ _ _ _
  cases ws with
  | nil =>
    rw [dif_neg (by decide)] at q1
    exact .inl ⟨1, "missing", rfl, by decide, by rw [go, q1, lp_ret]⟩
  | cons a r1 =>
    rw [dif_pos (by simp)] at q1
    have q1' : B1__law_read [T, L, O, .sh (.int ((k : Nat) : Int)), .sh (WS (a :: r1)), .sh (.int ((1 : Nat) : Int))] = if goodNum 1000000 a = true then _ else _ := q1
    by_cases g1 : goodNum 1000000 a = true
    · rw [if_pos g1] at q1'
      cases r1 with
      | nil =>
        rw [dif_neg (by simp)] at q2
        exact .inl ⟨2, "missing", by simp [rdLine, g1, if_true], by decide, by rw [go, q1', lp_next, go, q2, lp_ret]⟩
      | cons b r2 =>
        rw [dif_pos (by simp)] at q2
        have q2' : B1__law_read [T, L, O, .sh (.int ((k : Nat) : Int)), .sh (WS (a :: b :: r2)), .sh (.int ((2 : Nat) : Int))] = if goodNum 29 b = true then _ else _ := q2
        by_cases g2 : goodNum 29 b = true
        · rw [if_pos g2] at q2'
          cases r2 with
          | nil =>
            rw [dif_neg (by simp)] at q3
            exact .inl ⟨3, "missing", by simp [rdLine, g1, g2, if_true], by decide, by rw [go, q1', lp_next, go, q2', lp_next, go, q3, lp_ret]⟩
          | cons c r3 =>
            rw [dif_pos (by simp)] at q3
            have q3' : B1__law_read [T, L, O, .sh (.int ((k : Nat) : Int)), .sh (WS (a :: b :: c :: r3)), .sh (.int ((3 : Nat) : Int))] = if nmOk c = true then _ else _ := q3
            by_cases g3 : nmOk c = true
            · rw [if_pos g3] at q3'
              cases r3 with
              | nil =>
                rw [dif_neg (by simp)] at q4
                exact .inl ⟨4, "missing", by simp [rdLine, g1, g2, g3, if_true], by decide, by rw [go, q1', lp_next, go, q2', lp_next, go, q3', lp_next, go, q4, lp_ret]⟩
              | cons d r4 =>
                rw [dif_pos (by simp)] at q4
                have q4' : B1__law_read [T, L, O, .sh (.int ((k : Nat) : Int)), .sh (WS (a :: b :: c :: d :: r4)), .sh (.int ((4 : Nat) : Int))] = if isWay d = true then _ else _ := q4
                by_cases g4 : isWay d = true
                · rw [if_pos g4] at q4'
                  exact .inr ⟨a, b, c, d, r4, rfl, g1, g2, g3, g4, by rw [go, q1', lp_next, go, q2', lp_next, go, q3', lp_next, go, q4', lp_next]; rfl⟩
                · rw [if_neg g4] at q4'
                  exact .inl ⟨4, "way", by simp [rdLine, g1, g2, g3, if_true, g4, if_false], by decide, by rw [go, q1', lp_next, go, q2', lp_next, go, q3', lp_next, go, q4', lp_ret]; rfl⟩
            · rw [if_neg g3] at q3'
              exact .inl ⟨3, "person", by simp [rdLine, g1, g2, g3, if_true, if_false], by decide, by rw [go, q1', lp_next, go, q2', lp_next, go, q3', lp_ret]; rfl⟩
        · rw [if_neg g2] at q2'
          exact .inl ⟨2, "box", by simp [rdLine, g1, g2, if_true, if_false], by decide, by rw [go, q1', lp_next, go, q2', lp_ret]; rfl⟩
    · rw [if_neg g1] at q1'
      exact .inl ⟨1, "time", by simp [rdLine, g1, if_false], by decide, by rw [go, q1', lp_ret]; rfl⟩
end K47

set_option maxRecDepth 100000
set_option maxHeartbeats 1000000
namespace K47
open PySem PL
theorem read_line {T o4 o5 : Sl} {ls : List (List Nat)} {acc : List D} (k : Nat) (hk : k < ls.length) (hls : ∀ l ∈ ls, lOk l) (hz : acc.length ≤ 1000) : ∃ p4 p5,
    B2__law_read [T, .sh (WS ls), .ow (.lst acc), .sh (.int ((k : Nat) : Int)), o4, o5] = match rdLine (words ls[k]) with
      | .inl (p, s) => .ret (.sh (errD k p s))
      | .inr x => .next [T, .sh (WS ls), .ow (.lst (acc ++ [rowD x])), .sh (.int ((k : Nat) : Int)), p4, p5] := by
  let l := ls[k]
  have hl : lOk l := hls _ (List.getElem_mem hk)
  have wl : (words l).length ≤ 10000 := by
    have : ∀ (q : Nat) (a c : List Nat), (TL.spl [32] q a c).length ≤ c.length + 1 := by
      intro q a c
      induction c generalizing q a with
      | nil => rw [TL.spl_nil]; simp
      | cons x c ih =>
        cases q with
        | zero =>
          by_cases hp : TL.pre [32] (x :: c) = true
          · rw [TL.spl_hit hp]
            have := ih ([32].length - 1) []
            simp only [List.length_cons] at this ⊢; omega
          · have hp' : TL.pre [32] (x :: c) = false := by simpa using hp
            rw [TL.spl_miss hp']
            have := ih 0 (a ++ [x])
            simp only [List.length_cons] at this ⊢; omega
        | succ q =>
          have := ih q a
          show (TL.spl [32] q a c).length ≤ _
          simp only [List.length_cons] at this ⊢; omega
    have := this 0 [] l
    have := hl.1
    unfold words
    omega
  have s4 : PL.own (strM splitO (PL.bin ixD (eVar 1) (eVar 3)) (eC (.str " "))) [T, .sh (WS ls), .ow (.lst acc), .sh (.int ((k : Nat) : Int)), o4, o5] = .ok (WS (words l)) := split_words (bin_eq rfl rfl (ws_ix ls k hk)) (by have := hl.1; omega)
  have rg : ∀ ρ : En, appO rng2 (aCons (eC (.int 1)) (aCons (eC (.int 5)) aNil)) ρ = .ok [.int ((1 : Nat) : Int), .int ((2 : Nat) : Int), .int ((3 : Nat) : Int), .int ((4 : Nat) : Int)] := fun ρ => appO_eq (cons_eq rfl (cons_eq rfl rfl)) rng_places
  have lw : words ls[k] = words l := rfl
  rw [lw]
  rcases places (T := T) (L := .sh (WS ls)) (O := .ow (.lst acc)) (o5 := o5) k (words l) hl.2 wl with ⟨p, s, e1, _, e3⟩ | ⟨a, b, c, d, r, e0, g1, g2, g3, g4, e3⟩
  · refine ⟨.no, .no, ?_⟩
    rw [e1]
    exact seq_n (set_eq s4) (seq_ret (for_eq (rg _) e3))
  · refine ⟨.sh (WS (words l)), .sh (.int ((4 : Nat) : Int)), ?_⟩
    let E : En := [T, .sh (WS ls), .ow (.lst acc), .sh (.int ((k : Nat) : Int)), .sh (WS (words l)), .sh (.int ((4 : Nat) : Int))]
    have t5 : tst bOf (PL.bin gtD (app lenL (aCons (eVar 4) aNil)) (eC (.int 4))) E = .ok (decide ((4 : Int) < ((words l).length : Nat))) := tst_eq (bin_eq (app_eq (cons_eq rfl rfl) (ws_len _)) rfl rfl) rfl
    cases r with
    | cons x r =>
      rw [decide_eq_true (by rw [e0]; simp only [List.length_cons]; omega)] at t5
      have hr : rdLine (words l) = .inl (5, "extra") := by rw [e0]; simp [rdLine, g1, g2, g3, g4]
      rw [hr]
      exact seq_n (set_eq s4) (seq_n (for_eq (rg _) e3) (seq_ret (if_eq t5 (ret_eq (app_eq (cons_eq rfl (cons_eq rfl (cons_eq rfl (cons_eq rfl rfl)))) (tup_ok _ (by simp)))))))
    | nil =>
      rw [decide_eq_false (by rw [e0]; simp only [List.length_cons, List.length_nil]; omega)] at t5
      have hr : rdLine (words l) = .inr (vl a, vl b, c, d) := by rw [e0]; simp [rdLine, g1, g2, g3, g4]
      rw [hr]
      have gp : ∀ (high : Nat) (w : List Nat), goodNum high w = true → allD w = true ∧ w ≠ [] := fun high w hg => by
        unfold goodNum at hg
        simp only [Bool.and_eq_true] at hg
        refine ⟨hg.1.1, fun z => ?_⟩
        rw [z] at hg
        exact absurd hg.1.2 (by decide)
      have wka : wOk a := hl.2 a (by show a ∈ words l; rw [e0]; simp)
      have wkb : wOk b := hl.2 b (by show b ∈ words l; rw [e0]; simp)
      have ix : ∀ (q : Nat) (h : q < (words l).length), PL.bin ixD (eVar 4) (eC (.int ((q : Nat) : Int))) E = .ok (.str (nm (words l)[q])) := fun q h => bin_eq rfl rfl (ws_ix _ q h)
      have x0 : PL.bin ixD (eVar 4) (eC (.int 0)) E = .ok (.str (nm a)) := by
        have := ix 0 (by rw [e0]; simp)
        simp only [e0] at this
        exact this
      have x1 : PL.bin ixD (eVar 4) (eC (.int 1)) E = .ok (.str (nm b)) := by
        have := ix 1 (by rw [e0]; simp)
        simp only [e0] at this
        exact this
      have x2 : PL.bin ixD (eVar 4) (eC (.int 2)) E = .ok (.str (nm c)) := by
        have := ix 2 (by rw [e0]; simp)
        simp only [e0] at this
        exact this
      have x3 : PL.bin ixD (eVar 4) (eC (.int 3)) E = .ok (.str (nm d)) := by
        have := ix 3 (by rw [e0]; simp)
        simp only [e0] at this
        exact this
      refine seq_n (set_eq s4) (seq_n (for_eq (rg _) e3) (seq_n (if_eq t5 rfl) ?_))
      exact app_ok (xs := acc) (ρ := E) rfl (app_eq (cons_eq (app_eq (cons_eq x0 rfl) (int_word (gp _ _ g1).1 (gp _ _ g1).2 (by have := wka.2; omega))) (cons_eq (app_eq (cons_eq x1 rfl) (int_word (gp _ _ g2).1 (gp _ _ g2).2 (by have := wkb.2; omega))) (cons_eq x2 (cons_eq x3 rfl)))) (tup_ok _ (by simp))) (by omega)
end K47

set_option maxRecDepth 100000
set_option maxHeartbeats 1000000
namespace K47
open PySem PL
theorem read_loop {T : Sl} {ls : List (List Nat)} (hls : ∀ l ∈ ls, lOk l) : ∀ (n k : Nat) (acc : List D) (o3 o4 o5 : Sl), k + n = ls.length → acc.length + n ≤ 1000 → ∃ p3 p4 p5,
    forL (gN 3) B2__law_read ((List.range' k n).map fun k => .int ((k : Nat) : Int)) [T, .sh (WS ls), .ow (.lst acc), o3, o4, o5] = match rdAll k (ls.drop k) with
      | .inl (l, p, s) => .ret (.sh (.tup [.str "text", .int ((l : Nat) : Int), .int ((p : Nat) : Int), .str s]))
      | .inr xs => .next [T, .sh (WS ls), .ow (.lst (acc ++ xs.map rowD)), p3, p4, p5]
  | 0, k, acc, o3, o4, o5, hk, _ => ⟨o3, o4, o5, by
    rw [List.drop_eq_nil_of_le (by omega)]
    show Out.next _ = Out.next [T, .sh (WS ls), .ow (.lst (acc ++ [])), o3, o4, o5]
    rw [List.append_nil]⟩
  | n + 1, k, acc, o3, o4, o5, hk, hz => by
    have hkl : k < ls.length := by omega
    obtain ⟨p4, p5, hb⟩ := read_line (T := T) (o4 := o4) (o5 := o5) (acc := acc) k hkl hls (by omega)
    have hd : ls.drop k = ls[k] :: ls.drop (k + 1) := List.drop_eq_getElem_cons hkl
    rw [hd, List.range'_succ, List.map_cons, for_cons]
    show ∃ p3 p4 p5, lpO _ (B2__law_read [T, .sh (WS ls), .ow (.lst acc), .sh (.int ((k : Nat) : Int)), o4, o5]) = _
    unfold rdAll
    cases hr : rdLine (words ls[k]) with
    | inl ps =>
      obtain ⟨p, s⟩ := ps
      rw [hr] at hb
      exact ⟨.no, .no, .no, by rw [hb, lp_ret]; rfl⟩
    | inr x =>
      rw [hr] at hb
      obtain ⟨q3, q4, q5, ih⟩ := read_loop (T := T) hls n (k + 1) (acc ++ [rowD x]) (.sh (.int ((k : Nat) : Int))) p4 p5 (by omega) (by simp only [List.length_append, List.length_cons, List.length_nil]; omega)
      refine ⟨q3, q4, q5, ?_⟩
      rw [hb, lp_next, ih]
      cases rdAll (k + 1) (ls.drop (k + 1)) with
      | inl e => rfl
      | inr xs =>
        simp only [List.map_cons, List.append_assoc]
        rfl
/-- texts that are asked -/
def tOk (t : List Nat) : Prop := asc t = true ∧ t.length ≤ 500000 ∧ (linesL t).length ≤ 100 ∧ ∀ l ∈ linesL t, lOk l
/-- what is read in a text -/
def rdText (t : List Nat) : D := if t = [] then .tup [.str "read", .lst []] else if 60 < (linesL t).length then .tup [.str "many", .int 60] else match rdAll 0 (linesL t) with
  | .inl (l, p, s) => .tup [.str "text", .int ((l : Nat) : Int), .int ((p : Nat) : Int), .str s]
  | .inr xs => .tup [.str "read", .lst (xs.map rowD)]
theorem law_read (t : List Nat) (h : tOk t) : m__law_read [.str (nm t)] = .ok (.sh (rdText t)) := by
  obtain ⟨h1, h2, h3, h4⟩ := h
  have e0 : ("" : Str) = nm [] := by decide +kernel
  let T : Sl := .sh (.str (nm t))
  let ls := linesL t
  have c1 : tst bOf (PL.bin eqD (eVar 0) (eC (.str ""))) [T, .no, .no, .no, .no, .no] = .ok (decide (t = [])) := tst_eq (bin_eq rfl rfl (by rw [e0]; exact eq_nm h1 rfl)) rfl
  have fin : ∀ (d : D), b__law_read [T, .no, .no, .no, .no, .no] = .ret (.sh d) → m__law_read [.str (nm t)] = .ok (.sh d) := fun d hd => run_of (b := b__law_read) (env := [T, .no, .no, .no, .no, .no]) rfl hd rfl
  unfold rdText
  by_cases g0 : t = []
  · rw [if_pos g0]
    rw [decide_eq_true g0] at c1
    exact fin _ (seq_ret (if_eq c1 (ret_eq (app_eq (cons_eq rfl (cons_eq (own_eq (appO_eq rfl (lst_ok [] (by simp)))) rfl)) (tup2 _ _)))))
  · rw [if_neg g0]
    rw [decide_eq_false g0] at c1
    have sl : PL.own (strM splitO (eVar 0) (eC (.str "\n"))) [T, .no, .no, .no, .no, .no] = .ok (WS ls) := own_eq (split_lines rfl (by omega))
    have c2 : tst bOf (PL.bin gtD (app lenL (aCons (eVar 1) aNil)) (eC (.int 60))) [T, .sh (WS ls), .no, .no, .no, .no] = .ok (decide ((60 : Int) < (ls.length : Nat))) := tst_eq (bin_eq (app_eq (cons_eq rfl rfl) (ws_len ls)) rfl rfl) rfl
    by_cases g1 : 60 < (linesL t).length
    · rw [if_pos g1]
      rw [decide_eq_true (by show (60 : Int) < ((linesL t).length : Nat); omega)] at c2
      exact fin _ (seq_n (if_eq c1 rfl) (seq_n (set_eq sl) (seq_ret (if_eq c2 (ret_eq (app_eq (cons_eq rfl (cons_eq rfl rfl)) (tup2 _ _)))))))
    · rw [if_neg g1]
      rw [decide_eq_false (by show ¬ (60 : Int) < ((linesL t).length : Nat); omega)] at c2
      obtain ⟨p3, p4, p5, hf⟩ := read_loop (T := T) (ls := ls) h4 ls.length 0 [] .no .no .no (by omega) (by simp only [List.length_nil]; show 0 + (linesL t).length ≤ 1000; omega)
      rw [List.drop_zero] at hf
      have r1 := rng1_nat ls.length (by show (linesL t).length ≤ _; omega)
      rw [List.range_eq_range'] at r1
      have it : appO rng1 (aCons (app lenL (aCons (eVar 1) aNil)) aNil) [T, .sh (WS ls), .ow (.lst []), .no, .no, .no] = .ok ((List.range' 0 ls.length).map fun k => .int ((k : Nat) : Int)) := appO_eq (cons_eq (app_eq (cons_eq rfl rfl) (ws_len ls)) rfl) r1
      cases hr : rdAll 0 (linesL t) with
      | inl e =>
        obtain ⟨l, p, s⟩ := e
        have hr' : rdAll 0 ls = .inl (l, p, s) := hr
        rw [hr'] at hf
        exact fin _ (seq_n (if_eq c1 rfl) (seq_n (set_eq sl) (seq_n (if_eq c2 rfl) (seq_n (setO_eq (appO_eq rfl (lst_ok [] (by simp)))) (seq_ret (for_eq it hf))))))
      | inr xs =>
        have hr' : rdAll 0 ls = .inr xs := hr
        rw [hr'] at hf
        exact fin _ (seq_n (if_eq c1 rfl) (seq_n (set_eq sl) (seq_n (if_eq c2 rfl) (seq_n (setO_eq (appO_eq rfl (lst_ok [] (by simp)))) (seq_n (for_eq it hf) (ret_eq (app_eq (cons_eq rfl (cons_eq rfl rfl)) (tup2 _ _))))))))
end K47

set_option maxRecDepth 100000
set_option maxHeartbeats 1000000
namespace K47
open PySem PL
theorem for_exc {it : En → Res (List D)} {t : D → En → Res En} {b : En → Out} {ρ : En} {e : Exc} (h : it ρ = .exc e) : sFor it t b ρ = .exc e ρ := by unfold sFor; rw [h, ofR_exc]
theorem it_exc {f : En → Res D} {ρ : En} {e : Exc} (h : f ρ = .exc e) : itE f ρ = .exc e := by unfold itE; rw [h, bind_exc]
theorem cons_x1 {f : En → Res D} {g : En → Res (List D)} {ρ : En} {e : Exc} (h : f ρ = .exc e) : aCons f g ρ = .exc e := by unfold aCons; rw [h, bind_exc]
theorem cons_x2 {f : En → Res D} {g : En → Res (List D)} {ρ : En} {d : D} {e : Exc} (h : f ρ = .ok d) (h2 : g ρ = .exc e) : aCons f g ρ = .exc e := by unfold aCons; rw [h, bind_ok, h2, bind_exc]
theorem app_x {o : List D → Res D} {f : En → Res (List D)} {ρ : En} {e : Exc} (h : f ρ = .exc e) : app o f ρ = .exc e := by unfold app; rw [h, bind_exc]
theorem ret_x {f : En → Res D} {ρ : En} {e : Exc} (h : f ρ = .exc e) : sRet f ρ = .exc e ρ := by unfold sRet; rw [h, ofR_exc]
theorem need_text_ok (s : Str) (w : D) : m_need_text [.str s, w] = .ok (.sh .non) := by
  unfold m_need_text b_need_text
  simp only [PL.runF, PL.runO, PL.start0, PL.sSeq, PL.sNext, PL.sSet, PL.sSetO, PL.sDrop, PL.sRet, PL.sRetO, PL.sRetV, PL.sRetN, PL.sIf, PL.sBrk, PL.sCont, PL.sFrz, PL.sFor, PL.sAsg, PL.sRaise, PL.sTry, PL.tryO, PL.unset, PL.xRet, PL.fldX, PL.ofR_ok, PL.ofR_exc, PL.eC, PL.eVar, PL.bin, PL.una, PL.aNil, PL.aCons, PL.app, PL.appO, PL.own, PL.tru, PL.ifE, PL.andB, PL.orB, PL.notB, PL.gd, PL.bOf, PL.truD, PL.tst, PL.andV, PL.orV, PL.notV, PL.callE, PL.callO, PL.rvD, PL.rvO, PL.bind_ok, PL.bind_exc, PL.bind_stuck, PL.addD, PL.subD, PL.mulD, PL.modD, PL.fdivD, PL.powD, PL.ltD, PL.leD, PL.gtD, PL.geD, PL.isD, PL.isNotD, PL.isNonD, PL.ixD, PL.sliceD, PL.sliceE, PL.pN, PL.pS, PL.lenL, PL.absL, PL.intL, PL.max2L, PL.min2L, PL.listL, PL.tupleL, PL.isiD, PL.isiB, PL.tyD, PL.itE, PL.seqOf, PL.gN, PL.gT, PL.setAll, PL.lp_next, PL.lp_ret, PL.lp_exc, PL.for_nil, PL.for_cons, PL.atI_0, PL.atI_1, PL.atI_2, PL.atI_3, PL.tupD, PL.lstD, PL.owL, PL.setL, PL.sApp, PL.sPop, PL.sPopAt, PL.popAt, PL.sPut, PL.putAt, PL.ixO, PL.borE, PL.borT, PL.borO, PL.binO, PL.catO, PL.repO, PL.cutO, PL.sliceO, PL.lcE, PL.yesB, PL.mkBV, PL.mkTM, PL.mkBT, PL.negD, List.map_cons, List.map_nil, List.length_cons, List.length_nil, List.getElem?_cons_zero, List.getElem?_cons_succ, List.set_cons_zero, List.set_cons_succ, List.cons_append, List.nil_append, List.replicate_succ, List.replicate_zero, List.append_nil, Nat.reduceSub, Nat.reduceAdd, Bool.false_eq_true, List.map, PL.eq_int, PL.ne_int, PL.eq_bl,  if_true, if_false, ite_true, ite_false, String.reduceBEq, decide_true, decide_false, Bool.not_true, Bool.not_false, Bool.true_and, Bool.false_and, Bool.and_true, Bool.and_false, Bool.true_or, Bool.false_or, Bool.or_true, Bool.or_false, decide_not, Bool.not_eq_true, Bool.not_not, reduceCtorEq, ne_eq, not_true_eq_false, not_false_eq_true, eq_self, beq_self_eq_true, bne_self_eq_false, and_true, true_and, and_self]
theorem need_text_no (d w : D) (h : isiB (tyD d) "str" = false) : m_need_text [d, w] = .exc (.badValue w) := by
  cases d <;> first | rfl | (cases h; done)
/-- what is parsed -/
def prText (t : List Nat) : Res RV := if t = [] then .ok (.ow []) else if 60 < (linesL t).length then .exc (.tooMany (.int 60)) else match rdAll 0 (linesL t) with
  | .inl (l, p, s) => .exc (.badText (.int ((l : Nat) : Int)) (.int ((p : Nat) : Int)) (.str s))
  | .inr xs => .ok (.ow (xs.map rowD))
theorem parse_text (t : List Nat) (h : tOk t) : m_parse_history [.str (nm t)] = prText t := by
  obtain ⟨h1, h2, h3, h4⟩ := h
  have e0 : ("" : Str) = nm [] := by decide +kernel
  let T : Sl := .sh (.str (nm t))
  let ls := linesL t
  -- lines_of
  let LE : En := [T, .sh (.int 60), .no]
  have c1 : tst bOf (PL.bin eqD (eVar 0) (eC (.str ""))) LE = .ok (decide (t = [])) := tst_eq (bin_eq rfl rfl (by rw [e0]; exact eq_nm h1 rfl)) rfl
  let P : En := [T, .no, .no, .no]
  let P2 : En := [T, .ow (.lst []), .sh (.int 0), .no]
  have nt := need_text_ok (nm t) (.str "text")
  have start : ∀ (o : Out) (r : Res RV), sSeq (sFor (itE (callE m_lines_of (aCons (eVar 0) (aCons (eC (.int 60)) aNil)))) (gN 3) B1_parse_history) (sRetV 1) P2 = o → runO o = r → m_parse_history [.str (nm t)] = r := fun o r ho hr =>
    run_of (b := b_parse_history) (env := P) rfl (seq_n (drop_eq (call_sh (cons_eq rfl (cons_eq rfl rfl)) nt)) (seq_n (setO_eq (appO_eq rfl (lst_ok [] (by simp)))) (seq_n (set_eq rfl) ho))) hr
  unfold prText
  by_cases g0 : t = []
  · rw [if_pos g0]
    rw [decide_eq_true g0] at c1
    have lo : m_lines_of [.str (nm t), .int 60] = .ok (.ow []) := run_of (b := b_lines_of) (env := LE) rfl (seq_ret (if_eq c1 (retO_eq (appO_eq rfl (lst_ok [] (by simp)))))) rfl
    exact start _ _ (seq_n (for_eq (ds := []) (it_eq (call_ow (cons_eq rfl (cons_eq rfl rfl)) lo) rfl) rfl) rfl) rfl
  · rw [if_neg g0]
    rw [decide_eq_false g0] at c1
    have sl : PL.own (strM splitO (eVar 0) (eC (.str "\n"))) LE = .ok (WS ls) := own_eq (split_lines rfl (by omega))
    have c2 : tst bOf (PL.bin gtD (app lenL (aCons (eVar 2) aNil)) (eVar 1)) [T, .sh (.int 60), .sh (WS ls)] = .ok (decide ((60 : Int) < (ls.length : Nat))) := tst_eq (bin_eq (app_eq (cons_eq rfl rfl) (ws_len ls)) rfl rfl) rfl
    by_cases g1 : 60 < (linesL t).length
    · rw [if_pos g1]
      rw [decide_eq_true (by show (60 : Int) < ((linesL t).length : Nat); omega)] at c2
      have lo : m_lines_of [.str (nm t), .int 60] = .exc (.tooMany (.int 60)) := run_of (b := b_lines_of) (env := LE) (o := .exc (.tooMany (.int 60)) [T, .sh (.int 60), .sh (WS ls)]) rfl (seq_n (if_eq c1 rfl) (seq_n (set_eq sl) (seq_exc (if_eq c2 (raise_eq (cons_eq rfl rfl) rfl))))) rfl
      exact start _ _ (seq_exc (for_exc (it_exc (call_exc (cons_eq rfl (cons_eq rfl rfl)) lo)))) rfl
    · rw [if_neg g1]
      rw [decide_eq_false (by show ¬ (60 : Int) < ((linesL t).length : Nat); omega)] at c2
      have lo : m_lines_of [.str (nm t), .int 60] = .ok (.sh (WS ls)) := run_of (b := b_lines_of) (env := LE) (o := .ret (.sh (WS ls))) rfl (seq_n (if_eq c1 rfl) (seq_n (set_eq sl) (seq_n (if_eq c2 rfl) (ret_eq rfl)))) rfl
      have it : itE (callE m_lines_of (aCons (eVar 0) (aCons (eC (.int 60)) aNil))) P2 = .ok (ls.map fun w => .str (nm w)) := it_eq (call_sh (cons_eq rfl (cons_eq rfl rfl)) lo) rfl
      obtain ⟨ρ', o', hf⟩ := parse_loop (T := T) ls 0 [] .no h4 (by simp only [List.length_nil]; show 0 + (linesL t).length ≤ 1000; omega)
      cases hr : rdAll 0 (linesL t) with
      | inl e =>
        obtain ⟨l, p, s⟩ := e
        have hr' : rdAll 0 ls = .inl (l, p, s) := hr
        rw [hr'] at hf
        exact start _ _ (seq_exc (for_eq it hf)) rfl
      | inr xs =>
        have hr' : rdAll 0 ls = .inr xs := hr
        rw [hr'] at hf
        exact start _ _ (seq_n (for_eq it hf) rfl) rfl
/-- an error as the law tells it -/
def tell : Exc → D
  | .tooMany l => .tup [.str "many", l]
  | .badValue w => .tup [.str "value", w]
  | .badText l w x => .tup [.str "text", l, w, x]
  | _ => .non
def isMV : Exc → Prop | .tooMany _ => True | .badValue _ => True | .badText _ _ _ => True | _ => False
theorem told_exc {d : D} {e : Exc} (he : isMV e) (h : m_parse_history [d] = .exc e) : m__law_told [d] = .ok (.sh (tell e)) := by
  have hb : sRet (app tupD (aCons (eC (.str "read")) (aCons (callE m_parse_history (aCons (eVar 0) aNil)) aNil))) [.sh d, .no] = .exc e [.sh d, .no] := by
    have c := call_exc (f := aCons (eVar 0) aNil) (ρ := [.sh d, .no]) (cons_eq rfl rfl) h
    exact ret_x (app_x (cons_x2 rfl (cons_x1 c)))
  refine run_of (b := b__law_told) (env := [.sh d, .no]) (o := .ret (.sh (tell e))) rfl ?_ rfl
  unfold b__law_told sTry
  rw [hb]
  cases e with
  | tooMany l =>
    simp only [tryO, knX, isX_TooMany, isX_BadValue, isX_BadText, if_true, if_false, Bool.false_eq_true]
    have : (app tupD (aCons (eC (.str "many")) (aCons (fldX "TooMany" "limit" (.tooMany l)) aNil))) (([Sl.sh d, .no] : En).set 1 .no) = .ok (.tup [.str "many", l]) := app_eq (cons_eq rfl (cons_eq (gd_pos rfl) rfl)) (tup2 _ _)
    simp only [xRet, this, ofR_ok, unset]
    rfl
  | badValue l =>
    simp only [tryO, knX, isX_TooMany, isX_BadValue, isX_BadText, if_true, if_false, Bool.false_eq_true]
    have : (app tupD (aCons (eC (.str "value")) (aCons (fldX "BadValue" "what" (.badValue l)) aNil))) (([Sl.sh d, .no] : En).set 1 .no) = .ok (.tup [.str "value", l]) := app_eq (cons_eq rfl (cons_eq (gd_pos rfl) rfl)) (tup2 _ _)
    simp only [xRet, this, ofR_ok, unset]
    rfl
  | badText l w x =>
    simp only [tryO, knX, isX_TooMany, isX_BadValue, isX_BadText, if_true, if_false, Bool.false_eq_true]
    have : (app tupD (aCons (eC (.str "text")) (aCons (fldX "BadText" "line" (.badText l w x)) (aCons (fldX "BadText" "word" (.badText l w x)) (aCons (fldX "BadText" "what" (.badText l w x)) aNil))))) (([Sl.sh d, .no] : En).set 1 .no) = .ok (.tup [.str "text", l, w, x]) := app_eq (cons_eq rfl (cons_eq (gd_pos rfl) (cons_eq (gd_pos rfl) (cons_eq (gd_pos rfl) rfl)))) (tup_ok _ (by simp))
    simp only [xRet, this, ofR_ok, unset]
    rfl
  | _ => cases he
theorem told_text (t : List Nat) (h : tOk t) : m__law_told [.str (nm t)] = .ok (.sh (rdText t)) := by
  have hp := parse_text t h
  have ok : ∀ xs : List D, m_parse_history [.str (nm t)] = .ok (.ow xs) → m__law_told [.str (nm t)] = .ok (.sh (.tup [.str "read", .lst xs])) := fun xs hx => by
    have hb : sRet (app tupD (aCons (eC (.str "read")) (aCons (callE m_parse_history (aCons (eVar 0) aNil)) aNil))) [.sh (.str (nm t)), .no] = .ret (.sh (.tup [.str "read", .lst xs])) := ret_eq (app_eq (cons_eq rfl (cons_eq (call_ow (cons_eq rfl rfl) hx) rfl)) (tup2 _ _))
    refine run_of (b := b__law_told) (env := [.sh (.str (nm t)), .no]) (o := .ret (.sh (.tup [.str "read", .lst xs]))) rfl ?_ rfl
    unfold b__law_told sTry
    rw [hb]
  unfold prText at hp
  unfold rdText
  by_cases g0 : t = []
  · rw [if_pos g0] at hp ⊢
    exact ok _ hp
  · rw [if_neg g0] at hp ⊢
    by_cases g1 : 60 < (linesL t).length
    · rw [if_pos g1] at hp ⊢
      exact told_exc (e := .tooMany (.int 60)) trivial hp
    · rw [if_neg g1] at hp ⊢
      cases hr : rdAll 0 (linesL t) with
      | inl e =>
        obtain ⟨l, p, s⟩ := e
        rw [hr] at hp
        exact told_exc (e := .badText (.int ((l : Nat) : Int)) (.int ((p : Nat) : Int)) (.str s)) trivial hp
      | inr xs =>
        rw [hr] at hp
        exact ok _ hp
end K47

set_option maxRecDepth 100000
set_option maxHeartbeats 1000000
namespace K47
open PySem PL
/-! ## written again -/
abbrev Rw4 := Nat × Nat × List Nat × List Nat
def rOk (x : Rw4) : Prop := x.1 ≤ 1000000 ∧ x.2.1 ≤ 29 ∧ nmOk x.2.2.1 = true ∧ isWay x.2.2.2 = true
def lineOf (x : Rw4) : List Nat := TL.joinL [32] [TL.numL x.1, TL.numL x.2.1, x.2.2.1, x.2.2.2]
theorem rd_ok {ws : List (List Nat)} {x : Rw4} (h : rdLine ws = .inr x) : rOk x ∧ [TL.numL x.1, TL.numL x.2.1, x.2.2.1, x.2.2.2] = ws := by
  unfold rdLine at h
  split at h
  · cases h
  · split at h
    · rename_i a r1 g1
      split at h
      · cases h
      · split at h
        · rename_i b r2 g2
          split at h
          · cases h
          · split at h
            · rename_i c r3 g3
              split at h
              · cases h
              · split at h
                · rename_i d r4 g4
                  split at h
                  · cases h
                    have p1 : allD a = true ∧ canon a = true ∧ vl a ≤ 1000000 := by
                      unfold goodNum at g1; simp only [Bool.and_eq_true, decide_eq_true_eq] at g1; exact ⟨g1.1.1, g1.1.2, g1.2⟩
                    have p2 : allD b = true ∧ canon b = true ∧ vl b ≤ 29 := by
                      unfold goodNum at g2; simp only [Bool.and_eq_true, decide_eq_true_eq] at g2; exact ⟨g2.1.1, g2.1.2, g2.2⟩
                    refine ⟨⟨p1.2.2, p2.2.2, g3, g4⟩, ?_⟩
                    show [TL.numL (vl a), TL.numL (vl b), c, d] = [a, b, c, d]
                    rw [(numL_iff p1.1).mpr p1.2.1, (numL_iff p2.1).mpr p2.2.1]
                  · cases h
                · cases h
            · cases h
        · cases h
    · cases h
theorem rd_line {l : List Nat} {x : Rw4} (h : rdLine (words l) = .inr x) : rOk x ∧ lineOf x = l := by
  obtain ⟨h1, h2⟩ := rd_ok h
  refine ⟨h1, ?_⟩
  unfold lineOf
  rw [h2]
  exact join_spl (by simp) (by decide)
theorem rd_all : ∀ {ls : List (List Nat)} {k : Nat} {xs : List Rw4}, rdAll k ls = .inr xs → (∀ x ∈ xs, rOk x) ∧ xs.map lineOf = ls
  | [], k, xs, h => by cases h; exact ⟨fun x hx => (by cases hx), rfl⟩
  | l :: ls, k, xs, h => by
    unfold rdAll at h
    cases h1 : rdLine (words l) with
    | inl e => obtain ⟨p, s⟩ := e; rw [h1] at h; cases h
    | inr x =>
      rw [h1] at h
      cases h2 : rdAll (k + 1) ls with
      | inl e => simp only [h2] at h; cases h
      | inr ys =>
        simp only [h2] at h
        cases h
        obtain ⟨a, b⟩ := rd_all h2
        obtain ⟨c, d⟩ := rd_line h1
        refine ⟨fun z hz => ?_, by rw [List.map_cons, d, b]⟩
        rcases List.mem_cons.mp hz with e | e
        · subst e; exact c
        · exact a z e
theorem op_row4 {x : Rw4} (h : rOk x) : m_is_opening [rowD x] = yes := by
  obtain ⟨h1, h2, h3, h4⟩ := h
  have hn := nm_len h3
  have w : inD (.str (nm x.2.2.2)) (.tup [.str "in", .str "out"]) = .ok (.bl true) := by
    unfold isWay at h4
    simp only [Bool.or_eq_true, decide_eq_true_eq] at h4
    rcases h4 with e | e
    · rw [e, ← lit_in]; rfl
    · rw [e, ← lit_out]; rfl
  exact op_gen (a1 := true) (a2 := true) (a3 := true) (a4 := true) (by rw [time_int, decide_eq_true (by omega), decide_eq_true (by omega)]; rfl) (by rw [in_range_int, decide_eq_true (by omega), decide_eq_true (by omega)]; rfl) (by rw [is_name_str _ (by omega), h3]) w
theorem part_lc {H O : Sl} {x : Rw4} (h : rOk x) : ∀ (o : Sl), lcL 2 yesB E1_format_history [.int ((x.1 : Nat) : Int), .int ((x.2.1 : Nat) : Int), .str (nm x.2.2.1), .str (nm x.2.2.2)] [H, O, o] = .ok ([TL.numL x.1, TL.numL x.2.1, x.2.2.1, x.2.2.2].map fun w => .str (nm w)) := fun o => by
  have b1 : x.1 < 2 ^ 200 := by have := h.1; omega
  have b2 : x.2.1 < 2 ^ 200 := by have := h.2.1; omega
  have e : ∀ (d : D) (w : List Nat), strL [d] = .ok (.str (nm w)) → E1_format_history [H, O, .sh d] = .ok (.str (nm w)) := fun d w hd => app_eq (cons_eq rfl rfl) hd
  exact lc_yes rfl (e _ _ (str_num _ b1)) (lc_yes rfl (e _ _ (str_num _ b2)) (lc_yes rfl (e _ _ rfl) (lc_yes rfl (e _ _ rfl) rfl)))
theorem strsOf_nm : ∀ ws : List (List Nat), strsOf (ws.map fun w => .str (nm w)) = some (ws.map nm)
  | [] => rfl
  | w :: ws => by rw [List.map_cons]; unfold strsOf; rw [strsOf_nm ws]; rfl
theorem join_ok {a : List Nat} {ws : List (List Nat)} (h : (ws.map List.length).sum + ws.length * a.length ≤ 16777216) : joinD (nm a) (.lst (ws.map fun w => .str (nm w))) = .ok (.str (nm (TL.joinL a ws))) := by
  show (match strsOf (ws.map fun w => D.str (nm w)) with | some ys => gd ((ys.map Str.length).sum + ys.length * (nm a).length ≤ 16777216) (Res.ok (D.str (Txt.join (nm a) ys))) | none => .stuck) = _
  rw [strsOf_nm]
  have e : (ws.map nm).map Str.length = ws.map List.length := by
    rw [List.map_map]
    exact List.map_congr_left fun w _ => nm_length w
  show gd (((ws.map nm).map Str.length).sum + (ws.map nm).length * (nm a).length ≤ 16777216) (Res.ok (D.str (Txt.join (nm a) (ws.map nm)))) = _
  rw [e, List.length_map, nm_length, gd_pos h, join_nm]
theorem strM_eq {α : Type} {o : Str → D → Res α} {f g : En → Res D} {ρ : En} {s : Str} {d : D} {r : Res α} (h : f ρ = .ok (.str s)) (h2 : g ρ = .ok d) (hr : o s d = r) : strM o f g ρ = r := by
  unfold strM; rw [h, bind_ok]; show (g ρ).bind _ = _; rw [h2, bind_ok]; exact hr
theorem joinL_len (a : List Nat) : ∀ ws : List (List Nat), (TL.joinL a ws).length ≤ (ws.map List.length).sum + ws.length * a.length
  | [] => Nat.zero_le _
  | [p] => by simp [TL.joinL]
  | p :: q :: r => by
    have := joinL_len a (q :: r)
    show (p ++ (a ++ TL.joinL a (q :: r))).length ≤ _
    simp only [List.length_append, List.map_cons, List.sum_cons, List.length_cons, Nat.add_mul] at this ⊢
    omega
theorem parts_len {x : Rw4} (h : rOk x) : (([TL.numL x.1, TL.numL x.2.1, x.2.2.1, x.2.2.2] : List (List Nat)).map List.length).sum ≤ 40 := by
  obtain ⟨h1, h2, h3, h4⟩ := h
  have a := TL.numL_len (n := x.1) (k := 7) (by decide) (by omega)
  have b := TL.numL_len (n := x.2.1) (k := 2) (by decide) (by omega)
  have c := nm_len h3
  have d : x.2.2.2.length ≤ 3 := by
    unfold isWay at h4
    simp only [Bool.or_eq_true, decide_eq_true_eq] at h4
    rcases h4 with e | e <;> rw [e] <;> decide
  simp only [List.map_cons, List.map_nil, List.sum_cons, List.sum_nil]
  omega
theorem line_len {x : Rw4} (h : rOk x) : (lineOf x).length ≤ 44 := by
  have := joinL_len [32] [TL.numL x.1, TL.numL x.2.1, x.2.2.1, x.2.2.2]
  have := parts_len h
  unfold lineOf
  simp only [List.length_cons, List.length_nil] at *
  omega
theorem lines_lc {H : Sl} : ∀ (xs : List Rw4) (o1 o2 : Sl), (∀ x ∈ xs, rOk x) → lcL 1 yesB E2_format_history (xs.map rowD) [H, o1, o2] = .ok ((xs.map lineOf).map fun w => .str (nm w))
  | [], _, _, _ => rfl
  | x :: xs, o1, o2, h => by
    have hx := h x List.mem_cons_self
    rw [List.map_cons, List.map_cons, List.map_cons]
    refine lc_yes rfl ?_ (lines_lc xs o1 o2 fun y hy => h y (List.mem_cons_of_mem _ hy))
    refine strM_eq (s := nm [32]) (by rw [← lit_sp]; rfl) (own_eq (lce_eq (ds := [.int ((x.1 : Nat) : Int), .int ((x.2.1 : Nat) : Int), .str (nm x.2.2.1), .str (nm x.2.2.2)]) (it_eq rfl rfl) (by simp) (part_lc (O := .sh (rowD x)) hx o2))) ?_
    exact join_ok (by have := parts_len hx; simp only [List.length_cons, List.length_nil] at *; omega)
theorem rows_loop4 {v : D} : ∀ (rs : List Rw4) (o o2 : Sl), (∀ r ∈ rs, rOk r) → ∃ o', forL (gN 1) B1_need_history (rs.map rowD) [.sh v, o] = .next [.sh v, o']
  | [], o, _, _ => ⟨o, rfl⟩
  | r :: rs, o, o2, h => by
    obtain ⟨o', ih⟩ := rows_loop4 (v := v) rs (.sh (rowD r)) o2 fun x hx => h x (List.mem_cons_of_mem _ hx)
    refine ⟨o', ?_⟩
    have hb : B1_need_history [.sh v, .sh (rowD r)] = .next [.sh v, .sh (rowD r)] := if_eq (not_eq (b := true) (tst_eq (call_sh (cons_eq rfl rfl) (op_row4 (h r List.mem_cons_self))) rfl)) rfl
    rw [List.map_cons, for_cons]
    show lpO _ (B1_need_history [.sh v, .sh (rowD r)]) = _
    rw [hb]
    exact ih
theorem need_history4 (rs : List Rw4) (h : ∀ r ∈ rs, rOk r) (hl : rs.length ≤ 60) : m_need_history [.lst (rs.map rowD)] = .ok (.sh .non) := by
  have h1 := need_list_ok (rs.map rowD) 60 (.str "history") (by simp; omega)
  obtain ⟨o', h2⟩ := rows_loop4 (v := .lst (rs.map rowD)) rs .no .no h
  exact run_of (b := b_need_history) (env := [.sh (.lst (rs.map rowD)), .no]) rfl (seq_n (drop_eq (call_sh (cons_eq rfl (cons_eq rfl (cons_eq rfl rfl))) h1)) (for_eq (ds := rs.map rowD) (it_eq rfl rfl) h2)) rfl
theorem sum_le {α : Type} {f : α → Nat} {n : Nat} : ∀ (xs : List α), (∀ x ∈ xs, f x ≤ n) → (xs.map f).sum ≤ xs.length * n
  | [], _ => by simp
  | x :: xs, h => by
    have h1 := h x List.mem_cons_self
    have h2 := sum_le (f := f) (n := n) xs fun y hy => h y (List.mem_cons_of_mem _ hy)
    simp only [List.map_cons, List.sum_cons, List.length_cons, Nat.add_mul]
    omega
theorem format_eq (xs : List Rw4) (h : ∀ r ∈ xs, rOk r) (hl : xs.length ≤ 60) : m_format_history [.lst (xs.map rowD)] = .ok (.sh (.str (nm (TL.joinL [10] (xs.map lineOf))))) := by
  have nh := need_history4 xs h hl
  have lc := lines_lc (H := .sh (.lst (xs.map rowD))) xs .no .no h
  have sl : ((xs.map lineOf).map List.length).sum ≤ (xs.map lineOf).length * 44 := sum_le (xs.map lineOf) fun w hw => by
    obtain ⟨x, hx, rfl⟩ := List.mem_map.mp hw
    exact line_len (h x hx)
  refine run_of (b := b_format_history) (env := [.sh (.lst (xs.map rowD)), .no, .no]) (o := .ret (.sh (.str (nm (TL.joinL [10] (xs.map lineOf)))))) rfl ?_ rfl
  refine seq_n (drop_eq (call_sh (cons_eq rfl rfl) nh)) (ret_eq ?_)
  refine strM_eq (s := nm [10]) (by rw [← lit_nl]; rfl) (own_eq (lce_eq (ds := xs.map rowD) (it_eq rfl rfl) (by rw [List.length_map]; omega) lc)) (join_ok ?_)
  rw [List.length_map] at sl ⊢
  simp only [List.length_cons, List.length_nil]
  omega
end K47

set_option maxRecDepth 100000
set_option maxHeartbeats 1000000
namespace K47
open PySem PL
/-! ## asked -/
theorem setT_eq {i : Nat} {m : List D → Res RV} {fs : En → Res (List D)} {ρ : En} {ds : List D} {d : D} (h : fs ρ = .ok ds) (hm : m ds = .ok (.sh d)) (hn : noTmp ρ i = true) (hs : ds.all sclr = true) : sSetT i m fs ρ = .next (ρ.set i (.tmp d)) := by
  unfold sSetT
  rw [h, ofR_ok, hm]
  simp only [gd_pos (show noTmp ρ i = true ∧ ds.all sclr = true from ⟨hn, hs⟩), ofR_ok]
theorem tmpT_eq {i : Nat} {t : En → Res Bool} {ρ : En} {d : D} {b : Bool} (h : ρ[i]? = some (.tmp d)) (ht : t (ρ.set i (.sh d)) = .ok b) (hn : noTmp ρ i = true) : tmpT i t ρ = .ok b := by
  unfold tmpT
  rw [h]
  simp only [ht, gd_pos hn]
theorem appT_eq {i : Nat} {f : En → Res D} {ρ : En} {a : D} {xs : List D} {d : D} (h : ρ[i]? = some (.tmp (.tup [a, .lst xs]))) (hf : f ρ = .ok d) (hn : noTmp ρ i = true) (hz : xs.length < 16777216) : sAppT i f ρ = .next (ρ.set i .no) := by
  unfold sAppT
  rw [h]
  simp only [hf, ofR_ok, gd_pos (show noTmp ρ i = true ∧ xs.length < sizeLine from ⟨hn, sz' _ hz⟩)]
theorem rd_str {ws : List (List Nat)} {p : Nat} {s : Str} (h : rdLine ws = .inl (p, s)) : PyData.strOk s = true := by
  unfold rdLine at h
  repeat' (split at h)
  all_goals (cases h; try decide +kernel)
theorem rdAll_str : ∀ {ls : List (List Nat)} {k l p : Nat} {s : Str}, rdAll k ls = .inl (l, p, s) → PyData.strOk s = true
  | [], k, l, p, s, h => by cases h
  | x :: ls, k, l, p, s, h => by
    unfold rdAll at h
    cases h1 : rdLine (words x) with
    | inl e => obtain ⟨p', s'⟩ := e; rw [h1] at h; cases h; exact rd_str h1
    | inr y =>
      rw [h1] at h
      cases h2 : rdAll (k + 1) ls with
      | inl e => simp only [h2] at h; cases h; exact rdAll_str h2
      | inr ys => simp only [h2] at h; cases h
theorem rdAll_len : ∀ {ls : List (List Nat)} {k : Nat} {xs : List Rw4}, rdAll k ls = .inr xs → xs.length = ls.length := fun h => by
  have := (rd_all h).2
  rw [← this, List.length_map]
theorem nmOk_asc {c : List Nat} (h : nmOk c = true) : asc c = true := by
  cases c with
  | nil => cases h
  | cons x r =>
    unfold nmOk at h
    simp only [Bool.and_eq_true, decide_eq_true_eq, List.all_eq_true] at h
    refine List.all_eq_true.mpr fun y hy => ?_
    simp only [decide_eq_true_eq]
    rcases List.mem_cons.mp hy with e | e
    · subst e
      have := h.1.1
      unfold lett at this
      simp only [Bool.and_eq_true, decide_eq_true_eq] at this
      omega
    · have := h.1.2 y e
      unfold lett dgt at this
      simp only [Bool.or_eq_true, Bool.and_eq_true, decide_eq_true_eq] at this
      omega
theorem pl_row4 {x : Rw4} (h : rOk x) : pl (rowD x) = true := by
  have w : PyData.strOk (nm x.2.2.2) = true := by
    have h4 := h.2.2.2
    unfold isWay at h4
    simp only [Bool.or_eq_true, decide_eq_true_eq] at h4
    rcases h4 with e | e <;> rw [e] <;> decide +kernel
  show ((true && (true && (PyData.strOk (nm x.2.2.1) && (PyData.strOk (nm x.2.2.2) && true)))) && decide _) = true
  rw [asc_ok (nmOk_asc h.2.2.1), w]
  rfl
theorem pl_read (xs : List Rw4) (h : ∀ x ∈ xs, rOk x) (hl : xs.length ≤ 1000) : pl (.tup [.str "read", .lst (xs.map rowD)]) = true ∧ dep (.tup [.str "read", .lst (xs.map rowD)]) < 6 := by
  have a : plA (xs.map rowD) = true := plA_of fun y hy => by obtain ⟨x, hx, rfl⟩ := List.mem_map.mp hy; exact pl_row4 (h x hx)
  have b : depA (xs.map rowD) ≤ 1 := depA_of fun y hy => by obtain ⟨x, hx, rfl⟩ := List.mem_map.mp hy; exact Nat.le_refl 1
  refine ⟨?_, ?_⟩
  · show ((PyData.strOk "read" && ((plA (xs.map rowD) && decide ((xs.map rowD).length ≤ 1000)) && true)) && decide _) = true
    have s : PyData.strOk ("read" : Str) = true := by decide +kernel
    rw [a, List.length_map, decide_eq_true hl, s]
    rfl
  · show max 0 (max (depA (xs.map rowD) + 1) 0) + 1 < 6
    omega
theorem asked (t : List Nat) (h : tOk t) : m__law_asked [.str (nm t)] = yes := by
  have lr := law_read t h
  have lt := told_text t h
  obtain ⟨h1, h2, h3, h4⟩ := h
  have pd : pl (rdText t) = true ∧ dep (rdText t) < 6 := by
    unfold rdText
    split
    · exact pl_read [] (fun x hx => by cases hx) (by simp)
    · split
      · exact ⟨by decide +kernel, by decide⟩
      · split
        · rename_i l p s hr
          refine ⟨?_, show 1 < 6 by decide⟩
          show ((PyData.strOk "text" && (true && (true && (PyData.strOk s && true)))) && decide _) = true
          have s1 : PyData.strOk ("text" : Str) = true := by decide +kernel
          rw [rdAll_str hr, s1]
          rfl
        · rename_i xs hr
          exact pl_read xs (rd_all hr).1 (by rw [rdAll_len hr]; omega)
  let T : Sl := .sh (.str (nm t))
  let DU : Sl := .sh (rdText t)
  have s2 : sSetT 2 m__law_told (aCons (eVar 0) aNil) [T, DU, .no] = .next [T, DU, .tmp (rdText t)] := setT_eq (cons_eq rfl rfl) lt rfl rfl
  have t3 : tmpT 2 (notB (tst truD (callE (m__law_same 6) (aCons (eVar 2) (aCons (eVar 1) aNil))))) [T, DU, .tmp (rdText t)] = .ok false := tmpT_eq rfl (not_eq (b := true) (tst_eq (call_sh (cons_eq rfl (cons_eq rfl rfl)) (same_refl 6 _ pd.1 pd.2)) rfl)) rfl
  have fin : ∀ (g : En → Out), b__law_asked = sSeq (sSet 1 (callE m__law_read (aCons (eVar 0) aNil))) (sSeq (sSetT 2 m__law_told (aCons (eVar 0) aNil)) (sSeq (sIf (tmpT 2 (notB (tst truD (callE (m__law_same 6) (aCons (eVar 2) (aCons (eVar 1) aNil)))))) (sRet (eC (.bl false))) sNext) g)) → g [T, DU, .tmp (rdText t)] = .ret (.sh (.bl true)) → m__law_asked [.str (nm t)] = yes := fun g hb hg =>
    run_of (b := b__law_asked) (env := [T, .no, .no]) (o := .ret (.sh (.bl true))) rfl (by rw [hb]; exact seq_n (set_eq (call_sh (cons_eq rfl rfl) lr)) (seq_n s2 (seq_n (if_eq t3 rfl) hg))) rfl
  refine fin _ rfl ?_
  have other : ∀ (w : Str) (ds : List D), rdText t = .tup (.str w :: ds) → neD (.str w) (.str "read") = .ok (.bl true) → sIf (tst bOf (PL.bin neD (PL.bin ixD (eVar 1) (eC (.int 0))) (eC (.str "read")))) (sRet (eC (.bl true))) sNext [T, DU, .tmp (rdText t)] = .ret (.sh (.bl true)) := fun w ds e he =>
    if_eq (b := true) (tst_eq (bin_eq (bin_eq (x := rdText t) rfl rfl (by rw [e]; show (match L2.atI (D.str w :: ds) 0 with | some d => Res.ok d | none => .stuck) = _; rw [atI_0])) rfl he) rfl) (ret_eq rfl)
  have rd : ∀ (xs : List Rw4), rdText t = .tup [.str "read", .lst (xs.map rowD)] → (∀ x ∈ xs, rOk x) → xs.length ≤ 60 → TL.joinL [10] (xs.map lineOf) = t → (sSeq (sIf (tst bOf (PL.bin neD (PL.bin ixD (eVar 1) (eC (.int 0))) (eC (.str "read")))) (sRet (eC (.bl true))) sNext) (sSeq (sIf (tst bOf (PL.bin neD (callE m_format_history (aCons (PL.own (appO listL (aCons (PL.bin ixD (eVar 1) (eC (.int 1))) aNil))) aNil)) (eVar 0))) (sRet (eC (.bl false))) sNext) (sSeq (sAppT 2 (app tupD (aCons (eC (.int 0)) (aCons (eC (.int 0)) (aCons (eC (.str "a")) (aCons (eC (.str "in")) aNil)))))) (sRet (callE (m__law_same 6) (aCons (callE m__law_told (aCons (eVar 0) aNil)) (aCons (eVar 1) aNil))))))) [T, DU, .tmp (rdText t)] = .ret (.sh (.bl true)) := fun xs e hx hxl hj => by
    have i0 : PL.bin ixD (eVar 1) (eC (.int 0)) [T, DU, .tmp (rdText t)] = .ok (.str "read") := bin_eq (x := rdText t) rfl rfl (by rw [e]; rfl)
    have i1 : PL.bin ixD (eVar 1) (eC (.int 1)) [T, DU, .tmp (rdText t)] = .ok (.lst (xs.map rowD)) := bin_eq (x := rdText t) rfl rfl (by rw [e]; rfl)
    have n0 : neD (.str "read") (.str "read") = .ok (.bl false) := by rw [ne_str (by decide +kernel) (by decide +kernel)]; simp
    have fe := format_eq xs hx hxl
    rw [hj] at fe
    have nt : neD (.str (nm t)) (.str (nm t)) = .ok (.bl false) := by
      have := ne_nm h1 h1
      rw [decide_eq_true rfl] at this
      exact this
    refine seq_n (if_eq (b := false) (tst_eq (bin_eq i0 rfl n0) rfl) rfl) ?_
    refine seq_n (if_eq (b := false) (tst_eq (bin_eq (call_sh (cons_eq (own_eq (appO_eq (cons_eq i1 rfl) rfl)) rfl) fe) rfl nt) rfl) rfl) ?_
    refine seq_n (appT_eq (a := .str "read") (xs := xs.map rowD) (by rw [e]; rfl) (app_eq (cons_eq rfl (cons_eq rfl (cons_eq rfl (cons_eq rfl rfl)))) (tup_ok _ (by simp))) rfl (by rw [List.length_map]; omega)) ?_
    exact ret_eq (call_sh (cons_eq (call_sh (cons_eq rfl rfl) lt) (cons_eq rfl rfl)) (same_refl 6 _ pd.1 pd.2))
  have nn : ∀ w : Str, PyData.strOk w = true → ¬ w = "read" → neD (.str w) (.str "read") = .ok (.bl true) := fun w a b => by
    rw [ne_str a (by decide +kernel)]; simp [b]
  by_cases g0 : t = []
  · have e : rdText t = .tup [.str "read", .lst []] := by unfold rdText; rw [if_pos g0]
    exact rd [] e (fun x hx => by cases hx) (by simp) (by rw [g0]; rfl)
  · by_cases g1 : 60 < (linesL t).length
    · have e : rdText t = .tup [.str "many", .int 60] := by unfold rdText; rw [if_neg g0, if_pos g1]
      exact seq_ret (other _ _ e (nn _ (by decide +kernel) (by decide +kernel)))
    · cases hr : rdAll 0 (linesL t) with
      | inl x =>
        obtain ⟨l, p, s⟩ := x
        have e : rdText t = .tup [.str "text", .int ((l : Nat) : Int), .int ((p : Nat) : Int), .str s] := by unfold rdText; rw [if_neg g0, if_neg g1, hr]
        exact seq_ret (other _ _ e (nn _ (by decide +kernel) (by decide +kernel)))
      | inr xs =>
        have e : rdText t = .tup [.str "read", .lst (xs.map rowD)] := by unfold rdText; rw [if_neg g0, if_neg g1, hr]
        obtain ⟨a, b⟩ := rd_all hr
        exact rd xs e a (by rw [rdAll_len hr]; omega) (by rw [b]; exact join_spl (by simp) (by decide))
end K47

set_option maxRecDepth 100000
set_option maxHeartbeats 1000000
namespace K47
open PySem PL
/-! ## texts made of words -/
theorem linesL_join {ls : List (List Nat)} (h : ls ≠ []) (hn : ∀ l ∈ ls, 10 ∉ l) : linesL (TL.joinL [10] ls) = ls := TL.spl_join h hn
theorem words_join {ws : List (List Nat)} (h : ws ≠ []) (hn : ∀ w ∈ ws, 32 ∉ w) : words (TL.joinL [32] ws) = ws := TL.spl_join h hn
/-- a word that may stand in a line -/
def wGood (w : List Nat) : Prop := wOk w ∧ 32 ∉ w ∧ 10 ∉ w
/-- a line made of at most 100 such words -/
def lGood (l : List Nat) : Prop := ∃ ws : List (List Nat), ws ≠ [] ∧ ws.length ≤ 100 ∧ (∀ w ∈ ws, wGood w) ∧ l = TL.joinL [32] ws
theorem joinL_mem {a : List Nat} {c : Nat} : ∀ {ws : List (List Nat)}, c ∈ TL.joinL a ws → c ∈ a ∨ ∃ w ∈ ws, c ∈ w
  | [], h => by cases h
  | [p], h => .inr ⟨p, List.mem_singleton.mpr rfl, h⟩
  | p :: q :: r, h => by
    have h' : c ∈ p ++ (a ++ TL.joinL a (q :: r)) := h
    rcases List.mem_append.mp h' with e | e
    · exact .inr ⟨p, List.mem_cons_self, e⟩
    · rcases List.mem_append.mp e with e | e
      · exact .inl e
      · rcases joinL_mem e with z | ⟨w, hw, z⟩
        · exact .inl z
        · exact .inr ⟨w, List.mem_cons_of_mem _ hw, z⟩
theorem asc_mem {w : List Nat} (h : asc w = true) {c : Nat} (hc : c ∈ w) : c < 128 := by
  have := List.all_eq_true.mp h c hc
  simpa using this
theorem lGood_facts {l : List Nat} (h : lGood l) : lOk l ∧ asc l = true ∧ 10 ∉ l := by
  obtain ⟨ws, h0, hl, hw, rfl⟩ := h
  have hlen : (ws.map List.length).sum ≤ ws.length * 40 := sum_le ws fun w hx => (hw w hx).1.2
  have hj := joinL_len [32] ws
  simp only [List.length_cons, List.length_nil] at hj
  refine ⟨⟨by omega, fun w hx => ?_⟩, List.all_eq_true.mpr fun c hc => ?_, fun hc => ?_⟩
  · rw [words_join h0 fun w hx => (hw w hx).2.1] at hx
    exact (hw w hx).1
  · rcases joinL_mem hc with e | ⟨w, hx, e⟩
    · rw [List.mem_singleton.mp e]; rfl
    · simpa using asc_mem (hw w hx).1.1 e
  · rcases joinL_mem hc with e | ⟨w, hx, e⟩
    · cases List.mem_singleton.mp e
    · exact (hw w hx).2.2 e
theorem tOk_join {ls : List (List Nat)} (h0 : ls ≠ []) (hl : ls.length ≤ 90) (h : ∀ l ∈ ls, lGood l) : tOk (TL.joinL [10] ls) ∧ linesL (TL.joinL [10] ls) = ls := by
  have e := linesL_join h0 fun l hx => (lGood_facts (h l hx)).2.2
  have hlen : (ls.map List.length).sum ≤ ls.length * 5000 := sum_le ls fun l hx => (lGood_facts (h l hx)).1.1
  have hj := joinL_len [10] ls
  simp only [List.length_cons, List.length_nil] at hj
  refine ⟨⟨List.all_eq_true.mpr fun c hc => ?_, by omega, by rw [e]; omega, fun l hx => ?_⟩, e⟩
  · rcases joinL_mem hc with z | ⟨w, hx, z⟩
    · rw [List.mem_singleton.mp z]; rfl
    · simpa using asc_mem (lGood_facts (h w hx)).2.1 z
  · rw [e] at hx
    exact (lGood_facts (h l hx)).1
end K47

set_option maxRecDepth 100000
set_option maxHeartbeats 1000000
namespace K47
open PySem PL
theorem numL_good (n : Nat) (h : n < 10 ^ 30) : wGood (TL.numL n) :=
  ⟨⟨numL_asc n, Nat.le_trans (TL.numL_len (k := 30) (by decide) h) (by decide)⟩, TL.numL_free (.inl (by decide)), TL.numL_free (.inl (by decide))⟩
theorem name_good {c : List Nat} (h : nmOk c = true) : wGood c := by
  have hl := nm_len h
  have hc : ∀ x ∈ c, (lett x || dgt x) = true := fun x hx => by
    cases c with
    | nil => cases hx
    | cons a r =>
      unfold nmOk at h
      simp only [Bool.and_eq_true, decide_eq_true_eq, List.all_eq_true] at h
      rcases List.mem_cons.mp hx with e | e
      · subst e; rw [h.1.1]; rfl
      · exact h.1.2 x e
  have no : ∀ y : Nat, (lett y || dgt y) = false → y ∉ c := fun y hy hm => by rw [hc y hm] at hy; cases hy
  exact ⟨⟨nmOk_asc h, by omega⟩, no 32 (by decide), no 10 (by decide)⟩
theorem way_good {d : List Nat} (h : isWay d = true) : wGood d := by
  unfold isWay at h
  simp only [Bool.or_eq_true, decide_eq_true_eq] at h
  rcases h with e | e <;> subst e
  · exact ⟨⟨rfl, by decide⟩, by decide, by decide⟩
  · exact ⟨⟨rfl, by decide⟩, by decide, by decide⟩
theorem row_words {x : Rw4} (h : rOk x) : ∀ w ∈ [TL.numL x.1, TL.numL x.2.1, x.2.2.1, x.2.2.2], wGood w := fun w hw => by
  obtain ⟨h1, h2, h3, h4⟩ := h
  simp only [List.mem_cons, List.not_mem_nil, or_false] at hw
  rcases hw with e | e | e | e <;> subst e
  · exact numL_good _ (by omega)
  · exact numL_good _ (by omega)
  · exact name_good h3
  · exact way_good h4
theorem row_line {x : Rw4} (h : rOk x) : lGood (lineOf x) ∧ words (lineOf x) = [TL.numL x.1, TL.numL x.2.1, x.2.2.1, x.2.2.2] :=
  ⟨⟨_, by simp, by simp, row_words h, rfl⟩, words_join (by simp) fun w hw => (row_words h w hw).2.1⟩
theorem good_num {n high : Nat} (h : n ≤ high) : goodNum high (TL.numL n) = true := by
  unfold goodNum
  have : vl (TL.numL n) = n := TL.numL_val n
  rw [numL_allD, numL_canon, this, decide_eq_true h]
  rfl
theorem rd_row {x : Rw4} (h : rOk x) : rdLine (words (lineOf x)) = .inr x := by
  rw [(row_line h).2]
  obtain ⟨h1, h2, h3, h4⟩ := h
  have e1 : vl (TL.numL x.1) = x.1 := TL.numL_val _
  have e2 : vl (TL.numL x.2.1) = x.2.1 := TL.numL_val _
  simp [rdLine, good_num h1, good_num h2, h3, h4, e1, e2]
theorem rd_rows : ∀ (xs : List Rw4) (k : Nat), (∀ x ∈ xs, rOk x) → rdAll k (xs.map lineOf) = .inr xs
  | [], _, _ => rfl
  | x :: xs, k, h => by
    rw [List.map_cons]
    unfold rdAll
    rw [rd_row (h x List.mem_cons_self)]
    simp only [rd_rows xs (k + 1) fun y hy => h y (List.mem_cons_of_mem _ hy)]
/-- the text of good rows: it may be asked, and it reads as the rows -/
theorem rows_text (xs : List Rw4) (h : ∀ x ∈ xs, rOk x) (hl : xs.length ≤ 60) : tOk (TL.joinL [10] (xs.map lineOf)) ∧ rdText (TL.joinL [10] (xs.map lineOf)) = .tup [.str "read", .lst (xs.map rowD)] := by
  cases xs with
  | nil => exact ⟨⟨rfl, by decide, by decide, fun l hx => by
      have : linesL (TL.joinL [10] (([] : List Rw4).map lineOf)) = [[]] := rfl
      rw [this] at hx
      rw [List.mem_singleton.mp hx]
      exact ⟨by decide, fun w hw => by
        have : words [] = [[]] := rfl
        rw [this] at hw
        rw [List.mem_singleton.mp hw]
        exact ⟨rfl, by decide⟩⟩⟩, rfl⟩
  | cons x r =>
    obtain ⟨a, b⟩ := tOk_join (ls := (x :: r).map lineOf) (by simp) (by rw [List.length_map]; omega) (fun l hx => by obtain ⟨y, hy, rfl⟩ := List.mem_map.mp hx; exact (row_line (h y hy)).1)
    refine ⟨a, ?_⟩
    have ne : ¬ TL.joinL [10] ((x :: r).map lineOf) = [] := fun z => by
      rw [z] at b
      have : linesL [] = [[]] := rfl
      rw [this] at b
      have e := rd_row (h x List.mem_cons_self)
      cases r with
      | nil =>
        have : lineOf x = [] := by simpa using b.symm
        rw [this] at e
        cases e
      | cons y r => exact absurd (congrArg List.length b) (by simp)
    unfold rdText
    rw [if_neg ne, b, if_neg (by rw [List.length_map]; omega), rd_rows _ _ h]
end K47

set_option maxRecDepth 100000
set_option maxHeartbeats 1000000
namespace K47
open PySem PL
def WL1 : List Str := ["0", "00", "01", "1", "7", "29", "30", "31", "029", "999999", "1000000", "1000001", "0000001"]
def WL2 : List Str := ["12345678901234567890", "-1", "-0", "+1", "1.0", "1e3", "1_0", "0x1", "", "a", "z9", "9z"]
def WL3 : List Str := ["Anna", "annA", "an_a", "an-a", "abcdefghijkl", "abcdefghijklm", "in", "out", "In", "OUT", "inn"]
def WL4 : List Str := ["ou", "none", "\t", "in\t"]
def WL : List Str := WL1 ++ WL2 ++ WL3 ++ WL4
theorem wl_len : WL.length = 40 := rfl
theorem wl_good : ∀ s ∈ WL, wGood s.cps.toList := by
  have h : (WL.all fun s => asc s.cps.toList && decide (s.cps.toList.length ≤ 40) && !(s.cps.toList.contains 32) && !(s.cps.toList.contains 10)) = true := by decide +kernel
  intro s hs
  have := List.all_eq_true.mp h s hs
  simp only [Bool.and_eq_true, decide_eq_true_eq, Bool.not_eq_true', List.contains_eq_mem, decide_eq_false_iff_not] at this
  exact ⟨⟨this.1.1.1, this.1.1.2⟩, this.1.2, this.2⟩
theorem law_word (n : Int) : ∃ w, wGood w ∧ m__law_word [.int n] = .ok (.sh (.str (nm w))) := by
  obtain ⟨j, hj⟩ := Int.eq_ofNat_of_zero_le (Int.emod_nonneg n (by decide : (40 : Int) ≠ 0))
  have hj2 : j < WL.length := by rw [wl_len]; have := Int.emod_lt_of_pos n (by decide : (0 : Int) < 40); omega
  have ix : ixD (.lst (WL.map .str)) (.int (j : Nat)) = .ok (.str WL[j]) := by
    rw [ix_lst _ _ (by rw [List.length_map]; exact hj2), List.getElem_map]
  have e : nm (WL[j]).cps.toList = WL[j] := TL.mk_tl _
  refine ⟨(WL[j]).cps.toList, wl_good _ (List.getElem_mem hj2), ?_⟩
  rw [e]
  refine run_of (b := b__law_word) (env := [.sh (.int n), .no]) (o := .ret (.sh (.str WL[j]))) rfl ?_ rfl
  have l : ∀ (xs : List Str), xs.length ≤ 100 → lstD (xs.map .str) = .ok (xs.map .str) := fun xs h => lst_ok _ (by rw [List.length_map]; omega)
  have a : ∀ (xs ys : List Str), xs.length + ys.length ≤ 100 → addD (.lst (xs.map .str)) (.lst (ys.map .str)) = .ok (.lst ((xs ++ ys).map .str)) := fun xs ys h => by
    rw [add_lst _ _ (by rw [List.length_map, List.length_map]; omega), List.map_append]
  refine seq_n (set_eq (d := .lst (WL1.map .str)) (own_eq (appO_eq (ds := WL1.map .str) rfl (l WL1 (by decide))))) ?_
  refine seq_n (set_eq (d := .lst ((WL1 ++ WL2).map .str)) (bin_eq rfl (own_eq (appO_eq (ds := WL2.map .str) rfl (l WL2 (by decide)))) (a WL1 WL2 (by decide)))) ?_
  refine seq_n (set_eq (d := .lst ((WL1 ++ WL2 ++ WL3).map .str)) (bin_eq rfl (own_eq (appO_eq (ds := WL3.map .str) rfl (l WL3 (by decide)))) (a (WL1 ++ WL2) WL3 (by decide)))) ?_
  refine seq_n (set_eq (d := .lst (WL.map .str)) (bin_eq rfl (own_eq (appO_eq (ds := WL4.map .str) rfl (l WL4 (by decide)))) (a (WL1 ++ WL2 ++ WL3) WL4 (by decide)))) ?_
  exact ret_eq (bin_eq rfl (bin_eq (x := .int n) (app_eq (cons_eq rfl rfl) rfl) rfl (by rw [mod_int n 40 (by decide), hj])) ix)
end K47

set_option maxRecDepth 100000
set_option maxHeartbeats 1000000
namespace K47
open PySem PL
theorem written_loop {H : Sl} : ∀ (xs : List Rw4) (acc : List D) (o : Sl), (∀ x ∈ xs, rOk x) → acc.length + xs.length ≤ 1000 → ∃ o', forL (gN 2) B1__law_written (xs.map rowD) [H, .ow (.lst acc), o] = .next [H, .ow (.lst (acc ++ (xs.map lineOf).map fun w => .str (nm w))), o']
  | [], acc, o, _, _ => ⟨o, by
    show Out.next _ = Out.next [H, .ow (.lst (acc ++ [])), o]
    rw [List.append_nil]⟩
  | x :: xs, acc, o, h, hz => by
    simp only [List.length_cons] at hz
    have hx := h x List.mem_cons_self
    obtain ⟨o', ih⟩ := written_loop (H := H) xs (acc ++ [.str (nm (lineOf x))]) (.sh (rowD x)) (fun y hy => h y (List.mem_cons_of_mem _ hy)) (by simp only [List.length_append, List.length_cons, List.length_nil]; omega)
    refine ⟨o', ?_⟩
    rw [List.map_cons, for_cons]
    show lpO _ (B1__law_written [H, .ow (.lst acc), .sh (rowD x)]) = _
    have b1 : x.1 < 2 ^ 200 := by have := hx.1; omega
    have b2 : x.2.1 < 2 ^ 200 := by have := hx.2.1; omega
    have hb : B1__law_written [H, .ow (.lst acc), .sh (rowD x)] = .next [H, .ow (.lst (acc ++ [.str (nm (lineOf x))])), .sh (rowD x)] := by
      refine app_ok (xs := acc) rfl (strM_eq (s := nm [32]) (d := .lst ([TL.numL x.1, TL.numL x.2.1, x.2.2.1, x.2.2.2].map fun w => .str (nm w))) (by rw [← lit_sp]; rfl) (own_eq (appO_eq (cons_eq (app_eq (cons_eq (bin_eq rfl rfl rfl) rfl) (str_num _ b1)) (cons_eq (app_eq (cons_eq (bin_eq rfl rfl rfl) rfl) (str_num _ b2)) (cons_eq (bin_eq rfl rfl rfl) (cons_eq (bin_eq rfl rfl rfl) rfl)))) (lst_ok _ (by simp)))) (join_ok (by have := parts_len hx; simp only [List.length_cons, List.length_nil] at *; omega))) (by omega)
    rw [hb, lp_next, ih, List.append_assoc]
    rfl
theorem written_eq (xs : List Rw4) (h : ∀ r ∈ xs, rOk r) (hl : xs.length ≤ 60) : m__law_written [.lst (xs.map rowD)] = .ok (.sh (.str (nm (TL.joinL [10] (xs.map lineOf))))) := by
  obtain ⟨o', hf⟩ := written_loop (H := .sh (.lst (xs.map rowD))) xs [] .no h (by simp only [List.length_nil]; omega)
  have sl : ((xs.map lineOf).map List.length).sum ≤ (xs.map lineOf).length * 44 := sum_le (xs.map lineOf) fun w hw => by
    obtain ⟨x, hx, rfl⟩ := List.mem_map.mp hw
    exact line_len (h x hx)
  refine run_of (b := b__law_written) (env := [.sh (.lst (xs.map rowD)), .no, .no]) (o := .ret (.sh (.str (nm (TL.joinL [10] (xs.map lineOf)))))) rfl ?_ rfl
  refine seq_n (setO_eq (appO_eq rfl (lst_ok [] (by simp)))) (seq_n (for_eq (ds := xs.map rowD) (it_eq rfl rfl) hf) ?_)
  show sRet _ [.sh (.lst (xs.map rowD)), .sh (.lst ((xs.map lineOf).map fun w => .str (nm w))), o'] = _
  refine ret_eq (strM_eq (s := nm [10]) (by rw [← lit_nl]; rfl) rfl (join_ok ?_))
  rw [List.length_map] at sl ⊢
  simp only [List.length_cons, List.length_nil]
  omega
end K47

set_option maxRecDepth 100000
set_option maxHeartbeats 1000000
namespace K47
open PySem PL
theorem scale_ix {s : Int} (h0 : 0 ≤ s) (h1 : s < 4) : ∃ m : Int, 0 < m ∧ m ≤ 1000001 ∧ ixD (.lst [.int 7, .int 30, .int 1000, .int 1000001]) (.int s) = .ok (.int m) := by
  rcases (by omega : s = 0 ∨ s = 1 ∨ s = 2 ∨ s = 3) with e | e | e | e <;> subst e
  · exact ⟨7, by decide, by decide, rfl⟩
  · exact ⟨30, by decide, by decide, rfl⟩
  · exact ⟨1000, by decide, by decide, rfl⟩
  · exact ⟨1000001, by decide, by decide, rfl⟩
theorem way_ix {s : Int} (h0 : 0 ≤ s) (h1 : s < 2) : ∃ d, isWay d = true ∧ ixD (.lst [.str "in", .str "out"]) (.int s) = .ok (.str (nm d)) := by
  rcases (by omega : s = 0 ∨ s = 1) with e | e <;> subst e
  · exact ⟨[105, 110], rfl, by rw [← lit_in]; rfl⟩
  · exact ⟨[111, 117, 116], rfl, by rw [← lit_out]; rfl⟩
theorem hist_loop {S L : Sl} {len : Nat} {s : Int} {ts bs ps ws : List Int} (s0 : 0 ≤ s) (s1 : s < 4) (ht : Draws len 1000001 ts) (hb : Draws len 30 bs) (hp : Draws len 3422164299898945536 ps) (hw : Draws len 2 ws) :
    ∀ (ks : List Nat) (rows : List Rw4) (o8 o9 : Sl), (∀ k ∈ ks, k < len) → (∀ x ∈ rows, rOk x) → rows.length + ks.length ≤ 1000 → ∃ (rows' : List Rw4) (p8 p9 : Sl), (∀ x ∈ rows', rOk x) ∧ rows'.length = rows.length + ks.length ∧
    forL (gN 8) B1__law_history (ks.map fun k => .int ((k : Nat) : Int)) [S, L, .sh (.int s), .sh (.lst (ts.map D.int)), .sh (.lst (bs.map D.int)), .sh (.lst (ps.map D.int)), .sh (.lst (ws.map D.int)), .ow (.lst (rows.map rowD)), o8, o9] =
      .next [S, L, .sh (.int s), .sh (.lst (ts.map D.int)), .sh (.lst (bs.map D.int)), .sh (.lst (ps.map D.int)), .sh (.lst (ws.map D.int)), .ow (.lst (rows'.map rowD)), p8, p9]
  | [], rows, o8, o9, _, hr, _ => ⟨rows, o8, o9, hr, rfl, rfl⟩
  | k :: ks, rows, o8, o9, hk, hr, hz => by
    simp only [List.length_cons] at hz
    have hk0 := hk k List.mem_cons_self
    obtain ⟨m, m0, m1, em⟩ := scale_ix s0 s1
    obtain ⟨t, et, t0, t1⟩ := draw_get ht hk0
    obtain ⟨b, eb, b0, b1⟩ := draw_get hb hk0
    obtain ⟨p, ep, p0, p1⟩ := draw_get hp hk0
    obtain ⟨w, ew, w0, w1⟩ := draw_get hw hk0
    obtain ⟨c, hc, ec⟩ := name_eq p0
    obtain ⟨d, hd, ed⟩ := way_ix w0 w1
    have q0 := Int.emod_nonneg t (by omega : m ≠ 0)
    have q1 := Int.emod_lt_of_pos t m0
    obtain ⟨tn, htn⟩ := Int.eq_ofNat_of_zero_le q0
    obtain ⟨bn, hbn⟩ := Int.eq_ofNat_of_zero_le b0
    let x : Rw4 := (tn, bn, c, d)
    have xok : rOk x := ⟨by show tn ≤ 1000000; omega, by show bn ≤ 29; omega, hc, hd⟩
    let E := fun (rs : List Rw4) (a8 a9 : Sl) => ([S, L, .sh (.int s), .sh (.lst (ts.map D.int)), .sh (.lst (bs.map D.int)), .sh (.lst (ps.map D.int)), .sh (.lst (ws.map D.int)), .ow (.lst (rs.map rowD)), a8, a9] : En)
    have l4 : lstD [.int 7, .int 30, .int 1000, .int 1000001] = .ok [.int 7, .int 30, .int 1000, .int 1000001] := lst_ok _ (by simp)
    have l2 : lstD [.str "in", .str "out"] = .ok [.str "in", .str "out"] := lst_ok _ (by simp)
    have hbd : B1__law_history (E rows (.sh (.int ((k : Nat) : Int))) o9) = .next (E (rows ++ [x]) (.sh (.int ((k : Nat) : Int))) (.sh (.int ((tn : Nat) : Int)))) := by
      refine seq_n (ρ' := E rows (.sh (.int ((k : Nat) : Int))) (.sh (.int ((tn : Nat) : Int)))) (set_eq (d := .int ((tn : Nat) : Int)) (bin_eq (x := .int t) (y := .int m) (app_eq (cons_eq (bin_eq rfl rfl et) rfl) rfl) (bin_eq (own_eq (appO_eq (cons_eq rfl (cons_eq rfl (cons_eq rfl (cons_eq rfl rfl)))) l4)) rfl em) (by rw [mod_int t m m0, htn]))) ?_
      have e1 := app_ok (i := 7) (f := app tupD (aCons (eVar 9) (aCons (PL.bin ixD (eVar 4) (eVar 8)) (aCons (callE m__law_name (aCons (PL.bin ixD (eVar 5) (eVar 8)) aNil)) (aCons (PL.bin ixD (PL.own (appO lstD (aCons (eC (.str "in")) (aCons (eC (.str "out")) aNil)))) (PL.bin ixD (eVar 6) (eVar 8))) aNil))))) (ρ := E rows (.sh (.int ((k : Nat) : Int))) (.sh (.int ((tn : Nat) : Int)))) (xs := rows.map rowD) (d := rowD x) rfl
        (app_eq (cons_eq rfl (cons_eq (bin_eq rfl rfl (by rw [eb, hbn])) (cons_eq (call_sh (cons_eq (bin_eq rfl rfl ep) rfl) ec) (cons_eq (bin_eq (own_eq (appO_eq (cons_eq rfl (cons_eq rfl rfl)) l2)) (bin_eq rfl rfl ew) ed) rfl)))) (tup_ok _ (by simp))) (by rw [List.length_map]; omega)
      rw [e1]
      have e2 : rows.map rowD ++ [rowD x] = (rows ++ [x]).map rowD := by rw [List.map_append]; rfl
      rw [e2]
      rfl
    obtain ⟨rows', p8, p9, i1, i2, i3⟩ := hist_loop (S := S) (L := L) s0 s1 ht hb hp hw ks (rows ++ [x]) (.sh (.int ((k : Nat) : Int))) (.sh (.int ((tn : Nat) : Int))) (fun y hy => hk y (List.mem_cons_of_mem _ hy)) (fun y hy => by
      rcases List.mem_append.mp hy with z | z
      · exact hr y z
      · rw [List.mem_singleton.mp z]; exact xok) (by simp only [List.length_append, List.length_cons, List.length_nil]; omega)
    refine ⟨rows', p8, p9, i1, by rw [i2]; simp only [List.length_append, List.length_cons, List.length_nil]; omega, ?_⟩
    rw [List.map_cons, for_cons]
    show lpO _ (B1__law_history (E rows (.sh (.int ((k : Nat) : Int))) o9)) = _
    rw [hbd, lp_next]
    exact i3
end K47

set_option maxRecDepth 100000
set_option maxHeartbeats 1000000
namespace K47
open PySem PL
theorem pow36 : powD (.int 36) (.int 11) = .ok (.int 131621703842267136) := by
  show gd _ (Res.ok (D.int (36 ^ (11 : Int).toNat))) = _
  rw [gd_pos (by decide)]
  rw [show (36 : Int) ^ (11 : Int).toNat = 131621703842267136 from by decide]
theorem history_eq (ns : List Int) (len : Nat) (hl : len ≤ 60) : ∃ rows : List Rw4, (∀ x ∈ rows, rOk x) ∧ rows.length = len ∧ m__law_history [.scr ns, .int (len : Nat)] = .ok (.ow (rows.map rowD)) := by
  obtain ⟨c6, h6⟩ := cell_eq ns 6
  obtain ⟨c1, h1⟩ := cell_eq ns 1
  obtain ⟨c2, h2⟩ := cell_eq ns 2
  obtain ⟨c3, h3⟩ := cell_eq ns 3
  obtain ⟨c4, h4⟩ := cell_eq ns 4
  obtain ⟨sc, dsc, esc⟩ := draw c6 1 4 (by decide) (by decide) (by decide)
  obtain ⟨ts, dts, ets⟩ := draw c1 len 1000001 (by omega) (by decide) (by decide)
  obtain ⟨bs, dbs, ebs⟩ := draw c2 len 30 (by omega) (by decide) (by decide)
  obtain ⟨ps, dps, eps⟩ := draw c3 len 3422164299898945536 (by omega) (by decide) (by decide)
  obtain ⟨ws, dws, ews⟩ := draw c4 len 2 (by omega) (by decide) (by decide)
  obtain ⟨s, es, s0, s1⟩ := draw_get dsc (k := 0) (by decide)
  let S : Sl := .sh (.scr ns)
  let L : Sl := .sh (.int (len : Nat))
  obtain ⟨rows, p8, p9, i1, i2, i3⟩ := hist_loop (S := S) (L := L) s0 s1 dts dbs dps dws (List.range len) [] .no .no (fun k hk => List.mem_range.mp hk) (fun x hx => by cases hx) (by rw [List.length_range]; simp only [List.length_nil]; omega)
  refine ⟨rows, i1, by rw [i2, List.length_range]; simp, run_of (b := b__law_history) (env := [S, L, .no, .no, .no, .no, .no, .no, .no, .no]) (o := .ret (.ow (rows.map rowD))) rfl ?_ rfl⟩
  have cl : ∀ {k : Nat} {c : Int} {a2 a3 a4 a5 a6 : Sl}, m__law_cell [.scr ns, .int (k : Nat)] = .ok (.sh (.int c)) → callE m__law_cell (aCons (eVar 0) (aCons (eC (.int (k : Nat))) aNil)) [S, L, a2, a3, a4, a5, a6, .no, .no, .no] = .ok (.int c) := fun h => call_sh (cons_eq rfl (cons_eq rfl rfl)) h
  have lim : ∀ ρ : En, PL.bin mulD (eC (.int 26)) (PL.bin powD (eC (.int 36)) (eC (.int 11))) ρ = .ok (.int 3422164299898945536) := fun ρ => bin_eq rfl (bin_eq rfl rfl pow36) (mul_int _ _ (by decide) (by decide))
  unfold b__law_history
  refine seq_n (set_eq (d := .int s) (bin_eq (call_ow (cons_eq (cl h6) (cons_eq rfl (cons_eq rfl rfl))) esc) rfl es)) ?_
  refine seq_n (set_eq (call_ow (cons_eq (cl h1) (cons_eq rfl (cons_eq rfl rfl))) ets)) ?_
  refine seq_n (set_eq (call_ow (cons_eq (cl h2) (cons_eq rfl (cons_eq rfl rfl))) ebs)) ?_
  refine seq_n (set_eq (call_ow (cons_eq (cl h3) (cons_eq rfl (cons_eq (lim _) rfl))) eps)) ?_
  refine seq_n (set_eq (call_ow (cons_eq (cl h4) (cons_eq rfl (cons_eq rfl rfl))) ews)) ?_
  refine seq_n (setO_eq (appO_eq rfl (lst_ok [] (by simp)))) ?_
  exact seq_n (for_eq (appO_eq (cons_eq rfl rfl) (rng1_nat len (by omega))) i3) rfl
end K47

set_option maxRecDepth 100000
set_option maxHeartbeats 1000000
namespace K47
open PySem PL
/-! ## changed lines -/
def lG (n : Nat) (l : List Nat) : Prop := ∃ ws : List (List Nat), ws.length ≤ n ∧ (∀ w ∈ ws, wGood w) ∧ l = TL.joinL [32] ws
theorem wGood_nil : wGood [] := ⟨⟨rfl, by decide⟩, by simp, by simp⟩
theorem lG_good {n : Nat} {l : List Nat} (h : lG n l) (hn : n ≤ 99) : lGood l := by
  obtain ⟨ws, h1, h2, h3⟩ := h
  cases ws with
  | nil => exact ⟨[[]], by simp, by simp, fun w hw => by rw [List.mem_singleton.mp hw]; exact wGood_nil, h3⟩
  | cons a r => exact ⟨a :: r, by simp, by omega, h2, h3⟩
theorem if_way {ρ : En} {i : Nat} {x c : Int} {F : En → Out} (hx : ρ[i]? = some (.sh (.int x))) : sIf (tst bOf (PL.bin eqD (eVar i) (eC (.int c)))) F sNext ρ = if x = c then F ρ else .next ρ := by
  have : tst bOf (PL.bin eqD (eVar i) (eC (.int c))) ρ = .ok (decide (x = c)) := tst_eq (bin_eq (show eVar i ρ = .ok (.int x) by unfold eVar; rw [hx]) rfl (eq_int _ _)) rfl
  refine if_eq this ?_
  by_cases h : x = c
  · rw [decide_eq_true h, if_pos h, if_pos rfl]
  · rw [decide_eq_false h, if_neg h, if_neg (by decide)]; rfl
theorem ins_ok {i : Nat} {fs : En → Res (List D)} {ρ : En} {xs : List D} {j : Nat} {d : D} (h : owL ρ i = .ok xs) (hf : fs ρ = .ok [.int ((j : Nat) : Int), d]) (hz : xs.length < 16777216) (hj : j < 100000) : sIns i fs ρ = .next (setL ρ i (xs.take j ++ [d] ++ xs.drop j)) := by
  unfold sIns
  rw [h, ofR_ok, hf, ofR_ok]
  have : insAt xs [.int ((j : Nat) : Int), d] = .ok (xs.take j ++ [d] ++ xs.drop j) := by
    show gd (xs.length < sizeLine ∧ 0 ≤ ((j : Nat) : Int) ∧ ((j : Nat) : Int) < 2 ^ 63) (Res.ok (xs.take ((j : Nat) : Int).toNat ++ [d] ++ xs.drop ((j : Nat) : Int).toNat)) = _
    rw [gd_pos ⟨sz' _ hz, by omega, by omega⟩, Int.toNat_natCast]
  rw [this, ofR_ok]
theorem pop_ok {i : Nat} {f : En → Res D} {ρ : En} {xs : List D} {j : Nat} (h : owL ρ i = .ok xs) (hf : f ρ = .ok (.int ((j : Nat) : Int))) (hj : j < xs.length) (hz : xs.length < 100000) : sPopAt i f ρ = .next (setL ρ i (xs.eraseIdx j)) := by
  unfold sPopAt
  rw [h, ofR_ok, hf, ofR_ok]
  have : popAt xs (.int ((j : Nat) : Int)) = .ok (xs.eraseIdx j) := by
    show gd (0 ≤ ((j : Nat) : Int) ∧ ((j : Nat) : Int) < xs.length ∧ xs.length < 2 ^ 62) (Res.ok (xs.eraseIdx ((j : Nat) : Int).toNat)) = _
    rw [gd_pos ⟨by omega, by omega, by omega⟩, Int.toNat_natCast]
  rw [this, ofR_ok]
end K47

set_option maxRecDepth 100000
set_option maxHeartbeats 1000000
namespace K47
open PySem PL
abbrev wds (ws : List (List Nat)) : List D := ws.map fun w => .str (nm w)
def LE (l : List Nat) (way f s : Int) (ws : List (List Nat)) (a b : Sl) : En := [.sh (.str (nm l)), .sh (.int way), .sh (.int f), .sh (.int s), .ow (.lst (wds ws)), a, b]
/-- a step of the chain: from words to words -/
def Stp (l : List Nat) (way f s : Int) (a : Sl) (n m : Nat) (g : En → Out) : Prop := ∀ (ws : List (List Nat)) (b : Sl), 0 < ws.length → ws.length ≤ n → (∀ w ∈ ws, wGood w) → ∃ (ws' : List (List Nat)) (b' : Sl), ws'.length ≤ m ∧ (∀ w ∈ ws', wGood w) ∧ g (LE l way f s ws a b) = .next (LE l way f s ws' a b')
theorem set_good {ws : List (List Nat)} {j : Nat} {w : List Nat} (h : ∀ x ∈ ws, wGood x) (hw : wGood w) : ∀ x ∈ ws.set j w, wGood x := fun x hx => by
  rcases List.mem_or_eq_of_mem_set hx with e | e
  · exact h x e
  · subst e; exact hw
end K47

set_option maxRecDepth 100000
set_option maxHeartbeats 1000000
namespace K47
open PySem PL
theorem wds_set (ws : List (List Nat)) (j : Nat) (w : List Nat) : (wds ws).set j (.str (nm w)) = wds (ws.set j w) := by unfold wds; rw [List.map_set]
/-- way 2: a word more -/
theorem stp_app {l : List Nat} {way f s : Int} {a : Sl} {n : Nat} (hn : n ≤ 1000) : Stp l way f s a n (n + 1) (sIf (tst bOf (PL.bin eqD (eVar 1) (eC (.int 2)))) (sApp 4 (callE m__law_word (aCons (eVar 3) aNil))) sNext) := fun ws b h0 hl hw => by
  rw [show LE l way f s ws a b = LE l way f s ws a b from rfl]
  rw [if_way (i := 1) (x := way) (ρ := LE l way f s ws a b) rfl]
  by_cases h : way = 2
  · rw [if_pos h]
    obtain ⟨w, g, e⟩ := law_word s
    refine ⟨ws ++ [w], b, by simp; omega, fun x hx => ?_, ?_⟩
    · rcases List.mem_append.mp hx with z | z
      · exact hw x z
      · rw [List.mem_singleton.mp z]; exact g
    · rw [app_ok (ρ := LE l way f s ws a b) (xs := wds ws) rfl (call_sh (cons_eq rfl rfl) e) (by unfold wds; rw [List.length_map]; omega)]
      have : wds ws ++ [.str (nm w)] = wds (ws ++ [w]) := by unfold wds; rw [List.map_append]; rfl
      rw [this]
      rfl
  · rw [if_neg h]
    exact ⟨ws, b, by omega, hw, rfl⟩
end K47

set_option maxRecDepth 100000
set_option maxHeartbeats 1000000
namespace K47
open PySem PL
/-- another way: nothing happens -/
theorem skip {l : List Nat} {way f s : Int} {a b : Sl} {ws : List (List Nat)} {c : Int} {F : En → Out} (h : ¬ way = c) : sIf (tst bOf (PL.bin eqD (eVar 1) (eC (.int c)))) F sNext (LE l way f s ws a b) = .next (LE l way f s ws a b) := by
  rw [if_way (i := 1) (x := way) (ρ := LE l way f s ws a b) rfl, if_neg h]
theorem take_way {l : List Nat} {way f s : Int} {a b : Sl} {ws : List (List Nat)} {c : Int} {F : En → Out} {o : Out} (h : way = c) (hF : F (LE l way f s ws a b) = o) : sIf (tst bOf (PL.bin eqD (eVar 1) (eC (.int c)))) F sNext (LE l way f s ws a b) = o := by
  rw [if_way (i := 1) (x := way) (ρ := LE l way f s ws a b) rfl, if_pos h]; exact hF
theorem way0 {l : List Nat} {way f s : Int} {b : Sl} {ws : List (List Nat)} {j : Nat} (hj : j < ws.length) (hw : ∀ w ∈ ws, wGood w) : ∃ ws', ws'.length = ws.length ∧ (∀ w ∈ ws', wGood w) ∧ sPut 4 (eVar 5) (callE m__law_word (aCons (eVar 3) aNil)) (LE l way f s ws (.sh (.int ((j : Nat) : Int))) b) = .next (LE l way f s ws' (.sh (.int ((j : Nat) : Int))) b) := by
  obtain ⟨w, g, e⟩ := law_word s
  refine ⟨ws.set j w, List.length_set, set_good hw g, ?_⟩
  rw [put_ok (ρ := LE l way f s ws (.sh (.int ((j : Nat) : Int))) b) (xs := wds ws) (j := j) (d := .str (nm w)) rfl (call_sh (cons_eq rfl rfl) e) rfl rfl (by unfold wds; rw [List.length_map]; exact hj), wds_set]
  rfl
end K47

set_option maxRecDepth 100000
set_option maxHeartbeats 1000000
namespace K47
open PySem PL
theorem wds_len (ws : List (List Nat)) : (wds ws).length = ws.length := List.length_map ..
theorem way1 {l : List Nat} {way f s : Int} {b : Sl} {ws : List (List Nat)} {j : Nat} (hj : j < ws.length) (hz : ws.length < 1000) (hw : ∀ w ∈ ws, wGood w) : ∃ ws', ws'.length ≤ ws.length ∧ (∀ w ∈ ws', wGood w) ∧ sPopAt 4 (eVar 5) (LE l way f s ws (.sh (.int ((j : Nat) : Int))) b) = .next (LE l way f s ws' (.sh (.int ((j : Nat) : Int))) b) := by
  refine ⟨ws.eraseIdx j, by rw [List.length_eraseIdx]; split <;> omega, fun w h => hw w (List.mem_of_mem_eraseIdx h), ?_⟩
  rw [pop_ok (ρ := LE l way f s ws (.sh (.int ((j : Nat) : Int))) b) (xs := wds ws) (j := j) rfl rfl (by rw [wds_len]; exact hj) (by rw [wds_len]; omega)]
  have : (wds ws).eraseIdx j = wds (ws.eraseIdx j) := map_erase _ _ _
  rw [this]
  rfl
theorem ins_good {ws : List (List Nat)} {j : Nat} {w : List Nat} (h : ∀ x ∈ ws, wGood x) (hw : wGood w) : ∀ x ∈ ws.take j ++ [w] ++ ws.drop j, wGood x := fun x hx => by
  rcases List.mem_append.mp hx with e | e
  · rcases List.mem_append.mp e with e | e
    · exact h x (List.mem_of_mem_take e)
    · rw [List.mem_singleton.mp e]; exact hw
  · exact h x (List.mem_of_mem_drop e)
theorem wds_ins (ws : List (List Nat)) (j : Nat) (w : List Nat) : (wds ws).take j ++ [.str (nm w)] ++ (wds ws).drop j = wds (ws.take j ++ [w] ++ ws.drop j) := by
  unfold wds; rw [List.map_append, List.map_append, List.map_take, List.map_drop]; rfl
end K47

set_option maxRecDepth 100000
set_option maxHeartbeats 1000000
namespace K47
open PySem PL
theorem way4 {l : List Nat} {way f s : Int} {b : Sl} {ws : List (List Nat)} {j : Nat} (hj : j < ws.length) (hz : ws.length < 1000) (hw : ∀ w ∈ ws, wGood w) : ∃ ws', ws'.length ≤ ws.length + 1 ∧ (∀ w ∈ ws', wGood w) ∧ sIns 4 (aCons (eVar 5) (aCons (eC (.str "")) aNil)) (LE l way f s ws (.sh (.int ((j : Nat) : Int))) b) = .next (LE l way f s ws' (.sh (.int ((j : Nat) : Int))) b) := by
  have e0 : ("" : Str) = nm [] := by decide +kernel
  refine ⟨ws.take j ++ [[]] ++ ws.drop j, by simp; omega, ins_good hw wGood_nil, ?_⟩
  rw [ins_ok (ρ := LE l way f s ws (.sh (.int ((j : Nat) : Int))) b) (xs := wds ws) (j := j) (d := .str (nm [])) rfl (cons_eq rfl (cons_eq (by rw [← e0]; rfl) rfl)) (by rw [wds_len]; omega) (by omega), wds_ins]
  rfl
end K47

set_option maxRecDepth 100000
set_option maxHeartbeats 1000000
namespace K47
open PySem PL
theorem wds_get {ws : List (List Nat)} {j : Nat} (hj : j < ws.length) : (wds ws)[j]'(by rw [wds_len]; exact hj) = .str (nm ws[j]) := by unfold wds; rw [List.getElem_map]
theorem way3 {l : List Nat} {way f s : Int} {b : Sl} {ws : List (List Nat)} {j : Nat} (hj : j < ws.length) (hz : ws.length < 1000) (hw : ∀ w ∈ ws, wGood w) : ∃ ws', ws'.length ≤ ws.length + 1 ∧ (∀ w ∈ ws', wGood w) ∧ sIns 4 (aCons (eVar 5) (aCons (ixO 4 (eVar 5)) aNil)) (LE l way f s ws (.sh (.int ((j : Nat) : Int))) b) = .next (LE l way f s ws' (.sh (.int ((j : Nat) : Int))) b) := by
  have ix : ixO 4 (eVar 5) (LE l way f s ws (.sh (.int ((j : Nat) : Int))) b) = .ok (.str (nm ws[j])) := by
    rw [ixO_ok (xs := wds ws) (j := j) rfl rfl (by rw [wds_len]; exact hj), wds_get hj]
  refine ⟨ws.take j ++ [ws[j]] ++ ws.drop j, by simp; omega, ins_good hw (hw _ (List.getElem_mem hj)), ?_⟩
  rw [ins_ok (ρ := LE l way f s ws (.sh (.int ((j : Nat) : Int))) b) (xs := wds ws) (j := j) (d := .str (nm ws[j])) rfl (cons_eq rfl (cons_eq ix rfl)) (by rw [wds_len]; omega) (by omega), wds_ins]
  rfl
end K47

set_option maxRecDepth 100000
set_option maxHeartbeats 1000000
namespace K47
open PySem PL
theorem other_ix {l : List Nat} {way f s : Int} {a : Sl} {ws : List (List Nat)} (h0 : 0 < ws.length) (hz : ws.length < 1000) : ∃ o : Nat, o < ws.length ∧ ∀ b : Sl, (PL.bin modD (app intL (aCons (eVar 3) aNil)) (app lenL (aCons (eVar 4) aNil))) ((LE l way f s ws a b).set 4 (.sh (.lst (wds ws)))) = .ok (.int ((o : Nat) : Int)) := by
  have lp : (0 : Int) < (ws.length : Nat) := by omega
  obtain ⟨o, ho⟩ := Int.eq_ofNat_of_zero_le (Int.emod_nonneg s (by omega : ((ws.length : Nat) : Int) ≠ 0))
  refine ⟨o, by have := Int.emod_lt_of_pos s lp; omega, fun b => bin_eq (x := .int s) (y := .int (ws.length : Nat)) (app_eq (cons_eq rfl rfl) rfl) (app_eq (cons_eq rfl rfl) (by rw [len_lst, wds_len])) (by rw [mod_int s _ lp, ho])⟩
theorem way5 {l : List Nat} {way f s : Int} {b : Sl} {ws : List (List Nat)} {j : Nat} (hj : j < ws.length) (hz : ws.length < 1000) (hw : ∀ w ∈ ws, wGood w) : ∃ (ws' : List (List Nat)) (b' : Sl), ws'.length = ws.length ∧ (∀ w ∈ ws', wGood w) ∧ sSeq (sSet 6 (ixO 4 (eVar 5))) (sSeq (sPut 4 (eVar 5) (borE 4 (PL.bin ixD (eVar 4) (PL.bin modD (app intL (aCons (eVar 3) aNil)) (app lenL (aCons (eVar 4) aNil)))))) (sPut 4 (borE 4 (PL.bin modD (app intL (aCons (eVar 3) aNil)) (app lenL (aCons (eVar 4) aNil)))) (eVar 6))) (LE l way f s ws (.sh (.int ((j : Nat) : Int))) b) = .next (LE l way f s ws' (.sh (.int ((j : Nat) : Int))) b') := by
  let A : Sl := .sh (.int ((j : Nat) : Int))
  obtain ⟨o, ho, eo⟩ := other_ix (l := l) (way := way) (f := f) (s := s) (a := A) (ws := ws) (by omega) hz
  let W : Sl := .sh (.str (nm ws[j]))
  have ix : ixO 4 (eVar 5) (LE l way f s ws A b) = .ok (.str (nm ws[j])) := by
    rw [ixO_ok (xs := wds ws) (j := j) rfl rfl (by rw [wds_len]; exact hj), wds_get hj]
  have g1 : borE 4 (PL.bin ixD (eVar 4) (PL.bin modD (app intL (aCons (eVar 3) aNil)) (app lenL (aCons (eVar 4) aNil)))) (LE l way f s ws A W) = .ok (.str (nm ws[o])) := borE_ok (xs := wds ws) rfl (bin_eq rfl (eo W) (ws_ix ws o ho)) rfl
  let w1 := ws.set j ws[o]
  have l1 : w1.length = ws.length := List.length_set
  obtain ⟨o2, ho2, eo2⟩ := other_ix (l := l) (way := way) (f := f) (s := s) (a := A) (ws := w1) (by omega) (by omega)
  have g2 : borE 4 (PL.bin modD (app intL (aCons (eVar 3) aNil)) (app lenL (aCons (eVar 4) aNil))) (LE l way f s w1 A W) = .ok (.int ((o2 : Nat) : Int)) := borE_ok (xs := wds w1) rfl (eo2 W) rfl
  have k1 : ∀ w ∈ w1, wGood w := set_good hw (hw _ (List.getElem_mem ho))
  refine ⟨w1.set o2 ws[j], W, by rw [List.length_set, l1], set_good k1 (hw _ (List.getElem_mem hj)), ?_⟩
  refine seq_n (ρ' := LE l way f s ws A W) (set_eq ix) (seq_n (ρ' := LE l way f s w1 A W) ?_ ?_)
  · rw [put_ok (ρ := LE l way f s ws A W) (xs := wds ws) (j := j) (d := .str (nm ws[o])) rfl g1 rfl rfl (by rw [wds_len]; exact hj), wds_set]
    rfl
  · rw [put_ok (ρ := LE l way f s w1 A W) (xs := wds w1) (j := o2) (d := .str (nm ws[j])) rfl rfl g2 rfl (by rw [wds_len]; exact ho2), wds_set]
    rfl
end K47

set_option maxRecDepth 100000
set_option maxHeartbeats 1000000
namespace K47
open PySem PL
theorem split_wordsO {f : En → Res D} {ρ : En} {l : List Nat} (h : f ρ = .ok (.str (nm l))) (hl : l.length ≤ 1000000) : strM splitO f (eC (.str " ")) ρ = .ok ((words l).map fun w => .str (nm w)) := by
  unfold strM
  rw [h, bind_ok]
  show splitO (nm l) (.str " ") = _
  show gd _ (Res.ok ((Txt.split (nm l) " ").map D.str)) = _
  rw [gd_pos ⟨by decide +kernel, sz _ (by rw [nm_length]; omega)⟩, lit_sp, split_nm (by simp) (by decide), strsD]
  rfl
theorem at_ix {l : List Nat} {way f s : Int} {a : Sl} {ws : List (List Nat)} (h0 : 0 < ws.length) (hz : ws.length < 1000) : ∃ o : Nat, o < ws.length ∧ ∀ b : Sl, (PL.bin modD (app intL (aCons (eVar 2) aNil)) (app lenL (aCons (eVar 4) aNil))) ((LE l way f s ws a b).set 4 (.sh (.lst (wds ws)))) = .ok (.int ((o : Nat) : Int)) := by
  have lp : (0 : Int) < (ws.length : Nat) := by omega
  obtain ⟨o, ho⟩ := Int.eq_ofNat_of_zero_le (Int.emod_nonneg f (by omega : ((ws.length : Nat) : Int) ≠ 0))
  refine ⟨o, by have := Int.emod_lt_of_pos f lp; omega, fun b => bin_eq (x := .int f) (y := .int (ws.length : Nat)) (app_eq (cons_eq rfl rfl) rfl) (app_eq (cons_eq rfl rfl) (by rw [len_lst, wds_len])) (by rw [mod_int f _ lp, ho])⟩
theorem lg_len {ws : List (List Nat)} (hw : ∀ w ∈ ws, wGood w) : (ws.map List.length).sum ≤ ws.length * 40 := sum_le ws fun w hx => (hw w hx).1.2
theorem last_line {l : List Nat} {way f s : Int} {a b : Sl} {ws : List (List Nat)} (hz : ws.length ≤ 1000) (hw : ∀ w ∈ ws, wGood w) : sFrz 4 (sRet (strM joinD (eC (.str " ")) (eVar 4))) (LE l way f s ws a b) = .ret (.sh (.str (nm (TL.joinL [32] ws)))) := by
  have := lg_len hw
  show sRet _ [.sh (.str (nm l)), .sh (.int way), .sh (.int f), .sh (.int s), .sh (.lst (wds ws)), a, b] = _
  refine ret_eq (strM_eq (s := nm [32]) (by rw [← lit_sp]; rfl) rfl (join_ok ?_))
  simp only [List.length_cons, List.length_nil]
  omega
/-- a line of at most n good words -/
theorem changed_line {n : Nat} {l : List Nat} {way f s : Int} (hn : n ≤ 500) (h : ∃ ws : List (List Nat), ws ≠ [] ∧ ws.length ≤ n ∧ (∀ w ∈ ws, wGood w) ∧ l = TL.joinL [32] ws) : ∃ l', lG (n + 1) l' ∧ m__law_changed_line [.str (nm l), .int way, .int f, .int s] = .ok (.sh (.str (nm l'))) := by
  obtain ⟨ws, h0, hl, hw, rfl⟩ := h
  have hp : 0 < ws.length := List.length_pos_iff.mpr h0
  have hlen := joinL_len [32] ws
  have hsum := lg_len hw
  simp only [List.length_cons, List.length_nil] at hlen
  have ew : words (TL.joinL [32] ws) = ws := words_join h0 fun w hx => (hw w hx).2.1
  obtain ⟨j, hj, ej⟩ := at_ix (l := TL.joinL [32] ws) (way := way) (f := f) (s := s) (a := .no) (ws := ws) hp (by omega)
  generalize TL.joinL [32] ws = l at *
  suffices hs : ∃ (ws' : List (List Nat)), ws'.length ≤ ws.length + 1 ∧ (∀ w ∈ ws', wGood w) ∧ b__law_changed_line [.sh (.str (nm l)), .sh (.int way), .sh (.int f), .sh (.int s), .no, .no, .no] = .ret (.sh (.str (nm (TL.joinL [32] ws')))) by
    obtain ⟨ws', i1, i2, i3⟩ := hs
    exact ⟨_, ⟨ws', by omega, i2, rfl⟩, run_of (b := b__law_changed_line) rfl i3 rfl⟩
  let A : Sl := .sh (.int ((j : Nat) : Int))
  have e1 : sSetO 4 (strM splitO (eVar 0) (eC (.str " "))) [.sh (.str (nm l)), .sh (.int way), .sh (.int f), .sh (.int s), .no, .no, .no] = .next (LE l way f s ws .no .no) := by
    rw [setO_eq (split_wordsO rfl (by omega)), ew]; rfl
  have e2 : sSet 5 (borE 4 (PL.bin modD (app intL (aCons (eVar 2) aNil)) (app lenL (aCons (eVar 4) aNil)))) (LE l way f s ws .no .no) = .next (LE l way f s ws A .no) := set_eq (borE_ok (xs := wds ws) rfl (ej .no) rfl)
  unfold b__law_changed_line
  by_cases w0 : way = 0
  · obtain ⟨ws', i1, i2, i3⟩ := way0 (l := l) (way := way) (f := f) (s := s) (b := .no) hj hw
    refine ⟨ws', by omega, i2, seq_n e1 (seq_n e2 (seq_n (take_way w0 i3) ?_))⟩
    exact seq_n (skip (by omega)) (seq_n (skip (by omega)) (seq_n (skip (by omega)) (seq_n (skip (by omega)) (seq_n (skip (by omega)) (last_line (by omega) i2)))))
  by_cases w1 : way = 1
  · obtain ⟨ws', i1, i2, i3⟩ := way1 (l := l) (way := way) (f := f) (s := s) (b := .no) hj (by omega) hw
    refine ⟨ws', by omega, i2, seq_n e1 (seq_n e2 (seq_n (skip w0) (seq_n (take_way w1 i3) ?_)))⟩
    exact seq_n (skip (by omega)) (seq_n (skip (by omega)) (seq_n (skip (by omega)) (seq_n (skip (by omega)) (last_line (by omega) i2))))
  by_cases w2 : way = 2
  · obtain ⟨ws', b', i1, i2, i3⟩ := stp_app (l := l) (way := way) (f := f) (s := s) (a := A) (n := n) (by omega) ws .no hp hl hw
    obtain ⟨w, g, e⟩ := law_word s
    have i4 : sApp 4 (callE m__law_word (aCons (eVar 3) aNil)) (LE l way f s ws A .no) = .next (LE l way f s (ws ++ [w]) A .no) := by
      rw [app_ok (ρ := LE l way f s ws A .no) (xs := wds ws) rfl (call_sh (cons_eq rfl rfl) e) (by rw [wds_len]; omega)]
      have : wds ws ++ [.str (nm w)] = wds (ws ++ [w]) := by unfold wds; rw [List.map_append]; rfl
      rw [this]
      rfl
    have i5 : ∀ x ∈ ws ++ [w], wGood x := fun x hx => by
      rcases List.mem_append.mp hx with z | z
      · exact hw x z
      · rw [List.mem_singleton.mp z]; exact g
    refine ⟨ws ++ [w], by simp, i5, seq_n e1 (seq_n e2 (seq_n (skip w0) (seq_n (skip w1) (seq_n (take_way w2 i4) ?_))))⟩
    exact seq_n (skip (by omega)) (seq_n (skip (by omega)) (seq_n (skip (by omega)) (last_line (by simp; omega) i5)))
  by_cases w3 : way = 3
  · obtain ⟨ws', i1, i2, i3⟩ := way3 (l := l) (way := way) (f := f) (s := s) (b := .no) hj (by omega) hw
    refine ⟨ws', by omega, i2, seq_n e1 (seq_n e2 (seq_n (skip w0) (seq_n (skip w1) (seq_n (skip w2) (seq_n (take_way w3 i3) ?_)))))⟩
    exact seq_n (skip (by omega)) (seq_n (skip (by omega)) (last_line (by omega) i2))
  by_cases w4 : way = 4
  · obtain ⟨ws', i1, i2, i3⟩ := way4 (l := l) (way := way) (f := f) (s := s) (b := .no) hj (by omega) hw
    refine ⟨ws', by omega, i2, seq_n e1 (seq_n e2 (seq_n (skip w0) (seq_n (skip w1) (seq_n (skip w2) (seq_n (skip w3) (seq_n (take_way w4 i3) ?_))))))⟩
    exact seq_n (skip (by omega)) (last_line (by omega) i2)
  by_cases w5 : way = 5
  · obtain ⟨ws', b', i1, i2, i3⟩ := way5 (l := l) (way := way) (f := f) (s := s) (b := .no) hj (by omega) hw
    refine ⟨ws', by omega, i2, seq_n e1 (seq_n e2 (seq_n (skip w0) (seq_n (skip w1) (seq_n (skip w2) (seq_n (skip w3) (seq_n (skip w4) (seq_n (take_way w5 i3) (last_line (by omega) i2))))))))⟩
  · refine ⟨ws, by omega, hw, seq_n e1 (seq_n e2 (seq_n (skip w0) (seq_n (skip w1) (seq_n (skip w2) (seq_n (skip w3) (seq_n (skip w4) (seq_n (skip w5) (last_line (by omega) hw))))))))⟩
end K47

set_option maxRecDepth 100000
set_option maxHeartbeats 1000000
namespace K47
open PySem PL
/-- lines of at most n good words (or empty) -/
def LS (n : Nat) (ls : List (List Nat)) : Prop := ∀ l ∈ ls, lG n l
theorem lG_ne {n : Nat} {l : List Nat} (h : lG n l) (hn : 1 ≤ n) : ∃ ws : List (List Nat), ws ≠ [] ∧ ws.length ≤ n ∧ (∀ w ∈ ws, wGood w) ∧ l = TL.joinL [32] ws := by
  obtain ⟨ws, h1, h2, h3⟩ := h
  cases ws with
  | nil => exact ⟨[[]], by simp, by simpa using hn, fun w hw => by rw [List.mem_singleton.mp hw]; exact wGood_nil, h3⟩
  | cons a r => exact ⟨a :: r, by simp, h1, h2, h3⟩
theorem lG_mono {n m : Nat} {l : List Nat} (h : lG n l) (hn : n ≤ m) : lG m l := by
  obtain ⟨ws, h1, h2, h3⟩ := h
  exact ⟨ws, by omega, h2, h3⟩
theorem lG_nil (n : Nat) : lG n [] := ⟨[], by simp, by simp, rfl⟩
theorem LS_set {n : Nat} {ls : List (List Nat)} {l : List Nat} {j : Nat} (h : LS n ls) (hl : lG n l) : LS n (ls.set j l) := fun x hx => by
  rcases List.mem_or_eq_of_mem_set hx with e | e
  · exact h x e
  · subst e; exact hl
def CE (T C : Sl) (xs : List Int) (ls : List (List Nat)) (t way at_ b : Sl) : En := [T, C, .sh (.lst (xs.map D.int)), .ow (.lst (wds ls)), t, way, at_, b]
theorem skipC {T C : Sl} {xs : List Int} {ls : List (List Nat)} {t a b : Sl} {way : Int} {c : Int} {F : En → Out} (h : ¬ way = c) : sIf (tst bOf (PL.bin eqD (eVar 5) (eC (.int c)))) F sNext (CE T C xs ls t (.sh (.int way)) a b) = .next (CE T C xs ls t (.sh (.int way)) a b) := by
  rw [if_way (i := 5) (x := way) (ρ := CE T C xs ls t (.sh (.int way)) a b) rfl, if_neg h]
theorem takeC {T C : Sl} {xs : List Int} {ls : List (List Nat)} {t a b : Sl} {way : Int} {c : Int} {F : En → Out} {o : Out} (h : way = c) (hF : F (CE T C xs ls t (.sh (.int way)) a b) = o) : sIf (tst bOf (PL.bin eqD (eVar 5) (eC (.int c)))) F sNext (CE T C xs ls t (.sh (.int way)) a b) = o := by
  rw [if_way (i := 5) (x := way) (ρ := CE T C xs ls t (.sh (.int way)) a b) rfl, if_pos h]; exact hF
theorem turn_eq {T C : Sl} {xs : List Int} {ls : List (List Nat)} {k n : Nat} {o5 o6 o7 : Sl} (hd : Draws 8 5040 xs) (hk : k < 2) (h1 : 1 ≤ n) (hn : n ≤ 400) (hp : 0 < ls.length) (hl : ls.length ≤ 400) (h : LS n ls) :
    ∃ (ls' : List (List Nat)) (p5 p6 p7 : Sl), LS (n + 1) ls' ∧ 0 < ls'.length ∧ ls'.length ≤ ls.length + 1 ∧ B1__law_changed (CE T C xs ls (.sh (.int ((k : Nat) : Int))) o5 o6 o7) = .next (CE T C xs ls' (.sh (.int ((k : Nat) : Int))) p5 p6 p7) := by
  obtain ⟨x0, e0, a0, b0⟩ := draw_get hd (k := 4 * k) (by omega)
  obtain ⟨x1, e1, a1, b1⟩ := draw_get hd (k := 4 * k + 1) (by omega)
  obtain ⟨x2, e2, a2, b2⟩ := draw_get hd (k := 4 * k + 2) (by omega)
  obtain ⟨x3, e3, a3, b3⟩ := draw_get hd (k := 4 * k + 3) (by omega)
  let K : Sl := .sh (.int ((k : Nat) : Int))
  have m4 : mulD (.int 4) (.int ((k : Nat) : Int)) = .ok (.int ((4 * k : Nat) : Int)) := by rw [mul_int _ _ (by decide) (by omega)]; rfl
  have ix0 : ∀ {ls ls2 : List (List Nat)} {p5 p6 p7 s3 : Sl}, PL.bin ixD (eVar 2) (PL.bin mulD (eC (.int 4)) (eVar 4)) [T, C, .sh (.lst (xs.map D.int)), s3, K, p5, p6, p7] = .ok (.int x0) := bin_eq rfl (bin_eq rfl rfl m4) e0
  have ixp : ∀ {c : Nat} {x : Int} {p5 p6 p7 s3 : Sl}, ixD (.lst (xs.map D.int)) (.int ((4 * k + c : Nat) : Int)) = .ok (.int x) → PL.bin ixD (eVar 2) (PL.bin addD (PL.bin mulD (eC (.int 4)) (eVar 4)) (eC (.int ((c : Nat) : Int)))) [T, C, .sh (.lst (xs.map D.int)), s3, K, p5, p6, p7] = .ok (.int x) := fun h => bin_eq rfl (bin_eq (bin_eq rfl rfl m4) rfl rfl) h
  have lp : (0 : Int) < (ls.length : Nat) := by omega
  obtain ⟨j, ej⟩ := Int.eq_ofNat_of_zero_le (Int.emod_nonneg x1 (by omega : ((ls.length : Nat) : Int) ≠ 0))
  have hj : j < ls.length := by have := Int.emod_lt_of_pos x1 lp; omega
  let W : Sl := .sh (.int (x0 % 16))
  let J : Sl := .sh (.int ((j : Nat) : Int))
  have s1 : sSet 5 (PL.bin modD (app intL (aCons (PL.bin ixD (eVar 2) (PL.bin mulD (eC (.int 4)) (eVar 4))) aNil)) (eC (.int 16))) (CE T C xs ls K o5 o6 o7) = .next (CE T C xs ls K W o6 o7) := set_eq (bin_eq (app_eq (cons_eq (ix0 (ls := ls) (ls2 := ls)) rfl) rfl) rfl (mod_int _ _ (by decide)))
  have s2 : sSet 6 (borE 3 (PL.bin modD (app intL (aCons (PL.bin ixD (eVar 2) (PL.bin addD (PL.bin mulD (eC (.int 4)) (eVar 4)) (eC (.int 1)))) aNil)) (app lenL (aCons (eVar 3) aNil)))) (CE T C xs ls K W o6 o7) = .next (CE T C xs ls K W J o7) :=
    set_eq (borE_ok (xs := wds ls) rfl (bin_eq (x := .int x1) (y := .int (ls.length : Nat)) (app_eq (cons_eq (ixp (c := 1) e1) rfl) rfl) (app_eq (cons_eq rfl rfl) (by rw [len_lst, wds_len])) (by rw [mod_int x1 _ lp, ej])) rfl)
  have ixj : ∀ {o : Sl}, ixO 3 (eVar 6) (CE T C xs ls K W J o) = .ok (.str (nm ls[j])) := by
    intro o
    rw [ixO_ok (xs := wds ls) (j := j) rfl rfl (by rw [wds_len]; exact hj), wds_get hj]
  have lset : ∀ {l : List Nat}, (wds ls).set j (.str (nm l)) = wds (ls.set j l) := wds_set _ _ _
  -- a line is changed
  have chg : ∀ (way : Int) (fw : En → Res D), fw (CE T C xs ls K W J o7) = .ok (.int way) → ∃ ls', LS (n + 1) ls' ∧ 0 < ls'.length ∧ ls'.length ≤ ls.length + 1 ∧ sPut 3 (eVar 6) (callE m__law_changed_line (aCons (ixO 3 (eVar 6)) (aCons fw (aCons (PL.bin ixD (eVar 2) (PL.bin addD (PL.bin mulD (eC (.int 4)) (eVar 4)) (eC (.int 2)))) (aCons (PL.bin ixD (eVar 2) (PL.bin addD (PL.bin mulD (eC (.int 4)) (eVar 4)) (eC (.int 3)))) aNil))))) (CE T C xs ls K W J o7) = .next (CE T C xs ls' K W J o7) := fun way fw hf => by
    obtain ⟨l', g, e⟩ := changed_line (n := n) (l := ls[j]) (way := way) (f := x2) (s := x3) (by omega) (lG_ne (h _ (List.getElem_mem hj)) h1)
    refine ⟨ls.set j l', LS_set (fun l hx => lG_mono (h l hx) (by omega)) g, by rw [List.length_set]; exact hp, by rw [List.length_set]; omega, ?_⟩
    refine (put_ok (ρ := CE T C xs ls K W J o7) (xs := wds ls) (j := j) (d := .str (nm l')) rfl (call_sh (cons_eq ixj (cons_eq hf (cons_eq (ixp (c := 2) e2) (cons_eq (ixp (c := 3) e3) rfl)))) e) rfl rfl (by rw [wds_len]; exact hj)).trans ?_
    rw [lset]
    rfl
  have up : LS (n + 1) ls := fun l hx => lG_mono (h l hx) (by omega)
  have lt6 : ∀ {ls : List (List Nat)} {o : Sl} {F : En → Out}, sIf (tst bOf (PL.bin ltD (eVar 5) (eC (.int 6)))) F sNext (CE T C xs ls K W J o) = if x0 % 16 < 6 then F (CE T C xs ls K W J o) else .next (CE T C xs ls K W J o) := by
    intro ls o F
    refine if_eq (b := decide (x0 % 16 < 6)) (tst_eq (bin_eq rfl rfl rfl) rfl) ?_
    by_cases z : x0 % 16 < 6
    · rw [decide_eq_true z, if_pos z, if_pos rfl]
    · rw [decide_eq_false z, if_neg z, if_neg (by decide)]; rfl
  have or9 : ∀ {ls : List (List Nat)} {o : Sl} {F : En → Out}, sIf (orB (tst bOf (PL.bin eqD (eVar 5) (eC (.int 9)))) (tst bOf (PL.bin eqD (eVar 5) (eC (.int 10))))) F sNext (CE T C xs ls K W J o) = if x0 % 16 = 9 ∨ x0 % 16 = 10 then F (CE T C xs ls K W J o) else .next (CE T C xs ls K W J o) := by
    intro ls o F
    refine if_eq (b := decide (x0 % 16 = 9) || decide (x0 % 16 = 10)) (or_eq (tst_eq (bin_eq rfl rfl (eq_int _ _)) rfl) (tst_eq (bin_eq rfl rfl (eq_int _ _)) rfl)) ?_
    by_cases z : x0 % 16 = 9 ∨ x0 % 16 = 10
    · rw [if_pos z, if_pos (by simpa using z)]
    · rw [if_neg z, if_neg (by simpa using z)]; rfl
  unfold B1__law_changed
  by_cases c6 : x0 % 16 < 6
  · obtain ⟨ls', i1, i2, i3, i4⟩ := chg (x0 % 16) (eVar 5) rfl
    refine ⟨ls', W, J, o7, i1, i2, i3, seq_n s1 (seq_n s2 (seq_n (lt6.trans (by rw [if_pos c6]; exact i4)) ?_))⟩
    exact seq_n (skipC (by omega)) (seq_n (skipC (by omega)) (seq_n (skipC (by omega)) (or9.trans (if_neg (by omega)))))
  have n6 : ∀ {F : En → Out}, sIf (tst bOf (PL.bin ltD (eVar 5) (eC (.int 6)))) F sNext (CE T C xs ls K W J o7) = .next (CE T C xs ls K W J o7) := lt6.trans (if_neg c6)
  by_cases c7 : x0 % 16 = 6
  · have e00 : ("" : Str) = nm [] := by decide +kernel
    refine ⟨ls.take j ++ [[]] ++ ls.drop j, W, J, o7, fun l hx => ?_, by simp; omega, by simp; omega, seq_n s1 (seq_n s2 (seq_n n6 (seq_n (takeC c7 (o := .next (CE T C xs (ls.take j ++ [[]] ++ ls.drop j) K W J o7)) ?_) ?_)))⟩
    · rcases List.mem_append.mp hx with e | e
      · rcases List.mem_append.mp e with e | e
        · exact up l (List.mem_of_mem_take e)
        · rw [List.mem_singleton.mp e]; exact lG_nil _
      · exact up l (List.mem_of_mem_drop e)
    · rw [ins_ok (ρ := CE T C xs ls K W J o7) (xs := wds ls) (j := j) (d := .str (nm [])) rfl (cons_eq rfl (cons_eq (by rw [← e00]; rfl) rfl)) (by rw [wds_len]; omega) (by omega), wds_ins]
      rfl
    · exact seq_n (skipC (by omega)) (seq_n (skipC (by omega)) (or9.trans (if_neg (by omega))))
  by_cases c8 : x0 % 16 = 7
  · let L7 : Sl := .sh (.str (nm ls[j]))
    have ix00 : ixO 3 (eC (.int 0)) (CE T C xs ls K W J L7) = .ok (.str (nm ls[0])) := by
      rw [ixO_ok (xs := wds ls) (j := 0) rfl rfl (by rw [wds_len]; exact hp), wds_get hp]
    have p1 : sPut 3 (eVar 6) (ixO 3 (eC (.int 0))) (CE T C xs ls K W J L7) = .next (CE T C xs (ls.set j ls[0]) K W J L7) := by
      rw [put_ok (ρ := CE T C xs ls K W J L7) (xs := wds ls) (j := j) (d := .str (nm ls[0])) rfl ix00 rfl rfl (by rw [wds_len]; exact hj), lset]
      rfl
    have p2 : sPut 3 (eC (.int 0)) (eVar 7) (CE T C xs (ls.set j ls[0]) K W J L7) = .next (CE T C xs ((ls.set j ls[0]).set 0 ls[j]) K W J L7) := by
      rw [put_ok (ρ := CE T C xs (ls.set j ls[0]) K W J L7) (xs := wds (ls.set j ls[0])) (j := 0) (d := .str (nm ls[j])) rfl rfl rfl rfl (by rw [wds_len, List.length_set]; exact hp), wds_set]
      rfl
    refine ⟨(ls.set j ls[0]).set 0 ls[j], W, J, L7, LS_set (LS_set up (up _ (List.getElem_mem hp))) (up _ (List.getElem_mem hj)), by rw [List.length_set, List.length_set]; exact hp, by rw [List.length_set, List.length_set]; omega, seq_n s1 (seq_n s2 (seq_n n6 (seq_n (skipC c7) (seq_n (takeC c8 (seq_n (set_eq ixj) (seq_n p1 p2))) ?_))))⟩
    exact seq_n (skipC (by omega)) (or9.trans (if_neg (by omega)))
  by_cases c9 : x0 % 16 = 8
  · have e00 : ("" : Str) = nm [] := by decide +kernel
    refine ⟨ls ++ [[]], W, J, o7, fun l hx => ?_, by simp, by simp, seq_n s1 (seq_n s2 (seq_n n6 (seq_n (skipC c7) (seq_n (skipC c8) (seq_n (takeC c9 (o := .next (CE T C xs (ls ++ [[]]) K W J o7)) ?_) (or9.trans (if_neg (by omega))))))))⟩
    · rcases List.mem_append.mp hx with e | e
      · exact up l e
      · rw [List.mem_singleton.mp e]; exact lG_nil _
    · rw [app_ok (ρ := CE T C xs ls K W J o7) (xs := wds ls) (d := .str (nm [])) rfl (by rw [← e00]; rfl) (by rw [wds_len]; omega)]
      have : wds ls ++ [.str (nm [])] = wds (ls ++ [[]]) := by unfold wds; rw [List.map_append]; rfl
      rw [this]
      rfl
  by_cases c10 : x0 % 16 = 9 ∨ x0 % 16 = 10
  · obtain ⟨ls', i1, i2, i3, i4⟩ := chg 0 (eC (.int 0)) rfl
    exact ⟨ls', W, J, o7, i1, i2, i3, seq_n s1 (seq_n s2 (seq_n n6 (seq_n (skipC c7) (seq_n (skipC c8) (seq_n (skipC c9) (or9.trans (by rw [if_pos c10]; exact i4)))))))⟩
  · exact ⟨ls, W, J, o7, up, hp, by omega, seq_n s1 (seq_n s2 (seq_n n6 (seq_n (skipC c7) (seq_n (skipC c8) (seq_n (skipC c9) (or9.trans (if_neg c10)))))))⟩
end K47

set_option maxRecDepth 100000
set_option maxHeartbeats 1000000
namespace K47
open PySem PL
theorem lG_fine {n : Nat} {l : List Nat} (h : lG n l) (hn : n ≤ 99) : lGood l := lG_good h hn
theorem LS_text {ls : List (List Nat)} {n : Nat} (h0 : 0 < ls.length) (hl : ls.length ≤ 90) (hn : n ≤ 99) (h : LS n ls) : tOk (TL.joinL [10] ls) ∧ linesL (TL.joinL [10] ls) = ls :=
  tOk_join (List.length_pos_iff.mp h0) hl fun l hx => lG_good (h l hx) hn
theorem join_lines {n : Nat} {ls : List (List Nat)} {f : En → Res D} {ρ : En} (h0 : 0 < ls.length) (hl : ls.length ≤ 90) (hn : n ≤ 99) (h : LS n ls) (hf : f ρ = .ok (.lst (wds ls))) : strM joinD (eC (.str "\n")) f ρ = .ok (.str (nm (TL.joinL [10] ls))) := by
  have hlen : (ls.map List.length).sum ≤ ls.length * 5000 := sum_le ls fun l hx => (lGood_facts (lG_good (h l hx) hn)).1.1
  refine strM_eq (s := nm [10]) (by rw [← lit_nl]; rfl) hf (join_ok ?_)
  simp only [List.length_cons, List.length_nil]
  omega
theorem changed (ls : List (List Nat)) (cell : Int) (h0 : 0 < ls.length) (hl : ls.length ≤ 80) (h : LS 4 ls) : ∃ t', tOk t' ∧ m__law_changed [.str (nm (TL.joinL [10] ls)), .int cell] = .ok (.sh (.str (nm t'))) := by
  obtain ⟨⟨_, tl, _, _⟩, eL⟩ := LS_text h0 (by omega) (by decide) h
  obtain ⟨xs, hd, ex⟩ := draw cell 8 5040 (by decide) (by decide) (by decide)
  generalize TL.joinL [10] ls = t at *
  let T : Sl := .sh (.str (nm t))
  let C : Sl := .sh (.int cell)
  obtain ⟨l1, p5, p6, p7, g1, g2, g3, g4⟩ := turn_eq (T := T) (C := C) (ls := ls) (k := 0) (n := 4) (o5 := .no) (o6 := .no) (o7 := .no) hd (by decide) (by decide) (by decide) h0 (by omega) h
  obtain ⟨l2, q5, q6, q7, k1, k2, k3, k4⟩ := turn_eq (T := T) (C := C) (ls := l1) (k := 1) (n := 5) (o5 := p5) (o6 := p6) (o7 := p7) hd (by decide) (by decide) (by decide) g2 (by omega) g1
  refine ⟨TL.joinL [10] l2, (LS_text k2 (by omega) (by decide) k1).1, run_of (b := b__law_changed) (env := [T, C, .no, .no, .no, .no, .no, .no]) (o := .ret (.sh (.str (nm (TL.joinL [10] l2))))) rfl ?_ rfl⟩
  unfold b__law_changed
  refine seq_n (set_eq (call_ow (cons_eq rfl (cons_eq rfl (cons_eq rfl rfl))) ex)) ?_
  refine seq_n (ρ' := CE T C xs ls .no .no .no .no) (by rw [setO_eq (split_lines rfl (by omega)), eL]; rfl) ?_
  have r2 : rng1 [.int 2] = .ok [.int ((0 : Nat) : Int), .int ((1 : Nat) : Int)] := rng1_nat 2 (by decide)
  have lp : forL (gN 4) B1__law_changed [.int ((0 : Nat) : Int), .int ((1 : Nat) : Int)] (CE T C xs ls .no .no .no .no) = .next (CE T C xs l2 (.sh (.int ((1 : Nat) : Int))) q5 q6 q7) := by
    rw [for_cons]
    show lpO _ (B1__law_changed (CE T C xs ls (.sh (.int ((0 : Nat) : Int))) .no .no .no)) = _
    rw [g4, lp_next, for_cons]
    show lpO _ (B1__law_changed (CE T C xs l1 (.sh (.int ((1 : Nat) : Int))) p5 p6 p7)) = _
    rw [k4, lp_next, for_nil]
  refine seq_n (for_eq (appO_eq (cons_eq rfl rfl) r2) lp) ?_
  show sRet _ [T, C, .sh (.lst (xs.map D.int)), .sh (.lst (wds l2)), .sh (.int ((1 : Nat) : Int)), q5, q6, q7] = _
  exact ret_eq (join_lines (n := 6) k2 (by omega) (by decide) k1 rfl)
end K47

set_option maxRecDepth 100000
set_option maxHeartbeats 1000000
namespace K47
open PySem PL
theorem row_lG {x : Rw4} (h : rOk x) : lG 4 (lineOf x) := ⟨_, by simp, row_words h, rfl⟩
/-- the lines of the text of rows, as split has them -/
theorem rows_lines (xs : List Rw4) (h : ∀ x ∈ xs, rOk x) (hl : xs.length ≤ 60) : ∃ ls : List (List Nat), 0 < ls.length ∧ ls.length ≤ 60 ∧ LS 4 ls ∧ TL.joinL [10] (xs.map lineOf) = TL.joinL [10] ls := by
  cases xs with
  | nil => exact ⟨[[]], by simp, by simp, fun l hx => by rw [List.mem_singleton.mp hx]; exact lG_nil _, rfl⟩
  | cons x r => exact ⟨(x :: r).map lineOf, by simp, by rw [List.length_map]; exact hl, fun l hx => by obtain ⟨y, hy, rfl⟩ := List.mem_map.mp hx; exact row_lG (h y hy), rfl⟩
def defL : List Nat := [48, 32, 48, 32, 97, 32, 105, 110]
theorem lit_def : ("0 0 a in" : Str) = nm defL := by decide +kernel
theorem def_lG : lG 4 defL := by
  refine ⟨[[48], [48], [97], [105, 110]], by simp, fun w hw => ?_, rfl⟩
  simp only [List.mem_cons, List.not_mem_nil, or_false] at hw
  rcases hw with e | e | e | e <;> subst e <;> exact ⟨⟨rfl, by decide⟩, by decide, by decide⟩
theorem word_lG {w : List Nat} (h : wGood w) : lG 4 w := ⟨[w], by simp, fun x hx => by rw [List.mem_singleton.mp hx]; exact h, rfl⟩
theorem cutN {α : Type} (xs : List α) (k : Nat) : cutG xs none (some (k : Int)) = xs.take k := by
  unfold cutG
  rw [HT.sIx_none, HT.sIx_nat, List.drop_zero, Nat.sub_zero, List.take_eq_take_iff]
  omega
theorem cut1 {α : Type} (xs : List α) : cutG xs (some 1) none = xs.drop 1 := by
  unfold cutG
  rw [HT.sIx_none, show ((1 : Int)) = ((1 : Nat) : Int) from rfl, HT.sIx_nat]
  rcases Nat.lt_or_ge xs.length 1 with h | h
  · have : xs = [] := List.length_eq_zero_iff.mp (by omega)
    subst this; rfl
  · rw [Nat.min_eq_left h, List.take_of_length_le (by rw [List.length_drop]; omega)]
theorem told_no (d : D) (h : isiB (tyD d) "str" = false) : m__law_told [d] = .ok (.sh (.tup [.str "value", .str "text"])) := by
  have e : m_parse_history [d] = .exc (.badValue (.str "text")) := by
    refine run_of (b := b_parse_history) (env := [.sh d, .no, .no, .no]) (o := .exc (.badValue (.str "text")) [.sh d, .no, .no, .no]) rfl ?_ rfl
    unfold b_parse_history
    exact seq_exc (drop_exc (call_exc (cons_eq rfl (cons_eq rfl rfl)) (need_text_no _ _ h)))
  exact told_exc (e := .badValue (.str "text")) trivial e
theorem same_vt : m__law_same 6 [.tup [.str "value", .str "text"], .tup [.str "value", .str "text"]] = yes := same_refl 6 _ (by decide +kernel) (by decide)
theorem vals_loop {a0 a1 a2 a3 a4 a5 a6 a7 : Sl} : ∀ (ds : List D) (o : Sl), (∀ d ∈ ds, isiB (tyD d) "str" = false) → ∃ o', forL (gN 8) B1_law ds [a0, a1, a2, a3, a4, a5, a6, a7, o] = .next [a0, a1, a2, a3, a4, a5, a6, a7, o']
  | [], o, _ => ⟨o, rfl⟩
  | d :: ds, o, h => by
    obtain ⟨o', ih⟩ := vals_loop (a0 := a0) (a1 := a1) (a2 := a2) (a3 := a3) (a4 := a4) (a5 := a5) (a6 := a6) (a7 := a7) ds (.sh d) fun x hx => h x (List.mem_cons_of_mem _ hx)
    refine ⟨o', ?_⟩
    rw [for_cons]
    show lpO _ (B1_law [a0, a1, a2, a3, a4, a5, a6, a7, .sh d]) = _
    have : B1_law [a0, a1, a2, a3, a4, a5, a6, a7, .sh d] = .next [a0, a1, a2, a3, a4, a5, a6, a7, .sh d] :=
      if_eq (b := false) (not_eq (b := true) (tst_eq (call_sh (cons_eq (call_sh (cons_eq rfl rfl) (told_no d (h d List.mem_cons_self))) (cons_eq (app_eq (cons_eq rfl (cons_eq rfl rfl)) (tup2 _ _)) rfl)) same_vt) rfl)) rfl
    rw [this, lp_next]
    exact ih
theorem law_true (ns : List Int) (hns : ns.length ≤ 63) : m_law [.scr ns] = .ok (.sh (.bl true)) := by
  obtain ⟨c0, h0⟩ := cell_eq ns 0
  obtain ⟨c5, h5⟩ := cell_eq ns 5
  obtain ⟨sh, dsh, esh⟩ := draw c0 4 5040 (by decide) (by decide) (by decide)
  obtain ⟨x0, e0, x00, x01⟩ := draw_get dsh (k := 0) (by decide)
  obtain ⟨x1, e1, x10, x11⟩ := draw_get dsh (k := 1) (by decide)
  obtain ⟨x2, e2, x20, x21⟩ := draw_get dsh (k := 2) (by decide)
  obtain ⟨x3, e3, x30, x31⟩ := draw_get dsh (k := 3) (by decide)
  let S : Sl := .sh (.scr ns)
  let SH : Sl := .sh (.lst (sh.map D.int))
  -- the length
  have hlen : ∃ len : Nat, len ≤ 60 ∧ ((if x1 % 4 = 0 then 50 + x0 % 11 else x0 % 10 : Int)) = (len : Nat) := by
    refine ⟨((if x1 % 4 = 0 then 50 + x0 % 11 else x0 % 10 : Int)).toNat, ?_, ?_⟩
    · split <;> omega
    · split <;> omega
  obtain ⟨len, len60, elen⟩ := hlen
  obtain ⟨rows, hr, hrl, eh⟩ := history_eq ns len len60
  have hrl' : rows.length ≤ 60 := by omega
  obtain ⟨tk, rt⟩ := rows_text rows hr hrl'
  obtain ⟨ls, l0, l60, lls, ejoin⟩ := rows_lines rows hr hrl'
  have ew := written_eq rows hr hrl'
  have ef := format_eq rows hr hrl'
  have eL := (LS_text l0 (by omega) (by decide) lls).2
  obtain ⟨tc, hc1, hc2⟩ := changed ls c5 l0 (by omega) lls
  rw [← ejoin] at hc2 eL
  have tlen := tk.2.1
  have tasc := tk.1
  have ask := asked _ tk
  have tld := told_text _ tk
  rw [rt] at tld
  have plr := pl_read rows hr (by omega)
  generalize TL.joinL [10] (rows.map lineOf) = t at *
  let H : Sl := .sh (.lst (rows.map rowD))
  let X : Sl := .sh (.str (nm t))
  have ptext : m__law_same 6 [.str (nm t), .str (nm t)] = yes := same_refl 6 _ (by show PyData.strOk (nm t) = true; exact asc_ok tasc) (by show (0 : Nat) < 6; decide)
  have phist : m__law_same 6 [.lst (rows.map rowD), .lst (rows.map rowD)] = yes := same_refl 6 _ (by have := plr.1; simp only [pl, plA, Bool.and_eq_true] at this ⊢; exact this.1.2.1) (by have := plr.2; simp only [dep, depA] at this ⊢; omega)
  -- sixty-one lines
  let big := (ls ++ List.replicate 61 defL).take 61
  have bigl : big.length = 61 := by simp [big]
  have bLS : LS 4 big := fun l hx => by
    rcases List.mem_append.mp (List.mem_of_mem_take hx) with e | e
    · exact lls l e
    · rw [(List.mem_replicate.mp e).2]; exact def_lG
  obtain ⟨j, ej⟩ := Int.eq_ofNat_of_zero_le (Int.emod_nonneg x2 (by decide : (61 : Int) ≠ 0))
  have hj : j < big.length := by rw [bigl]; have := Int.emod_lt_of_pos x2 (by decide : (0 : Int) < 61); omega
  obtain ⟨w, gw, ewd⟩ := law_word x3
  let big2 := big.set j w
  have b2l : big2.length = 61 := by simp [big2, bigl]
  have b2LS : LS 4 big2 := LS_set bLS (word_lG gw)
  have askB : ∀ l2 : List (List Nat), 0 < l2.length → l2.length ≤ 61 → LS 4 l2 → m__law_asked [.str (nm (TL.joinL [10] l2))] = yes := fun l2 a b c => asked _ (LS_text a (by omega) (by decide) c).1
  refine run_of (b := b_law) (env := [S, .no, .no, .no, .no, .no, .no, .no, .no]) (o := .ret (.sh (.bl true))) rfl ?_ rfl
  unfold b_law
  refine seq_n (set_eq (call_ow (cons_eq (call_sh (cons_eq rfl (cons_eq rfl rfl)) h0) (cons_eq rfl (cons_eq rfl rfl))) esh)) ?_
  refine seq_n (ρ' := [S, SH, .sh (.int (x0 % 10)), .no, .no, .no, .no, .no, .no]) (set_eq (bin_eq (app_eq (cons_eq (bin_eq rfl rfl e0) rfl) rfl) rfl (mod_int _ _ (by decide)))) ?_
  have s3 : sIf (tst bOf (PL.bin eqD (PL.bin modD (app intL (aCons (PL.bin ixD (eVar 1) (eC (.int 1))) aNil)) (eC (.int 4))) (eC (.int 0)))) (sSet 2 (PL.bin addD (eC (.int 50)) (PL.bin modD (app intL (aCons (PL.bin ixD (eVar 1) (eC (.int 0))) aNil)) (eC (.int 11))))) sNext [S, SH, .sh (.int (x0 % 10)), .no, .no, .no, .no, .no, .no] = .next [S, SH, .sh (.int ((len : Nat) : Int)), .no, .no, .no, .no, .no, .no] := by
    rw [← elen]
    refine if_eq (b := decide (x1 % 4 = 0)) (tst_eq (bin_eq (bin_eq (app_eq (cons_eq (bin_eq rfl rfl e1) rfl) rfl) rfl (mod_int _ _ (by decide))) rfl (eq_int _ _)) rfl) ?_
    by_cases z : x1 % 4 = 0
    · rw [decide_eq_true z, if_pos z, if_pos rfl]
      exact set_eq (bin_eq rfl (bin_eq (app_eq (cons_eq (bin_eq rfl rfl e0) rfl) rfl) rfl (mod_int _ _ (by decide))) rfl)
    · rw [decide_eq_false z, if_neg z, if_neg (by decide)]; rfl
  refine seq_n s3 ?_
  refine seq_n (ρ' := [S, SH, .sh (.int ((len : Nat) : Int)), H, .no, .no, .no, .no, .no]) (set_eq (call_ow (cons_eq rfl (cons_eq rfl rfl)) eh)) ?_
  refine seq_n (ρ' := [S, SH, .sh (.int ((len : Nat) : Int)), H, X, .no, .no, .no, .no]) (set_eq (call_sh (cons_eq rfl rfl) ew)) ?_
  refine seq_n (ρ' := [S, SH, .sh (.int ((len : Nat) : Int)), H, X, H, .no, .no, .no]) (set_eq (own_eq (appO_eq (cons_eq rfl rfl) rfl))) ?_
  refine seq_n (ρ' := [S, SH, .sh (.int ((len : Nat) : Int)), H, X, H, X, .no, .no]) (set_eq (call_sh (cons_eq rfl rfl) ef)) ?_
  refine seq_n (if_eq (b := false) (or_no (not_eq (b := true) (tst_eq (call_sh (cons_eq rfl (cons_eq rfl rfl)) ptext) rfl)) (or_no (not_eq (b := true) (tst_eq (call_sh (cons_eq rfl (cons_eq rfl rfl)) phist) rfl)) (not_eq (b := true) (tst_eq (call_sh (cons_eq (call_sh (cons_eq rfl rfl) tld) (cons_eq (app_eq (cons_eq rfl (cons_eq rfl rfl)) (tup2 _ _)) rfl)) (same_refl 6 _ plr.1 plr.2)) rfl)))) rfl) ?_
  refine seq_n (if_eq (b := false) (or_no (not_eq (b := true) (tst_eq (call_sh (cons_eq rfl rfl) ask) rfl)) (not_eq (b := true) (tst_eq (call_sh (cons_eq (call_sh (cons_eq rfl (cons_eq (call_sh (cons_eq rfl (cons_eq rfl rfl)) h5) rfl)) hc2) rfl) (asked _ hc1)) rfl))) rfl) ?_
  let E8 (b : Sl) : En := [S, SH, .sh (.int ((len : Nat) : Int)), H, X, H, X, b, .no]
  have s10 : sSetO 7 (sliceO (PL.bin addD (PL.own (strM splitO (eVar 4) (eC (.str "\n")))) (PL.bin mulD (PL.own (appO lstD (aCons (eC (.str "0 0 a in")) aNil))) (eC (.int 61)))) pN (pS (eC (.int 61)))) (E8 .no) = .next (E8 (.ow (.lst (wds big)))) := by
    refine setO_eq ?_
    have a1 : PL.own (strM splitO (eVar 4) (eC (.str "\n"))) (E8 .no) = .ok (.lst (wds ls)) := own_eq (by rw [split_lines rfl (by omega), eL])
    have a2 : PL.bin mulD (PL.own (appO lstD (aCons (eC (.str "0 0 a in")) aNil))) (eC (.int 61)) (E8 .no) = .ok (.lst (List.replicate 61 (.str (nm defL)))) := by
      refine bin_eq (own_eq (appO_eq (ds := [.str (nm defL)]) (by rw [← lit_def]; rfl) (lst_ok _ (by simp)))) rfl ?_
      show mulD (.lst [.str (nm defL)]) (.int ((61 : Nat) : Int)) = _
      rw [mul_nat _ 61 (by decide) (by simp), rep_one]
    have a3 : PL.bin addD (PL.own (strM splitO (eVar 4) (eC (.str "\n")))) (PL.bin mulD (PL.own (appO lstD (aCons (eC (.str "0 0 a in")) aNil))) (eC (.int 61))) (E8 .no) = .ok (.lst (wds (ls ++ List.replicate 61 defL))) := by
      refine bin_eq a1 a2 ?_
      rw [add_lst _ _ (by rw [wds_len, List.length_replicate]; omega)]
      unfold wds
      rw [List.map_append, List.map_replicate]
    unfold sliceO
    rw [a3, bind_ok]
    show Res.ok (cutG (wds (ls ++ List.replicate 61 defL)) none (some ((61 : Nat) : Int))) = _
    rw [cutN]
    unfold wds
    rw [← List.map_take]
  refine seq_n s10 ?_
  have s11 : sPut 7 (PL.bin modD (app intL (aCons (PL.bin ixD (eVar 1) (eC (.int 2))) aNil)) (eC (.int 61))) (callE m__law_word (aCons (PL.bin ixD (eVar 1) (eC (.int 3))) aNil)) (E8 (.ow (.lst (wds big)))) = .next (E8 (.ow (.lst (wds big2)))) := by
    rw [put_ok (ρ := E8 (.ow (.lst (wds big)))) (xs := wds big) (j := j) (d := .str (nm w)) (n := .int ((j : Nat) : Int)) rfl (call_sh (cons_eq (bin_eq rfl rfl e3) rfl) ewd) (bin_eq (app_eq (cons_eq (bin_eq rfl rfl e2) rfl) rfl) rfl (by rw [mod_int _ _ (by decide), ej])) rfl (by rw [wds_len]; exact hj), wds_set]
    rfl
  refine seq_n s11 ?_
  have B : ∀ (f : En → Res D) (l2 : List (List Nat)), 0 < l2.length → l2.length ≤ 61 → LS 4 l2 → f (E8 (.sh (.lst (wds big2)))) = .ok (.lst (wds l2)) → notB (tst truD (callE m__law_asked (aCons (strM joinD (eC (.str "\n")) f) aNil))) (E8 (.sh (.lst (wds big2)))) = .ok false := fun f l2 a b c hf =>
    not_eq (b := true) (tst_eq (call_sh (cons_eq (join_lines a (by omega) (by decide) c hf) rfl) (askB l2 a b c)) rfl)
  have t12 : borT 7 (orB (notB (tst truD (callE m__law_asked (aCons (strM joinD (eC (.str "\n")) (eVar 7)) aNil)))) (orB (notB (tst truD (callE m__law_asked (aCons (strM joinD (eC (.str "\n")) (sliceE (eVar 7) pN (pS (eC (.int 60))))) aNil)))) (notB (tst truD (callE m__law_asked (aCons (strM joinD (eC (.str "\n")) (sliceE (eVar 7) (pS (eC (.int 1))) pN)) aNil)))))) (E8 (.ow (.lst (wds big2)))) = .ok false := by
    refine borT_ok (xs := wds big2) rfl ?_
    show (orB _ _) (E8 (.sh (.lst (wds big2)))) = _
    refine or_no (B _ big2 (by omega) (by omega) b2LS rfl) (or_no (B _ (big2.take 60) (by rw [List.length_take]; omega) (by rw [List.length_take]; omega) (fun l hx => b2LS l (List.mem_of_mem_take hx)) ?_) (B _ (big2.drop 1) (by rw [List.length_drop]; omega) (by rw [List.length_drop]; omega) (fun l hx => b2LS l (List.mem_of_mem_drop hx)) ?_))
    · show Res.ok (D.lst (cutG (wds big2) none (some ((60 : Nat) : Int)))) = _
      rw [cutN]; unfold wds; rw [← List.map_take]
    · show Res.ok (D.lst (cutG (wds big2) (some 1) none)) = _
      rw [cut1]; unfold wds; rw [← List.map_drop]
  refine seq_n (if_eq t12 rfl) ?_
  show (sSeq _ _) (E8 (.sh (.lst (wds big2)))) = _
  obtain ⟨o', lp⟩ := vals_loop (a0 := S) (a1 := SH) (a2 := .sh (.int ((len : Nat) : Int))) (a3 := H) (a4 := X) (a5 := H) (a6 := X) (a7 := .sh (.lst (wds big2))) [.non, .int 5, .lst (wds big2), .tup (rows.map rowD)] .no (fun d hd => by
    simp only [List.mem_cons, List.not_mem_nil, or_false] at hd
    rcases hd with e | e | e | e <;> subst e <;> rfl)
  refine seq_n (for_eq (appO_eq (cons_eq rfl (cons_eq rfl (cons_eq (own_eq (appO_eq (cons_eq rfl rfl) rfl)) (cons_eq (app_eq (cons_eq rfl rfl) rfl) rfl)))) (lst_ok _ (by simp))) lp) (ret_eq rfl)
end K47

set_option maxRecDepth 100000
set_option maxHeartbeats 4000000
namespace K47
open PySem PySem.Spec PyProof.Rows L2 PL
abbrev PW : Program := PySem.Challenge.pw_parcelbank_k47_history_text
abbrev topS (i : Nat) : Stmt := PW.main.body.getD i (.Pass ⟨0, 0, 0, 0⟩)
/-- what the top has left -/
structure XA where
  BadText : Addr
  BadValue : Addr
  TooMany : Addr
variable {w : World} {K : PySem.W.Frag} {mg : Str → Option Value} {base : Heap} {XS : XA}
structure Fc (w : World) (K : PySem.W.Frag) (mg : Str → Option Value) (base : Heap) (XS : XA) : Prop where
  n_abs : mg "abs" = none
  n_all : mg "all" = none
  n_bool : mg "bool" = none
  n_int : mg "int" = none
  n_isinstance : mg "isinstance" = none
  n_len : mg "len" = none
  n_list : mg "list" = none
  n_range : mg "range" = none
  n_str : mg "str" = none
  n_tuple : mg "tuple" = none
  c_DIGITS : ∃ t, mg "DIGITS" = some (.str "0123456789" t)
  c_LAST_BOX : ∃ t, mg "LAST_BOX" = some (.int 29 t)
  c_LATEST : ∃ t, mg "LATEST" = some (.int 1000000 t)
  c_LETTERS : ∃ t, mg "LETTERS" = some (.str "abcdefghijklmnopqrstuvwxyz" t)
  c_MOST_OPENINGS : ∃ t, mg "MOST_OPENINGS" = some (.int 60 t)
  c_WAYS : ∃ p, mg "WAYS" = some (.ref p) ∧ ∀ G, Rep K G (.ref p) (.tup [(.str "in"), (.str "out")])
  f__law_row : Fx PW K mg "_law_row" "_law_row" (topS 34) ["cell", "many", "limit"]
  f__law_cell : Fx PW K mg "_law_cell" "_law_cell" (topS 33) ["script", "k"]
  f__law_name : Fx PW K mg "_law_name" "_law_name" (topS 36) ["number"]
  f__law_history : Fx PW K mg "_law_history" "_law_history" (topS 37) ["script", "length"]
  f__law_written : Fx PW K mg "_law_written" "_law_written" (topS 38) ["history"]
  f_need_list : Fx PW K mg "need_list" "need_list" (topS 10) ["value", "limit", "what"]
  f_is_integer : Fx PW K mg "is_integer" "is_integer" (topS 7) ["value"]
  f_in_range : Fx PW K mg "in_range" "in_range" (topS 8) ["value", "low", "high"]
  f_is_time : Fx PW K mg "is_time" "is_time" (topS 20) ["value"]
  f_is_name : Fx PW K mg "is_name" "is_name" (topS 19) ["value"]
  f_is_opening : Fx PW K mg "is_opening" "is_opening" (topS 27) ["value"]
  f_need_history : Fx PW K mg "need_history" "need_history" (topS 28) ["value"]
  f_format_history : Fx PW K mg "format_history" "format_history" (topS 29) ["history"]
  f__law_word : Fx PW K mg "_law_word" "_law_word" (topS 39) ["number"]
  f__law_same : Fx PW K mg "_law_same" "_law_same" (topS 35) ["actual", "due"]
  f__law_number : Fx PW K mg "_law_number" "_law_number" (topS 42) ["word", "high"]
  f__law_is_name : Fx PW K mg "_law_is_name" "_law_is_name" (topS 43) ["word"]
  f__law_good : Fx PW K mg "_law_good" "_law_good" (topS 44) ["place", "word"]
  f__law_read : Fx PW K mg "_law_read" "_law_read" (topS 45) ["text"]
  f_need_text : Fx PW K mg "need_text" "need_text" (topS 9) ["value", "what"]
  f_lines_of : Fx PW K mg "lines_of" "lines_of" (topS 12) ["text", "limit"]
  f_word_at : Fx PW K mg "word_at" "word_at" (topS 13) ["words", "place", "line"]
  f_is_written : Fx PW K mg "is_written" "is_written" (topS 11) ["word", "low", "high"]
  f_number_at : Fx PW K mg "number_at" "number_at" (topS 14) ["words", "place", "line", "high", "what"]
  f_name_at : Fx PW K mg "name_at" "name_at" (topS 22) ["words", "place", "line", "what"]
  f_need_end : Fx PW K mg "need_end" "need_end" (topS 15) ["words", "many", "line"]
  f_opening_at : Fx PW K mg "opening_at" "opening_at" (topS 30) ["words", "line"]
  f_parse_history : Fx PW K mg "parse_history" "parse_history" (topS 31) ["text"]
  f__law_told : Fx PW K mg "_law_told" "_law_told" (topS 46) ["text"]
  f__law_asked : Fx PW K mg "_law_asked" "_law_asked" (topS 47) ["text"]
  f__law_changed_line : Fx PW K mg "_law_changed_line" "_law_changed_line" (topS 40) ["line", "way", "first", "second"]
  f__law_changed : Fx PW K mg "_law_changed" "_law_changed" (topS 41) ["text", "cell"]
  f_law : Fx PW K mg "law" "law" (topS 48) ["script"]
  x_BadText : ExT PW w K mg base "BadText" ["line", "word", "what"] XS.BadText
  x_BadValue : ExT PW w K mg base "BadValue" ["what"] XS.BadValue
  x_TooMany : ExT PW w K mg base "TooMany" ["limit"] XS.TooMany
  e_BadText : PySem.W.exmOne K (.ref XS.BadText) (.ref XS.BadText) = some true ∧ PySem.W.exmOne K (.ref XS.BadValue) (.ref XS.BadText) = some false ∧ PySem.W.exmOne K (.ref XS.TooMany) (.ref XS.BadText) = some false
  e_BadValue : PySem.W.exmOne K (.ref XS.BadText) (.ref XS.BadValue) = some false ∧ PySem.W.exmOne K (.ref XS.BadValue) (.ref XS.BadValue) = some true ∧ PySem.W.exmOne K (.ref XS.TooMany) (.ref XS.BadValue) = some false
  e_TooMany : PySem.W.exmOne K (.ref XS.BadText) (.ref XS.TooMany) = some false ∧ PySem.W.exmOne K (.ref XS.BadValue) (.ref XS.TooMany) = some false ∧ PySem.W.exmOne K (.ref XS.TooMany) (.ref XS.TooMany) = some true
abbrev FcK {K : PySem.W.Frag} {h : Heap} (_ : K.In h) (w : World) (mg : Str → Option Value) (base : Heap) (XS : XA) : Prop := Fc w K mg base XS
theorem Fc.n_BadText (Z : Fc w K mg base XS) {X : Cx} (hg : Gl X "BadText" := by rfl) (hm : X.mg = mg := by rfl) : Names X "BadText" (.ref XS.BadText) := ⟨hg, by decide, .inl (hm ▸ Z.x_BadText.gC)⟩
theorem Fc.cl_BadText (Z : Fc w K mg base XS) (e : Exc) (he : knX e = true) : PySem.W.exmOne K (clOf mg e.cls) (.ref XS.BadText) = some (isX_BadText e) := by
  obtain ⟨h_BadText, h_BadValue, h_TooMany⟩ := Z.e_BadText
  cases e <;> first
    | (cases he; done)
    | (show PySem.W.exmOne K ((mg "BadText").getD .none) _ = _; rw [Z.x_BadText.gC]; exact h_BadText)
    | (show PySem.W.exmOne K ((mg "BadValue").getD .none) _ = _; rw [Z.x_BadValue.gC]; exact h_BadValue)
    | (show PySem.W.exmOne K ((mg "TooMany").getD .none) _ = _; rw [Z.x_TooMany.gC]; exact h_TooMany)
theorem Fc.n_BadValue (Z : Fc w K mg base XS) {X : Cx} (hg : Gl X "BadValue" := by rfl) (hm : X.mg = mg := by rfl) : Names X "BadValue" (.ref XS.BadValue) := ⟨hg, by decide, .inl (hm ▸ Z.x_BadValue.gC)⟩
theorem Fc.cl_BadValue (Z : Fc w K mg base XS) (e : Exc) (he : knX e = true) : PySem.W.exmOne K (clOf mg e.cls) (.ref XS.BadValue) = some (isX_BadValue e) := by
  obtain ⟨h_BadText, h_BadValue, h_TooMany⟩ := Z.e_BadValue
  cases e <;> first
    | (cases he; done)
    | (show PySem.W.exmOne K ((mg "BadText").getD .none) _ = _; rw [Z.x_BadText.gC]; exact h_BadText)
    | (show PySem.W.exmOne K ((mg "BadValue").getD .none) _ = _; rw [Z.x_BadValue.gC]; exact h_BadValue)
    | (show PySem.W.exmOne K ((mg "TooMany").getD .none) _ = _; rw [Z.x_TooMany.gC]; exact h_TooMany)
theorem Fc.n_TooMany (Z : Fc w K mg base XS) {X : Cx} (hg : Gl X "TooMany" := by rfl) (hm : X.mg = mg := by rfl) : Names X "TooMany" (.ref XS.TooMany) := ⟨hg, by decide, .inl (hm ▸ Z.x_TooMany.gC)⟩
theorem Fc.cl_TooMany (Z : Fc w K mg base XS) (e : Exc) (he : knX e = true) : PySem.W.exmOne K (clOf mg e.cls) (.ref XS.TooMany) = some (isX_TooMany e) := by
  obtain ⟨h_BadText, h_BadValue, h_TooMany⟩ := Z.e_TooMany
  cases e <;> first
    | (cases he; done)
    | (show PySem.W.exmOne K ((mg "BadText").getD .none) _ = _; rw [Z.x_BadText.gC]; exact h_BadText)
    | (show PySem.W.exmOne K ((mg "BadValue").getD .none) _ = _; rw [Z.x_BadValue.gC]; exact h_BadValue)
    | (show PySem.W.exmOne K ((mg "TooMany").getD .none) _ = _; rw [Z.x_TooMany.gC]; exact h_TooMany)
abbrev s__law_row : Stmt := topS 34
theorem sc__law_row : FnScope ["cell", "many", "limit", "rest", "numbers", "state", "k"] ["cell", "many", "limit"] (defScope s__law_row) := ⟨rfl, rfl, rfl, by decide +kernel, rfl, by decide +kernel, by decide +kernel⟩
theorem ok__law_row (Z : Fc w K mg base XS) : FnP PW w K mg base 1 "_law_row" ["cell", "many", "limit"] m__law_row := by
  obtain ⟨f, fd, F, hm, hb⟩ := Z.f__law_row
  refine fn_mk (k := 0) F sc__law_row hm hb fun cdv A outer s H G0 E c => ?_
  exact (s_cons (s_set c.nd (d_callB cd_abs nox_abs rfl Z.n_abs (a_cons (d_var 0) a_nil))) (s_cons (s_setO c.nd (o_lst a_nil)) (s_cons (s_if (t_cmp od_ge nox_ge (d_var 3) (d_bin od_pow nox_pow d_int d_int) (nomark _)) (s_cons (s_set c.nd (d_bin od_sub nox_sub (d_var 3) (d_bin od_pow nox_pow d_int d_int))) (s_cons (s_for c.po c.calm (i_rng1 Z.n_range (a_cons (d_var 1) a_nil)) (g_name 6 c.nd) (s_cons (s_app 4 (d_bin od_mod nox_mod (d_callTy cd_int nox_int rfl Z.n_int (a_cons (d_var 3) a_nil)) (d_var 2))) (s_one (s_set c.nd (d_bin od_fdiv nox_fdiv (d_var 3) (d_var 2)))))) (s_one (s_retV 4)))) s_nil) (s_cons (s_set c.nd (d_bin od_mod nox_mod (d_callTy cd_int nox_int rfl Z.n_int (a_cons (d_bin od_add nox_add (d_bin od_mul nox_mul (d_var 3) d_int) d_int) a_nil)) d_int)) (s_cons (s_for c.po c.calm (i_rng1 Z.n_range (a_cons (d_var 1) a_nil)) (g_name 6 c.nd) (s_cons (s_set c.nd (d_bin od_mod nox_mod (d_callTy cd_int nox_int rfl Z.n_int (a_cons (d_bin od_add nox_add (d_bin od_add nox_add (d_bin od_mul nox_mul (d_var 5) d_int) (d_bin od_mul nox_mul (d_var 6) d_int)) (d_var 3)) a_nil)) d_int)) (s_one (s_app 4 (d_bin od_mod nox_mod (d_callTy cd_int nox_int rfl Z.n_int (a_cons (d_bin od_fdiv nox_fdiv (d_var 5) d_int) a_nil)) (d_var 2)))))) (s_one (s_retV 4)))))))
abbrev s__law_cell : Stmt := topS 33
theorem sc__law_cell : FnScope ["script", "k"] ["script", "k"] (defScope s__law_cell) := ⟨rfl, rfl, rfl, by decide +kernel, rfl, by decide +kernel, by decide +kernel⟩
theorem ok__law_cell (Z : Fc w K mg base XS) : FnP PW w K mg base 1 "_law_cell" ["script", "k"] m__law_cell := by
  obtain ⟨f, fd, F, hm, hb⟩ := Z.f__law_cell
  refine fn_mk (k := 0) F sc__law_cell hm hb fun cdv A outer s H G0 E c => ?_
  exact (s_cons (s_if (t_cmp od_lt nox_lt (d_var 1) (d_callB cd_len nox_len rfl Z.n_len (a_cons (d_var 0) a_nil)) (nomark _)) (s_one (s_ret (d_callTy cd_int nox_int rfl Z.n_int (a_cons (d_ix (d_var 0) (d_var 1) (fun _ _ => rfl)) a_nil)))) s_nil) (s_one (s_ret d_int)))
abbrev s__law_name : Stmt := topS 36
theorem sc__law_name : FnScope ["number", "letters", "name", "rest", "k"] ["number"] (defScope s__law_name) := ⟨rfl, rfl, rfl, by decide +kernel, rfl, by decide +kernel, by decide +kernel⟩
theorem ok__law_name (Z : Fc w K mg base XS) : FnP PW w K mg base 1 "_law_name" ["number"] m__law_name := by
  obtain ⟨f, fd, F, hm, hb⟩ := Z.f__law_name
  refine fn_mk (k := 0) F sc__law_name hm hb fun cdv A outer s H G0 E c => ?_
  exact (s_cons (s_set c.nd d_str) (s_cons (s_set c.nd (d_ix (d_var 1) (d_bin od_mod nox_mod (d_callTy cd_int nox_int rfl Z.n_int (a_cons (d_var 0) a_nil)) d_int) (fun _ _ => rfl))) (s_cons (s_set c.nd (d_bin od_fdiv nox_fdiv (d_var 0) d_int)) (s_cons (s_for c.po c.calm (i_rng1 Z.n_range (a_cons d_int a_nil)) (g_name 4 c.nd) (s_one (s_if (t_cmp od_gt nox_gt (d_var 3) d_int (nomark _)) (s_cons (s_set c.nd (d_bin od_add nox_add (d_var 2) (d_ix (d_var 1) (d_bin od_mod nox_mod (d_callTy cd_int nox_int rfl Z.n_int (a_cons (d_var 3) a_nil)) d_int) (fun _ _ => rfl)))) (s_one (s_set c.nd (d_bin od_fdiv nox_fdiv (d_var 3) d_int)))) s_nil))) (s_one (s_ret (d_var 2)))))))
abbrev s__law_history : Stmt := topS 37
theorem sc__law_history : FnScope ["script", "length", "scale", "times", "boxes", "people", "ways", "history", "k", "time"] ["script", "length"] (defScope s__law_history) := ⟨rfl, rfl, rfl, by decide +kernel, rfl, by decide +kernel, by decide +kernel⟩
theorem ok__law_history (Z : Fc w K mg base XS) : FnP PW w K mg base 2 "_law_history" ["script", "length"] m__law_history := by
  obtain ⟨f, fd, F, hm, hb⟩ := Z.f__law_history
  refine fn_mk (k := 1) F sc__law_history hm hb fun cdv A outer s H G0 E c => ?_
  exact (s_cons (s_set c.nd (d_ix (d_call (ok__law_row Z) c.toGE (by omega) rfl (a_cons (d_call (ok__law_cell Z) c.toGE (by omega) rfl (a_cons (d_var 0) (a_cons d_int a_nil)) (fl_cons (fl_cons fl_nil))) (a_cons d_int (a_cons d_int a_nil))) (fl_cons (fl_cons (fl_cons fl_nil)))) d_int (fun _ _ => rfl))) (s_cons (s_set c.nd (d_call (ok__law_row Z) c.toGE (by omega) rfl (a_cons (d_call (ok__law_cell Z) c.toGE (by omega) rfl (a_cons (d_var 0) (a_cons d_int a_nil)) (fl_cons (fl_cons fl_nil))) (a_cons (d_var 1) (a_cons d_int a_nil))) (fl_cons (fl_cons (fl_cons fl_nil))))) (s_cons (s_set c.nd (d_call (ok__law_row Z) c.toGE (by omega) rfl (a_cons (d_call (ok__law_cell Z) c.toGE (by omega) rfl (a_cons (d_var 0) (a_cons d_int a_nil)) (fl_cons (fl_cons fl_nil))) (a_cons (d_var 1) (a_cons d_int a_nil))) (fl_cons (fl_cons (fl_cons fl_nil))))) (s_cons (s_set c.nd (d_call (ok__law_row Z) c.toGE (by omega) rfl (a_cons (d_call (ok__law_cell Z) c.toGE (by omega) rfl (a_cons (d_var 0) (a_cons d_int a_nil)) (fl_cons (fl_cons fl_nil))) (a_cons (d_var 1) (a_cons (d_bin od_mul nox_mul d_int (d_bin od_pow nox_pow d_int d_int)) a_nil))) (fl_cons (fl_cons (fl_cons fl_nil))))) (s_cons (s_set c.nd (d_call (ok__law_row Z) c.toGE (by omega) rfl (a_cons (d_call (ok__law_cell Z) c.toGE (by omega) rfl (a_cons (d_var 0) (a_cons d_int a_nil)) (fl_cons (fl_cons fl_nil))) (a_cons (d_var 1) (a_cons d_int a_nil))) (fl_cons (fl_cons (fl_cons fl_nil))))) (s_cons (s_setO c.nd (o_lst a_nil)) (s_cons (s_for c.po c.calm (i_rng1 Z.n_range (a_cons (d_var 1) a_nil)) (g_name 8 c.nd) (s_cons (s_set c.nd (d_bin od_mod nox_mod (d_callTy cd_int nox_int rfl Z.n_int (a_cons (d_ix (d_var 3) (d_var 8) (fun _ _ => rfl)) a_nil)) (d_ix (d_own (o_lst (a_cons d_int (a_cons d_int (a_cons d_int (a_cons d_int a_nil)))))) (d_var 2) (fun _ _ => rfl)))) (s_one (s_app 7 (d_tup (a_cons (d_var 9) (a_cons (d_ix (d_var 4) (d_var 8) (fun _ _ => rfl)) (a_cons (d_call (ok__law_name Z) c.toGE (by omega) rfl (a_cons (d_ix (d_var 5) (d_var 8) (fun _ _ => rfl)) a_nil) (fl_cons fl_nil)) (a_cons (d_ix (d_own (o_lst (a_cons d_str (a_cons d_str a_nil)))) (d_ix (d_var 6) (d_var 8) (fun _ _ => rfl)) (fun _ _ => rfl)) a_nil))))))))) (s_one (s_retV 7)))))))))
abbrev s__law_written : Stmt := topS 38
theorem sc__law_written : FnScope ["history", "lines", "opening"] ["history"] (defScope s__law_written) := ⟨rfl, rfl, rfl, by decide +kernel, rfl, by decide +kernel, by decide +kernel⟩
theorem ok__law_written (Z : Fc w K mg base XS) : FnP PW w K mg base 1 "_law_written" ["history"] m__law_written := by
  obtain ⟨f, fd, F, hm, hb⟩ := Z.f__law_written
  refine fn_mk (k := 0) F sc__law_written hm hb fun cdv A outer s H G0 E c => ?_
  exact (s_cons (s_setO c.nd (o_lst a_nil)) (s_cons (s_for c.po c.calm (i_seq (d_var 0)) (g_name 2 c.nd) (s_one (s_app 1 (d_join d_str (d_own (o_lst (a_cons (d_callTy cd_str nox_str rfl Z.n_str (a_cons (d_ix (d_var 2) d_int (fun _ _ => rfl)) a_nil)) (a_cons (d_callTy cd_str nox_str rfl Z.n_str (a_cons (d_ix (d_var 2) d_int (fun _ _ => rfl)) a_nil)) (a_cons (d_ix (d_var 2) d_int (fun _ _ => rfl)) (a_cons (d_ix (d_var 2) d_int (fun _ _ => rfl)) a_nil)))))))))) (s_frz 1 (s_one (s_ret (d_join d_str (d_var 1)))))))
abbrev s_need_list : Stmt := topS 10
theorem sc_need_list : FnScope ["value", "limit", "what"] ["value", "limit", "what"] (defScope s_need_list) := ⟨rfl, rfl, rfl, by decide +kernel, rfl, by decide +kernel, by decide +kernel⟩
theorem ok_need_list (Z : Fc w K mg base XS) : FnP PW w K mg base 4 "need_list" ["value", "limit", "what"] m_need_list := by
  obtain ⟨f, fd, F, hm, hb⟩ := Z.f_need_list
  refine fn_mk (k := 3) F sc_need_list hm hb fun cdv A outer s H G0 E c => ?_
  exact (s_cons (s_if (t_not (t_tru (d_isi kit_list Z.n_isinstance Z.n_list rfl (d_var 0)))) (s_one (s_raise Z.x_BadValue c (by decide) mkx_bv (a_cons (d_var 2) a_nil))) s_nil) (s_one (s_if (t_cmp od_gt nox_gt (d_callB cd_len nox_len rfl Z.n_len (a_cons (d_var 0) a_nil)) (d_var 1) (nomark _)) (s_one (s_raise Z.x_TooMany c (by decide) mkx_tm (a_cons (d_var 1) a_nil))) s_nil)))
abbrev s_is_integer : Stmt := topS 7
theorem sc_is_integer : FnScope ["value"] ["value"] (defScope s_is_integer) := ⟨rfl, rfl, rfl, by decide +kernel, rfl, by decide +kernel, by decide +kernel⟩
theorem ok_is_integer (Z : Fc w K mg base XS) : FnP PW w K mg base 1 "is_integer" ["value"] m_is_integer := by
  obtain ⟨f, fd, F, hm, hb⟩ := Z.f_is_integer
  refine fn_mk (k := 0) F sc_is_integer hm hb fun cdv A outer s H G0 E c => ?_
  exact (s_one (s_ret (d_and (d_isi kit_int Z.n_isinstance Z.n_int rfl (d_var 0)) (d_one (d_not (d_isi kit_bool Z.n_isinstance Z.n_bool rfl (d_var 0)))))))
abbrev s_in_range : Stmt := topS 8
theorem sc_in_range : FnScope ["value", "low", "high"] ["value", "low", "high"] (defScope s_in_range) := ⟨rfl, rfl, rfl, by decide +kernel, rfl, by decide +kernel, by decide +kernel⟩
theorem ok_in_range (Z : Fc w K mg base XS) : FnP PW w K mg base 2 "in_range" ["value", "low", "high"] m_in_range := by
  obtain ⟨f, fd, F, hm, hb⟩ := Z.f_in_range
  refine fn_mk (k := 1) F sc_in_range hm hb fun cdv A outer s H G0 E c => ?_
  exact (s_one (s_ret (d_and (d_call (ok_is_integer Z) c.toGE (by omega) rfl (a_cons (d_var 0) a_nil) (fl_cons fl_nil)) (d_and (d_cmp od_le nox_le (d_var 1) (d_var 0) (nomark _)) (d_one (d_cmp od_le nox_le (d_var 0) (d_var 2) (nomark _)))))))
abbrev s_is_time : Stmt := topS 20
theorem sc_is_time : FnScope ["value"] ["value"] (defScope s_is_time) := ⟨rfl, rfl, rfl, by decide +kernel, rfl, by decide +kernel, by decide +kernel⟩
theorem ok_is_time (Z : Fc w K mg base XS) : FnP PW w K mg base 3 "is_time" ["value"] m_is_time := by
  obtain ⟨f, fd, F, hm, hb⟩ := Z.f_is_time
  refine fn_mk (k := 2) F sc_is_time hm hb fun cdv A outer s H G0 E c => ?_
  exact (s_one (s_ret (d_call (ok_in_range Z) c.toGE (by omega) rfl (a_cons (d_var 0) (a_cons d_int (a_cons (d_gint Z.c_LATEST) a_nil))) (fl_cons (fl_cons (fl_cons fl_nil))))))
abbrev s_is_name : Stmt := topS 19
theorem sc_is_name : FnScope ["value", "char"] ["value"] (defScope s_is_name) := ⟨rfl, rfl, rfl, by decide +kernel, rfl, by decide +kernel, by decide +kernel⟩
theorem ok_is_name (Z : Fc w K mg base XS) : FnP PW w K mg base 1 "is_name" ["value"] m_is_name := by
  obtain ⟨f, fd, F, hm, hb⟩ := Z.f_is_name
  refine fn_mk (k := 0) F sc_is_name hm hb fun cdv A outer s H G0 E c => ?_
  exact (s_cons (s_if (PW.pt (t_or (t_not (t_tru (d_isi kit_str Z.n_isinstance Z.n_str rfl (d_var 0)))) (t_or (t_cmp od_lt nox_lt (d_callB cd_len nox_len rfl Z.n_len (a_cons (d_var 0) a_nil)) d_int (nomark _)) (t_or1 (t_cmp od_gt nox_gt (d_callB cd_len nox_len rfl Z.n_len (a_cons (d_var 0) a_nil)) d_int (nomark _)))))) (s_one (s_ret d_bl)) s_nil) (s_cons (s_if (t_cmp (od_notIn c.toGE.hr) nox_notIn (d_ix (d_var 0) d_int (fun _ _ => rfl)) (d_gstr Z.c_LETTERS) (by rfl)) (s_one (s_ret d_bl)) s_nil) (s_cons (s_for c.po c.calm (i_seq (d_var 0)) (g_name 1 c.nd) (s_one (s_if (PW.pt (t_and (t_cmp (od_notIn c.toGE.hr) nox_notIn (d_var 1) (d_gstr Z.c_LETTERS) (by rfl)) (t_and1 (t_cmp (od_notIn c.toGE.hr) nox_notIn (d_var 1) (d_gstr Z.c_DIGITS) (by rfl))))) (s_one (s_ret d_bl)) s_nil))) (s_one (s_ret d_bl)))))
abbrev s_is_opening : Stmt := topS 27
theorem sc_is_opening : FnScope ["value"] ["value"] (defScope s_is_opening) := ⟨rfl, rfl, rfl, by decide +kernel, rfl, by decide +kernel, by decide +kernel⟩
theorem ok_is_opening (Z : Fc w K mg base XS) : FnP PW w K mg base 4 "is_opening" ["value"] m_is_opening := by
  obtain ⟨f, fd, F, hm, hb⟩ := Z.f_is_opening
  refine fn_mk (k := 3) F sc_is_opening hm hb fun cdv A outer s H G0 E c => ?_
  exact (s_cons (s_if (PW.pt (t_or (t_not (t_tru (d_isi kit_tuple Z.n_isinstance Z.n_tuple rfl (d_var 0)))) (t_or1 (t_cmp (od_ne c.toGE.hr) nox_ne (d_callB cd_len nox_len rfl Z.n_len (a_cons (d_var 0) a_nil)) d_int (nomark _))))) (s_one (s_ret d_bl)) s_nil) (s_cons (s_if (PW.pt (t_or (t_not (t_tru (d_call (ok_is_time Z) c.toGE (by omega) rfl (a_cons (d_ix (d_var 0) d_int (fun _ _ => rfl)) a_nil) (fl_cons fl_nil)))) (t_or (t_not (t_tru (d_call (ok_in_range Z) c.toGE (by omega) rfl (a_cons (d_ix (d_var 0) d_int (fun _ _ => rfl)) (a_cons d_int (a_cons (d_gint Z.c_LAST_BOX) a_nil))) (fl_cons (fl_cons (fl_cons fl_nil)))))) (t_or1 (t_not (t_tru (d_call (ok_is_name Z) c.toGE (by omega) rfl (a_cons (d_ix (d_var 0) d_int (fun _ _ => rfl)) a_nil) (fl_cons fl_nil)))))))) (s_one (s_ret d_bl)) s_nil) (s_one (s_ret (d_cmp (od_in c.toGE.hr) nox_in (d_ix (d_var 0) d_int (fun _ _ => rfl)) (d_gref Z.c_WAYS) (by rfl))))))
abbrev s_need_history : Stmt := topS 28
theorem sc_need_history : FnScope ["value", "opening"] ["value"] (defScope s_need_history) := ⟨rfl, rfl, rfl, by decide +kernel, rfl, by decide +kernel, by decide +kernel⟩
theorem ok_need_history (Z : Fc w K mg base XS) : FnP PW w K mg base 5 "need_history" ["value"] m_need_history := by
  obtain ⟨f, fd, F, hm, hb⟩ := Z.f_need_history
  refine fn_mk (k := 4) F sc_need_history hm hb fun cdv A outer s H G0 E c => ?_
  exact (s_cons (s_drop (d_call (ok_need_list Z) c.toGE (by omega) rfl (a_cons (d_var 0) (a_cons (d_gint Z.c_MOST_OPENINGS) (a_cons d_str a_nil))) (fl_cons (fl_cons (fl_cons fl_nil))))) (s_one (s_for c.po c.calm (i_seq (d_var 0)) (g_name 1 c.nd) (s_one (s_if (t_not (t_tru (d_call (ok_is_opening Z) c.toGE (by omega) rfl (a_cons (d_var 1) a_nil) (fl_cons fl_nil)))) (s_one (s_raise Z.x_BadValue c (by decide) mkx_bv (a_cons d_str a_nil))) s_nil)))))
abbrev s_format_history : Stmt := topS 29
theorem sc_format_history : FnScope ["history", "opening", "part"] ["history"] (defScope s_format_history) := ⟨rfl, rfl, rfl, by decide +kernel, rfl, by decide +kernel, by decide +kernel⟩
theorem ok_format_history (Z : Fc w K mg base XS) : FnP PW w K mg base 6 "format_history" ["history"] m_format_history := by
  obtain ⟨f, fd, F, hm, hb⟩ := Z.f_format_history
  refine fn_mk (k := 5) F sc_format_history hm hb fun cdv A outer s H G0 E c => ?_
  exact (s_cons (s_drop (d_call (ok_need_history Z) c.toGE (by omega) rfl (a_cons (d_var 0) a_nil) (fl_cons fl_nil))) (s_one (s_ret (d_join d_str (d_own (o_lc c.toGE (i_seq (d_var 0)) (x := "opening") (i := 1) (by show blkC ["history", "opening", "part"] (defScope s_format_history) _ _ = true; decide +kernel) (fun s H C cl fp => pg_name (i := 1) c.nd rfl (Or.inl rfl)) (fun s H C cl fp => ts_nil) (fun s H C cl fp => (d_join d_str (d_own (o_lc (c.toGE.blk s H _ _ fp) (i_seq (d_var 1)) (x := "part") (i := 2) (by rfl) (fun s H C cl fp => pg_name (i := 2) c.nd rfl (Or.inl rfl)) (fun s H C cl fp => ts_nil) (fun s H C cl fp => (d_callTy cd_str nox_str rfl Z.n_str (a_cons (d_var 2) a_nil)))))))))))))
abbrev s__law_word : Stmt := topS 39
theorem sc__law_word : FnScope ["number", "words"] ["number"] (defScope s__law_word) := ⟨rfl, rfl, rfl, by decide +kernel, rfl, by decide +kernel, by decide +kernel⟩
theorem ok__law_word (Z : Fc w K mg base XS) : FnP PW w K mg base 1 "_law_word" ["number"] m__law_word := by
  obtain ⟨f, fd, F, hm, hb⟩ := Z.f__law_word
  refine fn_mk (k := 0) F sc__law_word hm hb fun cdv A outer s H G0 E c => ?_
  exact (s_cons (s_set c.nd (d_own (o_lst (a_cons d_str (a_cons d_str (a_cons d_str (a_cons d_str (a_cons d_str (a_cons d_str (a_cons d_str (a_cons d_str (a_cons d_str (a_cons d_str (a_cons d_str (a_cons d_str (a_cons d_str a_nil)))))))))))))))) (s_cons (s_set c.nd (d_bin od_add nox_add (d_var 1) (d_own (o_lst (a_cons d_str (a_cons d_str (a_cons d_str (a_cons d_str (a_cons d_str (a_cons d_str (a_cons d_str (a_cons d_str (a_cons d_str (a_cons d_str (a_cons d_str (a_cons d_str a_nil)))))))))))))))) (s_cons (s_set c.nd (d_bin od_add nox_add (d_var 1) (d_own (o_lst (a_cons d_str (a_cons d_str (a_cons d_str (a_cons d_str (a_cons d_str (a_cons d_str (a_cons d_str (a_cons d_str (a_cons d_str (a_cons d_str (a_cons d_str a_nil))))))))))))))) (s_cons (s_set c.nd (d_bin od_add nox_add (d_var 1) (d_own (o_lst (a_cons d_str (a_cons d_str (a_cons d_str (a_cons d_str a_nil)))))))) (s_one (s_ret (d_ix (d_var 1) (d_bin od_mod nox_mod (d_callTy cd_int nox_int rfl Z.n_int (a_cons (d_var 0) a_nil)) d_int) (fun _ _ => rfl))))))))
abbrev s__law_same : Stmt := topS 35
theorem sc__law_same : FnScope ["actual", "due", "k"] ["actual", "due"] (defScope s__law_same) := ⟨rfl, rfl, rfl, by decide +kernel, rfl, by decide +kernel, by decide +kernel⟩
theorem ok__law_same (Z : Fc w K mg base XS) : ∀ n, FnP PW w K mg base (0 + n + 1) "_law_same" ["actual", "due"] (m__law_same n)
  | 0 => by
    obtain ⟨f, fd, F, hm, hb⟩ := Z.f__law_same
    exact fn_mk F sc__law_same hm hb fun cdv A outer s H G0 E c => s_never
  | n + 1 => by
    have again := ok__law_same Z n
    obtain ⟨f, fd, F, hm, hb⟩ := Z.f__law_same
    refine fn_mk (k := 0 + n + 1) F sc__law_same hm hb fun cdv A outer s H G0 E c => ?_
    exact (s_cons (s_if (t_cmp od_is nox_is (d_var 1) d_non (nomark _)) (s_one (s_ret (d_cmp od_is nox_is (d_var 0) d_non (nomark _)))) s_nil) (s_cons (s_if (t_tru (d_isi kit_bool Z.n_isinstance Z.n_bool rfl (d_var 1))) (s_one (s_ret (d_and (d_isi kit_bool Z.n_isinstance Z.n_bool rfl (d_var 0)) (d_one (d_cmp (od_eq c.toGE.hr) nox_eq (d_var 0) (d_var 1) (nomark _)))))) s_nil) (s_cons (s_if (t_tru (d_isi kit_int Z.n_isinstance Z.n_int rfl (d_var 1))) (s_one (s_ret (d_and (d_isi kit_int Z.n_isinstance Z.n_int rfl (d_var 0)) (d_and (d_not (d_isi kit_bool Z.n_isinstance Z.n_bool rfl (d_var 0))) (d_one (d_cmp (od_eq c.toGE.hr) nox_eq (d_var 0) (d_var 1) (nomark _))))))) s_nil) (s_cons (s_if (t_tru (d_isi kit_str Z.n_isinstance Z.n_str rfl (d_var 1))) (s_one (s_ret (d_and (d_isi kit_str Z.n_isinstance Z.n_str rfl (d_var 0)) (d_one (d_cmp (od_eq c.toGE.hr) nox_eq (d_var 0) (d_var 1) (nomark _)))))) s_nil) (s_cons (s_if (PW.pt (t_and (t_tru (d_isi kit_tuple Z.n_isinstance Z.n_tuple rfl (d_var 1))) (t_and1 (t_not (t_tru (d_isi kit_tuple Z.n_isinstance Z.n_tuple rfl (d_var 0))))))) (s_one (s_ret d_bl)) s_nil) (s_cons (s_if (PW.pt (t_and (t_tru (d_isi kit_list Z.n_isinstance Z.n_list rfl (d_var 1))) (t_and1 (t_not (t_tru (d_isi kit_list Z.n_isinstance Z.n_list rfl (d_var 0))))))) (s_one (s_ret d_bl)) s_nil) (s_cons (s_if (t_cmp (od_ne c.toGE.hr) nox_ne (d_callB cd_len nox_len rfl Z.n_len (a_cons (d_var 0) a_nil)) (d_callB cd_len nox_len rfl Z.n_len (a_cons (d_var 1) a_nil)) (nomark _)) (s_one (s_ret d_bl)) s_nil) (s_cons (s_for c.po c.calm (i_rng1 Z.n_range (a_cons (d_callB cd_len nox_len rfl Z.n_len (a_cons (d_var 1) a_nil)) a_nil)) (g_name 2 c.nd) (s_one (s_if (t_not (t_tru (d_call again c.toGE (by omega) rfl (a_cons (d_ix (d_var 0) (d_var 2) (fun _ _ => rfl)) (a_cons (d_ix (d_var 1) (d_var 2) (fun _ _ => rfl)) a_nil)) (fl_cons (fl_cons fl_nil))))) (s_one (s_ret d_bl)) s_nil))) (s_one (s_ret d_bl))))))))))
abbrev s__law_number : Stmt := topS 42
theorem sc__law_number : FnScope ["word", "high", "char"] ["word", "high"] (defScope s__law_number) := ⟨rfl, rfl, rfl, by decide +kernel, rfl, by decide +kernel, by decide +kernel⟩
theorem ok__law_number (Z : Fc w K mg base XS) : FnP PW w K mg base 1 "_law_number" ["word", "high"] m__law_number := by
  obtain ⟨f, fd, F, hm, hb⟩ := Z.f__law_number
  refine fn_mk (k := 0) F sc__law_number hm hb fun cdv A outer s H G0 E c => ?_
  exact (s_cons (s_for c.po c.calm (i_seq (d_var 0)) (g_name 2 c.nd) (s_one (s_if (t_cmp (od_notIn c.toGE.hr) nox_notIn (d_var 2) d_str (by rfl)) (s_one (s_ret d_bl)) s_nil))) (s_one (s_ret (d_and (d_cmp (od_ne c.toGE.hr) nox_ne (d_var 0) d_str (nomark _)) (d_and (d_cmp (od_eq c.toGE.hr) nox_eq (d_callTy cd_str nox_str rfl Z.n_str (a_cons (d_callTy cd_int nox_int rfl Z.n_int (a_cons (d_var 0) a_nil)) a_nil)) (d_var 0) (nomark _)) (d_one (d_cmp od_le nox_le (d_callTy cd_int nox_int rfl Z.n_int (a_cons (d_var 0) a_nil)) (d_var 1) (nomark _))))))))
abbrev s__law_is_name : Stmt := topS 43
theorem sc__law_is_name : FnScope ["word", "letters", "char"] ["word"] (defScope s__law_is_name) := ⟨rfl, rfl, rfl, by decide +kernel, rfl, by decide +kernel, by decide +kernel⟩
theorem ok__law_is_name (Z : Fc w K mg base XS) : FnP PW w K mg base 1 "_law_is_name" ["word"] m__law_is_name := by
  obtain ⟨f, fd, F, hm, hb⟩ := Z.f__law_is_name
  refine fn_mk (k := 0) F sc__law_is_name hm hb fun cdv A outer s H G0 E c => ?_
  exact (s_cons (s_set c.nd d_str) (s_cons (s_if (PW.pt (t_or (t_cmp (od_eq c.toGE.hr) nox_eq (d_var 0) d_str (nomark _)) (t_or (t_cmp od_gt nox_gt (d_callB cd_len nox_len rfl Z.n_len (a_cons (d_var 0) a_nil)) d_int (nomark _)) (t_or1 (t_cmp (od_notIn c.toGE.hr) nox_notIn (d_ix (d_var 0) d_int (fun _ _ => rfl)) (d_var 1) (by rfl)))))) (s_one (s_ret d_bl)) s_nil) (s_one (s_ret (d_callB (cd_all c.toGE.calm) nox_all rfl Z.n_all (a_cons (d_own (o_lc c.toGE (i_seq (d_var 0)) (x := "char") (i := 2) (by show blkC ["word", "letters", "char"] (defScope s__law_is_name) _ _ = true; decide +kernel) (fun s H C cl fp => pg_name (i := 2) c.nd rfl (Or.inl rfl)) (fun s H C cl fp => ts_nil) (fun s H C cl fp => (d_cmp (od_in (c.toGE.blk s H _ _ fp).hr) nox_in (d_var 2) (d_bin od_add nox_add (d_var 1) d_str) (by rfl))))) a_nil))))))
abbrev s__law_good : Stmt := topS 44
theorem sc__law_good : FnScope ["place", "word"] ["place", "word"] (defScope s__law_good) := ⟨rfl, rfl, rfl, by decide +kernel, rfl, by decide +kernel, by decide +kernel⟩
theorem ok__law_good (Z : Fc w K mg base XS) : FnP PW w K mg base 2 "_law_good" ["place", "word"] m__law_good := by
  obtain ⟨f, fd, F, hm, hb⟩ := Z.f__law_good
  refine fn_mk (k := 1) F sc__law_good hm hb fun cdv A outer s H G0 E c => ?_
  exact (s_cons (s_if (t_cmp (od_eq c.toGE.hr) nox_eq (d_var 0) d_int (nomark _)) (s_one (s_ret (d_call (ok__law_number Z) c.toGE (by omega) rfl (a_cons (d_var 1) (a_cons d_int a_nil)) (fl_cons (fl_cons fl_nil))))) s_nil) (s_cons (s_if (t_cmp (od_eq c.toGE.hr) nox_eq (d_var 0) d_int (nomark _)) (s_one (s_ret (d_call (ok__law_number Z) c.toGE (by omega) rfl (a_cons (d_var 1) (a_cons d_int a_nil)) (fl_cons (fl_cons fl_nil))))) s_nil) (s_cons (s_if (t_cmp (od_eq c.toGE.hr) nox_eq (d_var 0) d_int (nomark _)) (s_one (s_ret (d_call (ok__law_is_name Z) c.toGE (by omega) rfl (a_cons (d_var 1) a_nil) (fl_cons fl_nil)))) s_nil) (s_one (s_ret (d_or (d_cmp (od_eq c.toGE.hr) nox_eq (d_var 1) d_str (nomark _)) (d_one (d_cmp (od_eq c.toGE.hr) nox_eq (d_var 1) d_str (nomark _)))))))))
abbrev s__law_read : Stmt := topS 45
theorem sc__law_read : FnScope ["text", "lines", "history", "k", "words", "place"] ["text"] (defScope s__law_read) := ⟨rfl, rfl, rfl, by decide +kernel, rfl, by decide +kernel, by decide +kernel⟩
theorem ok__law_read (Z : Fc w K mg base XS) : FnP PW w K mg base 3 "_law_read" ["text"] m__law_read := by
  obtain ⟨f, fd, F, hm, hb⟩ := Z.f__law_read
  refine fn_mk (k := 2) F sc__law_read hm hb fun cdv A outer s H G0 E c => ?_
  exact (s_cons (s_if (t_cmp (od_eq c.toGE.hr) nox_eq (d_var 0) d_str (nomark _)) (s_one (s_ret (d_tup (a_cons d_str (a_cons (d_own (o_lst a_nil)) a_nil))))) s_nil) (s_cons (s_set c.nd (d_own (o_split (d_var 0) d_str))) (s_cons (s_if (t_cmp od_gt nox_gt (d_callB cd_len nox_len rfl Z.n_len (a_cons (d_var 1) a_nil)) d_int (nomark _)) (s_one (s_ret (d_tup (a_cons d_str (a_cons d_int a_nil))))) s_nil) (s_cons (s_setO c.nd (o_lst a_nil)) (s_cons (s_for c.po c.calm (i_rng1 Z.n_range (a_cons (d_callB cd_len nox_len rfl Z.n_len (a_cons (d_var 1) a_nil)) a_nil)) (g_name 3 c.nd) (s_cons (s_set c.nd (d_own (o_split (d_ix (d_var 1) (d_var 3) (fun _ _ => rfl)) d_str))) (s_cons (s_for c.po c.calm (i_rng2 Z.n_range (a_cons d_int (a_cons d_int a_nil))) (g_name 5 c.nd) (s_cons (s_if (t_cmp od_gt nox_gt (d_var 5) (d_callB cd_len nox_len rfl Z.n_len (a_cons (d_var 4) a_nil)) (nomark _)) (s_one (s_ret (d_tup (a_cons d_str (a_cons (d_bin od_add nox_add (d_var 3) d_int) (a_cons (d_var 5) (a_cons d_str a_nil))))))) s_nil) (s_one (s_if (t_not (t_tru (d_call (ok__law_good Z) c.toGE (by omega) rfl (a_cons (d_var 5) (a_cons (d_ix (d_var 4) (d_bin od_sub nox_sub (d_var 5) d_int) (fun _ _ => rfl)) a_nil)) (fl_cons (fl_cons fl_nil))))) (s_one (s_ret (d_tup (a_cons d_str (a_cons (d_bin od_add nox_add (d_var 3) d_int) (a_cons (d_var 5) (a_cons (d_ix (d_own (o_lst (a_cons d_str (a_cons d_str (a_cons d_str (a_cons d_str a_nil)))))) (d_bin od_sub nox_sub (d_var 5) d_int) (fun _ _ => rfl)) a_nil))))))) s_nil)))) (s_cons (s_if (t_cmp od_gt nox_gt (d_callB cd_len nox_len rfl Z.n_len (a_cons (d_var 4) a_nil)) d_int (nomark _)) (s_one (s_ret (d_tup (a_cons d_str (a_cons (d_bin od_add nox_add (d_var 3) d_int) (a_cons d_int (a_cons d_str a_nil))))))) s_nil) (s_one (s_app 2 (d_tup (a_cons (d_callTy cd_int nox_int rfl Z.n_int (a_cons (d_ix (d_var 4) d_int (fun _ _ => rfl)) a_nil)) (a_cons (d_callTy cd_int nox_int rfl Z.n_int (a_cons (d_ix (d_var 4) d_int (fun _ _ => rfl)) a_nil)) (a_cons (d_ix (d_var 4) d_int (fun _ _ => rfl)) (a_cons (d_ix (d_var 4) d_int (fun _ _ => rfl)) a_nil))))))))))) (s_frz 2 (s_one (s_ret (d_tup (a_cons d_str (a_cons (d_var 2) a_nil)))))))))))
abbrev s_need_text : Stmt := topS 9
theorem sc_need_text : FnScope ["value", "what"] ["value", "what"] (defScope s_need_text) := ⟨rfl, rfl, rfl, by decide +kernel, rfl, by decide +kernel, by decide +kernel⟩
theorem ok_need_text (Z : Fc w K mg base XS) : FnP PW w K mg base 4 "need_text" ["value", "what"] m_need_text := by
  obtain ⟨f, fd, F, hm, hb⟩ := Z.f_need_text
  refine fn_mk (k := 3) F sc_need_text hm hb fun cdv A outer s H G0 E c => ?_
  exact (s_one (s_if (t_not (t_tru (d_isi kit_str Z.n_isinstance Z.n_str rfl (d_var 0)))) (s_one (s_raise Z.x_BadValue c (by decide) mkx_bv (a_cons (d_var 1) a_nil))) s_nil))
abbrev s_lines_of : Stmt := topS 12
theorem sc_lines_of : FnScope ["text", "limit", "lines"] ["text", "limit"] (defScope s_lines_of) := ⟨rfl, rfl, rfl, by decide +kernel, rfl, by decide +kernel, by decide +kernel⟩
theorem ok_lines_of (Z : Fc w K mg base XS) : FnP PW w K mg base 4 "lines_of" ["text", "limit"] m_lines_of := by
  obtain ⟨f, fd, F, hm, hb⟩ := Z.f_lines_of
  refine fn_mk (k := 3) F sc_lines_of hm hb fun cdv A outer s H G0 E c => ?_
  exact (s_cons (s_if (t_cmp (od_eq c.toGE.hr) nox_eq (d_var 0) d_str (nomark _)) (s_one (s_retO (o_lst a_nil))) s_nil) (s_cons (s_set c.nd (d_own (o_split (d_var 0) d_str))) (s_cons (s_if (t_cmp od_gt nox_gt (d_callB cd_len nox_len rfl Z.n_len (a_cons (d_var 2) a_nil)) (d_var 1) (nomark _)) (s_one (s_raise Z.x_TooMany c (by decide) mkx_tm (a_cons (d_var 1) a_nil))) s_nil) (s_one (s_ret (d_var 2))))))
abbrev s_word_at : Stmt := topS 13
theorem sc_word_at : FnScope ["words", "place", "line"] ["words", "place", "line"] (defScope s_word_at) := ⟨rfl, rfl, rfl, by decide +kernel, rfl, by decide +kernel, by decide +kernel⟩
theorem ok_word_at (Z : Fc w K mg base XS) : FnP PW w K mg base 4 "word_at" ["words", "place", "line"] m_word_at := by
  obtain ⟨f, fd, F, hm, hb⟩ := Z.f_word_at
  refine fn_mk (k := 3) F sc_word_at hm hb fun cdv A outer s H G0 E c => ?_
  exact (s_cons (s_if (t_cmp od_gt nox_gt (d_var 1) (d_callB cd_len nox_len rfl Z.n_len (a_cons (d_var 0) a_nil)) (nomark _)) (s_one (s_raise Z.x_BadText c (by decide) mkx_bt (a_cons (d_var 2) (a_cons (d_var 1) (a_cons d_str a_nil))))) s_nil) (s_one (s_ret (d_ix (d_var 0) (d_bin od_sub nox_sub (d_var 1) d_int) (fun _ _ => rfl)))))
abbrev s_is_written : Stmt := topS 11
theorem sc_is_written : FnScope ["word", "low", "high", "char"] ["word", "low", "high"] (defScope s_is_written) := ⟨rfl, rfl, rfl, by decide +kernel, rfl, by decide +kernel, by decide +kernel⟩
theorem ok_is_written (Z : Fc w K mg base XS) : FnP PW w K mg base 1 "is_written" ["word", "low", "high"] m_is_written := by
  obtain ⟨f, fd, F, hm, hb⟩ := Z.f_is_written
  refine fn_mk (k := 0) F sc_is_written hm hb fun cdv A outer s H G0 E c => ?_
  exact (s_cons (s_if (PW.pt (t_or (t_cmp (od_eq c.toGE.hr) nox_eq (d_var 0) d_str (nomark _)) (t_or1 (t_cmp od_gt nox_gt (d_callB cd_len nox_len rfl Z.n_len (a_cons (d_var 0) a_nil)) d_int (nomark _))))) (s_one (s_ret d_bl)) s_nil) (s_cons (s_for c.po c.calm (i_seq (d_var 0)) (g_name 3 c.nd) (s_one (s_if (t_cmp (od_notIn c.toGE.hr) nox_notIn (d_var 3) (d_gstr Z.c_DIGITS) (by rfl)) (s_one (s_ret d_bl)) s_nil))) (s_cons (s_if (PW.pt (t_and (t_cmp od_gt nox_gt (d_callB cd_len nox_len rfl Z.n_len (a_cons (d_var 0) a_nil)) d_int (nomark _)) (t_and1 (t_cmp (od_eq c.toGE.hr) nox_eq (d_ix (d_var 0) d_int (fun _ _ => rfl)) d_str (nomark _))))) (s_one (s_ret d_bl)) s_nil) (s_one (s_ret (d_and (d_cmp od_le nox_le (d_var 1) (d_callTy cd_int nox_int rfl Z.n_int (a_cons (d_var 0) a_nil)) (nomark _)) (d_one (d_cmp od_le nox_le (d_callTy cd_int nox_int rfl Z.n_int (a_cons (d_var 0) a_nil)) (d_var 2) (nomark _)))))))))
abbrev s_number_at : Stmt := topS 14
theorem sc_number_at : FnScope ["words", "place", "line", "high", "what", "word"] ["words", "place", "line", "high", "what"] (defScope s_number_at) := ⟨rfl, rfl, rfl, by decide +kernel, rfl, by decide +kernel, by decide +kernel⟩
theorem ok_number_at (Z : Fc w K mg base XS) : FnP PW w K mg base 5 "number_at" ["words", "place", "line", "high", "what"] m_number_at := by
  obtain ⟨f, fd, F, hm, hb⟩ := Z.f_number_at
  refine fn_mk (k := 4) F sc_number_at hm hb fun cdv A outer s H G0 E c => ?_
  exact (s_cons (s_set c.nd (d_call (ok_word_at Z) c.toGE (by omega) rfl (a_cons (d_var 0) (a_cons (d_var 1) (a_cons (d_var 2) a_nil))) (fl_cons (fl_cons (fl_cons fl_nil))))) (s_cons (s_if (t_not (t_tru (d_call (ok_is_written Z) c.toGE (by omega) rfl (a_cons (d_var 5) (a_cons d_int (a_cons (d_var 3) a_nil))) (fl_cons (fl_cons (fl_cons fl_nil)))))) (s_one (s_raise Z.x_BadText c (by decide) mkx_bt (a_cons (d_var 2) (a_cons (d_var 1) (a_cons (d_var 4) a_nil))))) s_nil) (s_one (s_ret (d_callTy cd_int nox_int rfl Z.n_int (a_cons (d_var 5) a_nil))))))
abbrev s_name_at : Stmt := topS 22
theorem sc_name_at : FnScope ["words", "place", "line", "what", "word"] ["words", "place", "line", "what"] (defScope s_name_at) := ⟨rfl, rfl, rfl, by decide +kernel, rfl, by decide +kernel, by decide +kernel⟩
theorem ok_name_at (Z : Fc w K mg base XS) : FnP PW w K mg base 5 "name_at" ["words", "place", "line", "what"] m_name_at := by
  obtain ⟨f, fd, F, hm, hb⟩ := Z.f_name_at
  refine fn_mk (k := 4) F sc_name_at hm hb fun cdv A outer s H G0 E c => ?_
  exact (s_cons (s_set c.nd (d_call (ok_word_at Z) c.toGE (by omega) rfl (a_cons (d_var 0) (a_cons (d_var 1) (a_cons (d_var 2) a_nil))) (fl_cons (fl_cons (fl_cons fl_nil))))) (s_cons (s_if (t_not (t_tru (d_call (ok_is_name Z) c.toGE (by omega) rfl (a_cons (d_var 4) a_nil) (fl_cons fl_nil)))) (s_one (s_raise Z.x_BadText c (by decide) mkx_bt (a_cons (d_var 2) (a_cons (d_var 1) (a_cons (d_var 3) a_nil))))) s_nil) (s_one (s_ret (d_var 4)))))
abbrev s_need_end : Stmt := topS 15
theorem sc_need_end : FnScope ["words", "many", "line"] ["words", "many", "line"] (defScope s_need_end) := ⟨rfl, rfl, rfl, by decide +kernel, rfl, by decide +kernel, by decide +kernel⟩
theorem ok_need_end (Z : Fc w K mg base XS) : FnP PW w K mg base 4 "need_end" ["words", "many", "line"] m_need_end := by
  obtain ⟨f, fd, F, hm, hb⟩ := Z.f_need_end
  refine fn_mk (k := 3) F sc_need_end hm hb fun cdv A outer s H G0 E c => ?_
  exact (s_one (s_if (t_cmp od_gt nox_gt (d_callB cd_len nox_len rfl Z.n_len (a_cons (d_var 0) a_nil)) (d_var 1) (nomark _)) (s_one (s_raise Z.x_BadText c (by decide) mkx_bt (a_cons (d_var 2) (a_cons (d_bin od_add nox_add (d_var 1) d_int) (a_cons d_str a_nil))))) s_nil))
abbrev s_opening_at : Stmt := topS 30
theorem sc_opening_at : FnScope ["words", "line", "time", "box", "person", "way"] ["words", "line"] (defScope s_opening_at) := ⟨rfl, rfl, rfl, by decide +kernel, rfl, by decide +kernel, by decide +kernel⟩
theorem ok_opening_at (Z : Fc w K mg base XS) : FnP PW w K mg base 6 "opening_at" ["words", "line"] m_opening_at := by
  obtain ⟨f, fd, F, hm, hb⟩ := Z.f_opening_at
  refine fn_mk (k := 5) F sc_opening_at hm hb fun cdv A outer s H G0 E c => ?_
  exact (s_cons (s_set c.nd (d_call (ok_number_at Z) c.toGE (by omega) rfl (a_cons (d_var 0) (a_cons d_int (a_cons (d_var 1) (a_cons (d_gint Z.c_LATEST) (a_cons d_str a_nil))))) (fl_cons (fl_cons (fl_cons (fl_cons (fl_cons fl_nil))))))) (s_cons (s_set c.nd (d_call (ok_number_at Z) c.toGE (by omega) rfl (a_cons (d_var 0) (a_cons d_int (a_cons (d_var 1) (a_cons (d_gint Z.c_LAST_BOX) (a_cons d_str a_nil))))) (fl_cons (fl_cons (fl_cons (fl_cons (fl_cons fl_nil))))))) (s_cons (s_set c.nd (d_call (ok_name_at Z) c.toGE (by omega) rfl (a_cons (d_var 0) (a_cons d_int (a_cons (d_var 1) (a_cons d_str a_nil)))) (fl_cons (fl_cons (fl_cons (fl_cons fl_nil)))))) (s_cons (s_set c.nd (d_call (ok_word_at Z) c.toGE (by omega) rfl (a_cons (d_var 0) (a_cons d_int (a_cons (d_var 1) a_nil))) (fl_cons (fl_cons (fl_cons fl_nil))))) (s_cons (s_if (t_cmp (od_notIn c.toGE.hr) nox_notIn (d_var 5) (d_gref Z.c_WAYS) (by rfl)) (s_one (s_raise Z.x_BadText c (by decide) mkx_bt (a_cons (d_var 1) (a_cons d_int (a_cons d_str a_nil))))) s_nil) (s_cons (s_drop (d_call (ok_need_end Z) c.toGE (by omega) rfl (a_cons (d_var 0) (a_cons d_int (a_cons (d_var 1) a_nil))) (fl_cons (fl_cons (fl_cons fl_nil))))) (s_one (s_ret (d_tup (a_cons (d_var 2) (a_cons (d_var 3) (a_cons (d_var 4) (a_cons (d_var 5) a_nil)))))))))))))
abbrev s_parse_history : Stmt := topS 31
theorem sc_parse_history : FnScope ["text", "history", "line", "row"] ["text"] (defScope s_parse_history) := ⟨rfl, rfl, rfl, by decide +kernel, rfl, by decide +kernel, by decide +kernel⟩
theorem ok_parse_history (Z : Fc w K mg base XS) : FnP PW w K mg base 7 "parse_history" ["text"] m_parse_history := by
  obtain ⟨f, fd, F, hm, hb⟩ := Z.f_parse_history
  refine fn_mk (k := 6) F sc_parse_history hm hb fun cdv A outer s H G0 E c => ?_
  exact (s_cons (s_drop (d_call (ok_need_text Z) c.toGE (by omega) rfl (a_cons (d_var 0) (a_cons d_str a_nil)) (fl_cons (fl_cons fl_nil)))) (s_cons (s_setO c.nd (o_lst a_nil)) (s_cons (s_set c.nd d_int) (s_cons (s_for c.po c.calm (i_seq (d_call (ok_lines_of Z) c.toGE (by omega) rfl (a_cons (d_var 0) (a_cons (d_gint Z.c_MOST_OPENINGS) a_nil)) (fl_cons (fl_cons fl_nil)))) (g_name 3 c.nd) (s_cons (s_aug ip_add 2 c.nd d_int) (s_one (s_app 1 (d_call (ok_opening_at Z) c.toGE (by omega) rfl (a_cons (d_own (o_split (d_var 3) d_str)) (a_cons (d_var 2) a_nil)) (fl_cons (fl_cons fl_nil))))))) (s_one (s_retV 1))))))
abbrev s__law_told : Stmt := topS 46
theorem sc__law_told : FnScope ["text", "e"] ["text"] (defScope s__law_told) := ⟨rfl, rfl, rfl, by decide +kernel, rfl, by decide +kernel, by decide +kernel⟩
theorem ok__law_told (Z : Fc w K mg base XS) : FnP PW w K mg base 8 "_law_told" ["text"] m__law_told := by
  obtain ⟨f, fd, F, hm, hb⟩ := Z.f__law_told
  refine fn_mk (k := 7) F sc__law_told hm hb fun cdv A outer s H G0 E c => ?_
  exact (s_one (s_try c (fun W' pn xe c' => (s_one (s_ret (d_tup (a_cons d_str (a_cons (d_call (ok_parse_history Z) c'.toGE (by omega) rfl (a_cons (d_var 0) a_nil) (fl_cons fl_nil)) a_nil)))))) (.cons Z.n_BadText rfl rfl (fun e he => Z.cl_BadText e he) (fun p oe cls d pn hz hf => (su_ret (x_tup (xa_cons (x_lift d_str) (xa_cons (x_fld Z.x_BadText (by decide) hz hf rfl) (xa_cons (x_fld Z.x_BadText (by decide) hz hf rfl) (xa_cons (x_fld Z.x_BadText (by decide) hz hf rfl) xa_nil))))))) (.cons Z.n_TooMany rfl rfl (fun e he => Z.cl_TooMany e he) (fun p oe cls d pn hz hf => (su_ret (x_tup (xa_cons (x_lift d_str) (xa_cons (x_fld Z.x_TooMany (by decide) hz hf rfl) xa_nil))))) (.cons Z.n_BadValue rfl rfl (fun e he => Z.cl_BadValue e he) (fun p oe cls d pn hz hf => (su_ret (x_tup (xa_cons (x_lift d_str) (xa_cons (x_fld Z.x_BadValue (by decide) hz hf rfl) xa_nil))))) .nil)))))
abbrev s__law_asked : Stmt := topS 47
theorem sc__law_asked : FnScope ["text", "due", "told"] ["text"] (defScope s__law_asked) := ⟨rfl, rfl, rfl, by decide +kernel, rfl, by decide +kernel, by decide +kernel⟩
theorem ok__law_asked (Z : Fc w K mg base XS) : FnP PW w K mg base 9 "_law_asked" ["text"] m__law_asked := by
  obtain ⟨f, fd, F, hm, hb⟩ := Z.f__law_asked
  refine fn_mk (k := 8) F sc__law_asked hm hb fun cdv A outer s H G0 E c => ?_
  exact (s_cons (s_set c.nd (d_call (ok__law_read Z) c.toGE (by omega) rfl (a_cons (d_var 0) a_nil) (fl_cons fl_nil))) (s_cons (s_setT 2 (ok__law_told Z) c.toGE (by omega) rfl (a_cons (d_var 0) a_nil) (fl_cons fl_nil)) (s_cons (s_if (t_tmp 2 (t_not (t_tru (d_call (ok__law_same Z 6) c.toGE (by omega) rfl (a_cons (d_var 2) (a_cons (d_var 1) a_nil)) (fl_cons (fl_cons fl_nil)))))) (s_one (s_ret d_bl)) s_nil) (s_cons (s_if (t_cmp (od_ne c.toGE.hr) nox_ne (d_ix (d_var 1) d_int (fun _ _ => rfl)) d_str (nomark _)) (s_one (s_ret d_bl)) s_nil) (s_cons (s_if (t_cmp (od_ne c.toGE.hr) nox_ne (d_call (ok_format_history Z) c.toGE (by omega) rfl (a_cons (d_own (o_callTy co_list nox_list rfl Z.n_list (a_cons (d_ix (d_var 1) d_int (fun _ _ => rfl)) a_nil))) a_nil) (fl_cons fl_nil)) (d_var 0) (nomark _)) (s_one (s_ret d_bl)) s_nil) (s_cons (s_appT 2 (d_tup (a_cons d_int (a_cons d_int (a_cons d_str (a_cons d_str a_nil)))))) (s_one (s_ret (d_call (ok__law_same Z 6) c.toGE (by omega) rfl (a_cons (d_call (ok__law_told Z) c.toGE (by omega) rfl (a_cons (d_var 0) a_nil) (fl_cons fl_nil)) (a_cons (d_var 1) a_nil)) (fl_cons (fl_cons fl_nil)))))))))))
abbrev s__law_changed_line : Stmt := topS 40
theorem sc__law_changed_line : FnScope ["line", "way", "first", "second", "words", "at", "word"] ["line", "way", "first", "second"] (defScope s__law_changed_line) := ⟨rfl, rfl, rfl, by decide +kernel, rfl, by decide +kernel, by decide +kernel⟩
theorem ok__law_changed_line (Z : Fc w K mg base XS) : FnP PW w K mg base 2 "_law_changed_line" ["line", "way", "first", "second"] m__law_changed_line := by
  obtain ⟨f, fd, F, hm, hb⟩ := Z.f__law_changed_line
  refine fn_mk (k := 1) F sc__law_changed_line hm hb fun cdv A outer s H G0 E c => ?_
  exact (s_cons (s_setO c.nd (o_split (d_var 0) d_str)) (s_cons (s_set c.nd (d_bor 4 (d_bin od_mod nox_mod (d_callTy cd_int nox_int rfl Z.n_int (a_cons (d_var 2) a_nil)) (d_callB cd_len nox_len rfl Z.n_len (a_cons (d_var 4) a_nil))))) (s_cons (s_if (t_cmp (od_eq c.toGE.hr) nox_eq (d_var 1) d_int (nomark _)) (s_one (s_put 4 (d_var 5) (d_call (ok__law_word Z) c.toGE (by omega) rfl (a_cons (d_var 3) a_nil) (fl_cons fl_nil)))) s_nil) (s_cons (s_if (t_cmp (od_eq c.toGE.hr) nox_eq (d_var 1) d_int (nomark _)) (s_one (s_popAt 4 (d_var 5))) s_nil) (s_cons (s_if (t_cmp (od_eq c.toGE.hr) nox_eq (d_var 1) d_int (nomark _)) (s_one (s_app 4 (d_call (ok__law_word Z) c.toGE (by omega) rfl (a_cons (d_var 3) a_nil) (fl_cons fl_nil)))) s_nil) (s_cons (s_if (t_cmp (od_eq c.toGE.hr) nox_eq (d_var 1) d_int (nomark _)) (s_one (s_ins 4 (a_cons (d_var 5) (a_cons (d_ixO 4 (d_var 5) (fun _ _ => rfl)) a_nil)))) s_nil) (s_cons (s_if (t_cmp (od_eq c.toGE.hr) nox_eq (d_var 1) d_int (nomark _)) (s_one (s_ins 4 (a_cons (d_var 5) (a_cons d_str a_nil)))) s_nil) (s_cons (s_if (t_cmp (od_eq c.toGE.hr) nox_eq (d_var 1) d_int (nomark _)) (s_cons (s_set c.nd (d_ixO 4 (d_var 5) (fun _ _ => rfl))) (s_cons (s_put 4 (d_var 5) (d_bor 4 (d_ix (d_var 4) (d_bin od_mod nox_mod (d_callTy cd_int nox_int rfl Z.n_int (a_cons (d_var 3) a_nil)) (d_callB cd_len nox_len rfl Z.n_len (a_cons (d_var 4) a_nil))) (fun _ _ => rfl)))) (s_one (s_put 4 (d_bor 4 (d_bin od_mod nox_mod (d_callTy cd_int nox_int rfl Z.n_int (a_cons (d_var 3) a_nil)) (d_callB cd_len nox_len rfl Z.n_len (a_cons (d_var 4) a_nil)))) (d_var 6))))) s_nil) (s_frz 4 (s_one (s_ret (d_join d_str (d_var 4)))))))))))))
abbrev s__law_changed : Stmt := topS 41
theorem sc__law_changed : FnScope ["text", "cell", "numbers", "lines", "turn", "way", "at", "line"] ["text", "cell"] (defScope s__law_changed) := ⟨rfl, rfl, rfl, by decide +kernel, rfl, by decide +kernel, by decide +kernel⟩
theorem ok__law_changed (Z : Fc w K mg base XS) : FnP PW w K mg base 3 "_law_changed" ["text", "cell"] m__law_changed := by
  obtain ⟨f, fd, F, hm, hb⟩ := Z.f__law_changed
  refine fn_mk (k := 2) F sc__law_changed hm hb fun cdv A outer s H G0 E c => ?_
  exact (s_cons (s_set c.nd (d_call (ok__law_row Z) c.toGE (by omega) rfl (a_cons (d_var 1) (a_cons d_int (a_cons d_int a_nil))) (fl_cons (fl_cons (fl_cons fl_nil))))) (s_cons (s_setO c.nd (o_split (d_var 0) d_str)) (s_cons (s_for c.po c.calm (i_rng1 Z.n_range (a_cons d_int a_nil)) (g_name 4 c.nd) (s_cons (s_set c.nd (d_bin od_mod nox_mod (d_callTy cd_int nox_int rfl Z.n_int (a_cons (d_ix (d_var 2) (d_bin od_mul nox_mul d_int (d_var 4)) (fun _ _ => rfl)) a_nil)) d_int)) (s_cons (s_set c.nd (d_bor 3 (d_bin od_mod nox_mod (d_callTy cd_int nox_int rfl Z.n_int (a_cons (d_ix (d_var 2) (d_bin od_add nox_add (d_bin od_mul nox_mul d_int (d_var 4)) d_int) (fun _ _ => rfl)) a_nil)) (d_callB cd_len nox_len rfl Z.n_len (a_cons (d_var 3) a_nil))))) (s_cons (s_if (t_cmp od_lt nox_lt (d_var 5) d_int (nomark _)) (s_one (s_put 3 (d_var 6) (d_call (ok__law_changed_line Z) c.toGE (by omega) rfl (a_cons (d_ixO 3 (d_var 6) (fun _ _ => rfl)) (a_cons (d_var 5) (a_cons (d_ix (d_var 2) (d_bin od_add nox_add (d_bin od_mul nox_mul d_int (d_var 4)) d_int) (fun _ _ => rfl)) (a_cons (d_ix (d_var 2) (d_bin od_add nox_add (d_bin od_mul nox_mul d_int (d_var 4)) d_int) (fun _ _ => rfl)) a_nil)))) (fl_cons (fl_cons (fl_cons (fl_cons fl_nil))))))) s_nil) (s_cons (s_if (t_cmp (od_eq c.toGE.hr) nox_eq (d_var 5) d_int (nomark _)) (s_one (s_ins 3 (a_cons (d_var 6) (a_cons d_str a_nil)))) s_nil) (s_cons (s_if (t_cmp (od_eq c.toGE.hr) nox_eq (d_var 5) d_int (nomark _)) (s_cons (s_set c.nd (d_ixO 3 (d_var 6) (fun _ _ => rfl))) (s_cons (s_put 3 (d_var 6) (d_ixO 3 d_int (fun _ _ => rfl))) (s_one (s_put 3 d_int (d_var 7))))) s_nil) (s_cons (s_if (t_cmp (od_eq c.toGE.hr) nox_eq (d_var 5) d_int (nomark _)) (s_one (s_app 3 d_str)) s_nil) (s_one (s_if (PW.pt (t_or (t_cmp (od_eq c.toGE.hr) nox_eq (d_var 5) d_int (nomark _)) (t_or1 (t_cmp (od_eq c.toGE.hr) nox_eq (d_var 5) d_int (nomark _))))) (s_one (s_put 3 (d_var 6) (d_call (ok__law_changed_line Z) c.toGE (by omega) rfl (a_cons (d_ixO 3 (d_var 6) (fun _ _ => rfl)) (a_cons d_int (a_cons (d_ix (d_var 2) (d_bin od_add nox_add (d_bin od_mul nox_mul d_int (d_var 4)) d_int) (fun _ _ => rfl)) (a_cons (d_ix (d_var 2) (d_bin od_add nox_add (d_bin od_mul nox_mul d_int (d_var 4)) d_int) (fun _ _ => rfl)) a_nil)))) (fl_cons (fl_cons (fl_cons (fl_cons fl_nil))))))) s_nil))))))))) (s_frz 3 (s_one (s_ret (d_join d_str (d_var 3))))))))
abbrev s_law : Stmt := topS 48
theorem sc_law : FnScope ["script", "shape", "length", "history", "text", "passed", "written", "lines", "value"] ["script"] (defScope s_law) := ⟨rfl, rfl, rfl, by decide +kernel, rfl, by decide +kernel, by decide +kernel⟩
theorem okF_law (Z : Fc w K mg base XS) {f : Addr} {fd : FuncData} (F : Fun K "law" "law" s_law f fd) : FnOk PW w K mg base (L2.CX PW w) 10 f fd ["script"] (spOf K mg 1 m_law) := by
  refine fn_ok (k := 9) F sc_law fun cdv A outer s H G0 E c => ?_
  exact (s_cons (s_set c.nd (d_call (ok__law_row Z) c.toGE (by omega) rfl (a_cons (d_call (ok__law_cell Z) c.toGE (by omega) rfl (a_cons (d_var 0) (a_cons d_int a_nil)) (fl_cons (fl_cons fl_nil))) (a_cons d_int (a_cons d_int a_nil))) (fl_cons (fl_cons (fl_cons fl_nil))))) (s_cons (s_set c.nd (d_bin od_mod nox_mod (d_callTy cd_int nox_int rfl Z.n_int (a_cons (d_ix (d_var 1) d_int (fun _ _ => rfl)) a_nil)) d_int)) (s_cons (s_if (t_cmp (od_eq c.toGE.hr) nox_eq (d_bin od_mod nox_mod (d_callTy cd_int nox_int rfl Z.n_int (a_cons (d_ix (d_var 1) d_int (fun _ _ => rfl)) a_nil)) d_int) d_int (nomark _)) (s_one (s_set c.nd (d_bin od_add nox_add d_int (d_bin od_mod nox_mod (d_callTy cd_int nox_int rfl Z.n_int (a_cons (d_ix (d_var 1) d_int (fun _ _ => rfl)) a_nil)) d_int)))) s_nil) (s_cons (s_set c.nd (d_call (ok__law_history Z) c.toGE (by omega) rfl (a_cons (d_var 0) (a_cons (d_var 2) a_nil)) (fl_cons (fl_cons fl_nil)))) (s_cons (s_set c.nd (d_call (ok__law_written Z) c.toGE (by omega) rfl (a_cons (d_var 3) a_nil) (fl_cons fl_nil))) (s_cons (s_set c.nd (d_own (o_callTy co_list nox_list rfl Z.n_list (a_cons (d_var 3) a_nil)))) (s_cons (s_set c.nd (d_call (ok_format_history Z) c.toGE (by omega) rfl (a_cons (d_var 5) a_nil) (fl_cons fl_nil))) (s_cons (s_if (PW.pt (t_or (t_not (t_tru (d_call (ok__law_same Z 6) c.toGE (by omega) rfl (a_cons (d_var 6) (a_cons (d_var 4) a_nil)) (fl_cons (fl_cons fl_nil))))) (t_or (t_not (t_tru (d_call (ok__law_same Z 6) c.toGE (by omega) rfl (a_cons (d_var 5) (a_cons (d_var 3) a_nil)) (fl_cons (fl_cons fl_nil))))) (t_or1 (t_not (t_tru (d_call (ok__law_same Z 6) c.toGE (by omega) rfl (a_cons (d_call (ok__law_told Z) c.toGE (by omega) rfl (a_cons (d_var 4) a_nil) (fl_cons fl_nil)) (a_cons (d_tup (a_cons d_str (a_cons (d_var 3) a_nil))) a_nil)) (fl_cons (fl_cons fl_nil))))))))) (s_one (s_ret d_bl)) s_nil) (s_cons (s_if (PW.pt (t_or (t_not (t_tru (d_call (ok__law_asked Z) c.toGE (by omega) rfl (a_cons (d_var 4) a_nil) (fl_cons fl_nil)))) (t_or1 (t_not (t_tru (d_call (ok__law_asked Z) c.toGE (by omega) rfl (a_cons (d_call (ok__law_changed Z) c.toGE (by omega) rfl (a_cons (d_var 4) (a_cons (d_call (ok__law_cell Z) c.toGE (by omega) rfl (a_cons (d_var 0) (a_cons d_int a_nil)) (fl_cons (fl_cons fl_nil))) a_nil)) (fl_cons (fl_cons fl_nil))) a_nil) (fl_cons fl_nil))))))) (s_one (s_ret d_bl)) s_nil) (s_cons (s_setO c.nd (o_slice (d_bin od_add nox_add (d_own (o_split (d_var 4) d_str)) (d_bin od_mul nox_mul (d_own (o_lst (a_cons d_str a_nil))) d_int)) p_non (p_some d_int))) (s_cons (s_put 7 (d_bin od_mod nox_mod (d_callTy cd_int nox_int rfl Z.n_int (a_cons (d_ix (d_var 1) d_int (fun _ _ => rfl)) a_nil)) d_int) (d_call (ok__law_word Z) c.toGE (by omega) rfl (a_cons (d_ix (d_var 1) d_int (fun _ _ => rfl)) a_nil) (fl_cons fl_nil))) (s_cons (s_if (t_bor 7 (PW.pt (t_or (t_not (t_tru (d_call (ok__law_asked Z) c.toGE (by omega) rfl (a_cons (d_join d_str (d_var 7)) a_nil) (fl_cons fl_nil)))) (t_or (t_not (t_tru (d_call (ok__law_asked Z) c.toGE (by omega) rfl (a_cons (d_join d_str (d_slice (d_var 7) p_non (p_some d_int))) a_nil) (fl_cons fl_nil)))) (t_or1 (t_not (t_tru (d_call (ok__law_asked Z) c.toGE (by omega) rfl (a_cons (d_join d_str (d_slice (d_var 7) (p_some d_int) p_non)) a_nil) (fl_cons fl_nil))))))))) (s_one (s_ret d_bl)) s_nil) (s_frz 7 (s_cons (s_for c.po c.calm (i_new (o_lst (a_cons d_non (a_cons d_int (a_cons (d_own (o_callTy co_list nox_list rfl Z.n_list (a_cons (d_var 7) a_nil))) (a_cons (d_callTy cd_tuple nox_tuple rfl Z.n_tuple (a_cons (d_var 3) a_nil)) a_nil)))))) (g_name 8 c.nd) (s_one (s_if (t_not (t_tru (d_call (ok__law_same Z 6) c.toGE (by omega) rfl (a_cons (d_call (ok__law_told Z) c.toGE (by omega) rfl (a_cons (d_var 8) a_nil) (fl_cons fl_nil)) (a_cons (d_tup (a_cons d_str (a_cons d_str a_nil))) a_nil)) (fl_cons (fl_cons fl_nil))))) (s_one (s_ret d_bl)) s_nil))) (s_one (s_ret d_bl))))))))))))))))
end K47

open PySem PySem.W PyProof.Rows
set_option maxRecDepth 100000 in
set_option maxHeartbeats 0 in
theorem PySem.Challenge.cw_parcelbank_k47_history_text_holds : PySem.Challenge.rw_parcelbank_k47_history_text.Holds := by
  w_on; o_law; k_head; (case hw => w_witness2)
  k_fill
  refine L2.walk_of (l := PySem.Challenge.rw_parcelbank_k47_history_text) (n := 63) (k := 10) (x := "script") (CX := fun w => L2.CX PySem.Challenge.pw_parcelbank_k47_history_text w) (sp := fun w => PL.spLaw _) rfl (by decide) rfl ⟨rfl, by decide, by decide⟩ (fun w h Y => PySem.W.kIn_of Y) ?F (fun w H a ns hl hO hS => ⟨a, ns, rfl, hS, hl, fun _ => rfl⟩) ?hCX
  case hCX => intro w H s e s' hh; exact PL.cx_false hh
  case F =>
    intro w mg fa h KX G hmg
    have n_abs : mg "abs" = none := PySem.W.mg_none_of KX G (by k_is)
    have n_all : mg "all" = none := PySem.W.mg_none_of KX G (by k_is)
    have n_bool : mg "bool" = none := PySem.W.mg_none_of KX G (by k_is)
    have n_int : mg "int" = none := PySem.W.mg_none_of KX G (by k_is)
    have n_isinstance : mg "isinstance" = none := PySem.W.mg_none_of KX G (by k_is)
    have n_len : mg "len" = none := PySem.W.mg_none_of KX G (by k_is)
    have n_list : mg "list" = none := PySem.W.mg_none_of KX G (by k_is)
    have n_range : mg "range" = none := PySem.W.mg_none_of KX G (by k_is)
    have n_str : mg "str" = none := PySem.W.mg_none_of KX G (by k_is)
    have n_tuple : mg "tuple" = none := PySem.W.mg_none_of KX G (by k_is)
    have c_DIGITS : ∃ t, mg "DIGITS" = some (.str "0123456789" t) := by
      refine' PL.cstr_mk KX G ?a ?e; (case a => k_is); (case e => rfl)
    have c_LAST_BOX : ∃ t, mg "LAST_BOX" = some (.int 29 t) := by
      refine' PL.cint_mk KX G ?a ?e; (case a => k_is); (case e => rfl)
    have c_LATEST : ∃ t, mg "LATEST" = some (.int 1000000 t) := by
      refine' PL.cint_mk KX G ?a ?e; (case a => k_is); (case e => rfl)
    have c_LETTERS : ∃ t, mg "LETTERS" = some (.str "abcdefghijklmnopqrstuvwxyz" t) := by
      refine' PL.cstr_mk KX G ?a ?e; (case a => k_is); (case e => rfl)
    have c_MOST_OPENINGS : ∃ t, mg "MOST_OPENINGS" = some (.int 60 t) := by
      refine' PL.cint_mk KX G ?a ?e; (case a => k_is); (case e => rfl)
    have c_WAYS : PL.CtK KX mg "WAYS" (PL.D.tup [(PL.D.str "in"), (PL.D.str "out")]) := by
      refine' PL.ctup_mk (vs := [L2.V.str "in", L2.V.str "out"]) KX G ?ya ?yl ?yc ?yd ?yz ?yv (fun G => (.cons (.str _) (.cons (.str _) .nil)))
      (case ya => k_is); (case yl => k_is); (case yc => rfl); (case yd => rfl); (case yz => decide); (case yv => exact (.cons ⟨_, rfl⟩ (.cons ⟨_, rfl⟩ .nil)))
    have f__law_row : PL.FxK KX K47.PW mg "_law_row" "_law_row" (K47.topS 34) ["cell", "many", "limit"] := by
      refine' PL.fx_mk KX G ?a ?l ?c ?k (fun _ _ _ _ _ _ us hl => match us, hl with | [_, _, _], _ => rfl); (case a => k_is); (case l => k_is); (case c => k_is); (case k => k_is)
    have f__law_cell : PL.FxK KX K47.PW mg "_law_cell" "_law_cell" (K47.topS 33) ["script", "k"] := by
      refine' PL.fx_mk KX G ?a ?l ?c ?k (fun _ _ _ _ _ _ us hl => match us, hl with | [_, _], _ => rfl); (case a => k_is); (case l => k_is); (case c => k_is); (case k => k_is)
    have f__law_name : PL.FxK KX K47.PW mg "_law_name" "_law_name" (K47.topS 36) ["number"] := by
      refine' PL.fx_mk KX G ?a ?l ?c ?k (fun _ _ _ _ _ _ us hl => match us, hl with | [_], _ => rfl); (case a => k_is); (case l => k_is); (case c => k_is); (case k => k_is)
    have f__law_history : PL.FxK KX K47.PW mg "_law_history" "_law_history" (K47.topS 37) ["script", "length"] := by
      refine' PL.fx_mk KX G ?a ?l ?c ?k (fun _ _ _ _ _ _ us hl => match us, hl with | [_, _], _ => rfl); (case a => k_is); (case l => k_is); (case c => k_is); (case k => k_is)
    have f__law_written : PL.FxK KX K47.PW mg "_law_written" "_law_written" (K47.topS 38) ["history"] := by
      refine' PL.fx_mk KX G ?a ?l ?c ?k (fun _ _ _ _ _ _ us hl => match us, hl with | [_], _ => rfl); (case a => k_is); (case l => k_is); (case c => k_is); (case k => k_is)
    have f_need_list : PL.FxK KX K47.PW mg "need_list" "need_list" (K47.topS 10) ["value", "limit", "what"] := by
      refine' PL.fx_mk KX G ?a ?l ?c ?k (fun _ _ _ _ _ _ us hl => match us, hl with | [_, _, _], _ => rfl); (case a => k_is); (case l => k_is); (case c => k_is); (case k => k_is)
    have f_is_integer : PL.FxK KX K47.PW mg "is_integer" "is_integer" (K47.topS 7) ["value"] := by
      refine' PL.fx_mk KX G ?a ?l ?c ?k (fun _ _ _ _ _ _ us hl => match us, hl with | [_], _ => rfl); (case a => k_is); (case l => k_is); (case c => k_is); (case k => k_is)
    have f_in_range : PL.FxK KX K47.PW mg "in_range" "in_range" (K47.topS 8) ["value", "low", "high"] := by
      refine' PL.fx_mk KX G ?a ?l ?c ?k (fun _ _ _ _ _ _ us hl => match us, hl with | [_, _, _], _ => rfl); (case a => k_is); (case l => k_is); (case c => k_is); (case k => k_is)
    have f_is_time : PL.FxK KX K47.PW mg "is_time" "is_time" (K47.topS 20) ["value"] := by
      refine' PL.fx_mk KX G ?a ?l ?c ?k (fun _ _ _ _ _ _ us hl => match us, hl with | [_], _ => rfl); (case a => k_is); (case l => k_is); (case c => k_is); (case k => k_is)
    have f_is_name : PL.FxK KX K47.PW mg "is_name" "is_name" (K47.topS 19) ["value"] := by
      refine' PL.fx_mk KX G ?a ?l ?c ?k (fun _ _ _ _ _ _ us hl => match us, hl with | [_], _ => rfl); (case a => k_is); (case l => k_is); (case c => k_is); (case k => k_is)
    have f_is_opening : PL.FxK KX K47.PW mg "is_opening" "is_opening" (K47.topS 27) ["value"] := by
      refine' PL.fx_mk KX G ?a ?l ?c ?k (fun _ _ _ _ _ _ us hl => match us, hl with | [_], _ => rfl); (case a => k_is); (case l => k_is); (case c => k_is); (case k => k_is)
    have f_need_history : PL.FxK KX K47.PW mg "need_history" "need_history" (K47.topS 28) ["value"] := by
      refine' PL.fx_mk KX G ?a ?l ?c ?k (fun _ _ _ _ _ _ us hl => match us, hl with | [_], _ => rfl); (case a => k_is); (case l => k_is); (case c => k_is); (case k => k_is)
    have f_format_history : PL.FxK KX K47.PW mg "format_history" "format_history" (K47.topS 29) ["history"] := by
      refine' PL.fx_mk KX G ?a ?l ?c ?k (fun _ _ _ _ _ _ us hl => match us, hl with | [_], _ => rfl); (case a => k_is); (case l => k_is); (case c => k_is); (case k => k_is)
    have f__law_word : PL.FxK KX K47.PW mg "_law_word" "_law_word" (K47.topS 39) ["number"] := by
      refine' PL.fx_mk KX G ?a ?l ?c ?k (fun _ _ _ _ _ _ us hl => match us, hl with | [_], _ => rfl); (case a => k_is); (case l => k_is); (case c => k_is); (case k => k_is)
    have f__law_same : PL.FxK KX K47.PW mg "_law_same" "_law_same" (K47.topS 35) ["actual", "due"] := by
      refine' PL.fx_mk KX G ?a ?l ?c ?k (fun _ _ _ _ _ _ us hl => match us, hl with | [_, _], _ => rfl); (case a => k_is); (case l => k_is); (case c => k_is); (case k => k_is)
    have f__law_number : PL.FxK KX K47.PW mg "_law_number" "_law_number" (K47.topS 42) ["word", "high"] := by
      refine' PL.fx_mk KX G ?a ?l ?c ?k (fun _ _ _ _ _ _ us hl => match us, hl with | [_, _], _ => rfl); (case a => k_is); (case l => k_is); (case c => k_is); (case k => k_is)
    have f__law_is_name : PL.FxK KX K47.PW mg "_law_is_name" "_law_is_name" (K47.topS 43) ["word"] := by
      refine' PL.fx_mk KX G ?a ?l ?c ?k (fun _ _ _ _ _ _ us hl => match us, hl with | [_], _ => rfl); (case a => k_is); (case l => k_is); (case c => k_is); (case k => k_is)
    have f__law_good : PL.FxK KX K47.PW mg "_law_good" "_law_good" (K47.topS 44) ["place", "word"] := by
      refine' PL.fx_mk KX G ?a ?l ?c ?k (fun _ _ _ _ _ _ us hl => match us, hl with | [_, _], _ => rfl); (case a => k_is); (case l => k_is); (case c => k_is); (case k => k_is)
    have f__law_read : PL.FxK KX K47.PW mg "_law_read" "_law_read" (K47.topS 45) ["text"] := by
      refine' PL.fx_mk KX G ?a ?l ?c ?k (fun _ _ _ _ _ _ us hl => match us, hl with | [_], _ => rfl); (case a => k_is); (case l => k_is); (case c => k_is); (case k => k_is)
    have f_need_text : PL.FxK KX K47.PW mg "need_text" "need_text" (K47.topS 9) ["value", "what"] := by
      refine' PL.fx_mk KX G ?a ?l ?c ?k (fun _ _ _ _ _ _ us hl => match us, hl with | [_, _], _ => rfl); (case a => k_is); (case l => k_is); (case c => k_is); (case k => k_is)
    have f_lines_of : PL.FxK KX K47.PW mg "lines_of" "lines_of" (K47.topS 12) ["text", "limit"] := by
      refine' PL.fx_mk KX G ?a ?l ?c ?k (fun _ _ _ _ _ _ us hl => match us, hl with | [_, _], _ => rfl); (case a => k_is); (case l => k_is); (case c => k_is); (case k => k_is)
    have f_word_at : PL.FxK KX K47.PW mg "word_at" "word_at" (K47.topS 13) ["words", "place", "line"] := by
      refine' PL.fx_mk KX G ?a ?l ?c ?k (fun _ _ _ _ _ _ us hl => match us, hl with | [_, _, _], _ => rfl); (case a => k_is); (case l => k_is); (case c => k_is); (case k => k_is)
    have f_is_written : PL.FxK KX K47.PW mg "is_written" "is_written" (K47.topS 11) ["word", "low", "high"] := by
      refine' PL.fx_mk KX G ?a ?l ?c ?k (fun _ _ _ _ _ _ us hl => match us, hl with | [_, _, _], _ => rfl); (case a => k_is); (case l => k_is); (case c => k_is); (case k => k_is)
    have f_number_at : PL.FxK KX K47.PW mg "number_at" "number_at" (K47.topS 14) ["words", "place", "line", "high", "what"] := by
      refine' PL.fx_mk KX G ?a ?l ?c ?k (fun _ _ _ _ _ _ us hl => match us, hl with | [_, _, _, _, _], _ => rfl); (case a => k_is); (case l => k_is); (case c => k_is); (case k => k_is)
    have f_name_at : PL.FxK KX K47.PW mg "name_at" "name_at" (K47.topS 22) ["words", "place", "line", "what"] := by
      refine' PL.fx_mk KX G ?a ?l ?c ?k (fun _ _ _ _ _ _ us hl => match us, hl with | [_, _, _, _], _ => rfl); (case a => k_is); (case l => k_is); (case c => k_is); (case k => k_is)
    have f_need_end : PL.FxK KX K47.PW mg "need_end" "need_end" (K47.topS 15) ["words", "many", "line"] := by
      refine' PL.fx_mk KX G ?a ?l ?c ?k (fun _ _ _ _ _ _ us hl => match us, hl with | [_, _, _], _ => rfl); (case a => k_is); (case l => k_is); (case c => k_is); (case k => k_is)
    have f_opening_at : PL.FxK KX K47.PW mg "opening_at" "opening_at" (K47.topS 30) ["words", "line"] := by
      refine' PL.fx_mk KX G ?a ?l ?c ?k (fun _ _ _ _ _ _ us hl => match us, hl with | [_, _], _ => rfl); (case a => k_is); (case l => k_is); (case c => k_is); (case k => k_is)
    have f_parse_history : PL.FxK KX K47.PW mg "parse_history" "parse_history" (K47.topS 31) ["text"] := by
      refine' PL.fx_mk KX G ?a ?l ?c ?k (fun _ _ _ _ _ _ us hl => match us, hl with | [_], _ => rfl); (case a => k_is); (case l => k_is); (case c => k_is); (case k => k_is)
    have f__law_told : PL.FxK KX K47.PW mg "_law_told" "_law_told" (K47.topS 46) ["text"] := by
      refine' PL.fx_mk KX G ?a ?l ?c ?k (fun _ _ _ _ _ _ us hl => match us, hl with | [_], _ => rfl); (case a => k_is); (case l => k_is); (case c => k_is); (case k => k_is)
    have f__law_asked : PL.FxK KX K47.PW mg "_law_asked" "_law_asked" (K47.topS 47) ["text"] := by
      refine' PL.fx_mk KX G ?a ?l ?c ?k (fun _ _ _ _ _ _ us hl => match us, hl with | [_], _ => rfl); (case a => k_is); (case l => k_is); (case c => k_is); (case k => k_is)
    have f__law_changed_line : PL.FxK KX K47.PW mg "_law_changed_line" "_law_changed_line" (K47.topS 40) ["line", "way", "first", "second"] := by
      refine' PL.fx_mk KX G ?a ?l ?c ?k (fun _ _ _ _ _ _ us hl => match us, hl with | [_, _, _, _], _ => rfl); (case a => k_is); (case l => k_is); (case c => k_is); (case k => k_is)
    have f__law_changed : PL.FxK KX K47.PW mg "_law_changed" "_law_changed" (K47.topS 41) ["text", "cell"] := by
      refine' PL.fx_mk KX G ?a ?l ?c ?k (fun _ _ _ _ _ _ us hl => match us, hl with | [_, _], _ => rfl); (case a => k_is); (case l => k_is); (case c => k_is); (case k => k_is)
    have f_law : PL.FxK KX K47.PW mg "law" "law" (K47.topS 48) ["script"] := by
      refine' PL.fx_mk KX G ?a ?l ?c ?k (fun _ _ _ _ _ _ us hl => match us, hl with | [_], _ => rfl); (case a => k_is); (case l => k_is); (case c => k_is); (case k => k_is)
    have xx : ∃ C_BadText C_BadValue C_TooMany, PL.ExtK KX K47.PW w mg "BadText" ["line", "word", "what"] C_BadText ∧ PL.ExtK KX K47.PW w mg "BadValue" ["what"] C_BadValue ∧ PL.ExtK KX K47.PW w mg "TooMany" ["limit"] C_TooMany ∧ PL.ExmK KX C_BadText C_BadText true ∧ PL.ExmK KX C_BadValue C_BadText false ∧ PL.ExmK KX C_TooMany C_BadText false ∧ PL.ExmK KX C_BadText C_BadValue false ∧ PL.ExmK KX C_BadValue C_BadValue true ∧ PL.ExmK KX C_TooMany C_BadValue false ∧ PL.ExmK KX C_BadText C_TooMany false ∧ PL.ExmK KX C_BadValue C_TooMany false ∧ PL.ExmK KX C_TooMany C_TooMany true := by
      refine' ⟨_, _, _, PL.ext3 (qual := "BadText.__init__") (st := PL.inCls (K47.topS 4) 0) KX G ?a_BadText ?xL_BadText ?rv_BadText ?sa_BadText ?ga_BadText ?gg_BadText ?n0_BadText ?n1_BadText ?n2_BadText ?iC_BadText ?tI_BadText ?l_BadText ?c_BadText ?k_BadText ?kC_BadText ?eC_BadText ?tC_BadText ?hC_BadText ⟨rfl, rfl, rfl, by decide +kernel, rfl, by decide +kernel, by decide +kernel⟩ (fun _ _ _ _ _ _ us hl => match us, hl with | [_, _, _, _], _ => rfl) (fun base cdv A outer s H E => L2.pss_cons (PL.ost (L2.pv 0) (L2.pv 1)) (L2.pss_cons (PL.ost (L2.pv 0) (L2.pv 2)) (L2.pss_one (PL.ost (L2.pv 0) (L2.pv 3))))), PL.ext1 (qual := "BadValue.__init__") (st := PL.inCls (K47.topS 2) 0) KX G ?a_BadValue ?xL_BadValue ?rv_BadValue ?sa_BadValue ?ga_BadValue ?gg_BadValue ?n0_BadValue ?iC_BadValue ?tI_BadValue ?l_BadValue ?c_BadValue ?k_BadValue ?kC_BadValue ?eC_BadValue ?tC_BadValue ?hC_BadValue ⟨rfl, rfl, rfl, by decide +kernel, rfl, by decide +kernel, by decide +kernel⟩ (fun _ _ _ _ _ _ us hl => match us, hl with | [_, _], _ => rfl) (fun base cdv A outer s H E => L2.pss_one (PL.ost (L2.pv 0) (L2.pv 1))), PL.ext1 (qual := "TooMany.__init__") (st := PL.inCls (K47.topS 3) 0) KX G ?a_TooMany ?xL_TooMany ?rv_TooMany ?sa_TooMany ?ga_TooMany ?gg_TooMany ?n0_TooMany ?iC_TooMany ?tI_TooMany ?l_TooMany ?c_TooMany ?k_TooMany ?kC_TooMany ?eC_TooMany ?tC_TooMany ?hC_TooMany ⟨rfl, rfl, rfl, by decide +kernel, rfl, by decide +kernel, by decide +kernel⟩ (fun _ _ _ _ _ _ us hl => match us, hl with | [_, _], _ => rfl) (fun base cdv A outer s H E => L2.pss_one (PL.ost (L2.pv 0) (L2.pv 1))), PL.exm_pair ?p1_BadText_BadText ?p2_BadText_BadText ?p3_BadText_BadText ?p4_BadText_BadText, PL.exm_pair ?p1_BadValue_BadText ?p2_BadValue_BadText ?p3_BadValue_BadText ?p4_BadValue_BadText, PL.exm_pair ?p1_TooMany_BadText ?p2_TooMany_BadText ?p3_TooMany_BadText ?p4_TooMany_BadText, PL.exm_pair ?p1_BadText_BadValue ?p2_BadText_BadValue ?p3_BadText_BadValue ?p4_BadText_BadValue, PL.exm_pair ?p1_BadValue_BadValue ?p2_BadValue_BadValue ?p3_BadValue_BadValue ?p4_BadValue_BadValue, PL.exm_pair ?p1_TooMany_BadValue ?p2_TooMany_BadValue ?p3_TooMany_BadValue ?p4_TooMany_BadValue, PL.exm_pair ?p1_BadText_TooMany ?p2_BadText_TooMany ?p3_BadText_TooMany ?p4_BadText_TooMany, PL.exm_pair ?p1_BadValue_TooMany ?p2_BadValue_TooMany ?p3_BadValue_TooMany ?p4_BadValue_TooMany, PL.exm_pair ?p1_TooMany_TooMany ?p2_TooMany_TooMany ?p3_TooMany_TooMany ?p4_TooMany_TooMany⟩
      (case a_BadText => k_is); (case xL_BadText => k_is); (case sa_BadText => k_is); (case ga_BadText => k_is); (case gg_BadText => k_is); (case n0_BadText => k_is); (case n1_BadText => k_is); (case n2_BadText => k_is); (case iC_BadText => k_is); (case tI_BadText => k_is); (case l_BadText => k_is); (case c_BadText => k_is); (case k_BadText => k_is); (case kC_BadText => k_is); (case eC_BadText => k_is); (case tC_BadText => k_is); (case hC_BadText => k_is); (case rv_BadText => decide +kernel)
      (case a_BadValue => k_is); (case xL_BadValue => k_is); (case sa_BadValue => k_is); (case ga_BadValue => k_is); (case gg_BadValue => k_is); (case n0_BadValue => k_is); (case iC_BadValue => k_is); (case tI_BadValue => k_is); (case l_BadValue => k_is); (case c_BadValue => k_is); (case k_BadValue => k_is); (case kC_BadValue => k_is); (case eC_BadValue => k_is); (case tC_BadValue => k_is); (case hC_BadValue => k_is); (case rv_BadValue => decide +kernel)
      (case a_TooMany => k_is); (case xL_TooMany => k_is); (case sa_TooMany => k_is); (case ga_TooMany => k_is); (case gg_TooMany => k_is); (case n0_TooMany => k_is); (case iC_TooMany => k_is); (case tI_TooMany => k_is); (case l_TooMany => k_is); (case c_TooMany => k_is); (case k_TooMany => k_is); (case kC_TooMany => k_is); (case eC_TooMany => k_is); (case tC_TooMany => k_is); (case hC_TooMany => k_is); (case rv_TooMany => decide +kernel)
      (case p1_BadText_BadText => k_is); (case p2_BadText_BadText => k_is); (case p3_BadText_BadText => k_is); (case p4_BadText_BadText => first | rfl | k_is)
      (case p1_BadValue_BadText => k_is); (case p2_BadValue_BadText => k_is); (case p3_BadValue_BadText => k_is); (case p4_BadValue_BadText => first | rfl | k_is)
      (case p1_TooMany_BadText => k_is); (case p2_TooMany_BadText => k_is); (case p3_TooMany_BadText => k_is); (case p4_TooMany_BadText => first | rfl | k_is)
      (case p1_BadText_BadValue => k_is); (case p2_BadText_BadValue => k_is); (case p3_BadText_BadValue => k_is); (case p4_BadText_BadValue => first | rfl | k_is)
      (case p1_BadValue_BadValue => k_is); (case p2_BadValue_BadValue => k_is); (case p3_BadValue_BadValue => k_is); (case p4_BadValue_BadValue => first | rfl | k_is)
      (case p1_TooMany_BadValue => k_is); (case p2_TooMany_BadValue => k_is); (case p3_TooMany_BadValue => k_is); (case p4_TooMany_BadValue => first | rfl | k_is)
      (case p1_BadText_TooMany => k_is); (case p2_BadText_TooMany => k_is); (case p3_BadText_TooMany => k_is); (case p4_BadText_TooMany => first | rfl | k_is)
      (case p1_BadValue_TooMany => k_is); (case p2_BadValue_TooMany => k_is); (case p3_BadValue_TooMany => k_is); (case p4_BadValue_TooMany => first | rfl | k_is)
      (case p1_TooMany_TooMany => k_is); (case p2_TooMany_TooMany => k_is); (case p3_TooMany_TooMany => k_is); (case p4_TooMany_TooMany => first | rfl | k_is)
    obtain ⟨C_BadText, C_BadValue, C_TooMany, x_BadText, x_BadValue, x_TooMany, e_BadText_BadText, e_BadValue_BadText, e_TooMany_BadText, e_BadText_BadValue, e_BadValue_BadValue, e_TooMany_BadValue, e_BadText_TooMany, e_BadValue_TooMany, e_TooMany_TooMany⟩ := xx
    have Z : ∀ base : Heap, K47.FcK KX w mg base ⟨C_BadText, C_BadValue, C_TooMany⟩ := fun base => ⟨n_abs, n_all, n_bool, n_int, n_isinstance, n_len, n_list, n_range, n_str, n_tuple, c_DIGITS, c_LAST_BOX, c_LATEST, c_LETTERS, c_MOST_OPENINGS, c_WAYS, f__law_row, f__law_cell, f__law_name, f__law_history, f__law_written, f_need_list, f_is_integer, f_in_range, f_is_time, f_is_name, f_is_opening, f_need_history, f_format_history, f__law_word, f__law_same, f__law_number, f__law_is_name, f__law_good, f__law_read, f_need_text, f_lines_of, f_word_at, f_is_written, f_number_at, f_name_at, f_need_end, f_opening_at, f_parse_history, f__law_told, f__law_asked, f__law_changed_line, f__law_changed, f_law, x_BadText base, x_BadValue base, x_TooMany base, ⟨e_BadText_BadText, e_BadValue_BadText, e_TooMany_BadText⟩, ⟨e_BadText_BadValue, e_BadValue_BadValue, e_TooMany_BadValue⟩, ⟨e_BadText_TooMany, e_BadValue_TooMany, e_TooMany_TooMany⟩⟩
    refine' PL.end_law KX G hmg (st := K47.topS 48) K47.law_true ?a ?l ?c ?k (fun s u => .of_eq rfl) (fun base f fd F => K47.okF_law (Z base) F); (case a => k_is); (case l => k_is); (case c => k_is); (case k => k_is)
