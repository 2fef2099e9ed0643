import PyProof.Rows.All
import Wide.All
import OpenK.AllK
import Wide.FinOn
import HandS.ForMost
import HandS.ForExc
import HandS.TryMany
import HandS.ExcInit
import HandS.ExcField
import HandS.CallSlots
import HandS.IsInst
import HandS.SortKw
import HandS.SortInts
import HandS.Flow
import HandS.Wide
import HandS.TupAny
import HandS.Deep
import HandS.Style
import HandS.SetFor
import HandS.RaiseMore
import PySem.Challenge.RW_parcelbank_k55_contracts_and_their_text
set_option Elab.async false
set_option linter.all false
set_option autoImplicit false
set_option maxRecDepth 100000
set_option maxHeartbeats 1000000
namespace PL
open PySem PySem.Spec PyProof.Rows L2

/-! ## data -/
inductive D where
  | non | bl (b : Bool) | int (i : Int) | str (s : Str) | tup (xs : List D) | lst (xs : List D) | scr (ns : List Int)
  deriving Inhabited

inductive Exc where
  | badValue (what : D) | tooMany (limit : D) | badText (line word what : D) | noPlacing (members : D) | refused (reason : D)
def Exc.cls : Exc → Str
  | .badValue _ => "BadValue" | .tooMany _ => "TooMany" | .badText _ _ _ => "BadText" | .noPlacing _ => "NoPlacing" | .refused _ => "Refused"
/-- in the order in which the dict is told: the last stored first -/
def Exc.flds : Exc → List (Str × D)
  | .badValue w => [("what", w)] | .tooMany l => [("limit", l)] | .badText l w x => [("what", x), ("word", w), ("line", l)] | .noPlacing m => [("members", m)] | .refused r => [("reason", r)]

inductive Res (α : Type) where
  | ok (a : α) | exc (e : Exc) | stuck
def Res.bind {α β : Type} : Res α → (α → Res β) → Res β
  | .ok a, f => f a
  | .exc e, _ => .exc e
  | .stuck, _ => .stuck
inductive RV where
  | sh (d : D) | ow (xs : List D)
/-- what a slot may own: an object that nothing else knows -/
inductive OB where
  | lst (xs : List D) | dk (kvs : List (Key × D))
inductive Sl where
  | no | sh (d : D) | ow (o : OB) | tmp (d : D)
abbrev En := List Sl
inductive Out where
  | next (ρ : En) | ret (r : RV) | brk (ρ : En) | cont (ρ : En) | exc (e : Exc) (ρ : En) | stuck

/-! ## what stands for what -/
mutual
inductive Rep (K : PySem.W.Frag) (G : Hp) : V → D → Prop
  | non : Rep K G .non .non
  | bl (b : Bool) : Rep K G (.bl b) (.bl b)
  | int (i : Int) : Rep K G (.int i) (.int i)
  | str (x : Str) : Rep K G (.str x) (.str x)
  | tup {a : Addr} {vs : List V} {ds : List D} : SqT K G a vs → Reps K G vs ds → Rep K G (.ref a) (.tup ds)
  | lst {a : Addr} {vs : List V} {ds : List D} : G a = some (.lst vs) → Reps K G vs ds → Rep K G (.ref a) (.lst ds)
  | scr {a : Addr} {ns : List Int} : SqL K G a (ns.map V.int) → Rep K G (.ref a) (.scr ns)
inductive Reps (K : PySem.W.Frag) (G : Hp) : List V → List D → Prop
  | nil : Reps K G [] []
  | cons {v : V} {vs : List V} {d : D} {ds : List D} : Rep K G v d → Reps K G vs ds → Reps K G (v :: vs) (d :: ds)
end

theorem same_tup {K : PySem.W.Frag} {G G' : Hp} {a : Addr} {xs : List V} (e : Same G G') (h : SqT K G a xs) : SqT K G' a xs := by
  rcases h with (h | ⟨o, h⟩) | h
  · exact .inl (.inl (e _ _ h))
  · exact .inl (.inr ⟨o, e _ _ h⟩)
  · exact .inr h

section
variable {K : PySem.W.Frag} {G G' H H' : Hp}
mutual
theorem Rep.mono (e : Same G G') : ∀ (d : D) (v : V), Rep K G v d → Rep K G' v d
  | .non, _, .non => .non
  | .bl _, _, .bl b => .bl b
  | .int _, _, .int b => .int b
  | .str _, _, .str b => .str b
  | .tup ds, _, .tup h r => .tup (same_tup e h) (Reps.mono e ds _ r)
  | .lst ds, _, .lst h r => .lst (e _ _ h) (Reps.mono e ds _ r)
  | .scr _, _, .scr h => .scr (Same.seq e h)
theorem Reps.mono (e : Same G G') : ∀ (ds : List D) (vs : List V), Reps K G vs ds → Reps K G' vs ds
  | [], _, .nil => .nil
  | d :: ds, _, .cons h r => .cons (Rep.mono e d _ h) (Reps.mono e ds _ r)
end
theorem Reps.len : ∀ {ds : List D} {vs : List V}, Reps K G vs ds → vs.length = ds.length
  | [], _, .nil => rfl
  | d :: ds, _, .cons h r => by rw [List.length_cons, List.length_cons, Reps.len r]
theorem Reps.get : ∀ {ds : List D} {vs : List V} {i : Nat} {d : D}, Reps K G vs ds → ds[i]? = some d → ∃ v, vs[i]? = some v ∧ Rep K G v d
  | [], _, i, d, .nil, h => by simp at h
  | d0 :: ds, _, 0, d, .cons h r, e => by
    simp at e; subst e; exact ⟨_, rfl, h⟩
  | d0 :: ds, _, i + 1, d, .cons h r, e => by
    obtain ⟨v, e1, e2⟩ := Reps.get (i := i) (d := d) r (by simpa using e)
    exact ⟨v, by simpa using e1, e2⟩
theorem Reps.getV : ∀ {ds : List D} {vs : List V} {i : Nat} {v : V}, Reps K G vs ds → vs[i]? = some v → ∃ d, ds[i]? = some d ∧ Rep K G v d
  | [], _, i, d, .nil, h => by simp at h
  | d0 :: ds, _, 0, d, .cons h r, e => by
    simp at e; subst e; exact ⟨_, rfl, h⟩
  | d0 :: ds, _, i + 1, d, .cons h r, e => by
    obtain ⟨v, e1, e2⟩ := Reps.getV (i := i) (v := d) r (by simpa using e)
    exact ⟨v, by simpa using e1, e2⟩
theorem Reps.app : ∀ {ds es : List D} {vs us : List V}, Reps K G vs ds → Reps K G us es → Reps K G (vs ++ us) (ds ++ es)
  | [], _, _, _, .nil, s => s
  | d :: ds, _, _, _, .cons h r, s => .cons h (Reps.app r s)
theorem Reps.take : ∀ {ds : List D} {vs : List V} (n : Nat), Reps K G vs ds → Reps K G (vs.take n) (ds.take n)
  | _, _, 0, _ => by simpa using Reps.nil
  | [], _, n + 1, .nil => .nil
  | d :: ds, _, n + 1, .cons h r => .cons h (Reps.take n r)
theorem Reps.drop : ∀ {ds : List D} {vs : List V} (n : Nat), Reps K G vs ds → Reps K G (vs.drop n) (ds.drop n)
  | _, _, 0, r => r
  | [], _, n + 1, .nil => .nil
  | d :: ds, _, n + 1, .cons h r => Reps.drop n r
theorem Reps.set {v : V} {d : D} (q : Rep K G v d) : ∀ {ds : List D} {vs : List V} (n : Nat), Reps K G vs ds → Reps K G (vs.set n v) (ds.set n d)
  | [], _, n, .nil => .nil
  | d0 :: ds, _, 0, .cons h r => .cons q r
  | d0 :: ds, _, n + 1, .cons h r => .cons h (Reps.set q n r)
theorem Reps.rep : ∀ {ds : List D} {vs : List V} (k : Nat), Reps K G vs ds → Reps K G (List.replicate k vs).flatten (List.replicate k ds).flatten
  | _, _, 0, _ => .nil
  | _, _, k + 1, r => by
    rw [List.replicate_succ, List.replicate_succ, List.flatten_cons, List.flatten_cons]
    exact Reps.app r (Reps.rep k r)
theorem Reps.ints : ∀ {ns : List Int} {vs : List V}, Reps K G vs (ns.map D.int) → vs = ns.map V.int
  | [], _, .nil => rfl
  | n :: ns, _, .cons (.int _) r => by rw [List.map_cons, ← Reps.ints r]
theorem Reps.ofInts : ∀ (ns : List Int), Reps K G (ns.map V.int) (ns.map D.int)
  | [] => .nil
  | n :: ns => .cons (.int n) (Reps.ofInts ns)
end

inductive KReps (K : PySem.W.Frag) (G : Hp) : List (Key × V) → List (Key × D) → Prop
  | nil : KReps K G [] []
  | cons {k : Key} {v : V} {vs : List (Key × V)} {d : D} {ds : List (Key × D)} : Rep K G v d → KReps K G vs ds → KReps K G ((k, v) :: vs) ((k, d) :: ds)
inductive RepO (K : PySem.W.Frag) (G : Hp) : HO → OB → Prop
  | lst {vs : List V} {ds : List D} : Reps K G vs ds → RepO K G (.lst vs) (.lst ds)
  | dk {vs : List (Key × V)} {ds : List (Key × D)} : KReps K G vs ds → RepO K G (.dK vs) (.dk ds)
theorem KReps.mono {K : PySem.W.Frag} {G G' : Hp} (e : Same G G') : ∀ {vs : List (Key × V)} {ds : List (Key × D)}, KReps K G vs ds → KReps K G' vs ds
  | _, _, .nil => .nil
  | _, _, .cons h r => .cons (Rep.mono e _ _ h) (KReps.mono e r)
theorem RepO.mono {K : PySem.W.Frag} {G G' : Hp} (e : Same G G') {h : HO} {o : OB} : RepO K G h o → RepO K G' h o
  | .lst r => .lst (Reps.mono e _ _ r)
  | .dk r => .dk (KReps.mono e r)

/-! ## growth of heaps -/
/-- G: what is shared (read, never written); H: what is tracked -/
structure Grow (G H G' H' : Hp) : Prop where
  g : Same G G'
  h : Same H H'
  s : Same G' H'
  f : ∀ a, G a = none → H a ≠ none → G' a = none
section
variable {K : PySem.W.Frag} {G G1 G2 H H1 H2 : Hp}
theorem Grow.refl (s : Same G H) : Grow G H G H := ⟨Same.refl _, Same.refl _, s, fun _ h _ => h⟩
theorem Grow.trans (a : Grow G H G1 H1) (b : Grow G1 H1 G2 H2) : Grow G H G2 H2 :=
  ⟨a.g.trans b.g, a.h.trans b.h, b.s, fun x e1 e2 => b.f x (a.f x e1 e2) (by
    cases q : H x with
    | none => exact absurd q e2
    | some o => rw [a.h x o q]; simp)⟩
theorem same_new {H : Hp} {p : Addr} {o : HO} (h : H p = none) : Same H (upd H p o) := fun b x e => by
  rw [upd_ne (ne_of_none e h)]; exact e
/-- a new object, shared at once -/
theorem Grow.new (s : Same G H) {p : Addr} {o : HO} (h : H p = none) : Grow G H (upd G p o) (upd H p o) :=
  ⟨same_new (s.free h), same_new h, fun b x e => by
    by_cases hb : b = p
    · subst hb; rw [upd_same] at e ⊢; exact e
    · rw [upd_ne hb] at e ⊢; exact s b x e, fun a e1 e2 => by
    have : a ≠ p := fun z => by rw [z] at e2; exact e2 h
    rw [upd_ne this]; exact e1⟩
/-- a new object, not shared -/
theorem Grow.own (s : Same G H) {p : Addr} {o : HO} (h : H p = none) : Grow G H G (upd H p o) :=
  ⟨Same.refl _, same_new h, fun b x e => by
    have : b ≠ p := ne_of_none (s b x e) h
    rw [upd_ne this]; exact s b x e, fun a e1 _ => e1⟩
/-- a fresh object becomes shared -/
theorem Grow.share (a : Grow G H G1 H1) {p : Addr} {o : HO} (h : H p = none) (h1 : G1 p = none) (e : H1 p = some o) : Grow G H (upd G1 p o) H1 :=
  ⟨fun b x q => by
    have : b ≠ p := ne_of_none (a.g b x q) h1
    rw [upd_ne this]; exact a.g b x q, a.h, fun b x q => by
    by_cases hb : b = p
    · subst hb; rw [upd_same] at q; cases q; exact e
    · rw [upd_ne hb] at q; exact a.s b x q, fun b e1 e2 => by
    have : b ≠ p := fun z => by rw [z] at e2; exact e2 h
    rw [upd_ne this]; exact a.f b e1 e2⟩
end

/-! ## states -/
def SlR (K : PySem.W.Frag) (H0 G H : Hp) : Sl → Option V → Prop
  | .no, _ => True
  | .sh d, o => ∃ v, o = some v ∧ Rep K G v d
  | .ow ob, o => ∃ l ho, o = some (.ref l) ∧ H0 l = none ∧ G l = none ∧ H l = some ho ∧ RepO K G ho ob
  | .tmp _, _ => True
/-- a region of its own, of data that is read for a while and then let go -/
structure Tm (K : PySem.W.Frag) (H0 : Hp) (ρ : En) (σ : L2.St) (G H T : Hp) : Prop where
  at_ : ∀ b x, T b = some x → G b = none ∧ H0 b = none ∧ H b = some x
  rep : ∀ (i : Nat) (d : D), ρ[i]? = some (.tmp d) → ∃ v, σ[i]? = some (some v) ∧ Rep K T v d
  dis : ∀ (i : Nat) (ob : OB) (l : Addr), ρ[i]? = some (.ow ob) → σ[i]? = some (some (.ref l)) → T l = none
structure R (K : PySem.W.Frag) (G0 H0 : Hp) (ρ : En) (σ : L2.St) (G H : Hp) : Prop where
  gr : Grow G0 H0 G H
  len : ρ.length = σ.length
  slot : ∀ (i : Nat) (s : Sl), ρ[i]? = some s → ∃ o, σ[i]? = some o ∧ SlR K H0 G H s o
  dis : ∀ (i j : Nat) (xs ys : OB), i ≠ j → ρ[i]? = some (.ow xs) → ρ[j]? = some (.ow ys) → σ[i]? ≠ σ[j]?
  tm : ∃ T, Tm K H0 ρ σ G H T
section
variable {K : PySem.W.Frag} {G0 H0 G H G1 H1 : Hp} {ρ : En} {σ : L2.St}
theorem SlR.grow (g : Grow G H G1 H1) : ∀ {s : Sl} {o : Option V}, SlR K H0 G H s o → SlR K H0 G1 H1 s o
  | .no, _, _ => trivial
  | .sh d, _, ⟨v, e, r⟩ => ⟨v, e, Rep.mono g.g d v r⟩
  | .ow xs, _, ⟨l, vs, e, h0, h1, h2, r⟩ => ⟨l, vs, e, h0, g.f l h1 (by rw [h2]; simp), g.h l _ h2, RepO.mono g.g r⟩
  | .tmp _, _, _ => trivial
theorem Tm.grow {T : Hp} (t : Tm K H0 ρ σ G H T) (g : Grow G H G1 H1) : Tm K H0 ρ σ G1 H1 T :=
  ⟨fun b x e => let ⟨a1, a2, a3⟩ := t.at_ b x e; ⟨g.f b a1 (by rw [a3]; simp), a2, g.h b x a3⟩, t.rep, t.dis⟩
theorem R.grow (r : R K G0 H0 ρ σ G H) (g : Grow G H G1 H1) : R K G0 H0 ρ σ G1 H1 :=
  ⟨r.gr.trans g, r.len, fun i s e => let ⟨o, e1, e2⟩ := r.slot i s e; ⟨o, e1, e2.grow g⟩, r.dis, r.tm.imp fun _ t => t.grow g⟩
theorem R.sub (r : R K G0 H0 ρ σ G H) : Same G H := r.gr.s
theorem R.sh (r : R K G0 H0 ρ σ G H) {i : Nat} {d : D} (h : ρ[i]? = some (.sh d)) : ∃ v, σ[i]? = some (some v) ∧ Rep K G v d := by
  obtain ⟨o, e1, v, e2, e3⟩ := r.slot i _ h
  exact ⟨v, by rw [e1, e2], e3⟩
theorem R.ow (r : R K G0 H0 ρ σ G H) {i : Nat} {xs : OB} (h : ρ[i]? = some (.ow xs)) : ∃ l ho, σ[i]? = some (some (.ref l)) ∧ H0 l = none ∧ G l = none ∧ H l = some ho ∧ RepO K G ho xs := by
  obtain ⟨o, e1, l, vs, e2, e3⟩ := r.slot i _ h
  exact ⟨l, vs, by rw [e1, e2], e3⟩
theorem R.owL (r : R K G0 H0 ρ σ G H) {i : Nat} {xs : List D} (h : ρ[i]? = some (.ow (.lst xs))) : ∃ l vs, σ[i]? = some (some (.ref l)) ∧ H0 l = none ∧ G l = none ∧ H l = some (.lst vs) ∧ Reps K G vs xs := by
  obtain ⟨l, ho, e1, e2, e3, e4, e5⟩ := r.ow h
  cases e5 with
  | lst q => exact ⟨l, _, e1, e2, e3, e4, q⟩
theorem R.owK (r : R K G0 H0 ρ σ G H) {i : Nat} {xs : List (Key × D)} (h : ρ[i]? = some (.ow (.dk xs))) : ∃ l vs, σ[i]? = some (some (.ref l)) ∧ H0 l = none ∧ G l = none ∧ H l = some (.dK vs) ∧ KReps K G vs xs := by
  obtain ⟨l, ho, e1, e2, e3, e4, e5⟩ := r.ow h
  cases e5 with
  | dk q => exact ⟨l, _, e1, e2, e3, e4, q⟩
theorem get_set {α : Type} {xs : List α} {i j : Nat} {x y : α} (h : (xs.set i x)[j]? = some y) : (j = i ∧ y = x ∧ i < xs.length) ∨ (j ≠ i ∧ xs[j]? = some y) := by
  by_cases e : j = i
  · subst e
    by_cases l : j < xs.length
    · rw [List.getElem?_set_self l] at h; cases h; exact .inl ⟨rfl, rfl, l⟩
    · rw [List.getElem?_eq_none (by simpa using l)] at h; cases h
  · rw [List.getElem?_set_ne (Ne.symm e)] at h; exact .inr ⟨e, h⟩
/-- another slot is set, not to a region's data -/
theorem Tm.set {T : Hp} (t : Tm K H0 ρ σ G H T) (i : Nat) {s : Sl} {o : Option V} (hs : ∀ d, s ≠ .tmp d) (ho : ∀ ob l, s = .ow ob → o = some (.ref l) → T l = none) (hl : ρ.length = σ.length) : Tm K H0 (ρ.set i s) (σ.set i o) G H T := by
  refine ⟨t.at_, fun j d e => ?_, fun j ob l e e2 => ?_⟩
  · rcases get_set e with ⟨_, z, _⟩ | ⟨n, e⟩
    · exact absurd z.symm (hs d)
    · rw [List.getElem?_set_ne (Ne.symm n)]; exact t.rep j d e
  · rcases get_set e with ⟨rfl, z, l1⟩ | ⟨n, e⟩
    · rw [List.getElem?_set_self (by rw [← hl]; exact l1)] at e2
      exact ho ob l z.symm (Option.some.inj e2)
    · rw [List.getElem?_set_ne (Ne.symm n)] at e2; exact t.dis j ob l e e2
/-- a slot is set to shared data -/
theorem R.setSh (r : R K G0 H0 ρ σ G H) (i : Nat) {v : V} {d : D} (q : Rep K G v d) : R K G0 H0 (ρ.set i (.sh d)) (σ.set i (some v)) G H := by
  refine ⟨r.gr, by simp [r.len], fun j s e => ?_, fun j k xs ys hn e1 e2 => ?_, r.tm.imp fun _ t => t.set i (fun _ z => by cases z) (fun _ _ z => by cases z) r.len⟩
  · rcases get_set e with ⟨rfl, rfl, l⟩ | ⟨ne, e⟩
    · refine ⟨some v, List.getElem?_set_self (by rw [← r.len]; exact l), v, rfl, q⟩
    · rw [List.getElem?_set_ne (Ne.symm ne)]; exact r.slot j s e
  · rcases get_set e1 with ⟨_, z, _⟩ | ⟨n1, e1⟩
    · cases z
    · rcases get_set e2 with ⟨_, z, _⟩ | ⟨n2, e2⟩
      · cases z
      · rw [List.getElem?_set_ne (Ne.symm n1), List.getElem?_set_ne (Ne.symm n2)]; exact r.dis j k xs ys hn e1 e2
/-- a slot is set to a new object of its own -/
theorem R.setNew (r : R K G0 H0 ρ σ G H) (i : Nat) {l : Addr} {vs : HO} {xs : OB} (g : Grow G H G1 H1) (hn : H l = none) (hg : G1 l = none) (hh : H1 l = some vs) (q : RepO K G1 vs xs) :
    R K G0 H0 (ρ.set i (.ow xs)) (σ.set i (some (.ref l))) G1 H1 := by
  have r1 := r.grow g
  refine ⟨r1.gr, by simp [r1.len], fun j s e => ?_, fun j k ys zs hne e1 e2 => ?_, ?_⟩
  · rcases get_set e with ⟨rfl, rfl, l'⟩ | ⟨ne, e⟩
    · exact ⟨some (.ref l), List.getElem?_set_self (by rw [← r1.len]; exact l'), l, vs, rfl, r.gr.h.free hn, hg, hh, q⟩
    · rw [List.getElem?_set_ne (Ne.symm ne)]; exact r1.slot j s e
  · have nw : ∀ (j : Nat) (ys : OB), ρ[j]? = some (.ow ys) → σ[j]? ≠ some (some (.ref l)) := fun j ys e z => by
      obtain ⟨l', vs', e1, _, _, e2, _⟩ := r.ow e
      rw [e1] at z; cases z; rw [e2] at hn; cases hn
    rcases get_set e1 with ⟨rfl, _, l1⟩ | ⟨n1, f1⟩
    · rcases get_set e2 with ⟨z, _, _⟩ | ⟨n2, f2⟩
      · exact absurd z.symm hne
      · rw [List.getElem?_set_self (by rw [← r1.len]; exact l1), List.getElem?_set_ne (Ne.symm n2)]
        exact fun z => nw k zs f2 z.symm
    · rcases get_set e2 with ⟨rfl, _, l1⟩ | ⟨n2, f2⟩
      · rw [List.getElem?_set_self (by rw [← r1.len]; exact l1), List.getElem?_set_ne (Ne.symm n1)]
        exact nw j ys f1
      · rw [List.getElem?_set_ne (Ne.symm n1), List.getElem?_set_ne (Ne.symm n2)]; exact r1.dis j k ys zs hne f1 f2
  · obtain ⟨T, t⟩ := r.tm
    refine ⟨T, (t.grow g).set i (fun _ z => by cases z) (fun _ _ _ z => ?_) r1.len⟩
    cases z
    cases e : T l with
    | none => rfl
    | some x => have := (t.at_ l x e).2.2; rw [hn] at this; cases this
theorem R.setNo (r : R K G0 H0 ρ σ G H) (i : Nat) (o : Option V) : R K G0 H0 (ρ.set i .no) (σ.set i o) G H := by
  refine ⟨r.gr, by simp [r.len], fun j s e => ?_, fun j k ys zs hn e1 e2 => ?_, r.tm.imp fun _ t => t.set i (fun _ z => by cases z) (fun _ _ z => by cases z) r.len⟩
  · rcases get_set e with ⟨rfl, rfl, l'⟩ | ⟨ne, e⟩
    · exact ⟨o, List.getElem?_set_self (by rw [← r.len]; exact l'), trivial⟩
    · rw [List.getElem?_set_ne (Ne.symm ne)]; exact r.slot j s e
  · rcases get_set e1 with ⟨_, z, _⟩ | ⟨n1, e1⟩
    · cases z
    · rcases get_set e2 with ⟨_, z, _⟩ | ⟨n2, e2⟩
      · cases z
      · rw [List.getElem?_set_ne (Ne.symm n1), List.getElem?_set_ne (Ne.symm n2)]; exact r.dis j k ys zs hn e1 e2
/-- an owned list becomes shared -/
def frz (i : Nat) (ρ : En) : En := match ρ[i]? with | some (.ow (.lst xs)) => ρ.set i (.sh (.lst xs)) | _ => ρ
theorem R.frz (r : R K G0 H0 ρ σ G H) {i : Nat} {xs : List D} (h : ρ[i]? = some (.ow (.lst xs))) :
    ∃ l vs, σ[i]? = some (some (.ref l)) ∧ G l = none ∧ H l = some (.lst vs) ∧ Reps K G vs xs ∧ Same G (upd G l (.lst vs)) ∧ R K G0 H0 (ρ.set i (.sh (.lst xs))) σ (upd G l (.lst vs)) H := by
  obtain ⟨l, vs, e1, h0, hg, hh, q⟩ := r.owL h
  have sg : Same G (upd G l (.lst vs)) := same_new hg
  have gr : Grow G0 H0 (upd G l (.lst vs)) H := r.gr.share h0 hg hh
  refine ⟨l, vs, e1, hg, hh, q, sg, gr, by simp [r.len], fun j s e => ?_, fun j k ys zs hn e1' e2 => ?_, ?_⟩
  · rcases get_set e with ⟨rfl, rfl, l'⟩ | ⟨ne, e⟩
    · exact ⟨_, e1, _, rfl, .lst upd_same (Reps.mono sg _ _ q)⟩
    · obtain ⟨o, e2, q2⟩ := r.slot j s e
      refine ⟨o, e2, ?_⟩
      cases s with
      | no => trivial
      | tmp d => trivial
      | sh d => obtain ⟨v, a, b⟩ := q2; exact ⟨v, a, Rep.mono sg _ _ b⟩
      | ow ys =>
        obtain ⟨l2, vs2, a, b, c, d, f⟩ := q2
        refine ⟨l2, vs2, a, b, ?_, d, RepO.mono sg f⟩
        have : l2 ≠ l := fun z => r.dis j i ys (.lst xs) ne e h (by rw [e2, e1, a, z])
        rw [upd_ne this]; exact c
  · rcases get_set e1' with ⟨_, z, _⟩ | ⟨n1, e1'⟩
    · cases z
    · rcases get_set e2 with ⟨_, z, _⟩ | ⟨n2, e2⟩
      · cases z
      · exact r.dis j k ys zs hn e1' e2
  · obtain ⟨T, t⟩ := r.tm
    refine ⟨T, fun b x e => ?_, fun j d e => ?_, fun j ob l2 e e2 => ?_⟩
    · obtain ⟨a1, a2, a3⟩ := t.at_ b x e
      have : b ≠ l := fun z => by rw [z, t.dis i _ l h e1] at e; cases e
      exact ⟨by rw [upd_ne this]; exact a1, a2, a3⟩
    · rcases get_set e with ⟨_, z, _⟩ | ⟨n, e⟩
      · cases z
      · exact t.rep j d e
    · rcases get_set e with ⟨_, z, _⟩ | ⟨n, e⟩
      · cases z
      · exact t.dis j ob l2 e e2
/-- an owned list is written -/
theorem R.write (r : R K G0 H0 ρ σ G H) {i : Nat} {xs ys : OB} {l : Addr} {us : HO} (h : ρ[i]? = some (.ow xs)) (hl : σ[i]? = some (some (.ref l))) (q : RepO K G us ys) :
    R K G0 H0 (ρ.set i (.ow ys)) σ G (upd H l us) := by
  obtain ⟨l', vs, e1, h0, hg, hh, _⟩ := r.ow h
  rw [hl] at e1; cases e1
  have gr : Grow G0 H0 G (upd H l us) := ⟨r.gr.g, fun b o e => by
    have : b ≠ l := ne_of_none e h0
    rw [upd_ne this]; exact r.gr.h b o e, fun b o e => by
    have : b ≠ l := ne_of_none e hg
    rw [upd_ne this]; exact r.gr.s b o e, r.gr.f⟩
  refine ⟨gr, by simp [r.len], fun j s e => ?_, fun j k as bs hn e1 e2 => ?_, ?_⟩
  · rcases get_set e with ⟨rfl, rfl, _⟩ | ⟨ne, e⟩
    · exact ⟨_, hl, l, us, rfl, h0, hg, upd_same, q⟩
    · obtain ⟨o, e2, q2⟩ := r.slot j s e
      refine ⟨o, e2, ?_⟩
      cases s with
      | no => trivial
      | tmp d => trivial
      | sh d => exact q2
      | ow zs =>
        obtain ⟨l2, vs2, a, b, c, d, f⟩ := q2
        have : l2 ≠ l := fun z => r.dis j i zs xs ne e h (by rw [e2, hl, a, z])
        exact ⟨l2, vs2, a, b, c, by rw [upd_ne this]; exact d, f⟩
  · have w1 : ∀ {j : Nat} {as : OB}, (ρ.set i (.ow ys))[j]? = some (.ow as) → ∃ as', ρ[j]? = some (.ow as') := fun {j as} e => by
      rcases get_set e with ⟨rfl, _, _⟩ | ⟨_, e⟩
      · exact ⟨xs, h⟩
      · exact ⟨as, e⟩
    obtain ⟨a1, z1⟩ := w1 e1
    obtain ⟨a2, z2⟩ := w1 e2
    exact r.dis j k a1 a2 hn z1 z2
  · obtain ⟨T, t⟩ := r.tm
    have tl := t.dis i _ l h hl
    refine ⟨T, fun b x e => ?_, fun j d e => ?_, fun j ob l2 e e2 => ?_⟩
    · obtain ⟨a1, a2, a3⟩ := t.at_ b x e
      have : b ≠ l := fun z => by rw [z, tl] at e; cases e
      exact ⟨a1, a2, by rw [upd_ne this]; exact a3⟩
    · rcases get_set e with ⟨_, z, _⟩ | ⟨n, e⟩
      · cases z
      · exact t.rep j d e
    · rcases get_set e with ⟨rfl, _, _⟩ | ⟨n, e⟩
      · rw [hl] at e2; cases e2; exact tl
      · exact t.dis j ob l2 e e2
end
end PL

set_option maxRecDepth 100000
set_option maxHeartbeats 1000000
namespace PL
open PySem PySem.Spec PyProof.Rows L2

end PL
namespace L2
open PySem PySem.Spec PyProof.Rows
/-! ## weaker readings -/
section
variable {X : Cx}
theorem PE.imp {e : Expr} {t t' : TE} (h : PE X e t) (k : ∀ σ H Q, t' σ H Q → t σ H Q) : PE X e t' := ⟨fun pins s σ H Q I w => h.run pins s σ H Q I (k σ H Q w)⟩
theorem PT.imp {e : Expr} {t t' : TT} (h : PT X e t) (k : ∀ σ H Q, t' σ H Q → t σ H Q) : PT X e t' := ⟨fun pins s σ H Q I w => h.run pins s σ H Q I (k σ H Q w)⟩
theorem PW.imp {e : Expr} {t t' : TT} (h : PW X e t) (k : ∀ σ H Q, t' σ H Q → t σ H Q) : PW X e t' := ⟨fun wh pins s σ H Q I w => h.run wh pins s σ H Q I (k σ H Q w)⟩
theorem PA.imp {es : List Expr} {t t' : TA} (h : PA X es t) (k : ∀ σ H Q, t' σ H Q → t σ H Q) : PA X es t' := ⟨fun pos pins s σ H Q I w => h.run pos pins s σ H Q I (k σ H Q w)⟩
theorem PS.imp {st : Stmt} {t t' : TS} (h : PS X st t) (k : ∀ D σ H, t' D σ H → t D σ H) : PS X st t' := ⟨fun pins s σ H D I w => h.run pins s σ H D I (k D σ H w)⟩
theorem PSs.imp {st : List Stmt} {t t' : TS} (h : PSs X st t) (k : ∀ D σ H, t' D σ H → t D σ H) : PSs X st t' := ⟨fun pins s σ H D I w => h.run pins s σ H D I (k D σ H w)⟩
end

end L2
namespace PL
open PySem PySem.Spec PyProof.Rows L2
/-! ## the readings of pure meanings -/
structure Amb where
  W : WX
  G0 : Hp
  H0 : Hp
def clOf (mg : Str → Option Value) (n : Str) : Value := (mg n).getD .none
def XR (K : PySem.W.Frag) (G H : Hp) (d : Addr) (e : Exc) : Prop := ∃ vs, H d = some (.xd ((e.flds.map (·.1)).zip vs)) ∧ Reps K G vs (e.flds.map (·.2))
section
variable (K : PySem.W.Frag) (mg : Str → Option Value) (a : Amb)
def Wn (σ : L2.St) (G H : Hp) (e : Exc) : Prop := ∀ d G' H', Grow G H G' H' → XR K G' H' d e → a.W (clOf mg e.cls) (some d) σ H'
def PostE {α : Type} (σ : L2.St) (G H : Hp) (r : Res α) (k : α → Prop) : Prop := match r with
  | .ok x => k x
  | .exc e => Wn K mg a σ G H e
  | .stuck => False
def RR (ρ : En) (σ : L2.St) (G H : Hp) : Prop := R K a.G0 a.H0 ρ σ G H
/-- an expression that gives shared data -/
def tD (f : En → Res D) : TE := fun σ H Q => ∃ ρ G, RR K a ρ σ G H ∧ PostE K mg a σ G H (f ρ) fun d => ∀ v G' H', Grow G H G' H' → Rep K G' v d → Q v H'
/-- .. a new list -/
def tO (f : En → Res (List D)) : TE := fun σ H Q => ∃ ρ G, RR K a ρ σ G H ∧ PostE K mg a σ G H (f ρ) fun ds => ∀ l vs G' H', Grow G H G' H' → H l = none → G' l = none → H' l = some (.lst vs) → Reps K G' vs ds → Q (.ref l) H'
def tT (f : En → Res Bool) : TT := fun σ H Q => ∃ ρ G, RR K a ρ σ G H ∧ PostE K mg a σ G H (f ρ) fun b => ∀ G' H', Grow G H G' H' → Q b H'
def tA (f : En → Res (List D)) : TA := fun σ H Q => ∃ ρ G, RR K a ρ σ G H ∧ PostE K mg a σ G H (f ρ) fun ds => ∀ vs G' H', Grow G H G' H' → Reps K G' vs ds → Q vs H'
def Post (Dn : Ends) (G : Hp) (o : Out) : Prop := match o with
  | .next ρ => ∀ σ' G' H', RR K a ρ σ' G' H' → Same G G' → Dn.nx σ' H'
  | .brk ρ => ∀ σ' G' H', RR K a ρ σ' G' H' → Same G G' → Dn.bk σ' H'
  | .cont ρ => ∀ σ' G' H', RR K a ρ σ' G' H' → Same G G' → Dn.ct σ' H'
  | .ret (.sh d) => ∀ v G' H', Grow a.G0 a.H0 G' H' → Same G G' → Rep K G' v d → Dn.rt v H'
  | .ret (.ow xs) => ∀ l vs G' H', Grow a.G0 a.H0 G' H' → Same G G' → a.H0 l = none → G' l = none → H' l = some (.lst vs) → Reps K G' vs xs → Dn.rt (.ref l) H'
  | .exc e ρ => ∀ d σ' G' H', RR K a ρ σ' G' H' → Same G G' → XR K G' H' d e → a.W (clOf mg e.cls) (some d) σ' H'
  | .stuck => False
def tS (f : En → Out) : TS := fun Dn σ H => ∃ ρ G, RR K a ρ σ G H ∧ Post K mg a Dn G (f ρ)
end
section
variable {K : PySem.W.Frag} {mg : Str → Option Value} {a : Amb} {α β : Type} {σ : L2.St} {G H G1 H1 : Hp} {ρ : En}
theorem Wn.grow {e : Exc} (g : Grow G H G1 H1) (w : Wn K mg a σ G H e) : Wn K mg a σ G1 H1 e := fun d G' H' g' x => w d G' H' (g.trans g') x
theorem PostE.bind {r : Res α} {f : α → Res β} {k : β → Prop} (h : PostE K mg a σ G H (r.bind f) k) : PostE K mg a σ G H r fun x => PostE K mg a σ G H (f x) k := by
  cases r <;> exact h
theorem PostE.imp {r : Res α} {k k' : α → Prop} (h : PostE K mg a σ G H r k) (q : ∀ x, r = .ok x → k x → k' x) : PostE K mg a σ G H r k' := by
  cases r with
  | ok x => exact q x rfl h
  | exc e => exact h
  | stuck => exact h
theorem PostE.grow {r : Res α} {k : α → Prop} (h : PostE K mg a σ G H r k) (g : Grow G H G1 H1) : PostE K mg a σ G1 H1 r k := by
  cases r with
  | ok x => exact h
  | exc e => exact Wn.grow g h
  | stuck => exact h
theorem PostE.okOf {r : Res α} {k : α → Prop} {x : α} (h : PostE K mg a σ G H r k) (e : r = .ok x) : k x := by
  rw [e] at h; exact h
theorem Post.mono {Dn : Ends} {o : Out} (s : Same G G1) (h : Post K mg a Dn G o) : Post K mg a Dn G1 o := by
  cases o with
  | next ρ => exact fun σ' G' H' r s' => h σ' G' H' r (s.trans s')
  | brk ρ => exact fun σ' G' H' r s' => h σ' G' H' r (s.trans s')
  | cont ρ => exact fun σ' G' H' r s' => h σ' G' H' r (s.trans s')
  | ret r => cases r with
    | sh d => exact fun v G' H' r s' => h v G' H' r (s.trans s')
    | ow xs => exact fun l vs G' H' r s' => h l vs G' H' r (s.trans s')
  | exc e ρ => exact fun d σ' G' H' r s' => h d σ' G' H' r (s.trans s')
  | stuck => exact h
end

/-! ## meanings: expressions -/
def eC (d : D) : En → Res D := fun _ => .ok d
def eVar (i : Nat) : En → Res D := fun ρ => match ρ[i]? with | some (.sh d) => .ok d | _ => .stuck
def bin (o : D → D → Res D) (f g : En → Res D) : En → Res D := fun ρ => (f ρ).bind fun x => (g ρ).bind fun y => o x y
def una (o : D → Res D) (f : En → Res D) : En → Res D := fun ρ => (f ρ).bind fun x => o x
def aNil : En → Res (List D) := fun _ => .ok []
def aCons (f : En → Res D) (g : En → Res (List D)) : En → Res (List D) := fun ρ => (f ρ).bind fun x => (g ρ).bind fun xs => .ok (x :: xs)
/-- a function of the argument list -/
def app (o : List D → Res D) (f : En → Res (List D)) : En → Res D := fun ρ => (f ρ).bind o
def appO (o : List D → Res (List D)) (f : En → Res (List D)) : En → Res (List D) := fun ρ => (f ρ).bind o
/-- a new list, shared at once -/
def own (f : En → Res (List D)) : En → Res D := fun ρ => (f ρ).bind fun xs => .ok (.lst xs)
def tru (f : En → Res Bool) : En → Res D := fun ρ => (f ρ).bind fun b => .ok (.bl b)
def ifE (c : En → Res Bool) (f g : En → Res D) : En → Res D := fun ρ => (c ρ).bind fun b => if b then f ρ else g ρ
def andB (f g : En → Res Bool) : En → Res Bool := fun ρ => (f ρ).bind fun b => if b then g ρ else .ok false
def orB (f g : En → Res Bool) : En → Res Bool := fun ρ => (f ρ).bind fun b => if b then .ok true else g ρ
def notB (f : En → Res Bool) : En → Res Bool := fun ρ => (f ρ).bind fun b => .ok (!b)
/-- under a condition -/
def gd {α : Type} (c : Prop) [Decidable c] (r : Res α) : Res α := if c then r else .stuck
theorem PostE.gd {K : PySem.W.Frag} {mg : Str → Option Value} {a : Amb} {α : Type} {σ : L2.St} {G H : Hp} {c : Prop} [Decidable c] {r : Res α} {k : α → Prop} (h : PostE K mg a σ G H (gd c r) k) : c ∧ PostE K mg a σ G H r k := by
  unfold PL.gd at h
  by_cases hc : c
  · rw [if_pos hc] at h; exact ⟨hc, h⟩
  · rw [if_neg hc] at h; exact h.elim
theorem gd_ok {α : Type} {c : Prop} [Decidable c] {r : Res α} {x : α} (h : gd c r = .ok x) : c ∧ r = .ok x := by
  unfold gd at h
  by_cases hc : c
  · rw [if_pos hc] at h; exact ⟨hc, h⟩
  · rw [if_neg hc] at h; cases h
theorem gd_exc {α : Type} {c : Prop} [Decidable c] {r : Res α} {e : Exc} (h : gd c r = .exc e) : c ∧ r = .exc e := by
  unfold gd at h
  by_cases hc : c
  · rw [if_pos hc] at h; exact ⟨hc, h⟩
  · rw [if_neg hc] at h; cases h
theorem gd_pos {α : Type} {c : Prop} [Decidable c] {r : Res α} (h : c) : gd c r = r := if_pos h
def bOf : D → Res Bool | .bl b => .ok b | _ => .stuck
def truD : D → Res Bool
  | .non => .ok false | .bl b => .ok b | .int i => .ok (i != 0)
  | .str s => gd (s.length ≤ sizeLine) (.ok ((s.length : Int) != 0))
  | .tup xs => .ok (!xs.isEmpty) | .lst xs => .ok (!xs.isEmpty) | .scr ns => .ok (!ns.isEmpty)
/-- a value as a test -/
def tst (o : D → Res Bool) (f : En → Res D) : En → Res Bool := fun ρ => (f ρ).bind o
/-- and, or, not as values: all but the last a bool -/
def andV (f g : En → Res D) : En → Res D := fun ρ => (f ρ).bind fun x => (bOf x).bind fun b => if b then g ρ else .ok (.bl false)
def orV (f g : En → Res D) : En → Res D := fun ρ => (f ρ).bind fun x => (bOf x).bind fun b => if b then .ok (.bl true) else g ρ
def notV (f : En → Res D) : En → Res D := fun ρ => (f ρ).bind fun x => (bOf x).bind fun b => .ok (.bl (!b))

/-! ## meanings: statements -/
def ofR {α : Type} (ρ : En) (r : Res α) (k : α → Out) : Out := match r with | .ok x => k x | .exc e => .exc e ρ | .stuck => .stuck
def sNext : En → Out := fun ρ => .next ρ
def sSeq (f g : En → Out) : En → Out := fun ρ => match f ρ with | .next ρ' => g ρ' | o => o
def sSet (i : Nat) (f : En → Res D) : En → Out := fun ρ => ofR ρ (f ρ) fun d => .next (ρ.set i (.sh d))
def sSetO (i : Nat) (f : En → Res (List D)) : En → Out := fun ρ => ofR ρ (f ρ) fun d => .next (ρ.set i (.ow (.lst d)))
def sDrop (f : En → Res D) : En → Out := fun ρ => ofR ρ (f ρ) fun _ => .next ρ
def sRet (f : En → Res D) : En → Out := fun ρ => ofR ρ (f ρ) fun d => .ret (.sh d)
def sRetO (f : En → Res (List D)) : En → Out := fun ρ => ofR ρ (f ρ) fun d => .ret (.ow d)
/-- return of an owned list at slot i -/
def sRetV (i : Nat) : En → Out := fun ρ => match ρ[i]? with | some (.ow (.lst xs)) => .ret (.ow xs) | _ => .stuck
def sRetN : En → Out := fun _ => .ret (.sh .non)
def sIf (c : En → Res Bool) (f g : En → Out) : En → Out := fun ρ => ofR ρ (c ρ) fun b => if b then f ρ else g ρ
def sBrk : En → Out := fun ρ => .brk ρ
def sCont : En → Out := fun ρ => .cont ρ
def sFrz (i : Nat) (f : En → Out) : En → Out := fun ρ => match ρ[i]? with | some (.ow (.lst xs)) => f (ρ.set i (.sh (.lst xs))) | _ => .stuck

/-! ## rules: expressions -/
section
variable {X : Cx} {a : Amb} {e b : Expr} {es : List Expr} {f g : En → Res D} {pos : Pos}

theorem pe_const {d : D} {v : V} (h : PE X e (tC v)) (r : ∀ G, Rep X.K G v d) : PE X e (tD X.K X.mg a (eC d)) :=
  h.imp fun σ H Q ⟨ρ, G, hR, q⟩ => q v G H (Grow.refl hR.sub) (r G)
theorem d_int {i : Int} {j : Nat} : PE X (.Constant (.int i) j pos) (tD X.K X.mg a (eC (.int i))) := pe_const pe_int fun _ => .int i
theorem d_bl {i : Bool} {j : Nat} : PE X (.Constant (.bool i) j pos) (tD X.K X.mg a (eC (.bl i))) := pe_const pe_bl fun _ => .bl i
theorem d_non {j : Nat} : PE X (.Constant .none j pos) (tD X.K X.mg a (eC .non)) := pe_const pe_non fun _ => .non
theorem d_str {x : Str} {j : Nat} : PE X (.Constant (.str x) j pos) (tD X.K X.mg a (eC (.str x))) := pe_const pe_str fun _ => .str x
/-- a module's constant -/
theorem d_glob {x : Str} {d : D} {v : V} {u : Value} (hm : X.mg x = some u) (r : RelV v u) (q : ∀ G, Rep X.K G v d) (hg : Gl X x := by rfl) (hd : (x == ("__debug__" : Str)) = false := by decide) : PE X (.Name x pos) (tD X.K X.mg a (eC d)) := pe_const (pe_glob hg hm r hd) q
theorem d_var (i : Nat) {x : Str} (hN : X.N[i]? = some x := by rfl) (hv : Vis X.env.scope x := by first | exact Or.inl rfl | exact Or.inr (Or.inl rfl) | exact Or.inr (Or.inr rfl)) (hd : (x == ("__debug__" : Str)) = false := by decide)
    (hcd : (x == ("__classdict__" : Str)) = false := by decide) : PE X (.Name x pos) (tD X.K X.mg a (eVar i)) :=
  (pe_var hN hv hd hcd).imp fun σ H Q ⟨ρ, G, hR, q⟩ => by
    unfold eVar at q
    cases h : ρ[i]? with
    | none => rw [h] at q; exact q.elim
    | some s => cases s with
      | no => rw [h] at q; exact q.elim
      | tmp _ => rw [h] at q; exact q.elim
      | ow xs => rw [h] at q; exact q.elim
      | sh d =>
        rw [h] at q
        obtain ⟨v, e1, r⟩ := hR.sh h
        exact ⟨v, e1, q v G H (Grow.refl hR.sub) r⟩

/-- an operator on data -/
def OpD (X : Cx) (op : Value → Value → Sem Value) (o : D → D → Res D) : Prop := ∃ r : R2, OpR X op r ∧
  ∀ (G H : Hp) (x y : V) (c d z : D) (Q : VK), Same G H → Rep X.K G x c → Rep X.K G y d → o c d = .ok z → (∀ v G' H', Grow G H G' H' → Rep X.K G' v z → Q v H') → r x y H Q
/-- .. it raises nothing -/
def NoX (o : D → D → Res D) : Prop := ∀ x y e, o x y ≠ .exc e
theorem bin_ok {o : D → D → Res D} {r : R2} (hx : NoX o)
    (hr : ∀ (G H : Hp) (x y : V) (c d z : D) (Q : VK), Same G H → Rep X.K G x c → Rep X.K G y d → o c d = .ok z → (∀ v G' H', Grow G H G' H' → Rep X.K G' v z → Q v H') → r x y H Q)
    (σ : L2.St) (H : Hp) (Q : VK) (h : tD X.K X.mg a (bin o f g) σ H Q) : tOp r (tD X.K X.mg a f) (tD X.K X.mg a g) σ H Q := by
  obtain ⟨ρ, G, hR, q⟩ := h
  refine ⟨ρ, G, hR, (PostE.bind q).imp fun x e1 q1 v1 G1 H1 g1 r1 => ?_⟩
  refine ⟨ρ, G1, hR.grow g1, ((PostE.bind q1).grow g1).imp fun y e2 q2 v2 G2 H2 g2 r2 => ?_⟩
  cases h3 : o x y with
  | stuck => rw [h3] at q2; exact q2.elim
  | exc e => exact absurd h3 (hx x y e)
  | ok z =>
    rw [h3] at q2
    exact hr G2 H2 v1 v2 x y z Q g2.s (Rep.mono g2.g _ _ r1) r2 h3 fun v G' H' g3 r3 => q2 v G' H' ((g1.trans g2).trans g3) r3
theorem d_bin {op : Operator} {o : D → D → Res D} (ho : OpD X (binaryOp op) o) (hx : NoX o) (hf : PE X e (tD X.K X.mg a f)) (hg : PE X b (tD X.K X.mg a g)) : PE X (.BinOp e op b pos) (tD X.K X.mg a (bin o f g)) := by
  obtain ⟨r, h1, h2⟩ := ho
  exact (pe_op h1 hf hg).imp (bin_ok hx h2)
theorem d_cmp {op : CmpOp} {o : D → D → Res D} (ho : OpD X (compareOp op) o) (hx : NoX o) (hf : PE X e (tD X.K X.mg a f)) (hg : PE X b (tD X.K X.mg a g)) (hm : behindInMarks op b = false) : PE X (.Compare e [op] [b] pos) (tD X.K X.mg a (bin o f g)) := by
  obtain ⟨r, h1, h2⟩ := ho
  exact (pe_cmpR h1 hf hg hm).imp (bin_ok hx h2)
/-- a comparison as a test -/
theorem t_cmp {op : CmpOp} {o : D → D → Res D} (ho : OpD X (compareOp op) o) (hx : NoX o) (hf : PE X e (tD X.K X.mg a f)) (hg : PE X b (tD X.K X.mg a g)) (hm : behindInMarks op b = false) : PT X (.Compare e [op] [b] pos) (tT X.K X.mg a (tst bOf (bin o f g))) := by
  obtain ⟨r, h1, h2⟩ := ho
  refine (pt_cmpR h1 hf hg hm).imp fun σ H Q ⟨ρ, G, hR, q⟩ => ?_
  refine bin_ok hx h2 σ H _ ⟨ρ, G, hR, (PostE.bind q).imp fun x e1 q1 v G' H' g1 r1 => ?_⟩
  cases r1 with
  | bl k => exact ⟨k, rfl, q1 G' H' g1⟩
  | _ => exact q1.elim
/-- the truth of a value as a test -/
theorem t_tru (hf : PE X e (tD X.K X.mg a f)) (he : ∀ whole, isTrue e X.env whole = (do let v ← whole; standAt e.pos; holding [v] (truthy v)) := by intro _; rfl) : PT X e (tT X.K X.mg a (tst truD f)) := by
  refine (pt_truth hf he).imp fun σ H Q ⟨ρ, G, hR, q⟩ => ?_
  refine ⟨ρ, G, hR, (PostE.bind q).imp fun x e1 q1 v G' H' g1 r1 => ?_⟩
  have sh := g1.s
  cases r1 with
  | non => exact ⟨false, rfl, q1 G' H' g1⟩
  | bl k => exact ⟨k, rfl, q1 G' H' g1⟩
  | int i => exact ⟨_, rfl, q1 G' H' g1⟩
  | str s =>
    obtain ⟨hz, q1⟩ := PostE.gd q1
    exact ⟨_, ⟨hz, rfl⟩, q1 G' H' g1⟩
  | @tup p vs ds h r =>
    refine ⟨!ds.isEmpty, .inr (.inl ⟨vs, same_tup sh h, ?_⟩), q1 G' H' g1⟩
    cases r <;> rfl
  | @lst p vs ds h r =>
    refine ⟨!ds.isEmpty, .inl ⟨vs, SqL.of (sh _ _ h), ?_⟩, q1 G' H' g1⟩
    cases r <;> rfl
  | @scr p ns h =>
    refine ⟨!ns.isEmpty, .inl ⟨_, sh.seq h, ?_⟩, q1 G' H' g1⟩
    cases ns <;> rfl
theorem t_not {t : En → Res Bool} (h : PT X e (tT X.K X.mg a t)) : PT X (.UnaryOp .Not e pos) (tT X.K X.mg a (notB t)) :=
  (pt_not h).imp fun σ H Q ⟨ρ, G, hR, q⟩ => ⟨ρ, G, hR, (PostE.bind q).imp fun x _ q1 => q1⟩
theorem t_and1 {t : En → Res Bool} (h : PT X e (tT X.K X.mg a t)) : PW X (.BoolOp .And [e] pos) (tT X.K X.mg a t) := pw_and1 h
theorem t_or1 {t : En → Res Bool} (h : PT X e (tT X.K X.mg a t)) : PW X (.BoolOp .Or [e] pos) (tT X.K X.mg a t) := pw_or1 h
theorem t_and {t u : En → Res Bool} (h : PT X e (tT X.K X.mg a t)) (h2 : PW X (.BoolOp .And (b :: es) pos) (tT X.K X.mg a u)) : PW X (.BoolOp .And (e :: b :: es) pos) (tT X.K X.mg a (andB t u)) :=
  (pw_and h h2).imp fun σ H Q ⟨ρ, G, hR, q⟩ => ⟨ρ, G, hR, (PostE.bind q).imp fun x e1 q1 G' H' g1 => by
    cases x with
    | true => exact ⟨ρ, G', hR.grow g1, (q1.grow g1).imp fun y _ q2 G2 H2 g2 => q2 G2 H2 (g1.trans g2)⟩
    | false => exact q1 G' H' g1⟩
theorem t_or {t u : En → Res Bool} (h : PT X e (tT X.K X.mg a t)) (h2 : PW X (.BoolOp .Or (b :: es) pos) (tT X.K X.mg a u)) : PW X (.BoolOp .Or (e :: b :: es) pos) (tT X.K X.mg a (orB t u)) :=
  (pw_or h h2).imp fun σ H Q ⟨ρ, G, hR, q⟩ => ⟨ρ, G, hR, (PostE.bind q).imp fun x e1 q1 G' H' g1 => by
    cases x with
    | true => exact q1 G' H' g1
    | false => exact ⟨ρ, G', hR.grow g1, (q1.grow g1).imp fun y _ q2 G2 H2 g2 => q2 G2 H2 (g1.trans g2)⟩⟩
theorem d_one {op : BoolOp} (h : PE X e (tD X.K X.mg a f)) : PE X (.BoolOp op [e] pos) (tD X.K X.mg a f) := pe_one h
theorem d_and (h : PE X e (tD X.K X.mg a f)) (h2 : PE X (.BoolOp .And (b :: es) pos) (tD X.K X.mg a g)) : PE X (.BoolOp .And (e :: b :: es) pos) (tD X.K X.mg a (andV f g)) :=
  (pe_and h h2).imp fun σ H Q ⟨ρ, G, hR, q⟩ => ⟨ρ, G, hR, (PostE.bind q).imp fun x e1 q1 v G' H' g1 r1 => by
    cases r1 with
    | bl k => cases k with
      | true => exact ⟨true, rfl, ρ, G', hR.grow g1, (q1.grow g1).imp fun y _ q2 w G2 H2 g2 => q2 w G2 H2 (g1.trans g2)⟩
      | false => exact ⟨false, rfl, q1 _ G' H' g1 (.bl false)⟩
    | _ => exact q1.elim⟩
theorem d_or (h : PE X e (tD X.K X.mg a f)) (h2 : PE X (.BoolOp .Or (b :: es) pos) (tD X.K X.mg a g)) : PE X (.BoolOp .Or (e :: b :: es) pos) (tD X.K X.mg a (orV f g)) :=
  (pe_or h h2).imp fun σ H Q ⟨ρ, G, hR, q⟩ => ⟨ρ, G, hR, (PostE.bind q).imp fun x e1 q1 v G' H' g1 r1 => by
    cases r1 with
    | bl k => cases k with
      | false => exact ⟨false, rfl, ρ, G', hR.grow g1, (q1.grow g1).imp fun y _ q2 w G2 H2 g2 => q2 w G2 H2 (g1.trans g2)⟩
      | true => exact ⟨true, rfl, q1 _ G' H' g1 (.bl true)⟩
    | _ => exact q1.elim⟩
theorem d_not (h : PE X e (tD X.K X.mg a f)) : PE X (.UnaryOp .Not e pos) (tD X.K X.mg a (notV f)) :=
  (pe_not h).imp fun σ H Q ⟨ρ, G, hR, q⟩ => ⟨ρ, G, hR, (PostE.bind q).imp fun x e1 q1 v G' H' g1 r1 => by
    cases r1 with
    | bl k => exact ⟨k, rfl, q1 _ G' H' g1 (.bl _)⟩
    | _ => exact q1.elim⟩
theorem d_ifE {c : Expr} {t : En → Res Bool} (hc : PT X c (tT X.K X.mg a t)) (h : PE X e (tD X.K X.mg a f)) (h2 : PE X b (tD X.K X.mg a g)) : PE X (.IfExp c e b pos) (tD X.K X.mg a (ifE t f g)) :=
  (pe_ifExp hc h h2).imp fun σ H Q ⟨ρ, G, hR, q⟩ => ⟨ρ, G, hR, (PostE.bind q).imp fun x e1 q1 G' H' g1 => by
    cases x with
    | true => exact ⟨ρ, G', hR.grow g1, (q1.grow g1).imp fun y _ q2 w G2 H2 g2 => q2 w G2 H2 (g1.trans g2)⟩
    | false => exact ⟨ρ, G', hR.grow g1, (q1.grow g1).imp fun y _ q2 w G2 H2 g2 => q2 w G2 H2 (g1.trans g2)⟩⟩
/-- a new list, shared at once -/
theorem d_own {fo : En → Res (List D)} (h : PE X e (tO X.K X.mg a fo)) : PE X e (tD X.K X.mg a (own fo)) :=
  h.imp fun σ H Q ⟨ρ, G, hR, q⟩ => ⟨ρ, G, hR, (PostE.bind q).imp fun x e1 q1 l vs G' H' g1 n1 n2 h1 r1 =>
    q1 _ _ _ (g1.share n1 n2 h1) (.lst upd_same (Reps.mono (same_new n2) _ _ r1))⟩
/-! argument lists, displays -/
theorem a_nil : PA X [] (tA X.K X.mg a aNil) := pa_nil.imp fun σ H Q ⟨ρ, G, hR, q⟩ => q [] G H (Grow.refl hR.sub) .nil
theorem a_cons {fs : En → Res (List D)} (h : PE X e (tD X.K X.mg a f)) (hs : PA X es (tA X.K X.mg a fs)) (hst : starEach (e :: es) X.env = (false, eval e X.env) :: starEach es X.env := by rfl) : PA X (e :: es) (tA X.K X.mg a (aCons f fs)) :=
  (pa_cons h hs hst).imp fun σ H Q ⟨ρ, G, hR, q⟩ => ⟨ρ, G, hR, (PostE.bind q).imp fun x e1 q1 v G' H' g1 r1 =>
    ⟨ρ, G', hR.grow g1, ((PostE.bind q1).grow g1).imp fun xs e2 q2 vs G2 H2 g2 r2 => q2 (v :: vs) G2 H2 (g1.trans g2) (.cons (Rep.mono g2.g _ _ r1) r2)⟩⟩
def tupD (xs : List D) : Res D := gd (xs.length ≤ sizeLine) (.ok (.tup xs))
def lstD (xs : List D) : Res (List D) := gd (xs.length ≤ sizeLine) (.ok xs)
theorem d_tup {fs : En → Res (List D)} {x1 : Nat} (hs : PA X es (tA X.K X.mg a fs)) : PE X (.Tuple es x1 pos) (tD X.K X.mg a (app tupD fs)) :=
  (pe_tup hs).imp fun σ H Q ⟨ρ, G, hR, q⟩ => ⟨ρ, G, hR, (PostE.bind q).imp fun xs e1 q1 vs G' H' g1 r1 => by
    obtain ⟨hz, q1⟩ := PostE.gd q1
    exact ⟨by rw [r1.len]; exact hz, fun p hp => q1 (.ref p) _ _ (g1.trans (Grow.new g1.s hp)) (.tup (SqT.of upd_same) (Reps.mono (same_new (g1.s.free hp)) _ _ r1))⟩⟩
theorem o_lst {fs : En → Res (List D)} (hs : PA X es (tA X.K X.mg a fs)) : PE X (.List es pos) (tO X.K X.mg a (appO lstD fs)) :=
  (pe_lst hs).imp fun σ H Q ⟨ρ, G, hR, q⟩ => ⟨ρ, G, hR, (PostE.bind q).imp fun xs e1 q1 vs G' H' g1 r1 => by
    obtain ⟨hz, q1⟩ := PostE.gd q1
    exact ⟨by rw [r1.len]; exact hz, fun p hp => q1 p vs G' (upd H' p (.lst vs)) (g1.trans (Grow.own g1.s hp)) (g1.h.free hp) (g1.s.free hp) upd_same r1⟩⟩
end

/-! ## rules: statements -/
section
variable {X : Cx} {a : Amb} {e b : Expr} {st : Stmt} {sts : List Stmt} {f : En → Res D} {F F2 : En → Out} {pos : Pos}
theorem ofR_post {α : Type} {σ : L2.St} {G H : Hp} {ρ : En} {r : Res α} {k : α → Out} {Dn : Ends} (hR : RR X.K a ρ σ G H) (h : Post X.K X.mg a Dn G (ofR ρ r k)) : PostE X.K X.mg a σ G H r fun x => Post X.K X.mg a Dn G (k x) := by
  cases r with
  | ok x => exact h
  | exc e => exact fun d G' H' g x => h d σ G' H' (R.grow hR g) g.g x
  | stuck => exact h
theorem s_nil : PSs X [] (tS X.K X.mg a sNext) := pss_nil.imp fun Dn σ H ⟨ρ, G, hR, q⟩ => q σ G H hR (Same.refl _)
theorem s_cons (h : PS X st (tS X.K X.mg a F)) (h2 : PSs X sts (tS X.K X.mg a F2)) : PSs X (st :: sts) (tS X.K X.mg a (sSeq F F2)) :=
  (pss_cons h h2).imp fun Dn σ H ⟨ρ, G, hR, q⟩ => by
    refine ⟨ρ, G, hR, ?_⟩
    unfold sSeq at q
    cases e1 : F ρ with
    | next ρ' => rw [e1] at q; exact fun σ' G' H' r' s' => ⟨ρ', G', r', Post.mono s' q⟩
    | brk ρ' => rw [e1] at q; exact q
    | cont ρ' => rw [e1] at q; exact q
    | ret r => rw [e1] at q; cases r <;> exact q
    | exc e ρ' => rw [e1] at q; exact q
    | stuck => rw [e1] at q; exact q
theorem s_one (h : PS X st (tS X.K X.mg a F)) : PSs X [st] (tS X.K X.mg a F) := pss_one h
/-- a list becomes shared, ahead of what follows -/
theorem s_frz (i : Nat) (h : PSs X sts (tS X.K X.mg a F)) : PSs X sts (tS X.K X.mg a (sFrz i F)) :=
  h.imp fun Dn σ H ⟨ρ, G, hR, q⟩ => by
    unfold sFrz at q
    cases e1 : ρ[i]? with
    | none => rw [e1] at q; exact q.elim
    | some s => cases s with
      | no => rw [e1] at q; exact q.elim
      | tmp _ => rw [e1] at q; exact q.elim
      | sh d => rw [e1] at q; exact q.elim
      | ow ob => cases ob with
        | dk kvs => rw [e1] at q; exact q.elim
        | lst xs =>
          rw [e1] at q
          obtain ⟨l, vs, _, _, _, _, sg, hR'⟩ := R.frz hR e1
          exact ⟨_, _, hR', Post.mono sg q⟩
theorem s_ret (h : PE X e (tD X.K X.mg a f)) : PS X (.Return (some e) pos) (tS X.K X.mg a (sRet f)) :=
  (ps_ret h).imp fun Dn σ H ⟨ρ, G, hR, q⟩ => ⟨ρ, G, hR, (ofR_post hR q).imp fun x _ q1 v G' H' g r => q1 v G' H' (hR.gr.trans g) g.g r⟩
theorem s_retO {fo : En → Res (List D)} (h : PE X e (tO X.K X.mg a fo)) : PS X (.Return (some e) pos) (tS X.K X.mg a (sRetO fo)) :=
  (ps_ret h).imp fun Dn σ H ⟨ρ, G, hR, q⟩ => ⟨ρ, G, hR, (ofR_post hR q).imp fun x _ q1 l vs G' H' g n1 n2 h1 r => q1 l vs G' H' (hR.gr.trans g) g.g (hR.gr.h.free n1) n2 h1 r⟩
theorem s_retV (i : Nat) {x : Str} {pos2 : Pos} (hN : X.N[i]? = some x := by rfl) (hv : Vis X.env.scope x := by first | exact Or.inl rfl | exact Or.inr (Or.inl rfl) | exact Or.inr (Or.inr rfl)) (hd : (x == ("__debug__" : Str)) = false := by decide)
    (hcd : (x == ("__classdict__" : Str)) = false := by decide) : PS X (.Return (some (.Name x pos)) pos2) (tS X.K X.mg a (sRetV i)) :=
  (ps_ret (pe_var hN hv hd hcd)).imp fun Dn σ H ⟨ρ, G, hR, q⟩ => by
    unfold sRetV at q
    cases e1 : ρ[i]? with
    | none => rw [e1] at q; exact q.elim
    | some s => cases s with
      | no => rw [e1] at q; exact q.elim
      | tmp _ => rw [e1] at q; exact q.elim
      | sh d => rw [e1] at q; exact q.elim
      | ow ob => cases ob with
        | dk kvs => rw [e1] at q; exact q.elim
        | lst xs =>
          rw [e1] at q
          obtain ⟨l, vs, e2, h0, hg, hh, r⟩ := R.owL hR e1
          exact ⟨_, e2, q l vs G H hR.gr (Same.refl _) h0 hg hh r⟩
theorem s_retN : PS X (.Return none pos) (tS X.K X.mg a sRetN) :=
  ps_retN.imp fun Dn σ H ⟨ρ, G, hR, q⟩ => q .non G H hR.gr (Same.refl _) .non
theorem s_set {i : Nat} {x : Str} {p : Pos} (hnd : X.N.Nodup) (h : PE X e (tD X.K X.mg a f)) (hN : X.N[i]? = some x := by rfl) (hx : Loc X.env.scope x := by first | exact Or.inl rfl | exact Or.inr rfl)
    (hfn : X.fn x = true ∨ X.env.scope.names.lookup x = some .local := by first | exact .inl rfl | exact .inr rfl) (hs : swapsWith e (some (.Name x p)) pos.line X.env = pure false := by rfl) :
    PS X (.Assign [.Name x p] e pos) (tS X.K X.mg a (sSet i f)) :=
  (ps_set hnd hN hx h hs hfn).imp fun Dn σ H ⟨ρ, G, hR, q⟩ => ⟨ρ, G, hR, (ofR_post hR q).imp fun d _ q1 v G' H' g r => q1 _ G' H' (R.setSh (R.grow hR g) i r) g.g⟩
theorem s_setO {i : Nat} {x : Str} {p : Pos} {fo : En → Res (List D)} (hnd : X.N.Nodup) (h : PE X e (tO X.K X.mg a fo)) (hN : X.N[i]? = some x := by rfl) (hx : Loc X.env.scope x := by first | exact Or.inl rfl | exact Or.inr rfl)
    (hfn : X.fn x = true ∨ X.env.scope.names.lookup x = some .local := by first | exact .inl rfl | exact .inr rfl) (hs : swapsWith e (some (.Name x p)) pos.line X.env = pure false := by rfl) :
    PS X (.Assign [.Name x p] e pos) (tS X.K X.mg a (sSetO i fo)) :=
  (ps_set hnd hN hx h hs hfn).imp fun Dn σ H ⟨ρ, G, hR, q⟩ => ⟨ρ, G, hR, (ofR_post hR q).imp fun d _ q1 l vs G' H' g n1 n2 h1 r => q1 _ G' H' (R.setNew hR i g n1 n2 h1 (.lst r)) g.g⟩
theorem s_drop (h : PE X e (tD X.K X.mg a f)) (hs : swapsWith e none pos.line X.env = pure false := by rfl) : PS X (.Expr e pos) (tS X.K X.mg a (sDrop f)) :=
  (ps_expr h hs).imp fun Dn σ H ⟨ρ, G, hR, q⟩ => ⟨ρ, G, hR, (ofR_post hR q).imp fun d _ q1 v G' H' g r => q1 _ G' H' (R.grow hR g) g.g⟩
theorem s_if {c : Expr} {t : En → Res Bool} {ss : List Stmt} (hc : PT X c (tT X.K X.mg a t)) (h : PSs X sts (tS X.K X.mg a F)) (h2 : PSs X ss (tS X.K X.mg a F2)) : PS X (.If c sts ss pos) (tS X.K X.mg a (sIf t F F2)) :=
  (ps_if hc h h2).imp fun Dn σ H ⟨ρ, G, hR, q⟩ => ⟨ρ, G, hR, (ofR_post hR q).imp fun b _ q1 G' H' g => by
    cases b with
    | true => exact ⟨ρ, G', R.grow hR g, Post.mono g.g q1⟩
    | false => exact ⟨ρ, G', R.grow hR g, Post.mono g.g q1⟩⟩
theorem s_brk : PS X (.Break pos) (tS X.K X.mg a sBrk) := ps_break.imp fun Dn σ H ⟨ρ, G, hR, q⟩ => q σ G H hR (Same.refl _)
theorem s_cont : PS X (.Continue pos) (tS X.K X.mg a sCont) := ps_continue.imp fun Dn σ H ⟨ρ, G, hR, q⟩ => q σ G H hR (Same.refl _)
theorem s_pass : PS X (.Pass pos) (tS X.K X.mg a sNext) := ps_pass.imp fun Dn σ H ⟨ρ, G, hR, q⟩ => q σ G H hR (Same.refl _)
end
end PL

set_option maxRecDepth 100000
set_option maxHeartbeats 1000000
namespace PL
open PySem PySem.Spec PyProof.Rows L2

/-! ## data as the library's -/
mutual
def toPy : D → PyData
  | .non => .none | .bl b => .bool b | .int i => .int i | .str s => .str s | .tup xs => .tuple (toPys xs) | .lst xs => .list (toPys xs) | .scr _ => .dict []
def toPys : List D → List PyData
  | [] => []
  | x :: xs => toPy x :: toPys xs
end
mutual
theorem Rep.dp {K : PySem.W.Frag} {G : Hp} : ∀ (d : D) (v : V), (toPy d).canLay0 = true → Rep K G v d → Dp K G v (toPy d)
  | .non, _, _, .non => .non
  | .bl b, _, _, .bl _ => .bl b
  | .int b, _, _, .int _ => .int b
  | .str b, _, _, .str _ => .str b
  | .tup ds, _, h, .tup e r => .tup e (Reps.dp ds _ (by simpa only [toPy, PyData.canLay0] using h) r)
  | .lst ds, _, h, .lst e r => .lst (SqL.of e) (Reps.dp ds _ (by simpa only [toPy, PyData.canLay0] using h) r)
  | .scr _, _, h, .scr _ => by simp only [toPy, PyData.canLay0] at h; cases h
theorem Reps.dp {K : PySem.W.Frag} {G : Hp} : ∀ (ds : List D) (vs : List V), PyData.canLayAll0 (toPys ds) = true → Reps K G vs ds → DpAll K G vs (toPys ds)
  | [], _, _, .nil => .nil
  | d :: ds, _, h, .cons e r => by
    have h' : ((toPy d).canLay0 && PyData.canLayAll0 (toPys ds)) = true := by simpa only [toPys, PyData.canLayAll0] using h
    obtain ⟨h1, h2⟩ := Bool.and_eq_true_iff.mp h'
    exact .cons (Rep.dp d _ h1 e) (Reps.dp ds _ h2 r)
end
mutual
theorem Dp.monoS {K : PySem.W.Frag} {G H : Hp} (s : Same G H) : ∀ (d : PyData) (v : V), Dp K G v d → Dp K H v d
  | _, _, .non => .non
  | _, _, .bl b => .bl b
  | _, _, .int b => .int b
  | _, _, .str b => .str b
  | .list ds, _, .lst e r => .lst (s.seq e) (DpAll.monoS s ds _ r)
  | .tuple ds, _, .tup e r => .tup (same_tup s e) (DpAll.monoS s ds _ r)
theorem DpAll.monoS {K : PySem.W.Frag} {G H : Hp} (s : Same G H) : ∀ (ds : List PyData) (vs : List V), DpAll K G vs ds → DpAll K H vs ds
  | _, _, .nil => .nil
  | d :: ds, _, .cons e r => .cons (Dp.monoS s d _ e) (DpAll.monoS s ds _ r)
end
def shp (d : D) : Bool := SeqAt.shaped (toPy d)
theorem shp_dp {K : PySem.W.Frag} {G H : Hp} (s : Same G H) {d : D} {v : V} (h : shp d = true) (r : Rep K G v d) : Dp K H v (toPy d) := Dp.monoS s _ _ (Rep.dp d v (SeqAt.canLay_of_shaped h) r)
theorem units64 {k : Nat} {A : Around} (r : Room k A) : A.units + 64 < cLine := r.units
theorem units65 {k : Nat} {A : Around} (r : Room k A) : A.units + 65 < cLine := by have := r.un; omega

/-! ## operators -/
def addD : D → D → Res D
  | .int a, .int b => .ok (.int (a + b))
  | .str a, .str b => gd (a.length + b.length ≤ sizeLine) (.ok (.str (a ++ b)))
  | .tup a, .tup b => gd (a.length + b.length ≤ sizeLine) (.ok (.tup (a ++ b)))
  | .lst a, .lst b => gd (a.length + b.length ≤ sizeLine) (.ok (.lst (a ++ b)))
  | _, _ => .stuck
def subD : D → D → Res D | .int a, .int b => .ok (.int (a - b)) | _, _ => .stuck
def mulD : D → D → Res D
  | .int a, .int b => gd (a.natAbs.log2 + b.natAbs.log2 < 1000000) (.ok (.int (a * b)))
  | .lst a, .int b => gd (-(2 ^ 63) ≤ b ∧ b < 2 ^ 63 ∧ a.length * b.toNat ≤ sizeLine) (.ok (.lst (List.replicate b.toNat a).flatten))
  | _, _ => .stuck
def modD : D → D → Res D | .int a, .int b => gd (0 < b) (.ok (.int (a % b))) | _, _ => .stuck
def fdivD : D → D → Res D | .int a, .int b => gd (0 < b ∧ b < 2 ^ 64) (.ok (.int (a / b))) | _, _ => .stuck
def powD : D → D → Res D | .int a, .int b => gd (0 ≤ b ∧ b ≤ 1000000 ∧ a.natAbs < 2 ^ 64) (.ok (.int (a ^ b.toNat))) | _, _ => .stuck
def ltD : D → D → Res D | .int a, .int b => .ok (.bl (decide (a < b))) | _, _ => .stuck
def leD : D → D → Res D | .int a, .int b => .ok (.bl (decide (a ≤ b))) | _, _ => .stuck
def gtD : D → D → Res D | .int a, .int b => .ok (.bl (decide (b < a))) | _, _ => .stuck
def geD : D → D → Res D | .int a, .int b => .ok (.bl (decide (b ≤ a))) | _, _ => .stuck
def eqv (a b : D) : Bool := PyData.eqv (toPy a) (toPy b)
def eqD (a b : D) : Res D := gd (shp a = true ∧ shp b = true) (.ok (.bl (eqv a b)))
def neD (a b : D) : Res D := gd (shp a = true ∧ shp b = true) (.ok (.bl (!eqv a b)))
/-- is, is not: with None, True, False -/
def isNonD : D → Bool | .non => true | _ => false
def isD : D → D → Res D
  | a, .non => .ok (.bl (isNonD a))
  | .bl a, .bl b => .ok (.bl (decide (a = b)))
  | _, _ => .stuck
def isNotD : D → D → Res D
  | a, .non => .ok (.bl (!isNonD a))
  | .bl a, .bl b => .ok (.bl (!decide (a = b)))
  | _, _ => .stuck
def sign1 (s : Str) : Option Nat := match s.cps.toList with | [c] => some c | _ => none
def flD : D → Bool | .non => true | .bl _ => true | .int _ => true | .str _ => true | _ => false
def inD : D → D → Res D
  | .str a, .str b => match sign1 a with | some c => .ok (.bl (decide (c ∈ b.cps.toList))) | none => .stuck
  | a, .lst xs => gd (shp a = true ∧ shp (.lst xs) = true) (.ok (.bl (xs.any fun x => eqv x a)))
  | a, .tup xs => gd (flD a = true ∧ xs.all flD = true) (.ok (.bl (xs.any fun x => eqv x a)))
  | _, _ => .stuck
def notInD : D → D → Res D
  | .str a, .str b => match sign1 a with | some c => .ok (.bl (!decide (c ∈ b.cps.toList))) | none => .stuck
  | a, .lst xs => gd (shp a = true ∧ shp (.lst xs) = true) (.ok (.bl (!xs.any fun x => eqv x a)))
  | a, .tup xs => gd (flD a = true ∧ xs.all flD = true) (.ok (.bl (!xs.any fun x => eqv x a)))
  | _, _ => .stuck

theorem nox_add : NoX addD := fun x y e h => by
  cases x <;> cases y <;> first | (cases h; done) | (have := (gd_exc h).2; cases this)
theorem nox_sub : NoX subD := fun x y e h => by cases x <;> cases y <;> cases h
theorem nox_mul : NoX mulD := fun x y e h => by
  cases x <;> cases y <;> first | (cases h; done) | (have := (gd_exc h).2; cases this)
theorem nox_mod : NoX modD := fun x y e h => by
  cases x <;> cases y <;> first | (cases h; done) | (have := (gd_exc h).2; cases this)
theorem nox_fdiv : NoX fdivD := fun x y e h => by
  cases x <;> cases y <;> first | (cases h; done) | (have := (gd_exc h).2; cases this)
theorem nox_pow : NoX powD := fun x y e h => by
  cases x <;> cases y <;> first | (cases h; done) | (have := (gd_exc h).2; cases this)
theorem nox_lt : NoX ltD := fun x y e h => by cases x <;> cases y <;> cases h
theorem nox_le : NoX leD := fun x y e h => by cases x <;> cases y <;> cases h
theorem nox_gt : NoX gtD := fun x y e h => by cases x <;> cases y <;> cases h
theorem nox_ge : NoX geD := fun x y e h => by cases x <;> cases y <;> cases h
theorem nox_eq : NoX eqD := fun x y e h => by have := (gd_exc h).2; cases this
theorem nox_ne : NoX neD := fun x y e h => by have := (gd_exc h).2; cases this
theorem nox_is : NoX isD := fun x y e h => by cases x <;> cases y <;> cases h
theorem nox_isNot : NoX isNotD := fun x y e h => by cases x <;> cases y <;> cases h
theorem nox_in : NoX inD := fun x y e h => by
  cases x <;> cases y <;> first
    | (cases h; done)
    | (have := (gd_exc h).2; cases this)
    | (simp only [inD] at h; split at h <;> cases h)
theorem nox_notIn : NoX notInD := fun x y e h => by
  cases x <;> cases y <;> first
    | (cases h; done)
    | (have := (gd_exc h).2; cases this)
    | (simp only [notInD] at h; split at h <;> cases h)

section
variable {X : Cx}
theorem opI_of {bop : Value → Value → Sem Value} {C : Int → Int → Prop} {g : Int → Int → D} {gv : Int → Int → V} {o : D → D → Res D} (h : OpR X bop (rI C gv)) (hg : ∀ i j G, Rep X.K G (gv i j) (g i j))
    (ho : ∀ x y z, o x y = .ok z → ∃ i j, x = .int i ∧ y = .int j ∧ C i j ∧ z = g i j) : OpD X bop o :=
  ⟨_, h, fun G H x y c d z Q s rx ry e k => by
    obtain ⟨i, j, rfl, rfl, hc, rfl⟩ := ho _ _ _ e
    cases rx; cases ry
    exact ⟨i, j, rfl, rfl, hc, k _ G H (Grow.refl s) (hg i j G)⟩⟩
theorem opI0_of {bop : Value → Value → Sem Value} {g : Int → Int → D} {gv : Int → Int → V} {o : D → D → Res D} (h : OpR X bop (rI0 gv)) (hg : ∀ i j G, Rep X.K G (gv i j) (g i j))
    (ho : ∀ x y z, o x y = .ok z → ∃ i j, x = .int i ∧ y = .int j ∧ z = g i j) : OpD X bop o :=
  ⟨_, h, fun G H x y c d z Q s rx ry e k => by
    obtain ⟨i, j, rfl, rfl, rfl⟩ := ho _ _ _ e
    cases rx; cases ry
    exact ⟨i, j, rfl, rfl, k _ G H (Grow.refl s) (hg i j G)⟩⟩
theorem od_sub : OpD X (binaryOp .Sub) subD := opI0_of (g := fun i j => .int (i - j)) op_sub (fun _ _ _ => .int _) fun x y z e => by
  cases x <;> cases y <;> first | (cases e; done) | (cases e; exact ⟨_, _, rfl, rfl, rfl⟩)
theorem od_mod : OpD X (binaryOp .Mod) modD := opI_of (g := fun i j => .int (i % j)) op_mod (fun _ _ _ => .int _) fun x y z e => by
  cases x <;> cases y <;> first | (cases e; done) | (obtain ⟨h, e⟩ := gd_ok e; cases e; exact ⟨_, _, rfl, rfl, h, rfl⟩)
theorem od_fdiv : OpD X (binaryOp .FloorDiv) fdivD := opI_of (g := fun i j => .int (i / j)) op_fdivW (fun _ _ _ => .int _) fun x y z e => by
  cases x <;> cases y <;> first | (cases e; done) | (obtain ⟨h, e⟩ := gd_ok e; cases e; exact ⟨_, _, rfl, rfl, wide_div h.1 (b := 64) (by omega) (by decide) (by decide), rfl⟩)
theorem od_pow : OpD X (binaryOp .Pow) powD := opI_of (g := fun i j => .int (i ^ j.toNat)) op_pow (fun _ _ _ => .int _) fun x y z e => by
  cases x <;> cases y <;> first | (cases e; done) | (obtain ⟨h, e⟩ := gd_ok e; cases e; exact ⟨_, _, rfl, rfl, h, rfl⟩)
theorem od_lt : OpD X (compareOp .Lt) ltD := opI0_of (g := fun i j => .bl (decide (i < j))) op_lt (fun _ _ _ => .bl _) fun x y z e => by
  cases x <;> cases y <;> first | (cases e; done) | (cases e; exact ⟨_, _, rfl, rfl, rfl⟩)
theorem od_le : OpD X (compareOp .LtE) leD := opI0_of (g := fun i j => .bl (decide (i ≤ j))) op_le (fun _ _ _ => .bl _) fun x y z e => by
  cases x <;> cases y <;> first | (cases e; done) | (cases e; exact ⟨_, _, rfl, rfl, rfl⟩)
theorem od_gt : OpD X (compareOp .Gt) gtD := opI0_of (g := fun i j => .bl (decide (j < i))) op_gt (fun _ _ _ => .bl _) fun x y z e => by
  cases x <;> cases y <;> first | (cases e; done) | (cases e; exact ⟨_, _, rfl, rfl, rfl⟩)
theorem od_ge : OpD X (compareOp .GtE) geD := opI0_of (g := fun i j => .bl (decide (j ≤ i))) op_ge (fun _ _ _ => .bl _) fun x y z e => by
  cases x <;> cases y <;> first | (cases e; done) | (cases e; exact ⟨_, _, rfl, rfl, rfl⟩)
theorem od_eq {k : Nat} (hr : Room k X.A) : OpD X (compareOp .Eq) eqD := ⟨_, op_eqD hr.units, fun G H x y c d z Q s rx ry e q => by
  obtain ⟨⟨h1, h2⟩, e⟩ := gd_ok e
  cases e
  exact ⟨_, _, shp_dp s h1 rx, shp_dp s h2 ry, h1, h2, q _ G H (Grow.refl s) (.bl _)⟩⟩
theorem od_ne {k : Nat} (hr : Room k X.A) : OpD X (compareOp .NotEq) neD := ⟨_, op_neD hr.units, fun G H x y c d z Q s rx ry e q => by
  obtain ⟨⟨h1, h2⟩, e⟩ := gd_ok e
  cases e
  exact ⟨_, _, shp_dp s h1 rx, shp_dp s h2 ry, h1, h2, q _ G H (Grow.refl s) (.bl _)⟩⟩
theorem rep_non {K : PySem.W.Frag} {G : Hp} {v : V} {d : D} (r : Rep K G v d) : decide (v = .non) = isNonD d := by
  cases r <;> simp [isNonD]
theorem od_is : OpD X (compareOp .Is) isD := ⟨_, (op_isN).or op_isBl, fun G H x y c d z Q s rx ry e q => by
  cases ry with
  | non =>
    refine .inl ⟨rfl, ?_⟩
    rw [rep_non rx]
    have e' : z = .bl (isNonD c) := by cases c <;> (cases e; rfl)
    subst e'
    exact q _ G H (Grow.refl s) (.bl _)
  | bl b =>
    cases rx with
    | bl a => cases e; exact .inr ⟨a, b, rfl, rfl, q _ G H (Grow.refl s) (.bl _)⟩
    | _ => cases e
  | _ => cases rx <;> cases e⟩
theorem od_isNot : OpD X (compareOp .IsNot) isNotD := ⟨_, (op_notN).or op_notBl, fun G H x y c d z Q s rx ry e q => by
  cases ry with
  | non =>
    refine .inl ⟨rfl, ?_⟩
    rw [rep_non rx]
    have e' : z = .bl (!isNonD c) := by cases c <;> (cases e; rfl)
    subst e'
    exact q _ G H (Grow.refl s) (.bl _)
  | bl b =>
    cases rx with
    | bl a => cases e; exact .inr ⟨a, b, rfl, rfl, q _ G H (Grow.refl s) (.bl _)⟩
    | _ => cases e
  | _ => cases rx <;> cases e⟩
theorem sign1_eq {s : Str} {c : Nat} (h : sign1 s = some c) : s = ⟨#[c]⟩ := by
  obtain ⟨cs⟩ := s
  unfold sign1 at h
  split at h
  · rename_i c' e
    cases h
    have : cs = #[c] := by
      apply Array.toList_inj.mp; simpa using e
    rw [this]
  · cases h
theorem fl_flat {K : PySem.W.Frag} {G : Hp} {v : V} {d : D} (h : flD d = true) (r : Rep K G v d) : flatV v = true := by
  cases r <;> first | rfl | cases h
theorem fl_eqv {K : PySem.W.Frag} {G : Hp} {v u : V} {d e : D} (h : flD d = true) (h2 : flD e = true) (r : Rep K G v d) (q : Rep K G u e) : eqV v u = eqv d e := by
  cases r <;> first | (cases h; done) | (cases q <;> first | (cases h2; done) | (simp only [eqV, eqv, toPy, PyData.eqv]))
theorem fl_in {K : PySem.W.Frag} {G : Hp} {u : V} {e : D} (h2 : flD e = true) (q : Rep K G u e) : ∀ {ds : List D} {vs : List V}, ds.all flD = true → Reps K G vs ds → vs.all flatV = true ∧ inV u vs = ds.any fun x => eqv x e
  | [], _, _, .nil => ⟨rfl, rfl⟩
  | d :: ds, _, h, .cons r t => by
    rw [List.all_cons, Bool.and_eq_true] at h
    obtain ⟨i1, i2⟩ := fl_in h2 q h.2 t
    refine ⟨by rw [List.all_cons, fl_flat h.1 r, i1] <;> rfl, ?_⟩
    unfold inV at i2 ⊢
    rw [List.any_cons, List.any_cons, fl_eqv h.1 h2 r q, i2]
theorem od_in {k : Nat} (hr : Room k X.A) : OpD X (compareOp .In) inD := ⟨_, ((op_in_sign).or (op_inD (units65 hr))).or op_in_seq, fun G H x y c d z Q s rx ry e q => by
  have lcase : ∀ xs, d = .lst xs → inD c d = gd (shp c = true ∧ shp (.lst xs) = true) (.ok (.bl (xs.any fun x => eqv x c))) → rInD X.K x y H Q := fun xs hd he => by
    subst hd
    rw [he] at e
    obtain ⟨⟨h1, h2⟩, e⟩ := gd_ok e
    cases e
    refine ⟨_, toPys xs, shp_dp s h1 rx, by have := shp_dp s h2 ry; simpa only [toPy] using this, h1, by simpa only [shp, toPy] using h2, ?_⟩
    have e2 : ((toPys xs).any fun z => PyData.eqv z (toPy c)) = xs.any fun x => eqv x c := by
      clear h2 q he e ry
      induction xs with
      | nil => rfl
      | cons a r ih => simp only [toPys, List.any_cons, ih, eqv]
    rw [e2]
    exact q _ G H (Grow.refl s) (.bl _)
  have tcase : ∀ xs, d = .tup xs → inD c d = gd (flD c = true ∧ xs.all flD = true) (.ok (.bl (xs.any fun x => eqv x c))) → rIn X.K false x y H Q := fun xs hd he => by
    subst hd
    rw [he] at e
    obtain ⟨⟨h1, h2⟩, e⟩ := gd_ok e
    cases e
    cases ry with
    | @tup p vs ds h r =>
      obtain ⟨i1, i2⟩ := fl_in h1 rx h2 r
      refine ⟨p, vs, rfl, .inr (same_tup s h), fl_flat h1 rx, i1, ?_⟩
      rw [i2]
      exact q _ G H (Grow.refl s) (.bl _)
  cases d with
  | lst xs => exact .inl (.inr (lcase xs rfl (by cases c <;> rfl)))
  | tup xs => exact .inr (tcase xs rfl (by cases c <;> rfl))
  | str b =>
    cases c with
    | str a =>
      simp only [inD] at e
      split at e
      · rename_i cc hc
        cases e
        cases rx; cases ry
        exact .inl (.inl ⟨cc, b, by rw [sign1_eq hc], rfl, q _ G H (Grow.refl s) (.bl _)⟩)
      · cases e
    | _ => cases e
  | _ => cases c <;> cases e⟩
theorem od_notIn {k : Nat} (hr : Room k X.A) : OpD X (compareOp .NotIn) notInD := ⟨_, ((op_notIn_sign).or (op_notInD (units65 hr))).or op_notIn_seq, fun G H x y c d z Q s rx ry e q => by
  have lcase : ∀ xs, d = .lst xs → notInD c d = gd (shp c = true ∧ shp (.lst xs) = true) (.ok (.bl (!xs.any fun x => eqv x c))) → rNotInD X.K x y H Q := fun xs hd he => by
    subst hd
    rw [he] at e
    obtain ⟨⟨h1, h2⟩, e⟩ := gd_ok e
    cases e
    refine ⟨_, toPys xs, shp_dp s h1 rx, by have := shp_dp s h2 ry; simpa only [toPy] using this, h1, by simpa only [shp, toPy] using h2, ?_⟩
    have e2 : ((toPys xs).any fun z => PyData.eqv z (toPy c)) = xs.any fun x => eqv x c := by
      clear h2 q he e ry
      induction xs with
      | nil => rfl
      | cons a r ih => simp only [toPys, List.any_cons, ih, eqv]
    rw [e2]
    exact q _ G H (Grow.refl s) (.bl _)
  have tcase : ∀ xs, d = .tup xs → notInD c d = gd (flD c = true ∧ xs.all flD = true) (.ok (.bl (!xs.any fun x => eqv x c))) → rIn X.K true x y H Q := fun xs hd he => by
    subst hd
    rw [he] at e
    obtain ⟨⟨h1, h2⟩, e⟩ := gd_ok e
    cases e
    cases ry with
    | @tup p vs ds h r =>
      obtain ⟨i1, i2⟩ := fl_in h1 rx h2 r
      refine ⟨p, vs, rfl, .inr (same_tup s h), fl_flat h1 rx, i1, ?_⟩
      rw [i2]
      exact q _ G H (Grow.refl s) (.bl _)
  cases d with
  | lst xs => exact .inl (.inr (lcase xs rfl (by cases c <;> rfl)))
  | tup xs => exact .inr (tcase xs rfl (by cases c <;> rfl))
  | str b =>
    cases c with
    | str a =>
      simp only [notInD] at e
      split at e
      · rename_i cc hc
        cases e
        cases rx; cases ry
        exact .inl (.inl ⟨cc, b, by rw [sign1_eq hc], rfl, q _ G H (Grow.refl s) (.bl _)⟩)
      · cases e
    | _ => cases e
  | _ => cases c <;> cases e⟩
theorem tupl_nil {K : PySem.W.Frag} {G : Hp} {vs : List V} {ds : List D} (r : Reps K G vs ds) : vs = [] ↔ ds = [] := by
  cases r <;> simp
theorem od_add : OpD X (binaryOp .Add) addD := ⟨_, ((op_add).or op_add_str).or ((op_catA).or op_cat), fun G H x y c d z Q s rx ry e q => by
  cases rx with
  | int i => cases ry with
    | int j => cases e; exact .inl (.inl ⟨i, j, rfl, rfl, q _ G H (Grow.refl s) (.int _)⟩)
    | _ => cases e
  | str i => cases ry with
    | str j => obtain ⟨h, e⟩ := gd_ok e; cases e; exact .inl (.inr ⟨i, j, rfl, rfl, h, q _ G H (Grow.refl s) (.str _)⟩)
    | _ => cases e
  | @tup p vs ds h1 r1 => cases ry with
    | @tup p2 us es h2 r2 =>
      obtain ⟨h, e⟩ := gd_ok e; cases e
      refine .inr (.inl ⟨p, p2, vs, us, rfl, rfl, same_tup s h1, same_tup s h2, by rw [r1.len, r2.len]; exact h, fun z => ?_, fun z1 z2 => ?_, fun z1 z2 l hl => ?_⟩)
      · have : ds = [] := (tupl_nil r1).mp z
        subst this
        exact q _ G H (Grow.refl s) (.tup h2 r2)
      · have : es = [] := (tupl_nil r2).mp z2
        subst this
        rw [List.append_nil] at q
        exact q _ G H (Grow.refl s) (.tup h1 r1)
      · exact q _ _ _ (Grow.new s hl) (.tup (SqT.of upd_same) (Reps.mono (same_new (s.free hl)) _ _ (r1.app r2)))
    | _ => cases e
  | @lst p vs ds h1 r1 => cases ry with
    | @lst p2 us es h2 r2 =>
      obtain ⟨h, e⟩ := gd_ok e; cases e
      exact .inr (.inr ⟨p, p2, vs, us, rfl, rfl, s _ _ h1, s _ _ h2, by rw [r1.len, r2.len]; exact h, fun l hl => q _ _ _ (Grow.new s hl) (.lst upd_same (Reps.mono (same_new (s.free hl)) _ _ (r1.app r2)))⟩)
    | _ => cases e
  | _ => cases ry <;> cases e⟩
theorem od_mul : OpD X (binaryOp .Mult) mulD := ⟨_, (op_mulW).or op_rep, fun G H x y c d z Q s rx ry e q => by
  cases rx with
  | int i => cases ry with
    | int j => obtain ⟨h, e⟩ := gd_ok e; cases e; exact .inl ⟨i, j, rfl, rfl, h, q _ G H (Grow.refl s) (.int _)⟩
    | _ => cases e
  | @lst p vs ds h1 r1 => cases ry with
    | int j =>
      obtain ⟨⟨a1, a2, a3⟩, e⟩ := gd_ok e; cases e
      exact .inr ⟨p, j, vs, rfl, rfl, s _ _ h1, a1, a2, by rw [r1.len]; exact a3, fun l hl => q _ _ _ (Grow.new s hl) (.lst upd_same (Reps.mono (same_new (s.free hl)) _ _ (r1.rep _)))⟩
    | _ => cases e
  | _ => cases ry <;> cases e⟩
end

/-! ## unary minus -/
def negD : D → Res D | .int i => .ok (.int (-i)) | _ => .stuck
section
variable {X : Cx} {a : Amb} {e : Expr} {f : En → Res D} {pos : Pos}
theorem d_neg (h : PE X e (tD X.K X.mg a f)) : PE X (.UnaryOp .USub e pos) (tD X.K X.mg a (una negD f)) :=
  (pe_un un_neg h).imp fun σ H Q ⟨ρ, G, hR, q⟩ => ⟨ρ, G, hR, (PostE.bind q).imp fun x _ q1 v G' H' g r => by
    cases r with
    | int i => exact ⟨i, rfl, q1 _ G' H' g (.int _)⟩
    | _ => exact q1.elim⟩
end
end PL

set_option maxRecDepth 100000
set_option maxHeartbeats 1000000
namespace PL
open PySem PySem.Spec PyProof.Rows L2

/-! ## subscripts -/
theorem Reps.atI {K : PySem.W.Frag} {G : Hp} {vs : List V} {ds : List D} {i : Int} {d : D} (r : Reps K G vs ds) (h : atI ds i = some d) : ∃ v, L2.atI vs i = some v ∧ Rep K G v d := by
  unfold L2.atI at h ⊢
  rw [r.len]
  cases e : ixN ds.length i with
  | none => rw [e] at h; cases h
  | some j =>
    rw [e] at h
    exact r.get h
def ixD : D → D → Res D
  | .lst xs, .int i => match atI xs i with | some d => .ok d | none => .stuck
  | .tup xs, .int i => match atI xs i with | some d => .ok d | none => .stuck
  | .scr ns, .int i => match atI ns i with | some d => .ok (.int d) | none => .stuck
  | .str s, .int i => gd (s.length ≤ sizeLine) (match atI s.cps.toList i with | some c => .ok (.str ⟨#[c]⟩) | none => .stuck)
  | _, _ => .stuck
theorem nox_ix : NoX ixD := fun x y e h => by
  cases x <;> cases y <;> first
    | (cases h; done)
    | (simp only [ixD] at h; split at h <;> cases h)
    | (simp only [ixD] at h; obtain ⟨_, h⟩ := gd_exc h; split at h <;> cases h)
def cutG {α : Type} (xs : List α) (lo hi : Option Int) : List α := (xs.drop (HT.sIx xs.length 0 lo)).take (HT.sIx xs.length xs.length hi - HT.sIx xs.length 0 lo)
theorem Reps.cut {K : PySem.W.Frag} {G : Hp} {vs : List V} {ds : List D} (r : Reps K G vs ds) (lo hi : Option Int) : Reps K G (cutV vs lo hi) (cutG ds lo hi) := by
  unfold cutV cutG
  rw [r.len]
  exact (r.drop _).take _
def sliceD (x : D) (lo hi : Option Int) : Res D := match x with
  | .lst xs => .ok (.lst (cutG xs lo hi))
  | .tup xs => .ok (.tup (cutG xs lo hi))
  | .str s => gd (s.length ≤ sizeLine) (.ok (.str (cutS s lo hi)))
  | _ => .stuck
def pN : En → Res (Option Int) := fun _ => .ok none
def pS (f : En → Res D) : En → Res (Option Int) := fun ρ => (f ρ).bind fun x => match x with | .int i => .ok (some i) | _ => .stuck
def sliceE (f : En → Res D) (l h : En → Res (Option Int)) : En → Res D := fun ρ => (f ρ).bind fun x => (l ρ).bind fun lo => (h ρ).bind fun hi => sliceD x lo hi
section
variable (K : PySem.W.Frag) (mg : Str → Option Value) (a : Amb)
def tP (f : En → Res (Option Int)) : TO := fun σ H Q => ∃ ρ G, RR K a ρ σ G H ∧ PostE K mg a σ G H (f ρ) fun d => ∀ G' H', Grow G H G' H' → Q d H'
end
section
variable {X : Cx} {a : Amb} {e b : Expr} {es : List Expr} {f g : En → Res D} {pos : Pos}
theorem d_ix (hf : PE X e (tD X.K X.mg a f)) (hg : PE X b (tD X.K X.mg a g)) (hp : PlainIx b) : PE X (.Subscript e b pos) (tD X.K X.mg a (bin ixD f g)) :=
  (pe_ix ix_seq hf hg hp).imp (bin_ok nox_ix fun G H x y c d z Q s rx ry h q => by
    cases ry with
    | int i =>
      cases rx with
      | @lst p vs ds h1 r1 =>
        simp only [ixD] at h
        split at h
        · rename_i d' hd; cases h
          obtain ⟨v, e1, r⟩ := r1.atI hd
          exact .inl ⟨p, vs, i, v, rfl, rfl, SqL.of (s _ _ h1), e1, q _ G H (Grow.refl s) r⟩
        · cases h
      | @tup p vs ds h1 r1 =>
        simp only [ixD] at h
        split at h
        · rename_i d' hd; cases h
          obtain ⟨v, e1, r⟩ := r1.atI hd
          exact .inr (.inl ⟨p, vs, i, v, rfl, rfl, same_tup s h1, e1, q _ G H (Grow.refl s) r⟩)
        · cases h
      | @scr p ns h1 =>
        simp only [ixD] at h
        split at h
        · rename_i n hd; cases h
          have e1 : L2.atI (ns.map V.int) i = some (.int n) := by
            unfold L2.atI at hd ⊢
            rw [List.length_map]
            cases e0 : ixN ns.length i with
            | none => rw [e0] at hd; cases hd
            | some j =>
              rw [e0] at hd
              show (ns.map V.int)[j]? = _
              rw [List.getElem?_map, show ns[j]? = some n from hd] <;> rfl
          exact .inl ⟨p, _, i, _, rfl, rfl, s.seq h1, e1, q _ G H (Grow.refl s) (.int n)⟩
        · cases h
      | str z' =>
        simp only [ixD] at h
        obtain ⟨hz, h⟩ := gd_ok h
        split at h
        · rename_i n hd; cases h
          exact .inr (.inr ⟨z', i, n, rfl, rfl, hz, hd, q _ G H (Grow.refl s) (.str _)⟩)
        · cases h
      | _ => cases h
    | _ => cases rx <;> cases h)
theorem p_non : PO X none (tP X.K X.mg a pN) := ⟨fun pins s σ H Q I ⟨ρ, G, hR, q⟩ => (po_none (X := X)).run pins s σ H Q I (q G H (Grow.refl hR.sub))⟩
theorem p_some (h : PE X e (tD X.K X.mg a f)) : PO X (some e) (tP X.K X.mg a (pS f)) := ⟨fun pins s σ H Q I ⟨ρ, G, hR, q⟩ => by
  refine (po_some h).run pins s σ H Q I ⟨ρ, G, hR, (PostE.bind q).imp fun x _ q1 v G' H' g1 r1 => ?_⟩
  cases r1 with
  | int i => exact ⟨i, rfl, q1 G' H' g1⟩
  | _ => exact q1.elim⟩
theorem d_slice {lo hi : Option Expr} {l u : En → Res (Option Int)} {p2 : Pos} (hf : PE X e (tD X.K X.mg a f)) (hl : PO X lo (tP X.K X.mg a l)) (hu : PO X hi (tP X.K X.mg a u)) : PE X (.Subscript e (.Slice lo hi none p2) pos) (tD X.K X.mg a (sliceE f l u)) :=
  (pe_slice ((sl_list).or ((sl_tupA).or sl_str)) hf hl hu).imp fun σ H Q ⟨ρ, G, hR, q⟩ =>
    ⟨ρ, G, hR, (PostE.bind q).imp fun x _ q1 v G1 H1 g1 r1 => ⟨ρ, G1, R.grow hR g1, ((PostE.bind q1).grow g1).imp fun lo' _ q2 G2 H2 g2 =>
      ⟨ρ, G2, R.grow (R.grow hR g1) g2, ((PostE.bind q2).grow (g1.trans g2)).imp fun hi' _ q3 G3 H3 g3 => by
        have r3 := Rep.mono (g2.g.trans g3.g) _ _ r1
        have gg := (g1.trans g2).trans g3
        have sg := g3.s
        cases r3 with
        | @lst p vs ds h1 r => exact .inl ⟨p, vs, rfl, SqL.of (sg _ _ h1), fun l' hl' => q3 _ _ _ (gg.trans (Grow.new sg hl')) (.lst upd_same (Reps.mono (same_new (sg.free hl')) _ _ (r.cut lo' hi')))⟩
        | @tup p vs ds h1 r =>
          refine .inr (.inl ⟨p, vs, rfl, same_tup sg h1, fun hw => ?_, fun hw l' hl' => q3 _ _ _ (gg.trans (Grow.new sg hl')) (.tup (SqT.of upd_same) (Reps.mono (same_new (sg.free hl')) _ _ (r.cut lo' hi')))⟩)
          have e1 : cutG ds lo' hi' = ds := by
            unfold cutG
            rw [r.len] at hw
            rw [hw.1, hw.2]; simp
          have q4 : ∀ v G' H', Grow G H G' H' → Rep X.K G' v (.tup ds) → Q v H' := fun v G' H' g r => q3 v G' H' g (by rw [e1]; exact r)
          exact q4 _ _ _ gg (.tup h1 r)
        | str s =>
          obtain ⟨hz, q4⟩ := PostE.gd q3
          exact .inr (.inr ⟨s, rfl, hz, q4 _ _ _ gg (.str _)⟩)
        | _ => exact q3.elim⟩⟩⟩
end

/-! ## calls of built-ins -/
def NoXL (o : List D → Res D) : Prop := ∀ xs e, o xs ≠ .exc e
def CallD (X : Cx) (f : Value) (o : List D → Res D) : Prop := ∃ r : List V → Hp → VK → Prop, CallR X f r ∧
  ∀ (G H : Hp) (vs : List V) (ds : List D) (z : D) (Q : VK), Same G H → Reps X.K G vs ds → o ds = .ok z → (∀ v G' H', Grow G H G' H' → Rep X.K G' v z → Q v H') → r vs H Q
/-- .. whose value is a new list -/
def CallO (X : Cx) (f : Value) (o : List D → Res (List D)) : Prop := ∃ r : List V → Hp → VK → Prop, CallR X f r ∧
  ∀ (G H : Hp) (vs : List V) (ds zs : List D) (Q : VK), Same G H → Reps X.K G vs ds → o ds = .ok zs → (∀ l us G' H', Grow G H G' H' → H l = none → G' l = none → H' l = some (.lst us) → Reps X.K G' us zs → Q (.ref l) H') → r vs H Q
section
variable {X : Cx} {a : Amb} {e b : Expr} {es : List Expr} {f g : En → Res D} {fs : En → Res (List D)} {pos p : Pos} {x : Str} {id T : String}
theorem app_run {o : List D → Res D} {r : List V → Hp → VK → Prop} (hx : NoXL o)
    (hr : ∀ (G H : Hp) (vs : List V) (ds : List D) (z : D) (Q : VK), Same G H → Reps X.K G vs ds → o ds = .ok z → (∀ v G' H', Grow G H G' H' → Rep X.K G' v z → Q v H') → r vs H Q)
    (σ : L2.St) (H : Hp) (Q : VK) (h : tD X.K X.mg a (app o fs) σ H Q) : tCB r (tA X.K X.mg a fs) σ H Q := by
  obtain ⟨ρ, G, hR, q⟩ := h
  refine ⟨ρ, G, hR, (PostE.bind q).imp fun ds _ q1 vs G1 H1 g1 r1 => ?_⟩
  cases h3 : o ds with
  | stuck => rw [h3] at q1; exact q1.elim
  | exc e => exact absurd h3 (hx ds e)
  | ok z =>
    rw [h3] at q1
    exact hr G1 H1 vs ds z Q g1.s r1 h3 fun v G' H' g3 r3 => q1 v G' H' (g1.trans g3) r3
theorem appO_run {o : List D → Res (List D)} {r : List V → Hp → VK → Prop} (hx : ∀ xs e, o xs ≠ .exc e)
    (hr : ∀ (G H : Hp) (vs : List V) (ds zs : List D) (Q : VK), Same G H → Reps X.K G vs ds → o ds = .ok zs → (∀ l us G' H', Grow G H G' H' → H l = none → G' l = none → H' l = some (.lst us) → Reps X.K G' us zs → Q (.ref l) H') → r vs H Q)
    (σ : L2.St) (H : Hp) (Q : VK) (h : tO X.K X.mg a (appO o fs) σ H Q) : tCB r (tA X.K X.mg a fs) σ H Q := by
  obtain ⟨ρ, G, hR, q⟩ := h
  refine ⟨ρ, G, hR, (PostE.bind q).imp fun ds _ q1 vs G1 H1 g1 r1 => ?_⟩
  cases h3 : o ds with
  | stuck => rw [h3] at q1; exact q1.elim
  | exc e => exact absurd h3 (hx ds e)
  | ok z =>
    rw [h3] at q1
    exact hr G1 H1 vs ds z Q g1.s r1 h3 fun l us G' H' g3 n1 n2 h1 r3 => q1 l us G' H' (g1.trans g3) (g1.h.free n1) n2 h1 r3
theorem d_callB {o : List D → Res D} (hc : CallD X (.builtin id) o) (hx : NoXL o) (hv : bootBuiltins x = some (.builtin id)) (hm : X.mg x = none) (ha : PA X (e :: es) (tA X.K X.mg a fs)) (hg : Gl X x := by rfl) (hn : x ≠ "__name__" := by decide) (hdb : (x == ("__debug__" : Str)) = false := by decide)
    (he : starEach (e :: es) X.env = (false, eval e X.env) :: starEach es X.env := by rfl) (hpl : (backTo pos (starEach es X.env)).any (·.1) = false := by rfl) : PE X (.Call (.Name x p) (e :: es) [] pos) (tD X.K X.mg a (app o fs)) := by
  obtain ⟨r, h1, h2⟩ := hc
  exact (pe_callB h1 hg hm hv ha hn hdb he hpl).imp (app_run hx h2)
theorem d_callTy {o : List D → Res D} (hc : CallD X (.type T) o) (hx : NoXL o) (hv : bootBuiltins x = some (.type T)) (hm : X.mg x = none) (ha : PA X (e :: es) (tA X.K X.mg a fs)) (hg : Gl X x := by rfl) (hn : x ≠ "__name__" := by decide) (hdb : (x == ("__debug__" : Str)) = false := by decide)
    (he : starEach (e :: es) X.env = (false, eval e X.env) :: starEach es X.env := by rfl) (hpl : (backTo pos (starEach es X.env)).any (·.1) = false := by rfl) : PE X (.Call (.Name x p) (e :: es) [] pos) (tD X.K X.mg a (app o fs)) := by
  obtain ⟨r, h1, h2⟩ := hc
  exact (pe_callTy h1 hg hm hv ha hn hdb he hpl).imp (app_run hx h2)
theorem o_callB {o : List D → Res (List D)} (hc : CallO X (.builtin id) o) (hx : ∀ xs e, o xs ≠ .exc e) (hv : bootBuiltins x = some (.builtin id)) (hm : X.mg x = none) (ha : PA X (e :: es) (tA X.K X.mg a fs)) (hg : Gl X x := by rfl) (hn : x ≠ "__name__" := by decide) (hdb : (x == ("__debug__" : Str)) = false := by decide)
    (he : starEach (e :: es) X.env = (false, eval e X.env) :: starEach es X.env := by rfl) (hpl : (backTo pos (starEach es X.env)).any (·.1) = false := by rfl) : PE X (.Call (.Name x p) (e :: es) [] pos) (tO X.K X.mg a (appO o fs)) := by
  obtain ⟨r, h1, h2⟩ := hc
  exact (pe_callB h1 hg hm hv ha hn hdb he hpl).imp (appO_run hx h2)
theorem o_callTy {o : List D → Res (List D)} (hc : CallO X (.type T) o) (hx : ∀ xs e, o xs ≠ .exc e) (hv : bootBuiltins x = some (.type T)) (hm : X.mg x = none) (ha : PA X (e :: es) (tA X.K X.mg a fs)) (hg : Gl X x := by rfl) (hn : x ≠ "__name__" := by decide) (hdb : (x == ("__debug__" : Str)) = false := by decide)
    (he : starEach (e :: es) X.env = (false, eval e X.env) :: starEach es X.env := by rfl) (hpl : (backTo pos (starEach es X.env)).any (·.1) = false := by rfl) : PE X (.Call (.Name x p) (e :: es) [] pos) (tO X.K X.mg a (appO o fs)) := by
  obtain ⟨r, h1, h2⟩ := hc
  exact (pe_callTy h1 hg hm hv ha hn hdb he hpl).imp (appO_run hx h2)
end

def lenL : List D → Res D
  | [.str s] => gd (s.length ≤ sizeLine) (.ok (.int s.length))
  | [.tup xs] => .ok (.int xs.length) | [.lst xs] => .ok (.int xs.length) | [.scr ns] => .ok (.int ns.length)
  | _ => .stuck
def absL : List D → Res D | [.int i] => .ok (.int (if i < 0 then -i else i)) | _ => .stuck
def intL : List D → Res D
  | [.int i] => .ok (.int i) | [.bl b] => .ok (.int (if b then 1 else 0))
  | [.str s] => match PySem.intText? s with | some n => gd (s.length ≤ 640) (.ok (.int n)) | none => .stuck
  | _ => .stuck
def strL : List D → Res D | [.int i] => gd (i.natAbs.log2 < 1920) (.ok (.str (toString i))) | [.str s] => .ok (.str s) | _ => .stuck
def max2L : List D → Res D | [.int i, .int j] => .ok (.int (if j > i then j else i)) | _ => .stuck
def min2L : List D → Res D | [.int i, .int j] => .ok (.int (if j < i then j else i)) | _ => .stuck
def listL : List D → Res (List D) | [.lst xs] => .ok xs | [.tup xs] => .ok xs | [.scr ns] => .ok (ns.map .int) | _ => .stuck
def tupleL : List D → Res D | [.lst xs] => .ok (.tup xs) | [.tup xs] => .ok (.tup xs) | _ => .stuck
theorem nox_len : NoXL lenL := fun xs e h => by
  unfold lenL at h; split at h <;> first | (cases h; done) | (have := (gd_exc h).2; cases this)
theorem nox_abs : NoXL absL := fun xs e h => by unfold absL at h; split at h <;> cases h
theorem nox_int : NoXL intL := fun xs e h => by
  unfold intL at h; split at h <;> first | (cases h; done) | (split at h <;> first | (cases h; done) | (have := (gd_exc h).2; cases this))
theorem nox_str : NoXL strL := fun xs e h => by
  unfold strL at h; split at h <;> first | (cases h; done) | (have := (gd_exc h).2; cases this)
theorem nox_max2 : NoXL max2L := fun xs e h => by unfold max2L at h; split at h <;> cases h
theorem nox_min2 : NoXL min2L := fun xs e h => by unfold min2L at h; split at h <;> cases h
theorem nox_list : ∀ xs e, listL xs ≠ .exc e := fun xs e h => by unfold listL at h; split at h <;> cases h
theorem nox_tuple : NoXL tupleL := fun xs e h => by unfold tupleL at h; split at h <;> cases h
section
variable {X : Cx}
theorem reps1 {K : PySem.W.Frag} {G : Hp} {vs : List V} {d : D} (r : Reps K G vs [d]) : ∃ v, vs = [v] ∧ Rep K G v d := by
  cases r with
  | cons h r => cases r; exact ⟨_, rfl, h⟩
theorem reps2 {K : PySem.W.Frag} {G : Hp} {vs : List V} {d e : D} (r : Reps K G vs [d, e]) : ∃ v u, vs = [v, u] ∧ Rep K G v d ∧ Rep K G u e := by
  cases r with
  | cons h r =>
    obtain ⟨u, rfl, h2⟩ := reps1 r
    exact ⟨_, _, rfl, h, h2⟩
theorem cd_len : CallD X (.builtin "len") lenL := ⟨_, call_len, fun G H vs ds z Q s r h q => by
  unfold lenL at h
  split at h
  · obtain ⟨v, rfl, r1⟩ := reps1 r
    obtain ⟨hz, h⟩ := gd_ok h; cases h; cases r1
    exact ⟨_, _, rfl, ⟨hz, rfl⟩, q _ G H (Grow.refl s) (.int _)⟩
  · obtain ⟨v, rfl, r1⟩ := reps1 r
    cases h
    cases r1 with
    | @tup p vs ds h1 r2 => exact ⟨_, _, rfl, .inr ⟨vs, same_tup s h1, r2.len.symm⟩, q _ G H (Grow.refl s) (.int _)⟩
  · obtain ⟨v, rfl, r1⟩ := reps1 r
    cases h
    cases r1 with
    | @lst p vs ds h1 r2 => exact ⟨_, _, rfl, .inl ⟨vs, SqL.of (s _ _ h1), r2.len.symm⟩, q _ G H (Grow.refl s) (.int _)⟩
  · obtain ⟨v, rfl, r1⟩ := reps1 r
    cases h
    cases r1 with
    | @scr p ns h1 => exact ⟨_, _, rfl, .inl ⟨_, s.seq h1, by rw [List.length_map]⟩, q _ G H (Grow.refl s) (.int _)⟩
  · cases h⟩
theorem cd_abs : CallD X (.builtin "abs") absL := ⟨_, call_abs, fun G H vs ds z Q s r h q => by
  unfold absL at h
  split at h
  · obtain ⟨v, rfl, r1⟩ := reps1 r
    cases h; cases r1
    exact ⟨_, rfl, q _ G H (Grow.refl s) (.int _)⟩
  · cases h⟩
theorem cd_int : CallD X (.type "int") intL := ⟨_, (call_int1).or call_int_str, fun G H vs ds z Q s r h q => by
  unfold intL at h
  split at h
  · obtain ⟨v, rfl, r1⟩ := reps1 r
    cases h; cases r1
    exact .inl (.inl ⟨_, rfl, q _ G H (Grow.refl s) (.int _)⟩)
  · obtain ⟨v, rfl, r1⟩ := reps1 r
    cases h; cases r1
    exact .inl (.inr ⟨_, rfl, q _ G H (Grow.refl s) (.int _)⟩)
  · obtain ⟨v, rfl, r1⟩ := reps1 r
    cases r1
    split at h
    · rename_i n hn
      obtain ⟨hz, h⟩ := gd_ok h; cases h
      exact .inr ⟨_, n, rfl, hn, hz, q _ G H (Grow.refl s) (.int _)⟩
    · cases h
  · cases h⟩
theorem cd_max2 (hc : X.calm = true) : CallD X (.builtin "max") max2L := ⟨_, call_max2 hc, fun G H vs ds z Q s r h q => by
  unfold max2L at h
  split at h
  · obtain ⟨v, u, rfl, r1, r2⟩ := reps2 r
    cases h; cases r1; cases r2
    exact ⟨_, _, rfl, q _ G H (Grow.refl s) (.int _)⟩
  · cases h⟩
theorem cd_min2 (hc : X.calm = true) : CallD X (.builtin "min") min2L := ⟨_, call_min2 hc, fun G H vs ds z Q s r h q => by
  unfold min2L at h
  split at h
  · obtain ⟨v, u, rfl, r1, r2⟩ := reps2 r
    cases h; cases r1; cases r2
    exact ⟨_, _, rfl, q _ G H (Grow.refl s) (.int _)⟩
  · cases h⟩
theorem co_list : CallO X (.type "list") listL := ⟨_, call_list_of, fun G H vs ds z Q s r h q => by
  unfold listL at h
  split at h
  · obtain ⟨v, rfl, r1⟩ := reps1 r
    cases h
    cases r1 with
    | @lst p vs ds h1 r2 => exact ⟨p, vs, rfl, .inl (SqL.of (s _ _ h1)), fun l hl => q l vs G _ (Grow.own s hl) hl (s.free hl) upd_same r2⟩
  · obtain ⟨v, rfl, r1⟩ := reps1 r
    cases h
    cases r1 with
    | @tup p vs ds h1 r2 => exact ⟨p, vs, rfl, .inr (same_tup s h1), fun l hl => q l vs G _ (Grow.own s hl) hl (s.free hl) upd_same r2⟩
  · obtain ⟨v, rfl, r1⟩ := reps1 r
    cases h
    cases r1 with
    | @scr p ns h1 => exact ⟨p, _, rfl, .inl (s.seq h1), fun l hl => q l _ G _ (Grow.own s hl) hl (s.free hl) upd_same (Reps.ofInts _)⟩
  · cases h⟩
theorem cd_tuple : CallD X (.type "tuple") tupleL := ⟨_, call_tuple_of, fun G H vs ds z Q s r h q => by
  unfold tupleL at h
  split at h
  · obtain ⟨v, rfl, r1⟩ := reps1 r
    cases h
    cases r1 with
    | @lst p vs ds h1 r2 => exact ⟨p, vs, rfl, .inl ⟨SqL.of (s _ _ h1), fun l hl => q _ _ _ (Grow.new s hl) (.tup (SqT.of upd_same) (Reps.mono (same_new (s.free hl)) _ _ r2))⟩⟩
  · obtain ⟨v, rfl, r1⟩ := reps1 r
    cases h
    cases r1 with
    | @tup p vs ds h1 r2 => exact ⟨p, vs, rfl, .inr ⟨same_tup s h1, q _ G H (Grow.refl s) (.tup h1 r2)⟩⟩
  · cases h⟩
end

/-! ## isinstance -/
def tyD : D → String
  | .non => "NoneType" | .bl _ => "bool" | .int _ => "int" | .str _ => "str" | .tup _ => "tuple" | .lst _ => "list" | .scr _ => "list"
def isiB (t T : String) : Bool := t == T || (t == "bool" && T == "int")
def isiD (T : String) (f : En → Res D) : En → Res D := fun ρ => (f ρ).bind fun d => .ok (.bl (isiB (tyD d) T))
theorem kit_int : ∀ t ∈ ["NoneType", "bool", "int", "str", "tuple", "list"], kitB t "int" = some (isiB t "int") := by decide +kernel
theorem kit_bool : ∀ t ∈ ["NoneType", "bool", "int", "str", "tuple", "list"], kitB t "bool" = some (isiB t "bool") := by decide +kernel
theorem kit_str : ∀ t ∈ ["NoneType", "bool", "int", "str", "tuple", "list"], kitB t "str" = some (isiB t "str") := by decide +kernel
theorem kit_tuple : ∀ t ∈ ["NoneType", "bool", "int", "str", "tuple", "list"], kitB t "tuple" = some (isiB t "tuple") := by decide +kernel
theorem kit_list : ∀ t ∈ ["NoneType", "bool", "int", "str", "tuple", "list"], kitB t "list" = some (isiB t "list") := by decide +kernel
theorem tyx_of {K : PySem.W.Frag} {G H : Hp} (s : Same G H) {v : V} {d : D} (r : Rep K G v d) : TyX K H v (.type (tyD d)) := by
  cases r with
  | non => exact .base .non
  | bl b => exact .base (.bl b)
  | int b => exact .base (.int b)
  | str b => exact .base (.str b)
  | @tup p vs ds h r =>
    rcases same_tup s h with (h | ⟨o, h⟩) | ⟨o, its, n, h, hc, _⟩
    · exact .base (.tup h)
    · exact .fTuple h
    · exact .kTuple h hc
  | @lst p vs ds h r => exact .base (.lst (s _ _ h))
  | @scr p ns h =>
    rcases s.seq h with (h | ⟨o, h⟩) | ⟨o, its, n, h, hc, _⟩
    · exact .base (.lst h)
    · exact .base (.frz h)
    · exact .kList h hc
theorem tyD_mem (d : D) : tyD d ∈ ["NoneType", "bool", "int", "str", "tuple", "list"] := by cases d <;> simp [tyD]
section
variable {X : Cx} {a : Amb} {e : Expr} {f : En → Res D} {pos p p2 : Pos} {x : Str} {T : String}
theorem d_isi (hk : ∀ t ∈ ["NoneType", "bool", "int", "str", "tuple", "list"], kitB t T = some (isiB t T)) (hm : X.mg "isinstance" = none) (hmx : X.mg x = none) (hvx : bootBuiltins x = some (.type T)) (he : PE X e (tD X.K X.mg a f)) (hg : Gl X "isinstance" := by rfl) (hgx : Gl X x := by rfl)
    (hst : starEach [e, .Name x p2] X.env = (false, eval e X.env) :: starEach [.Name x p2] X.env := by rfl) (hst2 : starEach [.Name x p2] X.env = (false, eval (.Name x p2) X.env) :: starEach [] X.env := by rfl) (hpl : (backTo pos (starEach [.Name x p2] X.env)).any (·.1) = false := by rfl)
    (hn : x ≠ "__name__" := by decide) (hd : (x == ("__debug__" : Str)) = false := by decide) :
    PE X (.Call (.Name "isinstance" p) [e, .Name x p2] [] pos) (tD X.K X.mg a (isiD T f)) :=
  (pe_callB call_isi hg hm PyProof.Rows.boot_isinstance (pa_cons he (pa_cons (pe_bltn (v := .ty T) hgx hmx hvx rfl hn hd) pa_nil hst2) hst) (by decide) (by decide) hst hpl).imp fun σ H Q ⟨ρ, G, hR, q⟩ =>
    ⟨ρ, G, hR, (PostE.bind q).imp fun d _ q1 v G' H' g r => ⟨v, .ty T, _, _, _, rfl, .ty T, tyx_of g.s r, kit_ty (hk _ (tyD_mem d)), q1 _ G' H' g (.bl _)⟩⟩
end
end PL

set_option maxRecDepth 100000
set_option maxHeartbeats 1000000
namespace L2
open PySem PySem.Spec PyProof.Rows
theorem PI.imp {X : Cx} {tg e : Expr} {t t' : TI} (h : PI X tg e t) (k : ∀ σ H Q, t' σ H Q → t σ H Q) : PI X tg e t' := ⟨fun pins s σ H Q I w => h.run pins s σ H Q I (k σ H Q w)⟩
theorem PG.imp {X : Cx} {e : Expr} {t t' : TG} (h : PG X e t) (k : ∀ v σ H Q, t' v σ H Q → t v σ H Q) : PG X e t' := ⟨fun pins s σ H v u Q I r w => h.run pins s σ H v u Q I r (k v σ H Q w)⟩
end L2
namespace PL
open PySem PySem.Spec PyProof.Rows L2

/-! ## what is walked -/
/-- J yields the data ds, as long as the heap holds what B holds -/
def ItOk (K : PySem.W.Frag) (J : It) (B G : Hp) (ds : List D) : Prop := ∀ H', Same B H' → ∀ i, (ds.length ≤ i → J.stop i H') ∧ (∀ d, ds[i]? = some d → J.go i H' ∧ ∀ x H'', J.yld i H' x H'' → H'' = H' ∧ Rep K G x d)
def tI (K : PySem.W.Frag) (mg : Str → Option Value) (a : Amb) (f : En → Res (List D)) : TI := fun σ H Rk => ∃ ρ G, RR K a ρ σ G H ∧ PostE K mg a σ G H (f ρ) fun ds => ∀ J G' H', Grow G H G' H' → ItOk K J G' G' ds → Rk J H'
theorem ItOk.lst {K : PySem.W.Frag} {B G : Hp} {p : Addr} {vs : List V} {ds : List D} (h : SqL K B p vs) (r : Reps K G vs ds) : ItOk K (Itl K p) B G ds := fun H' s i => by
  have hq := s.seq h
  refine ⟨fun hl => ⟨vs, hq, by rw [r.len]; exact hl⟩, fun d e => ?_⟩
  obtain ⟨v, e1, q⟩ := r.get e
  refine ⟨⟨vs, v, hq, e1⟩, fun x H'' y => ⟨y.1, ?_⟩⟩
  have e2 := y.2 vs hq
  rw [e1] at e2; cases e2; exact q
theorem ItOk.tup {K : PySem.W.Frag} {B G : Hp} {p : Addr} {vs : List V} {ds : List D} (h : SqT K B p vs) (r : Reps K G vs ds) : ItOk K (Itt K p) B G ds := fun H' s i => by
  have hq := same_tup s h
  refine ⟨fun hl => ⟨vs, hq, by rw [r.len]; exact hl⟩, fun d e => ?_⟩
  obtain ⟨v, e1, q⟩ := r.get e
  refine ⟨⟨vs, v, hq, e1⟩, fun x H'' y => ⟨y.1, ?_⟩⟩
  have e2 := y.2 vs hq
  rw [e1] at e2; cases e2; exact q
theorem ItOk.rng {K : PySem.W.Frag} {B G : Hp} (lo : Int) (n : Nat) : ItOk K (Itr lo n) B G ((List.range n).map fun k => .int (lo + (k : Nat))) := fun H' s i => by
  refine ⟨fun hl => (show n ≤ i by simpa using hl), fun d e => ?_⟩
  rw [List.getElem?_map] at e
  by_cases hi : i < n
  · rw [List.getElem?_range hi] at e
    cases e
    exact ⟨hi, fun x H'' ⟨h1, h2⟩ => ⟨h1, by rw [h2]; exact .int _⟩⟩
  · rw [List.getElem?_eq_none (by simpa using hi)] at e; cases e
def signs (s : Str) : List D := s.cps.toList.map fun c => .str ⟨#[c]⟩
theorem ItOk.str {K : PySem.W.Frag} {B G : Hp} (s : Str) : ItOk K (Its s) B G (signs s) := fun H' _ i => by
  unfold signs
  refine ⟨fun hl => (show s.cps.size ≤ i by simpa using hl), fun d e => ?_⟩
  rw [List.getElem?_map] at e
  cases e1 : s.cps.toList[i]? with
  | none => rw [e1] at e; cases e
  | some c =>
    rw [e1] at e; cases e
    have e2 : s.cps[i]? = some c := by rw [← e1]; simp
    refine ⟨(Array.getElem?_eq_some_iff.mp e2).1, fun x H'' ⟨h1, c', h2, h3⟩ => ⟨h1, ?_⟩⟩
    rw [e2] at h2; cases h2
    rw [h3]; exact .str _
def seqOf : D → Res (List D)
  | .lst xs => .ok xs | .tup xs => .ok xs | .scr ns => .ok (ns.map .int) | .str s => .ok (signs s) | _ => .stuck
def itE (f : En → Res D) : En → Res (List D) := fun ρ => (f ρ).bind seqOf
def rng1 : List D → Res (List D)
  | [.int j] => gd (-(2 ^ 62) ≤ j ∧ j < 2 ^ 62) (.ok ((List.range j.toNat).map fun k => .int ((k : Nat) : Int))) | _ => .stuck
def rng2 : List D → Res (List D)
  | [.int i, .int j] => gd (-(2 ^ 62) ≤ i ∧ i < 2 ^ 62 ∧ -(2 ^ 62) ≤ j ∧ j < 2 ^ 62) (.ok ((List.range (j - i).toNat).map fun k => .int (i + (k : Nat)))) | _ => .stuck
section
variable {X : Cx} {a : Amb} {e b tg : Expr} {es : List Expr} {f g : En → Res D} {fs : En → Res (List D)} {pos p : Pos}
theorem i_seq (h : PE X e (tD X.K X.mg a f)) : PI X tg e (tI X.K X.mg a (itE f)) := ⟨fun pins s σ H Rk I ⟨ρ, G, hR, q⟩ => by
  have q1 := PostE.bind q
  cases hf : f ρ with
  | stuck => rw [hf] at q1; exact q1.elim
  | exc e => 
    refine (pi_list h).run pins s σ H Rk I ⟨ρ, G, hR, ?_⟩
    rw [hf] at q1 ⊢
    exact q1
  | ok d =>
    rw [hf] at q1
    cases d with
    | lst xs =>
      refine (pi_list h).run pins s σ H Rk I ⟨ρ, G, hR, ?_⟩
      rw [hf]
      intro v G' H' g r
      cases r with
      | @lst p vs ds h1 r => exact ⟨p, rfl, ⟨vs, SqL.of (g.s _ _ h1)⟩, q1 _ G' H' g (.lst (SqL.of h1) r)⟩
    | scr ns =>
      refine (pi_list h).run pins s σ H Rk I ⟨ρ, G, hR, ?_⟩
      rw [hf]
      intro v G' H' g r
      cases r with
      | @scr p ns h1 => exact ⟨p, rfl, ⟨_, g.s.seq h1⟩, q1 _ G' H' g (.lst h1 (Reps.ofInts ns))⟩
    | tup xs =>
      refine (pi_tup h).run pins s σ H Rk I ⟨ρ, G, hR, ?_⟩
      rw [hf]
      intro v G' H' g r
      cases r with
      | @tup p vs ds h1 r => exact ⟨p, rfl, ⟨vs, same_tup g.s h1⟩, q1 _ G' H' g (.tup h1 r)⟩
    | str z =>
      refine (pi_str h).run pins s σ H Rk I ⟨ρ, G, hR, ?_⟩
      rw [hf]
      intro v G' H' g r
      cases r
      exact ⟨z, rfl, q1 _ G' H' g (.str z)⟩
    | _ => exact q1.elim⟩
/-- a new list, walked -/
theorem i_new (h : PE X e (tO X.K X.mg a fs)) : PI X tg e (tI X.K X.mg a fs) :=
  (pi_list h).imp fun σ H Q ⟨ρ, G, hR, q⟩ => ⟨ρ, G, hR, q.imp fun ds _ q1 l vs G' H' g n1 n2 h1 r => ⟨l, rfl, ⟨vs, SqL.of h1⟩, q1 _ _ H' (g.share n1 n2 h1) (.lst (SqL.of upd_same) (Reps.mono (same_new n2) _ _ r))⟩⟩
theorem i_rng1 (hm : X.mg "range" = none) (ha : PA X [e] (tA X.K X.mg a fs)) (hg : Gl X "range" := by rfl) (hs : starEach [e] X.env = [(false, eval e X.env)] := by rfl) : PI X tg (.Call (.Name "range" p) [e] [] pos) (tI X.K X.mg a (appO rng1 fs)) :=
  (pi_range1 hg hm ha hs).imp fun σ H Q ⟨ρ, G, hR, q⟩ => ⟨ρ, G, hR, (PostE.bind q).imp fun ds _ q1 vs G' H' g r => by
    unfold rng1 at q1
    split at q1
    · obtain ⟨v, rfl, r1⟩ := reps1 r
      obtain ⟨⟨h1, h2⟩, q2⟩ := PostE.gd q1
      cases r1
      refine ⟨_, rfl, h1, h2, q2 _ G' H' g ?_⟩
      have := ItOk.rng (K := X.K) (B := G') (G := G') 0 (Int.toNat ‹Int›)
      simpa only [Int.zero_add] using this
    · exact q1.elim⟩
theorem i_rng2 (hm : X.mg "range" = none) (ha : PA X [e, b] (tA X.K X.mg a fs)) (hg : Gl X "range" := by rfl) (hs : starEach [e, b] X.env = [(false, eval e X.env), (false, eval b X.env)] := by rfl) (hs2 : starEach [b] X.env = [(false, eval b X.env)] := by rfl) :
    PI X tg (.Call (.Name "range" p) [e, b] [] pos) (tI X.K X.mg a (appO rng2 fs)) :=
  (pi_range2 hg hm ha hs hs2).imp fun σ H Q ⟨ρ, G, hR, q⟩ => ⟨ρ, G, hR, (PostE.bind q).imp fun ds _ q1 vs G' H' g r => by
    unfold rng2 at q1
    split at q1
    · obtain ⟨v, u, rfl, r1, r2⟩ := reps2 r
      obtain ⟨h1, q2⟩ := PostE.gd q1
      cases r1; cases r2
      exact ⟨_, _, rfl, h1, q2 _ G' H' g (ItOk.rng _ _)⟩
    · exact q1.elim⟩
end

/-! ## targets -/
def gN (i : Nat) : D → En → Res En := fun d ρ => .ok (ρ.set i (.sh d))
/-- a tuple's items to slots -/
def setAll : List Nat → List D → En → Res En
  | [], [], ρ => .ok ρ
  | i :: is, d :: ds, ρ => setAll is ds (ρ.set i (.sh d))
  | _, _, _ => .stuck
def gT (is : List Nat) : D → En → Res En := fun d ρ => match d with | .tup xs => setAll is xs ρ | _ => .stuck
def tG (K : PySem.W.Frag) (a : Amb) (t : D → En → Res En) : TG := fun v σ H Q => ∃ ρ G d ρ', RR K a ρ σ G H ∧ Rep K G v d ∧ t d ρ = .ok ρ' ∧ ∀ σ', RR K a ρ' σ' G H → Q σ' H
def tGs (K : PySem.W.Frag) (a : Amb) (is : List Nat) : TGs := fun vs σ H Q => ∃ ρ G ds ρ', RR K a ρ σ G H ∧ Reps K G vs ds ∧ setAll is ds ρ = .ok ρ' ∧ ∀ σ', RR K a ρ' σ' G H → Q σ' H
section
variable {X : Cx} {a : Amb} {e : Expr} {es : List Expr} {pos : Pos}
theorem g_name (i : Nat) {x : Str} (hnd : X.N.Nodup) (hN : X.N[i]? = some x := by rfl) (hx : Loc X.env.scope x := by first | exact Or.inl rfl | exact Or.inr rfl)
    (hfn : X.fn x = true ∨ X.env.scope.names.lookup x = some .local := by first | exact .inl rfl | exact .inr rfl) : PG X (.Name x pos) (tG X.K a (gN i)) :=
  (pg_name hnd hN hx hfn).imp fun v σ H Q ⟨ρ, G, d, ρ', hR, r, e1, q⟩ => by
    cases e1
    exact q _ (R.setSh hR i r)
theorem gs_nil : PGs X [] (tGs X.K a []) := ⟨fun pins s σ H vs us Q I r ⟨ρ, G, ds, ρ', hR, rr, e1, q⟩ => by
  cases ds with
  | nil =>
    cases rr
    cases e1
    exact (pgs_nil (X := X)).run pins s σ H [] us Q I r ⟨rfl, q σ hR⟩
  | cons _ _ => cases e1⟩
theorem gs_cons {i : Nat} {is : List Nat} {x : Str} (hnd : X.N.Nodup) (h2 : PGs X es (tGs X.K a is)) (hN : X.N[i]? = some x := by rfl) (hx : Loc X.env.scope x := by first | exact Or.inl rfl | exact Or.inr rfl)
    (hfn : X.fn x = true ∨ X.env.scope.names.lookup x = some .local := by first | exact .inl rfl | exact .inr rfl)
    (hs : (assignEach (.Name x pos :: es) X.env).map (·.2) = assign (.Name x pos) X.env :: (assignEach es X.env).map (·.2) := by rfl) : PGs X (.Name x pos :: es) (tGs X.K a (i :: is)) :=
  ⟨fun pins s σ H vs us Q I r ⟨ρ, G, ds, ρ', hR, rr, e1, q⟩ => by
    cases ds with
    | nil => cases e1
    | cons d ds =>
      cases rr with
      | cons r1 rr =>
        exact (pgs_cons (pg_name (pos := pos) hnd hN hx hfn) h2 hs).run pins s σ H _ us Q I r ⟨_, _, rfl, _, G, ds, ρ', R.setSh hR i r1, rr, e1, q⟩⟩
theorem setAll_len : ∀ {is : List Nat} {ds : List D} {ρ ρ' : En}, setAll is ds ρ = .ok ρ' → ds.length = is.length
  | [], [], _, _, _ => rfl
  | i :: is, d :: ds, ρ, _, h => by
    have e : ds.length = is.length := setAll_len (ρ := ρ.set i (.sh d)) h
    simp [e]
  | [], _ :: _, _, _, h => by cases h
  | _ :: _, [], _, _, h => by cases h
theorem g_tup {is : List Nat} {k : Nat} (hc : X.calm = true) (h : PGs X es (tGs X.K a is)) (hn : (assignEach es X.env).length = is.length := by rfl) (hst : (assignEach es X.env).findIdx? (·.1) = none := by rfl) : PG X (.Tuple es k pos) (tG X.K a (gT is)) :=
  (pg_tup hc h hn hst).imp fun v σ H Q ⟨ρ, G, d, ρ', hR, r, e1, q⟩ => by
    cases r with
    | @tup p vs ds h1 rr => exact ⟨p, vs, rfl, same_tup (R.sub hR) h1, by rw [rr.len, setAll_len e1], ρ, G, ds, ρ', hR, rr, e1, q⟩
    | _ => cases e1
end

/-! ## for -/
/-- behind one turn of a loop: k goes on -/
def lpO (k : En → Out) : Out → Out
  | .next ρ => k ρ
  | .cont ρ => k ρ
  | .brk ρ => .next ρ
  | .ret r => .ret r
  | .exc e ρ => .exc e ρ
  | .stuck => .stuck
def forL (t : D → En → Res En) (b : En → Out) : List D → En → Out
  | [], ρ => .next ρ
  | d :: ds, ρ => match t d ρ with
    | .ok ρ1 => lpO (forL t b ds) (b ρ1)
    | _ => .stuck
theorem Post.lp {K : PySem.W.Frag} {mg : Str → Option Value} {a : Amb} {Dn : Ends} {G : Hp} {k : En → Out} {o : Out} {N : L2.St → Hp → Prop} (h : Post K mg a Dn G (lpO k o))
    (hN : ∀ ρ σ G' H, RR K a ρ σ G' H → Same G G' → Post K mg a Dn G' (k ρ) → N σ H) : Post K mg a { Dn with nx := N, ct := N, bk := Dn.nx } G o := by
  cases o with
  | next ρ => exact fun σ' G' H' r s => hN ρ σ' G' H' r s (Post.mono s h)
  | cont ρ => exact fun σ' G' H' r s => hN ρ σ' G' H' r s (Post.mono s h)
  | brk ρ => exact h
  | ret r => cases r <;> exact h
  | exc e ρ => exact h
  | stuck => exact h
def sFor (it : En → Res (List D)) (t : D → En → Res En) (b : En → Out) : En → Out := fun ρ => ofR ρ (it ρ) fun ds => forL t b ds ρ
section
variable {X : Cx} {a : Amb} {tg iter : Expr} {sts : List Stmt} {it : En → Res (List D)} {t : D → En → Res En} {F : En → Out} {pos : Pos}
theorem s_for (po : PassesOwn (model X.prog X.w) X.A X.env X.xe) (hc : X.calm = true) (hi : PI X tg iter (tI X.K X.mg a it)) (hg : PG X tg (tG X.K a t)) (hb : PSs X sts (tS X.K X.mg a F)) (hs : ∀ x, foldedSetIterable iter X.env x = pure x := by intro _; rfl) :
    PS X (.For tg iter sts [] pos) (tS X.K X.mg a (sFor it t F)) :=
  (ps_for po hc hi hg hb hs).imp fun Dn σ H ⟨ρ, G, hR, q⟩ => ⟨ρ, G, hR, (ofR_post hR q).imp fun ds _ q1 J G1 H1 g ok => by
    refine ⟨fun i m σ' H' => m = ds.length - i ∧ i ≤ ds.length ∧ ∃ ρ' G', RR X.K a ρ' σ' G' H' ∧ Same G1 G' ∧ Post X.K X.mg a Dn G' (forL t F (ds.drop i) ρ'),
      ⟨ds.length, by simp, Nat.zero_le _, ρ, G1, R.grow hR g, Same.refl _, by rw [List.drop_zero]; exact Post.mono g.g q1⟩, ?_⟩
    rintro i m σ' H' ⟨rfl, hi, ρ', G', hR', sg, q2⟩
    obtain ⟨stop, go⟩ := ok H' (sg.trans (R.sub hR')) i
    by_cases hl : i < ds.length
    · refine .inr ?_
      have e1 : ds[i]? = some ds[i] := List.getElem?_eq_getElem hl
      have e2 : ds.drop i = ds[i] :: ds.drop (i + 1) := List.drop_eq_getElem_cons hl
      rw [e2] at q2
      obtain ⟨h1, h2⟩ := go _ e1
      refine ⟨h1, fun σ2 H2 => ∃ ρ2 G2, RR X.K a ρ2 σ2 G2 H2 ∧ Same G1 G2 ∧ Post X.K X.mg a Dn G2 (forL t F (ds.drop (i + 1)) ρ2), fun σ2 H2 ⟨ρ2, G2, a1, a2, a3⟩ => ⟨ds.length - (i + 1), by omega, rfl, hl, ρ2, G2, a1, a2, a3⟩, fun x H2 y => ?_⟩
      obtain ⟨rfl, r⟩ := h2 x H2 y
      have rx := Rep.mono sg _ _ r
      cases ht : t ds[i] ρ' with
      | exc e => unfold forL at q2; rw [ht] at q2; exact q2.elim
      | stuck => unfold forL at q2; rw [ht] at q2; exact q2.elim
      | ok ρ1 =>
        unfold forL at q2
        rw [ht] at q2
        exact ⟨ρ', G', _, ρ1, hR', rx, ht, fun σ3 hR3 => ⟨ρ1, G', hR3, Post.lp q2 fun ρ2 σ4 G4 H4 r4 s4 p4 => ⟨ρ2, G4, r4, sg.trans s4, p4⟩⟩⟩
    · have e : i = ds.length := by omega
      subst e
      rw [List.drop_length] at q2
      exact .inl ⟨stop (Nat.le_refl _), q2 σ' G' H' hR' (Same.refl _)⟩⟩
end

/-! ## while, with a number of turns that is enough -/
def whlN (c : En → Res Bool) (b : En → Out) : Nat → En → Out
  | 0, _ => .stuck
  | n + 1, ρ => ofR ρ (c ρ) fun k => if k then lpO (whlN c b n) (b ρ) else .next ρ
section
variable {X : Cx} {a : Amb} {c : Expr} {sts : List Stmt} {t : En → Res Bool} {F : En → Out} {pos : Pos}
theorem s_whl (n : Nat) (po : PassesOwn (model X.prog X.w) X.A X.env X.xe) (hc : PT X c (tT X.K X.mg a t)) (hb : PSs X sts (tS X.K X.mg a F)) : PS X (.While c sts [] pos) (tS X.K X.mg a (whlN t F n)) :=
  (ps_while po hc hb).imp fun Dn σ H ⟨ρ, G, hR, q⟩ => by
    refine ⟨fun m σ' H' => ∃ ρ' G', RR X.K a ρ' σ' G' H' ∧ Post X.K X.mg a Dn G' (whlN t F m ρ'), ⟨n, ρ, G, hR, q⟩, ?_⟩
    rintro m σ' H' ⟨ρ', G', hR', q2⟩
    cases m with
    | zero => exact q2.elim
    | succ m =>
      unfold whlN at q2
      refine ⟨ρ', G', hR', (ofR_post hR' q2).imp fun k _ q3 G2 H2 g => ?_⟩
      cases k with
      | false => exact q3 _ G2 H2 (R.grow hR' g) g.g
      | true =>
        exact ⟨fun σ2 H2 => ∃ ρ2 G2, RR X.K a ρ2 σ2 G2 H2 ∧ Post X.K X.mg a Dn G2 (whlN t F m ρ2), fun σ2 H2 w => ⟨m, Nat.lt_succ_self _, w⟩, ρ', G2, R.grow hR' g, Post.lp (Post.mono g.g q3) fun ρ2 σ4 G4 H4 r4 s4 p4 => ⟨ρ2, G4, r4, p4⟩⟩
end
end PL

set_option maxRecDepth 100000
set_option maxHeartbeats 1000000
namespace PL
open PySem PySem.Spec PyProof.Rows L2

theorem Grow.mut {G H G' H' : Hp} (g : Grow G H G' H') {p : Addr} {o : HO} (h : H p = none) (h1 : G' p = none) : Grow G H G' (upd H' p o) :=
  ⟨g.g, fun b x e => by
    have : b ≠ p := ne_of_none e h
    rw [upd_ne this]; exact g.h b x e, fun b x e => by
    have : b ≠ p := ne_of_none e h1
    rw [upd_ne this]; exact g.s b x e, g.f⟩

/-! ## what a context must have -/
structure GE (k : Nat) (X : Cx) (a : Amb) : Prop where
  tk : Takes X a.W
  hr : Room k X.A
  calm : X.calm = true
  nd : X.N.Nodup
structure GS (k : Nat) (X : Cx) (a : Amb) : Prop extends GE k X a where
  po : PassesOwn (model X.prog X.w) X.A X.env X.xe
  hs : X.stack = X.env :: X.outer
  hf : X.env.frame = some X.env.locals
def aB (a : Amb) : Amb := { a with W := fun _ _ _ _ => False }
theorem GE.blk {k : Nat} {X : Cx} {a : Amb} (c : GE k X a) (s : Shared) (H : Hp) (sc : Scope) (ce : Env) (fp : List Addr) : GE k (X.blk s H sc ce fp) (aB a) := ⟨takes0, c.hr, c.calm, c.nd⟩
theorem GS.tr {k : Nat} {X : Cx} {a : Amb} (c : GS k X a) {W : WX} {pn : List (Addr × Obj)} {xe : Value → Shared → Prop} (tk : Takes (X.tr pn xe) W) (po : PassesOwn (model X.prog X.w) X.A X.env xe) : GS k (X.tr pn xe) { a with W := W } :=
  ⟨⟨tk, c.hr, c.calm, c.nd⟩, po, c.hs, c.hf⟩

/-! ## defs -/
def rvD : Res RV → Res D | .ok (.sh d) => .ok d | .ok (.ow xs) => .ok (.lst xs) | .exc e => .exc e | .stuck => .stuck
def rvO : Res RV → Res (List D) | .ok (.ow xs) => .ok xs | .ok (.sh _) => .stuck | .exc e => .exc e | .stuck => .stuck
def callE (m : List D → Res RV) (fs : En → Res (List D)) : En → Res D := fun ρ => (fs ρ).bind fun ds => rvD (m ds)
def callO (m : List D → Res RV) (fs : En → Res (List D)) : En → Res (List D) := fun ρ => (fs ρ).bind fun ds => rvO (m ds)
def spOf (K : PySem.W.Frag) (mg : Str → Option Value) (n : Nat) (m : List D → Res RV) : Sp := fun vs H Q E => vs.length = n ∧ ∃ G ds, Same G H ∧ Reps K G vs ds ∧ (match m ds with
  | .ok (.sh d) => ∀ v G' H', Grow G H G' H' → Rep K G' v d → Q v H'
  | .ok (.ow xs) => ∀ l us G' H', Grow G H G' H' → H l = none → G' l = none → H' l = some (.lst us) → Reps K G' us xs → Q (.ref l) H'
  | .exc e => ∀ d G' H', Grow G H G' H' → XR K G' H' d e → E (clOf mg e.cls) (some d) H'
  | .stuck => False)
structure FnP (P : Program) (w : World) (K : PySem.W.Frag) (mg : Str → Option Value) (base : Heap) (k : Nat) (x : Str) (ps : List Str) (m : List D → Res RV) : Prop where
  ex : ∃ f fd, FnOk P w K mg base (L2.CX P w) k f fd ps (spOf K mg ps.length m) ∧ mg x = some (.ref f) ∧ PySem.W.keepIn K (.ref f) = true ∧ Binds K fd ps []
theorem FnP.mono {P : Program} {w : World} {K : PySem.W.Frag} {mg : Str → Option Value} {base : Heap} {k j : Nat} {x : Str} {ps : List Str} {m : List D → Res RV} (F : FnP P w K mg base k x ps m) (h : k ≤ j) : FnP P w K mg base j x ps m := by
  obtain ⟨f, fd, F1, h2⟩ := F.ex
  exact ⟨f, fd, F1.mono h, h2⟩
section
variable {X : Cx} {a : Amb} {e : Expr} {es : List Expr} {fs : En → Res (List D)} {pos p : Pos} {x : Str} {k k' : Nat} {ps : List Str} {m : List D → Res RV}
theorem d_call (F : FnP X.prog X.w X.K X.mg X.base k' x ps m) (c : GE k X a) (hk : k' ≤ k) (hl : (e :: es).length = ps.length) (ha : PA X (e :: es) (tA X.K X.mg a fs)) (hfl : ∀ ρ ds, fs ρ = .ok ds → ds.length = (e :: es).length)
    (hg : Gl X x := by rfl) (hdb : (x == ("__debug__" : Str)) = false := by decide) (he : starEach (e :: es) X.env = (false, eval e X.env) :: starEach es X.env := by rfl) (hpl : (backTo pos (starEach es X.env)).any (·.1) = false := by rfl) :
    PE X (.Call (.Name x p) (e :: es) [] pos) (tD X.K X.mg a (callE m fs)) := by
  obtain ⟨f, fd, F1, hm, hkp, hb⟩ := F.ex
  refine (pe_callS F1 (c.hr.mono hk) hg hm hkp hb (fun σ => passAt c.tk σ) ha hdb he hpl).imp fun σ H Q ⟨ρ, G, hR, q⟩ => ⟨ρ, G, hR, (PostE.bind q).imp fun ds ed q1 vs G' H' g r => ?_⟩
  refine ⟨by rw [r.len, hfl ρ ds ed, hl], G', ds, g.s, r, ?_⟩
  cases h : m ds with
  | stuck => rw [h] at q1; exact q1.elim
  | exc ex => rw [h] at q1; exact fun d G2 H2 g2 xr => q1 d G2 H2 (g.trans g2) xr
  | ok rv =>
    rw [h] at q1
    cases rv with
    | sh d => exact fun v G2 H2 g2 r2 => q1 v G2 H2 (g.trans g2) r2
    | ow xs => exact fun l us G2 H2 g2 n1 n2 h1 r2 => q1 _ _ H2 ((g.trans g2).share (g.h.free n1) n2 h1) (.lst upd_same (Reps.mono (same_new n2) _ _ r2))
theorem o_call (F : FnP X.prog X.w X.K X.mg X.base k' x ps m) (c : GE k X a) (hk : k' ≤ k) (hl : (e :: es).length = ps.length) (ha : PA X (e :: es) (tA X.K X.mg a fs)) (hfl : ∀ ρ ds, fs ρ = .ok ds → ds.length = (e :: es).length)
    (hg : Gl X x := by rfl) (hdb : (x == ("__debug__" : Str)) = false := by decide) (he : starEach (e :: es) X.env = (false, eval e X.env) :: starEach es X.env := by rfl) (hpl : (backTo pos (starEach es X.env)).any (·.1) = false := by rfl) :
    PE X (.Call (.Name x p) (e :: es) [] pos) (tO X.K X.mg a (callO m fs)) := by
  obtain ⟨f, fd, F1, hm, hkp, hb⟩ := F.ex
  refine (pe_callS F1 (c.hr.mono hk) hg hm hkp hb (fun σ => passAt c.tk σ) ha hdb he hpl).imp fun σ H Q ⟨ρ, G, hR, q⟩ => ⟨ρ, G, hR, (PostE.bind q).imp fun ds ed q1 vs G' H' g r => ?_⟩
  refine ⟨by rw [r.len, hfl ρ ds ed, hl], G', ds, g.s, r, ?_⟩
  cases h : m ds with
  | stuck => rw [h] at q1; exact q1.elim
  | exc ex => rw [h] at q1; exact fun d G2 H2 g2 xr => q1 d G2 H2 (g.trans g2) xr
  | ok rv =>
    rw [h] at q1
    cases rv with
    | sh d => exact q1.elim
    | ow xs => exact fun l us G2 H2 g2 n1 n2 h1 r2 => q1 l us G2 H2 (g.trans g2) (g.h.free n1) n2 h1 r2
theorem fl_nil : ∀ (ρ : En) (ds : List D), aNil ρ = .ok ds → ds.length = ([] : List Expr).length := fun ρ ds h => by cases h; rfl
theorem fl_cons {f : En → Res D} (h : ∀ (ρ : En) (ds : List D), fs ρ = .ok ds → ds.length = es.length) : ∀ (ρ : En) (ds : List D), aCons f fs ρ = .ok ds → ds.length = (e :: es).length := fun ρ ds h1 => by
  unfold aCons at h1
  cases h2 : f ρ with
  | ok d =>
    rw [h2] at h1
    cases h3 : fs ρ with
    | ok xs => simp only [Res.bind, h3] at h1; cases h1; simp [h ρ xs h3]
    | exc _ => simp only [Res.bind, h3] at h1; cases h1
    | stuck => simp only [Res.bind, h3] at h1; cases h1
  | exc _ => rw [h2] at h1; cases h1
  | stuck => rw [h2] at h1; cases h1
end
def start0 (n : Nat) (ds : List D) : En := ds.map .sh ++ List.replicate (n - ds.length) .no
def runO : Out → Res RV
  | .ret r => .ok r | .next _ => .ok (.sh .non) | .exc e _ => .exc e | .brk _ => .stuck | .cont _ => .stuck | .stuck => .stuck
def runF (n : Nat) (b : En → Out) (ds : List D) : Res RV := runO (b (start0 n ds))
theorem start_ok {K : PySem.W.Frag} {N : List Str} {vs : List V} {ds : List D} {G H : Hp} (s : Same G H) (r : Reps K G vs ds) : R K G H (start0 N.length ds) (L2.start N vs) G H := by
  refine ⟨Grow.refl s, by simp [start0, L2.start, r.len], fun i sl e => ?_, fun i j xs ys hn e1 e2 => ?_, fun _ => none, fun b x e => by (cases e), fun i d e => ?_, fun i ob l e e2 => rfl⟩
  · unfold start0 at e
    unfold L2.start
    by_cases hi : i < ds.length
    · rw [List.getElem?_append_left (by simpa using hi), List.getElem?_map, List.getElem?_eq_getElem hi] at e
      cases e
      obtain ⟨v, e1, q⟩ := r.get (List.getElem?_eq_getElem hi)
      refine ⟨some v, ?_, v, rfl, q⟩
      rw [List.getElem?_append_left (by simpa [r.len] using hi), List.getElem?_map, e1] <;> rfl
    · have hi2 : ds.length ≤ i := by omega
      rw [List.getElem?_append_right (by simpa using hi2), List.getElem?_replicate] at e
      split at e
      · cases e
        refine ⟨none, ?_, trivial⟩
        rw [List.getElem?_append_right (by simpa [r.len] using hi2), List.getElem?_replicate, r.len]
        rename_i h
        rw [List.length_map] at h ⊢
        rw [r.len, if_pos h]
      · cases e
  · exfalso
    unfold start0 at e1
    by_cases hi : i < ds.length
    · rw [List.getElem?_append_left (by simpa using hi), List.getElem?_map, List.getElem?_eq_getElem hi] at e1
      cases e1
    · have hi2 : ds.length ≤ i := by omega
      rw [List.getElem?_append_right (by simpa using hi2), List.getElem?_replicate] at e1
      split at e1 <;> cases e1
  · exfalso
    unfold start0 at e
    by_cases hi : i < ds.length
    · rw [List.getElem?_append_left (by simpa using hi), List.getElem?_map, List.getElem?_eq_getElem hi] at e
      cases e
    · have hi2 : ds.length ≤ i := by omega
      rw [List.getElem?_append_right (by simpa using hi2), List.getElem?_replicate] at e
      split at e <;> cases e
section
variable {P : Program} {w : World} {K : PySem.W.Frag} {mg : Str → Option Value} {base : Heap}
abbrev ambOf (E : XK) (G0 H0 : Hp) : Amb := ⟨fun cls d _ H => E cls d H, G0, H0⟩
theorem fn_ok {x qual : Str} {st : Stmt} {f : Addr} {fd : FuncData} {N ps : List Str} {k : Nat} {b : En → Out} (F : Fun K x qual st f fd) (S : FnScope N ps (defScope st))
    (body : ∀ (cdv : Value) (A : Around) (outer : List Env) (s : Shared) (H G0 : Hp) (E : XK), GS k (cxOf (L2.CX P w) P w K mg base N qual (defScope st) f cdv A outer s H E) (ambOf E G0 H) →
      PSs (cxOf (L2.CX P w) P w K mg base N qual (defScope st) f cdv A outer s H E) (defBody st) (tS K mg (ambOf E G0 H) b)) :
    FnOk P w K mg base (L2.CX P w) (k + 1) f fd ps (spOf K mg ps.length (runF N.length b)) := by
  refine F.okX S (fun vs H Q E h => h.1) (fun cdv A outer s H vs Q E hr h => ?_)
  obtain ⟨hl, G, ds, sg, r, q⟩ := h
  have c : GS k (cxOf (L2.CX P w) P w K mg base N qual (defScope st) f cdv A outer s H E) (ambOf E G H) := ⟨⟨takes_of rfl rfl rfl rfl, hr, rfl, S.nd⟩, passes_of rfl, rfl, rfl⟩
  refine ⟨_, body cdv A outer s H G E c, start0 N.length ds, G, start_ok sg r, ?_⟩
  unfold runF at q
  cases h : b (start0 N.length ds) with
  | next ρ => rw [h] at q; exact fun σ' G' H' r' _ => q .non G' H' r'.gr .non
  | brk ρ => rw [h] at q; exact q.elim
  | cont ρ => rw [h] at q; exact q.elim
  | exc e ρ => rw [h] at q; exact fun d σ' G' H' r' _ xr => q d G' H' r'.gr xr
  | stuck => rw [h] at q; exact q.elim
  | ret rv =>
    rw [h] at q
    cases rv with
    | sh d => exact fun v G' H' g _ r => q v G' H' g r
    | ow xs => exact fun l us G' H' g _ n1 n2 h1 r => q l us G' H' g n1 n2 h1 r
theorem fn_mk {x qual : Str} {st : Stmt} {f : Addr} {fd : FuncData} {N ps : List Str} {k : Nat} {b : En → Out} (F : Fun K x qual st f fd) (S : FnScope N ps (defScope st)) (hm : mg x = some (.ref f)) (hb : Binds K fd ps [])
    (body : ∀ (cdv : Value) (A : Around) (outer : List Env) (s : Shared) (H G0 : Hp) (E : XK), GS k (cxOf (L2.CX P w) P w K mg base N qual (defScope st) f cdv A outer s H E) (ambOf E G0 H) →
      PSs (cxOf (L2.CX P w) P w K mg base N qual (defScope st) f cdv A outer s H E) (defBody st) (tS K mg (ambOf E G0 H) b)) :
    FnP P w K mg base (k + 1) x ps (runF N.length b) := ⟨f, fd, fn_ok F S body, hm, F.kp, hb⟩
end

/-! ## comprehensions -/
def lcL (i : Nat) (tt : En → Res Bool) (te : En → Res D) : List D → En → Res (List D)
  | [], _ => .ok []
  | d :: ds, ρ => match tt (ρ.set i (.sh d)) with
    | .ok true => (match te (ρ.set i (.sh d)) with
      | .ok v => (match lcL i tt te ds ρ with | .ok vs => .ok (v :: vs) | _ => .stuck)
      | _ => .stuck)
    | .ok false => lcL i tt te ds ρ
    | _ => .stuck
def lcE (it : En → Res (List D)) (i : Nat) (tt : En → Res Bool) (te : En → Res D) : En → Res (List D) := fun ρ => (it ρ).bind fun ds => gd (ds.length ≤ sizeLine) (lcL i tt te ds ρ)
def yesB : En → Res Bool := fun _ => .ok true
section
variable {X : Cx} {a : Amb} {elt tg iter c : Expr} {ifs : List Expr} {scope : Scope} {pos : Pos} {it : En → Res (List D)} {tt : En → Res Bool} {te : En → Res D} {i : Nat}
theorem ts_nil : PTs X [] (tT X.K X.mg a yesB) := ⟨fun pins s σ H Q I ⟨ρ, G, hR, q⟩ => (pts_nil (X := X)).run pins s σ H Q I (q G H (Grow.refl (R.sub hR)))⟩
theorem ts_one (h : PT X c (tT X.K X.mg a tt)) : PTs X [c] (tT X.K X.mg a tt) := pts_one h
theorem lc_run (σ : L2.St) (H : Hp) (Q : VK) (h : tO X.K X.mg a (lcE it i tt te) σ H Q) : tLc (tI X.K X.mg a it) (gName i) (tT X.K X.mg (aB a) tt) (tD X.K X.mg (aB a) te) [i] σ H Q := by
  obtain ⟨ρ, G, hR, q⟩ := h
  refine ⟨ρ, G, hR, (PostE.bind q).imp fun ds _ q1 J G1 H1 g ok Dl hD => ?_⟩
  obtain ⟨hz, q1⟩ := PostE.gd q1
  cases hL : lcL i tt te ds ρ with
  | stuck => rw [hL] at q1; exact q1.elim
  | exc e =>
    exfalso
    have no : ∀ (ds : List D), lcL i tt te ds ρ ≠ .exc e := by
      intro ds
      induction ds with
      | nil => intro z; cases z
      | cons d ds ih =>
        intro z
        unfold lcL at z
        repeat' (first | (split at z) | exact ih z | cases z)
    exact no ds hL
  | ok vs =>
    rw [hL] at q1
    have hR0 : R X.K a.G0 a.H0 (ρ.set i .no) (wipe σ [i]) G H := R.setNo hR i none
    refine ⟨fun j m H' => m = ds.length - j ∧ j ≤ ds.length ∧ ∃ G' acc done rest, Grow G1 H1 G' H' ∧ G' Dl = none ∧ H' Dl = some (.lst acc) ∧ Reps X.K G' acc done ∧ done.length ≤ j ∧ lcL i tt te (ds.drop j) ρ = .ok rest ∧ vs = done ++ rest,
      ⟨ds.length, by simp, Nat.zero_le _, G1, [], [], vs, Grow.own g.s hD, g.s.free hD, upd_same, .nil, Nat.le_refl _, by rw [List.drop_zero]; exact hL, rfl⟩, ?_⟩
    rintro j m H' ⟨rfl, hj, G', acc, done, rest, gg, nD, eD, rD, lD, eL, eV⟩
    obtain ⟨stop, go⟩ := ok H' (gg.g.trans gg.s) j
    by_cases hl : j < ds.length
    · refine .inr ?_
      have e1 : ds[j]? = some ds[j] := List.getElem?_eq_getElem hl
      obtain ⟨h1, h2⟩ := go _ e1
      rw [List.drop_eq_getElem_cons hl] at eL
      refine ⟨h1, fun H2 => ∃ G' acc done rest, Grow G1 H1 G' H2 ∧ G' Dl = none ∧ H2 Dl = some (.lst acc) ∧ Reps X.K G' acc done ∧ done.length ≤ j + 1 ∧ lcL i tt te (ds.drop (j + 1)) ρ = .ok rest ∧ vs = done ++ rest, fun H2 w => ⟨ds.length - (j + 1), by omega, rfl, hl, w⟩, fun x H2 y => ?_⟩
      obtain ⟨rfl, rx⟩ := h2 x H2 y
      have rx' := Rep.mono gg.g _ _ rx
      refine ⟨by simp [wipe], ?_⟩
      have hR1 : R X.K a.G0 a.H0 (ρ.set i (.sh ds[j])) ((wipe σ [i]).set i (some x)) G' H2 := by
        have := R.setSh ((hR0.grow g).grow gg) i rx'
        rwa [List.set_set] at this
      unfold lcL at eL
      refine ⟨ρ.set i (.sh ds[j]), G', hR1, ?_⟩
      cases ht : tt (ρ.set i (.sh ds[j])) with
      | stuck => rw [ht] at eL; cases eL
      | exc e => rw [ht] at eL; cases eL
      | ok b =>
        rw [ht] at eL
        intro G2 H3 g2
        have nD2 : G2 Dl = none := g2.f Dl nD (by rw [eD]; simp)
        cases b with
        | false => exact ⟨G2, acc, done, rest, gg.trans g2, nD2, g2.h _ _ eD, Reps.mono g2.g _ _ rD, by omega, eL, eV⟩
        | true =>
          refine ⟨ρ.set i (.sh ds[j]), G2, R.grow hR1 g2, ?_⟩
          cases he : te (ρ.set i (.sh ds[j])) with
          | stuck => rw [he] at eL; cases eL
          | exc e => rw [he] at eL; cases eL
          | ok dv =>
            simp only [he] at eL
            intro v G3 H4 g3 rv
            have nD3 : G3 Dl = none := g3.f Dl nD2 (by rw [g2.h _ _ eD]; simp)
            cases hL2 : lcL i tt te (ds.drop (j + 1)) ρ with
            | stuck => rw [hL2] at eL; cases eL
            | exc e => rw [hL2] at eL; cases eL
            | ok rs =>
              rw [hL2] at eL
              cases eL
              refine ⟨acc, g3.h _ _ (g2.h _ _ eD), by rw [rD.len]; omega, G3, acc ++ [v], done ++ [dv], rs, ((gg.trans g2).trans g3).mut hD nD3, nD3, upd_same, (Reps.mono (g2.g.trans g3.g) _ _ rD).app (.cons rv .nil), by simp; omega, rfl, by rw [eV, List.append_assoc]; rfl⟩
    · have e : j = ds.length := by omega
      subst e
      rw [List.drop_length] at eL
      cases eL
      rw [List.append_nil] at eV
      subst eV
      exact .inl ⟨stop (Nat.le_refl _), q1 Dl acc G' H' (g.trans gg) (g.h.free hD) nD eD rD⟩
theorem o_lc {x : Str} {k : Nat} (ge : GE k X a) (hi : PI X tg iter (tI X.K X.mg a it)) (ok : blkC X.N X.env.scope scope [(x, i)] = true)
    (hg : ∀ (s : Shared) (H : Hp) (C : Addr) (cl : List (Str × Addr)) (fp : List Addr), PG (X.blk s H scope (compEnvC scope cl C X.env) fp) tg (gName i))
    (ht : ∀ (s : Shared) (H : Hp) (C : Addr) (cl : List (Str × Addr)) (fp : List Addr), PTs (X.blk s H scope (compEnvC scope cl C X.env) fp) ifs (tT X.K X.mg (aB a) tt))
    (he : ∀ (s : Shared) (H : Hp) (C : Addr) (cl : List (Str × Addr)) (fp : List Addr), PE (X.blk s H scope (compEnvC scope cl C X.env) fp) elt (tD X.K X.mg (aB a) te)) (hs : ∀ x, foldedSetIterable iter X.env x = pure x := by intro _; rfl) :
    PE X (.ListComp elt [⟨tg, iter, ifs, 0⟩] scope pos) (tO X.K X.mg a (lcE it i tt te)) :=
  (pe_lc (own := [(x, i)]) ge.calm ge.nd hi (blkOk_by ok) hg ht he hs).imp lc_run
/-- name = [..] -/
theorem s_setLc {j : Nat} {x y : Str} {py spos : Pos} {k : Nat} (ge : GE k X a) (hy : X.N[j]? = some y) (hyl : X.env.scope.names.lookup y = some .local) (hsw : swapsWith (.ListComp elt [⟨tg, iter, ifs, 0⟩] scope pos) (some (.Name y py)) spos.line X.env = pure true)
    (hi : PI X tg iter (tI X.K X.mg a it)) (ok : blkC X.N X.env.scope scope [(x, i)] = true)
    (hg : ∀ (s : Shared) (H : Hp) (C : Addr) (cl : List (Str × Addr)) (fp : List Addr), PG (X.blk s H scope (compEnvC scope cl C X.env) fp) tg (gName i))
    (ht : ∀ (s : Shared) (H : Hp) (C : Addr) (cl : List (Str × Addr)) (fp : List Addr), PTs (X.blk s H scope (compEnvC scope cl C X.env) fp) ifs (tT X.K X.mg (aB a) tt))
    (he : ∀ (s : Shared) (H : Hp) (C : Addr) (cl : List (Str × Addr)) (fp : List Addr), PE (X.blk s H scope (compEnvC scope cl C X.env) fp) elt (tD X.K X.mg (aB a) te)) (hs : ∀ x, foldedSetIterable iter X.env x = pure x := by intro _; rfl) :
    PS X (.Assign [.Name y py] (.ListComp elt [⟨tg, iter, ifs, 0⟩] scope pos) spos) (tS X.K X.mg a (sSetO j (lcE it i tt te))) :=
  (ps_setLc (own := [(x, i)]) ge.calm ge.nd hy hyl hsw hi (blkOk_by ok) hg ht he hs).imp fun Dn σ H ⟨ρ, G, hR, q⟩ => lc_run σ H _ ⟨ρ, G, hR, (ofR_post hR q).imp fun d _ q1 l vs G' H' g n1 n2 h1 r => q1 _ G' H' (R.setNew hR j g n1 n2 h1 (.lst r)) g.g⟩
/-- .. shared at once -/
theorem s_setLcS {j : Nat} {x y : Str} {py spos : Pos} {k : Nat} (ge : GE k X a) (hy : X.N[j]? = some y) (hyl : X.env.scope.names.lookup y = some .local) (hsw : swapsWith (.ListComp elt [⟨tg, iter, ifs, 0⟩] scope pos) (some (.Name y py)) spos.line X.env = pure true)
    (hi : PI X tg iter (tI X.K X.mg a it)) (ok : blkC X.N X.env.scope scope [(x, i)] = true)
    (hg : ∀ (s : Shared) (H : Hp) (C : Addr) (cl : List (Str × Addr)) (fp : List Addr), PG (X.blk s H scope (compEnvC scope cl C X.env) fp) tg (gName i))
    (ht : ∀ (s : Shared) (H : Hp) (C : Addr) (cl : List (Str × Addr)) (fp : List Addr), PTs (X.blk s H scope (compEnvC scope cl C X.env) fp) ifs (tT X.K X.mg (aB a) tt))
    (he : ∀ (s : Shared) (H : Hp) (C : Addr) (cl : List (Str × Addr)) (fp : List Addr), PE (X.blk s H scope (compEnvC scope cl C X.env) fp) elt (tD X.K X.mg (aB a) te)) (hs : ∀ x, foldedSetIterable iter X.env x = pure x := by intro _; rfl) :
    PS X (.Assign [.Name y py] (.ListComp elt [⟨tg, iter, ifs, 0⟩] scope pos) spos) (tS X.K X.mg a (sSet j (own (lcE it i tt te)))) :=
  (ps_setLc (own := [(x, i)]) ge.calm ge.nd hy hyl hsw hi (blkOk_by ok) hg ht he hs).imp fun Dn σ H ⟨ρ, G, hR, q⟩ => lc_run σ H _ ⟨ρ, G, hR, (PostE.bind (ofR_post hR q)).imp fun d _ q1 l vs G' H' g n1 n2 h1 r =>
    q1 _ _ H' (R.setSh (R.grow hR (g.share n1 n2 h1)) j (.lst upd_same (Reps.mono (same_new n2) _ _ r))) (g.share n1 n2 h1).g⟩
end
end PL

set_option maxRecDepth 100000
set_option maxHeartbeats 1000000
namespace PL
open PySem PySem.Spec PyProof.Rows L2

/-! ## try with several clauses «except X as n» -/
/-- a clause: the class, the slot of its name, its suite's reading -/
structure Cla where
  c : Value
  i : Nat
  ts : Addr → Value → Option Addr → TS
def wrapE (i : Nat) (D : Ends) : Ends := ⟨fun σ H => D.nx (σ.set i none) H, D.rt, fun σ H => D.bk (σ.set i none) H, fun σ H => D.ct (σ.set i none) H⟩
def wCl (K : PySem.W.Frag) (W : WX) (D : Ends) : List Cla → WX
  | [] => W
  | l :: r => fun cls d σ H => ∃ b, PySem.W.exmOne K cls l.c = some b ∧ (b = true → ∀ a, H a = none → l.ts a cls d (wrapE l.i D) (σ.set l.i (some (.ref a))) H) ∧ (b = false → wCl K W D r cls d σ H)
inductive ClOk (X : Cx) : List ExceptHandler → List Cla → Prop
  | nil : ClOk X [] []
  | cons {x n : Str} {l : Cla} {b0 : Stmt} {bs : List Stmt} {np ps : Pos} {hds : List ExceptHandler} {r : List Cla} (hc : Names X x l.c) (hi : X.N[l.i]? = some n) (hl : X.env.kindOf n = some .local)
      (hs : ∀ (a : Addr) (oe : Obj) (cls : Value) (d : Option Addr) (pn : List (Addr × Obj)), Zc cls d oe → (∃ vs, oe.data = .fields vs) → PSs (X.suite a ((a, oe) :: pn)) (b0 :: bs) (l.ts a cls d)) (h : ClOk X hds r) :
      ClOk X (.ExceptHandler (some (.Name x np)) (some n) (b0 :: bs) ps :: hds) (l :: r)
/-- an exception caught in X -/
structure Cau (X : Cx) (pins : List (Addr × Obj)) (σ : L2.St) (H : Hp) (B : Heap) (a : Addr) (cls : Value) (d : Option Addr) (sI s : Shared) : Prop where
  J : Inv X pins σ H sI
  nb : ∀ b o, sI.heap.get? b = some o → b ∉ frs X.stack → B.get? b = some o
  up : sI.heap.UpToSlots s.heap
  fl : HandSPX.FlyingZ B (X.env :: X.outer) a (Zc cls d) s.heap
  na : H a = none
  nL : a ≠ X.env.locals
  nF : a ∉ X.fs
  os : s.os = sI.os
  ag : AllBare s.gens
section
variable {X : Cx} {pins : List (Addr × Obj)} {σ : L2.St} {H : Hp} {B : Heap} {a : Addr} {cls : Value} {d : Option Addr} {sI s : Shared} {W : WX} {Dn : Ends}
theorem Cau.land (c : Cau X pins σ H B a cls d sI s) {h : Heap} (fl : HandSPX.FlyingZ B (X.env :: X.outer) a (Zc cls d) h) (up : s.heap.UpToSlots h) : Cau X pins σ H B a cls d sI { s with heap := h } :=
  ⟨c.J, c.nb, c.up.trans up, fl, c.na, c.nL, c.nF, c.os, c.ag⟩
theorem Cau.inv (c : Cau X pins σ H B a cls d sI s) : Inv X pins σ H s := c.J.landed c.nb c.fl.1 c.up c.os c.ag
theorem Cau.suite (c : Cau X pins σ H B a cls d sI s) : ∃ oe, Zc cls d oe ∧ (∃ vs, oe.data = .fields vs) ∧ s.heap.get? a = some oe ∧ Inv (X.suite a ((a, oe) :: (X.pn ++ pins))) [] σ H s := by
  obtain ⟨oe, vs, h1, h2, h3⟩ := c.fl.there
  exact ⟨oe, h2, ⟨vs, h3⟩, h1, c.inv.suite h1 h3 c.na c.nL c.nF⟩
/-- no clause took it: it goes on -/
theorem Cau.on (c : Cau X pins σ H B a cls d sI s) (hs : X.stack = X.env :: X.outer) (hf : X.env.frame = some X.env.locals) (tk : Takes X W) (w : W cls d σ H) : wpAny (model X.prog X.w) X.A (handleBy (.ref a) X.env []) (SP X pins Dn) X.xe s := by
  refine wpAny_handleBy_nil ?_
  have fl0 := c.fl
  obtain ⟨k1, k2, k3, oe, vs, T, oT, ts', he, hz, hd, h1, hr⟩ := c.fl
  unfold PySem.passOn
  refine wpAny_bind (wpAny_field he hd h1 ?_)
  rw [if_neg (show ¬ ((Value.ref T == Value.none) = true) by simp)]
  have go : wpAny (model X.prog X.w) X.A (setFlight (.ref a) X.env.frame) (fun _ t => wpAny (model X.prog X.w) X.A (throw (.ref a) : Sem Flow) (SP X pins Dn) X.xe t) X.xe s := by
    rw [hf]
    refine HandSPX.setFlight_upZ fl0 fun h4 hh4 up4 => wpAny_throw (tk _ _ ?_)
    exact ⟨a, B, sI, pins, σ, H, cls, d, rfl, c.J, c.nb, c.up.trans up4, .inr (.inr (by rw [hs]; exact hh4)), c.na, c.os, c.ag, w⟩
  first | exact wpAny_bind (wpAny_pure (wpAny_bind go)) | exact wpAny_bind go
theorem Cau.clauses (hs : X.stack = X.env :: X.outer) (hf : X.env.frame = some X.env.locals) (hN : X.N.Nodup) (tk : Takes X W) : ∀ {hds : List ExceptHandler} {ls : List Cla}, ClOk X hds ls → ∀ {s : Shared}, Cau X pins σ H B a cls d sI s → wCl X.K W Dn ls cls d σ H →
    wpAny (model X.prog X.w) X.A (handleBy (.ref a) X.env hds) (SP X pins Dn) X.xe s := by
  intro hds ls ok
  induction ok with
  | nil => intro s c w; exact c.on hs hf tk w
  | @cons x n l b0 bs np ps hds r hc hi hl hsu h ih =>
    intro s c w
    obtain ⟨b, e1, yes, no⟩ := w
    obtain ⟨oe, z1, z2, z3, S⟩ := c.suite
    have okX := c.J.ok
    refine wpAny_handleBy_cons (codeAny_handlers_test ?_) (by intro q; cases q)
    have lt : PySem.W.Looks (model X.prog X.w) s.heap (typeOf (.ref a)) cls := fun A Q E s' k q => wpAny_typeOf_ref (k _ _ z3) (by rw [z1.1]; exact q)
    have lm := PySem.W.exm_one (M := model X.prog X.w) c.inv.kIn lt e1
    have asked : ∀ {Q E : Value → Shared → Prop}, Q l.c s → wpAny (model X.prog X.w) (X.A.mark (some (.ref a))) (eval (.Name x np) X.env) Q E s := fun {Q E} q => by
      obtain ⟨g1, g2, g3 | ⟨g3, g4, g5⟩⟩ := hc
      · exact ld_glob (X := X.suite a ((a, oe) :: (X.pn ++ pins))) S g1 g3 q g2
      · exact ld_blt (X := X.suite a ((a, oe) :: (X.pn ++ pins))) S g1 g3 g4 q g5 g2
    refine asked (lm.here ?_)
    cases b with
    | false =>
      show wpAny _ X.A (handleBy (.ref a) X.env hds) _ _ _
      exact ih c (no rfl)
    | true =>
      refine codeAny_handlers_suite_as (HandSPX.lands_againZ c.fl fun h4 fl4 up4 => ?_)
      have c4 := c.land fl4 up4
      obtain ⟨oe4, y1, y2, y3, S4⟩ := c4.suite
      refine store_ok (X := X.suite a ((a, oe4) :: (X.pn ++ pins))) (v := .ref a) S4 hN hi (.inl hl) rfl (fun s5 S5 => ?_) (.inr hl)
      refine wpAny_mono ((hsu a oe4 cls d (X.pn ++ pins) y1 y2).run [] s5 _ H _ S5 (yes rfl a c.na)) (fun f s6 q => ?_) (fun _ _ z => False.elim z)
      have gone : ∀ {σ6 : L2.St} {H6 : Hp} {Q : Shared → Prop}, Inv (X.suite a ((a, oe4) :: (X.pn ++ pins))) [] σ6 H6 s6 → (∀ s7, Inv X pins (σ6.set l.i none) H6 s7 → Q s7) →
          wpAny (model X.prog X.w) X.A (do bindName X.env n .none; unbindBehindTheSuite X.env n ps) (fun _ s7 => Q s7) X.xe s6 := fun {σ6 H6 Q} S6 hq => gone_ok (S6.unsuite okX) hN hi hl hq
      cases f with
      | next => obtain ⟨σ6, H6, S6, q6⟩ := q; exact gone S6 fun s7 J7 => ⟨_, _, J7, q6⟩
      | brk => obtain ⟨σ6, H6, S6, q6⟩ := q; exact gone S6 fun s7 J7 => ⟨_, _, J7, q6⟩
      | cont => obtain ⟨σ6, H6, S6, q6⟩ := q; exact gone S6 fun s7 J7 => ⟨_, _, J7, q6⟩
      | ret u => obtain ⟨v6, σ6, H6, S6, r6, q6⟩ := q; exact gone S6 fun s7 J7 => ⟨_, _, _, J7, r6, q6⟩
theorem ps_try_cl {body : List Stmt} {h0 : ExceptHandler} {hds : List ExceptHandler} {ls : List Cla} {pos : Pos} {tb : WX → TS} (hs : X.stack = X.env :: X.outer) (hf : X.env.frame = some X.env.locals) (hN : X.N.Nodup) (tk : Takes X W)
    (hb : ∀ (W' : WX) (pn : List (Addr × Obj)) (xe : Value → Shared → Prop), Takes (X.tr pn xe) W' → PassesOwn (model X.prog X.w) X.A X.env xe → PSs (X.tr pn xe) body (tb W'))
    (hh : ClOk X (h0 :: hds) ls) : PS X (.Try body (h0 :: hds) [] [] pos) (fun D σ H => tb (wCl X.K W D ls) D σ H) := by
  refine ⟨fun pins s σ H D I h => ?_⟩
  have ok := I.ok
  have fr : X.A.frames = some (X.env :: X.outer) := by rw [ok.frames, hs]
  refine wpAny_Try_except ?_
  refine wpAny_mono ((hb (wCl X.K W D ls) (X.pn ++ pins) (fun e s1 => wpAny (model X.prog X.w) X.A (noteFrame e X.env) (fun _ s2 => wpAny (model X.prog X.w) X.A (setFlight e none) (fun _ s3 =>
    wpAny (model X.prog X.w) X.A (handleBy e X.env (h0 :: hds)) (SP X pins D) X.xe s3) X.xe s2) X.xe s1) (fun u s' xx => ?_) PassesOwn.looking).run [] s σ H D (I.toTry _) h) (fun f s1 q => ?_) (fun e s1 he => he)
  · obtain ⟨a, B, sI, pins', σ', H', cls, d, rfl, J', nb, up, sky, na, os, ag, w⟩ := xx
    have J : Inv X pins σ' H' sI := J'.ofTry ok
    show wpAny (model X.prog X.w) X.A (noteFrame (.ref a) X.env) _ _ _
    refine Sky.land Zc.steady fr hf (by rw [← hs]; exact sky : Sky B (X.env :: X.outer) a (Zc cls d) X.env.locals s'.heap) fun h3 fl3 up3 => ?_
    obtain ⟨oe3, vs3, he3, hz3, hd3⟩ := fl3.there
    have nfr : a ∉ frs (X.env :: X.outer) := fun hm => by
      obtain ⟨_, o', e', hnf⟩ := fl3.2.2.1.mem hm
      rw [he3] at e'; cases e'
      exact hnf _ hd3
    have nL : a ≠ X.env.locals := fun z => nfr (List.mem_filterMap.mpr ⟨X.env, List.mem_cons_self, by rw [hf, z]⟩)
    have nF : a ∉ X.fs := fun hm => by
      obtain ⟨e, he, q⟩ := List.mem_filterMap.mp hm
      exact nfr (List.mem_filterMap.mpr ⟨e, List.mem_cons_of_mem _ he, q⟩)
    exact Cau.clauses hs hf hN tk hh (s := { s' with heap := h3 }) ⟨J, nb, up.trans up3, fl3, na, nL, nF, os, ag⟩ w
  · cases f with
    | next => obtain ⟨σ', H', J', q⟩ := q; exact wpAny_execs_nil ⟨σ', H', J'.ofTry ok, q⟩
    | brk => obtain ⟨σ', H', J', q⟩ := q; exact ⟨σ', H', J'.ofTry ok, q⟩
    | cont => obtain ⟨σ', H', J', q⟩ := q; exact ⟨σ', H', J'.ofTry ok, q⟩
    | ret u => obtain ⟨v, σ', H', J', r, q⟩ := q; exact ⟨v, σ', H', J'.ofTry ok, r, q⟩
end
end PL

set_option maxRecDepth 100000
set_option maxHeartbeats 1000000
namespace PL
open PySem PySem.Spec PyProof.Rows L2

/-! ## own exceptions -/
def spIn (C : Addr) (fl : List Str) : Sp := fun vs H Q _ => ∃ a ws, vs = .ref a :: ws ∧ ws.length = fl.length ∧ H a = some (exo a C none) ∧
  ∀ d H2, H d = none → d ≠ a → H2 a = some (exo a C (some d)) → H2 d = some (exd d ((fl.zip ws).reverse)) → (∀ b, b ≠ a → b ≠ d → H2 b = H b) → Q .non H2
structure ExT (P : Program) (w : World) (K : PySem.W.Frag) (mg : Str → Option Value) (base : Heap) (x : Str) (fl : List Str) (C : Addr) : Prop where
  gC : mg x = some (.ref C)
  oex : OexC K C
  xf : XfC K C
  noF : ∀ f ∈ fl, PySem.W.findIn K (.ref C) f = some none
  fn : ∃ fI fd, PySem.W.findIn K (.ref C) "__init__" = some (some (.ref fI)) ∧ PySem.W.typeIn K (.ref fI) = some (.type "function") ∧ FnOk P w K mg base CX0 2 fI fd ("self" :: fl) (spIn C fl) ∧ Binds K fd ("self" :: fl) []
theorem Reps.rev {K : PySem.W.Frag} {G : Hp} : ∀ {ds : List D} {vs : List V}, Reps K G vs ds → Reps K G vs.reverse ds.reverse
  | [], _, .nil => .nil
  | d :: ds, _, .cons h r => by
    rw [List.reverse_cons, List.reverse_cons]
    exact (Reps.rev r).app (.cons h .nil)
theorem zip_rev {α β γ : Type} : ∀ {fl : List α} {ds : List β} {ws : List γ}, ds.length = fl.length → ws.length = fl.length → (((fl.zip ds).reverse).map (·.1)).zip ws.reverse = (fl.zip ws).reverse := by
  intro fl ds ws h1 h2
  have e : ((fl.zip ds).reverse).map (·.1) = fl.reverse := by
    rw [List.map_reverse, List.map_fst_zip (by omega)]
  rw [e]
  apply List.ext_getElem
  · simp [h2]
  · intro i a1 a2
    simp only [List.getElem_zip, List.getElem_reverse, List.length_zip]
    simp at a1
    congr 1 <;> (congr 1 <;> omega)
def sRaise (mk : List D → Res Exc) (fs : En → Res (List D)) : En → Out := fun ρ => ofR ρ (fs ρ) fun ds => ofR ρ (mk ds) fun e => .exc e ρ
def mkBV : List D → Res Exc | [w] => .ok (.badValue w) | _ => .stuck
def mkTM : List D → Res Exc | [w] => .ok (.tooMany w) | _ => .stuck
def mkBT : List D → Res Exc | [l, w, x] => .ok (.badText l w x) | _ => .stuck
def mkNP : List D → Res Exc | [w] => .ok (.noPlacing w) | _ => .stuck
def mkRF : List D → Res Exc | [w] => .ok (.refused w) | _ => .stuck
/-- the maker makes the class's exceptions -/
def MkX (x : Str) (fl : List Str) (mk : List D → Res Exc) : Prop := ∀ ds r, mk ds = r → r = .stuck ∨ ∃ e, r = .ok e ∧ e.cls = x ∧ ds.length = fl.length ∧ e.flds = (fl.zip ds).reverse
theorem mkx_bv : MkX "BadValue" ["what"] mkBV := fun ds r h => by
  unfold mkBV at h; split at h <;> subst h
  · exact .inr ⟨_, rfl, rfl, rfl, rfl⟩
  · exact .inl rfl
theorem mkx_tm : MkX "TooMany" ["limit"] mkTM := fun ds r h => by
  unfold mkTM at h; split at h <;> subst h
  · exact .inr ⟨_, rfl, rfl, rfl, rfl⟩
  · exact .inl rfl
theorem mkx_bt : MkX "BadText" ["line", "word", "what"] mkBT := fun ds r h => by
  unfold mkBT at h; split at h <;> subst h
  · exact .inr ⟨_, rfl, rfl, rfl, rfl⟩
  · exact .inl rfl
theorem mkx_np : MkX "NoPlacing" ["members"] mkNP := fun ds r h => by
  unfold mkNP at h; split at h <;> subst h
  · exact .inr ⟨_, rfl, rfl, rfl, rfl⟩
  · exact .inl rfl
theorem mkx_rf : MkX "Refused" ["reason"] mkRF := fun ds r h => by
  unfold mkRF at h; split at h <;> subst h
  · exact .inr ⟨_, rfl, rfl, rfl, rfl⟩
  · exact .inl rfl
section
variable {X : Cx} {a : Amb} {e : Expr} {es : List Expr} {fs : En → Res (List D)} {pos p pos2 : Pos} {x : Str} {fl : List Str} {C : Addr} {k : Nat} {mk : List D → Res Exc}
theorem s_raise (T : ExT X.prog X.w X.K X.mg X.base x fl C) (c : GS k X a) (hk : 3 ≤ k) (hmk : MkX x fl mk) (ha : PA X (e :: es) (tA X.K X.mg a fs)) (hfl : fl.length ≤ 10 := by decide) (hg : Gl X x := by rfl)
    (hdb : (x == ("__debug__" : Str)) = false := by decide) (he : starEach (e :: es) X.env = (false, eval e X.env) :: starEach es X.env := by rfl) (hpl : (backTo pos (starEach es X.env)).any (·.1) = false := by rfl) :
    PS X (.Raise (some (.Call (.Name x p) (e :: es) [] pos)) none pos2) (tS X.K X.mg a (sRaise mk fs)) := by
  obtain ⟨fI, fd, iC, tI, F1, hb⟩ := T.fn
  refine (ps_raise c.calm c.tk (pmk_oex T.oex iC tI F1 (c.hr.mono hk) hb .nil pass0 hg T.gC ha hdb he hpl)).imp fun Dn σ H ⟨ρ, G, hR, q⟩ => ?_
  refine ⟨ρ, G, hR, (ofR_post hR q).imp fun ds _ q1 vs G' H' g r => ?_⟩
  rcases hmk ds _ rfl with h | ⟨ex, h, hc, hl, hf⟩
  · rw [h] at q1; exact q1.elim
  · rw [h] at q1
    have hlv : vs.length = fl.length := by rw [r.len, hl]
    refine ⟨by omega, fun b hb => ?_⟩
    rw [List.append_nil]
    refine ⟨b, vs, rfl, hlv, upd_same, fun d H2 hd hne h2a h2d rest => ⟨rfl, d, _, h2a, h2d, ?_, ?_⟩⟩
    · rw [upd_ne hne] at hd; exact hd
    · have hd' : H' d = none := by rw [upd_ne hne] at hd; exact hd
      have sm : Same H' (upd (L2.del H2 b) d (.xd ((fl.zip vs).reverse))) := fun y o ey => by
        have n1 : y ≠ d := ne_of_none ey hd'
        have n2 : y ≠ b := ne_of_none ey hb
        rw [upd_ne n1, del_ne n2, rest y n2 n1, upd_ne n2]
        exact ey
      have gg : Grow G H G' (upd (L2.del H2 b) d (.xd ((fl.zip vs).reverse))) := ⟨g.g, g.h.trans sm, g.s.trans sm, g.f⟩
      have cls : clOf X.mg ex.cls = .ref C := by unfold clOf; rw [hc, T.gC]; rfl
      rw [← cls]
      refine q1 d σ G' _ (R.grow hR gg) gg.g ⟨vs.reverse, ?_, ?_⟩
      · rw [hf, zip_rev hl hlv]
        exact upd_same
      · rw [hf, List.map_reverse, List.map_snd_zip (by omega)]
        exact r.rev
end

/-! ## own exceptions' makers: __init__ with one field, with three -/
section
variable {P : Program} {w : World} {K : PySem.W.Frag} {mg : Str → Option Value} {base : Heap}
/-- self.f = f, in such a body -/
theorem ost {X : Cx} {f : Str} {o e : Expr} {to te : TE} {p' pos : Pos} (ho : PE X o to) (he : PE X e te) (hs : swapsWith e (some (.Attribute o f p')) pos.line X.env = pure false := by rfl) : PS X (.Assign [.Attribute o f p'] e pos) (tOst X.K f to te) := ps_ost ho he hs
theorem init1 {f : Addr} {fd : FuncData} {qual fl : Str} {st : Stmt} {C : Addr} (F : Fun K "__init__" qual st f fd) (S : FnScope [("self" : Str), fl] [("self" : Str), fl] (defScope st)) (o : OexC K C) (no : PySem.W.findIn K (.ref C) fl = some none)
    (body : ∀ (cdv : Value) (A : Around) (outer : List Env) (s : Shared) (H : Hp) (E : XK), PSs (cxOf CX0 P w K mg base [("self" : Str), fl] qual (defScope st) f cdv A outer s H E).nox (defBody st) (tOst K fl (tVar 0) (tVar 1))) : FnOk P w K mg base CX0 2 f fd [("self" : Str), fl] (spIn C [fl]) := by
  refine F.ok S (fun vs H Q E h => ?_) (fun cdv A outer s H vs Q E hr h => ?_)
  · obtain ⟨a, ws, rfl, hl, _⟩ := h
    simpa using hl
  · obtain ⟨a, ws, rfl, hl, ha, q⟩ := h
    match ws, hl with
    | [w1], _ =>
      refine ⟨_, body cdv A outer s H E, ?_⟩
      refine ⟨w1, rfl, .ref a, rfl, a, C, rfl, o, no, .inl ⟨ha, fun dx n1 n2 => ?_⟩⟩
      refine q dx _ n1 n2 upd_same ?_ fun b h1 h2 => ?_
      · rw [upd_ne n2, upd_same] <;> rfl
      · rw [upd_ne h1, upd_ne h2]
theorem init3 {f : Addr} {fd : FuncData} {qual f1 f2 f3 : Str} {st : Stmt} {C : Addr} (F : Fun K "__init__" qual st f fd) (S : FnScope [("self" : Str), f1, f2, f3] [("self" : Str), f1, f2, f3] (defScope st)) (o : OexC K C) (n1 : PySem.W.findIn K (.ref C) f1 = some none) (n2 : PySem.W.findIn K (.ref C) f2 = some none) (n3 : PySem.W.findIn K (.ref C) f3 = some none)
    (body : ∀ (cdv : Value) (A : Around) (outer : List Env) (s : Shared) (H : Hp) (E : XK), PSs (cxOf CX0 P w K mg base [("self" : Str), f1, f2, f3] qual (defScope st) f cdv A outer s H E).nox (defBody st) (tSeq (tOst K f1 (tVar 0) (tVar 1)) (tSeq (tOst K f2 (tVar 0) (tVar 2)) (tOst K f3 (tVar 0) (tVar 3))))) : FnOk P w K mg base CX0 2 f fd [("self" : Str), f1, f2, f3] (spIn C [f1, f2, f3]) := by
  refine F.ok S (fun vs H Q E h => ?_) (fun cdv A outer s H vs Q E hr h => ?_)
  · obtain ⟨a, ws, rfl, hl, _⟩ := h
    simpa using hl
  · obtain ⟨a, ws, rfl, hl, ha, q⟩ := h
    match ws, hl with
    | [w1, w2, w3], _ =>
      refine ⟨_, body cdv A outer s H E, ?_⟩
      refine ⟨w1, rfl, .ref a, rfl, a, C, rfl, o, n1, .inl ⟨ha, fun dx m1 m2 => ?_⟩⟩
      have e1 : upd (upd H dx (exd dx [(f1, w1)])) a (exo a C (some dx)) dx = some (exd dx [(f1, w1)]) := by rw [upd_ne m2, upd_same]
      refine ⟨w2, rfl, .ref a, rfl, a, C, rfl, o, n2, .inr ⟨dx, _, upd_same, e1, (by simp), ?_⟩⟩
      refine ⟨w3, rfl, .ref a, rfl, a, C, rfl, o, n3, .inr ⟨dx, _, ?_, upd_same, (by simp), ?_⟩⟩
      · rw [upd_ne (Ne.symm m2), upd_same]
      · refine q dx _ m1 m2 ?_ ?_ fun b h1 h2 => ?_
        · rw [upd_ne (Ne.symm m2), upd_ne (Ne.symm m2), upd_same]
        · exact upd_same
        · rw [upd_ne h2, upd_ne h2, upd_ne h1, upd_ne h2]
end

/-! ## try -/
/-- a clause: which exceptions it takes, the slot of its name, what it does -/
structure Clz where
  kn : Exc → Bool
  is : Exc → Bool
  i : Nat
  f : Exc → En → Out
/-- the name of the clause goes -/
def unset (i : Nat) : Out → Out
  | .next ρ => .next (ρ.set i .no) | .brk ρ => .brk (ρ.set i .no) | .cont ρ => .cont (ρ.set i .no) | .ret r => .ret r | .exc _ _ => .stuck | .stuck => .stuck
def tryO : List Clz → Exc → En → Out
  | [], e, ρ => .exc e ρ
  | l :: r, e, ρ => if l.kn e then (if l.is e then unset l.i (l.f e (ρ.set l.i .no)) else tryO r e ρ) else .stuck
def sTry (b : En → Out) (ls : List Clz) : En → Out := fun ρ => match b ρ with | .exc e ρ' => tryO ls e ρ' | o => o
/-- what a suite knows: e caught, at the address p, its dict at d -/
def Su (K : PySem.W.Frag) (mg : Str → Option Value) (a : Amb) (i : Nat) (p : Addr) (cls : Value) (d : Option Addr) (e : Exc) (ρ : En) (σ : L2.St) (G H : Hp) : Prop :=
  (∃ dd, d = some dd ∧ XR K G H dd e) ∧ cls = clOf mg e.cls ∧ (∀ o, σ[i]? = some o → o = some (.ref p)) ∧ RR K a ρ σ G H
theorem XR.grow {K : PySem.W.Frag} {G H G' H' : Hp} {d : Addr} {e : Exc} (g : Grow G H G' H') (x : XR K G H d e) : XR K G' H' d e := by
  obtain ⟨vs, h1, h2⟩ := x
  exact ⟨vs, g.h _ _ h1, Reps.mono g.g _ _ h2⟩
theorem Su.grow {K : PySem.W.Frag} {mg : Str → Option Value} {a : Amb} {i : Nat} {p : Addr} {cls : Value} {d : Option Addr} {e : Exc} {ρ : En} {σ : L2.St} {G H G' H' : Hp} (s : Su K mg a i p cls d e ρ σ G H) (g : Grow G H G' H') : Su K mg a i p cls d e ρ σ G' H' := by
  obtain ⟨⟨dd, h1, h2⟩, h3, h4, h5⟩ := s
  exact ⟨⟨dd, h1, h2.grow g⟩, h3, h4, R.grow h5 g⟩
section
variable (K : PySem.W.Frag) (mg : Str → Option Value) (a : Amb) (i : Nat) (p : Addr) (cls : Value) (d : Option Addr)
def tSu (f : Exc → En → Out) : TS := fun Dn σ H => ∃ e ρ G, Su K mg a i p cls d e ρ σ G H ∧ Post K mg (aB a) Dn G (f e ρ)
def tX (f : Exc → En → Res D) : TE := fun σ H Q => ∃ e ρ G, Su K mg a i p cls d e ρ σ G H ∧ PostE K mg (aB a) σ G H (f e ρ) fun z => ∀ v G' H', Grow G H G' H' → Rep K G' v z → Q v H'
def tXA (f : Exc → En → Res (List D)) : TA := fun σ H Q => ∃ e ρ G, Su K mg a i p cls d e ρ σ G H ∧ PostE K mg (aB a) σ G H (f e ρ) fun z => ∀ v G' H', Grow G H G' H' → Reps K G' v z → Q v H'
end
/-- the clauses' meanings and readings -/
inductive ClzOk (X : Cx) (a : Amb) : List ExceptHandler → List Clz → Prop
  | nil : ClzOk X a [] []
  | cons {x n : Str} {C : Addr} {l : Clz} {b0 : Stmt} {bs : List Stmt} {np ps : Pos} {hds : List ExceptHandler} {r : List Clz} (hc : Names X x (.ref C)) (hi : X.N[l.i]? = some n) (hl : X.env.kindOf n = some .local)
      (hm : ∀ e, l.kn e = true → PySem.W.exmOne X.K (clOf X.mg e.cls) (.ref C) = some (l.is e))
      (hs : ∀ (p : Addr) (oe : Obj) (cls : Value) (d : Option Addr) (pn : List (Addr × Obj)), Zc cls d oe → (∃ vs, oe.data = .fields vs) → PSs (X.suite p ((p, oe) :: pn)) (b0 :: bs) (tSu X.K X.mg a l.i p cls d l.f)) (h : ClzOk X a hds r) :
      ClzOk X a (.ExceptHandler (some (.Name x np)) (some n) (b0 :: bs) ps :: hds) (l :: r)
section
variable {X : Cx} {a : Amb} {k : Nat}
theorem clz_cl {hds : List ExceptHandler} {ls : List Clz} (h : ClzOk X a hds ls) : ∃ cs : List Cla, ClOk X hds cs ∧
    ∀ (Dn : Ends) (e : Exc) (ρ : En) (d : Addr) (σ : L2.St) (G H : Hp), RR X.K a ρ σ G H → XR X.K G H d e → Post X.K X.mg a Dn G (tryO ls e ρ) → wCl X.K a.W Dn cs (clOf X.mg e.cls) (some d) σ H := by
  induction h with
  | nil => exact ⟨[], .nil, fun Dn e ρ d σ G H r x p => p d σ G H r (Same.refl _) x⟩
  | @cons x n C l b0 bs np ps hds r hc hi hl hm hs h ih =>
    obtain ⟨cs, h1, h2⟩ := ih
    refine ⟨⟨.ref C, l.i, fun p cls d => tSu X.K X.mg a l.i p cls d l.f⟩ :: cs, .cons hc hi hl hs h1, fun Dn e ρ d σ G H r x p => ?_⟩
    unfold tryO at p
    by_cases hk : l.kn e = true
    case neg => rw [if_neg hk] at p; exact p.elim
    rw [if_pos hk] at p
    refine ⟨l.is e, hm e hk, fun hb q hq => ?_, fun hb => ?_⟩
    · rw [hb, if_pos rfl] at p
      refine ⟨e, ρ.set l.i .no, G, ⟨⟨d, rfl, x⟩, rfl, fun o ho => ?_, R.setNo r l.i _⟩, ?_⟩
      · rcases get_set ho with ⟨_, z, _⟩ | ⟨z, _⟩
        · exact z
        · exact absurd rfl z
      · cases hf : l.f e (ρ.set l.i .no) with
        | next ρ2 => rw [hf] at p; exact fun σ' G' H' r' s' => p _ G' H' (R.setNo r' l.i none) s'
        | brk ρ2 => rw [hf] at p; exact fun σ' G' H' r' s' => p _ G' H' (R.setNo r' l.i none) s'
        | cont ρ2 => rw [hf] at p; exact fun σ' G' H' r' s' => p _ G' H' (R.setNo r' l.i none) s'
        | ret rv => rw [hf] at p; cases rv <;> exact p
        | exc e2 ρ2 => rw [hf] at p; exact p.elim
        | stuck => rw [hf] at p; exact p.elim
    · rw [hb, if_neg Bool.false_ne_true] at p
      exact h2 Dn e ρ d σ G H r x p
theorem s_try {body : List Stmt} {h0 : ExceptHandler} {hds : List ExceptHandler} {ls : List Clz} {pos : Pos} {F : En → Out} (c : GS k X a)
    (hb : ∀ (W' : WX) (pn : List (Addr × Obj)) (xe : Value → Shared → Prop), GS k (X.tr pn xe) { a with W := W' } → PSs (X.tr pn xe) body (tS X.K X.mg { a with W := W' } F))
    (hh : ClzOk X a (h0 :: hds) ls) : PS X (.Try body (h0 :: hds) [] [] pos) (tS X.K X.mg a (sTry F ls)) := by
  obtain ⟨cs, h1, h2⟩ := clz_cl hh
  refine (ps_try_cl (tb := fun W' => tS X.K X.mg { a with W := W' } F) c.hs c.hf c.nd c.tk (fun W' pn xe tk po => hb W' pn xe (c.tr tk po)) h1).imp fun Dn σ H ⟨ρ, G, hR, q⟩ => ?_
  refine ⟨ρ, G, hR, ?_⟩
  unfold sTry at q
  cases hF : F ρ with
  | exc e ρ' => rw [hF] at q; exact fun d σ' G' H' r' s' x => h2 Dn e ρ' d σ' G' H' r' x (Post.mono s' q)
  | next ρ2 => rw [hF] at q; exact q
  | brk ρ2 => rw [hF] at q; exact q
  | cont ρ2 => rw [hF] at q; exact q
  | ret rv => rw [hF] at q; cases rv <;> exact q
  | stuck => rw [hF] at q; exact q.elim
theorem exm_pair {K : PySem.W.Frag} {A C : Addr} {b : Bool} (h1 : PySem.W.subIn K (.ref C) (.type "BaseException") = some true) (h2 : PySem.W.isClsIn K C = true) (h3 : PySem.W.typeIn K (.ref C) = some (.type "type")) (h4 : PySem.W.subIn K (.ref A) (.ref C) = some b) : PySem.W.exmOne K (.ref A) (.ref C) = some b := by
  have e1 : (PySem.W.subIn K (.ref C) (.type "BaseException") == some true) = true := by rw [h1] <;> rfl
  have z : (PySem.W.clsIn K C).isSome = true := h2
  have e2 : ((PySem.W.clsIn K C).isSome && PySem.W.typeIn K (.ref C) == some (.type "type")) = true := by rw [z, h3] <;> rfl
  show (if (PySem.W.subIn K (.ref C) (.type "BaseException") == some true) = true then (if ((PySem.W.clsIn K C).isSome && PySem.W.typeIn K (.ref C) == some (.type "type")) = true then PySem.W.subIn K (.ref A) (.ref C) else none) else none) = some b
  rw [if_pos e1, if_pos e2]
  exact h4
end
/-! in a suite -/
def fldX (x fld : Str) : Exc → En → Res D := fun e _ => gd (e.cls = x) (match e.flds.lookup fld with | some d => .ok d | none => .stuck)
section
variable {X : Cx} {a : Amb} {i : Nat} {p : Addr} {oe : Obj} {cls : Value} {d : Option Addr} {pn : List (Addr × Obj)} {e b : Expr} {es : List Expr} {pos : Pos} {f g : Exc → En → Res D} {fs : Exc → En → Res (List D)}
theorem x_lift {f : En → Res D} (h : PE (X.suite p ((p, oe) :: pn)) e (tD X.K X.mg (aB a) f)) : PE (X.suite p ((p, oe) :: pn)) e (tX X.K X.mg a i p cls d fun _ => f) :=
  h.imp fun σ H Q ⟨ex, ρ, G, hS, q⟩ => ⟨ρ, G, hS.2.2.2, q⟩
theorem lookup_zip {K : PySem.W.Frag} {G : Hp} {fld : Str} {z : D} : ∀ {fs : List (Str × D)} {vs : List V}, Reps K G vs (fs.map (·.2)) → fs.lookup fld = some z → ∃ v, ((fs.map (·.1)).zip vs).lookup fld = some v ∧ Rep K G v z
  | [], _, _, h => by cases h
  | (x, d) :: r, _, .cons (v := v) (vs := vs) h1 h2, h => by
    show ∃ w, List.lookup fld ((x, v) :: (r.map (·.1)).zip vs) = some w ∧ _
    by_cases hx : (fld == x) = true
    · rw [List.lookup_cons, hx] at h
      simp only at h
      cases h
      exact ⟨v, by rw [List.lookup_cons, hx], h1⟩
    · have hx' : (fld == x) = false := by simpa using hx
      rw [List.lookup_cons, hx'] at h
      obtain ⟨w, e1, e2⟩ := lookup_zip h2 h
      exact ⟨w, by rw [List.lookup_cons, hx']; exact e1, e2⟩
theorem x_fld {x n fld : Str} {C : Addr} {flds : List Str} {np : Pos} (T : ExT X.prog X.w X.K X.mg X.base x flds C) (hm : fld ∈ flds) (hz : Zc cls d oe) (hf : ∃ vs, oe.data = .fields vs) (hi : X.N[i]? = some n)
    (hv : Vis X.env.scope n := by first | exact Or.inl rfl | exact Or.inr (Or.inl rfl) | exact Or.inr (Or.inr rfl)) (hd : (n == ("__debug__" : Str)) = false := by decide) (hcd : (n == ("__classdict__" : Str)) = false := by decide)
    (hb : attributeBase (.Name n np) fld X.env (eval (.Name n np) X.env) = eval (.Name n np) X.env := by rfl) : PE (X.suite p ((p, oe) :: pn)) (.Attribute (.Name n np) fld pos) (tX X.K X.mg a i p cls d (fldX x fld)) := by
  refine ⟨fun pins s σ H Q I ⟨ex, ρ, G, ⟨⟨dd, h1, vs, h2, h3⟩, h4, h5, h6⟩, q⟩ => ?_⟩
  obtain ⟨hx, q1⟩ := PostE.gd q
  refine (pe_xf T.xf (T.noF fld hm) hz hf (pe_var (X := X.suite p ((p, oe) :: pn)) hi hv hd hcd) hb).run pins s σ H Q I ?_
  have hlen : i < σ.length := by
    have e1 : σ.length = X.N.length := I.len
    rw [e1]; exact (List.getElem?_eq_some_iff.mp hi).1
  have e2 := h5 _ (List.getElem?_eq_getElem hlen)
  cases hL : ex.flds.lookup fld with
  | none => rw [hL] at q1; exact q1.elim
  | some z =>
    rw [hL] at q1
    obtain ⟨v, e3, e4⟩ := lookup_zip h3 hL
    refine ⟨.ref p, by rw [List.getElem?_eq_getElem hlen, e2], rfl, ?_, dd, _, v, h1, h2, e3, q1 v G H (Grow.refl (R.sub h6)) e4⟩
    rw [h4, hx]; unfold clOf; rw [T.gC]; rfl
theorem xa_nil : PA (X.suite p ((p, oe) :: pn)) [] (tXA X.K X.mg a i p cls d fun _ => aNil) := pa_nil.imp fun σ H Q ⟨ex, ρ, G, hS, q⟩ => q [] G H (Grow.refl (R.sub hS.2.2.2)) .nil
theorem xa_cons (h : PE (X.suite p ((p, oe) :: pn)) e (tX X.K X.mg a i p cls d f)) (hs : PA (X.suite p ((p, oe) :: pn)) es (tXA X.K X.mg a i p cls d fs)) (hst : starEach (e :: es) X.env = (false, eval e X.env) :: starEach es X.env := by rfl) :
    PA (X.suite p ((p, oe) :: pn)) (e :: es) (tXA X.K X.mg a i p cls d fun ex => aCons (f ex) (fs ex)) :=
  (pa_cons h hs hst).imp fun σ H Q ⟨ex, ρ, G, hS, q⟩ => ⟨ex, ρ, G, hS, (PostE.bind q).imp fun x e1 q1 v G' H' g1 r1 =>
    ⟨ex, ρ, G', hS.grow g1, ((PostE.bind q1).grow g1).imp fun xs e2 q2 vs G2 H2 g2 r2 => q2 (v :: vs) G2 H2 (g1.trans g2) (.cons (Rep.mono g2.g _ _ r1) r2)⟩⟩
theorem x_tup {x1 : Nat} (hs : PA (X.suite p ((p, oe) :: pn)) es (tXA X.K X.mg a i p cls d fs)) : PE (X.suite p ((p, oe) :: pn)) (.Tuple es x1 pos) (tX X.K X.mg a i p cls d fun ex => app tupD (fs ex)) :=
  (pe_tup hs).imp fun σ H Q ⟨ex, ρ, G, hS, q⟩ => ⟨ex, ρ, G, hS, (PostE.bind q).imp fun xs e1 q1 vs G' H' g1 r1 => by
    obtain ⟨hz, q1⟩ := PostE.gd q1
    exact ⟨by rw [r1.len]; exact hz, fun y hp => q1 (.ref y) _ _ (g1.trans (Grow.new g1.s hp)) (.tup (SqT.of upd_same) (Reps.mono (same_new (g1.s.free hp)) _ _ r1))⟩⟩
def xRet (f : Exc → En → Res D) : Exc → En → Out := fun ex ρ => ofR ρ (f ex ρ) fun z => .ret (.sh z)
theorem su_ret (h : PE (X.suite p ((p, oe) :: pn)) e (tX X.K X.mg a i p cls d f)) : PSs (X.suite p ((p, oe) :: pn)) [.Return (some e) pos] (tSu X.K X.mg a i p cls d (xRet f)) :=
  (pss_one (ps_ret h)).imp fun Dn σ H ⟨ex, ρ, G, hS, q⟩ => ⟨ex, ρ, G, hS, (ofR_post (a := aB a) hS.2.2.2 q).imp fun x _ q1 v G' H' g r => q1 v G' H' (hS.2.2.2.gr.trans g) g.g r⟩
end
end PL

set_option maxRecDepth 100000
set_option maxHeartbeats 1000000
namespace PL
open PySem PySem.Spec PyProof.Rows L2

/-! ## lists of one's own, changed -/
def owL (ρ : En) (i : Nat) : Res (List D) := match ρ[i]? with | some (.ow (.lst xs)) => .ok xs | _ => .stuck
theorem owL_eq {ρ : En} {i : Nat} {xs : List D} (h : owL ρ i = .ok xs) : ρ[i]? = some (.ow (.lst xs)) := by
  unfold owL at h
  cases e : ρ[i]? with
  | none => rw [e] at h; cases h
  | some s => cases s with
    | no => rw [e] at h; cases h
    | tmp _ => rw [e] at h; cases h
    | sh d => rw [e] at h; cases h
    | ow o => cases o with
      | dk k => rw [e] at h; cases h
      | lst ys => rw [e] at h; cases h; rfl
def setL (ρ : En) (i : Nat) (xs : List D) : En := ρ.set i (.ow (.lst xs))
/-- i.append(f) -/
def sApp (i : Nat) (f : En → Res D) : En → Out := fun ρ => ofR ρ (owL ρ i) fun xs => ofR ρ (f ρ) fun d => ofR ρ (gd (xs.length < sizeLine) (.ok ())) fun _ => .next (setL ρ i (xs ++ [d]))
/-- i.pop() as a statement -/
def sPop (i : Nat) : En → Out := fun ρ => ofR ρ (owL ρ i) fun xs => ofR ρ (gd (xs ≠ []) (.ok ())) fun _ => .next (setL ρ i xs.dropLast)
/-- i.pop(f) as a statement -/
def popAt (xs : List D) : D → Res (List D) | .int n => gd (0 ≤ n ∧ n < xs.length ∧ xs.length < 2 ^ 62) (.ok (xs.eraseIdx n.toNat)) | _ => .stuck
def sPopAt (i : Nat) (f : En → Res D) : En → Out := fun ρ => ofR ρ (owL ρ i) fun xs => ofR ρ (f ρ) fun d => ofR ρ (popAt xs d) fun ys => .next (setL ρ i ys)
/-- i.insert(f, g) -/
def insAt (xs : List D) : List D → Res (List D) | [.int n, d] => gd (xs.length < sizeLine ∧ 0 ≤ n ∧ n < 2 ^ 63) (.ok (xs.take n.toNat ++ [d] ++ xs.drop n.toNat)) | _ => .stuck
def sIns (i : Nat) (fs : En → Res (List D)) : En → Out := fun ρ => ofR ρ (owL ρ i) fun xs => ofR ρ (fs ρ) fun ds => ofR ρ (insAt xs ds) fun ys => .next (setL ρ i ys)
/-- i[f] = g -/
def putAt (xs : List D) (d : D) : D → Res (List D) | .int n => (match ixN xs.length n with | some j => .ok (xs.set j d) | none => .stuck) | _ => .stuck
def sPut (i : Nat) (f g : En → Res D) : En → Out := fun ρ => ofR ρ (owL ρ i) fun xs => ofR ρ (g ρ) fun d => ofR ρ (f ρ) fun n => ofR ρ (putAt xs d n) fun ys => .next (setL ρ i ys)
/-- i[f], i a list of one's own -/
def ixO (i : Nat) (f : En → Res D) : En → Res D := fun ρ => (owL ρ i).bind fun xs => (f ρ).bind fun n => match n with
  | .int n => (match atI xs n with | some d => .ok d | none => .stuck)
  | _ => .stuck
mutual
/-- no list in it -/
def scl : D → Bool | .non => true | .bl _ => true | .int _ => true | .str _ => true | .tup xs => sclA xs | _ => false
def sclA : List D → Bool | [] => true | d :: ds => scl d && sclA ds
end
def sclX (e : Exc) : Bool := sclA (e.flds.map (·.2))
/-- a list of one's own is read: the value is a scalar -/
def borE (i : Nat) (f : En → Res D) : En → Res D := fun ρ => match owL ρ i with
  | .ok xs => (match f (ρ.set i (.sh (.lst xs))) with
    | .ok d => gd (scl d = true) (.ok d)
    | .exc e => gd (sclX e = true) (.exc e)
    | .stuck => .stuck)
  | _ => .stuck
def borT (i : Nat) (f : En → Res Bool) : En → Res Bool := fun ρ => match owL ρ i with
  | .ok xs => (match f (ρ.set i (.sh (.lst xs))) with
    | .ok d => .ok d
    | .exc e => gd (sclX e = true) (.exc e)
    | .stuck => .stuck)
  | _ => .stuck
theorem sqt_ne {K : PySem.W.Frag} {G G' : Hp} {l p : Addr} {vs us : List V} (hG : G l = some (.lst vs)) (hs : ∀ b x, b ≠ l → G b = some x → G' b = some x) (h : SqT K G p us) : SqT K G' p us := by
  rcases h with (h | ⟨o, h⟩) | h
  · exact .inl (.inl (hs _ _ (fun z => by rw [z, hG] at h; cases h) h))
  · exact .inl (.inr ⟨o, hs _ _ (fun z => by rw [z, hG] at h; cases h) h⟩)
  · exact .inr h
mutual
theorem scl_rep {K : PySem.W.Frag} {G G' : Hp} {l : Addr} {vs : List V} (hG : G l = some (.lst vs)) (hs : ∀ b x, b ≠ l → G b = some x → G' b = some x) : ∀ (d : D) (v : V), scl d = true → Rep K G v d → Rep K G' v d
  | .non, _, _, .non => .non
  | .bl _, _, _, .bl b => .bl b
  | .int _, _, _, .int b => .int b
  | .str _, _, _, .str b => .str b
  | .tup ds, _, h, .tup s r => .tup (sqt_ne hG hs s) (scl_reps hG hs ds _ h r)
theorem scl_reps {K : PySem.W.Frag} {G G' : Hp} {l : Addr} {vs : List V} (hG : G l = some (.lst vs)) (hs : ∀ b x, b ≠ l → G b = some x → G' b = some x) : ∀ (ds : List D) (us : List V), sclA ds = true → Reps K G us ds → Reps K G' us ds
  | [], _, _, .nil => .nil
  | d :: ds, _, h, .cons r rr => .cons (scl_rep hG hs d _ (Bool.and_eq_true_iff.mp h).1 r) (scl_reps hG hs ds _ (Bool.and_eq_true_iff.mp h).2 rr)
end
/-- all but l -/
def less (G : Hp) (l : Addr) : Hp := fun b => if b = l then none else G b
theorem less_grow {G H G' H' : Hp} {l : Addr} {vs : List V} (sb : Same G H) (hg : G l = none) (g : Grow (upd G l (.lst vs)) H G' H') : Grow G H (less G' l) H' where
  g := fun b x e => by
    have : b ≠ l := fun z => by rw [z, hg] at e; cases e
    show (if b = l then none else G' b) = some x
    rw [if_neg this]
    exact g.g b x (by rw [upd_ne this]; exact e)
  h := g.h
  s := fun b x e => by
    unfold less at e
    split at e
    · cases e
    · exact g.s b x e
  f := fun b h1 h2 => by
    unfold less
    split
    · rfl
    · rename_i z
      exact g.f b (by rw [upd_ne z]; exact h1) h2
theorem less_keep {G' : Hp} {l : Addr} : ∀ b x, b ≠ l → G' b = some x → less G' l b = some x := fun b x h e => by unfold less; rw [if_neg h]; exact e
theorem owL_nox {ρ : En} {i : Nat} {e : Exc} : owL ρ i ≠ .exc e := by unfold owL; split <;> (intro z; cases z)
theorem ow_post {K : PySem.W.Frag} {mg : Str → Option Value} {a : Amb} {Dn : Ends} {G : Hp} {ρ : En} {i : Nat} {k : List D → Out} (h : Post K mg a Dn G (ofR ρ (owL ρ i) k)) : ∃ xs, owL ρ i = .ok xs ∧ Post K mg a Dn G (k xs) := by
  cases e : owL ρ i with
  | ok xs => rw [e] at h; exact ⟨xs, rfl, h⟩
  | exc ex => exact absurd e owL_nox
  | stuck => rw [e] at h; exact h.elim
theorem gd_post {K : PySem.W.Frag} {mg : Str → Option Value} {a : Amb} {Dn : Ends} {G : Hp} {ρ : En} {α : Type} {c : Prop} [Decidable c] {r : Res α} {k : α → Out} (h : Post K mg a Dn G (ofR ρ (gd c r) k)) : c ∧ Post K mg a Dn G (ofR ρ r k) := by
  by_cases hc : c
  · rw [gd_pos hc] at h; exact ⟨hc, h⟩
  · have e : gd c r = .stuck := if_neg hc
    rw [e] at h; exact h.elim
section
variable {X : Cx} {a : Amb} {e b : Expr} {es : List Expr} {f g : En → Res D} {fs : En → Res (List D)} {pos p pos2 apos : Pos} {x : Str} {i : Nat}
theorem s_app (i : Nat) (h : PE X e (tD X.K X.mg a f)) (hN : X.N[i]? = some x := by rfl) (hv : Vis X.env.scope x := by first | exact Or.inl rfl | exact Or.inr (Or.inl rfl) | exact Or.inr (Or.inr rfl)) (hd : (x == ("__debug__" : Str)) = false := by decide) (hcd : (x == ("__classdict__" : Str)) = false := by decide)
    (hsw : swapsWith (.Call (.Attribute (.Name x p) "append" apos) [e] [] pos) none pos2.line X.env = pure false := by rfl)
    (hbase : attributeBase (.Name x p) "append" X.env (eval (.Name x p) X.env) = eval (.Name x p) X.env := by rfl)
    (hfew : ((backTo pos (starEach (e :: []) X.env)).all (fun x => !x.1) && (backToKw pos (keywordEach [] X.env)).all (fun x => x.1.isSome) && decide ((e :: ([] : List Expr)).length + ([] : List Keyword).length + (if ([] : List Keyword).isEmpty then 0 else 1) < 30)) = true := by rfl)
    (hline : (apos.endLine == pos.line) = true := by rfl) (hs : starEach (e :: []) X.env = (false, eval e X.env) :: starEach [] X.env := by rfl) (hplain : (backTo pos (starEach [] X.env)).any (·.1) = false := by rfl) :
    PS X (.Expr (.Call (.Attribute (.Name x p) "append" apos) [e] [] pos) pos2) (tS X.K X.mg a (sApp i f)) :=
  (ps_expr (pe_bm PySem.F.plainAttrs_list PySem.F.slot_list_append PySem.F.type_list_append mt_append (pe_var hN hv hd hcd) (pa_cons h pa_nil hs) hbase hfew hline hs hplain) hsw).imp fun Dn σ H ⟨ρ, G, hR, q⟩ => by
    obtain ⟨xs, hx, q⟩ := ow_post q
    obtain ⟨l, vs, e1, h0, hg, hh, r⟩ := R.owL hR (owL_eq hx)
    refine ⟨.ref l, e1, Or.inl ⟨rfl, vs, SqL.of hh⟩, ρ, G, hR, (ofR_post hR q).imp fun d _ q1 v G' H' gr rd => ?_⟩
    obtain ⟨hz, q1⟩ := gd_post q1
    exact ⟨l, vs, v, rfl, rfl, gr.h _ _ hh, by rw [r.len]; exact hz, q1 σ G' _ (R.write (R.grow hR gr) (owL_eq hx) e1 (.lst ((Reps.mono gr.g _ _ r).app (.cons rd .nil)))) gr.g⟩
theorem s_ins (i : Nat) (h : PA X (e :: es) (tA X.K X.mg a fs)) (hN : X.N[i]? = some x := by rfl) (hv : Vis X.env.scope x := by first | exact Or.inl rfl | exact Or.inr (Or.inl rfl) | exact Or.inr (Or.inr rfl)) (hd : (x == ("__debug__" : Str)) = false := by decide) (hcd : (x == ("__classdict__" : Str)) = false := by decide)
    (hsw : swapsWith (.Call (.Attribute (.Name x p) "insert" apos) (e :: es) [] pos) none pos2.line X.env = pure false := by rfl)
    (hbase : attributeBase (.Name x p) "insert" X.env (eval (.Name x p) X.env) = eval (.Name x p) X.env := by rfl)
    (hfew : ((backTo pos (starEach (e :: es) X.env)).all (fun x => !x.1) && (backToKw pos (keywordEach [] X.env)).all (fun x => x.1.isSome) && decide ((e :: es).length + ([] : List Keyword).length + (if ([] : List Keyword).isEmpty then 0 else 1) < 30)) = true := by rfl)
    (hline : (apos.endLine == pos.line) = true := by rfl) (hs : starEach (e :: es) X.env = (false, eval e X.env) :: starEach es X.env := by rfl) (hplain : (backTo pos (starEach es X.env)).any (·.1) = false := by rfl) :
    PS X (.Expr (.Call (.Attribute (.Name x p) "insert" apos) (e :: es) [] pos) pos2) (tS X.K X.mg a (sIns i fs)) :=
  (ps_expr (pe_bm PySem.F.plainAttrs_list PySem.F.slot_list_insert PySem.F.type_list_insert mt_insert (pe_var hN hv hd hcd) h hbase hfew hline hs hplain) hsw).imp fun Dn σ H ⟨ρ, G, hR, q⟩ => by
    obtain ⟨xs, hx, q⟩ := ow_post q
    obtain ⟨l, vs, e1, h0, hg, hh, r⟩ := R.owL hR (owL_eq hx)
    refine ⟨.ref l, e1, Or.inl ⟨rfl, vs, SqL.of hh⟩, ρ, G, hR, (ofR_post hR q).imp fun ds _ q1 us G' H' gr rd => ?_⟩
    unfold insAt at q1
    split at q1
    · obtain ⟨v, u, rfl, r1, r2⟩ := reps2 rd
      obtain ⟨⟨hz, h1, h2⟩, q1⟩ := gd_post q1
      cases r1
      have rr := Reps.mono gr.g _ _ r
      exact ⟨l, vs, _, u, rfl, rfl, gr.h _ _ hh, by rw [r.len]; exact hz, h1, h2, q1 σ G' _ (R.write (R.grow hR gr) (owL_eq hx) e1 (.lst (((rr.take _).app (.cons r2 .nil)).app (rr.drop _)))) gr.g⟩
    · exact q1.elim
theorem s_pop (i : Nat) (hN : X.N[i]? = some x := by rfl) (hv : Vis X.env.scope x := by first | exact Or.inl rfl | exact Or.inr (Or.inl rfl) | exact Or.inr (Or.inr rfl)) (hd : (x == ("__debug__" : Str)) = false := by decide) (hcd : (x == ("__classdict__" : Str)) = false := by decide)
    (hsw : swapsWith (.Call (.Attribute (.Name x p) "pop" apos) [] [] pos) none pos2.line X.env = pure false := by rfl)
    (hbase : attributeBase (.Name x p) "pop" X.env (eval (.Name x p) X.env) = eval (.Name x p) X.env := by rfl) (hline : (apos.endLine == pos.line) = true := by rfl) :
    PS X (.Expr (.Call (.Attribute (.Name x p) "pop" apos) [] [] pos) pos2) (tS X.K X.mg a (sPop i)) :=
  (ps_expr (pe_bm0 PySem.F.plainAttrs_list PySem.F.slot_list_pop PySem.F.type_list_pop mt_pop (pe_var hN hv hd hcd) hbase hline) hsw).imp fun Dn σ H ⟨ρ, G, hR, q⟩ => by
    obtain ⟨xs, hx, q⟩ := ow_post q
    obtain ⟨l, vs, e1, h0, hg, hh, r⟩ := R.owL hR (owL_eq hx)
    obtain ⟨hz, q⟩ := gd_post q
    have hl : vs.length - 1 < vs.length := by
      have : 0 < xs.length := by cases xs with | nil => exact absurd rfl hz | cons _ _ => simp
      rw [r.len]; omega
    have rd : Reps X.K G vs.dropLast xs.dropLast := by
      rw [List.dropLast_eq_take, List.dropLast_eq_take, r.len]; exact r.take _
    exact ⟨.ref l, e1, Or.inl ⟨rfl, vs, SqL.of hh⟩, l, vs, _, rfl, rfl, hh, List.getElem?_eq_getElem hl, q σ G _ (R.write hR (owL_eq hx) e1 (.lst rd)) (Same.refl _)⟩
theorem reps_erase {K : PySem.W.Frag} {G : Hp} : ∀ {ds : List D} {vs : List V} (n : Nat), Reps K G vs ds → Reps K G (vs.eraseIdx n) (ds.eraseIdx n)
  | [], _, n, .nil => by simpa using Reps.nil
  | d :: ds, _, 0, .cons h r => r
  | d :: ds, _, n + 1, .cons h r => .cons h (reps_erase n r)
theorem s_popAt (i : Nat) (h : PE X e (tD X.K X.mg a f)) (hN : X.N[i]? = some x := by rfl) (hv : Vis X.env.scope x := by first | exact Or.inl rfl | exact Or.inr (Or.inl rfl) | exact Or.inr (Or.inr rfl)) (hd : (x == ("__debug__" : Str)) = false := by decide) (hcd : (x == ("__classdict__" : Str)) = false := by decide)
    (hsw : swapsWith (.Call (.Attribute (.Name x p) "pop" apos) [e] [] pos) none pos2.line X.env = pure false := by rfl)
    (hbase : attributeBase (.Name x p) "pop" X.env (eval (.Name x p) X.env) = eval (.Name x p) X.env := by rfl)
    (hfew : ((backTo pos (starEach (e :: []) X.env)).all (fun x => !x.1) && (backToKw pos (keywordEach [] X.env)).all (fun x => x.1.isSome) && decide ((e :: ([] : List Expr)).length + ([] : List Keyword).length + (if ([] : List Keyword).isEmpty then 0 else 1) < 30)) = true := by rfl)
    (hline : (apos.endLine == pos.line) = true := by rfl) (hs : starEach (e :: []) X.env = (false, eval e X.env) :: starEach [] X.env := by rfl) (hplain : (backTo pos (starEach [] X.env)).any (·.1) = false := by rfl) :
    PS X (.Expr (.Call (.Attribute (.Name x p) "pop" apos) [e] [] pos) pos2) (tS X.K X.mg a (sPopAt i f)) :=
  (ps_expr (pe_bm PySem.F.plainAttrs_list PySem.F.slot_list_pop PySem.F.type_list_pop mt_popAt (pe_var hN hv hd hcd) (pa_cons h pa_nil hs) hbase hfew hline hs hplain) hsw).imp fun Dn σ H ⟨ρ, G, hR, q⟩ => by
    obtain ⟨xs, hx, q⟩ := ow_post q
    obtain ⟨l, vs, e1, h0, hg, hh, r⟩ := R.owL hR (owL_eq hx)
    refine ⟨.ref l, e1, Or.inl ⟨rfl, vs, SqL.of hh⟩, ρ, G, hR, (ofR_post hR q).imp fun d _ q1 v G' H' gr rd => ?_⟩
    unfold popAt at q1
    cases rd with
    | int n =>
      obtain ⟨⟨h1, h2, h3⟩, q1⟩ := gd_post q1
      have hn : n.toNat < vs.length := by rw [r.len]; omega
      have e2 : seqIndex? n vs.length = some n.toNat := PySem.StrLaws.seqIndex_nonneg h1 (by rw [r.len]; exact h2)
      exact ⟨l, vs, n, n.toNat, _, rfl, rfl, gr.h _ _ hh, by omega, by omega, e2, List.getElem?_eq_getElem hn, q1 σ G' _ (R.write (R.grow hR gr) (owL_eq hx) e1 (.lst (reps_erase _ (Reps.mono gr.g _ _ r)))) gr.g⟩
    | _ => exact q1.elim
theorem s_put (i : Nat) (hf : PE X b (tD X.K X.mg a f)) (hg : PE X e (tD X.K X.mg a g)) (hN : X.N[i]? = some x := by rfl) (hv : Vis X.env.scope x := by first | exact Or.inl rfl | exact Or.inr (Or.inl rfl) | exact Or.inr (Or.inr rfl)) (hd : (x == ("__debug__" : Str)) = false := by decide) (hcd : (x == ("__classdict__" : Str)) = false := by decide)
    (hs : swapsWithSole [.Subscript (.Name x p) b pos] e pos2.line X.env = pure false := by rfl) (hw : swappedStores [.Subscript (.Name x p) b pos] e X.env = pure none := by rfl)
    (h1 : (assignEach [.Subscript (.Name x p) b pos] X.env).map (·.2) = [assign (.Subscript (.Name x p) b pos) X.env] := by rfl)
    (ha : ∀ v, assign (.Subscript (.Name x p) b pos) X.env v = (do let ov ← holding [v] (eval (.Name x p) X.env); let iv ← holding [v, ov] (eval b X.env); standAt pos; holding [v, ov, iv] (setItem ov iv v); release [v, ov, iv] []) := by intro _; rfl) :
    PS X (.Assign [.Subscript (.Name x p) b pos] e pos2) (tS X.K X.mg a (sPut i f g)) :=
  (ps_asg hg (pg_sub (pe_var hN hv hd hcd) hf set_list ha) hs hw h1).imp fun Dn σ H ⟨ρ, G, hR, q⟩ => by
    obtain ⟨xs, hx, q⟩ := ow_post q
    refine ⟨ρ, G, hR, (ofR_post hR q).imp fun d _ q1 v G1 H1 g1 r1 => ?_⟩
    have hR1 := R.grow hR g1
    obtain ⟨l, vs, e1, h0, hg, hh, r⟩ := R.owL hR1 (owL_eq hx)
    refine ⟨.ref l, e1, ρ, G1, hR1, (ofR_post (a := a) hR1 (Post.mono g1.g q1)).imp fun n _ q2 u G2 H2 g2 r2 => ?_⟩
    unfold putAt at q2
    cases r2 with
    | int n =>
      cases hj : ixN xs.length n with
      | none => simp only [hj] at q2; exact q2.elim
      | some j =>
        simp only [hj] at q2
        exact ⟨l, vs, n, j, rfl, rfl, g2.h _ _ hh, by rw [r.len]; exact hj, q2 σ G2 _ (R.write (R.grow hR1 g2) (owL_eq hx) e1 (.lst (Reps.set (Rep.mono g2.g _ _ r1) _ (Reps.mono g2.g _ _ r)))) g2.g⟩
    | _ => exact q2.elim
theorem d_ixO (i : Nat) (hf : PE X b (tD X.K X.mg a f)) (hp : PlainIx b) (hN : X.N[i]? = some x := by rfl) (hv : Vis X.env.scope x := by first | exact Or.inl rfl | exact Or.inr (Or.inl rfl) | exact Or.inr (Or.inr rfl)) (hd : (x == ("__debug__" : Str)) = false := by decide) (hcd : (x == ("__classdict__" : Str)) = false := by decide) :
    PE X (.Subscript (.Name x p) b pos) (tD X.K X.mg a (ixO i f)) :=
  (pe_ix ix_list (pe_var hN hv hd hcd) hf hp).imp fun σ H Q ⟨ρ, G, hR, q⟩ => by
    unfold ixO at q
    cases hx : owL ρ i with
    | exc ex => exact absurd hx owL_nox
    | stuck => rw [hx] at q; exact q.elim
    | ok xs =>
      rw [hx] at q
      obtain ⟨l, vs, e1, h0, hg, hh, r⟩ := R.owL hR (owL_eq hx)
      refine ⟨.ref l, e1, ρ, G, hR, (PostE.bind (r := f ρ) q).imp fun n _ q1 v G' H' g1 r1 => ?_⟩
      cases r1 with
      | int n =>
        cases hj : atI xs n with
        | none => simp only [hj] at q1; exact q1.elim
        | some d =>
          simp only [hj] at q1
          obtain ⟨u, e2, r2⟩ := (Reps.mono g1.g _ _ r).atI hj
          exact ⟨l, vs, n, u, rfl, rfl, SqL.of (g1.h _ _ hh), e2, q1 u G' H' g1 r2⟩
      | _ => exact q1.elim
theorem bor_wn {σ : L2.St} {G H : Hp} {l : Addr} {vs : List V} {ex : Exc} (s : Same G H) (hg : G l = none) (hs : sclX ex = true) (w : Wn X.K X.mg a σ G H ex) : Wn X.K X.mg a σ (upd G l (.lst vs)) H ex := fun d G' H' g' xr => by
  refine w d _ H' (less_grow s hg g') ?_
  obtain ⟨us, h1, h2⟩ := xr
  exact ⟨us, h1, scl_reps (g'.g _ _ upd_same) less_keep _ _ hs h2⟩
theorem d_bor (i : Nat) (h : PE X e (tD X.K X.mg a f)) : PE X e (tD X.K X.mg a (borE i f)) :=
  h.imp fun σ H Q ⟨ρ, G, hR, q⟩ => by
    unfold borE at q
    cases hx : owL ρ i with
    | exc ex => exact absurd hx owL_nox
    | stuck => rw [hx] at q; exact q.elim
    | ok xs =>
      simp only [hx] at q
      obtain ⟨l, vs, e1, hg, hh, r, sg, hR'⟩ := R.frz hR (owL_eq hx)
      refine ⟨ρ.set i (.sh (.lst xs)), _, hR', ?_⟩
      cases hf : f (ρ.set i (.sh (.lst xs))) with
      | stuck => simp only [hf] at q; exact q.elim
      | exc ex =>
        simp only [hf] at q
        obtain ⟨h1, q⟩ := PostE.gd q
        exact bor_wn (R.sub hR) hg h1 q
      | ok d =>
        simp only [hf] at q
        obtain ⟨h1, q⟩ := PostE.gd q
        exact fun v G' H' g' r' => q v _ H' (less_grow (R.sub hR) hg g') (scl_rep (g'.g _ _ upd_same) less_keep _ _ h1 r')
theorem t_bor {t : En → Res Bool} (i : Nat) (h : PT X e (tT X.K X.mg a t)) : PT X e (tT X.K X.mg a (borT i t)) :=
  h.imp fun σ H Q ⟨ρ, G, hR, q⟩ => by
    unfold borT at q
    cases hx : owL ρ i with
    | exc ex => exact absurd hx owL_nox
    | stuck => rw [hx] at q; exact q.elim
    | ok xs =>
      simp only [hx] at q
      obtain ⟨l, vs, e1, hg, hh, r, sg, hR'⟩ := R.frz hR (owL_eq hx)
      refine ⟨ρ.set i (.sh (.lst xs)), _, hR', ?_⟩
      cases hf : t (ρ.set i (.sh (.lst xs))) with
      | stuck => simp only [hf] at q; exact q.elim
      | exc ex =>
        simp only [hf] at q
        obtain ⟨h1, q⟩ := PostE.gd q
        exact bor_wn (R.sub hR) hg h1 q
      | ok d =>
        simp only [hf] at q
        exact fun G' H' g' => q G H' ⟨Same.refl _, g'.h, (R.sub hR).trans g'.h, fun _ h _ => h⟩
/-- .. a new list made while a list of one's own is read -/
def borO (i : Nat) (f : En → Res (List D)) : En → Res (List D) := fun ρ => match owL ρ i with
  | .ok xs => (match f (ρ.set i (.sh (.lst xs))) with
    | .ok ds => gd (sclA ds = true) (.ok ds)
    | .exc e => gd (sclX e = true) (.exc e)
    | .stuck => .stuck)
  | _ => .stuck
theorem o_bor {fo : En → Res (List D)} (i : Nat) (h : PE X e (tO X.K X.mg a fo)) : PE X e (tO X.K X.mg a (borO i fo)) :=
  h.imp fun σ H Q ⟨ρ, G, hR, q⟩ => by
    unfold borO at q
    cases hx : owL ρ i with
    | exc ex => exact absurd hx owL_nox
    | stuck => rw [hx] at q; exact q.elim
    | ok xs =>
      simp only [hx] at q
      obtain ⟨l, vs, e1, hg, hh, r, sg, hR'⟩ := R.frz hR (owL_eq hx)
      refine ⟨ρ.set i (.sh (.lst xs)), _, hR', ?_⟩
      cases hf : fo (ρ.set i (.sh (.lst xs))) with
      | stuck => simp only [hf] at q; exact q.elim
      | exc ex =>
        simp only [hf] at q
        obtain ⟨h1, q⟩ := PostE.gd q
        exact bor_wn (R.sub hR) hg h1 q
      | ok d =>
        simp only [hf] at q
        obtain ⟨h1, q⟩ := PostE.gd q
        exact fun l2 us G' H' g' n1 n2 e2 r' => q l2 us _ H' (less_grow (R.sub hR) hg g') n1 (by unfold less; rw [n2, ite_self]) e2 (scl_reps (g'.g _ _ upd_same) less_keep _ _ h1 r')
end
end PL

set_option maxRecDepth 100000
set_option maxHeartbeats 1000000
namespace PL
open PySem PySem.Spec PyProof.Rows L2

/-! ## dicts of one's own, keys ints and texts -/
def keyOf : D → Res Key | .int i => .ok (.inl i) | .str s => .ok (.inr s) | _ => .stuck
def valD (kvs : List (Key × D)) (k : Key) : Option D := (kvs.find? fun kv => decide (kv.1 = k)).map (·.2)
def putD (kvs : List (Key × D)) (k : Key) (d : D) : List (Key × D) := if kvs.any (fun kv => decide (kv.1 = k)) then kvs.map fun kv => if kv.1 = k then (kv.1, d) else kv else kvs ++ [(k, d)]
def owK (ρ : En) (i : Nat) : Res (List (Key × D)) := match ρ[i]? with | some (.ow (.dk xs)) => .ok xs | _ => .stuck
theorem owK_eq {ρ : En} {i : Nat} {xs : List (Key × D)} (h : owK ρ i = .ok xs) : ρ[i]? = some (.ow (.dk xs)) := by
  unfold owK at h
  cases e : ρ[i]? with
  | none => rw [e] at h; cases h
  | some s => cases s with
    | no => rw [e] at h; cases h
    | tmp _ => rw [e] at h; cases h
    | sh d => rw [e] at h; cases h
    | ow o => cases o with
      | lst k => rw [e] at h; cases h
      | dk ys => rw [e] at h; cases h; rfl
theorem owK_nox {ρ : En} {i : Nat} {e : Exc} : owK ρ i ≠ .exc e := by unfold owK; split <;> (intro z; cases z)
theorem owK_post {K : PySem.W.Frag} {mg : Str → Option Value} {a : Amb} {Dn : Ends} {G : Hp} {ρ : En} {i : Nat} {k : List (Key × D) → Out} (h : Post K mg a Dn G (ofR ρ (owK ρ i) k)) : ∃ xs, owK ρ i = .ok xs ∧ Post K mg a Dn G (k xs) := by
  cases e : owK ρ i with
  | ok xs => rw [e] at h; exact ⟨xs, rfl, h⟩
  | exc ex => exact absurd e owK_nox
  | stuck => rw [e] at h; exact h.elim
theorem kreps_val {K : PySem.W.Frag} {G : Hp} {k : Key} : ∀ {kvs : List (Key × V)} {kds : List (Key × D)}, KReps K G kvs kds → (valV kvs k = none ∧ valD kds k = none) ∨ ∃ v d, valV kvs k = some v ∧ valD kds k = some d ∧ Rep K G v d
  | _, _, .nil => .inl ⟨rfl, rfl⟩
  | (k0, v) :: r, (_, d) :: ds, .cons h t => by
    by_cases e : k0 = k
    · exact .inr ⟨v, d, by simp [valV, e], by simp [valD, e], h⟩
    · have e1 : valV ((k0, v) :: r) k = valV r k := by simp [valV, List.find?_cons, e]
      have e2 : valD ((k0, d) :: ds) k = valD ds k := by simp [valD, List.find?_cons, e]
      rw [e1, e2]
      exact kreps_val t
theorem kreps_any {K : PySem.W.Frag} {G : Hp} {k : Key} : ∀ {kvs : List (Key × V)} {kds : List (Key × D)}, KReps K G kvs kds → (kvs.any fun kv => decide (kv.1 = k)) = kds.any fun kv => decide (kv.1 = k)
  | _, _, .nil => rfl
  | (k0, v) :: r, (_, d) :: ds, .cons h t => by simp only [List.any_cons, kreps_any t]
theorem kreps_len {K : PySem.W.Frag} {G : Hp} : ∀ {kvs : List (Key × V)} {kds : List (Key × D)}, KReps K G kvs kds → kvs.length = kds.length
  | _, _, .nil => rfl
  | (k0, v) :: r, (_, d) :: ds, .cons h t => by simp [kreps_len t]
theorem kreps_map {K : PySem.W.Frag} {G : Hp} {k : Key} {v0 : V} {d0 : D} (q : Rep K G v0 d0) : ∀ {kvs : List (Key × V)} {kds : List (Key × D)}, KReps K G kvs kds → KReps K G (kvs.map fun kv => if kv.1 = k then (kv.1, v0) else kv) (kds.map fun kv => if kv.1 = k then (kv.1, d0) else kv)
  | _, _, .nil => .nil
  | (k0, v) :: r, (_, d) :: ds, .cons h t => by
    simp only [List.map_cons]
    by_cases e : k0 = k
    · rw [if_pos e, if_pos e]; exact .cons q (kreps_map q t)
    · rw [if_neg e, if_neg e]; exact .cons h (kreps_map q t)
theorem kreps_snoc {K : PySem.W.Frag} {G : Hp} {k : Key} {v0 : V} {d0 : D} (q : Rep K G v0 d0) : ∀ {kvs : List (Key × V)} {kds : List (Key × D)}, KReps K G kvs kds → KReps K G (kvs ++ [(k, v0)]) (kds ++ [(k, d0)])
  | _, _, .nil => .cons q .nil
  | (k0, v) :: r, (_, d) :: ds, .cons h t => .cons h (kreps_snoc q t)
theorem kreps_put {K : PySem.W.Frag} {G : Hp} {k : Key} {v0 : V} {d0 : D} (q : Rep K G v0 d0) {kvs : List (Key × V)} {kds : List (Key × D)} (r : KReps K G kvs kds) : KReps K G (putK kvs k v0) (putD kds k d0) := by
  unfold putK putD
  rw [kreps_any r]
  split
  · exact kreps_map q r
  · exact kreps_snoc q r
/-- i = {} -/
def sNewK (i : Nat) : En → Out := fun ρ => .next (ρ.set i (.ow (.dk [])))
/-- i[f] = g -/
def sPutK (i : Nat) (f g : En → Res D) : En → Out := fun ρ => ofR ρ (owK ρ i) fun kvs => ofR ρ (g ρ) fun d => ofR ρ (f ρ) fun n => ofR ρ (keyOf n) fun k => ofR ρ (gd (kvs.length < sizeLine) (.ok ())) fun _ => .next (ρ.set i (.ow (.dk (putD kvs k d))))
/-- i[f], found -/
def getK (i : Nat) (f : En → Res D) : En → Res D := fun ρ => (owK ρ i).bind fun kvs => (f ρ).bind fun n => (keyOf n).bind fun k => match valD kvs k with | some d => .ok d | none => .stuck
/-- f in i -/
def inK (i : Nat) (f : En → Res D) : En → Res D := fun ρ => (owK ρ i).bind fun kvs => (f ρ).bind fun n => (keyOf n).bind fun k => .ok (.bl (valD kvs k).isSome)
theorem keyOf_rep {K : PySem.W.Frag} {G : Hp} {v : V} {d : D} {k : Key} (r : Rep K G v d) (h : keyOf d = .ok k) : v = kV k := by
  cases r <;> first | (cases h; rfl) | cases h
section
variable {X : Cx} {a : Amb} {e b : Expr} {es : List Expr} {f g : En → Res D} {fs : En → Res (List D)} {pos p pos2 apos : Pos} {x : Str} {i k : Nat}
theorem s_newK (i : Nat) (hnd : X.N.Nodup) (hN : X.N[i]? = some x := by rfl) (hx : Loc X.env.scope x := by first | exact Or.inl rfl | exact Or.inr rfl) (hfn : X.fn x = true ∨ X.env.scope.names.lookup x = some .local := by first | exact .inl rfl | exact .inr rfl)
    (hs : swapsWith (.Dict [] [] pos) (some (.Name x p)) pos2.line X.env = pure false := by rfl) : PS X (.Assign [.Name x p] (.Dict [] [] pos) pos2) (tS X.K X.mg a (sNewK i)) :=
  (ps_set hnd hN hx pe_dnewK hs hfn).imp fun Dn σ H ⟨ρ, G, hR, q⟩ => fun y hy => q _ G _ (R.setNew hR i (Grow.own (R.sub hR) hy) hy ((R.sub hR).free hy) upd_same (.dk .nil)) (Same.refl _)
theorem s_putK (i : Nat) (ge : GE k X a) (hf : PE X b (tD X.K X.mg a f)) (hg : PE X e (tD X.K X.mg a g)) (hN : X.N[i]? = some x := by rfl) (hv : Vis X.env.scope x := by first | exact Or.inl rfl | exact Or.inr (Or.inl rfl) | exact Or.inr (Or.inr rfl)) (hd : (x == ("__debug__" : Str)) = false := by decide) (hcd : (x == ("__classdict__" : Str)) = false := by decide)
    (hs : swapsWith e (some (.Subscript (.Name x p) b pos)) pos2.line X.env = pure false := by rfl) : PS X (.Assign [.Subscript (.Name x p) b pos] e pos2) (tS X.K X.mg a (sPutK i f g)) :=
  (ps_dput (hu_of ge.hr) (pe_var hN hv hd hcd) hf hg hs).imp fun Dn σ H ⟨ρ, G, hR, q⟩ => by
    obtain ⟨xs, hx, q⟩ := owK_post q
    refine ⟨ρ, G, hR, (ofR_post hR q).imp fun d _ q1 v G1 H1 g1 r1 => ?_⟩
    have hR1 := R.grow hR g1
    obtain ⟨l, vs, e1, h0, hg, hh, r⟩ := R.owK hR1 (owK_eq hx)
    refine ⟨.ref l, e1, ρ, G1, hR1, (ofR_post (a := a) hR1 (Post.mono g1.g q1)).imp fun n _ q2 u G2 H2 g2 r2 => ?_⟩
    cases hk : keyOf n with
    | stuck => rw [hk] at q2; exact q2.elim
    | exc ex => cases n <;> cases hk
    | ok ky =>
      rw [hk] at q2
      obtain ⟨hz, q2⟩ := gd_post q2
      rw [keyOf_rep r2 hk]
      have rr := KReps.mono g2.g r
      exact ⟨l, _, rfl, DPut.k (k := ky) (g2.h _ _ hh) (by rw [kreps_len rr]; exact hz), q2 σ G2 _ (R.write (R.grow hR1 g2) (owK_eq hx) e1 (.dk (kreps_put (Rep.mono g2.g _ _ r1) rr))) g2.g⟩
theorem d_getK (i : Nat) (ge : GE k X a) (hf : PE X b (tD X.K X.mg a f)) (hp : NoSl b) (hN : X.N[i]? = some x := by rfl) (hv : Vis X.env.scope x := by first | exact Or.inl rfl | exact Or.inr (Or.inl rfl) | exact Or.inr (Or.inr rfl)) (hd : (x == ("__debug__" : Str)) = false := by decide) (hcd : (x == ("__classdict__" : Str)) = false := by decide) :
    PE X (.Subscript (.Name x p) b pos) (tD X.K X.mg a (getK i f)) :=
  (pe_dget (hu_of ge.hr) (pe_var hN hv hd hcd) hf hp).imp fun σ H Q ⟨ρ, G, hR, q⟩ => by
    unfold getK at q
    cases hx : owK ρ i with
    | exc ex => exact absurd hx owK_nox
    | stuck => rw [hx] at q; exact q.elim
    | ok xs =>
      rw [hx] at q
      obtain ⟨l, vs, e1, h0, hg, hh, r⟩ := R.owK hR (owK_eq hx)
      refine ⟨.ref l, e1, ρ, G, hR, (PostE.bind (r := f ρ) q).imp fun n _ q1 v G' H' g1 r1 => ?_⟩
      cases hk : keyOf n with
      | stuck => rw [hk] at q1; exact q1.elim
      | exc ex => cases n <;> cases hk
      | ok ky =>
        rw [hk] at q1
        rcases kreps_val (k := ky) (KReps.mono g1.g r) with ⟨a1, a2⟩ | ⟨w, d, a1, a2, a3⟩
        · simp only [Res.bind, a2] at q1; exact q1.elim
        · simp only [Res.bind, a2] at q1
          rw [keyOf_rep r1 hk]
          exact ⟨l, w, rfl, by rw [← a1]; exact DGet.k (g1.h _ _ hh), q1 w G' H' g1 a3⟩
end

/-! ## a module's constants -/
section
variable {X : Cx} {a : Amb} {pos : Pos} {x : Str}
theorem d_gint {i : Int} (h : ∃ t, X.mg x = some (.int i t)) (hg : Gl X x := by rfl) (hd : (x == ("__debug__" : Str)) = false := by decide) : PE X (.Name x pos) (tD X.K X.mg a (eC (.int i))) := by
  obtain ⟨t, h⟩ := h
  exact d_glob (v := .int i) h ⟨t, rfl⟩ (fun _ => .int i) hg hd
theorem d_gstr {z : Str} (h : ∃ t, X.mg x = some (.str z t)) (hg : Gl X x := by rfl) (hd : (x == ("__debug__" : Str)) = false := by decide) : PE X (.Name x pos) (tD X.K X.mg a (eC (.str z))) := by
  obtain ⟨t, h⟩ := h
  exact d_glob (v := .str z) h ⟨t, rfl⟩ (fun _ => .str z) hg hd
theorem d_gref {d : D} (h : ∃ p, X.mg x = some (.ref p) ∧ ∀ G, Rep X.K G (.ref p) d) (hg : Gl X x := by rfl) (hd : (x == ("__debug__" : Str)) = false := by decide) : PE X (.Name x pos) (tD X.K X.mg a (eC d)) := by
  obtain ⟨p, h, q⟩ := h
  exact d_glob (v := .ref p) h rfl q hg hd
end

/-! ## new lists by operators and slices -/
def catO : D → D → Res (List D) | .lst a, .lst b => gd (a.length + b.length ≤ sizeLine) (.ok (a ++ b)) | _, _ => .stuck
def repO : D → D → Res (List D) | .lst a, .int b => gd (-(2 ^ 63) ≤ b ∧ b < 2 ^ 63 ∧ a.length * b.toNat ≤ sizeLine) (.ok (List.replicate b.toNat a).flatten) | _, _ => .stuck
def binO (o : D → D → Res (List D)) (f g : En → Res D) : En → Res (List D) := fun ρ => (f ρ).bind fun x => (g ρ).bind fun y => o x y
def cutO : D → Option Int → Option Int → Res (List D) | .lst xs, lo, hi => .ok (cutG xs lo hi) | _, _, _ => .stuck
def sliceO (f : En → Res D) (l h : En → Res (Option Int)) : En → Res (List D) := fun ρ => (f ρ).bind fun x => (l ρ).bind fun lo => (h ρ).bind fun hi => cutO x lo hi
section
variable {X : Cx} {a : Amb} {e b : Expr} {f g : En → Res D} {pos : Pos}
theorem o_cat (hf : PE X e (tD X.K X.mg a f)) (hg : PE X b (tD X.K X.mg a g)) : PE X (.BinOp e .Add b pos) (tO X.K X.mg a (binO catO f g)) :=
  (pe_op op_cat hf hg).imp fun σ H Q ⟨ρ, G, hR, q⟩ => ⟨ρ, G, hR, (PostE.bind q).imp fun x _ q1 v1 G1 H1 g1 r1 => ⟨ρ, G1, R.grow hR g1, ((PostE.bind q1).grow g1).imp fun y _ q2 v2 G2 H2 g2 r2 => by
    have r1' := Rep.mono g2.g _ _ r1
    cases r1' with
    | @lst p vs ds h1 s1 => cases r2 with
      | @lst p2 us es h2 s2 =>
        obtain ⟨hz, q3⟩ := PostE.gd q2
        exact ⟨p, p2, vs, us, rfl, rfl, g2.s _ _ h1, g2.s _ _ h2, by rw [s1.len, s2.len]; exact hz, fun l hl => q3 l _ G2 _ ((g1.trans g2).trans (Grow.own g2.s hl)) ((g1.trans g2).h.free hl) (g2.s.free hl) upd_same (s1.app s2)⟩
      | _ => exact q2.elim
    | _ => cases r2 <;> exact q2.elim⟩⟩
theorem o_rep (hf : PE X e (tD X.K X.mg a f)) (hg : PE X b (tD X.K X.mg a g)) : PE X (.BinOp e .Mult b pos) (tO X.K X.mg a (binO repO f g)) :=
  (pe_op op_rep hf hg).imp fun σ H Q ⟨ρ, G, hR, q⟩ => ⟨ρ, G, hR, (PostE.bind q).imp fun x _ q1 v1 G1 H1 g1 r1 => ⟨ρ, G1, R.grow hR g1, ((PostE.bind q1).grow g1).imp fun y _ q2 v2 G2 H2 g2 r2 => by
    have r1' := Rep.mono g2.g _ _ r1
    cases r1' with
    | @lst p vs ds h1 s1 => cases r2 with
      | int n =>
        obtain ⟨⟨b1, b2, b3⟩, q3⟩ := PostE.gd q2
        exact ⟨p, n, vs, rfl, rfl, g2.s _ _ h1, b1, b2, by rw [s1.len]; exact b3, fun l hl => q3 l _ G2 _ ((g1.trans g2).trans (Grow.own g2.s hl)) ((g1.trans g2).h.free hl) (g2.s.free hl) upd_same (s1.rep _)⟩
      | _ => exact q2.elim
    | _ => cases r2 <;> exact q2.elim⟩⟩
theorem o_slice {lo hi : Option Expr} {l u : En → Res (Option Int)} {p2 : Pos} (hf : PE X e (tD X.K X.mg a f)) (hl : PO X lo (tP X.K X.mg a l)) (hu : PO X hi (tP X.K X.mg a u)) : PE X (.Subscript e (.Slice lo hi none p2) pos) (tO X.K X.mg a (sliceO f l u)) :=
  (pe_slice sl_list hf hl hu).imp fun σ H Q ⟨ρ, G, hR, q⟩ =>
    ⟨ρ, G, hR, (PostE.bind q).imp fun x _ q1 v G1 H1 g1 r1 => ⟨ρ, G1, R.grow hR g1, ((PostE.bind q1).grow g1).imp fun lo' _ q2 G2 H2 g2 =>
      ⟨ρ, G2, R.grow (R.grow hR g1) g2, ((PostE.bind q2).grow (g1.trans g2)).imp fun hi' _ q3 G3 H3 g3 => by
        have r3 := Rep.mono (g2.g.trans g3.g) _ _ r1
        have gg := (g1.trans g2).trans g3
        cases r3 with
        | @lst p vs ds h1 r => exact ⟨p, vs, rfl, SqL.of (g3.s _ _ h1), fun l' hl' => q3 l' _ _ _ (gg.trans (Grow.own g3.s hl')) (gg.h.free hl') (g3.s.free hl') upd_same (r.cut lo' hi')⟩
        | _ => exact q3.elim⟩⟩⟩
end
/-- what is never come to -/
def sNever : En → Out := fun _ => .stuck
theorem s_never {X : Cx} {a : Amb} {sts : List Stmt} : PSs X sts (tS X.K X.mg a sNever) := pss_never.imp fun Dn σ H ⟨ρ, G, hR, q⟩ => q.elim

/-! ## n op= e, ints -/
def sAug (i : Nat) (o : Int → Int → Int) (f : En → Res D) : En → Out := fun ρ => match ρ[i]? with
  | some (.sh (.int n)) => ofR ρ (f ρ) fun d => (match d with | .int m => .next (ρ.set i (.sh (.int (o n m)))) | _ => .stuck)
  | _ => .stuck
section
variable {X : Cx} {a : Amb} {e : Expr} {f : En → Res D} {pos p : Pos} {x : Str}
theorem s_aug {op : Operator} {o : Int → Int → Int} (ho : PIp X op (ipI o)) (i : Nat) (hnd : X.N.Nodup) (hf : PE X e (tD X.K X.mg a f)) (hN : X.N[i]? = some x := by rfl) (hx : Loc X.env.scope x := by first | exact Or.inl rfl | exact Or.inr rfl)
    (hfn : X.fn x = true ∨ X.env.scope.names.lookup x = some .local := by first | exact .inl rfl | exact .inr rfl) : PS X (.AugAssign (.Name x p) op e pos) (tS X.K X.mg a (sAug i o f)) :=
  (ps_aug hnd hN hx hf ho hfn).imp fun Dn σ H ⟨ρ, G, hR, q⟩ => by
    unfold sAug at q
    cases e1 : ρ[i]? with
    | none => rw [e1] at q; exact q.elim
    | some s => cases s with
      | no => rw [e1] at q; exact q.elim
      | tmp _ => rw [e1] at q; exact q.elim
      | ow _ => rw [e1] at q; exact q.elim
      | sh d =>
        rw [e1] at q
        cases d with
        | int n =>
          obtain ⟨v, e2, r⟩ := R.sh hR e1
          cases r
          refine ⟨.int n, e2, ρ, G, hR, (ofR_post hR q).imp fun d _ q1 v G' H' g r => ?_⟩
          cases r with
          | int m => exact ⟨n, m, rfl, rfl, q1 _ G' H' (R.setSh (R.grow hR g) i (.int _)) g.g⟩
          | _ => exact q1.elim
        | _ => exact q.elim
end
end PL

set_option maxRecDepth 100000
set_option maxHeartbeats 1000000
namespace PL
open PySem PySem.Spec PyProof.Rows L2

theorem cd_str {X : Cx} : CallD X (.type "str") strL := ⟨_, (call_str_int).or SkE.call_str_str, fun G H vs ds z Q s r h q => by
  unfold strL at h
  split at h
  · obtain ⟨v, rfl, r1⟩ := reps1 r
    obtain ⟨hz, h⟩ := gd_ok h
    cases h; cases r1
    exact .inl ⟨_, rfl, hz, q _ G H (Grow.refl s) (.str _)⟩
  · obtain ⟨v, rfl, r1⟩ := reps1 r
    cases h; cases r1
    exact .inr ⟨_, rfl, q _ G H (Grow.refl s) (.str _)⟩
  · cases h⟩
/-- a, b = e -/
def sAsg (t : D → En → Res En) (f : En → Res D) : En → Out := fun ρ => ofR ρ (f ρ) fun d => match t d ρ with | .ok ρ' => .next ρ' | _ => .stuck
theorem s_asg {X : Cx} {a : Amb} {tg e : Expr} {t : D → En → Res En} {f : En → Res D} {pos : Pos} (he : PE X e (tD X.K X.mg a f)) (hg : PG X tg (tG X.K a t)) (hs : swapsWithSole [tg] e pos.line X.env = pure false := by rfl) (hw : swappedStores [tg] e X.env = pure none := by rfl)
    (h1 : (assignEach [tg] X.env).map (·.2) = [assign tg X.env] := by rfl) : PS X (.Assign [tg] e pos) (tS X.K X.mg a (sAsg t f)) :=
  (ps_asg he hg hs hw h1).imp fun Dn σ H ⟨ρ, G, hR, q⟩ => ⟨ρ, G, hR, (ofR_post hR q).imp fun d _ q1 v G' H' g r => by
    cases ht : t d ρ with
    | ok ρ' => simp only [ht] at q1; exact ⟨ρ, G', d, ρ', R.grow hR g, r, ht, fun σ' hR' => q1 σ' G' H' hR' g.g⟩
    | exc _ => simp only [ht] at q1; exact q1.elim
    | stuck => simp only [ht] at q1; exact q1.elim⟩
/-- of parts of the top: the callee's fact as it is asked for -/
abbrev Fx (P : Program) (K : PySem.W.Frag) (mg : Str → Option Value) (x qual : Str) (st : Stmt) (ps : List Str) : Prop := ∃ f fd, Fun K x qual st f fd ∧ mg x = some (.ref f) ∧ Binds K fd ps []
end PL

set_option maxRecDepth 100000
set_option maxHeartbeats 1000000
namespace PL
open PySem PySem.Spec PyProof.Rows L2
/-! ## the end: facts of the top -/
section
variable {P : Program} {w : World} {K : PySem.W.Frag} {mg : Str → Option Value} {base h : Heap}
theorem fx_mk (X : K.In h) (G : h.Ns mainGlobals mg) {x qual : Str} {st : Stmt} {f : Addr} {oc : Value} {od an : Option Addr} {osl : Array (Option Value)} {kV doc pm cdv ct : Value} {ps : List Str}
    (a : PySem.W.nsIn K mainGlobals x = some (some (.ref f))) (l : K.lookup f = some ⟨oc, od, .func (PySem.W.fnOf x qual (defArgs st) (defBody st) (defScope st) .none kV doc pm an cdv ct), osl⟩) (c : PySem.W.codeIn K cdv qual = true) (k : PySem.W.keepIn K (.ref f) = true)
    (b : ∀ (kV doc pm : Value) (an : Option Addr) (cdv ct : Value) (us : List Value), us.length = ps.length → bindArgs (PySem.W.fnOf x qual (defArgs st) (defBody st) (defScope st) .none kV doc pm an cdv ct) ⟨us, []⟩ = pure (ps.zip us)) : Fx P K mg x qual st ps :=
  ⟨f, _, fun_mk l c k, PySem.W.mg_of X G a, (fun_mk l c k).binds b⟩
/-- a method's text in a class's -/
def inCls (s : Stmt) (j : Nat) : Stmt := match s with
  | .ClassDef _ _ _ b _ _ _ _ _ _ _ => b.getD j (.Pass ⟨0, 0, 0, 0⟩)
  | _ => .Pass ⟨0, 0, 0, 0⟩
theorem ext1 (X : K.In h) (G : h.Ns mainGlobals mg) {x qual fl : Str} {st : Stmt} {C f : Addr} {oc : Value} {od an : Option Addr} {osl : Array (Option Value)} {kV doc pm cdv ct : Value}
    {nm qn : Str} {N : Addr} {bs bm : List Value} {sn : List Str} {sub : List Value} {ab : Bool} {col : Option Bool} {dd : Option Addr} {m0 m1 m2 m3 m5 : Option Value}
    (a : PySem.W.nsIn K mainGlobals x = some (some (.ref C))) (xL : K.lookup C = some (excClassObj nm qn C N bs bm true sn sub ab col dd m0 m1 m2 m3 m5 "ValueError.__new__")) (rv : PySem.HandSPX.refsVE bm = true)
    (sa : PySem.W.findIn K (.ref C) "__setattr__" = some (some (.builtin "object.__setattr__"))) (ga : PySem.W.findIn K (.ref C) "__getattribute__" = some (some (.builtin "BaseException.__getattribute__"))) (gg : PySem.W.findIn K (.ref C) "__getattr__" = some none)
    (n1 : PySem.W.findIn K (.ref C) fl = some none) (iC : PySem.W.findIn K (.ref C) "__init__" = some (some (.ref f))) (tI : PySem.W.typeIn K (.ref f) = some (.type "function"))
    (l : K.lookup f = some ⟨oc, od, .func (PySem.W.fnOf "__init__" qual (defArgs st) (defBody st) (defScope st) .none kV doc pm an cdv ct), osl⟩) (c : PySem.W.codeIn K cdv qual = true) (k : PySem.W.keepIn K (.ref f) = true)
    (kC : PySem.W.keepIn K (.ref C) = true) (eC : PySem.W.subIn K (.ref C) (.type "BaseException") = some true) (tC : PySem.W.typeIn K (.ref C) = some (.type "type")) (hC : PySem.W.hasDictIn K C = true)
    (S : FnScope [("self" : Str), fl] [("self" : Str), fl] (defScope st))
    (b : ∀ (kV doc pm : Value) (an : Option Addr) (cdv ct : Value) (us : List Value), us.length = [("self" : Str), fl].length → bindArgs (PySem.W.fnOf "__init__" qual (defArgs st) (defBody st) (defScope st) .none kV doc pm an cdv ct) ⟨us, []⟩ = pure ([("self" : Str), fl].zip us))
    (body : ∀ (base : Heap) (cdv : Value) (A : Around) (outer : List Env) (s : Shared) (H : Hp) (E : XK), PSs (cxOf CX0 P w K mg base [("self" : Str), fl] qual (defScope st) f cdv A outer s H E).nox (defBody st) (tOst K fl (tVar 0) (tVar 1))) :
    ∀ base : Heap, ExT P w K mg base x [fl] C := by
  intro base
  have o : OexC K C := ⟨⟨nm, qn, N, bs, bm, sn, sub, ab, col, dd, m0, m1, m2, m3, m5, xL, rv⟩, sa, eC, tC, kC⟩
  refine ⟨PySem.W.mg_of X G a, o, ⟨ga, gg, eC, hC⟩, fun g hg => ?_, f, _, iC, tI, init1 (fun_mk l c k) S o n1 (body base), (fun_mk l c k).binds b⟩
  rw [List.mem_singleton] at hg
  subst hg
  exact n1
theorem ext3 (X : K.In h) (G : h.Ns mainGlobals mg) {x qual f1 f2 f3 : Str} {st : Stmt} {C f : Addr} {oc : Value} {od an : Option Addr} {osl : Array (Option Value)} {kV doc pm cdv ct : Value}
    {nm qn : Str} {N : Addr} {bs bm : List Value} {sn : List Str} {sub : List Value} {ab : Bool} {col : Option Bool} {dd : Option Addr} {m0 m1 m2 m3 m5 : Option Value}
    (a : PySem.W.nsIn K mainGlobals x = some (some (.ref C))) (xL : K.lookup C = some (excClassObj nm qn C N bs bm true sn sub ab col dd m0 m1 m2 m3 m5 "ValueError.__new__")) (rv : PySem.HandSPX.refsVE bm = true)
    (sa : PySem.W.findIn K (.ref C) "__setattr__" = some (some (.builtin "object.__setattr__"))) (ga : PySem.W.findIn K (.ref C) "__getattribute__" = some (some (.builtin "BaseException.__getattribute__"))) (gg : PySem.W.findIn K (.ref C) "__getattr__" = some none)
    (n1 : PySem.W.findIn K (.ref C) f1 = some none) (n2 : PySem.W.findIn K (.ref C) f2 = some none) (n3 : PySem.W.findIn K (.ref C) f3 = some none) (iC : PySem.W.findIn K (.ref C) "__init__" = some (some (.ref f))) (tI : PySem.W.typeIn K (.ref f) = some (.type "function"))
    (l : K.lookup f = some ⟨oc, od, .func (PySem.W.fnOf "__init__" qual (defArgs st) (defBody st) (defScope st) .none kV doc pm an cdv ct), osl⟩) (c : PySem.W.codeIn K cdv qual = true) (k : PySem.W.keepIn K (.ref f) = true)
    (kC : PySem.W.keepIn K (.ref C) = true) (eC : PySem.W.subIn K (.ref C) (.type "BaseException") = some true) (tC : PySem.W.typeIn K (.ref C) = some (.type "type")) (hC : PySem.W.hasDictIn K C = true)
    (S : FnScope [("self" : Str), f1, f2, f3] [("self" : Str), f1, f2, f3] (defScope st))
    (b : ∀ (kV doc pm : Value) (an : Option Addr) (cdv ct : Value) (us : List Value), us.length = [("self" : Str), f1, f2, f3].length → bindArgs (PySem.W.fnOf "__init__" qual (defArgs st) (defBody st) (defScope st) .none kV doc pm an cdv ct) ⟨us, []⟩ = pure ([("self" : Str), f1, f2, f3].zip us))
    (body : ∀ (base : Heap) (cdv : Value) (A : Around) (outer : List Env) (s : Shared) (H : Hp) (E : XK), PSs (cxOf CX0 P w K mg base [("self" : Str), f1, f2, f3] qual (defScope st) f cdv A outer s H E).nox (defBody st) (tSeq (tOst K f1 (tVar 0) (tVar 1)) (tSeq (tOst K f2 (tVar 0) (tVar 2)) (tOst K f3 (tVar 0) (tVar 3))))) :
    ∀ base : Heap, ExT P w K mg base x [f1, f2, f3] C := by
  intro base
  have o : OexC K C := ⟨⟨nm, qn, N, bs, bm, sn, sub, ab, col, dd, m0, m1, m2, m3, m5, xL, rv⟩, sa, eC, tC, kC⟩
  refine ⟨PySem.W.mg_of X G a, o, ⟨ga, gg, eC, hC⟩, fun g hg => ?_, f, _, iC, tI, init3 (fun_mk l c k) S o n1 n2 n3 (body base), (fun_mk l c k).binds b⟩
  simp only [List.mem_cons, List.not_mem_nil, or_false] at hg
  rcases hg with e | e | e <;> subst e
  · exact n1
  · exact n2
  · exact n3
end
theorem cx_false {P : Program} {w : World} {H : Hp} {s : Shared} {e : Value} {s' : Shared} (h : L2.CX P w [] H s (fun _ _ _ => False) e s') : False := by
  unfold L2.CX at h
  obtain ⟨_, _, _, _, _, _, h⟩ := h
  simp_all
theorem ctup_mk {K : PySem.W.Frag} {h : Heap} {mg : Str → Option Value} (X : K.In h) (G : h.Ns mainGlobals mg) {x : Str} {p : Addr} {o : Obj} {its : Array Value} {n : Nat} {vs : List V} {ds : List D} (a : PySem.W.nsIn K mainGlobals x = some (some (.ref p))) (l : K.lookup p = some o) (hc : o.cls = .type "tuple") (hd : o.data = .seq its n)
    (hz : its.size ≤ sizeLine) (hv : Vals vs its.toList) (r : ∀ G : Hp, Reps K G vs ds) : ∃ p, mg x = some (.ref p) ∧ ∀ G : Hp, Rep K G (.ref p) (.tup ds) :=
  ⟨p, PySem.W.mg_of X G a, fun G => .tup (.inr ⟨o, its, n, l, hc, hd, hz, hv⟩) (r G)⟩
theorem cint_mk {K : PySem.W.Frag} {h : Heap} {mg : Str → Option Value} (X : K.In h) (G : h.Ns mainGlobals mg) {x : Str} {i : Int} {v : Value} {t : _} (a : PySem.W.nsIn K mainGlobals x = some (some v)) (e : v = .int i t) : ∃ t, mg x = some (.int i t) := ⟨t, e ▸ PySem.W.mg_of X G a⟩
theorem cstr_mk {K : PySem.W.Frag} {h : Heap} {mg : Str → Option Value} (X : K.In h) (G : h.Ns mainGlobals mg) {x z : Str} {v : Value} {t : _} (a : PySem.W.nsIn K mainGlobals x = some (some v)) (e : v = .str z t) : ∃ t, mg x = some (.str z t) := ⟨t, e ▸ PySem.W.mg_of X G a⟩
/-- what a law is asked -/
def spLaw (K : PySem.W.Frag) : Sp := fun vs H Q _ => ∃ (a : Addr) (ns : List Int), vs = [.ref a] ∧ SqL K H a (ns.map V.int) ∧ ns.length ≤ 63 ∧ ∀ H', Q (.bl true) H'
theorem law_sp {K : PySem.W.Frag} {mg : Str → Option Value} {m : List D → Res RV} (hm : ∀ ns : List Int, ns.length ≤ 63 → m [.scr ns] = .ok (.sh (.bl true))) {vs : List V} {H : Hp} {Q : VK} {E : XK} (h : spLaw K vs H Q E) : spOf K mg 1 m vs H Q E := by
  obtain ⟨a, ns, rfl, hS, hl, q⟩ := h
  refine ⟨rfl, H, [.scr ns], Same.refl _, .cons (.scr hS) .nil, ?_⟩
  rw [hm ns hl]
  exact fun v G' H' g r => by cases r; exact q H'
theorem end_law {P : Program} {w : World} {K : PySem.W.Frag} {mg : Str → Option Value} {h : Heap} {fa : Addr} (X : K.In h) (G : h.Ns mainGlobals mg) (hfa : mg "law" = some (.ref fa)) {st : Stmt} {f : Addr} {oc : Value} {od an : Option Addr} {osl : Array (Option Value)} {kV doc pm cdv ct : Value}
    {k : Nat} {m : List D → Res RV} (hmT : ∀ ns : List Int, ns.length ≤ 63 → m [.scr ns] = .ok (.sh (.bl true)))
    (a : PySem.W.nsIn K mainGlobals "law" = some (some (.ref f))) (l : K.lookup f = some ⟨oc, od, .func (PySem.W.fnOf "law" "law" (defArgs st) (defBody st) (defScope st) .none kV doc pm an cdv ct), osl⟩) (c : PySem.W.codeIn K cdv "law" = true) (kp : PySem.W.keepIn K (.ref f) = true)
    (b : ∀ (s : Shared) (u : Value), BindsTo s (PySem.W.fnOf "law" "law" (defArgs st) (defBody st) (defScope st) .none kV doc pm an cdv ct) ⟨[u], []⟩ [("script", u)])
    (ok : ∀ (base : Heap) (f : Addr) (fd : FuncData), Fun K "law" "law" st f fd → FnOk P w K mg base (L2.CX P w) k f fd ["script"] (spOf K mg 1 m)) :
    ∃ fd : FuncData, (∀ (s : Shared) (u : Value), BindsTo s fd ⟨[u], []⟩ [("script", u)]) ∧ ∀ base : Heap, K.In base → base.Ns mainGlobals mg → FnOk P w K mg base (L2.CX P w) k fa fd ["script"] (spLaw K) := by
  have e := hfa.symm.trans (PySem.W.mg_of X G a)
  cases e
  exact ⟨_, b, fun base _ _ => (ok base _ _ (fun_mk l c kp)).imp fun vs H Q E h => law_sp hmT h⟩
/-! the same, K told by a fact of it -/
abbrev FxK {K : PySem.W.Frag} {h : Heap} (_ : K.In h) (P : Program) (mg : Str → Option Value) (x qual : Str) (st : Stmt) (ps : List Str) : Prop := Fx P K mg x qual st ps
abbrev CtK {K : PySem.W.Frag} {h : Heap} (_ : K.In h) (mg : Str → Option Value) (x : Str) (d : D) : Prop := ∃ p, mg x = some (.ref p) ∧ ∀ G : Hp, Rep K G (.ref p) d
abbrev ExtK {K : PySem.W.Frag} {h : Heap} (_ : K.In h) (P : Program) (w : World) (mg : Str → Option Value) (x : Str) (fl : List Str) (C : Addr) : Prop := ∀ base : Heap, ExT P w K mg base x fl C
abbrev ExmK {K : PySem.W.Frag} {h : Heap} (_ : K.In h) (A C : Addr) (b : Bool) : Prop := PySem.W.exmOne K (.ref A) (.ref C) = some b
end PL

set_option maxRecDepth 100000
set_option maxHeartbeats 1000000
namespace PL
open PySem PySem.Spec PyProof.Rows L2
/-! ## texts joined and split -/
def strsOf : List D → Option (List Str)
  | [] => some []
  | .str s :: ds => (strsOf ds).map (s :: ·)
  | _ :: _ => none
def joinD (a : Str) : D → Res D
  | .lst xs => (match strsOf xs with | some ys => gd ((ys.map (·.length)).sum + ys.length * a.length ≤ 16777216) (.ok (.str (Txt.join a ys))) | none => .stuck)
  | .tup xs => (match strsOf xs with | some ys => gd ((ys.map (·.length)).sum + ys.length * a.length ≤ 16777216) (.ok (.str (Txt.join a ys))) | none => .stuck)
  | _ => .stuck
def splitO (a : Str) : D → Res (List D)
  | .str b => gd ((b.length == 0) = false ∧ a.length + 2 ≤ sizeLine) (.ok ((Txt.split a b).map .str))
  | _ => .stuck
/-- a text's method with one argument -/
def strM {α : Type} (o : Str → D → Res α) (f g : En → Res D) : En → Res α := fun ρ => (f ρ).bind fun x => match x with | .str s => (g ρ).bind fun y => o s y | _ => .stuck
theorem strsOf_reps {K : PySem.W.Frag} {G : Hp} : ∀ {ds : List D} {vs : List V} {ys : List Str}, strsOf ds = some ys → Reps K G vs ds → vs = ys.map V.str
  | [], _, _, h, .nil => by cases h; rfl
  | .str s :: ds, _, ys, h, .cons (.str _) r => by
    unfold strsOf at h
    cases e : strsOf ds with
    | none => rw [e] at h; cases h
    | some zs =>
      rw [e] at h; cases h
      rw [strsOf_reps e r]; rfl
theorem reps_strs {K : PySem.W.Frag} {G : Hp} : ∀ ys : List Str, Reps K G (ys.map V.str) (ys.map D.str)
  | [] => .nil
  | y :: ys => .cons (.str y) (reps_strs ys)
section
variable {X : Cx} {a : Amb} {e b : Expr} {f g : En → Res D} {pos apos : Pos}
theorem d_join (hf : PE X e (tD X.K X.mg a f)) (hg : PE X b (tD X.K X.mg a g)) (hs : starEach [b] X.env = [(false, eval b X.env)] := by rfl) (hbase : attributeBase e "join" X.env (eval e X.env) = eval e X.env := by rfl) (hline : (apos.endLine == pos.line) = true := by rfl) :
    PE X (.Call (.Attribute e "join" apos) [b] [] pos) (tD X.K X.mg a (strM joinD f g)) :=
  (pe_join hf hg hs hbase hline).imp fun σ H Q ⟨ρ, G, hR, q⟩ => ⟨ρ, G, hR, (PostE.bind q).imp fun x _ q1 v G1 H1 g1 r1 => by
    cases r1 with
    | str s =>
      refine ⟨⟨_, rfl⟩, ρ, G1, R.grow hR g1, ((PostE.bind q1).grow g1).imp fun y _ q2 u G2 H2 g2 r2 => ?_⟩
      cases r2 with
      | @lst p vs ds h1 r =>
        cases hz : strsOf ds with
        | none => simp only [joinD, hz] at q2; exact q2.elim
        | some ys =>
          simp only [joinD, hz] at q2
          obtain ⟨hl, q3⟩ := PostE.gd q2
          have := strsOf_reps hz r
          subst this
          exact ⟨s, p, ys, rfl, rfl, .inl (SqL.of (g2.s _ _ h1)), hl, q3 _ G2 H2 (g1.trans g2) (.str _)⟩
      | @tup p vs ds h1 r =>
        cases hz : strsOf ds with
        | none => simp only [joinD, hz] at q2; exact q2.elim
        | some ys =>
          simp only [joinD, hz] at q2
          obtain ⟨hl, q3⟩ := PostE.gd q2
          have := strsOf_reps hz r
          subst this
          exact ⟨s, p, ys, rfl, rfl, .inr (same_tup g2.s h1), hl, q3 _ G2 H2 (g1.trans g2) (.str _)⟩
      | _ => exact q2.elim
    | _ => exact q1.elim⟩
theorem o_split (hf : PE X e (tD X.K X.mg a f)) (hg : PE X b (tD X.K X.mg a g)) (hs : starEach [b] X.env = [(false, eval b X.env)] := by rfl) (hbase : attributeBase e "split" X.env (eval e X.env) = eval e X.env := by rfl) (hline : (apos.endLine == pos.line) = true := by rfl) :
    PE X (.Call (.Attribute e "split" apos) [b] [] pos) (tO X.K X.mg a (strM splitO f g)) :=
  (pe_split hf hg hs hbase hline).imp fun σ H Q ⟨ρ, G, hR, q⟩ => ⟨ρ, G, hR, (PostE.bind q).imp fun x _ q1 v G1 H1 g1 r1 => by
    cases r1 with
    | str s =>
      refine ⟨⟨_, rfl⟩, ρ, G1, R.grow hR g1, ((PostE.bind q1).grow g1).imp fun y _ q2 u G2 H2 g2 r2 => ?_⟩
      cases r2 with
      | str t =>
        obtain ⟨⟨hz, hl⟩, q3⟩ := PostE.gd q2
        exact ⟨s, t, rfl, rfl, hz, hl, fun p hp => q3 p _ G2 _ ((g1.trans g2).trans (Grow.own g2.s hp)) ((g1.trans g2).h.free hp) (g2.s.free hp) upd_same (reps_strs _)⟩
      | _ => exact q2.elim
    | _ => exact q1.elim⟩
end
/-! ## sum, all, any of a list -/
def intsOf : List D → Option (List Int)
  | [] => some []
  | .int s :: ds => (intsOf ds).map (s :: ·)
  | _ :: _ => none
def blsOf : List D → Option (List Bool)
  | [] => some []
  | .bl s :: ds => (blsOf ds).map (s :: ·)
  | _ :: _ => none
def sumL : List D → Res D | [.lst xs] => (match intsOf xs with | some ns => .ok (.int ns.sum) | none => .stuck) | _ => .stuck
def allL : List D → Res D | [.lst xs] => (match blsOf xs with | some ns => .ok (.bl (ns.all id)) | none => .stuck) | _ => .stuck
theorem intsOf_reps {K : PySem.W.Frag} {G : Hp} : ∀ {ds : List D} {vs : List V} {ys : List Int}, intsOf ds = some ys → Reps K G vs ds → vs = ys.map V.int
  | [], _, _, h, .nil => by cases h; rfl
  | .int s :: ds, _, ys, h, .cons (.int _) r => by
    unfold intsOf at h
    cases e : intsOf ds with
    | none => rw [e] at h; cases h
    | some zs =>
      rw [e] at h; cases h
      rw [intsOf_reps e r]; rfl
theorem blsOf_reps {K : PySem.W.Frag} {G : Hp} : ∀ {ds : List D} {vs : List V} {ys : List Bool}, blsOf ds = some ys → Reps K G vs ds → vs = ys.map V.bl
  | [], _, _, h, .nil => by cases h; rfl
  | .bl s :: ds, _, ys, h, .cons (.bl _) r => by
    unfold blsOf at h
    cases e : blsOf ds with
    | none => rw [e] at h; cases h
    | some zs =>
      rw [e] at h; cases h
      rw [blsOf_reps e r]; rfl
theorem nox_sum : NoXL sumL := fun xs e h => by
  unfold sumL at h; split at h
  · split at h <;> cases h
  · cases h
theorem nox_all : NoXL allL := fun xs e h => by
  unfold allL at h; split at h
  · split at h <;> cases h
  · cases h
theorem cd_sum {X : Cx} (hc : X.calm = true) : CallD X (.builtin "sum") sumL := ⟨_, cr_sum hc, fun G H vs ds z Q s r h q => by
  unfold sumL at h
  split at h
  · obtain ⟨v, rfl, r1⟩ := reps1 r
    split at h
    · rename_i ns hn
      cases h
      cases r1 with
      | @lst p vs ds h1 rr =>
        have := intsOf_reps hn rr
        subst this
        exact ⟨p, ns, rfl, SqL.of (s _ _ h1), q _ G H (Grow.refl s) (.int _)⟩
    · cases h
  · cases h⟩
theorem cd_all {X : Cx} (hc : X.calm = true) : CallD X (.builtin "all") allL := ⟨_, cr_all hc, fun G H vs ds z Q s r h q => by
  unfold allL at h
  split at h
  · obtain ⟨v, rfl, r1⟩ := reps1 r
    split at h
    · rename_i ns hn
      cases h
      cases r1 with
      | @lst p vs ds h1 rr =>
        have := blsOf_reps hn rr
        subst this
        exact ⟨p, ns, rfl, SqL.of (s _ _ h1), q _ G H (Grow.refl s) (.bl _)⟩
    · cases h
  · cases h⟩
end PL

set_option maxRecDepth 100000
set_option maxHeartbeats 1000000
namespace PL
open PySem PySem.Spec PyProof.Rows L2
/-! ## data of a region of its own: told = f(texts, numbers); tests on told; told[1].append(e) -/
def sclr : D → Bool | .non => true | .bl _ => true | .int _ => true | .str _ => true | _ => false
def isTmp : Sl → Bool | .tmp _ => true | _ => false
/-- no other such slot -/
def noTmp (ρ : En) (i : Nat) : Bool := !(ρ.set i .no).any isTmp
theorem noTmp_at {ρ : En} {i j : Nat} {d : D} (h : noTmp ρ i = true) (hj : j ≠ i) : ρ[j]? ≠ some (.tmp d) := fun e => by
  unfold noTmp at h
  rw [Bool.not_eq_true', List.any_eq_false] at h
  have : (ρ.set i .no)[j]? = some (.tmp d) := by rw [List.getElem?_set_ne (Ne.symm hj)]; exact e
  exact h _ (List.mem_of_getElem? this) rfl
theorem sclr_reps {K : PySem.W.Frag} {G G' : Hp} : ∀ {ds : List D} {vs : List V}, ds.all sclr = true → Reps K G vs ds → Reps K G' vs ds
  | [], _, _, .nil => .nil
  | d :: ds, _, h, .cons r rr => by
    rw [List.all_cons, Bool.and_eq_true] at h
    refine .cons ?_ (sclr_reps h.2 rr)
    cases r with
    | non => exact .non
    | bl b => exact .bl b
    | int b => exact .int b
    | str b => exact .str b
    | _ => exact absurd h.1 (fun z => by cases z)
def no0 : Hp := fun _ => none
/-- i = f(..): the result in a region of its own -/
def sSetT (i : Nat) (m : List D → Res RV) (fs : En → Res (List D)) : En → Out := fun ρ => ofR ρ (fs ρ) fun ds => match m ds with
  | .ok (.sh d) => ofR ρ (gd (noTmp ρ i = true ∧ ds.all sclr = true) (.ok ())) fun _ => .next (ρ.set i (.tmp d))
  | _ => .stuck
theorem R.setTmp {K : PySem.W.Frag} {G0 H0 G H T : Hp} {ρ : En} {σ : L2.St} (r : R K G0 H0 ρ σ G H) (i : Nat) {v : V} {d : D} (hn : noTmp ρ i = true) (hT : ∀ b x, T b = some x → G b = none ∧ H0 b = none ∧ H b = some x) (q : Rep K T v d)
    (ho : ∀ (j : Nat) (ob : OB) (l : Addr), ρ[j]? = some (.ow ob) → σ[j]? = some (some (.ref l)) → T l = none) : R K G0 H0 (ρ.set i (.tmp d)) (σ.set i (some v)) G H := by
  refine ⟨r.gr, by simp [r.len], fun j s e => ?_, fun j k ys zs hn e1 e2 => ?_, T, hT, fun j d2 e => ?_, fun j ob l e e2 => ?_⟩
  · rcases get_set e with ⟨rfl, rfl, l'⟩ | ⟨ne, e⟩
    · exact ⟨some v, List.getElem?_set_self (by rw [← r.len]; exact l'), trivial⟩
    · rw [List.getElem?_set_ne (Ne.symm ne)]; exact r.slot j s e
  · rcases get_set e1 with ⟨_, z, _⟩ | ⟨n1, e1⟩
    · cases z
    · rcases get_set e2 with ⟨_, z, _⟩ | ⟨n2, e2⟩
      · cases z
      · rw [List.getElem?_set_ne (Ne.symm n1), List.getElem?_set_ne (Ne.symm n2)]; exact r.dis j k ys zs hn e1 e2
  · rcases get_set e with ⟨rfl, z, l'⟩ | ⟨ne, e⟩
    · cases z
      exact ⟨v, List.getElem?_set_self (by rw [← r.len]; exact l'), q⟩
    · exact absurd e (noTmp_at hn ne)
  · rcases get_set e with ⟨_, z, _⟩ | ⟨n, e⟩
    · cases z
    · rw [List.getElem?_set_ne (Ne.symm n)] at e2; exact ho j ob l e e2
section
variable {X : Cx} {a : Amb} {e : Expr} {es : List Expr} {fs : En → Res (List D)} {pos p py pos2 : Pos} {x y : Str} {k k' : Nat} {ps : List Str} {m : List D → Res RV}
theorem s_setT (i : Nat) (F : FnP X.prog X.w X.K X.mg X.base k' x ps m) (c : GE k X a) (hk : k' ≤ k) (hl : (e :: es).length = ps.length) (ha : PA X (e :: es) (tA X.K X.mg a fs)) (hfl : ∀ ρ ds, fs ρ = .ok ds → ds.length = (e :: es).length)
    (hg : Gl X x := by rfl) (hdb : (x == ("__debug__" : Str)) = false := by decide) (he : starEach (e :: es) X.env = (false, eval e X.env) :: starEach es X.env := by rfl) (hpl : (backTo pos (starEach es X.env)).any (·.1) = false := by rfl)
    (hN : X.N[i]? = some y := by rfl) (hx : Loc X.env.scope y := by first | exact Or.inl rfl | exact Or.inr rfl) (hfn : X.fn y = true ∨ X.env.scope.names.lookup y = some .local := by first | exact .inl rfl | exact .inr rfl)
    (hs : swapsWith (.Call (.Name x p) (e :: es) [] pos) (some (.Name y py)) pos2.line X.env = pure false := by rfl) :
    PS X (.Assign [.Name y py] (.Call (.Name x p) (e :: es) [] pos) pos2) (tS X.K X.mg a (sSetT i m fs)) := by
  obtain ⟨f, fd, F1, hm, hkp, hb⟩ := F.ex
  refine (ps_set c.nd hN hx (pe_callS F1 (c.hr.mono hk) hg hm hkp hb (fun σ => passAt c.tk σ) ha hdb he hpl) hs hfn).imp fun Dn σ H ⟨ρ, G, hR, q⟩ => ⟨ρ, G, hR, (ofR_post hR q).imp fun ds ed q1 vs G' H' g r => ?_⟩
  cases h : m ds with
  | stuck => simp only [h] at q1; exact q1.elim
  | exc ex => simp only [h] at q1; exact q1.elim
  | ok rv =>
    cases rv with
    | ow xs => simp only [h] at q1; exact q1.elim
    | sh d =>
      simp only [h] at q1
      obtain ⟨⟨hn, hs⟩, q1⟩ := gd_post q1
      refine ⟨by rw [r.len, hfl ρ ds ed, hl], no0, ds, (fun b x e => by cases e), sclr_reps hs r, ?_⟩
      simp only [h]
      intro v T H2 g2 r2
      have hR1 : R X.K a.G0 a.H0 ρ σ G' H' := R.grow hR g
      have free : ∀ b z, T b = some z → H' b = none := fun b z e => by
        cases e2 : H' b with
        | none => rfl
        | some o => have := g2.f b rfl (by rw [e2]; simp); rw [this] at e; cases e
      have hR2 : R X.K a.G0 a.H0 ρ σ G' H2 := R.grow hR1 ⟨Same.refl _, g2.h, g.s.trans g2.h, fun _ h _ => h⟩
      refine q1 _ G' H2 (R.setTmp hR2 i hn (fun b z e => ⟨g.s.free (free b z e), ?_, g2.s b z e⟩) r2 fun j ob l e1 e2 => ?_) g.g
      · exact hR1.gr.h.free (free b z e)
      · obtain ⟨l', ho, e3, _, _, e4, _⟩ := hR1.ow e1
        rw [e2] at e3
        cases e3
        cases e5 : T l with
        | none => rfl
        | some z => rw [free l z e5] at e4; cases e4
end
/-- a test on it -/
def tmpT (i : Nat) (t : En → Res Bool) : En → Res Bool := fun ρ => match ρ[i]? with
  | some (.tmp d) => (match t (ρ.set i (.sh d)) with | .ok b => gd (noTmp ρ i = true) (.ok b) | _ => .stuck)
  | _ => .stuck
def join2 (G T : Hp) : Hp := fun b => match G b with | some x => some x | none => T b
theorem join2_l {G T : Hp} : Same G (join2 G T) := fun b x e => by unfold join2; rw [e]
theorem join2_r {G T : Hp} (h : ∀ b x, T b = some x → G b = none) : Same T (join2 G T) := fun b x e => by unfold join2; rw [h b x e]; exact e
theorem join2_none {G T : Hp} {b : Addr} (h : G b = none) (h2 : T b = none) : join2 G T b = none := by unfold join2; rw [h]; exact h2
theorem R.lend {K : PySem.W.Frag} {G0 H0 G H : Hp} {ρ : En} {σ : L2.St} (r : R K G0 H0 ρ σ G H) {i : Nat} {d : D} (hn : noTmp ρ i = true) (h : ρ[i]? = some (.tmp d)) : ∃ T, Same G (join2 G T) ∧ R K G0 H0 (ρ.set i (.sh d)) σ (join2 G T) H := by
  obtain ⟨T, t⟩ := r.tm
  obtain ⟨v, e1, q⟩ := t.rep i d h
  have sT : Same T (join2 G T) := join2_r fun b x e => (t.at_ b x e).1
  have sH : Same (join2 G T) H := fun b x e => by
    unfold join2 at e
    cases e2 : G b with
    | some z => rw [e2] at e; cases e; exact r.sub b _ e2
    | none => rw [e2] at e; exact (t.at_ b x e).2.2
  refine ⟨T, join2_l, ⟨r.gr.g.trans join2_l, r.gr.h, sH, fun b h1 h2 => join2_none (r.gr.f b h1 h2) ?_⟩, by simp [r.len], fun j s e => ?_, fun j k ys zs hne e1 e2 => ?_, no0, fun b x e => by (cases e), fun j d2 e => ?_, fun _ _ _ _ _ => rfl⟩
  · cases e : T b with
    | none => rfl
    | some z => exact absurd (t.at_ b z e).2.1 h2
  · rcases get_set e with ⟨rfl, rfl, l'⟩ | ⟨ne, e⟩
    · exact ⟨some v, e1, v, rfl, Rep.mono sT _ _ q⟩
    · obtain ⟨o, e2, q2⟩ := r.slot j s e
      refine ⟨o, e2, ?_⟩
      cases s with
      | no => trivial
      | tmp d => trivial
      | sh d => obtain ⟨v, a, b⟩ := q2; exact ⟨v, a, Rep.mono join2_l _ _ b⟩
      | ow ys =>
        obtain ⟨l2, vs2, a, b, c, d, f⟩ := q2
        exact ⟨l2, vs2, a, b, join2_none c (t.dis j ys l2 e (by rw [e2, a])), d, RepO.mono join2_l f⟩
  · rcases get_set e1 with ⟨_, z, _⟩ | ⟨n1, e1⟩
    · cases z
    · rcases get_set e2 with ⟨_, z, _⟩ | ⟨n2, e2⟩
      · cases z
      · exact r.dis j k ys zs hne e1 e2
  · rcases get_set e with ⟨_, z, _⟩ | ⟨n, e⟩
    · cases z
    · exact absurd e (noTmp_at hn n)
section
variable {X : Cx} {a : Amb} {e : Expr}
theorem t_tmp {t : En → Res Bool} (i : Nat) (h : PT X e (tT X.K X.mg a t)) : PT X e (tT X.K X.mg a (tmpT i t)) :=
  h.imp fun σ H Q ⟨ρ, G, hR, q⟩ => by
    unfold tmpT at q
    cases hx : ρ[i]? with
    | none => rw [hx] at q; exact q.elim
    | some s => cases s with
      | no => rw [hx] at q; exact q.elim
      | sh _ => rw [hx] at q; exact q.elim
      | ow _ => rw [hx] at q; exact q.elim
      | tmp d =>
        simp only [hx] at q
        cases hf : t (ρ.set i (.sh d)) with
        | stuck => simp only [hf] at q; exact q.elim
        | exc ex => simp only [hf] at q; exact q.elim
        | ok b =>
          simp only [hf] at q
          obtain ⟨hn, q⟩ := PostE.gd q
          obtain ⟨T, sg, hR'⟩ := R.lend hR hn hx
          refine ⟨ρ.set i (.sh d), _, hR', ?_⟩
          simp only [hf]
          exact fun G' H' g' => q G H' ⟨Same.refl _, g'.h, (R.sub hR).trans g'.h, fun _ h _ => h⟩
end
theorem R.letgo {K : PySem.W.Frag} {G0 H0 G H T : Hp} {ρ : En} {σ : L2.St} (r : R K G0 H0 ρ σ G H) (t : Tm K H0 ρ σ G H T) {i : Nat} {l : Addr} {o1 o2 : HO} (hn : noTmp ρ i = true) (hl : T l = some o1) : R K G0 H0 (ρ.set i .no) σ G (upd H l o2) := by
  obtain ⟨a1, a2, a3⟩ := t.at_ l _ hl
  refine ⟨⟨r.gr.g, fun b x e => ?_, fun b x e => ?_, fun b h1 h2 => r.gr.f b h1 h2⟩, by simp [r.len], fun j s e => ?_, fun j k ys zs hne e1 e2 => ?_, no0, fun b x e => by (cases e), fun j d2 e => ?_, fun _ _ _ _ _ => rfl⟩
  · rw [upd_ne (ne_of_none e a2)]; exact r.gr.h b x e
  · rw [upd_ne (ne_of_none e a1)]; exact r.gr.s b x e
  · rcases get_set e with ⟨rfl, rfl, l'⟩ | ⟨ne, e⟩
    · obtain ⟨o, e2, _⟩ := r.slot j ρ[j] (List.getElem?_eq_getElem l')
      exact ⟨o, e2, trivial⟩
    · obtain ⟨o, e2, q2⟩ := r.slot j s e
      refine ⟨o, e2, ?_⟩
      cases s with
      | no => trivial
      | tmp d => trivial
      | sh d => exact q2
      | ow ys =>
        obtain ⟨l2, vs2, a, b, c, d, f⟩ := q2
        have : l2 ≠ l := fun z => by
          have := t.dis j ys l2 e (by rw [e2, a])
          rw [z, hl] at this; cases this
        exact ⟨l2, vs2, a, b, c, by rw [upd_ne this]; exact d, f⟩
  · rcases get_set e1 with ⟨_, z, _⟩ | ⟨n1, e1⟩
    · cases z
    · rcases get_set e2 with ⟨_, z, _⟩ | ⟨n2, e2⟩
      · cases z
      · exact r.dis j k ys zs hne e1 e2
  · rcases get_set e with ⟨_, z, _⟩ | ⟨n, e⟩
    · cases z
    · exact absurd e (noTmp_at hn n)
section
variable {X : Cx} {a : Amb} {e : Expr}
/-- told[1].append(e), and told is not looked at again -/
def sAppT (i : Nat) (f : En → Res D) : En → Out := fun ρ => match ρ[i]? with
  | some (.tmp (.tup [_, .lst xs])) => ofR ρ (f ρ) fun _ => ofR ρ (gd (noTmp ρ i = true ∧ xs.length < sizeLine) (.ok ())) fun _ => .next (ρ.set i .no)
  | _ => .stuck
theorem s_appT {f : En → Res D} {x : Str} {p p2 apos pos pos2 : Pos} {j : Nat} (i : Nat) (h : PE X e (tD X.K X.mg a f)) (hN : X.N[i]? = some x := by rfl) (hv : Vis X.env.scope x := by first | exact Or.inl rfl | exact Or.inr (Or.inl rfl) | exact Or.inr (Or.inr rfl)) (hd : (x == ("__debug__" : Str)) = false := by decide) (hcd : (x == ("__classdict__" : Str)) = false := by decide)
    (hsw : swapsWith (.Call (.Attribute (.Subscript (.Name x p) (.Constant (.int 1) j p2) pos) "append" apos) [e] [] pos2) none pos2.line X.env = pure false := by rfl)
    (hbase : attributeBase (.Subscript (.Name x p) (.Constant (.int 1) j p2) pos) "append" X.env (eval (.Subscript (.Name x p) (.Constant (.int 1) j p2) pos) X.env) = eval (.Subscript (.Name x p) (.Constant (.int 1) j p2) pos) X.env := by rfl)
    (hfew : ((backTo pos2 (starEach (e :: []) X.env)).all (fun x => !x.1) && (backToKw pos2 (keywordEach [] X.env)).all (fun x => x.1.isSome) && decide ((e :: ([] : List Expr)).length + ([] : List Keyword).length + (if ([] : List Keyword).isEmpty then 0 else 1) < 30)) = true := by rfl)
    (hline : (apos.endLine == pos2.line) = true := by rfl) (hs : starEach (e :: []) X.env = (false, eval e X.env) :: starEach [] X.env := by rfl) (hplain : (backTo pos2 (starEach [] X.env)).any (·.1) = false := by rfl) :
    PS X (.Expr (.Call (.Attribute (.Subscript (.Name x p) (.Constant (.int 1) j p2) pos) "append" apos) [e] [] pos2) pos2) (tS X.K X.mg a (sAppT i f)) :=
  (ps_expr (pe_bm PySem.F.plainAttrs_list PySem.F.slot_list_append PySem.F.type_list_append mt_append (pe_ix ix_seq (pe_var hN hv hd hcd) pe_int (fun _ _ => rfl)) (pa_cons h pa_nil hs) hbase hfew hline hs hplain) hsw).imp fun Dn σ H ⟨ρ, G, hR, q⟩ => by
    unfold sAppT at q
    split at q
    · rename_i x0 xs hx
      obtain ⟨T, t⟩ := hR.tm
      obtain ⟨v, e1, r⟩ := t.rep i _ hx
      cases r with
      | @tup pp vs ds hp rr => cases rr with
        | cons r0 rr => cases rr with
          | cons r1 rr => cases rr with
            | nil => cases r1 with
              | @lst l us ds hl rl =>
                obtain ⟨a1, a2, a3⟩ := t.at_ l _ hl
                have sTH : Same T H := fun b x e => (t.at_ b x e).2.2
                refine ⟨.ref pp, e1, .inr (.inl ⟨pp, _, 1, .ref l, rfl, rfl, same_tup sTH hp, rfl, Or.inl ⟨rfl, us, SqL.of a3⟩, ρ, G, hR, (ofR_post hR q).imp fun d _ q1 v G' H' gr rd => ?_⟩)⟩
                obtain ⟨⟨hn, hz⟩, q1⟩ := gd_post q1
                refine ⟨l, us, v, rfl, rfl, gr.h _ _ a3, by rw [rl.len]; exact hz, q1 σ G' _ ?_ gr.g⟩
                exact R.letgo (R.grow hR gr) (t.grow gr) hn hl
    · exact q.elim
end
end PL

set_option maxRecDepth 100000
set_option maxHeartbeats 1000000
namespace PL
open PySem PySem.Spec PyProof PyProof.Rows L2
/-! ## v[i] += e on an owned list -/
section
variable {X : Cx}
theorem get_list : PGet X (rIxL X.K) := by
  intro pins s σ H x y v u Q I rx ry h
  obtain ⟨p, xs, i, z, rfl, rfl, hq, he, q⟩ := h
  cases rx
  obtain ⟨t, rfl⟩ := ry
  obtain ⟨its, r, pl, hz⟩ := I.list hq
  obtain ⟨j, h1, h2, h3, h4, h5⟩ := atI_get he
  obtain ⟨w, ew, rw'⟩ := r.get h2
  have hl := r.length
  have hn := line63
  have fin : EP X pins σ Q w s := ⟨z, H, I, rw', q⟩
  by_cases h0 : 0 ≤ i
  · have hj : i.toNat = j := by
      rw [seqIndex_of h0 h5] at h1
      exact Option.some.inj h1
    exact wpAny_getItem_list pl.isList h0 (by omega) (by rw [hj]; simpa using ew) fin
  · have hj : (i + (its.toArray.size : Int)).toNat = j := by
      rw [seqIndex_neg (by omega) h4] at h1
      rw [List.size_toArray, ← hl]
      exact Option.some.inj h1
    exact wpAny_getItem_list_neg pl.isList (by omega) (by rw [List.size_toArray] <;> omega) (by omega) (by rw [hj]; simpa using ew) fin
end
/-- v[f] o= g: ints -/
def sPutAug (i : Nat) (o : Int → Int → Int) (f g : En → Res D) : En → Out := fun ρ => ofR ρ (owL ρ i) fun xs => ofR ρ (f ρ) fun n => match n with
  | .int k => (match L2.ixN xs.length k with
    | some j => (match xs[j]? with
      | some (.int a) => ofR ρ (g ρ) fun d => match d with
        | .int b => .next (setL ρ i (xs.set j (.int (o a b))))
        | _ => .stuck
      | _ => .stuck)
    | none => .stuck)
  | _ => .stuck
section
variable {X : Cx} {a : Amb} {e b : Expr} {f g : En → Res D} {pos p pos2 : Pos} {x : Str}
theorem s_putAug {op : Operator} {o : Int → Int → Int} (ho : PIp X op (ipI o)) (i : Nat) (hf : PE X b (tD X.K X.mg a f)) (hg : PE X e (tD X.K X.mg a g)) (hN : X.N[i]? = some x := by rfl) (hv : Vis X.env.scope x := by first | exact Or.inl rfl | exact Or.inr (Or.inl rfl) | exact Or.inr (Or.inr rfl)) (hd : (x == ("__debug__" : Str)) = false := by decide) (hcd : (x == ("__classdict__" : Str)) = false := by decide)
    (ha : ∀ ov iv new, augStore b ov iv new = (do holding [new, ov, iv] (setItem ov iv new); release [new, ov, iv] []; pure .next) := by intros; rfl) :
    PS X (.AugAssign (.Subscript (.Name x p) b pos) op e pos2) (tS X.K X.mg a (sPutAug i o f g)) :=
  (ps_augS (pe_var hN hv hd hcd) hf get_list hg ho set_list ha).imp fun Dn σ H ⟨ρ, G, hR, q⟩ => by
    obtain ⟨xs, hx, q⟩ := ow_post q
    obtain ⟨l, vs, e1, h0, hg, hh, r⟩ := R.owL hR (owL_eq hx)
    refine ⟨.ref l, e1, ρ, G, hR, (ofR_post hR q).imp fun n _ q1 u G1 H1 g1 r1 => ?_⟩
    cases r1 with
    | int k =>
      simp only at q1
      cases hj : ixN xs.length k with
      | none => simp only [hj] at q1; exact q1.elim
      | some j =>
        simp only [hj] at q1
        cases hd : xs[j]? with
        | none => simp only [hd] at q1; exact q1.elim
        | some dd =>
          cases dd with
          | int av =>
            simp only [hd] at q1
            obtain ⟨v, ev, rv⟩ := Reps.get r hd
            cases rv
            have hR1 := R.grow hR g1
            have ea : L2.atI vs k = some (.int av) := by
              unfold L2.atI
              rw [r.len, hj]
              exact ev
            refine ⟨l, vs, k, .int av, rfl, rfl, SqL.of (g1.h _ _ hh), ea, ρ, G1, hR1, (ofR_post (a := a) hR1 (Post.mono g1.g q1)).imp fun d _ q2 u G2 H2 g2 r2 => ?_⟩
            cases r2 with
            | int bv => exact ⟨av, bv, rfl, rfl, l, vs, k, j, rfl, rfl, g2.h _ _ (g1.h _ _ hh), by rw [r.len]; exact hj, q2 σ G2 _ (R.write (R.grow hR1 g2) (owL_eq hx) e1 (.lst (Reps.set (.int _) _ (Reps.mono (g1.trans g2).g _ _ r)))) g2.g⟩
            | _ => exact q2.elim
          | _ => simp only [hd] at q1; exact q1.elim
    | _ => exact q1.elim
end
end PL

set_option maxRecDepth 100000
set_option maxHeartbeats 1000000
namespace PL
open PySem
theorem bind_ok {α β : Type} (a : α) (f : α → Res β) : (Res.ok a).bind f = f a := Eq.trans rfl rfl
theorem bind_exc {α β : Type} (e : Exc) (f : α → Res β) : (Res.exc e).bind f = .exc e := Eq.trans rfl rfl
theorem bind_stuck {α β : Type} (f : α → Res β) : (Res.stuck : Res α).bind f = .stuck := Eq.trans rfl rfl
theorem ofR_ok {α : Type} (ρ : En) (a : α) (k : α → Out) : ofR ρ (.ok a) k = k a := Eq.trans rfl rfl
theorem ofR_exc {α : Type} (ρ : En) (e : Exc) (k : α → Out) : ofR ρ (.exc e) k = .exc e ρ := Eq.trans rfl rfl
theorem seq_next {f g : En → Out} {ρ ρ' : En} (h : f ρ = .next ρ') : sSeq f g ρ = g ρ' := by unfold sSeq; rw [h]
theorem seq_ret {f g : En → Out} {ρ : En} {r : RV} (h : f ρ = .ret r) : sSeq f g ρ = .ret r := by unfold sSeq; rw [h]
theorem seq_exc {f g : En → Out} {ρ ρ' : En} {e : Exc} (h : f ρ = .exc e ρ') : sSeq f g ρ = .exc e ρ' := by unfold sSeq; rw [h]
theorem for_nil (t : D → En → Res En) (b : En → Out) (ρ : En) : forL t b [] ρ = .next ρ := Eq.trans rfl rfl
theorem for_cons (i : Nat) (b : En → Out) (d : D) (ds : List D) (ρ : En) : forL (gN i) b (d :: ds) ρ = lpO (forL (gN i) b ds) (b (ρ.set i (.sh d))) := Eq.trans rfl rfl
theorem lp_next (k : En → Out) (ρ : En) : lpO k (.next ρ) = k ρ := Eq.trans rfl rfl
theorem lp_ret (k : En → Out) (r : RV) : lpO k (.ret r) = .ret r := Eq.trans rfl rfl
theorem lp_exc (k : En → Out) (e : Exc) (ρ : En) : lpO k (.exc e ρ) = .exc e ρ := Eq.trans rfl rfl
theorem sz (n : Nat) (h : n ≤ 16777216) : n ≤ sizeLine := by rw [sizeLine_eq]; exact h
theorem sz' (n : Nat) (h : n < 16777216) : n < sizeLine := by rw [sizeLine_eq]; exact h
theorem atI_nat {α : Type} (xs : List α) (i : Nat) : L2.atI xs (i : Int) = xs[i]? := by
  unfold L2.atI L2.ixN
  rw [if_pos (by omega)]
  by_cases h : (i : Int) < xs.length
  · rw [if_pos h]; show xs[(i : Int).toNat]? = _; rw [Int.toNat_natCast]
  · rw [if_neg h, List.getElem?_eq_none (by omega)]; rfl
theorem atI_of {α : Type} (xs : List α) (i : Int) (n : Nat) (h : i = n) : L2.atI xs i = xs[n]? := by rw [h, atI_nat]
theorem atI_0 {α : Type} (x : α) (xs : List α) : L2.atI (x :: xs) 0 = some x := atI_of _ 0 0 rfl
theorem atI_1 {α : Type} (x y : α) (xs : List α) : L2.atI (x :: y :: xs) 1 = some y := atI_of _ 1 1 rfl
theorem atI_2 {α : Type} (x y z : α) (xs : List α) : L2.atI (x :: y :: z :: xs) 2 = some z := atI_of _ 2 2 rfl
theorem atI_3 {α : Type} (x y z w : α) (xs : List α) : L2.atI (x :: y :: z :: w :: xs) 3 = some w := atI_of _ 3 3 rfl
theorem eq_int (a b : Int) : eqD (.int a) (.int b) = .ok (.bl (decide (a = b))) := by
  unfold eqD
  rw [gd_pos ⟨rfl, rfl⟩]
  show Res.ok (D.bl (a == b)) = _
  rw [Bool.beq_eq_decide_eq]
theorem ne_int (a b : Int) : neD (.int a) (.int b) = .ok (.bl (!decide (a = b))) := by
  unfold neD
  rw [gd_pos ⟨rfl, rfl⟩]
  show Res.ok (D.bl (!(a == b))) = _
  rw [Bool.beq_eq_decide_eq]
theorem shp_str {a : Str} (h : PyData.strOk a = true) : shp (.str a) = true := by
  unfold shp SeqAt.shaped
  simp [toPy, PyData.canLay0, PyData.depth, h]
theorem eq_str {a b : Str} (h : PyData.strOk a = true) (h2 : PyData.strOk b = true) : eqD (.str a) (.str b) = .ok (.bl (decide (a = b))) := by
  unfold eqD
  rw [gd_pos ⟨shp_str h, shp_str h2⟩]
  show Res.ok (D.bl (a == b)) = _
  rw [Bool.beq_eq_decide_eq]
theorem ne_str {a b : Str} (h : PyData.strOk a = true) (h2 : PyData.strOk b = true) : neD (.str a) (.str b) = .ok (.bl (!decide (a = b))) := by
  unfold neD
  rw [gd_pos ⟨shp_str h, shp_str h2⟩]
  show Res.ok (D.bl (!(a == b))) = _
  rw [Bool.beq_eq_decide_eq]
theorem eq_bl (a b : Bool) : eqD (.bl a) (.bl b) = .ok (.bl (decide (a = b))) := by
  cases a <;> cases b <;> rfl
theorem rng1_nat (n : Nat) (h : n ≤ 1000000000) : rng1 [.int (n : Nat)] = .ok ((List.range n).map fun k => .int ((k : Nat) : Int)) := by
  show gd (-(2 ^ 62) ≤ (n : Int) ∧ (n : Int) < 2 ^ 62) (.ok ((List.range (n : Int).toNat).map fun k => D.int ((k : Nat) : Int))) = _
  rw [gd_pos (by omega), Int.toNat_natCast]
theorem rep_nat (xs : List D) (n : Nat) (h : n ≤ 1000000000) (hz : xs.length * n ≤ 16777216) : repO (.lst xs) (.int (n : Nat)) = .ok (List.replicate n xs).flatten := by
  show gd (-(2 ^ 63) ≤ (n : Int) ∧ (n : Int) < 2 ^ 63 ∧ xs.length * (n : Int).toNat ≤ sizeLine) (.ok (List.replicate (n : Int).toNat xs).flatten) = _
  rw [gd_pos ⟨by omega, by omega, by rw [Int.toNat_natCast]; exact sz _ hz⟩, Int.toNat_natCast]
theorem mul_nat (xs : List D) (n : Nat) (h : n ≤ 1000000000) (hz : xs.length * n ≤ 16777216) : mulD (.lst xs) (.int (n : Nat)) = .ok (.lst (List.replicate n xs).flatten) := by
  show gd (-(2 ^ 63) ≤ (n : Int) ∧ (n : Int) < 2 ^ 63 ∧ xs.length * (n : Int).toNat ≤ sizeLine) (.ok (D.lst (List.replicate (n : Int).toNat xs).flatten)) = _
  rw [gd_pos ⟨by omega, by omega, by rw [Int.toNat_natCast]; exact sz _ hz⟩, Int.toNat_natCast]
theorem add_lst (xs ys : List D) (h : xs.length + ys.length ≤ 16777216) : addD (.lst xs) (.lst ys) = .ok (.lst (xs ++ ys)) := gd_pos (sz _ h)
theorem add_tup (xs ys : List D) (h : xs.length + ys.length ≤ 16777216) : addD (.tup xs) (.tup ys) = .ok (.tup (xs ++ ys)) := gd_pos (sz _ h)
theorem tup_ok (xs : List D) (h : xs.length ≤ 16777216) : tupD xs = .ok (.tup xs) := gd_pos (sz _ h)
theorem lst_ok (xs : List D) (h : xs.length ≤ 16777216) : lstD xs = .ok xs := gd_pos (sz _ h)
theorem len_lst (xs : List D) : lenL [.lst xs] = .ok (.int (xs.length : Nat)) := rfl
theorem len_tup (xs : List D) : lenL [.tup xs] = .ok (.int (xs.length : Nat)) := rfl
theorem rep_one (d : D) (m : Nat) : (List.replicate m [d]).flatten = List.replicate m d := by
  induction m with
  | zero => rfl
  | succ m ih => rw [List.replicate_succ, List.flatten_cons, ih]; rfl
theorem run_of {n : Nat} {b : En → Out} {ds : List D} {env : En} {o : Out} {r : Res RV} (he : start0 n ds = env) (ho : b env = o) (hr : runO o = r) : runF n b ds = r := by subst he; unfold runF; rw [ho]; exact hr
theorem set_eq {i : Nat} {f : En → Res D} {ρ : En} {d : D} (h : f ρ = .ok d) : sSet i f ρ = .next (ρ.set i (.sh d)) := by unfold sSet; rw [h, ofR_ok]
theorem setO_eq {i : Nat} {f : En → Res (List D)} {ρ : En} {d : List D} (h : f ρ = .ok d) : sSetO i f ρ = .next (ρ.set i (.ow (.lst d))) := by unfold sSetO; rw [h, ofR_ok]
theorem for_eq {it : En → Res (List D)} {t : D → En → Res En} {b : En → Out} {ρ : En} {ds : List D} {o : Out} (h : it ρ = .ok ds) (hf : forL t b ds ρ = o) : sFor it t b ρ = o := by unfold sFor; rw [h, ofR_ok]; exact hf
theorem appO_eq {o : List D → Res (List D)} {f : En → Res (List D)} {ρ : En} {ds : List D} {r : Res (List D)} (h : f ρ = .ok ds) (hr : o ds = r) : appO o f ρ = r := by unfold appO; rw [h, bind_ok]; exact hr
theorem app_eq {o : List D → Res D} {f : En → Res (List D)} {ρ : En} {ds : List D} {r : Res D} (h : f ρ = .ok ds) (hr : o ds = r) : app o f ρ = r := by unfold app; rw [h, bind_ok]; exact hr
theorem cons_eq {f : En → Res D} {g : En → Res (List D)} {ρ : En} {d : D} {ds : List D} (h : f ρ = .ok d) (h2 : g ρ = .ok ds) : aCons f g ρ = .ok (d :: ds) := by unfold aCons; rw [h, bind_ok, h2, bind_ok]
theorem call_eq {m : List D → Res RV} {f : En → Res (List D)} {ρ : En} {ds : List D} {r : Res D} (h : f ρ = .ok ds) (hr : rvD (m ds) = r) : callE m f ρ = r := by unfold callE; rw [h, bind_ok]; exact hr
theorem bin_eq {o : D → D → Res D} {f g : En → Res D} {ρ : En} {x y : D} {r : Res D} (h : f ρ = .ok x) (h2 : g ρ = .ok y) (hr : o x y = r) : bin o f g ρ = r := by unfold bin; rw [h, bind_ok, h2, bind_ok]; exact hr
theorem binO_eq {o : D → D → Res (List D)} {f g : En → Res D} {ρ : En} {x y : D} {r : Res (List D)} (h : f ρ = .ok x) (h2 : g ρ = .ok y) (hr : o x y = r) : binO o f g ρ = r := by unfold binO; rw [h, bind_ok, h2, bind_ok]; exact hr
theorem own_eq {f : En → Res (List D)} {ρ : En} {xs : List D} (h : f ρ = .ok xs) : own f ρ = .ok (.lst xs) := by unfold own; rw [h, bind_ok]
theorem ret_eq {f : En → Res D} {ρ : En} {d : D} (h : f ρ = .ok d) : sRet f ρ = .ret (.sh d) := by unfold sRet; rw [h, ofR_ok]
theorem retO_eq {f : En → Res (List D)} {ρ : En} {d : List D} (h : f ρ = .ok d) : sRetO f ρ = .ret (.ow d) := by unfold sRetO; rw [h, ofR_ok]
theorem if_eq {c : En → Res Bool} {f g : En → Out} {ρ : En} {b : Bool} {o : Out} (h : c ρ = .ok b) (ho : (if b then f ρ else g ρ) = o) : sIf c f g ρ = o := by unfold sIf; rw [h, ofR_ok]; exact ho
theorem drop_eq {f : En → Res D} {ρ : En} {d : D} (h : f ρ = .ok d) : sDrop f ρ = .next ρ := by unfold sDrop; rw [h, ofR_ok]
theorem drop_exc {f : En → Res D} {ρ : En} {e : Exc} (h : f ρ = .exc e) : sDrop f ρ = .exc e ρ := by unfold sDrop; rw [h, ofR_exc]
theorem tst_eq {o : D → Res Bool} {f : En → Res D} {ρ : En} {d : D} {r : Res Bool} (h : f ρ = .ok d) (hr : o d = r) : tst o f ρ = r := by unfold tst; rw [h, bind_ok]; exact hr
theorem not_eq {f : En → Res Bool} {ρ : En} {b : Bool} (h : f ρ = .ok b) : notB f ρ = .ok (!b) := by unfold notB; rw [h, bind_ok]
theorem lc_yes {i : Nat} {tt : En → Res Bool} {te : En → Res D} {d v : D} {ds vs : List D} {ρ : En} (h : tt (ρ.set i (.sh d)) = .ok true) (h2 : te (ρ.set i (.sh d)) = .ok v) (h3 : lcL i tt te ds ρ = .ok vs) : lcL i tt te (d :: ds) ρ = .ok (v :: vs) := by
  unfold lcL; rw [h]; simp only [h2, h3]
theorem lc_no {i : Nat} {tt : En → Res Bool} {te : En → Res D} {d : D} {ds : List D} {ρ : En} {r : Res (List D)} (h : tt (ρ.set i (.sh d)) = .ok false) (h3 : lcL i tt te ds ρ = r) : lcL i tt te (d :: ds) ρ = r := by
  unfold lcL; rw [h]; exact h3
theorem seq_n {f g : En → Out} {ρ ρ' : En} {o : Out} (h : f ρ = .next ρ') (k : g ρ' = o) : sSeq f g ρ = o := (seq_next h).trans k
theorem lce_eq {it : En → Res (List D)} {i : Nat} {tt : En → Res Bool} {te : En → Res D} {ρ : En} {ds vs : List D} (h : it ρ = .ok ds) (hz : ds.length ≤ 16777216) (h2 : lcL i tt te ds ρ = .ok vs) : lcE it i tt te ρ = .ok vs := by
  unfold lcE; rw [h, bind_ok, gd_pos (sz _ hz)]; exact h2
end PL

set_option maxRecDepth 100000
set_option maxHeartbeats 1000000
namespace PL
open PySem
theorem tup2 (a b : D) : tupD [a, b] = .ok (.tup [a, b]) := gd_pos (sz _ (by simp))
theorem cut_last (xs : List D) : cutG xs (some (-1)) none = xs.drop (xs.length - 1) := by
  unfold cutG
  have e1 : HT.sIx xs.length 0 (some (-1)) = xs.length - 1 := by
    show (if (-1 : Int) < 0 then ((-1 : Int) + (xs.length : Int)).toNat else min (-1 : Int).toNat xs.length) = xs.length - 1
    rw [if_pos (by decide)]
    omega
  rw [e1, HT.sIx_none, List.take_of_length_le (by rw [List.length_drop]; omega)]
theorem eq_lst_shp {xs ys : List D} (h : shp (.lst xs) = true) (h2 : shp (.lst ys) = true) : eqD (.lst xs) (.lst ys) = .ok (.bl (eqv (.lst xs) (.lst ys))) := gd_pos ⟨h, h2⟩
theorem ne_of_eqD {a b : D} {v : Bool} (h : eqD a b = .ok (.bl v)) : neD a b = .ok (.bl (!v)) := by
  unfold eqD at h
  unfold neD
  obtain ⟨hc, h⟩ := gd_ok h
  rw [gd_pos hc]
  cases h
  rfl
theorem app_ok {i : Nat} {f : En → Res D} {ρ : En} {xs : List D} {d : D} (h : owL ρ i = .ok xs) (hf : f ρ = .ok d) (hz : xs.length < 16777216) : sApp i f ρ = .next (setL ρ i (xs ++ [d])) := by
  unfold sApp
  rw [h, ofR_ok, hf, ofR_ok, gd_pos (sz' _ hz), ofR_ok]
theorem put_ok {i : Nat} {f g : En → Res D} {ρ : En} {xs : List D} {d n : D} {j : Nat} (h : owL ρ i = .ok xs) (hg : g ρ = .ok d) (hf : f ρ = .ok n) (hn : n = .int (j : Nat)) (hj : j < xs.length) : sPut i f g ρ = .next (setL ρ i (xs.set j d)) := by
  subst hn
  have e : putAt xs d (.int (j : Nat)) = .ok (xs.set j d) := by
    have e : L2.ixN xs.length (j : Nat) = some j := by
      unfold L2.ixN
      rw [if_pos (by omega), if_pos (by omega), Int.toNat_natCast]
    show (match L2.ixN xs.length (j : Nat) with | some j => Res.ok (xs.set j d) | none => .stuck) = _
    rw [e]
  unfold sPut
  rw [h, ofR_ok, hg, ofR_ok, hf, ofR_ok, e, ofR_ok]
theorem ixO_ok {i : Nat} {f : En → Res D} {ρ : En} {xs : List D} {j : Nat} (h : owL ρ i = .ok xs) (hf : f ρ = .ok (.int (j : Nat))) (hj : j < xs.length) : ixO i f ρ = .ok xs[j] := by
  unfold ixO
  rw [h, bind_ok, hf, bind_ok]
  show (match L2.atI xs (j : Nat) with | some d => Res.ok d | none => .stuck) = _
  rw [atI_nat, List.getElem?_eq_getElem hj]
theorem bor_len {ρ : En} {i : Nat} {xs : List D} (h : owL ρ i = .ok xs) (hv : (ρ.set i (.sh (.lst xs)))[i]? = some (.sh (.lst xs))) : borE i (app lenL (aCons (eVar i) aNil)) ρ = .ok (.int (xs.length : Nat)) := by
  unfold borE
  rw [h]
  have e : app lenL (aCons (eVar i) aNil) (ρ.set i (.sh (.lst xs))) = .ok (.int (xs.length : Nat)) := app_eq (cons_eq (show eVar i _ = .ok (.lst xs) by unfold eVar; rw [hv]) rfl) (len_lst xs)
  simp only [e]
  exact gd_pos rfl
theorem putK_ok {i : Nat} {f g : En → Res D} {ρ : En} {kvs : List (L2.Key × D)} {d n : D} {k : L2.Key} (h : owK ρ i = .ok kvs) (hg : g ρ = .ok d) (hf : f ρ = .ok n) (hk : keyOf n = .ok k) (hz : kvs.length < 16777216) : sPutK i f g ρ = .next (ρ.set i (.ow (.dk (putD kvs k d)))) := by
  unfold sPutK
  rw [h, ofR_ok, hg, ofR_ok, hf, ofR_ok, hk, ofR_ok, gd_pos (sz' _ hz), ofR_ok]
theorem getK_ok {i : Nat} {f : En → Res D} {ρ : En} {kvs : List (L2.Key × D)} {d n : D} {k : L2.Key} (h : owK ρ i = .ok kvs) (hf : f ρ = .ok n) (hk : keyOf n = .ok k) (hv : valD kvs k = some d) : getK i f ρ = .ok d := by
  unfold getK
  rw [h, bind_ok, hf, bind_ok, hk, bind_ok, hv]
theorem call_sh {m : List D → Res RV} {f : En → Res (List D)} {ρ : En} {ds : List D} {d : D} (h : f ρ = .ok ds) (hm : m ds = .ok (.sh d)) : callE m f ρ = .ok d := call_eq h (by rw [hm]; rfl)
theorem call_ow {m : List D → Res RV} {f : En → Res (List D)} {ρ : En} {ds : List D} {d : List D} (h : f ρ = .ok ds) (hm : m ds = .ok (.ow d)) : callE m f ρ = .ok (.lst d) := call_eq h (by rw [hm]; rfl)
theorem call_exc {m : List D → Res RV} {f : En → Res (List D)} {ρ : En} {ds : List D} {e : Exc} (h : f ρ = .ok ds) (hm : m ds = .exc e) : callE m f ρ = .exc e := call_eq h (by rw [hm]; rfl)
theorem callO_ow {m : List D → Res RV} {f : En → Res (List D)} {ρ : En} {ds : List D} {d : List D} (h : f ρ = .ok ds) (hm : m ds = .ok (.ow d)) : callO m f ρ = .ok d := by unfold callO; rw [h, bind_ok, hm]; rfl
theorem callO_exc {m : List D → Res RV} {f : En → Res (List D)} {ρ : En} {ds : List D} {e : Exc} (h : f ρ = .ok ds) (hm : m ds = .exc e) : callO m f ρ = .exc e := by unfold callO; rw [h, bind_ok, hm]; rfl
theorem borT_ok {i : Nat} {t : En → Res Bool} {ρ : En} {xs : List D} {b : Bool} (h : owL ρ i = .ok xs) (ht : t (ρ.set i (.sh (.lst xs))) = .ok b) : borT i t ρ = .ok b := by
  unfold borT; rw [h]; simp only [ht]
theorem borE_ok {i : Nat} {t : En → Res D} {ρ : En} {xs : List D} {d : D} (h : owL ρ i = .ok xs) (ht : t (ρ.set i (.sh (.lst xs))) = .ok d) (hs : scl d = true) : borE i t ρ = .ok d := by
  unfold borE; rw [h]; simp only [ht]; exact gd_pos hs
theorem borO_ok {i : Nat} {t : En → Res (List D)} {ρ : En} {xs ds : List D} (h : owL ρ i = .ok xs) (ht : t (ρ.set i (.sh (.lst xs))) = .ok ds) (hs : sclA ds = true) : borO i t ρ = .ok ds := by
  unfold borO; rw [h]; simp only [ht]; exact gd_pos hs
theorem andV_yes {f g : En → Res D} {ρ : En} (h : f ρ = .ok (.bl true)) (h2 : g ρ = .ok (.bl true)) : andV f g ρ = .ok (.bl true) := by unfold andV; rw [h, bind_ok]; exact h2
theorem cut_init (xs : List D) (x : D) : cutG (xs ++ [x]) none (some (-1)) = xs := by
  unfold cutG
  have e1 : HT.sIx (xs ++ [x]).length (xs ++ [x]).length (some (-1)) = xs.length := by
    show (if (-1 : Int) < 0 then ((-1 : Int) + ((xs ++ [x]).length : Int)).toNat else min (-1 : Int).toNat (xs ++ [x]).length) = xs.length
    rw [if_pos (by decide), List.length_append]
    simp only [List.length_cons, List.length_nil]
    omega
  rw [e1, HT.sIx_none, List.drop_zero, Nat.sub_zero, List.take_left]
theorem sclA_of : ∀ {xs : List D}, (∀ x ∈ xs, scl x = true) → sclA xs = true
  | [], _ => rfl
  | x :: xs, h => by
    unfold sclA
    rw [h x List.mem_cons_self, sclA_of fun y hy => h y (List.mem_cons_of_mem _ hy)]
    rfl
theorem cut_to (xs : List D) (k : Nat) : cutG xs none (some (k : Int)) = xs.take k := by
  unfold cutG
  rw [HT.sIx_none, HT.sIx_nat, List.drop_zero, Nat.sub_zero, List.take_eq_take_iff]
  omega
theorem cut_from (xs : List D) (k : Nat) (hk : 0 < k) : cutG xs (some (-(k : Int))) none = xs.drop (xs.length - k) := by
  unfold cutG
  have e1 : HT.sIx xs.length 0 (some (-(k : Int))) = xs.length - k := by
    show (if (-(k : Int)) < 0 then ((-(k : Int)) + (xs.length : Int)).toNat else min (-(k : Int)).toNat xs.length) = xs.length - k
    rw [if_pos (by omega)]
    omega
  rw [e1, HT.sIx_none, List.take_of_length_le (by rw [List.length_drop]; omega)]
theorem flat_len (n : Nat) (xs : List D) : (List.replicate n xs).flatten.length = n * xs.length := by
  induction n with
  | zero => simp
  | succ n ih => rw [List.replicate_succ, List.flatten_cons, List.length_append, ih, Nat.succ_mul]; omega
theorem or_no {f g : En → Res Bool} {ρ : En} (h : f ρ = .ok false) (h2 : g ρ = .ok false) : orB f g ρ = .ok false := by unfold orB; rw [h, bind_ok]; exact h2
theorem it_eq {f : En → Res D} {ρ : En} {d : D} {ds : List D} (h : f ρ = .ok d) (hs : seqOf d = .ok ds) : itE f ρ = .ok ds := by unfold itE; rw [h, bind_ok]; exact hs
theorem map_erase {α β : Type} (f : α → β) : ∀ (l : List α) (n : Nat), (l.map f).eraseIdx n = (l.eraseIdx n).map f
  | [], _ => rfl
  | x :: l, 0 => rfl
  | x :: l, n + 1 => by
    show f x :: (l.map f).eraseIdx n = f x :: (l.eraseIdx n).map f
    rw [map_erase f l n]
end PL

set_option maxRecDepth 100000
set_option maxHeartbeats 1000000
namespace PL
open PySem
/-! ## steps for the engine: results are told from inside out -/
def seqK (g : En → Out) : Out → Out | .next ρ => g ρ | o => o
theorem z_seq {f g : En → Out} {ρ : En} {o1 o : Out} (h : f ρ = o1) (k : seqK g o1 = o) : sSeq f g ρ = o := by
  subst h; rw [← k]; unfold sSeq seqK; cases f ρ <;> rfl
theorem z_next {g : En → Out} {ρ : En} {o : Out} (h : g ρ = o) : seqK g (.next ρ) = o := h
theorem z_ret {g : En → Out} {r : RV} : seqK g (.ret r) = .ret r := rfl
theorem z_retE {g : En → Out} {r r' : RV} (h : r = r') : seqK g (.ret r) = .ret r' := by rw [← h]; rfl
theorem z_exc {g : En → Out} {e : Exc} {ρ : En} : seqK g (.exc e ρ) = .exc e ρ := rfl
theorem z_cont {g : En → Out} {ρ : En} : seqK g (.cont ρ) = .cont ρ := rfl
theorem z_brk {g : En → Out} {ρ : En} : seqK g (.brk ρ) = .brk ρ := rfl
section
variable {α β : Type}
theorem z_ofok {ρ : En} {x : α} {k : α → Out} {o : Out} (h : k x = o) : ofR ρ (.ok x) k = o := h
theorem z_ofexc {ρ : En} {e : Exc} {k : α → Out} : ofR ρ (.exc e) k = .exc e ρ := rfl
theorem z_of {ρ : En} {t r : Res α} {k : α → Out} {o : Out} (h : t = r) (h2 : ofR ρ r k = o) : ofR ρ t k = o := by subst h; exact h2
theorem z_bok {x : α} {k : α → Res β} {r : Res β} (h : k x = r) : Res.bind (.ok x) k = r := h
theorem z_bexc {e : Exc} {k : α → Res β} : Res.bind (.exc e) k = .exc e := rfl
theorem z_b {t r : Res α} {k : α → Res β} {r2 : Res β} (h : t = r) (h2 : Res.bind r k = r2) : Res.bind t k = r2 := by subst h; exact h2
theorem z_gd {c : Prop} {i : Decidable c} {x r : Res α} (h : c) (h2 : x = r) : @gd _ c i x = r := by rw [gd_pos h]; exact h2
theorem z_itet {b : Bool} {x y r : α} (h : b = true) (k : x = r) : (if b = true then x else y) = r := by rw [if_pos h]; exact k
theorem z_itef {b : Bool} {x y r : α} (h : b = false) (k : y = r) : (if b = true then x else y) = r := by rw [if_neg (by rw [h]; decide)]; exact k
end
def tryK (ls : List Clz) : Out → Out | .exc e ρ => tryO ls e ρ | o => o
theorem z_try {f : En → Out} {ls : List Clz} {ρ : En} {o1 o : Out} (h : f ρ = o1) (k : tryK ls o1 = o) : sTry f ls ρ = o := by
  subst h; rw [← k]; unfold sTry tryK; cases f ρ <;> rfl
theorem z_trynext {ls : List Clz} {ρ : En} : tryK ls (.next ρ) = .next ρ := rfl
theorem z_tryret {ls : List Clz} {r : RV} : tryK ls (.ret r) = .ret r := rfl
theorem z_set {ρ ρ' : En} {i : Nat} {s : Sl} (h : ρ.set i s = ρ') : Out.next (ρ.set i s) = .next ρ' := by rw [h]
theorem z_set0 {s t : Sl} {ρ : En} : (s :: ρ).set 0 t = t :: ρ := rfl
theorem z_setS {s t : Sl} {ρ ρ' : En} {n : Nat} (h : ρ.set n t = ρ') : (s :: ρ).set (n + 1) t = s :: ρ' := by rw [List.set_cons_succ, h]
theorem z_var {ρ : En} {i : Nat} {d : D} (h : ρ[i]? = some (.sh d)) : eVar i ρ = .ok d := by unfold eVar; rw [h]
theorem z_owL {ρ : En} {i : Nat} {xs : List D} (h : ρ[i]? = some (.ow (.lst xs))) : owL ρ i = .ok xs := by unfold owL; rw [h]
theorem z_0 {s : Sl} {ρ : En} : (s :: ρ)[0]? = some s := rfl
theorem z_S {s t : Sl} {ρ : En} {n : Nat} (h : ρ[n]? = some t) : (s :: ρ)[n + 1]? = some t := h
section
variable {ρ ρ' : En} {o : Out} {i : Nat} {f g : En → Res D} {fl : En → Res (List D)} {b c : En → Res Bool} {F F2 : En → Out} {r : Res D} {rl : Res (List D)} {rb : Res Bool} {m : List D → Res RV}
theorem u_set (h : ofR ρ (f ρ) (fun d => .next (ρ.set i (.sh d))) = o) : sSet i f ρ = o := h
theorem u_setO (h : ofR ρ (fl ρ) (fun d => .next (ρ.set i (.ow (.lst d)))) = o) : sSetO i fl ρ = o := h
theorem u_drop (h : ofR ρ (f ρ) (fun _ => .next ρ) = o) : sDrop f ρ = o := h
theorem u_ret (h : ofR ρ (f ρ) (fun d => .ret (.sh d)) = o) : sRet f ρ = o := h
theorem u_retO (h : ofR ρ (fl ρ) (fun d => .ret (.ow d)) = o) : sRetO fl ρ = o := h
theorem u_retV {xs : List D} (h : ρ[i]? = some (.ow (.lst xs))) : sRetV i ρ = .ret (.ow xs) := by unfold sRetV; rw [h]
theorem u_if (h : ofR ρ (c ρ) (fun b => if b = true then F ρ else F2 ρ) = o) : sIf c F F2 ρ = o := h
theorem u_frz {xs : List D} (h : ρ[i]? = some (.ow (.lst xs))) (h2 : ρ.set i (.sh (.lst xs)) = ρ') (k : F ρ' = o) : sFrz i F ρ = o := by unfold sFrz; rw [h]; simp only [h2]; exact k
theorem u_for {it : En → Res (List D)} {t : D → En → Res En} (h : ofR ρ (it ρ) (fun ds => forL t F ds ρ) = o) : sFor it t F ρ = o := h
theorem u_raise {mk : List D → Res Exc} (h : ofR ρ (fl ρ) (fun ds => ofR ρ (mk ds) fun e => .exc e ρ) = o) : sRaise mk fl ρ = o := h
theorem u_app (h : ofR ρ (owL ρ i) (fun xs => ofR ρ (f ρ) fun d => ofR ρ (gd (xs.length < sizeLine) (.ok ())) fun _ => .next (ρ.set i (.ow (.lst (xs ++ [d]))))) = o) : sApp i f ρ = o := h
theorem u_put (h : ofR ρ (owL ρ i) (fun xs => ofR ρ (g ρ) fun d => ofR ρ (f ρ) fun n => ofR ρ (putAt xs d n) fun ys => .next (ρ.set i (.ow (.lst ys)))) = o) : sPut i f g ρ = o := h
theorem u_ins (h : ofR ρ (owL ρ i) (fun xs => ofR ρ (fl ρ) fun ds => ofR ρ (insAt xs ds) fun ys => .next (ρ.set i (.ow (.lst ys)))) = o) : sIns i fl ρ = o := h
theorem u_popAt (h : ofR ρ (owL ρ i) (fun xs => ofR ρ (f ρ) fun d => ofR ρ (popAt xs d) fun ys => .next (ρ.set i (.ow (.lst ys)))) = o) : sPopAt i f ρ = o := h
theorem u_pop (h : ofR ρ (owL ρ i) (fun xs => ofR ρ (gd (xs ≠ []) (.ok ())) fun _ => .next (ρ.set i (.ow (.lst xs.dropLast)))) = o) : sPop i ρ = o := h
theorem u_bin {op : D → D → Res D} (h : (f ρ).bind (fun x => (g ρ).bind fun y => op x y) = r) : PL.bin op f g ρ = r := h
theorem u_binO {op : D → D → Res (List D)} (h : (f ρ).bind (fun x => (g ρ).bind fun y => op x y) = rl) : binO op f g ρ = rl := h
theorem u_una {op : D → Res D} (h : (f ρ).bind (fun x => op x) = r) : una op f ρ = r := h
theorem u_nil : aNil ρ = .ok [] := rfl
theorem u_cons (h : (f ρ).bind (fun x => (fl ρ).bind fun xs => .ok (x :: xs)) = rl) : aCons f fl ρ = rl := h
theorem u_apl {op : List D → Res D} (h : (fl ρ).bind op = r) : app op fl ρ = r := h
theorem u_aplO {op : List D → Res (List D)} (h : (fl ρ).bind op = rl) : appO op fl ρ = rl := h
theorem u_own (h : (fl ρ).bind (fun xs => .ok (.lst xs)) = r) : PL.own fl ρ = r := h
theorem u_tru (h : (b ρ).bind (fun x => .ok (.bl x)) = r) : tru b ρ = r := h
theorem u_ifE (h : (c ρ).bind (fun b => if b = true then f ρ else g ρ) = r) : ifE c f g ρ = r := h
theorem u_andB (h : (b ρ).bind (fun x => if x = true then c ρ else .ok false) = rb) : andB b c ρ = rb := h
theorem u_orB (h : (b ρ).bind (fun x => if x = true then .ok true else c ρ) = rb) : orB b c ρ = rb := h
theorem u_notB (h : (b ρ).bind (fun x => .ok (!x)) = rb) : notB b ρ = rb := h
theorem u_tst {op : D → Res Bool} (h : (f ρ).bind op = rb) : tst op f ρ = rb := h
theorem u_andV (h : (f ρ).bind (fun x => (bOf x).bind fun b => if b = true then g ρ else .ok (.bl false)) = r) : andV f g ρ = r := h
theorem u_orV (h : (f ρ).bind (fun x => (bOf x).bind fun b => if b = true then .ok (.bl true) else g ρ) = r) : orV f g ρ = r := h
theorem u_notV (h : (f ρ).bind (fun x => (bOf x).bind fun b => .ok (.bl (!b))) = r) : notV f ρ = r := h
theorem u_call (h : (fl ρ).bind (fun ds => rvD (m ds)) = r) : callE m fl ρ = r := h
theorem u_callO (h : (fl ρ).bind (fun ds => rvO (m ds)) = rl) : callO m fl ρ = rl := h
theorem u_it (h : (f ρ).bind seqOf = rl) : itE f ρ = rl := h
theorem u_isi {T : String} (h : (f ρ).bind (fun d => .ok (.bl (isiB (tyD d) T))) = r) : isiD T f ρ = r := h
theorem u_lc {it : En → Res (List D)} (h : (it ρ).bind (fun ds => gd (ds.length ≤ sizeLine) (lcL i b f ds ρ)) = rl) : lcE it i b f ρ = rl := h
theorem u_ixO (h : (owL ρ i).bind (fun xs => (f ρ).bind fun n => ixD (.lst xs) n) = r) : ixO i f ρ = r := by
  rw [← h]; unfold ixO
  cases owL ρ i with
  | ok xs => simp only [bind_ok]; cases f ρ with
    | ok n => simp only [bind_ok]; cases n <;> rfl
    | _ => rfl
  | _ => rfl
theorem u_borT {xs : List D} {v : Bool} (h : ρ[i]? = some (.ow (.lst xs))) (h2 : ρ.set i (.sh (.lst xs)) = ρ') (k : c ρ' = .ok v) : borT i c ρ = .ok v := by
  subst h2; exact borT_ok (z_owL h) k
theorem u_borE {xs : List D} {v : D} (h : ρ[i]? = some (.ow (.lst xs))) (h2 : ρ.set i (.sh (.lst xs)) = ρ') (k : f ρ' = .ok v) (hs : scl v = true) : borE i f ρ = .ok v := by
  subst h2; exact borE_ok (z_owL h) k hs
theorem u_borO {xs ds : List D} (h : ρ[i]? = some (.ow (.lst xs))) (h2 : ρ.set i (.sh (.lst xs)) = ρ') (k : fl ρ' = .ok ds) (hs : sclA ds = true) : borO i fl ρ = .ok ds := by
  subst h2; exact borO_ok (z_owL h) k hs
theorem u_strM {α : Type} {op : Str → D → Res α} {s : Str} {y : D} {ra : Res α} (h : f ρ = .ok (.str s)) (h2 : g ρ = .ok y) (k : op s y = ra) : strM op f g ρ = ra := by unfold strM; rw [h, bind_ok]; show (g ρ).bind _ = _; rw [h2, bind_ok]; exact k
theorem u_aug {op : Int → Int → Int} {n m : Int} (h : ρ[i]? = some (.sh (.int n))) (h2 : f ρ = .ok (.int m)) (k : ρ.set i (.sh (.int (op n m))) = ρ') : sAug i op f ρ = .next ρ' := by unfold sAug; rw [h]; simp only [h2, ofR_ok]; rw [k]
theorem u_putAug {op : Int → Int → Int} {xs : List D} {n x y : Int} {j : Nat} (h : ρ[i]? = some (.ow (.lst xs))) (h1 : f ρ = .ok (.int n)) (h2 : L2.ixN xs.length n = some j) (h3 : xs[j]? = some (.int x)) (h4 : g ρ = .ok (.int y)) (k : ρ.set i (.ow (.lst (xs.set j (.int (op x y))))) = ρ') : sPutAug i op f g ρ = .next ρ' := by
  unfold sPutAug
  rw [z_owL h, ofR_ok, h1, ofR_ok]
  simp only [h2, h3, h4, ofR_ok, setL, k]
theorem u_pS {ro : Res (Option Int)} (h : (f ρ).bind (fun x => match x with | .int i => .ok (some i) | _ => .stuck) = ro) : pS f ρ = ro := h
theorem u_pN : pN ρ = .ok none := rfl
theorem u_slice {l h : En → Res (Option Int)} (k : (f ρ).bind (fun x => (l ρ).bind fun lo => (h ρ).bind fun hi => sliceD x lo hi) = r) : sliceE f l h ρ = r := k
theorem u_sliceO {l h : En → Res (Option Int)} (k : (f ρ).bind (fun x => (l ρ).bind fun lo => (h ρ).bind fun hi => cutO x lo hi) = rl) : sliceO f l h ρ = rl := k
theorem z_rvD {t : Res RV} {r1 : Res RV} (h : t = r1) (k : rvD r1 = r) : rvD t = r := by subst h; exact k
theorem z_rvO {t : Res RV} {r1 : Res RV} (h : t = r1) (k : rvO r1 = rl) : rvO t = rl := by subst h; exact k
theorem z_run {n : Nat} {ds : List D} {o : Out} {r : Res RV} (h : F (start0 n ds) = o) (k : runO o = r) : runF n F ds = r := by unfold runF; rw [h]; exact k
end
theorem z_rvsh {d : D} : rvD (.ok (.sh d)) = .ok d := rfl
theorem z_rvow {xs : List D} : rvD (.ok (.ow xs)) = .ok (.lst xs) := rfl
theorem z_rvexc {e : Exc} : rvD (.exc e) = .exc e := rfl
theorem z_rvOow {xs : List D} : rvO (.ok (.ow xs)) = .ok xs := rfl
theorem z_rvOexc {e : Exc} : rvO (.exc e) = .exc e := rfl
/-! ## operators on data -/
theorem j_addI (a b : Int) : addD (.int a) (.int b) = .ok (.int (a + b)) := rfl
theorem j_subI (a b : Int) : subD (.int a) (.int b) = .ok (.int (a - b)) := rfl
theorem j_mulI (a b : Int) (h : a.natAbs < 2 ^ 100) (h2 : b.natAbs < 2 ^ 100) : mulD (.int a) (.int b) = .ok (.int (a * b)) := by
  have ha : a.natAbs.log2 < 100 := by rcases Nat.eq_zero_or_pos a.natAbs with e | e; · rw [e]; decide
                                      · exact (Nat.log2_lt (by omega)).mpr h
  have hb : b.natAbs.log2 < 100 := by rcases Nat.eq_zero_or_pos b.natAbs with e | e; · rw [e]; decide
                                      · exact (Nat.log2_lt (by omega)).mpr h2
  show gd _ _ = _
  exact gd_pos (by omega)
theorem j_modI (a b : Int) (h : 0 < b) : modD (.int a) (.int b) = .ok (.int (a % b)) := gd_pos h
theorem j_fdivI (a b : Int) (h : 0 < b) (h2 : b < 18446744073709551616) : fdivD (.int a) (.int b) = .ok (.int (a / b)) := gd_pos ⟨h, h2⟩
theorem j_ltI (a b : Int) : ltD (.int a) (.int b) = .ok (.bl (decide (a < b))) := rfl
theorem j_leI (a b : Int) : leD (.int a) (.int b) = .ok (.bl (decide (a ≤ b))) := rfl
theorem j_gtI (a b : Int) : gtD (.int a) (.int b) = .ok (.bl (decide (b < a))) := rfl
theorem j_geI (a b : Int) : geD (.int a) (.int b) = .ok (.bl (decide (b ≤ a))) := rfl
theorem j_negI (a : Int) : negD (.int a) = .ok (.int (-a)) := rfl
theorem j_addL (xs ys : List D) (h : xs.length + ys.length ≤ 16777216) : addD (.lst xs) (.lst ys) = .ok (.lst (xs ++ ys)) := gd_pos (sz _ h)
theorem j_addT (xs ys : List D) (h : xs.length + ys.length ≤ 16777216) : addD (.tup xs) (.tup ys) = .ok (.tup (xs ++ ys)) := gd_pos (sz _ h)
theorem j_isN (d : D) : isD d .non = .ok (.bl (isNonD d)) := by cases d <;> rfl
theorem j_isB (a b : Bool) : isD (.bl a) (.bl b) = .ok (.bl (decide (a = b))) := rfl
theorem j_isNotN (d : D) : isNotD d .non = .ok (.bl (!isNonD d)) := by cases d <;> rfl
theorem j_isNotB (a b : Bool) : isNotD (.bl a) (.bl b) = .ok (.bl (!decide (a = b))) := rfl
theorem j_ixT {xs : List D} {i : Int} {d : D} (h : L2.atI xs i = some d) : ixD (.tup xs) (.int i) = .ok d := by simp only [ixD, h]
theorem j_ixL {xs : List D} {i : Int} {d : D} (h : L2.atI xs i = some d) : ixD (.lst xs) (.int i) = .ok d := by simp only [ixD, h]
theorem j_lenL (xs : List D) : lenL [.lst xs] = .ok (.int (xs.length : Nat)) := rfl
theorem j_lenT (xs : List D) : lenL [.tup xs] = .ok (.int (xs.length : Nat)) := rfl
theorem j_int (i : Int) : intL [.int i] = .ok (.int i) := rfl
theorem j_abs (i : Int) : absL [.int i] = .ok (.int (if i < 0 then -i else i)) := rfl
theorem j_max (i j : Int) : max2L [.int i, .int j] = .ok (.int (if j > i then j else i)) := rfl
theorem j_min (i j : Int) : min2L [.int i, .int j] = .ok (.int (if j < i then j else i)) := rfl
theorem j_listL (xs : List D) : listL [.lst xs] = .ok xs := rfl
theorem j_listT (xs : List D) : listL [.tup xs] = .ok xs := rfl
theorem j_tupL (xs : List D) : tupleL [.lst xs] = .ok (.tup xs) := rfl
theorem j_tupT (xs : List D) : tupleL [.tup xs] = .ok (.tup xs) := rfl
theorem j_bOf (b : Bool) : bOf (.bl b) = .ok b := rfl
theorem j_truB (b : Bool) : truD (.bl b) = .ok b := rfl
theorem j_bv (d : D) : mkBV [d] = .ok (.badValue d) := rfl
theorem j_tm (d : D) : mkTM [d] = .ok (.tooMany d) := rfl
theorem j_btx (a b c : D) : mkBT [a, b, c] = .ok (.badText a b c) := rfl
theorem j_seqL (xs : List D) : seqOf (.lst xs) = .ok xs := rfl
theorem j_seqT (xs : List D) : seqOf (.tup xs) = .ok xs := rfl
theorem j_put {xs ys : List D} {d : D} {k : Int} {j : Nat} (h : L2.ixN xs.length k = some j) (h2 : xs.set j d = ys) : putAt xs d (.int k) = .ok ys := by unfold putAt; simp only [h]; rw [h2]
theorem ixN_of {n j : Nat} {k : Int} (h : k = (j : Int)) (hj : j < n) : L2.ixN n k = some j := by
  unfold L2.ixN
  rw [if_pos (by omega), if_pos (by omega), h, Int.toNat_natCast]
theorem y_ok {α : Type} {a : α} : Res.ok a = .ok a := rfl
theorem y_rexc {α : Type} {e : Exc} : (Res.exc e : Res α) = .exc e := rfl
theorem y_next {ρ : En} : Out.next ρ = .next ρ := rfl
theorem y_ret {r : RV} : Out.ret r = .ret r := rfl
theorem y_exc {e : Exc} {ρ : En} : Out.exc e ρ = .exc e ρ := rfl
theorem y_nx {ρ : En} : sNext ρ = .next ρ := rfl
theorem y_yes {ρ : En} : yesB ρ = .ok true := rfl
theorem y_retB {a b : Bool} (h : a = b) : Out.ret (.sh (.bl a)) = .ret (.sh (.bl b)) := by rw [h]
theorem y_retI {a b : Int} (h : a = b) : Out.ret (.sh (.int a)) = .ret (.sh (.int b)) := by rw [h]
theorem y_retD {a b : D} (h : a = b) : Out.ret (.sh a) = .ret (.sh b) := by rw [h]
theorem y_nextE {a b : En} (h : a = b) : Out.next a = .next b := by rw [h]
theorem y_c {d : D} {ρ : En} : eC d ρ = .ok d := rfl
theorem y_retN {ρ : En} : sRetN ρ = .ret (.sh .non) := rfl
theorem y_cont {ρ : En} : sCont ρ = .cont ρ := rfl
theorem y_brk {ρ : En} : sBrk ρ = .brk ρ := rfl
theorem decT {p : Prop} {i : Decidable p} (h : p) : @decide p i = true := decide_eq_true h
theorem decF {p : Prop} {i : Decidable p} (h : ¬ p) : @decide p i = false := decide_eq_false h
theorem notT {b : Bool} (h : b = false) : (!b) = true := by rw [h]; rfl
theorem notF {b : Bool} (h : b = true) : (!b) = false := by rw [h]; rfl
end PL

local macro_rules
  | `(tactic| exists $es,*) => `(tactic| (((with_reducible refine (?_ : @Eq Int _ _)); first | with_reducible rfl | omega)))
local macro_rules
  | `(tactic| exists $es,*) => `(tactic| (((with_reducible refine (?_ : @Eq Bool _ _)); first | first | with_reducible rfl | with_reducible assumption | ((with_reducible apply PL.decT); first | with_reducible assumption | with_reducible rfl | omega | ((simp only [List.length_cons, List.length_nil, List.length_append, List.length_map, List.length_replicate]); omega)) | ((with_reducible refine (?_ : PL.isiB _ _ = _)); rfl) | ((with_reducible refine (?_ : PL.isNonD _ = _)); rfl) | ((with_reducible refine (?_ : PL.scl _ = _)); rfl) | ((with_reducible refine (?_ : PL.sclA _ = _)); rfl) | ((with_reducible apply PL.notT); first | with_reducible rfl | with_reducible assumption | ((with_reducible apply PL.decF); first | with_reducible assumption | omega | ((simp only [List.length_cons, List.length_nil, List.length_append, List.length_map, List.length_replicate]); omega)) | ((with_reducible refine (?_ : PL.isiB _ _ = _)); rfl) | ((with_reducible refine (?_ : PL.isNonD _ = _)); rfl) | ((with_reducible refine (?_ : PL.scl _ = _)); rfl) | ((with_reducible refine (?_ : PL.sclA _ = _)); rfl)) | first | with_reducible rfl | with_reducible assumption | ((with_reducible apply PL.decF); first | with_reducible assumption | omega | ((simp only [List.length_cons, List.length_nil, List.length_append, List.length_map, List.length_replicate]); omega)) | ((with_reducible refine (?_ : PL.isiB _ _ = _)); rfl) | ((with_reducible refine (?_ : PL.isNonD _ = _)); rfl) | ((with_reducible refine (?_ : PL.scl _ = _)); rfl) | ((with_reducible refine (?_ : PL.sclA _ = _)); rfl) | ((with_reducible apply PL.notF); first | with_reducible rfl | with_reducible assumption | ((with_reducible apply PL.decT); first | with_reducible assumption | with_reducible rfl | omega | ((simp only [List.length_cons, List.length_nil, List.length_append, List.length_map, List.length_replicate]); omega)) | ((with_reducible refine (?_ : PL.isiB _ _ = _)); rfl) | ((with_reducible refine (?_ : PL.isNonD _ = _)); rfl) | ((with_reducible refine (?_ : PL.scl _ = _)); rfl) | ((with_reducible refine (?_ : PL.sclA _ = _)); rfl)))))
local macro_rules
  | `(tactic| exists $es,*) => `(tactic| (((with_reducible refine (?_ : @Eq (List PL.Sl) _ _)); rfl)))
local macro_rules
  | `(tactic| exists $es,*) => `(tactic| (((with_reducible refine (?_ : @Eq (Option PL.Sl) _ _)); rfl)))
local macro_rules
  | `(tactic| exists $es,*) => `(tactic| (with_reducible_and_instances assumption))
local macro_rules
  | `(tactic| exists $es,*) => `(tactic| (((with_reducible apply PL.y_retD); rfl)))
local macro_rules
  | `(tactic| exists $es,*) => `(tactic| (((with_reducible apply PL.y_nextE); rfl)))
local macro_rules
  | `(tactic| exists $es,*) => `(tactic| (((with_reducible apply PL.z_retE); rfl)))
local macro_rules
  | `(tactic| exists $es,*) => `(tactic| (with_reducible apply PL.z_rvO))
local macro_rules
  | `(tactic| exists $es,*) => `(tactic| (with_reducible apply PL.z_rvD))
local macro_rules
  | `(tactic| exists $es,*) => `(tactic| (with_reducible apply PL.z_b))
local macro_rules
  | `(tactic| exists $es,*) => `(tactic| (with_reducible apply PL.z_of))
local macro_rules
  | `(tactic| exists $es,*) => `(tactic| (((with_reducible apply PL.z_itef); (first | with_reducible rfl | with_reducible assumption | ((with_reducible apply PL.decF); first | with_reducible assumption | omega | ((simp only [List.length_cons, List.length_nil, List.length_append, List.length_map, List.length_replicate]); omega)) | ((with_reducible refine (?_ : PL.isiB _ _ = _)); rfl) | ((with_reducible refine (?_ : PL.isNonD _ = _)); rfl) | ((with_reducible refine (?_ : PL.scl _ = _)); rfl) | ((with_reducible refine (?_ : PL.sclA _ = _)); rfl) | ((with_reducible apply PL.notF); first | with_reducible rfl | with_reducible assumption | ((with_reducible apply PL.decT); first | with_reducible assumption | with_reducible rfl | omega | ((simp only [List.length_cons, List.length_nil, List.length_append, List.length_map, List.length_replicate]); omega)) | ((with_reducible refine (?_ : PL.isiB _ _ = _)); rfl) | ((with_reducible refine (?_ : PL.isNonD _ = _)); rfl) | ((with_reducible refine (?_ : PL.scl _ = _)); rfl) | ((with_reducible refine (?_ : PL.sclA _ = _)); rfl))))))
local macro_rules
  | `(tactic| exists $es,*) => `(tactic| (((with_reducible apply PL.z_itet); (first | with_reducible rfl | with_reducible assumption | ((with_reducible apply PL.decT); first | with_reducible assumption | with_reducible rfl | omega | ((simp only [List.length_cons, List.length_nil, List.length_append, List.length_map, List.length_replicate]); omega)) | ((with_reducible refine (?_ : PL.isiB _ _ = _)); rfl) | ((with_reducible refine (?_ : PL.isNonD _ = _)); rfl) | ((with_reducible refine (?_ : PL.scl _ = _)); rfl) | ((with_reducible refine (?_ : PL.sclA _ = _)); rfl) | ((with_reducible apply PL.notT); first | with_reducible rfl | with_reducible assumption | ((with_reducible apply PL.decF); first | with_reducible assumption | omega | ((simp only [List.length_cons, List.length_nil, List.length_append, List.length_map, List.length_replicate]); omega)) | ((with_reducible refine (?_ : PL.isiB _ _ = _)); rfl) | ((with_reducible refine (?_ : PL.isNonD _ = _)); rfl) | ((with_reducible refine (?_ : PL.scl _ = _)); rfl) | ((with_reducible refine (?_ : PL.sclA _ = _)); rfl))))))
local macro_rules
  | `(tactic| exists $es,*) => `(tactic| (((with_reducible apply PL.z_gd); first | ((with_reducible apply PL.sz'); first | omega | with_reducible assumption | ((try simp only [List.length_cons, List.length_nil, List.length_append, List.length_map, List.length_range, List.length_replicate, List.length_set, List.length_take, List.length_drop]) <;> omega) | decide) | ((with_reducible apply PL.sz); first | omega | with_reducible assumption | ((try simp only [List.length_cons, List.length_nil, List.length_append, List.length_map, List.length_range, List.length_replicate, List.length_set, List.length_take, List.length_drop]) <;> omega) | decide) | decide)))
local macro_rules
  | `(tactic| exists $es,*) => `(tactic| (((with_reducible apply PL.j_ixL); first | with_reducible assumption | rfl)))
local macro_rules
  | `(tactic| exists $es,*) => `(tactic| (((with_reducible apply PL.j_ixT); first | with_reducible assumption | rfl)))
local macro_rules
  | `(tactic| exists $es,*) => `(tactic| (((with_reducible apply PL.j_mulI) <;> omega)))
local macro_rules
  | `(tactic| exists $es,*) => `(tactic| (((with_reducible apply PL.j_fdivI) <;> omega)))
local macro_rules
  | `(tactic| exists $es,*) => `(tactic| (((with_reducible apply PL.j_modI); omega)))
local macro_rules
  | `(tactic| exists $es,*) => `(tactic| (((with_reducible apply PL.j_addT); (first | omega | with_reducible assumption | ((try simp only [List.length_cons, List.length_nil, List.length_append, List.length_map, List.length_range, List.length_replicate, List.length_set, List.length_take, List.length_drop]) <;> omega) | decide))))
local macro_rules
  | `(tactic| exists $es,*) => `(tactic| (((with_reducible apply PL.j_addL); (first | omega | with_reducible assumption | ((try simp only [List.length_cons, List.length_nil, List.length_append, List.length_map, List.length_range, List.length_replicate, List.length_set, List.length_take, List.length_drop]) <;> omega) | decide))))
local macro_rules
  | `(tactic| exists $es,*) => `(tactic| (((with_reducible apply PL.lst_ok); (first | omega | with_reducible assumption | ((try simp only [List.length_cons, List.length_nil, List.length_append, List.length_map, List.length_range, List.length_replicate, List.length_set, List.length_take, List.length_drop]) <;> omega) | decide))))
local macro_rules
  | `(tactic| exists $es,*) => `(tactic| (((with_reducible apply PL.tup_ok); (first | omega | with_reducible assumption | ((try simp only [List.length_cons, List.length_nil, List.length_append, List.length_map, List.length_range, List.length_replicate, List.length_set, List.length_take, List.length_drop]) <;> omega) | decide))))
local macro_rules
  | `(tactic| exists $es,*) => `(tactic| (with_reducible apply PL.j_btx))
local macro_rules
  | `(tactic| exists $es,*) => `(tactic| (with_reducible apply PL.j_isNotB))
local macro_rules
  | `(tactic| exists $es,*) => `(tactic| (with_reducible apply PL.j_isB))
local macro_rules
  | `(tactic| exists $es,*) => `(tactic| (with_reducible apply PL.eq_bl))
local macro_rules
  | `(tactic| exists $es,*) => `(tactic| (with_reducible apply PL.j_min))
local macro_rules
  | `(tactic| exists $es,*) => `(tactic| (with_reducible apply PL.j_max))
local macro_rules
  | `(tactic| exists $es,*) => `(tactic| (with_reducible apply PL.ne_int))
local macro_rules
  | `(tactic| exists $es,*) => `(tactic| (with_reducible apply PL.eq_int))
local macro_rules
  | `(tactic| exists $es,*) => `(tactic| (with_reducible apply PL.j_geI))
local macro_rules
  | `(tactic| exists $es,*) => `(tactic| (with_reducible apply PL.j_gtI))
local macro_rules
  | `(tactic| exists $es,*) => `(tactic| (with_reducible apply PL.j_leI))
local macro_rules
  | `(tactic| exists $es,*) => `(tactic| (with_reducible apply PL.j_ltI))
local macro_rules
  | `(tactic| exists $es,*) => `(tactic| (with_reducible apply PL.j_subI))
local macro_rules
  | `(tactic| exists $es,*) => `(tactic| (with_reducible apply PL.j_addI))
local macro_rules
  | `(tactic| exists $es,*) => `(tactic| (with_reducible apply PL.j_negI))
local macro_rules
  | `(tactic| exists $es,*) => `(tactic| (with_reducible apply PL.j_seqT))
local macro_rules
  | `(tactic| exists $es,*) => `(tactic| (with_reducible apply PL.j_seqL))
local macro_rules
  | `(tactic| exists $es,*) => `(tactic| (with_reducible apply PL.j_tm))
local macro_rules
  | `(tactic| exists $es,*) => `(tactic| (with_reducible apply PL.j_bv))
local macro_rules
  | `(tactic| exists $es,*) => `(tactic| (with_reducible apply PL.j_truB))
local macro_rules
  | `(tactic| exists $es,*) => `(tactic| (with_reducible apply PL.j_tupT))
local macro_rules
  | `(tactic| exists $es,*) => `(tactic| (with_reducible apply PL.j_tupL))
local macro_rules
  | `(tactic| exists $es,*) => `(tactic| (with_reducible apply PL.j_listT))
local macro_rules
  | `(tactic| exists $es,*) => `(tactic| (with_reducible apply PL.j_listL))
local macro_rules
  | `(tactic| exists $es,*) => `(tactic| (with_reducible apply PL.j_abs))
local macro_rules
  | `(tactic| exists $es,*) => `(tactic| (with_reducible apply PL.j_int))
local macro_rules
  | `(tactic| exists $es,*) => `(tactic| (with_reducible apply PL.j_lenT))
local macro_rules
  | `(tactic| exists $es,*) => `(tactic| (with_reducible apply PL.j_lenL))
local macro_rules
  | `(tactic| exists $es,*) => `(tactic| (with_reducible apply PL.j_isNotN))
local macro_rules
  | `(tactic| exists $es,*) => `(tactic| (with_reducible apply PL.j_isN))
local macro_rules
  | `(tactic| exists $es,*) => `(tactic| (with_reducible apply PL.u_borO))
local macro_rules
  | `(tactic| exists $es,*) => `(tactic| (with_reducible apply PL.u_borE))
local macro_rules
  | `(tactic| exists $es,*) => `(tactic| (with_reducible apply PL.u_borT))
local macro_rules
  | `(tactic| exists $es,*) => `(tactic| (with_reducible apply PL.u_sliceO))
local macro_rules
  | `(tactic| exists $es,*) => `(tactic| (with_reducible apply PL.u_slice))
local macro_rules
  | `(tactic| exists $es,*) => `(tactic| (with_reducible apply PL.u_pS))
local macro_rules
  | `(tactic| exists $es,*) => `(tactic| (with_reducible apply PL.u_ixO))
local macro_rules
  | `(tactic| exists $es,*) => `(tactic| (with_reducible apply PL.u_lc))
local macro_rules
  | `(tactic| exists $es,*) => `(tactic| (with_reducible apply PL.u_callO))
local macro_rules
  | `(tactic| exists $es,*) => `(tactic| (with_reducible apply PL.u_ifE))
local macro_rules
  | `(tactic| exists $es,*) => `(tactic| (with_reducible apply PL.u_tru))
local macro_rules
  | `(tactic| exists $es,*) => `(tactic| (with_reducible apply PL.u_una))
local macro_rules
  | `(tactic| exists $es,*) => `(tactic| (with_reducible apply PL.u_binO))
local macro_rules
  | `(tactic| exists $es,*) => `(tactic| (with_reducible apply PL.u_strM))
local macro_rules
  | `(tactic| exists $es,*) => `(tactic| (with_reducible apply PL.u_pN))
local macro_rules
  | `(tactic| exists $es,*) => `(tactic| (with_reducible apply PL.y_yes))
local macro_rules
  | `(tactic| exists $es,*) => `(tactic| (with_reducible apply PL.z_owL))
local macro_rules
  | `(tactic| exists $es,*) => `(tactic| (with_reducible apply PL.u_isi))
local macro_rules
  | `(tactic| exists $es,*) => `(tactic| (with_reducible apply PL.u_aplO))
local macro_rules
  | `(tactic| exists $es,*) => `(tactic| (with_reducible apply PL.u_own))
local macro_rules
  | `(tactic| exists $es,*) => `(tactic| (with_reducible apply PL.u_notV))
local macro_rules
  | `(tactic| exists $es,*) => `(tactic| (with_reducible apply PL.u_orV))
local macro_rules
  | `(tactic| exists $es,*) => `(tactic| (with_reducible apply PL.u_andV))
local macro_rules
  | `(tactic| exists $es,*) => `(tactic| (with_reducible apply PL.y_retI))
local macro_rules
  | `(tactic| exists $es,*) => `(tactic| (with_reducible apply PL.y_retB))
local macro_rules
  | `(tactic| exists $es,*) => `(tactic| (with_reducible apply PL.u_putAug))
local macro_rules
  | `(tactic| exists $es,*) => `(tactic| (with_reducible apply PL.u_aug))
local macro_rules
  | `(tactic| exists $es,*) => `(tactic| (with_reducible apply PL.u_frz))
local macro_rules
  | `(tactic| exists $es,*) => `(tactic| (with_reducible apply PL.u_pop))
local macro_rules
  | `(tactic| exists $es,*) => `(tactic| (with_reducible apply PL.u_popAt))
local macro_rules
  | `(tactic| exists $es,*) => `(tactic| (with_reducible apply PL.u_ins))
local macro_rules
  | `(tactic| exists $es,*) => `(tactic| (with_reducible apply PL.u_retV))
local macro_rules
  | `(tactic| exists $es,*) => `(tactic| (with_reducible apply PL.u_retO))
local macro_rules
  | `(tactic| exists $es,*) => `(tactic| (with_reducible apply PL.y_brk))
local macro_rules
  | `(tactic| exists $es,*) => `(tactic| (with_reducible apply PL.y_cont))
local macro_rules
  | `(tactic| exists $es,*) => `(tactic| (with_reducible apply PL.y_retN))
local macro_rules
  | `(tactic| exists $es,*) => `(tactic| (with_reducible apply PL.z_try))
local macro_rules
  | `(tactic| exists $es,*) => `(tactic| (with_reducible apply PL.u_put))
local macro_rules
  | `(tactic| exists $es,*) => `(tactic| (with_reducible apply PL.u_raise))
local macro_rules
  | `(tactic| exists $es,*) => `(tactic| (with_reducible apply PL.u_for))
local macro_rules
  | `(tactic| exists $es,*) => `(tactic| (with_reducible apply PL.u_drop))
local macro_rules
  | `(tactic| exists $es,*) => `(tactic| (with_reducible apply PL.u_app))
local macro_rules
  | `(tactic| exists $es,*) => `(tactic| (with_reducible apply PL.u_setO))
local macro_rules
  | `(tactic| exists $es,*) => `(tactic| (with_reducible apply PL.u_if))
local macro_rules
  | `(tactic| exists $es,*) => `(tactic| with_reducible assumption)
local macro_rules
  | `(tactic| exists $es,*) => `(tactic| first $[| with_reducible apply $es]*)
local macro_rules
  | `(tactic| exists $es,*) => `(tactic| (with_reducible apply PL.z_brk))
local macro_rules
  | `(tactic| exists $es,*) => `(tactic| (with_reducible apply PL.z_cont))
local macro_rules
  | `(tactic| exists $es,*) => `(tactic| (with_reducible apply PL.y_rexc))
local macro_rules
  | `(tactic| exists $es,*) => `(tactic| (with_reducible apply PL.z_tryret))
local macro_rules
  | `(tactic| exists $es,*) => `(tactic| (with_reducible apply PL.z_trynext))
local macro_rules
  | `(tactic| exists $es,*) => `(tactic| (with_reducible apply PL.z_rvOexc))
local macro_rules
  | `(tactic| exists $es,*) => `(tactic| (with_reducible apply PL.z_rvOow))
local macro_rules
  | `(tactic| exists $es,*) => `(tactic| (with_reducible apply PL.z_rvexc))
local macro_rules
  | `(tactic| exists $es,*) => `(tactic| (with_reducible apply PL.z_bexc))
local macro_rules
  | `(tactic| exists $es,*) => `(tactic| (with_reducible apply PL.z_ofexc))
local macro_rules
  | `(tactic| exists $es,*) => `(tactic| (with_reducible apply PL.z_exc))
local macro_rules
  | `(tactic| exists $es,*) => `(tactic| (with_reducible apply PL.z_ret))
local macro_rules
  | `(tactic| exists $es,*) => `(tactic| (((with_reducible apply PL.z_itef); (first | with_reducible rfl | with_reducible assumption | ((with_reducible apply PL.decF); with_reducible assumption) | ((with_reducible refine (?_ : PL.isiB _ _ = _)); rfl) | ((with_reducible refine (?_ : PL.isNonD _ = _)); rfl) | ((with_reducible refine (?_ : PL.scl _ = _)); rfl) | ((with_reducible refine (?_ : PL.sclA _ = _)); rfl) | ((with_reducible apply PL.notF); first | with_reducible rfl | with_reducible assumption | ((with_reducible apply PL.decT); with_reducible assumption) | ((with_reducible refine (?_ : PL.isiB _ _ = _)); rfl) | ((with_reducible refine (?_ : PL.isNonD _ = _)); rfl) | ((with_reducible refine (?_ : PL.scl _ = _)); rfl) | ((with_reducible refine (?_ : PL.sclA _ = _)); rfl))))))
local macro_rules
  | `(tactic| exists $es,*) => `(tactic| (((with_reducible apply PL.z_itet); (first | with_reducible rfl | with_reducible assumption | ((with_reducible apply PL.decT); with_reducible assumption) | ((with_reducible refine (?_ : PL.isiB _ _ = _)); rfl) | ((with_reducible refine (?_ : PL.isNonD _ = _)); rfl) | ((with_reducible refine (?_ : PL.scl _ = _)); rfl) | ((with_reducible refine (?_ : PL.sclA _ = _)); rfl) | ((with_reducible apply PL.notT); first | with_reducible rfl | with_reducible assumption | ((with_reducible apply PL.decF); with_reducible assumption) | ((with_reducible refine (?_ : PL.isiB _ _ = _)); rfl) | ((with_reducible refine (?_ : PL.isNonD _ = _)); rfl) | ((with_reducible refine (?_ : PL.scl _ = _)); rfl) | ((with_reducible refine (?_ : PL.sclA _ = _)); rfl))))))
local macro_rules
  | `(tactic| exists $es,*) => `(tactic| (with_reducible apply PL.j_bOf))
local macro_rules
  | `(tactic| exists $es,*) => `(tactic| (with_reducible apply PL.z_rvow))
local macro_rules
  | `(tactic| exists $es,*) => `(tactic| (with_reducible apply PL.z_rvsh))
local macro_rules
  | `(tactic| exists $es,*) => `(tactic| (with_reducible apply PL.y_nx))
local macro_rules
  | `(tactic| exists $es,*) => `(tactic| (with_reducible apply PL.u_ret))
local macro_rules
  | `(tactic| exists $es,*) => `(tactic| (with_reducible apply PL.u_it))
local macro_rules
  | `(tactic| exists $es,*) => `(tactic| (with_reducible apply PL.u_andB))
local macro_rules
  | `(tactic| exists $es,*) => `(tactic| (with_reducible apply PL.u_orB))
local macro_rules
  | `(tactic| exists $es,*) => `(tactic| (with_reducible apply PL.u_notB))
local macro_rules
  | `(tactic| exists $es,*) => `(tactic| (with_reducible apply PL.u_tst))
local macro_rules
  | `(tactic| exists $es,*) => `(tactic| (with_reducible apply PL.u_call))
local macro_rules
  | `(tactic| exists $es,*) => `(tactic| (with_reducible apply PL.u_set))
local macro_rules
  | `(tactic| exists $es,*) => `(tactic| (with_reducible apply PL.u_apl))
local macro_rules
  | `(tactic| exists $es,*) => `(tactic| (with_reducible apply PL.u_cons))
local macro_rules
  | `(tactic| exists $es,*) => `(tactic| (with_reducible apply PL.u_bin))
local macro_rules
  | `(tactic| exists $es,*) => `(tactic| (with_reducible apply PL.y_exc))
local macro_rules
  | `(tactic| exists $es,*) => `(tactic| (with_reducible apply PL.y_ret))
local macro_rules
  | `(tactic| exists $es,*) => `(tactic| (with_reducible apply PL.y_next))
local macro_rules
  | `(tactic| exists $es,*) => `(tactic| (with_reducible apply PL.z_set))
local macro_rules
  | `(tactic| exists $es,*) => `(tactic| (with_reducible apply PL.u_nil))
local macro_rules
  | `(tactic| exists $es,*) => `(tactic| (with_reducible apply PL.z_setS))
local macro_rules
  | `(tactic| exists $es,*) => `(tactic| (with_reducible apply PL.z_set0))
local macro_rules
  | `(tactic| exists $es,*) => `(tactic| (with_reducible apply PL.y_c))
local macro_rules
  | `(tactic| exists $es,*) => `(tactic| (with_reducible apply PL.z_var))
local macro_rules
  | `(tactic| exists $es,*) => `(tactic| (with_reducible apply PL.z_S))
local macro_rules
  | `(tactic| exists $es,*) => `(tactic| (with_reducible apply PL.z_0))
local macro_rules
  | `(tactic| exists $es,*) => `(tactic| (with_reducible apply PL.z_ofok))
local macro_rules
  | `(tactic| exists $es,*) => `(tactic| (with_reducible apply PL.y_ok))
local macro_rules
  | `(tactic| exists $es,*) => `(tactic| (with_reducible apply PL.z_bok))
local macro_rules
  | `(tactic| exists $es,*) => `(tactic| (with_reducible apply PL.z_seq))
local macro_rules
  | `(tactic| exists $es,*) => `(tactic| (with_reducible apply PL.z_next))

set_option maxRecDepth 100000
set_option maxHeartbeats 1000000
namespace PL
open PySem
/-- the signs of a name -/
def lett (c : Nat) : Bool := decide (97 ≤ c) && decide (c ≤ 122)
def dgt (c : Nat) : Bool := decide (48 ≤ c) && decide (c ≤ 57)
def nmOk : List Nat → Bool | [] => false | c :: cs => lett c && cs.all (fun x => lett x || dgt x) && decide (cs.length ≤ 11)
def nm (cs : List Nat) : Str := ⟨cs.toArray⟩
theorem in_letters (c : Nat) : decide (c ∈ ("abcdefghijklmnopqrstuvwxyz" : Str).cps.toList) = lett c := by
  have e : ("abcdefghijklmnopqrstuvwxyz" : Str).cps.toList = [97, 98, 99, 100, 101, 102, 103, 104, 105, 106, 107, 108, 109, 110, 111, 112, 113, 114, 115, 116, 117, 118, 119, 120, 121, 122] := by decide +kernel
  rw [e]
  unfold lett
  simp only [List.mem_cons, List.not_mem_nil, or_false]
  rw [Bool.eq_iff_iff]
  simp only [decide_eq_true_eq, Bool.and_eq_true]
  omega
theorem in_digits (c : Nat) : decide (c ∈ ("0123456789" : Str).cps.toList) = dgt c := by
  have e : ("0123456789" : Str).cps.toList = [48, 49, 50, 51, 52, 53, 54, 55, 56, 57] := by decide +kernel
  rw [e]
  unfold dgt
  simp only [List.mem_cons, List.not_mem_nil, or_false]
  rw [Bool.eq_iff_iff]
  simp only [decide_eq_true_eq, Bool.and_eq_true]
  omega
theorem notin_letters (c : Nat) : notInD (.str ⟨#[c]⟩) (.str "abcdefghijklmnopqrstuvwxyz") = .ok (.bl (!lett c)) := by
  show Res.ok (D.bl (!decide (c ∈ ("abcdefghijklmnopqrstuvwxyz" : Str).cps.toList))) = _
  rw [in_letters]
theorem notin_digits (c : Nat) : notInD (.str ⟨#[c]⟩) (.str "0123456789") = .ok (.bl (!dgt c)) := by
  show Res.ok (D.bl (!decide (c ∈ ("0123456789" : Str).cps.toList))) = _
  rw [in_digits]
abbrev yes : Res RV := .ok (.sh (.bl true))
abbrev no : Res RV := .ok (.sh (.bl false))
abbrev bv (b : Bool) : Res RV := .ok (.sh (.bl b))
theorem nm_len {p : List Nat} (h : nmOk p = true) : 1 ≤ p.length ∧ p.length ≤ 12 := by
  cases p with
  | nil => cases h
  | cons c cs =>
    unfold nmOk at h
    simp only [Bool.and_eq_true, decide_eq_true_eq] at h
    simp only [List.length_cons]
    omega
mutual
def pl : D → Bool
  | .str s => PyData.strOk s
  | .tup xs => plA xs && decide (xs.length ≤ 1000)
  | .lst xs => plA xs && decide (xs.length ≤ 1000)
  | .scr _ => false
  | _ => true
def plA : List D → Bool
  | [] => true
  | x :: xs => pl x && plA xs
end
mutual
def dep : D → Nat
  | .tup xs => depA xs + 1
  | .lst xs => depA xs + 1
  | _ => 0
def depA : List D → Nat
  | [] => 0
  | x :: xs => max (dep x) (depA xs)
end
theorem plA_mem : ∀ {xs : List D} {x : D}, plA xs = true → x ∈ xs → pl x = true
  | y :: ys, x, h, m => by
    unfold plA at h
    rw [Bool.and_eq_true] at h
    rcases List.mem_cons.mp m with e | e
    · subst e; exact h.1
    · exact plA_mem h.2 e
theorem depA_mem : ∀ {xs : List D} {x : D}, x ∈ xs → dep x ≤ depA xs
  | y :: ys, x, m => by
    unfold depA
    rcases List.mem_cons.mp m with e | e
    · subst e; omega
    · have := depA_mem e; omega
theorem ix_tup (xs : List D) (k : Nat) (h : k < xs.length) : ixD (.tup xs) (.int (k : Nat)) = .ok xs[k] := by
  show (match L2.atI xs (k : Nat) with | some d => Res.ok d | none => .stuck) = _
  rw [atI_nat, List.getElem?_eq_getElem h]
theorem ix_lst (xs : List D) (k : Nat) (h : k < xs.length) : ixD (.lst xs) (.int (k : Nat)) = .ok xs[k] := by
  show (match L2.atI xs (k : Nat) with | some d => Res.ok d | none => .stuck) = _
  rw [atI_nat, List.getElem?_eq_getElem h]
theorem plA_of : ∀ {xs : List D}, (∀ x ∈ xs, pl x = true) → plA xs = true
  | [], _ => rfl
  | x :: xs, h => by
    unfold plA
    rw [h x List.mem_cons_self, plA_of fun y hy => h y (List.mem_cons_of_mem _ hy)]
    rfl
theorem depA_of {n : Nat} : ∀ {xs : List D}, (∀ x ∈ xs, dep x ≤ n) → depA xs ≤ n
  | [], _ => Nat.zero_le _
  | x :: xs, h => by
    unfold depA
    have h1 := h x List.mem_cons_self
    have h2 := depA_of (n := n) fun y hy => h y (List.mem_cons_of_mem _ hy)
    omega
theorem nm_length (p : List Nat) : (nm p).length = p.length := by show p.toArray.size = _; simp
theorem nm_app (p q : List Nat) : nm p ++ nm q = nm (p ++ q) := by
  show (⟨p.toArray ++ q.toArray⟩ : Str) = ⟨(p ++ q).toArray⟩
  rw [List.append_toArray]
theorem cut_nm (p : List Nat) (k : Nat) : L2.cutS (nm p) none (some (k : Int)) = nm (p.take k) := by
  unfold L2.cutS
  rw [nm_length, HT.sIx_none, HT.sIx_nat]
  show (⟨_⟩ : Str) = ⟨_⟩
  congr 2
  have e : (nm p).cps.toList = p := by simp [nm]
  rw [e, List.drop_zero, Nat.sub_zero, List.take_eq_take_iff]
  omega
theorem lit_ : (" " : Str) = nm [32] := by decide +kernel
theorem lit0 : ("" : Str) = nm [] := by decide +kernel
theorem mod_int (a b : Int) (h : 0 < b) : modD (.int a) (.int b) = .ok (.int (a % b)) := gd_pos h
theorem fdiv_int (a b : Int) (h : 0 < b) (h2 : b < 18446744073709551616) : fdivD (.int a) (.int b) = .ok (.int (a / b)) := gd_pos ⟨h, h2⟩
theorem mul_int (a b : Int) (h : a.natAbs < 2 ^ 100) (h2 : b.natAbs < 2 ^ 100) : mulD (.int a) (.int b) = .ok (.int (a * b)) := by
  refine gd_pos ?_
  have x := PySem.Flt.log2_lt_of (by decide) h
  have y := PySem.Flt.log2_lt_of (by decide) h2
  omega
def Draws (n : Nat) (lim : Int) (xs : List Int) : Prop := xs.length = n ∧ ∀ x ∈ xs, 0 ≤ x ∧ x < lim
theorem pow18 : powD (.int 10) (.int 18) = .ok (.int 1000000000000000000) := by
  show gd _ (Res.ok (D.int (10 ^ (18 : Int).toNat))) = _
  rw [gd_pos (by decide)]
  rw [show (10 : Int) ^ (18 : Int).toNat = 1000000000000000000 from by decide]
theorem draw_get {n : Nat} {lim : Int} {xs : List Int} (h : Draws n lim xs) {k : Nat} (hk : k < n) : ∃ x, ixD (.lst (xs.map D.int)) (.int (k : Nat)) = .ok (.int x) ∧ 0 ≤ x ∧ x < lim := by
  have hk' : k < xs.length := by rw [h.1]; exact hk
  refine ⟨xs[k], ?_, h.2 _ (List.getElem_mem hk')⟩
  rw [ix_lst _ _ (by rw [List.length_map]; exact hk'), List.getElem_map]
def lets : List Nat := [97, 98, 99, 100, 101, 102, 103, 104, 105, 106, 107, 108, 109, 110, 111, 112, 113, 114, 115, 116, 117, 118, 119, 120, 121, 122, 48, 49, 50, 51, 52, 53, 54, 55, 56, 57]
theorem lets_ok : ∀ i : Fin 36, (lett (lets[i.1]'i.2) || dgt (lets[i.1]'i.2)) = true ∧ (i.1 < 26 → lett (lets[i.1]'i.2) = true) := by decide
abbrev LET : D := .str "abcdefghijklmnopqrstuvwxyz0123456789"
theorem lets_ix {i : Int} (h0 : 0 ≤ i) (h : i < 36) : ∃ c, ixD LET (.int i) = .ok (.str (nm [c])) ∧ (lett c || dgt c) = true ∧ (i < 26 → lett c = true) := by
  obtain ⟨j, rfl⟩ := Int.eq_ofNat_of_zero_le h0
  have hj : j < 36 := by omega
  obtain ⟨h1, h2⟩ := lets_ok ⟨j, hj⟩
  refine ⟨lets[j]'hj, ?_, h1, fun z => h2 (by show j < 26; omega)⟩
  have e : ("abcdefghijklmnopqrstuvwxyz0123456789" : Str).cps.toList = lets := by decide +kernel
  show gd _ (match L2.atI ("abcdefghijklmnopqrstuvwxyz0123456789" : Str).cps.toList (j : Nat) with | some c => Res.ok (D.str ⟨#[c]⟩) | none => .stuck) = _
  rw [gd_pos (sz _ (by decide +kernel)), e, atI_nat, List.getElem?_eq_getElem hj]
  rfl
def Nq (p : List Nat) : Prop := ∃ c cs, p = c :: cs ∧ lett c = true ∧ ∀ x ∈ cs, (lett x || dgt x) = true
theorem nq_ok {p : List Nat} (h : Nq p) (hl : p.length ≤ 12) : nmOk p = true := by
  obtain ⟨c, cs, rfl, h1, h2⟩ := h
  show (lett c && cs.all (fun x => lett x || dgt x) && decide (cs.length ≤ 11)) = true
  simp only [List.length_cons] at hl
  rw [h1, List.all_eq_true.mpr h2, decide_eq_true (by omega)]
  rfl
theorem add_nm (p : List Nat) (c : Nat) (h : p.length ≤ 100) : addD (.str (nm p)) (.str (nm [c])) = .ok (.str (nm (p ++ [c]))) := by
  show gd _ (Res.ok (D.str (nm p ++ nm [c]))) = _
  rw [gd_pos (sz _ (by rw [nm_length, nm_length]; simp only [List.length_cons, List.length_nil]; omega)), nm_app]
def allD (cs : List Nat) : Bool := cs.all dgt
def canon (cs : List Nat) : Bool := match cs with | [] => false | [_] => true | c :: _ :: _ => c != 48
def vl (cs : List Nat) : Nat := NumText.digitsVal cs
def goodNum (high : Nat) (cs : List Nat) : Bool := allD cs && canon cs && decide (vl cs ≤ high)
theorem allD_mem {cs : List Nat} (h : allD cs = true) : NumText.AllDigits cs := fun c hc => by
  have := List.all_eq_true.mp h c hc
  unfold dgt at this
  simp only [Bool.and_eq_true, decide_eq_true_eq] at this
  exact this
theorem numL_head : ∀ n : Nat, 10 ≤ n → ∃ c r, TL.numL n = c :: r ∧ c ≠ 48 ∧ r ≠ [] := by
  intro n
  induction n using Nat.strongRecOn with
  | _ n ih =>
    intro h
    rw [TL.numL_step h]
    by_cases h2 : n / 10 < 10
    · rw [TL.numL_lt h2]
      exact ⟨48 + n / 10, [48 + n % 10], rfl, by omega, by simp⟩
    · obtain ⟨c, r, e, hc, hr⟩ := ih (n / 10) (by omega) (by omega)
      exact ⟨c, r ++ [48 + n % 10], by rw [e]; rfl, hc, by simp⟩
theorem numL_canon (n : Nat) : canon (TL.numL n) = true := by
  by_cases h : n < 10
  · rw [TL.numL_lt h]; rfl
  · obtain ⟨c, r, e, hc, hr⟩ := numL_head n (by omega)
    rw [e]
    cases r with
    | nil => exact absurd rfl hr
    | cons d r => show (c != 48) = true; simpa using hc
theorem numL_allD (n : Nat) : allD (TL.numL n) = true := List.all_eq_true.mpr fun c hc => by
  have := TL.numL_digits n c hc
  unfold dgt
  simp only [Bool.and_eq_true, decide_eq_true_eq]
  exact this
theorem vl_snoc (ds : List Nat) (d : Nat) : vl (ds ++ [d]) = 10 * vl ds + (d - 48) := by
  unfold vl
  have := NumText.digitsVal_snoc ds d
  omega
theorem canon_init {ds : List Nat} {d : Nat} (hd : ds ≠ []) (h : canon (ds ++ [d]) = true) : canon ds = true ∧ ∃ c r, ds = c :: r ∧ c ≠ 48 := by
  cases ds with
  | nil => exact absurd rfl hd
  | cons c r =>
    have hc : c ≠ 48 := by
      cases r with
      | nil => have : (c != 48) = true := h; simpa using this
      | cons e r => have : (c != 48) = true := h; simpa using this
    refine ⟨?_, c, r, rfl, hc⟩
    cases r with
    | nil => rfl
    | cons e r => show (c != 48) = true; simpa using hc
theorem numL_back : ∀ (n : Nat) (cs : List Nat), cs.length = n → allD cs = true → canon cs = true → TL.numL (vl cs) = cs := by
  intro n
  induction n with
  | zero =>
    intro cs hl _ hc
    rw [List.length_eq_zero_iff.mp hl] at hc
    cases hc
  | succ n ih =>
    intro cs hl ha hc
    rcases List.eq_nil_or_concat cs with e | ⟨ds, d, e⟩
    · rw [e] at hl; cases hl
    · rw [List.concat_eq_append] at e
      subst e
      have hal := allD_mem ha
      have hd := hal d (by simp)
      have had : allD ds = true := List.all_eq_true.mpr fun x hx => List.all_eq_true.mp ha x (List.mem_append_left _ hx)
      rw [vl_snoc]
      by_cases h0 : ds = []
      · subst h0
        have : vl [] = 0 := rfl
        rw [this, TL.numL_lt (by omega)]
        show [48 + (10 * 0 + (d - 48))] = [d]
        congr 1
        omega
      · obtain ⟨hc2, c, r, e, hne⟩ := canon_init h0 hc
        have hcr := hal c (by rw [e]; simp)
        have hp : 0 < vl ds := by
          rw [e]
          exact NumText.digitsVal_pos (by omega)
        rw [TL.numL_step (by omega)]
        have e1 : (10 * vl ds + (d - 48)) / 10 = vl ds := by omega
        have e2 : 48 + (10 * vl ds + (d - 48)) % 10 = d := by omega
        rw [e1, e2, ih ds (by simpa using hl) had hc2]
theorem numL_iff {cs : List Nat} (ha : allD cs = true) : TL.numL (vl cs) = cs ↔ canon cs = true :=
  ⟨fun e => by rw [← e]; exact numL_canon _, numL_back _ cs rfl ha⟩
theorem int_word {cs : List Nat} (ha : allD cs = true) (hne : cs ≠ []) (hl : cs.length ≤ 640) : intL [.str (nm cs)] = .ok (.int ((vl cs : Nat) : Int)) := by
  have e : PySem.intText? (nm cs) = some ((vl cs : Nat) : Int) := by
    have h1 : (nm cs).cps.toList = cs := by simp [nm]
    have h2 := PySem.intText_digits (x := nm cs) (by rw [h1]; exact allD_mem ha) (by rw [h1]; exact hne) (by rw [nm_length]; omega)
    rw [h1] at h2
    exact h2
  show (match PySem.intText? (nm cs) with | some n => gd ((nm cs).length ≤ 640) (Res.ok (D.int n)) | none => .stuck) = _
  rw [e]
  exact gd_pos (by rw [nm_length]; exact hl)
theorem str_num (n : Nat) (h : n < 2 ^ 200) : strL [.int ((n : Nat) : Int)] = .ok (.str (nm (TL.numL n))) := by
  have h2 : (((n : Nat) : Int)).natAbs < 2 ^ 200 := by rw [Int.natAbs_natCast]; exact h
  have hlog : (((n : Nat) : Int)).natAbs.log2 < 1920 := Nat.lt_trans (PySem.Flt.log2_lt_of (k := 200) (by decide) h2) (by decide)
  show gd ((((n : Nat) : Int)).natAbs.log2 < 1920) (Res.ok (D.str (Str.ofString (toString ((n : Nat) : Int))))) = _
  rw [gd_pos hlog]
  have : Str.ofString (toString ((n : Nat) : Int)) = nm (TL.numL n) := TL.ext_tl (by rw [TL.tl_num]; simp [nm, TL.tl])
  rw [this]
theorem vl_lt : ∀ (n : Nat) (cs : List Nat), cs.length = n → allD cs = true → vl cs < 10 ^ n := by
  intro n
  induction n with
  | zero => intro cs hl _; rw [List.length_eq_zero_iff.mp hl]; decide
  | succ n ih =>
    intro cs hl ha
    rcases List.eq_nil_or_concat cs with e | ⟨ds, d, e⟩
    · rw [e] at hl; cases hl
    · rw [List.concat_eq_append] at e
      subst e
      have hd := allD_mem ha d (by simp)
      have := ih ds (by simpa using hl) (List.all_eq_true.mpr fun x hx => List.all_eq_true.mp ha x (List.mem_append_left _ hx))
      rw [vl_snoc, Nat.pow_succ]
      omega
def asc (cs : List Nat) : Bool := cs.all fun c => decide (c < 128)
def wOk (cs : List Nat) : Prop := asc cs = true ∧ cs.length ≤ 40
theorem asc_ok {cs : List Nat} (h : asc cs = true) : PyData.strOk (nm cs) = true := by
  unfold PyData.strOk nm
  simp only [List.all_toArray, List.all_eq_true, decide_eq_true_eq]
  intro c hc
  have := List.all_eq_true.mp h c hc
  simp only [decide_eq_true_eq] at this
  omega
theorem nm_inj {a b : List Nat} : nm a = nm b ↔ a = b := ⟨fun h => by
  have := congrArg (fun x : Str => x.cps.toList) h
  simpa [nm] using this, fun h => by rw [h]⟩
theorem eq_nm {a b : List Nat} (h : asc a = true) (h2 : asc b = true) : eqD (.str (nm a)) (.str (nm b)) = .ok (.bl (decide (a = b))) := by
  rw [eq_str (asc_ok h) (asc_ok h2)]
  have : decide (nm a = nm b) = decide (a = b) := by
    rw [decide_eq_decide]; exact nm_inj
  rw [this]
theorem ne_nm {a b : List Nat} (h : asc a = true) (h2 : asc b = true) : neD (.str (nm a)) (.str (nm b)) = .ok (.bl (!decide (a = b))) := ne_of_eqD (eq_nm h h2)
theorem len_nm (cs : List Nat) (h : cs.length ≤ 10000000) : lenL [.str (nm cs)] = .ok (.int (cs.length : Nat)) := by
  show gd ((nm cs).length ≤ sizeLine) (Res.ok (D.int ((nm cs).length : Nat))) = _
  rw [nm_length, gd_pos (sz _ (by omega))]
theorem signs_nm (cs : List Nat) : signs (nm cs) = cs.map fun c => .str ⟨#[c]⟩ := by
  have hx : (nm cs).cps.toList = cs := by simp [nm]
  unfold signs; rw [hx]
theorem numL_asc (n : Nat) : asc (TL.numL n) = true := List.all_eq_true.mpr fun c hc => by
  have := TL.numL_digits n c hc
  simp only [decide_eq_true_eq]; omega
theorem good_len {cs : List Nat} {high : Nat} (hh : high ≤ 1000000) (h : goodNum high cs = true) : cs.length ≤ 7 := by
  unfold goodNum at h
  simp only [Bool.and_eq_true, decide_eq_true_eq] at h
  obtain ⟨⟨ha, hc⟩, hv⟩ := h
  have := (numL_iff ha).mpr hc
  rw [← this]
  exact TL.numL_len (by decide) (by omega)
theorem or_eq {f g : En → Res Bool} {ρ : En} {x y : Bool} (h : f ρ = .ok x) (h2 : g ρ = .ok y) : orB f g ρ = .ok (x || y) := by
  unfold orB; rw [h, bind_ok]; cases x
  · rw [if_neg (by decide), h2, Bool.false_or]
  · rfl
theorem and_eq {f g : En → Res Bool} {ρ : En} {x y : Bool} (h : f ρ = .ok x) (h2 : x = true → g ρ = .ok y) : andB f g ρ = .ok (x && y) := by
  unfold andB; rw [h, bind_ok]; cases x
  · rfl
  · rw [if_pos rfl, h2 rfl, Bool.true_and]
theorem lit_zero : ("0" : Str) = nm [48] := by decide +kernel
def WS (ws : List (List Nat)) : D := .lst (ws.map fun w => .str (nm w))
theorem ws_len (ws : List (List Nat)) : lenL [WS ws] = .ok (.int (ws.length : Nat)) := by
  unfold WS; rw [len_lst, List.length_map]
theorem ws_ix (ws : List (List Nat)) (k : Nat) (h : k < ws.length) : ixD (WS ws) (.int (k : Nat)) = .ok (.str (nm ws[k])) := by
  unfold WS; rw [ix_lst _ _ (by rw [List.length_map]; exact h), List.getElem_map]
theorem bt3 (a b c : D) : mkBT [a, b, c] = .ok (.badText a b c) := rfl
theorem raise_eq {mk : List D → Res Exc} {fs : En → Res (List D)} {ρ : En} {ds : List D} {e : Exc} (h : fs ρ = .ok ds) (h2 : mk ds = .ok e) : sRaise mk fs ρ = .exc e ρ := by unfold sRaise; rw [h, ofR_ok, h2, ofR_ok]
theorem set_exc {i : Nat} {f : En → Res D} {ρ : En} {e : Exc} (h : f ρ = .exc e) : sSet i f ρ = .exc e ρ := by unfold sSet; rw [h, ofR_exc]
theorem nm_tl (l : List Nat) : TL.tl (nm l) = l := by simp [nm, TL.tl]
theorem map_nm_tl : ∀ l : List (List Nat), (l.map nm).map TL.tl = l
  | [] => rfl
  | x :: l => by rw [List.map_cons, List.map_cons, nm_tl, map_nm_tl l]
theorem split_nm {a b : List Nat} (hb : b ≠ []) (hk : b.all (· < 256) = true) : Txt.split (nm a) (nm b) = (TL.spl b 0 [] a).map nm := by
  refine TL.map_tl_inj ?_
  rw [map_nm_tl]
  have h := TL.split_spl (nm a) (nm b) (by rw [nm_tl]; exact hb) (TL.kind_ok (by rw [← Array.all_toList]; simpa [nm] using hk))
  rw [nm_tl, nm_tl] at h
  exact h
theorem join_nm (a : List Nat) (ys : List (List Nat)) : Txt.join (nm a) (ys.map nm) = nm (TL.joinL a ys) := by
  refine TL.ext_tl ?_
  rw [TL.join_eq, TL.tl_join, map_nm_tl, nm_tl, nm_tl]
theorem join_spl {a b : List Nat} (hb : b ≠ []) (hk : b.all (· < 256) = true) : TL.joinL b (TL.spl b 0 [] a) = a := by
  have h := StrLaws.join_split (nm a) (nm b)
  rw [split_nm hb hk] at h
  have h2 := TL.tl_join (nm b) ((TL.spl b 0 [] a).map nm)
  rw [h, map_nm_tl, nm_tl, nm_tl] at h2
  exact h2.symm
theorem lit_sp : (" " : Str) = nm [32] := by decide +kernel
theorem lit_nl : ("\n" : Str) = nm [10] := by decide +kernel
def words (l : List Nat) : List (List Nat) := TL.spl [32] 0 [] l
def linesL (t : List Nat) : List (List Nat) := TL.spl [10] 0 [] t
def lOk (l : List Nat) : Prop := l.length ≤ 5000 ∧ ∀ w ∈ words l, wOk w
theorem strsD (ws : List (List Nat)) : (ws.map nm).map D.str = ws.map fun w => .str (nm w) := by rw [List.map_map]; rfl
theorem split_words {f : En → Res D} {ρ : En} {l : List Nat} (h : f ρ = .ok (.str (nm l))) (hl : l.length ≤ 1000000) : PL.own (strM splitO f (eC (.str " "))) ρ = .ok (WS (words l)) := by
  refine own_eq ?_
  unfold strM
  rw [h, bind_ok]
  show splitO (nm l) (.str " ") = _
  show gd _ (Res.ok ((Txt.split (nm l) " ").map D.str)) = _
  rw [gd_pos ⟨by decide +kernel, sz _ (by rw [nm_length]; omega)⟩, lit_sp, split_nm (by simp) (by decide), strsD]
  rfl
theorem split_lines {f : En → Res D} {ρ : En} {l : List Nat} (h : f ρ = .ok (.str (nm l))) (hl : l.length ≤ 1000000) : strM splitO f (eC (.str "\n")) ρ = .ok ((linesL l).map fun w => .str (nm w)) := by
  unfold strM
  rw [h, bind_ok]
  show gd _ (Res.ok ((Txt.split (nm l) "\n").map D.str)) = _
  rw [gd_pos ⟨by decide +kernel, sz _ (by rw [nm_length]; omega)⟩, lit_nl, split_nm (by simp) (by decide), strsD]
  rfl
theorem aug_eq {i : Nat} {o : Int → Int → Int} {f : En → Res D} {ρ : En} {n m : Int} (h : ρ[i]? = some (.sh (.int n))) (hf : f ρ = .ok (.int m)) : sAug i o f ρ = .next (ρ.set i (.sh (.int (o n m)))) := by
  unfold sAug
  rw [h]
  simp only [hf, ofR_ok]
theorem app_exc {i : Nat} {f : En → Res D} {ρ : En} {xs : List D} {e : Exc} (h : owL ρ i = .ok xs) (hf : f ρ = .exc e) : sApp i f ρ = .exc e ρ := by
  unfold sApp
  rw [h, ofR_ok, hf, ofR_exc]
abbrev LTS : D := .str "abcdefghijklmnopqrstuvwxyz"
theorem in_both (c : Nat) : inD (.str ⟨#[c]⟩) (.str ("abcdefghijklmnopqrstuvwxyz" ++ "0123456789" : Str)) = .ok (.bl (lett c || dgt c)) := by
  show Res.ok (D.bl (decide (c ∈ (("abcdefghijklmnopqrstuvwxyz" : Str) ++ ("0123456789" : Str)).cps.toList))) = _
  have e : (("abcdefghijklmnopqrstuvwxyz" : Str) ++ ("0123456789" : Str)).cps.toList = ("abcdefghijklmnopqrstuvwxyz" : Str).cps.toList ++ ("0123456789" : Str).cps.toList := TL.tl_append _ _
  rw [e]
  have : decide (c ∈ ("abcdefghijklmnopqrstuvwxyz" : Str).cps.toList ++ ("0123456789" : Str).cps.toList) = (decide (c ∈ ("abcdefghijklmnopqrstuvwxyz" : Str).cps.toList) || decide (c ∈ ("0123456789" : Str).cps.toList)) := by
    rw [Bool.eq_iff_iff]; simp only [decide_eq_true_eq, Bool.or_eq_true, List.mem_append]
  rw [this, in_letters, in_digits]
theorem bls_map : ∀ (bs : List Bool), blsOf (bs.map D.bl) = some bs
  | [] => rfl
  | b :: bs => by rw [List.map_cons]; unfold blsOf; rw [bls_map bs]; rfl
/-- texts that are asked -/
def tOk (t : List Nat) : Prop := asc t = true ∧ t.length ≤ 500000 ∧ (linesL t).length ≤ 100 ∧ ∀ l ∈ linesL t, lOk l
theorem for_exc {it : En → Res (List D)} {t : D → En → Res En} {b : En → Out} {ρ : En} {e : Exc} (h : it ρ = .exc e) : sFor it t b ρ = .exc e ρ := by unfold sFor; rw [h, ofR_exc]
theorem it_exc {f : En → Res D} {ρ : En} {e : Exc} (h : f ρ = .exc e) : itE f ρ = .exc e := by unfold itE; rw [h, bind_exc]
theorem cons_x1 {f : En → Res D} {g : En → Res (List D)} {ρ : En} {e : Exc} (h : f ρ = .exc e) : aCons f g ρ = .exc e := by unfold aCons; rw [h, bind_exc]
theorem cons_x2 {f : En → Res D} {g : En → Res (List D)} {ρ : En} {d : D} {e : Exc} (h : f ρ = .ok d) (h2 : g ρ = .exc e) : aCons f g ρ = .exc e := by unfold aCons; rw [h, bind_ok, h2, bind_exc]
theorem app_x {o : List D → Res D} {f : En → Res (List D)} {ρ : En} {e : Exc} (h : f ρ = .exc e) : app o f ρ = .exc e := by unfold app; rw [h, bind_exc]
theorem ret_x {f : En → Res D} {ρ : En} {e : Exc} (h : f ρ = .exc e) : sRet f ρ = .exc e ρ := by unfold sRet; rw [h, ofR_exc]
/-- an error as the law tells it -/
def tell : Exc → D
  | .tooMany l => .tup [.str "many", l]
  | .badValue w => .tup [.str "value", w]
  | .badText l w x => .tup [.str "text", l, w, x]
  | _ => .non
def isMV : Exc → Prop | .tooMany _ => True | .badValue _ => True | .badText _ _ _ => True | _ => False
theorem strsOf_nm : ∀ ws : List (List Nat), strsOf (ws.map fun w => .str (nm w)) = some (ws.map nm)
  | [] => rfl
  | w :: ws => by rw [List.map_cons]; unfold strsOf; rw [strsOf_nm ws]; rfl
theorem join_ok {a : List Nat} {ws : List (List Nat)} (h : (ws.map List.length).sum + ws.length * a.length ≤ 16777216) : joinD (nm a) (.lst (ws.map fun w => .str (nm w))) = .ok (.str (nm (TL.joinL a ws))) := by
  show (match strsOf (ws.map fun w => D.str (nm w)) with | some ys => gd ((ys.map Str.length).sum + ys.length * (nm a).length ≤ 16777216) (Res.ok (D.str (Txt.join (nm a) ys))) | none => .stuck) = _
  rw [strsOf_nm]
  have e : (ws.map nm).map Str.length = ws.map List.length := by
    rw [List.map_map]
    exact List.map_congr_left fun w _ => nm_length w
  show gd (((ws.map nm).map Str.length).sum + (ws.map nm).length * (nm a).length ≤ 16777216) (Res.ok (D.str (Txt.join (nm a) (ws.map nm)))) = _
  rw [e, List.length_map, nm_length, gd_pos h, join_nm]
theorem strM_eq {α : Type} {o : Str → D → Res α} {f g : En → Res D} {ρ : En} {s : Str} {d : D} {r : Res α} (h : f ρ = .ok (.str s)) (h2 : g ρ = .ok d) (hr : o s d = r) : strM o f g ρ = r := by
  unfold strM; rw [h, bind_ok]; show (g ρ).bind _ = _; rw [h2, bind_ok]; exact hr
theorem joinL_len (a : List Nat) : ∀ ws : List (List Nat), (TL.joinL a ws).length ≤ (ws.map List.length).sum + ws.length * a.length
  | [] => Nat.zero_le _
  | [p] => by simp [TL.joinL]
  | p :: q :: r => by
    have := joinL_len a (q :: r)
    show (p ++ (a ++ TL.joinL a (q :: r))).length ≤ _
    simp only [List.length_append, List.map_cons, List.sum_cons, List.length_cons, Nat.add_mul] at this ⊢
    omega
theorem sum_le {α : Type} {f : α → Nat} {n : Nat} : ∀ (xs : List α), (∀ x ∈ xs, f x ≤ n) → (xs.map f).sum ≤ xs.length * n
  | [], _ => by simp
  | x :: xs, h => by
    have h1 := h x List.mem_cons_self
    have h2 := sum_le (f := f) (n := n) xs fun y hy => h y (List.mem_cons_of_mem _ hy)
    simp only [List.map_cons, List.sum_cons, List.length_cons, Nat.add_mul]
    omega
theorem setT_eq {i : Nat} {m : List D → Res RV} {fs : En → Res (List D)} {ρ : En} {ds : List D} {d : D} (h : fs ρ = .ok ds) (hm : m ds = .ok (.sh d)) (hn : noTmp ρ i = true) (hs : ds.all sclr = true) : sSetT i m fs ρ = .next (ρ.set i (.tmp d)) := by
  unfold sSetT
  rw [h, ofR_ok, hm]
  simp only [gd_pos (show noTmp ρ i = true ∧ ds.all sclr = true from ⟨hn, hs⟩), ofR_ok]
theorem tmpT_eq {i : Nat} {t : En → Res Bool} {ρ : En} {d : D} {b : Bool} (h : ρ[i]? = some (.tmp d)) (ht : t (ρ.set i (.sh d)) = .ok b) (hn : noTmp ρ i = true) : tmpT i t ρ = .ok b := by
  unfold tmpT
  rw [h]
  simp only [ht, gd_pos hn]
theorem appT_eq {i : Nat} {f : En → Res D} {ρ : En} {a : D} {xs : List D} {d : D} (h : ρ[i]? = some (.tmp (.tup [a, .lst xs]))) (hf : f ρ = .ok d) (hn : noTmp ρ i = true) (hz : xs.length < 16777216) : sAppT i f ρ = .next (ρ.set i .no) := by
  unfold sAppT
  rw [h]
  simp only [hf, ofR_ok, gd_pos (show noTmp ρ i = true ∧ xs.length < sizeLine from ⟨hn, sz' _ hz⟩)]
theorem nmOk_asc {c : List Nat} (h : nmOk c = true) : asc c = true := by
  cases c with
  | nil => cases h
  | cons x r =>
    unfold nmOk at h
    simp only [Bool.and_eq_true, decide_eq_true_eq, List.all_eq_true] at h
    refine List.all_eq_true.mpr fun y hy => ?_
    simp only [decide_eq_true_eq]
    rcases List.mem_cons.mp hy with e | e
    · subst e
      have := h.1.1
      unfold lett at this
      simp only [Bool.and_eq_true, decide_eq_true_eq] at this
      omega
    · have := h.1.2 y e
      unfold lett dgt at this
      simp only [Bool.or_eq_true, Bool.and_eq_true, decide_eq_true_eq] at this
      omega
theorem linesL_join {ls : List (List Nat)} (h : ls ≠ []) (hn : ∀ l ∈ ls, 10 ∉ l) : linesL (TL.joinL [10] ls) = ls := TL.spl_join h hn
theorem words_join {ws : List (List Nat)} (h : ws ≠ []) (hn : ∀ w ∈ ws, 32 ∉ w) : words (TL.joinL [32] ws) = ws := TL.spl_join h hn
/-- a word that may stand in a line -/
def wGood (w : List Nat) : Prop := wOk w ∧ 32 ∉ w ∧ 10 ∉ w
/-- a line made of at most 100 such words -/
def lGood (l : List Nat) : Prop := ∃ ws : List (List Nat), ws ≠ [] ∧ ws.length ≤ 100 ∧ (∀ w ∈ ws, wGood w) ∧ l = TL.joinL [32] ws
theorem joinL_mem {a : List Nat} {c : Nat} : ∀ {ws : List (List Nat)}, c ∈ TL.joinL a ws → c ∈ a ∨ ∃ w ∈ ws, c ∈ w
  | [], h => by cases h
  | [p], h => .inr ⟨p, List.mem_singleton.mpr rfl, h⟩
  | p :: q :: r, h => by
    have h' : c ∈ p ++ (a ++ TL.joinL a (q :: r)) := h
    rcases List.mem_append.mp h' with e | e
    · exact .inr ⟨p, List.mem_cons_self, e⟩
    · rcases List.mem_append.mp e with e | e
      · exact .inl e
      · rcases joinL_mem e with z | ⟨w, hw, z⟩
        · exact .inl z
        · exact .inr ⟨w, List.mem_cons_of_mem _ hw, z⟩
theorem asc_mem {w : List Nat} (h : asc w = true) {c : Nat} (hc : c ∈ w) : c < 128 := by
  have := List.all_eq_true.mp h c hc
  simpa using this
theorem lGood_facts {l : List Nat} (h : lGood l) : lOk l ∧ asc l = true ∧ 10 ∉ l := by
  obtain ⟨ws, h0, hl, hw, rfl⟩ := h
  have hlen : (ws.map List.length).sum ≤ ws.length * 40 := sum_le ws fun w hx => (hw w hx).1.2
  have hj := joinL_len [32] ws
  simp only [List.length_cons, List.length_nil] at hj
  refine ⟨⟨by omega, fun w hx => ?_⟩, List.all_eq_true.mpr fun c hc => ?_, fun hc => ?_⟩
  · rw [words_join h0 fun w hx => (hw w hx).2.1] at hx
    exact (hw w hx).1
  · rcases joinL_mem hc with e | ⟨w, hx, e⟩
    · rw [List.mem_singleton.mp e]; rfl
    · simpa using asc_mem (hw w hx).1.1 e
  · rcases joinL_mem hc with e | ⟨w, hx, e⟩
    · cases List.mem_singleton.mp e
    · exact (hw w hx).2.2 e
theorem tOk_join {ls : List (List Nat)} (h0 : ls ≠ []) (hl : ls.length ≤ 90) (h : ∀ l ∈ ls, lGood l) : tOk (TL.joinL [10] ls) ∧ linesL (TL.joinL [10] ls) = ls := by
  have e := linesL_join h0 fun l hx => (lGood_facts (h l hx)).2.2
  have hlen : (ls.map List.length).sum ≤ ls.length * 5000 := sum_le ls fun l hx => (lGood_facts (h l hx)).1.1
  have hj := joinL_len [10] ls
  simp only [List.length_cons, List.length_nil] at hj
  refine ⟨⟨List.all_eq_true.mpr fun c hc => ?_, by omega, by rw [e]; omega, fun l hx => ?_⟩, e⟩
  · rcases joinL_mem hc with z | ⟨w, hx, z⟩
    · rw [List.mem_singleton.mp z]; rfl
    · simpa using asc_mem (lGood_facts (h w hx)).2.1 z
  · rw [e] at hx
    exact (lGood_facts (h l hx)).1
theorem numL_good (n : Nat) (h : n < 10 ^ 30) : wGood (TL.numL n) :=
  ⟨⟨numL_asc n, Nat.le_trans (TL.numL_len (k := 30) (by decide) h) (by decide)⟩, TL.numL_free (.inl (by decide)), TL.numL_free (.inl (by decide))⟩
theorem name_good {c : List Nat} (h : nmOk c = true) : wGood c := by
  have hl := nm_len h
  have hc : ∀ x ∈ c, (lett x || dgt x) = true := fun x hx => by
    cases c with
    | nil => cases hx
    | cons a r =>
      unfold nmOk at h
      simp only [Bool.and_eq_true, decide_eq_true_eq, List.all_eq_true] at h
      rcases List.mem_cons.mp hx with e | e
      · subst e; rw [h.1.1]; rfl
      · exact h.1.2 x e
  have no : ∀ y : Nat, (lett y || dgt y) = false → y ∉ c := fun y hy hm => by rw [hc y hm] at hy; cases hy
  exact ⟨⟨nmOk_asc h, by omega⟩, no 32 (by decide), no 10 (by decide)⟩
theorem good_num {n high : Nat} (h : n ≤ high) : goodNum high (TL.numL n) = true := by
  unfold goodNum
  have : vl (TL.numL n) = n := TL.numL_val n
  rw [numL_allD, numL_canon, this, decide_eq_true h]
  rfl
theorem pow36 : powD (.int 36) (.int 11) = .ok (.int 131621703842267136) := by
  show gd _ (Res.ok (D.int (36 ^ (11 : Int).toNat))) = _
  rw [gd_pos (by decide)]
  rw [show (36 : Int) ^ (11 : Int).toNat = 131621703842267136 from by decide]
def lG (n : Nat) (l : List Nat) : Prop := ∃ ws : List (List Nat), ws.length ≤ n ∧ (∀ w ∈ ws, wGood w) ∧ l = TL.joinL [32] ws
theorem wGood_nil : wGood [] := ⟨⟨rfl, by decide⟩, by simp, by simp⟩
theorem lG_good {n : Nat} {l : List Nat} (h : lG n l) (hn : n ≤ 99) : lGood l := by
  obtain ⟨ws, h1, h2, h3⟩ := h
  cases ws with
  | nil => exact ⟨[[]], by simp, by simp, fun w hw => by rw [List.mem_singleton.mp hw]; exact wGood_nil, h3⟩
  | cons a r => exact ⟨a :: r, by simp, by omega, h2, h3⟩
theorem if_way {ρ : En} {i : Nat} {x c : Int} {F : En → Out} (hx : ρ[i]? = some (.sh (.int x))) : sIf (tst bOf (PL.bin eqD (eVar i) (eC (.int c)))) F sNext ρ = if x = c then F ρ else .next ρ := by
  have : tst bOf (PL.bin eqD (eVar i) (eC (.int c))) ρ = .ok (decide (x = c)) := tst_eq (bin_eq (show eVar i ρ = .ok (.int x) by unfold eVar; rw [hx]) rfl (eq_int _ _)) rfl
  refine if_eq this ?_
  by_cases h : x = c
  · rw [decide_eq_true h, if_pos h, if_pos rfl]
  · rw [decide_eq_false h, if_neg h, if_neg (by decide)]; rfl
theorem ins_ok {i : Nat} {fs : En → Res (List D)} {ρ : En} {xs : List D} {j : Nat} {d : D} (h : owL ρ i = .ok xs) (hf : fs ρ = .ok [.int ((j : Nat) : Int), d]) (hz : xs.length < 16777216) (hj : j < 100000) : sIns i fs ρ = .next (setL ρ i (xs.take j ++ [d] ++ xs.drop j)) := by
  unfold sIns
  rw [h, ofR_ok, hf, ofR_ok]
  have : insAt xs [.int ((j : Nat) : Int), d] = .ok (xs.take j ++ [d] ++ xs.drop j) := by
    show gd (xs.length < sizeLine ∧ 0 ≤ ((j : Nat) : Int) ∧ ((j : Nat) : Int) < 2 ^ 63) (Res.ok (xs.take ((j : Nat) : Int).toNat ++ [d] ++ xs.drop ((j : Nat) : Int).toNat)) = _
    rw [gd_pos ⟨sz' _ hz, by omega, by omega⟩, Int.toNat_natCast]
  rw [this, ofR_ok]
theorem pop_ok {i : Nat} {f : En → Res D} {ρ : En} {xs : List D} {j : Nat} (h : owL ρ i = .ok xs) (hf : f ρ = .ok (.int ((j : Nat) : Int))) (hj : j < xs.length) (hz : xs.length < 100000) : sPopAt i f ρ = .next (setL ρ i (xs.eraseIdx j)) := by
  unfold sPopAt
  rw [h, ofR_ok, hf, ofR_ok]
  have : popAt xs (.int ((j : Nat) : Int)) = .ok (xs.eraseIdx j) := by
    show gd (0 ≤ ((j : Nat) : Int) ∧ ((j : Nat) : Int) < xs.length ∧ xs.length < 2 ^ 62) (Res.ok (xs.eraseIdx ((j : Nat) : Int).toNat)) = _
    rw [gd_pos ⟨by omega, by omega, by omega⟩, Int.toNat_natCast]
  rw [this, ofR_ok]
abbrev wds (ws : List (List Nat)) : List D := ws.map fun w => .str (nm w)
theorem set_good {ws : List (List Nat)} {j : Nat} {w : List Nat} (h : ∀ x ∈ ws, wGood x) (hw : wGood w) : ∀ x ∈ ws.set j w, wGood x := fun x hx => by
  rcases List.mem_or_eq_of_mem_set hx with e | e
  · exact h x e
  · subst e; exact hw
theorem wds_set (ws : List (List Nat)) (j : Nat) (w : List Nat) : (wds ws).set j (.str (nm w)) = wds (ws.set j w) := by unfold wds; rw [List.map_set]
theorem wds_len (ws : List (List Nat)) : (wds ws).length = ws.length := List.length_map ..
theorem ins_good {ws : List (List Nat)} {j : Nat} {w : List Nat} (h : ∀ x ∈ ws, wGood x) (hw : wGood w) : ∀ x ∈ ws.take j ++ [w] ++ ws.drop j, wGood x := fun x hx => by
  rcases List.mem_append.mp hx with e | e
  · rcases List.mem_append.mp e with e | e
    · exact h x (List.mem_of_mem_take e)
    · rw [List.mem_singleton.mp e]; exact hw
  · exact h x (List.mem_of_mem_drop e)
theorem wds_ins (ws : List (List Nat)) (j : Nat) (w : List Nat) : (wds ws).take j ++ [.str (nm w)] ++ (wds ws).drop j = wds (ws.take j ++ [w] ++ ws.drop j) := by
  unfold wds; rw [List.map_append, List.map_append, List.map_take, List.map_drop]; rfl
theorem wds_get {ws : List (List Nat)} {j : Nat} (hj : j < ws.length) : (wds ws)[j]'(by rw [wds_len]; exact hj) = .str (nm ws[j]) := by unfold wds; rw [List.getElem_map]
theorem split_wordsO {f : En → Res D} {ρ : En} {l : List Nat} (h : f ρ = .ok (.str (nm l))) (hl : l.length ≤ 1000000) : strM splitO f (eC (.str " ")) ρ = .ok ((words l).map fun w => .str (nm w)) := by
  unfold strM
  rw [h, bind_ok]
  show splitO (nm l) (.str " ") = _
  show gd _ (Res.ok ((Txt.split (nm l) " ").map D.str)) = _
  rw [gd_pos ⟨by decide +kernel, sz _ (by rw [nm_length]; omega)⟩, lit_sp, split_nm (by simp) (by decide), strsD]
  rfl
theorem lg_len {ws : List (List Nat)} (hw : ∀ w ∈ ws, wGood w) : (ws.map List.length).sum ≤ ws.length * 40 := sum_le ws fun w hx => (hw w hx).1.2
/-- lines of at most n good words (or empty) -/
def LS (n : Nat) (ls : List (List Nat)) : Prop := ∀ l ∈ ls, lG n l
theorem lG_ne {n : Nat} {l : List Nat} (h : lG n l) (hn : 1 ≤ n) : ∃ ws : List (List Nat), ws ≠ [] ∧ ws.length ≤ n ∧ (∀ w ∈ ws, wGood w) ∧ l = TL.joinL [32] ws := by
  obtain ⟨ws, h1, h2, h3⟩ := h
  cases ws with
  | nil => exact ⟨[[]], by simp, by simpa using hn, fun w hw => by rw [List.mem_singleton.mp hw]; exact wGood_nil, h3⟩
  | cons a r => exact ⟨a :: r, by simp, h1, h2, h3⟩
theorem lG_mono {n m : Nat} {l : List Nat} (h : lG n l) (hn : n ≤ m) : lG m l := by
  obtain ⟨ws, h1, h2, h3⟩ := h
  exact ⟨ws, by omega, h2, h3⟩
theorem lG_nil (n : Nat) : lG n [] := ⟨[], by simp, by simp, rfl⟩
theorem LS_set {n : Nat} {ls : List (List Nat)} {l : List Nat} {j : Nat} (h : LS n ls) (hl : lG n l) : LS n (ls.set j l) := fun x hx => by
  rcases List.mem_or_eq_of_mem_set hx with e | e
  · exact h x e
  · subst e; exact hl
theorem lG_fine {n : Nat} {l : List Nat} (h : lG n l) (hn : n ≤ 99) : lGood l := lG_good h hn
theorem LS_text {ls : List (List Nat)} {n : Nat} (h0 : 0 < ls.length) (hl : ls.length ≤ 90) (hn : n ≤ 99) (h : LS n ls) : tOk (TL.joinL [10] ls) ∧ linesL (TL.joinL [10] ls) = ls :=
  tOk_join (List.length_pos_iff.mp h0) hl fun l hx => lG_good (h l hx) hn
theorem join_lines {n : Nat} {ls : List (List Nat)} {f : En → Res D} {ρ : En} (h0 : 0 < ls.length) (hl : ls.length ≤ 90) (hn : n ≤ 99) (h : LS n ls) (hf : f ρ = .ok (.lst (wds ls))) : strM joinD (eC (.str "\n")) f ρ = .ok (.str (nm (TL.joinL [10] ls))) := by
  have hlen : (ls.map List.length).sum ≤ ls.length * 5000 := sum_le ls fun l hx => (lGood_facts (lG_good (h l hx) hn)).1.1
  refine strM_eq (s := nm [10]) (by rw [← lit_nl]; rfl) hf (join_ok ?_)
  simp only [List.length_cons, List.length_nil]
  omega
theorem word_lG {w : List Nat} (h : wGood w) : lG 4 w := ⟨[w], by simp, fun x hx => by rw [List.mem_singleton.mp hx]; exact h, rfl⟩
theorem cutN {α : Type} (xs : List α) (k : Nat) : cutG xs none (some (k : Int)) = xs.take k := by
  unfold cutG
  rw [HT.sIx_none, HT.sIx_nat, List.drop_zero, Nat.sub_zero, List.take_eq_take_iff]
  omega
theorem cut1 {α : Type} (xs : List α) : cutG xs (some 1) none = xs.drop 1 := by
  unfold cutG
  rw [HT.sIx_none, show ((1 : Int)) = ((1 : Nat) : Int) from rfl, HT.sIx_nat]
  rcases Nat.lt_or_ge xs.length 1 with h | h
  · have : xs = [] := List.length_eq_zero_iff.mp (by omega)
    subst this; rfl
  · rw [Nat.min_eq_left h, List.take_of_length_le (by rw [List.length_drop]; omega)]
end PL

set_option maxRecDepth 100000
set_option maxHeartbeats 1000000
namespace PL
open PySem PL
/-! ## loops -/
theorem for_inv {α : Type} {enc : α → D} {t : D → En → Res En} {B : En → Out} (I : List α → En → Prop) : ∀ (xs done : List α) (ρ : En), I done ρ →
    (∀ dn x rest ρ, done ++ xs = dn ++ x :: rest → I dn ρ → ∃ ρ1 ρ', t (enc x) ρ = .ok ρ1 ∧ B ρ1 = .next ρ' ∧ I (dn ++ [x]) ρ') → ∃ ρ', forL t B (xs.map enc) ρ = .next ρ' ∧ I (done ++ xs) ρ'
  | [], done, ρ, h0, _ => ⟨ρ, rfl, by rw [List.append_nil]; exact h0⟩
  | x :: xs, done, ρ, h0, hs => by
    obtain ⟨ρ1, ρ', e1, e2, e3⟩ := hs done x xs ρ rfl h0
    obtain ⟨ρ2, e4, e5⟩ := for_inv I xs (done ++ [x]) ρ' e3 fun dn y rest ρ e => hs dn y rest ρ (by rw [← e, List.append_assoc]; rfl)
    refine ⟨ρ2, ?_, by rw [List.append_assoc] at e5; exact e5⟩
    rw [List.map_cons]
    unfold forL
    simp only [e1, e2, lp_next]
    exact e4
/-- every turn leaves all but the target -/
theorem for_all {i : Nat} {B : En → Out} {P : Sl → En} : ∀ {ds : List D} {o : Sl}, (∀ o d, (P o).set i (.sh d) = P (.sh d)) → (∀ d ∈ ds, B (P (.sh d)) = .next (P (.sh d))) → ∃ o', forL (gN i) B ds (P o) = .next (P o')
  | [], o, _, _ => ⟨o, rfl⟩
  | d :: ds, o, hP, h => by
    obtain ⟨o', e⟩ := for_all (P := P) (ds := ds) (o := .sh d) hP fun x hx => h x (List.mem_cons_of_mem _ hx)
    exact ⟨o', by rw [for_cons, hP, h d List.mem_cons_self, lp_next, e]⟩
/-- .. up to one that ends it -/
theorem for_stop {i : Nat} {B : En → Out} {P : Sl → En} {d : D} {post : List D} {out : Out} (hP : ∀ o d, (P o).set i (.sh d) = P (.sh d)) (hd : B (P (.sh d)) = out) (ho : (∃ r, out = .ret r) ∨ ∃ e ρ, out = .exc e ρ) : ∀ {pre : List D} {o : Sl}, (∀ d ∈ pre, B (P (.sh d)) = .next (P (.sh d))) → forL (gN i) B (pre ++ d :: post) (P o) = out
  | [], o, _ => by
    rw [List.nil_append, for_cons, hP, hd]
    rcases ho with ⟨r, rfl⟩ | ⟨e, ρ, rfl⟩
    · rfl
    · rfl
  | x :: pre, o, h => by
    rw [List.cons_append, for_cons, hP, h x List.mem_cons_self, lp_next]
    exact for_stop (P := P) hP hd ho (pre := pre) (o := .sh x) fun y hy => h y (List.mem_cons_of_mem _ hy)
/-- a test of all, which ends with r at the first that fails -/
theorem for_test {α : Type} {enc : α → D} {p : α → Bool} {i : Nat} {B : En → Out} {P : Sl → En} {r : RV} (hP : ∀ o d, (P o).set i (.sh d) = P (.sh d)) : ∀ {xs : List α} {o : Sl}, (∀ x ∈ xs, B (P (.sh (enc x))) = if p x = true then .next (P (.sh (enc x))) else .ret r) → ∃ o', forL (gN i) B (xs.map enc) (P o) = if xs.all p = true then .next (P o') else .ret r
  | [], o, _ => ⟨o, rfl⟩
  | x :: xs, o, h => by
    obtain ⟨o', e⟩ := for_test (enc := enc) (p := p) (B := B) (P := P) (r := r) hP (xs := xs) (o := .sh (enc x)) fun y hy => h y (List.mem_cons_of_mem _ hy)
    refine ⟨o', ?_⟩
    rw [List.map_cons, for_cons, hP, h x List.mem_cons_self, List.all_cons]
    cases p x with
    | true => rw [if_pos rfl, lp_next, e, Bool.true_and]
    | false => rw [if_neg (by decide), lp_ret, Bool.false_and, if_neg (by decide)]
/-- an owned list that grows by one each turn -/
theorem for_acc {α : Type} {enc f : α → D} {i : Nat} {B : En → Out} {P : List D → Sl → En} {n : Nat} (hP : ∀ a o d, (P a o).set i (.sh d) = P a (.sh d)) : ∀ {xs : List α} {acc : List D} {o : Sl}, acc.length + xs.length ≤ n → (∀ x ∈ xs, ∀ acc : List D, acc.length < n → B (P acc (.sh (enc x))) = .next (P (acc ++ [f x]) (.sh (enc x)))) → ∃ o', forL (gN i) B (xs.map enc) (P acc o) = .next (P (acc ++ xs.map f) o')
  | [], acc, o, _, _ => ⟨o, by show Out.next _ = Out.next (P (acc ++ []) o); rw [List.append_nil]⟩
  | x :: xs, acc, o, hl, h => by
    simp only [List.length_cons] at hl
    obtain ⟨o', e⟩ := for_acc (enc := enc) (f := f) (B := B) (P := P) (n := n) hP (xs := xs) (acc := acc ++ [f x]) (o := .sh (enc x)) (by rw [List.length_append]; simp only [List.length_cons, List.length_nil]; omega) fun y hy => h y (List.mem_cons_of_mem _ hy)
    refine ⟨o', ?_⟩
    rw [List.map_cons, for_cons, hP, h x List.mem_cons_self acc (by omega), lp_next, e, List.map_cons, List.append_assoc]
    rfl
theorem forT_cons {is : List Nat} {b : En → Out} {xs ds : List D} {ρ ρ1 : En} (h : setAll is xs ρ = .ok ρ1) : forL (gT is) b (.tup xs :: ds) ρ = lpO (forL (gT is) b ds) (b ρ1) := by
  show (match setAll is xs ρ with | .ok ρ1 => lpO (forL (gT is) b ds) (b ρ1) | _ => Out.stuck) = _
  rw [h]
/-! ## comprehensions -/
theorem lc_map {α : Type} {enc g : α → D} {i : Nat} {te : En → Res D} {ρ : En} : ∀ {xs : List α}, (∀ x ∈ xs, te (ρ.set i (.sh (enc x))) = .ok (g x)) → lcL i yesB te (xs.map enc) ρ = .ok (xs.map g)
  | [], _ => rfl
  | x :: xs, h => lc_yes rfl (h x List.mem_cons_self) (lc_map fun y hy => h y (List.mem_cons_of_mem _ hy))
theorem lc_filter {α : Type} {enc g : α → D} {p : α → Bool} {i : Nat} {tt : En → Res Bool} {te : En → Res D} {ρ : En} : ∀ {xs : List α}, (∀ x ∈ xs, tt (ρ.set i (.sh (enc x))) = .ok (p x)) → (∀ x ∈ xs, p x = true → te (ρ.set i (.sh (enc x))) = .ok (g x)) → lcL i tt te (xs.map enc) ρ = .ok ((xs.filter p).map g)
  | [], _, _ => rfl
  | x :: xs, h, h2 => by
    have ih := lc_filter (xs := xs) (fun y hy => h y (List.mem_cons_of_mem _ hy)) (fun y hy => h2 y (List.mem_cons_of_mem _ hy))
    have h' := h x List.mem_cons_self
    rw [List.map_cons, List.filter_cons]
    cases hp : p x with
    | true =>
      rw [hp] at h'
      rw [if_pos rfl]
      exact lc_yes h' (h2 x List.mem_cons_self hp) ih
    | false =>
      rw [hp] at h'
      rw [if_neg (by decide)]
      exact lc_no h' ih
theorem lce_map {α : Type} {enc g : α → D} {it : En → Res (List D)} {i : Nat} {te : En → Res D} {ρ : En} {xs : List α} (h : it ρ = .ok (xs.map enc)) (hz : xs.length ≤ 16777216) (h2 : ∀ x ∈ xs, te (ρ.set i (.sh (enc x))) = .ok (g x)) : lcE it i yesB te ρ = .ok (xs.map g) := lce_eq h (by rw [List.length_map]; exact hz) (lc_map h2)
theorem lce_filter {α : Type} {enc g : α → D} {p : α → Bool} {it : En → Res (List D)} {i : Nat} {tt : En → Res Bool} {te : En → Res D} {ρ : En} {xs : List α} (h : it ρ = .ok (xs.map enc)) (hz : xs.length ≤ 16777216) (h1 : ∀ x ∈ xs, tt (ρ.set i (.sh (enc x))) = .ok (p x)) (h2 : ∀ x ∈ xs, p x = true → te (ρ.set i (.sh (enc x))) = .ok (g x)) : lcE it i tt te ρ = .ok ((xs.filter p).map g) := lce_eq h (by rw [List.length_map]; exact hz) (lc_filter h1 h2)
/-! ## texts for the engine -/
theorem spl_sp (l : List Nat) (hl : l.length ≤ 1000000) : splitO (nm l) (.str " ") = .ok (wds (words l)) := by
  have := split_wordsO (f := eC (.str (nm l))) (ρ := []) rfl hl
  exact this
theorem spl_nl (l : List Nat) (hl : l.length ≤ 1000000) : splitO (nm l) (.str "\n") = .ok (wds (linesL l)) := by
  have := split_lines (f := eC (.str (nm l))) (ρ := []) rfl hl
  exact this
theorem join_nl {ws : List (List Nat)} (h : (ws.map List.length).sum + ws.length ≤ 16777216) : joinD "\n" (.lst (wds ws)) = .ok (.str (nm (TL.joinL [10] ws))) := by
  rw [lit_nl]
  exact join_ok (by simp only [List.length_cons, List.length_nil]; omega)
theorem join_sp {ws : List (List Nat)} (h : (ws.map List.length).sum + ws.length ≤ 16777216) : joinD " " (.lst (wds ws)) = .ok (.str (nm (TL.joinL [32] ws))) := by
  rw [lit_sp]
  exact join_ok (by simp only [List.length_cons, List.length_nil]; omega)
theorem wds_ix (ws : List (List Nat)) (k : Nat) (h : k < ws.length) : ixD (.lst (wds ws)) (.int (k : Int)) = .ok (.str (nm ws[k])) := ws_ix ws k h
theorem wds_lenL (ws : List (List Nat)) : lenL [.lst (wds ws)] = .ok (.int (ws.length : Nat)) := ws_len ws
theorem lit_e : ("" : Str) = nm [] := lit0
theorem rng2_nat (a b : Nat) (h : b ≤ 1000000) (ha : a ≤ b) : rng2 [.int (a : Int), .int (b : Int)] = .ok ((List.range' a (b - a)).map fun k : Nat => .int (k : Int)) := by
  show gd _ (Res.ok ((List.range ((b : Int) - (a : Int)).toNat).map fun k => D.int ((a : Int) + ((k : Nat) : Int)))) = _
  rw [gd_pos (by omega), List.range'_eq_map_range, List.map_map]
  have : ((b : Int) - (a : Int)).toNat = b - a := by omega
  rw [this]
  refine congrArg Res.ok (List.map_congr_left fun k _ => ?_)
  show D.int _ = D.int _
  congr 1
theorem atI_last {α : Type} (xs : List α) (x : α) : L2.atI (xs ++ [x]) (-1) = some x := by
  unfold L2.atI L2.ixN
  rw [if_neg (by omega), List.length_append, List.length_cons, List.length_nil]
  rw [if_pos (by omega)]
  show (xs ++ [x])[((-1 : Int) + ((xs.length + (0 + 1) : Nat) : Int)).toNat]? = some x
  rw [show ((-1 : Int) + ((xs.length + (0 + 1) : Nat) : Int)).toNat = xs.length from by omega]
  simp
theorem ix_last (xs : List D) (x : D) : ixD (.lst (xs ++ [x])) (.int (-1)) = .ok x := by
  simp only [ixD, atI_last]
theorem put_wds {ws : List (List Nat)} {w : List Nat} {j : Nat} (hj : j < ws.length) : putAt (wds ws) (.str (nm w)) (.int (j : Int)) = .ok (wds (ws.set j w)) := j_put (j := j) (ixN_of rfl (by rw [wds_len]; exact hj)) (wds_set _ _ _)
theorem ins_wds {ws : List (List Nat)} {w : List Nat} {j : Nat} (hj : j ≤ 100000) (hz : ws.length < 1000000) : insAt (wds ws) [.int (j : Int), .str (nm w)] = .ok (wds (ws.take j ++ [w] ++ ws.drop j)) := by
  rw [← wds_ins]
  show gd ((wds ws).length < sizeLine ∧ 0 ≤ (j : Int) ∧ (j : Int) < 2 ^ 63) (Res.ok ((wds ws).take (j : Int).toNat ++ [_] ++ (wds ws).drop (j : Int).toNat)) = _
  rw [gd_pos ⟨sz' _ (by rw [wds_len]; omega), by omega, by omega⟩, Int.toNat_natCast]
theorem pop_wds {ws : List (List Nat)} {j : Nat} (hj : j < ws.length) (hz : ws.length < 100000) : popAt (wds ws) (.int (j : Int)) = .ok (wds (ws.eraseIdx j)) := by
  show gd (0 ≤ (j : Int) ∧ (j : Int) < (wds ws).length ∧ (wds ws).length < 2 ^ 62) (Res.ok ((wds ws).eraseIdx (j : Int).toNat)) = _
  rw [wds_len, gd_pos ⟨by omega, by omega, by omega⟩, Int.toNat_natCast, map_erase]
theorem wds_app (ws : List (List Nat)) (w : List Nat) : wds ws ++ [.str (nm w)] = wds (ws ++ [w]) := by unfold wds; rw [List.map_append]; rfl
theorem mod_len {x : Int} {n : Nat} (hn : 0 < n) : ∃ j : Nat, j < n ∧ modD (.int x) (.int (n : Int)) = .ok (.int (j : Int)) := by
  have h0 : (0 : Int) < (n : Int) := by omega
  obtain ⟨j, hj⟩ := Int.eq_ofNat_of_zero_le (Int.emod_nonneg x (by omega : (n : Int) ≠ 0))
  exact ⟨j, by have := Int.emod_lt_of_pos x h0; omega, by rw [j_modI _ _ h0, hj]⟩
end PL

set_option maxRecDepth 100000
set_option maxHeartbeats 1000000
namespace K55
open PySem PySem.Spec PyProof.Rows L2 PL
def knX : Exc → Bool | .badText _ _ _ => true | .badValue _ => true | .tooMany _ => true | _ => false
def isX_BadText : Exc → Bool | .badText _ _ _ => true | _ => false
def isX_BadValue : Exc → Bool | .badValue _ => true | _ => false
def isX_TooMany : Exc → Bool | .tooMany _ => true | _ => false
/-! ### _law_row -/
def B1__law_row : En → Out := (sSeq (sApp 4 (bin modD (app intL (aCons (eVar 3) aNil)) (eVar 2))) (sSet 3 (bin fdivD (eVar 3) (eVar 2))))
def B2__law_row : En → Out := (sSeq (sSet 5 (bin modD (app intL (aCons (bin addD (bin addD (bin mulD (eVar 5) (eC (.int 69621))) (bin mulD (eVar 6) (eC (.int 48271)))) (eVar 3)) aNil)) (eC (.int 2147483629)))) (sApp 4 (bin modD (app intL (aCons (bin fdivD (eVar 5) (eC (.int 7))) aNil)) (eVar 2))))
def b__law_row : En → Out := (sSeq (sSet 3 (app absL (aCons (eVar 0) aNil))) (sSeq (sSetO 4 (appO lstD aNil)) (sSeq (sIf (tst bOf (bin geD (eVar 3) (bin powD (eC (.int 10)) (eC (.int 18))))) (sSeq (sSet 3 (bin subD (eVar 3) (bin powD (eC (.int 10)) (eC (.int 18))))) (sSeq (sFor (appO rng1 (aCons (eVar 1) aNil)) (gN 6) B1__law_row) (sRetV 4))) sNext) (sSeq (sSet 5 (bin modD (app intL (aCons (bin addD (bin mulD (eVar 3) (eC (.int 48271))) (eC (.int 11))) aNil)) (eC (.int 2147483647)))) (sSeq (sFor (appO rng1 (aCons (eVar 1) aNil)) (gN 6) B2__law_row) (sRetV 4))))))
def m__law_row : List D → Res RV := runF 7 b__law_row
theorem go__law_row {x0 x1 x2 : D} {o : Out} {r : Res RV} (h : b__law_row [.sh x0, .sh x1, .sh x2, .no, .no, .no, .no] = o) (k : runO o = r) : m__law_row [x0, x1, x2] = r := by rw [← k, ← h]; rfl
/-! ### _law_cell -/
def b__law_cell : En → Out := (sSeq (sIf (tst bOf (bin ltD (eVar 1) (app lenL (aCons (eVar 0) aNil)))) (sRet (app intL (aCons (bin ixD (eVar 0) (eVar 1)) aNil))) sNext) (sRet (eC (.int 0))))
def m__law_cell : List D → Res RV := runF 2 b__law_cell
theorem go__law_cell {x0 x1 : D} {o : Out} {r : Res RV} (h : b__law_cell [.sh x0, .sh x1] = o) (k : runO o = r) : m__law_cell [x0, x1] = r := by rw [← k, ← h]; rfl
/-! ### _law_contract -/
def E1__law_contract : En → Res D := (eVar 7)
def T1__law_contract : En → Res Bool := (tst bOf (bin eqD (bin modD (app intL (aCons (bin fdivD (bin addD (eC (.int 1)) (bin ixD (eVar 2) (eVar 5))) (bin ixD (own (appO lstD (aCons (eC (.int 1)) (aCons (eC (.int 2)) (aCons (eC (.int 4)) (aCons (eC (.int 8)) aNil)))))) (eVar 7))) aNil)) (eC (.int 2))) (eC (.int 1))))
def B1__law_contract : En → Out := (sSeq (sSet 6 (own (lcE (appO rng1 (aCons (eC (.int 4)) aNil)) 7 T1__law_contract E1__law_contract))) (sApp 4 (app tupD (aCons (app tupleL (aCons (eVar 6) aNil)) (aCons (bin ixD (eVar 3) (eVar 5)) aNil)))))
def b__law_contract : En → Out := (sSeq (sSet 2 (callE m__law_row (aCons (callE m__law_cell (aCons (eVar 0) (aCons (eC (.int 1)) aNil))) (aCons (eVar 1) (aCons (eC (.int 15)) aNil))))) (sSeq (sSet 3 (callE m__law_row (aCons (callE m__law_cell (aCons (eVar 0) (aCons (eC (.int 2)) aNil))) (aCons (eVar 1) (aCons (eC (.int 31)) aNil))))) (sSeq (sSetO 4 (appO lstD aNil)) (sSeq (sFor (appO rng1 (aCons (eVar 1) aNil)) (gN 5) B1__law_contract) (sRetV 4)))))
def m__law_contract : List D → Res RV := runF 8 b__law_contract
theorem go__law_contract {x0 x1 : D} {o : Out} {r : Res RV} (h : b__law_contract [.sh x0, .sh x1, .no, .no, .no, .no, .no, .no] = o) (k : runO o = r) : m__law_contract [x0, x1] = r := by rw [← k, ← h]; rfl
/-! ### _law_written -/
def B1__law_written : En → Out := (sSet 3 (bin addD (bin addD (eVar 3) (eC (.str " "))) (app strL (aCons (eVar 4) aNil))))
def B2__law_written : En → Out := (sSeq (sSet 3 (app strL (aCons (bin ixD (eVar 2) (eC (.int 1))) aNil))) (sSeq (sFor (itE (bin ixD (eVar 2) (eC (.int 0)))) (gN 4) B1__law_written) (sApp 1 (eVar 3))))
def b__law_written : En → Out := (sSeq (sSetO 1 (appO lstD aNil)) (sSeq (sFor (itE (eVar 0)) (gN 2) B2__law_written) (sFrz 1 (sRet (strM joinD (eC (.str "\n")) (eVar 1))))))
def m__law_written : List D → Res RV := runF 5 b__law_written
theorem go__law_written {x0 : D} {o : Out} {r : Res RV} (h : b__law_written [.sh x0, .no, .no, .no, .no] = o) (k : runO o = r) : m__law_written [x0] = r := by rw [← k, ← h]; rfl
/-! ### _law_word -/
def b__law_word : En → Out := (sSeq (sSet 1 (own (appO lstD (aCons (eC (.str "0")) (aCons (eC (.str "1")) (aCons (eC (.str "2")) (aCons (eC (.str "3")) (aCons (eC (.str "4")) (aCons (eC (.str "00")) (aCons (eC (.str "01")) (aCons (eC (.str "03")) (aCons (eC (.str "9")) (aCons (eC (.str "10")) (aCons (eC (.str "29")) (aCons (eC (.str "30")) (aCons (eC (.str "31")) (aCons (eC (.str "030")) (aCons (eC (.str "100")) (aCons (eC (.str "-1")) (aCons (eC (.str "+2")) (aCons (eC (.str "-0")) aNil))))))))))))))))))))) (sRet (bin ixD (bin addD (eVar 1) (own (appO lstD (aCons (eC (.str "")) (aCons (eC (.str "x")) (aCons (eC (.str "1.0")) (aCons (eC (.str "\t")) (aCons (eC (.str "1,2")) (aCons (eC (.str "1e1")) (aCons (eC (.str "3x")) (aCons (eC (.str "1_0")) (aCons (eC (.str "12345678901234567890")) (aCons (eC (.str "None")) aNil))))))))))))) (bin modD (app intL (aCons (eVar 0) aNil)) (eC (.int 28))))))
def m__law_word : List D → Res RV := runF 2 b__law_word
theorem go__law_word {x0 : D} {o : Out} {r : Res RV} (h : b__law_word [.sh x0, .no] = o) (k : runO o = r) : m__law_word [x0] = r := by rw [← k, ← h]; rfl
/-! ### is_integer -/
def b_is_integer : En → Out := (sRet (andV (isiD "int" (eVar 0)) (notV (isiD "bool" (eVar 0)))))
def m_is_integer : List D → Res RV := runF 1 b_is_integer
theorem go_is_integer {x0 : D} {o : Out} {r : Res RV} (h : b_is_integer [.sh x0] = o) (k : runO o = r) : m_is_integer [x0] = r := by rw [← k, ← h]; rfl
/-! ### in_range -/
def b_in_range : En → Out := (sRet (andV (callE m_is_integer (aCons (eVar 0) aNil)) (andV (bin leD (eVar 1) (eVar 0)) (bin leD (eVar 0) (eVar 2)))))
def m_in_range : List D → Res RV := runF 3 b_in_range
theorem go_in_range {x0 x1 x2 : D} {o : Out} {r : Res RV} (h : b_in_range [.sh x0, .sh x1, .sh x2] = o) (k : runO o = r) : m_in_range [x0, x1, x2] = r := by rw [← k, ← h]; rfl
/-! ### is_ascending -/
def B1_is_ascending : En → Out := (sSeq (sIf (orB (notB (tst truD (callE m_in_range (aCons (eVar 4) (aCons (eVar 1) (aCons (eVar 2) aNil)))))) (tst bOf (bin leD (eVar 4) (eVar 3)))) (sRet (eC (.bl false))) sNext) (sSet 3 (eVar 4)))
def b_is_ascending : En → Out := (sSeq (sIf (notB (tst truD (isiD "list" (eVar 0)))) (sRet (eC (.bl false))) sNext) (sSeq (sSet 3 (bin subD (eVar 1) (eC (.int 1)))) (sSeq (sFor (itE (eVar 0)) (gN 4) B1_is_ascending) (sRet (eC (.bl true))))))
def m_is_ascending : List D → Res RV := runF 5 b_is_ascending
theorem go_is_ascending {x0 x1 x2 : D} {o : Out} {r : Res RV} (h : b_is_ascending [.sh x0, .sh x1, .sh x2, .no, .no] = o) (k : runO o = r) : m_is_ascending [x0, x1, x2] = r := by rw [← k, ← h]; rfl
/-! ### is_members -/
def b_is_members : En → Out := (sSeq (sIf (orB (notB (tst truD (isiD "tuple" (eVar 0)))) (tst bOf (bin eqD (app lenL (aCons (eVar 0) aNil)) (eC (.int 0))))) (sRet (eC (.bl false))) sNext) (sRet (callE m_is_ascending (aCons (own (appO listL (aCons (eVar 0) aNil))) (aCons (eC (.int 0)) (aCons (bin subD (eVar 1) (eC (.int 1))) aNil))))))
def m_is_members : List D → Res RV := runF 2 b_is_members
theorem go_is_members {x0 x1 : D} {o : Out} {r : Res RV} (h : b_is_members [.sh x0, .sh x1] = o) (k : runO o = r) : m_is_members [x0, x1] = r := by rw [← k, ← h]; rfl
/-! ### is_limit -/
def b_is_limit : En → Out := (sSeq (sIf (orB (notB (tst truD (isiD "tuple" (eVar 0)))) (tst bOf (bin neD (app lenL (aCons (eVar 0) aNil)) (eC (.int 2))))) (sRet (eC (.bl false))) sNext) (sRet (andV (callE m_is_members (aCons (bin ixD (eVar 0) (eC (.int 0))) (aCons (eVar 1) aNil))) (callE m_in_range (aCons (bin ixD (eVar 0) (eC (.int 1))) (aCons (eC (.int 0)) (aCons (eC (.int 30)) aNil)))))))
def m_is_limit : List D → Res RV := runF 2 b_is_limit
theorem go_is_limit {x0 x1 : D} {o : Out} {r : Res RV} (h : b_is_limit [.sh x0, .sh x1] = o) (k : runO o = r) : m_is_limit [x0, x1] = r := by rw [← k, ← h]; rfl
/-! ### is_contract -/
def B1_is_contract : En → Out := (sIf (notB (tst truD (callE m_is_limit (aCons (eVar 1) (aCons (eC (.int 4)) aNil))))) (sRet (eC (.bl false))) sNext)
def b_is_contract : En → Out := (sSeq (sIf (orB (notB (tst truD (isiD "list" (eVar 0)))) (tst bOf (bin gtD (app lenL (aCons (eVar 0) aNil)) (eC (.int 6))))) (sRet (eC (.bl false))) sNext) (sSeq (sFor (itE (eVar 0)) (gN 1) B1_is_contract) (sRet (eC (.bl true)))))
def m_is_contract : List D → Res RV := runF 2 b_is_contract
theorem go_is_contract {x0 : D} {o : Out} {r : Res RV} (h : b_is_contract [.sh x0, .no] = o) (k : runO o = r) : m_is_contract [x0] = r := by rw [← k, ← h]; rfl
/-! ### _law_same -/
def B1__law_same (again : List D → Res RV) : En → Out := (sIf (notB (tst truD (callE again (aCons (bin ixD (eVar 0) (eVar 2)) (aCons (bin ixD (eVar 1) (eVar 2)) aNil))))) (sRet (eC (.bl false))) sNext)
def b__law_same (again : List D → Res RV) : En → Out := (sSeq (sIf (tst bOf (bin isD (eVar 1) (eC .non))) (sRet (bin isD (eVar 0) (eC .non))) sNext) (sSeq (sIf (tst truD (isiD "bool" (eVar 1))) (sRet (andV (isiD "bool" (eVar 0)) (bin eqD (eVar 0) (eVar 1)))) sNext) (sSeq (sIf (tst truD (isiD "int" (eVar 1))) (sRet (andV (isiD "int" (eVar 0)) (andV (notV (isiD "bool" (eVar 0))) (bin eqD (eVar 0) (eVar 1))))) sNext) (sSeq (sIf (tst truD (isiD "str" (eVar 1))) (sRet (andV (isiD "str" (eVar 0)) (bin eqD (eVar 0) (eVar 1)))) sNext) (sSeq (sIf (andB (tst truD (isiD "tuple" (eVar 1))) (notB (tst truD (isiD "tuple" (eVar 0))))) (sRet (eC (.bl false))) sNext) (sSeq (sIf (andB (tst truD (isiD "list" (eVar 1))) (notB (tst truD (isiD "list" (eVar 0))))) (sRet (eC (.bl false))) sNext) (sSeq (sIf (tst bOf (bin neD (app lenL (aCons (eVar 0) aNil)) (app lenL (aCons (eVar 1) aNil)))) (sRet (eC (.bl false))) sNext) (sSeq (sFor (appO rng1 (aCons (app lenL (aCons (eVar 1) aNil)) aNil)) (gN 2) (B1__law_same again)) (sRet (eC (.bl true)))))))))))
def m__law_same : Nat → List D → Res RV | 0 => runF 3 sNever | n + 1 => runF 3 (b__law_same (m__law_same n))
/-! ### need_text -/
def b_need_text : En → Out := (sIf (notB (tst truD (isiD "str" (eVar 0)))) (sRaise mkBV (aCons (eVar 1) aNil)) sNext)
def m_need_text : List D → Res RV := runF 2 b_need_text
theorem go_need_text {x0 x1 : D} {o : Out} {r : Res RV} (h : b_need_text [.sh x0, .sh x1] = o) (k : runO o = r) : m_need_text [x0, x1] = r := by rw [← k, ← h]; rfl
/-! ### lines_of -/
def b_lines_of : En → Out := (sSeq (sIf (tst bOf (bin eqD (eVar 0) (eC (.str "")))) (sRetO (appO lstD aNil)) sNext) (sSeq (sSet 2 (own (strM splitO (eVar 0) (eC (.str "\n"))))) (sSeq (sIf (tst bOf (bin gtD (app lenL (aCons (eVar 2) aNil)) (eVar 1))) (sRaise mkTM (aCons (eVar 1) aNil)) sNext) (sRet (eVar 2)))))
def m_lines_of : List D → Res RV := runF 3 b_lines_of
theorem go_lines_of {x0 x1 : D} {o : Out} {r : Res RV} (h : b_lines_of [.sh x0, .sh x1, .no] = o) (k : runO o = r) : m_lines_of [x0, x1] = r := by rw [← k, ← h]; rfl
/-! ### is_written -/
def B1_is_written : En → Out := (sIf (tst bOf (bin notInD (eVar 3) (eC (.str "0123456789")))) (sRet (eC (.bl false))) sNext)
def b_is_written : En → Out := (sSeq (sIf (orB (tst bOf (bin eqD (eVar 0) (eC (.str "")))) (tst bOf (bin gtD (app lenL (aCons (eVar 0) aNil)) (eC (.int 9))))) (sRet (eC (.bl false))) sNext) (sSeq (sFor (itE (eVar 0)) (gN 3) B1_is_written) (sSeq (sIf (andB (tst bOf (bin gtD (app lenL (aCons (eVar 0) aNil)) (eC (.int 1)))) (tst bOf (bin eqD (bin ixD (eVar 0) (eC (.int 0))) (eC (.str "0"))))) (sRet (eC (.bl false))) sNext) (sRet (andV (bin leD (eVar 1) (app intL (aCons (eVar 0) aNil))) (bin leD (app intL (aCons (eVar 0) aNil)) (eVar 2)))))))
def m_is_written : List D → Res RV := runF 4 b_is_written
theorem go_is_written {x0 x1 x2 : D} {o : Out} {r : Res RV} (h : b_is_written [.sh x0, .sh x1, .sh x2, .no] = o) (k : runO o = r) : m_is_written [x0, x1, x2] = r := by rw [← k, ← h]; rfl
/-! ### limit_at -/
def B1_limit_at : En → Out := (sSeq (sIf (notB (tst truD (callE m_is_written (aCons (bin ixD (eVar 0) (eVar 4)) (aCons (bin addD (eVar 3) (eC (.int 1))) (aCons (bin subD (eC (.int 4)) (eC (.int 1))) aNil)))))) (sRaise mkBT (aCons (eVar 1) (aCons (bin addD (eVar 4) (eC (.int 1))) (aCons (eC (.str "kind")) aNil)))) sNext) (sSeq (sSet 3 (app intL (aCons (bin ixD (eVar 0) (eVar 4)) aNil))) (sApp 2 (eVar 3))))
def b_limit_at : En → Out := (sSeq (sIf (notB (tst truD (callE m_is_written (aCons (bin ixD (eVar 0) (eC (.int 0))) (aCons (eC (.int 0)) (aCons (eC (.int 30)) aNil)))))) (sRaise mkBT (aCons (eVar 1) (aCons (eC (.int 1)) (aCons (eC (.str "most")) aNil)))) sNext) (sSeq (sIf (tst bOf (bin ltD (app lenL (aCons (eVar 0) aNil)) (eC (.int 2)))) (sRaise mkBT (aCons (eVar 1) (aCons (eC (.int 2)) (aCons (eC (.str "missing")) aNil)))) sNext) (sSeq (sSetO 2 (appO lstD aNil)) (sSeq (sSet 3 (una negD (eC (.int 1)))) (sSeq (sFor (appO rng2 (aCons (eC (.int 1)) (aCons (app lenL (aCons (eVar 0) aNil)) aNil))) (gN 4) B1_limit_at) (sFrz 2 (sRet (app tupD (aCons (app tupleL (aCons (eVar 2) aNil)) (aCons (app intL (aCons (bin ixD (eVar 0) (eC (.int 0))) aNil)) aNil))))))))))
def m_limit_at : List D → Res RV := runF 5 b_limit_at
theorem go_limit_at {x0 x1 : D} {o : Out} {r : Res RV} (h : b_limit_at [.sh x0, .sh x1, .no, .no, .no] = o) (k : runO o = r) : m_limit_at [x0, x1] = r := by rw [← k, ← h]; rfl
/-! ### parse_contract -/
def B1_parse_contract : En → Out := (sSeq (sAug 2 (fun x y => x + y) (eC (.int 1))) (sApp 1 (callE m_limit_at (aCons (own (strM splitO (eVar 3) (eC (.str " ")))) (aCons (eVar 2) aNil)))))
def b_parse_contract : En → Out := (sSeq (sDrop (callE m_need_text (aCons (eVar 0) (aCons (eC (.str "text")) aNil)))) (sSeq (sSetO 1 (appO lstD aNil)) (sSeq (sSet 2 (eC (.int 0))) (sSeq (sFor (itE (callE m_lines_of (aCons (eVar 0) (aCons (eC (.int 6)) aNil)))) (gN 3) B1_parse_contract) (sRetV 1)))))
def m_parse_contract : List D → Res RV := runF 4 b_parse_contract
theorem go_parse_contract {x0 : D} {o : Out} {r : Res RV} (h : b_parse_contract [.sh x0, .no, .no, .no] = o) (k : runO o = r) : m_parse_contract [x0] = r := by rw [← k, ← h]; rfl
/-! ### need_list -/
def b_need_list : En → Out := (sSeq (sIf (notB (tst truD (isiD "list" (eVar 0)))) (sRaise mkBV (aCons (eVar 2) aNil)) sNext) (sIf (tst bOf (bin gtD (app lenL (aCons (eVar 0) aNil)) (eVar 1))) (sRaise mkTM (aCons (eVar 1) aNil)) sNext))
def m_need_list : List D → Res RV := runF 3 b_need_list
theorem go_need_list {x0 x1 x2 : D} {o : Out} {r : Res RV} (h : b_need_list [.sh x0, .sh x1, .sh x2] = o) (k : runO o = r) : m_need_list [x0, x1, x2] = r := by rw [← k, ← h]; rfl
/-! ### need_contract -/
def B1_need_contract : En → Out := (sIf (notB (tst truD (callE m_is_limit (aCons (eVar 2) (aCons (eVar 1) aNil))))) (sRaise mkBV (aCons (eC (.str "contract")) aNil)) sNext)
def b_need_contract : En → Out := (sSeq (sDrop (callE m_need_list (aCons (eVar 0) (aCons (eC (.int 6)) (aCons (eC (.str "contract")) aNil))))) (sFor (itE (eVar 0)) (gN 2) B1_need_contract))
def m_need_contract : List D → Res RV := runF 3 b_need_contract
theorem go_need_contract {x0 x1 : D} {o : Out} {r : Res RV} (h : b_need_contract [.sh x0, .sh x1, .no] = o) (k : runO o = r) : m_need_contract [x0, x1] = r := by rw [← k, ← h]; rfl
/-! ### format_contract -/
def E1_format_contract : En → Res D := (app strL (aCons (eVar 4) aNil))
def B1_format_contract : En → Out := (sApp 1 (strM joinD (eC (.str " ")) (own (lcE (itE (bin addD (own (appO lstD (aCons (eVar 3) aNil))) (own (appO listL (aCons (eVar 2) aNil))))) 4 yesB E1_format_contract))))
def b_format_contract : En → Out := (sSeq (sDrop (callE m_need_contract (aCons (eVar 0) (aCons (eC (.int 4)) aNil)))) (sSeq (sSetO 1 (appO lstD aNil)) (sSeq (sFor (itE (eVar 0)) (gT [2, 3]) B1_format_contract) (sFrz 1 (sRet (strM joinD (eC (.str "\n")) (eVar 1)))))))
def m_format_contract : List D → Res RV := runF 5 b_format_contract
theorem go_format_contract {x0 : D} {o : Out} {r : Res RV} (h : b_format_contract [.sh x0, .no, .no, .no, .no] = o) (k : runO o = r) : m_format_contract [x0] = r := by rw [← k, ← h]; rfl
/-! ### allowed -/
def E1_allowed : En → Res D := (bin ixD (eVar 1) (eVar 4))
def T1_allowed : En → Res Bool := (tst bOf (bin ltD (eVar 4) (app lenL (aCons (eVar 1) aNil))))
def B1_allowed : En → Out := (sIf (tst bOf (bin gtD (app sumL (aCons (own (lcE (itE (eVar 2)) 4 T1_allowed E1_allowed)) aNil)) (eVar 3))) (sRet (eC (.bl false))) sNext)
def b_allowed : En → Out := (sSeq (sFor (itE (eVar 0)) (gT [2, 3]) B1_allowed) (sRet (eC (.bl true))))
def m_allowed : List D → Res RV := runF 5 b_allowed
theorem go_allowed {x0 x1 : D} {o : Out} {r : Res RV} (h : b_allowed [.sh x0, .sh x1, .no, .no, .no] = o) (k : runO o = r) : m_allowed [x0, x1] = r := by rw [← k, ← h]; rfl
/-! ### is_population -/
def B1_is_population : En → Out := (sIf (orB (notB (tst truD (callE m_is_integer (aCons (eVar 1) aNil)))) (tst bOf (bin ltD (eVar 1) (eC (.int 0))))) (sRet (eC (.bl false))) sNext)
def b_is_population : En → Out := (sSeq (sIf (orB (notB (tst truD (isiD "tuple" (eVar 0)))) (orB (tst bOf (bin ltD (app lenL (aCons (eVar 0) aNil)) (eC (.int 1)))) (tst bOf (bin gtD (app lenL (aCons (eVar 0) aNil)) (eC (.int 4)))))) (sRet (eC (.bl false))) sNext) (sSeq (sFor (itE (eVar 0)) (gN 1) B1_is_population) (sRet (eC (.bl true)))))
def m_is_population : List D → Res RV := runF 2 b_is_population
theorem go_is_population {x0 : D} {o : Out} {r : Res RV} (h : b_is_population [.sh x0, .no] = o) (k : runO o = r) : m_is_population [x0] = r := by rw [← k, ← h]; rfl
/-! ### allows -/
def b_allows : En → Out := (sSeq (sDrop (callE m_need_contract (aCons (eVar 0) (aCons (eC (.int 4)) aNil)))) (sSeq (sIf (notB (tst truD (callE m_is_population (aCons (eVar 1) aNil)))) (sRaise mkBV (aCons (eC (.str "population")) aNil)) sNext) (sRet (callE m_allowed (aCons (eVar 0) (aCons (eVar 1) aNil))))))
def m_allows : List D → Res RV := runF 2 b_allows
theorem go_allows {x0 x1 : D} {o : Out} {r : Res RV} (h : b_allows [.sh x0, .sh x1] = o) (k : runO o = r) : m_allows [x0, x1] = r := by rw [← k, ← h]; rfl
/-! ### _law_told -/
def b__law_told : En → Out := (sSeq (sSet 3 (eC .non)) (sSeq (sTry (sSeq (sIf (tst bOf (bin eqD (eVar 0) (eC (.int 0)))) (sSet 3 (callE m_parse_contract (aCons (eVar 1) aNil))) sNext) (sSeq (sIf (tst bOf (bin eqD (eVar 0) (eC (.int 1)))) (sSet 3 (callE m_format_contract (aCons (eVar 1) aNil))) sNext) (sIf (tst bOf (bin eqD (eVar 0) (eC (.int 2)))) (sSet 3 (callE m_allows (aCons (eVar 1) (aCons (eVar 2) aNil)))) sNext))) [⟨knX, isX_BadText, 4, (xRet (fun ex => app tupD ((fun ex => aCons ((fun _ => (eC (.str "text"))) ex) ((fun ex => aCons ((fldX "BadText" "line") ex) ((fun ex => aCons ((fldX "BadText" "word") ex) ((fun ex => aCons ((fldX "BadText" "what") ex) ((fun _ => aNil) ex)) ex)) ex)) ex)) ex)))⟩, ⟨knX, isX_TooMany, 4, (xRet (fun ex => app tupD ((fun ex => aCons ((fun _ => (eC (.str "many"))) ex) ((fun ex => aCons ((fldX "TooMany" "limit") ex) ((fun _ => aNil) ex)) ex)) ex)))⟩, ⟨knX, isX_BadValue, 4, (xRet (fun ex => app tupD ((fun ex => aCons ((fun _ => (eC (.str "value"))) ex) ((fun ex => aCons ((fldX "BadValue" "what") ex) ((fun _ => aNil) ex)) ex)) ex)))⟩]) (sRet (app tupD (aCons (eC (.str "read")) (aCons (eVar 3) aNil))))))
def m__law_told : List D → Res RV := runF 5 b__law_told
theorem go__law_told {x0 x1 x2 : D} {o : Out} {r : Res RV} (h : b__law_told [.sh x0, .sh x1, .sh x2, .no, .no] = o) (k : runO o = r) : m__law_told [x0, x1, x2] = r := by rw [← k, ← h]; rfl
/-! ### _law_refused -/
def B1__law_refused : En → Out := (sSeq (sSetO 8 (sliceO (eVar 0) pN (pS (eC (.int 5))))) (sSeq (sIns 8 (aCons (eVar 1) (aCons (eVar 4) aNil))) (sSeq (sIf (borT 8 (orB (tst bOf (bin isNotD (callE m_is_contract (aCons (eVar 8) aNil)) (eC (.bl false)))) (notB (tst truD (callE (m__law_same 6) (aCons (callE m__law_told (aCons (eC (.int 1)) (aCons (eVar 8) (aCons (eC .non) aNil)))) (aCons (app tupD (aCons (eC (.str "value")) (aCons (eC (.str "contract")) aNil))) aNil))))))) (sRet (eC (.bl false))) sNext) (sIf (borT 8 (notB (tst truD (callE (m__law_same 6) (aCons (callE m__law_told (aCons (eC (.int 2)) (aCons (eVar 8) (aCons (eC .non) aNil)))) (aCons (app tupD (aCons (eC (.str "value")) (aCons (eC (.str "contract")) aNil))) aNil)))))) (sRet (eC (.bl false))) sNext))))
def B2__law_refused : En → Out := (sSeq (sIf (notB (tst truD (callE (m__law_same 6) (aCons (callE m__law_told (aCons (eVar 6) (aCons (eVar 5) (aCons (eC .non) aNil)))) (aCons (app tupD (aCons (eC (.str "many")) (aCons (eC (.int 6)) aNil))) aNil))))) (sRet (eC (.bl false))) sNext) (sIf (notB (tst truD (callE (m__law_same 6) (aCons (callE m__law_told (aCons (eVar 6) (aCons (app tupleL (aCons (eVar 0) aNil)) (aCons (eC .non) aNil)))) (aCons (app tupD (aCons (eC (.str "value")) (aCons (eC (.str "contract")) aNil))) aNil))))) (sRet (eC (.bl false))) sNext))
def B3__law_refused : En → Out := (sIf (tst bOf (bin isNotD (callE m_is_contract (aCons (eVar 4) aNil)) (eC (.bl false)))) (sRet (eC (.bl false))) sNext)
def B4__law_refused : En → Out := (sIf (notB (tst truD (callE (m__law_same 6) (aCons (callE m__law_told (aCons (eC (.int 2)) (aCons (own (appO listL (aCons (eVar 0) aNil))) (aCons (eVar 7) aNil)))) (aCons (app tupD (aCons (eC (.str "value")) (aCons (eC (.str "population")) aNil))) aNil))))) (sRet (eC (.bl false))) sNext)
def b__law_refused : En → Out := (sSeq (sSet 3 (own (appO lstD (aCons (app tupD (aCons (app tupD (aCons (eC (.int 0)) (aCons (eC (.int 1)) aNil))) (aCons (eC (.int 31)) aNil))) (aCons (app tupD (aCons (app tupD (aCons (eC (.int 0)) aNil)) (aCons (una negD (eC (.int 1))) aNil))) (aCons (app tupD (aCons (app tupD (aCons (eC (.int 0)) aNil)) (aCons (eC (.bl true)) aNil))) (aCons (app tupD (aCons (app tupD (aCons (eC (.int 1)) aNil)) (aCons (eC .non) aNil))) (aCons (app tupD (aCons (app tupD aNil) (aCons (eC (.int 5)) aNil))) (aCons (app tupD (aCons (app tupD (aCons (eC (.int 1)) (aCons (eC (.int 0)) aNil))) (aCons (eC (.int 5)) aNil))) (aCons (app tupD (aCons (app tupD (aCons (eC (.int 1)) (aCons (eC (.int 1)) aNil))) (aCons (eC (.int 5)) aNil))) (aCons (app tupD (aCons (app tupD (aCons (eC (.int 4)) aNil)) (aCons (eC (.int 5)) aNil))) (aCons (app tupD (aCons (app tupD (aCons (una negD (eC (.int 1))) (aCons (eC (.int 2)) aNil))) (aCons (eC (.int 5)) aNil))) aNil)))))))))))) (sSeq (sSet 3 (bin addD (eVar 3) (own (appO lstD (aCons (app tupD (aCons (app tupD (aCons (eC (.bl false)) aNil)) (aCons (eC (.int 5)) aNil))) (aCons (app tupD (aCons (own (appO lstD (aCons (eC (.int 0)) (aCons (eC (.int 1)) aNil)))) (aCons (eC (.int 5)) aNil))) (aCons (own (appO lstD (aCons (app tupD (aCons (eC (.int 0)) (aCons (eC (.int 1)) aNil))) (aCons (eC (.int 5)) aNil)))) (aCons (app tupD (aCons (app tupD (aCons (eC (.int 0)) (aCons (eC (.int 1)) aNil))) aNil)) (aCons (app tupD (aCons (app tupD (aCons (eC (.int 0)) (aCons (eC (.int 1)) aNil))) (aCons (eC (.int 5)) (aCons (eC (.int 0)) aNil)))) (aCons (app tupD (aCons (eC (.int 5)) (aCons (app tupD (aCons (eC (.int 0)) (aCons (eC (.int 1)) aNil))) aNil))) (aCons (eC .non) (aCons (app tupD (aCons (app tupD (aCons (eC (.int 0)) (aCons (eC (.int 1)) (aCons (eC (.int 2)) (aCons (eC (.int 3)) (aCons (eC (.int 4)) aNil)))))) (aCons (eC (.int 5)) aNil))) aNil)))))))))))) (sSeq (sFor (itE (eVar 3)) (gN 4) B1__law_refused) (sSeq (sSet 5 (bin addD (sliceE (bin addD (eVar 0) (bin mulD (own (appO lstD (aCons (app tupD (aCons (app tupD (aCons (eC (.int 0)) aNil)) (aCons (eC (.int 1)) aNil))) aNil))) (eC (.int 7)))) pN (pS (eC (.int 6)))) (own (appO lstD (aCons (bin ixD (eVar 3) (bin modD (app intL (aCons (eVar 2) aNil)) (app lenL (aCons (eVar 3) aNil)))) aNil))))) (sSeq (sFor (appO lstD (aCons (eC (.int 1)) (aCons (eC (.int 2)) aNil))) (gN 6) B2__law_refused) (sSeq (sFor (appO lstD (aCons (app tupleL (aCons (eVar 0) aNil)) (aCons (eVar 5) (aCons (eC .non) (aCons (bin addD (sliceE (bin addD (eVar 5) (own (appO lstD (aCons (app tupD (aCons (app tupD (aCons (eC (.int 0)) aNil)) (aCons (eC (.int 1)) aNil))) aNil)))) pN (pS (eC (.int 6)))) (own (appO lstD (aCons (app tupD (aCons (app tupD (aCons (eC (.int 0)) aNil)) (aCons (eC (.int 1)) aNil))) aNil)))) (aCons (eC (.str "3 0")) (aCons (eC (.int 5)) aNil))))))) (gN 4) B3__law_refused) (sSeq (sFor (appO lstD (aCons (app tupD aNil) (aCons (app tupD (aCons (eC (.int 0)) (aCons (eC (.int 0)) (aCons (eC (.int 0)) (aCons (eC (.int 0)) (aCons (eC (.int 0)) aNil)))))) (aCons (own (appO lstD (aCons (eC (.int 0)) (aCons (eC (.int 0)) aNil)))) (aCons (app tupD (aCons (eC (.int 0)) (aCons (una negD (eC (.int 1))) aNil))) (aCons (app tupD (aCons (eC (.bl true)) aNil)) (aCons (app tupD (aCons (eC (.int 0)) (aCons (eC .non) aNil))) (aCons (eC .non) (aCons (app tupD (aCons (eC (.int 0)) (aCons (eC (.str "0")) aNil))) (aCons (eC (.int 3)) aNil)))))))))) (gN 7) B4__law_refused) (sRet (bin isD (callE m_is_contract (aCons (sliceE (bin addD (eVar 0) (bin mulD (own (appO lstD (aCons (app tupD (aCons (app tupD (aCons (eC (.int 0)) aNil)) (aCons (eC (.int 1)) aNil))) aNil))) (eC (.int 6)))) pN (pS (eC (.int 6)))) aNil)) (eC (.bl true)))))))))))
def m__law_refused : List D → Res RV := runF 9 b__law_refused
theorem go__law_refused {x0 x1 x2 : D} {o : Out} {r : Res RV} (h : b__law_refused [.sh x0, .sh x1, .sh x2, .no, .no, .no, .no, .no, .no] = o) (k : runO o = r) : m__law_refused [x0, x1, x2] = r := by rw [← k, ← h]; rfl
/-! ### _law_allows -/
def B1__law_allows : En → Out := (sIf (tst bOf (bin inD (eVar 4) (bin ixD (eVar 2) (eC (.int 0))))) (sSet 3 (bin addD (eVar 3) (bin ixD (eVar 1) (eVar 4)))) sNext)
def B2__law_allows : En → Out := (sSeq (sSet 3 (eC (.int 0))) (sSeq (sFor (appO rng1 (aCons (app lenL (aCons (eVar 1) aNil)) aNil)) (gN 4) B1__law_allows) (sIf (tst bOf (bin gtD (eVar 3) (bin ixD (eVar 2) (eC (.int 1))))) (sRet (eC (.bl false))) sNext)))
def b__law_allows : En → Out := (sSeq (sFor (itE (eVar 0)) (gN 2) B2__law_allows) (sRet (eC (.bl true))))
def m__law_allows : List D → Res RV := runF 5 b__law_allows
theorem go__law_allows {x0 x1 : D} {o : Out} {r : Res RV} (h : b__law_allows [.sh x0, .sh x1, .no, .no, .no] = o) (k : runO o = r) : m__law_allows [x0, x1] = r := by rw [← k, ← h]; rfl
/-! ### _law_counts -/
def b__law_counts : En → Out := (sSeq (sSet 2 (own (appO listL (aCons (eVar 0) aNil)))) (sSeq (sIf (notB (tst truD (callE (m__law_same 6) (aCons (callE m__law_told (aCons (eC (.int 2)) (aCons (eVar 2) (aCons (eVar 1) aNil)))) (aCons (app tupD (aCons (eC (.str "read")) (aCons (callE m__law_allows (aCons (eVar 0) (aCons (eVar 1) aNil))) aNil))) aNil))))) (sRet (eC (.bl false))) sNext) (sRet (callE (m__law_same 6) (aCons (eVar 2) (aCons (eVar 0) aNil))))))
def m__law_counts : List D → Res RV := runF 3 b__law_counts
theorem go__law_counts {x0 x1 : D} {o : Out} {r : Res RV} (h : b__law_counts [.sh x0, .sh x1, .no] = o) (k : runO o = r) : m__law_counts [x0, x1] = r := by rw [← k, ← h]; rfl
/-! ### _law_populations -/
def E1__law_populations : En → Res D := (bin modD (app intL (aCons (eVar 7) aNil)) (bin ixD (own (appO lstD (aCons (eC (.int 3)) (aCons (eC (.int 9)) (aCons (eC (.int 40)) aNil))))) (bin modD (app intL (aCons (bin fdivD (bin ixD (eVar 2) (eVar 3)) (eC (.int 5))) aNil)) (eC (.int 3)))))
def B1__law_populations : En → Out := (sSeq (sSetO 6 (appO lstD (aCons (eC (.int 0)) (aCons (eC (.int 0)) (aCons (eC (.int 0)) (aCons (eC (.int 0)) aNil)))))) (sSeq (sPut 6 (bin ixD (bin ixD (eVar 5) (eC (.int 0))) (eC (.int 0))) (bin fdivD (bin ixD (eVar 5) (eC (.int 1))) (eC (.int 2)))) (sSeq (sPutAug 6 (fun x y => x + y) (bin ixD (bin ixD (eVar 5) (eC (.int 0))) (una negD (eC (.int 1)))) (bin subD (bin ixD (eVar 5) (eC (.int 1))) (bin fdivD (bin ixD (eVar 5) (eC (.int 1))) (eC (.int 2))))) (sSeq (sIf (tst bOf (bin eqD (bin modD (app intL (aCons (bin ixD (eVar 2) (bin fdivD (eVar 3) (eC (.int 2)))) aNil)) (eC (.int 2))) (eC (.int 0)))) (sPutAug 6 (fun x y => x + y) (bin ixD (bin ixD (eVar 5) (eC (.int 0))) (bin modD (app intL (aCons (bin ixD (eVar 2) (eVar 3)) aNil)) (app lenL (aCons (bin ixD (eVar 5) (eC (.int 0))) aNil)))) (eVar 3)) sNext) (sIf (borT 6 (orB (notB (tst truD (callE m__law_counts (aCons (eVar 0) (aCons (app tupleL (aCons (eVar 6) aNil)) aNil))))) (notB (tst truD (callE m__law_counts (aCons (eVar 0) (aCons (app tupleL (aCons (sliceE (eVar 6) pN (pS (bin addD (eC (.int 1)) (bin modD (eVar 3) (eC (.int 4)))))) aNil)) aNil))))))) (sRet (eC (.bl false))) sNext)))))
def B2__law_populations : En → Out := (sSeq (sSet 4 (own (lcE (itE (sliceE (eVar 2) (pS (bin mulD (eC (.int 4)) (eVar 3))) (pS (bin addD (bin mulD (eC (.int 4)) (eVar 3)) (eC (.int 4)))))) 7 yesB E1__law_populations))) (sSeq (sSet 4 (sliceE (eVar 4) pN (pS (bin addD (eC (.int 1)) (bin modD (app intL (aCons (bin ixD (eVar 2) (eVar 3)) aNil)) (eC (.int 4))))))) (sSeq (sIf (notB (tst truD (callE m__law_counts (aCons (eVar 0) (aCons (app tupleL (aCons (eVar 4) aNil)) aNil))))) (sRet (eC (.bl false))) sNext) (sFor (itE (eVar 0)) (gN 5) B1__law_populations))))
def b__law_populations : En → Out := (sSeq (sSet 2 (callE m__law_row (aCons (eVar 1) (aCons (eC (.int 24)) (aCons (eC (.int 5040)) aNil))))) (sSeq (sFor (appO rng1 (aCons (eC (.int 6)) aNil)) (gN 3) B2__law_populations) (sRet (andV (callE m__law_counts (aCons (eVar 0) (aCons (app tupD (aCons (eC (.int 0)) (aCons (eC (.int 0)) (aCons (bin powD (eC (.int 10)) (eC (.int 30))) (aCons (eC (.int 0)) aNil))))) aNil))) (andV (callE m__law_counts (aCons (eVar 0) (aCons (app tupD (aCons (eC (.int 0)) aNil)) aNil))) (callE m__law_counts (aCons (eVar 0) (aCons (app tupD (aCons (eC (.int 0)) (aCons (eC (.int 31)) aNil))) aNil))))))))
def m__law_populations : List D → Res RV := runF 8 b__law_populations
theorem go__law_populations {x0 x1 : D} {o : Out} {r : Res RV} (h : b__law_populations [.sh x0, .sh x1, .no, .no, .no, .no, .no, .no] = o) (k : runO o = r) : m__law_populations [x0, x1] = r := by rw [← k, ← h]; rfl
/-! ### _law_number -/
def B1__law_number : En → Out := (sIf (tst bOf (bin notInD (eVar 3) (eC (.str "0123456789")))) (sRet (eC (.bl false))) sNext)
def b__law_number : En → Out := (sSeq (sFor (itE (eVar 0)) (gN 3) B1__law_number) (sRet (andV (bin neD (eVar 0) (eC (.str ""))) (andV (bin eqD (app strL (aCons (app intL (aCons (eVar 0) aNil)) aNil)) (eVar 0)) (andV (bin leD (eVar 1) (app intL (aCons (eVar 0) aNil))) (bin leD (app intL (aCons (eVar 0) aNil)) (eVar 2)))))))
def m__law_number : List D → Res RV := runF 4 b__law_number
theorem go__law_number {x0 x1 x2 : D} {o : Out} {r : Res RV} (h : b__law_number [.sh x0, .sh x1, .sh x2, .no] = o) (k : runO o = r) : m__law_number [x0, x1, x2] = r := by rw [← k, ← h]; rfl
/-! ### _law_read -/
def B1__law_read : En → Out := (sSeq (sIf (borT 5 (orB (notB (tst truD (callE m__law_number (aCons (bin ixD (eVar 4) (eVar 6)) (aCons (eC (.int 0)) (aCons (eC (.int 3)) aNil)))))) (andB (tst bOf (bin gtD (app lenL (aCons (eVar 5) aNil)) (eC (.int 0)))) (tst bOf (bin leD (app intL (aCons (bin ixD (eVar 4) (eVar 6)) aNil)) (bin ixD (eVar 5) (una negD (eC (.int 1))))))))) (sRet (app tupD (aCons (eC (.str "text")) (aCons (bin addD (eVar 3) (eC (.int 1))) (aCons (bin addD (eVar 6) (eC (.int 1))) (aCons (eC (.str "kind")) aNil)))))) sNext) (sApp 5 (app intL (aCons (bin ixD (eVar 4) (eVar 6)) aNil))))
def B2__law_read : En → Out := (sSeq (sSet 4 (own (strM splitO (bin ixD (eVar 1) (eVar 3)) (eC (.str " "))))) (sSeq (sIf (notB (tst truD (callE m__law_number (aCons (bin ixD (eVar 4) (eC (.int 0))) (aCons (eC (.int 0)) (aCons (eC (.int 30)) aNil)))))) (sRet (app tupD (aCons (eC (.str "text")) (aCons (bin addD (eVar 3) (eC (.int 1))) (aCons (eC (.int 1)) (aCons (eC (.str "most")) aNil)))))) sNext) (sSeq (sIf (tst bOf (bin eqD (app lenL (aCons (eVar 4) aNil)) (eC (.int 1)))) (sRet (app tupD (aCons (eC (.str "text")) (aCons (bin addD (eVar 3) (eC (.int 1))) (aCons (eC (.int 2)) (aCons (eC (.str "missing")) aNil)))))) sNext) (sSeq (sSetO 5 (appO lstD aNil)) (sSeq (sFor (appO rng2 (aCons (eC (.int 1)) (aCons (app lenL (aCons (eVar 4) aNil)) aNil))) (gN 6) B1__law_read) (sFrz 5 (sApp 2 (app tupD (aCons (app tupleL (aCons (eVar 5) aNil)) (aCons (app intL (aCons (bin ixD (eVar 4) (eC (.int 0))) aNil)) aNil))))))))))
def b__law_read : En → Out := (sSeq (sIf (tst bOf (bin eqD (eVar 0) (eC (.str "")))) (sRet (app tupD (aCons (eC (.str "read")) (aCons (own (appO lstD aNil)) aNil)))) sNext) (sSeq (sSet 1 (own (strM splitO (eVar 0) (eC (.str "\n"))))) (sSeq (sIf (tst bOf (bin gtD (app lenL (aCons (eVar 1) aNil)) (eC (.int 6)))) (sRet (app tupD (aCons (eC (.str "many")) (aCons (eC (.int 6)) aNil)))) sNext) (sSeq (sSetO 2 (appO lstD aNil)) (sSeq (sFor (appO rng1 (aCons (app lenL (aCons (eVar 1) aNil)) aNil)) (gN 3) B2__law_read) (sFrz 2 (sRet (app tupD (aCons (eC (.str "read")) (aCons (eVar 2) aNil))))))))))
def m__law_read : List D → Res RV := runF 7 b__law_read
theorem go__law_read {x0 : D} {o : Out} {r : Res RV} (h : b__law_read [.sh x0, .no, .no, .no, .no, .no, .no] = o) (k : runO o = r) : m__law_read [x0] = r := by rw [← k, ← h]; rfl
/-! ### _law_asked -/
def b__law_asked : En → Out := (sSeq (sSet 1 (callE m__law_read (aCons (eVar 0) aNil))) (sSeq (sSetT 2 m__law_told (aCons (eC (.int 0)) (aCons (eVar 0) (aCons (eC .non) aNil)))) (sSeq (sIf (tmpT 2 (notB (tst truD (callE (m__law_same 6) (aCons (eVar 2) (aCons (eVar 1) aNil)))))) (sRet (eC (.bl false))) sNext) (sSeq (sIf (tst bOf (bin neD (bin ixD (eVar 1) (eC (.int 0))) (eC (.str "read")))) (sRet (eC (.bl true))) sNext) (sSeq (sIf (orB (notB (tst truD (callE (m__law_same 6) (aCons (callE m__law_told (aCons (eC (.int 1)) (aCons (own (appO listL (aCons (bin ixD (eVar 1) (eC (.int 1))) aNil))) (aCons (eC .non) aNil)))) (aCons (app tupD (aCons (eC (.str "read")) (aCons (eVar 0) aNil))) aNil))))) (tst bOf (bin isNotD (callE m_is_contract (aCons (own (appO listL (aCons (bin ixD (eVar 1) (eC (.int 1))) aNil))) aNil)) (eC (.bl true))))) (sRet (eC (.bl false))) sNext) (sSeq (sAppT 2 (app tupD (aCons (app tupD (aCons (eC (.int 0)) aNil)) (aCons (eC (.int 1)) aNil)))) (sRet (callE (m__law_same 6) (aCons (callE m__law_told (aCons (eC (.int 0)) (aCons (eVar 0) (aCons (eC .non) aNil)))) (aCons (eVar 1) aNil))))))))))
def m__law_asked : List D → Res RV := runF 3 b__law_asked
theorem go__law_asked {x0 : D} {o : Out} {r : Res RV} (h : b__law_asked [.sh x0, .no, .no] = o) (k : runO o = r) : m__law_asked [x0] = r := by rw [← k, ← h]; rfl
/-! ### _law_changed -/
def B1__law_changed : En → Out := (sSeq (sSet 5 (bin modD (app intL (aCons (bin ixD (eVar 2) (bin mulD (eC (.int 4)) (eVar 4))) aNil)) (eC (.int 12)))) (sSeq (sSet 6 (borE 3 (bin modD (app intL (aCons (bin ixD (eVar 2) (bin addD (bin mulD (eC (.int 4)) (eVar 4)) (eC (.int 1)))) aNil)) (app lenL (aCons (eVar 3) aNil))))) (sSeq (sSetO 7 (strM splitO (ixO 3 (eVar 6)) (eC (.str " ")))) (sSeq (sSet 8 (borE 7 (bin modD (app intL (aCons (bin ixD (eVar 2) (bin addD (bin mulD (eC (.int 4)) (eVar 4)) (eC (.int 2)))) aNil)) (app lenL (aCons (eVar 7) aNil))))) (sSeq (sSet 9 (borE 7 (bin modD (app intL (aCons (bin ixD (eVar 2) (bin addD (bin mulD (eC (.int 4)) (eVar 4)) (eC (.int 3)))) aNil)) (app lenL (aCons (eVar 7) aNil))))) (sSeq (sIf (orB (tst bOf (bin eqD (eVar 5) (eC (.int 0)))) (tst bOf (bin eqD (eVar 5) (eC (.int 7))))) (sPut 7 (eVar 8) (callE m__law_word (aCons (bin ixD (eVar 2) (bin addD (bin mulD (eC (.int 4)) (eVar 4)) (eC (.int 3)))) aNil))) sNext) (sSeq (sIf (tst bOf (bin eqD (eVar 5) (eC (.int 1)))) (sPopAt 7 (eVar 8)) sNext) (sSeq (sIf (orB (tst bOf (bin eqD (eVar 5) (eC (.int 2)))) (tst bOf (bin eqD (eVar 5) (eC (.int 8))))) (sApp 7 (callE m__law_word (aCons (bin ixD (eVar 2) (bin addD (bin mulD (eC (.int 4)) (eVar 4)) (eC (.int 3)))) aNil))) sNext) (sSeq (sIf (tst bOf (bin eqD (eVar 5) (eC (.int 3)))) (sSeq (sSet 10 (ixO 7 (eVar 8))) (sSeq (sPut 7 (eVar 8) (ixO 7 (eVar 9))) (sPut 7 (eVar 9) (eVar 10)))) sNext) (sSeq (sIf (tst bOf (bin eqD (eVar 5) (eC (.int 4)))) (sIns 7 (aCons (eVar 8) (aCons (eC (.str "")) aNil))) sNext) (sSeq (sPut 3 (eVar 6) (borE 7 (strM joinD (eC (.str " ")) (eVar 7)))) (sSeq (sIf (tst bOf (bin eqD (eVar 5) (eC (.int 5)))) (sIns 3 (aCons (eVar 6) (aCons (eC (.str "")) aNil))) sNext) (sIf (tst bOf (bin eqD (eVar 5) (eC (.int 6)))) (sApp 3 (eC (.str ""))) sNext)))))))))))))
def b__law_changed : En → Out := (sSeq (sSet 2 (callE m__law_row (aCons (eVar 1) (aCons (eC (.int 8)) (aCons (eC (.int 5040)) aNil))))) (sSeq (sSetO 3 (strM splitO (eVar 0) (eC (.str "\n")))) (sSeq (sFor (appO rng1 (aCons (eC (.int 2)) aNil)) (gN 4) B1__law_changed) (sFrz 3 (sRet (strM joinD (eC (.str "\n")) (eVar 3)))))))
def m__law_changed : List D → Res RV := runF 11 b__law_changed
theorem go__law_changed {x0 x1 : D} {o : Out} {r : Res RV} (h : b__law_changed [.sh x0, .sh x1, .no, .no, .no, .no, .no, .no, .no, .no, .no] = o) (k : runO o = r) : m__law_changed [x0, x1] = r := by rw [← k, ← h]; rfl
/-! ### law -/
def B1_law : En → Out := (sIf (notB (tst truD (callE (m__law_same 6) (aCons (callE m__law_told (aCons (eC (.int 0)) (aCons (eVar 6) (aCons (eC .non) aNil)))) (aCons (app tupD (aCons (eC (.str "value")) (aCons (eC (.str "text")) aNil))) aNil))))) (sRet (eC (.bl false))) sNext)
def b_law : En → Out := (sSeq (sSet 1 (callE m__law_row (aCons (callE m__law_cell (aCons (eVar 0) (aCons (eC (.int 0)) aNil))) (aCons (eC (.int 4)) (aCons (eC (.int 5040)) aNil))))) (sSeq (sSet 2 (callE m__law_contract (aCons (eVar 0) (aCons (bin modD (app intL (aCons (bin ixD (eVar 1) (eC (.int 0))) aNil)) (eC (.int 7))) aNil)))) (sSeq (sSet 3 (callE m__law_written (aCons (eVar 2) aNil))) (sSeq (sSet 4 (own (appO listL (aCons (eVar 2) aNil)))) (sSeq (sIf (orB (tst bOf (bin isNotD (callE m_is_contract (aCons (eVar 4) aNil)) (eC (.bl true)))) (notB (tst truD (callE (m__law_same 6) (aCons (callE m__law_told (aCons (eC (.int 1)) (aCons (eVar 4) (aCons (eC .non) aNil)))) (aCons (app tupD (aCons (eC (.str "read")) (aCons (eVar 3) aNil))) aNil)))))) (sRet (eC (.bl false))) sNext) (sSeq (sIf (orB (notB (tst truD (callE (m__law_same 6) (aCons (callE m__law_told (aCons (eC (.int 0)) (aCons (eVar 3) (aCons (eC .non) aNil)))) (aCons (app tupD (aCons (eC (.str "read")) (aCons (eVar 2) aNil))) aNil))))) (notB (tst truD (callE (m__law_same 6) (aCons (eVar 4) (aCons (eVar 2) aNil)))))) (sRet (eC (.bl false))) sNext) (sSeq (sIf (orB (notB (tst truD (callE m__law_asked (aCons (eVar 3) aNil)))) (notB (tst truD (callE m__law_asked (aCons (callE m__law_changed (aCons (eVar 3) (aCons (callE m__law_cell (aCons (eVar 0) (aCons (eC (.int 3)) aNil))) aNil))) aNil))))) (sRet (eC (.bl false))) sNext) (sSeq (sSetO 5 (sliceO (bin addD (own (strM splitO (eVar 3) (eC (.str "\n")))) (bin mulD (own (appO lstD (aCons (eC (.str "5 0 1")) aNil))) (eC (.int 7)))) pN (pS (eC (.int 7))))) (sSeq (sPut 5 (bin modD (app intL (aCons (bin ixD (eVar 1) (eC (.int 1))) aNil)) (eC (.int 7))) (callE m__law_word (aCons (bin ixD (eVar 1) (eC (.int 2))) aNil))) (sSeq (sIf (borT 5 (orB (notB (tst truD (callE m__law_asked (aCons (strM joinD (eC (.str "\n")) (eVar 5)) aNil)))) (orB (notB (tst truD (callE m__law_asked (aCons (strM joinD (eC (.str "\n")) (sliceE (eVar 5) pN (pS (eC (.int 6))))) aNil)))) (notB (tst truD (callE m__law_asked (aCons (strM joinD (eC (.str "\n")) (sliceE (eVar 5) (pS (eC (.int 1))) pN)) aNil))))))) (sRet (eC (.bl false))) sNext) (sFrz 5 (sSeq (sFor (appO lstD (aCons (eC .non) (aCons (eC (.int 7)) (aCons (own (appO listL (aCons (eVar 5) aNil))) (aCons (app tupleL (aCons (eVar 2) aNil)) aNil))))) (gN 6) B1_law) (sSeq (sIf (notB (tst truD (callE m__law_populations (aCons (eVar 2) (aCons (callE m__law_cell (aCons (eVar 0) (aCons (eC (.int 4)) aNil))) aNil))))) (sRet (eC (.bl false))) sNext) (sRet (callE m__law_refused (aCons (eVar 2) (aCons (bin modD (app intL (aCons (bin ixD (eVar 1) (eC (.int 3))) aNil)) (bin addD (app min2L (aCons (eC (.int 5)) (aCons (app lenL (aCons (eVar 2) aNil)) aNil))) (eC (.int 1)))) (aCons (bin ixD (eVar 1) (eC (.int 2))) aNil))))))))))))))))))
def m_law : List D → Res RV := runF 7 b_law
theorem go_law {x0 : D} {o : Out} {r : Res RV} (h : b_law [.sh x0, .no, .no, .no, .no, .no, .no] = o) (k : runO o = r) : m_law [x0] = r := by rw [← k, ← h]; rfl
end K55

set_option maxRecDepth 100000
set_option maxHeartbeats 1000000
namespace K55
open PySem PL
theorem is_integer_eq (d : D) : m_is_integer [d] = .ok (.sh (.bl (isiB (tyD d) "int" && !isiB (tyD d) "bool"))) := by cases d <;> rfl
theorem in_range_int (i lo hi : Int) : m_in_range [.int i, .int lo, .int hi] = .ok (.sh (.bl (decide (lo ≤ i) && decide (i ≤ hi)))) := by
  have h : m_is_integer [.int i] = .ok (.sh (.bl true)) := rfl
  unfold m_in_range b_in_range
  simp only [PL.runF, PL.runO, PL.start0, PL.sSeq, PL.sNext, PL.sSet, PL.sSetO, PL.sDrop, PL.sRet, PL.sRetO, PL.sRetV, PL.sRetN, PL.sIf, PL.sBrk, PL.sCont, PL.sFrz, PL.sFor, PL.sAsg, PL.sRaise, PL.sTry, PL.tryO, PL.unset, PL.xRet, PL.fldX, PL.ofR_ok, PL.ofR_exc, PL.eC, PL.eVar, PL.bin, PL.una, PL.aNil, PL.aCons, PL.app, PL.appO, PL.own, PL.tru, PL.ifE, PL.andB, PL.orB, PL.notB, PL.gd, PL.bOf, PL.truD, PL.tst, PL.andV, PL.orV, PL.notV, PL.callE, PL.callO, PL.rvD, PL.rvO, PL.bind_ok, PL.bind_exc, PL.bind_stuck, PL.addD, PL.subD, PL.mulD, PL.modD, PL.fdivD, PL.powD, PL.ltD, PL.leD, PL.gtD, PL.geD, PL.isD, PL.isNotD, PL.isNonD, PL.ixD, PL.sliceD, PL.sliceE, PL.pN, PL.pS, PL.lenL, PL.absL, PL.intL, PL.max2L, PL.min2L, PL.listL, PL.tupleL, PL.isiD, PL.isiB, PL.tyD, PL.itE, PL.seqOf, PL.gN, PL.gT, PL.setAll, PL.lp_next, PL.lp_ret, PL.lp_exc, PL.for_nil, PL.for_cons, PL.atI_0, PL.atI_1, PL.atI_2, PL.atI_3, PL.tupD, PL.lstD, PL.owL, PL.setL, PL.sApp, PL.sPop, PL.sPopAt, PL.popAt, PL.sPut, PL.putAt, PL.ixO, PL.borE, PL.borT, PL.borO, PL.binO, PL.catO, PL.repO, PL.cutO, PL.sliceO, PL.lcE, PL.yesB, PL.mkBV, PL.mkTM, PL.mkBT, PL.negD, List.map_cons, List.map_nil, List.length_cons, List.length_nil, List.getElem?_cons_zero, List.getElem?_cons_succ, List.set_cons_zero, List.set_cons_succ, List.cons_append, List.nil_append, List.replicate_succ, List.replicate_zero, List.append_nil, Nat.reduceSub, Nat.reduceAdd, Bool.false_eq_true, List.map, PL.eq_int, PL.ne_int, PL.eq_bl,  if_true, if_false, ite_true, ite_false, h]
  cases decide (lo ≤ i) <;> rfl
theorem need_list_ok (xs : List D) (n : Int) (w : D) (h : (xs.length : Int) ≤ n) : m_need_list [.lst xs, .int n, w] = .ok (.sh .non) := by
  unfold m_need_list b_need_list
  have h2 : ¬ n < (xs.length : Int) := by omega
  simp [PL.runF, PL.runO, PL.start0, PL.sSeq, PL.sNext, PL.sSet, PL.sSetO, PL.sDrop, PL.sRet, PL.sRetO, PL.sRetV, PL.sRetN, PL.sIf, PL.sBrk, PL.sCont, PL.sFrz, PL.sFor, PL.sAsg, PL.sRaise, PL.sTry, PL.tryO, PL.unset, PL.xRet, PL.fldX, PL.ofR_ok, PL.ofR_exc, PL.eC, PL.eVar, PL.bin, PL.una, PL.aNil, PL.aCons, PL.app, PL.appO, PL.own, PL.tru, PL.ifE, PL.andB, PL.orB, PL.notB, PL.gd, PL.bOf, PL.truD, PL.tst, PL.andV, PL.orV, PL.notV, PL.callE, PL.callO, PL.rvD, PL.rvO, PL.bind_ok, PL.bind_exc, PL.bind_stuck, PL.addD, PL.subD, PL.mulD, PL.modD, PL.fdivD, PL.powD, PL.ltD, PL.leD, PL.gtD, PL.geD, PL.isD, PL.isNotD, PL.isNonD, PL.ixD, PL.sliceD, PL.sliceE, PL.pN, PL.pS, PL.lenL, PL.absL, PL.intL, PL.max2L, PL.min2L, PL.listL, PL.tupleL, PL.isiD, PL.isiB, PL.tyD, PL.itE, PL.seqOf, PL.gN, PL.gT, PL.setAll, PL.lp_next, PL.lp_ret, PL.lp_exc, PL.for_nil, PL.for_cons, PL.atI_0, PL.atI_1, PL.atI_2, PL.atI_3, PL.tupD, PL.lstD, PL.owL, PL.setL, PL.sApp, PL.sPop, PL.sPopAt, PL.popAt, PL.sPut, PL.putAt, PL.ixO, PL.borE, PL.borT, PL.borO, PL.binO, PL.catO, PL.repO, PL.cutO, PL.sliceO, PL.lcE, PL.yesB, PL.mkBV, PL.mkTM, PL.mkBT, PL.negD, List.map_cons, List.map_nil, List.length_cons, List.length_nil, List.getElem?_cons_zero, List.getElem?_cons_succ, List.set_cons_zero, List.set_cons_succ, List.cons_append, List.nil_append, List.replicate_succ, List.replicate_zero, List.append_nil, Nat.reduceSub, Nat.reduceAdd, Bool.false_eq_true, List.map, PL.eq_int, PL.ne_int, PL.eq_bl,  if_true, if_false, ite_true, ite_false, h2]
theorem need_list_many (xs : List D) (n : Int) (w : D) (h : n < (xs.length : Int)) : m_need_list [.lst xs, .int n, w] = .exc (.tooMany (.int n)) := by
  unfold m_need_list b_need_list
  simp [PL.runF, PL.runO, PL.start0, PL.sSeq, PL.sNext, PL.sSet, PL.sSetO, PL.sDrop, PL.sRet, PL.sRetO, PL.sRetV, PL.sRetN, PL.sIf, PL.sBrk, PL.sCont, PL.sFrz, PL.sFor, PL.sAsg, PL.sRaise, PL.sTry, PL.tryO, PL.unset, PL.xRet, PL.fldX, PL.ofR_ok, PL.ofR_exc, PL.eC, PL.eVar, PL.bin, PL.una, PL.aNil, PL.aCons, PL.app, PL.appO, PL.own, PL.tru, PL.ifE, PL.andB, PL.orB, PL.notB, PL.gd, PL.bOf, PL.truD, PL.tst, PL.andV, PL.orV, PL.notV, PL.callE, PL.callO, PL.rvD, PL.rvO, PL.bind_ok, PL.bind_exc, PL.bind_stuck, PL.addD, PL.subD, PL.mulD, PL.modD, PL.fdivD, PL.powD, PL.ltD, PL.leD, PL.gtD, PL.geD, PL.isD, PL.isNotD, PL.isNonD, PL.ixD, PL.sliceD, PL.sliceE, PL.pN, PL.pS, PL.lenL, PL.absL, PL.intL, PL.max2L, PL.min2L, PL.listL, PL.tupleL, PL.isiD, PL.isiB, PL.tyD, PL.itE, PL.seqOf, PL.gN, PL.gT, PL.setAll, PL.lp_next, PL.lp_ret, PL.lp_exc, PL.for_nil, PL.for_cons, PL.atI_0, PL.atI_1, PL.atI_2, PL.atI_3, PL.tupD, PL.lstD, PL.owL, PL.setL, PL.sApp, PL.sPop, PL.sPopAt, PL.popAt, PL.sPut, PL.putAt, PL.ixO, PL.borE, PL.borT, PL.borO, PL.binO, PL.catO, PL.repO, PL.cutO, PL.sliceO, PL.lcE, PL.yesB, PL.mkBV, PL.mkTM, PL.mkBT, PL.negD, List.map_cons, List.map_nil, List.length_cons, List.length_nil, List.getElem?_cons_zero, List.getElem?_cons_succ, List.set_cons_zero, List.set_cons_succ, List.cons_append, List.nil_append, List.replicate_succ, List.replicate_zero, List.append_nil, Nat.reduceSub, Nat.reduceAdd, Bool.false_eq_true, List.map, PL.eq_int, PL.ne_int, PL.eq_bl,  if_true, if_false, ite_true, ite_false, h]
theorem need_list_no (xs : List D) (n : Int) (w : D) : m_need_list [.tup xs, .int n, w] = .exc (.badValue w) := by
  unfold m_need_list b_need_list
  simp [PL.runF, PL.runO, PL.start0, PL.sSeq, PL.sNext, PL.sSet, PL.sSetO, PL.sDrop, PL.sRet, PL.sRetO, PL.sRetV, PL.sRetN, PL.sIf, PL.sBrk, PL.sCont, PL.sFrz, PL.sFor, PL.sAsg, PL.sRaise, PL.sTry, PL.tryO, PL.unset, PL.xRet, PL.fldX, PL.ofR_ok, PL.ofR_exc, PL.eC, PL.eVar, PL.bin, PL.una, PL.aNil, PL.aCons, PL.app, PL.appO, PL.own, PL.tru, PL.ifE, PL.andB, PL.orB, PL.notB, PL.gd, PL.bOf, PL.truD, PL.tst, PL.andV, PL.orV, PL.notV, PL.callE, PL.callO, PL.rvD, PL.rvO, PL.bind_ok, PL.bind_exc, PL.bind_stuck, PL.addD, PL.subD, PL.mulD, PL.modD, PL.fdivD, PL.powD, PL.ltD, PL.leD, PL.gtD, PL.geD, PL.isD, PL.isNotD, PL.isNonD, PL.ixD, PL.sliceD, PL.sliceE, PL.pN, PL.pS, PL.lenL, PL.absL, PL.intL, PL.max2L, PL.min2L, PL.listL, PL.tupleL, PL.isiD, PL.isiB, PL.tyD, PL.itE, PL.seqOf, PL.gN, PL.gT, PL.setAll, PL.lp_next, PL.lp_ret, PL.lp_exc, PL.for_nil, PL.for_cons, PL.atI_0, PL.atI_1, PL.atI_2, PL.atI_3, PL.tupD, PL.lstD, PL.owL, PL.setL, PL.sApp, PL.sPop, PL.sPopAt, PL.popAt, PL.sPut, PL.putAt, PL.ixO, PL.borE, PL.borT, PL.borO, PL.binO, PL.catO, PL.repO, PL.cutO, PL.sliceO, PL.lcE, PL.yesB, PL.mkBV, PL.mkTM, PL.mkBT, PL.negD, List.map_cons, List.map_nil, List.length_cons, List.length_nil, List.getElem?_cons_zero, List.getElem?_cons_succ, List.set_cons_zero, List.set_cons_succ, List.cons_append, List.nil_append, List.replicate_succ, List.replicate_zero, List.append_nil, Nat.reduceSub, Nat.reduceAdd, Bool.false_eq_true, List.map, PL.eq_int, PL.ne_int, PL.eq_bl,  if_true, if_false, ite_true, ite_false]
theorem in_range_not (d : D) (lo hi : Int) (h : m_is_integer [d] = no) : m_in_range [d, .int lo, .int hi] = no := by
  unfold m_in_range b_in_range
  simp only [PL.runF, PL.runO, PL.start0, PL.sSeq, PL.sNext, PL.sSet, PL.sSetO, PL.sDrop, PL.sRet, PL.sRetO, PL.sRetV, PL.sRetN, PL.sIf, PL.sBrk, PL.sCont, PL.sFrz, PL.sFor, PL.sAsg, PL.sRaise, PL.sTry, PL.tryO, PL.unset, PL.xRet, PL.fldX, PL.ofR_ok, PL.ofR_exc, PL.eC, PL.eVar, PL.bin, PL.una, PL.aNil, PL.aCons, PL.app, PL.appO, PL.own, PL.tru, PL.ifE, PL.andB, PL.orB, PL.notB, PL.gd, PL.bOf, PL.truD, PL.tst, PL.andV, PL.orV, PL.notV, PL.callE, PL.callO, PL.rvD, PL.rvO, PL.bind_ok, PL.bind_exc, PL.bind_stuck, PL.addD, PL.subD, PL.mulD, PL.modD, PL.fdivD, PL.powD, PL.ltD, PL.leD, PL.gtD, PL.geD, PL.isD, PL.isNotD, PL.isNonD, PL.ixD, PL.sliceD, PL.sliceE, PL.pN, PL.pS, PL.lenL, PL.absL, PL.intL, PL.max2L, PL.min2L, PL.listL, PL.tupleL, PL.isiD, PL.isiB, PL.tyD, PL.itE, PL.seqOf, PL.gN, PL.gT, PL.setAll, PL.lp_next, PL.lp_ret, PL.lp_exc, PL.for_nil, PL.for_cons, PL.atI_0, PL.atI_1, PL.atI_2, PL.atI_3, PL.tupD, PL.lstD, PL.owL, PL.setL, PL.sApp, PL.sPop, PL.sPopAt, PL.popAt, PL.sPut, PL.putAt, PL.ixO, PL.borE, PL.borT, PL.borO, PL.binO, PL.catO, PL.repO, PL.cutO, PL.sliceO, PL.lcE, PL.yesB, PL.mkBV, PL.mkTM, PL.mkBT, PL.negD, List.map_cons, List.map_nil, List.length_cons, List.length_nil, List.getElem?_cons_zero, List.getElem?_cons_succ, List.set_cons_zero, List.set_cons_succ, List.cons_append, List.nil_append, List.replicate_succ, List.replicate_zero, List.append_nil, Nat.reduceSub, Nat.reduceAdd, Bool.false_eq_true, List.map, PL.eq_int, PL.ne_int, PL.eq_bl,  if_true, if_false, ite_true, ite_false, h]
theorem same_loop {n : Nat} {d : D} {xs : List D} (hix : ∀ k, (hk : k < xs.length) → ixD d (.int (k : Nat)) = .ok xs[k]) (h : ∀ x ∈ xs, m__law_same n [x, x] = yes) : ∀ (ks : List Nat) (o : Sl), (∀ k ∈ ks, k < xs.length) →
    ∃ o', forL (gN 2) (B1__law_same (m__law_same n)) (ks.map fun k => .int ((k : Nat) : Int)) [.sh d, .sh d, o] = .next [.sh d, .sh d, o']
  | [], o, _ => ⟨o, rfl⟩
  | k :: ks, o, hk => by
    obtain ⟨o', ih⟩ := same_loop hix h ks (.sh (.int (k : Nat))) fun x hx => hk x (List.mem_cons_of_mem _ hx)
    refine ⟨o', ?_⟩
    have hl := hk k List.mem_cons_self
    have hb : B1__law_same (m__law_same n) [.sh d, .sh d, .sh (.int (k : Nat))] = .next [.sh d, .sh d, .sh (.int (k : Nat))] := by
      unfold B1__law_same
      have e : PL.bin ixD (eVar 0) (eVar 2) [.sh d, .sh d, .sh (.int (k : Nat))] = .ok xs[k] := hix k hl
      have e2 : PL.bin ixD (eVar 1) (eVar 2) [.sh d, .sh d, .sh (.int (k : Nat))] = .ok xs[k] := hix k hl
      have e3 := h xs[k] (List.getElem_mem hl)
      unfold sIf notB tst callE aCons
      rw [e]
      simp only [bind_ok]
      unfold aNil
      rw [e2]
      simp only [bind_ok, e3]
      rfl
    show lpO _ (B1__law_same (m__law_same n) [.sh d, .sh d, .sh (.int (k : Nat))]) = _
    rw [hb]
    exact ih
theorem same_seq {n : Nat} {d : D} {xs : List D} (hd : d = .tup xs ∨ d = .lst xs) (hl : xs.length ≤ 1000) (h : ∀ x ∈ xs, m__law_same n [x, x] = yes) : m__law_same (n + 1) [d, d] = yes := by
  have hix : ∀ k, (hk : k < xs.length) → ixD d (.int (k : Nat)) = .ok xs[k] := by
    rcases hd with e | e <;> subst e
    · exact ix_tup xs
    · exact ix_lst xs
  obtain ⟨o', hf⟩ := same_loop hix h (List.range xs.length) .no fun k hk => List.mem_range.mp hk
  have g1 := rng1_nat xs.length (by omega)
  show runO (b__law_same (m__law_same n) [.sh d, .sh d, .no]) = _
  have step : ∀ (f g : En → Out), f [.sh d, .sh d, .no] = .next [.sh d, .sh d, .no] → sSeq f g [.sh d, .sh d, .no] = g [.sh d, .sh d, .no] := fun f g e => seq_next e
  have hlen : lenL [d] = .ok (.int (xs.length : Nat)) := by rcases hd with e | e <;> subst e <;> rfl
  unfold b__law_same
  rw [step, step, step, step, step, step, step]
  · unfold sSeq sFor PL.appO PL.app PL.aCons PL.aNil PL.eVar
    simp only [List.getElem?_cons_zero, List.getElem?_cons_succ, bind_ok, hlen, g1, ofR_ok, hf]
    rfl
  · unfold sIf PL.tst PL.bin PL.app PL.aCons PL.aNil PL.eVar
    simp only [List.getElem?_cons_zero, List.getElem?_cons_succ, bind_ok, hlen, ne_int, decide_true, Bool.not_true]
    rfl
  all_goals (rcases hd with e | e <;> subst e <;> rfl)
theorem same_refl : ∀ (n : Nat) (d : D), pl d = true → dep d < n → m__law_same n [d, d] = yes
  | 0, d, _, h => absurd h (Nat.not_lt_zero _)
  | n + 1, d, h, hn => by
    cases d with
    | non => rfl
    | bl b => cases b <;> rfl
    | int i =>
      show runF 3 (b__law_same (m__law_same n)) [.int i, .int i] = _
      unfold b__law_same
      simp only [PL.runF, PL.runO, PL.start0, PL.sSeq, PL.sNext, PL.sSet, PL.sSetO, PL.sDrop, PL.sRet, PL.sRetO, PL.sRetV, PL.sRetN, PL.sIf, PL.sBrk, PL.sCont, PL.sFrz, PL.sFor, PL.sAsg, PL.sRaise, PL.sTry, PL.tryO, PL.unset, PL.xRet, PL.fldX, PL.ofR_ok, PL.ofR_exc, PL.eC, PL.eVar, PL.bin, PL.una, PL.aNil, PL.aCons, PL.app, PL.appO, PL.own, PL.tru, PL.ifE, PL.andB, PL.orB, PL.notB, PL.gd, PL.bOf, PL.truD, PL.tst, PL.andV, PL.orV, PL.notV, PL.callE, PL.callO, PL.rvD, PL.rvO, PL.bind_ok, PL.bind_exc, PL.bind_stuck, PL.addD, PL.subD, PL.mulD, PL.modD, PL.fdivD, PL.powD, PL.ltD, PL.leD, PL.gtD, PL.geD, PL.isD, PL.isNotD, PL.isNonD, PL.ixD, PL.sliceD, PL.sliceE, PL.pN, PL.pS, PL.lenL, PL.absL, PL.intL, PL.max2L, PL.min2L, PL.listL, PL.tupleL, PL.isiD, PL.isiB, PL.tyD, PL.itE, PL.seqOf, PL.gN, PL.gT, PL.setAll, PL.lp_next, PL.lp_ret, PL.lp_exc, PL.for_nil, PL.for_cons, PL.atI_0, PL.atI_1, PL.atI_2, PL.atI_3, PL.tupD, PL.lstD, PL.owL, PL.setL, PL.sApp, PL.sPop, PL.sPopAt, PL.popAt, PL.sPut, PL.putAt, PL.ixO, PL.borE, PL.borT, PL.borO, PL.binO, PL.catO, PL.repO, PL.cutO, PL.sliceO, PL.lcE, PL.yesB, PL.mkBV, PL.mkTM, PL.mkBT, PL.negD, List.map_cons, List.map_nil, List.length_cons, List.length_nil, List.getElem?_cons_zero, List.getElem?_cons_succ, List.set_cons_zero, List.set_cons_succ, List.cons_append, List.nil_append, List.replicate_succ, List.replicate_zero, List.append_nil, Nat.reduceSub, Nat.reduceAdd, Bool.false_eq_true, List.map, PL.eq_int, PL.ne_int, PL.eq_bl,  if_true, if_false, ite_true, ite_false, String.reduceBEq, decide_true, decide_false, Bool.not_true, Bool.not_false, Bool.true_and, Bool.false_and, Bool.and_true, Bool.and_false, Bool.true_or, Bool.false_or, Bool.or_true, Bool.or_false, decide_not, Bool.not_eq_true, Bool.not_not, reduceCtorEq, ne_eq, not_true_eq_false, not_false_eq_true, eq_self, beq_self_eq_true, bne_self_eq_false, and_true, true_and, and_self]
    | str s =>
      show runF 3 (b__law_same (m__law_same n)) [.str s, .str s] = _
      unfold b__law_same
      simp only [PL.runF, PL.runO, PL.start0, PL.sSeq, PL.sNext, PL.sSet, PL.sSetO, PL.sDrop, PL.sRet, PL.sRetO, PL.sRetV, PL.sRetN, PL.sIf, PL.sBrk, PL.sCont, PL.sFrz, PL.sFor, PL.sAsg, PL.sRaise, PL.sTry, PL.tryO, PL.unset, PL.xRet, PL.fldX, PL.ofR_ok, PL.ofR_exc, PL.eC, PL.eVar, PL.bin, PL.una, PL.aNil, PL.aCons, PL.app, PL.appO, PL.own, PL.tru, PL.ifE, PL.andB, PL.orB, PL.notB, PL.gd, PL.bOf, PL.truD, PL.tst, PL.andV, PL.orV, PL.notV, PL.callE, PL.callO, PL.rvD, PL.rvO, PL.bind_ok, PL.bind_exc, PL.bind_stuck, PL.addD, PL.subD, PL.mulD, PL.modD, PL.fdivD, PL.powD, PL.ltD, PL.leD, PL.gtD, PL.geD, PL.isD, PL.isNotD, PL.isNonD, PL.ixD, PL.sliceD, PL.sliceE, PL.pN, PL.pS, PL.lenL, PL.absL, PL.intL, PL.max2L, PL.min2L, PL.listL, PL.tupleL, PL.isiD, PL.isiB, PL.tyD, PL.itE, PL.seqOf, PL.gN, PL.gT, PL.setAll, PL.lp_next, PL.lp_ret, PL.lp_exc, PL.for_nil, PL.for_cons, PL.atI_0, PL.atI_1, PL.atI_2, PL.atI_3, PL.tupD, PL.lstD, PL.owL, PL.setL, PL.sApp, PL.sPop, PL.sPopAt, PL.popAt, PL.sPut, PL.putAt, PL.ixO, PL.borE, PL.borT, PL.borO, PL.binO, PL.catO, PL.repO, PL.cutO, PL.sliceO, PL.lcE, PL.yesB, PL.mkBV, PL.mkTM, PL.mkBT, PL.negD, List.map_cons, List.map_nil, List.length_cons, List.length_nil, List.getElem?_cons_zero, List.getElem?_cons_succ, List.set_cons_zero, List.set_cons_succ, List.cons_append, List.nil_append, List.replicate_succ, List.replicate_zero, List.append_nil, Nat.reduceSub, Nat.reduceAdd, Bool.false_eq_true, List.map, PL.eq_int, PL.ne_int, PL.eq_bl,  if_true, if_false, ite_true, ite_false, String.reduceBEq, decide_true, decide_false, Bool.not_true, Bool.not_false, Bool.true_and, Bool.false_and, Bool.and_true, Bool.and_false, Bool.true_or, Bool.false_or, Bool.or_true, Bool.or_false, decide_not, Bool.not_eq_true, Bool.not_not, reduceCtorEq, ne_eq, not_true_eq_false, not_false_eq_true, eq_self, beq_self_eq_true, bne_self_eq_false, and_true, true_and, and_self, eq_str h h]
    | tup xs =>
      unfold pl at h
      unfold dep at hn
      rw [Bool.and_eq_true, decide_eq_true_eq] at h
      exact same_seq (.inl rfl) h.2 fun x hx => same_refl n x (plA_mem h.1 hx) (by have := depA_mem hx; omega)
    | lst xs =>
      unfold pl at h
      unfold dep at hn
      rw [Bool.and_eq_true, decide_eq_true_eq] at h
      exact same_seq (.inr rfl) h.2 fun x hx => same_refl n x (plA_mem h.1 hx) (by have := depA_mem hx; omega)
    | scr ns => cases h
theorem row_loop1 {c m s5 : Sl} {lim : Int} (h0 : 0 < lim) (h1 : lim < 18446744073709551616) : ∀ (ks : List Nat) (rest : Int) (acc : List D) (o6 : Sl), acc.length + ks.length ≤ 100000 → ∃ xs rest' o6', Draws ks.length lim xs ∧
    forL (gN 6) B1__law_row (ks.map fun k => .int ((k : Nat) : Int)) [c, m, .sh (.int lim), .sh (.int rest), .ow (.lst acc), s5, o6] = .next [c, m, .sh (.int lim), .sh (.int rest'), .ow (.lst (acc ++ xs.map D.int)), s5, o6']
  | [], rest, acc, o6, _ => ⟨[], rest, o6, ⟨rfl, fun x hx => by cases hx⟩, by rw [List.map_nil, List.map_nil, List.append_nil]; rfl⟩
  | k :: ks, rest, acc, o6, hz => by
    simp only [List.length_cons] at hz
    obtain ⟨xs, rest', o6', ⟨hl, hx⟩, ih⟩ := row_loop1 (c := c) (m := m) (s5 := s5) h0 h1 ks (rest / lim) (acc ++ [.int (rest % lim)]) (.sh (.int (k : Nat))) (by simp only [List.length_append, List.length_cons, List.length_nil]; omega)
    refine ⟨rest % lim :: xs, rest', o6', ⟨by rw [List.length_cons, List.length_cons, hl], fun x h => ?_⟩, ?_⟩
    · rcases List.mem_cons.mp h with e | e
      · subst e; exact ⟨Int.emod_nonneg _ (by omega), Int.emod_lt_of_pos _ h0⟩
      · exact hx x e
    · rw [List.map_cons, for_cons]
      show lpO _ (B1__law_row [c, m, .sh (.int lim), .sh (.int rest), .ow (.lst acc), s5, .sh (.int (k : Nat))]) = _
      have hb : B1__law_row [c, m, .sh (.int lim), .sh (.int rest), .ow (.lst acc), s5, .sh (.int (k : Nat))] = .next [c, m, .sh (.int lim), .sh (.int (rest / lim)), .ow (.lst (acc ++ [.int (rest % lim)])), s5, .sh (.int (k : Nat))] :=
        seq_n (app_ok (xs := acc) rfl (bin_eq (x := .int rest) (app_eq (cons_eq rfl rfl) rfl) rfl (mod_int rest lim h0)) (by omega)) (set_eq (bin_eq rfl rfl (fdiv_int rest lim h0 h1)))
      rw [hb, lp_next, ih, List.append_assoc]
      rfl
theorem row_loop2 {c m : Sl} {lim rest : Int} (h0 : 0 < lim) (hr : 0 ≤ rest) (hr2 : rest < 1000000000000000000) : ∀ (ks : List Nat) (st : Int) (acc : List D) (o6 : Sl), (∀ k ∈ ks, k < 100000) → 0 ≤ st → st < 2147483648 → acc.length + ks.length ≤ 100000 → ∃ xs s5 o6', Draws ks.length lim xs ∧
    forL (gN 6) B2__law_row (ks.map fun k => .int ((k : Nat) : Int)) [c, m, .sh (.int lim), .sh (.int rest), .ow (.lst acc), .sh (.int st), o6] = .next [c, m, .sh (.int lim), .sh (.int rest), .ow (.lst (acc ++ xs.map D.int)), s5, o6']
  | [], st, acc, o6, _, _, _, _ => ⟨[], _, o6, ⟨rfl, fun x hx => by cases hx⟩, by rw [List.map_nil, List.map_nil, List.append_nil]; rfl⟩
  | k :: ks, st, acc, o6, hk, s0, s1, hz => by
    simp only [List.length_cons] at hz
    have hk0 := hk k List.mem_cons_self
    let st' : Int := (st * 69621 + (k : Nat) * 48271 + rest) % 2147483629
    have t0 : 0 ≤ st' := Int.emod_nonneg _ (by decide)
    have t1 : st' < 2147483629 := Int.emod_lt_of_pos _ (by decide)
    obtain ⟨xs, s5, o6', ⟨hl, hx⟩, ih⟩ := row_loop2 (c := c) (m := m) h0 hr hr2 ks st' (acc ++ [.int (st' / 7 % lim)]) (.sh (.int (k : Nat))) (fun x h => hk x (List.mem_cons_of_mem _ h)) t0 (by omega) (by simp only [List.length_append, List.length_cons, List.length_nil]; omega)
    refine ⟨st' / 7 % lim :: xs, s5, o6', ⟨by rw [List.length_cons, List.length_cons, hl], fun x h => ?_⟩, ?_⟩
    · rcases List.mem_cons.mp h with e | e
      · subst e; exact ⟨Int.emod_nonneg _ (by omega), Int.emod_lt_of_pos _ h0⟩
      · exact hx x e
    · rw [List.map_cons, for_cons]
      show lpO _ (B2__law_row [c, m, .sh (.int lim), .sh (.int rest), .ow (.lst acc), .sh (.int st), .sh (.int (k : Nat))]) = _
      have hb : B2__law_row [c, m, .sh (.int lim), .sh (.int rest), .ow (.lst acc), .sh (.int st), .sh (.int (k : Nat))] = .next [c, m, .sh (.int lim), .sh (.int rest), .ow (.lst (acc ++ [.int (st' / 7 % lim)])), .sh (.int st'), .sh (.int (k : Nat))] := by
        refine seq_n (set_eq (d := .int st') (bin_eq (x := .int (st * 69621 + (k : Nat) * 48271 + rest)) (app_eq (cons_eq (bin_eq (bin_eq (bin_eq rfl rfl (mul_int _ _ (by omega) (by decide))) (bin_eq rfl rfl (mul_int _ _ (by omega) (by decide))) rfl) rfl rfl) rfl) rfl) rfl (mod_int _ _ (by decide)))) ?_
        exact app_ok (xs := acc) rfl (bin_eq (x := .int (st' / 7)) (app_eq (cons_eq (bin_eq rfl rfl (fdiv_int _ _ (by decide) (by decide))) rfl) rfl) rfl (mod_int _ _ h0)) (by omega)
      rw [hb, lp_next, ih, List.append_assoc]
      rfl
theorem draw (cell : Int) (n : Nat) (lim : Int) (hn : n ≤ 1000) (h0 : 0 < lim) (h1 : lim < 18446744073709551616) : ∃ xs, Draws n lim xs ∧ m__law_row [.int cell, .int (n : Nat), .int lim] = .ok (.ow (xs.map D.int)) := by
  let r : Int := if cell < 0 then -cell else cell
  have r0 : 0 ≤ r := by show 0 ≤ (if cell < 0 then -cell else cell); split <;> omega
  have rg := rng1_nat n (by omega)
  have p18 : ∀ ρ : En, PL.bin powD (eC (.int 10)) (eC (.int 18)) ρ = .ok (.int 1000000000000000000) := fun ρ => bin_eq rfl rfl pow18
  have en : [Sl.sh (.int cell), .sh (.int (n : Nat)), .sh (.int lim), .no, .no, .no, .no] = start0 7 [.int cell, .int (n : Nat), .int lim] := rfl
  by_cases hb : (1000000000000000000 : Int) ≤ r
  · obtain ⟨xs, rest', o6', hd, hf⟩ := row_loop1 (c := .sh (.int cell)) (m := .sh (.int (n : Nat))) (s5 := .no) h0 h1 (List.range n) (r - 1000000000000000000) [] .no (by rw [List.length_range]; simp only [List.length_nil]; omega)
    rw [List.length_range] at hd
    refine ⟨xs, hd, ?_⟩
    refine run_of (b := b__law_row) (env := [.sh (.int cell), .sh (.int (n : Nat)), .sh (.int lim), .no, .no, .no, .no]) (o := .ret (.ow (xs.map D.int))) rfl ?_ rfl
    unfold b__law_row
    refine seq_n (set_eq (d := .int r) (app_eq (cons_eq rfl rfl) rfl)) (seq_n (setO_eq (appO_eq rfl (lst_ok [] (by simp)))) ?_)
    show sSeq _ _ [.sh (.int cell), .sh (.int (n : Nat)), .sh (.int lim), .sh (.int r), .ow (.lst []), .no, .no] = _
    refine seq_ret (if_eq (b := true) (tst_eq (d := .bl true) (bin_eq (x := .int r) rfl (p18 _) (by show Res.ok (D.bl (decide ((1000000000000000000 : Int) ≤ r))) = _; rw [decide_eq_true hb])) rfl) ?_)
    rw [if_pos rfl]
    refine seq_n (set_eq (d := .int (r - 1000000000000000000)) (bin_eq rfl (p18 _) rfl)) ?_
    exact seq_n (for_eq (appO_eq (cons_eq rfl rfl) rg) hf) rfl
  · have st0 : 0 ≤ (r * 48271 + 11) % 2147483647 := Int.emod_nonneg _ (by decide)
    have st1 : (r * 48271 + 11) % 2147483647 < 2147483647 := Int.emod_lt_of_pos _ (by decide)
    obtain ⟨xs, s5, o6', hd, hf⟩ := row_loop2 (c := .sh (.int cell)) (m := .sh (.int (n : Nat))) (rest := r) h0 r0 (by omega) (List.range n) ((r * 48271 + 11) % 2147483647) [] .no (fun k hk => by have := List.mem_range.mp hk; omega) st0 (by omega) (by rw [List.length_range]; simp only [List.length_nil]; omega)
    rw [List.length_range] at hd
    refine ⟨xs, hd, ?_⟩
    refine run_of (b := b__law_row) (env := [.sh (.int cell), .sh (.int (n : Nat)), .sh (.int lim), .no, .no, .no, .no]) (o := .ret (.ow (xs.map D.int))) rfl ?_ rfl
    unfold b__law_row
    refine seq_n (set_eq (d := .int r) (app_eq (cons_eq rfl rfl) rfl)) (seq_n (setO_eq (appO_eq rfl (lst_ok [] (by simp)))) ?_)
    show sSeq _ _ [.sh (.int cell), .sh (.int (n : Nat)), .sh (.int lim), .sh (.int r), .ow (.lst []), .no, .no] = _
    refine seq_n (if_eq (b := false) (tst_eq (d := .bl false) (bin_eq (x := .int r) rfl (p18 _) (by show Res.ok (D.bl (decide ((1000000000000000000 : Int) ≤ r))) = _; rw [decide_eq_false hb])) rfl) rfl) ?_
    refine seq_n (set_eq (d := .int ((r * 48271 + 11) % 2147483647)) (bin_eq (x := .int (r * 48271 + 11)) (app_eq (cons_eq (bin_eq (bin_eq rfl rfl (mul_int r 48271 (by omega) (by decide))) rfl rfl) rfl) rfl) rfl (mod_int _ _ (by decide)))) ?_
    exact seq_n (for_eq (appO_eq (cons_eq rfl rfl) rg) hf) rfl
theorem cell_eq (ns : List Int) (k : Nat) : ∃ c : Int, m__law_cell [.scr ns, .int (k : Nat)] = .ok (.sh (.int c)) := by
  have ht : tst bOf (PL.bin ltD (eVar 1) (app lenL (aCons (eVar 0) aNil))) [.sh (.scr ns), .sh (.int (k : Nat))] = .ok (decide ((k : Int) < (ns.length : Nat))) := tst_eq (bin_eq rfl (app_eq (cons_eq rfl rfl) rfl) rfl) rfl
  by_cases h : k < ns.length
  · refine ⟨ns[k], run_of (b := b__law_cell) (env := [.sh (.scr ns), .sh (.int (k : Nat))]) (o := .ret (.sh (.int ns[k]))) rfl ?_ rfl⟩
    rw [decide_eq_true (by omega)] at ht
    have ix : ixD (.scr ns) (.int (k : Nat)) = .ok (.int ns[k]) := by
      show (match L2.atI ns (k : Nat) with | some d => Res.ok (D.int d) | none => .stuck) = _
      rw [atI_nat, List.getElem?_eq_getElem h]
    exact seq_ret (if_eq ht (ret_eq (app_eq (cons_eq (bin_eq rfl rfl ix) rfl) rfl)))
  · refine ⟨0, run_of (b := b__law_cell) (env := [.sh (.scr ns), .sh (.int (k : Nat))]) (o := .ret (.sh (.int 0))) rfl ?_ rfl⟩
    rw [decide_eq_false (by omega)] at ht
    exact seq_n (if_eq ht rfl) (ret_eq rfl)

theorem is_int (i : Int) : m_is_integer [.int i] = .ok (.sh (.bl true)) := by rw [is_integer_eq]; rfl
theorem in_range_yes (i lo hi : Int) (h1 : lo ≤ i) (h2 : i ≤ hi) : m_in_range [.int i, .int lo, .int hi] = yes := by
  rw [in_range_int, decide_eq_true h1, decide_eq_true h2]; rfl
end K55

set_option maxRecDepth 100000
set_option maxHeartbeats 1000000
namespace K55
open PySem PL
theorem in_range_nt {d : D} {lo hi : Int} (h : (isiB (tyD d) "int" && !isiB (tyD d) "bool") = false) : m_in_range [d, .int lo, .int hi] = no := in_range_not d lo hi (by rw [is_integer_eq, h])
/-! ## limits -/
abbrev Lim := List Nat × Nat
abbrev nI (n : Nat) : D := .int (n : Int)
abbrev memD (ms : List Nat) : D := .tup (ms.map nI)
abbrev limD (x : Lim) : D := .tup [memD x.1, nI x.2]
/-- strictly ascending from lo, below many -/
def ascT (many : Nat) : Nat → List Nat → Bool
  | _, [] => true
  | lo, m :: ms => decide (lo ≤ m) && decide (m < many) && ascT many (m + 1) ms
def limOk (x : Lim) : Bool := decide (x.1 ≠ []) && ascT 4 0 x.1 && decide (x.2 ≤ 30)
theorem asc_loop {many : Nat} {v : D} : ∀ (ms : List Nat) (lo : Nat) (o : Sl), ∃ p o', forL (gN 4) B1_is_ascending (ms.map nI) [.sh v, .sh (.int 0), .sh (.int ((many : Int) - 1)), .sh (.int ((lo : Int) - 1)), o] = if ascT many lo ms = true then .next [.sh v, .sh (.int 0), .sh (.int ((many : Int) - 1)), p, o'] else .ret (.sh (.bl false))
  | [], lo, o => ⟨_, o, rfl⟩
  | m :: ms, lo, o => by
    obtain ⟨p, o', ih⟩ := asc_loop (many := many) (v := v) ms (m + 1) (.sh (nI m))
    refine ⟨p, o', ?_⟩
    rw [List.map_cons, for_cons]
    show lpO _ (B1_is_ascending [.sh v, .sh (.int 0), .sh (.int ((many : Int) - 1)), .sh (.int ((lo : Int) - 1)), .sh (nI m)]) = _
    have e0 : (((m + 1 : Nat) : Int) - 1) = (m : Int) := by omega
    rw [e0] at ih
    by_cases c : lo ≤ m ∧ m < many
    · have hb : B1_is_ascending [.sh v, .sh (.int 0), .sh (.int ((many : Int) - 1)), .sh (.int ((lo : Int) - 1)), .sh (nI m)] = .next [.sh v, .sh (.int 0), .sh (.int ((many : Int) - 1)), .sh (nI m), .sh (nI m)] := by
        unfold B1_is_ascending
        (repeat (exists in_range_yes _ _ _ (by omega) (by omega)))
      rw [hb, lp_next]
      unfold ascT
      rw [decide_eq_true c.1, decide_eq_true c.2, Bool.true_and, Bool.true_and]
      exact ih
    · have e : ascT many lo (m :: ms) = false := by
        unfold ascT
        rcases Nat.lt_or_ge m lo with h | h
        · rw [decide_eq_false (by omega : ¬ lo ≤ m)]; rfl
        · rw [decide_eq_false (by omega : ¬ m < many), Bool.and_false]; rfl
      have hb : B1_is_ascending [.sh v, .sh (.int 0), .sh (.int ((many : Int) - 1)), .sh (.int ((lo : Int) - 1)), .sh (nI m)] = .ret (.sh (.bl false)) := by
        unfold B1_is_ascending
        have q : m_in_range [.int (m : Int), .int 0, .int ((many : Int) - 1)] = bv (decide (m < many)) := by
          rw [in_range_int, decide_eq_true (by omega : (0 : Int) ≤ m), Bool.true_and]
          congr 3
          exact decide_eq_decide.mpr (by omega)
        by_cases h : m < many
        · rw [decide_eq_true h] at q
          (repeat (exists q))
        · rw [decide_eq_false h] at q
          (repeat (exists q))
      rw [hb, e, if_neg (by decide)]
      rfl
theorem is_asc (ms : List Nat) (many : Nat) : m_is_ascending [.lst (ms.map nI), .int 0, .int ((many : Int) - 1)] = bv (ascT many 0 ms) := by
  obtain ⟨p, o', h⟩ := asc_loop (many := many) (v := .lst (ms.map nI)) ms 0 .no
  by_cases c : ascT many 0 ms = true
  · rw [if_pos c] at h
    rw [c]
    refine go_is_ascending (o := .ret (.sh (.bl true))) ?_ rfl
    unfold b_is_ascending
    (repeat (exists h))
  · rw [if_neg c] at h
    rw [Bool.eq_false_iff.mpr c]
    refine go_is_ascending (o := .ret (.sh (.bl false))) ?_ rfl
    unfold b_is_ascending
    (repeat (exists h))
end K55

set_option maxRecDepth 100000
set_option maxHeartbeats 1000000
namespace K55
open PySem PL
theorem is_mem (ms : List Nat) (h0 : ms ≠ []) (h : ascT 4 0 ms = true) : m_is_members [memD ms, .int 4] = yes := by
  have e := is_asc ms 4
  rw [h] at e
  have hl : ¬ ((ms.map nI).length : Int) = 0 := by rw [List.length_map]; have := List.length_pos_iff.mpr h0; omega
  refine go_is_members (o := .ret (.sh (.bl true))) ?_ rfl
  unfold b_is_members memD
  (repeat (exists e))
theorem is_lim {x : Lim} (h : limOk x = true) : m_is_limit [limD x, .int 4] = yes := by
  unfold limOk at h
  simp only [Bool.and_eq_true, decide_eq_true_eq] at h
  have e := is_mem x.1 h.1.1 h.1.2
  have e2 := in_range_yes (x.2 : Int) 0 30 (by omega) (by omega)
  refine go_is_limit (o := .ret (.sh (.bl true))) ?_ rfl
  unfold b_is_limit limD
  (repeat (exists e, e2))
/-! ## contracts -/
abbrev ctr (xs : List Lim) : List D := xs.map limD
theorem is_ctr {xs : List Lim} (h : ∀ x ∈ xs, limOk x = true) (hl : xs.length ≤ 6) : m_is_contract [.lst (ctr xs)] = yes := by
  obtain ⟨o', lp⟩ := for_all (P := fun o => [.sh (.lst (ctr xs)), o]) (i := 1) (B := B1_is_contract) (ds := ctr xs) (o := .no) (fun _ _ => rfl) (fun d hd => by
    obtain ⟨x, hx, rfl⟩ := List.mem_map.mp hd
    unfold B1_is_contract
    (repeat (exists is_lim (h x hx))))
  have hl' : ¬ (6 : Int) < ((ctr xs).length : Nat) := by rw [List.length_map]; omega
  refine go_is_contract (o := .ret (.sh (.bl true))) ?_ rfl
  unfold b_is_contract
  (repeat (exists lp))
theorem is_ctr_bad {xs : List Lim} {v : D} {ys : List D} (h : ∀ x ∈ xs, limOk x = true) (hv : m_is_limit [v, .int 4] = no) (hl : xs.length + ys.length < 6) : m_is_contract [.lst (ctr xs ++ v :: ys)] = no := by
  have lp := for_stop (P := fun o => [.sh (.lst (ctr xs ++ v :: ys)), o]) (i := 1) (B := B1_is_contract) (pre := ctr xs) (d := v) (post := ys) (o := .no) (out := .ret (.sh (.bl false))) (fun _ _ => rfl) (by
    unfold B1_is_contract
    (repeat (exists hv))) (.inl ⟨_, rfl⟩) (fun d hd => by
    obtain ⟨x, hx, rfl⟩ := List.mem_map.mp hd
    unfold B1_is_contract
    (repeat (exists is_lim (h x hx))))
  have hl' : ¬ (6 : Int) < ((ctr xs ++ v :: ys).length : Nat) := by rw [List.length_append, List.length_map, List.length_cons]; omega
  refine go_is_contract (o := .ret (.sh (.bl false))) ?_ rfl
  unfold b_is_contract
  (repeat (exists lp))
theorem is_ctr_many {xs : List D} (hl : 6 < xs.length) : m_is_contract [.lst xs] = no := by
  have hl' : (6 : Int) < (xs.length : Nat) := by omega
  refine go_is_contract (o := .ret (.sh (.bl false))) ?_ rfl
  unfold b_is_contract
  (repeat (exists trivial))
theorem is_ctr_not {d : D} (h : isiB (tyD d) "list" = false) : m_is_contract [d] = no := by
  refine go_is_contract (o := .ret (.sh (.bl false))) ?_ rfl
  unfold b_is_contract
  (repeat (exists trivial))
theorem need_list_not {d : D} (n : Int) (w : D) (h : isiB (tyD d) "list" = false) : m_need_list [d, .int n, w] = .exc (.badValue w) := by
  refine go_need_list (o := .exc (.badValue w) [.sh d, .sh (.int n), .sh w]) ?_ rfl
  unfold b_need_list
  (repeat (exists trivial))
abbrev badC : Exc := .badValue (.str "contract")
theorem need_ctr {xs : List Lim} (h : ∀ x ∈ xs, limOk x = true) (hl : xs.length ≤ 6) : m_need_contract [.lst (ctr xs), .int 4] = .ok (.sh .non) := by
  obtain ⟨o', lp⟩ := for_all (P := fun o => [.sh (.lst (ctr xs)), .sh (.int 4), o]) (i := 2) (B := B1_need_contract) (ds := ctr xs) (o := .no) (fun _ _ => rfl) (fun d hd => by
    obtain ⟨x, hx, rfl⟩ := List.mem_map.mp hd
    unfold B1_need_contract
    (repeat (exists is_lim (h x hx))))
  refine go_need_contract (o := .next [.sh (.lst (ctr xs)), .sh (.int 4), o']) ?_ rfl
  unfold b_need_contract
  (repeat (exists lp, need_list_ok _ _ _ (by rw [List.length_map]; omega)))
theorem need_ctr_bad {xs : List Lim} {v : D} {ys : List D} (h : ∀ x ∈ xs, limOk x = true) (hv : m_is_limit [v, .int 4] = no) (hl : xs.length + ys.length < 6) : m_need_contract [.lst (ctr xs ++ v :: ys), .int 4] = .exc badC := by
  have lp := for_stop (P := fun o => [.sh (.lst (ctr xs ++ v :: ys)), .sh (.int 4), o]) (i := 2) (B := B1_need_contract) (pre := ctr xs) (d := v) (post := ys) (o := .no) (out := .exc badC [.sh (.lst (ctr xs ++ v :: ys)), .sh (.int 4), .sh v]) (fun _ _ => rfl) (by
    unfold B1_need_contract
    (repeat (exists hv))) (.inr ⟨_, _, rfl⟩) (fun d hd => by
    obtain ⟨x, hx, rfl⟩ := List.mem_map.mp hd
    unfold B1_need_contract
    (repeat (exists is_lim (h x hx))))
  refine go_need_contract (o := .exc badC [.sh (.lst (ctr xs ++ v :: ys)), .sh (.int 4), .sh v]) ?_ rfl
  unfold b_need_contract
  (repeat (exists lp, need_list_ok _ _ _ (by rw [List.length_append, List.length_map, List.length_cons]; omega)))
theorem need_ctr_many {xs : List D} (hl : 6 < xs.length) : m_need_contract [.lst xs, .int 4] = .exc (.tooMany (.int 6)) := by
  refine go_need_contract (o := .exc (.tooMany (.int 6)) [.sh (.lst xs), .sh (.int 4), .no]) ?_ rfl
  unfold b_need_contract
  (repeat (exists need_list_many _ _ _ (by omega)))
theorem need_ctr_not {d : D} (h : isiB (tyD d) "list" = false) : m_need_contract [d, .int 4] = .exc badC := by
  refine go_need_contract (o := .exc badC [.sh d, .sh (.int 4), .no]) ?_ rfl
  unfold b_need_contract
  (repeat (exists need_list_not _ _ h))
end K55

set_option maxRecDepth 100000
set_option maxHeartbeats 1000000
namespace K55
open PySem PL
theorem ascT_ge {many : Nat} : ∀ {ms : List Nat} {lo m : Nat}, ascT many lo ms = true → m ∈ ms → lo ≤ m ∧ m < many
  | a :: ms, lo, m, h, hm => by
    unfold ascT at h
    simp only [Bool.and_eq_true, decide_eq_true_eq] at h
    rcases List.mem_cons.mp hm with e | e
    · subst e; exact h.1
    · have := ascT_ge h.2 e; omega
theorem asc_filter {many : Nat} : ∀ (len lo : Nat) (ms : List Nat), ascT many lo ms = true → (List.range' lo len).filter (fun k => decide (k ∈ ms)) = ms.filter (fun k => decide (k < lo + len))
  | 0, lo, ms, h => by
    rw [List.range'_zero, List.filter_nil]
    exact (List.filter_eq_nil_iff.mpr fun m hm => by have := ascT_ge h hm; simp; omega).symm
  | len + 1, lo, [], h => by simp
  | len + 1, lo, m :: ms, h => by
    have h' := h
    unfold ascT at h'
    simp only [Bool.and_eq_true, decide_eq_true_eq] at h'
    rw [List.range'_succ]
    by_cases c : m = lo
    · subst c
      have ih := asc_filter len (m + 1) ms h'.2
      rw [List.filter_cons_of_pos (by simp), List.filter_cons_of_pos (by simp)]
      rw [show m + (len + 1) = m + 1 + len from by omega, ← ih]
      refine congrArg _ (List.filter_congr fun k hk => ?_)
      have := (List.mem_range'_1.mp hk).1
      refine decide_eq_decide.mpr ⟨fun z => ?_, fun z => List.mem_cons_of_mem _ z⟩
      rcases List.mem_cons.mp z with e | e
      · omega
      · exact e
    · have ih := asc_filter len (lo + 1) (m :: ms) (by unfold ascT; simp only [Bool.and_eq_true, decide_eq_true_eq]; exact ⟨⟨by omega, h'.1.2⟩, h'.2⟩)
      rw [List.filter_cons_of_neg (by
        simp only [decide_eq_true_eq]
        intro z
        rcases List.mem_cons.mp z with e | e
        · exact c e.symm
        · have := ascT_ge h'.2 e; omega), show lo + (len + 1) = lo + 1 + len from by omega]
      exact ih
def sumAt (ms cs : List Nat) : Nat := ((ms.filter fun k => decide (k < cs.length)).map fun k => cs.getD k 0).sum
def allowB (xs : List Lim) (cs : List Nat) : Bool := xs.all fun x => decide (sumAt x.1 cs ≤ x.2)
abbrev popD (cs : List Nat) : D := .tup (cs.map nI)
theorem ix_pop (cs : List Nat) (k : Nat) (h : k < cs.length) : ixD (popD cs) (.int (k : Int)) = .ok (nI (cs.getD k 0)) := by
  unfold popD
  rw [ix_tup _ _ (by rw [List.length_map]; exact h), List.getElem_map]
  congr 2
  simp [List.getD, h]
theorem intsOf_nI : ∀ (ns : List Nat), intsOf (ns.map nI) = some (ns.map fun n : Nat => (n : Int))
  | [] => rfl
  | n :: ns => by rw [List.map_cons]; unfold intsOf; rw [intsOf_nI ns]; rfl
theorem sum_cast : ∀ (ns : List Nat), (ns.map fun n : Nat => (n : Int)).sum = ((ns.sum : Nat) : Int)
  | [] => rfl
  | n :: ns => by rw [List.map_cons, List.sum_cons, sum_cast ns, List.sum_cons]; omega
theorem sum_nI (ns : List Nat) : sumL [.lst (ns.map nI)] = .ok (nI ns.sum) := by
  unfold sumL
  simp only [intsOf_nI, sum_cast]
theorem allowed_turn {C : Sl} {x : Lim} {cs : List Nat} (hz : x.1.length ≤ 1000) : B1_allowed [C, .sh (popD cs), .sh (memD x.1), .sh (nI x.2), .no] = if decide (sumAt x.1 cs ≤ x.2) = true then .next [C, .sh (popD cs), .sh (memD x.1), .sh (nI x.2), .no] else .ret (.sh (.bl false)) := by
  have hl : lcE (itE (eVar 2)) 4 T1_allowed E1_allowed [C, .sh (popD cs), .sh (memD x.1), .sh (nI x.2), .no] = .ok (((x.1.filter fun k => decide (k < cs.length)).map fun k => cs.getD k 0).map nI) := by
    rw [List.map_map]
    refine lce_filter (enc := nI) (xs := x.1) rfl (by omega) (fun k _ => ?_) fun k _ hk => ?_
    · show T1_allowed [C, .sh (popD cs), .sh (memD x.1), .sh (nI x.2), .sh (nI k)] = _
      unfold T1_allowed
      have e : decide ((k : Int) < ((cs.map nI).length : Nat)) = decide (k < cs.length) := decide_eq_decide.mpr (by rw [List.length_map]; omega)
      rw [← e]
      unfold popD
      (repeat (exists trivial))
    · show E1_allowed [C, .sh (popD cs), .sh (memD x.1), .sh (nI x.2), .sh (nI k)] = .ok (nI (cs.getD k 0))
      unfold E1_allowed
      (repeat (exists ix_pop cs k (by simpa using hk)))
  unfold B1_allowed
  have hs := sum_nI ((x.1.filter fun k => decide (k < cs.length)).map fun k => cs.getD k 0)
  by_cases c : sumAt x.1 cs ≤ x.2
  · rw [decide_eq_true c, if_pos rfl]
    unfold sumAt at c
    (repeat (exists hl, hs))
  · rw [decide_eq_false c, if_neg (by decide)]
    unfold sumAt at c
    (repeat (exists hl, hs))
theorem allowed_loop {C : Sl} {cs : List Nat} : ∀ (xs : List Lim) (o2 o3 : Sl), (∀ x ∈ xs, x.1.length ≤ 1000) → ∃ p2 p3, forL (gT [2, 3]) B1_allowed (ctr xs) [C, .sh (popD cs), o2, o3, .no] = if allowB xs cs = true then .next [C, .sh (popD cs), p2, p3, .no] else .ret (.sh (.bl false))
  | [], o2, o3, _ => ⟨o2, o3, rfl⟩
  | x :: xs, o2, o3, h => by
    obtain ⟨p2, p3, ih⟩ := allowed_loop (C := C) (cs := cs) xs (.sh (memD x.1)) (.sh (nI x.2)) fun y hy => h y (List.mem_cons_of_mem _ hy)
    refine ⟨p2, p3, ?_⟩
    show forL (gT [2, 3]) B1_allowed (.tup [memD x.1, nI x.2] :: ctr xs) _ = _
    rw [forT_cons (ρ1 := [C, .sh (popD cs), .sh (memD x.1), .sh (nI x.2), .no]) rfl, allowed_turn (h x List.mem_cons_self)]
    unfold allowB
    rw [List.all_cons]
    by_cases c : sumAt x.1 cs ≤ x.2
    · rw [decide_eq_true c, if_pos rfl, lp_next, Bool.true_and]; exact ih
    · rw [decide_eq_false c, if_neg (by decide), lp_ret, Bool.false_and, if_neg (by decide)]
theorem asc_len {many : Nat} : ∀ {ms : List Nat} {lo : Nat}, ascT many lo ms = true → ms.length ≤ many - lo
  | [], _, _ => by simp
  | m :: ms, lo, h => by
    unfold ascT at h
    simp only [Bool.and_eq_true, decide_eq_true_eq] at h
    have := asc_len h.2
    simp only [List.length_cons]
    omega
theorem lim_asc {x : Lim} (h : limOk x = true) : ascT 4 0 x.1 = true := by
  unfold limOk at h
  simp only [Bool.and_eq_true, decide_eq_true_eq] at h
  exact h.1.2
theorem allowed_eq {xs : List Lim} (cs : List Nat) (h : ∀ x ∈ xs, limOk x = true) : m_allowed [.lst (ctr xs), popD cs] = bv (allowB xs cs) := by
  obtain ⟨p2, p3, lp⟩ := allowed_loop (C := .sh (.lst (ctr xs))) (cs := cs) xs .no .no fun x hx => by have := asc_len (lim_asc (h x hx)); omega
  refine go_allowed (o := .ret (.sh (.bl (allowB xs cs)))) ?_ rfl
  unfold b_allowed
  cases c : allowB xs cs with
  | true => rw [c, if_pos rfl] at lp; (repeat (exists lp))
  | false => rw [c, if_neg (by decide)] at lp; (repeat (exists lp))
end K55

set_option maxRecDepth 100000
set_option maxHeartbeats 1000000
namespace K55
open PySem PL
def rd : RV → D | .sh d => d | .ow xs => .lst xs
theorem rvD_ok (r : RV) : rvD (.ok r) = .ok (rd r) := by cases r <;> rfl
def toldF (w : Nat) (f s : D) : Res RV := if w = 0 then m_parse_contract [f] else if w = 1 then m_format_contract [f] else m_allows [f, s]
theorem told_ok {w : Nat} {f s : D} {r : RV} (hw : w < 3) (h : toldF w f s = .ok r) : m__law_told [nI w, f, s] = .ok (.sh (.tup [.str "read", rd r])) := by
  unfold toldF at h
  refine go__law_told (o := .ret (.sh (.tup [.str "read", rd r]))) ?_ rfl
  unfold b__law_told
  by_cases c : w = 0
  · subst c
    rw [if_pos rfl] at h
    (repeat (exists h, rvD_ok r))
  · rw [if_neg c] at h
    by_cases c1 : w = 1
    · subst c1
      rw [if_pos rfl] at h
      (repeat (exists h, rvD_ok r))
    · rw [if_neg c1] at h
      have : w = 2 := by omega
      subst this
      (repeat (exists h, rvD_ok r))
theorem tell_tm {ls : List Clz} {ρ : En} (h : ls = [⟨knX, isX_BadText, 4, (xRet (fun ex => app tupD ((fun ex => aCons ((fun _ => (eC (.str "text"))) ex) ((fun ex => aCons ((fldX "BadText" "line") ex) ((fun ex => aCons ((fldX "BadText" "word") ex) ((fun ex => aCons ((fldX "BadText" "what") ex) ((fun _ => aNil) ex)) ex)) ex)) ex)) ex)))⟩, ⟨knX, isX_TooMany, 4, (xRet (fun ex => app tupD ((fun ex => aCons ((fun _ => (eC (.str "many"))) ex) ((fun ex => aCons ((fldX "TooMany" "limit") ex) ((fun _ => aNil) ex)) ex)) ex)))⟩, ⟨knX, isX_BadValue, 4, (xRet (fun ex => app tupD ((fun ex => aCons ((fun _ => (eC (.str "value"))) ex) ((fun ex => aCons ((fldX "BadValue" "what") ex) ((fun _ => aNil) ex)) ex)) ex)))⟩]) {e : Exc} (he : isMV e) : tryK ls (.exc e ρ) = .ret (.sh (tell e)) := by
  subst h
  show tryO _ e ρ = _
  cases e with
  | tooMany l =>
    simp only [tryO, knX, isX_TooMany, isX_BadValue, isX_BadText, if_true, if_false, Bool.false_eq_true]
    have : (app tupD (aCons (eC (.str "many")) (aCons (fldX "TooMany" "limit" (.tooMany l)) aNil))) (ρ.set 4 .no) = .ok (.tup [.str "many", l]) := app_eq (cons_eq rfl (cons_eq (gd_pos rfl) rfl)) (tup2 _ _)
    simp only [xRet, this, ofR_ok, unset]
    rfl
  | badValue l =>
    simp only [tryO, knX, isX_TooMany, isX_BadValue, isX_BadText, if_true, if_false, Bool.false_eq_true]
    have : (app tupD (aCons (eC (.str "value")) (aCons (fldX "BadValue" "what" (.badValue l)) aNil))) (ρ.set 4 .no) = .ok (.tup [.str "value", l]) := app_eq (cons_eq rfl (cons_eq (gd_pos rfl) rfl)) (tup2 _ _)
    simp only [xRet, this, ofR_ok, unset]
    rfl
  | badText l w x =>
    simp only [tryO, knX, isX_TooMany, isX_BadValue, isX_BadText, if_true, if_false, Bool.false_eq_true]
    have : (app tupD (aCons (eC (.str "text")) (aCons (fldX "BadText" "line" (.badText l w x)) (aCons (fldX "BadText" "word" (.badText l w x)) (aCons (fldX "BadText" "what" (.badText l w x)) aNil))))) (ρ.set 4 .no) = .ok (.tup [.str "text", l, w, x]) := app_eq (cons_eq rfl (cons_eq (gd_pos rfl) (cons_eq (gd_pos rfl) (cons_eq (gd_pos rfl) rfl)))) (tup_ok _ (by simp))
    simp only [xRet, this, ofR_ok, unset]
    rfl
  | _ => cases he
theorem told_exc {w : Nat} {f s : D} {e : Exc} (hw : w < 3) (he : isMV e) (h : toldF w f s = .exc e) : m__law_told [nI w, f, s] = .ok (.sh (tell e)) := by
  unfold toldF at h
  refine go__law_told (o := .ret (.sh (tell e))) ?_ rfl
  unfold b__law_told
  by_cases c : w = 0
  · subst c
    rw [if_pos rfl] at h
    (repeat (exists h, tell_tm rfl he))
  · rw [if_neg c] at h
    by_cases c1 : w = 1
    · subst c1
      rw [if_pos rfl] at h
      (repeat (exists h, tell_tm rfl he))
    · rw [if_neg c1] at h
      have : w = 2 := by omega
      subst this
      (repeat (exists h, tell_tm rfl he))
/-! ## populations -/
theorem is_pop {cs : List Nat} (h1 : 1 ≤ cs.length) (h2 : cs.length ≤ 4) : m_is_population [popD cs] = yes := by
  obtain ⟨o', lp⟩ := for_all (P := fun o => [.sh (popD cs), o]) (i := 1) (B := B1_is_population) (ds := cs.map nI) (o := .no) (fun _ _ => rfl) (fun d hd => by
    obtain ⟨x, hx, rfl⟩ := List.mem_map.mp hd
    unfold B1_is_population
    (repeat (exists is_int _)))
  have a1 : ¬ ((cs.map nI).length : Int) < 1 := by rw [List.length_map]; omega
  have a2 : ¬ (4 : Int) < ((cs.map nI).length : Nat) := by rw [List.length_map]; omega
  refine go_is_population (o := .ret (.sh (.bl true))) ?_ rfl
  unfold b_is_population popD at *
  (repeat (exists lp))
theorem is_pop_bad {cs : List Nat} {v : D} {ys : List D} (hv : (m_is_integer [v] = no) ∨ ∃ i : Int, v = .int i ∧ i < 0) (hl : cs.length + ys.length < 4) : m_is_population [.tup (cs.map nI ++ v :: ys)] = no := by
  have lp := for_stop (P := fun o => [.sh (.tup (cs.map nI ++ v :: ys)), o]) (i := 1) (B := B1_is_population) (pre := cs.map nI) (d := v) (post := ys) (o := .no) (out := .ret (.sh (.bl false))) (fun _ _ => rfl) (by
    unfold B1_is_population
    rcases hv with hv | ⟨i, rfl, hi⟩
    · (repeat (exists hv))
    · (repeat (exists is_int _))) (.inl ⟨_, rfl⟩) (fun d hd => by
    obtain ⟨x, hx, rfl⟩ := List.mem_map.mp hd
    unfold B1_is_population
    (repeat (exists is_int _)))
  have a1 : ¬ ((cs.map nI ++ v :: ys).length : Int) < 1 := by rw [List.length_append, List.length_map, List.length_cons]; omega
  have a2 : ¬ (4 : Int) < ((cs.map nI ++ v :: ys).length : Nat) := by rw [List.length_append, List.length_map, List.length_cons]; omega
  refine go_is_population (o := .ret (.sh (.bl false))) ?_ rfl
  unfold b_is_population
  (repeat (exists lp))
theorem is_pop_len {xs : List D} (h : xs.length < 1 ∨ 4 < xs.length) : m_is_population [.tup xs] = no := by
  refine go_is_population (o := .ret (.sh (.bl false))) ?_ rfl
  unfold b_is_population
  by_cases c : (xs.length : Int) < 1
  · (repeat (exists trivial))
  · have : (4 : Int) < (xs.length : Nat) := by omega
    (repeat (exists trivial))
theorem is_pop_not {d : D} (h : isiB (tyD d) "tuple" = false) : m_is_population [d] = no := by
  refine go_is_population (o := .ret (.sh (.bl false))) ?_ rfl
  unfold b_is_population
  (repeat (exists trivial))
theorem allows_ok {xs : List Lim} {cs : List Nat} (h : ∀ x ∈ xs, limOk x = true) (hl : xs.length ≤ 6) (h1 : 1 ≤ cs.length) (h2 : cs.length ≤ 4) : m_allows [.lst (ctr xs), popD cs] = bv (allowB xs cs) := by
  refine go_allows (o := .ret (.sh (.bl (allowB xs cs)))) ?_ rfl
  unfold b_allows
  (repeat (exists need_ctr h hl, is_pop h1 h2, allowed_eq cs h))
theorem allows_badC {c p : D} {e : Exc} (h : m_need_contract [c, .int 4] = .exc e) : m_allows [c, p] = .exc e := by
  refine go_allows (o := .exc e [.sh c, .sh p]) ?_ rfl
  unfold b_allows
  (repeat (exists h))
theorem allows_badP {xs : List Lim} {p : D} (h : ∀ x ∈ xs, limOk x = true) (hl : xs.length ≤ 6) (hp : m_is_population [p] = no) : m_allows [.lst (ctr xs), p] = .exc (.badValue (.str "population")) := by
  refine go_allows (o := .exc (.badValue (.str "population")) [.sh (.lst (ctr xs)), .sh p]) ?_ rfl
  unfold b_allows
  (repeat (exists need_ctr h hl, hp))
theorem format_bad {c : D} {e : Exc} (h : m_need_contract [c, .int 4] = .exc e) : ∃ ρ, b_format_contract ((.sh c) :: ρ) = .exc e ((.sh c) :: ρ) := by
  refine ⟨[.no, .no, .no, .no], ?_⟩
  unfold b_format_contract
  (repeat (exists h))
end K55

set_option maxRecDepth 100000
set_option maxHeartbeats 1000000
namespace K55
open PySem PL
theorem joinL_cons2 (a w x : List Nat) (xs : List (List Nat)) : TL.joinL a (w :: x :: xs) = TL.joinL a ((w ++ a ++ x) :: xs) := by
  cases xs with
  | nil => show w ++ (a ++ x) = w ++ a ++ x; rw [List.append_assoc]
  | cons y ys => show w ++ (a ++ (x ++ (a ++ TL.joinL a (y :: ys)))) = (w ++ a ++ x) ++ (a ++ TL.joinL a (y :: ys)); simp only [List.append_assoc]
theorem add_str (p q : List Nat) (h : p.length + q.length ≤ 1000000) : addD (.str (nm p)) (.str (nm q)) = .ok (.str (nm (p ++ q))) := by
  have e : addD (.str (nm p)) (.str (nm q)) = .ok (.str (nm p ++ nm q)) := gd_pos (sz _ (by rw [nm_length, nm_length]; omega))
  rw [e, nm_app]
def lineC (x : Lim) : List Nat := TL.joinL [32] (TL.numL x.2 :: x.1.map TL.numL)
theorem num_small {n : Nat} (h : n < 1000) : (TL.numL n).length ≤ 3 := TL.numL_len (k := 3) (by decide) h
theorem wline_loop {H A X : Sl} : ∀ (ms : List Nat) (w : List Nat) (o : Sl), (∀ m ∈ ms, m < 4) → w.length + ms.length * 4 ≤ 1000 → ∃ o', forL (gN 4) B1__law_written (ms.map nI) [H, A, X, .sh (.str (nm w)), o] = .next [H, A, X, .sh (.str (nm (TL.joinL [32] (w :: ms.map TL.numL)))), o']
  | [], w, o, _, _ => ⟨o, rfl⟩
  | m :: ms, w, o, h, hl => by
    simp only [List.length_cons] at hl
    have hm := h m List.mem_cons_self
    have h3 := num_small (n := m) (by omega)
    obtain ⟨o', ih⟩ := wline_loop (H := H) (A := A) (X := X) ms (w ++ [32] ++ TL.numL m) (.sh (nI m)) (fun y hy => h y (List.mem_cons_of_mem _ hy)) (by simp only [List.length_append, List.length_cons, List.length_nil]; omega)
    refine ⟨o', ?_⟩
    rw [List.map_cons, for_cons]
    show lpO _ (B1__law_written [H, A, X, .sh (.str (nm w)), .sh (nI m)]) = _
    have hb : B1__law_written [H, A, X, .sh (.str (nm w)), .sh (nI m)] = .next [H, A, X, .sh (.str (nm (w ++ [32] ++ TL.numL m))), .sh (nI m)] := by
      unfold B1__law_written
      rw [lit_sp]
      (repeat (exists add_str w [32] (by simp only [List.length_cons, List.length_nil]; omega), add_str (w ++ [32]) (TL.numL m) (by simp only [List.length_append, List.length_cons, List.length_nil]; omega), str_num m (by omega)))
    rw [hb, lp_next, ih, List.map_cons, joinL_cons2]
def lineStr (x : Lim) : D := .str (nm (lineC x))
theorem lim_facts {x : Lim} (h : limOk x = true) : (∀ m ∈ x.1, m < 4) ∧ x.1.length ≤ 4 ∧ x.2 ≤ 30 ∧ x.1 ≠ [] := by
  have a := lim_asc h
  unfold limOk at h
  simp only [Bool.and_eq_true, decide_eq_true_eq] at h
  exact ⟨fun m hm => (ascT_ge a hm).2, by have := asc_len a; omega, h.2, h.1.1⟩
theorem written_loop {H : Sl} : ∀ (xs : List Lim) (acc : List D) (o2 o3 o4 : Sl), (∀ x ∈ xs, limOk x = true) → acc.length + xs.length ≤ 1000 → ∃ p2 p3 p4, forL (gN 2) B2__law_written (ctr xs) [H, .ow (.lst acc), o2, o3, o4] = .next [H, .ow (.lst (acc ++ xs.map lineStr)), p2, p3, p4]
  | [], acc, o2, o3, o4, _, _ => ⟨o2, o3, o4, by show Out.next _ = Out.next [H, .ow (.lst (acc ++ [])), o2, o3, o4]; rw [List.append_nil]⟩
  | x :: xs, acc, o2, o3, o4, h, hz => by
    simp only [List.length_cons] at hz
    obtain ⟨h1, h2, h3, h4⟩ := lim_facts (h x List.mem_cons_self)
    have h5 := num_small (n := x.2) (by omega)
    obtain ⟨q4, hw⟩ := wline_loop (H := H) (A := .ow (.lst acc)) (X := .sh (limD x)) x.1 (TL.numL x.2) o4 h1 (by omega)
    obtain ⟨p2, p3, p4, ih⟩ := written_loop (H := H) xs (acc ++ [lineStr x]) (.sh (limD x)) (.sh (lineStr x)) q4 (fun y hy => h y (List.mem_cons_of_mem _ hy)) (by simp only [List.length_append, List.length_cons, List.length_nil]; omega)
    refine ⟨p2, p3, p4, ?_⟩
    show forL (gN 2) B2__law_written (limD x :: ctr xs) _ = _
    rw [for_cons]
    show lpO _ (B2__law_written [H, .ow (.lst acc), .sh (limD x), o3, o4]) = _
    have hb : B2__law_written [H, .ow (.lst acc), .sh (limD x), o3, o4] = .next [H, .ow (.lst (acc ++ [lineStr x])), .sh (limD x), .sh (lineStr x), q4] := by
      unfold B2__law_written limD
      (repeat (exists str_num x.2 (by omega), hw))
    rw [hb, lp_next, ih, List.append_assoc]
    rfl
def textC (xs : List Lim) : List Nat := TL.joinL [10] (xs.map lineC)
theorem lineC_len {x : Lim} (h : limOk x = true) : (lineC x).length ≤ 30 := by
  obtain ⟨h1, h2, h3, h4⟩ := lim_facts h
  have e := joinL_len [32] (TL.numL x.2 :: x.1.map TL.numL)
  have h5 := num_small (n := x.2) (by omega)
  have hs : ((x.1.map TL.numL).map List.length).sum ≤ (x.1.map TL.numL).length * 3 := sum_le _ fun w hw => by
    obtain ⟨m, hm, rfl⟩ := List.mem_map.mp hw
    exact num_small (by have := h1 m hm; omega)
  unfold lineC
  simp only [List.map_cons, List.sum_cons, List.length_cons, List.length_nil, List.length_map] at *
  omega
theorem lines_join {xs : List Lim} (h : ∀ x ∈ xs, limOk x = true) (hl : xs.length ≤ 100) : joinD (nm [10]) (.lst (xs.map lineStr)) = .ok (.str (nm (textC xs))) := by
  have sl : ((xs.map lineC).map List.length).sum ≤ (xs.map lineC).length * 30 := sum_le (xs.map lineC) fun w hw => by
    obtain ⟨x, hx, rfl⟩ := List.mem_map.mp hw
    exact lineC_len (h x hx)
  have e : xs.map lineStr = (xs.map lineC).map fun w => .str (nm w) := by rw [List.map_map]; rfl
  rw [e]
  refine join_ok ?_
  rw [List.length_map] at *
  simp only [List.length_cons, List.length_nil]
  omega
theorem written_eq {xs : List Lim} (h : ∀ x ∈ xs, limOk x = true) (hl : xs.length ≤ 100) : m__law_written [.lst (ctr xs)] = .ok (.sh (.str (nm (textC xs)))) := by
  obtain ⟨p2, p3, p4, lp⟩ := written_loop (H := .sh (.lst (ctr xs))) xs [] .no .no .no h (by simp only [List.length_nil]; omega)
  refine go__law_written (o := .ret (.sh (.str (nm (textC xs))))) ?_ rfl
  unfold b__law_written
  rw [lit_nl]
  (repeat (exists lp, strM_eq (f := eC (.str (nm [10]))) rfl rfl (lines_join h hl)))
theorem fline {H A : Sl} {x : Lim} (h : limOk x = true) : strM joinD (eC (.str (nm [32]))) (PL.own (lcE (itE (PL.bin addD (PL.own (appO lstD (aCons (eVar 3) aNil))) (PL.own (appO listL (aCons (eVar 2) aNil))))) 4 yesB E1_format_contract)) [H, A, .sh (memD x.1), .sh (nI x.2), .no] = .ok (lineStr x) := by
  obtain ⟨h1, h2, h3, h4⟩ := lim_facts h
  have hi : itE (PL.bin addD (PL.own (appO lstD (aCons (eVar 3) aNil))) (PL.own (appO listL (aCons (eVar 2) aNil)))) [H, A, .sh (memD x.1), .sh (nI x.2), .no] = .ok ((x.2 :: x.1).map nI) := by
    unfold memD
    have hh : seqOf (D.lst ([nI x.2] ++ x.1.map nI)) = .ok ((x.2 :: x.1).map nI) := rfl
    (repeat (exists hh))
  have hlc : lcE (itE (PL.bin addD (PL.own (appO lstD (aCons (eVar 3) aNil))) (PL.own (appO listL (aCons (eVar 2) aNil))))) 4 yesB E1_format_contract [H, A, .sh (memD x.1), .sh (nI x.2), .no] = .ok ((x.2 :: x.1).map fun k => .str (nm (TL.numL k))) := by
    refine lce_map (enc := nI) hi (by simp only [List.length_cons]; omega) fun k hk => ?_
    show E1_format_contract [H, A, .sh (memD x.1), .sh (nI x.2), .sh (nI k)] = _
    have : k < 2 ^ 200 := by
      rcases List.mem_cons.mp hk with e | e
      · omega
      · have := h1 k e; omega
    unfold E1_format_contract
    (repeat (exists str_num k this))
  refine strM_eq rfl (own_eq hlc) ?_
  have e : ((x.2 :: x.1).map fun k => D.str (nm (TL.numL k))) = ((x.2 :: x.1).map TL.numL).map fun w => .str (nm w) := by rw [List.map_map]; rfl
  rw [e]
  refine join_ok ?_
  have hs : (((x.2 :: x.1).map TL.numL).map List.length).sum ≤ ((x.2 :: x.1).map TL.numL).length * 3 := sum_le _ fun w hw => by
    obtain ⟨m, hm, rfl⟩ := List.mem_map.mp hw
    rcases List.mem_cons.mp hm with e | e
    · exact num_small (by omega)
    · exact num_small (by have := h1 m e; omega)
  simp only [List.length_map, List.length_cons, List.length_nil] at *
  omega
theorem format_loop {H : Sl} : ∀ (xs : List Lim) (acc : List D) (o2 o3 : Sl), (∀ x ∈ xs, limOk x = true) → acc.length + xs.length ≤ 1000 → ∃ p2 p3, forL (gT [2, 3]) B1_format_contract (ctr xs) [H, .ow (.lst acc), o2, o3, .no] = .next [H, .ow (.lst (acc ++ xs.map lineStr)), p2, p3, .no]
  | [], acc, o2, o3, _, _ => ⟨o2, o3, by show Out.next _ = Out.next [H, .ow (.lst (acc ++ [])), o2, o3, .no]; rw [List.append_nil]⟩
  | x :: xs, acc, o2, o3, h, hz => by
    simp only [List.length_cons] at hz
    obtain ⟨p2, p3, ih⟩ := format_loop (H := H) xs (acc ++ [lineStr x]) (.sh (memD x.1)) (.sh (nI x.2)) (fun y hy => h y (List.mem_cons_of_mem _ hy)) (by simp only [List.length_append, List.length_cons, List.length_nil]; omega)
    refine ⟨p2, p3, ?_⟩
    show forL (gT [2, 3]) B1_format_contract (.tup [memD x.1, nI x.2] :: ctr xs) _ = _
    rw [forT_cons (ρ1 := [H, .ow (.lst acc), .sh (memD x.1), .sh (nI x.2), .no]) rfl]
    have hb : B1_format_contract [H, .ow (.lst acc), .sh (memD x.1), .sh (nI x.2), .no] = .next [H, .ow (.lst (acc ++ [lineStr x])), .sh (memD x.1), .sh (nI x.2), .no] := by
      unfold B1_format_contract
      rw [lit_sp]
      (repeat (exists fline (h x List.mem_cons_self)))
    rw [hb, lp_next, ih, List.append_assoc]
    rfl
theorem format_eq {xs : List Lim} (h : ∀ x ∈ xs, limOk x = true) (hl : xs.length ≤ 6) : m_format_contract [.lst (ctr xs)] = .ok (.sh (.str (nm (textC xs)))) := by
  obtain ⟨p2, p3, lp⟩ := format_loop (H := .sh (.lst (ctr xs))) xs [] .no .no h (by simp only [List.length_nil]; omega)
  refine go_format_contract (o := .ret (.sh (.str (nm (textC xs))))) ?_ rfl
  unfold b_format_contract
  rw [lit_nl]
  (repeat (exists need_ctr h hl, lp, strM_eq (f := eC (.str (nm [10]))) rfl rfl (lines_join h (by omega))))
theorem format_badC {c : D} {e : Exc} (h : m_need_contract [c, .int 4] = .exc e) : m_format_contract [c] = .exc e := by
  refine go_format_contract (o := .exc e [.sh c, .no, .no, .no, .no]) ?_ rfl
  unfold b_format_contract
  (repeat (exists h))
end K55

set_option maxRecDepth 100000
set_option maxHeartbeats 1000000
namespace K55
open PySem PL
theorem seq_nm (cs : List Nat) : seqOf (.str (nm cs)) = .ok (cs.map fun c => .str ⟨#[c]⟩) := congrArg Res.ok (signs_nm cs)
theorem ix_nm0 (c : Nat) (r : List Nat) (hl : r.length ≤ 1000000) : ixD (.str (nm (c :: r))) (.int 0) = .ok (.str (nm [c])) := by
  have hx : (nm (c :: r)).cps.toList = c :: r := by simp [nm]
  show gd _ (match L2.atI (nm (c :: r)).cps.toList 0 with | some c => Res.ok (D.str ⟨#[c]⟩) | none => .stuck) = _
  rw [gd_pos (sz _ (by rw [nm_length, List.length_cons]; omega)), hx, atI_0]
  rfl
def inR (lo hi : Nat) (w : List Nat) : Bool := goodNum hi w && decide (lo ≤ vl w)
theorem dig_test (c : Nat) : notInD (.str ⟨#[c]⟩) (.str "0123456789") = .ok (.bl (!dgt c)) := notin_digits c
theorem canon_zero {c : Nat} {r : List Nat} : canon (c :: r) = true ↔ (r = [] ∨ c ≠ 48) := by
  cases r with
  | nil => simp [canon]
  | cons d r => simp [canon]
theorem is_written (cs : List Nat) (lo hi : Nat) (h : wOk cs) (hh : hi ≤ 1000000) : m_is_written [.str (nm cs), nI lo, nI hi] = bv (inR lo hi cs) := by
  have hl := h.2
  have no1 : ∀ x, x = false → inR lo hi cs = x → m_is_written [.str (nm cs), nI lo, nI hi] = no → m_is_written [.str (nm cs), nI lo, nI hi] = bv (inR lo hi cs) := fun x e1 e2 e3 => by rw [e3, e2, e1]
  have big : inR lo hi cs = true → cs.length ≤ 7 := fun z => by
    unfold inR at z
    simp only [Bool.and_eq_true] at z
    exact good_len hh z.1
  have e1 := eq_nm (a := cs) (b := []) h.1 rfl
  have e2 := len_nm cs (by omega)
  by_cases c0 : cs = []
  · subst c0
    refine no1 _ rfl rfl ?_
    refine go_is_written (o := .ret (.sh (.bl false))) ?_ rfl
    unfold b_is_written
    rw [lit0]
    (repeat (exists e1))
  by_cases c9 : 9 < cs.length
  · refine no1 _ rfl (Bool.eq_false_iff.mpr fun z => by have := big z; omega) ?_
    refine go_is_written (o := .ret (.sh (.bl false))) ?_ rfl
    unfold b_is_written
    rw [lit0]
    (repeat (exists e1, e2))
  have e3 := seq_nm cs
  obtain ⟨o', lp⟩ := for_test (enc := fun c : Nat => D.str ⟨#[c]⟩) (p := dgt) (i := 3) (B := B1_is_written) (P := fun o => [.sh (.str (nm cs)), .sh (nI lo), .sh (nI hi), o]) (r := .sh (.bl false)) (fun _ _ => rfl) (xs := cs) (o := .no) (fun c _ => by
    have hd := dig_test c
    cases hc : dgt c with
    | true => rw [hc] at hd; rw [if_pos rfl]; unfold B1_is_written; (repeat (exists hd))
    | false => rw [hc] at hd; rw [if_neg (by decide)]; unfold B1_is_written; (repeat (exists hd)))
  cases ha : cs.all dgt with
  | false =>
    rw [ha, if_neg (by decide)] at lp
    refine no1 _ rfl (by unfold inR goodNum allD; rw [ha]; rfl) ?_
    refine go_is_written (o := .ret (.sh (.bl false))) ?_ rfl
    unfold b_is_written
    rw [lit0]
    (repeat (exists e1, e2, e3, lp))
  | true =>
    rw [ha, if_pos rfl] at lp
    have iw := int_word (cs := cs) ha c0 (by omega)
    obtain ⟨c, r, e⟩ : ∃ c r, cs = c :: r := by
      cases cs with
      | nil => exact absurd rfl c0
      | cons c r => exact ⟨c, r, rfl⟩
    have e4 := ix_nm0 c r (by rw [e, List.length_cons] at hl; omega)
    rw [← e] at e4
    have ac : asc [c] = true := by
      have := List.all_eq_true.mp h.1 c (by rw [e]; simp)
      unfold asc
      rw [List.all_cons, this]; rfl
    have e5 := eq_nm (a := [c]) (b := [48]) ac rfl
    have hcan := @canon_zero c r
    rw [← e] at hcan
    by_cases cz : 1 < cs.length ∧ [c] = [48]
    · have hc0 : canon cs = false := Bool.eq_false_iff.mpr fun z => by
        rcases hcan.mp z with q | q
        · rw [e, q] at cz; simp at cz
        · exact q (by simpa using cz.2)
      have cz2 := cz.2
      refine no1 _ rfl (by unfold inR goodNum; rw [hc0, Bool.and_false]; rfl) ?_
      refine go_is_written (o := .ret (.sh (.bl false))) ?_ rfl
      unfold b_is_written
      rw [lit0, lit_zero]
      (repeat (exists e1, e2, e3, lp, e4, e5))
    · have hc1 : canon cs = true := hcan.mpr (by
        by_cases q : r = []
        · exact .inl q
        · right
          intro z
          refine cz ⟨?_, by rw [z]⟩
          rw [e, List.length_cons]
          have := List.length_pos_iff.mpr q
          omega)
      have hr : inR lo hi cs = (decide (lo ≤ vl cs) && decide (vl cs ≤ hi)) := by unfold inR goodNum allD; rw [hc1, ha, Bool.true_and, Bool.true_and, Bool.and_comm]
      rw [hr]
      refine go_is_written (o := .ret (.sh (.bl (decide (lo ≤ vl cs) && decide (vl cs ≤ hi))))) ?_ rfl
      unfold b_is_written
      rw [lit0, lit_zero]
      by_cases c1 : 1 < cs.length
      · have c2 : ¬ [c] = [48] := fun z => cz ⟨c1, z⟩
        by_cases q1 : lo ≤ vl cs
        · rw [decide_eq_true q1, Bool.true_and]
          have q2 : decide ((vl cs : Int) ≤ (hi : Int)) = decide (vl cs ≤ hi) := decide_eq_decide.mpr (by omega)
          rw [← q2]
          (repeat (exists e1, e2, e3, lp, e4, e5, iw))
        · rw [decide_eq_false q1, Bool.false_and]
          (repeat (exists e1, e2, e3, lp, e4, e5, iw))
      · by_cases q1 : lo ≤ vl cs
        · rw [decide_eq_true q1, Bool.true_and]
          have q2 : decide ((vl cs : Int) ≤ (hi : Int)) = decide (vl cs ≤ hi) := decide_eq_decide.mpr (by omega)
          rw [← q2]
          (repeat (exists e1, e2, e3, lp, e4, e5, iw))
        · rw [decide_eq_false q1, Bool.false_and]
          (repeat (exists e1, e2, e3, lp, e4, e5, iw))
theorem law_number (cs : List Nat) (lo hi : Nat) (h : wOk cs) (hh : hi ≤ 1000000) : m__law_number [.str (nm cs), nI lo, nI hi] = bv (inR lo hi cs) := by
  have hl := h.2
  have e3 := seq_nm cs
  obtain ⟨o', lp⟩ := for_test (enc := fun c : Nat => D.str ⟨#[c]⟩) (p := dgt) (i := 3) (B := B1__law_number) (P := fun o => [.sh (.str (nm cs)), .sh (nI lo), .sh (nI hi), o]) (r := .sh (.bl false)) (fun _ _ => rfl) (xs := cs) (o := .no) (fun c _ => by
    have hd := dig_test c
    cases hc : dgt c with
    | true => rw [hc] at hd; rw [if_pos rfl]; unfold B1__law_number; (repeat (exists hd))
    | false => rw [hc] at hd; rw [if_neg (by decide)]; unfold B1__law_number; (repeat (exists hd)))
  refine go__law_number (o := .ret (.sh (.bl (inR lo hi cs)))) ?_ rfl
  unfold b__law_number
  rw [lit0]
  have e1 := ne_nm (a := cs) (b := []) h.1 rfl
  cases ha : cs.all dgt with
  | false =>
    rw [ha, if_neg (by decide)] at lp
    have : inR lo hi cs = false := by unfold inR goodNum allD; rw [ha]; rfl
    rw [this]
    (repeat (exists e1, e3, lp))
  | true =>
    rw [ha, if_pos rfl] at lp
    by_cases c0 : cs = []
    · have : inR lo hi cs = false := by rw [c0]; rfl
      rw [this]
      (repeat (exists e1, e3, lp))
    · have iw := int_word (cs := cs) ha c0 (by omega)
      have vb := vl_lt _ _ rfl ha
      have sn := str_num (vl cs) (Nat.lt_of_lt_of_le vb (Nat.le_trans (Nat.pow_le_pow_right (by decide) hl) (by decide +kernel)))
      have e6 := eq_nm (numL_asc (vl cs)) h.1
      have hr : inR lo hi cs = (canon cs && (decide (lo ≤ vl cs) && decide (vl cs ≤ hi))) := by unfold inR goodNum allD; rw [ha, Bool.true_and, Bool.and_assoc, Bool.and_comm (decide (vl cs ≤ hi))]
      have q2 : decide ((vl cs : Int) ≤ (hi : Int)) = decide (vl cs ≤ hi) := decide_eq_decide.mpr (by omega)
      rw [hr]
      by_cases hc : TL.numL (vl cs) = cs
      · rw [(numL_iff ha).mp hc, Bool.true_and]
        by_cases q1 : lo ≤ vl cs
        · rw [decide_eq_true q1, Bool.true_and, ← q2]
          (repeat (exists e1, e3, lp, iw, sn, e6))
        · rw [decide_eq_false q1, Bool.false_and]
          (repeat (exists e1, e3, lp, iw, sn, e6))
      · have : canon cs = false := Bool.eq_false_iff.mpr fun z => hc ((numL_iff ha).mpr z)
        rw [this, Bool.false_and]
        (repeat (exists e1, e3, lp, iw, sn, e6))
end K55

set_option maxRecDepth 100000
set_option maxHeartbeats 1000000
namespace K55
open PySem PL
theorem rng2_nat (a b : Nat) (h : b ≤ 1000000) (ha : a ≤ b) : rng2 [nI a, nI b] = .ok ((List.range' a (b - a)).map nI) := by
  show gd _ (Res.ok ((List.range ((b : Int) - (a : Int)).toNat).map fun k => D.int ((a : Int) + ((k : Nat) : Int)))) = _
  rw [gd_pos (by omega), List.range'_eq_map_range, List.map_map]
  have : ((b : Int) - (a : Int)).toNat = b - a := by omega
  rw [this]
  refine congrArg Res.ok (List.map_congr_left fun k _ => ?_)
  show D.int _ = D.int _
  congr 1
/-! ## one line read -/
def rdK : Nat → List (List Nat) → Sum Nat (List Nat)
  | _, [] => .inr []
  | lo, w :: ws => if inR lo 3 w = true then (match rdK (vl w + 1) ws with | .inl i => .inl (i + 1) | .inr ms => .inr (vl w :: ms)) else .inl 0
def rdL (ws : List (List Nat)) : Sum (Nat × Str) Lim := match ws with
  | [] => .inl (1, "most")
  | w :: ws => if inR 0 30 w = true then (if ws = [] then .inl (2, "missing") else match rdK 0 ws with | .inl i => .inl (i + 2, "kind") | .inr ms => .inr (ms, vl w)) else .inl (1, "most")
theorem inR_int {lo hi : Nat} {w : List Nat} (hw : wOk w) (h : inR lo hi w = true) : intL [.str (nm w)] = .ok (nI (vl w)) := by
  unfold inR goodNum at h
  simp only [Bool.and_eq_true] at h
  refine int_word h.1.1.1 (fun z => ?_) (by have := hw.2; omega)
  rw [z] at h
  exact absurd h.1.1.2 (by decide)
theorem limit_loop {W : List (List Nat)} {line : D} (hW : ∀ w ∈ W, wOk w) (hl : W.length ≤ 1000) : ∀ (n p lo : Nat) (acc : List Nat) (o : Sl), p + n = W.length → acc.length ≤ p → ∃ ρ p3 o',
    forL (gN 4) B1_limit_at ((List.range' p n).map nI) [.sh (WS W), .sh line, .ow (.lst (acc.map nI)), .sh (.int ((lo : Int) - 1)), o] =
      (match rdK lo (W.drop p) with
        | .inl i => .exc (.badText line (nI (p + i + 1)) (.str "kind")) ρ
        | .inr ms => .next [.sh (WS W), .sh line, .ow (.lst ((acc ++ ms).map nI)), p3, o'])
  | 0, p, lo, acc, o, hp, _ => by
    refine ⟨[], .sh (.int ((lo : Int) - 1)), o, ?_⟩
    rw [List.drop_eq_nil_of_le (by omega)]
    show Out.next _ = Out.next [.sh (WS W), .sh line, .ow (.lst ((acc ++ []).map nI)), _, o]
    rw [List.append_nil]
  | n + 1, p, lo, acc, o, hp, ha => by
    have hpl : p < W.length := by omega
    have hw := hW _ (List.getElem_mem hpl)
    have ix := ws_ix W p hpl
    rw [List.range'_succ, List.drop_eq_getElem_cons hpl]
    generalize hwd : W[p] = w at *
    have q : m_is_written [.str (nm w), .int ((lo : Int) - 1 + 1), .int (4 - 1)] = bv (inR lo 3 w) := by
      have := is_written w lo 3 hw (by decide)
      rw [← this, show ((lo : Int) - 1 + 1) = lo from by omega]
      rfl
    unfold rdK
    cases hc : inR lo 3 w with
    | false =>
      rw [hc] at q
      refine ⟨[.sh (WS W), .sh line, .ow (.lst (acc.map nI)), .sh (.int ((lo : Int) - 1)), .sh (nI p)], .no, .no, ?_⟩
      rw [if_neg (by decide), List.map_cons, for_cons]
      show lpO _ (B1_limit_at [.sh (WS W), .sh line, .ow (.lst (acc.map nI)), .sh (.int ((lo : Int) - 1)), .sh (nI p)]) = _
      have hb : B1_limit_at [.sh (WS W), .sh line, .ow (.lst (acc.map nI)), .sh (.int ((lo : Int) - 1)), .sh (nI p)] = .exc (.badText line (.int ((p : Int) + 1)) (.str "kind")) [.sh (WS W), .sh line, .ow (.lst (acc.map nI)), .sh (.int ((lo : Int) - 1)), .sh (nI p)] := by
        unfold B1_limit_at
        (repeat (exists ix, q))
      rw [hb]
      rfl
    | true =>
      rw [hc] at q
      have iw := inR_int hw hc
      obtain ⟨ρ, p3, o', ih⟩ := limit_loop (line := line) hW hl n (p + 1) (vl w + 1) (acc ++ [vl w]) (.sh (nI p)) (by omega) (by simp only [List.length_append, List.length_cons, List.length_nil]; omega)
      rw [show (((vl w + 1 : Nat) : Int) - 1) = vl w from by omega] at ih
      refine ⟨ρ, p3, o', ?_⟩
      rw [if_pos rfl, List.map_cons, for_cons]
      show lpO _ (B1_limit_at [.sh (WS W), .sh line, .ow (.lst (acc.map nI)), .sh (.int ((lo : Int) - 1)), .sh (nI p)]) = _
      have hb : B1_limit_at [.sh (WS W), .sh line, .ow (.lst (acc.map nI)), .sh (.int ((lo : Int) - 1)), .sh (nI p)] = .next [.sh (WS W), .sh line, .ow (.lst ((acc ++ [vl w]).map nI)), .sh (nI (vl w)), .sh (nI p)] := by
        rw [List.map_append]
        unfold B1_limit_at
        (repeat (exists ix, q, iw))
      rw [hb, lp_next, ih]
      cases rdK (vl w + 1) (W.drop (p + 1)) with
      | inl i => show Out.exc (.badText line (nI (p + 1 + i + 1)) _) ρ = Out.exc (.badText line (nI (p + (i + 1) + 1)) _) ρ; rw [show p + 1 + i + 1 = p + (i + 1) + 1 from by omega]
      | inr ms => show Out.next [_, _, .ow (.lst ((acc ++ [vl w] ++ ms).map nI)), _, _] = Out.next [_, _, .ow (.lst ((acc ++ vl w :: ms).map nI)), _, _]; rw [List.append_assoc]; rfl
def limRes (line : D) : Sum (Nat × Str) Lim → Res RV
  | .inl (p, s) => .exc (.badText line (nI p) (.str s))
  | .inr x => .ok (.sh (limD x))
theorem rdK_len : ∀ {ws : List (List Nat)} {lo : Nat} {ms : List Nat}, rdK lo ws = .inr ms → ms.length = ws.length
  | [], _, _, h => by cases h; rfl
  | w :: ws, lo, ms, h => by
    unfold rdK at h
    split at h
    · cases e : rdK (vl w + 1) ws with
      | inl i => rw [e] at h; cases h
      | inr ns => rw [e] at h; cases h; rw [List.length_cons, List.length_cons, rdK_len e]
    · cases h
theorem limit_at (ws : List (List Nat)) (line : D) (h0 : ws ≠ []) (hw : ∀ w ∈ ws, wOk w) (hl : ws.length ≤ 1000) : m_limit_at [WS ws, line] = limRes line (rdL ws) := by
  cases ws with
  | nil => exact absurd rfl h0
  | cons w r =>
    have hw0 := hw w List.mem_cons_self
    have ix : ixD (WS (w :: r)) (.int 0) = .ok (.str (nm w)) := ws_ix (w :: r) 0 (by simp)
    have q : m_is_written [.str (nm w), .int 0, .int 30] = bv (inR 0 30 w) := is_written w 0 30 hw0 (by decide)
    have len := ws_len (w :: r)
    unfold rdL
    simp only
    cases hc : inR 0 30 w with
    | false =>
      rw [hc] at q
      rw [if_neg (by decide)]
      refine go_limit_at (o := .exc (.badText line (.int 1) (.str "most")) [.sh (WS (w :: r)), .sh line, .no, .no, .no]) ?_ rfl
      unfold b_limit_at
      (repeat (exists ix, q))
    | true =>
      rw [hc] at q
      rw [if_pos rfl]
      by_cases hr : r = []
      · subst hr
        rw [if_pos rfl]
        refine go_limit_at (o := .exc (.badText line (.int 2) (.str "missing")) [.sh (WS [w]), .sh line, .no, .no, .no]) ?_ rfl
        unfold b_limit_at
        (repeat (exists ix, q, len))
      · rw [if_neg hr]
        have hrl := List.length_pos_iff.mpr hr
        have iw := inR_int hw0 hc
        obtain ⟨ρ, p3, o', lp⟩ := limit_loop (line := line) hw hl r.length 1 0 [] .no (by rw [List.length_cons]; omega) (by simp)
        have rg : rng2 [.int 1, nI (w :: r).length] = .ok ((List.range' 1 r.length).map nI) := rng2_nat 1 _ (by rw [List.length_cons] at *; omega) (by rw [List.length_cons]; omega)
        rw [show (((0 : Nat) : Int) - 1) = -1 from rfl] at lp
        have c2 : ¬ ((w :: r).length : Int) < 2 := by rw [List.length_cons]; omega
        rw [List.drop_succ_cons, List.drop_zero] at lp
        simp only [List.map_nil, List.nil_append] at lp
        cases hk : rdK 0 r with
        | inl i =>
          rw [hk] at lp
          refine go_limit_at (o := .exc (.badText line (nI (1 + i + 1)) (.str "kind")) ρ) ?_ (by show Res.exc _ = Res.exc _; rw [show 1 + i + 1 = i + 2 from by omega])
          unfold b_limit_at
          (repeat (exists ix, q, len, rg, lp))
        | inr ms =>
          rw [hk] at lp
          refine go_limit_at (o := .ret (.sh (limD (ms, vl w)))) ?_ rfl
          unfold b_limit_at
          (repeat (exists ix, q, len, rg, lp, iw))
end K55

set_option maxRecDepth 100000
set_option maxHeartbeats 1000000
namespace K55
open PySem PL
abbrev RdA := Sum (Nat × Nat × Str) (List Lim)
def rdAll : Nat → List (List Nat) → RdA
  | _, [] => .inr []
  | k, l :: ls => match rdL (words l) with
    | .inl (p, s) => .inl (k + 1, p, s)
    | .inr x => (match rdAll (k + 1) ls with | .inl e => .inl e | .inr xs => .inr (x :: xs))
theorem words_ne (l : List Nat) : words l ≠ [] := fun z => by
  have h := join_spl (a := l) (b := [32]) (by simp) (by decide)
  have e : TL.spl [32] 0 [] l = [] := z
  rw [e] at h
  have : l = [] := h.symm
  subst this
  cases z
theorem limit_at' (ws : List (List Nat)) (line : D) (h0 : ws ≠ []) (hw : ∀ w ∈ ws, wOk w) (hl : ws.length ≤ 1000) : m_limit_at [.lst (wds ws), line] = limRes line (rdL ws) := limit_at ws line h0 hw hl
theorem parse_loop {T : Sl} : ∀ (ls : List (List Nat)) (k : Nat) (acc : List Lim) (o : Sl), (∀ l ∈ ls, lOk l ∧ (words l).length ≤ 1000) → acc.length + ls.length ≤ 1000 → ∃ ρ' o',
    forL (gN 3) B1_parse_contract (wds ls) [T, .ow (.lst (ctr acc)), .sh (nI k), o] =
      (match rdAll k ls with
        | .inl (l, p, s) => .exc (.badText (nI l) (nI p) (.str s)) ρ'
        | .inr xs => .next [T, .ow (.lst (ctr (acc ++ xs))), .sh (nI (k + ls.length)), o'])
  | [], k, acc, o, _, _ => ⟨[], o, by show Out.next _ = Out.next [T, .ow (.lst (ctr (acc ++ []))), _, o]; rw [List.append_nil]; rfl⟩
  | l :: ls, k, acc, o, h, hz => by
    simp only [List.length_cons] at hz
    obtain ⟨⟨hl, hw⟩, hwl⟩ := h l List.mem_cons_self
    have e1 := spl_sp l (by omega)
    have e2 := limit_at' (words l) (.int ((k : Int) + 1)) (words_ne l) hw hwl
    unfold rdAll
    cases hr : rdL (words l) with
    | inl x =>
      obtain ⟨p, s⟩ := x
      rw [hr] at e2
      refine ⟨[T, .ow (.lst (ctr acc)), .sh (.int ((k : Int) + 1)), .sh (.str (nm l))], .no, ?_⟩
      show forL (gN 3) B1_parse_contract (.str (nm l) :: wds ls) _ = _
      rw [for_cons]
      show lpO _ (B1_parse_contract [T, .ow (.lst (ctr acc)), .sh (nI k), .sh (.str (nm l))]) = _
      have hb : B1_parse_contract [T, .ow (.lst (ctr acc)), .sh (nI k), .sh (.str (nm l))] = .exc (.badText (.int ((k : Int) + 1)) (nI p) (.str s)) [T, .ow (.lst (ctr acc)), .sh (.int ((k : Int) + 1)), .sh (.str (nm l))] := by
        unfold B1_parse_contract limRes at *
        (repeat (exists e1, e2))
      rw [hb]
      rfl
    | inr x =>
      rw [hr] at e2
      obtain ⟨ρ', o', ih⟩ := parse_loop (T := T) ls (k + 1) (acc ++ [x]) (.sh (.str (nm l))) (fun y hy => h y (List.mem_cons_of_mem _ hy)) (by simp only [List.length_append, List.length_cons, List.length_nil]; omega)
      refine ⟨ρ', o', ?_⟩
      show forL (gN 3) B1_parse_contract (.str (nm l) :: wds ls) _ = _
      rw [for_cons]
      show lpO _ (B1_parse_contract [T, .ow (.lst (ctr acc)), .sh (nI k), .sh (.str (nm l))]) = _
      have hb : B1_parse_contract [T, .ow (.lst (ctr acc)), .sh (nI k), .sh (.str (nm l))] = .next [T, .ow (.lst (ctr (acc ++ [x]))), .sh (nI (k + 1)), .sh (.str (nm l))] := by
        unfold B1_parse_contract limRes at *
        rw [show ctr (acc ++ [x]) = ctr acc ++ [limD x] from List.map_append]
        (repeat (exists e1, e2))
      rw [hb, lp_next, ih]
      cases rdAll (k + 1) ls with
      | inl e => rfl
      | inr xs =>
        show Out.next [T, .ow (.lst (ctr (acc ++ [x] ++ xs))), .sh (nI (k + 1 + ls.length)), o'] = Out.next [T, .ow (.lst (ctr (acc ++ x :: xs))), .sh (nI (k + (ls.length + 1))), o']
        rw [List.append_assoc, show k + 1 + ls.length = k + (ls.length + 1) from by omega]
        rfl
def tOkC (t : List Nat) : Prop := asc t = true ∧ t.length ≤ 500000 ∧ (linesL t).length ≤ 100 ∧ ∀ l ∈ linesL t, lOk l ∧ (words l).length ≤ 1000
def prText (t : List Nat) : Res RV := if t = [] then .ok (.ow []) else if 6 < (linesL t).length then .exc (.tooMany (.int 6)) else match rdAll 0 (linesL t) with
  | .inl (l, p, s) => .exc (.badText (nI l) (nI p) (.str s))
  | .inr xs => .ok (.ow (ctr xs))
theorem need_text_ok (s : Str) (w : D) : m_need_text [.str s, w] = .ok (.sh .non) := by
  refine go_need_text (o := .next [.sh (.str s), .sh w]) ?_ rfl
  unfold b_need_text
  (repeat (exists trivial))
theorem need_text_no (d w : D) (h : isiB (tyD d) "str" = false) : m_need_text [d, w] = .exc (.badValue w) := by
  refine go_need_text (o := .exc (.badValue w) [.sh d, .sh w]) ?_ rfl
  unfold b_need_text
  (repeat (exists trivial))
theorem parse_text (t : List Nat) (h : tOkC t) : m_parse_contract [.str (nm t)] = prText t := by
  obtain ⟨h1, h2, h3, h4⟩ := h
  have e1 := eq_nm (a := t) (b := []) h1 rfl
  have e2 := spl_nl t (by omega)
  have e3 := wds_lenL (linesL t)
  have e4 := need_text_ok (nm t) (.str "text")
  unfold prText
  by_cases c0 : t = []
  · rw [if_pos c0]
    have el : m_lines_of [.str (nm t), .int 6] = .ok (.ow []) := by
      refine go_lines_of (o := .ret (.ow [])) ?_ rfl
      unfold b_lines_of
      rw [lit0]
      (repeat (exists e1))
    refine go_parse_contract (o := .ret (.ow [])) ?_ rfl
    unfold b_parse_contract
    (repeat (exists e4, el, for_nil _ _ _))
  · rw [if_neg c0]
    by_cases c6 : 6 < (linesL t).length
    · rw [if_pos c6]
      have el : m_lines_of [.str (nm t), .int 6] = .exc (.tooMany (.int 6)) := by
        refine go_lines_of (o := .exc (.tooMany (.int 6)) [.sh (.str (nm t)), .sh (.int 6), .sh (.lst (wds (linesL t)))]) ?_ rfl
        unfold b_lines_of
        rw [lit0]
        (repeat (exists e1, e2, e3))
      refine go_parse_contract (o := .exc (.tooMany (.int 6)) [.sh (.str (nm t)), .ow (.lst []), .sh (.int 0), .no]) ?_ rfl
      unfold b_parse_contract
      (repeat (exists e4, el))
    · rw [if_neg c6]
      have el : m_lines_of [.str (nm t), .int 6] = .ok (.sh (.lst (wds (linesL t)))) := by
        refine go_lines_of (o := .ret (.sh (.lst (wds (linesL t))))) ?_ rfl
        unfold b_lines_of
        rw [lit0]
        (repeat (exists e1, e2, e3))
      obtain ⟨ρ', o', lp⟩ := parse_loop (T := .sh (.str (nm t))) (linesL t) 0 [] .no h4 (by simp only [List.length_nil]; omega)
      have lp' : forL (gN 3) B1_parse_contract (wds (linesL t)) [.sh (.str (nm t)), .ow (.lst []), .sh (.int 0), .no] = _ := lp
      cases hr : rdAll 0 (linesL t) with
      | inl x =>
        obtain ⟨l, p, s⟩ := x
        rw [hr] at lp'
        refine go_parse_contract (o := .exc (.badText (nI l) (nI p) (.str s)) ρ') ?_ rfl
        unfold b_parse_contract
        (repeat (exists e4, el, lp'))
      | inr xs =>
        rw [hr] at lp'
        refine go_parse_contract (o := .ret (.ow (ctr xs))) ?_ rfl
        unfold b_parse_contract
        (repeat (exists e4, el, lp'))
end K55

set_option maxRecDepth 100000
set_option maxHeartbeats 1000000
namespace K55
open PySem PL
def errD (k p : Nat) (s : Str) : D := .tup [.str "text", .int ((k : Int) + 1), nI p, .str s]
def LoOf (acc : List Nat) (lo : Nat) : Prop := (acc = [] ∧ lo = 0) ∨ ∃ a m, acc = a ++ [m] ∧ lo = m + 1
theorem inR0 {w : List Nat} : inR 0 3 w = goodNum 3 w := by unfold inR; rw [decide_eq_true (Nat.zero_le _), Bool.and_true]
theorem read_loop1 {A B C : Sl} {k : Nat} {W : List (List Nat)} (hW : ∀ w ∈ W, wOk w) (hl : W.length ≤ 1000) : ∀ (n p lo : Nat) (acc : List Nat) (o : Sl), p + n = W.length → acc.length ≤ p → LoOf acc lo → ∃ o',
    forL (gN 6) B1__law_read ((List.range' p n).map nI) [A, B, C, .sh (nI k), .sh (.lst (wds W)), .ow (.lst (acc.map nI)), o] =
      (match rdK lo (W.drop p) with
        | .inl i => .ret (.sh (.tup [.str "text", .int ((k : Int) + 1), .int (((p + i : Nat) : Int) + 1), .str "kind"]))
        | .inr ms => .next [A, B, C, .sh (nI k), .sh (.lst (wds W)), .ow (.lst ((acc ++ ms).map nI)), o'])
  | 0, p, lo, acc, o, hp, _, _ => by
    refine ⟨o, ?_⟩
    rw [List.drop_eq_nil_of_le (by omega)]
    show Out.next _ = Out.next [A, B, C, .sh (nI k), .sh (.lst (wds W)), .ow (.lst ((acc ++ []).map nI)), o]
    rw [List.append_nil]
  | n + 1, p, lo, acc, o, hp, ha, hlo => by
    have hpl : p < W.length := by omega
    have hw := hW _ (List.getElem_mem hpl)
    have ix := wds_ix W p hpl
    rw [List.range'_succ, List.drop_eq_getElem_cons hpl]
    generalize hwd : W[p] = w at *
    have q : m__law_number [.str (nm w), .int 0, .int 3] = bv (goodNum 3 w) := by
      have := law_number w 0 3 hw (by decide)
      rw [inR0] at this
      exact this
    unfold rdK
    have bad : inR lo 3 w = false → B1__law_read [A, B, C, .sh (nI k), .sh (.lst (wds W)), .ow (.lst (acc.map nI)), .sh (nI p)] = .ret (.sh (.tup [.str "text", .int ((k : Int) + 1), .int ((p : Int) + 1), .str "kind"])) := fun hc => by
      cases hg : goodNum 3 w with
      | false =>
        rw [hg] at q
        unfold B1__law_read
        (repeat (exists ix, q))
      | true =>
        rw [hg] at q
        have iw := inR_int (lo := 0) hw (by rw [inR0]; exact hg)
        have hlt : ¬ lo ≤ vl w := fun z => by
          unfold inR at hc
          rw [hg, decide_eq_true z] at hc
          cases hc
        rcases hlo with ⟨rfl, rfl⟩ | ⟨a, m, rfl, rfl⟩
        · omega
        · have il := ix_last (a.map nI) (nI m)
          unfold B1__law_read
          rw [show (a ++ [m]).map nI = a.map nI ++ [nI m] from List.map_append]
          (repeat (exists ix, q, iw, il))
    have hal : acc.length ≤ 1000 := by omega
    have good : inR lo 3 w = true → B1__law_read [A, B, C, .sh (nI k), .sh (.lst (wds W)), .ow (.lst (acc.map nI)), .sh (nI p)] = .next [A, B, C, .sh (nI k), .sh (.lst (wds W)), .ow (.lst ((acc ++ [vl w]).map nI)), .sh (nI p)] := fun hc => by
      have iw := inR_int hw hc
      unfold inR at hc
      simp only [Bool.and_eq_true, decide_eq_true_eq] at hc
      rw [hc.1] at q
      rcases hlo with ⟨rfl, rfl⟩ | ⟨a, m, rfl, rfl⟩
      · unfold B1__law_read
        (repeat (exists ix, q, iw))
      · have il := ix_last (a.map nI) (nI m)
        have := hc.2
        have hal' : a.length ≤ 1000 := by simp only [List.length_append, List.length_cons, List.length_nil] at hal; omega
        unfold B1__law_read
        rw [show (a ++ [m]).map nI = a.map nI ++ [nI m] from List.map_append, show (a ++ [m] ++ [vl w]).map nI = a.map nI ++ [nI m] ++ [nI (vl w)] from by rw [List.map_append, List.map_append]; rfl]
        (repeat (exists ix, q, iw, il))
    cases hc : inR lo 3 w with
    | false =>
      refine ⟨.no, ?_⟩
      rw [if_neg (by decide), List.map_cons, for_cons]
      show lpO _ (B1__law_read [A, B, C, .sh (nI k), .sh (.lst (wds W)), .ow (.lst (acc.map nI)), .sh (nI p)]) = _
      rw [bad hc]
      rfl
    | true =>
      obtain ⟨o', ih⟩ := read_loop1 (A := A) (B := B) (C := C) (k := k) hW hl n (p + 1) (vl w + 1) (acc ++ [vl w]) (.sh (nI p)) (by omega) (by simp only [List.length_append, List.length_cons, List.length_nil]; omega) (.inr ⟨acc, vl w, rfl, rfl⟩)
      refine ⟨o', ?_⟩
      rw [if_pos rfl, List.map_cons, for_cons]
      show lpO _ (B1__law_read [A, B, C, .sh (nI k), .sh (.lst (wds W)), .ow (.lst (acc.map nI)), .sh (nI p)]) = _
      rw [good hc, lp_next, ih]
      cases rdK (vl w + 1) (W.drop (p + 1)) with
      | inl i => show Out.ret (.sh (.tup [_, _, .int (((p + 1 + i : Nat) : Int) + 1), _])) = Out.ret (.sh (.tup [_, _, .int (((p + (i + 1) : Nat) : Int) + 1), _])); rw [show p + 1 + i = p + (i + 1) from by omega]
      | inr ms => show Out.next [_, _, _, _, _, .ow (.lst ((acc ++ [vl w] ++ ms).map nI)), _] = Out.next [_, _, _, _, _, .ow (.lst ((acc ++ vl w :: ms).map nI)), _]; rw [List.append_assoc]; rfl
theorem read_line {T : Sl} {ls : List (List Nat)} {acc : List Lim} {o4 o5 o6 : Sl} (k : Nat) (hk : k < ls.length) (hls : ∀ l ∈ ls, lOk l ∧ (words l).length ≤ 1000) (hz : acc.length ≤ 1000) : ∃ p4 p5 p6,
    B2__law_read [T, .sh (.lst (wds ls)), .ow (.lst (ctr acc)), .sh (nI k), o4, o5, o6] =
      (match rdL (words ls[k]) with
        | .inl (p, s) => .ret (.sh (errD k p s))
        | .inr x => .next [T, .sh (.lst (wds ls)), .ow (.lst (ctr (acc ++ [x]))), .sh (nI k), p4, p5, p6]) := by
  obtain ⟨⟨hll, hw⟩, hwl⟩ := hls _ (List.getElem_mem hk)
  have ixk := wds_ix ls k hk
  have hne := words_ne ls[k]
  have sp := spl_sp ls[k] (by omega)
  generalize ls[k] = l at *
  generalize words l = W at *
  cases W with
  | nil => exact absurd rfl hne
  | cons w r =>
    have hw0 := hw w List.mem_cons_self
    have ix : ixD (.lst (wds (w :: r))) (.int 0) = .ok (.str (nm w)) := wds_ix (w :: r) 0 (by simp)
    have q : m__law_number [.str (nm w), .int 0, .int 30] = bv (inR 0 30 w) := law_number w 0 30 hw0 (by decide)
    have len := wds_lenL (w :: r)
    unfold rdL
    simp only
    cases hc : inR 0 30 w with
    | false =>
      rw [hc] at q
      refine ⟨.no, .no, .no, ?_⟩
      rw [if_neg (by decide)]
      unfold B2__law_read errD
      (repeat (exists ixk, sp, ix, q))
    | true =>
      rw [hc] at q
      rw [if_pos rfl]
      by_cases hr : r = []
      · subst hr
        refine ⟨.no, .no, .no, ?_⟩
        rw [if_pos rfl]
        unfold B2__law_read errD
        (repeat (exists ixk, sp, ix, q, len))
      · rw [if_neg hr]
        have hrl := List.length_pos_iff.mpr hr
        have iw := inR_int hw0 hc
        obtain ⟨o', lp⟩ := read_loop1 (A := T) (B := .sh (.lst (wds ls))) (C := .ow (.lst (ctr acc))) (k := k) hw hwl r.length 1 0 [] o6 (by rw [List.length_cons]; omega) (by simp) (.inl ⟨rfl, rfl⟩)
        have rg : rng2 [.int 1, .int ((w :: r).length : Nat)] = .ok ((List.range' 1 r.length).map nI) := rng2_nat 1 _ (by rw [List.length_cons] at *; omega) (by rw [List.length_cons]; omega)
        have c2 : ¬ ((w :: r).length : Int) = 1 := by rw [List.length_cons]; omega
        rw [List.drop_succ_cons, List.drop_zero] at lp
        simp only [List.map_nil, List.nil_append] at lp
        cases hk : rdK 0 r with
        | inl i =>
          rw [hk] at lp
          refine ⟨.no, .no, .no, ?_⟩
          have e : (.tup [.str "text", .int ((k : Int) + 1), .int (((1 + i : Nat) : Int) + 1), .str "kind"] : D) = errD k (i + 2) "kind" := by
            unfold errD
            rw [show (((1 + i : Nat) : Int) + 1) = ((i + 2 : Nat) : Int) from by omega]
          simp only [e] at lp
          unfold B2__law_read
          (repeat (exists ixk, sp, ix, q, len, rg, lp))
        | inr ms =>
          rw [hk] at lp
          have hms := rdK_len hk
          refine ⟨.sh (.lst (wds (w :: r))), .sh (.lst (ms.map nI)), o', ?_⟩
          show _ = Out.next [_, _, .ow (.lst (ctr (acc ++ [(ms, vl w)]))), _, _, _, _]
          rw [show ctr (acc ++ [(ms, vl w)]) = ctr acc ++ [limD (ms, vl w)] from List.map_append]
          unfold B2__law_read
          (repeat (exists ixk, sp, ix, q, len, rg, lp, iw))
end K55

set_option maxRecDepth 100000
set_option maxHeartbeats 1000000
namespace K55
open PySem PL
theorem read_loop {T : Sl} {ls : List (List Nat)} (hls : ∀ l ∈ ls, lOk l ∧ (words l).length ≤ 1000) : ∀ (n k : Nat) (acc : List Lim) (o4 o5 o6 o3 : Sl), k + n = ls.length → acc.length + n ≤ 1000 → ∃ p3 p4 p5 p6,
    forL (gN 3) B2__law_read ((List.range' k n).map nI) [T, .sh (.lst (wds ls)), .ow (.lst (ctr acc)), o3, o4, o5, o6] =
      (match rdAll k (ls.drop k) with
        | .inl (l, p, s) => .ret (.sh (.tup [.str "text", nI l, nI p, .str s]))
        | .inr xs => .next [T, .sh (.lst (wds ls)), .ow (.lst (ctr (acc ++ xs))), p3, p4, p5, p6])
  | 0, k, acc, o4, o5, o6, o3, hk, _ => ⟨o3, o4, o5, o6, by
    rw [List.drop_eq_nil_of_le (by omega)]
    show Out.next _ = Out.next [T, _, .ow (.lst (ctr (acc ++ []))), o3, o4, o5, o6]
    rw [List.append_nil]⟩
  | n + 1, k, acc, o4, o5, o6, o3, hk, hz => by
    have hkl : k < ls.length := by omega
    obtain ⟨p4, p5, p6, hb⟩ := read_line (T := T) (acc := acc) (o4 := o4) (o5 := o5) (o6 := o6) k hkl hls (by omega)
    rw [List.range'_succ, List.drop_eq_getElem_cons hkl]
    unfold rdAll
    cases hr : rdL (words ls[k]) with
    | inl x =>
      obtain ⟨p, s⟩ := x
      rw [hr] at hb
      refine ⟨.no, .no, .no, .no, ?_⟩
      rw [List.map_cons, for_cons]
      show lpO _ (B2__law_read [T, .sh (.lst (wds ls)), .ow (.lst (ctr acc)), .sh (nI k), o4, o5, o6]) = _
      rw [hb]
      rfl
    | inr x =>
      rw [hr] at hb
      obtain ⟨q3, q4, q5, q6, ih⟩ := read_loop (T := T) hls n (k + 1) (acc ++ [x]) p4 p5 p6 (.sh (nI k)) (by omega) (by simp only [List.length_append, List.length_cons, List.length_nil]; omega)
      refine ⟨q3, q4, q5, q6, ?_⟩
      rw [List.map_cons, for_cons]
      show lpO _ (B2__law_read [T, .sh (.lst (wds ls)), .ow (.lst (ctr acc)), .sh (nI k), o4, o5, o6]) = _
      rw [hb]
      show lpO _ (Out.next _) = _
      rw [lp_next, ih]
      cases rdAll (k + 1) (ls.drop (k + 1)) with
      | inl e => rfl
      | inr xs => show Out.next [_, _, .ow (.lst (ctr (acc ++ [x] ++ xs))), _, _, _, _] = Out.next [_, _, .ow (.lst (ctr (acc ++ x :: xs))), _, _, _, _]; rw [List.append_assoc]; rfl
def rdText (t : List Nat) : D := if t = [] then .tup [.str "read", .lst []] else if 6 < (linesL t).length then .tup [.str "many", .int 6] else match rdAll 0 (linesL t) with
  | .inl (l, p, s) => .tup [.str "text", nI l, nI p, .str s]
  | .inr xs => .tup [.str "read", .lst (ctr xs)]
theorem law_read (t : List Nat) (h : tOkC t) : m__law_read [.str (nm t)] = .ok (.sh (rdText t)) := by
  obtain ⟨h1, h2, h3, h4⟩ := h
  have e1 := eq_nm (a := t) (b := []) h1 rfl
  have e2 := spl_nl t (by omega)
  have e3 := wds_lenL (linesL t)
  unfold rdText
  by_cases c0 : t = []
  · rw [if_pos c0]
    refine go__law_read (o := .ret (.sh (.tup [.str "read", .lst []]))) ?_ rfl
    unfold b__law_read
    rw [lit0]
    (repeat (exists e1))
  · rw [if_neg c0]
    by_cases c6 : 6 < (linesL t).length
    · rw [if_pos c6]
      refine go__law_read (o := .ret (.sh (.tup [.str "many", .int 6]))) ?_ rfl
      unfold b__law_read
      rw [lit0]
      (repeat (exists e1, e2, e3))
    · rw [if_neg c6]
      obtain ⟨p3, p4, p5, p6, lp⟩ := read_loop (T := .sh (.str (nm t))) h4 (linesL t).length 0 [] .no .no .no .no (by omega) (by simp only [List.length_nil]; omega)
      rw [List.drop_zero] at lp
      simp only [List.map_nil, List.nil_append] at lp
      have rg : rng1 [.int ((linesL t).length : Nat)] = .ok ((List.range' 0 (linesL t).length).map nI) := by
        rw [rng1_nat _ (by omega), List.range_eq_range']
      cases hr : rdAll 0 (linesL t) with
      | inl x =>
        obtain ⟨l, p, s⟩ := x
        rw [hr] at lp
        refine go__law_read (o := .ret (.sh (.tup [.str "text", nI l, nI p, .str s]))) ?_ rfl
        unfold b__law_read
        rw [lit0]
        (repeat (exists e1, e2, e3, rg, lp))
      | inr xs =>
        rw [hr] at lp
        refine go__law_read (o := .ret (.sh (.tup [.str "read", .lst (ctr xs)]))) ?_ rfl
        unfold b__law_read
        rw [lit0]
        (repeat (exists e1, e2, e3, rg, lp))
theorem told_text (t : List Nat) (s : D) (h : tOkC t) : m__law_told [nI 0, .str (nm t), s] = .ok (.sh (rdText t)) := by
  have hp : toldF 0 (.str (nm t)) s = prText t := parse_text t h
  unfold prText at hp
  unfold rdText
  by_cases c0 : t = []
  · rw [if_pos c0] at hp ⊢
    exact told_ok (r := .ow []) (by decide) hp
  · rw [if_neg c0] at hp ⊢
    by_cases c6 : 6 < (linesL t).length
    · rw [if_pos c6] at hp ⊢
      exact told_exc (e := .tooMany (.int 6)) (by decide) trivial hp
    · rw [if_neg c6] at hp ⊢
      cases hr : rdAll 0 (linesL t) with
      | inl x =>
        obtain ⟨l, p, s⟩ := x
        rw [hr] at hp
        exact told_exc (e := .badText (nI l) (nI p) (.str s)) (by decide) trivial hp
      | inr xs =>
        rw [hr] at hp
        exact told_ok (r := .ow (ctr xs)) (by decide) hp
/-! ## what is read is a contract, and written again the same -/
theorem numL_vl {lo hi : Nat} {w : List Nat} (h : inR lo hi w = true) : TL.numL (vl w) = w ∧ lo ≤ vl w ∧ vl w ≤ hi := by
  unfold inR goodNum at h
  simp only [Bool.and_eq_true, decide_eq_true_eq] at h
  exact ⟨(numL_iff h.1.1.1).mpr h.1.1.2, h.2, h.1.2⟩
theorem rdK_ok : ∀ {ws : List (List Nat)} {lo : Nat} {ms : List Nat}, rdK lo ws = .inr ms → ascT 4 lo ms = true ∧ ms.map TL.numL = ws
  | [], lo, ms, h => by cases h; exact ⟨rfl, rfl⟩
  | w :: ws, lo, ms, h => by
    unfold rdK at h
    split at h
    · next hc =>
      obtain ⟨a, b, c⟩ := numL_vl hc
      cases e : rdK (vl w + 1) ws with
      | inl i => rw [e] at h; cases h
      | inr ns =>
        rw [e] at h; cases h
        obtain ⟨i1, i2⟩ := rdK_ok e
        refine ⟨?_, by rw [List.map_cons, a, i2]⟩
        unfold ascT
        rw [i1, decide_eq_true b, decide_eq_true (by omega : vl w < 4)]
        rfl
    · cases h
theorem rdL_ok {l : List Nat} {x : Lim} (h : rdL (words l) = .inr x) : limOk x = true ∧ lineC x = l := by
  have j : TL.joinL [32] (words l) = l := join_spl (by simp) (by decide)
  generalize words l = W at *
  unfold rdL at h
  cases W with
  | nil => cases h
  | cons w r =>
    simp only at h
    split at h
    · next hc =>
      obtain ⟨a, b, c⟩ := numL_vl hc
      split at h
      · cases h
      · next hr =>
        cases e : rdK 0 r with
        | inl i => rw [e] at h; cases h
        | inr ms =>
          rw [e] at h; cases h
          obtain ⟨i1, i2⟩ := rdK_ok e
          have hl := rdK_len e
          refine ⟨?_, by unfold lineC; rw [i2, a]; exact j⟩
          unfold limOk
          have : ms ≠ [] := fun z => by rw [z] at hl; exact hr (List.length_eq_zero_iff.mp hl.symm)
          rw [i1, decide_eq_true this, decide_eq_true c]
          rfl
    · cases h
theorem rdAll_ok : ∀ {ls : List (List Nat)} {k : Nat} {xs : List Lim}, rdAll k ls = .inr xs → (∀ x ∈ xs, limOk x = true) ∧ xs.map lineC = ls
  | [], k, xs, h => by cases h; exact ⟨fun x hx => (by cases hx), rfl⟩
  | l :: ls, k, xs, h => by
    unfold rdAll at h
    cases hr : rdL (words l) with
    | inl x => rw [hr] at h; cases h
    | inr x =>
      rw [hr] at h
      simp only at h
      cases e : rdAll (k + 1) ls with
      | inl y => rw [e] at h; cases h
      | inr ys =>
        rw [e] at h; cases h
        obtain ⟨i1, i2⟩ := rdAll_ok e
        obtain ⟨j1, j2⟩ := rdL_ok hr
        refine ⟨fun y hy => ?_, by rw [List.map_cons, j2, i2]⟩
        rcases List.mem_cons.mp hy with z | z
        · rw [z]; exact j1
        · exact i1 y z
end K55

set_option maxRecDepth 100000
set_option maxHeartbeats 1000000
namespace K55
open PySem PL
theorem rdL_str {ws : List (List Nat)} {p : Nat} {s : Str} (h : rdL ws = .inl (p, s)) : PyData.strOk s = true := by
  unfold rdL at h
  cases ws with
  | nil => cases h; decide +kernel
  | cons w r =>
    simp only at h
    split at h
    · split at h
      · cases h; decide +kernel
      · cases e : rdK 0 r with
        | inl i => rw [e] at h; cases h; decide +kernel
        | inr ms => rw [e] at h; cases h
    · cases h; decide +kernel
theorem rdAll_str : ∀ {ls : List (List Nat)} {k l p : Nat} {s : Str}, rdAll k ls = .inl (l, p, s) → PyData.strOk s = true
  | [], _, _, _, _, h => by cases h
  | l0 :: ls, k, l, p, s, h => by
    unfold rdAll at h
    cases hr : rdL (words l0) with
    | inl x => rw [hr] at h; cases h; exact rdL_str hr
    | inr x =>
      rw [hr] at h
      simp only at h
      cases e : rdAll (k + 1) ls with
      | inl y => rw [e] at h; cases h; exact rdAll_str e
      | inr ys => rw [e] at h; cases h
theorem pl_lim {x : Lim} (h : x.1.length ≤ 1000) : pl (limD x) = true ∧ dep (limD x) ≤ 2 := by
  have h1 : plA (x.1.map nI) = true := plA_of fun d hd => by obtain ⟨m, _, rfl⟩ := List.mem_map.mp hd; rfl
  have h2 : depA (x.1.map nI) ≤ 0 := depA_of fun d hd => by obtain ⟨m, _, rfl⟩ := List.mem_map.mp hd; exact Nat.le_refl 0
  refine ⟨?_, ?_⟩
  · simp only [pl, plA, h1, List.length_map, List.length_cons, List.length_nil, Bool.and_true, Bool.true_and, decide_eq_true_eq, Bool.and_eq_true]
    exact ⟨h, by decide⟩
  · simp only [dep, depA]
    omega
theorem pl_ctr {xs : List Lim} (h : ∀ x ∈ xs, limOk x = true) (hl : xs.length ≤ 1000) : pl (.lst (ctr xs)) = true ∧ dep (.lst (ctr xs)) ≤ 3 := by
  have hx : ∀ x ∈ xs, x.1.length ≤ 1000 := fun x hx => by have := (lim_facts (h x hx)).2.1; omega
  have h1 : plA (ctr xs) = true := plA_of fun d hd => by obtain ⟨x, hx', rfl⟩ := List.mem_map.mp hd; exact (pl_lim (hx x hx')).1
  have h2 : depA (ctr xs) ≤ 2 := depA_of fun d hd => by obtain ⟨x, hx', rfl⟩ := List.mem_map.mp hd; exact (pl_lim (hx x hx')).2
  refine ⟨?_, ?_⟩
  · simp only [pl, h1, List.length_map, Bool.true_and, decide_eq_true_eq]; exact hl
  · simp only [dep]; omega
theorem pl_pair {s : Str} {d : D} {n : Nat} (hs : PyData.strOk s = true) (hd : pl d = true) (hp : dep d ≤ n) : pl (.tup [.str s, d]) = true ∧ dep (.tup [.str s, d]) ≤ n + 1 := by
  refine ⟨?_, ?_⟩
  · simp only [pl, plA, hs, hd, Bool.and_true, Bool.true_and, decide_eq_true_eq, List.length_cons, List.length_nil]; decide
  · simp only [dep, depA]; omega
theorem same_read {xs : List Lim} (h : ∀ x ∈ xs, limOk x = true) (hl : xs.length ≤ 1000) : m__law_same 6 [.tup [.str "read", .lst (ctr xs)], .tup [.str "read", .lst (ctr xs)]] = yes := by
  obtain ⟨a, b⟩ := pl_ctr h hl
  obtain ⟨c, d⟩ := pl_pair (s := "read") (by decide +kernel) a b
  exact same_refl 6 _ c (by omega)
theorem ne_word {w : Str} (h : PyData.strOk w = true) (h2 : ¬ w = "read") : neD (.str w) (.str "read") = .ok (.bl true) := by
  rw [ne_str h (by decide +kernel), decide_eq_false h2]; rfl
theorem asked_other {t : List Nat} {w : Str} {ds : List D} (h : tOkC t) (e : rdText t = .tup (.str w :: ds)) (hp : pl (rdText t) = true) (hd : dep (rdText t) < 6) (hw : PyData.strOk w = true) (hn : ¬ w = "read") : m__law_asked [.str (nm t)] = yes := by
  have r := law_read t h
  have k := told_text t .non h
  have s := same_refl 6 _ hp hd
  rw [e] at r k s
  let V : D := .tup (.str w :: ds)
  have s2 : sSetT 2 m__law_told (aCons (eC (.int 0)) (aCons (eVar 0) (aCons (eC .non) aNil))) [.sh (.str (nm t)), .sh V, .no] = .next [.sh (.str (nm t)), .sh V, .tmp V] := setT_eq (cons_eq rfl (cons_eq rfl (cons_eq rfl rfl))) k rfl rfl
  have t3 : tmpT 2 (notB (tst truD (callE (m__law_same 6) (aCons (eVar 2) (aCons (eVar 1) aNil))))) [.sh (.str (nm t)), .sh V, .tmp V] = .ok false := tmpT_eq rfl (not_eq (b := true) (tst_eq (call_sh (cons_eq rfl (cons_eq rfl rfl)) s) rfl)) rfl
  have ne := ne_word hw hn
  have i0 : ixD (.tup (.str w :: ds)) (.int 0) = .ok (.str w) := j_ixT (atI_0 _ _)
  refine go__law_asked (o := .ret (.sh (.bl true))) ?_ rfl
  unfold b__law_asked
  refine seq_n (set_eq (call_sh (cons_eq rfl rfl) r)) (seq_n s2 (seq_n (if_eq t3 rfl) ?_))
  refine seq_ret (if_eq (b := true) (tst_eq (bin_eq (bin_eq rfl rfl i0) rfl ne) rfl) (ret_eq rfl))
theorem asked_read {t : List Nat} {xs : List Lim} (h : tOkC t) (e : rdText t = .tup [.str "read", .lst (ctr xs)]) (hx : ∀ x ∈ xs, limOk x = true) (hl : xs.length ≤ 6) (ht : textC xs = t) : m__law_asked [.str (nm t)] = yes := by
  have r := law_read t h
  have k := told_text t .non h
  have s := same_read hx (by omega)
  rw [e] at r k
  let V : D := .tup [.str "read", .lst (ctr xs)]
  have s2 : sSetT 2 m__law_told (aCons (eC (.int 0)) (aCons (eVar 0) (aCons (eC .non) aNil))) [.sh (.str (nm t)), .sh V, .no] = .next [.sh (.str (nm t)), .sh V, .tmp V] := setT_eq (cons_eq rfl (cons_eq rfl (cons_eq rfl rfl))) k rfl rfl
  have t3 : tmpT 2 (notB (tst truD (callE (m__law_same 6) (aCons (eVar 2) (aCons (eVar 1) aNil))))) [.sh (.str (nm t)), .sh V, .tmp V] = .ok false := tmpT_eq rfl (not_eq (b := true) (tst_eq (call_sh (cons_eq rfl (cons_eq rfl rfl)) s) rfl)) rfl
  have ne : neD (.str "read") (.str "read") = .ok (.bl false) := by rw [ne_str (by decide +kernel) (by decide +kernel), decide_eq_true rfl]; rfl
  have i0 : ∀ ds, ixD (.tup (.str "read" :: ds)) (.int 0) = .ok (.str "read") := fun ds => j_ixT (atI_0 _ _)
  have i1 : ixD V (.int 1) = .ok (.lst (ctr xs)) := j_ixT (atI_1 _ _ _)
  have f : m__law_told [nI 1, .lst (ctr xs), .non] = .ok (.sh (.tup [.str "read", .str (nm t)])) := by
    have := told_ok (w := 1) (f := .lst (ctr xs)) (s := .non) (r := .sh (.str (nm t))) (by decide) (by show m_format_contract [.lst (ctr xs)] = _; rw [format_eq hx hl, ht])
    exact this
  have sf : m__law_same 6 [.tup [.str "read", .str (nm t)], .tup [.str "read", .str (nm t)]] = yes := by
    obtain ⟨c, d⟩ := pl_pair (s := "read") (d := .str (nm t)) (n := 0) (by decide +kernel) (by show PyData.strOk (nm t) = true; exact asc_ok h.1) (Nat.le_refl 0)
    exact same_refl 6 _ c (by omega)
  have ic := is_ctr hx hl
  refine go__law_asked (o := .ret (.sh (.bl true))) ?_ rfl
  unfold b__law_asked
  refine seq_n (set_eq (call_sh (cons_eq rfl rfl) r)) (seq_n s2 (seq_n (if_eq t3 rfl) ?_))
  refine seq_n (if_eq (b := false) (tst_eq (bin_eq (bin_eq rfl rfl (i0 _)) rfl ne) rfl) rfl) ?_
  have L : ∀ ρ : En, ρ[1]? = some (.sh V) → PL.own (appO listL (aCons (PL.bin ixD (eVar 1) (eC (.int 1))) aNil)) ρ = .ok (.lst (ctr xs)) := fun ρ hρ => own_eq (appO_eq (cons_eq (bin_eq (z_var hρ) rfl i1) rfl) rfl)
  refine seq_n (if_eq (b := false) (or_no (not_eq (b := true) (tst_eq (call_sh (cons_eq (call_sh (cons_eq rfl (cons_eq (L _ rfl) (cons_eq rfl rfl))) f) (cons_eq (app_eq (cons_eq rfl (cons_eq rfl rfl)) (tup2 _ _)) rfl)) sf) rfl)) (tst_eq (bin_eq (call_sh (cons_eq (L _ rfl) rfl) ic) rfl rfl) rfl)) rfl) ?_
  refine seq_n (appT_eq (a := .str "read") (xs := ctr xs) (d := limD ([0], 1)) rfl ?_ rfl (by rw [List.length_map]; omega)) ?_
  · exact app_eq (cons_eq (app_eq (cons_eq rfl rfl) (tup_ok _ (by simp))) (cons_eq rfl rfl)) (tup2 _ _)
  · exact ret_eq (call_sh (cons_eq (call_sh (cons_eq rfl (cons_eq rfl (cons_eq rfl rfl))) k) (cons_eq rfl rfl)) s)
theorem asked (t : List Nat) (h : tOkC t) : m__law_asked [.str (nm t)] = yes := by
  by_cases c0 : t = []
  · refine asked_read (xs := []) h (by unfold rdText; rw [if_pos c0]; rfl) (fun x hx => by cases hx) (by simp) (by rw [c0]; rfl)
  · by_cases c6 : 6 < (linesL t).length
    · have e : rdText t = .tup [.str "many", .int 6] := by unfold rdText; rw [if_neg c0, if_pos c6]
      exact asked_other h e (by rw [e]; decide +kernel) (by rw [e]; decide) (by decide +kernel) (by decide +kernel)
    · cases hr : rdAll 0 (linesL t) with
      | inl x =>
        obtain ⟨l, p, s⟩ := x
        have e : rdText t = .tup [.str "text", nI l, nI p, .str s] := by unfold rdText; rw [if_neg c0, if_neg c6, hr]
        have hs := rdAll_str hr
        have h0 : PyData.strOk "text" = true := by decide +kernel
        exact asked_other h e (by rw [e]; simp only [pl, plA, hs, h0, Bool.and_true, Bool.true_and, decide_eq_true_eq, List.length_cons, List.length_nil]; decide) (by rw [e]; simp only [dep, depA]; decide) (by decide +kernel) (by decide +kernel)
      | inr xs =>
        have e : rdText t = .tup [.str "read", .lst (ctr xs)] := by unfold rdText; rw [if_neg c0, if_neg c6, hr]
        obtain ⟨a, b⟩ := rdAll_ok hr
        have hl : xs.length ≤ 6 := by have := congrArg List.length b; rw [List.length_map] at this; omega
        exact asked_read h e a hl (by unfold textC; rw [b]; exact join_spl (by simp) (by decide))
end K55

set_option maxRecDepth 100000
set_option maxHeartbeats 1000000
namespace K55
open PySem PL
def WL1 : List Str := ["0", "1", "2", "3", "4", "00", "01", "03", "9", "10", "29", "30", "31", "030", "100", "-1", "+2", "-0"]
def WL2 : List Str := ["", "x", "1.0", "\t", "1,2", "1e1", "3x", "1_0", "12345678901234567890", "None"]
theorem wl_len : (WL1 ++ WL2).length = 28 := rfl
theorem wl_good : ∀ s ∈ WL1 ++ WL2, wGood s.cps.toList := by
  have h : ((WL1 ++ WL2).all fun s => asc s.cps.toList && decide (s.cps.toList.length ≤ 40) && !(s.cps.toList.contains 32) && !(s.cps.toList.contains 10)) = true := by decide +kernel
  intro s hs
  have := List.all_eq_true.mp h s hs
  simp only [Bool.and_eq_true, decide_eq_true_eq, Bool.not_eq_true', List.contains_eq_mem, decide_eq_false_iff_not] at this
  exact ⟨⟨this.1.1.1, this.1.1.2⟩, this.1.2, this.2⟩
theorem law_word (n : Int) : ∃ w, wGood w ∧ m__law_word [.int n] = .ok (.sh (.str (nm w))) := by
  obtain ⟨j, hj, ej0⟩ := mod_len (x := n) (n := 28) (by decide)
  have ej : modD (.int n) (.int 28) = .ok (.int (j : Int)) := ej0
  have hj2 : j < (WL1 ++ WL2).length := by rw [wl_len]; exact hj
  have ix : ixD (.lst (WL1.map .str ++ WL2.map .str)) (.int (j : Nat)) = .ok (.str (WL1 ++ WL2)[j]) := by
    rw [← List.map_append, ix_lst _ _ (by rw [List.length_map]; exact hj2), List.getElem_map]
  have e : nm ((WL1 ++ WL2)[j]).cps.toList = (WL1 ++ WL2)[j] := TL.mk_tl _
  refine ⟨((WL1 ++ WL2)[j]).cps.toList, wl_good _ (List.getElem_mem hj2), ?_⟩
  rw [e]
  have l1 : PL.own (appO lstD (aCons (eC (.str "0")) (aCons (eC (.str "1")) (aCons (eC (.str "2")) (aCons (eC (.str "3")) (aCons (eC (.str "4")) (aCons (eC (.str "00")) (aCons (eC (.str "01")) (aCons (eC (.str "03")) (aCons (eC (.str "9")) (aCons (eC (.str "10")) (aCons (eC (.str "29")) (aCons (eC (.str "30")) (aCons (eC (.str "31")) (aCons (eC (.str "030")) (aCons (eC (.str "100")) (aCons (eC (.str "-1")) (aCons (eC (.str "+2")) (aCons (eC (.str "-0")) aNil))))))))))))))))))) [.sh (.int n), .no] = .ok (.lst (WL1.map .str)) := own_eq (appO_eq (ds := WL1.map .str) rfl (lst_ok _ (by decide)))
  have l2 : ∀ ρ, PL.own (appO lstD (aCons (eC (.str "")) (aCons (eC (.str "x")) (aCons (eC (.str "1.0")) (aCons (eC (.str "\t")) (aCons (eC (.str "1,2")) (aCons (eC (.str "1e1")) (aCons (eC (.str "3x")) (aCons (eC (.str "1_0")) (aCons (eC (.str "12345678901234567890")) (aCons (eC (.str "None")) aNil))))))))))) ρ = .ok (.lst (WL2.map .str)) := fun ρ => own_eq (appO_eq (ds := WL2.map .str) rfl (lst_ok _ (by decide)))
  have a : addD (.lst (WL1.map .str)) (.lst (WL2.map .str)) = .ok (.lst (WL1.map .str ++ WL2.map .str)) := add_lst _ _ (by decide)
  refine go__law_word (o := .ret (.sh (.str (WL1 ++ WL2)[j]))) ?_ rfl
  unfold b__law_word
  (repeat (exists l1, l2 _, a, ej, ix))
/-! ## a changed text -/
theorem line_words {n : Nat} {l : List Nat} (h : lG n l) (hn : 1 ≤ n) (hn2 : n ≤ 500) : (words l).length ≤ n ∧ (∀ w ∈ words l, wGood w) ∧ l.length ≤ 50000 ∧ 0 < (words l).length := by
  obtain ⟨ws, h0, h1, h2, rfl⟩ := lG_ne h hn
  have e := words_join h0 fun w hx => (h2 w hx).2.1
  have hlen := joinL_len [32] ws
  have hsum := lg_len h2
  simp only [List.length_cons, List.length_nil] at hlen
  rw [e]
  exact ⟨h1, h2, by omega, List.length_pos_iff.mpr h0⟩
theorem join_good {ws : List (List Nat)} (hl : ws.length ≤ 1000) (h : ∀ w ∈ ws, wGood w) : joinD " " (.lst (wds ws)) = .ok (.str (nm (TL.joinL [32] ws))) := by
  have := lg_len h
  exact join_sp (by omega)
theorem app_good {ws : List (List Nat)} {w : List Nat} (h : ∀ w ∈ ws, wGood w) (hw : wGood w) : ∀ x ∈ ws ++ [w], wGood x := fun x hx => by
  rcases List.mem_append.mp hx with z | z
  · exact h x z
  · rw [List.mem_singleton.mp z]; exact hw
section
variable {T C : Sl} {xs : List Int} {ls : List (List Nat)} {k : Nat} {o5 o6 o7 o8 o9 o10 : Sl} {x0 x1 x2 x3 : Int} {j p q : Nat} {l w : List Nat} {ws : List (List Nat)} {lsE : List D}
variable (e0 : ixD (.lst (xs.map D.int)) (.int (4 * (k : Int))) = .ok (.int x0)) (e1 : ixD (.lst (xs.map D.int)) (.int (4 * (k : Int) + 1)) = .ok (.int x1)) (e2 : ixD (.lst (xs.map D.int)) (.int (4 * (k : Int) + 2)) = .ok (.int x2)) (e3 : ixD (.lst (xs.map D.int)) (.int (4 * (k : Int) + 3)) = .ok (.int x3))
  (hk : k < 2) (len : lenL [.lst (wds ls)] = .ok (.int (ls.length : Nat))) (mj : modD (.int x1) (.int (ls.length : Nat)) = .ok (nI j)) (ixj : ixD (.lst (wds ls)) (nI j) = .ok (.str (nm l))) (sp : splitO (nm l) (.str " ") = .ok (wds ws)) (lenw : lenL [.lst (wds ws)] = .ok (.int (ws.length : Nat)))
  (mp : modD (.int x2) (.int (ws.length : Nat)) = .ok (nI p)) (mq : modD (.int x3) (.int (ws.length : Nat)) = .ok (nI q))
abbrev Tn (T C : Sl) (xs : List Int) (ls : List (List Nat)) (k : Nat) (o5 o6 o7 o8 o9 o10 : Sl) (r : List D) : Prop := ∃ p5 p6 p7 p8 p9 p10, B1__law_changed [T, C, .sh (.lst (xs.map D.int)), .ow (.lst (wds ls)), .sh (nI k), o5, o6, o7, o8, o9, o10] = .next [T, C, .sh (.lst (xs.map D.int)), .ow (.lst r), .sh (nI k), p5, p6, p7, p8, p9, p10]
include e0 e1 e2 e3 hk len mj ixj sp lenw mp mq
theorem tw0 (c : x0 % 12 = 0) (ew : m__law_word [.int x3] = .ok (.sh (.str (nm w)))) {t : List Nat} {wsE : List D} (f2 : joinD " " (.lst wsE) = .ok (.str (nm t))) (f3 : putAt (wds ls) (.str (nm t)) (nI j) = .ok lsE) (pw : putAt (wds ws) (.str (nm w)) (nI p) = .ok wsE) : Tn T C xs ls k o5 o6 o7 o8 o9 o10 (lsE) :=
  ⟨_, _, _, _, _, _, by unfold B1__law_changed; (repeat (exists e0, e1, e2, e3, len, mj, ixj, sp, lenw, mp, mq, ew, pw, f2, f3))⟩
theorem tw7 (c : x0 % 12 = 7) (ew : m__law_word [.int x3] = .ok (.sh (.str (nm w)))) {t : List Nat} {wsE : List D} (f2 : joinD " " (.lst wsE) = .ok (.str (nm t))) (f3 : putAt (wds ls) (.str (nm t)) (nI j) = .ok lsE) (pw : putAt (wds ws) (.str (nm w)) (nI p) = .ok wsE) : Tn T C xs ls k o5 o6 o7 o8 o9 o10 (lsE) :=
  ⟨_, _, _, _, _, _, by unfold B1__law_changed; (repeat (exists e0, e1, e2, e3, len, mj, ixj, sp, lenw, mp, mq, ew, pw, f2, f3))⟩
theorem tw1 (c : x0 % 12 = 1) {t : List Nat} {wsE : List D} (f2 : joinD " " (.lst wsE) = .ok (.str (nm t))) (f3 : putAt (wds ls) (.str (nm t)) (nI j) = .ok lsE) (pw : popAt (wds ws) (nI p) = .ok wsE) : Tn T C xs ls k o5 o6 o7 o8 o9 o10 (lsE) :=
  ⟨_, _, _, _, _, _, by unfold B1__law_changed; (repeat (exists e0, e1, e2, e3, len, mj, ixj, sp, lenw, mp, mq, pw, f2, f3))⟩
theorem tw2 (c : x0 % 12 = 2) (ew : m__law_word [.int x3] = .ok (.sh (.str (nm w)))) (hz : (wds ws).length < 100000) {t : List Nat} (f2 : joinD " " (.lst (wds ws ++ [.str (nm w)])) = .ok (.str (nm t))) (f3 : putAt (wds ls) (.str (nm t)) (nI j) = .ok lsE) : Tn T C xs ls k o5 o6 o7 o8 o9 o10 (lsE) :=
  ⟨_, _, _, _, _, _, by unfold B1__law_changed; (repeat (exists e0, e1, e2, e3, len, mj, ixj, sp, lenw, mp, mq, ew, f2, f3))⟩
theorem tw8 (c : x0 % 12 = 8) (ew : m__law_word [.int x3] = .ok (.sh (.str (nm w)))) (hz : (wds ws).length < 100000) {t : List Nat} (f2 : joinD " " (.lst (wds ws ++ [.str (nm w)])) = .ok (.str (nm t))) (f3 : putAt (wds ls) (.str (nm t)) (nI j) = .ok lsE) : Tn T C xs ls k o5 o6 o7 o8 o9 o10 (lsE) :=
  ⟨_, _, _, _, _, _, by unfold B1__law_changed; (repeat (exists e0, e1, e2, e3, len, mj, ixj, sp, lenw, mp, mq, ew, f2, f3))⟩
theorem tw3 (c : x0 % 12 = 3) {t : List Nat} {wsE : List D} (f2 : joinD " " (.lst wsE) = .ok (.str (nm t))) (f3 : putAt (wds ls) (.str (nm t)) (nI j) = .ok lsE) {a b : D} {w2 : List D} (g1 : ixD (.lst (wds ws)) (nI p) = .ok a) (g2 : ixD (.lst (wds ws)) (nI q) = .ok b) (g3 : putAt (wds ws) b (nI p) = .ok w2) (g4 : putAt w2 a (nI q) = .ok wsE) : Tn T C xs ls k o5 o6 o7 o8 o9 o10 (lsE) :=
  ⟨_, _, _, _, _, _, by unfold B1__law_changed; (repeat (exists e0, e1, e2, e3, len, mj, ixj, sp, lenw, mp, mq, g1, g2, g3, g4, f2, f3))⟩
theorem tw4 (c : x0 % 12 = 4) {t : List Nat} {wsE : List D} (f2 : joinD " " (.lst wsE) = .ok (.str (nm t))) (f3 : putAt (wds ls) (.str (nm t)) (nI j) = .ok lsE) (g1 : insAt (wds ws) [nI p, .str ""] = .ok wsE) : Tn T C xs ls k o5 o6 o7 o8 o9 o10 (lsE) :=
  ⟨_, _, _, _, _, _, by unfold B1__law_changed; (repeat (exists e0, e1, e2, e3, len, mj, ixj, sp, lenw, mp, mq, g1, f2, f3))⟩
theorem tw5 (c : x0 % 12 = 5) {t : List Nat} (f2 : joinD " " (.lst (wds ws)) = .ok (.str (nm t))) (f3 : putAt (wds ls) (.str (nm t)) (nI j) = .ok lsE) {l2 : List D} (g1 : insAt lsE [nI j, .str ""] = .ok l2) : Tn T C xs ls k o5 o6 o7 o8 o9 o10 (l2) :=
  ⟨_, _, _, _, _, _, by unfold B1__law_changed; (repeat (exists e0, e1, e2, e3, len, mj, ixj, sp, lenw, mp, mq, f2, f3, g1))⟩
theorem tw6 (c : x0 % 12 = 6) {t : List Nat} (f2 : joinD " " (.lst (wds ws)) = .ok (.str (nm t))) (f3 : putAt (wds ls) (.str (nm t)) (nI j) = .ok lsE) (hz : lsE.length < 100000) : Tn T C xs ls k o5 o6 o7 o8 o9 o10 (lsE ++ [.str ""]) :=
  ⟨_, _, _, _, _, _, by unfold B1__law_changed; (repeat (exists e0, e1, e2, e3, len, mj, ixj, sp, lenw, mp, mq, f2, f3))⟩
theorem twn (n0 : ¬ x0 % 12 = 0) (n1 : ¬ x0 % 12 = 1) (n2 : ¬ x0 % 12 = 2) (n3 : ¬ x0 % 12 = 3) (n4 : ¬ x0 % 12 = 4) (n5 : ¬ x0 % 12 = 5) (n6 : ¬ x0 % 12 = 6) (n7 : ¬ x0 % 12 = 7) (n8 : ¬ x0 % 12 = 8) {t : List Nat} (f2 : joinD " " (.lst (wds ws)) = .ok (.str (nm t))) (f3 : putAt (wds ls) (.str (nm t)) (nI j) = .ok lsE) : Tn T C xs ls k o5 o6 o7 o8 o9 o10 (lsE) :=
  ⟨_, _, _, _, _, _, by unfold B1__law_changed; (repeat (exists e0, e1, e2, e3, len, mj, ixj, sp, lenw, mp, mq, f2, f3))⟩
end
theorem turn_eq {T C : Sl} {xs : List Int} {ls : List (List Nat)} {k n : Nat} {o5 o6 o7 o8 o9 o10 : Sl} (hd : Draws 8 5040 xs) (hk : k < 2) (h1 : 1 ≤ n) (hn : n ≤ 400) (hp : 0 < ls.length) (hl : ls.length ≤ 400) (h : LS n ls) :
    ∃ (ls' : List (List Nat)) (p5 p6 p7 p8 p9 p10 : Sl), LS (n + 1) ls' ∧ 0 < ls'.length ∧ ls'.length ≤ ls.length + 1 ∧ B1__law_changed [T, C, .sh (.lst (xs.map D.int)), .ow (.lst (wds ls)), .sh (nI k), o5, o6, o7, o8, o9, o10] = .next [T, C, .sh (.lst (xs.map D.int)), .ow (.lst (wds ls')), .sh (nI k), p5, p6, p7, p8, p9, p10] := by
  obtain ⟨x0, e0, a0, b0⟩ := draw_get hd (k := 4 * k) (by omega)
  obtain ⟨x1, e1, a1, b1⟩ := draw_get hd (k := 4 * k + 1) (by omega)
  obtain ⟨x2, e2, a2, b2⟩ := draw_get hd (k := 4 * k + 2) (by omega)
  obtain ⟨x3, e3, a3, b3⟩ := draw_get hd (k := 4 * k + 3) (by omega)
  rw [show ((4 * k : Nat) : Int) = 4 * (k : Int) from by omega] at e0
  rw [show ((4 * k + 1 : Nat) : Int) = 4 * (k : Int) + 1 from by omega] at e1
  rw [show ((4 * k + 2 : Nat) : Int) = 4 * (k : Int) + 2 from by omega] at e2
  rw [show ((4 * k + 3 : Nat) : Int) = 4 * (k : Int) + 3 from by omega] at e3
  have len := wds_lenL ls
  obtain ⟨j, hj, mj⟩ := mod_len (x := x1) hp
  have ixj := wds_ix ls j hj
  obtain ⟨w1, w2, w3, w4⟩ := line_words (h _ (List.getElem_mem hj)) h1 (by omega)
  have sp := spl_sp ls[j] (by omega)
  generalize words ls[j] = ws at *
  generalize ls[j] = l at *
  have lenw := wds_lenL ws
  obtain ⟨p, hpp, mp⟩ := mod_len (x := x2) w4
  obtain ⟨q, hq, mq⟩ := mod_len (x := x3) w4
  obtain ⟨w, gw, ew⟩ := law_word x3
  have up : LS (n + 1) ls := fun l hx => lG_mono (h l hx) (by omega)
  -- a line of the words ws'
  have fin : ∀ ws' : List (List Nat), ws'.length ≤ n + 1 → (∀ w ∈ ws', wGood w) → LS (n + 1) (ls.set j (TL.joinL [32] ws')) ∧ joinD " " (.lst (wds ws')) = .ok (.str (nm (TL.joinL [32] ws'))) ∧ putAt (wds ls) (.str (nm (TL.joinL [32] ws'))) (nI j) = .ok (wds (ls.set j (TL.joinL [32] ws'))) := fun ws' a b => ⟨LS_set up ⟨ws', a, b, rfl⟩, join_good (by omega) b, put_wds hj⟩
  have sl : ∀ l', (ls.set j l').length = ls.length := fun l' => List.length_set
  by_cases c07 : x0 % 12 = 0 ∨ x0 % 12 = 7
  · obtain ⟨f1, f2, f3⟩ := fin (ws.set p w) (by rw [List.length_set]; omega) (set_good w2 gw)
    have pw := put_wds (w := w) hpp
    by_cases c0 : x0 % 12 = 0
    · obtain ⟨p5, p6, p7, p8, p9, p10, hb⟩ := tw0 (T := T) (C := C) (o5 := o5) (o6 := o6) (o7 := o7) (o8 := o8) (o9 := o9) (o10 := o10) e0 e1 e2 e3 hk len mj ixj sp lenw mp mq c0 ew f2 f3 pw
      exact ⟨_, p5, p6, p7, p8, p9, p10, f1, by rw [sl]; exact hp, by rw [sl]; omega, hb⟩
    · obtain ⟨p5, p6, p7, p8, p9, p10, hb⟩ := tw7 (T := T) (C := C) (o5 := o5) (o6 := o6) (o7 := o7) (o8 := o8) (o9 := o9) (o10 := o10) e0 e1 e2 e3 hk len mj ixj sp lenw mp mq (by omega) ew f2 f3 pw
      exact ⟨_, p5, p6, p7, p8, p9, p10, f1, by rw [sl]; exact hp, by rw [sl]; omega, hb⟩
  by_cases c1 : x0 % 12 = 1
  · obtain ⟨f1, f2, f3⟩ := fin (ws.eraseIdx p) (by rw [List.length_eraseIdx]; split <;> omega) (fun w h => w2 w (List.mem_of_mem_eraseIdx h))
    have pw := pop_wds hpp (by omega)
    obtain ⟨p5, p6, p7, p8, p9, p10, hb⟩ := tw1 (T := T) (C := C) (o5 := o5) (o6 := o6) (o7 := o7) (o8 := o8) (o9 := o9) (o10 := o10) e0 e1 e2 e3 hk len mj ixj sp lenw mp mq c1 f2 f3 pw
    exact ⟨_, p5, p6, p7, p8, p9, p10, f1, by rw [sl]; exact hp, by rw [sl]; omega, hb⟩
  by_cases c28 : x0 % 12 = 2 ∨ x0 % 12 = 8
  · obtain ⟨f1, f2, f3⟩ := fin (ws ++ [w]) (by simp only [List.length_append, List.length_cons, List.length_nil]; omega) (app_good w2 gw)
    rw [← wds_app] at f2
    have hz : (wds ws).length < 100000 := by rw [wds_len]; omega
    by_cases c2 : x0 % 12 = 2
    · skip
      obtain ⟨p5, p6, p7, p8, p9, p10, hb⟩ := tw2 (T := T) (C := C) (o5 := o5) (o6 := o6) (o7 := o7) (o8 := o8) (o9 := o9) (o10 := o10) e0 e1 e2 e3 hk len mj ixj sp lenw mp mq c2 ew hz f2 f3
      exact ⟨_, p5, p6, p7, p8, p9, p10, f1, by rw [sl]; exact hp, by rw [sl]; omega, hb⟩
    · skip
      obtain ⟨p5, p6, p7, p8, p9, p10, hb⟩ := tw8 (T := T) (C := C) (o5 := o5) (o6 := o6) (o7 := o7) (o8 := o8) (o9 := o9) (o10 := o10) e0 e1 e2 e3 hk len mj ixj sp lenw mp mq (by omega) ew hz f2 f3
      exact ⟨_, p5, p6, p7, p8, p9, p10, f1, by rw [sl]; exact hp, by rw [sl]; omega, hb⟩
  by_cases c3 : x0 % 12 = 3
  · obtain ⟨f1, f2, f3⟩ := fin ((ws.set p ws[q]).set q ws[p]) (by rw [List.length_set, List.length_set]; omega) (set_good (set_good w2 (w2 _ (List.getElem_mem hq))) (w2 _ (List.getElem_mem hpp)))
    have g1 := wds_ix ws p hpp
    have g2 := wds_ix ws q hq
    have g3 := put_wds (w := ws[q]) hpp
    have g4 := put_wds (ws := ws.set p ws[q]) (w := ws[p]) (j := q) (by rw [List.length_set]; exact hq)
    obtain ⟨p5, p6, p7, p8, p9, p10, hb⟩ := tw3 (T := T) (C := C) (o5 := o5) (o6 := o6) (o7 := o7) (o8 := o8) (o9 := o9) (o10 := o10) e0 e1 e2 e3 hk len mj ixj sp lenw mp mq c3 f2 f3 g1 g2 g3 g4
    exact ⟨_, p5, p6, p7, p8, p9, p10, f1, by rw [sl]; exact hp, by rw [sl]; omega, hb⟩
  by_cases c4 : x0 % 12 = 4
  · obtain ⟨f1, f2, f3⟩ := fin (ws.take p ++ [[]] ++ ws.drop p) (by simp only [List.length_append, List.length_take, List.length_drop, List.length_cons, List.length_nil]; omega) (ins_good w2 wGood_nil)
    have g1 := ins_wds (ws := ws) (w := []) (j := p) (by omega) (by omega)
    rw [← lit0] at g1
    obtain ⟨p5, p6, p7, p8, p9, p10, hb⟩ := tw4 (T := T) (C := C) (o5 := o5) (o6 := o6) (o7 := o7) (o8 := o8) (o9 := o9) (o10 := o10) e0 e1 e2 e3 hk len mj ixj sp lenw mp mq c4 f2 f3 g1
    exact ⟨_, p5, p6, p7, p8, p9, p10, f1, by rw [sl]; exact hp, by rw [sl]; omega, hb⟩
  obtain ⟨f1, f2, f3⟩ := fin ws (by omega) w2
  by_cases c5 : x0 % 12 = 5
  · have g1 := ins_wds (ws := ls.set j (TL.joinL [32] ws)) (w := []) (j := j) (by omega) (by rw [sl]; omega)
    rw [← lit0] at g1
    obtain ⟨p5, p6, p7, p8, p9, p10, hb⟩ := tw5 (T := T) (C := C) (o5 := o5) (o6 := o6) (o7 := o7) (o8 := o8) (o9 := o9) (o10 := o10) e0 e1 e2 e3 hk len mj ixj sp lenw mp mq c5 f2 f3 g1
    refine ⟨_, p5, p6, p7, p8, p9, p10, ?_, ?_, ?_, hb⟩
    · intro x hx
      rcases List.mem_append.mp hx with e | e
      · rcases List.mem_append.mp e with e | e
        · exact f1 x (List.mem_of_mem_take e)
        · rw [List.mem_singleton.mp e]; exact lG_nil _
      · exact f1 x (List.mem_of_mem_drop e)
    · simp only [List.length_append, List.length_take, List.length_drop, List.length_cons, List.length_nil]; omega
    · simp only [List.length_append, List.length_take, List.length_drop, List.length_cons, List.length_nil, List.length_set]; omega
  by_cases c6 : x0 % 12 = 6
  · have hz : (wds (ls.set j (TL.joinL [32] ws))).length < 100000 := by rw [wds_len, sl]; omega
    have w' := wds_app (ls.set j (TL.joinL [32] ws)) []
    rw [← lit0] at w'
    obtain ⟨p5, p6, p7, p8, p9, p10, hb⟩ := tw6 (T := T) (C := C) (o5 := o5) (o6 := o6) (o7 := o7) (o8 := o8) (o9 := o9) (o10 := o10) e0 e1 e2 e3 hk len mj ixj sp lenw mp mq c6 f2 f3 hz
    refine ⟨ls.set j (TL.joinL [32] ws) ++ [[]], p5, p6, p7, p8, p9, p10, ?_, by simp, by simp, by rw [← w']; exact hb⟩
    intro x hx
    rcases List.mem_append.mp hx with e | e
    · exact f1 x e
    · rw [List.mem_singleton.mp e]; exact lG_nil _
  · skip
    obtain ⟨p5, p6, p7, p8, p9, p10, hb⟩ := twn (T := T) (C := C) (o5 := o5) (o6 := o6) (o7 := o7) (o8 := o8) (o9 := o9) (o10 := o10) e0 e1 e2 e3 hk len mj ixj sp lenw mp mq  (by omega) c1 (by omega) c3 c4 c5 c6 (by omega) (by omega) f2 f3
    exact ⟨_, p5, p6, p7, p8, p9, p10, f1, by rw [sl]; exact hp, by rw [sl]; omega, hb⟩
end K55

set_option maxRecDepth 100000
set_option maxHeartbeats 1000000
namespace K55
open PySem PL
theorem LS_text {ls : List (List Nat)} {n : Nat} (h0 : 0 < ls.length) (hl : ls.length ≤ 90) (hn : n ≤ 99) (h : LS n ls) : tOkC (TL.joinL [10] ls) ∧ linesL (TL.joinL [10] ls) = ls := by
  obtain ⟨⟨a, b, c, d⟩, e⟩ := tOk_join (List.length_pos_iff.mp h0) hl fun l hx => lG_good (h l hx) hn
  refine ⟨⟨a, b, c, fun l hl => ⟨d l hl, ?_⟩⟩, e⟩
  rw [e] at hl
  have := line_words (lG_mono (h l hl) (by omega : n ≤ n + 1)) (by omega) (by omega)
  omega
theorem join_lines {n : Nat} {ls : List (List Nat)} (hl : ls.length ≤ 90) (hn : n ≤ 99) (h : LS n ls) : joinD "\n" (.lst (wds ls)) = .ok (.str (nm (TL.joinL [10] ls))) := by
  have hlen : (ls.map List.length).sum ≤ ls.length * 5000 := sum_le ls fun l hx => (lGood_facts (lG_good (h l hx) hn)).1.1
  exact join_nl (by omega)
theorem changed (ls : List (List Nat)) (cell : Int) (h0 : 0 < ls.length) (hl : ls.length ≤ 80) (h : LS 5 ls) : ∃ t', tOkC t' ∧ m__law_changed [.str (nm (TL.joinL [10] ls)), .int cell] = .ok (.sh (.str (nm t'))) := by
  obtain ⟨⟨_, tl, _, _⟩, eL⟩ := LS_text h0 (by omega) (by decide) h
  obtain ⟨xs, hd, ex⟩ := draw cell 8 5040 (by decide) (by decide) (by decide)
  generalize TL.joinL [10] ls = t at *
  have sp := spl_nl t (by omega)
  rw [eL] at sp
  let T : Sl := .sh (.str (nm t))
  let C : Sl := .sh (.int cell)
  obtain ⟨l1, p5, p6, p7, p8, p9, p10, g1, g2, g3, g4⟩ := turn_eq (T := T) (C := C) (ls := ls) (k := 0) (n := 5) (o5 := .no) (o6 := .no) (o7 := .no) (o8 := .no) (o9 := .no) (o10 := .no) hd (by decide) (by decide) (by decide) h0 (by omega) h
  obtain ⟨l2, q5, q6, q7, q8, q9, q10, k1, k2, k3, k4⟩ := turn_eq (T := T) (C := C) (ls := l1) (k := 1) (n := 6) (o5 := p5) (o6 := p6) (o7 := p7) (o8 := p8) (o9 := p9) (o10 := p10) hd (by decide) (by decide) (by decide) g2 (by omega) g1
  have r2 : rng1 [.int 2] = .ok [nI 0, nI 1] := rng1_nat 2 (by decide)
  have lp : forL (gN 4) B1__law_changed [nI 0, nI 1] [.sh (.str (nm t)), .sh (.int cell), .sh (.lst (xs.map D.int)), .ow (.lst (wds ls)), .no, .no, .no, .no, .no, .no, .no] = .next [.sh (.str (nm t)), .sh (.int cell), .sh (.lst (xs.map D.int)), .ow (.lst (wds l2)), .sh (nI 1), q5, q6, q7, q8, q9, q10] := by
    rw [for_cons]
    show lpO _ (B1__law_changed [T, C, .sh (.lst (xs.map D.int)), .ow (.lst (wds ls)), .sh (nI 0), .no, .no, .no, .no, .no, .no]) = _
    rw [g4, lp_next, for_cons]
    show lpO _ (B1__law_changed [T, C, .sh (.lst (xs.map D.int)), .ow (.lst (wds l1)), .sh (nI 1), p5, p6, p7, p8, p9, p10]) = _
    rw [k4, lp_next, for_nil]
  have jn := join_lines (n := 7) (by omega) (by decide) k1
  have ex' : m__law_row [.int cell, .int 8, .int 5040] = _ := ex
  refine ⟨TL.joinL [10] l2, (LS_text k2 (by omega) (by decide) k1).1, ?_⟩
  refine go__law_changed (o := .ret (.sh (.str (nm (TL.joinL [10] l2))))) ?_ rfl
  unfold b__law_changed
  (repeat (exists ex', sp, r2, lp, jn))
/-! ## drawn contracts -/
def memsOf (m : Nat) : List Nat := [0, 1, 2, 3].filter fun k => decide ((1 + m) / [1, 2, 4, 8].getD k 1 % 2 = 1)
theorem mems_asc (m : Nat) (h : m < 15) : ascT 4 0 (memsOf m) = true ∧ memsOf m ≠ [] := by
  have : ∀ m : Fin 15, ascT 4 0 (memsOf m.1) = true ∧ memsOf m.1 ≠ [] := by decide
  exact this ⟨m, h⟩
theorem bit_ix (k : Nat) (h : k < 4) : ixD (.lst [.int 1, .int 2, .int 4, .int 8]) (nI k) = .ok (nI ([1, 2, 4, 8].getD k 1)) ∧ 0 < [1, 2, 4, 8].getD k 1 ∧ [1, 2, 4, 8].getD k 1 < 9 := by
  rcases (by omega : k = 0 ∨ k = 1 ∨ k = 2 ∨ k = 3) with e | e | e | e <;> subst e <;> exact ⟨rfl, by decide, by decide⟩
theorem contract_turn {S L : Sl} {ms ts : List Int} {len : Nat} {acc : List Lim} {k : Nat} {o6 : Sl} (hm : Draws len 15 ms) (ht : Draws len 31 ts) (hk : k < len) (ha : ∀ x ∈ acc, limOk x = true) (hz : acc.length ≤ 1000) :
    ∃ (x : Lim) (p6 : Sl), limOk x = true ∧ B1__law_contract [S, L, .sh (.lst (ms.map D.int)), .sh (.lst (ts.map D.int)), .ow (.lst (ctr acc)), .sh (nI k), o6, .no] = .next [S, L, .sh (.lst (ms.map D.int)), .sh (.lst (ts.map D.int)), .ow (.lst (ctr (acc ++ [x]))), .sh (nI k), p6, .no] := by
  obtain ⟨m0, em, m1, m2⟩ := draw_get hm hk
  obtain ⟨t0, et, t1, t2⟩ := draw_get ht hk
  obtain ⟨m, rfl⟩ := Int.eq_ofNat_of_zero_le m1
  obtain ⟨t, rfl⟩ := Int.eq_ofNat_of_zero_le t1
  obtain ⟨a1, a2⟩ := mems_asc m (by omega)
  have ok : limOk (memsOf m, t) = true := by
    unfold limOk
    rw [a1, decide_eq_true a2, decide_eq_true (by omega : t ≤ 30)]; rfl
  have hl : (memsOf m).length ≤ 4 := asc_len a1
  refine ⟨(memsOf m, t), .sh (.lst ((memsOf m).map nI)), ok, ?_⟩
  have lc : lcE (appO rng1 (aCons (eC (.int 4)) aNil)) 7 T1__law_contract E1__law_contract [S, L, .sh (.lst (ms.map D.int)), .sh (.lst (ts.map D.int)), .ow (.lst (ctr acc)), .sh (nI k), o6, .no] = .ok ((memsOf m).map nI) := by
    have r4 : rng1 [.int 4] = .ok ([0, 1, 2, 3].map nI) := rng1_nat 4 (by decide)
    refine lce_filter (enc := nI) (xs := [0, 1, 2, 3]) (by (repeat (exists r4))) (by decide) (fun i hi => ?_) fun i _ _ => ?_
    · have hi4 : i < 4 := by
        simp only [List.mem_cons, List.not_mem_nil, or_false] at hi
        omega
      obtain ⟨b1, b2, b3⟩ := bit_ix i hi4
      show T1__law_contract [S, L, .sh (.lst (ms.map D.int)), .sh (.lst (ts.map D.int)), .ow (.lst (ctr acc)), .sh (nI k), o6, .sh (nI i)] = _
      generalize [1, 2, 4, 8].getD i 1 = b at *
      have e : decide ((1 + (m : Int)) / (b : Int) % 2 = 1) = decide ((1 + m) / b % 2 = 1) := by
        refine decide_eq_decide.mpr ?_
        have : ((1 + (m : Int)) / (b : Int) % 2) = (((1 + m) / b % 2 : Nat) : Int) := by simp
        rw [this]; omega
      rw [← e]
      unfold T1__law_contract
      (repeat (exists em, b1))
    · show E1__law_contract [S, L, .sh (.lst (ms.map D.int)), .sh (.lst (ts.map D.int)), .ow (.lst (ctr acc)), .sh (nI k), o6, .sh (nI i)] = _
      unfold E1__law_contract
      (repeat (exists trivial))
  have hcl : (ctr acc).length ≤ 1000 := by rw [List.length_map]; exact hz
  rw [show ctr (acc ++ [(memsOf m, t)]) = ctr acc ++ [limD (memsOf m, t)] from List.map_append]
  unfold B1__law_contract
  (repeat (exists lc, et))
theorem contract_loop {S L : Sl} {ms ts : List Int} {len : Nat} (hm : Draws len 15 ms) (ht : Draws len 31 ts) : ∀ (n k : Nat) (acc : List Lim) (o5 o6 : Sl), k + n = len → acc.length + n ≤ 1000 → (∀ x ∈ acc, limOk x = true) → ∃ (xs : List Lim) (p5 p6 : Sl), (∀ x ∈ xs, limOk x = true) ∧ xs.length = acc.length + n ∧
    forL (gN 5) B1__law_contract ((List.range' k n).map nI) [S, L, .sh (.lst (ms.map D.int)), .sh (.lst (ts.map D.int)), .ow (.lst (ctr acc)), o5, o6, .no] = .next [S, L, .sh (.lst (ms.map D.int)), .sh (.lst (ts.map D.int)), .ow (.lst (ctr xs)), p5, p6, .no]
  | 0, k, acc, o5, o6, _, _, ha => ⟨acc, o5, o6, ha, rfl, rfl⟩
  | n + 1, k, acc, o5, o6, hk, hz, ha => by
    obtain ⟨x, q6, hx, hb⟩ := contract_turn (S := S) (L := L) (o6 := o6) (k := k) hm ht (by omega) ha (by omega)
    obtain ⟨xs, p5, p6, i1, i2, i3⟩ := contract_loop (S := S) (L := L) hm ht n (k + 1) (acc ++ [x]) (.sh (nI k)) q6 (by omega) (by simp only [List.length_append, List.length_cons, List.length_nil]; omega) (fun y hy => by
      rcases List.mem_append.mp hy with e | e
      · exact ha y e
      · rw [List.mem_singleton.mp e]; exact hx)
    refine ⟨xs, p5, p6, i1, by simp only [List.length_append, List.length_cons, List.length_nil] at i2; omega, ?_⟩
    rw [List.range'_succ, List.map_cons, for_cons]
    show lpO _ (B1__law_contract [S, L, .sh (.lst (ms.map D.int)), .sh (.lst (ts.map D.int)), .ow (.lst (ctr acc)), .sh (nI k), o6, .no]) = _
    rw [hb, lp_next, i3]
theorem contract_eq (ns : List Int) (len : Nat) (hl : len ≤ 6) : ∃ xs : List Lim, (∀ x ∈ xs, limOk x = true) ∧ xs.length = len ∧ m__law_contract [.scr ns, nI len] = .ok (.ow (ctr xs)) := by
  obtain ⟨c1, h1⟩ := cell_eq ns 1
  obtain ⟨c2, h2⟩ := cell_eq ns 2
  obtain ⟨ms, dm, em⟩ := draw c1 len 15 (by omega) (by decide) (by decide)
  obtain ⟨ts, dt, et⟩ := draw c2 len 31 (by omega) (by decide) (by decide)
  obtain ⟨xs, p5, p6, i1, i2, i3⟩ := contract_loop (S := .sh (.scr ns)) (L := .sh (nI len)) dm dt len 0 [] .no .no (by omega) (by simp only [List.length_nil]; omega) (fun x hx => by cases hx)
  have rg : rng1 [nI len] = .ok ((List.range' 0 len).map nI) := by rw [rng1_nat _ (by omega), List.range_eq_range']
  have h1' : m__law_cell [.scr ns, .int 1] = _ := h1
  have h2' : m__law_cell [.scr ns, .int 2] = _ := h2
  simp only [List.map_nil] at i3
  refine ⟨xs, i1, by simpa using i2, ?_⟩
  refine go__law_contract (o := .ret (.ow (ctr xs))) ?_ rfl
  unfold b__law_contract
  (repeat (exists h1', h2', em, et, rg, i3))
end K55

set_option maxRecDepth 100000
set_option maxHeartbeats 1000000
namespace K55
open PySem PL
theorem in_mem (k : Nat) (ms : List Nat) : inD (nI k) (memD ms) = .ok (.bl (decide (k ∈ ms))) := by
  show gd (flD (nI k) = true ∧ (ms.map nI).all flD = true) (Res.ok (D.bl ((ms.map nI).any fun x => eqv x (nI k)))) = _
  have h : (ms.map nI).all flD = true := List.all_eq_true.mpr fun d hd => by obtain ⟨m, _, rfl⟩ := List.mem_map.mp hd; rfl
  rw [gd_pos ⟨rfl, h⟩, List.any_map]
  refine congrArg (fun b => Res.ok (D.bl b)) ?_
  have e : ∀ m : Nat, ((fun x => eqv x (nI k)) ∘ nI) m = decide (m = k) := fun m => by
    show ((m : Int) == (k : Int)) = _
    rw [Bool.beq_eq_decide_eq]
    exact decide_eq_decide.mpr (by omega)
  rw [Bool.eq_iff_iff]
  simp only [List.any_eq_true, decide_eq_true_eq]
  exact ⟨fun ⟨m, hm, h⟩ => by rw [e] at h; rw [← of_decide_eq_true h]; exact hm, fun h => ⟨k, h, by rw [e]; exact decide_eq_true rfl⟩⟩
theorem tot_loop {C L4 : Sl} {ms cs : List Nat} {t : Nat} : ∀ (n p tot : Nat) (o : Sl), p + n ≤ cs.length → ∃ o', forL (gN 4) B1__law_allows ((List.range' p n).map nI) [C, .sh (popD cs), .sh (limD (ms, t)), .sh (nI tot), o] = .next [C, .sh (popD cs), .sh (limD (ms, t)), .sh (nI (tot + (((List.range' p n).filter fun k => decide (k ∈ ms)).map fun k => cs.getD k 0).sum)), o']
  | 0, p, tot, o, _ => ⟨o, rfl⟩
  | n + 1, p, tot, o, h => by
    have im := in_mem p ms
    have ix := ix_pop cs p (by omega)
    rw [List.range'_succ, List.map_cons, for_cons]
    show ∃ o', lpO _ (B1__law_allows [C, .sh (popD cs), .sh (limD (ms, t)), .sh (nI tot), .sh (nI p)]) = _
    by_cases c : p ∈ ms
    · obtain ⟨o', ih⟩ := tot_loop (C := C) (L4 := L4) (ms := ms) (cs := cs) (t := t) n (p + 1) (tot + cs.getD p 0) (.sh (nI p)) (by omega)
      have hb : B1__law_allows [C, .sh (popD cs), .sh (limD (ms, t)), .sh (nI tot), .sh (nI p)] = .next [C, .sh (popD cs), .sh (limD (ms, t)), .sh (nI (tot + cs.getD p 0)), .sh (nI p)] := by
        unfold B1__law_allows
        (repeat (exists im, ix))
      refine ⟨o', ?_⟩
      rw [hb, lp_next, ih, List.filter_cons_of_pos (by simpa using c), List.map_cons, List.sum_cons, Nat.add_assoc]
    · obtain ⟨o', ih⟩ := tot_loop (C := C) (L4 := L4) (ms := ms) (cs := cs) (t := t) n (p + 1) tot (.sh (nI p)) (by omega)
      have hb : B1__law_allows [C, .sh (popD cs), .sh (limD (ms, t)), .sh (nI tot), .sh (nI p)] = .next [C, .sh (popD cs), .sh (limD (ms, t)), .sh (nI tot), .sh (nI p)] := by
        unfold B1__law_allows
        (repeat (exists im, ix))
      refine ⟨o', ?_⟩
      rw [hb, lp_next, ih, List.filter_cons_of_neg (by simpa using c)]
theorem lal_turn {C o3 o4 : Sl} {x : Lim} {cs : List Nat} (hx : limOk x = true) (hl : cs.length ≤ 1000) : ∃ p3 p4, B2__law_allows [C, .sh (popD cs), .sh (limD x), o3, o4] = if decide (sumAt x.1 cs ≤ x.2) = true then .next [C, .sh (popD cs), .sh (limD x), p3, p4] else .ret (.sh (.bl false)) := by
  obtain ⟨ms, t⟩ := x
  obtain ⟨o', lp⟩ := tot_loop (C := C) (L4 := o4) (ms := ms) (cs := cs) (t := t) cs.length 0 0 o4 (by omega)
  have hs : 0 + (((List.range' 0 cs.length).filter fun k => decide (k ∈ ms)).map fun k => cs.getD k 0).sum = sumAt ms cs := by
    rw [asc_filter _ _ _ (lim_asc hx)]
    unfold sumAt
    simp only [Nat.zero_add]
  rw [hs] at lp
  have len : lenL [popD cs] = .ok (nI cs.length) := by
    show Res.ok (D.int ((cs.map nI).length : Nat)) = _
    rw [List.length_map]
  have rg : rng1 [nI cs.length] = .ok ((List.range' 0 cs.length).map nI) := by rw [rng1_nat _ (by omega), List.range_eq_range']
  refine ⟨.sh (nI (sumAt ms cs)), o', ?_⟩
  have lp' : forL (gN 4) B1__law_allows ((List.range' 0 cs.length).map nI) [C, .sh (popD cs), .sh (limD (ms, t)), .sh (.int 0), o4] = _ := lp
  by_cases c : sumAt ms cs ≤ t
  · rw [decide_eq_true c, if_pos rfl]
    unfold B2__law_allows
    (repeat (exists len, rg, lp'))
  · rw [decide_eq_false c, if_neg (by decide)]
    unfold B2__law_allows
    (repeat (exists len, rg, lp'))
theorem lal_loop {C : Sl} {cs : List Nat} (hl : cs.length ≤ 1000) : ∀ (xs : List Lim) (o2 o3 o4 : Sl), (∀ x ∈ xs, limOk x = true) → ∃ p2 p3 p4, forL (gN 2) B2__law_allows (ctr xs) [C, .sh (popD cs), o2, o3, o4] = if allowB xs cs = true then .next [C, .sh (popD cs), p2, p3, p4] else .ret (.sh (.bl false))
  | [], o2, o3, o4, _ => ⟨o2, o3, o4, rfl⟩
  | x :: xs, o2, o3, o4, h => by
    obtain ⟨q3, q4, hb⟩ := lal_turn (C := C) (o3 := o3) (o4 := o4) (cs := cs) (h x List.mem_cons_self) hl
    obtain ⟨p2, p3, p4, ih⟩ := lal_loop (C := C) hl xs (.sh (limD x)) q3 q4 fun y hy => h y (List.mem_cons_of_mem _ hy)
    refine ⟨p2, p3, p4, ?_⟩
    show forL (gN 2) B2__law_allows (limD x :: ctr xs) _ = _
    rw [for_cons]
    show lpO _ (B2__law_allows [C, .sh (popD cs), .sh (limD x), o3, o4]) = _
    rw [hb]
    unfold allowB
    rw [List.all_cons]
    by_cases c : sumAt x.1 cs ≤ x.2
    · rw [decide_eq_true c, if_pos rfl, lp_next, Bool.true_and]; exact ih
    · rw [decide_eq_false c, if_neg (by decide), lp_ret, Bool.false_and, if_neg (by decide)]
theorem law_allows {xs : List Lim} {cs : List Nat} (h : ∀ x ∈ xs, limOk x = true) (hl : cs.length ≤ 1000) : m__law_allows [.lst (ctr xs), popD cs] = bv (allowB xs cs) := by
  obtain ⟨p2, p3, p4, lp⟩ := lal_loop (C := .sh (.lst (ctr xs))) hl xs .no .no .no h
  refine go__law_allows (o := .ret (.sh (.bl (allowB xs cs)))) ?_ rfl
  unfold b__law_allows
  cases c : allowB xs cs with
  | true => rw [c, if_pos rfl] at lp; (repeat (exists lp))
  | false => rw [c, if_neg (by decide)] at lp; (repeat (exists lp))
theorem law_counts {xs : List Lim} {cs : List Nat} (h : ∀ x ∈ xs, limOk x = true) (hl : xs.length ≤ 6) (h1 : 1 ≤ cs.length) (h2 : cs.length ≤ 4) : m__law_counts [.lst (ctr xs), popD cs] = yes := by
  have tk : m__law_told [.int 2, .lst (ctr xs), popD cs] = .ok (.sh (.tup [.str "read", .bl (allowB xs cs)])) := told_ok (w := 2) (by decide) (allows_ok h hl h1 h2)
  have la := law_allows (cs := cs) h (by omega)
  obtain ⟨c, d⟩ := pl_pair (s := "read") (d := .bl (allowB xs cs)) (n := 0) (by decide +kernel) rfl (Nat.le_refl 0)
  have s1 := same_refl 6 _ c (by omega)
  obtain ⟨a, b⟩ := pl_ctr h (by omega)
  have s2 := same_refl 6 _ a (by omega)
  refine go__law_counts (o := .ret (.sh (.bl true))) ?_ rfl
  unfold b__law_counts
  (repeat (exists tk, la, s1, s2))
end K55

set_option maxRecDepth 100000
set_option maxHeartbeats 1000000
namespace K55
open PySem PL
theorem cut_ab (xs : List D) (a b : Nat) (h : a ≤ b) (hb : b ≤ xs.length) : cutG xs (some (a : Int)) (some (b : Int)) = (xs.drop a).take (b - a) := by
  unfold cutG
  rw [HT.sIx_nat, HT.sIx_nat, Nat.min_eq_left hb, Nat.min_eq_left (by omega)]
theorem sl_take (L : List Nat) (i : Int) (n : Nat) (h : i = (n : Int)) : sliceD (.lst (L.map nI)) none (some i) = .ok (.lst ((L.take n).map nI)) := by
  show Res.ok (D.lst (cutG (L.map nI) none (some i))) = _
  rw [h, cut_to, List.map_take]
theorem set_nI (L : List Nat) (m : Nat) (i : Int) (h : 0 ≤ i) : (L.map nI).set m (.int i) = (L.set m i.toNat).map nI := by
  rw [List.map_set]
  congr 1
  show D.int i = D.int ((i.toNat : Nat) : Int)
  rw [Int.toNat_of_nonneg h]
theorem put4 (L : List Nat) (m : Nat) (i : Int) (h : 0 ≤ i) (hm : m < L.length) : putAt (L.map nI) (.int i) (nI m) = .ok ((L.set m i.toNat).map nI) :=
  j_put (j := m) (ixN_of rfl (by rw [List.length_map]; exact hm)) (set_nI L m i h)
theorem aug4 {i m : Nat} {f g : En → Res D} {ρ : En} {L : List Nat} {v : Int} (h : ρ[i]? = some (.ow (.lst (L.map nI)))) (hf : f ρ = .ok (nI m)) (hm : m < L.length) (hg : g ρ = .ok (.int v)) (hv : 0 ≤ v) : ∃ L' : List Nat, L'.length = L.length ∧ sPutAug i (fun x y => x + y) f g ρ = .next (ρ.set i (.ow (.lst (L'.map nI)))) := by
  refine ⟨L.set m (((L[m] : Nat) : Int) + v).toNat, List.length_set, ?_⟩
  refine u_putAug (n := (m : Int)) (x := ((L[m] : Nat) : Int)) (y := v) (j := m) h hf (ixN_of rfl (by rw [List.length_map]; exact hm)) ?_ hg ?_
  · rw [List.getElem?_map, List.getElem?_eq_getElem hm]; rfl
  · rw [set_nI _ _ _ (by omega)]
theorem lim_ix {x : Lim} (h : limOk x = true) : (∃ m, m < 4 ∧ ixD (memD x.1) (.int 0) = .ok (nI m)) ∧ (∃ m, m < 4 ∧ ixD (memD x.1) (.int (-1)) = .ok (nI m)) ∧ ∀ j : Nat, j < x.1.length → ∃ m, m < 4 ∧ ixD (memD x.1) (nI j) = .ok (nI m) := by
  obtain ⟨h1, h2, h3, h4⟩ := lim_facts h
  have g : ∀ j : Nat, j < x.1.length → ∃ m, m < 4 ∧ ixD (memD x.1) (nI j) = .ok (nI m) := fun j hj => ⟨x.1[j], h1 _ (List.getElem_mem hj), by rw [ix_tup _ _ (by rw [List.length_map]; exact hj), List.getElem_map]⟩
  refine ⟨g 0 (List.length_pos_iff.mpr h4), ?_, g⟩
  refine ⟨x.1.getLast h4, h1 _ (List.getLast_mem h4), ?_⟩
  have e : x.1.map nI = (x.1.dropLast).map nI ++ [nI (x.1.getLast h4)] := by
    have := congrArg (List.map nI) (List.dropLast_concat_getLast h4)
    rw [List.map_append] at this
    exact this.symm
  refine j_ixT ?_
  rw [e, atI_last]
theorem pop_turn {A : Sl} {xs : List Int} {lims : List Lim} {x : Lim} {k : Nat} {o4 o6 o7 : Sl} (hl : ∀ x ∈ lims, limOk x = true) (hn : lims.length ≤ 6) (hd : Draws 24 5040 xs) (hk : k < 6) (hx : limOk x = true) :
    ∃ p6, B1__law_populations [.sh (.lst (ctr lims)), A, .sh (.lst (xs.map D.int)), .sh (nI k), o4, .sh (limD x), o6, o7] = .next [.sh (.lst (ctr lims)), A, .sh (.lst (xs.map D.int)), .sh (nI k), o4, .sh (limD x), p6, o7] := by
  obtain ⟨x0, e0, a0, b0⟩ := draw_get hd (k := k) (by omega)
  obtain ⟨x1, e1, a1, b1⟩ := draw_get hd (k := k / 2) (by omega)
  rw [show ((k / 2 : Nat) : Int) = (k : Int) / 2 from by omega] at e1
  obtain ⟨⟨m, hm, im⟩, ⟨q, hq, iq⟩, ij⟩ := lim_ix hx
  obtain ⟨f1, f2, f3, f4⟩ := lim_facts hx
  have len : lenL [memD x.1] = .ok (nI x.1.length) := by
    show Res.ok (D.int ((x.1.map nI).length : Nat)) = _
    rw [List.length_map]
  obtain ⟨j, hj, mj⟩ := mod_len (x := x0) (List.length_pos_iff.mpr f4)
  obtain ⟨r, hr, ir⟩ := ij j hj
  let L0 : List Nat := [0, 0, 0, 0]
  have p1 : putAt [.int 0, .int 0, .int 0, .int 0] (.int ((x.2 : Int) / 2)) (nI m) = .ok ((L0.set m ((x.2 : Int) / 2).toNat).map nI) := put4 L0 m _ (by omega) hm
  have l1 : (L0.set m ((x.2 : Int) / 2).toNat).length = 4 := List.length_set
  generalize L0.set m ((x.2 : Int) / 2).toNat = L1 at *
  obtain ⟨L2, l2, s2⟩ := aug4 (i := 6) (m := q) (f := PL.bin ixD (PL.bin ixD (eVar 5) (eC (.int 0))) (una negD (eC (.int 1)))) (g := PL.bin subD (PL.bin ixD (eVar 5) (eC (.int 1))) (PL.bin fdivD (PL.bin ixD (eVar 5) (eC (.int 1))) (eC (.int 2)))) (ρ := [.sh (.lst (ctr lims)), A, .sh (.lst (xs.map D.int)), .sh (nI k), o4, .sh (limD x), .ow (.lst (L1.map nI)), o7]) (L := L1) (v := (x.2 : Int) - (x.2 : Int) / 2) rfl (by (repeat (exists iq))) (by omega) (by (repeat (exists trivial))) (by omega)
  have s2' : sPutAug 6 (fun x y => x + y) (PL.bin ixD (PL.bin ixD (eVar 5) (eC (.int 0))) (una negD (eC (.int 1)))) (PL.bin subD (PL.bin ixD (eVar 5) (eC (.int 1))) (PL.bin fdivD (PL.bin ixD (eVar 5) (eC (.int 1))) (eC (.int 2)))) [.sh (.lst (ctr lims)), A, .sh (.lst (xs.map D.int)), .sh (nI k), o4, .sh (limD x), .ow (.lst (L1.map nI)), o7] = .next [.sh (.lst (ctr lims)), A, .sh (.lst (xs.map D.int)), .sh (nI k), o4, .sh (limD x), .ow (.lst (L2.map nI)), o7] := s2
  obtain ⟨L3, l3, s3⟩ := aug4 (i := 6) (m := r) (f := PL.bin ixD (PL.bin ixD (eVar 5) (eC (.int 0))) (PL.bin modD (app intL (aCons (PL.bin ixD (eVar 2) (eVar 3)) aNil)) (app lenL (aCons (PL.bin ixD (eVar 5) (eC (.int 0))) aNil)))) (g := eVar 3) (ρ := [.sh (.lst (ctr lims)), A, .sh (.lst (xs.map D.int)), .sh (nI k), o4, .sh (limD x), .ow (.lst (L2.map nI)), o7]) (L := L2) (v := k) rfl (by (repeat (exists e0, len, mj, ir))) (by omega) rfl (by omega)
  have s3' : sPutAug 6 (fun x y => x + y) (PL.bin ixD (PL.bin ixD (eVar 5) (eC (.int 0))) (PL.bin modD (app intL (aCons (PL.bin ixD (eVar 2) (eVar 3)) aNil)) (app lenL (aCons (PL.bin ixD (eVar 5) (eC (.int 0))) aNil)))) (eVar 3) [.sh (.lst (ctr lims)), A, .sh (.lst (xs.map D.int)), .sh (nI k), o4, .sh (limD x), .ow (.lst (L2.map nI)), o7] = .next [.sh (.lst (ctr lims)), A, .sh (.lst (xs.map D.int)), .sh (nI k), o4, .sh (limD x), .ow (.lst (L3.map nI)), o7] := s3
  have fin : ∀ L : List Nat, L.length = 4 → sIf (borT 6 (orB (notB (tst truD (callE m__law_counts (aCons (eVar 0) (aCons (app tupleL (aCons (eVar 6) aNil)) aNil))))) (notB (tst truD (callE m__law_counts (aCons (eVar 0) (aCons (app tupleL (aCons (sliceE (eVar 6) pN (pS (PL.bin addD (eC (.int 1)) (PL.bin modD (eVar 3) (eC (.int 4)))))) aNil)) aNil))))))) (sRet (eC (.bl false))) sNext [.sh (.lst (ctr lims)), A, .sh (.lst (xs.map D.int)), .sh (nI k), o4, .sh (limD x), .ow (.lst (L.map nI)), o7] = .next [.sh (.lst (ctr lims)), A, .sh (.lst (xs.map D.int)), .sh (nI k), o4, .sh (limD x), .ow (.lst (L.map nI)), o7] := fun L hL => by
    have c1 := law_counts (cs := L) hl hn (by omega) (by omega)
    have c2 := law_counts (cs := L.take (1 + k % 4)) hl hn (by rw [List.length_take]; omega) (by rw [List.length_take]; omega)
    have sl := sl_take L (1 + (k : Int) % 4) (1 + k % 4) (by omega)
    (repeat (exists c1, c2, sl))
  have lst4 : lstD [.int 0, .int 0, .int 0, .int 0] = .ok [.int 0, .int 0, .int 0, .int 0] := lst_ok _ (by decide)
  have hh : x1 % 2 = 0 ∨ ¬ x1 % 2 = 0 := by omega
  rcases hh with c | c
  · have f := fin L3 (by omega)
    exact ⟨_, by unfold B1__law_populations; (repeat (exists lst4, im, p1, s2', e1, s3', f))⟩
  · have f := fin L2 (by omega)
    exact ⟨_, by unfold B1__law_populations; (repeat (exists lst4, im, p1, s2', e1, f))⟩
end K55

set_option maxRecDepth 100000
set_option maxHeartbeats 1000000
namespace K55
open PySem PL
theorem scale_ix (i : Int) (h0 : 0 ≤ i) (h1 : i < 3) : ∃ m : Int, 0 < m ∧ ixD (.lst [.int 3, .int 9, .int 40]) (.int i) = .ok (.int m) := by
  rcases (by omega : i = 0 ∨ i = 1 ∨ i = 2) with e | e | e <;> subst e
  · exact ⟨3, by decide, rfl⟩
  · exact ⟨9, by decide, rfl⟩
  · exact ⟨40, by decide, rfl⟩
theorem nats_of (ys : List Int) (h : ∀ y ∈ ys, 0 ≤ y) : ys.map D.int = (ys.map Int.toNat).map nI := by
  rw [List.map_map]
  refine List.map_congr_left fun y hy => ?_
  show D.int y = D.int ((y.toNat : Nat) : Int)
  rw [Int.toNat_of_nonneg (h y hy)]
theorem lims_loop {A N : Sl} {xs : List Int} {lims : List Lim} {k : Nat} {o4 o7 : Sl} (hl : ∀ x ∈ lims, limOk x = true) (hn : lims.length ≤ 6) (hd : Draws 24 5040 xs) (hk : k < 6) : ∀ (ys : List Lim) (o5 o6 : Sl), (∀ x ∈ ys, limOk x = true) → ∃ p5 p6, forL (gN 5) B1__law_populations (ctr ys) [.sh (.lst (ctr lims)), A, .sh (.lst (xs.map D.int)), .sh (nI k), o4, o5, o6, o7] = .next [.sh (.lst (ctr lims)), A, .sh (.lst (xs.map D.int)), .sh (nI k), o4, p5, p6, o7]
  | [], o5, o6, _ => ⟨o5, o6, rfl⟩
  | y :: ys, o5, o6, h => by
    obtain ⟨q6, hb⟩ := pop_turn (A := A) (o4 := o4) (o6 := o6) (o7 := o7) hl hn hd hk (h y List.mem_cons_self)
    obtain ⟨p5, p6, ih⟩ := lims_loop (A := A) (N := N) (o4 := o4) (o7 := o7) hl hn hd hk ys (.sh (limD y)) q6 fun z hz => h z (List.mem_cons_of_mem _ hz)
    refine ⟨p5, p6, ?_⟩
    show forL (gN 5) B1__law_populations (limD y :: ctr ys) _ = _
    rw [for_cons]
    show lpO _ (B1__law_populations [.sh (.lst (ctr lims)), A, .sh (.lst (xs.map D.int)), .sh (nI k), o4, .sh (limD y), o6, o7]) = _
    rw [hb, lp_next, ih]
theorem k_turn {A : Sl} {xs : List Int} {lims : List Lim} {k : Nat} {o4 o5 o6 : Sl} (hl : ∀ x ∈ lims, limOk x = true) (hn : lims.length ≤ 6) (hd : Draws 24 5040 xs) (hk : k < 6) :
    ∃ p4 p5 p6, B2__law_populations [.sh (.lst (ctr lims)), A, .sh (.lst (xs.map D.int)), .sh (nI k), o4, o5, o6, .no] = .next [.sh (.lst (ctr lims)), A, .sh (.lst (xs.map D.int)), .sh (nI k), p4, p5, p6, .no] := by
  obtain ⟨x0, e0, a0, b0⟩ := draw_get hd (k := k) (by omega)
  obtain ⟨m, hm, em⟩ := scale_ix (x0 / 5 % 3) (by omega) (by omega)
  have hxl : (xs.map D.int).length = 24 := by rw [List.length_map]; exact hd.1
  have hsl : sliceD (.lst (xs.map D.int)) (some (4 * (k : Int))) (some (4 * (k : Int) + 4)) = .ok (.lst (((xs.drop (4 * k)).take 4).map D.int)) := by
    show Res.ok (D.lst (cutG (xs.map D.int) (some (4 * (k : Int))) (some (4 * (k : Int) + 4)))) = _
    have := cut_ab (xs.map D.int) (4 * k) (4 * k + 4) (by omega) (by omega)
    rw [show ((4 * k : Nat) : Int) = 4 * (k : Int) from by omega, show ((4 * k + 4 : Nat) : Int) = 4 * (k : Int) + 4 from by omega] at this
    rw [this, ← List.map_drop, ← List.map_take, show 4 * k + 4 - 4 * k = 4 from by omega]
  have hl4 : ((xs.drop (4 * k)).take 4).length = 4 := by rw [List.length_take, List.length_drop, hd.1]; omega
  generalize (xs.drop (4 * k)).take 4 = ys at *
  have lc : lcE (itE (sliceE (eVar 2) (pS (PL.bin mulD (eC (.int 4)) (eVar 3))) (pS (PL.bin addD (PL.bin mulD (eC (.int 4)) (eVar 3)) (eC (.int 4)))))) 7 yesB E1__law_populations [.sh (.lst (ctr lims)), A, .sh (.lst (xs.map D.int)), .sh (nI k), o4, o5, o6, .no] = .ok (ys.map fun y => .int (y % m)) := by
    refine lce_map (enc := D.int) (by (repeat (exists hsl))) (by omega) fun y hy => ?_
    show E1__law_populations [.sh (.lst (ctr lims)), A, .sh (.lst (xs.map D.int)), .sh (nI k), o4, o5, o6, .sh (.int y)] = _
    unfold E1__law_populations
    (repeat (exists e0, em))
  have en : (ys.map fun y => D.int (y % m)) = ((ys.map fun y => y % m).map Int.toNat).map nI := by
    rw [← nats_of _ (fun y hy => by obtain ⟨z, _, rfl⟩ := List.mem_map.mp hy; exact Int.emod_nonneg _ (by omega)), List.map_map]
    rfl
  rw [en] at lc
  have hcl : ((ys.map fun y => y % m).map Int.toNat).length = 4 := by rw [List.length_map, List.length_map, hl4]
  generalize (ys.map fun y => y % m).map Int.toNat = cs at *
  have sl := sl_take cs (1 + x0 % 4) (1 + x0 % 4).toNat (by omega)
  have c1 := law_counts (cs := cs.take (1 + x0 % 4).toNat) hl hn (by rw [List.length_take]; omega) (by rw [List.length_take]; omega)
  obtain ⟨p5, p6, lp⟩ := lims_loop (A := A) (N := .no) (o4 := .sh (.lst ((cs.take (1 + x0 % 4).toNat).map nI))) (o7 := .no) hl hn hd hk lims o5 o6 hl
  exact ⟨_, _, _, by unfold B2__law_populations; (repeat (exists lc, e0, sl, c1, lp))⟩
theorem k_loop {A : Sl} {xs : List Int} {lims : List Lim} (hl : ∀ x ∈ lims, limOk x = true) (hn : lims.length ≤ 6) (hd : Draws 24 5040 xs) : ∀ (ks : List Nat) (o3 o4 o5 o6 : Sl), (∀ k ∈ ks, k < 6) → ∃ p3 p4 p5 p6, forL (gN 3) B2__law_populations (ks.map nI) [.sh (.lst (ctr lims)), A, .sh (.lst (xs.map D.int)), o3, o4, o5, o6, .no] = .next [.sh (.lst (ctr lims)), A, .sh (.lst (xs.map D.int)), p3, p4, p5, p6, .no]
  | [], o3, o4, o5, o6, _ => ⟨o3, o4, o5, o6, rfl⟩
  | k :: ks, o3, o4, o5, o6, h => by
    obtain ⟨q4, q5, q6, hb⟩ := k_turn (A := A) (o4 := o4) (o5 := o5) (o6 := o6) hl hn hd (h k List.mem_cons_self)
    obtain ⟨p3, p4, p5, p6, ih⟩ := k_loop (A := A) hl hn hd ks (.sh (nI k)) q4 q5 q6 fun z hz => h z (List.mem_cons_of_mem _ hz)
    refine ⟨p3, p4, p5, p6, ?_⟩
    rw [List.map_cons, for_cons]
    show lpO _ (B2__law_populations [.sh (.lst (ctr lims)), A, .sh (.lst (xs.map D.int)), .sh (nI k), o4, o5, o6, .no]) = _
    rw [hb, lp_next, ih]
theorem pow30 : powD (.int 10) (.int 30) = .ok (.int 1000000000000000000000000000000) := gd_pos (by decide)
theorem populations {lims : List Lim} (cell : Int) (hl : ∀ x ∈ lims, limOk x = true) (hn : lims.length ≤ 6) : m__law_populations [.lst (ctr lims), .int cell] = yes := by
  obtain ⟨xs, hd, ex⟩ := draw cell 24 5040 (by decide) (by decide) (by decide)
  have ex' : m__law_row [.int cell, .int 24, .int 5040] = _ := ex
  obtain ⟨p3, p4, p5, p6, lp⟩ := k_loop (A := .sh (.int cell)) hl hn hd [0, 1, 2, 3, 4, 5] .no .no .no .no (by decide)
  have r6 : rng1 [.int 6] = .ok ([0, 1, 2, 3, 4, 5].map nI) := rng1_nat 6 (by decide)
  have c1 : m__law_counts [.lst (ctr lims), .tup [.int 0, .int 0, .int 1000000000000000000000000000000, .int 0]] = yes := law_counts (cs := [0, 0, 1000000000000000000000000000000, 0]) hl hn (by decide) (by decide)
  have c2 : m__law_counts [.lst (ctr lims), .tup [.int 0]] = yes := law_counts (cs := [0]) hl hn (by decide) (by decide)
  have c3 : m__law_counts [.lst (ctr lims), .tup [.int 0, .int 31]] = yes := law_counts (cs := [0, 31]) hl hn (by decide) (by decide)
  refine go__law_populations (o := .ret (.sh (.bl true))) ?_ rfl
  unfold b__law_populations
  (repeat (exists ex', r6, lp, pow30, c1, c2, c3))
end K55

set_option maxRecDepth 100000
set_option maxHeartbeats 1000000
namespace K55
open PySem PL
def N1 : List D := [.tup [.tup [.int 0, .int 1], .int 31], .tup [.tup [.int 0], .int (-1)], .tup [.tup [.int 0], .bl true], .tup [.tup [.int 1], .non], .tup [.tup [], .int 5], .tup [.tup [.int 1, .int 0], .int 5], .tup [.tup [.int 1, .int 1], .int 5], .tup [.tup [.int 4], .int 5], .tup [.tup [.int (-1), .int 2], .int 5]]
def N2 : List D := [.tup [.tup [.bl false], .int 5], .tup [.lst [.int 0, .int 1], .int 5], .lst [.tup [.int 0, .int 1], .int 5], .tup [.tup [.int 0, .int 1]], .tup [.tup [.int 0, .int 1], .int 5, .int 0], .tup [.int 5, .tup [.int 0, .int 1]], .non, .tup [.tup [.int 0, .int 1, .int 2, .int 3, .int 4], .int 5]]
theorem near_no : ∀ v ∈ N1 ++ N2, m_is_limit [v, .int 4] = no := by
  intro v hv
  simp only [N1, N2, List.cons_append, List.nil_append, List.mem_cons, List.not_mem_nil, or_false] at hv
  rcases hv with e | e | e | e | e | e | e | e | e | e | e | e | e | e | e | e | e <;> subst e <;> rfl
abbrev limA : D := .tup [.tup [.int 0], .int 1]
theorem sl_to (xs : List D) (n : Nat) : sliceD (.lst xs) none (some (n : Int)) = .ok (.lst (xs.take n)) := by
  show Res.ok (D.lst (cutG xs none (some (n : Int)))) = _
  rw [cut_to]
theorem sl5 (xs : List D) : cutO (.lst xs) none (some 5) = .ok (xs.take 5) := by
  show Res.ok (cutG xs none (some ((5 : Nat) : Int))) = _
  rw [cut_to]
theorem sl6 (xs : List D) : sliceD (.lst xs) none (some 6) = .ok (.lst (xs.take 6)) := sl_to xs 6
theorem same_vc (s : Str) (h : PyData.strOk s = true) : m__law_same 6 [.tup [.str "value", .str s], .tup [.str "value", .str s]] = yes := by
  obtain ⟨c, d⟩ := pl_pair (s := "value") (d := .str s) (n := 0) (by decide +kernel) h (Nat.le_refl 0)
  exact same_refl 6 _ c (by omega)
theorem same_many : m__law_same 6 [.tup [.str "many", .int 6], .tup [.str "many", .int 6]] = yes := same_refl 6 _ (by decide +kernel) (by decide)
theorem told_badC {w : Nat} {c s : D} {e : Exc} (hw : w = 1 ∨ w = 2) (he : isMV e) (h : m_need_contract [c, .int 4] = .exc e) : m__law_told [nI w, c, s] = .ok (.sh (tell e)) := by
  rcases hw with rfl | rfl
  · exact told_exc (by decide) he (format_badC h)
  · exact told_exc (by decide) he (allows_badC h)
theorem ref_turn1 {lims : List Lim} {p : Nat} {v : D} {c N L W K o8 : Sl} (hl : ∀ x ∈ lims, limOk x = true) (hn : lims.length ≤ 6) (hp : p ≤ lims.length) (hp5 : p ≤ 5) (hv : m_is_limit [v, .int 4] = no) :
    ∃ p8, B1__law_refused [.sh (.lst (ctr lims)), .sh (nI p), c, N, .sh v, L, W, K, o8] = .next [.sh (.lst (ctr lims)), .sh (nI p), c, N, .sh v, L, W, K, p8] := by
  have s5 := sl5 (ctr lims)
  have ins : insAt ((ctr lims).take 5) [nI p, v] = .ok (((ctr lims).take 5).take p ++ [v] ++ ((ctr lims).take 5).drop p) := by
    show gd (((ctr lims).take 5).length < sizeLine ∧ 0 ≤ (p : Int) ∧ (p : Int) < 2 ^ 63) (Res.ok (((ctr lims).take 5).take (p : Int).toNat ++ [v] ++ ((ctr lims).take 5).drop (p : Int).toNat)) = _
    rw [gd_pos ⟨sz' _ (by rw [List.length_take]; omega), by omega, by omega⟩, Int.toNat_natCast]
  have e : ((ctr lims).take 5).take p ++ [v] ++ ((ctr lims).take 5).drop p = ctr ((lims.take 5).take p) ++ v :: ((ctr lims).take 5).drop p := by
    rw [List.append_assoc]
    show _ = List.map limD _ ++ _
    rw [List.map_take, List.map_take]
    rfl
  have ok : ∀ x ∈ (lims.take 5).take p, limOk x = true := fun x hx => hl x (List.mem_of_mem_take (List.mem_of_mem_take hx))
  have hz : ((lims.take 5).take p).length + (((ctr lims).take 5).drop p).length < 6 := by
    rw [List.length_take, List.length_take, List.length_drop, List.length_take, List.length_map]; omega
  rw [e] at ins
  have i1 := is_ctr_bad ok hv hz
  have nb := need_ctr_bad ok hv hz
  generalize ctr ((lims.take 5).take p) ++ v :: ((ctr lims).take 5).drop p = wr at *
  have t1 : m__law_told [.int 1, .lst wr, .non] = .ok (.sh (.tup [.str "value", .str "contract"])) := told_badC (w := 1) (.inl rfl) (e := badC) trivial nb
  have t2 : m__law_told [.int 2, .lst wr, .non] = .ok (.sh (.tup [.str "value", .str "contract"])) := told_badC (w := 2) (.inr rfl) (e := badC) trivial nb
  have sm := same_vc "contract" (by decide +kernel)
  exact ⟨_, by unfold B1__law_refused; (repeat (exists s5, ins, i1, t1, t2, sm))⟩
theorem ref_loop1 {lims : List Lim} {p : Nat} {c N L W K : Sl} (hl : ∀ x ∈ lims, limOk x = true) (hn : lims.length ≤ 6) (hp : p ≤ lims.length) (hp5 : p ≤ 5) : ∀ (vs : List D) (o4 o8 : Sl), (∀ v ∈ vs, m_is_limit [v, .int 4] = no) → ∃ p4 p8, forL (gN 4) B1__law_refused vs [.sh (.lst (ctr lims)), .sh (nI p), c, N, o4, L, W, K, o8] = .next [.sh (.lst (ctr lims)), .sh (nI p), c, N, p4, L, W, K, p8]
  | [], o4, o8, _ => ⟨o4, o8, rfl⟩
  | v :: vs, o4, o8, h => by
    obtain ⟨q8, hb⟩ := ref_turn1 (c := c) (N := N) (L := L) (W := W) (K := K) (o8 := o8) hl hn hp hp5 (h v List.mem_cons_self)
    obtain ⟨p4, p8, ih⟩ := ref_loop1 (c := c) (N := N) (L := L) (W := W) (K := K) hl hn hp hp5 vs (.sh v) q8 fun z hz => h z (List.mem_cons_of_mem _ hz)
    refine ⟨p4, p8, ?_⟩
    rw [for_cons]
    show lpO _ (B1__law_refused [.sh (.lst (ctr lims)), .sh (nI p), c, N, .sh v, L, W, K, o8]) = _
    rw [hb, lp_next, ih]
theorem bad_pops : ∀ v ∈ ([.tup [], .tup [.int 0, .int 0, .int 0, .int 0, .int 0], .lst [.int 0, .int 0], .tup [.int 0, .int (-1)], .tup [.bl true], .tup [.int 0, .non], .non, .tup [.int 0, .str "0"], .int 3] : List D), m_is_population [v] = no := by
  intro v hv
  simp only [List.mem_cons, List.not_mem_nil, or_false] at hv
  rcases hv with e | e | e | e | e | e | e | e | e <;> subst e <;> rfl
theorem refused {lims : List Lim} {p : Nat} {c : Int} (hl : ∀ x ∈ lims, limOk x = true) (hn : lims.length ≤ 6) (hp : p ≤ lims.length) (hp5 : p ≤ 5) : m__law_refused [.lst (ctr lims), nI p, .int c] = yes := by
  let P : Sl := .sh (nI p)
  let NN : D := .lst (N1 ++ N2)
  have hcl : (ctr lims).length = lims.length := List.length_map ..
  have n1 : ∀ ρ, PL.own (appO lstD (aCons (app tupD (aCons (app tupD (aCons (eC (.int 0)) (aCons (eC (.int 1)) aNil))) (aCons (eC (.int 31)) aNil))) (aCons (app tupD (aCons (app tupD (aCons (eC (.int 0)) aNil)) (aCons (una negD (eC (.int 1))) aNil))) (aCons (app tupD (aCons (app tupD (aCons (eC (.int 0)) aNil)) (aCons (eC (.bl true)) aNil))) (aCons (app tupD (aCons (app tupD (aCons (eC (.int 1)) aNil)) (aCons (eC .non) aNil))) (aCons (app tupD (aCons (app tupD aNil) (aCons (eC (.int 5)) aNil))) (aCons (app tupD (aCons (app tupD (aCons (eC (.int 1)) (aCons (eC (.int 0)) aNil))) (aCons (eC (.int 5)) aNil))) (aCons (app tupD (aCons (app tupD (aCons (eC (.int 1)) (aCons (eC (.int 1)) aNil))) (aCons (eC (.int 5)) aNil))) (aCons (app tupD (aCons (app tupD (aCons (eC (.int 4)) aNil)) (aCons (eC (.int 5)) aNil))) (aCons (app tupD (aCons (app tupD (aCons (una negD (eC (.int 1))) (aCons (eC (.int 2)) aNil))) (aCons (eC (.int 5)) aNil))) aNil)))))))))) ρ = .ok (.lst N1) := fun ρ => by unfold N1; (repeat (exists trivial))
  have n2 : ∀ ρ, PL.own (appO lstD (aCons (app tupD (aCons (app tupD (aCons (eC (.bl false)) aNil)) (aCons (eC (.int 5)) aNil))) (aCons (app tupD (aCons (PL.own (appO lstD (aCons (eC (.int 0)) (aCons (eC (.int 1)) aNil)))) (aCons (eC (.int 5)) aNil))) (aCons (PL.own (appO lstD (aCons (app tupD (aCons (eC (.int 0)) (aCons (eC (.int 1)) aNil))) (aCons (eC (.int 5)) aNil)))) (aCons (app tupD (aCons (app tupD (aCons (eC (.int 0)) (aCons (eC (.int 1)) aNil))) aNil)) (aCons (app tupD (aCons (app tupD (aCons (eC (.int 0)) (aCons (eC (.int 1)) aNil))) (aCons (eC (.int 5)) (aCons (eC (.int 0)) aNil)))) (aCons (app tupD (aCons (eC (.int 5)) (aCons (app tupD (aCons (eC (.int 0)) (aCons (eC (.int 1)) aNil))) aNil))) (aCons (eC .non) (aCons (app tupD (aCons (app tupD (aCons (eC (.int 0)) (aCons (eC (.int 1)) (aCons (eC (.int 2)) (aCons (eC (.int 3)) (aCons (eC (.int 4)) aNil)))))) (aCons (eC (.int 5)) aNil))) aNil))))))))) ρ = .ok (.lst N2) := fun ρ => by unfold N2; (repeat (exists trivial))
  have a12 : addD (.lst N1) (.lst N2) = .ok (.lst (N1 ++ N2)) := add_lst _ _ (by decide)
  obtain ⟨p4, p8, lp1⟩ := ref_loop1 (c := .sh (.int c)) (N := .sh (.lst (N1 ++ N2))) (L := .no) (W := .no) (K := .no) hl hn hp hp5 (N1 ++ N2) .no .no near_no
  have m7 : mulD (.lst [.tup [.tup [.int 0], .int 1]]) (.int 7) = .ok (.lst (List.replicate 7 limA)) := by
    have := mul_nat [limA] 7 (by decide) (by decide)
    rw [rep_one] at this
    exact this
  have m6 : mulD (.lst [.tup [.tup [.int 0], .int 1]]) (.int 6) = .ok (.lst (List.replicate 6 limA)) := by
    have := mul_nat [limA] 6 (by decide) (by decide)
    rw [rep_one] at this
    exact this
  obtain ⟨j, hj, mj0⟩ := mod_len (x := c) (n := 17) (by decide)
  have mj : modD (.int c) (.int ((N1 ++ N2).length : Nat)) = .ok (nI j) := mj0
  have ixn : ixD (.lst (N1 ++ N2)) (nI j) = .ok ((N1 ++ N2)[j]'(by show j < 17; exact hj)) := ix_lst _ _ _
  generalize (N1 ++ N2)[j]'(by show j < 17; exact hj) = v at *
  have s6 := sl6 (ctr lims ++ List.replicate 7 limA)
  have hlong : ((ctr lims ++ List.replicate 7 limA).take 6 ++ [v]).length = 7 := by
    simp only [List.length_append, List.length_take, List.length_replicate, List.length_cons, List.length_nil]; omega
  have h6l : ((ctr lims ++ List.replicate 7 limA).take 6).length ≤ 6 := by rw [List.length_take]; omega
  generalize (ctr lims ++ List.replicate 7 limA).take 6 = six at *
  have a3 : addD (.lst six) (.lst [v]) = .ok (.lst (six ++ [v])) := add_lst _ _ (by simp only [List.length_cons, List.length_nil]; omega)
  generalize six ++ [v] = long at *
  have sm := same_vc "contract" (by decide +kernel)
  have sp := same_vc "population" (by decide +kernel)
  have tm : ∀ w : Nat, w = 1 ∨ w = 2 → m__law_told [nI w, .lst long, .non] = .ok (.sh (.tup [.str "many", .int 6])) := fun w hw => told_badC hw (e := .tooMany (.int 6)) trivial (need_ctr_many (by omega))
  have tt : ∀ w : Nat, w = 1 ∨ w = 2 → m__law_told [nI w, .tup (ctr lims), .non] = .ok (.sh (.tup [.str "value", .str "contract"])) := fun w hw => told_badC hw (e := badC) trivial (need_ctr_not rfl)
  have b2 : ∀ (w : Nat) (o4 : Sl), w = 1 ∨ w = 2 → B2__law_refused [.sh (.lst (ctr lims)), .sh (nI p), .sh (.int c), .sh (.lst (N1 ++ N2)), o4, .sh (.lst long), .sh (nI w), .no, p8] = .next [.sh (.lst (ctr lims)), .sh (nI p), .sh (.int c), .sh (.lst (N1 ++ N2)), o4, .sh (.lst long), .sh (nI w), .no, p8] := fun w o4 hw => by
    have e1 := tm w hw
    have e2 := tt w hw
    unfold B2__law_refused
    (repeat (exists e1, e2, sm, same_many))
  have lp2 : forL (gN 6) B2__law_refused [.int 1, .int 2] [.sh (.lst (ctr lims)), .sh (nI p), .sh (.int c), .sh (.lst (N1 ++ N2)), p4, .sh (.lst long), .no, .no, p8] = .next [.sh (.lst (ctr lims)), .sh (nI p), .sh (.int c), .sh (.lst (N1 ++ N2)), p4, .sh (.lst long), .sh (nI 2), .no, p8] := by
    rw [for_cons]
    show lpO _ (B2__law_refused [.sh (.lst (ctr lims)), .sh (nI p), .sh (.int c), .sh (.lst (N1 ++ N2)), p4, .sh (.lst long), .sh (nI 1), .no, p8]) = _
    rw [b2 1 p4 (.inl rfl), lp_next, for_cons]
    show lpO _ (B2__law_refused [.sh (.lst (ctr lims)), .sh (nI p), .sh (.int c), .sh (.lst (N1 ++ N2)), p4, .sh (.lst long), .sh (nI 2), .no, p8]) = _
    rw [b2 2 p4 (.inr rfl), lp_next, for_nil]
  have s6b := sl6 (long ++ [limA])
  have a4 : addD (.lst long) (.lst [limA]) = .ok (.lst (long ++ [limA])) := add_lst _ _ (by simp only [List.length_cons, List.length_nil]; omega)
  have h7l : ((long ++ [limA]).take 6).length = 6 := by rw [List.length_take, List.length_append]; simp only [List.length_cons, List.length_nil]; omega
  generalize (long ++ [limA]).take 6 = six2 at *
  have a5 : addD (.lst six2) (.lst [limA]) = .ok (.lst (six2 ++ [limA])) := add_lst _ _ (by simp only [List.length_cons, List.length_nil]; omega)
  have ic : ∀ v ∈ ([.tup (ctr lims), .lst long, .non, .lst (six2 ++ [limA]), .str "3 0", .int 5] : List D), m_is_contract [v] = no := fun v hv => by
    simp only [List.mem_cons, List.not_mem_nil, or_false] at hv
    rcases hv with e | e | e | e | e | e <;> subst e
    · exact is_ctr_not rfl
    · exact is_ctr_many (by omega)
    · exact is_ctr_not rfl
    · exact is_ctr_many (by rw [List.length_append]; simp only [List.length_cons, List.length_nil]; omega)
    · exact is_ctr_not rfl
    · exact is_ctr_not rfl
  obtain ⟨q4, lp3⟩ := for_all (P := fun o => [.sh (.lst (ctr lims)), .sh (nI p), .sh (.int c), .sh (.lst (N1 ++ N2)), o, .sh (.lst long), .sh (nI 2), .no, p8]) (i := 4) (B := B3__law_refused) (ds := [.tup (ctr lims), .lst long, .non, .lst (six2 ++ [limA]), .str "3 0", .int 5]) (o := p4) (fun _ _ => rfl) (fun d hd => by
    have e := ic d hd
    unfold B3__law_refused
    (repeat (exists e)))
  obtain ⟨q7, lp4⟩ := for_all (P := fun o => [.sh (.lst (ctr lims)), .sh (nI p), .sh (.int c), .sh (.lst (N1 ++ N2)), q4, .sh (.lst long), .sh (nI 2), o, p8]) (i := 7) (B := B4__law_refused) (ds := [.tup [], .tup [.int 0, .int 0, .int 0, .int 0, .int 0], .lst [.int 0, .int 0], .tup [.int 0, .int (-1)], .tup [.bl true], .tup [.int 0, .non], .non, .tup [.int 0, .str "0"], .int 3]) (o := .no) (fun _ _ => rfl) (fun d hd => by
    have e : m__law_told [.int 2, .lst (ctr lims), d] = .ok (.sh (.tup [.str "value", .str "population"])) := told_exc (w := 2) (e := .badValue (.str "population")) (by decide) trivial (allows_badP hl hn (bad_pops d hd))
    unfold B4__law_refused
    (repeat (exists e, sp)))
  have s6c : sliceD (.lst (ctr lims ++ List.replicate 6 limA)) none (some 6) = .ok (.lst (ctr ((lims ++ List.replicate 6 ([0], 1)).take 6))) := by
    rw [sl6]
    refine congrArg (fun x => Res.ok (D.lst x)) ?_
    show _ = List.map limD _
    rw [List.map_take, List.map_append, List.map_replicate]
    rfl
  have icf : m_is_contract [.lst (ctr ((lims ++ List.replicate 6 ([0], 1)).take 6))] = yes := is_ctr (fun x hx => by
    rcases List.mem_append.mp (List.mem_of_mem_take hx) with e | e
    · exact hl x e
    · rw [(List.mem_replicate.mp e).2]; rfl) (by rw [List.length_take]; omega)
  refine go__law_refused (o := .ret (.sh (.bl true))) ?_ rfl
  unfold b__law_refused
  (repeat (exists n1 _, n2 _, a12, lp1, m7, m6, s6, a3, mj, ixn, lp2, s6b, a4, a5, lp3, lp4, s6c, icf))
end K55

set_option maxRecDepth 100000
set_option maxHeartbeats 1000000
namespace K55
open PySem PL
theorem good_numL {lo hi n : Nat} (h1 : lo ≤ n) (h2 : n ≤ hi) : inR lo hi (TL.numL n) = true ∧ vl (TL.numL n) = n := by
  have e : vl (TL.numL n) = n := TL.numL_val n
  refine ⟨?_, e⟩
  unfold inR
  rw [good_num h2, e, decide_eq_true h1]; rfl
theorem rdK_num : ∀ {ms : List Nat} {lo : Nat}, ascT 4 lo ms = true → rdK lo (ms.map TL.numL) = .inr ms
  | [], _, _ => rfl
  | m :: ms, lo, h => by
    unfold ascT at h
    simp only [Bool.and_eq_true, decide_eq_true_eq] at h
    obtain ⟨a, b⟩ := good_numL (lo := lo) (hi := 3) h.1.1 (by omega : m ≤ 3)
    rw [List.map_cons]
    unfold rdK
    rw [if_pos a, b, rdK_num h.2]
theorem line_good {x : Lim} (h : limOk x = true) : ∀ w ∈ TL.numL x.2 :: x.1.map TL.numL, wGood w := fun w hw => by
  obtain ⟨h1, h2, h3, h4⟩ := lim_facts h
  rcases List.mem_cons.mp hw with e | e
  · subst e; exact numL_good _ (by omega)
  · obtain ⟨m, hm, rfl⟩ := List.mem_map.mp e
    exact numL_good _ (by have := h1 m hm; omega)
theorem line_lG {x : Lim} (h : limOk x = true) : lG 5 (lineC x) := ⟨_, by have := (lim_facts h).2.1; simp only [List.length_cons, List.length_map]; omega, line_good h, rfl⟩
theorem rdL_num {x : Lim} (h : limOk x = true) : rdL (words (lineC x)) = .inr x := by
  obtain ⟨h1, h2, h3, h4⟩ := lim_facts h
  unfold lineC
  rw [words_join (by simp) fun w hw => (line_good h w hw).2.1]
  obtain ⟨a, b⟩ := good_numL (lo := 0) (hi := 30) (Nat.zero_le _) h3
  unfold rdL
  simp only
  rw [if_pos a, if_neg (by simpa using h4), rdK_num (lim_asc h), b]
theorem rdAll_num : ∀ {xs : List Lim} {k : Nat}, (∀ x ∈ xs, limOk x = true) → rdAll k (xs.map lineC) = .inr xs
  | [], _, _ => rfl
  | x :: xs, k, h => by
    rw [List.map_cons]
    unfold rdAll
    rw [rdL_num (h x List.mem_cons_self), rdAll_num fun y hy => h y (List.mem_cons_of_mem _ hy)]
theorem text_lines {xs : List Lim} (h : ∀ x ∈ xs, limOk x = true) (hl : xs.length ≤ 6) : ∃ ls : List (List Nat), 0 < ls.length ∧ ls.length ≤ 6 ∧ LS 5 ls ∧ textC xs = TL.joinL [10] ls ∧ (xs ≠ [] → ls = xs.map lineC) ∧ (xs = [] → ls = [[]]) := by
  cases xs with
  | nil => exact ⟨[[]], by simp, by simp, fun l hx => by rw [List.mem_singleton.mp hx]; exact lG_nil _, rfl, fun z => absurd rfl z, fun _ => rfl⟩
  | cons x r => exact ⟨(x :: r).map lineC, by simp, by rw [List.length_map]; exact hl, fun l hx => by obtain ⟨y, hy, rfl⟩ := List.mem_map.mp hx; exact line_lG (h y hy), rfl, fun _ => rfl, fun z => by cases z⟩
theorem rdText_num {xs : List Lim} (h : ∀ x ∈ xs, limOk x = true) (hl : xs.length ≤ 6) : rdText (textC xs) = .tup [.str "read", .lst (ctr xs)] := by
  obtain ⟨ls, h0, h6, hls, e, e1, e2⟩ := text_lines h hl
  have eL := (LS_text h0 (by omega) (by decide) hls).2
  rw [← e] at eL
  by_cases c : xs = []
  · subst c; rfl
  · have hne : textC xs ≠ [] := fun z => by
      rw [z] at eL
      have e3 : linesL [] = [[]] := rfl
      rw [e3, e1 c] at eL
      cases xs with
      | nil => exact c rfl
      | cons x r =>
        have hh := rdL_num (h x List.mem_cons_self)
        rw [List.map_cons] at eL
        have : lineC x = [] := ((List.cons_eq_cons.mp eL).1).symm
        rw [this] at hh
        cases hh
    unfold rdText
    rw [if_neg hne, eL, if_neg (by omega), e1 c, rdAll_num h]
def defL : List Nat := [53, 32, 48, 32, 49]
theorem lit_def : ("5 0 1" : Str) = nm defL := by decide +kernel
theorem def_lG : lG 5 defL := by
  refine ⟨[[53], [48], [49]], by simp, fun w hw => ?_, rfl⟩
  simp only [List.mem_cons, List.not_mem_nil, or_false] at hw
  rcases hw with e | e | e <;> subst e <;> exact ⟨⟨rfl, by decide⟩, by decide, by decide⟩
theorem word_lG {w : List Nat} (h : wGood w) : lG 5 w := ⟨[w], by simp, fun x hx => by rw [List.mem_singleton.mp hx]; exact h, rfl⟩
theorem told_no (d s : D) (h : isiB (tyD d) "str" = false) : m__law_told [.int 0, d, s] = .ok (.sh (.tup [.str "value", .str "text"])) := by
  have e : m_parse_contract [d] = .exc (.badValue (.str "text")) := by
    have n := need_text_no d (.str "text") h
    refine go_parse_contract (o := .exc (.badValue (.str "text")) [.sh d, .no, .no, .no]) ?_ rfl
    unfold b_parse_contract
    (repeat (exists n))
  exact told_exc (w := 0) (e := .badValue (.str "text")) (by decide) trivial e
set_option maxHeartbeats 4000000 in
theorem law_true (ns : List Int) (hns : ns.length ≤ 63) : m_law [.scr ns] = .ok (.sh (.bl true)) := by
  obtain ⟨c0, h0⟩ := cell_eq ns 0
  obtain ⟨c3, h3⟩ := cell_eq ns 3
  obtain ⟨c4, h4⟩ := cell_eq ns 4
  have h0' : m__law_cell [.scr ns, .int 0] = _ := h0
  have h3' : m__law_cell [.scr ns, .int 3] = _ := h3
  have h4' : m__law_cell [.scr ns, .int 4] = _ := h4
  obtain ⟨sh, dsh, esh0⟩ := draw c0 4 5040 (by decide) (by decide) (by decide)
  have esh : m__law_row [.int c0, .int 4, .int 5040] = _ := esh0
  obtain ⟨x0, e0, x00, x01⟩ := draw_get dsh (k := 0) (by decide)
  obtain ⟨x1, e1, x10, x11⟩ := draw_get dsh (k := 1) (by decide)
  obtain ⟨x2, e2, x20, x21⟩ := draw_get dsh (k := 2) (by decide)
  obtain ⟨x3, e3, x30, x31⟩ := draw_get dsh (k := 3) (by decide)
  have e0' : ixD (.lst (sh.map D.int)) (.int 0) = _ := e0
  have e1' : ixD (.lst (sh.map D.int)) (.int 1) = _ := e1
  have e2' : ixD (.lst (sh.map D.int)) (.int 2) = _ := e2
  have e3' : ixD (.lst (sh.map D.int)) (.int 3) = _ := e3
  obtain ⟨len, hlen, ml0⟩ := mod_len (x := x0) (n := 7) (by decide)
  have ml : modD (.int x0) (.int 7) = .ok (nI len) := ml0
  obtain ⟨xs, hx, hxl, ec⟩ := contract_eq ns len (by omega)
  have hl6 : xs.length ≤ 6 := by omega
  have ew := written_eq hx (by omega)
  have ic := is_ctr hx hl6
  obtain ⟨ls, l0, l6, lls, ej, _, _⟩ := text_lines hx hl6
  obtain ⟨tk, eL⟩ := LS_text l0 (by omega) (by decide) lls
  obtain ⟨tc, hc1, hc2⟩ := changed ls c3 l0 (by omega) lls
  have rt := rdText_num hx hl6
  have t1 : m__law_told [.int 1, .lst (ctr xs), .non] = .ok (.sh (.tup [.str "read", .str (nm (textC xs))])) := told_ok (w := 1) (r := .sh (.str (nm (textC xs)))) (by decide) (format_eq hx hl6)
  rw [← ej] at tk eL hc2
  have t0 : m__law_told [.int 0, .str (nm (textC xs)), .non] = .ok (.sh (.tup [.str "read", .lst (ctr xs)])) := by
    have := told_text (textC xs) .non tk
    rw [rt] at this
    exact this
  have ask := asked _ tk
  have askc := asked _ hc1
  have tlen := tk.2.1
  have tasc := tk.1
  generalize textC xs = t at *
  have sr := same_read hx (by omega)
  have srt : m__law_same 6 [.tup [.str "read", .str (nm t)], .tup [.str "read", .str (nm t)]] = yes := by
    obtain ⟨c, d⟩ := pl_pair (s := "read") (d := .str (nm t)) (n := 0) (by decide +kernel) (by show PyData.strOk (nm t) = true; exact asc_ok tasc) (Nat.le_refl 0)
    exact same_refl 6 _ c (by omega)
  have sc : m__law_same 6 [.lst (ctr xs), .lst (ctr xs)] = yes := by
    obtain ⟨a, b⟩ := pl_ctr hx (by omega)
    exact same_refl 6 _ a (by omega)
  have sp := spl_nl t (by omega)
  rw [eL] at sp
  -- seven lines
  let big := (ls ++ List.replicate 7 defL).take 7
  have bigl : big.length = 7 := by simp [big]
  have bLS : LS 5 big := fun l hx => by
    rcases List.mem_append.mp (List.mem_of_mem_take hx) with e | e
    · exact lls l e
    · rw [(List.mem_replicate.mp e).2]; exact def_lG
  obtain ⟨j, hj, mj0⟩ := mod_len (x := x1) (n := 7) (by decide)
  have mj : modD (.int x1) (.int 7) = .ok (nI j) := mj0
  obtain ⟨w, gw, ewd⟩ := law_word x2
  have pw : putAt (wds big) (.str (nm w)) (nI j) = .ok (wds (big.set j w)) := put_wds (by omega)
  have b2l : (big.set j w).length = 7 := by rw [List.length_set]; exact bigl
  have b2LS : LS 5 (big.set j w) := LS_set bLS (word_lG gw)
  have m7 : mulD (.lst [.str (nm defL)]) (.int 7) = .ok (.lst (wds (List.replicate 7 defL))) := by
    have := mul_nat [.str (nm defL)] 7 (by decide) (by decide)
    rw [rep_one] at this
    rw [show wds (List.replicate 7 defL) = List.replicate 7 (.str (nm defL)) from List.map_replicate]
    exact this
  have ad : addD (.lst (wds ls)) (.lst (wds (List.replicate 7 defL))) = .ok (.lst (wds (ls ++ List.replicate 7 defL))) := by
    rw [add_lst _ _ (by rw [wds_len, wds_len, List.length_replicate]; omega)]
    rw [show wds (ls ++ List.replicate 7 defL) = wds ls ++ wds (List.replicate 7 defL) from List.map_append]
  have s7 : cutO (.lst (wds (ls ++ List.replicate 7 defL))) none (some 7) = .ok (wds big) := by
    show Res.ok (cutG (wds (ls ++ List.replicate 7 defL)) none (some ((7 : Nat) : Int))) = _
    rw [cutN]
    show Res.ok ((List.map _ _).take 7) = Res.ok (List.map _ _)
    rw [List.map_take]
  generalize big.set j w = b2 at *
  have j1 := join_lines (n := 5) (ls := b2) (by omega) (by decide) b2LS
  have a1 := asked _ (LS_text (n := 5) (ls := b2) (by omega) (by omega) (by decide) b2LS).1
  have q2 : LS 5 (b2.take 6) := fun l hx => b2LS l (List.mem_of_mem_take hx)
  have q3 : LS 5 (b2.drop 1) := fun l hx => b2LS l (List.mem_of_mem_drop hx)
  have n2 : (b2.take 6).length = 6 := by rw [List.length_take]; omega
  have n3 : (b2.drop 1).length = 6 := by rw [List.length_drop]; omega
  have j2 := join_lines (n := 5) (by omega) (by decide) q2
  have j3 := join_lines (n := 5) (by omega) (by decide) q3
  have a2 := asked _ (LS_text (n := 5) (by omega) (by omega) (by decide) q2).1
  have a3 := asked _ (LS_text (n := 5) (by omega) (by omega) (by decide) q3).1
  have s2 : sliceD (.lst (wds b2)) none (some 6) = .ok (.lst (wds (b2.take 6))) := by
    rw [sl6]; show Res.ok (D.lst ((List.map _ _).take 6)) = Res.ok (D.lst (List.map _ _)); rw [List.map_take]
  have s3 : sliceD (.lst (wds b2)) (some 1) none = .ok (.lst (wds (b2.drop 1))) := by
    show Res.ok (D.lst (cutG (wds b2) (some 1) none)) = _
    rw [cut1]; show Res.ok (D.lst ((List.map _ _).drop 1)) = Res.ok (D.lst (List.map _ _)); rw [List.map_drop]
  have sv := same_vc "text" (by decide +kernel)
  obtain ⟨q6, lp⟩ := for_all (P := fun o => [.sh (.scr ns), .sh (.lst (sh.map D.int)), .sh (.lst (ctr xs)), .sh (.str (nm t)), .sh (.lst (ctr xs)), .sh (.lst (wds b2)), o]) (i := 6) (B := B1_law) (ds := [.non, .int 7, .lst (wds b2), .tup (ctr xs)]) (o := .no) (fun _ _ => rfl) (fun d hd => by
    have hs : isiB (tyD d) "str" = false := by
      simp only [List.mem_cons, List.not_mem_nil, or_false] at hd
      rcases hd with e | e | e | e <;> subst e <;> rfl
    have e := told_no d .non hs
    unfold B1_law
    (repeat (exists e, sv)))
  have pop := populations c4 hx hl6
  have hcl : (ctr xs).length = xs.length := List.length_map ..
  obtain ⟨p, hp, mp0⟩ := mod_len (x := x3) (n := min 5 xs.length + 1) (by omega)
  have mp : modD (.int x3) (.int ((if ((ctr xs).length : Int) < 5 then ((ctr xs).length : Int) else 5) + 1)) = .ok (nI p) := by
    have e : (if (xs.length : Int) < 5 then (xs.length : Int) else 5) + 1 = ((min 5 xs.length + 1 : Nat) : Int) := by
      by_cases c : (xs.length : Int) < 5
      · rw [if_pos c]; omega
      · rw [if_neg c]; omega
    rw [hcl, e]
    exact mp0
  have rf := refused (c := x2) hx hl6 (p := p) (by omega) (by omega)
  refine go_law (o := .ret (.sh (.bl true))) ?_ rfl
  unfold b_law
  rw [lit_def]
  (repeat (exists h0', esh, e0', ml, ec, ew, ic, t1, srt, t0, sr, sc, ask, h3', hc2, askc, sp, m7, ad, s7, e1', mj, e2', ewd, pw, j1, a1, s2, j2, a2, s3, j3, a3, lp, h4', pop, e3', mp, rf))
end K55

set_option maxRecDepth 100000
set_option maxHeartbeats 4000000
namespace K55
open PySem PySem.Spec PyProof.Rows L2 PL
abbrev PW : Program := PySem.Challenge.pw_parcelbank_k55_contracts_and_their_text
abbrev topS (i : Nat) : Stmt := PW.main.body.getD i (.Pass ⟨0, 0, 0, 0⟩)
/-- what the top has left -/
structure XA where
  BadText : Addr
  BadValue : Addr
  TooMany : Addr
variable {w : World} {K : PySem.W.Frag} {mg : Str → Option Value} {base : Heap} {XS : XA}
structure Fc (w : World) (K : PySem.W.Frag) (mg : Str → Option Value) (base : Heap) (XS : XA) : Prop where
  n_abs : mg "abs" = none
  n_bool : mg "bool" = none
  n_int : mg "int" = none
  n_isinstance : mg "isinstance" = none
  n_len : mg "len" = none
  n_list : mg "list" = none
  n_min : mg "min" = none
  n_range : mg "range" = none
  n_str : mg "str" = none
  n_sum : mg "sum" = none
  n_tuple : mg "tuple" = none
  c_DIGITS : ∃ t, mg "DIGITS" = some (.str "0123456789" t)
  c_MOST_AT_ONCE : ∃ t, mg "MOST_AT_ONCE" = some (.int 30 t)
  c_MOST_KINDS : ∃ t, mg "MOST_KINDS" = some (.int 4 t)
  c_MOST_LIMITS : ∃ t, mg "MOST_LIMITS" = some (.int 6 t)
  f__law_row : Fx PW K mg "_law_row" "_law_row" (topS 30) ["cell", "many", "limit"]
  f__law_cell : Fx PW K mg "_law_cell" "_law_cell" (topS 29) ["script", "k"]
  f__law_contract : Fx PW K mg "_law_contract" "_law_contract" (topS 32) ["script", "many"]
  f__law_written : Fx PW K mg "_law_written" "_law_written" (topS 34) ["contract"]
  f__law_word : Fx PW K mg "_law_word" "_law_word" (topS 35) ["number"]
  f_is_integer : Fx PW K mg "is_integer" "is_integer" (topS 7) ["value"]
  f_in_range : Fx PW K mg "in_range" "in_range" (topS 8) ["value", "low", "high"]
  f_is_ascending : Fx PW K mg "is_ascending" "is_ascending" (topS 9) ["value", "low", "high"]
  f_is_members : Fx PW K mg "is_members" "is_members" (topS 18) ["value", "many"]
  f_is_limit : Fx PW K mg "is_limit" "is_limit" (topS 19) ["value", "many"]
  f_is_contract : Fx PW K mg "is_contract" "is_contract" (topS 20) ["value"]
  f__law_same : Fx PW K mg "_law_same" "_law_same" (topS 31) ["actual", "due"]
  f_need_text : Fx PW K mg "need_text" "need_text" (topS 10) ["value", "what"]
  f_lines_of : Fx PW K mg "lines_of" "lines_of" (topS 13) ["text", "limit"]
  f_is_written : Fx PW K mg "is_written" "is_written" (topS 12) ["word", "low", "high"]
  f_limit_at : Fx PW K mg "limit_at" "limit_at" (topS 26) ["words", "line"]
  f_parse_contract : Fx PW K mg "parse_contract" "parse_contract" (topS 27) ["text"]
  f_need_list : Fx PW K mg "need_list" "need_list" (topS 11) ["value", "limit", "what"]
  f_need_contract : Fx PW K mg "need_contract" "need_contract" (topS 21) ["contract", "many"]
  f_format_contract : Fx PW K mg "format_contract" "format_contract" (topS 25) ["contract"]
  f_allowed : Fx PW K mg "allowed" "allowed" (topS 23) ["contract", "population"]
  f_is_population : Fx PW K mg "is_population" "is_population" (topS 22) ["value"]
  f_allows : Fx PW K mg "allows" "allows" (topS 24) ["contract", "population"]
  f__law_told : Fx PW K mg "_law_told" "_law_told" (topS 39) ["way", "first", "second"]
  f__law_refused : Fx PW K mg "_law_refused" "_law_refused" (topS 43) ["contract", "place", "choice"]
  f__law_allows : Fx PW K mg "_law_allows" "_law_allows" (topS 33) ["contract", "counts"]
  f__law_counts : Fx PW K mg "_law_counts" "_law_counts" (topS 41) ["contract", "counts"]
  f__law_populations : Fx PW K mg "_law_populations" "_law_populations" (topS 42) ["contract", "cell"]
  f__law_number : Fx PW K mg "_law_number" "_law_number" (topS 37) ["word", "low", "high"]
  f__law_read : Fx PW K mg "_law_read" "_law_read" (topS 38) ["text"]
  f__law_asked : Fx PW K mg "_law_asked" "_law_asked" (topS 40) ["text"]
  f__law_changed : Fx PW K mg "_law_changed" "_law_changed" (topS 36) ["text", "cell"]
  f_law : Fx PW K mg "law" "law" (topS 44) ["script"]
  x_BadText : ExT PW w K mg base "BadText" ["line", "word", "what"] XS.BadText
  x_BadValue : ExT PW w K mg base "BadValue" ["what"] XS.BadValue
  x_TooMany : ExT PW w K mg base "TooMany" ["limit"] XS.TooMany
  e_BadText : PySem.W.exmOne K (.ref XS.BadText) (.ref XS.BadText) = some true ∧ PySem.W.exmOne K (.ref XS.BadValue) (.ref XS.BadText) = some false ∧ PySem.W.exmOne K (.ref XS.TooMany) (.ref XS.BadText) = some false
  e_BadValue : PySem.W.exmOne K (.ref XS.BadText) (.ref XS.BadValue) = some false ∧ PySem.W.exmOne K (.ref XS.BadValue) (.ref XS.BadValue) = some true ∧ PySem.W.exmOne K (.ref XS.TooMany) (.ref XS.BadValue) = some false
  e_TooMany : PySem.W.exmOne K (.ref XS.BadText) (.ref XS.TooMany) = some false ∧ PySem.W.exmOne K (.ref XS.BadValue) (.ref XS.TooMany) = some false ∧ PySem.W.exmOne K (.ref XS.TooMany) (.ref XS.TooMany) = some true
abbrev FcK {K : PySem.W.Frag} {h : Heap} (_ : K.In h) (w : World) (mg : Str → Option Value) (base : Heap) (XS : XA) : Prop := Fc w K mg base XS
theorem Fc.n_BadText (Z : Fc w K mg base XS) {X : Cx} (hg : Gl X "BadText" := by rfl) (hm : X.mg = mg := by rfl) : Names X "BadText" (.ref XS.BadText) := ⟨hg, by decide, .inl (hm ▸ Z.x_BadText.gC)⟩
theorem Fc.cl_BadText (Z : Fc w K mg base XS) (e : Exc) (he : knX e = true) : PySem.W.exmOne K (clOf mg e.cls) (.ref XS.BadText) = some (isX_BadText e) := by
  obtain ⟨h_BadText, h_BadValue, h_TooMany⟩ := Z.e_BadText
  cases e <;> first
    | (cases he; done)
    | (show PySem.W.exmOne K ((mg "BadText").getD .none) _ = _; rw [Z.x_BadText.gC]; exact h_BadText)
    | (show PySem.W.exmOne K ((mg "BadValue").getD .none) _ = _; rw [Z.x_BadValue.gC]; exact h_BadValue)
    | (show PySem.W.exmOne K ((mg "TooMany").getD .none) _ = _; rw [Z.x_TooMany.gC]; exact h_TooMany)
theorem Fc.n_BadValue (Z : Fc w K mg base XS) {X : Cx} (hg : Gl X "BadValue" := by rfl) (hm : X.mg = mg := by rfl) : Names X "BadValue" (.ref XS.BadValue) := ⟨hg, by decide, .inl (hm ▸ Z.x_BadValue.gC)⟩
theorem Fc.cl_BadValue (Z : Fc w K mg base XS) (e : Exc) (he : knX e = true) : PySem.W.exmOne K (clOf mg e.cls) (.ref XS.BadValue) = some (isX_BadValue e) := by
  obtain ⟨h_BadText, h_BadValue, h_TooMany⟩ := Z.e_BadValue
  cases e <;> first
    | (cases he; done)
    | (show PySem.W.exmOne K ((mg "BadText").getD .none) _ = _; rw [Z.x_BadText.gC]; exact h_BadText)
    | (show PySem.W.exmOne K ((mg "BadValue").getD .none) _ = _; rw [Z.x_BadValue.gC]; exact h_BadValue)
    | (show PySem.W.exmOne K ((mg "TooMany").getD .none) _ = _; rw [Z.x_TooMany.gC]; exact h_TooMany)
theorem Fc.n_TooMany (Z : Fc w K mg base XS) {X : Cx} (hg : Gl X "TooMany" := by rfl) (hm : X.mg = mg := by rfl) : Names X "TooMany" (.ref XS.TooMany) := ⟨hg, by decide, .inl (hm ▸ Z.x_TooMany.gC)⟩
theorem Fc.cl_TooMany (Z : Fc w K mg base XS) (e : Exc) (he : knX e = true) : PySem.W.exmOne K (clOf mg e.cls) (.ref XS.TooMany) = some (isX_TooMany e) := by
  obtain ⟨h_BadText, h_BadValue, h_TooMany⟩ := Z.e_TooMany
  cases e <;> first
    | (cases he; done)
    | (show PySem.W.exmOne K ((mg "BadText").getD .none) _ = _; rw [Z.x_BadText.gC]; exact h_BadText)
    | (show PySem.W.exmOne K ((mg "BadValue").getD .none) _ = _; rw [Z.x_BadValue.gC]; exact h_BadValue)
    | (show PySem.W.exmOne K ((mg "TooMany").getD .none) _ = _; rw [Z.x_TooMany.gC]; exact h_TooMany)
abbrev s__law_row : Stmt := topS 30
theorem sc__law_row : FnScope ["cell", "many", "limit", "rest", "numbers", "state", "k"] ["cell", "many", "limit"] (defScope s__law_row) := ⟨rfl, rfl, rfl, by decide +kernel, rfl, by decide +kernel, by decide +kernel⟩
theorem ok__law_row (Z : Fc w K mg base XS) : FnP PW w K mg base 1 "_law_row" ["cell", "many", "limit"] m__law_row := by
  obtain ⟨f, fd, F, hm, hb⟩ := Z.f__law_row
  refine fn_mk (k := 0) F sc__law_row hm hb fun cdv A outer s H G0 E c => ?_
  exact (s_cons (s_set c.nd (d_callB cd_abs nox_abs rfl Z.n_abs (a_cons (d_var 0) a_nil))) (s_cons (s_setO c.nd (o_lst a_nil)) (s_cons (s_if (t_cmp od_ge nox_ge (d_var 3) (d_bin od_pow nox_pow d_int d_int) (nomark _)) (s_cons (s_set c.nd (d_bin od_sub nox_sub (d_var 3) (d_bin od_pow nox_pow d_int d_int))) (s_cons (s_for c.po c.calm (i_rng1 Z.n_range (a_cons (d_var 1) a_nil)) (g_name 6 c.nd) (s_cons (s_app 4 (d_bin od_mod nox_mod (d_callTy cd_int nox_int rfl Z.n_int (a_cons (d_var 3) a_nil)) (d_var 2))) (s_one (s_set c.nd (d_bin od_fdiv nox_fdiv (d_var 3) (d_var 2)))))) (s_one (s_retV 4)))) s_nil) (s_cons (s_set c.nd (d_bin od_mod nox_mod (d_callTy cd_int nox_int rfl Z.n_int (a_cons (d_bin od_add nox_add (d_bin od_mul nox_mul (d_var 3) d_int) d_int) a_nil)) d_int)) (s_cons (s_for c.po c.calm (i_rng1 Z.n_range (a_cons (d_var 1) a_nil)) (g_name 6 c.nd) (s_cons (s_set c.nd (d_bin od_mod nox_mod (d_callTy cd_int nox_int rfl Z.n_int (a_cons (d_bin od_add nox_add (d_bin od_add nox_add (d_bin od_mul nox_mul (d_var 5) d_int) (d_bin od_mul nox_mul (d_var 6) d_int)) (d_var 3)) a_nil)) d_int)) (s_one (s_app 4 (d_bin od_mod nox_mod (d_callTy cd_int nox_int rfl Z.n_int (a_cons (d_bin od_fdiv nox_fdiv (d_var 5) d_int) a_nil)) (d_var 2)))))) (s_one (s_retV 4)))))))
abbrev s__law_cell : Stmt := topS 29
theorem sc__law_cell : FnScope ["script", "k"] ["script", "k"] (defScope s__law_cell) := ⟨rfl, rfl, rfl, by decide +kernel, rfl, by decide +kernel, by decide +kernel⟩
theorem ok__law_cell (Z : Fc w K mg base XS) : FnP PW w K mg base 1 "_law_cell" ["script", "k"] m__law_cell := by
  obtain ⟨f, fd, F, hm, hb⟩ := Z.f__law_cell
  refine fn_mk (k := 0) F sc__law_cell hm hb fun cdv A outer s H G0 E c => ?_
  exact (s_cons (s_if (t_cmp od_lt nox_lt (d_var 1) (d_callB cd_len nox_len rfl Z.n_len (a_cons (d_var 0) a_nil)) (nomark _)) (s_one (s_ret (d_callTy cd_int nox_int rfl Z.n_int (a_cons (d_ix (d_var 0) (d_var 1) (fun _ _ => rfl)) a_nil)))) s_nil) (s_one (s_ret d_int)))
abbrev s__law_contract : Stmt := topS 32
theorem sc__law_contract : FnScope ["script", "many", "masks", "most", "contract", "k", "members", "kind"] ["script", "many"] (defScope s__law_contract) := ⟨rfl, rfl, rfl, by decide +kernel, rfl, by decide +kernel, by decide +kernel⟩
theorem ok__law_contract (Z : Fc w K mg base XS) : FnP PW w K mg base 2 "_law_contract" ["script", "many"] m__law_contract := by
  obtain ⟨f, fd, F, hm, hb⟩ := Z.f__law_contract
  refine fn_mk (k := 1) F sc__law_contract hm hb fun cdv A outer s H G0 E c => ?_
  exact (s_cons (s_set c.nd (d_call (ok__law_row Z) c.toGE (by omega) rfl (a_cons (d_call (ok__law_cell Z) c.toGE (by omega) rfl (a_cons (d_var 0) (a_cons d_int a_nil)) (fl_cons (fl_cons fl_nil))) (a_cons (d_var 1) (a_cons d_int a_nil))) (fl_cons (fl_cons (fl_cons fl_nil))))) (s_cons (s_set c.nd (d_call (ok__law_row Z) c.toGE (by omega) rfl (a_cons (d_call (ok__law_cell Z) c.toGE (by omega) rfl (a_cons (d_var 0) (a_cons d_int a_nil)) (fl_cons (fl_cons fl_nil))) (a_cons (d_var 1) (a_cons d_int a_nil))) (fl_cons (fl_cons (fl_cons fl_nil))))) (s_cons (s_setO c.nd (o_lst a_nil)) (s_cons (s_for c.po c.calm (i_rng1 Z.n_range (a_cons (d_var 1) a_nil)) (g_name 5 c.nd) (s_cons (s_setLcS (j := 6) c.toGE rfl rfl (sw_true rfl rfl rfl (by decide +kernel)) (i_rng1 Z.n_range (a_cons d_int a_nil)) (x := "kind") (i := 7) (by show blkC ["script", "many", "masks", "most", "contract", "k", "members", "kind"] (defScope s__law_contract) _ _ = true; decide +kernel) (fun s H C cl fp => pg_name (i := 7) c.nd rfl (Or.inl rfl)) (fun s H C cl fp => (ts_one (t_cmp (od_eq (c.toGE.blk s H _ _ fp).hr) nox_eq (d_bin od_mod nox_mod (d_callTy cd_int nox_int rfl Z.n_int (a_cons (d_bin od_fdiv nox_fdiv (d_bin od_add nox_add d_int (d_ix (d_var 2) (d_var 5) (fun _ _ => rfl))) (d_ix (d_own (o_lst (a_cons d_int (a_cons d_int (a_cons d_int (a_cons d_int a_nil)))))) (d_var 7) (fun _ _ => rfl))) a_nil)) d_int) d_int (nomark _)))) (fun s H C cl fp => (d_var 7))) (s_one (s_app 4 (d_tup (a_cons (d_callTy cd_tuple nox_tuple rfl Z.n_tuple (a_cons (d_var 6) a_nil)) (a_cons (d_ix (d_var 3) (d_var 5) (fun _ _ => rfl)) a_nil))))))) (s_one (s_retV 4))))))
abbrev s__law_written : Stmt := topS 34
theorem sc__law_written : FnScope ["contract", "lines", "limit", "line", "kind"] ["contract"] (defScope s__law_written) := ⟨rfl, rfl, rfl, by decide +kernel, rfl, by decide +kernel, by decide +kernel⟩
theorem ok__law_written (Z : Fc w K mg base XS) : FnP PW w K mg base 1 "_law_written" ["contract"] m__law_written := by
  obtain ⟨f, fd, F, hm, hb⟩ := Z.f__law_written
  refine fn_mk (k := 0) F sc__law_written hm hb fun cdv A outer s H G0 E c => ?_
  exact (s_cons (s_setO c.nd (o_lst a_nil)) (s_cons (s_for c.po c.calm (i_seq (d_var 0)) (g_name 2 c.nd) (s_cons (s_set c.nd (d_callTy cd_str nox_str rfl Z.n_str (a_cons (d_ix (d_var 2) d_int (fun _ _ => rfl)) a_nil))) (s_cons (s_for c.po c.calm (i_seq (d_ix (d_var 2) d_int (fun _ _ => rfl))) (g_name 4 c.nd) (s_one (s_set c.nd (d_bin od_add nox_add (d_bin od_add nox_add (d_var 3) d_str) (d_callTy cd_str nox_str rfl Z.n_str (a_cons (d_var 4) a_nil)))))) (s_one (s_app 1 (d_var 3)))))) (s_frz 1 (s_one (s_ret (d_join d_str (d_var 1)))))))
abbrev s__law_word : Stmt := topS 35
theorem sc__law_word : FnScope ["number", "words"] ["number"] (defScope s__law_word) := ⟨rfl, rfl, rfl, by decide +kernel, rfl, by decide +kernel, by decide +kernel⟩
theorem ok__law_word (Z : Fc w K mg base XS) : FnP PW w K mg base 1 "_law_word" ["number"] m__law_word := by
  obtain ⟨f, fd, F, hm, hb⟩ := Z.f__law_word
  refine fn_mk (k := 0) F sc__law_word hm hb fun cdv A outer s H G0 E c => ?_
  exact (s_cons (s_set c.nd (d_own (o_lst (a_cons d_str (a_cons d_str (a_cons d_str (a_cons d_str (a_cons d_str (a_cons d_str (a_cons d_str (a_cons d_str (a_cons d_str (a_cons d_str (a_cons d_str (a_cons d_str (a_cons d_str (a_cons d_str (a_cons d_str (a_cons d_str (a_cons d_str (a_cons d_str a_nil))))))))))))))))))))) (s_one (s_ret (d_ix (d_bin od_add nox_add (d_var 1) (d_own (o_lst (a_cons d_str (a_cons d_str (a_cons d_str (a_cons d_str (a_cons d_str (a_cons d_str (a_cons d_str (a_cons d_str (a_cons d_str (a_cons d_str a_nil))))))))))))) (d_bin od_mod nox_mod (d_callTy cd_int nox_int rfl Z.n_int (a_cons (d_var 0) a_nil)) d_int) (fun _ _ => rfl)))))
abbrev s_is_integer : Stmt := topS 7
theorem sc_is_integer : FnScope ["value"] ["value"] (defScope s_is_integer) := ⟨rfl, rfl, rfl, by decide +kernel, rfl, by decide +kernel, by decide +kernel⟩
theorem ok_is_integer (Z : Fc w K mg base XS) : FnP PW w K mg base 1 "is_integer" ["value"] m_is_integer := by
  obtain ⟨f, fd, F, hm, hb⟩ := Z.f_is_integer
  refine fn_mk (k := 0) F sc_is_integer hm hb fun cdv A outer s H G0 E c => ?_
  exact (s_one (s_ret (d_and (d_isi kit_int Z.n_isinstance Z.n_int rfl (d_var 0)) (d_one (d_not (d_isi kit_bool Z.n_isinstance Z.n_bool rfl (d_var 0)))))))
abbrev s_in_range : Stmt := topS 8
theorem sc_in_range : FnScope ["value", "low", "high"] ["value", "low", "high"] (defScope s_in_range) := ⟨rfl, rfl, rfl, by decide +kernel, rfl, by decide +kernel, by decide +kernel⟩
theorem ok_in_range (Z : Fc w K mg base XS) : FnP PW w K mg base 2 "in_range" ["value", "low", "high"] m_in_range := by
  obtain ⟨f, fd, F, hm, hb⟩ := Z.f_in_range
  refine fn_mk (k := 1) F sc_in_range hm hb fun cdv A outer s H G0 E c => ?_
  exact (s_one (s_ret (d_and (d_call (ok_is_integer Z) c.toGE (by omega) rfl (a_cons (d_var 0) a_nil) (fl_cons fl_nil)) (d_and (d_cmp od_le nox_le (d_var 1) (d_var 0) (nomark _)) (d_one (d_cmp od_le nox_le (d_var 0) (d_var 2) (nomark _)))))))
abbrev s_is_ascending : Stmt := topS 9
theorem sc_is_ascending : FnScope ["value", "low", "high", "last", "item"] ["value", "low", "high"] (defScope s_is_ascending) := ⟨rfl, rfl, rfl, by decide +kernel, rfl, by decide +kernel, by decide +kernel⟩
theorem ok_is_ascending (Z : Fc w K mg base XS) : FnP PW w K mg base 3 "is_ascending" ["value", "low", "high"] m_is_ascending := by
  obtain ⟨f, fd, F, hm, hb⟩ := Z.f_is_ascending
  refine fn_mk (k := 2) F sc_is_ascending hm hb fun cdv A outer s H G0 E c => ?_
  exact (s_cons (s_if (t_not (t_tru (d_isi kit_list Z.n_isinstance Z.n_list rfl (d_var 0)))) (s_one (s_ret d_bl)) s_nil) (s_cons (s_set c.nd (d_bin od_sub nox_sub (d_var 1) d_int)) (s_cons (s_for c.po c.calm (i_seq (d_var 0)) (g_name 4 c.nd) (s_cons (s_if (PW.pt (t_or (t_not (t_tru (d_call (ok_in_range Z) c.toGE (by omega) rfl (a_cons (d_var 4) (a_cons (d_var 1) (a_cons (d_var 2) a_nil))) (fl_cons (fl_cons (fl_cons fl_nil)))))) (t_or1 (t_cmp od_le nox_le (d_var 4) (d_var 3) (nomark _))))) (s_one (s_ret d_bl)) s_nil) (s_one (s_set c.nd (d_var 4))))) (s_one (s_ret d_bl)))))
abbrev s_is_members : Stmt := topS 18
theorem sc_is_members : FnScope ["value", "many"] ["value", "many"] (defScope s_is_members) := ⟨rfl, rfl, rfl, by decide +kernel, rfl, by decide +kernel, by decide +kernel⟩
theorem ok_is_members (Z : Fc w K mg base XS) : FnP PW w K mg base 4 "is_members" ["value", "many"] m_is_members := by
  obtain ⟨f, fd, F, hm, hb⟩ := Z.f_is_members
  refine fn_mk (k := 3) F sc_is_members hm hb fun cdv A outer s H G0 E c => ?_
  exact (s_cons (s_if (PW.pt (t_or (t_not (t_tru (d_isi kit_tuple Z.n_isinstance Z.n_tuple rfl (d_var 0)))) (t_or1 (t_cmp (od_eq c.toGE.hr) nox_eq (d_callB cd_len nox_len rfl Z.n_len (a_cons (d_var 0) a_nil)) d_int (nomark _))))) (s_one (s_ret d_bl)) s_nil) (s_one (s_ret (d_call (ok_is_ascending Z) c.toGE (by omega) rfl (a_cons (d_own (o_callTy co_list nox_list rfl Z.n_list (a_cons (d_var 0) a_nil))) (a_cons d_int (a_cons (d_bin od_sub nox_sub (d_var 1) d_int) a_nil))) (fl_cons (fl_cons (fl_cons fl_nil)))))))
abbrev s_is_limit : Stmt := topS 19
theorem sc_is_limit : FnScope ["value", "many"] ["value", "many"] (defScope s_is_limit) := ⟨rfl, rfl, rfl, by decide +kernel, rfl, by decide +kernel, by decide +kernel⟩
theorem ok_is_limit (Z : Fc w K mg base XS) : FnP PW w K mg base 5 "is_limit" ["value", "many"] m_is_limit := by
  obtain ⟨f, fd, F, hm, hb⟩ := Z.f_is_limit
  refine fn_mk (k := 4) F sc_is_limit hm hb fun cdv A outer s H G0 E c => ?_
  exact (s_cons (s_if (PW.pt (t_or (t_not (t_tru (d_isi kit_tuple Z.n_isinstance Z.n_tuple rfl (d_var 0)))) (t_or1 (t_cmp (od_ne c.toGE.hr) nox_ne (d_callB cd_len nox_len rfl Z.n_len (a_cons (d_var 0) a_nil)) d_int (nomark _))))) (s_one (s_ret d_bl)) s_nil) (s_one (s_ret (d_and (d_call (ok_is_members Z) c.toGE (by omega) rfl (a_cons (d_ix (d_var 0) d_int (fun _ _ => rfl)) (a_cons (d_var 1) a_nil)) (fl_cons (fl_cons fl_nil))) (d_one (d_call (ok_in_range Z) c.toGE (by omega) rfl (a_cons (d_ix (d_var 0) d_int (fun _ _ => rfl)) (a_cons d_int (a_cons (d_gint Z.c_MOST_AT_ONCE) a_nil))) (fl_cons (fl_cons (fl_cons fl_nil)))))))))
abbrev s_is_contract : Stmt := topS 20
theorem sc_is_contract : FnScope ["value", "limit"] ["value"] (defScope s_is_contract) := ⟨rfl, rfl, rfl, by decide +kernel, rfl, by decide +kernel, by decide +kernel⟩
theorem ok_is_contract (Z : Fc w K mg base XS) : FnP PW w K mg base 6 "is_contract" ["value"] m_is_contract := by
  obtain ⟨f, fd, F, hm, hb⟩ := Z.f_is_contract
  refine fn_mk (k := 5) F sc_is_contract hm hb fun cdv A outer s H G0 E c => ?_
  exact (s_cons (s_if (PW.pt (t_or (t_not (t_tru (d_isi kit_list Z.n_isinstance Z.n_list rfl (d_var 0)))) (t_or1 (t_cmp od_gt nox_gt (d_callB cd_len nox_len rfl Z.n_len (a_cons (d_var 0) a_nil)) (d_gint Z.c_MOST_LIMITS) (nomark _))))) (s_one (s_ret d_bl)) s_nil) (s_cons (s_for c.po c.calm (i_seq (d_var 0)) (g_name 1 c.nd) (s_one (s_if (t_not (t_tru (d_call (ok_is_limit Z) c.toGE (by omega) rfl (a_cons (d_var 1) (a_cons (d_gint Z.c_MOST_KINDS) a_nil)) (fl_cons (fl_cons fl_nil))))) (s_one (s_ret d_bl)) s_nil))) (s_one (s_ret d_bl))))
abbrev s__law_same : Stmt := topS 31
theorem sc__law_same : FnScope ["actual", "due", "k"] ["actual", "due"] (defScope s__law_same) := ⟨rfl, rfl, rfl, by decide +kernel, rfl, by decide +kernel, by decide +kernel⟩
theorem ok__law_same (Z : Fc w K mg base XS) : ∀ n, FnP PW w K mg base (0 + n + 1) "_law_same" ["actual", "due"] (m__law_same n)
  | 0 => by
    obtain ⟨f, fd, F, hm, hb⟩ := Z.f__law_same
    exact fn_mk F sc__law_same hm hb fun cdv A outer s H G0 E c => s_never
  | n + 1 => by
    have again := ok__law_same Z n
    obtain ⟨f, fd, F, hm, hb⟩ := Z.f__law_same
    refine fn_mk (k := 0 + n + 1) F sc__law_same hm hb fun cdv A outer s H G0 E c => ?_
    exact (s_cons (s_if (t_cmp od_is nox_is (d_var 1) d_non (nomark _)) (s_one (s_ret (d_cmp od_is nox_is (d_var 0) d_non (nomark _)))) s_nil) (s_cons (s_if (t_tru (d_isi kit_bool Z.n_isinstance Z.n_bool rfl (d_var 1))) (s_one (s_ret (d_and (d_isi kit_bool Z.n_isinstance Z.n_bool rfl (d_var 0)) (d_one (d_cmp (od_eq c.toGE.hr) nox_eq (d_var 0) (d_var 1) (nomark _)))))) s_nil) (s_cons (s_if (t_tru (d_isi kit_int Z.n_isinstance Z.n_int rfl (d_var 1))) (s_one (s_ret (d_and (d_isi kit_int Z.n_isinstance Z.n_int rfl (d_var 0)) (d_and (d_not (d_isi kit_bool Z.n_isinstance Z.n_bool rfl (d_var 0))) (d_one (d_cmp (od_eq c.toGE.hr) nox_eq (d_var 0) (d_var 1) (nomark _))))))) s_nil) (s_cons (s_if (t_tru (d_isi kit_str Z.n_isinstance Z.n_str rfl (d_var 1))) (s_one (s_ret (d_and (d_isi kit_str Z.n_isinstance Z.n_str rfl (d_var 0)) (d_one (d_cmp (od_eq c.toGE.hr) nox_eq (d_var 0) (d_var 1) (nomark _)))))) s_nil) (s_cons (s_if (PW.pt (t_and (t_tru (d_isi kit_tuple Z.n_isinstance Z.n_tuple rfl (d_var 1))) (t_and1 (t_not (t_tru (d_isi kit_tuple Z.n_isinstance Z.n_tuple rfl (d_var 0))))))) (s_one (s_ret d_bl)) s_nil) (s_cons (s_if (PW.pt (t_and (t_tru (d_isi kit_list Z.n_isinstance Z.n_list rfl (d_var 1))) (t_and1 (t_not (t_tru (d_isi kit_list Z.n_isinstance Z.n_list rfl (d_var 0))))))) (s_one (s_ret d_bl)) s_nil) (s_cons (s_if (t_cmp (od_ne c.toGE.hr) nox_ne (d_callB cd_len nox_len rfl Z.n_len (a_cons (d_var 0) a_nil)) (d_callB cd_len nox_len rfl Z.n_len (a_cons (d_var 1) a_nil)) (nomark _)) (s_one (s_ret d_bl)) s_nil) (s_cons (s_for c.po c.calm (i_rng1 Z.n_range (a_cons (d_callB cd_len nox_len rfl Z.n_len (a_cons (d_var 1) a_nil)) a_nil)) (g_name 2 c.nd) (s_one (s_if (t_not (t_tru (d_call again c.toGE (by omega) rfl (a_cons (d_ix (d_var 0) (d_var 2) (fun _ _ => rfl)) (a_cons (d_ix (d_var 1) (d_var 2) (fun _ _ => rfl)) a_nil)) (fl_cons (fl_cons fl_nil))))) (s_one (s_ret d_bl)) s_nil))) (s_one (s_ret d_bl))))))))))
abbrev s_need_text : Stmt := topS 10
theorem sc_need_text : FnScope ["value", "what"] ["value", "what"] (defScope s_need_text) := ⟨rfl, rfl, rfl, by decide +kernel, rfl, by decide +kernel, by decide +kernel⟩
theorem ok_need_text (Z : Fc w K mg base XS) : FnP PW w K mg base 4 "need_text" ["value", "what"] m_need_text := by
  obtain ⟨f, fd, F, hm, hb⟩ := Z.f_need_text
  refine fn_mk (k := 3) F sc_need_text hm hb fun cdv A outer s H G0 E c => ?_
  exact (s_one (s_if (t_not (t_tru (d_isi kit_str Z.n_isinstance Z.n_str rfl (d_var 0)))) (s_one (s_raise Z.x_BadValue c (by decide) mkx_bv (a_cons (d_var 1) a_nil))) s_nil))
abbrev s_lines_of : Stmt := topS 13
theorem sc_lines_of : FnScope ["text", "limit", "lines"] ["text", "limit"] (defScope s_lines_of) := ⟨rfl, rfl, rfl, by decide +kernel, rfl, by decide +kernel, by decide +kernel⟩
theorem ok_lines_of (Z : Fc w K mg base XS) : FnP PW w K mg base 4 "lines_of" ["text", "limit"] m_lines_of := by
  obtain ⟨f, fd, F, hm, hb⟩ := Z.f_lines_of
  refine fn_mk (k := 3) F sc_lines_of hm hb fun cdv A outer s H G0 E c => ?_
  exact (s_cons (s_if (t_cmp (od_eq c.toGE.hr) nox_eq (d_var 0) d_str (nomark _)) (s_one (s_retO (o_lst a_nil))) s_nil) (s_cons (s_set c.nd (d_own (o_split (d_var 0) d_str))) (s_cons (s_if (t_cmp od_gt nox_gt (d_callB cd_len nox_len rfl Z.n_len (a_cons (d_var 2) a_nil)) (d_var 1) (nomark _)) (s_one (s_raise Z.x_TooMany c (by decide) mkx_tm (a_cons (d_var 1) a_nil))) s_nil) (s_one (s_ret (d_var 2))))))
abbrev s_is_written : Stmt := topS 12
theorem sc_is_written : FnScope ["word", "low", "high", "char"] ["word", "low", "high"] (defScope s_is_written) := ⟨rfl, rfl, rfl, by decide +kernel, rfl, by decide +kernel, by decide +kernel⟩
theorem ok_is_written (Z : Fc w K mg base XS) : FnP PW w K mg base 1 "is_written" ["word", "low", "high"] m_is_written := by
  obtain ⟨f, fd, F, hm, hb⟩ := Z.f_is_written
  refine fn_mk (k := 0) F sc_is_written hm hb fun cdv A outer s H G0 E c => ?_
  exact (s_cons (s_if (PW.pt (t_or (t_cmp (od_eq c.toGE.hr) nox_eq (d_var 0) d_str (nomark _)) (t_or1 (t_cmp od_gt nox_gt (d_callB cd_len nox_len rfl Z.n_len (a_cons (d_var 0) a_nil)) d_int (nomark _))))) (s_one (s_ret d_bl)) s_nil) (s_cons (s_for c.po c.calm (i_seq (d_var 0)) (g_name 3 c.nd) (s_one (s_if (t_cmp (od_notIn c.toGE.hr) nox_notIn (d_var 3) (d_gstr Z.c_DIGITS) (by rfl)) (s_one (s_ret d_bl)) s_nil))) (s_cons (s_if (PW.pt (t_and (t_cmp od_gt nox_gt (d_callB cd_len nox_len rfl Z.n_len (a_cons (d_var 0) a_nil)) d_int (nomark _)) (t_and1 (t_cmp (od_eq c.toGE.hr) nox_eq (d_ix (d_var 0) d_int (fun _ _ => rfl)) d_str (nomark _))))) (s_one (s_ret d_bl)) s_nil) (s_one (s_ret (d_and (d_cmp od_le nox_le (d_var 1) (d_callTy cd_int nox_int rfl Z.n_int (a_cons (d_var 0) a_nil)) (nomark _)) (d_one (d_cmp od_le nox_le (d_callTy cd_int nox_int rfl Z.n_int (a_cons (d_var 0) a_nil)) (d_var 2) (nomark _)))))))))
abbrev s_limit_at : Stmt := topS 26
theorem sc_limit_at : FnScope ["words", "line", "members", "last", "place"] ["words", "line"] (defScope s_limit_at) := ⟨rfl, rfl, rfl, by decide +kernel, rfl, by decide +kernel, by decide +kernel⟩
theorem ok_limit_at (Z : Fc w K mg base XS) : FnP PW w K mg base 4 "limit_at" ["words", "line"] m_limit_at := by
  obtain ⟨f, fd, F, hm, hb⟩ := Z.f_limit_at
  refine fn_mk (k := 3) F sc_limit_at hm hb fun cdv A outer s H G0 E c => ?_
  exact (s_cons (s_if (t_not (t_tru (d_call (ok_is_written Z) c.toGE (by omega) rfl (a_cons (d_ix (d_var 0) d_int (fun _ _ => rfl)) (a_cons d_int (a_cons (d_gint Z.c_MOST_AT_ONCE) a_nil))) (fl_cons (fl_cons (fl_cons fl_nil)))))) (s_one (s_raise Z.x_BadText c (by decide) mkx_bt (a_cons (d_var 1) (a_cons d_int (a_cons d_str a_nil))))) s_nil) (s_cons (s_if (t_cmp od_lt nox_lt (d_callB cd_len nox_len rfl Z.n_len (a_cons (d_var 0) a_nil)) d_int (nomark _)) (s_one (s_raise Z.x_BadText c (by decide) mkx_bt (a_cons (d_var 1) (a_cons d_int (a_cons d_str a_nil))))) s_nil) (s_cons (s_setO c.nd (o_lst a_nil)) (s_cons (s_set c.nd (d_neg d_int)) (s_cons (s_for c.po c.calm (i_rng2 Z.n_range (a_cons d_int (a_cons (d_callB cd_len nox_len rfl Z.n_len (a_cons (d_var 0) a_nil)) a_nil))) (g_name 4 c.nd) (s_cons (s_if (t_not (t_tru (d_call (ok_is_written Z) c.toGE (by omega) rfl (a_cons (d_ix (d_var 0) (d_var 4) (fun _ _ => rfl)) (a_cons (d_bin od_add nox_add (d_var 3) d_int) (a_cons (d_bin od_sub nox_sub (d_gint Z.c_MOST_KINDS) d_int) a_nil))) (fl_cons (fl_cons (fl_cons fl_nil)))))) (s_one (s_raise Z.x_BadText c (by decide) mkx_bt (a_cons (d_var 1) (a_cons (d_bin od_add nox_add (d_var 4) d_int) (a_cons d_str a_nil))))) s_nil) (s_cons (s_set c.nd (d_callTy cd_int nox_int rfl Z.n_int (a_cons (d_ix (d_var 0) (d_var 4) (fun _ _ => rfl)) a_nil))) (s_one (s_app 2 (d_var 3)))))) (s_frz 2 (s_one (s_ret (d_tup (a_cons (d_callTy cd_tuple nox_tuple rfl Z.n_tuple (a_cons (d_var 2) a_nil)) (a_cons (d_callTy cd_int nox_int rfl Z.n_int (a_cons (d_ix (d_var 0) d_int (fun _ _ => rfl)) a_nil)) a_nil)))))))))))
abbrev s_parse_contract : Stmt := topS 27
theorem sc_parse_contract : FnScope ["text", "contract", "line", "row"] ["text"] (defScope s_parse_contract) := ⟨rfl, rfl, rfl, by decide +kernel, rfl, by decide +kernel, by decide +kernel⟩
theorem ok_parse_contract (Z : Fc w K mg base XS) : FnP PW w K mg base 5 "parse_contract" ["text"] m_parse_contract := by
  obtain ⟨f, fd, F, hm, hb⟩ := Z.f_parse_contract
  refine fn_mk (k := 4) F sc_parse_contract hm hb fun cdv A outer s H G0 E c => ?_
  exact (s_cons (s_drop (d_call (ok_need_text Z) c.toGE (by omega) rfl (a_cons (d_var 0) (a_cons d_str a_nil)) (fl_cons (fl_cons fl_nil)))) (s_cons (s_setO c.nd (o_lst a_nil)) (s_cons (s_set c.nd d_int) (s_cons (s_for c.po c.calm (i_seq (d_call (ok_lines_of Z) c.toGE (by omega) rfl (a_cons (d_var 0) (a_cons (d_gint Z.c_MOST_LIMITS) a_nil)) (fl_cons (fl_cons fl_nil)))) (g_name 3 c.nd) (s_cons (s_aug ip_add 2 c.nd d_int) (s_one (s_app 1 (d_call (ok_limit_at Z) c.toGE (by omega) rfl (a_cons (d_own (o_split (d_var 3) d_str)) (a_cons (d_var 2) a_nil)) (fl_cons (fl_cons fl_nil))))))) (s_one (s_retV 1))))))
abbrev s_need_list : Stmt := topS 11
theorem sc_need_list : FnScope ["value", "limit", "what"] ["value", "limit", "what"] (defScope s_need_list) := ⟨rfl, rfl, rfl, by decide +kernel, rfl, by decide +kernel, by decide +kernel⟩
theorem ok_need_list (Z : Fc w K mg base XS) : FnP PW w K mg base 4 "need_list" ["value", "limit", "what"] m_need_list := by
  obtain ⟨f, fd, F, hm, hb⟩ := Z.f_need_list
  refine fn_mk (k := 3) F sc_need_list hm hb fun cdv A outer s H G0 E c => ?_
  exact (s_cons (s_if (t_not (t_tru (d_isi kit_list Z.n_isinstance Z.n_list rfl (d_var 0)))) (s_one (s_raise Z.x_BadValue c (by decide) mkx_bv (a_cons (d_var 2) a_nil))) s_nil) (s_one (s_if (t_cmp od_gt nox_gt (d_callB cd_len nox_len rfl Z.n_len (a_cons (d_var 0) a_nil)) (d_var 1) (nomark _)) (s_one (s_raise Z.x_TooMany c (by decide) mkx_tm (a_cons (d_var 1) a_nil))) s_nil)))
abbrev s_need_contract : Stmt := topS 21
theorem sc_need_contract : FnScope ["contract", "many", "limit"] ["contract", "many"] (defScope s_need_contract) := ⟨rfl, rfl, rfl, by decide +kernel, rfl, by decide +kernel, by decide +kernel⟩
theorem ok_need_contract (Z : Fc w K mg base XS) : FnP PW w K mg base 6 "need_contract" ["contract", "many"] m_need_contract := by
  obtain ⟨f, fd, F, hm, hb⟩ := Z.f_need_contract
  refine fn_mk (k := 5) F sc_need_contract hm hb fun cdv A outer s H G0 E c => ?_
  exact (s_cons (s_drop (d_call (ok_need_list Z) c.toGE (by omega) rfl (a_cons (d_var 0) (a_cons (d_gint Z.c_MOST_LIMITS) (a_cons d_str a_nil))) (fl_cons (fl_cons (fl_cons fl_nil))))) (s_one (s_for c.po c.calm (i_seq (d_var 0)) (g_name 2 c.nd) (s_one (s_if (t_not (t_tru (d_call (ok_is_limit Z) c.toGE (by omega) rfl (a_cons (d_var 2) (a_cons (d_var 1) a_nil)) (fl_cons (fl_cons fl_nil))))) (s_one (s_raise Z.x_BadValue c (by decide) mkx_bv (a_cons d_str a_nil))) s_nil)))))
abbrev s_format_contract : Stmt := topS 25
theorem sc_format_contract : FnScope ["contract", "lines", "members", "most", "number"] ["contract"] (defScope s_format_contract) := ⟨rfl, rfl, rfl, by decide +kernel, rfl, by decide +kernel, by decide +kernel⟩
theorem ok_format_contract (Z : Fc w K mg base XS) : FnP PW w K mg base 7 "format_contract" ["contract"] m_format_contract := by
  obtain ⟨f, fd, F, hm, hb⟩ := Z.f_format_contract
  refine fn_mk (k := 6) F sc_format_contract hm hb fun cdv A outer s H G0 E c => ?_
  exact (s_cons (s_drop (d_call (ok_need_contract Z) c.toGE (by omega) rfl (a_cons (d_var 0) (a_cons (d_gint Z.c_MOST_KINDS) a_nil)) (fl_cons (fl_cons fl_nil)))) (s_cons (s_setO c.nd (o_lst a_nil)) (s_cons (s_for c.po c.calm (i_seq (d_var 0)) (g_tup c.calm (gs_cons c.nd (gs_cons c.nd gs_nil))) (s_one (s_app 1 (d_join d_str (d_own (o_lc c.toGE (i_seq (d_bin od_add nox_add (d_own (o_lst (a_cons (d_var 3) a_nil))) (d_own (o_callTy co_list nox_list rfl Z.n_list (a_cons (d_var 2) a_nil))))) (x := "number") (i := 4) (by show blkC ["contract", "lines", "members", "most", "number"] (defScope s_format_contract) _ _ = true; decide +kernel) (fun s H C cl fp => pg_name (i := 4) c.nd rfl (Or.inl rfl)) (fun s H C cl fp => ts_nil) (fun s H C cl fp => (d_callTy cd_str nox_str rfl Z.n_str (a_cons (d_var 4) a_nil))))))))) (s_frz 1 (s_one (s_ret (d_join d_str (d_var 1))))))))
abbrev s_allowed : Stmt := topS 23
theorem sc_allowed : FnScope ["contract", "population", "members", "most", "kind"] ["contract", "population"] (defScope s_allowed) := ⟨rfl, rfl, rfl, by decide +kernel, rfl, by decide +kernel, by decide +kernel⟩
theorem ok_allowed (Z : Fc w K mg base XS) : FnP PW w K mg base 1 "allowed" ["contract", "population"] m_allowed := by
  obtain ⟨f, fd, F, hm, hb⟩ := Z.f_allowed
  refine fn_mk (k := 0) F sc_allowed hm hb fun cdv A outer s H G0 E c => ?_
  exact (s_cons (s_for c.po c.calm (i_seq (d_var 0)) (g_tup c.calm (gs_cons c.nd (gs_cons c.nd gs_nil))) (s_one (s_if (t_cmp od_gt nox_gt (d_callB (cd_sum c.toGE.calm) nox_sum rfl Z.n_sum (a_cons (d_own (o_lc c.toGE (i_seq (d_var 2)) (x := "kind") (i := 4) (by show blkC ["contract", "population", "members", "most", "kind"] (defScope s_allowed) _ _ = true; decide +kernel) (fun s H C cl fp => pg_name (i := 4) c.nd rfl (Or.inl rfl)) (fun s H C cl fp => (ts_one (t_cmp od_lt nox_lt (d_var 4) (d_callB cd_len nox_len rfl Z.n_len (a_cons (d_var 1) a_nil)) (nomark _)))) (fun s H C cl fp => (d_ix (d_var 1) (d_var 4) (fun _ _ => rfl))))) a_nil)) (d_var 3) (nomark _)) (s_one (s_ret d_bl)) s_nil))) (s_one (s_ret d_bl)))
abbrev s_is_population : Stmt := topS 22
theorem sc_is_population : FnScope ["value", "number"] ["value"] (defScope s_is_population) := ⟨rfl, rfl, rfl, by decide +kernel, rfl, by decide +kernel, by decide +kernel⟩
theorem ok_is_population (Z : Fc w K mg base XS) : FnP PW w K mg base 2 "is_population" ["value"] m_is_population := by
  obtain ⟨f, fd, F, hm, hb⟩ := Z.f_is_population
  refine fn_mk (k := 1) F sc_is_population hm hb fun cdv A outer s H G0 E c => ?_
  exact (s_cons (s_if (PW.pt (t_or (t_not (t_tru (d_isi kit_tuple Z.n_isinstance Z.n_tuple rfl (d_var 0)))) (t_or (t_cmp od_lt nox_lt (d_callB cd_len nox_len rfl Z.n_len (a_cons (d_var 0) a_nil)) d_int (nomark _)) (t_or1 (t_cmp od_gt nox_gt (d_callB cd_len nox_len rfl Z.n_len (a_cons (d_var 0) a_nil)) (d_gint Z.c_MOST_KINDS) (nomark _)))))) (s_one (s_ret d_bl)) s_nil) (s_cons (s_for c.po c.calm (i_seq (d_var 0)) (g_name 1 c.nd) (s_one (s_if (PW.pt (t_or (t_not (t_tru (d_call (ok_is_integer Z) c.toGE (by omega) rfl (a_cons (d_var 1) a_nil) (fl_cons fl_nil)))) (t_or1 (t_cmp od_lt nox_lt (d_var 1) d_int (nomark _))))) (s_one (s_ret d_bl)) s_nil))) (s_one (s_ret d_bl))))
abbrev s_allows : Stmt := topS 24
theorem sc_allows : FnScope ["contract", "population"] ["contract", "population"] (defScope s_allows) := ⟨rfl, rfl, rfl, by decide +kernel, rfl, by decide +kernel, by decide +kernel⟩
theorem ok_allows (Z : Fc w K mg base XS) : FnP PW w K mg base 7 "allows" ["contract", "population"] m_allows := by
  obtain ⟨f, fd, F, hm, hb⟩ := Z.f_allows
  refine fn_mk (k := 6) F sc_allows hm hb fun cdv A outer s H G0 E c => ?_
  exact (s_cons (s_drop (d_call (ok_need_contract Z) c.toGE (by omega) rfl (a_cons (d_var 0) (a_cons (d_gint Z.c_MOST_KINDS) a_nil)) (fl_cons (fl_cons fl_nil)))) (s_cons (s_if (t_not (t_tru (d_call (ok_is_population Z) c.toGE (by omega) rfl (a_cons (d_var 1) a_nil) (fl_cons fl_nil)))) (s_one (s_raise Z.x_BadValue c (by decide) mkx_bv (a_cons d_str a_nil))) s_nil) (s_one (s_ret (d_call (ok_allowed Z) c.toGE (by omega) rfl (a_cons (d_var 0) (a_cons (d_var 1) a_nil)) (fl_cons (fl_cons fl_nil)))))))
abbrev s__law_told : Stmt := topS 39
theorem sc__law_told : FnScope ["way", "first", "second", "told", "e"] ["way", "first", "second"] (defScope s__law_told) := ⟨rfl, rfl, rfl, by decide +kernel, rfl, by decide +kernel, by decide +kernel⟩
theorem ok__law_told (Z : Fc w K mg base XS) : FnP PW w K mg base 8 "_law_told" ["way", "first", "second"] m__law_told := by
  obtain ⟨f, fd, F, hm, hb⟩ := Z.f__law_told
  refine fn_mk (k := 7) F sc__law_told hm hb fun cdv A outer s H G0 E c => ?_
  exact (s_cons (s_set c.nd d_non) (s_cons (s_try c (fun W' pn xe c' => (s_cons (s_if (t_cmp (od_eq c'.toGE.hr) nox_eq (d_var 0) d_int (nomark _)) (s_one (s_set c'.nd (d_call (ok_parse_contract Z) c'.toGE (by omega) rfl (a_cons (d_var 1) a_nil) (fl_cons fl_nil)))) s_nil) (s_cons (s_if (t_cmp (od_eq c'.toGE.hr) nox_eq (d_var 0) d_int (nomark _)) (s_one (s_set c'.nd (d_call (ok_format_contract Z) c'.toGE (by omega) rfl (a_cons (d_var 1) a_nil) (fl_cons fl_nil)))) s_nil) (s_one (s_if (t_cmp (od_eq c'.toGE.hr) nox_eq (d_var 0) d_int (nomark _)) (s_one (s_set c'.nd (d_call (ok_allows Z) c'.toGE (by omega) rfl (a_cons (d_var 1) (a_cons (d_var 2) a_nil)) (fl_cons (fl_cons fl_nil))))) s_nil))))) (.cons Z.n_BadText rfl rfl (fun e he => Z.cl_BadText e he) (fun p oe cls d pn hz hf => (su_ret (x_tup (xa_cons (x_lift d_str) (xa_cons (x_fld Z.x_BadText (by decide) hz hf rfl) (xa_cons (x_fld Z.x_BadText (by decide) hz hf rfl) (xa_cons (x_fld Z.x_BadText (by decide) hz hf rfl) xa_nil))))))) (.cons Z.n_TooMany rfl rfl (fun e he => Z.cl_TooMany e he) (fun p oe cls d pn hz hf => (su_ret (x_tup (xa_cons (x_lift d_str) (xa_cons (x_fld Z.x_TooMany (by decide) hz hf rfl) xa_nil))))) (.cons Z.n_BadValue rfl rfl (fun e he => Z.cl_BadValue e he) (fun p oe cls d pn hz hf => (su_ret (x_tup (xa_cons (x_lift d_str) (xa_cons (x_fld Z.x_BadValue (by decide) hz hf rfl) xa_nil))))) .nil)))) (s_one (s_ret (d_tup (a_cons d_str (a_cons (d_var 3) a_nil)))))))
abbrev s__law_refused : Stmt := topS 43
theorem sc__law_refused : FnScope ["contract", "place", "choice", "near", "value", "long", "way", "counts", "wrong"] ["contract", "place", "choice"] (defScope s__law_refused) := ⟨rfl, rfl, rfl, by decide +kernel, rfl, by decide +kernel, by decide +kernel⟩
theorem ok__law_refused (Z : Fc w K mg base XS) : FnP PW w K mg base 9 "_law_refused" ["contract", "place", "choice"] m__law_refused := by
  obtain ⟨f, fd, F, hm, hb⟩ := Z.f__law_refused
  refine fn_mk (k := 8) F sc__law_refused hm hb fun cdv A outer s H G0 E c => ?_
  exact (s_cons (s_set c.nd (d_own (o_lst (a_cons (d_tup (a_cons (d_tup (a_cons d_int (a_cons d_int a_nil))) (a_cons d_int a_nil))) (a_cons (d_tup (a_cons (d_tup (a_cons d_int a_nil)) (a_cons (d_neg d_int) a_nil))) (a_cons (d_tup (a_cons (d_tup (a_cons d_int a_nil)) (a_cons d_bl a_nil))) (a_cons (d_tup (a_cons (d_tup (a_cons d_int a_nil)) (a_cons d_non a_nil))) (a_cons (d_tup (a_cons (d_tup a_nil) (a_cons d_int a_nil))) (a_cons (d_tup (a_cons (d_tup (a_cons d_int (a_cons d_int a_nil))) (a_cons d_int a_nil))) (a_cons (d_tup (a_cons (d_tup (a_cons d_int (a_cons d_int a_nil))) (a_cons d_int a_nil))) (a_cons (d_tup (a_cons (d_tup (a_cons d_int a_nil)) (a_cons d_int a_nil))) (a_cons (d_tup (a_cons (d_tup (a_cons (d_neg d_int) (a_cons d_int a_nil))) (a_cons d_int a_nil))) a_nil)))))))))))) (s_cons (s_set c.nd (d_bin od_add nox_add (d_var 3) (d_own (o_lst (a_cons (d_tup (a_cons (d_tup (a_cons d_bl a_nil)) (a_cons d_int a_nil))) (a_cons (d_tup (a_cons (d_own (o_lst (a_cons d_int (a_cons d_int a_nil)))) (a_cons d_int a_nil))) (a_cons (d_own (o_lst (a_cons (d_tup (a_cons d_int (a_cons d_int a_nil))) (a_cons d_int a_nil)))) (a_cons (d_tup (a_cons (d_tup (a_cons d_int (a_cons d_int a_nil))) a_nil)) (a_cons (d_tup (a_cons (d_tup (a_cons d_int (a_cons d_int a_nil))) (a_cons d_int (a_cons d_int a_nil)))) (a_cons (d_tup (a_cons d_int (a_cons (d_tup (a_cons d_int (a_cons d_int a_nil))) a_nil))) (a_cons d_non (a_cons (d_tup (a_cons (d_tup (a_cons d_int (a_cons d_int (a_cons d_int (a_cons d_int (a_cons d_int a_nil)))))) (a_cons d_int a_nil))) a_nil)))))))))))) (s_cons (s_for c.po c.calm (i_seq (d_var 3)) (g_name 4 c.nd) (s_cons (s_setO c.nd (o_slice (d_var 0) p_non (p_some d_int))) (s_cons (s_ins 8 (a_cons (d_var 1) (a_cons (d_var 4) a_nil))) (s_cons (s_if (t_bor 8 (PW.pt (t_or (t_cmp od_isNot nox_isNot (d_call (ok_is_contract Z) c.toGE (by omega) rfl (a_cons (d_var 8) a_nil) (fl_cons fl_nil)) d_bl (nomark _)) (t_or1 (t_not (t_tru (d_call (ok__law_same Z 6) c.toGE (by omega) rfl (a_cons (d_call (ok__law_told Z) c.toGE (by omega) rfl (a_cons d_int (a_cons (d_var 8) (a_cons d_non a_nil))) (fl_cons (fl_cons (fl_cons fl_nil)))) (a_cons (d_tup (a_cons d_str (a_cons d_str a_nil))) a_nil)) (fl_cons (fl_cons fl_nil))))))))) (s_one (s_ret d_bl)) s_nil) (s_one (s_if (t_bor 8 (t_not (t_tru (d_call (ok__law_same Z 6) c.toGE (by omega) rfl (a_cons (d_call (ok__law_told Z) c.toGE (by omega) rfl (a_cons d_int (a_cons (d_var 8) (a_cons d_non a_nil))) (fl_cons (fl_cons (fl_cons fl_nil)))) (a_cons (d_tup (a_cons d_str (a_cons d_str a_nil))) a_nil)) (fl_cons (fl_cons fl_nil)))))) (s_one (s_ret d_bl)) s_nil)))))) (s_cons (s_set c.nd (d_bin od_add nox_add (d_slice (d_bin od_add nox_add (d_var 0) (d_bin od_mul nox_mul (d_own (o_lst (a_cons (d_tup (a_cons (d_tup (a_cons d_int a_nil)) (a_cons d_int a_nil))) a_nil))) d_int)) p_non (p_some d_int)) (d_own (o_lst (a_cons (d_ix (d_var 3) (d_bin od_mod nox_mod (d_callTy cd_int nox_int rfl Z.n_int (a_cons (d_var 2) a_nil)) (d_callB cd_len nox_len rfl Z.n_len (a_cons (d_var 3) a_nil))) (fun _ _ => rfl)) a_nil))))) (s_cons (s_for c.po c.calm (i_new (o_lst (a_cons d_int (a_cons d_int a_nil)))) (g_name 6 c.nd) (s_cons (s_if (t_not (t_tru (d_call (ok__law_same Z 6) c.toGE (by omega) rfl (a_cons (d_call (ok__law_told Z) c.toGE (by omega) rfl (a_cons (d_var 6) (a_cons (d_var 5) (a_cons d_non a_nil))) (fl_cons (fl_cons (fl_cons fl_nil)))) (a_cons (d_tup (a_cons d_str (a_cons d_int a_nil))) a_nil)) (fl_cons (fl_cons fl_nil))))) (s_one (s_ret d_bl)) s_nil) (s_one (s_if (t_not (t_tru (d_call (ok__law_same Z 6) c.toGE (by omega) rfl (a_cons (d_call (ok__law_told Z) c.toGE (by omega) rfl (a_cons (d_var 6) (a_cons (d_callTy cd_tuple nox_tuple rfl Z.n_tuple (a_cons (d_var 0) a_nil)) (a_cons d_non a_nil))) (fl_cons (fl_cons (fl_cons fl_nil)))) (a_cons (d_tup (a_cons d_str (a_cons d_str a_nil))) a_nil)) (fl_cons (fl_cons fl_nil))))) (s_one (s_ret d_bl)) s_nil)))) (s_cons (s_for c.po c.calm (i_new (o_lst (a_cons (d_callTy cd_tuple nox_tuple rfl Z.n_tuple (a_cons (d_var 0) a_nil)) (a_cons (d_var 5) (a_cons d_non (a_cons (d_bin od_add nox_add (d_slice (d_bin od_add nox_add (d_var 5) (d_own (o_lst (a_cons (d_tup (a_cons (d_tup (a_cons d_int a_nil)) (a_cons d_int a_nil))) a_nil)))) p_non (p_some d_int)) (d_own (o_lst (a_cons (d_tup (a_cons (d_tup (a_cons d_int a_nil)) (a_cons d_int a_nil))) a_nil)))) (a_cons d_str (a_cons d_int a_nil)))))))) (g_name 4 c.nd) (s_one (s_if (t_cmp od_isNot nox_isNot (d_call (ok_is_contract Z) c.toGE (by omega) rfl (a_cons (d_var 4) a_nil) (fl_cons fl_nil)) d_bl (nomark _)) (s_one (s_ret d_bl)) s_nil))) (s_cons (s_for c.po c.calm (i_new (o_lst (a_cons (d_tup a_nil) (a_cons (d_tup (a_cons d_int (a_cons d_int (a_cons d_int (a_cons d_int (a_cons d_int a_nil)))))) (a_cons (d_own (o_lst (a_cons d_int (a_cons d_int a_nil)))) (a_cons (d_tup (a_cons d_int (a_cons (d_neg d_int) a_nil))) (a_cons (d_tup (a_cons d_bl a_nil)) (a_cons (d_tup (a_cons d_int (a_cons d_non a_nil))) (a_cons d_non (a_cons (d_tup (a_cons d_int (a_cons d_str a_nil))) (a_cons d_int a_nil))))))))))) (g_name 7 c.nd) (s_one (s_if (t_not (t_tru (d_call (ok__law_same Z 6) c.toGE (by omega) rfl (a_cons (d_call (ok__law_told Z) c.toGE (by omega) rfl (a_cons d_int (a_cons (d_own (o_callTy co_list nox_list rfl Z.n_list (a_cons (d_var 0) a_nil))) (a_cons (d_var 7) a_nil))) (fl_cons (fl_cons (fl_cons fl_nil)))) (a_cons (d_tup (a_cons d_str (a_cons d_str a_nil))) a_nil)) (fl_cons (fl_cons fl_nil))))) (s_one (s_ret d_bl)) s_nil))) (s_one (s_ret (d_cmp od_is nox_is (d_call (ok_is_contract Z) c.toGE (by omega) rfl (a_cons (d_slice (d_bin od_add nox_add (d_var 0) (d_bin od_mul nox_mul (d_own (o_lst (a_cons (d_tup (a_cons (d_tup (a_cons d_int a_nil)) (a_cons d_int a_nil))) a_nil))) d_int)) p_non (p_some d_int)) a_nil) (fl_cons fl_nil)) d_bl (nomark _)))))))))))
abbrev s__law_allows : Stmt := topS 33
theorem sc__law_allows : FnScope ["contract", "counts", "limit", "total", "kind"] ["contract", "counts"] (defScope s__law_allows) := ⟨rfl, rfl, rfl, by decide +kernel, rfl, by decide +kernel, by decide +kernel⟩
theorem ok__law_allows (Z : Fc w K mg base XS) : FnP PW w K mg base 1 "_law_allows" ["contract", "counts"] m__law_allows := by
  obtain ⟨f, fd, F, hm, hb⟩ := Z.f__law_allows
  refine fn_mk (k := 0) F sc__law_allows hm hb fun cdv A outer s H G0 E c => ?_
  exact (s_cons (s_for c.po c.calm (i_seq (d_var 0)) (g_name 2 c.nd) (s_cons (s_set c.nd d_int) (s_cons (s_for c.po c.calm (i_rng1 Z.n_range (a_cons (d_callB cd_len nox_len rfl Z.n_len (a_cons (d_var 1) a_nil)) a_nil)) (g_name 4 c.nd) (s_one (s_if (t_cmp (od_in c.toGE.hr) nox_in (d_var 4) (d_ix (d_var 2) d_int (fun _ _ => rfl)) (by rfl)) (s_one (s_set c.nd (d_bin od_add nox_add (d_var 3) (d_ix (d_var 1) (d_var 4) (fun _ _ => rfl))))) s_nil))) (s_one (s_if (t_cmp od_gt nox_gt (d_var 3) (d_ix (d_var 2) d_int (fun _ _ => rfl)) (nomark _)) (s_one (s_ret d_bl)) s_nil))))) (s_one (s_ret d_bl)))
abbrev s__law_counts : Stmt := topS 41
theorem sc__law_counts : FnScope ["contract", "counts", "passed"] ["contract", "counts"] (defScope s__law_counts) := ⟨rfl, rfl, rfl, by decide +kernel, rfl, by decide +kernel, by decide +kernel⟩
theorem ok__law_counts (Z : Fc w K mg base XS) : FnP PW w K mg base 9 "_law_counts" ["contract", "counts"] m__law_counts := by
  obtain ⟨f, fd, F, hm, hb⟩ := Z.f__law_counts
  refine fn_mk (k := 8) F sc__law_counts hm hb fun cdv A outer s H G0 E c => ?_
  exact (s_cons (s_set c.nd (d_own (o_callTy co_list nox_list rfl Z.n_list (a_cons (d_var 0) a_nil)))) (s_cons (s_if (t_not (t_tru (d_call (ok__law_same Z 6) c.toGE (by omega) rfl (a_cons (d_call (ok__law_told Z) c.toGE (by omega) rfl (a_cons d_int (a_cons (d_var 2) (a_cons (d_var 1) a_nil))) (fl_cons (fl_cons (fl_cons fl_nil)))) (a_cons (d_tup (a_cons d_str (a_cons (d_call (ok__law_allows Z) c.toGE (by omega) rfl (a_cons (d_var 0) (a_cons (d_var 1) a_nil)) (fl_cons (fl_cons fl_nil))) a_nil))) a_nil)) (fl_cons (fl_cons fl_nil))))) (s_one (s_ret d_bl)) s_nil) (s_one (s_ret (d_call (ok__law_same Z 6) c.toGE (by omega) rfl (a_cons (d_var 2) (a_cons (d_var 0) a_nil)) (fl_cons (fl_cons fl_nil)))))))
abbrev s__law_populations : Stmt := topS 42
theorem sc__law_populations : FnScope ["contract", "cell", "numbers", "k", "counts", "limit", "close", "number"] ["contract", "cell"] (defScope s__law_populations) := ⟨rfl, rfl, rfl, by decide +kernel, rfl, by decide +kernel, by decide +kernel⟩
theorem ok__law_populations (Z : Fc w K mg base XS) : FnP PW w K mg base 10 "_law_populations" ["contract", "cell"] m__law_populations := by
  obtain ⟨f, fd, F, hm, hb⟩ := Z.f__law_populations
  refine fn_mk (k := 9) F sc__law_populations hm hb fun cdv A outer s H G0 E c => ?_
  exact (s_cons (s_set c.nd (d_call (ok__law_row Z) c.toGE (by omega) rfl (a_cons (d_var 1) (a_cons d_int (a_cons d_int a_nil))) (fl_cons (fl_cons (fl_cons fl_nil))))) (s_cons (s_for c.po c.calm (i_rng1 Z.n_range (a_cons d_int a_nil)) (g_name 3 c.nd) (s_cons (s_setLcS (j := 4) c.toGE rfl rfl (sw_true rfl rfl rfl (by decide +kernel)) (i_seq (d_slice (d_var 2) (p_some (d_bin od_mul nox_mul d_int (d_var 3))) (p_some (d_bin od_add nox_add (d_bin od_mul nox_mul d_int (d_var 3)) d_int)))) (x := "number") (i := 7) (by show blkC ["contract", "cell", "numbers", "k", "counts", "limit", "close", "number"] (defScope s__law_populations) _ _ = true; decide +kernel) (fun s H C cl fp => pg_name (i := 7) c.nd rfl (Or.inl rfl)) (fun s H C cl fp => ts_nil) (fun s H C cl fp => (d_bin od_mod nox_mod (d_callTy cd_int nox_int rfl Z.n_int (a_cons (d_var 7) a_nil)) (d_ix (d_own (o_lst (a_cons d_int (a_cons d_int (a_cons d_int a_nil))))) (d_bin od_mod nox_mod (d_callTy cd_int nox_int rfl Z.n_int (a_cons (d_bin od_fdiv nox_fdiv (d_ix (d_var 2) (d_var 3) (fun _ _ => rfl)) d_int) a_nil)) d_int) (fun _ _ => rfl))))) (s_cons (s_set c.nd (d_slice (d_var 4) p_non (p_some (d_bin od_add nox_add d_int (d_bin od_mod nox_mod (d_callTy cd_int nox_int rfl Z.n_int (a_cons (d_ix (d_var 2) (d_var 3) (fun _ _ => rfl)) a_nil)) d_int))))) (s_cons (s_if (t_not (t_tru (d_call (ok__law_counts Z) c.toGE (by omega) rfl (a_cons (d_var 0) (a_cons (d_callTy cd_tuple nox_tuple rfl Z.n_tuple (a_cons (d_var 4) a_nil)) a_nil)) (fl_cons (fl_cons fl_nil))))) (s_one (s_ret d_bl)) s_nil) (s_one (s_for c.po c.calm (i_seq (d_var 0)) (g_name 5 c.nd) (s_cons (s_setO c.nd (o_lst (a_cons d_int (a_cons d_int (a_cons d_int (a_cons d_int a_nil)))))) (s_cons (s_put 6 (d_ix (d_ix (d_var 5) d_int (fun _ _ => rfl)) d_int (fun _ _ => rfl)) (d_bin od_fdiv nox_fdiv (d_ix (d_var 5) d_int (fun _ _ => rfl)) d_int)) (s_cons (s_putAug ip_add 6 (d_ix (d_ix (d_var 5) d_int (fun _ _ => rfl)) (d_neg d_int) (fun _ _ => rfl)) (d_bin od_sub nox_sub (d_ix (d_var 5) d_int (fun _ _ => rfl)) (d_bin od_fdiv nox_fdiv (d_ix (d_var 5) d_int (fun _ _ => rfl)) d_int))) (s_cons (s_if (t_cmp (od_eq c.toGE.hr) nox_eq (d_bin od_mod nox_mod (d_callTy cd_int nox_int rfl Z.n_int (a_cons (d_ix (d_var 2) (d_bin od_fdiv nox_fdiv (d_var 3) d_int) (fun _ _ => rfl)) a_nil)) d_int) d_int (nomark _)) (s_one (s_putAug ip_add 6 (d_ix (d_ix (d_var 5) d_int (fun _ _ => rfl)) (d_bin od_mod nox_mod (d_callTy cd_int nox_int rfl Z.n_int (a_cons (d_ix (d_var 2) (d_var 3) (fun _ _ => rfl)) a_nil)) (d_callB cd_len nox_len rfl Z.n_len (a_cons (d_ix (d_var 5) d_int (fun _ _ => rfl)) a_nil))) (fun _ _ => rfl)) (d_var 3))) s_nil) (s_one (s_if (t_bor 6 (PW.pt (t_or (t_not (t_tru (d_call (ok__law_counts Z) c.toGE (by omega) rfl (a_cons (d_var 0) (a_cons (d_callTy cd_tuple nox_tuple rfl Z.n_tuple (a_cons (d_var 6) a_nil)) a_nil)) (fl_cons (fl_cons fl_nil))))) (t_or1 (t_not (t_tru (d_call (ok__law_counts Z) c.toGE (by omega) rfl (a_cons (d_var 0) (a_cons (d_callTy cd_tuple nox_tuple rfl Z.n_tuple (a_cons (d_slice (d_var 6) p_non (p_some (d_bin od_add nox_add d_int (d_bin od_mod nox_mod (d_var 3) d_int)))) a_nil)) a_nil)) (fl_cons (fl_cons fl_nil))))))))) (s_one (s_ret d_bl)) s_nil)))))))))))) (s_one (s_ret (d_and (d_call (ok__law_counts Z) c.toGE (by omega) rfl (a_cons (d_var 0) (a_cons (d_tup (a_cons d_int (a_cons d_int (a_cons (d_bin od_pow nox_pow d_int d_int) (a_cons d_int a_nil))))) a_nil)) (fl_cons (fl_cons fl_nil))) (d_and (d_call (ok__law_counts Z) c.toGE (by omega) rfl (a_cons (d_var 0) (a_cons (d_tup (a_cons d_int a_nil)) a_nil)) (fl_cons (fl_cons fl_nil))) (d_one (d_call (ok__law_counts Z) c.toGE (by omega) rfl (a_cons (d_var 0) (a_cons (d_tup (a_cons d_int (a_cons d_int a_nil))) a_nil)) (fl_cons (fl_cons fl_nil))))))))))
abbrev s__law_number : Stmt := topS 37
theorem sc__law_number : FnScope ["word", "low", "high", "char"] ["word", "low", "high"] (defScope s__law_number) := ⟨rfl, rfl, rfl, by decide +kernel, rfl, by decide +kernel, by decide +kernel⟩
theorem ok__law_number (Z : Fc w K mg base XS) : FnP PW w K mg base 1 "_law_number" ["word", "low", "high"] m__law_number := by
  obtain ⟨f, fd, F, hm, hb⟩ := Z.f__law_number
  refine fn_mk (k := 0) F sc__law_number hm hb fun cdv A outer s H G0 E c => ?_
  exact (s_cons (s_for c.po c.calm (i_seq (d_var 0)) (g_name 3 c.nd) (s_one (s_if (t_cmp (od_notIn c.toGE.hr) nox_notIn (d_var 3) d_str (by rfl)) (s_one (s_ret d_bl)) s_nil))) (s_one (s_ret (d_and (d_cmp (od_ne c.toGE.hr) nox_ne (d_var 0) d_str (nomark _)) (d_and (d_cmp (od_eq c.toGE.hr) nox_eq (d_callTy cd_str nox_str rfl Z.n_str (a_cons (d_callTy cd_int nox_int rfl Z.n_int (a_cons (d_var 0) a_nil)) a_nil)) (d_var 0) (nomark _)) (d_and (d_cmp od_le nox_le (d_var 1) (d_callTy cd_int nox_int rfl Z.n_int (a_cons (d_var 0) a_nil)) (nomark _)) (d_one (d_cmp od_le nox_le (d_callTy cd_int nox_int rfl Z.n_int (a_cons (d_var 0) a_nil)) (d_var 2) (nomark _)))))))))
abbrev s__law_read : Stmt := topS 38
theorem sc__law_read : FnScope ["text", "lines", "contract", "k", "words", "members", "place"] ["text"] (defScope s__law_read) := ⟨rfl, rfl, rfl, by decide +kernel, rfl, by decide +kernel, by decide +kernel⟩
theorem ok__law_read (Z : Fc w K mg base XS) : FnP PW w K mg base 2 "_law_read" ["text"] m__law_read := by
  obtain ⟨f, fd, F, hm, hb⟩ := Z.f__law_read
  refine fn_mk (k := 1) F sc__law_read hm hb fun cdv A outer s H G0 E c => ?_
  exact (s_cons (s_if (t_cmp (od_eq c.toGE.hr) nox_eq (d_var 0) d_str (nomark _)) (s_one (s_ret (d_tup (a_cons d_str (a_cons (d_own (o_lst a_nil)) a_nil))))) s_nil) (s_cons (s_set c.nd (d_own (o_split (d_var 0) d_str))) (s_cons (s_if (t_cmp od_gt nox_gt (d_callB cd_len nox_len rfl Z.n_len (a_cons (d_var 1) a_nil)) d_int (nomark _)) (s_one (s_ret (d_tup (a_cons d_str (a_cons d_int a_nil))))) s_nil) (s_cons (s_setO c.nd (o_lst a_nil)) (s_cons (s_for c.po c.calm (i_rng1 Z.n_range (a_cons (d_callB cd_len nox_len rfl Z.n_len (a_cons (d_var 1) a_nil)) a_nil)) (g_name 3 c.nd) (s_cons (s_set c.nd (d_own (o_split (d_ix (d_var 1) (d_var 3) (fun _ _ => rfl)) d_str))) (s_cons (s_if (t_not (t_tru (d_call (ok__law_number Z) c.toGE (by omega) rfl (a_cons (d_ix (d_var 4) d_int (fun _ _ => rfl)) (a_cons d_int (a_cons d_int a_nil))) (fl_cons (fl_cons (fl_cons fl_nil)))))) (s_one (s_ret (d_tup (a_cons d_str (a_cons (d_bin od_add nox_add (d_var 3) d_int) (a_cons d_int (a_cons d_str a_nil))))))) s_nil) (s_cons (s_if (t_cmp (od_eq c.toGE.hr) nox_eq (d_callB cd_len nox_len rfl Z.n_len (a_cons (d_var 4) a_nil)) d_int (nomark _)) (s_one (s_ret (d_tup (a_cons d_str (a_cons (d_bin od_add nox_add (d_var 3) d_int) (a_cons d_int (a_cons d_str a_nil))))))) s_nil) (s_cons (s_setO c.nd (o_lst a_nil)) (s_cons (s_for c.po c.calm (i_rng2 Z.n_range (a_cons d_int (a_cons (d_callB cd_len nox_len rfl Z.n_len (a_cons (d_var 4) a_nil)) a_nil))) (g_name 6 c.nd) (s_cons (s_if (t_bor 5 (PW.pt (t_or (t_not (t_tru (d_call (ok__law_number Z) c.toGE (by omega) rfl (a_cons (d_ix (d_var 4) (d_var 6) (fun _ _ => rfl)) (a_cons d_int (a_cons d_int a_nil))) (fl_cons (fl_cons (fl_cons fl_nil)))))) (t_or1 (PW.pt (t_and (t_cmp od_gt nox_gt (d_callB cd_len nox_len rfl Z.n_len (a_cons (d_var 5) a_nil)) d_int (nomark _)) (t_and1 (t_cmp od_le nox_le (d_callTy cd_int nox_int rfl Z.n_int (a_cons (d_ix (d_var 4) (d_var 6) (fun _ _ => rfl)) a_nil)) (d_ix (d_var 5) (d_neg d_int) (fun _ _ => rfl)) (nomark _))))))))) (s_one (s_ret (d_tup (a_cons d_str (a_cons (d_bin od_add nox_add (d_var 3) d_int) (a_cons (d_bin od_add nox_add (d_var 6) d_int) (a_cons d_str a_nil))))))) s_nil) (s_one (s_app 5 (d_callTy cd_int nox_int rfl Z.n_int (a_cons (d_ix (d_var 4) (d_var 6) (fun _ _ => rfl)) a_nil)))))) (s_frz 5 (s_one (s_app 2 (d_tup (a_cons (d_callTy cd_tuple nox_tuple rfl Z.n_tuple (a_cons (d_var 5) a_nil)) (a_cons (d_callTy cd_int nox_int rfl Z.n_int (a_cons (d_ix (d_var 4) d_int (fun _ _ => rfl)) a_nil)) a_nil)))))))))))) (s_frz 2 (s_one (s_ret (d_tup (a_cons d_str (a_cons (d_var 2) a_nil)))))))))))
abbrev s__law_asked : Stmt := topS 40
theorem sc__law_asked : FnScope ["text", "due", "told"] ["text"] (defScope s__law_asked) := ⟨rfl, rfl, rfl, by decide +kernel, rfl, by decide +kernel, by decide +kernel⟩
theorem ok__law_asked (Z : Fc w K mg base XS) : FnP PW w K mg base 9 "_law_asked" ["text"] m__law_asked := by
  obtain ⟨f, fd, F, hm, hb⟩ := Z.f__law_asked
  refine fn_mk (k := 8) F sc__law_asked hm hb fun cdv A outer s H G0 E c => ?_
  exact (s_cons (s_set c.nd (d_call (ok__law_read Z) c.toGE (by omega) rfl (a_cons (d_var 0) a_nil) (fl_cons fl_nil))) (s_cons (s_setT 2 (ok__law_told Z) c.toGE (by omega) rfl (a_cons d_int (a_cons (d_var 0) (a_cons d_non a_nil))) (fl_cons (fl_cons (fl_cons fl_nil)))) (s_cons (s_if (t_tmp 2 (t_not (t_tru (d_call (ok__law_same Z 6) c.toGE (by omega) rfl (a_cons (d_var 2) (a_cons (d_var 1) a_nil)) (fl_cons (fl_cons fl_nil)))))) (s_one (s_ret d_bl)) s_nil) (s_cons (s_if (t_cmp (od_ne c.toGE.hr) nox_ne (d_ix (d_var 1) d_int (fun _ _ => rfl)) d_str (nomark _)) (s_one (s_ret d_bl)) s_nil) (s_cons (s_if (PW.pt (t_or (t_not (t_tru (d_call (ok__law_same Z 6) c.toGE (by omega) rfl (a_cons (d_call (ok__law_told Z) c.toGE (by omega) rfl (a_cons d_int (a_cons (d_own (o_callTy co_list nox_list rfl Z.n_list (a_cons (d_ix (d_var 1) d_int (fun _ _ => rfl)) a_nil))) (a_cons d_non a_nil))) (fl_cons (fl_cons (fl_cons fl_nil)))) (a_cons (d_tup (a_cons d_str (a_cons (d_var 0) a_nil))) a_nil)) (fl_cons (fl_cons fl_nil))))) (t_or1 (t_cmp od_isNot nox_isNot (d_call (ok_is_contract Z) c.toGE (by omega) rfl (a_cons (d_own (o_callTy co_list nox_list rfl Z.n_list (a_cons (d_ix (d_var 1) d_int (fun _ _ => rfl)) a_nil))) a_nil) (fl_cons fl_nil)) d_bl (nomark _))))) (s_one (s_ret d_bl)) s_nil) (s_cons (s_appT 2 (d_tup (a_cons (d_tup (a_cons d_int a_nil)) (a_cons d_int a_nil)))) (s_one (s_ret (d_call (ok__law_same Z 6) c.toGE (by omega) rfl (a_cons (d_call (ok__law_told Z) c.toGE (by omega) rfl (a_cons d_int (a_cons (d_var 0) (a_cons d_non a_nil))) (fl_cons (fl_cons (fl_cons fl_nil)))) (a_cons (d_var 1) a_nil)) (fl_cons (fl_cons fl_nil)))))))))))
abbrev s__law_changed : Stmt := topS 36
theorem sc__law_changed : FnScope ["text", "cell", "numbers", "lines", "turn", "way", "at", "words", "place", "other", "word"] ["text", "cell"] (defScope s__law_changed) := ⟨rfl, rfl, rfl, by decide +kernel, rfl, by decide +kernel, by decide +kernel⟩
theorem ok__law_changed (Z : Fc w K mg base XS) : FnP PW w K mg base 2 "_law_changed" ["text", "cell"] m__law_changed := by
  obtain ⟨f, fd, F, hm, hb⟩ := Z.f__law_changed
  refine fn_mk (k := 1) F sc__law_changed hm hb fun cdv A outer s H G0 E c => ?_
  exact (s_cons (s_set c.nd (d_call (ok__law_row Z) c.toGE (by omega) rfl (a_cons (d_var 1) (a_cons d_int (a_cons d_int a_nil))) (fl_cons (fl_cons (fl_cons fl_nil))))) (s_cons (s_setO c.nd (o_split (d_var 0) d_str)) (s_cons (s_for c.po c.calm (i_rng1 Z.n_range (a_cons d_int a_nil)) (g_name 4 c.nd) (s_cons (s_set c.nd (d_bin od_mod nox_mod (d_callTy cd_int nox_int rfl Z.n_int (a_cons (d_ix (d_var 2) (d_bin od_mul nox_mul d_int (d_var 4)) (fun _ _ => rfl)) a_nil)) d_int)) (s_cons (s_set c.nd (d_bor 3 (d_bin od_mod nox_mod (d_callTy cd_int nox_int rfl Z.n_int (a_cons (d_ix (d_var 2) (d_bin od_add nox_add (d_bin od_mul nox_mul d_int (d_var 4)) d_int) (fun _ _ => rfl)) a_nil)) (d_callB cd_len nox_len rfl Z.n_len (a_cons (d_var 3) a_nil))))) (s_cons (s_setO c.nd (o_split (d_ixO 3 (d_var 6) (fun _ _ => rfl)) d_str)) (s_cons (s_set c.nd (d_bor 7 (d_bin od_mod nox_mod (d_callTy cd_int nox_int rfl Z.n_int (a_cons (d_ix (d_var 2) (d_bin od_add nox_add (d_bin od_mul nox_mul d_int (d_var 4)) d_int) (fun _ _ => rfl)) a_nil)) (d_callB cd_len nox_len rfl Z.n_len (a_cons (d_var 7) a_nil))))) (s_cons (s_set c.nd (d_bor 7 (d_bin od_mod nox_mod (d_callTy cd_int nox_int rfl Z.n_int (a_cons (d_ix (d_var 2) (d_bin od_add nox_add (d_bin od_mul nox_mul d_int (d_var 4)) d_int) (fun _ _ => rfl)) a_nil)) (d_callB cd_len nox_len rfl Z.n_len (a_cons (d_var 7) a_nil))))) (s_cons (s_if (PW.pt (t_or (t_cmp (od_eq c.toGE.hr) nox_eq (d_var 5) d_int (nomark _)) (t_or1 (t_cmp (od_eq c.toGE.hr) nox_eq (d_var 5) d_int (nomark _))))) (s_one (s_put 7 (d_var 8) (d_call (ok__law_word Z) c.toGE (by omega) rfl (a_cons (d_ix (d_var 2) (d_bin od_add nox_add (d_bin od_mul nox_mul d_int (d_var 4)) d_int) (fun _ _ => rfl)) a_nil) (fl_cons fl_nil)))) s_nil) (s_cons (s_if (t_cmp (od_eq c.toGE.hr) nox_eq (d_var 5) d_int (nomark _)) (s_one (s_popAt 7 (d_var 8))) s_nil) (s_cons (s_if (PW.pt (t_or (t_cmp (od_eq c.toGE.hr) nox_eq (d_var 5) d_int (nomark _)) (t_or1 (t_cmp (od_eq c.toGE.hr) nox_eq (d_var 5) d_int (nomark _))))) (s_one (s_app 7 (d_call (ok__law_word Z) c.toGE (by omega) rfl (a_cons (d_ix (d_var 2) (d_bin od_add nox_add (d_bin od_mul nox_mul d_int (d_var 4)) d_int) (fun _ _ => rfl)) a_nil) (fl_cons fl_nil)))) s_nil) (s_cons (s_if (t_cmp (od_eq c.toGE.hr) nox_eq (d_var 5) d_int (nomark _)) (s_cons (s_set c.nd (d_ixO 7 (d_var 8) (fun _ _ => rfl))) (s_cons (s_put 7 (d_var 8) (d_ixO 7 (d_var 9) (fun _ _ => rfl))) (s_one (s_put 7 (d_var 9) (d_var 10))))) s_nil) (s_cons (s_if (t_cmp (od_eq c.toGE.hr) nox_eq (d_var 5) d_int (nomark _)) (s_one (s_ins 7 (a_cons (d_var 8) (a_cons d_str a_nil)))) s_nil) (s_cons (s_put 3 (d_var 6) (d_bor 7 (d_join d_str (d_var 7)))) (s_cons (s_if (t_cmp (od_eq c.toGE.hr) nox_eq (d_var 5) d_int (nomark _)) (s_one (s_ins 3 (a_cons (d_var 6) (a_cons d_str a_nil)))) s_nil) (s_one (s_if (t_cmp (od_eq c.toGE.hr) nox_eq (d_var 5) d_int (nomark _)) (s_one (s_app 3 d_str)) s_nil))))))))))))))) (s_frz 3 (s_one (s_ret (d_join d_str (d_var 3))))))))
abbrev s_law : Stmt := topS 44
theorem sc_law : FnScope ["script", "shape", "contract", "text", "passed", "lines", "value"] ["script"] (defScope s_law) := ⟨rfl, rfl, rfl, by decide +kernel, rfl, by decide +kernel, by decide +kernel⟩
theorem okF_law (Z : Fc w K mg base XS) {f : Addr} {fd : FuncData} (F : Fun K "law" "law" s_law f fd) : FnOk PW w K mg base (L2.CX PW w) 11 f fd ["script"] (spOf K mg 1 m_law) := by
  refine fn_ok (k := 10) F sc_law fun cdv A outer s H G0 E c => ?_
  exact (s_cons (s_set c.nd (d_call (ok__law_row Z) c.toGE (by omega) rfl (a_cons (d_call (ok__law_cell Z) c.toGE (by omega) rfl (a_cons (d_var 0) (a_cons d_int a_nil)) (fl_cons (fl_cons fl_nil))) (a_cons d_int (a_cons d_int a_nil))) (fl_cons (fl_cons (fl_cons fl_nil))))) (s_cons (s_set c.nd (d_call (ok__law_contract Z) c.toGE (by omega) rfl (a_cons (d_var 0) (a_cons (d_bin od_mod nox_mod (d_callTy cd_int nox_int rfl Z.n_int (a_cons (d_ix (d_var 1) d_int (fun _ _ => rfl)) a_nil)) d_int) a_nil)) (fl_cons (fl_cons fl_nil)))) (s_cons (s_set c.nd (d_call (ok__law_written Z) c.toGE (by omega) rfl (a_cons (d_var 2) a_nil) (fl_cons fl_nil))) (s_cons (s_set c.nd (d_own (o_callTy co_list nox_list rfl Z.n_list (a_cons (d_var 2) a_nil)))) (s_cons (s_if (PW.pt (t_or (t_cmp od_isNot nox_isNot (d_call (ok_is_contract Z) c.toGE (by omega) rfl (a_cons (d_var 4) a_nil) (fl_cons fl_nil)) d_bl (nomark _)) (t_or1 (t_not (t_tru (d_call (ok__law_same Z 6) c.toGE (by omega) rfl (a_cons (d_call (ok__law_told Z) c.toGE (by omega) rfl (a_cons d_int (a_cons (d_var 4) (a_cons d_non a_nil))) (fl_cons (fl_cons (fl_cons fl_nil)))) (a_cons (d_tup (a_cons d_str (a_cons (d_var 3) a_nil))) a_nil)) (fl_cons (fl_cons fl_nil)))))))) (s_one (s_ret d_bl)) s_nil) (s_cons (s_if (PW.pt (t_or (t_not (t_tru (d_call (ok__law_same Z 6) c.toGE (by omega) rfl (a_cons (d_call (ok__law_told Z) c.toGE (by omega) rfl (a_cons d_int (a_cons (d_var 3) (a_cons d_non a_nil))) (fl_cons (fl_cons (fl_cons fl_nil)))) (a_cons (d_tup (a_cons d_str (a_cons (d_var 2) a_nil))) a_nil)) (fl_cons (fl_cons fl_nil))))) (t_or1 (t_not (t_tru (d_call (ok__law_same Z 6) c.toGE (by omega) rfl (a_cons (d_var 4) (a_cons (d_var 2) a_nil)) (fl_cons (fl_cons fl_nil)))))))) (s_one (s_ret d_bl)) s_nil) (s_cons (s_if (PW.pt (t_or (t_not (t_tru (d_call (ok__law_asked Z) c.toGE (by omega) rfl (a_cons (d_var 3) a_nil) (fl_cons fl_nil)))) (t_or1 (t_not (t_tru (d_call (ok__law_asked Z) c.toGE (by omega) rfl (a_cons (d_call (ok__law_changed Z) c.toGE (by omega) rfl (a_cons (d_var 3) (a_cons (d_call (ok__law_cell Z) c.toGE (by omega) rfl (a_cons (d_var 0) (a_cons d_int a_nil)) (fl_cons (fl_cons fl_nil))) a_nil)) (fl_cons (fl_cons fl_nil))) a_nil) (fl_cons fl_nil))))))) (s_one (s_ret d_bl)) s_nil) (s_cons (s_setO c.nd (o_slice (d_bin od_add nox_add (d_own (o_split (d_var 3) d_str)) (d_bin od_mul nox_mul (d_own (o_lst (a_cons d_str a_nil))) d_int)) p_non (p_some d_int))) (s_cons (s_put 5 (d_bin od_mod nox_mod (d_callTy cd_int nox_int rfl Z.n_int (a_cons (d_ix (d_var 1) d_int (fun _ _ => rfl)) a_nil)) d_int) (d_call (ok__law_word Z) c.toGE (by omega) rfl (a_cons (d_ix (d_var 1) d_int (fun _ _ => rfl)) a_nil) (fl_cons fl_nil))) (s_cons (s_if (t_bor 5 (PW.pt (t_or (t_not (t_tru (d_call (ok__law_asked Z) c.toGE (by omega) rfl (a_cons (d_join d_str (d_var 5)) a_nil) (fl_cons fl_nil)))) (t_or (t_not (t_tru (d_call (ok__law_asked Z) c.toGE (by omega) rfl (a_cons (d_join d_str (d_slice (d_var 5) p_non (p_some d_int))) a_nil) (fl_cons fl_nil)))) (t_or1 (t_not (t_tru (d_call (ok__law_asked Z) c.toGE (by omega) rfl (a_cons (d_join d_str (d_slice (d_var 5) (p_some d_int) p_non)) a_nil) (fl_cons fl_nil))))))))) (s_one (s_ret d_bl)) s_nil) (s_frz 5 (s_cons (s_for c.po c.calm (i_new (o_lst (a_cons d_non (a_cons d_int (a_cons (d_own (o_callTy co_list nox_list rfl Z.n_list (a_cons (d_var 5) a_nil))) (a_cons (d_callTy cd_tuple nox_tuple rfl Z.n_tuple (a_cons (d_var 2) a_nil)) a_nil)))))) (g_name 6 c.nd) (s_one (s_if (t_not (t_tru (d_call (ok__law_same Z 6) c.toGE (by omega) rfl (a_cons (d_call (ok__law_told Z) c.toGE (by omega) rfl (a_cons d_int (a_cons (d_var 6) (a_cons d_non a_nil))) (fl_cons (fl_cons (fl_cons fl_nil)))) (a_cons (d_tup (a_cons d_str (a_cons d_str a_nil))) a_nil)) (fl_cons (fl_cons fl_nil))))) (s_one (s_ret d_bl)) s_nil))) (s_cons (s_if (t_not (t_tru (d_call (ok__law_populations Z) c.toGE (by omega) rfl (a_cons (d_var 2) (a_cons (d_call (ok__law_cell Z) c.toGE (by omega) rfl (a_cons (d_var 0) (a_cons d_int a_nil)) (fl_cons (fl_cons fl_nil))) a_nil)) (fl_cons (fl_cons fl_nil))))) (s_one (s_ret d_bl)) s_nil) (s_one (s_ret (d_call (ok__law_refused Z) c.toGE (by omega) rfl (a_cons (d_var 2) (a_cons (d_bin od_mod nox_mod (d_callTy cd_int nox_int rfl Z.n_int (a_cons (d_ix (d_var 1) d_int (fun _ _ => rfl)) a_nil)) (d_bin od_add nox_add (d_callB (cd_min2 c.toGE.calm) nox_min2 rfl Z.n_min (a_cons d_int (a_cons (d_callB cd_len nox_len rfl Z.n_len (a_cons (d_var 2) a_nil)) a_nil))) d_int)) (a_cons (d_ix (d_var 1) d_int (fun _ _ => rfl)) a_nil))) (fl_cons (fl_cons (fl_cons fl_nil)))))))))))))))))))
end K55

open PySem PySem.W PyProof.Rows
set_option maxRecDepth 100000 in
set_option maxHeartbeats 0 in
theorem PySem.Challenge.cw_parcelbank_k55_contracts_and_their_text_holds : PySem.Challenge.rw_parcelbank_k55_contracts_and_their_text.Holds := by
  w_on; o_law; k_head; (case hw => w_witness2)
  k_fill
  refine L2.walk_of (l := PySem.Challenge.rw_parcelbank_k55_contracts_and_their_text) (n := 63) (k := 11) (x := "script") (CX := fun w => L2.CX PySem.Challenge.pw_parcelbank_k55_contracts_and_their_text w) (sp := fun w => PL.spLaw _) rfl (by decide) rfl ⟨rfl, by decide, by decide⟩ (fun w h Y => PySem.W.kIn_of Y) ?F (fun w H a ns hl hO hS => ⟨a, ns, rfl, hS, hl, fun _ => rfl⟩) ?hCX
  case hCX => intro w H s e s' hh; exact PL.cx_false hh
  case F =>
    intro w mg fa h KX G hmg
    have n_abs : mg "abs" = none := PySem.W.mg_none_of KX G (by k_is)
    have n_bool : mg "bool" = none := PySem.W.mg_none_of KX G (by k_is)
    have n_int : mg "int" = none := PySem.W.mg_none_of KX G (by k_is)
    have n_isinstance : mg "isinstance" = none := PySem.W.mg_none_of KX G (by k_is)
    have n_len : mg "len" = none := PySem.W.mg_none_of KX G (by k_is)
    have n_list : mg "list" = none := PySem.W.mg_none_of KX G (by k_is)
    have n_min : mg "min" = none := PySem.W.mg_none_of KX G (by k_is)
    have n_range : mg "range" = none := PySem.W.mg_none_of KX G (by k_is)
    have n_str : mg "str" = none := PySem.W.mg_none_of KX G (by k_is)
    have n_sum : mg "sum" = none := PySem.W.mg_none_of KX G (by k_is)
    have n_tuple : mg "tuple" = none := PySem.W.mg_none_of KX G (by k_is)
    have c_DIGITS : ∃ t, mg "DIGITS" = some (.str "0123456789" t) := by
      refine' PL.cstr_mk KX G ?a ?e; (case a => k_is); (case e => rfl)
    have c_MOST_AT_ONCE : ∃ t, mg "MOST_AT_ONCE" = some (.int 30 t) := by
      refine' PL.cint_mk KX G ?a ?e; (case a => k_is); (case e => rfl)
    have c_MOST_KINDS : ∃ t, mg "MOST_KINDS" = some (.int 4 t) := by
      refine' PL.cint_mk KX G ?a ?e; (case a => k_is); (case e => rfl)
    have c_MOST_LIMITS : ∃ t, mg "MOST_LIMITS" = some (.int 6 t) := by
      refine' PL.cint_mk KX G ?a ?e; (case a => k_is); (case e => rfl)
    have f__law_row : PL.FxK KX K55.PW mg "_law_row" "_law_row" (K55.topS 30) ["cell", "many", "limit"] := by
      refine' PL.fx_mk KX G ?a ?l ?c ?k (fun _ _ _ _ _ _ us hl => match us, hl with | [_, _, _], _ => rfl); (case a => k_is); (case l => k_is); (case c => k_is); (case k => k_is)
    have f__law_cell : PL.FxK KX K55.PW mg "_law_cell" "_law_cell" (K55.topS 29) ["script", "k"] := by
      refine' PL.fx_mk KX G ?a ?l ?c ?k (fun _ _ _ _ _ _ us hl => match us, hl with | [_, _], _ => rfl); (case a => k_is); (case l => k_is); (case c => k_is); (case k => k_is)
    have f__law_contract : PL.FxK KX K55.PW mg "_law_contract" "_law_contract" (K55.topS 32) ["script", "many"] := by
      refine' PL.fx_mk KX G ?a ?l ?c ?k (fun _ _ _ _ _ _ us hl => match us, hl with | [_, _], _ => rfl); (case a => k_is); (case l => k_is); (case c => k_is); (case k => k_is)
    have f__law_written : PL.FxK KX K55.PW mg "_law_written" "_law_written" (K55.topS 34) ["contract"] := by
      refine' PL.fx_mk KX G ?a ?l ?c ?k (fun _ _ _ _ _ _ us hl => match us, hl with | [_], _ => rfl); (case a => k_is); (case l => k_is); (case c => k_is); (case k => k_is)
    have f__law_word : PL.FxK KX K55.PW mg "_law_word" "_law_word" (K55.topS 35) ["number"] := by
      refine' PL.fx_mk KX G ?a ?l ?c ?k (fun _ _ _ _ _ _ us hl => match us, hl with | [_], _ => rfl); (case a => k_is); (case l => k_is); (case c => k_is); (case k => k_is)
    have f_is_integer : PL.FxK KX K55.PW mg "is_integer" "is_integer" (K55.topS 7) ["value"] := by
      refine' PL.fx_mk KX G ?a ?l ?c ?k (fun _ _ _ _ _ _ us hl => match us, hl with | [_], _ => rfl); (case a => k_is); (case l => k_is); (case c => k_is); (case k => k_is)
    have f_in_range : PL.FxK KX K55.PW mg "in_range" "in_range" (K55.topS 8) ["value", "low", "high"] := by
      refine' PL.fx_mk KX G ?a ?l ?c ?k (fun _ _ _ _ _ _ us hl => match us, hl with | [_, _, _], _ => rfl); (case a => k_is); (case l => k_is); (case c => k_is); (case k => k_is)
    have f_is_ascending : PL.FxK KX K55.PW mg "is_ascending" "is_ascending" (K55.topS 9) ["value", "low", "high"] := by
      refine' PL.fx_mk KX G ?a ?l ?c ?k (fun _ _ _ _ _ _ us hl => match us, hl with | [_, _, _], _ => rfl); (case a => k_is); (case l => k_is); (case c => k_is); (case k => k_is)
    have f_is_members : PL.FxK KX K55.PW mg "is_members" "is_members" (K55.topS 18) ["value", "many"] := by
      refine' PL.fx_mk KX G ?a ?l ?c ?k (fun _ _ _ _ _ _ us hl => match us, hl with | [_, _], _ => rfl); (case a => k_is); (case l => k_is); (case c => k_is); (case k => k_is)
    have f_is_limit : PL.FxK KX K55.PW mg "is_limit" "is_limit" (K55.topS 19) ["value", "many"] := by
      refine' PL.fx_mk KX G ?a ?l ?c ?k (fun _ _ _ _ _ _ us hl => match us, hl with | [_, _], _ => rfl); (case a => k_is); (case l => k_is); (case c => k_is); (case k => k_is)
    have f_is_contract : PL.FxK KX K55.PW mg "is_contract" "is_contract" (K55.topS 20) ["value"] := by
      refine' PL.fx_mk KX G ?a ?l ?c ?k (fun _ _ _ _ _ _ us hl => match us, hl with | [_], _ => rfl); (case a => k_is); (case l => k_is); (case c => k_is); (case k => k_is)
    have f__law_same : PL.FxK KX K55.PW mg "_law_same" "_law_same" (K55.topS 31) ["actual", "due"] := by
      refine' PL.fx_mk KX G ?a ?l ?c ?k (fun _ _ _ _ _ _ us hl => match us, hl with | [_, _], _ => rfl); (case a => k_is); (case l => k_is); (case c => k_is); (case k => k_is)
    have f_need_text : PL.FxK KX K55.PW mg "need_text" "need_text" (K55.topS 10) ["value", "what"] := by
      refine' PL.fx_mk KX G ?a ?l ?c ?k (fun _ _ _ _ _ _ us hl => match us, hl with | [_, _], _ => rfl); (case a => k_is); (case l => k_is); (case c => k_is); (case k => k_is)
    have f_lines_of : PL.FxK KX K55.PW mg "lines_of" "lines_of" (K55.topS 13) ["text", "limit"] := by
      refine' PL.fx_mk KX G ?a ?l ?c ?k (fun _ _ _ _ _ _ us hl => match us, hl with | [_, _], _ => rfl); (case a => k_is); (case l => k_is); (case c => k_is); (case k => k_is)
    have f_is_written : PL.FxK KX K55.PW mg "is_written" "is_written" (K55.topS 12) ["word", "low", "high"] := by
      refine' PL.fx_mk KX G ?a ?l ?c ?k (fun _ _ _ _ _ _ us hl => match us, hl with | [_, _, _], _ => rfl); (case a => k_is); (case l => k_is); (case c => k_is); (case k => k_is)
    have f_limit_at : PL.FxK KX K55.PW mg "limit_at" "limit_at" (K55.topS 26) ["words", "line"] := by
      refine' PL.fx_mk KX G ?a ?l ?c ?k (fun _ _ _ _ _ _ us hl => match us, hl with | [_, _], _ => rfl); (case a => k_is); (case l => k_is); (case c => k_is); (case k => k_is)
    have f_parse_contract : PL.FxK KX K55.PW mg "parse_contract" "parse_contract" (K55.topS 27) ["text"] := by
      refine' PL.fx_mk KX G ?a ?l ?c ?k (fun _ _ _ _ _ _ us hl => match us, hl with | [_], _ => rfl); (case a => k_is); (case l => k_is); (case c => k_is); (case k => k_is)
    have f_need_list : PL.FxK KX K55.PW mg "need_list" "need_list" (K55.topS 11) ["value", "limit", "what"] := by
      refine' PL.fx_mk KX G ?a ?l ?c ?k (fun _ _ _ _ _ _ us hl => match us, hl with | [_, _, _], _ => rfl); (case a => k_is); (case l => k_is); (case c => k_is); (case k => k_is)
    have f_need_contract : PL.FxK KX K55.PW mg "need_contract" "need_contract" (K55.topS 21) ["contract", "many"] := by
      refine' PL.fx_mk KX G ?a ?l ?c ?k (fun _ _ _ _ _ _ us hl => match us, hl with | [_, _], _ => rfl); (case a => k_is); (case l => k_is); (case c => k_is); (case k => k_is)
    have f_format_contract : PL.FxK KX K55.PW mg "format_contract" "format_contract" (K55.topS 25) ["contract"] := by
      refine' PL.fx_mk KX G ?a ?l ?c ?k (fun _ _ _ _ _ _ us hl => match us, hl with | [_], _ => rfl); (case a => k_is); (case l => k_is); (case c => k_is); (case k => k_is)
    have f_allowed : PL.FxK KX K55.PW mg "allowed" "allowed" (K55.topS 23) ["contract", "population"] := by
      refine' PL.fx_mk KX G ?a ?l ?c ?k (fun _ _ _ _ _ _ us hl => match us, hl with | [_, _], _ => rfl); (case a => k_is); (case l => k_is); (case c => k_is); (case k => k_is)
    have f_is_population : PL.FxK KX K55.PW mg "is_population" "is_population" (K55.topS 22) ["value"] := by
      refine' PL.fx_mk KX G ?a ?l ?c ?k (fun _ _ _ _ _ _ us hl => match us, hl with | [_], _ => rfl); (case a => k_is); (case l => k_is); (case c => k_is); (case k => k_is)
    have f_allows : PL.FxK KX K55.PW mg "allows" "allows" (K55.topS 24) ["contract", "population"] := by
      refine' PL.fx_mk KX G ?a ?l ?c ?k (fun _ _ _ _ _ _ us hl => match us, hl with | [_, _], _ => rfl); (case a => k_is); (case l => k_is); (case c => k_is); (case k => k_is)
    have f__law_told : PL.FxK KX K55.PW mg "_law_told" "_law_told" (K55.topS 39) ["way", "first", "second"] := by
      refine' PL.fx_mk KX G ?a ?l ?c ?k (fun _ _ _ _ _ _ us hl => match us, hl with | [_, _, _], _ => rfl); (case a => k_is); (case l => k_is); (case c => k_is); (case k => k_is)
    have f__law_refused : PL.FxK KX K55.PW mg "_law_refused" "_law_refused" (K55.topS 43) ["contract", "place", "choice"] := by
      refine' PL.fx_mk KX G ?a ?l ?c ?k (fun _ _ _ _ _ _ us hl => match us, hl with | [_, _, _], _ => rfl); (case a => k_is); (case l => k_is); (case c => k_is); (case k => k_is)
    have f__law_allows : PL.FxK KX K55.PW mg "_law_allows" "_law_allows" (K55.topS 33) ["contract", "counts"] := by
      refine' PL.fx_mk KX G ?a ?l ?c ?k (fun _ _ _ _ _ _ us hl => match us, hl with | [_, _], _ => rfl); (case a => k_is); (case l => k_is); (case c => k_is); (case k => k_is)
    have f__law_counts : PL.FxK KX K55.PW mg "_law_counts" "_law_counts" (K55.topS 41) ["contract", "counts"] := by
      refine' PL.fx_mk KX G ?a ?l ?c ?k (fun _ _ _ _ _ _ us hl => match us, hl with | [_, _], _ => rfl); (case a => k_is); (case l => k_is); (case c => k_is); (case k => k_is)
    have f__law_populations : PL.FxK KX K55.PW mg "_law_populations" "_law_populations" (K55.topS 42) ["contract", "cell"] := by
      refine' PL.fx_mk KX G ?a ?l ?c ?k (fun _ _ _ _ _ _ us hl => match us, hl with | [_, _], _ => rfl); (case a => k_is); (case l => k_is); (case c => k_is); (case k => k_is)
    have f__law_number : PL.FxK KX K55.PW mg "_law_number" "_law_number" (K55.topS 37) ["word", "low", "high"] := by
      refine' PL.fx_mk KX G ?a ?l ?c ?k (fun _ _ _ _ _ _ us hl => match us, hl with | [_, _, _], _ => rfl); (case a => k_is); (case l => k_is); (case c => k_is); (case k => k_is)
    have f__law_read : PL.FxK KX K55.PW mg "_law_read" "_law_read" (K55.topS 38) ["text"] := by
      refine' PL.fx_mk KX G ?a ?l ?c ?k (fun _ _ _ _ _ _ us hl => match us, hl with | [_], _ => rfl); (case a => k_is); (case l => k_is); (case c => k_is); (case k => k_is)
    have f__law_asked : PL.FxK KX K55.PW mg "_law_asked" "_law_asked" (K55.topS 40) ["text"] := by
      refine' PL.fx_mk KX G ?a ?l ?c ?k (fun _ _ _ _ _ _ us hl => match us, hl with | [_], _ => rfl); (case a => k_is); (case l => k_is); (case c => k_is); (case k => k_is)
    have f__law_changed : PL.FxK KX K55.PW mg "_law_changed" "_law_changed" (K55.topS 36) ["text", "cell"] := by
      refine' PL.fx_mk KX G ?a ?l ?c ?k (fun _ _ _ _ _ _ us hl => match us, hl with | [_, _], _ => rfl); (case a => k_is); (case l => k_is); (case c => k_is); (case k => k_is)
    have f_law : PL.FxK KX K55.PW mg "law" "law" (K55.topS 44) ["script"] := by
      refine' PL.fx_mk KX G ?a ?l ?c ?k (fun _ _ _ _ _ _ us hl => match us, hl with | [_], _ => rfl); (case a => k_is); (case l => k_is); (case c => k_is); (case k => k_is)
    have xx : ∃ C_BadText C_BadValue C_TooMany, PL.ExtK KX K55.PW w mg "BadText" ["line", "word", "what"] C_BadText ∧ PL.ExtK KX K55.PW w mg "BadValue" ["what"] C_BadValue ∧ PL.ExtK KX K55.PW w mg "TooMany" ["limit"] C_TooMany ∧ PL.ExmK KX C_BadText C_BadText true ∧ PL.ExmK KX C_BadValue C_BadText false ∧ PL.ExmK KX C_TooMany C_BadText false ∧ PL.ExmK KX C_BadText C_BadValue false ∧ PL.ExmK KX C_BadValue C_BadValue true ∧ PL.ExmK KX C_TooMany C_BadValue false ∧ PL.ExmK KX C_BadText C_TooMany false ∧ PL.ExmK KX C_BadValue C_TooMany false ∧ PL.ExmK KX C_TooMany C_TooMany true := by
      refine' ⟨_, _, _, PL.ext3 (qual := "BadText.__init__") (st := PL.inCls (K55.topS 4) 0) KX G ?a_BadText ?xL_BadText ?rv_BadText ?sa_BadText ?ga_BadText ?gg_BadText ?n0_BadText ?n1_BadText ?n2_BadText ?iC_BadText ?tI_BadText ?l_BadText ?c_BadText ?k_BadText ?kC_BadText ?eC_BadText ?tC_BadText ?hC_BadText ⟨rfl, rfl, rfl, by decide +kernel, rfl, by decide +kernel, by decide +kernel⟩ (fun _ _ _ _ _ _ us hl => match us, hl with | [_, _, _, _], _ => rfl) (fun base cdv A outer s H E => L2.pss_cons (PL.ost (L2.pv 0) (L2.pv 1)) (L2.pss_cons (PL.ost (L2.pv 0) (L2.pv 2)) (L2.pss_one (PL.ost (L2.pv 0) (L2.pv 3))))), PL.ext1 (qual := "BadValue.__init__") (st := PL.inCls (K55.topS 2) 0) KX G ?a_BadValue ?xL_BadValue ?rv_BadValue ?sa_BadValue ?ga_BadValue ?gg_BadValue ?n0_BadValue ?iC_BadValue ?tI_BadValue ?l_BadValue ?c_BadValue ?k_BadValue ?kC_BadValue ?eC_BadValue ?tC_BadValue ?hC_BadValue ⟨rfl, rfl, rfl, by decide +kernel, rfl, by decide +kernel, by decide +kernel⟩ (fun _ _ _ _ _ _ us hl => match us, hl with | [_, _], _ => rfl) (fun base cdv A outer s H E => L2.pss_one (PL.ost (L2.pv 0) (L2.pv 1))), PL.ext1 (qual := "TooMany.__init__") (st := PL.inCls (K55.topS 3) 0) KX G ?a_TooMany ?xL_TooMany ?rv_TooMany ?sa_TooMany ?ga_TooMany ?gg_TooMany ?n0_TooMany ?iC_TooMany ?tI_TooMany ?l_TooMany ?c_TooMany ?k_TooMany ?kC_TooMany ?eC_TooMany ?tC_TooMany ?hC_TooMany ⟨rfl, rfl, rfl, by decide +kernel, rfl, by decide +kernel, by decide +kernel⟩ (fun _ _ _ _ _ _ us hl => match us, hl with | [_, _], _ => rfl) (fun base cdv A outer s H E => L2.pss_one (PL.ost (L2.pv 0) (L2.pv 1))), PL.exm_pair ?p1_BadText_BadText ?p2_BadText_BadText ?p3_BadText_BadText ?p4_BadText_BadText, PL.exm_pair ?p1_BadValue_BadText ?p2_BadValue_BadText ?p3_BadValue_BadText ?p4_BadValue_BadText, PL.exm_pair ?p1_TooMany_BadText ?p2_TooMany_BadText ?p3_TooMany_BadText ?p4_TooMany_BadText, PL.exm_pair ?p1_BadText_BadValue ?p2_BadText_BadValue ?p3_BadText_BadValue ?p4_BadText_BadValue, PL.exm_pair ?p1_BadValue_BadValue ?p2_BadValue_BadValue ?p3_BadValue_BadValue ?p4_BadValue_BadValue, PL.exm_pair ?p1_TooMany_BadValue ?p2_TooMany_BadValue ?p3_TooMany_BadValue ?p4_TooMany_BadValue, PL.exm_pair ?p1_BadText_TooMany ?p2_BadText_TooMany ?p3_BadText_TooMany ?p4_BadText_TooMany, PL.exm_pair ?p1_BadValue_TooMany ?p2_BadValue_TooMany ?p3_BadValue_TooMany ?p4_BadValue_TooMany, PL.exm_pair ?p1_TooMany_TooMany ?p2_TooMany_TooMany ?p3_TooMany_TooMany ?p4_TooMany_TooMany⟩
      (case a_BadText => k_is); (case xL_BadText => k_is); (case sa_BadText => k_is); (case ga_BadText => k_is); (case gg_BadText => k_is); (case n0_BadText => k_is); (case n1_BadText => k_is); (case n2_BadText => k_is); (case iC_BadText => k_is); (case tI_BadText => k_is); (case l_BadText => k_is); (case c_BadText => k_is); (case k_BadText => k_is); (case kC_BadText => k_is); (case eC_BadText => k_is); (case tC_BadText => k_is); (case hC_BadText => k_is); (case rv_BadText => decide +kernel)
      (case a_BadValue => k_is); (case xL_BadValue => k_is); (case sa_BadValue => k_is); (case ga_BadValue => k_is); (case gg_BadValue => k_is); (case n0_BadValue => k_is); (case iC_BadValue => k_is); (case tI_BadValue => k_is); (case l_BadValue => k_is); (case c_BadValue => k_is); (case k_BadValue => k_is); (case kC_BadValue => k_is); (case eC_BadValue => k_is); (case tC_BadValue => k_is); (case hC_BadValue => k_is); (case rv_BadValue => decide +kernel)
      (case a_TooMany => k_is); (case xL_TooMany => k_is); (case sa_TooMany => k_is); (case ga_TooMany => k_is); (case gg_TooMany => k_is); (case n0_TooMany => k_is); (case iC_TooMany => k_is); (case tI_TooMany => k_is); (case l_TooMany => k_is); (case c_TooMany => k_is); (case k_TooMany => k_is); (case kC_TooMany => k_is); (case eC_TooMany => k_is); (case tC_TooMany => k_is); (case hC_TooMany => k_is); (case rv_TooMany => decide +kernel)
      (case p1_BadText_BadText => k_is); (case p2_BadText_BadText => k_is); (case p3_BadText_BadText => k_is); (case p4_BadText_BadText => first | rfl | k_is)
      (case p1_BadValue_BadText => k_is); (case p2_BadValue_BadText => k_is); (case p3_BadValue_BadText => k_is); (case p4_BadValue_BadText => first | rfl | k_is)
      (case p1_TooMany_BadText => k_is); (case p2_TooMany_BadText => k_is); (case p3_TooMany_BadText => k_is); (case p4_TooMany_BadText => first | rfl | k_is)
      (case p1_BadText_BadValue => k_is); (case p2_BadText_BadValue => k_is); (case p3_BadText_BadValue => k_is); (case p4_BadText_BadValue => first | rfl | k_is)
      (case p1_BadValue_BadValue => k_is); (case p2_BadValue_BadValue => k_is); (case p3_BadValue_BadValue => k_is); (case p4_BadValue_BadValue => first | rfl | k_is)
      (case p1_TooMany_BadValue => k_is); (case p2_TooMany_BadValue => k_is); (case p3_TooMany_BadValue => k_is); (case p4_TooMany_BadValue => first | rfl | k_is)
      (case p1_BadText_TooMany => k_is); (case p2_BadText_TooMany => k_is); (case p3_BadText_TooMany => k_is); (case p4_BadText_TooMany => first | rfl | k_is)
      (case p1_BadValue_TooMany => k_is); (case p2_BadValue_TooMany => k_is); (case p3_BadValue_TooMany => k_is); (case p4_BadValue_TooMany => first | rfl | k_is)
      (case p1_TooMany_TooMany => k_is); (case p2_TooMany_TooMany => k_is); (case p3_TooMany_TooMany => k_is); (case p4_TooMany_TooMany => first | rfl | k_is)
    obtain ⟨C_BadText, C_BadValue, C_TooMany, x_BadText, x_BadValue, x_TooMany, e_BadText_BadText, e_BadValue_BadText, e_TooMany_BadText, e_BadText_BadValue, e_BadValue_BadValue, e_TooMany_BadValue, e_BadText_TooMany, e_BadValue_TooMany, e_TooMany_TooMany⟩ := xx
    have Z : ∀ base : Heap, K55.FcK KX w mg base ⟨C_BadText, C_BadValue, C_TooMany⟩ := fun base => ⟨n_abs, n_bool, n_int, n_isinstance, n_len, n_list, n_min, n_range, n_str, n_sum, n_tuple, c_DIGITS, c_MOST_AT_ONCE, c_MOST_KINDS, c_MOST_LIMITS, f__law_row, f__law_cell, f__law_contract, f__law_written, f__law_word, f_is_integer, f_in_range, f_is_ascending, f_is_members, f_is_limit, f_is_contract, f__law_same, f_need_text, f_lines_of, f_is_written, f_limit_at, f_parse_contract, f_need_list, f_need_contract, f_format_contract, f_allowed, f_is_population, f_allows, f__law_told, f__law_refused, f__law_allows, f__law_counts, f__law_populations, f__law_number, f__law_read, f__law_asked, f__law_changed, f_law, x_BadText base, x_BadValue base, x_TooMany base, ⟨e_BadText_BadText, e_BadValue_BadText, e_TooMany_BadText⟩, ⟨e_BadText_BadValue, e_BadValue_BadValue, e_TooMany_BadValue⟩, ⟨e_BadText_TooMany, e_BadValue_TooMany, e_TooMany_TooMany⟩⟩
    refine' PL.end_law KX G hmg (st := K55.topS 44) K55.law_true ?a ?l ?c ?k (fun s u => .of_eq rfl) (fun base f fd F => K55.okF_law (Z base) F); (case a => k_is); (case l => k_is); (case c => k_is); (case k => k_is)
