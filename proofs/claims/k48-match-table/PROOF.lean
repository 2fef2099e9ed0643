import PyProof.Rows.All
import Wide.All
import OpenK.AllK
import Wide.FinOn
import HandS.ForMost
import HandS.ForExc
import HandS.TryMany
import HandS.ExcInit
import HandS.ExcField
import HandS.CallSlots
import HandS.IsInst
import HandS.SortKw
import HandS.SortInts
import HandS.Flow
import HandS.Wide
import HandS.TupAny
import HandS.Deep
import HandS.Style
import HandS.SetFor
import HandS.RaiseMore
import PySem.Challenge.RW_parcelbank_k48_match_table_and_doors
set_option Elab.async false
set_option linter.all false
set_option autoImplicit false
set_option maxRecDepth 100000
set_option maxHeartbeats 1000000
namespace PL
open PySem PySem.Spec PyProof.Rows L2

/-! ## data -/
inductive D where
  | non | bl (b : Bool) | int (i : Int) | str (s : Str) | tup (xs : List D) | lst (xs : List D) | scr (ns : List Int)
  deriving Inhabited

inductive Exc where
  | badValue (what : D) | tooMany (limit : D) | badText (line word what : D) | noPlacing (members : D) | refused (reason : D)
def Exc.cls : Exc → Str
  | .badValue _ => "BadValue" | .tooMany _ => "TooMany" | .badText _ _ _ => "BadText" | .noPlacing _ => "NoPlacing" | .refused _ => "Refused"
/-- in the order in which the dict is told: the last stored first -/
def Exc.flds : Exc → List (Str × D)
  | .badValue w => [("what", w)] | .tooMany l => [("limit", l)] | .badText l w x => [("what", x), ("word", w), ("line", l)] | .noPlacing m => [("members", m)] | .refused r => [("reason", r)]

inductive Res (α : Type) where
  | ok (a : α) | exc (e : Exc) | stuck
def Res.bind {α β : Type} : Res α → (α → Res β) → Res β
  | .ok a, f => f a
  | .exc e, _ => .exc e
  | .stuck, _ => .stuck
inductive RV where
  | sh (d : D) | ow (xs : List D) | tm (d : D)
/-- what a slot may own: an object that nothing else knows -/
inductive OB where
  | lst (xs : List D) | dk (kvs : List (Key × D))
inductive Sl where
  | no | sh (d : D) | ow (o : OB) | tmp (d : D)
abbrev En := List Sl
inductive Out where
  | next (ρ : En) | ret (r : RV) | brk (ρ : En) | cont (ρ : En) | exc (e : Exc) (ρ : En) | stuck

/-! ## what stands for what -/
mutual
inductive Rep (K : PySem.W.Frag) (G : Hp) : V → D → Prop
  | non : Rep K G .non .non
  | bl (b : Bool) : Rep K G (.bl b) (.bl b)
  | int (i : Int) : Rep K G (.int i) (.int i)
  | str (x : Str) : Rep K G (.str x) (.str x)
  | tup {a : Addr} {vs : List V} {ds : List D} : SqT K G a vs → Reps K G vs ds → Rep K G (.ref a) (.tup ds)
  | lst {a : Addr} {vs : List V} {ds : List D} : G a = some (.lst vs) → Reps K G vs ds → Rep K G (.ref a) (.lst ds)
  | scr {a : Addr} {ns : List Int} : SqL K G a (ns.map V.int) → Rep K G (.ref a) (.scr ns)
inductive Reps (K : PySem.W.Frag) (G : Hp) : List V → List D → Prop
  | nil : Reps K G [] []
  | cons {v : V} {vs : List V} {d : D} {ds : List D} : Rep K G v d → Reps K G vs ds → Reps K G (v :: vs) (d :: ds)
end

theorem same_tup {K : PySem.W.Frag} {G G' : Hp} {a : Addr} {xs : List V} (e : Same G G') (h : SqT K G a xs) : SqT K G' a xs := by
  rcases h with (h | ⟨o, h⟩) | h
  · exact .inl (.inl (e _ _ h))
  · exact .inl (.inr ⟨o, e _ _ h⟩)
  · exact .inr h

section
variable {K : PySem.W.Frag} {G G' H H' : Hp}
mutual
theorem Rep.mono (e : Same G G') : ∀ (d : D) (v : V), Rep K G v d → Rep K G' v d
  | .non, _, .non => .non
  | .bl _, _, .bl b => .bl b
  | .int _, _, .int b => .int b
  | .str _, _, .str b => .str b
  | .tup ds, _, .tup h r => .tup (same_tup e h) (Reps.mono e ds _ r)
  | .lst ds, _, .lst h r => .lst (e _ _ h) (Reps.mono e ds _ r)
  | .scr _, _, .scr h => .scr (Same.seq e h)
theorem Reps.mono (e : Same G G') : ∀ (ds : List D) (vs : List V), Reps K G vs ds → Reps K G' vs ds
  | [], _, .nil => .nil
  | d :: ds, _, .cons h r => .cons (Rep.mono e d _ h) (Reps.mono e ds _ r)
end
theorem Reps.len : ∀ {ds : List D} {vs : List V}, Reps K G vs ds → vs.length = ds.length
  | [], _, .nil => rfl
  | d :: ds, _, .cons h r => by rw [List.length_cons, List.length_cons, Reps.len r]
theorem Reps.get : ∀ {ds : List D} {vs : List V} {i : Nat} {d : D}, Reps K G vs ds → ds[i]? = some d → ∃ v, vs[i]? = some v ∧ Rep K G v d
  | [], _, i, d, .nil, h => by simp at h
  | d0 :: ds, _, 0, d, .cons h r, e => by
    simp at e; subst e; exact ⟨_, rfl, h⟩
  | d0 :: ds, _, i + 1, d, .cons h r, e => by
    obtain ⟨v, e1, e2⟩ := Reps.get (i := i) (d := d) r (by simpa using e)
    exact ⟨v, by simpa using e1, e2⟩
theorem Reps.getV : ∀ {ds : List D} {vs : List V} {i : Nat} {v : V}, Reps K G vs ds → vs[i]? = some v → ∃ d, ds[i]? = some d ∧ Rep K G v d
  | [], _, i, d, .nil, h => by simp at h
  | d0 :: ds, _, 0, d, .cons h r, e => by
    simp at e; subst e; exact ⟨_, rfl, h⟩
  | d0 :: ds, _, i + 1, d, .cons h r, e => by
    obtain ⟨v, e1, e2⟩ := Reps.getV (i := i) (v := d) r (by simpa using e)
    exact ⟨v, by simpa using e1, e2⟩
theorem Reps.app : ∀ {ds es : List D} {vs us : List V}, Reps K G vs ds → Reps K G us es → Reps K G (vs ++ us) (ds ++ es)
  | [], _, _, _, .nil, s => s
  | d :: ds, _, _, _, .cons h r, s => .cons h (Reps.app r s)
theorem Reps.take : ∀ {ds : List D} {vs : List V} (n : Nat), Reps K G vs ds → Reps K G (vs.take n) (ds.take n)
  | _, _, 0, _ => by simpa using Reps.nil
  | [], _, n + 1, .nil => .nil
  | d :: ds, _, n + 1, .cons h r => .cons h (Reps.take n r)
theorem Reps.drop : ∀ {ds : List D} {vs : List V} (n : Nat), Reps K G vs ds → Reps K G (vs.drop n) (ds.drop n)
  | _, _, 0, r => r
  | [], _, n + 1, .nil => .nil
  | d :: ds, _, n + 1, .cons h r => Reps.drop n r
theorem Reps.set {v : V} {d : D} (q : Rep K G v d) : ∀ {ds : List D} {vs : List V} (n : Nat), Reps K G vs ds → Reps K G (vs.set n v) (ds.set n d)
  | [], _, n, .nil => .nil
  | d0 :: ds, _, 0, .cons h r => .cons q r
  | d0 :: ds, _, n + 1, .cons h r => .cons h (Reps.set q n r)
theorem Reps.rep : ∀ {ds : List D} {vs : List V} (k : Nat), Reps K G vs ds → Reps K G (List.replicate k vs).flatten (List.replicate k ds).flatten
  | _, _, 0, _ => .nil
  | _, _, k + 1, r => by
    rw [List.replicate_succ, List.replicate_succ, List.flatten_cons, List.flatten_cons]
    exact Reps.app r (Reps.rep k r)
theorem Reps.ints : ∀ {ns : List Int} {vs : List V}, Reps K G vs (ns.map D.int) → vs = ns.map V.int
  | [], _, .nil => rfl
  | n :: ns, _, .cons (.int _) r => by rw [List.map_cons, ← Reps.ints r]
theorem Reps.ofInts : ∀ (ns : List Int), Reps K G (ns.map V.int) (ns.map D.int)
  | [] => .nil
  | n :: ns => .cons (.int n) (Reps.ofInts ns)
end

inductive KReps (K : PySem.W.Frag) (G : Hp) : List (Key × V) → List (Key × D) → Prop
  | nil : KReps K G [] []
  | cons {k : Key} {v : V} {vs : List (Key × V)} {d : D} {ds : List (Key × D)} : Rep K G v d → KReps K G vs ds → KReps K G ((k, v) :: vs) ((k, d) :: ds)
inductive RepO (K : PySem.W.Frag) (G : Hp) : HO → OB → Prop
  | lst {vs : List V} {ds : List D} : Reps K G vs ds → RepO K G (.lst vs) (.lst ds)
  | dk {vs : List (Key × V)} {ds : List (Key × D)} : KReps K G vs ds → RepO K G (.dK vs) (.dk ds)
theorem KReps.mono {K : PySem.W.Frag} {G G' : Hp} (e : Same G G') : ∀ {vs : List (Key × V)} {ds : List (Key × D)}, KReps K G vs ds → KReps K G' vs ds
  | _, _, .nil => .nil
  | _, _, .cons h r => .cons (Rep.mono e _ _ h) (KReps.mono e r)
theorem RepO.mono {K : PySem.W.Frag} {G G' : Hp} (e : Same G G') {h : HO} {o : OB} : RepO K G h o → RepO K G' h o
  | .lst r => .lst (Reps.mono e _ _ r)
  | .dk r => .dk (KReps.mono e r)

/-- two heaps, one beside the other -/
def join2 (G T : Hp) : Hp := fun b => match G b with | some x => some x | none => T b
theorem join2_l {G T : Hp} : Same G (join2 G T) := fun b x e => by unfold join2; rw [e]
theorem join2_r {G T : Hp} (h : ∀ b x, T b = some x → G b = none) : Same T (join2 G T) := fun b x e => by unfold join2; rw [h b x e]; exact e
theorem join2_none {G T : Hp} {b : Addr} (h : G b = none) (h2 : T b = none) : join2 G T b = none := by unfold join2; rw [h]; exact h2
theorem join2_to {G T H : Hp} (h1 : Same G H) (h2 : Same T H) : Same (join2 G T) H := fun b x e => by
  unfold join2 at e
  cases e2 : G b with
  | some z => rw [e2] at e; cases e; exact h1 b _ e2
  | none => rw [e2] at e; exact h2 b x e
theorem join2_mono {G G' T T' : Hp} (h1 : Same G G') (h2 : Same T T') (h : ∀ b x, T' b = some x → G' b = none) : Same (join2 G T) (join2 G' T') := join2_to (h1.trans join2_l) (h2.trans (join2_r h))
/-! ## data all lists of which lie in a region of its own (tuples may lie anywhere) -/
mutual
inductive RepL (K : PySem.W.Frag) (G T : Hp) : V → D → Prop
  | non : RepL K G T .non .non
  | bl (b : Bool) : RepL K G T (.bl b) (.bl b)
  | int (i : Int) : RepL K G T (.int i) (.int i)
  | str (x : Str) : RepL K G T (.str x) (.str x)
  | tup {a : Addr} {vs : List V} {ds : List D} : SqT K (join2 G T) a vs → RepLs K G T vs ds → RepL K G T (.ref a) (.tup ds)
  | lst {a : Addr} {vs : List V} {ds : List D} : T a = some (.lst vs) → RepLs K G T vs ds → RepL K G T (.ref a) (.lst ds)
  | scr {a : Addr} {ns : List Int} : SqL K (join2 G T) a (ns.map V.int) → RepL K G T (.ref a) (.scr ns)
inductive RepLs (K : PySem.W.Frag) (G T : Hp) : List V → List D → Prop
  | nil : RepLs K G T [] []
  | cons {v : V} {vs : List V} {d : D} {ds : List D} : RepL K G T v d → RepLs K G T vs ds → RepLs K G T (v :: vs) (d :: ds)
end
section
variable {K : PySem.W.Frag} {G G' T T' : Hp}
mutual
theorem RepL.mono (e : Same (join2 G T) (join2 G' T')) (e2 : Same T T') : ∀ (d : D) (v : V), RepL K G T v d → RepL K G' T' v d
  | .non, _, .non => .non
  | .bl _, _, .bl b => .bl b
  | .int _, _, .int b => .int b
  | .str _, _, .str b => .str b
  | .tup ds, _, .tup h r => .tup (same_tup e h) (RepLs.mono e e2 ds _ r)
  | .lst ds, _, .lst h r => .lst (e2 _ _ h) (RepLs.mono e e2 ds _ r)
  | .scr _, _, .scr h => .scr (Same.seq e h)
theorem RepLs.mono (e : Same (join2 G T) (join2 G' T')) (e2 : Same T T') : ∀ (ds : List D) (vs : List V), RepLs K G T vs ds → RepLs K G' T' vs ds
  | [], _, .nil => .nil
  | d :: ds, _, .cons h r => .cons (RepL.mono e e2 d _ h) (RepLs.mono e e2 ds _ r)
end
mutual
theorem RepL.rep (e : Same T (join2 G T)) : ∀ (d : D) (v : V), RepL K G T v d → Rep K (join2 G T) v d
  | .non, _, .non => .non
  | .bl _, _, .bl b => .bl b
  | .int _, _, .int b => .int b
  | .str _, _, .str b => .str b
  | .tup ds, _, .tup h r => .tup h (RepLs.rep e ds _ r)
  | .lst ds, _, .lst h r => .lst (e _ _ h) (RepLs.rep e ds _ r)
  | .scr _, _, .scr h => .scr h
theorem RepLs.rep (e : Same T (join2 G T)) : ∀ (ds : List D) (vs : List V), RepLs K G T vs ds → Reps K (join2 G T) vs ds
  | [], _, .nil => .nil
  | d :: ds, _, .cons h r => .cons (RepL.rep e d _ h) (RepLs.rep e ds _ r)
end
mutual
theorem Rep.inL (e : Same T (join2 G T)) : ∀ (d : D) (v : V), Rep K T v d → RepL K G T v d
  | .non, _, .non => .non
  | .bl _, _, .bl b => .bl b
  | .int _, _, .int b => .int b
  | .str _, _, .str b => .str b
  | .tup ds, _, .tup h r => .tup (same_tup e h) (Reps.inL e ds _ r)
  | .lst ds, _, .lst h r => .lst h (Reps.inL e ds _ r)
  | .scr _, _, .scr h => .scr (Same.seq e h)
theorem Reps.inL (e : Same T (join2 G T)) : ∀ (ds : List D) (vs : List V), Reps K T vs ds → RepLs K G T vs ds
  | [], _, .nil => .nil
  | d :: ds, _, .cons h r => .cons (Rep.inL e d _ h) (Reps.inL e ds _ r)
end
theorem RepLs.len : ∀ {ds : List D} {vs : List V}, RepLs K G T vs ds → vs.length = ds.length
  | [], _, .nil => rfl
  | d :: ds, _, .cons h r => by rw [List.length_cons, List.length_cons, RepLs.len r]
theorem RepLs.snoc {v : V} {d : D} (q : RepL K G T v d) : ∀ {ds : List D} {vs : List V}, RepLs K G T vs ds → RepLs K G T (vs ++ [v]) (ds ++ [d])
  | [], _, .nil => .cons q .nil
  | d0 :: ds, _, .cons h r => .cons h (RepLs.snoc q r)
end
/-! ## growth of heaps -/
/-- G: what is shared (read, never written); H: what is tracked -/
structure Grow (G H G' H' : Hp) : Prop where
  g : Same G G'
  h : Same H H'
  s : Same G' H'
  f : ∀ a, G a = none → H a ≠ none → G' a = none
section
variable {K : PySem.W.Frag} {G G1 G2 H H1 H2 : Hp}
theorem Grow.refl (s : Same G H) : Grow G H G H := ⟨Same.refl _, Same.refl _, s, fun _ h _ => h⟩
theorem Grow.trans (a : Grow G H G1 H1) (b : Grow G1 H1 G2 H2) : Grow G H G2 H2 :=
  ⟨a.g.trans b.g, a.h.trans b.h, b.s, fun x e1 e2 => b.f x (a.f x e1 e2) (by
    cases q : H x with
    | none => exact absurd q e2
    | some o => rw [a.h x o q]; simp)⟩
theorem same_new {H : Hp} {p : Addr} {o : HO} (h : H p = none) : Same H (upd H p o) := fun b x e => by
  rw [upd_ne (ne_of_none e h)]; exact e
/-- a new object, shared at once -/
theorem Grow.new (s : Same G H) {p : Addr} {o : HO} (h : H p = none) : Grow G H (upd G p o) (upd H p o) :=
  ⟨same_new (s.free h), same_new h, fun b x e => by
    by_cases hb : b = p
    · subst hb; rw [upd_same] at e ⊢; exact e
    · rw [upd_ne hb] at e ⊢; exact s b x e, fun a e1 e2 => by
    have : a ≠ p := fun z => by rw [z] at e2; exact e2 h
    rw [upd_ne this]; exact e1⟩
/-- a new object, not shared -/
theorem Grow.own (s : Same G H) {p : Addr} {o : HO} (h : H p = none) : Grow G H G (upd H p o) :=
  ⟨Same.refl _, same_new h, fun b x e => by
    have : b ≠ p := ne_of_none (s b x e) h
    rw [upd_ne this]; exact s b x e, fun a e1 _ => e1⟩
/-- a fresh object becomes shared -/
theorem Grow.share (a : Grow G H G1 H1) {p : Addr} {o : HO} (h : H p = none) (h1 : G1 p = none) (e : H1 p = some o) : Grow G H (upd G1 p o) H1 :=
  ⟨fun b x q => by
    have : b ≠ p := ne_of_none (a.g b x q) h1
    rw [upd_ne this]; exact a.g b x q, a.h, fun b x q => by
    by_cases hb : b = p
    · subst hb; rw [upd_same] at q; cases q; exact e
    · rw [upd_ne hb] at q; exact a.s b x q, fun b e1 e2 => by
    have : b ≠ p := fun z => by rw [z] at e2; exact e2 h
    rw [upd_ne this]; exact a.f b e1 e2⟩
end

/-! ## states -/
def SlR (K : PySem.W.Frag) (H0 G H : Hp) : Sl → Option V → Prop
  | .no, _ => True
  | .sh d, o => ∃ v, o = some v ∧ Rep K G v d
  | .ow ob, o => ∃ l ho, o = some (.ref l) ∧ H0 l = none ∧ G l = none ∧ H l = some ho ∧ RepO K G ho ob
  | .tmp _, _ => True
/-- a region of its own, of data that is read for a while and then let go -/
structure Tm (K : PySem.W.Frag) (H0 : Hp) (ρ : En) (σ : L2.St) (G H T : Hp) : Prop where
  at_ : ∀ b x, T b = some x → G b = none ∧ H0 b = none ∧ H b = some x
  rep : ∀ (i : Nat) (d : D), ρ[i]? = some (.tmp d) → ∃ v, σ[i]? = some (some v) ∧ RepL K G T v d
  dis : ∀ (i : Nat) (ob : OB) (l : Addr), ρ[i]? = some (.ow ob) → σ[i]? = some (some (.ref l)) → T l = none
structure R (K : PySem.W.Frag) (G0 H0 : Hp) (ρ : En) (σ : L2.St) (G H : Hp) : Prop where
  gr : Grow G0 H0 G H
  len : ρ.length = σ.length
  slot : ∀ (i : Nat) (s : Sl), ρ[i]? = some s → ∃ o, σ[i]? = some o ∧ SlR K H0 G H s o
  dis : ∀ (i j : Nat) (xs ys : OB), i ≠ j → ρ[i]? = some (.ow xs) → ρ[j]? = some (.ow ys) → σ[i]? ≠ σ[j]?
  tm : ∃ T, Tm K H0 ρ σ G H T
section
variable {K : PySem.W.Frag} {G0 H0 G H G1 H1 : Hp} {ρ : En} {σ : L2.St}
theorem SlR.grow (g : Grow G H G1 H1) : ∀ {s : Sl} {o : Option V}, SlR K H0 G H s o → SlR K H0 G1 H1 s o
  | .no, _, _ => trivial
  | .sh d, _, ⟨v, e, r⟩ => ⟨v, e, Rep.mono g.g d v r⟩
  | .ow xs, _, ⟨l, vs, e, h0, h1, h2, r⟩ => ⟨l, vs, e, h0, g.f l h1 (by rw [h2]; simp), g.h l _ h2, RepO.mono g.g r⟩
  | .tmp _, _, _ => trivial
theorem Tm.grow {T : Hp} (t : Tm K H0 ρ σ G H T) (g : Grow G H G1 H1) : Tm K H0 ρ σ G1 H1 T :=
  ⟨fun b x e => let ⟨a1, a2, a3⟩ := t.at_ b x e; ⟨g.f b a1 (by rw [a3]; simp), a2, g.h b x a3⟩, fun i d e => let ⟨v, e1, q⟩ := t.rep i d e; ⟨v, e1, RepL.mono (join2_mono g.g (Same.refl _) fun b x e => g.f b (t.at_ b x e).1 (by rw [(t.at_ b x e).2.2]; simp)) (Same.refl _) d v q⟩, t.dis⟩
theorem R.grow (r : R K G0 H0 ρ σ G H) (g : Grow G H G1 H1) : R K G0 H0 ρ σ G1 H1 :=
  ⟨r.gr.trans g, r.len, fun i s e => let ⟨o, e1, e2⟩ := r.slot i s e; ⟨o, e1, e2.grow g⟩, r.dis, r.tm.imp fun _ t => t.grow g⟩
theorem R.sub (r : R K G0 H0 ρ σ G H) : Same G H := r.gr.s
theorem R.sh (r : R K G0 H0 ρ σ G H) {i : Nat} {d : D} (h : ρ[i]? = some (.sh d)) : ∃ v, σ[i]? = some (some v) ∧ Rep K G v d := by
  obtain ⟨o, e1, v, e2, e3⟩ := r.slot i _ h
  exact ⟨v, by rw [e1, e2], e3⟩
theorem R.ow (r : R K G0 H0 ρ σ G H) {i : Nat} {xs : OB} (h : ρ[i]? = some (.ow xs)) : ∃ l ho, σ[i]? = some (some (.ref l)) ∧ H0 l = none ∧ G l = none ∧ H l = some ho ∧ RepO K G ho xs := by
  obtain ⟨o, e1, l, vs, e2, e3⟩ := r.slot i _ h
  exact ⟨l, vs, by rw [e1, e2], e3⟩
theorem R.owL (r : R K G0 H0 ρ σ G H) {i : Nat} {xs : List D} (h : ρ[i]? = some (.ow (.lst xs))) : ∃ l vs, σ[i]? = some (some (.ref l)) ∧ H0 l = none ∧ G l = none ∧ H l = some (.lst vs) ∧ Reps K G vs xs := by
  obtain ⟨l, ho, e1, e2, e3, e4, e5⟩ := r.ow h
  cases e5 with
  | lst q => exact ⟨l, _, e1, e2, e3, e4, q⟩
theorem R.owK (r : R K G0 H0 ρ σ G H) {i : Nat} {xs : List (Key × D)} (h : ρ[i]? = some (.ow (.dk xs))) : ∃ l vs, σ[i]? = some (some (.ref l)) ∧ H0 l = none ∧ G l = none ∧ H l = some (.dK vs) ∧ KReps K G vs xs := by
  obtain ⟨l, ho, e1, e2, e3, e4, e5⟩ := r.ow h
  cases e5 with
  | dk q => exact ⟨l, _, e1, e2, e3, e4, q⟩
theorem get_set {α : Type} {xs : List α} {i j : Nat} {x y : α} (h : (xs.set i x)[j]? = some y) : (j = i ∧ y = x ∧ i < xs.length) ∨ (j ≠ i ∧ xs[j]? = some y) := by
  by_cases e : j = i
  · subst e
    by_cases l : j < xs.length
    · rw [List.getElem?_set_self l] at h; cases h; exact .inl ⟨rfl, rfl, l⟩
    · rw [List.getElem?_eq_none (by simpa using l)] at h; cases h
  · rw [List.getElem?_set_ne (Ne.symm e)] at h; exact .inr ⟨e, h⟩
/-- another slot is set, not to a region's data -/
theorem Tm.set {T : Hp} (t : Tm K H0 ρ σ G H T) (i : Nat) {s : Sl} {o : Option V} (hs : ∀ d, s ≠ .tmp d) (ho : ∀ ob l, s = .ow ob → o = some (.ref l) → T l = none) (hl : ρ.length = σ.length) : Tm K H0 (ρ.set i s) (σ.set i o) G H T := by
  refine ⟨t.at_, fun j d e => ?_, fun j ob l e e2 => ?_⟩
  · rcases get_set e with ⟨_, z, _⟩ | ⟨n, e⟩
    · exact absurd z.symm (hs d)
    · rw [List.getElem?_set_ne (Ne.symm n)]; exact t.rep j d e
  · rcases get_set e with ⟨rfl, z, l1⟩ | ⟨n, e⟩
    · rw [List.getElem?_set_self (by rw [← hl]; exact l1)] at e2
      exact ho ob l z.symm (Option.some.inj e2)
    · rw [List.getElem?_set_ne (Ne.symm n)] at e2; exact t.dis j ob l e e2
/-- a slot is set to shared data -/
theorem R.setSh (r : R K G0 H0 ρ σ G H) (i : Nat) {v : V} {d : D} (q : Rep K G v d) : R K G0 H0 (ρ.set i (.sh d)) (σ.set i (some v)) G H := by
  refine ⟨r.gr, by simp [r.len], fun j s e => ?_, fun j k xs ys hn e1 e2 => ?_, r.tm.imp fun _ t => t.set i (fun _ z => by cases z) (fun _ _ z => by cases z) r.len⟩
  · rcases get_set e with ⟨rfl, rfl, l⟩ | ⟨ne, e⟩
    · refine ⟨some v, List.getElem?_set_self (by rw [← r.len]; exact l), v, rfl, q⟩
    · rw [List.getElem?_set_ne (Ne.symm ne)]; exact r.slot j s e
  · rcases get_set e1 with ⟨_, z, _⟩ | ⟨n1, e1⟩
    · cases z
    · rcases get_set e2 with ⟨_, z, _⟩ | ⟨n2, e2⟩
      · cases z
      · rw [List.getElem?_set_ne (Ne.symm n1), List.getElem?_set_ne (Ne.symm n2)]; exact r.dis j k xs ys hn e1 e2
/-- a slot is set to a new object of its own -/
theorem R.setNew (r : R K G0 H0 ρ σ G H) (i : Nat) {l : Addr} {vs : HO} {xs : OB} (g : Grow G H G1 H1) (hn : H l = none) (hg : G1 l = none) (hh : H1 l = some vs) (q : RepO K G1 vs xs) :
    R K G0 H0 (ρ.set i (.ow xs)) (σ.set i (some (.ref l))) G1 H1 := by
  have r1 := r.grow g
  refine ⟨r1.gr, by simp [r1.len], fun j s e => ?_, fun j k ys zs hne e1 e2 => ?_, ?_⟩
  · rcases get_set e with ⟨rfl, rfl, l'⟩ | ⟨ne, e⟩
    · exact ⟨some (.ref l), List.getElem?_set_self (by rw [← r1.len]; exact l'), l, vs, rfl, r.gr.h.free hn, hg, hh, q⟩
    · rw [List.getElem?_set_ne (Ne.symm ne)]; exact r1.slot j s e
  · have nw : ∀ (j : Nat) (ys : OB), ρ[j]? = some (.ow ys) → σ[j]? ≠ some (some (.ref l)) := fun j ys e z => by
      obtain ⟨l', vs', e1, _, _, e2, _⟩ := r.ow e
      rw [e1] at z; cases z; rw [e2] at hn; cases hn
    rcases get_set e1 with ⟨rfl, _, l1⟩ | ⟨n1, f1⟩
    · rcases get_set e2 with ⟨z, _, _⟩ | ⟨n2, f2⟩
      · exact absurd z.symm hne
      · rw [List.getElem?_set_self (by rw [← r1.len]; exact l1), List.getElem?_set_ne (Ne.symm n2)]
        exact fun z => nw k zs f2 z.symm
    · rcases get_set e2 with ⟨rfl, _, l1⟩ | ⟨n2, f2⟩
      · rw [List.getElem?_set_self (by rw [← r1.len]; exact l1), List.getElem?_set_ne (Ne.symm n1)]
        exact nw j ys f1
      · rw [List.getElem?_set_ne (Ne.symm n1), List.getElem?_set_ne (Ne.symm n2)]; exact r1.dis j k ys zs hne f1 f2
  · obtain ⟨T, t⟩ := r.tm
    refine ⟨T, (t.grow g).set i (fun _ z => by cases z) (fun _ _ _ z => ?_) r1.len⟩
    cases z
    cases e : T l with
    | none => rfl
    | some x => have := (t.at_ l x e).2.2; rw [hn] at this; cases this
theorem R.setNo (r : R K G0 H0 ρ σ G H) (i : Nat) (o : Option V) : R K G0 H0 (ρ.set i .no) (σ.set i o) G H := by
  refine ⟨r.gr, by simp [r.len], fun j s e => ?_, fun j k ys zs hn e1 e2 => ?_, r.tm.imp fun _ t => t.set i (fun _ z => by cases z) (fun _ _ z => by cases z) r.len⟩
  · rcases get_set e with ⟨rfl, rfl, l'⟩ | ⟨ne, e⟩
    · exact ⟨o, List.getElem?_set_self (by rw [← r.len]; exact l'), trivial⟩
    · rw [List.getElem?_set_ne (Ne.symm ne)]; exact r.slot j s e
  · rcases get_set e1 with ⟨_, z, _⟩ | ⟨n1, e1⟩
    · cases z
    · rcases get_set e2 with ⟨_, z, _⟩ | ⟨n2, e2⟩
      · cases z
      · rw [List.getElem?_set_ne (Ne.symm n1), List.getElem?_set_ne (Ne.symm n2)]; exact r.dis j k ys zs hn e1 e2
/-- an owned list becomes shared -/
def frz (i : Nat) (ρ : En) : En := match ρ[i]? with | some (.ow (.lst xs)) => ρ.set i (.sh (.lst xs)) | _ => ρ
theorem R.frz (r : R K G0 H0 ρ σ G H) {i : Nat} {xs : List D} (h : ρ[i]? = some (.ow (.lst xs))) :
    ∃ l vs, σ[i]? = some (some (.ref l)) ∧ G l = none ∧ H l = some (.lst vs) ∧ Reps K G vs xs ∧ Same G (upd G l (.lst vs)) ∧ R K G0 H0 (ρ.set i (.sh (.lst xs))) σ (upd G l (.lst vs)) H := by
  obtain ⟨l, vs, e1, h0, hg, hh, q⟩ := r.owL h
  have sg : Same G (upd G l (.lst vs)) := same_new hg
  have gr : Grow G0 H0 (upd G l (.lst vs)) H := r.gr.share h0 hg hh
  refine ⟨l, vs, e1, hg, hh, q, sg, gr, by simp [r.len], fun j s e => ?_, fun j k ys zs hn e1' e2 => ?_, ?_⟩
  · rcases get_set e with ⟨rfl, rfl, l'⟩ | ⟨ne, e⟩
    · exact ⟨_, e1, _, rfl, .lst upd_same (Reps.mono sg _ _ q)⟩
    · obtain ⟨o, e2, q2⟩ := r.slot j s e
      refine ⟨o, e2, ?_⟩
      cases s with
      | no => trivial
      | tmp d => trivial
      | sh d => obtain ⟨v, a, b⟩ := q2; exact ⟨v, a, Rep.mono sg _ _ b⟩
      | ow ys =>
        obtain ⟨l2, vs2, a, b, c, d, f⟩ := q2
        refine ⟨l2, vs2, a, b, ?_, d, RepO.mono sg f⟩
        have : l2 ≠ l := fun z => r.dis j i ys (.lst xs) ne e h (by rw [e2, e1, a, z])
        rw [upd_ne this]; exact c
  · rcases get_set e1' with ⟨_, z, _⟩ | ⟨n1, e1'⟩
    · cases z
    · rcases get_set e2 with ⟨_, z, _⟩ | ⟨n2, e2⟩
      · cases z
      · exact r.dis j k ys zs hn e1' e2
  · obtain ⟨T, t⟩ := r.tm
    refine ⟨T, fun b x e => ?_, fun j d e => ?_, fun j ob l2 e e2 => ?_⟩
    · obtain ⟨a1, a2, a3⟩ := t.at_ b x e
      have : b ≠ l := fun z => by rw [z, t.dis i _ l h e1] at e; cases e
      exact ⟨by rw [upd_ne this]; exact a1, a2, a3⟩
    · rcases get_set e with ⟨_, z, _⟩ | ⟨n, e⟩
      · cases z
      · obtain ⟨v, e3, q3⟩ := t.rep j d e
        refine ⟨v, e3, RepL.mono (join2_mono sg (Same.refl _) fun b x e5 => ?_) (Same.refl _) d v q3⟩
        have : b ≠ l := fun z => by rw [z, t.dis i _ l h e1] at e5; cases e5
        rw [upd_ne this]; exact (t.at_ b x e5).1
    · rcases get_set e with ⟨_, z, _⟩ | ⟨n, e⟩
      · cases z
      · exact t.dis j ob l2 e e2
/-- an owned list is written -/
theorem R.write (r : R K G0 H0 ρ σ G H) {i : Nat} {xs ys : OB} {l : Addr} {us : HO} (h : ρ[i]? = some (.ow xs)) (hl : σ[i]? = some (some (.ref l))) (q : RepO K G us ys) :
    R K G0 H0 (ρ.set i (.ow ys)) σ G (upd H l us) := by
  obtain ⟨l', vs, e1, h0, hg, hh, _⟩ := r.ow h
  rw [hl] at e1; cases e1
  have gr : Grow G0 H0 G (upd H l us) := ⟨r.gr.g, fun b o e => by
    have : b ≠ l := ne_of_none e h0
    rw [upd_ne this]; exact r.gr.h b o e, fun b o e => by
    have : b ≠ l := ne_of_none e hg
    rw [upd_ne this]; exact r.gr.s b o e, r.gr.f⟩
  refine ⟨gr, by simp [r.len], fun j s e => ?_, fun j k as bs hn e1 e2 => ?_, ?_⟩
  · rcases get_set e with ⟨rfl, rfl, _⟩ | ⟨ne, e⟩
    · exact ⟨_, hl, l, us, rfl, h0, hg, upd_same, q⟩
    · obtain ⟨o, e2, q2⟩ := r.slot j s e
      refine ⟨o, e2, ?_⟩
      cases s with
      | no => trivial
      | tmp d => trivial
      | sh d => exact q2
      | ow zs =>
        obtain ⟨l2, vs2, a, b, c, d, f⟩ := q2
        have : l2 ≠ l := fun z => r.dis j i zs xs ne e h (by rw [e2, hl, a, z])
        exact ⟨l2, vs2, a, b, c, by rw [upd_ne this]; exact d, f⟩
  · have w1 : ∀ {j : Nat} {as : OB}, (ρ.set i (.ow ys))[j]? = some (.ow as) → ∃ as', ρ[j]? = some (.ow as') := fun {j as} e => by
      rcases get_set e with ⟨rfl, _, _⟩ | ⟨_, e⟩
      · exact ⟨xs, h⟩
      · exact ⟨as, e⟩
    obtain ⟨a1, z1⟩ := w1 e1
    obtain ⟨a2, z2⟩ := w1 e2
    exact r.dis j k a1 a2 hn z1 z2
  · obtain ⟨T, t⟩ := r.tm
    have tl := t.dis i _ l h hl
    refine ⟨T, fun b x e => ?_, fun j d e => ?_, fun j ob l2 e e2 => ?_⟩
    · obtain ⟨a1, a2, a3⟩ := t.at_ b x e
      have : b ≠ l := fun z => by rw [z, tl] at e; cases e
      exact ⟨a1, a2, by rw [upd_ne this]; exact a3⟩
    · rcases get_set e with ⟨_, z, _⟩ | ⟨n, e⟩
      · cases z
      · exact t.rep j d e
    · rcases get_set e with ⟨rfl, _, _⟩ | ⟨n, e⟩
      · rw [hl] at e2; cases e2; exact tl
      · exact t.dis j ob l2 e e2
end
end PL

set_option maxRecDepth 100000
set_option maxHeartbeats 1000000
namespace PL
open PySem PySem.Spec PyProof.Rows L2

end PL
namespace L2
open PySem PySem.Spec PyProof.Rows
/-! ## weaker readings -/
section
variable {X : Cx}
theorem PE.imp {e : Expr} {t t' : TE} (h : PE X e t) (k : ∀ σ H Q, t' σ H Q → t σ H Q) : PE X e t' := ⟨fun pins s σ H Q I w => h.run pins s σ H Q I (k σ H Q w)⟩
theorem PT.imp {e : Expr} {t t' : TT} (h : PT X e t) (k : ∀ σ H Q, t' σ H Q → t σ H Q) : PT X e t' := ⟨fun pins s σ H Q I w => h.run pins s σ H Q I (k σ H Q w)⟩
theorem PW.imp {e : Expr} {t t' : TT} (h : PW X e t) (k : ∀ σ H Q, t' σ H Q → t σ H Q) : PW X e t' := ⟨fun wh pins s σ H Q I w => h.run wh pins s σ H Q I (k σ H Q w)⟩
theorem PA.imp {es : List Expr} {t t' : TA} (h : PA X es t) (k : ∀ σ H Q, t' σ H Q → t σ H Q) : PA X es t' := ⟨fun pos pins s σ H Q I w => h.run pos pins s σ H Q I (k σ H Q w)⟩
theorem PS.imp {st : Stmt} {t t' : TS} (h : PS X st t) (k : ∀ D σ H, t' D σ H → t D σ H) : PS X st t' := ⟨fun pins s σ H D I w => h.run pins s σ H D I (k D σ H w)⟩
theorem PSs.imp {st : List Stmt} {t t' : TS} (h : PSs X st t) (k : ∀ D σ H, t' D σ H → t D σ H) : PSs X st t' := ⟨fun pins s σ H D I w => h.run pins s σ H D I (k D σ H w)⟩
end

end L2
namespace PL
open PySem PySem.Spec PyProof.Rows L2
/-! ## the readings of pure meanings -/
structure Amb where
  W : WX
  G0 : Hp
  H0 : Hp
def clOf (mg : Str → Option Value) (n : Str) : Value := (mg n).getD .none
def XR (K : PySem.W.Frag) (G H : Hp) (d : Addr) (e : Exc) : Prop := ∃ vs, H d = some (.xd ((e.flds.map (·.1)).zip vs)) ∧ Reps K G vs (e.flds.map (·.2))
section
variable (K : PySem.W.Frag) (mg : Str → Option Value) (a : Amb)
def Wn (σ : L2.St) (G H : Hp) (e : Exc) : Prop := ∀ d G' H', Grow G H G' H' → XR K G' H' d e → a.W (clOf mg e.cls) (some d) σ H'
def PostE {α : Type} (σ : L2.St) (G H : Hp) (r : Res α) (k : α → Prop) : Prop := match r with
  | .ok x => k x
  | .exc e => Wn K mg a σ G H e
  | .stuck => False
def RR (ρ : En) (σ : L2.St) (G H : Hp) : Prop := R K a.G0 a.H0 ρ σ G H
/-- an expression that gives shared data -/
def tD (f : En → Res D) : TE := fun σ H Q => ∃ ρ G, RR K a ρ σ G H ∧ PostE K mg a σ G H (f ρ) fun d => ∀ v G' H', Grow G H G' H' → Rep K G' v d → Q v H'
/-- .. a new list -/
def tO (f : En → Res (List D)) : TE := fun σ H Q => ∃ ρ G, RR K a ρ σ G H ∧ PostE K mg a σ G H (f ρ) fun ds => ∀ l vs G' H', Grow G H G' H' → H l = none → G' l = none → H' l = some (.lst vs) → Reps K G' vs ds → Q (.ref l) H'
def tT (f : En → Res Bool) : TT := fun σ H Q => ∃ ρ G, RR K a ρ σ G H ∧ PostE K mg a σ G H (f ρ) fun b => ∀ G' H', Grow G H G' H' → Q b H'
def tA (f : En → Res (List D)) : TA := fun σ H Q => ∃ ρ G, RR K a ρ σ G H ∧ PostE K mg a σ G H (f ρ) fun ds => ∀ vs G' H', Grow G H G' H' → Reps K G' vs ds → Q vs H'
def Post (Dn : Ends) (G : Hp) (o : Out) : Prop := match o with
  | .next ρ => ∀ σ' G' H', RR K a ρ σ' G' H' → Same G G' → Dn.nx σ' H'
  | .brk ρ => ∀ σ' G' H', RR K a ρ σ' G' H' → Same G G' → Dn.bk σ' H'
  | .cont ρ => ∀ σ' G' H', RR K a ρ σ' G' H' → Same G G' → Dn.ct σ' H'
  | .ret (.sh d) => ∀ v G' H', Grow a.G0 a.H0 G' H' → Same G G' → Rep K G' v d → Dn.rt v H'
  | .ret (.ow xs) => ∀ l vs G' H', Grow a.G0 a.H0 G' H' → Same G G' → a.H0 l = none → G' l = none → H' l = some (.lst vs) → Reps K G' vs xs → Dn.rt (.ref l) H'
  | .ret (.tm d) => ∀ v G' H' T, Grow a.G0 a.H0 G' H' → Same G G' → (∀ b x, T b = some x → G' b = none ∧ a.H0 b = none ∧ H' b = some x) → RepL K G' T v d → Dn.rt v H'
  | .exc e ρ => ∀ d σ' G' H', RR K a ρ σ' G' H' → Same G G' → XR K G' H' d e → a.W (clOf mg e.cls) (some d) σ' H'
  | .stuck => False
def tS (f : En → Out) : TS := fun Dn σ H => ∃ ρ G, RR K a ρ σ G H ∧ Post K mg a Dn G (f ρ)
end
section
variable {K : PySem.W.Frag} {mg : Str → Option Value} {a : Amb} {α β : Type} {σ : L2.St} {G H G1 H1 : Hp} {ρ : En}
theorem Wn.grow {e : Exc} (g : Grow G H G1 H1) (w : Wn K mg a σ G H e) : Wn K mg a σ G1 H1 e := fun d G' H' g' x => w d G' H' (g.trans g') x
theorem PostE.bind {r : Res α} {f : α → Res β} {k : β → Prop} (h : PostE K mg a σ G H (r.bind f) k) : PostE K mg a σ G H r fun x => PostE K mg a σ G H (f x) k := by
  cases r <;> exact h
theorem PostE.imp {r : Res α} {k k' : α → Prop} (h : PostE K mg a σ G H r k) (q : ∀ x, r = .ok x → k x → k' x) : PostE K mg a σ G H r k' := by
  cases r with
  | ok x => exact q x rfl h
  | exc e => exact h
  | stuck => exact h
theorem PostE.grow {r : Res α} {k : α → Prop} (h : PostE K mg a σ G H r k) (g : Grow G H G1 H1) : PostE K mg a σ G1 H1 r k := by
  cases r with
  | ok x => exact h
  | exc e => exact Wn.grow g h
  | stuck => exact h
theorem PostE.okOf {r : Res α} {k : α → Prop} {x : α} (h : PostE K mg a σ G H r k) (e : r = .ok x) : k x := by
  rw [e] at h; exact h
theorem Post.mono {Dn : Ends} {o : Out} (s : Same G G1) (h : Post K mg a Dn G o) : Post K mg a Dn G1 o := by
  cases o with
  | next ρ => exact fun σ' G' H' r s' => h σ' G' H' r (s.trans s')
  | brk ρ => exact fun σ' G' H' r s' => h σ' G' H' r (s.trans s')
  | cont ρ => exact fun σ' G' H' r s' => h σ' G' H' r (s.trans s')
  | ret r => cases r with
    | sh d => exact fun v G' H' r s' => h v G' H' r (s.trans s')
    | ow xs => exact fun l vs G' H' r s' => h l vs G' H' r (s.trans s')
    | tm d => exact fun v G' H' T r s' => h v G' H' T r (s.trans s')
  | exc e ρ => exact fun d σ' G' H' r s' => h d σ' G' H' r (s.trans s')
  | stuck => exact h
end

/-! ## meanings: expressions -/
def eC (d : D) : En → Res D := fun _ => .ok d
def eVar (i : Nat) : En → Res D := fun ρ => match ρ[i]? with | some (.sh d) => .ok d | _ => .stuck
def bin (o : D → D → Res D) (f g : En → Res D) : En → Res D := fun ρ => (f ρ).bind fun x => (g ρ).bind fun y => o x y
def una (o : D → Res D) (f : En → Res D) : En → Res D := fun ρ => (f ρ).bind fun x => o x
def aNil : En → Res (List D) := fun _ => .ok []
def aCons (f : En → Res D) (g : En → Res (List D)) : En → Res (List D) := fun ρ => (f ρ).bind fun x => (g ρ).bind fun xs => .ok (x :: xs)
/-- a function of the argument list -/
def app (o : List D → Res D) (f : En → Res (List D)) : En → Res D := fun ρ => (f ρ).bind o
def appO (o : List D → Res (List D)) (f : En → Res (List D)) : En → Res (List D) := fun ρ => (f ρ).bind o
/-- a new list, shared at once -/
def own (f : En → Res (List D)) : En → Res D := fun ρ => (f ρ).bind fun xs => .ok (.lst xs)
def tru (f : En → Res Bool) : En → Res D := fun ρ => (f ρ).bind fun b => .ok (.bl b)
def ifE (c : En → Res Bool) (f g : En → Res D) : En → Res D := fun ρ => (c ρ).bind fun b => if b then f ρ else g ρ
def andB (f g : En → Res Bool) : En → Res Bool := fun ρ => (f ρ).bind fun b => if b then g ρ else .ok false
def orB (f g : En → Res Bool) : En → Res Bool := fun ρ => (f ρ).bind fun b => if b then .ok true else g ρ
def notB (f : En → Res Bool) : En → Res Bool := fun ρ => (f ρ).bind fun b => .ok (!b)
/-- under a condition -/
def gd {α : Type} (c : Prop) [Decidable c] (r : Res α) : Res α := if c then r else .stuck
theorem PostE.gd {K : PySem.W.Frag} {mg : Str → Option Value} {a : Amb} {α : Type} {σ : L2.St} {G H : Hp} {c : Prop} [Decidable c] {r : Res α} {k : α → Prop} (h : PostE K mg a σ G H (gd c r) k) : c ∧ PostE K mg a σ G H r k := by
  unfold PL.gd at h
  by_cases hc : c
  · rw [if_pos hc] at h; exact ⟨hc, h⟩
  · rw [if_neg hc] at h; exact h.elim
theorem gd_ok {α : Type} {c : Prop} [Decidable c] {r : Res α} {x : α} (h : gd c r = .ok x) : c ∧ r = .ok x := by
  unfold gd at h
  by_cases hc : c
  · rw [if_pos hc] at h; exact ⟨hc, h⟩
  · rw [if_neg hc] at h; cases h
theorem gd_exc {α : Type} {c : Prop} [Decidable c] {r : Res α} {e : Exc} (h : gd c r = .exc e) : c ∧ r = .exc e := by
  unfold gd at h
  by_cases hc : c
  · rw [if_pos hc] at h; exact ⟨hc, h⟩
  · rw [if_neg hc] at h; cases h
theorem gd_pos {α : Type} {c : Prop} [Decidable c] {r : Res α} (h : c) : gd c r = r := if_pos h
def bOf : D → Res Bool | .bl b => .ok b | _ => .stuck
def truD : D → Res Bool
  | .non => .ok false | .bl b => .ok b | .int i => .ok (i != 0)
  | .str s => gd (s.length ≤ sizeLine) (.ok ((s.length : Int) != 0))
  | .tup xs => .ok (!xs.isEmpty) | .lst xs => .ok (!xs.isEmpty) | .scr ns => .ok (!ns.isEmpty)
/-- a value as a test -/
def tst (o : D → Res Bool) (f : En → Res D) : En → Res Bool := fun ρ => (f ρ).bind o
/-- and, or, not as values: all but the last a bool -/
def andV (f g : En → Res D) : En → Res D := fun ρ => (f ρ).bind fun x => (bOf x).bind fun b => if b then g ρ else .ok (.bl false)
def orV (f g : En → Res D) : En → Res D := fun ρ => (f ρ).bind fun x => (bOf x).bind fun b => if b then .ok (.bl true) else g ρ
def notV (f : En → Res D) : En → Res D := fun ρ => (f ρ).bind fun x => (bOf x).bind fun b => .ok (.bl (!b))

/-! ## meanings: statements -/
def ofR {α : Type} (ρ : En) (r : Res α) (k : α → Out) : Out := match r with | .ok x => k x | .exc e => .exc e ρ | .stuck => .stuck
def sNext : En → Out := fun ρ => .next ρ
def sSeq (f g : En → Out) : En → Out := fun ρ => match f ρ with | .next ρ' => g ρ' | o => o
def sSet (i : Nat) (f : En → Res D) : En → Out := fun ρ => ofR ρ (f ρ) fun d => .next (ρ.set i (.sh d))
def sSetO (i : Nat) (f : En → Res (List D)) : En → Out := fun ρ => ofR ρ (f ρ) fun d => .next (ρ.set i (.ow (.lst d)))
def sDrop (f : En → Res D) : En → Out := fun ρ => ofR ρ (f ρ) fun _ => .next ρ
def sRet (f : En → Res D) : En → Out := fun ρ => ofR ρ (f ρ) fun d => .ret (.sh d)
def sRetO (f : En → Res (List D)) : En → Out := fun ρ => ofR ρ (f ρ) fun d => .ret (.ow d)
/-- return of an owned list at slot i -/
def sRetV (i : Nat) : En → Out := fun ρ => match ρ[i]? with | some (.ow (.lst xs)) => .ret (.ow xs) | _ => .stuck
def sRetN : En → Out := fun _ => .ret (.sh .non)
def sIf (c : En → Res Bool) (f g : En → Out) : En → Out := fun ρ => ofR ρ (c ρ) fun b => if b then f ρ else g ρ
def sBrk : En → Out := fun ρ => .brk ρ
def sCont : En → Out := fun ρ => .cont ρ
def sFrz (i : Nat) (f : En → Out) : En → Out := fun ρ => match ρ[i]? with | some (.ow (.lst xs)) => f (ρ.set i (.sh (.lst xs))) | _ => .stuck

/-! ## rules: expressions -/
section
variable {X : Cx} {a : Amb} {e b : Expr} {es : List Expr} {f g : En → Res D} {pos : Pos}

theorem pe_const {d : D} {v : V} (h : PE X e (tC v)) (r : ∀ G, Rep X.K G v d) : PE X e (tD X.K X.mg a (eC d)) :=
  h.imp fun σ H Q ⟨ρ, G, hR, q⟩ => q v G H (Grow.refl hR.sub) (r G)
theorem d_int {i : Int} {j : Nat} : PE X (.Constant (.int i) j pos) (tD X.K X.mg a (eC (.int i))) := pe_const pe_int fun _ => .int i
theorem d_bl {i : Bool} {j : Nat} : PE X (.Constant (.bool i) j pos) (tD X.K X.mg a (eC (.bl i))) := pe_const pe_bl fun _ => .bl i
theorem d_non {j : Nat} : PE X (.Constant .none j pos) (tD X.K X.mg a (eC .non)) := pe_const pe_non fun _ => .non
theorem d_str {x : Str} {j : Nat} : PE X (.Constant (.str x) j pos) (tD X.K X.mg a (eC (.str x))) := pe_const pe_str fun _ => .str x
/-- a module's constant -/
theorem d_glob {x : Str} {d : D} {v : V} {u : Value} (hm : X.mg x = some u) (r : RelV v u) (q : ∀ G, Rep X.K G v d) (hg : Gl X x := by rfl) (hd : (x == ("__debug__" : Str)) = false := by decide) : PE X (.Name x pos) (tD X.K X.mg a (eC d)) := pe_const (pe_glob hg hm r hd) q
theorem d_var (i : Nat) {x : Str} (hN : X.N[i]? = some x := by rfl) (hv : Vis X.env.scope x := by first | exact Or.inl rfl | exact Or.inr (Or.inl rfl) | exact Or.inr (Or.inr rfl)) (hd : (x == ("__debug__" : Str)) = false := by decide)
    (hcd : (x == ("__classdict__" : Str)) = false := by decide) : PE X (.Name x pos) (tD X.K X.mg a (eVar i)) :=
  (pe_var hN hv hd hcd).imp fun σ H Q ⟨ρ, G, hR, q⟩ => by
    unfold eVar at q
    cases h : ρ[i]? with
    | none => rw [h] at q; exact q.elim
    | some s => cases s with
      | no => rw [h] at q; exact q.elim
      | tmp _ => rw [h] at q; exact q.elim
      | ow xs => rw [h] at q; exact q.elim
      | sh d =>
        rw [h] at q
        obtain ⟨v, e1, r⟩ := hR.sh h
        exact ⟨v, e1, q v G H (Grow.refl hR.sub) r⟩

/-- an operator on data -/
def OpD (X : Cx) (op : Value → Value → Sem Value) (o : D → D → Res D) : Prop := ∃ r : R2, OpR X op r ∧
  ∀ (G H : Hp) (x y : V) (c d z : D) (Q : VK), Same G H → Rep X.K G x c → Rep X.K G y d → o c d = .ok z → (∀ v G' H', Grow G H G' H' → Rep X.K G' v z → Q v H') → r x y H Q
/-- .. it raises nothing -/
def NoX (o : D → D → Res D) : Prop := ∀ x y e, o x y ≠ .exc e
theorem bin_ok {o : D → D → Res D} {r : R2} (hx : NoX o)
    (hr : ∀ (G H : Hp) (x y : V) (c d z : D) (Q : VK), Same G H → Rep X.K G x c → Rep X.K G y d → o c d = .ok z → (∀ v G' H', Grow G H G' H' → Rep X.K G' v z → Q v H') → r x y H Q)
    (σ : L2.St) (H : Hp) (Q : VK) (h : tD X.K X.mg a (bin o f g) σ H Q) : tOp r (tD X.K X.mg a f) (tD X.K X.mg a g) σ H Q := by
  obtain ⟨ρ, G, hR, q⟩ := h
  refine ⟨ρ, G, hR, (PostE.bind q).imp fun x e1 q1 v1 G1 H1 g1 r1 => ?_⟩
  refine ⟨ρ, G1, hR.grow g1, ((PostE.bind q1).grow g1).imp fun y e2 q2 v2 G2 H2 g2 r2 => ?_⟩
  cases h3 : o x y with
  | stuck => rw [h3] at q2; exact q2.elim
  | exc e => exact absurd h3 (hx x y e)
  | ok z =>
    rw [h3] at q2
    exact hr G2 H2 v1 v2 x y z Q g2.s (Rep.mono g2.g _ _ r1) r2 h3 fun v G' H' g3 r3 => q2 v G' H' ((g1.trans g2).trans g3) r3
theorem d_bin {op : Operator} {o : D → D → Res D} (ho : OpD X (binaryOp op) o) (hx : NoX o) (hf : PE X e (tD X.K X.mg a f)) (hg : PE X b (tD X.K X.mg a g)) : PE X (.BinOp e op b pos) (tD X.K X.mg a (bin o f g)) := by
  obtain ⟨r, h1, h2⟩ := ho
  exact (pe_op h1 hf hg).imp (bin_ok hx h2)
theorem d_cmp {op : CmpOp} {o : D → D → Res D} (ho : OpD X (compareOp op) o) (hx : NoX o) (hf : PE X e (tD X.K X.mg a f)) (hg : PE X b (tD X.K X.mg a g)) (hm : behindInMarks op b = false) : PE X (.Compare e [op] [b] pos) (tD X.K X.mg a (bin o f g)) := by
  obtain ⟨r, h1, h2⟩ := ho
  exact (pe_cmpR h1 hf hg hm).imp (bin_ok hx h2)
/-- a comparison as a test -/
theorem t_cmp {op : CmpOp} {o : D → D → Res D} (ho : OpD X (compareOp op) o) (hx : NoX o) (hf : PE X e (tD X.K X.mg a f)) (hg : PE X b (tD X.K X.mg a g)) (hm : behindInMarks op b = false) : PT X (.Compare e [op] [b] pos) (tT X.K X.mg a (tst bOf (bin o f g))) := by
  obtain ⟨r, h1, h2⟩ := ho
  refine (pt_cmpR h1 hf hg hm).imp fun σ H Q ⟨ρ, G, hR, q⟩ => ?_
  refine bin_ok hx h2 σ H _ ⟨ρ, G, hR, (PostE.bind q).imp fun x e1 q1 v G' H' g1 r1 => ?_⟩
  cases r1 with
  | bl k => exact ⟨k, rfl, q1 G' H' g1⟩
  | _ => exact q1.elim
/-- the truth of a value as a test -/
theorem t_tru (hf : PE X e (tD X.K X.mg a f)) (he : ∀ whole, isTrue e X.env whole = (do let v ← whole; standAt e.pos; holding [v] (truthy v)) := by intro _; rfl) : PT X e (tT X.K X.mg a (tst truD f)) := by
  refine (pt_truth hf he).imp fun σ H Q ⟨ρ, G, hR, q⟩ => ?_
  refine ⟨ρ, G, hR, (PostE.bind q).imp fun x e1 q1 v G' H' g1 r1 => ?_⟩
  have sh := g1.s
  cases r1 with
  | non => exact ⟨false, rfl, q1 G' H' g1⟩
  | bl k => exact ⟨k, rfl, q1 G' H' g1⟩
  | int i => exact ⟨_, rfl, q1 G' H' g1⟩
  | str s =>
    obtain ⟨hz, q1⟩ := PostE.gd q1
    exact ⟨_, ⟨hz, rfl⟩, q1 G' H' g1⟩
  | @tup p vs ds h r =>
    refine ⟨!ds.isEmpty, .inr (.inl ⟨vs, same_tup sh h, ?_⟩), q1 G' H' g1⟩
    cases r <;> rfl
  | @lst p vs ds h r =>
    refine ⟨!ds.isEmpty, .inl ⟨vs, SqL.of (sh _ _ h), ?_⟩, q1 G' H' g1⟩
    cases r <;> rfl
  | @scr p ns h =>
    refine ⟨!ns.isEmpty, .inl ⟨_, sh.seq h, ?_⟩, q1 G' H' g1⟩
    cases ns <;> rfl
theorem t_not {t : En → Res Bool} (h : PT X e (tT X.K X.mg a t)) : PT X (.UnaryOp .Not e pos) (tT X.K X.mg a (notB t)) :=
  (pt_not h).imp fun σ H Q ⟨ρ, G, hR, q⟩ => ⟨ρ, G, hR, (PostE.bind q).imp fun x _ q1 => q1⟩
theorem t_and1 {t : En → Res Bool} (h : PT X e (tT X.K X.mg a t)) : PW X (.BoolOp .And [e] pos) (tT X.K X.mg a t) := pw_and1 h
theorem t_or1 {t : En → Res Bool} (h : PT X e (tT X.K X.mg a t)) : PW X (.BoolOp .Or [e] pos) (tT X.K X.mg a t) := pw_or1 h
theorem t_and {t u : En → Res Bool} (h : PT X e (tT X.K X.mg a t)) (h2 : PW X (.BoolOp .And (b :: es) pos) (tT X.K X.mg a u)) : PW X (.BoolOp .And (e :: b :: es) pos) (tT X.K X.mg a (andB t u)) :=
  (pw_and h h2).imp fun σ H Q ⟨ρ, G, hR, q⟩ => ⟨ρ, G, hR, (PostE.bind q).imp fun x e1 q1 G' H' g1 => by
    cases x with
    | true => exact ⟨ρ, G', hR.grow g1, (q1.grow g1).imp fun y _ q2 G2 H2 g2 => q2 G2 H2 (g1.trans g2)⟩
    | false => exact q1 G' H' g1⟩
theorem t_or {t u : En → Res Bool} (h : PT X e (tT X.K X.mg a t)) (h2 : PW X (.BoolOp .Or (b :: es) pos) (tT X.K X.mg a u)) : PW X (.BoolOp .Or (e :: b :: es) pos) (tT X.K X.mg a (orB t u)) :=
  (pw_or h h2).imp fun σ H Q ⟨ρ, G, hR, q⟩ => ⟨ρ, G, hR, (PostE.bind q).imp fun x e1 q1 G' H' g1 => by
    cases x with
    | true => exact q1 G' H' g1
    | false => exact ⟨ρ, G', hR.grow g1, (q1.grow g1).imp fun y _ q2 G2 H2 g2 => q2 G2 H2 (g1.trans g2)⟩⟩
theorem d_one {op : BoolOp} (h : PE X e (tD X.K X.mg a f)) : PE X (.BoolOp op [e] pos) (tD X.K X.mg a f) := pe_one h
theorem d_and (h : PE X e (tD X.K X.mg a f)) (h2 : PE X (.BoolOp .And (b :: es) pos) (tD X.K X.mg a g)) : PE X (.BoolOp .And (e :: b :: es) pos) (tD X.K X.mg a (andV f g)) :=
  (pe_and h h2).imp fun σ H Q ⟨ρ, G, hR, q⟩ => ⟨ρ, G, hR, (PostE.bind q).imp fun x e1 q1 v G' H' g1 r1 => by
    cases r1 with
    | bl k => cases k with
      | true => exact ⟨true, rfl, ρ, G', hR.grow g1, (q1.grow g1).imp fun y _ q2 w G2 H2 g2 => q2 w G2 H2 (g1.trans g2)⟩
      | false => exact ⟨false, rfl, q1 _ G' H' g1 (.bl false)⟩
    | _ => exact q1.elim⟩
theorem d_or (h : PE X e (tD X.K X.mg a f)) (h2 : PE X (.BoolOp .Or (b :: es) pos) (tD X.K X.mg a g)) : PE X (.BoolOp .Or (e :: b :: es) pos) (tD X.K X.mg a (orV f g)) :=
  (pe_or h h2).imp fun σ H Q ⟨ρ, G, hR, q⟩ => ⟨ρ, G, hR, (PostE.bind q).imp fun x e1 q1 v G' H' g1 r1 => by
    cases r1 with
    | bl k => cases k with
      | false => exact ⟨false, rfl, ρ, G', hR.grow g1, (q1.grow g1).imp fun y _ q2 w G2 H2 g2 => q2 w G2 H2 (g1.trans g2)⟩
      | true => exact ⟨true, rfl, q1 _ G' H' g1 (.bl true)⟩
    | _ => exact q1.elim⟩
theorem d_not (h : PE X e (tD X.K X.mg a f)) : PE X (.UnaryOp .Not e pos) (tD X.K X.mg a (notV f)) :=
  (pe_not h).imp fun σ H Q ⟨ρ, G, hR, q⟩ => ⟨ρ, G, hR, (PostE.bind q).imp fun x e1 q1 v G' H' g1 r1 => by
    cases r1 with
    | bl k => exact ⟨k, rfl, q1 _ G' H' g1 (.bl _)⟩
    | _ => exact q1.elim⟩
theorem d_ifE {c : Expr} {t : En → Res Bool} (hc : PT X c (tT X.K X.mg a t)) (h : PE X e (tD X.K X.mg a f)) (h2 : PE X b (tD X.K X.mg a g)) : PE X (.IfExp c e b pos) (tD X.K X.mg a (ifE t f g)) :=
  (pe_ifExp hc h h2).imp fun σ H Q ⟨ρ, G, hR, q⟩ => ⟨ρ, G, hR, (PostE.bind q).imp fun x e1 q1 G' H' g1 => by
    cases x with
    | true => exact ⟨ρ, G', hR.grow g1, (q1.grow g1).imp fun y _ q2 w G2 H2 g2 => q2 w G2 H2 (g1.trans g2)⟩
    | false => exact ⟨ρ, G', hR.grow g1, (q1.grow g1).imp fun y _ q2 w G2 H2 g2 => q2 w G2 H2 (g1.trans g2)⟩⟩
/-- a new list, shared at once -/
theorem d_own {fo : En → Res (List D)} (h : PE X e (tO X.K X.mg a fo)) : PE X e (tD X.K X.mg a (own fo)) :=
  h.imp fun σ H Q ⟨ρ, G, hR, q⟩ => ⟨ρ, G, hR, (PostE.bind q).imp fun x e1 q1 l vs G' H' g1 n1 n2 h1 r1 =>
    q1 _ _ _ (g1.share n1 n2 h1) (.lst upd_same (Reps.mono (same_new n2) _ _ r1))⟩
/-! argument lists, displays -/
theorem a_nil : PA X [] (tA X.K X.mg a aNil) := pa_nil.imp fun σ H Q ⟨ρ, G, hR, q⟩ => q [] G H (Grow.refl hR.sub) .nil
theorem a_cons {fs : En → Res (List D)} (h : PE X e (tD X.K X.mg a f)) (hs : PA X es (tA X.K X.mg a fs)) (hst : starEach (e :: es) X.env = (false, eval e X.env) :: starEach es X.env := by rfl) : PA X (e :: es) (tA X.K X.mg a (aCons f fs)) :=
  (pa_cons h hs hst).imp fun σ H Q ⟨ρ, G, hR, q⟩ => ⟨ρ, G, hR, (PostE.bind q).imp fun x e1 q1 v G' H' g1 r1 =>
    ⟨ρ, G', hR.grow g1, ((PostE.bind q1).grow g1).imp fun xs e2 q2 vs G2 H2 g2 r2 => q2 (v :: vs) G2 H2 (g1.trans g2) (.cons (Rep.mono g2.g _ _ r1) r2)⟩⟩
def tupD (xs : List D) : Res D := gd (xs.length ≤ sizeLine) (.ok (.tup xs))
def lstD (xs : List D) : Res (List D) := gd (xs.length ≤ sizeLine) (.ok xs)
theorem d_tup {fs : En → Res (List D)} {x1 : Nat} (hs : PA X es (tA X.K X.mg a fs)) : PE X (.Tuple es x1 pos) (tD X.K X.mg a (app tupD fs)) :=
  (pe_tup hs).imp fun σ H Q ⟨ρ, G, hR, q⟩ => ⟨ρ, G, hR, (PostE.bind q).imp fun xs e1 q1 vs G' H' g1 r1 => by
    obtain ⟨hz, q1⟩ := PostE.gd q1
    exact ⟨by rw [r1.len]; exact hz, fun p hp => q1 (.ref p) _ _ (g1.trans (Grow.new g1.s hp)) (.tup (SqT.of upd_same) (Reps.mono (same_new (g1.s.free hp)) _ _ r1))⟩⟩
theorem o_lst {fs : En → Res (List D)} (hs : PA X es (tA X.K X.mg a fs)) : PE X (.List es pos) (tO X.K X.mg a (appO lstD fs)) :=
  (pe_lst hs).imp fun σ H Q ⟨ρ, G, hR, q⟩ => ⟨ρ, G, hR, (PostE.bind q).imp fun xs e1 q1 vs G' H' g1 r1 => by
    obtain ⟨hz, q1⟩ := PostE.gd q1
    exact ⟨by rw [r1.len]; exact hz, fun p hp => q1 p vs G' (upd H' p (.lst vs)) (g1.trans (Grow.own g1.s hp)) (g1.h.free hp) (g1.s.free hp) upd_same r1⟩⟩
end

/-! ## rules: statements -/
section
variable {X : Cx} {a : Amb} {e b : Expr} {st : Stmt} {sts : List Stmt} {f : En → Res D} {F F2 : En → Out} {pos : Pos}
theorem ofR_post {α : Type} {σ : L2.St} {G H : Hp} {ρ : En} {r : Res α} {k : α → Out} {Dn : Ends} (hR : RR X.K a ρ σ G H) (h : Post X.K X.mg a Dn G (ofR ρ r k)) : PostE X.K X.mg a σ G H r fun x => Post X.K X.mg a Dn G (k x) := by
  cases r with
  | ok x => exact h
  | exc e => exact fun d G' H' g x => h d σ G' H' (R.grow hR g) g.g x
  | stuck => exact h
theorem s_nil : PSs X [] (tS X.K X.mg a sNext) := pss_nil.imp fun Dn σ H ⟨ρ, G, hR, q⟩ => q σ G H hR (Same.refl _)
theorem s_cons (h : PS X st (tS X.K X.mg a F)) (h2 : PSs X sts (tS X.K X.mg a F2)) : PSs X (st :: sts) (tS X.K X.mg a (sSeq F F2)) :=
  (pss_cons h h2).imp fun Dn σ H ⟨ρ, G, hR, q⟩ => by
    refine ⟨ρ, G, hR, ?_⟩
    unfold sSeq at q
    cases e1 : F ρ with
    | next ρ' => rw [e1] at q; exact fun σ' G' H' r' s' => ⟨ρ', G', r', Post.mono s' q⟩
    | brk ρ' => rw [e1] at q; exact q
    | cont ρ' => rw [e1] at q; exact q
    | ret r => rw [e1] at q; cases r <;> exact q
    | exc e ρ' => rw [e1] at q; exact q
    | stuck => rw [e1] at q; exact q
theorem s_one (h : PS X st (tS X.K X.mg a F)) : PSs X [st] (tS X.K X.mg a F) := pss_one h
/-- a list becomes shared, ahead of what follows -/
theorem s_frz (i : Nat) (h : PSs X sts (tS X.K X.mg a F)) : PSs X sts (tS X.K X.mg a (sFrz i F)) :=
  h.imp fun Dn σ H ⟨ρ, G, hR, q⟩ => by
    unfold sFrz at q
    cases e1 : ρ[i]? with
    | none => rw [e1] at q; exact q.elim
    | some s => cases s with
      | no => rw [e1] at q; exact q.elim
      | tmp _ => rw [e1] at q; exact q.elim
      | sh d => rw [e1] at q; exact q.elim
      | ow ob => cases ob with
        | dk kvs => rw [e1] at q; exact q.elim
        | lst xs =>
          rw [e1] at q
          obtain ⟨l, vs, _, _, _, _, sg, hR'⟩ := R.frz hR e1
          exact ⟨_, _, hR', Post.mono sg q⟩
theorem s_ret (h : PE X e (tD X.K X.mg a f)) : PS X (.Return (some e) pos) (tS X.K X.mg a (sRet f)) :=
  (ps_ret h).imp fun Dn σ H ⟨ρ, G, hR, q⟩ => ⟨ρ, G, hR, (ofR_post hR q).imp fun x _ q1 v G' H' g r => q1 v G' H' (hR.gr.trans g) g.g r⟩
theorem s_retO {fo : En → Res (List D)} (h : PE X e (tO X.K X.mg a fo)) : PS X (.Return (some e) pos) (tS X.K X.mg a (sRetO fo)) :=
  (ps_ret h).imp fun Dn σ H ⟨ρ, G, hR, q⟩ => ⟨ρ, G, hR, (ofR_post hR q).imp fun x _ q1 l vs G' H' g n1 n2 h1 r => q1 l vs G' H' (hR.gr.trans g) g.g (hR.gr.h.free n1) n2 h1 r⟩
theorem s_retV (i : Nat) {x : Str} {pos2 : Pos} (hN : X.N[i]? = some x := by rfl) (hv : Vis X.env.scope x := by first | exact Or.inl rfl | exact Or.inr (Or.inl rfl) | exact Or.inr (Or.inr rfl)) (hd : (x == ("__debug__" : Str)) = false := by decide)
    (hcd : (x == ("__classdict__" : Str)) = false := by decide) : PS X (.Return (some (.Name x pos)) pos2) (tS X.K X.mg a (sRetV i)) :=
  (ps_ret (pe_var hN hv hd hcd)).imp fun Dn σ H ⟨ρ, G, hR, q⟩ => by
    unfold sRetV at q
    cases e1 : ρ[i]? with
    | none => rw [e1] at q; exact q.elim
    | some s => cases s with
      | no => rw [e1] at q; exact q.elim
      | tmp _ => rw [e1] at q; exact q.elim
      | sh d => rw [e1] at q; exact q.elim
      | ow ob => cases ob with
        | dk kvs => rw [e1] at q; exact q.elim
        | lst xs =>
          rw [e1] at q
          obtain ⟨l, vs, e2, h0, hg, hh, r⟩ := R.owL hR e1
          exact ⟨_, e2, q l vs G H hR.gr (Same.refl _) h0 hg hh r⟩
theorem s_retN : PS X (.Return none pos) (tS X.K X.mg a sRetN) :=
  ps_retN.imp fun Dn σ H ⟨ρ, G, hR, q⟩ => q .non G H hR.gr (Same.refl _) .non
theorem s_set {i : Nat} {x : Str} {p : Pos} (hnd : X.N.Nodup) (h : PE X e (tD X.K X.mg a f)) (hN : X.N[i]? = some x := by rfl) (hx : Loc X.env.scope x := by first | exact Or.inl rfl | exact Or.inr rfl)
    (hfn : X.fn x = true ∨ X.env.scope.names.lookup x = some .local := by first | exact .inl rfl | exact .inr rfl) (hs : swapsWith e (some (.Name x p)) pos.line X.env = pure false := by rfl) :
    PS X (.Assign [.Name x p] e pos) (tS X.K X.mg a (sSet i f)) :=
  (ps_set hnd hN hx h hs hfn).imp fun Dn σ H ⟨ρ, G, hR, q⟩ => ⟨ρ, G, hR, (ofR_post hR q).imp fun d _ q1 v G' H' g r => q1 _ G' H' (R.setSh (R.grow hR g) i r) g.g⟩
theorem s_setO {i : Nat} {x : Str} {p : Pos} {fo : En → Res (List D)} (hnd : X.N.Nodup) (h : PE X e (tO X.K X.mg a fo)) (hN : X.N[i]? = some x := by rfl) (hx : Loc X.env.scope x := by first | exact Or.inl rfl | exact Or.inr rfl)
    (hfn : X.fn x = true ∨ X.env.scope.names.lookup x = some .local := by first | exact .inl rfl | exact .inr rfl) (hs : swapsWith e (some (.Name x p)) pos.line X.env = pure false := by rfl) :
    PS X (.Assign [.Name x p] e pos) (tS X.K X.mg a (sSetO i fo)) :=
  (ps_set hnd hN hx h hs hfn).imp fun Dn σ H ⟨ρ, G, hR, q⟩ => ⟨ρ, G, hR, (ofR_post hR q).imp fun d _ q1 l vs G' H' g n1 n2 h1 r => q1 _ G' H' (R.setNew hR i g n1 n2 h1 (.lst r)) g.g⟩
theorem s_drop (h : PE X e (tD X.K X.mg a f)) (hs : swapsWith e none pos.line X.env = pure false := by rfl) : PS X (.Expr e pos) (tS X.K X.mg a (sDrop f)) :=
  (ps_expr h hs).imp fun Dn σ H ⟨ρ, G, hR, q⟩ => ⟨ρ, G, hR, (ofR_post hR q).imp fun d _ q1 v G' H' g r => q1 _ G' H' (R.grow hR g) g.g⟩
theorem s_if {c : Expr} {t : En → Res Bool} {ss : List Stmt} (hc : PT X c (tT X.K X.mg a t)) (h : PSs X sts (tS X.K X.mg a F)) (h2 : PSs X ss (tS X.K X.mg a F2)) : PS X (.If c sts ss pos) (tS X.K X.mg a (sIf t F F2)) :=
  (ps_if hc h h2).imp fun Dn σ H ⟨ρ, G, hR, q⟩ => ⟨ρ, G, hR, (ofR_post hR q).imp fun b _ q1 G' H' g => by
    cases b with
    | true => exact ⟨ρ, G', R.grow hR g, Post.mono g.g q1⟩
    | false => exact ⟨ρ, G', R.grow hR g, Post.mono g.g q1⟩⟩
theorem s_brk : PS X (.Break pos) (tS X.K X.mg a sBrk) := ps_break.imp fun Dn σ H ⟨ρ, G, hR, q⟩ => q σ G H hR (Same.refl _)
theorem s_cont : PS X (.Continue pos) (tS X.K X.mg a sCont) := ps_continue.imp fun Dn σ H ⟨ρ, G, hR, q⟩ => q σ G H hR (Same.refl _)
theorem s_pass : PS X (.Pass pos) (tS X.K X.mg a sNext) := ps_pass.imp fun Dn σ H ⟨ρ, G, hR, q⟩ => q σ G H hR (Same.refl _)
end
end PL

set_option maxRecDepth 100000
set_option maxHeartbeats 1000000
namespace PL
open PySem PySem.Spec PyProof.Rows L2

/-! ## data as the library's -/
mutual
def toPy : D → PyData
  | .non => .none | .bl b => .bool b | .int i => .int i | .str s => .str s | .tup xs => .tuple (toPys xs) | .lst xs => .list (toPys xs) | .scr _ => .dict []
def toPys : List D → List PyData
  | [] => []
  | x :: xs => toPy x :: toPys xs
end
mutual
theorem Rep.dp {K : PySem.W.Frag} {G : Hp} : ∀ (d : D) (v : V), (toPy d).canLay0 = true → Rep K G v d → Dp K G v (toPy d)
  | .non, _, _, .non => .non
  | .bl b, _, _, .bl _ => .bl b
  | .int b, _, _, .int _ => .int b
  | .str b, _, _, .str _ => .str b
  | .tup ds, _, h, .tup e r => .tup e (Reps.dp ds _ (by simpa only [toPy, PyData.canLay0] using h) r)
  | .lst ds, _, h, .lst e r => .lst (SqL.of e) (Reps.dp ds _ (by simpa only [toPy, PyData.canLay0] using h) r)
  | .scr _, _, h, .scr _ => by simp only [toPy, PyData.canLay0] at h; cases h
theorem Reps.dp {K : PySem.W.Frag} {G : Hp} : ∀ (ds : List D) (vs : List V), PyData.canLayAll0 (toPys ds) = true → Reps K G vs ds → DpAll K G vs (toPys ds)
  | [], _, _, .nil => .nil
  | d :: ds, _, h, .cons e r => by
    have h' : ((toPy d).canLay0 && PyData.canLayAll0 (toPys ds)) = true := by simpa only [toPys, PyData.canLayAll0] using h
    obtain ⟨h1, h2⟩ := Bool.and_eq_true_iff.mp h'
    exact .cons (Rep.dp d _ h1 e) (Reps.dp ds _ h2 r)
end
mutual
theorem Dp.monoS {K : PySem.W.Frag} {G H : Hp} (s : Same G H) : ∀ (d : PyData) (v : V), Dp K G v d → Dp K H v d
  | _, _, .non => .non
  | _, _, .bl b => .bl b
  | _, _, .int b => .int b
  | _, _, .str b => .str b
  | .list ds, _, .lst e r => .lst (s.seq e) (DpAll.monoS s ds _ r)
  | .tuple ds, _, .tup e r => .tup (same_tup s e) (DpAll.monoS s ds _ r)
theorem DpAll.monoS {K : PySem.W.Frag} {G H : Hp} (s : Same G H) : ∀ (ds : List PyData) (vs : List V), DpAll K G vs ds → DpAll K H vs ds
  | _, _, .nil => .nil
  | d :: ds, _, .cons e r => .cons (Dp.monoS s d _ e) (DpAll.monoS s ds _ r)
end
def shp (d : D) : Bool := SeqAt.shaped (toPy d)
theorem shp_dp {K : PySem.W.Frag} {G H : Hp} (s : Same G H) {d : D} {v : V} (h : shp d = true) (r : Rep K G v d) : Dp K H v (toPy d) := Dp.monoS s _ _ (Rep.dp d v (SeqAt.canLay_of_shaped h) r)
theorem units64 {k : Nat} {A : Around} (r : Room k A) : A.units + 64 < cLine := r.units
theorem units65 {k : Nat} {A : Around} (r : Room k A) : A.units + 65 < cLine := by have := r.un; omega

/-! ## operators -/
def addD : D → D → Res D
  | .int a, .int b => .ok (.int (a + b))
  | .str a, .str b => gd (a.length + b.length ≤ sizeLine) (.ok (.str (a ++ b)))
  | .tup a, .tup b => gd (a.length + b.length ≤ sizeLine) (.ok (.tup (a ++ b)))
  | .lst a, .lst b => gd (a.length + b.length ≤ sizeLine) (.ok (.lst (a ++ b)))
  | _, _ => .stuck
def subD : D → D → Res D | .int a, .int b => .ok (.int (a - b)) | _, _ => .stuck
def mulD : D → D → Res D
  | .int a, .int b => gd (a.natAbs.log2 + b.natAbs.log2 < 1000000) (.ok (.int (a * b)))
  | .lst a, .int b => gd (-(2 ^ 63) ≤ b ∧ b < 2 ^ 63 ∧ a.length * b.toNat ≤ sizeLine) (.ok (.lst (List.replicate b.toNat a).flatten))
  | _, _ => .stuck
def modD : D → D → Res D | .int a, .int b => gd (0 < b) (.ok (.int (a % b))) | _, _ => .stuck
def fdivD : D → D → Res D | .int a, .int b => gd (0 < b ∧ b < 2 ^ 64) (.ok (.int (a / b))) | _, _ => .stuck
def powD : D → D → Res D | .int a, .int b => gd (0 ≤ b ∧ b ≤ 1000000 ∧ a.natAbs < 2 ^ 64) (.ok (.int (a ^ b.toNat))) | _, _ => .stuck
def ltD : D → D → Res D | .int a, .int b => .ok (.bl (decide (a < b))) | _, _ => .stuck
def leD : D → D → Res D | .int a, .int b => .ok (.bl (decide (a ≤ b))) | _, _ => .stuck
def gtD : D → D → Res D | .int a, .int b => .ok (.bl (decide (b < a))) | _, _ => .stuck
def geD : D → D → Res D | .int a, .int b => .ok (.bl (decide (b ≤ a))) | _, _ => .stuck
def eqv (a b : D) : Bool := PyData.eqv (toPy a) (toPy b)
def eqD (a b : D) : Res D := gd (shp a = true ∧ shp b = true) (.ok (.bl (eqv a b)))
def neD (a b : D) : Res D := gd (shp a = true ∧ shp b = true) (.ok (.bl (!eqv a b)))
/-- is, is not: with None, True, False -/
def isNonD : D → Bool | .non => true | _ => false
def isD : D → D → Res D
  | a, .non => .ok (.bl (isNonD a))
  | .bl a, .bl b => .ok (.bl (decide (a = b)))
  | _, _ => .stuck
def isNotD : D → D → Res D
  | a, .non => .ok (.bl (!isNonD a))
  | .bl a, .bl b => .ok (.bl (!decide (a = b)))
  | _, _ => .stuck
def sign1 (s : Str) : Option Nat := match s.cps.toList with | [c] => some c | _ => none
def flD : D → Bool | .non => true | .bl _ => true | .int _ => true | .str _ => true | _ => false
def inD : D → D → Res D
  | .str a, .str b => match sign1 a with | some c => .ok (.bl (decide (c ∈ b.cps.toList))) | none => .stuck
  | a, .lst xs => gd (shp a = true ∧ shp (.lst xs) = true) (.ok (.bl (xs.any fun x => eqv x a)))
  | a, .tup xs => gd (flD a = true ∧ xs.all flD = true) (.ok (.bl (xs.any fun x => eqv x a)))
  | _, _ => .stuck
def notInD : D → D → Res D
  | .str a, .str b => match sign1 a with | some c => .ok (.bl (!decide (c ∈ b.cps.toList))) | none => .stuck
  | a, .lst xs => gd (shp a = true ∧ shp (.lst xs) = true) (.ok (.bl (!xs.any fun x => eqv x a)))
  | a, .tup xs => gd (flD a = true ∧ xs.all flD = true) (.ok (.bl (!xs.any fun x => eqv x a)))
  | _, _ => .stuck

theorem nox_add : NoX addD := fun x y e h => by
  cases x <;> cases y <;> first | (cases h; done) | (have := (gd_exc h).2; cases this)
theorem nox_sub : NoX subD := fun x y e h => by cases x <;> cases y <;> cases h
theorem nox_mul : NoX mulD := fun x y e h => by
  cases x <;> cases y <;> first | (cases h; done) | (have := (gd_exc h).2; cases this)
theorem nox_mod : NoX modD := fun x y e h => by
  cases x <;> cases y <;> first | (cases h; done) | (have := (gd_exc h).2; cases this)
theorem nox_fdiv : NoX fdivD := fun x y e h => by
  cases x <;> cases y <;> first | (cases h; done) | (have := (gd_exc h).2; cases this)
theorem nox_pow : NoX powD := fun x y e h => by
  cases x <;> cases y <;> first | (cases h; done) | (have := (gd_exc h).2; cases this)
theorem nox_lt : NoX ltD := fun x y e h => by cases x <;> cases y <;> cases h
theorem nox_le : NoX leD := fun x y e h => by cases x <;> cases y <;> cases h
theorem nox_gt : NoX gtD := fun x y e h => by cases x <;> cases y <;> cases h
theorem nox_ge : NoX geD := fun x y e h => by cases x <;> cases y <;> cases h
theorem nox_eq : NoX eqD := fun x y e h => by have := (gd_exc h).2; cases this
theorem nox_ne : NoX neD := fun x y e h => by have := (gd_exc h).2; cases this
theorem nox_is : NoX isD := fun x y e h => by cases x <;> cases y <;> cases h
theorem nox_isNot : NoX isNotD := fun x y e h => by cases x <;> cases y <;> cases h
theorem nox_in : NoX inD := fun x y e h => by
  cases x <;> cases y <;> first
    | (cases h; done)
    | (have := (gd_exc h).2; cases this)
    | (simp only [inD] at h; split at h <;> cases h)
theorem nox_notIn : NoX notInD := fun x y e h => by
  cases x <;> cases y <;> first
    | (cases h; done)
    | (have := (gd_exc h).2; cases this)
    | (simp only [notInD] at h; split at h <;> cases h)

section
variable {X : Cx}
theorem opI_of {bop : Value → Value → Sem Value} {C : Int → Int → Prop} {g : Int → Int → D} {gv : Int → Int → V} {o : D → D → Res D} (h : OpR X bop (rI C gv)) (hg : ∀ i j G, Rep X.K G (gv i j) (g i j))
    (ho : ∀ x y z, o x y = .ok z → ∃ i j, x = .int i ∧ y = .int j ∧ C i j ∧ z = g i j) : OpD X bop o :=
  ⟨_, h, fun G H x y c d z Q s rx ry e k => by
    obtain ⟨i, j, rfl, rfl, hc, rfl⟩ := ho _ _ _ e
    cases rx; cases ry
    exact ⟨i, j, rfl, rfl, hc, k _ G H (Grow.refl s) (hg i j G)⟩⟩
theorem opI0_of {bop : Value → Value → Sem Value} {g : Int → Int → D} {gv : Int → Int → V} {o : D → D → Res D} (h : OpR X bop (rI0 gv)) (hg : ∀ i j G, Rep X.K G (gv i j) (g i j))
    (ho : ∀ x y z, o x y = .ok z → ∃ i j, x = .int i ∧ y = .int j ∧ z = g i j) : OpD X bop o :=
  ⟨_, h, fun G H x y c d z Q s rx ry e k => by
    obtain ⟨i, j, rfl, rfl, rfl⟩ := ho _ _ _ e
    cases rx; cases ry
    exact ⟨i, j, rfl, rfl, k _ G H (Grow.refl s) (hg i j G)⟩⟩
theorem od_sub : OpD X (binaryOp .Sub) subD := opI0_of (g := fun i j => .int (i - j)) op_sub (fun _ _ _ => .int _) fun x y z e => by
  cases x <;> cases y <;> first | (cases e; done) | (cases e; exact ⟨_, _, rfl, rfl, rfl⟩)
theorem od_mod : OpD X (binaryOp .Mod) modD := opI_of (g := fun i j => .int (i % j)) op_mod (fun _ _ _ => .int _) fun x y z e => by
  cases x <;> cases y <;> first | (cases e; done) | (obtain ⟨h, e⟩ := gd_ok e; cases e; exact ⟨_, _, rfl, rfl, h, rfl⟩)
theorem od_fdiv : OpD X (binaryOp .FloorDiv) fdivD := opI_of (g := fun i j => .int (i / j)) op_fdivW (fun _ _ _ => .int _) fun x y z e => by
  cases x <;> cases y <;> first | (cases e; done) | (obtain ⟨h, e⟩ := gd_ok e; cases e; exact ⟨_, _, rfl, rfl, wide_div h.1 (b := 64) (by omega) (by decide) (by decide), rfl⟩)
theorem od_pow : OpD X (binaryOp .Pow) powD := opI_of (g := fun i j => .int (i ^ j.toNat)) op_pow (fun _ _ _ => .int _) fun x y z e => by
  cases x <;> cases y <;> first | (cases e; done) | (obtain ⟨h, e⟩ := gd_ok e; cases e; exact ⟨_, _, rfl, rfl, h, rfl⟩)
theorem od_lt : OpD X (compareOp .Lt) ltD := opI0_of (g := fun i j => .bl (decide (i < j))) op_lt (fun _ _ _ => .bl _) fun x y z e => by
  cases x <;> cases y <;> first | (cases e; done) | (cases e; exact ⟨_, _, rfl, rfl, rfl⟩)
theorem od_le : OpD X (compareOp .LtE) leD := opI0_of (g := fun i j => .bl (decide (i ≤ j))) op_le (fun _ _ _ => .bl _) fun x y z e => by
  cases x <;> cases y <;> first | (cases e; done) | (cases e; exact ⟨_, _, rfl, rfl, rfl⟩)
theorem od_gt : OpD X (compareOp .Gt) gtD := opI0_of (g := fun i j => .bl (decide (j < i))) op_gt (fun _ _ _ => .bl _) fun x y z e => by
  cases x <;> cases y <;> first | (cases e; done) | (cases e; exact ⟨_, _, rfl, rfl, rfl⟩)
theorem od_ge : OpD X (compareOp .GtE) geD := opI0_of (g := fun i j => .bl (decide (j ≤ i))) op_ge (fun _ _ _ => .bl _) fun x y z e => by
  cases x <;> cases y <;> first | (cases e; done) | (cases e; exact ⟨_, _, rfl, rfl, rfl⟩)
theorem od_eq {k : Nat} (hr : Room k X.A) : OpD X (compareOp .Eq) eqD := ⟨_, op_eqD hr.units, fun G H x y c d z Q s rx ry e q => by
  obtain ⟨⟨h1, h2⟩, e⟩ := gd_ok e
  cases e
  exact ⟨_, _, shp_dp s h1 rx, shp_dp s h2 ry, h1, h2, q _ G H (Grow.refl s) (.bl _)⟩⟩
theorem od_ne {k : Nat} (hr : Room k X.A) : OpD X (compareOp .NotEq) neD := ⟨_, op_neD hr.units, fun G H x y c d z Q s rx ry e q => by
  obtain ⟨⟨h1, h2⟩, e⟩ := gd_ok e
  cases e
  exact ⟨_, _, shp_dp s h1 rx, shp_dp s h2 ry, h1, h2, q _ G H (Grow.refl s) (.bl _)⟩⟩
theorem rep_non {K : PySem.W.Frag} {G : Hp} {v : V} {d : D} (r : Rep K G v d) : decide (v = .non) = isNonD d := by
  cases r <;> simp [isNonD]
theorem od_is : OpD X (compareOp .Is) isD := ⟨_, (op_isN).or op_isBl, fun G H x y c d z Q s rx ry e q => by
  cases ry with
  | non =>
    refine .inl ⟨rfl, ?_⟩
    rw [rep_non rx]
    have e' : z = .bl (isNonD c) := by cases c <;> (cases e; rfl)
    subst e'
    exact q _ G H (Grow.refl s) (.bl _)
  | bl b =>
    cases rx with
    | bl a => cases e; exact .inr ⟨a, b, rfl, rfl, q _ G H (Grow.refl s) (.bl _)⟩
    | _ => cases e
  | _ => cases rx <;> cases e⟩
theorem od_isNot : OpD X (compareOp .IsNot) isNotD := ⟨_, (op_notN).or op_notBl, fun G H x y c d z Q s rx ry e q => by
  cases ry with
  | non =>
    refine .inl ⟨rfl, ?_⟩
    rw [rep_non rx]
    have e' : z = .bl (!isNonD c) := by cases c <;> (cases e; rfl)
    subst e'
    exact q _ G H (Grow.refl s) (.bl _)
  | bl b =>
    cases rx with
    | bl a => cases e; exact .inr ⟨a, b, rfl, rfl, q _ G H (Grow.refl s) (.bl _)⟩
    | _ => cases e
  | _ => cases rx <;> cases e⟩
theorem sign1_eq {s : Str} {c : Nat} (h : sign1 s = some c) : s = ⟨#[c]⟩ := by
  obtain ⟨cs⟩ := s
  unfold sign1 at h
  split at h
  · rename_i c' e
    cases h
    have : cs = #[c] := by
      apply Array.toList_inj.mp; simpa using e
    rw [this]
  · cases h
theorem fl_flat {K : PySem.W.Frag} {G : Hp} {v : V} {d : D} (h : flD d = true) (r : Rep K G v d) : flatV v = true := by
  cases r <;> first | rfl | cases h
theorem fl_eqv {K : PySem.W.Frag} {G : Hp} {v u : V} {d e : D} (h : flD d = true) (h2 : flD e = true) (r : Rep K G v d) (q : Rep K G u e) : eqV v u = eqv d e := by
  cases r <;> first | (cases h; done) | (cases q <;> first | (cases h2; done) | (simp only [eqV, eqv, toPy, PyData.eqv]))
theorem fl_in {K : PySem.W.Frag} {G : Hp} {u : V} {e : D} (h2 : flD e = true) (q : Rep K G u e) : ∀ {ds : List D} {vs : List V}, ds.all flD = true → Reps K G vs ds → vs.all flatV = true ∧ inV u vs = ds.any fun x => eqv x e
  | [], _, _, .nil => ⟨rfl, rfl⟩
  | d :: ds, _, h, .cons r t => by
    rw [List.all_cons, Bool.and_eq_true] at h
    obtain ⟨i1, i2⟩ := fl_in h2 q h.2 t
    refine ⟨by rw [List.all_cons, fl_flat h.1 r, i1] <;> rfl, ?_⟩
    unfold inV at i2 ⊢
    rw [List.any_cons, List.any_cons, fl_eqv h.1 h2 r q, i2]
theorem od_in {k : Nat} (hr : Room k X.A) : OpD X (compareOp .In) inD := ⟨_, ((op_in_sign).or (op_inD (units65 hr))).or op_in_seq, fun G H x y c d z Q s rx ry e q => by
  have lcase : ∀ xs, d = .lst xs → inD c d = gd (shp c = true ∧ shp (.lst xs) = true) (.ok (.bl (xs.any fun x => eqv x c))) → rInD X.K x y H Q := fun xs hd he => by
    subst hd
    rw [he] at e
    obtain ⟨⟨h1, h2⟩, e⟩ := gd_ok e
    cases e
    refine ⟨_, toPys xs, shp_dp s h1 rx, by have := shp_dp s h2 ry; simpa only [toPy] using this, h1, by simpa only [shp, toPy] using h2, ?_⟩
    have e2 : ((toPys xs).any fun z => PyData.eqv z (toPy c)) = xs.any fun x => eqv x c := by
      clear h2 q he e ry
      induction xs with
      | nil => rfl
      | cons a r ih => simp only [toPys, List.any_cons, ih, eqv]
    rw [e2]
    exact q _ G H (Grow.refl s) (.bl _)
  have tcase : ∀ xs, d = .tup xs → inD c d = gd (flD c = true ∧ xs.all flD = true) (.ok (.bl (xs.any fun x => eqv x c))) → rIn X.K false x y H Q := fun xs hd he => by
    subst hd
    rw [he] at e
    obtain ⟨⟨h1, h2⟩, e⟩ := gd_ok e
    cases e
    cases ry with
    | @tup p vs ds h r =>
      obtain ⟨i1, i2⟩ := fl_in h1 rx h2 r
      refine ⟨p, vs, rfl, .inr (same_tup s h), fl_flat h1 rx, i1, ?_⟩
      rw [i2]
      exact q _ G H (Grow.refl s) (.bl _)
  cases d with
  | lst xs => exact .inl (.inr (lcase xs rfl (by cases c <;> rfl)))
  | tup xs => exact .inr (tcase xs rfl (by cases c <;> rfl))
  | str b =>
    cases c with
    | str a =>
      simp only [inD] at e
      split at e
      · rename_i cc hc
        cases e
        cases rx; cases ry
        exact .inl (.inl ⟨cc, b, by rw [sign1_eq hc], rfl, q _ G H (Grow.refl s) (.bl _)⟩)
      · cases e
    | _ => cases e
  | _ => cases c <;> cases e⟩
theorem od_notIn {k : Nat} (hr : Room k X.A) : OpD X (compareOp .NotIn) notInD := ⟨_, ((op_notIn_sign).or (op_notInD (units65 hr))).or op_notIn_seq, fun G H x y c d z Q s rx ry e q => by
  have lcase : ∀ xs, d = .lst xs → notInD c d = gd (shp c = true ∧ shp (.lst xs) = true) (.ok (.bl (!xs.any fun x => eqv x c))) → rNotInD X.K x y H Q := fun xs hd he => by
    subst hd
    rw [he] at e
    obtain ⟨⟨h1, h2⟩, e⟩ := gd_ok e
    cases e
    refine ⟨_, toPys xs, shp_dp s h1 rx, by have := shp_dp s h2 ry; simpa only [toPy] using this, h1, by simpa only [shp, toPy] using h2, ?_⟩
    have e2 : ((toPys xs).any fun z => PyData.eqv z (toPy c)) = xs.any fun x => eqv x c := by
      clear h2 q he e ry
      induction xs with
      | nil => rfl
      | cons a r ih => simp only [toPys, List.any_cons, ih, eqv]
    rw [e2]
    exact q _ G H (Grow.refl s) (.bl _)
  have tcase : ∀ xs, d = .tup xs → notInD c d = gd (flD c = true ∧ xs.all flD = true) (.ok (.bl (!xs.any fun x => eqv x c))) → rIn X.K true x y H Q := fun xs hd he => by
    subst hd
    rw [he] at e
    obtain ⟨⟨h1, h2⟩, e⟩ := gd_ok e
    cases e
    cases ry with
    | @tup p vs ds h r =>
      obtain ⟨i1, i2⟩ := fl_in h1 rx h2 r
      refine ⟨p, vs, rfl, .inr (same_tup s h), fl_flat h1 rx, i1, ?_⟩
      rw [i2]
      exact q _ G H (Grow.refl s) (.bl _)
  cases d with
  | lst xs => exact .inl (.inr (lcase xs rfl (by cases c <;> rfl)))
  | tup xs => exact .inr (tcase xs rfl (by cases c <;> rfl))
  | str b =>
    cases c with
    | str a =>
      simp only [notInD] at e
      split at e
      · rename_i cc hc
        cases e
        cases rx; cases ry
        exact .inl (.inl ⟨cc, b, by rw [sign1_eq hc], rfl, q _ G H (Grow.refl s) (.bl _)⟩)
      · cases e
    | _ => cases e
  | _ => cases c <;> cases e⟩
theorem tupl_nil {K : PySem.W.Frag} {G : Hp} {vs : List V} {ds : List D} (r : Reps K G vs ds) : vs = [] ↔ ds = [] := by
  cases r <;> simp
theorem od_add : OpD X (binaryOp .Add) addD := ⟨_, ((op_add).or op_add_str).or ((op_catA).or op_cat), fun G H x y c d z Q s rx ry e q => by
  cases rx with
  | int i => cases ry with
    | int j => cases e; exact .inl (.inl ⟨i, j, rfl, rfl, q _ G H (Grow.refl s) (.int _)⟩)
    | _ => cases e
  | str i => cases ry with
    | str j => obtain ⟨h, e⟩ := gd_ok e; cases e; exact .inl (.inr ⟨i, j, rfl, rfl, h, q _ G H (Grow.refl s) (.str _)⟩)
    | _ => cases e
  | @tup p vs ds h1 r1 => cases ry with
    | @tup p2 us es h2 r2 =>
      obtain ⟨h, e⟩ := gd_ok e; cases e
      refine .inr (.inl ⟨p, p2, vs, us, rfl, rfl, same_tup s h1, same_tup s h2, by rw [r1.len, r2.len]; exact h, fun z => ?_, fun z1 z2 => ?_, fun z1 z2 l hl => ?_⟩)
      · have : ds = [] := (tupl_nil r1).mp z
        subst this
        exact q _ G H (Grow.refl s) (.tup h2 r2)
      · have : es = [] := (tupl_nil r2).mp z2
        subst this
        rw [List.append_nil] at q
        exact q _ G H (Grow.refl s) (.tup h1 r1)
      · exact q _ _ _ (Grow.new s hl) (.tup (SqT.of upd_same) (Reps.mono (same_new (s.free hl)) _ _ (r1.app r2)))
    | _ => cases e
  | @lst p vs ds h1 r1 => cases ry with
    | @lst p2 us es h2 r2 =>
      obtain ⟨h, e⟩ := gd_ok e; cases e
      exact .inr (.inr ⟨p, p2, vs, us, rfl, rfl, s _ _ h1, s _ _ h2, by rw [r1.len, r2.len]; exact h, fun l hl => q _ _ _ (Grow.new s hl) (.lst upd_same (Reps.mono (same_new (s.free hl)) _ _ (r1.app r2)))⟩)
    | _ => cases e
  | _ => cases ry <;> cases e⟩
theorem od_mul : OpD X (binaryOp .Mult) mulD := ⟨_, (op_mulW).or op_rep, fun G H x y c d z Q s rx ry e q => by
  cases rx with
  | int i => cases ry with
    | int j => obtain ⟨h, e⟩ := gd_ok e; cases e; exact .inl ⟨i, j, rfl, rfl, h, q _ G H (Grow.refl s) (.int _)⟩
    | _ => cases e
  | @lst p vs ds h1 r1 => cases ry with
    | int j =>
      obtain ⟨⟨a1, a2, a3⟩, e⟩ := gd_ok e; cases e
      exact .inr ⟨p, j, vs, rfl, rfl, s _ _ h1, a1, a2, by rw [r1.len]; exact a3, fun l hl => q _ _ _ (Grow.new s hl) (.lst upd_same (Reps.mono (same_new (s.free hl)) _ _ (r1.rep _)))⟩
    | _ => cases e
  | _ => cases ry <;> cases e⟩
end

/-! ## unary minus -/
def negD : D → Res D | .int i => .ok (.int (-i)) | _ => .stuck
section
variable {X : Cx} {a : Amb} {e : Expr} {f : En → Res D} {pos : Pos}
theorem d_neg (h : PE X e (tD X.K X.mg a f)) : PE X (.UnaryOp .USub e pos) (tD X.K X.mg a (una negD f)) :=
  (pe_un un_neg h).imp fun σ H Q ⟨ρ, G, hR, q⟩ => ⟨ρ, G, hR, (PostE.bind q).imp fun x _ q1 v G' H' g r => by
    cases r with
    | int i => exact ⟨i, rfl, q1 _ G' H' g (.int _)⟩
    | _ => exact q1.elim⟩
end
end PL

set_option maxRecDepth 100000
set_option maxHeartbeats 1000000
namespace PL
open PySem PySem.Spec PyProof.Rows L2

/-! ## subscripts -/
theorem Reps.atI {K : PySem.W.Frag} {G : Hp} {vs : List V} {ds : List D} {i : Int} {d : D} (r : Reps K G vs ds) (h : atI ds i = some d) : ∃ v, L2.atI vs i = some v ∧ Rep K G v d := by
  unfold L2.atI at h ⊢
  rw [r.len]
  cases e : ixN ds.length i with
  | none => rw [e] at h; cases h
  | some j =>
    rw [e] at h
    exact r.get h
def ixD : D → D → Res D
  | .lst xs, .int i => match atI xs i with | some d => .ok d | none => .stuck
  | .tup xs, .int i => match atI xs i with | some d => .ok d | none => .stuck
  | .scr ns, .int i => match atI ns i with | some d => .ok (.int d) | none => .stuck
  | .str s, .int i => gd (s.length ≤ sizeLine) (match atI s.cps.toList i with | some c => .ok (.str ⟨#[c]⟩) | none => .stuck)
  | _, _ => .stuck
theorem nox_ix : NoX ixD := fun x y e h => by
  cases x <;> cases y <;> first
    | (cases h; done)
    | (simp only [ixD] at h; split at h <;> cases h)
    | (simp only [ixD] at h; obtain ⟨_, h⟩ := gd_exc h; split at h <;> cases h)
def cutG {α : Type} (xs : List α) (lo hi : Option Int) : List α := (xs.drop (HT.sIx xs.length 0 lo)).take (HT.sIx xs.length xs.length hi - HT.sIx xs.length 0 lo)
theorem Reps.cut {K : PySem.W.Frag} {G : Hp} {vs : List V} {ds : List D} (r : Reps K G vs ds) (lo hi : Option Int) : Reps K G (cutV vs lo hi) (cutG ds lo hi) := by
  unfold cutV cutG
  rw [r.len]
  exact (r.drop _).take _
def sliceD (x : D) (lo hi : Option Int) : Res D := match x with
  | .lst xs => .ok (.lst (cutG xs lo hi))
  | .tup xs => .ok (.tup (cutG xs lo hi))
  | .str s => gd (s.length ≤ sizeLine) (.ok (.str (cutS s lo hi)))
  | _ => .stuck
def pN : En → Res (Option Int) := fun _ => .ok none
def pS (f : En → Res D) : En → Res (Option Int) := fun ρ => (f ρ).bind fun x => match x with | .int i => .ok (some i) | _ => .stuck
def sliceE (f : En → Res D) (l h : En → Res (Option Int)) : En → Res D := fun ρ => (f ρ).bind fun x => (l ρ).bind fun lo => (h ρ).bind fun hi => sliceD x lo hi
section
variable (K : PySem.W.Frag) (mg : Str → Option Value) (a : Amb)
def tP (f : En → Res (Option Int)) : TO := fun σ H Q => ∃ ρ G, RR K a ρ σ G H ∧ PostE K mg a σ G H (f ρ) fun d => ∀ G' H', Grow G H G' H' → Q d H'
end
section
variable {X : Cx} {a : Amb} {e b : Expr} {es : List Expr} {f g : En → Res D} {pos : Pos}
theorem d_ix (hf : PE X e (tD X.K X.mg a f)) (hg : PE X b (tD X.K X.mg a g)) (hp : PlainIx b) : PE X (.Subscript e b pos) (tD X.K X.mg a (bin ixD f g)) :=
  (pe_ix ix_seq hf hg hp).imp (bin_ok nox_ix fun G H x y c d z Q s rx ry h q => by
    cases ry with
    | int i =>
      cases rx with
      | @lst p vs ds h1 r1 =>
        simp only [ixD] at h
        split at h
        · rename_i d' hd; cases h
          obtain ⟨v, e1, r⟩ := r1.atI hd
          exact .inl ⟨p, vs, i, v, rfl, rfl, SqL.of (s _ _ h1), e1, q _ G H (Grow.refl s) r⟩
        · cases h
      | @tup p vs ds h1 r1 =>
        simp only [ixD] at h
        split at h
        · rename_i d' hd; cases h
          obtain ⟨v, e1, r⟩ := r1.atI hd
          exact .inr (.inl ⟨p, vs, i, v, rfl, rfl, same_tup s h1, e1, q _ G H (Grow.refl s) r⟩)
        · cases h
      | @scr p ns h1 =>
        simp only [ixD] at h
        split at h
        · rename_i n hd; cases h
          have e1 : L2.atI (ns.map V.int) i = some (.int n) := by
            unfold L2.atI at hd ⊢
            rw [List.length_map]
            cases e0 : ixN ns.length i with
            | none => rw [e0] at hd; cases hd
            | some j =>
              rw [e0] at hd
              show (ns.map V.int)[j]? = _
              rw [List.getElem?_map, show ns[j]? = some n from hd] <;> rfl
          exact .inl ⟨p, _, i, _, rfl, rfl, s.seq h1, e1, q _ G H (Grow.refl s) (.int n)⟩
        · cases h
      | str z' =>
        simp only [ixD] at h
        obtain ⟨hz, h⟩ := gd_ok h
        split at h
        · rename_i n hd; cases h
          exact .inr (.inr ⟨z', i, n, rfl, rfl, hz, hd, q _ G H (Grow.refl s) (.str _)⟩)
        · cases h
      | _ => cases h
    | _ => cases rx <;> cases h)
theorem p_non : PO X none (tP X.K X.mg a pN) := ⟨fun pins s σ H Q I ⟨ρ, G, hR, q⟩ => (po_none (X := X)).run pins s σ H Q I (q G H (Grow.refl hR.sub))⟩
theorem p_some (h : PE X e (tD X.K X.mg a f)) : PO X (some e) (tP X.K X.mg a (pS f)) := ⟨fun pins s σ H Q I ⟨ρ, G, hR, q⟩ => by
  refine (po_some h).run pins s σ H Q I ⟨ρ, G, hR, (PostE.bind q).imp fun x _ q1 v G' H' g1 r1 => ?_⟩
  cases r1 with
  | int i => exact ⟨i, rfl, q1 G' H' g1⟩
  | _ => exact q1.elim⟩
theorem d_slice {lo hi : Option Expr} {l u : En → Res (Option Int)} {p2 : Pos} (hf : PE X e (tD X.K X.mg a f)) (hl : PO X lo (tP X.K X.mg a l)) (hu : PO X hi (tP X.K X.mg a u)) : PE X (.Subscript e (.Slice lo hi none p2) pos) (tD X.K X.mg a (sliceE f l u)) :=
  (pe_slice ((sl_list).or ((sl_tupA).or sl_str)) hf hl hu).imp fun σ H Q ⟨ρ, G, hR, q⟩ =>
    ⟨ρ, G, hR, (PostE.bind q).imp fun x _ q1 v G1 H1 g1 r1 => ⟨ρ, G1, R.grow hR g1, ((PostE.bind q1).grow g1).imp fun lo' _ q2 G2 H2 g2 =>
      ⟨ρ, G2, R.grow (R.grow hR g1) g2, ((PostE.bind q2).grow (g1.trans g2)).imp fun hi' _ q3 G3 H3 g3 => by
        have r3 := Rep.mono (g2.g.trans g3.g) _ _ r1
        have gg := (g1.trans g2).trans g3
        have sg := g3.s
        cases r3 with
        | @lst p vs ds h1 r => exact .inl ⟨p, vs, rfl, SqL.of (sg _ _ h1), fun l' hl' => q3 _ _ _ (gg.trans (Grow.new sg hl')) (.lst upd_same (Reps.mono (same_new (sg.free hl')) _ _ (r.cut lo' hi')))⟩
        | @tup p vs ds h1 r =>
          refine .inr (.inl ⟨p, vs, rfl, same_tup sg h1, fun hw => ?_, fun hw l' hl' => q3 _ _ _ (gg.trans (Grow.new sg hl')) (.tup (SqT.of upd_same) (Reps.mono (same_new (sg.free hl')) _ _ (r.cut lo' hi')))⟩)
          have e1 : cutG ds lo' hi' = ds := by
            unfold cutG
            rw [r.len] at hw
            rw [hw.1, hw.2]; simp
          have q4 : ∀ v G' H', Grow G H G' H' → Rep X.K G' v (.tup ds) → Q v H' := fun v G' H' g r => q3 v G' H' g (by rw [e1]; exact r)
          exact q4 _ _ _ gg (.tup h1 r)
        | str s =>
          obtain ⟨hz, q4⟩ := PostE.gd q3
          exact .inr (.inr ⟨s, rfl, hz, q4 _ _ _ gg (.str _)⟩)
        | _ => exact q3.elim⟩⟩⟩
end

/-! ## calls of built-ins -/
def NoXL (o : List D → Res D) : Prop := ∀ xs e, o xs ≠ .exc e
def CallD (X : Cx) (f : Value) (o : List D → Res D) : Prop := ∃ r : List V → Hp → VK → Prop, CallR X f r ∧
  ∀ (G H : Hp) (vs : List V) (ds : List D) (z : D) (Q : VK), Same G H → Reps X.K G vs ds → o ds = .ok z → (∀ v G' H', Grow G H G' H' → Rep X.K G' v z → Q v H') → r vs H Q
/-- .. whose value is a new list -/
def CallO (X : Cx) (f : Value) (o : List D → Res (List D)) : Prop := ∃ r : List V → Hp → VK → Prop, CallR X f r ∧
  ∀ (G H : Hp) (vs : List V) (ds zs : List D) (Q : VK), Same G H → Reps X.K G vs ds → o ds = .ok zs → (∀ l us G' H', Grow G H G' H' → H l = none → G' l = none → H' l = some (.lst us) → Reps X.K G' us zs → Q (.ref l) H') → r vs H Q
section
variable {X : Cx} {a : Amb} {e b : Expr} {es : List Expr} {f g : En → Res D} {fs : En → Res (List D)} {pos p : Pos} {x : Str} {id T : String}
theorem app_run {o : List D → Res D} {r : List V → Hp → VK → Prop} (hx : NoXL o)
    (hr : ∀ (G H : Hp) (vs : List V) (ds : List D) (z : D) (Q : VK), Same G H → Reps X.K G vs ds → o ds = .ok z → (∀ v G' H', Grow G H G' H' → Rep X.K G' v z → Q v H') → r vs H Q)
    (σ : L2.St) (H : Hp) (Q : VK) (h : tD X.K X.mg a (app o fs) σ H Q) : tCB r (tA X.K X.mg a fs) σ H Q := by
  obtain ⟨ρ, G, hR, q⟩ := h
  refine ⟨ρ, G, hR, (PostE.bind q).imp fun ds _ q1 vs G1 H1 g1 r1 => ?_⟩
  cases h3 : o ds with
  | stuck => rw [h3] at q1; exact q1.elim
  | exc e => exact absurd h3 (hx ds e)
  | ok z =>
    rw [h3] at q1
    exact hr G1 H1 vs ds z Q g1.s r1 h3 fun v G' H' g3 r3 => q1 v G' H' (g1.trans g3) r3
theorem appO_run {o : List D → Res (List D)} {r : List V → Hp → VK → Prop} (hx : ∀ xs e, o xs ≠ .exc e)
    (hr : ∀ (G H : Hp) (vs : List V) (ds zs : List D) (Q : VK), Same G H → Reps X.K G vs ds → o ds = .ok zs → (∀ l us G' H', Grow G H G' H' → H l = none → G' l = none → H' l = some (.lst us) → Reps X.K G' us zs → Q (.ref l) H') → r vs H Q)
    (σ : L2.St) (H : Hp) (Q : VK) (h : tO X.K X.mg a (appO o fs) σ H Q) : tCB r (tA X.K X.mg a fs) σ H Q := by
  obtain ⟨ρ, G, hR, q⟩ := h
  refine ⟨ρ, G, hR, (PostE.bind q).imp fun ds _ q1 vs G1 H1 g1 r1 => ?_⟩
  cases h3 : o ds with
  | stuck => rw [h3] at q1; exact q1.elim
  | exc e => exact absurd h3 (hx ds e)
  | ok z =>
    rw [h3] at q1
    exact hr G1 H1 vs ds z Q g1.s r1 h3 fun l us G' H' g3 n1 n2 h1 r3 => q1 l us G' H' (g1.trans g3) (g1.h.free n1) n2 h1 r3
theorem d_callB {o : List D → Res D} (hc : CallD X (.builtin id) o) (hx : NoXL o) (hv : bootBuiltins x = some (.builtin id)) (hm : X.mg x = none) (ha : PA X (e :: es) (tA X.K X.mg a fs)) (hg : Gl X x := by rfl) (hn : x ≠ "__name__" := by decide) (hdb : (x == ("__debug__" : Str)) = false := by decide)
    (he : starEach (e :: es) X.env = (false, eval e X.env) :: starEach es X.env := by rfl) (hpl : (backTo pos (starEach es X.env)).any (·.1) = false := by rfl) : PE X (.Call (.Name x p) (e :: es) [] pos) (tD X.K X.mg a (app o fs)) := by
  obtain ⟨r, h1, h2⟩ := hc
  exact (pe_callB h1 hg hm hv ha hn hdb he hpl).imp (app_run hx h2)
theorem d_callTy {o : List D → Res D} (hc : CallD X (.type T) o) (hx : NoXL o) (hv : bootBuiltins x = some (.type T)) (hm : X.mg x = none) (ha : PA X (e :: es) (tA X.K X.mg a fs)) (hg : Gl X x := by rfl) (hn : x ≠ "__name__" := by decide) (hdb : (x == ("__debug__" : Str)) = false := by decide)
    (he : starEach (e :: es) X.env = (false, eval e X.env) :: starEach es X.env := by rfl) (hpl : (backTo pos (starEach es X.env)).any (·.1) = false := by rfl) : PE X (.Call (.Name x p) (e :: es) [] pos) (tD X.K X.mg a (app o fs)) := by
  obtain ⟨r, h1, h2⟩ := hc
  exact (pe_callTy h1 hg hm hv ha hn hdb he hpl).imp (app_run hx h2)
theorem o_callB {o : List D → Res (List D)} (hc : CallO X (.builtin id) o) (hx : ∀ xs e, o xs ≠ .exc e) (hv : bootBuiltins x = some (.builtin id)) (hm : X.mg x = none) (ha : PA X (e :: es) (tA X.K X.mg a fs)) (hg : Gl X x := by rfl) (hn : x ≠ "__name__" := by decide) (hdb : (x == ("__debug__" : Str)) = false := by decide)
    (he : starEach (e :: es) X.env = (false, eval e X.env) :: starEach es X.env := by rfl) (hpl : (backTo pos (starEach es X.env)).any (·.1) = false := by rfl) : PE X (.Call (.Name x p) (e :: es) [] pos) (tO X.K X.mg a (appO o fs)) := by
  obtain ⟨r, h1, h2⟩ := hc
  exact (pe_callB h1 hg hm hv ha hn hdb he hpl).imp (appO_run hx h2)
theorem o_callTy {o : List D → Res (List D)} (hc : CallO X (.type T) o) (hx : ∀ xs e, o xs ≠ .exc e) (hv : bootBuiltins x = some (.type T)) (hm : X.mg x = none) (ha : PA X (e :: es) (tA X.K X.mg a fs)) (hg : Gl X x := by rfl) (hn : x ≠ "__name__" := by decide) (hdb : (x == ("__debug__" : Str)) = false := by decide)
    (he : starEach (e :: es) X.env = (false, eval e X.env) :: starEach es X.env := by rfl) (hpl : (backTo pos (starEach es X.env)).any (·.1) = false := by rfl) : PE X (.Call (.Name x p) (e :: es) [] pos) (tO X.K X.mg a (appO o fs)) := by
  obtain ⟨r, h1, h2⟩ := hc
  exact (pe_callTy h1 hg hm hv ha hn hdb he hpl).imp (appO_run hx h2)
end

def lenL : List D → Res D
  | [.str s] => gd (s.length ≤ sizeLine) (.ok (.int s.length))
  | [.tup xs] => .ok (.int xs.length) | [.lst xs] => .ok (.int xs.length) | [.scr ns] => .ok (.int ns.length)
  | _ => .stuck
def absL : List D → Res D | [.int i] => .ok (.int (if i < 0 then -i else i)) | _ => .stuck
def intL : List D → Res D
  | [.int i] => .ok (.int i) | [.bl b] => .ok (.int (if b then 1 else 0))
  | [.str s] => match PySem.intText? s with | some n => gd (s.length ≤ 640) (.ok (.int n)) | none => .stuck
  | _ => .stuck
def strL : List D → Res D | [.int i] => gd (i.natAbs.log2 < 1920) (.ok (.str (toString i))) | [.str s] => .ok (.str s) | _ => .stuck
def max2L : List D → Res D | [.int i, .int j] => .ok (.int (if j > i then j else i)) | _ => .stuck
def min2L : List D → Res D | [.int i, .int j] => .ok (.int (if j < i then j else i)) | _ => .stuck
def listL : List D → Res (List D) | [.lst xs] => .ok xs | [.tup xs] => .ok xs | [.scr ns] => .ok (ns.map .int) | _ => .stuck
def tupleL : List D → Res D | [.lst xs] => .ok (.tup xs) | [.tup xs] => .ok (.tup xs) | _ => .stuck
theorem nox_len : NoXL lenL := fun xs e h => by
  unfold lenL at h; split at h <;> first | (cases h; done) | (have := (gd_exc h).2; cases this)
theorem nox_abs : NoXL absL := fun xs e h => by unfold absL at h; split at h <;> cases h
theorem nox_int : NoXL intL := fun xs e h => by
  unfold intL at h; split at h <;> first | (cases h; done) | (split at h <;> first | (cases h; done) | (have := (gd_exc h).2; cases this))
theorem nox_str : NoXL strL := fun xs e h => by
  unfold strL at h; split at h <;> first | (cases h; done) | (have := (gd_exc h).2; cases this)
theorem nox_max2 : NoXL max2L := fun xs e h => by unfold max2L at h; split at h <;> cases h
theorem nox_min2 : NoXL min2L := fun xs e h => by unfold min2L at h; split at h <;> cases h
theorem nox_list : ∀ xs e, listL xs ≠ .exc e := fun xs e h => by unfold listL at h; split at h <;> cases h
theorem nox_tuple : NoXL tupleL := fun xs e h => by unfold tupleL at h; split at h <;> cases h
section
variable {X : Cx}
theorem reps1 {K : PySem.W.Frag} {G : Hp} {vs : List V} {d : D} (r : Reps K G vs [d]) : ∃ v, vs = [v] ∧ Rep K G v d := by
  cases r with
  | cons h r => cases r; exact ⟨_, rfl, h⟩
theorem reps2 {K : PySem.W.Frag} {G : Hp} {vs : List V} {d e : D} (r : Reps K G vs [d, e]) : ∃ v u, vs = [v, u] ∧ Rep K G v d ∧ Rep K G u e := by
  cases r with
  | cons h r =>
    obtain ⟨u, rfl, h2⟩ := reps1 r
    exact ⟨_, _, rfl, h, h2⟩
theorem cd_len : CallD X (.builtin "len") lenL := ⟨_, call_len, fun G H vs ds z Q s r h q => by
  unfold lenL at h
  split at h
  · obtain ⟨v, rfl, r1⟩ := reps1 r
    obtain ⟨hz, h⟩ := gd_ok h; cases h; cases r1
    exact ⟨_, _, rfl, ⟨hz, rfl⟩, q _ G H (Grow.refl s) (.int _)⟩
  · obtain ⟨v, rfl, r1⟩ := reps1 r
    cases h
    cases r1 with
    | @tup p vs ds h1 r2 => exact ⟨_, _, rfl, .inr ⟨vs, same_tup s h1, r2.len.symm⟩, q _ G H (Grow.refl s) (.int _)⟩
  · obtain ⟨v, rfl, r1⟩ := reps1 r
    cases h
    cases r1 with
    | @lst p vs ds h1 r2 => exact ⟨_, _, rfl, .inl ⟨vs, SqL.of (s _ _ h1), r2.len.symm⟩, q _ G H (Grow.refl s) (.int _)⟩
  · obtain ⟨v, rfl, r1⟩ := reps1 r
    cases h
    cases r1 with
    | @scr p ns h1 => exact ⟨_, _, rfl, .inl ⟨_, s.seq h1, by rw [List.length_map]⟩, q _ G H (Grow.refl s) (.int _)⟩
  · cases h⟩
theorem cd_abs : CallD X (.builtin "abs") absL := ⟨_, call_abs, fun G H vs ds z Q s r h q => by
  unfold absL at h
  split at h
  · obtain ⟨v, rfl, r1⟩ := reps1 r
    cases h; cases r1
    exact ⟨_, rfl, q _ G H (Grow.refl s) (.int _)⟩
  · cases h⟩
theorem cd_int : CallD X (.type "int") intL := ⟨_, (call_int1).or call_int_str, fun G H vs ds z Q s r h q => by
  unfold intL at h
  split at h
  · obtain ⟨v, rfl, r1⟩ := reps1 r
    cases h; cases r1
    exact .inl (.inl ⟨_, rfl, q _ G H (Grow.refl s) (.int _)⟩)
  · obtain ⟨v, rfl, r1⟩ := reps1 r
    cases h; cases r1
    exact .inl (.inr ⟨_, rfl, q _ G H (Grow.refl s) (.int _)⟩)
  · obtain ⟨v, rfl, r1⟩ := reps1 r
    cases r1
    split at h
    · rename_i n hn
      obtain ⟨hz, h⟩ := gd_ok h; cases h
      exact .inr ⟨_, n, rfl, hn, hz, q _ G H (Grow.refl s) (.int _)⟩
    · cases h
  · cases h⟩
theorem cd_max2 (hc : X.calm = true) : CallD X (.builtin "max") max2L := ⟨_, call_max2 hc, fun G H vs ds z Q s r h q => by
  unfold max2L at h
  split at h
  · obtain ⟨v, u, rfl, r1, r2⟩ := reps2 r
    cases h; cases r1; cases r2
    exact ⟨_, _, rfl, q _ G H (Grow.refl s) (.int _)⟩
  · cases h⟩
theorem cd_min2 (hc : X.calm = true) : CallD X (.builtin "min") min2L := ⟨_, call_min2 hc, fun G H vs ds z Q s r h q => by
  unfold min2L at h
  split at h
  · obtain ⟨v, u, rfl, r1, r2⟩ := reps2 r
    cases h; cases r1; cases r2
    exact ⟨_, _, rfl, q _ G H (Grow.refl s) (.int _)⟩
  · cases h⟩
theorem co_list : CallO X (.type "list") listL := ⟨_, call_list_of, fun G H vs ds z Q s r h q => by
  unfold listL at h
  split at h
  · obtain ⟨v, rfl, r1⟩ := reps1 r
    cases h
    cases r1 with
    | @lst p vs ds h1 r2 => exact ⟨p, vs, rfl, .inl (SqL.of (s _ _ h1)), fun l hl => q l vs G _ (Grow.own s hl) hl (s.free hl) upd_same r2⟩
  · obtain ⟨v, rfl, r1⟩ := reps1 r
    cases h
    cases r1 with
    | @tup p vs ds h1 r2 => exact ⟨p, vs, rfl, .inr (same_tup s h1), fun l hl => q l vs G _ (Grow.own s hl) hl (s.free hl) upd_same r2⟩
  · obtain ⟨v, rfl, r1⟩ := reps1 r
    cases h
    cases r1 with
    | @scr p ns h1 => exact ⟨p, _, rfl, .inl (s.seq h1), fun l hl => q l _ G _ (Grow.own s hl) hl (s.free hl) upd_same (Reps.ofInts _)⟩
  · cases h⟩
theorem cd_tuple : CallD X (.type "tuple") tupleL := ⟨_, call_tuple_of, fun G H vs ds z Q s r h q => by
  unfold tupleL at h
  split at h
  · obtain ⟨v, rfl, r1⟩ := reps1 r
    cases h
    cases r1 with
    | @lst p vs ds h1 r2 => exact ⟨p, vs, rfl, .inl ⟨SqL.of (s _ _ h1), fun l hl => q _ _ _ (Grow.new s hl) (.tup (SqT.of upd_same) (Reps.mono (same_new (s.free hl)) _ _ r2))⟩⟩
  · obtain ⟨v, rfl, r1⟩ := reps1 r
    cases h
    cases r1 with
    | @tup p vs ds h1 r2 => exact ⟨p, vs, rfl, .inr ⟨same_tup s h1, q _ G H (Grow.refl s) (.tup h1 r2)⟩⟩
  · cases h⟩
end

/-! ## isinstance -/
def tyD : D → String
  | .non => "NoneType" | .bl _ => "bool" | .int _ => "int" | .str _ => "str" | .tup _ => "tuple" | .lst _ => "list" | .scr _ => "list"
def isiB (t T : String) : Bool := t == T || (t == "bool" && T == "int")
def isiD (T : String) (f : En → Res D) : En → Res D := fun ρ => (f ρ).bind fun d => .ok (.bl (isiB (tyD d) T))
theorem kit_int : ∀ t ∈ ["NoneType", "bool", "int", "str", "tuple", "list"], kitB t "int" = some (isiB t "int") := by decide +kernel
theorem kit_bool : ∀ t ∈ ["NoneType", "bool", "int", "str", "tuple", "list"], kitB t "bool" = some (isiB t "bool") := by decide +kernel
theorem kit_str : ∀ t ∈ ["NoneType", "bool", "int", "str", "tuple", "list"], kitB t "str" = some (isiB t "str") := by decide +kernel
theorem kit_tuple : ∀ t ∈ ["NoneType", "bool", "int", "str", "tuple", "list"], kitB t "tuple" = some (isiB t "tuple") := by decide +kernel
theorem kit_list : ∀ t ∈ ["NoneType", "bool", "int", "str", "tuple", "list"], kitB t "list" = some (isiB t "list") := by decide +kernel
theorem tyx_of {K : PySem.W.Frag} {G H : Hp} (s : Same G H) {v : V} {d : D} (r : Rep K G v d) : TyX K H v (.type (tyD d)) := by
  cases r with
  | non => exact .base .non
  | bl b => exact .base (.bl b)
  | int b => exact .base (.int b)
  | str b => exact .base (.str b)
  | @tup p vs ds h r =>
    rcases same_tup s h with (h | ⟨o, h⟩) | ⟨o, its, n, h, hc, _⟩
    · exact .base (.tup h)
    · exact .fTuple h
    · exact .kTuple h hc
  | @lst p vs ds h r => exact .base (.lst (s _ _ h))
  | @scr p ns h =>
    rcases s.seq h with (h | ⟨o, h⟩) | ⟨o, its, n, h, hc, _⟩
    · exact .base (.lst h)
    · exact .base (.frz h)
    · exact .kList h hc
theorem tyD_mem (d : D) : tyD d ∈ ["NoneType", "bool", "int", "str", "tuple", "list"] := by cases d <;> simp [tyD]
section
variable {X : Cx} {a : Amb} {e : Expr} {f : En → Res D} {pos p p2 : Pos} {x : Str} {T : String}
theorem d_isi (hk : ∀ t ∈ ["NoneType", "bool", "int", "str", "tuple", "list"], kitB t T = some (isiB t T)) (hm : X.mg "isinstance" = none) (hmx : X.mg x = none) (hvx : bootBuiltins x = some (.type T)) (he : PE X e (tD X.K X.mg a f)) (hg : Gl X "isinstance" := by rfl) (hgx : Gl X x := by rfl)
    (hst : starEach [e, .Name x p2] X.env = (false, eval e X.env) :: starEach [.Name x p2] X.env := by rfl) (hst2 : starEach [.Name x p2] X.env = (false, eval (.Name x p2) X.env) :: starEach [] X.env := by rfl) (hpl : (backTo pos (starEach [.Name x p2] X.env)).any (·.1) = false := by rfl)
    (hn : x ≠ "__name__" := by decide) (hd : (x == ("__debug__" : Str)) = false := by decide) :
    PE X (.Call (.Name "isinstance" p) [e, .Name x p2] [] pos) (tD X.K X.mg a (isiD T f)) :=
  (pe_callB call_isi hg hm PyProof.Rows.boot_isinstance (pa_cons he (pa_cons (pe_bltn (v := .ty T) hgx hmx hvx rfl hn hd) pa_nil hst2) hst) (by decide) (by decide) hst hpl).imp fun σ H Q ⟨ρ, G, hR, q⟩ =>
    ⟨ρ, G, hR, (PostE.bind q).imp fun d _ q1 v G' H' g r => ⟨v, .ty T, _, _, _, rfl, .ty T, tyx_of g.s r, kit_ty (hk _ (tyD_mem d)), q1 _ G' H' g (.bl _)⟩⟩
end
end PL

set_option maxRecDepth 100000
set_option maxHeartbeats 1000000
namespace L2
open PySem PySem.Spec PyProof.Rows
theorem PI.imp {X : Cx} {tg e : Expr} {t t' : TI} (h : PI X tg e t) (k : ∀ σ H Q, t' σ H Q → t σ H Q) : PI X tg e t' := ⟨fun pins s σ H Q I w => h.run pins s σ H Q I (k σ H Q w)⟩
theorem PG.imp {X : Cx} {e : Expr} {t t' : TG} (h : PG X e t) (k : ∀ v σ H Q, t' v σ H Q → t v σ H Q) : PG X e t' := ⟨fun pins s σ H v u Q I r w => h.run pins s σ H v u Q I r (k v σ H Q w)⟩
end L2
namespace PL
open PySem PySem.Spec PyProof.Rows L2

/-! ## what is walked -/
/-- J yields the data ds, as long as the heap holds what B holds -/
def ItOk (K : PySem.W.Frag) (J : It) (B G : Hp) (ds : List D) : Prop := ∀ H', Same B H' → ∀ i, (ds.length ≤ i → J.stop i H') ∧ (∀ d, ds[i]? = some d → J.go i H' ∧ ∀ x H'', J.yld i H' x H'' → H'' = H' ∧ Rep K G x d)
def tI (K : PySem.W.Frag) (mg : Str → Option Value) (a : Amb) (f : En → Res (List D)) : TI := fun σ H Rk => ∃ ρ G, RR K a ρ σ G H ∧ PostE K mg a σ G H (f ρ) fun ds => ∀ J G' H', Grow G H G' H' → ItOk K J G' G' ds → Rk J H'
theorem ItOk.lst {K : PySem.W.Frag} {B G : Hp} {p : Addr} {vs : List V} {ds : List D} (h : SqL K B p vs) (r : Reps K G vs ds) : ItOk K (Itl K p) B G ds := fun H' s i => by
  have hq := s.seq h
  refine ⟨fun hl => ⟨vs, hq, by rw [r.len]; exact hl⟩, fun d e => ?_⟩
  obtain ⟨v, e1, q⟩ := r.get e
  refine ⟨⟨vs, v, hq, e1⟩, fun x H'' y => ⟨y.1, ?_⟩⟩
  have e2 := y.2 vs hq
  rw [e1] at e2; cases e2; exact q
theorem ItOk.tup {K : PySem.W.Frag} {B G : Hp} {p : Addr} {vs : List V} {ds : List D} (h : SqT K B p vs) (r : Reps K G vs ds) : ItOk K (Itt K p) B G ds := fun H' s i => by
  have hq := same_tup s h
  refine ⟨fun hl => ⟨vs, hq, by rw [r.len]; exact hl⟩, fun d e => ?_⟩
  obtain ⟨v, e1, q⟩ := r.get e
  refine ⟨⟨vs, v, hq, e1⟩, fun x H'' y => ⟨y.1, ?_⟩⟩
  have e2 := y.2 vs hq
  rw [e1] at e2; cases e2; exact q
theorem ItOk.rng {K : PySem.W.Frag} {B G : Hp} (lo : Int) (n : Nat) : ItOk K (Itr lo n) B G ((List.range n).map fun k => .int (lo + (k : Nat))) := fun H' s i => by
  refine ⟨fun hl => (show n ≤ i by simpa using hl), fun d e => ?_⟩
  rw [List.getElem?_map] at e
  by_cases hi : i < n
  · rw [List.getElem?_range hi] at e
    cases e
    exact ⟨hi, fun x H'' ⟨h1, h2⟩ => ⟨h1, by rw [h2]; exact .int _⟩⟩
  · rw [List.getElem?_eq_none (by simpa using hi)] at e; cases e
def signs (s : Str) : List D := s.cps.toList.map fun c => .str ⟨#[c]⟩
theorem ItOk.str {K : PySem.W.Frag} {B G : Hp} (s : Str) : ItOk K (Its s) B G (signs s) := fun H' _ i => by
  unfold signs
  refine ⟨fun hl => (show s.cps.size ≤ i by simpa using hl), fun d e => ?_⟩
  rw [List.getElem?_map] at e
  cases e1 : s.cps.toList[i]? with
  | none => rw [e1] at e; cases e
  | some c =>
    rw [e1] at e; cases e
    have e2 : s.cps[i]? = some c := by rw [← e1]; simp
    refine ⟨(Array.getElem?_eq_some_iff.mp e2).1, fun x H'' ⟨h1, c', h2, h3⟩ => ⟨h1, ?_⟩⟩
    rw [e2] at h2; cases h2
    rw [h3]; exact .str _
def seqOf : D → Res (List D)
  | .lst xs => .ok xs | .tup xs => .ok xs | .scr ns => .ok (ns.map .int) | .str s => .ok (signs s) | _ => .stuck
def itE (f : En → Res D) : En → Res (List D) := fun ρ => (f ρ).bind seqOf
def rng1 : List D → Res (List D)
  | [.int j] => gd (-(2 ^ 62) ≤ j ∧ j < 2 ^ 62) (.ok ((List.range j.toNat).map fun k => .int ((k : Nat) : Int))) | _ => .stuck
def rng2 : List D → Res (List D)
  | [.int i, .int j] => gd (-(2 ^ 62) ≤ i ∧ i < 2 ^ 62 ∧ -(2 ^ 62) ≤ j ∧ j < 2 ^ 62) (.ok ((List.range (j - i).toNat).map fun k => .int (i + (k : Nat)))) | _ => .stuck
section
variable {X : Cx} {a : Amb} {e b tg : Expr} {es : List Expr} {f g : En → Res D} {fs : En → Res (List D)} {pos p : Pos}
theorem i_seq (h : PE X e (tD X.K X.mg a f)) : PI X tg e (tI X.K X.mg a (itE f)) := ⟨fun pins s σ H Rk I ⟨ρ, G, hR, q⟩ => by
  have q1 := PostE.bind q
  cases hf : f ρ with
  | stuck => rw [hf] at q1; exact q1.elim
  | exc e => 
    refine (pi_list h).run pins s σ H Rk I ⟨ρ, G, hR, ?_⟩
    rw [hf] at q1 ⊢
    exact q1
  | ok d =>
    rw [hf] at q1
    cases d with
    | lst xs =>
      refine (pi_list h).run pins s σ H Rk I ⟨ρ, G, hR, ?_⟩
      rw [hf]
      intro v G' H' g r
      cases r with
      | @lst p vs ds h1 r => exact ⟨p, rfl, ⟨vs, SqL.of (g.s _ _ h1)⟩, q1 _ G' H' g (.lst (SqL.of h1) r)⟩
    | scr ns =>
      refine (pi_list h).run pins s σ H Rk I ⟨ρ, G, hR, ?_⟩
      rw [hf]
      intro v G' H' g r
      cases r with
      | @scr p ns h1 => exact ⟨p, rfl, ⟨_, g.s.seq h1⟩, q1 _ G' H' g (.lst h1 (Reps.ofInts ns))⟩
    | tup xs =>
      refine (pi_tup h).run pins s σ H Rk I ⟨ρ, G, hR, ?_⟩
      rw [hf]
      intro v G' H' g r
      cases r with
      | @tup p vs ds h1 r => exact ⟨p, rfl, ⟨vs, same_tup g.s h1⟩, q1 _ G' H' g (.tup h1 r)⟩
    | str z =>
      refine (pi_str h).run pins s σ H Rk I ⟨ρ, G, hR, ?_⟩
      rw [hf]
      intro v G' H' g r
      cases r
      exact ⟨z, rfl, q1 _ G' H' g (.str z)⟩
    | _ => exact q1.elim⟩
/-- a new list, walked -/
theorem i_new (h : PE X e (tO X.K X.mg a fs)) : PI X tg e (tI X.K X.mg a fs) :=
  (pi_list h).imp fun σ H Q ⟨ρ, G, hR, q⟩ => ⟨ρ, G, hR, q.imp fun ds _ q1 l vs G' H' g n1 n2 h1 r => ⟨l, rfl, ⟨vs, SqL.of h1⟩, q1 _ _ H' (g.share n1 n2 h1) (.lst (SqL.of upd_same) (Reps.mono (same_new n2) _ _ r))⟩⟩
theorem i_rng1 (hm : X.mg "range" = none) (ha : PA X [e] (tA X.K X.mg a fs)) (hg : Gl X "range" := by rfl) (hs : starEach [e] X.env = [(false, eval e X.env)] := by rfl) : PI X tg (.Call (.Name "range" p) [e] [] pos) (tI X.K X.mg a (appO rng1 fs)) :=
  (pi_range1 hg hm ha hs).imp fun σ H Q ⟨ρ, G, hR, q⟩ => ⟨ρ, G, hR, (PostE.bind q).imp fun ds _ q1 vs G' H' g r => by
    unfold rng1 at q1
    split at q1
    · obtain ⟨v, rfl, r1⟩ := reps1 r
      obtain ⟨⟨h1, h2⟩, q2⟩ := PostE.gd q1
      cases r1
      refine ⟨_, rfl, h1, h2, q2 _ G' H' g ?_⟩
      have := ItOk.rng (K := X.K) (B := G') (G := G') 0 (Int.toNat ‹Int›)
      simpa only [Int.zero_add] using this
    · exact q1.elim⟩
theorem i_rng2 (hm : X.mg "range" = none) (ha : PA X [e, b] (tA X.K X.mg a fs)) (hg : Gl X "range" := by rfl) (hs : starEach [e, b] X.env = [(false, eval e X.env), (false, eval b X.env)] := by rfl) (hs2 : starEach [b] X.env = [(false, eval b X.env)] := by rfl) :
    PI X tg (.Call (.Name "range" p) [e, b] [] pos) (tI X.K X.mg a (appO rng2 fs)) :=
  (pi_range2 hg hm ha hs hs2).imp fun σ H Q ⟨ρ, G, hR, q⟩ => ⟨ρ, G, hR, (PostE.bind q).imp fun ds _ q1 vs G' H' g r => by
    unfold rng2 at q1
    split at q1
    · obtain ⟨v, u, rfl, r1, r2⟩ := reps2 r
      obtain ⟨h1, q2⟩ := PostE.gd q1
      cases r1; cases r2
      exact ⟨_, _, rfl, h1, q2 _ G' H' g (ItOk.rng _ _)⟩
    · exact q1.elim⟩
end

/-! ## targets -/
def gN (i : Nat) : D → En → Res En := fun d ρ => .ok (ρ.set i (.sh d))
/-- a tuple's items to slots -/
def setAll : List Nat → List D → En → Res En
  | [], [], ρ => .ok ρ
  | i :: is, d :: ds, ρ => setAll is ds (ρ.set i (.sh d))
  | _, _, _ => .stuck
def gT (is : List Nat) : D → En → Res En := fun d ρ => match d with | .tup xs => setAll is xs ρ | _ => .stuck
def tG (K : PySem.W.Frag) (a : Amb) (t : D → En → Res En) : TG := fun v σ H Q => ∃ ρ G d ρ', RR K a ρ σ G H ∧ Rep K G v d ∧ t d ρ = .ok ρ' ∧ ∀ σ', RR K a ρ' σ' G H → Q σ' H
def tGs (K : PySem.W.Frag) (a : Amb) (is : List Nat) : TGs := fun vs σ H Q => ∃ ρ G ds ρ', RR K a ρ σ G H ∧ Reps K G vs ds ∧ setAll is ds ρ = .ok ρ' ∧ ∀ σ', RR K a ρ' σ' G H → Q σ' H
section
variable {X : Cx} {a : Amb} {e : Expr} {es : List Expr} {pos : Pos}
theorem g_name (i : Nat) {x : Str} (hnd : X.N.Nodup) (hN : X.N[i]? = some x := by rfl) (hx : Loc X.env.scope x := by first | exact Or.inl rfl | exact Or.inr rfl)
    (hfn : X.fn x = true ∨ X.env.scope.names.lookup x = some .local := by first | exact .inl rfl | exact .inr rfl) : PG X (.Name x pos) (tG X.K a (gN i)) :=
  (pg_name hnd hN hx hfn).imp fun v σ H Q ⟨ρ, G, d, ρ', hR, r, e1, q⟩ => by
    cases e1
    exact q _ (R.setSh hR i r)
theorem gs_nil : PGs X [] (tGs X.K a []) := ⟨fun pins s σ H vs us Q I r ⟨ρ, G, ds, ρ', hR, rr, e1, q⟩ => by
  cases ds with
  | nil =>
    cases rr
    cases e1
    exact (pgs_nil (X := X)).run pins s σ H [] us Q I r ⟨rfl, q σ hR⟩
  | cons _ _ => cases e1⟩
theorem gs_cons {i : Nat} {is : List Nat} {x : Str} (hnd : X.N.Nodup) (h2 : PGs X es (tGs X.K a is)) (hN : X.N[i]? = some x := by rfl) (hx : Loc X.env.scope x := by first | exact Or.inl rfl | exact Or.inr rfl)
    (hfn : X.fn x = true ∨ X.env.scope.names.lookup x = some .local := by first | exact .inl rfl | exact .inr rfl)
    (hs : (assignEach (.Name x pos :: es) X.env).map (·.2) = assign (.Name x pos) X.env :: (assignEach es X.env).map (·.2) := by rfl) : PGs X (.Name x pos :: es) (tGs X.K a (i :: is)) :=
  ⟨fun pins s σ H vs us Q I r ⟨ρ, G, ds, ρ', hR, rr, e1, q⟩ => by
    cases ds with
    | nil => cases e1
    | cons d ds =>
      cases rr with
      | cons r1 rr =>
        exact (pgs_cons (pg_name (pos := pos) hnd hN hx hfn) h2 hs).run pins s σ H _ us Q I r ⟨_, _, rfl, _, G, ds, ρ', R.setSh hR i r1, rr, e1, q⟩⟩
theorem setAll_len : ∀ {is : List Nat} {ds : List D} {ρ ρ' : En}, setAll is ds ρ = .ok ρ' → ds.length = is.length
  | [], [], _, _, _ => rfl
  | i :: is, d :: ds, ρ, _, h => by
    have e : ds.length = is.length := setAll_len (ρ := ρ.set i (.sh d)) h
    simp [e]
  | [], _ :: _, _, _, h => by cases h
  | _ :: _, [], _, _, h => by cases h
theorem g_tup {is : List Nat} {k : Nat} (hc : X.calm = true) (h : PGs X es (tGs X.K a is)) (hn : (assignEach es X.env).length = is.length := by rfl) (hst : (assignEach es X.env).findIdx? (·.1) = none := by rfl) : PG X (.Tuple es k pos) (tG X.K a (gT is)) :=
  (pg_tup hc h hn hst).imp fun v σ H Q ⟨ρ, G, d, ρ', hR, r, e1, q⟩ => by
    cases r with
    | @tup p vs ds h1 rr => exact ⟨p, vs, rfl, same_tup (R.sub hR) h1, by rw [rr.len, setAll_len e1], ρ, G, ds, ρ', hR, rr, e1, q⟩
    | _ => cases e1
end

/-! ## for -/
/-- behind one turn of a loop: k goes on -/
def lpO (k : En → Out) : Out → Out
  | .next ρ => k ρ
  | .cont ρ => k ρ
  | .brk ρ => .next ρ
  | .ret r => .ret r
  | .exc e ρ => .exc e ρ
  | .stuck => .stuck
def forL (t : D → En → Res En) (b : En → Out) : List D → En → Out
  | [], ρ => .next ρ
  | d :: ds, ρ => match t d ρ with
    | .ok ρ1 => lpO (forL t b ds) (b ρ1)
    | _ => .stuck
theorem Post.lp {K : PySem.W.Frag} {mg : Str → Option Value} {a : Amb} {Dn : Ends} {G : Hp} {k : En → Out} {o : Out} {N : L2.St → Hp → Prop} (h : Post K mg a Dn G (lpO k o))
    (hN : ∀ ρ σ G' H, RR K a ρ σ G' H → Same G G' → Post K mg a Dn G' (k ρ) → N σ H) : Post K mg a { Dn with nx := N, ct := N, bk := Dn.nx } G o := by
  cases o with
  | next ρ => exact fun σ' G' H' r s => hN ρ σ' G' H' r s (Post.mono s h)
  | cont ρ => exact fun σ' G' H' r s => hN ρ σ' G' H' r s (Post.mono s h)
  | brk ρ => exact h
  | ret r => cases r <;> exact h
  | exc e ρ => exact h
  | stuck => exact h
def sFor (it : En → Res (List D)) (t : D → En → Res En) (b : En → Out) : En → Out := fun ρ => ofR ρ (it ρ) fun ds => forL t b ds ρ
section
variable {X : Cx} {a : Amb} {tg iter : Expr} {sts : List Stmt} {it : En → Res (List D)} {t : D → En → Res En} {F : En → Out} {pos : Pos}
theorem s_for (po : PassesOwn (model X.prog X.w) X.A X.env X.xe) (hc : X.calm = true) (hi : PI X tg iter (tI X.K X.mg a it)) (hg : PG X tg (tG X.K a t)) (hb : PSs X sts (tS X.K X.mg a F)) (hs : ∀ x, foldedSetIterable iter X.env x = pure x := by intro _; rfl) :
    PS X (.For tg iter sts [] pos) (tS X.K X.mg a (sFor it t F)) :=
  (ps_for po hc hi hg hb hs).imp fun Dn σ H ⟨ρ, G, hR, q⟩ => ⟨ρ, G, hR, (ofR_post hR q).imp fun ds _ q1 J G1 H1 g ok => by
    refine ⟨fun i m σ' H' => m = ds.length - i ∧ i ≤ ds.length ∧ ∃ ρ' G', RR X.K a ρ' σ' G' H' ∧ Same G1 G' ∧ Post X.K X.mg a Dn G' (forL t F (ds.drop i) ρ'),
      ⟨ds.length, by simp, Nat.zero_le _, ρ, G1, R.grow hR g, Same.refl _, by rw [List.drop_zero]; exact Post.mono g.g q1⟩, ?_⟩
    rintro i m σ' H' ⟨rfl, hi, ρ', G', hR', sg, q2⟩
    obtain ⟨stop, go⟩ := ok H' (sg.trans (R.sub hR')) i
    by_cases hl : i < ds.length
    · refine .inr ?_
      have e1 : ds[i]? = some ds[i] := List.getElem?_eq_getElem hl
      have e2 : ds.drop i = ds[i] :: ds.drop (i + 1) := List.drop_eq_getElem_cons hl
      rw [e2] at q2
      obtain ⟨h1, h2⟩ := go _ e1
      refine ⟨h1, fun σ2 H2 => ∃ ρ2 G2, RR X.K a ρ2 σ2 G2 H2 ∧ Same G1 G2 ∧ Post X.K X.mg a Dn G2 (forL t F (ds.drop (i + 1)) ρ2), fun σ2 H2 ⟨ρ2, G2, a1, a2, a3⟩ => ⟨ds.length - (i + 1), by omega, rfl, hl, ρ2, G2, a1, a2, a3⟩, fun x H2 y => ?_⟩
      obtain ⟨rfl, r⟩ := h2 x H2 y
      have rx := Rep.mono sg _ _ r
      cases ht : t ds[i] ρ' with
      | exc e => unfold forL at q2; rw [ht] at q2; exact q2.elim
      | stuck => unfold forL at q2; rw [ht] at q2; exact q2.elim
      | ok ρ1 =>
        unfold forL at q2
        rw [ht] at q2
        exact ⟨ρ', G', _, ρ1, hR', rx, ht, fun σ3 hR3 => ⟨ρ1, G', hR3, Post.lp q2 fun ρ2 σ4 G4 H4 r4 s4 p4 => ⟨ρ2, G4, r4, sg.trans s4, p4⟩⟩⟩
    · have e : i = ds.length := by omega
      subst e
      rw [List.drop_length] at q2
      exact .inl ⟨stop (Nat.le_refl _), q2 σ' G' H' hR' (Same.refl _)⟩⟩
end

/-! ## while, with a number of turns that is enough -/
def whlN (c : En → Res Bool) (b : En → Out) : Nat → En → Out
  | 0, _ => .stuck
  | n + 1, ρ => ofR ρ (c ρ) fun k => if k then lpO (whlN c b n) (b ρ) else .next ρ
section
variable {X : Cx} {a : Amb} {c : Expr} {sts : List Stmt} {t : En → Res Bool} {F : En → Out} {pos : Pos}
theorem s_whl (n : Nat) (po : PassesOwn (model X.prog X.w) X.A X.env X.xe) (hc : PT X c (tT X.K X.mg a t)) (hb : PSs X sts (tS X.K X.mg a F)) : PS X (.While c sts [] pos) (tS X.K X.mg a (whlN t F n)) :=
  (ps_while po hc hb).imp fun Dn σ H ⟨ρ, G, hR, q⟩ => by
    refine ⟨fun m σ' H' => ∃ ρ' G', RR X.K a ρ' σ' G' H' ∧ Post X.K X.mg a Dn G' (whlN t F m ρ'), ⟨n, ρ, G, hR, q⟩, ?_⟩
    rintro m σ' H' ⟨ρ', G', hR', q2⟩
    cases m with
    | zero => exact q2.elim
    | succ m =>
      unfold whlN at q2
      refine ⟨ρ', G', hR', (ofR_post hR' q2).imp fun k _ q3 G2 H2 g => ?_⟩
      cases k with
      | false => exact q3 _ G2 H2 (R.grow hR' g) g.g
      | true =>
        exact ⟨fun σ2 H2 => ∃ ρ2 G2, RR X.K a ρ2 σ2 G2 H2 ∧ Post X.K X.mg a Dn G2 (whlN t F m ρ2), fun σ2 H2 w => ⟨m, Nat.lt_succ_self _, w⟩, ρ', G2, R.grow hR' g, Post.lp (Post.mono g.g q3) fun ρ2 σ4 G4 H4 r4 s4 p4 => ⟨ρ2, G4, r4, p4⟩⟩
end
end PL

set_option maxRecDepth 100000
set_option maxHeartbeats 1000000
namespace PL
open PySem PySem.Spec PyProof.Rows L2

theorem Grow.mut {G H G' H' : Hp} (g : Grow G H G' H') {p : Addr} {o : HO} (h : H p = none) (h1 : G' p = none) : Grow G H G' (upd H' p o) :=
  ⟨g.g, fun b x e => by
    have : b ≠ p := ne_of_none e h
    rw [upd_ne this]; exact g.h b x e, fun b x e => by
    have : b ≠ p := ne_of_none e h1
    rw [upd_ne this]; exact g.s b x e, g.f⟩

/-! ## what a context must have -/
structure GE (k : Nat) (X : Cx) (a : Amb) : Prop where
  tk : Takes X a.W
  hr : Room k X.A
  calm : X.calm = true
  nd : X.N.Nodup
structure GS (k : Nat) (X : Cx) (a : Amb) : Prop extends GE k X a where
  po : PassesOwn (model X.prog X.w) X.A X.env X.xe
  hs : X.stack = X.env :: X.outer
  hf : X.env.frame = some X.env.locals
def aB (a : Amb) : Amb := { a with W := fun _ _ _ _ => False }
theorem GE.blk {k : Nat} {X : Cx} {a : Amb} (c : GE k X a) (s : Shared) (H : Hp) (sc : Scope) (ce : Env) (fp : List Addr) : GE k (X.blk s H sc ce fp) (aB a) := ⟨takes0, c.hr, c.calm, c.nd⟩
theorem GS.tr {k : Nat} {X : Cx} {a : Amb} (c : GS k X a) {W : WX} {pn : List (Addr × Obj)} {xe : Value → Shared → Prop} (tk : Takes (X.tr pn xe) W) (po : PassesOwn (model X.prog X.w) X.A X.env xe) : GS k (X.tr pn xe) { a with W := W } :=
  ⟨⟨tk, c.hr, c.calm, c.nd⟩, po, c.hs, c.hf⟩

/-- a region becomes shared -/
theorem Grow.lend {G H G' H' T : Hp} (g : Grow G H G' H') (h : ∀ b x, T b = some x → G' b = none ∧ H b = none ∧ H' b = some x) : Grow G H (join2 G' T) H' :=
  ⟨g.g.trans join2_l, g.h, join2_to g.s fun b x e => (h b x e).2.2, fun b h1 h2 => join2_none (g.f b h1 h2) (by
    cases e : T b with
    | none => rfl
    | some z => exact absurd (h b z e).2.1 h2)⟩
/-! ## defs -/
def rvD : Res RV → Res D | .ok (.sh d) => .ok d | .ok (.tm d) => .ok d | .ok (.ow xs) => .ok (.lst xs) | .exc e => .exc e | .stuck => .stuck
def rvO : Res RV → Res (List D) | .ok (.ow xs) => .ok xs | .ok (.sh _) => .stuck | .ok (.tm _) => .stuck | .exc e => .exc e | .stuck => .stuck
def callE (m : List D → Res RV) (fs : En → Res (List D)) : En → Res D := fun ρ => (fs ρ).bind fun ds => rvD (m ds)
def callO (m : List D → Res RV) (fs : En → Res (List D)) : En → Res (List D) := fun ρ => (fs ρ).bind fun ds => rvO (m ds)
def spOf (K : PySem.W.Frag) (mg : Str → Option Value) (n : Nat) (m : List D → Res RV) : Sp := fun vs H Q E => vs.length = n ∧ ∃ G ds, Same G H ∧ Reps K G vs ds ∧ (match m ds with
  | .ok (.sh d) => ∀ v G' H', Grow G H G' H' → Rep K G' v d → Q v H'
  | .ok (.ow xs) => ∀ l us G' H', Grow G H G' H' → H l = none → G' l = none → H' l = some (.lst us) → Reps K G' us xs → Q (.ref l) H'
  | .ok (.tm d) => ∀ v G' H' T, Grow G H G' H' → (∀ b x, T b = some x → G' b = none ∧ H b = none ∧ H' b = some x) → RepL K G' T v d → Q v H'
  | .exc e => ∀ d G' H', Grow G H G' H' → XR K G' H' d e → E (clOf mg e.cls) (some d) H'
  | .stuck => False)
structure FnP (P : Program) (w : World) (K : PySem.W.Frag) (mg : Str → Option Value) (base : Heap) (k : Nat) (x : Str) (ps : List Str) (m : List D → Res RV) : Prop where
  ex : ∃ f fd, FnOk P w K mg base (L2.CX P w) k f fd ps (spOf K mg ps.length m) ∧ mg x = some (.ref f) ∧ PySem.W.keepIn K (.ref f) = true ∧ Binds K fd ps []
theorem FnP.mono {P : Program} {w : World} {K : PySem.W.Frag} {mg : Str → Option Value} {base : Heap} {k j : Nat} {x : Str} {ps : List Str} {m : List D → Res RV} (F : FnP P w K mg base k x ps m) (h : k ≤ j) : FnP P w K mg base j x ps m := by
  obtain ⟨f, fd, F1, h2⟩ := F.ex
  exact ⟨f, fd, F1.mono h, h2⟩
section
variable {X : Cx} {a : Amb} {e : Expr} {es : List Expr} {fs : En → Res (List D)} {pos p : Pos} {x : Str} {k k' : Nat} {ps : List Str} {m : List D → Res RV}
theorem d_call (F : FnP X.prog X.w X.K X.mg X.base k' x ps m) (c : GE k X a) (hk : k' ≤ k) (hl : (e :: es).length = ps.length) (ha : PA X (e :: es) (tA X.K X.mg a fs)) (hfl : ∀ ρ ds, fs ρ = .ok ds → ds.length = (e :: es).length)
    (hg : Gl X x := by rfl) (hdb : (x == ("__debug__" : Str)) = false := by decide) (he : starEach (e :: es) X.env = (false, eval e X.env) :: starEach es X.env := by rfl) (hpl : (backTo pos (starEach es X.env)).any (·.1) = false := by rfl) :
    PE X (.Call (.Name x p) (e :: es) [] pos) (tD X.K X.mg a (callE m fs)) := by
  obtain ⟨f, fd, F1, hm, hkp, hb⟩ := F.ex
  refine (pe_callS F1 (c.hr.mono hk) hg hm hkp hb (fun σ => passAt c.tk σ) ha hdb he hpl).imp fun σ H Q ⟨ρ, G, hR, q⟩ => ⟨ρ, G, hR, (PostE.bind q).imp fun ds ed q1 vs G' H' g r => ?_⟩
  refine ⟨by rw [r.len, hfl ρ ds ed, hl], G', ds, g.s, r, ?_⟩
  cases h : m ds with
  | stuck => rw [h] at q1; exact q1.elim
  | exc ex => rw [h] at q1; exact fun d G2 H2 g2 xr => q1 d G2 H2 (g.trans g2) xr
  | ok rv =>
    rw [h] at q1
    cases rv with
    | sh d => exact fun v G2 H2 g2 r2 => q1 v G2 H2 (g.trans g2) r2
    | ow xs => exact fun l us G2 H2 g2 n1 n2 h1 r2 => q1 _ _ H2 ((g.trans g2).share (g.h.free n1) n2 h1) (.lst upd_same (Reps.mono (same_new n2) _ _ r2))
    | tm d => exact fun v G2 H2 T g2 hT r2 => q1 v _ H2 (g.trans (Grow.lend g2 hT)) (RepL.rep (join2_r fun b x e => (hT b x e).1) _ _ r2)
theorem o_call (F : FnP X.prog X.w X.K X.mg X.base k' x ps m) (c : GE k X a) (hk : k' ≤ k) (hl : (e :: es).length = ps.length) (ha : PA X (e :: es) (tA X.K X.mg a fs)) (hfl : ∀ ρ ds, fs ρ = .ok ds → ds.length = (e :: es).length)
    (hg : Gl X x := by rfl) (hdb : (x == ("__debug__" : Str)) = false := by decide) (he : starEach (e :: es) X.env = (false, eval e X.env) :: starEach es X.env := by rfl) (hpl : (backTo pos (starEach es X.env)).any (·.1) = false := by rfl) :
    PE X (.Call (.Name x p) (e :: es) [] pos) (tO X.K X.mg a (callO m fs)) := by
  obtain ⟨f, fd, F1, hm, hkp, hb⟩ := F.ex
  refine (pe_callS F1 (c.hr.mono hk) hg hm hkp hb (fun σ => passAt c.tk σ) ha hdb he hpl).imp fun σ H Q ⟨ρ, G, hR, q⟩ => ⟨ρ, G, hR, (PostE.bind q).imp fun ds ed q1 vs G' H' g r => ?_⟩
  refine ⟨by rw [r.len, hfl ρ ds ed, hl], G', ds, g.s, r, ?_⟩
  cases h : m ds with
  | stuck => rw [h] at q1; exact q1.elim
  | exc ex => rw [h] at q1; exact fun d G2 H2 g2 xr => q1 d G2 H2 (g.trans g2) xr
  | ok rv =>
    rw [h] at q1
    cases rv with
    | sh d => exact q1.elim
    | tm d => exact q1.elim
    | ow xs => exact fun l us G2 H2 g2 n1 n2 h1 r2 => q1 l us G2 H2 (g.trans g2) (g.h.free n1) n2 h1 r2
theorem fl_nil : ∀ (ρ : En) (ds : List D), aNil ρ = .ok ds → ds.length = ([] : List Expr).length := fun ρ ds h => by cases h; rfl
theorem fl_cons {f : En → Res D} (h : ∀ (ρ : En) (ds : List D), fs ρ = .ok ds → ds.length = es.length) : ∀ (ρ : En) (ds : List D), aCons f fs ρ = .ok ds → ds.length = (e :: es).length := fun ρ ds h1 => by
  unfold aCons at h1
  cases h2 : f ρ with
  | ok d =>
    rw [h2] at h1
    cases h3 : fs ρ with
    | ok xs => simp only [Res.bind, h3] at h1; cases h1; simp [h ρ xs h3]
    | exc _ => simp only [Res.bind, h3] at h1; cases h1
    | stuck => simp only [Res.bind, h3] at h1; cases h1
  | exc _ => rw [h2] at h1; cases h1
  | stuck => rw [h2] at h1; cases h1
end
def start0 (n : Nat) (ds : List D) : En := ds.map .sh ++ List.replicate (n - ds.length) .no
def runO : Out → Res RV
  | .ret r => .ok r | .next _ => .ok (.sh .non) | .exc e _ => .exc e | .brk _ => .stuck | .cont _ => .stuck | .stuck => .stuck
def runF (n : Nat) (b : En → Out) (ds : List D) : Res RV := runO (b (start0 n ds))
theorem start_ok {K : PySem.W.Frag} {N : List Str} {vs : List V} {ds : List D} {G H : Hp} (s : Same G H) (r : Reps K G vs ds) : R K G H (start0 N.length ds) (L2.start N vs) G H := by
  refine ⟨Grow.refl s, by simp [start0, L2.start, r.len], fun i sl e => ?_, fun i j xs ys hn e1 e2 => ?_, fun _ => none, fun b x e => by (cases e), fun i d e => ?_, fun i ob l e e2 => rfl⟩
  · unfold start0 at e
    unfold L2.start
    by_cases hi : i < ds.length
    · rw [List.getElem?_append_left (by simpa using hi), List.getElem?_map, List.getElem?_eq_getElem hi] at e
      cases e
      obtain ⟨v, e1, q⟩ := r.get (List.getElem?_eq_getElem hi)
      refine ⟨some v, ?_, v, rfl, q⟩
      rw [List.getElem?_append_left (by simpa [r.len] using hi), List.getElem?_map, e1] <;> rfl
    · have hi2 : ds.length ≤ i := by omega
      rw [List.getElem?_append_right (by simpa using hi2), List.getElem?_replicate] at e
      split at e
      · cases e
        refine ⟨none, ?_, trivial⟩
        rw [List.getElem?_append_right (by simpa [r.len] using hi2), List.getElem?_replicate, r.len]
        rename_i h
        rw [List.length_map] at h ⊢
        rw [r.len, if_pos h]
      · cases e
  · exfalso
    unfold start0 at e1
    by_cases hi : i < ds.length
    · rw [List.getElem?_append_left (by simpa using hi), List.getElem?_map, List.getElem?_eq_getElem hi] at e1
      cases e1
    · have hi2 : ds.length ≤ i := by omega
      rw [List.getElem?_append_right (by simpa using hi2), List.getElem?_replicate] at e1
      split at e1 <;> cases e1
  · exfalso
    unfold start0 at e
    by_cases hi : i < ds.length
    · rw [List.getElem?_append_left (by simpa using hi), List.getElem?_map, List.getElem?_eq_getElem hi] at e
      cases e
    · have hi2 : ds.length ≤ i := by omega
      rw [List.getElem?_append_right (by simpa using hi2), List.getElem?_replicate] at e
      split at e <;> cases e
section
variable {P : Program} {w : World} {K : PySem.W.Frag} {mg : Str → Option Value} {base : Heap}
abbrev ambOf (E : XK) (G0 H0 : Hp) : Amb := ⟨fun cls d _ H => E cls d H, G0, H0⟩
theorem fn_ok {x qual : Str} {st : Stmt} {f : Addr} {fd : FuncData} {N ps : List Str} {k : Nat} {b : En → Out} (F : Fun K x qual st f fd) (S : FnScope N ps (defScope st))
    (body : ∀ (cdv : Value) (A : Around) (outer : List Env) (s : Shared) (H G0 : Hp) (E : XK), GS k (cxOf (L2.CX P w) P w K mg base N qual (defScope st) f cdv A outer s H E) (ambOf E G0 H) →
      PSs (cxOf (L2.CX P w) P w K mg base N qual (defScope st) f cdv A outer s H E) (defBody st) (tS K mg (ambOf E G0 H) b)) :
    FnOk P w K mg base (L2.CX P w) (k + 1) f fd ps (spOf K mg ps.length (runF N.length b)) := by
  refine F.okX S (fun vs H Q E h => h.1) (fun cdv A outer s H vs Q E hr h => ?_)
  obtain ⟨hl, G, ds, sg, r, q⟩ := h
  have c : GS k (cxOf (L2.CX P w) P w K mg base N qual (defScope st) f cdv A outer s H E) (ambOf E G H) := ⟨⟨takes_of rfl rfl rfl rfl, hr, rfl, S.nd⟩, passes_of rfl, rfl, rfl⟩
  refine ⟨_, body cdv A outer s H G E c, start0 N.length ds, G, start_ok sg r, ?_⟩
  unfold runF at q
  cases h : b (start0 N.length ds) with
  | next ρ => rw [h] at q; exact fun σ' G' H' r' _ => q .non G' H' r'.gr .non
  | brk ρ => rw [h] at q; exact q.elim
  | cont ρ => rw [h] at q; exact q.elim
  | exc e ρ => rw [h] at q; exact fun d σ' G' H' r' _ xr => q d G' H' r'.gr xr
  | stuck => rw [h] at q; exact q.elim
  | ret rv =>
    rw [h] at q
    cases rv with
    | sh d => exact fun v G' H' g _ r => q v G' H' g r
    | ow xs => exact fun l us G' H' g _ n1 n2 h1 r => q l us G' H' g n1 n2 h1 r
    | tm d => exact fun v G' H' T g _ hT r => q v G' H' T g hT r
theorem fn_mk {x qual : Str} {st : Stmt} {f : Addr} {fd : FuncData} {N ps : List Str} {k : Nat} {b : En → Out} (F : Fun K x qual st f fd) (S : FnScope N ps (defScope st)) (hm : mg x = some (.ref f)) (hb : Binds K fd ps [])
    (body : ∀ (cdv : Value) (A : Around) (outer : List Env) (s : Shared) (H G0 : Hp) (E : XK), GS k (cxOf (L2.CX P w) P w K mg base N qual (defScope st) f cdv A outer s H E) (ambOf E G0 H) →
      PSs (cxOf (L2.CX P w) P w K mg base N qual (defScope st) f cdv A outer s H E) (defBody st) (tS K mg (ambOf E G0 H) b)) :
    FnP P w K mg base (k + 1) x ps (runF N.length b) := ⟨f, fd, fn_ok F S body, hm, F.kp, hb⟩
end

/-! ## comprehensions -/
def lcL (i : Nat) (tt : En → Res Bool) (te : En → Res D) : List D → En → Res (List D)
  | [], _ => .ok []
  | d :: ds, ρ => match tt (ρ.set i (.sh d)) with
    | .ok true => (match te (ρ.set i (.sh d)) with
      | .ok v => (match lcL i tt te ds ρ with | .ok vs => .ok (v :: vs) | _ => .stuck)
      | _ => .stuck)
    | .ok false => lcL i tt te ds ρ
    | _ => .stuck
def lcE (it : En → Res (List D)) (i : Nat) (tt : En → Res Bool) (te : En → Res D) : En → Res (List D) := fun ρ => (it ρ).bind fun ds => gd (ds.length ≤ sizeLine) (lcL i tt te ds ρ)
def yesB : En → Res Bool := fun _ => .ok true
section
variable {X : Cx} {a : Amb} {elt tg iter c : Expr} {ifs : List Expr} {scope : Scope} {pos : Pos} {it : En → Res (List D)} {tt : En → Res Bool} {te : En → Res D} {i : Nat}
theorem ts_nil : PTs X [] (tT X.K X.mg a yesB) := ⟨fun pins s σ H Q I ⟨ρ, G, hR, q⟩ => (pts_nil (X := X)).run pins s σ H Q I (q G H (Grow.refl (R.sub hR)))⟩
theorem ts_one (h : PT X c (tT X.K X.mg a tt)) : PTs X [c] (tT X.K X.mg a tt) := pts_one h
theorem lc_run (σ : L2.St) (H : Hp) (Q : VK) (h : tO X.K X.mg a (lcE it i tt te) σ H Q) : tLc (tI X.K X.mg a it) (gName i) (tT X.K X.mg (aB a) tt) (tD X.K X.mg (aB a) te) [i] σ H Q := by
  obtain ⟨ρ, G, hR, q⟩ := h
  refine ⟨ρ, G, hR, (PostE.bind q).imp fun ds _ q1 J G1 H1 g ok Dl hD => ?_⟩
  obtain ⟨hz, q1⟩ := PostE.gd q1
  cases hL : lcL i tt te ds ρ with
  | stuck => rw [hL] at q1; exact q1.elim
  | exc e =>
    exfalso
    have no : ∀ (ds : List D), lcL i tt te ds ρ ≠ .exc e := by
      intro ds
      induction ds with
      | nil => intro z; cases z
      | cons d ds ih =>
        intro z
        unfold lcL at z
        repeat' (first | (split at z) | exact ih z | cases z)
    exact no ds hL
  | ok vs =>
    rw [hL] at q1
    have hR0 : R X.K a.G0 a.H0 (ρ.set i .no) (wipe σ [i]) G H := R.setNo hR i none
    refine ⟨fun j m H' => m = ds.length - j ∧ j ≤ ds.length ∧ ∃ G' acc done rest, Grow G1 H1 G' H' ∧ G' Dl = none ∧ H' Dl = some (.lst acc) ∧ Reps X.K G' acc done ∧ done.length ≤ j ∧ lcL i tt te (ds.drop j) ρ = .ok rest ∧ vs = done ++ rest,
      ⟨ds.length, by simp, Nat.zero_le _, G1, [], [], vs, Grow.own g.s hD, g.s.free hD, upd_same, .nil, Nat.le_refl _, by rw [List.drop_zero]; exact hL, rfl⟩, ?_⟩
    rintro j m H' ⟨rfl, hj, G', acc, done, rest, gg, nD, eD, rD, lD, eL, eV⟩
    obtain ⟨stop, go⟩ := ok H' (gg.g.trans gg.s) j
    by_cases hl : j < ds.length
    · refine .inr ?_
      have e1 : ds[j]? = some ds[j] := List.getElem?_eq_getElem hl
      obtain ⟨h1, h2⟩ := go _ e1
      rw [List.drop_eq_getElem_cons hl] at eL
      refine ⟨h1, fun H2 => ∃ G' acc done rest, Grow G1 H1 G' H2 ∧ G' Dl = none ∧ H2 Dl = some (.lst acc) ∧ Reps X.K G' acc done ∧ done.length ≤ j + 1 ∧ lcL i tt te (ds.drop (j + 1)) ρ = .ok rest ∧ vs = done ++ rest, fun H2 w => ⟨ds.length - (j + 1), by omega, rfl, hl, w⟩, fun x H2 y => ?_⟩
      obtain ⟨rfl, rx⟩ := h2 x H2 y
      have rx' := Rep.mono gg.g _ _ rx
      refine ⟨by simp [wipe], ?_⟩
      have hR1 : R X.K a.G0 a.H0 (ρ.set i (.sh ds[j])) ((wipe σ [i]).set i (some x)) G' H2 := by
        have := R.setSh ((hR0.grow g).grow gg) i rx'
        rwa [List.set_set] at this
      unfold lcL at eL
      refine ⟨ρ.set i (.sh ds[j]), G', hR1, ?_⟩
      cases ht : tt (ρ.set i (.sh ds[j])) with
      | stuck => rw [ht] at eL; cases eL
      | exc e => rw [ht] at eL; cases eL
      | ok b =>
        rw [ht] at eL
        intro G2 H3 g2
        have nD2 : G2 Dl = none := g2.f Dl nD (by rw [eD]; simp)
        cases b with
        | false => exact ⟨G2, acc, done, rest, gg.trans g2, nD2, g2.h _ _ eD, Reps.mono g2.g _ _ rD, by omega, eL, eV⟩
        | true =>
          refine ⟨ρ.set i (.sh ds[j]), G2, R.grow hR1 g2, ?_⟩
          cases he : te (ρ.set i (.sh ds[j])) with
          | stuck => rw [he] at eL; cases eL
          | exc e => rw [he] at eL; cases eL
          | ok dv =>
            simp only [he] at eL
            intro v G3 H4 g3 rv
            have nD3 : G3 Dl = none := g3.f Dl nD2 (by rw [g2.h _ _ eD]; simp)
            cases hL2 : lcL i tt te (ds.drop (j + 1)) ρ with
            | stuck => rw [hL2] at eL; cases eL
            | exc e => rw [hL2] at eL; cases eL
            | ok rs =>
              rw [hL2] at eL
              cases eL
              refine ⟨acc, g3.h _ _ (g2.h _ _ eD), by rw [rD.len]; omega, G3, acc ++ [v], done ++ [dv], rs, ((gg.trans g2).trans g3).mut hD nD3, nD3, upd_same, (Reps.mono (g2.g.trans g3.g) _ _ rD).app (.cons rv .nil), by simp; omega, rfl, by rw [eV, List.append_assoc]; rfl⟩
    · have e : j = ds.length := by omega
      subst e
      rw [List.drop_length] at eL
      cases eL
      rw [List.append_nil] at eV
      subst eV
      exact .inl ⟨stop (Nat.le_refl _), q1 Dl acc G' H' (g.trans gg) (g.h.free hD) nD eD rD⟩
theorem o_lc {x : Str} {k : Nat} (ge : GE k X a) (hi : PI X tg iter (tI X.K X.mg a it)) (ok : blkC X.N X.env.scope scope [(x, i)] = true)
    (hg : ∀ (s : Shared) (H : Hp) (C : Addr) (cl : List (Str × Addr)) (fp : List Addr), PG (X.blk s H scope (compEnvC scope cl C X.env) fp) tg (gName i))
    (ht : ∀ (s : Shared) (H : Hp) (C : Addr) (cl : List (Str × Addr)) (fp : List Addr), PTs (X.blk s H scope (compEnvC scope cl C X.env) fp) ifs (tT X.K X.mg (aB a) tt))
    (he : ∀ (s : Shared) (H : Hp) (C : Addr) (cl : List (Str × Addr)) (fp : List Addr), PE (X.blk s H scope (compEnvC scope cl C X.env) fp) elt (tD X.K X.mg (aB a) te)) (hs : ∀ x, foldedSetIterable iter X.env x = pure x := by intro _; rfl) :
    PE X (.ListComp elt [⟨tg, iter, ifs, 0⟩] scope pos) (tO X.K X.mg a (lcE it i tt te)) :=
  (pe_lc (own := [(x, i)]) ge.calm ge.nd hi (blkOk_by ok) hg ht he hs).imp lc_run
/-- name = [..] -/
theorem s_setLc {j : Nat} {x y : Str} {py spos : Pos} {k : Nat} (ge : GE k X a) (hy : X.N[j]? = some y) (hyl : X.env.scope.names.lookup y = some .local) (hsw : swapsWith (.ListComp elt [⟨tg, iter, ifs, 0⟩] scope pos) (some (.Name y py)) spos.line X.env = pure true)
    (hi : PI X tg iter (tI X.K X.mg a it)) (ok : blkC X.N X.env.scope scope [(x, i)] = true)
    (hg : ∀ (s : Shared) (H : Hp) (C : Addr) (cl : List (Str × Addr)) (fp : List Addr), PG (X.blk s H scope (compEnvC scope cl C X.env) fp) tg (gName i))
    (ht : ∀ (s : Shared) (H : Hp) (C : Addr) (cl : List (Str × Addr)) (fp : List Addr), PTs (X.blk s H scope (compEnvC scope cl C X.env) fp) ifs (tT X.K X.mg (aB a) tt))
    (he : ∀ (s : Shared) (H : Hp) (C : Addr) (cl : List (Str × Addr)) (fp : List Addr), PE (X.blk s H scope (compEnvC scope cl C X.env) fp) elt (tD X.K X.mg (aB a) te)) (hs : ∀ x, foldedSetIterable iter X.env x = pure x := by intro _; rfl) :
    PS X (.Assign [.Name y py] (.ListComp elt [⟨tg, iter, ifs, 0⟩] scope pos) spos) (tS X.K X.mg a (sSetO j (lcE it i tt te))) :=
  (ps_setLc (own := [(x, i)]) ge.calm ge.nd hy hyl hsw hi (blkOk_by ok) hg ht he hs).imp fun Dn σ H ⟨ρ, G, hR, q⟩ => lc_run σ H _ ⟨ρ, G, hR, (ofR_post hR q).imp fun d _ q1 l vs G' H' g n1 n2 h1 r => q1 _ G' H' (R.setNew hR j g n1 n2 h1 (.lst r)) g.g⟩
/-- .. shared at once -/
theorem s_setLcS {j : Nat} {x y : Str} {py spos : Pos} {k : Nat} (ge : GE k X a) (hy : X.N[j]? = some y) (hyl : X.env.scope.names.lookup y = some .local) (hsw : swapsWith (.ListComp elt [⟨tg, iter, ifs, 0⟩] scope pos) (some (.Name y py)) spos.line X.env = pure true)
    (hi : PI X tg iter (tI X.K X.mg a it)) (ok : blkC X.N X.env.scope scope [(x, i)] = true)
    (hg : ∀ (s : Shared) (H : Hp) (C : Addr) (cl : List (Str × Addr)) (fp : List Addr), PG (X.blk s H scope (compEnvC scope cl C X.env) fp) tg (gName i))
    (ht : ∀ (s : Shared) (H : Hp) (C : Addr) (cl : List (Str × Addr)) (fp : List Addr), PTs (X.blk s H scope (compEnvC scope cl C X.env) fp) ifs (tT X.K X.mg (aB a) tt))
    (he : ∀ (s : Shared) (H : Hp) (C : Addr) (cl : List (Str × Addr)) (fp : List Addr), PE (X.blk s H scope (compEnvC scope cl C X.env) fp) elt (tD X.K X.mg (aB a) te)) (hs : ∀ x, foldedSetIterable iter X.env x = pure x := by intro _; rfl) :
    PS X (.Assign [.Name y py] (.ListComp elt [⟨tg, iter, ifs, 0⟩] scope pos) spos) (tS X.K X.mg a (sSet j (own (lcE it i tt te)))) :=
  (ps_setLc (own := [(x, i)]) ge.calm ge.nd hy hyl hsw hi (blkOk_by ok) hg ht he hs).imp fun Dn σ H ⟨ρ, G, hR, q⟩ => lc_run σ H _ ⟨ρ, G, hR, (PostE.bind (ofR_post hR q)).imp fun d _ q1 l vs G' H' g n1 n2 h1 r =>
    q1 _ _ H' (R.setSh (R.grow hR (g.share n1 n2 h1)) j (.lst upd_same (Reps.mono (same_new n2) _ _ r))) (g.share n1 n2 h1).g⟩
end
end PL

set_option maxRecDepth 100000
set_option maxHeartbeats 1000000
namespace PL
open PySem PySem.Spec PyProof.Rows L2

/-! ## try with several clauses «except X as n» -/
/-- a clause: the class, the slot of its name, its suite's reading -/
structure Cla where
  c : Value
  i : Nat
  ts : Addr → Value → Option Addr → TS
def wrapE (i : Nat) (D : Ends) : Ends := ⟨fun σ H => D.nx (σ.set i none) H, D.rt, fun σ H => D.bk (σ.set i none) H, fun σ H => D.ct (σ.set i none) H⟩
def wCl (K : PySem.W.Frag) (W : WX) (D : Ends) : List Cla → WX
  | [] => W
  | l :: r => fun cls d σ H => ∃ b, PySem.W.exmOne K cls l.c = some b ∧ (b = true → ∀ a, H a = none → l.ts a cls d (wrapE l.i D) (σ.set l.i (some (.ref a))) H) ∧ (b = false → wCl K W D r cls d σ H)
inductive ClOk (X : Cx) : List ExceptHandler → List Cla → Prop
  | nil : ClOk X [] []
  | cons {x n : Str} {l : Cla} {b0 : Stmt} {bs : List Stmt} {np ps : Pos} {hds : List ExceptHandler} {r : List Cla} (hc : Names X x l.c) (hi : X.N[l.i]? = some n) (hl : X.env.kindOf n = some .local)
      (hs : ∀ (a : Addr) (oe : Obj) (cls : Value) (d : Option Addr) (pn : List (Addr × Obj)), Zc cls d oe → (∃ vs, oe.data = .fields vs) → PSs (X.suite a ((a, oe) :: pn)) (b0 :: bs) (l.ts a cls d)) (h : ClOk X hds r) :
      ClOk X (.ExceptHandler (some (.Name x np)) (some n) (b0 :: bs) ps :: hds) (l :: r)
  | consN {x : Str} {l : Cla} {b0 : Stmt} {bs : List Stmt} {np ps : Pos} {hds : List ExceptHandler} {r : List Cla} (hc : Names X x l.c) (hi : X.N.length ≤ l.i)
      (hs : ∀ (a : Addr) (oe : Obj) (cls : Value) (d : Option Addr) (pn : List (Addr × Obj)), Zc cls d oe → (∃ vs, oe.data = .fields vs) → PSs (X.suite a ((a, oe) :: pn)) (b0 :: bs) (l.ts a cls d)) (h : ClOk X hds r) :
      ClOk X (.ExceptHandler (some (.Name x np)) none (b0 :: bs) ps :: hds) (l :: r)
/-- an exception caught in X -/
structure Cau (X : Cx) (pins : List (Addr × Obj)) (σ : L2.St) (H : Hp) (B : Heap) (a : Addr) (cls : Value) (d : Option Addr) (sI s : Shared) : Prop where
  J : Inv X pins σ H sI
  nb : ∀ b o, sI.heap.get? b = some o → b ∉ frs X.stack → B.get? b = some o
  up : sI.heap.UpToSlots s.heap
  fl : HandSPX.FlyingZ B (X.env :: X.outer) a (Zc cls d) s.heap
  na : H a = none
  nL : a ≠ X.env.locals
  nF : a ∉ X.fs
  os : s.os = sI.os
  ag : AllBare s.gens
section
variable {X : Cx} {pins : List (Addr × Obj)} {σ : L2.St} {H : Hp} {B : Heap} {a : Addr} {cls : Value} {d : Option Addr} {sI s : Shared} {W : WX} {Dn : Ends}
theorem Cau.land (c : Cau X pins σ H B a cls d sI s) {h : Heap} (fl : HandSPX.FlyingZ B (X.env :: X.outer) a (Zc cls d) h) (up : s.heap.UpToSlots h) : Cau X pins σ H B a cls d sI { s with heap := h } :=
  ⟨c.J, c.nb, c.up.trans up, fl, c.na, c.nL, c.nF, c.os, c.ag⟩
theorem Cau.inv (c : Cau X pins σ H B a cls d sI s) : Inv X pins σ H s := c.J.landed c.nb c.fl.1 c.up c.os c.ag
theorem Cau.suite (c : Cau X pins σ H B a cls d sI s) : ∃ oe, Zc cls d oe ∧ (∃ vs, oe.data = .fields vs) ∧ s.heap.get? a = some oe ∧ Inv (X.suite a ((a, oe) :: (X.pn ++ pins))) [] σ H s := by
  obtain ⟨oe, vs, h1, h2, h3⟩ := c.fl.there
  exact ⟨oe, h2, ⟨vs, h3⟩, h1, c.inv.suite h1 h3 c.na c.nL c.nF⟩
/-- no clause took it: it goes on -/
theorem Cau.on (c : Cau X pins σ H B a cls d sI s) (hs : X.stack = X.env :: X.outer) (hf : X.env.frame = some X.env.locals) (tk : Takes X W) (w : W cls d σ H) : wpAny (model X.prog X.w) X.A (handleBy (.ref a) X.env []) (SP X pins Dn) X.xe s := by
  refine wpAny_handleBy_nil ?_
  have fl0 := c.fl
  obtain ⟨k1, k2, k3, oe, vs, T, oT, ts', he, hz, hd, h1, hr⟩ := c.fl
  unfold PySem.passOn
  refine wpAny_bind (wpAny_field he hd h1 ?_)
  rw [if_neg (show ¬ ((Value.ref T == Value.none) = true) by simp)]
  have go : wpAny (model X.prog X.w) X.A (setFlight (.ref a) X.env.frame) (fun _ t => wpAny (model X.prog X.w) X.A (throw (.ref a) : Sem Flow) (SP X pins Dn) X.xe t) X.xe s := by
    rw [hf]
    refine HandSPX.setFlight_upZ fl0 fun h4 hh4 up4 => wpAny_throw (tk _ _ ?_)
    exact ⟨a, B, sI, pins, σ, H, cls, d, rfl, c.J, c.nb, c.up.trans up4, .inr (.inr (by rw [hs]; exact hh4)), c.na, c.os, c.ag, w⟩
  first | exact wpAny_bind (wpAny_pure (wpAny_bind go)) | exact wpAny_bind go
theorem Cau.clauses (hs : X.stack = X.env :: X.outer) (hf : X.env.frame = some X.env.locals) (hN : X.N.Nodup) (tk : Takes X W) : ∀ {hds : List ExceptHandler} {ls : List Cla}, ClOk X hds ls → ∀ {s : Shared}, Cau X pins σ H B a cls d sI s → wCl X.K W Dn ls cls d σ H →
    wpAny (model X.prog X.w) X.A (handleBy (.ref a) X.env hds) (SP X pins Dn) X.xe s := by
  intro hds ls ok
  induction ok with
  | nil => intro s c w; exact c.on hs hf tk w
  | @cons x n l b0 bs np ps hds r hc hi hl hsu h ih =>
    intro s c w
    obtain ⟨b, e1, yes, no⟩ := w
    obtain ⟨oe, z1, z2, z3, S⟩ := c.suite
    have okX := c.J.ok
    refine wpAny_handleBy_cons (codeAny_handlers_test ?_) (by intro q; cases q)
    have lt : PySem.W.Looks (model X.prog X.w) s.heap (typeOf (.ref a)) cls := fun A Q E s' k q => wpAny_typeOf_ref (k _ _ z3) (by rw [z1.1]; exact q)
    have lm := PySem.W.exm_one (M := model X.prog X.w) c.inv.kIn lt e1
    have asked : ∀ {Q E : Value → Shared → Prop}, Q l.c s → wpAny (model X.prog X.w) (X.A.mark (some (.ref a))) (eval (.Name x np) X.env) Q E s := fun {Q E} q => by
      obtain ⟨g1, g2, g3 | ⟨g3, g4, g5⟩⟩ := hc
      · exact ld_glob (X := X.suite a ((a, oe) :: (X.pn ++ pins))) S g1 g3 q g2
      · exact ld_blt (X := X.suite a ((a, oe) :: (X.pn ++ pins))) S g1 g3 g4 q g5 g2
    refine asked (lm.here ?_)
    cases b with
    | false =>
      show wpAny _ X.A (handleBy (.ref a) X.env hds) _ _ _
      exact ih c (no rfl)
    | true =>
      refine codeAny_handlers_suite_as (HandSPX.lands_againZ c.fl fun h4 fl4 up4 => ?_)
      have c4 := c.land fl4 up4
      obtain ⟨oe4, y1, y2, y3, S4⟩ := c4.suite
      refine store_ok (X := X.suite a ((a, oe4) :: (X.pn ++ pins))) (v := .ref a) S4 hN hi (.inl hl) rfl (fun s5 S5 => ?_) (.inr hl)
      refine wpAny_mono ((hsu a oe4 cls d (X.pn ++ pins) y1 y2).run [] s5 _ H _ S5 (yes rfl a c.na)) (fun f s6 q => ?_) (fun _ _ z => False.elim z)
      have gone : ∀ {σ6 : L2.St} {H6 : Hp} {Q : Shared → Prop}, Inv (X.suite a ((a, oe4) :: (X.pn ++ pins))) [] σ6 H6 s6 → (∀ s7, Inv X pins (σ6.set l.i none) H6 s7 → Q s7) →
          wpAny (model X.prog X.w) X.A (do bindName X.env n .none; unbindBehindTheSuite X.env n ps) (fun _ s7 => Q s7) X.xe s6 := fun {σ6 H6 Q} S6 hq => gone_ok (S6.unsuite okX) hN hi hl hq
      cases f with
      | next => obtain ⟨σ6, H6, S6, q6⟩ := q; exact gone S6 fun s7 J7 => ⟨_, _, J7, q6⟩
      | brk => obtain ⟨σ6, H6, S6, q6⟩ := q; exact gone S6 fun s7 J7 => ⟨_, _, J7, q6⟩
      | cont => obtain ⟨σ6, H6, S6, q6⟩ := q; exact gone S6 fun s7 J7 => ⟨_, _, J7, q6⟩
      | ret u => obtain ⟨v6, σ6, H6, S6, r6, q6⟩ := q; exact gone S6 fun s7 J7 => ⟨_, _, _, J7, r6, q6⟩
  | @consN x l b0 bs np ps hds r hc hi hsu h ih =>
    intro s c w
    obtain ⟨b, e1, yes, no⟩ := w
    obtain ⟨oe, z1, z2, z3, S⟩ := c.suite
    have okX := c.J.ok
    refine wpAny_handleBy_cons (codeAny_handlers_test ?_) (by intro q; cases q)
    have lt : PySem.W.Looks (model X.prog X.w) s.heap (typeOf (.ref a)) cls := fun A Q E s' k q => wpAny_typeOf_ref (k _ _ z3) (by rw [z1.1]; exact q)
    have lm := PySem.W.exm_one (M := model X.prog X.w) c.inv.kIn lt e1
    have asked : ∀ {Q E : Value → Shared → Prop}, Q l.c s → wpAny (model X.prog X.w) (X.A.mark (some (.ref a))) (eval (.Name x np) X.env) Q E s := fun {Q E} q => by
      obtain ⟨g1, g2, g3 | ⟨g3, g4, g5⟩⟩ := hc
      · exact ld_glob (X := X.suite a ((a, oe) :: (X.pn ++ pins))) S g1 g3 q g2
      · exact ld_blt (X := X.suite a ((a, oe) :: (X.pn ++ pins))) S g1 g3 g4 q g5 g2
    refine asked (lm.here ?_)
    cases b with
    | false =>
      show wpAny _ X.A (handleBy (.ref a) X.env hds) _ _ _
      exact ih c (no rfl)
    | true =>
      refine codeAny_handlers_suite (HandSPX.lands_againZ c.fl fun h4 fl4 up4 => ?_)
      have c4 := c.land fl4 up4
      obtain ⟨oe4, y1, y2, y3, S4⟩ := c4.suite
      have e0 : σ.set l.i (some (.ref a)) = σ := List.set_eq_of_length_le (by rw [c.J.len]; exact hi)
      have yy := yes rfl a c.na
      rw [e0] at yy
      have out : ∀ {σ6 : L2.St} {H6 : Hp} {s6 : Shared}, Inv X pins σ6 H6 s6 → σ6.set l.i none = σ6 := fun {σ6 H6 s6} J => List.set_eq_of_length_le (by rw [J.len]; exact hi)
      refine wpAny_mono ((hsu a oe4 cls d (X.pn ++ pins) y1 y2).run [] _ _ H _ S4 yy) (fun f s6 q => ?_) (fun _ _ z => False.elim z)
      cases f with
      | next => obtain ⟨σ6, H6, S6, q6⟩ := q; exact ⟨_, _, S6.unsuite okX, by have q7 : Dn.nx (σ6.set l.i none) H6 := q6; rw [out (S6.unsuite okX)] at q7; exact q7⟩
      | brk => obtain ⟨σ6, H6, S6, q6⟩ := q; exact ⟨_, _, S6.unsuite okX, by have q7 : Dn.bk (σ6.set l.i none) H6 := q6; rw [out (S6.unsuite okX)] at q7; exact q7⟩
      | cont => obtain ⟨σ6, H6, S6, q6⟩ := q; exact ⟨_, _, S6.unsuite okX, by have q7 : Dn.ct (σ6.set l.i none) H6 := q6; rw [out (S6.unsuite okX)] at q7; exact q7⟩
      | ret u => obtain ⟨v6, σ6, H6, S6, r6, q6⟩ := q; exact ⟨_, _, _, S6.unsuite okX, r6, q6⟩
theorem ps_try_cl {body : List Stmt} {h0 : ExceptHandler} {hds : List ExceptHandler} {ls : List Cla} {pos : Pos} {tb : WX → TS} (hs : X.stack = X.env :: X.outer) (hf : X.env.frame = some X.env.locals) (hN : X.N.Nodup) (tk : Takes X W)
    (hb : ∀ (W' : WX) (pn : List (Addr × Obj)) (xe : Value → Shared → Prop), Takes (X.tr pn xe) W' → PassesOwn (model X.prog X.w) X.A X.env xe → PSs (X.tr pn xe) body (tb W'))
    (hh : ClOk X (h0 :: hds) ls) : PS X (.Try body (h0 :: hds) [] [] pos) (fun D σ H => tb (wCl X.K W D ls) D σ H) := by
  refine ⟨fun pins s σ H D I h => ?_⟩
  have ok := I.ok
  have fr : X.A.frames = some (X.env :: X.outer) := by rw [ok.frames, hs]
  refine wpAny_Try_except ?_
  refine wpAny_mono ((hb (wCl X.K W D ls) (X.pn ++ pins) (fun e s1 => wpAny (model X.prog X.w) X.A (noteFrame e X.env) (fun _ s2 => wpAny (model X.prog X.w) X.A (setFlight e none) (fun _ s3 =>
    wpAny (model X.prog X.w) X.A (handleBy e X.env (h0 :: hds)) (SP X pins D) X.xe s3) X.xe s2) X.xe s1) (fun u s' xx => ?_) PassesOwn.looking).run [] s σ H D (I.toTry _) h) (fun f s1 q => ?_) (fun e s1 he => he)
  · obtain ⟨a, B, sI, pins', σ', H', cls, d, rfl, J', nb, up, sky, na, os, ag, w⟩ := xx
    have J : Inv X pins σ' H' sI := J'.ofTry ok
    show wpAny (model X.prog X.w) X.A (noteFrame (.ref a) X.env) _ _ _
    refine Sky.land Zc.steady fr hf (by rw [← hs]; exact sky : Sky B (X.env :: X.outer) a (Zc cls d) X.env.locals s'.heap) fun h3 fl3 up3 => ?_
    obtain ⟨oe3, vs3, he3, hz3, hd3⟩ := fl3.there
    have nfr : a ∉ frs (X.env :: X.outer) := fun hm => by
      obtain ⟨_, o', e', hnf⟩ := fl3.2.2.1.mem hm
      rw [he3] at e'; cases e'
      exact hnf _ hd3
    have nL : a ≠ X.env.locals := fun z => nfr (List.mem_filterMap.mpr ⟨X.env, List.mem_cons_self, by rw [hf, z]⟩)
    have nF : a ∉ X.fs := fun hm => by
      obtain ⟨e, he, q⟩ := List.mem_filterMap.mp hm
      exact nfr (List.mem_filterMap.mpr ⟨e, List.mem_cons_of_mem _ he, q⟩)
    exact Cau.clauses hs hf hN tk hh (s := { s' with heap := h3 }) ⟨J, nb, up.trans up3, fl3, na, nL, nF, os, ag⟩ w
  · cases f with
    | next => obtain ⟨σ', H', J', q⟩ := q; exact wpAny_execs_nil ⟨σ', H', J'.ofTry ok, q⟩
    | brk => obtain ⟨σ', H', J', q⟩ := q; exact ⟨σ', H', J'.ofTry ok, q⟩
    | cont => obtain ⟨σ', H', J', q⟩ := q; exact ⟨σ', H', J'.ofTry ok, q⟩
    | ret u => obtain ⟨v, σ', H', J', r, q⟩ := q; exact ⟨v, σ', H', J'.ofTry ok, r, q⟩
end
end PL

set_option maxRecDepth 100000
set_option maxHeartbeats 1000000
namespace PL
open PySem PySem.Spec PyProof.Rows L2

/-! ## own exceptions -/
def spIn (C : Addr) (fl : List Str) : Sp := fun vs H Q _ => ∃ a ws, vs = .ref a :: ws ∧ ws.length = fl.length ∧ H a = some (exo a C none) ∧
  ∀ d H2, H d = none → d ≠ a → H2 a = some (exo a C (some d)) → H2 d = some (exd d ((fl.zip ws).reverse)) → (∀ b, b ≠ a → b ≠ d → H2 b = H b) → Q .non H2
structure ExT (P : Program) (w : World) (K : PySem.W.Frag) (mg : Str → Option Value) (base : Heap) (x : Str) (fl : List Str) (C : Addr) : Prop where
  gC : mg x = some (.ref C)
  oex : OexC K C
  xf : XfC K C
  noF : ∀ f ∈ fl, PySem.W.findIn K (.ref C) f = some none
  fn : ∃ fI fd, PySem.W.findIn K (.ref C) "__init__" = some (some (.ref fI)) ∧ PySem.W.typeIn K (.ref fI) = some (.type "function") ∧ FnOk P w K mg base CX0 2 fI fd ("self" :: fl) (spIn C fl) ∧ Binds K fd ("self" :: fl) []
theorem Reps.rev {K : PySem.W.Frag} {G : Hp} : ∀ {ds : List D} {vs : List V}, Reps K G vs ds → Reps K G vs.reverse ds.reverse
  | [], _, .nil => .nil
  | d :: ds, _, .cons h r => by
    rw [List.reverse_cons, List.reverse_cons]
    exact (Reps.rev r).app (.cons h .nil)
theorem zip_rev {α β γ : Type} : ∀ {fl : List α} {ds : List β} {ws : List γ}, ds.length = fl.length → ws.length = fl.length → (((fl.zip ds).reverse).map (·.1)).zip ws.reverse = (fl.zip ws).reverse := by
  intro fl ds ws h1 h2
  have e : ((fl.zip ds).reverse).map (·.1) = fl.reverse := by
    rw [List.map_reverse, List.map_fst_zip (by omega)]
  rw [e]
  apply List.ext_getElem
  · simp [h2]
  · intro i a1 a2
    simp only [List.getElem_zip, List.getElem_reverse, List.length_zip]
    simp at a1
    congr 1 <;> (congr 1 <;> omega)
def sRaise (mk : List D → Res Exc) (fs : En → Res (List D)) : En → Out := fun ρ => ofR ρ (fs ρ) fun ds => ofR ρ (mk ds) fun e => .exc e ρ
def mkBV : List D → Res Exc | [w] => .ok (.badValue w) | _ => .stuck
def mkTM : List D → Res Exc | [w] => .ok (.tooMany w) | _ => .stuck
def mkBT : List D → Res Exc | [l, w, x] => .ok (.badText l w x) | _ => .stuck
def mkNP : List D → Res Exc | [w] => .ok (.noPlacing w) | _ => .stuck
def mkRF : List D → Res Exc | [w] => .ok (.refused w) | _ => .stuck
/-- the maker makes the class's exceptions -/
def MkX (x : Str) (fl : List Str) (mk : List D → Res Exc) : Prop := ∀ ds r, mk ds = r → r = .stuck ∨ ∃ e, r = .ok e ∧ e.cls = x ∧ ds.length = fl.length ∧ e.flds = (fl.zip ds).reverse
theorem mkx_bv : MkX "BadValue" ["what"] mkBV := fun ds r h => by
  unfold mkBV at h; split at h <;> subst h
  · exact .inr ⟨_, rfl, rfl, rfl, rfl⟩
  · exact .inl rfl
theorem mkx_tm : MkX "TooMany" ["limit"] mkTM := fun ds r h => by
  unfold mkTM at h; split at h <;> subst h
  · exact .inr ⟨_, rfl, rfl, rfl, rfl⟩
  · exact .inl rfl
theorem mkx_bt : MkX "BadText" ["line", "word", "what"] mkBT := fun ds r h => by
  unfold mkBT at h; split at h <;> subst h
  · exact .inr ⟨_, rfl, rfl, rfl, rfl⟩
  · exact .inl rfl
theorem mkx_np : MkX "NoPlacing" ["members"] mkNP := fun ds r h => by
  unfold mkNP at h; split at h <;> subst h
  · exact .inr ⟨_, rfl, rfl, rfl, rfl⟩
  · exact .inl rfl
theorem mkx_rf : MkX "Refused" ["reason"] mkRF := fun ds r h => by
  unfold mkRF at h; split at h <;> subst h
  · exact .inr ⟨_, rfl, rfl, rfl, rfl⟩
  · exact .inl rfl
section
variable {X : Cx} {a : Amb} {e : Expr} {es : List Expr} {fs : En → Res (List D)} {pos p pos2 : Pos} {x : Str} {fl : List Str} {C : Addr} {k : Nat} {mk : List D → Res Exc}
theorem s_raise (T : ExT X.prog X.w X.K X.mg X.base x fl C) (c : GS k X a) (hk : 3 ≤ k) (hmk : MkX x fl mk) (ha : PA X (e :: es) (tA X.K X.mg a fs)) (hfl : fl.length ≤ 10 := by decide) (hg : Gl X x := by rfl)
    (hdb : (x == ("__debug__" : Str)) = false := by decide) (he : starEach (e :: es) X.env = (false, eval e X.env) :: starEach es X.env := by rfl) (hpl : (backTo pos (starEach es X.env)).any (·.1) = false := by rfl) :
    PS X (.Raise (some (.Call (.Name x p) (e :: es) [] pos)) none pos2) (tS X.K X.mg a (sRaise mk fs)) := by
  obtain ⟨fI, fd, iC, tI, F1, hb⟩ := T.fn
  refine (ps_raise c.calm c.tk (pmk_oex T.oex iC tI F1 (c.hr.mono hk) hb .nil pass0 hg T.gC ha hdb he hpl)).imp fun Dn σ H ⟨ρ, G, hR, q⟩ => ?_
  refine ⟨ρ, G, hR, (ofR_post hR q).imp fun ds _ q1 vs G' H' g r => ?_⟩
  rcases hmk ds _ rfl with h | ⟨ex, h, hc, hl, hf⟩
  · rw [h] at q1; exact q1.elim
  · rw [h] at q1
    have hlv : vs.length = fl.length := by rw [r.len, hl]
    refine ⟨by omega, fun b hb => ?_⟩
    rw [List.append_nil]
    refine ⟨b, vs, rfl, hlv, upd_same, fun d H2 hd hne h2a h2d rest => ⟨rfl, d, _, h2a, h2d, ?_, ?_⟩⟩
    · rw [upd_ne hne] at hd; exact hd
    · have hd' : H' d = none := by rw [upd_ne hne] at hd; exact hd
      have sm : Same H' (upd (L2.del H2 b) d (.xd ((fl.zip vs).reverse))) := fun y o ey => by
        have n1 : y ≠ d := ne_of_none ey hd'
        have n2 : y ≠ b := ne_of_none ey hb
        rw [upd_ne n1, del_ne n2, rest y n2 n1, upd_ne n2]
        exact ey
      have gg : Grow G H G' (upd (L2.del H2 b) d (.xd ((fl.zip vs).reverse))) := ⟨g.g, g.h.trans sm, g.s.trans sm, g.f⟩
      have cls : clOf X.mg ex.cls = .ref C := by unfold clOf; rw [hc, T.gC]; rfl
      rw [← cls]
      refine q1 d σ G' _ (R.grow hR gg) gg.g ⟨vs.reverse, ?_, ?_⟩
      · rw [hf, zip_rev hl hlv]
        exact upd_same
      · rw [hf, List.map_reverse, List.map_snd_zip (by omega)]
        exact r.rev
end

/-! ## own exceptions' makers: __init__ with one field, with three -/
section
variable {P : Program} {w : World} {K : PySem.W.Frag} {mg : Str → Option Value} {base : Heap}
/-- self.f = f, in such a body -/
theorem ost {X : Cx} {f : Str} {o e : Expr} {to te : TE} {p' pos : Pos} (ho : PE X o to) (he : PE X e te) (hs : swapsWith e (some (.Attribute o f p')) pos.line X.env = pure false := by rfl) : PS X (.Assign [.Attribute o f p'] e pos) (tOst X.K f to te) := ps_ost ho he hs
theorem init1 {f : Addr} {fd : FuncData} {qual fl : Str} {st : Stmt} {C : Addr} (F : Fun K "__init__" qual st f fd) (S : FnScope [("self" : Str), fl] [("self" : Str), fl] (defScope st)) (o : OexC K C) (no : PySem.W.findIn K (.ref C) fl = some none)
    (body : ∀ (cdv : Value) (A : Around) (outer : List Env) (s : Shared) (H : Hp) (E : XK), PSs (cxOf CX0 P w K mg base [("self" : Str), fl] qual (defScope st) f cdv A outer s H E).nox (defBody st) (tOst K fl (tVar 0) (tVar 1))) : FnOk P w K mg base CX0 2 f fd [("self" : Str), fl] (spIn C [fl]) := by
  refine F.ok S (fun vs H Q E h => ?_) (fun cdv A outer s H vs Q E hr h => ?_)
  · obtain ⟨a, ws, rfl, hl, _⟩ := h
    simpa using hl
  · obtain ⟨a, ws, rfl, hl, ha, q⟩ := h
    match ws, hl with
    | [w1], _ =>
      refine ⟨_, body cdv A outer s H E, ?_⟩
      refine ⟨w1, rfl, .ref a, rfl, a, C, rfl, o, no, .inl ⟨ha, fun dx n1 n2 => ?_⟩⟩
      refine q dx _ n1 n2 upd_same ?_ fun b h1 h2 => ?_
      · rw [upd_ne n2, upd_same] <;> rfl
      · rw [upd_ne h1, upd_ne h2]
theorem init3 {f : Addr} {fd : FuncData} {qual f1 f2 f3 : Str} {st : Stmt} {C : Addr} (F : Fun K "__init__" qual st f fd) (S : FnScope [("self" : Str), f1, f2, f3] [("self" : Str), f1, f2, f3] (defScope st)) (o : OexC K C) (n1 : PySem.W.findIn K (.ref C) f1 = some none) (n2 : PySem.W.findIn K (.ref C) f2 = some none) (n3 : PySem.W.findIn K (.ref C) f3 = some none)
    (body : ∀ (cdv : Value) (A : Around) (outer : List Env) (s : Shared) (H : Hp) (E : XK), PSs (cxOf CX0 P w K mg base [("self" : Str), f1, f2, f3] qual (defScope st) f cdv A outer s H E).nox (defBody st) (tSeq (tOst K f1 (tVar 0) (tVar 1)) (tSeq (tOst K f2 (tVar 0) (tVar 2)) (tOst K f3 (tVar 0) (tVar 3))))) : FnOk P w K mg base CX0 2 f fd [("self" : Str), f1, f2, f3] (spIn C [f1, f2, f3]) := by
  refine F.ok S (fun vs H Q E h => ?_) (fun cdv A outer s H vs Q E hr h => ?_)
  · obtain ⟨a, ws, rfl, hl, _⟩ := h
    simpa using hl
  · obtain ⟨a, ws, rfl, hl, ha, q⟩ := h
    match ws, hl with
    | [w1, w2, w3], _ =>
      refine ⟨_, body cdv A outer s H E, ?_⟩
      refine ⟨w1, rfl, .ref a, rfl, a, C, rfl, o, n1, .inl ⟨ha, fun dx m1 m2 => ?_⟩⟩
      have e1 : upd (upd H dx (exd dx [(f1, w1)])) a (exo a C (some dx)) dx = some (exd dx [(f1, w1)]) := by rw [upd_ne m2, upd_same]
      refine ⟨w2, rfl, .ref a, rfl, a, C, rfl, o, n2, .inr ⟨dx, _, upd_same, e1, (by simp), ?_⟩⟩
      refine ⟨w3, rfl, .ref a, rfl, a, C, rfl, o, n3, .inr ⟨dx, _, ?_, upd_same, (by simp), ?_⟩⟩
      · rw [upd_ne (Ne.symm m2), upd_same]
      · refine q dx _ m1 m2 ?_ ?_ fun b h1 h2 => ?_
        · rw [upd_ne (Ne.symm m2), upd_ne (Ne.symm m2), upd_same]
        · exact upd_same
        · rw [upd_ne h2, upd_ne h2, upd_ne h1, upd_ne h2]
end

/-! ## try -/
/-- a clause: which exceptions it takes, the slot of its name, what it does -/
structure Clz where
  kn : Exc → Bool
  is : Exc → Bool
  i : Nat
  f : Exc → En → Out
/-- the name of the clause goes -/
def unset (i : Nat) : Out → Out
  | .next ρ => .next (ρ.set i .no) | .brk ρ => .brk (ρ.set i .no) | .cont ρ => .cont (ρ.set i .no) | .ret r => .ret r | .exc _ _ => .stuck | .stuck => .stuck
def tryO : List Clz → Exc → En → Out
  | [], e, ρ => .exc e ρ
  | l :: r, e, ρ => if l.kn e then (if l.is e then unset l.i (l.f e (ρ.set l.i .no)) else tryO r e ρ) else .stuck
def sTry (b : En → Out) (ls : List Clz) : En → Out := fun ρ => match b ρ with | .exc e ρ' => tryO ls e ρ' | o => o
/-- what a suite knows: e caught, at the address p, its dict at d -/
def Su (K : PySem.W.Frag) (mg : Str → Option Value) (a : Amb) (i : Nat) (p : Addr) (cls : Value) (d : Option Addr) (e : Exc) (ρ : En) (σ : L2.St) (G H : Hp) : Prop :=
  (∃ dd, d = some dd ∧ XR K G H dd e) ∧ cls = clOf mg e.cls ∧ (∀ o, σ[i]? = some o → o = some (.ref p)) ∧ RR K a ρ σ G H
theorem XR.grow {K : PySem.W.Frag} {G H G' H' : Hp} {d : Addr} {e : Exc} (g : Grow G H G' H') (x : XR K G H d e) : XR K G' H' d e := by
  obtain ⟨vs, h1, h2⟩ := x
  exact ⟨vs, g.h _ _ h1, Reps.mono g.g _ _ h2⟩
theorem Su.grow {K : PySem.W.Frag} {mg : Str → Option Value} {a : Amb} {i : Nat} {p : Addr} {cls : Value} {d : Option Addr} {e : Exc} {ρ : En} {σ : L2.St} {G H G' H' : Hp} (s : Su K mg a i p cls d e ρ σ G H) (g : Grow G H G' H') : Su K mg a i p cls d e ρ σ G' H' := by
  obtain ⟨⟨dd, h1, h2⟩, h3, h4, h5⟩ := s
  exact ⟨⟨dd, h1, h2.grow g⟩, h3, h4, R.grow h5 g⟩
section
variable (K : PySem.W.Frag) (mg : Str → Option Value) (a : Amb) (i : Nat) (p : Addr) (cls : Value) (d : Option Addr)
def tSu (f : Exc → En → Out) : TS := fun Dn σ H => ∃ e ρ G, Su K mg a i p cls d e ρ σ G H ∧ Post K mg (aB a) Dn G (f e ρ)
def tX (f : Exc → En → Res D) : TE := fun σ H Q => ∃ e ρ G, Su K mg a i p cls d e ρ σ G H ∧ PostE K mg (aB a) σ G H (f e ρ) fun z => ∀ v G' H', Grow G H G' H' → Rep K G' v z → Q v H'
def tXA (f : Exc → En → Res (List D)) : TA := fun σ H Q => ∃ e ρ G, Su K mg a i p cls d e ρ σ G H ∧ PostE K mg (aB a) σ G H (f e ρ) fun z => ∀ v G' H', Grow G H G' H' → Reps K G' v z → Q v H'
end
/-- the clauses' meanings and readings -/
inductive ClzOk (X : Cx) (a : Amb) : List ExceptHandler → List Clz → Prop
  | nil : ClzOk X a [] []
  | cons {x n : Str} {C : Addr} {l : Clz} {b0 : Stmt} {bs : List Stmt} {np ps : Pos} {hds : List ExceptHandler} {r : List Clz} (hc : Names X x (.ref C)) (hi : X.N[l.i]? = some n) (hl : X.env.kindOf n = some .local)
      (hm : ∀ e, l.kn e = true → PySem.W.exmOne X.K (clOf X.mg e.cls) (.ref C) = some (l.is e))
      (hs : ∀ (p : Addr) (oe : Obj) (cls : Value) (d : Option Addr) (pn : List (Addr × Obj)), Zc cls d oe → (∃ vs, oe.data = .fields vs) → PSs (X.suite p ((p, oe) :: pn)) (b0 :: bs) (tSu X.K X.mg a l.i p cls d l.f)) (h : ClzOk X a hds r) :
      ClzOk X a (.ExceptHandler (some (.Name x np)) (some n) (b0 :: bs) ps :: hds) (l :: r)
  | consN {x : Str} {C : Addr} {l : Clz} {b0 : Stmt} {bs : List Stmt} {np ps : Pos} {hds : List ExceptHandler} {r : List Clz} (hc : Names X x (.ref C)) (hi : X.N.length ≤ l.i)
      (hm : ∀ e, l.kn e = true → PySem.W.exmOne X.K (clOf X.mg e.cls) (.ref C) = some (l.is e))
      (hs : ∀ (p : Addr) (oe : Obj) (cls : Value) (d : Option Addr) (pn : List (Addr × Obj)), Zc cls d oe → (∃ vs, oe.data = .fields vs) → PSs (X.suite p ((p, oe) :: pn)) (b0 :: bs) (tSu X.K X.mg a l.i p cls d l.f)) (h : ClzOk X a hds r) :
      ClzOk X a (.ExceptHandler (some (.Name x np)) none (b0 :: bs) ps :: hds) (l :: r)
section
variable {X : Cx} {a : Amb} {k : Nat}
theorem clz_cl {hds : List ExceptHandler} {ls : List Clz} (h : ClzOk X a hds ls) : ∃ cs : List Cla, ClOk X hds cs ∧
    ∀ (Dn : Ends) (e : Exc) (ρ : En) (d : Addr) (σ : L2.St) (G H : Hp), RR X.K a ρ σ G H → XR X.K G H d e → Post X.K X.mg a Dn G (tryO ls e ρ) → wCl X.K a.W Dn cs (clOf X.mg e.cls) (some d) σ H := by
  induction h with
  | nil => exact ⟨[], .nil, fun Dn e ρ d σ G H r x p => p d σ G H r (Same.refl _) x⟩
  | @cons x n C l b0 bs np ps hds r hc hi hl hm hs h ih =>
    obtain ⟨cs, h1, h2⟩ := ih
    refine ⟨⟨.ref C, l.i, fun p cls d => tSu X.K X.mg a l.i p cls d l.f⟩ :: cs, .cons hc hi hl hs h1, fun Dn e ρ d σ G H r x p => ?_⟩
    unfold tryO at p
    by_cases hk : l.kn e = true
    case neg => rw [if_neg hk] at p; exact p.elim
    rw [if_pos hk] at p
    refine ⟨l.is e, hm e hk, fun hb q hq => ?_, fun hb => ?_⟩
    · rw [hb, if_pos rfl] at p
      refine ⟨e, ρ.set l.i .no, G, ⟨⟨d, rfl, x⟩, rfl, fun o ho => ?_, R.setNo r l.i _⟩, ?_⟩
      · rcases get_set ho with ⟨_, z, _⟩ | ⟨z, _⟩
        · exact z
        · exact absurd rfl z
      · cases hf : l.f e (ρ.set l.i .no) with
        | next ρ2 => rw [hf] at p; exact fun σ' G' H' r' s' => p _ G' H' (R.setNo r' l.i none) s'
        | brk ρ2 => rw [hf] at p; exact fun σ' G' H' r' s' => p _ G' H' (R.setNo r' l.i none) s'
        | cont ρ2 => rw [hf] at p; exact fun σ' G' H' r' s' => p _ G' H' (R.setNo r' l.i none) s'
        | ret rv => rw [hf] at p; cases rv <;> exact p
        | exc e2 ρ2 => rw [hf] at p; exact p.elim
        | stuck => rw [hf] at p; exact p.elim
    · rw [hb, if_neg Bool.false_ne_true] at p
      exact h2 Dn e ρ d σ G H r x p
  | @consN x C l b0 bs np ps hds r hc hi hm hs h ih =>
    obtain ⟨cs, h1, h2⟩ := ih
    refine ⟨⟨.ref C, l.i, fun p cls d => tSu X.K X.mg a l.i p cls d l.f⟩ :: cs, .consN hc hi hs h1, fun Dn e ρ d σ G H r x p => ?_⟩
    unfold tryO at p
    by_cases hk : l.kn e = true
    case neg => rw [if_neg hk] at p; exact p.elim
    rw [if_pos hk] at p
    refine ⟨l.is e, hm e hk, fun hb q hq => ?_, fun hb => ?_⟩
    · rw [hb, if_pos rfl] at p
      refine ⟨e, ρ.set l.i .no, G, ⟨⟨d, rfl, x⟩, rfl, fun o ho => ?_, R.setNo r l.i _⟩, ?_⟩
      · rcases get_set ho with ⟨_, z, _⟩ | ⟨z, _⟩
        · exact z
        · exact absurd rfl z
      · cases hf : l.f e (ρ.set l.i .no) with
        | next ρ2 => rw [hf] at p; exact fun σ' G' H' r' s' => p _ G' H' (R.setNo r' l.i none) s'
        | brk ρ2 => rw [hf] at p; exact fun σ' G' H' r' s' => p _ G' H' (R.setNo r' l.i none) s'
        | cont ρ2 => rw [hf] at p; exact fun σ' G' H' r' s' => p _ G' H' (R.setNo r' l.i none) s'
        | ret rv => rw [hf] at p; cases rv <;> exact p
        | exc e2 ρ2 => rw [hf] at p; exact p.elim
        | stuck => rw [hf] at p; exact p.elim
    · rw [hb, if_neg Bool.false_ne_true] at p
      exact h2 Dn e ρ d σ G H r x p
theorem s_try {body : List Stmt} {h0 : ExceptHandler} {hds : List ExceptHandler} {ls : List Clz} {pos : Pos} {F : En → Out} (c : GS k X a)
    (hb : ∀ (W' : WX) (pn : List (Addr × Obj)) (xe : Value → Shared → Prop), GS k (X.tr pn xe) { a with W := W' } → PSs (X.tr pn xe) body (tS X.K X.mg { a with W := W' } F))
    (hh : ClzOk X a (h0 :: hds) ls) : PS X (.Try body (h0 :: hds) [] [] pos) (tS X.K X.mg a (sTry F ls)) := by
  obtain ⟨cs, h1, h2⟩ := clz_cl hh
  refine (ps_try_cl (tb := fun W' => tS X.K X.mg { a with W := W' } F) c.hs c.hf c.nd c.tk (fun W' pn xe tk po => hb W' pn xe (c.tr tk po)) h1).imp fun Dn σ H ⟨ρ, G, hR, q⟩ => ?_
  refine ⟨ρ, G, hR, ?_⟩
  unfold sTry at q
  cases hF : F ρ with
  | exc e ρ' => rw [hF] at q; exact fun d σ' G' H' r' s' x => h2 Dn e ρ' d σ' G' H' r' x (Post.mono s' q)
  | next ρ2 => rw [hF] at q; exact q
  | brk ρ2 => rw [hF] at q; exact q
  | cont ρ2 => rw [hF] at q; exact q
  | ret rv => rw [hF] at q; cases rv <;> exact q
  | stuck => rw [hF] at q; exact q.elim
theorem exm_pair {K : PySem.W.Frag} {A C : Addr} {b : Bool} (h1 : PySem.W.subIn K (.ref C) (.type "BaseException") = some true) (h2 : PySem.W.isClsIn K C = true) (h3 : PySem.W.typeIn K (.ref C) = some (.type "type")) (h4 : PySem.W.subIn K (.ref A) (.ref C) = some b) : PySem.W.exmOne K (.ref A) (.ref C) = some b := by
  have e1 : (PySem.W.subIn K (.ref C) (.type "BaseException") == some true) = true := by rw [h1] <;> rfl
  have z : (PySem.W.clsIn K C).isSome = true := h2
  have e2 : ((PySem.W.clsIn K C).isSome && PySem.W.typeIn K (.ref C) == some (.type "type")) = true := by rw [z, h3] <;> rfl
  show (if (PySem.W.subIn K (.ref C) (.type "BaseException") == some true) = true then (if ((PySem.W.clsIn K C).isSome && PySem.W.typeIn K (.ref C) == some (.type "type")) = true then PySem.W.subIn K (.ref A) (.ref C) else none) else none) = some b
  rw [if_pos e1, if_pos e2]
  exact h4
end
/-! in a suite -/
def fldX (x fld : Str) : Exc → En → Res D := fun e _ => gd (e.cls = x) (match e.flds.lookup fld with | some d => .ok d | none => .stuck)
section
variable {X : Cx} {a : Amb} {i : Nat} {p : Addr} {oe : Obj} {cls : Value} {d : Option Addr} {pn : List (Addr × Obj)} {e b : Expr} {es : List Expr} {pos : Pos} {f g : Exc → En → Res D} {fs : Exc → En → Res (List D)}
theorem x_lift {f : En → Res D} (h : PE (X.suite p ((p, oe) :: pn)) e (tD X.K X.mg (aB a) f)) : PE (X.suite p ((p, oe) :: pn)) e (tX X.K X.mg a i p cls d fun _ => f) :=
  h.imp fun σ H Q ⟨ex, ρ, G, hS, q⟩ => ⟨ρ, G, hS.2.2.2, q⟩
theorem lookup_zip {K : PySem.W.Frag} {G : Hp} {fld : Str} {z : D} : ∀ {fs : List (Str × D)} {vs : List V}, Reps K G vs (fs.map (·.2)) → fs.lookup fld = some z → ∃ v, ((fs.map (·.1)).zip vs).lookup fld = some v ∧ Rep K G v z
  | [], _, _, h => by cases h
  | (x, d) :: r, _, .cons (v := v) (vs := vs) h1 h2, h => by
    show ∃ w, List.lookup fld ((x, v) :: (r.map (·.1)).zip vs) = some w ∧ _
    by_cases hx : (fld == x) = true
    · rw [List.lookup_cons, hx] at h
      simp only at h
      cases h
      exact ⟨v, by rw [List.lookup_cons, hx], h1⟩
    · have hx' : (fld == x) = false := by simpa using hx
      rw [List.lookup_cons, hx'] at h
      obtain ⟨w, e1, e2⟩ := lookup_zip h2 h
      exact ⟨w, by rw [List.lookup_cons, hx']; exact e1, e2⟩
theorem x_fld {x n fld : Str} {C : Addr} {flds : List Str} {np : Pos} (T : ExT X.prog X.w X.K X.mg X.base x flds C) (hm : fld ∈ flds) (hz : Zc cls d oe) (hf : ∃ vs, oe.data = .fields vs) (hi : X.N[i]? = some n)
    (hv : Vis X.env.scope n := by first | exact Or.inl rfl | exact Or.inr (Or.inl rfl) | exact Or.inr (Or.inr rfl)) (hd : (n == ("__debug__" : Str)) = false := by decide) (hcd : (n == ("__classdict__" : Str)) = false := by decide)
    (hb : attributeBase (.Name n np) fld X.env (eval (.Name n np) X.env) = eval (.Name n np) X.env := by rfl) : PE (X.suite p ((p, oe) :: pn)) (.Attribute (.Name n np) fld pos) (tX X.K X.mg a i p cls d (fldX x fld)) := by
  refine ⟨fun pins s σ H Q I ⟨ex, ρ, G, ⟨⟨dd, h1, vs, h2, h3⟩, h4, h5, h6⟩, q⟩ => ?_⟩
  obtain ⟨hx, q1⟩ := PostE.gd q
  refine (pe_xf T.xf (T.noF fld hm) hz hf (pe_var (X := X.suite p ((p, oe) :: pn)) hi hv hd hcd) hb).run pins s σ H Q I ?_
  have hlen : i < σ.length := by
    have e1 : σ.length = X.N.length := I.len
    rw [e1]; exact (List.getElem?_eq_some_iff.mp hi).1
  have e2 := h5 _ (List.getElem?_eq_getElem hlen)
  cases hL : ex.flds.lookup fld with
  | none => rw [hL] at q1; exact q1.elim
  | some z =>
    rw [hL] at q1
    obtain ⟨v, e3, e4⟩ := lookup_zip h3 hL
    refine ⟨.ref p, by rw [List.getElem?_eq_getElem hlen, e2], rfl, ?_, dd, _, v, h1, h2, e3, q1 v G H (Grow.refl (R.sub h6)) e4⟩
    rw [h4, hx]; unfold clOf; rw [T.gC]; rfl
theorem xa_nil : PA (X.suite p ((p, oe) :: pn)) [] (tXA X.K X.mg a i p cls d fun _ => aNil) := pa_nil.imp fun σ H Q ⟨ex, ρ, G, hS, q⟩ => q [] G H (Grow.refl (R.sub hS.2.2.2)) .nil
theorem xa_cons (h : PE (X.suite p ((p, oe) :: pn)) e (tX X.K X.mg a i p cls d f)) (hs : PA (X.suite p ((p, oe) :: pn)) es (tXA X.K X.mg a i p cls d fs)) (hst : starEach (e :: es) X.env = (false, eval e X.env) :: starEach es X.env := by rfl) :
    PA (X.suite p ((p, oe) :: pn)) (e :: es) (tXA X.K X.mg a i p cls d fun ex => aCons (f ex) (fs ex)) :=
  (pa_cons h hs hst).imp fun σ H Q ⟨ex, ρ, G, hS, q⟩ => ⟨ex, ρ, G, hS, (PostE.bind q).imp fun x e1 q1 v G' H' g1 r1 =>
    ⟨ex, ρ, G', hS.grow g1, ((PostE.bind q1).grow g1).imp fun xs e2 q2 vs G2 H2 g2 r2 => q2 (v :: vs) G2 H2 (g1.trans g2) (.cons (Rep.mono g2.g _ _ r1) r2)⟩⟩
theorem x_tup {x1 : Nat} (hs : PA (X.suite p ((p, oe) :: pn)) es (tXA X.K X.mg a i p cls d fs)) : PE (X.suite p ((p, oe) :: pn)) (.Tuple es x1 pos) (tX X.K X.mg a i p cls d fun ex => app tupD (fs ex)) :=
  (pe_tup hs).imp fun σ H Q ⟨ex, ρ, G, hS, q⟩ => ⟨ex, ρ, G, hS, (PostE.bind q).imp fun xs e1 q1 vs G' H' g1 r1 => by
    obtain ⟨hz, q1⟩ := PostE.gd q1
    exact ⟨by rw [r1.len]; exact hz, fun y hp => q1 (.ref y) _ _ (g1.trans (Grow.new g1.s hp)) (.tup (SqT.of upd_same) (Reps.mono (same_new (g1.s.free hp)) _ _ r1))⟩⟩
def xRet (f : Exc → En → Res D) : Exc → En → Out := fun ex ρ => ofR ρ (f ex ρ) fun z => .ret (.sh z)
theorem su_ret (h : PE (X.suite p ((p, oe) :: pn)) e (tX X.K X.mg a i p cls d f)) : PSs (X.suite p ((p, oe) :: pn)) [.Return (some e) pos] (tSu X.K X.mg a i p cls d (xRet f)) :=
  (pss_one (ps_ret h)).imp fun Dn σ H ⟨ex, ρ, G, hS, q⟩ => ⟨ex, ρ, G, hS, (ofR_post (a := aB a) hS.2.2.2 q).imp fun x _ q1 v G' H' g r => q1 v G' H' (hS.2.2.2.gr.trans g) g.g r⟩
end
end PL

set_option maxRecDepth 100000
set_option maxHeartbeats 1000000
namespace PL
open PySem PySem.Spec PyProof.Rows L2

/-! ## lists of one's own, changed -/
def owL (ρ : En) (i : Nat) : Res (List D) := match ρ[i]? with | some (.ow (.lst xs)) => .ok xs | _ => .stuck
theorem owL_eq {ρ : En} {i : Nat} {xs : List D} (h : owL ρ i = .ok xs) : ρ[i]? = some (.ow (.lst xs)) := by
  unfold owL at h
  cases e : ρ[i]? with
  | none => rw [e] at h; cases h
  | some s => cases s with
    | no => rw [e] at h; cases h
    | tmp _ => rw [e] at h; cases h
    | sh d => rw [e] at h; cases h
    | ow o => cases o with
      | dk k => rw [e] at h; cases h
      | lst ys => rw [e] at h; cases h; rfl
def setL (ρ : En) (i : Nat) (xs : List D) : En := ρ.set i (.ow (.lst xs))
/-- i.append(f) -/
def sApp (i : Nat) (f : En → Res D) : En → Out := fun ρ => ofR ρ (owL ρ i) fun xs => ofR ρ (f ρ) fun d => ofR ρ (gd (xs.length < sizeLine) (.ok ())) fun _ => .next (setL ρ i (xs ++ [d]))
/-- i.pop() as a statement -/
def sPop (i : Nat) : En → Out := fun ρ => ofR ρ (owL ρ i) fun xs => ofR ρ (gd (xs ≠ []) (.ok ())) fun _ => .next (setL ρ i xs.dropLast)
/-- i.pop(f) as a statement -/
def popAt (xs : List D) : D → Res (List D) | .int n => gd (0 ≤ n ∧ n < xs.length ∧ xs.length < 2 ^ 62) (.ok (xs.eraseIdx n.toNat)) | _ => .stuck
def sPopAt (i : Nat) (f : En → Res D) : En → Out := fun ρ => ofR ρ (owL ρ i) fun xs => ofR ρ (f ρ) fun d => ofR ρ (popAt xs d) fun ys => .next (setL ρ i ys)
/-- i.insert(f, g) -/
def insAt (xs : List D) : List D → Res (List D) | [.int n, d] => gd (xs.length < sizeLine ∧ 0 ≤ n ∧ n < 2 ^ 63) (.ok (xs.take n.toNat ++ [d] ++ xs.drop n.toNat)) | _ => .stuck
def sIns (i : Nat) (fs : En → Res (List D)) : En → Out := fun ρ => ofR ρ (owL ρ i) fun xs => ofR ρ (fs ρ) fun ds => ofR ρ (insAt xs ds) fun ys => .next (setL ρ i ys)
/-- i[f] = g -/
def putAt (xs : List D) (d : D) : D → Res (List D) | .int n => (match ixN xs.length n with | some j => .ok (xs.set j d) | none => .stuck) | _ => .stuck
def sPut (i : Nat) (f g : En → Res D) : En → Out := fun ρ => ofR ρ (owL ρ i) fun xs => ofR ρ (g ρ) fun d => ofR ρ (f ρ) fun n => ofR ρ (putAt xs d n) fun ys => .next (setL ρ i ys)
/-- i[f], i a list of one's own -/
def ixO (i : Nat) (f : En → Res D) : En → Res D := fun ρ => (owL ρ i).bind fun xs => (f ρ).bind fun n => match n with
  | .int n => (match atI xs n with | some d => .ok d | none => .stuck)
  | _ => .stuck
mutual
/-- no list in it -/
def scl : D → Bool | .non => true | .bl _ => true | .int _ => true | .str _ => true | .tup xs => sclA xs | _ => false
def sclA : List D → Bool | [] => true | d :: ds => scl d && sclA ds
end
def sclX (e : Exc) : Bool := sclA (e.flds.map (·.2))
/-- a list of one's own is read: the value is a scalar -/
def borE (i : Nat) (f : En → Res D) : En → Res D := fun ρ => match owL ρ i with
  | .ok xs => (match f (ρ.set i (.sh (.lst xs))) with
    | .ok d => gd (scl d = true) (.ok d)
    | .exc e => gd (sclX e = true) (.exc e)
    | .stuck => .stuck)
  | _ => .stuck
def borT (i : Nat) (f : En → Res Bool) : En → Res Bool := fun ρ => match owL ρ i with
  | .ok xs => (match f (ρ.set i (.sh (.lst xs))) with
    | .ok d => .ok d
    | .exc e => gd (sclX e = true) (.exc e)
    | .stuck => .stuck)
  | _ => .stuck
theorem sqt_ne {K : PySem.W.Frag} {G G' : Hp} {l p : Addr} {vs us : List V} (hG : G l = some (.lst vs)) (hs : ∀ b x, b ≠ l → G b = some x → G' b = some x) (h : SqT K G p us) : SqT K G' p us := by
  rcases h with (h | ⟨o, h⟩) | h
  · exact .inl (.inl (hs _ _ (fun z => by rw [z, hG] at h; cases h) h))
  · exact .inl (.inr ⟨o, hs _ _ (fun z => by rw [z, hG] at h; cases h) h⟩)
  · exact .inr h
mutual
theorem scl_rep {K : PySem.W.Frag} {G G' : Hp} {l : Addr} {vs : List V} (hG : G l = some (.lst vs)) (hs : ∀ b x, b ≠ l → G b = some x → G' b = some x) : ∀ (d : D) (v : V), scl d = true → Rep K G v d → Rep K G' v d
  | .non, _, _, .non => .non
  | .bl _, _, _, .bl b => .bl b
  | .int _, _, _, .int b => .int b
  | .str _, _, _, .str b => .str b
  | .tup ds, _, h, .tup s r => .tup (sqt_ne hG hs s) (scl_reps hG hs ds _ h r)
theorem scl_reps {K : PySem.W.Frag} {G G' : Hp} {l : Addr} {vs : List V} (hG : G l = some (.lst vs)) (hs : ∀ b x, b ≠ l → G b = some x → G' b = some x) : ∀ (ds : List D) (us : List V), sclA ds = true → Reps K G us ds → Reps K G' us ds
  | [], _, _, .nil => .nil
  | d :: ds, _, h, .cons r rr => .cons (scl_rep hG hs d _ (Bool.and_eq_true_iff.mp h).1 r) (scl_reps hG hs ds _ (Bool.and_eq_true_iff.mp h).2 rr)
end
/-- all but l -/
def less (G : Hp) (l : Addr) : Hp := fun b => if b = l then none else G b
theorem less_grow {G H G' H' : Hp} {l : Addr} {vs : List V} (sb : Same G H) (hg : G l = none) (g : Grow (upd G l (.lst vs)) H G' H') : Grow G H (less G' l) H' where
  g := fun b x e => by
    have : b ≠ l := fun z => by rw [z, hg] at e; cases e
    show (if b = l then none else G' b) = some x
    rw [if_neg this]
    exact g.g b x (by rw [upd_ne this]; exact e)
  h := g.h
  s := fun b x e => by
    unfold less at e
    split at e
    · cases e
    · exact g.s b x e
  f := fun b h1 h2 => by
    unfold less
    split
    · rfl
    · rename_i z
      exact g.f b (by rw [upd_ne z]; exact h1) h2
theorem less_keep {G' : Hp} {l : Addr} : ∀ b x, b ≠ l → G' b = some x → less G' l b = some x := fun b x h e => by unfold less; rw [if_neg h]; exact e
theorem owL_nox {ρ : En} {i : Nat} {e : Exc} : owL ρ i ≠ .exc e := by unfold owL; split <;> (intro z; cases z)
theorem ow_post {K : PySem.W.Frag} {mg : Str → Option Value} {a : Amb} {Dn : Ends} {G : Hp} {ρ : En} {i : Nat} {k : List D → Out} (h : Post K mg a Dn G (ofR ρ (owL ρ i) k)) : ∃ xs, owL ρ i = .ok xs ∧ Post K mg a Dn G (k xs) := by
  cases e : owL ρ i with
  | ok xs => rw [e] at h; exact ⟨xs, rfl, h⟩
  | exc ex => exact absurd e owL_nox
  | stuck => rw [e] at h; exact h.elim
theorem gd_post {K : PySem.W.Frag} {mg : Str → Option Value} {a : Amb} {Dn : Ends} {G : Hp} {ρ : En} {α : Type} {c : Prop} [Decidable c] {r : Res α} {k : α → Out} (h : Post K mg a Dn G (ofR ρ (gd c r) k)) : c ∧ Post K mg a Dn G (ofR ρ r k) := by
  by_cases hc : c
  · rw [gd_pos hc] at h; exact ⟨hc, h⟩
  · have e : gd c r = .stuck := if_neg hc
    rw [e] at h; exact h.elim
section
variable {X : Cx} {a : Amb} {e b : Expr} {es : List Expr} {f g : En → Res D} {fs : En → Res (List D)} {pos p pos2 apos : Pos} {x : Str} {i : Nat}
theorem s_app (i : Nat) (h : PE X e (tD X.K X.mg a f)) (hN : X.N[i]? = some x := by rfl) (hv : Vis X.env.scope x := by first | exact Or.inl rfl | exact Or.inr (Or.inl rfl) | exact Or.inr (Or.inr rfl)) (hd : (x == ("__debug__" : Str)) = false := by decide) (hcd : (x == ("__classdict__" : Str)) = false := by decide)
    (hsw : swapsWith (.Call (.Attribute (.Name x p) "append" apos) [e] [] pos) none pos2.line X.env = pure false := by rfl)
    (hbase : attributeBase (.Name x p) "append" X.env (eval (.Name x p) X.env) = eval (.Name x p) X.env := by rfl)
    (hfew : ((backTo pos (starEach (e :: []) X.env)).all (fun x => !x.1) && (backToKw pos (keywordEach [] X.env)).all (fun x => x.1.isSome) && decide ((e :: ([] : List Expr)).length + ([] : List Keyword).length + (if ([] : List Keyword).isEmpty then 0 else 1) < 30)) = true := by rfl)
    (hline : (apos.endLine == pos.line) = true := by rfl) (hs : starEach (e :: []) X.env = (false, eval e X.env) :: starEach [] X.env := by rfl) (hplain : (backTo pos (starEach [] X.env)).any (·.1) = false := by rfl) :
    PS X (.Expr (.Call (.Attribute (.Name x p) "append" apos) [e] [] pos) pos2) (tS X.K X.mg a (sApp i f)) :=
  (ps_expr (pe_bm PySem.F.plainAttrs_list PySem.F.slot_list_append PySem.F.type_list_append mt_append (pe_var hN hv hd hcd) (pa_cons h pa_nil hs) hbase hfew hline hs hplain) hsw).imp fun Dn σ H ⟨ρ, G, hR, q⟩ => by
    obtain ⟨xs, hx, q⟩ := ow_post q
    obtain ⟨l, vs, e1, h0, hg, hh, r⟩ := R.owL hR (owL_eq hx)
    refine ⟨.ref l, e1, Or.inl ⟨rfl, vs, SqL.of hh⟩, ρ, G, hR, (ofR_post hR q).imp fun d _ q1 v G' H' gr rd => ?_⟩
    obtain ⟨hz, q1⟩ := gd_post q1
    exact ⟨l, vs, v, rfl, rfl, gr.h _ _ hh, by rw [r.len]; exact hz, q1 σ G' _ (R.write (R.grow hR gr) (owL_eq hx) e1 (.lst ((Reps.mono gr.g _ _ r).app (.cons rd .nil)))) gr.g⟩
theorem s_ins (i : Nat) (h : PA X (e :: es) (tA X.K X.mg a fs)) (hN : X.N[i]? = some x := by rfl) (hv : Vis X.env.scope x := by first | exact Or.inl rfl | exact Or.inr (Or.inl rfl) | exact Or.inr (Or.inr rfl)) (hd : (x == ("__debug__" : Str)) = false := by decide) (hcd : (x == ("__classdict__" : Str)) = false := by decide)
    (hsw : swapsWith (.Call (.Attribute (.Name x p) "insert" apos) (e :: es) [] pos) none pos2.line X.env = pure false := by rfl)
    (hbase : attributeBase (.Name x p) "insert" X.env (eval (.Name x p) X.env) = eval (.Name x p) X.env := by rfl)
    (hfew : ((backTo pos (starEach (e :: es) X.env)).all (fun x => !x.1) && (backToKw pos (keywordEach [] X.env)).all (fun x => x.1.isSome) && decide ((e :: es).length + ([] : List Keyword).length + (if ([] : List Keyword).isEmpty then 0 else 1) < 30)) = true := by rfl)
    (hline : (apos.endLine == pos.line) = true := by rfl) (hs : starEach (e :: es) X.env = (false, eval e X.env) :: starEach es X.env := by rfl) (hplain : (backTo pos (starEach es X.env)).any (·.1) = false := by rfl) :
    PS X (.Expr (.Call (.Attribute (.Name x p) "insert" apos) (e :: es) [] pos) pos2) (tS X.K X.mg a (sIns i fs)) :=
  (ps_expr (pe_bm PySem.F.plainAttrs_list PySem.F.slot_list_insert PySem.F.type_list_insert mt_insert (pe_var hN hv hd hcd) h hbase hfew hline hs hplain) hsw).imp fun Dn σ H ⟨ρ, G, hR, q⟩ => by
    obtain ⟨xs, hx, q⟩ := ow_post q
    obtain ⟨l, vs, e1, h0, hg, hh, r⟩ := R.owL hR (owL_eq hx)
    refine ⟨.ref l, e1, Or.inl ⟨rfl, vs, SqL.of hh⟩, ρ, G, hR, (ofR_post hR q).imp fun ds _ q1 us G' H' gr rd => ?_⟩
    unfold insAt at q1
    split at q1
    · obtain ⟨v, u, rfl, r1, r2⟩ := reps2 rd
      obtain ⟨⟨hz, h1, h2⟩, q1⟩ := gd_post q1
      cases r1
      have rr := Reps.mono gr.g _ _ r
      exact ⟨l, vs, _, u, rfl, rfl, gr.h _ _ hh, by rw [r.len]; exact hz, h1, h2, q1 σ G' _ (R.write (R.grow hR gr) (owL_eq hx) e1 (.lst (((rr.take _).app (.cons r2 .nil)).app (rr.drop _)))) gr.g⟩
    · exact q1.elim
theorem s_pop (i : Nat) (hN : X.N[i]? = some x := by rfl) (hv : Vis X.env.scope x := by first | exact Or.inl rfl | exact Or.inr (Or.inl rfl) | exact Or.inr (Or.inr rfl)) (hd : (x == ("__debug__" : Str)) = false := by decide) (hcd : (x == ("__classdict__" : Str)) = false := by decide)
    (hsw : swapsWith (.Call (.Attribute (.Name x p) "pop" apos) [] [] pos) none pos2.line X.env = pure false := by rfl)
    (hbase : attributeBase (.Name x p) "pop" X.env (eval (.Name x p) X.env) = eval (.Name x p) X.env := by rfl) (hline : (apos.endLine == pos.line) = true := by rfl) :
    PS X (.Expr (.Call (.Attribute (.Name x p) "pop" apos) [] [] pos) pos2) (tS X.K X.mg a (sPop i)) :=
  (ps_expr (pe_bm0 PySem.F.plainAttrs_list PySem.F.slot_list_pop PySem.F.type_list_pop mt_pop (pe_var hN hv hd hcd) hbase hline) hsw).imp fun Dn σ H ⟨ρ, G, hR, q⟩ => by
    obtain ⟨xs, hx, q⟩ := ow_post q
    obtain ⟨l, vs, e1, h0, hg, hh, r⟩ := R.owL hR (owL_eq hx)
    obtain ⟨hz, q⟩ := gd_post q
    have hl : vs.length - 1 < vs.length := by
      have : 0 < xs.length := by cases xs with | nil => exact absurd rfl hz | cons _ _ => simp
      rw [r.len]; omega
    have rd : Reps X.K G vs.dropLast xs.dropLast := by
      rw [List.dropLast_eq_take, List.dropLast_eq_take, r.len]; exact r.take _
    exact ⟨.ref l, e1, Or.inl ⟨rfl, vs, SqL.of hh⟩, l, vs, _, rfl, rfl, hh, List.getElem?_eq_getElem hl, q σ G _ (R.write hR (owL_eq hx) e1 (.lst rd)) (Same.refl _)⟩
theorem reps_erase {K : PySem.W.Frag} {G : Hp} : ∀ {ds : List D} {vs : List V} (n : Nat), Reps K G vs ds → Reps K G (vs.eraseIdx n) (ds.eraseIdx n)
  | [], _, n, .nil => by simpa using Reps.nil
  | d :: ds, _, 0, .cons h r => r
  | d :: ds, _, n + 1, .cons h r => .cons h (reps_erase n r)
theorem s_popAt (i : Nat) (h : PE X e (tD X.K X.mg a f)) (hN : X.N[i]? = some x := by rfl) (hv : Vis X.env.scope x := by first | exact Or.inl rfl | exact Or.inr (Or.inl rfl) | exact Or.inr (Or.inr rfl)) (hd : (x == ("__debug__" : Str)) = false := by decide) (hcd : (x == ("__classdict__" : Str)) = false := by decide)
    (hsw : swapsWith (.Call (.Attribute (.Name x p) "pop" apos) [e] [] pos) none pos2.line X.env = pure false := by rfl)
    (hbase : attributeBase (.Name x p) "pop" X.env (eval (.Name x p) X.env) = eval (.Name x p) X.env := by rfl)
    (hfew : ((backTo pos (starEach (e :: []) X.env)).all (fun x => !x.1) && (backToKw pos (keywordEach [] X.env)).all (fun x => x.1.isSome) && decide ((e :: ([] : List Expr)).length + ([] : List Keyword).length + (if ([] : List Keyword).isEmpty then 0 else 1) < 30)) = true := by rfl)
    (hline : (apos.endLine == pos.line) = true := by rfl) (hs : starEach (e :: []) X.env = (false, eval e X.env) :: starEach [] X.env := by rfl) (hplain : (backTo pos (starEach [] X.env)).any (·.1) = false := by rfl) :
    PS X (.Expr (.Call (.Attribute (.Name x p) "pop" apos) [e] [] pos) pos2) (tS X.K X.mg a (sPopAt i f)) :=
  (ps_expr (pe_bm PySem.F.plainAttrs_list PySem.F.slot_list_pop PySem.F.type_list_pop mt_popAt (pe_var hN hv hd hcd) (pa_cons h pa_nil hs) hbase hfew hline hs hplain) hsw).imp fun Dn σ H ⟨ρ, G, hR, q⟩ => by
    obtain ⟨xs, hx, q⟩ := ow_post q
    obtain ⟨l, vs, e1, h0, hg, hh, r⟩ := R.owL hR (owL_eq hx)
    refine ⟨.ref l, e1, Or.inl ⟨rfl, vs, SqL.of hh⟩, ρ, G, hR, (ofR_post hR q).imp fun d _ q1 v G' H' gr rd => ?_⟩
    unfold popAt at q1
    cases rd with
    | int n =>
      obtain ⟨⟨h1, h2, h3⟩, q1⟩ := gd_post q1
      have hn : n.toNat < vs.length := by rw [r.len]; omega
      have e2 : seqIndex? n vs.length = some n.toNat := PySem.StrLaws.seqIndex_nonneg h1 (by rw [r.len]; exact h2)
      exact ⟨l, vs, n, n.toNat, _, rfl, rfl, gr.h _ _ hh, by omega, by omega, e2, List.getElem?_eq_getElem hn, q1 σ G' _ (R.write (R.grow hR gr) (owL_eq hx) e1 (.lst (reps_erase _ (Reps.mono gr.g _ _ r)))) gr.g⟩
    | _ => exact q1.elim
theorem s_put (i : Nat) (hf : PE X b (tD X.K X.mg a f)) (hg : PE X e (tD X.K X.mg a g)) (hN : X.N[i]? = some x := by rfl) (hv : Vis X.env.scope x := by first | exact Or.inl rfl | exact Or.inr (Or.inl rfl) | exact Or.inr (Or.inr rfl)) (hd : (x == ("__debug__" : Str)) = false := by decide) (hcd : (x == ("__classdict__" : Str)) = false := by decide)
    (hs : swapsWithSole [.Subscript (.Name x p) b pos] e pos2.line X.env = pure false := by rfl) (hw : swappedStores [.Subscript (.Name x p) b pos] e X.env = pure none := by rfl)
    (h1 : (assignEach [.Subscript (.Name x p) b pos] X.env).map (·.2) = [assign (.Subscript (.Name x p) b pos) X.env] := by rfl)
    (ha : ∀ v, assign (.Subscript (.Name x p) b pos) X.env v = (do let ov ← holding [v] (eval (.Name x p) X.env); let iv ← holding [v, ov] (eval b X.env); standAt pos; holding [v, ov, iv] (setItem ov iv v); release [v, ov, iv] []) := by intro _; rfl) :
    PS X (.Assign [.Subscript (.Name x p) b pos] e pos2) (tS X.K X.mg a (sPut i f g)) :=
  (ps_asg hg (pg_sub (pe_var hN hv hd hcd) hf set_list ha) hs hw h1).imp fun Dn σ H ⟨ρ, G, hR, q⟩ => by
    obtain ⟨xs, hx, q⟩ := ow_post q
    refine ⟨ρ, G, hR, (ofR_post hR q).imp fun d _ q1 v G1 H1 g1 r1 => ?_⟩
    have hR1 := R.grow hR g1
    obtain ⟨l, vs, e1, h0, hg, hh, r⟩ := R.owL hR1 (owL_eq hx)
    refine ⟨.ref l, e1, ρ, G1, hR1, (ofR_post (a := a) hR1 (Post.mono g1.g q1)).imp fun n _ q2 u G2 H2 g2 r2 => ?_⟩
    unfold putAt at q2
    cases r2 with
    | int n =>
      cases hj : ixN xs.length n with
      | none => simp only [hj] at q2; exact q2.elim
      | some j =>
        simp only [hj] at q2
        exact ⟨l, vs, n, j, rfl, rfl, g2.h _ _ hh, by rw [r.len]; exact hj, q2 σ G2 _ (R.write (R.grow hR1 g2) (owL_eq hx) e1 (.lst (Reps.set (Rep.mono g2.g _ _ r1) _ (Reps.mono g2.g _ _ r)))) g2.g⟩
    | _ => exact q2.elim
theorem d_ixO (i : Nat) (hf : PE X b (tD X.K X.mg a f)) (hp : PlainIx b) (hN : X.N[i]? = some x := by rfl) (hv : Vis X.env.scope x := by first | exact Or.inl rfl | exact Or.inr (Or.inl rfl) | exact Or.inr (Or.inr rfl)) (hd : (x == ("__debug__" : Str)) = false := by decide) (hcd : (x == ("__classdict__" : Str)) = false := by decide) :
    PE X (.Subscript (.Name x p) b pos) (tD X.K X.mg a (ixO i f)) :=
  (pe_ix ix_list (pe_var hN hv hd hcd) hf hp).imp fun σ H Q ⟨ρ, G, hR, q⟩ => by
    unfold ixO at q
    cases hx : owL ρ i with
    | exc ex => exact absurd hx owL_nox
    | stuck => rw [hx] at q; exact q.elim
    | ok xs =>
      rw [hx] at q
      obtain ⟨l, vs, e1, h0, hg, hh, r⟩ := R.owL hR (owL_eq hx)
      refine ⟨.ref l, e1, ρ, G, hR, (PostE.bind (r := f ρ) q).imp fun n _ q1 v G' H' g1 r1 => ?_⟩
      cases r1 with
      | int n =>
        cases hj : atI xs n with
        | none => simp only [hj] at q1; exact q1.elim
        | some d =>
          simp only [hj] at q1
          obtain ⟨u, e2, r2⟩ := (Reps.mono g1.g _ _ r).atI hj
          exact ⟨l, vs, n, u, rfl, rfl, SqL.of (g1.h _ _ hh), e2, q1 u G' H' g1 r2⟩
      | _ => exact q1.elim
theorem bor_wn {σ : L2.St} {G H : Hp} {l : Addr} {vs : List V} {ex : Exc} (s : Same G H) (hg : G l = none) (hs : sclX ex = true) (w : Wn X.K X.mg a σ G H ex) : Wn X.K X.mg a σ (upd G l (.lst vs)) H ex := fun d G' H' g' xr => by
  refine w d _ H' (less_grow s hg g') ?_
  obtain ⟨us, h1, h2⟩ := xr
  exact ⟨us, h1, scl_reps (g'.g _ _ upd_same) less_keep _ _ hs h2⟩
theorem d_bor (i : Nat) (h : PE X e (tD X.K X.mg a f)) : PE X e (tD X.K X.mg a (borE i f)) :=
  h.imp fun σ H Q ⟨ρ, G, hR, q⟩ => by
    unfold borE at q
    cases hx : owL ρ i with
    | exc ex => exact absurd hx owL_nox
    | stuck => rw [hx] at q; exact q.elim
    | ok xs =>
      simp only [hx] at q
      obtain ⟨l, vs, e1, hg, hh, r, sg, hR'⟩ := R.frz hR (owL_eq hx)
      refine ⟨ρ.set i (.sh (.lst xs)), _, hR', ?_⟩
      cases hf : f (ρ.set i (.sh (.lst xs))) with
      | stuck => simp only [hf] at q; exact q.elim
      | exc ex =>
        simp only [hf] at q
        obtain ⟨h1, q⟩ := PostE.gd q
        exact bor_wn (R.sub hR) hg h1 q
      | ok d =>
        simp only [hf] at q
        obtain ⟨h1, q⟩ := PostE.gd q
        exact fun v G' H' g' r' => q v _ H' (less_grow (R.sub hR) hg g') (scl_rep (g'.g _ _ upd_same) less_keep _ _ h1 r')
theorem t_bor {t : En → Res Bool} (i : Nat) (h : PT X e (tT X.K X.mg a t)) : PT X e (tT X.K X.mg a (borT i t)) :=
  h.imp fun σ H Q ⟨ρ, G, hR, q⟩ => by
    unfold borT at q
    cases hx : owL ρ i with
    | exc ex => exact absurd hx owL_nox
    | stuck => rw [hx] at q; exact q.elim
    | ok xs =>
      simp only [hx] at q
      obtain ⟨l, vs, e1, hg, hh, r, sg, hR'⟩ := R.frz hR (owL_eq hx)
      refine ⟨ρ.set i (.sh (.lst xs)), _, hR', ?_⟩
      cases hf : t (ρ.set i (.sh (.lst xs))) with
      | stuck => simp only [hf] at q; exact q.elim
      | exc ex =>
        simp only [hf] at q
        obtain ⟨h1, q⟩ := PostE.gd q
        exact bor_wn (R.sub hR) hg h1 q
      | ok d =>
        simp only [hf] at q
        exact fun G' H' g' => q G H' ⟨Same.refl _, g'.h, (R.sub hR).trans g'.h, fun _ h _ => h⟩
/-- .. a new list made while a list of one's own is read -/
def borO (i : Nat) (f : En → Res (List D)) : En → Res (List D) := fun ρ => match owL ρ i with
  | .ok xs => (match f (ρ.set i (.sh (.lst xs))) with
    | .ok ds => gd (sclA ds = true) (.ok ds)
    | .exc e => gd (sclX e = true) (.exc e)
    | .stuck => .stuck)
  | _ => .stuck
theorem o_bor {fo : En → Res (List D)} (i : Nat) (h : PE X e (tO X.K X.mg a fo)) : PE X e (tO X.K X.mg a (borO i fo)) :=
  h.imp fun σ H Q ⟨ρ, G, hR, q⟩ => by
    unfold borO at q
    cases hx : owL ρ i with
    | exc ex => exact absurd hx owL_nox
    | stuck => rw [hx] at q; exact q.elim
    | ok xs =>
      simp only [hx] at q
      obtain ⟨l, vs, e1, hg, hh, r, sg, hR'⟩ := R.frz hR (owL_eq hx)
      refine ⟨ρ.set i (.sh (.lst xs)), _, hR', ?_⟩
      cases hf : fo (ρ.set i (.sh (.lst xs))) with
      | stuck => simp only [hf] at q; exact q.elim
      | exc ex =>
        simp only [hf] at q
        obtain ⟨h1, q⟩ := PostE.gd q
        exact bor_wn (R.sub hR) hg h1 q
      | ok d =>
        simp only [hf] at q
        obtain ⟨h1, q⟩ := PostE.gd q
        exact fun l2 us G' H' g' n1 n2 e2 r' => q l2 us _ H' (less_grow (R.sub hR) hg g') n1 (by unfold less; rw [n2, ite_self]) e2 (scl_reps (g'.g _ _ upd_same) less_keep _ _ h1 r')
end
end PL

set_option maxRecDepth 100000
set_option maxHeartbeats 1000000
namespace PL
open PySem PySem.Spec PyProof.Rows L2

/-! ## dicts of one's own, keys ints and texts -/
def keyOf : D → Res Key | .int i => .ok (.inl i) | .str s => .ok (.inr s) | _ => .stuck
def valD (kvs : List (Key × D)) (k : Key) : Option D := (kvs.find? fun kv => decide (kv.1 = k)).map (·.2)
def putD (kvs : List (Key × D)) (k : Key) (d : D) : List (Key × D) := if kvs.any (fun kv => decide (kv.1 = k)) then kvs.map fun kv => if kv.1 = k then (kv.1, d) else kv else kvs ++ [(k, d)]
def owK (ρ : En) (i : Nat) : Res (List (Key × D)) := match ρ[i]? with | some (.ow (.dk xs)) => .ok xs | _ => .stuck
theorem owK_eq {ρ : En} {i : Nat} {xs : List (Key × D)} (h : owK ρ i = .ok xs) : ρ[i]? = some (.ow (.dk xs)) := by
  unfold owK at h
  cases e : ρ[i]? with
  | none => rw [e] at h; cases h
  | some s => cases s with
    | no => rw [e] at h; cases h
    | tmp _ => rw [e] at h; cases h
    | sh d => rw [e] at h; cases h
    | ow o => cases o with
      | lst k => rw [e] at h; cases h
      | dk ys => rw [e] at h; cases h; rfl
theorem owK_nox {ρ : En} {i : Nat} {e : Exc} : owK ρ i ≠ .exc e := by unfold owK; split <;> (intro z; cases z)
theorem owK_post {K : PySem.W.Frag} {mg : Str → Option Value} {a : Amb} {Dn : Ends} {G : Hp} {ρ : En} {i : Nat} {k : List (Key × D) → Out} (h : Post K mg a Dn G (ofR ρ (owK ρ i) k)) : ∃ xs, owK ρ i = .ok xs ∧ Post K mg a Dn G (k xs) := by
  cases e : owK ρ i with
  | ok xs => rw [e] at h; exact ⟨xs, rfl, h⟩
  | exc ex => exact absurd e owK_nox
  | stuck => rw [e] at h; exact h.elim
theorem kreps_val {K : PySem.W.Frag} {G : Hp} {k : Key} : ∀ {kvs : List (Key × V)} {kds : List (Key × D)}, KReps K G kvs kds → (valV kvs k = none ∧ valD kds k = none) ∨ ∃ v d, valV kvs k = some v ∧ valD kds k = some d ∧ Rep K G v d
  | _, _, .nil => .inl ⟨rfl, rfl⟩
  | (k0, v) :: r, (_, d) :: ds, .cons h t => by
    by_cases e : k0 = k
    · exact .inr ⟨v, d, by simp [valV, e], by simp [valD, e], h⟩
    · have e1 : valV ((k0, v) :: r) k = valV r k := by simp [valV, List.find?_cons, e]
      have e2 : valD ((k0, d) :: ds) k = valD ds k := by simp [valD, List.find?_cons, e]
      rw [e1, e2]
      exact kreps_val t
theorem kreps_any {K : PySem.W.Frag} {G : Hp} {k : Key} : ∀ {kvs : List (Key × V)} {kds : List (Key × D)}, KReps K G kvs kds → (kvs.any fun kv => decide (kv.1 = k)) = kds.any fun kv => decide (kv.1 = k)
  | _, _, .nil => rfl
  | (k0, v) :: r, (_, d) :: ds, .cons h t => by simp only [List.any_cons, kreps_any t]
theorem kreps_len {K : PySem.W.Frag} {G : Hp} : ∀ {kvs : List (Key × V)} {kds : List (Key × D)}, KReps K G kvs kds → kvs.length = kds.length
  | _, _, .nil => rfl
  | (k0, v) :: r, (_, d) :: ds, .cons h t => by simp [kreps_len t]
theorem kreps_map {K : PySem.W.Frag} {G : Hp} {k : Key} {v0 : V} {d0 : D} (q : Rep K G v0 d0) : ∀ {kvs : List (Key × V)} {kds : List (Key × D)}, KReps K G kvs kds → KReps K G (kvs.map fun kv => if kv.1 = k then (kv.1, v0) else kv) (kds.map fun kv => if kv.1 = k then (kv.1, d0) else kv)
  | _, _, .nil => .nil
  | (k0, v) :: r, (_, d) :: ds, .cons h t => by
    simp only [List.map_cons]
    by_cases e : k0 = k
    · rw [if_pos e, if_pos e]; exact .cons q (kreps_map q t)
    · rw [if_neg e, if_neg e]; exact .cons h (kreps_map q t)
theorem kreps_snoc {K : PySem.W.Frag} {G : Hp} {k : Key} {v0 : V} {d0 : D} (q : Rep K G v0 d0) : ∀ {kvs : List (Key × V)} {kds : List (Key × D)}, KReps K G kvs kds → KReps K G (kvs ++ [(k, v0)]) (kds ++ [(k, d0)])
  | _, _, .nil => .cons q .nil
  | (k0, v) :: r, (_, d) :: ds, .cons h t => .cons h (kreps_snoc q t)
theorem kreps_put {K : PySem.W.Frag} {G : Hp} {k : Key} {v0 : V} {d0 : D} (q : Rep K G v0 d0) {kvs : List (Key × V)} {kds : List (Key × D)} (r : KReps K G kvs kds) : KReps K G (putK kvs k v0) (putD kds k d0) := by
  unfold putK putD
  rw [kreps_any r]
  split
  · exact kreps_map q r
  · exact kreps_snoc q r
/-- i = {} -/
def sNewK (i : Nat) : En → Out := fun ρ => .next (ρ.set i (.ow (.dk [])))
/-- i[f] = g -/
def sPutK (i : Nat) (f g : En → Res D) : En → Out := fun ρ => ofR ρ (owK ρ i) fun kvs => ofR ρ (g ρ) fun d => ofR ρ (f ρ) fun n => ofR ρ (keyOf n) fun k => ofR ρ (gd (kvs.length < sizeLine) (.ok ())) fun _ => .next (ρ.set i (.ow (.dk (putD kvs k d))))
/-- i[f], found -/
def getK (i : Nat) (f : En → Res D) : En → Res D := fun ρ => (owK ρ i).bind fun kvs => (f ρ).bind fun n => (keyOf n).bind fun k => match valD kvs k with | some d => .ok d | none => .stuck
/-- f in i -/
def inK (i : Nat) (f : En → Res D) : En → Res D := fun ρ => (owK ρ i).bind fun kvs => (f ρ).bind fun n => (keyOf n).bind fun k => .ok (.bl (valD kvs k).isSome)
theorem keyOf_rep {K : PySem.W.Frag} {G : Hp} {v : V} {d : D} {k : Key} (r : Rep K G v d) (h : keyOf d = .ok k) : v = kV k := by
  cases r <;> first | (cases h; rfl) | cases h
section
variable {X : Cx} {a : Amb} {e b : Expr} {es : List Expr} {f g : En → Res D} {fs : En → Res (List D)} {pos p pos2 apos : Pos} {x : Str} {i k : Nat}
theorem s_newK (i : Nat) (hnd : X.N.Nodup) (hN : X.N[i]? = some x := by rfl) (hx : Loc X.env.scope x := by first | exact Or.inl rfl | exact Or.inr rfl) (hfn : X.fn x = true ∨ X.env.scope.names.lookup x = some .local := by first | exact .inl rfl | exact .inr rfl)
    (hs : swapsWith (.Dict [] [] pos) (some (.Name x p)) pos2.line X.env = pure false := by rfl) : PS X (.Assign [.Name x p] (.Dict [] [] pos) pos2) (tS X.K X.mg a (sNewK i)) :=
  (ps_set hnd hN hx pe_dnewK hs hfn).imp fun Dn σ H ⟨ρ, G, hR, q⟩ => fun y hy => q _ G _ (R.setNew hR i (Grow.own (R.sub hR) hy) hy ((R.sub hR).free hy) upd_same (.dk .nil)) (Same.refl _)
theorem s_putK (i : Nat) (ge : GE k X a) (hf : PE X b (tD X.K X.mg a f)) (hg : PE X e (tD X.K X.mg a g)) (hN : X.N[i]? = some x := by rfl) (hv : Vis X.env.scope x := by first | exact Or.inl rfl | exact Or.inr (Or.inl rfl) | exact Or.inr (Or.inr rfl)) (hd : (x == ("__debug__" : Str)) = false := by decide) (hcd : (x == ("__classdict__" : Str)) = false := by decide)
    (hs : swapsWith e (some (.Subscript (.Name x p) b pos)) pos2.line X.env = pure false := by rfl) : PS X (.Assign [.Subscript (.Name x p) b pos] e pos2) (tS X.K X.mg a (sPutK i f g)) :=
  (ps_dput (hu_of ge.hr) (pe_var hN hv hd hcd) hf hg hs).imp fun Dn σ H ⟨ρ, G, hR, q⟩ => by
    obtain ⟨xs, hx, q⟩ := owK_post q
    refine ⟨ρ, G, hR, (ofR_post hR q).imp fun d _ q1 v G1 H1 g1 r1 => ?_⟩
    have hR1 := R.grow hR g1
    obtain ⟨l, vs, e1, h0, hg, hh, r⟩ := R.owK hR1 (owK_eq hx)
    refine ⟨.ref l, e1, ρ, G1, hR1, (ofR_post (a := a) hR1 (Post.mono g1.g q1)).imp fun n _ q2 u G2 H2 g2 r2 => ?_⟩
    cases hk : keyOf n with
    | stuck => rw [hk] at q2; exact q2.elim
    | exc ex => cases n <;> cases hk
    | ok ky =>
      rw [hk] at q2
      obtain ⟨hz, q2⟩ := gd_post q2
      rw [keyOf_rep r2 hk]
      have rr := KReps.mono g2.g r
      exact ⟨l, _, rfl, DPut.k (k := ky) (g2.h _ _ hh) (by rw [kreps_len rr]; exact hz), q2 σ G2 _ (R.write (R.grow hR1 g2) (owK_eq hx) e1 (.dk (kreps_put (Rep.mono g2.g _ _ r1) rr))) g2.g⟩
theorem d_getK (i : Nat) (ge : GE k X a) (hf : PE X b (tD X.K X.mg a f)) (hp : NoSl b) (hN : X.N[i]? = some x := by rfl) (hv : Vis X.env.scope x := by first | exact Or.inl rfl | exact Or.inr (Or.inl rfl) | exact Or.inr (Or.inr rfl)) (hd : (x == ("__debug__" : Str)) = false := by decide) (hcd : (x == ("__classdict__" : Str)) = false := by decide) :
    PE X (.Subscript (.Name x p) b pos) (tD X.K X.mg a (getK i f)) :=
  (pe_dget (hu_of ge.hr) (pe_var hN hv hd hcd) hf hp).imp fun σ H Q ⟨ρ, G, hR, q⟩ => by
    unfold getK at q
    cases hx : owK ρ i with
    | exc ex => exact absurd hx owK_nox
    | stuck => rw [hx] at q; exact q.elim
    | ok xs =>
      rw [hx] at q
      obtain ⟨l, vs, e1, h0, hg, hh, r⟩ := R.owK hR (owK_eq hx)
      refine ⟨.ref l, e1, ρ, G, hR, (PostE.bind (r := f ρ) q).imp fun n _ q1 v G' H' g1 r1 => ?_⟩
      cases hk : keyOf n with
      | stuck => rw [hk] at q1; exact q1.elim
      | exc ex => cases n <;> cases hk
      | ok ky =>
        rw [hk] at q1
        rcases kreps_val (k := ky) (KReps.mono g1.g r) with ⟨a1, a2⟩ | ⟨w, d, a1, a2, a3⟩
        · simp only [Res.bind, a2] at q1; exact q1.elim
        · simp only [Res.bind, a2] at q1
          rw [keyOf_rep r1 hk]
          exact ⟨l, w, rfl, by rw [← a1]; exact DGet.k (g1.h _ _ hh), q1 w G' H' g1 a3⟩
end

/-! ## a module's constants -/
section
variable {X : Cx} {a : Amb} {pos : Pos} {x : Str}
theorem d_gint {i : Int} (h : ∃ t, X.mg x = some (.int i t)) (hg : Gl X x := by rfl) (hd : (x == ("__debug__" : Str)) = false := by decide) : PE X (.Name x pos) (tD X.K X.mg a (eC (.int i))) := by
  obtain ⟨t, h⟩ := h
  exact d_glob (v := .int i) h ⟨t, rfl⟩ (fun _ => .int i) hg hd
theorem d_gstr {z : Str} (h : ∃ t, X.mg x = some (.str z t)) (hg : Gl X x := by rfl) (hd : (x == ("__debug__" : Str)) = false := by decide) : PE X (.Name x pos) (tD X.K X.mg a (eC (.str z))) := by
  obtain ⟨t, h⟩ := h
  exact d_glob (v := .str z) h ⟨t, rfl⟩ (fun _ => .str z) hg hd
theorem d_gref {d : D} (h : ∃ p, X.mg x = some (.ref p) ∧ ∀ G, Rep X.K G (.ref p) d) (hg : Gl X x := by rfl) (hd : (x == ("__debug__" : Str)) = false := by decide) : PE X (.Name x pos) (tD X.K X.mg a (eC d)) := by
  obtain ⟨p, h, q⟩ := h
  exact d_glob (v := .ref p) h rfl q hg hd
end

/-! ## new lists by operators and slices -/
def catO : D → D → Res (List D) | .lst a, .lst b => gd (a.length + b.length ≤ sizeLine) (.ok (a ++ b)) | _, _ => .stuck
def repO : D → D → Res (List D) | .lst a, .int b => gd (-(2 ^ 63) ≤ b ∧ b < 2 ^ 63 ∧ a.length * b.toNat ≤ sizeLine) (.ok (List.replicate b.toNat a).flatten) | _, _ => .stuck
def binO (o : D → D → Res (List D)) (f g : En → Res D) : En → Res (List D) := fun ρ => (f ρ).bind fun x => (g ρ).bind fun y => o x y
def cutO : D → Option Int → Option Int → Res (List D) | .lst xs, lo, hi => .ok (cutG xs lo hi) | _, _, _ => .stuck
def sliceO (f : En → Res D) (l h : En → Res (Option Int)) : En → Res (List D) := fun ρ => (f ρ).bind fun x => (l ρ).bind fun lo => (h ρ).bind fun hi => cutO x lo hi
section
variable {X : Cx} {a : Amb} {e b : Expr} {f g : En → Res D} {pos : Pos}
theorem o_cat (hf : PE X e (tD X.K X.mg a f)) (hg : PE X b (tD X.K X.mg a g)) : PE X (.BinOp e .Add b pos) (tO X.K X.mg a (binO catO f g)) :=
  (pe_op op_cat hf hg).imp fun σ H Q ⟨ρ, G, hR, q⟩ => ⟨ρ, G, hR, (PostE.bind q).imp fun x _ q1 v1 G1 H1 g1 r1 => ⟨ρ, G1, R.grow hR g1, ((PostE.bind q1).grow g1).imp fun y _ q2 v2 G2 H2 g2 r2 => by
    have r1' := Rep.mono g2.g _ _ r1
    cases r1' with
    | @lst p vs ds h1 s1 => cases r2 with
      | @lst p2 us es h2 s2 =>
        obtain ⟨hz, q3⟩ := PostE.gd q2
        exact ⟨p, p2, vs, us, rfl, rfl, g2.s _ _ h1, g2.s _ _ h2, by rw [s1.len, s2.len]; exact hz, fun l hl => q3 l _ G2 _ ((g1.trans g2).trans (Grow.own g2.s hl)) ((g1.trans g2).h.free hl) (g2.s.free hl) upd_same (s1.app s2)⟩
      | _ => exact q2.elim
    | _ => cases r2 <;> exact q2.elim⟩⟩
theorem o_rep (hf : PE X e (tD X.K X.mg a f)) (hg : PE X b (tD X.K X.mg a g)) : PE X (.BinOp e .Mult b pos) (tO X.K X.mg a (binO repO f g)) :=
  (pe_op op_rep hf hg).imp fun σ H Q ⟨ρ, G, hR, q⟩ => ⟨ρ, G, hR, (PostE.bind q).imp fun x _ q1 v1 G1 H1 g1 r1 => ⟨ρ, G1, R.grow hR g1, ((PostE.bind q1).grow g1).imp fun y _ q2 v2 G2 H2 g2 r2 => by
    have r1' := Rep.mono g2.g _ _ r1
    cases r1' with
    | @lst p vs ds h1 s1 => cases r2 with
      | int n =>
        obtain ⟨⟨b1, b2, b3⟩, q3⟩ := PostE.gd q2
        exact ⟨p, n, vs, rfl, rfl, g2.s _ _ h1, b1, b2, by rw [s1.len]; exact b3, fun l hl => q3 l _ G2 _ ((g1.trans g2).trans (Grow.own g2.s hl)) ((g1.trans g2).h.free hl) (g2.s.free hl) upd_same (s1.rep _)⟩
      | _ => exact q2.elim
    | _ => cases r2 <;> exact q2.elim⟩⟩
theorem o_slice {lo hi : Option Expr} {l u : En → Res (Option Int)} {p2 : Pos} (hf : PE X e (tD X.K X.mg a f)) (hl : PO X lo (tP X.K X.mg a l)) (hu : PO X hi (tP X.K X.mg a u)) : PE X (.Subscript e (.Slice lo hi none p2) pos) (tO X.K X.mg a (sliceO f l u)) :=
  (pe_slice sl_list hf hl hu).imp fun σ H Q ⟨ρ, G, hR, q⟩ =>
    ⟨ρ, G, hR, (PostE.bind q).imp fun x _ q1 v G1 H1 g1 r1 => ⟨ρ, G1, R.grow hR g1, ((PostE.bind q1).grow g1).imp fun lo' _ q2 G2 H2 g2 =>
      ⟨ρ, G2, R.grow (R.grow hR g1) g2, ((PostE.bind q2).grow (g1.trans g2)).imp fun hi' _ q3 G3 H3 g3 => by
        have r3 := Rep.mono (g2.g.trans g3.g) _ _ r1
        have gg := (g1.trans g2).trans g3
        cases r3 with
        | @lst p vs ds h1 r => exact ⟨p, vs, rfl, SqL.of (g3.s _ _ h1), fun l' hl' => q3 l' _ _ _ (gg.trans (Grow.own g3.s hl')) (gg.h.free hl') (g3.s.free hl') upd_same (r.cut lo' hi')⟩
        | _ => exact q3.elim⟩⟩⟩
end
/-- what is never come to -/
def sNever : En → Out := fun _ => .stuck
theorem s_never {X : Cx} {a : Amb} {sts : List Stmt} : PSs X sts (tS X.K X.mg a sNever) := pss_never.imp fun Dn σ H ⟨ρ, G, hR, q⟩ => q.elim

/-! ## n op= e, ints -/
def sAug (i : Nat) (o : Int → Int → Int) (f : En → Res D) : En → Out := fun ρ => match ρ[i]? with
  | some (.sh (.int n)) => ofR ρ (f ρ) fun d => (match d with | .int m => .next (ρ.set i (.sh (.int (o n m)))) | _ => .stuck)
  | _ => .stuck
section
variable {X : Cx} {a : Amb} {e : Expr} {f : En → Res D} {pos p : Pos} {x : Str}
theorem s_aug {op : Operator} {o : Int → Int → Int} (ho : PIp X op (ipI o)) (i : Nat) (hnd : X.N.Nodup) (hf : PE X e (tD X.K X.mg a f)) (hN : X.N[i]? = some x := by rfl) (hx : Loc X.env.scope x := by first | exact Or.inl rfl | exact Or.inr rfl)
    (hfn : X.fn x = true ∨ X.env.scope.names.lookup x = some .local := by first | exact .inl rfl | exact .inr rfl) : PS X (.AugAssign (.Name x p) op e pos) (tS X.K X.mg a (sAug i o f)) :=
  (ps_aug hnd hN hx hf ho hfn).imp fun Dn σ H ⟨ρ, G, hR, q⟩ => by
    unfold sAug at q
    cases e1 : ρ[i]? with
    | none => rw [e1] at q; exact q.elim
    | some s => cases s with
      | no => rw [e1] at q; exact q.elim
      | tmp _ => rw [e1] at q; exact q.elim
      | ow _ => rw [e1] at q; exact q.elim
      | sh d =>
        rw [e1] at q
        cases d with
        | int n =>
          obtain ⟨v, e2, r⟩ := R.sh hR e1
          cases r
          refine ⟨.int n, e2, ρ, G, hR, (ofR_post hR q).imp fun d _ q1 v G' H' g r => ?_⟩
          cases r with
          | int m => exact ⟨n, m, rfl, rfl, q1 _ G' H' (R.setSh (R.grow hR g) i (.int _)) g.g⟩
          | _ => exact q1.elim
        | _ => exact q.elim
end
end PL

set_option maxRecDepth 100000
set_option maxHeartbeats 1000000
namespace PL
open PySem PySem.Spec PyProof.Rows L2

theorem cd_str {X : Cx} : CallD X (.type "str") strL := ⟨_, (call_str_int).or SkE.call_str_str, fun G H vs ds z Q s r h q => by
  unfold strL at h
  split at h
  · obtain ⟨v, rfl, r1⟩ := reps1 r
    obtain ⟨hz, h⟩ := gd_ok h
    cases h; cases r1
    exact .inl ⟨_, rfl, hz, q _ G H (Grow.refl s) (.str _)⟩
  · obtain ⟨v, rfl, r1⟩ := reps1 r
    cases h; cases r1
    exact .inr ⟨_, rfl, q _ G H (Grow.refl s) (.str _)⟩
  · cases h⟩
/-- a, b = e -/
def sAsg (t : D → En → Res En) (f : En → Res D) : En → Out := fun ρ => ofR ρ (f ρ) fun d => match t d ρ with | .ok ρ' => .next ρ' | _ => .stuck
theorem s_asg {X : Cx} {a : Amb} {tg e : Expr} {t : D → En → Res En} {f : En → Res D} {pos : Pos} (he : PE X e (tD X.K X.mg a f)) (hg : PG X tg (tG X.K a t)) (hs : swapsWithSole [tg] e pos.line X.env = pure false := by rfl) (hw : swappedStores [tg] e X.env = pure none := by rfl)
    (h1 : (assignEach [tg] X.env).map (·.2) = [assign tg X.env] := by rfl) : PS X (.Assign [tg] e pos) (tS X.K X.mg a (sAsg t f)) :=
  (ps_asg he hg hs hw h1).imp fun Dn σ H ⟨ρ, G, hR, q⟩ => ⟨ρ, G, hR, (ofR_post hR q).imp fun d _ q1 v G' H' g r => by
    cases ht : t d ρ with
    | ok ρ' => simp only [ht] at q1; exact ⟨ρ, G', d, ρ', R.grow hR g, r, ht, fun σ' hR' => q1 σ' G' H' hR' g.g⟩
    | exc _ => simp only [ht] at q1; exact q1.elim
    | stuck => simp only [ht] at q1; exact q1.elim⟩
/-- of parts of the top: the callee's fact as it is asked for -/
abbrev Fx (P : Program) (K : PySem.W.Frag) (mg : Str → Option Value) (x qual : Str) (st : Stmt) (ps : List Str) : Prop := ∃ f fd, Fun K x qual st f fd ∧ mg x = some (.ref f) ∧ Binds K fd ps []
end PL

set_option maxRecDepth 100000
set_option maxHeartbeats 1000000
namespace PL
open PySem PySem.Spec PyProof.Rows L2
/-! ## the end: facts of the top -/
section
variable {P : Program} {w : World} {K : PySem.W.Frag} {mg : Str → Option Value} {base h : Heap}
theorem fx_mk (X : K.In h) (G : h.Ns mainGlobals mg) {x qual : Str} {st : Stmt} {f : Addr} {oc : Value} {od an : Option Addr} {osl : Array (Option Value)} {kV doc pm cdv ct : Value} {ps : List Str}
    (a : PySem.W.nsIn K mainGlobals x = some (some (.ref f))) (l : K.lookup f = some ⟨oc, od, .func (PySem.W.fnOf x qual (defArgs st) (defBody st) (defScope st) .none kV doc pm an cdv ct), osl⟩) (c : PySem.W.codeIn K cdv qual = true) (k : PySem.W.keepIn K (.ref f) = true)
    (b : ∀ (kV doc pm : Value) (an : Option Addr) (cdv ct : Value) (us : List Value), us.length = ps.length → bindArgs (PySem.W.fnOf x qual (defArgs st) (defBody st) (defScope st) .none kV doc pm an cdv ct) ⟨us, []⟩ = pure (ps.zip us)) : Fx P K mg x qual st ps :=
  ⟨f, _, fun_mk l c k, PySem.W.mg_of X G a, (fun_mk l c k).binds b⟩
/-- a method's text in a class's -/
def inCls (s : Stmt) (j : Nat) : Stmt := match s with
  | .ClassDef _ _ _ b _ _ _ _ _ _ _ => b.getD j (.Pass ⟨0, 0, 0, 0⟩)
  | _ => .Pass ⟨0, 0, 0, 0⟩
theorem ext1 (X : K.In h) (G : h.Ns mainGlobals mg) {x qual fl : Str} {st : Stmt} {C f : Addr} {oc : Value} {od an : Option Addr} {osl : Array (Option Value)} {kV doc pm cdv ct : Value}
    {nm qn : Str} {N : Addr} {bs bm : List Value} {sn : List Str} {sub : List Value} {ab : Bool} {col : Option Bool} {dd : Option Addr} {m0 m1 m2 m3 m5 : Option Value}
    (a : PySem.W.nsIn K mainGlobals x = some (some (.ref C))) (xL : K.lookup C = some (excClassObj nm qn C N bs bm true sn sub ab col dd m0 m1 m2 m3 m5 "ValueError.__new__")) (rv : PySem.HandSPX.refsVE bm = true)
    (sa : PySem.W.findIn K (.ref C) "__setattr__" = some (some (.builtin "object.__setattr__"))) (ga : PySem.W.findIn K (.ref C) "__getattribute__" = some (some (.builtin "BaseException.__getattribute__"))) (gg : PySem.W.findIn K (.ref C) "__getattr__" = some none)
    (n1 : PySem.W.findIn K (.ref C) fl = some none) (iC : PySem.W.findIn K (.ref C) "__init__" = some (some (.ref f))) (tI : PySem.W.typeIn K (.ref f) = some (.type "function"))
    (l : K.lookup f = some ⟨oc, od, .func (PySem.W.fnOf "__init__" qual (defArgs st) (defBody st) (defScope st) .none kV doc pm an cdv ct), osl⟩) (c : PySem.W.codeIn K cdv qual = true) (k : PySem.W.keepIn K (.ref f) = true)
    (kC : PySem.W.keepIn K (.ref C) = true) (eC : PySem.W.subIn K (.ref C) (.type "BaseException") = some true) (tC : PySem.W.typeIn K (.ref C) = some (.type "type")) (hC : PySem.W.hasDictIn K C = true)
    (S : FnScope [("self" : Str), fl] [("self" : Str), fl] (defScope st))
    (b : ∀ (kV doc pm : Value) (an : Option Addr) (cdv ct : Value) (us : List Value), us.length = [("self" : Str), fl].length → bindArgs (PySem.W.fnOf "__init__" qual (defArgs st) (defBody st) (defScope st) .none kV doc pm an cdv ct) ⟨us, []⟩ = pure ([("self" : Str), fl].zip us))
    (body : ∀ (base : Heap) (cdv : Value) (A : Around) (outer : List Env) (s : Shared) (H : Hp) (E : XK), PSs (cxOf CX0 P w K mg base [("self" : Str), fl] qual (defScope st) f cdv A outer s H E).nox (defBody st) (tOst K fl (tVar 0) (tVar 1))) :
    ∀ base : Heap, ExT P w K mg base x [fl] C := by
  intro base
  have o : OexC K C := ⟨⟨nm, qn, N, bs, bm, sn, sub, ab, col, dd, m0, m1, m2, m3, m5, xL, rv⟩, sa, eC, tC, kC⟩
  refine ⟨PySem.W.mg_of X G a, o, ⟨ga, gg, eC, hC⟩, fun g hg => ?_, f, _, iC, tI, init1 (fun_mk l c k) S o n1 (body base), (fun_mk l c k).binds b⟩
  rw [List.mem_singleton] at hg
  subst hg
  exact n1
theorem ext3 (X : K.In h) (G : h.Ns mainGlobals mg) {x qual f1 f2 f3 : Str} {st : Stmt} {C f : Addr} {oc : Value} {od an : Option Addr} {osl : Array (Option Value)} {kV doc pm cdv ct : Value}
    {nm qn : Str} {N : Addr} {bs bm : List Value} {sn : List Str} {sub : List Value} {ab : Bool} {col : Option Bool} {dd : Option Addr} {m0 m1 m2 m3 m5 : Option Value}
    (a : PySem.W.nsIn K mainGlobals x = some (some (.ref C))) (xL : K.lookup C = some (excClassObj nm qn C N bs bm true sn sub ab col dd m0 m1 m2 m3 m5 "ValueError.__new__")) (rv : PySem.HandSPX.refsVE bm = true)
    (sa : PySem.W.findIn K (.ref C) "__setattr__" = some (some (.builtin "object.__setattr__"))) (ga : PySem.W.findIn K (.ref C) "__getattribute__" = some (some (.builtin "BaseException.__getattribute__"))) (gg : PySem.W.findIn K (.ref C) "__getattr__" = some none)
    (n1 : PySem.W.findIn K (.ref C) f1 = some none) (n2 : PySem.W.findIn K (.ref C) f2 = some none) (n3 : PySem.W.findIn K (.ref C) f3 = some none) (iC : PySem.W.findIn K (.ref C) "__init__" = some (some (.ref f))) (tI : PySem.W.typeIn K (.ref f) = some (.type "function"))
    (l : K.lookup f = some ⟨oc, od, .func (PySem.W.fnOf "__init__" qual (defArgs st) (defBody st) (defScope st) .none kV doc pm an cdv ct), osl⟩) (c : PySem.W.codeIn K cdv qual = true) (k : PySem.W.keepIn K (.ref f) = true)
    (kC : PySem.W.keepIn K (.ref C) = true) (eC : PySem.W.subIn K (.ref C) (.type "BaseException") = some true) (tC : PySem.W.typeIn K (.ref C) = some (.type "type")) (hC : PySem.W.hasDictIn K C = true)
    (S : FnScope [("self" : Str), f1, f2, f3] [("self" : Str), f1, f2, f3] (defScope st))
    (b : ∀ (kV doc pm : Value) (an : Option Addr) (cdv ct : Value) (us : List Value), us.length = [("self" : Str), f1, f2, f3].length → bindArgs (PySem.W.fnOf "__init__" qual (defArgs st) (defBody st) (defScope st) .none kV doc pm an cdv ct) ⟨us, []⟩ = pure ([("self" : Str), f1, f2, f3].zip us))
    (body : ∀ (base : Heap) (cdv : Value) (A : Around) (outer : List Env) (s : Shared) (H : Hp) (E : XK), PSs (cxOf CX0 P w K mg base [("self" : Str), f1, f2, f3] qual (defScope st) f cdv A outer s H E).nox (defBody st) (tSeq (tOst K f1 (tVar 0) (tVar 1)) (tSeq (tOst K f2 (tVar 0) (tVar 2)) (tOst K f3 (tVar 0) (tVar 3))))) :
    ∀ base : Heap, ExT P w K mg base x [f1, f2, f3] C := by
  intro base
  have o : OexC K C := ⟨⟨nm, qn, N, bs, bm, sn, sub, ab, col, dd, m0, m1, m2, m3, m5, xL, rv⟩, sa, eC, tC, kC⟩
  refine ⟨PySem.W.mg_of X G a, o, ⟨ga, gg, eC, hC⟩, fun g hg => ?_, f, _, iC, tI, init3 (fun_mk l c k) S o n1 n2 n3 (body base), (fun_mk l c k).binds b⟩
  simp only [List.mem_cons, List.not_mem_nil, or_false] at hg
  rcases hg with e | e | e <;> subst e
  · exact n1
  · exact n2
  · exact n3
end
theorem cx_false {P : Program} {w : World} {H : Hp} {s : Shared} {e : Value} {s' : Shared} (h : L2.CX P w [] H s (fun _ _ _ => False) e s') : False := by
  unfold L2.CX at h
  obtain ⟨_, _, _, _, _, _, h⟩ := h
  simp_all
theorem ctup_mk {K : PySem.W.Frag} {h : Heap} {mg : Str → Option Value} (X : K.In h) (G : h.Ns mainGlobals mg) {x : Str} {p : Addr} {o : Obj} {its : Array Value} {n : Nat} {vs : List V} {ds : List D} (a : PySem.W.nsIn K mainGlobals x = some (some (.ref p))) (l : K.lookup p = some o) (hc : o.cls = .type "tuple") (hd : o.data = .seq its n)
    (hz : its.size ≤ sizeLine) (hv : Vals vs its.toList) (r : ∀ G : Hp, Reps K G vs ds) : ∃ p, mg x = some (.ref p) ∧ ∀ G : Hp, Rep K G (.ref p) (.tup ds) :=
  ⟨p, PySem.W.mg_of X G a, fun G => .tup (.inr ⟨o, its, n, l, hc, hd, hz, hv⟩) (r G)⟩
theorem cint_mk {K : PySem.W.Frag} {h : Heap} {mg : Str → Option Value} (X : K.In h) (G : h.Ns mainGlobals mg) {x : Str} {i : Int} {v : Value} {t : _} (a : PySem.W.nsIn K mainGlobals x = some (some v)) (e : v = .int i t) : ∃ t, mg x = some (.int i t) := ⟨t, e ▸ PySem.W.mg_of X G a⟩
theorem cstr_mk {K : PySem.W.Frag} {h : Heap} {mg : Str → Option Value} (X : K.In h) (G : h.Ns mainGlobals mg) {x z : Str} {v : Value} {t : _} (a : PySem.W.nsIn K mainGlobals x = some (some v)) (e : v = .str z t) : ∃ t, mg x = some (.str z t) := ⟨t, e ▸ PySem.W.mg_of X G a⟩
/-- what a law is asked -/
def spLaw (K : PySem.W.Frag) : Sp := fun vs H Q _ => ∃ (a : Addr) (ns : List Int), vs = [.ref a] ∧ SqL K H a (ns.map V.int) ∧ ns.length ≤ 63 ∧ ∀ H', Q (.bl true) H'
theorem law_sp {K : PySem.W.Frag} {mg : Str → Option Value} {m : List D → Res RV} (hm : ∀ ns : List Int, ns.length ≤ 63 → m [.scr ns] = .ok (.sh (.bl true))) {vs : List V} {H : Hp} {Q : VK} {E : XK} (h : spLaw K vs H Q E) : spOf K mg 1 m vs H Q E := by
  obtain ⟨a, ns, rfl, hS, hl, q⟩ := h
  refine ⟨rfl, H, [.scr ns], Same.refl _, .cons (.scr hS) .nil, ?_⟩
  rw [hm ns hl]
  exact fun v G' H' g r => by cases r; exact q H'
theorem end_law {P : Program} {w : World} {K : PySem.W.Frag} {mg : Str → Option Value} {h : Heap} {fa : Addr} (X : K.In h) (G : h.Ns mainGlobals mg) (hfa : mg "law" = some (.ref fa)) {st : Stmt} {f : Addr} {oc : Value} {od an : Option Addr} {osl : Array (Option Value)} {kV doc pm cdv ct : Value}
    {k : Nat} {m : List D → Res RV} (hmT : ∀ ns : List Int, ns.length ≤ 63 → m [.scr ns] = .ok (.sh (.bl true)))
    (a : PySem.W.nsIn K mainGlobals "law" = some (some (.ref f))) (l : K.lookup f = some ⟨oc, od, .func (PySem.W.fnOf "law" "law" (defArgs st) (defBody st) (defScope st) .none kV doc pm an cdv ct), osl⟩) (c : PySem.W.codeIn K cdv "law" = true) (kp : PySem.W.keepIn K (.ref f) = true)
    (b : ∀ (s : Shared) (u : Value), BindsTo s (PySem.W.fnOf "law" "law" (defArgs st) (defBody st) (defScope st) .none kV doc pm an cdv ct) ⟨[u], []⟩ [("script", u)])
    (ok : ∀ (base : Heap) (f : Addr) (fd : FuncData), Fun K "law" "law" st f fd → FnOk P w K mg base (L2.CX P w) k f fd ["script"] (spOf K mg 1 m)) :
    ∃ fd : FuncData, (∀ (s : Shared) (u : Value), BindsTo s fd ⟨[u], []⟩ [("script", u)]) ∧ ∀ base : Heap, K.In base → base.Ns mainGlobals mg → FnOk P w K mg base (L2.CX P w) k fa fd ["script"] (spLaw K) := by
  have e := hfa.symm.trans (PySem.W.mg_of X G a)
  cases e
  exact ⟨_, b, fun base _ _ => (ok base _ _ (fun_mk l c kp)).imp fun vs H Q E h => law_sp hmT h⟩
/-! the same, K told by a fact of it -/
abbrev FxK {K : PySem.W.Frag} {h : Heap} (_ : K.In h) (P : Program) (mg : Str → Option Value) (x qual : Str) (st : Stmt) (ps : List Str) : Prop := Fx P K mg x qual st ps
abbrev CtK {K : PySem.W.Frag} {h : Heap} (_ : K.In h) (mg : Str → Option Value) (x : Str) (d : D) : Prop := ∃ p, mg x = some (.ref p) ∧ ∀ G : Hp, Rep K G (.ref p) d
abbrev ExtK {K : PySem.W.Frag} {h : Heap} (_ : K.In h) (P : Program) (w : World) (mg : Str → Option Value) (x : Str) (fl : List Str) (C : Addr) : Prop := ∀ base : Heap, ExT P w K mg base x fl C
abbrev ExmK {K : PySem.W.Frag} {h : Heap} (_ : K.In h) (A C : Addr) (b : Bool) : Prop := PySem.W.exmOne K (.ref A) (.ref C) = some b
end PL

set_option maxRecDepth 100000
set_option maxHeartbeats 1000000
namespace PL
open PySem PySem.Spec PyProof.Rows L2
/-! ## texts joined and split -/
def strsOf : List D → Option (List Str)
  | [] => some []
  | .str s :: ds => (strsOf ds).map (s :: ·)
  | _ :: _ => none
def joinD (a : Str) : D → Res D
  | .lst xs => (match strsOf xs with | some ys => gd ((ys.map (·.length)).sum + ys.length * a.length ≤ 16777216) (.ok (.str (Txt.join a ys))) | none => .stuck)
  | .tup xs => (match strsOf xs with | some ys => gd ((ys.map (·.length)).sum + ys.length * a.length ≤ 16777216) (.ok (.str (Txt.join a ys))) | none => .stuck)
  | _ => .stuck
def splitO (a : Str) : D → Res (List D)
  | .str b => gd ((b.length == 0) = false ∧ a.length + 2 ≤ sizeLine) (.ok ((Txt.split a b).map .str))
  | _ => .stuck
/-- a text's method with one argument -/
def strM {α : Type} (o : Str → D → Res α) (f g : En → Res D) : En → Res α := fun ρ => (f ρ).bind fun x => match x with | .str s => (g ρ).bind fun y => o s y | _ => .stuck
theorem strsOf_reps {K : PySem.W.Frag} {G : Hp} : ∀ {ds : List D} {vs : List V} {ys : List Str}, strsOf ds = some ys → Reps K G vs ds → vs = ys.map V.str
  | [], _, _, h, .nil => by cases h; rfl
  | .str s :: ds, _, ys, h, .cons (.str _) r => by
    unfold strsOf at h
    cases e : strsOf ds with
    | none => rw [e] at h; cases h
    | some zs =>
      rw [e] at h; cases h
      rw [strsOf_reps e r]; rfl
theorem reps_strs {K : PySem.W.Frag} {G : Hp} : ∀ ys : List Str, Reps K G (ys.map V.str) (ys.map D.str)
  | [] => .nil
  | y :: ys => .cons (.str y) (reps_strs ys)
section
variable {X : Cx} {a : Amb} {e b : Expr} {f g : En → Res D} {pos apos : Pos}
theorem d_join (hf : PE X e (tD X.K X.mg a f)) (hg : PE X b (tD X.K X.mg a g)) (hs : starEach [b] X.env = [(false, eval b X.env)] := by rfl) (hbase : attributeBase e "join" X.env (eval e X.env) = eval e X.env := by rfl) (hline : (apos.endLine == pos.line) = true := by rfl) :
    PE X (.Call (.Attribute e "join" apos) [b] [] pos) (tD X.K X.mg a (strM joinD f g)) :=
  (pe_join hf hg hs hbase hline).imp fun σ H Q ⟨ρ, G, hR, q⟩ => ⟨ρ, G, hR, (PostE.bind q).imp fun x _ q1 v G1 H1 g1 r1 => by
    cases r1 with
    | str s =>
      refine ⟨⟨_, rfl⟩, ρ, G1, R.grow hR g1, ((PostE.bind q1).grow g1).imp fun y _ q2 u G2 H2 g2 r2 => ?_⟩
      cases r2 with
      | @lst p vs ds h1 r =>
        cases hz : strsOf ds with
        | none => simp only [joinD, hz] at q2; exact q2.elim
        | some ys =>
          simp only [joinD, hz] at q2
          obtain ⟨hl, q3⟩ := PostE.gd q2
          have := strsOf_reps hz r
          subst this
          exact ⟨s, p, ys, rfl, rfl, .inl (SqL.of (g2.s _ _ h1)), hl, q3 _ G2 H2 (g1.trans g2) (.str _)⟩
      | @tup p vs ds h1 r =>
        cases hz : strsOf ds with
        | none => simp only [joinD, hz] at q2; exact q2.elim
        | some ys =>
          simp only [joinD, hz] at q2
          obtain ⟨hl, q3⟩ := PostE.gd q2
          have := strsOf_reps hz r
          subst this
          exact ⟨s, p, ys, rfl, rfl, .inr (same_tup g2.s h1), hl, q3 _ G2 H2 (g1.trans g2) (.str _)⟩
      | _ => exact q2.elim
    | _ => exact q1.elim⟩
theorem o_split (hf : PE X e (tD X.K X.mg a f)) (hg : PE X b (tD X.K X.mg a g)) (hs : starEach [b] X.env = [(false, eval b X.env)] := by rfl) (hbase : attributeBase e "split" X.env (eval e X.env) = eval e X.env := by rfl) (hline : (apos.endLine == pos.line) = true := by rfl) :
    PE X (.Call (.Attribute e "split" apos) [b] [] pos) (tO X.K X.mg a (strM splitO f g)) :=
  (pe_split hf hg hs hbase hline).imp fun σ H Q ⟨ρ, G, hR, q⟩ => ⟨ρ, G, hR, (PostE.bind q).imp fun x _ q1 v G1 H1 g1 r1 => by
    cases r1 with
    | str s =>
      refine ⟨⟨_, rfl⟩, ρ, G1, R.grow hR g1, ((PostE.bind q1).grow g1).imp fun y _ q2 u G2 H2 g2 r2 => ?_⟩
      cases r2 with
      | str t =>
        obtain ⟨⟨hz, hl⟩, q3⟩ := PostE.gd q2
        exact ⟨s, t, rfl, rfl, hz, hl, fun p hp => q3 p _ G2 _ ((g1.trans g2).trans (Grow.own g2.s hp)) ((g1.trans g2).h.free hp) (g2.s.free hp) upd_same (reps_strs _)⟩
      | _ => exact q2.elim
    | _ => exact q1.elim⟩
end
/-! ## sum, all, any of a list -/
def intsOf : List D → Option (List Int)
  | [] => some []
  | .int s :: ds => (intsOf ds).map (s :: ·)
  | _ :: _ => none
def blsOf : List D → Option (List Bool)
  | [] => some []
  | .bl s :: ds => (blsOf ds).map (s :: ·)
  | _ :: _ => none
def sumL : List D → Res D | [.lst xs] => (match intsOf xs with | some ns => .ok (.int ns.sum) | none => .stuck) | _ => .stuck
def allL : List D → Res D | [.lst xs] => (match blsOf xs with | some ns => .ok (.bl (ns.all id)) | none => .stuck) | _ => .stuck
theorem intsOf_reps {K : PySem.W.Frag} {G : Hp} : ∀ {ds : List D} {vs : List V} {ys : List Int}, intsOf ds = some ys → Reps K G vs ds → vs = ys.map V.int
  | [], _, _, h, .nil => by cases h; rfl
  | .int s :: ds, _, ys, h, .cons (.int _) r => by
    unfold intsOf at h
    cases e : intsOf ds with
    | none => rw [e] at h; cases h
    | some zs =>
      rw [e] at h; cases h
      rw [intsOf_reps e r]; rfl
theorem blsOf_reps {K : PySem.W.Frag} {G : Hp} : ∀ {ds : List D} {vs : List V} {ys : List Bool}, blsOf ds = some ys → Reps K G vs ds → vs = ys.map V.bl
  | [], _, _, h, .nil => by cases h; rfl
  | .bl s :: ds, _, ys, h, .cons (.bl _) r => by
    unfold blsOf at h
    cases e : blsOf ds with
    | none => rw [e] at h; cases h
    | some zs =>
      rw [e] at h; cases h
      rw [blsOf_reps e r]; rfl
theorem nox_sum : NoXL sumL := fun xs e h => by
  unfold sumL at h; split at h
  · split at h <;> cases h
  · cases h
theorem nox_all : NoXL allL := fun xs e h => by
  unfold allL at h; split at h
  · split at h <;> cases h
  · cases h
theorem cd_sum {X : Cx} (hc : X.calm = true) : CallD X (.builtin "sum") sumL := ⟨_, cr_sum hc, fun G H vs ds z Q s r h q => by
  unfold sumL at h
  split at h
  · obtain ⟨v, rfl, r1⟩ := reps1 r
    split at h
    · rename_i ns hn
      cases h
      cases r1 with
      | @lst p vs ds h1 rr =>
        have := intsOf_reps hn rr
        subst this
        exact ⟨p, ns, rfl, SqL.of (s _ _ h1), q _ G H (Grow.refl s) (.int _)⟩
    · cases h
  · cases h⟩
theorem cd_all {X : Cx} (hc : X.calm = true) : CallD X (.builtin "all") allL := ⟨_, cr_all hc, fun G H vs ds z Q s r h q => by
  unfold allL at h
  split at h
  · obtain ⟨v, rfl, r1⟩ := reps1 r
    split at h
    · rename_i ns hn
      cases h
      cases r1 with
      | @lst p vs ds h1 rr =>
        have := blsOf_reps hn rr
        subst this
        exact ⟨p, ns, rfl, SqL.of (s _ _ h1), q _ G H (Grow.refl s) (.bl _)⟩
    · cases h
  · cases h⟩
end PL

set_option maxRecDepth 100000
set_option maxHeartbeats 1000000
namespace PL
open PySem PySem.Spec PyProof.Rows L2
/-! ## data of a region of its own: told = f(texts, numbers); tests on told; told[1].append(e) -/
def sclr : D → Bool | .non => true | .bl _ => true | .int _ => true | .str _ => true | _ => false
def isTmp : Sl → Bool | .tmp _ => true | _ => false
/-- no other such slot -/
def noTmp (ρ : En) (i : Nat) : Bool := !(ρ.set i .no).any isTmp
theorem noTmp_at {ρ : En} {i j : Nat} {d : D} (h : noTmp ρ i = true) (hj : j ≠ i) : ρ[j]? ≠ some (.tmp d) := fun e => by
  unfold noTmp at h
  rw [Bool.not_eq_true', List.any_eq_false] at h
  have : (ρ.set i .no)[j]? = some (.tmp d) := by rw [List.getElem?_set_ne (Ne.symm hj)]; exact e
  exact h _ (List.mem_of_getElem? this) rfl
theorem sclr_reps {K : PySem.W.Frag} {G G' : Hp} : ∀ {ds : List D} {vs : List V}, ds.all sclr = true → Reps K G vs ds → Reps K G' vs ds
  | [], _, _, .nil => .nil
  | d :: ds, _, h, .cons r rr => by
    rw [List.all_cons, Bool.and_eq_true] at h
    refine .cons ?_ (sclr_reps h.2 rr)
    cases r with
    | non => exact .non
    | bl b => exact .bl b
    | int b => exact .int b
    | str b => exact .str b
    | _ => exact absurd h.1 (fun z => by cases z)
def no0 : Hp := fun _ => none
/-- i = f(..): the result in a region of its own -/
def sSetT (i : Nat) (m : List D → Res RV) (fs : En → Res (List D)) : En → Out := fun ρ => ofR ρ (fs ρ) fun ds => match m ds with
  | .ok (.sh d) => ofR ρ (gd (noTmp ρ i = true ∧ ds.all sclr = true) (.ok ())) fun _ => .next (ρ.set i (.tmp d))
  | _ => .stuck
theorem R.setTmp {K : PySem.W.Frag} {G0 H0 G H T : Hp} {ρ : En} {σ : L2.St} (r : R K G0 H0 ρ σ G H) (i : Nat) {v : V} {d : D} (hn : noTmp ρ i = true) (hT : ∀ b x, T b = some x → G b = none ∧ H0 b = none ∧ H b = some x) (q : RepL K G T v d)
    (ho : ∀ (j : Nat) (ob : OB) (l : Addr), ρ[j]? = some (.ow ob) → σ[j]? = some (some (.ref l)) → T l = none) : R K G0 H0 (ρ.set i (.tmp d)) (σ.set i (some v)) G H := by
  refine ⟨r.gr, by simp [r.len], fun j s e => ?_, fun j k ys zs hn e1 e2 => ?_, T, hT, fun j d2 e => ?_, fun j ob l e e2 => ?_⟩
  · rcases get_set e with ⟨rfl, rfl, l'⟩ | ⟨ne, e⟩
    · exact ⟨some v, List.getElem?_set_self (by rw [← r.len]; exact l'), trivial⟩
    · rw [List.getElem?_set_ne (Ne.symm ne)]; exact r.slot j s e
  · rcases get_set e1 with ⟨_, z, _⟩ | ⟨n1, e1⟩
    · cases z
    · rcases get_set e2 with ⟨_, z, _⟩ | ⟨n2, e2⟩
      · cases z
      · rw [List.getElem?_set_ne (Ne.symm n1), List.getElem?_set_ne (Ne.symm n2)]; exact r.dis j k ys zs hn e1 e2
  · rcases get_set e with ⟨rfl, z, l'⟩ | ⟨ne, e⟩
    · cases z
      exact ⟨v, List.getElem?_set_self (by rw [← r.len]; exact l'), q⟩
    · exact absurd e (noTmp_at hn ne)
  · rcases get_set e with ⟨_, z, _⟩ | ⟨n, e⟩
    · cases z
    · rw [List.getElem?_set_ne (Ne.symm n)] at e2; exact ho j ob l e e2
section
variable {X : Cx} {a : Amb} {e : Expr} {es : List Expr} {fs : En → Res (List D)} {pos p py pos2 : Pos} {x y : Str} {k k' : Nat} {ps : List Str} {m : List D → Res RV}
theorem s_setT (i : Nat) (F : FnP X.prog X.w X.K X.mg X.base k' x ps m) (c : GE k X a) (hk : k' ≤ k) (hl : (e :: es).length = ps.length) (ha : PA X (e :: es) (tA X.K X.mg a fs)) (hfl : ∀ ρ ds, fs ρ = .ok ds → ds.length = (e :: es).length)
    (hg : Gl X x := by rfl) (hdb : (x == ("__debug__" : Str)) = false := by decide) (he : starEach (e :: es) X.env = (false, eval e X.env) :: starEach es X.env := by rfl) (hpl : (backTo pos (starEach es X.env)).any (·.1) = false := by rfl)
    (hN : X.N[i]? = some y := by rfl) (hx : Loc X.env.scope y := by first | exact Or.inl rfl | exact Or.inr rfl) (hfn : X.fn y = true ∨ X.env.scope.names.lookup y = some .local := by first | exact .inl rfl | exact .inr rfl)
    (hs : swapsWith (.Call (.Name x p) (e :: es) [] pos) (some (.Name y py)) pos2.line X.env = pure false := by rfl) :
    PS X (.Assign [.Name y py] (.Call (.Name x p) (e :: es) [] pos) pos2) (tS X.K X.mg a (sSetT i m fs)) := by
  obtain ⟨f, fd, F1, hm, hkp, hb⟩ := F.ex
  refine (ps_set c.nd hN hx (pe_callS F1 (c.hr.mono hk) hg hm hkp hb (fun σ => passAt c.tk σ) ha hdb he hpl) hs hfn).imp fun Dn σ H ⟨ρ, G, hR, q⟩ => ⟨ρ, G, hR, (ofR_post hR q).imp fun ds ed q1 vs G' H' g r => ?_⟩
  cases h : m ds with
  | stuck => simp only [h] at q1; exact q1.elim
  | exc ex => simp only [h] at q1; exact q1.elim
  | ok rv =>
    cases rv with
    | ow xs => simp only [h] at q1; exact q1.elim
    | tm d => simp only [h] at q1; exact q1.elim
    | sh d =>
      simp only [h] at q1
      obtain ⟨⟨hn, hs⟩, q1⟩ := gd_post q1
      refine ⟨by rw [r.len, hfl ρ ds ed, hl], no0, ds, (fun b x e => by cases e), sclr_reps hs r, ?_⟩
      simp only [h]
      intro v T H2 g2 r2
      have hR1 : R X.K a.G0 a.H0 ρ σ G' H' := R.grow hR g
      have free : ∀ b z, T b = some z → H' b = none := fun b z e => by
        cases e2 : H' b with
        | none => rfl
        | some o => have := g2.f b rfl (by rw [e2]; simp); rw [this] at e; cases e
      have hR2 : R X.K a.G0 a.H0 ρ σ G' H2 := R.grow hR1 ⟨Same.refl _, g2.h, g.s.trans g2.h, fun _ h _ => h⟩
      refine q1 _ G' H2 (R.setTmp hR2 i hn (fun b z e => ⟨g.s.free (free b z e), ?_, g2.s b z e⟩) (Rep.inL (join2_r fun b z e => g.s.free (free b z e)) _ _ r2) fun j ob l e1 e2 => ?_) g.g
      · exact hR1.gr.h.free (free b z e)
      · obtain ⟨l', ho, e3, _, _, e4, _⟩ := hR1.ow e1
        rw [e2] at e3
        cases e3
        cases e5 : T l with
        | none => rfl
        | some z => rw [free l z e5] at e4; cases e4
end
/-- a test on it -/
def tmpT (i : Nat) (t : En → Res Bool) : En → Res Bool := fun ρ => match ρ[i]? with
  | some (.tmp d) => (match t (ρ.set i (.sh d)) with | .ok b => gd (noTmp ρ i = true) (.ok b) | _ => .stuck)
  | _ => .stuck
theorem R.lend {K : PySem.W.Frag} {G0 H0 G H : Hp} {ρ : En} {σ : L2.St} (r : R K G0 H0 ρ σ G H) {i : Nat} {d : D} (hn : noTmp ρ i = true) (h : ρ[i]? = some (.tmp d)) : ∃ T, Same G (join2 G T) ∧ R K G0 H0 (ρ.set i (.sh d)) σ (join2 G T) H := by
  obtain ⟨T, t⟩ := r.tm
  obtain ⟨v, e1, q⟩ := t.rep i d h
  have sT : Same T (join2 G T) := join2_r fun b x e => (t.at_ b x e).1
  have sH : Same (join2 G T) H := fun b x e => by
    unfold join2 at e
    cases e2 : G b with
    | some z => rw [e2] at e; cases e; exact r.sub b _ e2
    | none => rw [e2] at e; exact (t.at_ b x e).2.2
  refine ⟨T, join2_l, ⟨r.gr.g.trans join2_l, r.gr.h, sH, fun b h1 h2 => join2_none (r.gr.f b h1 h2) ?_⟩, by simp [r.len], fun j s e => ?_, fun j k ys zs hne e1 e2 => ?_, no0, fun b x e => by (cases e), fun j d2 e => ?_, fun _ _ _ _ _ => rfl⟩
  · cases e : T b with
    | none => rfl
    | some z => exact absurd (t.at_ b z e).2.1 h2
  · rcases get_set e with ⟨rfl, rfl, l'⟩ | ⟨ne, e⟩
    · exact ⟨some v, e1, v, rfl, RepL.rep sT _ _ q⟩
    · obtain ⟨o, e2, q2⟩ := r.slot j s e
      refine ⟨o, e2, ?_⟩
      cases s with
      | no => trivial
      | tmp d => trivial
      | sh d => obtain ⟨v, a, b⟩ := q2; exact ⟨v, a, Rep.mono join2_l _ _ b⟩
      | ow ys =>
        obtain ⟨l2, vs2, a, b, c, d, f⟩ := q2
        exact ⟨l2, vs2, a, b, join2_none c (t.dis j ys l2 e (by rw [e2, a])), d, RepO.mono join2_l f⟩
  · rcases get_set e1 with ⟨_, z, _⟩ | ⟨n1, e1⟩
    · cases z
    · rcases get_set e2 with ⟨_, z, _⟩ | ⟨n2, e2⟩
      · cases z
      · exact r.dis j k ys zs hne e1 e2
  · rcases get_set e with ⟨_, z, _⟩ | ⟨n, e⟩
    · cases z
    · exact absurd e (noTmp_at hn n)
section
variable {X : Cx} {a : Amb} {e : Expr}
theorem t_tmp {t : En → Res Bool} (i : Nat) (h : PT X e (tT X.K X.mg a t)) : PT X e (tT X.K X.mg a (tmpT i t)) :=
  h.imp fun σ H Q ⟨ρ, G, hR, q⟩ => by
    unfold tmpT at q
    cases hx : ρ[i]? with
    | none => rw [hx] at q; exact q.elim
    | some s => cases s with
      | no => rw [hx] at q; exact q.elim
      | sh _ => rw [hx] at q; exact q.elim
      | ow _ => rw [hx] at q; exact q.elim
      | tmp d =>
        simp only [hx] at q
        cases hf : t (ρ.set i (.sh d)) with
        | stuck => simp only [hf] at q; exact q.elim
        | exc ex => simp only [hf] at q; exact q.elim
        | ok b =>
          simp only [hf] at q
          obtain ⟨hn, q⟩ := PostE.gd q
          obtain ⟨T, sg, hR'⟩ := R.lend hR hn hx
          refine ⟨ρ.set i (.sh d), _, hR', ?_⟩
          simp only [hf]
          exact fun G' H' g' => q G H' ⟨Same.refl _, g'.h, (R.sub hR).trans g'.h, fun _ h _ => h⟩
end
theorem R.letgo {K : PySem.W.Frag} {G0 H0 G H T : Hp} {ρ : En} {σ : L2.St} (r : R K G0 H0 ρ σ G H) (t : Tm K H0 ρ σ G H T) {i : Nat} {l : Addr} {o1 o2 : HO} (hn : noTmp ρ i = true) (hl : T l = some o1) : R K G0 H0 (ρ.set i .no) σ G (upd H l o2) := by
  obtain ⟨a1, a2, a3⟩ := t.at_ l _ hl
  refine ⟨⟨r.gr.g, fun b x e => ?_, fun b x e => ?_, fun b h1 h2 => r.gr.f b h1 h2⟩, by simp [r.len], fun j s e => ?_, fun j k ys zs hne e1 e2 => ?_, no0, fun b x e => by (cases e), fun j d2 e => ?_, fun _ _ _ _ _ => rfl⟩
  · rw [upd_ne (ne_of_none e a2)]; exact r.gr.h b x e
  · rw [upd_ne (ne_of_none e a1)]; exact r.gr.s b x e
  · rcases get_set e with ⟨rfl, rfl, l'⟩ | ⟨ne, e⟩
    · obtain ⟨o, e2, _⟩ := r.slot j ρ[j] (List.getElem?_eq_getElem l')
      exact ⟨o, e2, trivial⟩
    · obtain ⟨o, e2, q2⟩ := r.slot j s e
      refine ⟨o, e2, ?_⟩
      cases s with
      | no => trivial
      | tmp d => trivial
      | sh d => exact q2
      | ow ys =>
        obtain ⟨l2, vs2, a, b, c, d, f⟩ := q2
        have : l2 ≠ l := fun z => by
          have := t.dis j ys l2 e (by rw [e2, a])
          rw [z, hl] at this; cases this
        exact ⟨l2, vs2, a, b, c, by rw [upd_ne this]; exact d, f⟩
  · rcases get_set e1 with ⟨_, z, _⟩ | ⟨n1, e1⟩
    · cases z
    · rcases get_set e2 with ⟨_, z, _⟩ | ⟨n2, e2⟩
      · cases z
      · exact r.dis j k ys zs hne e1 e2
  · rcases get_set e with ⟨_, z, _⟩ | ⟨n, e⟩
    · cases z
    · exact absurd e (noTmp_at hn n)
section
variable {X : Cx} {a : Amb} {e : Expr}
/-- told[1].append(e), and told is not looked at again -/
def sAppT (i : Nat) (f : En → Res D) : En → Out := fun ρ => match ρ[i]? with
  | some (.tmp (.tup [_, .lst xs])) => ofR ρ (f ρ) fun _ => ofR ρ (gd (noTmp ρ i = true ∧ xs.length < sizeLine) (.ok ())) fun _ => .next (ρ.set i .no)
  | _ => .stuck
theorem s_appT {f : En → Res D} {x : Str} {p p2 apos pos pos2 : Pos} {j : Nat} (i : Nat) (h : PE X e (tD X.K X.mg a f)) (hN : X.N[i]? = some x := by rfl) (hv : Vis X.env.scope x := by first | exact Or.inl rfl | exact Or.inr (Or.inl rfl) | exact Or.inr (Or.inr rfl)) (hd : (x == ("__debug__" : Str)) = false := by decide) (hcd : (x == ("__classdict__" : Str)) = false := by decide)
    (hsw : swapsWith (.Call (.Attribute (.Subscript (.Name x p) (.Constant (.int 1) j p2) pos) "append" apos) [e] [] pos2) none pos2.line X.env = pure false := by rfl)
    (hbase : attributeBase (.Subscript (.Name x p) (.Constant (.int 1) j p2) pos) "append" X.env (eval (.Subscript (.Name x p) (.Constant (.int 1) j p2) pos) X.env) = eval (.Subscript (.Name x p) (.Constant (.int 1) j p2) pos) X.env := by rfl)
    (hfew : ((backTo pos2 (starEach (e :: []) X.env)).all (fun x => !x.1) && (backToKw pos2 (keywordEach [] X.env)).all (fun x => x.1.isSome) && decide ((e :: ([] : List Expr)).length + ([] : List Keyword).length + (if ([] : List Keyword).isEmpty then 0 else 1) < 30)) = true := by rfl)
    (hline : (apos.endLine == pos2.line) = true := by rfl) (hs : starEach (e :: []) X.env = (false, eval e X.env) :: starEach [] X.env := by rfl) (hplain : (backTo pos2 (starEach [] X.env)).any (·.1) = false := by rfl) :
    PS X (.Expr (.Call (.Attribute (.Subscript (.Name x p) (.Constant (.int 1) j p2) pos) "append" apos) [e] [] pos2) pos2) (tS X.K X.mg a (sAppT i f)) :=
  (ps_expr (pe_bm PySem.F.plainAttrs_list PySem.F.slot_list_append PySem.F.type_list_append mt_append (pe_ix ix_seq (pe_var hN hv hd hcd) pe_int (fun _ _ => rfl)) (pa_cons h pa_nil hs) hbase hfew hline hs hplain) hsw).imp fun Dn σ H ⟨ρ, G, hR, q⟩ => by
    unfold sAppT at q
    split at q
    · rename_i x0 xs hx
      obtain ⟨T, t⟩ := hR.tm
      obtain ⟨v, e1, r⟩ := t.rep i _ hx
      cases r with
      | @tup pp vs ds hp rr => cases rr with
        | cons r0 rr => cases rr with
          | cons r1 rr => cases rr with
            | nil => cases r1 with
              | @lst l us ds hl rl =>
                obtain ⟨a1, a2, a3⟩ := t.at_ l _ hl
                have sTH : Same T H := fun b x e => (t.at_ b x e).2.2
                refine ⟨.ref pp, e1, .inr (.inl ⟨pp, _, 1, .ref l, rfl, rfl, same_tup (join2_to (R.sub hR) sTH) hp, rfl, Or.inl ⟨rfl, us, SqL.of a3⟩, ρ, G, hR, (ofR_post hR q).imp fun d _ q1 v G' H' gr rd => ?_⟩)⟩
                obtain ⟨⟨hn, hz⟩, q1⟩ := gd_post q1
                refine ⟨l, us, v, rfl, rfl, gr.h _ _ a3, by rw [rl.len]; exact hz, q1 σ G' _ ?_ gr.g⟩
                exact R.letgo (R.grow hR gr) (t.grow gr) hn hl
    · exact q.elim
end
end PL

set_option maxRecDepth 100000
set_option maxHeartbeats 1000000
namespace PL
open PySem PySem.Spec PyProof PyProof.Rows L2
/-! ## v[i] += e on an owned list -/
section
variable {X : Cx}
theorem get_list : PGet X (rIxL X.K) := by
  intro pins s σ H x y v u Q I rx ry h
  obtain ⟨p, xs, i, z, rfl, rfl, hq, he, q⟩ := h
  cases rx
  obtain ⟨t, rfl⟩ := ry
  obtain ⟨its, r, pl, hz⟩ := I.list hq
  obtain ⟨j, h1, h2, h3, h4, h5⟩ := atI_get he
  obtain ⟨w, ew, rw'⟩ := r.get h2
  have hl := r.length
  have hn := line63
  have fin : EP X pins σ Q w s := ⟨z, H, I, rw', q⟩
  by_cases h0 : 0 ≤ i
  · have hj : i.toNat = j := by
      rw [seqIndex_of h0 h5] at h1
      exact Option.some.inj h1
    exact wpAny_getItem_list pl.isList h0 (by omega) (by rw [hj]; simpa using ew) fin
  · have hj : (i + (its.toArray.size : Int)).toNat = j := by
      rw [seqIndex_neg (by omega) h4] at h1
      rw [List.size_toArray, ← hl]
      exact Option.some.inj h1
    exact wpAny_getItem_list_neg pl.isList (by omega) (by rw [List.size_toArray] <;> omega) (by omega) (by rw [hj]; simpa using ew) fin
end
/-- v[f] o= g: ints -/
def sPutAug (i : Nat) (o : Int → Int → Int) (f g : En → Res D) : En → Out := fun ρ => ofR ρ (owL ρ i) fun xs => ofR ρ (f ρ) fun n => match n with
  | .int k => (match L2.ixN xs.length k with
    | some j => (match xs[j]? with
      | some (.int a) => ofR ρ (g ρ) fun d => match d with
        | .int b => .next (setL ρ i (xs.set j (.int (o a b))))
        | _ => .stuck
      | _ => .stuck)
    | none => .stuck)
  | _ => .stuck
section
variable {X : Cx} {a : Amb} {e b : Expr} {f g : En → Res D} {pos p pos2 : Pos} {x : Str}
theorem s_putAug {op : Operator} {o : Int → Int → Int} (ho : PIp X op (ipI o)) (i : Nat) (hf : PE X b (tD X.K X.mg a f)) (hg : PE X e (tD X.K X.mg a g)) (hN : X.N[i]? = some x := by rfl) (hv : Vis X.env.scope x := by first | exact Or.inl rfl | exact Or.inr (Or.inl rfl) | exact Or.inr (Or.inr rfl)) (hd : (x == ("__debug__" : Str)) = false := by decide) (hcd : (x == ("__classdict__" : Str)) = false := by decide)
    (ha : ∀ ov iv new, augStore b ov iv new = (do holding [new, ov, iv] (setItem ov iv new); release [new, ov, iv] []; pure .next) := by intros; rfl) :
    PS X (.AugAssign (.Subscript (.Name x p) b pos) op e pos2) (tS X.K X.mg a (sPutAug i o f g)) :=
  (ps_augS (pe_var hN hv hd hcd) hf get_list hg ho set_list ha).imp fun Dn σ H ⟨ρ, G, hR, q⟩ => by
    obtain ⟨xs, hx, q⟩ := ow_post q
    obtain ⟨l, vs, e1, h0, hg, hh, r⟩ := R.owL hR (owL_eq hx)
    refine ⟨.ref l, e1, ρ, G, hR, (ofR_post hR q).imp fun n _ q1 u G1 H1 g1 r1 => ?_⟩
    cases r1 with
    | int k =>
      simp only at q1
      cases hj : ixN xs.length k with
      | none => simp only [hj] at q1; exact q1.elim
      | some j =>
        simp only [hj] at q1
        cases hd : xs[j]? with
        | none => simp only [hd] at q1; exact q1.elim
        | some dd =>
          cases dd with
          | int av =>
            simp only [hd] at q1
            obtain ⟨v, ev, rv⟩ := Reps.get r hd
            cases rv
            have hR1 := R.grow hR g1
            have ea : L2.atI vs k = some (.int av) := by
              unfold L2.atI
              rw [r.len, hj]
              exact ev
            refine ⟨l, vs, k, .int av, rfl, rfl, SqL.of (g1.h _ _ hh), ea, ρ, G1, hR1, (ofR_post (a := a) hR1 (Post.mono g1.g q1)).imp fun d _ q2 u G2 H2 g2 r2 => ?_⟩
            cases r2 with
            | int bv => exact ⟨av, bv, rfl, rfl, l, vs, k, j, rfl, rfl, g2.h _ _ (g1.h _ _ hh), by rw [r.len]; exact hj, q2 σ G2 _ (R.write (R.grow hR1 g2) (owL_eq hx) e1 (.lst (Reps.set (.int _) _ (Reps.mono (g1.trans g2).g _ _ r)))) g2.g⟩
            | _ => exact q2.elim
          | _ => simp only [hd] at q1; exact q1.elim
    | _ => exact q1.elim
end
end PL

set_option maxRecDepth 100000
set_option maxHeartbeats 4000000
namespace PL
section
open PySem PyProof PyProof.Rows Srt SrtO SrtR
variable {prog : Program} {w : World} {A : Around} {E : Value → Shared → Prop} {s : Shared}
theorem collect_tup {l : Addr} {vs : List Value} {Q : List Value → Shared → Prop} (tl : IsTup s.heap l vs.toArray)
    (h : Q vs { s with heap := (s.heap.push (seqObj "list" #[] 0)).update s.heap.objs.size (Obj.mapSeq (· ++ vs.toArray)) }) (zs : vs.length ≤ sizeLine := by size_fits) :
    wpAny (model prog w) A (collect (.ref l)) Q E s := by
  obtain ⟨o, oo, cc, n, dd⟩ := id tl
  unfold collect
  refine wpAny_bind (wpAny_runValue (codeAny_builtin entry_proto_collect' ?_))
  show wpAny _ _ (do again (.builtin "list.__iadd__" ⟨[← newList [], .ref l], []⟩)) _ _ s
  refine wpAny_bind (wpAny_newList (wpAny_pure ⟨Code.quiet_builtin _ (by decide +kernel), codeAny_builtin entry_list_iadd' ?_⟩))
  show wpAny _ _ (Builtin.List.listExtendWith (.ref s.heap.objs.size) (.ref l) (.ref s.heap.objs.size)) _ _ { s with heap := s.heap.push (seqObj "list" #[] 0) }
  unfold Builtin.List.listExtendWith
  have oo' : (s.heap.push (seqObj "list" #[] 0)).get? l = some o := Heap.get?_push_of_some _ oo
  refine wpAny_bind (wpAny_typeOf (T := "tuple") ⟨o, oo', cc⟩ ?_)
  have tt : (Value.type "tuple" == Value.type "tuple") = true := by rfl
  rw [if_pos (by rw [tt]; simp)]
  refine wpAny_bind (listItems_at oo' dd ?_)
  refine wpAny_bind (listItems_at (xs := #[]) (n := 0) (Heap.get?_push_size _ rfl) rfl ?_)
  rw [if_neg (by simp)]
  refine wpAny_bind (listUpdate_at (xs := #[]) (n := 0) (Heap.get?_push_size _ rfl) rfl ?_ (Nat.zero_le _) (by show (#[] ++ vs.toArray).size ≤ sizeLine + 1; simp only [Array.size_append, List.size_toArray, List.length_nil]; omega))
  refine wpAny_pure ?_
  show wpAny (model prog w) A (do
      let o ← load s.heap.objs.size
      match o.data with
      | .seq xs _ => pure xs.toList
      | _ => unsupported "internal:collect") Q E { s with heap := (s.heap.push (seqObj "list" #[] 0)).update s.heap.objs.size (Obj.mapSeq (· ++ vs.toArray)) }
  refine wpAny_bind (wpAny_load (get?_update_seq (Heap.get?_push_size _ rfl) _) ?_)
  show wpAny _ _ (pure ((#[] : Array Value) ++ vs.toArray).toList) Q E _
  rw [show ((#[] : Array Value) ++ vs.toArray).toList = vs by simp]
  exact wpAny_pure h

theorem sorted_ordKT {l : Addr} {vs : List Value} {rv_ : Bool} {kw : List (Str × Value)} {ltv : Value → Value → Bool} {Q : Value → Shared → Prop} (kk : ∀ a, Builtin.«list.sort» ⟨[.ref a], kw⟩ = Builtin.«list.sort» ⟨[.ref a], [(Str.ofString "reverse", .bool rv_)]⟩)
    (ar1 : argsOk "sorted" ⟨[.ref l], kw⟩) (ar2 : ∀ a, argsOk "list.sort" ⟨[a], kw⟩) (O : Swo ltv) (tl : IsTup s.heap l vs.toArray) (zl : vs.length ≤ sizeLine)
    (sS : 2 ≤ vs.length → ∀ (h₁ : Heap) (a : Addr), h₁.get? a = some (seqObj "list" vs.toArray 0) → (∀ rv_ o, s.heap.get? rv_ = some o → rv_ ≠ a ∧ h₁.get? rv_ = some o) → SortableO prog w A.in1.in1 { s with heap := h₁ } a vs ltv)
    (h : ∀ res : List Value, Srtd ltv res → Stb ltv res (if rv_ = true then vs.reverse else vs) → Q (.ref (s.heap.objs.size + 1)) { s with heap := sortedAll s.heap vs (if rv_ = true then res.toArray.reverse else res.toArray) }) :
    wpAny (model prog w) A (call (.builtin "sorted") [.ref l] kw) Q E s := by
  refine call_function_entry_kw kind_sorted plain_sorted entry_sorted ar1 ?_
  unfold Builtin.«sorted»
  refine wpAny_bind (m := checkCount "sorted" 1 1 _) (wpAny_pure ?_)
  refine wpAny_bind (collect_tup tl ?_ zl)
  refine wpAny_bind (wpAny_newList ?_ zl)
  have zs : ((s.heap.push (seqObj "list" #[] 0)).update s.heap.objs.size (Obj.mapSeq (· ++ vs.toArray))).objs.size = s.heap.objs.size + 1 := by
    rw [Heap.size_update, size_push']
  have ol : (((s.heap.push (seqObj "list" #[] 0)).update s.heap.objs.size (Obj.mapSeq (· ++ vs.toArray))).push (seqObj "list" vs.toArray 0)).get? (s.heap.objs.size + 1) = some (seqObj "list" vs.toArray 0) := by
    rw [← zs]; exact Heap.get?_push_size _ rfl
  have kp : ∀ rv_ o, s.heap.get? rv_ = some o → rv_ ≠ s.heap.objs.size + 1 ∧ (((s.heap.push (seqObj "list" #[] 0)).update s.heap.objs.size (Obj.mapSeq (· ++ vs.toArray))).push (seqObj "list" vs.toArray 0)).get? rv_ = some o := fun rv_ o q => by
    have lo : rv_ < s.heap.objs.size := Heap.lt_size q
    refine ⟨Nat.ne_of_lt (Nat.lt_succ_of_lt lo), Heap.get?_push_of_some _ ?_⟩
    rw [Heap.get?_update_ne _ _ _ _ (Nat.ne_of_lt lo)]
    exact Heap.get?_push_of_some _ q
  show wpAny _ _ _ _ _ { s with heap := ((s.heap.push (seqObj "list" #[] 0)).update s.heap.objs.size (Obj.mapSeq (· ++ vs.toArray))).push (seqObj "list" vs.toArray 0) }
  rw [zs]
  refine wpAny_bind (wpAny_holding (wpAny_call_entry_kw slot_list_sort ⟨_, ol, rfl⟩ entry_list_sort ?_ (ar2 _)))
  rw [kk]
  refine list_sort_ordR O ol zl (fun h2 => sS h2 _ _ ol kp) fun res sq bb => ⟨_, rfl, ?_⟩
  exact wpAny_pure ⟨_, rfl, h res sq bb⟩

end
section
open PySem PySem.Spec PyProof L2
variable {X : Cx}
theorem sorted_runT {rv_ : Bool} {kw : List (Str × Value)} {pins : List (Addr × Obj)} {s : Shared} {σ : L2.St} {H : Hp} {a : Addr} {ns : List Int} {Q : VK} (I : Inv X pins σ H s) (sq : SqT X.K H a (ns.map V.int))
    (kk : ∀ a, Builtin.«list.sort» ⟨[.ref a], kw⟩ = Builtin.«list.sort» ⟨[.ref a], [(Str.ofString "reverse", .bool rv_)]⟩) (ar1 : argsOk "sorted" ⟨[.ref a], kw⟩) (ar2 : ∀ a, argsOk "list.sort" ⟨[a], kw⟩)
    (q : ∀ (ns' : List Int) (p : Addr), ns'.Perm ns → OrdB rv_ ns' → H p = none → Q (.ref p) (upd H p (.lst (ns'.map V.int)))) : wpAny (model X.prog X.w) X.A (call (.builtin "sorted") [.ref a] kw) (EP X pins σ Q) X.xe s := by
  obtain ⟨us, vv, tl, zl⟩ := I.tuple sq
  have ai := vv.ints
  refine sorted_ordKT kk ar1 ar2 SrtO.swo_int tl (by rw [← vv.length]; exact zl) (fun h2 h₁ a' _ _ => SrtO.ints_sortable ai h2) fun res h1 h2 => ?_
  obtain ⟨ns', m1, m2, m3⟩ := SrtR.ints_outR ai h1 h2
  obtain ⟨eP, eE⟩ := PyProof.Rows.sortedAll_at s.heap us (if rv_ = true then res.toArray.reverse else res.toArray)
  have len : (ns'.map V.int).length ≤ sizeLine := by
    rw [List.length_map, m2.length_eq]
    rw [List.length_map] at zl
    exact zl
  have e_ : ((if rv_ = true then res.toArray.reverse else res.toArray).toList).toArray = (if rv_ = true then res.toArray.reverse else res.toArray) := by rw [Array.toArray_toList]
  exact ⟨.ref _, upd H (s.heap.objs.size + 1) (.lst (ns'.map V.int)), I.laid (t' := s.toks) (fun _ _ => PyProof.Rows.sortedAll_old) (Nat.le_succ _) ⟨len, _, eP, vals_of_ints m1, by rw [e_]; exact eE⟩, rfl, q _ _ m2 m3 (I.hok.fresh (Nat.le_succ _))⟩

end
end PL

set_option maxRecDepth 100000
set_option maxHeartbeats 1000000
namespace PL
open PySem PySem.Spec PyProof.Rows L2
/-! ## sorted, of ints -/
def insI (x : Int) : List Int → List Int
  | [] => [x]
  | y :: ys => if x ≤ y then x :: y :: ys else y :: insI x ys
def sortI : List Int → List Int
  | [] => []
  | x :: xs => insI x (sortI xs)
theorem insI_perm (x : Int) : ∀ ys : List Int, (insI x ys).Perm (x :: ys)
  | [] => .refl _
  | y :: ys => by
    unfold insI
    split
    · exact .refl _
    · exact ((insI_perm x ys).cons y).trans (.swap x y ys)
theorem sortI_perm : ∀ xs : List Int, (sortI xs).Perm xs
  | [] => .refl _
  | x :: xs => (insI_perm x (sortI xs)).trans ((sortI_perm xs).cons x)
theorem insI_asc (x : Int) : ∀ ys : List Int, ys.Pairwise (· ≤ ·) → (insI x ys).Pairwise (· ≤ ·)
  | [], _ => List.pairwise_singleton _ _
  | y :: ys, h => by
    obtain ⟨h1, h2⟩ := List.pairwise_cons.mp h
    unfold insI
    split
    · next c => exact List.pairwise_cons.mpr ⟨fun z hz => by
        rcases List.mem_cons.mp hz with e | e
        · rw [e]; exact c
        · exact Int.le_trans c (h1 z e), h⟩
    · next c => exact List.pairwise_cons.mpr ⟨fun z hz => by
        rcases List.mem_cons.mp ((insI_perm x ys).subset hz) with e | e
        · rw [e]; omega
        · exact h1 z e, insI_asc x ys h2⟩
theorem sortI_asc : ∀ xs : List Int, (sortI xs).Pairwise (· ≤ ·)
  | [] => .nil
  | x :: xs => insI_asc x _ (sortI_asc xs)
theorem asc_uniq : ∀ {a b : List Int}, a.Perm b → a.Pairwise (· ≤ ·) → b.Pairwise (· ≤ ·) → a = b
  | [], b, h, _, _ => h.nil_eq
  | x :: a, [], h, _, _ => by have := h.length_eq; cases this
  | x :: a, y :: b, h, ha, hb => by
    obtain ⟨a1, a2⟩ := List.pairwise_cons.mp ha
    obtain ⟨b1, b2⟩ := List.pairwise_cons.mp hb
    have e : x = y := by
      have h1 : x ≤ y := by
        rcases List.mem_cons.mp (h.symm.subset (List.mem_cons_self : y ∈ y :: b)) with e | e
        · omega
        · exact a1 y e
      have h2 : y ≤ x := by
        rcases List.mem_cons.mp (h.subset (List.mem_cons_self : x ∈ x :: a)) with e | e
        · omega
        · exact b1 x e
      omega
    subst e
    rw [asc_uniq (h.cons_inv) a2 b2]
theorem sortI_of {a ns : List Int} (h : a.Perm ns) (ha : a.Pairwise (· ≤ ·)) : a = sortI ns := asc_uniq (h.trans (sortI_perm ns).symm) ha (sortI_asc ns)
theorem sortR_of {a ns : List Int} (h : a.Perm ns) (ha : a.Pairwise (· ≥ ·)) : a = (sortI ns).reverse := by
  have : a.reverse = sortI ns := sortI_of ((List.reverse_perm a).trans h) (List.pairwise_reverse.mpr ha)
  rw [← this, List.reverse_reverse]
def sortL : List D → Res (List D)
  | [.lst xs] => (match intsOf xs with | some ns => .ok ((sortI ns).map .int) | none => .stuck)
  | [.tup xs] => (match intsOf xs with | some ns => .ok ((sortI ns).map .int) | none => .stuck)
  | _ => .stuck
def sortRL : List D → Res (List D)
  | [.lst xs] => (match intsOf xs with | some ns => .ok ((sortI ns).reverse.map .int) | none => .stuck)
  | [.tup xs] => (match intsOf xs with | some ns => .ok ((sortI ns).reverse.map .int) | none => .stuck)
  | _ => .stuck
theorem nox_sorted : ∀ xs e, sortL xs ≠ .exc e := fun xs e h => by
  unfold sortL at h; split at h <;> first | (cases h; done) | (split at h <;> cases h)
theorem nox_sortR : ∀ xs e, sortRL xs ≠ .exc e := fun xs e h => by
  unfold sortRL at h; split at h <;> first | (cases h; done) | (split at h <;> cases h)
def rSort2 (K : PySem.W.Frag) (b : Bool) : List V → Hp → VK → Prop := fun vs H Q => ∃ (a : Addr) (ns : List Int), vs = [V.ref a] ∧ (SqL K H a (ns.map V.int) ∨ SqT K H a (ns.map V.int)) ∧
  ∀ (ns' : List Int) (p : Addr), ns'.Perm ns → OrdB b ns' → H p = none → Q (.ref p) (upd H p (.lst (ns'.map V.int)))
section
variable {X : Cx}
theorem cr_sort2 : CallR X (.builtin "sorted") (rSort2 X.K false) := by
  intro pins s σ H vs us Q I r h
  obtain ⟨a, ns, rfl, hs, q⟩ := h
  obtain rfl := Vals.ref1 r
  rcases hs with hs | hs
  · exact cr_sortedI pins s σ H [.ref a] _ Q I r ⟨a, ns, rfl, hs, fun ns' p h1 h2 h3 => q ns' p h1 h2 h3⟩
  · exact sorted_runT (rv_ := false) (kw := []) I hs (fun _ => rfl) (PyProof.Rows.args_sorted1 _) (fun _ => PyProof.Rows.args_list_sort _) q
theorem cr_sort2R : CallRK X (.builtin "sorted") [Str.ofString "reverse"] (fun vs zs H Q => zs = [.bl true] ∧ rSort2 X.K true vs H Q) := by
  intro pins s σ H vs zs us ws Q I r rz h
  obtain ⟨rfl, a, ns, rfl, hs, q⟩ := h
  rcases hs with hs | hs
  · exact cr_sortedRev (b := true) pins s σ H [.ref a] [.bl true] us ws Q I r rz ⟨a, ns, rfl, rfl, hs, q⟩
  · obtain rfl := Vals.ref1 r
    obtain ⟨w1, rfl, e1⟩ := vals1 rz
    obtain rfl : w1 = Value.bool true := e1
    exact sorted_runT I hs (fun _ => rfl) (PyProof.Rows.args_sorted_rev _ _) (fun _ => PyProof.Rows.args_list_sort_rev _ _) q
theorem sort_src {G H : Hp} {vs : List V} {xs : List D} {ns : List Int} (s : Same G H) (hi : intsOf xs = some ns) {v : V} (r : Rep X.K G v (.lst xs) ∨ Rep X.K G v (.tup xs)) : ∃ a, v = .ref a ∧ (SqL X.K H a (ns.map V.int) ∨ SqT X.K H a (ns.map V.int)) := by
  rcases r with r | r
  · cases r with
    | @lst p vs ds h1 r2 =>
      obtain rfl := intsOf_reps hi r2
      exact ⟨p, rfl, .inl (SqL.of (s _ _ h1))⟩
  · cases r with
    | @tup p vs ds h1 r2 =>
      obtain rfl := intsOf_reps hi r2
      exact ⟨p, rfl, .inr (same_tup s h1)⟩
theorem co_sorted : CallO X (.builtin "sorted") sortL := ⟨_, cr_sort2, fun G H vs ds z Q s r h q => by
  unfold sortL at h
  split at h
  · next xs =>
    obtain ⟨v, rfl, r1⟩ := reps1 r
    cases hi : intsOf xs with
    | none => simp only [hi] at h; cases h
    | some ns =>
      simp only [hi] at h
      cases h
      obtain ⟨a, rfl, hs⟩ := sort_src (X := X) (vs := []) s hi (.inl r1)
      refine ⟨a, ns, rfl, hs, fun ns' p h1 h2 hp => ?_⟩
      obtain rfl := sortI_of h1 h2
      exact q p _ G _ (Grow.own s hp) hp (s.free hp) upd_same (Reps.ofInts _)
  · next xs =>
    obtain ⟨v, rfl, r1⟩ := reps1 r
    cases hi : intsOf xs with
    | none => simp only [hi] at h; cases h
    | some ns =>
      simp only [hi] at h
      cases h
      obtain ⟨a, rfl, hs⟩ := sort_src (X := X) (vs := []) s hi (.inr r1)
      refine ⟨a, ns, rfl, hs, fun ns' p h1 h2 hp => ?_⟩
      obtain rfl := sortI_of h1 h2
      exact q p _ G _ (Grow.own s hp) hp (s.free hp) upd_same (Reps.ofInts _)
  · cases h⟩
variable {a : Amb} {e : Expr} {f : En → Res D} {pos p kp kp2 : Pos} {j : Nat}
theorem o_sortR (hm : X.mg "sorted" = none) (hf : PE X e (tD X.K X.mg a f)) (hg : Gl X "sorted" := by rfl) (hs1 : starEach [e] X.env = (false, eval e X.env) :: starEach [] X.env := by rfl)
    (he : backTo pos (starEach [e] X.env) = (false, eval e X.env) :: backTo pos (starEach [] X.env) := by rfl) (hpl : (backTo pos (starEach [e] X.env)).any (·.1) = false := by rfl)
    (hall : (backToKw pos (keywordEach [⟨some "reverse", .Constant (.bool true) j kp, kp2⟩] X.env)).all (·.1.isSome) = true := by rfl) (hnone : (backToKw pos (keywordEach [⟨some "reverse", .Constant (.bool true) j kp, kp2⟩] X.env)).any (·.1.isNone) = false := by rfl) (hks : (backToKw pos (keywordEach [⟨some "reverse", .Constant (.bool true) j kp, kp2⟩] X.env)).filterMap (·.1) = [Str.ofString "reverse"] := by rfl) :
    PE X (.Call (.Name "sorted" p) [e] [⟨some "reverse", .Constant (.bool true) j kp, kp2⟩] pos) (tO X.K X.mg a (appO sortRL (aCons f aNil))) :=
  (pe_callBK cr_sort2R hg hm rfl (pa_cons hf pa_nil hs1) (pk_cons pe_bl pk_nil) (by decide) (by decide) he hpl hall hnone hks).imp fun σ H Q ⟨ρ, G, hR, q⟩ => ⟨ρ, G, hR, by
    unfold appO aCons aNil at q
    cases hd : f ρ with
    | stuck => rw [hd] at q; exact q.elim
    | exc ex => rw [hd] at q; exact q
    | ok d =>
      rw [hd] at q
      intro v G1 H1 g1 r1
      refine ⟨rfl, ?_⟩
      show rSort2 X.K true [v] H1 Q
      have q : PostE X.K X.mg a σ G H (sortRL [d]) _ := q
      cases d with
      | lst xs =>
        cases hi : intsOf xs with
        | none => simp only [sortRL, hi] at q; exact q.elim
        | some ns =>
          simp only [sortRL, hi] at q
          obtain ⟨a', rfl, hs⟩ := sort_src (X := X) (vs := []) g1.s hi (.inl r1)
          refine ⟨a', ns, rfl, hs, fun ns' p h1 h2 hp => ?_⟩
          obtain rfl := sortR_of h1 h2
          exact q p _ G1 _ (g1.trans (Grow.own g1.s hp)) (g1.h.free hp) (g1.s.free hp) upd_same (Reps.ofInts _)
      | tup xs =>
        cases hi : intsOf xs with
        | none => simp only [sortRL, hi] at q; exact q.elim
        | some ns =>
          simp only [sortRL, hi] at q
          obtain ⟨a', rfl, hs⟩ := sort_src (X := X) (vs := []) g1.s hi (.inr r1)
          refine ⟨a', ns, rfl, hs, fun ns' p h1 h2 hp => ?_⟩
          obtain rfl := sortR_of h1 h2
          exact q p _ G1 _ (g1.trans (Grow.own g1.s hp)) (g1.h.free hp) (g1.s.free hp) upd_same (Reps.ofInts _)
      | _ => exact q.elim⟩
end
end PL

set_option maxRecDepth 100000
set_option maxHeartbeats 1000000
namespace PL
open PySem PySem.Spec PyProof.Rows L2
/-! ## a list of lists, built in a region of its own -/
def rowOk : D → Bool | .lst ds => ds.all sclr | _ => false
theorem sclr_L {K : PySem.W.Frag} {G G' T' : Hp} : ∀ {ds : List D} {vs : List V}, ds.all sclr = true → Reps K G vs ds → RepLs K G' T' vs ds
  | [], _, _, .nil => .nil
  | d :: ds, _, h, .cons r rr => by
    rw [List.all_cons, Bool.and_eq_true] at h
    refine .cons ?_ (sclr_L h.2 rr)
    cases r with
    | non => exact .non
    | bl b => exact .bl b
    | int b => exact .int b
    | str b => exact .str b
    | _ => exact absurd h.1 (fun z => by cases z)
theorem sclr_LL {K : PySem.W.Frag} {G T G' T' : Hp} : ∀ {ds : List D} {vs : List V}, ds.all sclr = true → RepLs K G T vs ds → RepLs K G' T' vs ds
  | [], _, _, .nil => .nil
  | d :: ds, _, h, .cons r rr => by
    rw [List.all_cons, Bool.and_eq_true] at h
    refine .cons ?_ (sclr_LL h.2 rr)
    cases r with
    | non => exact .non
    | bl b => exact .bl b
    | int b => exact .int b
    | str b => exact .str b
    | _ => exact absurd h.1 (fun z => by cases z)
theorem sclr_noref {K : PySem.W.Frag} {G T : Hp} {d : D} {a : Addr} (h : sclr d = true) (r : RepL K G T (.ref a) d) : False := by
  cases r with
  | tup _ _ => cases h
  | lst _ _ => cases h
  | scr _ => cases h
/-- a row: its place, its contents -/
theorem row_at {K : PySem.W.Frag} {G T : Hp} {v : V} {d : D} (h : rowOk d = true) (r : RepL K G T v d) : ∃ a us ds, v = .ref a ∧ d = .lst ds ∧ ds.all sclr = true ∧ T a = some (.lst us) ∧ RepLs K G T us ds := by
  cases d with
  | lst ds => cases r with
    | @lst a us _ h1 r2 => exact ⟨a, us, ds, rfl, rfl, h, h1, r2⟩
  | _ => cases h
/-- no row lies at the list's own place -/
theorem row_ne {K : PySem.W.Frag} {G T : Hp} {l a : Addr} {vs us : List V} {xs ds : List D} (hl : T l = some (.lst vs)) (rs : RepLs K G T vs xs) (hx : xs.all rowOk = true) (h0 : vs ≠ []) (ha : T a = some (.lst us)) (rd : RepLs K G T us ds) (hd : ds.all sclr = true) : a ≠ l := fun z => by
  subst z
  rw [hl] at ha
  cases ha
  cases rs with
  | nil => exact h0 rfl
  | cons r rr =>
    rw [List.all_cons, Bool.and_eq_true] at hx
    obtain ⟨a2, us2, ds2, rfl, _, _, _, _⟩ := row_at hx.1 r
    cases rd with
    | cons q qq =>
      rw [List.all_cons, Bool.and_eq_true] at hd
      exact sclr_noref hd.1 q
theorem rows_mono {K : PySem.W.Frag} {G G' T T2 : Hp} {l : Addr} {vs0 : List V} {xs0 : List D} (hl : T l = some (.lst vs0)) (rs0 : RepLs K G T vs0 xs0) (hx0 : xs0.all rowOk = true) (h0 : vs0 ≠ []) (hT : ∀ b o, T b = some o → b ≠ l → T2 b = some o) :
    ∀ {xs : List D} {vs : List V}, xs.all rowOk = true → RepLs K G T vs xs → RepLs K G' T2 vs xs
  | [], _, _, .nil => .nil
  | d :: ds, _, h, .cons r rr => by
    rw [List.all_cons, Bool.and_eq_true] at h
    refine .cons ?_ (rows_mono hl rs0 hx0 h0 hT h.2 rr)
    obtain ⟨a, us, es, rfl, rfl, he, ha, re⟩ := row_at h.1 r
    exact .lst (hT a _ ha (row_ne hl rs0 hx0 h0 ha re he)) (sclr_LL he re)
section
variable {K : PySem.W.Frag} {G0 H0 G H : Hp} {ρ : En} {σ : L2.St}
/-- the slot is let go, the region forgotten -/
theorem R.untmp (r : R K G0 H0 ρ σ G H) (i : Nat) (hn : noTmp ρ i = true) : R K G0 H0 (ρ.set i .no) σ G H := by
  refine ⟨r.gr, by simp [r.len], fun j s e => ?_, fun j k ys zs hne e1 e2 => ?_, no0, fun b x e => by (cases e), fun j d2 e => ?_, fun _ _ _ _ _ => rfl⟩
  · rcases get_set e with ⟨rfl, rfl, l'⟩ | ⟨ne, e⟩
    · obtain ⟨o, e2, _⟩ := r.slot j ρ[j] (List.getElem?_eq_getElem l')
      exact ⟨o, e2, trivial⟩
    · exact r.slot j s e
  · rcases get_set e1 with ⟨_, z, _⟩ | ⟨n1, e1⟩
    · cases z
    · rcases get_set e2 with ⟨_, z, _⟩ | ⟨n2, e2⟩
      · cases z
      · exact r.dis j k ys zs hne e1 e2
  · rcases get_set e with ⟨_, z, _⟩ | ⟨n, e⟩
    · cases z
    · exact absurd e (noTmp_at hn n)
/-- an object that nothing of the state knows is written -/
theorem R.poke (r : R K G0 H0 ρ σ G H) {l : Addr} {o2 : HO} (hn : ∀ (j : Nat) (d : D), ρ[j]? ≠ some (.tmp d)) (a1 : G l = none) (a2 : H0 l = none) (a4 : ∀ (j : Nat) (ob : OB), ρ[j]? = some (.ow ob) → σ[j]? ≠ some (some (.ref l))) : R K G0 H0 ρ σ G (upd H l o2) := by
  refine ⟨⟨r.gr.g, fun b x e => ?_, fun b x e => ?_, fun b h1 h2 => r.gr.f b h1 h2⟩, r.len, fun j s e => ?_, r.dis, no0, fun b x e => by (cases e), fun j d2 e => absurd e (hn j d2), fun _ _ _ _ _ => rfl⟩
  · rw [upd_ne (ne_of_none e a2)]; exact r.gr.h b x e
  · rw [upd_ne (ne_of_none e a1)]; exact r.gr.s b x e
  · obtain ⟨o, e2, q2⟩ := r.slot j s e
    refine ⟨o, e2, ?_⟩
    cases s with
    | no => trivial
    | tmp d => trivial
    | sh d => exact q2
    | ow ys =>
      obtain ⟨l2, vs2, a, b, c, d, f⟩ := q2
      have : l2 ≠ l := fun z => a4 j ys e (by rw [e2, a, z])
      exact ⟨l2, vs2, a, b, c, by rw [upd_ne this]; exact d, f⟩
theorem noTmp_no {i : Nat} (h : noTmp ρ i = true) : ∀ (j : Nat) (d : D), (ρ.set i .no)[j]? ≠ some (.tmp d) := fun j d e => by
  rcases get_set e with ⟨_, z, _⟩ | ⟨n, e⟩
  · cases z
  · exact noTmp_at h n e
/-- a slot that stands for data of a region -/
theorem R.mkTmp {T : Hp} (r : R K G0 H0 ρ σ G H) (i : Nat) {v : V} {d : D} (hv : σ[i]? = some (some v)) (hn : noTmp ρ i = true) (hT : ∀ b x, T b = some x → G b = none ∧ H0 b = none ∧ H b = some x) (q : RepL K G T v d)
    (ho : ∀ (j : Nat) (ob : OB) (l : Addr), ρ[j]? = some (.ow ob) → σ[j]? = some (some (.ref l)) → T l = none) : R K G0 H0 (ρ.set i (.tmp d)) σ G H := by
  have := R.setTmp r i hn hT q ho
  have e : σ.set i (some v) = σ := by
    have hl : i < σ.length := by
      rcases Nat.lt_or_ge i σ.length with h | h
      · exact h
      · rw [List.getElem?_eq_none h] at hv; cases hv
    refine List.ext_getElem? fun j => ?_
    by_cases hj : i = j
    · subst hj; rw [List.getElem?_set_self hl, hv]
    · rw [List.getElem?_set_ne hj]
  rw [e] at this
  exact this
end
/-- an owned list without lists in it is taken as a region's data -/
def sToT (i : Nat) (f : En → Out) : En → Out := fun ρ => match ρ[i]? with
  | some (.ow (.lst [])) => ofR ρ (gd (noTmp ρ i = true) (.ok ())) fun _ => f (ρ.set i (.tmp (.lst [])))
  | _ => .stuck
/-- x.append(a new list of scalars), x of a region -/
def sAppTL (i : Nat) (f : En → Res (List D)) : En → Out := fun ρ => match ρ[i]? with
  | some (.tmp (.lst xs)) => ofR ρ (f ρ) fun ds => ofR ρ (gd (noTmp ρ i = true ∧ xs.length < sizeLine ∧ xs.all rowOk = true ∧ ds.all sclr = true) (.ok ())) fun _ => .next (ρ.set i (.tmp (.lst (xs ++ [.lst ds]))))
  | _ => .stuck
def sRetT (i : Nat) : En → Out := fun ρ => match ρ[i]? with | some (.tmp d) => .ret (.tm d) | _ => .stuck
def sRetM (m : List D → Res RV) (fs : En → Res (List D)) : En → Out := fun ρ => ofR ρ (fs ρ) fun ds => match m ds with
  | .ok (.tm d) => .ret (.tm d)
  | .exc e => .exc e ρ
  | _ => .stuck
def sSetTM (i : Nat) (m : List D → Res RV) (fs : En → Res (List D)) : En → Out := fun ρ => ofR ρ (fs ρ) fun ds => match m ds with
  | .ok (.tm d) => ofR ρ (gd (noTmp ρ i = true) (.ok ())) fun _ => .next (ρ.set i (.tmp d))
  | .exc e => .exc e ρ
  | _ => .stuck
section
variable {X : Cx} {a : Amb} {e : Expr} {es : List Expr} {sts : List Stmt} {F : En → Out} {fs : En → Res (List D)} {pos p py pos2 apos : Pos} {x y : Str} {k k' : Nat} {ps : List Str} {m : List D → Res RV}
theorem s_toT (i : Nat) (h : PSs X sts (tS X.K X.mg a F)) : PSs X sts (tS X.K X.mg a (sToT i F)) :=
  h.imp fun Dn σ H ⟨ρ, G, hR, q⟩ => by
    unfold sToT at q
    split at q
    · next hx =>
      obtain ⟨hn, q⟩ := gd_post q
      obtain ⟨l, vs, e1, h0, hg, hh, r⟩ := R.owL hR hx
      cases r
      have hR0 : R X.K a.G0 a.H0 (ρ.set i .no) σ G H := R.untmp hR i hn
      have hn2 : noTmp (ρ.set i .no) i = true := by unfold noTmp at *; rw [List.set_set]; exact hn
      let T : Hp := fun b => if b = l then some (.lst []) else none
      have tl : T l = some (.lst []) := if_pos rfl
      have tb : ∀ b z, T b = some z → b = l ∧ z = .lst [] := fun b z e => by
        by_cases hb : b = l
        · subst hb; rw [tl] at e; cases e; exact ⟨rfl, rfl⟩
        · have : T b = none := if_neg hb
          rw [this] at e; cases e
      have := R.mkTmp (T := T) hR0 i e1 hn2 (fun b z e => by obtain ⟨rfl, rfl⟩ := tb b z e; exact ⟨hg, h0, hh⟩) (d := .lst []) (.lst tl .nil) (fun j ob l2 e2 e3 => by
        have : T l2 = none := if_neg fun z => by
          subst z
          rcases get_set e2 with ⟨_, z, _⟩ | ⟨n, e4⟩
          · cases z
          · exact hR.dis j i ob _ n e4 hx (by rw [e3, e1])
        exact this)
      rw [List.set_set] at this
      exact ⟨_, G, this, q⟩
    · exact q.elim
theorem s_appTL {f : En → Res (List D)} (i : Nat) (h : PE X e (tO X.K X.mg a f)) (hN : X.N[i]? = some x := by rfl) (hv : Vis X.env.scope x := by first | exact Or.inl rfl | exact Or.inr (Or.inl rfl) | exact Or.inr (Or.inr rfl)) (hd : (x == ("__debug__" : Str)) = false := by decide) (hcd : (x == ("__classdict__" : Str)) = false := by decide)
    (hsw : swapsWith (.Call (.Attribute (.Name x p) "append" apos) [e] [] pos) none pos2.line X.env = pure false := by rfl)
    (hbase : attributeBase (.Name x p) "append" X.env (eval (.Name x p) X.env) = eval (.Name x p) X.env := by rfl)
    (hfew : ((backTo pos (starEach (e :: []) X.env)).all (fun x => !x.1) && (backToKw pos (keywordEach [] X.env)).all (fun x => x.1.isSome) && decide ((e :: ([] : List Expr)).length + ([] : List Keyword).length + (if ([] : List Keyword).isEmpty then 0 else 1) < 30)) = true := by rfl)
    (hline : (apos.endLine == pos.line) = true := by rfl) (hs : starEach (e :: []) X.env = (false, eval e X.env) :: starEach [] X.env := by rfl) (hplain : (backTo pos (starEach [] X.env)).any (·.1) = false := by rfl) :
    PS X (.Expr (.Call (.Attribute (.Name x p) "append" apos) [e] [] pos) pos2) (tS X.K X.mg a (sAppTL i f)) :=
  (ps_expr (pe_bm PySem.F.plainAttrs_list PySem.F.slot_list_append PySem.F.type_list_append mt_append (pe_var hN hv hd hcd) (pa_cons h pa_nil hs) hbase hfew hline hs hplain) hsw).imp fun Dn σ H ⟨ρ, G, hR, q⟩ => by
    unfold sAppTL at q
    split at q
    · next xs hx =>
      obtain ⟨T, t⟩ := hR.tm
      obtain ⟨v, e1, r⟩ := t.rep i _ hx
      cases r with
      | @lst l vs _ tl rs =>
        obtain ⟨gl, h0l, hhl⟩ := t.at_ l _ tl
        refine ⟨.ref l, e1, Or.inl ⟨rfl, vs, SqL.of hhl⟩, ρ, G, hR, (ofR_post hR q).imp fun ds _ q1 l2 us G' H' gr n1 n2 h1 rd => ?_⟩
        obtain ⟨⟨hn, hz, hxs, hds⟩, q1⟩ := gd_post q1
        have hR1 := R.grow hR gr
        have t1 := t.grow gr
        have hl2 : l2 ≠ l := fun z => by rw [z, hhl] at n1; cases n1
        refine ⟨l, vs, .ref l2, rfl, rfl, gr.h _ _ hhl, by rw [rs.len]; exact hz, q1 σ G' _ ?_ gr.g⟩
        have hn2 : noTmp (ρ.set i .no) i = true := by unfold noTmp at *; rw [List.set_set]; exact hn
        have hR2 : R X.K a.G0 a.H0 (ρ.set i .no) σ G' (upd H' l (.lst (vs ++ [.ref l2]))) := R.poke (R.untmp hR1 i hn) (noTmp_no hn) (t1.at_ l _ tl).1 h0l fun j ob e2 e3 => by
          rcases get_set e2 with ⟨_, z, _⟩ | ⟨n, e4⟩
          · cases z
          · rw [t.dis j ob l e4 e3] at tl; cases tl
        let T2 : Hp := fun b => if b = l then some (.lst (vs ++ [.ref l2])) else if b = l2 then some (.lst us) else T b
        have t2l : T2 l = some (.lst (vs ++ [.ref l2])) := if_pos rfl
        have t22 : T2 l2 = some (.lst us) := by show (if l2 = l then _ else if l2 = l2 then _ else _) = _; rw [if_neg hl2, if_pos rfl]
        have tl2 : T l2 = none := by
          cases e3 : T l2 with
          | none => rfl
          | some z => rw [(t.at_ l2 z e3).2.2] at n1; cases n1
        have t2o : ∀ b o, T b = some o → b ≠ l → T2 b = some o := fun b o e2 hb => by
          show (if b = l then _ else if b = l2 then _ else _) = _
          rw [if_neg hb, if_neg (fun z => by rw [z, tl2] at e2; cases e2)]
          exact e2
        have q2 : RepL X.K G' T2 (.ref l) (.lst (xs ++ [.lst ds])) := by
          refine .lst t2l (RepLs.snoc (.lst t22 (sclr_L hds rd)) ?_)
          by_cases h0 : vs = []
          · subst h0
            cases rs
            exact .nil
          · exact rows_mono tl rs hxs h0 t2o hxs rs
        have := R.mkTmp (T := T2) hR2 i e1 hn2 (fun b z e2 => by
          by_cases hb : b = l
          · subst hb; rw [t2l] at e2; cases e2; exact ⟨(t1.at_ b _ tl).1, h0l, upd_same⟩
          · by_cases hb2 : b = l2
            · subst hb2; rw [t22] at e2; cases e2; exact ⟨n2, hR.gr.h.free n1, by rw [upd_ne hb]; exact h1⟩
            · have e3 : T b = some z := by
                have : (if b = l then some (HO.lst (vs ++ [.ref l2])) else if b = l2 then some (.lst us) else T b) = some z := e2
                rw [if_neg hb, if_neg hb2] at this
                exact this
              obtain ⟨z1, z2, z3⟩ := t1.at_ b z e3
              exact ⟨z1, z2, by rw [upd_ne hb]; exact z3⟩) q2 (fun j ob l3 e2 e3 => by
          rcases get_set e2 with ⟨_, z, _⟩ | ⟨n, e4⟩
          · cases z
          · have e5 := t.dis j ob l3 e4 e3
            have b1 : l3 ≠ l := fun z => by rw [z, tl] at e5; cases e5
            have b2 : l3 ≠ l2 := fun z => by
              obtain ⟨l', ho, e6, _, _, e7, _⟩ := hR.ow e4
              rw [e3] at e6; cases e6
              rw [z] at e7; rw [e7] at n1; cases n1
            show (if l3 = l then _ else if l3 = l2 then _ else _) = _
            rw [if_neg b1, if_neg b2]; exact e5)
        rw [List.set_set] at this
        exact this
    · exact q.elim
theorem s_retT (i : Nat) (hN : X.N[i]? = some x := by rfl) (hv : Vis X.env.scope x := by first | exact Or.inl rfl | exact Or.inr (Or.inl rfl) | exact Or.inr (Or.inr rfl)) (hd : (x == ("__debug__" : Str)) = false := by decide)
    (hcd : (x == ("__classdict__" : Str)) = false := by decide) : PS X (.Return (some (.Name x pos)) pos2) (tS X.K X.mg a (sRetT i)) :=
  (ps_ret (pe_var hN hv hd hcd)).imp fun Dn σ H ⟨ρ, G, hR, q⟩ => by
    unfold sRetT at q
    split at q
    · next d hx =>
      obtain ⟨T, t⟩ := hR.tm
      obtain ⟨v, e1, r⟩ := t.rep i _ hx
      exact ⟨v, e1, q v G H T hR.gr (Same.refl _) t.at_ r⟩
    · exact q.elim
theorem s_retM (F : FnP X.prog X.w X.K X.mg X.base k' x ps m) (c : GE k X a) (hk : k' ≤ k) (hl : (e :: es).length = ps.length) (ha : PA X (e :: es) (tA X.K X.mg a fs)) (hfl : ∀ ρ ds, fs ρ = .ok ds → ds.length = (e :: es).length)
    (hg : Gl X x := by rfl) (hdb : (x == ("__debug__" : Str)) = false := by decide) (he : starEach (e :: es) X.env = (false, eval e X.env) :: starEach es X.env := by rfl) (hpl : (backTo pos (starEach es X.env)).any (·.1) = false := by rfl) :
    PS X (.Return (some (.Call (.Name x p) (e :: es) [] pos)) pos2) (tS X.K X.mg a (sRetM m fs)) := by
  obtain ⟨f, fd, F1, hm, hkp, hb⟩ := F.ex
  refine (ps_ret (pe_callS F1 (c.hr.mono hk) hg hm hkp hb (fun σ => passAt c.tk σ) ha hdb he hpl)).imp fun Dn σ H ⟨ρ, G, hR, q⟩ => ⟨ρ, G, hR, (ofR_post hR q).imp fun ds ed q1 vs G' H' g r => ?_⟩
  refine ⟨by rw [r.len, hfl ρ ds ed, hl], G', ds, g.s, r, ?_⟩
  cases h : m ds with
  | stuck => simp only [h] at q1; exact q1.elim
  | exc ex => simp only [h] at q1; exact fun d G2 H2 g2 xr => q1 d σ G2 H2 (R.grow hR (g.trans g2)) (g.g.trans g2.g) xr
  | ok rv =>
    cases rv with
    | sh d => simp only [h] at q1; exact q1.elim
    | ow d => simp only [h] at q1; exact q1.elim
    | tm d =>
      simp only [h] at q1
      exact fun v G2 H2 T g2 hT r2 => q1 v G2 H2 T (hR.gr.trans (g.trans g2)) (g.g.trans g2.g) (fun b z e => ⟨(hT b z e).1, (R.grow hR g).gr.h.free (hT b z e).2.1, (hT b z e).2.2⟩) r2
theorem s_setTM (i : Nat) (F : FnP X.prog X.w X.K X.mg X.base k' x ps m) (c : GE k X a) (hk : k' ≤ k) (hl : (e :: es).length = ps.length) (ha : PA X (e :: es) (tA X.K X.mg a fs)) (hfl : ∀ ρ ds, fs ρ = .ok ds → ds.length = (e :: es).length)
    (hg : Gl X x := by rfl) (hdb : (x == ("__debug__" : Str)) = false := by decide) (he : starEach (e :: es) X.env = (false, eval e X.env) :: starEach es X.env := by rfl) (hpl : (backTo pos (starEach es X.env)).any (·.1) = false := by rfl)
    (hN : X.N[i]? = some y := by rfl) (hx : Loc X.env.scope y := by first | exact Or.inl rfl | exact Or.inr rfl) (hfn : X.fn y = true ∨ X.env.scope.names.lookup y = some .local := by first | exact .inl rfl | exact .inr rfl)
    (hs : swapsWith (.Call (.Name x p) (e :: es) [] pos) (some (.Name y py)) pos2.line X.env = pure false := by rfl) :
    PS X (.Assign [.Name y py] (.Call (.Name x p) (e :: es) [] pos) pos2) (tS X.K X.mg a (sSetTM i m fs)) := by
  obtain ⟨f, fd, F1, hm, hkp, hb⟩ := F.ex
  refine (ps_set c.nd hN hx (pe_callS F1 (c.hr.mono hk) hg hm hkp hb (fun σ => passAt c.tk σ) ha hdb he hpl) hs hfn).imp fun Dn σ H ⟨ρ, G, hR, q⟩ => ⟨ρ, G, hR, (ofR_post hR q).imp fun ds ed q1 vs G' H' g r => ?_⟩
  refine ⟨by rw [r.len, hfl ρ ds ed, hl], G', ds, g.s, r, ?_⟩
  cases h : m ds with
  | stuck => simp only [h] at q1; exact q1.elim
  | exc ex => simp only [h] at q1; exact fun d G2 H2 g2 xr => q1 d σ G2 H2 (R.grow hR (g.trans g2)) (g.g.trans g2.g) xr
  | ok rv =>
    cases rv with
    | sh d => simp only [h] at q1; exact q1.elim
    | ow d => simp only [h] at q1; exact q1.elim
    | tm d =>
      simp only [h] at q1
      obtain ⟨hn, q1⟩ := gd_post q1
      intro v G2 H2 T g2 hT r2
      have hR1 := R.grow hR g
      refine q1 _ G2 H2 (R.setTmp (R.grow hR1 g2) i hn (fun b z e => ⟨(hT b z e).1, hR1.gr.h.free (hT b z e).2.1, (hT b z e).2.2⟩) r2 fun j ob l e1 e2 => ?_) (g.g.trans g2.g)
      obtain ⟨l', ho, e3, _, _, e4, _⟩ := hR1.ow e1
      rw [e2] at e3
      cases e3
      cases e5 : T l with
      | none => rfl
      | some z => rw [(hT l z e5).2.1] at e4; cases e4
end
end PL

set_option maxRecDepth 100000
set_option maxHeartbeats 1000000
namespace PL
open PySem PySem.Spec PyProof.Rows L2
/-! ## for row in x: row.append(c); x.append(y), and x is not looked at again -/
def dlen : D → Nat | .lst ds => ds.length | _ => 0
def sKill (i r : Nat) (f : En → Res (List D)) : En → Out := fun ρ => match ρ[i]? with
  | some (.tmp (.lst xs)) => ofR ρ (gd (noTmp ρ i = true ∧ i ≠ r ∧ r < ρ.length ∧ xs.all rowOk = true ∧ xs.length < sizeLine ∧ (xs.all fun d => decide (dlen d + xs.length < sizeLine)) = true) (.ok ())) fun _ =>
      ofR ((ρ.set i .no).set r .no) (f ((ρ.set i .no).set r .no)) fun _ => .next ((ρ.set i .no).set r .no)
  | _ => .stuck
theorem rowsLs {K : PySem.W.Frag} {G T : Hp} : ∀ {xs : List D} {vs : List V}, xs.all rowOk = true → RepLs K G T vs xs → ∀ (j : Nat) (v : V), vs[j]? = some v → ∃ a us d ds, xs[j]? = some d ∧ d = .lst ds ∧ v = .ref a ∧ ds.all sclr = true ∧ T a = some (.lst us) ∧ RepLs K G T us ds
  | [], _, _, .nil, j, v, e => by simp at e
  | d :: ds, _, h, .cons r rr, j, v, e => by
    rw [List.all_cons, Bool.and_eq_true] at h
    cases j with
    | zero =>
      simp only [List.getElem?_cons_zero, Option.some.injEq] at e
      subst e
      obtain ⟨a, us, es, h1, h2, h3, h4, h5⟩ := row_at h.1 r
      exact ⟨a, us, d, es, rfl, h2, h1, h3, h4, h5⟩
    | succ j =>
      obtain ⟨a, us, d', es, h1, h2⟩ := rowsLs h.2 rr j v (by simpa using e)
      exact ⟨a, us, d', es, by simpa using h1, h2⟩
section
variable {X : Cx} {a : Amb} {e2 : Expr} {rest : List Stmt} {F : En → Out} {f : En → Res (List D)} {x y : Str} {p p1 p2 p3 p4 p5 ap1 ap2 pos po1 po2 po3 po4 : Pos} {cz : Int} {jz : Nat} {cp : Pos}
theorem s_kill {k : Nat} (i r : Nat) (c : GS k X a) (h2 : PE X e2 (tO X.K X.mg a f)) (h3 : PSs X rest (tS X.K X.mg a F))
    (hN : X.N[i]? = some x := by rfl) (hv : Vis X.env.scope x := by first | exact Or.inl rfl | exact Or.inr (Or.inl rfl) | exact Or.inr (Or.inr rfl)) (hd : (x == ("__debug__" : Str)) = false := by decide) (hcd : (x == ("__classdict__" : Str)) = false := by decide)
    (hN2 : X.N[r]? = some y := by rfl) (hv2 : Vis X.env.scope y := by first | exact Or.inl rfl | exact Or.inr (Or.inl rfl) | exact Or.inr (Or.inr rfl)) (hd2 : (y == ("__debug__" : Str)) = false := by decide) (hcd2 : (y == ("__classdict__" : Str)) = false := by decide)
    (hx2 : Loc X.env.scope y := by first | exact Or.inl rfl | exact Or.inr rfl) (hfn : X.fn y = true ∨ X.env.scope.names.lookup y = some .local := by first | exact .inl rfl | exact .inr rfl)
    (hsF : ∀ z, foldedSetIterable (.Name x p) X.env z = pure z := by intro _; rfl)
    (hsw : swapsWith (.Call (.Attribute (.Name y p1) "append" ap1) [.Constant (.int cz) jz cp] [] po1) none po2.line X.env = pure false := by rfl)
    (hbase : attributeBase (.Name y p1) "append" X.env (eval (.Name y p1) X.env) = eval (.Name y p1) X.env := by rfl)
    (hfew : ((backTo po1 (starEach (.Constant (.int cz) jz cp :: []) X.env)).all (fun x => !x.1) && (backToKw po1 (keywordEach [] X.env)).all (fun x => x.1.isSome) && decide ((Expr.Constant (.int cz) jz cp :: ([] : List Expr)).length + ([] : List Keyword).length + (if ([] : List Keyword).isEmpty then 0 else 1) < 30)) = true := by rfl)
    (hline : (ap1.endLine == po1.line) = true := by rfl) (hs : starEach (.Constant (.int cz) jz cp :: []) X.env = (false, eval (.Constant (.int cz) jz cp) X.env) :: starEach [] X.env := by rfl) (hplain : (backTo po1 (starEach [] X.env)).any (·.1) = false := by rfl)
    (hsw' : swapsWith (.Call (.Attribute (.Name x p2) "append" ap2) [e2] [] po3) none po4.line X.env = pure false := by rfl)
    (hbase' : attributeBase (.Name x p2) "append" X.env (eval (.Name x p2) X.env) = eval (.Name x p2) X.env := by rfl)
    (hfew' : ((backTo po3 (starEach (e2 :: []) X.env)).all (fun x => !x.1) && (backToKw po3 (keywordEach [] X.env)).all (fun x => x.1.isSome) && decide ((e2 :: ([] : List Expr)).length + ([] : List Keyword).length + (if ([] : List Keyword).isEmpty then 0 else 1) < 30)) = true := by rfl)
    (hline' : (ap2.endLine == po3.line) = true := by rfl) (hs' : starEach (e2 :: []) X.env = (false, eval e2 X.env) :: starEach [] X.env := by rfl) (hplain' : (backTo po3 (starEach [] X.env)).any (·.1) = false := by rfl) :
    PSs X (.For (.Name y p5) (.Name x p) [.Expr (.Call (.Attribute (.Name y p1) "append" ap1) [.Constant (.int cz) jz cp] [] po1) po2] [] pos :: .Expr (.Call (.Attribute (.Name x p2) "append" ap2) [e2] [] po3) po4 :: rest) (tS X.K X.mg a (sSeq (sKill i r f) F)) :=
  (pss_cons (ps_for c.po c.calm (pi_list (pe_var hN hv hd hcd)) (pg_name c.nd hN2 hx2 hfn) (pss_one (ps_expr (pe_bm PySem.F.plainAttrs_list PySem.F.slot_list_append PySem.F.type_list_append mt_append (pe_var hN2 hv2 hd2 hcd2) (pa_cons pe_int pa_nil hs) hbase hfew hline hs hplain) hsw)) hsF)
    (pss_cons (ps_expr (pe_bm PySem.F.plainAttrs_list PySem.F.slot_list_append PySem.F.type_list_append mt_append (pe_var hN hv hd hcd) (pa_cons h2 pa_nil hs') hbase' hfew' hline' hs' hplain') hsw') h3)).imp fun Dn σ H ⟨ρ, G, hR, q⟩ => by
    unfold sSeq sKill at q
    cases hx : ρ[i]? with
    | none => simp only [hx] at q; exact q.elim
    | some s =>
      cases s with
      | tmp d =>
        cases d with
        | lst xs =>
          simp only [hx] at q
          by_cases hc : noTmp ρ i = true ∧ i ≠ r ∧ r < ρ.length ∧ xs.all rowOk = true ∧ xs.length < sizeLine ∧ (xs.all fun d => decide (dlen d + xs.length < sizeLine)) = true
          case neg =>
            have e0 : (gd (noTmp ρ i = true ∧ i ≠ r ∧ r < ρ.length ∧ xs.all rowOk = true ∧ xs.length < sizeLine ∧ (xs.all fun d => decide (dlen d + xs.length < sizeLine)) = true) (.ok ()) : Res Unit) = .stuck := if_neg hc
            rw [e0] at q
            exact q.elim
          rw [gd_pos hc] at q
          obtain ⟨hn, hir, hrl, hxs, hz1, hz2⟩ := hc
          obtain ⟨T, t⟩ := hR.tm
          obtain ⟨v, e1, rr⟩ := t.rep i _ hx
          cases rr with
          | @lst l vs _ tl rs =>
            obtain ⟨gl, h0l, hhl⟩ := t.at_ l _ tl
            let ρ0 : En := (ρ.set i .no).set r .no
            have nt0 : ∀ (j : Nat) (d : D), ρ0[j]? ≠ some (.tmp d) := fun j d e => by
              rcases get_set e with ⟨_, z, _⟩ | ⟨n, e⟩
              · cases z
              · exact noTmp_no hn j d e
            -- what the owned slots of ρ0 are
            have own0 : ∀ (j : Nat) (ob : OB), ρ0[j]? = some (.ow ob) → ρ[j]? = some (.ow ob) ∧ j ≠ r := fun j ob e => by
              rcases get_set e with ⟨_, z, _⟩ | ⟨n, e⟩
              · cases z
              · rcases get_set e with ⟨_, z, _⟩ | ⟨n2, e⟩
                · cases z
                · exact ⟨e, n⟩
            have rows := rowsLs hxs rs
            refine ⟨.ref l, e1, l, rfl, ⟨vs, SqL.of hhl⟩, fun n m σ' H' => m = vs.length - n ∧ n ≤ vs.length ∧ R X.K a.G0 a.H0 ρ0 σ' G H' ∧ σ'[i]? = some (some (.ref l)) ∧ H' l = some (.lst vs) ∧
              (∀ (j : Nat), j ≠ r → σ'[j]? = σ[j]?) ∧ ∀ (j : Nat) (v : V), vs[j]? = some v → ∃ b us, v = .ref b ∧ T b ≠ none ∧ b ≠ l ∧ H' b = some (.lst us) ∧ us.length + (vs.length - n) < sizeLine, ⟨vs.length, by simp, Nat.zero_le _, ?_, e1, hhl, fun _ _ => rfl, ?_⟩, ?_⟩
            · have h := R.setNo (R.untmp hR i hn) r (σ[r]?.getD none)
              have e : σ.set r (σ[r]?.getD none) = σ := by
                have hl : r < σ.length := by rw [← hR.len]; exact hrl
                refine List.ext_getElem? fun j => ?_
                by_cases hj : r = j
                · subst hj; rw [List.getElem?_set_self hl, List.getElem?_eq_getElem hl]; rfl
                · rw [List.getElem?_set_ne hj]
              rw [e] at h
              exact h
            · intro j v ev
              obtain ⟨b, us, d, ds, z1, z2, z3, z4, z5, z6⟩ := rows j v ev
              have h0 : vs ≠ [] := fun z => by rw [z] at ev; simp at ev
              refine ⟨b, us, z3, by rw [z5]; simp, row_ne tl rs hxs h0 z5 z6 z4, (t.at_ b _ z5).2.2, ?_⟩
              have := List.all_eq_true.mp hz2 d (List.mem_of_getElem? z1)
              rw [z2] at this
              have h5 : ds.length + xs.length < sizeLine := of_decide_eq_true this
              rw [z6.len, rs.len]; omega
            · rintro n m σ' H' ⟨rfl, hnl, hR', es, hhl', eo, hrow⟩
              by_cases hl : n < vs.length
              · refine .inr ⟨⟨vs, vs[n], SqL.of hhl', List.getElem?_eq_getElem hl⟩, fun σ2 H2 => (n + 1 ≤ vs.length ∧ R X.K a.G0 a.H0 ρ0 σ2 G H2 ∧ σ2[i]? = some (some (.ref l)) ∧ H2 l = some (.lst vs) ∧
                  (∀ (j : Nat), j ≠ r → σ2[j]? = σ[j]?) ∧ ∀ (j : Nat) (v : V), vs[j]? = some v → ∃ b us, v = .ref b ∧ T b ≠ none ∧ b ≠ l ∧ H2 b = some (.lst us) ∧ us.length + (vs.length - (n + 1)) < sizeLine), fun σ2 H2 q2 => ⟨vs.length - (n + 1), by omega, rfl, q2⟩, fun z H2 yl => ?_⟩
                obtain ⟨rfl, yv⟩ := yl
                have ez := yv vs (SqL.of hhl')
                obtain ⟨b, us, rfl, tb, bl, hb, hbz⟩ := hrow n z ez
                have tb' : ∃ o, T b = some o := by
                  cases e : T b with
                  | none => exact absurd e tb
                  | some o => exact ⟨o, rfl⟩
                obtain ⟨o, tbo⟩ := tb'
                obtain ⟨gb, h0b, _⟩ := t.at_ b o tbo
                have rl : r < σ'.length := by
                  rw [← hR'.len]
                  show r < ((ρ.set i .no).set r .no).length
                  rw [List.length_set, List.length_set]; exact hrl
                refine ⟨.ref b, List.getElem?_set_self rl, Or.inl ⟨rfl, us, SqL.of hb⟩, b, us, .int cz, rfl, rfl, hb, by omega, by omega, ?_, by rw [List.getElem?_set_ne (Ne.symm hir)]; exact es, by rw [upd_ne (Ne.symm bl)]; exact hhl', fun j hj => by rw [List.getElem?_set_ne (Ne.symm hj)]; exact eo j hj, fun j v ev => ?_⟩
                · have hR3 : R X.K a.G0 a.H0 ρ0 (σ'.set r (some (.ref b))) G H2 := by
                    have := R.setNo hR' r (some (.ref b))
                    have e : ρ0.set r .no = ρ0 := List.set_set ..
                    rw [e] at this
                    exact this
                  refine R.poke hR3 nt0 gb h0b fun j ob e3 e4 => ?_
                  obtain ⟨e5, e6⟩ := own0 j ob e3
                  rw [List.getElem?_set_ne (Ne.symm e6), eo j e6] at e4
                  rw [t.dis j ob b e5 e4] at tbo
                  cases tbo
                · obtain ⟨b2, us2, y1, y2, y3, y4, y5⟩ := hrow j v ev
                  by_cases hbb : b2 = b
                  · subst hbb
                    rw [hb] at y4; cases y4
                    exact ⟨b2, _, y1, y2, y3, upd_same, by rw [List.length_append]; simp only [List.length_cons, List.length_nil]; omega⟩
                  · exact ⟨b2, us2, y1, y2, y3, by rw [upd_ne hbb]; exact y4, by omega⟩
              · have en : n = vs.length := by omega
                subst en
                refine .inl ⟨⟨vs, SqL.of hhl', Nat.le_refl _⟩, .ref l, es, Or.inl ⟨rfl, vs, SqL.of hhl'⟩, ρ0, G, hR', ?_⟩
                have q' : Post X.K X.mg a Dn G (match ofR ρ0 (f ρ0) fun _ => Out.next ρ0 with | .next ρ' => F ρ' | o => o) := q
                cases hf : f ρ0 with
                | stuck => rw [hf] at q'; exact q'.elim
                | exc ex => rw [hf] at q'; exact fun d G2 H2 g2 xr => q' d σ' G2 H2 (R.grow hR' g2) g2.g xr
                | ok ds =>
                  rw [hf] at q'
                  intro l2 us G2 H2 g2 n1 n2 h1 rd
                  refine ⟨l, vs, .ref l2, rfl, rfl, g2.h _ _ hhl', by rw [rs.len]; exact hz1, ρ0, G2, ?_, Post.mono g2.g q'⟩
                  refine R.poke (R.grow hR' g2) nt0 (g2.f l gl (by rw [hhl']; simp)) h0l fun j ob e3 e4 => ?_
                  obtain ⟨e5, e6⟩ := own0 j ob e3
                  rw [eo j e6] at e4
                  rw [t.dis j ob l e5 e4] at tl
                  cases tl
        | _ => simp only [hx] at q; exact q.elim
      | _ => simp only [hx] at q; exact q.elim
end
end PL

set_option maxRecDepth 100000
set_option maxHeartbeats 1000000
namespace PL
open PySem
theorem bind_ok {α β : Type} (a : α) (f : α → Res β) : (Res.ok a).bind f = f a := Eq.trans rfl rfl
theorem bind_exc {α β : Type} (e : Exc) (f : α → Res β) : (Res.exc e).bind f = .exc e := Eq.trans rfl rfl
theorem bind_stuck {α β : Type} (f : α → Res β) : (Res.stuck : Res α).bind f = .stuck := Eq.trans rfl rfl
theorem ofR_ok {α : Type} (ρ : En) (a : α) (k : α → Out) : ofR ρ (.ok a) k = k a := Eq.trans rfl rfl
theorem ofR_exc {α : Type} (ρ : En) (e : Exc) (k : α → Out) : ofR ρ (.exc e) k = .exc e ρ := Eq.trans rfl rfl
theorem seq_next {f g : En → Out} {ρ ρ' : En} (h : f ρ = .next ρ') : sSeq f g ρ = g ρ' := by unfold sSeq; rw [h]
theorem seq_ret {f g : En → Out} {ρ : En} {r : RV} (h : f ρ = .ret r) : sSeq f g ρ = .ret r := by unfold sSeq; rw [h]
theorem seq_exc {f g : En → Out} {ρ ρ' : En} {e : Exc} (h : f ρ = .exc e ρ') : sSeq f g ρ = .exc e ρ' := by unfold sSeq; rw [h]
theorem for_nil (t : D → En → Res En) (b : En → Out) (ρ : En) : forL t b [] ρ = .next ρ := Eq.trans rfl rfl
theorem for_cons (i : Nat) (b : En → Out) (d : D) (ds : List D) (ρ : En) : forL (gN i) b (d :: ds) ρ = lpO (forL (gN i) b ds) (b (ρ.set i (.sh d))) := Eq.trans rfl rfl
theorem lp_next (k : En → Out) (ρ : En) : lpO k (.next ρ) = k ρ := Eq.trans rfl rfl
theorem lp_ret (k : En → Out) (r : RV) : lpO k (.ret r) = .ret r := Eq.trans rfl rfl
theorem lp_exc (k : En → Out) (e : Exc) (ρ : En) : lpO k (.exc e ρ) = .exc e ρ := Eq.trans rfl rfl
theorem sz (n : Nat) (h : n ≤ 16777216) : n ≤ sizeLine := by rw [sizeLine_eq]; exact h
theorem sz' (n : Nat) (h : n < 16777216) : n < sizeLine := by rw [sizeLine_eq]; exact h
theorem atI_nat {α : Type} (xs : List α) (i : Nat) : L2.atI xs (i : Int) = xs[i]? := by
  unfold L2.atI L2.ixN
  rw [if_pos (by omega)]
  by_cases h : (i : Int) < xs.length
  · rw [if_pos h]; show xs[(i : Int).toNat]? = _; rw [Int.toNat_natCast]
  · rw [if_neg h, List.getElem?_eq_none (by omega)]; rfl
theorem atI_of {α : Type} (xs : List α) (i : Int) (n : Nat) (h : i = n) : L2.atI xs i = xs[n]? := by rw [h, atI_nat]
theorem atI_0 {α : Type} (x : α) (xs : List α) : L2.atI (x :: xs) 0 = some x := atI_of _ 0 0 rfl
theorem atI_1 {α : Type} (x y : α) (xs : List α) : L2.atI (x :: y :: xs) 1 = some y := atI_of _ 1 1 rfl
theorem atI_2 {α : Type} (x y z : α) (xs : List α) : L2.atI (x :: y :: z :: xs) 2 = some z := atI_of _ 2 2 rfl
theorem atI_3 {α : Type} (x y z w : α) (xs : List α) : L2.atI (x :: y :: z :: w :: xs) 3 = some w := atI_of _ 3 3 rfl
theorem eq_int (a b : Int) : eqD (.int a) (.int b) = .ok (.bl (decide (a = b))) := by
  unfold eqD
  rw [gd_pos ⟨rfl, rfl⟩]
  show Res.ok (D.bl (a == b)) = _
  rw [Bool.beq_eq_decide_eq]
theorem ne_int (a b : Int) : neD (.int a) (.int b) = .ok (.bl (!decide (a = b))) := by
  unfold neD
  rw [gd_pos ⟨rfl, rfl⟩]
  show Res.ok (D.bl (!(a == b))) = _
  rw [Bool.beq_eq_decide_eq]
theorem shp_str {a : Str} (h : PyData.strOk a = true) : shp (.str a) = true := by
  unfold shp SeqAt.shaped
  simp [toPy, PyData.canLay0, PyData.depth, h]
theorem eq_str {a b : Str} (h : PyData.strOk a = true) (h2 : PyData.strOk b = true) : eqD (.str a) (.str b) = .ok (.bl (decide (a = b))) := by
  unfold eqD
  rw [gd_pos ⟨shp_str h, shp_str h2⟩]
  show Res.ok (D.bl (a == b)) = _
  rw [Bool.beq_eq_decide_eq]
theorem ne_str {a b : Str} (h : PyData.strOk a = true) (h2 : PyData.strOk b = true) : neD (.str a) (.str b) = .ok (.bl (!decide (a = b))) := by
  unfold neD
  rw [gd_pos ⟨shp_str h, shp_str h2⟩]
  show Res.ok (D.bl (!(a == b))) = _
  rw [Bool.beq_eq_decide_eq]
theorem eq_bl (a b : Bool) : eqD (.bl a) (.bl b) = .ok (.bl (decide (a = b))) := by
  cases a <;> cases b <;> rfl
theorem rng1_nat (n : Nat) (h : n ≤ 1000000000) : rng1 [.int (n : Nat)] = .ok ((List.range n).map fun k => .int ((k : Nat) : Int)) := by
  show gd (-(2 ^ 62) ≤ (n : Int) ∧ (n : Int) < 2 ^ 62) (.ok ((List.range (n : Int).toNat).map fun k => D.int ((k : Nat) : Int))) = _
  rw [gd_pos (by omega), Int.toNat_natCast]
theorem rep_nat (xs : List D) (n : Nat) (h : n ≤ 1000000000) (hz : xs.length * n ≤ 16777216) : repO (.lst xs) (.int (n : Nat)) = .ok (List.replicate n xs).flatten := by
  show gd (-(2 ^ 63) ≤ (n : Int) ∧ (n : Int) < 2 ^ 63 ∧ xs.length * (n : Int).toNat ≤ sizeLine) (.ok (List.replicate (n : Int).toNat xs).flatten) = _
  rw [gd_pos ⟨by omega, by omega, by rw [Int.toNat_natCast]; exact sz _ hz⟩, Int.toNat_natCast]
theorem mul_nat (xs : List D) (n : Nat) (h : n ≤ 1000000000) (hz : xs.length * n ≤ 16777216) : mulD (.lst xs) (.int (n : Nat)) = .ok (.lst (List.replicate n xs).flatten) := by
  show gd (-(2 ^ 63) ≤ (n : Int) ∧ (n : Int) < 2 ^ 63 ∧ xs.length * (n : Int).toNat ≤ sizeLine) (.ok (D.lst (List.replicate (n : Int).toNat xs).flatten)) = _
  rw [gd_pos ⟨by omega, by omega, by rw [Int.toNat_natCast]; exact sz _ hz⟩, Int.toNat_natCast]
theorem add_lst (xs ys : List D) (h : xs.length + ys.length ≤ 16777216) : addD (.lst xs) (.lst ys) = .ok (.lst (xs ++ ys)) := gd_pos (sz _ h)
theorem add_tup (xs ys : List D) (h : xs.length + ys.length ≤ 16777216) : addD (.tup xs) (.tup ys) = .ok (.tup (xs ++ ys)) := gd_pos (sz _ h)
theorem tup_ok (xs : List D) (h : xs.length ≤ 16777216) : tupD xs = .ok (.tup xs) := gd_pos (sz _ h)
theorem lst_ok (xs : List D) (h : xs.length ≤ 16777216) : lstD xs = .ok xs := gd_pos (sz _ h)
theorem len_lst (xs : List D) : lenL [.lst xs] = .ok (.int (xs.length : Nat)) := rfl
theorem len_tup (xs : List D) : lenL [.tup xs] = .ok (.int (xs.length : Nat)) := rfl
theorem rep_one (d : D) (m : Nat) : (List.replicate m [d]).flatten = List.replicate m d := by
  induction m with
  | zero => rfl
  | succ m ih => rw [List.replicate_succ, List.flatten_cons, ih]; rfl
theorem run_of {n : Nat} {b : En → Out} {ds : List D} {env : En} {o : Out} {r : Res RV} (he : start0 n ds = env) (ho : b env = o) (hr : runO o = r) : runF n b ds = r := by subst he; unfold runF; rw [ho]; exact hr
theorem set_eq {i : Nat} {f : En → Res D} {ρ : En} {d : D} (h : f ρ = .ok d) : sSet i f ρ = .next (ρ.set i (.sh d)) := by unfold sSet; rw [h, ofR_ok]
theorem setO_eq {i : Nat} {f : En → Res (List D)} {ρ : En} {d : List D} (h : f ρ = .ok d) : sSetO i f ρ = .next (ρ.set i (.ow (.lst d))) := by unfold sSetO; rw [h, ofR_ok]
theorem for_eq {it : En → Res (List D)} {t : D → En → Res En} {b : En → Out} {ρ : En} {ds : List D} {o : Out} (h : it ρ = .ok ds) (hf : forL t b ds ρ = o) : sFor it t b ρ = o := by unfold sFor; rw [h, ofR_ok]; exact hf
theorem appO_eq {o : List D → Res (List D)} {f : En → Res (List D)} {ρ : En} {ds : List D} {r : Res (List D)} (h : f ρ = .ok ds) (hr : o ds = r) : appO o f ρ = r := by unfold appO; rw [h, bind_ok]; exact hr
theorem app_eq {o : List D → Res D} {f : En → Res (List D)} {ρ : En} {ds : List D} {r : Res D} (h : f ρ = .ok ds) (hr : o ds = r) : app o f ρ = r := by unfold app; rw [h, bind_ok]; exact hr
theorem cons_eq {f : En → Res D} {g : En → Res (List D)} {ρ : En} {d : D} {ds : List D} (h : f ρ = .ok d) (h2 : g ρ = .ok ds) : aCons f g ρ = .ok (d :: ds) := by unfold aCons; rw [h, bind_ok, h2, bind_ok]
theorem call_eq {m : List D → Res RV} {f : En → Res (List D)} {ρ : En} {ds : List D} {r : Res D} (h : f ρ = .ok ds) (hr : rvD (m ds) = r) : callE m f ρ = r := by unfold callE; rw [h, bind_ok]; exact hr
theorem bin_eq {o : D → D → Res D} {f g : En → Res D} {ρ : En} {x y : D} {r : Res D} (h : f ρ = .ok x) (h2 : g ρ = .ok y) (hr : o x y = r) : bin o f g ρ = r := by unfold bin; rw [h, bind_ok, h2, bind_ok]; exact hr
theorem binO_eq {o : D → D → Res (List D)} {f g : En → Res D} {ρ : En} {x y : D} {r : Res (List D)} (h : f ρ = .ok x) (h2 : g ρ = .ok y) (hr : o x y = r) : binO o f g ρ = r := by unfold binO; rw [h, bind_ok, h2, bind_ok]; exact hr
theorem own_eq {f : En → Res (List D)} {ρ : En} {xs : List D} (h : f ρ = .ok xs) : own f ρ = .ok (.lst xs) := by unfold own; rw [h, bind_ok]
theorem ret_eq {f : En → Res D} {ρ : En} {d : D} (h : f ρ = .ok d) : sRet f ρ = .ret (.sh d) := by unfold sRet; rw [h, ofR_ok]
theorem retO_eq {f : En → Res (List D)} {ρ : En} {d : List D} (h : f ρ = .ok d) : sRetO f ρ = .ret (.ow d) := by unfold sRetO; rw [h, ofR_ok]
theorem if_eq {c : En → Res Bool} {f g : En → Out} {ρ : En} {b : Bool} {o : Out} (h : c ρ = .ok b) (ho : (if b then f ρ else g ρ) = o) : sIf c f g ρ = o := by unfold sIf; rw [h, ofR_ok]; exact ho
theorem drop_eq {f : En → Res D} {ρ : En} {d : D} (h : f ρ = .ok d) : sDrop f ρ = .next ρ := by unfold sDrop; rw [h, ofR_ok]
theorem drop_exc {f : En → Res D} {ρ : En} {e : Exc} (h : f ρ = .exc e) : sDrop f ρ = .exc e ρ := by unfold sDrop; rw [h, ofR_exc]
theorem tst_eq {o : D → Res Bool} {f : En → Res D} {ρ : En} {d : D} {r : Res Bool} (h : f ρ = .ok d) (hr : o d = r) : tst o f ρ = r := by unfold tst; rw [h, bind_ok]; exact hr
theorem not_eq {f : En → Res Bool} {ρ : En} {b : Bool} (h : f ρ = .ok b) : notB f ρ = .ok (!b) := by unfold notB; rw [h, bind_ok]
theorem lc_yes {i : Nat} {tt : En → Res Bool} {te : En → Res D} {d v : D} {ds vs : List D} {ρ : En} (h : tt (ρ.set i (.sh d)) = .ok true) (h2 : te (ρ.set i (.sh d)) = .ok v) (h3 : lcL i tt te ds ρ = .ok vs) : lcL i tt te (d :: ds) ρ = .ok (v :: vs) := by
  unfold lcL; rw [h]; simp only [h2, h3]
theorem lc_no {i : Nat} {tt : En → Res Bool} {te : En → Res D} {d : D} {ds : List D} {ρ : En} {r : Res (List D)} (h : tt (ρ.set i (.sh d)) = .ok false) (h3 : lcL i tt te ds ρ = r) : lcL i tt te (d :: ds) ρ = r := by
  unfold lcL; rw [h]; exact h3
theorem seq_n {f g : En → Out} {ρ ρ' : En} {o : Out} (h : f ρ = .next ρ') (k : g ρ' = o) : sSeq f g ρ = o := (seq_next h).trans k
theorem lce_eq {it : En → Res (List D)} {i : Nat} {tt : En → Res Bool} {te : En → Res D} {ρ : En} {ds vs : List D} (h : it ρ = .ok ds) (hz : ds.length ≤ 16777216) (h2 : lcL i tt te ds ρ = .ok vs) : lcE it i tt te ρ = .ok vs := by
  unfold lcE; rw [h, bind_ok, gd_pos (sz _ hz)]; exact h2
end PL

set_option maxRecDepth 100000
set_option maxHeartbeats 1000000
namespace PL
open PySem
theorem tup2 (a b : D) : tupD [a, b] = .ok (.tup [a, b]) := gd_pos (sz _ (by simp))
theorem cut_last (xs : List D) : cutG xs (some (-1)) none = xs.drop (xs.length - 1) := by
  unfold cutG
  have e1 : HT.sIx xs.length 0 (some (-1)) = xs.length - 1 := by
    show (if (-1 : Int) < 0 then ((-1 : Int) + (xs.length : Int)).toNat else min (-1 : Int).toNat xs.length) = xs.length - 1
    rw [if_pos (by decide)]
    omega
  rw [e1, HT.sIx_none, List.take_of_length_le (by rw [List.length_drop]; omega)]
theorem eq_lst_shp {xs ys : List D} (h : shp (.lst xs) = true) (h2 : shp (.lst ys) = true) : eqD (.lst xs) (.lst ys) = .ok (.bl (eqv (.lst xs) (.lst ys))) := gd_pos ⟨h, h2⟩
theorem ne_of_eqD {a b : D} {v : Bool} (h : eqD a b = .ok (.bl v)) : neD a b = .ok (.bl (!v)) := by
  unfold eqD at h
  unfold neD
  obtain ⟨hc, h⟩ := gd_ok h
  rw [gd_pos hc]
  cases h
  rfl
theorem app_ok {i : Nat} {f : En → Res D} {ρ : En} {xs : List D} {d : D} (h : owL ρ i = .ok xs) (hf : f ρ = .ok d) (hz : xs.length < 16777216) : sApp i f ρ = .next (setL ρ i (xs ++ [d])) := by
  unfold sApp
  rw [h, ofR_ok, hf, ofR_ok, gd_pos (sz' _ hz), ofR_ok]
theorem put_ok {i : Nat} {f g : En → Res D} {ρ : En} {xs : List D} {d n : D} {j : Nat} (h : owL ρ i = .ok xs) (hg : g ρ = .ok d) (hf : f ρ = .ok n) (hn : n = .int (j : Nat)) (hj : j < xs.length) : sPut i f g ρ = .next (setL ρ i (xs.set j d)) := by
  subst hn
  have e : putAt xs d (.int (j : Nat)) = .ok (xs.set j d) := by
    have e : L2.ixN xs.length (j : Nat) = some j := by
      unfold L2.ixN
      rw [if_pos (by omega), if_pos (by omega), Int.toNat_natCast]
    show (match L2.ixN xs.length (j : Nat) with | some j => Res.ok (xs.set j d) | none => .stuck) = _
    rw [e]
  unfold sPut
  rw [h, ofR_ok, hg, ofR_ok, hf, ofR_ok, e, ofR_ok]
theorem ixO_ok {i : Nat} {f : En → Res D} {ρ : En} {xs : List D} {j : Nat} (h : owL ρ i = .ok xs) (hf : f ρ = .ok (.int (j : Nat))) (hj : j < xs.length) : ixO i f ρ = .ok xs[j] := by
  unfold ixO
  rw [h, bind_ok, hf, bind_ok]
  show (match L2.atI xs (j : Nat) with | some d => Res.ok d | none => .stuck) = _
  rw [atI_nat, List.getElem?_eq_getElem hj]
theorem bor_len {ρ : En} {i : Nat} {xs : List D} (h : owL ρ i = .ok xs) (hv : (ρ.set i (.sh (.lst xs)))[i]? = some (.sh (.lst xs))) : borE i (app lenL (aCons (eVar i) aNil)) ρ = .ok (.int (xs.length : Nat)) := by
  unfold borE
  rw [h]
  have e : app lenL (aCons (eVar i) aNil) (ρ.set i (.sh (.lst xs))) = .ok (.int (xs.length : Nat)) := app_eq (cons_eq (show eVar i _ = .ok (.lst xs) by unfold eVar; rw [hv]) rfl) (len_lst xs)
  simp only [e]
  exact gd_pos rfl
theorem putK_ok {i : Nat} {f g : En → Res D} {ρ : En} {kvs : List (L2.Key × D)} {d n : D} {k : L2.Key} (h : owK ρ i = .ok kvs) (hg : g ρ = .ok d) (hf : f ρ = .ok n) (hk : keyOf n = .ok k) (hz : kvs.length < 16777216) : sPutK i f g ρ = .next (ρ.set i (.ow (.dk (putD kvs k d)))) := by
  unfold sPutK
  rw [h, ofR_ok, hg, ofR_ok, hf, ofR_ok, hk, ofR_ok, gd_pos (sz' _ hz), ofR_ok]
theorem getK_ok {i : Nat} {f : En → Res D} {ρ : En} {kvs : List (L2.Key × D)} {d n : D} {k : L2.Key} (h : owK ρ i = .ok kvs) (hf : f ρ = .ok n) (hk : keyOf n = .ok k) (hv : valD kvs k = some d) : getK i f ρ = .ok d := by
  unfold getK
  rw [h, bind_ok, hf, bind_ok, hk, bind_ok, hv]
theorem call_sh {m : List D → Res RV} {f : En → Res (List D)} {ρ : En} {ds : List D} {d : D} (h : f ρ = .ok ds) (hm : m ds = .ok (.sh d)) : callE m f ρ = .ok d := call_eq h (by rw [hm]; rfl)
theorem call_ow {m : List D → Res RV} {f : En → Res (List D)} {ρ : En} {ds : List D} {d : List D} (h : f ρ = .ok ds) (hm : m ds = .ok (.ow d)) : callE m f ρ = .ok (.lst d) := call_eq h (by rw [hm]; rfl)
theorem call_exc {m : List D → Res RV} {f : En → Res (List D)} {ρ : En} {ds : List D} {e : Exc} (h : f ρ = .ok ds) (hm : m ds = .exc e) : callE m f ρ = .exc e := call_eq h (by rw [hm]; rfl)
theorem callO_ow {m : List D → Res RV} {f : En → Res (List D)} {ρ : En} {ds : List D} {d : List D} (h : f ρ = .ok ds) (hm : m ds = .ok (.ow d)) : callO m f ρ = .ok d := by unfold callO; rw [h, bind_ok, hm]; rfl
theorem callO_exc {m : List D → Res RV} {f : En → Res (List D)} {ρ : En} {ds : List D} {e : Exc} (h : f ρ = .ok ds) (hm : m ds = .exc e) : callO m f ρ = .exc e := by unfold callO; rw [h, bind_ok, hm]; rfl
theorem borT_ok {i : Nat} {t : En → Res Bool} {ρ : En} {xs : List D} {b : Bool} (h : owL ρ i = .ok xs) (ht : t (ρ.set i (.sh (.lst xs))) = .ok b) : borT i t ρ = .ok b := by
  unfold borT; rw [h]; simp only [ht]
theorem borE_ok {i : Nat} {t : En → Res D} {ρ : En} {xs : List D} {d : D} (h : owL ρ i = .ok xs) (ht : t (ρ.set i (.sh (.lst xs))) = .ok d) (hs : scl d = true) : borE i t ρ = .ok d := by
  unfold borE; rw [h]; simp only [ht]; exact gd_pos hs
theorem borO_ok {i : Nat} {t : En → Res (List D)} {ρ : En} {xs ds : List D} (h : owL ρ i = .ok xs) (ht : t (ρ.set i (.sh (.lst xs))) = .ok ds) (hs : sclA ds = true) : borO i t ρ = .ok ds := by
  unfold borO; rw [h]; simp only [ht]; exact gd_pos hs
theorem andV_yes {f g : En → Res D} {ρ : En} (h : f ρ = .ok (.bl true)) (h2 : g ρ = .ok (.bl true)) : andV f g ρ = .ok (.bl true) := by unfold andV; rw [h, bind_ok]; exact h2
theorem cut_init (xs : List D) (x : D) : cutG (xs ++ [x]) none (some (-1)) = xs := by
  unfold cutG
  have e1 : HT.sIx (xs ++ [x]).length (xs ++ [x]).length (some (-1)) = xs.length := by
    show (if (-1 : Int) < 0 then ((-1 : Int) + ((xs ++ [x]).length : Int)).toNat else min (-1 : Int).toNat (xs ++ [x]).length) = xs.length
    rw [if_pos (by decide), List.length_append]
    simp only [List.length_cons, List.length_nil]
    omega
  rw [e1, HT.sIx_none, List.drop_zero, Nat.sub_zero, List.take_left]
theorem sclA_of : ∀ {xs : List D}, (∀ x ∈ xs, scl x = true) → sclA xs = true
  | [], _ => rfl
  | x :: xs, h => by
    unfold sclA
    rw [h x List.mem_cons_self, sclA_of fun y hy => h y (List.mem_cons_of_mem _ hy)]
    rfl
theorem cut_to (xs : List D) (k : Nat) : cutG xs none (some (k : Int)) = xs.take k := by
  unfold cutG
  rw [HT.sIx_none, HT.sIx_nat, List.drop_zero, Nat.sub_zero, List.take_eq_take_iff]
  omega
theorem cut_from (xs : List D) (k : Nat) (hk : 0 < k) : cutG xs (some (-(k : Int))) none = xs.drop (xs.length - k) := by
  unfold cutG
  have e1 : HT.sIx xs.length 0 (some (-(k : Int))) = xs.length - k := by
    show (if (-(k : Int)) < 0 then ((-(k : Int)) + (xs.length : Int)).toNat else min (-(k : Int)).toNat xs.length) = xs.length - k
    rw [if_pos (by omega)]
    omega
  rw [e1, HT.sIx_none, List.take_of_length_le (by rw [List.length_drop]; omega)]
theorem flat_len (n : Nat) (xs : List D) : (List.replicate n xs).flatten.length = n * xs.length := by
  induction n with
  | zero => simp
  | succ n ih => rw [List.replicate_succ, List.flatten_cons, List.length_append, ih, Nat.succ_mul]; omega
theorem or_no {f g : En → Res Bool} {ρ : En} (h : f ρ = .ok false) (h2 : g ρ = .ok false) : orB f g ρ = .ok false := by unfold orB; rw [h, bind_ok]; exact h2
theorem it_eq {f : En → Res D} {ρ : En} {d : D} {ds : List D} (h : f ρ = .ok d) (hs : seqOf d = .ok ds) : itE f ρ = .ok ds := by unfold itE; rw [h, bind_ok]; exact hs
theorem map_erase {α β : Type} (f : α → β) : ∀ (l : List α) (n : Nat), (l.map f).eraseIdx n = (l.eraseIdx n).map f
  | [], _ => rfl
  | x :: l, 0 => rfl
  | x :: l, n + 1 => by
    show f x :: (l.map f).eraseIdx n = f x :: (l.eraseIdx n).map f
    rw [map_erase f l n]
end PL

set_option maxRecDepth 100000
set_option maxHeartbeats 1000000
namespace PL
open PySem
/-! ## steps for the engine: results are told from inside out -/
def seqK (g : En → Out) : Out → Out | .next ρ => g ρ | o => o
theorem z_seq {f g : En → Out} {ρ : En} {o1 o : Out} (h : f ρ = o1) (k : seqK g o1 = o) : sSeq f g ρ = o := by
  subst h; rw [← k]; unfold sSeq seqK; cases f ρ <;> rfl
theorem z_next {g : En → Out} {ρ : En} {o : Out} (h : g ρ = o) : seqK g (.next ρ) = o := h
theorem z_ret {g : En → Out} {r : RV} : seqK g (.ret r) = .ret r := rfl
theorem z_retE {g : En → Out} {r r' : RV} (h : r = r') : seqK g (.ret r) = .ret r' := by rw [← h]; rfl
theorem z_exc {g : En → Out} {e : Exc} {ρ : En} : seqK g (.exc e ρ) = .exc e ρ := rfl
theorem z_cont {g : En → Out} {ρ : En} : seqK g (.cont ρ) = .cont ρ := rfl
theorem z_brk {g : En → Out} {ρ : En} : seqK g (.brk ρ) = .brk ρ := rfl
section
variable {α β : Type}
theorem z_ofok {ρ : En} {x : α} {k : α → Out} {o : Out} (h : k x = o) : ofR ρ (.ok x) k = o := h
theorem z_ofexc {ρ : En} {e : Exc} {k : α → Out} : ofR ρ (.exc e) k = .exc e ρ := rfl
theorem z_of {ρ : En} {t r : Res α} {k : α → Out} {o : Out} (h : t = r) (h2 : ofR ρ r k = o) : ofR ρ t k = o := by subst h; exact h2
theorem z_bok {x : α} {k : α → Res β} {r : Res β} (h : k x = r) : Res.bind (.ok x) k = r := h
theorem z_bexc {e : Exc} {k : α → Res β} : Res.bind (.exc e) k = .exc e := rfl
theorem z_b {t r : Res α} {k : α → Res β} {r2 : Res β} (h : t = r) (h2 : Res.bind r k = r2) : Res.bind t k = r2 := by subst h; exact h2
theorem z_gd {c : Prop} {i : Decidable c} {x r : Res α} (h : c) (h2 : x = r) : @gd _ c i x = r := by rw [gd_pos h]; exact h2
theorem z_itet {b : Bool} {x y r : α} (h : b = true) (k : x = r) : (if b = true then x else y) = r := by rw [if_pos h]; exact k
theorem z_itef {b : Bool} {x y r : α} (h : b = false) (k : y = r) : (if b = true then x else y) = r := by rw [if_neg (by rw [h]; decide)]; exact k
end
def tryK (ls : List Clz) : Out → Out | .exc e ρ => tryO ls e ρ | o => o
theorem z_try {f : En → Out} {ls : List Clz} {ρ : En} {o1 o : Out} (h : f ρ = o1) (k : tryK ls o1 = o) : sTry f ls ρ = o := by
  subst h; rw [← k]; unfold sTry tryK; cases f ρ <;> rfl
theorem z_trynext {ls : List Clz} {ρ : En} : tryK ls (.next ρ) = .next ρ := rfl
theorem z_tryret {ls : List Clz} {r : RV} : tryK ls (.ret r) = .ret r := rfl
theorem z_set {ρ ρ' : En} {i : Nat} {s : Sl} (h : ρ.set i s = ρ') : Out.next (ρ.set i s) = .next ρ' := by rw [h]
theorem z_set0 {s t : Sl} {ρ : En} : (s :: ρ).set 0 t = t :: ρ := rfl
theorem z_setS {s t : Sl} {ρ ρ' : En} {n : Nat} (h : ρ.set n t = ρ') : (s :: ρ).set (n + 1) t = s :: ρ' := by rw [List.set_cons_succ, h]
theorem z_var {ρ : En} {i : Nat} {d : D} (h : ρ[i]? = some (.sh d)) : eVar i ρ = .ok d := by unfold eVar; rw [h]
theorem z_owL {ρ : En} {i : Nat} {xs : List D} (h : ρ[i]? = some (.ow (.lst xs))) : owL ρ i = .ok xs := by unfold owL; rw [h]
theorem z_0 {s : Sl} {ρ : En} : (s :: ρ)[0]? = some s := rfl
theorem z_S {s t : Sl} {ρ : En} {n : Nat} (h : ρ[n]? = some t) : (s :: ρ)[n + 1]? = some t := h
section
variable {ρ ρ' : En} {o : Out} {i : Nat} {f g : En → Res D} {fl : En → Res (List D)} {b c : En → Res Bool} {F F2 : En → Out} {r : Res D} {rl : Res (List D)} {rb : Res Bool} {m : List D → Res RV}
theorem u_set (h : ofR ρ (f ρ) (fun d => .next (ρ.set i (.sh d))) = o) : sSet i f ρ = o := h
theorem u_setO (h : ofR ρ (fl ρ) (fun d => .next (ρ.set i (.ow (.lst d)))) = o) : sSetO i fl ρ = o := h
theorem u_drop (h : ofR ρ (f ρ) (fun _ => .next ρ) = o) : sDrop f ρ = o := h
theorem u_ret (h : ofR ρ (f ρ) (fun d => .ret (.sh d)) = o) : sRet f ρ = o := h
theorem u_retO (h : ofR ρ (fl ρ) (fun d => .ret (.ow d)) = o) : sRetO fl ρ = o := h
theorem u_retV {xs : List D} (h : ρ[i]? = some (.ow (.lst xs))) : sRetV i ρ = .ret (.ow xs) := by unfold sRetV; rw [h]
theorem u_if (h : ofR ρ (c ρ) (fun b => if b = true then F ρ else F2 ρ) = o) : sIf c F F2 ρ = o := h
theorem u_frz {xs : List D} (h : ρ[i]? = some (.ow (.lst xs))) (h2 : ρ.set i (.sh (.lst xs)) = ρ') (k : F ρ' = o) : sFrz i F ρ = o := by unfold sFrz; rw [h]; simp only [h2]; exact k
theorem u_for {it : En → Res (List D)} {t : D → En → Res En} (h : ofR ρ (it ρ) (fun ds => forL t F ds ρ) = o) : sFor it t F ρ = o := h
theorem u_raise {mk : List D → Res Exc} (h : ofR ρ (fl ρ) (fun ds => ofR ρ (mk ds) fun e => .exc e ρ) = o) : sRaise mk fl ρ = o := h
theorem u_app (h : ofR ρ (owL ρ i) (fun xs => ofR ρ (f ρ) fun d => ofR ρ (gd (xs.length < sizeLine) (.ok ())) fun _ => .next (ρ.set i (.ow (.lst (xs ++ [d]))))) = o) : sApp i f ρ = o := h
theorem u_put (h : ofR ρ (owL ρ i) (fun xs => ofR ρ (g ρ) fun d => ofR ρ (f ρ) fun n => ofR ρ (putAt xs d n) fun ys => .next (ρ.set i (.ow (.lst ys)))) = o) : sPut i f g ρ = o := h
theorem u_ins (h : ofR ρ (owL ρ i) (fun xs => ofR ρ (fl ρ) fun ds => ofR ρ (insAt xs ds) fun ys => .next (ρ.set i (.ow (.lst ys)))) = o) : sIns i fl ρ = o := h
theorem u_popAt (h : ofR ρ (owL ρ i) (fun xs => ofR ρ (f ρ) fun d => ofR ρ (popAt xs d) fun ys => .next (ρ.set i (.ow (.lst ys)))) = o) : sPopAt i f ρ = o := h
theorem u_pop (h : ofR ρ (owL ρ i) (fun xs => ofR ρ (gd (xs ≠ []) (.ok ())) fun _ => .next (ρ.set i (.ow (.lst xs.dropLast)))) = o) : sPop i ρ = o := h
theorem u_bin {op : D → D → Res D} (h : (f ρ).bind (fun x => (g ρ).bind fun y => op x y) = r) : PL.bin op f g ρ = r := h
theorem u_binO {op : D → D → Res (List D)} (h : (f ρ).bind (fun x => (g ρ).bind fun y => op x y) = rl) : binO op f g ρ = rl := h
theorem u_una {op : D → Res D} (h : (f ρ).bind (fun x => op x) = r) : una op f ρ = r := h
theorem u_nil : aNil ρ = .ok [] := rfl
theorem u_cons (h : (f ρ).bind (fun x => (fl ρ).bind fun xs => .ok (x :: xs)) = rl) : aCons f fl ρ = rl := h
theorem u_apl {op : List D → Res D} (h : (fl ρ).bind op = r) : app op fl ρ = r := h
theorem u_aplO {op : List D → Res (List D)} (h : (fl ρ).bind op = rl) : appO op fl ρ = rl := h
theorem u_own (h : (fl ρ).bind (fun xs => .ok (.lst xs)) = r) : PL.own fl ρ = r := h
theorem u_tru (h : (b ρ).bind (fun x => .ok (.bl x)) = r) : tru b ρ = r := h
theorem u_ifE (h : (c ρ).bind (fun b => if b = true then f ρ else g ρ) = r) : ifE c f g ρ = r := h
theorem u_andB (h : (b ρ).bind (fun x => if x = true then c ρ else .ok false) = rb) : andB b c ρ = rb := h
theorem u_orB (h : (b ρ).bind (fun x => if x = true then .ok true else c ρ) = rb) : orB b c ρ = rb := h
theorem u_notB (h : (b ρ).bind (fun x => .ok (!x)) = rb) : notB b ρ = rb := h
theorem u_tst {op : D → Res Bool} (h : (f ρ).bind op = rb) : tst op f ρ = rb := h
theorem u_andV (h : (f ρ).bind (fun x => (bOf x).bind fun b => if b = true then g ρ else .ok (.bl false)) = r) : andV f g ρ = r := h
theorem u_orV (h : (f ρ).bind (fun x => (bOf x).bind fun b => if b = true then .ok (.bl true) else g ρ) = r) : orV f g ρ = r := h
theorem u_notV (h : (f ρ).bind (fun x => (bOf x).bind fun b => .ok (.bl (!b))) = r) : notV f ρ = r := h
theorem u_call (h : (fl ρ).bind (fun ds => rvD (m ds)) = r) : callE m fl ρ = r := h
theorem u_callO (h : (fl ρ).bind (fun ds => rvO (m ds)) = rl) : callO m fl ρ = rl := h
theorem u_it (h : (f ρ).bind seqOf = rl) : itE f ρ = rl := h
theorem u_isi {T : String} (h : (f ρ).bind (fun d => .ok (.bl (isiB (tyD d) T))) = r) : isiD T f ρ = r := h
theorem u_lc {it : En → Res (List D)} (h : (it ρ).bind (fun ds => gd (ds.length ≤ sizeLine) (lcL i b f ds ρ)) = rl) : lcE it i b f ρ = rl := h
theorem u_ixO (h : (owL ρ i).bind (fun xs => (f ρ).bind fun n => ixD (.lst xs) n) = r) : ixO i f ρ = r := by
  rw [← h]; unfold ixO
  cases owL ρ i with
  | ok xs => simp only [bind_ok]; cases f ρ with
    | ok n => simp only [bind_ok]; cases n <;> rfl
    | _ => rfl
  | _ => rfl
theorem u_borT {xs : List D} {v : Bool} (h : ρ[i]? = some (.ow (.lst xs))) (h2 : ρ.set i (.sh (.lst xs)) = ρ') (k : c ρ' = .ok v) : borT i c ρ = .ok v := by
  subst h2; exact borT_ok (z_owL h) k
theorem u_borE {xs : List D} {v : D} (h : ρ[i]? = some (.ow (.lst xs))) (h2 : ρ.set i (.sh (.lst xs)) = ρ') (k : f ρ' = .ok v) (hs : scl v = true) : borE i f ρ = .ok v := by
  subst h2; exact borE_ok (z_owL h) k hs
theorem u_borO {xs ds : List D} (h : ρ[i]? = some (.ow (.lst xs))) (h2 : ρ.set i (.sh (.lst xs)) = ρ') (k : fl ρ' = .ok ds) (hs : sclA ds = true) : borO i fl ρ = .ok ds := by
  subst h2; exact borO_ok (z_owL h) k hs
theorem u_strM {α : Type} {op : Str → D → Res α} {s : Str} {y : D} {ra : Res α} (h : f ρ = .ok (.str s)) (h2 : g ρ = .ok y) (k : op s y = ra) : strM op f g ρ = ra := by unfold strM; rw [h, bind_ok]; show (g ρ).bind _ = _; rw [h2, bind_ok]; exact k
theorem u_aug {op : Int → Int → Int} {n m : Int} (h : ρ[i]? = some (.sh (.int n))) (h2 : f ρ = .ok (.int m)) (k : ρ.set i (.sh (.int (op n m))) = ρ') : sAug i op f ρ = .next ρ' := by unfold sAug; rw [h]; simp only [h2, ofR_ok]; rw [k]
theorem u_putAug {op : Int → Int → Int} {xs : List D} {n x y : Int} {j : Nat} (h : ρ[i]? = some (.ow (.lst xs))) (h1 : f ρ = .ok (.int n)) (h2 : L2.ixN xs.length n = some j) (h3 : xs[j]? = some (.int x)) (h4 : g ρ = .ok (.int y)) (k : ρ.set i (.ow (.lst (xs.set j (.int (op x y))))) = ρ') : sPutAug i op f g ρ = .next ρ' := by
  unfold sPutAug
  rw [z_owL h, ofR_ok, h1, ofR_ok]
  simp only [h2, h3, h4, ofR_ok, setL, k]
theorem u_pS {ro : Res (Option Int)} (h : (f ρ).bind (fun x => match x with | .int i => .ok (some i) | _ => .stuck) = ro) : pS f ρ = ro := h
theorem u_pN : pN ρ = .ok none := rfl
theorem u_slice {l h : En → Res (Option Int)} (k : (f ρ).bind (fun x => (l ρ).bind fun lo => (h ρ).bind fun hi => sliceD x lo hi) = r) : sliceE f l h ρ = r := k
theorem u_sliceO {l h : En → Res (Option Int)} (k : (f ρ).bind (fun x => (l ρ).bind fun lo => (h ρ).bind fun hi => cutO x lo hi) = rl) : sliceO f l h ρ = rl := k
theorem z_rvD {t : Res RV} {r1 : Res RV} (h : t = r1) (k : rvD r1 = r) : rvD t = r := by subst h; exact k
theorem z_rvO {t : Res RV} {r1 : Res RV} (h : t = r1) (k : rvO r1 = rl) : rvO t = rl := by subst h; exact k
theorem z_run {n : Nat} {ds : List D} {o : Out} {r : Res RV} (h : F (start0 n ds) = o) (k : runO o = r) : runF n F ds = r := by unfold runF; rw [h]; exact k
end
theorem z_rvsh {d : D} : rvD (.ok (.sh d)) = .ok d := rfl
theorem z_rvow {xs : List D} : rvD (.ok (.ow xs)) = .ok (.lst xs) := rfl
theorem z_rvexc {e : Exc} : rvD (.exc e) = .exc e := rfl
theorem z_rvOow {xs : List D} : rvO (.ok (.ow xs)) = .ok xs := rfl
theorem z_rvOexc {e : Exc} : rvO (.exc e) = .exc e := rfl
/-! ## operators on data -/
theorem j_addI (a b : Int) : addD (.int a) (.int b) = .ok (.int (a + b)) := rfl
theorem j_subI (a b : Int) : subD (.int a) (.int b) = .ok (.int (a - b)) := rfl
theorem j_mulI (a b : Int) (h : a.natAbs < 2 ^ 100) (h2 : b.natAbs < 2 ^ 100) : mulD (.int a) (.int b) = .ok (.int (a * b)) := by
  have ha : a.natAbs.log2 < 100 := by rcases Nat.eq_zero_or_pos a.natAbs with e | e; · rw [e]; decide
                                      · exact (Nat.log2_lt (by omega)).mpr h
  have hb : b.natAbs.log2 < 100 := by rcases Nat.eq_zero_or_pos b.natAbs with e | e; · rw [e]; decide
                                      · exact (Nat.log2_lt (by omega)).mpr h2
  show gd _ _ = _
  exact gd_pos (by omega)
theorem j_modI (a b : Int) (h : 0 < b) : modD (.int a) (.int b) = .ok (.int (a % b)) := gd_pos h
theorem j_fdivI (a b : Int) (h : 0 < b) (h2 : b < 18446744073709551616) : fdivD (.int a) (.int b) = .ok (.int (a / b)) := gd_pos ⟨h, h2⟩
theorem j_ltI (a b : Int) : ltD (.int a) (.int b) = .ok (.bl (decide (a < b))) := rfl
theorem j_leI (a b : Int) : leD (.int a) (.int b) = .ok (.bl (decide (a ≤ b))) := rfl
theorem j_gtI (a b : Int) : gtD (.int a) (.int b) = .ok (.bl (decide (b < a))) := rfl
theorem j_geI (a b : Int) : geD (.int a) (.int b) = .ok (.bl (decide (b ≤ a))) := rfl
theorem j_negI (a : Int) : negD (.int a) = .ok (.int (-a)) := rfl
theorem j_addL (xs ys : List D) (h : xs.length + ys.length ≤ 16777216) : addD (.lst xs) (.lst ys) = .ok (.lst (xs ++ ys)) := gd_pos (sz _ h)
theorem j_addT (xs ys : List D) (h : xs.length + ys.length ≤ 16777216) : addD (.tup xs) (.tup ys) = .ok (.tup (xs ++ ys)) := gd_pos (sz _ h)
theorem j_isN (d : D) : isD d .non = .ok (.bl (isNonD d)) := by cases d <;> rfl
theorem j_isB (a b : Bool) : isD (.bl a) (.bl b) = .ok (.bl (decide (a = b))) := rfl
theorem j_isNotN (d : D) : isNotD d .non = .ok (.bl (!isNonD d)) := by cases d <;> rfl
theorem j_isNotB (a b : Bool) : isNotD (.bl a) (.bl b) = .ok (.bl (!decide (a = b))) := rfl
theorem j_ixT {xs : List D} {i : Int} {d : D} (h : L2.atI xs i = some d) : ixD (.tup xs) (.int i) = .ok d := by simp only [ixD, h]
theorem j_ixL {xs : List D} {i : Int} {d : D} (h : L2.atI xs i = some d) : ixD (.lst xs) (.int i) = .ok d := by simp only [ixD, h]
theorem j_lenL (xs : List D) : lenL [.lst xs] = .ok (.int (xs.length : Nat)) := rfl
theorem j_lenT (xs : List D) : lenL [.tup xs] = .ok (.int (xs.length : Nat)) := rfl
theorem j_int (i : Int) : intL [.int i] = .ok (.int i) := rfl
theorem j_abs (i : Int) : absL [.int i] = .ok (.int (if i < 0 then -i else i)) := rfl
theorem j_max (i j : Int) : max2L [.int i, .int j] = .ok (.int (if j > i then j else i)) := rfl
theorem j_min (i j : Int) : min2L [.int i, .int j] = .ok (.int (if j < i then j else i)) := rfl
theorem j_listL (xs : List D) : listL [.lst xs] = .ok xs := rfl
theorem j_listT (xs : List D) : listL [.tup xs] = .ok xs := rfl
theorem j_tupL (xs : List D) : tupleL [.lst xs] = .ok (.tup xs) := rfl
theorem j_tupT (xs : List D) : tupleL [.tup xs] = .ok (.tup xs) := rfl
theorem j_bOf (b : Bool) : bOf (.bl b) = .ok b := rfl
theorem j_truB (b : Bool) : truD (.bl b) = .ok b := rfl
theorem j_bv (d : D) : mkBV [d] = .ok (.badValue d) := rfl
theorem j_tm (d : D) : mkTM [d] = .ok (.tooMany d) := rfl
theorem j_btx (a b c : D) : mkBT [a, b, c] = .ok (.badText a b c) := rfl
theorem j_seqL (xs : List D) : seqOf (.lst xs) = .ok xs := rfl
theorem j_seqT (xs : List D) : seqOf (.tup xs) = .ok xs := rfl
theorem j_put {xs ys : List D} {d : D} {k : Int} {j : Nat} (h : L2.ixN xs.length k = some j) (h2 : xs.set j d = ys) : putAt xs d (.int k) = .ok ys := by unfold putAt; simp only [h]; rw [h2]
theorem ixN_of {n j : Nat} {k : Int} (h : k = (j : Int)) (hj : j < n) : L2.ixN n k = some j := by
  unfold L2.ixN
  rw [if_pos (by omega), if_pos (by omega), h, Int.toNat_natCast]
theorem y_ok {α : Type} {a : α} : Res.ok a = .ok a := rfl
theorem y_rexc {α : Type} {e : Exc} : (Res.exc e : Res α) = .exc e := rfl
theorem y_next {ρ : En} : Out.next ρ = .next ρ := rfl
theorem y_ret {r : RV} : Out.ret r = .ret r := rfl
theorem y_exc {e : Exc} {ρ : En} : Out.exc e ρ = .exc e ρ := rfl
theorem y_nx {ρ : En} : sNext ρ = .next ρ := rfl
theorem y_yes {ρ : En} : yesB ρ = .ok true := rfl
theorem y_retB {a b : Bool} (h : a = b) : Out.ret (.sh (.bl a)) = .ret (.sh (.bl b)) := by rw [h]
theorem y_retI {a b : Int} (h : a = b) : Out.ret (.sh (.int a)) = .ret (.sh (.int b)) := by rw [h]
theorem y_retD {a b : D} (h : a = b) : Out.ret (.sh a) = .ret (.sh b) := by rw [h]
theorem y_nextE {a b : En} (h : a = b) : Out.next a = .next b := by rw [h]
theorem y_c {d : D} {ρ : En} : eC d ρ = .ok d := rfl
theorem y_retN {ρ : En} : sRetN ρ = .ret (.sh .non) := rfl
theorem y_cont {ρ : En} : sCont ρ = .cont ρ := rfl
theorem y_brk {ρ : En} : sBrk ρ = .brk ρ := rfl
theorem decT {p : Prop} {i : Decidable p} (h : p) : @decide p i = true := decide_eq_true h
theorem decF {p : Prop} {i : Decidable p} (h : ¬ p) : @decide p i = false := decide_eq_false h
theorem notT {b : Bool} (h : b = false) : (!b) = true := by rw [h]; rfl
theorem notF {b : Bool} (h : b = true) : (!b) = false := by rw [h]; rfl
end PL

local macro_rules
  | `(tactic| exists $es,*) => `(tactic| (((with_reducible refine (?_ : @Eq Int _ _)); first | with_reducible rfl | omega)))
local macro_rules
  | `(tactic| exists $es,*) => `(tactic| (((with_reducible refine (?_ : @Eq Bool _ _)); first | first | with_reducible rfl | with_reducible assumption | ((with_reducible apply PL.decT); first | with_reducible assumption | with_reducible rfl | omega | ((simp only [List.length_cons, List.length_nil, List.length_append, List.length_map, List.length_replicate]); omega)) | ((with_reducible refine (?_ : PL.isiB _ _ = _)); rfl) | ((with_reducible refine (?_ : PL.isNonD _ = _)); rfl) | ((with_reducible refine (?_ : PL.scl _ = _)); rfl) | ((with_reducible refine (?_ : PL.sclA _ = _)); rfl) | ((with_reducible apply PL.notT); first | with_reducible rfl | with_reducible assumption | ((with_reducible apply PL.decF); first | with_reducible assumption | omega | ((simp only [List.length_cons, List.length_nil, List.length_append, List.length_map, List.length_replicate]); omega)) | ((with_reducible refine (?_ : PL.isiB _ _ = _)); rfl) | ((with_reducible refine (?_ : PL.isNonD _ = _)); rfl) | ((with_reducible refine (?_ : PL.scl _ = _)); rfl) | ((with_reducible refine (?_ : PL.sclA _ = _)); rfl)) | first | with_reducible rfl | with_reducible assumption | ((with_reducible apply PL.decF); first | with_reducible assumption | omega | ((simp only [List.length_cons, List.length_nil, List.length_append, List.length_map, List.length_replicate]); omega)) | ((with_reducible refine (?_ : PL.isiB _ _ = _)); rfl) | ((with_reducible refine (?_ : PL.isNonD _ = _)); rfl) | ((with_reducible refine (?_ : PL.scl _ = _)); rfl) | ((with_reducible refine (?_ : PL.sclA _ = _)); rfl) | ((with_reducible apply PL.notF); first | with_reducible rfl | with_reducible assumption | ((with_reducible apply PL.decT); first | with_reducible assumption | with_reducible rfl | omega | ((simp only [List.length_cons, List.length_nil, List.length_append, List.length_map, List.length_replicate]); omega)) | ((with_reducible refine (?_ : PL.isiB _ _ = _)); rfl) | ((with_reducible refine (?_ : PL.isNonD _ = _)); rfl) | ((with_reducible refine (?_ : PL.scl _ = _)); rfl) | ((with_reducible refine (?_ : PL.sclA _ = _)); rfl)))))
local macro_rules
  | `(tactic| exists $es,*) => `(tactic| (((with_reducible refine (?_ : @Eq (List PL.Sl) _ _)); rfl)))
local macro_rules
  | `(tactic| exists $es,*) => `(tactic| (((with_reducible refine (?_ : @Eq (Option PL.Sl) _ _)); rfl)))
local macro_rules
  | `(tactic| exists $es,*) => `(tactic| (with_reducible_and_instances assumption))
local macro_rules
  | `(tactic| exists $es,*) => `(tactic| (((with_reducible apply PL.y_retD); rfl)))
local macro_rules
  | `(tactic| exists $es,*) => `(tactic| (((with_reducible apply PL.y_nextE); rfl)))
local macro_rules
  | `(tactic| exists $es,*) => `(tactic| (((with_reducible apply PL.z_retE); rfl)))
local macro_rules
  | `(tactic| exists $es,*) => `(tactic| (with_reducible apply PL.z_rvO))
local macro_rules
  | `(tactic| exists $es,*) => `(tactic| (with_reducible apply PL.z_rvD))
local macro_rules
  | `(tactic| exists $es,*) => `(tactic| (with_reducible apply PL.z_b))
local macro_rules
  | `(tactic| exists $es,*) => `(tactic| (with_reducible apply PL.z_of))
local macro_rules
  | `(tactic| exists $es,*) => `(tactic| (((with_reducible apply PL.z_itef); (first | with_reducible rfl | with_reducible assumption | ((with_reducible apply PL.decF); first | with_reducible assumption | omega | ((simp only [List.length_cons, List.length_nil, List.length_append, List.length_map, List.length_replicate]); omega)) | ((with_reducible refine (?_ : PL.isiB _ _ = _)); rfl) | ((with_reducible refine (?_ : PL.isNonD _ = _)); rfl) | ((with_reducible refine (?_ : PL.scl _ = _)); rfl) | ((with_reducible refine (?_ : PL.sclA _ = _)); rfl) | ((with_reducible apply PL.notF); first | with_reducible rfl | with_reducible assumption | ((with_reducible apply PL.decT); first | with_reducible assumption | with_reducible rfl | omega | ((simp only [List.length_cons, List.length_nil, List.length_append, List.length_map, List.length_replicate]); omega)) | ((with_reducible refine (?_ : PL.isiB _ _ = _)); rfl) | ((with_reducible refine (?_ : PL.isNonD _ = _)); rfl) | ((with_reducible refine (?_ : PL.scl _ = _)); rfl) | ((with_reducible refine (?_ : PL.sclA _ = _)); rfl))))))
local macro_rules
  | `(tactic| exists $es,*) => `(tactic| (((with_reducible apply PL.z_itet); (first | with_reducible rfl | with_reducible assumption | ((with_reducible apply PL.decT); first | with_reducible assumption | with_reducible rfl | omega | ((simp only [List.length_cons, List.length_nil, List.length_append, List.length_map, List.length_replicate]); omega)) | ((with_reducible refine (?_ : PL.isiB _ _ = _)); rfl) | ((with_reducible refine (?_ : PL.isNonD _ = _)); rfl) | ((with_reducible refine (?_ : PL.scl _ = _)); rfl) | ((with_reducible refine (?_ : PL.sclA _ = _)); rfl) | ((with_reducible apply PL.notT); first | with_reducible rfl | with_reducible assumption | ((with_reducible apply PL.decF); first | with_reducible assumption | omega | ((simp only [List.length_cons, List.length_nil, List.length_append, List.length_map, List.length_replicate]); omega)) | ((with_reducible refine (?_ : PL.isiB _ _ = _)); rfl) | ((with_reducible refine (?_ : PL.isNonD _ = _)); rfl) | ((with_reducible refine (?_ : PL.scl _ = _)); rfl) | ((with_reducible refine (?_ : PL.sclA _ = _)); rfl))))))
local macro_rules
  | `(tactic| exists $es,*) => `(tactic| (((with_reducible apply PL.z_gd); first | ((with_reducible apply PL.sz'); first | omega | with_reducible assumption | ((try simp only [List.length_cons, List.length_nil, List.length_append, List.length_map, List.length_range, List.length_replicate, List.length_set, List.length_take, List.length_drop]) <;> omega) | decide) | ((with_reducible apply PL.sz); first | omega | with_reducible assumption | ((try simp only [List.length_cons, List.length_nil, List.length_append, List.length_map, List.length_range, List.length_replicate, List.length_set, List.length_take, List.length_drop]) <;> omega) | decide) | decide)))
local macro_rules
  | `(tactic| exists $es,*) => `(tactic| (((with_reducible apply PL.j_ixL); first | with_reducible assumption | rfl)))
local macro_rules
  | `(tactic| exists $es,*) => `(tactic| (((with_reducible apply PL.j_ixT); first | with_reducible assumption | rfl)))
local macro_rules
  | `(tactic| exists $es,*) => `(tactic| (((with_reducible apply PL.j_mulI) <;> omega)))
local macro_rules
  | `(tactic| exists $es,*) => `(tactic| (((with_reducible apply PL.j_fdivI) <;> omega)))
local macro_rules
  | `(tactic| exists $es,*) => `(tactic| (((with_reducible apply PL.j_modI); omega)))
local macro_rules
  | `(tactic| exists $es,*) => `(tactic| (((with_reducible apply PL.j_addT); (first | omega | with_reducible assumption | ((try simp only [List.length_cons, List.length_nil, List.length_append, List.length_map, List.length_range, List.length_replicate, List.length_set, List.length_take, List.length_drop]) <;> omega) | decide))))
local macro_rules
  | `(tactic| exists $es,*) => `(tactic| (((with_reducible apply PL.j_addL); (first | omega | with_reducible assumption | ((try simp only [List.length_cons, List.length_nil, List.length_append, List.length_map, List.length_range, List.length_replicate, List.length_set, List.length_take, List.length_drop]) <;> omega) | decide))))
local macro_rules
  | `(tactic| exists $es,*) => `(tactic| (((with_reducible apply PL.lst_ok); (first | omega | with_reducible assumption | ((try simp only [List.length_cons, List.length_nil, List.length_append, List.length_map, List.length_range, List.length_replicate, List.length_set, List.length_take, List.length_drop]) <;> omega) | decide))))
local macro_rules
  | `(tactic| exists $es,*) => `(tactic| (((with_reducible apply PL.tup_ok); (first | omega | with_reducible assumption | ((try simp only [List.length_cons, List.length_nil, List.length_append, List.length_map, List.length_range, List.length_replicate, List.length_set, List.length_take, List.length_drop]) <;> omega) | decide))))
local macro_rules
  | `(tactic| exists $es,*) => `(tactic| (with_reducible apply PL.j_btx))
local macro_rules
  | `(tactic| exists $es,*) => `(tactic| (with_reducible apply PL.j_isNotB))
local macro_rules
  | `(tactic| exists $es,*) => `(tactic| (with_reducible apply PL.j_isB))
local macro_rules
  | `(tactic| exists $es,*) => `(tactic| (with_reducible apply PL.eq_bl))
local macro_rules
  | `(tactic| exists $es,*) => `(tactic| (with_reducible apply PL.j_min))
local macro_rules
  | `(tactic| exists $es,*) => `(tactic| (with_reducible apply PL.j_max))
local macro_rules
  | `(tactic| exists $es,*) => `(tactic| (with_reducible apply PL.ne_int))
local macro_rules
  | `(tactic| exists $es,*) => `(tactic| (with_reducible apply PL.eq_int))
local macro_rules
  | `(tactic| exists $es,*) => `(tactic| (with_reducible apply PL.j_geI))
local macro_rules
  | `(tactic| exists $es,*) => `(tactic| (with_reducible apply PL.j_gtI))
local macro_rules
  | `(tactic| exists $es,*) => `(tactic| (with_reducible apply PL.j_leI))
local macro_rules
  | `(tactic| exists $es,*) => `(tactic| (with_reducible apply PL.j_ltI))
local macro_rules
  | `(tactic| exists $es,*) => `(tactic| (with_reducible apply PL.j_subI))
local macro_rules
  | `(tactic| exists $es,*) => `(tactic| (with_reducible apply PL.j_addI))
local macro_rules
  | `(tactic| exists $es,*) => `(tactic| (with_reducible apply PL.j_negI))
local macro_rules
  | `(tactic| exists $es,*) => `(tactic| (with_reducible apply PL.j_seqT))
local macro_rules
  | `(tactic| exists $es,*) => `(tactic| (with_reducible apply PL.j_seqL))
local macro_rules
  | `(tactic| exists $es,*) => `(tactic| (with_reducible apply PL.j_tm))
local macro_rules
  | `(tactic| exists $es,*) => `(tactic| (with_reducible apply PL.j_bv))
local macro_rules
  | `(tactic| exists $es,*) => `(tactic| (with_reducible apply PL.j_truB))
local macro_rules
  | `(tactic| exists $es,*) => `(tactic| (with_reducible apply PL.j_tupT))
local macro_rules
  | `(tactic| exists $es,*) => `(tactic| (with_reducible apply PL.j_tupL))
local macro_rules
  | `(tactic| exists $es,*) => `(tactic| (with_reducible apply PL.j_listT))
local macro_rules
  | `(tactic| exists $es,*) => `(tactic| (with_reducible apply PL.j_listL))
local macro_rules
  | `(tactic| exists $es,*) => `(tactic| (with_reducible apply PL.j_abs))
local macro_rules
  | `(tactic| exists $es,*) => `(tactic| (with_reducible apply PL.j_int))
local macro_rules
  | `(tactic| exists $es,*) => `(tactic| (with_reducible apply PL.j_lenT))
local macro_rules
  | `(tactic| exists $es,*) => `(tactic| (with_reducible apply PL.j_lenL))
local macro_rules
  | `(tactic| exists $es,*) => `(tactic| (with_reducible apply PL.j_isNotN))
local macro_rules
  | `(tactic| exists $es,*) => `(tactic| (with_reducible apply PL.j_isN))
local macro_rules
  | `(tactic| exists $es,*) => `(tactic| (with_reducible apply PL.u_borO))
local macro_rules
  | `(tactic| exists $es,*) => `(tactic| (with_reducible apply PL.u_borE))
local macro_rules
  | `(tactic| exists $es,*) => `(tactic| (with_reducible apply PL.u_borT))
local macro_rules
  | `(tactic| exists $es,*) => `(tactic| (with_reducible apply PL.u_sliceO))
local macro_rules
  | `(tactic| exists $es,*) => `(tactic| (with_reducible apply PL.u_slice))
local macro_rules
  | `(tactic| exists $es,*) => `(tactic| (with_reducible apply PL.u_pS))
local macro_rules
  | `(tactic| exists $es,*) => `(tactic| (with_reducible apply PL.u_ixO))
local macro_rules
  | `(tactic| exists $es,*) => `(tactic| (with_reducible apply PL.u_lc))
local macro_rules
  | `(tactic| exists $es,*) => `(tactic| (with_reducible apply PL.u_callO))
local macro_rules
  | `(tactic| exists $es,*) => `(tactic| (with_reducible apply PL.u_ifE))
local macro_rules
  | `(tactic| exists $es,*) => `(tactic| (with_reducible apply PL.u_tru))
local macro_rules
  | `(tactic| exists $es,*) => `(tactic| (with_reducible apply PL.u_una))
local macro_rules
  | `(tactic| exists $es,*) => `(tactic| (with_reducible apply PL.u_binO))
local macro_rules
  | `(tactic| exists $es,*) => `(tactic| (with_reducible apply PL.u_strM))
local macro_rules
  | `(tactic| exists $es,*) => `(tactic| (with_reducible apply PL.u_pN))
local macro_rules
  | `(tactic| exists $es,*) => `(tactic| (with_reducible apply PL.y_yes))
local macro_rules
  | `(tactic| exists $es,*) => `(tactic| (with_reducible apply PL.z_owL))
local macro_rules
  | `(tactic| exists $es,*) => `(tactic| (with_reducible apply PL.u_isi))
local macro_rules
  | `(tactic| exists $es,*) => `(tactic| (with_reducible apply PL.u_aplO))
local macro_rules
  | `(tactic| exists $es,*) => `(tactic| (with_reducible apply PL.u_own))
local macro_rules
  | `(tactic| exists $es,*) => `(tactic| (with_reducible apply PL.u_notV))
local macro_rules
  | `(tactic| exists $es,*) => `(tactic| (with_reducible apply PL.u_orV))
local macro_rules
  | `(tactic| exists $es,*) => `(tactic| (with_reducible apply PL.u_andV))
local macro_rules
  | `(tactic| exists $es,*) => `(tactic| (with_reducible apply PL.y_retI))
local macro_rules
  | `(tactic| exists $es,*) => `(tactic| (with_reducible apply PL.y_retB))
local macro_rules
  | `(tactic| exists $es,*) => `(tactic| (with_reducible apply PL.u_putAug))
local macro_rules
  | `(tactic| exists $es,*) => `(tactic| (with_reducible apply PL.u_aug))
local macro_rules
  | `(tactic| exists $es,*) => `(tactic| (with_reducible apply PL.u_frz))
local macro_rules
  | `(tactic| exists $es,*) => `(tactic| (with_reducible apply PL.u_pop))
local macro_rules
  | `(tactic| exists $es,*) => `(tactic| (with_reducible apply PL.u_popAt))
local macro_rules
  | `(tactic| exists $es,*) => `(tactic| (with_reducible apply PL.u_ins))
local macro_rules
  | `(tactic| exists $es,*) => `(tactic| (with_reducible apply PL.u_retV))
local macro_rules
  | `(tactic| exists $es,*) => `(tactic| (with_reducible apply PL.u_retO))
local macro_rules
  | `(tactic| exists $es,*) => `(tactic| (with_reducible apply PL.y_brk))
local macro_rules
  | `(tactic| exists $es,*) => `(tactic| (with_reducible apply PL.y_cont))
local macro_rules
  | `(tactic| exists $es,*) => `(tactic| (with_reducible apply PL.y_retN))
local macro_rules
  | `(tactic| exists $es,*) => `(tactic| (with_reducible apply PL.z_try))
local macro_rules
  | `(tactic| exists $es,*) => `(tactic| (with_reducible apply PL.u_put))
local macro_rules
  | `(tactic| exists $es,*) => `(tactic| (with_reducible apply PL.u_raise))
local macro_rules
  | `(tactic| exists $es,*) => `(tactic| (with_reducible apply PL.u_for))
local macro_rules
  | `(tactic| exists $es,*) => `(tactic| (with_reducible apply PL.u_drop))
local macro_rules
  | `(tactic| exists $es,*) => `(tactic| (with_reducible apply PL.u_app))
local macro_rules
  | `(tactic| exists $es,*) => `(tactic| (with_reducible apply PL.u_setO))
local macro_rules
  | `(tactic| exists $es,*) => `(tactic| (with_reducible apply PL.u_if))
local macro_rules
  | `(tactic| exists $es,*) => `(tactic| with_reducible assumption)
local macro_rules
  | `(tactic| exists $es,*) => `(tactic| first $[| with_reducible apply $es]*)
local macro_rules
  | `(tactic| exists $es,*) => `(tactic| (with_reducible apply PL.z_brk))
local macro_rules
  | `(tactic| exists $es,*) => `(tactic| (with_reducible apply PL.z_cont))
local macro_rules
  | `(tactic| exists $es,*) => `(tactic| (with_reducible apply PL.y_rexc))
local macro_rules
  | `(tactic| exists $es,*) => `(tactic| (with_reducible apply PL.z_tryret))
local macro_rules
  | `(tactic| exists $es,*) => `(tactic| (with_reducible apply PL.z_trynext))
local macro_rules
  | `(tactic| exists $es,*) => `(tactic| (with_reducible apply PL.z_rvOexc))
local macro_rules
  | `(tactic| exists $es,*) => `(tactic| (with_reducible apply PL.z_rvOow))
local macro_rules
  | `(tactic| exists $es,*) => `(tactic| (with_reducible apply PL.z_rvexc))
local macro_rules
  | `(tactic| exists $es,*) => `(tactic| (with_reducible apply PL.z_bexc))
local macro_rules
  | `(tactic| exists $es,*) => `(tactic| (with_reducible apply PL.z_ofexc))
local macro_rules
  | `(tactic| exists $es,*) => `(tactic| (with_reducible apply PL.z_exc))
local macro_rules
  | `(tactic| exists $es,*) => `(tactic| (with_reducible apply PL.z_ret))
local macro_rules
  | `(tactic| exists $es,*) => `(tactic| (((with_reducible apply PL.z_itef); (first | with_reducible rfl | with_reducible assumption | ((with_reducible apply PL.decF); with_reducible assumption) | ((with_reducible refine (?_ : PL.isiB _ _ = _)); rfl) | ((with_reducible refine (?_ : PL.isNonD _ = _)); rfl) | ((with_reducible refine (?_ : PL.scl _ = _)); rfl) | ((with_reducible refine (?_ : PL.sclA _ = _)); rfl) | ((with_reducible apply PL.notF); first | with_reducible rfl | with_reducible assumption | ((with_reducible apply PL.decT); with_reducible assumption) | ((with_reducible refine (?_ : PL.isiB _ _ = _)); rfl) | ((with_reducible refine (?_ : PL.isNonD _ = _)); rfl) | ((with_reducible refine (?_ : PL.scl _ = _)); rfl) | ((with_reducible refine (?_ : PL.sclA _ = _)); rfl))))))
local macro_rules
  | `(tactic| exists $es,*) => `(tactic| (((with_reducible apply PL.z_itet); (first | with_reducible rfl | with_reducible assumption | ((with_reducible apply PL.decT); with_reducible assumption) | ((with_reducible refine (?_ : PL.isiB _ _ = _)); rfl) | ((with_reducible refine (?_ : PL.isNonD _ = _)); rfl) | ((with_reducible refine (?_ : PL.scl _ = _)); rfl) | ((with_reducible refine (?_ : PL.sclA _ = _)); rfl) | ((with_reducible apply PL.notT); first | with_reducible rfl | with_reducible assumption | ((with_reducible apply PL.decF); with_reducible assumption) | ((with_reducible refine (?_ : PL.isiB _ _ = _)); rfl) | ((with_reducible refine (?_ : PL.isNonD _ = _)); rfl) | ((with_reducible refine (?_ : PL.scl _ = _)); rfl) | ((with_reducible refine (?_ : PL.sclA _ = _)); rfl))))))
local macro_rules
  | `(tactic| exists $es,*) => `(tactic| (with_reducible apply PL.j_bOf))
local macro_rules
  | `(tactic| exists $es,*) => `(tactic| (with_reducible apply PL.z_rvow))
local macro_rules
  | `(tactic| exists $es,*) => `(tactic| (with_reducible apply PL.z_rvsh))
local macro_rules
  | `(tactic| exists $es,*) => `(tactic| (with_reducible apply PL.y_nx))
local macro_rules
  | `(tactic| exists $es,*) => `(tactic| (with_reducible apply PL.u_ret))
local macro_rules
  | `(tactic| exists $es,*) => `(tactic| (with_reducible apply PL.u_it))
local macro_rules
  | `(tactic| exists $es,*) => `(tactic| (with_reducible apply PL.u_andB))
local macro_rules
  | `(tactic| exists $es,*) => `(tactic| (with_reducible apply PL.u_orB))
local macro_rules
  | `(tactic| exists $es,*) => `(tactic| (with_reducible apply PL.u_notB))
local macro_rules
  | `(tactic| exists $es,*) => `(tactic| (with_reducible apply PL.u_tst))
local macro_rules
  | `(tactic| exists $es,*) => `(tactic| (with_reducible apply PL.u_call))
local macro_rules
  | `(tactic| exists $es,*) => `(tactic| (with_reducible apply PL.u_set))
local macro_rules
  | `(tactic| exists $es,*) => `(tactic| (with_reducible apply PL.u_apl))
local macro_rules
  | `(tactic| exists $es,*) => `(tactic| (with_reducible apply PL.u_cons))
local macro_rules
  | `(tactic| exists $es,*) => `(tactic| (with_reducible apply PL.u_bin))
local macro_rules
  | `(tactic| exists $es,*) => `(tactic| (with_reducible apply PL.y_exc))
local macro_rules
  | `(tactic| exists $es,*) => `(tactic| (with_reducible apply PL.y_ret))
local macro_rules
  | `(tactic| exists $es,*) => `(tactic| (with_reducible apply PL.y_next))
local macro_rules
  | `(tactic| exists $es,*) => `(tactic| (with_reducible apply PL.z_set))
local macro_rules
  | `(tactic| exists $es,*) => `(tactic| (with_reducible apply PL.u_nil))
local macro_rules
  | `(tactic| exists $es,*) => `(tactic| (with_reducible apply PL.z_setS))
local macro_rules
  | `(tactic| exists $es,*) => `(tactic| (with_reducible apply PL.z_set0))
local macro_rules
  | `(tactic| exists $es,*) => `(tactic| (with_reducible apply PL.y_c))
local macro_rules
  | `(tactic| exists $es,*) => `(tactic| (with_reducible apply PL.z_var))
local macro_rules
  | `(tactic| exists $es,*) => `(tactic| (with_reducible apply PL.z_S))
local macro_rules
  | `(tactic| exists $es,*) => `(tactic| (with_reducible apply PL.z_0))
local macro_rules
  | `(tactic| exists $es,*) => `(tactic| (with_reducible apply PL.z_ofok))
local macro_rules
  | `(tactic| exists $es,*) => `(tactic| (with_reducible apply PL.y_ok))
local macro_rules
  | `(tactic| exists $es,*) => `(tactic| (with_reducible apply PL.z_bok))
local macro_rules
  | `(tactic| exists $es,*) => `(tactic| (with_reducible apply PL.z_seq))
local macro_rules
  | `(tactic| exists $es,*) => `(tactic| (with_reducible apply PL.z_next))

set_option maxRecDepth 100000
set_option maxHeartbeats 1000000
namespace PL
open PySem
/-- the signs of a name -/
def lett (c : Nat) : Bool := decide (97 ≤ c) && decide (c ≤ 122)
def dgt (c : Nat) : Bool := decide (48 ≤ c) && decide (c ≤ 57)
def nmOk : List Nat → Bool | [] => false | c :: cs => lett c && cs.all (fun x => lett x || dgt x) && decide (cs.length ≤ 11)
def nm (cs : List Nat) : Str := ⟨cs.toArray⟩
theorem in_letters (c : Nat) : decide (c ∈ ("abcdefghijklmnopqrstuvwxyz" : Str).cps.toList) = lett c := by
  have e : ("abcdefghijklmnopqrstuvwxyz" : Str).cps.toList = [97, 98, 99, 100, 101, 102, 103, 104, 105, 106, 107, 108, 109, 110, 111, 112, 113, 114, 115, 116, 117, 118, 119, 120, 121, 122] := by decide +kernel
  rw [e]
  unfold lett
  simp only [List.mem_cons, List.not_mem_nil, or_false]
  rw [Bool.eq_iff_iff]
  simp only [decide_eq_true_eq, Bool.and_eq_true]
  omega
theorem in_digits (c : Nat) : decide (c ∈ ("0123456789" : Str).cps.toList) = dgt c := by
  have e : ("0123456789" : Str).cps.toList = [48, 49, 50, 51, 52, 53, 54, 55, 56, 57] := by decide +kernel
  rw [e]
  unfold dgt
  simp only [List.mem_cons, List.not_mem_nil, or_false]
  rw [Bool.eq_iff_iff]
  simp only [decide_eq_true_eq, Bool.and_eq_true]
  omega
theorem notin_letters (c : Nat) : notInD (.str ⟨#[c]⟩) (.str "abcdefghijklmnopqrstuvwxyz") = .ok (.bl (!lett c)) := by
  show Res.ok (D.bl (!decide (c ∈ ("abcdefghijklmnopqrstuvwxyz" : Str).cps.toList))) = _
  rw [in_letters]
theorem notin_digits (c : Nat) : notInD (.str ⟨#[c]⟩) (.str "0123456789") = .ok (.bl (!dgt c)) := by
  show Res.ok (D.bl (!decide (c ∈ ("0123456789" : Str).cps.toList))) = _
  rw [in_digits]
abbrev yes : Res RV := .ok (.sh (.bl true))
abbrev no : Res RV := .ok (.sh (.bl false))
abbrev bv (b : Bool) : Res RV := .ok (.sh (.bl b))
theorem nm_len {p : List Nat} (h : nmOk p = true) : 1 ≤ p.length ∧ p.length ≤ 12 := by
  cases p with
  | nil => cases h
  | cons c cs =>
    unfold nmOk at h
    simp only [Bool.and_eq_true, decide_eq_true_eq] at h
    simp only [List.length_cons]
    omega
mutual
def pl : D → Bool
  | .str s => PyData.strOk s
  | .tup xs => plA xs && decide (xs.length ≤ 1000)
  | .lst xs => plA xs && decide (xs.length ≤ 1000)
  | .scr _ => false
  | _ => true
def plA : List D → Bool
  | [] => true
  | x :: xs => pl x && plA xs
end
mutual
def dep : D → Nat
  | .tup xs => depA xs + 1
  | .lst xs => depA xs + 1
  | _ => 0
def depA : List D → Nat
  | [] => 0
  | x :: xs => max (dep x) (depA xs)
end
theorem plA_mem : ∀ {xs : List D} {x : D}, plA xs = true → x ∈ xs → pl x = true
  | y :: ys, x, h, m => by
    unfold plA at h
    rw [Bool.and_eq_true] at h
    rcases List.mem_cons.mp m with e | e
    · subst e; exact h.1
    · exact plA_mem h.2 e
theorem depA_mem : ∀ {xs : List D} {x : D}, x ∈ xs → dep x ≤ depA xs
  | y :: ys, x, m => by
    unfold depA
    rcases List.mem_cons.mp m with e | e
    · subst e; omega
    · have := depA_mem e; omega
theorem ix_tup (xs : List D) (k : Nat) (h : k < xs.length) : ixD (.tup xs) (.int (k : Nat)) = .ok xs[k] := by
  show (match L2.atI xs (k : Nat) with | some d => Res.ok d | none => .stuck) = _
  rw [atI_nat, List.getElem?_eq_getElem h]
theorem ix_lst (xs : List D) (k : Nat) (h : k < xs.length) : ixD (.lst xs) (.int (k : Nat)) = .ok xs[k] := by
  show (match L2.atI xs (k : Nat) with | some d => Res.ok d | none => .stuck) = _
  rw [atI_nat, List.getElem?_eq_getElem h]
theorem plA_of : ∀ {xs : List D}, (∀ x ∈ xs, pl x = true) → plA xs = true
  | [], _ => rfl
  | x :: xs, h => by
    unfold plA
    rw [h x List.mem_cons_self, plA_of fun y hy => h y (List.mem_cons_of_mem _ hy)]
    rfl
theorem depA_of {n : Nat} : ∀ {xs : List D}, (∀ x ∈ xs, dep x ≤ n) → depA xs ≤ n
  | [], _ => Nat.zero_le _
  | x :: xs, h => by
    unfold depA
    have h1 := h x List.mem_cons_self
    have h2 := depA_of (n := n) fun y hy => h y (List.mem_cons_of_mem _ hy)
    omega
theorem nm_length (p : List Nat) : (nm p).length = p.length := by show p.toArray.size = _; simp
theorem nm_app (p q : List Nat) : nm p ++ nm q = nm (p ++ q) := by
  show (⟨p.toArray ++ q.toArray⟩ : Str) = ⟨(p ++ q).toArray⟩
  rw [List.append_toArray]
theorem cut_nm (p : List Nat) (k : Nat) : L2.cutS (nm p) none (some (k : Int)) = nm (p.take k) := by
  unfold L2.cutS
  rw [nm_length, HT.sIx_none, HT.sIx_nat]
  show (⟨_⟩ : Str) = ⟨_⟩
  congr 2
  have e : (nm p).cps.toList = p := by simp [nm]
  rw [e, List.drop_zero, Nat.sub_zero, List.take_eq_take_iff]
  omega
theorem lit_ : (" " : Str) = nm [32] := by decide +kernel
theorem lit0 : ("" : Str) = nm [] := by decide +kernel
theorem mod_int (a b : Int) (h : 0 < b) : modD (.int a) (.int b) = .ok (.int (a % b)) := gd_pos h
theorem fdiv_int (a b : Int) (h : 0 < b) (h2 : b < 18446744073709551616) : fdivD (.int a) (.int b) = .ok (.int (a / b)) := gd_pos ⟨h, h2⟩
theorem mul_int (a b : Int) (h : a.natAbs < 2 ^ 100) (h2 : b.natAbs < 2 ^ 100) : mulD (.int a) (.int b) = .ok (.int (a * b)) := by
  refine gd_pos ?_
  have x := PySem.Flt.log2_lt_of (by decide) h
  have y := PySem.Flt.log2_lt_of (by decide) h2
  omega
def Draws (n : Nat) (lim : Int) (xs : List Int) : Prop := xs.length = n ∧ ∀ x ∈ xs, 0 ≤ x ∧ x < lim
theorem pow18 : powD (.int 10) (.int 18) = .ok (.int 1000000000000000000) := by
  show gd _ (Res.ok (D.int (10 ^ (18 : Int).toNat))) = _
  rw [gd_pos (by decide)]
  rw [show (10 : Int) ^ (18 : Int).toNat = 1000000000000000000 from by decide]
theorem draw_get {n : Nat} {lim : Int} {xs : List Int} (h : Draws n lim xs) {k : Nat} (hk : k < n) : ∃ x, ixD (.lst (xs.map D.int)) (.int (k : Nat)) = .ok (.int x) ∧ 0 ≤ x ∧ x < lim := by
  have hk' : k < xs.length := by rw [h.1]; exact hk
  refine ⟨xs[k], ?_, h.2 _ (List.getElem_mem hk')⟩
  rw [ix_lst _ _ (by rw [List.length_map]; exact hk'), List.getElem_map]
def lets : List Nat := [97, 98, 99, 100, 101, 102, 103, 104, 105, 106, 107, 108, 109, 110, 111, 112, 113, 114, 115, 116, 117, 118, 119, 120, 121, 122, 48, 49, 50, 51, 52, 53, 54, 55, 56, 57]
theorem lets_ok : ∀ i : Fin 36, (lett (lets[i.1]'i.2) || dgt (lets[i.1]'i.2)) = true ∧ (i.1 < 26 → lett (lets[i.1]'i.2) = true) := by decide
abbrev LET : D := .str "abcdefghijklmnopqrstuvwxyz0123456789"
theorem lets_ix {i : Int} (h0 : 0 ≤ i) (h : i < 36) : ∃ c, ixD LET (.int i) = .ok (.str (nm [c])) ∧ (lett c || dgt c) = true ∧ (i < 26 → lett c = true) := by
  obtain ⟨j, rfl⟩ := Int.eq_ofNat_of_zero_le h0
  have hj : j < 36 := by omega
  obtain ⟨h1, h2⟩ := lets_ok ⟨j, hj⟩
  refine ⟨lets[j]'hj, ?_, h1, fun z => h2 (by show j < 26; omega)⟩
  have e : ("abcdefghijklmnopqrstuvwxyz0123456789" : Str).cps.toList = lets := by decide +kernel
  show gd _ (match L2.atI ("abcdefghijklmnopqrstuvwxyz0123456789" : Str).cps.toList (j : Nat) with | some c => Res.ok (D.str ⟨#[c]⟩) | none => .stuck) = _
  rw [gd_pos (sz _ (by decide +kernel)), e, atI_nat, List.getElem?_eq_getElem hj]
  rfl
def Nq (p : List Nat) : Prop := ∃ c cs, p = c :: cs ∧ lett c = true ∧ ∀ x ∈ cs, (lett x || dgt x) = true
theorem nq_ok {p : List Nat} (h : Nq p) (hl : p.length ≤ 12) : nmOk p = true := by
  obtain ⟨c, cs, rfl, h1, h2⟩ := h
  show (lett c && cs.all (fun x => lett x || dgt x) && decide (cs.length ≤ 11)) = true
  simp only [List.length_cons] at hl
  rw [h1, List.all_eq_true.mpr h2, decide_eq_true (by omega)]
  rfl
theorem add_nm (p : List Nat) (c : Nat) (h : p.length ≤ 100) : addD (.str (nm p)) (.str (nm [c])) = .ok (.str (nm (p ++ [c]))) := by
  show gd _ (Res.ok (D.str (nm p ++ nm [c]))) = _
  rw [gd_pos (sz _ (by rw [nm_length, nm_length]; simp only [List.length_cons, List.length_nil]; omega)), nm_app]
def allD (cs : List Nat) : Bool := cs.all dgt
def canon (cs : List Nat) : Bool := match cs with | [] => false | [_] => true | c :: _ :: _ => c != 48
def vl (cs : List Nat) : Nat := NumText.digitsVal cs
def goodNum (high : Nat) (cs : List Nat) : Bool := allD cs && canon cs && decide (vl cs ≤ high)
theorem allD_mem {cs : List Nat} (h : allD cs = true) : NumText.AllDigits cs := fun c hc => by
  have := List.all_eq_true.mp h c hc
  unfold dgt at this
  simp only [Bool.and_eq_true, decide_eq_true_eq] at this
  exact this
theorem numL_head : ∀ n : Nat, 10 ≤ n → ∃ c r, TL.numL n = c :: r ∧ c ≠ 48 ∧ r ≠ [] := by
  intro n
  induction n using Nat.strongRecOn with
  | _ n ih =>
    intro h
    rw [TL.numL_step h]
    by_cases h2 : n / 10 < 10
    · rw [TL.numL_lt h2]
      exact ⟨48 + n / 10, [48 + n % 10], rfl, by omega, by simp⟩
    · obtain ⟨c, r, e, hc, hr⟩ := ih (n / 10) (by omega) (by omega)
      exact ⟨c, r ++ [48 + n % 10], by rw [e]; rfl, hc, by simp⟩
theorem numL_canon (n : Nat) : canon (TL.numL n) = true := by
  by_cases h : n < 10
  · rw [TL.numL_lt h]; rfl
  · obtain ⟨c, r, e, hc, hr⟩ := numL_head n (by omega)
    rw [e]
    cases r with
    | nil => exact absurd rfl hr
    | cons d r => show (c != 48) = true; simpa using hc
theorem numL_allD (n : Nat) : allD (TL.numL n) = true := List.all_eq_true.mpr fun c hc => by
  have := TL.numL_digits n c hc
  unfold dgt
  simp only [Bool.and_eq_true, decide_eq_true_eq]
  exact this
theorem vl_snoc (ds : List Nat) (d : Nat) : vl (ds ++ [d]) = 10 * vl ds + (d - 48) := by
  unfold vl
  have := NumText.digitsVal_snoc ds d
  omega
theorem canon_init {ds : List Nat} {d : Nat} (hd : ds ≠ []) (h : canon (ds ++ [d]) = true) : canon ds = true ∧ ∃ c r, ds = c :: r ∧ c ≠ 48 := by
  cases ds with
  | nil => exact absurd rfl hd
  | cons c r =>
    have hc : c ≠ 48 := by
      cases r with
      | nil => have : (c != 48) = true := h; simpa using this
      | cons e r => have : (c != 48) = true := h; simpa using this
    refine ⟨?_, c, r, rfl, hc⟩
    cases r with
    | nil => rfl
    | cons e r => show (c != 48) = true; simpa using hc
theorem numL_back : ∀ (n : Nat) (cs : List Nat), cs.length = n → allD cs = true → canon cs = true → TL.numL (vl cs) = cs := by
  intro n
  induction n with
  | zero =>
    intro cs hl _ hc
    rw [List.length_eq_zero_iff.mp hl] at hc
    cases hc
  | succ n ih =>
    intro cs hl ha hc
    rcases List.eq_nil_or_concat cs with e | ⟨ds, d, e⟩
    · rw [e] at hl; cases hl
    · rw [List.concat_eq_append] at e
      subst e
      have hal := allD_mem ha
      have hd := hal d (by simp)
      have had : allD ds = true := List.all_eq_true.mpr fun x hx => List.all_eq_true.mp ha x (List.mem_append_left _ hx)
      rw [vl_snoc]
      by_cases h0 : ds = []
      · subst h0
        have : vl [] = 0 := rfl
        rw [this, TL.numL_lt (by omega)]
        show [48 + (10 * 0 + (d - 48))] = [d]
        congr 1
        omega
      · obtain ⟨hc2, c, r, e, hne⟩ := canon_init h0 hc
        have hcr := hal c (by rw [e]; simp)
        have hp : 0 < vl ds := by
          rw [e]
          exact NumText.digitsVal_pos (by omega)
        rw [TL.numL_step (by omega)]
        have e1 : (10 * vl ds + (d - 48)) / 10 = vl ds := by omega
        have e2 : 48 + (10 * vl ds + (d - 48)) % 10 = d := by omega
        rw [e1, e2, ih ds (by simpa using hl) had hc2]
theorem numL_iff {cs : List Nat} (ha : allD cs = true) : TL.numL (vl cs) = cs ↔ canon cs = true :=
  ⟨fun e => by rw [← e]; exact numL_canon _, numL_back _ cs rfl ha⟩
theorem int_word {cs : List Nat} (ha : allD cs = true) (hne : cs ≠ []) (hl : cs.length ≤ 640) : intL [.str (nm cs)] = .ok (.int ((vl cs : Nat) : Int)) := by
  have e : PySem.intText? (nm cs) = some ((vl cs : Nat) : Int) := by
    have h1 : (nm cs).cps.toList = cs := by simp [nm]
    have h2 := PySem.intText_digits (x := nm cs) (by rw [h1]; exact allD_mem ha) (by rw [h1]; exact hne) (by rw [nm_length]; omega)
    rw [h1] at h2
    exact h2
  show (match PySem.intText? (nm cs) with | some n => gd ((nm cs).length ≤ 640) (Res.ok (D.int n)) | none => .stuck) = _
  rw [e]
  exact gd_pos (by rw [nm_length]; exact hl)
theorem str_num (n : Nat) (h : n < 2 ^ 200) : strL [.int ((n : Nat) : Int)] = .ok (.str (nm (TL.numL n))) := by
  have h2 : (((n : Nat) : Int)).natAbs < 2 ^ 200 := by rw [Int.natAbs_natCast]; exact h
  have hlog : (((n : Nat) : Int)).natAbs.log2 < 1920 := Nat.lt_trans (PySem.Flt.log2_lt_of (k := 200) (by decide) h2) (by decide)
  show gd ((((n : Nat) : Int)).natAbs.log2 < 1920) (Res.ok (D.str (Str.ofString (toString ((n : Nat) : Int))))) = _
  rw [gd_pos hlog]
  have : Str.ofString (toString ((n : Nat) : Int)) = nm (TL.numL n) := TL.ext_tl (by rw [TL.tl_num]; simp [nm, TL.tl])
  rw [this]
theorem vl_lt : ∀ (n : Nat) (cs : List Nat), cs.length = n → allD cs = true → vl cs < 10 ^ n := by
  intro n
  induction n with
  | zero => intro cs hl _; rw [List.length_eq_zero_iff.mp hl]; decide
  | succ n ih =>
    intro cs hl ha
    rcases List.eq_nil_or_concat cs with e | ⟨ds, d, e⟩
    · rw [e] at hl; cases hl
    · rw [List.concat_eq_append] at e
      subst e
      have hd := allD_mem ha d (by simp)
      have := ih ds (by simpa using hl) (List.all_eq_true.mpr fun x hx => List.all_eq_true.mp ha x (List.mem_append_left _ hx))
      rw [vl_snoc, Nat.pow_succ]
      omega
def asc (cs : List Nat) : Bool := cs.all fun c => decide (c < 128)
def wOk (cs : List Nat) : Prop := asc cs = true ∧ cs.length ≤ 40
theorem asc_ok {cs : List Nat} (h : asc cs = true) : PyData.strOk (nm cs) = true := by
  unfold PyData.strOk nm
  simp only [List.all_toArray, List.all_eq_true, decide_eq_true_eq]
  intro c hc
  have := List.all_eq_true.mp h c hc
  simp only [decide_eq_true_eq] at this
  omega
theorem nm_inj {a b : List Nat} : nm a = nm b ↔ a = b := ⟨fun h => by
  have := congrArg (fun x : Str => x.cps.toList) h
  simpa [nm] using this, fun h => by rw [h]⟩
theorem eq_nm {a b : List Nat} (h : asc a = true) (h2 : asc b = true) : eqD (.str (nm a)) (.str (nm b)) = .ok (.bl (decide (a = b))) := by
  rw [eq_str (asc_ok h) (asc_ok h2)]
  have : decide (nm a = nm b) = decide (a = b) := by
    rw [decide_eq_decide]; exact nm_inj
  rw [this]
theorem ne_nm {a b : List Nat} (h : asc a = true) (h2 : asc b = true) : neD (.str (nm a)) (.str (nm b)) = .ok (.bl (!decide (a = b))) := ne_of_eqD (eq_nm h h2)
theorem len_nm (cs : List Nat) (h : cs.length ≤ 10000000) : lenL [.str (nm cs)] = .ok (.int (cs.length : Nat)) := by
  show gd ((nm cs).length ≤ sizeLine) (Res.ok (D.int ((nm cs).length : Nat))) = _
  rw [nm_length, gd_pos (sz _ (by omega))]
theorem signs_nm (cs : List Nat) : signs (nm cs) = cs.map fun c => .str ⟨#[c]⟩ := by
  have hx : (nm cs).cps.toList = cs := by simp [nm]
  unfold signs; rw [hx]
theorem numL_asc (n : Nat) : asc (TL.numL n) = true := List.all_eq_true.mpr fun c hc => by
  have := TL.numL_digits n c hc
  simp only [decide_eq_true_eq]; omega
theorem good_len {cs : List Nat} {high : Nat} (hh : high ≤ 1000000) (h : goodNum high cs = true) : cs.length ≤ 7 := by
  unfold goodNum at h
  simp only [Bool.and_eq_true, decide_eq_true_eq] at h
  obtain ⟨⟨ha, hc⟩, hv⟩ := h
  have := (numL_iff ha).mpr hc
  rw [← this]
  exact TL.numL_len (by decide) (by omega)
theorem or_eq {f g : En → Res Bool} {ρ : En} {x y : Bool} (h : f ρ = .ok x) (h2 : g ρ = .ok y) : orB f g ρ = .ok (x || y) := by
  unfold orB; rw [h, bind_ok]; cases x
  · rw [if_neg (by decide), h2, Bool.false_or]
  · rfl
theorem and_eq {f g : En → Res Bool} {ρ : En} {x y : Bool} (h : f ρ = .ok x) (h2 : x = true → g ρ = .ok y) : andB f g ρ = .ok (x && y) := by
  unfold andB; rw [h, bind_ok]; cases x
  · rfl
  · rw [if_pos rfl, h2 rfl, Bool.true_and]
theorem lit_zero : ("0" : Str) = nm [48] := by decide +kernel
def WS (ws : List (List Nat)) : D := .lst (ws.map fun w => .str (nm w))
theorem ws_len (ws : List (List Nat)) : lenL [WS ws] = .ok (.int (ws.length : Nat)) := by
  unfold WS; rw [len_lst, List.length_map]
theorem ws_ix (ws : List (List Nat)) (k : Nat) (h : k < ws.length) : ixD (WS ws) (.int (k : Nat)) = .ok (.str (nm ws[k])) := by
  unfold WS; rw [ix_lst _ _ (by rw [List.length_map]; exact h), List.getElem_map]
theorem bt3 (a b c : D) : mkBT [a, b, c] = .ok (.badText a b c) := rfl
theorem raise_eq {mk : List D → Res Exc} {fs : En → Res (List D)} {ρ : En} {ds : List D} {e : Exc} (h : fs ρ = .ok ds) (h2 : mk ds = .ok e) : sRaise mk fs ρ = .exc e ρ := by unfold sRaise; rw [h, ofR_ok, h2, ofR_ok]
theorem set_exc {i : Nat} {f : En → Res D} {ρ : En} {e : Exc} (h : f ρ = .exc e) : sSet i f ρ = .exc e ρ := by unfold sSet; rw [h, ofR_exc]
theorem nm_tl (l : List Nat) : TL.tl (nm l) = l := by simp [nm, TL.tl]
theorem map_nm_tl : ∀ l : List (List Nat), (l.map nm).map TL.tl = l
  | [] => rfl
  | x :: l => by rw [List.map_cons, List.map_cons, nm_tl, map_nm_tl l]
theorem split_nm {a b : List Nat} (hb : b ≠ []) (hk : b.all (· < 256) = true) : Txt.split (nm a) (nm b) = (TL.spl b 0 [] a).map nm := by
  refine TL.map_tl_inj ?_
  rw [map_nm_tl]
  have h := TL.split_spl (nm a) (nm b) (by rw [nm_tl]; exact hb) (TL.kind_ok (by rw [← Array.all_toList]; simpa [nm] using hk))
  rw [nm_tl, nm_tl] at h
  exact h
theorem join_nm (a : List Nat) (ys : List (List Nat)) : Txt.join (nm a) (ys.map nm) = nm (TL.joinL a ys) := by
  refine TL.ext_tl ?_
  rw [TL.join_eq, TL.tl_join, map_nm_tl, nm_tl, nm_tl]
theorem join_spl {a b : List Nat} (hb : b ≠ []) (hk : b.all (· < 256) = true) : TL.joinL b (TL.spl b 0 [] a) = a := by
  have h := StrLaws.join_split (nm a) (nm b)
  rw [split_nm hb hk] at h
  have h2 := TL.tl_join (nm b) ((TL.spl b 0 [] a).map nm)
  rw [h, map_nm_tl, nm_tl, nm_tl] at h2
  exact h2.symm
theorem lit_sp : (" " : Str) = nm [32] := by decide +kernel
theorem lit_nl : ("\n" : Str) = nm [10] := by decide +kernel
def words (l : List Nat) : List (List Nat) := TL.spl [32] 0 [] l
def linesL (t : List Nat) : List (List Nat) := TL.spl [10] 0 [] t
def lOk (l : List Nat) : Prop := l.length ≤ 5000 ∧ ∀ w ∈ words l, wOk w
theorem strsD (ws : List (List Nat)) : (ws.map nm).map D.str = ws.map fun w => .str (nm w) := by rw [List.map_map]; rfl
theorem split_words {f : En → Res D} {ρ : En} {l : List Nat} (h : f ρ = .ok (.str (nm l))) (hl : l.length ≤ 1000000) : PL.own (strM splitO f (eC (.str " "))) ρ = .ok (WS (words l)) := by
  refine own_eq ?_
  unfold strM
  rw [h, bind_ok]
  show splitO (nm l) (.str " ") = _
  show gd _ (Res.ok ((Txt.split (nm l) " ").map D.str)) = _
  rw [gd_pos ⟨by decide +kernel, sz _ (by rw [nm_length]; omega)⟩, lit_sp, split_nm (by simp) (by decide), strsD]
  rfl
theorem split_lines {f : En → Res D} {ρ : En} {l : List Nat} (h : f ρ = .ok (.str (nm l))) (hl : l.length ≤ 1000000) : strM splitO f (eC (.str "\n")) ρ = .ok ((linesL l).map fun w => .str (nm w)) := by
  unfold strM
  rw [h, bind_ok]
  show gd _ (Res.ok ((Txt.split (nm l) "\n").map D.str)) = _
  rw [gd_pos ⟨by decide +kernel, sz _ (by rw [nm_length]; omega)⟩, lit_nl, split_nm (by simp) (by decide), strsD]
  rfl
theorem aug_eq {i : Nat} {o : Int → Int → Int} {f : En → Res D} {ρ : En} {n m : Int} (h : ρ[i]? = some (.sh (.int n))) (hf : f ρ = .ok (.int m)) : sAug i o f ρ = .next (ρ.set i (.sh (.int (o n m)))) := by
  unfold sAug
  rw [h]
  simp only [hf, ofR_ok]
theorem app_exc {i : Nat} {f : En → Res D} {ρ : En} {xs : List D} {e : Exc} (h : owL ρ i = .ok xs) (hf : f ρ = .exc e) : sApp i f ρ = .exc e ρ := by
  unfold sApp
  rw [h, ofR_ok, hf, ofR_exc]
abbrev LTS : D := .str "abcdefghijklmnopqrstuvwxyz"
theorem in_both (c : Nat) : inD (.str ⟨#[c]⟩) (.str ("abcdefghijklmnopqrstuvwxyz" ++ "0123456789" : Str)) = .ok (.bl (lett c || dgt c)) := by
  show Res.ok (D.bl (decide (c ∈ (("abcdefghijklmnopqrstuvwxyz" : Str) ++ ("0123456789" : Str)).cps.toList))) = _
  have e : (("abcdefghijklmnopqrstuvwxyz" : Str) ++ ("0123456789" : Str)).cps.toList = ("abcdefghijklmnopqrstuvwxyz" : Str).cps.toList ++ ("0123456789" : Str).cps.toList := TL.tl_append _ _
  rw [e]
  have : decide (c ∈ ("abcdefghijklmnopqrstuvwxyz" : Str).cps.toList ++ ("0123456789" : Str).cps.toList) = (decide (c ∈ ("abcdefghijklmnopqrstuvwxyz" : Str).cps.toList) || decide (c ∈ ("0123456789" : Str).cps.toList)) := by
    rw [Bool.eq_iff_iff]; simp only [decide_eq_true_eq, Bool.or_eq_true, List.mem_append]
  rw [this, in_letters, in_digits]
theorem bls_map : ∀ (bs : List Bool), blsOf (bs.map D.bl) = some bs
  | [] => rfl
  | b :: bs => by rw [List.map_cons]; unfold blsOf; rw [bls_map bs]; rfl
/-- texts that are asked -/
def tOk (t : List Nat) : Prop := asc t = true ∧ t.length ≤ 500000 ∧ (linesL t).length ≤ 100 ∧ ∀ l ∈ linesL t, lOk l
theorem for_exc {it : En → Res (List D)} {t : D → En → Res En} {b : En → Out} {ρ : En} {e : Exc} (h : it ρ = .exc e) : sFor it t b ρ = .exc e ρ := by unfold sFor; rw [h, ofR_exc]
theorem it_exc {f : En → Res D} {ρ : En} {e : Exc} (h : f ρ = .exc e) : itE f ρ = .exc e := by unfold itE; rw [h, bind_exc]
theorem cons_x1 {f : En → Res D} {g : En → Res (List D)} {ρ : En} {e : Exc} (h : f ρ = .exc e) : aCons f g ρ = .exc e := by unfold aCons; rw [h, bind_exc]
theorem cons_x2 {f : En → Res D} {g : En → Res (List D)} {ρ : En} {d : D} {e : Exc} (h : f ρ = .ok d) (h2 : g ρ = .exc e) : aCons f g ρ = .exc e := by unfold aCons; rw [h, bind_ok, h2, bind_exc]
theorem app_x {o : List D → Res D} {f : En → Res (List D)} {ρ : En} {e : Exc} (h : f ρ = .exc e) : app o f ρ = .exc e := by unfold app; rw [h, bind_exc]
theorem ret_x {f : En → Res D} {ρ : En} {e : Exc} (h : f ρ = .exc e) : sRet f ρ = .exc e ρ := by unfold sRet; rw [h, ofR_exc]
/-- an error as the law tells it -/
def tell : Exc → D
  | .tooMany l => .tup [.str "many", l]
  | .badValue w => .tup [.str "value", w]
  | .badText l w x => .tup [.str "text", l, w, x]
  | _ => .non
def isMV : Exc → Prop | .tooMany _ => True | .badValue _ => True | .badText _ _ _ => True | _ => False
theorem strsOf_nm : ∀ ws : List (List Nat), strsOf (ws.map fun w => .str (nm w)) = some (ws.map nm)
  | [] => rfl
  | w :: ws => by rw [List.map_cons]; unfold strsOf; rw [strsOf_nm ws]; rfl
theorem join_ok {a : List Nat} {ws : List (List Nat)} (h : (ws.map List.length).sum + ws.length * a.length ≤ 16777216) : joinD (nm a) (.lst (ws.map fun w => .str (nm w))) = .ok (.str (nm (TL.joinL a ws))) := by
  show (match strsOf (ws.map fun w => D.str (nm w)) with | some ys => gd ((ys.map Str.length).sum + ys.length * (nm a).length ≤ 16777216) (Res.ok (D.str (Txt.join (nm a) ys))) | none => .stuck) = _
  rw [strsOf_nm]
  have e : (ws.map nm).map Str.length = ws.map List.length := by
    rw [List.map_map]
    exact List.map_congr_left fun w _ => nm_length w
  show gd (((ws.map nm).map Str.length).sum + (ws.map nm).length * (nm a).length ≤ 16777216) (Res.ok (D.str (Txt.join (nm a) (ws.map nm)))) = _
  rw [e, List.length_map, nm_length, gd_pos h, join_nm]
theorem strM_eq {α : Type} {o : Str → D → Res α} {f g : En → Res D} {ρ : En} {s : Str} {d : D} {r : Res α} (h : f ρ = .ok (.str s)) (h2 : g ρ = .ok d) (hr : o s d = r) : strM o f g ρ = r := by
  unfold strM; rw [h, bind_ok]; show (g ρ).bind _ = _; rw [h2, bind_ok]; exact hr
theorem joinL_len (a : List Nat) : ∀ ws : List (List Nat), (TL.joinL a ws).length ≤ (ws.map List.length).sum + ws.length * a.length
  | [] => Nat.zero_le _
  | [p] => by simp [TL.joinL]
  | p :: q :: r => by
    have := joinL_len a (q :: r)
    show (p ++ (a ++ TL.joinL a (q :: r))).length ≤ _
    simp only [List.length_append, List.map_cons, List.sum_cons, List.length_cons, Nat.add_mul] at this ⊢
    omega
theorem sum_le {α : Type} {f : α → Nat} {n : Nat} : ∀ (xs : List α), (∀ x ∈ xs, f x ≤ n) → (xs.map f).sum ≤ xs.length * n
  | [], _ => by simp
  | x :: xs, h => by
    have h1 := h x List.mem_cons_self
    have h2 := sum_le (f := f) (n := n) xs fun y hy => h y (List.mem_cons_of_mem _ hy)
    simp only [List.map_cons, List.sum_cons, List.length_cons, Nat.add_mul]
    omega
theorem setT_eq {i : Nat} {m : List D → Res RV} {fs : En → Res (List D)} {ρ : En} {ds : List D} {d : D} (h : fs ρ = .ok ds) (hm : m ds = .ok (.sh d)) (hn : noTmp ρ i = true) (hs : ds.all sclr = true) : sSetT i m fs ρ = .next (ρ.set i (.tmp d)) := by
  unfold sSetT
  rw [h, ofR_ok, hm]
  simp only [gd_pos (show noTmp ρ i = true ∧ ds.all sclr = true from ⟨hn, hs⟩), ofR_ok]
theorem tmpT_eq {i : Nat} {t : En → Res Bool} {ρ : En} {d : D} {b : Bool} (h : ρ[i]? = some (.tmp d)) (ht : t (ρ.set i (.sh d)) = .ok b) (hn : noTmp ρ i = true) : tmpT i t ρ = .ok b := by
  unfold tmpT
  rw [h]
  simp only [ht, gd_pos hn]
theorem appT_eq {i : Nat} {f : En → Res D} {ρ : En} {a : D} {xs : List D} {d : D} (h : ρ[i]? = some (.tmp (.tup [a, .lst xs]))) (hf : f ρ = .ok d) (hn : noTmp ρ i = true) (hz : xs.length < 16777216) : sAppT i f ρ = .next (ρ.set i .no) := by
  unfold sAppT
  rw [h]
  simp only [hf, ofR_ok, gd_pos (show noTmp ρ i = true ∧ xs.length < sizeLine from ⟨hn, sz' _ hz⟩)]
theorem nmOk_asc {c : List Nat} (h : nmOk c = true) : asc c = true := by
  cases c with
  | nil => cases h
  | cons x r =>
    unfold nmOk at h
    simp only [Bool.and_eq_true, decide_eq_true_eq, List.all_eq_true] at h
    refine List.all_eq_true.mpr fun y hy => ?_
    simp only [decide_eq_true_eq]
    rcases List.mem_cons.mp hy with e | e
    · subst e
      have := h.1.1
      unfold lett at this
      simp only [Bool.and_eq_true, decide_eq_true_eq] at this
      omega
    · have := h.1.2 y e
      unfold lett dgt at this
      simp only [Bool.or_eq_true, Bool.and_eq_true, decide_eq_true_eq] at this
      omega
theorem linesL_join {ls : List (List Nat)} (h : ls ≠ []) (hn : ∀ l ∈ ls, 10 ∉ l) : linesL (TL.joinL [10] ls) = ls := TL.spl_join h hn
theorem words_join {ws : List (List Nat)} (h : ws ≠ []) (hn : ∀ w ∈ ws, 32 ∉ w) : words (TL.joinL [32] ws) = ws := TL.spl_join h hn
/-- a word that may stand in a line -/
def wGood (w : List Nat) : Prop := wOk w ∧ 32 ∉ w ∧ 10 ∉ w
/-- a line made of at most 100 such words -/
def lGood (l : List Nat) : Prop := ∃ ws : List (List Nat), ws ≠ [] ∧ ws.length ≤ 100 ∧ (∀ w ∈ ws, wGood w) ∧ l = TL.joinL [32] ws
theorem joinL_mem {a : List Nat} {c : Nat} : ∀ {ws : List (List Nat)}, c ∈ TL.joinL a ws → c ∈ a ∨ ∃ w ∈ ws, c ∈ w
  | [], h => by cases h
  | [p], h => .inr ⟨p, List.mem_singleton.mpr rfl, h⟩
  | p :: q :: r, h => by
    have h' : c ∈ p ++ (a ++ TL.joinL a (q :: r)) := h
    rcases List.mem_append.mp h' with e | e
    · exact .inr ⟨p, List.mem_cons_self, e⟩
    · rcases List.mem_append.mp e with e | e
      · exact .inl e
      · rcases joinL_mem e with z | ⟨w, hw, z⟩
        · exact .inl z
        · exact .inr ⟨w, List.mem_cons_of_mem _ hw, z⟩
theorem asc_mem {w : List Nat} (h : asc w = true) {c : Nat} (hc : c ∈ w) : c < 128 := by
  have := List.all_eq_true.mp h c hc
  simpa using this
theorem lGood_facts {l : List Nat} (h : lGood l) : lOk l ∧ asc l = true ∧ 10 ∉ l := by
  obtain ⟨ws, h0, hl, hw, rfl⟩ := h
  have hlen : (ws.map List.length).sum ≤ ws.length * 40 := sum_le ws fun w hx => (hw w hx).1.2
  have hj := joinL_len [32] ws
  simp only [List.length_cons, List.length_nil] at hj
  refine ⟨⟨by omega, fun w hx => ?_⟩, List.all_eq_true.mpr fun c hc => ?_, fun hc => ?_⟩
  · rw [words_join h0 fun w hx => (hw w hx).2.1] at hx
    exact (hw w hx).1
  · rcases joinL_mem hc with e | ⟨w, hx, e⟩
    · rw [List.mem_singleton.mp e]; rfl
    · simpa using asc_mem (hw w hx).1.1 e
  · rcases joinL_mem hc with e | ⟨w, hx, e⟩
    · cases List.mem_singleton.mp e
    · exact (hw w hx).2.2 e
theorem tOk_join {ls : List (List Nat)} (h0 : ls ≠ []) (hl : ls.length ≤ 90) (h : ∀ l ∈ ls, lGood l) : tOk (TL.joinL [10] ls) ∧ linesL (TL.joinL [10] ls) = ls := by
  have e := linesL_join h0 fun l hx => (lGood_facts (h l hx)).2.2
  have hlen : (ls.map List.length).sum ≤ ls.length * 5000 := sum_le ls fun l hx => (lGood_facts (h l hx)).1.1
  have hj := joinL_len [10] ls
  simp only [List.length_cons, List.length_nil] at hj
  refine ⟨⟨List.all_eq_true.mpr fun c hc => ?_, by omega, by rw [e]; omega, fun l hx => ?_⟩, e⟩
  · rcases joinL_mem hc with z | ⟨w, hx, z⟩
    · rw [List.mem_singleton.mp z]; rfl
    · simpa using asc_mem (lGood_facts (h w hx)).2.1 z
  · rw [e] at hx
    exact (lGood_facts (h l hx)).1
theorem numL_good (n : Nat) (h : n < 10 ^ 30) : wGood (TL.numL n) :=
  ⟨⟨numL_asc n, Nat.le_trans (TL.numL_len (k := 30) (by decide) h) (by decide)⟩, TL.numL_free (.inl (by decide)), TL.numL_free (.inl (by decide))⟩
theorem name_good {c : List Nat} (h : nmOk c = true) : wGood c := by
  have hl := nm_len h
  have hc : ∀ x ∈ c, (lett x || dgt x) = true := fun x hx => by
    cases c with
    | nil => cases hx
    | cons a r =>
      unfold nmOk at h
      simp only [Bool.and_eq_true, decide_eq_true_eq, List.all_eq_true] at h
      rcases List.mem_cons.mp hx with e | e
      · subst e; rw [h.1.1]; rfl
      · exact h.1.2 x e
  have no : ∀ y : Nat, (lett y || dgt y) = false → y ∉ c := fun y hy hm => by rw [hc y hm] at hy; cases hy
  exact ⟨⟨nmOk_asc h, by omega⟩, no 32 (by decide), no 10 (by decide)⟩
theorem good_num {n high : Nat} (h : n ≤ high) : goodNum high (TL.numL n) = true := by
  unfold goodNum
  have : vl (TL.numL n) = n := TL.numL_val n
  rw [numL_allD, numL_canon, this, decide_eq_true h]
  rfl
theorem pow36 : powD (.int 36) (.int 11) = .ok (.int 131621703842267136) := by
  show gd _ (Res.ok (D.int (36 ^ (11 : Int).toNat))) = _
  rw [gd_pos (by decide)]
  rw [show (36 : Int) ^ (11 : Int).toNat = 131621703842267136 from by decide]
def lG (n : Nat) (l : List Nat) : Prop := ∃ ws : List (List Nat), ws.length ≤ n ∧ (∀ w ∈ ws, wGood w) ∧ l = TL.joinL [32] ws
theorem wGood_nil : wGood [] := ⟨⟨rfl, by decide⟩, by simp, by simp⟩
theorem lG_good {n : Nat} {l : List Nat} (h : lG n l) (hn : n ≤ 99) : lGood l := by
  obtain ⟨ws, h1, h2, h3⟩ := h
  cases ws with
  | nil => exact ⟨[[]], by simp, by simp, fun w hw => by rw [List.mem_singleton.mp hw]; exact wGood_nil, h3⟩
  | cons a r => exact ⟨a :: r, by simp, by omega, h2, h3⟩
theorem if_way {ρ : En} {i : Nat} {x c : Int} {F : En → Out} (hx : ρ[i]? = some (.sh (.int x))) : sIf (tst bOf (PL.bin eqD (eVar i) (eC (.int c)))) F sNext ρ = if x = c then F ρ else .next ρ := by
  have : tst bOf (PL.bin eqD (eVar i) (eC (.int c))) ρ = .ok (decide (x = c)) := tst_eq (bin_eq (show eVar i ρ = .ok (.int x) by unfold eVar; rw [hx]) rfl (eq_int _ _)) rfl
  refine if_eq this ?_
  by_cases h : x = c
  · rw [decide_eq_true h, if_pos h, if_pos rfl]
  · rw [decide_eq_false h, if_neg h, if_neg (by decide)]; rfl
theorem ins_ok {i : Nat} {fs : En → Res (List D)} {ρ : En} {xs : List D} {j : Nat} {d : D} (h : owL ρ i = .ok xs) (hf : fs ρ = .ok [.int ((j : Nat) : Int), d]) (hz : xs.length < 16777216) (hj : j < 100000) : sIns i fs ρ = .next (setL ρ i (xs.take j ++ [d] ++ xs.drop j)) := by
  unfold sIns
  rw [h, ofR_ok, hf, ofR_ok]
  have : insAt xs [.int ((j : Nat) : Int), d] = .ok (xs.take j ++ [d] ++ xs.drop j) := by
    show gd (xs.length < sizeLine ∧ 0 ≤ ((j : Nat) : Int) ∧ ((j : Nat) : Int) < 2 ^ 63) (Res.ok (xs.take ((j : Nat) : Int).toNat ++ [d] ++ xs.drop ((j : Nat) : Int).toNat)) = _
    rw [gd_pos ⟨sz' _ hz, by omega, by omega⟩, Int.toNat_natCast]
  rw [this, ofR_ok]
theorem pop_ok {i : Nat} {f : En → Res D} {ρ : En} {xs : List D} {j : Nat} (h : owL ρ i = .ok xs) (hf : f ρ = .ok (.int ((j : Nat) : Int))) (hj : j < xs.length) (hz : xs.length < 100000) : sPopAt i f ρ = .next (setL ρ i (xs.eraseIdx j)) := by
  unfold sPopAt
  rw [h, ofR_ok, hf, ofR_ok]
  have : popAt xs (.int ((j : Nat) : Int)) = .ok (xs.eraseIdx j) := by
    show gd (0 ≤ ((j : Nat) : Int) ∧ ((j : Nat) : Int) < xs.length ∧ xs.length < 2 ^ 62) (Res.ok (xs.eraseIdx ((j : Nat) : Int).toNat)) = _
    rw [gd_pos ⟨by omega, by omega, by omega⟩, Int.toNat_natCast]
  rw [this, ofR_ok]
abbrev wds (ws : List (List Nat)) : List D := ws.map fun w => .str (nm w)
theorem set_good {ws : List (List Nat)} {j : Nat} {w : List Nat} (h : ∀ x ∈ ws, wGood x) (hw : wGood w) : ∀ x ∈ ws.set j w, wGood x := fun x hx => by
  rcases List.mem_or_eq_of_mem_set hx with e | e
  · exact h x e
  · subst e; exact hw
theorem wds_set (ws : List (List Nat)) (j : Nat) (w : List Nat) : (wds ws).set j (.str (nm w)) = wds (ws.set j w) := by unfold wds; rw [List.map_set]
theorem wds_len (ws : List (List Nat)) : (wds ws).length = ws.length := List.length_map ..
theorem ins_good {ws : List (List Nat)} {j : Nat} {w : List Nat} (h : ∀ x ∈ ws, wGood x) (hw : wGood w) : ∀ x ∈ ws.take j ++ [w] ++ ws.drop j, wGood x := fun x hx => by
  rcases List.mem_append.mp hx with e | e
  · rcases List.mem_append.mp e with e | e
    · exact h x (List.mem_of_mem_take e)
    · rw [List.mem_singleton.mp e]; exact hw
  · exact h x (List.mem_of_mem_drop e)
theorem wds_ins (ws : List (List Nat)) (j : Nat) (w : List Nat) : (wds ws).take j ++ [.str (nm w)] ++ (wds ws).drop j = wds (ws.take j ++ [w] ++ ws.drop j) := by
  unfold wds; rw [List.map_append, List.map_append, List.map_take, List.map_drop]; rfl
theorem wds_get {ws : List (List Nat)} {j : Nat} (hj : j < ws.length) : (wds ws)[j]'(by rw [wds_len]; exact hj) = .str (nm ws[j]) := by unfold wds; rw [List.getElem_map]
theorem split_wordsO {f : En → Res D} {ρ : En} {l : List Nat} (h : f ρ = .ok (.str (nm l))) (hl : l.length ≤ 1000000) : strM splitO f (eC (.str " ")) ρ = .ok ((words l).map fun w => .str (nm w)) := by
  unfold strM
  rw [h, bind_ok]
  show splitO (nm l) (.str " ") = _
  show gd _ (Res.ok ((Txt.split (nm l) " ").map D.str)) = _
  rw [gd_pos ⟨by decide +kernel, sz _ (by rw [nm_length]; omega)⟩, lit_sp, split_nm (by simp) (by decide), strsD]
  rfl
theorem lg_len {ws : List (List Nat)} (hw : ∀ w ∈ ws, wGood w) : (ws.map List.length).sum ≤ ws.length * 40 := sum_le ws fun w hx => (hw w hx).1.2
/-- lines of at most n good words (or empty) -/
def LS (n : Nat) (ls : List (List Nat)) : Prop := ∀ l ∈ ls, lG n l
theorem lG_ne {n : Nat} {l : List Nat} (h : lG n l) (hn : 1 ≤ n) : ∃ ws : List (List Nat), ws ≠ [] ∧ ws.length ≤ n ∧ (∀ w ∈ ws, wGood w) ∧ l = TL.joinL [32] ws := by
  obtain ⟨ws, h1, h2, h3⟩ := h
  cases ws with
  | nil => exact ⟨[[]], by simp, by simpa using hn, fun w hw => by rw [List.mem_singleton.mp hw]; exact wGood_nil, h3⟩
  | cons a r => exact ⟨a :: r, by simp, h1, h2, h3⟩
theorem lG_mono {n m : Nat} {l : List Nat} (h : lG n l) (hn : n ≤ m) : lG m l := by
  obtain ⟨ws, h1, h2, h3⟩ := h
  exact ⟨ws, by omega, h2, h3⟩
theorem lG_nil (n : Nat) : lG n [] := ⟨[], by simp, by simp, rfl⟩
theorem LS_set {n : Nat} {ls : List (List Nat)} {l : List Nat} {j : Nat} (h : LS n ls) (hl : lG n l) : LS n (ls.set j l) := fun x hx => by
  rcases List.mem_or_eq_of_mem_set hx with e | e
  · exact h x e
  · subst e; exact hl
theorem lG_fine {n : Nat} {l : List Nat} (h : lG n l) (hn : n ≤ 99) : lGood l := lG_good h hn
theorem LS_text {ls : List (List Nat)} {n : Nat} (h0 : 0 < ls.length) (hl : ls.length ≤ 90) (hn : n ≤ 99) (h : LS n ls) : tOk (TL.joinL [10] ls) ∧ linesL (TL.joinL [10] ls) = ls :=
  tOk_join (List.length_pos_iff.mp h0) hl fun l hx => lG_good (h l hx) hn
theorem join_lines {n : Nat} {ls : List (List Nat)} {f : En → Res D} {ρ : En} (h0 : 0 < ls.length) (hl : ls.length ≤ 90) (hn : n ≤ 99) (h : LS n ls) (hf : f ρ = .ok (.lst (wds ls))) : strM joinD (eC (.str "\n")) f ρ = .ok (.str (nm (TL.joinL [10] ls))) := by
  have hlen : (ls.map List.length).sum ≤ ls.length * 5000 := sum_le ls fun l hx => (lGood_facts (lG_good (h l hx) hn)).1.1
  refine strM_eq (s := nm [10]) (by rw [← lit_nl]; rfl) hf (join_ok ?_)
  simp only [List.length_cons, List.length_nil]
  omega
theorem word_lG {w : List Nat} (h : wGood w) : lG 4 w := ⟨[w], by simp, fun x hx => by rw [List.mem_singleton.mp hx]; exact h, rfl⟩
theorem cutN {α : Type} (xs : List α) (k : Nat) : cutG xs none (some (k : Int)) = xs.take k := by
  unfold cutG
  rw [HT.sIx_none, HT.sIx_nat, List.drop_zero, Nat.sub_zero, List.take_eq_take_iff]
  omega
theorem cut1 {α : Type} (xs : List α) : cutG xs (some 1) none = xs.drop 1 := by
  unfold cutG
  rw [HT.sIx_none, show ((1 : Int)) = ((1 : Nat) : Int) from rfl, HT.sIx_nat]
  rcases Nat.lt_or_ge xs.length 1 with h | h
  · have : xs = [] := List.length_eq_zero_iff.mp (by omega)
    subst this; rfl
  · rw [Nat.min_eq_left h, List.take_of_length_le (by rw [List.length_drop]; omega)]
end PL

set_option maxRecDepth 100000
set_option maxHeartbeats 1000000
namespace PL
open PySem PL
/-! ## loops -/
theorem for_inv {α : Type} {enc : α → D} {t : D → En → Res En} {B : En → Out} (I : List α → En → Prop) : ∀ (xs done : List α) (ρ : En), I done ρ →
    (∀ dn x rest ρ, done ++ xs = dn ++ x :: rest → I dn ρ → ∃ ρ1 ρ', t (enc x) ρ = .ok ρ1 ∧ B ρ1 = .next ρ' ∧ I (dn ++ [x]) ρ') → ∃ ρ', forL t B (xs.map enc) ρ = .next ρ' ∧ I (done ++ xs) ρ'
  | [], done, ρ, h0, _ => ⟨ρ, rfl, by rw [List.append_nil]; exact h0⟩
  | x :: xs, done, ρ, h0, hs => by
    obtain ⟨ρ1, ρ', e1, e2, e3⟩ := hs done x xs ρ rfl h0
    obtain ⟨ρ2, e4, e5⟩ := for_inv I xs (done ++ [x]) ρ' e3 fun dn y rest ρ e => hs dn y rest ρ (by rw [← e, List.append_assoc]; rfl)
    refine ⟨ρ2, ?_, by rw [List.append_assoc] at e5; exact e5⟩
    rw [List.map_cons]
    unfold forL
    simp only [e1, e2, lp_next]
    exact e4
/-- every turn leaves all but the target -/
theorem for_all {i : Nat} {B : En → Out} {P : Sl → En} : ∀ {ds : List D} {o : Sl}, (∀ o d, (P o).set i (.sh d) = P (.sh d)) → (∀ d ∈ ds, B (P (.sh d)) = .next (P (.sh d))) → ∃ o', forL (gN i) B ds (P o) = .next (P o')
  | [], o, _, _ => ⟨o, rfl⟩
  | d :: ds, o, hP, h => by
    obtain ⟨o', e⟩ := for_all (P := P) (ds := ds) (o := .sh d) hP fun x hx => h x (List.mem_cons_of_mem _ hx)
    exact ⟨o', by rw [for_cons, hP, h d List.mem_cons_self, lp_next, e]⟩
/-- .. up to one that ends it -/
theorem for_stop {i : Nat} {B : En → Out} {P : Sl → En} {d : D} {post : List D} {out : Out} (hP : ∀ o d, (P o).set i (.sh d) = P (.sh d)) (hd : B (P (.sh d)) = out) (ho : (∃ r, out = .ret r) ∨ ∃ e ρ, out = .exc e ρ) : ∀ {pre : List D} {o : Sl}, (∀ d ∈ pre, B (P (.sh d)) = .next (P (.sh d))) → forL (gN i) B (pre ++ d :: post) (P o) = out
  | [], o, _ => by
    rw [List.nil_append, for_cons, hP, hd]
    rcases ho with ⟨r, rfl⟩ | ⟨e, ρ, rfl⟩
    · rfl
    · rfl
  | x :: pre, o, h => by
    rw [List.cons_append, for_cons, hP, h x List.mem_cons_self, lp_next]
    exact for_stop (P := P) hP hd ho (pre := pre) (o := .sh x) fun y hy => h y (List.mem_cons_of_mem _ hy)
/-- a test of all, which ends with r at the first that fails -/
theorem for_test {α : Type} {enc : α → D} {p : α → Bool} {i : Nat} {B : En → Out} {P : Sl → En} {r : RV} (hP : ∀ o d, (P o).set i (.sh d) = P (.sh d)) : ∀ {xs : List α} {o : Sl}, (∀ x ∈ xs, B (P (.sh (enc x))) = if p x = true then .next (P (.sh (enc x))) else .ret r) → ∃ o', forL (gN i) B (xs.map enc) (P o) = if xs.all p = true then .next (P o') else .ret r
  | [], o, _ => ⟨o, rfl⟩
  | x :: xs, o, h => by
    obtain ⟨o', e⟩ := for_test (enc := enc) (p := p) (B := B) (P := P) (r := r) hP (xs := xs) (o := .sh (enc x)) fun y hy => h y (List.mem_cons_of_mem _ hy)
    refine ⟨o', ?_⟩
    rw [List.map_cons, for_cons, hP, h x List.mem_cons_self, List.all_cons]
    cases p x with
    | true => rw [if_pos rfl, lp_next, e, Bool.true_and]
    | false => rw [if_neg (by decide), lp_ret, Bool.false_and, if_neg (by decide)]
/-- an owned list that grows by one each turn -/
theorem for_acc {α : Type} {enc f : α → D} {i : Nat} {B : En → Out} {P : List D → Sl → En} {n : Nat} (hP : ∀ a o d, (P a o).set i (.sh d) = P a (.sh d)) : ∀ {xs : List α} {acc : List D} {o : Sl}, acc.length + xs.length ≤ n → (∀ x ∈ xs, ∀ acc : List D, acc.length < n → B (P acc (.sh (enc x))) = .next (P (acc ++ [f x]) (.sh (enc x)))) → ∃ o', forL (gN i) B (xs.map enc) (P acc o) = .next (P (acc ++ xs.map f) o')
  | [], acc, o, _, _ => ⟨o, by show Out.next _ = Out.next (P (acc ++ []) o); rw [List.append_nil]⟩
  | x :: xs, acc, o, hl, h => by
    simp only [List.length_cons] at hl
    obtain ⟨o', e⟩ := for_acc (enc := enc) (f := f) (B := B) (P := P) (n := n) hP (xs := xs) (acc := acc ++ [f x]) (o := .sh (enc x)) (by rw [List.length_append]; simp only [List.length_cons, List.length_nil]; omega) fun y hy => h y (List.mem_cons_of_mem _ hy)
    refine ⟨o', ?_⟩
    rw [List.map_cons, for_cons, hP, h x List.mem_cons_self acc (by omega), lp_next, e, List.map_cons, List.append_assoc]
    rfl
theorem forT_cons {is : List Nat} {b : En → Out} {xs ds : List D} {ρ ρ1 : En} (h : setAll is xs ρ = .ok ρ1) : forL (gT is) b (.tup xs :: ds) ρ = lpO (forL (gT is) b ds) (b ρ1) := by
  show (match setAll is xs ρ with | .ok ρ1 => lpO (forL (gT is) b ds) (b ρ1) | _ => Out.stuck) = _
  rw [h]
/-! ## comprehensions -/
theorem lc_map {α : Type} {enc g : α → D} {i : Nat} {te : En → Res D} {ρ : En} : ∀ {xs : List α}, (∀ x ∈ xs, te (ρ.set i (.sh (enc x))) = .ok (g x)) → lcL i yesB te (xs.map enc) ρ = .ok (xs.map g)
  | [], _ => rfl
  | x :: xs, h => lc_yes rfl (h x List.mem_cons_self) (lc_map fun y hy => h y (List.mem_cons_of_mem _ hy))
theorem lc_filter {α : Type} {enc g : α → D} {p : α → Bool} {i : Nat} {tt : En → Res Bool} {te : En → Res D} {ρ : En} : ∀ {xs : List α}, (∀ x ∈ xs, tt (ρ.set i (.sh (enc x))) = .ok (p x)) → (∀ x ∈ xs, p x = true → te (ρ.set i (.sh (enc x))) = .ok (g x)) → lcL i tt te (xs.map enc) ρ = .ok ((xs.filter p).map g)
  | [], _, _ => rfl
  | x :: xs, h, h2 => by
    have ih := lc_filter (xs := xs) (fun y hy => h y (List.mem_cons_of_mem _ hy)) (fun y hy => h2 y (List.mem_cons_of_mem _ hy))
    have h' := h x List.mem_cons_self
    rw [List.map_cons, List.filter_cons]
    cases hp : p x with
    | true =>
      rw [hp] at h'
      rw [if_pos rfl]
      exact lc_yes h' (h2 x List.mem_cons_self hp) ih
    | false =>
      rw [hp] at h'
      rw [if_neg (by decide)]
      exact lc_no h' ih
theorem lce_map {α : Type} {enc g : α → D} {it : En → Res (List D)} {i : Nat} {te : En → Res D} {ρ : En} {xs : List α} (h : it ρ = .ok (xs.map enc)) (hz : xs.length ≤ 16777216) (h2 : ∀ x ∈ xs, te (ρ.set i (.sh (enc x))) = .ok (g x)) : lcE it i yesB te ρ = .ok (xs.map g) := lce_eq h (by rw [List.length_map]; exact hz) (lc_map h2)
theorem lce_filter {α : Type} {enc g : α → D} {p : α → Bool} {it : En → Res (List D)} {i : Nat} {tt : En → Res Bool} {te : En → Res D} {ρ : En} {xs : List α} (h : it ρ = .ok (xs.map enc)) (hz : xs.length ≤ 16777216) (h1 : ∀ x ∈ xs, tt (ρ.set i (.sh (enc x))) = .ok (p x)) (h2 : ∀ x ∈ xs, p x = true → te (ρ.set i (.sh (enc x))) = .ok (g x)) : lcE it i tt te ρ = .ok ((xs.filter p).map g) := lce_eq h (by rw [List.length_map]; exact hz) (lc_filter h1 h2)
/-! ## texts for the engine -/
theorem spl_sp (l : List Nat) (hl : l.length ≤ 1000000) : splitO (nm l) (.str " ") = .ok (wds (words l)) := by
  have := split_wordsO (f := eC (.str (nm l))) (ρ := []) rfl hl
  exact this
theorem spl_nl (l : List Nat) (hl : l.length ≤ 1000000) : splitO (nm l) (.str "\n") = .ok (wds (linesL l)) := by
  have := split_lines (f := eC (.str (nm l))) (ρ := []) rfl hl
  exact this
theorem join_nl {ws : List (List Nat)} (h : (ws.map List.length).sum + ws.length ≤ 16777216) : joinD "\n" (.lst (wds ws)) = .ok (.str (nm (TL.joinL [10] ws))) := by
  rw [lit_nl]
  exact join_ok (by simp only [List.length_cons, List.length_nil]; omega)
theorem join_sp {ws : List (List Nat)} (h : (ws.map List.length).sum + ws.length ≤ 16777216) : joinD " " (.lst (wds ws)) = .ok (.str (nm (TL.joinL [32] ws))) := by
  rw [lit_sp]
  exact join_ok (by simp only [List.length_cons, List.length_nil]; omega)
theorem wds_ix (ws : List (List Nat)) (k : Nat) (h : k < ws.length) : ixD (.lst (wds ws)) (.int (k : Int)) = .ok (.str (nm ws[k])) := ws_ix ws k h
theorem wds_lenL (ws : List (List Nat)) : lenL [.lst (wds ws)] = .ok (.int (ws.length : Nat)) := ws_len ws
theorem lit_e : ("" : Str) = nm [] := lit0
theorem rng2_nat (a b : Nat) (h : b ≤ 1000000) (ha : a ≤ b) : rng2 [.int (a : Int), .int (b : Int)] = .ok ((List.range' a (b - a)).map fun k : Nat => .int (k : Int)) := by
  show gd _ (Res.ok ((List.range ((b : Int) - (a : Int)).toNat).map fun k => D.int ((a : Int) + ((k : Nat) : Int)))) = _
  rw [gd_pos (by omega), List.range'_eq_map_range, List.map_map]
  have : ((b : Int) - (a : Int)).toNat = b - a := by omega
  rw [this]
  refine congrArg Res.ok (List.map_congr_left fun k _ => ?_)
  show D.int _ = D.int _
  congr 1
theorem atI_last {α : Type} (xs : List α) (x : α) : L2.atI (xs ++ [x]) (-1) = some x := by
  unfold L2.atI L2.ixN
  rw [if_neg (by omega), List.length_append, List.length_cons, List.length_nil]
  rw [if_pos (by omega)]
  show (xs ++ [x])[((-1 : Int) + ((xs.length + (0 + 1) : Nat) : Int)).toNat]? = some x
  rw [show ((-1 : Int) + ((xs.length + (0 + 1) : Nat) : Int)).toNat = xs.length from by omega]
  simp
theorem ix_last (xs : List D) (x : D) : ixD (.lst (xs ++ [x])) (.int (-1)) = .ok x := by
  simp only [ixD, atI_last]
theorem put_wds {ws : List (List Nat)} {w : List Nat} {j : Nat} (hj : j < ws.length) : putAt (wds ws) (.str (nm w)) (.int (j : Int)) = .ok (wds (ws.set j w)) := j_put (j := j) (ixN_of rfl (by rw [wds_len]; exact hj)) (wds_set _ _ _)
theorem ins_wds {ws : List (List Nat)} {w : List Nat} {j : Nat} (hj : j ≤ 100000) (hz : ws.length < 1000000) : insAt (wds ws) [.int (j : Int), .str (nm w)] = .ok (wds (ws.take j ++ [w] ++ ws.drop j)) := by
  rw [← wds_ins]
  show gd ((wds ws).length < sizeLine ∧ 0 ≤ (j : Int) ∧ (j : Int) < 2 ^ 63) (Res.ok ((wds ws).take (j : Int).toNat ++ [_] ++ (wds ws).drop (j : Int).toNat)) = _
  rw [gd_pos ⟨sz' _ (by rw [wds_len]; omega), by omega, by omega⟩, Int.toNat_natCast]
theorem pop_wds {ws : List (List Nat)} {j : Nat} (hj : j < ws.length) (hz : ws.length < 100000) : popAt (wds ws) (.int (j : Int)) = .ok (wds (ws.eraseIdx j)) := by
  show gd (0 ≤ (j : Int) ∧ (j : Int) < (wds ws).length ∧ (wds ws).length < 2 ^ 62) (Res.ok ((wds ws).eraseIdx (j : Int).toNat)) = _
  rw [wds_len, gd_pos ⟨by omega, by omega, by omega⟩, Int.toNat_natCast, map_erase]
theorem wds_app (ws : List (List Nat)) (w : List Nat) : wds ws ++ [.str (nm w)] = wds (ws ++ [w]) := by unfold wds; rw [List.map_append]; rfl
theorem mod_len {x : Int} {n : Nat} (hn : 0 < n) : ∃ j : Nat, j < n ∧ modD (.int x) (.int (n : Int)) = .ok (.int (j : Int)) := by
  have h0 : (0 : Int) < (n : Int) := by omega
  obtain ⟨j, hj⟩ := Int.eq_ofNat_of_zero_le (Int.emod_nonneg x (by omega : (n : Int) ≠ 0))
  exact ⟨j, by have := Int.emod_lt_of_pos x h0; omega, by rw [j_modI _ _ h0, hj]⟩
end PL

set_option maxRecDepth 100000
set_option maxHeartbeats 1000000
namespace K48
open PySem PySem.Spec PyProof.Rows L2 PL
def knX : Exc → Bool | .badValue _ => true | .noPlacing _ => true | .tooMany _ => true | _ => false
def isX_BadValue : Exc → Bool | .badValue _ => true | _ => false
def isX_NoPlacing : Exc → Bool | .noPlacing _ => true | _ => false
def isX_TooMany : Exc → Bool | .tooMany _ => true | _ => false
/-! ### _law_row -/
def B1__law_row : En → Out := (sSeq (sApp 4 (bin modD (app intL (aCons (eVar 3) aNil)) (eVar 2))) (sSet 3 (bin fdivD (eVar 3) (eVar 2))))
def B2__law_row : En → Out := (sSeq (sSet 5 (bin modD (app intL (aCons (bin addD (bin addD (bin mulD (eVar 5) (eC (.int 69621))) (bin mulD (eVar 6) (eC (.int 48271)))) (eVar 3)) aNil)) (eC (.int 2147483629)))) (sApp 4 (bin modD (app intL (aCons (bin fdivD (eVar 5) (eC (.int 7))) aNil)) (eVar 2))))
def b__law_row : En → Out := (sSeq (sSet 3 (app absL (aCons (eVar 0) aNil))) (sSeq (sSetO 4 (appO lstD aNil)) (sSeq (sIf (tst bOf (bin geD (eVar 3) (bin powD (eC (.int 10)) (eC (.int 18))))) (sSeq (sSet 3 (bin subD (eVar 3) (bin powD (eC (.int 10)) (eC (.int 18))))) (sSeq (sFor (appO rng1 (aCons (eVar 1) aNil)) (gN 6) B1__law_row) (sRetV 4))) sNext) (sSeq (sSet 5 (bin modD (app intL (aCons (bin addD (bin mulD (eVar 3) (eC (.int 48271))) (eC (.int 11))) aNil)) (eC (.int 2147483647)))) (sSeq (sFor (appO rng1 (aCons (eVar 1) aNil)) (gN 6) B2__law_row) (sRetV 4))))))
def m__law_row : List D → Res RV := runF 7 b__law_row
theorem go__law_row {x0 x1 x2 : D} {o : Out} {r : Res RV} (h : b__law_row [.sh x0, .sh x1, .sh x2, .no, .no, .no, .no] = o) (k : runO o = r) : m__law_row [x0, x1, x2] = r := by rw [← k, ← h]; rfl
/-! ### _law_cell -/
def b__law_cell : En → Out := (sSeq (sIf (tst bOf (bin ltD (eVar 1) (app lenL (aCons (eVar 0) aNil)))) (sRet (app intL (aCons (bin ixD (eVar 0) (eVar 1)) aNil))) sNext) (sRet (eC (.int 0))))
def m__law_cell : List D → Res RV := runF 2 b__law_cell
theorem go__law_cell {x0 x1 : D} {o : Out} {r : Res RV} (h : b__law_cell [.sh x0, .sh x1] = o) (k : runO o = r) : m__law_cell [x0, x1] = r := by rw [← k, ← h]; rfl
/-! ### _law_sizes -/
def E1__law_sizes : En → Res D := (app tupD (aCons (bin addD (eC (.int 1)) (bin ixD (eVar 4) (eVar 7))) (aCons (bin addD (eC (.int 1)) (bin ixD (eVar 5) (eVar 7))) (aCons (bin addD (eC (.int 1)) (bin ixD (eVar 6) (eVar 7))) aNil))))
def b__law_sizes : En → Out := (sSeq (sSet 4 (callE m__law_row (aCons (callE m__law_cell (aCons (eVar 0) (aCons (eVar 1) aNil))) (aCons (eVar 2) (aCons (eVar 3) aNil))))) (sSeq (sSet 5 (callE m__law_row (aCons (callE m__law_cell (aCons (eVar 0) (aCons (bin addD (eVar 1) (eC (.int 1))) aNil))) (aCons (eVar 2) (aCons (eVar 3) aNil))))) (sSeq (sSet 6 (callE m__law_row (aCons (callE m__law_cell (aCons (eVar 0) (aCons (bin addD (eVar 1) (eC (.int 2))) aNil))) (aCons (eVar 2) (aCons (eVar 3) aNil))))) (sRetO (lcE (appO rng1 (aCons (eVar 2) aNil)) 7 yesB E1__law_sizes)))))
def m__law_sizes : List D → Res RV := runF 8 b__law_sizes
theorem go__law_sizes {x0 x1 x2 x3 : D} {o : Out} {r : Res RV} (h : b__law_sizes [.sh x0, .sh x1, .sh x2, .sh x3, .no, .no, .no, .no] = o) (k : runO o = r) : m__law_sizes [x0, x1, x2, x3] = r := by rw [← k, ← h]; rfl
/-! ### _law_name -/
def B1__law_name : En → Out := (sIf (tst bOf (bin gtD (eVar 3) (eC (.int 0)))) (sSeq (sSet 2 (bin addD (eVar 2) (bin ixD (eVar 1) (bin modD (app intL (aCons (eVar 3) aNil)) (eC (.int 36)))))) (sSet 3 (bin fdivD (eVar 3) (eC (.int 36))))) sNext)
def b__law_name : En → Out := (sSeq (sSet 1 (eC (.str "abcdefghijklmnopqrstuvwxyz0123456789"))) (sSeq (sSet 2 (bin ixD (eVar 1) (bin modD (app intL (aCons (eVar 0) aNil)) (eC (.int 26))))) (sSeq (sSet 3 (bin fdivD (eVar 0) (eC (.int 26)))) (sSeq (sFor (appO rng1 (aCons (eC (.int 11)) aNil)) (gN 4) B1__law_name) (sRet (eVar 2))))))
def m__law_name : List D → Res RV := runF 5 b__law_name
theorem go__law_name {x0 : D} {o : Out} {r : Res RV} (h : b__law_name [.sh x0, .no, .no, .no, .no] = o) (k : runO o = r) : m__law_name [x0] = r := by rw [← k, ← h]; rfl
/-! ### _law_manifest -/
def B1__law_manifest : En → Out := (sSeq (sSet 11 (bin addD (eC (.int 1)) (bin ixD (eVar 7) (eVar 10)))) (sSeq (sIf (tst bOf (bin eqD (bin modD (app intL (aCons (bin ixD (eVar 7) (eVar 10)) aNil)) (eC (.int 5))) (eC (.int 0)))) (sSet 11 (eC (.int 0))) sNext) (sApp 9 (app tupD (aCons (callE m__law_name (aCons (bin addD (bin mulD (eC (.int 7919)) (eVar 10)) (bin ixD (eVar 8) (eVar 10))) aNil)) (aCons (bin ixD (eVar 4) (eVar 10)) (aCons (bin ixD (eVar 3) (bin ixD (eVar 5) (eVar 10))) (aCons (bin ixD (eVar 3) (bin ixD (eVar 6) (eVar 10))) (aCons (eVar 11) aNil)))))))))
def b__law_manifest : En → Out := (sSeq (sSet 4 (callE m__law_sizes (aCons (eVar 0) (aCons (eC (.int 4)) (aCons (eVar 1) (aCons (eVar 2) aNil)))))) (sSeq (sSet 5 (callE m__law_row (aCons (callE m__law_cell (aCons (eVar 0) (aCons (eC (.int 7)) aNil))) (aCons (eVar 1) (aCons (app lenL (aCons (eVar 3) aNil)) aNil))))) (sSeq (sSet 6 (callE m__law_row (aCons (callE m__law_cell (aCons (eVar 0) (aCons (eC (.int 8)) aNil))) (aCons (eVar 1) (aCons (app lenL (aCons (eVar 3) aNil)) aNil))))) (sSeq (sSet 7 (callE m__law_row (aCons (callE m__law_cell (aCons (eVar 0) (aCons (eC (.int 9)) aNil))) (aCons (eVar 1) (aCons (eC (.int 100)) aNil))))) (sSeq (sSet 8 (callE m__law_row (aCons (callE m__law_cell (aCons (eVar 0) (aCons (eC (.int 10)) aNil))) (aCons (eVar 1) (aCons (eC (.int 7919)) aNil))))) (sSeq (sSetO 9 (appO lstD aNil)) (sSeq (sFor (appO rng1 (aCons (eVar 1) aNil)) (gN 10) B1__law_manifest) (sRetV 9))))))))
def m__law_manifest : List D → Res RV := runF 12 b__law_manifest
theorem go__law_manifest {x0 x1 x2 x3 : D} {o : Out} {r : Res RV} (h : b__law_manifest [.sh x0, .sh x1, .sh x2, .sh x3, .no, .no, .no, .no, .no, .no, .no, .no] = o) (k : runO o = r) : m__law_manifest [x0, x1, x2, x3] = r := by rw [← k, ← h]; rfl
/-! ### _law_same -/
def B1__law_same (again : List D → Res RV) : En → Out := (sIf (notB (tst truD (callE again (aCons (bin ixD (eVar 0) (eVar 2)) (aCons (bin ixD (eVar 1) (eVar 2)) aNil))))) (sRet (eC (.bl false))) sNext)
def b__law_same (again : List D → Res RV) : En → Out := (sSeq (sIf (tst bOf (bin isD (eVar 1) (eC .non))) (sRet (bin isD (eVar 0) (eC .non))) sNext) (sSeq (sIf (tst truD (isiD "bool" (eVar 1))) (sRet (andV (isiD "bool" (eVar 0)) (bin eqD (eVar 0) (eVar 1)))) sNext) (sSeq (sIf (tst truD (isiD "int" (eVar 1))) (sRet (andV (isiD "int" (eVar 0)) (andV (notV (isiD "bool" (eVar 0))) (bin eqD (eVar 0) (eVar 1))))) sNext) (sSeq (sIf (tst truD (isiD "str" (eVar 1))) (sRet (andV (isiD "str" (eVar 0)) (bin eqD (eVar 0) (eVar 1)))) sNext) (sSeq (sIf (andB (tst truD (isiD "tuple" (eVar 1))) (notB (tst truD (isiD "tuple" (eVar 0))))) (sRet (eC (.bl false))) sNext) (sSeq (sIf (andB (tst truD (isiD "list" (eVar 1))) (notB (tst truD (isiD "list" (eVar 0))))) (sRet (eC (.bl false))) sNext) (sSeq (sIf (tst bOf (bin neD (app lenL (aCons (eVar 0) aNil)) (app lenL (aCons (eVar 1) aNil)))) (sRet (eC (.bl false))) sNext) (sSeq (sFor (appO rng1 (aCons (app lenL (aCons (eVar 1) aNil)) aNil)) (gN 2) (B1__law_same again)) (sRet (eC (.bl true)))))))))))
def m__law_same : Nat → List D → Res RV | 0 => runF 3 sNever | n + 1 => runF 3 (b__law_same (m__law_same n))
/-! ### form_of -/
def b_form_of : En → Out := (sRet (app tupleL (aCons (own (appO sortRL (aCons (eVar 0) aNil))) aNil)))
def m_form_of : List D → Res RV := runF 1 b_form_of
theorem go_form_of {x0 : D} {o : Out} {r : Res RV} (h : b_form_of [.sh x0] = o) (k : runO o = r) : m_form_of [x0] = r := by rw [← k, ← h]; rfl
/-! ### lies_in -/
def b_lies_in : En → Out := (sSeq (sSet 2 (callE m_form_of (aCons (eVar 0) aNil))) (sSeq (sSet 3 (callE m_form_of (aCons (eVar 1) aNil))) (sRet (andV (bin leD (bin ixD (eVar 2) (eC (.int 0))) (bin ixD (eVar 3) (eC (.int 0)))) (andV (bin leD (bin ixD (eVar 2) (eC (.int 1))) (bin ixD (eVar 3) (eC (.int 1)))) (bin leD (bin ixD (eVar 2) (eC (.int 2))) (bin ixD (eVar 3) (eC (.int 2)))))))))
def m_lies_in : List D → Res RV := runF 4 b_lies_in
theorem go_lies_in {x0 x1 : D} {o : Out} {r : Res RV} (h : b_lies_in [.sh x0, .sh x1, .no, .no] = o) (k : runO o = r) : m_lies_in [x0, x1] = r := by rw [← k, ← h]; rfl
/-! ### put_allowed -/
def b_put_allowed : En → Out := (sSeq (sIf (tst bOf (bin eqD (bin ixD (eVar 0) (eC (.int 4))) (eC (.int 0)))) (sRet (bin eqD (eVar 1) (bin ixD (eVar 0) (eC (.int 2))))) sNext) (sRet (andV (bin eqD (eVar 1) (bin ixD (eVar 0) (eC (.int 3)))) (bin ltD (eVar 2) (bin ixD (eVar 0) (eC (.int 4)))))))
def m_put_allowed : List D → Res RV := runF 3 b_put_allowed
theorem go_put_allowed {x0 x1 x2 : D} {o : Out} {r : Res RV} (h : b_put_allowed [.sh x0, .sh x1, .sh x2] = o) (k : runO o = r) : m_put_allowed [x0, x1, x2] = r := by rw [← k, ← h]; rfl
/-! ### owner_at -/
def b_owner_at : En → Out := (sSeq (sIf (tst bOf (bin ltD (eVar 1) (bin ixD (eVar 0) (eC (.int 4))))) (sRet (bin ixD (eVar 0) (eC (.int 2)))) sNext) (sRet (bin ixD (eVar 0) (eC (.int 3)))))
def m_owner_at : List D → Res RV := runF 2 b_owner_at
theorem go_owner_at {x0 x1 : D} {o : Out} {r : Res RV} (h : b_owner_at [.sh x0, .sh x1] = o) (k : runO o = r) : m_owner_at [x0, x1] = r := by rw [← k, ← h]; rfl
/-! ### could_have -/
def b_could_have : En → Out := (sSeq (sAsg (gT [3, 4, 5, 6, 7]) (eVar 2)) (sSeq (sIf (orB (notB (tst truD (callE m_lies_in (aCons (bin ixD (eVar 1) (eC (.int 1))) (aCons (bin ixD (eVar 0) (eVar 3)) aNil))))) (notB (tst truD (callE m_put_allowed (aCons (eVar 1) (aCons (eVar 5) (aCons (eVar 4) aNil))))))) (sRet (eC (.bl false))) sNext) (sRet (orV (bin isD (eVar 6) (eC .non)) (bin eqD (callE m_owner_at (aCons (eVar 1) (aCons (eVar 6) aNil))) (eVar 7))))))
def m_could_have : List D → Res RV := runF 8 b_could_have
theorem go_could_have {x0 x1 x2 : D} {o : Out} {r : Res RV} (h : b_could_have [.sh x0, .sh x1, .sh x2, .no, .no, .no, .no, .no] = o) (k : runO o = r) : m_could_have [x0, x1, x2] = r := by rw [← k, ← h]; rfl
/-! ### match_of -/
def E1_match_of : En → Res D := (eVar 5)
def T1_match_of : En → Res Bool := (tst truD (callE m_could_have (aCons (eVar 0) (aCons (bin ixD (eVar 1) (eVar 5)) (aCons (eVar 4) aNil)))))
def B1_match_of : En → Out := (sAppTL 3 (lcE (appO rng1 (aCons (app lenL (aCons (eVar 1) aNil)) aNil)) 5 T1_match_of E1_match_of))
def b_match_of : En → Out := (sSeq (sSetO 3 (appO lstD aNil)) (sToT 3 (sSeq (sFor (itE (eVar 2)) (gN 4) B1_match_of) (sRetT 3))))
def m_match_of : List D → Res RV := runF 6 b_match_of
theorem go_match_of {x0 x1 x2 : D} {o : Out} {r : Res RV} (h : b_match_of [.sh x0, .sh x1, .sh x2, .no, .no, .no] = o) (k : runO o = r) : m_match_of [x0, x1, x2] = r := by rw [← k, ← h]; rfl
/-! ### need_list -/
def b_need_list : En → Out := (sSeq (sIf (notB (tst truD (isiD "list" (eVar 0)))) (sRaise mkBV (aCons (eVar 2) aNil)) sNext) (sIf (tst bOf (bin gtD (app lenL (aCons (eVar 0) aNil)) (eVar 1))) (sRaise mkTM (aCons (eVar 1) aNil)) sNext))
def m_need_list : List D → Res RV := runF 3 b_need_list
theorem go_need_list {x0 x1 x2 : D} {o : Out} {r : Res RV} (h : b_need_list [.sh x0, .sh x1, .sh x2] = o) (k : runO o = r) : m_need_list [x0, x1, x2] = r := by rw [← k, ← h]; rfl
/-! ### is_integer -/
def b_is_integer : En → Out := (sRet (andV (isiD "int" (eVar 0)) (notV (isiD "bool" (eVar 0)))))
def m_is_integer : List D → Res RV := runF 1 b_is_integer
theorem go_is_integer {x0 : D} {o : Out} {r : Res RV} (h : b_is_integer [.sh x0] = o) (k : runO o = r) : m_is_integer [x0] = r := by rw [← k, ← h]; rfl
/-! ### in_range -/
def b_in_range : En → Out := (sRet (andV (callE m_is_integer (aCons (eVar 0) aNil)) (andV (bin leD (eVar 1) (eVar 0)) (bin leD (eVar 0) (eVar 2)))))
def m_in_range : List D → Res RV := runF 3 b_in_range
theorem go_in_range {x0 x1 x2 : D} {o : Out} {r : Res RV} (h : b_in_range [.sh x0, .sh x1, .sh x2] = o) (k : runO o = r) : m_in_range [x0, x1, x2] = r := by rw [← k, ← h]; rfl
/-! ### is_size -/
def B1_is_size : En → Out := (sIf (notB (tst truD (callE m_in_range (aCons (eVar 1) (aCons (eC (.int 1)) (aCons (eC (.int 999)) aNil)))))) (sRet (eC (.bl false))) sNext)
def b_is_size : En → Out := (sSeq (sIf (orB (notB (tst truD (isiD "tuple" (eVar 0)))) (tst bOf (bin neD (app lenL (aCons (eVar 0) aNil)) (eC (.int 3))))) (sRet (eC (.bl false))) sNext) (sSeq (sFor (itE (eVar 0)) (gN 1) B1_is_size) (sRet (eC (.bl true)))))
def m_is_size : List D → Res RV := runF 2 b_is_size
theorem go_is_size {x0 : D} {o : Out} {r : Res RV} (h : b_is_size [.sh x0, .no] = o) (k : runO o = r) : m_is_size [x0] = r := by rw [← k, ← h]; rfl
/-! ### need_sizes -/
def B1_need_sizes : En → Out := (sIf (notB (tst truD (callE m_is_size (aCons (eVar 3) aNil)))) (sRaise mkBV (aCons (eVar 2) aNil)) sNext)
def b_need_sizes : En → Out := (sSeq (sDrop (callE m_need_list (aCons (eVar 0) (aCons (eVar 1) (aCons (eVar 2) aNil))))) (sFor (itE (eVar 0)) (gN 3) B1_need_sizes))
def m_need_sizes : List D → Res RV := runF 4 b_need_sizes
theorem go_need_sizes {x0 x1 x2 : D} {o : Out} {r : Res RV} (h : b_need_sizes [.sh x0, .sh x1, .sh x2, .no] = o) (k : runO o = r) : m_need_sizes [x0, x1, x2] = r := by rw [← k, ← h]; rfl
/-! ### need_bank -/
def b_need_bank : En → Out := (sDrop (callE m_need_sizes (aCons (eVar 0) (aCons (eC (.int 30)) (aCons (eC (.str "bank")) aNil)))))
def m_need_bank : List D → Res RV := runF 1 b_need_bank
theorem go_need_bank {x0 : D} {o : Out} {r : Res RV} (h : b_need_bank [.sh x0] = o) (k : runO o = r) : m_need_bank [x0] = r := by rw [← k, ← h]; rfl
/-! ### is_name -/
def B1_is_name : En → Out := (sIf (andB (tst bOf (bin notInD (eVar 1) (eC (.str "abcdefghijklmnopqrstuvwxyz")))) (tst bOf (bin notInD (eVar 1) (eC (.str "0123456789"))))) (sRet (eC (.bl false))) sNext)
def b_is_name : En → Out := (sSeq (sIf (orB (notB (tst truD (isiD "str" (eVar 0)))) (orB (tst bOf (bin ltD (app lenL (aCons (eVar 0) aNil)) (eC (.int 1)))) (tst bOf (bin gtD (app lenL (aCons (eVar 0) aNil)) (eC (.int 12)))))) (sRet (eC (.bl false))) sNext) (sSeq (sIf (tst bOf (bin notInD (bin ixD (eVar 0) (eC (.int 0))) (eC (.str "abcdefghijklmnopqrstuvwxyz")))) (sRet (eC (.bl false))) sNext) (sSeq (sFor (itE (eVar 0)) (gN 1) B1_is_name) (sRet (eC (.bl true))))))
def m_is_name : List D → Res RV := runF 2 b_is_name
theorem go_is_name {x0 : D} {o : Out} {r : Res RV} (h : b_is_name [.sh x0, .no] = o) (k : runO o = r) : m_is_name [x0] = r := by rw [← k, ← h]; rfl
/-! ### is_time -/
def b_is_time : En → Out := (sRet (callE m_in_range (aCons (eVar 0) (aCons (eC (.int 0)) (aCons (eC (.int 1000000)) aNil)))))
def m_is_time : List D → Res RV := runF 1 b_is_time
theorem go_is_time {x0 : D} {o : Out} {r : Res RV} (h : b_is_time [.sh x0] = o) (k : runO o = r) : m_is_time [x0] = r := by rw [← k, ← h]; rfl
/-! ### is_parcel -/
def b_is_parcel : En → Out := (sSeq (sIf (orB (notB (tst truD (isiD "tuple" (eVar 0)))) (tst bOf (bin neD (app lenL (aCons (eVar 0) aNil)) (eC (.int 5))))) (sRet (eC (.bl false))) sNext) (sSeq (sIf (orB (notB (tst truD (callE m_is_name (aCons (bin ixD (eVar 0) (eC (.int 0))) aNil)))) (notB (tst truD (callE m_is_size (aCons (bin ixD (eVar 0) (eC (.int 1))) aNil))))) (sRet (eC (.bl false))) sNext) (sRet (andV (callE m_is_name (aCons (bin ixD (eVar 0) (eC (.int 2))) aNil)) (andV (callE m_is_name (aCons (bin ixD (eVar 0) (eC (.int 3))) aNil)) (callE m_is_time (aCons (bin ixD (eVar 0) (eC (.int 4))) aNil)))))))
def m_is_parcel : List D → Res RV := runF 1 b_is_parcel
theorem go_is_parcel {x0 : D} {o : Out} {r : Res RV} (h : b_is_parcel [.sh x0] = o) (k : runO o = r) : m_is_parcel [x0] = r := by rw [← k, ← h]; rfl
/-! ### are_parcels -/
def B1_are_parcels : En → Out := (sSeq (sIf (borT 1 (orB (notB (tst truD (callE m_is_parcel (aCons (eVar 2) aNil)))) (tst bOf (bin inD (bin ixD (eVar 2) (eC (.int 0))) (eVar 1))))) (sRet (eC (.bl false))) sNext) (sApp 1 (bin ixD (eVar 2) (eC (.int 0)))))
def b_are_parcels : En → Out := (sSeq (sSetO 1 (appO lstD aNil)) (sSeq (sFor (itE (eVar 0)) (gN 2) B1_are_parcels) (sRet (eC (.bl true)))))
def m_are_parcels : List D → Res RV := runF 3 b_are_parcels
theorem go_are_parcels {x0 : D} {o : Out} {r : Res RV} (h : b_are_parcels [.sh x0, .no, .no] = o) (k : runO o = r) : m_are_parcels [x0] = r := by rw [← k, ← h]; rfl
/-! ### need_manifest -/
def b_need_manifest : En → Out := (sSeq (sDrop (callE m_need_list (aCons (eVar 0) (aCons (eVar 1) (aCons (eC (.str "manifest")) aNil))))) (sIf (notB (tst truD (callE m_are_parcels (aCons (eVar 0) aNil)))) (sRaise mkBV (aCons (eC (.str "manifest")) aNil)) sNext))
def m_need_manifest : List D → Res RV := runF 2 b_need_manifest
theorem go_need_manifest {x0 x1 : D} {o : Out} {r : Res RV} (h : b_need_manifest [.sh x0, .sh x1] = o) (k : runO o = r) : m_need_manifest [x0, x1] = r := by rw [← k, ← h]; rfl
/-! ### is_opening -/
def b_is_opening : En → Out := (sSeq (sIf (orB (notB (tst truD (isiD "tuple" (eVar 0)))) (tst bOf (bin neD (app lenL (aCons (eVar 0) aNil)) (eC (.int 4))))) (sRet (eC (.bl false))) sNext) (sSeq (sIf (orB (notB (tst truD (callE m_is_time (aCons (bin ixD (eVar 0) (eC (.int 0))) aNil)))) (orB (notB (tst truD (callE m_in_range (aCons (bin ixD (eVar 0) (eC (.int 1))) (aCons (eC (.int 0)) (aCons (eC (.int 29)) aNil)))))) (notB (tst truD (callE m_is_name (aCons (bin ixD (eVar 0) (eC (.int 2))) aNil)))))) (sRet (eC (.bl false))) sNext) (sRet (bin inD (bin ixD (eVar 0) (eC (.int 3))) (eC (.tup [(.str "in"), (.str "out")]))))))
def m_is_opening : List D → Res RV := runF 1 b_is_opening
theorem go_is_opening {x0 : D} {o : Out} {r : Res RV} (h : b_is_opening [.sh x0] = o) (k : runO o = r) : m_is_opening [x0] = r := by rw [← k, ← h]; rfl
/-! ### need_history -/
def B1_need_history : En → Out := (sIf (notB (tst truD (callE m_is_opening (aCons (eVar 1) aNil)))) (sRaise mkBV (aCons (eC (.str "history")) aNil)) sNext)
def b_need_history : En → Out := (sSeq (sDrop (callE m_need_list (aCons (eVar 0) (aCons (eC (.int 60)) (aCons (eC (.str "history")) aNil))))) (sFor (itE (eVar 0)) (gN 1) B1_need_history))
def m_need_history : List D → Res RV := runF 2 b_need_history
theorem go_need_history {x0 : D} {o : Out} {r : Res RV} (h : b_need_history [.sh x0, .no] = o) (k : runO o = r) : m_need_history [x0] = r := by rw [← k, ← h]; rfl
/-! ### fault_of -/
def B1_fault_of : En → Out := (sSeq (sAsg (gT [5, 6, 7, 8]) (bin ixD (eVar 1) (eVar 4))) (sSeq (sIf (tst bOf (bin geD (eVar 6) (app lenL (aCons (eVar 0) aNil)))) (sRet (app tupD (aCons (eVar 4) (aCons (eC (.str "box")) aNil)))) sNext) (sSeq (sIf (tst bOf (bin ltD (eVar 5) (eVar 3))) (sRet (app tupD (aCons (eVar 4) (aCons (eC (.str "time")) aNil)))) sNext) (sSeq (sIf (andB (tst bOf (bin eqD (eVar 8) (eC (.str "in")))) (tst truD (ixO 2 (eVar 6)))) (sRet (app tupD (aCons (eVar 4) (aCons (eC (.str "in")) aNil)))) sNext) (sSeq (sIf (andB (tst bOf (bin eqD (eVar 8) (eC (.str "out")))) (notB (tst truD (ixO 2 (eVar 6))))) (sRet (app tupD (aCons (eVar 4) (aCons (eC (.str "out")) aNil)))) sNext) (sSeq (sPut 2 (eVar 6) (bin eqD (eVar 8) (eC (.str "in")))) (sSet 3 (eVar 5))))))))
def b_fault_of : En → Out := (sSeq (sSetO 2 (binO repO (own (appO lstD (aCons (eC (.bl false)) aNil))) (app lenL (aCons (eVar 0) aNil)))) (sSeq (sSet 3 (eC (.int 0))) (sSeq (sFor (appO rng1 (aCons (app lenL (aCons (eVar 1) aNil)) aNil)) (gN 4) B1_fault_of) (sRet (eC .non)))))
def m_fault_of : List D → Res RV := runF 9 b_fault_of
theorem go_fault_of {x0 x1 : D} {o : Out} {r : Res RV} (h : b_fault_of [.sh x0, .sh x1, .no, .no, .no, .no, .no, .no, .no] = o) (k : runO o = r) : m_fault_of [x0, x1] = r := by rw [← k, ← h]; rfl
/-! ### need_regular -/
def b_need_regular : En → Out := (sSeq (sDrop (callE m_need_history (aCons (eVar 1) aNil))) (sIf (tst bOf (bin isNotD (callE m_fault_of (aCons (eVar 0) (aCons (eVar 1) aNil))) (eC .non))) (sRaise mkBV (aCons (eC (.str "history")) aNil)) sNext))
def m_need_regular : List D → Res RV := runF 2 b_need_regular
theorem go_need_regular {x0 x1 : D} {o : Out} {r : Res RV} (h : b_need_regular [.sh x0, .sh x1] = o) (k : runO o = r) : m_need_regular [x0, x1] = r := by rw [← k, ← h]; rfl
/-! ### stays_from -/
def B1_stays_from : En → Out := (sIf (tst bOf (bin eqD (eVar 6) (eC (.str "in")))) (sSeq (sPutK 2 (eVar 4) (borE 1 (app lenL (aCons (eVar 1) aNil)))) (sApp 1 (app tupD (aCons (eVar 4) (aCons (eVar 3) (aCons (eVar 5) (aCons (eC .non) (aCons (eC .non) aNil)))))))) (sSeq (sSet 7 (getK 2 (eVar 4))) (sPut 1 (eVar 7) (bin addD (sliceE (ixO 1 (eVar 7)) pN (pS (eC (.int 3)))) (app tupD (aCons (eVar 3) (aCons (eVar 5) aNil)))))))
def b_stays_from : En → Out := (sSeq (sSetO 1 (appO lstD aNil)) (sSeq (sNewK 2) (sSeq (sFor (itE (eVar 0)) (gT [3, 4, 5, 6]) B1_stays_from) (sRetV 1))))
def m_stays_from : List D → Res RV := runF 8 b_stays_from
theorem go_stays_from {x0 : D} {o : Out} {r : Res RV} (h : b_stays_from [.sh x0, .no, .no, .no, .no, .no, .no, .no] = o) (k : runO o = r) : m_stays_from [x0] = r := by rw [← k, ← h]; rfl
/-! ### need_explained -/
def b_need_explained : En → Out := (sSeq (sDrop (callE m_need_bank (aCons (eVar 0) aNil))) (sSeq (sDrop (callE m_need_manifest (aCons (eVar 1) (aCons (eC (.int 30)) aNil)))) (sSeq (sDrop (callE m_need_regular (aCons (eVar 0) (aCons (eVar 2) aNil)))) (sSeq (sSet 3 (callE m_stays_from (aCons (eVar 2) aNil))) (sSeq (sIf (tst bOf (bin gtD (app lenL (aCons (eVar 3) aNil)) (eC (.int 30)))) (sRaise mkTM (aCons (eC (.int 30)) aNil)) sNext) (sRet (eVar 3)))))))
def m_need_explained : List D → Res RV := runF 4 b_need_explained
theorem go_need_explained {x0 x1 x2 : D} {o : Out} {r : Res RV} (h : b_need_explained [.sh x0, .sh x1, .sh x2, .no] = o) (k : runO o = r) : m_need_explained [x0, x1, x2] = r := by rw [← k, ← h]; rfl
/-! ### checked_table -/
def b_checked_table : En → Out := (sRetM m_match_of (aCons (eVar 0) (aCons (eVar 1) (aCons (callE m_need_explained (aCons (eVar 0) (aCons (eVar 1) (aCons (eVar 2) aNil)))) aNil))))
def m_checked_table : List D → Res RV := runF 3 b_checked_table
theorem go_checked_table {x0 x1 x2 : D} {o : Out} {r : Res RV} (h : b_checked_table [.sh x0, .sh x1, .sh x2] = o) (k : runO o = r) : m_checked_table [x0, x1, x2] = r := by rw [← k, ← h]; rfl
/-! ### match_table -/
def b_match_table : En → Out := (sRetM m_checked_table (aCons (eVar 0) (aCons (eVar 1) (aCons (eVar 2) aNil))))
def m_match_table : List D → Res RV := runF 3 b_match_table
theorem go_match_table {x0 x1 x2 : D} {o : Out} {r : Res RV} (h : b_match_table [.sh x0, .sh x1, .sh x2] = o) (k : runO o = r) : m_match_table [x0, x1, x2] = r := by rw [← k, ← h]; rfl
/-! ### least_placing -/
def b_least_placing : En → Out := sNever
def m_least_placing : List D → Res RV := runF 3 b_least_placing
theorem go_least_placing {x0 : D} {o : Out} {r : Res RV} (h : b_least_placing [.sh x0, .no, .no] = o) (k : runO o = r) : m_least_placing [x0] = r := by rw [← k, ← h]; rfl
/-! ### explanation -/
def b_explanation : En → Out := (sRet (callE m_least_placing (aCons (callE m_checked_table (aCons (eVar 0) (aCons (eVar 1) (aCons (eVar 2) aNil)))) aNil)))
def m_explanation : List D → Res RV := runF 3 b_explanation
theorem go_explanation {x0 x1 x2 : D} {o : Out} {r : Res RV} (h : b_explanation [.sh x0, .sh x1, .sh x2] = o) (k : runO o = r) : m_explanation [x0, x1, x2] = r := by rw [← k, ← h]; rfl
/-! ### placed -/
def b_placed : En → Out := sNever
def m_placed : List D → Res RV := runF 5 b_placed
theorem go_placed {x0 x1 : D} {o : Out} {r : Res RV} (h : b_placed [.sh x0, .sh x1, .no, .no, .no] = o) (k : runO o = r) : m_placed [x0, x1] = r := by rw [← k, ← h]; rfl
/-! ### is_explanation -/
def b_is_explanation : En → Out := (sRet (callE m_placed (aCons (callE m_checked_table (aCons (eVar 0) (aCons (eVar 1) (aCons (eVar 2) aNil)))) (aCons (eVar 3) aNil))))
def m_is_explanation : List D → Res RV := runF 4 b_is_explanation
theorem go_is_explanation {x0 x1 x2 x3 : D} {o : Out} {r : Res RV} (h : b_is_explanation [.sh x0, .sh x1, .sh x2, .sh x3] = o) (k : runO o = r) : m_is_explanation [x0, x1, x2, x3] = r := by rw [← k, ← h]; rfl
/-! ### crowd_or_none -/
def b_crowd_or_none : En → Out := sNever
def m_crowd_or_none : List D → Res RV := runF 2 b_crowd_or_none
theorem go_crowd_or_none {x0 : D} {o : Out} {r : Res RV} (h : b_crowd_or_none [.sh x0, .no] = o) (k : runO o = r) : m_crowd_or_none [x0] = r := by rw [← k, ← h]; rfl
/-! ### unexplained -/
def b_unexplained : En → Out := (sRet (callE m_crowd_or_none (aCons (callE m_checked_table (aCons (eVar 0) (aCons (eVar 1) (aCons (eVar 2) aNil)))) aNil)))
def m_unexplained : List D → Res RV := runF 3 b_unexplained
theorem go_unexplained {x0 x1 x2 : D} {o : Out} {r : Res RV} (h : b_unexplained [.sh x0, .sh x1, .sh x2] = o) (k : runO o = r) : m_unexplained [x0, x1, x2] = r := by rw [← k, ← h]; rfl
/-! ### priority_placing -/
def b_priority_placing : En → Out := sNever
def m_priority_placing : List D → Res RV := runF 6 b_priority_placing
theorem go_priority_placing {x0 : D} {o : Out} {r : Res RV} (h : b_priority_placing [.sh x0, .no, .no, .no, .no, .no] = o) (k : runO o = r) : m_priority_placing [x0] = r := by rw [← k, ← h]; rfl
/-! ### partial_explanation -/
def b_partial_explanation : En → Out := (sRet (callE m_priority_placing (aCons (callE m_checked_table (aCons (eVar 0) (aCons (eVar 1) (aCons (eVar 2) aNil)))) aNil)))
def m_partial_explanation : List D → Res RV := runF 3 b_partial_explanation
theorem go_partial_explanation {x0 x1 x2 : D} {o : Out} {r : Res RV} (h : b_partial_explanation [.sh x0, .sh x1, .sh x2] = o) (k : runO o = r) : m_partial_explanation [x0, x1, x2] = r := by rw [← k, ← h]; rfl
/-! ### told_of -/
def b_told_of : En → Out := sNever
def m_told_of : List D → Res RV := runF 3 b_told_of
theorem go_told_of {x0 x1 : D} {o : Out} {r : Res RV} (h : b_told_of [.sh x0, .sh x1, .no] = o) (k : runO o = r) : m_told_of [x0, x1] = r := by rw [← k, ← h]; rfl
/-! ### stay_table -/
def b_stay_table : En → Out := (sSeq (sSet 4 (callE m_checked_table (aCons (eVar 0) (aCons (eVar 1) (aCons (eVar 2) aNil))))) sNever)
def m_stay_table : List D → Res RV := runF 5 b_stay_table
theorem go_stay_table {x0 x1 x2 x3 : D} {o : Out} {r : Res RV} (h : b_stay_table [.sh x0, .sh x1, .sh x2, .sh x3, .no] = o) (k : runO o = r) : m_stay_table [x0, x1, x2, x3] = r := by rw [← k, ← h]; rfl
/-! ### told_parcel -/
def b_told_parcel : En → Out := (sRet (callE m_told_of (aCons (callE m_stay_table (aCons (eVar 0) (aCons (eVar 1) (aCons (eVar 2) (aCons (eVar 3) aNil))))) (aCons (eVar 3) aNil))))
def m_told_parcel : List D → Res RV := runF 4 b_told_parcel
theorem go_told_parcel {x0 x1 x2 x3 : D} {o : Out} {r : Res RV} (h : b_told_parcel [.sh x0, .sh x1, .sh x2, .sh x3] = o) (k : runO o = r) : m_told_parcel [x0, x1, x2, x3] = r := by rw [← k, ← h]; rfl
/-! ### tight_of -/
def b_tight_of : En → Out := sNever
def m_tight_of : List D → Res RV := runF 2 b_tight_of
theorem go_tight_of {x0 x1 : D} {o : Out} {r : Res RV} (h : b_tight_of [.sh x0, .sh x1] = o) (k : runO o = r) : m_tight_of [x0, x1] = r := by rw [← k, ← h]; rfl
/-! ### told_set -/
def b_told_set : En → Out := (sRet (callE m_tight_of (aCons (callE m_stay_table (aCons (eVar 0) (aCons (eVar 1) (aCons (eVar 2) (aCons (eVar 3) aNil))))) (aCons (eVar 3) aNil))))
def m_told_set : List D → Res RV := runF 4 b_told_set
theorem go_told_set {x0 x1 x2 x3 : D} {o : Out} {r : Res RV} (h : b_told_set [.sh x0, .sh x1, .sh x2, .sh x3] = o) (k : runO o = r) : m_told_set [x0, x1, x2, x3] = r := by rw [← k, ← h]; rfl
/-! ### other_of -/
def b_other_of : En → Out := sNever
def m_other_of : List D → Res RV := runF 2 b_other_of
theorem go_other_of {x0 x1 : D} {o : Out} {r : Res RV} (h : b_other_of [.sh x0, .sh x1] = o) (k : runO o = r) : m_other_of [x0, x1] = r := by rw [← k, ← h]; rfl
/-! ### other_explanation -/
def b_other_explanation : En → Out := (sRet (callE m_other_of (aCons (callE m_stay_table (aCons (eVar 0) (aCons (eVar 1) (aCons (eVar 2) (aCons (eVar 3) aNil))))) (aCons (eVar 3) aNil))))
def m_other_explanation : List D → Res RV := runF 4 b_other_explanation
theorem go_other_explanation {x0 x1 x2 x3 : D} {o : Out} {r : Res RV} (h : b_other_explanation [.sh x0, .sh x1, .sh x2, .sh x3] = o) (k : runO o = r) : m_other_explanation [x0, x1, x2, x3] = r := by rw [← k, ← h]; rfl
/-! ### parcel_table -/
def b_parcel_table : En → Out := (sSeq (sSet 4 (callE m_checked_table (aCons (eVar 0) (aCons (eVar 1) (aCons (eVar 2) aNil))))) sNever)
def m_parcel_table : List D → Res RV := runF 5 b_parcel_table
theorem go_parcel_table {x0 x1 x2 x3 : D} {o : Out} {r : Res RV} (h : b_parcel_table [.sh x0, .sh x1, .sh x2, .sh x3, .no] = o) (k : runO o = r) : m_parcel_table [x0, x1, x2, x3] = r := by rw [← k, ← h]; rfl
/-! ### sure_set -/
def b_sure_set : En → Out := (sSeq (sSet 4 (callE m_parcel_table (aCons (eVar 0) (aCons (eVar 1) (aCons (eVar 2) (aCons (eVar 3) aNil)))))) sNever)
def m_sure_set : List D → Res RV := runF 5 b_sure_set
theorem go_sure_set {x0 x1 x2 x3 : D} {o : Out} {r : Res RV} (h : b_sure_set [.sh x0, .sh x1, .sh x2, .sh x3, .no] = o) (k : runO o = r) : m_sure_set [x0, x1, x2, x3] = r := by rw [← k, ← h]; rfl
/-! ### is_sure_set -/
def b_is_sure_set : En → Out := (sSeq (sSet 5 (callE m_parcel_table (aCons (eVar 0) (aCons (eVar 1) (aCons (eVar 2) (aCons (eVar 3) aNil)))))) sNever)
def m_is_sure_set : List D → Res RV := runF 6 b_is_sure_set
theorem go_is_sure_set {x0 x1 x2 x3 x4 : D} {o : Out} {r : Res RV} (h : b_is_sure_set [.sh x0, .sh x1, .sh x2, .sh x3, .sh x4, .no] = o) (k : runO o = r) : m_is_sure_set [x0, x1, x2, x3, x4] = r := by rw [← k, ← h]; rfl
/-! ### explanation_without -/
def b_explanation_without : En → Out := (sSeq (sSet 4 (callE m_parcel_table (aCons (eVar 0) (aCons (eVar 1) (aCons (eVar 2) (aCons (eVar 3) aNil)))))) sNever)
def m_explanation_without : List D → Res RV := runF 5 b_explanation_without
theorem go_explanation_without {x0 x1 x2 x3 : D} {o : Out} {r : Res RV} (h : b_explanation_without [.sh x0, .sh x1, .sh x2, .sh x3, .no] = o) (k : runO o = r) : m_explanation_without [x0, x1, x2, x3] = r := by rw [← k, ← h]; rfl
/-! ### inside -/
def b_inside : En → Out := (sSeq (sSet 3 (callE m_need_explained (aCons (eVar 0) (aCons (eVar 1) (aCons (eVar 2) aNil))))) sNever)
def m_inside : List D → Res RV := runF 8 b_inside
theorem go_inside {x0 x1 x2 : D} {o : Out} {r : Res RV} (h : b_inside [.sh x0, .sh x1, .sh x2, .no, .no, .no, .no, .no] = o) (k : runO o = r) : m_inside [x0, x1, x2] = r := by rw [← k, ← h]; rfl
/-! ### _law_door -/
def b__law_door : En → Out := (sSeq (sTry (sSeq (sIf (tst bOf (bin eqD (eVar 0) (eC (.int 0)))) (sDrop (callE m_match_table (aCons (eVar 1) (aCons (eVar 2) (aCons (eVar 3) aNil))))) sNext) (sSeq (sIf (tst bOf (bin eqD (eVar 0) (eC (.int 1)))) (sDrop (callE m_explanation (aCons (eVar 1) (aCons (eVar 2) (aCons (eVar 3) aNil))))) sNext) (sSeq (sIf (tst bOf (bin eqD (eVar 0) (eC (.int 2)))) (sDrop (callE m_is_explanation (aCons (eVar 1) (aCons (eVar 2) (aCons (eVar 3) (aCons (own (appO lstD aNil)) aNil)))))) sNext) (sSeq (sIf (tst bOf (bin eqD (eVar 0) (eC (.int 3)))) (sDrop (callE m_unexplained (aCons (eVar 1) (aCons (eVar 2) (aCons (eVar 3) aNil))))) sNext) (sSeq (sIf (tst bOf (bin eqD (eVar 0) (eC (.int 4)))) (sDrop (callE m_partial_explanation (aCons (eVar 1) (aCons (eVar 2) (aCons (eVar 3) aNil))))) sNext) (sSeq (sIf (tst bOf (bin eqD (eVar 0) (eC (.int 5)))) (sDrop (callE m_told_parcel (aCons (eVar 1) (aCons (eVar 2) (aCons (eVar 3) (aCons (eC (.int 0)) aNil)))))) sNext) (sSeq (sIf (tst bOf (bin eqD (eVar 0) (eC (.int 6)))) (sDrop (callE m_told_set (aCons (eVar 1) (aCons (eVar 2) (aCons (eVar 3) (aCons (eC (.int 0)) aNil)))))) sNext) (sSeq (sIf (tst bOf (bin eqD (eVar 0) (eC (.int 7)))) (sDrop (callE m_other_explanation (aCons (eVar 1) (aCons (eVar 2) (aCons (eVar 3) (aCons (eC (.int 0)) aNil)))))) sNext) (sSeq (sIf (tst bOf (bin eqD (eVar 0) (eC (.int 8)))) (sDrop (callE m_sure_set (aCons (eVar 1) (aCons (eVar 2) (aCons (eVar 3) (aCons (eC (.int 0)) aNil)))))) sNext) (sSeq (sIf (tst bOf (bin eqD (eVar 0) (eC (.int 9)))) (sDrop (callE m_is_sure_set (aCons (eVar 1) (aCons (eVar 2) (aCons (eVar 3) (aCons (eC (.int 0)) (aCons (own (appO lstD aNil)) aNil))))))) sNext) (sSeq (sIf (tst bOf (bin eqD (eVar 0) (eC (.int 10)))) (sDrop (callE m_explanation_without (aCons (eVar 1) (aCons (eVar 2) (aCons (eVar 3) (aCons (eC (.int 0)) aNil)))))) sNext) (sIf (tst bOf (bin eqD (eVar 0) (eC (.int 11)))) (sDrop (callE m_inside (aCons (eVar 1) (aCons (eVar 2) (aCons (eVar 3) aNil))))) sNext)))))))))))) [⟨knX, isX_TooMany, 4, (xRet (fun ex => app tupD ((fun ex => aCons ((fun _ => (eC (.str "many"))) ex) ((fun ex => aCons ((fldX "TooMany" "limit") ex) ((fun _ => aNil) ex)) ex)) ex)))⟩, ⟨knX, isX_BadValue, 4, (xRet (fun ex => app tupD ((fun ex => aCons ((fun _ => (eC (.str "value"))) ex) ((fun ex => aCons ((fldX "BadValue" "what") ex) ((fun _ => aNil) ex)) ex)) ex)))⟩, ⟨knX, isX_NoPlacing, 5, (xRet (fun ex => app tupD ((fun ex => aCons ((fun _ => (eC (.str "placing"))) ex) ((fun ex => aCons ((fun _ => (eC (.int 0))) ex) ((fun _ => aNil) ex)) ex)) ex)))⟩]) (sRet (app tupD (aCons (eC (.str "none")) (aCons (eC (.int 0)) aNil)))))
def m__law_door : List D → Res RV := runF 5 b__law_door
theorem go__law_door {x0 x1 x2 x3 : D} {o : Out} {r : Res RV} (h : b__law_door [.sh x0, .sh x1, .sh x2, .sh x3, .no] = o) (k : runO o = r) : m__law_door [x0, x1, x2, x3] = r := by rw [← k, ← h]; rfl
/-! ### _law_all_doors -/
def B1__law_all_doors : En → Out := (sIf (notB (tst truD (callE (m__law_same 6) (aCons (callE m__law_door (aCons (eVar 4) (aCons (eVar 0) (aCons (eVar 1) (aCons (eVar 2) aNil))))) (aCons (eVar 3) aNil))))) (sRet (eC (.bl false))) sNext)
def b__law_all_doors : En → Out := (sSeq (sFor (appO rng1 (aCons (eC (.int 12)) aNil)) (gN 4) B1__law_all_doors) (sRet (eC (.bl true))))
def m__law_all_doors : List D → Res RV := runF 5 b__law_all_doors
theorem go__law_all_doors {x0 x1 x2 x3 : D} {o : Out} {r : Res RV} (h : b__law_all_doors [.sh x0, .sh x1, .sh x2, .sh x3, .no] = o) (k : runO o = r) : m__law_all_doors [x0, x1, x2, x3] = r := by rw [← k, ← h]; rfl
/-! ### _law_refused -/
def E1__law_refused : En → Res D := (app tupD (aCons (bin addD (eC (.str "q")) (app strL (aCons (eVar 7) aNil))) (aCons (app tupD (aCons (eC (.int 1)) (aCons (eC (.int 1)) (aCons (eC (.int 1)) aNil)))) (aCons (eC (.str "a")) (aCons (eC (.str "b")) (aCons (eVar 7) aNil))))))
def b__law_refused : En → Out := (sSeq (sSet 4 (own (lcE (appO rng1 (aCons (eC (.int 31)) aNil)) 7 yesB E1__law_refused))) (sSeq (sSet 5 (own (appO lstD (aCons (bin ixD (eVar 4) (eC (.int 0))) (aCons (bin ixD (eVar 4) (eC (.int 1))) (aCons (app tupD (aCons (eC (.str "q0")) (aCons (app tupD (aCons (eC (.int 2)) (aCons (eC (.int 2)) (aCons (eC (.int 2)) aNil)))) (aCons (eC (.str "b")) (aCons (eC (.str "a")) (aCons (eC (.int 0)) aNil)))))) aNil)))))) (sSeq (sSet 6 (own (appO lstD (aCons (app tupD (aCons (eC (.int 0)) (aCons (eC (.int 0)) (aCons (eC (.str "a")) (aCons (eC (.str "out")) aNil))))) aNil)))) (sSeq (sIf (notB (tst truD (callE m__law_all_doors (aCons (sliceE (bin addD (eVar 0) (own (appO lstD (aCons (app tupD (aCons (eC (.int 1)) (aCons (eC (.int 1)) aNil))) aNil)))) (pS (una negD (eC (.int 30)))) pN) (aCons (eC .non) (aCons (eC .non) (aCons (app tupD (aCons (eC (.str "value")) (aCons (eC (.str "bank")) aNil))) aNil))))))) (sRet (eC (.bl false))) sNext) (sSeq (sIf (orB (notB (tst truD (callE m__law_all_doors (aCons (eVar 0) (aCons (eVar 4) (aCons (eC .non) (aCons (app tupD (aCons (eC (.str "many")) (aCons (eC (.int 30)) aNil))) aNil))))))) (notB (tst truD (callE m__law_all_doors (aCons (eVar 0) (aCons (eVar 5) (aCons (eC .non) (aCons (app tupD (aCons (eC (.str "value")) (aCons (eC (.str "manifest")) aNil))) aNil)))))))) (sRet (eC (.bl false))) sNext) (sSeq (sIf (notB (tst truD (callE m__law_all_doors (aCons (eVar 0) (aCons (app tupleL (aCons (eVar 1) aNil)) (aCons (eVar 3) (aCons (app tupD (aCons (eC (.str "value")) (aCons (eC (.str "manifest")) aNil))) aNil))))))) (sRet (eC (.bl false))) sNext) (sSeq (sIf (notB (tst truD (callE m__law_all_doors (aCons (eVar 0) (aCons (eVar 1) (aCons (app tupleL (aCons (eVar 2) aNil)) (aCons (app tupD (aCons (eC (.str "value")) (aCons (eC (.str "history")) aNil))) aNil))))))) (sRet (eC (.bl false))) sNext) (sSeq (sIf (notB (tst truD (callE m__law_all_doors (aCons (eVar 0) (aCons (eVar 1) (aCons (bin mulD (eVar 6) (eC (.int 61))) (aCons (app tupD (aCons (eC (.str "many")) (aCons (eC (.int 60)) aNil))) aNil))))))) (sRet (eC (.bl false))) sNext) (sSeq (sIf (notB (tst truD (callE m__law_all_doors (aCons (eVar 0) (aCons (eVar 1) (aCons (bin addD (eVar 6) (sliceE (eVar 2) pN (pS (eC (.int 59))))) (aCons (app tupD (aCons (eC (.str "value")) (aCons (eC (.str "history")) aNil))) aNil))))))) (sRet (eC (.bl false))) sNext) (sSeq (sIf (notB (tst truD (callE m__law_all_doors (aCons (eVar 0) (aCons (eVar 1) (aCons (bin addD (eVar 6) (sliceE (eVar 3) (pS (eC (.int 1))) pN)) (aCons (app tupD (aCons (eC (.str "value")) (aCons (eC (.str "history")) aNil))) aNil))))))) (sRet (eC (.bl false))) sNext) (sRet (callE m__law_all_doors (aCons (eVar 0) (aCons (eVar 1) (aCons (eVar 3) (aCons (app tupD (aCons (eC (.str "many")) (aCons (eC (.int 30)) aNil))) aNil))))))))))))))))
def m__law_refused : List D → Res RV := runF 8 b__law_refused
theorem go__law_refused {x0 x1 x2 x3 : D} {o : Out} {r : Res RV} (h : b__law_refused [.sh x0, .sh x1, .sh x2, .sh x3, .no, .no, .no, .no] = o) (k : runO o = r) : m__law_refused [x0, x1, x2, x3] = r := by rw [← k, ← h]; rfl
/-! ### _law_fits -/
def b__law_fits : En → Out := (sSeq (sSet 2 (own (appO sortL (aCons (eVar 0) aNil)))) (sSeq (sSet 3 (own (appO sortL (aCons (eVar 1) aNil)))) (sRet (andV (bin leD (bin ixD (eVar 2) (eC (.int 0))) (bin ixD (eVar 3) (eC (.int 0)))) (andV (bin leD (bin ixD (eVar 2) (eC (.int 1))) (bin ixD (eVar 3) (eC (.int 1)))) (bin leD (bin ixD (eVar 2) (eC (.int 2))) (bin ixD (eVar 3) (eC (.int 2)))))))))
def m__law_fits : List D → Res RV := runF 4 b__law_fits
theorem go__law_fits {x0 x1 : D} {o : Out} {r : Res RV} (h : b__law_fits [.sh x0, .sh x1, .no, .no] = o) (k : runO o = r) : m__law_fits [x0, x1] = r := by rw [← k, ← h]; rfl
/-! ### _law_next -/
def B1__law_next : En → Out := (sSeq (sSet 7 (bin modD (app intL (aCons (bin addD (eVar 3) (eVar 6)) aNil)) (app lenL (aCons (eVar 1) aNil)))) (sSeq (sSet 8 (bin ixD (eVar 1) (eVar 7))) (sIf (andB (tst bOf (bin notInD (eVar 7) (eVar 2))) (andB (tst truD (callE m__law_fits (aCons (bin ixD (eVar 8) (eC (.int 1))) (aCons (bin ixD (eVar 0) (eVar 4)) aNil)))) (orB (tst bOf (bin eqD (bin ixD (eVar 8) (eC (.int 4))) (eC (.int 0)))) (tst bOf (bin ltD (eVar 5) (bin ixD (eVar 8) (eC (.int 4)))))))) (sRet (eVar 7)) sNext)))
def b__law_next : En → Out := (sSeq (sFor (appO rng1 (aCons (app lenL (aCons (eVar 1) aNil)) aNil)) (gN 6) B1__law_next) (sRet (una negD (eC (.int 1)))))
def m__law_next : List D → Res RV := runF 9 b__law_next
theorem go__law_next {x0 x1 x2 x3 x4 x5 : D} {o : Out} {r : Res RV} (h : b__law_next [.sh x0, .sh x1, .sh x2, .sh x3, .sh x4, .sh x5, .no, .no, .no] = o) (k : runO o = r) : m__law_next [x0, x1, x2, x3, x4, x5] = r := by rw [← k, ← h]; rfl
/-! ### _law_putter -/
def b__law_putter : En → Out := (sSeq (sIf (tst bOf (bin eqD (bin ixD (eVar 0) (eC (.int 4))) (eC (.int 0)))) (sRet (bin ixD (eVar 0) (eC (.int 2)))) sNext) (sRet (bin ixD (eVar 0) (eC (.int 3)))))
def m__law_putter : List D → Res RV := runF 1 b__law_putter
theorem go__law_putter {x0 : D} {o : Out} {r : Res RV} (h : b__law_putter [.sh x0] = o) (k : runO o = r) : m__law_putter [x0] = r := by rw [← k, ← h]; rfl
/-! ### _law_owner -/
def b__law_owner : En → Out := (sSeq (sIf (tst bOf (bin ltD (eVar 1) (bin ixD (eVar 0) (eC (.int 4))))) (sRet (bin ixD (eVar 0) (eC (.int 2)))) sNext) (sRet (bin ixD (eVar 0) (eC (.int 3)))))
def m__law_owner : List D → Res RV := runF 2 b__law_owner
theorem go__law_owner {x0 x1 : D} {o : Out} {r : Res RV} (h : b__law_owner [.sh x0, .sh x1] = o) (k : runO o = r) : m__law_owner [x0, x1] = r := by rw [← k, ← h]; rfl
/-! ### _law_history -/
def B1__law_history : En → Out := (sSeq (sSet 15 (bin modD (app intL (aCons (bin ixD (eVar 6) (eVar 14)) aNil)) (app lenL (aCons (eVar 2) aNil)))) (sSeq (sSet 12 (bin addD (eVar 12) (bin ixD (eVar 8) (eVar 14)))) (sSeq (sSet 16 (ixO 10 (eVar 15))) (sSeq (sIf (tst bOf (bin eqD (eVar 16) (una negD (eC (.int 1))))) (sSeq (sSet 16 (borE 11 (callE m__law_next (aCons (eVar 2) (aCons (eVar 3) (aCons (eVar 11) (aCons (bin ixD (eVar 7) (eVar 14)) (aCons (eVar 15) (aCons (eVar 12) aNil))))))))) (sSeq (sIf (tst bOf (bin eqD (eVar 16) (una negD (eC (.int 1))))) sCont sNext) (sSeq (sApp 11 (eVar 16)) (sSeq (sSet 17 (callE m__law_putter (aCons (bin ixD (eVar 3) (eVar 16)) aNil))) (sSeq (sSet 18 (eC (.str "in"))) (sPut 10 (eVar 15) (eVar 16))))))) (sSeq (sSet 17 (callE m__law_owner (aCons (bin ixD (eVar 3) (eVar 16)) (aCons (eVar 12) aNil)))) (sSeq (sSet 18 (eC (.str "out"))) (sPut 10 (eVar 15) (una negD (eC (.int 1))))))) (sSeq (sIf (tst bOf (bin ltD (bin modD (app intL (aCons (bin ixD (eVar 9) (eVar 14)) aNil)) (eC (.int 12))) (eVar 5))) (sSet 17 (bin ixD (eVar 4) (bin modD (app intL (aCons (bin fdivD (bin ixD (eVar 9) (eVar 14)) (eC (.int 12))) aNil)) (app lenL (aCons (eVar 4) aNil))))) sNext) (sApp 13 (app tupD (aCons (eVar 12) (aCons (eVar 15) (aCons (eVar 17) (aCons (eVar 18) aNil)))))))))))
def b__law_history : En → Out := (sSeq (sSet 6 (callE m__law_row (aCons (callE m__law_cell (aCons (eVar 0) (aCons (eC (.int 11)) aNil))) (aCons (eVar 1) (aCons (eC (.int 30)) aNil))))) (sSeq (sSet 7 (callE m__law_row (aCons (callE m__law_cell (aCons (eVar 0) (aCons (eC (.int 12)) aNil))) (aCons (eVar 1) (aCons (eC (.int 30)) aNil))))) (sSeq (sSet 8 (callE m__law_row (aCons (callE m__law_cell (aCons (eVar 0) (aCons (eC (.int 13)) aNil))) (aCons (eVar 1) (aCons (eC (.int 4)) aNil))))) (sSeq (sSet 9 (callE m__law_row (aCons (callE m__law_cell (aCons (eVar 0) (aCons (eC (.int 14)) aNil))) (aCons (eVar 1) (aCons (eC (.int 60)) aNil))))) (sSeq (sSetO 10 (binO repO (own (appO lstD (aCons (una negD (eC (.int 1))) aNil))) (eC (.int 30)))) (sSeq (sSetO 11 (appO lstD aNil)) (sSeq (sSet 12 (eC (.int 0))) (sSeq (sSetO 13 (appO lstD aNil)) (sSeq (sFor (appO rng1 (aCons (eVar 1) aNil)) (gN 14) B1__law_history) (sRetV 13))))))))))
def m__law_history : List D → Res RV := runF 19 b__law_history
theorem go__law_history {x0 x1 x2 x3 x4 x5 : D} {o : Out} {r : Res RV} (h : b__law_history [.sh x0, .sh x1, .sh x2, .sh x3, .sh x4, .sh x5, .no, .no, .no, .no, .no, .no, .no, .no, .no, .no, .no, .no, .no] = o) (k : runO o = r) : m__law_history [x0, x1, x2, x3, x4, x5] = r := by rw [← k, ← h]; rfl
/-! ### _law_stays -/
def E1__law_stays : En → Res D := (eVar 6)
def T1__law_stays : En → Res Bool := (tst bOf (bin eqD (bin ixD (eVar 6) (eC (.int 1))) (bin ixD (bin ixD (eVar 0) (eVar 2)) (eC (.int 1)))))
def B1__law_stays : En → Out := (sIf (tst bOf (bin eqD (bin ixD (bin ixD (eVar 0) (eVar 2)) (eC (.int 3))) (eC (.str "in")))) (sSeq (sSet 3 (own (lcE (itE (sliceE (eVar 0) (pS (bin addD (eVar 2) (eC (.int 1)))) pN)) 6 T1__law_stays E1__law_stays))) (sSeq (sSet 4 (eC .non)) (sSeq (sSet 5 (eC .non)) (sSeq (sIf (tst bOf (bin gtD (app lenL (aCons (eVar 3) aNil)) (eC (.int 0)))) (sSeq (sSet 4 (bin ixD (bin ixD (eVar 3) (eC (.int 0))) (eC (.int 0)))) (sSet 5 (bin ixD (bin ixD (eVar 3) (eC (.int 0))) (eC (.int 2))))) sNext) (sApp 1 (app tupD (aCons (bin ixD (bin ixD (eVar 0) (eVar 2)) (eC (.int 1))) (aCons (bin ixD (bin ixD (eVar 0) (eVar 2)) (eC (.int 0))) (aCons (bin ixD (bin ixD (eVar 0) (eVar 2)) (eC (.int 2))) (aCons (eVar 4) (aCons (eVar 5) aNil))))))))))) sNext)
def b__law_stays : En → Out := (sSeq (sSetO 1 (appO lstD aNil)) (sSeq (sFor (appO rng1 (aCons (app lenL (aCons (eVar 0) aNil)) aNil)) (gN 2) B1__law_stays) (sRetV 1)))
def m__law_stays : List D → Res RV := runF 7 b__law_stays
theorem go__law_stays {x0 : D} {o : Out} {r : Res RV} (h : b__law_stays [.sh x0, .no, .no, .no, .no, .no, .no] = o) (k : runO o = r) : m__law_stays [x0] = r := by rw [← k, ← h]; rfl
/-! ### _law_could -/
def b__law_could : En → Out := (sSeq (sIf (orB (notB (tst truD (callE m__law_fits (aCons (bin ixD (eVar 1) (eC (.int 1))) (aCons (bin ixD (eVar 0) (bin ixD (eVar 2) (eC (.int 0)))) aNil))))) (tst bOf (bin neD (bin ixD (eVar 2) (eC (.int 2))) (callE m__law_putter (aCons (eVar 1) aNil))))) (sRet (eC (.bl false))) sNext) (sSeq (sIf (andB (tst bOf (bin gtD (bin ixD (eVar 1) (eC (.int 4))) (eC (.int 0)))) (tst bOf (bin geD (bin ixD (eVar 2) (eC (.int 1))) (bin ixD (eVar 1) (eC (.int 4)))))) (sRet (eC (.bl false))) sNext) (sRet (orV (bin isD (bin ixD (eVar 2) (eC (.int 3))) (eC .non)) (bin eqD (bin ixD (eVar 2) (eC (.int 4))) (callE m__law_owner (aCons (eVar 1) (aCons (bin ixD (eVar 2) (eC (.int 3))) aNil))))))))
def m__law_could : List D → Res RV := runF 3 b__law_could
theorem go__law_could {x0 x1 x2 : D} {o : Out} {r : Res RV} (h : b__law_could [.sh x0, .sh x1, .sh x2] = o) (k : runO o = r) : m__law_could [x0, x1, x2] = r := by rw [← k, ← h]; rfl
/-! ### _law_table -/
def E1__law_table : En → Res D := (eVar 4)
def T1__law_table : En → Res Bool := (tst truD (callE m__law_could (aCons (eVar 0) (aCons (bin ixD (eVar 1) (eVar 4)) (aCons (eVar 3) aNil)))))
def E2__law_table : En → Res D := (own (lcE (appO rng1 (aCons (app lenL (aCons (eVar 1) aNil)) aNil)) 4 T1__law_table E1__law_table))
def b__law_table : En → Out := (sRetO (lcE (itE (callE m__law_stays (aCons (eVar 2) aNil))) 3 yesB E2__law_table))
def m__law_table : List D → Res RV := runF 5 b__law_table
theorem go__law_table {x0 x1 x2 : D} {o : Out} {r : Res RV} (h : b__law_table [.sh x0, .sh x1, .sh x2, .no, .no] = o) (k : runO o = r) : m__law_table [x0, x1, x2] = r := by rw [← k, ← h]; rfl
/-! ### _law_tabled -/
def b__law_tabled : En → Out := (sSeq (sSet 3 (own (appO listL (aCons (eVar 0) aNil)))) (sSeq (sSet 4 (own (appO listL (aCons (eVar 1) aNil)))) (sSeq (sSet 5 (own (appO listL (aCons (eVar 2) aNil)))) (sSeq (sSet 6 (callE m__law_table (aCons (eVar 0) (aCons (eVar 1) (aCons (eVar 2) aNil))))) (sSeq (sSetTM 7 m_match_table (aCons (eVar 3) (aCons (eVar 4) (aCons (eVar 5) aNil)))) (sSeq (sIf (tmpT 7 (notB (tst truD (callE (m__law_same 6) (aCons (eVar 7) (aCons (eVar 6) aNil)))))) (sRet (eC (.bl false))) sNext) (sSeq (sKill 7 8 (appO lstD (aCons (eC (.int 0)) aNil))) (sSeq (sIf (notB (tst truD (callE (m__law_same 6) (aCons (callE m_match_table (aCons (eVar 3) (aCons (eVar 4) (aCons (eVar 5) aNil)))) (aCons (eVar 6) aNil))))) (sRet (eC (.bl false))) sNext) (sRet (andV (callE (m__law_same 6) (aCons (eVar 3) (aCons (eVar 0) aNil))) (andV (callE (m__law_same 6) (aCons (eVar 4) (aCons (eVar 1) aNil))) (callE (m__law_same 6) (aCons (eVar 5) (aCons (eVar 2) aNil))))))))))))))
def m__law_tabled : List D → Res RV := runF 9 b__law_tabled
theorem go__law_tabled {x0 x1 x2 : D} {o : Out} {r : Res RV} (h : b__law_tabled [.sh x0, .sh x1, .sh x2, .no, .no, .no, .no, .no, .no] = o) (k : runO o = r) : m__law_tabled [x0, x1, x2] = r := by rw [← k, ← h]; rfl
/-! ### law -/
def E1_law : En → Res D := (callE m__law_name (aCons (eVar 12) aNil))
def B1_law : En → Out := (sSet 10 (bin addD (eVar 10) (own (appO lstD (aCons (app tupD (aCons (bin mulD (eC (.int 2)) (eVar 11)) (aCons (eC (.int 1)) (aCons (bin ixD (eVar 5) (bin modD (app intL (aCons (eVar 11) aNil)) (app lenL (aCons (eVar 5) aNil)))) (aCons (eC (.str "in")) aNil))))) (aCons (app tupD (aCons (bin addD (bin mulD (eC (.int 2)) (eVar 11)) (eC (.int 1))) (aCons (eC (.int 1)) (aCons (bin ixD (eVar 5) (eC (.int 0))) (aCons (eC (.str "out")) aNil))))) aNil))))))
def b_law : En → Out := (sSeq (sSet 1 (callE m__law_row (aCons (callE m__law_cell (aCons (eVar 0) (aCons (eC (.int 0)) aNil))) (aCons (eC (.int 10)) (aCons (eC (.int 5040)) aNil))))) (sSeq (sSet 2 (bin addD (eC (.int 1)) (bin modD (app intL (aCons (bin ixD (eVar 1) (eC (.int 0))) aNil)) (eC (.int 5))))) (sSeq (sIf (tst bOf (bin eqD (bin modD (app intL (aCons (bin ixD (eVar 1) (eC (.int 1))) aNil)) (eC (.int 4))) (eC (.int 0)))) (sSet 2 (bin addD (eC (.int 1)) (bin modD (app intL (aCons (bin ixD (eVar 1) (eC (.int 0))) aNil)) (eC (.int 30))))) sNext) (sSeq (sSet 3 (bin modD (app intL (aCons (bin ixD (eVar 1) (eC (.int 2))) aNil)) (eC (.int 9)))) (sSeq (sIf (tst bOf (bin eqD (bin modD (app intL (aCons (bin ixD (eVar 1) (eC (.int 3))) aNil)) (eC (.int 4))) (eC (.int 0)))) (sSet 3 (bin modD (app intL (aCons (bin ixD (eVar 1) (eC (.int 2))) aNil)) (eC (.int 31)))) sNext) (sSeq (sSet 4 (bin modD (app intL (aCons (bin ixD (eVar 1) (eC (.int 4))) aNil)) (eC (.int 16)))) (sSeq (sIf (tst bOf (bin eqD (bin modD (app intL (aCons (bin ixD (eVar 1) (eC (.int 5))) aNil)) (eC (.int 4))) (eC (.int 0)))) (sSet 4 (bin addD (eC (.int 45)) (bin modD (app intL (aCons (bin ixD (eVar 1) (eC (.int 4))) aNil)) (eC (.int 16))))) sNext) (sSeq (sSet 5 (own (lcE (itE (callE m__law_row (aCons (callE m__law_cell (aCons (eVar 0) (aCons (eC (.int 15)) aNil))) (aCons (bin addD (eC (.int 1)) (bin modD (app intL (aCons (bin ixD (eVar 1) (eC (.int 6))) aNil)) (eC (.int 4)))) (aCons (bin mulD (eC (.int 26)) (bin powD (eC (.int 36)) (eC (.int 11)))) aNil))))) 12 yesB E1_law))) (sSeq (sSet 6 (callE m__law_sizes (aCons (eVar 0) (aCons (eC (.int 1)) (aCons (eVar 2) (aCons (eC (.int 4)) aNil)))))) (sSeq (sSet 7 (callE m__law_manifest (aCons (eVar 0) (aCons (eVar 3) (aCons (eC (.int 4)) (aCons (eVar 5) aNil)))))) (sSeq (sSet 8 (own (appO lstD aNil))) (sSeq (sIf (tst bOf (bin gtD (eVar 3) (eC (.int 0)))) (sSet 8 (callE m__law_history (aCons (eVar 0) (aCons (eVar 4) (aCons (eVar 6) (aCons (eVar 7) (aCons (eVar 5) (aCons (bin ixD (own (appO lstD (aCons (eC (.int 0)) (aCons (eC (.int 1)) (aCons (eC (.int 3)) (aCons (eC (.int 9)) aNil)))))) (bin modD (app intL (aCons (bin ixD (eVar 1) (eC (.int 7))) aNil)) (eC (.int 4)))) aNil)))))))) sNext) (sSeq (sIf (notB (tst truD (callE m__law_tabled (aCons (eVar 6) (aCons (eVar 7) (aCons (eVar 8) aNil)))))) (sRet (eC (.bl false))) sNext) (sSeq (sSet 9 (sliceE (bin addD (eVar 6) (own (appO lstD (aCons (app tupD (aCons (eC (.int 1)) (aCons (eC (.int 2)) (aCons (eC (.int 3)) aNil)))) (aCons (app tupD (aCons (eC (.int 3)) (aCons (eC (.int 3)) (aCons (eC (.int 3)) aNil)))) aNil))))) (pS (una negD (eC (.int 30)))) pN)) (sSeq (sSet 10 (own (appO lstD (aCons (app tupD (aCons (eC (.int 0)) (aCons (eC (.int 0)) (aCons (bin ixD (eVar 5) (eC (.int 0))) (aCons (eC (.str "in")) aNil))))) aNil)))) (sSeq (sFor (appO rng1 (aCons (eC (.int 30)) aNil)) (gN 11) B1_law) (sSeq (sIf (notB (tst truD (callE m__law_tabled (aCons (eVar 9) (aCons (eVar 7) (aCons (sliceE (eVar 10) (pS (eC (.int 1))) (pS (eC (.int 60)))) aNil)))))) (sRet (eC (.bl false))) sNext) (sRet (callE m__law_refused (aCons (eVar 9) (aCons (eVar 7) (aCons (eVar 8) (aCons (sliceE (eVar 10) pN (pS (eC (.int 60)))) aNil)))))))))))))))))))))))
def m_law : List D → Res RV := runF 13 b_law
theorem go_law {x0 : D} {o : Out} {r : Res RV} (h : b_law [.sh x0, .no, .no, .no, .no, .no, .no, .no, .no, .no, .no, .no, .no] = o) (k : runO o = r) : m_law [x0] = r := by rw [← k, ← h]; rfl
end K48

set_option maxRecDepth 100000
set_option maxHeartbeats 1000000
namespace K48
open PySem PL
theorem is_integer_eq (d : D) : m_is_integer [d] = .ok (.sh (.bl (isiB (tyD d) "int" && !isiB (tyD d) "bool"))) := by cases d <;> rfl
theorem in_range_int (i lo hi : Int) : m_in_range [.int i, .int lo, .int hi] = .ok (.sh (.bl (decide (lo ≤ i) && decide (i ≤ hi)))) := by
  have h : m_is_integer [.int i] = .ok (.sh (.bl true)) := rfl
  unfold m_in_range b_in_range
  simp only [PL.runF, PL.runO, PL.start0, PL.sSeq, PL.sNext, PL.sSet, PL.sSetO, PL.sDrop, PL.sRet, PL.sRetO, PL.sRetV, PL.sRetN, PL.sIf, PL.sBrk, PL.sCont, PL.sFrz, PL.sFor, PL.sAsg, PL.sRaise, PL.sTry, PL.tryO, PL.unset, PL.xRet, PL.fldX, PL.ofR_ok, PL.ofR_exc, PL.eC, PL.eVar, PL.bin, PL.una, PL.aNil, PL.aCons, PL.app, PL.appO, PL.own, PL.tru, PL.ifE, PL.andB, PL.orB, PL.notB, PL.gd, PL.bOf, PL.truD, PL.tst, PL.andV, PL.orV, PL.notV, PL.callE, PL.callO, PL.rvD, PL.rvO, PL.bind_ok, PL.bind_exc, PL.bind_stuck, PL.addD, PL.subD, PL.mulD, PL.modD, PL.fdivD, PL.powD, PL.ltD, PL.leD, PL.gtD, PL.geD, PL.isD, PL.isNotD, PL.isNonD, PL.ixD, PL.sliceD, PL.sliceE, PL.pN, PL.pS, PL.lenL, PL.absL, PL.intL, PL.max2L, PL.min2L, PL.listL, PL.tupleL, PL.isiD, PL.isiB, PL.tyD, PL.itE, PL.seqOf, PL.gN, PL.gT, PL.setAll, PL.lp_next, PL.lp_ret, PL.lp_exc, PL.for_nil, PL.for_cons, PL.atI_0, PL.atI_1, PL.atI_2, PL.atI_3, PL.tupD, PL.lstD, PL.owL, PL.setL, PL.sApp, PL.sPop, PL.sPopAt, PL.popAt, PL.sPut, PL.putAt, PL.ixO, PL.borE, PL.borT, PL.borO, PL.binO, PL.catO, PL.repO, PL.cutO, PL.sliceO, PL.lcE, PL.yesB, PL.mkBV, PL.mkTM, PL.mkBT, PL.negD, List.map_cons, List.map_nil, List.length_cons, List.length_nil, List.getElem?_cons_zero, List.getElem?_cons_succ, List.set_cons_zero, List.set_cons_succ, List.cons_append, List.nil_append, List.replicate_succ, List.replicate_zero, List.append_nil, Nat.reduceSub, Nat.reduceAdd, Bool.false_eq_true, List.map, PL.eq_int, PL.ne_int, PL.eq_bl,  if_true, if_false, ite_true, ite_false, h]
  cases decide (lo ≤ i) <;> rfl
theorem need_list_ok (xs : List D) (n : Int) (w : D) (h : (xs.length : Int) ≤ n) : m_need_list [.lst xs, .int n, w] = .ok (.sh .non) := by
  unfold m_need_list b_need_list
  have h2 : ¬ n < (xs.length : Int) := by omega
  simp [PL.runF, PL.runO, PL.start0, PL.sSeq, PL.sNext, PL.sSet, PL.sSetO, PL.sDrop, PL.sRet, PL.sRetO, PL.sRetV, PL.sRetN, PL.sIf, PL.sBrk, PL.sCont, PL.sFrz, PL.sFor, PL.sAsg, PL.sRaise, PL.sTry, PL.tryO, PL.unset, PL.xRet, PL.fldX, PL.ofR_ok, PL.ofR_exc, PL.eC, PL.eVar, PL.bin, PL.una, PL.aNil, PL.aCons, PL.app, PL.appO, PL.own, PL.tru, PL.ifE, PL.andB, PL.orB, PL.notB, PL.gd, PL.bOf, PL.truD, PL.tst, PL.andV, PL.orV, PL.notV, PL.callE, PL.callO, PL.rvD, PL.rvO, PL.bind_ok, PL.bind_exc, PL.bind_stuck, PL.addD, PL.subD, PL.mulD, PL.modD, PL.fdivD, PL.powD, PL.ltD, PL.leD, PL.gtD, PL.geD, PL.isD, PL.isNotD, PL.isNonD, PL.ixD, PL.sliceD, PL.sliceE, PL.pN, PL.pS, PL.lenL, PL.absL, PL.intL, PL.max2L, PL.min2L, PL.listL, PL.tupleL, PL.isiD, PL.isiB, PL.tyD, PL.itE, PL.seqOf, PL.gN, PL.gT, PL.setAll, PL.lp_next, PL.lp_ret, PL.lp_exc, PL.for_nil, PL.for_cons, PL.atI_0, PL.atI_1, PL.atI_2, PL.atI_3, PL.tupD, PL.lstD, PL.owL, PL.setL, PL.sApp, PL.sPop, PL.sPopAt, PL.popAt, PL.sPut, PL.putAt, PL.ixO, PL.borE, PL.borT, PL.borO, PL.binO, PL.catO, PL.repO, PL.cutO, PL.sliceO, PL.lcE, PL.yesB, PL.mkBV, PL.mkTM, PL.mkBT, PL.negD, List.map_cons, List.map_nil, List.length_cons, List.length_nil, List.getElem?_cons_zero, List.getElem?_cons_succ, List.set_cons_zero, List.set_cons_succ, List.cons_append, List.nil_append, List.replicate_succ, List.replicate_zero, List.append_nil, Nat.reduceSub, Nat.reduceAdd, Bool.false_eq_true, List.map, PL.eq_int, PL.ne_int, PL.eq_bl,  if_true, if_false, ite_true, ite_false, h2]
theorem need_list_many (xs : List D) (n : Int) (w : D) (h : n < (xs.length : Int)) : m_need_list [.lst xs, .int n, w] = .exc (.tooMany (.int n)) := by
  unfold m_need_list b_need_list
  simp [PL.runF, PL.runO, PL.start0, PL.sSeq, PL.sNext, PL.sSet, PL.sSetO, PL.sDrop, PL.sRet, PL.sRetO, PL.sRetV, PL.sRetN, PL.sIf, PL.sBrk, PL.sCont, PL.sFrz, PL.sFor, PL.sAsg, PL.sRaise, PL.sTry, PL.tryO, PL.unset, PL.xRet, PL.fldX, PL.ofR_ok, PL.ofR_exc, PL.eC, PL.eVar, PL.bin, PL.una, PL.aNil, PL.aCons, PL.app, PL.appO, PL.own, PL.tru, PL.ifE, PL.andB, PL.orB, PL.notB, PL.gd, PL.bOf, PL.truD, PL.tst, PL.andV, PL.orV, PL.notV, PL.callE, PL.callO, PL.rvD, PL.rvO, PL.bind_ok, PL.bind_exc, PL.bind_stuck, PL.addD, PL.subD, PL.mulD, PL.modD, PL.fdivD, PL.powD, PL.ltD, PL.leD, PL.gtD, PL.geD, PL.isD, PL.isNotD, PL.isNonD, PL.ixD, PL.sliceD, PL.sliceE, PL.pN, PL.pS, PL.lenL, PL.absL, PL.intL, PL.max2L, PL.min2L, PL.listL, PL.tupleL, PL.isiD, PL.isiB, PL.tyD, PL.itE, PL.seqOf, PL.gN, PL.gT, PL.setAll, PL.lp_next, PL.lp_ret, PL.lp_exc, PL.for_nil, PL.for_cons, PL.atI_0, PL.atI_1, PL.atI_2, PL.atI_3, PL.tupD, PL.lstD, PL.owL, PL.setL, PL.sApp, PL.sPop, PL.sPopAt, PL.popAt, PL.sPut, PL.putAt, PL.ixO, PL.borE, PL.borT, PL.borO, PL.binO, PL.catO, PL.repO, PL.cutO, PL.sliceO, PL.lcE, PL.yesB, PL.mkBV, PL.mkTM, PL.mkBT, PL.negD, List.map_cons, List.map_nil, List.length_cons, List.length_nil, List.getElem?_cons_zero, List.getElem?_cons_succ, List.set_cons_zero, List.set_cons_succ, List.cons_append, List.nil_append, List.replicate_succ, List.replicate_zero, List.append_nil, Nat.reduceSub, Nat.reduceAdd, Bool.false_eq_true, List.map, PL.eq_int, PL.ne_int, PL.eq_bl,  if_true, if_false, ite_true, ite_false, h]
theorem need_list_no (xs : List D) (n : Int) (w : D) : m_need_list [.tup xs, .int n, w] = .exc (.badValue w) := by
  unfold m_need_list b_need_list
  simp [PL.runF, PL.runO, PL.start0, PL.sSeq, PL.sNext, PL.sSet, PL.sSetO, PL.sDrop, PL.sRet, PL.sRetO, PL.sRetV, PL.sRetN, PL.sIf, PL.sBrk, PL.sCont, PL.sFrz, PL.sFor, PL.sAsg, PL.sRaise, PL.sTry, PL.tryO, PL.unset, PL.xRet, PL.fldX, PL.ofR_ok, PL.ofR_exc, PL.eC, PL.eVar, PL.bin, PL.una, PL.aNil, PL.aCons, PL.app, PL.appO, PL.own, PL.tru, PL.ifE, PL.andB, PL.orB, PL.notB, PL.gd, PL.bOf, PL.truD, PL.tst, PL.andV, PL.orV, PL.notV, PL.callE, PL.callO, PL.rvD, PL.rvO, PL.bind_ok, PL.bind_exc, PL.bind_stuck, PL.addD, PL.subD, PL.mulD, PL.modD, PL.fdivD, PL.powD, PL.ltD, PL.leD, PL.gtD, PL.geD, PL.isD, PL.isNotD, PL.isNonD, PL.ixD, PL.sliceD, PL.sliceE, PL.pN, PL.pS, PL.lenL, PL.absL, PL.intL, PL.max2L, PL.min2L, PL.listL, PL.tupleL, PL.isiD, PL.isiB, PL.tyD, PL.itE, PL.seqOf, PL.gN, PL.gT, PL.setAll, PL.lp_next, PL.lp_ret, PL.lp_exc, PL.for_nil, PL.for_cons, PL.atI_0, PL.atI_1, PL.atI_2, PL.atI_3, PL.tupD, PL.lstD, PL.owL, PL.setL, PL.sApp, PL.sPop, PL.sPopAt, PL.popAt, PL.sPut, PL.putAt, PL.ixO, PL.borE, PL.borT, PL.borO, PL.binO, PL.catO, PL.repO, PL.cutO, PL.sliceO, PL.lcE, PL.yesB, PL.mkBV, PL.mkTM, PL.mkBT, PL.negD, List.map_cons, List.map_nil, List.length_cons, List.length_nil, List.getElem?_cons_zero, List.getElem?_cons_succ, List.set_cons_zero, List.set_cons_succ, List.cons_append, List.nil_append, List.replicate_succ, List.replicate_zero, List.append_nil, Nat.reduceSub, Nat.reduceAdd, Bool.false_eq_true, List.map, PL.eq_int, PL.ne_int, PL.eq_bl,  if_true, if_false, ite_true, ite_false]
theorem in_range_not (d : D) (lo hi : Int) (h : m_is_integer [d] = no) : m_in_range [d, .int lo, .int hi] = no := by
  unfold m_in_range b_in_range
  simp only [PL.runF, PL.runO, PL.start0, PL.sSeq, PL.sNext, PL.sSet, PL.sSetO, PL.sDrop, PL.sRet, PL.sRetO, PL.sRetV, PL.sRetN, PL.sIf, PL.sBrk, PL.sCont, PL.sFrz, PL.sFor, PL.sAsg, PL.sRaise, PL.sTry, PL.tryO, PL.unset, PL.xRet, PL.fldX, PL.ofR_ok, PL.ofR_exc, PL.eC, PL.eVar, PL.bin, PL.una, PL.aNil, PL.aCons, PL.app, PL.appO, PL.own, PL.tru, PL.ifE, PL.andB, PL.orB, PL.notB, PL.gd, PL.bOf, PL.truD, PL.tst, PL.andV, PL.orV, PL.notV, PL.callE, PL.callO, PL.rvD, PL.rvO, PL.bind_ok, PL.bind_exc, PL.bind_stuck, PL.addD, PL.subD, PL.mulD, PL.modD, PL.fdivD, PL.powD, PL.ltD, PL.leD, PL.gtD, PL.geD, PL.isD, PL.isNotD, PL.isNonD, PL.ixD, PL.sliceD, PL.sliceE, PL.pN, PL.pS, PL.lenL, PL.absL, PL.intL, PL.max2L, PL.min2L, PL.listL, PL.tupleL, PL.isiD, PL.isiB, PL.tyD, PL.itE, PL.seqOf, PL.gN, PL.gT, PL.setAll, PL.lp_next, PL.lp_ret, PL.lp_exc, PL.for_nil, PL.for_cons, PL.atI_0, PL.atI_1, PL.atI_2, PL.atI_3, PL.tupD, PL.lstD, PL.owL, PL.setL, PL.sApp, PL.sPop, PL.sPopAt, PL.popAt, PL.sPut, PL.putAt, PL.ixO, PL.borE, PL.borT, PL.borO, PL.binO, PL.catO, PL.repO, PL.cutO, PL.sliceO, PL.lcE, PL.yesB, PL.mkBV, PL.mkTM, PL.mkBT, PL.negD, List.map_cons, List.map_nil, List.length_cons, List.length_nil, List.getElem?_cons_zero, List.getElem?_cons_succ, List.set_cons_zero, List.set_cons_succ, List.cons_append, List.nil_append, List.replicate_succ, List.replicate_zero, List.append_nil, Nat.reduceSub, Nat.reduceAdd, Bool.false_eq_true, List.map, PL.eq_int, PL.ne_int, PL.eq_bl,  if_true, if_false, ite_true, ite_false, h]
theorem same_loop {n : Nat} {d : D} {xs : List D} (hix : ∀ k, (hk : k < xs.length) → ixD d (.int (k : Nat)) = .ok xs[k]) (h : ∀ x ∈ xs, m__law_same n [x, x] = yes) : ∀ (ks : List Nat) (o : Sl), (∀ k ∈ ks, k < xs.length) →
    ∃ o', forL (gN 2) (B1__law_same (m__law_same n)) (ks.map fun k => .int ((k : Nat) : Int)) [.sh d, .sh d, o] = .next [.sh d, .sh d, o']
  | [], o, _ => ⟨o, rfl⟩
  | k :: ks, o, hk => by
    obtain ⟨o', ih⟩ := same_loop hix h ks (.sh (.int (k : Nat))) fun x hx => hk x (List.mem_cons_of_mem _ hx)
    refine ⟨o', ?_⟩
    have hl := hk k List.mem_cons_self
    have hb : B1__law_same (m__law_same n) [.sh d, .sh d, .sh (.int (k : Nat))] = .next [.sh d, .sh d, .sh (.int (k : Nat))] := by
      unfold B1__law_same
      have e : PL.bin ixD (eVar 0) (eVar 2) [.sh d, .sh d, .sh (.int (k : Nat))] = .ok xs[k] := hix k hl
      have e2 : PL.bin ixD (eVar 1) (eVar 2) [.sh d, .sh d, .sh (.int (k : Nat))] = .ok xs[k] := hix k hl
      have e3 := h xs[k] (List.getElem_mem hl)
      unfold sIf notB tst callE aCons
      rw [e]
      simp only [bind_ok]
      unfold aNil
      rw [e2]
      simp only [bind_ok, e3]
      rfl
    show lpO _ (B1__law_same (m__law_same n) [.sh d, .sh d, .sh (.int (k : Nat))]) = _
    rw [hb]
    exact ih
theorem same_seq {n : Nat} {d : D} {xs : List D} (hd : d = .tup xs ∨ d = .lst xs) (hl : xs.length ≤ 1000) (h : ∀ x ∈ xs, m__law_same n [x, x] = yes) : m__law_same (n + 1) [d, d] = yes := by
  have hix : ∀ k, (hk : k < xs.length) → ixD d (.int (k : Nat)) = .ok xs[k] := by
    rcases hd with e | e <;> subst e
    · exact ix_tup xs
    · exact ix_lst xs
  obtain ⟨o', hf⟩ := same_loop hix h (List.range xs.length) .no fun k hk => List.mem_range.mp hk
  have g1 := rng1_nat xs.length (by omega)
  show runO (b__law_same (m__law_same n) [.sh d, .sh d, .no]) = _
  have step : ∀ (f g : En → Out), f [.sh d, .sh d, .no] = .next [.sh d, .sh d, .no] → sSeq f g [.sh d, .sh d, .no] = g [.sh d, .sh d, .no] := fun f g e => seq_next e
  have hlen : lenL [d] = .ok (.int (xs.length : Nat)) := by rcases hd with e | e <;> subst e <;> rfl
  unfold b__law_same
  rw [step, step, step, step, step, step, step]
  · unfold sSeq sFor PL.appO PL.app PL.aCons PL.aNil PL.eVar
    simp only [List.getElem?_cons_zero, List.getElem?_cons_succ, bind_ok, hlen, g1, ofR_ok, hf]
    rfl
  · unfold sIf PL.tst PL.bin PL.app PL.aCons PL.aNil PL.eVar
    simp only [List.getElem?_cons_zero, List.getElem?_cons_succ, bind_ok, hlen, ne_int, decide_true, Bool.not_true]
    rfl
  all_goals (rcases hd with e | e <;> subst e <;> rfl)
theorem same_refl : ∀ (n : Nat) (d : D), pl d = true → dep d < n → m__law_same n [d, d] = yes
  | 0, d, _, h => absurd h (Nat.not_lt_zero _)
  | n + 1, d, h, hn => by
    cases d with
    | non => rfl
    | bl b => cases b <;> rfl
    | int i =>
      show runF 3 (b__law_same (m__law_same n)) [.int i, .int i] = _
      unfold b__law_same
      simp only [PL.runF, PL.runO, PL.start0, PL.sSeq, PL.sNext, PL.sSet, PL.sSetO, PL.sDrop, PL.sRet, PL.sRetO, PL.sRetV, PL.sRetN, PL.sIf, PL.sBrk, PL.sCont, PL.sFrz, PL.sFor, PL.sAsg, PL.sRaise, PL.sTry, PL.tryO, PL.unset, PL.xRet, PL.fldX, PL.ofR_ok, PL.ofR_exc, PL.eC, PL.eVar, PL.bin, PL.una, PL.aNil, PL.aCons, PL.app, PL.appO, PL.own, PL.tru, PL.ifE, PL.andB, PL.orB, PL.notB, PL.gd, PL.bOf, PL.truD, PL.tst, PL.andV, PL.orV, PL.notV, PL.callE, PL.callO, PL.rvD, PL.rvO, PL.bind_ok, PL.bind_exc, PL.bind_stuck, PL.addD, PL.subD, PL.mulD, PL.modD, PL.fdivD, PL.powD, PL.ltD, PL.leD, PL.gtD, PL.geD, PL.isD, PL.isNotD, PL.isNonD, PL.ixD, PL.sliceD, PL.sliceE, PL.pN, PL.pS, PL.lenL, PL.absL, PL.intL, PL.max2L, PL.min2L, PL.listL, PL.tupleL, PL.isiD, PL.isiB, PL.tyD, PL.itE, PL.seqOf, PL.gN, PL.gT, PL.setAll, PL.lp_next, PL.lp_ret, PL.lp_exc, PL.for_nil, PL.for_cons, PL.atI_0, PL.atI_1, PL.atI_2, PL.atI_3, PL.tupD, PL.lstD, PL.owL, PL.setL, PL.sApp, PL.sPop, PL.sPopAt, PL.popAt, PL.sPut, PL.putAt, PL.ixO, PL.borE, PL.borT, PL.borO, PL.binO, PL.catO, PL.repO, PL.cutO, PL.sliceO, PL.lcE, PL.yesB, PL.mkBV, PL.mkTM, PL.mkBT, PL.negD, List.map_cons, List.map_nil, List.length_cons, List.length_nil, List.getElem?_cons_zero, List.getElem?_cons_succ, List.set_cons_zero, List.set_cons_succ, List.cons_append, List.nil_append, List.replicate_succ, List.replicate_zero, List.append_nil, Nat.reduceSub, Nat.reduceAdd, Bool.false_eq_true, List.map, PL.eq_int, PL.ne_int, PL.eq_bl,  if_true, if_false, ite_true, ite_false, String.reduceBEq, decide_true, decide_false, Bool.not_true, Bool.not_false, Bool.true_and, Bool.false_and, Bool.and_true, Bool.and_false, Bool.true_or, Bool.false_or, Bool.or_true, Bool.or_false, decide_not, Bool.not_eq_true, Bool.not_not, reduceCtorEq, ne_eq, not_true_eq_false, not_false_eq_true, eq_self, beq_self_eq_true, bne_self_eq_false, and_true, true_and, and_self]
    | str s =>
      show runF 3 (b__law_same (m__law_same n)) [.str s, .str s] = _
      unfold b__law_same
      simp only [PL.runF, PL.runO, PL.start0, PL.sSeq, PL.sNext, PL.sSet, PL.sSetO, PL.sDrop, PL.sRet, PL.sRetO, PL.sRetV, PL.sRetN, PL.sIf, PL.sBrk, PL.sCont, PL.sFrz, PL.sFor, PL.sAsg, PL.sRaise, PL.sTry, PL.tryO, PL.unset, PL.xRet, PL.fldX, PL.ofR_ok, PL.ofR_exc, PL.eC, PL.eVar, PL.bin, PL.una, PL.aNil, PL.aCons, PL.app, PL.appO, PL.own, PL.tru, PL.ifE, PL.andB, PL.orB, PL.notB, PL.gd, PL.bOf, PL.truD, PL.tst, PL.andV, PL.orV, PL.notV, PL.callE, PL.callO, PL.rvD, PL.rvO, PL.bind_ok, PL.bind_exc, PL.bind_stuck, PL.addD, PL.subD, PL.mulD, PL.modD, PL.fdivD, PL.powD, PL.ltD, PL.leD, PL.gtD, PL.geD, PL.isD, PL.isNotD, PL.isNonD, PL.ixD, PL.sliceD, PL.sliceE, PL.pN, PL.pS, PL.lenL, PL.absL, PL.intL, PL.max2L, PL.min2L, PL.listL, PL.tupleL, PL.isiD, PL.isiB, PL.tyD, PL.itE, PL.seqOf, PL.gN, PL.gT, PL.setAll, PL.lp_next, PL.lp_ret, PL.lp_exc, PL.for_nil, PL.for_cons, PL.atI_0, PL.atI_1, PL.atI_2, PL.atI_3, PL.tupD, PL.lstD, PL.owL, PL.setL, PL.sApp, PL.sPop, PL.sPopAt, PL.popAt, PL.sPut, PL.putAt, PL.ixO, PL.borE, PL.borT, PL.borO, PL.binO, PL.catO, PL.repO, PL.cutO, PL.sliceO, PL.lcE, PL.yesB, PL.mkBV, PL.mkTM, PL.mkBT, PL.negD, List.map_cons, List.map_nil, List.length_cons, List.length_nil, List.getElem?_cons_zero, List.getElem?_cons_succ, List.set_cons_zero, List.set_cons_succ, List.cons_append, List.nil_append, List.replicate_succ, List.replicate_zero, List.append_nil, Nat.reduceSub, Nat.reduceAdd, Bool.false_eq_true, List.map, PL.eq_int, PL.ne_int, PL.eq_bl,  if_true, if_false, ite_true, ite_false, String.reduceBEq, decide_true, decide_false, Bool.not_true, Bool.not_false, Bool.true_and, Bool.false_and, Bool.and_true, Bool.and_false, Bool.true_or, Bool.false_or, Bool.or_true, Bool.or_false, decide_not, Bool.not_eq_true, Bool.not_not, reduceCtorEq, ne_eq, not_true_eq_false, not_false_eq_true, eq_self, beq_self_eq_true, bne_self_eq_false, and_true, true_and, and_self, eq_str h h]
    | tup xs =>
      unfold pl at h
      unfold dep at hn
      rw [Bool.and_eq_true, decide_eq_true_eq] at h
      exact same_seq (.inl rfl) h.2 fun x hx => same_refl n x (plA_mem h.1 hx) (by have := depA_mem hx; omega)
    | lst xs =>
      unfold pl at h
      unfold dep at hn
      rw [Bool.and_eq_true, decide_eq_true_eq] at h
      exact same_seq (.inr rfl) h.2 fun x hx => same_refl n x (plA_mem h.1 hx) (by have := depA_mem hx; omega)
    | scr ns => cases h
theorem row_loop1 {c m s5 : Sl} {lim : Int} (h0 : 0 < lim) (h1 : lim < 18446744073709551616) : ∀ (ks : List Nat) (rest : Int) (acc : List D) (o6 : Sl), acc.length + ks.length ≤ 100000 → ∃ xs rest' o6', Draws ks.length lim xs ∧
    forL (gN 6) B1__law_row (ks.map fun k => .int ((k : Nat) : Int)) [c, m, .sh (.int lim), .sh (.int rest), .ow (.lst acc), s5, o6] = .next [c, m, .sh (.int lim), .sh (.int rest'), .ow (.lst (acc ++ xs.map D.int)), s5, o6']
  | [], rest, acc, o6, _ => ⟨[], rest, o6, ⟨rfl, fun x hx => by cases hx⟩, by rw [List.map_nil, List.map_nil, List.append_nil]; rfl⟩
  | k :: ks, rest, acc, o6, hz => by
    simp only [List.length_cons] at hz
    obtain ⟨xs, rest', o6', ⟨hl, hx⟩, ih⟩ := row_loop1 (c := c) (m := m) (s5 := s5) h0 h1 ks (rest / lim) (acc ++ [.int (rest % lim)]) (.sh (.int (k : Nat))) (by simp only [List.length_append, List.length_cons, List.length_nil]; omega)
    refine ⟨rest % lim :: xs, rest', o6', ⟨by rw [List.length_cons, List.length_cons, hl], fun x h => ?_⟩, ?_⟩
    · rcases List.mem_cons.mp h with e | e
      · subst e; exact ⟨Int.emod_nonneg _ (by omega), Int.emod_lt_of_pos _ h0⟩
      · exact hx x e
    · rw [List.map_cons, for_cons]
      show lpO _ (B1__law_row [c, m, .sh (.int lim), .sh (.int rest), .ow (.lst acc), s5, .sh (.int (k : Nat))]) = _
      have hb : B1__law_row [c, m, .sh (.int lim), .sh (.int rest), .ow (.lst acc), s5, .sh (.int (k : Nat))] = .next [c, m, .sh (.int lim), .sh (.int (rest / lim)), .ow (.lst (acc ++ [.int (rest % lim)])), s5, .sh (.int (k : Nat))] :=
        seq_n (app_ok (xs := acc) rfl (bin_eq (x := .int rest) (app_eq (cons_eq rfl rfl) rfl) rfl (mod_int rest lim h0)) (by omega)) (set_eq (bin_eq rfl rfl (fdiv_int rest lim h0 h1)))
      rw [hb, lp_next, ih, List.append_assoc]
      rfl
theorem row_loop2 {c m : Sl} {lim rest : Int} (h0 : 0 < lim) (hr : 0 ≤ rest) (hr2 : rest < 1000000000000000000) : ∀ (ks : List Nat) (st : Int) (acc : List D) (o6 : Sl), (∀ k ∈ ks, k < 100000) → 0 ≤ st → st < 2147483648 → acc.length + ks.length ≤ 100000 → ∃ xs s5 o6', Draws ks.length lim xs ∧
    forL (gN 6) B2__law_row (ks.map fun k => .int ((k : Nat) : Int)) [c, m, .sh (.int lim), .sh (.int rest), .ow (.lst acc), .sh (.int st), o6] = .next [c, m, .sh (.int lim), .sh (.int rest), .ow (.lst (acc ++ xs.map D.int)), s5, o6']
  | [], st, acc, o6, _, _, _, _ => ⟨[], _, o6, ⟨rfl, fun x hx => by cases hx⟩, by rw [List.map_nil, List.map_nil, List.append_nil]; rfl⟩
  | k :: ks, st, acc, o6, hk, s0, s1, hz => by
    simp only [List.length_cons] at hz
    have hk0 := hk k List.mem_cons_self
    let st' : Int := (st * 69621 + (k : Nat) * 48271 + rest) % 2147483629
    have t0 : 0 ≤ st' := Int.emod_nonneg _ (by decide)
    have t1 : st' < 2147483629 := Int.emod_lt_of_pos _ (by decide)
    obtain ⟨xs, s5, o6', ⟨hl, hx⟩, ih⟩ := row_loop2 (c := c) (m := m) h0 hr hr2 ks st' (acc ++ [.int (st' / 7 % lim)]) (.sh (.int (k : Nat))) (fun x h => hk x (List.mem_cons_of_mem _ h)) t0 (by omega) (by simp only [List.length_append, List.length_cons, List.length_nil]; omega)
    refine ⟨st' / 7 % lim :: xs, s5, o6', ⟨by rw [List.length_cons, List.length_cons, hl], fun x h => ?_⟩, ?_⟩
    · rcases List.mem_cons.mp h with e | e
      · subst e; exact ⟨Int.emod_nonneg _ (by omega), Int.emod_lt_of_pos _ h0⟩
      · exact hx x e
    · rw [List.map_cons, for_cons]
      show lpO _ (B2__law_row [c, m, .sh (.int lim), .sh (.int rest), .ow (.lst acc), .sh (.int st), .sh (.int (k : Nat))]) = _
      have hb : B2__law_row [c, m, .sh (.int lim), .sh (.int rest), .ow (.lst acc), .sh (.int st), .sh (.int (k : Nat))] = .next [c, m, .sh (.int lim), .sh (.int rest), .ow (.lst (acc ++ [.int (st' / 7 % lim)])), .sh (.int st'), .sh (.int (k : Nat))] := by
        refine seq_n (set_eq (d := .int st') (bin_eq (x := .int (st * 69621 + (k : Nat) * 48271 + rest)) (app_eq (cons_eq (bin_eq (bin_eq (bin_eq rfl rfl (mul_int _ _ (by omega) (by decide))) (bin_eq rfl rfl (mul_int _ _ (by omega) (by decide))) rfl) rfl rfl) rfl) rfl) rfl (mod_int _ _ (by decide)))) ?_
        exact app_ok (xs := acc) rfl (bin_eq (x := .int (st' / 7)) (app_eq (cons_eq (bin_eq rfl rfl (fdiv_int _ _ (by decide) (by decide))) rfl) rfl) rfl (mod_int _ _ h0)) (by omega)
      rw [hb, lp_next, ih, List.append_assoc]
      rfl
theorem draw (cell : Int) (n : Nat) (lim : Int) (hn : n ≤ 1000) (h0 : 0 < lim) (h1 : lim < 18446744073709551616) : ∃ xs, Draws n lim xs ∧ m__law_row [.int cell, .int (n : Nat), .int lim] = .ok (.ow (xs.map D.int)) := by
  let r : Int := if cell < 0 then -cell else cell
  have r0 : 0 ≤ r := by show 0 ≤ (if cell < 0 then -cell else cell); split <;> omega
  have rg := rng1_nat n (by omega)
  have p18 : ∀ ρ : En, PL.bin powD (eC (.int 10)) (eC (.int 18)) ρ = .ok (.int 1000000000000000000) := fun ρ => bin_eq rfl rfl pow18
  have en : [Sl.sh (.int cell), .sh (.int (n : Nat)), .sh (.int lim), .no, .no, .no, .no] = start0 7 [.int cell, .int (n : Nat), .int lim] := rfl
  by_cases hb : (1000000000000000000 : Int) ≤ r
  · obtain ⟨xs, rest', o6', hd, hf⟩ := row_loop1 (c := .sh (.int cell)) (m := .sh (.int (n : Nat))) (s5 := .no) h0 h1 (List.range n) (r - 1000000000000000000) [] .no (by rw [List.length_range]; simp only [List.length_nil]; omega)
    rw [List.length_range] at hd
    refine ⟨xs, hd, ?_⟩
    refine run_of (b := b__law_row) (env := [.sh (.int cell), .sh (.int (n : Nat)), .sh (.int lim), .no, .no, .no, .no]) (o := .ret (.ow (xs.map D.int))) rfl ?_ rfl
    unfold b__law_row
    refine seq_n (set_eq (d := .int r) (app_eq (cons_eq rfl rfl) rfl)) (seq_n (setO_eq (appO_eq rfl (lst_ok [] (by simp)))) ?_)
    show sSeq _ _ [.sh (.int cell), .sh (.int (n : Nat)), .sh (.int lim), .sh (.int r), .ow (.lst []), .no, .no] = _
    refine seq_ret (if_eq (b := true) (tst_eq (d := .bl true) (bin_eq (x := .int r) rfl (p18 _) (by show Res.ok (D.bl (decide ((1000000000000000000 : Int) ≤ r))) = _; rw [decide_eq_true hb])) rfl) ?_)
    rw [if_pos rfl]
    refine seq_n (set_eq (d := .int (r - 1000000000000000000)) (bin_eq rfl (p18 _) rfl)) ?_
    exact seq_n (for_eq (appO_eq (cons_eq rfl rfl) rg) hf) rfl
  · have st0 : 0 ≤ (r * 48271 + 11) % 2147483647 := Int.emod_nonneg _ (by decide)
    have st1 : (r * 48271 + 11) % 2147483647 < 2147483647 := Int.emod_lt_of_pos _ (by decide)
    obtain ⟨xs, s5, o6', hd, hf⟩ := row_loop2 (c := .sh (.int cell)) (m := .sh (.int (n : Nat))) (rest := r) h0 r0 (by omega) (List.range n) ((r * 48271 + 11) % 2147483647) [] .no (fun k hk => by have := List.mem_range.mp hk; omega) st0 (by omega) (by rw [List.length_range]; simp only [List.length_nil]; omega)
    rw [List.length_range] at hd
    refine ⟨xs, hd, ?_⟩
    refine run_of (b := b__law_row) (env := [.sh (.int cell), .sh (.int (n : Nat)), .sh (.int lim), .no, .no, .no, .no]) (o := .ret (.ow (xs.map D.int))) rfl ?_ rfl
    unfold b__law_row
    refine seq_n (set_eq (d := .int r) (app_eq (cons_eq rfl rfl) rfl)) (seq_n (setO_eq (appO_eq rfl (lst_ok [] (by simp)))) ?_)
    show sSeq _ _ [.sh (.int cell), .sh (.int (n : Nat)), .sh (.int lim), .sh (.int r), .ow (.lst []), .no, .no] = _
    refine seq_n (if_eq (b := false) (tst_eq (d := .bl false) (bin_eq (x := .int r) rfl (p18 _) (by show Res.ok (D.bl (decide ((1000000000000000000 : Int) ≤ r))) = _; rw [decide_eq_false hb])) rfl) rfl) ?_
    refine seq_n (set_eq (d := .int ((r * 48271 + 11) % 2147483647)) (bin_eq (x := .int (r * 48271 + 11)) (app_eq (cons_eq (bin_eq (bin_eq rfl rfl (mul_int r 48271 (by omega) (by decide))) rfl rfl) rfl) rfl) rfl (mod_int _ _ (by decide)))) ?_
    exact seq_n (for_eq (appO_eq (cons_eq rfl rfl) rg) hf) rfl
theorem cell_eq (ns : List Int) (k : Nat) : ∃ c : Int, m__law_cell [.scr ns, .int (k : Nat)] = .ok (.sh (.int c)) := by
  have ht : tst bOf (PL.bin ltD (eVar 1) (app lenL (aCons (eVar 0) aNil))) [.sh (.scr ns), .sh (.int (k : Nat))] = .ok (decide ((k : Int) < (ns.length : Nat))) := tst_eq (bin_eq rfl (app_eq (cons_eq rfl rfl) rfl) rfl) rfl
  by_cases h : k < ns.length
  · refine ⟨ns[k], run_of (b := b__law_cell) (env := [.sh (.scr ns), .sh (.int (k : Nat))]) (o := .ret (.sh (.int ns[k]))) rfl ?_ rfl⟩
    rw [decide_eq_true (by omega)] at ht
    have ix : ixD (.scr ns) (.int (k : Nat)) = .ok (.int ns[k]) := by
      show (match L2.atI ns (k : Nat) with | some d => Res.ok (D.int d) | none => .stuck) = _
      rw [atI_nat, List.getElem?_eq_getElem h]
    exact seq_ret (if_eq ht (ret_eq (app_eq (cons_eq (bin_eq rfl rfl ix) rfl) rfl)))
  · refine ⟨0, run_of (b := b__law_cell) (env := [.sh (.scr ns), .sh (.int (k : Nat))]) (o := .ret (.sh (.int 0))) rfl ?_ rfl⟩
    rw [decide_eq_false (by omega)] at ht
    exact seq_n (if_eq ht rfl) (ret_eq rfl)

theorem name_loop (s : D) : ∀ (cs : List Nat) (o : Sl), ∃ o', forL (gN 1) B1_is_name (cs.map fun c => .str ⟨#[c]⟩) [.sh s, o] = if cs.all (fun x => lett x || dgt x) then .next [.sh s, o'] else .ret (.sh (.bl false))
  | [], o => ⟨o, rfl⟩
  | c :: cs, o => by
    obtain ⟨o', ih⟩ := name_loop s cs (.sh (.str ⟨#[c]⟩))
    refine ⟨o', ?_⟩
    show lpO (forL (gN 1) B1_is_name (cs.map fun c => .str ⟨#[c]⟩)) (B1_is_name [.sh s, .sh (.str ⟨#[c]⟩)]) = _
    have hb : B1_is_name [.sh s, .sh (.str ⟨#[c]⟩)] = if (lett c || dgt c) = true then .next [.sh s, .sh (.str ⟨#[c]⟩)] else .ret (.sh (.bl false)) := by
      unfold B1_is_name
      simp only [PL.runF, PL.runO, PL.start0, PL.sSeq, PL.sNext, PL.sSet, PL.sSetO, PL.sDrop, PL.sRet, PL.sRetO, PL.sRetV, PL.sRetN, PL.sIf, PL.sBrk, PL.sCont, PL.sFrz, PL.sFor, PL.sAsg, PL.sRaise, PL.sTry, PL.tryO, PL.unset, PL.xRet, PL.fldX, PL.ofR_ok, PL.ofR_exc, PL.eC, PL.eVar, PL.bin, PL.una, PL.aNil, PL.aCons, PL.app, PL.appO, PL.own, PL.tru, PL.ifE, PL.andB, PL.orB, PL.notB, PL.gd, PL.bOf, PL.truD, PL.tst, PL.andV, PL.orV, PL.notV, PL.callE, PL.callO, PL.rvD, PL.rvO, PL.bind_ok, PL.bind_exc, PL.bind_stuck, PL.addD, PL.subD, PL.mulD, PL.modD, PL.fdivD, PL.powD, PL.ltD, PL.leD, PL.gtD, PL.geD, PL.isD, PL.isNotD, PL.isNonD, PL.ixD, PL.sliceD, PL.sliceE, PL.pN, PL.pS, PL.lenL, PL.absL, PL.intL, PL.max2L, PL.min2L, PL.listL, PL.tupleL, PL.isiD, PL.isiB, PL.tyD, PL.itE, PL.seqOf, PL.gN, PL.gT, PL.setAll, PL.lp_next, PL.lp_ret, PL.lp_exc, PL.for_nil, PL.for_cons, PL.atI_0, PL.atI_1, PL.atI_2, PL.atI_3, PL.tupD, PL.lstD, PL.owL, PL.setL, PL.sApp, PL.sPop, PL.sPopAt, PL.popAt, PL.sPut, PL.putAt, PL.ixO, PL.borE, PL.borT, PL.borO, PL.binO, PL.catO, PL.repO, PL.cutO, PL.sliceO, PL.lcE, PL.yesB, PL.mkBV, PL.mkTM, PL.mkBT, PL.negD, List.map_cons, List.map_nil, List.length_cons, List.length_nil, List.getElem?_cons_zero, List.getElem?_cons_succ, List.set_cons_zero, List.set_cons_succ, List.cons_append, List.nil_append, List.replicate_succ, List.replicate_zero, List.append_nil, Nat.reduceSub, Nat.reduceAdd, Bool.false_eq_true, List.map, PL.eq_int, PL.ne_int, PL.eq_bl,  if_true, if_false, ite_true, ite_false, notin_letters, notin_digits]
      cases lett c <;> cases dgt c <;> rfl
    rw [hb, List.all_cons]
    by_cases h : (lett c || dgt c) = true
    · rw [if_pos h, h, Bool.true_and]
      exact ih
    · rw [if_neg h]
      have h' : (lett c || dgt c) = false := by simpa using h
      rw [h', Bool.false_and]
      rfl
/-- is_name of a short text -/
theorem is_name_str (cs : List Nat) (h : cs.length ≤ 20) : m_is_name [.str (nm cs)] = .ok (.sh (.bl (nmOk cs))) := by
  have hl : (nm cs).length = cs.length := by show cs.toArray.size = _; simp
  have hs : cs.length ≤ sizeLine := sz _ (by omega)
  cases cs with
  | nil => rfl
  | cons c cs =>
    have h1 : ¬ (((c :: cs).length : Nat) : Int) < 1 := by simp only [List.length_cons]; omega
    have hx : (nm (c :: cs)).cps.toList = c :: cs := by simp [nm]
    have h0 : L2.atI (c :: cs) 0 = some c := by
      have e : L2.ixN (c :: cs).length 0 = some 0 := by
        unfold L2.ixN
        rw [if_pos (by omega), if_pos (by simp only [List.length_cons]; omega)] <;> rfl
      unfold L2.atI
      rw [e] <;> rfl
    have hsg : signs (nm (c :: cs)) = (c :: cs).map fun c => .str ⟨#[c]⟩ := by unfold signs; rw [hx]
    unfold m_is_name b_is_name
    by_cases h2 : (12 : Int) < (((c :: cs).length : Nat) : Int)
    · have e : nmOk (c :: cs) = false := by
        unfold nmOk
        have : ¬ cs.length ≤ 11 := by simp only [List.length_cons] at h2; omega
        simp [this]
      rw [e]
      simp only [List.length_cons] at h1 h2 hl hs
      simp only [PL.runF, PL.runO, PL.start0, PL.sSeq, PL.sNext, PL.sSet, PL.sSetO, PL.sDrop, PL.sRet, PL.sRetO, PL.sRetV, PL.sRetN, PL.sIf, PL.sBrk, PL.sCont, PL.sFrz, PL.sFor, PL.sAsg, PL.sRaise, PL.sTry, PL.tryO, PL.unset, PL.xRet, PL.fldX, PL.ofR_ok, PL.ofR_exc, PL.eC, PL.eVar, PL.bin, PL.una, PL.aNil, PL.aCons, PL.app, PL.appO, PL.own, PL.tru, PL.ifE, PL.andB, PL.orB, PL.notB, PL.gd, PL.bOf, PL.truD, PL.tst, PL.andV, PL.orV, PL.notV, PL.callE, PL.callO, PL.rvD, PL.rvO, PL.bind_ok, PL.bind_exc, PL.bind_stuck, PL.addD, PL.subD, PL.mulD, PL.modD, PL.fdivD, PL.powD, PL.ltD, PL.leD, PL.gtD, PL.geD, PL.isD, PL.isNotD, PL.isNonD, PL.ixD, PL.sliceD, PL.sliceE, PL.pN, PL.pS, PL.lenL, PL.absL, PL.intL, PL.max2L, PL.min2L, PL.listL, PL.tupleL, PL.isiD, PL.isiB, PL.tyD, PL.itE, PL.seqOf, PL.gN, PL.gT, PL.setAll, PL.lp_next, PL.lp_ret, PL.lp_exc, PL.for_nil, PL.for_cons, PL.atI_0, PL.atI_1, PL.atI_2, PL.atI_3, PL.tupD, PL.lstD, PL.owL, PL.setL, PL.sApp, PL.sPop, PL.sPopAt, PL.popAt, PL.sPut, PL.putAt, PL.ixO, PL.borE, PL.borT, PL.borO, PL.binO, PL.catO, PL.repO, PL.cutO, PL.sliceO, PL.lcE, PL.yesB, PL.mkBV, PL.mkTM, PL.mkBT, PL.negD, List.map_cons, List.map_nil, List.length_cons, List.length_nil, List.getElem?_cons_zero, List.getElem?_cons_succ, List.set_cons_zero, List.set_cons_succ, List.cons_append, List.nil_append, List.replicate_succ, List.replicate_zero, List.append_nil, Nat.reduceSub, Nat.reduceAdd, Bool.false_eq_true, List.map, PL.eq_int, PL.ne_int, PL.eq_bl,  if_true, if_false, ite_true, ite_false, String.reduceBEq, decide_true, decide_false, Bool.not_true, Bool.not_false, Bool.true_and, Bool.false_and, Bool.and_true, Bool.and_false, Bool.true_or, Bool.false_or, Bool.or_true, Bool.or_false, decide_not, Bool.not_eq_true, Bool.not_not, reduceCtorEq, ne_eq, not_true_eq_false, not_false_eq_true, eq_self, beq_self_eq_true, bne_self_eq_false, and_true, true_and, and_self, hl, hs, h1, h2]
    · have l11 : decide (cs.length ≤ 11) = true := by
        simp only [List.length_cons] at h2
        exact decide_eq_true (by omega)
      have e : nmOk (c :: cs) = (lett c && cs.all (fun x => lett x || dgt x)) := by show ((lett c && _) && decide _) = _; rw [l11, Bool.and_true]
      rw [e]
      obtain ⟨o', nl⟩ := name_loop (.str (nm (c :: cs))) (c :: cs) .no
      rw [← hsg] at nl
      simp only [List.length_cons] at h1 h2 hl hs
      cases hc : lett c with
      | false => simp only [PL.runF, PL.runO, PL.start0, PL.sSeq, PL.sNext, PL.sSet, PL.sSetO, PL.sDrop, PL.sRet, PL.sRetO, PL.sRetV, PL.sRetN, PL.sIf, PL.sBrk, PL.sCont, PL.sFrz, PL.sFor, PL.sAsg, PL.sRaise, PL.sTry, PL.tryO, PL.unset, PL.xRet, PL.fldX, PL.ofR_ok, PL.ofR_exc, PL.eC, PL.eVar, PL.bin, PL.una, PL.aNil, PL.aCons, PL.app, PL.appO, PL.own, PL.tru, PL.ifE, PL.andB, PL.orB, PL.notB, PL.gd, PL.bOf, PL.truD, PL.tst, PL.andV, PL.orV, PL.notV, PL.callE, PL.callO, PL.rvD, PL.rvO, PL.bind_ok, PL.bind_exc, PL.bind_stuck, PL.addD, PL.subD, PL.mulD, PL.modD, PL.fdivD, PL.powD, PL.ltD, PL.leD, PL.gtD, PL.geD, PL.isD, PL.isNotD, PL.isNonD, PL.ixD, PL.sliceD, PL.sliceE, PL.pN, PL.pS, PL.lenL, PL.absL, PL.intL, PL.max2L, PL.min2L, PL.listL, PL.tupleL, PL.isiD, PL.isiB, PL.tyD, PL.itE, PL.seqOf, PL.gN, PL.gT, PL.setAll, PL.lp_next, PL.lp_ret, PL.lp_exc, PL.for_nil, PL.for_cons, PL.atI_0, PL.atI_1, PL.atI_2, PL.atI_3, PL.tupD, PL.lstD, PL.owL, PL.setL, PL.sApp, PL.sPop, PL.sPopAt, PL.popAt, PL.sPut, PL.putAt, PL.ixO, PL.borE, PL.borT, PL.borO, PL.binO, PL.catO, PL.repO, PL.cutO, PL.sliceO, PL.lcE, PL.yesB, PL.mkBV, PL.mkTM, PL.mkBT, PL.negD, List.map_cons, List.map_nil, List.length_cons, List.length_nil, List.getElem?_cons_zero, List.getElem?_cons_succ, List.set_cons_zero, List.set_cons_succ, List.cons_append, List.nil_append, List.replicate_succ, List.replicate_zero, List.append_nil, Nat.reduceSub, Nat.reduceAdd, Bool.false_eq_true, List.map, PL.eq_int, PL.ne_int, PL.eq_bl,  if_true, if_false, ite_true, ite_false, String.reduceBEq, decide_true, decide_false, Bool.not_true, Bool.not_false, Bool.true_and, Bool.false_and, Bool.and_true, Bool.and_false, Bool.true_or, Bool.false_or, Bool.or_true, Bool.or_false, decide_not, Bool.not_eq_true, Bool.not_not, reduceCtorEq, ne_eq, not_true_eq_false, not_false_eq_true, eq_self, beq_self_eq_true, bne_self_eq_false, and_true, true_and, and_self, hl, hs, h1, h2, hx, h0, notin_letters, hc]
      | true =>
        cases ha : cs.all (fun x => lett x || dgt x) <;> simp only [List.all_cons, hc, ha, String.reduceBEq, decide_true, decide_false, Bool.not_true, Bool.not_false, Bool.true_and, Bool.false_and, Bool.and_true, Bool.and_false, Bool.true_or, Bool.false_or, Bool.or_true, Bool.or_false, decide_not, Bool.not_eq_true, Bool.not_not, reduceCtorEq, ne_eq, not_true_eq_false, not_false_eq_true, eq_self, beq_self_eq_true, bne_self_eq_false, and_true, true_and, and_self, if_true, if_false] at nl <;> simp only [PL.runF, PL.runO, PL.start0, PL.sSeq, PL.sNext, PL.sSet, PL.sSetO, PL.sDrop, PL.sRet, PL.sRetO, PL.sRetV, PL.sRetN, PL.sIf, PL.sBrk, PL.sCont, PL.sFrz, PL.sFor, PL.sAsg, PL.sRaise, PL.sTry, PL.tryO, PL.unset, PL.xRet, PL.fldX, PL.ofR_ok, PL.ofR_exc, PL.eC, PL.eVar, PL.bin, PL.una, PL.aNil, PL.aCons, PL.app, PL.appO, PL.own, PL.tru, PL.ifE, PL.andB, PL.orB, PL.notB, PL.gd, PL.bOf, PL.truD, PL.tst, PL.andV, PL.orV, PL.notV, PL.callE, PL.callO, PL.rvD, PL.rvO, PL.bind_ok, PL.bind_exc, PL.bind_stuck, PL.addD, PL.subD, PL.mulD, PL.modD, PL.fdivD, PL.powD, PL.ltD, PL.leD, PL.gtD, PL.geD, PL.isD, PL.isNotD, PL.isNonD, PL.ixD, PL.sliceD, PL.sliceE, PL.pN, PL.pS, PL.lenL, PL.absL, PL.intL, PL.max2L, PL.min2L, PL.listL, PL.tupleL, PL.isiD, PL.isiB, PL.tyD, PL.itE, PL.seqOf, PL.gN, PL.gT, PL.setAll, PL.lp_next, PL.lp_ret, PL.lp_exc, PL.for_nil, PL.for_cons, PL.atI_0, PL.atI_1, PL.atI_2, PL.atI_3, PL.tupD, PL.lstD, PL.owL, PL.setL, PL.sApp, PL.sPop, PL.sPopAt, PL.popAt, PL.sPut, PL.putAt, PL.ixO, PL.borE, PL.borT, PL.borO, PL.binO, PL.catO, PL.repO, PL.cutO, PL.sliceO, PL.lcE, PL.yesB, PL.mkBV, PL.mkTM, PL.mkBT, PL.negD, List.map_cons, List.map_nil, List.length_cons, List.length_nil, List.getElem?_cons_zero, List.getElem?_cons_succ, List.set_cons_zero, List.set_cons_succ, List.cons_append, List.nil_append, List.replicate_succ, List.replicate_zero, List.append_nil, Nat.reduceSub, Nat.reduceAdd, Bool.false_eq_true, List.map, PL.eq_int, PL.ne_int, PL.eq_bl,  if_true, if_false, ite_true, ite_false, String.reduceBEq, decide_true, decide_false, Bool.not_true, Bool.not_false, Bool.true_and, Bool.false_and, Bool.and_true, Bool.and_false, Bool.true_or, Bool.false_or, Bool.or_true, Bool.or_false, decide_not, Bool.not_eq_true, Bool.not_not, reduceCtorEq, ne_eq, not_true_eq_false, not_false_eq_true, eq_self, beq_self_eq_true, bne_self_eq_false, and_true, true_and, and_self, hl, hs, h1, h2, hx, h0, notin_letters, hc, nl]
theorem time_int (i : Int) : m_is_time [.int i] = bv (decide (0 ≤ i) && decide (i ≤ 1000000)) := by
  unfold m_is_time b_is_time
  simp only [PL.runF, PL.runO, PL.start0, PL.sSeq, PL.sNext, PL.sSet, PL.sSetO, PL.sDrop, PL.sRet, PL.sRetO, PL.sRetV, PL.sRetN, PL.sIf, PL.sBrk, PL.sCont, PL.sFrz, PL.sFor, PL.sAsg, PL.sRaise, PL.sTry, PL.tryO, PL.unset, PL.xRet, PL.fldX, PL.ofR_ok, PL.ofR_exc, PL.eC, PL.eVar, PL.bin, PL.una, PL.aNil, PL.aCons, PL.app, PL.appO, PL.own, PL.tru, PL.ifE, PL.andB, PL.orB, PL.notB, PL.gd, PL.bOf, PL.truD, PL.tst, PL.andV, PL.orV, PL.notV, PL.callE, PL.callO, PL.rvD, PL.rvO, PL.bind_ok, PL.bind_exc, PL.bind_stuck, PL.addD, PL.subD, PL.mulD, PL.modD, PL.fdivD, PL.powD, PL.ltD, PL.leD, PL.gtD, PL.geD, PL.isD, PL.isNotD, PL.isNonD, PL.ixD, PL.sliceD, PL.sliceE, PL.pN, PL.pS, PL.lenL, PL.absL, PL.intL, PL.max2L, PL.min2L, PL.listL, PL.tupleL, PL.isiD, PL.isiB, PL.tyD, PL.itE, PL.seqOf, PL.gN, PL.gT, PL.setAll, PL.lp_next, PL.lp_ret, PL.lp_exc, PL.for_nil, PL.for_cons, PL.atI_0, PL.atI_1, PL.atI_2, PL.atI_3, PL.tupD, PL.lstD, PL.owL, PL.setL, PL.sApp, PL.sPop, PL.sPopAt, PL.popAt, PL.sPut, PL.putAt, PL.ixO, PL.borE, PL.borT, PL.borO, PL.binO, PL.catO, PL.repO, PL.cutO, PL.sliceO, PL.lcE, PL.yesB, PL.mkBV, PL.mkTM, PL.mkBT, PL.negD, List.map_cons, List.map_nil, List.length_cons, List.length_nil, List.getElem?_cons_zero, List.getElem?_cons_succ, List.set_cons_zero, List.set_cons_succ, List.cons_append, List.nil_append, List.replicate_succ, List.replicate_zero, List.append_nil, Nat.reduceSub, Nat.reduceAdd, Bool.false_eq_true, List.map, PL.eq_int, PL.ne_int, PL.eq_bl,  if_true, if_false, ite_true, ite_false, in_range_int]
theorem time_not (d : D) (h : m_is_integer [d] = no) : m_is_time [d] = no := by
  unfold m_is_time b_is_time
  simp only [PL.runF, PL.runO, PL.start0, PL.sSeq, PL.sNext, PL.sSet, PL.sSetO, PL.sDrop, PL.sRet, PL.sRetO, PL.sRetV, PL.sRetN, PL.sIf, PL.sBrk, PL.sCont, PL.sFrz, PL.sFor, PL.sAsg, PL.sRaise, PL.sTry, PL.tryO, PL.unset, PL.xRet, PL.fldX, PL.ofR_ok, PL.ofR_exc, PL.eC, PL.eVar, PL.bin, PL.una, PL.aNil, PL.aCons, PL.app, PL.appO, PL.own, PL.tru, PL.ifE, PL.andB, PL.orB, PL.notB, PL.gd, PL.bOf, PL.truD, PL.tst, PL.andV, PL.orV, PL.notV, PL.callE, PL.callO, PL.rvD, PL.rvO, PL.bind_ok, PL.bind_exc, PL.bind_stuck, PL.addD, PL.subD, PL.mulD, PL.modD, PL.fdivD, PL.powD, PL.ltD, PL.leD, PL.gtD, PL.geD, PL.isD, PL.isNotD, PL.isNonD, PL.ixD, PL.sliceD, PL.sliceE, PL.pN, PL.pS, PL.lenL, PL.absL, PL.intL, PL.max2L, PL.min2L, PL.listL, PL.tupleL, PL.isiD, PL.isiB, PL.tyD, PL.itE, PL.seqOf, PL.gN, PL.gT, PL.setAll, PL.lp_next, PL.lp_ret, PL.lp_exc, PL.for_nil, PL.for_cons, PL.atI_0, PL.atI_1, PL.atI_2, PL.atI_3, PL.tupD, PL.lstD, PL.owL, PL.setL, PL.sApp, PL.sPop, PL.sPopAt, PL.popAt, PL.sPut, PL.putAt, PL.ixO, PL.borE, PL.borT, PL.borO, PL.binO, PL.catO, PL.repO, PL.cutO, PL.sliceO, PL.lcE, PL.yesB, PL.mkBV, PL.mkTM, PL.mkBT, PL.negD, List.map_cons, List.map_nil, List.length_cons, List.length_nil, List.getElem?_cons_zero, List.getElem?_cons_succ, List.set_cons_zero, List.set_cons_succ, List.cons_append, List.nil_append, List.replicate_succ, List.replicate_zero, List.append_nil, Nat.reduceSub, Nat.reduceAdd, Bool.false_eq_true, List.map, PL.eq_int, PL.ne_int, PL.eq_bl,  if_true, if_false, ite_true, ite_false, in_range_not d _ _ h]
theorem op_gen {t b n x : D} {a1 a2 a3 a4 : Bool} (h1 : m_is_time [t] = bv a1) (h2 : m_in_range [b, .int 0, .int 29] = bv a2) (h3 : m_is_name [n] = bv a3) (h4 : inD x (.tup [.str "in", .str "out"]) = .ok (.bl a4)) :
    m_is_opening [.tup [t, b, n, x]] = bv (a1 && (a2 && (a3 && a4))) := by
  unfold m_is_opening b_is_opening
  cases a1 <;> cases a2 <;> cases a3 <;> simp [PL.runF, PL.runO, PL.start0, PL.sSeq, PL.sNext, PL.sSet, PL.sSetO, PL.sDrop, PL.sRet, PL.sRetO, PL.sRetV, PL.sRetN, PL.sIf, PL.sBrk, PL.sCont, PL.sFrz, PL.sFor, PL.sAsg, PL.sRaise, PL.sTry, PL.tryO, PL.unset, PL.xRet, PL.fldX, PL.ofR_ok, PL.ofR_exc, PL.eC, PL.eVar, PL.bin, PL.una, PL.aNil, PL.aCons, PL.app, PL.appO, PL.own, PL.tru, PL.ifE, PL.andB, PL.orB, PL.notB, PL.gd, PL.bOf, PL.truD, PL.tst, PL.andV, PL.orV, PL.notV, PL.callE, PL.callO, PL.rvD, PL.rvO, PL.bind_ok, PL.bind_exc, PL.bind_stuck, PL.addD, PL.subD, PL.mulD, PL.modD, PL.fdivD, PL.powD, PL.ltD, PL.leD, PL.gtD, PL.geD, PL.isD, PL.isNotD, PL.isNonD, PL.ixD, PL.sliceD, PL.sliceE, PL.pN, PL.pS, PL.lenL, PL.absL, PL.intL, PL.max2L, PL.min2L, PL.listL, PL.tupleL, PL.isiD, PL.isiB, PL.tyD, PL.itE, PL.seqOf, PL.gN, PL.gT, PL.setAll, PL.lp_next, PL.lp_ret, PL.lp_exc, PL.for_nil, PL.for_cons, PL.atI_0, PL.atI_1, PL.atI_2, PL.atI_3, PL.tupD, PL.lstD, PL.owL, PL.setL, PL.sApp, PL.sPop, PL.sPopAt, PL.popAt, PL.sPut, PL.putAt, PL.ixO, PL.borE, PL.borT, PL.borO, PL.binO, PL.catO, PL.repO, PL.cutO, PL.sliceO, PL.lcE, PL.yesB, PL.mkBV, PL.mkTM, PL.mkBT, PL.negD, List.map_cons, List.map_nil, List.length_cons, List.length_nil, List.getElem?_cons_zero, List.getElem?_cons_succ, List.set_cons_zero, List.set_cons_succ, List.cons_append, List.nil_append, List.replicate_succ, List.replicate_zero, List.append_nil, Nat.reduceSub, Nat.reduceAdd, Bool.false_eq_true, List.map, PL.eq_int, PL.ne_int, PL.eq_bl,  if_true, if_false, ite_true, ite_false, String.reduceBEq, decide_true, decide_false, Bool.not_true, Bool.not_false, Bool.true_and, Bool.false_and, Bool.and_true, Bool.and_false, Bool.true_or, Bool.false_or, Bool.or_true, Bool.or_false, decide_not, Bool.not_eq_true, Bool.not_not, reduceCtorEq, ne_eq, not_true_eq_false, not_false_eq_true, eq_self, beq_self_eq_true, bne_self_eq_false, and_true, true_and, and_self, h1, h2, h3, h4]
theorem op_tup {xs : List D} (h : xs.length ≠ 4) : m_is_opening [.tup xs] = no := by
  unfold m_is_opening b_is_opening
  have h2 : ¬ (xs.length : Int) = 4 := by omega
  simp only [PL.runF, PL.runO, PL.start0, PL.sSeq, PL.sNext, PL.sSet, PL.sSetO, PL.sDrop, PL.sRet, PL.sRetO, PL.sRetV, PL.sRetN, PL.sIf, PL.sBrk, PL.sCont, PL.sFrz, PL.sFor, PL.sAsg, PL.sRaise, PL.sTry, PL.tryO, PL.unset, PL.xRet, PL.fldX, PL.ofR_ok, PL.ofR_exc, PL.eC, PL.eVar, PL.bin, PL.una, PL.aNil, PL.aCons, PL.app, PL.appO, PL.own, PL.tru, PL.ifE, PL.andB, PL.orB, PL.notB, PL.gd, PL.bOf, PL.truD, PL.tst, PL.andV, PL.orV, PL.notV, PL.callE, PL.callO, PL.rvD, PL.rvO, PL.bind_ok, PL.bind_exc, PL.bind_stuck, PL.addD, PL.subD, PL.mulD, PL.modD, PL.fdivD, PL.powD, PL.ltD, PL.leD, PL.gtD, PL.geD, PL.isD, PL.isNotD, PL.isNonD, PL.ixD, PL.sliceD, PL.sliceE, PL.pN, PL.pS, PL.lenL, PL.absL, PL.intL, PL.max2L, PL.min2L, PL.listL, PL.tupleL, PL.isiD, PL.isiB, PL.tyD, PL.itE, PL.seqOf, PL.gN, PL.gT, PL.setAll, PL.lp_next, PL.lp_ret, PL.lp_exc, PL.for_nil, PL.for_cons, PL.atI_0, PL.atI_1, PL.atI_2, PL.atI_3, PL.tupD, PL.lstD, PL.owL, PL.setL, PL.sApp, PL.sPop, PL.sPopAt, PL.popAt, PL.sPut, PL.putAt, PL.ixO, PL.borE, PL.borT, PL.borO, PL.binO, PL.catO, PL.repO, PL.cutO, PL.sliceO, PL.lcE, PL.yesB, PL.mkBV, PL.mkTM, PL.mkBT, PL.negD, List.map_cons, List.map_nil, List.length_cons, List.length_nil, List.getElem?_cons_zero, List.getElem?_cons_succ, List.set_cons_zero, List.set_cons_succ, List.cons_append, List.nil_append, List.replicate_succ, List.replicate_zero, List.append_nil, Nat.reduceSub, Nat.reduceAdd, Bool.false_eq_true, List.map, PL.eq_int, PL.ne_int, PL.eq_bl,  if_true, if_false, ite_true, ite_false, String.reduceBEq, decide_true, decide_false, Bool.not_true, Bool.not_false, Bool.true_and, Bool.false_and, Bool.and_true, Bool.and_false, Bool.true_or, Bool.false_or, Bool.or_true, Bool.or_false, decide_not, Bool.not_eq_true, Bool.not_not, reduceCtorEq, ne_eq, not_true_eq_false, not_false_eq_true, eq_self, beq_self_eq_true, bne_self_eq_false, and_true, true_and, and_self, h2]
theorem op_not {d : D} (h : isiB (tyD d) "tuple" = false) : m_is_opening [d] = no := by
  cases d <;> first | rfl | (cases h; done)
structure Row where
  t : Int
  b : Int
  p : List Nat
  w : Bool
def way (w : Bool) : Str := if w then "in" else "out"
def Row.d (r : Row) : D := .tup [.int r.t, .int r.b, .str (nm r.p), .str (way r.w)]
def Row.ok (r : Row) : Prop := 0 ≤ r.t ∧ r.t ≤ 1000000 ∧ 0 ≤ r.b ∧ r.b ≤ 29 ∧ nmOk r.p = true
theorem way_in (w : Bool) : inD (.str (way w)) (.tup [.str "in", .str "out"]) = .ok (.bl true) := by cases w <;> rfl
/-! ## doors' checks -/
/-! ## _law_same of a thing and itself -/
theorem row_time {r : Row} (h : r.ok) : m_is_time [.int r.t] = yes := by rw [time_int, decide_eq_true h.1, decide_eq_true h.2.1]; rfl
theorem row_box {r : Row} (h : r.ok) : m_in_range [.int r.b, .int 0, .int 29] = yes := by rw [in_range_int, decide_eq_true h.2.2.1, decide_eq_true h.2.2.2.1]; rfl
theorem row_name {r : Row} (h : r.ok) : m_is_name [.str (nm r.p)] = yes := by rw [is_name_str _ (by have := nm_len h.2.2.2.2; omega), h.2.2.2.2]
theorem op_row {r : Row} (h : r.ok) : m_is_opening [r.d] = yes := op_gen (row_time h) (row_box h) (row_name h) (way_in _)
theorem rows_loop {v : D} : ∀ (rs : List Row) (o : Sl), (∀ r ∈ rs, r.ok) → ∃ o', forL (gN 1) B1_need_history (rs.map Row.d) [.sh v, o] = .next [.sh v, o']
  | [], o, _ => ⟨o, rfl⟩
  | r :: rs, o, h => by
    obtain ⟨o', ih⟩ := rows_loop (v := v) rs (.sh r.d) fun x hx => h x (List.mem_cons_of_mem _ hx)
    refine ⟨o', ?_⟩
    have hb : B1_need_history [.sh v, .sh r.d] = .next [.sh v, .sh r.d] := by
      unfold B1_need_history
      simp only [PL.runF, PL.runO, PL.start0, PL.sSeq, PL.sNext, PL.sSet, PL.sSetO, PL.sDrop, PL.sRet, PL.sRetO, PL.sRetV, PL.sRetN, PL.sIf, PL.sBrk, PL.sCont, PL.sFrz, PL.sFor, PL.sAsg, PL.sRaise, PL.sTry, PL.tryO, PL.unset, PL.xRet, PL.fldX, PL.ofR_ok, PL.ofR_exc, PL.eC, PL.eVar, PL.bin, PL.una, PL.aNil, PL.aCons, PL.app, PL.appO, PL.own, PL.tru, PL.ifE, PL.andB, PL.orB, PL.notB, PL.gd, PL.bOf, PL.truD, PL.tst, PL.andV, PL.orV, PL.notV, PL.callE, PL.callO, PL.rvD, PL.rvO, PL.bind_ok, PL.bind_exc, PL.bind_stuck, PL.addD, PL.subD, PL.mulD, PL.modD, PL.fdivD, PL.powD, PL.ltD, PL.leD, PL.gtD, PL.geD, PL.isD, PL.isNotD, PL.isNonD, PL.ixD, PL.sliceD, PL.sliceE, PL.pN, PL.pS, PL.lenL, PL.absL, PL.intL, PL.max2L, PL.min2L, PL.listL, PL.tupleL, PL.isiD, PL.isiB, PL.tyD, PL.itE, PL.seqOf, PL.gN, PL.gT, PL.setAll, PL.lp_next, PL.lp_ret, PL.lp_exc, PL.for_nil, PL.for_cons, PL.atI_0, PL.atI_1, PL.atI_2, PL.atI_3, PL.tupD, PL.lstD, PL.owL, PL.setL, PL.sApp, PL.sPop, PL.sPopAt, PL.popAt, PL.sPut, PL.putAt, PL.ixO, PL.borE, PL.borT, PL.borO, PL.binO, PL.catO, PL.repO, PL.cutO, PL.sliceO, PL.lcE, PL.yesB, PL.mkBV, PL.mkTM, PL.mkBT, PL.negD, List.map_cons, List.map_nil, List.length_cons, List.length_nil, List.getElem?_cons_zero, List.getElem?_cons_succ, List.set_cons_zero, List.set_cons_succ, List.cons_append, List.nil_append, List.replicate_succ, List.replicate_zero, List.append_nil, Nat.reduceSub, Nat.reduceAdd, Bool.false_eq_true, List.map, PL.eq_int, PL.ne_int, PL.eq_bl,  if_true, if_false, ite_true, ite_false, String.reduceBEq, decide_true, decide_false, Bool.not_true, Bool.not_false, Bool.true_and, Bool.false_and, Bool.and_true, Bool.and_false, Bool.true_or, Bool.false_or, Bool.or_true, Bool.or_false, decide_not, Bool.not_eq_true, Bool.not_not, reduceCtorEq, ne_eq, not_true_eq_false, not_false_eq_true, eq_self, beq_self_eq_true, bne_self_eq_false, and_true, true_and, and_self, op_row (h r List.mem_cons_self)]
    show lpO _ (B1_need_history [.sh v, .sh r.d]) = _
    rw [hb]
    exact ih
theorem need_history_ok (rs : List Row) (h : ∀ r ∈ rs, r.ok) (hl : rs.length ≤ 60) : m_need_history [.lst (rs.map Row.d)] = .ok (.sh .non) := by
  have h1 := need_list_ok (rs.map Row.d) 60 (.str "history") (by simp; omega)
  obtain ⟨o', h2⟩ := rows_loop (v := .lst (rs.map Row.d)) rs .no h
  unfold m_need_history b_need_history
  simp only [PL.runF, PL.runO, PL.start0, PL.sSeq, PL.sNext, PL.sSet, PL.sSetO, PL.sDrop, PL.sRet, PL.sRetO, PL.sRetV, PL.sRetN, PL.sIf, PL.sBrk, PL.sCont, PL.sFrz, PL.sFor, PL.sAsg, PL.sRaise, PL.sTry, PL.tryO, PL.unset, PL.xRet, PL.fldX, PL.ofR_ok, PL.ofR_exc, PL.eC, PL.eVar, PL.bin, PL.una, PL.aNil, PL.aCons, PL.app, PL.appO, PL.own, PL.tru, PL.ifE, PL.andB, PL.orB, PL.notB, PL.gd, PL.bOf, PL.truD, PL.tst, PL.andV, PL.orV, PL.notV, PL.callE, PL.callO, PL.rvD, PL.rvO, PL.bind_ok, PL.bind_exc, PL.bind_stuck, PL.addD, PL.subD, PL.mulD, PL.modD, PL.fdivD, PL.powD, PL.ltD, PL.leD, PL.gtD, PL.geD, PL.isD, PL.isNotD, PL.isNonD, PL.ixD, PL.sliceD, PL.sliceE, PL.pN, PL.pS, PL.lenL, PL.absL, PL.intL, PL.max2L, PL.min2L, PL.listL, PL.tupleL, PL.isiD, PL.isiB, PL.tyD, PL.itE, PL.seqOf, PL.gN, PL.gT, PL.setAll, PL.lp_next, PL.lp_ret, PL.lp_exc, PL.for_nil, PL.for_cons, PL.atI_0, PL.atI_1, PL.atI_2, PL.atI_3, PL.tupD, PL.lstD, PL.owL, PL.setL, PL.sApp, PL.sPop, PL.sPopAt, PL.popAt, PL.sPut, PL.putAt, PL.ixO, PL.borE, PL.borT, PL.borO, PL.binO, PL.catO, PL.repO, PL.cutO, PL.sliceO, PL.lcE, PL.yesB, PL.mkBV, PL.mkTM, PL.mkBT, PL.negD, List.map_cons, List.map_nil, List.length_cons, List.length_nil, List.getElem?_cons_zero, List.getElem?_cons_succ, List.set_cons_zero, List.set_cons_succ, List.cons_append, List.nil_append, List.replicate_succ, List.replicate_zero, List.append_nil, Nat.reduceSub, Nat.reduceAdd, Bool.false_eq_true, List.map, PL.eq_int, PL.ne_int, PL.eq_bl,  if_true, if_false, ite_true, ite_false, h1, h2]
theorem need_history_many (xs : List D) (h : 60 < xs.length) : m_need_history [.lst xs] = .exc (.tooMany (.int 60)) := by
  have h1 := need_list_many xs 60 (.str "history") (by omega)
  unfold m_need_history b_need_history
  simp only [PL.runF, PL.runO, PL.start0, PL.sSeq, PL.sNext, PL.sSet, PL.sSetO, PL.sDrop, PL.sRet, PL.sRetO, PL.sRetV, PL.sRetN, PL.sIf, PL.sBrk, PL.sCont, PL.sFrz, PL.sFor, PL.sAsg, PL.sRaise, PL.sTry, PL.tryO, PL.unset, PL.xRet, PL.fldX, PL.ofR_ok, PL.ofR_exc, PL.eC, PL.eVar, PL.bin, PL.una, PL.aNil, PL.aCons, PL.app, PL.appO, PL.own, PL.tru, PL.ifE, PL.andB, PL.orB, PL.notB, PL.gd, PL.bOf, PL.truD, PL.tst, PL.andV, PL.orV, PL.notV, PL.callE, PL.callO, PL.rvD, PL.rvO, PL.bind_ok, PL.bind_exc, PL.bind_stuck, PL.addD, PL.subD, PL.mulD, PL.modD, PL.fdivD, PL.powD, PL.ltD, PL.leD, PL.gtD, PL.geD, PL.isD, PL.isNotD, PL.isNonD, PL.ixD, PL.sliceD, PL.sliceE, PL.pN, PL.pS, PL.lenL, PL.absL, PL.intL, PL.max2L, PL.min2L, PL.listL, PL.tupleL, PL.isiD, PL.isiB, PL.tyD, PL.itE, PL.seqOf, PL.gN, PL.gT, PL.setAll, PL.lp_next, PL.lp_ret, PL.lp_exc, PL.for_nil, PL.for_cons, PL.atI_0, PL.atI_1, PL.atI_2, PL.atI_3, PL.tupD, PL.lstD, PL.owL, PL.setL, PL.sApp, PL.sPop, PL.sPopAt, PL.popAt, PL.sPut, PL.putAt, PL.ixO, PL.borE, PL.borT, PL.borO, PL.binO, PL.catO, PL.repO, PL.cutO, PL.sliceO, PL.lcE, PL.yesB, PL.mkBV, PL.mkTM, PL.mkBT, PL.negD, List.map_cons, List.map_nil, List.length_cons, List.length_nil, List.getElem?_cons_zero, List.getElem?_cons_succ, List.set_cons_zero, List.set_cons_succ, List.cons_append, List.nil_append, List.replicate_succ, List.replicate_zero, List.append_nil, Nat.reduceSub, Nat.reduceAdd, Bool.false_eq_true, List.map, PL.eq_int, PL.ne_int, PL.eq_bl,  if_true, if_false, ite_true, ite_false, h1]
theorem need_history_no (xs : List D) : m_need_history [.tup xs] = .exc (.badValue (.str "history")) := by
  have h1 := need_list_no xs 60 (.str "history")
  unfold m_need_history b_need_history
  simp only [PL.runF, PL.runO, PL.start0, PL.sSeq, PL.sNext, PL.sSet, PL.sSetO, PL.sDrop, PL.sRet, PL.sRetO, PL.sRetV, PL.sRetN, PL.sIf, PL.sBrk, PL.sCont, PL.sFrz, PL.sFor, PL.sAsg, PL.sRaise, PL.sTry, PL.tryO, PL.unset, PL.xRet, PL.fldX, PL.ofR_ok, PL.ofR_exc, PL.eC, PL.eVar, PL.bin, PL.una, PL.aNil, PL.aCons, PL.app, PL.appO, PL.own, PL.tru, PL.ifE, PL.andB, PL.orB, PL.notB, PL.gd, PL.bOf, PL.truD, PL.tst, PL.andV, PL.orV, PL.notV, PL.callE, PL.callO, PL.rvD, PL.rvO, PL.bind_ok, PL.bind_exc, PL.bind_stuck, PL.addD, PL.subD, PL.mulD, PL.modD, PL.fdivD, PL.powD, PL.ltD, PL.leD, PL.gtD, PL.geD, PL.isD, PL.isNotD, PL.isNonD, PL.ixD, PL.sliceD, PL.sliceE, PL.pN, PL.pS, PL.lenL, PL.absL, PL.intL, PL.max2L, PL.min2L, PL.listL, PL.tupleL, PL.isiD, PL.isiB, PL.tyD, PL.itE, PL.seqOf, PL.gN, PL.gT, PL.setAll, PL.lp_next, PL.lp_ret, PL.lp_exc, PL.for_nil, PL.for_cons, PL.atI_0, PL.atI_1, PL.atI_2, PL.atI_3, PL.tupD, PL.lstD, PL.owL, PL.setL, PL.sApp, PL.sPop, PL.sPopAt, PL.popAt, PL.sPut, PL.putAt, PL.ixO, PL.borE, PL.borT, PL.borO, PL.binO, PL.catO, PL.repO, PL.cutO, PL.sliceO, PL.lcE, PL.yesB, PL.mkBV, PL.mkTM, PL.mkBT, PL.negD, List.map_cons, List.map_nil, List.length_cons, List.length_nil, List.getElem?_cons_zero, List.getElem?_cons_succ, List.set_cons_zero, List.set_cons_succ, List.cons_append, List.nil_append, List.replicate_succ, List.replicate_zero, List.append_nil, Nat.reduceSub, Nat.reduceAdd, Bool.false_eq_true, List.map, PL.eq_int, PL.ne_int, PL.eq_bl,  if_true, if_false, ite_true, ite_false, h1]
theorem bad_loop {v x : D} (hx : m_is_opening [x] = no) : ∀ (rs : List Row) (ys : List D) (o : Sl), (∀ r ∈ rs, r.ok) → ∃ ρ, forL (gN 1) B1_need_history (rs.map Row.d ++ x :: ys) [.sh v, o] = .exc (.badValue (.str "history")) ρ
  | [], ys, o, _ => by
    have hb : B1_need_history [.sh v, .sh x] = .exc (.badValue (.str "history")) [.sh v, .sh x] := by
      unfold B1_need_history
      simp only [PL.runF, PL.runO, PL.start0, PL.sSeq, PL.sNext, PL.sSet, PL.sSetO, PL.sDrop, PL.sRet, PL.sRetO, PL.sRetV, PL.sRetN, PL.sIf, PL.sBrk, PL.sCont, PL.sFrz, PL.sFor, PL.sAsg, PL.sRaise, PL.sTry, PL.tryO, PL.unset, PL.xRet, PL.fldX, PL.ofR_ok, PL.ofR_exc, PL.eC, PL.eVar, PL.bin, PL.una, PL.aNil, PL.aCons, PL.app, PL.appO, PL.own, PL.tru, PL.ifE, PL.andB, PL.orB, PL.notB, PL.gd, PL.bOf, PL.truD, PL.tst, PL.andV, PL.orV, PL.notV, PL.callE, PL.callO, PL.rvD, PL.rvO, PL.bind_ok, PL.bind_exc, PL.bind_stuck, PL.addD, PL.subD, PL.mulD, PL.modD, PL.fdivD, PL.powD, PL.ltD, PL.leD, PL.gtD, PL.geD, PL.isD, PL.isNotD, PL.isNonD, PL.ixD, PL.sliceD, PL.sliceE, PL.pN, PL.pS, PL.lenL, PL.absL, PL.intL, PL.max2L, PL.min2L, PL.listL, PL.tupleL, PL.isiD, PL.isiB, PL.tyD, PL.itE, PL.seqOf, PL.gN, PL.gT, PL.setAll, PL.lp_next, PL.lp_ret, PL.lp_exc, PL.for_nil, PL.for_cons, PL.atI_0, PL.atI_1, PL.atI_2, PL.atI_3, PL.tupD, PL.lstD, PL.owL, PL.setL, PL.sApp, PL.sPop, PL.sPopAt, PL.popAt, PL.sPut, PL.putAt, PL.ixO, PL.borE, PL.borT, PL.borO, PL.binO, PL.catO, PL.repO, PL.cutO, PL.sliceO, PL.lcE, PL.yesB, PL.mkBV, PL.mkTM, PL.mkBT, PL.negD, List.map_cons, List.map_nil, List.length_cons, List.length_nil, List.getElem?_cons_zero, List.getElem?_cons_succ, List.set_cons_zero, List.set_cons_succ, List.cons_append, List.nil_append, List.replicate_succ, List.replicate_zero, List.append_nil, Nat.reduceSub, Nat.reduceAdd, Bool.false_eq_true, List.map, PL.eq_int, PL.ne_int, PL.eq_bl,  if_true, if_false, ite_true, ite_false, String.reduceBEq, decide_true, decide_false, Bool.not_true, Bool.not_false, Bool.true_and, Bool.false_and, Bool.and_true, Bool.and_false, Bool.true_or, Bool.false_or, Bool.or_true, Bool.or_false, decide_not, Bool.not_eq_true, Bool.not_not, reduceCtorEq, ne_eq, not_true_eq_false, not_false_eq_true, eq_self, beq_self_eq_true, bne_self_eq_false, and_true, true_and, and_self, hx]
    refine ⟨[.sh v, .sh x], ?_⟩
    show lpO _ (B1_need_history [.sh v, .sh x]) = _
    rw [hb]; rfl
  | r :: rs, ys, o, h => by
    obtain ⟨ρ, ih⟩ := bad_loop (v := v) hx rs ys (.sh r.d) fun x hx => h x (List.mem_cons_of_mem _ hx)
    refine ⟨ρ, ?_⟩
    have hb : B1_need_history [.sh v, .sh r.d] = .next [.sh v, .sh r.d] := by
      unfold B1_need_history
      simp only [PL.runF, PL.runO, PL.start0, PL.sSeq, PL.sNext, PL.sSet, PL.sSetO, PL.sDrop, PL.sRet, PL.sRetO, PL.sRetV, PL.sRetN, PL.sIf, PL.sBrk, PL.sCont, PL.sFrz, PL.sFor, PL.sAsg, PL.sRaise, PL.sTry, PL.tryO, PL.unset, PL.xRet, PL.fldX, PL.ofR_ok, PL.ofR_exc, PL.eC, PL.eVar, PL.bin, PL.una, PL.aNil, PL.aCons, PL.app, PL.appO, PL.own, PL.tru, PL.ifE, PL.andB, PL.orB, PL.notB, PL.gd, PL.bOf, PL.truD, PL.tst, PL.andV, PL.orV, PL.notV, PL.callE, PL.callO, PL.rvD, PL.rvO, PL.bind_ok, PL.bind_exc, PL.bind_stuck, PL.addD, PL.subD, PL.mulD, PL.modD, PL.fdivD, PL.powD, PL.ltD, PL.leD, PL.gtD, PL.geD, PL.isD, PL.isNotD, PL.isNonD, PL.ixD, PL.sliceD, PL.sliceE, PL.pN, PL.pS, PL.lenL, PL.absL, PL.intL, PL.max2L, PL.min2L, PL.listL, PL.tupleL, PL.isiD, PL.isiB, PL.tyD, PL.itE, PL.seqOf, PL.gN, PL.gT, PL.setAll, PL.lp_next, PL.lp_ret, PL.lp_exc, PL.for_nil, PL.for_cons, PL.atI_0, PL.atI_1, PL.atI_2, PL.atI_3, PL.tupD, PL.lstD, PL.owL, PL.setL, PL.sApp, PL.sPop, PL.sPopAt, PL.popAt, PL.sPut, PL.putAt, PL.ixO, PL.borE, PL.borT, PL.borO, PL.binO, PL.catO, PL.repO, PL.cutO, PL.sliceO, PL.lcE, PL.yesB, PL.mkBV, PL.mkTM, PL.mkBT, PL.negD, List.map_cons, List.map_nil, List.length_cons, List.length_nil, List.getElem?_cons_zero, List.getElem?_cons_succ, List.set_cons_zero, List.set_cons_succ, List.cons_append, List.nil_append, List.replicate_succ, List.replicate_zero, List.append_nil, Nat.reduceSub, Nat.reduceAdd, Bool.false_eq_true, List.map, PL.eq_int, PL.ne_int, PL.eq_bl,  if_true, if_false, ite_true, ite_false, String.reduceBEq, decide_true, decide_false, Bool.not_true, Bool.not_false, Bool.true_and, Bool.false_and, Bool.and_true, Bool.and_false, Bool.true_or, Bool.false_or, Bool.or_true, Bool.or_false, decide_not, Bool.not_eq_true, Bool.not_not, reduceCtorEq, ne_eq, not_true_eq_false, not_false_eq_true, eq_self, beq_self_eq_true, bne_self_eq_false, and_true, true_and, and_self, op_row (h r List.mem_cons_self)]
    show lpO _ (B1_need_history [.sh v, .sh r.d]) = _
    rw [hb]
    exact ih
theorem need_history_bad (rs : List Row) (x : D) (ys : List D) (h : ∀ r ∈ rs, r.ok) (hx : m_is_opening [x] = no) (hl : rs.length + ys.length < 60) : m_need_history [.lst (rs.map Row.d ++ x :: ys)] = .exc (.badValue (.str "history")) := by
  have h1 := need_list_ok (rs.map Row.d ++ x :: ys) 60 (.str "history") (by simp; omega)
  obtain ⟨ρ, h2⟩ := bad_loop (v := .lst (rs.map Row.d ++ x :: ys)) hx rs ys .no h
  unfold m_need_history b_need_history
  simp only [PL.runF, PL.runO, PL.start0, PL.sSeq, PL.sNext, PL.sSet, PL.sSetO, PL.sDrop, PL.sRet, PL.sRetO, PL.sRetV, PL.sRetN, PL.sIf, PL.sBrk, PL.sCont, PL.sFrz, PL.sFor, PL.sAsg, PL.sRaise, PL.sTry, PL.tryO, PL.unset, PL.xRet, PL.fldX, PL.ofR_ok, PL.ofR_exc, PL.eC, PL.eVar, PL.bin, PL.una, PL.aNil, PL.aCons, PL.app, PL.appO, PL.own, PL.tru, PL.ifE, PL.andB, PL.orB, PL.notB, PL.gd, PL.bOf, PL.truD, PL.tst, PL.andV, PL.orV, PL.notV, PL.callE, PL.callO, PL.rvD, PL.rvO, PL.bind_ok, PL.bind_exc, PL.bind_stuck, PL.addD, PL.subD, PL.mulD, PL.modD, PL.fdivD, PL.powD, PL.ltD, PL.leD, PL.gtD, PL.geD, PL.isD, PL.isNotD, PL.isNonD, PL.ixD, PL.sliceD, PL.sliceE, PL.pN, PL.pS, PL.lenL, PL.absL, PL.intL, PL.max2L, PL.min2L, PL.listL, PL.tupleL, PL.isiD, PL.isiB, PL.tyD, PL.itE, PL.seqOf, PL.gN, PL.gT, PL.setAll, PL.lp_next, PL.lp_ret, PL.lp_exc, PL.for_nil, PL.for_cons, PL.atI_0, PL.atI_1, PL.atI_2, PL.atI_3, PL.tupD, PL.lstD, PL.owL, PL.setL, PL.sApp, PL.sPop, PL.sPopAt, PL.popAt, PL.sPut, PL.putAt, PL.ixO, PL.borE, PL.borT, PL.borO, PL.binO, PL.catO, PL.repO, PL.cutO, PL.sliceO, PL.lcE, PL.yesB, PL.mkBV, PL.mkTM, PL.mkBT, PL.negD, List.map_cons, List.map_nil, List.length_cons, List.length_nil, List.getElem?_cons_zero, List.getElem?_cons_succ, List.set_cons_zero, List.set_cons_succ, List.cons_append, List.nil_append, List.replicate_succ, List.replicate_zero, List.append_nil, Nat.reduceSub, Nat.reduceAdd, Bool.false_eq_true, List.map, PL.eq_int, PL.ne_int, PL.eq_bl,  if_true, if_false, ite_true, ite_false, h1, h2]
def Size := Int × Int × Int
def Size.d (s : Size) : D := .tup [.int s.1, .int s.2.1, .int s.2.2]
def Size.ok (s : Size) : Prop := (1 ≤ s.1 ∧ s.1 ≤ 999) ∧ (1 ≤ s.2.1 ∧ s.2.1 ≤ 999) ∧ (1 ≤ s.2.2 ∧ s.2.2 ≤ 999)
theorem size_ok {s : Size} (h : s.ok) : m_is_size [s.d] = yes := by
  have r : ∀ i : Int, 1 ≤ i ∧ i ≤ 999 → m_in_range [.int i, .int 1, .int 999] = yes := fun i hi => by rw [in_range_int, decide_eq_true hi.1, decide_eq_true hi.2]; rfl
  have hb : ∀ (i : Int) (o : Sl), 1 ≤ i ∧ i ≤ 999 → B1_is_size [.sh s.d, .sh (.int i)] = .next [.sh s.d, .sh (.int i)] := fun i o hi => by
    unfold B1_is_size
    simp only [PL.runF, PL.runO, PL.start0, PL.sSeq, PL.sNext, PL.sSet, PL.sSetO, PL.sDrop, PL.sRet, PL.sRetO, PL.sRetV, PL.sRetN, PL.sIf, PL.sBrk, PL.sCont, PL.sFrz, PL.sFor, PL.sAsg, PL.sRaise, PL.sTry, PL.tryO, PL.unset, PL.xRet, PL.fldX, PL.ofR_ok, PL.ofR_exc, PL.eC, PL.eVar, PL.bin, PL.una, PL.aNil, PL.aCons, PL.app, PL.appO, PL.own, PL.tru, PL.ifE, PL.andB, PL.orB, PL.notB, PL.gd, PL.bOf, PL.truD, PL.tst, PL.andV, PL.orV, PL.notV, PL.callE, PL.callO, PL.rvD, PL.rvO, PL.bind_ok, PL.bind_exc, PL.bind_stuck, PL.addD, PL.subD, PL.mulD, PL.modD, PL.fdivD, PL.powD, PL.ltD, PL.leD, PL.gtD, PL.geD, PL.isD, PL.isNotD, PL.isNonD, PL.ixD, PL.sliceD, PL.sliceE, PL.pN, PL.pS, PL.lenL, PL.absL, PL.intL, PL.max2L, PL.min2L, PL.listL, PL.tupleL, PL.isiD, PL.isiB, PL.tyD, PL.itE, PL.seqOf, PL.gN, PL.gT, PL.setAll, PL.lp_next, PL.lp_ret, PL.lp_exc, PL.for_nil, PL.for_cons, PL.atI_0, PL.atI_1, PL.atI_2, PL.atI_3, PL.tupD, PL.lstD, PL.owL, PL.setL, PL.sApp, PL.sPop, PL.sPopAt, PL.popAt, PL.sPut, PL.putAt, PL.ixO, PL.borE, PL.borT, PL.borO, PL.binO, PL.catO, PL.repO, PL.cutO, PL.sliceO, PL.lcE, PL.yesB, PL.mkBV, PL.mkTM, PL.mkBT, PL.negD, List.map_cons, List.map_nil, List.length_cons, List.length_nil, List.getElem?_cons_zero, List.getElem?_cons_succ, List.set_cons_zero, List.set_cons_succ, List.cons_append, List.nil_append, List.replicate_succ, List.replicate_zero, List.append_nil, Nat.reduceSub, Nat.reduceAdd, Bool.false_eq_true, List.map, PL.eq_int, PL.ne_int, PL.eq_bl,  if_true, if_false, ite_true, ite_false, String.reduceBEq, decide_true, decide_false, Bool.not_true, Bool.not_false, Bool.true_and, Bool.false_and, Bool.and_true, Bool.and_false, Bool.true_or, Bool.false_or, Bool.or_true, Bool.or_false, decide_not, Bool.not_eq_true, Bool.not_not, reduceCtorEq, ne_eq, not_true_eq_false, not_false_eq_true, eq_self, beq_self_eq_true, bne_self_eq_false, and_true, true_and, and_self, r i hi]
  have hl : forL (gN 1) B1_is_size [.int s.1, .int s.2.1, .int s.2.2] [.sh s.d, .no] = .next [.sh s.d, .sh (.int s.2.2)] := by
    show lpO (forL (gN 1) B1_is_size [.int s.2.1, .int s.2.2]) (B1_is_size [.sh s.d, .sh (.int s.1)]) = _
    rw [hb _ .no h.1]
    show lpO (forL (gN 1) B1_is_size [.int s.2.2]) (B1_is_size [.sh s.d, .sh (.int s.2.1)]) = _
    rw [hb _ .no h.2.1]
    show lpO (forL (gN 1) B1_is_size []) (B1_is_size [.sh s.d, .sh (.int s.2.2)]) = _
    rw [hb _ .no h.2.2]
    rfl
  unfold m_is_size b_is_size Size.d
  unfold Size.d at hl
  simp [PL.runF, PL.runO, PL.start0, PL.sSeq, PL.sNext, PL.sSet, PL.sSetO, PL.sDrop, PL.sRet, PL.sRetO, PL.sRetV, PL.sRetN, PL.sIf, PL.sBrk, PL.sCont, PL.sFrz, PL.sFor, PL.sAsg, PL.sRaise, PL.sTry, PL.tryO, PL.unset, PL.xRet, PL.fldX, PL.ofR_ok, PL.ofR_exc, PL.eC, PL.eVar, PL.bin, PL.una, PL.aNil, PL.aCons, PL.app, PL.appO, PL.own, PL.tru, PL.ifE, PL.andB, PL.orB, PL.notB, PL.gd, PL.bOf, PL.truD, PL.tst, PL.andV, PL.orV, PL.notV, PL.callE, PL.callO, PL.rvD, PL.rvO, PL.bind_ok, PL.bind_exc, PL.bind_stuck, PL.addD, PL.subD, PL.mulD, PL.modD, PL.fdivD, PL.powD, PL.ltD, PL.leD, PL.gtD, PL.geD, PL.isD, PL.isNotD, PL.isNonD, PL.ixD, PL.sliceD, PL.sliceE, PL.pN, PL.pS, PL.lenL, PL.absL, PL.intL, PL.max2L, PL.min2L, PL.listL, PL.tupleL, PL.isiD, PL.isiB, PL.tyD, PL.itE, PL.seqOf, PL.gN, PL.gT, PL.setAll, PL.lp_next, PL.lp_ret, PL.lp_exc, PL.for_nil, PL.for_cons, PL.atI_0, PL.atI_1, PL.atI_2, PL.atI_3, PL.tupD, PL.lstD, PL.owL, PL.setL, PL.sApp, PL.sPop, PL.sPopAt, PL.popAt, PL.sPut, PL.putAt, PL.ixO, PL.borE, PL.borT, PL.borO, PL.binO, PL.catO, PL.repO, PL.cutO, PL.sliceO, PL.lcE, PL.yesB, PL.mkBV, PL.mkTM, PL.mkBT, PL.negD, List.map_cons, List.map_nil, List.length_cons, List.length_nil, List.getElem?_cons_zero, List.getElem?_cons_succ, List.set_cons_zero, List.set_cons_succ, List.cons_append, List.nil_append, List.replicate_succ, List.replicate_zero, List.append_nil, Nat.reduceSub, Nat.reduceAdd, Bool.false_eq_true, List.map, PL.eq_int, PL.ne_int, PL.eq_bl,  if_true, if_false, ite_true, ite_false, String.reduceBEq, decide_true, decide_false, Bool.not_true, Bool.not_false, Bool.true_and, Bool.false_and, Bool.and_true, Bool.and_false, Bool.true_or, Bool.false_or, Bool.or_true, Bool.or_false, decide_not, Bool.not_eq_true, Bool.not_not, reduceCtorEq, ne_eq, not_true_eq_false, not_false_eq_true, eq_self, beq_self_eq_true, bne_self_eq_false, and_true, true_and, and_self, hl]
theorem size_bad : m_is_size [.tup [.int 1, .int 1, .int 0]] = no := rfl
theorem sizes_loop {v n z : D} : ∀ (rs : List Size) (o : Sl), (∀ r ∈ rs, r.ok) → ∃ o', forL (gN 3) B1_need_sizes (rs.map Size.d) [.sh v, .sh n, .sh z, o] = .next [.sh v, .sh n, .sh z, o']
  | [], o, _ => ⟨o, rfl⟩
  | r :: rs, o, h => by
    obtain ⟨o', ih⟩ := sizes_loop (v := v) (n := n) (z := z) rs (.sh r.d) fun x hx => h x (List.mem_cons_of_mem _ hx)
    refine ⟨o', ?_⟩
    have hb : B1_need_sizes [.sh v, .sh n, .sh z, .sh r.d] = .next [.sh v, .sh n, .sh z, .sh r.d] := by
      unfold B1_need_sizes
      simp only [PL.runF, PL.runO, PL.start0, PL.sSeq, PL.sNext, PL.sSet, PL.sSetO, PL.sDrop, PL.sRet, PL.sRetO, PL.sRetV, PL.sRetN, PL.sIf, PL.sBrk, PL.sCont, PL.sFrz, PL.sFor, PL.sAsg, PL.sRaise, PL.sTry, PL.tryO, PL.unset, PL.xRet, PL.fldX, PL.ofR_ok, PL.ofR_exc, PL.eC, PL.eVar, PL.bin, PL.una, PL.aNil, PL.aCons, PL.app, PL.appO, PL.own, PL.tru, PL.ifE, PL.andB, PL.orB, PL.notB, PL.gd, PL.bOf, PL.truD, PL.tst, PL.andV, PL.orV, PL.notV, PL.callE, PL.callO, PL.rvD, PL.rvO, PL.bind_ok, PL.bind_exc, PL.bind_stuck, PL.addD, PL.subD, PL.mulD, PL.modD, PL.fdivD, PL.powD, PL.ltD, PL.leD, PL.gtD, PL.geD, PL.isD, PL.isNotD, PL.isNonD, PL.ixD, PL.sliceD, PL.sliceE, PL.pN, PL.pS, PL.lenL, PL.absL, PL.intL, PL.max2L, PL.min2L, PL.listL, PL.tupleL, PL.isiD, PL.isiB, PL.tyD, PL.itE, PL.seqOf, PL.gN, PL.gT, PL.setAll, PL.lp_next, PL.lp_ret, PL.lp_exc, PL.for_nil, PL.for_cons, PL.atI_0, PL.atI_1, PL.atI_2, PL.atI_3, PL.tupD, PL.lstD, PL.owL, PL.setL, PL.sApp, PL.sPop, PL.sPopAt, PL.popAt, PL.sPut, PL.putAt, PL.ixO, PL.borE, PL.borT, PL.borO, PL.binO, PL.catO, PL.repO, PL.cutO, PL.sliceO, PL.lcE, PL.yesB, PL.mkBV, PL.mkTM, PL.mkBT, PL.negD, List.map_cons, List.map_nil, List.length_cons, List.length_nil, List.getElem?_cons_zero, List.getElem?_cons_succ, List.set_cons_zero, List.set_cons_succ, List.cons_append, List.nil_append, List.replicate_succ, List.replicate_zero, List.append_nil, Nat.reduceSub, Nat.reduceAdd, Bool.false_eq_true, List.map, PL.eq_int, PL.ne_int, PL.eq_bl,  if_true, if_false, ite_true, ite_false, String.reduceBEq, decide_true, decide_false, Bool.not_true, Bool.not_false, Bool.true_and, Bool.false_and, Bool.and_true, Bool.and_false, Bool.true_or, Bool.false_or, Bool.or_true, Bool.or_false, decide_not, Bool.not_eq_true, Bool.not_not, reduceCtorEq, ne_eq, not_true_eq_false, not_false_eq_true, eq_self, beq_self_eq_true, bne_self_eq_false, and_true, true_and, and_self, size_ok (h r List.mem_cons_self)]
    show lpO _ (B1_need_sizes [.sh v, .sh n, .sh z, .sh r.d]) = _
    rw [hb]
    exact ih
theorem sizes_bad {v n z x : D} (hx : m_is_size [x] = no) : ∀ (rs : List Size) (ys : List D) (o : Sl), (∀ r ∈ rs, r.ok) → ∃ ρ, forL (gN 3) B1_need_sizes (rs.map Size.d ++ x :: ys) [.sh v, .sh n, .sh z, o] = .exc (.badValue z) ρ
  | [], ys, o, _ => by
    have hb : B1_need_sizes [.sh v, .sh n, .sh z, .sh x] = .exc (.badValue z) [.sh v, .sh n, .sh z, .sh x] := by
      unfold B1_need_sizes
      simp only [PL.runF, PL.runO, PL.start0, PL.sSeq, PL.sNext, PL.sSet, PL.sSetO, PL.sDrop, PL.sRet, PL.sRetO, PL.sRetV, PL.sRetN, PL.sIf, PL.sBrk, PL.sCont, PL.sFrz, PL.sFor, PL.sAsg, PL.sRaise, PL.sTry, PL.tryO, PL.unset, PL.xRet, PL.fldX, PL.ofR_ok, PL.ofR_exc, PL.eC, PL.eVar, PL.bin, PL.una, PL.aNil, PL.aCons, PL.app, PL.appO, PL.own, PL.tru, PL.ifE, PL.andB, PL.orB, PL.notB, PL.gd, PL.bOf, PL.truD, PL.tst, PL.andV, PL.orV, PL.notV, PL.callE, PL.callO, PL.rvD, PL.rvO, PL.bind_ok, PL.bind_exc, PL.bind_stuck, PL.addD, PL.subD, PL.mulD, PL.modD, PL.fdivD, PL.powD, PL.ltD, PL.leD, PL.gtD, PL.geD, PL.isD, PL.isNotD, PL.isNonD, PL.ixD, PL.sliceD, PL.sliceE, PL.pN, PL.pS, PL.lenL, PL.absL, PL.intL, PL.max2L, PL.min2L, PL.listL, PL.tupleL, PL.isiD, PL.isiB, PL.tyD, PL.itE, PL.seqOf, PL.gN, PL.gT, PL.setAll, PL.lp_next, PL.lp_ret, PL.lp_exc, PL.for_nil, PL.for_cons, PL.atI_0, PL.atI_1, PL.atI_2, PL.atI_3, PL.tupD, PL.lstD, PL.owL, PL.setL, PL.sApp, PL.sPop, PL.sPopAt, PL.popAt, PL.sPut, PL.putAt, PL.ixO, PL.borE, PL.borT, PL.borO, PL.binO, PL.catO, PL.repO, PL.cutO, PL.sliceO, PL.lcE, PL.yesB, PL.mkBV, PL.mkTM, PL.mkBT, PL.negD, List.map_cons, List.map_nil, List.length_cons, List.length_nil, List.getElem?_cons_zero, List.getElem?_cons_succ, List.set_cons_zero, List.set_cons_succ, List.cons_append, List.nil_append, List.replicate_succ, List.replicate_zero, List.append_nil, Nat.reduceSub, Nat.reduceAdd, Bool.false_eq_true, List.map, PL.eq_int, PL.ne_int, PL.eq_bl,  if_true, if_false, ite_true, ite_false, String.reduceBEq, decide_true, decide_false, Bool.not_true, Bool.not_false, Bool.true_and, Bool.false_and, Bool.and_true, Bool.and_false, Bool.true_or, Bool.false_or, Bool.or_true, Bool.or_false, decide_not, Bool.not_eq_true, Bool.not_not, reduceCtorEq, ne_eq, not_true_eq_false, not_false_eq_true, eq_self, beq_self_eq_true, bne_self_eq_false, and_true, true_and, and_self, hx]
    refine ⟨[.sh v, .sh n, .sh z, .sh x], ?_⟩
    show lpO _ (B1_need_sizes [.sh v, .sh n, .sh z, .sh x]) = _
    rw [hb]; rfl
  | r :: rs, ys, o, h => by
    obtain ⟨ρ, ih⟩ := sizes_bad (v := v) (n := n) (z := z) hx rs ys (.sh r.d) fun x hx => h x (List.mem_cons_of_mem _ hx)
    refine ⟨ρ, ?_⟩
    have hb : B1_need_sizes [.sh v, .sh n, .sh z, .sh r.d] = .next [.sh v, .sh n, .sh z, .sh r.d] := by
      unfold B1_need_sizes
      simp only [PL.runF, PL.runO, PL.start0, PL.sSeq, PL.sNext, PL.sSet, PL.sSetO, PL.sDrop, PL.sRet, PL.sRetO, PL.sRetV, PL.sRetN, PL.sIf, PL.sBrk, PL.sCont, PL.sFrz, PL.sFor, PL.sAsg, PL.sRaise, PL.sTry, PL.tryO, PL.unset, PL.xRet, PL.fldX, PL.ofR_ok, PL.ofR_exc, PL.eC, PL.eVar, PL.bin, PL.una, PL.aNil, PL.aCons, PL.app, PL.appO, PL.own, PL.tru, PL.ifE, PL.andB, PL.orB, PL.notB, PL.gd, PL.bOf, PL.truD, PL.tst, PL.andV, PL.orV, PL.notV, PL.callE, PL.callO, PL.rvD, PL.rvO, PL.bind_ok, PL.bind_exc, PL.bind_stuck, PL.addD, PL.subD, PL.mulD, PL.modD, PL.fdivD, PL.powD, PL.ltD, PL.leD, PL.gtD, PL.geD, PL.isD, PL.isNotD, PL.isNonD, PL.ixD, PL.sliceD, PL.sliceE, PL.pN, PL.pS, PL.lenL, PL.absL, PL.intL, PL.max2L, PL.min2L, PL.listL, PL.tupleL, PL.isiD, PL.isiB, PL.tyD, PL.itE, PL.seqOf, PL.gN, PL.gT, PL.setAll, PL.lp_next, PL.lp_ret, PL.lp_exc, PL.for_nil, PL.for_cons, PL.atI_0, PL.atI_1, PL.atI_2, PL.atI_3, PL.tupD, PL.lstD, PL.owL, PL.setL, PL.sApp, PL.sPop, PL.sPopAt, PL.popAt, PL.sPut, PL.putAt, PL.ixO, PL.borE, PL.borT, PL.borO, PL.binO, PL.catO, PL.repO, PL.cutO, PL.sliceO, PL.lcE, PL.yesB, PL.mkBV, PL.mkTM, PL.mkBT, PL.negD, List.map_cons, List.map_nil, List.length_cons, List.length_nil, List.getElem?_cons_zero, List.getElem?_cons_succ, List.set_cons_zero, List.set_cons_succ, List.cons_append, List.nil_append, List.replicate_succ, List.replicate_zero, List.append_nil, Nat.reduceSub, Nat.reduceAdd, Bool.false_eq_true, List.map, PL.eq_int, PL.ne_int, PL.eq_bl,  if_true, if_false, ite_true, ite_false, String.reduceBEq, decide_true, decide_false, Bool.not_true, Bool.not_false, Bool.true_and, Bool.false_and, Bool.and_true, Bool.and_false, Bool.true_or, Bool.false_or, Bool.or_true, Bool.or_false, decide_not, Bool.not_eq_true, Bool.not_not, reduceCtorEq, ne_eq, not_true_eq_false, not_false_eq_true, eq_self, beq_self_eq_true, bne_self_eq_false, and_true, true_and, and_self, size_ok (h r List.mem_cons_self)]
    show lpO _ (B1_need_sizes [.sh v, .sh n, .sh z, .sh r.d]) = _
    rw [hb]
    exact ih
theorem bank_ok (rs : List Size) (h : ∀ r ∈ rs, r.ok) (hl : rs.length ≤ 30) : m_need_bank [.lst (rs.map Size.d)] = .ok (.sh .non) := by
  have h1 := need_list_ok (rs.map Size.d) 30 (.str "bank") (by simp; omega)
  obtain ⟨o', h2⟩ := sizes_loop (v := .lst (rs.map Size.d)) (n := .int 30) (z := .str "bank") rs .no h
  have h3 : m_need_sizes [.lst (rs.map Size.d), .int 30, .str "bank"] = .ok (.sh .non) := by
    unfold m_need_sizes b_need_sizes
    simp only [PL.runF, PL.runO, PL.start0, PL.sSeq, PL.sNext, PL.sSet, PL.sSetO, PL.sDrop, PL.sRet, PL.sRetO, PL.sRetV, PL.sRetN, PL.sIf, PL.sBrk, PL.sCont, PL.sFrz, PL.sFor, PL.sAsg, PL.sRaise, PL.sTry, PL.tryO, PL.unset, PL.xRet, PL.fldX, PL.ofR_ok, PL.ofR_exc, PL.eC, PL.eVar, PL.bin, PL.una, PL.aNil, PL.aCons, PL.app, PL.appO, PL.own, PL.tru, PL.ifE, PL.andB, PL.orB, PL.notB, PL.gd, PL.bOf, PL.truD, PL.tst, PL.andV, PL.orV, PL.notV, PL.callE, PL.callO, PL.rvD, PL.rvO, PL.bind_ok, PL.bind_exc, PL.bind_stuck, PL.addD, PL.subD, PL.mulD, PL.modD, PL.fdivD, PL.powD, PL.ltD, PL.leD, PL.gtD, PL.geD, PL.isD, PL.isNotD, PL.isNonD, PL.ixD, PL.sliceD, PL.sliceE, PL.pN, PL.pS, PL.lenL, PL.absL, PL.intL, PL.max2L, PL.min2L, PL.listL, PL.tupleL, PL.isiD, PL.isiB, PL.tyD, PL.itE, PL.seqOf, PL.gN, PL.gT, PL.setAll, PL.lp_next, PL.lp_ret, PL.lp_exc, PL.for_nil, PL.for_cons, PL.atI_0, PL.atI_1, PL.atI_2, PL.atI_3, PL.tupD, PL.lstD, PL.owL, PL.setL, PL.sApp, PL.sPop, PL.sPopAt, PL.popAt, PL.sPut, PL.putAt, PL.ixO, PL.borE, PL.borT, PL.borO, PL.binO, PL.catO, PL.repO, PL.cutO, PL.sliceO, PL.lcE, PL.yesB, PL.mkBV, PL.mkTM, PL.mkBT, PL.negD, List.map_cons, List.map_nil, List.length_cons, List.length_nil, List.getElem?_cons_zero, List.getElem?_cons_succ, List.set_cons_zero, List.set_cons_succ, List.cons_append, List.nil_append, List.replicate_succ, List.replicate_zero, List.append_nil, Nat.reduceSub, Nat.reduceAdd, Bool.false_eq_true, List.map, PL.eq_int, PL.ne_int, PL.eq_bl,  if_true, if_false, ite_true, ite_false, h1, h2]
  unfold m_need_bank b_need_bank
  simp only [PL.runF, PL.runO, PL.start0, PL.sSeq, PL.sNext, PL.sSet, PL.sSetO, PL.sDrop, PL.sRet, PL.sRetO, PL.sRetV, PL.sRetN, PL.sIf, PL.sBrk, PL.sCont, PL.sFrz, PL.sFor, PL.sAsg, PL.sRaise, PL.sTry, PL.tryO, PL.unset, PL.xRet, PL.fldX, PL.ofR_ok, PL.ofR_exc, PL.eC, PL.eVar, PL.bin, PL.una, PL.aNil, PL.aCons, PL.app, PL.appO, PL.own, PL.tru, PL.ifE, PL.andB, PL.orB, PL.notB, PL.gd, PL.bOf, PL.truD, PL.tst, PL.andV, PL.orV, PL.notV, PL.callE, PL.callO, PL.rvD, PL.rvO, PL.bind_ok, PL.bind_exc, PL.bind_stuck, PL.addD, PL.subD, PL.mulD, PL.modD, PL.fdivD, PL.powD, PL.ltD, PL.leD, PL.gtD, PL.geD, PL.isD, PL.isNotD, PL.isNonD, PL.ixD, PL.sliceD, PL.sliceE, PL.pN, PL.pS, PL.lenL, PL.absL, PL.intL, PL.max2L, PL.min2L, PL.listL, PL.tupleL, PL.isiD, PL.isiB, PL.tyD, PL.itE, PL.seqOf, PL.gN, PL.gT, PL.setAll, PL.lp_next, PL.lp_ret, PL.lp_exc, PL.for_nil, PL.for_cons, PL.atI_0, PL.atI_1, PL.atI_2, PL.atI_3, PL.tupD, PL.lstD, PL.owL, PL.setL, PL.sApp, PL.sPop, PL.sPopAt, PL.popAt, PL.sPut, PL.putAt, PL.ixO, PL.borE, PL.borT, PL.borO, PL.binO, PL.catO, PL.repO, PL.cutO, PL.sliceO, PL.lcE, PL.yesB, PL.mkBV, PL.mkTM, PL.mkBT, PL.negD, List.map_cons, List.map_nil, List.length_cons, List.length_nil, List.getElem?_cons_zero, List.getElem?_cons_succ, List.set_cons_zero, List.set_cons_succ, List.cons_append, List.nil_append, List.replicate_succ, List.replicate_zero, List.append_nil, Nat.reduceSub, Nat.reduceAdd, Bool.false_eq_true, List.map, PL.eq_int, PL.ne_int, PL.eq_bl,  if_true, if_false, ite_true, ite_false, h3]
theorem bank_many (xs : List D) (h : 30 < xs.length) : m_need_bank [.lst xs] = .exc (.tooMany (.int 30)) := by
  have h1 := need_list_many xs 30 (.str "bank") (by omega)
  have h3 : m_need_sizes [.lst xs, .int 30, .str "bank"] = .exc (.tooMany (.int 30)) := by
    unfold m_need_sizes b_need_sizes
    simp only [PL.runF, PL.runO, PL.start0, PL.sSeq, PL.sNext, PL.sSet, PL.sSetO, PL.sDrop, PL.sRet, PL.sRetO, PL.sRetV, PL.sRetN, PL.sIf, PL.sBrk, PL.sCont, PL.sFrz, PL.sFor, PL.sAsg, PL.sRaise, PL.sTry, PL.tryO, PL.unset, PL.xRet, PL.fldX, PL.ofR_ok, PL.ofR_exc, PL.eC, PL.eVar, PL.bin, PL.una, PL.aNil, PL.aCons, PL.app, PL.appO, PL.own, PL.tru, PL.ifE, PL.andB, PL.orB, PL.notB, PL.gd, PL.bOf, PL.truD, PL.tst, PL.andV, PL.orV, PL.notV, PL.callE, PL.callO, PL.rvD, PL.rvO, PL.bind_ok, PL.bind_exc, PL.bind_stuck, PL.addD, PL.subD, PL.mulD, PL.modD, PL.fdivD, PL.powD, PL.ltD, PL.leD, PL.gtD, PL.geD, PL.isD, PL.isNotD, PL.isNonD, PL.ixD, PL.sliceD, PL.sliceE, PL.pN, PL.pS, PL.lenL, PL.absL, PL.intL, PL.max2L, PL.min2L, PL.listL, PL.tupleL, PL.isiD, PL.isiB, PL.tyD, PL.itE, PL.seqOf, PL.gN, PL.gT, PL.setAll, PL.lp_next, PL.lp_ret, PL.lp_exc, PL.for_nil, PL.for_cons, PL.atI_0, PL.atI_1, PL.atI_2, PL.atI_3, PL.tupD, PL.lstD, PL.owL, PL.setL, PL.sApp, PL.sPop, PL.sPopAt, PL.popAt, PL.sPut, PL.putAt, PL.ixO, PL.borE, PL.borT, PL.borO, PL.binO, PL.catO, PL.repO, PL.cutO, PL.sliceO, PL.lcE, PL.yesB, PL.mkBV, PL.mkTM, PL.mkBT, PL.negD, List.map_cons, List.map_nil, List.length_cons, List.length_nil, List.getElem?_cons_zero, List.getElem?_cons_succ, List.set_cons_zero, List.set_cons_succ, List.cons_append, List.nil_append, List.replicate_succ, List.replicate_zero, List.append_nil, Nat.reduceSub, Nat.reduceAdd, Bool.false_eq_true, List.map, PL.eq_int, PL.ne_int, PL.eq_bl,  if_true, if_false, ite_true, ite_false, h1]
  unfold m_need_bank b_need_bank
  simp only [PL.runF, PL.runO, PL.start0, PL.sSeq, PL.sNext, PL.sSet, PL.sSetO, PL.sDrop, PL.sRet, PL.sRetO, PL.sRetV, PL.sRetN, PL.sIf, PL.sBrk, PL.sCont, PL.sFrz, PL.sFor, PL.sAsg, PL.sRaise, PL.sTry, PL.tryO, PL.unset, PL.xRet, PL.fldX, PL.ofR_ok, PL.ofR_exc, PL.eC, PL.eVar, PL.bin, PL.una, PL.aNil, PL.aCons, PL.app, PL.appO, PL.own, PL.tru, PL.ifE, PL.andB, PL.orB, PL.notB, PL.gd, PL.bOf, PL.truD, PL.tst, PL.andV, PL.orV, PL.notV, PL.callE, PL.callO, PL.rvD, PL.rvO, PL.bind_ok, PL.bind_exc, PL.bind_stuck, PL.addD, PL.subD, PL.mulD, PL.modD, PL.fdivD, PL.powD, PL.ltD, PL.leD, PL.gtD, PL.geD, PL.isD, PL.isNotD, PL.isNonD, PL.ixD, PL.sliceD, PL.sliceE, PL.pN, PL.pS, PL.lenL, PL.absL, PL.intL, PL.max2L, PL.min2L, PL.listL, PL.tupleL, PL.isiD, PL.isiB, PL.tyD, PL.itE, PL.seqOf, PL.gN, PL.gT, PL.setAll, PL.lp_next, PL.lp_ret, PL.lp_exc, PL.for_nil, PL.for_cons, PL.atI_0, PL.atI_1, PL.atI_2, PL.atI_3, PL.tupD, PL.lstD, PL.owL, PL.setL, PL.sApp, PL.sPop, PL.sPopAt, PL.popAt, PL.sPut, PL.putAt, PL.ixO, PL.borE, PL.borT, PL.borO, PL.binO, PL.catO, PL.repO, PL.cutO, PL.sliceO, PL.lcE, PL.yesB, PL.mkBV, PL.mkTM, PL.mkBT, PL.negD, List.map_cons, List.map_nil, List.length_cons, List.length_nil, List.getElem?_cons_zero, List.getElem?_cons_succ, List.set_cons_zero, List.set_cons_succ, List.cons_append, List.nil_append, List.replicate_succ, List.replicate_zero, List.append_nil, Nat.reduceSub, Nat.reduceAdd, Bool.false_eq_true, List.map, PL.eq_int, PL.ne_int, PL.eq_bl,  if_true, if_false, ite_true, ite_false, h3]
theorem bank_bad (rs : List Size) (x : D) (ys : List D) (h : ∀ r ∈ rs, r.ok) (hx : m_is_size [x] = no) (hl : rs.length + ys.length < 30) : m_need_bank [.lst (rs.map Size.d ++ x :: ys)] = .exc (.badValue (.str "bank")) := by
  have h1 := need_list_ok (rs.map Size.d ++ x :: ys) 30 (.str "bank") (by simp; omega)
  obtain ⟨ρ, h2⟩ := sizes_bad (v := .lst (rs.map Size.d ++ x :: ys)) (n := .int 30) (z := .str "bank") hx rs ys .no h
  have h3 : m_need_sizes [.lst (rs.map Size.d ++ x :: ys), .int 30, .str "bank"] = .exc (.badValue (.str "bank")) := by
    unfold m_need_sizes b_need_sizes
    simp only [PL.runF, PL.runO, PL.start0, PL.sSeq, PL.sNext, PL.sSet, PL.sSetO, PL.sDrop, PL.sRet, PL.sRetO, PL.sRetV, PL.sRetN, PL.sIf, PL.sBrk, PL.sCont, PL.sFrz, PL.sFor, PL.sAsg, PL.sRaise, PL.sTry, PL.tryO, PL.unset, PL.xRet, PL.fldX, PL.ofR_ok, PL.ofR_exc, PL.eC, PL.eVar, PL.bin, PL.una, PL.aNil, PL.aCons, PL.app, PL.appO, PL.own, PL.tru, PL.ifE, PL.andB, PL.orB, PL.notB, PL.gd, PL.bOf, PL.truD, PL.tst, PL.andV, PL.orV, PL.notV, PL.callE, PL.callO, PL.rvD, PL.rvO, PL.bind_ok, PL.bind_exc, PL.bind_stuck, PL.addD, PL.subD, PL.mulD, PL.modD, PL.fdivD, PL.powD, PL.ltD, PL.leD, PL.gtD, PL.geD, PL.isD, PL.isNotD, PL.isNonD, PL.ixD, PL.sliceD, PL.sliceE, PL.pN, PL.pS, PL.lenL, PL.absL, PL.intL, PL.max2L, PL.min2L, PL.listL, PL.tupleL, PL.isiD, PL.isiB, PL.tyD, PL.itE, PL.seqOf, PL.gN, PL.gT, PL.setAll, PL.lp_next, PL.lp_ret, PL.lp_exc, PL.for_nil, PL.for_cons, PL.atI_0, PL.atI_1, PL.atI_2, PL.atI_3, PL.tupD, PL.lstD, PL.owL, PL.setL, PL.sApp, PL.sPop, PL.sPopAt, PL.popAt, PL.sPut, PL.putAt, PL.ixO, PL.borE, PL.borT, PL.borO, PL.binO, PL.catO, PL.repO, PL.cutO, PL.sliceO, PL.lcE, PL.yesB, PL.mkBV, PL.mkTM, PL.mkBT, PL.negD, List.map_cons, List.map_nil, List.length_cons, List.length_nil, List.getElem?_cons_zero, List.getElem?_cons_succ, List.set_cons_zero, List.set_cons_succ, List.cons_append, List.nil_append, List.replicate_succ, List.replicate_zero, List.append_nil, Nat.reduceSub, Nat.reduceAdd, Bool.false_eq_true, List.map, PL.eq_int, PL.ne_int, PL.eq_bl,  if_true, if_false, ite_true, ite_false, h1, h2]
  unfold m_need_bank b_need_bank
  simp only [PL.runF, PL.runO, PL.start0, PL.sSeq, PL.sNext, PL.sSet, PL.sSetO, PL.sDrop, PL.sRet, PL.sRetO, PL.sRetV, PL.sRetN, PL.sIf, PL.sBrk, PL.sCont, PL.sFrz, PL.sFor, PL.sAsg, PL.sRaise, PL.sTry, PL.tryO, PL.unset, PL.xRet, PL.fldX, PL.ofR_ok, PL.ofR_exc, PL.eC, PL.eVar, PL.bin, PL.una, PL.aNil, PL.aCons, PL.app, PL.appO, PL.own, PL.tru, PL.ifE, PL.andB, PL.orB, PL.notB, PL.gd, PL.bOf, PL.truD, PL.tst, PL.andV, PL.orV, PL.notV, PL.callE, PL.callO, PL.rvD, PL.rvO, PL.bind_ok, PL.bind_exc, PL.bind_stuck, PL.addD, PL.subD, PL.mulD, PL.modD, PL.fdivD, PL.powD, PL.ltD, PL.leD, PL.gtD, PL.geD, PL.isD, PL.isNotD, PL.isNonD, PL.ixD, PL.sliceD, PL.sliceE, PL.pN, PL.pS, PL.lenL, PL.absL, PL.intL, PL.max2L, PL.min2L, PL.listL, PL.tupleL, PL.isiD, PL.isiB, PL.tyD, PL.itE, PL.seqOf, PL.gN, PL.gT, PL.setAll, PL.lp_next, PL.lp_ret, PL.lp_exc, PL.for_nil, PL.for_cons, PL.atI_0, PL.atI_1, PL.atI_2, PL.atI_3, PL.tupD, PL.lstD, PL.owL, PL.setL, PL.sApp, PL.sPop, PL.sPopAt, PL.popAt, PL.sPut, PL.putAt, PL.ixO, PL.borE, PL.borT, PL.borO, PL.binO, PL.catO, PL.repO, PL.cutO, PL.sliceO, PL.lcE, PL.yesB, PL.mkBV, PL.mkTM, PL.mkBT, PL.negD, List.map_cons, List.map_nil, List.length_cons, List.length_nil, List.getElem?_cons_zero, List.getElem?_cons_succ, List.set_cons_zero, List.set_cons_succ, List.cons_append, List.nil_append, List.replicate_succ, List.replicate_zero, List.append_nil, Nat.reduceSub, Nat.reduceAdd, Bool.false_eq_true, List.map, PL.eq_int, PL.ne_int, PL.eq_bl,  if_true, if_false, ite_true, ite_false, h3]
end K48

set_option maxRecDepth 100000
set_option maxHeartbeats 1000000
namespace K48
open PySem PL
/-! ## faults -/
def lastIn (pre : List Row) (b : Int) : Bool := match (pre.filter fun q => decide (q.b = b)).getLast? with | some q => q.w | none => false
def early (pre : List Row) (r : Row) : Bool := match pre.getLast? with | some q => decide (r.t < q.t) | none => false
def faultAt (n : Nat) (pre : List Row) (r : Row) : Option Str :=
  if (n : Int) ≤ r.b then some "box" else if early pre r = true then some "time" else if (r.w && lastIn pre r.b) = true then some "in" else if (!r.w && !lastIn pre r.b) = true then some "out" else none
def faultFrom (n : Nat) : List Row → List Row → Option (Nat × Str)
  | _, [] => none
  | pre, r :: rs => match faultAt n pre r with | some s => some (pre.length, s) | none => faultFrom n (pre ++ [r]) rs
def faultD : Option (Nat × Str) → D | none => .non | some (k, s) => .tup [.int (k : Nat), .str s]
theorem lastIn_snoc (pre : List Row) (r : Row) (b : Int) : lastIn (pre ++ [r]) b = if b = r.b then r.w else lastIn pre b := by
  unfold lastIn
  rw [List.filter_append]
  by_cases h : b = r.b
  · subst h
    simp
  · have h2 : ¬ r.b = b := fun z => h z.symm
    simp [h, h2]
def occ (n : Nat) (pre : List Row) : List D := (List.range n).map fun b => .bl (lastIn pre (b : Nat))
theorem occ_len (n : Nat) (pre : List Row) : (occ n pre).length = n := by simp [occ]
theorem occ_get {n : Nat} {pre : List Row} {b : Int} (h0 : 0 ≤ b) (h : b < n) : L2.atI (occ n pre) b = some (.bl (lastIn pre b)) := by
  obtain ⟨j, rfl⟩ := Int.eq_ofNat_of_zero_le h0
  rw [atI_nat]
  unfold occ
  rw [List.getElem?_map, List.getElem?_range (by omega)]
  rfl
theorem occ_set {n : Nat} {pre : List Row} {r : Row} (h0 : 0 ≤ r.b) (h : r.b < n) : putAt (occ n pre) (.bl r.w) (.int r.b) = .ok (occ n (pre ++ [r])) := by
  obtain ⟨j, hj⟩ := Int.eq_ofNat_of_zero_le h0
  have e : L2.ixN (occ n pre).length r.b = some j := by
    unfold L2.ixN
    rw [occ_len, if_pos h0, if_pos h, hj]; rfl
  show (match L2.ixN (occ n pre).length r.b with | some j => Res.ok ((occ n pre).set j (.bl r.w)) | none => .stuck) = _
  rw [e]
  show Res.ok _ = Res.ok _
  congr 1
  unfold occ
  apply List.ext_getElem
  · simp
  · intro i h1 h2
    simp only [List.length_map, List.length_range] at h2
    rw [List.getElem_set]
    simp only [List.getElem_map, List.getElem_range, lastIn_snoc, hj]
    by_cases hi : j = i
    · subst hi; simp
    · have : ¬ ((i : Int) = (j : Int)) := by omega
      rw [if_neg hi, if_neg this]
theorem ix_at (pre : List Row) (r : Row) (rs : List Row) : ixD (.lst ((pre ++ r :: rs).map Row.d)) (.int (pre.length : Nat)) = .ok r.d := by
  rw [ix_lst _ _ (by simp)]
  simp
theorem eq_way_in (w : Bool) : eqD (.str (way w)) (.str "in") = .ok (.bl w) := by
  rw [eq_str (by cases w <;> decide +kernel) (by decide +kernel)]
  have : ∀ b c : Bool, b = c → (Res.ok (D.bl b)) = .ok (.bl c) := fun b c e => by rw [e]
  apply this
  cases w <;> decide +kernel
theorem eq_way_out (w : Bool) : eqD (.str (way w)) (.str "out") = .ok (.bl (!w)) := by
  rw [eq_str (by cases w <;> decide +kernel) (by decide +kernel)]
  have : ∀ b c : Bool, b = c → (Res.ok (D.bl b)) = .ok (.bl c) := fun b c e => by rw [e]
  apply this
  cases w <;> decide +kernel
theorem tup2 (a b : D) : tupD [a, b] = .ok (.tup [a, b]) := gd_pos (sz _ (by simp))
def lastT (pre : List Row) : Int := match pre.getLast? with | some q => q.t | none => 0
theorem early_eq {pre : List Row} {r : Row} (h : r.ok) : decide (r.t < lastT pre) = early pre r := by
  unfold lastT early
  cases pre.getLast? with
  | none => show decide (r.t < 0) = false; exact decide_eq_false (by have := h.1; omega)
  | some q => rfl
theorem lastT_snoc (pre : List Row) (r : Row) : lastT (pre ++ [r]) = r.t := by unfold lastT; rw [List.getLast?_concat]
theorem fault_body {n : Nat} {bd : List D} {hist pre rs : List Row} {r : Row} {o5 o6 o7 o8 : Sl} (hbd : bd.length = n) (e : hist = pre ++ r :: rs) (h : r.ok) :
    B1_fault_of [.sh (.lst bd), .sh (.lst (hist.map Row.d)), .ow (.lst (occ n pre)), .sh (.int (lastT pre)), .sh (.int (pre.length : Nat)), o5, o6, o7, o8] = match faultAt n pre r with
      | some s => .ret (.sh (.tup [.int (pre.length : Nat), .str s]))
      | none => .next [.sh (.lst bd), .sh (.lst (hist.map Row.d)), .ow (.lst (occ n (pre ++ [r]))), .sh (.int r.t), .sh (.int (pre.length : Nat)), .sh (.int r.t), .sh (.int r.b), .sh (.str (nm r.p)), .sh (.str (way r.w))] := by
  subst e
  subst hbd
  have hi := ix_at pre r rs
  unfold B1_fault_of
  have hg : (gT [5, 6, 7, 8]) r.d [.sh (.lst bd), .sh (.lst ((pre ++ r :: rs).map Row.d)), .ow (.lst (occ bd.length pre)), .sh (.int (lastT pre)), .sh (.int (pre.length : Nat)), o5, o6, o7, o8] = .ok [.sh (.lst bd), .sh (.lst ((pre ++ r :: rs).map Row.d)), .ow (.lst (occ bd.length pre)), .sh (.int (lastT pre)), .sh (.int (pre.length : Nat)), .sh (.int r.t), .sh (.int r.b), .sh (.str (nm r.p)), .sh (.str (way r.w))] := rfl
  rw [seq_next (ρ' := [.sh (.lst bd), .sh (.lst ((pre ++ r :: rs).map Row.d)), .ow (.lst (occ bd.length pre)), .sh (.int (lastT pre)), .sh (.int (pre.length : Nat)), .sh (.int r.t), .sh (.int r.b), .sh (.str (nm r.p)), .sh (.str (way r.w))])
    (by unfold sAsg PL.bin PL.eVar; simp only [List.getElem?_cons_zero, List.getElem?_cons_succ, bind_ok, hi, ofR_ok, hg])]
  have hll : lenL [.lst bd] = .ok (.int (bd.length : Nat)) := rfl
  unfold faultAt
  by_cases h1 : (bd.length : Int) ≤ r.b
  · rw [if_pos h1]
    simp only [PL.runF, PL.runO, PL.start0, PL.sSeq, PL.sNext, PL.sSet, PL.sSetO, PL.sDrop, PL.sRet, PL.sRetO, PL.sRetV, PL.sRetN, PL.sIf, PL.sBrk, PL.sCont, PL.sFrz, PL.sFor, PL.sAsg, PL.sRaise, PL.sTry, PL.tryO, PL.unset, PL.xRet, PL.fldX, PL.ofR_ok, PL.ofR_exc, PL.eC, PL.eVar, PL.bin, PL.una, PL.aNil, PL.aCons, PL.app, PL.appO, PL.own, PL.tru, PL.ifE, PL.andB, PL.orB, PL.notB, PL.bOf, PL.truD, PL.tst, PL.andV, PL.orV, PL.notV, PL.callE, PL.callO, PL.rvD, PL.rvO, PL.bind_ok, PL.bind_exc, PL.bind_stuck, PL.powD, PL.ltD, PL.leD, PL.gtD, PL.geD, PL.isD, PL.isNotD, PL.isNonD, PL.sliceE, PL.pN, PL.pS, PL.absL, PL.intL, PL.max2L, PL.min2L, PL.tupleL, PL.isiD, PL.isiB, PL.tyD, PL.itE, PL.seqOf, PL.gN, PL.gT, PL.setAll, PL.lp_next, PL.lp_ret, PL.lp_exc, PL.for_nil, PL.for_cons, PL.atI_0, PL.atI_1, PL.atI_2, PL.atI_3, PL.owL, PL.setL, PL.sApp, PL.sPop, PL.sPopAt, PL.popAt, PL.sPut, PL.putAt, PL.ixO, PL.borE, PL.borT, PL.borO, PL.binO, PL.sliceO, PL.lcE, PL.yesB, PL.mkBV, PL.mkTM, PL.mkBT, PL.negD, List.map_cons, List.map_nil, List.length_cons, List.length_nil, List.getElem?_cons_zero, List.getElem?_cons_succ, List.set_cons_zero, List.set_cons_succ, List.cons_append, List.nil_append, List.replicate_succ, List.replicate_zero, List.append_nil, Nat.reduceSub, Nat.reduceAdd, Bool.false_eq_true, List.map, PL.eq_int, PL.ne_int, PL.eq_bl,  if_true, if_false, ite_true, ite_false, String.reduceBEq, decide_true, decide_false, Bool.not_true, Bool.not_false, Bool.true_and, Bool.false_and, Bool.and_true, Bool.and_false, Bool.true_or, Bool.false_or, Bool.or_true, Bool.or_false, decide_not, Bool.not_eq_true, Bool.not_not, reduceCtorEq, ne_eq, not_true_eq_false, not_false_eq_true, eq_self, beq_self_eq_true, bne_self_eq_false, and_true, true_and, and_self, hll, h1, tup2]
  · rw [if_neg h1]
    have hb0 := h.2.2.1
    have hb : r.b < bd.length := by omega
    have og := occ_get (pre := pre) hb0 hb
    have os := occ_set (pre := pre) hb0 hb
    have ee := early_eq (pre := pre) h
    by_cases h2 : early pre r = true
    · rw [if_pos h2]
      have h2' : r.t < lastT pre := by rw [h2] at ee; exact of_decide_eq_true ee
      simp only [PL.runF, PL.runO, PL.start0, PL.sSeq, PL.sNext, PL.sSet, PL.sSetO, PL.sDrop, PL.sRet, PL.sRetO, PL.sRetV, PL.sRetN, PL.sIf, PL.sBrk, PL.sCont, PL.sFrz, PL.sFor, PL.sAsg, PL.sRaise, PL.sTry, PL.tryO, PL.unset, PL.xRet, PL.fldX, PL.ofR_ok, PL.ofR_exc, PL.eC, PL.eVar, PL.bin, PL.una, PL.aNil, PL.aCons, PL.app, PL.appO, PL.own, PL.tru, PL.ifE, PL.andB, PL.orB, PL.notB, PL.bOf, PL.truD, PL.tst, PL.andV, PL.orV, PL.notV, PL.callE, PL.callO, PL.rvD, PL.rvO, PL.bind_ok, PL.bind_exc, PL.bind_stuck, PL.powD, PL.ltD, PL.leD, PL.gtD, PL.geD, PL.isD, PL.isNotD, PL.isNonD, PL.sliceE, PL.pN, PL.pS, PL.absL, PL.intL, PL.max2L, PL.min2L, PL.tupleL, PL.isiD, PL.isiB, PL.tyD, PL.itE, PL.seqOf, PL.gN, PL.gT, PL.setAll, PL.lp_next, PL.lp_ret, PL.lp_exc, PL.for_nil, PL.for_cons, PL.atI_0, PL.atI_1, PL.atI_2, PL.atI_3, PL.owL, PL.setL, PL.sApp, PL.sPop, PL.sPopAt, PL.popAt, PL.sPut, PL.putAt, PL.ixO, PL.borE, PL.borT, PL.borO, PL.binO, PL.sliceO, PL.lcE, PL.yesB, PL.mkBV, PL.mkTM, PL.mkBT, PL.negD, List.map_cons, List.map_nil, List.length_cons, List.length_nil, List.getElem?_cons_zero, List.getElem?_cons_succ, List.set_cons_zero, List.set_cons_succ, List.cons_append, List.nil_append, List.replicate_succ, List.replicate_zero, List.append_nil, Nat.reduceSub, Nat.reduceAdd, Bool.false_eq_true, List.map, PL.eq_int, PL.ne_int, PL.eq_bl,  if_true, if_false, ite_true, ite_false, String.reduceBEq, decide_true, decide_false, Bool.not_true, Bool.not_false, Bool.true_and, Bool.false_and, Bool.and_true, Bool.and_false, Bool.true_or, Bool.false_or, Bool.or_true, Bool.or_false, decide_not, Bool.not_eq_true, Bool.not_not, reduceCtorEq, ne_eq, not_true_eq_false, not_false_eq_true, eq_self, beq_self_eq_true, bne_self_eq_false, and_true, true_and, and_self, hll, h1, h2', tup2]
    · rw [if_neg h2]
      have h2' : ¬ r.t < lastT pre := by
        have : early pre r = false := by simpa using h2
        rw [this] at ee; exact of_decide_eq_false ee
      have oset : sPut 2 (eVar 6) (PL.bin eqD (eVar 8) (eC (.str "in"))) [.sh (.lst bd), .sh (.lst ((pre ++ r :: rs).map Row.d)), .ow (.lst (occ bd.length pre)), .sh (.int (lastT pre)), .sh (.int (pre.length : Nat)), .sh (.int r.t), .sh (.int r.b), .sh (.str (nm r.p)), .sh (.str (way r.w))] = .next [.sh (.lst bd), .sh (.lst ((pre ++ r :: rs).map Row.d)), .ow (.lst (occ bd.length (pre ++ [r]))), .sh (.int (lastT pre)), .sh (.int (pre.length : Nat)), .sh (.int r.t), .sh (.int r.b), .sh (.str (nm r.p)), .sh (.str (way r.w))] := by
        unfold sPut PL.bin PL.eVar PL.eC owL
        simp only [List.getElem?_cons_zero, List.getElem?_cons_succ, bind_ok, ofR_ok, eq_way_in, os]
        rfl
      cases hw : r.w <;> cases hl : lastIn pre r.b <;> simp only [hw] at oset <;> simp only [hl] at og <;> simp only [String.reduceBEq, decide_true, decide_false, Bool.not_true, Bool.not_false, Bool.true_and, Bool.false_and, Bool.and_true, Bool.and_false, Bool.true_or, Bool.false_or, Bool.or_true, Bool.or_false, decide_not, Bool.not_eq_true, Bool.not_not, reduceCtorEq, ne_eq, not_true_eq_false, not_false_eq_true, eq_self, beq_self_eq_true, bne_self_eq_false, and_true, true_and, and_self, if_true, if_false, Bool.false_eq_true] <;> unfold PL.sSeq PL.sIf <;>
        simp only [PL.tst, PL.bin, PL.bind_ok, PL.app, PL.aCons, PL.aNil, PL.eVar, PL.eC, PL.geD, PL.ltD, PL.bOf, PL.truD, PL.andB, PL.notB, PL.ixO, PL.owL, PL.ofR_ok, PL.sNext, PL.sRet, hll, h1, h2', eq_way_in, eq_way_out, og, tup2, List.getElem?_cons_zero, List.getElem?_cons_succ, String.reduceBEq, decide_true, decide_false, Bool.not_true, Bool.not_false, Bool.true_and, Bool.false_and, Bool.and_true, Bool.and_false, Bool.true_or, Bool.false_or, Bool.or_true, Bool.or_false, decide_not, Bool.not_eq_true, Bool.not_not, reduceCtorEq, ne_eq, not_true_eq_false, not_false_eq_true, eq_self, beq_self_eq_true, bne_self_eq_false, and_true, true_and, and_self, if_true, if_false, Bool.false_eq_true, oset, PL.sSet, List.set_cons_zero, List.set_cons_succ]
theorem fault_loop {n : Nat} {bd : List D} {hist : List Row} (hbd : bd.length = n) : ∀ (rs pre : List Row) (o4 o5 o6 o7 o8 : Sl), hist = pre ++ rs → (∀ r ∈ rs, r.ok) → ∃ ρ', forL (gN 4) B1_fault_of ((List.range' pre.length rs.length).map fun k => .int ((k : Nat) : Int)) [.sh (.lst bd), .sh (.lst (hist.map Row.d)), .ow (.lst (occ n pre)), .sh (.int (lastT pre)), o4, o5, o6, o7, o8] =
    match faultFrom n pre rs with | some f => .ret (.sh (faultD (some f))) | none => .next ρ'
  | [], pre, o4, o5, o6, o7, o8, _, _ => ⟨_, rfl⟩
  | r :: rs, pre, o4, o5, o6, o7, o8, e, h => by
    have hb := fault_body (o5 := o5) (o6 := o6) (o7 := o7) (o8 := o8) hbd e (h r List.mem_cons_self)
    rw [List.length_cons, List.range'_succ, List.map_cons]
    rw [for_cons]
    show ∃ ρ', lpO _ (B1_fault_of [.sh (.lst bd), .sh (.lst (hist.map Row.d)), .ow (.lst (occ n pre)), .sh (.int (lastT pre)), .sh (.int (pre.length : Nat)), o5, o6, o7, o8]) = _
    rw [hb]
    unfold faultFrom
    cases hf : faultAt n pre r with
    | some s => exact ⟨[], rfl⟩
    | none =>
      obtain ⟨ρ', ih⟩ := fault_loop (hist := hist) hbd rs (pre ++ [r]) (.sh (.int (pre.length : Nat))) (.sh (.int r.t)) (.sh (.int r.b)) (.sh (.str (nm r.p))) (.sh (.str (way r.w))) (by rw [e]; simp) fun x hx => h x (List.mem_cons_of_mem _ hx)
      refine ⟨ρ', ?_⟩
      rw [lastT_snoc] at ih
      simp only [List.length_append, List.length_cons, List.length_nil] at ih
      exact ih
theorem occ_nil (n : Nat) : List.replicate n (D.bl false) = occ n [] := by
  unfold occ
  apply List.ext_getElem
  · simp
  · intro i h1 h2
    simp [lastIn]
theorem fault_of_eq (bank : List Size) (hist : List Row) (hb : bank.length ≤ 30) (hl : hist.length ≤ 60) (h : ∀ r ∈ hist, r.ok) : m_fault_of [.lst (bank.map Size.d), .lst (hist.map Row.d)] = .ok (.sh (faultD (faultFrom bank.length [] hist))) := by
  obtain ⟨ρ', hf⟩ := fault_loop (n := bank.length) (bd := bank.map Size.d) (hist := hist) (by simp) hist [] .no .no .no .no .no rfl h
  have r1 := rng1_nat hist.length (by omega)
  have hr : repO (.lst [.bl false]) (.int (bank.length : Nat)) = .ok (occ bank.length []) := by
    rw [rep_nat _ _ (by omega) (by simp; omega), rep_one, occ_nil]
  have l1 : lenL [.lst (bank.map Size.d)] = .ok (.int (bank.length : Nat)) := by show Res.ok (D.int (((bank.map Size.d).length : Nat) : Int)) = _; rw [List.length_map]
  have l2 : lenL [.lst (hist.map Row.d)] = .ok (.int (hist.length : Nat)) := by show Res.ok (D.int (((hist.map Row.d).length : Nat) : Int)) = _; rw [List.length_map]
  have ls : lstD [.bl false] = .ok [.bl false] := lst_ok _ (by simp)
  rw [List.range_eq_range'] at r1
  have s1 : sSetO 2 (binO repO (own (appO lstD (aCons (eC (.bl false)) aNil))) (app lenL (aCons (eVar 0) aNil))) [.sh (.lst (bank.map Size.d)), .sh (.lst (hist.map Row.d)), .no, .no, .no, .no, .no, .no, .no] = .next [.sh (.lst (bank.map Size.d)), .sh (.lst (hist.map Row.d)), .ow (.lst (occ bank.length [])), .no, .no, .no, .no, .no, .no] :=
    setO_eq (binO_eq (own_eq (appO_eq (cons_eq rfl rfl) ls)) (app_eq (cons_eq rfl rfl) l1) hr)
  have s3 := for_eq (t := gN 4) (b := B1_fault_of) (it := appO rng1 (aCons (app lenL (aCons (eVar 1) aNil)) aNil)) (ρ := [.sh (.lst (bank.map Size.d)), .sh (.lst (hist.map Row.d)), .ow (.lst (occ bank.length [])), .sh (.int 0), .no, .no, .no, .no, .no]) (appO_eq (cons_eq (app_eq (cons_eq rfl rfl) l2) rfl) r1) hf
  refine run_of (b := b_fault_of) (env := [.sh (.lst (bank.map Size.d)), .sh (.lst (hist.map Row.d)), .no, .no, .no, .no, .no, .no, .no]) (o := .ret (.sh (faultD (faultFrom bank.length [] hist)))) rfl ?_ rfl
  unfold b_fault_of
  rw [seq_next s1, seq_next (set_eq rfl)]
  cases hq : faultFrom bank.length [] hist with
  | none => rw [hq] at s3; exact (seq_next s3).trans (ret_eq rfl)
  | some f => rw [hq] at s3; exact seq_ret s3
end K48

set_option maxRecDepth 100000
set_option maxHeartbeats 1000000
namespace K48
open PySem PL
theorem row_ix0 (r : Row) : ixD r.d (.int 0) = .ok (.int r.t) := rfl
theorem row_ix1 (r : Row) : ixD r.d (.int 1) = .ok (.int r.b) := rfl
theorem row_ix2 (r : Row) : ixD r.d (.int 2) = .ok (.str (nm r.p)) := rfl
theorem row_ix3 (r : Row) : ixD r.d (.int 3) = .ok (.str (way r.w)) := rfl
/-! ## stays -/
def endT : Option Row → D | some q => .int q.t | none => .non
def endP : Option Row → D | some q => .str (nm q.p) | none => .non
def mk (r : Row) (o : Option Row) : D := .tup [.int r.b, .int r.t, .str (nm r.p), endT o, endP o]
def nxt (rs : List Row) (b : Int) : Option Row := rs.find? fun q => decide (q.b = b)
def LS : List Row → List D
  | [] => []
  | r :: rs => if r.w = true then mk r (nxt rs r.b) :: LS rs else LS rs
/-! ### the law's -/
theorem lc_later {r : Row} {H : D} {K : D} {a1 a3 a4 a5 : Sl} (hr : ixD H K = .ok r.d) : ∀ (qs : List Row) (a6 : Sl), lcL 6 T1__law_stays E1__law_stays (qs.map Row.d) [.sh H, a1, .sh K, a3, a4, a5, a6] = .ok ((qs.filter fun q => decide (q.b = r.b)).map Row.d)
  | [], _ => rfl
  | q :: qs, a6 => by
    have ih := lc_later (a1 := a1) (a3 := a3) (a4 := a4) (a5 := a5) hr qs a6
    have ht : T1__law_stays [.sh H, a1, .sh K, a3, a4, a5, .sh q.d] = .ok (decide (q.b = r.b)) :=
      tst_eq (bin_eq (bin_eq rfl rfl (row_ix1 q)) (bin_eq (bin_eq rfl rfl hr) rfl (row_ix1 r)) (eq_int q.b r.b)) rfl
    have he : E1__law_stays [.sh H, a1, .sh K, a3, a4, a5, .sh q.d] = .ok q.d := rfl
    rw [List.map_cons]
    by_cases h : q.b = r.b
    · rw [decide_eq_true h] at ht
      rw [List.filter_cons_of_pos (by simp [h])]
      exact lc_yes ht he ih
    · rw [decide_eq_false h] at ht
      rw [List.filter_cons_of_neg (by simp [h])]
      exact lc_no ht ih
theorem cut_post (pre : List Row) (r : Row) (rs : List Row) : cutG ((pre ++ r :: rs).map Row.d) (some ((pre.length : Nat) + 1 : Int)) none = rs.map Row.d := by
  unfold cutG
  have e : ((pre.length : Nat) + 1 : Int) = ((pre.length + 1 : Nat) : Int) := by omega
  rw [e, HT.sIx_none, HT.sIx_nat]
  have e2 : (pre ++ r :: rs) = (pre ++ [r]) ++ rs := by simp
  have e3 : min (pre.length + 1) ((pre ++ r :: rs).map Row.d).length = ((pre ++ [r]).map Row.d).length := by simp
  rw [e3, e2, List.map_append, List.drop_left, List.take_of_length_le (by simp; omega)]
theorem app_ok {i : Nat} {f : En → Res D} {ρ : En} {xs : List D} {d : D} (h : owL ρ i = .ok xs) (hf : f ρ = .ok d) (hz : xs.length < 16777216) : sApp i f ρ = .next (setL ρ i (xs ++ [d])) := by
  unfold sApp
  rw [h, ofR_ok, hf, ofR_ok, gd_pos (sz' _ hz), ofR_ok]
theorem lstays_body {hist pre rs : List Row} {r : Row} {acc : List D} {o3 o4 o5 o6 : Sl} (e : hist = pre ++ r :: rs) (hl : hist.length ≤ 60) (ha : acc.length ≤ 60) : ∃ p3 p4 p5,
    B1__law_stays [.sh (.lst (hist.map Row.d)), .ow (.lst acc), .sh (.int (pre.length : Nat)), o3, o4, o5, o6] = .next [.sh (.lst (hist.map Row.d)), .ow (.lst (if r.w = true then acc ++ [mk r (nxt rs r.b)] else acc)), .sh (.int (pre.length : Nat)), p3, p4, p5, o6] := by
  subst e
  have hi := ix_at pre r rs
  let H := D.lst ((pre ++ r :: rs).map Row.d)
  let K := D.int (pre.length : Nat)
  have hk : ∀ (a1 a3 a4 a5 : Sl), PL.bin ixD (eVar 0) (eVar 2) [.sh H, a1, .sh K, a3, a4, a5, o6] = .ok r.d := fun a1 a3 a4 a5 => bin_eq rfl rfl hi
  unfold B1__law_stays
  have ht : tst bOf (PL.bin eqD (PL.bin ixD (PL.bin ixD (eVar 0) (eVar 2)) (eC (.int 3))) (eC (.str "in"))) [.sh H, .ow (.lst acc), .sh K, o3, o4, o5, o6] = .ok r.w := tst_eq (bin_eq (bin_eq (hk _ _ _ _) rfl (row_ix3 r)) rfl (eq_way_in r.w)) rfl
  cases hw : r.w
  · rw [hw] at ht
    exact ⟨o3, o4, o5, if_eq ht rfl⟩
  · rw [hw] at ht
    let L := (rs.filter fun q => decide (q.b = r.b)).map Row.d
    have s1 : PL.own (lcE (itE (sliceE (eVar 0) (pS (PL.bin addD (eVar 2) (eC (.int 1)))) pN)) 6 T1__law_stays E1__law_stays) [.sh H, .ow (.lst acc), .sh K, o3, o4, o5, o6] = .ok (.lst L) := by
      refine own_eq (lce_eq (ds := rs.map Row.d) ?_ (by simp at hl ⊢; omega) (lc_later hi rs o6))
      show Res.ok (cutG ((pre ++ r :: rs).map Row.d) (some ((pre.length : Nat) + 1 : Int)) none) = _
      rw [cut_post]
    have fin : ∀ o4 o5 : D, ∃ z, sApp 1 (app tupD (aCons (PL.bin ixD (PL.bin ixD (eVar 0) (eVar 2)) (eC (.int 1))) (aCons (PL.bin ixD (PL.bin ixD (eVar 0) (eVar 2)) (eC (.int 0))) (aCons (PL.bin ixD (PL.bin ixD (eVar 0) (eVar 2)) (eC (.int 2))) (aCons (eVar 4) (aCons (eVar 5) aNil)))))) [.sh H, .ow (.lst acc), .sh K, .sh (.lst L), .sh o4, .sh o5, o6] = .next [.sh H, .ow (.lst (acc ++ [.tup [.int r.b, .int r.t, .str (nm r.p), o4, o5]])), .sh K, .sh (.lst L), .sh o4, .sh o5, o6] ∧ z = () := fun x4 x5 =>
      ⟨(), app_ok rfl (app_eq (cons_eq (bin_eq (hk _ _ _ _) rfl (row_ix1 r)) (cons_eq (bin_eq (hk _ _ _ _) rfl (row_ix0 r)) (cons_eq (bin_eq (hk _ _ _ _) rfl (row_ix2 r)) (cons_eq rfl (cons_eq rfl rfl))))) (tup_ok _ (by simp))) (by omega), rfl⟩
    have hh : (rs.filter fun q => decide (q.b = r.b)).head? = nxt rs r.b := List.head?_filter ..
    refine ⟨.sh (.lst L), .sh (endT (nxt rs r.b)), .sh (endP (nxt rs r.b)), if_eq ht ?_⟩
    rw [if_pos rfl, if_pos rfl]
    refine seq_n (set_eq s1) (seq_n (set_eq rfl) (seq_n (set_eq rfl) ?_))
    show sSeq _ _ [.sh H, .ow (.lst acc), .sh K, .sh (.lst L), .sh .non, .sh .non, o6] = _
    have tl : tst bOf (PL.bin gtD (app lenL (aCons (eVar 3) aNil)) (eC (.int 0))) [.sh H, .ow (.lst acc), .sh K, .sh (.lst L), .sh .non, .sh .non, o6] = .ok (decide ((0 : Int) < (L.length : Nat))) := tst_eq (bin_eq (app_eq (cons_eq rfl rfl) (len_lst L)) rfl rfl) rfl
    cases hf : (rs.filter fun q => decide (q.b = r.b)) with
    | nil =>
      rw [hf] at hh
      have eL : L = [] := by show List.map Row.d _ = _; rw [hf]; rfl
      rw [eL] at tl
      rw [← hh]
      have z := (fin .non .non).choose_spec.1
      refine seq_n (ρ' := [.sh H, .ow (.lst acc), .sh K, .sh (.lst L), .sh .non, .sh .non, o6]) ?_ z
      refine if_eq (b := false) ?_ rfl
      rw [eL]; exact tl
    | cons q qs =>
      rw [hf] at hh
      have eL : L = q.d :: qs.map Row.d := by show List.map Row.d _ = _; rw [hf]; rfl
      have tl2 : tst bOf (PL.bin gtD (app lenL (aCons (eVar 3) aNil)) (eC (.int 0))) [.sh H, .ow (.lst acc), .sh K, .sh (.lst L), .sh .non, .sh .non, o6] = .ok true := by
        rw [tl, eL, List.length_cons]
        rw [decide_eq_true (by omega)]
      rw [← hh]
      have i0 : ixD (.lst L) (.int 0) = .ok q.d := by rw [eL]; exact ix_lst (q.d :: qs.map Row.d) 0 (by simp)
      have z := (fin (.int q.t) (.str (nm q.p))).choose_spec.1
      refine seq_n (ρ' := [.sh H, .ow (.lst acc), .sh K, .sh (.lst L), .sh (.int q.t), .sh (.str (nm q.p)), o6]) ?_ z
      refine if_eq tl2 ?_
      rw [if_pos rfl]
      exact seq_n (set_eq (bin_eq (bin_eq rfl rfl i0) rfl (row_ix0 q))) (set_eq (bin_eq (bin_eq rfl rfl i0) rfl (row_ix2 q)))
theorem LS_len : ∀ rs : List Row, (LS rs).length ≤ rs.length
  | [] => Nat.le_refl _
  | r :: rs => by
    have := LS_len rs
    unfold LS
    split <;> simp only [List.length_cons] <;> omega
theorem lstays_loop {hist : List Row} (hl : hist.length ≤ 60) : ∀ (rs pre : List Row) (acc : List D) (o2 o3 o4 o5 o6 : Sl), hist = pre ++ rs → acc.length ≤ pre.length → ∃ p2 p3 p4 p5, forL (gN 2) B1__law_stays ((List.range' pre.length rs.length).map fun k => .int ((k : Nat) : Int)) [.sh (.lst (hist.map Row.d)), .ow (.lst acc), o2, o3, o4, o5, o6] =
    .next [.sh (.lst (hist.map Row.d)),   .ow (.lst (acc ++ LS rs)), p2, p3, p4, p5, o6]
  | [], pre, acc, o2, o3, o4, o5, o6, _, _ => ⟨o2, o3, o4, o5, by unfold LS; rw [List.append_nil]; rfl⟩
  | r :: rs, pre, acc, o2, o3, o4, o5, o6, e, ha => by
    have hpl : pre.length < 60 := by rw [e] at hl; simp at hl; omega
    obtain ⟨p3, p4, p5, hb⟩ := lstays_body (acc := acc) (o3 := o3) (o4 := o4) (o5 := o5) (o6 := o6) e hl (by omega)
    obtain ⟨q2, q3, q4, q5, ih⟩ := lstays_loop (hist := hist) hl rs (pre ++ [r]) (if r.w = true then acc ++ [mk r (nxt rs r.b)] else acc) (.sh (.int (pre.length : Nat))) p3 p4 p5 o6 (by rw [e]; simp) (by split <;> simp <;> omega)
    simp only [List.length_append, List.length_cons, List.length_nil] at ih
    refine ⟨q2, q3, q4, q5, ?_⟩
    rw [List.length_cons, List.range'_succ, List.map_cons, for_cons]
    show lpO _ (B1__law_stays [.sh (.lst (hist.map Row.d)), .ow (.lst acc), .sh (.int (pre.length : Nat)), o3, o4, o5, o6]) = _
    rw [hb, lp_next]
    refine ih.trans ?_
    rw [show LS (r :: rs) = if r.w = true then mk r (nxt rs r.b) :: LS rs else LS rs from rfl]
    cases r.w <;> simp
theorem lstays_eq (hist : List Row) (hl : hist.length ≤ 60) : m__law_stays [.lst (hist.map Row.d)] = .ok (.ow (LS hist)) := by
  obtain ⟨o2, o3, o4, o5, hf⟩ := lstays_loop hl hist [] [] .no .no .no .no .no rfl (Nat.le_refl _)
  have r1 := rng1_nat hist.length (by omega)
  rw [List.range_eq_range'] at r1
  have l2 : lenL [.lst (hist.map Row.d)] = .ok (.int (hist.length : Nat)) := by rw [len_lst, List.length_map]
  refine run_of (b := b__law_stays) (env := [.sh (.lst (hist.map Row.d)), .no, .no, .no, .no, .no, .no]) (o := .ret (.ow (LS hist))) rfl ?_ rfl
  exact seq_n (setO_eq (appO_eq rfl (lst_ok [] (by simp)))) (seq_n (for_eq (appO_eq (cons_eq (app_eq (cons_eq rfl rfl) l2) rfl) r1) hf) rfl)
end K48

set_option maxRecDepth 100000
set_option maxHeartbeats 1000000
namespace K48
open PySem PL
/-! ### the program's -/
abbrev Ent := Row × Option Row
def entD (e : Ent) : D := mk e.1 e.2
def fin (rs : List Row) (e : Ent) : D := match e.2 with | some q => mk e.1 (some q) | none => mk e.1 (nxt rs e.1.b)
structure StInv (pre : List Row) (ents : List Ent) (kvs : List (L2.Key × D)) (op : Int → Option Nat) : Prop where
  at_ : ∀ b i, op b = some i → ∃ r, ents[i]? = some (r, none) ∧ r.b = b
  of_ : ∀ i r, ents[i]? = some (r, none) → op r.b = some i
  kv : ∀ b i, op b = some i → valD kvs (.inl b) = some (.int (i : Nat))
  occ : ∀ b, (op b).isSome = lastIn pre b
  l1 : ents.length ≤ pre.length
  l2 : kvs.length ≤ pre.length
theorem valD_put (kvs : List (L2.Key × D)) (k k2 : L2.Key) (d : D) : valD (putD kvs k d) k2 = if k = k2 then some d else valD kvs k2 := by
  unfold putD
  by_cases ha : (kvs.any fun kv => decide (kv.1 = k)) = true
  · rw [if_pos ha]
    induction kvs with
    | nil => cases ha
    | cons kv r ih =>
      obtain ⟨k0, d0⟩ := kv
      rw [List.map_cons]
      by_cases h0 : k0 = k
      · subst h0
        by_cases h2 : k0 = k2
        · subst h2
          simp [valD]
        · simp only [if_true, if_neg h2]
          have e1 : valD ((k0, d) :: r.map fun kv => if kv.1 = k0 then (kv.1, d) else kv) k2 = valD (r.map fun kv => if kv.1 = k0 then (kv.1, d) else kv) k2 := by simp [valD, List.find?_cons, h2]
          have e2 : valD ((k0, d0) :: r) k2 = valD r k2 := by simp [valD, List.find?_cons, h2]
          rw [e1, e2]
          by_cases hr : (r.any fun kv => decide (kv.1 = k0)) = true
          · rw [ih hr, if_neg h2]
          · have e3 : (r.map fun kv => if kv.1 = k0 then (kv.1, d) else kv) = r := by
              have : ∀ x ∈ r, (if x.1 = k0 then (x.1, d) else x) = x := fun x hx => by
                have : ¬ x.1 = k0 := fun z => hr (List.any_eq_true.mpr ⟨x, hx, by simp [z]⟩)
                rw [if_neg this]
              rw [List.map_congr_left this, List.map_id']
            rw [e3]
      · have hr : (r.any fun kv => decide (kv.1 = k)) = true := by simpa [h0] using ha
        simp only [if_neg h0]
        by_cases h2 : k0 = k2
        · subst h2
          have : ¬ k = k0 := fun z => h0 z.symm
          simp [valD, this]
        · have e1 : ∀ l, valD ((k0, d0) :: l) k2 = valD l k2 := fun l => by simp [valD, List.find?_cons, h2]
          rw [e1, e1, ih hr]
  · rw [if_neg ha]
    have hn : ∀ x ∈ kvs, ¬ x.1 = k := fun x hx z => ha (List.any_eq_true.mpr ⟨x, hx, by simp [z]⟩)
    by_cases h2 : k = k2
    · subst h2
      rw [if_pos rfl]
      have : kvs.find? (fun kv => decide (kv.1 = k)) = none := List.find?_eq_none.mpr fun x hx => by simp [hn x hx]
      simp [valD, List.find?_append, this]
    · rw [if_neg h2]
      unfold valD
      rw [List.find?_append]
      cases kvs.find? (fun kv => decide (kv.1 = k2)) with
      | some x => rfl
      | none => simp [h2]
theorem put_len (kvs : List (L2.Key × D)) (k : L2.Key) (d : D) : (putD kvs k d).length ≤ kvs.length + 1 := by
  unfold putD
  split <;> simp
theorem fin_ne {rs : List Row} {r0 : Row} {e : Ent} (h : e.2 = none → ¬ r0.b = e.1.b) : fin (r0 :: rs) e = fin rs e := by
  unfold fin
  cases h2 : e.2 with
  | some q => rfl
  | none =>
    have := h h2
    show mk e.1 (nxt (r0 :: rs) e.1.b) = mk e.1 (nxt rs e.1.b)
    unfold nxt
    rw [List.find?_cons_of_neg (by simp [this])]
theorem putK_ok {i : Nat} {f g : En → Res D} {ρ : En} {kvs : List (L2.Key × D)} {d n : D} {k : L2.Key} (h : owK ρ i = .ok kvs) (hg : g ρ = .ok d) (hf : f ρ = .ok n) (hk : keyOf n = .ok k) (hz : kvs.length < 16777216) : sPutK i f g ρ = .next (ρ.set i (.ow (.dk (putD kvs k d)))) := by
  unfold sPutK
  rw [h, ofR_ok, hg, ofR_ok, hf, ofR_ok, hk, ofR_ok, gd_pos (sz' _ hz), ofR_ok]
theorem getK_ok {i : Nat} {f : En → Res D} {ρ : En} {kvs : List (L2.Key × D)} {d n : D} {k : L2.Key} (h : owK ρ i = .ok kvs) (hf : f ρ = .ok n) (hk : keyOf n = .ok k) (hv : valD kvs k = some d) : getK i f ρ = .ok d := by
  unfold getK
  rw [h, bind_ok, hf, bind_ok, hk, bind_ok, hv]
theorem put_ok {i : Nat} {f g : En → Res D} {ρ : En} {xs : List D} {d n : D} {j : Nat} (h : owL ρ i = .ok xs) (hg : g ρ = .ok d) (hf : f ρ = .ok n) (hn : n = .int (j : Nat)) (hj : j < xs.length) : sPut i f g ρ = .next (setL ρ i (xs.set j d)) := by
  subst hn
  have e : putAt xs d (.int (j : Nat)) = .ok (xs.set j d) := by
    have e : L2.ixN xs.length (j : Nat) = some j := by
      unfold L2.ixN
      rw [if_pos (by omega), if_pos (by omega), Int.toNat_natCast]
    show (match L2.ixN xs.length (j : Nat) with | some j => Res.ok (xs.set j d) | none => .stuck) = _
    rw [e]
  unfold sPut
  rw [h, ofR_ok, hg, ofR_ok, hf, ofR_ok, e, ofR_ok]
theorem ixO_ok {i : Nat} {f : En → Res D} {ρ : En} {xs : List D} {j : Nat} (h : owL ρ i = .ok xs) (hf : f ρ = .ok (.int (j : Nat))) (hj : j < xs.length) : ixO i f ρ = .ok xs[j] := by
  unfold ixO
  rw [h, bind_ok, hf, bind_ok]
  show (match L2.atI xs (j : Nat) with | some d => Res.ok d | none => .stuck) = _
  rw [atI_nat, List.getElem?_eq_getElem hj]
theorem bor_len {ρ : En} {i : Nat} {xs : List D} (h : owL ρ i = .ok xs) (hv : (ρ.set i (.sh (.lst xs)))[i]? = some (.sh (.lst xs))) : borE i (app lenL (aCons (eVar i) aNil)) ρ = .ok (.int (xs.length : Nat)) := by
  unfold borE
  rw [h]
  have e : app lenL (aCons (eVar i) aNil) (ρ.set i (.sh (.lst xs))) = .ok (.int (xs.length : Nat)) := app_eq (cons_eq (show eVar i _ = .ok (.lst xs) by unfold eVar; rw [hv]) rfl) (len_lst xs)
  simp only [e]
  exact gd_pos rfl
theorem mk_cut (r : Row) (o : Option Row) : sliceD (mk r o) none (some 3) = .ok (.tup [.int r.b, .int r.t, .str (nm r.p)]) := rfl
theorem stays_loop {H : D} {n : Nat} : ∀ (rs pre : List Row) (ents : List Ent) (kvs : List (L2.Key × D)) (op : Int → Option Nat) (o3 o4 o5 o6 o7 : Sl), StInv pre ents kvs op → pre.length + rs.length ≤ 60 → faultFrom n pre rs = none →
    ∃ k p3 p4 p5 p6 p7, forL (gT [3, 4, 5, 6]) B1_stays_from (rs.map Row.d) [.sh H, .ow (.lst (ents.map entD)), .ow (.dk kvs), o3, o4, o5, o6, o7] = .next [.sh H, .ow (.lst (ents.map (fin rs) ++ LS rs)), k, p3, p4, p5, p6, p7]
  | [], pre, ents, kvs, op, o3, o4, o5, o6, o7, I, _, _ => by
    refine ⟨.ow (.dk kvs), o3, o4, o5, o6, o7, ?_⟩
    have : ents.map (fin []) = ents.map entD := List.map_congr_left fun e _ => by
      unfold fin entD
      cases e.2 <;> rfl
    rw [this]
    show Out.next _ = _
    rw [show LS [] = [] from rfl, List.append_nil]
  | r :: rs, pre, ents, kvs, op, o3, o4, o5, o6, o7, I, hl, hq => by
    have hl' : pre.length < 60 := by simp only [List.length_cons] at hl; omega
    have hfa : faultAt n pre r = none := by
      unfold faultFrom at hq
      cases h : faultAt n pre r with
      | none => rfl
      | some s => rw [h] at hq; cases hq
    have hq2 : faultFrom n (pre ++ [r]) rs = none := by
      unfold faultFrom at hq
      rw [hfa] at hq
      exact hq
    have hw : r.w = !lastIn pre r.b := by
      unfold faultAt at hfa
      split at hfa
      · cases hfa
      · split at hfa
        · cases hfa
        · cases h1 : r.w <;> cases h2 : lastIn pre r.b <;> simp [h1, h2] at hfa <;> rfl
    have hll : (pre ++ [r]).length + rs.length ≤ 60 := by simp only [List.length_append, List.length_cons, List.length_nil] at hl ⊢; omega
    have hstep : ∀ (F : En → Out), (∃ k p3 p4 p5 p6 p7, lpO (forL (gT [3, 4, 5, 6]) F (rs.map Row.d)) (F [.sh H, .ow (.lst (ents.map entD)), .ow (.dk kvs), .sh (.int r.t), .sh (.int r.b), .sh (.str (nm r.p)), .sh (.str (way r.w)), o7]) = .next [.sh H, .ow (.lst (ents.map (fin (r :: rs)) ++ LS (r :: rs))), k, p3, p4, p5, p6, p7]) →
      ∃ k p3 p4 p5 p6 p7, forL (gT [3, 4, 5, 6]) F ((r :: rs).map Row.d) [.sh H, .ow (.lst (ents.map entD)), .ow (.dk kvs), o3, o4, o5, o6, o7] = .next [.sh H, .ow (.lst (ents.map (fin (r :: rs)) ++ LS (r :: rs))), k, p3, p4, p5, p6, p7] := fun F h => h
    refine hstep _ ?_
    have ht : tst bOf (PL.bin eqD (eVar 6) (eC (.str "in"))) [.sh H, .ow (.lst (ents.map entD)), .ow (.dk kvs), .sh (.int r.t), .sh (.int r.b), .sh (.str (nm r.p)), .sh (.str (way r.w)), o7] = .ok r.w := tst_eq (bin_eq rfl rfl (eq_way_in r.w)) rfl
    have hI1 := I.l1
    have hI2 := I.l2
    cases hwb : r.w with
    | true =>
      rw [hwb] at ht hw
      have hno : lastIn pre r.b = false := by simpa using hw.symm
      have hop : op r.b = none := by
        have := I.occ r.b
        rw [hno] at this
        cases h : op r.b with
        | none => rfl
        | some i => rw [h] at this; cases this
      have I2 : StInv (pre ++ [r]) (ents ++ [(r, none)]) (putD kvs (.inl r.b) (.int (ents.length : Nat))) (fun b => if b = r.b then some ents.length else op b) := by
        refine ⟨fun b i h => ?_, fun i r' h => ?_, fun b i h => ?_, fun b => ?_, ?_, ?_⟩
        · by_cases hb : b = r.b
          · rw [if_pos hb] at h
            cases h
            exact ⟨r, by simp, hb.symm⟩
          · rw [if_neg hb] at h
            obtain ⟨r', h1, h2⟩ := I.at_ b i h
            have : i < ents.length := by
              rcases Nat.lt_or_ge i ents.length with z | z
              · exact z
              · rw [List.getElem?_eq_none z] at h1; cases h1
            exact ⟨r', by rw [List.getElem?_append_left this]; exact h1, h2⟩
        · rcases Nat.lt_or_ge i ents.length with z | z
          · rw [List.getElem?_append_left z] at h
            have h1 := I.of_ i r' h
            by_cases hb : r'.b = r.b
            · rw [hb, hop] at h1; cases h1
            · show (if r'.b = r.b then some ents.length else op r'.b) = some i
              rw [if_neg hb]; exact h1
          · rw [List.getElem?_append_right z] at h
            have hz : i - ents.length = 0 := by
              rcases Nat.eq_zero_or_pos (i - ents.length) with y | y
              · exact y
              · rw [List.getElem?_eq_none (by simp; omega)] at h; cases h
            rw [hz] at h
            cases h
            show (if r.b = r.b then some ents.length else op r.b) = some i
            rw [if_pos rfl]
            congr 1
            omega
        · rw [valD_put]
          by_cases hb : b = r.b
          · rw [if_pos hb] at h
            cases h
            rw [if_pos (by rw [hb])]
          · rw [if_neg hb] at h
            rw [if_neg (fun z => hb (by cases z; rfl))]
            exact I.kv b i h
        · rw [lastIn_snoc]
          by_cases hb : b = r.b
          · rw [if_pos hb, if_pos hb, hwb]; rfl
          · rw [if_neg hb, if_neg hb]; exact I.occ b
        · simp only [List.length_append, List.length_cons, List.length_nil]; omega
        · have := put_len kvs (.inl r.b) (.int (ents.length : Nat))
          simp only [List.length_append, List.length_cons, List.length_nil]; omega
      have hb : B1_stays_from [.sh H, .ow (.lst (ents.map entD)), .ow (.dk kvs), .sh (.int r.t), .sh (.int r.b), .sh (.str (nm r.p)), .sh (.str (way true)), o7] = .next [.sh H, .ow (.lst ((ents ++ [(r, none)]).map entD)), .ow (.dk (putD kvs (.inl r.b) (.int (ents.length : Nat)))), .sh (.int r.t), .sh (.int r.b), .sh (.str (nm r.p)), .sh (.str (way true)), o7] := by
        unfold B1_stays_from
        refine if_eq ht ?_
        rw [if_pos rfl]
        have bl := bor_len (ρ := [.sh H, .ow (.lst (ents.map entD)), .ow (.dk kvs), .sh (.int r.t), .sh (.int r.b), .sh (.str (nm r.p)), .sh (.str (way true)), o7]) (i := 1) (xs := ents.map entD) rfl rfl
        rw [List.length_map] at bl
        refine seq_n (putK_ok (kvs := kvs) (n := .int r.b) rfl bl rfl rfl (by omega)) ?_
        rw [List.map_append]
        exact app_ok (xs := ents.map entD) rfl (app_eq (cons_eq rfl (cons_eq rfl (cons_eq rfl (cons_eq rfl (cons_eq rfl rfl))))) (tup_ok _ (by simp))) (by rw [List.length_map]; omega)
      obtain ⟨k, p3, p4, p5, p6, p7, ih⟩ := stays_loop (H := H) (n := n) rs (pre ++ [r]) _ _ _ (.sh (.int r.t)) (.sh (.int r.b)) (.sh (.str (nm r.p))) (.sh (.str (way true))) o7 I2 hll hq2
      refine ⟨k, p3, p4, p5, p6, p7, ?_⟩
      rw [hb, lp_next]
      refine ih.trans ?_
      have e1 : ents.map (fin (r :: rs)) = ents.map (fin rs) := List.map_congr_left fun e he => fin_ne fun h2 z => by
        obtain ⟨i, hi⟩ := List.getElem?_of_mem he
        obtain ⟨e1, e2⟩ := e
        simp only at h2
        subst h2
        have := I.of_ i e1 hi
        simp only at z
        rw [← z, hop] at this
        cases this
      rw [e1, List.map_append, show LS (r :: rs) = if r.w = true then mk r (nxt rs r.b) :: LS rs else LS rs from rfl, hwb, if_pos rfl, List.append_assoc]
      rfl
    | false =>
      rw [hwb] at ht hw
      have hyes : lastIn pre r.b = true := by simpa using hw.symm
      obtain ⟨i, hop⟩ : ∃ i, op r.b = some i := by
        have := I.occ r.b
        rw [hyes] at this
        cases h : op r.b with
        | some i => exact ⟨i, rfl⟩
        | none => rw [h] at this; cases this
      obtain ⟨r1, hr1, hb1⟩ := I.at_ _ _ hop
      have hi : i < ents.length := by
        rcases Nat.lt_or_ge i ents.length with z | z
        · exact z
        · rw [List.getElem?_eq_none z] at hr1; cases hr1
      have hei : ents[i] = (r1, none) := by rw [List.getElem?_eq_getElem hi] at hr1; exact Option.some.inj hr1
      have I2 : StInv (pre ++ [r]) (ents.set i (r1, some r)) kvs (fun b => if b = r.b then none else op b) := by
        refine ⟨fun b j h => ?_, fun j r' h => ?_, fun b j h => ?_, fun b => ?_, ?_, ?_⟩
        · by_cases hb : b = r.b
          · rw [if_pos hb] at h; cases h
          · rw [if_neg hb] at h
            obtain ⟨r', h1, h2⟩ := I.at_ b j h
            have : ¬ i = j := fun z => by
              subst z
              rw [hr1] at h1
              cases h1
              exact hb (h2.symm.trans hb1)
            exact ⟨r', by rw [List.getElem?_set_ne this]; exact h1, h2⟩
        · by_cases hij : i = j
          · subst hij
            rw [List.getElem?_set_self hi] at h
            cases h
          · rw [List.getElem?_set_ne hij] at h
            have h1 := I.of_ j r' h
            show (if r'.b = r.b then none else op r'.b) = some j
            by_cases hb : r'.b = r.b
            · rw [hb, hop] at h1
              exact absurd (Option.some.inj h1) hij
            · rw [if_neg hb]; exact h1
        · by_cases hb : b = r.b
          · rw [if_pos hb] at h; cases h
          · rw [if_neg hb] at h; exact I.kv b j h
        · rw [lastIn_snoc]
          by_cases hb : b = r.b
          · rw [if_pos hb, if_pos hb, hwb]; rfl
          · rw [if_neg hb, if_neg hb]; exact I.occ b
        · simp only [List.length_append, List.length_cons, List.length_nil, List.length_set]; omega
        · simp only [List.length_append, List.length_cons, List.length_nil]; omega
      have hb : B1_stays_from [.sh H, .ow (.lst (ents.map entD)), .ow (.dk kvs), .sh (.int r.t), .sh (.int r.b), .sh (.str (nm r.p)), .sh (.str (way false)), o7] = .next [.sh H, .ow (.lst ((ents.set i (r1, some r)).map entD)), .ow (.dk kvs), .sh (.int r.t), .sh (.int r.b), .sh (.str (nm r.p)), .sh (.str (way false)), .sh (.int (i : Nat))] := by
        unfold B1_stays_from
        refine if_eq ht ?_
        rw [if_neg (by decide)]
        refine seq_n (set_eq (getK_ok (kvs := kvs) (n := .int r.b) rfl rfl rfl (I.kv _ _ hop))) ?_
        have hs : (ents.set i (r1, some r)).map entD = (ents.map entD).set i (mk r1 (some r)) := by rw [List.map_set]; rfl
        rw [hs]
        have hx : (ents.map entD)[i]'(by rw [List.length_map]; exact hi) = mk r1 none := by rw [List.getElem_map, hei]; rfl
        refine put_ok (xs := ents.map entD) (j := i) rfl ?_ rfl rfl (by rw [List.length_map]; exact hi)
        have g1 : ixO 1 (eVar 7) [.sh H, .ow (.lst (ents.map entD)), .ow (.dk kvs), .sh (.int r.t), .sh (.int r.b), .sh (.str (nm r.p)), .sh (.str (way false)), .sh (.int (i : Nat))] = .ok (mk r1 none) := by
          rw [ixO_ok (xs := ents.map entD) (j := i) rfl rfl (by rw [List.length_map]; exact hi), hx]
        refine bin_eq (x := .tup [.int r1.b, .int r1.t, .str (nm r1.p)]) ?_ (app_eq (cons_eq rfl (cons_eq rfl rfl)) (tup2 _ _)) ((add_tup _ _ (by simp)).trans rfl)
        unfold sliceE
        show (ixO 1 (eVar 7) [.sh H, .ow (.lst (ents.map entD)), .ow (.dk kvs), .sh (.int r.t), .sh (.int r.b), .sh (.str (nm r.p)), .sh (.str (way false)), .sh (.int (i : Nat))]).bind _ = _
        rw [g1, bind_ok]
        rfl
      obtain ⟨k, p3, p4, p5, p6, p7, ih⟩ := stays_loop (H := H) (n := n) rs (pre ++ [r]) _ _ _ (.sh (.int r.t)) (.sh (.int r.b)) (.sh (.str (nm r.p))) (.sh (.str (way false))) (.sh (.int (i : Nat))) I2 hll hq2
      refine ⟨k, p3, p4, p5, p6, p7, ?_⟩
      rw [hb, lp_next]
      refine ih.trans ?_
      have e1 : (ents.set i (r1, some r)).map (fin rs) = ents.map (fin (r :: rs)) := by
        apply List.ext_getElem
        · simp
        · intro j h1 h2
          simp only [List.length_map, List.length_set] at h1
          rw [List.getElem_map, List.getElem_map, List.getElem_set]
          by_cases hij : i = j
          · subst hij
            rw [if_pos rfl, hei]
            show mk r1 (some r) = mk r1 (nxt (r :: rs) r1.b)
            unfold nxt
            rw [List.find?_cons_of_pos (by simp [hb1])]
          · rw [if_neg hij]
            refine (fin_ne fun h3 z => ?_).symm
            have hg : ents[j]? = some (ents[j].1, none) := by rw [List.getElem?_eq_getElem h1, ← h3]
            have h4 := I.of_ j _ hg
            rw [← z, hop] at h4
            exact hij (Option.some.inj h4)
      rw [e1, show LS (r :: rs) = if r.w = true then mk r (nxt rs r.b) :: LS rs else LS rs from rfl, hwb, if_neg (by decide)]
theorem stays_eq {n : Nat} (hist : List Row) (hl : hist.length ≤ 60) (hq : faultFrom n [] hist = none) : m_stays_from [.lst (hist.map Row.d)] = .ok (.ow (LS hist)) := by
  have I0 : StInv [] [] [] (fun _ => none) := ⟨fun b i h => (by cases h), fun i r h => (by simp at h), fun b i h => (by cases h), fun b => rfl, Nat.le_refl _, Nat.le_refl _⟩
  obtain ⟨k, p3, p4, p5, p6, p7, hf⟩ := stays_loop (H := .lst (hist.map Row.d)) (n := n) hist [] [] [] _ .no .no .no .no .no I0 (by simpa using hl) hq
  refine run_of (b := b_stays_from) (env := [.sh (.lst (hist.map Row.d)), .no, .no, .no, .no, .no, .no, .no]) (o := .ret (.ow (LS hist))) rfl ?_ rfl
  exact seq_n (setO_eq (appO_eq rfl (lst_ok [] (by simp)))) (seq_n (ρ' := [.sh (.lst (hist.map Row.d)), .ow (.lst []), .ow (.dk []), .no, .no, .no, .no, .no]) rfl (seq_n (for_eq (ds := hist.map Row.d) rfl hf) rfl))
end K48

set_option maxRecDepth 100000
set_option maxHeartbeats 1000000
namespace K48
open PySem PL
/-! ## sizes that fit -/
def Size.is (s : Size) : List Int := [s.1, s.2.1, s.2.2]
def le3 : List Int → List Int → Bool
  | [a, b, c], [x, y, z] => decide (a ≤ x) && (decide (b ≤ y) && decide (c ≤ z))
  | _, _ => false
def fitB (s z : Size) : Bool := le3 (sortI s.is) (sortI z.is)
theorem sort3 (s : Size) : ∃ a b c, sortI s.is = [a, b, c] := by
  have h : (sortI s.is).length = 3 := (sortI_perm s.is).length_eq
  match hs : sortI s.is, h with
  | [a, b, c], _ => exact ⟨a, b, c, rfl⟩
theorem srt_eq (s : Size) : sortL [s.d] = .ok ((sortI s.is).map .int) := rfl
theorem srtR_eq (s : Size) : sortRL [s.d] = .ok ((sortI s.is).reverse.map .int) := rfl
theorem law_fits_eq (s z : Size) : m__law_fits [s.d, z.d] = bv (fitB s z) := by
  obtain ⟨a, b, c, hs⟩ := sort3 s
  obtain ⟨x, y, w, hz⟩ := sort3 z
  have h1 : sortL [s.d] = .ok [.int a, .int b, .int c] := by rw [srt_eq, hs]; rfl
  have h2 : sortL [z.d] = .ok [.int x, .int y, .int w] := by rw [srt_eq, hz]; rfl
  have e : fitB s z = (decide (a ≤ x) && (decide (b ≤ y) && decide (c ≤ w))) := by unfold fitB; rw [hs, hz]; rfl
  rw [e]
  by_cases k1 : a ≤ x
  · by_cases k2 : b ≤ y
    · rw [decide_eq_true k1, decide_eq_true k2, Bool.true_and, Bool.true_and]
      refine go__law_fits (o := .ret (.sh (.bl (decide (c ≤ w))))) ?_ rfl
      unfold b__law_fits
      (repeat (exists h1, h2))
    · rw [decide_eq_false k2, Bool.false_and, Bool.and_false]
      refine go__law_fits (o := .ret (.sh (.bl false))) ?_ rfl
      unfold b__law_fits
      (repeat (exists h1, h2))
  · rw [decide_eq_false k1, Bool.false_and]
    refine go__law_fits (o := .ret (.sh (.bl false))) ?_ rfl
    unfold b__law_fits
    (repeat (exists h1, h2))
theorem form_eq (s : Size) : m_form_of [s.d] = .ok (.sh (.tup ((sortI s.is).reverse.map .int))) := by
  have h1 := srtR_eq s
  refine go_form_of (o := .ret (.sh (.tup ((sortI s.is).reverse.map .int)))) ?_ rfl
  unfold b_form_of
  (repeat (exists h1))
theorem lies_eq (s z : Size) : m_lies_in [s.d, z.d] = bv (fitB s z) := by
  obtain ⟨a, b, c, hs⟩ := sort3 s
  obtain ⟨x, y, w, hz⟩ := sort3 z
  have h1 : m_form_of [s.d] = .ok (.sh (.tup [.int c, .int b, .int a])) := by rw [form_eq, hs]; rfl
  have h2 : m_form_of [z.d] = .ok (.sh (.tup [.int w, .int y, .int x])) := by rw [form_eq, hz]; rfl
  have e : fitB s z = (decide (c ≤ w) && (decide (b ≤ y) && decide (a ≤ x))) := by
    have : fitB s z = (decide (a ≤ x) && (decide (b ≤ y) && decide (c ≤ w))) := by unfold fitB; rw [hs, hz]; rfl
    rw [this]
    cases decide (a ≤ x) <;> cases decide (b ≤ y) <;> cases decide (c ≤ w) <;> rfl
  rw [e]
  by_cases k1 : c ≤ w
  · by_cases k2 : b ≤ y
    · rw [decide_eq_true k1, decide_eq_true k2, Bool.true_and, Bool.true_and]
      refine go_lies_in (o := .ret (.sh (.bl (decide (a ≤ x))))) ?_ rfl
      unfold b_lies_in
      (repeat (exists h1, h2))
    · rw [decide_eq_false k2, Bool.false_and, Bool.and_false]
      refine go_lies_in (o := .ret (.sh (.bl false))) ?_ rfl
      unfold b_lies_in
      (repeat (exists h1, h2))
  · rw [decide_eq_false k1, Bool.false_and]
    refine go_lies_in (o := .ret (.sh (.bl false))) ?_ rfl
    unfold b_lies_in
    (repeat (exists h1, h2))
/-! ## parcels -/
structure Par where
  n : List Nat
  s : Size
  a : List Nat
  c : List Nat
  u : Int
def Par.d (p : Par) : D := .tup [.str (nm p.n), p.s.d, .str (nm p.a), .str (nm p.c), .int p.u]
def Par.ok (p : Par) : Prop := nmOk p.n = true ∧ p.s.ok ∧ nmOk p.a = true ∧ nmOk p.c = true ∧ 0 ≤ p.u ∧ p.u ≤ 1000000
theorem par_ix0 (p : Par) : ixD p.d (.int 0) = .ok (.str (nm p.n)) := rfl
theorem par_ix1 (p : Par) : ixD p.d (.int 1) = .ok p.s.d := rfl
theorem par_ix2 (p : Par) : ixD p.d (.int 2) = .ok (.str (nm p.a)) := rfl
theorem par_ix3 (p : Par) : ixD p.d (.int 3) = .ok (.str (nm p.c)) := rfl
theorem par_ix4 (p : Par) : ixD p.d (.int 4) = .ok (.int p.u) := rfl
theorem is_parcel_ok {p : Par} (h : p.ok) : m_is_parcel [p.d] = yes := by
  obtain ⟨h1, h2, h3, h4, h5, h6⟩ := h
  have k1 : m_is_name [.str (nm p.n)] = yes := by rw [is_name_str _ (by have := nm_len h1; omega), h1]
  have k2 := size_ok h2
  have k3 : m_is_name [.str (nm p.a)] = yes := by rw [is_name_str _ (by have := nm_len h3; omega), h3]
  have k4 : m_is_name [.str (nm p.c)] = yes := by rw [is_name_str _ (by have := nm_len h4; omega), h4]
  have k5 : m_is_time [.int p.u] = yes := by rw [time_int, decide_eq_true h5, decide_eq_true h6]; rfl
  refine go_is_parcel (o := .ret (.sh (.bl true))) ?_ rfl
  unfold b_is_parcel Par.d
  (repeat (exists k1, k2, k3, k4, k5))
end K48

set_option maxRecDepth 100000
set_option maxHeartbeats 1000000
namespace K48
open PySem PL
abbrev psD (ps : List Par) : D := .lst (ps.map Par.d)
def nmsD (ns : List (List Nat)) : List D := ns.map fun n => .str (nm n)
theorem strs_can : ∀ (ns : List (List Nat)), (∀ n ∈ ns, asc n = true) → PyData.canLayAll0 (toPys (nmsD ns)) = true ∧ PyData.depthAll (toPys (nmsD ns)) ≤ 1
  | [], _ => by constructor <;> simp [nmsD, toPys, PyData.canLayAll0, PyData.depthAll]
  | n :: ns, h => by
    obtain ⟨h1, h2⟩ := strs_can ns fun x hx => h x (List.mem_cons_of_mem _ hx)
    have h3 := asc_ok (h n List.mem_cons_self)
    unfold nmsD at *
    rw [List.map_cons]
    simp only [toPys, toPy, PyData.canLayAll0, PyData.canLay0, PyData.depthAll, PyData.depth, h1, h3]
    constructor
    · rfl
    · omega
theorem shp_strs {ns : List (List Nat)} (hn : ∀ n ∈ ns, asc n = true) : shp (.lst (nmsD ns)) = true := by
  obtain ⟨h1, h2⟩ := strs_can ns hn
  unfold shp SeqAt.shaped
  simp only [toPy, PyData.canLay0, PyData.depth, h1, Bool.true_and]
  exact decide_eq_true (by omega)
theorem any_nms (a : List Nat) : ∀ ns : List (List Nat), ((nmsD ns).any fun x => eqv x (.str (nm a))) = decide (a ∈ ns)
  | [] => rfl
  | n :: ns => by
    have h : eqv (.str (nm n)) (.str (nm a)) = decide (a = n) := by
      show (nm n == nm a) = _
      rw [Bool.beq_eq_decide_eq, decide_eq_decide, nm_inj]
      exact eq_comm
    show (eqv (.str (nm n)) (.str (nm a)) || (nmsD ns).any fun x => eqv x (.str (nm a))) = _
    rw [h, any_nms a ns]
    simp only [List.mem_cons, Bool.decide_or]
theorem in_nms {a : List Nat} {ns : List (List Nat)} (ha : asc a = true) (hn : ∀ n ∈ ns, asc n = true) : inD (.str (nm a)) (.lst (nmsD ns)) = .ok (.bl (decide (a ∈ ns))) := by
  show gd (shp (.str (nm a)) = true ∧ shp (.lst (nmsD ns)) = true) (Res.ok (D.bl ((nmsD ns).any fun x => eqv x (.str (nm a))))) = _
  rw [gd_pos ⟨shp_str (asc_ok ha), shp_strs hn⟩, any_nms]
def names (ps : List Par) : List (List Nat) := ps.map Par.n
theorem par_body {v : D} {p : Par} {ns : List (List Nat)} (h : p.ok) (hn : ∀ n ∈ ns, asc n = true) (hl : ns.length ≤ 60) (hp : p.n ∉ ns) : B1_are_parcels [.sh v, .ow (.lst (nmsD ns)), .sh p.d] = .next [.sh v, .ow (.lst (nmsD (ns ++ [p.n]))), .sh p.d] := by
  have h1 := is_parcel_ok h
  have h2 := in_nms (nmOk_asc h.1) hn
  rw [decide_eq_false hp] at h2
  have h3 := par_ix0 p
  have h4 : nmsD (ns ++ [p.n]) = nmsD ns ++ [.str (nm p.n)] := by unfold nmsD; rw [List.map_append]; rfl
  have h5 : (nmsD ns).length ≤ 60 := by unfold nmsD; rw [List.length_map]; exact hl
  rw [h4]
  unfold B1_are_parcels
  (repeat (exists h1, h2, h3))
theorem par_loop {v : D} : ∀ (ps : List Par) (ns : List (List Nat)) (o : Sl), (∀ p ∈ ps, p.ok) → (∀ n ∈ ns, asc n = true) → ns.length + ps.length ≤ 60 → (ns ++ names ps).Nodup →
    ∃ o', forL (gN 2) B1_are_parcels (ps.map Par.d) [.sh v, .ow (.lst (nmsD ns)), o] = .next [.sh v, .ow (.lst (nmsD (ns ++ names ps))), o']
  | [], ns, o, _, _, _, _ => ⟨o, by unfold names; rw [List.map_nil, List.map_nil, List.append_nil]; rfl⟩
  | p :: ps, ns, o, h, hn, hl, hd => by
    have hp : p.n ∉ ns := fun hm => (List.nodup_append.mp hd).2.2 _ hm _ List.mem_cons_self rfl
    have hd2 : ((ns ++ [p.n]) ++ names ps).Nodup := by rw [List.append_assoc]; exact hd
    simp only [List.length_cons] at hl
    obtain ⟨o', ih⟩ := par_loop (v := v) ps (ns ++ [p.n]) (.sh p.d) (fun x hx => h x (List.mem_cons_of_mem _ hx)) (fun n hm => by
      rcases List.mem_append.mp hm with e | e
      · exact hn n e
      · rw [List.mem_singleton.mp e]; exact nmOk_asc (h p List.mem_cons_self).1) (by simp only [List.length_append, List.length_cons, List.length_nil]; omega) hd2
    refine ⟨o', ?_⟩
    rw [List.map_cons]
    show lpO _ (B1_are_parcels [.sh v, .ow (.lst (nmsD ns)), .sh p.d]) = _
    rw [par_body (h p List.mem_cons_self) hn (by omega) hp, lp_next, ih, List.append_assoc]
    rfl
theorem are_parcels_ok (ps : List Par) (h : ∀ p ∈ ps, p.ok) (hl : ps.length ≤ 60) (hd : (names ps).Nodup) : m_are_parcels [psD ps] = yes := by
  obtain ⟨o', e⟩ := par_loop (v := psD ps) ps [] .no h (by simp) (by simp; omega) (by simpa using hd)
  have e : forL (gN 2) B1_are_parcels (ps.map Par.d) [.sh (psD ps), .ow (.lst []), .no] = .next [.sh (psD ps), .ow (.lst (nmsD ([] ++ names ps))), o'] := e
  refine go_are_parcels (o := .ret (.sh (.bl true))) ?_ rfl
  unfold b_are_parcels
  (repeat (exists e))
theorem need_manifest_ok (ps : List Par) (h : ∀ p ∈ ps, p.ok) (hl : ps.length ≤ 30) (hd : (names ps).Nodup) : m_need_manifest [psD ps, .int 30] = .ok (.sh .non) := by
  have h1 := need_list_ok (ps.map Par.d) 30 (.str "manifest") (by rw [List.length_map]; omega)
  have h2 := are_parcels_ok ps h (by omega) hd
  refine go_need_manifest (o := .next [.sh (psD ps), .sh (.int 30)]) ?_ rfl
  unfold b_need_manifest
  (repeat (exists h1, h2))
theorem need_manifest_many (xs : List D) (h : 30 < xs.length) : m_need_manifest [.lst xs, .int 30] = .exc (.tooMany (.int 30)) := by
  have h1 := need_list_many xs 30 (.str "manifest") (by omega)
  refine go_need_manifest (o := .exc (.tooMany (.int 30)) [.sh (.lst xs), .sh (.int 30)]) ?_ rfl
  unfold b_need_manifest
  (repeat (exists h1))
theorem need_manifest_no (xs : List D) : m_need_manifest [.tup xs, .int 30] = .exc (.badValue (.str "manifest")) := by
  have h1 := need_list_no xs 30 (.str "manifest")
  refine go_need_manifest (o := .exc (.badValue (.str "manifest")) [.sh (.tup xs), .sh (.int 30)]) ?_ rfl
  unfold b_need_manifest
  (repeat (exists h1))
end K48

set_option maxRecDepth 100000
set_option maxHeartbeats 1000000
namespace K48
open PySem PL
def putterN (p : Par) : List Nat := if p.u = 0 then p.a else p.c
def ownN (p : Par) (t : Int) : List Nat := if t < p.u then p.a else p.c
def putB (p : Par) (r : Row) : Bool := if p.u = 0 then decide (r.p = p.a) else (decide (r.p = p.c) && decide (r.t < p.u))
def endB (p : Par) : Option Row → Bool | none => true | some q => decide (ownN p q.t = q.p)
theorem putter_eq (p : Par) : m__law_putter [p.d] = .ok (.sh (.str (nm (putterN p)))) := by
  have h1 := par_ix2 p
  have h2 := par_ix3 p
  have h3 := par_ix4 p
  unfold putterN
  by_cases h : p.u = 0
  · rw [if_pos h]
    refine go__law_putter (o := .ret (.sh (.str (nm p.a)))) ?_ rfl
    unfold b__law_putter
    (repeat (exists h1, h2, h3))
  · rw [if_neg h]
    refine go__law_putter (o := .ret (.sh (.str (nm p.c)))) ?_ rfl
    unfold b__law_putter
    (repeat (exists h1, h2, h3))
theorem lowner_eq (p : Par) (t : Int) : m__law_owner [p.d, .int t] = .ok (.sh (.str (nm (ownN p t)))) := by
  have h1 := par_ix2 p
  have h2 := par_ix3 p
  have h3 := par_ix4 p
  unfold ownN
  by_cases h : t < p.u
  · rw [if_pos h]
    refine go__law_owner (o := .ret (.sh (.str (nm p.a)))) ?_ rfl
    unfold b__law_owner
    (repeat (exists h1, h2, h3))
  · rw [if_neg h]
    refine go__law_owner (o := .ret (.sh (.str (nm p.c)))) ?_ rfl
    unfold b__law_owner
    (repeat (exists h1, h2, h3))
theorem owner_eq (p : Par) (t : Int) : m_owner_at [p.d, .int t] = .ok (.sh (.str (nm (ownN p t)))) := by
  have h1 := par_ix2 p
  have h2 := par_ix3 p
  have h3 := par_ix4 p
  unfold ownN
  by_cases h : t < p.u
  · rw [if_pos h]
    refine go_owner_at (o := .ret (.sh (.str (nm p.a)))) ?_ rfl
    unfold b_owner_at
    (repeat (exists h1, h2, h3))
  · rw [if_neg h]
    refine go_owner_at (o := .ret (.sh (.str (nm p.c)))) ?_ rfl
    unfold b_owner_at
    (repeat (exists h1, h2, h3))
theorem allowed_eq {p : Par} {r : Row} (hp : p.ok) (hr : nmOk r.p = true) : m_put_allowed [p.d, .str (nm r.p), .int r.t] = bv (putB p r) := by
  have h1 := par_ix2 p
  have h2 := par_ix3 p
  have h3 := par_ix4 p
  have h4 := eq_nm (nmOk_asc hr) (nmOk_asc hp.2.2.1)
  have h5 := eq_nm (nmOk_asc hr) (nmOk_asc hp.2.2.2.1)
  unfold putB
  by_cases h : p.u = 0
  · rw [if_pos h]
    refine go_put_allowed (o := .ret (.sh (.bl (decide (r.p = p.a))))) ?_ rfl
    unfold b_put_allowed
    (repeat (exists h1, h2, h3, h4, h5))
  · rw [if_neg h]
    by_cases k : r.p = p.c
    · rw [decide_eq_true k, Bool.true_and]
      rw [decide_eq_true k] at h5
      refine go_put_allowed (o := .ret (.sh (.bl (decide (r.t < p.u))))) ?_ rfl
      unfold b_put_allowed
      (repeat (exists h1, h2, h3, h4, h5))
    · rw [decide_eq_false k, Bool.false_and]
      rw [decide_eq_false k] at h5
      refine go_put_allowed (o := .ret (.sh (.bl false))) ?_ rfl
      unfold b_put_allowed
      (repeat (exists h1, h2, h3, h4, h5))
def endOk : Option Row → Prop | none => True | some q => nmOk q.p = true
theorem end_eq {ρ : En} {f g h : En → Res D} {p : Par} {o : Option Row} (hp : p.ok) (ho : endOk o) (h1 : f ρ = .ok (endT o)) (h2 : ∀ q, o = some q → g ρ = .ok (.str (nm (ownN p q.t)))) (h3 : h ρ = .ok (endP o)) :
    orV (PL.bin isD f (eC .non)) (PL.bin eqD g h) ρ = .ok (.bl (endB p o)) ∧ orV (PL.bin isD f (eC .non)) (PL.bin eqD h g) ρ = .ok (.bl (endB p o)) := by
  cases o with
  | none =>
    have h1 : f ρ = .ok .non := h1
    constructor
    · show _ = Res.ok (D.bl true)
      (repeat (exists h1))
    · show _ = Res.ok (D.bl true)
      (repeat (exists h1))
  | some q =>
    have h1 : f ρ = .ok (.int q.t) := h1
    have h3 : h ρ = .ok (.str (nm q.p)) := h3
    have h2 := h2 q rfl
    have ha : asc (ownN p q.t) = true := by
      unfold ownN
      by_cases k : q.t < p.u
      · rw [if_pos k]; exact nmOk_asc hp.2.2.1
      · rw [if_neg k]; exact nmOk_asc hp.2.2.2.1
    have h4 := eq_nm ha (nmOk_asc ho)
    have h5 := eq_nm (nmOk_asc ho) ha
    have e : decide (q.p = ownN p q.t) = decide (ownN p q.t = q.p) := by rw [decide_eq_decide]; exact eq_comm
    rw [e] at h5
    have h6 : isD (.int q.t) .non = .ok (.bl false) := rfl
    constructor
    · show _ = Res.ok (D.bl (decide (ownN p q.t = q.p)))
      (repeat (exists h1, h2, h3, h4, h5, h6))
    · show _ = Res.ok (D.bl (decide (ownN p q.t = q.p)))
      (repeat (exists h1, h2, h3, h4, h5, h6))
def couldB (p : Par) (z : Size) (r : Row) (o : Option Row) : Bool := fitB p.s z && (putB p r && endB p o)
theorem could_have_eq {p : Par} {z : Size} {r : Row} {o : Option Row} {bk : D} (hp : p.ok) (hr : nmOk r.p = true) (ho : endOk o) (hb : ixD bk (.int r.b) = .ok z.d) :
    m_could_have [bk, p.d, mk r o] = bv (couldB p z r o) := by
  have h1 := par_ix1 p
  have h2 := lies_eq p.s z
  have h3 := allowed_eq hp hr
  have ha : sAsg (gT [3, 4, 5, 6, 7]) (eVar 2) [.sh bk, .sh p.d, .sh (mk r o), .no, .no, .no, .no, .no] = .next [.sh bk, .sh p.d, .sh (mk r o), .sh (.int r.b), .sh (.int r.t), .sh (.str (nm r.p)), .sh (endT o), .sh (endP o)] := rfl
  unfold couldB
  by_cases k : fitB p.s z = true
  · rw [k, Bool.true_and]
    rw [k] at h2
    by_cases k2 : putB p r = true
    · rw [k2, Bool.true_and]
      rw [k2] at h3
      refine go_could_have (o := .ret (.sh (.bl (endB p o)))) ?_ rfl
      have he := (end_eq (ρ := [.sh bk, .sh p.d, .sh (mk r o), .sh (.int r.b), .sh (.int r.t), .sh (.str (nm r.p)), .sh (endT o), .sh (endP o)]) (f := eVar 6) (g := callE m_owner_at (aCons (eVar 1) (aCons (eVar 6) aNil))) (h := eVar 7) hp ho rfl (fun q hq => by
        subst hq
        have h7 : m_owner_at [p.d, endT (some q)] = .ok (.sh (.str (nm (ownN p q.t)))) := owner_eq p q.t
        (repeat (exists h7))) rfl).1
      unfold b_could_have
      (repeat (exists ha, h1, h2, h3, hb, he))
    · have k2 : putB p r = false := by simpa using k2
      rw [k2, Bool.false_and]
      rw [k2] at h3
      refine go_could_have (o := .ret (.sh (.bl false))) ?_ rfl
      unfold b_could_have
      (repeat (exists ha, h1, h2, h3, hb))
  · have k : fitB p.s z = false := by simpa using k
    rw [k, Bool.false_and]
    rw [k] at h2
    refine go_could_have (o := .ret (.sh (.bl false))) ?_ rfl
    unfold b_could_have
    (repeat (exists ha, h1, h2, h3, hb))
theorem law_could_eq {p : Par} {z : Size} {r : Row} {o : Option Row} {bk : D} (hp : p.ok) (hr : nmOk r.p = true) (ho : endOk o) (hb : ixD bk (.int r.b) = .ok z.d) :
    m__law_could [bk, p.d, mk r o] = bv (couldB p z r o) := by
  have h1 := par_ix1 p
  have h2 := law_fits_eq p.s z
  have h3 := putter_eq p
  have h4 := par_ix4 p
  have s0 : ixD (mk r o) (.int 0) = .ok (.int r.b) := rfl
  have s1 : ixD (mk r o) (.int 1) = .ok (.int r.t) := rfl
  have s2 : ixD (mk r o) (.int 2) = .ok (.str (nm r.p)) := rfl
  have ha : asc (putterN p) = true := by
    unfold putterN
    by_cases k : p.u = 0
    · rw [if_pos k]; exact nmOk_asc hp.2.2.1
    · rw [if_neg k]; exact nmOk_asc hp.2.2.2.1
  have h5 := ne_nm (nmOk_asc hr) ha
  have e : putB p r = (decide (r.p = putterN p) && !(decide (0 < p.u) && decide (p.u ≤ r.t))) := by
    unfold putB putterN
    by_cases k : p.u = 0
    · rw [if_pos k, if_pos k, k]; simp
    · rw [if_neg k, if_neg k]
      have k2 : 0 < p.u := by have := hp.2.2.2.2.1; omega
      rw [decide_eq_true k2, Bool.true_and]
      by_cases k3 : r.t < p.u
      · rw [decide_eq_true k3, decide_eq_false (show ¬ p.u ≤ r.t by omega)]; rfl
      · rw [decide_eq_false k3, decide_eq_true (show p.u ≤ r.t by omega)]; rfl
  unfold couldB
  rw [e]
  by_cases k : fitB p.s z = true
  · rw [k, Bool.true_and]
    rw [k] at h2
    by_cases k2 : r.p = putterN p
    · rw [decide_eq_true k2, Bool.true_and]
      rw [decide_eq_true k2] at h5
      have h5 : neD (.str (nm r.p)) (.str (nm (putterN p))) = .ok (.bl false) := h5
      have he := (end_eq (ρ := [.sh bk, .sh p.d, .sh (mk r o)]) (f := PL.bin ixD (eVar 2) (eC (.int 3))) (g := callE m__law_owner (aCons (eVar 1) (aCons (PL.bin ixD (eVar 2) (eC (.int 3))) aNil))) (h := PL.bin ixD (eVar 2) (eC (.int 4))) hp ho rfl (fun q hq => by
        subst hq
        have h7 : m__law_owner [p.d, .int q.t] = .ok (.sh (.str (nm (ownN p q.t)))) := lowner_eq p q.t
        have h8 : ixD (mk r (some q)) (.int 3) = .ok (.int q.t) := rfl
        (repeat (exists h7, h8))) rfl).2
      by_cases k3 : 0 < p.u
      · by_cases k4 : p.u ≤ r.t
        · rw [decide_eq_true k3, decide_eq_true k4]
          refine go__law_could (o := .ret (.sh (.bl false))) ?_ rfl
          unfold b__law_could
          (repeat (exists h1, h2, h3, h4, h5, s0, s1, s2, hb))
        · rw [decide_eq_false k4, Bool.and_false, Bool.not_false, Bool.true_and]
          refine go__law_could (o := .ret (.sh (.bl (endB p o)))) ?_ rfl
          unfold b__law_could
          (repeat (exists h1, h2, h3, h4, h5, s0, s1, s2, hb, he))
      · rw [decide_eq_false k3, Bool.false_and, Bool.not_false, Bool.true_and]
        refine go__law_could (o := .ret (.sh (.bl (endB p o)))) ?_ rfl
        unfold b__law_could
        (repeat (exists h1, h2, h3, h4, h5, s0, s1, s2, hb, he))
    · rw [decide_eq_false k2, Bool.false_and]
      rw [decide_eq_false k2] at h5
      have h5 : neD (.str (nm r.p)) (.str (nm (putterN p))) = .ok (.bl true) := h5
      refine go__law_could (o := .ret (.sh (.bl false))) ?_ rfl
      unfold b__law_could
      (repeat (exists h1, h2, h3, h4, h5, s0, s1, s2, hb))
  · have k : fitB p.s z = false := by simpa using k
    rw [k, Bool.false_and]
    rw [k] at h2
    refine go__law_could (o := .ret (.sh (.bl false))) ?_ rfl
    unfold b__law_could
    (repeat (exists h1, h2, h3, h4, h5, s0, s1, s2, hb))
end K48

set_option maxRecDepth 100000
set_option maxHeartbeats 1000000
namespace K48
open PySem PL
def entsOf : List Row → List Ent
  | [] => []
  | r :: rs => if r.w = true then (r, nxt rs r.b) :: entsOf rs else entsOf rs
theorem LS_ents : ∀ rs : List Row, LS rs = (entsOf rs).map entD
  | [] => rfl
  | r :: rs => by
    unfold LS entsOf
    rw [LS_ents rs]
    by_cases h : r.w = true
    · rw [if_pos h, if_pos h]; rfl
    · rw [if_neg h, if_neg h]
theorem ents_len (rs : List Row) : (entsOf rs).length ≤ rs.length := by
  have := LS_len rs
  rw [LS_ents, List.length_map] at this
  exact this
def EOk (n : Nat) (e : Ent) : Prop := nmOk e.1.p = true ∧ endOk e.2 ∧ 0 ≤ e.1.b ∧ e.1.b < n
theorem ents_ok {n : Nat} : ∀ {rs : List Row}, (∀ r ∈ rs, r.ok ∧ r.b < n) → ∀ e ∈ entsOf rs, EOk n e
  | [], _, e, he => by cases he
  | r :: rs, h, e, he => by
    have ih := ents_ok (rs := rs) fun x hx => h x (List.mem_cons_of_mem _ hx)
    unfold entsOf at he
    by_cases k : r.w = true
    · rw [if_pos k] at he
      rcases List.mem_cons.mp he with he | he
      · subst he
        obtain ⟨⟨_, _, b0, _, p⟩, b1⟩ := h r List.mem_cons_self
        refine ⟨p, ?_, b0, b1⟩
        show endOk (nxt rs r.b)
        cases hx : nxt rs r.b with
        | none => trivial
        | some q => exact (h q (List.mem_cons_of_mem _ (List.mem_of_find?_eq_some hx))).1.2.2.2.2
      · exact ih e he
    · rw [if_neg k] at he
      exact ih e he
def zAt (bank : List Size) (b : Int) : Size := match bank[b.toNat]? with | some z => z | none => ((1, 1, 1) : Int × Int × Int)
abbrev bkD (bank : List Size) : D := .lst (bank.map Size.d)
theorem bank_ix {bank : List Size} {b : Int} (h0 : 0 ≤ b) (h : b < bank.length) : ixD (bkD bank) (.int b) = .ok (zAt bank b).d := by
  obtain ⟨k, rfl⟩ := Int.eq_ofNat_of_zero_le h0
  have hk : k < bank.length := by omega
  refine j_ixL ?_
  show L2.atI (bank.map Size.d) ((k : Nat) : Int) = _
  rw [atI_nat, List.getElem?_map, List.getElem?_eq_getElem hk]
  show some (Size.d bank[k]) = some (zAt bank ((k : Nat) : Int)).d
  unfold zAt
  rw [Int.toNat_natCast, List.getElem?_eq_getElem hk]
theorem par_at {ps : List Par} {k : Nat} (h : k < ps.length) : ixD (psD ps) (.int ((k : Nat) : Int)) = .ok (ps[k]).d := by
  refine j_ixL ?_
  rw [atI_nat, List.getElem?_map, List.getElem?_eq_getElem h]
  rfl
def canK (bank : List Size) (ps : List Par) (e : Ent) (k : Nat) : Bool := match ps[k]? with | some p => couldB p (zAt bank e.1.b) e.1 e.2 | none => false
def eRow (bank : List Size) (ps : List Par) (e : Ent) : List D := ((List.range ps.length).filter (canK bank ps e)).map fun k : Nat => .int (k : Int)
theorem eRow_scl (bank : List Size) (ps : List Par) (e : Ent) : (eRow bank ps e).all sclr = true := by
  unfold eRow
  rw [List.all_map]
  exact List.all_eq_true.mpr fun _ _ => rfl
theorem row_lc {bank : List Size} {ps : List Par} {e : Ent} {i : Nat} {it : En → Res (List D)} {tt : En → Res Bool} {te : En → Res D} {ρ : En} (hl : ps.length ≤ 60) (h : it ρ = .ok ((List.range ps.length).map fun k : Nat => .int (k : Int)))
    (h1 : ∀ (k : Nat) (hk : k < ps.length), tt (ρ.set i (.sh (.int (k : Int)))) = .ok (couldB ps[k] (zAt bank e.1.b) e.1 e.2)) (h2 : ∀ k : Nat, te (ρ.set i (.sh (.int (k : Int)))) = .ok (.int (k : Int))) : lcE it i tt te ρ = .ok (eRow bank ps e) := by
  refine lce_filter (enc := fun k : Nat => .int (k : Int)) (xs := List.range ps.length) h (by rw [List.length_range]; omega) (fun k hk => ?_) fun k _ _ => h2 k
  have hk := List.mem_range.mp hk
  rw [h1 k hk]
  unfold canK
  rw [List.getElem?_eq_getElem hk]
theorem appT_ok {i : Nat} {f : En → Res (List D)} {ρ : En} {xs ds : List D} (h : ρ[i]? = some (.tmp (.lst xs))) (hf : f ρ = .ok ds) (hn : noTmp ρ i = true) (hz : xs.length < 16777216) (hx : xs.all rowOk = true) (hd : ds.all sclr = true) :
    sAppTL i f ρ = .next (ρ.set i (.tmp (.lst (xs ++ [.lst ds])))) := by
  unfold sAppTL
  rw [h]
  show ofR ρ (f ρ) _ = _
  rw [hf, ofR_ok, gd_pos ⟨hn, sz' _ hz, hx, hd⟩, ofR_ok]
def tabL (bank : List Size) (ps : List Par) (es : List Ent) : List D := es.map fun e => .lst (eRow bank ps e)
theorem tab_rows (bank : List Size) (ps : List Par) (es : List Ent) : (tabL bank ps es).all rowOk = true := by
  unfold tabL
  rw [List.all_map]
  exact List.all_eq_true.mpr fun e _ => eRow_scl bank ps e
theorem match_body {bank : List Size} {ps : List Par} {es dn : List Ent} {e : Ent} {st : D} (hl : ps.length ≤ 60) (hp : ∀ p ∈ ps, p.ok) (he : EOk bank.length e) (hd : dn.length ≤ 60) :
    B1_match_of [.sh (bkD bank), .sh (psD ps), .sh st, .tmp (.lst (tabL bank ps dn)), .sh (entD e), .no] = .next [.sh (bkD bank), .sh (psD ps), .sh st, .tmp (.lst (tabL bank ps (dn ++ [e]))), .sh (entD e), .no] := by
  have r1 := rng1_nat ps.length (by omega)
  have l1 : lenL [psD ps] = .ok (.int (ps.length : Nat)) := by rw [j_lenL, List.length_map]
  have hb := bank_ix he.2.2.1 he.2.2.2
  have hr : lcE (appO rng1 (aCons (app lenL (aCons (eVar 1) aNil)) aNil)) 5 T1_match_of E1_match_of [.sh (bkD bank), .sh (psD ps), .sh st, .tmp (.lst (tabL bank ps dn)), .sh (entD e), .no] = .ok (eRow bank ps e) := by
    refine row_lc hl (by (repeat (exists l1, r1))) (fun k hk => ?_) fun k => rfl
    have h1 := par_at hk
    have h2 : m_could_have [bkD bank, (ps[k]).d, entD e] = bv (couldB ps[k] (zAt bank e.1.b) e.1 e.2) := could_have_eq (hp _ (List.getElem_mem hk)) he.1 he.2.1 hb
    unfold T1_match_of
    (repeat (exists h1, h2))
  have hx : (tabL bank ps dn).length ≤ 60 := by unfold tabL; rw [List.length_map]; exact hd
  unfold B1_match_of
  rw [appT_ok rfl hr rfl (by omega) (tab_rows _ _ _) (eRow_scl _ _ _)]
  unfold tabL
  rw [List.map_append]
  rfl
theorem match_of_eq {bank : List Size} {ps : List Par} {es : List Ent} (hl : ps.length ≤ 60) (hp : ∀ p ∈ ps, p.ok) (he : ∀ e ∈ es, EOk bank.length e) (hz : es.length ≤ 60) :
    m_match_of [bkD bank, psD ps, .lst (es.map entD)] = .ok (.tm (.lst (tabL bank ps es))) := by
  obtain ⟨ρ', hf, o, e1⟩ := for_inv (enc := entD) (t := gN 4) (B := B1_match_of) (fun dn ρ => ∃ o, ρ = [.sh (bkD bank), .sh (psD ps), .sh (.lst (es.map entD)), .tmp (.lst (tabL bank ps dn)), o, .no]) es [] [.sh (bkD bank), .sh (psD ps), .sh (.lst (es.map entD)), .tmp (.lst []), .no, .no] ⟨.no, rfl⟩ fun dn x rest ρ e h => by
    obtain ⟨o, rfl⟩ := h
    rw [List.nil_append] at e
    refine ⟨_, _, rfl, match_body (es := es) hl hp (he x (by rw [e]; simp)) ?_, _, rfl⟩
    have := congrArg List.length e
    simp only [List.length_append, List.length_cons] at this
    omega
  subst e1
  refine go_match_of (o := .ret (.tm (.lst (tabL bank ps es)))) ?_ rfl
  unfold b_match_of
  have h2 : sToT 3 (sSeq (sFor (itE (eVar 2)) (gN 4) B1_match_of) (sRetT 3)) [.sh (bkD bank), .sh (psD ps), .sh (.lst (es.map entD)), .ow (.lst []), .no, .no] = .ret (.tm (.lst (tabL bank ps es))) := by
    unfold sToT
    show ofR _ (gd (noTmp _ 3 = true) (Res.ok ())) _ = _
    rw [gd_pos (show noTmp [.sh (bkD bank), .sh (psD ps), .sh (.lst (es.map entD)), .ow (.lst []), .no, .no] 3 = true from rfl), ofR_ok]
    exact seq_n (for_eq rfl hf) rfl
  (repeat (exists h2))
theorem law_table_eq {bank : List Size} {ps : List Par} {hist : List Row} (hl : ps.length ≤ 60) (hp : ∀ p ∈ ps, p.ok) (hh : ∀ r ∈ hist, r.ok ∧ r.b < bank.length) (hz : hist.length ≤ 60) :
    m__law_table [bkD bank, psD ps, .lst (hist.map Row.d)] = .ok (.ow (tabL bank ps (entsOf hist))) := by
  have h1 := lstays_eq hist hz
  rw [LS_ents] at h1
  have he := ents_ok hh
  have hlc : lcE (itE (callE m__law_stays (aCons (eVar 2) aNil))) 3 yesB E2__law_table [.sh (bkD bank), .sh (psD ps), .sh (.lst (hist.map Row.d)), .no, .no] = .ok (tabL bank ps (entsOf hist)) := by
    refine lce_map (enc := entD) (xs := entsOf hist) (by (repeat (exists h1))) (by have := ents_len hist; omega) fun e hm => ?_
    have r1 := rng1_nat ps.length (by omega)
    have l1 : lenL [psD ps] = .ok (.int (ps.length : Nat)) := by rw [j_lenL, List.length_map]
    have hb := bank_ix (he e hm).2.2.1 (he e hm).2.2.2
    have hr : lcE (appO rng1 (aCons (app lenL (aCons (eVar 1) aNil)) aNil)) 4 T1__law_table E1__law_table [.sh (bkD bank), .sh (psD ps), .sh (.lst (hist.map Row.d)), .sh (entD e), .no] = .ok (eRow bank ps e) := by
      refine row_lc hl (by (repeat (exists l1, r1))) (fun k hk => ?_) fun k => rfl
      have h1 := par_at hk
      have h2 : m__law_could [bkD bank, (ps[k]).d, entD e] = bv (couldB ps[k] (zAt bank e.1.b) e.1 e.2) := law_could_eq (hp _ (List.getElem_mem hk)) (he e hm).1 (he e hm).2.1 hb
      unfold T1__law_table
      (repeat (exists h1, h2))
    show E2__law_table [.sh (bkD bank), .sh (psD ps), .sh (.lst (hist.map Row.d)), .sh (entD e), .no] = _
    unfold E2__law_table
    (repeat (exists hr))
  refine go__law_table (o := .ret (.ow (tabL bank ps (entsOf hist)))) ?_ rfl
  unfold b__law_table
  (repeat (exists hlc))
end K48

set_option maxRecDepth 100000
set_option maxHeartbeats 1000000
namespace K48
open PySem PL
theorem retM_ok {m : List D → Res RV} {fs : En → Res (List D)} {ρ : En} {ds : List D} {d : D} (h : fs ρ = .ok ds) (h2 : m ds = .ok (.tm d)) : sRetM m fs ρ = .ret (.tm d) := by
  unfold sRetM
  rw [h, ofR_ok, h2]
theorem retM_exc {m : List D → Res RV} {fs : En → Res (List D)} {ρ : En} {ds : List D} {e : Exc} (h : fs ρ = .ok ds) (h2 : m ds = .exc e) : sRetM m fs ρ = .exc e ρ := by
  unfold sRetM
  rw [h, ofR_ok, h2]
theorem retM_exa {m : List D → Res RV} {fs : En → Res (List D)} {ρ : En} {e : Exc} (h : fs ρ = .exc e) : sRetM m fs ρ = .exc e ρ := by
  unfold sRetM
  rw [h]
  rfl
theorem checked_exc {b p h : D} {e : Exc} (k : m_need_explained [b, p, h] = .exc e) : m_checked_table [b, p, h] = .exc e := by
  have a : aCons (eVar 0) (aCons (eVar 1) (aCons (callE m_need_explained (aCons (eVar 0) (aCons (eVar 1) (aCons (eVar 2) aNil)))) aNil)) [.sh b, .sh p, .sh h] = .exc e := by (repeat (exists k))
  refine go_checked_table (o := .exc e [.sh b, .sh p, .sh h]) ?_ rfl
  unfold b_checked_table
  exact retM_exa a
theorem match_exc {b p h : D} {e : Exc} (k : m_need_explained [b, p, h] = .exc e) : m_match_table [b, p, h] = .exc e := by
  have k1 := checked_exc k
  refine go_match_table (o := .exc e [.sh b, .sh p, .sh h]) ?_ rfl
  unfold b_match_table
  exact retM_exc (ds := [b, p, h]) rfl k1
theorem explanation_exc {b p h : D} {e : Exc} (k : m_need_explained [b, p, h] = .exc e) : m_explanation [b, p, h] = .exc e := by
  have k1 := checked_exc k
  refine go_explanation (o := .exc e [.sh b, .sh p, .sh h]) ?_ rfl
  unfold b_explanation
  (repeat (exists k1))
theorem unexplained_exc {b p h : D} {e : Exc} (k : m_need_explained [b, p, h] = .exc e) : m_unexplained [b, p, h] = .exc e := by
  have k1 := checked_exc k
  refine go_unexplained (o := .exc e [.sh b, .sh p, .sh h]) ?_ rfl
  unfold b_unexplained
  (repeat (exists k1))
theorem partial_explanation_exc {b p h : D} {e : Exc} (k : m_need_explained [b, p, h] = .exc e) : m_partial_explanation [b, p, h] = .exc e := by
  have k1 := checked_exc k
  refine go_partial_explanation (o := .exc e [.sh b, .sh p, .sh h]) ?_ rfl
  unfold b_partial_explanation
  (repeat (exists k1))
theorem is_explanation_exc {b p h x : D} {e : Exc} (k : m_need_explained [b, p, h] = .exc e) : m_is_explanation [b, p, h, x] = .exc e := by
  have k1 := checked_exc k
  refine go_is_explanation (o := .exc e [.sh b, .sh p, .sh h, .sh x]) ?_ rfl
  unfold b_is_explanation
  (repeat (exists k1))
theorem stay_table_exc {b p h x : D} {e : Exc} (k : m_need_explained [b, p, h] = .exc e) : m_stay_table [b, p, h, x] = .exc e := by
  have k1 := checked_exc k
  refine go_stay_table (o := .exc e [.sh b, .sh p, .sh h, .sh x, .no]) ?_ rfl
  unfold b_stay_table
  (repeat (exists k1))
theorem parcel_table_exc {b p h x : D} {e : Exc} (k : m_need_explained [b, p, h] = .exc e) : m_parcel_table [b, p, h, x] = .exc e := by
  have k1 := checked_exc k
  refine go_parcel_table (o := .exc e [.sh b, .sh p, .sh h, .sh x, .no]) ?_ rfl
  unfold b_parcel_table
  (repeat (exists k1))
theorem told_parcel_exc {b p h x : D} {e : Exc} (k : m_need_explained [b, p, h] = .exc e) : m_told_parcel [b, p, h, x] = .exc e := by
  have k1 := stay_table_exc (x := x) k
  refine go_told_parcel (o := .exc e [.sh b, .sh p, .sh h, .sh x]) ?_ rfl
  unfold b_told_parcel
  (repeat (exists k1))
theorem told_set_exc {b p h x : D} {e : Exc} (k : m_need_explained [b, p, h] = .exc e) : m_told_set [b, p, h, x] = .exc e := by
  have k1 := stay_table_exc (x := x) k
  refine go_told_set (o := .exc e [.sh b, .sh p, .sh h, .sh x]) ?_ rfl
  unfold b_told_set
  (repeat (exists k1))
theorem other_explanation_exc {b p h x : D} {e : Exc} (k : m_need_explained [b, p, h] = .exc e) : m_other_explanation [b, p, h, x] = .exc e := by
  have k1 := stay_table_exc (x := x) k
  refine go_other_explanation (o := .exc e [.sh b, .sh p, .sh h, .sh x]) ?_ rfl
  unfold b_other_explanation
  (repeat (exists k1))
theorem sure_set_exc {b p h x : D} {e : Exc} (k : m_need_explained [b, p, h] = .exc e) : m_sure_set [b, p, h, x] = .exc e := by
  have k1 := parcel_table_exc (x := x) k
  refine go_sure_set (o := .exc e [.sh b, .sh p, .sh h, .sh x, .no]) ?_ rfl
  unfold b_sure_set
  (repeat (exists k1))
theorem explanation_without_exc {b p h x : D} {e : Exc} (k : m_need_explained [b, p, h] = .exc e) : m_explanation_without [b, p, h, x] = .exc e := by
  have k1 := parcel_table_exc (x := x) k
  refine go_explanation_without (o := .exc e [.sh b, .sh p, .sh h, .sh x, .no]) ?_ rfl
  unfold b_explanation_without
  (repeat (exists k1))
theorem is_sure_set_exc {b p h x y : D} {e : Exc} (k : m_need_explained [b, p, h] = .exc e) : m_is_sure_set [b, p, h, x, y] = .exc e := by
  have k1 := parcel_table_exc (x := x) k
  refine go_is_sure_set (o := .exc e [.sh b, .sh p, .sh h, .sh x, .sh y, .no]) ?_ rfl
  unfold b_is_sure_set
  (repeat (exists k1))
theorem inside_exc {b p h : D} {e : Exc} (k : m_need_explained [b, p, h] = .exc e) : m_inside [b, p, h] = .exc e := by
  refine go_inside (o := .exc e [.sh b, .sh p, .sh h, .no, .no, .no, .no, .no]) ?_ rfl
  unfold b_inside
  (repeat (exists k))
abbrev doorLs : List Clz := [⟨knX, isX_TooMany, 4, (xRet (fun ex => app tupD ((fun ex => aCons ((fun _ => (eC (.str "many"))) ex) ((fun ex => aCons ((fldX "TooMany" "limit") ex) ((fun _ => aNil) ex)) ex)) ex)))⟩, ⟨knX, isX_BadValue, 4, (xRet (fun ex => app tupD ((fun ex => aCons ((fun _ => (eC (.str "value"))) ex) ((fun ex => aCons ((fldX "BadValue" "what") ex) ((fun _ => aNil) ex)) ex)) ex)))⟩, ⟨knX, isX_NoPlacing, 5, (xRet (fun ex => app tupD ((fun ex => aCons ((fun _ => (eC (.str "placing"))) ex) ((fun ex => aCons ((fun _ => (eC (.int 0))) ex) ((fun _ => aNil) ex)) ex)) ex)))⟩]
theorem door_many0 {b p h d : D} (k : m_need_explained [b, p, h] = .exc (.tooMany d)) : m__law_door [.int 0, b, p, h] = .ok (.sh (.tup [.str "many", d])) := by
  have k1 := match_exc  k
  have ht : tryK doorLs (.exc (.tooMany d) [.sh (.int 0), .sh b, .sh p, .sh h, .no]) = .ret (.sh (.tup [.str "many", d])) := rfl
  refine go__law_door (o := .ret (.sh (.tup [.str "many", d]))) ?_ rfl
  unfold b__law_door
  (repeat (exists k1, ht))
theorem door_many1 {b p h d : D} (k : m_need_explained [b, p, h] = .exc (.tooMany d)) : m__law_door [.int 1, b, p, h] = .ok (.sh (.tup [.str "many", d])) := by
  have k1 := explanation_exc  k
  have ht : tryK doorLs (.exc (.tooMany d) [.sh (.int 1), .sh b, .sh p, .sh h, .no]) = .ret (.sh (.tup [.str "many", d])) := rfl
  refine go__law_door (o := .ret (.sh (.tup [.str "many", d]))) ?_ rfl
  unfold b__law_door
  (repeat (exists k1, ht))
theorem door_many2 {b p h d : D} (k : m_need_explained [b, p, h] = .exc (.tooMany d)) : m__law_door [.int 2, b, p, h] = .ok (.sh (.tup [.str "many", d])) := by
  have k1 := is_explanation_exc (x := .lst []) k
  have ht : tryK doorLs (.exc (.tooMany d) [.sh (.int 2), .sh b, .sh p, .sh h, .no]) = .ret (.sh (.tup [.str "many", d])) := rfl
  refine go__law_door (o := .ret (.sh (.tup [.str "many", d]))) ?_ rfl
  unfold b__law_door
  (repeat (exists k1, ht))
theorem door_many3 {b p h d : D} (k : m_need_explained [b, p, h] = .exc (.tooMany d)) : m__law_door [.int 3, b, p, h] = .ok (.sh (.tup [.str "many", d])) := by
  have k1 := unexplained_exc  k
  have ht : tryK doorLs (.exc (.tooMany d) [.sh (.int 3), .sh b, .sh p, .sh h, .no]) = .ret (.sh (.tup [.str "many", d])) := rfl
  refine go__law_door (o := .ret (.sh (.tup [.str "many", d]))) ?_ rfl
  unfold b__law_door
  (repeat (exists k1, ht))
theorem door_many4 {b p h d : D} (k : m_need_explained [b, p, h] = .exc (.tooMany d)) : m__law_door [.int 4, b, p, h] = .ok (.sh (.tup [.str "many", d])) := by
  have k1 := partial_explanation_exc  k
  have ht : tryK doorLs (.exc (.tooMany d) [.sh (.int 4), .sh b, .sh p, .sh h, .no]) = .ret (.sh (.tup [.str "many", d])) := rfl
  refine go__law_door (o := .ret (.sh (.tup [.str "many", d]))) ?_ rfl
  unfold b__law_door
  (repeat (exists k1, ht))
theorem door_many5 {b p h d : D} (k : m_need_explained [b, p, h] = .exc (.tooMany d)) : m__law_door [.int 5, b, p, h] = .ok (.sh (.tup [.str "many", d])) := by
  have k1 := told_parcel_exc (x := .int 0) k
  have ht : tryK doorLs (.exc (.tooMany d) [.sh (.int 5), .sh b, .sh p, .sh h, .no]) = .ret (.sh (.tup [.str "many", d])) := rfl
  refine go__law_door (o := .ret (.sh (.tup [.str "many", d]))) ?_ rfl
  unfold b__law_door
  (repeat (exists k1, ht))
theorem door_many6 {b p h d : D} (k : m_need_explained [b, p, h] = .exc (.tooMany d)) : m__law_door [.int 6, b, p, h] = .ok (.sh (.tup [.str "many", d])) := by
  have k1 := told_set_exc (x := .int 0) k
  have ht : tryK doorLs (.exc (.tooMany d) [.sh (.int 6), .sh b, .sh p, .sh h, .no]) = .ret (.sh (.tup [.str "many", d])) := rfl
  refine go__law_door (o := .ret (.sh (.tup [.str "many", d]))) ?_ rfl
  unfold b__law_door
  (repeat (exists k1, ht))
theorem door_many7 {b p h d : D} (k : m_need_explained [b, p, h] = .exc (.tooMany d)) : m__law_door [.int 7, b, p, h] = .ok (.sh (.tup [.str "many", d])) := by
  have k1 := other_explanation_exc (x := .int 0) k
  have ht : tryK doorLs (.exc (.tooMany d) [.sh (.int 7), .sh b, .sh p, .sh h, .no]) = .ret (.sh (.tup [.str "many", d])) := rfl
  refine go__law_door (o := .ret (.sh (.tup [.str "many", d]))) ?_ rfl
  unfold b__law_door
  (repeat (exists k1, ht))
theorem door_many8 {b p h d : D} (k : m_need_explained [b, p, h] = .exc (.tooMany d)) : m__law_door [.int 8, b, p, h] = .ok (.sh (.tup [.str "many", d])) := by
  have k1 := sure_set_exc (x := .int 0) k
  have ht : tryK doorLs (.exc (.tooMany d) [.sh (.int 8), .sh b, .sh p, .sh h, .no]) = .ret (.sh (.tup [.str "many", d])) := rfl
  refine go__law_door (o := .ret (.sh (.tup [.str "many", d]))) ?_ rfl
  unfold b__law_door
  (repeat (exists k1, ht))
theorem door_many9 {b p h d : D} (k : m_need_explained [b, p, h] = .exc (.tooMany d)) : m__law_door [.int 9, b, p, h] = .ok (.sh (.tup [.str "many", d])) := by
  have k1 := is_sure_set_exc (x := .int 0) (y := .lst []) k
  have ht : tryK doorLs (.exc (.tooMany d) [.sh (.int 9), .sh b, .sh p, .sh h, .no]) = .ret (.sh (.tup [.str "many", d])) := rfl
  refine go__law_door (o := .ret (.sh (.tup [.str "many", d]))) ?_ rfl
  unfold b__law_door
  (repeat (exists k1, ht))
theorem door_many10 {b p h d : D} (k : m_need_explained [b, p, h] = .exc (.tooMany d)) : m__law_door [.int 10, b, p, h] = .ok (.sh (.tup [.str "many", d])) := by
  have k1 := explanation_without_exc (x := .int 0) k
  have ht : tryK doorLs (.exc (.tooMany d) [.sh (.int 10), .sh b, .sh p, .sh h, .no]) = .ret (.sh (.tup [.str "many", d])) := rfl
  refine go__law_door (o := .ret (.sh (.tup [.str "many", d]))) ?_ rfl
  unfold b__law_door
  (repeat (exists k1, ht))
theorem door_many11 {b p h d : D} (k : m_need_explained [b, p, h] = .exc (.tooMany d)) : m__law_door [.int 11, b, p, h] = .ok (.sh (.tup [.str "many", d])) := by
  have k1 := inside_exc  k
  have ht : tryK doorLs (.exc (.tooMany d) [.sh (.int 11), .sh b, .sh p, .sh h, .no]) = .ret (.sh (.tup [.str "many", d])) := rfl
  refine go__law_door (o := .ret (.sh (.tup [.str "many", d]))) ?_ rfl
  unfold b__law_door
  (repeat (exists k1, ht))
theorem door_many {b p h d : D} (k : m_need_explained [b, p, h] = .exc (.tooMany d)) : ∀ w : Nat, w < 12 → m__law_door [.int ((w : Nat) : Int), b, p, h] = .ok (.sh (.tup [.str "many", d]))
  | 0, _ => door_many0 k
  | 1, _ => door_many1 k
  | 2, _ => door_many2 k
  | 3, _ => door_many3 k
  | 4, _ => door_many4 k
  | 5, _ => door_many5 k
  | 6, _ => door_many6 k
  | 7, _ => door_many7 k
  | 8, _ => door_many8 k
  | 9, _ => door_many9 k
  | 10, _ => door_many10 k
  | 11, _ => door_many11 k
  | n + 12, hn => absurd hn (by omega)
theorem door_val0 {b p h d : D} (k : m_need_explained [b, p, h] = .exc (.badValue d)) : m__law_door [.int 0, b, p, h] = .ok (.sh (.tup [.str "value", d])) := by
  have k1 := match_exc  k
  have ht : tryK doorLs (.exc (.badValue d) [.sh (.int 0), .sh b, .sh p, .sh h, .no]) = .ret (.sh (.tup [.str "value", d])) := rfl
  refine go__law_door (o := .ret (.sh (.tup [.str "value", d]))) ?_ rfl
  unfold b__law_door
  (repeat (exists k1, ht))
theorem door_val1 {b p h d : D} (k : m_need_explained [b, p, h] = .exc (.badValue d)) : m__law_door [.int 1, b, p, h] = .ok (.sh (.tup [.str "value", d])) := by
  have k1 := explanation_exc  k
  have ht : tryK doorLs (.exc (.badValue d) [.sh (.int 1), .sh b, .sh p, .sh h, .no]) = .ret (.sh (.tup [.str "value", d])) := rfl
  refine go__law_door (o := .ret (.sh (.tup [.str "value", d]))) ?_ rfl
  unfold b__law_door
  (repeat (exists k1, ht))
theorem door_val2 {b p h d : D} (k : m_need_explained [b, p, h] = .exc (.badValue d)) : m__law_door [.int 2, b, p, h] = .ok (.sh (.tup [.str "value", d])) := by
  have k1 := is_explanation_exc (x := .lst []) k
  have ht : tryK doorLs (.exc (.badValue d) [.sh (.int 2), .sh b, .sh p, .sh h, .no]) = .ret (.sh (.tup [.str "value", d])) := rfl
  refine go__law_door (o := .ret (.sh (.tup [.str "value", d]))) ?_ rfl
  unfold b__law_door
  (repeat (exists k1, ht))
theorem door_val3 {b p h d : D} (k : m_need_explained [b, p, h] = .exc (.badValue d)) : m__law_door [.int 3, b, p, h] = .ok (.sh (.tup [.str "value", d])) := by
  have k1 := unexplained_exc  k
  have ht : tryK doorLs (.exc (.badValue d) [.sh (.int 3), .sh b, .sh p, .sh h, .no]) = .ret (.sh (.tup [.str "value", d])) := rfl
  refine go__law_door (o := .ret (.sh (.tup [.str "value", d]))) ?_ rfl
  unfold b__law_door
  (repeat (exists k1, ht))
theorem door_val4 {b p h d : D} (k : m_need_explained [b, p, h] = .exc (.badValue d)) : m__law_door [.int 4, b, p, h] = .ok (.sh (.tup [.str "value", d])) := by
  have k1 := partial_explanation_exc  k
  have ht : tryK doorLs (.exc (.badValue d) [.sh (.int 4), .sh b, .sh p, .sh h, .no]) = .ret (.sh (.tup [.str "value", d])) := rfl
  refine go__law_door (o := .ret (.sh (.tup [.str "value", d]))) ?_ rfl
  unfold b__law_door
  (repeat (exists k1, ht))
theorem door_val5 {b p h d : D} (k : m_need_explained [b, p, h] = .exc (.badValue d)) : m__law_door [.int 5, b, p, h] = .ok (.sh (.tup [.str "value", d])) := by
  have k1 := told_parcel_exc (x := .int 0) k
  have ht : tryK doorLs (.exc (.badValue d) [.sh (.int 5), .sh b, .sh p, .sh h, .no]) = .ret (.sh (.tup [.str "value", d])) := rfl
  refine go__law_door (o := .ret (.sh (.tup [.str "value", d]))) ?_ rfl
  unfold b__law_door
  (repeat (exists k1, ht))
theorem door_val6 {b p h d : D} (k : m_need_explained [b, p, h] = .exc (.badValue d)) : m__law_door [.int 6, b, p, h] = .ok (.sh (.tup [.str "value", d])) := by
  have k1 := told_set_exc (x := .int 0) k
  have ht : tryK doorLs (.exc (.badValue d) [.sh (.int 6), .sh b, .sh p, .sh h, .no]) = .ret (.sh (.tup [.str "value", d])) := rfl
  refine go__law_door (o := .ret (.sh (.tup [.str "value", d]))) ?_ rfl
  unfold b__law_door
  (repeat (exists k1, ht))
theorem door_val7 {b p h d : D} (k : m_need_explained [b, p, h] = .exc (.badValue d)) : m__law_door [.int 7, b, p, h] = .ok (.sh (.tup [.str "value", d])) := by
  have k1 := other_explanation_exc (x := .int 0) k
  have ht : tryK doorLs (.exc (.badValue d) [.sh (.int 7), .sh b, .sh p, .sh h, .no]) = .ret (.sh (.tup [.str "value", d])) := rfl
  refine go__law_door (o := .ret (.sh (.tup [.str "value", d]))) ?_ rfl
  unfold b__law_door
  (repeat (exists k1, ht))
theorem door_val8 {b p h d : D} (k : m_need_explained [b, p, h] = .exc (.badValue d)) : m__law_door [.int 8, b, p, h] = .ok (.sh (.tup [.str "value", d])) := by
  have k1 := sure_set_exc (x := .int 0) k
  have ht : tryK doorLs (.exc (.badValue d) [.sh (.int 8), .sh b, .sh p, .sh h, .no]) = .ret (.sh (.tup [.str "value", d])) := rfl
  refine go__law_door (o := .ret (.sh (.tup [.str "value", d]))) ?_ rfl
  unfold b__law_door
  (repeat (exists k1, ht))
theorem door_val9 {b p h d : D} (k : m_need_explained [b, p, h] = .exc (.badValue d)) : m__law_door [.int 9, b, p, h] = .ok (.sh (.tup [.str "value", d])) := by
  have k1 := is_sure_set_exc (x := .int 0) (y := .lst []) k
  have ht : tryK doorLs (.exc (.badValue d) [.sh (.int 9), .sh b, .sh p, .sh h, .no]) = .ret (.sh (.tup [.str "value", d])) := rfl
  refine go__law_door (o := .ret (.sh (.tup [.str "value", d]))) ?_ rfl
  unfold b__law_door
  (repeat (exists k1, ht))
theorem door_val10 {b p h d : D} (k : m_need_explained [b, p, h] = .exc (.badValue d)) : m__law_door [.int 10, b, p, h] = .ok (.sh (.tup [.str "value", d])) := by
  have k1 := explanation_without_exc (x := .int 0) k
  have ht : tryK doorLs (.exc (.badValue d) [.sh (.int 10), .sh b, .sh p, .sh h, .no]) = .ret (.sh (.tup [.str "value", d])) := rfl
  refine go__law_door (o := .ret (.sh (.tup [.str "value", d]))) ?_ rfl
  unfold b__law_door
  (repeat (exists k1, ht))
theorem door_val11 {b p h d : D} (k : m_need_explained [b, p, h] = .exc (.badValue d)) : m__law_door [.int 11, b, p, h] = .ok (.sh (.tup [.str "value", d])) := by
  have k1 := inside_exc  k
  have ht : tryK doorLs (.exc (.badValue d) [.sh (.int 11), .sh b, .sh p, .sh h, .no]) = .ret (.sh (.tup [.str "value", d])) := rfl
  refine go__law_door (o := .ret (.sh (.tup [.str "value", d]))) ?_ rfl
  unfold b__law_door
  (repeat (exists k1, ht))
theorem door_val {b p h d : D} (k : m_need_explained [b, p, h] = .exc (.badValue d)) : ∀ w : Nat, w < 12 → m__law_door [.int ((w : Nat) : Int), b, p, h] = .ok (.sh (.tup [.str "value", d]))
  | 0, _ => door_val0 k
  | 1, _ => door_val1 k
  | 2, _ => door_val2 k
  | 3, _ => door_val3 k
  | 4, _ => door_val4 k
  | 5, _ => door_val5 k
  | 6, _ => door_val6 k
  | 7, _ => door_val7 k
  | 8, _ => door_val8 k
  | 9, _ => door_val9 k
  | 10, _ => door_val10 k
  | 11, _ => door_val11 k
  | n + 12, hn => absurd hn (by omega)
theorem all_of {b p h : D} {w d : D} (hs : m__law_same 6 [.tup [w, d], .tup [w, d]] = yes) (hd : ∀ n : Nat, n < 12 → m__law_door [.int ((n : Nat) : Int), b, p, h] = .ok (.sh (.tup [w, d]))) : m__law_all_doors [b, p, h, .tup [w, d]] = yes := by
  obtain ⟨o', e⟩ := for_all (i := 4) (B := B1__law_all_doors) (P := fun o => [.sh b, .sh p, .sh h, .sh (.tup [w, d]), o]) (ds := (List.range 12).map fun k : Nat => .int (k : Int)) (o := .no) (fun _ _ => rfl) fun x hx => by
    obtain ⟨n, hn, rfl⟩ := List.mem_map.mp hx
    have h1 := hd n (List.mem_range.mp hn)
    unfold B1__law_all_doors
    (repeat (exists h1, hs))
  have r1 : rng1 [.int 12] = .ok ((List.range 12).map fun k : Nat => .int (k : Int)) := rng1_nat 12 (by decide)
  refine go__law_all_doors (o := .ret (.sh (.bl true))) ?_ rfl
  unfold b__law_all_doors
  (repeat (exists r1, e))
end K48

set_option maxRecDepth 100000
set_option maxHeartbeats 1000000
namespace K48
open PySem PL
theorem ok_many : PyData.strOk ("many" : Str) = true := by decide +kernel
theorem ok_value : PyData.strOk ("value" : Str) = true := by decide +kernel
theorem pl2 {a b : D} (ha : pl a = true) (hb : pl b = true) : pl (.tup [a, b]) = true := by
  show ((pl a && (pl b && true)) && decide (2 ≤ 1000)) = true
  rw [ha, hb]
  rfl
theorem all_many {b p h : D} {n : Int} (k : m_need_explained [b, p, h] = .exc (.tooMany (.int n))) : m__law_all_doors [b, p, h, .tup [.str "many", .int n]] = yes := all_of (same_refl 6 _ (pl2 ok_many rfl) (by show (1 : Nat) < 6; decide)) (door_many k)
theorem all_val {b p h : D} {s : Str} (hs : PyData.strOk s = true) (k : m_need_explained [b, p, h] = .exc (.badValue (.str s))) : m__law_all_doors [b, p, h, .tup [.str "value", .str s]] = yes := all_of (same_refl 6 _ (pl2 ok_value hs) (by show (1 : Nat) < 6; decide)) (door_val k)
/-! ## need_explained -/
theorem regular_ok {bank : List Size} {hist : List Row} (hb : bank.length ≤ 30) (hl : hist.length ≤ 60) (h : ∀ r ∈ hist, r.ok) (hf : faultFrom bank.length [] hist = none) : m_need_regular [bkD bank, .lst (hist.map Row.d)] = .ok (.sh .non) := by
  have h1 := need_history_ok hist h hl
  have h2 := fault_of_eq bank hist hb hl h
  rw [hf] at h2
  have h2 : m_fault_of [bkD bank, .lst (hist.map Row.d)] = .ok (.sh .non) := h2
  have h3 : isNotD .non .non = .ok (.bl false) := rfl
  refine go_need_regular (o := .next [.sh (bkD bank), .sh (.lst (hist.map Row.d))]) ?_ rfl
  unfold b_need_regular
  (repeat (exists h1, h2, h3))
theorem regular_no {bank : List Size} {hist : List Row} {x : Nat × Str} (hb : bank.length ≤ 30) (hl : hist.length ≤ 60) (h : ∀ r ∈ hist, r.ok) (hf : faultFrom bank.length [] hist = some x) : m_need_regular [bkD bank, .lst (hist.map Row.d)] = .exc (.badValue (.str "history")) := by
  have h1 := need_history_ok hist h hl
  have h2 := fault_of_eq bank hist hb hl h
  rw [hf] at h2
  have h2 : m_fault_of [bkD bank, .lst (hist.map Row.d)] = .ok (.sh (.tup [.int (x.1 : Nat), .str x.2])) := h2
  have h3 : isNotD (.tup [.int (x.1 : Nat), .str x.2]) .non = .ok (.bl true) := rfl
  refine go_need_regular (o := .exc (.badValue (.str "history")) [.sh (bkD bank), .sh (.lst (hist.map Row.d))]) ?_ rfl
  unfold b_need_regular
  (repeat (exists h1, h2, h3))
theorem regular_exc {b h : D} {e : Exc} (h1 : m_need_history [h] = .exc e) : m_need_regular [b, h] = .exc e := by
  refine go_need_regular (o := .exc e [.sh b, .sh h]) ?_ rfl
  unfold b_need_regular
  (repeat (exists h1))
theorem ex_bank {b p h : D} {e : Exc} (h1 : m_need_bank [b] = .exc e) : m_need_explained [b, p, h] = .exc e := by
  refine go_need_explained (o := .exc e [.sh b, .sh p, .sh h, .no]) ?_ rfl
  unfold b_need_explained
  (repeat (exists h1))
theorem ex_man {b p h : D} {e : Exc} (h1 : m_need_bank [b] = .ok (.sh .non)) (h2 : m_need_manifest [p, .int 30] = .exc e) : m_need_explained [b, p, h] = .exc e := by
  refine go_need_explained (o := .exc e [.sh b, .sh p, .sh h, .no]) ?_ rfl
  unfold b_need_explained
  (repeat (exists h1, h2))
theorem ex_reg {b p h : D} {e : Exc} (h1 : m_need_bank [b] = .ok (.sh .non)) (h2 : m_need_manifest [p, .int 30] = .ok (.sh .non)) (h3 : m_need_regular [b, h] = .exc e) : m_need_explained [b, p, h] = .exc e := by
  refine go_need_explained (o := .exc e [.sh b, .sh p, .sh h, .no]) ?_ rfl
  unfold b_need_explained
  (repeat (exists h1, h2, h3))
theorem ex_many {b p h : D} {xs : List D} (h1 : m_need_bank [b] = .ok (.sh .non)) (h2 : m_need_manifest [p, .int 30] = .ok (.sh .non)) (h3 : m_need_regular [b, h] = .ok (.sh .non)) (h4 : m_stays_from [h] = .ok (.ow xs)) (hx : 30 < xs.length) : m_need_explained [b, p, h] = .exc (.tooMany (.int 30)) := by
  refine go_need_explained (o := .exc (.tooMany (.int 30)) [.sh b, .sh p, .sh h, .sh (.lst xs)]) ?_ rfl
  unfold b_need_explained
  (repeat (exists h1, h2, h3, h4))
theorem ex_ok {b p h : D} {xs : List D} (h1 : m_need_bank [b] = .ok (.sh .non)) (h2 : m_need_manifest [p, .int 30] = .ok (.sh .non)) (h3 : m_need_regular [b, h] = .ok (.sh .non)) (h4 : m_stays_from [h] = .ok (.ow xs)) (hx : xs.length ≤ 30) : m_need_explained [b, p, h] = .ok (.sh (.lst xs)) := by
  refine go_need_explained (o := .ret (.sh (.lst xs))) ?_ rfl
  unfold b_need_explained
  (repeat (exists h1, h2, h3, h4))
theorem match_eq {bank : List Size} {ps : List Par} {hist : List Row} (hb : ∀ z ∈ bank, z.ok) (hbl : bank.length ≤ 30) (hp : ∀ p ∈ ps, p.ok) (hpl : ps.length ≤ 30) (hd : (names ps).Nodup) (hh : ∀ r ∈ hist, r.ok ∧ r.b < bank.length) (hl : hist.length ≤ 60)
    (hf : faultFrom bank.length [] hist = none) (hs : (entsOf hist).length ≤ 30) : m_match_table [bkD bank, psD ps, .lst (hist.map Row.d)] = .ok (.tm (.lst (tabL bank ps (entsOf hist)))) := by
  have h4 := stays_eq hist hl hf
  rw [LS_ents] at h4
  have k1 := ex_ok (bank_ok bank hb hbl) (need_manifest_ok ps hp hpl hd) (regular_ok hbl hl (fun r hr => (hh r hr).1) hf) h4 (by rw [List.length_map]; exact hs)
  have k2 := match_of_eq (bank := bank) (ps := ps) (es := entsOf hist) (by omega) hp (ents_ok hh) (by omega)
  have a : aCons (eVar 0) (aCons (eVar 1) (aCons (callE m_need_explained (aCons (eVar 0) (aCons (eVar 1) (aCons (eVar 2) aNil)))) aNil)) [.sh (bkD bank), .sh (psD ps), .sh (.lst (hist.map Row.d))] = .ok [bkD bank, psD ps, .lst ((entsOf hist).map entD)] := by (repeat (exists k1))
  have k3 : m_checked_table [bkD bank, psD ps, .lst (hist.map Row.d)] = .ok (.tm (.lst (tabL bank ps (entsOf hist)))) := by
    refine go_checked_table (o := .ret (.tm (.lst (tabL bank ps (entsOf hist))))) ?_ rfl
    unfold b_checked_table
    exact retM_ok a k2
  refine go_match_table (o := .ret (.tm (.lst (tabL bank ps (entsOf hist))))) ?_ rfl
  unfold b_match_table
  exact retM_ok (ds := [bkD bank, psD ps, .lst (hist.map Row.d)]) rfl k3
end K48

set_option maxRecDepth 100000
set_option maxHeartbeats 1000000
namespace K48
open PySem PL
theorem pl_lst {xs : List D} {n : Nat} (h : ∀ x ∈ xs, pl x = true ∧ dep x ≤ n) (hl : xs.length ≤ 1000) : pl (.lst xs) = true ∧ dep (.lst xs) ≤ n + 1 := by
  constructor
  · show (plA xs && decide (xs.length ≤ 1000)) = true
    rw [plA_of fun x hx => (h x hx).1, decide_eq_true hl]
    rfl
  · show depA xs + 1 ≤ n + 1
    have := depA_of (n := n) (xs := xs) fun x hx => (h x hx).2
    omega
theorem pl_size (z : Size) : pl z.d = true ∧ dep z.d ≤ 1 := ⟨rfl, Nat.le_refl _⟩
theorem pl_par {p : Par} (h : p.ok) : pl p.d = true ∧ dep p.d ≤ 2 := by
  have h1 : pl (.str (nm p.n)) = true := asc_ok (nmOk_asc h.1)
  have h2 : pl (.str (nm p.a)) = true := asc_ok (nmOk_asc h.2.2.1)
  have h3 : pl (.str (nm p.c)) = true := asc_ok (nmOk_asc h.2.2.2.1)
  refine ⟨?_, Nat.le_refl _⟩
  show ((pl (.str (nm p.n)) && (pl p.s.d && (pl (.str (nm p.a)) && (pl (.str (nm p.c)) && (pl (.int p.u) && true))))) && decide (5 ≤ 1000)) = true
  rw [h1, h2, h3, (pl_size p.s).1]
  rfl
theorem ok_way (w : Bool) : PyData.strOk (way w) = true := by cases w <;> decide +kernel
theorem pl_row {r : Row} (h : nmOk r.p = true) : pl r.d = true ∧ dep r.d ≤ 2 := by
  have h1 : pl (.str (nm r.p)) = true := asc_ok (nmOk_asc h)
  have h2 : pl (.str (way r.w)) = true := ok_way r.w
  refine ⟨?_, by show (1 : Nat) ≤ 2; omega⟩
  show ((pl (.int r.t) && (pl (.int r.b) && (pl (.str (nm r.p)) && (pl (.str (way r.w)) && true)))) && decide (4 ≤ 1000)) = true
  rw [h1, h2]
  rfl
theorem row_len (bank : List Size) (ps : List Par) (e : Ent) : (eRow bank ps e).length ≤ ps.length := by
  unfold eRow
  rw [List.length_map]
  have := List.length_filter_le (canK bank ps e) (List.range ps.length)
  rw [List.length_range] at this
  exact this
theorem pl_tab {bank : List Size} {ps : List Par} {es : List Ent} (hp : ps.length ≤ 60) (he : es.length ≤ 60) : pl (.lst (tabL bank ps es)) = true ∧ dep (.lst (tabL bank ps es)) ≤ 2 := by
  refine pl_lst (fun x hx => ?_) (by unfold tabL; rw [List.length_map]; omega)
  unfold tabL at hx
  obtain ⟨e, _, rfl⟩ := List.mem_map.mp hx
  refine pl_lst (n := 0) (fun y hy => ?_) (by have := row_len bank ps e; omega)
  unfold eRow at hy
  obtain ⟨k, _, rfl⟩ := List.mem_map.mp hy
  exact ⟨rfl, Nat.le_refl _⟩
theorem setTM_ok {i : Nat} {m : List D → Res RV} {fs : En → Res (List D)} {ρ : En} {ds : List D} {d : D} (h : fs ρ = .ok ds) (h2 : m ds = .ok (.tm d)) (hn : noTmp ρ i = true) : sSetTM i m fs ρ = .next (ρ.set i (.tmp d)) := by
  unfold sSetTM
  rw [h, ofR_ok, h2]
  show ofR ρ (gd (noTmp ρ i = true) (.ok ())) _ = _
  rw [gd_pos hn, ofR_ok]
theorem kill_ok {i r : Nat} {f : En → Res (List D)} {ρ : En} {xs ds : List D} (h : ρ[i]? = some (.tmp (.lst xs))) (hn : noTmp ρ i = true) (hi : i ≠ r) (hr : r < ρ.length) (hx : xs.all rowOk = true) (hl : xs.length ≤ 60) (hd : ∀ d ∈ xs, dlen d ≤ 60) (hf : f ((ρ.set i .no).set r .no) = .ok ds) :
    sKill i r f ρ = .next ((ρ.set i .no).set r .no) := by
  unfold sKill
  rw [h]
  show ofR ρ (gd _ (.ok ())) _ = _
  rw [gd_pos ⟨hn, hi, hr, hx, sz' _ (by omega), List.all_eq_true.mpr fun d hm => decide_eq_true (sz' _ (by have := hd d hm; omega))⟩, ofR_ok, hf, ofR_ok]
theorem rv_tm (d : D) : rvD (.ok (.tm d)) = .ok d := rfl
theorem tabled_eq {bank : List Size} {ps : List Par} {hist : List Row} (hb : ∀ z ∈ bank, z.ok) (hbl : bank.length ≤ 30) (hp : ∀ p ∈ ps, p.ok) (hpl : ps.length ≤ 30) (hd : (names ps).Nodup) (hh : ∀ r ∈ hist, r.ok ∧ r.b < bank.length) (hl : hist.length ≤ 60)
    (hf : faultFrom bank.length [] hist = none) (hs : (entsOf hist).length ≤ 30) : m__law_tabled [bkD bank, psD ps, .lst (hist.map Row.d)] = yes := by
  have h1 := law_table_eq (bank := bank) (ps := ps) (hist := hist) (by omega) hp hh hl
  have h2 := match_eq hb hbl hp hpl hd hh hl hf hs
  have p1 := pl_tab (bank := bank) (ps := ps) (es := entsOf hist) (by omega) (by omega)
  have p2 := pl_lst (xs := bank.map Size.d) (n := 1) (fun x hx => by obtain ⟨z, _, rfl⟩ := List.mem_map.mp hx; exact pl_size z) (by rw [List.length_map]; omega)
  have p3 := pl_lst (xs := ps.map Par.d) (n := 2) (fun x hx => by obtain ⟨z, hz, rfl⟩ := List.mem_map.mp hx; exact pl_par (hp z hz)) (by rw [List.length_map]; omega)
  have p4 := pl_lst (xs := hist.map Row.d) (n := 2) (fun x hx => by obtain ⟨z, hz, rfl⟩ := List.mem_map.mp hx; exact pl_row (hh z hz).1.2.2.2.2) (by rw [List.length_map]; omega)
  have s1 := same_refl 6 _ p1.1 (by omega)
  have s2 := same_refl 6 _ p2.1 (by omega)
  have s3 := same_refl 6 _ p3.1 (by omega)
  have s4 := same_refl 6 _ p4.1 (by omega)
  have l1 : (tabL bank ps (entsOf hist)).length ≤ 60 := by unfold tabL; rw [List.length_map]; omega
  have t1 : sSetTM 7 m_match_table (aCons (eVar 3) (aCons (eVar 4) (aCons (eVar 5) aNil))) [.sh (bkD bank), .sh (psD ps), .sh (.lst (hist.map Row.d)), .sh (bkD bank), .sh (psD ps), .sh (.lst (hist.map Row.d)), .sh (.lst (tabL bank ps (entsOf hist))), .no, .no] = .next [.sh (bkD bank), .sh (psD ps), .sh (.lst (hist.map Row.d)), .sh (bkD bank), .sh (psD ps), .sh (.lst (hist.map Row.d)), .sh (.lst (tabL bank ps (entsOf hist))), .tmp (.lst (tabL bank ps (entsOf hist))), .no] := setTM_ok (ds := [bkD bank, psD ps, .lst (hist.map Row.d)]) rfl h2 rfl
  have t2 : tmpT 7 (notB (tst truD (callE (m__law_same 6) (aCons (eVar 7) (aCons (eVar 6) aNil))))) [.sh (bkD bank), .sh (psD ps), .sh (.lst (hist.map Row.d)), .sh (bkD bank), .sh (psD ps), .sh (.lst (hist.map Row.d)), .sh (.lst (tabL bank ps (entsOf hist))), .tmp (.lst (tabL bank ps (entsOf hist))), .no] = .ok false := by
    refine tmpT_eq rfl ?_ rfl
    show notB (tst truD (callE (m__law_same 6) (aCons (eVar 7) (aCons (eVar 6) aNil)))) [.sh (bkD bank), .sh (psD ps), .sh (.lst (hist.map Row.d)), .sh (bkD bank), .sh (psD ps), .sh (.lst (hist.map Row.d)), .sh (.lst (tabL bank ps (entsOf hist))), .sh (.lst (tabL bank ps (entsOf hist))), .no] = .ok false
    (repeat (exists s1))
    rfl
  have t3 : sKill 7 8 (appO lstD (aCons (eC (.int 0)) aNil)) [.sh (bkD bank), .sh (psD ps), .sh (.lst (hist.map Row.d)), .sh (bkD bank), .sh (psD ps), .sh (.lst (hist.map Row.d)), .sh (.lst (tabL bank ps (entsOf hist))), .tmp (.lst (tabL bank ps (entsOf hist))), .no] = .next [.sh (bkD bank), .sh (psD ps), .sh (.lst (hist.map Row.d)), .sh (bkD bank), .sh (psD ps), .sh (.lst (hist.map Row.d)), .sh (.lst (tabL bank ps (entsOf hist))), .no, .no] := by
    refine kill_ok (ds := [.int 0]) rfl rfl (by decide) (by show (8 : Nat) < 9; decide) (tab_rows _ _ _) l1 (fun d hm => ?_) rfl
    unfold tabL at hm
    obtain ⟨e, _, rfl⟩ := List.mem_map.mp hm
    show (eRow bank ps e).length ≤ 60
    have := row_len bank ps e
    omega
  have r1 := rv_tm (.lst (tabL bank ps (entsOf hist)))
  have h3 : callE m_match_table (aCons (eVar 3) (aCons (eVar 4) (aCons (eVar 5) aNil))) [.sh (bkD bank), .sh (psD ps), .sh (.lst (hist.map Row.d)), .sh (bkD bank), .sh (psD ps), .sh (.lst (hist.map Row.d)), .sh (.lst (tabL bank ps (entsOf hist))), .no, .no] = .ok (.lst (tabL bank ps (entsOf hist))) := by
    show rvD (m_match_table [bkD bank, psD ps, .lst (hist.map Row.d)]) = _
    rw [h2, r1]
  refine go__law_tabled (o := .ret (.sh (.bl true))) ?_ rfl
  unfold b__law_tabled
  (repeat (exists t1, t2, t3, h1, h3, s1, s2, s3, s4))
end K48

set_option maxRecDepth 100000
set_option maxHeartbeats 1000000
namespace K48
open PySem PL
theorem nL0 : TL.numL 0 = [48] := by decide +kernel
theorem nL1 : TL.numL 1 = [49] := by decide +kernel
theorem bad_cut {bank : List Size} (hb : ∀ z ∈ bank, z.ok) (hl : bank.length ≤ 30) : m_need_bank [.lst (cutG (bank.map Size.d ++ [.tup [.int 1, .int 1]]) (some (-30)) none)] = .exc (.badValue (.str "bank")) := by
  have e := cut_from (bank.map Size.d ++ [.tup [.int 1, .int 1]]) 30 (by decide)
  have e : cutG (bank.map Size.d ++ [.tup [.int 1, .int 1]]) (some (-30)) none = (bank.drop (bank.length + 1 - 30)).map Size.d ++ [.tup [.int 1, .int 1]] := by
    refine e.trans ?_
    rw [List.length_append, List.length_map, List.drop_append_of_le_length (by rw [List.length_map]; simp only [List.length_cons, List.length_nil]; omega), List.map_drop]
    rfl
  rw [e]
  exact bank_bad _ _ [] (fun z hz => hb z (List.mem_of_mem_drop hz)) rfl (by rw [List.length_drop]; simp only [List.length_nil]; omega)
def r0 : Row := ⟨0, 0, [97], false⟩
theorem r0_ok : r0.ok := ⟨by decide, by decide, by decide, by decide, by decide⟩
theorem fault0 {n : Nat} (hn : 0 < n) (rs : List Row) : faultFrom n [] (r0 :: rs) = some ((0 : Nat), ("out" : Str)) := by
  unfold faultFrom faultAt
  rw [if_neg (by show ¬ (n : Int) ≤ 0; omega)]
  rfl
theorem out_many : m_need_history [.lst (List.replicate 61 [r0.d]).flatten] = .exc (.tooMany (.int 60)) := need_history_many _ (by decide)
theorem outs_bad {bank : List Size} {rs : List Row} (hb : 0 < bank.length) (hbl : bank.length ≤ 30) (hl : rs.length ≤ 59) (h : ∀ r ∈ rs, r.ok) : m_need_regular [bkD bank, .lst ((r0 :: rs).map Row.d)] = .exc (.badValue (.str "history")) := by
  refine regular_no hbl (by simp only [List.length_cons]; omega) (fun r hr => ?_) (fault0 hb rs)
  rcases List.mem_cons.mp hr with e | e
  · rw [e]; exact r0_ok
  · exact h r e
def q0 (b : Bool) : Par := if b then ⟨[113, 48], ((1, 1, 1) : Int × Int × Int), [97], [98], 0⟩ else ⟨[113, 48], ((2, 2, 2) : Int × Int × Int), [98], [97], 0⟩
def q1 : Par := ⟨[113, 49], ((1, 1, 1) : Int × Int × Int), [97], [98], 1⟩
theorem q0_ok (b : Bool) : (q0 b).ok := by
  cases b
  · exact ⟨by decide, ⟨by decide, by decide, by decide⟩, by decide, by decide, by decide, by decide⟩
  · exact ⟨by decide, ⟨by decide, by decide, by decide⟩, by decide, by decide, by decide, by decide⟩
theorem q1_ok : q1.ok := ⟨by decide, ⟨by decide, by decide, by decide⟩, by decide, by decide, by decide, by decide⟩
theorem par_dup {v : D} {p : Par} {ns : List (List Nat)} (h : p.ok) (hn : ∀ n ∈ ns, asc n = true) (hp : p.n ∈ ns) : B1_are_parcels [.sh v, .ow (.lst (nmsD ns)), .sh p.d] = .ret (.sh (.bl false)) := by
  have h1 := is_parcel_ok h
  have h2 := in_nms (nmOk_asc h.1) hn
  rw [decide_eq_true hp] at h2
  have h3 := par_ix0 p
  unfold B1_are_parcels
  (repeat (exists h1, h2, h3))
theorem double_bad : m_need_manifest [psD [q0 true, q1, q0 false], .int 30] = .exc (.badValue (.str "manifest")) := by
  have h1 := need_list_ok ([q0 true, q1, q0 false].map Par.d) 30 (.str "manifest") (by decide)
  have b1 := par_body (v := psD [q0 true, q1, q0 false]) (ns := []) (q0_ok true) (by simp) (by decide) (by simp)
  have b2 := par_body (v := psD [q0 true, q1, q0 false]) (ns := [[113, 48]]) q1_ok (by decide) (by decide) (by decide)
  have b3 := par_dup (v := psD [q0 true, q1, q0 false]) (ns := [[113, 48], [113, 49]]) (q0_ok false) (by decide) (by decide)
  have hf : forL (gN 2) B1_are_parcels ([q0 true, q1, q0 false].map Par.d) [.sh (psD [q0 true, q1, q0 false]), .ow (.lst []), .no] = .ret (.sh (.bl false)) := by
    show lpO (forL (gN 2) B1_are_parcels [q1.d, (q0 false).d]) (B1_are_parcels [.sh (psD [q0 true, q1, q0 false]), .ow (.lst (nmsD [])), .sh (q0 true).d]) = _
    rw [b1, lp_next]
    show lpO (forL (gN 2) B1_are_parcels [(q0 false).d]) (B1_are_parcels [.sh (psD [q0 true, q1, q0 false]), .ow (.lst (nmsD [[113, 48]])), .sh q1.d]) = _
    rw [b2, lp_next]
    show lpO (forL (gN 2) B1_are_parcels []) (B1_are_parcels [.sh (psD [q0 true, q1, q0 false]), .ow (.lst (nmsD [[113, 48], [113, 49]])), .sh (q0 false).d]) = _
    rw [b3]
    rfl
  have h2 : m_are_parcels [psD [q0 true, q1, q0 false]] = no := by
    refine go_are_parcels (o := .ret (.sh (.bl false))) ?_ rfl
    unfold b_are_parcels
    (repeat (exists hf))
  refine go_need_manifest (o := .exc (.badValue (.str "manifest")) [.sh (psD [q0 true, q1, q0 false]), .sh (.int 30)]) ?_ rfl
  unfold b_need_manifest
  (repeat (exists h1, h2))
end K48

set_option maxRecDepth 100000
set_option maxHeartbeats 1000000
namespace K48
open PySem PL
theorem add_q (p : List Nat) (h : p.length ≤ 100) : addD (.str "q") (.str (nm p)) = .ok (.str (nm (113 :: p))) := by
  have e : ("q" : Str) = nm [113] := by decide +kernel
  rw [e]
  show gd ((nm [113]).length + (nm p).length ≤ sizeLine) (Res.ok (D.str (nm [113] ++ nm p))) = _
  rw [nm_length, nm_length, gd_pos (sz _ (by simp only [List.length_cons, List.length_nil]; omega))]
  have : nm [113] ++ nm p = nm (113 :: p) := by
    show Str.mk (#[113] ++ p.toArray) = Str.mk (113 :: p).toArray
    simp
  rw [this]
def mQ (k : Nat) : D := .tup [.str (nm (113 :: TL.numL k)), .tup [.int 1, .int 1, .int 1], .str "a", .str "b", .int (k : Int)]
def manyL : List D := (List.range 31).map mQ
theorem num_len : ∀ k : Nat, k < 31 → (TL.numL k).length ≤ 100 := by decide +kernel
theorem many_eq {b p h f : D} : lcE (appO rng1 (aCons (eC (.int 31)) aNil)) 7 yesB E1__law_refused [.sh b, .sh p, .sh h, .sh f, .no, .no, .no, .no] = .ok manyL := by
  have r1 : rng1 [.int 31] = .ok ((List.range 31).map fun k : Nat => .int (k : Int)) := rng1_nat 31 (by decide)
  refine lce_map (enc := fun k : Nat => .int (k : Int)) (xs := List.range 31) (by (repeat (exists r1))) (by rw [List.length_range]; decide) fun k hk => ?_
  have hk := List.mem_range.mp hk
  have h1 := str_num k (Nat.lt_trans hk (by decide))
  have h2 := add_q _ (num_len k hk)
  show E1__law_refused [.sh b, .sh p, .sh h, .sh f, .no, .no, .no, .sh (.int (k : Int))] = .ok (mQ k)
  unfold E1__law_refused mQ
  (repeat (exists h1, h2))
theorem mq0 : mQ 0 = (q0 true).d := by unfold mQ; rw [nL0]; rfl
theorem mq1 : mQ 1 = q1.d := by unfold mQ; rw [nL1]; rfl
theorem many0 : ixD (.lst manyL) (.int 0) = .ok (q0 true).d := by
  rw [← mq0]
  exact j_ixL rfl
theorem many1 : ixD (.lst manyL) (.int 1) = .ok q1.d := by
  rw [← mq1]
  exact j_ixL rfl
theorem ok_bank : PyData.strOk ("bank" : Str) = true := by decide +kernel
theorem ok_man : PyData.strOk ("manifest" : Str) = true := by decide +kernel
theorem ok_his : PyData.strOk ("history" : Str) = true := by decide +kernel
theorem lit_a : ("a" : Str) = nm [97] := by decide +kernel
theorem lit_b : ("b" : Str) = nm [98] := by decide +kernel
theorem lit_q0 : ("q0" : Str) = nm [113, 48] := by decide +kernel
theorem raw_r0 : (.tup [.int 0, .int 0, .str "a", .str "out"] : D) = r0.d := by rw [lit_a]; rfl
theorem raw_q0 : (.tup [.str "q0", .tup [.int 2, .int 2, .int 2], .str "b", .str "a", .int 0] : D) = (q0 false).d := by rw [lit_a, lit_b, lit_q0]; rfl
theorem refused_eq {bank : List Size} {ps : List Par} {hist ftl : List Row} {f0 : Row} (hb : ∀ z ∈ bank, z.ok) (hb0 : 0 < bank.length) (hbl : bank.length ≤ 30) (hp : ∀ p ∈ ps, p.ok) (hpl : ps.length ≤ 30) (hd : (names ps).Nodup)
    (hh : ∀ r ∈ hist, r.ok) (hl : hist.length ≤ 60) (hF : ∀ r ∈ f0 :: ftl, r.ok) (hfl : ftl.length ≤ 59) (hff : faultFrom bank.length [] (f0 :: ftl) = none) (hfe : 30 < (entsOf (f0 :: ftl)).length) :
    m__law_refused [bkD bank, psD ps, .lst (hist.map Row.d), .lst ((f0 :: ftl).map Row.d)] = yes := by
  have B := bank_ok bank hb hbl
  have M := need_manifest_ok ps hp hpl hd
  have m1 := many_eq (b := bkD bank) (p := psD ps) (h := .lst (hist.map Row.d)) (f := .lst ((f0 :: ftl).map Row.d))
  have a1 := all_val (p := .non) (h := .non) ok_bank (ex_bank (bad_cut hb hbl))
  have a2 := all_many (h := .non) (ex_man B (need_manifest_many manyL (by unfold manyL; rw [List.length_map, List.length_range]; decide)))
  have a3 : m__law_all_doors [bkD bank, .lst [(q0 true).d, q1.d, .tup [.str "q0", .tup [.int 2, .int 2, .int 2], .str "b", .str "a", .int 0]], .non, .tup [.str "value", .str "manifest"]] = yes := by rw [raw_q0]; exact all_val (h := .non) ok_man (ex_man B double_bad)
  have a4 := all_val (h := .lst ((f0 :: ftl).map Row.d)) ok_man (ex_man B (need_manifest_no (ps.map Par.d)))
  have a5 := all_val ok_his (ex_reg B M (regular_exc (need_history_no (hist.map Row.d))))
  have a6 := all_many (ex_reg B M (regular_exc out_many))
  have a7 := all_val ok_his (ex_reg B M (outs_bad (rs := hist.take 59) hb0 hbl (by rw [List.length_take]; omega) fun r hr => hh r (List.mem_of_mem_take hr)))
  have a8 := all_val ok_his (ex_reg B M (outs_bad (rs := ftl) hb0 hbl hfl fun r hr => hF r (List.mem_cons_of_mem _ hr)))
  have st := stays_eq (f0 :: ftl) (by simp only [List.length_cons]; omega) hff
  have a9 := all_many (ex_many B M (regular_ok hbl (by simp only [List.length_cons]; omega) hF hff) st (by rw [LS_ents, List.length_map]; exact hfe))
  have c1 : sliceD (.lst (bank.map Size.d ++ [.tup [.int 1, .int 1]])) (some (-30)) none = .ok (.lst (cutG (bank.map Size.d ++ [.tup [.int 1, .int 1]]) (some (-30)) none)) := rfl
  have c2 : sliceD (.lst (hist.map Row.d)) none (some 59) = .ok (.lst ((hist.take 59).map Row.d)) := by
    have := cut_to (hist.map Row.d) 59
    rw [← List.map_take] at this
    exact congrArg (fun x => Res.ok (D.lst x)) this
  have c3 : sliceD (.lst ((f0 :: ftl).map Row.d)) (some 1) none = .ok (.lst (ftl.map Row.d)) := by
    have := cut_post [] f0 ftl
    exact congrArg (fun x => Res.ok (D.lst x)) this
  have u1 : mulD (.lst [.tup [.int 0, .int 0, .str "a", .str "out"]]) (.int 61) = .ok (.lst (List.replicate 61 [r0.d]).flatten) := by rw [raw_r0]; exact mul_nat [r0.d] 61 (by decide) (by decide)
  have l1 : addD (.lst [.tup [.int 0, .int 0, .str "a", .str "out"]]) (.lst ((hist.take 59).map Row.d)) = .ok (.lst ((r0 :: hist.take 59).map Row.d)) := by rw [raw_r0]; exact j_addL _ _ (by simp only [List.length_cons, List.length_nil, List.length_map, List.length_take]; omega)
  have l2 : addD (.lst [.tup [.int 0, .int 0, .str "a", .str "out"]]) (.lst (ftl.map Row.d)) = .ok (.lst ((r0 :: ftl).map Row.d)) := by rw [raw_r0]; exact j_addL _ _ (by simp only [List.length_cons, List.length_nil, List.length_map]; omega)
  have l3 : addD (bkD bank) (.lst [.tup [.int 1, .int 1]]) = .ok (.lst (bank.map Size.d ++ [.tup [.int 1, .int 1]])) := j_addL _ _ (by simp only [List.length_cons, List.length_nil, List.length_map]; omega)
  have m0 := many0
  have m2 := many1
  refine go__law_refused (o := .ret (.sh (.bl true))) ?_ rfl
  unfold b__law_refused
  (repeat (exists m1, m0, m2, c1, c2, c3, u1, l1, l2, l3, a1, a2, a3, a4, a5, a6, a7, a8, a9))
end K48

set_option maxRecDepth 100000
set_option maxHeartbeats 1000000
namespace K48
open PySem PL
def lt36 (i : Nat) : Nat := lets.getD i 0
theorem lt_ix {j : Nat} (hj : j < 36) : ixD LET (.int (j : Int)) = .ok (.str (nm [lt36 j])) := by
  have e : ("abcdefghijklmnopqrstuvwxyz0123456789" : Str).cps.toList = lets := by decide +kernel
  show gd _ (match L2.atI ("abcdefghijklmnopqrstuvwxyz0123456789" : Str).cps.toList (j : Nat) with | some c => Res.ok (D.str ⟨#[c]⟩) | none => .stuck) = _
  have hj2 : j < lets.length := hj
  rw [gd_pos (sz _ (by decide +kernel)), e, atI_nat, List.getElem?_eq_getElem hj2]
  unfold lt36
  rw [List.getD_eq_getElem?_getD, List.getElem?_eq_getElem hj2]
  rfl
theorem lt_inj : ∀ i : Fin 36, ∀ j : Fin 36, lt36 i.1 = lt36 j.1 → i = j := by decide +kernel
theorem lt_ok : ∀ i : Fin 36, (lett (lt36 i.1) || dgt (lt36 i.1)) = true ∧ (i.1 < 26 → lett (lt36 i.1) = true) := by decide +kernel
def dg : Nat → Nat → List Nat
  | 0, _ => []
  | f + 1, r => if r = 0 then [] else lt36 (r % 36) :: dg f (r / 36)
theorem dg_len : ∀ f r : Nat, (dg f r).length ≤ f
  | 0, _ => Nat.le_refl _
  | f + 1, r => by
    unfold dg
    split
    · exact Nat.zero_le _
    · rw [List.length_cons]; have := dg_len f (r / 36); omega
theorem dg_zero : ∀ f : Nat, dg f 0 = []
  | 0 => rfl
  | f + 1 => by unfold dg; rw [if_pos rfl]
theorem dg_ok : ∀ (f r : Nat), ∀ x ∈ dg f r, (lett x || dgt x) = true
  | 0, _, x, h => by cases h
  | f + 1, r, x, h => by
    unfold dg at h
    split at h
    · cases h
    · rcases List.mem_cons.mp h with e | e
      · subst e; exact (lt_ok ⟨r % 36, Nat.mod_lt _ (by decide)⟩).1
      · exact dg_ok f _ x e
theorem dg_inj : ∀ (f a b : Nat), a < 36 ^ f → b < 36 ^ f → dg f a = dg f b → a = b
  | 0, a, b, ha, hb, _ => by simp at ha hb; omega
  | f + 1, a, b, ha, hb, h => by
    unfold dg at h
    by_cases h1 : a = 0
    · by_cases h2 : b = 0
      · omega
      · rw [if_pos h1, if_neg h2] at h; cases h
    · by_cases h2 : b = 0
      · rw [if_neg h1, if_pos h2] at h; cases h
      · rw [if_neg h1, if_neg h2] at h
        obtain ⟨e1, e2⟩ := List.cons.inj h
        have e3 := lt_inj ⟨a % 36, Nat.mod_lt _ (by decide)⟩ ⟨b % 36, Nat.mod_lt _ (by decide)⟩ e1
        have e3 : a % 36 = b % 36 := congrArg Fin.val e3
        rw [Nat.pow_succ] at ha hb
        have e4 := dg_inj f (a / 36) (b / 36) (by omega) (by omega) e2
        omega
def nmF (n : Nat) : List Nat := lt36 (n % 26) :: dg 11 (n / 26)
theorem nmF_ok (n : Nat) : nmOk (nmF n) = true := nq_ok ⟨_, _, rfl, (lt_ok ⟨n % 26, by omega⟩).2 (by show n % 26 < 26; omega), dg_ok 11 _⟩ (by
  unfold nmF
  rw [List.length_cons]
  have := dg_len 11 (n / 26)
  omega)
theorem nmF_inj {a b : Nat} (ha : a < 1000000000) (hb : b < 1000000000) (h : nmF a = nmF b) : a = b := by
  unfold nmF at h
  obtain ⟨e1, e2⟩ := List.cons.inj h
  have e3 := lt_inj ⟨a % 26, by omega⟩ ⟨b % 26, by omega⟩ e1
  have e3 : a % 26 = b % 26 := congrArg Fin.val e3
  have e4 := dg_inj 11 (a / 26) (b / 26) (by omega) (by omega) e2
  omega
theorem name_turns {a0 : Sl} : ∀ (ks : List Nat) (p : List Nat) (rest : Nat) (o : Sl), p.length + ks.length ≤ 12 → ∃ rest' o',
    forL (gN 4) B1__law_name (ks.map fun k : Nat => .int (k : Int)) [a0, .sh LET, .sh (.str (nm p)), .sh (.int (rest : Int)), o] = .next [a0, .sh LET, .sh (.str (nm (p ++ dg ks.length rest))), .sh (.int rest'), o']
  | [], p, rest, o, _ => ⟨rest, o, by rw [show p ++ dg ([] : List Nat).length rest = p from List.append_nil p]; rfl⟩
  | k :: ks, p, rest, o, hl => by
    simp only [List.length_cons] at hl
    by_cases h0 : rest = 0
    · subst h0
      obtain ⟨rest', o', i3⟩ := name_turns (a0 := a0) ks p 0 (.sh (.int (k : Int))) (by omega)
      refine ⟨rest', o', ?_⟩
      rw [List.map_cons, for_cons]
      show lpO _ (B1__law_name [a0, .sh LET, .sh (.str (nm p)), .sh (.int ((0 : Nat) : Int)), .sh (.int (k : Int))]) = _
      have hb : B1__law_name [a0, .sh LET, .sh (.str (nm p)), .sh (.int ((0 : Nat) : Int)), .sh (.int (k : Int))] = .next [a0, .sh LET, .sh (.str (nm p)), .sh (.int ((0 : Nat) : Int)), .sh (.int (k : Int))] := by
        have g1 : gtD (.int ((0 : Nat) : Int)) (.int 0) = .ok (.bl false) := rfl
        unfold B1__law_name
        (repeat (exists g1))
      rw [hb, lp_next, i3, dg_zero, dg_zero]
    · obtain ⟨rest', o', i3⟩ := name_turns (a0 := a0) ks (p ++ [lt36 (rest % 36)]) (rest / 36) (.sh (.int (k : Int))) (by simp only [List.length_append, List.length_cons, List.length_nil]; omega)
      refine ⟨rest', o', ?_⟩
      rw [List.map_cons, for_cons]
      show lpO _ (B1__law_name [a0, .sh LET, .sh (.str (nm p)), .sh (.int (rest : Int)), .sh (.int (k : Int))]) = _
      have e1 := lt_ix (j := rest % 36) (Nat.mod_lt _ (by decide))
      have e1 : ixD LET (.int ((rest : Int) % 36)) = .ok (.str (nm [lt36 (rest % 36)])) := e1
      have e2 := add_nm p (lt36 (rest % 36)) (by omega)
      have h1 : (0 : Int) < (rest : Int) := by omega
      have hb : B1__law_name [a0, .sh LET, .sh (.str (nm p)), .sh (.int (rest : Int)), .sh (.int (k : Int))] = .next [a0, .sh LET, .sh (.str (nm (p ++ [lt36 (rest % 36)]))), .sh (.int ((rest : Int) / 36)), .sh (.int (k : Int))] := by
        unfold B1__law_name
        (repeat (exists e1, e2))
      rw [hb, lp_next]
      show forL (gN 4) B1__law_name _ [a0, .sh LET, .sh (.str (nm (p ++ [lt36 (rest % 36)]))), .sh (.int ((rest / 36 : Nat) : Int)), .sh (.int (k : Int))] = _
      rw [i3]
      have : p ++ [lt36 (rest % 36)] ++ dg ks.length (rest / 36) = p ++ dg (k :: ks).length rest := by
        rw [List.append_assoc]
        show _ = p ++ dg (ks.length + 1) rest
        rw [show dg (ks.length + 1) rest = lt36 (rest % 36) :: dg ks.length (rest / 36) by rw [dg, if_neg h0]]
        rfl
      rw [this]
theorem name_eq (n : Nat) : m__law_name [.int (n : Int)] = .ok (.sh (.str (nm (nmF n)))) := by
  obtain ⟨rest', o', i3⟩ := name_turns (a0 := .sh (.int (n : Int))) (List.range 11) [lt36 (n % 26)] (n / 26) .no (by rw [List.length_range]; show 1 + 11 ≤ 12; decide)
  rw [List.length_range] at i3
  have i3 : forL (gN 4) B1__law_name ((List.range 11).map fun k : Nat => .int (k : Int)) [.sh (.int (n : Int)), .sh LET, .sh (.str (nm [lt36 (n % 26)])), .sh (.int ((n : Int) / 26)), .no] = .next [.sh (.int (n : Int)), .sh LET, .sh (.str (nm (nmF n))), .sh (.int rest'), o'] := i3
  have e1 := lt_ix (j := n % 26) (by omega)
  have e1 : ixD LET (.int ((n : Int) % 26)) = .ok (.str (nm [lt36 (n % 26)])) := e1
  have r1 : rng1 [.int 11] = .ok ((List.range 11).map fun k : Nat => .int (k : Int)) := rng1_nat 11 (by decide)
  refine go__law_name (o := .ret (.sh (.str (nm (nmF n))))) ?_ rfl
  unfold b__law_name
  (repeat (exists e1, r1, i3))
end K48

set_option maxRecDepth 100000
set_option maxHeartbeats 1000000
namespace K48
open PySem PL
theorem ix_draw {xs : List Int} {k : Nat} (h : k < xs.length) : ixD (.lst (xs.map D.int)) (.int (k : Int)) = .ok (.int (xs.getD k 0)) := by
  refine j_ixL ?_
  rw [atI_nat, List.getElem?_map, List.getElem?_eq_getElem h, List.getD_eq_getElem?_getD, List.getElem?_eq_getElem h]
  rfl
theorem draw_in {n : Nat} {lim : Int} {xs : List Int} (h : Draws n lim xs) {k : Nat} (hk : k < n) : 0 ≤ xs.getD k 0 ∧ xs.getD k 0 < lim := by
  have hk2 : k < xs.length := by rw [h.1]; exact hk
  rw [List.getD_eq_getElem?_getD, List.getElem?_eq_getElem hk2]
  exact h.2 _ (List.getElem_mem hk2)
def szK (xs ys zs : List Int) (k : Nat) : Size := ((1 + xs.getD k 0, 1 + ys.getD k 0, 1 + zs.getD k 0) : Int × Int × Int)
theorem sizes_eq (ns : List Int) (a n : Nat) (hn : n ≤ 1000) : ∃ bank : List Size, bank.length = n ∧ (∀ z ∈ bank, z.ok) ∧ m__law_sizes [.scr ns, .int (a : Int), .int (n : Int), .int 4] = .ok (.ow (bank.map Size.d)) := by
  obtain ⟨c1, h1⟩ := cell_eq ns a
  obtain ⟨c2, h2⟩ := cell_eq ns (a + 1)
  obtain ⟨c3, h3⟩ := cell_eq ns (a + 2)
  have h2 : m__law_cell [.scr ns, .int ((a : Int) + 1)] = .ok (.sh (.int c2)) := h2
  have h3 : m__law_cell [.scr ns, .int ((a : Int) + 2)] = .ok (.sh (.int c3)) := h3
  obtain ⟨xs, d1, k1⟩ := draw c1 n 4 hn (by decide) (by decide)
  obtain ⟨ys, d2, k2⟩ := draw c2 n 4 hn (by decide) (by decide)
  obtain ⟨zs, d3, k3⟩ := draw c3 n 4 hn (by decide) (by decide)
  refine ⟨(List.range n).map (szK xs ys zs), by rw [List.length_map, List.length_range], fun z hz => ?_, ?_⟩
  · obtain ⟨k, hk, rfl⟩ := List.mem_map.mp hz
    have hk := List.mem_range.mp hk
    have b1 := draw_in d1 hk
    have b2 := draw_in d2 hk
    have b3 := draw_in d3 hk
    exact ⟨⟨by show 1 ≤ 1 + xs.getD k 0; omega, by show 1 + xs.getD k 0 ≤ 999; omega⟩, ⟨by show 1 ≤ 1 + ys.getD k 0; omega, by show 1 + ys.getD k 0 ≤ 999; omega⟩, by show 1 ≤ 1 + zs.getD k 0; omega, by show 1 + zs.getD k 0 ≤ 999; omega⟩
  · have hl : lcE (appO rng1 (aCons (eVar 2) aNil)) 7 yesB E1__law_sizes [.sh (.scr ns), .sh (.int (a : Int)), .sh (.int (n : Int)), .sh (.int 4), .sh (.lst (xs.map D.int)), .sh (.lst (ys.map D.int)), .sh (.lst (zs.map D.int)), .no] = .ok ((List.range n).map fun k => (szK xs ys zs k).d) := by
      have r1 := rng1_nat n (by omega)
      refine lce_map (enc := fun k : Nat => .int (k : Int)) (xs := List.range n) (by (repeat (exists r1))) (by rw [List.length_range]; omega) fun k hk => ?_
      have hk := List.mem_range.mp hk
      have i1 := ix_draw (xs := xs) (k := k) (by rw [d1.1]; exact hk)
      have i2 := ix_draw (xs := ys) (k := k) (by rw [d2.1]; exact hk)
      have i3 := ix_draw (xs := zs) (k := k) (by rw [d3.1]; exact hk)
      show E1__law_sizes [.sh (.scr ns), .sh (.int (a : Int)), .sh (.int (n : Int)), .sh (.int 4), .sh (.lst (xs.map D.int)), .sh (.lst (ys.map D.int)), .sh (.lst (zs.map D.int)), .sh (.int (k : Int))] = .ok (.tup [.int (1 + xs.getD k 0), .int (1 + ys.getD k 0), .int (1 + zs.getD k 0)])
      unfold E1__law_sizes
      (repeat (exists i1, i2, i3))
    rw [List.map_map]
    refine go__law_sizes (o := .ret (.ow ((List.range n).map fun k => (szK xs ys zs k).d))) ?_ rfl
    unfold b__law_sizes
    (repeat (exists h1, h2, h3, k1, k2, k3, hl))
end K48

set_option maxRecDepth 100000
set_option maxHeartbeats 1000000
namespace K48
open PySem PL
theorem pe_ix {pe : List (List Nat)} {i : Int} (h0 : 0 ≤ i) (h : i < pe.length) : ixD (.lst (nmsD pe)) (.int i) = .ok (.str (nm (pe.getD i.toNat []))) ∧ pe.getD i.toNat [] ∈ pe := by
  obtain ⟨k, rfl⟩ := Int.eq_ofNat_of_zero_le h0
  have hk : k < pe.length := by omega
  rw [Int.toNat_natCast, List.getD_eq_getElem?_getD, List.getElem?_eq_getElem hk]
  refine ⟨j_ixL ?_, List.getElem_mem hk⟩
  show L2.atI (pe.map fun n => D.str (nm n)) (k : Int) = _
  rw [atI_nat, List.getElem?_map, List.getElem?_eq_getElem hk]
  rfl
theorem pe_len (pe : List (List Nat)) : lenL [.lst (nmsD pe)] = .ok (.int (pe.length : Nat)) := by
  rw [j_lenL]
  unfold nmsD
  rw [List.length_map]
def nkF (nn : List Int) (k : Nat) : Nat := 7919 * k + (nn.getD k 0).toNat
def unF (uu : List Int) (k : Nat) : Int := if uu.getD k 0 % 5 = 0 then 0 else 1 + uu.getD k 0
def parF (bank : List Size) (pe : List (List Nat)) (cu co uu nn : List Int) (k : Nat) : Par := ⟨nmF (nkF nn k), zAt bank (k : Int), pe.getD (cu.getD k 0).toNat [], pe.getD (co.getD k 0).toNat [], unF uu k⟩
theorem man_body {scr : D} {m k : Nat} {bank : List Size} {pe : List (List Nat)} {cu co uu nn : List Int} {acc : List D} {o : Sl} (hm : m ≤ 30) (hk : k < m) (hb : bank.length = m) (d1 : Draws m pe.length cu) (d2 : Draws m pe.length co) (d3 : Draws m 100 uu) (d4 : Draws m 7919 nn) (ha : acc.length ≤ 60) :
    ∃ o', B1__law_manifest [.sh scr, .sh (.int (m : Int)), .sh (.int 4), .sh (.lst (nmsD pe)), .sh (bkD bank), .sh (.lst (cu.map D.int)), .sh (.lst (co.map D.int)), .sh (.lst (uu.map D.int)), .sh (.lst (nn.map D.int)), .ow (.lst acc), .sh (.int (k : Int)), o] =
      .next [.sh scr, .sh (.int (m : Int)), .sh (.int 4), .sh (.lst (nmsD pe)), .sh (bkD bank), .sh (.lst (cu.map D.int)), .sh (.lst (co.map D.int)), .sh (.lst (uu.map D.int)), .sh (.lst (nn.map D.int)), .ow (.lst (acc ++ [(parF bank pe cu co uu nn k).d])), .sh (.int (k : Int)), o'] := by
  have i1 := ix_draw (xs := cu) (k := k) (by rw [d1.1]; exact hk)
  have i2 := ix_draw (xs := co) (k := k) (by rw [d2.1]; exact hk)
  have i3 := ix_draw (xs := uu) (k := k) (by rw [d3.1]; exact hk)
  have i4 := ix_draw (xs := nn) (k := k) (by rw [d4.1]; exact hk)
  have b1 := draw_in d1 hk
  have b2 := draw_in d2 hk
  have b4 := draw_in d4 hk
  have p1 := (pe_ix b1.1 b1.2).1
  have p2 := (pe_ix b2.1 b2.2).1
  have z1 := bank_ix (bank := bank) (b := (k : Int)) (by omega) (by omega)
  have n1 := name_eq (nkF nn k)
  have e1 : ((nkF nn k : Nat) : Int) = 7919 * (k : Int) + nn.getD k 0 := by unfold nkF; omega
  rw [e1] at n1
  have hmul : mulD (.int 7919) (.int (k : Int)) = .ok (.int (7919 * (k : Int))) := j_mulI _ _ (by decide) (by omega)
  unfold parF Par.d unF
  by_cases h5 : uu.getD k 0 % 5 = 0
  · rw [if_pos h5]
    refine ⟨.sh (.int 0), ?_⟩
    unfold B1__law_manifest
    (repeat (exists i1, i2, i3, i4, p1, p2, z1, n1, hmul))
  · rw [if_neg h5]
    refine ⟨.sh (.int (1 + uu.getD k 0)), ?_⟩
    unfold B1__law_manifest
    (repeat (exists i1, i2, i3, i4, p1, p2, z1, n1, hmul))
theorem manifest_eq (ns : List Int) (m : Nat) (hm : m ≤ 30) {pe : List (List Nat)} (hp0 : 0 < pe.length) (hpl : pe.length ≤ 60) (hp : ∀ p ∈ pe, nmOk p = true) : ∃ ps : List Par, ps.length = m ∧ (∀ p ∈ ps, p.ok) ∧ (names ps).Nodup ∧
    m__law_manifest [.scr ns, .int (m : Int), .int 4, .lst (nmsD pe)] = .ok (.ow (ps.map Par.d)) := by
  obtain ⟨bank, hb, hbo, s1⟩ := sizes_eq ns 4 m (by omega)
  have s1 : m__law_sizes [.scr ns, .int 4, .int (m : Int), .int 4] = .ok (.ow (bank.map Size.d)) := s1
  obtain ⟨c1, g1⟩ := cell_eq ns 7
  obtain ⟨c2, g2⟩ := cell_eq ns 8
  obtain ⟨c3, g3⟩ := cell_eq ns 9
  obtain ⟨c4, g4⟩ := cell_eq ns 10
  have g1 : m__law_cell [.scr ns, .int 7] = .ok (.sh (.int c1)) := g1
  have g2 : m__law_cell [.scr ns, .int 8] = .ok (.sh (.int c2)) := g2
  have g3 : m__law_cell [.scr ns, .int 9] = .ok (.sh (.int c3)) := g3
  have g4 : m__law_cell [.scr ns, .int 10] = .ok (.sh (.int c4)) := g4
  obtain ⟨cu, d1, k1⟩ := draw c1 m pe.length (by omega) (by omega) (by omega)
  obtain ⟨co, d2, k2⟩ := draw c2 m pe.length (by omega) (by omega) (by omega)
  obtain ⟨uu, d3, k3⟩ := draw c3 m 100 (by omega) (by decide) (by decide)
  obtain ⟨nn, d4, k4⟩ := draw c4 m 7919 (by omega) (by decide) (by decide)
  have l1 := pe_len pe
  refine ⟨(List.range m).map (parF bank pe cu co uu nn), by rw [List.length_map, List.length_range], fun p hq => ?_, ?_, ?_⟩
  · obtain ⟨k, hk, rfl⟩ := List.mem_map.mp hq
    have hk := List.mem_range.mp hk
    have b1 := draw_in d1 hk
    have b2 := draw_in d2 hk
    have b3 := draw_in d3 hk
    have hz : (zAt bank (k : Int)).ok := by
      unfold zAt
      rw [Int.toNat_natCast, List.getElem?_eq_getElem (by omega)]
      exact hbo _ (List.getElem_mem _)
    refine ⟨nmF_ok _, hz, hp _ (pe_ix b1.1 b1.2).2, hp _ (pe_ix b2.1 b2.2).2, ?_⟩
    show 0 ≤ unF uu k ∧ unF uu k ≤ 1000000
    unfold unF
    split <;> omega
  · unfold names
    rw [List.map_map]
    refine List.pairwise_map.mpr (List.Pairwise.imp_of_mem (fun {a b} ha hb hne he => hne ?_) List.nodup_range)
    have ha := List.mem_range.mp ha
    have hb := List.mem_range.mp hb
    have b1 := draw_in d4 ha
    have b2 := draw_in d4 hb
    have he : nmF (nkF nn a) = nmF (nkF nn b) := he
    have e2 := nmF_inj (by unfold nkF; omega) (by unfold nkF; omega) he
    unfold nkF at e2
    omega
  · obtain ⟨ρ', hf, o10, o11, e1⟩ := for_inv (enc := fun k : Nat => .int (k : Int)) (t := gN 10) (B := B1__law_manifest) (fun (dn : List Nat) ρ => ∃ o10 o11, ρ = [.sh (.scr ns), .sh (.int (m : Int)), .sh (.int 4), .sh (.lst (nmsD pe)), .sh (bkD bank), .sh (.lst (cu.map D.int)), .sh (.lst (co.map D.int)), .sh (.lst (uu.map D.int)), .sh (.lst (nn.map D.int)), .ow (.lst (dn.map fun k => (parF bank pe cu co uu nn k).d)), o10, o11]) (List.range m) [] [.sh (.scr ns), .sh (.int (m : Int)), .sh (.int 4), .sh (.lst (nmsD pe)), .sh (bkD bank), .sh (.lst (cu.map D.int)), .sh (.lst (co.map D.int)), .sh (.lst (uu.map D.int)), .sh (.lst (nn.map D.int)), .ow (.lst []), .no, .no] ⟨.no, .no, rfl⟩ fun dn x rest ρ e h => by
      obtain ⟨o10, o11, rfl⟩ := h
      rw [List.nil_append] at e
      have hx : x < m := List.mem_range.mp (by rw [e]; simp)
      have hdn : dn.length ≤ 60 := by
        have := congrArg List.length e
        simp only [List.length_append, List.length_cons, List.length_range] at this
        omega
      obtain ⟨o', hbd⟩ := man_body (scr := .scr ns) (o := o11) (acc := dn.map fun k => (parF bank pe cu co uu nn k).d) hm hx hb d1 d2 d3 d4 (by rw [List.length_map]; exact hdn)
      refine ⟨_, _, rfl, hbd, .sh (.int (x : Int)), o', ?_⟩
      rw [List.map_append]
      rfl
    subst e1
    have r1 := rng1_nat m (by omega)
    rw [List.map_map]
    rw [List.nil_append] at hf
    refine go__law_manifest (o := .ret (.ow ((List.range m).map fun k => (parF bank pe cu co uu nn k).d))) ?_ rfl
    unfold b__law_manifest
    (repeat (exists s1, g1, g2, g3, g4, k1, k2, k3, k4, l1, r1, hf))
end K48

set_option maxRecDepth 100000
set_option maxHeartbeats 1000000
namespace K48
open PySem PL
/-! ## numbers in a list -/
def usL (us : List Nat) : List D := us.map fun k : Nat => .int (k : Int)
theorem ints_can : ∀ us : List Nat, PyData.canLayAll0 (toPys (usL us)) = true ∧ PyData.depthAll (toPys (usL us)) ≤ 1
  | [] => by constructor <;> simp [usL, toPys, PyData.canLayAll0, PyData.depthAll]
  | n :: us => by
    obtain ⟨h1, h2⟩ := ints_can us
    unfold usL at *
    rw [List.map_cons]
    simp only [toPys, toPy, PyData.canLayAll0, PyData.canLay0, PyData.depthAll, PyData.depth, h1]
    constructor
    · rfl
    · omega
theorem shp_us (us : List Nat) : shp (.lst (usL us)) = true := by
  obtain ⟨h1, h2⟩ := ints_can us
  unfold shp SeqAt.shaped
  simp only [toPy, PyData.canLay0, PyData.depth, h1, Bool.true_and]
  exact decide_eq_true (by omega)
theorem any_us (a : Nat) : ∀ us : List Nat, ((usL us).any fun x => eqv x (.int (a : Int))) = decide (a ∈ us)
  | [] => rfl
  | n :: us => by
    have h : eqv (.int (n : Int)) (.int (a : Int)) = decide (a = n) := by
      show (((n : Nat) : Int) == ((a : Nat) : Int)) = _
      rw [Bool.beq_eq_decide_eq, decide_eq_decide]
      omega
    show (eqv (.int (n : Int)) (.int (a : Int)) || (usL us).any fun x => eqv x (.int (a : Int))) = _
    rw [h, any_us a us]
    simp only [List.mem_cons, Bool.decide_or]
theorem notin_us (a : Nat) (us : List Nat) : notInD (.int (a : Int)) (.lst (usL us)) = .ok (.bl (!decide (a ∈ us))) := by
  show gd (shp (.int (a : Int)) = true ∧ shp (.lst (usL us)) = true) (Res.ok (D.bl (!(usL us).any fun x => eqv x (.int (a : Int))))) = _
  rw [gd_pos ⟨rfl, shp_us us⟩, any_us]
theorem ps_len (ps : List Par) : lenL [psD ps] = .ok (.int (ps.length : Nat)) := by rw [j_lenL, List.length_map]
/-! ## _law_next -/
theorem next_body {bank : List Size} {ps : List Par} {us : List Nat} {first b t : Int} {k : Nat} {o7 o8 : Sl} (hm : 0 < ps.length) (hz : ixD (bkD bank) (.int b) = .ok (zAt bank b).d) :
    (∃ p7 p8, B1__law_next [.sh (bkD bank), .sh (psD ps), .sh (.lst (usL us)), .sh (.int first), .sh (.int b), .sh (.int t), .sh (.int (k : Int)), o7, o8] = .next [.sh (bkD bank), .sh (psD ps), .sh (.lst (usL us)), .sh (.int first), .sh (.int b), .sh (.int t), .sh (.int (k : Int)), p7, p8]) ∨
    ∃ j : Nat, j < ps.length ∧ j ∉ us ∧ B1__law_next [.sh (bkD bank), .sh (psD ps), .sh (.lst (usL us)), .sh (.int first), .sh (.int b), .sh (.int t), .sh (.int (k : Int)), o7, o8] = .ret (.sh (.int (j : Int))) := by
  obtain ⟨j, hj⟩ := Int.eq_ofNat_of_zero_le (Int.emod_nonneg (first + (k : Int)) (b := (ps.length : Int)) (by omega))
  have hjm : j < ps.length := by
    have := Int.emod_lt_of_pos (first + (k : Int)) (b := (ps.length : Int)) (by omega)
    omega
  have l1 := ps_len ps
  have g1 : modD (.int (first + (k : Int))) (.int (ps.length : Int)) = .ok (.int (j : Int)) := by rw [← hj]; exact j_modI _ _ (by omega)
  have p1 := par_at hjm
  have p2 := par_ix1 ps[j]
  have p3 := par_ix4 ps[j]
  have n1 := notin_us j us
  have f1 := law_fits_eq ps[j].s (zAt bank b)
  by_cases h1 : j ∈ us
  · rw [decide_eq_true h1] at n1
    have n1 : notInD (.int (j : Int)) (.lst (usL us)) = .ok (.bl false) := n1
    refine .inl ⟨.sh (.int (j : Int)), .sh ps[j].d, ?_⟩
    unfold B1__law_next
    (repeat (exists l1, g1, p1, n1))
  · rw [decide_eq_false h1] at n1
    have n1 : notInD (.int (j : Int)) (.lst (usL us)) = .ok (.bl true) := n1
    cases h2 : fitB ps[j].s (zAt bank b) with
    | false =>
      rw [h2] at f1
      refine .inl ⟨.sh (.int (j : Int)), .sh ps[j].d, ?_⟩
      unfold B1__law_next
      (repeat (exists l1, g1, p1, n1, p2, hz, f1))
    | true =>
      rw [h2] at f1
      by_cases h3 : ps[j].u = 0
      · refine .inr ⟨j, hjm, h1, ?_⟩
        unfold B1__law_next
        (repeat (exists l1, g1, p1, n1, p2, hz, f1, p3))
      · by_cases h4 : t < ps[j].u
        · refine .inr ⟨j, hjm, h1, ?_⟩
          unfold B1__law_next
          (repeat (exists l1, g1, p1, n1, p2, hz, f1, p3))
        · refine .inl ⟨.sh (.int (j : Int)), .sh ps[j].d, ?_⟩
          unfold B1__law_next
          (repeat (exists l1, g1, p1, n1, p2, hz, f1, p3))
theorem next_loop {bank : List Size} {ps : List Par} {us : List Nat} {first b t : Int} (hm : 0 < ps.length) (hz : ixD (bkD bank) (.int b) = .ok (zAt bank b).d) : ∀ (ks : List Nat) (o6 o7 o8 : Sl),
    (∃ p6 p7 p8, forL (gN 6) B1__law_next (ks.map fun k : Nat => .int (k : Int)) [.sh (bkD bank), .sh (psD ps), .sh (.lst (usL us)), .sh (.int first), .sh (.int b), .sh (.int t), o6, o7, o8] = .next [.sh (bkD bank), .sh (psD ps), .sh (.lst (usL us)), .sh (.int first), .sh (.int b), .sh (.int t), p6, p7, p8]) ∨
    ∃ j : Nat, j < ps.length ∧ j ∉ us ∧ forL (gN 6) B1__law_next (ks.map fun k : Nat => .int (k : Int)) [.sh (bkD bank), .sh (psD ps), .sh (.lst (usL us)), .sh (.int first), .sh (.int b), .sh (.int t), o6, o7, o8] = .ret (.sh (.int (j : Int)))
  | [], o6, o7, o8 => .inl ⟨o6, o7, o8, rfl⟩
  | k :: ks, o6, o7, o8 => by
    rw [List.map_cons, for_cons]
    show (∃ p6 p7 p8, lpO _ (B1__law_next [.sh (bkD bank), .sh (psD ps), .sh (.lst (usL us)), .sh (.int first), .sh (.int b), .sh (.int t), .sh (.int (k : Int)), o7, o8]) = _) ∨ ∃ j : Nat, _ ∧ _ ∧ lpO _ (B1__law_next [.sh (bkD bank), .sh (psD ps), .sh (.lst (usL us)), .sh (.int first), .sh (.int b), .sh (.int t), .sh (.int (k : Int)), o7, o8]) = _
    rcases next_body (us := us) (first := first) (t := t) (k := k) (o7 := o7) (o8 := o8) hm hz with ⟨p7, p8, e⟩ | ⟨j, h1, h2, e⟩
    · rw [e, lp_next]
      exact next_loop hm hz ks _ p7 p8
    · rw [e]
      exact .inr ⟨j, h1, h2, rfl⟩
theorem next_eq {bank : List Size} {ps : List Par} (us : List Nat) (first t : Int) {b : Int} (hm : 0 < ps.length) (hl : ps.length ≤ 60) (h0 : 0 ≤ b) (hb : b < bank.length) :
    m__law_next [bkD bank, psD ps, .lst (usL us), .int first, .int b, .int t] = .ok (.sh (.int (-1))) ∨ ∃ j : Nat, j < ps.length ∧ j ∉ us ∧ m__law_next [bkD bank, psD ps, .lst (usL us), .int first, .int b, .int t] = .ok (.sh (.int (j : Int))) := by
  have l1 := ps_len ps
  have r1 := rng1_nat ps.length (by omega)
  rcases next_loop (us := us) (first := first) (t := t) hm (bank_ix h0 hb) (List.range ps.length) .no .no .no with ⟨p6, p7, p8, e⟩ | ⟨j, h1, h2, e⟩
  · left
    refine go__law_next (o := .ret (.sh (.int (-1)))) ?_ rfl
    unfold b__law_next
    (repeat (exists l1, r1, e))
  · right
    refine ⟨j, h1, h2, ?_⟩
    refine go__law_next (o := .ret (.sh (.int (j : Int)))) ?_ rfl
    unfold b__law_next
    (repeat (exists l1, r1, e))
/-! ## a history that grows -/
theorem fault_snoc {n : Nat} {r : Row} : ∀ (rs pre : List Row), faultFrom n pre rs = none → faultAt n (pre ++ rs) r = none → faultFrom n pre (rs ++ [r]) = none
  | [], pre, _, h => by
    rw [List.append_nil] at h
    show faultFrom n pre [r] = none
    unfold faultFrom
    rw [h]
    rfl
  | x :: rs, pre, h1, h2 => by
    rw [List.cons_append]
    unfold faultFrom at h1 ⊢
    cases hx : faultAt n pre x with
    | some s => rw [hx] at h1; cases h1
    | none =>
      rw [hx] at h1
      exact fault_snoc rs (pre ++ [x]) h1 (by rw [List.append_assoc]; exact h2)
theorem ents_snoc (rs : List Row) (r : Row) : (entsOf (rs ++ [r])).length = (entsOf rs).length + (if r.w = true then 1 else 0) := by
  induction rs with
  | nil =>
    show (entsOf [r]).length = _
    unfold entsOf
    split <;> rfl
  | cons x rs ih =>
    rw [List.cons_append]
    unfold entsOf
    by_cases h : x.w = true
    · rw [if_pos h, if_pos h, List.length_cons, List.length_cons, ih]; omega
    · rw [if_neg h, if_neg h, ih]
end K48

set_option maxRecDepth 100000
set_option maxHeartbeats 1000000
namespace K48
open PySem PL
theorem for_invc {α : Type} {enc : α → D} {t : D → En → Res En} {B : En → Out} (I : List α → En → Prop) : ∀ (xs done : List α) (ρ : En), I done ρ →
    (∀ dn x rest ρ, done ++ xs = dn ++ x :: rest → I dn ρ → ∃ ρ1 ρ', t (enc x) ρ = .ok ρ1 ∧ (B ρ1 = .next ρ' ∨ B ρ1 = .cont ρ') ∧ I (dn ++ [x]) ρ') → ∃ ρ', forL t B (xs.map enc) ρ = .next ρ' ∧ I (done ++ xs) ρ'
  | [], done, ρ, h0, _ => ⟨ρ, rfl, by rw [List.append_nil]; exact h0⟩
  | x :: xs, done, ρ, h0, hs => by
    obtain ⟨ρ1, ρ', e1, e2, e3⟩ := hs done x xs ρ rfl h0
    obtain ⟨ρ2, e4, e5⟩ := for_invc I xs (done ++ [x]) ρ' e3 fun dn y rest ρ e => hs dn y rest ρ (by rw [← e, List.append_assoc]; rfl)
    refine ⟨ρ2, ?_, by rw [List.append_assoc] at e5; exact e5⟩
    rw [List.map_cons]
    unfold forL
    rcases e2 with e2 | e2
    · simp only [e1, e2, lp_next]
      exact e4
    · simp only [e1, e2]
      exact e4
def heldL (f : Nat → Int) : List D := (List.range 30).map fun b => .int (f b)
theorem held_get (f : Nat → Int) {b : Nat} (h : b < 30) : ixD (.lst (heldL f)) (.int (b : Int)) = .ok (.int (f b)) := by
  refine j_ixL ?_
  unfold heldL
  rw [atI_nat, List.getElem?_map, List.getElem?_eq_getElem (by rw [List.length_range]; exact h), List.getElem_range]
  rfl
theorem held_put (f : Nat → Int) {b : Nat} (v : Int) (h : b < 30) : putAt (heldL f) (.int v) (.int (b : Int)) = .ok (heldL fun x => if x = b then v else f x) := by
  refine j_put (ixN_of rfl (by unfold heldL; rw [List.length_map, List.length_range]; exact h)) ?_
  refine List.ext_getElem (by unfold heldL; simp) fun i h1 h2 => ?_
  unfold heldL at *
  rw [List.getElem_set]
  simp only [List.getElem_map, List.getElem_range]
  by_cases k : b = i
  · rw [if_pos k, if_pos k.symm]
  · rw [if_neg k, if_neg fun e => k e.symm]
structure HI (n m dn : Nat) (f : Nat → Int) (us : List Nat) (t : Int) (pre : List Row) : Prop where
  held : ∀ b : Nat, b < 30 → (f b = -1 ∧ lastIn pre (b : Int) = false) ∨ ∃ j : Nat, j < m ∧ f b = (j : Int) ∧ lastIn pre (b : Int) = true
  nd : us.Nodup
  lt : ∀ j ∈ us, j < m
  ok : ∀ r ∈ pre, r.ok ∧ r.b < n
  ft : faultFrom n [] pre = none
  t1 : lastT pre ≤ t
  t2 : 0 ≤ t
  t3 : t ≤ 3 * dn
  en : (entsOf pre).length ≤ us.length
  ln : pre.length ≤ dn
theorem HI.add {n m dn : Nat} {f : Nat → Int} {us us' : List Nat} {t s v : Int} {pre : List Row} {b : Nat} {p : List Nat} {w : Bool} (h : HI n m dn f us t pre) (hn : n ≤ 30) (hb : b < n) (hp : nmOk p = true) (hd : dn < 60) (hs0 : 0 ≤ s) (hs : s < 4)
    (hw : lastIn pre (b : Int) = !w) (hv : if w = true then ∃ j : Nat, j < m ∧ v = (j : Int) else v = -1) (hu : us'.Nodup) (hul : ∀ j ∈ us', j < m) (hun : us.length + (if w = true then 1 else 0) ≤ us'.length) :
    HI n m (dn + 1) (fun x => if x = b then v else f x) us' (t + s) (pre ++ [⟨t + s, (b : Int), p, w⟩]) := by
  have ro : Row.ok ⟨t + s, (b : Int), p, w⟩ := by
    have := h.t2
    have := h.t3
    exact ⟨by show 0 ≤ t + s; omega, by show t + s ≤ 1000000; omega, by show 0 ≤ (b : Int); omega, by show (b : Int) ≤ 29; omega, hp⟩
  refine ⟨fun x hx => ?_, hu, hul, fun r hr => ?_, ?_, ?_, ?_, ?_, ?_, ?_⟩
  · rw [lastIn_snoc]
    by_cases k : x = b
    · subst k
      rw [if_pos rfl, if_pos rfl]
      cases w with
      | true => rw [if_pos rfl] at hv; obtain ⟨j, h1, h2⟩ := hv; exact .inr ⟨j, h1, h2, rfl⟩
      | false => exact .inl ⟨by simpa using hv, rfl⟩
    · rw [if_neg k, if_neg (by show ¬ (x : Int) = (b : Int); omega)]
      exact h.held x hx
  · rcases List.mem_append.mp hr with e | e
    · exact h.ok r e
    · rw [List.mem_singleton.mp e]; exact ⟨ro, by show (b : Int) < n; omega⟩
  · refine fault_snoc pre [] h.ft ?_
    rw [List.nil_append]
    unfold faultAt
    rw [if_neg (by show ¬ (n : Int) ≤ (b : Int); omega)]
    have he : early pre ⟨t + s, (b : Int), p, w⟩ = false := by
      rw [← early_eq ro]
      have := h.t1
      exact decide_eq_false (by show ¬ t + s < lastT pre; omega)
    rw [he, hw]
    cases w <;> rfl
  · rw [lastT_snoc]; exact Int.le_refl _
  · have := h.t2; omega
  · have := h.t3; omega
  · rw [ents_snoc]; have := h.en; show (entsOf pre).length + (if w = true then 1 else 0) ≤ us'.length; omega
  · rw [List.length_append]; have := h.ln; simp only [List.length_cons, List.length_nil]; omega
end K48

set_option maxRecDepth 100000
set_option maxHeartbeats 1000000
namespace K48
open PySem PL
theorem HI.skip {n m dn : Nat} {f : Nat → Int} {us : List Nat} {t s : Int} {pre : List Row} (h : HI n m dn f us t pre) (hs0 : 0 ≤ s) (hs : s < 4) : HI n m (dn + 1) f us (t + s) pre := by
  obtain ⟨h1, h2, h3, h4, h5, h6, h7, h8, h9, h10⟩ := h
  exact ⟨h1, h2, h3, h4, h5, by omega, by omega, by omega, h9, by omega⟩
theorem us_snoc (us : List Nat) (j : Nat) : usL us ++ [.int (j : Int)] = usL (us ++ [j]) := by unfold usL; rw [List.map_append]; rfl
theorem bk_len (bank : List Size) : lenL [bkD bank] = .ok (.int (bank.length : Nat)) := by rw [j_lenL, List.length_map]
theorem nodup_len : ∀ {m : Nat} {us : List Nat}, us.Nodup → (∀ j ∈ us, j < m) → us.length ≤ m
  | 0, [], _, _ => Nat.le_refl _
  | 0, x :: us, _, h => absurd (h x List.mem_cons_self) (Nat.not_lt_zero _)
  | m + 1, us, hd, h => by
    by_cases k : m ∈ us
    · have e := nodup_len (m := m) (us := us.erase m) (hd.erase m) fun j hj => by
        have hj := (hd.mem_erase_iff).mp hj
        have := h j hj.2
        omega
      rw [List.length_erase_of_mem k] at e
      omega
    · have := nodup_len (m := m) hd fun j hj => by
        have h1 := h j hj
        have : j ≠ m := fun e => k (e ▸ hj)
        omega
      omega
def HS (scr : D) (L : Nat) (bank : List Size) (ps : List Par) (pe : List (List Nat)) (noise : Int) (wh pk st wo : List Int) (dn : Nat) (ρ : En) : Prop :=
  ∃ (f : Nat → Int) (us : List Nat) (t : Int) (pre : List Row) (o14 o15 o16 o17 o18 : Sl), HI bank.length ps.length dn f us t pre ∧
    ρ = [.sh scr, .sh (.int (L : Int)), .sh (bkD bank), .sh (psD ps), .sh (.lst (nmsD pe)), .sh (.int noise), .sh (.lst (wh.map D.int)), .sh (.lst (pk.map D.int)), .sh (.lst (st.map D.int)), .sh (.lst (wo.map D.int)), .ow (.lst (heldL f)), .ow (.lst (usL us)), .sh (.int t), .ow (.lst (pre.map Row.d)), o14, o15, o16, o17, o18]
theorem hist_body {scr : D} {L k : Nat} {bank : List Size} {ps : List Par} {pe : List (List Nat)} {noise : Int} {wh pk st wo : List Int} (hb0 : 0 < bank.length) (hbl : bank.length ≤ 30) (hp0 : 0 < ps.length) (hpl : ps.length ≤ 30) (hp : ∀ p ∈ ps, p.ok) (he0 : 0 < pe.length) (hpe : ∀ p ∈ pe, nmOk p = true)
    (hL : L ≤ 60) (hk : k < L) (d1 : Draws L 30 wh) (d2 : Draws L 30 pk) (d3 : Draws L 4 st) (d4 : Draws L 60 wo) {ρ : En} (h : HS scr L bank ps pe noise wh pk st wo k ρ) :
    ∃ ρ1 ρ', gN 14 (.int (k : Int)) ρ = .ok ρ1 ∧ (B1__law_history ρ1 = .next ρ' ∨ B1__law_history ρ1 = .cont ρ') ∧ HS scr L bank ps pe noise wh pk st wo (k + 1) ρ' := by
  obtain ⟨f, us, t, pre, o14, o15, o16, o17, o18, hi, rfl⟩ := h
  have b3 := draw_in d3 hk
  have b4 := draw_in d4 hk
  have i1 := ix_draw (xs := wh) (k := k) (by rw [d1.1]; exact hk)
  have i2 := ix_draw (xs := pk) (k := k) (by rw [d2.1]; exact hk)
  have i3 := ix_draw (xs := st) (k := k) (by rw [d3.1]; exact hk)
  have i4 := ix_draw (xs := wo) (k := k) (by rw [d4.1]; exact hk)
  obtain ⟨b, hbe⟩ := Int.eq_ofNat_of_zero_le (Int.emod_nonneg (wh.getD k 0) (b := (bank.length : Int)) (by omega))
  have hb : b < bank.length := by
    have := Int.emod_lt_of_pos (wh.getD k 0) (b := (bank.length : Int)) (by omega)
    omega
  have l1 := bk_len bank
  have l2 := pe_len pe
  have g1 : modD (.int (wh.getD k 0)) (.int (bank.length : Int)) = .ok (.int (b : Int)) := by rw [← hbe]; exact j_modI _ _ (by omega)
  have hg := held_get f (b := b) (by omega)
  have b5 : 0 ≤ (wo.getD k 0 / 12) % (pe.length : Int) ∧ (wo.getD k 0 / 12) % (pe.length : Int) < (pe.length : Int) := ⟨Int.emod_nonneg _ (by omega), Int.emod_lt_of_pos _ (by omega)⟩
  obtain ⟨q1, q2⟩ := pe_ix b5.1 b5.2
  have hul := nodup_len hi.nd hi.lt
  have z1 : (usL us).length ≤ 60 := by unfold usL; rw [List.length_map]; omega
  have z2 : (pre.map Row.d).length ≤ 60 := by rw [List.length_map]; have := hi.ln; omega
  have fin : ∀ (w : Bool) (v : Int) (us' : List Nat) (p : List Nat) (o14 o15 o16 o17 o18 : Sl), nmOk p = true → lastIn pre (b : Int) = (!w) → (if w = true then ∃ j : Nat, j < ps.length ∧ v = (j : Int) else v = -1) → us'.Nodup → (∀ j ∈ us', j < ps.length) → us.length + (if w = true then 1 else 0) ≤ us'.length →
      HS scr L bank ps pe noise wh pk st wo (k + 1) [.sh scr, .sh (.int (L : Int)), .sh (bkD bank), .sh (psD ps), .sh (.lst (nmsD pe)), .sh (.int noise), .sh (.lst (wh.map D.int)), .sh (.lst (pk.map D.int)), .sh (.lst (st.map D.int)), .sh (.lst (wo.map D.int)), .ow (.lst (heldL fun x => if x = b then v else f x)), .ow (.lst (usL us')), .sh (.int (t + st.getD k 0)), .ow (.lst (pre.map Row.d ++ [.tup [.int (t + st.getD k 0), .int (b : Int), .str (nm p), .str (way w)]])), o14, o15, o16, o17, o18] :=
    fun w v us' p o14 o15 o16 o17 o18 h1 h2 h3 h4 h5 h6 => ⟨_, us', _, pre ++ [⟨t + st.getD k 0, (b : Int), p, w⟩], o14, o15, o16, o17, o18, hi.add hbl hb h1 (by omega) b3.1 b3.2 h2 h3 h4 h5 h6, by rw [List.map_append]; rfl⟩
  rcases hi.held b (by omega) with ⟨f1, f2⟩ | ⟨j, hj, f1, f2⟩
  · rw [f1] at hg
    rcases next_eq (bank := bank) (ps := ps) us (pk.getD k 0) (t + st.getD k 0) (b := (b : Int)) hp0 (by omega) (by omega) (by omega) with n1 | ⟨j, hj, hju, n1⟩
    · refine ⟨_, [.sh scr, .sh (.int (L : Int)), .sh (bkD bank), .sh (psD ps), .sh (.lst (nmsD pe)), .sh (.int noise), .sh (.lst (wh.map D.int)), .sh (.lst (pk.map D.int)), .sh (.lst (st.map D.int)), .sh (.lst (wo.map D.int)), .ow (.lst (heldL f)), .ow (.lst (usL us)), .sh (.int (t + st.getD k 0)), .ow (.lst (pre.map Row.d)), .sh (.int (k : Int)), .sh (.int (b : Int)), .sh (.int (-1)), o17, o18], rfl, .inr ?_, f, us, _, pre, _, _, _, _, _, hi.skip b3.1 b3.2, rfl⟩
      show B1__law_history [.sh scr, .sh (.int (L : Int)), .sh (bkD bank), .sh (psD ps), .sh (.lst (nmsD pe)), .sh (.int noise), .sh (.lst (wh.map D.int)), .sh (.lst (pk.map D.int)), .sh (.lst (st.map D.int)), .sh (.lst (wo.map D.int)), .ow (.lst (heldL f)), .ow (.lst (usL us)), .sh (.int t), .ow (.lst (pre.map Row.d)), .sh (.int (k : Int)), o15, o16, o17, o18] = _
      unfold B1__law_history
      (repeat (exists i1, i2, i3, l1, g1, hg, n1))
    · have p1 := par_at hj
      have pt := putter_eq ps[j]
      have hput := held_put f (j : Int) (b := b) (by omega)
      have ph := hp _ (List.getElem_mem hj)
      have hpp : nmOk (putterN ps[j]) = true := by
        unfold putterN
        split
        · exact ph.2.2.1
        · exact ph.2.2.2.1
      have hnd : (us ++ [j]).Nodup := List.nodup_append.mpr ⟨hi.nd, by simp, fun a ha c hc e => by
        rw [List.mem_singleton.mp hc] at e
        exact hju (e ▸ ha)⟩
      have hlt : ∀ x ∈ us ++ [j], x < ps.length := fun x hx => by
        rcases List.mem_append.mp hx with e | e
        · exact hi.lt x e
        · rw [List.mem_singleton.mp e]; exact hj
      by_cases hN : wo.getD k 0 % 12 < noise
      · refine ⟨_, [.sh scr, .sh (.int (L : Int)), .sh (bkD bank), .sh (psD ps), .sh (.lst (nmsD pe)), .sh (.int noise), .sh (.lst (wh.map D.int)), .sh (.lst (pk.map D.int)), .sh (.lst (st.map D.int)), .sh (.lst (wo.map D.int)), .ow (.lst (heldL fun x => if x = b then (j : Int) else f x)), .ow (.lst (usL us ++ [.int (j : Int)])), .sh (.int (t + st.getD k 0)), .ow (.lst (pre.map Row.d ++ [.tup [.int (t + st.getD k 0), .int (b : Int), .str (nm (pe.getD (wo.getD k 0 / 12 % (pe.length : Int)).toNat [])), .str "in"]])), .sh (.int (k : Int)), .sh (.int (b : Int)), .sh (.int (j : Int)), .sh (.str (nm (pe.getD (wo.getD k 0 / 12 % (pe.length : Int)).toNat []))), .sh (.str "in")], rfl, .inl ?_, by rw [us_snoc]; exact fin true (j : Int) (us ++ [j]) (pe.getD (wo.getD k 0 / 12 % (pe.length : Int)).toNat []) _ _ _ _ _ (hpe _ q2) f2 ⟨j, hj, rfl⟩ hnd hlt (by rw [List.length_append]; exact Nat.le_refl _)⟩
        show B1__law_history [.sh scr, .sh (.int (L : Int)), .sh (bkD bank), .sh (psD ps), .sh (.lst (nmsD pe)), .sh (.int noise), .sh (.lst (wh.map D.int)), .sh (.lst (pk.map D.int)), .sh (.lst (st.map D.int)), .sh (.lst (wo.map D.int)), .ow (.lst (heldL f)), .ow (.lst (usL us)), .sh (.int t), .ow (.lst (pre.map Row.d)), .sh (.int (k : Int)), o15, o16, o17, o18] = _
        unfold B1__law_history
        (repeat (exists i1, i2, i3, i4, l1, l2, g1, hg, q1, n1, p1, pt, hput))
      · refine ⟨_, [.sh scr, .sh (.int (L : Int)), .sh (bkD bank), .sh (psD ps), .sh (.lst (nmsD pe)), .sh (.int noise), .sh (.lst (wh.map D.int)), .sh (.lst (pk.map D.int)), .sh (.lst (st.map D.int)), .sh (.lst (wo.map D.int)), .ow (.lst (heldL fun x => if x = b then (j : Int) else f x)), .ow (.lst (usL us ++ [.int (j : Int)])), .sh (.int (t + st.getD k 0)), .ow (.lst (pre.map Row.d ++ [.tup [.int (t + st.getD k 0), .int (b : Int), .str (nm (putterN ps[j])), .str "in"]])), .sh (.int (k : Int)), .sh (.int (b : Int)), .sh (.int (j : Int)), .sh (.str (nm (putterN ps[j]))), .sh (.str "in")], rfl, .inl ?_, by rw [us_snoc]; exact fin true (j : Int) (us ++ [j]) (putterN ps[j]) _ _ _ _ _ hpp f2 ⟨j, hj, rfl⟩ hnd hlt (by rw [List.length_append]; exact Nat.le_refl _)⟩
        show B1__law_history [.sh scr, .sh (.int (L : Int)), .sh (bkD bank), .sh (psD ps), .sh (.lst (nmsD pe)), .sh (.int noise), .sh (.lst (wh.map D.int)), .sh (.lst (pk.map D.int)), .sh (.lst (st.map D.int)), .sh (.lst (wo.map D.int)), .ow (.lst (heldL f)), .ow (.lst (usL us)), .sh (.int t), .ow (.lst (pre.map Row.d)), .sh (.int (k : Int)), o15, o16, o17, o18] = _
        unfold B1__law_history
        (repeat (exists i1, i2, i3, i4, l1, l2, g1, hg, q1, n1, p1, pt, hput))
  · have p1 := par_at hj
    rw [f1] at hg
    have ow := lowner_eq ps[j] (t + st.getD k 0)
    have hput := held_put f (-1) (b := b) (by omega)
    have ph := hp _ (List.getElem_mem hj)
    have hpo : nmOk (ownN ps[j] (t + st.getD k 0)) = true := by
      unfold ownN
      split
      · exact ph.2.2.1
      · exact ph.2.2.2.1
    by_cases hN : wo.getD k 0 % 12 < noise
    · refine ⟨_, [.sh scr, .sh (.int (L : Int)), .sh (bkD bank), .sh (psD ps), .sh (.lst (nmsD pe)), .sh (.int noise), .sh (.lst (wh.map D.int)), .sh (.lst (pk.map D.int)), .sh (.lst (st.map D.int)), .sh (.lst (wo.map D.int)), .ow (.lst (heldL fun x => if x = b then (-1) else f x)), .ow (.lst (usL us)), .sh (.int (t + st.getD k 0)), .ow (.lst (pre.map Row.d ++ [.tup [.int (t + st.getD k 0), .int (b : Int), .str (nm (pe.getD (wo.getD k 0 / 12 % (pe.length : Int)).toNat [])), .str "out"]])), .sh (.int (k : Int)), .sh (.int (b : Int)), .sh (.int (j : Int)), .sh (.str (nm (pe.getD (wo.getD k 0 / 12 % (pe.length : Int)).toNat []))), .sh (.str "out")], rfl, .inl ?_, fin false (-1) us (pe.getD (wo.getD k 0 / 12 % (pe.length : Int)).toNat []) _ _ _ _ _ (hpe _ q2) f2 rfl hi.nd hi.lt (Nat.le_refl _)⟩
      show B1__law_history [.sh scr, .sh (.int (L : Int)), .sh (bkD bank), .sh (psD ps), .sh (.lst (nmsD pe)), .sh (.int noise), .sh (.lst (wh.map D.int)), .sh (.lst (pk.map D.int)), .sh (.lst (st.map D.int)), .sh (.lst (wo.map D.int)), .ow (.lst (heldL f)), .ow (.lst (usL us)), .sh (.int t), .ow (.lst (pre.map Row.d)), .sh (.int (k : Int)), o15, o16, o17, o18] = _
      unfold B1__law_history
      (repeat (exists i1, i2, i3, i4, l1, l2, g1, hg, q1, p1, ow, hput))
    · refine ⟨_, [.sh scr, .sh (.int (L : Int)), .sh (bkD bank), .sh (psD ps), .sh (.lst (nmsD pe)), .sh (.int noise), .sh (.lst (wh.map D.int)), .sh (.lst (pk.map D.int)), .sh (.lst (st.map D.int)), .sh (.lst (wo.map D.int)), .ow (.lst (heldL fun x => if x = b then (-1) else f x)), .ow (.lst (usL us)), .sh (.int (t + st.getD k 0)), .ow (.lst (pre.map Row.d ++ [.tup [.int (t + st.getD k 0), .int (b : Int), .str (nm (ownN ps[j] (t + st.getD k 0))), .str "out"]])), .sh (.int (k : Int)), .sh (.int (b : Int)), .sh (.int (j : Int)), .sh (.str (nm (ownN ps[j] (t + st.getD k 0)))), .sh (.str "out")], rfl, .inl ?_, fin false (-1) us (ownN ps[j] (t + st.getD k 0)) _ _ _ _ _ hpo f2 rfl hi.nd hi.lt (Nat.le_refl _)⟩
      show B1__law_history [.sh scr, .sh (.int (L : Int)), .sh (bkD bank), .sh (psD ps), .sh (.lst (nmsD pe)), .sh (.int noise), .sh (.lst (wh.map D.int)), .sh (.lst (pk.map D.int)), .sh (.lst (st.map D.int)), .sh (.lst (wo.map D.int)), .ow (.lst (heldL f)), .ow (.lst (usL us)), .sh (.int t), .ow (.lst (pre.map Row.d)), .sh (.int (k : Int)), o15, o16, o17, o18] = _
      unfold B1__law_history
      (repeat (exists i1, i2, i3, i4, l1, l2, g1, hg, q1, p1, ow, hput))
end K48

set_option maxRecDepth 100000
set_option maxHeartbeats 1000000
namespace K48
open PySem PL
theorem rep30 : repO (.lst [.int (-1)]) (.int 30) = .ok (heldL fun _ => -1) := rep_nat [.int (-1)] 30 (by decide) (by decide)
theorem history_eq (ns : List Int) {L : Nat} {bank : List Size} {ps : List Par} {pe : List (List Nat)} {noise : Int} (hb0 : 0 < bank.length) (hbl : bank.length ≤ 30) (hp0 : 0 < ps.length) (hpl : ps.length ≤ 30) (hp : ∀ p ∈ ps, p.ok) (he0 : 0 < pe.length) (hpe : ∀ p ∈ pe, nmOk p = true) (hL : L ≤ 60) :
    ∃ hist : List Row, hist.length ≤ 60 ∧ (∀ r ∈ hist, r.ok ∧ r.b < bank.length) ∧ faultFrom bank.length [] hist = none ∧ (entsOf hist).length ≤ 30 ∧
      m__law_history [.scr ns, .int (L : Int), bkD bank, psD ps, .lst (nmsD pe), .int noise] = .ok (.ow (hist.map Row.d)) := by
  obtain ⟨c1, g1⟩ := cell_eq ns 11
  obtain ⟨c2, g2⟩ := cell_eq ns 12
  obtain ⟨c3, g3⟩ := cell_eq ns 13
  obtain ⟨c4, g4⟩ := cell_eq ns 14
  have g1 : m__law_cell [.scr ns, .int 11] = .ok (.sh (.int c1)) := g1
  have g2 : m__law_cell [.scr ns, .int 12] = .ok (.sh (.int c2)) := g2
  have g3 : m__law_cell [.scr ns, .int 13] = .ok (.sh (.int c3)) := g3
  have g4 : m__law_cell [.scr ns, .int 14] = .ok (.sh (.int c4)) := g4
  obtain ⟨wh, d1, k1⟩ := draw c1 L 30 (by omega) (by decide) (by decide)
  obtain ⟨pk, d2, k2⟩ := draw c2 L 30 (by omega) (by decide) (by decide)
  obtain ⟨st, d3, k3⟩ := draw c3 L 4 (by omega) (by decide) (by decide)
  obtain ⟨wo, d4, k4⟩ := draw c4 L 60 (by omega) (by decide) (by decide)
  obtain ⟨ρ', hf, f, us, t, pre, o14, o15, o16, o17, o18, hi, e1⟩ := for_invc (enc := fun k : Nat => .int (k : Int)) (t := gN 14) (B := B1__law_history) (fun (dn : List Nat) ρ => HS (.scr ns) L bank ps pe noise wh pk st wo dn.length ρ) (List.range L) [] [.sh (.scr ns), .sh (.int (L : Int)), .sh (bkD bank), .sh (psD ps), .sh (.lst (nmsD pe)), .sh (.int noise), .sh (.lst (wh.map D.int)), .sh (.lst (pk.map D.int)), .sh (.lst (st.map D.int)), .sh (.lst (wo.map D.int)), .ow (.lst (heldL fun _ => -1)), .ow (.lst []), .sh (.int 0), .ow (.lst []), .no, .no, .no, .no, .no]
    ⟨fun _ => -1, [], 0, [], .no, .no, .no, .no, .no, ⟨fun b hb => .inl ⟨rfl, rfl⟩, List.nodup_nil, fun j hj => (by cases hj), fun r hr => (by cases hr), rfl, Int.le_refl _, Int.le_refl _, Int.le_refl _, Nat.le_refl _, Nat.le_refl _⟩, rfl⟩ fun dn x rest ρ e h => by
      rw [List.nil_append] at e
      have hx : x < L := List.mem_range.mp (by rw [e]; simp)
      have hxd : x = dn.length := by
        have h1 : (List.range L)[dn.length]? = some x := by rw [e, List.getElem?_append_right (Nat.le_refl _), Nat.sub_self]; rfl
        have h2 := (List.getElem?_eq_some_iff.mp h1).2
        rw [List.getElem_range] at h2
        exact h2.symm
      rw [← hxd] at h
      rw [List.length_append, ← hxd]
      exact hist_body hb0 hbl hp0 hpl hp he0 hpe hL hx d1 d2 d3 d4 h
  rw [List.nil_append, List.length_range] at hi
  subst e1
  have r1 := rng1_nat L (by omega)
  have hul := nodup_len hi.nd hi.lt
  have hen := hi.en
  have hln := hi.ln
  have rp := rep30
  refine ⟨pre, by omega, hi.ok, hi.ft, by omega, ?_⟩
  refine go__law_history (o := .ret (.ow (pre.map Row.d))) ?_ rfl
  unfold b__law_history
  (repeat (exists g1, g2, g3, g4, k1, k2, k3, k4, rp, r1, hf))
/-! ## people -/
theorem people_eq {scr s1 s2 s3 s4 : D} {f : En → Res (List D)} {ρ : En} {xs : List Int} (hit : f ρ = .ok (xs.map D.int)) (hl : xs.length ≤ 60) (hx : ∀ x ∈ xs, 0 ≤ x) (h12 : ∀ x : Int, eVar 12 (ρ.set 12 (.sh (.int x))) = .ok (.int x)) :
    lcE f 12 yesB E1_law ρ = .ok (nmsD (xs.map fun x => nmF x.toNat)) := by
  have e : nmsD (xs.map fun x => nmF x.toNat) = xs.map fun x => .str (nm (nmF x.toNat)) := by unfold nmsD; rw [List.map_map]; rfl
  rw [e]
  refine lce_map (enc := D.int) (xs := xs) hit (by omega) fun x hm => ?_
  have h1 := name_eq x.toNat
  rw [Int.toNat_of_nonneg (hx x hm)] at h1
  have h2 := h12 x
  exact call_sh (cons_eq h2 rfl) h1
end K48

set_option maxRecDepth 100000
set_option maxHeartbeats 1000000
namespace K48
open PySem PL
/-! ## the long history -/
def pairs (P : List Nat) (q : Nat → List Nat) : Nat → List Row
  | 0 => []
  | k + 1 => pairs P q k ++ [⟨2 * (k : Int), 1, q k, true⟩, ⟨2 * (k : Int) + 1, 1, P, false⟩]
structure PI (n : Nat) (rs : List Row) (t : Int) : Prop where
  ft : faultFrom n [] rs = none
  li : lastIn rs 1 = false
  lt : lastT rs ≤ t
theorem PI.inn {n : Nat} {rs : List Row} {t : Int} {p : List Nat} (h : PI n rs t) (hn : 2 ≤ n) (h0 : 0 ≤ t) (ht : t ≤ 100) (hp : nmOk p = true) : faultFrom n [] (rs ++ [⟨t, 1, p, true⟩]) = none := by
  have ro : Row.ok ⟨t, 1, p, true⟩ := ⟨h0, by show t ≤ 1000000; omega, by show (0 : Int) ≤ 1; omega, by show (1 : Int) ≤ 29; omega, hp⟩
  refine fault_snoc rs [] h.ft ?_
  rw [List.nil_append]
  unfold faultAt
  have he : early rs ⟨t, 1, p, true⟩ = false := by
    rw [← early_eq ro]
    have := h.lt
    exact decide_eq_false (by show ¬ t < lastT rs; omega)
  rw [if_neg (by show ¬ (n : Int) ≤ 1; omega), he, h.li]
  rfl
theorem PI.two {n : Nat} {rs : List Row} {t : Int} {p P : List Nat} (h : PI n rs t) (hn : 2 ≤ n) (h0 : 0 ≤ t) (ht : t ≤ 100) (hp : nmOk p = true) (hP : nmOk P = true) : PI n (rs ++ [⟨t, 1, p, true⟩, ⟨t + 1, 1, P, false⟩]) (t + 2) := by
  have e : rs ++ [⟨t, 1, p, true⟩, ⟨t + 1, 1, P, false⟩] = (rs ++ [⟨t, 1, p, true⟩]) ++ [⟨t + 1, 1, P, false⟩] := by rw [List.append_assoc]; rfl
  have h1 := h.inn hn h0 ht hp
  have ro : Row.ok ⟨t + 1, 1, P, false⟩ := ⟨by show 0 ≤ t + 1; omega, by show t + 1 ≤ 1000000; omega, by show (0 : Int) ≤ 1; omega, by show (1 : Int) ≤ 29; omega, hP⟩
  rw [e]
  refine ⟨fault_snoc _ [] h1 ?_, ?_, ?_⟩
  · rw [List.nil_append]
    unfold faultAt
    have he : early (rs ++ [⟨t, 1, p, true⟩]) ⟨t + 1, 1, P, false⟩ = false := by
      rw [← early_eq ro, lastT_snoc]
      exact decide_eq_false (by show ¬ t + 1 < t; omega)
    rw [if_neg (by show ¬ (n : Int) ≤ 1; omega), he, lastIn_snoc, if_pos rfl]
    rfl
  · rw [lastIn_snoc, if_pos rfl]
  · rw [lastT_snoc]; show t + 1 ≤ t + 2; omega
theorem pairs_PI {n : Nat} {base : List Row} {P : List Nat} {q : Nat → List Nat} (hn : 2 ≤ n) (hb : PI n base 0) (hP : nmOk P = true) (hq : ∀ k, nmOk (q k) = true) : ∀ k : Nat, k ≤ 30 → PI n (base ++ pairs P q k) (2 * (k : Int))
  | 0, _ => by rw [show pairs P q 0 = [] from rfl, List.append_nil]; exact hb
  | k + 1, h => by
    have ih := (pairs_PI hn hb hP hq k (by omega)).two (p := q k) (P := P) hn (by omega) (by omega) (hq k) hP
    have e : base ++ pairs P q (k + 1) = base ++ pairs P q k ++ [⟨2 * (k : Int), 1, q k, true⟩, ⟨2 * (k : Int) + 1, 1, P, false⟩] := by rw [List.append_assoc]; rfl
    rw [e]
    have e2 : (2 * ((k + 1 : Nat) : Int)) = 2 * (k : Int) + 2 := by omega
    rw [e2]
    exact ih
theorem pairs_len (P : List Nat) (q : Nat → List Nat) : ∀ k : Nat, (pairs P q k).length = 2 * k
  | 0 => rfl
  | k + 1 => by
    show (pairs P q k ++ _).length = _
    rw [List.length_append, pairs_len P q k]
    simp only [List.length_cons, List.length_nil]
    omega
theorem pairs_ents (base : List Row) (P : List Nat) (q : Nat → List Nat) : ∀ k : Nat, (entsOf (base ++ pairs P q k)).length = (entsOf base).length + k
  | 0 => by rw [show pairs P q 0 = [] from rfl, List.append_nil]; rfl
  | k + 1 => by
    have e : base ++ pairs P q (k + 1) = (base ++ pairs P q k ++ [⟨2 * (k : Int), 1, q k, true⟩]) ++ [⟨2 * (k : Int) + 1, 1, P, false⟩] := by rw [List.append_assoc, List.append_assoc]; rfl
    rw [e, ents_snoc, ents_snoc, pairs_ents base P q k]
    rfl
end K48

set_option maxRecDepth 100000
set_option maxHeartbeats 1000000
namespace K48
open PySem PL
abbrev F0 (P : List Nat) : Row := ⟨0, 0, P, true⟩
abbrev aR (q : Nat → List Nat) : Row := ⟨2 * ((29 : Nat) : Int), 1, q 29, true⟩
def full59 (P : List Nat) (q : Nat → List Nat) : List Row := pairs P q 29 ++ [aR q]
theorem pairs_succ (P : List Nat) (q : Nat → List Nat) (k : Nat) : pairs P q (k + 1) = pairs P q k ++ [⟨2 * (k : Int), 1, q k, true⟩, ⟨2 * (k : Int) + 1, 1, P, false⟩] := rfl
theorem full_take (P : List Nat) (q : Nat → List Nat) : ((F0 P :: pairs P q 30).take 60) = F0 P :: full59 P q := by
  have e : F0 P :: pairs P q 30 = (F0 P :: full59 P q) ++ [⟨2 * ((29 : Nat) : Int) + 1, 1, P, false⟩] := by
    rw [pairs_succ P q 29]
    unfold full59
    rw [List.cons_append, List.append_assoc, List.singleton_append]
  rw [e]
  refine List.take_left' ?_
  unfold full59
  rw [List.length_cons, List.length_append, pairs_len]
  rfl
theorem pairs_ok {P : List Nat} {q : Nat → List Nat} (hP : nmOk P = true) (hq : ∀ k, nmOk (q k) = true) : ∀ k : Nat, k ≤ 30 → ∀ r ∈ pairs P q k, r.ok ∧ r.b < 2
  | 0, _, r, h => by cases h
  | k + 1, hk, r, h => by
    rcases List.mem_append.mp h with e | e
    · exact pairs_ok hP hq k (by omega) r e
    · rcases List.mem_cons.mp e with e | e
      · subst e
        exact ⟨⟨by show 0 ≤ 2 * (k : Int); omega, by show 2 * (k : Int) ≤ 1000000; omega, by show (0 : Int) ≤ 1; omega, by show (1 : Int) ≤ 29; omega, hq k⟩, by show (1 : Int) < 2; omega⟩
      · rw [List.mem_singleton.mp e]
        exact ⟨⟨by show 0 ≤ 2 * (k : Int) + 1; omega, by show 2 * (k : Int) + 1 ≤ 1000000; omega, by show (0 : Int) ≤ 1; omega, by show (1 : Int) ≤ 29; omega, hP⟩, by show (1 : Int) < 2; omega⟩
theorem full_facts {n : Nat} {P : List Nat} {q : Nat → List Nat} (hn : 2 ≤ n) (hP : nmOk P = true) (hq : ∀ k, nmOk (q k) = true) :
    (full59 P q).length = 59 ∧ (∀ r ∈ full59 P q, r.ok ∧ r.b < n) ∧ (F0 P).ok ∧ faultFrom n [] (full59 P q) = none ∧ faultFrom n [] (F0 P :: full59 P q) = none ∧ (entsOf (full59 P q)).length ≤ 30 ∧ 30 < (entsOf (F0 P :: full59 P q)).length := by
  have b0 : PI n [] 0 := ⟨rfl, rfl, Int.le_refl _⟩
  have rf : (F0 P).ok := ⟨by show (0 : Int) ≤ 0; omega, by show (0 : Int) ≤ 1000000; omega, by show (0 : Int) ≤ 0; omega, by show (0 : Int) ≤ 29; omega, hP⟩
  have b1 : PI n [F0 P] 0 := by
    refine ⟨?_, rfl, Int.le_refl _⟩
    refine fault_snoc [] [] rfl ?_
    unfold faultAt
    rw [if_neg (by show ¬ (n : Int) ≤ 0; omega)]
    rfl
  have h0 := (pairs_PI hn b0 hP hq 29 (by omega)).inn (p := q 29) hn (by omega) (by omega) (hq 29)
  have h1 := (pairs_PI hn b1 hP hq 29 (by omega)).inn (p := q 29) hn (by omega) (by omega) (hq 29)
  have e0 := pairs_ents [] P q 29
  have e1 := pairs_ents [F0 P] P q 29
  have h0 : faultFrom n [] (full59 P q) = none := by unfold full59; rw [List.nil_append] at h0; exact h0
  have h1 : faultFrom n [] (F0 P :: full59 P q) = none := by
    have e : F0 P :: full59 P q = [F0 P] ++ pairs P q 29 ++ [aR q] := by unfold full59; rw [List.append_assoc, List.singleton_append]
    rw [e]
    exact h1
  refine ⟨?_, fun r hr => ?_, rf, h0, h1, ?_, ?_⟩
  · unfold full59; rw [List.length_append, pairs_len]; rfl
  · rcases List.mem_append.mp hr with e | e
    · have := pairs_ok hP hq 29 (by omega) r e
      exact ⟨this.1, by omega⟩
    · rw [List.mem_singleton.mp e]
      exact ⟨⟨by show (0 : Int) ≤ 2 * ((29 : Nat) : Int); omega, by show 2 * ((29 : Nat) : Int) ≤ (1000000 : Int); omega, by show (0 : Int) ≤ 1; omega, by show (1 : Int) ≤ 29; omega, hq 29⟩, by show (1 : Int) < n; omega⟩
  · unfold full59
    rw [ents_snoc]
    rw [List.nil_append] at e0
    rw [e0]
    show 0 + 29 + 1 ≤ 30
    decide
  · have e : F0 P :: full59 P q = [F0 P] ++ pairs P q 29 ++ [aR q] := by unfold full59; rw [List.append_assoc, List.singleton_append]
    rw [e, ents_snoc, e1]
    show 30 < 1 + 29 + 1
    decide
end K48

set_option maxRecDepth 100000
set_option maxHeartbeats 1000000
namespace K48
open PySem PL
def wideA (bank : List Size) : List Size := bank ++ ([((1, 2, 3) : Int × Int × Int), ((3, 3, 3) : Int × Int × Int)] : List Size)
def wideB (bank : List Size) : List Size := (wideA bank).drop ((wideA bank).length - 30)
theorem wide_facts {bank : List Size} (hb : ∀ z ∈ bank, z.ok) (hl : bank.length ≤ 30) : (∀ z ∈ wideB bank, z.ok) ∧ 2 ≤ (wideB bank).length ∧ (wideB bank).length ≤ 30 := by
  have hlen : (wideA bank).length = bank.length + 2 := by unfold wideA; rw [List.length_append]; rfl
  refine ⟨fun z hz => ?_, by unfold wideB; rw [List.length_drop, hlen]; omega, by unfold wideB; rw [List.length_drop, hlen]; omega⟩
  have hz : z ∈ wideA bank := List.mem_of_mem_drop hz
  rcases List.mem_append.mp hz with e | e
  · exact hb z e
  · rcases List.mem_cons.mp e with e | e
    · subst e; exact ⟨by decide, by decide, by decide⟩
    · rw [List.mem_singleton.mp e]; exact ⟨by decide, by decide, by decide⟩
theorem wide_cut (bank : List Size) : sliceD (.lst (bank.map Size.d ++ [.tup [.int 1, .int 2, .int 3], .tup [.int 3, .int 3, .int 3]])) (some (-30)) none = .ok (bkD (wideB bank)) := by
  have e : bank.map Size.d ++ [.tup [.int 1, .int 2, .int 3], .tup [.int 3, .int 3, .int 3]] = (wideA bank).map Size.d := by unfold wideA; rw [List.map_append]; rfl
  rw [e]
  have h := cut_from ((wideA bank).map Size.d) 30 (by decide)
  rw [List.length_map, ← List.map_drop] at h
  exact congrArg (fun x => Res.ok (D.lst x)) h
end K48

set_option maxRecDepth 100000
set_option maxHeartbeats 1000000
namespace K48
open PySem PL
theorem pow36 : powD (.int 36) (.int 11) = .ok (.int 131621703842267136) := by
  show gd _ (Res.ok (D.int (36 ^ (11 : Int).toNat))) = _
  rw [gd_pos (by decide)]
  rw [show (36 : Int) ^ (11 : Int).toNat = 131621703842267136 from by decide]
theorem mul2636 : mulD (.int 26) (.int 131621703842267136) = .ok (.int 3422164299898945536) := j_mulI _ _ (by decide) (by decide)
def qF (pe : List (List Nat)) (k : Nat) : List Nat := pe.getD (k % pe.length) []
theorem full_loop {x0 x1 x2 x3 x4 x6 x7 x8 x9 x12 : Sl} {pe : List (List Nat)} (hp : 0 < pe.length) (hl : pe.length ≤ 60) : ∃ o, forL (gN 11) B1_law ((List.range 30).map fun k : Nat => .int (k : Int)) [x0, x1, x2, x3, x4, .sh (.lst (nmsD pe)), x6, x7, x8, x9, .sh (.lst [(F0 (pe.getD 0 [])).d]), .no, x12] =
    .next [x0, x1, x2, x3, x4, .sh (.lst (nmsD pe)), x6, x7, x8, x9, .sh (.lst ((F0 (pe.getD 0 []) :: pairs (pe.getD 0 []) (qF pe) 30).map Row.d)), o, x12] := by
  have l1 := pe_len pe
  have p0 := (pe_ix (pe := pe) (i := 0) (by omega) (by omega)).1
  obtain ⟨ρ', hf, o, e1⟩ := for_inv (enc := fun k : Nat => .int (k : Int)) (t := gN 11) (B := B1_law) (fun (dn : List Nat) ρ => ∃ o, ρ = [x0, x1, x2, x3, x4, .sh (.lst (nmsD pe)), x6, x7, x8, x9, .sh (.lst ((F0 (pe.getD 0 []) :: pairs (pe.getD 0 []) (qF pe) dn.length).map Row.d)), o, x12]) (List.range 30) [] [x0, x1, x2, x3, x4, .sh (.lst (nmsD pe)), x6, x7, x8, x9, .sh (.lst [(F0 (pe.getD 0 [])).d]), .no, x12] ⟨.no, rfl⟩ fun dn x rest ρ e h => by
    obtain ⟨o, rfl⟩ := h
    rw [List.nil_append] at e
    have hx : x < 30 := List.mem_range.mp (by rw [e]; simp)
    have hxd : x = dn.length := by
      have h1 : (List.range 30)[dn.length]? = some x := by rw [e, List.getElem?_append_right (Nat.le_refl _), Nat.sub_self]; rfl
      have h2 := (List.getElem?_eq_some_iff.mp h1).2
      rw [List.getElem_range] at h2
      exact h2.symm
    have hdl : (((F0 (pe.getD 0 []) :: pairs (pe.getD 0 []) (qF pe) dn.length).map Row.d)).length = 1 + 2 * dn.length := by rw [List.length_map, List.length_cons, pairs_len]; omega
    have hm : modD (.int (x : Int)) (.int (pe.length : Int)) = .ok (.int ((x % pe.length : Nat) : Int)) := by rw [j_modI _ _ (by omega)]; rfl
    have hmu : mulD (.int 2) (.int (x : Int)) = .ok (.int (2 * (x : Int))) := j_mulI _ _ (by decide) (by omega)
    have p1 := (pe_ix (pe := pe) (i := ((x % pe.length : Nat) : Int)) (by omega) (by have := Nat.mod_lt x hp; omega)).1
    rw [Int.toNat_natCast] at p1
    have ad : addD (.lst ((F0 (pe.getD 0 []) :: pairs (pe.getD 0 []) (qF pe) dn.length).map Row.d)) (.lst [.tup [.int (2 * (x : Int)), .int 1, .str (nm (pe.getD (x % pe.length) [])), .str "in"], .tup [.int (2 * (x : Int) + 1), .int 1, .str (nm (pe.getD (0 : Int).toNat [])), .str "out"]]) =
        .ok (.lst ((F0 (pe.getD 0 []) :: pairs (pe.getD 0 []) (qF pe) (dn ++ [x]).length).map Row.d)) := by
      rw [j_addL _ _ (by rw [hdl]; simp only [List.length_cons, List.length_nil]; omega)]
      rw [List.length_append]
      show _ = Res.ok (D.lst ((F0 (pe.getD 0 []) :: (pairs (pe.getD 0 []) (qF pe) dn.length ++ [_, _])).map Row.d))
      rw [← List.cons_append, List.map_append, ← hxd]
      rfl
    refine ⟨_, _, rfl, ?_, .sh (.int (x : Int)), rfl⟩
    show B1_law [x0, x1, x2, x3, x4, .sh (.lst (nmsD pe)), x6, x7, x8, x9, .sh (.lst ((F0 (pe.getD 0 []) :: pairs (pe.getD 0 []) (qF pe) dn.length).map Row.d)), .sh (.int (x : Int)), x12] = _
    unfold B1_law
    (repeat (exists l1, hm, hmu, p0, p1, ad))
  subst e1
  exact ⟨o, hf⟩
theorem noise_ix {x : Int} (h0 : 0 ≤ x) : ∃ n : Int, ixD (.lst [.int 0, .int 1, .int 3, .int 9]) (.int (x % 4)) = .ok (.int n) := by
  have h : x % 4 = 0 ∨ x % 4 = 1 ∨ x % 4 = 2 ∨ x % 4 = 3 := by omega
  rcases h with e | e | e | e <;> rw [e] <;> exact ⟨_, rfl⟩
end K48

set_option maxRecDepth 100000
set_option maxHeartbeats 1000000
namespace K48
open PySem PL
theorem cut_mid {α : Type} (xs : List α) : cutG xs (some 1) (some 60) = (xs.take 60).drop 1 := by
  unfold cutG
  rw [show ((1 : Int)) = ((1 : Nat) : Int) from rfl, show ((60 : Int)) = ((60 : Nat) : Int) from rfl, HT.sIx_nat, HT.sIx_nat, ← List.drop_take]
  rcases Nat.lt_or_ge xs.length 1 with h | h
  · have : xs = [] := List.length_eq_zero_iff.mp (by omega)
    subst this; rfl
  · rw [Nat.min_eq_left h]
    congr 1
    rw [List.take_eq_take_iff]
    omega
theorem slice_a (P : List Nat) (q : Nat → List Nat) : sliceD (.lst ((F0 P :: pairs P q 30).map Row.d)) none (some 60) = .ok (.lst ((F0 P :: full59 P q).map Row.d)) := by
  have h := cutN ((F0 P :: pairs P q 30).map Row.d) 60
  rw [← List.map_take, full_take] at h
  exact congrArg (fun x => Res.ok (D.lst x)) h
theorem slice_b (P : List Nat) (q : Nat → List Nat) : sliceD (.lst ((F0 P :: pairs P q 30).map Row.d)) (some 1) (some 60) = .ok (.lst ((full59 P q).map Row.d)) := by
  have h := cut_mid ((F0 P :: pairs P q 30).map Row.d)
  rw [← List.map_take, full_take] at h
  exact congrArg (fun x => Res.ok (D.lst x)) h
theorem if_nat {c : Prop} [Decidable c] {a b : Int} {lo hi : Int} (h0 : 0 ≤ lo) (ha : lo ≤ a ∧ a ≤ hi) (hb : lo ≤ b ∧ b ≤ hi) : ∃ n : Nat, lo ≤ n ∧ n ≤ hi ∧ (if c then a else b) = (n : Int) := by
  by_cases h : c
  · rw [if_pos h]; exact ⟨a.toNat, by omega, by omega, by omega⟩
  · rw [if_neg h]; exact ⟨b.toNat, by omega, by omega, by omega⟩
theorem law_true (ns : List Int) (hns : ns.length ≤ 63) : m_law [.scr ns] = .ok (.sh (.bl true)) := by
  obtain ⟨c0, h0⟩ := cell_eq ns 0
  have h0 : m__law_cell [.scr ns, .int 0] = .ok (.sh (.int c0)) := h0
  obtain ⟨c15, h15⟩ := cell_eq ns 15
  have h15 : m__law_cell [.scr ns, .int 15] = .ok (.sh (.int c15)) := h15
  obtain ⟨sh, dsh, esh⟩ := draw c0 10 5040 (by decide) (by decide) (by decide)
  have esh : m__law_row [.int c0, .int 10, .int 5040] = .ok (.ow (sh.map D.int)) := esh
  obtain ⟨x0, e0, x00, x01⟩ := draw_get dsh (k := 0) (by decide)
  obtain ⟨x1, e1, x10, x11⟩ := draw_get dsh (k := 1) (by decide)
  obtain ⟨x2, e2, x20, x21⟩ := draw_get dsh (k := 2) (by decide)
  obtain ⟨x3, e3, x30, x31⟩ := draw_get dsh (k := 3) (by decide)
  obtain ⟨x4, e4, x40, x41⟩ := draw_get dsh (k := 4) (by decide)
  obtain ⟨x5, e5, x50, x51⟩ := draw_get dsh (k := 5) (by decide)
  obtain ⟨x6, e6, x60, x61⟩ := draw_get dsh (k := 6) (by decide)
  obtain ⟨x7, e7, x70, x71⟩ := draw_get dsh (k := 7) (by decide)
  generalize sh.map D.int = L at *
  have e0 : ixD (.lst L) (.int 0) = .ok (.int x0) := e0
  have e1 : ixD (.lst L) (.int 1) = .ok (.int x1) := e1
  have e2 : ixD (.lst L) (.int 2) = .ok (.int x2) := e2
  have e3 : ixD (.lst L) (.int 3) = .ok (.int x3) := e3
  have e4 : ixD (.lst L) (.int 4) = .ok (.int x4) := e4
  have e5 : ixD (.lst L) (.int 5) = .ok (.int x5) := e5
  have e6 : ixD (.lst L) (.int 6) = .ok (.int x6) := e6
  have e7 : ixD (.lst L) (.int 7) = .ok (.int x7) := e7
  obtain ⟨nb, nb1, nb30, enb⟩ := if_nat (c := x1 % 4 = 0) (a := 1 + x0 % 30) (b := 1 + x0 % 5) (lo := 1) (hi := 30) (by omega) (by omega) (by omega)
  obtain ⟨mn, mn0, mn30, emn⟩ := if_nat (c := x3 % 4 = 0) (a := x2 % 31) (b := x2 % 9) (lo := 0) (hi := 30) (by omega) (by omega) (by omega)
  obtain ⟨ln, ln0, ln60, eln⟩ := if_nat (c := x5 % 4 = 0) (a := 45 + x4 % 16) (b := x4 % 16) (lo := 0) (hi := 60) (by omega) (by omega) (by omega)
  obtain ⟨np, hnp⟩ : ∃ np : Nat, 1 + x6 % 4 = (np : Int) := ⟨(1 + x6 % 4).toNat, by omega⟩
  obtain ⟨xs, dxs, exs⟩ := draw c15 np 3422164299898945536 (by omega) (by decide) (by decide)
  let pe : List (List Nat) := xs.map fun x => nmF x.toNat
  have pel : pe.length = np := by rw [List.length_map]; exact dxs.1
  have pe0 : 0 < pe.length := by omega
  have pe6 : pe.length ≤ 60 := by omega
  have peo : ∀ p ∈ pe, nmOk p = true := fun p hp => by
    obtain ⟨x, _, rfl⟩ := List.mem_map.mp hp
    exact nmF_ok _
  obtain ⟨bank, hbl, hbo, ebk⟩ := sizes_eq ns 1 nb (by omega)
  have ebk : m__law_sizes [.scr ns, .int 1, .int (nb : Int), .int 4] = .ok (.ow (bank.map Size.d)) := ebk
  obtain ⟨ps, psl, pso, psn, eps⟩ := manifest_eq ns mn (by omega) pe0 pe6 peo
  have wf := wide_facts hbo (by omega)
  have wc := wide_cut bank
  let P := pe.getD 0 []
  have hP : nmOk P = true := peo _ (pe_ix (pe := pe) (i := 0) (by omega) (by omega)).2
  have hq : ∀ k, nmOk (qF pe k) = true := fun k => by
    have := (pe_ix (pe := pe) (i := ((k % pe.length : Nat) : Int)) (by omega) (by have := Nat.mod_lt k pe0; omega)).2
    rw [Int.toNat_natCast] at this
    exact peo _ this
  obtain ⟨f1, f2, f3, f4, f5, f6, f7⟩ := full_facts (P := P) (q := qF pe) wf.2.1 hP hq
  have tb2 := tabled_eq (bank := wideB bank) (ps := ps) (hist := full59 P (qF pe)) wf.1 wf.2.2 pso (by omega) psn f2 (by omega) f4 f6
  have rfs : ∀ hist : List Row, (∀ r ∈ hist, r.ok) → hist.length ≤ 60 → m__law_refused [bkD (wideB bank), psD ps, .lst (hist.map Row.d), .lst ((F0 P :: full59 P (qF pe)).map Row.d)] = yes := fun hist h1 h2 =>
    refused_eq (bank := wideB bank) (ps := ps) (hist := hist) (ftl := full59 P (qF pe)) (f0 := F0 P) wf.1 (by omega) wf.2.2 pso (by omega) psn h1 h2 (fun r hr => by
      rcases List.mem_cons.mp hr with e | e
      · subst e; exact f3
      · exact (f2 r e).1) (by omega) f5 f7
  have sa := slice_a P (qF pe)
  have sb := slice_b P (qF pe)
  let S : Sl := .sh (.scr ns)
  have hp2 := pow36
  have hm2 := mul2636
  have a6 : addD (.int 1) (.int (x6 % 4)) = .ok (.int (np : Int)) := by rw [j_addI, hnp]
  have hpe : lcE (itE (callE m__law_row (aCons (callE m__law_cell (aCons (eVar 0) (aCons (eC (.int 15)) aNil))) (aCons (PL.bin addD (eC (.int 1)) (PL.bin modD (app intL (aCons (PL.bin ixD (eVar 1) (eC (.int 6))) aNil)) (eC (.int 4)))) (aCons (PL.bin mulD (eC (.int 26)) (PL.bin powD (eC (.int 36)) (eC (.int 11)))) aNil))))) 12 yesB E1_law [.sh (.scr ns), .sh (.lst L), .sh (.int (nb : Int)), .sh (.int (mn : Int)), .sh (.int (ln : Int)), .no, .no, .no, .no, .no, .no, .no, .no] = .ok (nmsD pe) := by
    refine people_eq (scr := .non) (s1 := .non) (s2 := .non) (s3 := .non) (s4 := .non) (xs := xs) ?_ (by rw [dxs.1]; omega) (fun x hx => (dxs.2 x hx).1) fun x => rfl
    (repeat (exists h15, e6, a6, hp2, hm2, exs))
  have hst : ∃ hl : List D, sIf (tst bOf (PL.bin gtD (eVar 3) (eC (.int 0)))) (sSet 8 (callE m__law_history (aCons (eVar 0) (aCons (eVar 4) (aCons (eVar 6) (aCons (eVar 7) (aCons (eVar 5) (aCons (PL.bin ixD (PL.own (appO lstD (aCons (eC (.int 0)) (aCons (eC (.int 1)) (aCons (eC (.int 3)) (aCons (eC (.int 9)) aNil)))))) (PL.bin modD (app intL (aCons (PL.bin ixD (eVar 1) (eC (.int 7))) aNil)) (eC (.int 4)))) aNil)))))))) sNext [.sh (.scr ns), .sh (.lst L), .sh (.int (nb : Int)), .sh (.int (mn : Int)), .sh (.int (ln : Int)), .sh (.lst (nmsD pe)), .sh (bkD bank), .sh (psD ps), .sh (.lst []), .no, .no, .no, .no] =
      .next [.sh (.scr ns), .sh (.lst L), .sh (.int (nb : Int)), .sh (.int (mn : Int)), .sh (.int (ln : Int)), .sh (.lst (nmsD pe)), .sh (bkD bank), .sh (psD ps), .sh (.lst hl), .no, .no, .no, .no] ∧
      m__law_tabled [bkD bank, psD ps, .lst hl] = yes ∧ m__law_refused [bkD (wideB bank), psD ps, .lst hl, .lst ((F0 P :: full59 P (qF pe)).map Row.d)] = yes := by
    by_cases hm : 0 < mn
    · obtain ⟨no, eno⟩ := noise_ix x70
      obtain ⟨hist, g1, g2, g3, g4, g5⟩ := history_eq ns (L := ln) (bank := bank) (ps := ps) (pe := pe) (noise := no) (by omega) (by omega) (by omega) (by omega) pso pe0 peo (by omega)
      refine ⟨hist.map Row.d, ?_, tabled_eq hbo (by omega) pso (by omega) psn g2 g1 g3 g4, rfs hist (fun r hr => (g2 r hr).1) g1⟩
      have hm1 : (0 : Int) < (mn : Int) := by omega
      (repeat (exists e7, eno, g5))
    · have hm1 : ¬ (0 : Int) < (mn : Int) := by omega
      have t := tabled_eq (bank := bank) (ps := ps) (hist := []) hbo (by omega) pso (by omega) psn (fun r hr => by cases hr) (Nat.zero_le _) rfl (Nat.zero_le _)
      refine ⟨[], ?_, t, rfs [] (fun r hr => by cases hr) (Nat.zero_le _)⟩
      (repeat (exists e7))
  obtain ⟨hl, s12, tb1, rf1⟩ := hst
  obtain ⟨oF, hfl⟩ := full_loop (x0 := .sh (.scr ns)) (x1 := .sh (.lst L)) (x2 := .sh (.int (nb : Int))) (x3 := .sh (.int (mn : Int))) (x4 := .sh (.int (ln : Int))) (x6 := .sh (bkD bank)) (x7 := .sh (psD ps)) (x8 := .sh (.lst hl)) (x9 := .sh (bkD (wideB bank))) (x12 := .no) pe0 pe6
  have p0 : ixD (.lst (nmsD pe)) (.int 0) = .ok (.str (nm P)) := (pe_ix (pe := pe) (i := 0) (by omega) (by omega)).1
  have hfl : forL (gN 11) B1_law ((List.range 30).map fun k : Nat => .int (k : Int)) [.sh (.scr ns), .sh (.lst L), .sh (.int (nb : Int)), .sh (.int (mn : Int)), .sh (.int (ln : Int)), .sh (.lst (nmsD pe)), .sh (bkD bank), .sh (psD ps), .sh (.lst hl), .sh (bkD (wideB bank)), .sh (.lst [.tup [.int 0, .int 0, .str (nm P), .str "in"]]), .no, .no] =
    .next [.sh (.scr ns), .sh (.lst L), .sh (.int (nb : Int)), .sh (.int (mn : Int)), .sh (.int (ln : Int)), .sh (.lst (nmsD pe)), .sh (bkD bank), .sh (psD ps), .sh (.lst hl), .sh (bkD (wideB bank)), .sh (.lst ((F0 P :: pairs P (qF pe) 30).map Row.d)), oF, .no] := hfl
  have r30 : rng1 [.int 30] = .ok ((List.range 30).map fun k : Nat => .int (k : Int)) := rng1_nat 30 (by decide)
  have cc : addD (bkD bank) (.lst [.tup [.int 1, .int 2, .int 3], .tup [.int 3, .int 3, .int 3]]) = .ok (.lst (bank.map Size.d ++ [.tup [.int 1, .int 2, .int 3], .tup [.int 3, .int 3, .int 3]])) := j_addL _ _ (by simp only [List.length_cons, List.length_nil, List.length_map]; omega)
  refine go_law (o := .ret (.sh (.bl true))) ?_ rfl
  unfold b_law
  refine seq_n (ρ' := [.sh (.scr ns), .sh (.lst L), .no, .no, .no, .no, .no, .no, .no, .no, .no, .no, .no]) (by (repeat (exists h0, esh))) ?_
  refine seq_n (ρ' := [.sh (.scr ns), .sh (.lst L), .sh (.int (1 + x0 % 5)), .no, .no, .no, .no, .no, .no, .no, .no, .no, .no]) (by (repeat (exists e0))) ?_
  refine seq_n (ρ' := [.sh (.scr ns), .sh (.lst L), .sh (.int (nb : Int)), .no, .no, .no, .no, .no, .no, .no, .no, .no, .no]) (by
    rw [← enb]
    by_cases h : x1 % 4 = 0
    · rw [if_pos h]; (repeat (exists e0, e1))
    · rw [if_neg h]; (repeat (exists e0, e1))) ?_
  refine seq_n (ρ' := [.sh (.scr ns), .sh (.lst L), .sh (.int (nb : Int)), .sh (.int (x2 % 9)), .no, .no, .no, .no, .no, .no, .no, .no, .no]) (by (repeat (exists e2))) ?_
  refine seq_n (ρ' := [.sh (.scr ns), .sh (.lst L), .sh (.int (nb : Int)), .sh (.int (mn : Int)), .no, .no, .no, .no, .no, .no, .no, .no, .no]) (by
    rw [← emn]
    by_cases h : x3 % 4 = 0
    · rw [if_pos h]; (repeat (exists e2, e3))
    · rw [if_neg h]; (repeat (exists e2, e3))) ?_
  refine seq_n (ρ' := [.sh (.scr ns), .sh (.lst L), .sh (.int (nb : Int)), .sh (.int (mn : Int)), .sh (.int (x4 % 16)), .no, .no, .no, .no, .no, .no, .no, .no]) (by (repeat (exists e4))) ?_
  refine seq_n (ρ' := [.sh (.scr ns), .sh (.lst L), .sh (.int (nb : Int)), .sh (.int (mn : Int)), .sh (.int (ln : Int)), .no, .no, .no, .no, .no, .no, .no, .no]) (by
    rw [← eln]
    by_cases h : x5 % 4 = 0
    · rw [if_pos h]; (repeat (exists e4, e5))
    · rw [if_neg h]; (repeat (exists e4, e5))) ?_
  (repeat (exists hpe, ebk, eps, s12, tb1, cc, wc, p0, r30, hfl, sb, tb2, sa, rf1))
end K48

set_option maxRecDepth 100000
set_option maxHeartbeats 4000000
namespace K48
open PySem PySem.Spec PyProof.Rows L2 PL
abbrev PW : Program := PySem.Challenge.pw_parcelbank_k48_match_table_and_doors
abbrev topS (i : Nat) : Stmt := PW.main.body.getD i (.Pass ⟨0, 0, 0, 0⟩)
/-- what the top has left -/
structure XA where
  BadValue : Addr
  NoPlacing : Addr
  TooMany : Addr
variable {w : World} {K : PySem.W.Frag} {mg : Str → Option Value} {base : Heap} {XS : XA}
structure Fc (w : World) (K : PySem.W.Frag) (mg : Str → Option Value) (base : Heap) (XS : XA) : Prop where
  n_abs : mg "abs" = none
  n_bool : mg "bool" = none
  n_int : mg "int" = none
  n_isinstance : mg "isinstance" = none
  n_len : mg "len" = none
  n_list : mg "list" = none
  n_range : mg "range" = none
  n_sorted : mg "sorted" = none
  n_str : mg "str" = none
  n_tuple : mg "tuple" = none
  c_DIGITS : ∃ t, mg "DIGITS" = some (.str "0123456789" t)
  c_LAST_BOX : ∃ t, mg "LAST_BOX" = some (.int 29 t)
  c_LATEST : ∃ t, mg "LATEST" = some (.int 1000000 t)
  c_LETTERS : ∃ t, mg "LETTERS" = some (.str "abcdefghijklmnopqrstuvwxyz" t)
  c_LONGEST : ∃ t, mg "LONGEST" = some (.int 999 t)
  c_MOST_BOXES : ∃ t, mg "MOST_BOXES" = some (.int 30 t)
  c_MOST_EXPLAINED : ∃ t, mg "MOST_EXPLAINED" = some (.int 30 t)
  c_MOST_OPENINGS : ∃ t, mg "MOST_OPENINGS" = some (.int 60 t)
  c_WAYS : ∃ p, mg "WAYS" = some (.ref p) ∧ ∀ G, Rep K G (.ref p) (.tup [(.str "in"), (.str "out")])
  f__law_row : Fx PW K mg "_law_row" "_law_row" (topS 91) ["cell", "many", "limit"]
  f__law_cell : Fx PW K mg "_law_cell" "_law_cell" (topS 90) ["script", "k"]
  f__law_sizes : Fx PW K mg "_law_sizes" "_law_sizes" (topS 95) ["script", "at", "many", "limit"]
  f__law_name : Fx PW K mg "_law_name" "_law_name" (topS 93) ["number"]
  f__law_manifest : Fx PW K mg "_law_manifest" "_law_manifest" (topS 96) ["script", "many", "limit", "people"]
  f__law_same : Fx PW K mg "_law_same" "_law_same" (topS 92) ["actual", "due"]
  f_form_of : Fx PW K mg "form_of" "form_of" (topS 15) ["size"]
  f_lies_in : Fx PW K mg "lies_in" "lies_in" (topS 16) ["parcel", "box"]
  f_put_allowed : Fx PW K mg "put_allowed" "put_allowed" (topS 49) ["parcel", "person", "time"]
  f_owner_at : Fx PW K mg "owner_at" "owner_at" (topS 48) ["parcel", "time"]
  f_could_have : Fx PW K mg "could_have" "could_have" (topS 62) ["bank", "parcel", "stay"]
  f_match_of : Fx PW K mg "match_of" "match_of" (topS 63) ["bank", "manifest", "stays"]
  f_need_list : Fx PW K mg "need_list" "need_list" (topS 11) ["value", "limit", "what"]
  f_is_integer : Fx PW K mg "is_integer" "is_integer" (topS 7) ["value"]
  f_in_range : Fx PW K mg "in_range" "in_range" (topS 8) ["value", "low", "high"]
  f_is_size : Fx PW K mg "is_size" "is_size" (topS 14) ["value"]
  f_need_sizes : Fx PW K mg "need_sizes" "need_sizes" (topS 19) ["value", "limit", "what"]
  f_need_bank : Fx PW K mg "need_bank" "need_bank" (topS 20) ["value"]
  f_is_name : Fx PW K mg "is_name" "is_name" (topS 42) ["value"]
  f_is_time : Fx PW K mg "is_time" "is_time" (topS 43) ["value"]
  f_is_parcel : Fx PW K mg "is_parcel" "is_parcel" (topS 45) ["value"]
  f_are_parcels : Fx PW K mg "are_parcels" "are_parcels" (topS 46) ["value"]
  f_need_manifest : Fx PW K mg "need_manifest" "need_manifest" (topS 47) ["value", "limit"]
  f_is_opening : Fx PW K mg "is_opening" "is_opening" (topS 53) ["value"]
  f_need_history : Fx PW K mg "need_history" "need_history" (topS 54) ["value"]
  f_fault_of : Fx PW K mg "fault_of" "fault_of" (topS 55) ["bank", "history"]
  f_need_regular : Fx PW K mg "need_regular" "need_regular" (topS 57) ["bank", "history"]
  f_stays_from : Fx PW K mg "stays_from" "stays_from" (topS 56) ["history"]
  f_need_explained : Fx PW K mg "need_explained" "need_explained" (topS 64) ["bank", "manifest", "history"]
  f_checked_table : Fx PW K mg "checked_table" "checked_table" (topS 65) ["bank", "manifest", "history"]
  f_match_table : Fx PW K mg "match_table" "match_table" (topS 66) ["bank", "manifest", "history"]
  f_least_placing : Fx PW K mg "least_placing" "least_placing" (topS 32) ["table"]
  f_explanation : Fx PW K mg "explanation" "explanation" (topS 67) ["bank", "manifest", "history"]
  f_placed : Fx PW K mg "placed" "placed" (topS 59) ["table", "boxes"]
  f_is_explanation : Fx PW K mg "is_explanation" "is_explanation" (topS 68) ["bank", "manifest", "history", "numbers"]
  f_crowd_or_none : Fx PW K mg "crowd_or_none" "crowd_or_none" (topS 38) ["table"]
  f_unexplained : Fx PW K mg "unexplained" "unexplained" (topS 69) ["bank", "manifest", "history"]
  f_priority_placing : Fx PW K mg "priority_placing" "priority_placing" (topS 33) ["table"]
  f_partial_explanation : Fx PW K mg "partial_explanation" "partial_explanation" (topS 70) ["bank", "manifest", "history"]
  f_told_of : Fx PW K mg "told_of" "told_of" (topS 75) ["table", "row"]
  f_stay_table : Fx PW K mg "stay_table" "stay_table" (topS 79) ["bank", "manifest", "history", "stay"]
  f_told_parcel : Fx PW K mg "told_parcel" "told_parcel" (topS 82) ["bank", "manifest", "history", "stay"]
  f_tight_of : Fx PW K mg "tight_of" "tight_of" (topS 76) ["table", "row"]
  f_told_set : Fx PW K mg "told_set" "told_set" (topS 83) ["bank", "manifest", "history", "stay"]
  f_other_of : Fx PW K mg "other_of" "other_of" (topS 77) ["table", "row"]
  f_other_explanation : Fx PW K mg "other_explanation" "other_explanation" (topS 84) ["bank", "manifest", "history", "stay"]
  f_parcel_table : Fx PW K mg "parcel_table" "parcel_table" (topS 80) ["bank", "manifest", "history", "number"]
  f_sure_set : Fx PW K mg "sure_set" "sure_set" (topS 85) ["bank", "manifest", "history", "number"]
  f_is_sure_set : Fx PW K mg "is_sure_set" "is_sure_set" (topS 86) ["bank", "manifest", "history", "number", "members"]
  f_explanation_without : Fx PW K mg "explanation_without" "explanation_without" (topS 87) ["bank", "manifest", "history", "number"]
  f_inside : Fx PW K mg "inside" "inside" (topS 88) ["bank", "manifest", "history"]
  f__law_door : Fx PW K mg "_law_door" "_law_door" (topS 104) ["way", "bank", "manifest", "history"]
  f__law_all_doors : Fx PW K mg "_law_all_doors" "_law_all_doors" (topS 105) ["bank", "manifest", "history", "due"]
  f__law_refused : Fx PW K mg "_law_refused" "_law_refused" (topS 107) ["bank", "manifest", "history", "full"]
  f__law_fits : Fx PW K mg "_law_fits" "_law_fits" (topS 94) ["small", "large"]
  f__law_next : Fx PW K mg "_law_next" "_law_next" (topS 99) ["bank", "manifest", "used", "first", "box", "time"]
  f__law_putter : Fx PW K mg "_law_putter" "_law_putter" (topS 97) ["parcel"]
  f__law_owner : Fx PW K mg "_law_owner" "_law_owner" (topS 98) ["parcel", "time"]
  f__law_history : Fx PW K mg "_law_history" "_law_history" (topS 100) ["script", "length", "bank", "manifest", "people", "noise"]
  f__law_stays : Fx PW K mg "_law_stays" "_law_stays" (topS 101) ["history"]
  f__law_could : Fx PW K mg "_law_could" "_law_could" (topS 102) ["bank", "parcel", "stay"]
  f__law_table : Fx PW K mg "_law_table" "_law_table" (topS 103) ["bank", "manifest", "history"]
  f__law_tabled : Fx PW K mg "_law_tabled" "_law_tabled" (topS 106) ["bank", "manifest", "history"]
  f_law : Fx PW K mg "law" "law" (topS 108) ["script"]
  x_BadValue : ExT PW w K mg base "BadValue" ["what"] XS.BadValue
  x_NoPlacing : ExT PW w K mg base "NoPlacing" ["members"] XS.NoPlacing
  x_TooMany : ExT PW w K mg base "TooMany" ["limit"] XS.TooMany
  e_BadValue : PySem.W.exmOne K (.ref XS.BadValue) (.ref XS.BadValue) = some true ∧ PySem.W.exmOne K (.ref XS.NoPlacing) (.ref XS.BadValue) = some false ∧ PySem.W.exmOne K (.ref XS.TooMany) (.ref XS.BadValue) = some false
  e_NoPlacing : PySem.W.exmOne K (.ref XS.BadValue) (.ref XS.NoPlacing) = some false ∧ PySem.W.exmOne K (.ref XS.NoPlacing) (.ref XS.NoPlacing) = some true ∧ PySem.W.exmOne K (.ref XS.TooMany) (.ref XS.NoPlacing) = some false
  e_TooMany : PySem.W.exmOne K (.ref XS.BadValue) (.ref XS.TooMany) = some false ∧ PySem.W.exmOne K (.ref XS.NoPlacing) (.ref XS.TooMany) = some false ∧ PySem.W.exmOne K (.ref XS.TooMany) (.ref XS.TooMany) = some true
abbrev FcK {K : PySem.W.Frag} {h : Heap} (_ : K.In h) (w : World) (mg : Str → Option Value) (base : Heap) (XS : XA) : Prop := Fc w K mg base XS
theorem Fc.n_BadValue (Z : Fc w K mg base XS) {X : Cx} (hg : Gl X "BadValue" := by rfl) (hm : X.mg = mg := by rfl) : Names X "BadValue" (.ref XS.BadValue) := ⟨hg, by decide, .inl (hm ▸ Z.x_BadValue.gC)⟩
theorem Fc.cl_BadValue (Z : Fc w K mg base XS) (e : Exc) (he : knX e = true) : PySem.W.exmOne K (clOf mg e.cls) (.ref XS.BadValue) = some (isX_BadValue e) := by
  obtain ⟨h_BadValue, h_NoPlacing, h_TooMany⟩ := Z.e_BadValue
  cases e <;> first
    | (cases he; done)
    | (show PySem.W.exmOne K ((mg "BadValue").getD .none) _ = _; rw [Z.x_BadValue.gC]; exact h_BadValue)
    | (show PySem.W.exmOne K ((mg "NoPlacing").getD .none) _ = _; rw [Z.x_NoPlacing.gC]; exact h_NoPlacing)
    | (show PySem.W.exmOne K ((mg "TooMany").getD .none) _ = _; rw [Z.x_TooMany.gC]; exact h_TooMany)
theorem Fc.n_NoPlacing (Z : Fc w K mg base XS) {X : Cx} (hg : Gl X "NoPlacing" := by rfl) (hm : X.mg = mg := by rfl) : Names X "NoPlacing" (.ref XS.NoPlacing) := ⟨hg, by decide, .inl (hm ▸ Z.x_NoPlacing.gC)⟩
theorem Fc.cl_NoPlacing (Z : Fc w K mg base XS) (e : Exc) (he : knX e = true) : PySem.W.exmOne K (clOf mg e.cls) (.ref XS.NoPlacing) = some (isX_NoPlacing e) := by
  obtain ⟨h_BadValue, h_NoPlacing, h_TooMany⟩ := Z.e_NoPlacing
  cases e <;> first
    | (cases he; done)
    | (show PySem.W.exmOne K ((mg "BadValue").getD .none) _ = _; rw [Z.x_BadValue.gC]; exact h_BadValue)
    | (show PySem.W.exmOne K ((mg "NoPlacing").getD .none) _ = _; rw [Z.x_NoPlacing.gC]; exact h_NoPlacing)
    | (show PySem.W.exmOne K ((mg "TooMany").getD .none) _ = _; rw [Z.x_TooMany.gC]; exact h_TooMany)
theorem Fc.n_TooMany (Z : Fc w K mg base XS) {X : Cx} (hg : Gl X "TooMany" := by rfl) (hm : X.mg = mg := by rfl) : Names X "TooMany" (.ref XS.TooMany) := ⟨hg, by decide, .inl (hm ▸ Z.x_TooMany.gC)⟩
theorem Fc.cl_TooMany (Z : Fc w K mg base XS) (e : Exc) (he : knX e = true) : PySem.W.exmOne K (clOf mg e.cls) (.ref XS.TooMany) = some (isX_TooMany e) := by
  obtain ⟨h_BadValue, h_NoPlacing, h_TooMany⟩ := Z.e_TooMany
  cases e <;> first
    | (cases he; done)
    | (show PySem.W.exmOne K ((mg "BadValue").getD .none) _ = _; rw [Z.x_BadValue.gC]; exact h_BadValue)
    | (show PySem.W.exmOne K ((mg "NoPlacing").getD .none) _ = _; rw [Z.x_NoPlacing.gC]; exact h_NoPlacing)
    | (show PySem.W.exmOne K ((mg "TooMany").getD .none) _ = _; rw [Z.x_TooMany.gC]; exact h_TooMany)
abbrev s__law_row : Stmt := topS 91
theorem sc__law_row : FnScope ["cell", "many", "limit", "rest", "numbers", "state", "k"] ["cell", "many", "limit"] (defScope s__law_row) := ⟨rfl, rfl, rfl, by decide +kernel, rfl, by decide +kernel, by decide +kernel⟩
theorem ok__law_row (Z : Fc w K mg base XS) : FnP PW w K mg base 1 "_law_row" ["cell", "many", "limit"] m__law_row := by
  obtain ⟨f, fd, F, hm, hb⟩ := Z.f__law_row
  refine fn_mk (k := 0) F sc__law_row hm hb fun cdv A outer s H G0 E c => ?_
  exact (s_cons (s_set c.nd (d_callB cd_abs nox_abs rfl Z.n_abs (a_cons (d_var 0) a_nil))) (s_cons (s_setO c.nd (o_lst a_nil)) (s_cons (s_if (t_cmp od_ge nox_ge (d_var 3) (d_bin od_pow nox_pow d_int d_int) (nomark _)) (s_cons (s_set c.nd (d_bin od_sub nox_sub (d_var 3) (d_bin od_pow nox_pow d_int d_int))) (s_cons (s_for c.po c.calm (i_rng1 Z.n_range (a_cons (d_var 1) a_nil)) (g_name 6 c.nd) (s_cons (s_app 4 (d_bin od_mod nox_mod (d_callTy cd_int nox_int rfl Z.n_int (a_cons (d_var 3) a_nil)) (d_var 2))) (s_one (s_set c.nd (d_bin od_fdiv nox_fdiv (d_var 3) (d_var 2)))))) (s_one (s_retV 4)))) s_nil) (s_cons (s_set c.nd (d_bin od_mod nox_mod (d_callTy cd_int nox_int rfl Z.n_int (a_cons (d_bin od_add nox_add (d_bin od_mul nox_mul (d_var 3) d_int) d_int) a_nil)) d_int)) (s_cons (s_for c.po c.calm (i_rng1 Z.n_range (a_cons (d_var 1) a_nil)) (g_name 6 c.nd) (s_cons (s_set c.nd (d_bin od_mod nox_mod (d_callTy cd_int nox_int rfl Z.n_int (a_cons (d_bin od_add nox_add (d_bin od_add nox_add (d_bin od_mul nox_mul (d_var 5) d_int) (d_bin od_mul nox_mul (d_var 6) d_int)) (d_var 3)) a_nil)) d_int)) (s_one (s_app 4 (d_bin od_mod nox_mod (d_callTy cd_int nox_int rfl Z.n_int (a_cons (d_bin od_fdiv nox_fdiv (d_var 5) d_int) a_nil)) (d_var 2)))))) (s_one (s_retV 4)))))))
abbrev s__law_cell : Stmt := topS 90
theorem sc__law_cell : FnScope ["script", "k"] ["script", "k"] (defScope s__law_cell) := ⟨rfl, rfl, rfl, by decide +kernel, rfl, by decide +kernel, by decide +kernel⟩
theorem ok__law_cell (Z : Fc w K mg base XS) : FnP PW w K mg base 1 "_law_cell" ["script", "k"] m__law_cell := by
  obtain ⟨f, fd, F, hm, hb⟩ := Z.f__law_cell
  refine fn_mk (k := 0) F sc__law_cell hm hb fun cdv A outer s H G0 E c => ?_
  exact (s_cons (s_if (t_cmp od_lt nox_lt (d_var 1) (d_callB cd_len nox_len rfl Z.n_len (a_cons (d_var 0) a_nil)) (nomark _)) (s_one (s_ret (d_callTy cd_int nox_int rfl Z.n_int (a_cons (d_ix (d_var 0) (d_var 1) (fun _ _ => rfl)) a_nil)))) s_nil) (s_one (s_ret d_int)))
abbrev s__law_sizes : Stmt := topS 95
theorem sc__law_sizes : FnScope ["script", "at", "many", "limit", "one", "two", "three", "k"] ["script", "at", "many", "limit"] (defScope s__law_sizes) := ⟨rfl, rfl, rfl, by decide +kernel, rfl, by decide +kernel, by decide +kernel⟩
theorem ok__law_sizes (Z : Fc w K mg base XS) : FnP PW w K mg base 2 "_law_sizes" ["script", "at", "many", "limit"] m__law_sizes := by
  obtain ⟨f, fd, F, hm, hb⟩ := Z.f__law_sizes
  refine fn_mk (k := 1) F sc__law_sizes hm hb fun cdv A outer s H G0 E c => ?_
  exact (s_cons (s_set c.nd (d_call (ok__law_row Z) c.toGE (by omega) rfl (a_cons (d_call (ok__law_cell Z) c.toGE (by omega) rfl (a_cons (d_var 0) (a_cons (d_var 1) a_nil)) (fl_cons (fl_cons fl_nil))) (a_cons (d_var 2) (a_cons (d_var 3) a_nil))) (fl_cons (fl_cons (fl_cons fl_nil))))) (s_cons (s_set c.nd (d_call (ok__law_row Z) c.toGE (by omega) rfl (a_cons (d_call (ok__law_cell Z) c.toGE (by omega) rfl (a_cons (d_var 0) (a_cons (d_bin od_add nox_add (d_var 1) d_int) a_nil)) (fl_cons (fl_cons fl_nil))) (a_cons (d_var 2) (a_cons (d_var 3) a_nil))) (fl_cons (fl_cons (fl_cons fl_nil))))) (s_cons (s_set c.nd (d_call (ok__law_row Z) c.toGE (by omega) rfl (a_cons (d_call (ok__law_cell Z) c.toGE (by omega) rfl (a_cons (d_var 0) (a_cons (d_bin od_add nox_add (d_var 1) d_int) a_nil)) (fl_cons (fl_cons fl_nil))) (a_cons (d_var 2) (a_cons (d_var 3) a_nil))) (fl_cons (fl_cons (fl_cons fl_nil))))) (s_one (s_retO (o_lc c.toGE (i_rng1 Z.n_range (a_cons (d_var 2) a_nil)) (x := "k") (i := 7) (by show blkC ["script", "at", "many", "limit", "one", "two", "three", "k"] (defScope s__law_sizes) _ _ = true; decide +kernel) (fun s1 H1 C1 cl1 fp1 => pg_name (i := 7) c.nd rfl (by first | exact Or.inl rfl | exact Or.inr rfl)) (fun s1 H1 C1 cl1 fp1 => ts_nil) (fun s1 H1 C1 cl1 fp1 => (d_tup (a_cons (d_bin od_add nox_add d_int (d_ix (d_var 4) (d_var 7) (fun _ _ => rfl))) (a_cons (d_bin od_add nox_add d_int (d_ix (d_var 5) (d_var 7) (fun _ _ => rfl))) (a_cons (d_bin od_add nox_add d_int (d_ix (d_var 6) (d_var 7) (fun _ _ => rfl))) a_nil)))))))))))
abbrev s__law_name : Stmt := topS 93
theorem sc__law_name : FnScope ["number", "letters", "name", "rest", "k"] ["number"] (defScope s__law_name) := ⟨rfl, rfl, rfl, by decide +kernel, rfl, by decide +kernel, by decide +kernel⟩
theorem ok__law_name (Z : Fc w K mg base XS) : FnP PW w K mg base 1 "_law_name" ["number"] m__law_name := by
  obtain ⟨f, fd, F, hm, hb⟩ := Z.f__law_name
  refine fn_mk (k := 0) F sc__law_name hm hb fun cdv A outer s H G0 E c => ?_
  exact (s_cons (s_set c.nd d_str) (s_cons (s_set c.nd (d_ix (d_var 1) (d_bin od_mod nox_mod (d_callTy cd_int nox_int rfl Z.n_int (a_cons (d_var 0) a_nil)) d_int) (fun _ _ => rfl))) (s_cons (s_set c.nd (d_bin od_fdiv nox_fdiv (d_var 0) d_int)) (s_cons (s_for c.po c.calm (i_rng1 Z.n_range (a_cons d_int a_nil)) (g_name 4 c.nd) (s_one (s_if (t_cmp od_gt nox_gt (d_var 3) d_int (nomark _)) (s_cons (s_set c.nd (d_bin od_add nox_add (d_var 2) (d_ix (d_var 1) (d_bin od_mod nox_mod (d_callTy cd_int nox_int rfl Z.n_int (a_cons (d_var 3) a_nil)) d_int) (fun _ _ => rfl)))) (s_one (s_set c.nd (d_bin od_fdiv nox_fdiv (d_var 3) d_int)))) s_nil))) (s_one (s_ret (d_var 2)))))))
abbrev s__law_manifest : Stmt := topS 96
theorem sc__law_manifest : FnScope ["script", "many", "limit", "people", "sizes", "customers", "couriers", "untils", "names", "manifest", "k", "until"] ["script", "many", "limit", "people"] (defScope s__law_manifest) := ⟨rfl, rfl, rfl, by decide +kernel, rfl, by decide +kernel, by decide +kernel⟩
theorem ok__law_manifest (Z : Fc w K mg base XS) : FnP PW w K mg base 3 "_law_manifest" ["script", "many", "limit", "people"] m__law_manifest := by
  obtain ⟨f, fd, F, hm, hb⟩ := Z.f__law_manifest
  refine fn_mk (k := 2) F sc__law_manifest hm hb fun cdv A outer s H G0 E c => ?_
  exact (s_cons (s_set c.nd (d_call (ok__law_sizes Z) c.toGE (by omega) rfl (a_cons (d_var 0) (a_cons d_int (a_cons (d_var 1) (a_cons (d_var 2) a_nil)))) (fl_cons (fl_cons (fl_cons (fl_cons fl_nil)))))) (s_cons (s_set c.nd (d_call (ok__law_row Z) c.toGE (by omega) rfl (a_cons (d_call (ok__law_cell Z) c.toGE (by omega) rfl (a_cons (d_var 0) (a_cons d_int a_nil)) (fl_cons (fl_cons fl_nil))) (a_cons (d_var 1) (a_cons (d_callB cd_len nox_len rfl Z.n_len (a_cons (d_var 3) a_nil)) a_nil))) (fl_cons (fl_cons (fl_cons fl_nil))))) (s_cons (s_set c.nd (d_call (ok__law_row Z) c.toGE (by omega) rfl (a_cons (d_call (ok__law_cell Z) c.toGE (by omega) rfl (a_cons (d_var 0) (a_cons d_int a_nil)) (fl_cons (fl_cons fl_nil))) (a_cons (d_var 1) (a_cons (d_callB cd_len nox_len rfl Z.n_len (a_cons (d_var 3) a_nil)) a_nil))) (fl_cons (fl_cons (fl_cons fl_nil))))) (s_cons (s_set c.nd (d_call (ok__law_row Z) c.toGE (by omega) rfl (a_cons (d_call (ok__law_cell Z) c.toGE (by omega) rfl (a_cons (d_var 0) (a_cons d_int a_nil)) (fl_cons (fl_cons fl_nil))) (a_cons (d_var 1) (a_cons d_int a_nil))) (fl_cons (fl_cons (fl_cons fl_nil))))) (s_cons (s_set c.nd (d_call (ok__law_row Z) c.toGE (by omega) rfl (a_cons (d_call (ok__law_cell Z) c.toGE (by omega) rfl (a_cons (d_var 0) (a_cons d_int a_nil)) (fl_cons (fl_cons fl_nil))) (a_cons (d_var 1) (a_cons d_int a_nil))) (fl_cons (fl_cons (fl_cons fl_nil))))) (s_cons (s_setO c.nd (o_lst a_nil)) (s_cons (s_for c.po c.calm (i_rng1 Z.n_range (a_cons (d_var 1) a_nil)) (g_name 10 c.nd) (s_cons (s_set c.nd (d_bin od_add nox_add d_int (d_ix (d_var 7) (d_var 10) (fun _ _ => rfl)))) (s_cons (s_if (t_cmp (od_eq c.toGE.hr) nox_eq (d_bin od_mod nox_mod (d_callTy cd_int nox_int rfl Z.n_int (a_cons (d_ix (d_var 7) (d_var 10) (fun _ _ => rfl)) a_nil)) d_int) d_int (nomark _)) (s_one (s_set c.nd d_int)) s_nil) (s_one (s_app 9 (d_tup (a_cons (d_call (ok__law_name Z) c.toGE (by omega) rfl (a_cons (d_bin od_add nox_add (d_bin od_mul nox_mul d_int (d_var 10)) (d_ix (d_var 8) (d_var 10) (fun _ _ => rfl))) a_nil) (fl_cons fl_nil)) (a_cons (d_ix (d_var 4) (d_var 10) (fun _ _ => rfl)) (a_cons (d_ix (d_var 3) (d_ix (d_var 5) (d_var 10) (fun _ _ => rfl)) (fun _ _ => rfl)) (a_cons (d_ix (d_var 3) (d_ix (d_var 6) (d_var 10) (fun _ _ => rfl)) (fun _ _ => rfl)) (a_cons (d_var 11) a_nil))))))))))) (s_one (s_retV 9)))))))))
abbrev s__law_same : Stmt := topS 92
theorem sc__law_same : FnScope ["actual", "due", "k"] ["actual", "due"] (defScope s__law_same) := ⟨rfl, rfl, rfl, by decide +kernel, rfl, by decide +kernel, by decide +kernel⟩
theorem ok__law_same (Z : Fc w K mg base XS) : ∀ n, FnP PW w K mg base (0 + n + 1) "_law_same" ["actual", "due"] (m__law_same n)
  | 0 => by
    obtain ⟨f, fd, F, hm, hb⟩ := Z.f__law_same
    exact fn_mk F sc__law_same hm hb fun cdv A outer s H G0 E c => s_never
  | n + 1 => by
    have again := ok__law_same Z n
    obtain ⟨f, fd, F, hm, hb⟩ := Z.f__law_same
    refine fn_mk (k := 0 + n + 1) F sc__law_same hm hb fun cdv A outer s H G0 E c => ?_
    exact (s_cons (s_if (t_cmp od_is nox_is (d_var 1) d_non (nomark _)) (s_one (s_ret (d_cmp od_is nox_is (d_var 0) d_non (nomark _)))) s_nil) (s_cons (s_if (t_tru (d_isi kit_bool Z.n_isinstance Z.n_bool rfl (d_var 1))) (s_one (s_ret (d_and (d_isi kit_bool Z.n_isinstance Z.n_bool rfl (d_var 0)) (d_one (d_cmp (od_eq c.toGE.hr) nox_eq (d_var 0) (d_var 1) (nomark _)))))) s_nil) (s_cons (s_if (t_tru (d_isi kit_int Z.n_isinstance Z.n_int rfl (d_var 1))) (s_one (s_ret (d_and (d_isi kit_int Z.n_isinstance Z.n_int rfl (d_var 0)) (d_and (d_not (d_isi kit_bool Z.n_isinstance Z.n_bool rfl (d_var 0))) (d_one (d_cmp (od_eq c.toGE.hr) nox_eq (d_var 0) (d_var 1) (nomark _))))))) s_nil) (s_cons (s_if (t_tru (d_isi kit_str Z.n_isinstance Z.n_str rfl (d_var 1))) (s_one (s_ret (d_and (d_isi kit_str Z.n_isinstance Z.n_str rfl (d_var 0)) (d_one (d_cmp (od_eq c.toGE.hr) nox_eq (d_var 0) (d_var 1) (nomark _)))))) s_nil) (s_cons (s_if (PW.pt (t_and (t_tru (d_isi kit_tuple Z.n_isinstance Z.n_tuple rfl (d_var 1))) (t_and1 (t_not (t_tru (d_isi kit_tuple Z.n_isinstance Z.n_tuple rfl (d_var 0))))))) (s_one (s_ret d_bl)) s_nil) (s_cons (s_if (PW.pt (t_and (t_tru (d_isi kit_list Z.n_isinstance Z.n_list rfl (d_var 1))) (t_and1 (t_not (t_tru (d_isi kit_list Z.n_isinstance Z.n_list rfl (d_var 0))))))) (s_one (s_ret d_bl)) s_nil) (s_cons (s_if (t_cmp (od_ne c.toGE.hr) nox_ne (d_callB cd_len nox_len rfl Z.n_len (a_cons (d_var 0) a_nil)) (d_callB cd_len nox_len rfl Z.n_len (a_cons (d_var 1) a_nil)) (nomark _)) (s_one (s_ret d_bl)) s_nil) (s_cons (s_for c.po c.calm (i_rng1 Z.n_range (a_cons (d_callB cd_len nox_len rfl Z.n_len (a_cons (d_var 1) a_nil)) a_nil)) (g_name 2 c.nd) (s_one (s_if (t_not (t_tru (d_call again c.toGE (by omega) rfl (a_cons (d_ix (d_var 0) (d_var 2) (fun _ _ => rfl)) (a_cons (d_ix (d_var 1) (d_var 2) (fun _ _ => rfl)) a_nil)) (fl_cons (fl_cons fl_nil))))) (s_one (s_ret d_bl)) s_nil))) (s_one (s_ret d_bl))))))))))
abbrev s_form_of : Stmt := topS 15
theorem sc_form_of : FnScope ["size"] ["size"] (defScope s_form_of) := ⟨rfl, rfl, rfl, by decide +kernel, rfl, by decide +kernel, by decide +kernel⟩
theorem ok_form_of (Z : Fc w K mg base XS) : FnP PW w K mg base 1 "form_of" ["size"] m_form_of := by
  obtain ⟨f, fd, F, hm, hb⟩ := Z.f_form_of
  refine fn_mk (k := 0) F sc_form_of hm hb fun cdv A outer s H G0 E c => ?_
  exact (s_one (s_ret (d_callTy cd_tuple nox_tuple rfl Z.n_tuple (a_cons (d_own (o_sortR Z.n_sorted (d_var 0))) a_nil))))
abbrev s_lies_in : Stmt := topS 16
theorem sc_lies_in : FnScope ["parcel", "box", "small", "large"] ["parcel", "box"] (defScope s_lies_in) := ⟨rfl, rfl, rfl, by decide +kernel, rfl, by decide +kernel, by decide +kernel⟩
theorem ok_lies_in (Z : Fc w K mg base XS) : FnP PW w K mg base 2 "lies_in" ["parcel", "box"] m_lies_in := by
  obtain ⟨f, fd, F, hm, hb⟩ := Z.f_lies_in
  refine fn_mk (k := 1) F sc_lies_in hm hb fun cdv A outer s H G0 E c => ?_
  exact (s_cons (s_set c.nd (d_call (ok_form_of Z) c.toGE (by omega) rfl (a_cons (d_var 0) a_nil) (fl_cons fl_nil))) (s_cons (s_set c.nd (d_call (ok_form_of Z) c.toGE (by omega) rfl (a_cons (d_var 1) a_nil) (fl_cons fl_nil))) (s_one (s_ret (d_and (d_cmp od_le nox_le (d_ix (d_var 2) d_int (fun _ _ => rfl)) (d_ix (d_var 3) d_int (fun _ _ => rfl)) (nomark _)) (d_and (d_cmp od_le nox_le (d_ix (d_var 2) d_int (fun _ _ => rfl)) (d_ix (d_var 3) d_int (fun _ _ => rfl)) (nomark _)) (d_one (d_cmp od_le nox_le (d_ix (d_var 2) d_int (fun _ _ => rfl)) (d_ix (d_var 3) d_int (fun _ _ => rfl)) (nomark _)))))))))
abbrev s_put_allowed : Stmt := topS 49
theorem sc_put_allowed : FnScope ["parcel", "person", "time"] ["parcel", "person", "time"] (defScope s_put_allowed) := ⟨rfl, rfl, rfl, by decide +kernel, rfl, by decide +kernel, by decide +kernel⟩
theorem ok_put_allowed (Z : Fc w K mg base XS) : FnP PW w K mg base 1 "put_allowed" ["parcel", "person", "time"] m_put_allowed := by
  obtain ⟨f, fd, F, hm, hb⟩ := Z.f_put_allowed
  refine fn_mk (k := 0) F sc_put_allowed hm hb fun cdv A outer s H G0 E c => ?_
  exact (s_cons (s_if (t_cmp (od_eq c.toGE.hr) nox_eq (d_ix (d_var 0) d_int (fun _ _ => rfl)) d_int (nomark _)) (s_one (s_ret (d_cmp (od_eq c.toGE.hr) nox_eq (d_var 1) (d_ix (d_var 0) d_int (fun _ _ => rfl)) (nomark _)))) s_nil) (s_one (s_ret (d_and (d_cmp (od_eq c.toGE.hr) nox_eq (d_var 1) (d_ix (d_var 0) d_int (fun _ _ => rfl)) (nomark _)) (d_one (d_cmp od_lt nox_lt (d_var 2) (d_ix (d_var 0) d_int (fun _ _ => rfl)) (nomark _)))))))
abbrev s_owner_at : Stmt := topS 48
theorem sc_owner_at : FnScope ["parcel", "time"] ["parcel", "time"] (defScope s_owner_at) := ⟨rfl, rfl, rfl, by decide +kernel, rfl, by decide +kernel, by decide +kernel⟩
theorem ok_owner_at (Z : Fc w K mg base XS) : FnP PW w K mg base 1 "owner_at" ["parcel", "time"] m_owner_at := by
  obtain ⟨f, fd, F, hm, hb⟩ := Z.f_owner_at
  refine fn_mk (k := 0) F sc_owner_at hm hb fun cdv A outer s H G0 E c => ?_
  exact (s_cons (s_if (t_cmp od_lt nox_lt (d_var 1) (d_ix (d_var 0) d_int (fun _ _ => rfl)) (nomark _)) (s_one (s_ret (d_ix (d_var 0) d_int (fun _ _ => rfl)))) s_nil) (s_one (s_ret (d_ix (d_var 0) d_int (fun _ _ => rfl)))))
abbrev s_could_have : Stmt := topS 62
theorem sc_could_have : FnScope ["bank", "parcel", "stay", "box", "start", "putter", "end", "taker"] ["bank", "parcel", "stay"] (defScope s_could_have) := ⟨rfl, rfl, rfl, by decide +kernel, rfl, by decide +kernel, by decide +kernel⟩
theorem ok_could_have (Z : Fc w K mg base XS) : FnP PW w K mg base 3 "could_have" ["bank", "parcel", "stay"] m_could_have := by
  obtain ⟨f, fd, F, hm, hb⟩ := Z.f_could_have
  refine fn_mk (k := 2) F sc_could_have hm hb fun cdv A outer s H G0 E c => ?_
  exact (s_cons (s_asg (d_var 2) (g_tup c.calm (gs_cons c.nd (gs_cons c.nd (gs_cons c.nd (gs_cons c.nd (gs_cons c.nd gs_nil))))))) (s_cons (s_if (PW.pt (t_or (t_not (t_tru (d_call (ok_lies_in Z) c.toGE (by omega) rfl (a_cons (d_ix (d_var 1) d_int (fun _ _ => rfl)) (a_cons (d_ix (d_var 0) (d_var 3) (fun _ _ => rfl)) a_nil)) (fl_cons (fl_cons fl_nil))))) (t_or1 (t_not (t_tru (d_call (ok_put_allowed Z) c.toGE (by omega) rfl (a_cons (d_var 1) (a_cons (d_var 5) (a_cons (d_var 4) a_nil))) (fl_cons (fl_cons (fl_cons fl_nil))))))))) (s_one (s_ret d_bl)) s_nil) (s_one (s_ret (d_or (d_cmp od_is nox_is (d_var 6) d_non (nomark _)) (d_one (d_cmp (od_eq c.toGE.hr) nox_eq (d_call (ok_owner_at Z) c.toGE (by omega) rfl (a_cons (d_var 1) (a_cons (d_var 6) a_nil)) (fl_cons (fl_cons fl_nil))) (d_var 7) (nomark _))))))))
abbrev s_match_of : Stmt := topS 63
theorem sc_match_of : FnScope ["bank", "manifest", "stays", "table", "stay", "number"] ["bank", "manifest", "stays"] (defScope s_match_of) := ⟨rfl, rfl, rfl, by decide +kernel, rfl, by decide +kernel, by decide +kernel⟩
theorem ok_match_of (Z : Fc w K mg base XS) : FnP PW w K mg base 4 "match_of" ["bank", "manifest", "stays"] m_match_of := by
  obtain ⟨f, fd, F, hm, hb⟩ := Z.f_match_of
  refine fn_mk (k := 3) F sc_match_of hm hb fun cdv A outer s H G0 E c => ?_
  exact (s_cons (s_setO c.nd (o_lst a_nil)) (s_toT 3 (s_cons (s_for c.po c.calm (i_seq (d_var 2)) (g_name 4 c.nd) (s_one (s_appTL 3 (o_lc c.toGE (i_rng1 Z.n_range (a_cons (d_callB cd_len nox_len rfl Z.n_len (a_cons (d_var 1) a_nil)) a_nil)) (x := "number") (i := 5) (by show blkC ["bank", "manifest", "stays", "table", "stay", "number"] (defScope s_match_of) _ _ = true; decide +kernel) (fun s1 H1 C1 cl1 fp1 => pg_name (i := 5) c.nd rfl (by first | exact Or.inl rfl | exact Or.inr rfl)) (fun s1 H1 C1 cl1 fp1 => (ts_one (t_tru (d_call (ok_could_have Z) (c.toGE.blk s1 H1 _ _ fp1) (by omega) rfl (a_cons (d_var 0) (a_cons (d_ix (d_var 1) (d_var 5) (fun _ _ => rfl)) (a_cons (d_var 4) a_nil))) (fl_cons (fl_cons (fl_cons fl_nil))))))) (fun s1 H1 C1 cl1 fp1 => (d_var 5)))))) (s_one (s_retT 3)))))
abbrev s_need_list : Stmt := topS 11
theorem sc_need_list : FnScope ["value", "limit", "what"] ["value", "limit", "what"] (defScope s_need_list) := ⟨rfl, rfl, rfl, by decide +kernel, rfl, by decide +kernel, by decide +kernel⟩
theorem ok_need_list (Z : Fc w K mg base XS) : FnP PW w K mg base 4 "need_list" ["value", "limit", "what"] m_need_list := by
  obtain ⟨f, fd, F, hm, hb⟩ := Z.f_need_list
  refine fn_mk (k := 3) F sc_need_list hm hb fun cdv A outer s H G0 E c => ?_
  exact (s_cons (s_if (t_not (t_tru (d_isi kit_list Z.n_isinstance Z.n_list rfl (d_var 0)))) (s_one (s_raise Z.x_BadValue c (by decide) mkx_bv (a_cons (d_var 2) a_nil))) s_nil) (s_one (s_if (t_cmp od_gt nox_gt (d_callB cd_len nox_len rfl Z.n_len (a_cons (d_var 0) a_nil)) (d_var 1) (nomark _)) (s_one (s_raise Z.x_TooMany c (by decide) mkx_tm (a_cons (d_var 1) a_nil))) s_nil)))
abbrev s_is_integer : Stmt := topS 7
theorem sc_is_integer : FnScope ["value"] ["value"] (defScope s_is_integer) := ⟨rfl, rfl, rfl, by decide +kernel, rfl, by decide +kernel, by decide +kernel⟩
theorem ok_is_integer (Z : Fc w K mg base XS) : FnP PW w K mg base 1 "is_integer" ["value"] m_is_integer := by
  obtain ⟨f, fd, F, hm, hb⟩ := Z.f_is_integer
  refine fn_mk (k := 0) F sc_is_integer hm hb fun cdv A outer s H G0 E c => ?_
  exact (s_one (s_ret (d_and (d_isi kit_int Z.n_isinstance Z.n_int rfl (d_var 0)) (d_one (d_not (d_isi kit_bool Z.n_isinstance Z.n_bool rfl (d_var 0)))))))
abbrev s_in_range : Stmt := topS 8
theorem sc_in_range : FnScope ["value", "low", "high"] ["value", "low", "high"] (defScope s_in_range) := ⟨rfl, rfl, rfl, by decide +kernel, rfl, by decide +kernel, by decide +kernel⟩
theorem ok_in_range (Z : Fc w K mg base XS) : FnP PW w K mg base 2 "in_range" ["value", "low", "high"] m_in_range := by
  obtain ⟨f, fd, F, hm, hb⟩ := Z.f_in_range
  refine fn_mk (k := 1) F sc_in_range hm hb fun cdv A outer s H G0 E c => ?_
  exact (s_one (s_ret (d_and (d_call (ok_is_integer Z) c.toGE (by omega) rfl (a_cons (d_var 0) a_nil) (fl_cons fl_nil)) (d_and (d_cmp od_le nox_le (d_var 1) (d_var 0) (nomark _)) (d_one (d_cmp od_le nox_le (d_var 0) (d_var 2) (nomark _)))))))
abbrev s_is_size : Stmt := topS 14
theorem sc_is_size : FnScope ["value", "measure"] ["value"] (defScope s_is_size) := ⟨rfl, rfl, rfl, by decide +kernel, rfl, by decide +kernel, by decide +kernel⟩
theorem ok_is_size (Z : Fc w K mg base XS) : FnP PW w K mg base 3 "is_size" ["value"] m_is_size := by
  obtain ⟨f, fd, F, hm, hb⟩ := Z.f_is_size
  refine fn_mk (k := 2) F sc_is_size hm hb fun cdv A outer s H G0 E c => ?_
  exact (s_cons (s_if (PW.pt (t_or (t_not (t_tru (d_isi kit_tuple Z.n_isinstance Z.n_tuple rfl (d_var 0)))) (t_or1 (t_cmp (od_ne c.toGE.hr) nox_ne (d_callB cd_len nox_len rfl Z.n_len (a_cons (d_var 0) a_nil)) d_int (nomark _))))) (s_one (s_ret d_bl)) s_nil) (s_cons (s_for c.po c.calm (i_seq (d_var 0)) (g_name 1 c.nd) (s_one (s_if (t_not (t_tru (d_call (ok_in_range Z) c.toGE (by omega) rfl (a_cons (d_var 1) (a_cons d_int (a_cons (d_gint Z.c_LONGEST) a_nil))) (fl_cons (fl_cons (fl_cons fl_nil)))))) (s_one (s_ret d_bl)) s_nil))) (s_one (s_ret d_bl))))
abbrev s_need_sizes : Stmt := topS 19
theorem sc_need_sizes : FnScope ["value", "limit", "what", "size"] ["value", "limit", "what"] (defScope s_need_sizes) := ⟨rfl, rfl, rfl, by decide +kernel, rfl, by decide +kernel, by decide +kernel⟩
theorem ok_need_sizes (Z : Fc w K mg base XS) : FnP PW w K mg base 5 "need_sizes" ["value", "limit", "what"] m_need_sizes := by
  obtain ⟨f, fd, F, hm, hb⟩ := Z.f_need_sizes
  refine fn_mk (k := 4) F sc_need_sizes hm hb fun cdv A outer s H G0 E c => ?_
  exact (s_cons (s_drop (d_call (ok_need_list Z) c.toGE (by omega) rfl (a_cons (d_var 0) (a_cons (d_var 1) (a_cons (d_var 2) a_nil))) (fl_cons (fl_cons (fl_cons fl_nil))))) (s_one (s_for c.po c.calm (i_seq (d_var 0)) (g_name 3 c.nd) (s_one (s_if (t_not (t_tru (d_call (ok_is_size Z) c.toGE (by omega) rfl (a_cons (d_var 3) a_nil) (fl_cons fl_nil)))) (s_one (s_raise Z.x_BadValue c (by decide) mkx_bv (a_cons (d_var 2) a_nil))) s_nil)))))
abbrev s_need_bank : Stmt := topS 20
theorem sc_need_bank : FnScope ["value"] ["value"] (defScope s_need_bank) := ⟨rfl, rfl, rfl, by decide +kernel, rfl, by decide +kernel, by decide +kernel⟩
theorem ok_need_bank (Z : Fc w K mg base XS) : FnP PW w K mg base 6 "need_bank" ["value"] m_need_bank := by
  obtain ⟨f, fd, F, hm, hb⟩ := Z.f_need_bank
  refine fn_mk (k := 5) F sc_need_bank hm hb fun cdv A outer s H G0 E c => ?_
  exact (s_one (s_drop (d_call (ok_need_sizes Z) c.toGE (by omega) rfl (a_cons (d_var 0) (a_cons (d_gint Z.c_MOST_BOXES) (a_cons d_str a_nil))) (fl_cons (fl_cons (fl_cons fl_nil))))))
abbrev s_is_name : Stmt := topS 42
theorem sc_is_name : FnScope ["value", "char"] ["value"] (defScope s_is_name) := ⟨rfl, rfl, rfl, by decide +kernel, rfl, by decide +kernel, by decide +kernel⟩
theorem ok_is_name (Z : Fc w K mg base XS) : FnP PW w K mg base 1 "is_name" ["value"] m_is_name := by
  obtain ⟨f, fd, F, hm, hb⟩ := Z.f_is_name
  refine fn_mk (k := 0) F sc_is_name hm hb fun cdv A outer s H G0 E c => ?_
  exact (s_cons (s_if (PW.pt (t_or (t_not (t_tru (d_isi kit_str Z.n_isinstance Z.n_str rfl (d_var 0)))) (t_or (t_cmp od_lt nox_lt (d_callB cd_len nox_len rfl Z.n_len (a_cons (d_var 0) a_nil)) d_int (nomark _)) (t_or1 (t_cmp od_gt nox_gt (d_callB cd_len nox_len rfl Z.n_len (a_cons (d_var 0) a_nil)) d_int (nomark _)))))) (s_one (s_ret d_bl)) s_nil) (s_cons (s_if (t_cmp (od_notIn c.toGE.hr) nox_notIn (d_ix (d_var 0) d_int (fun _ _ => rfl)) (d_gstr Z.c_LETTERS) (by rfl)) (s_one (s_ret d_bl)) s_nil) (s_cons (s_for c.po c.calm (i_seq (d_var 0)) (g_name 1 c.nd) (s_one (s_if (PW.pt (t_and (t_cmp (od_notIn c.toGE.hr) nox_notIn (d_var 1) (d_gstr Z.c_LETTERS) (by rfl)) (t_and1 (t_cmp (od_notIn c.toGE.hr) nox_notIn (d_var 1) (d_gstr Z.c_DIGITS) (by rfl))))) (s_one (s_ret d_bl)) s_nil))) (s_one (s_ret d_bl)))))
abbrev s_is_time : Stmt := topS 43
theorem sc_is_time : FnScope ["value"] ["value"] (defScope s_is_time) := ⟨rfl, rfl, rfl, by decide +kernel, rfl, by decide +kernel, by decide +kernel⟩
theorem ok_is_time (Z : Fc w K mg base XS) : FnP PW w K mg base 3 "is_time" ["value"] m_is_time := by
  obtain ⟨f, fd, F, hm, hb⟩ := Z.f_is_time
  refine fn_mk (k := 2) F sc_is_time hm hb fun cdv A outer s H G0 E c => ?_
  exact (s_one (s_ret (d_call (ok_in_range Z) c.toGE (by omega) rfl (a_cons (d_var 0) (a_cons d_int (a_cons (d_gint Z.c_LATEST) a_nil))) (fl_cons (fl_cons (fl_cons fl_nil))))))
abbrev s_is_parcel : Stmt := topS 45
theorem sc_is_parcel : FnScope ["value"] ["value"] (defScope s_is_parcel) := ⟨rfl, rfl, rfl, by decide +kernel, rfl, by decide +kernel, by decide +kernel⟩
theorem ok_is_parcel (Z : Fc w K mg base XS) : FnP PW w K mg base 4 "is_parcel" ["value"] m_is_parcel := by
  obtain ⟨f, fd, F, hm, hb⟩ := Z.f_is_parcel
  refine fn_mk (k := 3) F sc_is_parcel hm hb fun cdv A outer s H G0 E c => ?_
  exact (s_cons (s_if (PW.pt (t_or (t_not (t_tru (d_isi kit_tuple Z.n_isinstance Z.n_tuple rfl (d_var 0)))) (t_or1 (t_cmp (od_ne c.toGE.hr) nox_ne (d_callB cd_len nox_len rfl Z.n_len (a_cons (d_var 0) a_nil)) d_int (nomark _))))) (s_one (s_ret d_bl)) s_nil) (s_cons (s_if (PW.pt (t_or (t_not (t_tru (d_call (ok_is_name Z) c.toGE (by omega) rfl (a_cons (d_ix (d_var 0) d_int (fun _ _ => rfl)) a_nil) (fl_cons fl_nil)))) (t_or1 (t_not (t_tru (d_call (ok_is_size Z) c.toGE (by omega) rfl (a_cons (d_ix (d_var 0) d_int (fun _ _ => rfl)) a_nil) (fl_cons fl_nil))))))) (s_one (s_ret d_bl)) s_nil) (s_one (s_ret (d_and (d_call (ok_is_name Z) c.toGE (by omega) rfl (a_cons (d_ix (d_var 0) d_int (fun _ _ => rfl)) a_nil) (fl_cons fl_nil)) (d_and (d_call (ok_is_name Z) c.toGE (by omega) rfl (a_cons (d_ix (d_var 0) d_int (fun _ _ => rfl)) a_nil) (fl_cons fl_nil)) (d_one (d_call (ok_is_time Z) c.toGE (by omega) rfl (a_cons (d_ix (d_var 0) d_int (fun _ _ => rfl)) a_nil) (fl_cons fl_nil)))))))))
abbrev s_are_parcels : Stmt := topS 46
theorem sc_are_parcels : FnScope ["value", "names", "parcel"] ["value"] (defScope s_are_parcels) := ⟨rfl, rfl, rfl, by decide +kernel, rfl, by decide +kernel, by decide +kernel⟩
theorem ok_are_parcels (Z : Fc w K mg base XS) : FnP PW w K mg base 5 "are_parcels" ["value"] m_are_parcels := by
  obtain ⟨f, fd, F, hm, hb⟩ := Z.f_are_parcels
  refine fn_mk (k := 4) F sc_are_parcels hm hb fun cdv A outer s H G0 E c => ?_
  exact (s_cons (s_setO c.nd (o_lst a_nil)) (s_cons (s_for c.po c.calm (i_seq (d_var 0)) (g_name 2 c.nd) (s_cons (s_if (t_bor 1 (PW.pt (t_or (t_not (t_tru (d_call (ok_is_parcel Z) c.toGE (by omega) rfl (a_cons (d_var 2) a_nil) (fl_cons fl_nil)))) (t_or1 (t_cmp (od_in c.toGE.hr) nox_in (d_ix (d_var 2) d_int (fun _ _ => rfl)) (d_var 1) (by rfl)))))) (s_one (s_ret d_bl)) s_nil) (s_one (s_app 1 (d_ix (d_var 2) d_int (fun _ _ => rfl)))))) (s_one (s_ret d_bl))))
abbrev s_need_manifest : Stmt := topS 47
theorem sc_need_manifest : FnScope ["value", "limit"] ["value", "limit"] (defScope s_need_manifest) := ⟨rfl, rfl, rfl, by decide +kernel, rfl, by decide +kernel, by decide +kernel⟩
theorem ok_need_manifest (Z : Fc w K mg base XS) : FnP PW w K mg base 6 "need_manifest" ["value", "limit"] m_need_manifest := by
  obtain ⟨f, fd, F, hm, hb⟩ := Z.f_need_manifest
  refine fn_mk (k := 5) F sc_need_manifest hm hb fun cdv A outer s H G0 E c => ?_
  exact (s_cons (s_drop (d_call (ok_need_list Z) c.toGE (by omega) rfl (a_cons (d_var 0) (a_cons (d_var 1) (a_cons d_str a_nil))) (fl_cons (fl_cons (fl_cons fl_nil))))) (s_one (s_if (t_not (t_tru (d_call (ok_are_parcels Z) c.toGE (by omega) rfl (a_cons (d_var 0) a_nil) (fl_cons fl_nil)))) (s_one (s_raise Z.x_BadValue c (by decide) mkx_bv (a_cons d_str a_nil))) s_nil)))
abbrev s_is_opening : Stmt := topS 53
theorem sc_is_opening : FnScope ["value"] ["value"] (defScope s_is_opening) := ⟨rfl, rfl, rfl, by decide +kernel, rfl, by decide +kernel, by decide +kernel⟩
theorem ok_is_opening (Z : Fc w K mg base XS) : FnP PW w K mg base 4 "is_opening" ["value"] m_is_opening := by
  obtain ⟨f, fd, F, hm, hb⟩ := Z.f_is_opening
  refine fn_mk (k := 3) F sc_is_opening hm hb fun cdv A outer s H G0 E c => ?_
  exact (s_cons (s_if (PW.pt (t_or (t_not (t_tru (d_isi kit_tuple Z.n_isinstance Z.n_tuple rfl (d_var 0)))) (t_or1 (t_cmp (od_ne c.toGE.hr) nox_ne (d_callB cd_len nox_len rfl Z.n_len (a_cons (d_var 0) a_nil)) d_int (nomark _))))) (s_one (s_ret d_bl)) s_nil) (s_cons (s_if (PW.pt (t_or (t_not (t_tru (d_call (ok_is_time Z) c.toGE (by omega) rfl (a_cons (d_ix (d_var 0) d_int (fun _ _ => rfl)) a_nil) (fl_cons fl_nil)))) (t_or (t_not (t_tru (d_call (ok_in_range Z) c.toGE (by omega) rfl (a_cons (d_ix (d_var 0) d_int (fun _ _ => rfl)) (a_cons d_int (a_cons (d_gint Z.c_LAST_BOX) a_nil))) (fl_cons (fl_cons (fl_cons fl_nil)))))) (t_or1 (t_not (t_tru (d_call (ok_is_name Z) c.toGE (by omega) rfl (a_cons (d_ix (d_var 0) d_int (fun _ _ => rfl)) a_nil) (fl_cons fl_nil)))))))) (s_one (s_ret d_bl)) s_nil) (s_one (s_ret (d_cmp (od_in c.toGE.hr) nox_in (d_ix (d_var 0) d_int (fun _ _ => rfl)) (d_gref Z.c_WAYS) (by rfl))))))
abbrev s_need_history : Stmt := topS 54
theorem sc_need_history : FnScope ["value", "opening"] ["value"] (defScope s_need_history) := ⟨rfl, rfl, rfl, by decide +kernel, rfl, by decide +kernel, by decide +kernel⟩
theorem ok_need_history (Z : Fc w K mg base XS) : FnP PW w K mg base 5 "need_history" ["value"] m_need_history := by
  obtain ⟨f, fd, F, hm, hb⟩ := Z.f_need_history
  refine fn_mk (k := 4) F sc_need_history hm hb fun cdv A outer s H G0 E c => ?_
  exact (s_cons (s_drop (d_call (ok_need_list Z) c.toGE (by omega) rfl (a_cons (d_var 0) (a_cons (d_gint Z.c_MOST_OPENINGS) (a_cons d_str a_nil))) (fl_cons (fl_cons (fl_cons fl_nil))))) (s_one (s_for c.po c.calm (i_seq (d_var 0)) (g_name 1 c.nd) (s_one (s_if (t_not (t_tru (d_call (ok_is_opening Z) c.toGE (by omega) rfl (a_cons (d_var 1) a_nil) (fl_cons fl_nil)))) (s_one (s_raise Z.x_BadValue c (by decide) mkx_bv (a_cons d_str a_nil))) s_nil)))))
abbrev s_fault_of : Stmt := topS 55
theorem sc_fault_of : FnScope ["bank", "history", "occupied", "last", "index", "time", "box", "_", "way"] ["bank", "history"] (defScope s_fault_of) := ⟨rfl, rfl, rfl, by decide +kernel, rfl, by decide +kernel, by decide +kernel⟩
theorem ok_fault_of (Z : Fc w K mg base XS) : FnP PW w K mg base 1 "fault_of" ["bank", "history"] m_fault_of := by
  obtain ⟨f, fd, F, hm, hb⟩ := Z.f_fault_of
  refine fn_mk (k := 0) F sc_fault_of hm hb fun cdv A outer s H G0 E c => ?_
  exact (s_cons (s_setO c.nd (o_rep (d_own (o_lst (a_cons d_bl a_nil))) (d_callB cd_len nox_len rfl Z.n_len (a_cons (d_var 0) a_nil)))) (s_cons (s_set c.nd d_int) (s_cons (s_for c.po c.calm (i_rng1 Z.n_range (a_cons (d_callB cd_len nox_len rfl Z.n_len (a_cons (d_var 1) a_nil)) a_nil)) (g_name 4 c.nd) (s_cons (s_asg (d_ix (d_var 1) (d_var 4) (fun _ _ => rfl)) (g_tup c.calm (gs_cons c.nd (gs_cons c.nd (gs_cons c.nd (gs_cons c.nd gs_nil)))))) (s_cons (s_if (t_cmp od_ge nox_ge (d_var 6) (d_callB cd_len nox_len rfl Z.n_len (a_cons (d_var 0) a_nil)) (nomark _)) (s_one (s_ret (d_tup (a_cons (d_var 4) (a_cons d_str a_nil))))) s_nil) (s_cons (s_if (t_cmp od_lt nox_lt (d_var 5) (d_var 3) (nomark _)) (s_one (s_ret (d_tup (a_cons (d_var 4) (a_cons d_str a_nil))))) s_nil) (s_cons (s_if (PW.pt (t_and (t_cmp (od_eq c.toGE.hr) nox_eq (d_var 8) d_str (nomark _)) (t_and1 (t_tru (d_ixO 2 (d_var 6) (fun _ _ => rfl)))))) (s_one (s_ret (d_tup (a_cons (d_var 4) (a_cons d_str a_nil))))) s_nil) (s_cons (s_if (PW.pt (t_and (t_cmp (od_eq c.toGE.hr) nox_eq (d_var 8) d_str (nomark _)) (t_and1 (t_not (t_tru (d_ixO 2 (d_var 6) (fun _ _ => rfl))))))) (s_one (s_ret (d_tup (a_cons (d_var 4) (a_cons d_str a_nil))))) s_nil) (s_cons (s_put 2 (d_var 6) (d_cmp (od_eq c.toGE.hr) nox_eq (d_var 8) d_str (nomark _))) (s_one (s_set c.nd (d_var 5)))))))))) (s_one (s_ret d_non)))))
abbrev s_need_regular : Stmt := topS 57
theorem sc_need_regular : FnScope ["bank", "history"] ["bank", "history"] (defScope s_need_regular) := ⟨rfl, rfl, rfl, by decide +kernel, rfl, by decide +kernel, by decide +kernel⟩
theorem ok_need_regular (Z : Fc w K mg base XS) : FnP PW w K mg base 6 "need_regular" ["bank", "history"] m_need_regular := by
  obtain ⟨f, fd, F, hm, hb⟩ := Z.f_need_regular
  refine fn_mk (k := 5) F sc_need_regular hm hb fun cdv A outer s H G0 E c => ?_
  exact (s_cons (s_drop (d_call (ok_need_history Z) c.toGE (by omega) rfl (a_cons (d_var 1) a_nil) (fl_cons fl_nil))) (s_one (s_if (t_cmp od_isNot nox_isNot (d_call (ok_fault_of Z) c.toGE (by omega) rfl (a_cons (d_var 0) (a_cons (d_var 1) a_nil)) (fl_cons (fl_cons fl_nil))) d_non (nomark _)) (s_one (s_raise Z.x_BadValue c (by decide) mkx_bv (a_cons d_str a_nil))) s_nil)))
abbrev s_stays_from : Stmt := topS 56
theorem sc_stays_from : FnScope ["history", "stays", "present", "time", "box", "person", "way", "number"] ["history"] (defScope s_stays_from) := ⟨rfl, rfl, rfl, by decide +kernel, rfl, by decide +kernel, by decide +kernel⟩
theorem ok_stays_from (Z : Fc w K mg base XS) : FnP PW w K mg base 1 "stays_from" ["history"] m_stays_from := by
  obtain ⟨f, fd, F, hm, hb⟩ := Z.f_stays_from
  refine fn_mk (k := 0) F sc_stays_from hm hb fun cdv A outer s H G0 E c => ?_
  exact (s_cons (s_setO c.nd (o_lst a_nil)) (s_cons (s_newK 2 c.nd) (s_cons (s_for c.po c.calm (i_seq (d_var 0)) (g_tup c.calm (gs_cons c.nd (gs_cons c.nd (gs_cons c.nd (gs_cons c.nd gs_nil))))) (s_one (s_if (t_cmp (od_eq c.toGE.hr) nox_eq (d_var 6) d_str (nomark _)) (s_cons (s_putK 2 c.toGE (d_var 4) (d_bor 1 (d_callB cd_len nox_len rfl Z.n_len (a_cons (d_var 1) a_nil)))) (s_one (s_app 1 (d_tup (a_cons (d_var 4) (a_cons (d_var 3) (a_cons (d_var 5) (a_cons d_non (a_cons d_non a_nil))))))))) (s_cons (s_set c.nd (d_getK 2 c.toGE (d_var 4) (fun _ _ => rfl))) (s_one (s_put 1 (d_var 7) (d_bin od_add nox_add (d_slice (d_ixO 1 (d_var 7) (fun _ _ => rfl)) p_non (p_some d_int)) (d_tup (a_cons (d_var 3) (a_cons (d_var 5) a_nil)))))))))) (s_one (s_retV 1)))))
abbrev s_need_explained : Stmt := topS 64
theorem sc_need_explained : FnScope ["bank", "manifest", "history", "stays"] ["bank", "manifest", "history"] (defScope s_need_explained) := ⟨rfl, rfl, rfl, by decide +kernel, rfl, by decide +kernel, by decide +kernel⟩
theorem ok_need_explained (Z : Fc w K mg base XS) : FnP PW w K mg base 7 "need_explained" ["bank", "manifest", "history"] m_need_explained := by
  obtain ⟨f, fd, F, hm, hb⟩ := Z.f_need_explained
  refine fn_mk (k := 6) F sc_need_explained hm hb fun cdv A outer s H G0 E c => ?_
  exact (s_cons (s_drop (d_call (ok_need_bank Z) c.toGE (by omega) rfl (a_cons (d_var 0) a_nil) (fl_cons fl_nil))) (s_cons (s_drop (d_call (ok_need_manifest Z) c.toGE (by omega) rfl (a_cons (d_var 1) (a_cons (d_gint Z.c_MOST_EXPLAINED) a_nil)) (fl_cons (fl_cons fl_nil)))) (s_cons (s_drop (d_call (ok_need_regular Z) c.toGE (by omega) rfl (a_cons (d_var 0) (a_cons (d_var 2) a_nil)) (fl_cons (fl_cons fl_nil)))) (s_cons (s_set c.nd (d_call (ok_stays_from Z) c.toGE (by omega) rfl (a_cons (d_var 2) a_nil) (fl_cons fl_nil))) (s_cons (s_if (t_cmp od_gt nox_gt (d_callB cd_len nox_len rfl Z.n_len (a_cons (d_var 3) a_nil)) (d_gint Z.c_MOST_EXPLAINED) (nomark _)) (s_one (s_raise Z.x_TooMany c (by decide) mkx_tm (a_cons (d_gint Z.c_MOST_EXPLAINED) a_nil))) s_nil) (s_one (s_ret (d_var 3))))))))
abbrev s_checked_table : Stmt := topS 65
theorem sc_checked_table : FnScope ["bank", "manifest", "history"] ["bank", "manifest", "history"] (defScope s_checked_table) := ⟨rfl, rfl, rfl, by decide +kernel, rfl, by decide +kernel, by decide +kernel⟩
theorem ok_checked_table (Z : Fc w K mg base XS) : FnP PW w K mg base 8 "checked_table" ["bank", "manifest", "history"] m_checked_table := by
  obtain ⟨f, fd, F, hm, hb⟩ := Z.f_checked_table
  refine fn_mk (k := 7) F sc_checked_table hm hb fun cdv A outer s H G0 E c => ?_
  exact (s_one (s_retM (ok_match_of Z) c.toGE (by omega) rfl (a_cons (d_var 0) (a_cons (d_var 1) (a_cons (d_call (ok_need_explained Z) c.toGE (by omega) rfl (a_cons (d_var 0) (a_cons (d_var 1) (a_cons (d_var 2) a_nil))) (fl_cons (fl_cons (fl_cons fl_nil)))) a_nil))) (fl_cons (fl_cons (fl_cons fl_nil)))))
abbrev s_match_table : Stmt := topS 66
theorem sc_match_table : FnScope ["bank", "manifest", "history"] ["bank", "manifest", "history"] (defScope s_match_table) := ⟨rfl, rfl, rfl, by decide +kernel, rfl, by decide +kernel, by decide +kernel⟩
theorem ok_match_table (Z : Fc w K mg base XS) : FnP PW w K mg base 9 "match_table" ["bank", "manifest", "history"] m_match_table := by
  obtain ⟨f, fd, F, hm, hb⟩ := Z.f_match_table
  refine fn_mk (k := 8) F sc_match_table hm hb fun cdv A outer s H G0 E c => ?_
  exact (s_one (s_retM (ok_checked_table Z) c.toGE (by omega) rfl (a_cons (d_var 0) (a_cons (d_var 1) (a_cons (d_var 2) a_nil))) (fl_cons (fl_cons (fl_cons fl_nil)))))
abbrev s_least_placing : Stmt := topS 32
theorem sc_least_placing : FnScope ["table", "holder", "row"] ["table"] (defScope s_least_placing) := ⟨rfl, rfl, rfl, by decide +kernel, rfl, by decide +kernel, by decide +kernel⟩
theorem ok_least_placing (Z : Fc w K mg base XS) : FnP PW w K mg base 1 "least_placing" ["table"] m_least_placing := by
  obtain ⟨f, fd, F, hm, hb⟩ := Z.f_least_placing
  refine fn_mk (k := 0) F sc_least_placing hm hb fun cdv A outer s H G0 E c => ?_
  exact s_never
abbrev s_explanation : Stmt := topS 67
theorem sc_explanation : FnScope ["bank", "manifest", "history"] ["bank", "manifest", "history"] (defScope s_explanation) := ⟨rfl, rfl, rfl, by decide +kernel, rfl, by decide +kernel, by decide +kernel⟩
theorem ok_explanation (Z : Fc w K mg base XS) : FnP PW w K mg base 9 "explanation" ["bank", "manifest", "history"] m_explanation := by
  obtain ⟨f, fd, F, hm, hb⟩ := Z.f_explanation
  refine fn_mk (k := 8) F sc_explanation hm hb fun cdv A outer s H G0 E c => ?_
  exact (s_one (s_ret (d_call (ok_least_placing Z) c.toGE (by omega) rfl (a_cons (d_call (ok_checked_table Z) c.toGE (by omega) rfl (a_cons (d_var 0) (a_cons (d_var 1) (a_cons (d_var 2) a_nil))) (fl_cons (fl_cons (fl_cons fl_nil)))) a_nil) (fl_cons fl_nil))))
abbrev s_placed : Stmt := topS 59
theorem sc_placed : FnScope ["table", "boxes", "used", "row", "box"] ["table", "boxes"] (defScope s_placed) := ⟨rfl, rfl, rfl, by decide +kernel, rfl, by decide +kernel, by decide +kernel⟩
theorem ok_placed (Z : Fc w K mg base XS) : FnP PW w K mg base 1 "placed" ["table", "boxes"] m_placed := by
  obtain ⟨f, fd, F, hm, hb⟩ := Z.f_placed
  refine fn_mk (k := 0) F sc_placed hm hb fun cdv A outer s H G0 E c => ?_
  exact s_never
abbrev s_is_explanation : Stmt := topS 68
theorem sc_is_explanation : FnScope ["bank", "manifest", "history", "numbers"] ["bank", "manifest", "history", "numbers"] (defScope s_is_explanation) := ⟨rfl, rfl, rfl, by decide +kernel, rfl, by decide +kernel, by decide +kernel⟩
theorem ok_is_explanation (Z : Fc w K mg base XS) : FnP PW w K mg base 9 "is_explanation" ["bank", "manifest", "history", "numbers"] m_is_explanation := by
  obtain ⟨f, fd, F, hm, hb⟩ := Z.f_is_explanation
  refine fn_mk (k := 8) F sc_is_explanation hm hb fun cdv A outer s H G0 E c => ?_
  exact (s_one (s_ret (d_call (ok_placed Z) c.toGE (by omega) rfl (a_cons (d_call (ok_checked_table Z) c.toGE (by omega) rfl (a_cons (d_var 0) (a_cons (d_var 1) (a_cons (d_var 2) a_nil))) (fl_cons (fl_cons (fl_cons fl_nil)))) (a_cons (d_var 3) a_nil)) (fl_cons (fl_cons fl_nil)))))
abbrev s_crowd_or_none : Stmt := topS 38
theorem sc_crowd_or_none : FnScope ["table", "members"] ["table"] (defScope s_crowd_or_none) := ⟨rfl, rfl, rfl, by decide +kernel, rfl, by decide +kernel, by decide +kernel⟩
theorem ok_crowd_or_none (Z : Fc w K mg base XS) : FnP PW w K mg base 1 "crowd_or_none" ["table"] m_crowd_or_none := by
  obtain ⟨f, fd, F, hm, hb⟩ := Z.f_crowd_or_none
  refine fn_mk (k := 0) F sc_crowd_or_none hm hb fun cdv A outer s H G0 E c => ?_
  exact s_never
abbrev s_unexplained : Stmt := topS 69
theorem sc_unexplained : FnScope ["bank", "manifest", "history"] ["bank", "manifest", "history"] (defScope s_unexplained) := ⟨rfl, rfl, rfl, by decide +kernel, rfl, by decide +kernel, by decide +kernel⟩
theorem ok_unexplained (Z : Fc w K mg base XS) : FnP PW w K mg base 9 "unexplained" ["bank", "manifest", "history"] m_unexplained := by
  obtain ⟨f, fd, F, hm, hb⟩ := Z.f_unexplained
  refine fn_mk (k := 8) F sc_unexplained hm hb fun cdv A outer s H G0 E c => ?_
  exact (s_one (s_ret (d_call (ok_crowd_or_none Z) c.toGE (by omega) rfl (a_cons (d_call (ok_checked_table Z) c.toGE (by omega) rfl (a_cons (d_var 0) (a_cons (d_var 1) (a_cons (d_var 2) a_nil))) (fl_cons (fl_cons (fl_cons fl_nil)))) a_nil) (fl_cons fl_nil))))
abbrev s_priority_placing : Stmt := topS 33
theorem sc_priority_placing : FnScope ["table", "taken", "boxes", "result", "place", "row"] ["table"] (defScope s_priority_placing) := ⟨rfl, rfl, rfl, by decide +kernel, rfl, by decide +kernel, by decide +kernel⟩
theorem ok_priority_placing (Z : Fc w K mg base XS) : FnP PW w K mg base 1 "priority_placing" ["table"] m_priority_placing := by
  obtain ⟨f, fd, F, hm, hb⟩ := Z.f_priority_placing
  refine fn_mk (k := 0) F sc_priority_placing hm hb fun cdv A outer s H G0 E c => ?_
  exact s_never
abbrev s_partial_explanation : Stmt := topS 70
theorem sc_partial_explanation : FnScope ["bank", "manifest", "history"] ["bank", "manifest", "history"] (defScope s_partial_explanation) := ⟨rfl, rfl, rfl, by decide +kernel, rfl, by decide +kernel, by decide +kernel⟩
theorem ok_partial_explanation (Z : Fc w K mg base XS) : FnP PW w K mg base 9 "partial_explanation" ["bank", "manifest", "history"] m_partial_explanation := by
  obtain ⟨f, fd, F, hm, hb⟩ := Z.f_partial_explanation
  refine fn_mk (k := 8) F sc_partial_explanation hm hb fun cdv A outer s H G0 E c => ?_
  exact (s_one (s_ret (d_call (ok_priority_placing Z) c.toGE (by omega) rfl (a_cons (d_call (ok_checked_table Z) c.toGE (by omega) rfl (a_cons (d_var 0) (a_cons (d_var 1) (a_cons (d_var 2) a_nil))) (fl_cons (fl_cons (fl_cons fl_nil)))) a_nil) (fl_cons fl_nil))))
abbrev s_told_of : Stmt := topS 75
theorem sc_told_of : FnScope ["table", "row", "boxes"] ["table", "row"] (defScope s_told_of) := ⟨rfl, rfl, rfl, by decide +kernel, rfl, by decide +kernel, by decide +kernel⟩
theorem ok_told_of (Z : Fc w K mg base XS) : FnP PW w K mg base 1 "told_of" ["table", "row"] m_told_of := by
  obtain ⟨f, fd, F, hm, hb⟩ := Z.f_told_of
  refine fn_mk (k := 0) F sc_told_of hm hb fun cdv A outer s H G0 E c => ?_
  exact s_never
abbrev s_stay_table : Stmt := topS 79
theorem sc_stay_table : FnScope ["bank", "manifest", "history", "stay", "table"] ["bank", "manifest", "history", "stay"] (defScope s_stay_table) := ⟨rfl, rfl, rfl, by decide +kernel, rfl, by decide +kernel, by decide +kernel⟩
theorem ok_stay_table (Z : Fc w K mg base XS) : FnP PW w K mg base 9 "stay_table" ["bank", "manifest", "history", "stay"] m_stay_table := by
  obtain ⟨f, fd, F, hm, hb⟩ := Z.f_stay_table
  refine fn_mk (k := 8) F sc_stay_table hm hb fun cdv A outer s H G0 E c => ?_
  exact (s_cons (s_set c.nd (d_call (ok_checked_table Z) c.toGE (by omega) rfl (a_cons (d_var 0) (a_cons (d_var 1) (a_cons (d_var 2) a_nil))) (fl_cons (fl_cons (fl_cons fl_nil))))) s_never)
abbrev s_told_parcel : Stmt := topS 82
theorem sc_told_parcel : FnScope ["bank", "manifest", "history", "stay"] ["bank", "manifest", "history", "stay"] (defScope s_told_parcel) := ⟨rfl, rfl, rfl, by decide +kernel, rfl, by decide +kernel, by decide +kernel⟩
theorem ok_told_parcel (Z : Fc w K mg base XS) : FnP PW w K mg base 10 "told_parcel" ["bank", "manifest", "history", "stay"] m_told_parcel := by
  obtain ⟨f, fd, F, hm, hb⟩ := Z.f_told_parcel
  refine fn_mk (k := 9) F sc_told_parcel hm hb fun cdv A outer s H G0 E c => ?_
  exact (s_one (s_ret (d_call (ok_told_of Z) c.toGE (by omega) rfl (a_cons (d_call (ok_stay_table Z) c.toGE (by omega) rfl (a_cons (d_var 0) (a_cons (d_var 1) (a_cons (d_var 2) (a_cons (d_var 3) a_nil)))) (fl_cons (fl_cons (fl_cons (fl_cons fl_nil))))) (a_cons (d_var 3) a_nil)) (fl_cons (fl_cons fl_nil)))))
abbrev s_tight_of : Stmt := topS 76
theorem sc_tight_of : FnScope ["table", "row"] ["table", "row"] (defScope s_tight_of) := ⟨rfl, rfl, rfl, by decide +kernel, rfl, by decide +kernel, by decide +kernel⟩
theorem ok_tight_of (Z : Fc w K mg base XS) : FnP PW w K mg base 1 "tight_of" ["table", "row"] m_tight_of := by
  obtain ⟨f, fd, F, hm, hb⟩ := Z.f_tight_of
  refine fn_mk (k := 0) F sc_tight_of hm hb fun cdv A outer s H G0 E c => ?_
  exact s_never
abbrev s_told_set : Stmt := topS 83
theorem sc_told_set : FnScope ["bank", "manifest", "history", "stay"] ["bank", "manifest", "history", "stay"] (defScope s_told_set) := ⟨rfl, rfl, rfl, by decide +kernel, rfl, by decide +kernel, by decide +kernel⟩
theorem ok_told_set (Z : Fc w K mg base XS) : FnP PW w K mg base 10 "told_set" ["bank", "manifest", "history", "stay"] m_told_set := by
  obtain ⟨f, fd, F, hm, hb⟩ := Z.f_told_set
  refine fn_mk (k := 9) F sc_told_set hm hb fun cdv A outer s H G0 E c => ?_
  exact (s_one (s_ret (d_call (ok_tight_of Z) c.toGE (by omega) rfl (a_cons (d_call (ok_stay_table Z) c.toGE (by omega) rfl (a_cons (d_var 0) (a_cons (d_var 1) (a_cons (d_var 2) (a_cons (d_var 3) a_nil)))) (fl_cons (fl_cons (fl_cons (fl_cons fl_nil))))) (a_cons (d_var 3) a_nil)) (fl_cons (fl_cons fl_nil)))))
abbrev s_other_of : Stmt := topS 77
theorem sc_other_of : FnScope ["table", "row"] ["table", "row"] (defScope s_other_of) := ⟨rfl, rfl, rfl, by decide +kernel, rfl, by decide +kernel, by decide +kernel⟩
theorem ok_other_of (Z : Fc w K mg base XS) : FnP PW w K mg base 1 "other_of" ["table", "row"] m_other_of := by
  obtain ⟨f, fd, F, hm, hb⟩ := Z.f_other_of
  refine fn_mk (k := 0) F sc_other_of hm hb fun cdv A outer s H G0 E c => ?_
  exact s_never
abbrev s_other_explanation : Stmt := topS 84
theorem sc_other_explanation : FnScope ["bank", "manifest", "history", "stay"] ["bank", "manifest", "history", "stay"] (defScope s_other_explanation) := ⟨rfl, rfl, rfl, by decide +kernel, rfl, by decide +kernel, by decide +kernel⟩
theorem ok_other_explanation (Z : Fc w K mg base XS) : FnP PW w K mg base 10 "other_explanation" ["bank", "manifest", "history", "stay"] m_other_explanation := by
  obtain ⟨f, fd, F, hm, hb⟩ := Z.f_other_explanation
  refine fn_mk (k := 9) F sc_other_explanation hm hb fun cdv A outer s H G0 E c => ?_
  exact (s_one (s_ret (d_call (ok_other_of Z) c.toGE (by omega) rfl (a_cons (d_call (ok_stay_table Z) c.toGE (by omega) rfl (a_cons (d_var 0) (a_cons (d_var 1) (a_cons (d_var 2) (a_cons (d_var 3) a_nil)))) (fl_cons (fl_cons (fl_cons (fl_cons fl_nil))))) (a_cons (d_var 3) a_nil)) (fl_cons (fl_cons fl_nil)))))
abbrev s_parcel_table : Stmt := topS 80
theorem sc_parcel_table : FnScope ["bank", "manifest", "history", "number", "table"] ["bank", "manifest", "history", "number"] (defScope s_parcel_table) := ⟨rfl, rfl, rfl, by decide +kernel, rfl, by decide +kernel, by decide +kernel⟩
theorem ok_parcel_table (Z : Fc w K mg base XS) : FnP PW w K mg base 9 "parcel_table" ["bank", "manifest", "history", "number"] m_parcel_table := by
  obtain ⟨f, fd, F, hm, hb⟩ := Z.f_parcel_table
  refine fn_mk (k := 8) F sc_parcel_table hm hb fun cdv A outer s H G0 E c => ?_
  exact (s_cons (s_set c.nd (d_call (ok_checked_table Z) c.toGE (by omega) rfl (a_cons (d_var 0) (a_cons (d_var 1) (a_cons (d_var 2) a_nil))) (fl_cons (fl_cons (fl_cons fl_nil))))) s_never)
abbrev s_sure_set : Stmt := topS 85
theorem sc_sure_set : FnScope ["bank", "manifest", "history", "number", "table"] ["bank", "manifest", "history", "number"] (defScope s_sure_set) := ⟨rfl, rfl, rfl, by decide +kernel, rfl, by decide +kernel, by decide +kernel⟩
theorem ok_sure_set (Z : Fc w K mg base XS) : FnP PW w K mg base 10 "sure_set" ["bank", "manifest", "history", "number"] m_sure_set := by
  obtain ⟨f, fd, F, hm, hb⟩ := Z.f_sure_set
  refine fn_mk (k := 9) F sc_sure_set hm hb fun cdv A outer s H G0 E c => ?_
  exact (s_cons (s_set c.nd (d_call (ok_parcel_table Z) c.toGE (by omega) rfl (a_cons (d_var 0) (a_cons (d_var 1) (a_cons (d_var 2) (a_cons (d_var 3) a_nil)))) (fl_cons (fl_cons (fl_cons (fl_cons fl_nil)))))) s_never)
abbrev s_is_sure_set : Stmt := topS 86
theorem sc_is_sure_set : FnScope ["bank", "manifest", "history", "number", "members", "table"] ["bank", "manifest", "history", "number", "members"] (defScope s_is_sure_set) := ⟨rfl, rfl, rfl, by decide +kernel, rfl, by decide +kernel, by decide +kernel⟩
theorem ok_is_sure_set (Z : Fc w K mg base XS) : FnP PW w K mg base 10 "is_sure_set" ["bank", "manifest", "history", "number", "members"] m_is_sure_set := by
  obtain ⟨f, fd, F, hm, hb⟩ := Z.f_is_sure_set
  refine fn_mk (k := 9) F sc_is_sure_set hm hb fun cdv A outer s H G0 E c => ?_
  exact (s_cons (s_set c.nd (d_call (ok_parcel_table Z) c.toGE (by omega) rfl (a_cons (d_var 0) (a_cons (d_var 1) (a_cons (d_var 2) (a_cons (d_var 3) a_nil)))) (fl_cons (fl_cons (fl_cons (fl_cons fl_nil)))))) s_never)
abbrev s_explanation_without : Stmt := topS 87
theorem sc_explanation_without : FnScope ["bank", "manifest", "history", "number", "table"] ["bank", "manifest", "history", "number"] (defScope s_explanation_without) := ⟨rfl, rfl, rfl, by decide +kernel, rfl, by decide +kernel, by decide +kernel⟩
theorem ok_explanation_without (Z : Fc w K mg base XS) : FnP PW w K mg base 10 "explanation_without" ["bank", "manifest", "history", "number"] m_explanation_without := by
  obtain ⟨f, fd, F, hm, hb⟩ := Z.f_explanation_without
  refine fn_mk (k := 9) F sc_explanation_without hm hb fun cdv A outer s H G0 E c => ?_
  exact (s_cons (s_set c.nd (d_call (ok_parcel_table Z) c.toGE (by omega) rfl (a_cons (d_var 0) (a_cons (d_var 1) (a_cons (d_var 2) (a_cons (d_var 3) a_nil)))) (fl_cons (fl_cons (fl_cons (fl_cons fl_nil)))))) s_never)
abbrev s_inside : Stmt := topS 88
theorem sc_inside : FnScope ["bank", "manifest", "history", "stays", "table", "rows", "found", "number"] ["bank", "manifest", "history"] (defScope s_inside) := ⟨rfl, rfl, rfl, by decide +kernel, rfl, by decide +kernel, by decide +kernel⟩
theorem ok_inside (Z : Fc w K mg base XS) : FnP PW w K mg base 8 "inside" ["bank", "manifest", "history"] m_inside := by
  obtain ⟨f, fd, F, hm, hb⟩ := Z.f_inside
  refine fn_mk (k := 7) F sc_inside hm hb fun cdv A outer s H G0 E c => ?_
  exact (s_cons (s_set c.nd (d_call (ok_need_explained Z) c.toGE (by omega) rfl (a_cons (d_var 0) (a_cons (d_var 1) (a_cons (d_var 2) a_nil))) (fl_cons (fl_cons (fl_cons fl_nil))))) s_never)
abbrev s__law_door : Stmt := topS 104
theorem sc__law_door : FnScope ["way", "bank", "manifest", "history", "e"] ["way", "bank", "manifest", "history"] (defScope s__law_door) := ⟨rfl, rfl, rfl, by decide +kernel, rfl, by decide +kernel, by decide +kernel⟩
theorem ok__law_door (Z : Fc w K mg base XS) : FnP PW w K mg base 11 "_law_door" ["way", "bank", "manifest", "history"] m__law_door := by
  obtain ⟨f, fd, F, hm, hb⟩ := Z.f__law_door
  refine fn_mk (k := 10) F sc__law_door hm hb fun cdv A outer s H G0 E c => ?_
  exact (s_cons (s_try c (fun W' pn xe c' => (s_cons (s_if (t_cmp (od_eq c'.toGE.hr) nox_eq (d_var 0) d_int (nomark _)) (s_one (s_drop (d_call (ok_match_table Z) c'.toGE (by omega) rfl (a_cons (d_var 1) (a_cons (d_var 2) (a_cons (d_var 3) a_nil))) (fl_cons (fl_cons (fl_cons fl_nil)))))) s_nil) (s_cons (s_if (t_cmp (od_eq c'.toGE.hr) nox_eq (d_var 0) d_int (nomark _)) (s_one (s_drop (d_call (ok_explanation Z) c'.toGE (by omega) rfl (a_cons (d_var 1) (a_cons (d_var 2) (a_cons (d_var 3) a_nil))) (fl_cons (fl_cons (fl_cons fl_nil)))))) s_nil) (s_cons (s_if (t_cmp (od_eq c'.toGE.hr) nox_eq (d_var 0) d_int (nomark _)) (s_one (s_drop (d_call (ok_is_explanation Z) c'.toGE (by omega) rfl (a_cons (d_var 1) (a_cons (d_var 2) (a_cons (d_var 3) (a_cons (d_own (o_lst a_nil)) a_nil)))) (fl_cons (fl_cons (fl_cons (fl_cons fl_nil))))))) s_nil) (s_cons (s_if (t_cmp (od_eq c'.toGE.hr) nox_eq (d_var 0) d_int (nomark _)) (s_one (s_drop (d_call (ok_unexplained Z) c'.toGE (by omega) rfl (a_cons (d_var 1) (a_cons (d_var 2) (a_cons (d_var 3) a_nil))) (fl_cons (fl_cons (fl_cons fl_nil)))))) s_nil) (s_cons (s_if (t_cmp (od_eq c'.toGE.hr) nox_eq (d_var 0) d_int (nomark _)) (s_one (s_drop (d_call (ok_partial_explanation Z) c'.toGE (by omega) rfl (a_cons (d_var 1) (a_cons (d_var 2) (a_cons (d_var 3) a_nil))) (fl_cons (fl_cons (fl_cons fl_nil)))))) s_nil) (s_cons (s_if (t_cmp (od_eq c'.toGE.hr) nox_eq (d_var 0) d_int (nomark _)) (s_one (s_drop (d_call (ok_told_parcel Z) c'.toGE (by omega) rfl (a_cons (d_var 1) (a_cons (d_var 2) (a_cons (d_var 3) (a_cons d_int a_nil)))) (fl_cons (fl_cons (fl_cons (fl_cons fl_nil))))))) s_nil) (s_cons (s_if (t_cmp (od_eq c'.toGE.hr) nox_eq (d_var 0) d_int (nomark _)) (s_one (s_drop (d_call (ok_told_set Z) c'.toGE (by omega) rfl (a_cons (d_var 1) (a_cons (d_var 2) (a_cons (d_var 3) (a_cons d_int a_nil)))) (fl_cons (fl_cons (fl_cons (fl_cons fl_nil))))))) s_nil) (s_cons (s_if (t_cmp (od_eq c'.toGE.hr) nox_eq (d_var 0) d_int (nomark _)) (s_one (s_drop (d_call (ok_other_explanation Z) c'.toGE (by omega) rfl (a_cons (d_var 1) (a_cons (d_var 2) (a_cons (d_var 3) (a_cons d_int a_nil)))) (fl_cons (fl_cons (fl_cons (fl_cons fl_nil))))))) s_nil) (s_cons (s_if (t_cmp (od_eq c'.toGE.hr) nox_eq (d_var 0) d_int (nomark _)) (s_one (s_drop (d_call (ok_sure_set Z) c'.toGE (by omega) rfl (a_cons (d_var 1) (a_cons (d_var 2) (a_cons (d_var 3) (a_cons d_int a_nil)))) (fl_cons (fl_cons (fl_cons (fl_cons fl_nil))))))) s_nil) (s_cons (s_if (t_cmp (od_eq c'.toGE.hr) nox_eq (d_var 0) d_int (nomark _)) (s_one (s_drop (d_call (ok_is_sure_set Z) c'.toGE (by omega) rfl (a_cons (d_var 1) (a_cons (d_var 2) (a_cons (d_var 3) (a_cons d_int (a_cons (d_own (o_lst a_nil)) a_nil))))) (fl_cons (fl_cons (fl_cons (fl_cons (fl_cons fl_nil)))))))) s_nil) (s_cons (s_if (t_cmp (od_eq c'.toGE.hr) nox_eq (d_var 0) d_int (nomark _)) (s_one (s_drop (d_call (ok_explanation_without Z) c'.toGE (by omega) rfl (a_cons (d_var 1) (a_cons (d_var 2) (a_cons (d_var 3) (a_cons d_int a_nil)))) (fl_cons (fl_cons (fl_cons (fl_cons fl_nil))))))) s_nil) (s_one (s_if (t_cmp (od_eq c'.toGE.hr) nox_eq (d_var 0) d_int (nomark _)) (s_one (s_drop (d_call (ok_inside Z) c'.toGE (by omega) rfl (a_cons (d_var 1) (a_cons (d_var 2) (a_cons (d_var 3) a_nil))) (fl_cons (fl_cons (fl_cons fl_nil)))))) s_nil)))))))))))))) (.cons Z.n_TooMany rfl rfl (fun e he => Z.cl_TooMany e he) (fun p oe cls d pn hz hf => (su_ret (x_tup (xa_cons (x_lift d_str) (xa_cons (x_fld Z.x_TooMany (by decide) hz hf rfl) xa_nil))))) (.cons Z.n_BadValue rfl rfl (fun e he => Z.cl_BadValue e he) (fun p oe cls d pn hz hf => (su_ret (x_tup (xa_cons (x_lift d_str) (xa_cons (x_fld Z.x_BadValue (by decide) hz hf rfl) xa_nil))))) (.consN Z.n_NoPlacing (Nat.le_of_eq rfl) (fun e he => Z.cl_NoPlacing e he) (fun p oe cls d pn hz hf => (su_ret (x_tup (xa_cons (x_lift d_str) (xa_cons (x_lift d_int) xa_nil))))) .nil)))) (s_one (s_ret (d_tup (a_cons d_str (a_cons d_int a_nil))))))
abbrev s__law_all_doors : Stmt := topS 105
theorem sc__law_all_doors : FnScope ["bank", "manifest", "history", "due", "way"] ["bank", "manifest", "history", "due"] (defScope s__law_all_doors) := ⟨rfl, rfl, rfl, by decide +kernel, rfl, by decide +kernel, by decide +kernel⟩
theorem ok__law_all_doors (Z : Fc w K mg base XS) : FnP PW w K mg base 12 "_law_all_doors" ["bank", "manifest", "history", "due"] m__law_all_doors := by
  obtain ⟨f, fd, F, hm, hb⟩ := Z.f__law_all_doors
  refine fn_mk (k := 11) F sc__law_all_doors hm hb fun cdv A outer s H G0 E c => ?_
  exact (s_cons (s_for c.po c.calm (i_rng1 Z.n_range (a_cons d_int a_nil)) (g_name 4 c.nd) (s_one (s_if (t_not (t_tru (d_call (ok__law_same Z 6) c.toGE (by omega) rfl (a_cons (d_call (ok__law_door Z) c.toGE (by omega) rfl (a_cons (d_var 4) (a_cons (d_var 0) (a_cons (d_var 1) (a_cons (d_var 2) a_nil)))) (fl_cons (fl_cons (fl_cons (fl_cons fl_nil))))) (a_cons (d_var 3) a_nil)) (fl_cons (fl_cons fl_nil))))) (s_one (s_ret d_bl)) s_nil))) (s_one (s_ret d_bl)))
abbrev s__law_refused : Stmt := topS 107
theorem sc__law_refused : FnScope ["bank", "manifest", "history", "full", "many", "double", "out", "k"] ["bank", "manifest", "history", "full"] (defScope s__law_refused) := ⟨rfl, rfl, rfl, by decide +kernel, rfl, by decide +kernel, by decide +kernel⟩
theorem ok__law_refused (Z : Fc w K mg base XS) : FnP PW w K mg base 13 "_law_refused" ["bank", "manifest", "history", "full"] m__law_refused := by
  obtain ⟨f, fd, F, hm, hb⟩ := Z.f__law_refused
  refine fn_mk (k := 12) F sc__law_refused hm hb fun cdv A outer s H G0 E c => ?_
  exact (s_cons (s_setLcS (j := 4) c.toGE rfl rfl (sw_true rfl rfl rfl (by decide +kernel)) (i_rng1 Z.n_range (a_cons d_int a_nil)) (x := "k") (i := 7) (by show blkC ["bank", "manifest", "history", "full", "many", "double", "out", "k"] (defScope s__law_refused) _ _ = true; decide +kernel) (fun s1 H1 C1 cl1 fp1 => pg_name (i := 7) c.nd rfl (by first | exact Or.inl rfl | exact Or.inr rfl)) (fun s1 H1 C1 cl1 fp1 => ts_nil) (fun s1 H1 C1 cl1 fp1 => (d_tup (a_cons (d_bin od_add nox_add d_str (d_callTy cd_str nox_str rfl Z.n_str (a_cons (d_var 7) a_nil))) (a_cons (d_tup (a_cons d_int (a_cons d_int (a_cons d_int a_nil)))) (a_cons d_str (a_cons d_str (a_cons (d_var 7) a_nil)))))))) (s_cons (s_set c.nd (d_own (o_lst (a_cons (d_ix (d_var 4) d_int (fun _ _ => rfl)) (a_cons (d_ix (d_var 4) d_int (fun _ _ => rfl)) (a_cons (d_tup (a_cons d_str (a_cons (d_tup (a_cons d_int (a_cons d_int (a_cons d_int a_nil)))) (a_cons d_str (a_cons d_str (a_cons d_int a_nil)))))) a_nil)))))) (s_cons (s_set c.nd (d_own (o_lst (a_cons (d_tup (a_cons d_int (a_cons d_int (a_cons d_str (a_cons d_str a_nil))))) a_nil)))) (s_cons (s_if (t_not (t_tru (d_call (ok__law_all_doors Z) c.toGE (by omega) rfl (a_cons (d_slice (d_bin od_add nox_add (d_var 0) (d_own (o_lst (a_cons (d_tup (a_cons d_int (a_cons d_int a_nil))) a_nil)))) (p_some (d_neg d_int)) p_non) (a_cons d_non (a_cons d_non (a_cons (d_tup (a_cons d_str (a_cons d_str a_nil))) a_nil)))) (fl_cons (fl_cons (fl_cons (fl_cons fl_nil))))))) (s_one (s_ret d_bl)) s_nil) (s_cons (s_if (PW.pt (t_or (t_not (t_tru (d_call (ok__law_all_doors Z) c.toGE (by omega) rfl (a_cons (d_var 0) (a_cons (d_var 4) (a_cons d_non (a_cons (d_tup (a_cons d_str (a_cons d_int a_nil))) a_nil)))) (fl_cons (fl_cons (fl_cons (fl_cons fl_nil))))))) (t_or1 (t_not (t_tru (d_call (ok__law_all_doors Z) c.toGE (by omega) rfl (a_cons (d_var 0) (a_cons (d_var 5) (a_cons d_non (a_cons (d_tup (a_cons d_str (a_cons d_str a_nil))) a_nil)))) (fl_cons (fl_cons (fl_cons (fl_cons fl_nil)))))))))) (s_one (s_ret d_bl)) s_nil) (s_cons (s_if (t_not (t_tru (d_call (ok__law_all_doors Z) c.toGE (by omega) rfl (a_cons (d_var 0) (a_cons (d_callTy cd_tuple nox_tuple rfl Z.n_tuple (a_cons (d_var 1) a_nil)) (a_cons (d_var 3) (a_cons (d_tup (a_cons d_str (a_cons d_str a_nil))) a_nil)))) (fl_cons (fl_cons (fl_cons (fl_cons fl_nil))))))) (s_one (s_ret d_bl)) s_nil) (s_cons (s_if (t_not (t_tru (d_call (ok__law_all_doors Z) c.toGE (by omega) rfl (a_cons (d_var 0) (a_cons (d_var 1) (a_cons (d_callTy cd_tuple nox_tuple rfl Z.n_tuple (a_cons (d_var 2) a_nil)) (a_cons (d_tup (a_cons d_str (a_cons d_str a_nil))) a_nil)))) (fl_cons (fl_cons (fl_cons (fl_cons fl_nil))))))) (s_one (s_ret d_bl)) s_nil) (s_cons (s_if (t_not (t_tru (d_call (ok__law_all_doors Z) c.toGE (by omega) rfl (a_cons (d_var 0) (a_cons (d_var 1) (a_cons (d_bin od_mul nox_mul (d_var 6) d_int) (a_cons (d_tup (a_cons d_str (a_cons d_int a_nil))) a_nil)))) (fl_cons (fl_cons (fl_cons (fl_cons fl_nil))))))) (s_one (s_ret d_bl)) s_nil) (s_cons (s_if (t_not (t_tru (d_call (ok__law_all_doors Z) c.toGE (by omega) rfl (a_cons (d_var 0) (a_cons (d_var 1) (a_cons (d_bin od_add nox_add (d_var 6) (d_slice (d_var 2) p_non (p_some d_int))) (a_cons (d_tup (a_cons d_str (a_cons d_str a_nil))) a_nil)))) (fl_cons (fl_cons (fl_cons (fl_cons fl_nil))))))) (s_one (s_ret d_bl)) s_nil) (s_cons (s_if (t_not (t_tru (d_call (ok__law_all_doors Z) c.toGE (by omega) rfl (a_cons (d_var 0) (a_cons (d_var 1) (a_cons (d_bin od_add nox_add (d_var 6) (d_slice (d_var 3) (p_some d_int) p_non)) (a_cons (d_tup (a_cons d_str (a_cons d_str a_nil))) a_nil)))) (fl_cons (fl_cons (fl_cons (fl_cons fl_nil))))))) (s_one (s_ret d_bl)) s_nil) (s_one (s_ret (d_call (ok__law_all_doors Z) c.toGE (by omega) rfl (a_cons (d_var 0) (a_cons (d_var 1) (a_cons (d_var 3) (a_cons (d_tup (a_cons d_str (a_cons d_int a_nil))) a_nil)))) (fl_cons (fl_cons (fl_cons (fl_cons fl_nil)))))))))))))))))
abbrev s__law_fits : Stmt := topS 94
theorem sc__law_fits : FnScope ["small", "large", "one", "two"] ["small", "large"] (defScope s__law_fits) := ⟨rfl, rfl, rfl, by decide +kernel, rfl, by decide +kernel, by decide +kernel⟩
theorem ok__law_fits (Z : Fc w K mg base XS) : FnP PW w K mg base 1 "_law_fits" ["small", "large"] m__law_fits := by
  obtain ⟨f, fd, F, hm, hb⟩ := Z.f__law_fits
  refine fn_mk (k := 0) F sc__law_fits hm hb fun cdv A outer s H G0 E c => ?_
  exact (s_cons (s_set c.nd (d_own (o_callB co_sorted nox_sorted rfl Z.n_sorted (a_cons (d_var 0) a_nil)))) (s_cons (s_set c.nd (d_own (o_callB co_sorted nox_sorted rfl Z.n_sorted (a_cons (d_var 1) a_nil)))) (s_one (s_ret (d_and (d_cmp od_le nox_le (d_ix (d_var 2) d_int (fun _ _ => rfl)) (d_ix (d_var 3) d_int (fun _ _ => rfl)) (nomark _)) (d_and (d_cmp od_le nox_le (d_ix (d_var 2) d_int (fun _ _ => rfl)) (d_ix (d_var 3) d_int (fun _ _ => rfl)) (nomark _)) (d_one (d_cmp od_le nox_le (d_ix (d_var 2) d_int (fun _ _ => rfl)) (d_ix (d_var 3) d_int (fun _ _ => rfl)) (nomark _)))))))))
abbrev s__law_next : Stmt := topS 99
theorem sc__law_next : FnScope ["bank", "manifest", "used", "first", "box", "time", "k", "number", "parcel"] ["bank", "manifest", "used", "first", "box", "time"] (defScope s__law_next) := ⟨rfl, rfl, rfl, by decide +kernel, rfl, by decide +kernel, by decide +kernel⟩
theorem ok__law_next (Z : Fc w K mg base XS) : FnP PW w K mg base 2 "_law_next" ["bank", "manifest", "used", "first", "box", "time"] m__law_next := by
  obtain ⟨f, fd, F, hm, hb⟩ := Z.f__law_next
  refine fn_mk (k := 1) F sc__law_next hm hb fun cdv A outer s H G0 E c => ?_
  exact (s_cons (s_for c.po c.calm (i_rng1 Z.n_range (a_cons (d_callB cd_len nox_len rfl Z.n_len (a_cons (d_var 1) a_nil)) a_nil)) (g_name 6 c.nd) (s_cons (s_set c.nd (d_bin od_mod nox_mod (d_callTy cd_int nox_int rfl Z.n_int (a_cons (d_bin od_add nox_add (d_var 3) (d_var 6)) a_nil)) (d_callB cd_len nox_len rfl Z.n_len (a_cons (d_var 1) a_nil)))) (s_cons (s_set c.nd (d_ix (d_var 1) (d_var 7) (fun _ _ => rfl))) (s_one (s_if (PW.pt (t_and (t_cmp (od_notIn c.toGE.hr) nox_notIn (d_var 7) (d_var 2) (by rfl)) (t_and (t_tru (d_call (ok__law_fits Z) c.toGE (by omega) rfl (a_cons (d_ix (d_var 8) d_int (fun _ _ => rfl)) (a_cons (d_ix (d_var 0) (d_var 4) (fun _ _ => rfl)) a_nil)) (fl_cons (fl_cons fl_nil)))) (t_and1 (PW.pt (t_or (t_cmp (od_eq c.toGE.hr) nox_eq (d_ix (d_var 8) d_int (fun _ _ => rfl)) d_int (nomark _)) (t_or1 (t_cmp od_lt nox_lt (d_var 5) (d_ix (d_var 8) d_int (fun _ _ => rfl)) (nomark _))))))))) (s_one (s_ret (d_var 7))) s_nil))))) (s_one (s_ret (d_neg d_int))))
abbrev s__law_putter : Stmt := topS 97
theorem sc__law_putter : FnScope ["parcel"] ["parcel"] (defScope s__law_putter) := ⟨rfl, rfl, rfl, by decide +kernel, rfl, by decide +kernel, by decide +kernel⟩
theorem ok__law_putter (Z : Fc w K mg base XS) : FnP PW w K mg base 1 "_law_putter" ["parcel"] m__law_putter := by
  obtain ⟨f, fd, F, hm, hb⟩ := Z.f__law_putter
  refine fn_mk (k := 0) F sc__law_putter hm hb fun cdv A outer s H G0 E c => ?_
  exact (s_cons (s_if (t_cmp (od_eq c.toGE.hr) nox_eq (d_ix (d_var 0) d_int (fun _ _ => rfl)) d_int (nomark _)) (s_one (s_ret (d_ix (d_var 0) d_int (fun _ _ => rfl)))) s_nil) (s_one (s_ret (d_ix (d_var 0) d_int (fun _ _ => rfl)))))
abbrev s__law_owner : Stmt := topS 98
theorem sc__law_owner : FnScope ["parcel", "time"] ["parcel", "time"] (defScope s__law_owner) := ⟨rfl, rfl, rfl, by decide +kernel, rfl, by decide +kernel, by decide +kernel⟩
theorem ok__law_owner (Z : Fc w K mg base XS) : FnP PW w K mg base 1 "_law_owner" ["parcel", "time"] m__law_owner := by
  obtain ⟨f, fd, F, hm, hb⟩ := Z.f__law_owner
  refine fn_mk (k := 0) F sc__law_owner hm hb fun cdv A outer s H G0 E c => ?_
  exact (s_cons (s_if (t_cmp od_lt nox_lt (d_var 1) (d_ix (d_var 0) d_int (fun _ _ => rfl)) (nomark _)) (s_one (s_ret (d_ix (d_var 0) d_int (fun _ _ => rfl)))) s_nil) (s_one (s_ret (d_ix (d_var 0) d_int (fun _ _ => rfl)))))
abbrev s__law_history : Stmt := topS 100
theorem sc__law_history : FnScope ["script", "length", "bank", "manifest", "people", "noise", "where", "picks", "steps", "who", "held", "used", "time", "history", "k", "box", "number", "person", "way"] ["script", "length", "bank", "manifest", "people", "noise"] (defScope s__law_history) := ⟨rfl, rfl, rfl, by decide +kernel, rfl, by decide +kernel, by decide +kernel⟩
theorem ok__law_history (Z : Fc w K mg base XS) : FnP PW w K mg base 3 "_law_history" ["script", "length", "bank", "manifest", "people", "noise"] m__law_history := by
  obtain ⟨f, fd, F, hm, hb⟩ := Z.f__law_history
  refine fn_mk (k := 2) F sc__law_history hm hb fun cdv A outer s H G0 E c => ?_
  exact (s_cons (s_set c.nd (d_call (ok__law_row Z) c.toGE (by omega) rfl (a_cons (d_call (ok__law_cell Z) c.toGE (by omega) rfl (a_cons (d_var 0) (a_cons d_int a_nil)) (fl_cons (fl_cons fl_nil))) (a_cons (d_var 1) (a_cons d_int a_nil))) (fl_cons (fl_cons (fl_cons fl_nil))))) (s_cons (s_set c.nd (d_call (ok__law_row Z) c.toGE (by omega) rfl (a_cons (d_call (ok__law_cell Z) c.toGE (by omega) rfl (a_cons (d_var 0) (a_cons d_int a_nil)) (fl_cons (fl_cons fl_nil))) (a_cons (d_var 1) (a_cons d_int a_nil))) (fl_cons (fl_cons (fl_cons fl_nil))))) (s_cons (s_set c.nd (d_call (ok__law_row Z) c.toGE (by omega) rfl (a_cons (d_call (ok__law_cell Z) c.toGE (by omega) rfl (a_cons (d_var 0) (a_cons d_int a_nil)) (fl_cons (fl_cons fl_nil))) (a_cons (d_var 1) (a_cons d_int a_nil))) (fl_cons (fl_cons (fl_cons fl_nil))))) (s_cons (s_set c.nd (d_call (ok__law_row Z) c.toGE (by omega) rfl (a_cons (d_call (ok__law_cell Z) c.toGE (by omega) rfl (a_cons (d_var 0) (a_cons d_int a_nil)) (fl_cons (fl_cons fl_nil))) (a_cons (d_var 1) (a_cons d_int a_nil))) (fl_cons (fl_cons (fl_cons fl_nil))))) (s_cons (s_setO c.nd (o_rep (d_own (o_lst (a_cons (d_neg d_int) a_nil))) d_int)) (s_cons (s_setO c.nd (o_lst a_nil)) (s_cons (s_set c.nd d_int) (s_cons (s_setO c.nd (o_lst a_nil)) (s_cons (s_for c.po c.calm (i_rng1 Z.n_range (a_cons (d_var 1) a_nil)) (g_name 14 c.nd) (s_cons (s_set c.nd (d_bin od_mod nox_mod (d_callTy cd_int nox_int rfl Z.n_int (a_cons (d_ix (d_var 6) (d_var 14) (fun _ _ => rfl)) a_nil)) (d_callB cd_len nox_len rfl Z.n_len (a_cons (d_var 2) a_nil)))) (s_cons (s_set c.nd (d_bin od_add nox_add (d_var 12) (d_ix (d_var 8) (d_var 14) (fun _ _ => rfl)))) (s_cons (s_set c.nd (d_ixO 10 (d_var 15) (fun _ _ => rfl))) (s_cons (s_if (t_cmp (od_eq c.toGE.hr) nox_eq (d_var 16) (d_neg d_int) (nomark _)) (s_cons (s_set c.nd (d_bor 11 (d_call (ok__law_next Z) c.toGE (by omega) rfl (a_cons (d_var 2) (a_cons (d_var 3) (a_cons (d_var 11) (a_cons (d_ix (d_var 7) (d_var 14) (fun _ _ => rfl)) (a_cons (d_var 15) (a_cons (d_var 12) a_nil)))))) (fl_cons (fl_cons (fl_cons (fl_cons (fl_cons (fl_cons fl_nil))))))))) (s_cons (s_if (t_cmp (od_eq c.toGE.hr) nox_eq (d_var 16) (d_neg d_int) (nomark _)) (s_one s_cont) s_nil) (s_cons (s_app 11 (d_var 16)) (s_cons (s_set c.nd (d_call (ok__law_putter Z) c.toGE (by omega) rfl (a_cons (d_ix (d_var 3) (d_var 16) (fun _ _ => rfl)) a_nil) (fl_cons fl_nil))) (s_cons (s_set c.nd d_str) (s_one (s_put 10 (d_var 15) (d_var 16)))))))) (s_cons (s_set c.nd (d_call (ok__law_owner Z) c.toGE (by omega) rfl (a_cons (d_ix (d_var 3) (d_var 16) (fun _ _ => rfl)) (a_cons (d_var 12) a_nil)) (fl_cons (fl_cons fl_nil)))) (s_cons (s_set c.nd d_str) (s_one (s_put 10 (d_var 15) (d_neg d_int)))))) (s_cons (s_if (t_cmp od_lt nox_lt (d_bin od_mod nox_mod (d_callTy cd_int nox_int rfl Z.n_int (a_cons (d_ix (d_var 9) (d_var 14) (fun _ _ => rfl)) a_nil)) d_int) (d_var 5) (nomark _)) (s_one (s_set c.nd (d_ix (d_var 4) (d_bin od_mod nox_mod (d_callTy cd_int nox_int rfl Z.n_int (a_cons (d_bin od_fdiv nox_fdiv (d_ix (d_var 9) (d_var 14) (fun _ _ => rfl)) d_int) a_nil)) (d_callB cd_len nox_len rfl Z.n_len (a_cons (d_var 4) a_nil))) (fun _ _ => rfl)))) s_nil) (s_one (s_app 13 (d_tup (a_cons (d_var 12) (a_cons (d_var 15) (a_cons (d_var 17) (a_cons (d_var 18) a_nil))))))))))))) (s_one (s_retV 13)))))))))))
abbrev s__law_stays : Stmt := topS 101
theorem sc__law_stays : FnScope ["history", "stays", "k", "later", "end", "taker", "other"] ["history"] (defScope s__law_stays) := ⟨rfl, rfl, rfl, by decide +kernel, rfl, by decide +kernel, by decide +kernel⟩
theorem ok__law_stays (Z : Fc w K mg base XS) : FnP PW w K mg base 1 "_law_stays" ["history"] m__law_stays := by
  obtain ⟨f, fd, F, hm, hb⟩ := Z.f__law_stays
  refine fn_mk (k := 0) F sc__law_stays hm hb fun cdv A outer s H G0 E c => ?_
  exact (s_cons (s_setO c.nd (o_lst a_nil)) (s_cons (s_for c.po c.calm (i_rng1 Z.n_range (a_cons (d_callB cd_len nox_len rfl Z.n_len (a_cons (d_var 0) a_nil)) a_nil)) (g_name 2 c.nd) (s_one (s_if (t_cmp (od_eq c.toGE.hr) nox_eq (d_ix (d_ix (d_var 0) (d_var 2) (fun _ _ => rfl)) d_int (fun _ _ => rfl)) d_str (nomark _)) (s_cons (s_setLcS (j := 3) c.toGE rfl rfl (sw_true rfl rfl rfl (by decide +kernel)) (i_seq (d_slice (d_var 0) (p_some (d_bin od_add nox_add (d_var 2) d_int)) p_non)) (x := "other") (i := 6) (by show blkC ["history", "stays", "k", "later", "end", "taker", "other"] (defScope s__law_stays) _ _ = true; decide +kernel) (fun s1 H1 C1 cl1 fp1 => pg_name (i := 6) c.nd rfl (by first | exact Or.inl rfl | exact Or.inr rfl)) (fun s1 H1 C1 cl1 fp1 => (ts_one (t_cmp (od_eq (c.toGE.blk s1 H1 _ _ fp1).hr) nox_eq (d_ix (d_var 6) d_int (fun _ _ => rfl)) (d_ix (d_ix (d_var 0) (d_var 2) (fun _ _ => rfl)) d_int (fun _ _ => rfl)) (nomark _)))) (fun s1 H1 C1 cl1 fp1 => (d_var 6))) (s_cons (s_set c.nd d_non) (s_cons (s_set c.nd d_non) (s_cons (s_if (t_cmp od_gt nox_gt (d_callB cd_len nox_len rfl Z.n_len (a_cons (d_var 3) a_nil)) d_int (nomark _)) (s_cons (s_set c.nd (d_ix (d_ix (d_var 3) d_int (fun _ _ => rfl)) d_int (fun _ _ => rfl))) (s_one (s_set c.nd (d_ix (d_ix (d_var 3) d_int (fun _ _ => rfl)) d_int (fun _ _ => rfl))))) s_nil) (s_one (s_app 1 (d_tup (a_cons (d_ix (d_ix (d_var 0) (d_var 2) (fun _ _ => rfl)) d_int (fun _ _ => rfl)) (a_cons (d_ix (d_ix (d_var 0) (d_var 2) (fun _ _ => rfl)) d_int (fun _ _ => rfl)) (a_cons (d_ix (d_ix (d_var 0) (d_var 2) (fun _ _ => rfl)) d_int (fun _ _ => rfl)) (a_cons (d_var 4) (a_cons (d_var 5) a_nil)))))))))))) s_nil))) (s_one (s_retV 1))))
abbrev s__law_could : Stmt := topS 102
theorem sc__law_could : FnScope ["bank", "parcel", "stay"] ["bank", "parcel", "stay"] (defScope s__law_could) := ⟨rfl, rfl, rfl, by decide +kernel, rfl, by decide +kernel, by decide +kernel⟩
theorem ok__law_could (Z : Fc w K mg base XS) : FnP PW w K mg base 2 "_law_could" ["bank", "parcel", "stay"] m__law_could := by
  obtain ⟨f, fd, F, hm, hb⟩ := Z.f__law_could
  refine fn_mk (k := 1) F sc__law_could hm hb fun cdv A outer s H G0 E c => ?_
  exact (s_cons (s_if (PW.pt (t_or (t_not (t_tru (d_call (ok__law_fits Z) c.toGE (by omega) rfl (a_cons (d_ix (d_var 1) d_int (fun _ _ => rfl)) (a_cons (d_ix (d_var 0) (d_ix (d_var 2) d_int (fun _ _ => rfl)) (fun _ _ => rfl)) a_nil)) (fl_cons (fl_cons fl_nil))))) (t_or1 (t_cmp (od_ne c.toGE.hr) nox_ne (d_ix (d_var 2) d_int (fun _ _ => rfl)) (d_call (ok__law_putter Z) c.toGE (by omega) rfl (a_cons (d_var 1) a_nil) (fl_cons fl_nil)) (nomark _))))) (s_one (s_ret d_bl)) s_nil) (s_cons (s_if (PW.pt (t_and (t_cmp od_gt nox_gt (d_ix (d_var 1) d_int (fun _ _ => rfl)) d_int (nomark _)) (t_and1 (t_cmp od_ge nox_ge (d_ix (d_var 2) d_int (fun _ _ => rfl)) (d_ix (d_var 1) d_int (fun _ _ => rfl)) (nomark _))))) (s_one (s_ret d_bl)) s_nil) (s_one (s_ret (d_or (d_cmp od_is nox_is (d_ix (d_var 2) d_int (fun _ _ => rfl)) d_non (nomark _)) (d_one (d_cmp (od_eq c.toGE.hr) nox_eq (d_ix (d_var 2) d_int (fun _ _ => rfl)) (d_call (ok__law_owner Z) c.toGE (by omega) rfl (a_cons (d_var 1) (a_cons (d_ix (d_var 2) d_int (fun _ _ => rfl)) a_nil)) (fl_cons (fl_cons fl_nil))) (nomark _))))))))
abbrev s__law_table : Stmt := topS 103
theorem sc__law_table : FnScope ["bank", "manifest", "history", "stay", "k"] ["bank", "manifest", "history"] (defScope s__law_table) := ⟨rfl, rfl, rfl, by decide +kernel, rfl, by decide +kernel, by decide +kernel⟩
theorem ok__law_table (Z : Fc w K mg base XS) : FnP PW w K mg base 3 "_law_table" ["bank", "manifest", "history"] m__law_table := by
  obtain ⟨f, fd, F, hm, hb⟩ := Z.f__law_table
  refine fn_mk (k := 2) F sc__law_table hm hb fun cdv A outer s H G0 E c => ?_
  exact (s_one (s_retO (o_lc c.toGE (i_seq (d_call (ok__law_stays Z) c.toGE (by omega) rfl (a_cons (d_var 2) a_nil) (fl_cons fl_nil))) (x := "stay") (i := 3) (by show blkC ["bank", "manifest", "history", "stay", "k"] (defScope s__law_table) _ _ = true; decide +kernel) (fun s1 H1 C1 cl1 fp1 => pg_name (i := 3) c.nd rfl (by first | exact Or.inl rfl | exact Or.inr rfl)) (fun s1 H1 C1 cl1 fp1 => ts_nil) (fun s1 H1 C1 cl1 fp1 => (d_own (o_lc (c.toGE.blk s1 H1 _ _ fp1) (i_rng1 Z.n_range (a_cons (d_callB cd_len nox_len rfl Z.n_len (a_cons (d_var 1) a_nil)) a_nil)) (x := "k") (i := 4) (by rfl) (fun s2 H2 C2 cl2 fp2 => pg_name (i := 4) c.nd rfl (by first | exact Or.inl rfl | exact Or.inr rfl)) (fun s2 H2 C2 cl2 fp2 => (ts_one (t_tru (d_call (ok__law_could Z) ((c.toGE.blk s1 H1 _ _ fp1).blk s2 H2 _ _ fp2) (by omega) rfl (a_cons (d_var 0) (a_cons (d_ix (d_var 1) (d_var 4) (fun _ _ => rfl)) (a_cons (d_var 3) a_nil))) (fl_cons (fl_cons (fl_cons fl_nil))))))) (fun s2 H2 C2 cl2 fp2 => (d_var 4))))))))
abbrev s__law_tabled : Stmt := topS 106
theorem sc__law_tabled : FnScope ["bank", "manifest", "history", "boxes", "parcels", "passed", "due", "told", "row"] ["bank", "manifest", "history"] (defScope s__law_tabled) := ⟨rfl, rfl, rfl, by decide +kernel, rfl, by decide +kernel, by decide +kernel⟩
theorem ok__law_tabled (Z : Fc w K mg base XS) : FnP PW w K mg base 10 "_law_tabled" ["bank", "manifest", "history"] m__law_tabled := by
  obtain ⟨f, fd, F, hm, hb⟩ := Z.f__law_tabled
  refine fn_mk (k := 9) F sc__law_tabled hm hb fun cdv A outer s H G0 E c => ?_
  exact (s_cons (s_set c.nd (d_own (o_callTy co_list nox_list rfl Z.n_list (a_cons (d_var 0) a_nil)))) (s_cons (s_set c.nd (d_own (o_callTy co_list nox_list rfl Z.n_list (a_cons (d_var 1) a_nil)))) (s_cons (s_set c.nd (d_own (o_callTy co_list nox_list rfl Z.n_list (a_cons (d_var 2) a_nil)))) (s_cons (s_set c.nd (d_call (ok__law_table Z) c.toGE (by omega) rfl (a_cons (d_var 0) (a_cons (d_var 1) (a_cons (d_var 2) a_nil))) (fl_cons (fl_cons (fl_cons fl_nil))))) (s_cons (s_setTM 7 (ok_match_table Z) c.toGE (by omega) rfl (a_cons (d_var 3) (a_cons (d_var 4) (a_cons (d_var 5) a_nil))) (fl_cons (fl_cons (fl_cons fl_nil)))) (s_cons (s_if (t_tmp 7 (t_not (t_tru (d_call (ok__law_same Z 6) c.toGE (by omega) rfl (a_cons (d_var 7) (a_cons (d_var 6) a_nil)) (fl_cons (fl_cons fl_nil)))))) (s_one (s_ret d_bl)) s_nil) (s_kill 7 8 c (o_lst (a_cons d_int a_nil)) (s_cons (s_if (t_not (t_tru (d_call (ok__law_same Z 6) c.toGE (by omega) rfl (a_cons (d_call (ok_match_table Z) c.toGE (by omega) rfl (a_cons (d_var 3) (a_cons (d_var 4) (a_cons (d_var 5) a_nil))) (fl_cons (fl_cons (fl_cons fl_nil)))) (a_cons (d_var 6) a_nil)) (fl_cons (fl_cons fl_nil))))) (s_one (s_ret d_bl)) s_nil) (s_one (s_ret (d_and (d_call (ok__law_same Z 6) c.toGE (by omega) rfl (a_cons (d_var 3) (a_cons (d_var 0) a_nil)) (fl_cons (fl_cons fl_nil))) (d_and (d_call (ok__law_same Z 6) c.toGE (by omega) rfl (a_cons (d_var 4) (a_cons (d_var 1) a_nil)) (fl_cons (fl_cons fl_nil))) (d_one (d_call (ok__law_same Z 6) c.toGE (by omega) rfl (a_cons (d_var 5) (a_cons (d_var 2) a_nil)) (fl_cons (fl_cons fl_nil))))))))))))))))
abbrev s_law : Stmt := topS 108
theorem sc_law : FnScope ["script", "shape", "boxes", "many", "length", "people", "bank", "manifest", "history", "wide", "full", "k", "number"] ["script"] (defScope s_law) := ⟨rfl, rfl, rfl, by decide +kernel, rfl, by decide +kernel, by decide +kernel⟩
theorem okF_law (Z : Fc w K mg base XS) {f : Addr} {fd : FuncData} (F : Fun K "law" "law" s_law f fd) : FnOk PW w K mg base (L2.CX PW w) 14 f fd ["script"] (spOf K mg 1 m_law) := by
  refine fn_ok (k := 13) F sc_law fun cdv A outer s H G0 E c => ?_
  exact (s_cons (s_set c.nd (d_call (ok__law_row Z) c.toGE (by omega) rfl (a_cons (d_call (ok__law_cell Z) c.toGE (by omega) rfl (a_cons (d_var 0) (a_cons d_int a_nil)) (fl_cons (fl_cons fl_nil))) (a_cons d_int (a_cons d_int a_nil))) (fl_cons (fl_cons (fl_cons fl_nil))))) (s_cons (s_set c.nd (d_bin od_add nox_add d_int (d_bin od_mod nox_mod (d_callTy cd_int nox_int rfl Z.n_int (a_cons (d_ix (d_var 1) d_int (fun _ _ => rfl)) a_nil)) d_int))) (s_cons (s_if (t_cmp (od_eq c.toGE.hr) nox_eq (d_bin od_mod nox_mod (d_callTy cd_int nox_int rfl Z.n_int (a_cons (d_ix (d_var 1) d_int (fun _ _ => rfl)) a_nil)) d_int) d_int (nomark _)) (s_one (s_set c.nd (d_bin od_add nox_add d_int (d_bin od_mod nox_mod (d_callTy cd_int nox_int rfl Z.n_int (a_cons (d_ix (d_var 1) d_int (fun _ _ => rfl)) a_nil)) d_int)))) s_nil) (s_cons (s_set c.nd (d_bin od_mod nox_mod (d_callTy cd_int nox_int rfl Z.n_int (a_cons (d_ix (d_var 1) d_int (fun _ _ => rfl)) a_nil)) d_int)) (s_cons (s_if (t_cmp (od_eq c.toGE.hr) nox_eq (d_bin od_mod nox_mod (d_callTy cd_int nox_int rfl Z.n_int (a_cons (d_ix (d_var 1) d_int (fun _ _ => rfl)) a_nil)) d_int) d_int (nomark _)) (s_one (s_set c.nd (d_bin od_mod nox_mod (d_callTy cd_int nox_int rfl Z.n_int (a_cons (d_ix (d_var 1) d_int (fun _ _ => rfl)) a_nil)) d_int))) s_nil) (s_cons (s_set c.nd (d_bin od_mod nox_mod (d_callTy cd_int nox_int rfl Z.n_int (a_cons (d_ix (d_var 1) d_int (fun _ _ => rfl)) a_nil)) d_int)) (s_cons (s_if (t_cmp (od_eq c.toGE.hr) nox_eq (d_bin od_mod nox_mod (d_callTy cd_int nox_int rfl Z.n_int (a_cons (d_ix (d_var 1) d_int (fun _ _ => rfl)) a_nil)) d_int) d_int (nomark _)) (s_one (s_set c.nd (d_bin od_add nox_add d_int (d_bin od_mod nox_mod (d_callTy cd_int nox_int rfl Z.n_int (a_cons (d_ix (d_var 1) d_int (fun _ _ => rfl)) a_nil)) d_int)))) s_nil) (s_cons (s_setLcS (j := 5) c.toGE rfl rfl (sw_true rfl rfl rfl (by decide +kernel)) (i_seq (d_call (ok__law_row Z) c.toGE (by omega) rfl (a_cons (d_call (ok__law_cell Z) c.toGE (by omega) rfl (a_cons (d_var 0) (a_cons d_int a_nil)) (fl_cons (fl_cons fl_nil))) (a_cons (d_bin od_add nox_add d_int (d_bin od_mod nox_mod (d_callTy cd_int nox_int rfl Z.n_int (a_cons (d_ix (d_var 1) d_int (fun _ _ => rfl)) a_nil)) d_int)) (a_cons (d_bin od_mul nox_mul d_int (d_bin od_pow nox_pow d_int d_int)) a_nil))) (fl_cons (fl_cons (fl_cons fl_nil))))) (x := "number") (i := 12) (by show blkC ["script", "shape", "boxes", "many", "length", "people", "bank", "manifest", "history", "wide", "full", "k", "number"] (defScope s_law) _ _ = true; decide +kernel) (fun s1 H1 C1 cl1 fp1 => pg_name (i := 12) c.nd rfl (by first | exact Or.inl rfl | exact Or.inr rfl)) (fun s1 H1 C1 cl1 fp1 => ts_nil) (fun s1 H1 C1 cl1 fp1 => (d_call (ok__law_name Z) (c.toGE.blk s1 H1 _ _ fp1) (by omega) rfl (a_cons (d_var 12) a_nil) (fl_cons fl_nil)))) (s_cons (s_set c.nd (d_call (ok__law_sizes Z) c.toGE (by omega) rfl (a_cons (d_var 0) (a_cons d_int (a_cons (d_var 2) (a_cons d_int a_nil)))) (fl_cons (fl_cons (fl_cons (fl_cons fl_nil)))))) (s_cons (s_set c.nd (d_call (ok__law_manifest Z) c.toGE (by omega) rfl (a_cons (d_var 0) (a_cons (d_var 3) (a_cons d_int (a_cons (d_var 5) a_nil)))) (fl_cons (fl_cons (fl_cons (fl_cons fl_nil)))))) (s_cons (s_set c.nd (d_own (o_lst a_nil))) (s_cons (s_if (t_cmp od_gt nox_gt (d_var 3) d_int (nomark _)) (s_one (s_set c.nd (d_call (ok__law_history Z) c.toGE (by omega) rfl (a_cons (d_var 0) (a_cons (d_var 4) (a_cons (d_var 6) (a_cons (d_var 7) (a_cons (d_var 5) (a_cons (d_ix (d_own (o_lst (a_cons d_int (a_cons d_int (a_cons d_int (a_cons d_int a_nil)))))) (d_bin od_mod nox_mod (d_callTy cd_int nox_int rfl Z.n_int (a_cons (d_ix (d_var 1) d_int (fun _ _ => rfl)) a_nil)) d_int) (fun _ _ => rfl)) a_nil)))))) (fl_cons (fl_cons (fl_cons (fl_cons (fl_cons (fl_cons fl_nil))))))))) s_nil) (s_cons (s_if (t_not (t_tru (d_call (ok__law_tabled Z) c.toGE (by omega) rfl (a_cons (d_var 6) (a_cons (d_var 7) (a_cons (d_var 8) a_nil))) (fl_cons (fl_cons (fl_cons fl_nil)))))) (s_one (s_ret d_bl)) s_nil) (s_cons (s_set c.nd (d_slice (d_bin od_add nox_add (d_var 6) (d_own (o_lst (a_cons (d_tup (a_cons d_int (a_cons d_int (a_cons d_int a_nil)))) (a_cons (d_tup (a_cons d_int (a_cons d_int (a_cons d_int a_nil)))) a_nil))))) (p_some (d_neg d_int)) p_non)) (s_cons (s_set c.nd (d_own (o_lst (a_cons (d_tup (a_cons d_int (a_cons d_int (a_cons (d_ix (d_var 5) d_int (fun _ _ => rfl)) (a_cons d_str a_nil))))) a_nil)))) (s_cons (s_for c.po c.calm (i_rng1 Z.n_range (a_cons d_int a_nil)) (g_name 11 c.nd) (s_one (s_set c.nd (d_bin od_add nox_add (d_var 10) (d_own (o_lst (a_cons (d_tup (a_cons (d_bin od_mul nox_mul d_int (d_var 11)) (a_cons d_int (a_cons (d_ix (d_var 5) (d_bin od_mod nox_mod (d_callTy cd_int nox_int rfl Z.n_int (a_cons (d_var 11) a_nil)) (d_callB cd_len nox_len rfl Z.n_len (a_cons (d_var 5) a_nil))) (fun _ _ => rfl)) (a_cons d_str a_nil))))) (a_cons (d_tup (a_cons (d_bin od_add nox_add (d_bin od_mul nox_mul d_int (d_var 11)) d_int) (a_cons d_int (a_cons (d_ix (d_var 5) d_int (fun _ _ => rfl)) (a_cons d_str a_nil))))) a_nil)))))))) (s_cons (s_if (t_not (t_tru (d_call (ok__law_tabled Z) c.toGE (by omega) rfl (a_cons (d_var 9) (a_cons (d_var 7) (a_cons (d_slice (d_var 10) (p_some d_int) (p_some d_int)) a_nil))) (fl_cons (fl_cons (fl_cons fl_nil)))))) (s_one (s_ret d_bl)) s_nil) (s_one (s_ret (d_call (ok__law_refused Z) c.toGE (by omega) rfl (a_cons (d_var 9) (a_cons (d_var 7) (a_cons (d_var 8) (a_cons (d_slice (d_var 10) p_non (p_some d_int)) a_nil)))) (fl_cons (fl_cons (fl_cons (fl_cons fl_nil))))))))))))))))))))))))
end K48

open PySem PySem.W PyProof.Rows
set_option maxRecDepth 100000 in
set_option maxHeartbeats 0 in
theorem PySem.Challenge.cw_parcelbank_k48_match_table_and_doors_holds : PySem.Challenge.rw_parcelbank_k48_match_table_and_doors.Holds := by
  w_on; o_law; k_head; (case hw => w_witness2)
  k_fill
  refine L2.walk_of (l := PySem.Challenge.rw_parcelbank_k48_match_table_and_doors) (n := 63) (k := 14) (x := "script") (CX := fun w => L2.CX PySem.Challenge.pw_parcelbank_k48_match_table_and_doors w) (sp := fun w => PL.spLaw _) rfl (by decide) rfl ⟨rfl, by decide, by decide⟩ (fun w h Y => PySem.W.kIn_of Y) ?F (fun w H a ns hl hO hS => ⟨a, ns, rfl, hS, hl, fun _ => rfl⟩) ?hCX
  case hCX => intro w H s e s' hh; exact PL.cx_false hh
  case F =>
    intro w mg fa h KX G hmg
    have n_abs : mg "abs" = none := PySem.W.mg_none_of KX G (by k_is)
    have n_bool : mg "bool" = none := PySem.W.mg_none_of KX G (by k_is)
    have n_int : mg "int" = none := PySem.W.mg_none_of KX G (by k_is)
    have n_isinstance : mg "isinstance" = none := PySem.W.mg_none_of KX G (by k_is)
    have n_len : mg "len" = none := PySem.W.mg_none_of KX G (by k_is)
    have n_list : mg "list" = none := PySem.W.mg_none_of KX G (by k_is)
    have n_range : mg "range" = none := PySem.W.mg_none_of KX G (by k_is)
    have n_sorted : mg "sorted" = none := PySem.W.mg_none_of KX G (by k_is)
    have n_str : mg "str" = none := PySem.W.mg_none_of KX G (by k_is)
    have n_tuple : mg "tuple" = none := PySem.W.mg_none_of KX G (by k_is)
    have c_DIGITS : ∃ t, mg "DIGITS" = some (.str "0123456789" t) := by
      refine' PL.cstr_mk KX G ?a ?e; (case a => k_is); (case e => rfl)
    have c_LAST_BOX : ∃ t, mg "LAST_BOX" = some (.int 29 t) := by
      refine' PL.cint_mk KX G ?a ?e; (case a => k_is); (case e => rfl)
    have c_LATEST : ∃ t, mg "LATEST" = some (.int 1000000 t) := by
      refine' PL.cint_mk KX G ?a ?e; (case a => k_is); (case e => rfl)
    have c_LETTERS : ∃ t, mg "LETTERS" = some (.str "abcdefghijklmnopqrstuvwxyz" t) := by
      refine' PL.cstr_mk KX G ?a ?e; (case a => k_is); (case e => rfl)
    have c_LONGEST : ∃ t, mg "LONGEST" = some (.int 999 t) := by
      refine' PL.cint_mk KX G ?a ?e; (case a => k_is); (case e => rfl)
    have c_MOST_BOXES : ∃ t, mg "MOST_BOXES" = some (.int 30 t) := by
      refine' PL.cint_mk KX G ?a ?e; (case a => k_is); (case e => rfl)
    have c_MOST_EXPLAINED : ∃ t, mg "MOST_EXPLAINED" = some (.int 30 t) := by
      refine' PL.cint_mk KX G ?a ?e; (case a => k_is); (case e => rfl)
    have c_MOST_OPENINGS : ∃ t, mg "MOST_OPENINGS" = some (.int 60 t) := by
      refine' PL.cint_mk KX G ?a ?e; (case a => k_is); (case e => rfl)
    have c_WAYS : PL.CtK KX mg "WAYS" (PL.D.tup [(PL.D.str "in"), (PL.D.str "out")]) := by
      refine' PL.ctup_mk (vs := [L2.V.str "in", L2.V.str "out"]) KX G ?ya ?yl ?yc ?yd ?yz ?yv (fun G => (.cons (.str _) (.cons (.str _) .nil)))
      (case ya => k_is); (case yl => k_is); (case yc => rfl); (case yd => rfl); (case yz => decide); (case yv => exact (.cons ⟨_, rfl⟩ (.cons ⟨_, rfl⟩ .nil)))
    have f__law_row : PL.FxK KX K48.PW mg "_law_row" "_law_row" (K48.topS 91) ["cell", "many", "limit"] := by
      refine' PL.fx_mk KX G ?a ?l ?c ?k (fun _ _ _ _ _ _ us hl => match us, hl with | [_, _, _], _ => rfl); (case a => k_is); (case l => k_is); (case c => k_is); (case k => k_is)
    have f__law_cell : PL.FxK KX K48.PW mg "_law_cell" "_law_cell" (K48.topS 90) ["script", "k"] := by
      refine' PL.fx_mk KX G ?a ?l ?c ?k (fun _ _ _ _ _ _ us hl => match us, hl with | [_, _], _ => rfl); (case a => k_is); (case l => k_is); (case c => k_is); (case k => k_is)
    have f__law_sizes : PL.FxK KX K48.PW mg "_law_sizes" "_law_sizes" (K48.topS 95) ["script", "at", "many", "limit"] := by
      refine' PL.fx_mk KX G ?a ?l ?c ?k (fun _ _ _ _ _ _ us hl => match us, hl with | [_, _, _, _], _ => rfl); (case a => k_is); (case l => k_is); (case c => k_is); (case k => k_is)
    have f__law_name : PL.FxK KX K48.PW mg "_law_name" "_law_name" (K48.topS 93) ["number"] := by
      refine' PL.fx_mk KX G ?a ?l ?c ?k (fun _ _ _ _ _ _ us hl => match us, hl with | [_], _ => rfl); (case a => k_is); (case l => k_is); (case c => k_is); (case k => k_is)
    have f__law_manifest : PL.FxK KX K48.PW mg "_law_manifest" "_law_manifest" (K48.topS 96) ["script", "many", "limit", "people"] := by
      refine' PL.fx_mk KX G ?a ?l ?c ?k (fun _ _ _ _ _ _ us hl => match us, hl with | [_, _, _, _], _ => rfl); (case a => k_is); (case l => k_is); (case c => k_is); (case k => k_is)
    have f__law_same : PL.FxK KX K48.PW mg "_law_same" "_law_same" (K48.topS 92) ["actual", "due"] := by
      refine' PL.fx_mk KX G ?a ?l ?c ?k (fun _ _ _ _ _ _ us hl => match us, hl with | [_, _], _ => rfl); (case a => k_is); (case l => k_is); (case c => k_is); (case k => k_is)
    have f_form_of : PL.FxK KX K48.PW mg "form_of" "form_of" (K48.topS 15) ["size"] := by
      refine' PL.fx_mk KX G ?a ?l ?c ?k (fun _ _ _ _ _ _ us hl => match us, hl with | [_], _ => rfl); (case a => k_is); (case l => k_is); (case c => k_is); (case k => k_is)
    have f_lies_in : PL.FxK KX K48.PW mg "lies_in" "lies_in" (K48.topS 16) ["parcel", "box"] := by
      refine' PL.fx_mk KX G ?a ?l ?c ?k (fun _ _ _ _ _ _ us hl => match us, hl with | [_, _], _ => rfl); (case a => k_is); (case l => k_is); (case c => k_is); (case k => k_is)
    have f_put_allowed : PL.FxK KX K48.PW mg "put_allowed" "put_allowed" (K48.topS 49) ["parcel", "person", "time"] := by
      refine' PL.fx_mk KX G ?a ?l ?c ?k (fun _ _ _ _ _ _ us hl => match us, hl with | [_, _, _], _ => rfl); (case a => k_is); (case l => k_is); (case c => k_is); (case k => k_is)
    have f_owner_at : PL.FxK KX K48.PW mg "owner_at" "owner_at" (K48.topS 48) ["parcel", "time"] := by
      refine' PL.fx_mk KX G ?a ?l ?c ?k (fun _ _ _ _ _ _ us hl => match us, hl with | [_, _], _ => rfl); (case a => k_is); (case l => k_is); (case c => k_is); (case k => k_is)
    have f_could_have : PL.FxK KX K48.PW mg "could_have" "could_have" (K48.topS 62) ["bank", "parcel", "stay"] := by
      refine' PL.fx_mk KX G ?a ?l ?c ?k (fun _ _ _ _ _ _ us hl => match us, hl with | [_, _, _], _ => rfl); (case a => k_is); (case l => k_is); (case c => k_is); (case k => k_is)
    have f_match_of : PL.FxK KX K48.PW mg "match_of" "match_of" (K48.topS 63) ["bank", "manifest", "stays"] := by
      refine' PL.fx_mk KX G ?a ?l ?c ?k (fun _ _ _ _ _ _ us hl => match us, hl with | [_, _, _], _ => rfl); (case a => k_is); (case l => k_is); (case c => k_is); (case k => k_is)
    have f_need_list : PL.FxK KX K48.PW mg "need_list" "need_list" (K48.topS 11) ["value", "limit", "what"] := by
      refine' PL.fx_mk KX G ?a ?l ?c ?k (fun _ _ _ _ _ _ us hl => match us, hl with | [_, _, _], _ => rfl); (case a => k_is); (case l => k_is); (case c => k_is); (case k => k_is)
    have f_is_integer : PL.FxK KX K48.PW mg "is_integer" "is_integer" (K48.topS 7) ["value"] := by
      refine' PL.fx_mk KX G ?a ?l ?c ?k (fun _ _ _ _ _ _ us hl => match us, hl with | [_], _ => rfl); (case a => k_is); (case l => k_is); (case c => k_is); (case k => k_is)
    have f_in_range : PL.FxK KX K48.PW mg "in_range" "in_range" (K48.topS 8) ["value", "low", "high"] := by
      refine' PL.fx_mk KX G ?a ?l ?c ?k (fun _ _ _ _ _ _ us hl => match us, hl with | [_, _, _], _ => rfl); (case a => k_is); (case l => k_is); (case c => k_is); (case k => k_is)
    have f_is_size : PL.FxK KX K48.PW mg "is_size" "is_size" (K48.topS 14) ["value"] := by
      refine' PL.fx_mk KX G ?a ?l ?c ?k (fun _ _ _ _ _ _ us hl => match us, hl with | [_], _ => rfl); (case a => k_is); (case l => k_is); (case c => k_is); (case k => k_is)
    have f_need_sizes : PL.FxK KX K48.PW mg "need_sizes" "need_sizes" (K48.topS 19) ["value", "limit", "what"] := by
      refine' PL.fx_mk KX G ?a ?l ?c ?k (fun _ _ _ _ _ _ us hl => match us, hl with | [_, _, _], _ => rfl); (case a => k_is); (case l => k_is); (case c => k_is); (case k => k_is)
    have f_need_bank : PL.FxK KX K48.PW mg "need_bank" "need_bank" (K48.topS 20) ["value"] := by
      refine' PL.fx_mk KX G ?a ?l ?c ?k (fun _ _ _ _ _ _ us hl => match us, hl with | [_], _ => rfl); (case a => k_is); (case l => k_is); (case c => k_is); (case k => k_is)
    have f_is_name : PL.FxK KX K48.PW mg "is_name" "is_name" (K48.topS 42) ["value"] := by
      refine' PL.fx_mk KX G ?a ?l ?c ?k (fun _ _ _ _ _ _ us hl => match us, hl with | [_], _ => rfl); (case a => k_is); (case l => k_is); (case c => k_is); (case k => k_is)
    have f_is_time : PL.FxK KX K48.PW mg "is_time" "is_time" (K48.topS 43) ["value"] := by
      refine' PL.fx_mk KX G ?a ?l ?c ?k (fun _ _ _ _ _ _ us hl => match us, hl with | [_], _ => rfl); (case a => k_is); (case l => k_is); (case c => k_is); (case k => k_is)
    have f_is_parcel : PL.FxK KX K48.PW mg "is_parcel" "is_parcel" (K48.topS 45) ["value"] := by
      refine' PL.fx_mk KX G ?a ?l ?c ?k (fun _ _ _ _ _ _ us hl => match us, hl with | [_], _ => rfl); (case a => k_is); (case l => k_is); (case c => k_is); (case k => k_is)
    have f_are_parcels : PL.FxK KX K48.PW mg "are_parcels" "are_parcels" (K48.topS 46) ["value"] := by
      refine' PL.fx_mk KX G ?a ?l ?c ?k (fun _ _ _ _ _ _ us hl => match us, hl with | [_], _ => rfl); (case a => k_is); (case l => k_is); (case c => k_is); (case k => k_is)
    have f_need_manifest : PL.FxK KX K48.PW mg "need_manifest" "need_manifest" (K48.topS 47) ["value", "limit"] := by
      refine' PL.fx_mk KX G ?a ?l ?c ?k (fun _ _ _ _ _ _ us hl => match us, hl with | [_, _], _ => rfl); (case a => k_is); (case l => k_is); (case c => k_is); (case k => k_is)
    have f_is_opening : PL.FxK KX K48.PW mg "is_opening" "is_opening" (K48.topS 53) ["value"] := by
      refine' PL.fx_mk KX G ?a ?l ?c ?k (fun _ _ _ _ _ _ us hl => match us, hl with | [_], _ => rfl); (case a => k_is); (case l => k_is); (case c => k_is); (case k => k_is)
    have f_need_history : PL.FxK KX K48.PW mg "need_history" "need_history" (K48.topS 54) ["value"] := by
      refine' PL.fx_mk KX G ?a ?l ?c ?k (fun _ _ _ _ _ _ us hl => match us, hl with | [_], _ => rfl); (case a => k_is); (case l => k_is); (case c => k_is); (case k => k_is)
    have f_fault_of : PL.FxK KX K48.PW mg "fault_of" "fault_of" (K48.topS 55) ["bank", "history"] := by
      refine' PL.fx_mk KX G ?a ?l ?c ?k (fun _ _ _ _ _ _ us hl => match us, hl with | [_, _], _ => rfl); (case a => k_is); (case l => k_is); (case c => k_is); (case k => k_is)
    have f_need_regular : PL.FxK KX K48.PW mg "need_regular" "need_regular" (K48.topS 57) ["bank", "history"] := by
      refine' PL.fx_mk KX G ?a ?l ?c ?k (fun _ _ _ _ _ _ us hl => match us, hl with | [_, _], _ => rfl); (case a => k_is); (case l => k_is); (case c => k_is); (case k => k_is)
    have f_stays_from : PL.FxK KX K48.PW mg "stays_from" "stays_from" (K48.topS 56) ["history"] := by
      refine' PL.fx_mk KX G ?a ?l ?c ?k (fun _ _ _ _ _ _ us hl => match us, hl with | [_], _ => rfl); (case a => k_is); (case l => k_is); (case c => k_is); (case k => k_is)
    have f_need_explained : PL.FxK KX K48.PW mg "need_explained" "need_explained" (K48.topS 64) ["bank", "manifest", "history"] := by
      refine' PL.fx_mk KX G ?a ?l ?c ?k (fun _ _ _ _ _ _ us hl => match us, hl with | [_, _, _], _ => rfl); (case a => k_is); (case l => k_is); (case c => k_is); (case k => k_is)
    have f_checked_table : PL.FxK KX K48.PW mg "checked_table" "checked_table" (K48.topS 65) ["bank", "manifest", "history"] := by
      refine' PL.fx_mk KX G ?a ?l ?c ?k (fun _ _ _ _ _ _ us hl => match us, hl with | [_, _, _], _ => rfl); (case a => k_is); (case l => k_is); (case c => k_is); (case k => k_is)
    have f_match_table : PL.FxK KX K48.PW mg "match_table" "match_table" (K48.topS 66) ["bank", "manifest", "history"] := by
      refine' PL.fx_mk KX G ?a ?l ?c ?k (fun _ _ _ _ _ _ us hl => match us, hl with | [_, _, _], _ => rfl); (case a => k_is); (case l => k_is); (case c => k_is); (case k => k_is)
    have f_least_placing : PL.FxK KX K48.PW mg "least_placing" "least_placing" (K48.topS 32) ["table"] := by
      refine' PL.fx_mk KX G ?a ?l ?c ?k (fun _ _ _ _ _ _ us hl => match us, hl with | [_], _ => rfl); (case a => k_is); (case l => k_is); (case c => k_is); (case k => k_is)
    have f_explanation : PL.FxK KX K48.PW mg "explanation" "explanation" (K48.topS 67) ["bank", "manifest", "history"] := by
      refine' PL.fx_mk KX G ?a ?l ?c ?k (fun _ _ _ _ _ _ us hl => match us, hl with | [_, _, _], _ => rfl); (case a => k_is); (case l => k_is); (case c => k_is); (case k => k_is)
    have f_placed : PL.FxK KX K48.PW mg "placed" "placed" (K48.topS 59) ["table", "boxes"] := by
      refine' PL.fx_mk KX G ?a ?l ?c ?k (fun _ _ _ _ _ _ us hl => match us, hl with | [_, _], _ => rfl); (case a => k_is); (case l => k_is); (case c => k_is); (case k => k_is)
    have f_is_explanation : PL.FxK KX K48.PW mg "is_explanation" "is_explanation" (K48.topS 68) ["bank", "manifest", "history", "numbers"] := by
      refine' PL.fx_mk KX G ?a ?l ?c ?k (fun _ _ _ _ _ _ us hl => match us, hl with | [_, _, _, _], _ => rfl); (case a => k_is); (case l => k_is); (case c => k_is); (case k => k_is)
    have f_crowd_or_none : PL.FxK KX K48.PW mg "crowd_or_none" "crowd_or_none" (K48.topS 38) ["table"] := by
      refine' PL.fx_mk KX G ?a ?l ?c ?k (fun _ _ _ _ _ _ us hl => match us, hl with | [_], _ => rfl); (case a => k_is); (case l => k_is); (case c => k_is); (case k => k_is)
    have f_unexplained : PL.FxK KX K48.PW mg "unexplained" "unexplained" (K48.topS 69) ["bank", "manifest", "history"] := by
      refine' PL.fx_mk KX G ?a ?l ?c ?k (fun _ _ _ _ _ _ us hl => match us, hl with | [_, _, _], _ => rfl); (case a => k_is); (case l => k_is); (case c => k_is); (case k => k_is)
    have f_priority_placing : PL.FxK KX K48.PW mg "priority_placing" "priority_placing" (K48.topS 33) ["table"] := by
      refine' PL.fx_mk KX G ?a ?l ?c ?k (fun _ _ _ _ _ _ us hl => match us, hl with | [_], _ => rfl); (case a => k_is); (case l => k_is); (case c => k_is); (case k => k_is)
    have f_partial_explanation : PL.FxK KX K48.PW mg "partial_explanation" "partial_explanation" (K48.topS 70) ["bank", "manifest", "history"] := by
      refine' PL.fx_mk KX G ?a ?l ?c ?k (fun _ _ _ _ _ _ us hl => match us, hl with | [_, _, _], _ => rfl); (case a => k_is); (case l => k_is); (case c => k_is); (case k => k_is)
    have f_told_of : PL.FxK KX K48.PW mg "told_of" "told_of" (K48.topS 75) ["table", "row"] := by
      refine' PL.fx_mk KX G ?a ?l ?c ?k (fun _ _ _ _ _ _ us hl => match us, hl with | [_, _], _ => rfl); (case a => k_is); (case l => k_is); (case c => k_is); (case k => k_is)
    have f_stay_table : PL.FxK KX K48.PW mg "stay_table" "stay_table" (K48.topS 79) ["bank", "manifest", "history", "stay"] := by
      refine' PL.fx_mk KX G ?a ?l ?c ?k (fun _ _ _ _ _ _ us hl => match us, hl with | [_, _, _, _], _ => rfl); (case a => k_is); (case l => k_is); (case c => k_is); (case k => k_is)
    have f_told_parcel : PL.FxK KX K48.PW mg "told_parcel" "told_parcel" (K48.topS 82) ["bank", "manifest", "history", "stay"] := by
      refine' PL.fx_mk KX G ?a ?l ?c ?k (fun _ _ _ _ _ _ us hl => match us, hl with | [_, _, _, _], _ => rfl); (case a => k_is); (case l => k_is); (case c => k_is); (case k => k_is)
    have f_tight_of : PL.FxK KX K48.PW mg "tight_of" "tight_of" (K48.topS 76) ["table", "row"] := by
      refine' PL.fx_mk KX G ?a ?l ?c ?k (fun _ _ _ _ _ _ us hl => match us, hl with | [_, _], _ => rfl); (case a => k_is); (case l => k_is); (case c => k_is); (case k => k_is)
    have f_told_set : PL.FxK KX K48.PW mg "told_set" "told_set" (K48.topS 83) ["bank", "manifest", "history", "stay"] := by
      refine' PL.fx_mk KX G ?a ?l ?c ?k (fun _ _ _ _ _ _ us hl => match us, hl with | [_, _, _, _], _ => rfl); (case a => k_is); (case l => k_is); (case c => k_is); (case k => k_is)
    have f_other_of : PL.FxK KX K48.PW mg "other_of" "other_of" (K48.topS 77) ["table", "row"] := by
      refine' PL.fx_mk KX G ?a ?l ?c ?k (fun _ _ _ _ _ _ us hl => match us, hl with | [_, _], _ => rfl); (case a => k_is); (case l => k_is); (case c => k_is); (case k => k_is)
    have f_other_explanation : PL.FxK KX K48.PW mg "other_explanation" "other_explanation" (K48.topS 84) ["bank", "manifest", "history", "stay"] := by
      refine' PL.fx_mk KX G ?a ?l ?c ?k (fun _ _ _ _ _ _ us hl => match us, hl with | [_, _, _, _], _ => rfl); (case a => k_is); (case l => k_is); (case c => k_is); (case k => k_is)
    have f_parcel_table : PL.FxK KX K48.PW mg "parcel_table" "parcel_table" (K48.topS 80) ["bank", "manifest", "history", "number"] := by
      refine' PL.fx_mk KX G ?a ?l ?c ?k (fun _ _ _ _ _ _ us hl => match us, hl with | [_, _, _, _], _ => rfl); (case a => k_is); (case l => k_is); (case c => k_is); (case k => k_is)
    have f_sure_set : PL.FxK KX K48.PW mg "sure_set" "sure_set" (K48.topS 85) ["bank", "manifest", "history", "number"] := by
      refine' PL.fx_mk KX G ?a ?l ?c ?k (fun _ _ _ _ _ _ us hl => match us, hl with | [_, _, _, _], _ => rfl); (case a => k_is); (case l => k_is); (case c => k_is); (case k => k_is)
    have f_is_sure_set : PL.FxK KX K48.PW mg "is_sure_set" "is_sure_set" (K48.topS 86) ["bank", "manifest", "history", "number", "members"] := by
      refine' PL.fx_mk KX G ?a ?l ?c ?k (fun _ _ _ _ _ _ us hl => match us, hl with | [_, _, _, _, _], _ => rfl); (case a => k_is); (case l => k_is); (case c => k_is); (case k => k_is)
    have f_explanation_without : PL.FxK KX K48.PW mg "explanation_without" "explanation_without" (K48.topS 87) ["bank", "manifest", "history", "number"] := by
      refine' PL.fx_mk KX G ?a ?l ?c ?k (fun _ _ _ _ _ _ us hl => match us, hl with | [_, _, _, _], _ => rfl); (case a => k_is); (case l => k_is); (case c => k_is); (case k => k_is)
    have f_inside : PL.FxK KX K48.PW mg "inside" "inside" (K48.topS 88) ["bank", "manifest", "history"] := by
      refine' PL.fx_mk KX G ?a ?l ?c ?k (fun _ _ _ _ _ _ us hl => match us, hl with | [_, _, _], _ => rfl); (case a => k_is); (case l => k_is); (case c => k_is); (case k => k_is)
    have f__law_door : PL.FxK KX K48.PW mg "_law_door" "_law_door" (K48.topS 104) ["way", "bank", "manifest", "history"] := by
      refine' PL.fx_mk KX G ?a ?l ?c ?k (fun _ _ _ _ _ _ us hl => match us, hl with | [_, _, _, _], _ => rfl); (case a => k_is); (case l => k_is); (case c => k_is); (case k => k_is)
    have f__law_all_doors : PL.FxK KX K48.PW mg "_law_all_doors" "_law_all_doors" (K48.topS 105) ["bank", "manifest", "history", "due"] := by
      refine' PL.fx_mk KX G ?a ?l ?c ?k (fun _ _ _ _ _ _ us hl => match us, hl with | [_, _, _, _], _ => rfl); (case a => k_is); (case l => k_is); (case c => k_is); (case k => k_is)
    have f__law_refused : PL.FxK KX K48.PW mg "_law_refused" "_law_refused" (K48.topS 107) ["bank", "manifest", "history", "full"] := by
      refine' PL.fx_mk KX G ?a ?l ?c ?k (fun _ _ _ _ _ _ us hl => match us, hl with | [_, _, _, _], _ => rfl); (case a => k_is); (case l => k_is); (case c => k_is); (case k => k_is)
    have f__law_fits : PL.FxK KX K48.PW mg "_law_fits" "_law_fits" (K48.topS 94) ["small", "large"] := by
      refine' PL.fx_mk KX G ?a ?l ?c ?k (fun _ _ _ _ _ _ us hl => match us, hl with | [_, _], _ => rfl); (case a => k_is); (case l => k_is); (case c => k_is); (case k => k_is)
    have f__law_next : PL.FxK KX K48.PW mg "_law_next" "_law_next" (K48.topS 99) ["bank", "manifest", "used", "first", "box", "time"] := by
      refine' PL.fx_mk KX G ?a ?l ?c ?k (fun _ _ _ _ _ _ us hl => match us, hl with | [_, _, _, _, _, _], _ => rfl); (case a => k_is); (case l => k_is); (case c => k_is); (case k => k_is)
    have f__law_putter : PL.FxK KX K48.PW mg "_law_putter" "_law_putter" (K48.topS 97) ["parcel"] := by
      refine' PL.fx_mk KX G ?a ?l ?c ?k (fun _ _ _ _ _ _ us hl => match us, hl with | [_], _ => rfl); (case a => k_is); (case l => k_is); (case c => k_is); (case k => k_is)
    have f__law_owner : PL.FxK KX K48.PW mg "_law_owner" "_law_owner" (K48.topS 98) ["parcel", "time"] := by
      refine' PL.fx_mk KX G ?a ?l ?c ?k (fun _ _ _ _ _ _ us hl => match us, hl with | [_, _], _ => rfl); (case a => k_is); (case l => k_is); (case c => k_is); (case k => k_is)
    have f__law_history : PL.FxK KX K48.PW mg "_law_history" "_law_history" (K48.topS 100) ["script", "length", "bank", "manifest", "people", "noise"] := by
      refine' PL.fx_mk KX G ?a ?l ?c ?k (fun _ _ _ _ _ _ us hl => match us, hl with | [_, _, _, _, _, _], _ => rfl); (case a => k_is); (case l => k_is); (case c => k_is); (case k => k_is)
    have f__law_stays : PL.FxK KX K48.PW mg "_law_stays" "_law_stays" (K48.topS 101) ["history"] := by
      refine' PL.fx_mk KX G ?a ?l ?c ?k (fun _ _ _ _ _ _ us hl => match us, hl with | [_], _ => rfl); (case a => k_is); (case l => k_is); (case c => k_is); (case k => k_is)
    have f__law_could : PL.FxK KX K48.PW mg "_law_could" "_law_could" (K48.topS 102) ["bank", "parcel", "stay"] := by
      refine' PL.fx_mk KX G ?a ?l ?c ?k (fun _ _ _ _ _ _ us hl => match us, hl with | [_, _, _], _ => rfl); (case a => k_is); (case l => k_is); (case c => k_is); (case k => k_is)
    have f__law_table : PL.FxK KX K48.PW mg "_law_table" "_law_table" (K48.topS 103) ["bank", "manifest", "history"] := by
      refine' PL.fx_mk KX G ?a ?l ?c ?k (fun _ _ _ _ _ _ us hl => match us, hl with | [_, _, _], _ => rfl); (case a => k_is); (case l => k_is); (case c => k_is); (case k => k_is)
    have f__law_tabled : PL.FxK KX K48.PW mg "_law_tabled" "_law_tabled" (K48.topS 106) ["bank", "manifest", "history"] := by
      refine' PL.fx_mk KX G ?a ?l ?c ?k (fun _ _ _ _ _ _ us hl => match us, hl with | [_, _, _], _ => rfl); (case a => k_is); (case l => k_is); (case c => k_is); (case k => k_is)
    have f_law : PL.FxK KX K48.PW mg "law" "law" (K48.topS 108) ["script"] := by
      refine' PL.fx_mk KX G ?a ?l ?c ?k (fun _ _ _ _ _ _ us hl => match us, hl with | [_], _ => rfl); (case a => k_is); (case l => k_is); (case c => k_is); (case k => k_is)
    have xx : ∃ C_BadValue C_NoPlacing C_TooMany, PL.ExtK KX K48.PW w mg "BadValue" ["what"] C_BadValue ∧ PL.ExtK KX K48.PW w mg "NoPlacing" ["members"] C_NoPlacing ∧ PL.ExtK KX K48.PW w mg "TooMany" ["limit"] C_TooMany ∧ PL.ExmK KX C_BadValue C_BadValue true ∧ PL.ExmK KX C_NoPlacing C_BadValue false ∧ PL.ExmK KX C_TooMany C_BadValue false ∧ PL.ExmK KX C_BadValue C_NoPlacing false ∧ PL.ExmK KX C_NoPlacing C_NoPlacing true ∧ PL.ExmK KX C_TooMany C_NoPlacing false ∧ PL.ExmK KX C_BadValue C_TooMany false ∧ PL.ExmK KX C_NoPlacing C_TooMany false ∧ PL.ExmK KX C_TooMany C_TooMany true := by
      refine' ⟨_, _, _, PL.ext1 (qual := "BadValue.__init__") (st := PL.inCls (K48.topS 2) 0) KX G ?a_BadValue ?xL_BadValue ?rv_BadValue ?sa_BadValue ?ga_BadValue ?gg_BadValue ?n0_BadValue ?iC_BadValue ?tI_BadValue ?l_BadValue ?c_BadValue ?k_BadValue ?kC_BadValue ?eC_BadValue ?tC_BadValue ?hC_BadValue ⟨rfl, rfl, rfl, by decide +kernel, rfl, by decide +kernel, by decide +kernel⟩ (fun _ _ _ _ _ _ us hl => match us, hl with | [_, _], _ => rfl) (fun base cdv A outer s H E => L2.pss_one (PL.ost (L2.pv 0) (L2.pv 1))), PL.ext1 (qual := "NoPlacing.__init__") (st := PL.inCls (K48.topS 4) 0) KX G ?a_NoPlacing ?xL_NoPlacing ?rv_NoPlacing ?sa_NoPlacing ?ga_NoPlacing ?gg_NoPlacing ?n0_NoPlacing ?iC_NoPlacing ?tI_NoPlacing ?l_NoPlacing ?c_NoPlacing ?k_NoPlacing ?kC_NoPlacing ?eC_NoPlacing ?tC_NoPlacing ?hC_NoPlacing ⟨rfl, rfl, rfl, by decide +kernel, rfl, by decide +kernel, by decide +kernel⟩ (fun _ _ _ _ _ _ us hl => match us, hl with | [_, _], _ => rfl) (fun base cdv A outer s H E => L2.pss_one (PL.ost (L2.pv 0) (L2.pv 1))), PL.ext1 (qual := "TooMany.__init__") (st := PL.inCls (K48.topS 3) 0) KX G ?a_TooMany ?xL_TooMany ?rv_TooMany ?sa_TooMany ?ga_TooMany ?gg_TooMany ?n0_TooMany ?iC_TooMany ?tI_TooMany ?l_TooMany ?c_TooMany ?k_TooMany ?kC_TooMany ?eC_TooMany ?tC_TooMany ?hC_TooMany ⟨rfl, rfl, rfl, by decide +kernel, rfl, by decide +kernel, by decide +kernel⟩ (fun _ _ _ _ _ _ us hl => match us, hl with | [_, _], _ => rfl) (fun base cdv A outer s H E => L2.pss_one (PL.ost (L2.pv 0) (L2.pv 1))), PL.exm_pair ?p1_BadValue_BadValue ?p2_BadValue_BadValue ?p3_BadValue_BadValue ?p4_BadValue_BadValue, PL.exm_pair ?p1_NoPlacing_BadValue ?p2_NoPlacing_BadValue ?p3_NoPlacing_BadValue ?p4_NoPlacing_BadValue, PL.exm_pair ?p1_TooMany_BadValue ?p2_TooMany_BadValue ?p3_TooMany_BadValue ?p4_TooMany_BadValue, PL.exm_pair ?p1_BadValue_NoPlacing ?p2_BadValue_NoPlacing ?p3_BadValue_NoPlacing ?p4_BadValue_NoPlacing, PL.exm_pair ?p1_NoPlacing_NoPlacing ?p2_NoPlacing_NoPlacing ?p3_NoPlacing_NoPlacing ?p4_NoPlacing_NoPlacing, PL.exm_pair ?p1_TooMany_NoPlacing ?p2_TooMany_NoPlacing ?p3_TooMany_NoPlacing ?p4_TooMany_NoPlacing, PL.exm_pair ?p1_BadValue_TooMany ?p2_BadValue_TooMany ?p3_BadValue_TooMany ?p4_BadValue_TooMany, PL.exm_pair ?p1_NoPlacing_TooMany ?p2_NoPlacing_TooMany ?p3_NoPlacing_TooMany ?p4_NoPlacing_TooMany, PL.exm_pair ?p1_TooMany_TooMany ?p2_TooMany_TooMany ?p3_TooMany_TooMany ?p4_TooMany_TooMany⟩
      (case a_BadValue => k_is); (case xL_BadValue => k_is); (case sa_BadValue => k_is); (case ga_BadValue => k_is); (case gg_BadValue => k_is); (case n0_BadValue => k_is); (case iC_BadValue => k_is); (case tI_BadValue => k_is); (case l_BadValue => k_is); (case c_BadValue => k_is); (case k_BadValue => k_is); (case kC_BadValue => k_is); (case eC_BadValue => k_is); (case tC_BadValue => k_is); (case hC_BadValue => k_is); (case rv_BadValue => decide +kernel)
      (case a_NoPlacing => k_is); (case xL_NoPlacing => k_is); (case sa_NoPlacing => k_is); (case ga_NoPlacing => k_is); (case gg_NoPlacing => k_is); (case n0_NoPlacing => k_is); (case iC_NoPlacing => k_is); (case tI_NoPlacing => k_is); (case l_NoPlacing => k_is); (case c_NoPlacing => k_is); (case k_NoPlacing => k_is); (case kC_NoPlacing => k_is); (case eC_NoPlacing => k_is); (case tC_NoPlacing => k_is); (case hC_NoPlacing => k_is); (case rv_NoPlacing => decide +kernel)
      (case a_TooMany => k_is); (case xL_TooMany => k_is); (case sa_TooMany => k_is); (case ga_TooMany => k_is); (case gg_TooMany => k_is); (case n0_TooMany => k_is); (case iC_TooMany => k_is); (case tI_TooMany => k_is); (case l_TooMany => k_is); (case c_TooMany => k_is); (case k_TooMany => k_is); (case kC_TooMany => k_is); (case eC_TooMany => k_is); (case tC_TooMany => k_is); (case hC_TooMany => k_is); (case rv_TooMany => decide +kernel)
      (case p1_BadValue_BadValue => k_is); (case p2_BadValue_BadValue => k_is); (case p3_BadValue_BadValue => k_is); (case p4_BadValue_BadValue => first | rfl | k_is)
      (case p1_NoPlacing_BadValue => k_is); (case p2_NoPlacing_BadValue => k_is); (case p3_NoPlacing_BadValue => k_is); (case p4_NoPlacing_BadValue => first | rfl | k_is)
      (case p1_TooMany_BadValue => k_is); (case p2_TooMany_BadValue => k_is); (case p3_TooMany_BadValue => k_is); (case p4_TooMany_BadValue => first | rfl | k_is)
      (case p1_BadValue_NoPlacing => k_is); (case p2_BadValue_NoPlacing => k_is); (case p3_BadValue_NoPlacing => k_is); (case p4_BadValue_NoPlacing => first | rfl | k_is)
      (case p1_NoPlacing_NoPlacing => k_is); (case p2_NoPlacing_NoPlacing => k_is); (case p3_NoPlacing_NoPlacing => k_is); (case p4_NoPlacing_NoPlacing => first | rfl | k_is)
      (case p1_TooMany_NoPlacing => k_is); (case p2_TooMany_NoPlacing => k_is); (case p3_TooMany_NoPlacing => k_is); (case p4_TooMany_NoPlacing => first | rfl | k_is)
      (case p1_BadValue_TooMany => k_is); (case p2_BadValue_TooMany => k_is); (case p3_BadValue_TooMany => k_is); (case p4_BadValue_TooMany => first | rfl | k_is)
      (case p1_NoPlacing_TooMany => k_is); (case p2_NoPlacing_TooMany => k_is); (case p3_NoPlacing_TooMany => k_is); (case p4_NoPlacing_TooMany => first | rfl | k_is)
      (case p1_TooMany_TooMany => k_is); (case p2_TooMany_TooMany => k_is); (case p3_TooMany_TooMany => k_is); (case p4_TooMany_TooMany => first | rfl | k_is)
    obtain ⟨C_BadValue, C_NoPlacing, C_TooMany, x_BadValue, x_NoPlacing, x_TooMany, e_BadValue_BadValue, e_NoPlacing_BadValue, e_TooMany_BadValue, e_BadValue_NoPlacing, e_NoPlacing_NoPlacing, e_TooMany_NoPlacing, e_BadValue_TooMany, e_NoPlacing_TooMany, e_TooMany_TooMany⟩ := xx
    have Z : ∀ base : Heap, K48.FcK KX w mg base ⟨C_BadValue, C_NoPlacing, C_TooMany⟩ := fun base => ⟨n_abs, n_bool, n_int, n_isinstance, n_len, n_list, n_range, n_sorted, n_str, n_tuple, c_DIGITS, c_LAST_BOX, c_LATEST, c_LETTERS, c_LONGEST, c_MOST_BOXES, c_MOST_EXPLAINED, c_MOST_OPENINGS, c_WAYS, f__law_row, f__law_cell, f__law_sizes, f__law_name, f__law_manifest, f__law_same, f_form_of, f_lies_in, f_put_allowed, f_owner_at, f_could_have, f_match_of, f_need_list, f_is_integer, f_in_range, f_is_size, f_need_sizes, f_need_bank, f_is_name, f_is_time, f_is_parcel, f_are_parcels, f_need_manifest, f_is_opening, f_need_history, f_fault_of, f_need_regular, f_stays_from, f_need_explained, f_checked_table, f_match_table, f_least_placing, f_explanation, f_placed, f_is_explanation, f_crowd_or_none, f_unexplained, f_priority_placing, f_partial_explanation, f_told_of, f_stay_table, f_told_parcel, f_tight_of, f_told_set, f_other_of, f_other_explanation, f_parcel_table, f_sure_set, f_is_sure_set, f_explanation_without, f_inside, f__law_door, f__law_all_doors, f__law_refused, f__law_fits, f__law_next, f__law_putter, f__law_owner, f__law_history, f__law_stays, f__law_could, f__law_table, f__law_tabled, f_law, x_BadValue base, x_NoPlacing base, x_TooMany base, ⟨e_BadValue_BadValue, e_NoPlacing_BadValue, e_TooMany_BadValue⟩, ⟨e_BadValue_NoPlacing, e_NoPlacing_NoPlacing, e_TooMany_NoPlacing⟩, ⟨e_BadValue_TooMany, e_NoPlacing_TooMany, e_TooMany_TooMany⟩⟩
    refine' PL.end_law KX G hmg (st := K48.topS 108) K48.law_true ?a ?l ?c ?k (fun s u => .of_eq rfl) (fun base f fd F => K48.okF_law (Z base) F); (case a => k_is); (case l => k_is); (case c => k_is); (case k => k_is)
