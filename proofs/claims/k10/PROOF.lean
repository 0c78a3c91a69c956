import PyProof.Rows.All
import Wide.All
import OpenK.AllK
import Wide.FinOn
import HandS.ForMost
import HandS.ForExc
import HandS.TupLen
import HandS.TupAny
import HandS.TupLe
import HandS.Deep
import HandS.More
import HandS.Conv
import HandS.IsInst
import HandS.NoneIn
import HandS.Zip
import HandS.Comp
import HandS.Text
import HandS.Style
import HandS.SortInts
import HandS.SortOrd
import HandS.SortRule
import KE.SortData
import HandS.Star
import PyProof.ReprLen
import PyProof.StrLawsRepr
import PySem.Challenge.RW_linkless_k10_whole_models_judged
set_option Elab.async false
set_option linter.all false
set_option maxRecDepth 100000
set_option maxHeartbeats 0
namespace Lk
open PySem PySem.Spec L2

/-- a value of the layer: data, an instance (class number, fields), an exception value, a closure -/
inductive DV where
  | d (x : PyData)
  | o (c : Nat) (fs : List (Str × PyData))
  | x (c : Nat) (g : PyData)
  | f (i : Nat) (cs : List PyData)
  | s (ns : List Int)

/-- addresses met, with the depth of mutable things above them -/
abbrev Ft := List (Addr × Nat)
def up (G : Ft) : Ft := G.map fun p => (p.1, p.2 + 1)
def tag (n : Nat) (G : Ft) : List (Addr × Bool) := G.map fun p => (p.1, decide (p.2 < n))
theorem up_append (G G' : Ft) : up (G ++ G') = up G ++ up G' := List.map_append
theorem tag_append (n : Nat) (G G' : Ft) : tag n (G ++ G') = tag n G ++ tag n G' := List.map_append
theorem tag_nil (n : Nat) : tag n [] = [] := rfl
theorem tag_cons (n : Nat) (p : Addr × Nat) (G : Ft) : tag n (p :: G) = (p.1, decide (p.2 < n)) :: tag n G := rfl
theorem tag_up (n : Nat) (G : Ft) : tag n (up G) = tag (n - 1) G := by
  unfold tag up
  rw [List.map_map]
  apply List.map_congr_left
  intro p _
  show (p.1, decide (p.2 + 1 < n)) = (p.1, decide (p.2 < n - 1))
  congr 1
  exact decide_eq_decide.mpr (by omega)
theorem tag_zero_mem {G : Ft} {p : Addr × Bool} (h : p ∈ tag 0 G) : p.2 = false := by
  unfold tag at h
  obtain ⟨q, _, rfl⟩ := List.mem_map.mp h
  exact decide_eq_false (Nat.not_lt_zero q.2)
theorem tag_fst (n : Nat) (G : Ft) : (tag n G).map (·.1) = G.map (·.1) := by
  unfold tag
  rw [List.map_map]
  rfl
theorem up_fst (G : Ft) : (up G).map (·.1) = G.map (·.1) := by
  unfold up
  rw [List.map_map]
  rfl
def keyD : Key → PyData
  | .inl i => .int i
  | .inr x => .str x
/-- a dict at a: its keys, its values, in order; fz: it is locked -/
def DicAt (H : Hp) (a : Addr) (ks : List PyData) (vs : List V) : Prop :=
  (∃ kvs : List (Key × V), H a = some (.dK kvs) ∧ ks = kvs.map (fun p => keyD p.1) ∧ vs = kvs.map (·.2)) ∨
  (∃ kvs : List (List Key × V), H a = some (.dT kvs) ∧ ks = kvs.map (fun p => PyData.tuple (p.1.map keyD)) ∧ vs = kvs.map (·.2))
mutual
inductive Den (K : PySem.W.Frag) (H : Hp) : PyData → V → Ft → Prop
  | non : Den K H .none .non []
  | bl (b : Bool) : Den K H (.bool b) (.bl b) []
  | int (i : Int) : Den K H (.int i) (.int i) []
  | str (x : Str) : Den K H (.str x) (.str x) []
  | lst {a : Addr} {vs : List V} {ds : List PyData} {G : Ft} : H a = some (.lst vs) → DenL K H ds vs G → Den K H (.list ds) (.ref a) ((a, 0) :: up G)
  | tup {a : Addr} {vs : List V} {ds : List PyData} {G : Ft} : H a = some (.tup vs) → DenL K H ds vs G → Den K H (.tuple ds) (.ref a) (up G)
  | dic {a : Addr} {ks : List PyData} {vs : List V} {qs : List (PyData × PyData)} {G : Ft} : DicAt H a ks vs → qs.map (·.1) = ks → DenL K H (qs.map (·.2)) vs G → Den K H (.dict qs) (.ref a) ((a, 0) :: up G)
inductive DenL (K : PySem.W.Frag) (H : Hp) : List PyData → List V → Ft → Prop
  | nil : DenL K H [] [] []
  | cons {d : PyData} {ds : List PyData} {v : V} {vs : List V} {G G' : Ft} : Den K H d v G → DenL K H ds vs G' → DenL K H (d :: ds) (v :: vs) (G ++ G')
end

/-- the class table -/
abbrev ClT := Nat → Option Addr
inductive DenV (K : PySem.W.Frag) (Z : ClT) (H : Hp) : DV → V → Ft → Prop
  | d {x : PyData} {v : V} {G : Ft} : Den K H x v G → DenV K Z H (.d x) v G
  | s {a : Addr} {ns : List Int} : SqL K (fun _ => none) a (ns.map V.int) ∨ (∃ ob, H a = some (.frz ob (.lst (ns.map V.int)))) → DenV K Z H (.s ns) (.ref a) []
  | o {c : Nat} {C a dx : Addr} {fs : List (Str × PyData)} {gs : List (Str × V)} {G : Ft} : Z c = some C → H a = some (.ins C dx gs) → gs.map (·.1) = fs.map (·.1) → DenL K H (fs.map (·.2)) (gs.map (·.2)) G →
      DenV K Z H (.o c fs) (.ref a) ((a, 0) :: up G)

structure Root where
  n : Nat
  d : DV
  v : V

def Own (F : List (Addr × Bool)) : Prop := F.Pairwise fun x y => x.1 = y.1 → x.2 = false ∧ y.2 = false
def SimF (K : PySem.W.Frag) (Z : ClT) (H : Hp) : List Root → List (Addr × Bool) → Prop
  | [], F => F = []
  | r :: R, F => ∃ G F', DenV K Z H r.d r.v G ∧ SimF K Z H R F' ∧ F = tag r.n G ++ F'
def Sim (K : PySem.W.Frag) (Z : ClT) (H : Hp) (R : List Root) : Prop := ∃ F, SimF K Z H R F ∧ Own F

section
variable {K : PySem.W.Frag} {Z : ClT} {H H' : Hp}

/-! ### Own -/
theorem Own.perm {F F' : List (Addr × Bool)} (h : F.Perm F') (o : Own F) : Own F' :=
  (List.Perm.pairwise_iff (fun {x y} q e => ⟨(q e.symm).2, (q e.symm).1⟩) h).mp o
theorem Own.sub {F F' : List (Addr × Bool)} (h : F'.Sublist F) (o : Own F) : Own F' := List.Pairwise.sublist h o
/-- what is frozen may be met again -/
theorem Own.more {A F : List (Addr × Bool)} (o : Own F) (h : ∀ p ∈ A, p.2 = false ∧ (p.1, false) ∈ F) : Own (A ++ F) := by
  refine List.pairwise_append.mpr ⟨?_, o, fun x hx y hy e => ?_⟩
  · exact List.Pairwise.imp_of_mem (R := fun _ _ => True) (fun hx hy _ _ => ⟨(h _ hx).1, (h _ hy).1⟩) (List.pairwise_of_forall fun _ _ => trivial)
  · obtain ⟨h1, h2⟩ := h x hx
    refine ⟨h1, ?_⟩
    by_cases z : y = (x.1, false)
    · rw [z]
    · have key : ∀ l : List (Addr × Bool), l.Pairwise (fun x y => x.1 = y.1 → x.2 = false ∧ y.2 = false) → (x.1, false) ∈ l → y ∈ l → y.2 = false := by
        intro l
        induction l with
        | nil => intro _ q; cases q
        | cons c r ih =>
          intro p q1 q2
          obtain ⟨p1, p2⟩ := List.pairwise_cons.mp p
          rcases List.mem_cons.mp q1 with e1 | q1
          · rcases List.mem_cons.mp q2 with e2 | q2
            · exact absurd (e2.trans e1.symm) z
            · exact (p1 y q2 (by rw [← e1]; exact e)).2
          · rcases List.mem_cons.mp q2 with e2 | q2
            · have := p1 _ q1 (by rw [← e2]; exact e.symm)
              rw [e2]; exact this.1
            · exact ih p2 q1 q2
      exact key F o h2 hy
/-- weakening tags -/
theorem Own.weak {F F' : List (Addr × Bool)} (o : Own F) (h : Paired (fun (x y : Addr × Bool) => x.1 = y.1 ∧ (y.2 = true → x.2 = true)) F F') : Own F' := by
  induction h with
  | nil => exact List.Pairwise.nil
  | @cons x y xs ys r t ih =>
    obtain ⟨p1, p2⟩ := List.pairwise_cons.mp o
    refine List.pairwise_cons.mpr ⟨fun z hz e => ?_, ih p2⟩
    obtain ⟨w, hw, e1, e2⟩ : ∃ w ∈ xs, w.1 = z.1 ∧ (z.2 = true → w.2 = true) := by
      clear ih p1 p2 o
      induction t with
      | nil => cases hz
      | cons r' t' ih' =>
        rcases List.mem_cons.mp hz with q | q
        · subst q; exact ⟨_, List.mem_cons_self, r'.1, r'.2⟩
        · obtain ⟨w, hw, q1⟩ := ih' q
          exact ⟨w, List.mem_cons_of_mem _ hw, q1⟩
    have q := p1 w hw (r.1.trans (e.trans e1.symm))
    refine ⟨?_, ?_⟩
    · cases hy : y.2 with
      | false => rfl
      | true => rw [r.2 hy] at q; exact absurd q.1 (by simp)
    · cases hy : z.2 with
      | false => rfl
      | true => rw [e2 hy] at q; exact absurd q.2 (by simp)

/-! ### DenL -/
theorem DenL.append {ds es : List PyData} {vs us : List V} {G G' : Ft} (h : DenL K H ds vs G) (h' : DenL K H es us G') : DenL K H (ds ++ es) (vs ++ us) (G ++ G') := by
  induction ds generalizing vs G with
  | nil => cases h; exact h'
  | cons d ds ih =>
    cases h with
    | cons h1 h2 =>
      rw [List.append_assoc]
      exact .cons h1 (ih h2)
theorem DenL.split {es : List PyData} : ∀ {ds : List PyData} {vs : List V} {G : Ft}, DenL K H (ds ++ es) vs G →
    ∃ us ws G1 G2, vs = us ++ ws ∧ G = G1 ++ G2 ∧ DenL K H ds us G1 ∧ DenL K H es ws G2
  | [], vs, G, h => ⟨[], vs, [], G, rfl, rfl, .nil, h⟩
  | d :: ds, _, _, h => by
    cases h with
    | cons h1 h2 =>
      obtain ⟨us, ws, G1, G2, rfl, rfl, q1, q2⟩ := DenL.split h2
      exact ⟨_ :: us, ws, _, G2, rfl, (List.append_assoc _ _ _).symm, .cons h1 q1, q2⟩
theorem DenL.length : ∀ {ds : List PyData} {vs : List V} {G : Ft}, DenL K H ds vs G → ds.length = vs.length
  | [], _, _, h => by cases h; rfl
  | d :: ds, _, _, h => by
    cases h with
    | cons h1 h2 => simp [DenL.length h2]
theorem DenL.one {d : PyData} {v : V} {G : Ft} (h : Den K H d v G) : DenL K H [d] [v] G := by
  have q : DenL K H [d] [v] (G ++ []) := .cons h .nil
  rwa [List.append_nil] at q
theorem DenL.get : ∀ {ds : List PyData} {vs : List V} {G : Ft} {i : Nat} {d : PyData}, DenL K H ds vs G → ds[i]? = some d → ∃ v G1 G0 G2, vs[i]? = some v ∧ Den K H d v G1 ∧ G = G0 ++ (G1 ++ G2)
  | [], _, _, _, _, _, e => by simp at e
  | x :: ds, _, _, 0, d, h, e => by
    cases h with
    | cons h1 h2 =>
      simp at e; subst e
      exact ⟨_, _, [], _, rfl, h1, rfl⟩
  | x :: ds, _, _, i + 1, d, h, e => by
    cases h with
    | cons h1 h2 =>
      obtain ⟨v, G1, G0, G2, q1, q2, q3⟩ := DenL.get (i := i) h2 (by simpa using e)
      exact ⟨v, G1, _ ++ G0, G2, by simpa using q1, q2, by rw [q3, List.append_assoc]⟩

/-! ### heaps -/
/-- what is met is there and may change; the rest can't -/
def Good (H H' : Hp) (G : Ft) : Prop :=
  (∀ a vs, H a = some (.tup vs) → H' a = some (.tup vs)) ∧ (∀ a o u, H a = some (.frz o u) → H' a = some (.frz o u)) ∧ ∀ p ∈ G, H' p.1 = H p.1
theorem Good.sub {G G' : Ft} (g : Good H H' G) (h : ∀ p ∈ G', ∃ q ∈ G, q.1 = p.1) : Good H H' G' :=
  ⟨g.1, g.2.1, fun p hp => by obtain ⟨q, hq, e⟩ := h p hp; rw [← e]; exact g.2.2 q hq⟩
theorem Rd.good {a : Addr} {vs : List V} {G : Ft} (g : Good H H' G) (h : Rd H a (.tup vs)) : Rd H' a (.tup vs) := by
  rcases h with h | ⟨o, h⟩
  · exact .inl (g.1 _ _ h)
  · exact .inr ⟨o, g.2.1 _ _ _ h⟩
theorem SqT.good {a : Addr} {vs : List V} {G : Ft} (g : Good H H' G) (h : SqT K H a vs) : SqT K H' a vs := by
  rcases h with h | h
  · exact .inl (Rd.good g h)
  · exact .inr h
theorem Good.up {G : Ft} (g : Good H H' (up G)) : Good H H' G := g.sub fun p hp => ⟨(p.1, p.2 + 1), List.mem_map.mpr ⟨p, hp, rfl⟩, rfl⟩
theorem DicAt.good {a : Addr} {ks : List PyData} {vs : List V} (e : H' a = H a) (h : DicAt H a ks vs) : DicAt H' a ks vs := by
  rcases h with ⟨kvs, q, r⟩ | ⟨kvs, q, r⟩
  · exact .inl ⟨kvs, e.trans q, r⟩
  · exact .inr ⟨kvs, e.trans q, r⟩
mutual
theorem Den.good : ∀ {d : PyData} {v : V} {G : Ft}, Den K H d v G → Good H H' G → Den K H' d v G
  | _, _, _, .non, _ => .non
  | _, _, _, .bl b, _ => .bl b
  | _, _, _, .int i, _ => .int i
  | _, _, _, .str x, _ => .str x
  | _, _, _, .lst h1 h2, g => .lst ((g.2.2 _ List.mem_cons_self).trans h1) (DenL.good h2 (g.sub (G' := up _) fun p hp => ⟨p, List.mem_cons_of_mem _ hp, rfl⟩).up)
  | _, _, _, .tup h1 h2, g => .tup (g.1 _ _ h1) (DenL.good h2 g.up)
  | _, _, _, .dic h1 h2 h3, g => .dic (DicAt.good (g.2.2 _ List.mem_cons_self) h1) h2 (DenL.good h3 (g.sub (G' := up _) fun p hp => ⟨p, List.mem_cons_of_mem _ hp, rfl⟩).up)
theorem DenL.good : ∀ {ds : List PyData} {vs : List V} {G : Ft}, DenL K H ds vs G → Good H H' G → DenL K H' ds vs G
  | _, _, _, .nil, _ => .nil
  | _, _, _, .cons h1 h2, g => .cons (Den.good h1 (g.sub fun p hp => ⟨p, List.mem_append_left _ hp, rfl⟩)) (DenL.good h2 (g.sub fun p hp => ⟨p, List.mem_append_right _ hp, rfl⟩))
end
theorem DenV.good {d : DV} {v : V} {G : Ft} (h : DenV K Z H d v G) (g : Good H H' G) : DenV K Z H' d v G := by
  cases h with
  | d h => exact .d (h.good g)
  | s h =>
    rcases h with h | ⟨ob, h⟩
    · exact .s (.inl h)
    · exact .s (.inr ⟨ob, g.2.1 _ _ _ h⟩)
  | o h1 h2 h3 h4 =>
    have g' := (g.sub (G' := up _) fun p hp => ⟨p, List.mem_cons_of_mem _ hp, rfl⟩).up
    exact .o h1 ((g.2.2 _ List.mem_cons_self).trans h2) h3 (h4.good g')
/-- every address met is tracked -/
def There (H : Hp) (G : Ft) : Prop := ∀ p ∈ G, ∃ o, H p.1 = some o
theorem There.up {G : Ft} (t : There H G) : There H (up G) := fun p hp => by
  obtain ⟨q, hq, rfl⟩ := List.mem_map.mp hp
  exact t q hq
theorem There.cons {G : Ft} {a : Addr} {n : Nat} {o : HO} (h : H a = some o) (t : There H G) : There H ((a, n) :: G) := fun p hp => by
  rcases List.mem_cons.mp hp with e | hp
  · subst e; exact ⟨o, h⟩
  · exact t p hp
theorem There.append {G G' : Ft} (t : There H G) (t' : There H G') : There H (G ++ G') := fun p hp => (List.mem_append.mp hp).elim (t p) (t' p)
theorem DicAt.there {a : Addr} {ks : List PyData} {vs : List V} (h : DicAt H a ks vs) : ∃ o, H a = some o := by
  rcases h with ⟨_, h, _⟩ | ⟨_, h, _⟩
  · exact ⟨_, h⟩
  · exact ⟨_, h⟩
theorem There.nil : There H [] := fun _ hp => nomatch hp
mutual
theorem Den.there : ∀ {d : PyData} {v : V} {G : Ft}, Den K H d v G → There H G
  | _, _, _, .non => .nil
  | _, _, _, .bl b => .nil
  | _, _, _, .int i => .nil
  | _, _, _, .str x => .nil
  | _, _, _, .lst h1 h2 => .cons h1 (DenL.there h2).up
  | _, _, _, .tup h1 h2 => (DenL.there h2).up
  | _, _, _, .dic h1 h2 h3 => .cons h1.there.choose_spec (DenL.there h3).up
theorem DenL.there : ∀ {ds : List PyData} {vs : List V} {G : Ft}, DenL K H ds vs G → There H G
  | _, _, _, .nil => .nil
  | _, _, _, .cons h1 h2 => (Den.there h1).append (DenL.there h2)
end
theorem DenV.there {d : DV} {v : V} {G : Ft} (h : DenV K Z H d v G) : There H G := by
  cases h with
  | d h => exact h.there
  | s h => exact .nil
  | o h1 h2 h3 h4 => exact .cons h2 h4.there.up
end
end Lk
namespace Lk
open PySem PySem.Spec L2

def tks (T : List Addr) : List (Addr × Bool) := T.map fun a => (a, true)
/-- the roots R stand, the addresses T are owned beside them -/
def SimT (K : PySem.W.Frag) (Z : ClT) (H : Hp) (T : List Addr) (R : List Root) : Prop := ∃ F, SimF K Z H R F ∧ Own (tks T ++ F)
def kids (m : Nat) (ds : List PyData) (vs : List V) : List Root := List.zipWith (fun d v => ⟨m, .d d, v⟩) ds vs

section
variable {K : PySem.W.Frag} {Z : ClT} {H H' : Hp} {T : List Addr} {R R' : List Root}
theorem Sim.toT (h : Sim K Z H R) : SimT K Z H [] R := h
theorem SimT.toSim (h : SimT K Z H [] R) : Sim K Z H R := h

theorem SimF.append : ∀ {R R' : List Root} {F : List (Addr × Bool)}, SimF K Z H (R ++ R') F → ∃ F1 F2, SimF K Z H R F1 ∧ SimF K Z H R' F2 ∧ F = F1 ++ F2
  | [], _, F, h => ⟨[], F, rfl, h, rfl⟩
  | r :: R, R', F, h => by
    obtain ⟨G, F', hd, h', rfl⟩ := h
    obtain ⟨F1, F2, q1, q2, rfl⟩ := SimF.append h'
    exact ⟨tag r.n G ++ F1, F2, ⟨G, F1, hd, q1, rfl⟩, q2, by rw [List.append_assoc]⟩
theorem SimF.join : ∀ {R R' : List Root} {F F' : List (Addr × Bool)}, SimF K Z H R F → SimF K Z H R' F' → SimF K Z H (R ++ R') (F ++ F')
  | [], _, F, F', h, h' => by
    obtain rfl : F = [] := h
    exact h'
  | r :: R, R', F, F', h, h' => by
    obtain ⟨G, F1, hd, q, rfl⟩ := h
    exact ⟨G, F1 ++ F', hd, SimF.join q h', by rw [List.append_assoc]⟩
theorem SimF.perm (p : R.Perm R') : ∀ {F}, SimF K Z H R F → ∃ F', F.Perm F' ∧ SimF K Z H R' F' := by
  induction p with
  | nil => intro F h; exact ⟨F, .refl _, h⟩
  | cons x _ ih =>
    intro F h
    obtain ⟨G, F1, hd, q, rfl⟩ := h
    obtain ⟨F2, p2, q2⟩ := ih q
    exact ⟨_, List.Perm.append_left _ p2, G, F2, hd, q2, rfl⟩
  | swap x y l =>
    intro F h
    obtain ⟨G, F1, hd, ⟨G', F2, hd', q, rfl⟩, rfl⟩ := h
    refine ⟨_, ?_, G', _, hd', ⟨G, F2, hd, q, rfl⟩, rfl⟩
    rw [← List.append_assoc, ← List.append_assoc]
    exact List.Perm.append_right _ List.perm_append_comm
  | trans _ _ ih1 ih2 =>
    intro F h
    obtain ⟨F1, p1, q1⟩ := ih1 h
    obtain ⟨F2, p2, q2⟩ := ih2 q1
    exact ⟨F2, p1.trans p2, q2⟩
theorem SimF.sub (p : R'.Sublist R) : ∀ {F}, SimF K Z H R F → ∃ F', F'.Sublist F ∧ SimF K Z H R' F' := by
  induction p with
  | slnil => intro F h; exact ⟨F, .refl _, h⟩
  | cons a _ ih =>
    intro F h
    obtain ⟨G, F1, hd, q, rfl⟩ := h
    obtain ⟨F2, p2, q2⟩ := ih q
    exact ⟨F2, p2.trans (List.sublist_append_right _ _), q2⟩
  | cons_cons a _ ih =>
    intro F h
    obtain ⟨G, F1, hd, q, rfl⟩ := h
    obtain ⟨F2, p2, q2⟩ := ih q
    exact ⟨_, List.Sublist.append_left p2 _, G, F2, hd, q2, rfl⟩
theorem SimT.perm (h : SimT K Z H T R) (p : R.Perm R') : SimT K Z H T R' := by
  obtain ⟨F, hF, o⟩ := h
  obtain ⟨F', q, hF'⟩ := hF.perm p
  exact ⟨F', hF', o.perm (List.Perm.append_left _ q)⟩
theorem SimT.sub (h : SimT K Z H T R) (p : R'.Sublist R) : SimT K Z H T R' := by
  obtain ⟨F, hF, o⟩ := h
  obtain ⟨F', q, hF'⟩ := hF.sub p
  exact ⟨F', hF', o.sub (List.Sublist.append_left q _)⟩
theorem Sim.perm (h : Sim K Z H R) (p : R.Perm R') : Sim K Z H R' := SimT.perm (T := []) h p
theorem Sim.sub (h : Sim K Z H R) (p : R'.Sublist R) : Sim K Z H R' := SimT.sub (T := []) h p
theorem Sim.drop {r : Root} (h : Sim K Z H (r :: R)) : Sim K Z H R := h.sub (List.sublist_cons_self _ _)
theorem SimF.good : ∀ {R : List Root} {F : List (Addr × Bool)}, SimF K Z H R F → (∀ a vs, H a = some (.tup vs) → H' a = some (.tup vs)) → (∀ a o u, H a = some (.frz o u) → H' a = some (.frz o u)) → (∀ p ∈ F, H' p.1 = H p.1) → SimF K Z H' R F
  | [], F, h, _, _, _ => h
  | r :: R, F, h, h1, h2, h3 => by
    obtain ⟨G, F1, hd, q, rfl⟩ := h
    refine ⟨G, F1, hd.good ⟨h1, h2, fun p hp => ?_⟩, SimF.good q h1 h2 fun p hp => h3 p (List.mem_append_right _ hp), rfl⟩
    exact h3 (p.1, decide (p.2 < r.n)) (List.mem_append_left _ (List.mem_map.mpr ⟨p, hp, rfl⟩))
theorem SimF.there : ∀ {R : List Root} {F : List (Addr × Bool)}, SimF K Z H R F → ∀ p ∈ F, ∃ o, H p.1 = some o
  | [], F, h, p, hp => by
    obtain rfl : F = [] := h
    cases hp
  | r :: R, F, h, p, hp => by
    obtain ⟨G, F1, hd, q, rfl⟩ := h
    rcases List.mem_append.mp hp with hp | hp
    · obtain ⟨z, hz, rfl⟩ := List.mem_map.mp hp
      exact hd.there z hz
    · exact SimF.there q p hp
theorem SimT.grow (h : SimT K Z H T R) (g : ∀ a o, H a = some o → H' a = some o) : SimT K Z H' T R := by
  obtain ⟨F, hF, o⟩ := h
  refine ⟨F, hF.good (fun a vs e => g _ _ e) (fun a ob u e => g _ _ e) fun p hp => ?_, o⟩
  obtain ⟨o, e⟩ := hF.there p hp
  rw [e, g _ _ e]
theorem Sim.grow (h : Sim K Z H R) (g : ∀ a o, H a = some o → H' a = some o) : Sim K Z H' R := SimT.grow (T := []) h g
theorem grow_upd {p : Addr} {ob : HO} (hp : H p = none) : ∀ a o, H a = some o → upd H p ob a = some o := fun a o e => by
  rw [upd_ne (ne_of_none e hp)]; exact e
/-- an owned object is written -/
theorem SimT.write {a : Addr} {ob : HO} (h : SimT K Z H (a :: T) R) (nt : ∀ vs, H a ≠ some (.tup vs)) (nf : ∀ o u, H a ≠ some (.frz o u)) : SimT K Z (upd H a ob) (a :: T) R := by
  obtain ⟨F, hF, o⟩ := h
  refine ⟨F, hF.good (fun b vs e => ?_) (fun b ob u e => ?_) fun p hp => ?_, o⟩
  · rw [upd_ne (fun q => by subst q; exact nt _ e)]; exact e
  · rw [upd_ne (fun q => by subst q; exact nf _ _ e)]; exact e
  · refine upd_ne fun q => ?_
    have := (List.pairwise_cons.mp o).1 p (List.mem_append_right _ hp) q.symm
    exact absurd this.1 (by simp)
theorem SimT.dropT {a : Addr} (h : SimT K Z H (a :: T) R) : SimT K Z H T R := by
  obtain ⟨F, hF, o⟩ := h
  exact ⟨F, hF, o.sub (List.sublist_cons_self _ _)⟩

/-! ### flags -/
theorem tag_weak {m n : Nat} (h : m ≤ n) : ∀ G : Ft, Paired (fun (x y : Addr × Bool) => x.1 = y.1 ∧ (y.2 = true → x.2 = true)) (tag n G) (tag m G)
  | [] => .nil
  | p :: G => .cons ⟨rfl, fun z => by
      have z : p.2 < m := of_decide_eq_true z
      exact decide_eq_true (Nat.lt_of_lt_of_le z h)⟩ (tag_weak h G)
theorem paired_refl : ∀ F : List (Addr × Bool), Paired (fun (x y : Addr × Bool) => x.1 = y.1 ∧ (y.2 = true → x.2 = true)) F F
  | [] => .nil
  | p :: F => .cons ⟨rfl, fun z => z⟩ (paired_refl F)
theorem paired_app {A B C D : List (Addr × Bool)} {r : Addr × Bool → Addr × Bool → Prop} (h : Paired r A B) (h' : Paired r C D) : Paired r (A ++ C) (B ++ D) := by
  induction h with
  | nil => exact h'
  | cons q _ ih => exact .cons q ih
/-- each root's flag may be lessened -/
def Less : List Root → List Root → Prop := Paired fun r r' => r'.n ≤ r.n ∧ r'.d = r.d ∧ r'.v = r.v
theorem Less.refl : ∀ R : List Root, Less R R
  | [] => .nil
  | _ :: R => .cons ⟨Nat.le_refl _, rfl, rfl⟩ (Less.refl R)
theorem Less.app {A B C D : List Root} (h : Less A B) (h' : Less C D) : Less (A ++ C) (B ++ D) := by
  induction h with
  | nil => exact h'
  | cons q _ ih => exact .cons q ih
theorem SimF.less (l : Less R R') : ∀ {F}, SimF K Z H R F → ∃ F', Paired (fun (x y : Addr × Bool) => x.1 = y.1 ∧ (y.2 = true → x.2 = true)) F F' ∧ SimF K Z H R' F' := by
  induction l with
  | nil => intro F h; exact ⟨F, paired_refl F, h⟩
  | cons q _ ih =>
    intro F h
    obtain ⟨G, F1, hd, q1, rfl⟩ := h
    obtain ⟨F2, p2, q2⟩ := ih q1
    exact ⟨_, paired_app (tag_weak q.1 G) p2, G, F2, by rw [q.2.1, q.2.2]; exact hd, q2, rfl⟩
theorem SimT.less (h : SimT K Z H T R) (l : Less R R') : SimT K Z H T R' := by
  obtain ⟨F, hF, o⟩ := h
  obtain ⟨F', p, hF'⟩ := hF.less l
  exact ⟨F', hF', o.weak (paired_app (paired_refl _) p)⟩
theorem Sim.less (h : Sim K Z H R) (l : Less R R') : Sim K Z H R' := SimT.less (T := []) h l
theorem Sim.weak {m n : Nat} {d : DV} {v : V} (h : Sim K Z H (⟨n, d, v⟩ :: R)) (hm : m ≤ n) : Sim K Z H (⟨m, d, v⟩ :: R) := h.less (.cons ⟨hm, rfl, rfl⟩ (Less.refl R))
/-- frozen roots that are met already -/
theorem SimT.more {A : List (Addr × Bool)} {S : List Root} (h : SimT K Z H T R) (hS : ∀ F, SimF K Z H R F → ∃ A, SimF K Z H S A ∧ ∀ p ∈ A, p.2 = false ∧ (p.1, false) ∈ F) : SimT K Z H T (S ++ R) := by
  obtain ⟨F, hF, o⟩ := h
  obtain ⟨A, hA, q⟩ := hS F hF
  refine ⟨A ++ F, hA.join hF, ?_⟩
  have o2 : Own (A ++ (tks T ++ F)) := o.more fun p hp => ⟨(q p hp).1, List.mem_append_right _ (q p hp).2⟩
  refine o2.perm ?_
  rw [← List.append_assoc, ← List.append_assoc]
  exact List.Perm.append_right _ List.perm_append_comm
theorem SimF.mem : ∀ {R : List Root} {F : List (Addr × Bool)} {r : Root}, SimF K Z H R F → r ∈ R → ∃ G, DenV K Z H r.d r.v G ∧ ∀ p ∈ tag r.n G, p ∈ F
  | [], _, _, _, hr => nomatch hr
  | r :: R, F, x, h, hr => by
    obtain ⟨G, F1, hd, q, rfl⟩ := h
    rcases List.mem_cons.mp hr with e | hr
    · subst e
      exact ⟨G, hd, fun p hp => List.mem_append_left _ hp⟩
    · obtain ⟨G', hd', q'⟩ := SimF.mem q hr
      exact ⟨G', hd', fun p hp => List.mem_append_right _ (q' p hp)⟩
theorem tag0_in {n : Nat} {G : Ft} {F : List (Addr × Bool)} (h : ∀ p ∈ tag n G, p ∈ F) (h0 : ∀ p ∈ G, n ≤ p.2) : ∀ p ∈ tag 0 G, p.2 = false ∧ (p.1, false) ∈ F := fun p hp => by
  obtain ⟨q, hq, rfl⟩ := List.mem_map.mp hp
  refine ⟨decide_eq_false (Nat.not_lt_zero q.2), ?_⟩
  have := h (q.1, decide (q.2 < n)) (List.mem_map.mpr ⟨q, hq, rfl⟩)
  rwa [decide_eq_false (Nat.not_lt.mpr (h0 q hq))] at this
theorem Sim.den {r : Root} (h : Sim K Z H R) (hr : r ∈ R) : ∃ G, DenV K Z H r.d r.v G := by
  obtain ⟨F, hF, _⟩ := h
  obtain ⟨G, hd, _⟩ := hF.mem hr
  exact ⟨G, hd⟩
/-- a frozen root twice -/
theorem Sim.dup {d : DV} {v : V} (h : Sim K Z H R) (hr : ⟨0, d, v⟩ ∈ R) : Sim K Z H (⟨0, d, v⟩ :: R) := by
  refine SimT.more (T := []) (A := []) (S := [⟨0, d, v⟩]) h fun F hF => ?_
  obtain ⟨G, hd, q⟩ := hF.mem hr
  exact ⟨tag 0 G ++ [], ⟨G, [], hd, rfl, rfl⟩, fun p hp => tag0_in q (fun _ _ => Nat.zero_le _) p (by simpa using hp)⟩
/-- what has no address may be put to the roots -/
theorem Sim.scal {n : Nat} {d : DV} {v : V} (h : Sim K Z H R) (hd : DenV K Z H d v []) : Sim K Z H (⟨n, d, v⟩ :: R) := by
  obtain ⟨F, hF, o⟩ := h
  exact ⟨F, ⟨[], F, hd, hF, rfl⟩, o⟩

/-! ### children -/
theorem SimF.kids {m : Nat} : ∀ {ds : List PyData} {vs : List V} {G : Ft}, DenL K H ds vs G → SimF K Z H (kids m ds vs) (tag m G)
  | [], _, _, h => by cases h; rfl
  | d :: ds, _, _, h => by
    cases h with
    | cons h1 h2 => exact ⟨_, _, .d h1, SimF.kids h2, by rw [tag_append]⟩
theorem SimF.ofKids {m : Nat} : ∀ {ds : List PyData} {vs : List V} {F : List (Addr × Bool)}, ds.length = vs.length → SimF K Z H (Lk.kids m ds vs) F → ∃ G, DenL K H ds vs G ∧ F = tag m G
  | [], [], F, _, h => ⟨[], .nil, h⟩
  | [], _ :: _, _, e, _ => by simp at e
  | _ :: _, [], _, e, _ => by simp at e
  | d :: ds, v :: vs, F, e, h => by
    obtain ⟨G, F1, hd, q, rfl⟩ := h
    obtain ⟨G', q1, rfl⟩ := SimF.ofKids (by simpa using e) q
    cases hd with
    | d hd => exact ⟨G ++ G', .cons hd q1, by rw [tag_append]⟩
theorem mem_up {G : Ft} {p : Addr × Nat} (h : p ∈ up G) : 1 ≤ p.2 := by
  obtain ⟨q, _, rfl⟩ := List.mem_map.mp h
  exact Nat.le_add_left _ _
theorem tag0_up (G : Ft) : tag 0 (up G) = tag 0 G := by rw [tag_up]
/-- the items of a list whose items are not owned -/
theorem Sim.openL {n : Nat} {ds : List PyData} {v : V} (h : Sim K Z H R) (hr : ⟨n, .d (.list ds), v⟩ ∈ R) (hn : n ≤ 1) :
    ∃ a vs, v = .ref a ∧ H a = some (.lst vs) ∧ ds.length = vs.length ∧ Sim K Z H (kids 0 ds vs ++ R) := by
  obtain ⟨F, hF, o⟩ := id h
  obtain ⟨G, hd, q⟩ := hF.mem hr
  cases hd with
  | d hd =>
    cases hd with
    | @lst _ _ _ G' h1 h2 =>
      refine ⟨_, _, rfl, h1, h2.length, _, (SimF.kids h2).join hF, o.more fun p hp => ?_⟩
      have q' : ∀ p ∈ tag n (up G'), p ∈ F := fun p hp => q p (by rw [tag_cons]; exact List.mem_cons_of_mem _ hp)
      exact tag0_in (G := up G') q' (fun p hp => Nat.le_trans hn (mem_up hp)) p (by rw [tag0_up]; exact hp)
/-- the list itself, whatever its flag -/
theorem Sim.seeL {n : Nat} {ds : List PyData} {v : V} (h : Sim K Z H R) (hr : ⟨n, .d (.list ds), v⟩ ∈ R) :
    ∃ a vs, v = .ref a ∧ H a = some (.lst vs) ∧ ds.length = vs.length := by
  obtain ⟨G, hd⟩ := h.den hr
  cases hd with
  | d hd =>
    cases hd with
    | lst h1 h2 => exact ⟨_, _, rfl, h1, h2.length⟩
/-- the script -/
theorem Sim.script {n : Nat} {ns : List Int} {v : V} (h : Sim K Z H R) (hr : ⟨n, .s ns, v⟩ ∈ R) : ∃ a, v = .ref a ∧ SqL K H a (ns.map V.int) := by
  obtain ⟨G, hd⟩ := h.den hr
  cases hd with
  | s h =>
    refine ⟨_, rfl, ?_⟩
    rcases h with h | ⟨ob, h⟩
    · rcases h with (h | ⟨ob, h⟩) | h
      · cases h
      · cases h
      · exact .inr h
    · exact .inl (.inr ⟨ob, h⟩)
/-- the items of a tuple whose items are not owned -/
theorem Sim.openT {n : Nat} {ds : List PyData} {v : V} (h : Sim K Z H R) (hr : ⟨n, .d (.tuple ds), v⟩ ∈ R) (hn : n ≤ 1) :
    ∃ a vs, v = .ref a ∧ SqT K H a vs ∧ ds.length = vs.length ∧ Sim K Z H (kids 0 ds vs ++ R) := by
  obtain ⟨F, hF, o⟩ := id h
  obtain ⟨G, hd, q⟩ := hF.mem hr
  cases hd with
  | d hd =>
    cases hd with
    | @tup _ _ _ G' h1 h2 =>
      refine ⟨_, _, rfl, .of h1, h2.length, _, (SimF.kids h2).join hF, o.more fun p hp => ?_⟩
      exact tag0_in (G := up G') q (fun p hp => Nat.le_trans hn (mem_up hp)) p (by rw [tag0_up]; exact hp)
theorem Sim.again {n : Nat} {ds : List PyData} {v : V} (h : Sim K Z H R) (hr : ⟨n, .d (.tuple ds), v⟩ ∈ R) (hn : n ≤ 1) : Sim K Z H (⟨1, .d (.tuple ds), v⟩ :: R) := by
  obtain ⟨F, hF, o⟩ := id h
  obtain ⟨G, hd, q⟩ := hF.mem hr
  cases hd with
  | d hd =>
    cases hd with
    | @tup _ _ _ G' h1 h2 =>
      refine ⟨_, ⟨up G', F, .d (.tup h1 h2), hF, rfl⟩, ?_⟩
      rw [tag_up]
      exact o.more fun p hp => tag0_in (G := up G') q (fun p hp => Nat.le_trans hn (mem_up hp)) p (by rw [tag0_up]; exact hp)
/-- the tuple itself, whatever its flag -/
theorem Sim.seeT {n : Nat} {ds : List PyData} {v : V} (h : Sim K Z H R) (hr : ⟨n, .d (.tuple ds), v⟩ ∈ R) : ∃ a vs, v = .ref a ∧ SqT K H a vs ∧ ds.length = vs.length := by
  obtain ⟨G, hd⟩ := h.den hr
  cases hd with
  | d hd =>
    cases hd with
    | tup h1 h2 => exact ⟨_, _, rfl, .of h1, h2.length⟩
theorem kids_mem {m : Nat} {d : PyData} {v : V} : ∀ {i : Nat} {ds : List PyData} {vs : List V}, ds[i]? = some d → vs[i]? = some v → ⟨m, .d d, v⟩ ∈ kids m ds vs
  | 0, d' :: ds, v' :: vs, e1, e2 => by
    simp at e1 e2; subst e1; subst e2
    exact List.mem_cons_self
  | i + 1, d' :: ds, v' :: vs, e1, e2 => List.mem_cons_of_mem _ (kids_mem (i := i) (by simpa using e1) (by simpa using e2))
  | _, [], _, e1, _ => by simp at e1
  | _, _ :: _, [], _, e2 => by simp at e2
theorem mem_sub {r : Root} {A : List Root} (h : r ∈ A) : [r].Sublist A := List.singleton_sublist.mpr h
theorem Sim.kid {m : Nat} {d : PyData} {v : V} {i : Nat} {ds : List PyData} {vs : List V} (h : Sim K Z H (kids m ds vs ++ R)) (e1 : ds[i]? = some d) (e2 : vs[i]? = some v) : Sim K Z H (⟨m, .d d, v⟩ :: R) :=
  h.sub ((mem_sub (kids_mem e1 e2)).append_right R)
/-- an owned list is taken apart, its address kept -/
theorem Sim.apart {n : Nat} {ds : List PyData} {v : V} (h : Sim K Z H (⟨n + 1, .d (.list ds), v⟩ :: R)) :
    ∃ a vs, v = .ref a ∧ H a = some (.lst vs) ∧ ds.length = vs.length ∧ SimT K Z H [a] (kids n ds vs ++ R) := by
  obtain ⟨F, ⟨G, F1, hd, hF, rfl⟩, o⟩ := h
  cases hd with
  | d hd =>
    cases hd with
    | lst h1 h2 =>
      refine ⟨_, _, rfl, h1, h2.length, _, (SimF.kids h2).join hF, ?_⟩
      rw [tag_cons, tag_up] at o
      exact o
/-- .. put together again, with other items -/
theorem SimT.close {n : Nat} {a : Addr} {ds : List PyData} {vs : List V} {ws : List V} (h : SimT K Z H [a] (kids n ds vs ++ R)) (e : ds.length = vs.length) (ha : H a = some (.lst ws)) :
    Sim K Z (upd H a (.lst vs)) (⟨n + 1, .d (.list ds), .ref a⟩ :: R) := by
  have h2 := h.write (ob := .lst vs) (by rw [ha]; simp) (by rw [ha]; simp)
  obtain ⟨F, hF, o⟩ := h2
  obtain ⟨F1, F2, q1, q2, rfl⟩ := hF.append
  obtain ⟨G, hl, rfl⟩ := q1.ofKids e
  refine ⟨(a, true) :: (tag n G ++ F2), ⟨(a, 0) :: up G, F2, .d (.lst upd_same hl), q2, ?_⟩, o⟩
  rw [tag_cons, tag_up]
  rfl
theorem SimF.grow {F : List (Addr × Bool)} (hF : SimF K Z H R F) (g : ∀ a o, H a = some o → H' a = some o) : SimF K Z H' R F :=
  hF.good (fun a vs e => g _ _ e) (fun a ob u e => g _ _ e) fun p hp => by
    obtain ⟨o, e⟩ := hF.there p hp
    rw [e, g _ _ e]
/-- a fresh address is owned -/
theorem Sim.fresh {p : Addr} {ob : HO} (h : Sim K Z H R) (hp : H p = none) : SimT K Z (upd H p ob) [p] R := by
  obtain ⟨F, hF, o⟩ := h
  refine ⟨F, hF.grow (grow_upd hp), List.pairwise_cons.mpr ⟨fun y hy e => ?_, o⟩⟩
  obtain ⟨u, q⟩ := hF.there y hy
  have e : p = y.1 := e
  rw [← e, hp] at q
  cases q
theorem SimT.close0 {n : Nat} {a : Addr} {ds : List PyData} {vs : List V} (h : SimT K Z H [a] (kids n ds vs ++ R)) (e : ds.length = vs.length) (ha : H a = some (.lst vs)) :
    Sim K Z H (⟨n + 1, .d (.list ds), .ref a⟩ :: R) := by
  obtain ⟨F, hF, o⟩ := h
  obtain ⟨F1, F2, q1, q2, rfl⟩ := hF.append
  obtain ⟨G, hl, rfl⟩ := q1.ofKids e
  refine ⟨(a, true) :: (tag n G ++ F2), ⟨(a, 0) :: up G, F2, .d (.lst ha hl), q2, ?_⟩, o⟩
  rw [tag_cons, tag_up]
  rfl
/-- a new list -/
theorem Sim.mkL {n : Nat} {p : Addr} {ds : List PyData} {vs : List V} (h : Sim K Z H (kids n ds vs ++ R)) (e : ds.length = vs.length) (hp : H p = none) :
    Sim K Z (upd H p (.lst vs)) (⟨n + 1, .d (.list ds), .ref p⟩ :: R) := (h.fresh hp).close0 e upd_same
/-- a new tuple -/
theorem Sim.mkT {n : Nat} {p : Addr} {ds : List PyData} {vs : List V} (h : Sim K Z H (kids n ds vs ++ R)) (e : ds.length = vs.length) (hp : H p = none) :
    Sim K Z (upd H p (.tup vs)) (⟨n + 1, .d (.tuple ds), .ref p⟩ :: R) := by
  obtain ⟨F, hF, o⟩ := h.grow (grow_upd (ob := .tup vs) hp)
  obtain ⟨F1, F2, q1, q2, rfl⟩ := hF.append
  obtain ⟨G, hl, rfl⟩ := q1.ofKids e
  exact ⟨_, ⟨up G, F2, .d (.tup upd_same hl), q2, by rw [tag_up]; rfl⟩, o⟩
/-- scalars -/
theorem Sim.int {n : Nat} {i : Int} {v : V} (h : Sim K Z H R) (hr : ⟨n, .d (.int i), v⟩ ∈ R) : v = .int i := by
  obtain ⟨G, hd⟩ := h.den hr
  cases hd with
  | d hd => cases hd; rfl
theorem Sim.bl {n : Nat} {i : Bool} {v : V} (h : Sim K Z H R) (hr : ⟨n, .d (.bool i), v⟩ ∈ R) : v = .bl i := by
  obtain ⟨G, hd⟩ := h.den hr
  cases hd with
  | d hd => cases hd; rfl
theorem Sim.str {n : Nat} {i : Str} {v : V} (h : Sim K Z H R) (hr : ⟨n, .d (.str i), v⟩ ∈ R) : v = .str i := by
  obtain ⟨G, hd⟩ := h.den hr
  cases hd with
  | d hd => cases hd; rfl
theorem Sim.non {n : Nat} {v : V} (h : Sim K Z H R) (hr : ⟨n, .d .none, v⟩ ∈ R) : v = .non := by
  obtain ⟨G, hd⟩ := h.den hr
  cases hd with
  | d hd => cases hd; rfl
end
end Lk
namespace Lk
open PySem PySem.Spec L2

abbrev Ev := List (Option DV)
inductive Out (α : Type) where
  | ok (a : α) (e : Ev)
  | ex (c : Nat) (g : PyData) (e : Ev)
  | bad
abbrev M (α : Type) := Ev → Out α
def Out.bind {α β : Type} (o : Out α) (f : α → M β) : Out β :=
  match o with
  | .ok a e => f a e
  | .ex c g e => .ex c g e
  | .bad => .bad
def M.bind {α β : Type} (m : M α) (f : α → M β) : M β := fun e => (m e).bind f
def M.pure {α : Type} (a : α) : M α := fun e => .ok a e
def M.bad {α : Type} : M α := fun _ => .bad
def optM {α : Type} (o : Option α) : M α := match o with
  | some a => M.pure a
  | none => M.bad

/-- where an expression's value stands: in a slot, or by itself with a flag -/
inductive Tm where
  | sl (i : Nat)
  | v (k : Nat)
def slot (e : Ev) (i : Nat) : Option DV := (e[i]?).join
def Tm.now (t : Tm) (d : DV) (e : Ev) : Option DV := match t with
  | .sl i => slot e i
  | .v _ => some d
structure Held where
  t : Tm
  d : DV
  v : V
def Held.rt (h : Held) : List Root := match h.t with
  | .sl _ => []
  | .v k => [⟨k, h.d, h.v⟩]
def hrts (hs : List Held) : List Root := hs.flatMap Held.rt
def Held.at (h : Held) (σ : St) : Prop := match h.t with
  | .sl i => σ[i]? = some (some h.v)
  | .v _ => True
def roots : List Nat → Ev → St → List Root
  | n :: φ, some d :: e, some v :: σ => ⟨n, d, v⟩ :: roots φ e σ
  | _ :: φ, _ :: e, _ :: σ => roots φ e σ
  | _, _, _ => []
def Al : List Nat → Ev → St → Prop
  | [], [], [] => True
  | _ :: φ, d :: e, v :: σ => (d.isSome = true → v.isSome = true) ∧ Al φ e σ
  | _, _, _ => False

section
theorem Al.get : ∀ {φ : List Nat} {e : Ev} {σ : St} {i : Nat} {d : DV}, Al φ e σ → slot e i = some d → ∃ n v, φ[i]? = some n ∧ σ[i]? = some (some v) ∧ (roots φ e σ).Perm (⟨n, d, v⟩ :: roots φ (e.set i none) σ)
  | [], [], [], i, d, _, h => by simp [slot] at h
  | n :: φ, d0 :: e, v0 :: σ, 0, d, a, h => by
    have h : d0 = some d := by simpa [slot] using h
    subst h
    cases v0 with
    | none => exact absurd (a.1 rfl) (by simp)
    | some v => exact ⟨n, v, rfl, rfl, .refl _⟩
  | n :: φ, d0 :: e, v0 :: σ, i + 1, d, a, h => by
    obtain ⟨n', v, q1, q2, p⟩ := Al.get (i := i) a.2 (by simpa [slot] using h)
    refine ⟨n', v, by simpa using q1, by simpa using q2, ?_⟩
    rw [List.set_cons_succ]
    cases d0 with
    | none => exact p
    | some d1 =>
      cases v0 with
      | none => exact absurd (a.1 rfl) (by simp)
      | some v1 => exact (List.Perm.cons _ p).trans (.swap _ _ _)
  | [], [], _ :: _, _, _, a, _ => a.elim
  | [], _ :: _, [], _, _, a, _ => a.elim
  | [], _ :: _, _ :: _, _, _, a, _ => a.elim
  | _ :: _, [], [], _, _, a, _ => a.elim
  | _ :: _, [], _ :: _, _, _, a, _ => a.elim
  | _ :: _, _ :: _, [], _, _, a, _ => a.elim
theorem Al.set : ∀ {φ : List Nat} {e : Ev} {σ : St} {i m : Nat} {d : DV} {v : V}, Al φ e σ → i < e.length → Al (φ.set i m) (e.set i (some d)) (σ.set i (some v)) ∧
    (roots (φ.set i m) (e.set i (some d)) (σ.set i (some v))).Perm (⟨m, d, v⟩ :: roots φ (e.set i none) σ)
  | [], [], [], i, _, _, _, _, h => by simp at h
  | n :: φ, d0 :: e, v0 :: σ, 0, m, d, v, a, _ => ⟨⟨fun _ => rfl, a.2⟩, .refl _⟩
  | n :: φ, d0 :: e, v0 :: σ, i + 1, m, d, v, a, h => by
    obtain ⟨q1, p⟩ := Al.set (i := i) (m := m) (d := d) (v := v) a.2 (by simpa using h)
    refine ⟨⟨a.1, q1⟩, ?_⟩
    simp only [List.set_cons_succ]
    cases d0 with
    | none => exact p
    | some d1 =>
      cases v0 with
      | none => exact absurd (a.1 rfl) (by simp)
      | some v1 => exact (List.Perm.cons _ p).trans (.swap _ _ _)
  | [], [], _ :: _, _, _, _, _, a, _ => a.elim
  | [], _ :: _, [], _, _, _, _, a, _ => a.elim
  | [], _ :: _, _ :: _, _, _, _, _, a, _ => a.elim
  | _ :: _, [], [], _, _, _, _, a, _ => a.elim
  | _ :: _, [], _ :: _, _, _, _, _, a, _ => a.elim
  | _ :: _, _ :: _, [], _, _, _, _, a, _ => a.elim
theorem Al.len : ∀ {φ : List Nat} {e : Ev} {σ : St}, Al φ e σ → e.length = σ.length ∧ φ.length = σ.length
  | [], [], [], _ => ⟨rfl, rfl⟩
  | _ :: φ, _ :: e, _ :: σ, a => by simp [a.2.len.1, a.2.len.2]
  | [], [], _ :: _, a => a.elim
  | [], _ :: _, [], a => a.elim
  | [], _ :: _, _ :: _, a => a.elim
  | _ :: _, [], [], a => a.elim
  | _ :: _, [], _ :: _, a => a.elim
  | _ :: _, _ :: _, [], a => a.elim
theorem Al.setE {φ : List Nat} {e : Ev} {σ : St} {i : Nat} (m : Nat) {d' : DV} {v : V} (a : Al φ e σ) (h : σ[i]? = some (some v)) : Al (φ.set i m) (e.set i (some d')) σ ∧
    (roots (φ.set i m) (e.set i (some d')) σ).Perm (⟨m, d', v⟩ :: roots φ (e.set i none) σ) := by
  have hi : i < σ.length := (List.getElem?_eq_some_iff.mp h).1
  have q := Al.set (m := m) (d := d') (v := v) a (a.len.1 ▸ hi)
  have e2 : σ.set i (some v) = σ := by
    apply List.ext_getElem?
    intro j
    by_cases hj : i = j
    · subst hj; rw [List.getElem?_set_self hi, h]
    · rw [List.getElem?_set_ne hj]
  rwa [e2] at q
/-- flags lessened -/
def leN : List Nat → List Nat → Bool
  | [], [] => true
  | a :: φ, b :: ψ => decide (a ≤ b) && leN φ ψ
  | _, _ => false
theorem Al.less : ∀ {φ ψ : List Nat} {e : Ev} {σ : St}, Al φ e σ → leN ψ φ = true → Al ψ e σ ∧ Less (roots φ e σ) (roots ψ e σ)
  | [], [], [], [], _, _ => ⟨trivial, .nil⟩
  | n :: φ, m :: ψ, d :: e, v :: σ, a, h => by
    simp only [leN, Bool.and_eq_true, decide_eq_true_eq] at h
    obtain ⟨q1, q2⟩ := Al.less a.2 h.2
    refine ⟨⟨a.1, q1⟩, ?_⟩
    cases d with
    | none => exact q2
    | some d =>
      cases v with
      | none => exact q2
      | some v => exact .cons ⟨h.1, rfl, rfl⟩ q2
  | [], _ :: _, _, _, _, h => by simp [leN] at h
  | _ :: _, [], _, _, _, h => by simp [leN] at h
  | [], [], [], _ :: _, a, _ => a.elim
  | [], [], _ :: _, [], a, _ => a.elim
  | [], [], _ :: _, _ :: _, a, _ => a.elim
  | _ :: _, _ :: _, [], [], a, _ => a.elim
  | _ :: _, _ :: _, [], _ :: _, a, _ => a.elim
  | _ :: _, _ :: _, _ :: _, [], a, _ => a.elim
theorem leN_refl : ∀ φ : List Nat, leN φ φ = true
  | [] => rfl
  | n :: φ => by simp [leN, leN_refl φ]
theorem leN_trans : ∀ {φ ψ χ : List Nat}, leN φ ψ = true → leN ψ χ = true → leN φ χ = true
  | [], [], [], _, _ => rfl
  | a :: φ, b :: ψ, c :: χ, h, h' => by
    simp only [leN, Bool.and_eq_true, decide_eq_true_eq] at h h' ⊢
    exact ⟨Nat.le_trans h.1 h'.1, leN_trans h.2 h'.2⟩
  | [], [], _ :: _, _, h => by simp [leN] at h
  | [], _ :: _, _, h, _ => by simp [leN] at h
  | _ :: _, [], _, h, _ => by simp [leN] at h
  | _ :: _, _ :: _, [], _, h => by simp [leN] at h
end

/-- the state in a body: roots of the slots, of what is held, and the frame's L -/
structure Stt (K : PySem.W.Frag) (Z : ClT) (φ : List Nat) (env : Ev) (hs : List Held) (σ : St) (H : Hp) (L : List Root) : Prop where
  sim : Sim K Z H (hrts hs ++ (roots φ env σ ++ L))
  al : Al φ env σ
  at' : ∀ h ∈ hs, h.at σ

def zeros (e : Ev) : List Nat := e.map fun _ => 0
/-- the attribute of an exception's class -/
def fldOf (c : Nat) : Str := if c < 100 then "given" else "index"
/-- what is wanted of an exception -/
def XP (K : PySem.W.Frag) (Z : ClT) (W : WX) (L : List Root) (c : Nat) (g : PyData) (e : Ev) : Prop :=
  ∀ (C a : Addr) (v : V) (σ' : St) (H' : Hp), Z c = some C → H' a = some (.xd [(fldOf c, v)]) → Sim K Z H' (⟨0, .d g, v⟩ :: (roots (zeros e) e σ' ++ L)) → Al (zeros e) e σ' → W (.ref C) (some a) σ' H'
def Wish {α : Type} (K : PySem.W.Frag) (Z : ClT) (W : WX) (L : List Root) (o : Out α) (k : α → Ev → Prop) : Prop := match o with
  | .ok a e => k a e
  | .ex c g e => XP K Z W L c g e
  | .bad => False

def Out.ofO {α : Type} (o : Option α) (e : Ev) : Out α := match o with
  | some a => .ok a e
  | none => .bad
section
variable {K : PySem.W.Frag} {Z : ClT} {W : WX} {L L' : List Root}
theorem Wish.ofO {α : Type} {o : Option α} {e : Ev} {k : α → Ev → Prop} (h : Wish K Z W L (Out.ofO o e) k) : ∃ a, o = some a ∧ k a e := by
  cases o with
  | none => exact h.elim
  | some a => exact ⟨a, rfl, h⟩
theorem Wish.bind {α β : Type} {o : Out α} {f : α → M β} {k : β → Ev → Prop} (h : Wish K Z W L (o.bind f) k) : Wish K Z W L o fun a e => Wish K Z W L (f a e) k := by
  cases o with
  | ok a e => exact h
  | ex c g e => exact h
  | bad => exact h
theorem Wish.mono {α : Type} {o : Out α} {k k' : α → Ev → Prop} (h : Wish K Z W L o k) (i : ∀ a e, k a e → k' a e) : Wish K Z W L o k' := by
  cases o with
  | ok a e => exact i _ _ h
  | ex c g e => exact h
  | bad => exact h
theorem XP.frame {A : List Root} {c : Nat} {g : PyData} {e : Ev} (h : XP K Z W L c g e) : XP K Z W (A ++ L) c g e := fun C a v σ' H' q1 q2 q3 q4 =>
  h C a v σ' H' q1 q2 (q3.sub (.cons_cons _ (List.Sublist.append_left (List.sublist_append_right _ _) _))) q4
theorem Wish.frame {α : Type} {A : List Root} {o : Out α} {k : α → Ev → Prop} (h : Wish K Z W L o k) : Wish K Z W (A ++ L) o k := by
  cases o with
  | ok a e => exact h
  | ex c g e => exact XP.frame h
  | bad => exact h
end

section
variable (X : Cx) (Z : ClT) (W : WX)
def rdE (φ φ' : List Nat) (t : Tm) (f : M DV) : TE := fun σ H Q => ∃ L env, Stt X.K Z φ env [] σ H L ∧ Wish X.K Z W L (f env) fun d e' => ∀ v H', Stt X.K Z φ' e' [⟨t, d, v⟩] σ H' L → Q v H'
def rdT (φ φ' : List Nat) (f : M Bool) : TT := fun σ H Q => ∃ L env, Stt X.K Z φ env [] σ H L ∧ Wish X.K Z W L (f env) fun b e' => ∀ H', Stt X.K Z φ' e' [] σ H' L → Q b H'
def JE (φ : List Nat) (e : Expr) (φ' : List Nat) (t : Tm) (f : M DV) : Prop := PE X e (rdE X Z W φ φ' t f)
def JT (φ : List Nat) (e : Expr) (φ' : List Nat) (f : M Bool) : Prop := PT X e (rdT X Z W φ φ' f)
/-- a list of operands: their terms, latest last; the values as they are when all are there -/
def nows : List (Tm × DV) → Ev → Option (List DV)
  | [], _ => some []
  | (t, d) :: r, e => match t.now d e, nows r e with
    | some x, some xs => some (x :: xs)
    | _, _ => none
end
section
variable {X : Cx} {Z : ClT} {W : WX}
theorem pe_imp {e : Expr} {t t' : TE} (h : PE X e t) (i : ∀ σ H Q, t' σ H Q → t σ H Q) : PE X e t' := ⟨fun pins s σ H Q I q => h.run pins s σ H Q I (i _ _ _ q)⟩
theorem pt_imp {e : Expr} {t t' : TT} (h : PT X e t) (i : ∀ σ H Q, t' σ H Q → t σ H Q) : PT X e t' := ⟨fun pins s σ H Q I q => h.run pins s σ H Q I (i _ _ _ q)⟩
theorem hrts_cons (h : Held) (hs : List Held) : hrts (h :: hs) = h.rt ++ hrts hs := rfl
theorem shuf {A B C D : List Root} : (A ++ (B ++ (C ++ D))).Perm (A ++ (C ++ (B ++ D))) := by
  refine List.Perm.append_left _ ?_
  rw [← List.append_assoc, ← List.append_assoc]
  exact List.Perm.append_right _ List.perm_append_comm
variable {φ φ' : List Nat} {t : Tm} {f : M DV} {σ : St} {H : Hp} {L : List Root} {env : Ev} {hs : List Held}
/-- an expression in the middle of others -/
theorem rdE.go {P : VK} (S : Stt X.K Z φ env hs σ H L) (h : Wish X.K Z W L (f env) fun d e' => ∀ v H', Stt X.K Z φ' e' (⟨t, d, v⟩ :: hs) σ H' L → P v H') : rdE X Z W φ φ' t f σ H P := by
  refine ⟨hrts hs ++ L, env, ⟨?_, S.al, fun _ h => nomatch h⟩, h.frame.mono fun d e' k v H' S' => k v H' ⟨?_, S'.al, fun x hx => ?_⟩⟩
  · refine S.sim.perm ?_
    show (hrts hs ++ (roots φ env σ ++ L)).Perm ([] ++ (roots φ env σ ++ (hrts hs ++ L)))
    exact shuf (A := [])
  · refine S'.sim.perm ?_
    show ((Held.rt _ ++ []) ++ (roots φ' e' σ ++ (hrts hs ++ L))).Perm ((Held.rt _ ++ hrts hs) ++ (roots φ' e' σ ++ L))
    rw [List.append_nil, List.append_assoc]
    exact shuf
  · rcases List.mem_cons.mp hx with e | hx
    · subst e; exact S'.at' _ List.mem_cons_self
    · exact S.at' x hx
theorem rdT.go {f : M Bool} {P : Bool → Hp → Prop} (S : Stt X.K Z φ env hs σ H L) (h : Wish X.K Z W L (f env) fun b e' => ∀ H', Stt X.K Z φ' e' hs σ H' L → P b H') : rdT X Z W φ φ' f σ H P := by
  refine ⟨hrts hs ++ L, env, ⟨?_, S.al, fun _ h => nomatch h⟩, h.frame.mono fun d e' k H' S' => k H' ⟨?_, S'.al, S.at'⟩⟩
  · refine S.sim.perm ?_
    show (hrts hs ++ (roots φ env σ ++ L)).Perm ([] ++ (roots φ env σ ++ (hrts hs ++ L)))
    exact shuf (A := [])
  · refine S'.sim.perm ?_
    show ([] ++ (roots φ' e' σ ++ (hrts hs ++ L))).Perm (hrts hs ++ (roots φ' e' σ ++ L))
    exact shuf (A := [])

/-! ### what is held, as a root with a bounded flag -/
/-- the flags when held operands may share their parts: at most cap -/
def capS (cap : Nat) : List (Option Nat) → List Nat → List Nat
  | [], φ => φ
  | none :: ts, φ => capS cap ts φ
  | some i :: ts, φ => capS cap ts (φ.modify i (min cap))
def Tm.slot? : Tm → Option Nat
  | .sl i => some i
  | .v _ => none
theorem modify_le (cap : Nat) : ∀ (φ : List Nat) (i : Nat), leN (φ.modify i (min cap)) φ = true
  | [], i => by cases i <;> rfl
  | n :: φ, 0 => by
    show leN (min cap n :: φ) (n :: φ) = true
    simp [leN, leN_refl, Nat.min_le_right]
  | n :: φ, i + 1 => by
    show leN (n :: φ.modify i (min cap)) (n :: φ) = true
    simp [leN, modify_le cap φ i]
theorem capS_le (cap : Nat) : ∀ (ts : List (Option Nat)) (φ : List Nat), leN (capS cap ts φ) φ = true
  | [], φ => leN_refl φ
  | none :: ts, φ => capS_le cap ts φ
  | some i :: ts, φ => leN_trans (capS_le cap ts _) (modify_le cap φ i)
theorem leN_get : ∀ {φ ψ : List Nat} {i n : Nat}, leN ψ φ = true → ψ[i]? = some n → ∃ m, φ[i]? = some m ∧ n ≤ m
  | a :: φ, b :: ψ, 0, n, h, e => by
    simp only [leN, Bool.and_eq_true, decide_eq_true_eq] at h
    simp at e; subst e
    exact ⟨a, rfl, h.1⟩
  | a :: φ, b :: ψ, i + 1, n, h, e => by
    simp only [leN, Bool.and_eq_true, decide_eq_true_eq] at h
    exact leN_get (i := i) h.2 (by simpa using e)
  | [], [], _, _, _, e => by simp at e
  | [], _ :: _, _, _, h, _ => by simp [leN] at h
  | _ :: _, [], _, _, _, e => by simp at e
theorem capS_get (cap : Nat) : ∀ {ts : List (Option Nat)} {φ : List Nat} {i n : Nat}, some i ∈ ts → (capS cap ts φ)[i]? = some n → n ≤ cap
  | none :: ts, φ, i, n, h, e => by
    rcases List.mem_cons.mp h with q | h
    · cases q
    · exact capS_get cap h e
  | some j :: ts, φ, i, n, h, e => by
    rcases List.mem_cons.mp h with q | h
    · have q : i = j := Option.some.inj q
      subst q
      obtain ⟨m, hm, hnm⟩ := leN_get (capS_le cap ts (φ.modify i (min cap))) e
      rw [List.getElem?_modify] at hm
      cases hq : φ[i]? with
      | none => rw [hq] at hm; simp at hm
      | some a =>
        rw [hq] at hm
        simp at hm
        omega
    · exact capS_get cap h e
def Held.cap (c : Nat) (h : Held) : Held := match h.t with
  | .sl i => h
  | .v k => ⟨.v (min c k), h.d, h.v⟩
theorem Held.cap_rt (c : Nat) (h : Held) : Less h.rt (h.cap c).rt := by
  obtain ⟨t, d, v⟩ := h
  cases t with
  | sl i => exact .nil
  | v k => exact .cons ⟨Nat.min_le_right _ _, rfl, rfl⟩ .nil
theorem hrts_cap (c : Nat) : ∀ hs : List Held, Less (hrts hs) (hrts (hs.map (Held.cap c)))
  | [] => .nil
  | h :: hs => by
    show Less (h.rt ++ hrts hs) ((h.cap c).rt ++ hrts (hs.map (Held.cap c)))
    exact Less.app (h.cap_rt c) (hrts_cap c hs)
/-- all that is held may share its parts -/
theorem Stt.cap (S : Stt X.K Z φ env hs σ H L) (c : Nat) : Stt X.K Z (capS c (hs.map fun h => h.t.slot?) φ) env (hs.map (Held.cap c)) σ H L := by
  obtain ⟨a, l⟩ := S.al.less (capS_le c (hs.map fun h => h.t.slot?) φ)
  refine ⟨S.sim.less (Less.app (hrts_cap c hs) (Less.app l (Less.refl L))), a, fun x hx => ?_⟩
  obtain ⟨y, hy, rfl⟩ := List.mem_map.mp hx
  have := S.at' y hy
  obtain ⟨t, d, v⟩ := y
  cases t with
  | sl i => exact this
  | v k => trivial
theorem Stt.less {ψ : List Nat} (S : Stt X.K Z φ env hs σ H L) (h : leN ψ φ = true) : Stt X.K Z ψ env hs σ H L := by
  obtain ⟨a, l⟩ := S.al.less h
  exact ⟨S.sim.less (Less.app (Less.refl _) (Less.app l (Less.refl L))), a, S.at'⟩
/-- a held operand is among the roots -/
theorem Stt.mem {h : Held} {d : DV} (S : Stt X.K Z φ env hs σ H L) (hh : h ∈ hs) (hd : h.t.now h.d env = some d) :
    ∃ n, ⟨n, d, h.v⟩ ∈ hrts hs ++ (roots φ env σ ++ L) ∧ (∀ i, h.t = .sl i → φ[i]? = some n) ∧ ∀ k, h.t = .v k → n = k := by
  obtain ⟨t, d0, v⟩ := h
  cases t with
  | v k =>
    have hd : some d0 = some d := hd
    cases hd
    refine ⟨k, List.mem_append_left _ (List.mem_flatMap.mpr ⟨_, hh, List.mem_singleton.mpr rfl⟩), (fun i e => nomatch e), fun k' e => ?_⟩
    cases e; rfl
  | sl i =>
    obtain ⟨n, v', h1, h2, p⟩ := S.al.get (i := i) hd
    have q : σ[i]? = some (some v) := S.at' _ hh
    rw [h2] at q; cases q
    refine ⟨n, List.mem_append_right _ (List.mem_append_left _ (p.mem_iff.mpr List.mem_cons_self)), fun j e => ?_, fun k e => nomatch e⟩
    cases e; exact h1
theorem Stt.memC {c : Nat} {h : Held} {d : DV} (S : Stt X.K Z φ env hs σ H L) (hh : h ∈ hs) (hd : h.t.now h.d env = some d) :
    ∃ n, n ≤ c ∧ ⟨n, d, h.v⟩ ∈ hrts (hs.map (Held.cap c)) ++ (roots (capS c (hs.map fun h => h.t.slot?) φ) env σ ++ L) := by
  have hh' : h.cap c ∈ hs.map (Held.cap c) := List.mem_map.mpr ⟨h, hh, rfl⟩
  obtain ⟨t, d0, v⟩ := h
  cases t with
  | v k =>
    obtain ⟨n, q, _, q2⟩ := (S.cap c).mem hh' hd
    exact ⟨n, by rw [q2 _ rfl]; exact Nat.min_le_left _ _, q⟩
  | sl i =>
    obtain ⟨n, q, q1, _⟩ := (S.cap c).mem hh' hd
    exact ⟨n, capS_get c (List.mem_map.mpr ⟨_, hh, rfl⟩) (q1 i rfl), q⟩
/-- the end of an operation: the operands go, the result is held -/
theorem Stt.done {k : Nat} {d : DV} {v : V} {H' : Hp} {as : List Held} (S : Stt X.K Z φ env (as ++ hs) σ H L) (h : Sim X.K Z H' (⟨k, d, v⟩ :: (hrts (as ++ hs) ++ (roots φ env σ ++ L)))) : Stt X.K Z φ env (⟨.v k, d, v⟩ :: hs) σ H' L := by
  refine ⟨h.sub (.cons_cons _ ?_), S.al, fun x hx => ?_⟩
  · refine List.Sublist.append_right ?_ _
    show (hrts hs).Sublist ((as ++ hs).flatMap Held.rt)
    rw [List.flatMap_append]
    exact List.sublist_append_right _ _
  · rcases List.mem_cons.mp hx with e | hx
    · subst e; trivial
    · exact S.at' x (List.mem_append_right _ hx)
end
end Lk
namespace Lk
open PySem PySem.Spec L2

section
variable {X : Cx} {Z : ClT} {W : WX} {φ φ1 φ2 φ3 φ' : List Nat} {t ta tb tc : Tm} {f fa fb fc : M DV} {σ : St} {H : Hp} {L : List Root} {env : Ev} {hs : List Held} {a b c e : Expr} {pos : Pos}

theorem Stt.hperm {hs' : List Held} (S : Stt X.K Z φ env hs σ H L) (p : hs.Perm hs') : Stt X.K Z φ env hs' σ H L :=
  ⟨S.sim.perm (List.Perm.append_right _ (List.Perm.flatMap_right _ p)), S.al, fun x hx => S.at' x (p.mem_iff.mpr hx)⟩
/-- the roots of a state -/
abbrev Stt.R (φ : List Nat) (env : Ev) (hs : List Held) (σ : St) (L : List Root) : List Root := hrts hs ++ (roots φ env σ ++ L)

/-! ### names, constants -/
def slotM (i : Nat) : M DV := fun e => match slot e i with
  | some d => .ok d e
  | none => .bad
theorem je_var {i : Nat} {x : Str} (hN : X.N[i]? = some x) (hv : Vis X.env.scope x) (hd : (x == ("__debug__" : Str)) = false) (hcd : (x == ("__classdict__" : Str)) = false) : JE X Z W φ (.Name x pos) φ (.sl i) (slotM i) := by
  refine pe_imp (pe_var hN hv hd hcd) fun σ H Q ⟨L, env, S, h⟩ => ?_
  unfold slotM at h
  cases q : slot env i with
  | none => rw [q] at h; exact h.elim
  | some d =>
    rw [q] at h
    obtain ⟨n, v, h1, h2, p⟩ := S.al.get q
    refine ⟨v, h2, h v H ⟨S.sim, S.al, fun x hx => ?_⟩⟩
    rw [List.mem_singleton.mp hx]
    exact h2
/-- a name whose value goes on by itself: what it holds is not owned any more -/
theorem je_varE {i : Nat} {x : Str} (hN : X.N[i]? = some x) (hv : Vis X.env.scope x) (hd : (x == ("__debug__" : Str)) = false) (hcd : (x == ("__classdict__" : Str)) = false) :
    JE X Z W φ (.Name x pos) (φ.modify i (min 0)) (.v 0) (slotM i) := by
  refine pe_imp (pe_var hN hv hd hcd) fun σ H Q ⟨L, env, S, h⟩ => ?_
  unfold slotM at h
  cases q : slot env i with
  | none => rw [q] at h; exact h.elim
  | some d =>
    rw [q] at h
    have S2 := S.less (modify_le 0 φ i)
    obtain ⟨n, v, h1, h2, p⟩ := S2.al.get q
    have hn : n = 0 := by
      rw [List.getElem?_modify] at h1
      cases q2 : φ[i]? with
      | none => rw [q2] at h1; simp at h1
      | some m => rw [q2] at h1; simp at h1; exact h1.symm
    subst hn
    refine ⟨v, h2, h v H ⟨?_, S2.al, fun x hx => ?_⟩⟩
    · exact S2.sim.dup (List.mem_append_right _ (List.mem_append_left _ (p.mem_iff.mpr List.mem_cons_self)))
    · rw [List.mem_singleton.mp hx]; trivial
theorem je_const {v : V} {d : DV} (hp : PE X e (tC v)) (hd : ∀ H, DenV X.K Z H d v []) : JE X Z W φ e φ (.v 9) (M.pure d) := by
  refine pe_imp hp fun σ H Q ⟨L, env, S, h⟩ => ?_
  refine h v H ⟨S.sim.scal (hd H), S.al, fun x hx => ?_⟩
  rw [List.mem_singleton.mp hx]; trivial

/-! ### two operands -/
def OpD (X : Cx) (Z : ClT) (F : Value → Value → Sem Value) (g : DV → DV → Option DV) (cap k : Nat) : Prop :=
  OpR X F fun x y H Q => ∃ R d e n m r, Sim X.K Z H R ∧ (⟨n, d, x⟩ : Root) ∈ R ∧ (⟨m, e, y⟩ : Root) ∈ R ∧ n ≤ cap ∧ m ≤ cap ∧ g d e = some r ∧ ∀ v H', Sim X.K Z H' (⟨k, r, v⟩ :: R) → Q v H'
def op2 (g : DV → DV → Option DV) (ta tb : Tm) (fa fb : M DV) : M DV := fun env => (fa env).bind fun d e1 => (fb e1).bind fun d' e2 =>
  match ta.now d e2, tb.now d' e2 with
  | some x, some y => (match g x y with
    | some r => .ok r e2
    | none => .bad)
  | _, _ => .bad
abbrev cap2 (cap : Nat) (ta tb : Tm) (φ : List Nat) : List Nat := capS cap [tb.slot?, ta.slot?] φ
theorem cap_slots (c : Nat) (hs : List Held) : hs.map (fun h => h.t.slot?) = hs.map (fun h => h.t.slot?) := rfl
/-- the core: both operands evaluated -/
theorem op2_core {g : DV → DV → Option DV} {cap k : Nat} {P : VK} {x y : V} {d d' : DV} (S : Stt X.K Z φ2 env [⟨tb, d', y⟩, ⟨ta, d, x⟩] σ H L)
    (h : Wish X.K Z W L (match ta.now d env, tb.now d' env with
      | some x, some y => (match g x y with
        | some r => Out.ok r env
        | none => .bad)
      | _, _ => .bad) fun r e' => ∀ v H', Stt X.K Z (cap2 cap ta tb φ2) e' [⟨.v k, r, v⟩] σ H' L → P v H') :
    ∃ R d e n m r, Sim X.K Z H R ∧ (⟨n, d, x⟩ : Root) ∈ R ∧ (⟨m, e, y⟩ : Root) ∈ R ∧ n ≤ cap ∧ m ≤ cap ∧ g d e = some r ∧ ∀ v H', Sim X.K Z H' (⟨k, r, v⟩ :: R) → P v H' := by
  cases q1 : ta.now d env with
  | none => rw [q1] at h; exact h.elim
  | some d1 =>
    cases q2 : tb.now d' env with
    | none => rw [q1, q2] at h; exact h.elim
    | some d2 =>
      rw [q1, q2] at h
      simp only at h
      cases q3 : g d1 d2 with
      | none => rw [q3] at h; exact h.elim
      | some r =>
        rw [q3] at h
        obtain ⟨n, hn, m1⟩ := S.memC (c := cap) (h := ⟨ta, d, x⟩) (List.mem_cons_of_mem _ List.mem_cons_self) q1
        obtain ⟨m, hm, m2⟩ := S.memC (c := cap) (h := ⟨tb, d', y⟩) List.mem_cons_self q2
        refine ⟨_, d1, d2, n, m, r, (S.cap cap).sim, m1, m2, hn, hm, q3, fun v H' s => h v H' ?_⟩
        exact Stt.done (as := [Held.cap cap ⟨tb, d', y⟩, Held.cap cap ⟨ta, d, x⟩]) (hs := []) (S.cap cap) s
theorem je_bin {op : Operator} {g : DV → DV → Option DV} {cap k : Nat} (ho : OpD X Z (binaryOp op) g cap k) (ha : JE X Z W φ a φ1 ta fa) (hb : JE X Z W φ1 b φ2 tb fb) :
    JE X Z W φ (.BinOp a op b pos) (cap2 cap ta tb φ2) (.v k) (op2 g ta tb fa fb) := by
  refine pe_imp (pe_op ho ha hb) fun σ H Q ⟨L, env, S, h⟩ => ?_
  refine rdE.go S (h.bind.mono fun d e1 h1 v H1 S1 => ?_)
  refine rdE.go S1 (h1.bind.mono fun d' e2 h2 u H2 S2 => ?_)
  exact op2_core S2 h2
theorem je_cmp {op : CmpOp} {g : DV → DV → Option DV} {cap k : Nat} (ho : OpD X Z (compareOp op) g cap k) (hm : behindInMarks op b = false) (ha : JE X Z W φ a φ1 ta fa) (hb : JE X Z W φ1 b φ2 tb fb) :
    JE X Z W φ (.Compare a [op] [b] pos) (cap2 cap ta tb φ2) (.v k) (op2 g ta tb fa fb) := by
  refine pe_imp (pe_cmpR ho ha hb hm) fun σ H Q ⟨L, env, S, h⟩ => ?_
  refine rdE.go S (h.bind.mono fun d e1 h1 v H1 S1 => ?_)
  refine rdE.go S1 (h1.bind.mono fun d' e2 h2 u H2 S2 => ?_)
  exact op2_core S2 h2
/-- a truth value is told by the term -/
def asB (t : Tm) (f : M DV) : M Bool := fun env => (f env).bind fun d e => match t.now d e with
  | some (.d (.bool b)) => .ok b e
  | _ => .bad
theorem Stt.isB {h : Held} {k : Bool} (S : Stt X.K Z φ env hs σ H L) (hh : h ∈ hs) (hd : h.t.now h.d env = some (.d (.bool k))) : h.v = .bl k := by
  obtain ⟨n, q, _⟩ := S.mem hh hd
  exact S.sim.bl q
theorem Stt.free {h : Held} (S : Stt X.K Z φ env (h :: hs) σ H L) : Stt X.K Z φ env hs σ H L :=
  ⟨S.sim.sub (List.Sublist.append_right (List.sublist_append_right _ _) _), S.al, fun x hx => S.at' x (List.mem_cons_of_mem _ hx)⟩
theorem jt_cmp {op : CmpOp} {g : DV → DV → Option DV} {cap k : Nat} (ho : OpD X Z (compareOp op) g cap k) (hm : behindInMarks op b = false) (ha : JE X Z W φ a φ1 ta fa) (hb : JE X Z W φ1 b φ2 tb fb) :
    JT X Z W φ (.Compare a [op] [b] pos) (cap2 cap ta tb φ2) (asB (.v k) (op2 g ta tb fa fb)) := by
  refine pt_imp (pt_cmpR ho ha hb hm) fun σ H Q ⟨L, env, S, h⟩ => ?_
  have h := h.bind
  refine rdE.go S (h.bind.mono fun d e1 h1 v H1 S1 => ?_)
  refine rdE.go S1 (h1.bind.mono fun d' e2 h2 u H2 S2 => ?_)
  refine op2_core (k := k) (P := fun x H' => ∃ k, x = .bl k ∧ Q k H') S2 (h2.mono fun r e3 h3 w H3 S3 => ?_)
  cases r with
  | d r =>
    cases r with
    | bool kb => exact ⟨kb, S3.isB List.mem_cons_self rfl, h3 H3 S3.free⟩
    | none => exact h3.elim
    | int _ => exact h3.elim
    | str _ => exact h3.elim
    | list _ => exact h3.elim
    | tuple _ => exact h3.elim
    | dict _ => exact h3.elim
  | o _ _ => exact h3.elim
  | x _ _ => exact h3.elim
  | f _ _ => exact h3.elim
  | s _ => exact h3.elim

/-! ### truth -/
def truD : DV → Option Bool
  | .d .none => some false
  | .d (.bool b) => some b
  | .d (.int i) => some (i != 0)
  | .d (.str x) => if x.length ≤ 1000000 then some ((x.length : Int) != 0) else none
  | .d (.list xs) => some (!xs.isEmpty)
  | .d (.tuple xs) => some (!xs.isEmpty)
  | _ => none
theorem isEmpty_len {α β : Type} {xs : List α} {ys : List β} (h : xs.length = ys.length) : (!xs.isEmpty) = !ys.isEmpty := by
  cases xs <;> cases ys <;> first | rfl | simp at h
theorem Stt.tru {h : Held} {d : DV} {k : Bool} (S : Stt X.K Z φ env hs σ H L) (hh : h ∈ hs) (hd : h.t.now h.d env = some d) (ht : truD d = some k) : TruV X.K h.v H k := by
  obtain ⟨n, q, _⟩ := S.mem hh hd
  cases d with
  | d d =>
    cases d with
    | none =>
      rw [S.sim.non q]
      exact (Option.some.inj ht).symm
    | bool b =>
      rw [S.sim.bl q]
      exact (Option.some.inj ht).symm
    | int i =>
      rw [S.sim.int q]
      exact (Option.some.inj ht).symm
    | str x =>
      rw [S.sim.str q]
      have ht : (if x.length ≤ 1000000 then some ((x.length : Int) != 0) else none) = some k := ht
      by_cases hx : x.length ≤ 1000000
      · rw [if_pos hx] at ht
        have hz : x.length ≤ sizeLine := by rw [sizeLine_eq]; omega
        exact ⟨hz, (Option.some.inj ht).symm⟩
      · rw [if_neg hx] at ht; cases ht
    | list ds =>
      obtain ⟨a, vs, e, hl, hn⟩ := S.sim.seeL q
      rw [e]
      exact .inl ⟨vs, .of hl, by rw [← Option.some.inj ht]; exact isEmpty_len hn⟩
    | tuple ds =>
      obtain ⟨a, vs, e, hl, hn⟩ := S.sim.seeT q
      rw [e]
      exact .inr (.inl ⟨vs, hl, by rw [← Option.some.inj ht]; exact isEmpty_len hn⟩)
    | dict _ => cases ht
  | o _ _ => cases ht
  | x _ _ => cases ht
  | f _ _ => cases ht
  | s _ => cases ht
def truM (t : Tm) (f : M DV) : M Bool := fun env => (f env).bind fun d e => match t.now d e with
  | some x => (match truD x with
    | some b => .ok b e
    | none => .bad)
  | none => .bad
/-- expressions whose test is the truth of the value -/
def plainTest : Expr → Bool
  | .UnaryOp .Not _ _ => false
  | .BoolOp .. => false
  | .IfExp .. => false
  | .Compare .. => false
  | _ => true
theorem plainTest_eq {env : PySem.Env} : ∀ {a : Expr}, plainTest a = true → ∀ whole, isTrue a env whole = (do let v ← whole; standAt a.pos; holding [v] (truthy v)) := by
  intro a h whole
  cases a <;> first | rfl | cases h | skip
  rename_i op x p
  cases op <;> first | rfl | cases h
theorem jt_truth (ha : JE X Z W φ a φ1 ta fa) (hp : plainTest a = true) : JT X Z W φ a φ1 (truM ta fa) := by
  refine pt_imp (pt_truth ha (plainTest_eq hp)) fun σ H Q ⟨L, env, S, h⟩ => ?_
  refine rdE.go S (h.bind.mono fun d e1 h1 v H1 S1 => ?_)
  cases q1 : ta.now d e1 with
  | none => rw [q1] at h1; exact h1.elim
  | some d1 =>
    rw [q1] at h1
    simp only at h1
    cases q2 : truD d1 with
    | none => rw [q2] at h1; exact h1.elim
    | some k =>
      rw [q2] at h1
      exact ⟨k, S1.tru (h := ⟨ta, d, v⟩) List.mem_cons_self q1 q2, h1 H1 S1.free⟩
def notM (f : M Bool) : M Bool := fun env => (f env).bind fun b e => .ok (!b) e
theorem jt_not {f : M Bool} (ha : JT X Z W φ a φ1 f) : JT X Z W φ (.UnaryOp .Not a pos) φ1 (notM f) := by
  refine pt_imp (pt_not ha) fun σ H Q ⟨L, env, S, h⟩ => ?_
  exact rdT.go S h.bind
def andM (f g : M Bool) : M Bool := fun env => (f env).bind fun b e => match b with
  | true => g e
  | false => .ok false e
def orM (f g : M Bool) : M Bool := fun env => (f env).bind fun b e => match b with
  | true => .ok true e
  | false => g e
/-- and, or as tests; the second operand must leave the flags (it may lessen them) -/
def JW (X : Cx) (Z : ClT) (W : WX) (φ : List Nat) (e : Expr) (φ' : List Nat) (f : M Bool) : Prop := PW X e (rdT X Z W φ φ' f)
theorem pw_imp {e : Expr} {t t' : TT} (h : PW X e t) (i : ∀ σ H Q, t' σ H Q → t σ H Q) : PW X e t' := ⟨fun wh pins s σ H Q I q => h.run wh pins s σ H Q I (i _ _ _ q)⟩
theorem jw_and1 {f : M Bool} (ha : JT X Z W φ a φ1 f) : JW X Z W φ (.BoolOp .And [a] pos) φ1 f := pw_and1 ha
theorem jw_or1 {f : M Bool} (ha : JT X Z W φ a φ1 f) : JW X Z W φ (.BoolOp .Or [a] pos) φ1 f := pw_or1 ha
theorem rdT.less {f : M Bool} {Q : Bool → Hp → Prop} (hl : leN φ2 φ1 = true) (h : rdT X Z W φ φ2 f σ H Q) : rdT X Z W φ φ1 f σ H Q := by
  obtain ⟨L, env, S, h⟩ := h
  exact ⟨L, env, S, h.mono fun b e k H' S' => k H' (S'.less hl)⟩
theorem jw_and {f g : M Bool} {rest : List Expr} (ha : JT X Z W φ a φ1 f) (hb : JW X Z W φ1 (.BoolOp .And (b :: rest) pos) φ2 g) (hl : leN φ2 φ1 = true) : JW X Z W φ (.BoolOp .And (a :: b :: rest) pos) φ2 (andM f g) := by
  refine pw_imp (pw_and ha hb) fun σ H Q ⟨L, env, S, h⟩ => ?_
  refine rdT.go S (h.bind.mono fun k e1 h1 H1 S1 => ?_)
  cases k with
  | true => exact rdT.go S1 h1
  | false => exact h1 H1 (S1.less hl)
theorem jw_or {f g : M Bool} {rest : List Expr} (ha : JT X Z W φ a φ1 f) (hb : JW X Z W φ1 (.BoolOp .Or (b :: rest) pos) φ2 g) (hl : leN φ2 φ1 = true) : JW X Z W φ (.BoolOp .Or (a :: b :: rest) pos) φ2 (orM f g) := by
  refine pw_imp (pw_or ha hb) fun σ H Q ⟨L, env, S, h⟩ => ?_
  refine rdT.go S (h.bind.mono fun k e1 h1 H1 S1 => ?_)
  cases k with
  | false => exact rdT.go S1 h1
  | true => exact h1 H1 (S1.less hl)
theorem jt_w {f : M Bool} (h : JW X Z W φ a φ1 f) : JT X Z W φ a φ1 f := h.pt
/-! .. as values: the operands are tests or bools -/
def blM (f : M Bool) : M DV := fun env => (f env).bind fun b e => .ok (.d (.bool b)) e
theorem je_one {op : BoolOp} (ha : JE X Z W φ a φ1 ta fa) : JE X Z W φ (.BoolOp op [a] pos) φ1 ta fa := pe_one ha
def andV (ta : Tm) (fa fb : M DV) : M DV := fun env => (asB ta fa env).bind fun k e => match k with
  | true => fb e
  | false => .ok (.d (.bool false)) e
def orV (ta : Tm) (fa fb : M DV) : M DV := fun env => (asB ta fa env).bind fun k e => match k with
  | true => .ok (.d (.bool true)) e
  | false => fb e
theorem asB_split {σ : St} {P : Bool → Ev → Prop} (h : Wish X.K Z W L (asB ta fa env) P) : Wish X.K Z W L (fa env) fun d e => ∃ k, ta.now d e = some (.d (.bool k)) ∧ P k e := by
  refine h.bind.mono fun d e h => ?_
  cases q : ta.now d e with
  | none => rw [q] at h; exact h.elim
  | some x =>
    rw [q] at h
    cases x with
    | d x =>
      cases x with
      | bool k => exact ⟨k, rfl, h⟩
      | none => exact h.elim
      | int _ => exact h.elim
      | str _ => exact h.elim
      | list _ => exact h.elim
      | tuple _ => exact h.elim
      | dict _ => exact h.elim
    | o _ _ => exact h.elim
    | x _ _ => exact h.elim
    | f _ _ => exact h.elim
    | s _ => exact h.elim
/-- a value by itself with flag k stands for any slotless value -/
theorem je_and {rest : List Expr} {k : Nat} (ha : JE X Z W φ a φ1 ta fa) (hb : JE X Z W φ1 (.BoolOp .And (b :: rest) pos) φ2 (.v k) fb) (hl : leN φ2 φ1 = true) :
    JE X Z W φ (.BoolOp .And (a :: b :: rest) pos) φ2 (.v k) (andV ta fa fb) := by
  refine pe_imp (pe_and ha hb) fun σ H Q ⟨L, env, S, h⟩ => ?_
  refine rdE.go S ((asB_split (σ := σ) h.bind).mono fun d e1 ⟨kb, q, h1⟩ v H1 S1 => ?_)
  refine ⟨kb, S1.isB (h := ⟨ta, d, v⟩) List.mem_cons_self q, ?_⟩
  cases kb with
  | true => exact rdE.go S1.free h1
  | false =>
    refine h1 (.bl false) H1 ⟨((S1.free.less hl).sim.scal (.d (.bl false))), (S1.free.less hl).al, fun x hx => ?_⟩
    rw [List.mem_singleton.mp hx]; trivial
theorem je_or {rest : List Expr} {k : Nat} (ha : JE X Z W φ a φ1 ta fa) (hb : JE X Z W φ1 (.BoolOp .Or (b :: rest) pos) φ2 (.v k) fb) (hl : leN φ2 φ1 = true) :
    JE X Z W φ (.BoolOp .Or (a :: b :: rest) pos) φ2 (.v k) (orV ta fa fb) := by
  refine pe_imp (pe_or ha hb) fun σ H Q ⟨L, env, S, h⟩ => ?_
  refine rdE.go S ((asB_split (σ := σ) h.bind).mono fun d e1 ⟨kb, q, h1⟩ v H1 S1 => ?_)
  refine ⟨kb, S1.isB (h := ⟨ta, d, v⟩) List.mem_cons_self q, ?_⟩
  cases kb with
  | false => exact rdE.go S1.free h1
  | true =>
    refine h1 (.bl true) H1 ⟨((S1.free.less hl).sim.scal (.d (.bl true))), (S1.free.less hl).al, fun x hx => ?_⟩
    rw [List.mem_singleton.mp hx]; trivial
def notV (ta : Tm) (fa : M DV) : M DV := blM (notM (asB ta fa))
theorem je_not (ha : JE X Z W φ a φ1 ta fa) : JE X Z W φ (.UnaryOp .Not a pos) φ1 (.v 9) (notV ta fa) := by
  refine pe_imp (pe_not ha) fun σ H Q ⟨L, env, S, h⟩ => ?_
  refine rdE.go S ((asB_split (σ := σ) h.bind.bind).mono fun d e1 ⟨kb, q, h1⟩ v H1 S1 => ?_)
  refine ⟨kb, S1.isB (h := ⟨ta, d, v⟩) List.mem_cons_self q, ?_⟩
  refine h1 (.bl (!kb)) H1 ⟨S1.free.sim.scal (.d (.bl _)), S1.free.al, fun x hx => ?_⟩
  rw [List.mem_singleton.mp hx]; trivial
/-! a if t else b -/
def ifM (ft : M Bool) (fa fb : M DV) : M DV := fun env => (ft env).bind fun k e => match k with
  | true => fa e
  | false => fb e
theorem je_if {ft : M Bool} {k ka kb : Nat} (hc : JT X Z W φ c φ1 ft) (ha : JE X Z W φ1 a φ2 (.v ka) fa) (hb : JE X Z W φ1 b φ3 (.v kb) fb) (h2 : leN φ' φ2 = true) (h3 : leN φ' φ3 = true) (k2 : k ≤ ka) (k3 : k ≤ kb) :
    JE X Z W φ (.IfExp c a b pos) φ' (.v k) (ifM ft fa fb) := by
  refine pe_imp (pe_ifExp hc ha hb) fun σ H Q ⟨L, env, S, h⟩ => ?_
  refine rdT.go S (h.bind.mono fun kb e1 h1 H1 S1 => ?_)
  have low : ∀ {e : Ev} {d : DV} {v : V} {H' : Hp} {n : Nat}, k ≤ n → Stt X.K Z φ' e [⟨.v n, d, v⟩] σ H' L → Stt X.K Z φ' e [⟨.v k, d, v⟩] σ H' L := fun {e d v H' n} hk s =>
    ⟨s.sim.weak hk, s.al, fun x hx => by rw [List.mem_singleton.mp hx]; trivial⟩
  cases kb with
  | true => exact rdE.go S1 (h1.mono fun d e2 h2' v H2 S2 => h2' v H2 (low k2 (S2.less h2)))
  | false => exact rdE.go S1 (h1.mono fun d e2 h2' v H2 S2 => h2' v H2 (low k3 (S2.less h3)))
end
end Lk
namespace Lk
open PySem PySem.Spec L2

abbrev big0 : Nat := 1000000
def unK : PyData → Option Key
  | .int i => some (.inl i)
  | .str x => some (.inr x)
  | _ => none
def unKs : List PyData → Option (List Key)
  | [] => some []
  | x :: xs => match unK x, unKs xs with
    | some k, some ks => some (k :: ks)
    | _, _ => none
def unT : PyData → Option (List Key)
  | .tuple xs => unKs xs
  | _ => none
theorem unK_eq {x : PyData} {k : Key} (h : unK x = some k) : x = keyD k := by
  unfold unK at h
  split at h <;> first | (cases h; rfl) | cases h
theorem unK_keyD (k : Key) : unK (keyD k) = some k := by cases k <;> rfl
theorem keyD_inj {k l : Key} (h : keyD k = keyD l) : k = l := by
  have := congrArg unK h
  rw [unK_keyD, unK_keyD] at this
  exact Option.some.inj this
theorem unKs_eq : ∀ {xs : List PyData} {ks : List Key}, unKs xs = some ks → xs = ks.map keyD
  | [], _, h => by cases h; rfl
  | x :: xs, ks, h => by
    unfold unKs at h
    split at h
    · rename_i k ks' h1 h2
      cases h
      rw [unK_eq h1, unKs_eq h2]; rfl
    · cases h
theorem unKs_map : ∀ ks : List Key, unKs (ks.map keyD) = some ks
  | [] => rfl
  | k :: ks => by
    show (match unK (keyD k), unKs (ks.map keyD) with
      | some k, some ks => some (k :: ks)
      | _, _ => none) = _
    rw [unK_keyD, unKs_map ks]
def keyT (ks : List Key) : PyData := .tuple (ks.map keyD)
theorem unT_eq {x : PyData} {k : List Key} (h : unT x = some k) : x = keyT k := by
  unfold unT at h
  split at h
  · rw [unKs_eq h]; rfl
  · cases h
theorem unT_keyT (k : List Key) : unT (keyT k) = some k := unKs_map k
theorem keyT_inj {k l : List Key} (h : keyT k = keyT l) : k = l := by
  have := congrArg unT h
  rw [unT_keyT, unT_keyT] at this
  exact Option.some.inj this
theorem keyD_T (k : Key) (l : List Key) : keyD k ≠ keyT l := by cases k <;> exact fun h => nomatch h

/-! ### pairs in order -/
section
variable {κ : Type} [DecidableEq κ] {α β : Type}
def valG (l : List (κ × α)) (k : κ) : Option α := (l.find? fun p => decide (p.1 = k)).map (·.2)
def putG (l : List (κ × α)) (k : κ) (v : α) : List (κ × α) := if (l.any fun p => decide (p.1 = k)) = true then l.map (fun p => if p.1 = k then (p.1, v) else p) else l ++ [(k, v)]
theorem putG_len (l : List (κ × α)) (k : κ) (v : α) : (putG l k v).length ≤ l.length + 1 := by
  unfold putG
  split
  · rw [List.length_map]; omega
  · rw [List.length_append, List.length_cons, List.length_nil]; omega
theorem any_keys (k : κ) : ∀ {l : List (κ × α)} {m : List (κ × β)}, l.map (·.1) = m.map (·.1) → (l.any fun p => decide (p.1 = k)) = (m.any fun p => decide (p.1 = k))
  | [], [], _ => rfl
  | [], _ :: _, h => by simp at h
  | _ :: _, [], h => by simp at h
  | p :: l, q :: m, h => by
    simp only [List.map_cons, List.cons.injEq] at h
    rw [List.any_cons, List.any_cons, h.1, any_keys k h.2]
theorem repl_keys (k : κ) (v : α) : ∀ l : List (κ × α), (l.map fun p => if p.1 = k then (p.1, v) else p).map (·.1) = l.map (·.1)
  | [] => rfl
  | p :: l => by
    rw [List.map_cons, List.map_cons, repl_keys k v l, List.map_cons]
    congr 1
    split <;> rfl
theorem putG_keys (k : κ) (v : α) (w : β) {l : List (κ × α)} {m : List (κ × β)} (h : l.map (·.1) = m.map (·.1)) : (putG l k v).map (·.1) = (putG m k w).map (·.1) := by
  unfold putG
  rw [any_keys k h]
  split
  · rw [repl_keys, repl_keys, h]
  · rw [List.map_append, List.map_append, h]; rfl
/-- where the key stands -/
theorem put_at (k : κ) (v : α) : ∀ {l : List (κ × α)}, (l.map (·.1)).Nodup → (l.any fun p => decide (p.1 = k)) = true → ∃ i, i < l.length ∧ ((l.map (·.1))[i]? = some k) ∧ (l.map fun p => if p.1 = k then (p.1, v) else p).map (·.2) = (l.map (·.2)).set i v
  | [], _, h => by simp at h
  | p :: l, nd, h => by
    rw [List.map_cons, List.nodup_cons] at nd
    by_cases e : p.1 = k
    · refine ⟨0, by simp, by simp [e], ?_⟩
      have q : (l.map fun p => if p.1 = k then (p.1, v) else p) = l := by
        conv => rhs; rw [← List.map_id l]
        refine List.map_congr_left fun x hx => ?_
        rw [if_neg]; rfl
        intro z
        exact nd.1 (by rw [e, ← z]; exact List.mem_map.mpr ⟨x, hx, rfl⟩)
      rw [List.map_cons, if_pos e, q]; rfl
    · rw [List.any_cons, decide_eq_false e, Bool.false_or] at h
      obtain ⟨i, h1, h2, h3⟩ := put_at k v nd.2 h
      refine ⟨i + 1, by simp; omega, by simpa using h2, ?_⟩
      rw [List.map_cons, if_neg e, List.map_cons, h3]; rfl
theorem valG_at (k : κ) : ∀ {l : List (κ × α)} {m : List (κ × β)} {x : α}, l.map (·.1) = m.map (·.1) → valG l k = some x → ∃ (i : Nat) (y : β), (l.map (·.2))[i]? = some x ∧ (m.map (·.2))[i]? = some y ∧ valG m k = some y
  | [], _, _, _, h => by cases h
  | _ :: _, [], _, h, _ => by simp at h
  | p :: l, q :: m, x, h, e => by
    simp only [List.map_cons, List.cons.injEq] at h
    unfold valG at e ⊢
    by_cases z : p.1 = k
    · rw [List.find?_cons, decide_eq_true z] at e
      rw [List.find?_cons, decide_eq_true (h.1 ▸ z)]
      exact ⟨0, q.2, by simpa using e, rfl, rfl⟩
    · rw [List.find?_cons, decide_eq_false z] at e
      rw [List.find?_cons, decide_eq_false (h.1 ▸ z)]
      obtain ⟨i, y, a, b, c⟩ := valG_at k h.2 e
      exact ⟨i + 1, y, by simpa using a, by simpa using b, c⟩
theorem valG_some (k : κ) : ∀ l : List (κ × α), (valG l k).isSome = (l.any fun p => decide (p.1 = k))
  | [] => rfl
  | p :: l => by
    have ih := valG_some k l
    unfold valG at ih ⊢
    rw [List.any_cons, List.find?_cons]
    by_cases z : p.1 = k
    · rw [decide_eq_true z]; rfl
    · rw [decide_eq_false z, Bool.false_or]; exact ih
end
/-- the keys of a dict, all ints and texts; all tuples -/
def asK : List (PyData × PyData) → Option (List (Key × PyData))
  | [] => some []
  | p :: r => match unK p.1, asK r with
    | some k, some l => some ((k, p.2) :: l)
    | _, _ => none
def asT : List (PyData × PyData) → Option (List (List Key × PyData))
  | [] => some []
  | p :: r => match unT p.1, asT r with
    | some k, some l => some ((k, p.2) :: l)
    | _, _ => none
def ofK (l : List (Key × PyData)) : List (PyData × PyData) := l.map fun p => (keyD p.1, p.2)
def ofT (l : List (List Key × PyData)) : List (PyData × PyData) := l.map fun p => (keyT p.1, p.2)
theorem asK_eq : ∀ {qs : List (PyData × PyData)} {l : List (Key × PyData)}, asK qs = some l → qs = ofK l
  | [], _, h => by cases h; rfl
  | p :: r, l, h => by
    unfold asK at h
    split at h
    · rename_i k l' h1 h2
      cases h
      rw [asK_eq h2]
      show _ = (keyD k, p.2) :: _
      rw [← unK_eq h1]; rfl
    · cases h
theorem asT_eq : ∀ {qs : List (PyData × PyData)} {l : List (List Key × PyData)}, asT qs = some l → qs = ofT l
  | [], _, h => by cases h; rfl
  | p :: r, l, h => by
    unfold asT at h
    split at h
    · rename_i k l' h1 h2
      cases h
      rw [asT_eq h2]
      show _ = (keyT k, p.2) :: _
      rw [← unT_eq h1]; rfl
    · cases h
theorem asK_of : ∀ l : List (Key × PyData), asK (ofK l) = some l
  | [] => rfl
  | p :: l => by
    show (match unK (keyD p.1), asK (ofK l) with
      | some k, some l => some ((k, p.2) :: l)
      | _, _ => none) = _
    rw [unK_keyD, asK_of l]
theorem asT_of : ∀ l : List (List Key × PyData), asT (ofT l) = some l
  | [] => rfl
  | p :: l => by
    show (match unT (keyT p.1), asT (ofT l) with
      | some k, some l => some ((k, p.2) :: l)
      | _, _ => none) = _
    rw [unT_keyT, asT_of l]
/-- what the dict holds at a key -/
def dgetP (qs : List (PyData × PyData)) (k : PyData) : Option (Option PyData) := match unK k with
  | some k => (asK qs).map fun l => valG l k
  | none => match unT k with
    | some k => (asT qs).map fun l => valG l k
    | none => none
/-- the dict with a key put -/
def dputP (qs : List (PyData × PyData)) (k v : PyData) : Option (List (PyData × PyData)) := if qs.length < big0 then match unK k with
  | some k => (asK qs).map fun l => ofK (putG l k v)
  | none => match unT k with
    | some k => (asT qs).map fun l => ofT (putG l k v)
    | none => none
  else none
theorem map_inj {α β : Type} {f : α → β} (hf : ∀ a b, f a = f b → a = b) : ∀ {l m : List α}, l.map f = m.map f → l = m
  | [], [], _ => rfl
  | [], _ :: _, h => by simp at h
  | _ :: _, [], h => by simp at h
  | a :: l, b :: m, h => by
    simp only [List.map_cons, List.cons.injEq] at h
    rw [hf a b h.1, map_inj hf h.2]
/-- the heap's keys are the data's -/
theorem keysK {l : List (Key × PyData)} {kvs : List (Key × V)} (h : (ofK l).map (·.1) = kvs.map (fun p => keyD p.1)) : l.map (·.1) = kvs.map (·.1) := by
  refine map_inj (f := keyD) (fun a b => keyD_inj) ?_
  rw [List.map_map, List.map_map]
  unfold ofK at h
  rw [List.map_map] at h
  exact h
theorem keysT {l : List (List Key × PyData)} {kvs : List (List Key × V)} (h : (ofT l).map (·.1) = kvs.map (fun p => keyT p.1)) : l.map (·.1) = kvs.map (·.1) := by
  refine map_inj (f := keyT) (fun a b => keyT_inj) ?_
  rw [List.map_map, List.map_map]
  unfold ofT at h
  rw [List.map_map] at h
  exact h
theorem keysKT {l : List (Key × PyData)} {kvs : List (List Key × V)} (h : (ofK l).map (·.1) = kvs.map (fun p => keyT p.1)) : l = [] ∧ kvs = [] := by
  cases l with
  | nil => cases kvs with
    | nil => exact ⟨rfl, rfl⟩
    | cons _ _ => simp [ofK] at h
  | cons p l => cases kvs with
    | nil => simp [ofK] at h
    | cons q kvs =>
      simp only [ofK, List.map_cons, List.cons.injEq] at h
      exact absurd h.1 (keyD_T _ _)
theorem keysTK {l : List (List Key × PyData)} {kvs : List (Key × V)} (h : (ofT l).map (·.1) = kvs.map (fun p => keyD p.1)) : l = [] ∧ kvs = [] := by
  cases l with
  | nil => cases kvs with
    | nil => exact ⟨rfl, rfl⟩
    | cons _ _ => simp [ofT] at h
  | cons p l => cases kvs with
    | nil => simp [ofT] at h
    | cons q kvs =>
      simp only [ofT, List.map_cons, List.cons.injEq] at h
      exact absurd h.1.symm (keyD_T _ _)

/-! ### dicts in the heap -/
section
variable {K : PySem.W.Frag} {Z : ClT} {H H' : Hp} {T : List Addr} {R R' : List Root}
theorem Den.keyD {k : Key} {v : V} {G : Ft} (h : Den K H (Lk.keyD k) v G) : v = kV k := by
  cases k with
  | inl i => cases h; rfl
  | inr x => cases h; rfl
theorem DenL.keysD : ∀ {ks : List Key} {vs : List V} {G : Ft}, DenL K H (ks.map Lk.keyD) vs G → vs = ks.map kV
  | [], _, _, h => by cases h; rfl
  | k :: ks, _, _, h => by
    cases h with
    | cons h1 h2 => rw [h1.keyD, DenL.keysD h2]; rfl
theorem Den.keyT {k : List Key} {v : V} {G : Ft} (h : Den K H (Lk.keyT k) v G) : ∃ b, v = .ref b ∧ H b = some (.tup (k.map kV)) := by
  cases h with
  | tup h1 h2 => exact ⟨_, rfl, by rw [h1, h2.keysD]⟩
theorem Sim.keyD {n : Nat} {k : Key} {v : V} (h : Sim K Z H R) (hr : (⟨n, .d (Lk.keyD k), v⟩ : Root) ∈ R) : v = kV k := by
  obtain ⟨G, hd⟩ := h.den hr
  cases hd with
  | d hd => exact hd.keyD
theorem Sim.keyT {n : Nat} {k : List Key} {v : V} (h : Sim K Z H R) (hr : (⟨n, .d (Lk.keyT k), v⟩ : Root) ∈ R) : ∃ b, v = .ref b ∧ H b = some (.tup (k.map kV)) := by
  obtain ⟨G, hd⟩ := h.den hr
  cases hd with
  | d hd => exact hd.keyT
theorem Sim.openD {n : Nat} {qs : List (PyData × PyData)} {v : V} (h : Sim K Z H R) (hr : (⟨n, .d (.dict qs), v⟩ : Root) ∈ R) (hn : n ≤ 1) :
    ∃ a vs, v = .ref a ∧ DicAt H a (qs.map (·.1)) vs ∧ (qs.map (·.2)).length = vs.length ∧ Sim K Z H (kids 0 (qs.map (·.2)) vs ++ R) := by
  obtain ⟨F, hF, o⟩ := id h
  obtain ⟨G, hd, q⟩ := hF.mem hr
  cases hd with
  | d hd =>
    cases hd with
    | @dic _ _ _ _ G' h1 h2 h3 =>
      refine ⟨_, _, rfl, h2 ▸ h1, h3.length, _, (SimF.kids h3).join hF, o.more fun p hp => ?_⟩
      have q' : ∀ p ∈ tag n (up G'), p ∈ F := fun p hp => q p (by rw [tag_cons]; exact List.mem_cons_of_mem _ hp)
      exact tag0_in (G := up G') q' (fun p hp => Nat.le_trans hn (mem_up hp)) p (by rw [tag0_up]; exact hp)
theorem Sim.seeD {n : Nat} {qs : List (PyData × PyData)} {v : V} (h : Sim K Z H R) (hr : (⟨n, .d (.dict qs), v⟩ : Root) ∈ R) :
    ∃ a vs, v = .ref a ∧ DicAt H a (qs.map (·.1)) vs ∧ (qs.map (·.2)).length = vs.length := by
  obtain ⟨G, hd⟩ := h.den hr
  cases hd with
  | d hd =>
    cases hd with
    | dic h1 h2 h3 => exact ⟨_, _, rfl, h2 ▸ h1, h3.length⟩
theorem Sim.apartD {n : Nat} {qs : List (PyData × PyData)} {v : V} (h : Sim K Z H (⟨n + 1, .d (.dict qs), v⟩ :: R)) :
    ∃ a vs, v = .ref a ∧ DicAt H a (qs.map (·.1)) vs ∧ (qs.map (·.2)).length = vs.length ∧ SimT K Z H [a] (kids n (qs.map (·.2)) vs ++ R) := by
  obtain ⟨F, ⟨G, F1, hd, hF, rfl⟩, o⟩ := h
  cases hd with
  | d hd =>
    cases hd with
    | dic h1 h2 h3 =>
      refine ⟨_, _, rfl, h2 ▸ h1, h3.length, _, (SimF.kids h3).join hF, ?_⟩
      rw [tag_cons, tag_up] at o
      exact o
theorem DicAt.notTup {a : Addr} {ks : List PyData} {vs : List V} (h : DicAt H a ks vs) : (∀ us, H a ≠ some (.tup us)) ∧ ∀ o u, H a ≠ some (.frz o u) := by
  rcases h with ⟨kvs, q, _⟩ | ⟨kvs, q, _⟩ <;> exact ⟨(fun us e => by rw [q] at e; cases e), (fun o u e => by rw [q] at e; cases e)⟩
theorem SimT.closeD {n : Nat} {a : Addr} {qs : List (PyData × PyData)} {vs ws : List V} {ks : List PyData} {ob : HO} (h : SimT K Z H [a] (kids n (qs.map (·.2)) vs ++ R)) (e : (qs.map (·.2)).length = vs.length) (ha : DicAt H a ks ws) (hn : DicAt (upd H a ob) a (qs.map (·.1)) vs) :
    Sim K Z (upd H a ob) (⟨n + 1, .d (.dict qs), .ref a⟩ :: R) := by
  have h2 := h.write (ob := ob) ha.notTup.1 ha.notTup.2
  obtain ⟨F, hF, o⟩ := h2
  obtain ⟨F1, F2, q1, q2, rfl⟩ := hF.append
  obtain ⟨G, hl, rfl⟩ := q1.ofKids e
  refine ⟨(a, true) :: (tag n G ++ F2), ⟨(a, 0) :: up G, F2, .d (.dic hn rfl hl), q2, ?_⟩, o⟩
  rw [tag_cons, tag_up]
  rfl
/-- {} -/
theorem Sim.mkD {n : Nat} {p : Addr} (h : Sim K Z H R) (hp : H p = none) : Sim K Z (upd H p (.dK [])) (⟨n + 1, .d (.dict []), .ref p⟩ :: R) := by
  obtain ⟨F, hF, o⟩ := h.fresh (ob := .dK []) hp
  refine ⟨(p, true) :: F, ⟨[(p, 0)], F, .d (.dic (G := []) (.inl ⟨[], upd_same, rfl, rfl⟩) rfl .nil), hF, ?_⟩, o⟩
  rw [tag_cons]; rfl
end
section
variable {X : Cx} {pins : List (Addr × Obj)} {σ : St} {H : Hp} {s : Shared} {a : Addr} {A : Around} {E : Value → Shared → Prop}
/-- the empty dict is of either kind -/
theorem d_toT (I : Inv X pins σ H s) (e : H a = some (.dK [])) : Inv X pins σ (upd H a (.dT [])) s := by
  obtain ⟨z, hd, vs, rel, o, es, ep, h1, h2, h3, _, h4, _⟩ := dk_of I.hok e
  have e2 : vs = [] := by cases rel; rfl
  subst e2
  have e3 : es.toList = [] := by
    generalize es.toList = l at h4
    cases h4; rfl
  exact d_write (t' := s.toks) I (by rw [e]; exact True.intro) (Heap.SameBut.refl _ _) ⟨o, h1⟩ ⟨Nat.zero_le _, hd, [], .nil, o, es, ep, h1, h2, h3, by rw [e3]; rfl, List.nodup_nil⟩
theorem d_toK (I : Inv X pins σ H s) (e : H a = some (.dT [])) : Inv X pins σ (upd H a (.dK [])) s := by
  obtain ⟨z, hd, xs, rel, o, es, ep, h1, h2, h3, h4, _⟩ := dt_of I.hok e
  have e2 : xs = [] := by cases rel; rfl
  subst e2
  have e3 : es = #[] := by
    apply Array.ext'
    exact h4
  subst e3
  have new : Heap.DictOf (mixKind X.prog X.w) s.heap a [] := by
    exact ⟨o, #[], ep, h1, h2, h3, (fun _ he => by simp at he), Pairs.nil, List.nodup_nil⟩
  exact d_write (t' := s.toks) I (by rw [e]; exact True.intro) (Heap.SameBut.refl _ _) ⟨o, h1⟩ (dk_new (Nat.zero_le _) hd .nil new)
theorem upd_back {o u : HO} (e : H a = some o) : upd (upd H a u) a o = H := by
  funext b
  by_cases hb : b = a
  · subst hb; rw [upd_same, e]
  · rw [upd_ne hb, upd_ne hb]
def rSetD : TSet := fun o i v H Q => ∃ a, o = V.ref a ∧
  ((∃ (kvs : List (Key × V)) (k : Key), (H a = some (.dK kvs) ∨ (H a = some (.dT []) ∧ kvs = [])) ∧ i = kV k ∧ kvs.length < sizeLine ∧ ((kvs.map (·.1)).Nodup → Q (upd H a (.dK (putK kvs k v))))) ∨
   ∃ (kvs : List (List Key × V)) (k : List Key) (b : Addr), (H a = some (.dT kvs) ∨ (H a = some (.dK []) ∧ kvs = [])) ∧ i = .ref b ∧ H b = some (.tup (k.map kV)) ∧ kvs.length < sizeLine ∧ ((kvs.map (·.1)).Nodup → Q (upd H a (.dT (putK kvs k v)))))
theorem dk_nodup {kvs : List (Key × V)} (I : Inv X pins σ H s) (e : H a = some (.dK kvs)) : (kvs.map (·.1)).Nodup := by
  obtain ⟨z, hd, vs, rel, o, es, ep, h1, h2, h3, _, h4, nd⟩ := dk_of I.hok e
  rw [rel.keys]; exact nd
theorem dt_keys {H : Hp} {kvs : List (List Key × V)} {xs : List (List Key × Addr × Value)} (r : KT H kvs xs) : kvs.map (·.1) = xs.map (·.1) := by
  induction r with
  | nil => rfl
  | cons h t ih => rw [List.map_cons, List.map_cons, h.1, ih]
theorem dt_nodup {kvs : List (List Key × V)} (I : Inv X pins σ H s) (e : H a = some (.dT kvs)) : (kvs.map (·.1)).Nodup := by
  obtain ⟨z, hd, xs, rel, o, es, ep, h1, h2, h3, h4, nd⟩ := (show ObjOk X.prog X.w H s.heap a (.dT kvs) from rd_of I.hok (.inl e))
  rw [dt_keys rel]; exact nd
theorem set_dict (hu : X.A.units + 1 < cLine) : PSet X rSetD := by
  intro pins s σ H o i v ov iv u Q I ro ri rv h
  obtain ⟨a, rfl, h⟩ := h
  obtain rfl : ov = Value.ref a := ro
  rcases h with ⟨kvs, k, e, rfl, hl, q⟩ | ⟨kvs, k, b, e, rfl, eb, hl, q⟩
  · rcases e with e | ⟨e, rfl⟩
    · exact d_setItem hu I (DPut.k e hl) ri rv fun s' I' => ⟨_, I', q (dk_nodup I e)⟩
    · refine d_setItem hu (d_toK I e) (DPut.k upd_same hl) ri rv fun s' I' => ⟨_, I', ?_⟩
      rw [upd_upd]; exact q List.nodup_nil
  · rcases e with e | ⟨e, rfl⟩
    · exact d_setItem hu I (DPut.t e eb hl) ri rv fun s' I' => ⟨_, I', q (dt_nodup I e)⟩
    · refine d_setItem hu (d_toT I e) (DPut.t upd_same (by rw [upd_ne (ne_of eb e (fun z => nomatch z))]; exact eb) hl) ri rv fun s' I' => ⟨_, I', ?_⟩
      rw [upd_upd]; exact q List.nodup_nil
/-- d[y], there -/
def rIxD : R2 := fun x y H Q => ∃ a v, x = .ref a ∧ DGet H a y (some v) ∧ Q v H
theorem ix_dict (hu : X.A.units + 3 < cLine) : IxR X rIxD := by
  intro vl sl pins s σ H x y v u Q I rx ry h hs
  obtain ⟨a, z, rfl, g, q⟩ := h
  obtain rfl : v = Value.ref a := rx
  have hT := dict_typeIs I g
  unfold PyProof.Rows.subscriptTail
  refine wpAny_bind ?_
  rw [getitemInPython_of_ne hT.not_modules]
  refine wpAny_bind (wpAny_specialOf hT PySem.F.slot_dict_getitem.lookup ?_)
  have fin : wpAny (model X.prog X.w) X.A (subscripted sl false (.ref a) u) (fun r s₃ => wpAny (model X.prog X.w) X.A (letTemporaryGo vl (.ref a) r >>= fun _ => pure r) (EP X pins σ Q) X.xe s₃) X.xe s := by
    rw [hs]
    exact wpAny_operating (d_getItem (by omega) I g ry fun w' s' I' rw' => wpAny_bind (wpAny_letTemporaryGo (wpAny_pure ⟨z, H, I', rw', q⟩)))
  first
    | exact wpAny_pure (wpAny_bind fin)
    | exact wpAny_bind (wpAny_pure (wpAny_bind fin))
    | exact wpAny_bind fin
end
section
variable {X : Cx} {Z : ClT} {H : Hp} {R : List Root}
/-- what the heap's dict holds at a key -/
def DHas (H : Hp) (a : Addr) (y : V) (b : Bool) : Prop := (∃ o : Option V, DGet H a y o ∧ o.isSome = b) ∨ (b = false ∧ H a = some (.dT []) ∧ ∃ k : Key, y = kV k) ∨ (b = false ∧ H a = some (.dK []) ∧ ∃ (k : List Key) (c : Addr), y = V.ref c ∧ H c = some (.tup (k.map kV)))
theorem dgetP_cases {qs : List (PyData × PyData)} {k : PyData} {r : Option PyData} (h : dgetP qs k = some r) :
    (∃ k' l, k = keyD k' ∧ qs = ofK l ∧ r = valG l k') ∨ ∃ k' l, k = keyT k' ∧ qs = ofT l ∧ r = valG l k' := by
  unfold dgetP at h
  split at h
  · rename_i k' e
    obtain ⟨l, q, rfl⟩ := Option.map_eq_some_iff.mp h
    exact .inl ⟨k', l, unK_eq e, asK_eq q, rfl⟩
  · split at h
    · rename_i k' e
      obtain ⟨l, q, rfl⟩ := Option.map_eq_some_iff.mp h
      exact .inr ⟨k', l, unT_eq e, asT_eq q, rfl⟩
    · cases h
theorem ofK_snd (l : List (Key × PyData)) : (ofK l).map (·.2) = l.map (·.2) := by unfold ofK; rw [List.map_map]; rfl
theorem ofT_snd (l : List (List Key × PyData)) : (ofT l).map (·.2) = l.map (·.2) := by unfold ofT; rw [List.map_map]; rfl
theorem Sim.dget {n m : Nat} {qs : List (PyData × PyData)} {k d : PyData} {x y : V} (S : Sim X.K Z H R) (h1 : (⟨n, .d (.dict qs), x⟩ : Root) ∈ R) (h2 : (⟨m, .d k, y⟩ : Root) ∈ R) (hn : n ≤ 1) (h : dgetP qs k = some (some d)) :
    ∃ a v, x = .ref a ∧ DGet H a y (some v) ∧ Sim X.K Z H (⟨0, .d d, v⟩ :: R) := by
  obtain ⟨a, vs, rfl, q1, q2, q3⟩ := S.openD h1 hn
  rcases dgetP_cases h with ⟨k', l, rfl, rfl, e⟩ | ⟨k', l, rfl, rfl, e⟩
  · have ey := S.keyD h2
    rw [ofK_snd] at q2 q3
    rcases q1 with ⟨kvs, g1, g2, rfl⟩ | ⟨kvs, g1, g2, rfl⟩
    · obtain ⟨i, v, e1, e2, e3⟩ := valG_at k' (keysK g2) e.symm
      exact ⟨a, v, rfl, .inl ⟨kvs, k', .of g1, ey, e3.symm⟩, q3.kid e1 e2⟩
    · obtain ⟨rfl, rfl⟩ := keysKT g2
      cases e
  · obtain ⟨b, ey, eb⟩ := S.keyT h2
    rw [ofT_snd] at q2 q3
    rcases q1 with ⟨kvs, g1, g2, rfl⟩ | ⟨kvs, g1, g2, rfl⟩
    · obtain ⟨rfl, rfl⟩ := keysTK g2
      cases e
    · obtain ⟨i, v, e1, e2, e3⟩ := valG_at k' (keysT g2) e.symm
      exact ⟨a, v, rfl, .inr ⟨kvs, k', b, .of g1, ey, eb, e3.symm⟩, q3.kid e1 e2⟩
theorem Sim.dhas {n m : Nat} {qs : List (PyData × PyData)} {k : PyData} {r : Option PyData} {x y : V} (S : Sim X.K Z H R) (h1 : (⟨n, .d (.dict qs), x⟩ : Root) ∈ R) (h2 : (⟨m, .d k, y⟩ : Root) ∈ R) (h : dgetP qs k = some r) :
    ∃ a, x = .ref a ∧ DHas H a y r.isSome := by
  obtain ⟨a, vs, rfl, q1, q2⟩ := S.seeD h1
  refine ⟨a, rfl, ?_⟩
  rcases dgetP_cases h with ⟨k', l, rfl, rfl, e⟩ | ⟨k', l, rfl, rfl, e⟩
  · have ey := S.keyD h2
    rcases q1 with ⟨kvs, g1, g2, rfl⟩ | ⟨kvs, g1, g2, rfl⟩
    · refine .inl ⟨valG kvs k', .inl ⟨kvs, k', .of g1, ey, rfl⟩, ?_⟩
      rw [e, valG_some, valG_some, any_keys k' (keysK g2)]
    · obtain ⟨rfl, rfl⟩ := keysKT g2
      exact .inr (.inl ⟨by rw [e]; rfl, g1, k', ey⟩)
  · obtain ⟨b, ey, eb⟩ := S.keyT h2
    rcases q1 with ⟨kvs, g1, g2, rfl⟩ | ⟨kvs, g1, g2, rfl⟩
    · obtain ⟨rfl, rfl⟩ := keysTK g2
      exact .inr (.inr ⟨by rw [e]; rfl, g1, k', b, ey, eb⟩)
    · refine .inl ⟨valG kvs k', .inr ⟨kvs, k', b, .of g1, ey, eb, rfl⟩, ?_⟩
      rw [e, valG_some, valG_some, any_keys k' (keysT g2)]
theorem dhas_in {pins : List (Addr × Obj)} {σ : St} {s : Shared} {a : Addr} {A : Around} {E : Value → Shared → Prop} {y : V} {u : Value} {b : Bool} {Q : Value → Shared → Prop} (hu : A.units + 1 < cLine) (I : Inv X pins σ H s) (g : DHas H a y b) (ry : RelV y u)
    (h : ∀ s', Inv X pins σ H s' → Q (.bool b) s') : wpAny (model X.prog X.w) A (compareOp .In u (.ref a)) Q E s := by
  rcases g with ⟨o, g, e⟩ | ⟨rfl, e, k, rfl⟩ | ⟨rfl, e, k, c, rfl, ec⟩
  · refine d_in hu I g ry fun s' I' => ?_
    rw [e]; exact h s' I'
  · refine d_in hu (d_toK I e) (DGet.k (k := k) upd_same) ry fun s' I' => h s' ?_
    have := d_toT I' upd_same
    rwa [upd_back e] at this
  · refine d_in hu (d_toT I e) (DGet.t (k := k) upd_same (by rw [upd_ne (ne_of ec e (fun z => nomatch z))]; exact ec)) ry fun s' I' => h s' ?_
    have := d_toK I' upd_same
    rwa [upd_back e] at this
theorem dhas_notIn {pins : List (Addr × Obj)} {σ : St} {s : Shared} {a : Addr} {A : Around} {E : Value → Shared → Prop} {y : V} {u : Value} {b : Bool} {Q : Value → Shared → Prop} (hu : A.units + 1 < cLine) (I : Inv X pins σ H s) (g : DHas H a y b) (ry : RelV y u)
    (h : ∀ s', Inv X pins σ H s' → Q (.bool !b) s') : wpAny (model X.prog X.w) A (compareOp .NotIn u (.ref a)) Q E s := by
  rcases g with ⟨o, g, e⟩ | ⟨rfl, e, k, rfl⟩ | ⟨rfl, e, k, c, rfl, ec⟩
  · refine d_notIn hu I g ry fun s' I' => ?_
    rw [e]; exact h s' I'
  · refine d_notIn hu (d_toK I e) (DGet.k (k := k) upd_same) ry fun s' I' => h s' ?_
    have := d_toT I' upd_same
    rwa [upd_back e] at this
  · refine d_notIn hu (d_toT I e) (DGet.t (k := k) upd_same (by rw [upd_ne (ne_of ec e (fun z => nomatch z))]; exact ec)) ry fun s' I' => h s' ?_
    have := d_toK I' upd_same
    rwa [upd_back e] at this
end
end Lk
namespace Lk
open PySem PySem.Spec L2

abbrev big : Nat := 1000000
theorem big_line {n : Nat} (h : n ≤ big) : n ≤ sizeLine := by rw [sizeLine_eq]; unfold big at h; omega
def lift2 (g : PyData → PyData → Option PyData) : DV → DV → Option DV
  | .d x, .d y => (g x y).map .d
  | _, _ => none
def lift1 (g : PyData → Option PyData) : DV → Option DV
  | .d x => (g x).map .d
  | _ => none

/-! ### the operations -/
def addP : PyData → PyData → Option PyData
  | .int i, .int j => some (.int (i + j))
  | .str x, .str y => if x.length + y.length ≤ big then some (.str (x ++ y)) else none
  | .list xs, .list ys => if xs.length + ys.length ≤ big then some (.list (xs ++ ys)) else none
  | .tuple xs, .tuple ys => if xs.length + ys.length ≤ big then some (.tuple (xs ++ ys)) else none
  | _, _ => none
def subP : PyData → PyData → Option PyData
  | .int i, .int j => some (.int (i - j))
  | _, _ => none
def mulP : PyData → PyData → Option PyData
  | .int i, .int j => if (-(2 ^ 64) < i ∧ i < 2 ^ 64) ∨ (-(2 ^ 64) < j ∧ j < 2 ^ 64) then some (.int (i * j)) else none
  | _, _ => none
def mulQ : PyData → PyData → Option PyData
  | .list xs, .int k => if -(2 ^ 63) ≤ k ∧ k < 2 ^ 63 ∧ xs.length * k.toNat ≤ big then some (.list (List.replicate k.toNat xs).flatten) else none
  | x, y => mulP x y
def divP : PyData → PyData → Option PyData
  | .int i, .int j => if 0 < j ∧ j < 1073741824 then some (.int (i / j)) else none
  | _, _ => none
def modP : PyData → PyData → Option PyData
  | .int i, .int j => if 0 < j then some (.int (i % j)) else none
  | _, _ => none
def powP : PyData → PyData → Option PyData
  | .int i, .int j => if 0 ≤ j ∧ j ≤ 1000000 ∧ i.natAbs < 2 ^ 64 then some (.int (i ^ j.toNat)) else none
  | _, _ => none
def shlP : PyData → PyData → Option PyData
  | .int i, .int j => if 0 ≤ j ∧ j ≤ 1000000 ∧ i.natAbs < 2 ^ 64 then some (.int (i * 2 ^ j.toNat)) else none
  | _, _ => none
def shrP : PyData → PyData → Option PyData
  | .int i, .int j => if 0 ≤ j then some (.int (i / 2 ^ j.toNat)) else none
  | _, _ => none
def andP : PyData → PyData → Option PyData
  | .int i, .int j => some (.int (Builtin.bitAnd i j))
  | _, _ => none
def borP : PyData → PyData → Option PyData
  | .int i, .int j => some (.int (Builtin.bitOr i j))
  | _, _ => none
def xorP : PyData → PyData → Option PyData
  | .int i, .int j => some (.int (Builtin.bitXor i j))
  | _, _ => none
/-- two texts -/
def bothS : PyData → PyData → Bool
  | .str _, .str _ => true
  | _, _ => false
def eqP (x y : PyData) : Option PyData := if bothS x y || (SeqAt.shaped x && SeqAt.shaped y) then some (.bool (PyData.eqv x y)) else none
def neP (x y : PyData) : Option PyData := if bothS x y || (SeqAt.shaped x && SeqAt.shaped y) then some (.bool (!PyData.eqv x y)) else none
theorem bothS_eq {x y : PyData} (h : bothS x y = true) : ∃ a b, x = .str a ∧ y = .str b := by
  unfold bothS at h
  split at h
  · exact ⟨_, _, rfl, rfl⟩
  · cases h
theorem eqv_strs {a b : Str} : PyData.eqv (.str a) (.str b) = decide (V.str a = V.str b) := by
  rw [dec_str]
  simp [PyData.eqv]
def inP (x : PyData) : PyData → Option PyData
  | .list ys => if SeqAt.shaped x && SeqAt.shaped (.list ys) then some (.bool (ys.any fun z => PyData.eqv z x)) else none
  | .tuple ys => if SeqAt.shaped x && SeqAt.shaped (.tuple ys) then some (.bool (ys.any fun z => PyData.eqv z x)) else none
  | .str y => match x with
    | .str x => some (.bool (!(Builtin.Str.occurrences y x 0 y.length 1).isEmpty))
    | _ => none
  | .dict qs => (dgetP qs x).map fun o => .bool o.isSome
  | _ => none
def notP : PyData → Option PyData
  | .bool b => some (.bool (!b))
  | _ => none
def notInP (x y : PyData) : Option PyData := (inP x y).bind notP
def isP : PyData → PyData → Option PyData
  | x, .none => match x with
    | .none => some (.bool true)
    | _ => some (.bool false)
  | .bool a, .bool b => some (.bool (decide (a = b)))
  | _, _ => none
def isNotP (x y : PyData) : Option PyData := (isP x y).bind notP
/-- the index of a place, from behind if below 0 -/
def ixP : PyData → PyData → Option PyData
  | .list xs, .int i => atI xs i
  | .tuple xs, .int i => atI xs i
  | .str x, .int i => if x.length ≤ big then (atI x.cps.toList i).map fun c => .str ⟨#[c]⟩ else none
  | .dict qs, k => (dgetP qs k).bind id
  | _, _ => none
def ixD : DV → DV → Option DV
  | .s ns, .d (.int i) => (atI ns i).map fun n => .d (.int n)
  | .d x, .d y => (ixP x y).map .d
  | _, _ => none

section
variable {X : Cx} {Z : ClT} {H H' : Hp} {R : List Root}
theorem opd_lift {F : Value → Value → Sem Value} {g : PyData → PyData → Option PyData} {cap k : Nat}
    (h : ∀ (pins : List (Addr × Obj)) (s : Shared) (σ : St) (H : Hp) (x y : V) (v u : Value) (Q : VK) (p q r : PyData) (R : List Root) (n m : Nat), Inv X pins σ H s → RelV x v → RelV y u → Sim X.K Z H R → (⟨n, .d p, x⟩ : Root) ∈ R → (⟨m, .d q, y⟩ : Root) ∈ R →
      n ≤ cap → m ≤ cap → g p q = some r → (∀ w H', Sim X.K Z H' (⟨k, .d r, w⟩ :: R) → Q w H') → wpAny (model X.prog X.w) X.A (F v u) (EP X pins σ Q) X.xe s) : OpD X Z F (lift2 g) cap k := by
  intro pins s σ H x y v u Q I rx ry ⟨R, d, e, n, m, r, S, h1, h2, hn, hm, hg, hq⟩
  cases d with
  | d p =>
    cases e with
    | d q =>
      have hg : (g p q).map DV.d = some r := hg
      cases q3 : g p q with
      | none => rw [q3] at hg; cases hg
      | some r' =>
        rw [q3] at hg
        cases hg
        exact h pins s σ H x y v u Q p q r' R n m I rx ry S h1 h2 hn hm q3 hq
    | _ => cases hg
  | _ => cases hg
theorem Sim.cint {k : Nat} {i : Int} (S : Sim X.K Z H R) : Sim X.K Z H (⟨k, .d (.int i), .int i⟩ :: R) := S.scal (.d (.int i))
theorem Sim.cbl {k : Nat} {i : Bool} (S : Sim X.K Z H R) : Sim X.K Z H (⟨k, .d (.bool i), .bl i⟩ :: R) := S.scal (.d (.bl i))
theorem Sim.cstr {k : Nat} {i : Str} (S : Sim X.K Z H R) : Sim X.K Z H (⟨k, .d (.str i), .str i⟩ :: R) := S.scal (.d (.str i))
theorem kids_append {m : Nat} : ∀ {ds es : List PyData} {vs us : List V}, ds.length = vs.length → kids m (ds ++ es) (vs ++ us) = kids m ds vs ++ kids m es us := fun {ds es vs us} h => by
  unfold kids
  exact List.zipWith_append h

theorem op_addD : OpD X Z (binaryOp .Add) (lift2 addP) 1 1 := opd_lift fun pins s σ H x y v u Q p q r R n m I rx ry S h1 h2 hn hm hg hq => by
  cases p with
  | int i =>
    cases q with
    | int j =>
      cases hg
      rw [S.int h1] at rx; rw [S.int h2] at ry
      exact op_add pins s σ H _ _ v u Q I rx ry ⟨i, j, rfl, rfl, hq _ _ S.cint⟩
    | _ => cases hg
  | str a =>
    cases q with
    | str b =>
      have hg : (if a.length + b.length ≤ big then some (PyData.str (a ++ b)) else none) = some r := hg
      split at hg
      · rename_i hl
        cases hg
        rw [S.str h1] at rx; rw [S.str h2] at ry
        exact op_add_str pins s σ H _ _ v u Q I rx ry ⟨a, b, rfl, rfl, big_line hl, hq _ _ S.cstr⟩
      · cases hg
    | _ => cases hg
  | list a =>
    cases q with
    | list b =>
      have hg : (if a.length + b.length ≤ big then some (PyData.list (a ++ b)) else none) = some r := hg
      split at hg
      · rename_i hl
        cases hg
        obtain ⟨l1, vs1, rfl, e1, n1, S1⟩ := S.openL h1 hn
        obtain ⟨l2, vs2, rfl, e2, n2, S2⟩ := S1.openL (List.mem_append_right _ h2) hm
        refine op_cat pins s σ H _ _ v u Q I rx ry ⟨l1, l2, vs1, vs2, rfl, rfl, e1, e2, big_line (by omega), fun p hp => hq _ _ ?_⟩
        refine Sim.mkL (n := 0) (S2.perm ?_) (by simp [n1, n2]) hp
        rw [kids_append n1, ← List.append_assoc]
        exact List.Perm.append_right _ List.perm_append_comm
      · cases hg
    | _ => cases hg
  | tuple a =>
    cases q with
    | tuple b =>
      have hg : (if a.length + b.length ≤ big then some (PyData.tuple (a ++ b)) else none) = some r := hg
      split at hg
      · rename_i hl
        cases hg
        obtain ⟨l1, vs1, rfl, e1, n1, S1⟩ := S.openT h1 hn
        obtain ⟨l2, vs2, rfl, e2, n2, S2⟩ := S1.openT (List.mem_append_right _ h2) hm
        refine op_catA pins s σ H _ _ v u Q I rx ry ⟨l1, l2, vs1, vs2, rfl, rfl, e1, e2, big_line (by omega), fun z => ?_, fun z z2 => ?_, fun _ _ p hp => hq _ _ ?_⟩
        · subst z
          have : a = [] := List.eq_nil_of_length_eq_zero n1
          subst this
          exact hq _ _ (S.again h2 hm)
        · subst z2
          have : b = [] := List.eq_nil_of_length_eq_zero n2
          subst this
          rw [List.append_nil] at hq
          exact hq _ _ (S.again h1 hn)
        · refine Sim.mkT (n := 0) (S2.perm ?_) (by simp [n1, n2]) hp
          rw [kids_append n1, ← List.append_assoc]
          exact List.Perm.append_right _ List.perm_append_comm
      · cases hg
    | _ => cases hg
  | _ => cases hg

/-! ### ints -/
theorem opd_int {F : Value → Value → Sem Value} {g : PyData → PyData → Option PyData} {C : Int → Int → Prop} {h : Int → Int → Int} {k : Nat} (ho : OpR X F (rI C fun i j => .int (h i j)))
    (hg : ∀ p q r, g p q = some r → ∃ i j, p = .int i ∧ q = .int j ∧ C i j ∧ r = .int (h i j)) : OpD X Z F (lift2 g) 9 k := opd_lift fun pins s σ H x y v u Q p q r R n m I rx ry S h1 h2 hn hm hgr hq => by
  obtain ⟨i, j, rfl, rfl, hc, rfl⟩ := hg _ _ _ hgr
  rw [S.int h1] at rx; rw [S.int h2] at ry
  exact ho pins s σ H _ _ v u Q I rx ry ⟨i, j, rfl, rfl, hc, hq _ _ S.cint⟩
theorem rI_of0 {F : Value → Value → Sem Value} {h : Int → Int → V} (ho : OpR X F (rI0 h)) : OpR X F (rI (fun _ _ => True) h) := fun pins s σ H x y v u Q I rx ry ⟨i, j, e1, e2, _, q⟩ => ho pins s σ H x y v u Q I rx ry ⟨i, j, e1, e2, q⟩
theorem op_subD : OpD X Z (binaryOp .Sub) (lift2 subP) 9 9 := opd_int (rI_of0 op_sub) fun p q r h => by
  unfold subP at h
  split at h
  · cases h; exact ⟨_, _, rfl, rfl, trivial, rfl⟩
  · cases h
theorem op_mulD : OpD X Z (binaryOp .Mult) (lift2 mulP) 9 9 := opd_int op_mul fun p q r h => by
  unfold mulP at h
  split at h
  · split at h
    · rename_i hc
      cases h; exact ⟨_, _, rfl, rfl, hc, rfl⟩
    · cases h
  · cases h
theorem rep_kids {a : Addr} {n : Nat} {xs : List PyData} {vs : List V} (S : Sim X.K Z H R) (h : (⟨n, .d (.list xs), .ref a⟩ : Root) ∈ R) (hn : n ≤ 1) (ha : H a = some (.lst vs)) : ∀ k : Nat, Sim X.K Z H (kids 0 (List.replicate k xs).flatten (List.replicate k vs).flatten ++ R) ∧ ((List.replicate k xs).flatten).length = ((List.replicate k vs).flatten).length
  | 0 => ⟨S, rfl⟩
  | k + 1 => by
    obtain ⟨q1, q2⟩ := rep_kids S h hn ha k
    obtain ⟨a', vs', e, h1, hl, S2⟩ := q1.openL (List.mem_append_right _ h) hn
    cases e
    rw [ha] at h1
    cases h1
    rw [List.replicate_succ, List.replicate_succ, List.flatten_cons, List.flatten_cons, kids_append hl, List.append_assoc]
    exact ⟨S2, by rw [List.length_append, List.length_append, hl, q2]⟩
theorem op_mulDD : OpD X Z (binaryOp .Mult) (lift2 mulQ) 1 1 := opd_lift fun pins s σ H x y v u Q p q r R n m I rx ry S h1 h2 hn hm hgr hq => by
  have viaI : mulP p q = some r → wpAny (model X.prog X.w) X.A (binaryOp .Mult v u) (EP X pins σ Q) X.xe s := fun hgr => by
    unfold mulP at hgr
    split at hgr
    · split at hgr
      · rename_i hc
        cases hgr
        rw [S.int h1] at rx; rw [S.int h2] at ry
        exact op_mul pins s σ H _ _ v u Q I rx ry ⟨_, _, rfl, rfl, hc, hq _ _ S.cint⟩
      · cases hgr
    · cases hgr
  unfold mulQ at hgr
  split at hgr
  · rename_i xs k
    split at hgr
    · rename_i hc
      cases hgr
      obtain ⟨a, vs, rfl, ha, hl⟩ := S.seeL h1
      rw [S.int h2] at ry
      obtain ⟨q1, q2⟩ := rep_kids S h1 hn ha k.toNat
      exact op_rep pins s σ H _ _ v u Q I rx ry ⟨a, k, vs, rfl, rfl, ha, hc.1, hc.2.1, by rw [← hl]; exact big_line hc.2.2, fun b hb => hq _ _ (Sim.mkL (n := 0) q1 q2 hb)⟩
    · cases hgr
  · exact viaI hgr
theorem op_divD : OpD X Z (binaryOp .FloorDiv) (lift2 divP) 9 9 := opd_int op_fdiv fun p q r h => by
  unfold divP at h
  split at h
  · split at h
    · rename_i hc
      cases h; exact ⟨_, _, rfl, rfl, hc, rfl⟩
    · cases h
  · cases h
theorem op_modD : OpD X Z (binaryOp .Mod) (lift2 modP) 9 9 := opd_int op_mod fun p q r h => by
  unfold modP at h
  split at h
  · split at h
    · rename_i hc
      cases h; exact ⟨_, _, rfl, rfl, hc, rfl⟩
    · cases h
  · cases h
theorem op_powD : OpD X Z (binaryOp .Pow) (lift2 powP) 9 9 := opd_int op_pow fun p q r h => by
  unfold powP at h
  split at h
  · split at h
    · rename_i hc
      cases h; exact ⟨_, _, rfl, rfl, hc, rfl⟩
    · cases h
  · cases h
theorem op_shlD : OpD X Z (binaryOp .LShift) (lift2 shlP) 9 9 := opd_int op_shl fun p q r h => by
  unfold shlP at h
  split at h
  · split at h
    · rename_i hc
      cases h; exact ⟨_, _, rfl, rfl, hc, rfl⟩
    · cases h
  · cases h
theorem op_shrD : OpD X Z (binaryOp .RShift) (lift2 shrP) 9 9 := opd_int op_shr fun p q r h => by
  unfold shrP at h
  split at h
  · split at h
    · rename_i hc
      cases h; exact ⟨_, _, rfl, rfl, hc, rfl⟩
    · cases h
  · cases h
theorem op_andD : OpD X Z (binaryOp .BitAnd) (lift2 andP) 9 9 := opd_int (rI_of0 op_and) fun p q r h => by
  unfold andP at h
  split at h
  · cases h; exact ⟨_, _, rfl, rfl, trivial, rfl⟩
  · cases h
theorem op_borD : OpD X Z (binaryOp .BitOr) (lift2 borP) 9 9 := opd_int (rI_of0 op_or) fun p q r h => by
  unfold borP at h
  split at h
  · cases h; exact ⟨_, _, rfl, rfl, trivial, rfl⟩
  · cases h
theorem op_xorD : OpD X Z (binaryOp .BitXor) (lift2 xorP) 9 9 := opd_int (rI_of0 op_xor) fun p q r h => by
  unfold xorP at h
  split at h
  · cases h; exact ⟨_, _, rfl, rfl, trivial, rfl⟩
  · cases h

/-! ### == != in -/
mutual
theorem Den.dp {K : PySem.W.Frag} {H : Hp} : ∀ {d : PyData} {v : V} {G : Ft}, Den K H d v G → d.canLay0 = true → Dp K H v d
  | _, _, _, .non, _ => .non
  | _, _, _, .bl b, _ => .bl b
  | _, _, _, .int i, _ => .int i
  | _, _, _, .str x, _ => .str x
  | _, _, _, .lst h1 h2, c => .lst (.of h1) (DenL.dp h2 (by simpa [PyData.canLay0] using c))
  | _, _, _, .tup h1 h2, c => .tup (.of h1) (DenL.dp h2 (by simpa [PyData.canLay0] using c))
  | _, _, _, .dic h1 h2 h3, c => absurd c (by simp [PyData.canLay0])
theorem DenL.dp {K : PySem.W.Frag} {H : Hp} : ∀ {ds : List PyData} {vs : List V} {G : Ft}, DenL K H ds vs G → PyData.canLayAll0 ds = true → DpAll K H vs ds
  | _, _, _, .nil, _ => .nil
  | _, _, _, .cons h1 h2, c => .cons (Den.dp h1 (by simp only [PyData.canLayAll0, Bool.and_eq_true] at c; exact c.1)) (DenL.dp h2 (by simp only [PyData.canLayAll0, Bool.and_eq_true] at c; exact c.2))
end
theorem Sim.dp {n : Nat} {d : PyData} {v : V} (S : Sim X.K Z H R) (h : (⟨n, .d d, v⟩ : Root) ∈ R) (hs : SeqAt.shaped d = true) : Dp X.K H v d := by
  obtain ⟨G, hd⟩ := S.den h
  cases hd with
  | d hd => exact hd.dp (SeqAt.canLay_of_shaped hs)
theorem op_eqDD (hu : X.A.units + 64 < cLine) : OpD X Z (compareOp .Eq) (lift2 eqP) 9 9 := opd_lift fun pins s σ H x y v u Q p q r R n m I rx ry S h1 h2 hn hm hg hq => by
  unfold eqP at hg
  split at hg
  · rename_i hs
    simp only [Bool.or_eq_true, Bool.and_eq_true] at hs
    cases hg
    rcases hs with hs | hs
    · obtain ⟨a, b, rfl, rfl⟩ := bothS_eq hs
      rw [S.str h1] at rx; rw [S.str h2] at ry
      exact op_eq pins s σ H _ _ v u Q I rx ry ⟨rfl, by rw [← eqv_strs]; exact hq _ _ S.cbl⟩
    exact op_eqD hu pins s σ H x y v u Q I rx ry ⟨p, q, S.dp h1 hs.1, S.dp h2 hs.2, hs.1, hs.2, hq _ _ S.cbl⟩
  · cases hg
theorem op_neDD (hu : X.A.units + 64 < cLine) : OpD X Z (compareOp .NotEq) (lift2 neP) 9 9 := opd_lift fun pins s σ H x y v u Q p q r R n m I rx ry S h1 h2 hn hm hg hq => by
  unfold neP at hg
  split at hg
  · rename_i hs
    simp only [Bool.or_eq_true, Bool.and_eq_true] at hs
    cases hg
    rcases hs with hs | hs
    · obtain ⟨a, b, rfl, rfl⟩ := bothS_eq hs
      rw [S.str h1] at rx; rw [S.str h2] at ry
      exact op_ne pins s σ H _ _ v u Q I rx ry ⟨rfl, by rw [← eqv_strs]; exact hq _ _ S.cbl⟩
    exact op_neD hu pins s σ H x y v u Q I rx ry ⟨p, q, S.dp h1 hs.1, S.dp h2 hs.2, hs.1, hs.2, hq _ _ S.cbl⟩
  · cases hg

theorem shaped_items {ys : List PyData} (h : SeqAt.shaped (.list ys) = true) : PyData.canLayAll0 ys = true := by
  have := SeqAt.canLay_of_shaped h
  simpa [PyData.canLay0] using this
theorem shaped_itemsT {ys : List PyData} (h : SeqAt.shaped (.tuple ys) = true) : PyData.canLayAll0 ys = true := by
  have := SeqAt.canLay_of_shaped h
  simpa [PyData.canLay0] using this
theorem op_inDD (hu : X.A.units + 65 < cLine) : OpD X Z (compareOp .In) (lift2 inP) 9 9 := opd_lift fun pins s σ H x y v u Q p q r R n m I rx ry S h1 h2 hn hm hg hq => by
  unfold inP at hg
  split at hg
  · rename_i ys
    split at hg
    · rename_i hs
      simp only [Bool.and_eq_true] at hs
      cases hg
      exact op_inD hu pins s σ H x y v u Q I rx ry ⟨p, ys, S.dp h1 hs.1, S.dp h2 hs.2, hs.1, hs.2, hq _ _ S.cbl⟩
    · cases hg
  · rename_i ys
    split at hg
    · rename_i hs
      simp only [Bool.and_eq_true] at hs
      cases hg
      obtain ⟨as, r1⟩ := Dp.reads I p x v (S.dp h1 hs.1) rx
      obtain ⟨bs, r2⟩ := Dp.reads I (.tuple ys) y u (S.dp h2 hs.2) ry
      exact SeqAt.in_tuple_reads r2 r1 (shaped_itemsT hs.2) (SeqAt.canLay_of_shaped hs.1) (PyProof.Rows.room_in_shaped hs.1 hu) ⟨.bl _, H, I, rfl, hq _ _ S.cbl⟩
    · cases hg
  · split at hg
    · cases hg
      rw [S.str h1] at rx; rw [S.str h2] at ry
      exact op_in_str pins s σ H _ _ v u Q I rx ry ⟨_, _, rfl, rfl, hq _ _ S.cbl⟩
    · cases hg
  · obtain ⟨o, q, rfl⟩ := Option.map_eq_some_iff.mp hg
    obtain ⟨a, rfl, g⟩ := S.dhas h2 h1 q
    obtain rfl : u = Value.ref a := ry
    exact dhas_in (by omega) I g rx fun s' I' => ⟨.bl _, H, I', rfl, hq _ _ S.cbl⟩
  · cases hg
theorem op_notInDD (hu : X.A.units + 65 < cLine) : OpD X Z (compareOp .NotIn) (lift2 notInP) 9 9 := opd_lift fun pins s σ H x y v u Q p q r R n m I rx ry S h1 h2 hn hm hg hq => by
  unfold notInP inP at hg
  split at hg
  · rename_i ys
    split at hg
    · rename_i hs
      simp only [Bool.and_eq_true] at hs
      cases hg
      exact op_notInD hu pins s σ H x y v u Q I rx ry ⟨p, ys, S.dp h1 hs.1, S.dp h2 hs.2, hs.1, hs.2, hq _ _ S.cbl⟩
    · cases hg
  · rename_i ys
    split at hg
    · rename_i hs
      simp only [Bool.and_eq_true] at hs
      cases hg
      obtain ⟨as, r1⟩ := Dp.reads I p x v (S.dp h1 hs.1) rx
      obtain ⟨bs, r2⟩ := Dp.reads I (.tuple ys) y u (S.dp h2 hs.2) ry
      exact SeqAt.notIn_tuple_reads r2 r1 (shaped_itemsT hs.2) (SeqAt.canLay_of_shaped hs.1) (PyProof.Rows.room_in_shaped hs.1 hu) ⟨.bl _, H, I, rfl, hq _ _ S.cbl⟩
    · cases hg
  · split at hg
    · cases hg
      rw [S.str h1] at rx; rw [S.str h2] at ry
      exact op_notin_str pins s σ H _ _ v u Q I rx ry ⟨_, _, rfl, rfl, hq _ _ S.cbl⟩
    · cases hg
  · rename_i qs
    cases q : dgetP qs p with
    | none => rw [q] at hg; cases hg
    | some o =>
      rw [q] at hg
      cases hg
      obtain ⟨a, rfl, g⟩ := S.dhas h2 h1 q
      obtain rfl : u = Value.ref a := ry
      exact dhas_notIn (by omega) I g rx fun s' I' => ⟨.bl _, H, I', rfl, hq _ _ S.cbl⟩
  · cases hg
theorem Sim.notNone {n : Nat} {d : PyData} {v : V} (S : Sim X.K Z H R) (h : (⟨n, .d d, v⟩ : Root) ∈ R) (hd : d ≠ .none) : v ≠ .non := by
  obtain ⟨G, q⟩ := S.den h
  cases q with
  | d q => cases q <;> first | exact absurd rfl hd | (intro z; cases z)
theorem op_isD : OpD X Z (compareOp .Is) (lift2 isP) 9 9 := opd_lift fun pins s σ H x y v u Q p q r R n m I rx ry S h1 h2 hn hm hg hq => by
  unfold isP at hg
  split at hg
  · rw [S.non h2] at ry
    split at hg
    · cases hg
      rw [S.non h1] at rx
      exact op_isN pins s σ H _ _ v u Q I rx ry ⟨rfl, hq _ _ S.cbl⟩
    · rename_i hx
      cases hg
      refine op_isN pins s σ H _ _ v u Q I rx ry ⟨rfl, ?_⟩
      rw [decide_eq_false (S.notNone h1 hx)]
      exact hq _ _ S.cbl
  · cases hg
    rw [S.bl h1] at rx; rw [S.bl h2] at ry
    exact op_is_bl pins s σ H _ _ v u Q I rx ry ⟨_, _, rfl, rfl, hq _ _ S.cbl⟩
  · cases hg
theorem op_isNotD : OpD X Z (compareOp .IsNot) (lift2 isNotP) 9 9 := opd_lift fun pins s σ H x y v u Q p q r R n m I rx ry S h1 h2 hn hm hg hq => by
  unfold isNotP isP at hg
  split at hg
  · rw [S.non h2] at ry
    split at hg
    · cases hg
      rw [S.non h1] at rx
      exact op_notN pins s σ H _ _ v u Q I rx ry ⟨rfl, hq _ _ S.cbl⟩
    · rename_i hx
      cases hg
      refine op_notN pins s σ H _ _ v u Q I rx ry ⟨rfl, ?_⟩
      rw [decide_eq_false (S.notNone h1 hx)]
      exact hq _ _ S.cbl
  · cases hg
    rw [S.bl h1] at rx; rw [S.bl h2] at ry
    exact op_isnot_bl pins s σ H _ _ v u Q I rx ry ⟨_, _, rfl, rfl, hq _ _ S.cbl⟩
  · cases hg

/-! ### items -/
def OpIx (X : Cx) (Z : ClT) (g : DV → DV → Option DV) (cap k : Nat) : Prop :=
  IxR X fun x y H Q => ∃ R d e n m r, Sim X.K Z H R ∧ (⟨n, d, x⟩ : Root) ∈ R ∧ (⟨m, e, y⟩ : Root) ∈ R ∧ n ≤ cap ∧ m ≤ cap ∧ g d e = some r ∧ ∀ v H', Sim X.K Z H' (⟨k, r, v⟩ :: R) → Q v H'
theorem atI_map {α β : Type} (f : α → β) (xs : List α) (i : Int) : atI (xs.map f) i = (atI xs i).map f := by
  unfold atI
  rw [List.length_map]
  cases ixN xs.length i with
  | none => rfl
  | some j => exact List.getElem?_map ..
theorem atI_rel {ds : List PyData} {vs : List V} {i : Int} {d : PyData} (hl : ds.length = vs.length) (h : atI ds i = some d) : ∃ (j : Nat) (v : V), ds[j]? = some d ∧ vs[j]? = some v ∧ atI vs i = some v := by
  unfold atI at h ⊢
  rw [← hl]
  cases q : ixN ds.length i with
  | none => rw [q] at h; cases h
  | some j =>
    rw [q] at h
    have h : ds[j]? = some d := h
    have hj : j < vs.length := hl ▸ (List.getElem?_eq_some_iff.mp h).1
    exact ⟨j, vs[j], h, List.getElem?_eq_getElem hj, List.getElem?_eq_getElem hj⟩
theorem op_ixD (hu : X.A.units + 64 < cLine) : OpIx X Z ixD 1 0 := by
  intro vl sl pins s σ H x y v u Q I rx ry ⟨R, d, e, n, m, r, S, h1, h2, hn, hm, hg, hq⟩ hsb
  unfold ixD at hg
  split at hg
  · rename_i ns i
    obtain ⟨a, rfl, hs⟩ := S.script h1
    rw [S.int h2] at ry
    cases q : atI ns i with
    | none => rw [q] at hg; cases hg
    | some z =>
      rw [q] at hg
      cases hg
      refine ix_list vl sl pins s σ H _ _ v u Q I rx ry ⟨a, _, i, .int z, rfl, rfl, hs, ?_, hq _ _ S.cint⟩ hsb
      rw [atI_map, q]; rfl
  · rename_i p q
    cases q3 : ixP p q with
    | none => rw [q3] at hg; cases hg
    | some r' =>
      rw [q3] at hg
      cases hg
      unfold ixP at q3
      split at q3
      · obtain ⟨a, vs, rfl, ha, hl, S2⟩ := S.openL h1 hn
        rw [S.int h2] at ry
        obtain ⟨j, w, e1, e2, e3⟩ := atI_rel hl q3
        exact ix_list vl sl pins s σ H _ _ v u Q I rx ry ⟨a, _, _, w, rfl, rfl, .of ha, e3, hq _ _ (S2.kid e1 e2)⟩ hsb
      · obtain ⟨a, vs, rfl, ha, hl, S2⟩ := S.openT h1 hn
        rw [S.int h2] at ry
        obtain ⟨j, w, e1, e2, e3⟩ := atI_rel hl q3
        exact ix_tup vl sl pins s σ H _ _ v u Q I rx ry ⟨a, _, _, w, rfl, rfl, ha, e3, hq _ _ (S2.kid e1 e2)⟩ hsb
      · split at q3
        · rename_i x i hx
          rw [S.str h1] at rx; rw [S.int h2] at ry
          cases q4 : atI x.cps.toList i with
          | none => rw [q4] at q3; cases q3
          | some c =>
            rw [q4] at q3
            cases q3
            exact ix_str vl sl pins s σ H _ _ v u Q I rx ry ⟨_, _, c, rfl, rfl, big_line hx, q4, hq _ _ S.cstr⟩ hsb
        · cases q3
      · obtain ⟨o, q4, q5⟩ := Option.bind_eq_some_iff.mp q3
        obtain rfl : o = some r' := q5
        obtain ⟨a, w, rfl, g, S2⟩ := S.dget h1 h2 hn q4
        exact ix_dict (by omega) vl sl pins s σ H _ _ v u Q I rx ry ⟨a, w, rfl, g, hq _ _ S2⟩ hsb
      · cases q3
  · cases hg
end
section
variable {X : Cx} {Z : ClT} {W : WX} {φ φ1 φ2 φ' : List Nat} {ta tb : Tm} {fa fb : M DV} {a b : Expr} {pos : Pos}
/-- the index is no slice -/
def noSlice : Expr → Bool
  | .Slice .. => false
  | _ => true
theorem noSlice_ix {b : Expr} (h : noSlice b = true) : PlainIx b := fun o i => by
  cases b <;> first | rfl | cases h
theorem je_ix {g : DV → DV → Option DV} {cap k : Nat} (ho : OpIx X Z g cap k) (ha : JE X Z W φ a φ1 ta fa) (hb : JE X Z W φ1 b φ2 tb fb) (hs : noSlice b = true) :
    JE X Z W φ (.Subscript a b pos) (cap2 cap ta tb φ2) (.v k) (op2 g ta tb fa fb) := by
  refine pe_imp (pe_ix ho ha hb (noSlice_ix hs)) fun σ H Q ⟨L, env, S, h⟩ => ?_
  refine rdE.go S (h.bind.mono fun d e1 h1 v H1 S1 => ?_)
  refine rdE.go S1 (h1.bind.mono fun d' e2 h2 u H2 S2 => ?_)
  exact op2_core S2 h2
end
end Lk
namespace Lk
open PySem PySem.Spec L2

def opI : CmpOp → Int → Int → Bool
  | .Lt, i, j => decide (i < j)
  | .LtE, i, j => decide (i ≤ j)
  | .Gt, i, j => decide (j < i)
  | .GtE, i, j => decide (j ≤ i)
  | _, _, _ => false
/-- the first pair that differs decides by c, else z -/
def lexV (c : PyData → PyData → Bool) (z : Bool) : List PyData → List PyData → Bool
  | x :: xs, y :: ys => if PyData.eqv x y then lexV c z xs ys else c x y
  | [], _ => z
  | _ :: _, [] => z
/-- all pairs that differ can be compared -/
def cmpAll (c : PyData → PyData → Option Bool) : List PyData → List PyData → Bool
  | x :: xs, y :: ys => (PyData.eqv x y || (c x y).isSome) && cmpAll c xs ys
  | [], _ => true
  | _ :: _, [] => true
def cmpN (op : CmpOp) : Nat → PyData → PyData → Option Bool
  | 0 => fun _ _ => none
  | n + 1 => fun p q => match p, q with
    | .int i, .int j => some (opI op i j)
    | .tuple xs, .tuple ys => if cmpAll (cmpN op n) xs ys then some (lexV (fun x y => (cmpN op n x y).getD false) (opI op xs.length ys.length) xs ys) else none
    | _, _ => none
def isOrd : CmpOp → Bool
  | .Lt => true
  | .LtE => true
  | .Gt => true
  | .GtE => true
  | _ => false
def cmpP (op : CmpOp) (x y : PyData) : Option PyData := if SeqAt.shaped x && SeqAt.shaped y then (cmpN op 8 x y).map .bool else none

theorem lexAt_lexV {c : PyData → PyData → Bool} {z : Bool} {xs ys : List PyData} : ∀ (as bs : List PyData) (i : Nat), xs.drop i = as → ys.drop i = bs →
    Ob.lexAt (fun j => PyData.eqv (xs.getD j .none) (ys.getD j .none)) (fun j => c (xs.getD j .none) (ys.getD j .none)) z i (min as.length bs.length) = lexV c z as bs
  | [], bs, i, _, _ => by simp [Ob.lexAt, lexV]
  | a :: as, [], i, _, _ => by simp [Ob.lexAt, lexV]
  | a :: as, b :: bs, i, ha, hb => by
    have h1 : xs.getD i .none = a := by
      have : xs[i]? = some a := by
        have q : (xs.drop i)[0]? = xs[i + 0]? := List.getElem?_drop
        rw [ha] at q
        exact q.symm
      rw [List.getD_eq_getElem?_getD, this]; rfl
    have h2 : ys.getD i .none = b := by
      have : ys[i]? = some b := by
        have q : (ys.drop i)[0]? = ys[i + 0]? := List.getElem?_drop
        rw [hb] at q
        exact q.symm
      rw [List.getD_eq_getElem?_getD, this]; rfl
    have e1 : xs.drop (i + 1) = as := by rw [← List.drop_drop, ha]; rfl
    have e2 : ys.drop (i + 1) = bs := by rw [← List.drop_drop, hb]; rfl
    have ih := lexAt_lexV (c := c) (z := z) as bs (i + 1) e1 e2
    rw [List.length_cons, List.length_cons, Nat.add_min_add_right, Ob.lexAt_succ]
    unfold lexV
    rw [h1, h2, ih]
theorem cmpAll_get {c : PyData → PyData → Option Bool} : ∀ {xs ys : List PyData} {j : Nat} {x y : PyData}, cmpAll c xs ys = true → xs[j]? = some x → ys[j]? = some y → PyData.eqv x y = false → ∃ b, c x y = some b
  | a :: xs, b :: ys, 0, x, y, h, h1, h2, he => by
    simp at h1 h2; subst h1; subst h2
    simp only [cmpAll, Bool.and_eq_true, Bool.or_eq_true, he] at h
    rcases h.1 with q | q
    · cases q
    · exact Option.isSome_iff_exists.mp q
  | a :: xs, b :: ys, j + 1, x, y, h, h1, h2, he => by
    simp only [cmpAll, Bool.and_eq_true] at h
    exact cmpAll_get (j := j) h.2 (by simpa using h1) (by simpa using h2) he
  | [], _, _, _, _, _, h1, _, _ => by simp at h1
  | _ :: _, [], _, _, _, _, _, h2, _ => by simp at h2
theorem readsAll_get {h : Heap} : ∀ {vs : List Value} {ds : List PyData} {as : List Addr} {j : Nat} {v : Value}, ReadsAll h vs ds as → vs[j]? = some v → ∃ d bs, ds[j]? = some d ∧ Reads h v d bs
  | [], _, _, _, _, _, e => by simp at e
  | v :: vs, _, _, 0, w, .cons r _, e => by simp at e; subst e; exact ⟨_, _, rfl, r⟩
  | v :: vs, _, _, j + 1, w, .cons _ r, e => by
    obtain ⟨d, bs, q1, q2⟩ := readsAll_get (j := j) r (by simpa using e)
    exact ⟨d, bs, by simpa using q1, q2⟩
theorem canLayAll_get : ∀ {ds : List PyData} {j : Nat} {d : PyData}, PyData.canLayAll0 ds = true → ds[j]? = some d → d.canLay0 = true
  | [], _, _, _, e => by simp at e
  | x :: ds, 0, d, h, e => by
    simp at e; subst e
    simp only [PyData.canLayAll0, Bool.and_eq_true] at h
    exact h.1
  | x :: ds, j + 1, d, h, e => by
    simp only [PyData.canLayAll0, Bool.and_eq_true] at h
    exact canLayAll_get (j := j) h.2 (by simpa using e)
theorem depthAll_get : ∀ {ds : List PyData} {j : Nat} {d : PyData}, ds[j]? = some d → d.depth ≤ PyData.depthAll ds
  | [], _, _, e => by simp at e
  | x :: ds, 0, d, e => by
    simp at e; subst e
    simp only [PyData.depthAll]
    exact Nat.le_max_left _ _
  | x :: ds, j + 1, d, e => by
    simp only [PyData.depthAll]
    exact Nat.le_trans (depthAll_get (j := j) (by simpa using e)) (Nat.le_max_right _ _)

/-- what one of the four operators does -/
theorem rc_run {op : CmpOp} (ho : isOrd op = true) : ∀ (n : Nat) (A : Around) (s : Shared) (p q : PyData) (v u : Value) (as bs : List Addr) (b : Bool), Reads s.heap v p as → Reads s.heap u q bs → p.canLay0 = true → q.canLay0 = true → p.depth ≤ 64 → A.units + 70 + n < cLine →
    cmpN op n p q = some b → Ob.RcOp op A s v u b
  | 0, _, _, _, _, _, _, _, _, _, _, _, _, _, _, _, h => by simp [cmpN] at h
  | n + 1, A, s, p, q, v, u, as, bs, b, ra, rb, ca, cb, hd, hu, h => by
    simp only [cmpN] at h
    split at h
    · rename_i i j
      cases h
      cases ra
      cases rb
      cases op with
      | Lt => exact Ob.RcOp.lt_int _ _ _ _
      | LtE => exact Ob.RcOp.le_int _ _ _ _
      | Gt => exact Ob.RcOp.gt_int _ _ _ _
      | GtE => exact Ob.RcOp.ge_int _ _ _ _
      | _ => cases ho
    · rename_i xs ys
      split at h
      · rename_i hall
        cases h
        cases ra with
        | tuple h1 h2 h3 h4 =>
          cases rb with
          | tuple g1 g2 g3 g4 =>
            rename_i a1 o1 vs1 n1 b1 o2 vs2 n2
            have l1 : vs1.size = xs.length := by have := SeqAt.ReadsAll.length _ _ _ h4; simpa using this
            have l2 : vs2.size = ys.length := by have := SeqAt.ReadsAll.length _ _ _ g4; simpa using this
            have t1 : s.heap.IsTuple a1 vs1 := ⟨_, h1, h2, n1, h3⟩
            have t2 : s.heap.IsTuple b1 vs2 := ⟨_, g1, g2, n2, g3⟩
            have cx : PyData.canLayAll0 xs = true := by simpa [PyData.canLay0] using ca
            have cy : PyData.canLayAll0 ys = true := by simpa [PyData.canLay0] using cb
            have dx : PyData.depthAll xs ≤ 63 := by
              have : PyData.depthAll xs + 1 ≤ 64 := by simpa [PyData.depth] using hd
              omega
            have item1 : ∀ (j : Nat) (hj : j < vs1.size), ∃ bs, xs[j]? = some (xs.getD j .none) ∧ Reads s.heap vs1[j] (xs.getD j .none) bs := fun j hj => by
              obtain ⟨d, bs, q1, q2⟩ := readsAll_get (j := j) h4 (by rw [Array.getElem?_toList]; exact Array.getElem?_eq_getElem hj)
              have e : xs.getD j .none = d := by rw [List.getD_eq_getElem?_getD, q1]; rfl
              rw [e]; exact ⟨bs, q1, q2⟩
            have item2 : ∀ (j : Nat) (hj : j < vs2.size), ∃ bs, ys[j]? = some (ys.getD j .none) ∧ Reads s.heap vs2[j] (ys.getD j .none) bs := fun j hj => by
              obtain ⟨d, bs, q1, q2⟩ := readsAll_get (j := j) g4 (by rw [Array.getElem?_toList]; exact Array.getElem?_eq_getElem hj)
              have e : ys.getD j .none = d := by rw [List.getD_eq_getElem?_getD, q1]; rfl
              rw [e]; exact ⟨bs, q1, q2⟩
            have he : ∀ j (q1 : j < vs1.size) (q2 : j < vs2.size), SeqAt.EqAt A.in1 s vs1[j] vs2[j] (PyData.eqv (xs.getD j .none) (ys.getD j .none)) := fun j q1 q2 => by
              obtain ⟨b1, e1, r1⟩ := item1 j q1
              obtain ⟨b2, e2, r2⟩ := item2 j q2
              have hd1 := depthAll_get e1
              refine SeqAt.eqAt_reads _ _ A.in1 s _ _ _ _ r1 r2 (canLayAll_get cx e1) (canLayAll_get cy e2) ?_
              have : min (xs.getD j PyData.none).depth (ys.getD j PyData.none).depth ≤ (xs.getD j PyData.none).depth := Nat.min_le_left _ _
              show A.units + 1 + min (xs.getD j PyData.none).depth (ys.getD j PyData.none).depth < cLine
              omega
            have hr : ∀ j (q1 : j < vs1.size) (q2 : j < vs2.size), PyData.eqv (xs.getD j .none) (ys.getD j .none) = false → Ob.RcOp op A.in1 s vs1[j] vs2[j] ((cmpN op n (xs.getD j .none) (ys.getD j .none)).getD false) := fun j q1 q2 q3 => by
              obtain ⟨b1, e1, r1⟩ := item1 j q1
              obtain ⟨b2, e2, r2⟩ := item2 j q2
              obtain ⟨k, hk⟩ := cmpAll_get hall e1 e2 q3
              have hd1 := depthAll_get e1
              rw [hk]
              exact rc_run ho n A.in1 s _ _ _ _ _ _ k r1 r2 (canLayAll_get cx e1) (canLayAll_get cy e2) (by omega) (by show A.units + 1 + 70 + n < cLine; omega) hk
            have key := lexAt_lexV (c := fun x y => (cmpN op n x y).getD false) (z := opI op xs.length ys.length) (xs := xs) (ys := ys) xs ys 0 rfl rfl
            rw [← key]
            have hz : ∀ z : Bool, z = opI op xs.length ys.length → Ob.RcOp op A s (.ref a1) (.ref b1) (Ob.lexAt (fun j => PyData.eqv (xs.getD j .none) (ys.getD j .none)) (fun j => (cmpN op n (xs.getD j .none) (ys.getD j .none)).getD false) z 0 (min vs1.size vs2.size)) →
              Ob.RcOp op A s (.ref a1) (.ref b1) (Ob.lexAt (fun j => PyData.eqv (xs.getD j .none) (ys.getD j .none)) (fun j => (cmpN op n (xs.getD j .none) (ys.getD j .none)).getD false) (opI op xs.length ys.length) 0 (min xs.length ys.length)) := fun z e k => by
              rw [e, l1, l2] at k; exact k
            cases op with
            | Lt => exact hz (decide (vs1.size < vs2.size)) (by rw [l1, l2]; exact decide_eq_decide.mpr (by omega)) (Ob.RcOp.tuples_lt t1 t2 (by omega) he hr)
            | LtE => exact hz (decide (vs1.size ≤ vs2.size)) (by rw [l1, l2]; exact decide_eq_decide.mpr (by omega)) (Ob.RcOp.tuples_le t1 t2 (by omega) he hr)
            | Gt => exact hz (decide (vs1.size > vs2.size)) (by rw [l1, l2]; exact decide_eq_decide.mpr (by omega)) (Ob.RcOp.tuples_gt t1 t2 (by omega) he hr)
            | GtE => exact hz (decide (vs1.size ≥ vs2.size)) (by rw [l1, l2]; exact decide_eq_decide.mpr (by omega)) (Ob.RcOp.tuples_ge t1 t2 (by omega) he hr)
            | _ => cases ho
      · cases h
    · cases h
section
variable {X : Cx} {Z : ClT}
theorem op_ordD {op : CmpOp} (ho : isOrd op = true) (hu : X.A.units + 80 < cLine) : OpD X Z (compareOp op) (lift2 (cmpP op)) 9 9 := opd_lift fun pins s σ H x y v u Q p q r R n m I rx ry S h1 h2 hn hm hg hq => by
  unfold cmpP at hg
  split at hg
  · rename_i hs
    simp only [Bool.and_eq_true] at hs
    cases q3 : cmpN op 8 p q with
    | none => rw [q3] at hg; cases hg
    | some b =>
      rw [q3] at hg
      cases hg
      obtain ⟨as, r1⟩ := Dp.reads I p x v (S.dp h1 hs.1) rx
      obtain ⟨bs, r2⟩ := Dp.reads I q y u (S.dp h2 hs.2) ry
      have z := rc_run ho 8 X.A s p q v u as bs b r1 r2 (SeqAt.canLay_of_shaped hs.1) (SeqAt.canLay_of_shaped hs.2) (SeqAt.depth_of_shaped hs.1) (by omega) q3 X.prog X.w X.xe (EP X pins σ Q) ⟨.bl b, H, I, rfl, hq _ _ S.cbl⟩
      cases op with
      | Lt => exact z
      | LtE => exact z
      | Gt => exact z
      | GtE => exact z
      | _ => cases ho
  · cases hg
end
end Lk
namespace Lk
open PySem PySem.Spec L2

def zipH : List Tm → List DV → List V → List Held
  | t :: ts, d :: ds, v :: vs => ⟨t, d, v⟩ :: zipH ts ds vs
  | _, _, _ => []
def nowsD : List Tm → List DV → Ev → Option (List DV)
  | t :: ts, d :: ds, e => match t.now d e, nowsD ts ds e with
    | some x, some xs => some (x :: xs)
    | _, _ => none
  | [], [], _ => some []
  | _, _, _ => none
def slotsOf (ts : List Tm) : List (Option Nat) := ts.map Tm.slot?
section
variable (X : Cx) (Z : ClT) (W : WX)
def rdA (φ φ' : List Nat) (ts : List Tm) (f : M (List DV)) : TA := fun σ H Q => ∃ L env, Stt X.K Z φ env [] σ H L ∧ Wish X.K Z W L (f env) fun ds e' =>
  ∀ vs H', ds.length = ts.length → vs.length = ts.length → Stt X.K Z φ' e' (zipH ts ds vs) σ H' L → Q vs H'
def JA (φ : List Nat) (es : List Expr) (φ' : List Nat) (ts : List Tm) (f : M (List DV)) : Prop := PA X es (rdA X Z W φ φ' ts f)
end
section
variable {X : Cx} {Z : ClT} {W : WX} {φ φ1 φ2 φ' : List Nat} {t : Tm} {ts : List Tm} {fa : M DV} {f : M (List DV)} {σ : St} {H : Hp} {L : List Root} {env : Ev} {hs : List Held} {a b : Expr} {es : List Expr} {pos : Pos}
theorem pa_imp {es : List Expr} {t t' : TA} (h : PA X es t) (i : ∀ σ H Q, t' σ H Q → t σ H Q) : PA X es t' := ⟨fun pos pins s σ H Q I q => h.run pos pins s σ H Q I (i _ _ _ q)⟩
theorem rdA.go {P : List V → Hp → Prop} (S : Stt X.K Z φ env hs σ H L) (h : Wish X.K Z W L (f env) fun ds e' => ∀ vs H', ds.length = ts.length → vs.length = ts.length → Stt X.K Z φ' e' (zipH ts ds vs ++ hs) σ H' L → P vs H') : rdA X Z W φ φ' ts f σ H P := by
  have S0 : Stt X.K Z φ env [] σ H (hrts hs ++ L) := by
    refine ⟨S.sim.perm ?_, S.al, fun _ h => nomatch h⟩
    show (hrts hs ++ (roots φ env σ ++ L)).Perm ([] ++ (roots φ env σ ++ (hrts hs ++ L)))
    exact shuf (A := [])
  refine ⟨hrts hs ++ L, env, S0, Wish.mono h.frame fun ds e' k => ?_⟩
  intro vs H' hl hv S'
  have S1 : Stt X.K Z φ' e' (zipH ts ds vs ++ hs) σ H' L := by
    refine ⟨S'.sim.perm ?_, S'.al, fun x hx => ?_⟩
    · unfold hrts
      rw [List.flatMap_append, List.append_assoc]
      exact shuf
    · rcases List.mem_append.mp hx with hx | hx
      · exact S'.at' x hx
      · exact S.at' x hx
  exact k vs H' hl hv S1
theorem ja_nil : JA X Z W φ [] φ [] (M.pure []) := pa_imp pa_nil fun σ H Q ⟨L, env, S, h⟩ => by
  exact (show ∀ vs H', ([] : List DV).length = ([] : List Tm).length → vs.length = ([] : List Tm).length → Stt X.K Z φ env (zipH [] [] vs) σ H' L → Q vs H' from h) [] H rfl rfl S
def noStar : Expr → Bool
  | .Starred .. => false
  | _ => true
theorem star_eq {env : PySem.Env} {e : Expr} {es : List Expr} (h : noStar e = true) : starEach (e :: es) env = (false, eval e env) :: starEach es env := by
  cases e <;> first | rfl | cases h
theorem star_any {env : PySem.Env} {pos : Pos} : ∀ {es : List Expr}, es.all noStar = true → (backTo pos (starEach es env)).any (·.1) = false
  | [], _ => rfl
  | e :: es, h => by
    simp only [List.all_cons, Bool.and_eq_true] at h
    rw [star_eq h.1]
    show (false || (backTo pos (starEach es env)).any (·.1)) = false
    rw [star_any h.2]; rfl
def consM (fa : M DV) (f : M (List DV)) : M (List DV) := fun env => (fa env).bind fun d e => (f e).bind fun ds e2 => .ok (d :: ds) e2
theorem ja_cons (hs : noStar a = true) (ha : JE X Z W φ a φ1 t fa) (h : JA X Z W φ1 es φ2 ts f) : JA X Z W φ (a :: es) φ2 (t :: ts) (consM fa f) := by
  refine pa_imp (pa_cons ha h (star_eq hs)) fun σ H Q ⟨L, env, S, h⟩ => ?_
  refine rdE.go S (h.bind.mono fun d e1 h1 v H1 S1 => ?_)
  refine rdA.go S1 (h1.bind.mono fun ds e2 h2 vs H2 hl hv S2 => ?_)
  refine h2 (v :: vs) H2 (by simp [hl]) (by simp [hv]) (S2.hperm ?_)
  show (zipH ts ds vs ++ [(⟨t, d, v⟩ : Held)]).Perm ((⟨t, d, v⟩ : Held) :: zipH ts ds vs)
  exact List.perm_append_comm

/-! ### displays -/
def getDs : List DV → Option (List PyData)
  | [] => some []
  | .d x :: r => match getDs r with
    | some xs => some (x :: xs)
    | none => none
  | _ :: _ => none
def allV (m : Nat) : List Tm → Bool
  | [] => true
  | .v k :: ts => decide (m ≤ k) && allV m ts
  | .sl _ :: _ => false
theorem kids_of {m : Nat} : ∀ {ts : List Tm} {ds : List DV} {vs : List V} {xs : List PyData}, allV m ts = true → ds.length = ts.length → vs.length = ts.length → getDs ds = some xs → Less (hrts (zipH ts ds vs)) (kids m xs vs) ∧ xs.length = vs.length
  | [], [], [], xs, _, _, _, h => by cases h; exact ⟨.nil, rfl⟩
  | t :: ts, d :: ds, v :: vs, xs, ht, hd, hv, h => by
    cases t with
    | sl i => simp [allV] at ht
    | v k =>
      simp only [allV, Bool.and_eq_true, decide_eq_true_eq] at ht
      cases d with
      | d x =>
        unfold getDs at h
        cases q : getDs ds with
        | none => rw [q] at h; cases h
        | some ys =>
          rw [q] at h
          cases h
          obtain ⟨q1, q2⟩ := kids_of ht.2 (by simpa using hd) (by simpa using hv) q
          exact ⟨.cons ⟨ht.1, rfl, rfl⟩ q1, by simp [q2]⟩
      | _ => cases h
  | [], _ :: _, _, _, _, hd, _, _ => by simp at hd
  | [], [], _ :: _, _, _, _, hv, _ => by simp at hv
  | _ :: _, [], _, _, _, hd, _, _ => by simp at hd
  | _ :: _, _ :: _, [], _, _, _, hv, _ => by simp at hv
def dispM (mk : List PyData → PyData) (f : M (List DV)) : M DV := fun env => (f env).bind fun ds e => match getDs ds with
  | some xs => if xs.length ≤ big then .ok (.d (mk xs)) e else .bad
  | none => .bad
theorem disp_core {m : Nat} {mk : List PyData → PyData} {ds : List DV} {vs : List V} {P : Prop} {k : DV → Ev → Prop} {e' : Ev} (hm : allV m ts = true) (hl : ds.length = ts.length) (hv : vs.length = ts.length) (S : Stt X.K Z φ' e' (zipH ts ds vs) σ H L)
    (h : Wish X.K Z W L (match getDs ds with
      | some xs => if xs.length ≤ big then Out.ok (.d (mk xs)) e' else .bad
      | none => .bad) k) (go : ∀ xs, xs.length = vs.length → xs.length ≤ big → Sim X.K Z H (kids m xs vs ++ (roots φ' e' σ ++ L)) → k (.d (mk xs)) e' → P) : P := by
  cases q : getDs ds with
  | none => rw [q] at h; exact h.elim
  | some xs =>
    rw [q] at h
    simp only at h
    split at h
    · rename_i hx
      obtain ⟨q1, q2⟩ := kids_of hm hl hv q
      exact go xs q2 hx (S.sim.less (Less.app q1 (Less.refl _))) h
    · exact h.elim
theorem je_lst {m : Nat} (ha : JA X Z W φ es φ' ts f) (hm : allV m ts = true) : JE X Z W φ (.List es pos) φ' (.v (m + 1)) (dispM .list f) := by
  refine pe_imp (pe_lst ha) fun σ H Q ⟨L, env, S, h⟩ => ?_
  refine ⟨L, env, S, h.bind.mono fun ds e' h1 vs H' hl hv S' => ?_⟩
  refine disp_core hm hl hv S' h1 fun xs q1 q2 s k => ⟨big_line (by omega), fun p hp => k _ _ ⟨s.mkL q1 hp, S'.al, fun x hx => ?_⟩⟩
  rw [List.mem_singleton.mp hx]; trivial
theorem je_tup {m n : Nat} (ha : JA X Z W φ es φ' ts f) (hm : allV m ts = true) : JE X Z W φ (.Tuple es n pos) φ' (.v (m + 1)) (dispM .tuple f) := by
  refine pe_imp (pe_tup ha) fun σ H Q ⟨L, env, S, h⟩ => ?_
  refine ⟨L, env, S, h.bind.mono fun ds e' h1 vs H' hl hv S' => ?_⟩
  refine disp_core hm hl hv S' h1 fun xs q1 q2 s k => ⟨big_line (by omega), fun p hp => k _ _ ⟨s.mkT q1 hp, S'.al, fun x hx => ?_⟩⟩
  rw [List.mem_singleton.mp hx]; trivial

/-! ### calls of built-ins -/
def LArgs (R : List Root) (cap : Nat) : List DV → List V → Prop := Paired fun d v => ∃ n, n ≤ cap ∧ (⟨n, d, v⟩ : Root) ∈ R
def CallD (X : Cx) (Z : ClT) (F : Value) (g : List DV → Option DV) (cap k : Nat) : Prop :=
  CallR X F fun vs H Q => ∃ R ds r, Sim X.K Z H R ∧ LArgs R cap ds vs ∧ g ds = some r ∧ ∀ v H', Sim X.K Z H' (⟨k, r, v⟩ :: R) → Q v H'
def callM (g : List DV → Option DV) (ts : List Tm) (f : M (List DV)) : M DV := fun env => (f env).bind fun ds e => match nowsD ts ds e with
  | some xs => (match g xs with
    | some r => .ok r e
    | none => .bad)
  | none => .bad
theorem zipH_slots : ∀ {ts : List Tm} {ds : List DV} {vs : List V}, ds.length = ts.length → vs.length = ts.length → (zipH ts ds vs).map (fun h => h.t.slot?) = slotsOf ts
  | [], [], [], _, _ => rfl
  | t :: ts, d :: ds, v :: vs, h1, h2 => by
    show t.slot? :: (zipH ts ds vs).map (fun h => h.t.slot?) = t.slot? :: slotsOf ts
    rw [zipH_slots (by simpa using h1) (by simpa using h2)]
  | [], _ :: _, _, h, _ => by simp at h
  | [], [], _ :: _, _, h => by simp at h
  | _ :: _, [], _, h, _ => by simp at h
  | _ :: _, _ :: _, [], _, h => by simp at h
theorem zipH_args {cap : Nat} {hs : List Held} (S : Stt X.K Z φ env hs σ H L) : ∀ {ts : List Tm} {ds : List DV} {vs : List V} {xs : List DV}, ds.length = ts.length → vs.length = ts.length → (∀ h ∈ zipH ts ds vs, h ∈ hs) → nowsD ts ds env = some xs →
    LArgs (hrts (hs.map (Held.cap cap)) ++ (roots (capS cap (hs.map fun h => h.t.slot?) φ) env σ ++ L)) cap xs vs
  | [], [], [], xs, _, _, _, h => by cases h; exact .nil
  | t :: ts, d :: ds, v :: vs, xs, h1, h2, hm, h => by
    unfold nowsD at h
    cases q1 : t.now d env with
    | none => rw [q1] at h; cases h
    | some x =>
      cases q2 : nowsD ts ds env with
      | none => rw [q1, q2] at h; cases h
      | some ys =>
        rw [q1, q2] at h
        cases h
        refine .cons ?_ (zipH_args S (by simpa using h1) (by simpa using h2) (fun y hy => hm y (List.mem_cons_of_mem _ hy)) q2)
        exact S.memC (h := ⟨t, d, v⟩) (hm _ List.mem_cons_self) q1
  | [], _ :: _, _, _, h, _, _, _ => by simp at h
  | [], [], _ :: _, _, _, h, _, _ => by simp at h
  | _ :: _, [], _, _, h, _, _, _ => by simp at h
  | _ :: _, _ :: _, [], _, _, h, _, _ => by simp at h
theorem call_core {g : List DV → Option DV} {cap k : Nat} {P : VK} {ds : List DV} {vs : List V} (hl : ds.length = ts.length) (hv : vs.length = ts.length) (S : Stt X.K Z φ2 env (zipH ts ds vs) σ H L)
    (h : Wish X.K Z W L (match nowsD ts ds env with
      | some xs => (match g xs with
        | some r => Out.ok r env
        | none => .bad)
      | none => .bad) fun r e' => ∀ v H', Stt X.K Z (capS cap (slotsOf ts) φ2) e' [⟨.v k, r, v⟩] σ H' L → P v H') :
    ∃ R ds r, Sim X.K Z H R ∧ LArgs R cap ds vs ∧ g ds = some r ∧ ∀ v H', Sim X.K Z H' (⟨k, r, v⟩ :: R) → P v H' := by
  cases q : nowsD ts ds env with
  | none => rw [q] at h; exact h.elim
  | some xs =>
    rw [q] at h
    simp only at h
    cases q2 : g xs with
    | none => rw [q2] at h; exact h.elim
    | some r =>
      rw [q2] at h
      have a := zipH_args (cap := cap) S hl hv (fun h hh => hh) q
      refine ⟨_, xs, r, (S.cap cap).sim, a, q2, fun v H' s => h v H' ?_⟩
      have S2 := S.cap cap
      rw [zipH_slots hl hv] at s S2
      have S3 : Stt X.K Z (capS cap (slotsOf ts) φ2) env ((zipH ts ds vs).map (Held.cap cap) ++ []) σ H L := by rw [List.append_nil]; exact S2
      exact S3.done (hs := []) (by rw [List.append_nil]; exact s)
theorem je_callB {id : String} {x : Str} {p : Pos} {g : List DV → Option DV} {cap k : Nat} (hc : CallD X Z (.builtin id) g cap k) (hg : Gl X x) (hm : X.mg x = none) (hv : bootBuiltins x = some (.builtin id)) (hn : x ≠ "__name__") (hdb : (x == ("__debug__" : Str)) = false)
    (hs : noStar a = true) (hpl : es.all noStar = true) (ha : JA X Z W φ (a :: es) φ2 ts f) : JE X Z W φ (.Call (.Name x p) (a :: es) [] pos) (capS cap (slotsOf ts) φ2) (.v k) (callM g ts f) := by
  refine pe_imp (pe_callB hc hg hm hv ha hn hdb (star_eq hs) (star_any hpl)) fun σ H Q ⟨L, env, S, h⟩ => ?_
  exact ⟨L, env, S, h.bind.mono fun ds e' h1 vs H' hl hv S' => call_core hl hv S' h1⟩
theorem je_callTy {T : String} {x : Str} {p : Pos} {g : List DV → Option DV} {cap k : Nat} (hc : CallD X Z (.type T) g cap k) (hg : Gl X x) (hm : X.mg x = none) (hv : bootBuiltins x = some (.type T)) (hn : x ≠ "__name__") (hdb : (x == ("__debug__" : Str)) = false)
    (hs : noStar a = true) (hpl : es.all noStar = true) (ha : JA X Z W φ (a :: es) φ2 ts f) : JE X Z W φ (.Call (.Name x p) (a :: es) [] pos) (capS cap (slotsOf ts) φ2) (.v k) (callM g ts f) := by
  refine pe_imp (pe_callTy hc hg hm hv ha hn hdb (star_eq hs) (star_any hpl)) fun σ H Q ⟨L, env, S, h⟩ => ?_
  exact ⟨L, env, S, h.bind.mono fun ds e' h1 vs H' hl hv S' => call_core hl hv S' h1⟩
end
end Lk
namespace Lk
open PySem PySem.Spec L2

def oneD (g : PyData → Option PyData) : List DV → Option DV
  | [.d x] => (g x).map .d
  | _ => none
def twoD (g : PyData → PyData → Option PyData) : List DV → Option DV
  | [.d x, .d y] => (g x y).map .d
  | _ => none
def lenD : List DV → Option DV
  | [.s ns] => some (.d (.int ns.length))
  | [.d (.list xs)] => some (.d (.int xs.length))
  | [.d (.tuple xs)] => some (.d (.int xs.length))
  | [.d (.str x)] => if x.length ≤ big then some (.d (.int x.length)) else none
  | [.d (.dict qs)] => some (.d (.int qs.length))
  | _ => none
def absP : PyData → Option PyData
  | .int i => some (.int (if i < 0 then -i else i))
  | _ => none
def minP : PyData → PyData → Option PyData
  | .int i, .int j => some (.int (if j < i then j else i))
  | _, _ => none
def maxP : PyData → PyData → Option PyData
  | .int i, .int j => some (.int (if j > i then j else i))
  | _, _ => none
def intP : PyData → Option PyData
  | .int i => some (.int i)
  | .bool b => some (.int (if b then 1 else 0))
  | .str x => if x.length ≤ 640 then (PySem.intText? x).map .int else none
  | _ => none
def strP : PyData → Option PyData
  | .int i => if i.natAbs.log2 < 1920 then some (.str (toString i)) else none
  | _ => none
def getBs : List PyData → Option (List Bool)
  | [] => some []
  | .bool b :: r => match getBs r with
    | some bs => some (b :: bs)
    | none => none
  | _ :: _ => none
def getIs : List PyData → Option (List Int)
  | [] => some []
  | .int b :: r => match getIs r with
    | some bs => some (b :: bs)
    | none => none
  | _ :: _ => none
def getSs : List PyData → Option (List Str)
  | [] => some []
  | .str b :: r => match getSs r with
    | some bs => some (b :: bs)
    | none => none
  | _ :: _ => none
def allP : PyData → Option PyData
  | .list xs => (getBs xs).map fun bs => .bool (bs.all id)
  | _ => none
def anyP : PyData → Option PyData
  | .list xs => (getBs xs).map fun bs => .bool (bs.any id)
  | _ => none
def sumP : PyData → Option PyData
  | .list xs => (getIs xs).map fun bs => .int bs.sum
  | _ => none
def listP : PyData → Option PyData
  | .list xs => some (.list xs)
  | .tuple xs => some (.list xs)
  | _ => none
def listD : List DV → Option DV
  | [.s ns] => some (.d (.list (ns.map .int)))
  | [.d x] => (listP x).map .d
  | _ => none
def tupleP : PyData → Option PyData
  | .list xs => some (.tuple xs)
  | .tuple xs => some (.tuple xs)
  | _ => none
theorem getBs_eq : ∀ {xs : List PyData} {bs : List Bool}, getBs xs = some bs → xs = bs.map .bool
  | [], _, h => by cases h; rfl
  | x :: xs, bs, h => by
    cases x with
    | bool b =>
      unfold getBs at h
      cases q : getBs xs with
      | none => rw [q] at h; cases h
      | some ys => rw [q] at h; cases h; rw [getBs_eq q]; rfl
    | _ => cases h
theorem getIs_eq : ∀ {xs : List PyData} {bs : List Int}, getIs xs = some bs → xs = bs.map .int
  | [], _, h => by cases h; rfl
  | x :: xs, bs, h => by
    cases x with
    | int b =>
      unfold getIs at h
      cases q : getIs xs with
      | none => rw [q] at h; cases h
      | some ys => rw [q] at h; cases h; rw [getIs_eq q]; rfl
    | _ => cases h
theorem getSs_eq : ∀ {xs : List PyData} {bs : List Str}, getSs xs = some bs → xs = bs.map .str
  | [], _, h => by cases h; rfl
  | x :: xs, bs, h => by
    cases x with
    | str b =>
      unfold getSs at h
      cases q : getSs xs with
      | none => rw [q] at h; cases h
      | some ys => rw [q] at h; cases h; rw [getSs_eq q]; rfl
    | _ => cases h
section
variable {K : PySem.W.Frag} {H : Hp}
theorem DenL.bools : ∀ {bs : List Bool} {vs : List V} {G : Ft}, DenL K H (bs.map .bool) vs G → vs = bs.map .bl
  | [], _, _, h => by cases h; rfl
  | b :: bs, _, _, h => by
    cases h with
    | cons h1 h2 => cases h1; rw [DenL.bools h2]; rfl
theorem DenL.ints : ∀ {bs : List Int} {vs : List V} {G : Ft}, DenL K H (bs.map .int) vs G → vs = bs.map .int
  | [], _, _, h => by cases h; rfl
  | b :: bs, _, _, h => by
    cases h with
    | cons h1 h2 => cases h1; rw [DenL.ints h2]; rfl
theorem DenL.strs : ∀ {bs : List Str} {vs : List V} {G : Ft}, DenL K H (bs.map .str) vs G → vs = bs.map .str
  | [], _, _, h => by cases h; rfl
  | b :: bs, _, _, h => by
    cases h with
    | cons h1 h2 => cases h1; rw [DenL.strs h2]; rfl
theorem denL_ints : ∀ {bs : List Int}, DenL K H (bs.map .int) (bs.map V.int) []
  | [] => .nil
  | b :: bs => by
    have q : DenL K H (.int b :: bs.map .int) (V.int b :: bs.map V.int) ([] ++ []) := .cons (.int b) denL_ints
    exact q
theorem denL_strs : ∀ {bs : List Str}, DenL K H (bs.map .str) (bs.map V.str) []
  | [] => .nil
  | b :: bs => by
    have q : DenL K H (.str b :: bs.map .str) (V.str b :: bs.map V.str) ([] ++ []) := .cons (.str b) denL_strs
    exact q
end
section
variable {X : Cx} {Z : ClT} {H : Hp} {R : List Root} {cap k n : Nat}
theorem Sim.listOf {xs : List PyData} {v : V} (S : Sim X.K Z H R) (h : (⟨n, .d (.list xs), v⟩ : Root) ∈ R) : ∃ a vs G, v = .ref a ∧ H a = some (.lst vs) ∧ DenL X.K H xs vs G := by
  obtain ⟨G, hd⟩ := S.den h
  cases hd with
  | d hd =>
    cases hd with
    | lst h1 h2 => exact ⟨_, _, _, rfl, h1, h2⟩
theorem Sim.tupleOf {xs : List PyData} {v : V} (S : Sim X.K Z H R) (h : (⟨n, .d (.tuple xs), v⟩ : Root) ∈ R) : ∃ a vs G, v = .ref a ∧ SqT X.K H a vs ∧ DenL X.K H xs vs G := by
  obtain ⟨G, hd⟩ := S.den h
  cases hd with
  | d hd =>
    cases hd with
    | tup h1 h2 => exact ⟨_, _, _, rfl, .of h1, h2⟩
theorem args1 {d : DV} {vs : List V} (h : LArgs R cap [d] vs) : ∃ v n, vs = [v] ∧ n ≤ cap ∧ (⟨n, d, v⟩ : Root) ∈ R := by
  cases h with
  | cons h t =>
    cases t
    obtain ⟨n, hn, m⟩ := h
    exact ⟨_, n, rfl, hn, m⟩
theorem args2 {d e : DV} {vs : List V} (h : LArgs R cap [d, e] vs) : ∃ v u n m, vs = [v, u] ∧ n ≤ cap ∧ m ≤ cap ∧ (⟨n, d, v⟩ : Root) ∈ R ∧ (⟨m, e, u⟩ : Root) ∈ R := by
  cases h with
  | cons h t =>
    obtain ⟨n, hn, q⟩ := h
    cases t with
    | cons h t =>
      cases t
      obtain ⟨m, hm, q2⟩ := h
      exact ⟨_, _, n, m, rfl, hn, hm, q, q2⟩
/-- one operand, data -/
theorem cd_one {F : Value} {g : PyData → Option PyData}
    (h : ∀ (pins : List (Addr × Obj)) (s : Shared) (σ : St) (H : Hp) (v : V) (us : List Value) (Q : VK) (p r : PyData) (R : List Root) (n : Nat), Inv X pins σ H s → Vals [v] us → Sim X.K Z H R → (⟨n, .d p, v⟩ : Root) ∈ R → n ≤ cap → g p = some r →
      (∀ w H', Sim X.K Z H' (⟨k, .d r, w⟩ :: R) → Q w H') → wpAny (model X.prog X.w) X.A (call F us) (EP X pins σ Q) X.xe s) : CallD X Z F (oneD g) cap k := by
  intro pins s σ H vs us Q I rv ⟨R, ds, r, S, a, hg, hq⟩
  unfold oneD at hg
  split at hg
  · rename_i x
    cases q : g x with
    | none => rw [q] at hg; cases hg
    | some y =>
      rw [q] at hg; cases hg
      obtain ⟨v, n, rfl, hn, m⟩ := args1 a
      exact h pins s σ H v us Q x y R n I rv S m hn q hq
  · cases hg
theorem cd_two {F : Value} {g : PyData → PyData → Option PyData}
    (h : ∀ (pins : List (Addr × Obj)) (s : Shared) (σ : St) (H : Hp) (v u : V) (us : List Value) (Q : VK) (p q r : PyData) (R : List Root) (n m : Nat), Inv X pins σ H s → Vals [v, u] us → Sim X.K Z H R → (⟨n, .d p, v⟩ : Root) ∈ R → (⟨m, .d q, u⟩ : Root) ∈ R → n ≤ cap → m ≤ cap → g p q = some r →
      (∀ w H', Sim X.K Z H' (⟨k, .d r, w⟩ :: R) → Q w H') → wpAny (model X.prog X.w) X.A (call F us) (EP X pins σ Q) X.xe s) : CallD X Z F (twoD g) cap k := by
  intro pins s σ H vs us Q I rv ⟨R, ds, r, S, a, hg, hq⟩
  unfold twoD at hg
  split at hg
  · rename_i x y
    cases q : g x y with
    | none => rw [q] at hg; cases hg
    | some z =>
      rw [q] at hg; cases hg
      obtain ⟨v, u, n, m, rfl, hn, hm, m1, m2⟩ := args2 a
      exact h pins s σ H v u us Q x y z R n m I rv S m1 m2 hn hm q hq
  · cases hg
theorem cd_len : CallD X Z (.builtin "len") lenD 9 9 := by
  intro pins s σ H vs us Q I rv ⟨R, ds, r, S, a, hg, hq⟩
  unfold lenD at hg
  split at hg
  · cases hg
    obtain ⟨v, n, rfl, hn, m⟩ := args1 a
    obtain ⟨l, rfl, hs⟩ := S.script m
    exact call_len pins s σ H _ us Q I rv ⟨_, _, rfl, .inl ⟨_, hs, rfl⟩, by rw [List.length_map]; exact hq _ _ S.cint⟩
  · cases hg
    obtain ⟨v, n, rfl, hn, m⟩ := args1 a
    obtain ⟨l, vs, rfl, hs, hl⟩ := S.seeL m
    exact call_len pins s σ H _ us Q I rv ⟨_, _, rfl, .inl ⟨_, .of hs, rfl⟩, by rw [← hl]; exact hq _ _ S.cint⟩
  · cases hg
    obtain ⟨v, n, rfl, hn, m⟩ := args1 a
    obtain ⟨l, vs, rfl, hs, hl⟩ := S.seeT m
    exact call_len pins s σ H _ us Q I rv ⟨_, _, rfl, .inr ⟨_, hs, rfl⟩, by rw [← hl]; exact hq _ _ S.cint⟩
  · split at hg
    · rename_i hx
      cases hg
      obtain ⟨v, n, rfl, hn, m⟩ := args1 a
      rw [S.str m] at rv
      exact call_len pins s σ H _ us Q I rv ⟨_, _, rfl, ⟨big_line hx, rfl⟩, hq _ _ S.cint⟩
    · cases hg
  · rename_i qs
    cases hg
    obtain ⟨v, n, rfl, hn, m⟩ := args1 a
    obtain ⟨l, vs, rfl, hs, hl⟩ := S.seeD m
    rcases hs with ⟨kvs, e1, e2, _⟩ | ⟨kvs, e1, e2, _⟩
    · have eu := Vals.ref1 rv
      subst eu
      have el : qs.length = kvs.length := by simpa using congrArg List.length e2
      exact d_len I (.of e1) fun t s' I' => ⟨.int kvs.length, H, I', ⟨_, rfl⟩, by rw [← el]; exact hq _ _ S.cint⟩
    · have el : qs.length = kvs.length := by simpa using congrArg List.length e2
      exact call_len_dT pins s σ H _ us Q I rv ⟨_, kvs, rfl, e1, by rw [← el]; exact hq _ _ S.cint⟩
  · cases hg
theorem cd_abs : CallD X Z (.builtin "abs") (oneD absP) 9 9 := cd_one fun pins s σ H v us Q p r R n I rv S m hn hg hq => by
  unfold absP at hg
  split at hg
  · cases hg
    rw [S.int m] at rv
    exact call_abs pins s σ H _ us Q I rv ⟨_, rfl, hq _ _ S.cint⟩
  · cases hg
theorem cd_min (hc : X.calm = true) : CallD X Z (.builtin "min") (twoD minP) 9 9 := cd_two fun pins s σ H v u us Q p q r R n m I rv S m1 m2 hn hm hg hq => by
  unfold minP at hg
  split at hg
  · cases hg
    rw [S.int m1, S.int m2] at rv
    exact call_min2 hc pins s σ H _ us Q I rv ⟨_, _, rfl, hq _ _ S.cint⟩
  · cases hg
theorem cd_max (hc : X.calm = true) : CallD X Z (.builtin "max") (twoD maxP) 9 9 := cd_two fun pins s σ H v u us Q p q r R n m I rv S m1 m2 hn hm hg hq => by
  unfold maxP at hg
  split at hg
  · cases hg
    rw [S.int m1, S.int m2] at rv
    exact call_max2 hc pins s σ H _ us Q I rv ⟨_, _, rfl, hq _ _ S.cint⟩
  · cases hg
theorem cd_int : CallD X Z (.type "int") (oneD intP) 9 9 := cd_one fun pins s σ H v us Q p r R n I rv S m hn hg hq => by
  unfold intP at hg
  split at hg
  · cases hg
    rw [S.int m] at rv
    exact call_int1 pins s σ H _ us Q I rv (.inl ⟨_, rfl, hq _ _ S.cint⟩)
  · cases hg
    rw [S.bl m] at rv
    exact call_int1 pins s σ H _ us Q I rv (.inr ⟨_, rfl, hq _ _ S.cint⟩)
  · split at hg
    · rename_i x hx
      rw [S.str m] at rv
      cases q : PySem.intText? x with
      | none => rw [q] at hg; cases hg
      | some z =>
        rw [q] at hg; cases hg
        exact call_int_str pins s σ H _ us Q I rv ⟨_, z, rfl, q, hx, hq _ _ S.cint⟩
    · cases hg
  · cases hg
theorem cd_str : CallD X Z (.type "str") (oneD strP) 9 9 := cd_one fun pins s σ H v us Q p r R n I rv S m hn hg hq => by
  unfold strP at hg
  split at hg
  · split at hg
    · rename_i i hi
      cases hg
      rw [S.int m] at rv
      exact call_str_int pins s σ H _ us Q I rv ⟨_, rfl, hi, hq _ _ S.cstr⟩
    · cases hg
  · cases hg
theorem cd_all (hc : X.calm = true) : CallD X Z (.builtin "all") (oneD allP) 9 9 := cd_one fun pins s σ H v us Q p r R n I rv S m hn hg hq => by
  unfold allP at hg
  split at hg
  · rename_i xs
    cases q : getBs xs with
    | none => rw [q] at hg; cases hg
    | some bs =>
      rw [q] at hg; cases hg
      obtain ⟨a, vs, G, rfl, h1, h2⟩ := S.listOf m
      rw [getBs_eq q] at h2
      exact cr_all hc pins s σ H _ us Q I rv ⟨a, bs, rfl, .of (by rw [h1, h2.bools]), hq _ _ S.cbl⟩
  · cases hg
theorem cd_any (hc : X.calm = true) : CallD X Z (.builtin "any") (oneD anyP) 9 9 := cd_one fun pins s σ H v us Q p r R n I rv S m hn hg hq => by
  unfold anyP at hg
  split at hg
  · rename_i xs
    cases q : getBs xs with
    | none => rw [q] at hg; cases hg
    | some bs =>
      rw [q] at hg; cases hg
      obtain ⟨a, vs, G, rfl, h1, h2⟩ := S.listOf m
      rw [getBs_eq q] at h2
      exact cr_any hc pins s σ H _ us Q I rv ⟨a, bs, rfl, .of (by rw [h1, h2.bools]), hq _ _ S.cbl⟩
  · cases hg
theorem cd_sum (hc : X.calm = true) : CallD X Z (.builtin "sum") (oneD sumP) 9 9 := cd_one fun pins s σ H v us Q p r R n I rv S m hn hg hq => by
  unfold sumP at hg
  split at hg
  · rename_i xs
    cases q : getIs xs with
    | none => rw [q] at hg; cases hg
    | some bs =>
      rw [q] at hg; cases hg
      obtain ⟨a, vs, G, rfl, h1, h2⟩ := S.listOf m
      rw [getIs_eq q] at h2
      exact cr_sum hc pins s σ H _ us Q I rv ⟨a, bs, rfl, .of (by rw [h1, h2.ints]), hq _ _ S.cint⟩
  · cases hg
theorem kids_scal {bs : List Int} (m : Nat) (S : Sim X.K Z H R) : Sim X.K Z H (kids m (bs.map .int) (bs.map V.int) ++ R) := by
  induction bs with
  | nil => exact S
  | cons b bs ih => exact ih.cint
theorem kids_scalS {bs : List Str} (m : Nat) (S : Sim X.K Z H R) : Sim X.K Z H (kids m (bs.map .str) (bs.map V.str) ++ R) := by
  induction bs with
  | nil => exact S
  | cons b bs ih => exact ih.cstr
theorem cd_list : CallD X Z (.type "list") listD 1 1 := by
  intro pins s σ H vs us Q I rv ⟨R, ds, r, S, a, hg, hq⟩
  unfold listD at hg
  split at hg
  · cases hg
    obtain ⟨v, n, rfl, hn, m⟩ := args1 a
    obtain ⟨l, rfl, hs⟩ := S.script m
    refine call_list_of pins s σ H _ us Q I rv ⟨_, _, rfl, .inl hs, fun q hp => hq _ _ ?_⟩
    exact Sim.mkL (n := 0) (kids_scal 0 S) (by simp) hp
  · rename_i x
    obtain ⟨v, n, rfl, hn, m⟩ := args1 a
    unfold listP at hg
    split at hg
    · cases hg
      obtain ⟨l, vs, rfl, h1, hl, S2⟩ := S.openL m hn
      exact call_list_of pins s σ H _ us Q I rv ⟨_, _, rfl, .inl (.of h1), fun q hp => hq _ _ (Sim.mkL (n := 0) S2 hl hp)⟩
    · cases hg
      obtain ⟨l, vs, rfl, h1, hl, S2⟩ := S.openT m hn
      exact call_list_of pins s σ H _ us Q I rv ⟨_, _, rfl, .inr h1, fun q hp => hq _ _ (Sim.mkL (n := 0) S2 hl hp)⟩
    · cases hg
  · cases hg
theorem cd_tuple : CallD X Z (.type "tuple") (oneD tupleP) 1 1 := cd_one fun pins s σ H v us Q p r R n I rv S m hn hg hq => by
  unfold tupleP at hg
  split at hg
  · cases hg
    obtain ⟨l, vs, rfl, h1, hl, S2⟩ := S.openL m hn
    exact call_tuple_of pins s σ H _ us Q I rv ⟨_, _, rfl, .inl ⟨.of h1, fun q hp => hq _ _ (Sim.mkT (n := 0) S2 hl hp)⟩⟩
  · cases hg
    obtain ⟨l, vs, rfl, h1, hl⟩ := S.seeT m
    exact call_tuple_of pins s σ H _ us Q I rv ⟨_, _, rfl, .inr ⟨h1, hq _ _ (S.again m hn)⟩⟩
  · cases hg
end

/-! ### isinstance against a built-in class -/
def tyName : DV → Option String
  | .d .none => some "NoneType"
  | .d (.bool _) => some "bool"
  | .d (.int _) => some "int"
  | .d (.str _) => some "str"
  | .d (.list _) => some "list"
  | .d (.tuple _) => some "tuple"
  | .d (.dict _) => some "dict"
  | _ => none
def isTy (a b : String) : Bool := a == b || (a == "bool" && b == "int")
def tyOk (T : String) : Bool := T == "int" || T == "bool" || T == "str" || T == "list" || T == "tuple" || T == "dict"
def isiM (T : String) (t : Tm) (f : M DV) : M DV := fun env => (f env).bind fun d e => .ofO ((t.now d e).bind fun x => (tyName x).map fun n => .d (.bool (isTy n T))) e
theorem kit_all (K : PySem.W.Frag) : ∀ a ∈ ["NoneType", "bool", "int", "str", "list", "tuple", "dict"], ∀ b ∈ ["int", "bool", "str", "list", "tuple", "dict"], PySem.W.kitOne K (.type a) (.type b) = some (isTy a b) := by
  intro a ha b hb
  simp only [List.mem_cons, List.not_mem_nil, or_false] at ha hb
  rcases ha with rfl | rfl | rfl | rfl | rfl | rfl | rfl <;> rcases hb with rfl | rfl | rfl | rfl | rfl | rfl <;> exact kit_ty (by decide +kernel)
end Lk
namespace Lk
open PySem PySem.Spec L2
section
variable {X : Cx} {Z : ClT} {W : WX} {φ φ1 φ2 φ3 φ' : List Nat} {t ta tb tc : Tm} {ts : List Tm} {fa fb fc : M DV} {f : M (List DV)} {σ : St} {H : Hp} {L : List Root} {env : Ev} {hs : List Held} {a b c : Expr} {es : List Expr} {pos p pos2 : Pos} {R : List Root} {n : Nat} {v : V}
theorem Sim.tyx {d : DV} {s : String} (S : Sim X.K Z H R) (h : (⟨n, d, v⟩ : Root) ∈ R) (ht : tyName d = some s) : TyX X.K H v (.type s) := by
  obtain ⟨G, hd⟩ := S.den h
  cases hd with
  | d hd =>
    cases hd with
    | non => cases ht; exact .base .non
    | bl b => cases ht; exact .base (.bl b)
    | int i => cases ht; exact .base (.int i)
    | str x => cases ht; exact .base (.str x)
    | lst h1 h2 => cases ht; exact .base (.lst h1)
    | tup h1 h2 =>
      cases ht
      exact .base (.tup h1)
    | dic h1 h2 h3 =>
      cases ht
      rcases h1 with ⟨kvs, h1, _⟩ | ⟨kvs, h1, _⟩
      · exact .base (.dK h1)
      · exact .base (.dT h1)
  | s _ => cases ht
  | o _ _ _ _ => cases ht
theorem tyName_mem {d : DV} {s : String} (ht : tyName d = some s) : s ∈ ["NoneType", "bool", "int", "str", "list", "tuple", "dict"] := by
  unfold tyName at ht
  split at ht <;> first | (cases ht; decide) | cases ht
theorem tyOk_mem {T : String} (h : tyOk T = true) : T ∈ ["int", "bool", "str", "list", "tuple", "dict"] := by
  unfold tyOk at h
  simp only [Bool.or_eq_true, beq_iff_eq] at h
  simp only [List.mem_cons, List.not_mem_nil, or_false]
  rcases h with ((((h | h) | h) | h) | h) | h <;> simp [h]
theorem je_isi {T : String} {x xt : Str} {pt : Pos} (hT : tyOk T = true) (hg : Gl X x) (hm : X.mg x = none) (hv : bootBuiltins x = some (.builtin "isinstance")) (hn : x ≠ "__name__") (hdb : (x == ("__debug__" : Str)) = false)
    (gt : Gl X xt) (mt : X.mg xt = none) (bt : bootBuiltins xt = some (.type T)) (nt : xt ≠ "__name__") (dt : (xt == ("__debug__" : Str)) = false)
    (hs : noStar a = true) (ha : JE X Z W φ a φ1 ta fa) : JE X Z W φ (.Call (.Name x p) [a, .Name xt pt] [] pos) φ1 (.v 9) (isiM T ta fa) := by
  have e0 : PE X (.Name xt pt) (tC (.ty T)) := pe_bltn gt mt bt rfl nt dt
  refine pe_imp (pe_callB call_isi hg hm hv (pa_cons ha (pa_cons e0 pa_nil) (star_eq hs)) hn hdb (star_eq hs)) fun σ H Q ⟨L, env, S, h⟩ => ?_
  refine rdE.go S (h.bind.mono fun d e1 h1 v H1 S1 => ?_)
  obtain ⟨r, q, h2⟩ := h1.ofO
  obtain ⟨x, q1, q⟩ := Option.bind_eq_some_iff.mp q
  obtain ⟨s, q2, rfl⟩ := Option.map_eq_some_iff.mp q
  obtain ⟨n, m, _⟩ := S1.mem (h := ⟨ta, d, v⟩) List.mem_cons_self q1
  refine ⟨v, .ty T, .type s, .type T, isTy s T, rfl, .ty T, S1.sim.tyx m q2, kit_all _ _ (tyName_mem q2) _ (tyOk_mem hT), ?_⟩
  refine h2 _ H1 ⟨S1.free.sim.cbl, S1.al, fun x hx => ?_⟩
  rw [List.mem_singleton.mp hx]; trivial

/-! ### list(range(..)) -/
def rgP (a b : Int) : List PyData := (List.range (b - a).toNat).map fun (i : Nat) => PyData.int (a + i)
theorem rgP_eq (a b : Int) : ∃ ns : List Int, rgP a b = ns.map .int ∧ rgV a b = ns.map V.int := by
  refine ⟨(List.range (b - a).toNat).map fun (i : Nat) => a + i, ?_, ?_⟩
  · unfold rgP; rw [List.map_map]; rfl
  · unfold rgV; rw [List.map_map]; rfl
def rgOk (a b : Int) : Bool := decide (0 ≤ a) && decide (a ≤ 1000000) && decide (0 ≤ b) && decide (b ≤ 1000000)
theorem rgOk_ok {a b : Int} (h : rgOk a b = true) : RgOk a b := by
  unfold rgOk at h
  simp only [Bool.and_eq_true, decide_eq_true_eq] at h
  exact .of_le (by omega) (by omega) (by omega) (by omega)
def rgD : Option DV → Option DV → Option DV
  | some (.d (.int a)), some (.d (.int b)) => if rgOk a b then some (.d (.list (rgP a b))) else none
  | _, _ => none
def rg1M (ta : Tm) (fa : M DV) : M DV := fun env => (fa env).bind fun d e => .ofO (rgD (some (.d (.int 0))) (ta.now d e)) e
def rg2M (ta tb : Tm) (fa fb : M DV) : M DV := fun env => (fa env).bind fun d e1 => (fb e1).bind fun d' e => .ofO (rgD (ta.now d e) (tb.now d' e)) e
theorem rgD_some {x y : Option DV} {r : DV} (h : rgD x y = some r) : ∃ a b, x = some (.d (.int a)) ∧ y = some (.d (.int b)) ∧ rgOk a b = true ∧ r = .d (.list (rgP a b)) := by
  unfold rgD at h
  split at h
  · split at h
    · rename_i hr
      cases h
      exact ⟨_, _, rfl, rfl, hr, rfl⟩
    · cases h
  · cases h
theorem rg_end {a b : Int} {Q : VK} {q : Addr} {e : Ev} (S : Stt X.K Z φ' e hs σ H L) (hq : H q = none) (h : ∀ v H', Stt X.K Z φ' e [⟨.v 9, .d (.list (rgP a b)), v⟩] σ H' L → Q v H') : Q (.ref q) (upd H q (.lst (rgV a b))) := by
  obtain ⟨ns, e1, e2⟩ := rgP_eq a b
  rw [e1] at h
  rw [e2]
  have S2 : Sim X.K Z H (kids 8 (ns.map .int) (ns.map V.int) ++ (roots φ' e σ ++ L)) := kids_scal 8 (S.sim.sub (List.sublist_append_right _ _))
  refine h _ _ ⟨Sim.mkL (n := 8) S2 (by simp) hq, S.al, fun x hx => ?_⟩
  rw [List.mem_singleton.mp hx]; trivial
theorem Stt.isI {h : Held} {k : Int} (S : Stt X.K Z φ env hs σ H L) (hh : h ∈ hs) (hd : h.t.now h.d env = some (.d (.int k))) : h.v = .int k := by
  obtain ⟨n, q, _⟩ := S.mem hh hd
  exact S.sim.int q
theorem je_listRg1 {x xr : Str} {pr : Pos} (hc : X.calm = true) (ex : x = "list") (er : xr = "range") (hg : Gl X x) (hm : X.mg x = none) (gr : Gl X xr) (mr : X.mg xr = none) (hs : noStar a = true) (ha : JE X Z W φ a φ1 ta fa) :
    JE X Z W φ (.Call (.Name x p) [.Call (.Name xr pr) [a] [] pos2] [] pos) φ1 (.v 9) (rg1M ta fa) := by
  subst ex; subst er
  refine pe_imp (pe_listRg hc hg hm (prg_1 gr mr ha (star_eq hs))) fun σ H Q ⟨L, env, S, h⟩ => ?_
  refine rdE.go S (h.bind.mono fun d e1 h1 v H1 S1 => ?_)
  obtain ⟨r, q, h2⟩ := h1.ofO
  obtain ⟨i, n, ei, q2, hr, rfl⟩ := rgD_some q
  cases ei
  exact ⟨n, S1.isI (h := ⟨ta, d, v⟩) List.mem_cons_self q2, rgOk_ok hr, fun q hq => rg_end S1 hq h2⟩
theorem je_listRg2 {x xr : Str} {pr : Pos} (hc : X.calm = true) (ex : x = "list") (er : xr = "range") (hg : Gl X x) (hm : X.mg x = none) (gr : Gl X xr) (mr : X.mg xr = none) (hs : noStar a = true) (hs2 : noStar b = true) (ha : JE X Z W φ a φ1 ta fa) (hb : JE X Z W φ1 b φ2 tb fb) :
    JE X Z W φ (.Call (.Name x p) [.Call (.Name xr pr) [a, b] [] pos2] [] pos) φ2 (.v 9) (rg2M ta tb fa fb) := by
  subst ex; subst er
  refine pe_imp (pe_listRg hc hg hm (prg_2 gr mr ha hb (star_eq hs) (star_eq hs2) (star_any (by simp [hs2])))) fun σ H Q ⟨L, env, S, h⟩ => ?_
  refine rdE.go S (h.bind.mono fun d e1 h1 v H1 S1 => ?_)
  refine rdE.go S1 (h1.bind.mono fun d' e2 h2 u H2 S2 => ?_)
  obtain ⟨r, q, h3⟩ := h2.ofO
  obtain ⟨i, j, q1, q2, hr, rfl⟩ := rgD_some q
  exact ⟨i, j, S2.isI (h := ⟨ta, d, v⟩) (List.mem_cons_of_mem _ List.mem_cons_self) q1, S2.isI (h := ⟨tb, d', u⟩) List.mem_cons_self q2, rgOk_ok hr, fun q hq => rg_end S2 hq h3⟩

/-! ### slices -/
/-- an optional bound -/
def rdO (X : Cx) (Z : ClT) (W : WX) (φ φ' : List Nat) (f : M (Option Int)) : TO := fun σ H Q => ∃ L env, Stt X.K Z φ env [] σ H L ∧ Wish X.K Z W L (f env) fun o e' => ∀ H', Stt X.K Z φ' e' [] σ H' L → Q o H'
def JO (X : Cx) (Z : ClT) (W : WX) (φ : List Nat) (e : Option Expr) (φ' : List Nat) (f : M (Option Int)) : Prop := PO X e (rdO X Z W φ φ' f)
theorem po_imp {e : Option Expr} {t t' : TO} (h : PO X e t) (i : ∀ σ H Q, t' σ H Q → t σ H Q) : PO X e t' := ⟨fun pins s σ H Q I q => h.run pins s σ H Q I (i _ _ _ q)⟩
theorem rdO.go {f : M (Option Int)} {P : Option Int → Hp → Prop} (S : Stt X.K Z φ env hs σ H L) (h : Wish X.K Z W L (f env) fun b e' => ∀ H', Stt X.K Z φ' e' hs σ H' L → P b H') : rdO X Z W φ φ' f σ H P := by
  have S0 : Stt X.K Z φ env [] σ H (hrts hs ++ L) := by
    refine ⟨S.sim.perm ?_, S.al, fun _ h => nomatch h⟩
    show (hrts hs ++ (roots φ env σ ++ L)).Perm ([] ++ (roots φ env σ ++ (hrts hs ++ L)))
    exact shuf (A := [])
  refine ⟨hrts hs ++ L, env, S0, Wish.mono h.frame fun d e' k H' S' => k H' ⟨S'.sim.perm ?_, S'.al, S.at'⟩⟩
  show ([] ++ (roots φ' e' σ ++ (hrts hs ++ L))).Perm (hrts hs ++ (roots φ' e' σ ++ L))
  exact shuf (A := [])
theorem jo_none : JO X Z W φ none φ (M.pure none) := po_imp po_none fun σ H Q ⟨L, env, S, h⟩ => by
  exact (show ∀ H', Stt X.K Z φ env [] σ H' L → Q none H' from h) H S
def intD : Option DV → Option (Option Int)
  | some (.d (.int n)) => some (some n)
  | _ => none
def someI (t : Tm) (f : M DV) : M (Option Int) := fun env => (f env).bind fun d e => .ofO (intD (t.now d e)) e
theorem intD_some {x : Option DV} {r : Option Int} (h : intD x = some r) : ∃ n, x = some (.d (.int n)) ∧ r = some n := by
  unfold intD at h
  split at h
  · cases h; exact ⟨_, rfl, rfl⟩
  · cases h
theorem jo_some (ha : JE X Z W φ a φ1 ta fa) : JO X Z W φ (some a) φ1 (someI ta fa) := po_imp (po_some ha) fun σ H Q ⟨L, env, S, h⟩ => by
  refine rdE.go S (h.bind.mono fun d e1 h1 v H1 S1 => ?_)
  obtain ⟨r, q, h2⟩ := h1.ofO
  obtain ⟨n, q2, rfl⟩ := intD_some q
  exact ⟨n, S1.isI (h := ⟨ta, d, v⟩) List.mem_cons_self q2, h2 H1 S1.free⟩
def cutP (xs : List PyData) (lo hi : Option Int) : List PyData := (xs.drop (HT.sIx xs.length 0 lo)).take (HT.sIx xs.length xs.length hi - HT.sIx xs.length 0 lo)
def slD : DV → Option Int → Option Int → Option DV
  | .s ns, lo, hi => some (.d (.list (((ns.drop (HT.sIx ns.length 0 lo)).take (HT.sIx ns.length ns.length hi - HT.sIx ns.length 0 lo)).map .int)))
  | .d (.list xs), lo, hi => some (.d (.list (cutP xs lo hi)))
  | .d (.tuple xs), lo, hi => some (.d (.tuple (cutP xs lo hi)))
  | .d (.str x), lo, hi => if x.length ≤ big then some (.d (.str (cutS x lo hi))) else none
  | _, _, _ => none
theorem kids_cut {m : Nat} {xs : List PyData} {vs : List V} {lo hi : Option Int} (h : xs.length = vs.length) : (kids m (cutP xs lo hi) (cutV vs lo hi)).Sublist (kids m xs vs) ∧ (cutP xs lo hi).length = (cutV vs lo hi).length := by
  unfold cutP cutV kids
  rw [h]
  refine ⟨?_, by simp [h]⟩
  rw [← List.take_zipWith, ← List.drop_zipWith]
  exact (List.take_sublist _ _).trans (List.drop_sublist _ _)
theorem sl_runD {x : V} {lo hi : Option Int} {Q : VK} {d r : DV} (S : Sim X.K Z H R) (m : (⟨n, d, x⟩ : Root) ∈ R) (hn : n ≤ 1) (hg : slD d lo hi = some r) (hq : ∀ w H', Sim X.K Z H' (⟨1, r, w⟩ :: R) → Q w H') :
    (rSlL X.K x lo hi H Q ∨ rSlA X.K x lo hi H Q) ∨ rSlS x lo hi H Q := by
  cases d with
  | s ns =>
    cases hg
    obtain ⟨a, rfl, hl⟩ := S.script m
    refine .inl (.inl ⟨a, _, rfl, hl, fun p hp => hq _ _ ?_⟩)
    have e : cutV (ns.map V.int) lo hi = ((ns.drop (HT.sIx ns.length 0 lo)).take (HT.sIx ns.length ns.length hi - HT.sIx ns.length 0 lo)).map V.int := by
      unfold cutV; rw [List.length_map, List.map_take, List.map_drop]
    rw [e]
    exact Sim.mkL (n := 0) (kids_scal 0 S) (by simp) hp
  | d x =>
    cases x with
    | list xs =>
      cases hg
      obtain ⟨a, vs, rfl, h1, hl, S2⟩ := S.openL m hn
      have k := kids_cut (m := 0) (lo := lo) (hi := hi) hl
      exact .inl (.inl ⟨a, vs, rfl, .of h1, fun p hp => hq _ _ (Sim.mkL (n := 0) (S2.sub (k.1.append_right R)) k.2 hp)⟩)
    | tuple xs =>
      cases hg
      obtain ⟨a, vs, rfl, h1, hl, S2⟩ := S.openT m hn
      have k := kids_cut (m := 0) (lo := lo) (hi := hi) hl
      refine .inl (.inr ⟨a, vs, rfl, h1, fun z => ?_, fun _ p hp => hq _ _ (Sim.mkT (n := 0) (S2.sub (k.1.append_right R)) k.2 hp)⟩)
      have e : cutP xs lo hi = xs := by unfold cutP; rw [hl, z.1, z.2, List.drop_zero, Nat.sub_zero, ← hl, List.take_length]
      rw [e] at hq
      exact hq _ _ (S.again m hn)
    | str y =>
      have hg : (if y.length ≤ big then some (DV.d (.str (cutS y lo hi))) else none) = some r := hg
      split at hg
      · rename_i hx
        cases hg
        rw [S.str m]
        exact .inr ⟨_, rfl, big_line hx, hq _ _ S.cstr⟩
      · cases hg
    | _ => cases hg
  | _ => cases hg
theorem sl_all : SlR X (fun x lo hi H Q => (rSlL X.K x lo hi H Q ∨ rSlA X.K x lo hi H Q) ∨ rSlS x lo hi H Q) := (sl_list.or sl_tupA).or sl_str
def slM (ta : Tm) (fa : M DV) (fl fh : M (Option Int)) : M DV := fun env => (fa env).bind fun d e1 => (fl e1).bind fun lo e2 => (fh e2).bind fun hi e => .ofO ((ta.now d e).bind fun x => slD x lo hi) e
theorem je_slice {lo hi : Option Expr} {fl fh : M (Option Int)} {p2 : Pos} (ha : JE X Z W φ a φ1 ta fa) (hl : JO X Z W φ1 lo φ2 fl) (hh : JO X Z W φ2 hi φ3 fh) :
    JE X Z W φ (.Subscript a (.Slice lo hi none p2) pos) (capS 1 (slotsOf [ta]) φ3) (.v 1) (slM ta fa fl fh) := by
  refine pe_imp (pe_slice sl_all ha hl hh) fun σ H Q ⟨L, env, S, h⟩ => ?_
  refine rdE.go S (h.bind.mono fun d e1 h1 v H1 S1 => ?_)
  refine rdO.go S1 (h1.bind.mono fun lo e2 h2 H2 S2 => ?_)
  refine rdO.go S2 (h2.bind.mono fun hi e3 h3 H3 S3 => ?_)
  obtain ⟨r, q, h4⟩ := h3.ofO
  obtain ⟨x, q, q2⟩ := Option.bind_eq_some_iff.mp q
  obtain ⟨n, hn, m⟩ := S3.memC (c := 1) (h := ⟨ta, d, v⟩) List.mem_cons_self q
  have S4 := S3.cap 1
  have key : ∀ w H', Sim X.K Z H' (⟨1, r, w⟩ :: _) → Q w H' := fun w H' s => h4 w H' (Stt.done (as := [Held.cap 1 ⟨ta, d, v⟩]) (hs := []) S4 s)
  exact sl_runD S4.sim m hn q2 key
end
end Lk
namespace Lk
open PySem PySem.Spec L2

inductive Md where
  | fz
  | io (m m' : Nat)
inductive Res where
  | ok (d : DV) (outs : List DV)
  | ex (c : Nat) (g : PyData)
  | bad
def argR : List Md → List DV → List V → List Root
  | .fz :: ms, d :: ds, v :: vs => ⟨0, d, v⟩ :: argR ms ds vs
  | .io m _ :: ms, d :: ds, v :: vs => ⟨m, d, v⟩ :: argR ms ds vs
  | _, _, _ => []
def outR : List Md → List DV → List V → List Root
  | .fz :: ms, outs, _ :: vs => outR ms outs vs
  | .io _ m' :: ms, o :: outs, v :: vs => ⟨m', o, v⟩ :: outR ms outs vs
  | _, _, _ => []
def XC (K : PySem.W.Frag) (Z : ClT) (E : XK) (L : List Root) (c : Nat) (g : PyData) : Prop :=
  ∀ (C a : Addr) (v : V) (H' : Hp), Z c = some C → H' a = some (.xd [(fldOf c, v)]) → Sim K Z H' (⟨0, .d g, v⟩ :: L) → E (.ref C) (some a) H'
def spD (K : PySem.W.Frag) (Z : ClT) (ms : List Md) (kr : Nat) (F : List DV → Res) : Sp := fun vs H Q E => ∃ L ds, vs.length = ms.length ∧ ds.length = ms.length ∧ Sim K Z H (argR ms ds vs ++ L) ∧ match F ds with
  | .ok d outs => ∀ v H', Sim K Z H' (⟨kr, d, v⟩ :: (outR ms outs vs ++ L)) → Q v H'
  | .ex c g => XC K Z E L c g
  | .bad => False
structure FnOkG (P : Program) (w : World) (K : PySem.W.Frag) (mg : Str → Option Value) (base : Heap) (k : Nat) (f : Addr) (fd : FuncData) (ps : List Str) (sp : Sp) : Prop where
  len : ∀ vs H Q E, sp vs H Q E → vs.length = ps.length
  run : ∀ (A : Around) (outer : List PySem.Env) (s : Shared) (H : Hp) (args : Args) (us : List Value) (vs : List V) (Q : VK) (E : XK), Room k A → A.guards = some [] → Env0 P w K mg base A outer s H → BindsTo s fd args (ps.zip us) →
    Vals vs us → sp vs H Q E → codeAny (model P w) A (.call (.ref f) args) (CR (L2.CX P w) outer P w H s Q E) s
theorem FnOkG.mono {P : Program} {w : World} {K : PySem.W.Frag} {mg : Str → Option Value} {base : Heap} {j k : Nat} {f : Addr} {fd : FuncData} {ps : List Str} {sp : Sp} (F : FnOkG P w K mg base j f fd ps sp) (h : j ≤ k) : FnOkG P w K mg base k f fd ps sp :=
  ⟨F.len, fun A outer s H args us vs Q E hr => F.run A outer s H args us vs Q E (hr.mono h)⟩

section
variable {X : Cx} {Z : ClT} {W : WX} {φ φ1 φ2 φ' : List Nat} {t ta : Tm} {ts : List Tm} {fa : M DV} {f : M (List DV)} {σ : St} {H : Hp} {L : List Root} {env : Ev} {hs : List Held} {a : Expr} {es : List Expr} {pos p : Pos} {k : Nat} {fn : Addr} {fd : FuncData} {ps : List Str} {sp : Sp} {x : Str}
theorem run_g {pins : List (Addr × Obj)} {s : Shared} {Q : VK} {us : List Value} {vs : List V} (F : FnOkG X.prog X.w X.K X.mg X.base k fn fd ps sp) (hr : Room k X.A) (hgd : X.A.guards = some []) (hb : Binds X.K fd ps []) (tk : Takes X W)
    (I : Inv X pins σ H s) (r : Vals vs us) (h : sp vs H Q fun cls d H' => W cls d σ H') : wpAny (model X.prog X.w) X.A (call (.ref fn) us) (EP X pins σ Q) X.xe s := by
  have hl : (us ++ []).length = ps.length := by
    rw [List.append_nil, ← r.length]
    exact F.len _ _ _ _ h
  have run := F.run X.A X.stack s H ⟨us, []⟩ us vs Q _ hr hgd I.env0 (by have q := hb s us I.kIn hl; rwa [List.append_nil] at q) r h
  refine wpAny_call (codeAny_mono run fun o s' hq => ?_)
  match o, hq with
  | .error e, hq => exact tk e s' (XE.of_call I (fun _ _ _ z => z) hq)
  | .ok (.ret u), hq => exact I.after hq
  | .ok .next, hq => exact False.elim hq
  | .ok .brk, hq => exact False.elim hq
  | .ok .cont, hq => exact False.elim hq
theorem pe_callG {t : TA} (F : FnOkG X.prog X.w X.K X.mg X.base k fn fd ps sp) (hr : Room k X.A) (hgd : X.A.guards = some []) (hg : Gl X x) (hm : X.mg x = some (.ref fn)) (hk : PySem.W.keepIn X.K (.ref fn) = true) (hb : Binds X.K fd ps []) (tk : Takes X W)
    (hdb : (x == ("__debug__" : Str)) = false) (hs : noStar a = true) (hpl : es.all noStar = true) (ha : PA X (a :: es) t) : PE X (.Call (.Name x p) (a :: es) [] pos) (fun σ H Q => t σ H fun vs H1 => sp vs H1 Q fun cls d H' => W cls d σ H') := by
  constructor
  intro pins s σ H Q I h
  have body := fun (s1 : Shared) (us : List Value) (q : AP X pins σ (fun vs H1 => sp vs H1 Q fun cls d H' => W cls d σ H') us s1) =>
    show X.K.In s1.heap ∧ wpAny (model X.prog X.w) X.A (call (.ref fn) us) (EP X pins σ Q) X.xe s1 from
    let ⟨_, _, I1, r, z⟩ := q
    ⟨I1.kIn, run_g F hr hgd hb tk I1 r z⟩
  refine wpAny_Call_Name_kw (ld_glob I hg hm ?_ hdb)
  exact PySem.W.callWith_K (h₀ := X.base) I.ok.mod.kin hk (thn (ha.run pos pins s σ H _ I h) fun us s1 q => body s1 us q) (star_eq hs) (star_any hpl)

/-! ### operands as a call wants them -/
/-- frozen parameters get values, the others a name each -/
def fitM : List Md → List Tm → List Nat → Bool
  | .fz :: ms, .v _ :: ts, φ => fitM ms ts φ
  | .io m _ :: ms, .sl i :: ts, φ => (match φ[i]? with
    | some n => decide (m ≤ n)
    | none => false) && !(ts.any fun t => match t with
      | .sl j => i == j
      | .v _ => false) && fitM ms ts φ
  | .io m _ :: ms, .v k :: ts, φ => decide (m ≤ k) && fitM ms ts φ
  | [], [], _ => true
  | _, _, _ => false
/-- the slots handed over are empty meanwhile -/
def clrM : List Tm → Ev → Ev
  | .sl i :: ts, e => clrM ts (e.set i none)
  | .v _ :: ts, e => clrM ts e
  | [], e => e
def putM : List Md → List Tm → List DV → Ev → Option Ev
  | .fz :: ms, _ :: ts, outs, e => putM ms ts outs e
  | .io _ _ :: ms, .sl i :: ts, o :: outs, e => putM ms ts outs (e.set i (some o))
  | .io _ _ :: ms, .v _ :: ts, _ :: outs, e => putM ms ts outs e
  | [], [], [], e => some e
  | _, _, _, _ => none
def flM : List Md → List Tm → List Nat → List Nat
  | .fz :: ms, _ :: ts, φ => flM ms ts φ
  | .io _ m' :: ms, .sl i :: ts, φ => flM ms ts (φ.set i m')
  | .io _ _ :: ms, .v _ :: ts, φ => flM ms ts φ
  | _, _, φ => φ
theorem Al.clr : ∀ {φ : List Nat} {e : Ev} {σ : St} {i : Nat}, Al φ e σ → Al φ (e.set i none) σ
  | [], [], [], _, a => a
  | _ :: φ, d :: e, v :: σ, 0, a => ⟨fun h => by simp at h, a.2⟩
  | _ :: φ, d :: e, v :: σ, i + 1, a => ⟨a.1, Al.clr (i := i) a.2⟩
  | [], [], _ :: _, _, a => a.elim
  | [], _ :: _, [], _, a => a.elim
  | [], _ :: _, _ :: _, _, a => a.elim
  | _ :: _, [], [], _, a => a.elim
  | _ :: _, [], _ :: _, _, a => a.elim
  | _ :: _, _ :: _, [], _, a => a.elim
theorem slot_set_ne {e : Ev} {i j : Nat} {o : Option DV} (h : i ≠ j) : slot (e.set i o) j = slot e j := by
  unfold slot
  rw [List.getElem?_set_ne h]
theorem nowsD_set {e : Ev} {i : Nat} {o : Option DV} : ∀ {ts : List Tm} {ds : List DV}, (ts.any fun t => match t with
    | .sl j => i == j
    | .v _ => false) = false → nowsD ts ds (e.set i o) = nowsD ts ds e
  | [], [], _ => rfl
  | [], _ :: _, _ => rfl
  | _ :: _, [], _ => rfl
  | t :: ts, d :: ds, h => by
    simp only [List.any_cons, Bool.or_eq_false_iff] at h
    unfold nowsD
    rw [nowsD_set h.2]
    cases t with
    | v k => rfl
    | sl j =>
      have hne : i ≠ j := by simpa using h.1
      show (match slot (e.set i o) j, _ with | some x, some xs => some (x :: xs) | _, _ => none) = _
      rw [slot_set_ne hne]; rfl
/-- into the call -/
theorem call_in : ∀ {ms : List Md} {ts : List Tm} {ds : List DV} {vs : List V} {xs : List DV} {e : Ev} {R : List Root}, fitM ms ts φ = true → ds.length = ts.length → vs.length = ts.length → nowsD ts ds e = some xs → (∀ h ∈ zipH ts ds vs, h.at σ) → Al φ e σ →
    Sim X.K Z H (hrts (zipH ts ds vs) ++ (roots φ e σ ++ R)) → Sim X.K Z H (argR ms xs vs ++ (roots φ (clrM ts e) σ ++ R)) ∧ Al φ (clrM ts e) σ ∧ xs.length = ms.length ∧ vs.length = ms.length
  | [], [], [], [], xs, e, R, _, _, _, h, _, al, S => by
    cases h
    exact ⟨S, al, rfl, rfl⟩
  | .fz :: ms, .v k :: ts, d :: ds, v :: vs, xs, e, R, hf, hd, hv, h, hat, al, S => by
    unfold nowsD at h
    cases q : nowsD ts ds e with
    | none => rw [q] at h; cases h
    | some ys =>
      rw [q] at h
      cases h
      have S2 : Sim X.K Z H (hrts (zipH ts ds vs) ++ (roots φ e σ ++ (⟨k, d, v⟩ :: R))) := by
        refine S.perm ?_
        show (⟨k, d, v⟩ :: (hrts (zipH ts ds vs) ++ (roots φ e σ ++ R))).Perm _
        rw [← List.append_assoc, ← List.append_assoc]
        exact List.perm_middle.symm
      obtain ⟨S3, a3, l1, l2⟩ := call_in (ms := ms) hf (by simpa using hd) (by simpa using hv) q (fun h hh => hat h (List.mem_cons_of_mem _ hh)) al S2
      refine ⟨?_, a3, by simp [l1], by simp [l2]⟩
      have S4 := S3.less (R' := argR ms ys vs ++ (roots φ (clrM ts e) σ ++ (⟨0, d, v⟩ :: R))) (Less.app (Less.refl _) (Less.app (Less.refl _) (.cons ⟨Nat.zero_le _, rfl, rfl⟩ (Less.refl _))))
      refine S4.perm (?_ : List.Perm _ (⟨0, d, v⟩ :: (argR ms ys vs ++ (roots φ (clrM ts e) σ ++ R))))
      rw [← List.append_assoc, ← List.append_assoc]
      exact List.perm_middle
  | .io m m' :: ms, .sl i :: ts, d :: ds, v :: vs, xs, e, R, hf, hd, hv, h, hat, al, S => by
    unfold fitM at hf
    simp only [Bool.and_eq_true, Bool.not_eq_true'] at hf
    obtain ⟨⟨hf1, hf2⟩, hf3⟩ := hf
    unfold nowsD at h
    cases q0 : (Tm.sl i).now d e with
    | none => rw [q0] at h; cases h
    | some x =>
      cases q : nowsD ts ds e with
      | none => rw [q0, q] at h; cases h
      | some ys =>
        rw [q0, q] at h
        cases h
        have q0' : slot e i = some x := q0
        obtain ⟨n, v', g1, g2, gp⟩ := al.get q0'
        have hvv : v' = v := by
          have z : σ[i]? = some (some v) := hat _ List.mem_cons_self
          rw [g2] at z; cases z; rfl
        subst hvv
        rw [g1] at hf1
        have hmn : m ≤ n := of_decide_eq_true hf1
        have S2 : Sim X.K Z H (hrts (zipH ts ds vs) ++ (roots φ (e.set i none) σ ++ (⟨m, x, v'⟩ :: R))) := by
          have S1 : Sim X.K Z H (⟨n, x, v'⟩ :: (hrts (zipH ts ds vs) ++ (roots φ (e.set i none) σ ++ R))) := by
            refine S.perm ?_
            show (hrts (zipH ts ds vs) ++ (roots φ e σ ++ R)).Perm _
            refine (List.Perm.append_left _ (List.Perm.append_right R gp)).trans ?_
            exact List.perm_middle
          refine (S1.weak hmn).perm ?_
          rw [← List.append_assoc, ← List.append_assoc]
          exact List.perm_middle.symm
        obtain ⟨S3, a3, l1, l2⟩ := call_in (ms := ms) hf3 (by simpa using hd) (by simpa using hv) ((nowsD_set hf2).trans q) (fun h hh => hat h (List.mem_cons_of_mem _ hh)) al.clr S2
        refine ⟨S3.perm (?_ : List.Perm _ (⟨m, x, v'⟩ :: (argR ms ys vs ++ (roots φ (clrM ts (e.set i none)) σ ++ R)))), a3, by simp [l1], by simp [l2]⟩
        rw [← List.append_assoc, ← List.append_assoc]
        exact List.perm_middle
  | [], _ :: _, _, _, _, _, _, hf, _, _, _, _, _, _ => by simp [fitM] at hf
  | .fz :: _, [], _, _, _, _, _, hf, _, _, _, _, _, _ => by simp [fitM] at hf
  | .io _ _ :: _, [], _, _, _, _, _, hf, _, _, _, _, _, _ => by simp [fitM] at hf
  | .fz :: _, .sl _ :: _, _, _, _, _, _, hf, _, _, _, _, _, _ => by simp [fitM] at hf
  | .io m m' :: ms, .v k :: ts, d :: ds, v :: vs, xs, e, R, hf, hd, hv, h, hat, al, S => by
    unfold fitM at hf
    simp only [Bool.and_eq_true, decide_eq_true_eq] at hf
    unfold nowsD at h
    cases q : nowsD ts ds e with
    | none => rw [q] at h; cases h
    | some ys =>
      rw [q] at h
      cases h
      have S2 : Sim X.K Z H (hrts (zipH ts ds vs) ++ (roots φ e σ ++ (⟨k, d, v⟩ :: R))) := by
        refine S.perm ?_
        show (⟨k, d, v⟩ :: (hrts (zipH ts ds vs) ++ (roots φ e σ ++ R))).Perm _
        rw [← List.append_assoc, ← List.append_assoc]
        exact List.perm_middle.symm
      obtain ⟨S3, a3, l1, l2⟩ := call_in (ms := ms) hf.2 (by simpa using hd) (by simpa using hv) q (fun h hh => hat h (List.mem_cons_of_mem _ hh)) al S2
      refine ⟨?_, a3, by simp [l1], by simp [l2]⟩
      have S4 := S3.less (R' := argR ms ys vs ++ (roots φ (clrM ts e) σ ++ (⟨m, d, v⟩ :: R))) (Less.app (Less.refl _) (Less.app (Less.refl _) (.cons ⟨hf.1, rfl, rfl⟩ (Less.refl _))))
      refine S4.perm (?_ : List.Perm _ (⟨m, d, v⟩ :: (argR ms ys vs ++ (roots φ (clrM ts e) σ ++ R))))
      rw [← List.append_assoc, ← List.append_assoc]
      exact List.perm_middle
  | [], [], _ :: _, _, _, _, _, _, hd, _, _, _, _, _ => by simp at hd
  | [], [], [], _ :: _, _, _, _, _, _, hv, _, _, _, _ => by simp at hv
  | .fz :: _, .v _ :: _, [], _, _, _, _, _, hd, _, _, _, _, _ => by simp at hd
  | .fz :: _, .v _ :: _, _ :: _, [], _, _, _, _, _, hv, _, _, _, _ => by simp at hv
  | .io _ _ :: _, .sl _ :: _, [], _, _, _, _, _, hd, _, _, _, _, _ => by simp at hd
  | .io _ _ :: _, .sl _ :: _, _ :: _, [], _, _, _, _, _, hv, _, _, _, _ => by simp at hv

theorem roots_clr : ∀ {φ : List Nat} {e : Ev} {σ : St} {i : Nat}, (roots φ (e.set i none) σ).Sublist (roots φ e σ)
  | n :: φ, some d :: e, some v :: σ, 0 => List.sublist_cons_self _ _
  | n :: φ, none :: e, some v :: σ, 0 => .refl _
  | n :: φ, some d :: e, none :: σ, 0 => .refl _
  | n :: φ, none :: e, none :: σ, 0 => .refl _
  | n :: φ, some d :: e, some v :: σ, i + 1 => .cons_cons _ (roots_clr (i := i))
  | n :: φ, none :: e, some v :: σ, i + 1 => roots_clr (i := i)
  | n :: φ, some d :: e, none :: σ, i + 1 => roots_clr (i := i)
  | n :: φ, none :: e, none :: σ, i + 1 => roots_clr (i := i)
  | [], e, σ, i => by cases e <;> cases i <;> exact .refl _
  | _ :: _, [], σ, i => .refl _
  | _ :: _, d :: _, [], i => by cases d <;> cases i <;> exact .refl _
theorem call_out : ∀ {ms : List Md} {ts : List Tm} {ds : List DV} {vs : List V} {outs : List DV} {e e' : Ev} {φ ψ : List Nat} {R : List Root}, fitM ms ts ψ = true → ds.length = ts.length → vs.length = ts.length → putM ms ts outs e = some e' → (∀ h ∈ zipH ts ds vs, h.at σ) → Al φ e σ →
    Sim X.K Z H (outR ms outs vs ++ (roots φ e σ ++ R)) → Sim X.K Z H (roots (flM ms ts φ) e' σ ++ R) ∧ Al (flM ms ts φ) e' σ
  | [], [], _, _, [], e, e', φ, ψ, R, _, _, _, hp, _, al, S => by
    cases hp
    exact ⟨S, al⟩
  | .fz :: ms, .v k :: ts, d :: ds, v :: vs, outs, e, e', φ, ψ, R, hf, hd, hv, hp, hat, al, S =>
    call_out (ms := ms) (ts := ts) (ds := ds) (vs := vs) (ψ := ψ) hf (by simpa using hd) (by simpa using hv) hp (fun h hh => hat h (List.mem_cons_of_mem _ hh)) al S
  | .io m m' :: ms, .sl i :: ts, d :: ds, v :: vs, o :: outs, e, e', φ, ψ, R, hf, hd, hv, hp, hat, al, S => by
    unfold fitM at hf
    simp only [Bool.and_eq_true, Bool.not_eq_true'] at hf
    have z : σ[i]? = some (some v) := hat _ List.mem_cons_self
    obtain ⟨a2, p2⟩ := al.setE (d' := o) m' z
    refine call_out (ms := ms) (ts := ts) (ds := ds) (vs := vs) (ψ := ψ) hf.2 (by simpa using hd) (by simpa using hv) hp (fun h hh => hat h (List.mem_cons_of_mem _ hh)) a2 ?_
    have S1 : Sim X.K Z H (⟨m', o, v⟩ :: (outR ms outs vs ++ (roots φ (e.set i none) σ ++ R))) :=
      S.sub (.cons_cons _ (List.Sublist.append_left (List.Sublist.append_right roots_clr R) _))
    refine S1.perm ?_
    refine List.Perm.trans ?_ (List.Perm.append_left _ (List.Perm.append_right R p2.symm))
    rw [List.cons_append]
    exact List.perm_middle.symm
  | [], _ :: _, _, _, _, _, _, _, _, _, hf, _, _, _, _, _, _ => by simp [fitM] at hf
  | .fz :: _, [], _, _, _, _, _, _, _, _, hf, _, _, _, _, _, _ => by simp [fitM] at hf
  | .io _ _ :: _, [], _, _, _, _, _, _, _, _, hf, _, _, _, _, _, _ => by simp [fitM] at hf
  | .fz :: _, .sl _ :: _, _, _, _, _, _, _, _, _, hf, _, _, _, _, _, _ => by simp [fitM] at hf
  | .io m m' :: ms, .v k :: ts, d :: ds, v :: vs, o :: outs, e, e', φ, ψ, R, hf, hd, hv, hp, hat, al, S => by
    unfold fitM at hf
    simp only [Bool.and_eq_true, decide_eq_true_eq] at hf
    exact call_out (ms := ms) (ts := ts) (ds := ds) (vs := vs) (ψ := ψ) hf.2 (by simpa using hd) (by simpa using hv) hp (fun h hh => hat h (List.mem_cons_of_mem _ hh)) al (S.sub (List.sublist_cons_self _ _))
  | .io _ _ :: _, .v _ :: _, _, _, [], _, _, _, _, _, _, _, _, hp, _, _, _ => by simp [putM] at hp
  | .io _ _ :: _, .v _ :: _, [], _, _ :: _, _, _, _, _, _, _, hd, _, _, _, _, _ => by simp at hd
  | .io _ _ :: _, .v _ :: _, _ :: _, [], _ :: _, _, _, _, _, _, _, _, hv, _, _, _, _ => by simp at hv
  | [], [], _, _, _ :: _, _, _, _, _, _, _, _, _, hp, _, _, _ => by simp [putM] at hp
  | .io _ _ :: _, .sl _ :: _, _, _, [], _, _, _, _, _, _, _, _, hp, _, _, _ => by simp [putM] at hp
  | .fz :: _, .v _ :: _, [], _, _, _, _, _, _, _, _, hd, _, _, _, _, _ => by simp at hd
  | .fz :: _, .v _ :: _, _ :: _, [], _, _, _, _, _, _, _, _, hv, _, _, _, _ => by simp at hv
  | .io _ _ :: _, .sl _ :: _, [], _, _ :: _, _, _, _, _, _, _, hd, _, _, _, _, _ => by simp at hd
  | .io _ _ :: _, .sl _ :: _, _ :: _, [], _ :: _, _, _, _, _, _, _, _, hv, _, _, _, _ => by simp at hv
def callF (F : List DV → Res) (ms : List Md) (ts : List Tm) (f : M (List DV)) : M DV := fun env => (f env).bind fun ds e => match nowsD ts ds e with
  | some xs => (match F xs with
    | .ok d outs => (match putM ms ts outs (clrM ts e) with
      | some e' => .ok d e'
      | none => .bad)
    | .ex c g => .ex c g (clrM ts e)
    | .bad => .bad)
  | none => .bad
theorem zeros_le : ∀ {φ : List Nat} {e : Ev}, φ.length = e.length → leN (zeros e) φ = true
  | [], [], _ => rfl
  | n :: φ, d :: e, h => by
    show (decide (0 ≤ n) && leN (zeros e) φ) = true
    simp [zeros_le (φ := φ) (e := e) (by simpa using h)]
  | [], _ :: _, h => by simp at h
  | _ :: _, [], h => by simp at h
theorem callF_core {F : List DV → Res} {ms : List Md} {kr : Nat} {Q : VK} {ds : List DV} {vs : List V} (hf : fitM ms ts φ2 = true) (hl : ds.length = ts.length) (hv : vs.length = ts.length) (S : Stt X.K Z φ2 env (zipH ts ds vs) σ H L)
    (h : Wish X.K Z W L (match nowsD ts ds env with
      | some xs => (match F xs with
        | .ok d outs => (match putM ms ts outs (clrM ts env) with
          | some e' => Out.ok d e'
          | none => .bad)
        | .ex c g => .ex c g (clrM ts env)
        | .bad => .bad)
      | none => .bad) fun d e' => ∀ v H', Stt X.K Z (flM ms ts φ2) e' [⟨.v kr, d, v⟩] σ H' L → Q v H') : spD X.K Z ms kr F vs H Q fun cls d H' => W cls d σ H' := by
  cases q : nowsD ts ds env with
  | none => rw [q] at h; exact h.elim
  | some xs =>
    rw [q] at h
    simp only at h
    obtain ⟨S2, a2, l1, l2⟩ := call_in hf hl hv q S.at' S.al S.sim
    refine ⟨_, xs, l2, l1, S2, ?_⟩
    cases q2 : F xs with
    | bad => rw [q2] at h; exact h.elim
    | ex c g =>
      rw [q2] at h
      have h : XP X.K Z W L c g (clrM ts env) := h
      intro C a v H' hz hx S3
      have hlen := a2.len
      obtain ⟨a3, le3⟩ := a2.less (zeros_le (by rw [hlen.1, hlen.2]))
      exact h C a v σ H' hz hx (S3.less (.cons ⟨Nat.le_refl _, rfl, rfl⟩ (Less.app le3 (Less.refl L)))) a3
    | ok d outs =>
      rw [q2] at h
      simp only at h
      cases q3 : putM ms ts outs (clrM ts env) with
      | none => rw [q3] at h; exact h.elim
      | some e' =>
        rw [q3] at h
        intro v H' S3
        have S4 : Sim X.K Z H' (outR ms outs vs ++ (roots φ2 (clrM ts env) σ ++ (⟨kr, d, v⟩ :: L))) := by
          refine S3.perm ?_
          rw [← List.append_assoc, ← List.append_assoc]
          exact List.perm_middle.symm
        obtain ⟨S5, a5⟩ := call_out hf hl hv q3 S.at' a2 S4
        refine h v H' ⟨S5.perm ?_, a5, fun x hx => ?_⟩
        · show (roots (flM ms ts φ2) e' σ ++ (⟨kr, d, v⟩ :: L)).Perm (⟨kr, d, v⟩ :: (roots (flM ms ts φ2) e' σ ++ L))
          exact List.perm_middle
        · rw [List.mem_singleton.mp hx]; trivial
theorem je_call {F : List DV → Res} {ms : List Md} {kr : Nat} (G : FnOkG X.prog X.w X.K X.mg X.base k fn fd ps (spD X.K Z ms kr F)) (hr : Room k X.A) (hgd : X.A.guards = some []) (hg : Gl X x) (hm : X.mg x = some (.ref fn)) (hk : PySem.W.keepIn X.K (.ref fn) = true) (hb : Binds X.K fd ps [])
    (tk : Takes X W) (hdb : (x == ("__debug__" : Str)) = false) (hs : noStar a = true) (hpl : es.all noStar = true) (ha : JA X Z W φ (a :: es) φ2 ts f) (hf : fitM ms ts φ2 = true) :
    JE X Z W φ (.Call (.Name x p) (a :: es) [] pos) (flM ms ts φ2) (.v kr) (callF F ms ts f) := by
  refine pe_imp (pe_callG G hr hgd hg hm hk hb tk hdb hs hpl ha) fun σ H Q ⟨L, env, S, h⟩ => ?_
  exact ⟨L, env, S, h.bind.mono fun ds e' h1 vs H' hl hv S' => callF_core hf hl hv S' h1⟩
end
end Lk
namespace Lk
open PySem PySem.Spec L2

inductive Fl where
  | nx | br | ct
  | rt (d : DV)
def outsAt (P : List (Nat × Nat)) (e : Ev) : Option (List DV) := match P with
  | [] => some []
  | (i, _) :: P => match slot e i, outsAt P e with
    | some d, some ds => some (d :: ds)
    | _, _ => none
def retR : List (Nat × Nat) → List DV → List V → List Root
  | (_, m) :: P, d :: ds, v :: vs => ⟨m, d, v⟩ :: retR P ds vs
  | _, _, _ => []
/-- the values of the parameters that go back stand in their slots -/
def Pok (P : List (Nat × Nat)) (pv : List V) (σ : St) : Prop := Paired (fun p v => σ[p.1]? = some (some v)) P pv
section
variable (X : Cx) (Z : ClT) (W : WX) (P : List (Nat × Nat)) (kr : Nat)
structure SF where
  n : List Nat
  b : List Nat
  c : List Nat
def rdS (φ : List Nat) (ψ : SF) (g : M Fl) : TS := fun D σ H => ∃ L env pv, Stt X.K Z φ env [] σ H L ∧ Pok P pv σ ∧ Wish X.K Z W L (g env) fun fl e' => match fl with
  | .nx => ∀ σ' H', Stt X.K Z ψ.n e' [] σ' H' L → Pok P pv σ' → D.nx σ' H'
  | .br => ∀ σ' H', Stt X.K Z ψ.b e' [] σ' H' L → Pok P pv σ' → D.bk σ' H'
  | .ct => ∀ σ' H', Stt X.K Z ψ.c e' [] σ' H' L → Pok P pv σ' → D.ct σ' H'
  | .rt d => ∃ outs, outsAt P e' = some outs ∧ ∀ v H', Sim X.K Z H' (⟨kr, d, v⟩ :: (retR P outs pv ++ L)) → D.rt v H'
def JS (φ : List Nat) (s : Stmt) (ψ : SF) (g : M Fl) : Prop := PS X s (rdS X Z W P kr φ ψ g)
def JSs (φ : List Nat) (s : List Stmt) (ψ : SF) (g : M Fl) : Prop := PSs X s (rdS X Z W P kr φ ψ g)
end
section
variable {X : Cx} {Z : ClT} {W : WX} {P : List (Nat × Nat)} {kr : Nat} {φ φ1 φ2 : List Nat} {ψ ψ1 ψ2 : SF} {t ta : Tm} {fa : M DV} {g g1 g2 : M Fl} {σ : St} {H : Hp} {L : List Root} {env : Ev} {a e : Expr} {st : Stmt} {sts : List Stmt} {pos pos' p : Pos} {k : Nat}
theorem ps_imp {t t' : TS} (h : PS X st t) (i : ∀ D σ H, t' D σ H → t D σ H) : PS X st t' := ⟨fun pins s σ H D I q => h.run pins s σ H D I (i _ _ _ q)⟩
theorem pss_imp {t t' : TS} (h : PSs X sts t) (i : ∀ D σ H, t' D σ H → t D σ H) : PSs X sts t' := ⟨fun pins s σ H D I q => h.run pins s σ H D I (i _ _ _ q)⟩
/-- flags at all ends lessened -/
def leF (ψ χ : SF) : Bool := leN ψ.n χ.n && leN ψ.b χ.b && leN ψ.c χ.c
theorem rdS.imp {D D' : Ends} (hl : leF ψ2 ψ1 = true) (h : rdS X Z W P kr φ ψ2 g D σ H) (hn : D.nx = D'.nx) (hb : D.bk = D'.bk) (hc : D.ct = D'.ct) (hr : D.rt = D'.rt) : rdS X Z W P kr φ ψ1 g D' σ H := by
  obtain ⟨L, env, pv, S, hp, h⟩ := h
  unfold leF at hl
  simp only [Bool.and_eq_true] at hl
  refine ⟨L, env, pv, S, hp, h.mono fun fl e' q => ?_⟩
  cases fl with
  | nx => exact fun σ' H' s z => by rw [← hn]; exact q σ' H' (s.less hl.1.1) z
  | br => exact fun σ' H' s z => by rw [← hb]; exact q σ' H' (s.less hl.1.2) z
  | ct => exact fun σ' H' s z => by rw [← hc]; exact q σ' H' (s.less hl.2) z
  | rt d =>
    obtain ⟨outs, h1, h2⟩ := q
    exact ⟨outs, h1, fun v H' s => by rw [← hr]; exact h2 v H' s⟩
theorem js_less (h : JS X Z W P kr φ st ψ1 g) (hl : leF ψ2 ψ1 = true) : JS X Z W P kr φ st ψ2 g := ps_imp h fun D σ H q => q.imp hl rfl rfl rfl rfl
theorem jss_less (h : JSs X Z W P kr φ sts ψ1 g) (hl : leF ψ2 ψ1 = true) : JSs X Z W P kr φ sts ψ2 g := pss_imp h fun D σ H q => q.imp hl rfl rfl rfl rfl

def nxM : M Fl := fun e => .ok .nx e
theorem js_next (h : PS X st tNext) (hn : ψ.n = φ) : JS X Z W P kr φ st ψ nxM := ps_imp h fun D σ H ⟨L, env, pv, S, hp, q⟩ => by
  rw [hn] at q
  exact (show ∀ σ' H', Stt X.K Z φ env [] σ' H' L → Pok P pv σ' → D.nx σ' H' from q) σ H S hp
theorem js_pass (hn : ψ.n = φ) : JS X Z W P kr φ (.Pass pos) ψ nxM := js_next ps_pass hn
theorem js_doc {x : Str} {j : Nat} (hn : ψ.n = φ) : JS X Z W P kr φ (.Expr (.Constant (.str x) j pos) pos') ψ nxM := js_next ps_doc hn
theorem js_break (hn : ψ.b = φ) : JS X Z W P kr φ (.Break pos) ψ (fun e => .ok .br e) := ps_imp ps_break fun D σ H ⟨L, env, pv, S, hp, q⟩ => by
  rw [hn] at q
  exact (show ∀ σ' H', Stt X.K Z φ env [] σ' H' L → Pok P pv σ' → D.bk σ' H' from q) σ H S hp
theorem js_continue (hn : ψ.c = φ) : JS X Z W P kr φ (.Continue pos) ψ (fun e => .ok .ct e) := ps_imp ps_continue fun D σ H ⟨L, env, pv, S, hp, q⟩ => by
  rw [hn] at q
  exact (show ∀ σ' H', Stt X.K Z φ env [] σ' H' L → Pok P pv σ' → D.ct σ' H' from q) σ H S hp
def seqM (g1 g2 : M Fl) : M Fl := fun e => (g1 e).bind fun fl e' => match fl with
  | .nx => g2 e'
  | .br => .ok .br e'
  | .ct => .ok .ct e'
  | .rt d => .ok (.rt d) e'
theorem jss_nil (hn : ψ.n = φ) : JSs X Z W P kr φ [] ψ nxM := pss_imp pss_nil fun D σ H ⟨L, env, pv, S, hp, q⟩ => by
  rw [hn] at q
  exact (show ∀ σ' H', Stt X.K Z φ env [] σ' H' L → Pok P pv σ' → D.nx σ' H' from q) σ H S hp
theorem jss_cons (h1 : JS X Z W P kr φ st ψ1 g1) (h2 : JSs X Z W P kr ψ1.n sts ψ g2) (hb : leN ψ.b ψ1.b = true) (hc : leN ψ.c ψ1.c = true) : JSs X Z W P kr φ (st :: sts) ψ (seqM g1 g2) := by
  refine pss_imp (pss_cons h1 h2) fun D σ H ⟨L, env, pv, S, hp, q⟩ => ?_
  refine ⟨L, env, pv, S, hp, q.bind.mono fun fl e' q => ?_⟩
  cases fl with
  | nx => exact fun σ' H' s z => ⟨L, e', pv, s, z, q⟩
  | br => exact fun σ' H' s z => (show ∀ σ' H', Stt X.K Z ψ.b e' [] σ' H' L → Pok P pv σ' → D.bk σ' H' from q) σ' H' (s.less hb) z
  | ct => exact fun σ' H' s z => (show ∀ σ' H', Stt X.K Z ψ.c e' [] σ' H' L → Pok P pv σ' → D.ct σ' H' from q) σ' H' (s.less hc) z
  | rt d => exact q
def ifS (ft : M Bool) (g1 g2 : M Fl) : M Fl := fun e => (ft e).bind fun b e' => match b with
  | true => g1 e'
  | false => g2 e'
theorem js_if {c : Expr} {s1 s2 : List Stmt} {ft : M Bool} (hc : JT X Z W φ c φ1 ft) (h1 : JSs X Z W P kr φ1 s1 ψ1 g1) (h2 : JSs X Z W P kr φ1 s2 ψ2 g2) (l1 : leF ψ ψ1 = true) (l2 : leF ψ ψ2 = true) : JS X Z W P kr φ (.If c s1 s2 pos) ψ (ifS ft g1 g2) := by
  refine ps_imp (ps_if hc (jss_less h1 l1) (jss_less h2 l2)) fun D σ H ⟨L, env, pv, S, hp, q⟩ => ?_
  refine rdT.go S (q.bind.mono fun b e' q H' s => ?_)
  cases b with
  | true => exact ⟨L, e', pv, s, hp, q⟩
  | false => exact ⟨L, e', pv, s, hp, q⟩
/-! the value goes into a slot -/
theorem Stt.store {i : Nat} {d : DV} {v : V} (S : Stt X.K Z φ env [⟨.v k, d, v⟩] σ H L) (hi : i < env.length) : Stt X.K Z (φ.set i k) (env.set i (some d)) [] (σ.set i (some v)) H L := by
  obtain ⟨a, p⟩ := S.al.set (m := k) (d := d) (v := v) hi
  refine ⟨?_, a, fun _ h => nomatch h⟩
  have S1 : Sim X.K Z H (⟨k, d, v⟩ :: (roots φ (env.set i none) σ ++ L)) := S.sim.sub (.cons_cons _ (List.Sublist.append_right roots_clr L))
  refine S1.perm ?_
  exact (List.Perm.append_right L p.symm)
theorem Pok.set {pv : List V} {i : Nat} {v : V} (h : Pok P pv σ) (hi : P.all (fun p => p.1 != i) = true) : Pok P pv (σ.set i (some v)) := by
  induction h with
  | nil => exact .nil
  | cons q _ ih =>
    simp only [List.all_cons, Bool.and_eq_true] at hi
    refine .cons ?_ (ih hi.2)
    rw [List.getElem?_set_ne (by have := hi.1; simp at this; exact fun z => this z.symm)]
    exact q
def setM (i : Nat) (fa : M DV) : M Fl := fun env => (fa env).bind fun d e => if i < e.length then .ok .nx (e.set i (some d)) else .bad
theorem js_set {i : Nat} {x : Str} (hN : X.N.Nodup) (hi : X.N[i]? = some x) (hx : Loc X.env.scope x) (hf : X.fn x = true ∨ X.env.scope.names.lookup x = some .local) (hs : swapsWith e (some (.Name x pos')) pos.line X.env = pure false)
    (he : JE X Z W φ e φ1 (.v k) fa) (hP : P.all (fun p => p.1 != i) = true) (hn : ψ.n = φ1.set i k) : JS X Z W P kr φ (.Assign [.Name x pos'] e pos) ψ (setM i fa) := by
  refine ps_imp (ps_set hN hi hx he hs hf) fun D σ H ⟨L, env, pv, S, hp, q⟩ => ?_
  refine rdE.go S (q.bind.mono fun d e' q v H' s => ?_)
  split at q
  · rename_i hl
    rw [hn] at q
    exact (show ∀ σ' H', Stt X.K Z (φ1.set i k) (e'.set i (some d)) [] σ' H' L → Pok P pv σ' → D.nx σ' H' from q) _ _ (s.store hl) (hp.set hP)
  · exact q.elim
/-! return -/
def retM (P : List (Nat × Nat)) (fa : M DV) : M Fl := fun env => (fa env).bind fun d e => match outsAt P e with
  | some _ => .ok (.rt d) e
  | none => .bad
def retOk (P : List (Nat × Nat)) (φ : List Nat) : Bool := P.all fun p => match φ[p.1]? with
  | some n => decide (p.2 ≤ n)
  | none => false
theorem ret_core : ∀ {P : List (Nat × Nat)} {pv : List V} {outs : List DV} {e : Ev} {φ : List Nat} {R : List Root}, retOk P φ = true → (P.map (·.1)).Nodup → outsAt P e = some outs → Pok P pv σ → Al φ e σ → Sim X.K Z H (roots φ e σ ++ R) → Sim X.K Z H (retR P outs pv ++ R)
  | [], _, _, e, φ, R, _, _, ho, hp, _, S => by
    cases ho
    exact S.sub (List.sublist_append_right _ _)
  | (i, m) :: P, v :: pv, outs, e, φ, R, hr, hd, ho, .cons q hp, al, S => by
    unfold outsAt at ho
    cases q1 : slot e i with
    | none => rw [q1] at ho; cases ho
    | some d =>
      cases q2 : outsAt P e with
      | none => rw [q1, q2] at ho; cases ho
      | some ds =>
        rw [q1, q2] at ho
        cases ho
        unfold retOk at hr
        simp only [List.all_cons, Bool.and_eq_true] at hr
        obtain ⟨n, v', g1, g2, gp⟩ := al.get q1
        rw [q] at g2
        cases g2
        have hr1 := hr.1
        rw [g1] at hr1
        have hmn : m ≤ n := of_decide_eq_true hr1
        have S1 : Sim X.K Z H (⟨m, d, v⟩ :: (roots φ (e.set i none) σ ++ R)) := (S.perm (List.Perm.append_right R gp)).weak hmn
        have S2 : Sim X.K Z H (roots φ (e.set i none) σ ++ (⟨m, d, v⟩ :: R)) := S1.perm List.perm_middle.symm
        have hd' : i ∉ P.map (·.1) ∧ (P.map (·.1)).Nodup := List.nodup_cons.mp hd
        have q3 : outsAt P (e.set i none) = some ds := by
          rw [← q2]
          clear q2 hp hr S S1 S2
          have hd1 := hd'.1
          clear hd hd'
          induction P with
          | nil => rfl
          | cons p P ih =>
            obtain ⟨j, mj⟩ := p
            simp only [List.map_cons, List.mem_cons, not_or] at hd1
            unfold outsAt
            rw [slot_set_ne hd1.1, ih hd1.2]
        have S3 := ret_core (P := P) hr.2 hd'.2 q3 hp al.clr S2
        exact S3.perm List.perm_middle
theorem js_ret (he : JE X Z W φ e φ1 (.v k) fa) (hk : kr ≤ k) (hr : retOk P φ1 = true) (hd : (P.map (·.1)).Nodup) : JS X Z W P kr φ (.Return (some e) pos) ψ (retM P fa) := by
  refine ps_imp (ps_ret he) fun D σ H ⟨L, env, pv, S, hp, q⟩ => ?_
  refine rdE.go S (q.bind.mono fun d e' q v H' s => ?_)
  cases q1 : outsAt P e' with
  | none => rw [q1] at q; exact q.elim
  | some outs =>
    rw [q1] at q
    obtain ⟨outs', h1, h2⟩ : ∃ outs, outsAt P e' = some outs ∧ ∀ v H', Sim X.K Z H' (⟨kr, d, v⟩ :: (retR P outs pv ++ L)) → D.rt v H' := q
    rw [q1] at h1; cases h1
    refine h2 v H' ?_
    have S1 : Sim X.K Z H' (roots φ1 e' σ ++ (⟨kr, d, v⟩ :: L)) := by
      refine (Sim.weak s.sim hk).perm ?_
      show (⟨kr, d, v⟩ :: (roots φ1 e' σ ++ L)).Perm _
      exact List.perm_middle.symm
    exact (ret_core hr hd q1 hp s.al S1).perm List.perm_middle
theorem outsAt_clr {i : Nat} {e : Ev} : ∀ {P : List (Nat × Nat)}, P.all (fun p => p.1 != i) = true → outsAt P (e.set i none) = outsAt P e
  | [], _ => rfl
  | (j, m) :: P, h => by
    simp only [List.all_cons, Bool.and_eq_true] at h
    unfold outsAt
    rw [outsAt_clr h.2, slot_set_ne (by have := h.1; simp at this; exact fun z => this z.symm)]
/-- a name that is returned: what it holds goes over whole -/
theorem js_retV {i n : Nat} {x : Str} (hN : X.N[i]? = some x) (hv : Vis X.env.scope x) (hdb : (x == ("__debug__" : Str)) = false) (hcd : (x == ("__classdict__" : Str)) = false) (hφ : φ[i]? = some n) (hk : kr ≤ n) (hr : retOk P φ = true) (hd : (P.map (·.1)).Nodup) (hP : P.all (fun p => p.1 != i) = true) :
    JS X Z W P kr φ (.Return (some (.Name x p)) pos) ψ (retM P (slotM i)) := by
  refine ps_imp (ps_ret (pe_var hN hv hdb hcd)) fun D σ H ⟨L, env, pv, S, hp, q⟩ => ?_
  unfold retM slotM at q
  cases q0 : slot env i with
  | none => rw [q0] at q; exact q.elim
  | some d =>
    rw [q0] at q
    have q : Wish X.K Z W L (match outsAt P env with
      | some _ => Out.ok (Fl.rt d) env
      | none => .bad) _ := q
    cases q1 : outsAt P env with
    | none => rw [q1] at q; exact q.elim
    | some outs =>
      rw [q1] at q
      obtain ⟨outs', h1, h2⟩ : ∃ outs, outsAt P env = some outs ∧ ∀ v H', Sim X.K Z H' (⟨kr, d, v⟩ :: (retR P outs pv ++ L)) → D.rt v H' := q
      rw [q1] at h1; cases h1
      obtain ⟨n', v, g1, g2, gp⟩ := S.al.get q0
      rw [hφ] at g1; cases g1
      refine ⟨v, g2, h2 v H ?_⟩
      have S0 : Sim X.K Z H (roots φ env σ ++ L) := S.sim
      have S1 : Sim X.K Z H (⟨kr, d, v⟩ :: (roots φ (env.set i none) σ ++ L)) := (S0.perm (List.Perm.append_right L gp)).weak hk
      have S2 : Sim X.K Z H (roots φ (env.set i none) σ ++ (⟨kr, d, v⟩ :: L)) := S1.perm List.perm_middle.symm
      exact (ret_core hr hd ((outsAt_clr hP).trans q1) hp S.al.clr S2).perm List.perm_middle
theorem js_retN (hr : retOk P φ = true) (hd : (P.map (·.1)).Nodup) : JS X Z W P kr φ (.Return none pos) ψ (retM P (M.pure (.d .none))) := by
  refine ps_imp ps_retN fun D σ H ⟨L, env, pv, S, hp, q⟩ => ?_
  have q : Wish X.K Z W L (match outsAt P env with
    | some _ => Out.ok (Fl.rt (.d .none)) env
    | none => .bad) _ := q
  cases q1 : outsAt P env with
  | none => rw [q1] at q; exact q.elim
  | some outs =>
    rw [q1] at q
    obtain ⟨outs', h1, h2⟩ : ∃ outs, outsAt P env = some outs ∧ ∀ v H', Sim X.K Z H' (⟨kr, .d .none, v⟩ :: (retR P outs pv ++ L)) → D.rt v H' := q
    rw [q1] at h1; cases h1
    exact h2 .non H ((ret_core hr hd q1 hp S.al S.sim).scal (.d .non))
/-! a value that is dropped -/
def dropM (fa : M DV) : M Fl := fun env => (fa env).bind fun _ e => .ok .nx e
theorem js_expr (he : JE X Z W φ e φ1 t fa) (hs : swapsWith e none pos.line X.env = pure false) (hn : ψ.n = φ1) : JS X Z W P kr φ (.Expr e pos) ψ (dropM fa) := by
  refine ps_imp (ps_expr he hs) fun D σ H ⟨L, env, pv, S, hp, q⟩ => ?_
  refine rdE.go S (q.bind.mono fun d e' q v H' s => ?_)
  rw [hn] at q
  exact (show ∀ σ' H', Stt X.K Z φ1 e' [] σ' H' L → Pok P pv σ' → D.nx σ' H' from q) σ H' s.free hp
end
end Lk
namespace Lk
open PySem PySem.Spec L2

inductive Tgt where
  | nm (i : Nat)
  | tp (is : List Nat)
def setAll {α : Type} : List Nat → List α → List (Option α) → List (Option α)
  | i :: is, v :: vs, σ => setAll is vs (σ.set i (some v))
  | _, _, σ => σ
def setFl : List Nat → List Nat → List Nat
  | i :: is, φ => setFl is (φ.set i 0)
  | [], φ => φ
def tgM : Tgt → DV → M Unit
  | .nm i, d => fun e => if i < e.length then .ok () (e.set i (some d)) else .bad
  | .tp is, .d (.tuple ds) => fun e => if ds.length = is.length ∧ is.all (fun i => decide (i < e.length)) = true then .ok () (setAll is (ds.map .d) e) else .bad
  | .tp is, .d (.list ds) => fun e => if ds.length = is.length ∧ is.all (fun i => decide (i < e.length)) = true then .ok () (setAll is (ds.map .d) e) else .bad
  | _, _ => fun _ => .bad
def tgF : Tgt → Nat → List Nat → List Nat
  | .nm i, k, φ => φ.set i k
  | .tp is, _, φ => setFl is φ
def tgFree (P : List (Nat × Nat)) : Tgt → Bool
  | .nm i => P.all fun p => p.1 != i
  | .tp is => is.all fun i => P.all fun p => p.1 != i
section
variable {X : Cx} {Z : ClT} {W : WX} {P : List (Nat × Nat)} {kr : Nat} {φ φ1 φ2 φ' : List Nat} {ψ ψ1 ψ2 : SF} {t ta : Tm} {fa : M DV} {g g1 g2 : M Fl} {σ : St} {H : Hp} {L : List Root} {env : Ev} {a e tg : Expr} {st : Stmt} {sts : List Stmt} {pos pos' p : Pos} {k : Nat}
def tgS : Tgt → List Nat
  | .nm i => [i]
  | .tp is => is
/-- what a target of names does -/
def JG (X : Cx) (Z : ClT) (tg : Expr) (T : Tgt) : Prop := PG X tg fun v σ H Q => ∃ (L : List Root) (env : Ev) (φ : List Nat) (k : Nat) (d : DV) (W : WX), Stt X.K Z φ env [⟨.v k, d, v⟩] σ H L ∧ k ≤ 1 ∧
  Wish X.K Z W L (tgM T d env) fun _ e' => ∀ σ' H', Stt X.K Z (tgF T k φ) e' [] σ' H' L → (∀ P pv, tgFree P T = true → Pok P pv σ → Pok P pv σ') → (σ'.length = σ.length ∧ ∀ j, j ∉ tgS T → σ'[j]? = σ[j]?) → Q σ' H'
theorem pg_imp {tg : Expr} {t t' : TG} (h : PG X tg t) (i : ∀ v σ H Q, t' v σ H Q → t v σ H Q) : PG X tg t' := ⟨fun pins s σ H v u Q I r q => h.run pins s σ H v u Q I r (i _ _ _ _ q)⟩
theorem jg_name {i : Nat} {x : Str} (hN : X.N.Nodup) (hi : X.N[i]? = some x) (hx : Loc X.env.scope x) (hf : X.fn x = true ∨ X.env.scope.names.lookup x = some .local) : JG X Z (.Name x pos) (.nm i) := by
  refine pg_imp (pg_name hN hi hx hf) fun v σ H Q ⟨L, env, φ, k, d, W, S, hk, q⟩ => ?_
  unfold tgM at q
  simp only at q
  split at q
  · rename_i hl
    exact q _ _ (S.store hl) (fun P pv hP hp => hp.set hP) ⟨List.length_set .., fun j hj => List.getElem?_set_ne fun z => hj (by simp [tgS, z])⟩
  · exact q.elim
def gNames (is : List Nat) : TGs := fun vs σ H Q => vs.length = is.length ∧ Q (setAll is vs σ) H
theorem pgs_imp {ts : List Expr} {t t' : TGs} (h : PGs X ts t) (i : ∀ v σ H Q, t' v σ H Q → t v σ H Q) : PGs X ts t' := ⟨fun pins s σ H v u Q I r q => h.run pins s σ H v u Q I r (i _ _ _ _ q)⟩
theorem pgs_n0 : PGs X [] (gNames []) := pgs_imp pgs_nil fun vs σ H Q ⟨h, q⟩ => by
  cases vs with
  | nil => exact ⟨rfl, q⟩
  | cons _ _ => simp at h
theorem pgs_n1 {i : Nat} {x : Str} {es : List Expr} {is : List Nat} (hN : X.N.Nodup) (hi : X.N[i]? = some x) (hx : Loc X.env.scope x) (hf : X.fn x = true ∨ X.env.scope.names.lookup x = some .local) (h : PGs X es (gNames is)) : PGs X (.Name x pos :: es) (gNames (i :: is)) :=
  pgs_imp (pgs_cons (pg_name hN hi hx hf) h rfl) fun vs σ H Q ⟨hl, q⟩ => by
    cases vs with
    | nil => simp at hl
    | cons v vs => exact ⟨v, vs, rfl, by simpa using hl, q⟩
theorem setAll_ok : ∀ {is : List Nat} {ds : List PyData} {vs : List V} {φ : List Nat} {env : Ev} {σ : St}, ds.length = is.length → vs.length = is.length → is.all (fun i => decide (i < env.length)) = true → Al φ env σ → Sim X.K Z H (kids 0 ds vs ++ (roots φ env σ ++ L)) →
    Sim X.K Z H (roots (setFl is φ) (setAll is (ds.map .d) env) (setAll is vs σ) ++ L) ∧ Al (setFl is φ) (setAll is (ds.map .d) env) (setAll is vs σ)
  | [], [], [], φ, env, σ, _, _, _, al, S => ⟨S, al⟩
  | i :: is, d :: ds, v :: vs, φ, env, σ, h1, h2, h3, al, S => by
    simp only [List.all_cons, Bool.and_eq_true, decide_eq_true_eq] at h3
    obtain ⟨a, p⟩ := al.set (m := 0) (d := .d d) (v := v) h3.1
    refine setAll_ok (is := is) (by simpa using h1) (by simpa using h2) (by rw [List.length_set]; exact h3.2) a ?_
    have S1 : Sim X.K Z H (⟨0, .d d, v⟩ :: (kids 0 ds vs ++ (roots φ (env.set i none) σ ++ L))) := S.sub (.cons_cons _ (List.Sublist.append_left (List.Sublist.append_right roots_clr L) _))
    refine S1.perm ?_
    refine List.Perm.trans ?_ (List.Perm.append_left _ (List.Perm.append_right L p.symm))
    rw [List.cons_append]
    exact List.perm_middle.symm
  | [], _ :: _, _, _, _, _, h, _, _, _, _ => by simp at h
  | [], [], _ :: _, _, _, _, _, h, _, _, _ => by simp at h
  | _ :: _, [], _, _, _, _, h, _, _, _, _ => by simp at h
  | _ :: _, _ :: _, [], _, _, _, _, h, _, _, _ => by simp at h
theorem Pok.setAll {pv : List V} : ∀ {is : List Nat} {vs : List V} {σ : St}, (is.all fun i => P.all fun p => p.1 != i) = true → Pok P pv σ → Pok P pv (Lk.setAll is vs σ)
  | [], _, _, _, h => by unfold Lk.setAll; exact h
  | i :: is, [], _, _, h => h
  | i :: is, v :: vs, σ, h1, h => by
    simp only [List.all_cons, Bool.and_eq_true] at h1
    exact Pok.setAll (is := is) h1.2 (h.set h1.1)
def tgLen (es : List Expr) : Bool := es.all fun e => match e with
  | .Name .. => true
  | _ => false
theorem setAll_same {α : Type} : ∀ (is : List Nat) (vs : List α) (σ : List (Option α)), (setAll is vs σ).length = σ.length ∧ ∀ j, j ∉ is → (setAll is vs σ)[j]? = σ[j]?
  | [], _, σ => by unfold setAll; exact ⟨rfl, fun _ _ => rfl⟩
  | i :: is, [], σ => ⟨rfl, fun _ _ => rfl⟩
  | i :: is, v :: vs, σ => by
    obtain ⟨q1, q2⟩ := setAll_same is vs (σ.set i (some v))
    refine ⟨by show (setAll is vs (σ.set i (some v))).length = _; rw [q1, List.length_set], fun j hj => ?_⟩
    simp only [List.mem_cons, not_or] at hj
    show (setAll is vs (σ.set i (some v)))[j]? = _
    rw [q2 j hj.2, List.getElem?_set_ne (fun z => hj.1 z.symm)]
theorem tgLen_ok {env : PySem.Env} : ∀ {es : List Expr}, tgLen es = true → (assignEach es env).length = es.length ∧ (assignEach es env).findIdx? (·.1) = none
  | [], _ => ⟨rfl, rfl⟩
  | e :: es, h => by
    simp only [tgLen, List.all_cons, Bool.and_eq_true] at h
    obtain ⟨q1, q2⟩ := tgLen_ok (env := env) (es := es) h.2
    cases e <;> first | cases h.1 | skip
    refine ⟨?_, ?_⟩
    · show ((false, _) :: assignEach es env).length = es.length + 1
      simp [q1]
    · show List.findIdx? (·.1) ((false, _) :: assignEach es env) = none
      rw [List.findIdx?_cons]
      simp [q2]
theorem jg_tup {es : List Expr} {is : List Nat} {n : Nat} (hc : X.calm = true) (hl : tgLen es = true) (hn : es.length = is.length) (h : PGs X es (gNames is)) : JG X Z (.Tuple es n pos) (.tp is) := by
  obtain ⟨q1, q2⟩ := tgLen_ok (env := X.env) hl
  have two : PG X (.Tuple es n pos) (fun v σ H Q => gTup X.K es.length (gNames is) v σ H Q ∨ gUnl X.K es.length (gNames is) v σ H Q) := ⟨fun pins s σ H v u Q I r h' => h'.elim (fun h' => (pg_tup hc h q1 q2).run pins s σ H v u Q I r h') fun h' => (pg_unl hc h q1 q2).run pins s σ H v u Q I r h'⟩
  refine pg_imp two fun v σ H Q ⟨L, env, φ, k, d, W, S, hk, q⟩ => ?_
  cases d with
  | d x =>
    cases x with
    | tuple ds =>
      have q : Wish X.K Z W L (if ds.length = is.length ∧ is.all (fun i => decide (i < env.length)) = true then Out.ok () (setAll is (ds.map .d) env) else .bad) _ := q
      split at q
      · rename_i hc
        obtain ⟨a, vs, e1, hs, hl, S2⟩ := S.sim.openT (ds := ds) (v := v) (n := k) (List.mem_cons_self) hk
        have S3 : Sim X.K Z H (kids 0 ds vs ++ (roots φ env σ ++ L)) := S2.sub (List.Sublist.append_left (List.sublist_cons_self _ _) _)
        obtain ⟨S4, a4⟩ := setAll_ok hc.1 (by rw [← hl]; exact hc.1) hc.2 S.al S3
        exact .inl ⟨a, vs, e1, hs, by rw [← hl, hc.1, hn], by rw [← hl]; exact hc.1, q _ _ ⟨S4, a4, fun _ h => nomatch h⟩ (fun P pv hP hp => hp.setAll hP) (setAll_same is vs σ)⟩
      · exact q.elim
    | list ds =>
      have q : Wish X.K Z W L (if ds.length = is.length ∧ is.all (fun i => decide (i < env.length)) = true then Out.ok () (setAll is (ds.map .d) env) else .bad) _ := q
      split at q
      · rename_i hc
        obtain ⟨a, vs, e1, hs, hl, S2⟩ := S.sim.openL (ds := ds) (v := v) (n := k) (List.mem_cons_self) hk
        have S3 : Sim X.K Z H (kids 0 ds vs ++ (roots φ env σ ++ L)) := S2.sub (List.Sublist.append_left (List.sublist_cons_self _ _) _)
        obtain ⟨S4, a4⟩ := setAll_ok hc.1 (by rw [← hl]; exact hc.1) hc.2 S.al S3
        exact .inr ⟨a, vs, e1, .of hs, by rw [← hl, hc.1, hn], by rw [← hl]; exact hc.1, q _ _ ⟨S4, a4, fun _ h => nomatch h⟩ (fun P pv hP hp => hp.setAll hP) (setAll_same is vs σ)⟩
      · exact q.elim
    | _ => exact q.elim
  | _ => exact q.elim
/-- targets = value, not by swapped stores -/
def asgM (T : Tgt) (fa : M DV) : M Fl := fun env => (fa env).bind fun d e => (tgM T d e).bind fun _ e' => .ok .nx e'
theorem js_asg {T : Tgt} (he : JE X Z W φ e φ1 (.v k) fa) (hg : JG X Z tg T) (hs : swapsWithSole [tg] e pos.line X.env = pure false) (hw : swappedStores [tg] e X.env = pure none) (h1 : (assignEach [tg] X.env).map (·.2) = [assign tg X.env])
    (hP : tgFree P T = true) (hn : ψ.n = tgF T (min 1 k) φ1) : JS X Z W P kr φ (.Assign [tg] e pos) ψ (asgM T fa) := by
  refine ps_imp (ps_asg he hg hs hw h1) fun D σ H ⟨L, env, pv, S, hp, q⟩ => ?_
  refine rdE.go S (q.bind.mono fun d e' q v H' s => ?_)
  have s2 : Stt X.K Z φ1 e' [⟨.v (min 1 k), d, v⟩] σ H' L := ⟨Sim.weak s.sim (Nat.min_le_right _ _), s.al, fun x hx => by rw [List.mem_singleton.mp hx]; trivial⟩
  refine ⟨L, e', φ1, min 1 k, d, W, s2, Nat.min_le_left _ _, q.bind.mono fun _ e2 q2 σ' H2 s3 keep _ => ?_⟩
  rw [hn] at q2
  exact (show ∀ σ' H', Stt X.K Z (tgF T (min 1 k) φ1) e2 [] σ' H' L → Pok P pv σ' → D.nx σ' H' from q2) σ' H2 s3 (keep P pv hP hp)
/-! ### while -/
def whileM (c : M Bool) (b : M Fl) : Nat → M Fl
  | 0 => fun _ => .bad
  | n + 1 => fun e => (c e).bind fun k e1 => match k with
    | false => .ok .nx e1
    | true => (b e1).bind fun fl e2 => match fl with
      | .nx => whileM c b n e2
      | .ct => whileM c b n e2
      | .br => .ok .nx e2
      | .rt d => .ok (.rt d) e2
theorem js_while {c : Expr} {ft : M Bool} {φL φB : List Nat} (hp : PassesOwn (model X.prog X.w) X.A X.env X.xe) (hc : JT X Z W φL c φ1 ft) (hb : JSs X Z W P kr φ1 sts ψ1 g) (l0 : leN φL φ = true) (l1 : leN φL ψ1.n = true) (l2 : leN φL ψ1.c = true) (l3 : leN ψ.n φ1 = true) (l4 : leN ψ.n ψ1.b = true) :
    JS X Z W P kr φ (.While c sts [] pos) ψ (whileM ft g big) := by
  refine ps_imp (ps_while hp hc hb) fun D σ H ⟨L, env, pv, S, hpv, q⟩ => ?_
  refine ⟨fun m σ H => ∃ env, Stt X.K Z φL env [] σ H L ∧ Pok P pv σ ∧ Wish X.K Z W L (whileM ft g m env) fun fl e' => match fl with
    | .nx => ∀ σ' H', Stt X.K Z ψ.n e' [] σ' H' L → Pok P pv σ' → D.nx σ' H'
    | .br => False
    | .ct => False
    | .rt d => ∃ outs, outsAt P e' = some outs ∧ ∀ v H', Sim X.K Z H' (⟨kr, d, v⟩ :: (retR P outs pv ++ L)) → D.rt v H', ⟨big, env, S.less l0, hpv, ?_⟩, ?_⟩
  · have key : ∀ (n : Nat) (e : Ev) (k : Fl → Ev → Prop), Wish X.K Z W L (whileM ft g n e) k → Wish X.K Z W L (whileM ft g n e) fun fl e' => (fl = .br → False) ∧ (fl = .ct → False) ∧ k fl e' := by
      intro n
      induction n with
      | zero => intro e k h; exact h
      | succ n ih =>
        intro e k h
        unfold whileM at h ⊢
        have h := h.bind
        cases q1 : ft e with
        | bad => rw [q1] at h; exact h.elim
        | ex c x e1 => rw [q1] at h; exact h
        | ok b e1 =>
          rw [q1] at h
          cases b with
          | false => exact ⟨(fun z => nomatch z), (fun z => nomatch z), h⟩
          | true =>
            have h : Wish X.K Z W L ((g e1).bind _) k := h
            have h := h.bind
            show Wish X.K Z W L ((g e1).bind _) _
            cases q2 : g e1 with
            | bad => rw [q2] at h; exact h.elim
            | ex c x e2 => rw [q2] at h; exact h
            | ok fl e2 =>
              rw [q2] at h
              cases fl with
              | nx => exact ih e2 k h
              | ct => exact ih e2 k h
              | br => exact ⟨(fun z => nomatch z), (fun z => nomatch z), h⟩
              | rt d => exact ⟨(fun z => nomatch z), (fun z => nomatch z), h⟩
    refine (key _ _ _ q).mono fun fl e' ⟨h1, h2, h3⟩ => ?_
    cases fl with
    | nx => exact h3
    | br => exact (h1 rfl).elim
    | ct => exact (h2 rfl).elim
    | rt d => exact h3
  · rintro m σ H ⟨env, S, hpv, q⟩
    cases m with
    | zero => exact q.elim
    | succ n =>
      refine rdT.go S (q.bind.mono fun b e1 q1 H1 S1 => ?_)
      cases b with
      | false => exact (show ∀ σ' H', Stt X.K Z ψ.n e1 [] σ' H' L → Pok P pv σ' → D.nx σ' H' from q1) σ H1 (S1.less l3) hpv
      | true =>
        rw [if_pos rfl]
        refine ⟨fun σ' H' => ∃ env, Stt X.K Z φL env [] σ' H' L ∧ Pok P pv σ' ∧ Wish X.K Z W L (whileM ft g n env) _, fun σ' H' h => ⟨n, Nat.lt_succ_self n, h⟩, L, e1, pv, S1, hpv, q1.bind.mono fun fl e2 q2 => ?_⟩
        cases fl with
        | nx => exact fun σ' H' s z => ⟨e2, s.less l1, z, q2⟩
        | ct => exact fun σ' H' s z => ⟨e2, s.less l2, z, q2⟩
        | br => exact fun σ' H' s z => (show ∀ σ' H', Stt X.K Z ψ.n e2 [] σ' H' L → Pok P pv σ' → D.nx σ' H' from q2) σ' H' (s.less l4) z
        | rt d => exact q2
/-! ### for -/
/-- an iterator walks the items, while held stands -/
def IterOk (K : PySem.W.Frag) (Z : ClT) (J : It) (held : List Root) (items : List DV) : Prop := ∀ (i : Nat) (H : Hp) (R : List Root), Sim K Z H (held ++ R) →
  (items.length ≤ i → J.stop i H) ∧ ∀ d, items[i]? = some d → J.go i H ∧ ∀ x H', J.yld i H x H' → Sim K Z H' (⟨0, d, x⟩ :: (held ++ R))
def rdI (X : Cx) (Z : ClT) (W : WX) (φ φ' : List Nat) (f : M (List DV)) : TI := fun σ H R => ∃ L env, Stt X.K Z φ env [] σ H L ∧ Wish X.K Z W L (f env) fun items e' => ∀ J held H', Stt X.K Z φ' e' [] σ H' (held ++ L) → IterOk X.K Z J held items → R J H'
def JI (X : Cx) (Z : ClT) (W : WX) (φ : List Nat) (tg it : Expr) (φ' : List Nat) (f : M (List DV)) : Prop := PI X tg it (rdI X Z W φ φ' f)
theorem pi_imp {it : Expr} {t t' : TI} (h : PI X tg it t) (i : ∀ σ H Q, t' σ H Q → t σ H Q) : PI X tg it t' := ⟨fun pins s σ H Q I q => h.run pins s σ H Q I (i _ _ _ q)⟩
def forM (T : Tgt) (g : M Fl) : List DV → M Fl
  | [] => fun e => .ok .nx e
  | d :: ds => fun e => (tgM T d e).bind fun _ e1 => (g e1).bind fun fl e2 => match fl with
    | .nx => forM T g ds e2
    | .ct => forM T g ds e2
    | .br => .ok .nx e2
    | .rt d => .ok (.rt d) e2
def forS (T : Tgt) (fi : M (List DV)) (g : M Fl) : M Fl := fun e => (fi e).bind fun items e1 => forM T g items e1
theorem forM_ends {T : Tgt} : ∀ (items : List DV) (e : Ev) (k : Fl → Ev → Prop), Wish X.K Z W L (forM T g items e) k → Wish X.K Z W L (forM T g items e) fun fl e' => (fl = .br → False) ∧ (fl = .ct → False) ∧ k fl e'
  | [], e, k, h => ⟨(fun z => nomatch z), (fun z => nomatch z), h⟩
  | d :: ds, e, k, h => by
    unfold forM at h ⊢
    cases q1 : tgM T d e with
    | bad => rw [q1] at h; exact h.elim
    | ex c x e1 => rw [q1] at h; exact h
    | ok b e1 =>
      rw [q1] at h
      have h : Wish X.K Z W L ((g e1).bind _) k := h
      show Wish X.K Z W L ((g e1).bind _) _
      cases q2 : g e1 with
      | bad => rw [q2] at h; exact h.elim
      | ex c x e2 => rw [q2] at h; exact h
      | ok fl e2 =>
        rw [q2] at h
        cases fl with
        | nx => exact forM_ends ds e2 k h
        | ct => exact forM_ends ds e2 k h
        | br => exact ⟨(fun z => nomatch z), (fun z => nomatch z), h⟩
        | rt d => exact ⟨(fun z => nomatch z), (fun z => nomatch z), h⟩
theorem js_for {T : Tgt} {it : Expr} {fi : M (List DV)} {φL : List Nat} (hp : PassesOwn (model X.prog X.w) X.A X.env X.xe) (hc : X.calm = true) (hi : JI X Z W φ tg it φ1 fi) (hg : JG X Z tg T) (hb : JSs X Z W P kr (tgF T 0 φL) sts ψ1 g) (hs : ∀ x, foldedSetIterable it X.env x = pure x)
    (hP : tgFree P T = true) (l0 : leN φL φ1 = true) (l1 : leN φL ψ1.n = true) (l2 : leN φL ψ1.c = true) (l3 : leN ψ.n φL = true) (l4 : leN ψ.n ψ1.b = true) :
    JS X Z W P kr φ (.For tg it sts [] pos) ψ (forS T fi g) := by
  refine ps_imp (ps_for hp hc hi hg hb hs) fun D σ H ⟨L, env, pv, S, hpv, q⟩ => ?_
  refine ⟨L, env, S, q.bind.mono fun items e1 q1 J held H1 S1 ok => ?_⟩
  -- the frame without what the loop holds
  have dropH : ∀ {ψ : List Nat} {e : Ev} {σ : St} {H : Hp}, Stt X.K Z ψ e [] σ H (held ++ L) → Stt X.K Z ψ e [] σ H L := fun s => ⟨s.sim.sub (List.Sublist.append_left (List.Sublist.append_left (List.sublist_append_right _ _) _) _), s.al, s.at'⟩
  let Post : Fl → Ev → Prop := fun fl e' => match fl with
    | .nx => ∀ σ' H', Stt X.K Z ψ.n e' [] σ' H' L → Pok P pv σ' → D.nx σ' H'
    | .br => False
    | .ct => False
    | .rt d => ∃ outs, outsAt P e' = some outs ∧ ∀ v H', Sim X.K Z H' (⟨kr, d, v⟩ :: (retR P outs pv ++ L)) → D.rt v H'
  have q2 : Wish X.K Z W L (forM T g items e1) Post := (forM_ends items e1 _ q1).mono fun fl e' ⟨h1, h2, h3⟩ => by
    cases fl with
    | nx => exact h3
    | br => exact (h1 rfl).elim
    | ct => exact (h2 rfl).elim
    | rt d => exact h3
  refine ⟨fun i m σ H => m = items.length - i ∧ i ≤ items.length ∧ ∃ env, Stt X.K Z φL env [] σ H (held ++ L) ∧ Pok P pv σ ∧ Wish X.K Z W L (forM T g (items.drop i) env) Post, ⟨_, rfl, Nat.zero_le _, e1, S1.less l0, hpv, q2⟩, ?_⟩
  rintro i m σ H ⟨rfl, hi, env, S, hpv, q⟩
  have S0 : Sim X.K Z H (held ++ (roots φL env σ ++ L)) := by
    refine S.sim.perm ?_
    show (roots φL env σ ++ (held ++ L)).Perm _
    exact shuf (A := [])
  obtain ⟨o1, o2⟩ := ok i H _ S0
  by_cases hlt : i < items.length
  · obtain ⟨go, yl⟩ := o2 items[i] (List.getElem?_eq_getElem hlt)
    refine .inr ⟨go, fun σ' H' => ∃ env, Stt X.K Z φL env [] σ' H' (held ++ L) ∧ Pok P pv σ' ∧ Wish X.K Z W L (forM T g (items.drop (i + 1)) env) Post, fun σ' H' h => ⟨items.length - (i + 1), by omega, rfl, hlt, h⟩, fun x H' y => ?_⟩
    rw [List.drop_eq_getElem_cons hlt] at q
    have S2 : Stt X.K Z φL env [⟨.v 0, items[i], x⟩] σ H' (held ++ L) := by
      refine ⟨(yl x H' y).perm (.cons _ ?_), S.al, fun z hz => by rw [List.mem_singleton.mp hz]; trivial⟩
      show (held ++ (roots φL env σ ++ L)).Perm (roots φL env σ ++ (held ++ L))
      exact shuf (A := [])
    refine ⟨held ++ L, env, φL, 0, items[i], W, S2, Nat.zero_le _, (Wish.frame (A := held) q.bind).mono fun _ e2 q3 σ2 H2 s2 keep _ => ?_⟩
    refine ⟨held ++ L, e2, pv, s2, keep P pv hP hpv, (Wish.frame (A := held) q3.bind).mono fun fl e3 q4 => ?_⟩
    cases fl with
    | nx => exact fun σ' H' s z => ⟨e3, s.less l1, z, q4⟩
    | ct => exact fun σ' H' s z => ⟨e3, s.less l2, z, q4⟩
    | br => exact fun σ' H' s z => (show ∀ σ' H', Stt X.K Z ψ.n e3 [] σ' H' L → Pok P pv σ' → D.nx σ' H' from q4) σ' H' (dropH (s.less l4)) z
    | rt d =>
      obtain ⟨outs, h1, h2⟩ : ∃ outs, outsAt P e3 = some outs ∧ ∀ v H', Sim X.K Z H' (⟨kr, d, v⟩ :: (retR P outs pv ++ L)) → D.rt v H' := q4
      exact ⟨outs, h1, fun v H' s => h2 v H' (s.sub (.cons_cons _ (List.Sublist.append_left (List.sublist_append_right _ _) _)))⟩
  · have e : i = items.length := by omega
    subst e
    rw [List.drop_length] at q
    exact .inl ⟨o1 (Nat.le_refl _), (show ∀ σ' H', Stt X.K Z ψ.n env [] σ' H' L → Pok P pv σ' → D.nx σ' H' from q) σ H (dropH (S.less l3)) hpv⟩
end
end Lk
namespace Lk
open PySem PySem.Spec L2
section
variable {X : Cx} {Z : ClT} {W : WX} {φ φ1 φ2 φ' : List Nat} {t ta tb : Tm} {fa fb : M DV} {f : M (List DV)} {ts : List Tm} {σ : St} {H : Hp} {L R : List Root} {env : Ev} {a b e tg : Expr} {es : List Expr} {pos pos' p tpos : Pos} {k : Nat}
def itemsOf : DV → Option (List DV)
  | .s ns => some (ns.map fun n => .d (.int n))
  | .d (.list xs) => some (xs.map .d)
  | .d (.tuple xs) => some (xs.map .d)
  | .d (.str x) => some (x.cps.toList.map fun c => .d (.str ⟨#[c]⟩))
  | _ => none
def seqI (fa : M DV) : M (List DV) := fun env => (fa env).bind fun d e => .ofO (itemsOf d) e
theorem pi_or {it : Expr} {t1 t2 : TI} (h1 : PI X tg it t1) (h2 : PI X tg it t2) : PI X tg it (fun σ H R => t1 σ H R ∨ t2 σ H R) := ⟨fun pins s σ H R I q => q.elim (h1.run pins s σ H R I) (h2.run pins s σ H R I)⟩
theorem iter_list {held : List Root} {a : Addr} {ds : List PyData} (hm : (⟨0, .d (.list ds), .ref a⟩ : Root) ∈ held) : IterOk X.K Z (Itl X.K a) held (ds.map .d) := fun i H R S => by
  obtain ⟨a', vs, e, h1, hl, S2⟩ := S.openL (List.mem_append_left _ hm) (Nat.zero_le _)
  cases e
  refine ⟨fun hi => ⟨vs, .of h1, by rw [List.length_map] at hi; omega⟩, fun d hd => ?_⟩
  rw [List.getElem?_map] at hd
  obtain ⟨x, hx, rfl⟩ := Option.map_eq_some_iff.mp hd
  have hlt : i < vs.length := by rw [← hl]; exact (List.getElem?_eq_some_iff.mp hx).1
  refine ⟨⟨vs, vs[i], .of h1, List.getElem?_eq_getElem hlt⟩, fun y H' ⟨e, hy⟩ => ?_⟩
  subst e
  have ey := hy vs (.of h1)
  exact S2.kid hx ey
theorem iter_tup {held : List Root} {a : Addr} {ds : List PyData} (hm : (⟨0, .d (.tuple ds), .ref a⟩ : Root) ∈ held) : IterOk X.K Z (Itt X.K a) held (ds.map .d) := fun i H R S => by
  obtain ⟨a', vs, e, h1, hl, S2⟩ := S.openT (List.mem_append_left _ hm) (Nat.zero_le _)
  cases e
  refine ⟨fun hi => ⟨vs, h1, by rw [List.length_map] at hi; omega⟩, fun d hd => ?_⟩
  rw [List.getElem?_map] at hd
  obtain ⟨x, hx, rfl⟩ := Option.map_eq_some_iff.mp hd
  have hlt : i < vs.length := by rw [← hl]; exact (List.getElem?_eq_some_iff.mp hx).1
  refine ⟨⟨vs, vs[i], h1, List.getElem?_eq_getElem hlt⟩, fun y H' ⟨e, hy⟩ => ?_⟩
  subst e
  exact S2.kid hx (hy vs h1)
theorem iter_script {held : List Root} {a : Addr} {ns : List Int} {n : Nat} (hm : (⟨n, .s ns, .ref a⟩ : Root) ∈ held) : IterOk X.K Z (Itl X.K a) held (ns.map fun n => .d (.int n)) := fun i H R S => by
  obtain ⟨a', e, h1⟩ := S.script (List.mem_append_left _ hm)
  cases e
  refine ⟨fun hi => ⟨_, h1, by simpa using hi⟩, fun d hd => ?_⟩
  rw [List.getElem?_map] at hd
  obtain ⟨x, hx, rfl⟩ := Option.map_eq_some_iff.mp hd
  have hv : (ns.map V.int)[i]? = some (.int x) := by rw [List.getElem?_map, hx]; rfl
  refine ⟨⟨_, _, h1, hv⟩, fun y H' ⟨e, hy⟩ => ?_⟩
  subst e
  have := hy _ h1
  rw [hv] at this; cases this
  exact S.cint
theorem iter_str {held : List Root} {x : Str} : IterOk X.K Z (Its x) held (x.cps.toList.map fun c => .d (.str ⟨#[c]⟩)) := fun i H R S => by
  refine ⟨fun hi => (show x.cps.size ≤ i by simpa using hi), fun d hd => ?_⟩
  rw [List.getElem?_map] at hd
  obtain ⟨c, hx, rfl⟩ := Option.map_eq_some_iff.mp hd
  rw [Array.getElem?_toList] at hx
  refine ⟨(Array.getElem?_eq_some_iff.mp hx).1, fun y H' ⟨e, c', hc, hy⟩ => ?_⟩
  subst e; subst hy
  rw [hx] at hc; cases hc
  exact S.cstr
theorem ji_seq (he : JE X Z W φ e φ1 (.v k) fa) : JI X Z W φ tg e φ1 (seqI fa) := by
  refine pi_imp (pi_or (pi_list he) (pi_or (pi_tup he) (pi_str he))) fun σ H R ⟨L, env, S, h⟩ => ?_
  have h := h.bind
  have S0 : ∀ {e' : Ev} {d : DV} {v : V} {H' : Hp}, Stt X.K Z φ1 e' [⟨.v k, d, v⟩] σ H' L → Stt X.K Z φ1 e' [] σ H' ([⟨0, d, v⟩] ++ L) ∧ Sim X.K Z H' (⟨0, d, v⟩ :: (roots φ1 e' σ ++ L)) := fun {e' d v H'} s => by
    have s1 := Sim.weak s.sim (Nat.zero_le _)
    refine ⟨⟨s1.perm ?_, s.al, fun _ h => nomatch h⟩, s1⟩
    show (⟨0, d, v⟩ :: (roots φ1 e' σ ++ L)).Perm (roots φ1 e' σ ++ (⟨0, d, v⟩ :: L))
    exact List.perm_middle.symm
  have hf : fa env = fa env := rfl
  cases q : fa env with
  | bad => rw [q] at h; exact h.elim
  | ex c g e1 =>
    rw [q] at h
    exact .inl ⟨L, env, S, by rw [q]; exact h⟩
  | ok d e1 =>
    rw [q] at h
    obtain ⟨items, hi, h2⟩ := Wish.ofO (show Wish X.K Z W L (Out.ofO (itemsOf d) e1) _ from h)
    cases d with
    | s ns =>
      cases hi
      refine .inl ⟨L, env, S, ?_⟩
      rw [q]
      intro v H' s
      obtain ⟨s1, s2⟩ := S0 s
      obtain ⟨a, rfl, hl⟩ := s2.script List.mem_cons_self
      exact ⟨a, rfl, ⟨_, hl⟩, h2 _ _ _ s1 (iter_script List.mem_cons_self)⟩
    | d x =>
      cases x with
      | list xs =>
        cases hi
        refine .inl ⟨L, env, S, ?_⟩
        rw [q]
        intro v H' s
        obtain ⟨s1, s2⟩ := S0 s
        obtain ⟨a, vs, rfl, hl, _⟩ := s2.seeL List.mem_cons_self
        exact ⟨a, rfl, ⟨_, .of hl⟩, h2 _ _ _ s1 (iter_list List.mem_cons_self)⟩
      | tuple xs =>
        cases hi
        refine .inr (.inl ⟨L, env, S, ?_⟩)
        rw [q]
        intro v H' s
        obtain ⟨s1, s2⟩ := S0 s
        obtain ⟨a, vs, rfl, hl, _⟩ := s2.seeT List.mem_cons_self
        exact ⟨a, rfl, ⟨_, hl⟩, h2 _ _ _ s1 (iter_tup List.mem_cons_self)⟩
      | str x =>
        cases hi
        refine .inr (.inr ⟨L, env, S, ?_⟩)
        rw [q]
        intro v H' s
        obtain ⟨s1, s2⟩ := S0 s
        have := s2.str List.mem_cons_self
        exact ⟨x, this, h2 _ _ _ s1 iter_str⟩
      | _ => cases hi
    | _ => cases hi
/-! range -/
def rgI : Option DV → Option DV → Option (List DV)
  | some (.d (.int a)), some (.d (.int b)) => if rgOk a b then some ((rgP a b).map .d) else none
  | _, _ => none
theorem rgI_some {x y : Option DV} {r : List DV} (h : rgI x y = some r) : ∃ a b, x = some (.d (.int a)) ∧ y = some (.d (.int b)) ∧ rgOk a b = true ∧ r = (rgP a b).map .d := by
  unfold rgI at h
  split at h
  · split at h
    · rename_i hr
      cases h
      exact ⟨_, _, rfl, rfl, hr, rfl⟩
    · cases h
  · cases h
theorem iter_rg {held : List Root} {a b : Int} : IterOk X.K Z (Itr a (b - a).toNat) held ((rgP a b).map .d) := fun i H R S => by
  have hl : ((rgP a b).map DV.d).length = (b - a).toNat := by unfold rgP; simp
  refine ⟨fun hi => by rw [hl] at hi; exact hi, fun d hd => ?_⟩
  have hd0 := (List.getElem?_eq_some_iff.mp hd).1
  rw [List.getElem?_map] at hd
  obtain ⟨x, hx, rfl⟩ := Option.map_eq_some_iff.mp hd
  unfold rgP at hx
  rw [List.getElem?_map] at hx
  obtain ⟨j, hj, rfl⟩ := Option.map_eq_some_iff.mp hx
  have hlt : i < (b - a).toNat := by
    rw [hl] at hd0; exact hd0
  rw [List.getElem?_range hlt] at hj
  cases hj
  refine ⟨hlt, fun y H' ⟨e, hy⟩ => ?_⟩
  subst e; subst hy
  exact S.cint
def rg1I (ta : Tm) (fa : M DV) : M (List DV) := fun env => (fa env).bind fun d e => .ofO (rgI (some (.d (.int 0))) (ta.now d e)) e
def rg2I (ta tb : Tm) (fa fb : M DV) : M (List DV) := fun env => (fa env).bind fun d e1 => (fb e1).bind fun d' e => .ofO (rgI (ta.now d e) (tb.now d' e)) e
theorem Stt.heldNil (S : Stt X.K Z φ env [] σ H L) : Stt X.K Z φ env [] σ H ([] ++ L) := S
theorem ji_range1 {x : Str} (ex : x = "range") (hg : Gl X x) (hm : X.mg x = none) (hs : noStar a = true) (ha : JE X Z W φ a φ1 ta fa) : JI X Z W φ tg (.Call (.Name x p) [a] [] pos) φ1 (rg1I ta fa) := by
  subst ex
  refine pi_imp (pi_range1 hg hm (pa_cons ha pa_nil (star_eq hs)) (star_eq hs)) fun σ H R ⟨L, env, S, h⟩ => ?_
  refine rdE.go S (h.bind.mono fun d e1 h1 v H1 S1 => ?_)
  obtain ⟨r, q, h2⟩ := h1.ofO
  obtain ⟨i, n, ei, q2, hr, rfl⟩ := rgI_some q
  cases ei
  have e1 : v = .int n := S1.isI (h := ⟨ta, d, v⟩) List.mem_cons_self q2
  unfold rgOk at hr
  simp only [Bool.and_eq_true, decide_eq_true_eq] at hr
  refine ⟨n, by rw [e1], by omega, by omega, ?_⟩
  have e2 : n.toNat = (n - 0).toNat := by simp
  rw [e2]
  exact h2 _ [] _ S1.free.heldNil iter_rg
theorem ji_range2 {x : Str} (ex : x = "range") (hg : Gl X x) (hm : X.mg x = none) (hs : noStar a = true) (hs2 : noStar b = true) (ha : JE X Z W φ a φ1 ta fa) (hb : JE X Z W φ1 b φ2 tb fb) : JI X Z W φ tg (.Call (.Name x p) [a, b] [] pos) φ2 (rg2I ta tb fa fb) := by
  subst ex
  have eb : starEach [b] X.env = [(false, eval b X.env)] := star_eq hs2
  refine pi_imp (pi_range2 hg hm (pa_cons ha (pa_cons hb pa_nil (star_eq hs2)) (star_eq hs)) (by rw [star_eq hs, eb]) eb) fun σ H R ⟨L, env, S, h⟩ => ?_
  refine rdE.go S (h.bind.mono fun d e1 h1 v H1 S1 => ?_)
  refine rdE.go S1 (h1.bind.mono fun d' e2 h2 u H2 S2 => ?_)
  obtain ⟨r, q, h3⟩ := h2.ofO
  obtain ⟨i, j, q1, q2, hr, rfl⟩ := rgI_some q
  have e1 : v = .int i := S2.isI (h := ⟨ta, d, v⟩) (List.mem_cons_of_mem _ List.mem_cons_self) q1
  have e2 : u = .int j := S2.isI (h := ⟨tb, d', u⟩) List.mem_cons_self q2
  unfold rgOk at hr
  simp only [Bool.and_eq_true, decide_eq_true_eq] at hr
  exact ⟨i, j, by rw [e1, e2], ⟨by omega, by omega, by omega, by omega⟩, h3 _ [] _ S2.free.free.heldNil iter_rg⟩
/-! enumerate over a list, zip of two lists or two tuples -/
def numFrom : Nat → List PyData → List DV
  | _, [] => []
  | i, x :: xs => .d (.tuple [.int i, x]) :: numFrom (i + 1) xs
def enumD : DV → Option (List DV)
  | .d (.list xs) => some (numFrom 0 xs)
  | _ => none
theorem numFrom_get : ∀ {xs : List PyData} {i j : Nat}, (numFrom j xs)[i]? = (xs[i]?).map fun x => .d (.tuple [.int ((j + i : Nat) : Int), x])
  | [], i, j => by simp [numFrom]
  | x :: xs, 0, j => by simp [numFrom]
  | x :: xs, i + 1, j => by
    show (numFrom (j + 1) xs)[i]? = (xs[i]?).map _
    rw [numFrom_get]
    have : j + 1 + i = j + (i + 1) := by omega
    rw [this]
theorem numFrom_len : ∀ {xs : List PyData} {j : Nat}, (numFrom j xs).length = xs.length
  | [], _ => rfl
  | x :: xs, j => by simp [numFrom, numFrom_len]
theorem iter_enum {held : List Root} {a : Addr} {ds : List PyData} (hm : (⟨0, .d (.list ds), .ref a⟩ : Root) ∈ held) : IterOk X.K Z (Ite X.K a) held (numFrom 0 ds) := fun i H R S => by
  obtain ⟨a', vs, e, h1, hl, S2⟩ := S.openL (List.mem_append_left _ hm) (Nat.zero_le _)
  cases e
  refine ⟨fun hi => ⟨vs, .of h1, by rw [numFrom_len] at hi; omega⟩, fun d hd => ?_⟩
  rw [numFrom_get] at hd
  obtain ⟨x, hx, rfl⟩ := Option.map_eq_some_iff.mp hd
  have hlt : i < vs.length := by rw [← hl]; exact (List.getElem?_eq_some_iff.mp hx).1
  refine ⟨⟨vs, vs[i], .of h1, List.getElem?_eq_getElem hlt⟩, fun y H' ⟨T, u, hy, hT, hH, hu⟩ => ?_⟩
  subst hH; subst hy
  have ey := hu vs (.of h1)
  have S3 := S2.kid hx ey
  have S4 : Sim X.K Z H (kids 0 [.int ((0 + i : Nat) : Int), x] [.int (i : Nat), u] ++ (held ++ R)) := by
    rw [Nat.zero_add]
    exact S3.cint
  exact (Sim.mkT (n := 0) S4 rfl hT).weak (Nat.zero_le _)
theorem ji_enum {x : Str} {n : Nat} (ex : x = "enumerate") (hg : Gl X x) (hm : X.mg x = none) (hs : noStar a = true) (ha : JE X Z W φ a φ1 (.v k) fa) :
    JI X Z W φ (.Tuple es n tpos) (.Call (.Name x p) [a] [] pos) φ1 (fun env => (fa env).bind fun d e => .ofO (enumD d) e) := by
  subst ex
  refine pi_imp (pi_enum hg hm (pa_cons ha pa_nil (star_eq hs)) (star_eq hs)) fun σ H R ⟨L, env, S, h⟩ => ?_
  refine rdE.go S (h.bind.mono fun d e1 h1 v H1 S1 => ?_)
  obtain ⟨r, q, h2⟩ := h1.ofO
  have s1 := Sim.weak S1.sim (Nat.zero_le _)
  cases d with
  | d x =>
    cases x with
    | list xs =>
      cases q
      obtain ⟨a, vs, rfl, hl, _⟩ := s1.seeL List.mem_cons_self
      refine ⟨a, vs, rfl, .of hl, h2 _ [⟨0, .d (.list xs), .ref a⟩] _ ⟨s1.perm ?_, S1.al, fun _ h => nomatch h⟩ (iter_enum List.mem_cons_self)⟩
      show (⟨0, .d (.list xs), .ref a⟩ :: (roots φ1 e1 σ ++ L)).Perm (roots φ1 e1 σ ++ (⟨0, .d (.list xs), .ref a⟩ :: L))
      exact List.perm_middle.symm
    | _ => cases q
  | _ => cases q
def zipP : List PyData → List PyData → List DV
  | x :: xs, y :: ys => .d (.tuple [x, y]) :: zipP xs ys
  | _, _ => []
def zipD : Option DV → Option DV → Option (List DV)
  | some (.d (.list xs)), some (.d (.list ys)) => some (zipP xs ys)
  | some (.d (.tuple xs)), some (.d (.tuple ys)) => some (zipP xs ys)
  | _, _ => none
theorem zipP_get : ∀ {xs ys : List PyData} {i : Nat}, (zipP xs ys)[i]? = match xs[i]?, ys[i]? with
    | some x, some y => some (.d (.tuple [x, y]))
    | _, _ => none
  | [], _, i => by simp [zipP]
  | x :: xs, [], i => by
    simp only [zipP, List.getElem?_nil]
    cases (x :: xs)[i]? <;> simp
  | x :: xs, y :: ys, 0 => rfl
  | x :: xs, y :: ys, i + 1 => by
    show (zipP xs ys)[i]? = match xs[i]?, ys[i]? with
      | some x, some y => some (.d (.tuple [x, y]))
      | _, _ => none
    exact zipP_get
theorem zipP_len : ∀ {xs ys : List PyData}, (zipP xs ys).length = min xs.length ys.length
  | [], _ => by simp [zipP]
  | x :: xs, [] => by simp [zipP]
  | x :: xs, y :: ys => by simp [zipP, zipP_len]
theorem zipP_some {xs ys : List PyData} {i : Nat} {d : DV} (h : (zipP xs ys)[i]? = some d) : ∃ x y, xs[i]? = some x ∧ ys[i]? = some y ∧ d = .d (.tuple [x, y]) := by
  rw [zipP_get] at h
  split at h
  · rename_i x y h1 h2
    cases h
    exact ⟨x, y, h1, h2, rfl⟩
  · cases h
theorem zip_end {i : Nat} {x y : PyData} {u w : V} {T : Addr} {xs ys : List PyData} {us ws : List V} (S : Sim X.K Z H (kids 0 ys ws ++ (kids 0 xs us ++ R))) (h1 : xs[i]? = some x) (h2 : ys[i]? = some y) (e1 : us[i]? = some u) (e2 : ws[i]? = some w) (hT : H T = none) :
    Sim X.K Z (upd H T (.tup [u, w])) (⟨0, .d (.tuple [x, y]), .ref T⟩ :: R) := by
  have S1 : Sim X.K Z H (⟨0, .d y, w⟩ :: (kids 0 xs us ++ R)) := S.kid h2 e2
  have S2 : Sim X.K Z H (⟨0, .d y, w⟩ :: (⟨0, .d x, u⟩ :: R)) := S1.sub (.cons_cons _ ((mem_sub (kids_mem h1 e1)).append_right R))
  have S3 : Sim X.K Z H (kids 0 [x, y] [u, w] ++ R) := S2.perm (.swap _ _ _)
  exact (Sim.mkT (n := 0) S3 rfl hT).weak (Nat.zero_le _)
theorem iter_zipL {held : List Root} {a b : Addr} {xs ys : List PyData} (hm : (⟨0, .d (.list xs), .ref a⟩ : Root) ∈ held) (hm2 : (⟨0, .d (.list ys), .ref b⟩ : Root) ∈ held) : IterOk X.K Z (Itz X.K a b) held (zipP xs ys) := fun i H R S => by
  obtain ⟨a', us, e, g1, l1, S1⟩ := S.openL (List.mem_append_left _ hm) (Nat.zero_le _)
  cases e
  obtain ⟨b', ws, e, g2, l2, S2⟩ := S1.openL (List.mem_append_right _ (List.mem_append_left _ hm2)) (Nat.zero_le _)
  cases e
  refine ⟨fun hi => ⟨us, ws, .of g1, .of g2, by rw [zipP_len] at hi; omega⟩, fun d hd => ?_⟩
  obtain ⟨x, y, h1, h2, rfl⟩ := zipP_some hd
  have q1 : i < us.length := by rw [← l1]; exact (List.getElem?_eq_some_iff.mp h1).1
  have q2 : i < ws.length := by rw [← l2]; exact (List.getElem?_eq_some_iff.mp h2).1
  refine ⟨⟨us, ws, us[i], ws[i], .of g1, .of g2, List.getElem?_eq_getElem q1, List.getElem?_eq_getElem q2⟩, fun v H' ⟨T, u, w, hv, hT, hH, hu, hw⟩ => ?_⟩
  subst hH; subst hv
  exact zip_end S2 h1 h2 (hu us (.of g1)) (hw ws (.of g2)) hT
theorem iter_zipT {held : List Root} {a b : Addr} {xs ys : List PyData} (hm : (⟨0, .d (.tuple xs), .ref a⟩ : Root) ∈ held) (hm2 : (⟨0, .d (.tuple ys), .ref b⟩ : Root) ∈ held) : IterOk X.K Z (RZ.ItzT X.K a b) held (zipP xs ys) := fun i H R S => by
  obtain ⟨a', us, e, g1, l1, S1⟩ := S.openT (List.mem_append_left _ hm) (Nat.zero_le _)
  cases e
  obtain ⟨b', ws, e, g2, l2, S2⟩ := S1.openT (List.mem_append_right _ (List.mem_append_left _ hm2)) (Nat.zero_le _)
  cases e
  refine ⟨fun hi => ⟨us, ws, g1, g2, by rw [zipP_len] at hi; omega⟩, fun d hd => ?_⟩
  obtain ⟨x, y, h1, h2, rfl⟩ := zipP_some hd
  have q1 : i < us.length := by rw [← l1]; exact (List.getElem?_eq_some_iff.mp h1).1
  have q2 : i < ws.length := by rw [← l2]; exact (List.getElem?_eq_some_iff.mp h2).1
  refine ⟨⟨us, ws, us[i], ws[i], g1, g2, List.getElem?_eq_getElem q1, List.getElem?_eq_getElem q2⟩, fun v H' ⟨T, u, w, hv, hT, hH, hu, hw⟩ => ?_⟩
  subst hH; subst hv
  exact zip_end S2 h1 h2 (hu us g1) (hw ws g2) hT
def zipI (fa fb : M DV) : M (List DV) := fun env => (fa env).bind fun d e1 => (fb e1).bind fun d' e => .ofO (zipD (some d) (some d')) e
theorem ji_zip {x : Str} {n ka kb : Nat} (ex : x = "zip") (hg : Gl X x) (hm : X.mg x = none) (hs : noStar a = true) (hs2 : noStar b = true) (ha : JE X Z W φ a φ1 (.v ka) fa) (hb : JE X Z W φ1 b φ2 (.v kb) fb) :
    JI X Z W φ (.Tuple es n tpos) (.Call (.Name x p) [a, b] [] pos) φ2 (zipI fa fb) := by
  subst ex
  refine pi_imp (RZ.pi_zipA hg hm (pa_cons ha (pa_cons hb pa_nil (star_eq hs2)) (star_eq hs)) (star_eq hs) (star_any (by simp [hs2]))) fun σ H R ⟨L, env, S, h⟩ => ?_
  refine rdE.go S (h.bind.mono fun d e1 h1 v H1 S1 => ?_)
  refine rdE.go S1 (h1.bind.mono fun d' e2 h2 u H2 S2 => ?_)
  obtain ⟨r, q, h3⟩ := h2.ofO
  have s2 : Stt X.K Z φ2 e2 [] σ H2 ([⟨0, d', u⟩, ⟨0, d, v⟩] ++ L) := by
    have s0 : Sim X.K Z H2 (⟨kb, d', u⟩ :: ⟨ka, d, v⟩ :: (roots φ2 e2 σ ++ L)) := S2.sim
    have s1 := s0.less (R' := ⟨0, d', u⟩ :: ⟨0, d, v⟩ :: (roots φ2 e2 σ ++ L)) (.cons ⟨Nat.zero_le _, rfl, rfl⟩ (.cons ⟨Nat.zero_le _, rfl, rfl⟩ (Less.refl _)))
    refine ⟨s1.perm ?_, S2.al, fun _ h => nomatch h⟩
    show ([(⟨0, d', u⟩ : Root), ⟨0, d, v⟩] ++ (roots φ2 e2 σ ++ L)).Perm (roots φ2 e2 σ ++ ([(⟨0, d', u⟩ : Root), ⟨0, d, v⟩] ++ L))
    have z := shuf (A := []) (B := [(⟨0, d', u⟩ : Root), ⟨0, d, v⟩]) (C := roots φ2 e2 σ) (D := L)
    exact z
  have m1 : (⟨0, d, v⟩ : Root) ∈ hrts [] ++ (roots φ2 e2 σ ++ ([⟨0, d', u⟩, ⟨0, d, v⟩] ++ L)) := by simp
  have m2 : (⟨0, d', u⟩ : Root) ∈ hrts [] ++ (roots φ2 e2 σ ++ ([⟨0, d', u⟩, ⟨0, d, v⟩] ++ L)) := by simp
  unfold zipD at q
  split at q
  · rename_i xs ys q1 q2
    cases q1; cases q2; cases q
    obtain ⟨a, us, rfl, g1, _⟩ := s2.sim.seeL m1
    obtain ⟨b, ws, rfl, g2, _⟩ := s2.sim.seeL m2
    exact ⟨a, b, us, ws, rfl, .inl ⟨.of g1, .of g2, h3 _ _ _ s2 (iter_zipL (by simp) (by simp))⟩⟩
  · rename_i xs ys q1 q2
    cases q1; cases q2; cases q
    obtain ⟨a, us, rfl, g1, _⟩ := s2.sim.seeT m1
    obtain ⟨b, ws, rfl, g2, _⟩ := s2.sim.seeT m2
    exact ⟨a, b, us, ws, rfl, .inr ⟨g1, g2, h3 _ _ _ s2 (iter_zipT (by simp) (by simp))⟩⟩
  · cases q
end
end Lk
namespace Lk
open PySem PySem.Spec L2

def wipeE (vs : List Nat) (e : Ev) : Ev := match vs with
  | [] => e
  | v :: vs => (wipeE vs e).set v none
def restE (vs : List Nat) (e e2 : Ev) : Ev := match vs with
  | [] => e2
  | v :: vs => restE vs e (e2.set v (slot (wipeE vs e) v))
/-- nothing may be raised -/
def noEx {α : Type} (o : Out α) : Out α := match o with
  | .ok a e => .ok a e
  | _ => .bad
def dataOf : DV → Option PyData
  | .d x => some x
  | _ => none
def compGo (T : Tgt) (vs : List Nat) (ft : M Bool) (fe : M DV) : List DV → List PyData → M (List PyData)
  | [], acc => fun e => .ok acc e
  | d :: ds, acc => fun e => (noEx (tgM T d e)).bind fun _ e1 => (noEx (ft e1)).bind fun b e2 => match b with
    | false => compGo T vs ft fe ds acc (wipeE vs e2)
    | true => (noEx (fe e2)).bind fun y e3 => match dataOf y with
      | some x => if acc.length < big then compGo T vs ft fe ds (acc ++ [x]) (wipeE vs e3) else .bad
      | none => .bad
def compM (T : Tgt) (vs : List Nat) (fi : M (List DV)) (ft : M Bool) (fe : M DV) : M DV := fun env => (fi env).bind fun items e1 => (compGo T vs ft fe items [] (wipeE vs e1)).bind fun xs e2 => .ok (.d (.list xs)) (restE vs e1 e2)
abbrev W0 : WX := fun _ _ _ _ => False
section
theorem wipe_get {σ : St} {j : Nat} : ∀ {vs : List Nat}, j ∉ vs → (wipe σ vs)[j]? = σ[j]?
  | [], _ => rfl
  | v :: vs, h => by
    simp only [List.mem_cons, not_or] at h
    unfold wipe
    rw [List.getElem?_set_ne (fun z => h.1 z.symm), wipe_get h.2]
theorem wipe_in {σ : St} {j : Nat} : ∀ {vs : List Nat}, j ∈ vs → j < σ.length → (wipe σ vs)[j]? = some none
  | v :: vs, h, hl => by
    unfold wipe
    by_cases z : v = j
    · subst z
      rw [List.getElem?_set_self (by rw [wipe_length]; exact hl)]
    · rw [List.getElem?_set_ne z]
      rcases List.mem_cons.mp h with q | q
      · exact absurd q.symm z
      · exact wipe_in q hl
theorem wipe_ext {a b : St} {vs : List Nat} (hl : a.length = b.length) (h : ∀ j, j ∉ vs → a[j]? = b[j]?) : wipe a vs = wipe b vs := by
  apply List.ext_getElem?
  intro j
  by_cases hj : j ∈ vs
  · by_cases hlt : j < a.length
    · rw [wipe_in hj hlt, wipe_in hj (hl ▸ hlt)]
    · rw [List.getElem?_eq_none (by rw [wipe_length]; omega), List.getElem?_eq_none (by rw [wipe_length]; omega)]
  · rw [wipe_get hj, wipe_get hj, h j hj]
theorem Al.save1 : ∀ {φ : List Nat} {e : Ev} {σ : St} {v : Nat}, Al φ e σ → ∃ A, Al φ (e.set v none) (σ.set v none) ∧ (roots φ e σ).Perm (A ++ roots φ (e.set v none) (σ.set v none)) ∧
    ∀ e2, Al φ e2 (σ.set v none) → Al φ (e2.set v (slot e v)) σ ∧ (roots φ (e2.set v (slot e v)) σ).Perm (A ++ roots φ e2 (σ.set v none))
  | [], [], [], v, a => ⟨[], trivial, .refl _, fun e2 b => by
    cases e2 with
    | nil => exact ⟨trivial, .refl _⟩
    | cons _ _ => cases v <;> exact b.elim⟩
  | n :: φ, d :: e, x :: σ, 0, a => by
    refine ⟨roots [n] [d] [x], ⟨fun h => by simp at h, a.2⟩, ?_, fun e2 b => ?_⟩
    · cases d <;> cases x <;> first | exact .refl _
    · cases e2 with
      | nil => exact b.elim
      | cons d2 e2 =>
        have hd : d2 = none := by
          cases d2 with
          | none => rfl
          | some d => exact absurd (b.1 rfl) (by simp)
        subst hd
        refine ⟨⟨a.1, b.2⟩, ?_⟩
        show (roots (n :: φ) (slot (d :: e) 0 :: e2) (x :: σ)).Perm _
        have : slot (d :: e) 0 = d := by simp [slot]
        rw [this]
        cases d <;> cases x <;> exact .refl _
  | n :: φ, d :: e, x :: σ, v + 1, a => by
    obtain ⟨A, q1, q2, q3⟩ := Al.save1 (v := v) a.2
    refine ⟨A, ⟨a.1, q1⟩, ?_, fun e2 b => ?_⟩
    · simp only [List.set_cons_succ]
      cases d with
      | none => exact q2
      | some d =>
        cases x with
        | none => exact q2
        | some x => exact (q2.cons _).trans List.perm_middle.symm
    · cases e2 with
      | nil => exact b.elim
      | cons d2 e2 =>
        obtain ⟨z1, z2⟩ := q3 e2 b.2
        have : slot (d :: e) (v + 1) = slot e v := by simp [slot]
        rw [this]
        refine ⟨⟨b.1, z1⟩, ?_⟩
        simp only [List.set_cons_succ]
        cases d2 with
        | none => exact z2
        | some d =>
          cases x with
          | none => exact z2
          | some x => exact (z2.cons _).trans List.perm_middle.symm
  | [], [], _ :: _, _, a => a.elim
  | [], _ :: _, [], _, a => a.elim
  | [], _ :: _, _ :: _, _, a => a.elim
  | _ :: _, [], [], _, a => a.elim
  | _ :: _, [], _ :: _, _, a => a.elim
  | _ :: _, _ :: _, [], _, a => a.elim
theorem Al.saveA {φ : List Nat} {e : Ev} {σ : St} (a : Al φ e σ) : ∀ vs : List Nat, ∃ A, Al φ (wipeE vs e) (wipe σ vs) ∧ (roots φ e σ).Perm (A ++ roots φ (wipeE vs e) (wipe σ vs)) ∧
    ∀ e2, Al φ e2 (wipe σ vs) → Al φ (restE vs e e2) σ ∧ (roots φ (restE vs e e2) σ).Perm (A ++ roots φ e2 (wipe σ vs))
  | [] => ⟨[], a, .refl _, fun e2 b => ⟨b, .refl _⟩⟩
  | v :: vs => by
    obtain ⟨A, q1, q2, q3⟩ := Al.saveA a vs
    obtain ⟨B, p1, p2, p3⟩ := Al.save1 (v := v) q1
    refine ⟨A ++ B, p1, ?_, fun e2 b => ?_⟩
    · refine q2.trans ?_
      rw [List.append_assoc]
      exact List.Perm.append_left _ p2
    · obtain ⟨z1, z2⟩ := p3 e2 b
      obtain ⟨y1, y2⟩ := q3 _ z1
      refine ⟨y1, y2.trans ?_⟩
      rw [List.append_assoc]
      exact List.Perm.append_left _ z2
variable {X : Cx} {Z : ClT} {W : WX} {φ φ' φ1 φ2 φ3 φL : List Nat} {fe : M DV} {ft : M Bool} {fi : M (List DV)} {σ : St} {H : Hp} {L : List Root} {env : Ev} {elt tg iter : Expr} {ifs : List Expr} {scope : Scope} {own : List (Str × Nat)} {pos : Pos} {ke : Nat} {T : Tgt}
theorem Wish.noEx {α : Type} {W' : WX} {L' : List Root} {o : Out α} {k : α → Ev → Prop} (h : Wish X.K Z W L (Lk.noEx o) k) : Wish X.K Z W' L' o k := by
  cases o with
  | ok a e => exact h
  | ex c g e => exact h.elim
  | bad => exact h.elim
theorem compGo_ok {vs : List Nat} : ∀ (items : List DV) (acc : List PyData) (e : Ev) (k : List PyData → Ev → Prop) (W' : WX) (L' : List Root), Wish X.K Z W L (compGo T vs ft fe items acc e) k → Wish X.K Z W' L' (compGo T vs ft fe items acc e) k
  | [], acc, e, k, W', L', h => h
  | d :: ds, acc, e, k, W', L', h => by
    unfold compGo at h ⊢
    cases q1 : tgM T d e with
    | bad => rw [q1] at h; exact h.elim
    | ex c g e' => rw [q1] at h; exact h.elim
    | ok u e1 =>
      rw [q1] at h
      have h : Wish X.K Z W L ((Lk.noEx (ft e1)).bind _) k := h
      show Wish X.K Z W' L' ((Lk.noEx (ft e1)).bind _) k
      cases q2 : ft e1 with
      | bad => rw [q2] at h; exact h.elim
      | ex c g e' => rw [q2] at h; exact h.elim
      | ok b e2 =>
        rw [q2] at h
        cases b with
        | false => exact compGo_ok ds acc _ k W' L' h
        | true =>
          have h : Wish X.K Z W L ((Lk.noEx (fe e2)).bind _) k := h
          show Wish X.K Z W' L' ((Lk.noEx (fe e2)).bind _) k
          cases q3 : fe e2 with
          | bad => rw [q3] at h; exact h.elim
          | ex c g e' => rw [q3] at h; exact h.elim
          | ok y e3 =>
            rw [q3] at h
            have h : Wish X.K Z W L (match dataOf y with
              | some x => if acc.length < big then compGo T vs ft fe ds (acc ++ [x]) (wipeE vs e3) else .bad
              | none => .bad) k := h
            show Wish X.K Z W' L' (match dataOf y with
              | some x => if acc.length < big then compGo T vs ft fe ds (acc ++ [x]) (wipeE vs e3) else .bad
              | none => .bad) k
            cases q4 : dataOf y with
            | none => rw [q4] at h; exact h.elim
            | some x =>
              rw [q4] at h
              simp only at h ⊢
              split at h
              · rename_i hl
                rw [if_pos hl]
                exact compGo_ok ds _ _ k W' L' h
              · exact h.elim
theorem wipeE_len {e : Ev} : ∀ vs : List Nat, (wipeE vs e).length = e.length
  | [] => rfl
  | v :: vs => by unfold wipeE; rw [List.length_set, wipeE_len vs]
theorem Al.wipeA {φ : List Nat} {e : Ev} {σ : St} (a : Al φ e σ) (vs : List Nat) : Al φ (wipeE vs e) (wipe σ vs) ∧ ∃ A, (roots φ e σ).Perm (A ++ roots φ (wipeE vs e) (wipe σ vs)) := by
  obtain ⟨A, q1, q2, _⟩ := a.saveA vs
  exact ⟨q1, A, q2⟩
/-- tests behind a clause -/
def JTs (X : Cx) (Z : ClT) (W : WX) (φ : List Nat) (ifs : List Expr) (φ' : List Nat) (f : M Bool) : Prop := PTs X ifs (rdT X Z W φ φ' f)
theorem jts_nil : JTs X Z W φ [] φ (M.pure true) := ⟨fun pins s σ H Q I ⟨L, env, S, h⟩ => pts_nil.run pins s σ H Q I (h H S)⟩
theorem jts_one {c : Expr} (h : JT X Z W φ c φ' ft) : JTs X Z W φ [c] φ' ft := pts_one h
abbrev blkOf (X : Cx) (s : Shared) (H : Hp) (scope : Scope) (cl : List (Str × Addr)) (C : Addr) (fp : List Addr) : Cx := X.blk s H scope (compEnvC scope cl C X.env) fp
/-- the term of a target, as JG has it -/
abbrev gT (K : PySem.W.Frag) (Z : ClT) (T : Tgt) : TG := fun v σ H Q => ∃ (L : List Root) (env : Ev) (φ : List Nat) (k : Nat) (d : DV) (W : WX), Stt K Z φ env [⟨.v k, d, v⟩] σ H L ∧ k ≤ 1 ∧
  Wish K Z W L (tgM T d env) fun _ e' => ∀ σ' H', Stt K Z (tgF T k φ) e' [] σ' H' L → (∀ P pv, tgFree P T = true → Pok P pv σ → Pok P pv σ') → (σ'.length = σ.length ∧ ∀ j, j ∉ tgS T → σ'[j]? = σ[j]?) → Q σ' H'
theorem same_wipe {T : Tgt} {vs : List Nat} {σ2 : St} (hT : ∀ i ∈ tgS T, i ∈ vs) (hl : σ2.length = (wipe σ vs).length) (h : ∀ j, j ∉ tgS T → σ2[j]? = (wipe σ vs)[j]?) : wipe σ2 vs = wipe σ vs := by
  refine wipe_ext (by rw [hl, wipe_length]) fun j hj => ?_
  rw [h j (fun z => hj (hT j z)), wipe_get hj]
theorem Wish.any {α : Type} {W' : WX} {L' : List Root} {o : Out α} {k : α → Ev → Prop} (h : ∀ (c : Nat) (g : PyData) (e : Ev), o ≠ .ex c g e) (q : Wish X.K Z W L o k) : Wish X.K Z W' L' o k := by
  cases o with
  | ok a e => exact q
  | ex c g e => exact absurd rfl (h c g e)
  | bad => exact q.elim
theorem lc_law {vs : List Nat} {Q : VK} (hT : ∀ i ∈ tgS T, i ∈ vs) (l0 : leN φL φ1 = true) (l2 : leN φL φ2 = true) (l3 : leN φL φ3 = true)
    (h : rdE X Z W φ φL (.v (ke + 1)) (compM T vs fi ft fe) σ H Q) :
    tLc (rdI X Z W φ φ1 fi) (gT X.K Z T) (rdT X Z W0 (tgF T 0 φL) φ2 ft) (rdE X Z W0 φ2 φ3 (.v ke) fe) vs σ H Q := by
  obtain ⟨L, env, S, q⟩ := h
  refine ⟨L, env, S, q.bind.mono fun items e1 q1 J held H1 S1 ok D hD => ?_⟩
  have S1 := S1.less l0
  obtain ⟨A, a0, p0, back⟩ := S1.al.saveA vs
  let Post : List PyData → Ev → Prop := fun xs e2 => ∀ v H', Stt X.K Z φL (restE vs e1 e2) [⟨.v (ke + 1), .d (.list xs), v⟩] σ H' L → Q v H'
  have q2 : Wish X.K Z W0 [] (compGo T vs ft fe items [] (wipeE vs e1)) Post := compGo_ok items [] _ _ W0 [] q1.bind
  let St1 : Nat → Hp → Prop := fun i H => i ≤ items.length ∧ ∃ env acc, Sim X.K Z H (⟨ke + 1, .d (.list acc), .ref D⟩ :: (roots φL env (wipe σ vs) ++ (held ++ (A ++ L)))) ∧ Al φL env (wipe σ vs) ∧ acc.length ≤ big ∧ Wish X.K Z W0 [] (compGo T vs ft fe (items.drop i) acc env) Post
  refine ⟨fun i m H => m = items.length - i ∧ St1 i H, ⟨items.length, by omega, Nat.zero_le _, wipeE vs e1, [], ?_, a0, Nat.zero_le _, q2⟩, ?_⟩
  · have s0 : Sim X.K Z H1 (kids ke [] [] ++ (roots φL (wipeE vs e1) (wipe σ vs) ++ (held ++ (A ++ L)))) := by
      refine S1.sim.perm ?_
      show (roots φL e1 σ ++ (held ++ L)).Perm (roots φL (wipeE vs e1) (wipe σ vs) ++ (held ++ (A ++ L)))
      refine (List.Perm.append_right _ p0).trans ?_
      rw [List.append_assoc]
      refine List.perm_append_comm_assoc .. |>.trans ?_
      refine List.Perm.append_left _ ?_
      exact List.perm_append_comm_assoc ..
    exact Sim.mkL s0 rfl hD
  rintro i m H ⟨rfl, hi, env, acc, S, al, hac, q⟩
  have S0 : Sim X.K Z H (held ++ (⟨ke + 1, .d (.list acc), .ref D⟩ :: (roots φL env (wipe σ vs) ++ (A ++ L)))) := by
    refine S.perm ?_
    refine List.Perm.trans ?_ List.perm_middle.symm
    exact .cons _ (List.perm_append_comm_assoc ..)
  obtain ⟨o1, o2⟩ := ok i H _ S0
  by_cases hlt : i < items.length
  · obtain ⟨go, yl⟩ := o2 items[i] (List.getElem?_eq_getElem hlt)
    refine .inr ⟨go, St1 (i + 1), fun H' h' => ⟨items.length - (i + 1), by omega, rfl, h'⟩, fun x H' y => ?_⟩
    rw [List.drop_eq_getElem_cons hlt] at q
    generalize hL' : (⟨ke + 1, .d (.list acc), .ref D⟩ : Root) :: (held ++ (A ++ L)) = L'
    have S2 : Stt X.K Z φL env [⟨.v 0, items[i], x⟩] (wipe σ vs) H' L' := by
      subst hL'
      refine ⟨(yl x H' y).perm (.cons _ ?_), al, fun z hz => by rw [List.mem_singleton.mp hz]; trivial⟩
      show (held ++ (_ :: (roots φL env (wipe σ vs) ++ (A ++ L)))).Perm (roots φL env (wipe σ vs) ++ (_ :: (held ++ (A ++ L))))
      refine List.perm_middle.trans (List.Perm.trans (.cons _ ?_) List.perm_middle.symm)
      exact List.perm_append_comm_assoc ..
    have q : Wish X.K Z W0 [] ((Lk.noEx (tgM T items[i] env)).bind _) Post := q
    refine ⟨L', env, φL, 0, items[i], W0, S2, Nat.zero_le _, (q.bind.noEx (W' := W0) (L' := L')).mono fun _ e2 q3 σ2 H2 s2 _ ⟨g1, g2⟩ => ?_⟩
    have ew := same_wipe hT g1 g2
    refine ⟨ew, L', e2, s2, (q3.bind.noEx (W' := W0) (L' := L')).mono fun b e3 q4 H3 s3 => ?_⟩
    -- the turn's end
    have fin : ∀ {φ4 : List Nat} {e4 : Ev} {H4 : Hp} {acc' : List PyData}, leN φL φ4 = true → Sim X.K Z H4 (⟨ke + 1, .d (.list acc'), .ref D⟩ :: (roots φ4 e4 σ2 ++ (held ++ (A ++ L)))) → Al φ4 e4 σ2 → acc'.length ≤ big →
        Wish X.K Z W0 [] (compGo T vs ft fe (items.drop (i + 1)) acc' (wipeE vs e4)) Post → St1 (i + 1) H4 := fun {φ4 e4 H4 acc'} hl s a hb qq => by
      obtain ⟨a5, l5⟩ := a.less hl
      obtain ⟨a6, B, p6⟩ := a5.wipeA vs
      rw [ew] at a6 p6
      refine ⟨hlt, wipeE vs e4, acc', ?_, a6, hb, qq⟩
      have s7 := s.less (R' := ⟨ke + 1, .d (.list acc'), .ref D⟩ :: (roots φL e4 σ2 ++ (held ++ (A ++ L)))) (.cons ⟨Nat.le_refl _, rfl, rfl⟩ (Less.app l5 (Less.refl _)))
      have s8 := s7.perm (R' := ⟨ke + 1, .d (.list acc'), .ref D⟩ :: ((B ++ roots φL (wipeE vs e4) (wipe σ vs)) ++ (held ++ (A ++ L)))) (.cons _ (List.Perm.append_right _ p6))
      exact s8.sub (.cons_cons _ (List.Sublist.append_right (List.sublist_append_right _ _) _))
    cases b with
    | false =>
      simp only [Bool.false_eq_true, if_false]
      refine fin l2 ?_ s3.al hac q4
      refine s3.sim.perm ?_
      subst hL'
      exact List.perm_middle
    | true =>
      simp only [if_true]
      refine ⟨L', e3, s3, (q4.bind.noEx (W' := W0) (L' := L')).mono fun y e4 q5 yv H4 s4 => ?_⟩
      cases hy : dataOf y with
      | none => rw [hy] at q5; exact q5.elim
      | some x =>
        rw [hy] at q5
        simp only at q5
        split at q5
        · rename_i hb
          have ey : y = .d x := by
            cases y <;> simp only [dataOf] at hy <;> first | cases hy | skip
            rfl
          subst ey
          have s5 : Sim X.K Z H4 (⟨ke + 1, .d (.list acc), .ref D⟩ :: (⟨ke, .d x, yv⟩ :: (roots φ3 e4 σ2 ++ (held ++ (A ++ L))))) := by
            refine s4.sim.perm ?_
            subst hL'
            show (⟨ke, .d x, yv⟩ :: (roots φ3 e4 σ2 ++ (_ :: (held ++ (A ++ L))))).Perm _
            exact (List.Perm.cons _ List.perm_middle).trans (.swap _ _ _)
          obtain ⟨D', vacc, e, hD4, hlen, s6⟩ := s5.apart
          cases e
          refine ⟨vacc, hD4, by rw [sizeLine_eq]; unfold big at hb; omega, ?_⟩
          have s7 : SimT X.K Z H4 [D] (kids ke (acc ++ [x]) (vacc ++ [yv]) ++ (roots φ3 e4 σ2 ++ (held ++ (A ++ L)))) := by
            rw [kids_append hlen]
            rw [List.append_assoc]
            exact s6
          exact fin l3 (s7.close (by simp [hlen]) hD4) s4.al (by simp; exact hb) q5
        · exact q5.elim
  · have e : i = items.length := by omega
    subst e
    rw [List.drop_length] at q
    refine .inl ⟨o1 (Nat.le_refl _), (show ∀ v H', Stt X.K Z φL (restE vs e1 env) [⟨.v (ke + 1), .d (.list acc), v⟩] σ H' L → Q v H' from q) _ _ ?_⟩
    obtain ⟨a7, p7⟩ := back env al
    refine ⟨?_, a7, fun z hz => by rw [List.mem_singleton.mp hz]; trivial⟩
    have s8 : Sim X.K Z H (⟨ke + 1, .d (.list acc), .ref D⟩ :: (roots φL env (wipe σ vs) ++ (A ++ L))) := S.sub (.cons_cons _ (List.Sublist.append_left (List.sublist_append_right _ _) _))
    refine s8.perm (.cons _ ?_)
    refine (List.perm_append_comm_assoc ..).trans ?_
    rw [← List.append_assoc]
    exact List.Perm.append_right _ p7.symm
/-- a list comprehension, as a value -/
theorem je_lc (hc : X.calm = true) (hN : X.N.Nodup) (hi : JI X Z W φ tg iter φ1 fi) (ok : BlkOk X.N X.env.scope scope own)
    (hg : ∀ s H C cl fp, JG (blkOf X s H scope cl C fp) Z tg T) (ht : ∀ s H C cl fp, JTs (blkOf X s H scope cl C fp) Z W0 (tgF T 0 φL) ifs φ2 ft)
    (he : ∀ s H C cl fp, JE (blkOf X s H scope cl C fp) Z W0 φ2 elt φ3 (.v ke) fe) (hs : ∀ x, foldedSetIterable iter X.env x = pure x)
    (hT : ∀ i ∈ tgS T, i ∈ own.map (·.2)) (l0 : leN φL φ1 = true) (l2 : leN φL φ2 = true) (l3 : leN φL φ3 = true) :
    JE X Z W φ (.ListComp elt [⟨tg, iter, ifs, 0⟩] scope pos) φL (.v (ke + 1)) (compM T (own.map (·.2)) fi ft fe) :=
  pe_imp (pe_lc (g := gT X.K Z T) (tt := rdT X Z W0 (tgF T 0 φL) φ2 ft) (te := rdE X Z W0 φ2 φ3 (.v ke) fe) hc hN hi ok (fun s H C cl fp => hg s H C cl fp) (fun s H C cl fp => ht s H C cl fp) (fun s H C cl fp => he s H C cl fp) hs) fun σ H Q h => lc_law hT l0 l2 l3 h
/-- name = [..] on one line -/
theorem js_setLc {P : List (Nat × Nat)} {kr : Nat} {ψ : SF} {i : Nat} {y : Str} {py spos : Pos} (hc : X.calm = true) (hN : X.N.Nodup) (hy : X.N[i]? = some y) (hyl : X.env.scope.names.lookup y = some .local)
    (hsw : swapsWith (.ListComp elt [⟨tg, iter, ifs, 0⟩] scope pos) (some (.Name y py)) spos.line X.env = pure true)
    (hi : JI X Z W φ tg iter φ1 fi) (ok : BlkOk X.N X.env.scope scope own)
    (hg : ∀ s H C cl fp, JG (blkOf X s H scope cl C fp) Z tg T) (ht : ∀ s H C cl fp, JTs (blkOf X s H scope cl C fp) Z W0 (tgF T 0 φL) ifs φ2 ft)
    (he : ∀ s H C cl fp, JE (blkOf X s H scope cl C fp) Z W0 φ2 elt φ3 (.v ke) fe) (hs : ∀ x, foldedSetIterable iter X.env x = pure x)
    (hT : ∀ i ∈ tgS T, i ∈ own.map (·.2)) (l0 : leN φL φ1 = true) (l2 : leN φL φ2 = true) (l3 : leN φL φ3 = true)
    (hP : P.all (fun p => p.1 != i) = true) (hn : ψ.n = φL.set i (ke + 1)) :
    JS X Z W P kr φ (.Assign [.Name y py] (.ListComp elt [⟨tg, iter, ifs, 0⟩] scope pos) spos) ψ (setM i (compM T (own.map (·.2)) fi ft fe)) := by
  refine ps_imp (ps_setLc (g := gT X.K Z T) (tt := rdT X Z W0 (tgF T 0 φL) φ2 ft) (te := rdE X Z W0 φ2 φ3 (.v ke) fe) hc hN hy hyl hsw hi ok (fun s H C cl fp => hg s H C cl fp) (fun s H C cl fp => ht s H C cl fp) (fun s H C cl fp => he s H C cl fp) hs) fun D σ H ⟨L, env, pv, S, hp, q⟩ => ?_
  refine lc_law (Q := fun x H1 => gName i x σ H1 D.nx) hT l0 l2 l3 ⟨L, env, S, q.bind.mono fun d e' q v H' s => ?_⟩
  split at q
  · rename_i hl
    rw [hn] at q
    exact (show ∀ σ' H', Stt X.K Z (φL.set i (ke + 1)) (e'.set i (some d)) [] σ' H' L → Pok P pv σ' → D.nx σ' H' from q) _ _ (s.store hl) (hp.set hP)
  · exact q.elim
end
end Lk
namespace Lk
open PySem PySem.Spec L2
section
variable {X : Cx} {Z : ClT} {W : WX} {P : List (Nat × Nat)} {kr : Nat} {φ φ0 φ1 φ2 φ3 φ' : List Nat} {ψ ψ1 ψ2 : SF} {t ta tb tc : Tm} {ts : List Tm} {fa fb fc : M DV} {f : M (List DV)} {g g1 g2 : M Fl} {σ : St} {H : Hp} {L R : List Root} {env : Ev} {a b c e tg : Expr} {es : List Expr} {st : Stmt} {sts : List Stmt} {pos pos' p : Pos} {k n : Nat}

/-! ### what is never reached needs no rule -/
theorem je_bad : JE X Z W φ e φ' t (fun _ => .bad) := ⟨fun pins s σ H Q I ⟨L, env, S, h⟩ => h.elim⟩
theorem js_bad : JS X Z W P kr φ st ψ (fun _ => .bad) := ⟨fun pins s σ H D I ⟨L, env, pv, S, hp, h⟩ => h.elim⟩
theorem jss_bad : JSs X Z W P kr φ sts ψ (fun _ => .bad) := ⟨fun pins s σ H D I ⟨L, env, pv, S, hp, h⟩ => h.elim⟩
theorem je_less (h : JE X Z W φ e φ1 t fa) (hl : leN φ2 φ1 = true) : JE X Z W φ e φ2 t fa := pe_imp h fun σ H Q ⟨L, env, S, q⟩ => ⟨L, env, S, q.mono fun d e' k v H' s => k v H' (s.less hl)⟩
theorem jt_less {ft : M Bool} (h : JT X Z W φ e φ1 ft) (hl : leN φ2 φ1 = true) : JT X Z W φ e φ2 ft := pt_imp h fun σ H Q ⟨L, env, S, q⟩ => ⟨L, env, S, q.mono fun d e' k H' s => k H' (s.less hl)⟩
theorem Stt.weakV {k m : Nat} {d : DV} {v : V} {hs : List Held} (S : Stt X.K Z φ env (⟨.v k, d, v⟩ :: hs) σ H L) (h : m ≤ k) : Stt X.K Z φ env (⟨.v m, d, v⟩ :: hs) σ H L := by
  refine ⟨Sim.weak (n := k) S.sim h, S.al, fun x hx => ?_⟩
  rcases List.mem_cons.mp hx with e | hx
  · subst e; trivial
  · exact S.at' x (List.mem_cons_of_mem _ hx)
theorem je_weak {m : Nat} (h : JE X Z W φ e φ1 (.v k) fa) (hl : m ≤ k) : JE X Z W φ e φ1 (.v m) fa := pe_imp h fun σ H Q ⟨L, env, S, q⟩ => ⟨L, env, S, q.mono fun d e' z v H' s => z v H' (s.weakV hl)⟩

/-! ### a op b op' c -/
def chM (g g' : DV → DV → Option DV) (ta tb tc : Tm) (fa fb fc : M DV) : M DV := fun env => (fa env).bind fun d e1 => (fb e1).bind fun d' e2 =>
  match ta.now d e2, tb.now d' e2 with
  | some x, some y => (match g x y with
    | some (.d (.bool true)) => (fc e2).bind fun d'' e3 => (match tb.now d' e3, tc.now d'' e3 with
      | some y, some z => (match g' y z with
        | some (.d (.bool r)) => .ok (.d (.bool r)) e3
        | _ => .bad)
      | _, _ => .bad)
    | some (.d (.bool false)) => .ok (.d (.bool false)) e2
    | _ => .bad)
  | _, _ => .bad
theorem Stt.op1 {hs : List Held} {h1 h2 : Held} {g : DV → DV → Option DV} {x y r : DV} {k cap : Nat} {P : VK} (S : Stt X.K Z φ env hs σ H L) (m1 : h1 ∈ hs) (m2 : h2 ∈ hs) (q1 : h1.t.now h1.d env = some x) (q2 : h2.t.now h2.d env = some y) (hg : g x y = some r)
    (hP : ∀ v H', Stt X.K Z (capS cap (hs.map fun h => h.t.slot?) φ) env (⟨.v k, r, v⟩ :: hs.map (Held.cap cap)) σ H' L → P v H') :
    ∃ R d e n m r, Sim X.K Z H R ∧ (⟨n, d, h1.v⟩ : Root) ∈ R ∧ (⟨m, e, h2.v⟩ : Root) ∈ R ∧ n ≤ cap ∧ m ≤ cap ∧ g d e = some r ∧ ∀ v H', Sim X.K Z H' (⟨k, r, v⟩ :: R) → P v H' := by
  obtain ⟨n, hn, mm1⟩ := S.memC (c := cap) m1 q1
  obtain ⟨m, hm, mm2⟩ := S.memC (c := cap) m2 q2
  refine ⟨_, x, y, n, m, r, (S.cap cap).sim, mm1, mm2, hn, hm, hg, fun v H' s => hP v H' ⟨s, (S.cap cap).al, fun z hz => ?_⟩⟩
  rcases List.mem_cons.mp hz with e | hz
  · subst e; trivial
  · exact (S.cap cap).at' z hz
theorem hrts_sub {hs hs' : List Held} (h : hs'.Sublist hs) : (hrts hs').Sublist (hrts hs) := by
  induction h with
  | slnil => exact .refl _
  | cons a _ ih => exact ih.trans (List.sublist_append_right _ _)
  | cons_cons a _ ih => exact List.Sublist.append_left ih _
theorem Stt.hsub {hs hs' : List Held} (S : Stt X.K Z φ env hs σ H L) (h : hs'.Sublist hs) : Stt X.K Z φ env hs' σ H L :=
  ⟨S.sim.sub (List.Sublist.append_right (hrts_sub h) _), S.al, fun x hx => S.at' x (h.subset hx)⟩
theorem ch_core {op op' : CmpOp} {g g' : DV → DV → Option DV} {k' : Nat} {P : VK} (S : Stt X.K Z φ env [] σ H L) (hb : JE X Z W φ1 b φ2 tb fb) (hc : JE X Z W (cap2 9 ta tb φ2) c φ3 tc fc) (hl : leN φ' (cap2 9 ta tb φ2) = true) (hl3 : leN φ' (cap2 9 tb tc φ3) = true)
    (h : Wish X.K Z W L (chM g g' ta tb tc fa fb fc env) fun d e' => ∀ kb H', d = .d (.bool kb) → Stt X.K Z φ' e' [] σ H' L → P (.bl kb) H') :
    tChain (fun x y H Q => ∃ R d e n m r, Sim X.K Z H R ∧ (⟨n, d, x⟩ : Root) ∈ R ∧ (⟨m, e, y⟩ : Root) ∈ R ∧ n ≤ 9 ∧ m ≤ 9 ∧ g d e = some r ∧ ∀ v H', Sim X.K Z H' (⟨k, r, v⟩ :: R) → Q v H')
      (fun x y H Q => ∃ R d e n m r, Sim X.K Z H R ∧ (⟨n, d, x⟩ : Root) ∈ R ∧ (⟨m, e, y⟩ : Root) ∈ R ∧ n ≤ 9 ∧ m ≤ 9 ∧ g' d e = some r ∧ ∀ v H', Sim X.K Z H' (⟨k', r, v⟩ :: R) → Q v H')
      (rdE X Z W φ φ1 ta fa) (rdE X Z W φ1 φ2 tb fb) (rdE X Z W (cap2 9 ta tb φ2) φ3 tc fc) σ H P := by
  refine rdE.go S (h.bind.mono fun d e1 h1 v H1 S1 => ?_)
  refine rdE.go S1 (h1.bind.mono fun d' e2 h2 u H2 S2 => ?_)
  cases q1 : ta.now d e2 with
  | none => rw [q1] at h2; exact h2.elim
  | some x =>
    cases q2 : tb.now d' e2 with
    | none => rw [q1, q2] at h2; exact h2.elim
    | some y =>
      rw [q1, q2] at h2
      simp only at h2
      cases q3 : g x y with
      | none => rw [q3] at h2; exact h2.elim
      | some r =>
        rw [q3] at h2
        have isb : ∃ kb, r = .d (.bool kb) := by
          cases r with
          | d r =>
            cases r with
            | bool kb => exact ⟨kb, rfl⟩
            | none => exact h2.elim
            | int _ => exact h2.elim
            | str _ => exact h2.elim
            | list _ => exact h2.elim
            | tuple _ => exact h2.elim
            | dict _ => exact h2.elim
          | o _ _ => exact h2.elim
          | x _ _ => exact h2.elim
          | f _ _ => exact h2.elim
          | s _ => exact h2.elim
        obtain ⟨kb, rfl⟩ := isb
        refine Stt.op1 (h1 := ⟨ta, d, v⟩) (h2 := ⟨tb, d', u⟩) (cap := 9) S2 (List.mem_cons_of_mem _ List.mem_cons_self) List.mem_cons_self q1 q2 q3 fun w H3 S3 => ?_
        have ew : w = .bl kb := S3.sim.bl (n := k) (List.mem_cons_self)
        refine ⟨kb, ew, ?_⟩
        have S4 : Stt X.K Z (cap2 9 ta tb φ2) e2 [Held.cap 9 ⟨tb, d', u⟩] σ H3 L := S3.hsub (.cons _ (.cons_cons _ (List.nil_sublist _)))
        cases kb with
        | false =>
          simp only [Bool.false_eq_true, if_false]
          exact h2 false H3 rfl (S4.less hl).free
        | true =>
          simp only [if_true]
          refine rdE.go S4 (h2.bind.mono fun d'' e3 h3 z H4 S5 => ?_)
          cases q5 : tb.now d' e3 with
          | none => rw [q5] at h3; exact h3.elim
          | some y' =>
            cases q6 : tc.now d'' e3 with
            | none => rw [q5, q6] at h3; exact h3.elim
            | some z' =>
              rw [q5, q6] at h3
              simp only at h3
              cases q7 : g' y' z' with
              | none => rw [q7] at h3; exact h3.elim
              | some r' =>
                rw [q7] at h3
                have q5' : (Held.cap 9 ⟨tb, d', u⟩).t.now (Held.cap 9 ⟨tb, d', u⟩).d e3 = some y' := by
                  cases tb with
                  | sl i => exact q5
                  | v k => exact q5
                have eu : (Held.cap 9 ⟨tb, d', u⟩).v = u := by cases tb <;> rfl
                have et : (Held.cap 9 ⟨tb, d', u⟩).t.slot? = tb.slot? := by cases tb <;> rfl
                have z0 := Stt.op1 (P := P) (k := k') (h1 := Held.cap 9 ⟨tb, d', u⟩) (h2 := ⟨tc, d'', z⟩) (cap := 9) S5 (List.mem_cons_of_mem _ List.mem_cons_self) List.mem_cons_self q5' q6 q7 fun w H5 S6 => by
                  have isb : ∃ kb, r' = .d (.bool kb) := by
                    cases r' with
                    | d r =>
                      cases r with
                      | bool kb => exact ⟨kb, rfl⟩
                      | none => exact h3.elim
                      | int _ => exact h3.elim
                      | str _ => exact h3.elim
                      | list _ => exact h3.elim
                      | tuple _ => exact h3.elim
                      | dict _ => exact h3.elim
                    | o _ _ => exact h3.elim
                    | x _ _ => exact h3.elim
                    | f _ _ => exact h3.elim
                    | s _ => exact h3.elim
                  obtain ⟨kb, rfl⟩ := isb
                  have ew2 : w = .bl kb := S6.sim.bl (n := k') List.mem_cons_self
                  rw [ew2]
                  have S7 := S6.free
                  simp only [List.map_cons, List.map_nil, et] at S7
                  exact h3 kb H5 rfl ((S7.less hl3).hsub (List.nil_sublist _))
                rw [eu] at z0
                exact z0
theorem je_chain {op op' : CmpOp} {g g' : DV → DV → Option DV} {k' : Nat} (ho : OpD X Z (compareOp op) g 9 k) (ho' : OpD X Z (compareOp op') g' 9 k') (hm : lastMarks [op, op'] [b, c] = false)
    (ha : JE X Z W φ a φ1 ta fa) (hb : JE X Z W φ1 b φ2 tb fb) (hc : JE X Z W (cap2 9 ta tb φ2) c φ3 tc fc) (hl : leN φ' (cap2 9 ta tb φ2) = true) (hl3 : leN φ' (cap2 9 tb tc φ3) = true) :
    JE X Z W φ (.Compare a [op, op'] [b, c] pos) φ' (.v 9) (chM g g' ta tb tc fa fb fc) := by
  refine pe_imp (pe_chain ho ho' ha hb hc hm) fun σ H Q ⟨L, env, S, h⟩ => ?_
  exact ch_core (op := op) (op' := op') S hb hc hl hl3 (h.mono fun d e' k kb H' e s => by
    subst e
    exact k (.bl kb) H' ⟨s.sim.cbl, s.al, fun z hz => by rw [List.mem_singleton.mp hz]; trivial⟩)
theorem jt_chain {op op' : CmpOp} {g g' : DV → DV → Option DV} {k' : Nat} (ho : OpD X Z (compareOp op) g 9 k) (ho' : OpD X Z (compareOp op') g' 9 k') (hm : lastMarks [op, op'] [b, c] = false)
    (ha : JE X Z W φ a φ1 ta fa) (hb : JE X Z W φ1 b φ2 tb fb) (hc : JE X Z W (cap2 9 ta tb φ2) c φ3 tc fc) (hl : leN φ' (cap2 9 ta tb φ2) = true) (hl3 : leN φ' (cap2 9 tb tc φ3) = true) :
    JT X Z W φ (.Compare a [op, op'] [b, c] pos) φ' (asB (.v 9) (chM g g' ta tb tc fa fb fc)) := by
  refine pt_imp (pt_chain ho ho' ha hb hc hm) fun σ H Q ⟨L, env, S, h⟩ => ?_
  exact ch_core (op := op) (op' := op') (P := fun z H' => ∃ k, z = .bl k ∧ Q k H') S hb hc hl hl3 (Wish.mono h.bind fun d e' k kb H' e s => by
    subst e
    exact ⟨kb, rfl, k H' s⟩)

/-! ### x[i] = v, x a list of the body's own -/
theorem kids_set {m : Nat} {x : PyData} {v : V} : ∀ {xs : List PyData} {vs : List V} {j : Nat}, xs.length = vs.length → j < xs.length → ∃ r, (r :: kids m (xs.set j x) (vs.set j v)).Perm (⟨m, .d x, v⟩ :: kids m xs vs)
  | y :: xs, w :: vs, 0, _, _ => ⟨⟨m, .d y, w⟩, by
    show (⟨m, .d y, w⟩ :: ⟨m, .d x, v⟩ :: kids m xs vs).Perm (⟨m, .d x, v⟩ :: ⟨m, .d y, w⟩ :: kids m xs vs)
    exact .swap _ _ _⟩
  | y :: xs, w :: vs, j + 1, h, hj => by
    obtain ⟨r, q⟩ := kids_set (m := m) (x := x) (v := v) (xs := xs) (vs := vs) (j := j) (by simpa using h) (by simpa using hj)
    refine ⟨r, ?_⟩
    show (r :: ⟨m, .d y, w⟩ :: kids m (xs.set j x) (vs.set j v)).Perm (⟨m, .d x, v⟩ :: ⟨m, .d y, w⟩ :: kids m xs vs)
    exact (List.Perm.swap _ _ _).trans ((List.Perm.cons _ q).trans (.swap _ _ _))
  | [], _, _, _, hj => by simp at hj
  | _ :: _, [], _, h, _ => by simp at h
theorem kids_less {m n : Nat} (h : m ≤ n) : ∀ (xs : List PyData) (vs : List V), Less (kids n xs vs) (kids m xs vs)
  | [], _ => .nil
  | _ :: _, [] => .nil
  | x :: xs, v :: vs => .cons ⟨h, rfl, rfl⟩ (kids_less h xs vs)
/-- the list of a slot, taken apart -/
theorem Stt.slotL {j n : Nat} {xs : List PyData} {hs : List Held} (S : Stt X.K Z φ env hs σ H L) (h : slot env j = some (.d (.list xs))) (hn : φ[j]? = some (n + 1)) :
    ∃ l vs, σ[j]? = some (some (.ref l)) ∧ H l = some (.lst vs) ∧ xs.length = vs.length ∧ SimT X.K Z H [l] (kids n xs vs ++ (hrts hs ++ (roots φ (env.set j none) σ ++ L))) := by
  obtain ⟨n', v, h1, h2, p⟩ := S.al.get h
  rw [hn] at h1; cases h1
  have s1 : Sim X.K Z H (⟨n + 1, .d (.list xs), v⟩ :: (hrts hs ++ (roots φ (env.set j none) σ ++ L))) := by
    refine S.sim.perm ?_
    exact (List.Perm.append_left _ (List.Perm.append_right L p)).trans List.perm_middle
  obtain ⟨l, vs, rfl, q1, q2, q3⟩ := s1.apart
  exact ⟨l, vs, h2, q1, q2, q3⟩
/-- .. and put back -/
theorem Stt.slotPut {j m : Nat} {l : Addr} {xs : List PyData} {vs ws : List V} {hs : List Held} (al : Al φ env σ) (at' : ∀ h ∈ hs, h.at σ) (hv : σ[j]? = some (some (.ref l))) (hH : H l = some (.lst ws)) (hl : xs.length = vs.length)
    (q : SimT X.K Z H [l] (kids m xs vs ++ (hrts hs ++ (roots φ (env.set j none) σ ++ L)))) : Stt X.K Z (φ.set j (m + 1)) (env.set j (some (.d (.list xs)))) hs σ (upd H l (.lst vs)) L := by
  obtain ⟨a2, p2⟩ := al.setE (d' := .d (.list xs)) (m + 1) hv
  refine ⟨?_, a2, at'⟩
  have s2 := q.close hl hH
  refine s2.perm ?_
  refine List.Perm.trans ?_ (List.Perm.append_left _ (List.Perm.append_right L p2.symm))
  exact List.perm_middle.symm
def stD (j : Nat) (x i : PyData) (e : Ev) : Option Ev := match slot e j with
  | some (.d (.list xs)) => (match i with
    | .int i => (ixN xs.length i).map fun k => e.set j (some (.d (.list (xs.set k x))))
    | _ => none)
  | some (.d (.dict qs)) => (dputP qs i x).map fun qs' => e.set j (some (.d (.dict qs')))
  | _ => none
def intO : Option DV → Option Int
  | some (.d (.int i)) => some i
  | _ => none
theorem intO_some {o : Option DV} {i : Int} (h : intO o = some i) : o = some (.d (.int i)) := by
  unfold intO at h
  split at h
  · cases h; rfl
  · cases h
theorem dataOf_some {d : DV} {x : PyData} (h : dataOf d = some x) : d = .d x := by
  cases d <;> simp only [dataOf] at h <;> first | cases h | skip
  rfl
def stO (j : Nat) (d : DV) (oi : Option DV) (e : Ev) : Option Ev := (dataOf d).bind fun x => (oi.bind dataOf).bind fun i => stD j x i e
def Out.goE {α : Type} (a : α) (o : Option Ev) : Out α := match o with
  | some e => .ok a e
  | none => .bad
theorem Wish.goE {α : Type} {a : α} {o : Option Ev} {k : α → Ev → Prop} (h : Wish X.K Z W L (Out.goE a o) k) : ∃ e, o = some e ∧ k a e := by
  cases o with
  | none => exact h.elim
  | some e => exact ⟨e, rfl, h⟩
def stM (j : Nat) (fv : M DV) (ti : Tm) (fi : M DV) : M Fl := fun env => (fv env).bind fun d e1 => (slotM j e1).bind fun _ e1 => (fi e1).bind fun i e2 => .goE .nx (stO j d (ti.now i e2) e2)
theorem stD_some {j : Nat} {x i : PyData} {e e3 : Ev} (h : stD j x i e = some e3) : (∃ xs k i', i = .int i' ∧ slot e j = some (.d (.list xs)) ∧ ixN xs.length i' = some k ∧ e3 = e.set j (some (.d (.list (xs.set k x))))) ∨
    ∃ qs qs', slot e j = some (.d (.dict qs)) ∧ dputP qs i x = some qs' ∧ e3 = e.set j (some (.d (.dict qs'))) := by
  unfold stD at h
  split at h
  · rename_i xs q
    split at h
    · obtain ⟨k, hk, rfl⟩ := Option.map_eq_some_iff.mp h
      exact .inl ⟨xs, k, _, rfl, q, hk, rfl⟩
    · cases h
  · rename_i qs q
    obtain ⟨qs', hk, rfl⟩ := Option.map_eq_some_iff.mp h
    exact .inr ⟨qs, qs', q, hk, rfl⟩
  · cases h
/-- the dict of a slot, taken apart -/
theorem Stt.slotD {j n : Nat} {qs : List (PyData × PyData)} {hs : List Held} (S : Stt X.K Z φ env hs σ H L) (h : slot env j = some (.d (.dict qs))) (hn : φ[j]? = some (n + 1)) :
    ∃ l vs, σ[j]? = some (some (.ref l)) ∧ DicAt H l (qs.map (·.1)) vs ∧ (qs.map (·.2)).length = vs.length ∧ SimT X.K Z H [l] (kids n (qs.map (·.2)) vs ++ (hrts hs ++ (roots φ (env.set j none) σ ++ L))) := by
  obtain ⟨n', v, h1, h2, p⟩ := S.al.get h
  rw [hn] at h1; cases h1
  have s1 : Sim X.K Z H (⟨n + 1, .d (.dict qs), v⟩ :: (hrts hs ++ (roots φ (env.set j none) σ ++ L))) := by
    refine S.sim.perm ?_
    exact (List.Perm.append_left _ (List.Perm.append_right L p)).trans List.perm_middle
  obtain ⟨l, vs, rfl, q1, q2, q3⟩ := s1.apartD
  exact ⟨l, vs, h2, q1, q2, q3⟩
theorem Stt.slotPutD {j m : Nat} {l : Addr} {qs : List (PyData × PyData)} {ks : List PyData} {vs ws : List V} {ob : HO} {hs : List Held} (al : Al φ env σ) (at' : ∀ h ∈ hs, h.at σ) (hv : σ[j]? = some (some (.ref l))) (hH : DicAt H l ks ws) (hN : DicAt (upd H l ob) l (qs.map (·.1)) vs) (hl : (qs.map (·.2)).length = vs.length)
    (q : SimT X.K Z H [l] (kids m (qs.map (·.2)) vs ++ (hrts hs ++ (roots φ (env.set j none) σ ++ L)))) : Stt X.K Z (φ.set j (m + 1)) (env.set j (some (.d (.dict qs)))) hs σ (upd H l ob) L := by
  obtain ⟨a2, p2⟩ := al.setE (d' := .d (.dict qs)) (m + 1) hv
  refine ⟨?_, a2, at'⟩
  have s2 := q.closeD hl hH hN
  refine s2.perm ?_
  refine List.Perm.trans ?_ (List.Perm.append_left _ (List.Perm.append_right L p2.symm))
  exact List.perm_middle.symm
def rSetA : TSet := fun o i v H Q => rSetL o i v H Q ∨ rSetD o i v H Q
theorem set_any (hu : X.A.units + 1 < cLine) : PSet X rSetA := by
  intro pins s σ H o i v ov iv u Q I ro ri rv h
  rcases h with h | h
  · exact set_list pins s σ H o i v ov iv u Q I ro ri rv h
  · exact set_dict hu pins s σ H o i v ov iv u Q I ro ri rv h
/-- the kids when a key is put -/
theorem kids_put {κ : Type} [DecidableEq κ] {m n k0 : Nat} {R : List Root} {a : Addr} {H : Hp} {x : PyData} {v : V} {k : κ} {l : List (κ × PyData)} {kvs : List (κ × V)} (hk : l.map (·.1) = kvs.map (·.1)) (nd : (kvs.map (·.1)).Nodup) (hm : m ≤ n) (hm2 : m ≤ k0)
    (q : SimT X.K Z H [a] (kids n (l.map (·.2)) (kvs.map (·.2)) ++ (⟨k0, .d x, v⟩ :: R))) : SimT X.K Z H [a] (kids m ((putG l k x).map (·.2)) ((putK kvs k v).map (·.2)) ++ R) := by
  have hl : (l.map (·.2)).length = (kvs.map (·.2)).length := by
    have := congrArg List.length hk
    simpa using this
  have c1 : SimT X.K Z H [a] (kids m (l.map (·.2)) (kvs.map (·.2)) ++ (⟨m, .d x, v⟩ :: R)) := q.less (Less.app (kids_less hm _ _) (.cons ⟨hm2, rfl, rfl⟩ (Less.refl _)))
  unfold putG putK
  by_cases z : (l.any fun p => decide (p.1 = k)) = true
  · rw [if_pos z, if_pos (by rw [← any_keys k hk]; exact z)]
    obtain ⟨i, a1, a2, a3⟩ := put_at k x (hk ▸ nd) z
    obtain ⟨i', b1, b2, b3⟩ := put_at k v nd (by rw [← any_keys k hk]; exact z)
    have ei : i = i' := by
      have e1 : (kvs.map (·.1))[i]? = some k := by rw [← hk]; exact a2
      exact (List.getElem?_inj (by rw [List.length_map, ← List.length_map (·.1), ← hk, List.length_map]; exact a1) nd).mp (e1.trans b2.symm)
    subst ei
    rw [a3, b3]
    obtain ⟨r, pr⟩ := kids_set (m := m) (x := x) (v := v) hl (by rw [List.length_map]; exact a1)
    have c2 : SimT X.K Z H [a] ((⟨m, .d x, v⟩ :: kids m (l.map (·.2)) (kvs.map (·.2))) ++ R) := c1.perm List.perm_middle
    exact (c2.perm (List.Perm.append_right _ pr.symm)).sub (List.sublist_cons_self _ _)
  · rw [if_neg z, if_neg (by rw [← any_keys k hk]; exact z), List.map_append, List.map_append, kids_append hl, List.append_assoc]
    exact c1
theorem Wish.slotM {j : Nat} {e : Ev} {k : DV → Ev → Prop} (h : Wish X.K Z W L (Lk.slotM j e) k) : ∃ d, slot e j = some d ∧ k d e := by
  unfold Lk.slotM at h
  cases q : slot e j with
  | none => rw [q] at h; exact h.elim
  | some d => rw [q] at h; exact ⟨d, rfl, h⟩
theorem js_store {j n m : Nat} {x : Str} {ei : Expr} {ti : Tm} {fv fi : M DV} {px pos2 : Pos} (hu : X.A.units + 64 < cLine) (hN : X.N[j]? = some x) (hv : Vis X.env.scope x) (hdb : (x == ("__debug__" : Str)) = false) (hcd : (x == ("__classdict__" : Str)) = false)
    (he : JE X Z W φ e φ1 (.v k) fv) (hi : JE X Z W φ1 ei φ2 ti fi) (hn : φ2[j]? = some (n + 1)) (hm : m = min n k)
    (hs : swapsWithSole [.Subscript (.Name x px) ei pos2] e pos.line X.env = pure false) (hw : swappedStores [.Subscript (.Name x px) ei pos2] e X.env = pure none) (h1 : (assignEach [.Subscript (.Name x px) ei pos2] X.env).map (·.2) = [assign (.Subscript (.Name x px) ei pos2) X.env])
    (hsu : ∀ v, assign (.Subscript (.Name x px) ei pos2) X.env v = (do
      let ov ← holding [v] (eval (.Name x px) X.env)
      let iv ← holding [v, ov] (eval ei X.env)
      standAt pos2
      holding [v, ov, iv] (setItem ov iv v)
      release [v, ov, iv] [])) (hψ : ψ.n = φ2.set j (m + 1)) :
    JS X Z W P kr φ (.Assign [.Subscript (.Name x px) ei pos2] e pos) ψ (stM j fv ti fi) := by
  refine ps_imp (ps_asg he (pg_sub (pe_var hN hv hdb hcd) hi (set_any (by omega)) hsu) hs hw h1) fun D σ H ⟨L, env, pv, S, hp, q⟩ => ?_
  refine rdE.go S (q.bind.mono fun d e1 q1 v H1 S1 => ?_)
  obtain ⟨d0, q0, q1⟩ := Wish.slotM q1.bind
  obtain ⟨_, w, _, g2, _⟩ := S1.al.get q0
  refine ⟨w, g2, ?_⟩
  refine rdE.go S1 (q1.bind.mono fun i e2 q2 iv H2 S2 => ?_)
  obtain ⟨e3, z, q2⟩ := q2.goE
  obtain ⟨x, z0, z⟩ := Option.bind_eq_some_iff.mp z
  obtain ⟨i0, z1, z2⟩ := Option.bind_eq_some_iff.mp z
  obtain rfl := dataOf_some z0
  obtain ⟨di, z1, z3⟩ := Option.bind_eq_some_iff.mp z1
  obtain rfl := dataOf_some z3
  have l0 : m ≤ k := by omega
  have l1 : m ≤ n := by omega
  rcases stD_some z2 with ⟨xs, k', i1, rfl, y1, y2, rfl⟩ | ⟨qs, qs', y1, y2, rfl⟩
  · have ei : iv = .int i1 := S2.isI (h := ⟨ti, i, iv⟩) List.mem_cons_self z1
    have S3 : Stt X.K Z φ2 e2 [⟨.v k, .d x, v⟩] σ H2 L := S2.free
    obtain ⟨l, vs, b1, b2, b3, b4⟩ := S3.slotL y1 hn
    rw [g2] at b1; cases b1
    have hk' : k' < xs.length := (ixN_seq y2).2.1
    refine .inl ⟨l, vs, i1, k', rfl, ei, b2, b3 ▸ y2, ?_⟩
    have b5 : SimT X.K Z H2 [l] (kids m (xs.set k' x) (vs.set k' v) ++ (hrts [] ++ (roots φ2 (e2.set j none) σ ++ L))) := by
      obtain ⟨r, pr⟩ := kids_set (m := m) (x := x) (v := v) b3 hk'
      have c0 : SimT X.K Z H2 [l] (⟨k, .d x, v⟩ :: kids n xs vs ++ (roots φ2 (e2.set j none) σ ++ L)) := b4.perm List.perm_middle
      have c1 : SimT X.K Z H2 [l] (⟨m, .d x, v⟩ :: kids m xs vs ++ (roots φ2 (e2.set j none) σ ++ L)) :=
        c0.less (.cons ⟨l0, rfl, rfl⟩ (Less.app (kids_less l1 xs vs) (Less.refl _)))
      have c2 := c1.perm (List.Perm.append_right _ pr.symm)
      exact c2.sub (List.sublist_cons_self _ _)
    rw [hψ] at q2
    refine (show ∀ σ' H', Stt X.K Z (φ2.set j (m + 1)) (e2.set j (some (.d (.list (xs.set k' x))))) [] σ' H' L → Pok P pv σ' → D.nx σ' H' from q2) σ _ ?_ hp
    exact Stt.slotPut S3.al (fun _ h => nomatch h) g2 b2 (by simp [b3]) b5
  · obtain ⟨n2, r2, _⟩ := S2.mem (h := ⟨ti, i, iv⟩) List.mem_cons_self z1
    have S3 : Stt X.K Z φ2 e2 [⟨.v k, .d x, v⟩] σ H2 L := S2.free
    obtain ⟨l, vs, b1, b2, b3, b4⟩ := S3.slotD y1 hn
    rw [g2] at b1; cases b1
    have c0 : SimT X.K Z H2 [l] (kids n (qs.map (·.2)) vs ++ (⟨k, .d x, v⟩ :: (hrts [] ++ (roots φ2 (e2.set j none) σ ++ L)))) := b4
    rw [hψ] at q2
    obtain ⟨h0, h1⟩ : qs.length < big0 ∧ _ := by
      unfold dputP at y2
      split at y2
      · exact ⟨by assumption, y2⟩
      · cases y2
    have hz : qs.length < sizeLine := by rw [sizeLine_eq]; unfold big0 at h0; omega
    refine .inr ⟨l, rfl, ?_⟩
    split at h1
    · rename_i k' e
      obtain ⟨ls, u1, rfl⟩ := Option.map_eq_some_iff.mp h1
      obtain rfl := unK_eq e
      obtain rfl := asK_eq u1
      have ey := S2.sim.keyD r2
      rw [ofK_snd] at b3 c0
      have fin : ∀ kvs : List (Key × V), ls.map (·.1) = kvs.map (·.1) → vs = kvs.map (·.2) → (kvs.map (·.1)).Nodup → D.nx σ (upd H2 l (.dK (putK kvs k' v))) := fun kvs f1 f2 nd => by
        subst f2
        refine (show ∀ σ' H', Stt X.K Z (φ2.set j (m + 1)) (e2.set j (some (.d (.dict (ofK (putG ls k' x)))))) [] σ' H' L → Pok P pv σ' → D.nx σ' H' from q2) σ _ ?_ hp
        refine Stt.slotPutD (vs := (putK kvs k' v).map (·.2)) S3.al (fun _ h => nomatch h) g2 b2 (.inl ⟨_, upd_same, ?_, rfl⟩) ?_ ?_
        · unfold ofK
          rw [List.map_map]
          have := congrArg (List.map keyD) (putG_keys k' x v f1)
          rw [List.map_map, List.map_map] at this
          exact this
        · rw [ofK_snd]
          have : ((putG ls k' x).map (·.1)).length = ((putK kvs k' v).map (·.1)).length := congrArg List.length (putG_keys k' x v f1)
          simpa using this
        · rw [ofK_snd]
          exact kids_put f1 nd l1 l0 c0
      refine .inl ?_
      rcases b2 with ⟨kvs, g1, g2', g3⟩ | ⟨kvs, g1, g2', g3⟩
      · exact ⟨kvs, k', .inl g1, ey, by rw [← List.length_map (·.1), ← keysK g2', List.length_map]; simpa [ofK] using hz, fun nd => fin kvs (keysK g2') g3 nd⟩
      · obtain ⟨rfl, rfl⟩ := keysKT g2'
        exact ⟨[], k', .inr ⟨g1, rfl⟩, ey, by rw [sizeLine_eq]; decide, fun nd => fin [] rfl g3 nd⟩
    · split at h1
      · rename_i k' e
        obtain ⟨ls, u1, rfl⟩ := Option.map_eq_some_iff.mp h1
        obtain rfl := unT_eq e
        obtain rfl := asT_eq u1
        obtain ⟨b, ey, eb⟩ := S2.sim.keyT r2
        rw [ofT_snd] at b3 c0
        have fin : ∀ kvs : List (List Key × V), ls.map (·.1) = kvs.map (·.1) → vs = kvs.map (·.2) → (kvs.map (·.1)).Nodup → D.nx σ (upd H2 l (.dT (putK kvs k' v))) := fun kvs f1 f2 nd => by
          subst f2
          refine (show ∀ σ' H', Stt X.K Z (φ2.set j (m + 1)) (e2.set j (some (.d (.dict (ofT (putG ls k' x)))))) [] σ' H' L → Pok P pv σ' → D.nx σ' H' from q2) σ _ ?_ hp
          refine Stt.slotPutD (vs := (putK kvs k' v).map (·.2)) S3.al (fun _ h => nomatch h) g2 b2 (.inr ⟨_, upd_same, ?_, rfl⟩) ?_ ?_
          · unfold ofT
            rw [List.map_map]
            have := congrArg (List.map keyT) (putG_keys k' x v f1)
            rw [List.map_map, List.map_map] at this
            exact this
          · rw [ofT_snd]
            have : ((putG ls k' x).map (·.1)).length = ((putK kvs k' v).map (·.1)).length := congrArg List.length (putG_keys k' x v f1)
            simpa using this
          · rw [ofT_snd]
            exact kids_put f1 nd l1 l0 c0
        refine .inr ?_
        rcases b2 with ⟨kvs, g1, g2', g3⟩ | ⟨kvs, g1, g2', g3⟩
        · obtain ⟨rfl, rfl⟩ := keysTK g2'
          exact ⟨[], k', b, .inr ⟨g1, rfl⟩, ey, eb, by rw [sizeLine_eq]; decide, fun nd => fin [] rfl g3 nd⟩
        · exact ⟨kvs, k', b, .inl g1, ey, eb, by rw [← List.length_map (·.1), ← keysT g2', List.length_map]; simpa [ofT] using hz, fun nd => fin kvs (keysT g2') g3 nd⟩
      · cases h1

/-! ### methods of a list of the body's own -/
def apO (j : Nat) (d : DV) (e : Ev) : Option Ev := (dataOf d).bind fun x => match slot e j with
  | some (.d (.list xs)) => if xs.length < big then some (e.set j (some (.d (.list (xs ++ [x]))))) else none
  | _ => none
theorem apO_some {j : Nat} {d : DV} {e e3 : Ev} (h : apO j d e = some e3) : ∃ x xs, d = .d x ∧ slot e j = some (.d (.list xs)) ∧ xs.length < big ∧ e3 = e.set j (some (.d (.list (xs ++ [x])))) := by
  obtain ⟨x, h0, h⟩ := Option.bind_eq_some_iff.mp h
  split at h
  · rename_i xs q
    split at h
    · rename_i hb
      cases h
      exact ⟨x, xs, dataOf_some h0, q, hb, rfl⟩
    · cases h
  · cases h
/-- the slot holds a list -/
def lstM (j : Nat) : M Unit := fun e => match slot e j with
  | some (.d (.list _)) => .ok () e
  | _ => .bad
theorem Wish.lstM {j : Nat} {e : Ev} {k : Unit → Ev → Prop} (h : Wish X.K Z W L (Lk.lstM j e) k) : ∃ xs, slot e j = some (.d (.list xs)) ∧ k () e := by
  unfold Lk.lstM at h
  split at h
  · exact ⟨_, ‹_›, h⟩
  · exact h.elim
def apM (j : Nat) (fa : M DV) : M DV := fun env => (lstM j env).bind fun _ env => (fa env).bind fun d e => .goE (.d .none) (apO j d e)
theorem few_ok {env : PySem.Env} {es : List Expr} (h : es.all noStar = true) (hl : es.length < 29) : ((backTo pos (starEach es env)).all (fun x => !x.1) && (backToKw pos (keywordEach [] env)).all (fun x => x.1.isSome)
      && decide (es.length + ([] : List Keyword).length + (if ([] : List Keyword).isEmpty then 0 else 1) < 30)) = true := by
  have key : ∀ {es : List Expr}, es.all noStar = true → (backTo pos (starEach es env)).all (fun x => !x.1) = true := by
    intro es
    induction es with
    | nil => intro _; rfl
    | cons e es ih =>
      intro h
      simp only [List.all_cons, Bool.and_eq_true] at h
      rw [star_eq h.1]
      show (!false && (backTo pos (starEach es env)).all (fun x => !x.1)) = true
      rw [ih h.2]; rfl
  rw [key h]
  have : (backToKw pos (keywordEach [] env)).all (fun x => x.1.isSome) = true := rfl
  rw [this]
  simp only [Bool.true_and, decide_eq_true_eq, List.length_nil, List.isEmpty_nil, if_true]
  omega
theorem je_append {j n m : Nat} {x : Str} {px ap : Pos} (hN : X.N[j]? = some x) (hv : Vis X.env.scope x) (hdb : (x == ("__debug__" : Str)) = false) (hcd : (x == ("__classdict__" : Str)) = false)
    (ha : JE X Z W φ a φ1 (.v k) fa) (hs : noStar a = true) (hn : φ1[j]? = some (n + 1)) (hm : m = min n k)
    (hbase : attributeBase (.Name x px) "append" X.env (eval (.Name x px) X.env) = eval (.Name x px) X.env) (hline : (ap.endLine == pos.line) = true) :
    JE X Z W φ (.Call (.Attribute (.Name x px) "append" ap) [a] [] pos) (φ1.set j (m + 1)) (.v 9) (apM j fa) := by
  refine pe_imp (pe_bm PySem.F.plainAttrs_list PySem.F.slot_list_append PySem.F.type_list_append mt_append (pe_var hN hv hdb hcd) (pa_cons ha pa_nil (star_eq hs)) hbase (few_ok (by simp [hs]) (by simp)) hline (star_eq hs)) fun σ H Q ⟨L, env, S, h⟩ => ?_
  obtain ⟨xs0, q0, h⟩ := Wish.lstM h.bind
  obtain ⟨_, w, _, g2, p2⟩ := S.al.get q0
  have ml : (⟨_, .d (.list xs0), w⟩ : Root) ∈ hrts [] ++ (roots φ env σ ++ L) := List.mem_append_left L (p2.mem_iff.mpr List.mem_cons_self)
  obtain ⟨l, vs0, rfl, hl, _⟩ := S.sim.seeL ml
  refine ⟨.ref l, g2, .inl ⟨rfl, vs0, .of hl⟩, ?_⟩
  refine rdE.go S (h.bind.mono fun d e1 h1 v H1 S1 => ?_)
  obtain ⟨e3, z, h2⟩ := h1.goE
  obtain ⟨x, xs, rfl, y1, hb, rfl⟩ := apO_some z
  obtain ⟨l', vs, b1, b2, b3, b4⟩ := S1.slotL y1 hn
  rw [g2] at b1; cases b1
  refine ⟨l, vs, v, rfl, rfl, b2, by rw [sizeLine_eq]; unfold big at hb; omega, h2 _ _ ?_⟩
  have c0 : SimT X.K Z H1 [l] (kids m (xs ++ [x]) (vs ++ [v]) ++ (hrts [] ++ (roots φ1 (e1.set j none) σ ++ L))) := by
    rw [kids_append b3, List.append_assoc]
    exact b4.less (Less.app (kids_less (by omega) xs vs) (.cons ⟨by show m ≤ k; omega, rfl, rfl⟩ (Less.refl _)))
  have S3 := Stt.slotPut (hs := []) S1.al (fun _ h => nomatch h) g2 b2 (by simp [b3]) c0
  exact ⟨S3.sim.scal (.d .non), S3.al, fun z hz => by rw [List.mem_singleton.mp hz]; trivial⟩
def popO (j : Nat) (e : Ev) : Option (DV × Ev) := match slot e j with
  | some (.d (.list xs)) => (xs[xs.length - 1]?).map fun x => (.d x, e.set j (some (.d (.list xs.dropLast))))
  | _ => none
def popM (j : Nat) : M DV := fun e => match popO j e with
  | some (d, e') => .ok d e'
  | none => .bad
theorem kids_last {m : Nat} {x : PyData} {v : V} {xs : List PyData} {vs : List V} (h : xs.length = vs.length) (h1 : xs[xs.length - 1]? = some x) (h2 : vs[vs.length - 1]? = some v) : kids m xs vs = kids m xs.dropLast vs.dropLast ++ [⟨m, .d x, v⟩] := by
  rw [← List.getLast?_eq_getElem?] at h1 h2
  obtain ⟨ys, rfl⟩ := List.getLast?_eq_some_iff.mp h1
  obtain ⟨ws, rfl⟩ := List.getLast?_eq_some_iff.mp h2
  rw [kids_append (by simpa using h)]
  simp [kids]
theorem je_pop {j n : Nat} {x : Str} {px ap : Pos} (hN : X.N[j]? = some x) (hv : Vis X.env.scope x) (hdb : (x == ("__debug__" : Str)) = false) (hcd : (x == ("__classdict__" : Str)) = false) (hn : φ[j]? = some (n + 1))
    (hbase : attributeBase (.Name x px) "pop" X.env (eval (.Name x px) X.env) = eval (.Name x px) X.env) (hline : (ap.endLine == pos.line) = true) :
    JE X Z W φ (.Call (.Attribute (.Name x px) "pop" ap) [] [] pos) (φ.set j (n + 1)) (.v n) (popM j) := by
  refine pe_imp (pe_bm0 PySem.F.plainAttrs_list PySem.F.slot_list_pop PySem.F.type_list_pop mt_pop (pe_var hN hv hdb hcd) hbase hline) fun σ H Q ⟨L, env, S, h⟩ => ?_
  unfold popM popO at h
  split at h
  · rename_i d e' q
    split at q
    · rename_i xs y1
      obtain ⟨x, hx, q⟩ := Option.map_eq_some_iff.mp q
      cases q
      obtain ⟨l, vs, b1, b2, b3, b4⟩ := S.slotL y1 hn
      have hlen : vs.length - 1 < vs.length := by
        have := (List.getElem?_eq_some_iff.mp hx).1
        omega
      have h2 : vs[vs.length - 1]? = some vs[vs.length - 1] := List.getElem?_eq_getElem hlen
      refine ⟨.ref l, b1, .inl ⟨rfl, vs, .of b2⟩, l, vs, vs[vs.length - 1], rfl, rfl, b2, h2, ?_⟩
      rw [kids_last b3 hx h2, List.append_assoc] at b4
      have c0 : SimT X.K Z H [l] (kids n xs.dropLast vs.dropLast ++ (hrts [⟨.v n, .d x, vs[vs.length - 1]⟩] ++ (roots φ (env.set j none) σ ++ L))) := b4
      exact (show ∀ v H', Stt X.K Z (φ.set j (n + 1)) (env.set j (some (.d (.list xs.dropLast)))) [⟨.v n, .d x, v⟩] σ H' L → Q v H' from h) _ _ (Stt.slotPut S.al (fun z hz => by rw [List.mem_singleton.mp hz]; trivial) b1 b2 (by simp [b3]) c0)
    · cases q
  · exact h.elim

/-! ### two, three names at once -/
theorem Stt.storeC {i : Nat} {d : DV} {v : V} {hs : List Held} (S : Stt X.K Z φ env (⟨.v k, d, v⟩ :: hs) σ H L) (hv : ∀ h ∈ hs, ∃ k, h.t = .v k) (hi : i < env.length) : Stt X.K Z (φ.set i k) (env.set i (some d)) hs (σ.set i (some v)) H L := by
  obtain ⟨a, p⟩ := S.al.set (m := k) (d := d) (v := v) hi
  refine ⟨?_, a, fun x hx => ?_⟩
  · have S1 : Sim X.K Z H (⟨k, d, v⟩ :: (hrts hs ++ (roots φ (env.set i none) σ ++ L))) := S.sim.sub (.cons_cons _ (List.Sublist.append_left (List.Sublist.append_right roots_clr L) _))
    refine S1.perm ?_
    refine List.perm_middle.symm.trans (List.Perm.append_left _ ?_)
    exact List.Perm.append_right L p.symm
  · obtain ⟨k', e⟩ := hv x hx
    obtain ⟨t, d', v'⟩ := x
    cases e
    trivial
def parM (i j : Nat) (f : M (List DV)) : M Fl := fun env => (f env).bind fun ds e => match ds with
  | [a, b] => if i < e.length ∧ j < e.length then .ok .nx ((e.set i (some a)).set j (some b)) else .bad
  | _ => .bad
def par3M (i j l : Nat) (f : M (List DV)) : M Fl := fun env => (f env).bind fun ds e => match ds with
  | [a, b, c] => if i < e.length ∧ j < e.length ∧ l < e.length then .ok .nx (((e.set i (some a)).set j (some b)).set l (some c)) else .bad
  | _ => .bad
theorem js_par {i j k1 k2 : Nat} {x y : Str} {px py pt : Pos} {kt q2 pt2} (hc : X.calm = true) (hN : X.N.Nodup) (hi : X.N[i]? = some x) (hj : X.N[j]? = some y) (hij : i ≠ j)
    (hx : X.env.scope.names.lookup x = some .local) (hy : X.env.scope.names.lookup y = some .local) (ha : JA X Z W φ [a, b] φ1 [.v k1, .v k2] f)
    (hw : swappedStores [.Tuple [.Name x px, .Name y py] kt pt] (.Tuple [a, b] q2 pt2) X.env = pure (some [x, y]))
    (hs : swapsWithSole [.Tuple [.Name x px, .Name y py] kt pt] (.Tuple [a, b] q2 pt2) pos.line X.env = pure false)
    (hP : (P.all fun p => p.1 != i && p.1 != j) = true) (hψ : ψ.n = (φ1.set i k1).set j k2) :
    JS X Z W P kr φ (.Assign [.Tuple [.Name x px, .Name y py] kt pt] (.Tuple [a, b] q2 pt2) pos) ψ (parM i j f) := by
  refine ps_imp (ps_par hc hN hi hj hij hx hy ha hw hs) fun D σ H ⟨L, env, pv, S, hp, q⟩ => ?_
  refine ⟨L, env, S, q.bind.mono fun ds e q1 vs H1 hl hv S1 => ?_⟩
  match ds, vs, hl, hv with
  | [d1, d2], [v1, v2], _, _ =>
    have q1 : Wish X.K Z W L (if i < e.length ∧ j < e.length then Out.ok Fl.nx ((e.set i (some d1)).set j (some d2)) else .bad) _ := q1
    split at q1
    · rename_i hb
      have S2 : Stt X.K Z φ1 e [⟨.v k1, d1, v1⟩, ⟨.v k2, d2, v2⟩] σ H1 L := S1
      have S3 := S2.storeC (i := i) (fun h hh => by rw [List.mem_singleton.mp hh]; exact ⟨_, rfl⟩) hb.1
      have S4 := S3.storeC (i := j) (fun h hh => nomatch hh) (by rw [List.length_set]; exact hb.2)
      rw [hψ] at q1
      have hP1 : (P.all fun p => p.1 != i) = true := by
        rw [List.all_eq_true] at hP ⊢
        intro p hp; have := hP p hp; simp only [Bool.and_eq_true] at this; exact this.1
      have hP2 : (P.all fun p => p.1 != j) = true := by
        rw [List.all_eq_true] at hP ⊢
        intro p hp; have := hP p hp; simp only [Bool.and_eq_true] at this; exact this.2
      exact ⟨v1, v2, rfl, (show ∀ σ' H', Stt X.K Z ((φ1.set i k1).set j k2) ((e.set i (some d1)).set j (some d2)) [] σ' H' L → Pok P pv σ' → D.nx σ' H' from q1) _ _ S4 ((hp.set hP1).set hP2)⟩
    · exact q1.elim
theorem js_par3 {i j l k1 k2 k3 : Nat} {x y z : Str} {px py pz pt : Pos} {kt q2 pt2} (hc : X.calm = true) (hN : X.N.Nodup) (hi : X.N[i]? = some x) (hj : X.N[j]? = some y) (hl : X.N[l]? = some z) (hij : i ≠ j) (hil : i ≠ l) (hjl : j ≠ l)
    (hx : X.env.scope.names.lookup x = some .local) (hy : X.env.scope.names.lookup y = some .local) (hz : X.env.scope.names.lookup z = some .local) (ha : JA X Z W φ [a, b, c] φ1 [.v k1, .v k2, .v k3] f)
    (hw : swappedStores [.Tuple [.Name x px, .Name y py, .Name z pz] kt pt] (.Tuple [a, b, c] q2 pt2) X.env = pure (some [x, y, z]))
    (hs : swapsWithSole [.Tuple [.Name x px, .Name y py, .Name z pz] kt pt] (.Tuple [a, b, c] q2 pt2) pos.line X.env = pure false)
    (hP1 : (P.all fun p => p.1 != i) = true) (hP2 : (P.all fun p => p.1 != j) = true) (hP3 : (P.all fun p => p.1 != l) = true) (hψ : ψ.n = ((φ1.set i k1).set j k2).set l k3) :
    JS X Z W P kr φ (.Assign [.Tuple [.Name x px, .Name y py, .Name z pz] kt pt] (.Tuple [a, b, c] q2 pt2) pos) ψ (par3M i j l f) := by
  refine ps_imp (ps_par3 hc hN hi hj hl hij hil hjl hx hy hz ha hw hs) fun D σ H ⟨L, env, pv, S, hp, q⟩ => ?_
  refine ⟨L, env, S, q.bind.mono fun ds e q1 vs H1 hl hv S1 => ?_⟩
  match ds, vs, hl, hv with
  | [d1, d2, d3], [v1, v2, v3], _, _ =>
    have q1 : Wish X.K Z W L (if i < e.length ∧ j < e.length ∧ l < e.length then Out.ok Fl.nx (((e.set i (some d1)).set j (some d2)).set l (some d3)) else .bad) _ := q1
    split at q1
    · rename_i hb
      have S2 : Stt X.K Z φ1 e [⟨.v k1, d1, v1⟩, ⟨.v k2, d2, v2⟩, ⟨.v k3, d3, v3⟩] σ H1 L := S1
      have S3 := S2.storeC (i := i) (fun h hh => (List.mem_cons.mp hh).elim (fun e => ⟨k2, by rw [e]⟩) fun hh => ⟨k3, by rw [List.mem_singleton.mp hh]⟩) hb.1
      have S4 := S3.storeC (i := j) (fun h hh => by rw [List.mem_singleton.mp hh]; exact ⟨_, rfl⟩) (by rw [List.length_set]; exact hb.2.1)
      have S5 := S4.storeC (i := l) (fun h hh => nomatch hh) (by rw [List.length_set, List.length_set]; exact hb.2.2)
      rw [hψ] at q1
      exact ⟨v1, v2, v3, rfl, (show ∀ σ' H', Stt X.K Z (((φ1.set i k1).set j k2).set l k3) (((e.set i (some d1)).set j (some d2)).set l (some d3)) [] σ' H' L → Pok P pv σ' → D.nx σ' H' from q1) _ _ S5 (((hp.set hP1).set hP2).set hP3)⟩
    · exact q1.elim

/-! ### methods that change nothing -/
def tyD : DV → String
  | .s _ => "list"
  | .d (.str _) => "str"
  | .d (.int _) => "int"
  | .d (.list _) => "list"
  | .d (.dict _) => "dict"
  | _ => ""
theorem Sim.tyv {d : DV} {v : V} {T : String} (S : Sim X.K Z H R) (h : (⟨n, d, v⟩ : Root) ∈ R) (ht : tyD d = T) (hT : T ≠ "") : tyV X.K T v H := by
  obtain ⟨G, hd⟩ := S.den h
  cases hd with
  | d hd =>
    cases hd with
    | non => exact absurd ht.symm hT
    | bl b => exact absurd ht.symm hT
    | int i => exact ht.symm
    | str x => exact ht.symm
    | lst h1 h2 => exact .inl ⟨ht.symm, _, .of h1⟩
    | tup h1 h2 => exact absurd ht.symm hT
    | dic h1 h2 h3 =>
      refine .inr (.inr (.inl ⟨ht.symm, ?_⟩))
      rcases h1 with ⟨kvs, h1, _⟩ | ⟨kvs, h1, _⟩
      · exact .inl ⟨_, h1⟩
      · exact .inr ⟨_, h1⟩
  | s _ =>
    refine .inl ⟨ht.symm, ?_⟩
    obtain ⟨a, e, hl⟩ := S.script h
    cases e
    exact ⟨_, hl⟩
  | o _ _ _ _ => exact absurd ht.symm hT
/-- a method by values: the receiver, the operands -/
def MethD (X : Cx) (Z : ClT) (id : String) (g : DV → List DV → Option DV) (cap k : Nat) : Prop :=
  MtR X id fun x xs H Q => ∃ R n d ds r, Sim X.K Z H R ∧ (⟨n, d, x⟩ : Root) ∈ R ∧ n ≤ cap ∧ LArgs R cap ds xs ∧ g d ds = some r ∧ ∀ v H', Sim X.K Z H' (⟨k, r, v⟩ :: R) → Q v H'
def tyChk (T : String) (t : Tm) (d : DV) : M Unit := fun e => match t.now d e with
  | some x => if tyD x = T then .ok () e else .bad
  | none => .bad
def mthM (T : String) (g : DV → List DV → Option DV) (to : Tm) (fo : M DV) (ts : List Tm) (f : M (List DV)) : M DV := fun env => (fo env).bind fun d e1 => (tyChk T to d e1).bind fun _ e1 => (f e1).bind fun ds e2 =>
  .ofO ((to.now d e2).bind fun x => (nowsD ts ds e2).bind fun xs => g x xs) e2
theorem Wish.tyChk {T : String} {d : DV} {e : Ev} {k : Unit → Ev → Prop} (h : Wish X.K Z W L (Lk.tyChk T t d e) k) : ∃ x, t.now d e = some x ∧ tyD x = T ∧ k () e := by
  unfold Lk.tyChk at h
  cases q : t.now d e with
  | none => rw [q] at h; exact h.elim
  | some x =>
    rw [q] at h
    simp only at h
    split at h
    · exact ⟨x, rfl, ‹_›, h⟩
    · exact h.elim
theorem je_meth {T id : String} {name : Str} {g : DV → List DV → Option DV} {cap : Nat} {o : Expr} {to : Tm} {fo : M DV} {ap : Pos} (hT : T ≠ "") (pa : PlainAttrs T) (slot : Slot T name id) (hty : typeOf (.builtin id) = pure (.type "method_descriptor")) (hm : MethD X Z id g cap k)
    (ho : JE X Z W φ o φ1 to fo) (ha : JA X Z W φ1 (a :: es) φ2 ts f) (hs : noStar a = true) (hpl : es.all noStar = true) (hlen : es.length < 28)
    (hbase : attributeBase o name X.env (eval o X.env) = eval o X.env) (hline : (ap.endLine == pos.line) = true) :
    JE X Z W φ (.Call (.Attribute o name ap) (a :: es) [] pos) (capS cap (slotsOf ts ++ [to.slot?]) φ2) (.v k) (mthM T g to fo ts f) := by
  refine pe_imp (pe_bm pa slot hty hm ho ha hbase (few_ok (by simp only [List.all_cons, Bool.and_eq_true]; exact ⟨hs, hpl⟩) (by simp; omega)) hline (star_eq hs) (star_any hpl)) fun σ H Q ⟨L, env, S, h⟩ => ?_
  refine rdE.go S (h.bind.mono fun d e1 h1 v H1 S1 => ?_)
  obtain ⟨x, q1, ht, h1⟩ := h1.bind.tyChk
  obtain ⟨n, m, _⟩ := S1.mem (h := ⟨to, d, v⟩) List.mem_cons_self q1
  refine ⟨S1.sim.tyv m ht hT, ?_⟩
  refine rdA.go S1 (h1.bind.mono fun ds e2 h2 vs H2 hl hv S2 => ?_)
  obtain ⟨r, q, h3⟩ := h2.ofO
  obtain ⟨x2, q2, q⟩ := Option.bind_eq_some_iff.mp q
  obtain ⟨xs, q3, q4⟩ := Option.bind_eq_some_iff.mp q
  have S3 := S2.cap cap
  obtain ⟨n2, hn2, m2⟩ := S2.memC (c := cap) (h := ⟨to, d, v⟩) (List.mem_append_right _ List.mem_cons_self) q2
  have a2 := zipH_args (cap := cap) S2 hl hv (fun h hh => List.mem_append_left _ hh) q3
  refine ⟨_, n2, x2, xs, r, S3.sim, m2, hn2, a2, q4, fun w H' s => ?_⟩
  have es : (zipH ts ds vs ++ [(⟨to, d, v⟩ : Held)]).map (fun h => h.t.slot?) = slotsOf ts ++ [to.slot?] := by
    rw [List.map_append, zipH_slots hl hv]; rfl
  rw [es] at s S3
  refine h3 w H' ?_
  have S4 : Stt X.K Z (capS cap (slotsOf ts ++ [to.slot?]) φ2) e2 ((zipH ts ds vs ++ [(⟨to, d, v⟩ : Held)]).map (Held.cap cap) ++ []) σ H2 L := by rw [List.append_nil]; exact S3
  exact S4.done (hs := []) (by rw [List.append_nil]; exact s)
theorem je_meth0 {T id : String} {name : Str} {g : DV → List DV → Option DV} {cap : Nat} {o : Expr} {to : Tm} {fo : M DV} {ap : Pos} (hT : T ≠ "") (pa : PlainAttrs T) (slot : Slot T name id) (hty : typeOf (.builtin id) = pure (.type "method_descriptor")) (hm : MethD X Z id g cap k)
    (ho : JE X Z W φ o φ1 to fo) (hbase : attributeBase o name X.env (eval o X.env) = eval o X.env) (hline : (ap.endLine == pos.line) = true) :
    JE X Z W φ (.Call (.Attribute o name ap) [] [] pos) (capS cap [to.slot?] φ1) (.v k) (mthM T g to fo [] (M.pure [])) := by
  refine pe_imp (pe_bm0 pa slot hty hm ho hbase hline) fun σ H Q ⟨L, env, S, h⟩ => ?_
  refine rdE.go S (h.bind.mono fun d e1 h1 v H1 S1 => ?_)
  obtain ⟨x, q1, ht, h1⟩ := h1.bind.tyChk
  obtain ⟨n, m, _⟩ := S1.mem (h := ⟨to, d, v⟩) List.mem_cons_self q1
  refine ⟨S1.sim.tyv m ht hT, ?_⟩
  obtain ⟨r, q, h3⟩ := Wish.ofO (show Wish X.K Z W L (Out.ofO ((to.now d e1).bind fun x => (nowsD [] [] e1).bind fun xs => g x xs) e1) _ from h1)
  obtain ⟨x2, q2, q⟩ := Option.bind_eq_some_iff.mp q
  obtain ⟨xs, q3, q4⟩ := Option.bind_eq_some_iff.mp q
  cases q3
  obtain ⟨n2, hn2, m2⟩ := S1.memC (c := cap) (h := ⟨to, d, v⟩) List.mem_cons_self q2
  have S3 := S1.cap cap
  refine ⟨_, n2, x2, [], r, S3.sim, m2, hn2, .nil, q4, fun w H' s => h3 w H' ?_⟩
  exact Stt.done (as := [Held.cap cap ⟨to, d, v⟩]) (hs := []) S3 s
/-! split, join -/
def splitD : DV → List DV → Option DV
  | .d (.str a), [.d (.str b)] => if (b.length == 0) = false ∧ a.length ≤ big then some (.d (.list ((Txt.split a b).map .str))) else none
  | _, _ => none
theorem mth_split : MethD X Z "str.split" splitD 9 9 := by
  intro pins s σ H x xs v us Q I rx rs ⟨R, n, d, ds, r, S, m, hn, a, hg, hq⟩
  unfold splitD at hg
  split at hg
  · split at hg
    · rename_i ad bd hc
      cases hg
      obtain ⟨w, n2, rfl, _, m2⟩ := args1 a
      rw [S.str m] at rx
      rw [S.str m2] at rs
      have hz := hc.2
      exact mt_split pins s σ H _ _ v us Q I rx rs ⟨ad, bd, rfl, rfl, hc.1, by rw [sizeLine_eq]; unfold big at hz; omega, fun p hp => hq _ _ (Sim.mkL (n := 8) (kids_scalS 8 S) (by simp) hp)⟩
    · cases hg
  · cases hg
def joinP : PyData → Option (List Str)
  | .list xs => getSs xs
  | .tuple xs => getSs xs
  | _ => none
def joinD : DV → List DV → Option DV
  | .d (.str a), [.d y] => (joinP y).bind fun ys => if (ys.map (·.length)).sum + ys.length * a.length ≤ 16777216 then some (.d (.str (Txt.join a ys))) else none
  | _, _ => none
theorem mth_join : MethD X Z "str.join" joinD 9 9 := by
  intro pins s σ H x xs v us Q I rx rs ⟨R, n, d, ds, r, S, m, hn, a, hg, hq⟩
  unfold joinD at hg
  split at hg
  · rename_i ad y
    obtain ⟨ys, q, hg⟩ := Option.bind_eq_some_iff.mp hg
    split at hg
    · rename_i hc
      cases hg
      obtain ⟨w, n2, rfl, _, m2⟩ := args1 a
      rw [S.str m] at rx
      unfold joinP at q
      split at q
      · obtain ⟨p, vs, G, rfl, h1, h2⟩ := S.listOf m2
        rw [getSs_eq q] at h2
        exact mt_join pins s σ H _ _ v us Q I rx rs ⟨ad, p, ys, rfl, rfl, .inl (.of (by rw [h1, h2.strs])), hc, hq _ _ S.cstr⟩
      · obtain ⟨p, vs, G, rfl, h1, h2⟩ := S.tupleOf m2
        rw [getSs_eq q] at h2
        rw [h2.strs] at h1
        exact mt_join pins s σ H _ _ v us Q I rx rs ⟨ad, p, ys, rfl, rfl, .inr h1, hc, hq _ _ S.cstr⟩
      · cases q
    · cases hg
  · cases hg
end
end Lk
namespace Lk
open PySem PySem.Spec L2
open PyProof.Rows (envOfC)

/-- the flags, the parameters that go back -/
def inF : List Md → List Nat
  | [] => []
  | .fz :: ms => 0 :: inF ms
  | .io m _ :: ms => m :: inF ms
def ioP : Nat → List Md → List (Nat × Nat)
  | _, [] => []
  | i, .fz :: ms => ioP (i + 1) ms
  | i, .io _ m' :: ms => (i, m') :: ioP (i + 1) ms
def ioV : List Md → List V → List V
  | .fz :: ms, _ :: vs => ioV ms vs
  | .io _ _ :: ms, v :: vs => v :: ioV ms vs
  | _, _ => []
def env0 (n : Nat) (ds : List DV) : Ev := ds.map some ++ List.replicate (n - ds.length) none
/-- what a body answers -/
def endR (P : List (Nat × Nat)) : Out Fl → Res
  | .ok .nx e => (match outsAt P e with
    | some outs => .ok (.d .none) outs
    | none => .bad)
  | .ok (.rt d) e => (match outsAt P e with
    | some outs => .ok d outs
    | none => .bad)
  | .ex c g _ => .ex c g
  | _ => .bad
def runF (n : Nat) (P : List (Nat × Nat)) (g : M Fl) (ds : List DV) : Res := endR P (g (env0 n ds))
section
variable {K : PySem.W.Frag} {Z : ClT} {H : Hp} {L : List Root}
theorem roots_nones : ∀ {φ : List Nat} {n m : Nat} {σ : St}, roots φ (List.replicate n none) σ = []
  | [], _, _, _ => by cases ‹Nat› <;> rfl
  | _ :: _, 0, _, _ => rfl
  | _ :: _, _ + 1, _, [] => rfl
  | _ :: φ, n + 1, m, _ :: σ => by
    show roots φ (List.replicate n none) σ = []
    exact roots_nones (m := m)
theorem roots_arg : ∀ {ms : List Md} {ds : List DV} {vs : List V} {φ : List Nat} {e : Ev} {σ : St}, ds.length = ms.length → vs.length = ms.length → roots (inF ms ++ φ) (ds.map some ++ e) (vs.map some ++ σ) = argR ms ds vs ++ roots φ e σ
  | [], [], [], _, _, _, _, _ => rfl
  | .fz :: ms, d :: ds, v :: vs, φ, e, σ, h1, h2 => by
    show ⟨0, d, v⟩ :: roots (inF ms ++ φ) (ds.map some ++ e) (vs.map some ++ σ) = ⟨0, d, v⟩ :: (argR ms ds vs ++ roots φ e σ)
    rw [roots_arg (by simpa using h1) (by simpa using h2)]
  | .io m m' :: ms, d :: ds, v :: vs, φ, e, σ, h1, h2 => by
    show ⟨m, d, v⟩ :: roots (inF ms ++ φ) (ds.map some ++ e) (vs.map some ++ σ) = ⟨m, d, v⟩ :: (argR ms ds vs ++ roots φ e σ)
    rw [roots_arg (by simpa using h1) (by simpa using h2)]
  | [], _ :: _, _, _, _, _, h, _ => by simp at h
  | [], [], _ :: _, _, _, _, _, h => by simp at h
  | _ :: _, [], _, _, _, _, h, _ => by simp at h
  | _ :: _, _ :: _, [], _, _, _, _, h => by simp at h
theorem al_arg : ∀ {φ : List Nat} {ds : List DV} {vs : List V} {n : Nat}, φ.length = ds.length → vs.length = ds.length → Al (φ ++ List.replicate n 0) (ds.map some ++ List.replicate n none) (vs.map some ++ List.replicate n none)
  | [], [], [], 0, _, _ => trivial
  | [], [], [], n + 1, _, _ => ⟨fun h => by simp at h, al_arg (φ := []) (ds := []) (vs := []) (n := n) rfl rfl⟩
  | a :: φ, d :: ds, v :: vs, n, h1, h2 => ⟨fun _ => rfl, al_arg (by simpa using h1) (by simpa using h2)⟩
  | _ :: _, [], _, _, h, _ => by simp at h
  | [], _ :: _, _, _, h, _ => by simp at h
  | [], [], _ :: _, _, _, h => by simp at h
  | _ :: _, _ :: _, [], _, _, h => by simp at h
theorem inF_len : ∀ ms : List Md, (inF ms).length = ms.length
  | [] => rfl
  | .fz :: ms => by simp [inF, inF_len ms]
  | .io _ _ :: ms => by simp [inF, inF_len ms]
theorem pok_arg {σ : St} : ∀ {ms : List Md} {vs : List V} {i : Nat}, vs.length = ms.length → (∀ j v, vs[j]? = some v → σ[i + j]? = some (some v)) → Pok (ioP i ms) (ioV ms vs) σ
  | [], [], _, _, _ => .nil
  | .fz :: ms, v :: vs, i, h, q => pok_arg (ms := ms) (by simpa using h) fun j w e => by
    have := q (j + 1) w (by simpa using e)
    rwa [show i + (j + 1) = i + 1 + j by omega] at this
  | .io m m' :: ms, v :: vs, i, h, q => .cons (q 0 v rfl) (pok_arg (ms := ms) (by simpa using h) fun j w e => by
    have := q (j + 1) w (by simpa using e)
    rwa [show i + (j + 1) = i + 1 + j by omega] at this)
  | [], _ :: _, _, h, _ => by simp at h
  | _ :: _, [], _, h, _ => by simp at h
theorem ret_out : ∀ {ms : List Md} {vs : List V} {outs : List DV} {i : Nat}, vs.length = ms.length → retR (ioP i ms) outs (ioV ms vs) = outR ms outs vs
  | [], [], outs, _, _ => by cases outs <;> rfl
  | .fz :: ms, v :: vs, outs, i, h => ret_out (ms := ms) (by simpa using h)
  | .io m m' :: ms, v :: vs, [], i, h => rfl
  | .io m m' :: ms, v :: vs, o :: outs, i, h => by
    show ⟨m', o, v⟩ :: retR (ioP (i + 1) ms) outs (ioV ms vs) = ⟨m', o, v⟩ :: outR ms outs vs
    rw [ret_out (by simpa using h)]
  | [], _ :: _, _, _, h => by simp at h
  | _ :: _, [], _, _, h => by simp at h
end
/-- the context of a body -/
abbrev bodyX (P : Program) (w : World) (K : PySem.W.Frag) (mg : Str → Option Value) (base : Heap) (N : List Str) (qual : Str) (scope : Scope) (f : Addr) (cdv : Value) (A : Around) (outer : List PySem.Env) (s : Shared) (H : Hp) (E : XK) : Cx := cxOf (L2.CX P w) P w K mg base N qual scope f cdv A outer s H E
abbrev WE (E : XK) : WX := fun cls d _ H => E cls d H
section
variable {P : Program} {w : World} {K : PySem.W.Frag} {mg : Str → Option Value} {base : Heap} {k : Nat} {f : Addr} {fd : FuncData} {N ps : List Str} {Z : ClT} {ms : List Md} {kr : Nat} {qual nm : Str} {scope : Scope} {cdv : Value}
/-- what is asked of a def's body: for each way of being entered -/
def BodyD (P : Program) (w : World) (K : PySem.W.Frag) (mg : Str → Option Value) (base : Heap) (k : Nat) (N : List Str) (qual : Str) (st : Stmt) (f : Addr) (Z : ClT) (ms : List Md) (kr : Nat) (g : M Fl) : Prop :=
  ∀ (cdv : Value) (A : Around) (outer : List PySem.Env) (s : Shared) (H : Hp) (E : XK), Room k (A.deeper (envOfC qual (defScope st) s.heap.objs.size f cdv)) → (A.deeper (envOfC qual (defScope st) s.heap.objs.size f cdv)).guards = some [] →
    Takes (bodyX P w K mg base N qual (defScope st) f cdv A outer s H E) (WE E) →
    PassesOwn (model P w) (A.deeper (envOfC qual (defScope st) s.heap.objs.size f cdv)) (envOfC qual (defScope st) s.heap.objs.size f cdv) (bodyX P w K mg base N qual (defScope st) f cdv A outer s H E).xe →
    ∃ ψ, retOk (ioP 0 ms) ψ.n = true ∧ JSs (bodyX P w K mg base N qual (defScope st) f cdv A outer s H E) Z (WE E) (ioP 0 ms) kr (inF ms ++ List.replicate (N.length - ms.length) 0) (defBody st) ψ g
theorem ioP_ge : ∀ {ms : List Md} {i : Nat} {p : Nat × Nat}, p ∈ ioP i ms → i ≤ p.1
  | [], _, _, h => nomatch h
  | .fz :: ms, i, p, h => by have := ioP_ge (ms := ms) (i := i + 1) h; omega
  | .io m m' :: ms, i, p, h => by
    rcases List.mem_cons.mp h with e | h
    · rw [e]; exact Nat.le_refl _
    · have := ioP_ge (ms := ms) (i := i + 1) h; omega
theorem ioP_nodup : ∀ {ms : List Md} {i : Nat}, ((ioP i ms).map (·.1)).Nodup
  | [], _ => List.Pairwise.nil
  | .fz :: ms, i => ioP_nodup (ms := ms)
  | .io m m' :: ms, i => List.nodup_cons.mpr ⟨fun h => by
    obtain ⟨p, hp, e⟩ := List.mem_map.mp h
    have h3 := ioP_ge hp
    have e : p.1 = i := e
    omega, ioP_nodup (ms := ms)⟩
theorem body_reads {X : Cx} {E : XK} {sts : List Stmt} {ψ : SF} {g : M Fl} {vs : List V} {H : Hp} {Q : VK} (hr : retOk (ioP 0 ms) ψ.n = true) (b : JSs X Z (WE E) (ioP 0 ms) kr (inF ms ++ List.replicate (X.N.length - ms.length) 0) sts ψ g)
    (h : spD X.K Z ms kr (runF X.N.length (ioP 0 ms) g) vs H Q E) : rdS X Z (WE E) (ioP 0 ms) kr (inF ms ++ List.replicate (X.N.length - ms.length) 0) ψ g { nx := fun _ H' => Q .non H', rt := Q } (L2.start X.N vs) H := by
  obtain ⟨L, ds, h1, h2, S, h⟩ := h
  have est : L2.start X.N vs = vs.map some ++ List.replicate (X.N.length - ms.length) none := by unfold L2.start; rw [h1]
  have een : env0 X.N.length ds = ds.map some ++ List.replicate (X.N.length - ms.length) none := by unfold env0; rw [h2]
  refine ⟨L, env0 X.N.length ds, ioV ms vs, ⟨?_, ?_, fun _ z => nomatch z⟩, ?_, ?_⟩
  · rw [een, est]
    show Sim X.K Z H (roots _ _ _ ++ L)
    rw [roots_arg h2 h1, roots_nones (m := 0), List.append_nil]
    exact S
  · rw [een, est]
    exact al_arg (by rw [inF_len, h2]) (by rw [h1, h2])
  · refine pok_arg h1 fun j v e => ?_
    rw [est, Nat.zero_add]
    have hj := (List.getElem?_eq_some_iff.mp e).1
    rw [List.getElem?_append_left (by simpa using hj), List.getElem?_map, e]
    rfl
  · unfold runF at h
    cases q : g (env0 X.N.length ds) with
    | bad => rw [q] at h; exact h.elim
    | ex c x e =>
      rw [q] at h
      have h : XC X.K Z E L c x := h
      intro C a v σ' H' z1 z2 z3 _
      exact h C a v H' z1 z2 (z3.sub (.cons_cons _ (List.sublist_append_right _ _)))
    | ok fl e =>
      rw [q] at h
      cases fl with
      | br => exact h.elim
      | ct => exact h.elim
      | nx =>
        unfold endR at h
        simp only at h
        cases q2 : outsAt (ioP 0 ms) e with
        | none => rw [q2] at h; exact h.elim
        | some outs =>
          rw [q2] at h
          have h : ∀ v H', Sim X.K Z H' (⟨kr, .d .none, v⟩ :: (outR ms outs vs ++ L)) → Q v H' := h
          show ∀ σ' H', Stt X.K Z ψ.n e [] σ' H' L → Pok (ioP 0 ms) (ioV ms vs) σ' → Q .non H'
          intro σ' H' s hp
          have s2 := ret_core hr ioP_nodup q2 hp s.al s.sim
          rw [ret_out h1] at s2
          exact h .non H' (s2.scal (.d .non))
      | rt d =>
        unfold endR at h
        simp only at h
        cases q2 : outsAt (ioP 0 ms) e with
        | none => rw [q2] at h; exact h.elim
        | some outs =>
          rw [q2] at h
          refine ⟨outs, q2, fun v H' s => ?_⟩
          have h : ∀ v H', Sim X.K Z H' (⟨kr, d, v⟩ :: (outR ms outs vs ++ L)) → Q v H' := h
          rw [ret_out h1] at s
          exact h v H' s
/-- a def's contract, of its body; F is any function that answers as the body does where it answers at all -/
theorem fn_D {st : Stmt} {g : M Fl} {F : List DV → Res} (fn : Fun K nm qual st f fd) (S : FnScope N ps (defScope st)) (hl : ms.length = ps.length)
    (hF : ∀ ds, ds.length = ms.length → F ds = .bad ∨ runF N.length (ioP 0 ms) g ds = F ds) (b : BodyD P w K mg base k N qual st f Z ms kr g) : FnOkG P w K mg base (k + 1) f fd ps (spD K Z ms kr F) := by
  obtain ⟨oc, od, kV, doc, pm, an, cdv, ct, osl, rfl, lk, hcd⟩ := fn.ex
  refine ⟨fun vs H Q E h => ?_, fun A outer s H args us vs Q E room gd e0 hb r hsp => ?_⟩
  · obtain ⟨L, ds, h1, _⟩ := h
    rw [h1, hl]
  have hvl : vs.length = ps.length := by
    obtain ⟨L, ds, h1, _⟩ := hsp
    rw [h1, hl]
  have hsp2 : spD K Z ms kr (runF N.length (ioP 0 ms) g) vs H Q E := by
    obtain ⟨L, ds, h1, h2, h3, h4⟩ := hsp
    refine ⟨L, ds, h1, h2, h3, ?_⟩
    rcases hF ds h2 with z | z
    · rw [z] at h4; exact h4.elim
    · rw [z]; exact h4
  have inK : K.In s.heap := e0.mod.kin.keeps fun b o q => (e0.bs b o q).1
  have kinds : ∀ y ∈ ps.zip us, (defScope st).names.lookup y.1 = some .local ∨ ((defScope st).names.lookup y.1 = some .cell ∧ ((cellsFrom (s.heap.objs.size + 1) (defScope st).names []).lookup y.1).isSome = true) := by
    rintro ⟨n, v⟩ hy
    cases S.par n (List.of_mem_zip hy).1 with
    | inl q => exact .inl q
    | inr q => exact .inr ⟨q, PySem.W.cellsFrom_some _ _ _ (.inl q)⟩
  refine codeAny_call_function room.depth (inK _ _ lk) rfl S.co S.gen rfl (PySem.W.codeRec_of inK hcd) (hb _ _ _ _ ?_)
  refine wpAny_newFunctionEnv_cells S.kind kinds fun env he s1 x => ?_
  subst he
  refine ⟨(e0.mod.nolimit.keeps fun b o q => (e0.bs b o q).1).keeps x.toInCall.keep, codeAny_func ?_⟩
  obtain ⟨ψ, hψ, body⟩ := b cdv A outer s H E (room.deeper _) gd (takes_of rfl rfl rfl rfl) (passes_of rfl)
  have I := inv_start (CX := L2.CX P w) (f := f) (cd := cdv) (qual := qual) (E := E) S room.hd e0 hvl r x
  have t := body_reads (X := bodyX P w K mg base N qual (defScope st) f cdv A outer s H E) hψ body hsp2
  refine wpAny_mono (body.run [] s1 _ H _ I t) (fun fl s' back => ?_) fun _ _ q => q
  cases fl with
  | brk => exact let ⟨_, _, _, z⟩ := back; z.elim
  | cont => exact let ⟨_, _, _, z⟩ := back; z.elim
  | next => exact let ⟨_, H', J, z⟩ := back; ⟨.non, H', J.os, J.bare, J.base, J.hok, rfl, z⟩
  | ret u => exact let ⟨v, _, H', J, rv, z⟩ := back; ⟨v, H', J.os, J.bare, J.base, J.hok, rv, z⟩
end

end Lk
namespace SrtO
open PySem PySem.Spec PyProof.Rows Srt L2
section
variable {prog : Program} {w : World} {A : Around} {E : Value → Shared → Prop} {s : Shared}
theorem sorted_dictO {d : Addr} {o : Obj} {es : Array DictEntry} {ep : Nat} {vs : List Value} {ltv : Value → Value → Bool} {Q : Value → Shared → Prop} (O : Swo ltv) (lo : (d == sysModules) = false) (hx : o.ExactDict) (hd : o.data = .dict es ep) (ho : s.heap.get? d = some o)
    (hh : A.in1.handled = none) (hz : es.size ≤ sizeLine) (hv : vs = es.toList.map (·.key))
    (hS : 2 ≤ vs.length → ∀ (h₁ : Heap) (tk : Nat) (a : Addr), h₁.get? a = some (seqObj "list" vs.toArray 0) → (∀ b o, s.heap.get? b = some o → b ≠ a ∧ h₁.get? b = some o) → SortableO prog w A.in1.in1 { s with heap := h₁, toks := tk } a vs ltv)
    (h : ∀ (h0 h' : Heap) (tk : Nat) (d' : Addr) (out : List Value), Srtd ltv out → Stb ltv out vs → (∀ b o, s.heap.get? b = some o → h0.get? b = some o) → (∀ b o, h0.get? b = some o → h'.get? b = some o) → h0.objs.size ≤ d' → (∃ n, h'.get? d' = some (seqObj "list" out.toArray n)) → Q (.ref d') { s with heap := h', toks := tk }) :
    wpAny (model prog w) A (call (.builtin "sorted") [.ref d]) Q E s := by
  refine Calls.call_function_entry kind_sorted plain_sorted entry_sorted (args_sorted1 _) ?_
  unfold Builtin.«sorted»
  refine wpAny_bind (m := checkCount "sorted" 1 1 _) (wpAny_pure ?_)
  refine wpAny_bind (PySem.W.kdu_collect (A := A.in1) (kdl_raw lo hx hd) hh ho hz fun h' tk acc hk hacc => ?_)
  have hal : acc.toList = vs := by
    rw [hv]
    have hl : acc.toList.length = es.size := by rw [Array.length_toList, hacc.1]
    apply List.ext_getElem?
    intro j
    rw [List.getElem?_map]
    cases hj : acc.toList[j]? with
    | none =>
      have h1 := List.getElem?_eq_none_iff.mp hj
      rw [List.getElem?_eq_none (by rw [Array.length_toList]; omega)]
      rfl
    | some v =>
      obtain ⟨en, hen, hv⟩ := hacc.2 j v (by rw [← Array.getElem?_toList]; exact hj)
      rw [Array.getElem?_toList, hen, hv]; rfl
  rw [hal]
  have hvl : vs.length ≤ sizeLine := by rw [hv, List.length_map, Array.length_toList]; exact hz
  refine wpAny_bind (wpAny_newList ?_ hvl)
  have hoL : (h'.push (seqObj "list" vs.toArray 0)).get? h'.objs.size = some (seqObj "list" vs.toArray 0) := Heap.get?_push_size _ rfl
  have keep : ∀ b o, s.heap.get? b = some o → b ≠ h'.objs.size ∧ (h'.push (seqObj "list" vs.toArray 0)).get? b = some o := fun b o q => by
    have q' := hk b o q
    exact ⟨Nat.ne_of_lt (Heap.lt_size q'), Heap.get?_push_of_some _ q'⟩
  show wpAny _ _ _ _ _ { s with heap := h'.push (seqObj "list" vs.toArray 0), toks := tk }
  refine wpAny_bind (wpAny_holding (wpAny_call_entry slot_list_sort ⟨_, hoL, rfl⟩ entry_list_sort (list_sort_ord (s := { s with heap := h'.push (seqObj "list" vs.toArray 0), toks := tk }) O hoL hvl (fun h2 => hS h2 _ tk _ hoL keep) fun out hs hb => ⟨_, rfl, ?_⟩) (args_list_sort _)))
  refine wpAny_pure ⟨_, rfl, h h' _ tk _ out hs hb hk (fun b o e => ?_) (Nat.le_refl _) (sortedHeap_at hoL)⟩
  have hlt := Heap.lt_size e
  rw [sortedHeap_old (Nat.ne_of_lt hlt) (by rw [size_push']; exact Nat.lt_succ_of_lt hlt)]
  exact Heap.get?_push_of_some _ e
end
end SrtO
namespace Lk
open PySem PySem.Spec L2

/-- a def of the module, by its name: how its arguments bind, its contract -/
def permsN : Nat → List (List Nat)
  | 0 => [[]]
  | 1 => [[0]]
  | 2 => [[0, 1], [1, 0]]
  | 3 => [[0, 1, 2], [0, 2, 1], [1, 0, 2], [1, 2, 0], [2, 0, 1], [2, 1, 0]]
  | n => [List.range n]
/-- how many operands stand by position, in which order the rest is named -/
def kwTab (n : Nat) : List (Nat × List Nat) := (List.range (n + 1)).flatMap fun i => (permsN (n - i)).map fun π => (i, π)
/-- names and values in the order π -/
def kwOf (ps : List Str) (i : Nat) (π : List Nat) (ws : List Value) : List (Str × Value) := π.map fun j => (ps.getD (i + j) "", ws.getD j .none)
structure Has (P : Program) (w : World) (K : PySem.W.Frag) (mg : Str → Option Value) (base : Heap) (k : Nat) (x : Str) (ps : List Str) (Z : ClT) (ms : List Md) (kr : Nat) (F : List DV → Res) : Prop where
  ex : ∃ (f : Addr) (fd : FuncData), mg x = some (.ref f) ∧ PySem.W.keepIn K (.ref f) = true ∧
    (∀ (s : Shared) (us ws : List Value) (π : List Nat), us.length + ws.length = ps.length → (us.length, π) ∈ kwTab ps.length → BindsTo s fd ⟨us, kwOf ps us.length π ws⟩ (ps.zip (us ++ ws))) ∧ FnOkG P w K mg base k f fd ps (spD K Z ms kr F)
section
variable {X : Cx} {Z : ClT} {W : WX} {φ φ1 φ2 φ3 φ' : List Nat} {t ta : Tm} {ts ts2 : List Tm} {fa : M DV} {f f2 : M (List DV)} {σ : St} {H : Hp} {L : List Root} {env : Ev} {hs : List Held} {a : Expr} {es : List Expr} {pos p : Pos} {j k kr : Nat} {x : Str} {ms : List Md} {F : List DV → Res} {ps : List Str} {kws : List Keyword}
theorem Has.mono (h : Has X.prog X.w X.K X.mg X.base j x ps Z ms kr F) (hk : j ≤ k) : Has X.prog X.w X.K X.mg X.base k x ps Z ms kr F := by
  obtain ⟨f, fd, h1, h2, h3, h4⟩ := h.ex
  exact ⟨f, fd, h1, h2, h3, h4.mono hk⟩
/-- the values of keywords -/
def JK (X : Cx) (Z : ClT) (W : WX) (φ : List Nat) (kws : List Keyword) (φ' : List Nat) (ts : List Tm) (f : M (List DV)) : Prop := PK X kws (rdA X Z W φ φ' ts f)
theorem pk_imp {t t' : TA} (h : PK X kws t) (i : ∀ σ H Q, t' σ H Q → t σ H Q) : PK X kws t' := ⟨fun pos pins s σ H Q I q => h.run pos pins s σ H Q I (i _ _ _ q)⟩
theorem jk_nil : JK X Z W φ [] φ [] (M.pure []) := pk_imp pk_nil fun σ H Q ⟨L, env, S, h⟩ => by
  exact (show ∀ vs H', ([] : List DV).length = ([] : List Tm).length → vs.length = ([] : List Tm).length → Stt X.K Z φ env (zipH [] [] vs) σ H' L → Q vs H' from h) [] H rfl rfl S
theorem jk_cons {nm : Option Str} {kpos : Pos} (ha : JE X Z W φ a φ1 t fa) (h : JK X Z W φ1 kws φ2 ts f) : JK X Z W φ (⟨nm, a, kpos⟩ :: kws) φ2 (t :: ts) (consM fa f) := by
  refine pk_imp (pk_cons ha h) fun σ H Q ⟨L, env, S, h⟩ => ?_
  refine rdE.go S (h.bind.mono fun d e1 h1 v H1 S1 => ?_)
  refine rdA.go S1 (h1.bind.mono fun ds e2 h2 vs H2 hl hv S2 => ?_)
  refine h2 (v :: vs) H2 (by simp [hl]) (by simp [hv]) (S2.hperm ?_)
  show (zipH ts ds vs ++ [(⟨t, d, v⟩ : Held)]).Perm ((⟨t, d, v⟩ : Held) :: zipH ts ds vs)
  exact List.perm_append_comm
/-- the callee runs, keywords behind the rest in the parameters' order -/
theorem run_gK {pins : List (Addr × Obj)} {s : Shared} {Q : VK} {us ws : List Value} {kw : List (Str × Value)} {vs : List V} {fn : Addr} {fd : FuncData} {sp : Sp} (G : FnOkG X.prog X.w X.K X.mg X.base k fn fd ps sp) (hr : Room k X.A) (hgd : X.A.guards = some [])
    (hb : us.length + ws.length = ps.length → BindsTo s fd ⟨us, kw⟩ (ps.zip (us ++ ws))) (tk : Takes X W)
    (I : Inv X pins σ H s) (r : Vals vs (us ++ ws)) (h : sp vs H Q fun cls d H' => W cls d σ H') : wpAny (model X.prog X.w) X.A (call (.ref fn) us kw) (EP X pins σ Q) X.xe s := by
  have hl : us.length + ws.length = ps.length := by
    rw [← List.length_append, ← r.length]
    exact G.len _ _ _ _ h
  have run := G.run X.A X.stack s H ⟨us, kw⟩ (us ++ ws) vs Q _ hr hgd I.env0 (hb hl) r h
  refine wpAny_call (codeAny_mono run fun o s' hq => ?_)
  match o, hq with
  | .error e, hq => exact tk e s' (XE.of_call I (fun _ _ _ z => z) hq)
  | .ok (.ret u), hq => exact I.after hq
  | .ok .next, hq => exact False.elim hq
  | .ok .brk, hq => exact False.elim hq
  | .ok .cont, hq => exact False.elim hq
theorem kwTab_end {n k : Nat} (h : k = n) : (k, []) ∈ kwTab n := by
  subst h
  refine List.mem_flatMap.mpr ⟨k, List.mem_range.mpr (Nat.lt_succ_self k), ?_⟩
  rw [Nat.sub_self]
  exact List.mem_cons_self
theorem je_callH (G : Has X.prog X.w X.K X.mg X.base j x ps Z ms kr F) (hj : j ≤ k) (hr : Room k X.A) (hgd : X.A.guards = some []) (hg : Gl X x) (tk : Takes X W)
    (hdb : (x == ("__debug__" : Str)) = false) (hs : noStar a = true) (hpl : es.all noStar = true) (ha : JA X Z W φ (a :: es) φ2 ts f) (hf : fitM ms ts φ2 = true) :
    JE X Z W φ (.Call (.Name x p) (a :: es) [] pos) (flM ms ts φ2) (.v kr) (callF F ms ts f) := by
  obtain ⟨fn, fd, h1, h2, h3, h4⟩ := (G.mono hj).ex
  have hb : Binds X.K fd ps [] := fun s us _ hl => by
    rw [List.append_nil] at hl ⊢
    have q := h3 s us [] [] (by simpa using hl) (kwTab_end hl)
    rw [List.append_nil] at q
    exact q
  exact je_call h4 hr hgd hg h1 h2 hb tk hdb hs hpl ha hf
theorem vals_len {vs : List V} {us : List Value} (r : Vals vs us) : us.length = vs.length := r.length.symm
theorem zipH_app {ts2 : List Tm} {ds2 : List DV} {zs : List V} : ∀ {ts : List Tm} {ds : List DV} {vs : List V}, ds.length = ts.length → vs.length = ts.length → zipH (ts ++ ts2) (ds ++ ds2) (vs ++ zs) = zipH ts ds vs ++ zipH ts2 ds2 zs
  | [], [], [], _, _ => rfl
  | t :: ts, d :: ds, v :: vs, a, b => by
    show _ :: zipH (ts ++ ts2) (ds ++ ds2) (vs ++ zs) = _ :: (zipH ts ds vs ++ zipH ts2 ds2 zs)
    rw [zipH_app (by simpa using a) (by simpa using b)]
  | [], _ :: _, _, h, _ => by simp at h
  | [], [], _ :: _, _, h => by simp at h
  | _ :: _, [], _, h, _ => by simp at h
  | _ :: _, _ :: _, [], _, h => by simp at h
/-- taken in the order ρ -/
def reo {α : Type} (ρ : List Nat) (l : List α) : List α := ρ.filterMap fun j => l[j]?
theorem reo_range {α : Type} : ∀ l : List α, reo (List.range l.length) l = l
  | [] => rfl
  | x :: l => by
    have ih := reo_range l
    unfold reo at ih ⊢
    rw [List.length_cons, List.range_succ_eq_map, List.filterMap_cons, List.filterMap_map]
    show x :: (List.range l.length).filterMap (fun j => (x :: l)[j + 1]?) = _
    simp only [List.getElem?_cons_succ]
    rw [ih]
theorem reo_perm {α : Type} {ρ : List Nat} {l : List α} (h : ρ.Perm (List.range l.length)) : (reo ρ l).Perm l := by
  have := h.filterMap fun j => l[j]?
  refine this.trans ?_
  have e := reo_range l
  unfold reo at e
  rw [e]
theorem vals_reo {xs : List V} {us : List Value} (h : Vals xs us) : ∀ ρ : List Nat, Vals (reo ρ xs) (reo ρ us)
  | [] => .nil
  | j :: ρ => by
    have ih := vals_reo h ρ
    unfold reo at ih ⊢
    simp only [List.filterMap_cons]
    cases e : xs[j]? with
    | none =>
      have e2 : us[j]? = none := by
        rw [List.getElem?_eq_none_iff] at e ⊢
        rw [← h.length]; exact e
      rw [e2]; exact ih
    | some x =>
      obtain ⟨u, e2, r⟩ := h.get e
      rw [e2]
      exact .cons r ih
theorem reo_len {α : Type} {ρ : List Nat} {l : List α} (h : ρ.Perm (List.range l.length)) : (reo ρ l).length = l.length := (reo_perm h).length_eq
theorem zipH_get : ∀ {ts : List Tm} {ds : List DV} {vs : List V} {j : Nat}, ds.length = ts.length → vs.length = ts.length → (zipH ts ds vs)[j]? = match ts[j]?, ds[j]?, vs[j]? with
    | some t, some d, some v => some ⟨t, d, v⟩
    | _, _, _ => none
  | [], [], [], j, _, _ => by simp [zipH]
  | t :: ts, d :: ds, v :: vs, 0, _, _ => rfl
  | t :: ts, d :: ds, v :: vs, j + 1, h1, h2 => by
    show (zipH ts ds vs)[j]? = _
    rw [zipH_get (by simpa using h1) (by simpa using h2)]
    simp
  | [], _ :: _, _, _, h, _ => by simp at h
  | [], [], _ :: _, _, _, h => by simp at h
  | _ :: _, [], _, _, h, _ => by simp at h
  | _ :: _, _ :: _, [], _, _, h => by simp at h
theorem reo_cons {α : Type} {j : Nat} {ρ : List Nat} {l : List α} : reo (j :: ρ) l = match l[j]? with
    | some x => x :: reo ρ l
    | none => reo ρ l := by
  unfold reo
  rw [List.filterMap_cons]
  cases l[j]? <;> rfl
theorem zipH_reo {ts : List Tm} {ds : List DV} {vs : List V} (h1 : ds.length = ts.length) (h2 : vs.length = ts.length) : ∀ ρ : List Nat, zipH (reo ρ ts) (reo ρ ds) (reo ρ vs) = reo ρ (zipH ts ds vs)
  | [] => rfl
  | j :: ρ => by
    have ih := zipH_reo h1 h2 ρ
    rw [reo_cons, reo_cons, reo_cons, reo_cons, zipH_get h1 h2]
    by_cases hj : j < ts.length
    · rw [List.getElem?_eq_getElem hj, List.getElem?_eq_getElem (by omega : j < ds.length), List.getElem?_eq_getElem (by omega : j < vs.length)]
      show _ :: zipH _ _ _ = _ :: _
      rw [ih]
    · rw [List.getElem?_eq_none (by omega), List.getElem?_eq_none (by omega), List.getElem?_eq_none (by omega)]
      exact ih
theorem zipH_len : ∀ {ts : List Tm} {ds : List DV} {vs : List V}, ds.length = ts.length → vs.length = ts.length → (zipH ts ds vs).length = ts.length
  | [], [], [], _, _ => rfl
  | t :: ts, d :: ds, v :: vs, h1, h2 => by
    show (zipH ts ds vs).length + 1 = _
    rw [zipH_len (by simpa using h1) (by simpa using h2)]; rfl
  | [], _ :: _, _, h, _ => by simp at h
  | [], [], _ :: _, _, h => by simp at h
  | _ :: _, [], _, h, _ => by simp at h
  | _ :: _, _ :: _, [], _, h => by simp at h
def kwM (ρ : List Nat) (f f2 : M (List DV)) : M (List DV) := fun e => (f e).bind fun ds e1 => (f2 e1).bind fun ds2 e2 => .ok (ds ++ reo ρ ds2) e2
/-- f(.., k = e, ..): the names told in the order π, put right by ρ -/
theorem je_callK (ρ π : List Nat) (G : Has X.prog X.w X.K X.mg X.base j x ps Z ms kr F) (hj : j ≤ k) (hr : Room k X.A) (hgd : X.A.guards = some []) (hg : Gl X x) (tk : Takes X W)
    (hdb : (x == ("__debug__" : Str)) = false) (hs : noStar a = true) (hpl : ((backTo pos (starEach (a :: es) X.env)).any (·.1) || (backToKw pos (keywordEach kws X.env)).any (·.1.isNone)) = false)
    (hall : (backToKw pos (keywordEach kws X.env)).all (·.1.isSome) = true) (hlen : ts.length = es.length + 1) (hπ : (es.length + 1, π) ∈ kwTab ps.length) (hρ : ρ.Perm (List.range ts2.length))
    (hks : ∀ ws : List Value, ws.length = ts2.length → ((backToKw pos (keywordEach kws X.env)).filterMap (·.1)).zip ws = kwOf ps (es.length + 1) π (reo ρ ws))
    (ha : JA X Z W φ (a :: es) φ1 ts f) (hk : JK X Z W φ1 kws φ2 ts2 f2) (hf : fitM ms (ts ++ reo ρ ts2) φ2 = true) :
    JE X Z W φ (.Call (.Name x p) (a :: es) kws pos) (flM ms (ts ++ reo ρ ts2) φ2) (.v kr) (callF F ms (ts ++ reo ρ ts2) (kwM ρ f f2)) := by
  obtain ⟨fn, fd, h1, h2, h3, h4⟩ := (G.mono hj).ex
  refine pe_imp (t := fun σ H Q => rdA X Z W φ φ1 ts f σ H fun vs H1 => vs.length = es.length + 1 ∧ rdA X Z W φ1 φ2 ts2 f2 σ H1 fun zs H2 => zs.length = ts2.length ∧ spD X.K Z ms kr F (vs ++ reo ρ zs) H2 Q fun cls d H' => W cls d σ H') ⟨fun pins s σ H Q I h => ?_⟩ fun σ H Q ⟨L, env, S, h⟩ => ?_
  · refine wpAny_Call_Name_kw (ld_glob I hg h1 ?_ hdb)
    refine PySem.W.callWith_KW (h₀ := X.base) I.ok.mod.kin h2 hall (thn (ha.run pos pins s σ H _ I h) fun us s1 ⟨vs, H1, I1, r, hl, q⟩ => ?_) hpl (star_eq hs)
    refine thn (hk.run pos pins s1 σ H1 _ I1 q) fun ws s2 ⟨zs, H2, I2, rz, hz, q2⟩ => ⟨I2.kIn, ?_⟩
    have hu : us.length = es.length + 1 := by rw [vals_len r, hl]
    rw [hks ws (by rw [vals_len rz, hz])]
    refine run_gK (ws := reo ρ ws) h4 hr hgd (fun hlen => ?_) tk I2 (r.append (vals_reo rz ρ)) q2
    have := h3 s2 us (reo ρ ws) π hlen (by rw [hu]; exact hπ)
    rw [hu] at this
    exact this
  · refine ⟨L, env, S, ?_⟩
    have h := h.bind
    refine Wish.mono h.bind fun ds e1 h1 vs H1 hl hv S1 => ⟨by rw [hv, hlen], ?_⟩
    refine rdA.go S1 (Wish.mono h1.bind fun ds2 e2 h2 zs H2 hl2 hv2 S2 => ⟨hv2, ?_⟩)
    have S3 : Stt X.K Z φ2 e2 (zipH (ts ++ reo ρ ts2) (ds ++ reo ρ ds2) (vs ++ reo ρ zs)) σ H2 L := by
      refine S2.hperm ?_
      rw [zipH_app hl hv, zipH_reo hl2 hv2]
      refine List.perm_append_comm.trans (List.Perm.append_left _ ?_)
      exact (reo_perm (by rw [zipH_len hl2 hv2]; exact hρ)).symm
    have e1 : (reo ρ ds2).length = (reo ρ ts2).length := by rw [reo_len hρ, reo_len (by rw [hl2]; exact hρ), hl2]
    have e2 : (reo ρ zs).length = (reo ρ ts2).length := by rw [reo_len hρ, reo_len (by rw [hv2]; exact hρ), hv2]
    exact callF_core (ds := ds ++ reo ρ ds2) hf (by simp [hl, e1]) (by simp [hv, e2]) S3 h2
theorem je_callK0 (ρ π : List Nat) (G : Has X.prog X.w X.K X.mg X.base j x ps Z ms kr F) (hj : j ≤ k) (hr : Room k X.A) (hgd : X.A.guards = some []) (hg : Gl X x) (tk : Takes X W)
    (hdb : (x == ("__debug__" : Str)) = false) (hpl : ((backTo pos (starEach [] X.env)).any (·.1) || (backToKw pos (keywordEach kws X.env)).any (·.1.isNone)) = false)
    (hall : (backToKw pos (keywordEach kws X.env)).all (·.1.isSome) = true) (hπ : (0, π) ∈ kwTab ps.length) (hρ : ρ.Perm (List.range ts.length))
    (hks : ∀ ws : List Value, ws.length = ts.length → ((backToKw pos (keywordEach kws X.env)).filterMap (·.1)).zip ws = kwOf ps 0 π (reo ρ ws))
    (hk : JK X Z W φ kws φ2 ts f) (hf : fitM ms (reo ρ ts) φ2 = true) :
    JE X Z W φ (.Call (.Name x p) [] kws pos) (flM ms (reo ρ ts) φ2) (.v kr) (callF F ms (reo ρ ts) (kwM ρ (M.pure []) f)) := by
  obtain ⟨fn, fd, h1, h2, h3, h4⟩ := (G.mono hj).ex
  refine pe_imp (t := fun σ H Q => rdA X Z W φ φ2 ts f σ H fun zs H2 => zs.length = ts.length ∧ spD X.K Z ms kr F (reo ρ zs) H2 Q fun cls d H' => W cls d σ H') ⟨fun pins s σ H Q I h => ?_⟩ fun σ H Q ⟨L, env, S, h⟩ => ?_
  · refine wpAny_Call_Name_kw (ld_glob I hg h1 ?_ hdb)
    refine PySem.W.callWith_KW0 (h₀ := X.base) I.ok.mod.kin h2 hall ?_ hpl
    refine thn (hk.run pos pins s σ H _ I h) fun ws s2 ⟨zs, H2, I2, rz, hz, q2⟩ => ⟨I2.kIn, ?_⟩
    rw [hks ws (by rw [vals_len rz, hz])]
    exact run_gK (us := []) (ws := reo ρ ws) h4 hr hgd (fun hlen => h3 s2 [] (reo ρ ws) π hlen hπ) tk I2 (vals_reo rz ρ) q2
  · have h := Wish.bind (show Wish X.K Z W L (((f env).bind fun ds2 e2 => Out.ok ([] ++ reo ρ ds2) e2).bind _) _ from h)
    refine ⟨L, env, S, Wish.mono h.bind fun ds e' h1 vs H' hl hv S' => ⟨hv, ?_⟩⟩
    have S3 : Stt X.K Z φ2 e' (zipH (reo ρ ts) (reo ρ ds) (reo ρ vs)) σ H' L := by
      refine S'.hperm ?_
      rw [zipH_reo hl hv]
      exact (reo_perm (by rw [zipH_len hl hv]; exact hρ)).symm
    have e1 : (reo ρ ds).length = (reo ρ ts).length := by rw [reo_len hρ, reo_len (by rw [hl]; exact hρ), hl]
    have e2 : (reo ρ vs).length = (reo ρ ts).length := by rw [reo_len hρ, reo_len (by rw [hv]; exact hρ), hv]
    exact callF_core hf e1 e2 S3 h1
/-- f() -/
theorem je_call0 (G : Has X.prog X.w X.K X.mg X.base j x ps Z [] kr F) (hj : j ≤ k) (hr : Room k X.A) (hgd : X.A.guards = some []) (hg : Gl X x) (tk : Takes X W)
    (hdb : (x == ("__debug__" : Str)) = false) (hps : ps = []) : JE X Z W φ (.Call (.Name x p) [] [] pos) φ (.v kr) (callF F [] [] (M.pure [])) := by
  obtain ⟨fn, fd, h1, h2, h3, h4⟩ := (G.mono hj).ex
  refine pe_imp (t := fun σ H Q => spD X.K Z [] kr F [] H Q fun cls d H' => W cls d σ H') ⟨fun pins s σ H Q I h => ?_⟩ fun σ H Q ⟨L, env, S, h⟩ => ?_
  · refine wpAny_Call_Name_kw (ld_glob I hg h1 ?_ hdb)
    refine PySem.W.callWith_K0 I.kIn h2 ?_
    exact run_gK (us := []) (ws := []) h4 hr hgd (fun hlen => h3 s [] [] [] hlen (kwTab_end (by simpa using hlen))) tk I .nil h
  · have S2 : Stt X.K Z φ env (zipH [] [] []) σ H L := S
    exact callF_core (ts := []) (ds := []) (vs := []) (φ2 := φ) rfl rfl rfl S2 h
end

/-! ### repr of a list, of a tuple -/
section
variable {X : Cx} {Z : ClT}
def isSeq : PyData → Bool
  | .list _ => true
  | .tuple _ => true
  | _ => false
mutual
/-- data, empty dicts among it, no lists -/
def dOk : PyData → Bool
  | .none | .bool _ | .int _ | .str _ => true
  | .tuple xs => dOks xs
  | .dict [] => true
  | _ => false
def dOks : List PyData → Bool
  | [] => true
  | x :: xs => dOk x && dOks xs
end
mutual
theorem Den.rdT {pins : List (Addr × Obj)} {σ : St} {H : Hp} {s : Shared} (I : Inv X pins σ H s) : ∀ {d : PyData} {v : V} {G : Ft} {u : Value}, Den X.K H d v G → dOk d = true → RelV v u → ∃ as, Reads s.heap u d as ∧ sysModules ∉ as
  | _, _, _, _, .non, _, r => by cases r; exact ⟨_, .none, by simp⟩
  | _, _, _, _, .bl b, _, r => by cases r; exact ⟨_, .bool b, by simp⟩
  | _, _, _, _, .int i, _, r => by obtain ⟨t, rfl⟩ := r; exact ⟨_, .int i t, by simp⟩
  | _, _, _, _, .str x, _, r => by obtain ⟨t, rfl⟩ := r; exact ⟨_, .str x t, by simp⟩
  | _, _, _, _, .lst h1 h2, c, r => by simp [dOk] at c
  | _, _, _, _, .tup h1 h2, c, r => by
    cases r
    obtain ⟨its, rv, ⟨o, ho, hc, n, hd⟩, _⟩ := I.tuple (.of h1)
    obtain ⟨as, hr, hn⟩ := DenL.rdT I h2 (by simpa [dOk] using c) rv
    exact ⟨_, Reads.tuple ho hc hd hr, hn⟩
  | .dict [], _, _, _, .dic h1 h2 h3, c, r => by
    cases r
    rcases h1 with ⟨kvs, e1, e2, e3⟩ | ⟨kvs, e1, e2, e3⟩
    · have : kvs = [] := by
        cases kvs with
        | nil => rfl
        | cons p kvs => rw [e2] at h2; cases h2
      subst this
      obtain ⟨z, hs, vs, kv, o, es, ep, q1, q2, q3, q4, q5, q6⟩ := dk_of I.hok e1
      cases kv
      have he : es.toList = [] := by
        cases hh : es.toList with
        | nil => rfl
        | cons x l => rw [hh] at q5; cases q5
      refine ⟨_, Reads.dict (as := []) (bs := []) q1 q2.1 q3 (by rw [he]; exact .nil) (by rw [he]; exact .nil), ?_⟩
      simp only [List.append_nil, List.mem_singleton]
      intro e
      rw [← e] at hs
      simp at hs
    · have : kvs = [] := by
        cases kvs with
        | nil => rfl
        | cons p kvs => rw [e2] at h2; cases h2
      subst this
      obtain ⟨z, hs, xs, kv, o, es, ep, q1, q2, q3, q4, q5⟩ := (show ObjOk X.prog X.w H s.heap _ (.dT []) from I.hok _ _ e1)
      cases kv
      have he : es.toList = [] := by rw [q4]; rfl
      refine ⟨_, Reads.dict (as := []) (bs := []) q1 q2.1 q3 (by rw [he]; exact .nil) (by rw [he]; exact .nil), ?_⟩
      simp only [List.append_nil, List.mem_singleton]
      intro e
      rw [← e] at hs
      simp at hs
  | .dict (_ :: _), _, _, _, .dic h1 h2 h3, c, r => by simp [dOk] at c
theorem DenL.rdT {pins : List (Addr × Obj)} {σ : St} {H : Hp} {s : Shared} (I : Inv X pins σ H s) : ∀ {ds : List PyData} {vs : List V} {G : Ft} {us : List Value}, DenL X.K H ds vs G → dOks ds = true → Vals vs us → ∃ as, ReadsAll s.heap us ds as ∧ sysModules ∉ as
  | _, _, _, _, .nil, _, r => by cases r; exact ⟨_, .nil, by simp⟩
  | _, _, _, _, .cons h1 h2, c, r => by
    cases r with
    | cons r1 r2 =>
      simp only [dOks, Bool.and_eq_true] at c
      obtain ⟨as, q1, n1⟩ := Den.rdT I h1 c.1 r1
      obtain ⟨bs, q2, n2⟩ := DenL.rdT I h2 c.2 r2
      exact ⟨_, .cons q1 q2, by simp [n1, n2]⟩
end
def reprP (x : PyData) : Option PyData := if (x.canLay0 || dOk x) && decide (x.depth ≤ 64) && x.showable && decide (x.shown.length ≤ big) then some (.str x.shown) else none
theorem cd_repr (hgd : X.A.guards = some []) (hu : X.A.units + 70 < cLine) : CallD X Z (.builtin "repr") (oneD reprP) 9 9 := cd_one fun pins s σ H v us Q p r R n I rv S m hn hg hq => by
  unfold reprP at hg
  split at hg
  · rename_i h
    simp only [Bool.and_eq_true, Bool.or_eq_true, decide_eq_true_eq] at h
    obtain ⟨⟨⟨h1, h2⟩, h3⟩, h4⟩ := h
    cases hg
    obtain ⟨u, eu, ru⟩ : ∃ u, us = [u] ∧ RelV v u := by
      cases rv with
      | cons r1 r2 => cases r2; exact ⟨_, rfl, r1⟩
    subst eu
    have hr : ∃ as, Reads s.heap u p as ∧ (p.hasDict = true → sysModules ∉ as) := by
      rcases h1 with h1 | h1
      · have dp := S.dp m (show SeqAt.shaped p = true by unfold SeqAt.shaped; rw [h1]; simpa using h2)
        obtain ⟨as, rd⟩ := Dp.reads I p v u dp ru
        exact ⟨as, rd, PyData.noDict_hsm (PyData.hasDict_of_canLay p h1)⟩
      · obtain ⟨G, hd⟩ := S.den m
        cases hd with
        | d hd =>
          obtain ⟨as, rd, hn⟩ := hd.rdT I h1 ru
          exact ⟨as, rd, fun _ => hn⟩
    obtain ⟨as, rd, hsm⟩ := hr
    cases rd with
    | none => exact PySem.P.repr_of_none ⟨.str _, H, I.kept (h' := s.heap) (t' := s.toks + 1) (fun b o e => e), ⟨_, rfl⟩, hq _ _ S.cstr⟩
    | bool b => exact PySem.P.repr_of_bool ⟨.str _, H, I.kept (h' := s.heap) (t' := s.toks + 1) (fun b o e => e), ⟨_, by cases b <;> rfl⟩, hq _ _ S.cstr⟩
    | int i t => exact PySem.P.repr_of_int (by simpa [PyData.showable] using h3) ⟨.str _, H, I.kept (h' := s.heap) (t' := s.toks + 1) (fun b o e => e), ⟨_, rfl⟩, hq _ _ S.cstr⟩
    | str x t => exact PySem.P.repr_of_str ⟨.str _, H, I.kept (h' := s.heap) (t' := s.toks + 1) (fun b o e => e), ⟨_, rfl⟩, hq _ _ S.cstr⟩ (big_line h4)
    | list q1 q2 q3 q4 => exact repr_of_reads' (.list q1 q2 q3 q4) h3 hsm hgd (by omega) (fun b o e => e) (fun h' u tk hk => ⟨.str _, H, I.kept (t' := tk) hk, ⟨_, rfl⟩, hq _ _ S.cstr⟩) (big_line h4)
    | tuple q1 q2 q3 q4 => exact repr_of_reads' (.tuple q1 q2 q3 q4) h3 hsm hgd (by omega) (fun b o e => e) (fun h' u tk hk => ⟨.str _, H, I.kept (t' := tk) hk, ⟨_, rfl⟩, hq _ _ S.cstr⟩) (big_line h4)
    | dict q1 q2 q3 q4 q5 => exact repr_of_reads' (.dict q1 q2 q3 q4 q5) h3 hsm hgd (by omega) (fun b o e => e) (fun h' u tk hk => ⟨.str _, H, I.kept (t' := tk) hk, ⟨_, rfl⟩, hq _ _ S.cstr⟩) (big_line h4)
  · cases hg
end

/-! ### sorted -/
def insB {α : Type} (lt : α → α → Bool) (x : α) : List α → List α
  | [] => [x]
  | y :: ys => if lt y x then y :: insB lt x ys else x :: y :: ys
def srtB {α : Type} (lt : α → α → Bool) : List α → List α
  | [] => []
  | x :: xs => insB lt x (srtB lt xs)
/-- a total order, told by its strict half -/
structure Tot {α : Type} (lt : α → α → Bool) : Prop where
  asym : ∀ x y, lt x y = true → lt y x = false
  tr : ∀ x y z, lt x y = true → lt y z = true → lt x z = true
  eq : ∀ x y, lt x y = false → lt y x = false → x = y
section
variable {α : Type} {lt : α → α → Bool}
theorem Tot.irr (T : Tot lt) (x : α) : lt x x = false := by
  cases h : lt x x with
  | false => rfl
  | true => have := T.asym x x h; rw [h] at this; exact this
theorem Tot.swo (T : Tot lt) : SrtO.Swo lt := ⟨T.asym, fun x y z h1 h2 => by
  -- y ≤ x, z ≤ y: z ≤ x
  cases h : lt z x with
  | false => rfl
  | true =>
    cases h3 : lt x y with
    | true => rw [T.tr z x y h h3] at h2; exact h2
    | false =>
      have e := T.eq x y h3 h1
      subst e
      rw [h] at h2; exact h2⟩
theorem insB_perm (x : α) : ∀ l : List α, (insB lt x l).Perm (x :: l)
  | [] => .refl _
  | y :: ys => by
    unfold insB
    split
    · exact ((insB_perm x ys).cons y).trans (.swap _ _ _)
    · exact .refl _
theorem srtB_perm : ∀ l : List α, (srtB lt l).Perm l
  | [] => .refl _
  | x :: xs => (insB_perm x _).trans ((srtB_perm xs).cons x)
theorem insB_srt (T : Tot lt) (x : α) : ∀ {l : List α}, SrtO.Srtd lt l → SrtO.Srtd lt (insB lt x l)
  | [], _ => List.pairwise_singleton _ _
  | y :: ys, h => by
    obtain ⟨h1, h2⟩ := List.pairwise_cons.mp h
    unfold insB
    split
    · rename_i hy
      refine List.pairwise_cons.mpr ⟨fun z hz => ?_, insB_srt T x h2⟩
      rcases List.mem_cons.mp ((insB_perm x ys).mem_iff.mp hz) with e | hz
      · rw [e]; exact T.asym y x hy
      · exact h1 z hz
    · rename_i hy
      have hy : lt y x = false := by simpa using hy
      refine List.pairwise_cons.mpr ⟨fun z hz => ?_, h⟩
      rcases List.mem_cons.mp hz with e | hz
      · rw [e]; exact hy
      · exact T.swo.tr x y z hy (h1 z hz)
theorem srtB_srt (T : Tot lt) : ∀ l : List α, SrtO.Srtd lt (srtB lt l)
  | [] => List.Pairwise.nil
  | x :: xs => insB_srt T x (srtB_srt T xs)
/-- there is but one -/
theorem srt_uniq (T : Tot lt) : ∀ {l m : List α}, SrtO.Srtd lt l → SrtO.Srtd lt m → l.Perm m → l = m
  | [], m, _, _, p => (List.Perm.eq_nil p.symm).symm
  | x :: l, [], _, _, p => absurd p.length_eq (by simp)
  | x :: l, y :: m, hl, hm, p => by
    obtain ⟨l1, l2⟩ := List.pairwise_cons.mp hl
    obtain ⟨m1, m2⟩ := List.pairwise_cons.mp hm
    have e : x = y := by
      rcases List.mem_cons.mp (p.mem_iff.mp List.mem_cons_self) with e | hx
      · exact e
      · rcases List.mem_cons.mp (p.mem_iff.mpr List.mem_cons_self) with e | hy
        · exact e.symm
        · exact T.eq x y (m1 x hx) (l1 y hy)
    subst e
    rw [srt_uniq T l2 m2 p.cons_inv]
theorem srt_is (T : Tot lt) {l m : List α} (h : SrtO.Srtd lt l) (p : l.Perm m) : l = srtB lt m := srt_uniq T h (srtB_srt T m) (p.trans (srtB_perm m).symm)
end
def ltI (i j : Int) : Bool := decide (i < j)
theorem tot_int : Tot ltI := by
  refine ⟨fun x y h => ?_, fun x y z h1 h2 => ?_, fun x y h1 h2 => ?_⟩
  · have := of_decide_eq_true h
    exact decide_eq_false (by omega)
  · have := of_decide_eq_true h1
    have := of_decide_eq_true h2
    exact decide_eq_true (by omega)
  · have := of_decide_eq_false h1
    have := of_decide_eq_false h2
    omega
theorem tot_pair : Tot SrtO.lexB := by
  refine ⟨fun x y h => ?_, fun x y z h1 h2 => ?_, fun x y h1 h2 => ?_⟩
  · have := SrtO.lexB_iff.mp h
    exact SrtO.lexB_no.mpr (by omega)
  · have := SrtO.lexB_iff.mp h1
    have := SrtO.lexB_iff.mp h2
    exact SrtO.lexB_iff.mpr (by omega)
  · have := SrtO.lexB_no.mp h1
    have := SrtO.lexB_no.mp h2
    obtain ⟨a, b⟩ := x
    obtain ⟨c, d⟩ := y
    simp only at *
    have e1 : a = c := by omega
    have e2 : b = d := by omega
    rw [e1, e2]
def pairD (p : Int × Int) : PyData := .tuple [.int p.1, .int p.2]
def getPs : List PyData → Option (List (Int × Int))
  | [] => some []
  | .tuple [.int i, .int j] :: r => (match getPs r with
    | some ps => some ((i, j) :: ps)
    | none => none)
  | _ :: _ => none
theorem getPs_eq : ∀ {xs : List PyData} {ps : List (Int × Int)}, getPs xs = some ps → xs = ps.map pairD
  | [], _, h => by cases h; rfl
  | x :: xs, ps, h => by
    unfold getPs at h
    split at h
    · rename_i e; cases e
    · rename_i i j r e
      cases e
      split at h
      · rename_i ps' q
        cases h
        rw [getPs_eq q]; rfl
      · cases h
    · cases h
def isTupN : PyData → Bool
  | .tuple (_ :: _) => true
  | _ => false
def noTup : PyData → Bool
  | .tuple _ => false
  | .none => false
  | _ => true
/-- data that can be sorted as they are -/
def srtOk (xs : List PyData) : Bool := (xs.all fun x => xs.all fun y => PySem.W.alike x y) && (xs.all isTupN || xs.all noTup) && xs.all SeqAt.shaped && decide (xs.length ≤ big)
def srtA (xs : List PyData) : List PyData := xs.mergeSort (PySem.W.dataLe false id)
def sortP : PyData → Option PyData
  | .list xs => match getIs xs with
    | some is => some (.list ((srtB ltI is).map .int))
    | none => match getPs xs with
      | some ps => some (.list ((srtB SrtO.lexB ps).map pairD))
      | none => if srtOk xs then some (.list (srtA xs)) else none
  | .tuple xs => if srtOk xs then some (.list (srtA xs)) else none
  | .dict qs => match getIs (qs.map (·.1)) with
    | some is => some (.list ((srtB ltI is).map .int))
    | none => (getPs (qs.map (·.1))).map fun ps => .list ((srtB SrtO.lexB ps).map pairD)
  | _ => none
section
variable {X : Cx} {Z : ClT} {H : Hp} {R : List Root}
/-- the two ints of a pair, as they lie -/
noncomputable def pairAt (h : Heap) (v : Value) : Int × Int := match v with
  | .ref a => (match h.get? a with
    | some o => (match o.data with
      | .seq vs _ => (match vs.toList with
        | [.int i _, .int j _] => (i, j)
        | _ => (0, 0))
      | _ => (0, 0))
    | none => (0, 0))
  | _ => (0, 0)
theorem pair_item {pins : List (Addr × Obj)} {σ : St} {s : Shared} {p : Int × Int} {v : V} {u : Value} {G : Ft} (I : Inv X pins σ H s) (d : Den X.K H (pairD p) v G) (r : RelV v u) : (∃ a, v = .ref a) ∧ pairAt s.heap u = p ∧ Srt.IsPair s.heap u p.1 p.2 := by
  cases d with
  | tup h1 h2 =>
    cases h2 with
    | cons a1 t1 =>
      cases t1 with
      | cons a2 t2 =>
        cases t2
        cases a1
        cases a2
        cases r
        obtain ⟨its, rv, ht, _⟩ := I.tuple (.of h1)
        obtain ⟨u1, u2, rfl, r1, r2⟩ := rv.two
        obtain ⟨t1, rfl⟩ := r1
        obtain ⟨t2, rfl⟩ := r2
        obtain ⟨o, ho, hc, n, hd⟩ := ht
        refine ⟨⟨_, rfl⟩, ?_, ?_⟩
        · unfold pairAt
          simp only [ho, hd]
        · exact ⟨_, o, t1, t2, n, rfl, ho, hc, hd⟩
theorem pairs_items {pins : List (Addr × Obj)} {σ : St} {s : Shared} (I : Inv X pins σ H s) : ∀ {ps : List (Int × Int)} {vs : List V} {us : List Value} {G : Ft}, DenL X.K H (ps.map pairD) vs G → Vals vs us →
    us.map (pairAt s.heap) = ps ∧ (∀ v ∈ vs, ∃ a, v = V.ref a) ∧ ∀ u ∈ us, Srt.IsPair s.heap u (pairAt s.heap u).1 (pairAt s.heap u).2
  | [], _, _, _, h, r => by
    cases h
    cases r
    exact ⟨rfl, (fun _ h => nomatch h), (fun _ h => nomatch h)⟩
  | p :: ps, _, _, _, h, r => by
    cases h with
    | cons h1 h2 =>
      cases r with
      | cons r1 r2 =>
        obtain ⟨q1, q2, q3⟩ := pairs_items I h2 r2
        obtain ⟨p1, p2, p3⟩ := pair_item I h1 r1
        refine ⟨by rw [List.map_cons, q1, p2], fun v hv => ?_, fun u hu => ?_⟩
        · rcases List.mem_cons.mp hv with e | hv
          · rw [e]; exact p1
          · exact q2 v hv
        · rcases List.mem_cons.mp hu with e | hu
          · rw [e, p2]; exact p3
          · exact q3 u hu
theorem kids_perm {m : Nat} {f : Value → PyData} : ∀ us : List Value, kids m (us.map f) (us.map backV) = us.map fun u => ⟨m, .d (f u), backV u⟩
  | [] => rfl
  | u :: us => by
    show _ :: kids m (us.map f) (us.map backV) = _ :: _
    rw [kids_perm us]
theorem DenL.nilApp {K : PySem.W.Frag} {ds : List PyData} {vs : List V} {d : PyData} {v : V} (h : Den K H d v []) (t : DenL K H ds vs []) : DenL K H (d :: ds) (v :: vs) [] := by
  have := DenL.cons h t
  rwa [List.append_nil] at this
theorem den_keyD {K : PySem.W.Frag} (k : Key) : Den K H (keyD k) (kV k) [] := by cases k with
  | inl i => exact .int i
  | inr x => exact .str x
theorem denl_keyD {K : PySem.W.Frag} : ∀ ks : List Key, DenL K H (ks.map keyD) (ks.map kV) []
  | [] => .nil
  | k :: ks => DenL.nilApp (den_keyD k) (denl_keyD ks)
theorem den_keyT {K : PySem.W.Frag} {b : Addr} {k : List Key} (h : H b = some (.tup (k.map kV))) : Den K H (keyT k) (.ref b) [] := .tup (G := []) h (denl_keyD k)
theorem denl_keyT {K : PySem.W.Frag} {kvs : List (List Key × V)} {xs : List (List Key × Addr × Value)} (r : KT H kvs xs) : DenL K H (kvs.map fun p => keyT p.1) (xs.map fun x => V.ref x.2.1) [] := by
  induction r with
  | nil => exact .nil
  | cons h t ih => exact DenL.nilApp (den_keyT h.2.1) ih
theorem Sim.scals {m : Nat} (S : Sim X.K Z H R) : ∀ {ds : List PyData} {vs : List V}, DenL X.K H ds vs [] → Sim X.K Z H (kids m ds vs ++ R)
  | [], _, h => by cases h; exact S
  | d :: ds, _, h => by
    generalize e : ([] : Ft) = G at h
    cases h with
    | cons h1 h2 =>
      obtain ⟨e1, e2⟩ := List.append_eq_nil_iff.mp e.symm
      subst e1
      subst e2
      exact (S.scals h2).scal (.d h1)
theorem vals_xs : ∀ xs : List (List Key × Addr × Value), Vals (xs.map fun x => V.ref x.2.1) (xs.map fun x => Value.ref x.2.1)
  | [] => .nil
  | _ :: r => .cons rfl (vals_xs r)
theorem sort_dT {pins : List (Addr × Obj)} {σ : St} {s : Shared} {a : Addr} {kvs : List (List Key × V)} {ps : List (Int × Int)} {Q : VK} (hc : X.calm = true) (I : Inv X pins σ H s) (S : Sim X.K Z H R) (e : H a = some (.dT kvs)) (ep : kvs.map (fun p => keyT p.1) = ps.map pairD)
    (hq : ∀ v H', Sim X.K Z H' (⟨1, .d (.list ((srtB SrtO.lexB ps).map pairD)), v⟩ :: R) → Q v H') : wpAny (model X.prog X.w) X.A (call (.builtin "sorted") [.ref a]) (EP X pins σ Q) X.xe s := by
  obtain ⟨z, lo, xs, rel, o, es, epo, h1, h2, h3, h4, nd⟩ := (show ObjOk X.prog X.w H s.heap a (.dT kvs) from rd_of I.hok (.inl e))
  have hk : es.toList.map (·.key) = xs.map fun x => Value.ref x.2.1 := by
    rw [h4, List.map_map]; rfl
  have hz : es.size ≤ sizeLine := by
    have l1 : es.toList.length = xs.length := by rw [h4, List.length_map]
    have l2 : kvs.length = xs.length := Paired.length rel
    rw [Array.length_toList] at l1
    omega
  have hd := denl_keyT (K := X.K) rel
  rw [ep] at hd
  obtain ⟨q1, q2, q3⟩ := pairs_items I hd (vals_xs xs)
  obtain ⟨e1, e2⟩ := refs_back (vals_xs xs) q2
  refine SrtO.sorted_dictO (vs := xs.map fun x => Value.ref x.2.1) (SrtO.swo_lex (pairAt s.heap)) lo h2 h3 h1 (I.ok.hd hc) hz hk.symm (fun h2' h₁ tk b ha kk => ?_) fun h0 h' tk d out s1 s2 k0 keep hd' ⟨nn, hn2⟩ => ?_
  · refine SrtO.pairs_sortableO (s := { s with heap := h₁, toks := tk }) (by omega) (fun v hm => (q3 v hm).keeps fun b o e _ => (kk b o e).2) fun o e => ?_
    have e' : some o = some (PyProof.Rows.seqObj "list" (xs.map fun x => Value.ref x.2.1).toArray 0) := e.symm.trans ha
    cases e'
    intro c
    exact absurd (Value.type.inj c) (by decide)
  · have refs : ∀ u ∈ out, ∃ a, u = Value.ref a := fun u hu => e2 u (s2.perm.mem_iff.mp hu)
    have es2 : out.map (pairAt s.heap) = srtB SrtO.lexB ps := by
      refine srt_is tot_pair (List.pairwise_map.mpr s1) ?_
      rw [← q1]
      exact s2.perm.map _
    have el : (out.map backV).length = xs.length := by rw [List.length_map, s2.perm.length_eq, List.length_map]
    have I1 : Inv X pins σ H { s with heap := h0, toks := tk } := I.kept k0
    have hxl : xs.length ≤ sizeLine := by rw [← Paired.length rel]; exact z
    refine ⟨.ref d, upd H d (.lst (out.map backV)), I1.laid (t' := tk) keep hd' ⟨by rw [el]; exact hxl, out, nn, vals_back refs, hn2⟩, rfl, hq _ _ ?_⟩
    have hd0 : H d = none := I1.hok.fresh hd'
    have S2 : Sim X.K Z H (kids 0 (ps.map pairD) (xs.map fun x => V.ref x.2.1) ++ R) := S.scals hd
    refine Sim.mkL (n := 0) (S2.perm (List.Perm.append_right R ?_)) ?_ hd0
    · rw [← es2, List.map_map, kids_perm]
      have ep2 : ps.map pairD = (xs.map fun x => Value.ref x.2.1).map (pairD ∘ pairAt s.heap) := by rw [← q1, List.map_map]
      rw [ep2, e1, kids_perm]
      exact s2.perm.symm.map _
    · rw [← es2]; simp
theorem sort_dK {pins : List (Addr × Obj)} {σ : St} {s : Shared} {a : Addr} {kvs : List (Key × V)} {ks : List Int} {Q : VK} (hcalm : X.calm = true) (I : Inv X pins σ H s) (S : Sim X.K Z H R) (hd : H a = some (.dK kvs)) (hks : kvs.map (fun p => keyD p.1) = ks.map .int)
    (hq : ∀ v H', Sim X.K Z H' (⟨1, .d (.list ((srtB ltI ks).map .int)), v⟩ :: R) → Q v H') : wpAny (model X.prog X.w) X.A (call (.builtin "sorted") [.ref a]) (EP X pins σ Q) X.xe s := by
  obtain ⟨z, lo, vs, rel, dd⟩ := dk_rd I.hok (.inl hd)
  obtain ⟨ep, hat⟩ := dd.dictAt
  have hks' : kvs.map (·.1) = ks.map Sum.inl := by
    refine map_inj (f := keyD) (fun _ _ => keyD_inj) ?_
    rw [List.map_map, List.map_map]
    exact hks
  have hkeys : vs.map (·.1) = ks.map Sum.inl := rel.keys.symm.trans hks'
  have hl : vs.length = ks.length := by
    have e := congrArg List.length hkeys
    rw [List.length_map, List.length_map] at e
    exact e
  have hlk : kvs.length = ks.length := by
    have e := congrArg List.length hks'
    rw [List.length_map, List.length_map] at e
    exact e
  have h16 : vs.length ≤ sizeLine := by omega
  refine Calls.call_function_entry PyProof.Rows.kind_sorted PyProof.Rows.plain_sorted PyProof.Rows.entry_sorted (PyProof.Rows.args_sorted1 _) ?_
  unfold Builtin.«sorted»
  refine wpAny_bind (m := checkCount "sorted" 1 1 _) (wpAny_pure ?_)
  refine wpAny_bind (PySem.W.kdu_collect (A := X.A.in1) (PySem.W.kdl_dict (knd := mixKind X.prog X.w) (kvs := vs) (ep := ep) lo) (I.ok.hd hcalm) hat h16 fun h' tk acc hk hacc => ?_)
  have hal : acc.toList.length = ks.length := by rw [Array.length_toList, hacc.1, hl]
  have hS : PyProof.Rows.IntsAre acc.toList ks := ints_each hal fun j v e => by
    obtain ⟨k, x, e1, e2⟩ := hacc.2 j v (by rw [← Array.getElem?_toList]; exact e)
    have e3 : (vs.map (·.1))[j]? = some k := by rw [List.getElem?_map, e1]; rfl
    rw [hkeys, List.getElem?_map] at e3
    cases e4 : ks[j]? with
    | none => rw [e4] at e3; cases e3
    | some y =>
      rw [e4] at e3
      have e5 : Sum.inl y = k := Option.some.inj e3
      subst e5
      rcases keyIs_shape (show keyIs (Sum.inl y) v = true from e2) with ⟨i, t, ek, ev⟩ | ⟨z, t, ek, ev⟩
      · cases ek
        exact ⟨y, t, rfl, ev⟩
      · cases ek
  have I1 : Inv X pins σ H { s with heap := h', toks := tk } := I.kept hk
  have hvl : acc.toList.length ≤ sizeLine := by rw [hal]; omega
  refine wpAny_bind (wpAny_newList ?_ hvl)
  have hoL : (h'.push (PyProof.Rows.seqObj "list" acc.toList.toArray 0)).get? h'.objs.size = some (PyProof.Rows.seqObj "list" acc.toList.toArray 0) := Heap.get?_push_size _ rfl
  show wpAny _ _ _ _ _ { s with heap := h'.push (PyProof.Rows.seqObj "list" acc.toList.toArray 0), toks := tk }
  refine wpAny_bind (wpAny_holding (wpAny_call_entry PyProof.Rows.slot_list_sort ⟨_, hoL, rfl⟩ PyProof.Rows.entry_list_sort
    (SrtO.list_sort_ord (s := { s with heap := h'.push (PyProof.Rows.seqObj "list" acc.toList.toArray 0), toks := tk }) SrtO.swo_int hoL hvl (fun h2 => SrtO.ints_sortable hS h2) fun out hs hb => ⟨_, rfl, ?_⟩) (PyProof.Rows.args_list_sort _)))
  obtain ⟨g1, g2, g3⟩ := SrtO.ints_out hS hs hb
  obtain ⟨e', he'⟩ := PyProof.Rows.sortedHeap_at (vs := acc.toList) (out := out.toArray) hoL
  have eo : out.map SrtO.iv = srtB ltI ks := srt_is tot_int (g3.imp fun {x y} h => decide_eq_false (by omega)) g2
  have hlen : ((srtB ltI ks).map V.int).length ≤ sizeLine := by
    rw [List.length_map, ← eo, g2.length_eq]
    omega
  have hd0 : H h'.objs.size = none := I1.hok.fresh (Nat.le_refl _)
  refine wpAny_pure ⟨_, rfl, .ref h'.objs.size, upd H h'.objs.size (.lst ((srtB ltI ks).map V.int)), I1.laid (t' := tk) (fun b u e => ?_) (Nat.le_refl _) ⟨hlen, out, e', ?_, he'⟩, rfl, hq _ _ ?_⟩
  · have hlt := Heap.lt_size e
    rw [PyProof.Rows.sortedHeap_old (Nat.ne_of_lt hlt) (by rw [PyProof.Rows.size_push']; exact Nat.lt_succ_of_lt hlt)]
    exact Heap.get?_push_of_some _ e
  · rw [← eo]
    exact vals_of_ints g1
  · exact Sim.mkL (n := 0) (kids_scal 0 S) (by simp) hd0
theorem srtOk_tup {xs : List PyData} (h : xs.all isTupN = true) : ∀ d ∈ xs.map id, ∃ x r, d = .tuple (x :: r) := fun d hd => by
  rw [List.map_id] at hd
  have q := List.all_eq_true.mp h d hd
  unfold isTupN at q
  split at q
  · exact ⟨_, _, rfl⟩
  · cases q
theorem srtOk_no {xs : List PyData} (h : xs.all noTup = true) : ∀ d ∈ xs.map id, d ≠ .none ∧ ∀ ys, d ≠ .tuple ys := fun d hd => by
  rw [List.map_id] at hd
  have q := List.all_eq_true.mp h d hd
  constructor
  · rintro rfl; cases q
  · rintro ys rfl; cases q
/-- frozen roots that are met already, once more -/
theorem Sim.dups (S : Sim X.K Z H R) : ∀ {ds : List PyData} {ws : List V}, ds.length = ws.length → (∀ r ∈ kids 0 ds ws, r ∈ R) → Sim X.K Z H (kids 0 ds ws ++ R)
  | [], ws, _, _ => by cases ws <;> exact S
  | d :: ds, [], h, _ => by simp at h
  | d :: ds, w :: ws, h, hm => by
    have S1 := Sim.dups S (ds := ds) (ws := ws) (by simpa using h) fun r hr => hm r (List.mem_cons_of_mem _ hr)
    exact S1.dup (List.mem_append_right _ (hm _ List.mem_cons_self))
theorem each_kids {R0 : List Root} : ∀ {ds : List PyData} {us : List Value}, PySem.W.EachIs (fun (v : Value) (d : PyData) => ∃ w, RelV w v ∧ (⟨0, .d d, w⟩ : Root) ∈ R0) us ds → ∃ ws : List V, ds.length = ws.length ∧ Vals ws us ∧ ∀ r ∈ kids 0 ds ws, r ∈ R0
  | _, _, .nil => ⟨[], rfl, .nil, fun _ h => nomatch h⟩
  | _, _, .cons ⟨w, h1, h2⟩ t => by
    obtain ⟨ws, q1, q2, q3⟩ := each_kids t
    refine ⟨w :: ws, by simp [q1], .cons h1 q2, fun r hr => ?_⟩
    rcases List.mem_cons.mp hr with e | hr
    · rw [e]; exact h2
    · exact q3 r hr
theorem each_of {R0 : List Root} {α : Type} : ∀ {ds : List PyData} {vs : List V} {us : List Value}, ds.length = vs.length → Vals vs us → (∀ r ∈ kids 0 ds vs, r ∈ R0) → PySem.W.EachIs (fun (v : Value) (d : PyData) => ∃ w, RelV w v ∧ (⟨0, .d d, w⟩ : Root) ∈ R0) us ds
  | [], [], _, _, r, _ => by cases r; exact .nil
  | d :: ds, v :: vs, _, h, r, hm => by
    cases r with
    | cons h1 h2 => exact .cons ⟨v, h1, hm _ List.mem_cons_self⟩ (each_of (α := α) (by simpa using h) h2 fun r hr => hm r (List.mem_cons_of_mem _ hr))
  | [], _ :: _, _, h, _, _ => by simp at h
  | _ :: _, [], _, h, _, _ => by simp at h
theorem sort_any {pins : List (Addr × Obj)} {σ : St} {s : Shared} {v : V} {us : List Value} {xs : List PyData} {n : Nat} {Q : VK} (hu : X.A.units + 70 < cLine) (I : Inv X pins σ H s) (rv : Vals [v] us) (S : Sim X.K Z H R) (m : (⟨n, .d (.list xs), v⟩ : Root) ∈ R) (hn : n ≤ 1) (ok : srtOk xs = true)
    (hq : ∀ v H', Sim X.K Z H' (⟨1, .d (.list (srtA xs)), v⟩ :: R) → Q v H') : wpAny (model X.prog X.w) X.A (call (.builtin "sorted") us) (EP X pins σ Q) X.xe s := by
  unfold srtOk at ok
  simp only [Bool.and_eq_true, Bool.or_eq_true, decide_eq_true_eq] at ok
  obtain ⟨⟨⟨ok1, ok2⟩, ok3⟩, ok4⟩ := ok
  obtain ⟨a, vs, rfl, h1, hl, S2⟩ := S.openL m hn
  obtain ⟨its, rv2, pl, hz⟩ := I.list (.of h1)
  have eu := Vals.ref1 rv
  subst eu
  have e0 : PySem.W.EachIs (fun (v : Value) (d : PyData) => ∃ w, RelV w v ∧ (⟨0, .d d, w⟩ : Root) ∈ kids 0 xs vs ++ R) its xs := each_of (α := Unit) hl rv2 fun r hr => List.mem_append_left _ hr
  have er : PySem.W.EachIs (fun (v : Value) (d : PyData) => ∃ as, Reads s.heap v (id d) as) its xs := (PySem.W.each_mem e0).mono fun u d ⟨⟨w, q1, q2⟩, hd⟩ => by
    have sh := List.all_eq_true.mp ok3 d hd
    exact Dp.reads I d w u (S2.dp q2 sh) q1
  refine PySem.W.sorted_data (enc := id) (bs := xs) (pl.isList) e0 er (fun d hd d' hd' => ?_) ?_ (by rw [sizeLine_eq]; unfold big at ok4; omega) (fun d hd => ?_) fun out hlen eo => ?_
  · rw [List.map_id] at hd hd'
    exact List.all_eq_true.mp (List.all_eq_true.mp ok1 d hd) d' hd'
  · rcases ok2 with q | q
    · exact .inl (srtOk_tup q)
    · exact .inr (srtOk_no q)
  · have := SeqAt.depth_of_shaped (List.all_eq_true.mp ok3 d hd)
    show X.A.units + 2 + d.depth < cLine
    omega
  · obtain ⟨ws, q1, q2, q3⟩ := each_kids eo
    obtain ⟨ep, he'⟩ := PyProof.Rows.sortedAll_at s.heap its out.toArray
    have hlw : ws.length ≤ sizeLine := by
      rw [← q1, List.length_mergeSort, sizeLine_eq]; unfold big at ok4; omega
    have hd0 : H (s.heap.objs.size + 1) = none := I.hok.fresh (Nat.le_succ _)
    refine ⟨.ref _, upd H (s.heap.objs.size + 1) (.lst ws), I.laid (t' := s.toks) (fun _ _ => PyProof.Rows.sortedAll_old) (Nat.le_succ _) ⟨hlw, out, ep, q2, he'⟩, rfl, hq _ _ ?_⟩
    have S3 := Sim.dups S2 q1 q3
    have S4 : Sim X.K Z H (kids 0 (srtA xs) ws ++ R) := S3.sub (List.Sublist.append_left (List.sublist_append_right _ _) _)
    exact Sim.mkL (n := 0) S4 q1 hd0
theorem srtA_ints (is : List Int) : srtA (is.map .int) = (srtB ltI is).map .int := by
  have h1 : (srtA (is.map .int)).Perm (is.map .int) := List.mergeSort_perm _ _
  have le : PySem.W.dataLe false (id : PyData → PyData) = fun a b => !PySem.W.dataLt b a := rfl
  have lei : ∀ i j : Int, PySem.W.dataLe false (id : PyData → PyData) (.int i) (.int j) = decide (i ≤ j) := fun i j => by
    have := congrFun (congrFun (PySem.W.dataLe_int (β := Int) id) i) j
    exact this
  obtain ⟨ks, hk, he⟩ : ∃ ks : List Int, srtA (is.map .int) = ks.map .int ∧ ks.Perm is := by
    have hm : ∀ x ∈ srtA (is.map .int), ∃ i : Int, x = .int i := fun x hx => by
      obtain ⟨i, _, e⟩ := List.mem_map.mp (h1.mem_iff.mp hx)
      exact ⟨i, e.symm⟩
    have key : ∀ l : List PyData, (∀ x ∈ l, ∃ i : Int, x = .int i) → ∃ ks : List Int, l = ks.map .int := by
      intro l
      induction l with
      | nil => intro _; exact ⟨[], rfl⟩
      | cons x l ih =>
        intro h
        obtain ⟨i, rfl⟩ := h x List.mem_cons_self
        obtain ⟨ks, rfl⟩ := ih fun y hy => h y (List.mem_cons_of_mem _ hy)
        exact ⟨i :: ks, rfl⟩
    obtain ⟨ks, hk⟩ := key _ hm
    refine ⟨ks, hk, ?_⟩
    rw [hk] at h1
    have := h1.map (fun x => match x with | .int i => i | _ => (0 : Int))
    simpa [List.map_map, Function.comp_def] using this
  have hs : (srtA (is.map .int)).Pairwise fun a b => PySem.W.dataLe false (id : PyData → PyData) a b = true := by
    have hp : ((is.map (fun i => (i : Int))).mergeSort (fun a b => decide (a ≤ b))).Pairwise fun a b => decide (a ≤ b) = true := List.pairwise_mergeSort (fun a b c h1 h2 => by simp at *; omega) (fun a b => by simp; omega) _
    have e : srtA (is.map .int) = ((is.map fun i => i).mergeSort (fun a b => decide (a ≤ b))).map .int := by
      unfold srtA
      rw [List.map_mergeSort (s := PySem.W.dataLe false (id : PyData → PyData)) (fun a _ b _ => (lei a b).symm)]
      simp
    rw [e]
    exact List.pairwise_map.mpr (hp.imp fun {a b} h => by rw [lei]; exact h)
  rw [hk] at hs ⊢
  have e2 : ks = srtB ltI is := srt_is tot_int ((List.pairwise_map.mp hs).imp fun {a b} h => by
    rw [lei] at h
    have := of_decide_eq_true h
    exact decide_eq_false (by omega)) he
  rw [e2]
theorem sort_tup {pins : List (Addr × Obj)} {σ : St} {s : Shared} {v : V} {us : List Value} {xs : List PyData} {n : Nat} {Q : VK} (hu : X.A.units + 70 < cLine) (I : Inv X pins σ H s) (rv : Vals [v] us) (S : Sim X.K Z H R) (m : (⟨n, .d (.tuple xs), v⟩ : Root) ∈ R) (hn : n ≤ 1) (ok : srtOk xs = true)
    (hq : ∀ v H', Sim X.K Z H' (⟨1, .d (.list (srtA xs)), v⟩ :: R) → Q v H') : wpAny (model X.prog X.w) X.A (call (.builtin "sorted") us) (EP X pins σ Q) X.xe s := by
  unfold srtOk at ok
  simp only [Bool.and_eq_true, Bool.or_eq_true, decide_eq_true_eq] at ok
  obtain ⟨⟨⟨ok1, ok2⟩, ok3⟩, ok4⟩ := ok
  obtain ⟨a, vs, rfl, h1, hl, S2⟩ := S.openT m hn
  obtain ⟨its, rv2, ⟨ob, ho, hc, nn0, hd⟩, hz⟩ := I.tuple h1
  have eu := Vals.ref1 rv
  subst eu
  have hvl : its.length ≤ sizeLine := by rw [← rv2.length]; exact hz
  have e0 : PySem.W.EachIs (fun (v : Value) (d : PyData) => ∃ w, RelV w v ∧ (⟨0, .d d, w⟩ : Root) ∈ kids 0 xs vs ++ R) its xs := each_of (α := Unit) hl rv2 fun r hr => List.mem_append_left _ hr
  have er : PySem.W.EachIs (fun (v : Value) (d : PyData) => ∃ as, Reads s.heap v d as) its xs := (PySem.W.each_mem e0).mono fun u d ⟨⟨w, q1, q2⟩, hd⟩ => by
    have sh := List.all_eq_true.mp ok3 d hd
    exact Dp.reads I d w u (S2.dp q2 sh) q1
  have hal : PySem.W.AllAlike xs := fun d hd d' hd' => List.all_eq_true.mp (List.all_eq_true.mp ok1 d hd) d' hd'
  have hso : PySem.W.Sortable xs := by
    rcases ok2 with q | q
    · exact .inl fun d hd => srtOk_tup q d (by rw [List.map_id]; exact hd)
    · exact .inr fun d hd => srtOk_no q d (by rw [List.map_id]; exact hd)
  refine Calls.call_function_entry PyProof.Rows.kind_sorted PyProof.Rows.plain_sorted PyProof.Rows.entry_sorted (PyProof.Rows.args_sorted1 _) ?_
  unfold Builtin.«sorted»
  refine wpAny_bind (m := checkCount "sorted" 1 1 _) (wpAny_pure ?_)
  refine wpAny_bind (wpAny_collect_seq a (.inr rfl) ho hc hd (fun h' keep => ?_) (by simpa using hvl))
  refine wpAny_bind (wpAny_newList ?_ (by simpa using hvl))
  have el : its.toArray.toList = its := by simp
  rw [el]
  have hoL : (h'.push (PyProof.Rows.seqObj "list" its.toArray 0)).get? h'.objs.size = some (PyProof.Rows.seqObj "list" its.toArray 0) := Heap.get?_push_size _ rfl
  show wpAny _ _ _ _ _ { s with heap := h'.push (PyProof.Rows.seqObj "list" its.toArray 0) }
  have er2 : PySem.W.EachIs (fun (v : Value) (d : PyData) => ∃ as, Reads (PySem.W.sortingHeap (h'.push (PyProof.Rows.seqObj "list" its.toArray 0)) h'.objs.size its) v d as) its xs := er.mono fun _ _ ⟨as, r⟩ => ⟨as, PyProof.Rows.Reads.keeps (fun b o e => by
    have e1 := keep b o e
    exact PySem.W.sortingHeap_old (Nat.ne_of_lt (Heap.lt_size e1)) (Heap.get?_push_of_some _ e1)) r⟩
  have hu2 : ∀ d, d ∈ xs → X.A.in1.in1.units + d.depth < cLine := fun d hd => by
    have := SeqAt.depth_of_shaped (List.all_eq_true.mp ok3 d hd)
    show X.A.units + 2 + d.depth < cLine
    omega
  have ss := PySem.W.SortsAt.data (prog := X.prog) (w := X.w) (A := X.A.in1.in1) (s := { s with heap := PySem.W.sortingHeap (h'.push (PyProof.Rows.seqObj "list" its.toArray 0)) h'.objs.size its }) er2 hal hso hu2
  refine wpAny_bind (wpAny_holding (wpAny_call_entry PyProof.Rows.slot_list_sort ⟨_, hoL, rfl⟩ PyProof.Rows.entry_list_sort (PySem.W.list_sort_vals (s := { s with heap := h'.push (PyProof.Rows.seqObj "list" its.toArray 0) }) hoL ss hvl ⟨_, rfl, ?_⟩) (PyProof.Rows.args_list_sort _)))
  have eo := PySem.W.sortVals_data (h' := PySem.W.sortingHeap (h'.push (PyProof.Rows.seqObj "list" its.toArray 0)) h'.objs.size its) (enc := id) (bs := xs) false e0 er2 (by rw [List.map_id]; exact hal)
  rw [List.map_id] at eo
  obtain ⟨ws, q1, q2, q3⟩ := each_kids eo
  obtain ⟨ep, he'⟩ := PyProof.Rows.sortedHeap_at (vs := its) (out := (PySem.W.sortVals (PySem.W.dataKind (PySem.W.sortingHeap (h'.push (PyProof.Rows.seqObj "list" its.toArray 0)) h'.objs.size its) xs) false its its).toArray) hoL
  have hlw : ws.length ≤ sizeLine := by
    rw [← q1, List.length_mergeSort, sizeLine_eq]; unfold big at ok4; omega
  have I1 : Inv X pins σ H { s with heap := h' } := I.kept (t' := s.toks) keep
  have hd0 : H h'.objs.size = none := I1.hok.fresh (Nat.le_refl _)
  refine wpAny_pure ⟨_, rfl, .ref h'.objs.size, upd H h'.objs.size (.lst ws), I1.laid (t' := s.toks) (fun b u e => ?_) (Nat.le_refl _) ⟨hlw, _, ep, q2, he'⟩, rfl, hq _ _ ?_⟩
  · have hlt := Heap.lt_size e
    rw [PyProof.Rows.sortedHeap_old (Nat.ne_of_lt hlt) (by rw [PyProof.Rows.size_push']; exact Nat.lt_succ_of_lt hlt)]
    exact Heap.get?_push_of_some _ e
  · have S3 := Sim.dups S2 q1 q3
    have S4 : Sim X.K Z H (kids 0 (srtA xs) ws ++ R) := S3.sub (List.Sublist.append_left (List.sublist_append_right _ _) _)
    exact Sim.mkL (n := 0) S4 q1 hd0
theorem cd_sorted (hc : X.calm = true) (hu : X.A.units + 70 < cLine) : CallD X Z (.builtin "sorted") (oneD sortP) 1 1 := cd_one fun pins s σ H v us Q p r R n I rv S m hn hg hq => by
  unfold sortP at hg
  split at hg
  · rename_i xs
    split at hg
    · rename_i is q
      cases hg
      obtain ⟨a, vs, G, rfl, h1, h2⟩ := S.listOf m
      rw [getIs_eq q] at h2
      refine cr_sortedI pins s σ H _ us Q I rv ⟨a, is, rfl, .of (by rw [h1, h2.ints]), fun ns' b pm pw hb => hq _ _ ?_⟩
      have e : ns' = srtB ltI is := srt_is tot_int (pw.imp fun {x y} h => decide_eq_false (by omega)) pm
      rw [← e]
      exact Sim.mkL (n := 0) (kids_scal 0 S) (by simp) hb
    · rename_i q0
      split at hg
      · rename_i ps q
        cases hg
        have ex := getPs_eq q
        subst ex
        obtain ⟨a, vs, rfl, h1, hl, S2⟩ := S.openL m hn
        obtain ⟨a', vs', G, e, h1', h2⟩ := S.listOf m
        cases e
        rw [h1] at h1'
        cases h1'
        obtain ⟨its, rv2, pl, hz⟩ := I.list (.of h1)
        have eu := Vals.ref1 rv
        subst eu
        obtain ⟨q1, q2, q3⟩ := pairs_items I h2 rv2
        obtain ⟨e1, e2⟩ := refs_back rv2 q2
        refine SrtO.sorted_pairsO (k := pairAt s.heap) pl.isList (by rw [← rv2.length]; exact hz) q3 fun h' d out s1 s2 keep hd ⟨nn, hn2⟩ => ?_
        have refs : ∀ u ∈ out, ∃ a, u = Value.ref a := fun u hu => e2 u (s2.perm.mem_iff.mp hu)
        have es : out.map (pairAt s.heap) = srtB SrtO.lexB ps := by
          refine srt_is tot_pair (List.pairwise_map.mpr s1) ?_
          rw [← q1]
          exact s2.perm.map _
        have el : (out.map backV).length = vs.length := by rw [e1, List.length_map, List.length_map, s2.perm.length_eq]
        refine ⟨.ref d, upd H d (.lst (out.map backV)), I.laid (t' := s.toks) keep hd ⟨by rw [el]; exact hz, out, nn, vals_back refs, hn2⟩, rfl, hq _ _ ?_⟩
        have hd0 : H d = none := I.hok.fresh hd
        refine Sim.mkL (n := 0) (S2.perm (List.Perm.append_right R ?_)) ?_ hd0
        · rw [← es, List.map_map, kids_perm]
          have ep : ps.map pairD = its.map (pairD ∘ pairAt s.heap) := by rw [← q1, List.map_map]
          rw [ep, e1, kids_perm]
          exact s2.perm.symm.map _
        · rw [← es]; simp
      · split at hg
        · cases hg
          exact sort_any hu I rv S m hn (by assumption) hq
        · cases hg
  · split at hg
    · cases hg
      exact sort_tup hu I rv S m hn (by assumption) hq
    · cases hg
  · rename_i qs
    obtain ⟨a, vs, rfl, h1, hl⟩ := S.seeD m
    have eu := Vals.ref1 rv
    subst eu
    split at hg
    · rename_i is q
      cases hg
      have ei := getIs_eq q
      rcases h1 with ⟨kvs, g1, g2, g3⟩ | ⟨kvs, g1, g2, g3⟩
      · exact sort_dK hc I S g1 (g2.symm.trans ei) hq
      · have e0 : kvs = [] ∧ is = [] := by
          have e2 := g2.symm.trans ei
          cases kvs with
          | nil => cases is with
            | nil => exact ⟨rfl, rfl⟩
            | cons i is => simp at e2
          | cons k kvs => cases is with
            | nil => simp at e2
            | cons i is => simp at e2
        obtain ⟨rfl, rfl⟩ := e0
        exact sort_dT (ps := []) hc I S g1 rfl hq
    · rename_i q0
      cases q : getPs (qs.map (·.1)) with
      | none => rw [q] at hg; cases hg
      | some ps =>
        rw [q] at hg
        cases hg
        have ep := getPs_eq q
        rcases h1 with ⟨kvs, g1, g2, g3⟩ | ⟨kvs, g1, g2, g3⟩
        · have e0 : kvs = [] ∧ ps = [] := by
            have e2 := g2.symm.trans ep
            cases kvs with
            | nil => cases ps with
              | nil => exact ⟨rfl, rfl⟩
              | cons i is => simp at e2
            | cons k kvs => cases ps with
              | nil => simp at e2
              | cons i is =>
                simp only [List.map_cons, List.cons.injEq] at e2
                have e3 := e2.1
                cases k with
                | mk k v => cases k <;> simp [keyD, pairD] at e3
          obtain ⟨rfl, rfl⟩ := e0
          exact sort_dK (ks := []) hc I S g1 rfl hq
        · exact sort_dT hc I S g1 (g2.symm.trans ep) hq
  · cases hg
end
end Lk
namespace Lk
open PySem PySem.Spec L2
section
variable {X : Cx} {Z : ClT} {W : WX} {P : List (Nat × Nat)} {kr : Nat} {φ φ1 φ2 φ3 φ' : List Nat} {ψ ψ1 ψ2 : SF} {t ta tb tc to : Tm} {ts ts2 : List Tm} {fa fb fc fo : M DV} {f f2 : M (List DV)} {g1 g2 : M Fl} {a b c e o tg : Expr} {es : List Expr} {st : Stmt} {sts : List Stmt} {pos pos' p px ap : Pos} {x : Str} {k n m cap j : Nat} {ps : List Str} {ms : List Md} {F : List DV → Res}
theorem gv (i : Nat) (hN : X.N[i]? = some x := by rfl) (hv : Vis X.env.scope x := by first | exact Or.inl rfl | exact Or.inr (Or.inl rfl) | exact Or.inr (Or.inr rfl)) (hd : (x == ("__debug__" : Str)) = false := by decide) (hcd : (x == ("__classdict__" : Str)) = false := by decide) : JE X Z W φ (.Name x pos) φ (.sl i) (slotM i) := je_var hN hv hd hcd
theorem ge (i : Nat) (hN : X.N[i]? = some x := by rfl) (hv : Vis X.env.scope x := by first | exact Or.inl rfl | exact Or.inr (Or.inl rfl) | exact Or.inr (Or.inr rfl)) (hd : (x == ("__debug__" : Str)) = false := by decide) (hcd : (x == ("__classdict__" : Str)) = false := by decide) : JE X Z W φ (.Name x pos) (φ.modify i (min 0)) (.v 0) (slotM i) := je_varE hN hv hd hcd
theorem gi {i : Int} {q : Nat} : JE X Z W φ (.Constant (.int i) q pos) φ (.v 9) (M.pure (.d (.int i))) := je_const pe_int fun _ => .d (.int i)
theorem gs {i : Str} {q : Nat} : JE X Z W φ (.Constant (.str i) q pos) φ (.v 9) (M.pure (.d (.str i))) := je_const pe_str fun _ => .d (.str i)
theorem gb {i : Bool} {q : Nat} : JE X Z W φ (.Constant (.bool i) q pos) φ (.v 9) (M.pure (.d (.bool i))) := je_const pe_bl fun _ => .d (.bl i)
theorem gn {q : Nat} : JE X Z W φ (.Constant .none q pos) φ (.v 9) (M.pure (.d .none)) := je_const pe_non fun _ => .d .non
theorem gGi {i : Int} {u : Tok} (hm : X.mg x = some (.int i u)) (hg : Gl X x := by rfl) (hd : (x == ("__debug__" : Str)) = false := by decide) : JE X Z W φ (.Name x pos) φ (.v 9) (M.pure (.d (.int i))) := je_const (pe_glob (v := .int i) hg hm ⟨_, rfl⟩ hd) fun _ => .d (.int i)
theorem gGs {i : Str} {u : Tok} (hm : X.mg x = some (.str i u)) (hg : Gl X x := by rfl) (hd : (x == ("__debug__" : Str)) = false := by decide) : JE X Z W φ (.Name x pos) φ (.v 9) (M.pure (.d (.str i))) := je_const (pe_glob (v := .str i) hg hm ⟨_, rfl⟩ hd) fun _ => .d (.str i)
theorem gDict0 : JE X Z W φ (.Dict [] [] pos) φ (.v 9) (M.pure (.d (.dict []))) := pe_imp pe_dnewK fun σ H Q ⟨L, env, S, h⟩ => fun p hp => h _ _ ⟨S.sim.mkD (n := 8) hp, S.al, fun x hx => by
  rw [List.mem_singleton.mp hx]; trivial⟩
def negP : PyData → Option PyData
  | .int i => some (.int (-i))
  | _ => none
def un1 (g : DV → Option DV) (ta : Tm) (fa : M DV) : M DV := fun env => (fa env).bind fun d e => .ofO ((ta.now d e).bind g) e
theorem gNeg (ha : JE X Z W φ a φ1 ta fa) : JE X Z W φ (.UnaryOp .USub a pos) φ1 (.v 9) (un1 (lift1 negP) ta fa) := by
  refine pe_imp (pe_un un_neg ha) fun σ H Q ⟨L, env, S, h⟩ => ?_
  refine rdE.go S (h.bind.mono fun d e1 h1 v H1 S1 => ?_)
  obtain ⟨r, q, h2⟩ := h1.ofO
  obtain ⟨y, q1, q2⟩ := Option.bind_eq_some_iff.mp q
  cases y with
  | d y =>
    cases y with
    | int i =>
      cases q2
      exact ⟨i, S1.isI (h := ⟨ta, d, v⟩) List.mem_cons_self q1, h2 _ _ ⟨S1.free.sim.cint, S1.al, fun z hz => by rw [List.mem_singleton.mp hz]; trivial⟩⟩
    | _ => cases q2
  | _ => cases q2
theorem gCmp {op : CmpOp} {g : DV → DV → Option DV} (ho : OpD X Z (compareOp op) g cap k) (ha : JE X Z W φ a φ1 ta fa) (hb : JE X Z W φ1 b φ2 tb fb) (hm : behindInMarks op b = false := by rfl) :
    JE X Z W φ (.Compare a [op] [b] pos) (cap2 cap ta tb φ2) (.v k) (op2 g ta tb fa fb) := je_cmp ho hm ha hb
theorem gCmpT {op : CmpOp} {g : DV → DV → Option DV} (ho : OpD X Z (compareOp op) g cap k) (ha : JE X Z W φ a φ1 ta fa) (hb : JE X Z W φ1 b φ2 tb fb) (hm : behindInMarks op b = false := by rfl) :
    JT X Z W φ (.Compare a [op] [b] pos) (cap2 cap ta tb φ2) (asB (.v k) (op2 g ta tb fa fb)) := jt_cmp ho hm ha hb
theorem gChain {op op' : CmpOp} {g g' : DV → DV → Option DV} {k' : Nat} (ho : OpD X Z (compareOp op) g 9 k) (ho' : OpD X Z (compareOp op') g' 9 k') (ha : JE X Z W φ a φ1 ta fa) (hb : JE X Z W φ1 b φ2 tb fb) (hc : JE X Z W (cap2 9 ta tb φ2) c φ3 tc fc)
    (hm : lastMarks [op, op'] [b, c] = false := by rfl) (hl : leN φ' (cap2 9 ta tb φ2) = true := by rfl) (hl3 : leN φ' (cap2 9 tb tc φ3) = true := by rfl) : JE X Z W φ (.Compare a [op, op'] [b, c] pos) φ' (.v 9) (chM g g' ta tb tc fa fb fc) := je_chain ho ho' hm ha hb hc hl hl3
theorem gChainT {op op' : CmpOp} {g g' : DV → DV → Option DV} {k' : Nat} (ho : OpD X Z (compareOp op) g 9 k) (ho' : OpD X Z (compareOp op') g' 9 k') (ha : JE X Z W φ a φ1 ta fa) (hb : JE X Z W φ1 b φ2 tb fb) (hc : JE X Z W (cap2 9 ta tb φ2) c φ3 tc fc)
    (hm : lastMarks [op, op'] [b, c] = false := by rfl) (hl : leN φ' (cap2 9 ta tb φ2) = true := by rfl) (hl3 : leN φ' (cap2 9 tb tc φ3) = true := by rfl) : JT X Z W φ (.Compare a [op, op'] [b, c] pos) φ' (asB (.v 9) (chM g g' ta tb tc fa fb fc)) := jt_chain ho ho' hm ha hb hc hl hl3
theorem gTru (ha : JE X Z W φ a φ1 ta fa) (hp : plainTest a = true := by rfl) : JT X Z W φ a φ1 (truM ta fa) := jt_truth ha hp
theorem gAnd {f g : M Bool} {rest : List Expr} (ha : JT X Z W φ a φ1 f) (hb : JW X Z W φ1 (.BoolOp .And (b :: rest) pos) φ2 g) (hl : leN φ2 φ1 = true := by rfl) : JW X Z W φ (.BoolOp .And (a :: b :: rest) pos) φ2 (andM f g) := jw_and ha hb hl
theorem gOr {f g : M Bool} {rest : List Expr} (ha : JT X Z W φ a φ1 f) (hb : JW X Z W φ1 (.BoolOp .Or (b :: rest) pos) φ2 g) (hl : leN φ2 φ1 = true := by rfl) : JW X Z W φ (.BoolOp .Or (a :: b :: rest) pos) φ2 (orM f g) := jw_or ha hb hl
theorem gAndV {rest : List Expr} {k : Nat} (ha : JE X Z W φ a φ1 ta fa) (hb : JE X Z W φ1 (.BoolOp .And (b :: rest) pos) φ2 (.v k) fb) (hl : leN φ2 φ1 = true := by rfl) : JE X Z W φ (.BoolOp .And (a :: b :: rest) pos) φ2 (.v k) (andV ta fa fb) := je_and ha hb hl
theorem gOrV {rest : List Expr} {k : Nat} (ha : JE X Z W φ a φ1 ta fa) (hb : JE X Z W φ1 (.BoolOp .Or (b :: rest) pos) φ2 (.v k) fb) (hl : leN φ2 φ1 = true := by rfl) : JE X Z W φ (.BoolOp .Or (a :: b :: rest) pos) φ2 (.v k) (orV ta fa fb) := je_or ha hb hl
theorem gIf {ft : M Bool} {ka kb : Nat} (φ' : List Nat) (k : Nat) (hc : JT X Z W φ c φ1 ft) (ha : JE X Z W φ1 a φ2 (.v ka) fa) (hb : JE X Z W φ1 b φ3 (.v kb) fb) (h2 : leN φ' φ2 = true := by rfl) (h3 : leN φ' φ3 = true := by rfl) (k2 : k ≤ ka := by decide) (k3 : k ≤ kb := by decide) :
    JE X Z W φ (.IfExp c a b pos) φ' (.v k) (ifM ft fa fb) := je_if hc ha hb h2 h3 k2 k3
theorem gCons (ha : JE X Z W φ a φ1 t fa) (h : JA X Z W φ1 es φ2 ts f) (hs : noStar a = true := by rfl) : JA X Z W φ (a :: es) φ2 (t :: ts) (consM fa f) := ja_cons hs ha h
theorem gLst (m : Nat) (ha : JA X Z W φ es φ' ts f) (hm : allV m ts = true := by rfl) : JE X Z W φ (.List es pos) φ' (.v (m + 1)) (dispM .list f) := je_lst ha hm
theorem gTup (m : Nat) (ha : JA X Z W φ es φ' ts f) (hm : allV m ts = true := by rfl) : JE X Z W φ (.Tuple es n pos) φ' (.v (m + 1)) (dispM .tuple f) := je_tup ha hm
theorem gCallB {id : String} {g : List DV → Option DV} (hc : CallD X Z (.builtin id) g cap k) (hm : X.mg x = none) (ha : JA X Z W φ (a :: es) φ2 ts f) (hg : Gl X x := by rfl) (hv : bootBuiltins x = some (.builtin id) := by rfl) (hn : x ≠ "__name__" := by decide) (hdb : (x == ("__debug__" : Str)) = false := by decide)
    (hs : noStar a = true := by rfl) (hpl : es.all noStar = true := by rfl) : JE X Z W φ (.Call (.Name x p) (a :: es) [] pos) (capS cap (slotsOf ts) φ2) (.v k) (callM g ts f) := je_callB hc hg hm hv hn hdb hs hpl ha
theorem gCallT {T : String} {g : List DV → Option DV} (hc : CallD X Z (.type T) g cap k) (hm : X.mg x = none) (ha : JA X Z W φ (a :: es) φ2 ts f) (hg : Gl X x := by rfl) (hv : bootBuiltins x = some (.type T) := by rfl) (hn : x ≠ "__name__" := by decide) (hdb : (x == ("__debug__" : Str)) = false := by decide)
    (hs : noStar a = true := by rfl) (hpl : es.all noStar = true := by rfl) : JE X Z W φ (.Call (.Name x p) (a :: es) [] pos) (capS cap (slotsOf ts) φ2) (.v k) (callM g ts f) := je_callTy hc hg hm hv hn hdb hs hpl ha
theorem gCall {k0 : Nat} (G : Has X.prog X.w X.K X.mg X.base j x ps Z ms kr F) (hr : Room k0 X.A) (hgd : X.A.guards = some []) (tk : Takes X W) (ha : JA X Z W φ (a :: es) φ2 ts f) (hj : j ≤ k0 := by decide) (hg : Gl X x := by rfl)
    (hdb : (x == ("__debug__" : Str)) = false := by decide) (hs : noStar a = true := by rfl) (hpl : es.all noStar = true := by rfl) (hf : fitM ms ts φ2 = true := by rfl) : JE X Z W φ (.Call (.Name x p) (a :: es) [] pos) (flM ms ts φ2) (.v kr) (callF F ms ts f) := je_callH G hj hr hgd hg tk hdb hs hpl ha hf
theorem gIx {g : DV → DV → Option DV} (ho : OpIx X Z g cap k) (ha : JE X Z W φ a φ1 ta fa) (hb : JE X Z W φ1 b φ2 tb fb) (hs : noSlice b = true := by rfl) : JE X Z W φ (.Subscript a b pos) (cap2 cap ta tb φ2) (.v k) (op2 g ta tb fa fb) := je_ix ho ha hb hs
theorem gStore {ei : Expr} {ti : Tm} {fv fi : M DV} {pos2 : Pos} (j n : Nat) (hu : X.A.units + 64 < cLine) (he : JE X Z W φ e φ1 (.v k) fv) (hi : JE X Z W φ1 ei φ2 ti fi) (hn : φ2[j]? = some (n + 1) := by rfl) (hN : X.N[j]? = some x := by rfl) (hv : Vis X.env.scope x := by first | exact Or.inl rfl | exact Or.inr (Or.inl rfl) | exact Or.inr (Or.inr rfl))
    (hdb : (x == ("__debug__" : Str)) = false := by decide) (hcd : (x == ("__classdict__" : Str)) = false := by decide)
    (hs : swapsWithSole [.Subscript (.Name x px) ei pos2] e pos.line X.env = pure false := by rfl) (hw : swappedStores [.Subscript (.Name x px) ei pos2] e X.env = pure none := by rfl) (h1 : (assignEach [.Subscript (.Name x px) ei pos2] X.env).map (·.2) = [assign (.Subscript (.Name x px) ei pos2) X.env] := by rfl)
    (hsu : ∀ v, assign (.Subscript (.Name x px) ei pos2) X.env v = (do
      let ov ← holding [v] (eval (.Name x px) X.env)
      let iv ← holding [v, ov] (eval ei X.env)
      standAt pos2
      holding [v, ov, iv] (setItem ov iv v)
      release [v, ov, iv] []) := by intro _; rfl) (hψ : ψ.n = φ2.set j (min n k + 1) := by rfl) :
    JS X Z W P kr φ (.Assign [.Subscript (.Name x px) ei pos2] e pos) ψ (stM j fv ti fi) := js_store (m := min n k) hu hN hv hdb hcd he hi hn rfl hs hw h1 hsu hψ
theorem gSet (i : Nat) (hN : X.N.Nodup) (he : JE X Z W φ e φ1 (.v k) fa) (hi : X.N[i]? = some x := by rfl) (hx : Loc X.env.scope x := by first | exact Or.inl rfl | exact Or.inr rfl) (hf : X.fn x = true ∨ X.env.scope.names.lookup x = some .local := by exact Or.inl rfl)
    (hs : swapsWith e (some (.Name x pos')) pos.line X.env = pure false := by rfl) (hP : P.all (fun p => p.1 != i) = true := by rfl) (hn : ψ.n = φ1.set i k := by rfl) : JS X Z W P kr φ (.Assign [.Name x pos'] e pos) ψ (setM i fa) := js_set hN hi hx hf hs he hP hn
theorem gRet (he : JE X Z W φ e φ1 (.v k) fa) (hk : kr ≤ k := by decide) (hr : retOk P φ1 = true := by rfl) (hd : (P.map (·.1)).Nodup := by decide) : JS X Z W P kr φ (.Return (some e) pos) ψ (retM P fa) := js_ret he hk hr hd
theorem gRetV (i n : Nat) (hφ : φ[i]? = some n := by rfl) (hN : X.N[i]? = some x := by rfl) (hv : Vis X.env.scope x := by first | exact Or.inl rfl | exact Or.inr (Or.inl rfl) | exact Or.inr (Or.inr rfl)) (hdb : (x == ("__debug__" : Str)) = false := by decide) (hcd : (x == ("__classdict__" : Str)) = false := by decide)
    (hk : kr ≤ n := by decide) (hr : retOk P φ = true := by rfl) (hd : (P.map (·.1)).Nodup := by decide) (hP : P.all (fun p => p.1 != i) = true := by rfl) : JS X Z W P kr φ (.Return (some (.Name x p)) pos) ψ (retM P (slotM i)) := js_retV hN hv hdb hcd hφ hk hr hd hP
theorem gRetN (hr : retOk P φ = true := by rfl) (hd : (P.map (·.1)).Nodup := by decide) : JS X Z W P kr φ (.Return none pos) ψ (retM P (M.pure (.d .none))) := js_retN hr hd
theorem gSeq {ψ : SF} (ψ1 : SF) (h1 : JS X Z W P kr φ st ψ1 g1) (h2 : JSs X Z W P kr ψ1.n sts ψ g2) (hb : leN ψ.b ψ1.b = true := by rfl) (hc : leN ψ.c ψ1.c = true := by rfl) : JSs X Z W P kr φ (st :: sts) ψ (seqM g1 g2) := jss_cons h1 h2 hb hc
theorem gNil (hn : ψ.n = φ := by rfl) : JSs X Z W P kr φ [] ψ nxM := jss_nil hn
theorem gIfS {s1 s2 : List Stmt} {ft : M Bool} (hc : JT X Z W φ c φ1 ft) (h1 : JSs X Z W P kr φ1 s1 ψ1 g1) (h2 : JSs X Z W P kr φ1 s2 ψ2 g2) (l1 : leF ψ ψ1 = true := by rfl) (l2 : leF ψ ψ2 = true := by rfl) : JS X Z W P kr φ (.If c s1 s2 pos) ψ (ifS ft g1 g2) := js_if hc h1 h2 l1 l2
theorem gExpr (he : JE X Z W φ e φ1 t fa) (hs : swapsWith e none pos.line X.env = pure false := by rfl) (hn : ψ.n = φ1 := by rfl) : JS X Z W P kr φ (.Expr e pos) ψ (dropM fa) := js_expr he hs hn

theorem gIsi {T : String} {xt : Str} {pt : Pos} (hm : X.mg x = none) (mt : X.mg xt = none) (ha : JE X Z W φ a φ1 ta fa) (hT : tyOk T = true := by decide) (hg : Gl X x := by rfl) (hv : bootBuiltins x = some (.builtin "isinstance") := by rfl) (hn : x ≠ "__name__" := by decide) (hdb : (x == ("__debug__" : Str)) = false := by decide)
    (gt : Gl X xt := by rfl) (bt : bootBuiltins xt = some (.type T) := by rfl) (nt : xt ≠ "__name__" := by decide) (dt : (xt == ("__debug__" : Str)) = false := by decide) (hs : noStar a = true := by rfl) :
    JE X Z W φ (.Call (.Name x p) [a, .Name xt pt] [] pos) φ1 (.v 9) (isiM T ta fa) := je_isi hT hg hm hv hn hdb gt mt bt nt dt hs ha
theorem gListRg1 {xr : Str} {pr pos2 : Pos} (hm : X.mg x = none) (mr : X.mg xr = none) (ha : JE X Z W φ a φ1 ta fa) (hc : X.calm = true := by rfl) (ex : x = "list" := by rfl) (er : xr = "range" := by rfl) (hg : Gl X x := by rfl) (gr : Gl X xr := by rfl) (hs : noStar a = true := by rfl) :
    JE X Z W φ (.Call (.Name x p) [.Call (.Name xr pr) [a] [] pos2] [] pos) φ1 (.v 9) (rg1M ta fa) := je_listRg1 hc ex er hg hm gr mr hs ha
theorem gListRg2 {xr : Str} {pr pos2 : Pos} (hm : X.mg x = none) (mr : X.mg xr = none) (ha : JE X Z W φ a φ1 ta fa) (hb : JE X Z W φ1 b φ2 tb fb) (hc : X.calm = true := by rfl) (ex : x = "list" := by rfl) (er : xr = "range" := by rfl) (hg : Gl X x := by rfl) (gr : Gl X xr := by rfl) (hs : noStar a = true := by rfl) (hs2 : noStar b = true := by rfl) :
    JE X Z W φ (.Call (.Name x p) [.Call (.Name xr pr) [a, b] [] pos2] [] pos) φ2 (.v 9) (rg2M ta tb fa fb) := je_listRg2 hc ex er hg hm gr mr hs hs2 ha hb
theorem gSlice {lo hi : Option Expr} {fl fh : M (Option Int)} {p2 : Pos} (ha : JE X Z W φ a φ1 ta fa) (hl : JO X Z W φ1 lo φ2 fl) (hh : JO X Z W φ2 hi φ3 fh) : JE X Z W φ (.Subscript a (.Slice lo hi none p2) pos) (capS 1 (slotsOf [ta]) φ3) (.v 1) (slM ta fa fl fh) := je_slice ha hl hh
theorem gRange1 (hm : X.mg x = none) (ha : JE X Z W φ a φ1 ta fa) (ex : x = "range" := by rfl) (hg : Gl X x := by rfl) (hs : noStar a = true := by rfl) : JI X Z W φ tg (.Call (.Name x p) [a] [] pos) φ1 (rg1I ta fa) := ji_range1 ex hg hm hs ha
theorem gRange2 (hm : X.mg x = none) (ha : JE X Z W φ a φ1 ta fa) (hb : JE X Z W φ1 b φ2 tb fb) (ex : x = "range" := by rfl) (hg : Gl X x := by rfl) (hs : noStar a = true := by rfl) (hs2 : noStar b = true := by rfl) : JI X Z W φ tg (.Call (.Name x p) [a, b] [] pos) φ2 (rg2I ta tb fa fb) := ji_range2 ex hg hm hs hs2 ha hb
theorem gEnum {tpos : Pos} (hm : X.mg x = none) (ha : JE X Z W φ a φ1 (.v k) fa) (ex : x = "enumerate" := by rfl) (hg : Gl X x := by rfl) (hs : noStar a = true := by rfl) : JI X Z W φ (.Tuple es n tpos) (.Call (.Name x p) [a] [] pos) φ1 (fun env => (fa env).bind fun d e => .ofO (enumD d) e) := ji_enum ex hg hm hs ha
theorem gZip {ka kb : Nat} {tpos : Pos} (hm : X.mg x = none) (ha : JE X Z W φ a φ1 (.v ka) fa) (hb : JE X Z W φ1 b φ2 (.v kb) fb) (ex : x = "zip" := by rfl) (hg : Gl X x := by rfl) (hs : noStar a = true := by rfl) (hs2 : noStar b = true := by rfl) : JI X Z W φ (.Tuple es n tpos) (.Call (.Name x p) [a, b] [] pos) φ2 (zipI fa fb) := ji_zip ex hg hm hs hs2 ha hb
theorem gTgN (i : Nat) (hN : X.N.Nodup) (hi : X.N[i]? = some x := by rfl) (hx : Loc X.env.scope x := by first | exact Or.inl rfl | exact Or.inr rfl) (hf : X.fn x = true ∨ X.env.scope.names.lookup x = some .local := by first | exact Or.inl rfl | exact Or.inr rfl) : JG X Z (.Name x pos) (.nm i) := jg_name hN hi hx hf
theorem gN1 (i : Nat) {is : List Nat} (hN : X.N.Nodup) (h : PGs X es (gNames is)) (hi : X.N[i]? = some x := by rfl) (hx : Loc X.env.scope x := by first | exact Or.inl rfl | exact Or.inr rfl) (hf : X.fn x = true ∨ X.env.scope.names.lookup x = some .local := by first | exact Or.inl rfl | exact Or.inr rfl) : PGs X (.Name x pos :: es) (gNames (i :: is)) := pgs_n1 hN hi hx hf h
theorem gTgT {is : List Nat} (h : PGs X es (gNames is)) (hc : X.calm = true := by rfl) (hl : tgLen es = true := by rfl) (hn : es.length = is.length := by rfl) : JG X Z (.Tuple es n pos) (.tp is) := jg_tup hc hl hn h
theorem gAsg {T : Tgt} (he : JE X Z W φ e φ1 (.v k) fa) (hg : JG X Z tg T) (hs : swapsWithSole [tg] e pos.line X.env = pure false := by rfl) (hw : swappedStores [tg] e X.env = pure none := by rfl) (h1 : (assignEach [tg] X.env).map (·.2) = [assign tg X.env] := by rfl)
    (hP : tgFree P T = true := by rfl) (hn : ψ.n = tgF T (min 1 k) φ1 := by rfl) : JS X Z W P kr φ (.Assign [tg] e pos) ψ (asgM T fa) := js_asg he hg hs hw h1 hP hn
theorem gWhile {ft : M Bool} (φL : List Nat) (ψ1 : SF) (hp : PassesOwn (model X.prog X.w) X.A X.env X.xe) (hc : JT X Z W φL c φ1 ft) (hb : JSs X Z W P kr φ1 sts ψ1 g1) (l0 : leN φL φ = true := by rfl) (l1 : leN φL ψ1.n = true := by rfl) (l2 : leN φL ψ1.c = true := by rfl) (l3 : leN ψ.n φ1 = true := by rfl) (l4 : leN ψ.n ψ1.b = true := by rfl) :
    JS X Z W P kr φ (.While c sts [] pos) ψ (whileM ft g1 big) := js_while (φB := []) hp hc hb l0 l1 l2 l3 l4
theorem gFor {T : Tgt} {it : Expr} {fi : M (List DV)} (φL : List Nat) (ψ1 : SF) (hp : PassesOwn (model X.prog X.w) X.A X.env X.xe) (hi : JI X Z W φ tg it φ1 fi) (hg : JG X Z tg T) (hb : JSs X Z W P kr (tgF T 0 φL) sts ψ1 g1) (hc : X.calm = true := by rfl) (hs : ∀ x, foldedSetIterable it X.env x = pure x := by intro _; rfl)
    (hP : tgFree P T = true := by rfl) (l0 : leN φL φ1 = true := by rfl) (l1 : leN φL ψ1.n = true := by rfl) (l2 : leN φL ψ1.c = true := by rfl) (l3 : leN ψ.n φL = true := by rfl) (l4 : leN ψ.n ψ1.b = true := by rfl) :
    JS X Z W P kr φ (.For tg it sts [] pos) ψ (forS T fi g1) := js_for hp hc hi hg hb hs hP l0 l1 l2 l3 l4
theorem gPar {k1 k2 : Nat} {y : Str} {py pt : Pos} {kt q2 pt2} (i j : Nat) (hN : X.N.Nodup) (ha : JA X Z W φ [a, b] φ1 [.v k1, .v k2] f) (hc : X.calm = true := by rfl) (hi : X.N[i]? = some x := by rfl) (hj : X.N[j]? = some y := by rfl) (hij : i ≠ j := by decide)
    (hx : X.env.scope.names.lookup x = some .local := by rfl) (hy : X.env.scope.names.lookup y = some .local := by rfl)
    (hw : swappedStores [.Tuple [.Name x px, .Name y py] kt pt] (.Tuple [a, b] q2 pt2) X.env = pure (some [x, y]) := by rfl)
    (hs : swapsWithSole [.Tuple [.Name x px, .Name y py] kt pt] (.Tuple [a, b] q2 pt2) pos.line X.env = pure false := by rfl)
    (hP : (P.all fun p => p.1 != i && p.1 != j) = true := by rfl) (hψ : ψ.n = (φ1.set i k1).set j k2 := by rfl) :
    JS X Z W P kr φ (.Assign [.Tuple [.Name x px, .Name y py] kt pt] (.Tuple [a, b] q2 pt2) pos) ψ (parM i j f) := js_par hc hN hi hj hij hx hy ha hw hs hP hψ
theorem gPar3 {k1 k2 k3 : Nat} {y z : Str} {py pz pt : Pos} {kt q2 pt2} (i j l : Nat) (hN : X.N.Nodup) (ha : JA X Z W φ [a, b, c] φ1 [.v k1, .v k2, .v k3] f) (hc : X.calm = true := by rfl) (hi : X.N[i]? = some x := by rfl) (hj : X.N[j]? = some y := by rfl) (hl : X.N[l]? = some z := by rfl) (hij : i ≠ j := by decide) (hil : i ≠ l := by decide) (hjl : j ≠ l := by decide)
    (hx : X.env.scope.names.lookup x = some .local := by rfl) (hy : X.env.scope.names.lookup y = some .local := by rfl) (hz : X.env.scope.names.lookup z = some .local := by rfl)
    (hw : swappedStores [.Tuple [.Name x px, .Name y py, .Name z pz] kt pt] (.Tuple [a, b, c] q2 pt2) X.env = pure (some [x, y, z]) := by rfl)
    (hs : swapsWithSole [.Tuple [.Name x px, .Name y py, .Name z pz] kt pt] (.Tuple [a, b, c] q2 pt2) pos.line X.env = pure false := by rfl)
    (hP1 : (P.all fun p => p.1 != i) = true := by rfl) (hP2 : (P.all fun p => p.1 != j) = true := by rfl) (hP3 : (P.all fun p => p.1 != l) = true := by rfl) (hψ : ψ.n = ((φ1.set i k1).set j k2).set l k3 := by rfl) :
    JS X Z W P kr φ (.Assign [.Tuple [.Name x px, .Name y py, .Name z pz] kt pt] (.Tuple [a, b, c] q2 pt2) pos) ψ (par3M i j l f) := js_par3 hc hN hi hj hl hij hil hjl hx hy hz ha hw hs hP1 hP2 hP3 hψ
theorem gMeth {T id : String} {name : Str} {g : DV → List DV → Option DV} (pa : PlainAttrs T) (slot : Slot T name id) (hty : typeOf (.builtin id) = pure (.type "method_descriptor")) (hm : MethD X Z id g cap k) (ho : JE X Z W φ o φ1 to fo) (ha : JA X Z W φ1 (a :: es) φ2 ts f)
    (hT : T ≠ "" := by decide) (hs : noStar a = true := by rfl) (hpl : es.all noStar = true := by rfl) (hlen : es.length < 28 := by decide) (hbase : attributeBase o name X.env (eval o X.env) = eval o X.env := by rfl) (hline : (ap.endLine == pos.line) = true := by rfl) :
    JE X Z W φ (.Call (.Attribute o name ap) (a :: es) [] pos) (capS cap (slotsOf ts ++ [to.slot?]) φ2) (.v k) (mthM T g to fo ts f) := je_meth hT pa slot hty hm ho ha hs hpl hlen hbase hline
theorem gMeth0 {T id : String} {name : Str} {g : DV → List DV → Option DV} (pa : PlainAttrs T) (slot : Slot T name id) (hty : typeOf (.builtin id) = pure (.type "method_descriptor")) (hm : MethD X Z id g cap k) (ho : JE X Z W φ o φ1 to fo)
    (hT : T ≠ "" := by decide) (hbase : attributeBase o name X.env (eval o X.env) = eval o X.env := by rfl) (hline : (ap.endLine == pos.line) = true := by rfl) :
    JE X Z W φ (.Call (.Attribute o name ap) [] [] pos) (capS cap [to.slot?] φ1) (.v k) (mthM T g to fo [] (M.pure [])) := je_meth0 hT pa slot hty hm ho hbase hline
theorem gAppend (j n : Nat) (ha : JE X Z W φ a φ1 (.v k) fa) (hn : φ1[j]? = some (n + 1) := by rfl) (hN : X.N[j]? = some x := by rfl) (hv : Vis X.env.scope x := by first | exact Or.inl rfl | exact Or.inr (Or.inl rfl) | exact Or.inr (Or.inr rfl)) (hdb : (x == ("__debug__" : Str)) = false := by decide) (hcd : (x == ("__classdict__" : Str)) = false := by decide)
    (hs : noStar a = true := by rfl) (hbase : attributeBase (.Name x px) "append" X.env (eval (.Name x px) X.env) = eval (.Name x px) X.env := by rfl) (hline : (ap.endLine == pos.line) = true := by rfl) :
    JE X Z W φ (.Call (.Attribute (.Name x px) "append" ap) [a] [] pos) (φ1.set j (min n k + 1)) (.v 9) (apM j fa) := je_append (m := min n k) hN hv hdb hcd ha hs hn rfl hbase hline
theorem gPop (j n : Nat) (hn : φ[j]? = some (n + 1) := by rfl) (hN : X.N[j]? = some x := by rfl) (hv : Vis X.env.scope x := by first | exact Or.inl rfl | exact Or.inr (Or.inl rfl) | exact Or.inr (Or.inr rfl)) (hdb : (x == ("__debug__" : Str)) = false := by decide) (hcd : (x == ("__classdict__" : Str)) = false := by decide)
    (hbase : attributeBase (.Name x px) "pop" X.env (eval (.Name x px) X.env) = eval (.Name x px) X.env := by rfl) (hline : (ap.endLine == pos.line) = true := by rfl) :
    JE X Z W φ (.Call (.Attribute (.Name x px) "pop" ap) [] [] pos) (φ.set j (n + 1)) (.v n) (popM j) := je_pop hN hv hdb hcd hn hbase hline
theorem gCallK {k0 : Nat} {kws : List Keyword} (ρ π : List Nat) (G : Has X.prog X.w X.K X.mg X.base j x ps Z ms kr F) (hr : Room k0 X.A) (hgd : X.A.guards = some []) (tk : Takes X W) (ha : JA X Z W φ (a :: es) φ1 ts f) (hk : JK X Z W φ1 kws φ2 ts2 f2)
    (hks : ∀ ws : List Value, ws.length = ts2.length → ((backToKw pos (keywordEach kws X.env)).filterMap (·.1)).zip ws = kwOf ps (es.length + 1) π (reo ρ ws)) (hj : j ≤ k0 := by decide) (hg : Gl X x := by rfl)
    (hdb : (x == ("__debug__" : Str)) = false := by decide) (hs : noStar a = true := by rfl) (hpl : ((backTo pos (starEach (a :: es) X.env)).any (·.1) || (backToKw pos (keywordEach kws X.env)).any (·.1.isNone)) = false := by rfl)
    (hall : (backToKw pos (keywordEach kws X.env)).all (·.1.isSome) = true := by rfl) (hlen : ts.length = es.length + 1 := by rfl) (hπ : (es.length + 1, π) ∈ kwTab ps.length := by decide) (hρ : ρ.Perm (List.range ts2.length) := by decide) (hf : fitM ms (ts ++ reo ρ ts2) φ2 = true := by rfl) :
    JE X Z W φ (.Call (.Name x p) (a :: es) kws pos) (flM ms (ts ++ reo ρ ts2) φ2) (.v kr) (callF F ms (ts ++ reo ρ ts2) (kwM ρ f f2)) := je_callK ρ π G hj hr hgd hg tk hdb hs hpl hall hlen hπ hρ hks ha hk hf
theorem gCallK0 {k0 : Nat} {kws : List Keyword} (ρ π : List Nat) (G : Has X.prog X.w X.K X.mg X.base j x ps Z ms kr F) (hr : Room k0 X.A) (hgd : X.A.guards = some []) (tk : Takes X W) (hk : JK X Z W φ kws φ2 ts f)
    (hks : ∀ ws : List Value, ws.length = ts.length → ((backToKw pos (keywordEach kws X.env)).filterMap (·.1)).zip ws = kwOf ps 0 π (reo ρ ws)) (hj : j ≤ k0 := by decide) (hg : Gl X x := by rfl)
    (hdb : (x == ("__debug__" : Str)) = false := by decide) (hpl : ((backTo pos (starEach [] X.env)).any (·.1) || (backToKw pos (keywordEach kws X.env)).any (·.1.isNone)) = false := by rfl)
    (hall : (backToKw pos (keywordEach kws X.env)).all (·.1.isSome) = true := by rfl) (hπ : (0, π) ∈ kwTab ps.length := by decide) (hρ : ρ.Perm (List.range ts.length) := by decide) (hf : fitM ms (reo ρ ts) φ2 = true := by rfl) :
    JE X Z W φ (.Call (.Name x p) [] kws pos) (flM ms (reo ρ ts) φ2) (.v kr) (callF F ms (reo ρ ts) (kwM ρ (M.pure []) f)) := je_callK0 ρ π G hj hr hgd hg tk hdb hpl hall hπ hρ hks hk hf
theorem gCall0 {k0 : Nat} (G : Has X.prog X.w X.K X.mg X.base j x ps Z [] kr F) (hr : Room k0 X.A) (hgd : X.A.guards = some []) (tk : Takes X W) (hj : j ≤ k0 := by decide) (hg : Gl X x := by rfl) (hdb : (x == ("__debug__" : Str)) = false := by decide) (hps : ps = [] := by rfl) :
    JE X Z W φ (.Call (.Name x p) [] [] pos) φ (.v kr) (callF F [] [] (M.pure [])) := je_call0 G hj hr hgd hg tk hdb hps
/-! comprehensions -/
def blkChk (N : List Str) (sc scope : Scope) (own : List (Str × Nat)) : Bool :=
  scope.kind == .function && (scope.names.all fun y => scope.names.lookup y.1 == some y.2) && (own.all fun p => N[p.2]? == some p.1) &&
  (scope.names.all fun y => !(y.2 == .free) || (sc.names.lookup y.1 == some .cell || sc.names.lookup y.1 == some .free)) &&
  (scope.names.all fun y => !(y.2 == .local || y.2 == .cell) || ((own.map (·.1)).contains y.1 || !N.contains y.1))
theorem blk_mk {N : List Str} {sc scope : Scope} {own : List (Str × Nat)} (h : blkChk N sc scope own = true) : BlkOk N sc scope own := by
  unfold blkChk at h
  simp only [Bool.and_eq_true, List.all_eq_true, beq_iff_eq, Bool.or_eq_true, Bool.not_eq_true', Bool.or_eq_false_iff, List.contains_eq_mem, decide_eq_true_eq, decide_eq_false_iff_not, beq_eq_false_iff_ne, ne_eq] at h
  obtain ⟨⟨⟨⟨h1, h2⟩, h3⟩, h4⟩, h5⟩ := h
  refine ⟨h1, fun y hy => h2 y hy, fun p hp => h3 p hp, fun y hy e => ?_, fun y hy e => ?_⟩
  · exact (h4 y hy).resolve_left fun z => z e
  · rcases h5 y hy with z | z
    · rcases e with e | e
      · exact absurd e z.1
      · exact absurd e z.2
    · exact z
theorem tk0 {s : Shared} {H : Hp} {scope : Scope} {cl : List (Str × Addr)} {C : Addr} {fp : List Addr} : Takes (blkOf X s H scope cl C fp) W0 := fun u s' ⟨a, B, sI, pins, σ, H, cls, d, e, I, nb, up, sky, na, os, ag, w⟩ => w.elim
theorem gLc {ft : M Bool} {fe : M DV} {fi : M (List DV)} {T : Tgt} {iter elt : Expr} {ifs : List Expr} {scope : Scope} {ke : Nat} (own : List (Str × Nat)) (φL : List Nat) (hN : X.N.Nodup) (ok : BlkOk X.N X.env.scope scope own) (hi : JI X Z W φ tg iter φ1 fi)
    (hg : ∀ s H C cl fp, JG (blkOf X s H scope cl C fp) Z tg T) (ht : ∀ s H C cl fp, JTs (blkOf X s H scope cl C fp) Z W0 (tgF T 0 φL) ifs φ2 ft)
    (he : ∀ s H C cl fp, JE (blkOf X s H scope cl C fp) Z W0 φ2 elt φ3 (.v ke) fe) (hc : X.calm = true := by rfl) (hs : ∀ x, foldedSetIterable iter X.env x = pure x := by intro _; rfl)
    (hT : ∀ i ∈ tgS T, i ∈ own.map (·.2) := by decide) (l0 : leN φL φ1 = true := by rfl) (l2 : leN φL φ2 = true := by rfl) (l3 : leN φL φ3 = true := by rfl) :
    JE X Z W φ (.ListComp elt [⟨tg, iter, ifs, 0⟩] scope pos) φL (.v (ke + 1)) (compM T (own.map (·.2)) fi ft fe) := je_lc hc hN hi ok hg ht he hs hT l0 l2 l3
theorem gSetLc {ft : M Bool} {fe : M DV} {fi : M (List DV)} {T : Tgt} {iter elt : Expr} {ifs : List Expr} {scope : Scope} {ke : Nat} {y : Str} {py spos : Pos} (i : Nat) (own : List (Str × Nat)) (φL : List Nat) (hN : X.N.Nodup) (ok : BlkOk X.N X.env.scope scope own) (hi : JI X Z W φ tg iter φ1 fi)
    (hg : ∀ s H C cl fp, JG (blkOf X s H scope cl C fp) Z tg T) (ht : ∀ s H C cl fp, JTs (blkOf X s H scope cl C fp) Z W0 (tgF T 0 φL) ifs φ2 ft)
    (he : ∀ s H C cl fp, JE (blkOf X s H scope cl C fp) Z W0 φ2 elt φ3 (.v ke) fe) (hy : X.N[i]? = some y := by rfl) (hyl : X.env.scope.names.lookup y = some .local := by rfl)
    (hsw : swapsWith (.ListComp elt [⟨tg, iter, ifs, 0⟩] scope pos) (some (.Name y py)) spos.line X.env = pure true := by rfl) (hc : X.calm = true := by rfl) (hs : ∀ x, foldedSetIterable iter X.env x = pure x := by intro _; rfl)
    (hT : ∀ i ∈ tgS T, i ∈ own.map (·.2) := by decide) (l0 : leN φL φ1 = true := by rfl) (l2 : leN φL φ2 = true := by rfl) (l3 : leN φL φ3 = true := by rfl)
    (hP : P.all (fun p => p.1 != i) = true := by rfl) (hn : ψ.n = φL.set i (ke + 1) := by rfl) :
    JS X Z W P kr φ (.Assign [.Name y py] (.ListComp elt [⟨tg, iter, ifs, 0⟩] scope pos) spos) ψ (setM i (compM T (own.map (·.2)) fi ft fe)) := js_setLc hc hN hy hyl hsw hi ok hg ht he hs hT l0 l2 l3 hP hn
end
/-- p of all -/
def allZ {α : Type} : List α → (α → Prop) → Prop
  | [], _ => True
  | z :: r, p => p z ∧ allZ r p
theorem allZ_mem {α : Type} {p : α → Prop} : ∀ {l : List α}, allZ l p → ∀ z ∈ l, p z
  | z :: r, h, x, hx => by
    rcases List.mem_cons.mp hx with e | hx
    · rw [e]; exact h.1
    · exact allZ_mem h.2 x hx
theorem bindsK {K : PySem.W.Frag} {x qual : Str} {st : Stmt} {f : Addr} {fd : FuncData} {ps : List Str} (F : Fun K x qual st f fd)
    (h : ∀ (kV doc pm : Value) (an : Option Addr) (cdv ct : Value) (l : List Value), l.length = ps.length → allZ (kwTab ps.length) fun z => bindArgs (PySem.W.fnOf x qual (defArgs st) (defBody st) (defScope st) .none kV doc pm an cdv ct) ⟨l.take z.1, kwOf ps z.1 z.2 (l.drop z.1)⟩ = pure (ps.zip l)) :
    ∀ (s : Shared) (us ws : List Value) (π : List Nat), us.length + ws.length = ps.length → (us.length, π) ∈ kwTab ps.length → BindsTo s fd ⟨us, kwOf ps us.length π ws⟩ (ps.zip (us ++ ws)) := by
  obtain ⟨oc, od, kV, doc, pm, an, cdv, ct, osl, rfl, lk, hcd⟩ := F.ex
  intro s us ws π hl hπ
  have q := allZ_mem (h kV doc pm an cdv ct (us ++ ws) (by simpa using hl)) _ hπ
  simp only [List.take_left, List.drop_left] at q
  exact .of_eq q
/-- a def of the text, once its body is shown -/
theorem has_of {P : Program} {w : World} {K : PySem.W.Frag} {mg : Str → Option Value} {base : Heap} {k : Nat} {f : Addr} {fd : FuncData} {N ps : List Str} {Z : ClT} {ms : List Md} {kr : Nat} {x : Str} {st : Stmt} {g : M Fl} (fn : Fun K x x st f fd) (hm : mg x = some (.ref f)) (S : FnScope N ps (defScope st))
    (h : ∀ (kV doc pm : Value) (an : Option Addr) (cdv ct : Value) (l : List Value), l.length = ps.length → allZ (kwTab ps.length) fun z => bindArgs (PySem.W.fnOf x x (defArgs st) (defBody st) (defScope st) .none kV doc pm an cdv ct) ⟨l.take z.1, kwOf ps z.1 z.2 (l.drop z.1)⟩ = pure (ps.zip l))
    (hl : ms.length = ps.length) (b : BodyD P w K mg base k N x st f Z ms kr g) : Has P w K mg base (k + 1) x ps Z ms kr (runF N.length (ioP 0 ms) g) :=
  ⟨f, fd, hm, fn.kp, bindsK fn h, fn_D fn S hl (fun _ _ => .inr rfl) b⟩
theorem units80 {k : Nat} {A : Around} (hr : Room k A) : A.units + 80 < cLine := by
  have := hr.un
  omega
theorem units70 {k : Nat} {A : Around} (hr : Room k A) : A.units + 70 < cLine := by
  have := hr.un
  omega
theorem units65 {k : Nat} {A : Around} (hr : Room k A) : A.units + 65 < cLine := by
  have := hr.un
  omega
theorem units64 {k : Nat} {A : Around} (hr : Room k A) : A.units + 64 < cLine := by
  have := hr.un
  omega
/-! ### the law's end -/
section
open PyProof.Rows PySem.W PySem.Calls
variable {P : Program} {w : World} {K : PySem.W.Frag} {mg mb : Str → Option Value} {k : Nat} {kr : Nat} {fa a : Addr} {nm x : Str} {s1 : Shared} {vs : List Value} {ns : List Int} {H : Hp} {F : List DV → Res} {Z : ClT}
abbrev LawBack (s1 : Shared) (r : Result) (s' : Shared) : Prop := r = .ok (.ret (.bool true)) ∧ OldK s1.heap s'.heap ∧ s'.os = s1.os ∧ AllBare s'.gens
/-- one entry of the law, the script tracked as H says -/
theorem law_from (hH : ∀ b u, H b = some u → b = a ∧ ∃ o xs, u = .frz o (.lst xs)) (hK : H a ≠ none → K.lookup a = none) (hok : HOk P w H s1.heap) (hS : DenV K Z H (.s ns) (.ref a) [])
    (KX : K.In s1.heap) (n1 : s1.heap.Ns mainGlobals mg) (n2 : s1.heap.Ns builtinsNs mb) (n3 : ∀ x : Str, x ≠ "__name__" → mb x = bootBuiltins x) (lim : s1.heap.NoLimit) (gens : s1.gens = #[])
    (ha : s1.heap.get? a = some { cls := .type "list", data := .seq vs.toArray }) (room : Room k callerA)
    (Fn : ∀ base : Heap, K.In base → base.Ns mainGlobals mg → Has P w K mg base k nm [x] Z [.fz] kr F) (hfa : mg nm = some (.ref fa)) (hF : F [.s ns] = .ok (.d (.bool true)) []) :
    codeAny (model P w) callerA (.call (.ref fa) ⟨[.ref a], []⟩) (LawBack s1) s1 := by
  have sees : ∀ {b : Addr} {o : Obj}, s1.heap.get? b = some o → H b = none → (hidT s1.heap H).get? b = some o := fun e z => hidT_get e z
  have dicts : ∀ {b : Addr} {m : Str → Option Value}, s1.heap.Ns b m → (hidT s1.heap H).Ns b m := fun {b m} ⟨o, es, ep', e, d, r⟩ => by
    cases q : H b with
    | none => exact ⟨o, es, ep', sees e q, d, r⟩
    | some u =>
      obtain ⟨z, _⟩ := hH b u q
      subst z
      rw [ha] at e
      cases e
      cases d
  have inB : K.In (hidT s1.heap H) := fun b o e => by
    cases q : H b with
    | none => exact sees (KX b o e) q
    | some u =>
      obtain ⟨z, _⟩ := hH b u q
      subst z
      rw [hK (by rw [q]; simp)] at e
      cases e
  have md : Mod K mg (hidT s1.heap H) := ⟨inB, dicts n1, ⟨mb, dicts n2, n3⟩, by obtain ⟨mc, h1, h2⟩ := lim; exact ⟨mc, dicts h1, h2⟩⟩
  have e0 : Env0 P w K mg (hidT s1.heap H) callerA [] s1 H := ⟨rfl, md, fun b o e => of_hidT e, Nat.le_of_eq (hidT_size _ _), trivial, (fun b hb => absurd (show b ∈ ([] : List Addr) from hb) List.not_mem_nil), hok, .of_eq gens⟩
  obtain ⟨fa', fd, e1, _, bind, good⟩ := (Fn _ inB (dicts n1)).ex
  rw [hfa] at e1
  cases e1
  have want : spD K Z [.fz] kr F [.ref a] H (fun v _ => v = .bl true) fun _ _ _ => False := by
    refine ⟨[], [.s ns], rfl, rfl, ⟨[], ⟨[], [], hS, rfl, rfl⟩, List.Pairwise.nil⟩, ?_⟩
    rw [hF]
    intro v H' S
    exact S.bl List.mem_cons_self
  refine codeAny_mono (good.run callerA [] s1 H ⟨[.ref a], []⟩ [.ref a] [.ref a] _ _ room rfl e0 (bind s1 [.ref a] [] [] rfl (kwTab_end rfl)) (.cons rfl .nil) want) fun r s' h => ?_
  match r, h with
  | .error e, h =>
    obtain ⟨_, _, _, _, _, _, _, _, _, _, _, _, z⟩ := h
    exact z.elim
  | .ok .next, h => exact False.elim h
  | .ok .brk, h => exact False.elim h
  | .ok .cont, h => exact False.elim h
  | .ok (.ret u), h =>
    obtain ⟨v, H', os, bare, un, hok', ru, q⟩ := h
    cases (show v = V.bl true from q)
    cases (show u = Value.bool true from ru)
    refine ⟨rfl, OldK.of_keep fun b o e => ?_, os, bare⟩
    cases q : H b with
    | none => exact un.keep b o e q (fun z => absurd (show b ∈ ([] : List Addr) from z) List.not_mem_nil) (fun z => absurd (show b ∈ ([] : List Addr) from z) List.not_mem_nil)
    | some u =>
      obtain ⟨_, ob, xs, rfl⟩ := hH b u q
      obtain ⟨e1, _⟩ := hok b _ q
      obtain ⟨e2, _⟩ := hok' b _ (un.frzs b ob _ q)
      rw [e1] at e
      cases e
      exact e2
theorem law_D (KX : K.In s1.heap) (n1 : s1.heap.Ns mainGlobals mg) (n2 : s1.heap.Ns builtinsNs mb) (n3 : ∀ x : Str, x ≠ "__name__" → mb x = bootBuiltins x) (lim : s1.heap.NoLimit) (gens : s1.gens = #[])
    (ha : s1.heap.get? a = some { cls := .type "list", data := .seq vs.toArray }) (hi : IntsAre vs ns) (hz : ns.length ≤ sizeLine) (room : Room k callerA)
    (Fn : ∀ base : Heap, K.In base → base.Ns mainGlobals mg → Has P w K mg base k nm [x] Z [.fz] kr F) (hfa : mg nm = some (.ref fa)) (hF : F [.s ns] = .ok (.d (.bool true)) []) :
    codeAny (model P w) callerA (.call (.ref fa) ⟨[.ref a], []⟩) (LawBack s1) s1 := by
  cases hk : K.lookup a with
  | some o =>
    have e := KX a o hk
    rw [ha] at e
    cases e
    have sq : SqL K (fun _ => none) a (ns.map V.int) := .inr ⟨_, vs.toArray, _, hk, rfl, rfl, rfl, by rw [List.size_toArray, hi.length]; exact hz, by simpa using vals_ints hi⟩
    exact law_from (H := fun _ => none) (fun b u z => nomatch z) (fun z => absurd rfl z) (fun b u z => nomatch z) (.s (.inl sq)) KX n1 n2 n3 lim gens ha room Fn hfa hF
  | none =>
    let ob : Obj := { cls := .type "list", data := .seq vs.toArray }
    let Hs : Hp := fun b => if b = a then some (.frz ob (.lst (ns.map V.int))) else none
    have at1 : Hs a = some (.frz ob (.lst (ns.map V.int))) := if_pos rfl
    have only : ∀ b u, Hs b = some u → b = a ∧ u = .frz ob (.lst (ns.map V.int)) := fun b u z => by
      by_cases e : b = a
      · subst e
        rw [at1] at z
        cases z
        exact ⟨rfl, rfl⟩
      · have z' : (if b = a then some (HO.frz ob (.lst (ns.map V.int))) else none) = some u := z
        rw [if_neg e] at z'
        cases z'
    refine law_from (H := Hs) (fun b u z => ⟨(only b u z).1, ob, _, (only b u z).2⟩) (fun _ => hk) (fun b u z => ?_) (.s (.inr ⟨ob, at1⟩)) KX n1 n2 n3 lim gens ha room Fn hfa hF
    obtain ⟨rfl, rfl⟩ := only b u z
    exact ⟨ha, by rw [List.length_map]; exact hz, vs, _, vals_ints hi, ha⟩
/-- THE END: a law whose def answers True for all scripts -/
theorem walk_D {l : PySem.W.OpenLaw} {n k kr : Nat} {q : Program} {loose : List Str} {XP : (Str → Option Value) → Heap → Prop} {YP : World → Heap → Prop} {d : DefRec} {K : Params → PySem.W.Frag} {x : Str} {Z : World → ClT} {F : List DV → Res}
    (hn : l.most = some n) (hn2 : n ≤ sizeLine) (hdf : d.params.defaults = []) (room : Room k callerA) (hY : ∀ (w : World) (h : Heap), YP w h → (K w.params).In h)
    (Fn : ∀ (w : World) (mg : Str → Option Value) (h : Heap), (K w.params).In h → h.Ns mainGlobals mg → ∀ base : Heap, (K w.params).In base → base.Ns mainGlobals mg → Has l.prog w (K w.params) mg base k d.name [x] (Z w) [.fz] kr F)
    (hF : ∀ ns : List Int, ns.length ≤ n → F [.s ns] = .ok (.d (.bool true)) []) : PySem.W.WalkO q loose XP YP l.row.toRowW d [] (fun f vs => PySem.call f vs) := by
  refine Att.attach_call hn hdf fun w s0 s1 mg mb fa o pm cd doc a vs ns G Y ho hd hcd hmg hobj hints hlen hg => ?_
  exact law_D (hY w _ Y) G.T.g G.T.b G.T.builtins G.T.nolimit hg hobj hints (Nat.le_trans hlen hn2) room (Fn w mg _ (hY w _ Y) G.T.g) hmg (hF ns hlen)
end
end Lk
namespace Lk
open PySem PySem.Spec L2
def compGo2 (T : Tgt) (vs : List Nat) (ft : M Bool) (fi1 : M (List DV)) (T1 : Tgt) (vs1 : List Nat) (ft1 : M Bool) (fe : M DV) : List DV → List PyData → M (List PyData)
  | [], acc => fun e => .ok acc e
  | d :: ds, acc => fun e => (noEx (tgM T d e)).bind fun _ e1 => (noEx (ft e1)).bind fun b e2 => match b with
    | false => compGo2 T vs ft fi1 T1 vs1 ft1 fe ds acc (wipeE vs e2)
    | true => (noEx (fi1 e2)).bind fun items e3 => (compGo T1 vs1 ft1 fe items acc (wipeE vs1 e3)).bind fun acc' e4 => compGo2 T vs ft fi1 T1 vs1 ft1 fe ds acc' (wipeE vs e4)
def comp2M (T : Tgt) (vs : List Nat) (fi : M (List DV)) (ft : M Bool) (fi1 : M (List DV)) (T1 : Tgt) (vs1 : List Nat) (ft1 : M Bool) (fe : M DV) : M DV := fun env => (fi env).bind fun items e1 => (compGo2 T vs ft fi1 T1 vs1 ft1 fe items [] (wipeE vs e1)).bind fun xs e2 => .ok (.d (.list xs)) (restE vs e1 e2)
section
variable {X : Cx} {Z : ClT} {W : WX} {φ φ' φ1 φ2 φ3 φ4 φ5 φL φM : List Nat} {fe : M DV} {ft ft1 : M Bool} {fi fi1 : M (List DV)} {σ : St} {H : Hp} {L : List Root} {env : Ev} {elt tg iter tg1 iter1 : Expr} {ifs ifs1 : List Expr} {scope : Scope} {own : List (Str × Nat)} {pos : Pos} {ke : Nat} {T T1 : Tgt}
theorem compGo_noEx {vs : List Nat} : ∀ (items : List DV) (acc : List PyData) (e : Ev) (c : Nat) (g : PyData) (e' : Ev), compGo T vs ft fe items acc e ≠ .ex c g e'
  | [], acc, e, c, g, e', h => by cases h
  | d :: ds, acc, e, c, g, e', h => by
    unfold compGo at h
    cases q1 : tgM T d e with
    | bad => rw [q1] at h; cases h
    | ex c g e' => rw [q1] at h; cases h
    | ok u e1 =>
      rw [q1] at h
      have h : ((Lk.noEx (ft e1)).bind _) = Out.ex c g e' := h
      cases q2 : ft e1 with
      | bad => rw [q2] at h; cases h
      | ex c g e' => rw [q2] at h; cases h
      | ok b e2 =>
        rw [q2] at h
        cases b with
        | false => exact compGo_noEx ds acc _ c g e' h
        | true =>
          have h : ((Lk.noEx (fe e2)).bind _) = Out.ex c g e' := h
          cases q3 : fe e2 with
          | bad => rw [q3] at h; cases h
          | ex c g e' => rw [q3] at h; cases h
          | ok y e3 =>
            rw [q3] at h
            have h : (match dataOf y with
              | some x => if acc.length < big then compGo T vs ft fe ds (acc ++ [x]) (wipeE vs e3) else .bad
              | none => .bad) = Out.ex c g e' := h
            cases q4 : dataOf y with
            | none => rw [q4] at h; cases h
            | some x =>
              rw [q4] at h
              simp only at h
              split at h
              · exact compGo_noEx ds _ _ c g e' h
              · cases h
theorem compGo2_ok {vs vs1 : List Nat} : ∀ (items : List DV) (acc : List PyData) (e : Ev) (k : List PyData → Ev → Prop) (W' : WX) (L' : List Root), Wish X.K Z W L (compGo2 T vs ft fi1 T1 vs1 ft1 fe items acc e) k → Wish X.K Z W' L' (compGo2 T vs ft fi1 T1 vs1 ft1 fe items acc e) k
  | [], acc, e, k, W', L', h => h
  | d :: ds, acc, e, k, W', L', h => by
    unfold compGo2 at h ⊢
    cases q1 : tgM T d e with
    | bad => rw [q1] at h; exact h.elim
    | ex c g e' => rw [q1] at h; exact h.elim
    | ok u e1 =>
      rw [q1] at h
      have h : Wish X.K Z W L ((Lk.noEx (ft e1)).bind _) k := h
      show Wish X.K Z W' L' ((Lk.noEx (ft e1)).bind _) k
      cases q2 : ft e1 with
      | bad => rw [q2] at h; exact h.elim
      | ex c g e' => rw [q2] at h; exact h.elim
      | ok b e2 =>
        rw [q2] at h
        cases b with
        | false => exact compGo2_ok ds acc _ k W' L' h
        | true =>
          have h : Wish X.K Z W L ((Lk.noEx (fi1 e2)).bind _) k := h
          show Wish X.K Z W' L' ((Lk.noEx (fi1 e2)).bind _) k
          cases q3 : fi1 e2 with
          | bad => rw [q3] at h; exact h.elim
          | ex c g e' => rw [q3] at h; exact h.elim
          | ok y e3 =>
            rw [q3] at h
            have h : Wish X.K Z W L ((compGo T1 vs1 ft1 fe y acc (wipeE vs1 e3)).bind _) k := h
            show Wish X.K Z W' L' ((compGo T1 vs1 ft1 fe y acc (wipeE vs1 e3)).bind _) k
            cases q4 : compGo T1 vs1 ft1 fe y acc (wipeE vs1 e3) with
            | bad => rw [q4] at h; exact h.elim
            | ex c g e' => exact absurd q4 (compGo_noEx _ _ _ _ _ _)
            | ok acc' e4 =>
              rw [q4] at h
              exact compGo2_ok ds _ _ k W' L' h
/-- the loop of a clause whose turns go to the list D -/
theorem lc_loop {vs : List Nat} {σ0 : St} {D : Addr} {End : Hp → Prop} {J : It} {held : List Root} {items : List DV} {env0 : Ev} {acc0 : List PyData} {H0 : Hp} (hT : ∀ i ∈ tgS T, i ∈ vs) (l2 : leN φL φ2 = true) (l3 : leN φL φ3 = true) (ok : IterOk X.K Z J held items)
    (S0 : Sim X.K Z H0 (⟨ke + 1, .d (.list acc0), .ref D⟩ :: (roots φL env0 (wipe σ0 vs) ++ (held ++ L)))) (a0 : Al φL env0 (wipe σ0 vs)) (hb : acc0.length ≤ big)
    (q0 : Wish X.K Z W0 [] (compGo T vs ft fe items acc0 env0) fun acc e2 => ∀ H', Sim X.K Z H' (⟨ke + 1, .d (.list acc), .ref D⟩ :: (roots φL e2 (wipe σ0 vs) ++ (held ++ L))) → Al φL e2 (wipe σ0 vs) → acc.length ≤ big → End H') :
    ∃ W : Nat → Nat → Hp → Prop, (∃ m, W 0 m H0) ∧ ∀ i m H, W i m H → (J.stop i H ∧ End H) ∨ (J.go i H ∧ ∃ Nx : Hp → Prop, (∀ H', Nx H' → ∃ m', m' < m ∧ W (i + 1) m' H') ∧ ∀ x H', J.yld i H x H' → gT X.K Z T x (wipe σ0 vs) H' fun σ2 H2 => wipe σ2 vs = wipe σ0 vs ∧
      rdT X Z W0 (tgF T 0 φL) φ2 ft σ2 H2 fun b H3 => if b = true then rdE X Z W0 φ2 φ3 (.v ke) fe σ2 H3 fun y H4 => ∃ acc, H4 D = some (.lst acc) ∧ acc.length < sizeLine ∧ Nx (upd H4 D (.lst (acc ++ [y]))) else Nx H3) := by
  let Post : List PyData → Ev → Prop := fun acc e2 => ∀ H', Sim X.K Z H' (⟨ke + 1, .d (.list acc), .ref D⟩ :: (roots φL e2 (wipe σ0 vs) ++ (held ++ L))) → Al φL e2 (wipe σ0 vs) → acc.length ≤ big → End H'
  let St1 : Nat → Hp → Prop := fun i H => i ≤ items.length ∧ ∃ env acc, Sim X.K Z H (⟨ke + 1, .d (.list acc), .ref D⟩ :: (roots φL env (wipe σ0 vs) ++ (held ++ L))) ∧ Al φL env (wipe σ0 vs) ∧ acc.length ≤ big ∧ Wish X.K Z W0 [] (compGo T vs ft fe (items.drop i) acc env) Post
  refine ⟨fun i m H => m = items.length - i ∧ St1 i H, ⟨items.length, by omega, Nat.zero_le _, env0, acc0, S0, a0, hb, q0⟩, ?_⟩
  rintro i m H ⟨rfl, hi, env, acc, S, al, hac, q⟩
  have S0 : Sim X.K Z H (held ++ (⟨ke + 1, .d (.list acc), .ref D⟩ :: (roots φL env (wipe σ0 vs) ++ L))) := by
    refine S.perm ?_
    refine List.Perm.trans ?_ List.perm_middle.symm
    exact .cons _ (List.perm_append_comm_assoc ..)
  obtain ⟨o1, o2⟩ := ok i H _ S0
  by_cases hlt : i < items.length
  · obtain ⟨go, yl⟩ := o2 items[i] (List.getElem?_eq_getElem hlt)
    refine .inr ⟨go, St1 (i + 1), fun H' h' => ⟨items.length - (i + 1), by omega, rfl, h'⟩, fun x H' y => ?_⟩
    rw [List.drop_eq_getElem_cons hlt] at q
    generalize hL' : (⟨ke + 1, .d (.list acc), .ref D⟩ : Root) :: (held ++ L) = L'
    have S2 : Stt X.K Z φL env [⟨.v 0, items[i], x⟩] (wipe σ0 vs) H' L' := by
      subst hL'
      refine ⟨(yl x H' y).perm (.cons _ ?_), al, fun z hz => by rw [List.mem_singleton.mp hz]; trivial⟩
      show (held ++ (_ :: (roots φL env (wipe σ0 vs) ++ L))).Perm (roots φL env (wipe σ0 vs) ++ (_ :: (held ++ L)))
      refine List.perm_middle.trans (List.Perm.trans (.cons _ ?_) List.perm_middle.symm)
      exact List.perm_append_comm_assoc ..
    have q : Wish X.K Z W0 [] ((Lk.noEx (tgM T items[i] env)).bind _) Post := q
    refine ⟨L', env, φL, 0, items[i], W0, S2, Nat.zero_le _, (q.bind.noEx (W' := W0) (L' := L')).mono fun _ e2 q3 σ2 H2 s2 _ ⟨g1, g2⟩ => ?_⟩
    have ew := same_wipe hT g1 g2
    refine ⟨ew, L', e2, s2, (q3.bind.noEx (W' := W0) (L' := L')).mono fun b e3 q4 H3 s3 => ?_⟩
    have fin : ∀ {φ4 : List Nat} {e4 : Ev} {H4 : Hp} {acc' : List PyData}, leN φL φ4 = true → Sim X.K Z H4 (⟨ke + 1, .d (.list acc'), .ref D⟩ :: (roots φ4 e4 σ2 ++ (held ++ L))) → Al φ4 e4 σ2 → acc'.length ≤ big →
        Wish X.K Z W0 [] (compGo T vs ft fe (items.drop (i + 1)) acc' (wipeE vs e4)) Post → St1 (i + 1) H4 := fun {φ4 e4 H4 acc'} hl s a hb qq => by
      obtain ⟨a5, l5⟩ := a.less hl
      obtain ⟨a6, B, p6⟩ := a5.wipeA vs
      rw [ew] at a6 p6
      refine ⟨hlt, wipeE vs e4, acc', ?_, a6, hb, qq⟩
      have s7 := s.less (R' := ⟨ke + 1, .d (.list acc'), .ref D⟩ :: (roots φL e4 σ2 ++ (held ++ L))) (.cons ⟨Nat.le_refl _, rfl, rfl⟩ (Less.app l5 (Less.refl _)))
      have s8 := s7.perm (R' := ⟨ke + 1, .d (.list acc'), .ref D⟩ :: ((B ++ roots φL (wipeE vs e4) (wipe σ0 vs)) ++ (held ++ L))) (.cons _ (List.Perm.append_right _ p6))
      exact s8.sub (.cons_cons _ (List.Sublist.append_right (List.sublist_append_right _ _) _))
    cases b with
    | false =>
      simp only [Bool.false_eq_true, if_false]
      refine fin l2 ?_ s3.al hac q4
      refine s3.sim.perm ?_
      subst hL'
      exact List.perm_middle
    | true =>
      simp only [if_true]
      refine ⟨L', e3, s3, (q4.bind.noEx (W' := W0) (L' := L')).mono fun y e4 q5 yv H4 s4 => ?_⟩
      cases hy : dataOf y with
      | none => rw [hy] at q5; exact q5.elim
      | some x =>
        rw [hy] at q5
        simp only at q5
        split at q5
        · rename_i hb
          have ey : y = .d x := dataOf_some hy
          subst ey
          have s5 : Sim X.K Z H4 (⟨ke + 1, .d (.list acc), .ref D⟩ :: (⟨ke, .d x, yv⟩ :: (roots φ3 e4 σ2 ++ (held ++ L)))) := by
            refine s4.sim.perm ?_
            subst hL'
            show (⟨ke, .d x, yv⟩ :: (roots φ3 e4 σ2 ++ (_ :: (held ++ L)))).Perm _
            exact (List.Perm.cons _ List.perm_middle).trans (.swap _ _ _)
          obtain ⟨D', vacc, e, hD4, hlen, s6⟩ := s5.apart
          cases e
          refine ⟨vacc, hD4, by rw [sizeLine_eq]; unfold big at hb; omega, ?_⟩
          have s7 : SimT X.K Z H4 [D] (kids ke (acc ++ [x]) (vacc ++ [yv]) ++ (roots φ3 e4 σ2 ++ (held ++ L))) := by
            rw [kids_append hlen]
            rw [List.append_assoc]
            exact s6
          exact fin l3 (s7.close (by simp [hlen]) hD4) s4.al (by simp; exact hb) q5
        · exact q5.elim
  · have e : i = items.length := by omega
    subst e
    rw [List.drop_length] at q
    exact .inl ⟨o1 (Nat.le_refl _), (show Post acc env from q) _ S al hac⟩
/-- what stands over wiped slots stands over the slots -/
theorem Al.unwipe1 {φ : List Nat} {e : Ev} {σ : St} {v : Nat} (a : Al φ e (σ.set v none)) : Al φ e σ ∧ roots φ e σ = roots φ e (σ.set v none) := by
  induction φ generalizing e σ v with
  | nil =>
    cases e with
    | nil => cases σ with
      | nil => exact ⟨trivial, rfl⟩
      | cons x σ => cases v <;> exact a.elim
    | cons d e => cases σ with
      | nil => cases v <;> exact a.elim
      | cons x σ => cases v <;> exact a.elim
  | cons n φ ih =>
    cases e with
    | nil => cases σ with
      | nil => cases v <;> exact a.elim
      | cons x σ => cases v <;> exact a.elim
    | cons d e =>
      cases σ with
      | nil => cases v <;> exact a.elim
      | cons x σ =>
        cases v with
        | zero =>
          obtain ⟨a1, a2⟩ : (d.isSome = true → (none : Option V).isSome = true) ∧ Al φ e σ := a
          have hd : d = none := by cases d with
            | none => rfl
            | some d => exact absurd (a1 rfl) (by simp)
          subst hd
          exact ⟨⟨(fun h => absurd h (by simp)), a2⟩, by cases x <;> rfl⟩
        | succ v =>
          obtain ⟨a1, a2⟩ : (d.isSome = true → x.isSome = true) ∧ Al φ e (σ.set v none) := a
          obtain ⟨i1, i2⟩ := ih a2
          refine ⟨⟨a1, i1⟩, ?_⟩
          cases d with
          | none => exact i2
          | some d => cases x with
            | none => exact i2
            | some x =>
              show ⟨n, d, x⟩ :: roots φ e σ = ⟨n, d, x⟩ :: roots φ e (σ.set v none)
              rw [i2]
theorem Al.unwipe {φ : List Nat} {e : Ev} {σ : St} : ∀ {vs : List Nat}, Al φ e (wipe σ vs) → Al φ e σ ∧ roots φ e σ = roots φ e (wipe σ vs)
  | [], a => ⟨a, rfl⟩
  | v :: vs, a => by
    unfold wipe at a ⊢
    obtain ⟨a1, e1⟩ := Al.unwipe1 a
    obtain ⟨a2, e2⟩ := Al.unwipe a1
    exact ⟨a2, e2.trans e1⟩
theorem lc2_law {vs vs1 : List Nat} {Q : VK} (hT : ∀ i ∈ tgS T, i ∈ vs) (hT1 : ∀ i ∈ tgS T1, i ∈ vs1) (l0 : leN φL φ1 = true) (l2 : leN φL φ2 = true) (lM : leN φL φM = true) (l4 : leN φM φ4 = true) (l5 : leN φM φ5 = true) (l3 : leN φM φ3 = true)
    (h : rdE X Z W φ φL (.v (ke + 1)) (comp2M T vs fi ft fi1 T1 vs1 ft1 fe) σ H Q) :
    tLc2 (rdI X Z W φ φ1 fi) (gT X.K Z T) (rdT X Z W0 (tgF T 0 φL) φ2 ft) (rdI X Z W0 φ2 φ4 fi1) (gT X.K Z T1) (rdT X Z W0 (tgF T1 0 φM) φ5 ft1) (rdE X Z W0 φ5 φ3 (.v ke) fe) vs vs1 σ H Q := by
  obtain ⟨L, env, S, q⟩ := h
  refine ⟨L, env, S, q.bind.mono fun items e1 q1 J held H1 S1 ok D hD => ?_⟩
  have S1 := S1.less l0
  obtain ⟨A, a0, p0, back⟩ := S1.al.saveA vs
  let Post : List PyData → Ev → Prop := fun xs e2 => ∀ v H', Stt X.K Z φL (restE vs e1 e2) [⟨.v (ke + 1), .d (.list xs), v⟩] σ H' L → Q v H'
  have q2 : Wish X.K Z W0 [] (compGo2 T vs ft fi1 T1 vs1 ft1 fe items [] (wipeE vs e1)) Post := compGo2_ok items [] _ _ W0 [] q1.bind
  let St1 : Nat → Hp → Prop := fun i H => i ≤ items.length ∧ ∃ env acc, Sim X.K Z H (⟨ke + 1, .d (.list acc), .ref D⟩ :: (roots φL env (wipe σ vs) ++ (held ++ (A ++ L)))) ∧ Al φL env (wipe σ vs) ∧ acc.length ≤ big ∧ Wish X.K Z W0 [] (compGo2 T vs ft fi1 T1 vs1 ft1 fe (items.drop i) acc env) Post
  refine ⟨fun i m H => m = items.length - i ∧ St1 i H, ⟨items.length, by omega, Nat.zero_le _, wipeE vs e1, [], ?_, a0, Nat.zero_le _, q2⟩, ?_⟩
  · have s0 : Sim X.K Z H1 (kids ke [] [] ++ (roots φL (wipeE vs e1) (wipe σ vs) ++ (held ++ (A ++ L)))) := by
      refine S1.sim.perm ?_
      show (roots φL e1 σ ++ (held ++ L)).Perm (roots φL (wipeE vs e1) (wipe σ vs) ++ (held ++ (A ++ L)))
      refine (List.Perm.append_right _ p0).trans ?_
      rw [List.append_assoc]
      refine List.perm_append_comm_assoc .. |>.trans ?_
      refine List.Perm.append_left _ ?_
      exact List.perm_append_comm_assoc ..
    exact Sim.mkL s0 rfl hD
  rintro i m H ⟨rfl, hi, env, acc, S, al, hac, q⟩
  have S0 : Sim X.K Z H (held ++ (⟨ke + 1, .d (.list acc), .ref D⟩ :: (roots φL env (wipe σ vs) ++ (A ++ L)))) := by
    refine S.perm ?_
    refine List.Perm.trans ?_ List.perm_middle.symm
    exact .cons _ (List.perm_append_comm_assoc ..)
  obtain ⟨o1, o2⟩ := ok i H _ S0
  by_cases hlt : i < items.length
  · obtain ⟨go, yl⟩ := o2 items[i] (List.getElem?_eq_getElem hlt)
    refine .inr ⟨go, St1 (i + 1), fun H' h' => ⟨items.length - (i + 1), by omega, rfl, h'⟩, fun x H' y => ?_⟩
    rw [List.drop_eq_getElem_cons hlt] at q
    generalize hL' : (⟨ke + 1, .d (.list acc), .ref D⟩ : Root) :: (held ++ (A ++ L)) = L'
    have S2 : Stt X.K Z φL env [⟨.v 0, items[i], x⟩] (wipe σ vs) H' L' := by
      subst hL'
      refine ⟨(yl x H' y).perm (.cons _ ?_), al, fun z hz => by rw [List.mem_singleton.mp hz]; trivial⟩
      show (held ++ (_ :: (roots φL env (wipe σ vs) ++ (A ++ L)))).Perm (roots φL env (wipe σ vs) ++ (_ :: (held ++ (A ++ L))))
      refine List.perm_middle.trans (List.Perm.trans (.cons _ ?_) List.perm_middle.symm)
      exact List.perm_append_comm_assoc ..
    have q : Wish X.K Z W0 [] ((Lk.noEx (tgM T items[i] env)).bind _) Post := q
    refine ⟨L', env, φL, 0, items[i], W0, S2, Nat.zero_le _, (q.bind.noEx (W' := W0) (L' := L')).mono fun _ e2 q3 σ2 H2 s2 _ ⟨g1, g2⟩ => ?_⟩
    have ew := same_wipe hT g1 g2
    refine ⟨ew, L', e2, s2, (q3.bind.noEx (W' := W0) (L' := L')).mono fun b e3 q4 H3 s3 => ?_⟩
    -- the turn's end
    have fin : ∀ {φ4 : List Nat} {e4 : Ev} {H4 : Hp} {acc' : List PyData}, leN φL φ4 = true → Sim X.K Z H4 (⟨ke + 1, .d (.list acc'), .ref D⟩ :: (roots φ4 e4 σ2 ++ (held ++ (A ++ L)))) → Al φ4 e4 σ2 → acc'.length ≤ big →
        Wish X.K Z W0 [] (compGo2 T vs ft fi1 T1 vs1 ft1 fe (items.drop (i + 1)) acc' (wipeE vs e4)) Post → St1 (i + 1) H4 := fun {φ4 e4 H4 acc'} hl s a hb qq => by
      obtain ⟨a5, l5⟩ := a.less hl
      obtain ⟨a6, B, p6⟩ := a5.wipeA vs
      rw [ew] at a6 p6
      refine ⟨hlt, wipeE vs e4, acc', ?_, a6, hb, qq⟩
      have s7 := s.less (R' := ⟨ke + 1, .d (.list acc'), .ref D⟩ :: (roots φL e4 σ2 ++ (held ++ (A ++ L)))) (.cons ⟨Nat.le_refl _, rfl, rfl⟩ (Less.app l5 (Less.refl _)))
      have s8 := s7.perm (R' := ⟨ke + 1, .d (.list acc'), .ref D⟩ :: ((B ++ roots φL (wipeE vs e4) (wipe σ vs)) ++ (held ++ (A ++ L)))) (.cons _ (List.Perm.append_right _ p6))
      exact s8.sub (.cons_cons _ (List.Sublist.append_right (List.sublist_append_right _ _) _))
    cases b with
    | false =>
      simp only [Bool.false_eq_true, if_false]
      refine fin l2 ?_ s3.al hac q4
      refine s3.sim.perm ?_
      subst hL'
      exact List.perm_middle
    | true =>
      simp only [if_true]
      have q4 : Wish X.K Z W0 [] ((Lk.noEx (fi1 e3)).bind fun items' e3 => (compGo T1 vs1 ft1 fe items' acc (wipeE vs1 e3)).bind fun acc' e4 => compGo2 T vs ft fi1 T1 vs1 ft1 fe (items.drop (i + 1)) acc' (wipeE vs e4)) Post := q4
      refine ⟨L', e3, s3, (q4.bind.noEx (W' := W0) (L' := L')).mono fun items1 e4 q5 J1 held1 H4 s4 ok1 => ?_⟩
      have s4' := s4.less l4
      obtain ⟨a6, B, p6⟩ := s4'.al.wipeA vs1
      refine lc_loop (φL := φM) (ke := ke) (D := D) (L := held ++ (A ++ L)) (env0 := wipeE vs1 e4) (acc0 := acc) hT1 l5 l3 ok1 ?_ a6 hac ?_
      · have s5 : Sim X.K Z H4 (roots φM e4 σ2 ++ (held1 ++ L')) := s4'.sim
        have s6 := s5.perm (R' := (B ++ roots φM (wipeE vs1 e4) (wipe σ2 vs1)) ++ (held1 ++ L')) (List.Perm.append_right _ p6)
        have s7 : Sim X.K Z H4 (roots φM (wipeE vs1 e4) (wipe σ2 vs1) ++ (held1 ++ L')) := s6.sub (List.Sublist.append_right (List.sublist_append_right _ _) _)
        refine s7.perm ?_
        subst hL'
        refine (List.Perm.append_left _ List.perm_middle).trans ?_
        exact List.perm_middle
      · refine (Wish.bind q5).mono fun acc' e5 q6 H5 s5 a5 hb5 => ?_
        obtain ⟨a7, r7⟩ := Al.unwipe a5
        rw [← r7] at s5
        refine fin lM ?_ a7 hb5 q6
        exact s5.sub (.cons_cons _ (List.Sublist.append_left (List.sublist_append_right _ _) _))
  · have e : i = items.length := by omega
    subst e
    rw [List.drop_length] at q
    refine .inl ⟨o1 (Nat.le_refl _), (show ∀ v H', Stt X.K Z φL (restE vs e1 env) [⟨.v (ke + 1), .d (.list acc), v⟩] σ H' L → Q v H' from q) _ _ ?_⟩
    obtain ⟨a7, p7⟩ := back env al
    refine ⟨?_, a7, fun z hz => by rw [List.mem_singleton.mp hz]; trivial⟩
    have s8 : Sim X.K Z H (⟨ke + 1, .d (.list acc), .ref D⟩ :: (roots φL env (wipe σ vs) ++ (A ++ L))) := S.sub (.cons_cons _ (List.Sublist.append_left (List.sublist_append_right _ _) _))
    refine s8.perm (.cons _ ?_)
    refine (List.perm_append_comm_assoc ..).trans ?_
    rw [← List.append_assoc]
    exact List.Perm.append_right _ p7.symm
theorem gLc2 (own : List (Str × Nat)) (vs1 : List Nat) (φL φM : List Nat) (hN : X.N.Nodup) (ok : BlkOk X.N X.env.scope scope own) (hi : JI X Z W φ tg iter φ1 fi)
    (hg : ∀ s H C cl fp, JG (blkOf X s H scope cl C fp) Z tg T) (ht : ∀ s H C cl fp, JTs (blkOf X s H scope cl C fp) Z W0 (tgF T 0 φL) ifs φ2 ft)
    (hi1 : ∀ s H C cl fp, JI (blkOf X s H scope cl C fp) Z W0 φ2 tg1 iter1 φ4 fi1)
    (hg1 : ∀ s H C cl fp, JG (blkOf X s H scope cl C fp) Z tg1 T1) (ht1 : ∀ s H C cl fp, JTs (blkOf X s H scope cl C fp) Z W0 (tgF T1 0 φM) ifs1 φ5 ft1)
    (he : ∀ s H C cl fp, JE (blkOf X s H scope cl C fp) Z W0 φ5 elt φ3 (.v ke) fe) (hc : X.calm = true := by rfl) (hs : ∀ x, foldedSetIterable iter X.env x = pure x := by intro _; rfl) (hs1 : ∀ env x, foldedSetIterable iter1 env x = pure x := by intro _ _; rfl)
    (hv : ∀ i ∈ vs1, i ∈ own.map (·.2) := by decide) (hT : ∀ i ∈ tgS T, i ∈ own.map (·.2) := by decide) (hT1 : ∀ i ∈ tgS T1, i ∈ vs1 := by decide) (l0 : leN φL φ1 = true := by rfl) (l2 : leN φL φ2 = true := by rfl) (lM : leN φL φM = true := by rfl) (l4 : leN φM φ4 = true := by rfl) (l5 : leN φM φ5 = true := by rfl) (l3 : leN φM φ3 = true := by rfl) :
    JE X Z W φ (.ListComp elt [⟨tg, iter, ifs, 0⟩, ⟨tg1, iter1, ifs1, 0⟩] scope pos) φL (.v (ke + 1)) (comp2M T (own.map (·.2)) fi ft fi1 T1 vs1 ft1 fe) :=
  pe_imp (pe_lc2 (g := gT X.K Z T) (tt := rdT X Z W0 (tgF T 0 φL) φ2 ft) (wi1 := rdI X Z W0 φ2 φ4 fi1) (g1 := gT X.K Z T1) (tt1 := rdT X Z W0 (tgF T1 0 φM) φ5 ft1) (te := rdE X Z W0 φ5 φ3 (.v ke) fe) hc hN hi ok hv (fun s H C cl fp => hg s H C cl fp) (fun s H C cl fp => ht s H C cl fp) (fun s H C cl fp => hi1 s H C cl fp) (fun s H C cl fp => hg1 s H C cl fp) (fun s H C cl fp => ht1 s H C cl fp) (fun s H C cl fp => he s H C cl fp) hs hs1) fun σ H Q h => lc2_law hT hT1 l0 l2 lM l4 l5 l3 h
/-- name = [.. for .. for ..] on one line -/
theorem gSetLc2 {P : List (Nat × Nat)} {kr : Nat} {ψ : SF} {y : Str} {py spos : Pos} (i : Nat) (own : List (Str × Nat)) (vs1 : List Nat) (φL φM : List Nat) (hN : X.N.Nodup) (ok : BlkOk X.N X.env.scope scope own) (hi : JI X Z W φ tg iter φ1 fi)
    (hg : ∀ s H C cl fp, JG (blkOf X s H scope cl C fp) Z tg T) (ht : ∀ s H C cl fp, JTs (blkOf X s H scope cl C fp) Z W0 (tgF T 0 φL) ifs φ2 ft)
    (hi1 : ∀ s H C cl fp, JI (blkOf X s H scope cl C fp) Z W0 φ2 tg1 iter1 φ4 fi1)
    (hg1 : ∀ s H C cl fp, JG (blkOf X s H scope cl C fp) Z tg1 T1) (ht1 : ∀ s H C cl fp, JTs (blkOf X s H scope cl C fp) Z W0 (tgF T1 0 φM) ifs1 φ5 ft1)
    (he : ∀ s H C cl fp, JE (blkOf X s H scope cl C fp) Z W0 φ5 elt φ3 (.v ke) fe) (hc : X.calm = true := by rfl) (hs : ∀ x, foldedSetIterable iter X.env x = pure x := by intro _; rfl) (hs1 : ∀ env x, foldedSetIterable iter1 env x = pure x := by intro _ _; rfl)
    (hy : X.N[i]? = some y := by rfl) (hyl : X.env.scope.names.lookup y = some .local := by rfl) (hsw : swapsWith (.ListComp elt [⟨tg, iter, ifs, 0⟩, ⟨tg1, iter1, ifs1, 0⟩] scope pos) (some (.Name y py)) spos.line X.env = pure true := by rfl)
    (hv : ∀ i ∈ vs1, i ∈ own.map (·.2) := by decide) (hT : ∀ i ∈ tgS T, i ∈ own.map (·.2) := by decide) (hT1 : ∀ i ∈ tgS T1, i ∈ vs1 := by decide) (l0 : leN φL φ1 = true := by rfl) (l2 : leN φL φ2 = true := by rfl) (lM : leN φL φM = true := by rfl) (l4 : leN φM φ4 = true := by rfl) (l5 : leN φM φ5 = true := by rfl) (l3 : leN φM φ3 = true := by rfl)
    (hP : P.all (fun p => p.1 != i) = true := by rfl) (hn : ψ.n = φL.set i (ke + 1) := by rfl) :
    JS X Z W P kr φ (.Assign [.Name y py] (.ListComp elt [⟨tg, iter, ifs, 0⟩, ⟨tg1, iter1, ifs1, 0⟩] scope pos) spos) ψ (setM i (comp2M T (own.map (·.2)) fi ft fi1 T1 vs1 ft1 fe)) := by
  refine ps_imp (ps_setLc2 (g := gT X.K Z T) (tt := rdT X Z W0 (tgF T 0 φL) φ2 ft) (wi1 := rdI X Z W0 φ2 φ4 fi1) (g1 := gT X.K Z T1) (tt1 := rdT X Z W0 (tgF T1 0 φM) φ5 ft1) (te := rdE X Z W0 φ5 φ3 (.v ke) fe) hc hN hy hyl hsw hi ok hv (fun s H C cl fp => hg s H C cl fp) (fun s H C cl fp => ht s H C cl fp) (fun s H C cl fp => hi1 s H C cl fp) (fun s H C cl fp => hg1 s H C cl fp) (fun s H C cl fp => ht1 s H C cl fp) (fun s H C cl fp => he s H C cl fp) hs hs1) fun D σ H ⟨L, env, pv, S, hp, q⟩ => ?_
  refine lc2_law (Q := fun x H1 => gName i x σ H1 D.nx) hT hT1 l0 l2 lM l4 l5 l3 ⟨L, env, S, q.bind.mono fun d e' q v H' s => ?_⟩
  split at q
  · rename_i hl
    rw [hn] at q
    exact (show ∀ σ' H', Stt X.K Z (φL.set i (ke + 1)) (e'.set i (some d)) [] σ' H' L → Pok P pv σ' → D.nx σ' H' from q) _ _ (s.store hl) (hp.set hP)
  · exact q.elim
end
end Lk
namespace Lk
open PySem PySem.Spec L2
section
variable {X : Cx} {Z : ClT} {W : WX} {P : List (Nat × Nat)} {kr : Nat} {φ φ1 φ2 φ3 φ' : List Nat} {ψ ψ1 ψ2 : SF} {t ta tb tc to : Tm} {ts ts2 : List Tm} {fa fb fc fo : M DV} {σ : St} {H : Hp} {L R : List Root} {env : Ev} {g1 g2 : M Fl} {a b c e o tg : Expr} {es : List Expr} {st : Stmt} {sts : List Stmt} {pos pos' p px ap : Pos} {x : Str} {k n m cap j : Nat}
/-! ### [*a, b], (a, *b) -/
def rdL (X : Cx) (Z : ClT) (W : WX) (φ φ' : List Nat) (m : Nat) (f : M (List PyData)) : TA := fun σ H Q => ∃ L env, Stt X.K Z φ env [] σ H L ∧ Wish X.K Z W L (f env) fun ds e' => ∀ vs H', ds.length = vs.length → Stt X.K Z φ' e' [] σ H' (kids m ds vs ++ L) → Q vs H'
def JL (X : Cx) (Z : ClT) (W : WX) (φ : List Nat) (es : List Expr) (φ' : List Nat) (m : Nat) (f : M (List PyData)) : Prop := PA X es (rdL X Z W φ φ' m f)
theorem jl_nil : JL X Z W φ [] φ m (M.pure []) := pa_imp pa_nil fun σ H Q ⟨L, env, S, h⟩ => h [] H rfl S
def consL (fa : M DV) (f : M (List PyData)) : M (List PyData) := fun env => (fa env).bind fun d e => match dataOf d with
  | some x => (f e).bind fun ds e2 => .ok (x :: ds) e2
  | none => .bad
def itemsP : DV → Option (List PyData)
  | .d (.list xs) => some xs
  | .d (.tuple xs) => some xs
  | _ => none
def starL (fa : M DV) (f : M (List PyData)) : M (List PyData) := fun env => (fa env).bind fun d e => match itemsP d with
  | some xs => (f e).bind fun ds e2 => .ok (xs ++ ds) e2
  | none => .bad
theorem itemsP_some {d : DV} {xs : List PyData} (h : itemsP d = some xs) : d = .d (.list xs) ∨ d = .d (.tuple xs) := by
  unfold itemsP at h
  split at h
  · cases h; exact .inl rfl
  · cases h; exact .inr rfl
  · cases h
theorem jl_cons {f : M (List PyData)} (ha : JE X Z W φ a φ1 (.v k) fa) (hm : m ≤ k) (hs : noStar a = true) (h : JL X Z W φ1 es φ2 m f) : JL X Z W φ (a :: es) φ2 m (consL fa f) := by
  refine pa_imp (pa_cons ha h (star_eq hs)) fun σ H Q ⟨L, env, S, q⟩ => ?_
  refine rdE.go S (q.bind.mono fun d e1 q1 v H1 S1 => ?_)
  cases hd : dataOf d with
  | none => rw [hd] at q1; exact q1.elim
  | some x =>
    obtain rfl := dataOf_some hd
    rw [hd] at q1
    have S2 : Stt X.K Z φ1 e1 [] σ H1 (⟨m, .d x, v⟩ :: L) := by
      refine ⟨?_, S1.al, fun _ h => nomatch h⟩
      have s := Sim.weak (n := k) S1.sim hm
      refine s.perm ?_
      show (⟨m, .d x, v⟩ :: (roots φ1 e1 σ ++ L)).Perm (roots φ1 e1 σ ++ (⟨m, .d x, v⟩ :: L))
      exact List.perm_middle.symm
    refine ⟨_, e1, S2, (Wish.frame (A := [⟨m, .d x, v⟩]) q1.bind).mono fun ds e2 q2 vs H2 hl S3 => q2 (v :: vs) H2 (by simp [hl]) ?_⟩
    refine ⟨S3.sim.perm ?_, S3.al, fun _ h => nomatch h⟩
    show (roots φ2 e2 σ ++ (kids m ds vs ++ (⟨m, .d x, v⟩ :: L))).Perm (roots φ2 e2 σ ++ (⟨m, .d x, v⟩ :: (kids m ds vs ++ L)))
    exact List.Perm.append_left _ List.perm_middle
theorem jl_star {f : M (List PyData)} {sp : Pos} (ha : JE X Z W φ a φ1 (.v k) fa) (h : JL X Z W φ1 es φ2 0 f) : JL X Z W φ (.Starred a sp :: es) φ2 0 (starL fa f) := by
  refine pa_imp (StX.pa_star ha h) fun σ H Q ⟨L, env, S, q⟩ => ?_
  refine rdE.go S (q.bind.mono fun d e1 q1 v H1 S1 => ?_)
  cases hd : itemsP d with
  | none => rw [hd] at q1; exact q1.elim
  | some xs =>
    rw [hd] at q1
    have s0 := Sim.weak (n := k) S1.sim (Nat.zero_le _)
    have fin : ∀ ws : List V, xs.length = ws.length → Sim X.K Z H1 (kids 0 xs ws ++ (roots φ1 e1 σ ++ L)) → rdL X Z W φ1 φ2 0 f σ H1 fun ys H2 => Q (ws ++ ys) H2 := fun ws hl s => by
      have S2 : Stt X.K Z φ1 e1 [] σ H1 (kids 0 xs ws ++ L) := by
        refine ⟨s.perm ?_, S1.al, fun _ h => nomatch h⟩
        exact List.perm_append_comm_assoc ..
      refine ⟨_, e1, S2, (Wish.frame (A := kids 0 xs ws) q1.bind).mono fun ds e2 q2 vs H2 hl2 S3 => q2 (ws ++ vs) H2 (by simp [hl, hl2]) ?_⟩
      refine ⟨S3.sim.perm ?_, S3.al, fun _ h => nomatch h⟩
      show (roots φ2 e2 σ ++ (kids 0 ds vs ++ (kids 0 xs ws ++ L))).Perm (roots φ2 e2 σ ++ (kids 0 (xs ++ ds) (ws ++ vs) ++ L))
      rw [kids_append hl, List.append_assoc]
      exact List.Perm.append_left _ (List.perm_append_comm_assoc ..)
    rcases itemsP_some hd with rfl | rfl
    · obtain ⟨l, ws, rfl, hl, hw, s1⟩ := s0.openL List.mem_cons_self (Nat.zero_le _)
      exact ⟨l, ws, rfl, .inr (.of hl), fin ws hw (s1.sub (List.Sublist.append_left (List.sublist_cons_self _ _) _))⟩
    · obtain ⟨l, ws, rfl, hl, hw, s1⟩ := s0.openT List.mem_cons_self (Nat.zero_le _)
      exact ⟨l, ws, rfl, .inl hl, fin ws hw (s1.sub (List.Sublist.append_left (List.sublist_cons_self _ _) _))⟩
def dispL (mk : List PyData → PyData) (f : M (List PyData)) : M DV := fun env => (f env).bind fun ds e => if ds.length ≤ big then .ok (.d (mk ds)) e else .bad
theorem gLstL {f : M (List PyData)} (m : Nat) (h : JL X Z W φ es φ' m f) : JE X Z W φ (.List es pos) φ' (.v (m + 1)) (dispL .list f) := by
  refine pe_imp (pe_lst h) fun σ H Q ⟨L, env, S, q⟩ => ⟨L, env, S, q.bind.mono fun ds e q vs H1 hl S1 => ?_⟩
  split at q
  · rename_i hb
    refine ⟨by rw [← hl, sizeLine_eq]; unfold big at hb; omega, fun p hp => ?_⟩
    refine (show ∀ v H', Stt X.K Z φ' e [⟨.v (m + 1), .d (.list ds), v⟩] σ H' L → Q v H' from q) _ _ ⟨?_, S1.al, fun z hz => by rw [List.mem_singleton.mp hz]; trivial⟩
    have s : Sim X.K Z H1 (kids m ds vs ++ (roots φ' e σ ++ L)) := Sim.perm (R := roots φ' e σ ++ (kids m ds vs ++ L)) S1.sim (List.perm_append_comm_assoc ..)
    exact s.mkL hl hp
  · exact q.elim
theorem gTupL {f : M (List PyData)} (m : Nat) (h : JL X Z W φ es φ' m f) : JE X Z W φ (.Tuple es n pos) φ' (.v (m + 1)) (dispL .tuple f) := by
  refine pe_imp (pe_tup h) fun σ H Q ⟨L, env, S, q⟩ => ⟨L, env, S, q.bind.mono fun ds e q vs H1 hl S1 => ?_⟩
  split at q
  · rename_i hb
    refine ⟨by rw [← hl, sizeLine_eq]; unfold big at hb; omega, fun p hp => ?_⟩
    refine (show ∀ v H', Stt X.K Z φ' e [⟨.v (m + 1), .d (.tuple ds), v⟩] σ H' L → Q v H' from q) _ _ ⟨?_, S1.al, fun z hz => by rw [List.mem_singleton.mp hz]; trivial⟩
    have s : Sim X.K Z H1 (kids m ds vs ++ (roots φ' e σ ++ L)) := Sim.perm (R := roots φ' e σ ++ (kids m ds vs ++ L)) S1.sim (List.perm_append_comm_assoc ..)
    exact s.mkT hl hp
  · exact q.elim
theorem gL1 {f : M (List PyData)} (ha : JE X Z W φ a φ1 (.v k) fa) (h : JL X Z W φ1 es φ2 m f) (hm : m ≤ k := by decide) (hs : noStar a = true := by rfl) : JL X Z W φ (a :: es) φ2 m (consL fa f) := jl_cons ha hm hs h
/-! ### owned lists within owned lists -/
theorem SimT.apartT {T : List Addr} {n : Nat} {ds : List PyData} {v : V} (h : SimT X.K Z H T (⟨n + 1, .d (.list ds), v⟩ :: R)) :
    ∃ a vs, v = .ref a ∧ H a = some (.lst vs) ∧ ds.length = vs.length ∧ SimT X.K Z H (a :: T) (kids n ds vs ++ R) ∧ a ∉ T := by
  obtain ⟨F, ⟨G, F1, hd, hF, rfl⟩, o⟩ := h
  cases hd with
  | d hd =>
    cases hd with
    | @lst a vs _ G' h1 h2 =>
      rw [tag_cons, tag_up] at o
      have o2 : Own (tks (a :: T) ++ (tag n G' ++ F1)) := by
        refine o.perm ?_
        show (tks T ++ ((a, true) :: (tag n G' ++ F1))).Perm ((a, true) :: (tks T ++ (tag n G' ++ F1)))
        exact List.perm_middle
      refine ⟨a, vs, rfl, h1, h2.length, ⟨_, (SimF.kids h2).join hF, o2⟩, fun hm => ?_⟩
      have := (List.pairwise_cons.mp o2).1 (a, true) (List.mem_append_left _ (List.mem_map.mpr ⟨a, hm, rfl⟩)) rfl
      exact absurd this.1 (by simp)
theorem SimT.closeT {T : List Addr} {n : Nat} {a : Addr} {ds : List PyData} {vs : List V} {ws : List V} (h : SimT X.K Z H (a :: T) (kids n ds vs ++ R)) (e : ds.length = vs.length) (ha : H a = some (.lst ws)) :
    SimT X.K Z (upd H a (.lst vs)) T (⟨n + 1, .d (.list ds), .ref a⟩ :: R) := by
  have h2 := h.write (ob := .lst vs) (by rw [ha]; simp) (by rw [ha]; simp)
  obtain ⟨F, hF, o⟩ := h2
  obtain ⟨F1, F2, q1, q2, rfl⟩ := hF.append
  obtain ⟨G, hl, rfl⟩ := q1.ofKids e
  refine ⟨(a, true) :: (tag n G ++ F2), ⟨(a, 0) :: up G, F2, .d (.lst upd_same hl), q2, ?_⟩, ?_⟩
  · rw [tag_cons, tag_up]
    rfl
  · refine o.perm ?_
    show ((a, true) :: (tks T ++ (tag n G ++ F2))).Perm (tks T ++ ((a, true) :: (tag n G ++ F2)))
    exact List.perm_middle.symm
theorem kids_at {m : Nat} {x : PyData} {v : V} : ∀ {xs : List PyData} {vs : List V} {k : Nat}, xs.length = vs.length → xs[k]? = some x → vs[k]? = some v → ∃ A B, kids m xs vs = A ++ ⟨m, .d x, v⟩ :: B ∧ (∀ y, kids m (xs.set k y) vs = A ++ ⟨m, .d y, v⟩ :: B) ∧ A.length = k
  | y :: xs, w :: vs, 0, _, h1, h2 => by
    simp at h1 h2; subst h1; subst h2
    exact ⟨[], kids m xs vs, rfl, fun _ => rfl, rfl⟩
  | y :: xs, w :: vs, k + 1, h, h1, h2 => by
    obtain ⟨A, B, e1, e2, e3⟩ := kids_at (m := m) (xs := xs) (vs := vs) (k := k) (by simpa using h) (by simpa using h1) (by simpa using h2)
    refine ⟨⟨m, .d y, w⟩ :: A, B, ?_, fun z => ?_, by simp [e3]⟩
    · show ⟨m, .d y, w⟩ :: kids m xs vs = _
      rw [e1]; rfl
    · show ⟨m, .d y, w⟩ :: kids m (xs.set k z) vs = _
      rw [e2]; rfl
  | [], _, _, _, h1, _ => by simp at h1
  | _ :: _, [], _, h, _, _ => by simp at h
def apIxO (j i z : Nat) (e : Ev) : Option Ev := match slot e j, slot e i, slot e z with
  | some (.d (.list xs)), some (.d (.int ii)), some (.d y) => (match ixN xs.length ii with
    | some k => (match xs[k]? with
      | some (.list ys) => if ys.length < big then some (e.set j (some (.d (.list (xs.set k (.list (ys ++ [y]))))))) else none
      | _ => none)
    | none => none)
  | _, _, _ => none
def apIxM (j i z : Nat) : M DV := fun e => .goE (.d .none) (apIxO j i z e)
theorem apIxO_some {j i z : Nat} {e e' : Ev} (h : apIxO j i z e = some e') : ∃ xs ii y k ys, slot e j = some (.d (.list xs)) ∧ slot e i = some (.d (.int ii)) ∧ slot e z = some (.d y) ∧ ixN xs.length ii = some k ∧ xs[k]? = some (.list ys) ∧ ys.length < big ∧ e' = e.set j (some (.d (.list (xs.set k (.list (ys ++ [y])))))) := by
  unfold apIxO at h
  split at h
  · rename_i xs ii y h1 h2 h3
    split at h
    · rename_i k hk
      split at h
      · rename_i ys hy
        split at h
        · cases h
          exact ⟨xs, ii, y, k, ys, h1, h2, h3, hk, hy, by assumption, rfl⟩
        · cases h
      · cases h
    · cases h
  · cases h
theorem upd_id {H : Hp} {a : Addr} {o : HO} (h : H a = some o) : upd H a o = H := by
  funext b
  by_cases e : b = a
  · subst e; rw [upd_same, h]
  · rw [upd_ne e]
theorem gAppendIx {y w : Str} {py pz sp : Pos} (j i z n : Nat) (hn : (φ.modify z (min 0))[j]? = some (n + 2) := by rfl) (hN : X.N[j]? = some x := by rfl) (hNi : X.N[i]? = some y := by rfl) (hNz : X.N[z]? = some w := by rfl) (hjz : j ≠ z := by decide)
    (hv : Vis X.env.scope x := by first | exact Or.inl rfl | exact Or.inr (Or.inl rfl) | exact Or.inr (Or.inr rfl)) (hvi : Vis X.env.scope y := by first | exact Or.inl rfl | exact Or.inr (Or.inl rfl) | exact Or.inr (Or.inr rfl)) (hvz : Vis X.env.scope w := by first | exact Or.inl rfl | exact Or.inr (Or.inl rfl) | exact Or.inr (Or.inr rfl))
    (hd : (x == ("__debug__" : Str)) = false := by decide) (hcd : (x == ("__classdict__" : Str)) = false := by decide) (hdi : (y == ("__debug__" : Str)) = false := by decide) (hcdi : (y == ("__classdict__" : Str)) = false := by decide) (hdz : (w == ("__debug__" : Str)) = false := by decide) (hcdz : (w == ("__classdict__" : Str)) = false := by decide)
    (hbase : attributeBase (.Subscript (.Name x px) (.Name y py) sp) "append" X.env (eval (.Subscript (.Name x px) (.Name y py) sp) X.env) = eval (.Subscript (.Name x px) (.Name y py) sp) X.env := by rfl) (hline : (ap.endLine == pos.line) = true := by rfl) :
    JE X Z W φ (.Call (.Attribute (.Subscript (.Name x px) (.Name y py) sp) "append" ap) [.Name w pz] [] pos) ((φ.modify z (min 0)).set j 2) (.v 9) (apIxM j i z) := by
  refine pe_imp (pe_bm PySem.F.plainAttrs_list PySem.F.slot_list_append PySem.F.type_list_append mt_append (pe_ix ix_list (pe_var hN hv hd hcd) (pe_var hNi hvi hdi hcdi) (noSlice_ix rfl)) (pa_cons (pe_var hNz hvz hdz hcdz) pa_nil (star_eq rfl)) hbase (few_ok (by rfl) (by simp)) hline (star_eq rfl)) fun σ H Q ⟨L, env, S, h⟩ => ?_
  unfold apIxM at h
  obtain ⟨e', he, hQ⟩ := h.goE
  obtain ⟨xs, ii, y', k, ys, s1, s2, s3, hk, hy, hb, rfl⟩ := apIxO_some he
  have S0 : Stt X.K Z (φ.modify z (min 0)) env [] σ H L := S.less (modify_le 0 φ z)
  obtain ⟨nz, vz, hz1, hz2, pz⟩ := S0.al.get s3
  obtain ⟨ni, vi, hi1, hi2, pi⟩ := S0.al.get s2
  have ei : vi = .int ii := S0.sim.int (n := ni) (List.mem_append_left L (pi.mem_iff.mpr List.mem_cons_self))
  subst ei
  have hz0 : nz = 0 := by
    rw [List.getElem?_modify] at hz1
    simp only [if_true] at hz1
    obtain ⟨q, _, rfl⟩ := Option.map_eq_some_iff.mp hz1
    omega
  subst hz0
  have S1 : Stt X.K Z (φ.modify z (min 0)) env [⟨.v 0, .d y', vz⟩] σ H L := by
    refine ⟨?_, S0.al, fun q hq => by rw [List.mem_singleton.mp hq]; trivial⟩
    exact S0.sim.dup (List.mem_append_left L (pz.mem_iff.mpr List.mem_cons_self))
  obtain ⟨l, vs, b1, b2, b3, b4⟩ := S1.slotL s1 hn
  obtain ⟨hk0, hk1⟩ := ixN_seq hk
  obtain ⟨v2, hv2⟩ : ∃ v2, vs[k]? = some v2 := ⟨vs[k]'(by omega), List.getElem?_eq_getElem (by omega)⟩
  obtain ⟨A, B, eA, eB, lenA⟩ := kids_at (m := n + 1) b3 hy hv2
  have b5 : SimT X.K Z H [l] (⟨n + 1, .d (.list ys), v2⟩ :: ((A ++ B) ++ (hrts [⟨.v 0, .d y', vz⟩] ++ (roots (φ.modify z (min 0)) (env.set j none) σ ++ L)))) := by
    rw [eA] at b4
    refine b4.perm ?_
    rw [← List.cons_append]
    exact List.Perm.append_right _ List.perm_middle
  obtain ⟨l2, ws, rfl, c1, c2, c3, c4⟩ := b5.apartT
  have hll : l2 ≠ l := fun e => c4 (by rw [e]; exact List.mem_singleton.mpr rfl)
  have hat : atI vs ii = some (.ref l2) := by
    unfold atI
    rw [← b3, hk]
    exact hv2
  refine ⟨.ref l, b1, .int ii, hi2, l, vs, ii, .ref l2, rfl, rfl, .of b2, hat, .inl ⟨rfl, ws, .of c1⟩, vz, hz2, l2, ws, vz, rfl, rfl, c1, by rw [sizeLine_eq]; unfold big at hb; omega, hQ _ _ ?_⟩
  have d1 : SimT X.K Z H [l2, l] (kids 0 (ys ++ [y']) (ws ++ [vz]) ++ ((A ++ B) ++ (roots (φ.modify z (min 0)) (env.set j none) σ ++ L))) := by
    have d0 : SimT X.K Z H [l2, l] (kids 0 ys ws ++ ((A ++ B) ++ (⟨0, .d y', vz⟩ :: (roots (φ.modify z (min 0)) (env.set j none) σ ++ L)))) := c3.less (Less.app (kids_less (Nat.zero_le _) ys ws) (Less.refl _))
    rw [kids_append c2, List.append_assoc]
    refine d0.perm (List.Perm.append_left _ ?_)
    exact List.perm_middle
  have d2 := d1.closeT (by simp [c2]) c1
  have d3 : SimT X.K Z (upd H l2 (.lst (ws ++ [vz]))) [l] (kids 1 (xs.set k (.list (ys ++ [y']))) vs ++ (roots (φ.modify z (min 0)) (env.set j none) σ ++ L)) := by
    obtain ⟨A1, B1, eA1, eB1, lenA1⟩ := kids_at (m := 1) b3 hy hv2
    have lA : Less (A ++ B) (A1 ++ B1) := by
      have l0 := kids_less (show 1 ≤ n + 1 by omega) xs vs
      rw [eA, eA1] at l0
      have key : ∀ {A A1 B B1 : List Root} {r r1 : Root}, A.length = A1.length → Less (A ++ r :: B) (A1 ++ r1 :: B1) → Less (A ++ B) (A1 ++ B1) := by
        intro A
        induction A with
        | nil =>
          intro A1 B B1 r r1 h l
          cases A1 with
          | nil => cases l with
            | cons _ t => exact t
          | cons _ _ => simp at h
        | cons a A ih =>
          intro A1 B B1 r r1 h l
          cases A1 with
          | nil => simp at h
          | cons a1 A1 =>
            cases l with
            | cons q t => exact .cons q (ih (by simpa using h) t)
      have hlen : A.length = A1.length := by rw [lenA, lenA1]
      exact key hlen l0
    rw [eB1]
    have d4 := d2.less (R' := ⟨1, .d (.list (ys ++ [y'])), .ref l2⟩ :: ((A1 ++ B1) ++ (roots (φ.modify z (min 0)) (env.set j none) σ ++ L))) (.cons ⟨Nat.le_refl _, rfl, rfl⟩ (Less.app lA (Less.refl _)))
    refine d4.perm ?_
    rw [← List.cons_append]
    exact List.Perm.append_right _ List.perm_middle.symm
  have hl1 : upd H l2 (.lst (ws ++ [vz])) l = some (.lst vs) := by rw [upd_ne (fun e => hll e.symm)]; exact b2
  have S3 := Stt.slotPut (hs := []) (m := 1) S1.al (fun _ h => nomatch h) b1 hl1 (by simp [b3]) d3
  rw [upd_id hl1] at S3
  exact ⟨S3.sim.scal (.d .non), S3.al, fun z hz => by rw [List.mem_singleton.mp hz]; trivial⟩
end
end Lk
namespace HT
open PySem PySem.Spec PyProof.Rows L2
section
variable {prog : Program} {w : World} {A : Around} {E : Value → Shared → Prop} {s : Shared}
theorem sliceApplied_rev {sl : Addr} {vs : Value} {n : Nat} {Q : Int × Int × Nat → Shared → Prop} (hs : s.heap.IsSliceOf sl .none .none vs) (ps : IsPart vs (some (-1)))
    (h : Q ((n : Int) - 1, -1, n) s) : wpAny (model prog w) A (Builtin.Slice.sliceApplied (.ref sl) (pure (n : Int))) Q E s := by
  obtain ⟨os, hos, hcs, hds⟩ := id hs
  unfold Builtin.Slice.sliceApplied Builtin.Slice.sliceFields
  refine wpAny_bind (wpAny_bind (wpAny_field hos hds (x := .none) rfl (wpAny_bind (wpAny_field hos hds (x := .none) rfl (wpAny_bind (wpAny_field hos hds (x := vs) rfl (wpAny_pure ?_)))))))
  refine wpAny_bind (slicePart_ ps ?_)
  show wpAny _ _ (if ((-1 : Int) == 0) = true then _ else _) _ _ s
  rw [if_neg (by decide)]
  refine wpAny_bind (slicePart_none (wpAny_bind (slicePart_none (wpAny_bind (wpAny_pure ?_)))))
  show wpAny _ _ (match Builtin.Slice.sliceAdjust none none (-1) (n : Int) with | (lo, hi) => pure (lo, (-1 : Int), Builtin.Slice.slicePlaces lo hi (-1))) _ _ s
  have e : Builtin.Slice.sliceAdjust none none (-1) (n : Int) = ((n : Int) - 1, -1) := by
    unfold Builtin.Slice.sliceAdjust
    simp
  rw [e]
  show wpAny _ _ (pure ((n : Int) - 1, (-1 : Int), Builtin.Slice.slicePlaces ((n : Int) - 1) (-1) (-1))) _ _ s
  have e2 : Builtin.Slice.slicePlaces ((n : Int) - 1) (-1) (-1) = n := by
    unfold Builtin.Slice.slicePlaces
    have h1 : ¬ ((-1 : Int) > 0) := by omega
    simp only [h1, if_false, Int.neg_neg, Int.ediv_one]
    split <;> omega
  rw [e2]
  exact wpAny_pure h
theorem pick_rev (xs : Array Value) : ((List.range xs.size).filterMap fun (m : Nat) => xs[(((xs.size : Nat) : Int) - 1 + (m : Int) * (-1)).toNat]?).toArray = xs.toList.reverse.toArray := by
  congr 1
  rw [← PySem.W.krv_all xs, ← List.filterMap_reverse, ← PySem.W.krv_range, List.filterMap_map]
  have key : ∀ l : List Nat, (∀ m ∈ l, m < xs.size) → l.filterMap (fun (m : Nat) => xs[(((xs.size : Nat) : Int) - 1 + (m : Int) * (-1)).toNat]?) = l.filterMap ((fun x => xs[x]?) ∘ fun k => xs.size - 1 - k) := by
    intro l
    induction l with
    | nil => intro _; rfl
    | cons m l ih =>
      intro h
      have hm := h m List.mem_cons_self
      have e : (((xs.size : Nat) : Int) - 1 + (m : Int) * (-1)).toNat = xs.size - 1 - m := by omega
      simp only [List.filterMap_cons, Function.comp_apply, e]
      rw [ih fun k hk => h k (List.mem_cons_of_mem _ hk)]
  exact key _ fun m hm => List.mem_range.mp hm
theorem getItem_tuple_rev {t sl : Addr} {items : Array Value} {vs : Value} {Q : Value → Shared → Prop} (ht : IsTup s.heap t items) (hs : s.heap.IsSliceOf sl .none .none vs) (ps : IsPart vs (some (-1)))
    (h : Q (.ref s.heap.objs.size) { s with heap := s.heap.push { cls := .type "tuple", data := .seq items.toList.reverse.toArray } })
    (hsz : items.size ≤ sizeLine) : wpAny (model prog w) A (getItem (.ref t) (.ref sl)) Q E s := by
  have htake : sizeOk (.seq items.toList.reverse.toArray) := by
    show items.toList.reverse.toArray.size ≤ sizeLine
    rw [List.size_toArray, List.length_reverse, Array.length_toList]
    exact hsz
  obtain ⟨os, hos, hcs, hds⟩ := id hs
  have hTs : s.TypeIs (.ref sl) "slice" := ⟨os, hos, hcs⟩
  unfold getItem
  try with_reducible refine wpAny_holding ?_
  first | refine wpAny_bind (wpAny_pure ?_) | skip
  refine wpAny_bind (wpAny_sequenceKey ht.typeIs (by decide) ?_)
  refine wpAny_bind (wpAny_callSpecial?_slot (name := Str.ofString "__getitem__") ht.typeIs PyProof.Rows.slot_tuple_getitem
    (wpAny_call_entry PyProof.Rows.slot_tuple_getitem ht.typeIs entry_tuple_getitem ?_ (args_tuple_getitem _ _)))
  show wpAny _ _ (Builtin.Tuple.tupleItemsOf (.ref t) >>= _) _ _ s
  refine wpAny_bind (tupleItemsOf_ ht ?_)
  refine wpAny_bind (wpAny_typeOf hTs ?_)
  rw [if_pos (by decide)]
  refine wpAny_bind (sliceApplied_rev hs ps ?_)
  have hno : ¬ (((((items.size : Nat) : Int) - 1) == 0 && (-1 : Int) == 1 && items.size == items.size) = true) := by
    intro q
    rw [Bool.and_eq_true, Bool.and_eq_true] at q
    exact absurd q.1.2 (by decide)
  show wpAny _ _ (if ((((items.size : Nat) : Int) - 1) == 0 && (-1 : Int) == 1 && items.size == items.size) = true then _ else _) _ _ s
  rw [if_neg hno, pick_rev]
  first
    | exact wpAny_bind (m := Builtin.Tuple.tupleExact _) (wpAny_newObj_type (wpAny_pure ⟨_, rfl, wpAny_pure h⟩) htake)
    | exact wpAny_bind (m := Builtin.Tuple.tupleExact _) (wpAny_newObj_type (wpAny_bind (wpAny_pure (wpAny_pure ⟨_, rfl, wpAny_pure h⟩))) htake)
end
end HT
namespace Lk
open PySem PySem.Spec L2
section
variable {X : Cx} {Z : ClT} {W : WX} {φ φ1 φ2 φ3 φ' : List Nat} {t ta tb tc to : Tm} {fa : M DV} {σ : St} {H : Hp} {L R : List Root} {env : Ev} {a b c e o tg : Expr} {k n m cap j : Nat}
def tRevT (K : PySem.W.Frag) (te : TE) : TE := fun σ H Q => te σ H fun x H1 => ∃ a xs, x = .ref a ∧ SqT K H1 a xs ∧ ∀ p, H1 p = none → Q (.ref p) (upd H1 p (.tup xs.reverse))
theorem pe_revT {e : Expr} {te : TE} {k : Nat} {p1 p2 p3 pos : Pos} (he : PE X e te) : PE X (.Subscript e (.Slice none none (some (.UnaryOp .USub (.Constant (.int 1) k p1) p2)) p3) pos) (tRevT X.K te) := by
  refine ⟨fun pins s σ H Q I h => ?_⟩
  refine PyProof.Rows.Subscript_ (thn (he.run pins s σ H _ I h) fun v s1 ⟨x, H1, I1, r1, q1⟩ => ?_)
  obtain ⟨a, xs, ex, hx, q⟩ := q1
  subst ex
  cases r1
  have hst : PO X (some (.UnaryOp .USub (.Constant (.int 1) k p1) p2)) (tPart (tUn (rU fun i => .int (-i)) (tC (.int 1)))) := po_some (pe_un un_neg pe_int)
  refine wpAny_Slice (thn (po_none.run pins s1 σ H1 (fun o H2 => o = none ∧ H2 = H1) I1 ⟨rfl, rfl⟩) fun vl s2 ⟨l, H2, I2, pl, el, e2⟩ => ?_)
  subst el e2
  refine thn (po_none.run pins s2 σ H2 (fun o H3 => o = none ∧ H3 = H2) I2 ⟨rfl, rfl⟩) fun vu s3 ⟨u, H3, I3, pu, eu, e3⟩ => ?_
  subst eu e3
  refine thn (hst.run pins s3 σ H3 (fun o H4 => o = some (-1) ∧ H4 = H3) I3 ⟨1, rfl, -1, rfl, rfl, rfl⟩) fun vs s4 ⟨o, H4, I4, ps, eo, e4⟩ => ?_
  subst eo e4
  have I5 : Inv X pins σ H4 { s4 with heap := s4.heap.push { cls := .type "slice", data := .fields #[vl, vu, vs] } } := I4.kept (t' := s4.toks) fun b ob q => Heap.get?_push_of_some _ q
  obtain ⟨its, r, ht, hz⟩ := I5.tuple hx
  have hlen := r.length
  cases pl
  cases pu
  show wpAny (model X.prog X.w) X.A (PyProof.Rows.subscriptTail e (.Slice none none (some (.UnaryOp .USub (.Constant (.int 1) k p1) p2)) p3) (.ref a) (.ref s4.heap.objs.size)) (EP X pins σ Q) X.xe { s4 with heap := s4.heap.push { cls := .type "slice", data := .fields #[.none, .none, vs] } }
  refine PyProof.Rows.tail_any (ops := [.ref a, .ref s4.heap.objs.size]) ht.typeIs (PyProof.Rows.slot_tuple_getitem.lookup) ?_ (by with_unfolding_all rfl)
  refine HT.getItem_tuple_rev ht (Heap.IsSliceOf.new _ .none .none vs) ps ?_ (by rw [List.size_toArray]; omega)
  refine ⟨.ref _, _, I5.laid (t' := s4.toks) (o := .tup xs.reverse) (fun b ob q => Heap.get?_push_of_some _ q) (Nat.le_refl _) ?_, rfl, q _ (I5.hok.fresh (Nat.le_refl _))⟩
  have e0 : its.toArray.toList.reverse = its.reverse := by simp
  rw [e0]
  exact ⟨by rw [List.length_reverse]; exact hz, _, r.reverse, PyProof.Rows.IsTup.new _ _⟩
def revD : DV → Option DV
  | .d (.list xs) => some (.d (.list xs.reverse))
  | .d (.tuple xs) => some (.d (.tuple xs.reverse))
  | _ => none
theorem kids_rev {m : Nat} : ∀ {xs : List PyData} {vs : List V}, xs.length = vs.length → kids m xs.reverse vs.reverse = (kids m xs vs).reverse
  | [], [], _ => rfl
  | x :: xs, v :: vs, h => by
    have hl : xs.length = vs.length := by simpa using h
    rw [List.reverse_cons, List.reverse_cons, kids_append (by simp [hl]), kids_rev hl]
    show _ = (⟨m, .d x, v⟩ :: kids m xs vs).reverse
    rw [List.reverse_cons]
    rfl
  | [], _ :: _, h => by simp at h
  | _ :: _, [], h => by simp at h
theorem gRev {kk : Nat} {p1 p2 p3 pos : Pos} (ha : JE X Z W φ a φ1 (.v k) fa) : JE X Z W φ (.Subscript a (.Slice none none (some (.UnaryOp .USub (.Constant (.int 1) kk p1) p2)) p3) pos) φ1 (.v 1) (un1 revD (.v k) fa) := by
  have two : PE X (.Subscript a (.Slice none none (some (.UnaryOp .USub (.Constant (.int 1) kk p1) p2)) p3) pos) (fun σ H Q => tRevL X.K (rdE X Z W φ φ1 (.v k) fa) σ H Q ∨ tRevT X.K (rdE X Z W φ φ1 (.v k) fa) σ H Q) := ⟨fun pins s σ H Q I h => h.elim (fun h => (pe_revL ha).run pins s σ H Q I h) fun h => (pe_revT ha).run pins s σ H Q I h⟩
  refine pe_imp two fun σ H Q ⟨L, env, S, h⟩ => ?_
  have h := Wish.bind (show Wish X.K Z W L ((fa env).bind fun d e => .ofO ((Tm.now (.v k) d e).bind revD) e) _ from h)
  have key : ∀ (d : DV) (e1 : Ev) (v : V) (H1 : Hp), Stt X.K Z φ1 e1 [⟨.v k, d, v⟩] σ H1 L → Wish X.K Z W L (Out.ofO ((Tm.now (.v k) d e1).bind revD) e1) (fun d e' => ∀ v H', Stt X.K Z φ1 e' [⟨.v 1, d, v⟩] σ H' L → Q v H') →
      (∃ xs, d = .d (.list xs) ∧ ∃ l vs, v = .ref l ∧ SqL X.K H1 l vs ∧ ∀ p, H1 p = none → Q (.ref p) (upd H1 p (.lst vs.reverse))) ∨ (∃ xs, d = .d (.tuple xs) ∧ ∃ l vs, v = .ref l ∧ SqT X.K H1 l vs ∧ ∀ p, H1 p = none → Q (.ref p) (upd H1 p (.tup vs.reverse))) := fun d e1 v H1 S1 q => by
    obtain ⟨r, hr, q⟩ := q.ofO
    have hr : revD d = some r := hr
    have s0 : Sim X.K Z H1 (⟨0, d, v⟩ :: (roots φ1 e1 σ ++ L)) := Sim.weak (n := k) S1.sim (Nat.zero_le _)
    unfold revD at hr
    split at hr
    · rename_i xs _
      cases hr
      obtain ⟨l, vs, rfl, hl, hw, s1⟩ := s0.openL List.mem_cons_self (Nat.zero_le _)
      refine .inl ⟨xs, rfl, l, vs, rfl, .of hl, fun p hp => q _ _ ⟨?_, S1.al, fun z hz => by rw [List.mem_singleton.mp hz]; trivial⟩⟩
      have s2 : Sim X.K Z H1 (kids 0 xs.reverse vs.reverse ++ (roots φ1 e1 σ ++ L)) := by
        rw [kids_rev hw]
        exact (s1.sub (List.Sublist.append_left (List.sublist_cons_self _ _) _)).perm (List.Perm.append_right _ (List.reverse_perm _).symm)
      exact Sim.mkL (n := 0) s2 (by simp [hw]) hp
    · rename_i xs _
      cases hr
      obtain ⟨l, vs, rfl, hl, hw, s1⟩ := s0.openT List.mem_cons_self (Nat.zero_le _)
      refine .inr ⟨xs, rfl, l, vs, rfl, hl, fun p hp => q _ _ ⟨?_, S1.al, fun z hz => by rw [List.mem_singleton.mp hz]; trivial⟩⟩
      have s2 : Sim X.K Z H1 (kids 0 xs.reverse vs.reverse ++ (roots φ1 e1 σ ++ L)) := by
        rw [kids_rev hw]
        exact (s1.sub (List.Sublist.append_left (List.sublist_cons_self _ _) _)).perm (List.Perm.append_right _ (List.reverse_perm _).symm)
      exact Sim.mkT (n := 0) s2 (by simp [hw]) hp
    · cases hr
  cases q : fa env with
  | bad => rw [q] at h; exact h.elim
  | ex c g e1 =>
    rw [q] at h
    exact .inl ⟨L, env, S, by rw [q]; exact h⟩
  | ok d e1 =>
    rw [q] at h
    have h : Wish X.K Z W L (Out.ofO ((Tm.now (.v k) d e1).bind revD) e1) _ := h
    cases d with
    | d y =>
      cases y with
      | list xs =>
        refine .inl ⟨L, env, S, ?_⟩
        rw [q]
        intro v H' s
        rcases key _ _ _ _ s h with ⟨_, _, r⟩ | ⟨_, e, _⟩
        · exact r
        · cases e
      | tuple xs =>
        refine .inr ⟨L, env, S, ?_⟩
        rw [q]
        intro v H' s
        rcases key _ _ _ _ s h with ⟨_, e, _⟩ | ⟨_, _, r⟩
        · cases e
        · exact r
      | _ => exact h.elim
    | _ => exact h.elim
end
end Lk
namespace Lk
open PySem PySem.Spec L2
section
variable {X : Cx} {Z : ClT} {W : WX} {P : List (Nat × Nat)} {kr : Nat} {φ φ1 : List Nat} {ψ : SF} {f : M (List DV)} {a b c : Expr} {pos px : Pos} {x : Str}
theorem gParC {k1 k2 : Nat} {y : Str} {py pt : Pos} {kt q2 pt2} (i j : Nat) (hg : PGs X [.Name x px, .Name y py] (gNames [i, j])) (ha : JA X Z W φ [a, b] φ1 [.v k1, .v k2] f) (hc : X.calm = true := by rfl)
    (hw : swappedStores [.Tuple [.Name x px, .Name y py] kt pt] (.Tuple [a, b] q2 pt2) X.env = pure none := by rfl)
    (hs : swapsWithSole [.Tuple [.Name x px, .Name y py] kt pt] (.Tuple [a, b] q2 pt2) pos.line X.env = pure false := by rfl)
    (h1 : (assignEach [.Tuple [.Name x px, .Name y py] kt pt] X.env).map (·.2) = [assign (.Tuple [.Name x px, .Name y py] kt pt) X.env] := by rfl)
    (hP : (P.all fun p => p.1 != i && p.1 != j) = true := by rfl) (hψ : ψ.n = (φ1.set i k1).set j k2 := by rfl) :
    JS X Z W P kr φ (.Assign [.Tuple [.Name x px, .Name y py] kt pt] (.Tuple [a, b] q2 pt2) pos) ψ (parM i j f) := by
  obtain ⟨q1, q2⟩ := tgLen_ok (env := X.env) (es := [.Name x px, .Name y py]) rfl
  refine ps_imp (ps_asg (pe_tup ha) (pg_tup hc hg q1 q2) hs hw h1) fun D σ H ⟨L, env, pv, S, hp, q⟩ => ?_
  refine ⟨L, env, S, q.bind.mono fun ds e q1 vs H1 hl hv S1 => ?_⟩
  match ds, vs, hl, hv with
  | [d1, d2], [v1, v2], _, _ =>
    have q1 : Wish X.K Z W L (if i < e.length ∧ j < e.length then Out.ok Fl.nx ((e.set i (some d1)).set j (some d2)) else .bad) _ := q1
    split at q1
    · rename_i hb
      refine ⟨by show 2 ≤ sizeLine; rw [sizeLine_eq]; omega, fun p hp0 => ⟨p, [v1, v2], rfl, .of upd_same, rfl, rfl, ?_⟩⟩
      have S1' : Stt X.K Z φ1 e [⟨.v k1, d1, v1⟩, ⟨.v k2, d2, v2⟩] σ (upd H1 p (.tup [v1, v2])) L := ⟨S1.sim.grow (grow_upd hp0), S1.al, S1.at'⟩
      have S3 := S1'.storeC (i := i) (fun h hh => by rw [List.mem_singleton.mp hh]; exact ⟨_, rfl⟩) hb.1
      have S4 := S3.storeC (i := j) (fun h hh => nomatch hh) (by rw [List.length_set]; exact hb.2)
      rw [hψ] at q1
      have hP1 : (P.all fun p => p.1 != i) = true := by
        rw [List.all_eq_true] at hP ⊢
        intro p hp; have := hP p hp; simp only [Bool.and_eq_true] at this; exact this.1
      have hP2 : (P.all fun p => p.1 != j) = true := by
        rw [List.all_eq_true] at hP ⊢
        intro p hp; have := hP p hp; simp only [Bool.and_eq_true] at this; exact this.2
      exact (show ∀ σ' H', Stt X.K Z ((φ1.set i k1).set j k2) ((e.set i (some d1)).set j (some d2)) [] σ' H' L → Pok P pv σ' → D.nx σ' H' from q1) _ _ S4 ((hp.set hP1).set hP2)
    · exact q1.elim
end
/-! ### len(set(xs)) -/
def dedI (ns : List Int) : List Int := ns.foldl PyProof.Rows.step_dedup []
theorem firstMet_all (ns : List Int) : PyProof.Rows.firstMet (fun i => ns.getD i 0) ns.length = dedI ns := by
  unfold PyProof.Rows.firstMet dedI
  congr 1
  apply List.ext_getElem?
  intro m
  rw [List.getElem?_map]
  by_cases h : m < ns.length
  · rw [List.getElem?_range h]
    simp [List.getElem?_eq_getElem h]
  · rw [List.getElem?_eq_none (by simpa using h), List.getElem?_eq_none (by omega)]
    rfl
theorem dedI_len (ns : List Int) : (dedI ns).length ≤ ns.length := by
  rw [← firstMet_all]
  exact PyProof.Rows.firstMet_length_le _ _
def tLenSetG (K : PySem.W.Frag) (ta : TE) : TE := fun σ H Q => ta σ H fun x H1 => ∃ (l : Addr) (ns : List Int), x = .ref l ∧ SqL K H1 l (ns.map V.int) ∧ ns.length ≤ 4000 ∧ Q (.int ((dedI ns).length : Nat)) H1
section
open PyProof.Rows
theorem pe_lenSetG {X : Cx} {a : Expr} {ta : TE} {p p2 q pos : Pos} (hg : Gl X "len") (hm : X.mg "len" = none) (hg2 : Gl X "set") (hm2 : X.mg "set" = none) (ha : PE X a ta) (hc : X.calm = true := by rfl)
    (na : starEach [a] X.env = (false, eval a X.env) :: starEach [] X.env := by rfl) : PE X (.Call (.Name "len" p) [.Call (.Name "set" p2) [a] [] q] [] pos) (tLenSetG X.K ta) := by
  refine ⟨fun pins s σ H Q I h => ?_⟩
  refine Call_ (ld_blt I hg hm boot_len ?_)
  refine PyProof.Rows.callWith_builtin1 (PyProof.Rows.args_cons ?_ rfl) rfl rfl
  refine Call_ (ld_blt I hg2 hm2 boot_set ?_)
  refine PyProof.Rows.callWith_type1 (PyProof.Rows.args_cons (thn (ha.run pins s σ H _ I h) fun v s1 ⟨x, H1, I1, r1, q1⟩ => PyProof.Rows.args_nil ?_) na) na rfl
  obtain ⟨l, ns, rfl, hq, hl, q1⟩ := q1
  cases r1
  obtain ⟨its, r, pl, hz⟩ := I1.list hq
  have hlen : its.toArray.size = ns.length := by rw [List.size_toArray, ← r.length, List.length_map]
  refine call_set_list (I1.ok.hd hc) pl.isList (by simpa using RZ.intsAre_vals r) (by rw [hlen]; unfold scanBound; omega) fun h' tk hS hk => ?_
  refine PyProof.Rows.args_nil ?_
  rw [hlen, firstMet_all] at hS
  obtain ⟨o, es, ep, t, ho, hex, hd, _, _, _, hf, hn⟩ := hS
  have dl := dedI_len ns
  have I2 : Inv X pins σ H1 { s1 with heap := h', toks := tk } := I1.kept fun b o e => hk b o (Heap.lt_size e) e
  exact call_len_set ho hex hd hf (by rw [hn] <;> omega) ⟨.int ((dedI ns).length : Nat), H1, I2.tok _, ⟨_, by rw [hn]⟩, q1⟩
end
def lenSetD : DV → Option DV
  | .d (.list xs) => (getIs xs).bind fun ns => if ns.length ≤ 4000 then some (.d (.int (dedI ns).length)) else none
  | _ => none
theorem gLenSet {X : Cx} {Z : ClT} {W : WX} {φ φ1 : List Nat} {k : Nat} {fa : M DV} {a : Expr} {p p2 q pos : Pos} (hm : X.mg "len" = none) (hm2 : X.mg "set" = none) (ha : JE X Z W φ a φ1 (.v k) fa) (hc : X.calm = true := by rfl) (hg : Gl X "len" := by rfl) (hg2 : Gl X "set" := by rfl) (hs : noStar a = true := by rfl) :
    JE X Z W φ (.Call (.Name "len" p) [.Call (.Name "set" p2) [a] [] q] [] pos) φ1 (.v 9) (un1 lenSetD (.v k) fa) := by
  refine pe_imp (pe_lenSetG hg hm hg2 hm2 ha hc (star_eq hs)) fun σ H Q ⟨L, env, S, h⟩ => ?_
  refine ⟨L, env, S, h.bind.mono fun d e1 q v H1 S1 => ?_⟩
  obtain ⟨r, hr, q⟩ := q.ofO
  have hr : lenSetD d = some r := hr
  have s0 : Sim X.K Z H1 (⟨k, d, v⟩ :: (roots φ1 e1 σ ++ L)) := S1.sim
  unfold lenSetD at hr
  split at hr
  · rename_i xs
    obtain ⟨ns, hns, hr⟩ := Option.bind_eq_some_iff.mp hr
    split at hr
    · rename_i hl
      cases hr
      obtain ⟨a, vs, G, rfl, h1, h2⟩ := s0.listOf List.mem_cons_self
      rw [getIs_eq hns] at h2
      refine ⟨a, ns, rfl, .of (by rw [h1, h2.ints]), hl, q _ _ ⟨?_, S1.al, fun z hz => by rw [List.mem_singleton.mp hz]; trivial⟩⟩
      exact (s0.sub (List.sublist_cons_self _ _)).cint
    · cases hr
  · cases hr
end Lk
namespace Lk
open PySem PySem.Spec L2
section
variable {α β : Type}
theorem bind_ok {a : α} {e : Ev} {f : α → Ev → Out β} : (Out.ok a e).bind f = f a e := rfl
theorem bind_ex {c : Nat} {g : PyData} {e : Ev} {f : α → Ev → Out β} : (Out.ex c g e : Out α).bind f = .ex c g e := rfl
theorem bind_bad {f : α → Ev → Out β} : (Out.bad : Out α).bind f = .bad := rfl
theorem ofO_some {a : α} {e : Ev} : Out.ofO (some a) e = .ok a e := rfl
theorem goE_some {a : α} {e : Ev} : Out.goE a (some e) = .ok a e := rfl
theorem pure_ev {a : α} {e : Ev} : M.pure a e = .ok a e := rfl
theorem noEx_ok {a : α} {e : Ev} : noEx (.ok a e) = .ok a e := rfl
@[simp] theorem slot_0 {d : Option DV} {e : Ev} : slot (d :: e) 0 = d := by simp [slot]
@[simp] theorem slot_s {d : Option DV} {e : Ev} {i : Nat} : slot (d :: e) (i + 1) = slot e i := by simp [slot]
theorem slot_1 {d d1 : Option DV} {e : Ev} : slot (d :: d1 :: e) 1 = d1 := by simp [slot]
@[simp] theorem now_sl {i : Nat} {d : DV} {e : Ev} : (Tm.sl i).now d e = slot e i := rfl
@[simp] theorem now_v {k : Nat} {d : DV} {e : Ev} : (Tm.v k).now d e = some d := rfl
theorem slotM_ev {i : Nat} {e : Ev} : slotM i e = match slot e i with
  | some d => .ok d e
  | none => .bad := rfl
theorem seqM_ev {g1 g2 : M Fl} {e : Ev} : seqM g1 g2 e = (g1 e).bind fun fl e' => match fl with
  | .nx => g2 e'
  | .br => .ok .br e'
  | .ct => .ok .ct e'
  | .rt d => .ok (.rt d) e' := rfl
theorem nxM_ev {e : Ev} : nxM e = .ok .nx e := rfl
theorem ifS_ev {ft : M Bool} {g1 g2 : M Fl} {e : Ev} : ifS ft g1 g2 e = (ft e).bind fun b e' => match b with
  | true => g1 e'
  | false => g2 e' := rfl
theorem ifM_ev {ft : M Bool} {g1 g2 : M DV} {e : Ev} : ifM ft g1 g2 e = (ft e).bind fun b e' => match b with
  | true => g1 e'
  | false => g2 e' := rfl
theorem asB_ev {t : Tm} {f : M DV} {e : Ev} : asB t f e = (f e).bind fun d e => match t.now d e with
  | some (.d (.bool b)) => .ok b e
  | _ => .bad := rfl
theorem op2_ev {g : DV → DV → Option DV} {ta tb : Tm} {fa fb : M DV} {e : Ev} : op2 g ta tb fa fb e = (fa e).bind fun d e1 => (fb e1).bind fun d' e2 => match ta.now d e2, tb.now d' e2 with
  | some x, some y => (match g x y with
    | some r => .ok r e2
    | none => .bad)
  | _, _ => .bad := rfl
theorem setM_ev {i : Nat} {fa : M DV} {e : Ev} : setM i fa e = (fa e).bind fun d e => if i < e.length then .ok .nx (e.set i (some d)) else .bad := rfl
theorem consM_ev {fa : M DV} {f : M (List DV)} {e : Ev} : consM fa f e = (fa e).bind fun d e => (f e).bind fun ds e2 => .ok (d :: ds) e2 := rfl
theorem callM_ev {g : List DV → Option DV} {ts : List Tm} {f : M (List DV)} {e : Ev} : callM g ts f e = (f e).bind fun ds e => match nowsD ts ds e with
  | some xs => (match g xs with
    | some r => .ok r e
    | none => .bad)
  | none => .bad := rfl
theorem callF_ev {F : List DV → Res} {ms : List Md} {ts : List Tm} {f : M (List DV)} {e : Ev} : callF F ms ts f e = (f e).bind fun ds e => match nowsD ts ds e with
  | some xs => (match F xs with
    | .ok d outs => (match putM ms ts outs (clrM ts e) with
      | some e' => .ok d e'
      | none => .bad)
    | .ex c g => .ex c g (clrM ts e)
    | .bad => .bad)
  | none => .bad := rfl
@[simp] theorem nowsD_nil {e : Ev} : nowsD [] [] e = some [] := rfl
@[simp] theorem nowsD_cons {t : Tm} {ts : List Tm} {d : DV} {ds : List DV} {e : Ev} : nowsD (t :: ts) (d :: ds) e = match t.now d e, nowsD ts ds e with
  | some x, some xs => some (x :: xs)
  | _, _ => none := rfl
theorem stM_ev {j : Nat} {fv : M DV} {ti : Tm} {fi : M DV} {e : Ev} : stM j fv ti fi e = (fv e).bind fun d e1 => (slotM j e1).bind fun _ e1 => (fi e1).bind fun i e2 => .goE .nx (stO j d (ti.now i e2) e2) := rfl
theorem apM_ev {j : Nat} {fa : M DV} {e : Ev} : apM j fa e = (lstM j e).bind fun _ e => (fa e).bind fun d e => .goE (.d .none) (apO j d e) := rfl
theorem lstM_ev {j : Nat} {e : Ev} : lstM j e = match slot e j with
  | some (.d (.list _)) => .ok () e
  | _ => .bad := rfl
theorem retM_ev {P : List (Nat × Nat)} {fa : M DV} {e : Ev} : retM P fa e = (fa e).bind fun d e => match outsAt P e with
  | some _ => .ok (.rt d) e
  | none => .bad := rfl
@[simp] theorem outsAt_nil {e : Ev} : outsAt [] e = some [] := rfl
@[simp] theorem outsAt_cons {i m : Nat} {P : List (Nat × Nat)} {e : Ev} : outsAt ((i, m) :: P) e = match slot e i, outsAt P e with
  | some d, some ds => some (d :: ds)
  | _, _ => none := rfl
theorem dropM_ev {fa : M DV} {e : Ev} : dropM fa e = (fa e).bind fun _ e => .ok .nx e := rfl
theorem asgM_ev {T : Tgt} {fa : M DV} {e : Ev} : asgM T fa e = (fa e).bind fun d e => (tgM T d e).bind fun _ e' => .ok .nx e' := rfl
theorem tgM_nm {i : Nat} {d : DV} {e : Ev} : tgM (.nm i) d e = if i < e.length then .ok () (e.set i (some d)) else .bad := rfl
theorem tgM_tp {is : List Nat} {ds : List PyData} {e : Ev} : tgM (.tp is) (.d (.tuple ds)) e = if ds.length = is.length ∧ is.all (fun i => decide (i < e.length)) = true then .ok () (setAll is (ds.map .d) e) else .bad := rfl
theorem tgM_tl {is : List Nat} {ds : List PyData} {e : Ev} : tgM (.tp is) (.d (.list ds)) e = if ds.length = is.length ∧ is.all (fun i => decide (i < e.length)) = true then .ok () (setAll is (ds.map .d) e) else .bad := rfl
@[simp] theorem setAll_nil {α : Type} {vs : List α} {σ : List (Option α)} : setAll [] vs σ = σ := by unfold setAll; rfl
@[simp] theorem setAll_cons {α : Type} {i : Nat} {is : List Nat} {v : α} {vs : List α} {σ : List (Option α)} : setAll (i :: is) (v :: vs) σ = setAll is vs (σ.set i (some v)) := rfl
theorem forS_ev {T : Tgt} {fi : M (List DV)} {g : M Fl} {e : Ev} : forS T fi g e = (fi e).bind fun items e1 => forM T g items e1 := rfl
theorem seqI_ev {fa : M DV} {e : Ev} : seqI fa e = (fa e).bind fun d e => .ofO (itemsOf d) e := rfl
theorem andM_ev {f g : M Bool} {e : Ev} : andM f g e = (f e).bind fun b e => match b with
  | true => g e
  | false => .ok false e := rfl
theorem orM_ev {f g : M Bool} {e : Ev} : orM f g e = (f e).bind fun b e => match b with
  | true => .ok true e
  | false => g e := rfl
theorem notM_ev {f : M Bool} {e : Ev} : notM f e = (f e).bind fun b e => .ok (!b) e := rfl
theorem andV_ev {t : Tm} {f g : M DV} {e : Ev} : andV t f g e = (asB t f e).bind fun b e => match b with
  | true => g e
  | false => .ok (.d (.bool false)) e := rfl
theorem orV_ev {t : Tm} {f g : M DV} {e : Ev} : orV t f g e = (asB t f e).bind fun b e => match b with
  | true => .ok (.d (.bool true)) e
  | false => g e := rfl
theorem notV_ev {t : Tm} {f : M DV} {e : Ev} : notV t f e = ((asB t f e).bind fun b e => .ok (!b) e).bind fun b e => .ok (.d (.bool b)) e := rfl
theorem truM_ev {t : Tm} {f : M DV} {e : Ev} : truM t f e = (f e).bind fun d e => match t.now d e with
  | some x => (match truD x with
    | some b => .ok b e
    | none => .bad)
  | none => .bad := rfl
theorem dispM_ev {mk : List PyData → PyData} {f : M (List DV)} {e : Ev} : dispM mk f e = (f e).bind fun ds e => match getDs ds with
  | some xs => if xs.length ≤ big then .ok (.d (mk xs)) e else .bad
  | none => .bad := rfl
@[simp] theorem getDs_nil : getDs [] = some [] := rfl
@[simp] theorem getDs_cons {x : PyData} {r : List DV} : getDs (.d x :: r) = match getDs r with
  | some xs => some (x :: xs)
  | none => none := rfl
theorem isiM_ev {T : String} {t : Tm} {f : M DV} {e : Ev} : isiM T t f e = (f e).bind fun d e => .ofO ((t.now d e).bind fun x => (tyName x).map fun n => .d (.bool (isTy n T))) e := rfl
theorem compM_ev {T : Tgt} {vs : List Nat} {fi : M (List DV)} {ft : M Bool} {fe : M DV} {e : Ev} : compM T vs fi ft fe e = (fi e).bind fun items e1 => (compGo T vs ft fe items [] (wipeE vs e1)).bind fun xs e2 => .ok (.d (.list xs)) (restE vs e1 e2) := rfl
theorem parM_ev {i j : Nat} {f : M (List DV)} {e : Ev} : parM i j f e = (f e).bind fun ds e => match ds with
  | [a, b] => if i < e.length ∧ j < e.length then .ok .nx ((e.set i (some a)).set j (some b)) else .bad
  | _ => .bad := rfl
theorem rg1M_ev {t : Tm} {f : M DV} {e : Ev} : rg1M t f e = (f e).bind fun d e => .ofO (rgD (some (.d (.int 0))) (t.now d e)) e := rfl
theorem rg2M_ev {ta tb : Tm} {fa fb : M DV} {e : Ev} : rg2M ta tb fa fb e = (fa e).bind fun d e1 => (fb e1).bind fun d' e => .ofO (rgD (ta.now d e) (tb.now d' e)) e := rfl
theorem rg1I_ev {t : Tm} {f : M DV} {e : Ev} : rg1I t f e = (f e).bind fun d e => .ofO (rgI (some (.d (.int 0))) (t.now d e)) e := rfl
theorem rg2I_ev {ta tb : Tm} {fa fb : M DV} {e : Ev} : rg2I ta tb fa fb e = (fa e).bind fun d e1 => (fb e1).bind fun d' e => .ofO (rgI (ta.now d e) (tb.now d' e)) e := rfl
theorem slM_ev {ta : Tm} {fa : M DV} {fl fh : M (Option Int)} {e : Ev} : slM ta fa fl fh e = (fa e).bind fun d e1 => (fl e1).bind fun lo e2 => (fh e2).bind fun hi e => .ofO ((ta.now d e).bind fun x => slD x lo hi) e := rfl
theorem someI_ev {t : Tm} {f : M DV} {e : Ev} : someI t f e = (f e).bind fun d e => .ofO (intD (t.now d e)) e := rfl
theorem mthM_ev {T : String} {g : DV → List DV → Option DV} {to : Tm} {fo : M DV} {ts : List Tm} {f : M (List DV)} {e : Ev} : mthM T g to fo ts f e = (fo e).bind fun d e1 => (tyChk T to d e1).bind fun _ e1 => (f e1).bind fun ds e2 => .ofO ((to.now d e2).bind fun x => (nowsD ts ds e2).bind fun xs => g x xs) e2 := rfl
theorem tyChk_ev {T : String} {t : Tm} {d : DV} {e : Ev} : tyChk T t d e = match t.now d e with
  | some x => if tyD x = T then .ok () e else .bad
  | none => .bad := rfl
theorem zipI_ev {fa fb : M DV} {e : Ev} : zipI fa fb e = (fa e).bind fun d e1 => (fb e1).bind fun d' e => .ofO (zipD (some d) (some d')) e := rfl
theorem chM_ev {g g' : DV → DV → Option DV} {ta tb tc : Tm} {fa fb fc : M DV} {env : Ev} : chM g g' ta tb tc fa fb fc env = (fa env).bind fun d e1 => (fb e1).bind fun d' e2 =>
  match ta.now d e2, tb.now d' e2 with
  | some x, some y => (match g x y with
    | some (.d (.bool true)) => (fc e2).bind fun d'' e3 => (match tb.now d' e3, tc.now d'' e3 with
      | some y, some z => (match g' y z with
        | some (.d (.bool r)) => .ok (.d (.bool r)) e3
        | _ => .bad)
      | _, _ => .bad)
    | some (.d (.bool false)) => .ok (.d (.bool false)) e2
    | _ => .bad)
  | _, _ => .bad := rfl
/-! restoring the slots of a comprehension, wiping -/
@[simp] theorem wipeE_nil {e : Ev} : wipeE [] e = e := rfl
@[simp] theorem wipeE_cons {v : Nat} {vs : List Nat} {e : Ev} : wipeE (v :: vs) e = (wipeE vs e).set v none := rfl
@[simp] theorem restE_nil {e e2 : Ev} : restE [] e e2 = e2 := rfl
@[simp] theorem restE_cons {v : Nat} {vs : List Nat} {e e2 : Ev} : restE (v :: vs) e e2 = restE vs e (e2.set v (slot (wipeE vs e) v)) := rfl
/-! operations -/
@[simp] theorem lift2_d {g : PyData → PyData → Option PyData} {x y : PyData} : lift2 g (.d x) (.d y) = (g x y).map .d := rfl
@[simp] theorem oneD_d {g : PyData → Option PyData} {x : PyData} : oneD g [.d x] = (g x).map .d := rfl
@[simp] theorem twoD_d {g : PyData → PyData → Option PyData} {x y : PyData} : twoD g [.d x, .d y] = (g x y).map .d := rfl
@[simp] theorem cmpP_ii {op : CmpOp} {i j : Int} : cmpP op (.int i) (.int j) = some (.bool (opI op i j)) := by
  unfold cmpP
  rw [if_pos (by simp [SeqAt.shaped, PyData.canLay0, PyData.depth])]
  rfl
@[simp] theorem opI_lt {i j : Int} : opI .Lt i j = decide (i < j) := rfl
@[simp] theorem opI_le {i j : Int} : opI .LtE i j = decide (i ≤ j) := rfl
@[simp] theorem opI_gt {i j : Int} : opI .Gt i j = decide (j < i) := rfl
@[simp] theorem opI_ge {i j : Int} : opI .GtE i j = decide (j ≤ i) := rfl
@[simp] theorem eqP_ii {i j : Int} : eqP (.int i) (.int j) = some (.bool (decide (i = j))) := by
  unfold eqP
  rw [if_pos (by simp [SeqAt.shaped, PyData.canLay0, PyData.depth])]
  simp [PyData.eqv]
  rfl
@[simp] theorem addP_ii {i j : Int} : addP (.int i) (.int j) = some (.int (i + j)) := rfl
@[simp] theorem subP_ii {i j : Int} : subP (.int i) (.int j) = some (.int (i - j)) := rfl
@[simp] theorem modP_ii {i j : Int} : modP (.int i) (.int j) = if 0 < j then some (.int (i % j)) else none := rfl
@[simp] theorem divP_ii {i j : Int} : divP (.int i) (.int j) = if 0 < j ∧ j < 1073741824 then some (.int (i / j)) else none := rfl
@[simp] theorem mulP_ii {i j : Int} : mulP (.int i) (.int j) = if (-(2 ^ 64) < i ∧ i < 2 ^ 64) ∨ (-(2 ^ 64) < j ∧ j < 2 ^ 64) then some (.int (i * j)) else none := rfl
@[simp] theorem intP_i {i : Int} : intP (.int i) = some (.int i) := rfl
@[simp] theorem ixD_l {xs : List PyData} {i : Int} : ixD (.d (.list xs)) (.d (.int i)) = (atI xs i).map .d := rfl
@[simp] theorem ixD_t {xs : List PyData} {i : Int} : ixD (.d (.tuple xs)) (.d (.int i)) = (atI xs i).map .d := rfl
@[simp] theorem ixD_sc {ns : List Int} {i : Int} : ixD (.s ns) (.d (.int i)) = (atI ns i).map fun n => .d (.int n) := rfl
@[simp] theorem dataOf_d {x : PyData} : dataOf (.d x) = some x := rfl
@[simp] theorem intO_i {i : Int} : intO (some (.d (.int i))) = some i := rfl
theorem atI_0 {α : Type} {x : α} {xs : List α} : atI (x :: xs) 0 = some x := by simp [atI, ixN]
theorem atI_1 {α : Type} {x y : α} {xs : List α} : atI (x :: y :: xs) 1 = some y := by
  unfold atI ixN
  rw [if_pos (by omega), if_pos (by simp only [List.length_cons]; omega)]
  rfl
theorem atI_2 {α : Type} {x y z : α} {xs : List α} : atI (x :: y :: z :: xs) 2 = some z := by
  unfold atI ixN
  rw [if_pos (by omega), if_pos (by simp only [List.length_cons]; omega)]
  rfl
end
@[simp] theorem big_1 : 1 ≤ big := by decide
@[simp] theorem big_2 : 2 ≤ big := by decide
@[simp] theorem big_3 : 3 ≤ big := by decide
@[simp] theorem big_4 : 4 ≤ big := by decide
@[simp] theorem big_5 : 5 ≤ big := by decide
@[simp] theorem big_6 : 6 ≤ big := by decide
@[simp] theorem big_7 : 7 ≤ big := by decide
@[simp] theorem big_8 : 8 ≤ big := by decide
@[simp] theorem big_9 : 9 ≤ big := by decide
@[simp] theorem big_10 : 10 ≤ big := by decide
@[simp] theorem big_11 : 11 ≤ big := by decide
end Lk
namespace Lk
open PySem PySem.Spec L2
/-- can be compared, n deep at most -/
def Shp (n : Nat) (x : PyData) : Prop := x.canLay0 = true ∧ x.depth ≤ n
theorem Shp.mono {m n : Nat} {x : PyData} (h : Shp m x) (hn : m ≤ n) : Shp n x := ⟨h.1, Nat.le_trans h.2 hn⟩
theorem Shp.ok {n : Nat} {x : PyData} (h : Shp n x) (hn : n ≤ 64 := by decide) : SeqAt.shaped x = true := by
  unfold SeqAt.shaped
  rw [h.1, Bool.true_and]
  exact decide_eq_true (Nat.le_trans h.2 hn)
theorem shp_int {i : Int} : Shp 0 (.int i) := ⟨by simp [PyData.canLay0], by simp [PyData.depth]⟩
theorem shp_bool {i : Bool} : Shp 0 (.bool i) := ⟨by simp [PyData.canLay0], by simp [PyData.depth]⟩
theorem shp_none : Shp 0 .none := ⟨by simp [PyData.canLay0], by simp [PyData.depth]⟩
theorem shpAll {n : Nat} : ∀ {xs : List PyData}, (∀ x ∈ xs, Shp n x) → PyData.canLayAll0 xs = true ∧ PyData.depthAll xs ≤ n
  | [], _ => ⟨by simp [PyData.canLayAll0], by simp [PyData.depthAll]⟩
  | x :: xs, h => by
    obtain ⟨q1, q2⟩ := shpAll fun y hy => h y (List.mem_cons_of_mem _ hy)
    obtain ⟨p1, p2⟩ := h x List.mem_cons_self
    refine ⟨by simp [PyData.canLayAll0, p1, q1], ?_⟩
    simp only [PyData.depthAll]
    omega
theorem shp_list {n : Nat} {xs : List PyData} (h : ∀ x ∈ xs, Shp n x) : Shp (n + 1) (.list xs) := by
  obtain ⟨q1, q2⟩ := shpAll h
  exact ⟨by simpa [PyData.canLay0] using q1, by simp only [PyData.depth]; omega⟩
theorem shp_tuple {n : Nat} {xs : List PyData} (h : ∀ x ∈ xs, Shp n x) : Shp (n + 1) (.tuple xs) := by
  obtain ⟨q1, q2⟩ := shpAll h
  exact ⟨by simpa [PyData.canLay0] using q1, by simp only [PyData.depth]; omega⟩
theorem shp_ints {is : List Int} : Shp 1 (.list (is.map .int)) := shp_list fun x hx => by
  obtain ⟨i, _, rfl⟩ := List.mem_map.mp hx
  exact shp_int
theorem shp_pair {p : Int × Int} : Shp 1 (pairD p) := shp_tuple fun x hx => by
  simp only [List.mem_cons, List.not_mem_nil, or_false] at hx
  rcases hx with rfl | rfl <;> exact shp_int
theorem shp_pairs {ps : List (Int × Int)} : Shp 2 (.list (ps.map pairD)) := shp_list fun x hx => by
  obtain ⟨i, _, rfl⟩ := List.mem_map.mp hx
  exact shp_pair
theorem shp_pairsT {ps : List (Int × Int)} : Shp 2 (.tuple (ps.map pairD)) := shp_tuple fun x hx => by
  obtain ⟨i, _, rfl⟩ := List.mem_map.mp hx
  exact shp_pair
theorem shp_nil : Shp 0 (.list []) → False := fun h => by
  have := h.2
  simp [PyData.depth] at this
theorem eqP_s {m n : Nat} {x y : PyData} (hx : Shp m x) (hy : Shp n y) (h1 : m ≤ 64 := by decide) (h2 : n ≤ 64 := by decide) : eqP x y = some (.bool (PyData.eqv x y)) := by
  unfold eqP
  rw [hx.ok h1, hy.ok h2, Bool.and_self, Bool.or_true, if_pos rfl]
theorem neP_s {m n : Nat} {x y : PyData} (hx : Shp m x) (hy : Shp n y) (h1 : m ≤ 64 := by decide) (h2 : n ≤ 64 := by decide) : neP x y = some (.bool (!PyData.eqv x y)) := by
  unfold neP
  rw [hx.ok h1, hy.ok h2, Bool.and_self, Bool.or_true, if_pos rfl]
theorem neP_str {x y : Str} : neP (.str x) (.str y) = some (.bool (!PyData.eqv (.str x) (.str y))) := by
  unfold neP bothS
  simp
theorem eqP_str {x y : Str} : eqP (.str x) (.str y) = some (.bool (PyData.eqv (.str x) (.str y))) := by
  unfold eqP bothS
  simp
theorem inP_l {m n : Nat} {x : PyData} {ys : List PyData} (hx : Shp m x) (hy : Shp n (.list ys)) (h1 : m ≤ 64 := by decide) (h2 : n ≤ 64 := by decide) : inP x (.list ys) = some (.bool (ys.any fun z => PyData.eqv z x)) := by
  unfold inP
  simp only
  rw [hx.ok h1, hy.ok h2]; rfl
theorem inP_t {m n : Nat} {x : PyData} {ys : List PyData} (hx : Shp m x) (hy : Shp n (.tuple ys)) (h1 : m ≤ 64 := by decide) (h2 : n ≤ 64 := by decide) : inP x (.tuple ys) = some (.bool (ys.any fun z => PyData.eqv z x)) := by
  unfold inP
  simp only
  rw [hx.ok h1, hy.ok h2]; rfl
theorem eqv_int {i j : Int} : PyData.eqv (.int i) (.int j) = decide (i = j) := by
  simp only [PyData.eqv]
  by_cases h : i = j
  · simp [h]
  · simp [h]
theorem eqv_pair {p q : Int × Int} : PyData.eqv (pairD p) (pairD q) = decide (p = q) := by
  obtain ⟨a, b⟩ := p
  obtain ⟨c, d⟩ := q
  simp only [pairD, PyData.eqv, PyData.eqvAll, Bool.and_true]
  by_cases h1 : a = c <;> by_cases h2 : b = d <;> simp [h1, h2]
theorem eqv_nil {xs : List PyData} : PyData.eqv (.list xs) (.list []) = xs.isEmpty := by
  cases xs <;> simp [PyData.eqv, PyData.eqvAll]
mutual
theorem eqv_refl : ∀ x : PyData, x.canLay0 = true → PyData.eqv x x = true
  | .none, _ => rfl
  | .bool b, _ => by simp [PyData.eqv]
  | .int b, _ => by simp [PyData.eqv]
  | .str b, _ => by simp [PyData.eqv]
  | .list xs, h => by
    simp only [PyData.eqv]
    exact eqvAll_refl xs (by simpa [PyData.canLay0] using h)
  | .tuple xs, h => by
    simp only [PyData.eqv]
    exact eqvAll_refl xs (by simpa [PyData.canLay0] using h)
  | .dict _, h => absurd h (by simp [PyData.canLay0])
theorem eqvAll_refl : ∀ xs : List PyData, PyData.canLayAll0 xs = true → PyData.eqvAll xs xs = true
  | [], _ => by simp [PyData.eqvAll]
  | x :: xs, h => by
    simp only [PyData.canLayAll0, Bool.and_eq_true] at h
    simp only [PyData.eqvAll, Bool.and_eq_true]
    exact ⟨eqv_refl x h.1, eqvAll_refl xs h.2⟩
end
/-! no truth values inside: equality is equality -/
mutual
def noB : PyData → Bool
  | .bool _ => false
  | .dict _ => false
  | .list xs => noBs xs
  | .tuple xs => noBs xs
  | _ => true
def noBs : List PyData → Bool
  | [] => true
  | x :: xs => noB x && noBs xs
end
mutual
theorem eqv_eq : ∀ x y : PyData, noB x = true → noB y = true → PyData.eqv x y = true → x = y
  | .none, y, _, hy, h => by cases y <;> simp [PyData.eqv] at h ⊢
  | .bool b, _, hx, _, _ => absurd hx (by simp [noB])
  | .dict b, _, hx, _, _ => absurd hx (by simp [noB])
  | .int i, y, _, hy, h => by cases y <;> simp [PyData.eqv, noB] at h hy ⊢; exact h
  | .str i, y, _, hy, h => by cases y <;> simp [PyData.eqv, noB] at h hy ⊢; exact h
  | .list xs, y, hx, hy, h => by
    cases y <;> simp only [PyData.eqv, Bool.false_eq_true] at h
    rw [eqvAll_eq xs _ (by simpa [noB] using hx) (by simpa [noB] using hy) h]
  | .tuple xs, y, hx, hy, h => by
    cases y <;> simp only [PyData.eqv, Bool.false_eq_true] at h
    rw [eqvAll_eq xs _ (by simpa [noB] using hx) (by simpa [noB] using hy) h]
theorem eqvAll_eq : ∀ xs ys : List PyData, noBs xs = true → noBs ys = true → PyData.eqvAll xs ys = true → xs = ys
  | [], ys, _, _, h => by cases ys <;> simp [PyData.eqvAll] at h ⊢
  | x :: xs, [], _, _, h => by simp [PyData.eqvAll] at h
  | x :: xs, y :: ys, hx, hy, h => by
    simp only [noBs, Bool.and_eq_true] at hx hy
    simp only [PyData.eqvAll, Bool.and_eq_true] at h
    rw [eqv_eq x y hx.1 hy.1 h.1, eqvAll_eq xs ys hx.2 hy.2 h.2]
end
end Lk
namespace Lk
open PySem PySem.Spec L2
section
variable {α β : Type}
abbrev XQ := Nat → PyData → Ev → Prop
abbrev XK {α : Type} (_ : α → Ev → Prop) := Nat → PyData → Ev → Prop
abbrev RK (_ : DV → List DV → Prop) := Nat → PyData → Prop
def Out.sat (o : Out α) (Q : α → Ev → Prop) (X : XK Q) : Prop := match o with
  | .ok a e => Q a e
  | .ex c g e => X c g e
  | .bad => False
def Res.sat (r : Res) (Q : DV → List DV → Prop) (X : RK Q) : Prop := match r with
  | .ok d outs => Q d outs
  | .ex c g => X c g
  | .bad => False
abbrev nX : XQ := fun _ _ _ => False
abbrev nR : Nat → PyData → Prop := fun _ _ => False
abbrev OptK {α : Type} (_ : α → Prop) := Option α
abbrev BoolK (_ _ : Prop) := Bool
def osat (Q : α → Prop) (o : OptK Q) : Prop := match o with
  | some a => Q a
  | none => False
@[simp] theorem osat_some {a : α} {Q : α → Prop} : osat Q (some a) = Q a := rfl
@[simp] theorem osat_none {Q : α → Prop} : osat Q none = False := rfl
@[simp] theorem osat_map {o : Option α} {f : α → β} {Q : β → Prop} : osat Q (o.map f) = osat (fun a => Q (f a)) o := by cases o <;> rfl
@[simp] theorem osat_bind {o : Option α} {f : α → Option β} {Q : β → Prop} : osat Q (o.bind f) = osat (fun a => osat Q (f a)) o := by cases o <;> rfl
@[simp] theorem osat_if {c : Prop} [Decidable c] {o p : Option α} {Q : α → Prop} : osat Q (if c then o else p) = ((c → osat Q o) ∧ (¬ c → osat Q p)) := by
  by_cases h : c <;> simp [h]
@[simp high] theorem osat_ifn {c : Prop} [Decidable c] {o : Option α} {Q : α → Prop} : osat Q (if c then o else none) = (c ∧ osat Q o) := by
  by_cases h : c <;> simp [h]
theorem osat_iff {o : Option α} {Q : α → Prop} : osat Q o ↔ ∃ a, o = some a ∧ Q a := by cases o <;> simp
theorem osat_of {o : Option α} {a : α} {Q : α → Prop} (h : o = some a) (q : Q a) : osat Q o := by rw [h]; exact q
def bsat (A B : Prop) (b : BoolK A B) : Prop := match b with
  | true => A
  | false => B
@[simp] theorem bsat_true {A B : Prop} : bsat A B true = A := rfl
@[simp] theorem bsat_false {A B : Prop} : bsat A B false = B := rfl
@[simp] theorem bsat_not {b : Bool} {A B : Prop} : bsat A B (!b) = bsat B A b := by cases b <;> rfl
theorem bsat_iff {b : Bool} {A B : Prop} : bsat A B b ↔ (b = true → A) ∧ (b = false → B) := by cases b <;> simp
@[simp] theorem bsat_dec {c : Prop} [Decidable c] {A B : Prop} : bsat A B (decide c) = ((c → A) ∧ (¬ c → B)) := by
  by_cases h : c <;> simp [h]
@[simp] theorem sat_ok {a : α} {e : Ev} {Q : α → Ev → Prop} {X : XQ} : (Out.ok a e).sat Q X = Q a e := rfl
@[simp] theorem sat_ex {c : Nat} {g : PyData} {e : Ev} {Q : α → Ev → Prop} {X : XQ} : (Out.ex c g e).sat Q X = X c g e := rfl
@[simp] theorem sat_bad {Q : α → Ev → Prop} {X : XQ} : (Out.bad : Out α).sat Q X = False := rfl
@[simp] theorem rsat_ok {a : DV} {e : List DV} {Q : DV → List DV → Prop} {X : Nat → PyData → Prop} : (Res.ok a e).sat Q X = Q a e := rfl
@[simp] theorem rsat_ex {c : Nat} {g : PyData} {Q : DV → List DV → Prop} {X : Nat → PyData → Prop} : (Res.ex c g).sat Q X = X c g := rfl
@[simp] theorem sat_bind {o : Out α} {f : α → M β} {Q : β → Ev → Prop} {X : XQ} : (o.bind f).sat Q X = o.sat (fun a e => (f a e).sat Q X) X := by
  cases o <;> rfl
@[simp] theorem sat_noEx {o : Out α} {Q : α → Ev → Prop} {X : XQ} : (noEx o).sat Q X = o.sat Q nX := by
  cases o <;> rfl
@[simp] theorem sat_ofO {o : Option α} {e : Ev} {Q : α → Ev → Prop} {X : XQ} : (Out.ofO o e).sat Q X = osat (fun a => Q a e) o := by
  cases o <;> rfl
@[simp] theorem sat_goE {a : α} {o : Option Ev} {Q : α → Ev → Prop} {X : XQ} : (Out.goE a o).sat Q X = osat (fun e => Q a e) o := by
  cases o <;> rfl
theorem Out.sat.mono {o : Out α} {Q Q' : α → Ev → Prop} {X X' : XQ} (h : o.sat Q X) (i : ∀ a e, Q a e → Q' a e) (j : ∀ c g e, X c g e → X' c g e := by exact fun _ _ _ h => h) : o.sat Q' X' := by
  cases o with
  | ok a e => exact i a e h
  | ex _ _ _ => exact j _ _ _ h
  | bad => exact h.elim
theorem Res.sat.mono {o : Res} {Q Q' : DV → List DV → Prop} {X X' : Nat → PyData → Prop} (h : o.sat Q X) (i : ∀ a e, Q a e → Q' a e) (j : ∀ c g, X c g → X' c g := by first | exact fun _ _ h => h | exact fun _ _ h => h.elim) : o.sat Q' X' := by
  cases o with
  | ok a e => exact i a e h
  | ex _ _ => exact j _ _ h
  | bad => exact h.elim
def retD : Fl → Option DV
  | .nx => some (.d .none)
  | .rt d => some d
  | _ => none
@[simp] theorem retD_nx : retD .nx = some (.d .none) := rfl
@[simp] theorem retD_rt {d : DV} : retD (.rt d) = some d := rfl
theorem runF_sat {n : Nat} {P : List (Nat × Nat)} {g : M Fl} {ds : List DV} {Q : DV → List DV → Prop} {X : Nat → PyData → Prop} : (runF n P g ds).sat Q X = (g (env0 n ds)).sat (fun fl e => osat (fun d => osat (fun outs => Q d outs) (outsAt P e)) (retD fl)) (fun c g _ => X c g) := by
  unfold runF
  cases g (env0 n ds) with
  | ok fl e =>
    cases fl with
    | nx => cases h : outsAt P e <;> simp [endR, h, Res.sat, retD]
    | rt d => cases h : outsAt P e <;> simp [endR, h, Res.sat, retD]
    | br => simp [endR, Res.sat, retD]
    | ct => simp [endR, Res.sat, retD]
  | ex _ _ _ => rfl
  | bad => rfl
theorem res_eq {r : Res} {d : DV} {outs : List DV} (h : r.sat (fun d' o' => d' = d ∧ o' = outs) nR) : r = .ok d outs := by
  cases r with
  | ok d' o' => obtain ⟨rfl, rfl⟩ := h; rfl
  | ex _ _ => exact h.elim
  | bad => exact h.elim
theorem res_of {r : Res} {d : DV} {outs : List DV} {Q : DV → List DV → Prop} {X : Nat → PyData → Prop} (h : r = .ok d outs) (q : Q d outs) : r.sat Q X := by
  rw [h]; exact q
theorem res_exq {r : Res} {c : Nat} {g : PyData} (h : r.sat (fun _ _ => False) (fun c' g' => c' = c ∧ g' = g)) : r = .ex c g := by
  cases r with
  | ok d' o' => exact h.elim
  | ex _ _ => obtain ⟨rfl, rfl⟩ := h; rfl
  | bad => exact h.elim
/-! the combinators -/
variable {e : Ev} {Q : α → Ev → Prop} {QD : DV → Ev → Prop} {QB : Bool → Ev → Prop} {QF : Fl → Ev → Prop} {QL : List DV → Ev → Prop} {X : XQ} {t ta tb tc : Tm} {i j k l m : Nat} {fa fb fc : M DV} {f f2 : M (List DV)} {ft ft2 : M Bool} {g1 g2 : M Fl} {ts : List Tm}
abbrev FlK (_ _ _ : Prop) (_ : DV → Prop) := Fl
def fsat (A B C : Prop) (D : DV → Prop) (fl : FlK A B C D) : Prop := match fl with
  | .nx => A
  | .br => B
  | .ct => C
  | .rt d => D d
@[simp] theorem fsat_nx {A B C : Prop} {D : DV → Prop} : fsat A B C D .nx = A := rfl
@[simp] theorem fsat_br {A B C : Prop} {D : DV → Prop} : fsat A B C D .br = B := rfl
@[simp] theorem fsat_ct {A B C : Prop} {D : DV → Prop} : fsat A B C D .ct = C := rfl
@[simp] theorem fsat_rt {A B C : Prop} {D : DV → Prop} {d : DV} : fsat A B C D (.rt d) = D d := rfl
@[simp] theorem sat_pure {a : α} : (M.pure a e).sat Q X = Q a e := rfl
@[simp] theorem sat_slotM : (slotM i e).sat QD X = osat (fun d => QD d e) (slot e i) := by
  unfold slotM
  cases slot e i <;> rfl
@[simp] theorem sat_seqM : (seqM g1 g2 e).sat QF X = (g1 e).sat (fun fl e' => fsat ((g2 e').sat QF X) (QF .br e') (QF .ct e') (fun d => QF (.rt d) e') fl) X := by
  show ((g1 e).bind _).sat QF X = _
  rw [sat_bind]
  cases g1 e with
  | ok fl e' => cases fl <;> rfl
  | ex _ _ _ => rfl
  | bad => rfl
@[simp] theorem sat_nxM : (nxM e).sat QF X = QF .nx e := rfl
theorem sat_bool {o : Out Bool} {p q : M α} : (o.bind fun b e' => match b with
    | true => p e'
    | false => q e').sat Q X = o.sat (fun b e' => bsat ((p e').sat Q X) ((q e').sat Q X) b) X := by
  rw [sat_bind]
  cases o with
  | ok b e' => cases b <;> rfl
  | ex _ _ _ => rfl
  | bad => rfl
@[simp] theorem sat_ifS : (ifS ft g1 g2 e).sat QF X = (ft e).sat (fun b e' => bsat ((g1 e').sat QF X) ((g2 e').sat QF X) b) X := sat_bool
@[simp] theorem sat_ifM : (ifM ft fa fb e).sat QD X = (ft e).sat (fun b e' => bsat ((fa e').sat QD X) ((fb e').sat QD X) b) X := sat_bool
@[simp] theorem sat_andM : (andM ft ft2 e).sat QB X = (ft e).sat (fun b e' => bsat ((ft2 e').sat QB X) (QB false e') b) X := sat_bool (q := fun e => .ok false e)
@[simp] theorem sat_orM : (orM ft ft2 e).sat QB X = (ft e).sat (fun b e' => bsat (QB true e') ((ft2 e').sat QB X) b) X := sat_bool (p := fun e => .ok true e)
@[simp] theorem sat_notM : (notM ft e).sat QB X = (ft e).sat (fun b e' => QB (!b) e') X := by
  show ((ft e).bind _).sat QB X = _
  rw [sat_bind]; rfl
def boolO : Option DV → Option Bool
  | some (.d (.bool b)) => some b
  | _ => none
@[simp] theorem boolO_b {b : Bool} : boolO (some (.d (.bool b))) = some b := rfl
@[simp] theorem sat_asB : (asB t fa e).sat QB X = (fa e).sat (fun d e' => osat (fun b => QB b e') (boolO (t.now d e'))) X := by
  show ((fa e).bind _).sat QB X = _
  rw [sat_bind]
  congr 1
  funext d e'
  generalize t.now d e' = o
  cases o with
  | none => rfl
  | some x =>
    cases x with
    | d y => cases y <;> rfl
    | _ => rfl
def op2O (g : DV → DV → Option DV) : Option DV → Option DV → Option DV
  | some x, some y => g x y
  | _, _ => none
@[simp] theorem op2O_s {g : DV → DV → Option DV} {x y : DV} : op2O g (some x) (some y) = g x y := rfl
@[simp] theorem sat_op2 {g : DV → DV → Option DV} : (op2 g ta tb fa fb e).sat QD X = (fa e).sat (fun d e1 => (fb e1).sat (fun d' e2 => osat (fun r => QD r e2) (op2O g (ta.now d e2) (tb.now d' e2))) X) X := by
  show ((fa e).bind _).sat QD X = _
  rw [sat_bind]
  congr 1
  funext d e1
  rw [sat_bind]
  congr 1
  funext d' e2
  cases h1 : ta.now d e2 with
  | none => rfl
  | some x =>
    cases h2 : tb.now d' e2 with
    | none => rfl
    | some y =>
      simp only [op2O_s]
      cases g x y <;> rfl
def op1O (g : DV → Option DV) : Option DV → Option DV
  | some x => g x
  | _ => none
@[simp] theorem op1O_s {g : DV → Option DV} {x : DV} : op1O g (some x) = g x := rfl
@[simp] theorem sat_un1 {g : DV → Option DV} : (un1 g t fa e).sat QD X = (fa e).sat (fun d e' => osat (fun r => QD r e') (op1O g (t.now d e'))) X := by
  show ((fa e).bind _).sat QD X = _
  rw [sat_bind]
  congr 1
  funext d e'
  cases h1 : t.now d e' with
  | none => rfl
  | some x => rw [sat_ofO]; rfl
@[simp] theorem sat_setM : (setM i fa e).sat QF X = (fa e).sat (fun d e' => i < e'.length ∧ QF .nx (e'.set i (some d))) X := by
  show ((fa e).bind _).sat QF X = _
  rw [sat_bind]
  congr 1
  funext d e'
  by_cases h : i < e'.length <;> simp [h]
@[simp] theorem sat_consM : (consM fa f e).sat QL X = (fa e).sat (fun d e' => (f e').sat (fun ds e2 => QL (d :: ds) e2) X) X := by
  show ((fa e).bind _).sat QL X = _
  rw [sat_bind]
  congr 1
  funext d e'
  rw [sat_bind]; rfl
@[simp] theorem sat_callM {g : List DV → Option DV} : (callM g ts f e).sat QD X = (f e).sat (fun ds e' => osat (fun xs => osat (fun r => QD r e') (g xs)) (nowsD ts ds e')) X := by
  show ((f e).bind _).sat QD X = _
  rw [sat_bind]
  congr 1
  funext ds e'
  cases h : nowsD ts ds e' with
  | none => rfl
  | some xs => simp only [osat_some]; cases g xs <;> rfl
@[simp] theorem sat_callF {F : List DV → Res} {ms : List Md} : (callF F ms ts f e).sat QD X = (f e).sat (fun ds e' => osat (fun xs => (F xs).sat (fun d outs => osat (fun e2 => QD d e2) (putM ms ts outs (clrM ts e'))) (fun c g => X c g (clrM ts e'))) (nowsD ts ds e')) X := by
  show ((f e).bind _).sat QD X = _
  rw [sat_bind]
  congr 1
  funext ds e'
  cases h : nowsD ts ds e' with
  | none => rfl
  | some xs =>
    simp only [osat_some]
    cases h2 : F xs with
    | ok d outs => simp only [rsat_ok]; cases putM ms ts outs (clrM ts e') <;> rfl
    | ex c g => rfl
    | bad => rfl
@[simp] theorem sat_stM {fv : M DV} {ti : Tm} {fi : M DV} : (stM j fv ti fi e).sat QF X = (fv e).sat (fun d e1 => osat (fun _ => (fi e1).sat (fun i e2 => osat (fun e3 => QF .nx e3) (stO j d (ti.now i e2) e2)) X) (slot e1 j)) X := by
  show ((fv e).bind _).sat QF X = _
  rw [sat_bind]
  congr 1
  funext d e1
  rw [sat_bind, sat_slotM]
  congr 1
  funext d0
  rw [sat_bind]
  congr 1
  funext i e2
  rw [sat_goE]
def lstO : Option DV → Option Unit
  | some (.d (.list _)) => some ()
  | _ => none
@[simp] theorem lstO_l {xs : List PyData} : lstO (some (.d (.list xs))) = some () := rfl
@[simp] theorem sat_apM : (apM j fa e).sat QD X = osat (fun _ => (fa e).sat (fun d e' => osat (fun e3 => QD (.d .none) e3) (apO j d e')) X) (lstO (slot e j)) := by
  show ((lstM j e).bind _).sat QD X = _
  rw [sat_bind]
  unfold lstM
  generalize slot e j = o
  have key : ((fa e).bind fun d e => Out.goE (.d .none) (apO j d e)).sat QD X = (fa e).sat (fun d e' => osat (fun e3 => QD (.d .none) e3) (apO j d e')) X := by
    rw [sat_bind]
    congr 1
    funext d e'
    rw [sat_goE]
  cases o with
  | none => rfl
  | some x =>
    cases x with
    | d y =>
      cases y with
      | list xs => exact key
      | _ => rfl
    | _ => rfl
@[simp] theorem sat_popM : (popM j e).sat QD X = osat (fun p => QD p.1 p.2) (popO j e) := by
  unfold popM
  cases h : popO j e <;> rfl
@[simp] theorem sat_retM {P : List (Nat × Nat)} : (retM P fa e).sat QF X = (fa e).sat (fun d e' => osat (fun _ => QF (.rt d) e') (outsAt P e')) X := by
  show ((fa e).bind _).sat QF X = _
  rw [sat_bind]
  congr 1
  funext d e'
  cases h : outsAt P e' <;> rfl
@[simp] theorem sat_dropM : (dropM fa e).sat QF X = (fa e).sat (fun _ e' => QF .nx e') X := by
  show ((fa e).bind _).sat QF X = _
  rw [sat_bind]; rfl
@[simp] theorem sat_asgM {T : Tgt} : (asgM T fa e).sat QF X = (fa e).sat (fun d e' => (tgM T d e').sat (fun _ e2 => QF .nx e2) X) X := by
  show ((fa e).bind _).sat QF X = _
  rw [sat_bind]
  congr 1
  funext d e'
  rw [sat_bind]; rfl
@[simp] theorem sat_tgN {d : DV} {QU : Unit → Ev → Prop} : (tgM (.nm i) d e).sat QU X = (i < e.length ∧ QU () (e.set i (some d))) := by
  rw [tgM_nm]
  by_cases h : i < e.length <;> simp [h]
@[simp] theorem sat_tgT {is : List Nat} {ds : List PyData} {QU : Unit → Ev → Prop} : (tgM (.tp is) (.d (.tuple ds)) e).sat QU X = ((ds.length = is.length ∧ is.all (fun i => decide (i < e.length)) = true) ∧ QU () (setAll is (ds.map .d) e)) := by
  rw [tgM_tp]
  by_cases h : ds.length = is.length ∧ is.all (fun i => decide (i < e.length)) = true
  · rw [if_pos h]; simp only [sat_ok]; exact propext ⟨fun q => ⟨h, q⟩, fun q => q.2⟩
  · rw [if_neg h]; simp only [sat_bad]; exact propext ⟨fun q => q.elim, fun q => h q.1⟩
@[simp] theorem sat_tgL {is : List Nat} {ds : List PyData} {QU : Unit → Ev → Prop} : (tgM (.tp is) (.d (.list ds)) e).sat QU X = ((ds.length = is.length ∧ is.all (fun i => decide (i < e.length)) = true) ∧ QU () (setAll is (ds.map .d) e)) := by
  rw [tgM_tl]
  by_cases h : ds.length = is.length ∧ is.all (fun i => decide (i < e.length)) = true
  · rw [if_pos h]; simp only [sat_ok]; exact propext ⟨fun q => ⟨h, q⟩, fun q => q.2⟩
  · rw [if_neg h]; simp only [sat_bad]; exact propext ⟨fun q => q.elim, fun q => h q.1⟩
@[simp] theorem sat_forS {T : Tgt} : (forS T f g1 e).sat QF X = (f e).sat (fun items e1 => (forM T g1 items e1).sat QF X) X := by
  show ((f e).bind _).sat QF X = _
  rw [sat_bind]
@[simp] theorem sat_seqI : (seqI fa e).sat QL X = (fa e).sat (fun d e' => osat (fun ds => QL ds e') (itemsOf d)) X := by
  show ((fa e).bind _).sat QL X = _
  rw [sat_bind]
  congr 1; funext d e'; rw [sat_ofO]
@[simp] theorem sat_andV : (andV t fa fb e).sat QD X = (asB t fa e).sat (fun b e' => bsat ((fb e').sat QD X) (QD (.d (.bool false)) e') b) X := sat_bool (q := fun e => .ok (DV.d (PyData.bool false)) e)
@[simp] theorem sat_orV : (orV t fa fb e).sat QD X = (asB t fa e).sat (fun b e' => bsat (QD (.d (.bool true)) e') ((fb e').sat QD X) b) X := sat_bool (p := fun e => .ok (DV.d (PyData.bool true)) e)
@[simp] theorem sat_notV : (notV t fa e).sat QD X = (asB t fa e).sat (fun b e' => QD (.d (.bool !b)) e') X := by
  rw [notV_ev, sat_bind, sat_bind]; rfl
def truO : Option DV → Option Bool
  | some d => truD d
  | none => none
@[simp] theorem truO_s {d : DV} : truO (some d) = truD d := rfl
@[simp] theorem truD_l {xs : List PyData} : truD (.d (.list xs)) = some (!xs.isEmpty) := rfl
@[simp] theorem truD_t {xs : List PyData} : truD (.d (.tuple xs)) = some (!xs.isEmpty) := rfl
@[simp] theorem truD_b {b : Bool} : truD (.d (.bool b)) = some b := rfl
@[simp] theorem truD_i {i : Int} : truD (.d (.int i)) = some (i != 0) := rfl
@[simp] theorem truD_n : truD (.d .none) = some false := rfl
@[simp] theorem sat_truM : (truM t fa e).sat QB X = (fa e).sat (fun d e' => osat (fun b => QB b e') (truO (t.now d e'))) X := by
  show ((fa e).bind _).sat QB X = _
  rw [sat_bind]
  congr 1; funext d e'
  cases h : t.now d e' with
  | none => rfl
  | some x => rw [truO_s]; cases h2 : truD x <;> simp [h2]
def lenO (xs : List PyData) : Option Unit := if xs.length ≤ big then some () else none
@[simp] theorem sat_dispM {mk : List PyData → PyData} : (dispM mk f e).sat QD X = (f e).sat (fun ds e' => osat (fun xs => xs.length ≤ big ∧ QD (.d (mk xs)) e') (getDs ds)) X := by
  show ((f e).bind _).sat QD X = _
  rw [sat_bind]
  congr 1; funext ds e'
  cases h : getDs ds with
  | none => rfl
  | some xs => by_cases h2 : xs.length ≤ big <;> simp [h2]
@[simp] theorem sat_isiM {T : String} : (isiM T t fa e).sat QD X = (fa e).sat (fun d e' => osat (fun n => QD (.d (.bool (isTy n T))) e') ((t.now d e').bind tyName)) X := by
  rw [isiM_ev, sat_bind]
  congr 1; funext d e'
  rw [sat_ofO]
  cases h : t.now d e' with
  | none => rfl
  | some x => cases h2 : tyName x <;> simp [h2]
@[simp] theorem sat_compM {T : Tgt} {vs : List Nat} : (compM T vs f ft fa e).sat QD X = (f e).sat (fun items e1 => (compGo T vs ft fa items [] (wipeE vs e1)).sat (fun xs e2 => QD (.d (.list xs)) (restE vs e1 e2)) X) X := by
  rw [compM_ev, sat_bind]
  congr 1; funext ds e'
  rw [sat_bind]; rfl
def two? {α : Type} : List α → Option (α × α)
  | [a, b] => some (a, b)
  | _ => none
def three? {α : Type} : List α → Option (α × α × α)
  | [a, b, c] => some (a, b, c)
  | _ => none
@[simp] theorem two_s {a b : α} : two? [a, b] = some (a, b) := rfl
@[simp] theorem three_s {a b c : α} : three? [a, b, c] = some (a, b, c) := rfl
@[simp] theorem sat_parM : (parM i j f e).sat QF X = (f e).sat (fun ds e' => osat (fun p => i < e'.length ∧ j < e'.length ∧ QF .nx ((e'.set i (some p.1)).set j (some p.2))) (two? ds)) X := by
  rw [parM_ev, sat_bind]
  congr 1; funext ds e'
  match ds with
  | [] => rfl
  | [a] => rfl
  | [a, b] =>
    show (if i < e'.length ∧ j < e'.length then Out.ok Fl.nx ((e'.set i (some a)).set j (some b)) else Out.bad).sat QF X = _
    by_cases h : i < e'.length ∧ j < e'.length
    · rw [if_pos h]; simp [h.1, h.2]
    · rw [if_neg h]
      refine propext ⟨fun z => z.elim, fun z => h ⟨z.1, z.2.1⟩⟩
  | a :: b :: c :: r => rfl
@[simp] theorem sat_par3M : (par3M i j l f e).sat QF X = (f e).sat (fun ds e' => osat (fun p => i < e'.length ∧ j < e'.length ∧ l < e'.length ∧ QF .nx (((e'.set i (some p.1)).set j (some p.2.1)).set l (some p.2.2))) (three? ds)) X := by
  show ((f e).bind _).sat QF X = _
  rw [sat_bind]
  congr 1; funext ds e'
  match ds with
  | [] => rfl
  | [a] => rfl
  | [a, b] => rfl
  | [a, b, c] =>
    show (if i < e'.length ∧ j < e'.length ∧ l < e'.length then Out.ok Fl.nx (((e'.set i (some a)).set j (some b)).set l (some c)) else Out.bad).sat QF X = _
    by_cases h : i < e'.length ∧ j < e'.length ∧ l < e'.length
    · rw [if_pos h]; simp [h.1, h.2.1, h.2.2]
    · rw [if_neg h]
      refine propext ⟨fun z => z.elim, fun z => h ⟨z.1, z.2.1, z.2.2.1⟩⟩
  | a :: b :: c :: d :: r => rfl
@[simp] theorem sat_rg1M : (rg1M t fa e).sat QD X = (fa e).sat (fun d e' => osat (fun r => QD r e') (rgD (some (.d (.int 0))) (t.now d e'))) X := by
  rw [rg1M_ev, sat_bind]; congr 1; funext d e'; rw [sat_ofO]
@[simp] theorem sat_rg2M : (rg2M ta tb fa fb e).sat QD X = (fa e).sat (fun d e1 => (fb e1).sat (fun d' e' => osat (fun r => QD r e') (rgD (ta.now d e') (tb.now d' e'))) X) X := by
  rw [rg2M_ev, sat_bind]; congr 1; funext d e1; rw [sat_bind]; congr 1; funext d' e'; rw [sat_ofO]
@[simp] theorem sat_rg1I : (rg1I t fa e).sat QL X = (fa e).sat (fun d e' => osat (fun r => QL r e') (rgI (some (.d (.int 0))) (t.now d e'))) X := by
  rw [rg1I_ev, sat_bind]; congr 1; funext d e'; rw [sat_ofO]
@[simp] theorem sat_rg2I : (rg2I ta tb fa fb e).sat QL X = (fa e).sat (fun d e1 => (fb e1).sat (fun d' e' => osat (fun r => QL r e') (rgI (ta.now d e') (tb.now d' e'))) X) X := by
  rw [rg2I_ev, sat_bind]; congr 1; funext d e1; rw [sat_bind]; congr 1; funext d' e'; rw [sat_ofO]
@[simp] theorem sat_slM {fl fh : M (Option Int)} : (slM t fa fl fh e).sat QD X = (fa e).sat (fun d e1 => (fl e1).sat (fun lo e2 => (fh e2).sat (fun hi e' => osat (fun r => QD r e') ((t.now d e').bind fun x => slD x lo hi)) X) X) X := by
  rw [slM_ev, sat_bind]; congr 1; funext d e1; rw [sat_bind]; congr 1; funext lo e2; rw [sat_bind]; congr 1; funext hi e'; rw [sat_ofO]
@[simp] theorem sat_someI {QO : Option Int → Ev → Prop} : (someI t fa e).sat QO X = (fa e).sat (fun d e' => osat (fun r => QO r e') (intD (t.now d e'))) X := by
  rw [someI_ev, sat_bind]; congr 1; funext d e'; rw [sat_ofO]
@[simp] theorem intD_i {n : Int} : intD (some (.d (.int n))) = some (some n) := rfl
def tyO (T : String) : Option DV → Option Unit
  | some x => if tyD x = T then some () else none
  | none => none
@[simp] theorem tyO_s {T : String} {x : DV} : tyO T (some x) = if tyD x = T then some () else none := rfl
@[simp] theorem tyD_str {x : Str} : tyD (.d (.str x)) = "str" := rfl
@[simp] theorem tyD_list {x : List PyData} : tyD (.d (.list x)) = "list" := rfl
@[simp] theorem tyD_int {x : Int} : tyD (.d (.int x)) = "int" := rfl
@[simp] theorem tyD_dict {x : List (PyData × PyData)} : tyD (.d (.dict x)) = "dict" := rfl
@[simp] theorem sat_mthM {T : String} {g : DV → List DV → Option DV} {to : Tm} {fo : M DV} : (mthM T g to fo ts f e).sat QD X = (fo e).sat (fun d e1 => osat (fun _ => (f e1).sat (fun ds e2 => osat (fun r => QD r e2) ((to.now d e2).bind fun x => (nowsD ts ds e2).bind fun xs => g x xs)) X) (tyO T (to.now d e1))) X := by
  rw [mthM_ev, sat_bind]; congr 1; funext d e1; rw [sat_bind, tyChk_ev]
  cases h : to.now d e1 with
  | none => rfl
  | some x =>
    by_cases h2 : tyD x = T
    · simp only [tyO, h2, if_true, sat_ok, osat_some]
      rw [sat_bind]
      congr 1; funext ds e2; rw [sat_ofO]
    · simp [tyO, h2]
@[simp] theorem sat_zipI : (zipI fa fb e).sat QL X = (fa e).sat (fun d e1 => (fb e1).sat (fun d' e' => osat (fun r => QL r e') (zipD (some d) (some d'))) X) X := by
  rw [zipI_ev, sat_bind]; congr 1; funext d e1; rw [sat_bind]; congr 1; funext d' e'; rw [sat_ofO]
@[simp] theorem sat_kwM {ρ : List Nat} : (kwM ρ f f2 e).sat QL X = (f e).sat (fun ds e1 => (f2 e1).sat (fun ds2 e2 => QL (ds ++ reo ρ ds2) e2) X) X := by
  show ((f e).bind _).sat QL X = _
  rw [sat_bind]; congr 1; funext d e1; rw [sat_bind]; rfl
@[simp] theorem reo_n {α : Type} {l : List α} : reo [] l = [] := rfl
@[simp] theorem reo_c {α : Type} {j : Nat} {ρ : List Nat} {l : List α} : reo (j :: ρ) l = match l[j]? with
    | some x => x :: reo ρ l
    | none => reo ρ l := reo_cons
@[simp] theorem sat_chM {g g' : DV → DV → Option DV} : (chM g g' ta tb tc fa fb fc e).sat QD X = (fa e).sat (fun d e1 => (fb e1).sat (fun d' e2 => osat (fun b => bsat ((fc e2).sat (fun d'' e3 => osat (fun r => QD (.d (.bool r)) e3) (boolO (op2O g' (tb.now d' e3) (tc.now d'' e3)))) X) (QD (.d (.bool false)) e2) b) (boolO (op2O g (ta.now d e2) (tb.now d' e2)))) X) X := by
  rw [chM_ev, sat_bind]; congr 1; funext d e1; rw [sat_bind]; congr 1; funext d' e2
  cases h1 : ta.now d e2 with
  | none => rfl
  | some x =>
    cases h2 : tb.now d' e2 with
    | none => rfl
    | some y =>
      simp only [op2O_s]
      generalize hg : g x y = o
      have key : ∀ (e3 : Ev) (d'' : DV), ((match tb.now d' e3, tc.now d'' e3 with
        | some y, some z => (match g' y z with
          | some (DV.d (PyData.bool r)) => Out.ok (DV.d (PyData.bool r)) e3
          | _ => .bad)
        | _, _ => .bad).sat QD X) = osat (fun r => QD (.d (.bool r)) e3) (boolO (op2O g' (tb.now d' e3) (tc.now d'' e3))) := by
        intro e3 d''
        cases tb.now d' e3 with
        | none => rfl
        | some y =>
          cases tc.now d'' e3 with
          | none => rfl
          | some z =>
            simp only [op2O_s]
            generalize g' y z = o
            cases o with
            | none => rfl
            | some x =>
              cases x with
              | d y => cases y <;> rfl
              | _ => rfl
      cases o with
      | none => rfl
      | some x =>
        cases x with
        | d y =>
          cases y with
          | bool b =>
            cases b with
            | true =>
              simp only [sat_bind, boolO_b, osat_some, bsat_true]
              congr 1; funext d'' e3; exact key e3 d''
            | false => rfl
          | _ => rfl
        | _ => rfl
@[simp] theorem clrM_n {e : Ev} : clrM [] e = e := rfl
@[simp] theorem clrM_sl {i : Nat} {ts : List Tm} {e : Ev} : clrM (.sl i :: ts) e = clrM ts (e.set i none) := rfl
@[simp] theorem clrM_v {i : Nat} {ts : List Tm} {e : Ev} : clrM (.v i :: ts) e = clrM ts e := rfl
@[simp] theorem putM_n {e : Ev} : putM [] [] [] e = some e := rfl
@[simp] theorem putM_fz {ms : List Md} {t : Tm} {ts : List Tm} {outs : List DV} {e : Ev} : putM (.fz :: ms) (t :: ts) outs e = putM ms ts outs e := rfl
@[simp] theorem putM_sl {m m' i : Nat} {ms : List Md} {ts : List Tm} {o : DV} {outs : List DV} {e : Ev} : putM (.io m m' :: ms) (.sl i :: ts) (o :: outs) e = putM ms ts outs (e.set i (some o)) := rfl
@[simp] theorem putM_v {m m' i : Nat} {ms : List Md} {ts : List Tm} {o : DV} {outs : List DV} {e : Ev} : putM (.io m m' :: ms) (.v i :: ts) (o :: outs) e = putM ms ts outs e := rfl
/-- the ways come together -/
theorem sat_mid (P : Ev → Prop) {o : Out Fl} {K : Fl → Ev → Prop} {X : XQ} (h : ∀ e, P e → K .nx e) (h1 : o.sat (fun fl e => fsat (P e) (K .br e) (K .ct e) (fun d => K (.rt d) e) fl) X) : o.sat K X := by
  refine h1.mono fun fl e q => ?_
  cases fl with
  | nx => exact h e q
  | br => exact q
  | ct => exact q
  | rt d => exact q
/-! loops -/
/-- the invariant says what is left -/
theorem sat_for {enc : α → DV} {T : Tgt} {g : M Fl} {Q : Fl → Ev → Prop} {X : XQ} (Inv : List α → Ev → Prop) {xs : List α} {e : Ev} (h0 : Inv xs e)
    (step : ∀ x rest e, Inv (x :: rest) e → (tgM T (enc x) e).sat (fun _ e1 => (g e1).sat (fun fl e2 => fsat (Inv rest e2) (Q .nx e2) (Inv rest e2) (fun r => Q (.rt r) e2) fl) X) X) (hend : ∀ e, Inv [] e → Q .nx e) : (forM T g (xs.map enc) e).sat Q X := by
  induction xs generalizing e with
  | nil => exact hend e h0
  | cons x xs ih =>
    have s := step x xs e h0
    show ((tgM T (enc x) e).bind _).sat Q X
    rw [sat_bind]
    refine s.mono fun _ e1 s1 => ?_
    rw [sat_bind]
    refine s1.mono fun fl e2 s2 => ?_
    cases fl with
    | nx => exact ih s2
    | ct => exact ih s2
    | br => exact s2
    | rt r => exact s2
/-- .. what is done -/
theorem sat_forD {enc : α → DV} {T : Tgt} {g : M Fl} {Q : Fl → Ev → Prop} {X : XQ} (Inv : List α → Ev → Prop) {xs : List α} {e : Ev} (h0 : Inv [] e)
    (step : ∀ done x rest e, done ++ x :: rest = xs → Inv done e → (tgM T (enc x) e).sat (fun _ e1 => (g e1).sat (fun fl e2 => fsat (Inv (done ++ [x]) e2) (Q .nx e2) (Inv (done ++ [x]) e2) (fun r => Q (.rt r) e2) fl) X) X) (hend : ∀ e, Inv xs e → Q .nx e) : (forM T g (xs.map enc) e).sat Q X := by
  refine sat_for (fun rest e => ∃ done, done ++ rest = xs ∧ Inv done e) ⟨[], rfl, h0⟩ ?_ ?_
  · rintro x rest e ⟨done, hd, hi⟩
    refine (step done x rest e hd hi).mono fun _ e1 s => s.mono fun fl e2 s2 => ?_
    cases fl with
    | nx => exact ⟨done ++ [x], by rw [← hd]; simp, s2⟩
    | ct => exact ⟨done ++ [x], by rw [← hd]; simp, s2⟩
    | br => exact s2
    | rt r => exact s2
  · rintro e ⟨done, hd, hi⟩
    rw [List.append_nil] at hd
    subst hd
    exact hend e hi
theorem sat_while {c : M Bool} {b : M Fl} {Q : Fl → Ev → Prop} {X : XQ} (Inv : Nat → Ev → Prop) (n : Nat) {fuel : Nat} {e : Ev} (hn : n < fuel) (h0 : Inv n e)
    (step : ∀ n e, Inv n e → (c e).sat (fun k e1 => bsat ((b e1).sat (fun fl e2 => fsat (∃ m, m < n ∧ Inv m e2) (Q .nx e2) (∃ m, m < n ∧ Inv m e2) (fun d => Q (.rt d) e2) fl) X) (Q .nx e1) k) X) : (whileM c b fuel e).sat Q X := by
  induction fuel generalizing n e with
  | zero => exact absurd hn (Nat.not_lt_zero _)
  | succ fuel ih =>
    have s := step n e h0
    show ((c e).bind _).sat Q X
    rw [sat_bind]
    refine s.mono fun k e1 s1 => ?_
    cases k with
    | false => exact s1
    | true =>
      show ((b e1).bind _).sat Q X
      rw [sat_bind]
      refine Out.sat.mono s1 fun fl e2 s2 => ?_
      cases fl with
      | nx => obtain ⟨m, h1, h2⟩ := s2; exact ih m (by omega) h2
      | ct => obtain ⟨m, h1, h2⟩ := s2; exact ih m (by omega) h2
      | br => exact s2
      | rt r => exact s2
/-- a comprehension that changes nothing -/
theorem sat_comp {enc : α → DV} {T : Tgt} {vs : List Nat} {ft : M Bool} {fe : M DV} {Q : List PyData → Ev → Prop} {X : XQ} {e : Ev} (p : α → Bool) (h : α → PyData) {xs : List α} {acc : List PyData}
    (hb : ∀ x ∈ xs, (tgM T (enc x) e).sat (fun _ e1 => (ft e1).sat (fun b e2 => b = p x ∧ bsat ((fe e2).sat (fun d e3 => d = .d (h x) ∧ wipeE vs e3 = e) nX) (wipeE vs e2 = e) (p x)) nX) nX)
    (hl : acc.length + xs.length ≤ big) (hQ : Q (acc ++ (xs.filter p).map h) e) : (compGo T vs ft fe (xs.map enc) acc e).sat Q X := by
  induction xs generalizing acc with
  | nil => simpa [compGo] using hQ
  | cons x xs ih =>
    have s := hb x List.mem_cons_self
    simp only [List.length_cons] at hl
    rw [List.map_cons]
    unfold compGo
    rw [sat_bind, sat_noEx]
    refine s.mono (fun _ e1 s1 => ?_)
    rw [sat_bind, sat_noEx]
    refine s1.mono (fun b e2 ⟨s2, s3⟩ => ?_)
    subst s2
    cases q : p x with
    | false =>
      simp only
      rw [q] at s3
      rw [show wipeE vs e2 = e from s3]
      exact ih (fun y hy => hb y (List.mem_cons_of_mem _ hy)) (by omega) (by rw [List.filter_cons_of_neg (by rw [q]; simp)] at hQ; exact hQ)
    | true =>
      simp only
      rw [sat_bind, sat_noEx]
      rw [q] at s3
      refine Out.sat.mono s3 (fun d e3 ⟨s5, s6⟩ => ?_)
      subst s5
      simp only [dataOf_d]
      rw [if_pos (by omega), s6]
      refine ih (fun y hy => hb y (List.mem_cons_of_mem _ hy)) (by simp; omega) ?_
      rw [List.filter_cons_of_pos q] at hQ
      simpa using hQ
/-- .. without a test -/
theorem sat_compA {enc : α → DV} {T : Tgt} {vs : List Nat} {fe : M DV} {Q : List PyData → Ev → Prop} {X : XQ} {e : Ev} (h : α → PyData) {xs : List α} {acc : List PyData}
    (hb : ∀ x ∈ xs, (tgM T (enc x) e).sat (fun _ e1 => (fe e1).sat (fun d e3 => d = .d (h x) ∧ wipeE vs e3 = e) nX) nX)
    (hl : acc.length + xs.length ≤ big) (hQ : Q (acc ++ xs.map h) e) : (compGo T vs (M.pure true) fe (xs.map enc) acc e).sat Q X := by
  refine sat_comp (fun _ => true) h (fun x hx => (hb x hx).mono fun _ e1 s => ?_) hl (by rw [List.filter_eq_self.mpr (fun _ _ => rfl)]; exact hQ)
  exact ⟨rfl, s⟩
/-- a comprehension that changes what stands -/
theorem sat_compI {enc : α → DV} {T : Tgt} {vs : List Nat} {ft : M Bool} {fe : M DV} {Q : List PyData → Ev → Prop} {X : XQ} (Inv : List α → List PyData → Ev → Prop) {xs : List α} {acc : List PyData} {e : Ev} (h0 : Inv xs acc e)
    (step : ∀ x rest acc e, Inv (x :: rest) acc e → (tgM T (enc x) e).sat (fun _ e1 => (ft e1).sat (fun b e2 => bsat ((fe e2).sat (fun d e3 => acc.length < big ∧ osat (fun y => Inv rest (acc ++ [y]) (wipeE vs e3)) (dataOf d)) nX) (Inv rest acc (wipeE vs e2)) b) nX) nX)
    (hend : ∀ acc e, Inv [] acc e → Q acc e) : (compGo T vs ft fe (xs.map enc) acc e).sat Q X := by
  induction xs generalizing acc e with
  | nil => exact hend acc e h0
  | cons x xs ih =>
    have s := step x xs acc e h0
    rw [List.map_cons]
    unfold compGo
    rw [sat_bind, sat_noEx]
    refine s.mono (fun _ e1 s1 => ?_)
    rw [sat_bind, sat_noEx]
    refine s1.mono (fun b e2 s2 => ?_)
    cases b with
    | false => exact ih s2
    | true =>
      show ((noEx (fe e2)).bind _).sat Q X
      rw [sat_bind, sat_noEx]
      refine Out.sat.mono s2 (fun d e3 ⟨s3, s5⟩ => ?_)
      cases h : dataOf d with
      | none => rw [h] at s5; exact s5.elim
      | some y =>
        rw [h] at s5
        simp only
        rw [if_pos s3]
        exact ih s5
end
@[simp] theorem mulQ_ii {i j : Int} : mulQ (.int i) (.int j) = if (-(2 ^ 64) < i ∧ i < 2 ^ 64) ∨ (-(2 ^ 64) < j ∧ j < 2 ^ 64) then some (.int (i * j)) else none := rfl
end Lk
namespace Lk
open PySem PySem.Spec L2
abbrev wl (a b c : Int) : DV := .d (.list [.int a, .int b, .int c])
def WL (d : DV) : Prop := ∃ a b c, d = wl a b c
theorem atI_in {α : Type} {xs : List α} {i : Int} (h0 : 0 ≤ i) (h1 : i < xs.length) : ∃ x, atI xs i = some x ∧ x ∈ xs := by
  have hk : i.toNat < xs.length := by omega
  refine ⟨xs[i.toNat], ?_, List.getElem_mem hk⟩
  unfold atI ixN
  rw [if_pos h0, if_pos h1]
  exact List.getElem?_eq_getElem hk
@[simp] theorem itemsOf_list {xs : List PyData} : itemsOf (.d (.list xs)) = some (xs.map .d) := rfl
@[simp] theorem itemsOf_tuple {xs : List PyData} : itemsOf (.d (.tuple xs)) = some (xs.map .d) := rfl
@[simp] theorem itemsOf_s {xs : List Int} : itemsOf (.s xs) = some (xs.map fun n => .d (.int n)) := rfl
def undD : DV → PyData
  | .d x => x
  | _ => .none
@[simp] theorem undD_d {x : PyData} : undD (.d x) = x := rfl
theorem filt_map {α : Type} {f : α → PyData} {p : DV → Bool} {q : α → Bool} (h : ∀ a, p (.d (f a)) = q a) : ∀ l : List α, (((l.map f).map DV.d).filter p).map undD = (l.filter q).map f
  | [] => rfl
  | a :: l => by
    simp only [List.map_cons, List.filter_cons, h]
    cases q a
    · simp only [Bool.false_eq_true, if_false]
      exact filt_map h l
    · simp only [if_true, List.map_cons, undD_d]
      rw [filt_map h l]
theorem rgP_len {a b : Int} : (rgP a b).length = (b - a).toNat := by simp [rgP]
/-- the ints from a up to b -/
def rgL (a b : Int) : List Int := (List.range (b - a).toNat).map fun (i : Nat) => a + i
theorem rgP_rgL {a b : Int} : rgP a b = (rgL a b).map .int := by simp [rgP, rgL]
theorem mem_rgL {a b i : Int} : i ∈ rgL a b ↔ a ≤ i ∧ i < b := by
  unfold rgL
  rw [List.mem_map]
  constructor
  · rintro ⟨k, hk, rfl⟩
    rw [List.mem_range] at hk
    omega
  · rintro ⟨h1, h2⟩
    exact ⟨(i - a).toNat, List.mem_range.mpr (by omega), by omega⟩
theorem nodup_rgL {a b : Int} : (rgL a b).Nodup := by
  unfold rgL
  refine List.Pairwise.map _ (fun x y h => ?_) List.nodup_range
  intro e
  apply h
  have e : a + (x : Int) = a + (y : Int) := e
  omega
theorem len_rgL {a b : Int} : (rgL a b).length = (b - a).toNat := by simp [rgL]
theorem filter_ne_perm {i : Int} : ∀ {l : List Int}, l.Nodup → i ∈ l → (i :: l.filter (fun j => decide (j ≠ i))).Perm l
  | x :: l, hn, hi => by
    obtain ⟨h1, h2⟩ := List.nodup_cons.mp hn
    by_cases e : x = i
    · subst e
      rw [List.filter_cons_of_neg (by simp)]
      have : l.filter (fun j => decide (j ≠ x)) = l := List.filter_eq_self.mpr fun y hy => by
        simp only [ne_eq, decide_eq_true_eq]
        intro e; subst e; exact h1 hy
      rw [this]
    · rw [List.filter_cons_of_pos (by simpa using e)]
      have hi' : i ∈ l := (List.mem_cons.mp hi).resolve_left fun z => e z.symm
      exact (List.Perm.swap _ _ _).trans ((filter_ne_perm h2 hi').cons x)
def undI : DV → Int
  | .d (.int i) => i
  | _ => 0
@[simp] theorem undI_d {i : Int} : undI (.d (.int i)) = i := rfl
theorem shp_e : Shp 1 (.list []) := shp_list (fun _ h => nomatch h)
theorem ev6 {a b c d f : Option DV} : slot [a, b, c, d, f, none] 5 = none := by simp [slot]
def normP (p : Int × Int) : Int × Int := if p.1 < p.2 then p else (p.2, p.1)
def keptL : List (Int × Int) → List (Int × Int) → List (Int × Int)
  | [], acc => acc
  | p :: r, acc => keptL r (if p.1 ≠ p.2 ∧ normP p ∉ acc then acc ++ [normP p] else acc)
def gD (n : Int) (es : List (Int × Int)) : PyData := .tuple [.int n, .tuple (es.map pairD)]
theorem keptL_mem : ∀ {ps acc : List (Int × Int)} {q : Int × Int}, q ∈ keptL ps acc ↔ q ∈ acc ∨ ∃ p ∈ ps, p.1 ≠ p.2 ∧ q = normP p
  | [], acc, q => by simp [keptL]
  | p :: r, acc, q => by
    unfold keptL
    rw [keptL_mem]
    by_cases h : p.1 ≠ p.2 ∧ normP p ∉ acc
    · rw [if_pos h]
      simp only [List.mem_append, List.mem_cons, List.not_mem_nil, or_false, exists_eq_or_imp]
      constructor
      · rintro ((h1 | h1) | h1)
        · exact .inl h1
        · exact .inr (.inl ⟨h.1, h1⟩)
        · exact .inr (.inr h1)
      · rintro (h1 | h1 | h1)
        · exact .inl (.inl h1)
        · exact .inl (.inr h1.2)
        · exact .inr h1
    · rw [if_neg h]
      simp only [List.mem_cons, exists_eq_or_imp]
      constructor
      · rintro (h1 | h1)
        · exact .inl h1
        · exact .inr (.inr h1)
      · rintro (h1 | h1 | h1)
        · exact .inl h1
        · by_cases h2 : normP p ∈ acc
          · rw [h1.2]; exact .inl h2
          · exact absurd ⟨h1.1, h2⟩ h
        · exact .inr h1
theorem keptL_nodup : ∀ {ps acc : List (Int × Int)}, acc.Nodup → (keptL ps acc).Nodup
  | [], acc, h => h
  | p :: r, acc, h => by
    unfold keptL
    refine keptL_nodup ?_
    split
    · rename_i hc
      exact List.nodup_append.mpr ⟨h, by simp, fun a ha b hb => by
        rw [List.mem_singleton.mp hb]
        intro e; subst e; exact hc.2 ha⟩
    · exact h
theorem keptL_len : ∀ {ps acc : List (Int × Int)}, (keptL ps acc).length ≤ acc.length + ps.length
  | [], acc => by simp [keptL]
  | p :: r, acc => by
    unfold keptL
    refine Nat.le_trans keptL_len ?_
    split <;> simp <;> omega
theorem any_pair {ps : List (Int × Int)} {q : Int × Int} : ((ps.map pairD).any fun z => PyData.eqv z (pairD q)) = decide (q ∈ ps) := by
  induction ps with
  | nil => simp
  | cons p ps ih =>
    simp only [List.map_cons, List.any_cons, ih, eqv_pair]
    by_cases h : p = q
    · simp [h]
    · have h' : ¬ q = p := fun e => h e.symm
      simp [h, h']
theorem inP_pairs {ps : List (Int × Int)} {q : Int × Int} : inP (pairD q) (.list (ps.map pairD)) = some (.bool (decide (q ∈ ps))) := by
  rw [inP_l shp_pair shp_pairs, any_pair]
theorem notInP_pairs {ps : List (Int × Int)} {q : Int × Int} : notInP (pairD q) (.list (ps.map pairD)) = some (.bool (!decide (q ∈ ps))) := by
  unfold notInP
  rw [inP_pairs]; rfl
theorem getPs_map {ps : List (Int × Int)} : getPs (ps.map pairD) = some ps := by
  induction ps with
  | nil => rfl
  | cons p ps ih =>
    show getPs (.tuple [.int p.1, .int p.2] :: ps.map pairD) = _
    unfold getPs
    rw [ih]
theorem getIs_pairs {p : Int × Int} {ps : List (Int × Int)} : getIs (pairD p :: ps.map pairD) = none := rfl
theorem sortP_pairs {ps : List (Int × Int)} : sortP (.list (ps.map pairD)) = some (.list ((srtB SrtO.lexB ps).map pairD)) := by
  cases ps with
  | nil => rfl
  | cons p ps =>
    show (match getIs (pairD p :: ps.map pairD) with
      | some is => some (PyData.list ((srtB ltI is).map .int))
      | none => (match getPs ((p :: ps).map pairD) with
        | some ps => some (.list ((srtB SrtO.lexB ps).map pairD))
        | none => if srtOk ((p :: ps).map pairD) then some (.list (srtA ((p :: ps).map pairD))) else none)) = _
    rw [getPs_map]
    rfl
def Nice (n : Int) (es : List (Int × Int)) : Prop := 1 ≤ n ∧ n ≤ 10 ∧ es.length ≤ 24 ∧ es.Pairwise (fun p q => SrtO.lexB p q = true) ∧ ∀ p ∈ es, 0 ≤ p.1 ∧ p.1 < p.2 ∧ p.2 < n
def niceB (n : Int) (es : List (Int × Int)) : Bool := decide (3 ≤ n) && decide (n ≤ 10) && decide (es.length ≤ 24) && decide (es.Pairwise (fun p q => SrtO.lexB p q = true)) && es.all fun p => decide (0 ≤ p.1) && decide (p.1 < p.2) && decide (p.2 < n)
def getG : PyData → Option (Int × List (Int × Int))
  | .tuple [.int n, .tuple xs] => (getPs xs).map fun ps => (n, ps)
  | _ => none
theorem getG_eq {x : PyData} {n : Int} {es : List (Int × Int)} (h : getG x = some (n, es)) : x = gD n es := by
  unfold getG at h
  split at h
  · obtain ⟨ps, h1, h2⟩ := Option.map_eq_some_iff.mp h
    cases h2
    rw [getPs_eq h1]; rfl
  · cases h
def famB : Res → Bool
  | .ok (.d (.list gs)) [] => !gs.isEmpty && decide (gs.length ≤ 100) && gs.all fun g => match getG g with
    | some (n, es) => niceB n es
    | none => false
  | _ => false
theorem srt_strict {l : List (Int × Int)} (h : l.Nodup) : (srtB SrtO.lexB l).Pairwise (fun p q => SrtO.lexB p q = true) := by
  have h1 := srtB_srt tot_pair l
  have h2 : (srtB SrtO.lexB l).Nodup := (srtB_perm l).nodup_iff.mpr h
  have h3 : (srtB SrtO.lexB l).Pairwise (fun p q => SrtO.lexB q p = false ∧ p ≠ q) := List.Pairwise.and h1 h2
  refine h3.imp fun {p q} h => ?_
  cases e : SrtO.lexB p q with
  | true => rfl
  | false => exact absurd (tot_pair.eq p q e h.1) h.2
theorem nice_kept {n : Int} {ps : List (Int × Int)} (h1 : 1 ≤ n) (h2 : n ≤ 10) (h3 : (keptL ps []).length ≤ 24) (h4 : ∀ p ∈ ps, 0 ≤ p.1 ∧ p.1 < n ∧ 0 ≤ p.2 ∧ p.2 < n) : Nice n (srtB SrtO.lexB (keptL ps [])) := by
  refine ⟨h1, h2, by rw [(srtB_perm _).length_eq]; exact h3, srt_strict (keptL_nodup List.nodup_nil), fun q hq => ?_⟩
  have hq := (srtB_perm _).mem_iff.mp hq
  rcases keptL_mem.mp hq with hq | ⟨p, hp, hne, rfl⟩
  · cases hq
  · have := h4 p hp
    unfold normP
    split
    · omega
    · simp only
      omega
/-- the pairs of numbers below n -/
def pairsL (n : Int) : List (Int × Int) := (rgL 0 n).flatMap fun a => (rgL (a + 1) n).map fun b => (a, b)
theorem mem_pairsL {n : Int} {p : Int × Int} (h : p ∈ pairsL n) : 0 ≤ p.1 ∧ p.1 < p.2 ∧ p.2 < n := by
  unfold pairsL at h
  obtain ⟨a, ha, h⟩ := List.mem_flatMap.mp h
  obtain ⟨b, hb, rfl⟩ := List.mem_map.mp h
  have := mem_rgL.mp ha
  have := mem_rgL.mp hb
  simp only
  omega
theorem filt_true {α : Type} {f : α → PyData} {h : DV → PyData} {g : α → PyData} (hf : ∀ a, h (.d (f a)) = g a) (l : List α) : (((l.map f).map DV.d).filter fun _ => true).map h = l.map g := by
  induction l with
  | nil => rfl
  | cons a l ih =>
    simp only [List.map_cons, List.filter_cons, if_true, hf]
    rw [ih]
theorem addP_ll {xs ys : List PyData} (h : xs.length + ys.length ≤ big) : addP (.list xs) (.list ys) = some (.list (xs ++ ys)) := by
  show (if xs.length + ys.length ≤ big then some (PyData.list (xs ++ ys)) else none) = _
  rw [if_pos h]
theorem rgI_ok {a b : Int} (h : rgOk a b = true) : rgI (some (.d (.int a))) (some (.d (.int b))) = some ((rgP a b).map .d) := by
  show (if rgOk a b then some ((rgP a b).map DV.d) else none) = _
  rw [if_pos h]
theorem rgOk_of {a b : Int} (h1 : 0 ≤ a) (h2 : a ≤ 1000) (h3 : 0 ≤ b) (h4 : b ≤ 1000) : rgOk a b = true := by
  unfold rgOk; simp; omega
theorem len_flat_le {α β : Type} {f : α → List β} {c : Nat} : ∀ {l : List α}, (∀ a ∈ l, (f a).length ≤ c) → (l.flatMap f).length ≤ l.length * c
  | [], _ => by simp
  | a :: l, h => by
    simp only [List.flatMap_cons, List.length_append, List.length_cons]
    have h1 := h a List.mem_cons_self
    have h2 := len_flat_le (l := l) fun b hb => h b (List.mem_cons_of_mem _ hb)
    rw [Nat.succ_mul]
    omega
def atD (l : List Int) (i : Int) : Int := (atI l i).getD 0
theorem atD_ok {l : List Int} {i : Int} (h0 : 0 ≤ i) (h1 : i < l.length) : atI l i = some (atD l i) ∧ atD l i ∈ l := by
  obtain ⟨x, h, hx⟩ := atI_in h0 h1
  unfold atD
  rw [h]
  exact ⟨rfl, hx⟩
theorem cut_mem {xs : List PyData} {lo hi : Option Int} {x : PyData} (h : x ∈ cutP xs lo hi) : x ∈ xs := List.mem_of_mem_drop (List.mem_of_mem_take h)
theorem cut_len {xs : List PyData} {j : Int} (h : 0 ≤ j) : (cutP xs none (some j)).length ≤ j.toNat := by
  unfold cutP
  simp only [HT.sIx_none, List.drop_zero, Nat.sub_zero]
  have : HT.sIx xs.length xs.length (some j) = min j.toNat xs.length := by
    show (if j < 0 then (j + (xs.length : Int)).toNat else min j.toNat xs.length) = _
    rw [if_neg (by omega)]
  rw [this, List.length_take]
  omega
theorem pairs10 : (pairsL 10).length = 45 := by decide +kernel
def EPs (n : Int) (ps : List (Int × Int)) : Prop := ∀ p ∈ ps, 0 ≤ p.1 ∧ p.1 < p.2 ∧ p.2 < n
theorem pairsL_ne {n : Int} (h : 2 ≤ n) : pairsL n ≠ [] := by
  intro e
  have : (0, 1) ∈ pairsL n := by
    unfold pairsL
    exact List.mem_flatMap.mpr ⟨0, mem_rgL.mpr (by omega), List.mem_map.mpr ⟨1, mem_rgL.mpr (by omega), rfl⟩⟩
  rw [e] at this
  cases this
theorem pairsL_len {n : Int} (h0 : 0 ≤ n) (h : n ≤ 10) : (pairsL n).length ≤ 100 := by
  have h1 : (pairsL n).length ≤ (rgL 0 n).length * 10 := len_flat_le fun b hb => by
    have := mem_rgL.mp hb
    simp [len_rgL]; omega
  rw [len_rgL] at h1
  omega
theorem filt_pair {q : Int × Int} (ps : List (Int × Int)) : (((ps.map pairD).map DV.d).filter fun d => !PyData.eqv (undD d) (pairD q)).map undD = (ps.filter fun p => decide (p ≠ q)).map pairD := by
  rw [filt_map (f := pairD) (p := fun d => !PyData.eqv (undD d) (pairD q)) (q := fun p => decide (p ≠ q)) (fun a => by simp [eqv_pair])]
/-! the program: a right graph is one -/
theorem getBs_true : ∀ k : Nat, getBs (List.replicate k (.bool true)) = some (List.replicate k true)
  | 0 => rfl
  | k + 1 => by
    show getBs (.bool true :: List.replicate k (.bool true)) = _
    unfold getBs
    rw [getBs_true k]; rfl
theorem allP_true {xs : List PyData} (h : ∀ x ∈ xs, x = .bool true) : allP (.list xs) = some (.bool true) := by
  have e : xs = List.replicate xs.length (.bool true) := List.eq_replicate_iff.mpr ⟨rfl, h⟩
  show (getBs xs).map (fun bs => PyData.bool (bs.all id)) = _
  rw [e, getBs_true]
  simp
theorem map_true {α : Type} {l : List α} {x : PyData} (h : x ∈ (l.filter fun _ => true).map fun _ => PyData.bool true) : x = .bool true := by
  obtain ⟨_, _, rfl⟩ := List.mem_map.mp h
  rfl
theorem cmpN_ii {op : CmpOp} {k : Nat} {i j : Int} : cmpN op (k + 1) (.int i) (.int j) = some (opI op i j) := rfl
theorem cmp_pair {p q : Int × Int} : cmpP .Lt (pairD p) (pairD q) = some (.bool (SrtO.lexB p q)) := by
  unfold cmpP
  rw [(shp_pair (p := p)).ok, (shp_pair (p := q)).ok]
  have h : cmpN .Lt 8 (pairD p) (pairD q) = some (SrtO.lexB p q) := by
    show (if cmpAll (cmpN .Lt 7) [.int p.1, .int p.2] [.int q.1, .int q.2] then some (lexV (fun x y => (cmpN .Lt 7 x y).getD false) (opI .Lt 2 2) [.int p.1, .int p.2] [.int q.1, .int q.2]) else none) = _
    have e : cmpAll (cmpN .Lt 7) [.int p.1, .int p.2] [.int q.1, .int q.2] = true := by simp [cmpAll, cmpN_ii]
    rw [if_pos e]
    simp only [lexV, eqv_int, cmpN_ii, Option.getD_some, opI_lt, SrtO.lexB]
    by_cases h1 : p.1 = q.1
    · by_cases h2 : p.2 = q.2
      · simp [h1, h2]
      · simp [h1, h2]
    · simp [h1]
  rw [h]; rfl
theorem cut1 {xs : List PyData} : cutP xs (some 1) none = xs.tail := by
  unfold cutP
  rw [HT.sIx_none]
  have e : HT.sIx xs.length 0 (some 1) = min 1 xs.length := by
    show (if (1 : Int) < 0 then ((1 : Int) + (xs.length : Int)).toNat else min (1 : Int).toNat xs.length) = _
    rw [if_neg (by omega)]; rfl
  rw [e]
  cases xs with
  | nil => rfl
  | cons x xs =>
    have : min 1 (x :: xs).length = 1 := by simp
    rw [this]
    simp
theorem zip_pairs : ∀ {es fs : List (Int × Int)}, zipP (es.map pairD) (fs.map pairD) = ((es.zip fs).map fun z => ((pairD z.1, pairD z.2) : PyData × PyData)).map fun d => DV.d (.tuple [d.1, d.2])
  | [], _ => by simp [zipP]
  | _ :: _, [] => by simp [zipP]
  | e :: es, f :: fs => by
    show DV.d (.tuple [pairD e, pairD f]) :: zipP (es.map pairD) (fs.map pairD) = _
    rw [zip_pairs]
    rfl
theorem zip_tail_mem {r : Int × Int → Int × Int → Prop} : ∀ {es : List (Int × Int)}, es.Pairwise r → ∀ z ∈ es.zip es.tail, r z.1 z.2
  | [], _, z, hz => by simp at hz
  | [a], _, z, hz => by simp at hz
  | a :: b :: es, h, z, hz => by
    obtain ⟨h1, h2⟩ := List.pairwise_cons.mp h
    rcases List.mem_cons.mp hz with e | hz
    · rw [e]; exact h1 b List.mem_cons_self
    · exact zip_tail_mem h2 z hz
@[simp] theorem zipD_t {xs ys : List PyData} : zipD (some (.d (.tuple xs))) (some (.d (.tuple ys))) = some (zipP xs ys) := rfl
/-! the graph's parts; short operations -/
@[simp] theorem neP_ii {i j : Int} : neP (.int i) (.int j) = some (.bool (!decide (i = j))) := by rw [neP_s shp_int shp_int, eqv_int]
@[simp] theorem eqP_ss {x y : Str} : eqP (.str x) (.str y) = some (.bool (PyData.eqv (.str x) (.str y))) := eqP_str
@[simp] theorem neP_ss {x y : Str} : neP (.str x) (.str y) = some (.bool (!PyData.eqv (.str x) (.str y))) := neP_str

@[simp] theorem ix_g0 {n : Int} {es : List (Int × Int)} : ixD (.d (gD n es)) (.d (.int 0)) = some (.d (.int n)) := by simp [gD, atI_0]
@[simp] theorem ix_g1 {n : Int} {es : List (Int × Int)} : ixD (.d (gD n es)) (.d (.int 1)) = some (.d (.tuple (es.map pairD))) := by simp [gD, atI_1]
@[simp] theorem ix_p0 {p : Int × Int} : ixD (.d (pairD p)) (.d (.int 0)) = some (.d (.int p.1)) := by simp [pairD, atI_0]
@[simp] theorem ix_p1 {p : Int × Int} : ixD (.d (pairD p)) (.d (.int 1)) = some (.d (.int p.2)) := by simp [pairD, atI_1]
@[simp] theorem tg_pair {i j : Nat} {p : Int × Int} {e : Ev} {QU : Unit → Ev → Prop} {X : XQ} : (tgM (.tp [i, j]) (.d (pairD p)) e).sat QU X = ((i < e.length ∧ j < e.length) ∧ QU () ((e.set i (some (.d (.int p.1)))).set j (some (.d (.int p.2))))) := by
  simp [pairD]
@[simp] theorem lenD_l {xs : List PyData} : lenD [.d (.list xs)] = some (.d (.int xs.length)) := rfl
@[simp] theorem lenD_t {xs : List PyData} : lenD [.d (.tuple xs)] = some (.d (.int xs.length)) := rfl
@[simp] theorem listD_l {xs : List PyData} : listD [.d (.list xs)] = some (.d (.list xs)) := rfl
@[simp] theorem listD_t {xs : List PyData} : listD [.d (.tuple xs)] = some (.d (.list xs)) := rfl
@[simp] theorem tupleP_l {xs : List PyData} : tupleP (.list xs) = some (.tuple xs) := rfl
@[simp] theorem tupleP_t {xs : List PyData} : tupleP (.tuple xs) = some (.tuple xs) := rfl
theorem mk_g {n : Int} {es : List (Int × Int)} : (.tuple [.int n, .tuple (es.map pairD)] : PyData) = gD n es := rfl
theorem mk_p {a b : Int} : (.tuple [.int a, .int b] : PyData) = pairD (a, b) := rfl
theorem mk_p' {p : Int × Int} : (.tuple [.int p.1, .int p.2] : PyData) = pairD p := rfl
end Lk
namespace Lk
open PySem PySem.Spec L2
/-- is shown, in so many signs at most -/
def ShB (k : Nat) (x : PyData) : Prop := x.showable = true ∧ x.shown.length ≤ k
theorem ShB.mono {j k : Nat} {x : PyData} (h : ShB j x) (hk : j ≤ k) : ShB k x := ⟨h.1, Nat.le_trans h.2 hk⟩
theorem shbAll {k : Nat} : ∀ {xs : List PyData}, (∀ x ∈ xs, ShB k x) → PyData.showableAll xs = true ∧ ((PyData.shownAll xs).map (·.length)).sum ≤ xs.length * k ∧ (PyData.shownAll xs).length = xs.length
  | [], _ => ⟨by simp [PyData.showableAll], by simp [PyData.shownAll], by simp [PyData.shownAll]⟩
  | x :: xs, h => by
    obtain ⟨h1, h2⟩ := h x List.mem_cons_self
    obtain ⟨q1, q2, q3⟩ := shbAll fun y hy => h y (List.mem_cons_of_mem _ hy)
    refine ⟨by simp [PyData.showableAll, h1, q1], ?_, by simp [PyData.shownAll, q3]⟩
    simp only [PyData.shownAll, List.map_cons, List.sum_cons, List.length_cons, Nat.succ_mul]
    omega
theorem shb_list {k : Nat} {xs : List PyData} (h : ∀ x ∈ xs, ShB k x) : ShB (xs.length * (k + 2) + 3) (.list xs) := by
  obtain ⟨q1, q2, q3⟩ := shbAll h
  refine ⟨by simpa [PyData.showable] using q1, ?_⟩
  simp only [PyData.shown]
  have := PySem.listText_len_le (PyData.shownAll xs)
  rw [Nat.mul_add]
  omega
theorem shb_tuple {k : Nat} {xs : List PyData} (h : ∀ x ∈ xs, ShB k x) : ShB (xs.length * (k + 2) + 3) (.tuple xs) := by
  obtain ⟨q1, q2, q3⟩ := shbAll h
  refine ⟨by simpa [PyData.showable] using q1, ?_⟩
  simp only [PyData.shown]
  have := PySem.tupleText_len_le (PyData.shownAll xs)
  rw [Nat.mul_add]
  omega
theorem small_len : ((List.range 1000).all fun k => decide ((toString (k : Int) : Str).length ≤ 5)) = true := by decide +kernel
theorem shb_int {i : Int} (h0 : 0 ≤ i) (h1 : i < 1000) : ShB 5 (.int i) := by
  refine ⟨?_, ?_⟩
  · simp only [PyData.showable, decide_eq_true_eq]
    have h2 : i.natAbs.log2 ≤ i.natAbs := Nat.log2_le_self _
    omega
  · simp only [PyData.shown]
    have := List.all_eq_true.mp small_len i.toNat (List.mem_range.mpr (by omega))
    have e : ((i.toNat : Nat) : Int) = i := by omega
    rw [e] at this
    exact of_decide_eq_true this
theorem shb_neg1 : ShB 5 (.int (-1)) := ⟨by decide +kernel, by decide +kernel⟩
theorem shb_bool {b : Bool} : ShB 5 (.bool b) := by cases b <;> exact ⟨by decide +kernel, by decide +kernel⟩
theorem shb_none : ShB 5 .none := ⟨by decide +kernel, by decide +kernel⟩
theorem shb_graph {n : Int} {es : List (Int × Int)} (hg : Nice n es) : ShB 5000 (gD n es) := by
  have hp : ∀ x ∈ es.map pairD, ShB 100 x := fun x hx => by
    obtain ⟨p, hp, rfl⟩ := List.mem_map.mp hx
    have := hg.2.2.2.2 p hp
    have h10 := hg.2.1
    refine (shb_tuple (k := 5) fun z hz => ?_).mono (by simp)
    simp only [List.mem_cons, List.not_mem_nil, or_false] at hz
    rcases hz with rfl | rfl
    · exact shb_int (by omega) (by omega)
    · exact shb_int (by omega) (by omega)
  have ht := shb_tuple hp
  rw [List.length_map] at ht
  have h24 := hg.2.2.1
  have ht := ht.mono (k := 2451) (by omega)
  refine ShB.mono (shb_tuple (k := 2451) (xs := [.int n, .tuple (es.map pairD)]) fun z hz => ?_) (by simp)
  simp only [List.mem_cons, List.not_mem_nil, or_false] at hz
  rcases hz with rfl | rfl
  · exact (shb_int (by have := hg.1; omega) (by have := hg.2.1; omega)).mono (by omega)
  · exact ht
theorem reprP_s {m k : Nat} {x : PyData} (h0 : isSeq x = true) (h1 : Shp m x) (h2 : ShB k x) (hm : m ≤ 64 := by decide) (hk : k ≤ 1000000 := by omega) : reprP x = some (.str x.shown) := by
  unfold reprP
  have a : decide (x.depth ≤ 64) = true := decide_eq_true (Nat.le_trans h1.2 hm)
  have b : decide (x.shown.length ≤ big) = true := decide_eq_true (Nat.le_trans h2.2 hk)
  rw [h1.1, a, h2.1, b]
  rfl
/-- data that repr takes -/
def Thg (m k : Nat) (x : PyData) : Prop := (x.canLay0 = true ∨ dOk x = true) ∧ x.depth ≤ m ∧ ShB k x
theorem Thg.repr {m k : Nat} {x : PyData} (h : Thg m k x) (hm : m ≤ 64 := by decide) (hk : k ≤ 1000000 := by omega) : reprP x = some (.str x.shown) := by
  unfold reprP
  have a : decide (x.depth ≤ 64) = true := decide_eq_true (Nat.le_trans h.2.1 hm)
  have b : decide (x.shown.length ≤ big) = true := decide_eq_true (Nat.le_trans h.2.2.2 hk)
  have c : (x.canLay0 || dOk x) = true := by rcases h.1 with q | q <;> simp [q]
  rw [c, a, h.2.2.1, b]
  rfl
theorem Thg.mono {m k m' k' : Nat} {x : PyData} (h : Thg m k x) (hm : m ≤ m') (hk : k ≤ k') : Thg m' k' x := ⟨h.1, Nat.le_trans h.2.1 hm, h.2.2.mono hk⟩
theorem Thg.of {m k : Nat} {x : PyData} (h : Shp m x) (h2 : ShB k x) : Thg m k x := ⟨.inl h.1, h.2, h2⟩
def thgB (m k : Nat) (x : PyData) : Bool := (x.canLay0 || dOk x) && decide (x.depth ≤ m) && x.showable && decide (x.shown.length ≤ k)
theorem thgB_ok {m k : Nat} {x : PyData} (h : thgB m k x = true) : Thg m k x := by
  unfold thgB at h
  simp only [Bool.and_eq_true, Bool.or_eq_true, decide_eq_true_eq] at h
  exact ⟨h.1.1.1, h.1.1.2, h.1.2, h.2⟩
theorem dOks_of : ∀ {xs : List PyData}, (∀ x ∈ xs, dOk x = true) → dOks xs = true
  | [], _ => rfl
  | x :: xs, h => by
    unfold dOks
    rw [h x List.mem_cons_self, dOks_of fun y hy => h y (List.mem_cons_of_mem _ hy)]
    rfl
theorem depthAll_le {m : Nat} : ∀ {xs : List PyData}, (∀ x ∈ xs, x.depth ≤ m) → PyData.depthAll xs ≤ m
  | [], _ => by simp [PyData.depthAll]
  | x :: xs, h => by
    have a := h x List.mem_cons_self
    have b := depthAll_le fun y hy => h y (List.mem_cons_of_mem _ hy)
    simp only [PyData.depthAll]
    omega
theorem canAll_of : ∀ {xs : List PyData}, (∀ x ∈ xs, x.canLay0 = true) → PyData.canLayAll0 xs = true
  | [], _ => by simp [PyData.canLayAll0]
  | x :: xs, h => by
    simp only [PyData.canLayAll0]
    rw [h x List.mem_cons_self, canAll_of fun y hy => h y (List.mem_cons_of_mem _ hy)]
    rfl
/-- a tuple of such; all but one are plain both ways -/
theorem Thg.tuple {m k : Nat} {xs : List PyData} (hc : (∀ x ∈ xs, x.canLay0 = true) ∨ ∀ x ∈ xs, dOk x = true) (h : ∀ x ∈ xs, Thg m k x) : Thg (m + 1) (xs.length * (k + 2) + 3) (.tuple xs) := by
  refine ⟨?_, ?_, shb_tuple fun x hx => (h x hx).2.2⟩
  · rcases hc with hc | hc
    · exact .inl (by simp only [PyData.canLay0]; exact canAll_of hc)
    · exact .inr (by unfold dOk; exact dOks_of hc)
  · have := depthAll_le fun x hx => (h x hx).2.1
    simp only [PyData.depth]
    omega
theorem shp_graph {n : Int} {es : List (Int × Int)} : Shp 3 (gD n es) := shp_tuple fun z hz => by
  simp only [List.mem_cons, List.not_mem_nil, or_false] at hz
  rcases hz with rfl | rfl
  · exact shp_int.mono (by omega)
  · exact shp_pairsT
theorem noBs_pairs : ∀ {ps : List (Int × Int)}, noBs (ps.map pairD) = true
  | [] => by simp [noBs]
  | p :: ps => by
    have ih := noBs_pairs (ps := ps)
    simp only [List.map_cons, noBs, ih, Bool.and_true]
    simp [pairD, noB, noBs]
theorem noB_graph {n : Int} {es : List (Int × Int)} : noB (gD n es) = true := by
  unfold gD
  simp [noB, noBs, noBs_pairs]
theorem gD_inj {n n' : Int} {es es' : List (Int × Int)} (h : gD n es = gD n' es') : n = n' ∧ es = es' := by
  unfold gD at h
  simp only [PyData.tuple.injEq, List.cons.injEq, PyData.int.injEq, and_true] at h
  refine ⟨h.1, ?_⟩
  have q := getPs_map (ps := es)
  rw [h.2, getPs_map] at q
  exact (Option.some.inj q).symm
theorem eqv_graph {n n' : Int} {es es' : List (Int × Int)} : PyData.eqv (gD n es) (gD n' es') = decide (n = n' ∧ es = es') := by
  by_cases h : n = n' ∧ es = es'
  · rw [decide_eq_true h, h.1, h.2, eqv_refl _ shp_graph.1]
  · rw [decide_eq_false h]
    cases e : PyData.eqv (gD n es) (gD n' es') with
    | false => rfl
    | true => exact absurd (gD_inj (eqv_eq _ _ noB_graph noB_graph e)) h
theorem repr_g {n : Int} {es : List (Int × Int)} (hg : Nice n es) : reprP (gD n es) = some (.str (gD n es).shown) := reprP_s rfl shp_graph (shb_graph hg)
theorem repr_gs {gs : List PyData} (h : ∀ g ∈ gs, ∃ n es, g = gD n es ∧ Nice n es) (hl : gs.length ≤ 100) : reprP (.list gs) = some (.str (PyData.list gs).shown) := by
  refine reprP_s (m := 4) (k := gs.length * (5000 + 2) + 3) rfl (shp_list fun x hx => ?_) (shb_list fun x hx => ?_)
  · obtain ⟨n, es, rfl, _⟩ := h x hx
    exact shp_graph
  · obtain ⟨n, es, rfl, hg⟩ := h x hx
    exact shb_graph hg
@[simp] theorem eqv_str_self {x : Str} : PyData.eqv (.str x) (.str x) = true := by rw [eqv_strs]; simp
end Lk
namespace Lk
open PySem PySem.Spec L2
/-! new combinators -/
section
variable {e : Ev} {QD : DV → Ev → Prop} {QP : List PyData → Ev → Prop} {X : XQ} {j i z : Nat} {fa : M DV} {f : M (List PyData)} {mk : List PyData → PyData}
@[simp] theorem sat_consL : (consL fa f e).sat QP X = (fa e).sat (fun d e1 => osat (fun x => (f e1).sat (fun ds e2 => QP (x :: ds) e2) X) (dataOf d)) X := by
  show ((fa e).bind _).sat QP X = _
  rw [sat_bind]; congr 1; funext d e1
  cases dataOf d with
  | none => rfl
  | some x => show ((f e1).bind _).sat QP X = _; rw [sat_bind]; rfl
@[simp] theorem sat_starL : (starL fa f e).sat QP X = (fa e).sat (fun d e1 => osat (fun xs => (f e1).sat (fun ds e2 => QP (xs ++ ds) e2) X) (itemsP d)) X := by
  show ((fa e).bind _).sat QP X = _
  rw [sat_bind]; congr 1; funext d e1
  cases itemsP d with
  | none => rfl
  | some x => show ((f e1).bind _).sat QP X = _; rw [sat_bind]; rfl
@[simp] theorem itemsP_l {xs : List PyData} : itemsP (.d (.list xs)) = some xs := rfl
@[simp] theorem itemsP_t {xs : List PyData} : itemsP (.d (.tuple xs)) = some xs := rfl
@[simp] theorem sat_dispL : (dispL mk f e).sat QD X = (f e).sat (fun ds e' => ds.length ≤ big ∧ QD (.d (mk ds)) e') X := by
  show ((f e).bind _).sat QD X = _
  rw [sat_bind]; congr 1; funext ds e'
  by_cases h : ds.length ≤ big
  · rw [if_pos h]; simp [h]
  · rw [if_neg h]; simp [h]
@[simp] theorem sat_apIxM : (apIxM j i z e).sat QD X = osat (fun e' => QD (.d .none) e') (apIxO j i z e) := sat_goE
@[simp] theorem revD_l {xs : List PyData} : revD (.d (.list xs)) = some (.d (.list xs.reverse)) := rfl
@[simp] theorem revD_t {xs : List PyData} : revD (.d (.tuple xs)) = some (.d (.tuple xs.reverse)) := rfl
end
/-! plain: graphs made less -/
def dn (g v : Int) : Int := if g < v then v - 1 else v
def dnP (g : Int) (p : Int × Int) : Int × Int := (dn g p.1, dn g p.2)
theorem keptL_id : ∀ {ps acc : List (Int × Int)}, (∀ p ∈ ps, p.1 < p.2) → ps.Nodup → (∀ p ∈ ps, p ∉ acc) → keptL ps acc = acc ++ ps
  | [], acc, _, _, _ => by simp [keptL]
  | p :: ps, acc, h1, h2, h3 => by
    have hp := h1 p List.mem_cons_self
    have hn : normP p = p := by unfold normP; rw [if_pos hp]
    obtain ⟨n1, n2⟩ := List.nodup_cons.mp h2
    unfold keptL
    rw [hn, if_pos ⟨by omega, h3 p List.mem_cons_self⟩, keptL_id (fun q hq => h1 q (List.mem_cons_of_mem _ hq)) n2 fun q hq => ?_]
    · simp
    · simp only [List.mem_append, List.mem_singleton, not_or]
      exact ⟨h3 q (List.mem_cons_of_mem _ hq), fun e => n1 (e ▸ hq)⟩
theorem strict_nodup {ps : List (Int × Int)} (h : ps.Pairwise fun p q => SrtO.lexB p q = true) : ps.Nodup := h.imp fun {p q} hpq e => by
  subst e
  rw [tot_pair.irr] at hpq
  cases hpq
theorem srtB_id {ps : List (Int × Int)} (h : ps.Pairwise fun p q => SrtO.lexB p q = true) : srtB SrtO.lexB ps = ps := (srt_is tot_pair (h.imp fun {p q} hpq => tot_pair.asym _ _ hpq) (List.Perm.refl _)).symm
theorem kept_id {ps : List (Int × Int)} (h1 : ∀ p ∈ ps, p.1 < p.2) (h : ps.Pairwise fun p q => SrtO.lexB p q = true) : srtB SrtO.lexB (keptL ps []) = ps := by
  rw [keptL_id (acc := []) h1 (strict_nodup h) (by simp), List.nil_append, srtB_id h]
/-- what has the same members is sorted the same way -/
theorem kept_same {ps qs : List (Int × Int)} (h : ∀ q, q ∈ keptL ps [] ↔ q ∈ keptL qs []) : srtB SrtO.lexB (keptL ps []) = srtB SrtO.lexB (keptL qs []) := by
  have p : (keptL ps []).Perm (keptL qs []) := (List.perm_ext_iff_of_nodup (keptL_nodup List.nodup_nil) (keptL_nodup List.nodup_nil)).mpr h
  refine srt_is tot_pair (srtB_srt tot_pair _) ((srtB_perm _).trans p)
def wvL (v : Int) (es : List (Int × Int)) : List (Int × Int) := (es.filter fun p => decide (p.1 ≠ v ∧ p.2 ≠ v)).map (dnP v)
theorem dn_lt {g a b : Int} (h : a < b) (ha : a ≠ g) (hb : b ≠ g) : dn g a < dn g b := by
  unfold dn
  split <;> split <;> omega
theorem dn_rg {g n a : Int} (h0 : 0 ≤ a) (h1 : a < n) (ha : a ≠ g) (g0 : 0 ≤ g) (g1 : g < n) : 0 ≤ dn g a ∧ dn g a < n - 1 := by
  unfold dn
  split <;> omega
theorem dn_inj {g a b : Int} (h : dn g a = dn g b) (ha : a ≠ g) (hb : b ≠ g) : a = b := by
  unfold dn at h
  split at h <;> split at h <;> omega
theorem nice_wv {n v : Int} {es : List (Int × Int)} (hg : Nice n es) (h0 : 0 ≤ v) (h1 : v < n) (h2 : 2 ≤ n) : Nice (n - 1) (wvL v es) := by
  obtain ⟨g1, g2, g3, g4, g5⟩ := hg
  have hm : ∀ p ∈ wvL v es, ∃ q ∈ es, p = dnP v q ∧ q.1 ≠ v ∧ q.2 ≠ v := fun p hp => by
    obtain ⟨q, hq, rfl⟩ := List.mem_map.mp hp
    obtain ⟨hq1, hq2⟩ := List.mem_filter.mp hq
    simp only [decide_eq_true_eq] at hq2
    exact ⟨q, hq1, rfl, hq2⟩
  refine ⟨by omega, by omega, ?_, ?_, fun p hp => ?_⟩
  · unfold wvL
    rw [List.length_map]
    have := List.length_filter_le (fun p : Int × Int => decide (p.1 ≠ v ∧ p.2 ≠ v)) es
    omega
  · unfold wvL
    refine List.pairwise_map.mpr ?_
    refine List.Pairwise.imp_of_mem (R := fun p q => SrtO.lexB p q = true) (fun {p q} hp hq h => ?_) (g4.sublist List.filter_sublist)
    simp only [List.mem_filter, decide_eq_true_eq] at hp hq
    rw [SrtO.lexB_iff] at h ⊢
    rcases h with h | h
    · exact .inl (dn_lt h hp.2.1 hq.2.1)
    · exact .inr ⟨by show dn v p.1 = dn v q.1; rw [h.1], dn_lt h.2 hp.2.2 hq.2.2⟩
  · obtain ⟨q, hq, rfl, q1, q2⟩ := hm p hp
    have := g5 q hq
    have a := dn_rg (n := n) (a := q.1) (by omega) (by omega) q1 h0 h1
    have b := dn_rg (n := n) (a := q.2) (by omega) (by omega) q2 h0 h1
    exact ⟨a.1, dn_lt this.2.1 q1 q2, b.2⟩
def weL (e : Int × Int) (es : List (Int × Int)) : List (Int × Int) := es.filter fun p => decide (p ≠ e)
theorem nice_we {n : Int} {es : List (Int × Int)} (e : Int × Int) (hg : Nice n es) : Nice n (weL e es) := by
  obtain ⟨g1, g2, g3, g4, g5⟩ := hg
  exact ⟨g1, g2, Nat.le_trans (List.length_filter_le _ _) g3, g4.sublist List.filter_sublist, fun p hp => g5 p (List.mem_filter.mp hp).1⟩
/-- an end when g is put to f -/
def cf (f g x : Int) : Int := dn g (if x = g then f else x)
def cfP (f g : Int) (p : Int × Int) : Int × Int := (cf f g p.1, cf f g p.2)
def ctL (f g : Int) (es : List (Int × Int)) : List (Int × Int) := srtB SrtO.lexB (keptL (es.map (cfP f g)) [])
theorem nice_ct {n f g : Int} {es : List (Int × Int)} (hg : Nice n es) (h0 : 0 ≤ f) (h1 : f < g) (h2 : g < n) : Nice (n - 1) (ctL f g es) := by
  obtain ⟨g1, g2, g3, g4, g5⟩ := hg
  refine nice_kept (by omega) (by omega) (Nat.le_trans keptL_len (by simpa using g3)) fun p hp => ?_
  obtain ⟨q, hq, rfl⟩ := List.mem_map.mp hp
  have := g5 q hq
  have key : ∀ x, 0 ≤ x → x < n → 0 ≤ cf f g x ∧ cf f g x < n - 1 := fun x x0 x1 => by
    unfold cf
    by_cases e : x = g
    · rw [if_pos e]; exact dn_rg h0 (by omega) (by omega) (by omega) h2
    · rw [if_neg e]; exact dn_rg x0 x1 e (by omega) h2
  have a := key q.1 (by omega) (by omega)
  have b := key q.2 (by omega) (by omega)
  exact ⟨a.1, a.2, b.1, b.2⟩
theorem inP_vp {v : Int} {p : Int × Int} : inP (.int v) (pairD p) = some (.bool (decide (p.1 = v ∨ p.2 = v))) := by
  have h := inP_t (x := .int v) (ys := [.int p.1, .int p.2]) shp_int (shp_pair (p := p))
  rw [show pairD p = .tuple [.int p.1, .int p.2] from rfl, h]
  simp [eqv_int]
theorem notInP_vp {v : Int} {p : Int × Int} : notInP (.int v) (pairD p) = some (.bool (decide (p.1 ≠ v ∧ p.2 ≠ v))) := by
  unfold notInP
  rw [inP_vp]
  simp [notP]
/-! the dict of edges -/
def kP (p : Int × Int) : List Key := [.inl p.1, .inl p.2]
def dKs (ps : List (Int × Int)) : List (PyData × PyData) := ps.map fun p => (pairD p, .bool true)
theorem unK_pair {p : Int × Int} : unK (pairD p) = none := rfl
theorem unT_pair {p : Int × Int} : unT (pairD p) = some (kP p) := rfl
theorem kP_inj {p q : Int × Int} : kP p = kP q ↔ p = q := by
  constructor
  · intro h
    simp only [kP, List.cons.injEq, Sum.inl.injEq, and_true] at h
    exact Prod.ext h.1 h.2
  · rintro rfl; rfl
theorem asT_dKs : ∀ ps : List (Int × Int), asT (dKs ps) = some (ps.map fun p => (kP p, .bool true))
  | [] => rfl
  | p :: ps => by
    show (match unT (pairD p), asT (dKs ps) with
      | some k, some l => some ((k, PyData.bool true) :: l)
      | _, _ => none) = _
    rw [unT_pair, asT_dKs ps]
    rfl
theorem dput_pairs {ps : List (Int × Int)} {q : Int × Int} (hl : ps.length < 1000000) : dputP (dKs ps) (pairD q) (.bool true) = some (dKs (if q ∈ ps then ps else ps ++ [q])) := by
  unfold dputP
  rw [if_pos (by unfold dKs; rw [List.length_map]; exact hl), unK_pair]
  simp only
  rw [unT_pair]
  simp only
  rw [asT_dKs]
  simp only [Option.map_some, Option.some.injEq]
  have ha : ((ps.map fun p => ((kP p, .bool true) : List Key × PyData)).any fun p => decide (p.1 = kP q)) = decide (q ∈ ps) := by
    rw [List.any_map]
    induction ps with
    | nil => simp
    | cons p ps ih =>
      simp only [List.length_cons] at hl
      simp only [List.any_cons, ih (by omega), Function.comp_apply, kP_inj]
      by_cases h : p = q
      · simp [h]
      · have h' : ¬ q = p := fun e => h e.symm
        simp [h, h']
  unfold putG
  rw [ha]
  by_cases h : q ∈ ps
  · rw [if_pos (decide_eq_true h), if_pos h]
    unfold ofT dKs
    rw [List.map_map, List.map_map]
    refine List.map_congr_left fun p hp => ?_
    by_cases e : p = q
    · subst e; simp; rfl
    · have e2 : ¬ kP p = kP q := fun z => e (kP_inj.mp z)
      simp [e2]; rfl
  · rw [if_neg (by simpa using h), if_neg h]
    unfold ofT dKs
    simp
    exact ⟨fun _ _ _ => rfl, rfl⟩
theorem sortP_dict {ps : List (Int × Int)} : sortP (.dict (dKs ps)) = some (.list ((srtB SrtO.lexB ps).map pairD)) := by
  have e : ((dKs ps).map fun (p : PyData × PyData) => p.1) = ps.map pairD := by unfold dKs; rw [List.map_map]; rfl
  show (match getIs ((dKs ps).map fun (p : PyData × PyData) => p.1) with
    | some is => some (PyData.list ((srtB ltI is).map .int))
    | none => (getPs ((dKs ps).map fun (p : PyData × PyData) => p.1)).map fun ps => .list ((srtB SrtO.lexB ps).map pairD)) = _
  rw [e]
  cases ps with
  | nil => rfl
  | cons p ps =>
    rw [getPs_map]
    rfl
theorem strict_ext {ps qs : List (Int × Int)} (h1 : ps.Pairwise fun p q => SrtO.lexB p q = true) (h2 : qs.Pairwise fun p q => SrtO.lexB p q = true) (h : ∀ q, q ∈ ps ↔ q ∈ qs) : ps = qs := by
  have p : ps.Perm qs := (List.perm_ext_iff_of_nodup (strict_nodup h1) (strict_nodup h2)).mpr h
  exact srt_uniq tot_pair (h1.imp fun {p q} hpq => tot_pair.asym _ _ hpq) (h2.imp fun {p q} hpq => tot_pair.asym _ _ hpq) p
def nbL (v : Int) (es : List (Int × Int)) : List Int := srtB ltI ((es.filter fun p => decide (p.1 = v ∨ p.2 = v)).map fun p => p.1 + p.2 - v)
theorem getIs_map : ∀ l : List Int, getIs (l.map .int) = some l
  | [] => rfl
  | i :: l => by
    show (match getIs (l.map .int) with
      | some is => some (i :: is)
      | none => none) = _
    rw [getIs_map l]
theorem sortP_ints {l : List Int} : sortP (.list (l.map .int)) = some (.list ((srtB ltI l).map .int)) := by
  show (match getIs (l.map .int) with
    | some is => some (PyData.list ((srtB ltI is).map .int))
    | none => _) = _
  rw [getIs_map]
theorem mem_nb {v x : Int} {es : List (Int × Int)} : x ∈ nbL v es ↔ (v, x) ∈ es ∨ (x, v) ∈ es := by
  unfold nbL
  rw [(srtB_perm _).mem_iff, List.mem_map]
  constructor
  · rintro ⟨p, hp, rfl⟩
    obtain ⟨h1, h2⟩ := List.mem_filter.mp hp
    rcases of_decide_eq_true h2 with h | h
    · refine .inl ?_
      have : p = (v, p.1 + p.2 - v) := Prod.ext h (by simp; omega)
      rw [← this]; exact h1
    · refine .inr ?_
      have : p = (p.1 + p.2 - v, v) := Prod.ext (by simp; omega) h
      rw [← this]; exact h1
  · rintro (h | h)
    · exact ⟨_, List.mem_filter.mpr ⟨h, by simp⟩, by simp; omega⟩
    · exact ⟨_, List.mem_filter.mpr ⟨h, by simp⟩, by simp⟩
theorem nb_len {v : Int} {es : List (Int × Int)} : (nbL v es).length ≤ es.length := by
  unfold nbL
  rw [(srtB_perm _).length_eq, List.length_map]
  exact List.length_filter_le _ _
theorem mem_kept {ps : List (Int × Int)} {q : Int × Int} : q ∈ srtB SrtO.lexB (keptL ps []) ↔ ∃ p ∈ ps, p.1 ≠ p.2 ∧ q = normP p := by
  rw [(srtB_perm _).mem_iff, keptL_mem]
  simp
theorem normP_dn {g : Int} {p : Int × Int} (h1 : p.1 ≠ g) (h2 : p.2 ≠ g) : normP (dnP g p) = dnP g (normP p) := by
  unfold normP dnP
  by_cases h : p.1 < p.2
  · rw [if_pos h, if_pos (dn_lt h h1 h2)]
  · rw [if_neg h, if_neg]
    intro z
    simp only at z
    unfold dn at z
    split at z <;> split at z <;> omega
theorem normP_swap {a b : Int} (h : a ≠ b) : normP (a, b) = normP (b, a) := by
  unfold normP
  simp only
  split <;> split <;> first | rfl | omega
theorem eqv_nilT {xs : List PyData} : PyData.eqv (.tuple xs) (.tuple []) = xs.isEmpty := by
  cases xs <;> simp [PyData.eqv, PyData.eqvAll]
theorem neP_nilT {ps : List (Int × Int)} : neP (.tuple (ps.map pairD)) (.tuple []) = some (.bool (!ps.isEmpty)) := by
  rw [neP_s shp_pairsT (shp_tuple (n := 0) (xs := []) (by simp)), eqv_nilT]
  simp
end Lk
namespace Lk
open PySem PySem.Spec L2
def m_lawUpairsUof : M Fl :=
  (seqM (setM 1 (dispM .list (M.pure [])))
    (seqM (forS (.nm 2) (rg1I (.sl 0) (slotM 0))
    (seqM (setM 1 (op2 (lift2 addP) (.sl 1) (.v 2) (slotM 1) (compM (.nm 3) [3] (rg2I (.v 1) (.sl 0) (op2 (lift2 addP) (.sl 2) (.v 9) (slotM 2) (M.pure (.d (.int 1)))) (slotM 0)) (M.pure true) (dispM .tuple (consM (slotM 2) (consM (slotM 3) (M.pure [])))))))
    nxM))
    (seqM (retM [] (slotM 1))
    nxM)))
def F_lawUpairsUof : List DV → Res := runF 4 (ioP 0 [.fz]) m_lawUpairsUof
def m_lawUkept : M Fl :=
  (seqM (setM 2 (dispM .list (M.pure [])))
    (seqM (forS (.tp [3, 4]) (seqI (slotM 1))
    (seqM (setM 5 (ifM (asB (.v 9) (op2 (lift2 (cmpP .Lt)) (.sl 3) (.sl 4) (slotM 3) (slotM 4))) (dispM .tuple (consM (slotM 3) (consM (slotM 4) (M.pure [])))) (dispM .tuple (consM (slotM 4) (consM (slotM 3) (M.pure []))))))
    (seqM (ifS (andM (asB (.v 9) (op2 (lift2 neP) (.sl 3) (.sl 4) (slotM 3) (slotM 4))) (asB (.v 9) (op2 (lift2 notInP) (.sl 5) (.sl 2) (slotM 5) (slotM 2))))
    (seqM (dropM (apM 2 (slotM 5)))
    nxM)
    nxM)
    nxM)))
    (seqM (retM [] (dispM .tuple (consM (slotM 0) (consM (callM (oneD tupleP) [.v 1] (consM (callM (oneD sortP) [.sl 2] (consM (slotM 2) (M.pure []))) (M.pure []))) (M.pure [])))))
    nxM)))
def F_lawUkept : List DV → Res := runF 6 (ioP 0 [.fz, .fz]) m_lawUkept
def m_lawUdraw : M Fl :=
  (seqM (ifS (asB (.v 9) (op2 (lift2 (cmpP .Gt)) (.v 0) (.v 9) (op2 ixD (.sl 0) (.v 9) (slotM 0) (M.pure (.d (.int 0)))) (M.pure (.d (.int 0)))))
    (seqM (setM 2 (op2 (lift2 modP) (.v 9) (.sl 1) (callM (oneD intP) [.v 0] (consM (op2 ixD (.sl 0) (.v 9) (slotM 0) (M.pure (.d (.int 0)))) (M.pure []))) (slotM 1)))
    (seqM (stM 0 (op2 (lift2 divP) (.v 0) (.sl 1) (op2 ixD (.sl 0) (.v 9) (slotM 0) (M.pure (.d (.int 0)))) (slotM 1)) (.v 9) (M.pure (.d (.int 0))))
    (seqM (retM [(0, 1)] (slotM 2))
    nxM)))
    nxM)
    (seqM (stM 0 (op2 (lift2 addP) (.v 0) (.v 9) (op2 ixD (.sl 0) (.v 9) (slotM 0) (M.pure (.d (.int 2)))) (M.pure (.d (.int 1)))) (.v 9) (M.pure (.d (.int 2))))
    (seqM (setM 3 (op2 (lift2 modP) (.v 9) (.v 9) (callM (oneD intP) [.v 1] (consM (op2 (lift2 addP) (.v 1) (.v 9) (op2 (lift2 addP) (.v 1) (.v 1) (op2 (lift2 mulQ) (.v 0) (.v 9) (op2 ixD (.sl 0) (.v 9) (slotM 0) (M.pure (.d (.int 1)))) (M.pure (.d (.int 40692)))) (op2 (lift2 mulQ) (.v 9) (.v 0) (M.pure (.d (.int 17093))) (op2 ixD (.sl 0) (.v 9) (slotM 0) (M.pure (.d (.int 2)))))) (M.pure (.d (.int 31)))) (M.pure []))) (M.pure (.d (.int 2147483399)))))
    (seqM (stM 0 (slotM 3) (.v 9) (M.pure (.d (.int 1))))
    (seqM (retM [(0, 1)] (op2 (lift2 modP) (.v 9) (.sl 1) (callM (oneD intP) [.v 9] (consM (op2 (lift2 divP) (.v 1) (.v 9) (op2 (lift2 mulQ) (.sl 3) (.v 1) (slotM 3) (op2 (lift2 addP) (.v 9) (.v 9) (op2 (lift2 modP) (.v 9) (.v 9) (callM (oneD intP) [.sl 3] (consM (slotM 3) (M.pure []))) (M.pure (.d (.int 28001)))) (M.pure (.d (.int 30011))))) (M.pure (.d (.int 5003)))) (M.pure []))) (slotM 1)))
    nxM)))))
def F_lawUdraw : List DV → Res := runF 4 (ioP 0 [.io 1 1, .fz]) m_lawUdraw
def m_lawUpick : M Fl :=
  (seqM (retM [(0, 1)] (op2 ixD (.sl 1) (.v 9) (slotM 1) (callF F_lawUdraw [.io 1 1, .fz] [.sl 0, .v 9] (consM (slotM 0) (consM (callM lenD [.sl 1] (consM (slotM 1) (M.pure []))) (M.pure []))))))
    nxM)
def F_lawUpick : List DV → Res := runF 2 (ioP 0 [.io 1 1, .fz]) m_lawUpick
def m_lawUedgesUof : M Fl :=
  (seqM (setM 1 (mthM "str" splitD (.sl 0) (slotM 0) [.v 9] (consM (M.pure (.d (.str (" " : Str)))) (M.pure []))))
    (seqM (setM 2 (compM (.nm 3) [3] (seqI (slM (.sl 1) (slotM 1) (someI (.v 9) (M.pure (.d (.int 1)))) (M.pure none))) (M.pure true) (mthM "str" splitD (.sl 3) (slotM 3) [.v 9] (consM (M.pure (.d (.str ("-" : Str)))) (M.pure [])))))
    (seqM (retM [] (callF F_lawUkept [.fz, .fz] [.v 9, .v 11] (consM (callM (oneD intP) [.v 1] (consM (slM (.v 0) (op2 ixD (.sl 1) (.v 9) (slotM 1) (M.pure (.d (.int 0)))) (M.pure none) (someI (.v 9) (un1 (lift1 negP) (.v 9) (M.pure (.d (.int 1)))))) (M.pure []))) (consM (compM (.nm 4) [4] (seqI (slotM 2)) (M.pure true) (dispM .tuple (consM (callM (oneD intP) [.v 0] (consM (op2 ixD (.sl 4) (.v 9) (slotM 4) (M.pure (.d (.int 0)))) (M.pure []))) (consM (callM (oneD intP) [.v 0] (consM (op2 ixD (.sl 4) (.v 9) (slotM 4) (M.pure (.d (.int 1)))) (M.pure []))) (M.pure []))))) (M.pure [])))))
    nxM)))
def F_lawUedgesUof : List DV → Res := runF 5 (ioP 0 [.fz]) m_lawUedgesUof
def m_lawUfamily : M Fl :=
  (seqM (setM 1 (dispM .tuple (consM (dispM .tuple (consM (M.pure (.d (.str ("3: 0-1 0-2 1-2" : Str)))) (consM (M.pure (.d (.str ("4: 0-3 1-3 2-3" : Str)))) (M.pure [])))) (consM (dispM .tuple (consM (M.pure (.d (.str ("4: 0-1 0-2 0-3 1-2 1-3 2-3" : Str)))) (consM (M.pure (.d (.str ("5: 0-2 0-3 0-4 1-2 1-3 1-4" : Str)))) (M.pure [])))) (consM (dispM .tuple (consM (M.pure (.d (.str ("5: 0-1 0-2 0-3 0-4 1-2 1-3 1-4 2-3 2-4 3-4" : Str)))) (consM (M.pure (.d (.str ("6: 0-3 0-4 0-5 1-3 1-4 1-5 2-3 2-4 2-5" : Str)))) (M.pure [])))) (consM (dispM .tuple (consM (M.pure (.d (.str ("6: 0-1 0-2 0-3 0-4 0-5 1-2 1-3 1-4 1-5 2-3 2-4 2-5 3-4 3-5 4-5" : Str)))) (consM (M.pure (.d (.str ("7: 0-3 0-4 0-5 0-6 1-3 1-4 1-5 1-6 2-3 2-4 2-5 2-6 3-6 4-6 5-6" : Str)))) (consM (M.pure (.d (.str ("7: 0-1 0-2 0-3 0-4 0-5 1-2 1-3 1-4 1-5 2-3 2-4 2-5 3-6 4-6 5-6" : Str)))) (consM (M.pure (.d (.str ("8: 0-4 0-5 0-6 0-7 1-4 1-5 1-6 1-7 2-4 2-5 2-6 2-7 3-4 3-5 3-6" : Str)))) (consM (M.pure (.d (.str ("8: 0-2 0-4 0-5 0-7 1-2 1-4 1-5 1-7 2-3 2-4 2-5 3-6 3-7 4-6 5-6" : Str)))) (consM (M.pure (.d (.str ("9: 0-5 0-7 0-8 1-2 1-4 1-5 1-7 2-3 2-5 2-8 3-6 3-7 4-6 4-8 5-6" : Str)))) (consM (M.pure (.d (.str ("10: 0-5 0-7 0-8 1-4 1-7 1-9 2-3 2-8 2-9 3-6 3-7 4-6 4-8 5-6 5-9" : Str)))) (M.pure []))))))))) (M.pure [])))))))
    (seqM (retM [] (compM (.nm 2) [2] (seqI (op2 ixD (.sl 1) (.v 9) (slotM 1) (op2 (lift2 subP) (.sl 0) (.v 9) (slotM 0) (M.pure (.d (.int 1)))))) (M.pure true) (callF F_lawUedgesUof [.fz] [.v 0] (consM (slotM 2) (M.pure [])))))
    nxM))
def F_lawUfamily : List DV → Res := runF 3 (ioP 0 [.fz]) m_lawUfamily
def m_lawUnamed : M Fl :=
  (seqM (retM [] (callF F_lawUkept [.fz, .fz] [.v 0, .v 2] (consM (op2 ixD (.sl 0) (.v 9) (slotM 0) (M.pure (.d (.int 0)))) (consM (compM (.tp [2, 3]) [2, 3] (seqI (op2 ixD (.sl 0) (.v 9) (slotM 0) (M.pure (.d (.int 1))))) (M.pure true) (dispM .tuple (consM (op2 ixD (.sl 1) (.sl 2) (slotM 1) (slotM 2)) (consM (op2 ixD (.sl 1) (.sl 3) (slotM 1) (slotM 3)) (M.pure []))))) (M.pure [])))))
    nxM)
def F_lawUnamed : List DV → Res := runF 4 (ioP 0 [.fz, .fz]) m_lawUnamed
def m_lawUorder : M Fl :=
  (seqM (parM 2 3 (consM (rg1M (.sl 1) (slotM 1)) (consM (dispM .list (M.pure [])) (M.pure []))))
    (seqM (whileM (asB (.v 9) (op2 (lift2 neP) (.sl 2) (.v 9) (slotM 2) (dispM .list (M.pure []))))
    (seqM (setM 4 (callF F_lawUpick [.io 1 1, .fz] [.sl 0, .v 0] (consM (slotM 0) (consM (slotM 2) (M.pure [])))))
    (seqM (dropM (apM 3 (slotM 4)))
    (seqM (setM 2 (compM (.nm 5) [5] (seqI (slotM 2)) (asB (.v 9) (op2 (lift2 neP) (.sl 5) (.sl 4) (slotM 5) (slotM 4))) (slotM 5)))
    nxM))) big)
    (seqM (retM [(0, 1)] (slotM 3))
    nxM)))
def F_lawUorder : List DV → Res := runF 6 (ioP 0 [.io 1 1, .fz]) m_lawUorder
def m_lawUgraph : M Fl :=
  (seqM (setM 3 (op2 (lift2 addP) (.v 9) (.v 9) (M.pure (.d (.int 1))) (callF F_lawUdraw [.io 1 1, .fz] [.sl 0, .v 0] (consM (slotM 0) (consM (slotM 1) (M.pure []))))))
    (seqM (setM 4 (callF F_lawUpairsUof [.fz] [.v 0] (consM (slotM 3) (M.pure []))))
    (seqM (ifS (asB (.v 9) (op2 (lift2 eqP) (.v 9) (.v 9) (callF F_lawUdraw [.io 1 1, .fz] [.sl 0, .v 9] (consM (slotM 0) (consM (M.pure (.d (.int 3))) (M.pure [])))) (M.pure (.d (.int 0)))))
    (seqM (setM 5 (callF F_lawUpick [.io 1 1, .fz] [.sl 0, .v 2] (consM (slotM 0) (consM (callF F_lawUfamily [.fz] [.v 0] (consM (callF F_lawUpick [.io 1 1, .fz] [.sl 0, .v 10] (consM (slotM 0) (consM (dispM .tuple (consM (M.pure (.d (.int 2))) (consM (M.pure (.d (.int 3))) (consM (M.pure (.d (.int 4))) (M.pure []))))) (M.pure [])))) (M.pure []))) (M.pure [])))))
    (seqM (ifS (andM (asB (.v 9) (op2 (lift2 (cmpP .LtE)) (.v 0) (.sl 1) (op2 ixD (.sl 5) (.v 9) (slotM 5) (M.pure (.d (.int 0)))) (slotM 1))) (asB (.v 9) (op2 (lift2 (cmpP .LtE)) (.v 9) (.sl 2) (callM lenD [.v 0] (consM (op2 ixD (.sl 5) (.v 9) (slotM 5) (M.pure (.d (.int 1)))) (M.pure []))) (slotM 2))))
    (seqM (setM 5 (callF F_lawUnamed [.fz, .fz] [.v 0, .v 1] (consM (slotM 5) (consM (callF F_lawUorder [.io 1 1, .fz] [.sl 0, .v 0] (consM (slotM 0) (consM (op2 ixD (.sl 5) (.v 9) (slotM 5) (M.pure (.d (.int 0)))) (M.pure [])))) (M.pure [])))))
    (seqM (setM 6 (callM listD [.v 0] (consM (op2 ixD (.sl 5) (.v 9) (slotM 5) (M.pure (.d (.int 1)))) (M.pure []))))
    (seqM (forS (.nm 7) (rg1I (.v 9) (callF F_lawUdraw [.io 1 1, .fz] [.sl 0, .v 9] (consM (slotM 0) (consM (M.pure (.d (.int 4))) (M.pure [])))))
    (seqM (setM 8 (callF F_lawUpick [.io 1 1, .fz] [.sl 0, .v 1] (consM (slotM 0) (consM (callF F_lawUpairsUof [.fz] [.v 0] (consM (op2 ixD (.sl 5) (.v 9) (slotM 5) (M.pure (.d (.int 0)))) (M.pure []))) (M.pure [])))))
    (seqM (ifS (orM (asB (.v 9) (op2 (lift2 eqP) (.v 9) (.v 9) (callF F_lawUdraw [.io 1 1, .fz] [.sl 0, .v 9] (consM (slotM 0) (consM (M.pure (.d (.int 2))) (M.pure [])))) (M.pure (.d (.int 0))))) (asB (.v 9) (op2 (lift2 (cmpP .GtE)) (.v 9) (.sl 2) (callM lenD [.sl 6] (consM (slotM 6) (M.pure []))) (slotM 2))))
    (seqM (setM 6 (compM (.nm 11) [11] (seqI (slotM 6)) (asB (.v 9) (op2 (lift2 neP) (.sl 11) (.sl 8) (slotM 11) (slotM 8))) (slotM 11)))
    nxM)
    (seqM (dropM (apM 6 (slotM 8)))
    nxM))
    nxM)))
    (seqM (retM [(0, 1)] (callF F_lawUkept [.fz, .fz] [.v 0, .v 0] (consM (op2 ixD (.sl 5) (.v 9) (slotM 5) (M.pure (.d (.int 0)))) (consM (slotM 6) (M.pure [])))))
    nxM))))
    nxM)
    nxM))
    nxM)
    (seqM (parM 9 10 (consM (dispM .list (M.pure [])) (consM (op2 (lift2 addP) (.v 9) (.v 9) (M.pure (.d (.int 1))) (callF F_lawUdraw [.io 1 1, .fz] [.sl 0, .v 9] (consM (slotM 0) (consM (M.pure (.d (.int 6))) (M.pure []))))) (M.pure []))))
    (seqM (forS (.nm 8) (seqI (slotM 4))
    (seqM (ifS (andM (asB (.v 9) (op2 (lift2 (cmpP .Lt)) (.v 9) (.sl 10) (callF F_lawUdraw [.io 1 1, .fz] [.sl 0, .v 9] (consM (slotM 0) (consM (M.pure (.d (.int 6))) (M.pure [])))) (slotM 10))) (asB (.v 9) (op2 (lift2 (cmpP .Lt)) (.v 9) (.sl 2) (callM lenD [.sl 9] (consM (slotM 9) (M.pure []))) (slotM 2))))
    (seqM (dropM (apM 9 (slotM 8)))
    nxM)
    nxM)
    nxM))
    (seqM (retM [(0, 1)] (callF F_lawUkept [.fz, .fz] [.v 0, .v 0] (consM (slotM 3) (consM (slotM 9) (M.pure [])))))
    nxM))))))
def F_lawUgraph : List DV → Res := runF 12 (ioP 0 [.io 1 1, .fz, .fz]) m_lawUgraph
def m_lawUspread : M Fl :=
  (seqM (asgM (.tp [3, 4, 5]) (dispM .tuple (consM (op2 ixD (.sl 1) (.v 9) (slotM 1) (M.pure (.d (.int 0)))) (consM (callM listD [.v 0] (consM (op2 ixD (.sl 1) (.v 9) (slotM 1) (M.pure (.d (.int 1)))) (M.pure []))) (consM (compM (.nm 7) [7] (rg1I (.v 0) (op2 ixD (.sl 1) (.v 9) (slotM 1) (M.pure (.d (.int 0))))) (M.pure true) (dispM .list (consM (slotM 7) (M.pure [])))) (M.pure []))))))
    (seqM (forS (.nm 6) (rg1I (.v 9) (callF F_lawUdraw [.io 1 1, .fz] [.sl 0, .v 9] (consM (slotM 0) (consM (M.pure (.d (.int 4))) (M.pure [])))))
    (seqM (ifS (andM (asB (.v 9) (op2 (lift2 (cmpP .Lt)) (.sl 3) (.sl 2) (slotM 3) (slotM 2))) (asB (.v 9) (op2 (lift2 (cmpP .Lt)) (.v 9) (.v 9) (callM lenD [.sl 4] (consM (slotM 4) (M.pure []))) (M.pure (.d (.int 22))))))
    (seqM (parM 7 8 (consM (callF F_lawUdraw [.io 1 1, .fz] [.sl 0, .v 0] (consM (slotM 0) (consM (slotM 3) (M.pure [])))) (consM (dispM .list (M.pure [])) (M.pure []))))
    (seqM (forS (.nm 9) (seqI (slotM 4))
    (seqM (ifS (andM (asB (.v 9) (op2 (lift2 inP) (.sl 7) (.sl 9) (slotM 7) (slotM 9))) (asB (.v 9) (op2 (lift2 eqP) (.v 9) (.v 9) (callF F_lawUdraw [.io 1 1, .fz] [.sl 0, .v 9] (consM (slotM 0) (consM (M.pure (.d (.int 2))) (M.pure [])))) (M.pure (.d (.int 0))))))
    (seqM (dropM (apM 8 (slotM 9)))
    nxM)
    nxM)
    nxM))
    (seqM (setM 4 (op2 (lift2 addP) (.v 1) (.v 2) (compM (.nm 9) [9] (seqI (slotM 4)) (asB (.v 9) (op2 (lift2 notInP) (.sl 9) (.sl 8) (slotM 9) (slotM 8))) (slotM 9)) (compM (.tp [14, 15]) [14, 15] (seqI (slotM 8)) (M.pure true) (dispM .tuple (consM (op2 (lift2 subP) (.v 1) (.sl 7) (op2 (lift2 addP) (.sl 14) (.sl 15) (slotM 14) (slotM 15)) (slotM 7)) (consM (slotM 3) (M.pure [])))))))
    (seqM (dropM (apM 4 (dispM .tuple (consM (slotM 7) (consM (slotM 3) (M.pure []))))))
    (seqM (setM 5 (compM (.nm 13) [13] (seqI (slotM 5)) (M.pure true) (ifM (asB (.v 9) (op2 (lift2 inP) (.sl 7) (.sl 13) (slotM 7) (slotM 13))) (op2 (lift2 addP) (.sl 13) (.v 1) (slotM 13) (dispM .list (consM (slotM 3) (M.pure [])))) (slotM 13))))
    (seqM (setM 3 (op2 (lift2 addP) (.sl 3) (.v 9) (slotM 3) (M.pure (.d (.int 1)))))
    nxM))))))
    nxM)
    nxM))
    (seqM (setM 3 (op2 (lift2 addP) (.sl 3) (.v 9) (slotM 3) (ifM (andM (asB (.v 9) (op2 (lift2 (cmpP .Lt)) (.sl 3) (.sl 2) (slotM 3) (slotM 2))) (asB (.v 9) (op2 (lift2 eqP) (.v 9) (.v 9) (callF F_lawUdraw [.io 1 1, .fz] [.sl 0, .v 9] (consM (slotM 0) (consM (M.pure (.d (.int 3))) (M.pure [])))) (M.pure (.d (.int 0)))))) (M.pure (.d (.int 1))) (M.pure (.d (.int 0))))))
    (seqM (forS (.nm 6) (rg1I (.v 9) (callF F_lawUdraw [.io 1 1, .fz] [.sl 0, .v 9] (consM (slotM 0) (consM (M.pure (.d (.int 4))) (M.pure [])))))
    (seqM (setM 10 (callF F_lawUpick [.io 1 1, .fz] [.sl 0, .v 1] (consM (slotM 0) (consM (op2 (lift2 addP) (.v 1) (.v 11) (callF F_lawUpairsUof [.fz] [.v 0] (consM (slotM 3) (M.pure []))) (dispM .list (consM (dispM .tuple (consM (M.pure (.d (.int 0))) (consM (M.pure (.d (.int 0))) (M.pure [])))) (M.pure [])))) (M.pure [])))))
    (seqM (setM 4 (ifM (asB (.v 9) (op2 (lift2 (cmpP .Lt)) (.v 9) (.v 9) (callM lenD [.sl 4] (consM (slotM 4) (M.pure []))) (M.pure (.d (.int 23))))) (op2 (lift2 addP) (.sl 4) (.v 1) (slotM 4) (dispM .list (consM (slotM 10) (M.pure [])))) (slotM 4)))
    nxM)))
    (seqM (setM 11 (callF F_lawUorder [.io 1 1, .fz] [.sl 0, .v 0] (consM (slotM 0) (consM (slotM 3) (M.pure [])))))
    (seqM (setM 12 (callM (oneD tupleP) [.v 2] (consM (compM (.nm 13) [13] (seqI (slotM 5)) (M.pure true) (callM (oneD tupleP) [.v 1] (consM (callM (oneD sortP) [.v 1] (consM (compM (.nm 7) [7] (seqI (slotM 13)) (M.pure true) (op2 ixD (.sl 11) (.sl 7) (slotM 11) (slotM 7))) (M.pure []))) (M.pure [])))) (M.pure []))))
    (seqM (retM [(0, 1)] (dispM .list (consM (callF F_lawUnamed [.fz, .fz] [.v 1, .v 0] (consM (callF F_lawUkept [.fz, .fz] [.v 0, .v 0] (consM (slotM 3) (consM (slotM 4) (M.pure [])))) (consM (slotM 11) (M.pure [])))) (consM (slotM 12) (M.pure [])))))
    nxM)))))))
def F_lawUspread : List DV → Res := runF 16 (ioP 0 [.io 1 1, .fz, .fz]) m_lawUspread
def m_lawUneighbours : M Fl :=
  (seqM (retM [] (callM (oneD sortP) [.v 10] (consM (compM (.tp [2, 3]) [2, 3] (seqI (op2 ixD (.sl 0) (.v 9) (slotM 0) (M.pure (.d (.int 1))))) (asB (.v 9) (op2 (lift2 inP) (.sl 1) (.v 1) (slotM 1) (dispM .tuple (consM (slotM 2) (consM (slotM 3) (M.pure [])))))) (op2 (lift2 subP) (.v 1) (.sl 1) (op2 (lift2 addP) (.sl 2) (.sl 3) (slotM 2) (slotM 3)) (slotM 1))) (M.pure []))))
    nxM)
def F_lawUneighbours : List DV → Res := runF 4 (ioP 0 [.fz, .fz]) m_lawUneighbours
def m_lawUreached : M Fl :=
  (seqM (parM 2 3 (consM (callM listD [.v 1] (consM (slM (.sl 1) (slotM 1) (M.pure none) (someI (.v 9) (M.pure (.d (.int 1))))) (M.pure []))) (consM (M.pure (.d (.int 0))) (M.pure []))))
    (seqM (whileM (asB (.v 9) (op2 (lift2 (cmpP .Lt)) (.sl 3) (.v 9) (slotM 3) (callM lenD [.sl 2] (consM (slotM 2) (M.pure [])))))
    (seqM (forS (.nm 4) (seqI (callF F_lawUneighbours [.fz, .fz] [.v 0, .v 0] (consM (slotM 0) (consM (op2 ixD (.sl 2) (.sl 3) (slotM 2) (slotM 3)) (M.pure [])))))
    (seqM (ifS (andM (asB (.v 9) (op2 (lift2 inP) (.sl 4) (.sl 1) (slotM 4) (slotM 1))) (asB (.v 9) (op2 (lift2 notInP) (.sl 4) (.sl 2) (slotM 4) (slotM 2))))
    (seqM (dropM (apM 2 (slotM 4)))
    nxM)
    nxM)
    nxM))
    (seqM (setM 3 (op2 (lift2 addP) (.sl 3) (.v 9) (slotM 3) (M.pure (.d (.int 1)))))
    nxM)) big)
    (seqM (retM [] (slotM 2))
    nxM)))
def F_lawUreached : List DV → Res := runF 5 (ioP 0 [.fz, .fz]) m_lawUreached
def m_lawUisUconnected : M Fl :=
  (seqM (retM [] (andV (.v 9) (op2 (lift2 (cmpP .Gt)) (.v 9) (.v 9) (callM lenD [.sl 1] (consM (slotM 1) (M.pure []))) (M.pure (.d (.int 0)))) (op2 (lift2 eqP) (.v 9) (.v 9) (callM lenD [.v 1] (consM (callF F_lawUreached [.fz, .fz] [.v 0, .v 0] (consM (slotM 0) (consM (slotM 1) (M.pure [])))) (M.pure []))) (callM lenD [.sl 1] (consM (slotM 1) (M.pure []))))))
    nxM)
def F_lawUisUconnected : List DV → Res := runF 2 (ioP 0 [.fz, .fz]) m_lawUisUconnected
def m_lawUareUapart : M Fl :=
  (seqM (retM [] (op2 (lift2 eqP) (.v 1) (.v 9) (compM (.nm 2) [2] (seqI (slotM 0)) (asB (.v 9) (op2 (lift2 inP) (.sl 2) (.sl 1) (slotM 2) (slotM 1))) (slotM 2)) (dispM .list (M.pure []))))
    nxM)
def F_lawUareUapart : List DV → Res := runF 3 (ioP 0 [.fz, .fz]) m_lawUareUapart
def m_lawUisUacross : M Fl :=
  (seqM (retM [] (orV (.v 9) (andV (.v 9) (op2 (lift2 inP) (.v 0) (.sl 1) (op2 ixD (.sl 0) (.v 9) (slotM 0) (M.pure (.d (.int 0)))) (slotM 1)) (op2 (lift2 inP) (.v 0) (.sl 2) (op2 ixD (.sl 0) (.v 9) (slotM 0) (M.pure (.d (.int 1)))) (slotM 2))) (andV (.v 9) (op2 (lift2 inP) (.v 0) (.sl 1) (op2 ixD (.sl 0) (.v 9) (slotM 0) (M.pure (.d (.int 1)))) (slotM 1)) (op2 (lift2 inP) (.v 0) (.sl 2) (op2 ixD (.sl 0) (.v 9) (slotM 0) (M.pure (.d (.int 0)))) (slotM 2)))))
    nxM)
def F_lawUisUacross : List DV → Res := runF 3 (ioP 0 [.fz, .fz, .fz]) m_lawUisUacross
def m_lawUisUwhole : M Fl :=
  (seqM (retM [] (andV (.v 9) (isiM "int" (.sl 0) (slotM 0)) (notV (.v 9) (isiM "bool" (.sl 0) (slotM 0)))))
    nxM)
def F_lawUisUwhole : List DV → Res := runF 1 (ioP 0 [.fz]) m_lawUisUwhole
def m_lawUisUupUto : M Fl :=
  (seqM (retM [] (andV (.v 9) (callF F_lawUisUwhole [.fz] [.v 0] (consM (slotM 0) (M.pure []))) (chM (lift2 (cmpP .LtE)) (lift2 (cmpP .LtE)) (.sl 1) (.sl 0) (.sl 2) (slotM 1) (slotM 0) (slotM 2))))
    nxM)
def F_lawUisUupUto : List DV → Res := runF 3 (ioP 0 [.fz, .fz, .fz]) m_lawUisUupUto
def m_lawUisUmodel : M Fl :=
  (seqM (ifS (orM (notM (truM (.v 9) (isiM "tuple" (.sl 2) (slotM 2)))) (asB (.v 9) (op2 (lift2 neP) (.v 9) (.v 0) (callM lenD [.sl 2] (consM (slotM 2) (M.pure []))) (op2 ixD (.sl 1) (.v 9) (slotM 1) (M.pure (.d (.int 0)))))))
    (seqM (retM [] (M.pure (.d (.bool false))))
    nxM)
    nxM)
    (seqM (setM 3 (dispM .list (M.pure [])))
    (seqM (forS (.nm 4) (seqI (slotM 2))
    (seqM (ifS (orM (notM (truM (.v 9) (isiM "tuple" (.sl 4) (slotM 4)))) (asB (.v 9) (op2 (lift2 neP) (.v 1) (.v 9) (compM (.nm 8) [8] (seqI (slotM 4)) (notM (truM (.v 9) (callF F_lawUisUupUto [.fz, .fz, .fz] [.v 0, .v 9, .v 9] (consM (slotM 8) (consM (M.pure (.d (.int 0))) (consM (op2 (lift2 subP) (.v 0) (.v 9) (op2 ixD (.sl 0) (.v 9) (slotM 0) (M.pure (.d (.int 0)))) (M.pure (.d (.int 1)))) (M.pure []))))))) (slotM 8)) (dispM .list (M.pure [])))))
    (seqM (retM [] (M.pure (.d (.bool false))))
    nxM)
    nxM)
    (seqM (ifS (orM (asB (.v 9) (op2 (lift2 neP) (.v 1) (.v 9) (compM (.nm 9) [9] (rg2I (.v 9) (.v 9) (M.pure (.d (.int 1))) (callM lenD [.sl 4] (consM (slotM 4) (M.pure [])))) (asB (.v 9) (op2 (lift2 (cmpP .GtE)) (.v 0) (.v 0) (op2 ixD (.sl 4) (.v 9) (slotM 4) (op2 (lift2 subP) (.sl 9) (.v 9) (slotM 9) (M.pure (.d (.int 1))))) (op2 ixD (.sl 4) (.sl 9) (slotM 4) (slotM 9)))) (slotM 9)) (dispM .list (M.pure [])))) (notM (truM (.v 9) (callF F_lawUareUapart [.fz, .fz] [.v 0, .v 0] (consM (slotM 4) (consM (slotM 3) (M.pure [])))))))
    (seqM (retM [] (M.pure (.d (.bool false))))
    nxM)
    nxM)
    (seqM (ifS (notM (truM (.v 9) (callF F_lawUisUconnected [.fz, .fz] [.v 0, .v 0] (consM (slotM 0) (consM (slotM 4) (M.pure []))))))
    (seqM (retM [] (M.pure (.d (.bool false))))
    nxM)
    nxM)
    (seqM (setM 3 (op2 (lift2 addP) (.sl 3) (.v 1) (slotM 3) (callM listD [.sl 4] (consM (slotM 4) (M.pure [])))))
    nxM)))))
    (seqM (forS (.tp [5, 6]) (seqI (op2 ixD (.sl 1) (.v 9) (slotM 1) (M.pure (.d (.int 1)))))
    (seqM (ifS (asB (.v 9) (op2 (lift2 eqP) (.v 1) (.v 9) (compM (.nm 7) [7] (seqI (op2 ixD (.sl 0) (.v 9) (slotM 0) (M.pure (.d (.int 1))))) (truM (.v 9) (callF F_lawUisUacross [.fz, .fz, .fz] [.v 0, .v 0, .v 0] (consM (slotM 7) (consM (op2 ixD (.sl 2) (.sl 5) (slotM 2) (slotM 5)) (consM (op2 ixD (.sl 2) (.sl 6) (slotM 2) (slotM 6)) (M.pure [])))))) (slotM 7)) (dispM .list (M.pure []))))
    (seqM (retM [] (M.pure (.d (.bool false))))
    nxM)
    nxM)
    nxM))
    (seqM (retM [] (M.pure (.d (.bool true))))
    nxM)))))
def F_lawUisUmodel : List DV → Res := runF 10 (ioP 0 [.fz, .fz, .fz]) m_lawUisUmodel
def m_isUwhole : M Fl :=
  (seqM (retM [] (andV (.v 9) (isiM "int" (.sl 0) (slotM 0)) (notV (.v 9) (isiM "bool" (.sl 0) (slotM 0)))))
    nxM)
def F_isUwhole : List DV → Res := runF 1 (ioP 0 [.fz]) m_isUwhole
def m_isUbetween : M Fl :=
  (seqM (retM [] (andV (.v 9) (callF F_isUwhole [.fz] [.v 0] (consM (slotM 0) (M.pure []))) (chM (lift2 (cmpP .LtE)) (lift2 (cmpP .LtE)) (.sl 1) (.sl 0) (.sl 2) (slotM 1) (slotM 0) (slotM 2))))
    nxM)
def F_isUbetween : List DV → Res := runF 3 (ioP 0 [.fz, .fz, .fz]) m_isUbetween
def m_isUedgeUof : M Fl :=
  (seqM (ifS (orM (notM (truM (.v 9) (isiM "tuple" (.sl 1) (slotM 1)))) (asB (.v 9) (op2 (lift2 neP) (.v 9) (.v 9) (callM lenD [.sl 1] (consM (slotM 1) (M.pure []))) (M.pure (.d (.int 2))))))
    (seqM (retM [] (M.pure (.d (.bool false))))
    nxM)
    nxM)
    (seqM (ifS (notM (truM (.v 9) (callM (oneD allP) [.v 10] (consM (compM (.nm 2) [2] (seqI (slotM 1)) (M.pure true) (callF F_isUbetween [.fz, .fz, .fz] [.v 0, .v 9, .v 9] (consM (slotM 2) (consM (M.pure (.d (.int 0))) (consM (op2 (lift2 subP) (.sl 0) (.v 9) (slotM 0) (M.pure (.d (.int 1)))) (M.pure [])))))) (M.pure [])))))
    (seqM (retM [] (M.pure (.d (.bool false))))
    nxM)
    nxM)
    (seqM (retM [] (op2 (lift2 (cmpP .Lt)) (.v 0) (.v 0) (op2 ixD (.sl 1) (.v 9) (slotM 1) (M.pure (.d (.int 0)))) (op2 ixD (.sl 1) (.v 9) (slotM 1) (M.pure (.d (.int 1))))))
    nxM)))
def F_isUedgeUof : List DV → Res := runF 3 (ioP 0 [.fz, .fz]) m_isUedgeUof
def m_isUgraphUby : M Fl :=
  (seqM (ifS (orM (notM (truM (.v 9) (isiM "tuple" (.sl 0) (slotM 0)))) (orM (asB (.v 9) (op2 (lift2 neP) (.v 9) (.v 9) (callM lenD [.sl 0] (consM (slotM 0) (M.pure []))) (M.pure (.d (.int 2))))) (notM (truM (.v 9) (callF F_isUbetween [.fz, .fz, .fz] [.v 0, .v 9, .v 9] (consM (op2 ixD (.sl 0) (.v 9) (slotM 0) (M.pure (.d (.int 0)))) (consM (M.pure (.d (.int 1))) (consM (M.pure (.d (.int 10))) (M.pure [])))))))))
    (seqM (retM [] (M.pure (.d (.bool false))))
    nxM)
    nxM)
    (seqM (asgM (.tp [1, 2]) (slotM 0))
    (seqM (ifS (orM (notM (truM (.v 9) (isiM "tuple" (.sl 2) (slotM 2)))) (asB (.v 9) (op2 (lift2 (cmpP .Gt)) (.v 9) (.v 9) (callM lenD [.sl 2] (consM (slotM 2) (M.pure []))) (M.pure (.d (.int 24))))))
    (seqM (retM [] (M.pure (.d (.bool false))))
    nxM)
    nxM)
    (seqM (ifS (notM (truM (.v 9) (callM (oneD allP) [.v 10] (consM (compM (.nm 5) [5] (seqI (slotM 2)) (M.pure true) (callF F_isUedgeUof [.fz, .fz] [.v 0, .v 0] (consM (slotM 1) (consM (slotM 5) (M.pure []))))) (M.pure [])))))
    (seqM (retM [] (M.pure (.d (.bool false))))
    nxM)
    nxM)
    (seqM (retM [] (callM (oneD allP) [.v 10] (consM (compM (.tp [3, 4]) [3, 4] (zipI (slotM 2) (slM (.sl 2) (slotM 2) (someI (.v 9) (M.pure (.d (.int 1)))) (M.pure none))) (M.pure true) (op2 (lift2 (cmpP .Lt)) (.sl 3) (.sl 4) (slotM 3) (slotM 4))) (M.pure []))))
    nxM)))))
def F_isUgraphUby : List DV → Res := runF 6 (ioP 0 [.fz]) m_isUgraphUby
def m_checkUgraph : M Fl :=
  (seqM (ifS (notM (truM (.v 9) (callF F_isUgraphUby [.fz] [.v 0] (consM (slotM 0) (M.pure [])))))
    (seqM (fun _ => .bad)
    nxM)
    nxM)
    nxM)
def F_checkUgraph : List DV → Res := runF 1 (ioP 0 [.fz]) m_checkUgraph
def m_edgeUbetween : M Fl :=
  (seqM (retM [] (ifM (asB (.v 9) (op2 (lift2 (cmpP .Lt)) (.sl 0) (.sl 1) (slotM 0) (slotM 1))) (dispM .tuple (consM (slotM 0) (consM (slotM 1) (M.pure [])))) (dispM .tuple (consM (slotM 1) (consM (slotM 0) (M.pure []))))))
    nxM)
def F_edgeUbetween : List DV → Res := runF 2 (ioP 0 [.fz, .fz]) m_edgeUbetween
def m_areUjoined : M Fl :=
  (seqM (retM [] (callM (oneD anyP) [.v 10] (consM (comp2M (.nm 3) [3, 4] (seqI (slotM 1)) (M.pure true) (seqI (slotM 2)) (.nm 4) [4] (M.pure true) (op2 (lift2 inP) (.v 1) (.v 0) (callF F_edgeUbetween [.fz, .fz] [.v 0, .v 0] (consM (slotM 3) (consM (slotM 4) (M.pure [])))) (op2 ixD (.sl 0) (.v 9) (slotM 0) (M.pure (.d (.int 1)))))) (M.pure []))))
    nxM)
def F_areUjoined : List DV → Res := runF 5 (ioP 0 [.fz, .fz, .fz]) m_areUjoined
def m_reachedUby : M Fl :=
  (seqM (parM 3 4 (consM (dispM .list (consM (slotM 1) (M.pure []))) (consM (M.pure (.d (.int 0))) (M.pure []))))
    (seqM (whileM (asB (.v 9) (op2 (lift2 (cmpP .Lt)) (.sl 4) (.v 9) (slotM 4) (callM lenD [.sl 3] (consM (slotM 3) (M.pure [])))))
    (seqM (setM 3 (op2 (lift2 addP) (.sl 3) (.v 1) (slotM 3) (compM (.nm 5) [5] (seqI (op2 ixD (.sl 0) (.v 0) (slotM 0) (op2 ixD (.sl 3) (.sl 4) (slotM 3) (slotM 4)))) (andM (asB (.v 9) (op2 (lift2 inP) (.sl 5) (.sl 2) (slotM 5) (slotM 2))) (asB (.v 9) (op2 (lift2 notInP) (.sl 5) (.sl 3) (slotM 5) (slotM 3)))) (slotM 5))))
    (seqM (setM 4 (op2 (lift2 addP) (.sl 4) (.v 9) (slotM 4) (M.pure (.d (.int 1)))))
    nxM)) big)
    (seqM (retM [] (callM (oneD tupleP) [.v 1] (consM (callM (oneD sortP) [.sl 3] (consM (slotM 3) (M.pure []))) (M.pure []))))
    nxM)))
def F_reachedUby : List DV → Res := runF 6 (ioP 0 [.fz, .fz, .fz]) m_reachedUby
def m_neighboursUby : M Fl :=
  (seqM (setM 1 (compM (.nm 4) [4] (rg1I (.v 0) (op2 ixD (.sl 0) (.v 9) (slotM 0) (M.pure (.d (.int 0))))) (M.pure true) (dispM .list (M.pure []))))
    (seqM (forS (.tp [2, 3]) (seqI (op2 ixD (.sl 0) (.v 9) (slotM 0) (M.pure (.d (.int 1)))))
    (seqM (dropM (apIxM 1 2 3))
    (seqM (dropM (apIxM 1 3 2))
    nxM)))
    (seqM (retM [] (compM (.nm 5) [5] (seqI (slotM 1)) (M.pure true) (callM (oneD sortP) [.sl 5] (consM (slotM 5) (M.pure [])))))
    nxM)))
def F_neighboursUby : List DV → Res := runF 6 (ioP 0 [.fz]) m_neighboursUby
def m_isUlot : M Fl :=
  (seqM (ifS (orM (notM (truM (.v 9) (isiM "tuple" (.sl 1) (slotM 1)))) (orM (asB (.v 9) (op2 (lift2 eqP) (.sl 1) (.v 9) (slotM 1) (dispM .tuple (M.pure [])))) (notM (truM (.v 9) (callM (oneD allP) [.v 10] (consM (compM (.nm 4) [4] (seqI (slotM 1)) (M.pure true) (callF F_isUbetween [.fz, .fz, .fz] [.v 0, .v 9, .v 9] (consM (slotM 4) (consM (M.pure (.d (.int 0))) (consM (op2 (lift2 subP) (.v 0) (.v 9) (op2 ixD (.sl 0) (.v 9) (slotM 0) (M.pure (.d (.int 0)))) (M.pure (.d (.int 1)))) (M.pure [])))))) (M.pure [])))))))
    (seqM (retM [] (M.pure (.d (.bool false))))
    nxM)
    nxM)
    (seqM (ifS (notM (truM (.v 9) (callM (oneD allP) [.v 10] (consM (compM (.tp [2, 3]) [2, 3] (zipI (slotM 1) (slM (.sl 1) (slotM 1) (someI (.v 9) (M.pure (.d (.int 1)))) (M.pure none))) (M.pure true) (op2 (lift2 (cmpP .Lt)) (.sl 2) (.sl 3) (slotM 2) (slotM 3))) (M.pure [])))))
    (seqM (retM [] (M.pure (.d (.bool false))))
    nxM)
    nxM)
    (seqM (retM [] (op2 (lift2 eqP) (.v 1) (.sl 1) (callF F_reachedUby [.fz, .fz, .fz] [.v 2, .v 0, .v 0] (consM (callF F_neighboursUby [.fz] [.v 0] (consM (slotM 0) (M.pure []))) (consM (op2 ixD (.sl 1) (.v 9) (slotM 1) (M.pure (.d (.int 0)))) (consM (slotM 1) (M.pure []))))) (slotM 1)))
    nxM)))
def F_isUlot : List DV → Res := runF 5 (ioP 0 [.fz, .fz]) m_isUlot
def m_isUmodelUby : M Fl :=
  (seqM (ifS (orM (notM (truM (.v 9) (isiM "tuple" (.sl 2) (slotM 2)))) (orM (asB (.v 9) (op2 (lift2 neP) (.v 9) (.v 0) (callM lenD [.sl 2] (consM (slotM 2) (M.pure []))) (op2 ixD (.sl 1) (.v 9) (slotM 1) (M.pure (.d (.int 0)))))) (notM (truM (.v 9) (callM (oneD allP) [.v 10] (consM (compM (.nm 4) [4] (seqI (slotM 2)) (M.pure true) (callF F_isUlot [.fz, .fz] [.v 0, .v 0] (consM (slotM 0) (consM (slotM 4) (M.pure []))))) (M.pure [])))))))
    (seqM (retM [] (M.pure (.d (.bool false))))
    nxM)
    nxM)
    (seqM (setM 3 (comp2M (.nm 4) [4, 5] (seqI (slotM 2)) (M.pure true) (seqI (slotM 4)) (.nm 5) [5] (M.pure true) (slotM 5)))
    (seqM (ifS (asB (.v 9) (op2 (lift2 neP) (.v 9) (.v 9) (callM lenD [.sl 3] (consM (slotM 3) (M.pure []))) (un1 lenSetD (.v 0) (slotM 3))))
    (seqM (retM [] (M.pure (.d (.bool false))))
    nxM)
    nxM)
    (seqM (retM [] (callM (oneD allP) [.v 10] (consM (compM (.tp [6, 7]) [6, 7] (seqI (op2 ixD (.sl 1) (.v 9) (slotM 1) (M.pure (.d (.int 1))))) (M.pure true) (callF F_areUjoined [.fz, .fz, .fz] [.v 0, .v 0, .v 0] (consM (slotM 0) (consM (op2 ixD (.sl 2) (.sl 6) (slotM 2) (slotM 6)) (consM (op2 ixD (.sl 2) (.sl 7) (slotM 2) (slotM 7)) (M.pure [])))))) (M.pure []))))
    nxM))))
def F_isUmodelUby : List DV → Res := runF 8 (ioP 0 [.fz, .fz, .fz]) m_isUmodelUby
def m_isUmodel : M Fl :=
  (seqM (dropM (callF F_checkUgraph [.fz] [.v 0] (consM (slotM 0) (M.pure []))))
    (seqM (dropM (callF F_checkUgraph [.fz] [.v 0] (consM (slotM 1) (M.pure []))))
    (seqM (retM [] (callF F_isUmodelUby [.fz, .fz, .fz] [.v 0, .v 0, .v 0] (consM (slotM 0) (consM (slotM 1) (consM (slotM 2) (M.pure []))))))
    nxM)))
def F_isUmodel : List DV → Res := runF 3 (ioP 0 [.fz, .fz, .fz]) m_isUmodel
def m_lawUtold : M Fl :=
  (seqM (setM 3 (callF F_lawUisUmodel [.fz, .fz, .fz] [.v 0, .v 0, .v 0] (consM (slotM 0) (consM (slotM 1) (consM (slotM 2) (M.pure []))))))
    (seqM (retM [] (op2 (lift2 eqP) (.v 9) (.v 9) (callM (oneD reprP) [.v 10] (consM (dispM .list (consM (callF F_isUmodel [.fz, .fz, .fz] [.v 0, .v 0, .v 0] (consM (slotM 0) (consM (slotM 1) (consM (slotM 2) (M.pure []))))) (consM (callF F_isUmodel [.fz, .fz, .fz] [.v 0, .v 0, .v 0] (kwM [2, 1, 0] (M.pure []) (consM (slotM 2) (consM (slotM 1) (consM (slotM 0) (M.pure [])))))) (M.pure [])))) (M.pure []))) (callM (oneD reprP) [.v 1] (consM (dispM .list (consM (slotM 3) (consM (slotM 3) (M.pure [])))) (M.pure [])))))
    nxM))
def F_lawUtold : List DV → Res := runF 4 (ioP 0 [.fz, .fz, .fz]) m_lawUtold
def m_lawUstrange : M Fl :=
  (seqM (setM 1 (dispM .tuple (consM (M.pure (.d .none)) (consM (M.pure (.d (.bool true))) (consM (M.pure (.d (.bool false))) (consM (M.pure (.d (.int 0))) (consM (M.pure (.d (.int 1))) (consM (M.pure (.d (.int 7))) (consM (un1 (lift1 negP) (.v 9) (M.pure (.d (.int 1)))) (consM (M.pure (.d (.int 11))) (consM (op2 (lift2 powP) (.v 9) (.v 9) (M.pure (.d (.int 10))) (M.pure (.d (.int 30)))) (consM (M.pure (.d (.str ("" : Str)))) (consM (M.pure (.d (.str ("3:" : Str)))) (consM (M.pure (.d (.str ("3: 0-1" : Str)))) (consM (dispM .tuple (M.pure [])) (consM (dispM .tuple (consM (M.pure (.d (.int 0))) (M.pure []))) (consM (dispM .tuple (consM (M.pure (.d (.int 0))) (consM (M.pure (.d (.int 1))) (M.pure [])))) (consM (dispM .tuple (consM (M.pure (.d (.int 1))) (consM (M.pure (.d (.int 0))) (M.pure [])))) (consM (dispM .list (M.pure [])) (consM (dispM .list (consM (M.pure (.d (.int 0))) (consM (M.pure (.d (.int 1))) (M.pure [])))) (M.pure [])))))))))))))))))))))
    (seqM (setM 2 (dispM .tuple (consM (dispM .tuple (consM (M.pure (.d (.int 3))) (consM (dispM .tuple (M.pure [])) (M.pure [])))) (consM (dispM .tuple (consM (M.pure (.d (.int 3))) (consM (dispM .tuple (consM (dispM .tuple (consM (M.pure (.d (.int 0))) (consM (M.pure (.d (.int 1))) (M.pure [])))) (M.pure []))) (M.pure [])))) (consM (dispM .tuple (consM (M.pure (.d (.int 3))) (consM (dispM .tuple (consM (dispM .tuple (consM (M.pure (.d (.int 1))) (consM (M.pure (.d (.int 0))) (M.pure [])))) (M.pure []))) (M.pure [])))) (consM (dispM .tuple (consM (M.pure (.d (.int 0))) (consM (dispM .tuple (M.pure [])) (M.pure [])))) (consM (dispM .tuple (consM (M.pure (.d (.int 11))) (consM (dispM .tuple (M.pure [])) (M.pure [])))) (consM (dispM .tuple (consM (M.pure (.d (.bool true))) (consM (dispM .tuple (M.pure [])) (M.pure [])))) (consM (dispM .tuple (consM (M.pure (.d (.int 2))) (consM (dispM .list (consM (dispM .tuple (consM (M.pure (.d (.int 0))) (consM (M.pure (.d (.int 1))) (M.pure [])))) (M.pure []))) (M.pure [])))) (M.pure []))))))))))
    (seqM (retM [(0, 1)] (callF F_lawUpick [.io 1 1, .fz] [.sl 0, .v 1] (consM (slotM 0) (consM (op2 (lift2 addP) (.v 1) (.v 10) (op2 (lift2 addP) (.sl 1) (.sl 2) (slotM 1) (slotM 2)) (dispM .tuple (consM (M.pure (.d (.dict []))) (consM (dispM .tuple (consM (dispM .tuple (consM (M.pure (.d (.int 0))) (consM (M.pure (.d (.int 1))) (M.pure [])))) (consM (dispM .tuple (consM (M.pure (.d (.int 1))) (consM (M.pure (.d (.int 2))) (M.pure [])))) (M.pure [])))) (M.pure []))))) (M.pure [])))))
    nxM)))
def F_lawUstrange : List DV → Res := runF 3 (ioP 0 [.io 1 1]) m_lawUstrange
def m_lawUlot : M Fl :=
  (seqM (parM 3 4 (consM (callF F_lawUdraw [.io 1 1, .fz] [.sl 0, .v 9] (consM (slotM 0) (consM (M.pure (.d (.int 12))) (M.pure [])))) (consM (callF F_lawUdraw [.io 1 1, .fz] [.sl 0, .v 9] (consM (slotM 0) (consM (callM lenD [.sl 1] (consM (slotM 1) (M.pure []))) (M.pure [])))) (M.pure []))))
    (seqM (parM 5 6 (consM (op2 ixD (.sl 1) (.sl 4) (slotM 1) (slotM 4)) (consM (callF F_lawUdraw [.io 1 1, .fz] [.sl 0, .v 0] (consM (slotM 0) (consM (slotM 2) (M.pure [])))) (M.pure []))))
    (seqM (ifS (asB (.v 9) (op2 (lift2 eqP) (.sl 3) (.v 9) (slotM 3) (M.pure (.d (.int 0)))))
    (seqM (retM [(0, 1)] (op2 (lift2 addP) (.v 1) (.v 1) (op2 (lift2 addP) (.v 1) (.v 2) (slM (.sl 1) (slotM 1) (M.pure none) (someI (.sl 4) (slotM 4))) (dispM .tuple (consM (slM (.sl 5) (slotM 5) (someI (.v 9) (M.pure (.d (.int 1)))) (M.pure none)) (M.pure [])))) (slM (.sl 1) (slotM 1) (someI (.v 1) (op2 (lift2 addP) (.sl 4) (.v 9) (slotM 4) (M.pure (.d (.int 1))))) (M.pure none))))
    nxM)
    nxM)
    (seqM (ifS (asB (.v 9) (op2 (lift2 eqP) (.sl 3) (.v 9) (slotM 3) (M.pure (.d (.int 1)))))
    (seqM (retM [(0, 1)] (op2 (lift2 addP) (.v 1) (.v 1) (op2 (lift2 addP) (.v 1) (.v 2) (slM (.sl 1) (slotM 1) (M.pure none) (someI (.sl 4) (slotM 4))) (dispM .tuple (consM (callM (oneD tupleP) [.v 1] (consM (callM (oneD sortP) [.v 1] (consM (op2 (lift2 addP) (.sl 5) (.v 1) (slotM 5) (dispM .tuple (consM (slotM 6) (M.pure [])))) (M.pure []))) (M.pure []))) (M.pure [])))) (slM (.sl 1) (slotM 1) (someI (.v 1) (op2 (lift2 addP) (.sl 4) (.v 9) (slotM 4) (M.pure (.d (.int 1))))) (M.pure none))))
    nxM)
    nxM)
    (seqM (ifS (asB (.v 9) (op2 (lift2 eqP) (.sl 3) (.v 9) (slotM 3) (M.pure (.d (.int 2)))))
    (seqM (retM [(0, 1)] (op2 (lift2 addP) (.v 1) (.v 1) (op2 (lift2 addP) (.v 1) (.v 2) (slM (.sl 1) (slotM 1) (M.pure none) (someI (.sl 4) (slotM 4))) (dispM .tuple (consM (un1 revD (.v 0) (slotM 5)) (M.pure [])))) (slM (.sl 1) (slotM 1) (someI (.v 1) (op2 (lift2 addP) (.sl 4) (.v 9) (slotM 4) (M.pure (.d (.int 1))))) (M.pure none))))
    nxM)
    nxM)
    (seqM (ifS (asB (.v 9) (op2 (lift2 eqP) (.sl 3) (.v 9) (slotM 3) (M.pure (.d (.int 3)))))
    (seqM (retM [(0, 1)] (op2 (lift2 addP) (.v 1) (.v 1) (op2 (lift2 addP) (.v 1) (.v 2) (slM (.sl 1) (slotM 1) (M.pure none) (someI (.sl 4) (slotM 4))) (dispM .tuple (consM (callM listD [.sl 5] (consM (slotM 5) (M.pure []))) (M.pure [])))) (slM (.sl 1) (slotM 1) (someI (.v 1) (op2 (lift2 addP) (.sl 4) (.v 9) (slotM 4) (M.pure (.d (.int 1))))) (M.pure none))))
    nxM)
    nxM)
    (seqM (ifS (asB (.v 9) (op2 (lift2 eqP) (.sl 3) (.v 9) (slotM 3) (M.pure (.d (.int 4)))))
    (seqM (retM [(0, 1)] (slM (.sl 1) (slotM 1) (M.pure none) (someI (.v 9) (un1 (lift1 negP) (.v 9) (M.pure (.d (.int 1)))))))
    nxM)
    nxM)
    (seqM (ifS (asB (.v 9) (op2 (lift2 eqP) (.sl 3) (.v 9) (slotM 3) (M.pure (.d (.int 5)))))
    (seqM (retM [(0, 1)] (op2 (lift2 addP) (.sl 1) (.v 2) (slotM 1) (dispM .tuple (consM (dispM .tuple (consM (slotM 6) (M.pure []))) (M.pure [])))))
    nxM)
    nxM)
    (seqM (ifS (asB (.v 9) (op2 (lift2 eqP) (.sl 3) (.v 9) (slotM 3) (M.pure (.d (.int 6)))))
    (seqM (retM [(0, 1)] (callM listD [.sl 1] (consM (slotM 1) (M.pure []))))
    nxM)
    nxM)
    (seqM (ifS (asB (.v 9) (op2 (lift2 eqP) (.sl 3) (.v 9) (slotM 3) (M.pure (.d (.int 7)))))
    (seqM (retM [(0, 1)] (op2 (lift2 addP) (.v 1) (.v 1) (op2 (lift2 addP) (.v 1) (.v 2) (slM (.sl 1) (slotM 1) (M.pure none) (someI (.sl 4) (slotM 4))) (dispM .tuple (consM (op2 (lift2 addP) (.v 1) (.v 1) (slM (.sl 5) (slotM 5) (M.pure none) (someI (.v 9) (un1 (lift1 negP) (.v 9) (M.pure (.d (.int 1)))))) (dispM .tuple (consM (slotM 2) (M.pure [])))) (M.pure [])))) (slM (.sl 1) (slotM 1) (someI (.v 1) (op2 (lift2 addP) (.sl 4) (.v 9) (slotM 4) (M.pure (.d (.int 1))))) (M.pure none))))
    nxM)
    nxM)
    (seqM (ifS (asB (.v 9) (op2 (lift2 eqP) (.sl 3) (.v 9) (slotM 3) (M.pure (.d (.int 8)))))
    (seqM (retM [(0, 1)] (un1 revD (.v 0) (slotM 1)))
    nxM)
    nxM)
    (seqM (ifS (asB (.v 9) (op2 (lift2 eqP) (.sl 3) (.v 9) (slotM 3) (M.pure (.d (.int 9)))))
    (seqM (retM [(0, 1)] (op2 (lift2 addP) (.v 1) (.v 1) (op2 (lift2 addP) (.v 1) (.v 1) (slM (.sl 1) (slotM 1) (M.pure none) (someI (.sl 4) (slotM 4))) (dispM .tuple (consM (op2 ixD (.sl 1) (.v 9) (slotM 1) (op2 (lift2 subP) (.sl 4) (.v 9) (slotM 4) (M.pure (.d (.int 1))))) (M.pure [])))) (slM (.sl 1) (slotM 1) (someI (.v 1) (op2 (lift2 addP) (.sl 4) (.v 9) (slotM 4) (M.pure (.d (.int 1))))) (M.pure none))))
    nxM)
    nxM)
    (seqM (ifS (asB (.v 9) (op2 (lift2 eqP) (.sl 3) (.v 9) (slotM 3) (M.pure (.d (.int 10)))))
    (seqM (retM [(0, 1)] (op2 (lift2 addP) (.v 1) (.v 1) (op2 (lift2 addP) (.v 1) (.v 1) (slM (.sl 1) (slotM 1) (M.pure none) (someI (.sl 4) (slotM 4))) (dispM .tuple (consM (callF F_lawUstrange [.io 1 1] [.sl 0] (consM (slotM 0) (M.pure []))) (M.pure [])))) (slM (.sl 1) (slotM 1) (someI (.v 1) (op2 (lift2 addP) (.sl 4) (.v 9) (slotM 4) (M.pure (.d (.int 1))))) (M.pure none))))
    nxM)
    nxM)
    (seqM (retM [(0, 1)] (op2 (lift2 addP) (.v 1) (.v 1) (op2 (lift2 addP) (.v 1) (.v 2) (slM (.sl 1) (slotM 1) (M.pure none) (someI (.sl 4) (slotM 4))) (dispM .tuple (consM (dispM .tuple (consM (slotM 6) (M.pure []))) (M.pure [])))) (slM (.sl 1) (slotM 1) (someI (.v 1) (op2 (lift2 addP) (.sl 4) (.v 9) (slotM 4) (M.pure (.d (.int 1))))) (M.pure none))))
    nxM))))))))))))))
def F_lawUlot : List DV → Res := runF 7 (ioP 0 [.io 1 1, .fz, .fz]) m_lawUlot
def m_lawUwithoutUedge : M Fl :=
  (seqM (retM [] (dispM .tuple (consM (op2 ixD (.sl 0) (.v 9) (slotM 0) (M.pure (.d (.int 0)))) (consM (callM (oneD tupleP) [.v 1] (consM (compM (.nm 2) [2] (seqI (op2 ixD (.sl 0) (.v 9) (slotM 0) (M.pure (.d (.int 1))))) (asB (.v 9) (op2 (lift2 neP) (.sl 2) (.sl 1) (slotM 2) (slotM 1))) (slotM 2)) (M.pure []))) (M.pure [])))))
    nxM)
def F_lawUwithoutUedge : List DV → Res := runF 3 (ioP 0 [.fz, .fz]) m_lawUwithoutUedge
def m_lawUright : M Fl :=
  (seqM (forS (.nm 1) (rg1I (.v 9) (M.pure (.d (.int 3))))
    (seqM (setM 2 (callF F_lawUgraph [.io 1 1, .fz, .fz] [.sl 0, .v 9, .v 9] (consM (slotM 0) (consM (M.pure (.d (.int 6))) (consM (M.pure (.d (.int 12))) (M.pure []))))))
    (seqM (ifS (asB (.v 9) (op2 (lift2 eqP) (.v 9) (.v 9) (callF F_lawUdraw [.io 1 1, .fz] [.sl 0, .v 9] (consM (slotM 0) (consM (M.pure (.d (.int 2))) (M.pure [])))) (M.pure (.d (.int 0)))))
    (seqM (setM 2 (callF F_lawUpick [.io 1 1, .fz] [.sl 0, .v 2] (consM (slotM 0) (consM (callF F_lawUfamily [.fz] [.v 1] (consM (op2 (lift2 addP) (.v 9) (.v 9) (M.pure (.d (.int 1))) (callF F_lawUdraw [.io 1 1, .fz] [.sl 0, .v 9] (consM (slotM 0) (consM (M.pure (.d (.int 4))) (M.pure []))))) (M.pure []))) (M.pure [])))))
    nxM)
    nxM)
    (seqM (asgM (.tp [3, 4]) (callF F_lawUspread [.io 1 1, .fz, .fz] [.sl 0, .v 0, .v 9] (consM (slotM 0) (consM (slotM 2) (consM (M.pure (.d (.int 10))) (M.pure []))))))
    (seqM (ifS (orM (notM (truM (.v 9) (callF F_lawUisUmodel [.fz, .fz, .fz] [.v 0, .v 0, .v 0] (consM (slotM 3) (consM (slotM 2) (consM (slotM 4) (M.pure []))))))) (notM (truM (.v 9) (callF F_lawUtold [.fz, .fz, .fz] [.v 0, .v 0, .v 0] (consM (slotM 3) (consM (slotM 2) (consM (slotM 4) (M.pure []))))))))
    (seqM (retM [(0, 1)] (M.pure (.d (.bool false))))
    nxM)
    nxM)
    (seqM (setM 5 (op2 (lift2 addP) (.v 2) (.v 1) (compM (.nm 7) [7] (rg1I (.v 9) (M.pure (.d (.int 5)))) (M.pure true) (callF F_lawUlot [.io 1 1, .fz, .fz] [.sl 0, .v 0, .v 0] (consM (slotM 0) (consM (slotM 4) (consM (op2 ixD (.sl 3) (.v 9) (slotM 3) (M.pure (.d (.int 0)))) (M.pure [])))))) (dispM .list (consM (callF F_lawUstrange [.io 1 1] [.sl 0] (consM (slotM 0) (M.pure []))) (M.pure [])))))
    (seqM (forS (.nm 6) (seqI (slotM 5))
    (seqM (ifS (notM (truM (.v 9) (callF F_lawUtold [.fz, .fz, .fz] [.v 0, .v 0, .v 0] (consM (slotM 3) (consM (slotM 2) (consM (slotM 6) (M.pure [])))))))
    (seqM (retM [(0, 1)] (M.pure (.d (.bool false))))
    nxM)
    nxM)
    nxM))
    (seqM (ifS (andM (asB (.v 9) (op2 (lift2 neP) (.v 0) (.v 9) (op2 ixD (.sl 3) (.v 9) (slotM 3) (M.pure (.d (.int 1)))) (dispM .tuple (M.pure [])))) (notM (truM (.v 9) (callF F_lawUtold [.fz, .fz, .fz] [.v 1, .v 0, .v 0] (consM (callF F_lawUwithoutUedge [.fz, .fz] [.v 0, .v 0] (consM (slotM 3) (consM (callF F_lawUpick [.io 1 1, .fz] [.sl 0, .v 0] (consM (slotM 0) (consM (op2 ixD (.sl 3) (.v 9) (slotM 3) (M.pure (.d (.int 1)))) (M.pure [])))) (M.pure [])))) (consM (slotM 2) (consM (slotM 4) (M.pure []))))))))
    (seqM (retM [(0, 1)] (M.pure (.d (.bool false))))
    nxM)
    nxM)
    (seqM (ifS (notM (truM (.v 9) (callF F_lawUtold [.fz, .fz, .fz] [.v 0, .v 1, .v 0] (consM (slotM 3) (consM (callF F_lawUgraph [.io 1 1, .fz, .fz] [.sl 0, .v 9, .v 9] (consM (slotM 0) (consM (M.pure (.d (.int 5))) (consM (M.pure (.d (.int 10))) (M.pure []))))) (consM (slotM 4) (M.pure [])))))))
    (seqM (retM [(0, 1)] (M.pure (.d (.bool false))))
    nxM)
    nxM)
    nxM)))))))))
    (seqM (retM [(0, 1)] (M.pure (.d (.bool true))))
    nxM))
def F_lawUright : List DV → Res := runF 8 (ioP 0 [.io 1 1]) m_lawUright
def m_lawUwell : M Fl :=
  (seqM (setM 2 (ifM (asB (.v 9) (op2 (lift2 (cmpP .Lt)) (.sl 1) (.v 9) (slotM 1) (callM lenD [.sl 0] (consM (slotM 0) (M.pure []))))) (callM (oneD intP) [.v 0] (consM (op2 ixD (.sl 0) (.sl 1) (slotM 0) (slotM 1)) (M.pure []))) (M.pure (.d (.int 0)))))
    (seqM (setM 3 (op2 (lift2 addP) (.v 9) (.v 1) (M.pure (.d (.int 97))) (op2 (lift2 mulQ) (.v 9) (.sl 1) (M.pure (.d (.int 32452843))) (slotM 1))))
    (seqM (forS (.nm 4) (seqI (slM (.sl 0) (slotM 0) (M.pure none) (someI (.v 9) (M.pure (.d (.int 11))))))
    (seqM (setM 3 (op2 (lift2 modP) (.v 9) (.v 9) (callM (oneD intP) [.v 1] (consM (op2 (lift2 addP) (.v 1) (.v 9) (op2 (lift2 addP) (.v 1) (.v 9) (op2 (lift2 mulQ) (.sl 3) (.v 9) (slotM 3) (M.pure (.d (.int 22695)))) (op2 (lift2 modP) (.v 9) (.v 9) (callM (oneD intP) [.sl 4] (consM (slotM 4) (M.pure []))) (M.pure (.d (.int 2147483423))))) (M.pure (.d (.int 53)))) (M.pure []))) (M.pure (.d (.int 2147483399)))))
    nxM))
    (seqM (setM 3 (op2 (lift2 modP) (.v 9) (.v 9) (callM (oneD intP) [.v 1] (consM (op2 (lift2 addP) (.v 1) (.v 9) (op2 (lift2 addP) (.v 1) (.v 1) (op2 (lift2 mulQ) (.sl 3) (.v 9) (slotM 3) (M.pure (.d (.int 41358)))) (op2 (lift2 mulQ) (.v 9) (.v 9) (op2 (lift2 modP) (.v 9) (.v 9) (callM (oneD intP) [.sl 2] (consM (slotM 2) (M.pure []))) (M.pure (.d (.int 2147483423)))) (M.pure (.d (.int 10301))))) (M.pure (.d (.int 23)))) (M.pure []))) (M.pure (.d (.int 2147483399)))))
    (seqM (retM [] (dispM .list (consM (ifM (asB (.v 9) (op2 (lift2 (cmpP .GtE)) (.v 9) (.v 9) (callM (oneD absP) [.sl 2] (consM (slotM 2) (M.pure []))) (op2 (lift2 powP) (.v 9) (.v 9) (M.pure (.d (.int 10))) (M.pure (.d (.int 16)))))) (callM (oneD absP) [.sl 2] (consM (slotM 2) (M.pure []))) (M.pure (.d (.int 0)))) (consM (slotM 3) (consM (M.pure (.d (.int 0))) (M.pure []))))))
    nxM)))))
def F_lawUwell : List DV → Res := runF 5 (ioP 0 [.fz, .fz]) m_lawUwell
def m_law : M Fl :=
  (seqM (forS (.nm 1) (rg1I (.v 9) (callM (twoD maxP) [.v 9, .v 9] (consM (M.pure (.d (.int 2))) (consM (callM (twoD minP) [.v 9, .v 9] (consM (callM lenD [.sl 0] (consM (slotM 0) (M.pure []))) (consM (M.pure (.d (.int 4))) (M.pure [])))) (M.pure [])))))
    (seqM (ifS (notM (truM (.v 9) (callF F_lawUright [.io 1 1] [.v 1] (consM (callF F_lawUwell [.fz, .fz] [.v 0, .v 0] (consM (slotM 0) (consM (slotM 1) (M.pure [])))) (M.pure [])))))
    (seqM (retM [] (M.pure (.d (.bool false))))
    nxM)
    nxM)
    nxM))
    (seqM (retM [] (M.pure (.d (.bool true))))
    nxM))
def F_law : List DV → Res := runF 2 (ioP 0 [.fz]) m_law
end Lk
namespace Lk
open PySem PySem.Spec L2
def top (i : Nat) : Stmt := PySem.Challenge.pw_linkless_k10_whole_models_judged.main.body.getD i (.Pass ⟨0, 0, 0, 0⟩)
abbrev s_lawUpairsUof : Stmt := top 37
abbrev N_lawUpairsUof : List Str := ["vertices", "found", "a", "b"]
theorem n_lawUpairsUof : N_lawUpairsUof.Nodup := by decide
theorem S_lawUpairsUof : FnScope N_lawUpairsUof ["vertices"] (defScope s_lawUpairsUof) := ⟨rfl, rfl, rfl, by decide +kernel, rfl, by decide +kernel, by decide +kernel⟩
section
variable {P : Program} {w : World} {K : PySem.W.Frag} {mg : Str → Option Value} {base : Heap} {f : Addr} {fd : FuncData} {Z : ClT}
theorem b_lawUpairsUof (z_range : mg "range" = none) : BodyD P w K mg base 0 N_lawUpairsUof "_law_pairs_of" s_lawUpairsUof f Z [.fz] 1 m_lawUpairsUof := by
  intro cdv A outer s H E hr hgd tk po
  have hu80 := units80 hr
  have hu70 := units70 hr
  have hu65 := units65 hr
  have hu64 := units64 hr
  refine ⟨⟨[0, 0, 0, 0], [0, 0, 0, 0], [0, 0, 0, 0]⟩, rfl, ?_⟩
  exact (gSeq ⟨[0, 9, 0, 0], [0, 0, 0, 0], [0, 0, 0, 0]⟩ (gSet 1 n_lawUpairsUof (gLst 8 ja_nil))
    (gSeq ⟨[0, 1, 0, 0], [0, 0, 0, 0], [0, 0, 0, 0]⟩ (gFor [0, 1, 0, 0] ⟨[0, 1, 0, 0], [0, 1, 0, 0], [0, 1, 0, 0]⟩ po (gRange1 z_range (gv 0)) (gTgN 2 n_lawUpairsUof)
    (gSeq ⟨[0, 1, 0, 0], [0, 1, 0, 0], [0, 1, 0, 0]⟩ (gSet 1 n_lawUpairsUof (je_bin op_addD (gv 1) (gLc [("b", 3)] [0, 1, 0, 0] n_lawUpairsUof (blk_mk (by rfl)) (gRange2 z_range (je_bin op_addD (gv 2) gi) (gv 0)) (fun _ _ _ _ _ => (gTgN 3 n_lawUpairsUof)) (fun _ _ _ _ _ => jts_nil) (fun _ _ _ _ _ => (gTup 0 (gCons (ge 2) (gCons (ge 3) ja_nil)))))))
    gNil))
    (gSeq ⟨[0, 0, 0, 0], [0, 0, 0, 0], [0, 0, 0, 0]⟩ (gRetV 1 1)
    gNil)))
theorem h_lawUpairsUof (fn : Fun K "_law_pairs_of" "_law_pairs_of" s_lawUpairsUof f fd) (hm : mg "_law_pairs_of" = some (.ref f)) (z_range : mg "range" = none) : Has P w K mg base 1 "_law_pairs_of" ["vertices"] Z [.fz] 1 F_lawUpairsUof :=
  has_of fn hm S_lawUpairsUof (fun _ _ _ _ _ _ l hl => match l, hl with
    | [_], _ => (And.intro rfl (And.intro rfl trivial))) rfl (b_lawUpairsUof z_range)
end
abbrev s_lawUkept : Stmt := top 29
abbrev N_lawUkept : List Str := ["vertices", "edges", "found", "a", "b", "pair"]
theorem n_lawUkept : N_lawUkept.Nodup := by decide
theorem S_lawUkept : FnScope N_lawUkept ["vertices", "edges"] (defScope s_lawUkept) := ⟨rfl, rfl, rfl, by decide +kernel, rfl, by decide +kernel, by decide +kernel⟩
section
variable {P : Program} {w : World} {K : PySem.W.Frag} {mg : Str → Option Value} {base : Heap} {f : Addr} {fd : FuncData} {Z : ClT}
theorem b_lawUkept (z_sorted : mg "sorted" = none) (z_tuple : mg "tuple" = none) : BodyD P w K mg base 0 N_lawUkept "_law_kept" s_lawUkept f Z [.fz, .fz] 1 m_lawUkept := by
  intro cdv A outer s H E hr hgd tk po
  have hu80 := units80 hr
  have hu70 := units70 hr
  have hu65 := units65 hr
  have hu64 := units64 hr
  refine ⟨⟨[0, 0, 0, 0, 0, 0], [0, 0, 0, 0, 0, 0], [0, 0, 0, 0, 0, 0]⟩, rfl, ?_⟩
  exact (gSeq ⟨[0, 0, 9, 0, 0, 0], [0, 0, 0, 0, 0, 0], [0, 0, 0, 0, 0, 0]⟩ (gSet 2 n_lawUkept (gLst 8 ja_nil))
    (gSeq ⟨[0, 0, 1, 0, 0, 0], [0, 0, 0, 0, 0, 0], [0, 0, 0, 0, 0, 0]⟩ (gFor [0, 0, 1, 0, 0, 0] ⟨[0, 0, 1, 0, 0, 0], [0, 0, 1, 0, 0, 0], [0, 0, 1, 0, 0, 0]⟩ po (ji_seq (ge 1)) (gTgT (gN1 3 n_lawUkept (gN1 4 n_lawUkept pgs_n0)))
    (gSeq ⟨[0, 0, 1, 0, 0, 1], [0, 0, 1, 0, 0, 0], [0, 0, 1, 0, 0, 0]⟩ (gSet 5 n_lawUkept (gIf [0, 0, 1, 0, 0, 0] 1 (gCmpT (op_ordD rfl hu80) (gv 3) (gv 4)) (gTup 0 (gCons (ge 3) (gCons (ge 4) ja_nil))) (gTup 0 (gCons (ge 4) (gCons (ge 3) ja_nil)))))
    (gSeq ⟨[0, 0, 1, 0, 0, 0], [0, 0, 1, 0, 0, 0], [0, 0, 1, 0, 0, 0]⟩ (gIfS (ψ1 := ⟨[0, 0, 1, 0, 0, 0], [0, 0, 1, 0, 0, 0], [0, 0, 1, 0, 0, 0]⟩) (ψ2 := ⟨[0, 0, 1, 0, 0, 1], [0, 0, 1, 0, 0, 0], [0, 0, 1, 0, 0, 0]⟩) (jt_w (gAnd (gCmpT (op_neDD hu64) (gv 3) (gv 4)) (jw_and1 (gCmpT (op_notInDD hu65) (gv 5) (gv 2)))))
    (gSeq ⟨[0, 0, 1, 0, 0, 0], [0, 0, 1, 0, 0, 0], [0, 0, 1, 0, 0, 0]⟩ (gExpr (gAppend 2 0 (ge 5)))
    gNil)
    gNil)
    gNil)))
    (gSeq ⟨[0, 0, 0, 0, 0, 0], [0, 0, 0, 0, 0, 0], [0, 0, 0, 0, 0, 0]⟩ (gRet (gTup 0 (gCons (ge 0) (gCons (gCallT cd_tuple z_tuple (gCons (gCallB (cd_sorted rfl hu70) z_sorted (gCons (gv 2) ja_nil)) ja_nil)) ja_nil))))
    gNil)))
theorem h_lawUkept (fn : Fun K "_law_kept" "_law_kept" s_lawUkept f fd) (hm : mg "_law_kept" = some (.ref f)) (z_sorted : mg "sorted" = none) (z_tuple : mg "tuple" = none) : Has P w K mg base 1 "_law_kept" ["vertices", "edges"] Z [.fz, .fz] 1 F_lawUkept :=
  has_of fn hm S_lawUkept (fun _ _ _ _ _ _ l hl => match l, hl with
    | [_, _], _ => (And.intro rfl (And.intro rfl (And.intro rfl (And.intro rfl trivial))))) rfl (b_lawUkept z_sorted z_tuple)
end
abbrev s_lawUdraw : Stmt := top 24
abbrev N_lawUdraw : List Str := ["well", "many", "digit", "seed"]
theorem n_lawUdraw : N_lawUdraw.Nodup := by decide
theorem S_lawUdraw : FnScope N_lawUdraw ["well", "many"] (defScope s_lawUdraw) := ⟨rfl, rfl, rfl, by decide +kernel, rfl, by decide +kernel, by decide +kernel⟩
section
variable {P : Program} {w : World} {K : PySem.W.Frag} {mg : Str → Option Value} {base : Heap} {f : Addr} {fd : FuncData} {Z : ClT}
theorem b_lawUdraw (z_int : mg "int" = none) : BodyD P w K mg base 0 N_lawUdraw "_law_draw" s_lawUdraw f Z [.io 1 1, .fz] 9 m_lawUdraw := by
  intro cdv A outer s H E hr hgd tk po
  have hu80 := units80 hr
  have hu70 := units70 hr
  have hu65 := units65 hr
  have hu64 := units64 hr
  refine ⟨⟨[1, 0, 0, 0], [1, 0, 0, 0], [1, 0, 0, 0]⟩, rfl, ?_⟩
  exact (gSeq ⟨[1, 0, 0, 0], [1, 0, 0, 0], [1, 0, 0, 0]⟩ (gIfS (ψ1 := ⟨[1, 0, 0, 0], [1, 0, 0, 0], [1, 0, 0, 0]⟩) (ψ2 := ⟨[1, 0, 0, 0], [1, 0, 0, 0], [1, 0, 0, 0]⟩) (gCmpT (op_ordD rfl hu80) (gIx (op_ixD hu64) (gv 0) gi) gi)
    (gSeq ⟨[1, 0, 9, 0], [1, 0, 0, 0], [1, 0, 0, 0]⟩ (gSet 2 n_lawUdraw (je_bin op_modD (gCallT cd_int z_int (gCons (gIx (op_ixD hu64) (gv 0) gi) ja_nil)) (gv 1)))
    (gSeq ⟨[1, 0, 9, 0], [1, 0, 0, 0], [1, 0, 0, 0]⟩ (gStore 0 0 hu64 (je_bin op_divD (gIx (op_ixD hu64) (gv 0) gi) (gv 1)) gi)
    (gSeq ⟨[1, 0, 0, 0], [1, 0, 0, 0], [1, 0, 0, 0]⟩ (gRetV 2 9)
    gNil)))
    gNil)
    (gSeq ⟨[1, 0, 0, 0], [1, 0, 0, 0], [1, 0, 0, 0]⟩ (gStore 0 0 hu64 (je_bin op_addD (gIx (op_ixD hu64) (gv 0) gi) gi) gi)
    (gSeq ⟨[1, 0, 0, 9], [1, 0, 0, 0], [1, 0, 0, 0]⟩ (gSet 3 n_lawUdraw (je_bin op_modD (gCallT cd_int z_int (gCons (je_bin op_addD (je_bin op_addD (je_bin op_mulDD (gIx (op_ixD hu64) (gv 0) gi) gi) (je_bin op_mulDD gi (gIx (op_ixD hu64) (gv 0) gi))) gi) ja_nil)) gi))
    (gSeq ⟨[1, 0, 0, 0], [1, 0, 0, 0], [1, 0, 0, 0]⟩ (gStore 0 0 hu64 (ge 3) gi)
    (gSeq ⟨[1, 0, 0, 0], [1, 0, 0, 0], [1, 0, 0, 0]⟩ (gRet (je_bin op_modD (gCallT cd_int z_int (gCons (je_bin op_divD (je_bin op_mulDD (gv 3) (je_bin op_addD (je_bin op_modD (gCallT cd_int z_int (gCons (gv 3) ja_nil)) gi) gi)) gi) ja_nil)) (gv 1)))
    gNil)))))
theorem h_lawUdraw (fn : Fun K "_law_draw" "_law_draw" s_lawUdraw f fd) (hm : mg "_law_draw" = some (.ref f)) (z_int : mg "int" = none) : Has P w K mg base 1 "_law_draw" ["well", "many"] Z [.io 1 1, .fz] 9 F_lawUdraw :=
  has_of fn hm S_lawUdraw (fun _ _ _ _ _ _ l hl => match l, hl with
    | [_, _], _ => (And.intro rfl (And.intro rfl (And.intro rfl (And.intro rfl trivial))))) rfl (b_lawUdraw z_int)
end
abbrev s_lawUpick : Stmt := top 25
abbrev N_lawUpick : List Str := ["well", "some"]
theorem n_lawUpick : N_lawUpick.Nodup := by decide
theorem S_lawUpick : FnScope N_lawUpick ["well", "some"] (defScope s_lawUpick) := ⟨rfl, rfl, rfl, by decide +kernel, rfl, by decide +kernel, by decide +kernel⟩
section
variable {P : Program} {w : World} {K : PySem.W.Frag} {mg : Str → Option Value} {base : Heap} {f : Addr} {fd : FuncData} {Z : ClT}
theorem b_lawUpick (z_len : mg "len" = none) (G__law_draw : Has P w K mg base 1 "_law_draw" ["well", "many"] Z [.io 1 1, .fz] 9 F_lawUdraw) : BodyD P w K mg base 1 N_lawUpick "_law_pick" s_lawUpick f Z [.io 1 1, .fz] 0 m_lawUpick := by
  intro cdv A outer s H E hr hgd tk po
  have hu80 := units80 hr
  have hu70 := units70 hr
  have hu65 := units65 hr
  have hu64 := units64 hr
  refine ⟨⟨[1, 0], [1, 0], [1, 0]⟩, rfl, ?_⟩
  exact (gSeq ⟨[1, 0], [1, 0], [1, 0]⟩ (gRet (gIx (op_ixD hu64) (gv 1) (gCall G__law_draw hr hgd tk (gCons (gv 0) (gCons (gCallB cd_len z_len (gCons (gv 1) ja_nil)) ja_nil)))))
    gNil)
theorem h_lawUpick (fn : Fun K "_law_pick" "_law_pick" s_lawUpick f fd) (hm : mg "_law_pick" = some (.ref f)) (z_len : mg "len" = none) (G__law_draw : Has P w K mg base 1 "_law_draw" ["well", "many"] Z [.io 1 1, .fz] 9 F_lawUdraw) : Has P w K mg base 2 "_law_pick" ["well", "some"] Z [.io 1 1, .fz] 0 F_lawUpick :=
  has_of fn hm S_lawUpick (fun _ _ _ _ _ _ l hl => match l, hl with
    | [_, _], _ => (And.intro rfl (And.intro rfl (And.intro rfl (And.intro rfl trivial))))) rfl (b_lawUpick z_len G__law_draw)
end
abbrev s_lawUedgesUof : Stmt := top 33
abbrev N_lawUedgesUof : List Str := ["text", "words", "pairs", "word", "pair"]
theorem n_lawUedgesUof : N_lawUedgesUof.Nodup := by decide
theorem S_lawUedgesUof : FnScope N_lawUedgesUof ["text"] (defScope s_lawUedgesUof) := ⟨rfl, rfl, rfl, by decide +kernel, rfl, by decide +kernel, by decide +kernel⟩
section
variable {P : Program} {w : World} {K : PySem.W.Frag} {mg : Str → Option Value} {base : Heap} {f : Addr} {fd : FuncData} {Z : ClT}
theorem b_lawUedgesUof (z_int : mg "int" = none) (G__law_kept : Has P w K mg base 1 "_law_kept" ["vertices", "edges"] Z [.fz, .fz] 1 F_lawUkept) : BodyD P w K mg base 1 N_lawUedgesUof "_law_edges_of" s_lawUedgesUof f Z [.fz] 1 m_lawUedgesUof := by
  intro cdv A outer s H E hr hgd tk po
  have hu80 := units80 hr
  have hu70 := units70 hr
  have hu65 := units65 hr
  have hu64 := units64 hr
  refine ⟨⟨[0, 0, 0, 0, 0], [0, 0, 0, 0, 0], [0, 0, 0, 0, 0]⟩, rfl, ?_⟩
  exact (gSeq ⟨[0, 9, 0, 0, 0], [0, 0, 0, 0, 0], [0, 0, 0, 0, 0]⟩ (gSet 1 n_lawUedgesUof (gMeth PySem.F.plainAttrs_str PySem.F.slot_str_split PySem.F.type_str_split mth_split (gv 0) (gCons gs ja_nil)))
    (gSeq ⟨[0, 1, 10, 0, 0], [0, 0, 0, 0, 0], [0, 0, 0, 0, 0]⟩ (gSetLc 2 [("word", 3)] [0, 1, 0, 0, 0] n_lawUedgesUof (blk_mk (by rfl)) (ji_seq (gSlice (gv 1) (jo_some gi) jo_none)) (fun _ _ _ _ _ => (gTgN 3 n_lawUedgesUof)) (fun _ _ _ _ _ => jts_nil) (fun _ _ _ _ _ => (gMeth PySem.F.plainAttrs_str PySem.F.slot_str_split PySem.F.type_str_split mth_split (gv 3) (gCons gs ja_nil))))
    (gSeq ⟨[0, 0, 0, 0, 0], [0, 0, 0, 0, 0], [0, 0, 0, 0, 0]⟩ (gRet (gCall G__law_kept hr hgd tk (gCons (gCallT cd_int z_int (gCons (gSlice (gIx (op_ixD hu64) (gv 1) gi) jo_none (jo_some (gNeg gi))) ja_nil)) (gCons (gLc [("pair", 4)] [0, 1, 0, 0, 0] n_lawUedgesUof (blk_mk (by rfl)) (ji_seq (ge 2)) (fun _ _ _ _ _ => (gTgN 4 n_lawUedgesUof)) (fun _ _ _ _ _ => jts_nil) (fun _ _ _ _ _ => (gTup 9 (gCons (gCallT cd_int z_int (gCons (gIx (op_ixD hu64) (gv 4) gi) ja_nil)) (gCons (gCallT cd_int z_int (gCons (gIx (op_ixD hu64) (gv 4) gi) ja_nil)) ja_nil))))) ja_nil))))
    gNil)))
theorem h_lawUedgesUof (fn : Fun K "_law_edges_of" "_law_edges_of" s_lawUedgesUof f fd) (hm : mg "_law_edges_of" = some (.ref f)) (z_int : mg "int" = none) (G__law_kept : Has P w K mg base 1 "_law_kept" ["vertices", "edges"] Z [.fz, .fz] 1 F_lawUkept) : Has P w K mg base 2 "_law_edges_of" ["text"] Z [.fz] 1 F_lawUedgesUof :=
  has_of fn hm S_lawUedgesUof (fun _ _ _ _ _ _ l hl => match l, hl with
    | [_], _ => (And.intro rfl (And.intro rfl trivial))) rfl (b_lawUedgesUof z_int G__law_kept)
end
abbrev s_lawUfamily : Stmt := top 34
abbrev N_lawUfamily : List Str := ["level", "texts", "text"]
theorem n_lawUfamily : N_lawUfamily.Nodup := by decide
theorem S_lawUfamily : FnScope N_lawUfamily ["level"] (defScope s_lawUfamily) := ⟨rfl, rfl, rfl, by decide +kernel, rfl, by decide +kernel, by decide +kernel⟩
section
variable {P : Program} {w : World} {K : PySem.W.Frag} {mg : Str → Option Value} {base : Heap} {f : Addr} {fd : FuncData} {Z : ClT}
theorem b_lawUfamily (G__law_edges_of : Has P w K mg base 2 "_law_edges_of" ["text"] Z [.fz] 1 F_lawUedgesUof) : BodyD P w K mg base 2 N_lawUfamily "_law_family" s_lawUfamily f Z [.fz] 2 m_lawUfamily := by
  intro cdv A outer s H E hr hgd tk po
  have hu80 := units80 hr
  have hu70 := units70 hr
  have hu65 := units65 hr
  have hu64 := units64 hr
  refine ⟨⟨[0, 0, 0], [0, 0, 0], [0, 0, 0]⟩, rfl, ?_⟩
  exact (gSeq ⟨[0, 11, 0], [0, 0, 0], [0, 0, 0]⟩ (gSet 1 n_lawUfamily (gTup 10 (gCons (gTup 9 (gCons gs (gCons gs ja_nil))) (gCons (gTup 9 (gCons gs (gCons gs ja_nil))) (gCons (gTup 9 (gCons gs (gCons gs ja_nil))) (gCons (gTup 9 (gCons gs (gCons gs (gCons gs (gCons gs (gCons gs (gCons gs (gCons gs ja_nil)))))))) ja_nil))))))
    (gSeq ⟨[0, 0, 0], [0, 0, 0], [0, 0, 0]⟩ (gRet (gLc [("text", 2)] [0, 1, 0] n_lawUfamily (blk_mk (by rfl)) (ji_seq (gIx (op_ixD hu64) (gv 1) (je_bin op_subD (gv 0) gi))) (fun _ _ _ _ _ => (gTgN 2 n_lawUfamily)) (fun _ _ _ _ _ => jts_nil) (fun _ _ _ _ _ => (gCall G__law_edges_of hr hgd tk0 (gCons (ge 2) ja_nil)))))
    gNil))
theorem h_lawUfamily (fn : Fun K "_law_family" "_law_family" s_lawUfamily f fd) (hm : mg "_law_family" = some (.ref f)) (G__law_edges_of : Has P w K mg base 2 "_law_edges_of" ["text"] Z [.fz] 1 F_lawUedgesUof) : Has P w K mg base 3 "_law_family" ["level"] Z [.fz] 2 F_lawUfamily :=
  has_of fn hm S_lawUfamily (fun _ _ _ _ _ _ l hl => match l, hl with
    | [_], _ => (And.intro rfl (And.intro rfl trivial))) rfl (b_lawUfamily G__law_edges_of)
end
abbrev s_lawUnamed : Stmt := top 36
abbrev N_lawUnamed : List Str := ["graph", "order", "a", "b"]
theorem n_lawUnamed : N_lawUnamed.Nodup := by decide
theorem S_lawUnamed : FnScope N_lawUnamed ["graph", "order"] (defScope s_lawUnamed) := ⟨rfl, rfl, rfl, by decide +kernel, rfl, by decide +kernel, by decide +kernel⟩
section
variable {P : Program} {w : World} {K : PySem.W.Frag} {mg : Str → Option Value} {base : Heap} {f : Addr} {fd : FuncData} {Z : ClT}
theorem b_lawUnamed (G__law_kept : Has P w K mg base 1 "_law_kept" ["vertices", "edges"] Z [.fz, .fz] 1 F_lawUkept) : BodyD P w K mg base 1 N_lawUnamed "_law_named" s_lawUnamed f Z [.fz, .fz] 1 m_lawUnamed := by
  intro cdv A outer s H E hr hgd tk po
  have hu80 := units80 hr
  have hu70 := units70 hr
  have hu65 := units65 hr
  have hu64 := units64 hr
  refine ⟨⟨[0, 0, 0, 0], [0, 0, 0, 0], [0, 0, 0, 0]⟩, rfl, ?_⟩
  exact (gSeq ⟨[0, 0, 0, 0], [0, 0, 0, 0], [0, 0, 0, 0]⟩ (gRet (gCall G__law_kept hr hgd tk (gCons (gIx (op_ixD hu64) (gv 0) gi) (gCons (gLc [("a", 2), ("b", 3)] [0, 0, 0, 0] n_lawUnamed (blk_mk (by rfl)) (ji_seq (gIx (op_ixD hu64) (gv 0) gi)) (fun _ _ _ _ _ => (gTgT (gN1 2 n_lawUnamed (gN1 3 n_lawUnamed pgs_n0)))) (fun _ _ _ _ _ => jts_nil) (fun _ _ _ _ _ => (gTup 0 (gCons (gIx (op_ixD hu64) (gv 1) (gv 2)) (gCons (gIx (op_ixD hu64) (gv 1) (gv 3)) ja_nil))))) ja_nil))))
    gNil)
theorem h_lawUnamed (fn : Fun K "_law_named" "_law_named" s_lawUnamed f fd) (hm : mg "_law_named" = some (.ref f)) (G__law_kept : Has P w K mg base 1 "_law_kept" ["vertices", "edges"] Z [.fz, .fz] 1 F_lawUkept) : Has P w K mg base 2 "_law_named" ["graph", "order"] Z [.fz, .fz] 1 F_lawUnamed :=
  has_of fn hm S_lawUnamed (fun _ _ _ _ _ _ l hl => match l, hl with
    | [_, _], _ => (And.intro rfl (And.intro rfl (And.intro rfl (And.intro rfl trivial))))) rfl (b_lawUnamed G__law_kept)
end
abbrev s_lawUorder : Stmt := top 35
abbrev N_lawUorder : List Str := ["well", "many", "left", "found", "each", "other"]
theorem n_lawUorder : N_lawUorder.Nodup := by decide
theorem S_lawUorder : FnScope N_lawUorder ["well", "many"] (defScope s_lawUorder) := ⟨rfl, rfl, rfl, by decide +kernel, rfl, by decide +kernel, by decide +kernel⟩
section
variable {P : Program} {w : World} {K : PySem.W.Frag} {mg : Str → Option Value} {base : Heap} {f : Addr} {fd : FuncData} {Z : ClT}
theorem b_lawUorder (z_list : mg "list" = none) (z_range : mg "range" = none) (G__law_pick : Has P w K mg base 2 "_law_pick" ["well", "some"] Z [.io 1 1, .fz] 0 F_lawUpick) : BodyD P w K mg base 2 N_lawUorder "_law_order" s_lawUorder f Z [.io 1 1, .fz] 1 m_lawUorder := by
  intro cdv A outer s H E hr hgd tk po
  have hu80 := units80 hr
  have hu70 := units70 hr
  have hu65 := units65 hr
  have hu64 := units64 hr
  refine ⟨⟨[1, 0, 0, 0, 0, 0], [1, 0, 0, 0, 0, 0], [1, 0, 0, 0, 0, 0]⟩, rfl, ?_⟩
  exact (gSeq ⟨[1, 0, 9, 9, 0, 0], [1, 0, 0, 0, 0, 0], [1, 0, 0, 0, 0, 0]⟩ (gPar 2 3 n_lawUorder (gCons (gListRg1 z_list z_range (gv 1)) (gCons (gLst 8 ja_nil) ja_nil)))
    (gSeq ⟨[1, 0, 1, 1, 0, 0], [1, 0, 0, 0, 0, 0], [1, 0, 0, 0, 0, 0]⟩ (gWhile [1, 0, 1, 1, 0, 0] ⟨[1, 0, 1, 1, 0, 0], [1, 0, 1, 1, 0, 0], [1, 0, 1, 1, 0, 0]⟩ po (gCmpT (op_neDD hu64) (gv 2) (gLst 8 ja_nil))
    (gSeq ⟨[1, 0, 0, 1, 0, 0], [1, 0, 1, 1, 0, 0], [1, 0, 1, 1, 0, 0]⟩ (gSet 4 n_lawUorder (gCall G__law_pick hr hgd tk (gCons (gv 0) (gCons (ge 2) ja_nil))))
    (gSeq ⟨[1, 0, 0, 1, 0, 0], [1, 0, 1, 1, 0, 0], [1, 0, 1, 1, 0, 0]⟩ (gExpr (gAppend 3 0 (ge 4)))
    (gSeq ⟨[1, 0, 1, 1, 0, 0], [1, 0, 1, 1, 0, 0], [1, 0, 1, 1, 0, 0]⟩ (gSetLc 2 [("other", 5)] [1, 0, 0, 1, 0, 0] n_lawUorder (blk_mk (by rfl)) (ji_seq (ge 2)) (fun _ _ _ _ _ => (gTgN 5 n_lawUorder)) (fun _ _ _ _ _ => (jts_one (gCmpT (op_neDD hu64) (gv 5) (gv 4)))) (fun _ _ _ _ _ => (ge 5)))
    gNil))))
    (gSeq ⟨[1, 0, 0, 0, 0, 0], [1, 0, 0, 0, 0, 0], [1, 0, 0, 0, 0, 0]⟩ (gRetV 3 1)
    gNil)))
theorem h_lawUorder (fn : Fun K "_law_order" "_law_order" s_lawUorder f fd) (hm : mg "_law_order" = some (.ref f)) (z_list : mg "list" = none) (z_range : mg "range" = none) (G__law_pick : Has P w K mg base 2 "_law_pick" ["well", "some"] Z [.io 1 1, .fz] 0 F_lawUpick) : Has P w K mg base 3 "_law_order" ["well", "many"] Z [.io 1 1, .fz] 1 F_lawUorder :=
  has_of fn hm S_lawUorder (fun _ _ _ _ _ _ l hl => match l, hl with
    | [_, _], _ => (And.intro rfl (And.intro rfl (And.intro rfl (And.intro rfl trivial))))) rfl (b_lawUorder z_list z_range G__law_pick)
end
abbrev s_lawUgraph : Stmt := top 38
abbrev N_lawUgraph : List Str := ["well", "most", "edges", "vertices", "some", "graph", "more", "turn", "pair", "found", "share", "each"]
theorem n_lawUgraph : N_lawUgraph.Nodup := by decide
theorem S_lawUgraph : FnScope N_lawUgraph ["well", "most", "edges"] (defScope s_lawUgraph) := ⟨rfl, rfl, rfl, by decide +kernel, rfl, by decide +kernel, by decide +kernel⟩
section
variable {P : Program} {w : World} {K : PySem.W.Frag} {mg : Str → Option Value} {base : Heap} {f : Addr} {fd : FuncData} {Z : ClT}
theorem b_lawUgraph (z_len : mg "len" = none) (z_list : mg "list" = none) (z_range : mg "range" = none) (G__law_draw : Has P w K mg base 1 "_law_draw" ["well", "many"] Z [.io 1 1, .fz] 9 F_lawUdraw) (G__law_pairs_of : Has P w K mg base 1 "_law_pairs_of" ["vertices"] Z [.fz] 1 F_lawUpairsUof) (G__law_pick : Has P w K mg base 2 "_law_pick" ["well", "some"] Z [.io 1 1, .fz] 0 F_lawUpick) (G__law_family : Has P w K mg base 3 "_law_family" ["level"] Z [.fz] 2 F_lawUfamily) (G__law_named : Has P w K mg base 2 "_law_named" ["graph", "order"] Z [.fz, .fz] 1 F_lawUnamed) (G__law_order : Has P w K mg base 3 "_law_order" ["well", "many"] Z [.io 1 1, .fz] 1 F_lawUorder) (G__law_kept : Has P w K mg base 1 "_law_kept" ["vertices", "edges"] Z [.fz, .fz] 1 F_lawUkept) : BodyD P w K mg base 3 N_lawUgraph "_law_graph" s_lawUgraph f Z [.io 1 1, .fz, .fz] 1 m_lawUgraph := by
  intro cdv A outer s H E hr hgd tk po
  have hu80 := units80 hr
  have hu70 := units70 hr
  have hu65 := units65 hr
  have hu64 := units64 hr
  refine ⟨⟨[1, 0, 0, 0, 0, 0, 0, 0, 0, 0, 0, 0], [1, 0, 0, 0, 0, 0, 0, 0, 0, 0, 0, 0], [1, 0, 0, 0, 0, 0, 0, 0, 0, 0, 0, 0]⟩, rfl, ?_⟩
  exact (gSeq ⟨[1, 0, 0, 1, 0, 0, 0, 0, 0, 0, 0, 0], [1, 0, 0, 0, 0, 0, 0, 0, 0, 0, 0, 0], [1, 0, 0, 0, 0, 0, 0, 0, 0, 0, 0, 0]⟩ (gSet 3 n_lawUgraph (je_bin op_addD gi (gCall G__law_draw hr hgd tk (gCons (gv 0) (gCons (ge 1) ja_nil)))))
    (gSeq ⟨[1, 0, 0, 0, 1, 0, 0, 0, 0, 0, 0, 0], [1, 0, 0, 0, 0, 0, 0, 0, 0, 0, 0, 0], [1, 0, 0, 0, 0, 0, 0, 0, 0, 0, 0, 0]⟩ (gSet 4 n_lawUgraph (gCall G__law_pairs_of hr hgd tk (gCons (ge 3) ja_nil)))
    (gSeq ⟨[1, 0, 0, 0, 1, 0, 0, 0, 0, 0, 0, 0], [1, 0, 0, 0, 0, 0, 0, 0, 0, 0, 0, 0], [1, 0, 0, 0, 0, 0, 0, 0, 0, 0, 0, 0]⟩ (gIfS (ψ1 := ⟨[1, 0, 0, 0, 1, 0, 0, 0, 0, 0, 0, 0], [1, 0, 0, 0, 0, 0, 0, 0, 0, 0, 0, 0], [1, 0, 0, 0, 0, 0, 0, 0, 0, 0, 0, 0]⟩) (ψ2 := ⟨[1, 0, 0, 0, 1, 0, 0, 0, 0, 0, 0, 0], [1, 0, 0, 0, 0, 0, 0, 0, 0, 0, 0, 0], [1, 0, 0, 0, 0, 0, 0, 0, 0, 0, 0, 0]⟩) (gCmpT (op_eqDD hu64) (gCall G__law_draw hr hgd tk (gCons (gv 0) (gCons gi ja_nil))) gi)
    (gSeq ⟨[1, 0, 0, 0, 1, 0, 0, 0, 0, 0, 0, 0], [1, 0, 0, 0, 0, 0, 0, 0, 0, 0, 0, 0], [1, 0, 0, 0, 0, 0, 0, 0, 0, 0, 0, 0]⟩ (gSet 5 n_lawUgraph (gCall G__law_pick hr hgd tk (gCons (gv 0) (gCons (gCall G__law_family hr hgd tk (gCons (gCall G__law_pick hr hgd tk (gCons (gv 0) (gCons (gTup 9 (gCons gi (gCons gi (gCons gi ja_nil)))) ja_nil))) ja_nil)) ja_nil))))
    (gSeq ⟨[1, 0, 0, 0, 1, 0, 0, 0, 0, 0, 0, 0], [1, 0, 0, 0, 0, 0, 0, 0, 0, 0, 0, 0], [1, 0, 0, 0, 0, 0, 0, 0, 0, 0, 0, 0]⟩ (gIfS (ψ1 := ⟨[1, 0, 0, 0, 1, 0, 0, 0, 0, 0, 0, 0], [1, 0, 0, 0, 0, 0, 0, 0, 0, 0, 0, 0], [1, 0, 0, 0, 0, 0, 0, 0, 0, 0, 0, 0]⟩) (ψ2 := ⟨[1, 0, 0, 0, 1, 0, 0, 0, 0, 0, 0, 0], [1, 0, 0, 0, 0, 0, 0, 0, 0, 0, 0, 0], [1, 0, 0, 0, 0, 0, 0, 0, 0, 0, 0, 0]⟩) (jt_w (gAnd (gCmpT (op_ordD rfl hu80) (gIx (op_ixD hu64) (gv 5) gi) (gv 1)) (jw_and1 (gCmpT (op_ordD rfl hu80) (gCallB cd_len z_len (gCons (gIx (op_ixD hu64) (gv 5) gi) ja_nil)) (gv 2)))))
    (gSeq ⟨[1, 0, 0, 0, 1, 1, 0, 0, 0, 0, 0, 0], [1, 0, 0, 0, 0, 0, 0, 0, 0, 0, 0, 0], [1, 0, 0, 0, 0, 0, 0, 0, 0, 0, 0, 0]⟩ (gSet 5 n_lawUgraph (gCall G__law_named hr hgd tk (gCons (ge 5) (gCons (gCall G__law_order hr hgd tk (gCons (gv 0) (gCons (gIx (op_ixD hu64) (gv 5) gi) ja_nil))) ja_nil))))
    (gSeq ⟨[1, 0, 0, 0, 1, 1, 1, 0, 0, 0, 0, 0], [1, 0, 0, 0, 0, 0, 0, 0, 0, 0, 0, 0], [1, 0, 0, 0, 0, 0, 0, 0, 0, 0, 0, 0]⟩ (gSet 6 n_lawUgraph (gCallT cd_list z_list (gCons (gIx (op_ixD hu64) (gv 5) gi) ja_nil)))
    (gSeq ⟨[1, 0, 0, 0, 1, 1, 1, 0, 0, 0, 0, 0], [1, 0, 0, 0, 0, 0, 0, 0, 0, 0, 0, 0], [1, 0, 0, 0, 0, 0, 0, 0, 0, 0, 0, 0]⟩ (gFor [1, 0, 0, 0, 1, 1, 1, 0, 0, 0, 0, 0] ⟨[1, 0, 0, 0, 1, 1, 1, 0, 0, 0, 0, 0], [1, 0, 0, 0, 1, 1, 1, 0, 0, 0, 0, 0], [1, 0, 0, 0, 1, 1, 1, 0, 0, 0, 0, 0]⟩ po (gRange1 z_range (gCall G__law_draw hr hgd tk (gCons (gv 0) (gCons gi ja_nil)))) (gTgN 7 n_lawUgraph)
    (gSeq ⟨[1, 0, 0, 0, 1, 1, 1, 0, 0, 0, 0, 0], [1, 0, 0, 0, 1, 1, 1, 0, 0, 0, 0, 0], [1, 0, 0, 0, 1, 1, 1, 0, 0, 0, 0, 0]⟩ (gSet 8 n_lawUgraph (gCall G__law_pick hr hgd tk (gCons (gv 0) (gCons (gCall G__law_pairs_of hr hgd tk (gCons (gIx (op_ixD hu64) (gv 5) gi) ja_nil)) ja_nil))))
    (gSeq ⟨[1, 0, 0, 0, 1, 1, 1, 0, 0, 0, 0, 0], [1, 0, 0, 0, 1, 1, 1, 0, 0, 0, 0, 0], [1, 0, 0, 0, 1, 1, 1, 0, 0, 0, 0, 0]⟩ (gIfS (ψ1 := ⟨[1, 0, 0, 0, 1, 1, 1, 0, 0, 0, 0, 0], [1, 0, 0, 0, 1, 1, 1, 0, 0, 0, 0, 0], [1, 0, 0, 0, 1, 1, 1, 0, 0, 0, 0, 0]⟩) (ψ2 := ⟨[1, 0, 0, 0, 1, 1, 1, 0, 0, 0, 0, 0], [1, 0, 0, 0, 1, 1, 1, 0, 0, 0, 0, 0], [1, 0, 0, 0, 1, 1, 1, 0, 0, 0, 0, 0]⟩) (jt_w (gOr (gCmpT (op_eqDD hu64) (gCall G__law_draw hr hgd tk (gCons (gv 0) (gCons gi ja_nil))) gi) (jw_or1 (gCmpT (op_ordD rfl hu80) (gCallB cd_len z_len (gCons (gv 6) ja_nil)) (gv 2)))))
    (gSeq ⟨[1, 0, 0, 0, 1, 1, 1, 0, 0, 0, 0, 0], [1, 0, 0, 0, 1, 1, 1, 0, 0, 0, 0, 0], [1, 0, 0, 0, 1, 1, 1, 0, 0, 0, 0, 0]⟩ (gSetLc 6 [("each", 11)] [1, 0, 0, 0, 1, 1, 0, 0, 0, 0, 0, 0] n_lawUgraph (blk_mk (by rfl)) (ji_seq (ge 6)) (fun _ _ _ _ _ => (gTgN 11 n_lawUgraph)) (fun _ _ _ _ _ => (jts_one (gCmpT (op_neDD hu64) (gv 11) (gv 8)))) (fun _ _ _ _ _ => (ge 11)))
    gNil)
    (gSeq ⟨[1, 0, 0, 0, 1, 1, 1, 0, 0, 0, 0, 0], [1, 0, 0, 0, 1, 1, 1, 0, 0, 0, 0, 0], [1, 0, 0, 0, 1, 1, 1, 0, 0, 0, 0, 0]⟩ (gExpr (gAppend 6 0 (ge 8)))
    gNil))
    gNil)))
    (gSeq ⟨[1, 0, 0, 0, 1, 0, 0, 0, 0, 0, 0, 0], [1, 0, 0, 0, 0, 0, 0, 0, 0, 0, 0, 0], [1, 0, 0, 0, 0, 0, 0, 0, 0, 0, 0, 0]⟩ (gRet (gCall G__law_kept hr hgd tk (gCons (gIx (op_ixD hu64) (gv 5) gi) (gCons (ge 6) ja_nil))))
    gNil))))
    gNil)
    gNil))
    gNil)
    (gSeq ⟨[1, 0, 0, 0, 1, 0, 0, 0, 0, 9, 1, 0], [1, 0, 0, 0, 0, 0, 0, 0, 0, 0, 0, 0], [1, 0, 0, 0, 0, 0, 0, 0, 0, 0, 0, 0]⟩ (gPar 9 10 n_lawUgraph (gCons (gLst 8 ja_nil) (gCons (je_bin op_addD gi (gCall G__law_draw hr hgd tk (gCons (gv 0) (gCons gi ja_nil)))) ja_nil)))
    (gSeq ⟨[1, 0, 0, 0, 0, 0, 0, 0, 0, 1, 1, 0], [1, 0, 0, 0, 0, 0, 0, 0, 0, 0, 0, 0], [1, 0, 0, 0, 0, 0, 0, 0, 0, 0, 0, 0]⟩ (gFor [1, 0, 0, 0, 0, 0, 0, 0, 0, 1, 1, 0] ⟨[1, 0, 0, 0, 0, 0, 0, 0, 0, 1, 1, 0], [1, 0, 0, 0, 0, 0, 0, 0, 0, 1, 1, 0], [1, 0, 0, 0, 0, 0, 0, 0, 0, 1, 1, 0]⟩ po (ji_seq (ge 4)) (gTgN 8 n_lawUgraph)
    (gSeq ⟨[1, 0, 0, 0, 0, 0, 0, 0, 0, 1, 1, 0], [1, 0, 0, 0, 0, 0, 0, 0, 0, 1, 1, 0], [1, 0, 0, 0, 0, 0, 0, 0, 0, 1, 1, 0]⟩ (gIfS (ψ1 := ⟨[1, 0, 0, 0, 0, 0, 0, 0, 0, 1, 1, 0], [1, 0, 0, 0, 0, 0, 0, 0, 0, 1, 1, 0], [1, 0, 0, 0, 0, 0, 0, 0, 0, 1, 1, 0]⟩) (ψ2 := ⟨[1, 0, 0, 0, 0, 0, 0, 0, 0, 1, 1, 0], [1, 0, 0, 0, 0, 0, 0, 0, 0, 1, 1, 0], [1, 0, 0, 0, 0, 0, 0, 0, 0, 1, 1, 0]⟩) (jt_w (gAnd (gCmpT (op_ordD rfl hu80) (gCall G__law_draw hr hgd tk (gCons (gv 0) (gCons gi ja_nil))) (gv 10)) (jw_and1 (gCmpT (op_ordD rfl hu80) (gCallB cd_len z_len (gCons (gv 9) ja_nil)) (gv 2)))))
    (gSeq ⟨[1, 0, 0, 0, 0, 0, 0, 0, 0, 1, 1, 0], [1, 0, 0, 0, 0, 0, 0, 0, 0, 1, 1, 0], [1, 0, 0, 0, 0, 0, 0, 0, 0, 1, 1, 0]⟩ (gExpr (gAppend 9 0 (ge 8)))
    gNil)
    gNil)
    gNil))
    (gSeq ⟨[1, 0, 0, 0, 0, 0, 0, 0, 0, 0, 0, 0], [1, 0, 0, 0, 0, 0, 0, 0, 0, 0, 0, 0], [1, 0, 0, 0, 0, 0, 0, 0, 0, 0, 0, 0]⟩ (gRet (gCall G__law_kept hr hgd tk (gCons (ge 3) (gCons (ge 9) ja_nil))))
    gNil))))))
theorem h_lawUgraph (fn : Fun K "_law_graph" "_law_graph" s_lawUgraph f fd) (hm : mg "_law_graph" = some (.ref f)) (z_len : mg "len" = none) (z_list : mg "list" = none) (z_range : mg "range" = none) (G__law_draw : Has P w K mg base 1 "_law_draw" ["well", "many"] Z [.io 1 1, .fz] 9 F_lawUdraw) (G__law_pairs_of : Has P w K mg base 1 "_law_pairs_of" ["vertices"] Z [.fz] 1 F_lawUpairsUof) (G__law_pick : Has P w K mg base 2 "_law_pick" ["well", "some"] Z [.io 1 1, .fz] 0 F_lawUpick) (G__law_family : Has P w K mg base 3 "_law_family" ["level"] Z [.fz] 2 F_lawUfamily) (G__law_named : Has P w K mg base 2 "_law_named" ["graph", "order"] Z [.fz, .fz] 1 F_lawUnamed) (G__law_order : Has P w K mg base 3 "_law_order" ["well", "many"] Z [.io 1 1, .fz] 1 F_lawUorder) (G__law_kept : Has P w K mg base 1 "_law_kept" ["vertices", "edges"] Z [.fz, .fz] 1 F_lawUkept) : Has P w K mg base 4 "_law_graph" ["well", "most", "edges"] Z [.io 1 1, .fz, .fz] 1 F_lawUgraph :=
  has_of fn hm S_lawUgraph (fun _ _ _ _ _ _ l hl => match l, hl with
    | [_, _, _], _ => (And.intro rfl (And.intro rfl (And.intro rfl (And.intro rfl (And.intro rfl (And.intro rfl (And.intro rfl (And.intro rfl (And.intro rfl (And.intro rfl trivial))))))))))) rfl (b_lawUgraph z_len z_list z_range G__law_draw G__law_pairs_of G__law_pick G__law_family G__law_named G__law_order G__law_kept)
end
abbrev s_lawUspread : Stmt := top 43
abbrev N_lawUspread : List Str := ["well", "other", "most", "vertices", "edges", "lots", "turn", "v", "moved", "each", "pair", "order", "model", "lot", "a", "b"]
theorem n_lawUspread : N_lawUspread.Nodup := by decide
theorem S_lawUspread : FnScope N_lawUspread ["well", "other", "most"] (defScope s_lawUspread) := ⟨rfl, rfl, rfl, by decide +kernel, rfl, by decide +kernel, by decide +kernel⟩
section
variable {P : Program} {w : World} {K : PySem.W.Frag} {mg : Str → Option Value} {base : Heap} {f : Addr} {fd : FuncData} {Z : ClT}
theorem b_lawUspread (z_len : mg "len" = none) (z_list : mg "list" = none) (z_range : mg "range" = none) (z_sorted : mg "sorted" = none) (z_tuple : mg "tuple" = none) (G__law_draw : Has P w K mg base 1 "_law_draw" ["well", "many"] Z [.io 1 1, .fz] 9 F_lawUdraw) (G__law_pick : Has P w K mg base 2 "_law_pick" ["well", "some"] Z [.io 1 1, .fz] 0 F_lawUpick) (G__law_pairs_of : Has P w K mg base 1 "_law_pairs_of" ["vertices"] Z [.fz] 1 F_lawUpairsUof) (G__law_order : Has P w K mg base 3 "_law_order" ["well", "many"] Z [.io 1 1, .fz] 1 F_lawUorder) (G__law_named : Has P w K mg base 2 "_law_named" ["graph", "order"] Z [.fz, .fz] 1 F_lawUnamed) (G__law_kept : Has P w K mg base 1 "_law_kept" ["vertices", "edges"] Z [.fz, .fz] 1 F_lawUkept) : BodyD P w K mg base 3 N_lawUspread "_law_spread" s_lawUspread f Z [.io 1 1, .fz, .fz] 1 m_lawUspread := by
  intro cdv A outer s H E hr hgd tk po
  have hu80 := units80 hr
  have hu70 := units70 hr
  have hu65 := units65 hr
  have hu64 := units64 hr
  refine ⟨⟨[1, 0, 0, 0, 0, 0, 0, 0, 0, 0, 0, 0, 0, 0, 0, 0], [1, 0, 0, 0, 0, 0, 0, 0, 0, 0, 0, 0, 0, 0, 0, 0], [1, 0, 0, 0, 0, 0, 0, 0, 0, 0, 0, 0, 0, 0, 0, 0]⟩, rfl, ?_⟩
  exact (gSeq ⟨[1, 0, 0, 0, 0, 0, 0, 0, 0, 0, 0, 0, 0, 0, 0, 0], [1, 0, 0, 0, 0, 0, 0, 0, 0, 0, 0, 0, 0, 0, 0, 0], [1, 0, 0, 0, 0, 0, 0, 0, 0, 0, 0, 0, 0, 0, 0, 0]⟩ (gAsg (gTup 0 (gCons (gIx (op_ixD hu64) (gv 1) gi) (gCons (gCallT cd_list z_list (gCons (gIx (op_ixD hu64) (gv 1) gi) ja_nil)) (gCons (gLc [("v", 7)] [1, 0, 0, 0, 0, 0, 0, 0, 0, 0, 0, 0, 0, 0, 0, 0] n_lawUspread (blk_mk (by rfl)) (gRange1 z_range (gIx (op_ixD hu64) (gv 1) gi)) (fun _ _ _ _ _ => (gTgN 7 n_lawUspread)) (fun _ _ _ _ _ => jts_nil) (fun _ _ _ _ _ => (gLst 0 (gCons (ge 7) ja_nil)))) ja_nil)))) (gTgT (gN1 3 n_lawUspread (gN1 4 n_lawUspread (gN1 5 n_lawUspread pgs_n0)))))
    (gSeq ⟨[1, 0, 0, 0, 0, 0, 0, 0, 0, 0, 0, 0, 0, 0, 0, 0], [1, 0, 0, 0, 0, 0, 0, 0, 0, 0, 0, 0, 0, 0, 0, 0], [1, 0, 0, 0, 0, 0, 0, 0, 0, 0, 0, 0, 0, 0, 0, 0]⟩ (gFor [1, 0, 0, 0, 0, 0, 0, 0, 0, 0, 0, 0, 0, 0, 0, 0] ⟨[1, 0, 0, 0, 0, 0, 0, 0, 0, 0, 0, 0, 0, 0, 0, 0], [1, 0, 0, 0, 0, 0, 0, 0, 0, 0, 0, 0, 0, 0, 0, 0], [1, 0, 0, 0, 0, 0, 0, 0, 0, 0, 0, 0, 0, 0, 0, 0]⟩ po (gRange1 z_range (gCall G__law_draw hr hgd tk (gCons (gv 0) (gCons gi ja_nil)))) (gTgN 6 n_lawUspread)
    (gSeq ⟨[1, 0, 0, 0, 0, 0, 0, 0, 0, 0, 0, 0, 0, 0, 0, 0], [1, 0, 0, 0, 0, 0, 0, 0, 0, 0, 0, 0, 0, 0, 0, 0], [1, 0, 0, 0, 0, 0, 0, 0, 0, 0, 0, 0, 0, 0, 0, 0]⟩ (gIfS (ψ1 := ⟨[1, 0, 0, 1, 1, 1, 0, 0, 0, 0, 0, 0, 0, 0, 0, 0], [1, 0, 0, 0, 0, 0, 0, 0, 0, 0, 0, 0, 0, 0, 0, 0], [1, 0, 0, 0, 0, 0, 0, 0, 0, 0, 0, 0, 0, 0, 0, 0]⟩) (ψ2 := ⟨[1, 0, 0, 0, 0, 0, 0, 0, 0, 0, 0, 0, 0, 0, 0, 0], [1, 0, 0, 0, 0, 0, 0, 0, 0, 0, 0, 0, 0, 0, 0, 0], [1, 0, 0, 0, 0, 0, 0, 0, 0, 0, 0, 0, 0, 0, 0, 0]⟩) (jt_w (gAnd (gCmpT (op_ordD rfl hu80) (gv 3) (gv 2)) (jw_and1 (gCmpT (op_ordD rfl hu80) (gCallB cd_len z_len (gCons (gv 4) ja_nil)) gi))))
    (gSeq ⟨[1, 0, 0, 0, 0, 0, 0, 9, 9, 0, 0, 0, 0, 0, 0, 0], [1, 0, 0, 0, 0, 0, 0, 0, 0, 0, 0, 0, 0, 0, 0, 0], [1, 0, 0, 0, 0, 0, 0, 0, 0, 0, 0, 0, 0, 0, 0, 0]⟩ (gParC 7 8 (gN1 7 n_lawUspread (gN1 8 n_lawUspread pgs_n0)) (gCons (gCall G__law_draw hr hgd tk (gCons (gv 0) (gCons (ge 3) ja_nil))) (gCons (gLst 8 ja_nil) ja_nil)))
    (gSeq ⟨[1, 0, 0, 0, 0, 0, 0, 9, 1, 0, 0, 0, 0, 0, 0, 0], [1, 0, 0, 0, 0, 0, 0, 0, 0, 0, 0, 0, 0, 0, 0, 0], [1, 0, 0, 0, 0, 0, 0, 0, 0, 0, 0, 0, 0, 0, 0, 0]⟩ (gFor [1, 0, 0, 0, 0, 0, 0, 9, 1, 0, 0, 0, 0, 0, 0, 0] ⟨[1, 0, 0, 0, 0, 0, 0, 9, 1, 0, 0, 0, 0, 0, 0, 0], [1, 0, 0, 0, 0, 0, 0, 9, 1, 0, 0, 0, 0, 0, 0, 0], [1, 0, 0, 0, 0, 0, 0, 9, 1, 0, 0, 0, 0, 0, 0, 0]⟩ po (ji_seq (ge 4)) (gTgN 9 n_lawUspread)
    (gSeq ⟨[1, 0, 0, 0, 0, 0, 0, 9, 1, 0, 0, 0, 0, 0, 0, 0], [1, 0, 0, 0, 0, 0, 0, 9, 1, 0, 0, 0, 0, 0, 0, 0], [1, 0, 0, 0, 0, 0, 0, 9, 1, 0, 0, 0, 0, 0, 0, 0]⟩ (gIfS (ψ1 := ⟨[1, 0, 0, 0, 0, 0, 0, 9, 1, 0, 0, 0, 0, 0, 0, 0], [1, 0, 0, 0, 0, 0, 0, 9, 1, 0, 0, 0, 0, 0, 0, 0], [1, 0, 0, 0, 0, 0, 0, 9, 1, 0, 0, 0, 0, 0, 0, 0]⟩) (ψ2 := ⟨[1, 0, 0, 0, 0, 0, 0, 9, 1, 0, 0, 0, 0, 0, 0, 0], [1, 0, 0, 0, 0, 0, 0, 9, 1, 0, 0, 0, 0, 0, 0, 0], [1, 0, 0, 0, 0, 0, 0, 9, 1, 0, 0, 0, 0, 0, 0, 0]⟩) (jt_w (gAnd (gCmpT (op_inDD hu65) (gv 7) (gv 9)) (jw_and1 (gCmpT (op_eqDD hu64) (gCall G__law_draw hr hgd tk (gCons (gv 0) (gCons gi ja_nil))) gi))))
    (gSeq ⟨[1, 0, 0, 0, 0, 0, 0, 9, 1, 0, 0, 0, 0, 0, 0, 0], [1, 0, 0, 0, 0, 0, 0, 9, 1, 0, 0, 0, 0, 0, 0, 0], [1, 0, 0, 0, 0, 0, 0, 9, 1, 0, 0, 0, 0, 0, 0, 0]⟩ (gExpr (gAppend 8 0 (ge 9)))
    gNil)
    gNil)
    gNil))
    (gSeq ⟨[1, 0, 0, 0, 1, 0, 0, 9, 0, 0, 0, 0, 0, 0, 0, 0], [1, 0, 0, 0, 0, 0, 0, 0, 0, 0, 0, 0, 0, 0, 0, 0], [1, 0, 0, 0, 0, 0, 0, 0, 0, 0, 0, 0, 0, 0, 0, 0]⟩ (gSet 4 n_lawUspread (je_bin op_addD (gLc [("each", 9)] [1, 0, 0, 0, 0, 0, 0, 9, 1, 0, 0, 0, 0, 0, 0, 0] n_lawUspread (blk_mk (by rfl)) (ji_seq (ge 4)) (fun _ _ _ _ _ => (gTgN 9 n_lawUspread)) (fun _ _ _ _ _ => (jts_one (gCmpT (op_notInDD hu65) (gv 9) (gv 8)))) (fun _ _ _ _ _ => (ge 9))) (gLc [("a", 14), ("b", 15)] [1, 0, 0, 0, 0, 0, 0, 9, 0, 0, 0, 0, 0, 0, 0, 0] n_lawUspread (blk_mk (by rfl)) (ji_seq (ge 8)) (fun _ _ _ _ _ => (gTgT (gN1 14 n_lawUspread (gN1 15 n_lawUspread pgs_n0)))) (fun _ _ _ _ _ => jts_nil) (fun _ _ _ _ _ => (gTup 0 (gCons (je_bin op_subD (je_bin op_addD (gv 14) (gv 15)) (gv 7)) (gCons (ge 3) ja_nil)))))))
    (gSeq ⟨[1, 0, 0, 0, 1, 0, 0, 0, 0, 0, 0, 0, 0, 0, 0, 0], [1, 0, 0, 0, 0, 0, 0, 0, 0, 0, 0, 0, 0, 0, 0, 0], [1, 0, 0, 0, 0, 0, 0, 0, 0, 0, 0, 0, 0, 0, 0, 0]⟩ (gExpr (gAppend 4 0 (gTup 0 (gCons (ge 7) (gCons (ge 3) ja_nil)))))
    (gSeq ⟨[1, 0, 0, 0, 1, 1, 0, 0, 0, 0, 0, 0, 0, 0, 0, 0], [1, 0, 0, 0, 0, 0, 0, 0, 0, 0, 0, 0, 0, 0, 0, 0], [1, 0, 0, 0, 0, 0, 0, 0, 0, 0, 0, 0, 0, 0, 0, 0]⟩ (gSetLc 5 [("lot", 13)] [1, 0, 0, 0, 1, 0, 0, 0, 0, 0, 0, 0, 0, 0, 0, 0] n_lawUspread (blk_mk (by rfl)) (ji_seq (ge 5)) (fun _ _ _ _ _ => (gTgN 13 n_lawUspread)) (fun _ _ _ _ _ => jts_nil) (fun _ _ _ _ _ => (gIf [1, 0, 0, 0, 1, 0, 0, 0, 0, 0, 0, 0, 0, 0, 0, 0] 0 (gCmpT (op_inDD hu65) (gv 7) (gv 13)) (je_bin op_addD (gv 13) (gLst 0 (gCons (ge 3) ja_nil))) (ge 13))))
    (gSeq ⟨[1, 0, 0, 1, 1, 1, 0, 0, 0, 0, 0, 0, 0, 0, 0, 0], [1, 0, 0, 0, 0, 0, 0, 0, 0, 0, 0, 0, 0, 0, 0, 0], [1, 0, 0, 0, 0, 0, 0, 0, 0, 0, 0, 0, 0, 0, 0, 0]⟩ (gSet 3 n_lawUspread (je_bin op_addD (gv 3) gi))
    gNil))))))
    gNil)
    gNil))
    (gSeq ⟨[1, 0, 0, 1, 0, 0, 0, 0, 0, 0, 0, 0, 0, 0, 0, 0], [1, 0, 0, 0, 0, 0, 0, 0, 0, 0, 0, 0, 0, 0, 0, 0], [1, 0, 0, 0, 0, 0, 0, 0, 0, 0, 0, 0, 0, 0, 0, 0]⟩ (gSet 3 n_lawUspread (je_bin op_addD (gv 3) (gIf [1, 0, 0, 0, 0, 0, 0, 0, 0, 0, 0, 0, 0, 0, 0, 0] 9 (jt_w (gAnd (gCmpT (op_ordD rfl hu80) (gv 3) (gv 2)) (jw_and1 (gCmpT (op_eqDD hu64) (gCall G__law_draw hr hgd tk (gCons (gv 0) (gCons gi ja_nil))) gi)))) gi gi)))
    (gSeq ⟨[1, 0, 0, 0, 0, 0, 0, 0, 0, 0, 0, 0, 0, 0, 0, 0], [1, 0, 0, 0, 0, 0, 0, 0, 0, 0, 0, 0, 0, 0, 0, 0], [1, 0, 0, 0, 0, 0, 0, 0, 0, 0, 0, 0, 0, 0, 0, 0]⟩ (gFor [1, 0, 0, 0, 0, 0, 0, 0, 0, 0, 0, 0, 0, 0, 0, 0] ⟨[1, 0, 0, 0, 0, 0, 0, 0, 0, 0, 0, 0, 0, 0, 0, 0], [1, 0, 0, 0, 0, 0, 0, 0, 0, 0, 0, 0, 0, 0, 0, 0], [1, 0, 0, 0, 0, 0, 0, 0, 0, 0, 0, 0, 0, 0, 0, 0]⟩ po (gRange1 z_range (gCall G__law_draw hr hgd tk (gCons (gv 0) (gCons gi ja_nil)))) (gTgN 6 n_lawUspread)
    (gSeq ⟨[1, 0, 0, 0, 0, 0, 0, 0, 0, 0, 0, 0, 0, 0, 0, 0], [1, 0, 0, 0, 0, 0, 0, 0, 0, 0, 0, 0, 0, 0, 0, 0], [1, 0, 0, 0, 0, 0, 0, 0, 0, 0, 0, 0, 0, 0, 0, 0]⟩ (gSet 10 n_lawUspread (gCall G__law_pick hr hgd tk (gCons (gv 0) (gCons (je_bin op_addD (gCall G__law_pairs_of hr hgd tk (gCons (ge 3) ja_nil)) (gLst 10 (gCons (gTup 9 (gCons gi (gCons gi ja_nil))) ja_nil))) ja_nil))))
    (gSeq ⟨[1, 0, 0, 0, 0, 0, 0, 0, 0, 0, 0, 0, 0, 0, 0, 0], [1, 0, 0, 0, 0, 0, 0, 0, 0, 0, 0, 0, 0, 0, 0, 0], [1, 0, 0, 0, 0, 0, 0, 0, 0, 0, 0, 0, 0, 0, 0, 0]⟩ (gSet 4 n_lawUspread (gIf [1, 0, 0, 0, 0, 0, 0, 0, 0, 0, 0, 0, 0, 0, 0, 0] 0 (gCmpT (op_ordD rfl hu80) (gCallB cd_len z_len (gCons (gv 4) ja_nil)) gi) (je_bin op_addD (gv 4) (gLst 0 (gCons (ge 10) ja_nil))) (ge 4)))
    gNil)))
    (gSeq ⟨[1, 0, 0, 0, 0, 0, 0, 0, 0, 0, 0, 1, 0, 0, 0, 0], [1, 0, 0, 0, 0, 0, 0, 0, 0, 0, 0, 0, 0, 0, 0, 0], [1, 0, 0, 0, 0, 0, 0, 0, 0, 0, 0, 0, 0, 0, 0, 0]⟩ (gSet 11 n_lawUspread (gCall G__law_order hr hgd tk (gCons (gv 0) (gCons (ge 3) ja_nil))))
    (gSeq ⟨[1, 0, 0, 0, 0, 0, 0, 0, 0, 0, 0, 1, 1, 0, 0, 0], [1, 0, 0, 0, 0, 0, 0, 0, 0, 0, 0, 0, 0, 0, 0, 0], [1, 0, 0, 0, 0, 0, 0, 0, 0, 0, 0, 0, 0, 0, 0, 0]⟩ (gSet 12 n_lawUspread (gCallT cd_tuple z_tuple (gCons (gLc [("lot", 13)] [1, 0, 0, 0, 0, 0, 0, 0, 0, 0, 0, 1, 0, 0, 0, 0] n_lawUspread (blk_mk (by rfl)) (ji_seq (ge 5)) (fun _ _ _ _ _ => (gTgN 13 n_lawUspread)) (fun _ _ _ _ _ => jts_nil) (fun _ _ _ _ _ => (gCallT cd_tuple z_tuple (gCons (gCallB (cd_sorted rfl hu70) z_sorted (gCons (gLc [("v", 7)] [1, 0, 0, 0, 0, 0, 0, 0, 0, 0, 0, 1, 0, 0, 0, 0] n_lawUspread (blk_mk (by rfl)) (ji_seq (ge 13)) (fun _ _ _ _ _ => (gTgN 7 n_lawUspread)) (fun _ _ _ _ _ => jts_nil) (fun _ _ _ _ _ => (gIx (op_ixD hu64) (gv 11) (gv 7)))) ja_nil)) ja_nil)))) ja_nil)))
    (gSeq ⟨[1, 0, 0, 0, 0, 0, 0, 0, 0, 0, 0, 0, 0, 0, 0, 0], [1, 0, 0, 0, 0, 0, 0, 0, 0, 0, 0, 0, 0, 0, 0, 0], [1, 0, 0, 0, 0, 0, 0, 0, 0, 0, 0, 0, 0, 0, 0, 0]⟩ (gRet (gLst 0 (gCons (gCall G__law_named hr hgd tk (gCons (gCall G__law_kept hr hgd tk (gCons (ge 3) (gCons (ge 4) ja_nil))) (gCons (ge 11) ja_nil))) (gCons (ge 12) ja_nil))))
    gNil)))))))
theorem h_lawUspread (fn : Fun K "_law_spread" "_law_spread" s_lawUspread f fd) (hm : mg "_law_spread" = some (.ref f)) (z_len : mg "len" = none) (z_list : mg "list" = none) (z_range : mg "range" = none) (z_sorted : mg "sorted" = none) (z_tuple : mg "tuple" = none) (G__law_draw : Has P w K mg base 1 "_law_draw" ["well", "many"] Z [.io 1 1, .fz] 9 F_lawUdraw) (G__law_pick : Has P w K mg base 2 "_law_pick" ["well", "some"] Z [.io 1 1, .fz] 0 F_lawUpick) (G__law_pairs_of : Has P w K mg base 1 "_law_pairs_of" ["vertices"] Z [.fz] 1 F_lawUpairsUof) (G__law_order : Has P w K mg base 3 "_law_order" ["well", "many"] Z [.io 1 1, .fz] 1 F_lawUorder) (G__law_named : Has P w K mg base 2 "_law_named" ["graph", "order"] Z [.fz, .fz] 1 F_lawUnamed) (G__law_kept : Has P w K mg base 1 "_law_kept" ["vertices", "edges"] Z [.fz, .fz] 1 F_lawUkept) : Has P w K mg base 4 "_law_spread" ["well", "other", "most"] Z [.io 1 1, .fz, .fz] 1 F_lawUspread :=
  has_of fn hm S_lawUspread (fun _ _ _ _ _ _ l hl => match l, hl with
    | [_, _, _], _ => (And.intro rfl (And.intro rfl (And.intro rfl (And.intro rfl (And.intro rfl (And.intro rfl (And.intro rfl (And.intro rfl (And.intro rfl (And.intro rfl trivial))))))))))) rfl (b_lawUspread z_len z_list z_range z_sorted z_tuple G__law_draw G__law_pick G__law_pairs_of G__law_order G__law_named G__law_kept)
end
abbrev s_lawUneighbours : Stmt := top 30
abbrev N_lawUneighbours : List Str := ["graph", "vertex", "a", "b"]
theorem n_lawUneighbours : N_lawUneighbours.Nodup := by decide
theorem S_lawUneighbours : FnScope N_lawUneighbours ["graph", "vertex"] (defScope s_lawUneighbours) := ⟨rfl, rfl, rfl, by decide +kernel, rfl, by decide +kernel, by decide +kernel⟩
section
variable {P : Program} {w : World} {K : PySem.W.Frag} {mg : Str → Option Value} {base : Heap} {f : Addr} {fd : FuncData} {Z : ClT}
theorem b_lawUneighbours (z_sorted : mg "sorted" = none) : BodyD P w K mg base 0 N_lawUneighbours "_law_neighbours" s_lawUneighbours f Z [.fz, .fz] 1 m_lawUneighbours := by
  intro cdv A outer s H E hr hgd tk po
  have hu80 := units80 hr
  have hu70 := units70 hr
  have hu65 := units65 hr
  have hu64 := units64 hr
  refine ⟨⟨[0, 0, 0, 0], [0, 0, 0, 0], [0, 0, 0, 0]⟩, rfl, ?_⟩
  exact (gSeq ⟨[0, 0, 0, 0], [0, 0, 0, 0], [0, 0, 0, 0]⟩ (gRet (gCallB (cd_sorted rfl hu70) z_sorted (gCons (gLc [("a", 2), ("b", 3)] [0, 0, 0, 0] n_lawUneighbours (blk_mk (by rfl)) (ji_seq (gIx (op_ixD hu64) (gv 0) gi)) (fun _ _ _ _ _ => (gTgT (gN1 2 n_lawUneighbours (gN1 3 n_lawUneighbours pgs_n0)))) (fun _ _ _ _ _ => (jts_one (gCmpT (op_inDD hu65) (gv 1) (gTup 0 (gCons (ge 2) (gCons (ge 3) ja_nil)))))) (fun _ _ _ _ _ => (je_bin op_subD (je_bin op_addD (gv 2) (gv 3)) (gv 1)))) ja_nil)))
    gNil)
theorem h_lawUneighbours (fn : Fun K "_law_neighbours" "_law_neighbours" s_lawUneighbours f fd) (hm : mg "_law_neighbours" = some (.ref f)) (z_sorted : mg "sorted" = none) : Has P w K mg base 1 "_law_neighbours" ["graph", "vertex"] Z [.fz, .fz] 1 F_lawUneighbours :=
  has_of fn hm S_lawUneighbours (fun _ _ _ _ _ _ l hl => match l, hl with
    | [_, _], _ => (And.intro rfl (And.intro rfl (And.intro rfl (And.intro rfl trivial))))) rfl (b_lawUneighbours z_sorted)
end
abbrev s_lawUreached : Stmt := top 31
abbrev N_lawUreached : List Str := ["graph", "some", "found", "at", "other"]
theorem n_lawUreached : N_lawUreached.Nodup := by decide
theorem S_lawUreached : FnScope N_lawUreached ["graph", "some"] (defScope s_lawUreached) := ⟨rfl, rfl, rfl, by decide +kernel, rfl, by decide +kernel, by decide +kernel⟩
section
variable {P : Program} {w : World} {K : PySem.W.Frag} {mg : Str → Option Value} {base : Heap} {f : Addr} {fd : FuncData} {Z : ClT}
theorem b_lawUreached (z_len : mg "len" = none) (z_list : mg "list" = none) (G__law_neighbours : Has P w K mg base 1 "_law_neighbours" ["graph", "vertex"] Z [.fz, .fz] 1 F_lawUneighbours) : BodyD P w K mg base 1 N_lawUreached "_law_reached" s_lawUreached f Z [.fz, .fz] 1 m_lawUreached := by
  intro cdv A outer s H E hr hgd tk po
  have hu80 := units80 hr
  have hu70 := units70 hr
  have hu65 := units65 hr
  have hu64 := units64 hr
  refine ⟨⟨[0, 0, 0, 0, 0], [0, 0, 0, 0, 0], [0, 0, 0, 0, 0]⟩, rfl, ?_⟩
  exact (gSeq ⟨[0, 0, 1, 9, 0], [0, 0, 0, 0, 0], [0, 0, 0, 0, 0]⟩ (gPar 2 3 n_lawUreached (gCons (gCallT cd_list z_list (gCons (gSlice (gv 1) jo_none (jo_some gi)) ja_nil)) (gCons gi ja_nil)))
    (gSeq ⟨[0, 0, 1, 1, 0], [0, 0, 0, 0, 0], [0, 0, 0, 0, 0]⟩ (gWhile [0, 0, 1, 1, 0] ⟨[0, 0, 1, 1, 0], [0, 0, 1, 1, 0], [0, 0, 1, 1, 0]⟩ po (gCmpT (op_ordD rfl hu80) (gv 3) (gCallB cd_len z_len (gCons (gv 2) ja_nil)))
    (gSeq ⟨[0, 0, 1, 1, 0], [0, 0, 1, 1, 0], [0, 0, 1, 1, 0]⟩ (gFor [0, 0, 1, 1, 0] ⟨[0, 0, 1, 1, 0], [0, 0, 1, 1, 0], [0, 0, 1, 1, 0]⟩ po (ji_seq (gCall G__law_neighbours hr hgd tk (gCons (ge 0) (gCons (gIx (op_ixD hu64) (gv 2) (gv 3)) ja_nil)))) (gTgN 4 n_lawUreached)
    (gSeq ⟨[0, 0, 1, 1, 0], [0, 0, 1, 1, 0], [0, 0, 1, 1, 0]⟩ (gIfS (ψ1 := ⟨[0, 0, 1, 1, 0], [0, 0, 1, 1, 0], [0, 0, 1, 1, 0]⟩) (ψ2 := ⟨[0, 0, 1, 1, 0], [0, 0, 1, 1, 0], [0, 0, 1, 1, 0]⟩) (jt_w (gAnd (gCmpT (op_inDD hu65) (gv 4) (gv 1)) (jw_and1 (gCmpT (op_notInDD hu65) (gv 4) (gv 2)))))
    (gSeq ⟨[0, 0, 1, 1, 0], [0, 0, 1, 1, 0], [0, 0, 1, 1, 0]⟩ (gExpr (gAppend 2 0 (ge 4)))
    gNil)
    gNil)
    gNil))
    (gSeq ⟨[0, 0, 1, 1, 0], [0, 0, 1, 1, 0], [0, 0, 1, 1, 0]⟩ (gSet 3 n_lawUreached (je_bin op_addD (gv 3) gi))
    gNil)))
    (gSeq ⟨[0, 0, 0, 0, 0], [0, 0, 0, 0, 0], [0, 0, 0, 0, 0]⟩ (gRetV 2 1)
    gNil)))
theorem h_lawUreached (fn : Fun K "_law_reached" "_law_reached" s_lawUreached f fd) (hm : mg "_law_reached" = some (.ref f)) (z_len : mg "len" = none) (z_list : mg "list" = none) (G__law_neighbours : Has P w K mg base 1 "_law_neighbours" ["graph", "vertex"] Z [.fz, .fz] 1 F_lawUneighbours) : Has P w K mg base 2 "_law_reached" ["graph", "some"] Z [.fz, .fz] 1 F_lawUreached :=
  has_of fn hm S_lawUreached (fun _ _ _ _ _ _ l hl => match l, hl with
    | [_, _], _ => (And.intro rfl (And.intro rfl (And.intro rfl (And.intro rfl trivial))))) rfl (b_lawUreached z_len z_list G__law_neighbours)
end
abbrev s_lawUisUconnected : Stmt := top 40
abbrev N_lawUisUconnected : List Str := ["graph", "lot"]
theorem n_lawUisUconnected : N_lawUisUconnected.Nodup := by decide
theorem S_lawUisUconnected : FnScope N_lawUisUconnected ["graph", "lot"] (defScope s_lawUisUconnected) := ⟨rfl, rfl, rfl, by decide +kernel, rfl, by decide +kernel, by decide +kernel⟩
section
variable {P : Program} {w : World} {K : PySem.W.Frag} {mg : Str → Option Value} {base : Heap} {f : Addr} {fd : FuncData} {Z : ClT}
theorem b_lawUisUconnected (z_len : mg "len" = none) (G__law_reached : Has P w K mg base 2 "_law_reached" ["graph", "some"] Z [.fz, .fz] 1 F_lawUreached) : BodyD P w K mg base 2 N_lawUisUconnected "_law_is_connected" s_lawUisUconnected f Z [.fz, .fz] 9 m_lawUisUconnected := by
  intro cdv A outer s H E hr hgd tk po
  have hu80 := units80 hr
  have hu70 := units70 hr
  have hu65 := units65 hr
  have hu64 := units64 hr
  refine ⟨⟨[0, 0], [0, 0], [0, 0]⟩, rfl, ?_⟩
  exact (gSeq ⟨[0, 0], [0, 0], [0, 0]⟩ (gRet (gAndV (gCmp (op_ordD rfl hu80) (gCallB cd_len z_len (gCons (gv 1) ja_nil)) gi) (je_one (gCmp (op_eqDD hu64) (gCallB cd_len z_len (gCons (gCall G__law_reached hr hgd tk (gCons (ge 0) (gCons (ge 1) ja_nil))) ja_nil)) (gCallB cd_len z_len (gCons (gv 1) ja_nil))))))
    gNil)
theorem h_lawUisUconnected (fn : Fun K "_law_is_connected" "_law_is_connected" s_lawUisUconnected f fd) (hm : mg "_law_is_connected" = some (.ref f)) (z_len : mg "len" = none) (G__law_reached : Has P w K mg base 2 "_law_reached" ["graph", "some"] Z [.fz, .fz] 1 F_lawUreached) : Has P w K mg base 3 "_law_is_connected" ["graph", "lot"] Z [.fz, .fz] 9 F_lawUisUconnected :=
  has_of fn hm S_lawUisUconnected (fun _ _ _ _ _ _ l hl => match l, hl with
    | [_, _], _ => (And.intro rfl (And.intro rfl (And.intro rfl (And.intro rfl trivial))))) rfl (b_lawUisUconnected z_len G__law_reached)
end
abbrev s_lawUareUapart : Stmt := top 32
abbrev N_lawUareUapart : List Str := ["one", "two", "each"]
theorem n_lawUareUapart : N_lawUareUapart.Nodup := by decide
theorem S_lawUareUapart : FnScope N_lawUareUapart ["one", "two"] (defScope s_lawUareUapart) := ⟨rfl, rfl, rfl, by decide +kernel, rfl, by decide +kernel, by decide +kernel⟩
section
variable {P : Program} {w : World} {K : PySem.W.Frag} {mg : Str → Option Value} {base : Heap} {f : Addr} {fd : FuncData} {Z : ClT}
theorem b_lawUareUapart  : BodyD P w K mg base 0 N_lawUareUapart "_law_are_apart" s_lawUareUapart f Z [.fz, .fz] 9 m_lawUareUapart := by
  intro cdv A outer s H E hr hgd tk po
  have hu80 := units80 hr
  have hu70 := units70 hr
  have hu65 := units65 hr
  have hu64 := units64 hr
  refine ⟨⟨[0, 0, 0], [0, 0, 0], [0, 0, 0]⟩, rfl, ?_⟩
  exact (gSeq ⟨[0, 0, 0], [0, 0, 0], [0, 0, 0]⟩ (gRet (gCmp (op_eqDD hu64) (gLc [("each", 2)] [0, 0, 0] n_lawUareUapart (blk_mk (by rfl)) (ji_seq (ge 0)) (fun _ _ _ _ _ => (gTgN 2 n_lawUareUapart)) (fun _ _ _ _ _ => (jts_one (gCmpT (op_inDD hu65) (gv 2) (gv 1)))) (fun _ _ _ _ _ => (ge 2))) (gLst 8 ja_nil)))
    gNil)
theorem h_lawUareUapart (fn : Fun K "_law_are_apart" "_law_are_apart" s_lawUareUapart f fd) (hm : mg "_law_are_apart" = some (.ref f))  : Has P w K mg base 1 "_law_are_apart" ["one", "two"] Z [.fz, .fz] 9 F_lawUareUapart :=
  has_of fn hm S_lawUareUapart (fun _ _ _ _ _ _ l hl => match l, hl with
    | [_, _], _ => (And.intro rfl (And.intro rfl (And.intro rfl (And.intro rfl trivial))))) rfl (b_lawUareUapart )
end
abbrev s_lawUisUacross : Stmt := top 42
abbrev N_lawUisUacross : List Str := ["edge", "one", "two"]
theorem n_lawUisUacross : N_lawUisUacross.Nodup := by decide
theorem S_lawUisUacross : FnScope N_lawUisUacross ["edge", "one", "two"] (defScope s_lawUisUacross) := ⟨rfl, rfl, rfl, by decide +kernel, rfl, by decide +kernel, by decide +kernel⟩
section
variable {P : Program} {w : World} {K : PySem.W.Frag} {mg : Str → Option Value} {base : Heap} {f : Addr} {fd : FuncData} {Z : ClT}
theorem b_lawUisUacross  : BodyD P w K mg base 0 N_lawUisUacross "_law_is_across" s_lawUisUacross f Z [.fz, .fz, .fz] 9 m_lawUisUacross := by
  intro cdv A outer s H E hr hgd tk po
  have hu80 := units80 hr
  have hu70 := units70 hr
  have hu65 := units65 hr
  have hu64 := units64 hr
  refine ⟨⟨[0, 0, 0], [0, 0, 0], [0, 0, 0]⟩, rfl, ?_⟩
  exact (gSeq ⟨[0, 0, 0], [0, 0, 0], [0, 0, 0]⟩ (gRet (gOrV (gAndV (gCmp (op_inDD hu65) (gIx (op_ixD hu64) (gv 0) gi) (gv 1)) (je_one (gCmp (op_inDD hu65) (gIx (op_ixD hu64) (gv 0) gi) (gv 2)))) (je_one (gAndV (gCmp (op_inDD hu65) (gIx (op_ixD hu64) (gv 0) gi) (gv 1)) (je_one (gCmp (op_inDD hu65) (gIx (op_ixD hu64) (gv 0) gi) (gv 2)))))))
    gNil)
theorem h_lawUisUacross (fn : Fun K "_law_is_across" "_law_is_across" s_lawUisUacross f fd) (hm : mg "_law_is_across" = some (.ref f))  : Has P w K mg base 1 "_law_is_across" ["edge", "one", "two"] Z [.fz, .fz, .fz] 9 F_lawUisUacross :=
  has_of fn hm S_lawUisUacross (fun _ _ _ _ _ _ l hl => match l, hl with
    | [_, _, _], _ => (And.intro rfl (And.intro rfl (And.intro rfl (And.intro rfl (And.intro rfl (And.intro rfl (And.intro rfl (And.intro rfl (And.intro rfl (And.intro rfl trivial))))))))))) rfl (b_lawUisUacross )
end
abbrev s_lawUisUwhole : Stmt := top 26
abbrev N_lawUisUwhole : List Str := ["thing"]
theorem n_lawUisUwhole : N_lawUisUwhole.Nodup := by decide
theorem S_lawUisUwhole : FnScope N_lawUisUwhole ["thing"] (defScope s_lawUisUwhole) := ⟨rfl, rfl, rfl, by decide +kernel, rfl, by decide +kernel, by decide +kernel⟩
section
variable {P : Program} {w : World} {K : PySem.W.Frag} {mg : Str → Option Value} {base : Heap} {f : Addr} {fd : FuncData} {Z : ClT}
theorem b_lawUisUwhole (z_bool : mg "bool" = none) (z_int : mg "int" = none) (z_isinstance : mg "isinstance" = none) : BodyD P w K mg base 0 N_lawUisUwhole "_law_is_whole" s_lawUisUwhole f Z [.fz] 9 m_lawUisUwhole := by
  intro cdv A outer s H E hr hgd tk po
  have hu80 := units80 hr
  have hu70 := units70 hr
  have hu65 := units65 hr
  have hu64 := units64 hr
  refine ⟨⟨[0], [0], [0]⟩, rfl, ?_⟩
  exact (gSeq ⟨[0], [0], [0]⟩ (gRet (gAndV (gIsi z_isinstance z_int (gv 0)) (je_one (je_not (gIsi z_isinstance z_bool (gv 0))))))
    gNil)
theorem h_lawUisUwhole (fn : Fun K "_law_is_whole" "_law_is_whole" s_lawUisUwhole f fd) (hm : mg "_law_is_whole" = some (.ref f)) (z_bool : mg "bool" = none) (z_int : mg "int" = none) (z_isinstance : mg "isinstance" = none) : Has P w K mg base 1 "_law_is_whole" ["thing"] Z [.fz] 9 F_lawUisUwhole :=
  has_of fn hm S_lawUisUwhole (fun _ _ _ _ _ _ l hl => match l, hl with
    | [_], _ => (And.intro rfl (And.intro rfl trivial))) rfl (b_lawUisUwhole z_bool z_int z_isinstance)
end
abbrev s_lawUisUupUto : Stmt := top 27
abbrev N_lawUisUupUto : List Str := ["thing", "low", "high"]
theorem n_lawUisUupUto : N_lawUisUupUto.Nodup := by decide
theorem S_lawUisUupUto : FnScope N_lawUisUupUto ["thing", "low", "high"] (defScope s_lawUisUupUto) := ⟨rfl, rfl, rfl, by decide +kernel, rfl, by decide +kernel, by decide +kernel⟩
section
variable {P : Program} {w : World} {K : PySem.W.Frag} {mg : Str → Option Value} {base : Heap} {f : Addr} {fd : FuncData} {Z : ClT}
theorem b_lawUisUupUto (G__law_is_whole : Has P w K mg base 1 "_law_is_whole" ["thing"] Z [.fz] 9 F_lawUisUwhole) : BodyD P w K mg base 1 N_lawUisUupUto "_law_is_up_to" s_lawUisUupUto f Z [.fz, .fz, .fz] 9 m_lawUisUupUto := by
  intro cdv A outer s H E hr hgd tk po
  have hu80 := units80 hr
  have hu70 := units70 hr
  have hu65 := units65 hr
  have hu64 := units64 hr
  refine ⟨⟨[0, 0, 0], [0, 0, 0], [0, 0, 0]⟩, rfl, ?_⟩
  exact (gSeq ⟨[0, 0, 0], [0, 0, 0], [0, 0, 0]⟩ (gRet (gAndV (gCall G__law_is_whole hr hgd tk (gCons (ge 0) ja_nil)) (je_one (gChain (φ' := [0, 0, 0]) (op_ordD rfl hu80) (op_ordD rfl hu80) (gv 1) (gv 0) (gv 2)))))
    gNil)
theorem h_lawUisUupUto (fn : Fun K "_law_is_up_to" "_law_is_up_to" s_lawUisUupUto f fd) (hm : mg "_law_is_up_to" = some (.ref f)) (G__law_is_whole : Has P w K mg base 1 "_law_is_whole" ["thing"] Z [.fz] 9 F_lawUisUwhole) : Has P w K mg base 2 "_law_is_up_to" ["thing", "low", "high"] Z [.fz, .fz, .fz] 9 F_lawUisUupUto :=
  has_of fn hm S_lawUisUupUto (fun _ _ _ _ _ _ l hl => match l, hl with
    | [_, _, _], _ => (And.intro rfl (And.intro rfl (And.intro rfl (And.intro rfl (And.intro rfl (And.intro rfl (And.intro rfl (And.intro rfl (And.intro rfl (And.intro rfl trivial))))))))))) rfl (b_lawUisUupUto G__law_is_whole)
end
abbrev s_lawUisUmodel : Stmt := top 41
abbrev N_lawUisUmodel : List Str := ["graph", "other", "thing", "seen", "lot", "i", "j", "each", "v", "k"]
theorem n_lawUisUmodel : N_lawUisUmodel.Nodup := by decide
theorem S_lawUisUmodel : FnScope N_lawUisUmodel ["graph", "other", "thing"] (defScope s_lawUisUmodel) := ⟨rfl, rfl, rfl, by decide +kernel, rfl, by decide +kernel, by decide +kernel⟩
section
variable {P : Program} {w : World} {K : PySem.W.Frag} {mg : Str → Option Value} {base : Heap} {f : Addr} {fd : FuncData} {Z : ClT}
theorem b_lawUisUmodel (z_isinstance : mg "isinstance" = none) (z_len : mg "len" = none) (z_list : mg "list" = none) (z_range : mg "range" = none) (z_tuple : mg "tuple" = none) (G__law_is_up_to : Has P w K mg base 2 "_law_is_up_to" ["thing", "low", "high"] Z [.fz, .fz, .fz] 9 F_lawUisUupUto) (G__law_are_apart : Has P w K mg base 1 "_law_are_apart" ["one", "two"] Z [.fz, .fz] 9 F_lawUareUapart) (G__law_is_connected : Has P w K mg base 3 "_law_is_connected" ["graph", "lot"] Z [.fz, .fz] 9 F_lawUisUconnected) (G__law_is_across : Has P w K mg base 1 "_law_is_across" ["edge", "one", "two"] Z [.fz, .fz, .fz] 9 F_lawUisUacross) : BodyD P w K mg base 3 N_lawUisUmodel "_law_is_model" s_lawUisUmodel f Z [.fz, .fz, .fz] 9 m_lawUisUmodel := by
  intro cdv A outer s H E hr hgd tk po
  have hu80 := units80 hr
  have hu70 := units70 hr
  have hu65 := units65 hr
  have hu64 := units64 hr
  refine ⟨⟨[0, 0, 0, 0, 0, 0, 0, 0, 0, 0], [0, 0, 0, 0, 0, 0, 0, 0, 0, 0], [0, 0, 0, 0, 0, 0, 0, 0, 0, 0]⟩, rfl, ?_⟩
  exact (gSeq ⟨[0, 0, 0, 0, 0, 0, 0, 0, 0, 0], [0, 0, 0, 0, 0, 0, 0, 0, 0, 0], [0, 0, 0, 0, 0, 0, 0, 0, 0, 0]⟩ (gIfS (ψ1 := ⟨[0, 0, 0, 0, 0, 0, 0, 0, 0, 0], [0, 0, 0, 0, 0, 0, 0, 0, 0, 0], [0, 0, 0, 0, 0, 0, 0, 0, 0, 0]⟩) (ψ2 := ⟨[0, 0, 0, 0, 0, 0, 0, 0, 0, 0], [0, 0, 0, 0, 0, 0, 0, 0, 0, 0], [0, 0, 0, 0, 0, 0, 0, 0, 0, 0]⟩) (jt_w (gOr (jt_not (gTru (gIsi z_isinstance z_tuple (gv 2)))) (jw_or1 (gCmpT (op_neDD hu64) (gCallB cd_len z_len (gCons (gv 2) ja_nil)) (gIx (op_ixD hu64) (gv 1) gi)))))
    (gSeq ⟨[0, 0, 0, 0, 0, 0, 0, 0, 0, 0], [0, 0, 0, 0, 0, 0, 0, 0, 0, 0], [0, 0, 0, 0, 0, 0, 0, 0, 0, 0]⟩ (gRet gb)
    gNil)
    gNil)
    (gSeq ⟨[0, 0, 0, 9, 0, 0, 0, 0, 0, 0], [0, 0, 0, 0, 0, 0, 0, 0, 0, 0], [0, 0, 0, 0, 0, 0, 0, 0, 0, 0]⟩ (gSet 3 n_lawUisUmodel (gLst 8 ja_nil))
    (gSeq ⟨[0, 0, 0, 1, 0, 0, 0, 0, 0, 0], [0, 0, 0, 0, 0, 0, 0, 0, 0, 0], [0, 0, 0, 0, 0, 0, 0, 0, 0, 0]⟩ (gFor [0, 0, 0, 1, 0, 0, 0, 0, 0, 0] ⟨[0, 0, 0, 1, 0, 0, 0, 0, 0, 0], [0, 0, 0, 1, 0, 0, 0, 0, 0, 0], [0, 0, 0, 1, 0, 0, 0, 0, 0, 0]⟩ po (ji_seq (ge 2)) (gTgN 4 n_lawUisUmodel)
    (gSeq ⟨[0, 0, 0, 1, 0, 0, 0, 0, 0, 0], [0, 0, 0, 1, 0, 0, 0, 0, 0, 0], [0, 0, 0, 1, 0, 0, 0, 0, 0, 0]⟩ (gIfS (ψ1 := ⟨[0, 0, 0, 1, 0, 0, 0, 0, 0, 0], [0, 0, 0, 1, 0, 0, 0, 0, 0, 0], [0, 0, 0, 1, 0, 0, 0, 0, 0, 0]⟩) (ψ2 := ⟨[0, 0, 0, 1, 0, 0, 0, 0, 0, 0], [0, 0, 0, 1, 0, 0, 0, 0, 0, 0], [0, 0, 0, 1, 0, 0, 0, 0, 0, 0]⟩) (jt_w (gOr (jt_not (gTru (gIsi z_isinstance z_tuple (gv 4)))) (jw_or1 (gCmpT (op_neDD hu64) (gLc [("v", 8)] [0, 0, 0, 1, 0, 0, 0, 0, 0, 0] n_lawUisUmodel (blk_mk (by rfl)) (ji_seq (ge 4)) (fun _ _ _ _ _ => (gTgN 8 n_lawUisUmodel)) (fun _ _ _ _ _ => (jts_one (jt_not (gTru (gCall G__law_is_up_to hr hgd tk0 (gCons (ge 8) (gCons gi (gCons (je_bin op_subD (gIx (op_ixD hu64) (gv 0) gi) gi) ja_nil)))))))) (fun _ _ _ _ _ => (ge 8))) (gLst 8 ja_nil)))))
    (gSeq ⟨[0, 0, 0, 1, 0, 0, 0, 0, 0, 0], [0, 0, 0, 1, 0, 0, 0, 0, 0, 0], [0, 0, 0, 1, 0, 0, 0, 0, 0, 0]⟩ (gRet gb)
    gNil)
    gNil)
    (gSeq ⟨[0, 0, 0, 0, 0, 0, 0, 0, 0, 0], [0, 0, 0, 1, 0, 0, 0, 0, 0, 0], [0, 0, 0, 1, 0, 0, 0, 0, 0, 0]⟩ (gIfS (ψ1 := ⟨[0, 0, 0, 0, 0, 0, 0, 0, 0, 0], [0, 0, 0, 1, 0, 0, 0, 0, 0, 0], [0, 0, 0, 1, 0, 0, 0, 0, 0, 0]⟩) (ψ2 := ⟨[0, 0, 0, 0, 0, 0, 0, 0, 0, 0], [0, 0, 0, 1, 0, 0, 0, 0, 0, 0], [0, 0, 0, 1, 0, 0, 0, 0, 0, 0]⟩) (jt_w (gOr (gCmpT (op_neDD hu64) (gLc [("k", 9)] [0, 0, 0, 1, 0, 0, 0, 0, 0, 0] n_lawUisUmodel (blk_mk (by rfl)) (gRange2 z_range gi (gCallB cd_len z_len (gCons (gv 4) ja_nil))) (fun _ _ _ _ _ => (gTgN 9 n_lawUisUmodel)) (fun _ _ _ _ _ => (jts_one (gCmpT (op_ordD rfl hu80) (gIx (op_ixD hu64) (gv 4) (je_bin op_subD (gv 9) gi)) (gIx (op_ixD hu64) (gv 4) (gv 9))))) (fun _ _ _ _ _ => (ge 9))) (gLst 8 ja_nil)) (jw_or1 (jt_not (gTru (gCall G__law_are_apart hr hgd tk (gCons (ge 4) (gCons (ge 3) ja_nil))))))))
    (gSeq ⟨[0, 0, 0, 0, 0, 0, 0, 0, 0, 0], [0, 0, 0, 1, 0, 0, 0, 0, 0, 0], [0, 0, 0, 1, 0, 0, 0, 0, 0, 0]⟩ (gRet gb)
    gNil)
    gNil)
    (gSeq ⟨[0, 0, 0, 0, 0, 0, 0, 0, 0, 0], [0, 0, 0, 1, 0, 0, 0, 0, 0, 0], [0, 0, 0, 1, 0, 0, 0, 0, 0, 0]⟩ (gIfS (ψ1 := ⟨[0, 0, 0, 0, 0, 0, 0, 0, 0, 0], [0, 0, 0, 1, 0, 0, 0, 0, 0, 0], [0, 0, 0, 1, 0, 0, 0, 0, 0, 0]⟩) (ψ2 := ⟨[0, 0, 0, 0, 0, 0, 0, 0, 0, 0], [0, 0, 0, 1, 0, 0, 0, 0, 0, 0], [0, 0, 0, 1, 0, 0, 0, 0, 0, 0]⟩) (jt_not (gTru (gCall G__law_is_connected hr hgd tk (gCons (ge 0) (gCons (ge 4) ja_nil)))))
    (gSeq ⟨[0, 0, 0, 0, 0, 0, 0, 0, 0, 0], [0, 0, 0, 1, 0, 0, 0, 0, 0, 0], [0, 0, 0, 1, 0, 0, 0, 0, 0, 0]⟩ (gRet gb)
    gNil)
    gNil)
    (gSeq ⟨[0, 0, 0, 1, 0, 0, 0, 0, 0, 0], [0, 0, 0, 1, 0, 0, 0, 0, 0, 0], [0, 0, 0, 1, 0, 0, 0, 0, 0, 0]⟩ (gSet 3 n_lawUisUmodel (je_bin op_addD (gv 3) (gCallT cd_list z_list (gCons (gv 4) ja_nil))))
    gNil)))))
    (gSeq ⟨[0, 0, 0, 1, 0, 0, 0, 0, 0, 0], [0, 0, 0, 0, 0, 0, 0, 0, 0, 0], [0, 0, 0, 0, 0, 0, 0, 0, 0, 0]⟩ (gFor [0, 0, 0, 1, 0, 0, 0, 0, 0, 0] ⟨[0, 0, 0, 1, 0, 0, 0, 0, 0, 0], [0, 0, 0, 1, 0, 0, 0, 0, 0, 0], [0, 0, 0, 1, 0, 0, 0, 0, 0, 0]⟩ po (ji_seq (gIx (op_ixD hu64) (gv 1) gi)) (gTgT (gN1 5 n_lawUisUmodel (gN1 6 n_lawUisUmodel pgs_n0)))
    (gSeq ⟨[0, 0, 0, 1, 0, 0, 0, 0, 0, 0], [0, 0, 0, 1, 0, 0, 0, 0, 0, 0], [0, 0, 0, 1, 0, 0, 0, 0, 0, 0]⟩ (gIfS (ψ1 := ⟨[0, 0, 0, 1, 0, 0, 0, 0, 0, 0], [0, 0, 0, 1, 0, 0, 0, 0, 0, 0], [0, 0, 0, 1, 0, 0, 0, 0, 0, 0]⟩) (ψ2 := ⟨[0, 0, 0, 1, 0, 0, 0, 0, 0, 0], [0, 0, 0, 1, 0, 0, 0, 0, 0, 0], [0, 0, 0, 1, 0, 0, 0, 0, 0, 0]⟩) (gCmpT (op_eqDD hu64) (gLc [("each", 7)] [0, 0, 0, 1, 0, 0, 0, 0, 0, 0] n_lawUisUmodel (blk_mk (by rfl)) (ji_seq (gIx (op_ixD hu64) (gv 0) gi)) (fun _ _ _ _ _ => (gTgN 7 n_lawUisUmodel)) (fun _ _ _ _ _ => (jts_one (gTru (gCall G__law_is_across hr hgd tk0 (gCons (ge 7) (gCons (gIx (op_ixD hu64) (gv 2) (gv 5)) (gCons (gIx (op_ixD hu64) (gv 2) (gv 6)) ja_nil))))))) (fun _ _ _ _ _ => (ge 7))) (gLst 8 ja_nil))
    (gSeq ⟨[0, 0, 0, 1, 0, 0, 0, 0, 0, 0], [0, 0, 0, 1, 0, 0, 0, 0, 0, 0], [0, 0, 0, 1, 0, 0, 0, 0, 0, 0]⟩ (gRet gb)
    gNil)
    gNil)
    gNil))
    (gSeq ⟨[0, 0, 0, 0, 0, 0, 0, 0, 0, 0], [0, 0, 0, 0, 0, 0, 0, 0, 0, 0], [0, 0, 0, 0, 0, 0, 0, 0, 0, 0]⟩ (gRet gb)
    gNil)))))
theorem h_lawUisUmodel (fn : Fun K "_law_is_model" "_law_is_model" s_lawUisUmodel f fd) (hm : mg "_law_is_model" = some (.ref f)) (z_isinstance : mg "isinstance" = none) (z_len : mg "len" = none) (z_list : mg "list" = none) (z_range : mg "range" = none) (z_tuple : mg "tuple" = none) (G__law_is_up_to : Has P w K mg base 2 "_law_is_up_to" ["thing", "low", "high"] Z [.fz, .fz, .fz] 9 F_lawUisUupUto) (G__law_are_apart : Has P w K mg base 1 "_law_are_apart" ["one", "two"] Z [.fz, .fz] 9 F_lawUareUapart) (G__law_is_connected : Has P w K mg base 3 "_law_is_connected" ["graph", "lot"] Z [.fz, .fz] 9 F_lawUisUconnected) (G__law_is_across : Has P w K mg base 1 "_law_is_across" ["edge", "one", "two"] Z [.fz, .fz, .fz] 9 F_lawUisUacross) : Has P w K mg base 4 "_law_is_model" ["graph", "other", "thing"] Z [.fz, .fz, .fz] 9 F_lawUisUmodel :=
  has_of fn hm S_lawUisUmodel (fun _ _ _ _ _ _ l hl => match l, hl with
    | [_, _, _], _ => (And.intro rfl (And.intro rfl (And.intro rfl (And.intro rfl (And.intro rfl (And.intro rfl (And.intro rfl (And.intro rfl (And.intro rfl (And.intro rfl trivial))))))))))) rfl (b_lawUisUmodel z_isinstance z_len z_list z_range z_tuple G__law_is_up_to G__law_are_apart G__law_is_connected G__law_is_across)
end
abbrev s_isUwhole : Stmt := top 6
abbrev N_isUwhole : List Str := ["value"]
theorem n_isUwhole : N_isUwhole.Nodup := by decide
theorem S_isUwhole : FnScope N_isUwhole ["value"] (defScope s_isUwhole) := ⟨rfl, rfl, rfl, by decide +kernel, rfl, by decide +kernel, by decide +kernel⟩
section
variable {P : Program} {w : World} {K : PySem.W.Frag} {mg : Str → Option Value} {base : Heap} {f : Addr} {fd : FuncData} {Z : ClT}
theorem b_isUwhole (z_bool : mg "bool" = none) (z_int : mg "int" = none) (z_isinstance : mg "isinstance" = none) : BodyD P w K mg base 0 N_isUwhole "is_whole" s_isUwhole f Z [.fz] 9 m_isUwhole := by
  intro cdv A outer s H E hr hgd tk po
  have hu80 := units80 hr
  have hu70 := units70 hr
  have hu65 := units65 hr
  have hu64 := units64 hr
  refine ⟨⟨[0], [0], [0]⟩, rfl, ?_⟩
  exact (gSeq ⟨[0], [0], [0]⟩ (gRet (gAndV (gIsi z_isinstance z_int (gv 0)) (je_one (je_not (gIsi z_isinstance z_bool (gv 0))))))
    gNil)
theorem h_isUwhole (fn : Fun K "is_whole" "is_whole" s_isUwhole f fd) (hm : mg "is_whole" = some (.ref f)) (z_bool : mg "bool" = none) (z_int : mg "int" = none) (z_isinstance : mg "isinstance" = none) : Has P w K mg base 1 "is_whole" ["value"] Z [.fz] 9 F_isUwhole :=
  has_of fn hm S_isUwhole (fun _ _ _ _ _ _ l hl => match l, hl with
    | [_], _ => (And.intro rfl (And.intro rfl trivial))) rfl (b_isUwhole z_bool z_int z_isinstance)
end
abbrev s_isUbetween : Stmt := top 7
abbrev N_isUbetween : List Str := ["value", "least", "most"]
theorem n_isUbetween : N_isUbetween.Nodup := by decide
theorem S_isUbetween : FnScope N_isUbetween ["value", "least", "most"] (defScope s_isUbetween) := ⟨rfl, rfl, rfl, by decide +kernel, rfl, by decide +kernel, by decide +kernel⟩
section
variable {P : Program} {w : World} {K : PySem.W.Frag} {mg : Str → Option Value} {base : Heap} {f : Addr} {fd : FuncData} {Z : ClT}
theorem b_isUbetween (G_is_whole : Has P w K mg base 1 "is_whole" ["value"] Z [.fz] 9 F_isUwhole) : BodyD P w K mg base 1 N_isUbetween "is_between" s_isUbetween f Z [.fz, .fz, .fz] 9 m_isUbetween := by
  intro cdv A outer s H E hr hgd tk po
  have hu80 := units80 hr
  have hu70 := units70 hr
  have hu65 := units65 hr
  have hu64 := units64 hr
  refine ⟨⟨[0, 0, 0], [0, 0, 0], [0, 0, 0]⟩, rfl, ?_⟩
  exact (gSeq ⟨[0, 0, 0], [0, 0, 0], [0, 0, 0]⟩ (gRet (gAndV (gCall G_is_whole hr hgd tk (gCons (ge 0) ja_nil)) (je_one (gChain (φ' := [0, 0, 0]) (op_ordD rfl hu80) (op_ordD rfl hu80) (gv 1) (gv 0) (gv 2)))))
    gNil)
theorem h_isUbetween (fn : Fun K "is_between" "is_between" s_isUbetween f fd) (hm : mg "is_between" = some (.ref f)) (G_is_whole : Has P w K mg base 1 "is_whole" ["value"] Z [.fz] 9 F_isUwhole) : Has P w K mg base 2 "is_between" ["value", "least", "most"] Z [.fz, .fz, .fz] 9 F_isUbetween :=
  has_of fn hm S_isUbetween (fun _ _ _ _ _ _ l hl => match l, hl with
    | [_, _, _], _ => (And.intro rfl (And.intro rfl (And.intro rfl (And.intro rfl (And.intro rfl (And.intro rfl (And.intro rfl (And.intro rfl (And.intro rfl (And.intro rfl trivial))))))))))) rfl (b_isUbetween G_is_whole)
end
abbrev s_isUedgeUof : Stmt := top 8
abbrev N_isUedgeUof : List Str := ["vertices", "value", "each"]
theorem n_isUedgeUof : N_isUedgeUof.Nodup := by decide
theorem S_isUedgeUof : FnScope N_isUedgeUof ["vertices", "value"] (defScope s_isUedgeUof) := ⟨rfl, rfl, rfl, by decide +kernel, rfl, by decide +kernel, by decide +kernel⟩
section
variable {P : Program} {w : World} {K : PySem.W.Frag} {mg : Str → Option Value} {base : Heap} {f : Addr} {fd : FuncData} {Z : ClT}
theorem b_isUedgeUof (z_all : mg "all" = none) (z_isinstance : mg "isinstance" = none) (z_len : mg "len" = none) (z_tuple : mg "tuple" = none) (G_is_between : Has P w K mg base 2 "is_between" ["value", "least", "most"] Z [.fz, .fz, .fz] 9 F_isUbetween) : BodyD P w K mg base 2 N_isUedgeUof "is_edge_of" s_isUedgeUof f Z [.fz, .fz] 9 m_isUedgeUof := by
  intro cdv A outer s H E hr hgd tk po
  have hu80 := units80 hr
  have hu70 := units70 hr
  have hu65 := units65 hr
  have hu64 := units64 hr
  refine ⟨⟨[0, 0, 0], [0, 0, 0], [0, 0, 0]⟩, rfl, ?_⟩
  exact (gSeq ⟨[0, 0, 0], [0, 0, 0], [0, 0, 0]⟩ (gIfS (ψ1 := ⟨[0, 0, 0], [0, 0, 0], [0, 0, 0]⟩) (ψ2 := ⟨[0, 0, 0], [0, 0, 0], [0, 0, 0]⟩) (jt_w (gOr (jt_not (gTru (gIsi z_isinstance z_tuple (gv 1)))) (jw_or1 (gCmpT (op_neDD hu64) (gCallB cd_len z_len (gCons (gv 1) ja_nil)) gi))))
    (gSeq ⟨[0, 0, 0], [0, 0, 0], [0, 0, 0]⟩ (gRet gb)
    gNil)
    gNil)
    (gSeq ⟨[0, 0, 0], [0, 0, 0], [0, 0, 0]⟩ (gIfS (ψ1 := ⟨[0, 0, 0], [0, 0, 0], [0, 0, 0]⟩) (ψ2 := ⟨[0, 0, 0], [0, 0, 0], [0, 0, 0]⟩) (jt_not (gTru (gCallB (cd_all rfl) z_all (gCons (gLc [("each", 2)] [0, 0, 0] n_isUedgeUof (blk_mk (by rfl)) (ji_seq (ge 1)) (fun _ _ _ _ _ => (gTgN 2 n_isUedgeUof)) (fun _ _ _ _ _ => jts_nil) (fun _ _ _ _ _ => (gCall G_is_between hr hgd tk0 (gCons (ge 2) (gCons gi (gCons (je_bin op_subD (gv 0) gi) ja_nil)))))) ja_nil))))
    (gSeq ⟨[0, 0, 0], [0, 0, 0], [0, 0, 0]⟩ (gRet gb)
    gNil)
    gNil)
    (gSeq ⟨[0, 0, 0], [0, 0, 0], [0, 0, 0]⟩ (gRet (gCmp (op_ordD rfl hu80) (gIx (op_ixD hu64) (gv 1) gi) (gIx (op_ixD hu64) (gv 1) gi)))
    gNil)))
theorem h_isUedgeUof (fn : Fun K "is_edge_of" "is_edge_of" s_isUedgeUof f fd) (hm : mg "is_edge_of" = some (.ref f)) (z_all : mg "all" = none) (z_isinstance : mg "isinstance" = none) (z_len : mg "len" = none) (z_tuple : mg "tuple" = none) (G_is_between : Has P w K mg base 2 "is_between" ["value", "least", "most"] Z [.fz, .fz, .fz] 9 F_isUbetween) : Has P w K mg base 3 "is_edge_of" ["vertices", "value"] Z [.fz, .fz] 9 F_isUedgeUof :=
  has_of fn hm S_isUedgeUof (fun _ _ _ _ _ _ l hl => match l, hl with
    | [_, _], _ => (And.intro rfl (And.intro rfl (And.intro rfl (And.intro rfl trivial))))) rfl (b_isUedgeUof z_all z_isinstance z_len z_tuple G_is_between)
end
abbrev s_isUgraphUby : Stmt := top 9
abbrev N_isUgraphUby : List Str := ["value", "vertices", "edges", "one", "two", "each"]
theorem n_isUgraphUby : N_isUgraphUby.Nodup := by decide
theorem S_isUgraphUby : FnScope N_isUgraphUby ["value"] (defScope s_isUgraphUby) := ⟨rfl, rfl, rfl, by decide +kernel, rfl, by decide +kernel, by decide +kernel⟩
section
variable {P : Program} {w : World} {K : PySem.W.Frag} {mg : Str → Option Value} {base : Heap} {f : Addr} {fd : FuncData} {Z : ClT}
theorem b_isUgraphUby (z_all : mg "all" = none) (z_isinstance : mg "isinstance" = none) (z_len : mg "len" = none) (z_tuple : mg "tuple" = none) (z_zip : mg "zip" = none) {t_MOST_EDGES : Tok} (c_MOST_EDGES : mg "MOST_EDGES" = some (.int 24 t_MOST_EDGES)) {t_MOST_VERTICES : Tok} (c_MOST_VERTICES : mg "MOST_VERTICES" = some (.int 10 t_MOST_VERTICES)) (G_is_between : Has P w K mg base 2 "is_between" ["value", "least", "most"] Z [.fz, .fz, .fz] 9 F_isUbetween) (G_is_edge_of : Has P w K mg base 3 "is_edge_of" ["vertices", "value"] Z [.fz, .fz] 9 F_isUedgeUof) : BodyD P w K mg base 3 N_isUgraphUby "is_graph_by" s_isUgraphUby f Z [.fz] 9 m_isUgraphUby := by
  intro cdv A outer s H E hr hgd tk po
  have hu80 := units80 hr
  have hu70 := units70 hr
  have hu65 := units65 hr
  have hu64 := units64 hr
  refine ⟨⟨[0, 0, 0, 0, 0, 0], [0, 0, 0, 0, 0, 0], [0, 0, 0, 0, 0, 0]⟩, rfl, ?_⟩
  exact (gSeq ⟨[0, 0, 0, 0, 0, 0], [0, 0, 0, 0, 0, 0], [0, 0, 0, 0, 0, 0]⟩ (gIfS (ψ1 := ⟨[0, 0, 0, 0, 0, 0], [0, 0, 0, 0, 0, 0], [0, 0, 0, 0, 0, 0]⟩) (ψ2 := ⟨[0, 0, 0, 0, 0, 0], [0, 0, 0, 0, 0, 0], [0, 0, 0, 0, 0, 0]⟩) (jt_w (gOr (jt_not (gTru (gIsi z_isinstance z_tuple (gv 0)))) (gOr (gCmpT (op_neDD hu64) (gCallB cd_len z_len (gCons (gv 0) ja_nil)) gi) (jw_or1 (jt_not (gTru (gCall G_is_between hr hgd tk (gCons (gIx (op_ixD hu64) (gv 0) gi) (gCons gi (gCons (gGi c_MOST_VERTICES) ja_nil))))))))))
    (gSeq ⟨[0, 0, 0, 0, 0, 0], [0, 0, 0, 0, 0, 0], [0, 0, 0, 0, 0, 0]⟩ (gRet gb)
    gNil)
    gNil)
    (gSeq ⟨[0, 0, 0, 0, 0, 0], [0, 0, 0, 0, 0, 0], [0, 0, 0, 0, 0, 0]⟩ (gAsg (ge 0) (gTgT (gN1 1 n_isUgraphUby (gN1 2 n_isUgraphUby pgs_n0))))
    (gSeq ⟨[0, 0, 0, 0, 0, 0], [0, 0, 0, 0, 0, 0], [0, 0, 0, 0, 0, 0]⟩ (gIfS (ψ1 := ⟨[0, 0, 0, 0, 0, 0], [0, 0, 0, 0, 0, 0], [0, 0, 0, 0, 0, 0]⟩) (ψ2 := ⟨[0, 0, 0, 0, 0, 0], [0, 0, 0, 0, 0, 0], [0, 0, 0, 0, 0, 0]⟩) (jt_w (gOr (jt_not (gTru (gIsi z_isinstance z_tuple (gv 2)))) (jw_or1 (gCmpT (op_ordD rfl hu80) (gCallB cd_len z_len (gCons (gv 2) ja_nil)) (gGi c_MOST_EDGES)))))
    (gSeq ⟨[0, 0, 0, 0, 0, 0], [0, 0, 0, 0, 0, 0], [0, 0, 0, 0, 0, 0]⟩ (gRet gb)
    gNil)
    gNil)
    (gSeq ⟨[0, 0, 0, 0, 0, 0], [0, 0, 0, 0, 0, 0], [0, 0, 0, 0, 0, 0]⟩ (gIfS (ψ1 := ⟨[0, 0, 0, 0, 0, 0], [0, 0, 0, 0, 0, 0], [0, 0, 0, 0, 0, 0]⟩) (ψ2 := ⟨[0, 0, 0, 0, 0, 0], [0, 0, 0, 0, 0, 0], [0, 0, 0, 0, 0, 0]⟩) (jt_not (gTru (gCallB (cd_all rfl) z_all (gCons (gLc [("each", 5)] [0, 0, 0, 0, 0, 0] n_isUgraphUby (blk_mk (by rfl)) (ji_seq (ge 2)) (fun _ _ _ _ _ => (gTgN 5 n_isUgraphUby)) (fun _ _ _ _ _ => jts_nil) (fun _ _ _ _ _ => (gCall G_is_edge_of hr hgd tk0 (gCons (ge 1) (gCons (ge 5) ja_nil))))) ja_nil))))
    (gSeq ⟨[0, 0, 0, 0, 0, 0], [0, 0, 0, 0, 0, 0], [0, 0, 0, 0, 0, 0]⟩ (gRet gb)
    gNil)
    gNil)
    (gSeq ⟨[0, 0, 0, 0, 0, 0], [0, 0, 0, 0, 0, 0], [0, 0, 0, 0, 0, 0]⟩ (gRet (gCallB (cd_all rfl) z_all (gCons (gLc [("one", 3), ("two", 4)] [0, 0, 0, 0, 0, 0] n_isUgraphUby (blk_mk (by rfl)) (gZip z_zip (ge 2) (gSlice (gv 2) (jo_some gi) jo_none)) (fun _ _ _ _ _ => (gTgT (gN1 3 n_isUgraphUby (gN1 4 n_isUgraphUby pgs_n0)))) (fun _ _ _ _ _ => jts_nil) (fun _ _ _ _ _ => (gCmp (op_ordD rfl hu80) (gv 3) (gv 4)))) ja_nil)))
    gNil)))))
theorem h_isUgraphUby (fn : Fun K "is_graph_by" "is_graph_by" s_isUgraphUby f fd) (hm : mg "is_graph_by" = some (.ref f)) (z_all : mg "all" = none) (z_isinstance : mg "isinstance" = none) (z_len : mg "len" = none) (z_tuple : mg "tuple" = none) (z_zip : mg "zip" = none) {t_MOST_EDGES : Tok} (c_MOST_EDGES : mg "MOST_EDGES" = some (.int 24 t_MOST_EDGES)) {t_MOST_VERTICES : Tok} (c_MOST_VERTICES : mg "MOST_VERTICES" = some (.int 10 t_MOST_VERTICES)) (G_is_between : Has P w K mg base 2 "is_between" ["value", "least", "most"] Z [.fz, .fz, .fz] 9 F_isUbetween) (G_is_edge_of : Has P w K mg base 3 "is_edge_of" ["vertices", "value"] Z [.fz, .fz] 9 F_isUedgeUof) : Has P w K mg base 4 "is_graph_by" ["value"] Z [.fz] 9 F_isUgraphUby :=
  has_of fn hm S_isUgraphUby (fun _ _ _ _ _ _ l hl => match l, hl with
    | [_], _ => (And.intro rfl (And.intro rfl trivial))) rfl (b_isUgraphUby z_all z_isinstance z_len z_tuple z_zip c_MOST_EDGES c_MOST_VERTICES G_is_between G_is_edge_of)
end
abbrev s_checkUgraph : Stmt := top 13
abbrev N_checkUgraph : List Str := ["value"]
theorem n_checkUgraph : N_checkUgraph.Nodup := by decide
theorem S_checkUgraph : FnScope N_checkUgraph ["value"] (defScope s_checkUgraph) := ⟨rfl, rfl, rfl, by decide +kernel, rfl, by decide +kernel, by decide +kernel⟩
section
variable {P : Program} {w : World} {K : PySem.W.Frag} {mg : Str → Option Value} {base : Heap} {f : Addr} {fd : FuncData} {Z : ClT}
theorem b_checkUgraph (G_is_graph_by : Has P w K mg base 4 "is_graph_by" ["value"] Z [.fz] 9 F_isUgraphUby) : BodyD P w K mg base 4 N_checkUgraph "check_graph" s_checkUgraph f Z [.fz] 9 m_checkUgraph := by
  intro cdv A outer s H E hr hgd tk po
  have hu80 := units80 hr
  have hu70 := units70 hr
  have hu65 := units65 hr
  have hu64 := units64 hr
  refine ⟨⟨[0], [0], [0]⟩, rfl, ?_⟩
  exact (gSeq ⟨[0], [0], [0]⟩ (gIfS (ψ1 := ⟨[0], [0], [0]⟩) (ψ2 := ⟨[0], [0], [0]⟩) (jt_not (gTru (gCall G_is_graph_by hr hgd tk (gCons (ge 0) ja_nil))))
    (gSeq ⟨[0], [0], [0]⟩ js_bad
    gNil)
    gNil)
    gNil)
theorem h_checkUgraph (fn : Fun K "check_graph" "check_graph" s_checkUgraph f fd) (hm : mg "check_graph" = some (.ref f)) (G_is_graph_by : Has P w K mg base 4 "is_graph_by" ["value"] Z [.fz] 9 F_isUgraphUby) : Has P w K mg base 5 "check_graph" ["value"] Z [.fz] 9 F_checkUgraph :=
  has_of fn hm S_checkUgraph (fun _ _ _ _ _ _ l hl => match l, hl with
    | [_], _ => (And.intro rfl (And.intro rfl trivial))) rfl (b_checkUgraph G_is_graph_by)
end
abbrev s_edgeUbetween : Stmt := top 15
abbrev N_edgeUbetween : List Str := ["one", "two"]
theorem n_edgeUbetween : N_edgeUbetween.Nodup := by decide
theorem S_edgeUbetween : FnScope N_edgeUbetween ["one", "two"] (defScope s_edgeUbetween) := ⟨rfl, rfl, rfl, by decide +kernel, rfl, by decide +kernel, by decide +kernel⟩
section
variable {P : Program} {w : World} {K : PySem.W.Frag} {mg : Str → Option Value} {base : Heap} {f : Addr} {fd : FuncData} {Z : ClT}
theorem b_edgeUbetween  : BodyD P w K mg base 0 N_edgeUbetween "edge_between" s_edgeUbetween f Z [.fz, .fz] 1 m_edgeUbetween := by
  intro cdv A outer s H E hr hgd tk po
  have hu80 := units80 hr
  have hu70 := units70 hr
  have hu65 := units65 hr
  have hu64 := units64 hr
  refine ⟨⟨[0, 0], [0, 0], [0, 0]⟩, rfl, ?_⟩
  exact (gSeq ⟨[0, 0], [0, 0], [0, 0]⟩ (gRet (gIf [0, 0] 1 (gCmpT (op_ordD rfl hu80) (gv 0) (gv 1)) (gTup 0 (gCons (ge 0) (gCons (ge 1) ja_nil))) (gTup 0 (gCons (ge 1) (gCons (ge 0) ja_nil)))))
    gNil)
theorem h_edgeUbetween (fn : Fun K "edge_between" "edge_between" s_edgeUbetween f fd) (hm : mg "edge_between" = some (.ref f))  : Has P w K mg base 1 "edge_between" ["one", "two"] Z [.fz, .fz] 1 F_edgeUbetween :=
  has_of fn hm S_edgeUbetween (fun _ _ _ _ _ _ l hl => match l, hl with
    | [_, _], _ => (And.intro rfl (And.intro rfl (And.intro rfl (And.intro rfl trivial))))) rfl (b_edgeUbetween )
end
abbrev s_areUjoined : Stmt := top 18
abbrev N_areUjoined : List Str := ["graph", "one", "two", "first", "second"]
theorem n_areUjoined : N_areUjoined.Nodup := by decide
theorem S_areUjoined : FnScope N_areUjoined ["graph", "one", "two"] (defScope s_areUjoined) := ⟨rfl, rfl, rfl, by decide +kernel, rfl, by decide +kernel, by decide +kernel⟩
section
variable {P : Program} {w : World} {K : PySem.W.Frag} {mg : Str → Option Value} {base : Heap} {f : Addr} {fd : FuncData} {Z : ClT}
theorem b_areUjoined (z_any : mg "any" = none) (G_edge_between : Has P w K mg base 1 "edge_between" ["one", "two"] Z [.fz, .fz] 1 F_edgeUbetween) : BodyD P w K mg base 1 N_areUjoined "are_joined" s_areUjoined f Z [.fz, .fz, .fz] 9 m_areUjoined := by
  intro cdv A outer s H E hr hgd tk po
  have hu80 := units80 hr
  have hu70 := units70 hr
  have hu65 := units65 hr
  have hu64 := units64 hr
  refine ⟨⟨[0, 0, 0, 0, 0], [0, 0, 0, 0, 0], [0, 0, 0, 0, 0]⟩, rfl, ?_⟩
  exact (gSeq ⟨[0, 0, 0, 0, 0], [0, 0, 0, 0, 0], [0, 0, 0, 0, 0]⟩ (gRet (gCallB (cd_any rfl) z_any (gCons (gLc2 [("first", 3), ("second", 4)] [4] [0, 0, 0, 0, 0] [0, 0, 0, 0, 0] n_areUjoined (blk_mk (by rfl)) (ji_seq (ge 1)) (fun _ _ _ _ _ => (gTgN 3 n_areUjoined)) (fun _ _ _ _ _ => jts_nil) (fun _ _ _ _ _ => (ji_seq (ge 2))) (fun _ _ _ _ _ => (gTgN 4 n_areUjoined)) (fun _ _ _ _ _ => jts_nil) (fun _ _ _ _ _ => (gCmp (op_inDD hu65) (gCall G_edge_between hr hgd tk0 (gCons (ge 3) (gCons (ge 4) ja_nil))) (gIx (op_ixD hu64) (gv 0) gi)))) ja_nil)))
    gNil)
theorem h_areUjoined (fn : Fun K "are_joined" "are_joined" s_areUjoined f fd) (hm : mg "are_joined" = some (.ref f)) (z_any : mg "any" = none) (G_edge_between : Has P w K mg base 1 "edge_between" ["one", "two"] Z [.fz, .fz] 1 F_edgeUbetween) : Has P w K mg base 2 "are_joined" ["graph", "one", "two"] Z [.fz, .fz, .fz] 9 F_areUjoined :=
  has_of fn hm S_areUjoined (fun _ _ _ _ _ _ l hl => match l, hl with
    | [_, _, _], _ => (And.intro rfl (And.intro rfl (And.intro rfl (And.intro rfl (And.intro rfl (And.intro rfl (And.intro rfl (And.intro rfl (And.intro rfl (And.intro rfl trivial))))))))))) rfl (b_areUjoined z_any G_edge_between)
end
abbrev s_reachedUby : Stmt := top 11
abbrev N_reachedUby : List Str := ["near", "start", "lot", "found", "at", "each"]
theorem n_reachedUby : N_reachedUby.Nodup := by decide
theorem S_reachedUby : FnScope N_reachedUby ["near", "start", "lot"] (defScope s_reachedUby) := ⟨rfl, rfl, rfl, by decide +kernel, rfl, by decide +kernel, by decide +kernel⟩
section
variable {P : Program} {w : World} {K : PySem.W.Frag} {mg : Str → Option Value} {base : Heap} {f : Addr} {fd : FuncData} {Z : ClT}
theorem b_reachedUby (z_len : mg "len" = none) (z_sorted : mg "sorted" = none) (z_tuple : mg "tuple" = none) : BodyD P w K mg base 0 N_reachedUby "reached_by" s_reachedUby f Z [.fz, .fz, .fz] 1 m_reachedUby := by
  intro cdv A outer s H E hr hgd tk po
  have hu80 := units80 hr
  have hu70 := units70 hr
  have hu65 := units65 hr
  have hu64 := units64 hr
  refine ⟨⟨[0, 0, 0, 0, 0, 0], [0, 0, 0, 0, 0, 0], [0, 0, 0, 0, 0, 0]⟩, rfl, ?_⟩
  exact (gSeq ⟨[0, 0, 0, 1, 9, 0], [0, 0, 0, 0, 0, 0], [0, 0, 0, 0, 0, 0]⟩ (gParC 3 4 (gN1 3 n_reachedUby (gN1 4 n_reachedUby pgs_n0)) (gCons (gLst 0 (gCons (ge 1) ja_nil)) (gCons gi ja_nil)))
    (gSeq ⟨[0, 0, 0, 1, 1, 0], [0, 0, 0, 0, 0, 0], [0, 0, 0, 0, 0, 0]⟩ (gWhile [0, 0, 0, 1, 1, 0] ⟨[0, 0, 0, 1, 1, 0], [0, 0, 0, 1, 1, 0], [0, 0, 0, 1, 1, 0]⟩ po (gCmpT (op_ordD rfl hu80) (gv 4) (gCallB cd_len z_len (gCons (gv 3) ja_nil)))
    (gSeq ⟨[0, 0, 0, 1, 1, 0], [0, 0, 0, 1, 1, 0], [0, 0, 0, 1, 1, 0]⟩ (gSet 3 n_reachedUby (je_bin op_addD (gv 3) (gLc [("each", 5)] [0, 0, 0, 1, 1, 0] n_reachedUby (blk_mk (by rfl)) (ji_seq (gIx (op_ixD hu64) (gv 0) (gIx (op_ixD hu64) (gv 3) (gv 4)))) (fun _ _ _ _ _ => (gTgN 5 n_reachedUby)) (fun _ _ _ _ _ => (jts_one (jt_w (gAnd (gCmpT (op_inDD hu65) (gv 5) (gv 2)) (jw_and1 (gCmpT (op_notInDD hu65) (gv 5) (gv 3))))))) (fun _ _ _ _ _ => (ge 5)))))
    (gSeq ⟨[0, 0, 0, 1, 1, 0], [0, 0, 0, 1, 1, 0], [0, 0, 0, 1, 1, 0]⟩ (gSet 4 n_reachedUby (je_bin op_addD (gv 4) gi))
    gNil)))
    (gSeq ⟨[0, 0, 0, 0, 0, 0], [0, 0, 0, 0, 0, 0], [0, 0, 0, 0, 0, 0]⟩ (gRet (gCallT cd_tuple z_tuple (gCons (gCallB (cd_sorted rfl hu70) z_sorted (gCons (gv 3) ja_nil)) ja_nil)))
    gNil)))
theorem h_reachedUby (fn : Fun K "reached_by" "reached_by" s_reachedUby f fd) (hm : mg "reached_by" = some (.ref f)) (z_len : mg "len" = none) (z_sorted : mg "sorted" = none) (z_tuple : mg "tuple" = none) : Has P w K mg base 1 "reached_by" ["near", "start", "lot"] Z [.fz, .fz, .fz] 1 F_reachedUby :=
  has_of fn hm S_reachedUby (fun _ _ _ _ _ _ l hl => match l, hl with
    | [_, _, _], _ => (And.intro rfl (And.intro rfl (And.intro rfl (And.intro rfl (And.intro rfl (And.intro rfl (And.intro rfl (And.intro rfl (And.intro rfl (And.intro rfl trivial))))))))))) rfl (b_reachedUby z_len z_sorted z_tuple)
end
abbrev s_neighboursUby : Stmt := top 10
abbrev N_neighboursUby : List Str := ["graph", "found", "one", "two", "_", "each"]
theorem n_neighboursUby : N_neighboursUby.Nodup := by decide
theorem S_neighboursUby : FnScope N_neighboursUby ["graph"] (defScope s_neighboursUby) := ⟨rfl, rfl, rfl, by decide +kernel, rfl, by decide +kernel, by decide +kernel⟩
section
variable {P : Program} {w : World} {K : PySem.W.Frag} {mg : Str → Option Value} {base : Heap} {f : Addr} {fd : FuncData} {Z : ClT}
theorem b_neighboursUby (z_range : mg "range" = none) (z_sorted : mg "sorted" = none) : BodyD P w K mg base 0 N_neighboursUby "neighbours_by" s_neighboursUby f Z [.fz] 2 m_neighboursUby := by
  intro cdv A outer s H E hr hgd tk po
  have hu80 := units80 hr
  have hu70 := units70 hr
  have hu65 := units65 hr
  have hu64 := units64 hr
  refine ⟨⟨[0, 0, 0, 0, 0, 0], [0, 0, 0, 0, 0, 0], [0, 0, 0, 0, 0, 0]⟩, rfl, ?_⟩
  exact (gSeq ⟨[0, 10, 0, 0, 0, 0], [0, 0, 0, 0, 0, 0], [0, 0, 0, 0, 0, 0]⟩ (gSetLc 1 [("_", 4)] [0, 0, 0, 0, 0, 0] n_neighboursUby (blk_mk (by rfl)) (gRange1 z_range (gIx (op_ixD hu64) (gv 0) gi)) (fun _ _ _ _ _ => (gTgN 4 n_neighboursUby)) (fun _ _ _ _ _ => jts_nil) (fun _ _ _ _ _ => (gLst 8 ja_nil)))
    (gSeq ⟨[0, 2, 0, 0, 0, 0], [0, 0, 0, 0, 0, 0], [0, 0, 0, 0, 0, 0]⟩ (gFor [0, 2, 0, 0, 0, 0] ⟨[0, 2, 0, 0, 0, 0], [0, 2, 0, 0, 0, 0], [0, 2, 0, 0, 0, 0]⟩ po (ji_seq (gIx (op_ixD hu64) (gv 0) gi)) (gTgT (gN1 2 n_neighboursUby (gN1 3 n_neighboursUby pgs_n0)))
    (gSeq ⟨[0, 2, 0, 0, 0, 0], [0, 2, 0, 0, 0, 0], [0, 2, 0, 0, 0, 0]⟩ (gExpr (gAppendIx 1 2 3 0))
    (gSeq ⟨[0, 2, 0, 0, 0, 0], [0, 2, 0, 0, 0, 0], [0, 2, 0, 0, 0, 0]⟩ (gExpr (gAppendIx 1 3 2 0))
    gNil)))
    (gSeq ⟨[0, 0, 0, 0, 0, 0], [0, 0, 0, 0, 0, 0], [0, 0, 0, 0, 0, 0]⟩ (gRet (gLc [("each", 5)] [0, 0, 0, 0, 0, 0] n_neighboursUby (blk_mk (by rfl)) (ji_seq (ge 1)) (fun _ _ _ _ _ => (gTgN 5 n_neighboursUby)) (fun _ _ _ _ _ => jts_nil) (fun _ _ _ _ _ => (gCallB (cd_sorted rfl hu70) z_sorted (gCons (gv 5) ja_nil)))))
    gNil)))
theorem h_neighboursUby (fn : Fun K "neighbours_by" "neighbours_by" s_neighboursUby f fd) (hm : mg "neighbours_by" = some (.ref f)) (z_range : mg "range" = none) (z_sorted : mg "sorted" = none) : Has P w K mg base 1 "neighbours_by" ["graph"] Z [.fz] 2 F_neighboursUby :=
  has_of fn hm S_neighboursUby (fun _ _ _ _ _ _ l hl => match l, hl with
    | [_], _ => (And.intro rfl (And.intro rfl trivial))) rfl (b_neighboursUby z_range z_sorted)
end
abbrev s_isUlot : Stmt := top 17
abbrev N_isUlot : List Str := ["graph", "value", "one", "two", "each"]
theorem n_isUlot : N_isUlot.Nodup := by decide
theorem S_isUlot : FnScope N_isUlot ["graph", "value"] (defScope s_isUlot) := ⟨rfl, rfl, rfl, by decide +kernel, rfl, by decide +kernel, by decide +kernel⟩
section
variable {P : Program} {w : World} {K : PySem.W.Frag} {mg : Str → Option Value} {base : Heap} {f : Addr} {fd : FuncData} {Z : ClT}
theorem b_isUlot (z_all : mg "all" = none) (z_isinstance : mg "isinstance" = none) (z_tuple : mg "tuple" = none) (z_zip : mg "zip" = none) (G_is_between : Has P w K mg base 2 "is_between" ["value", "least", "most"] Z [.fz, .fz, .fz] 9 F_isUbetween) (G_reached_by : Has P w K mg base 1 "reached_by" ["near", "start", "lot"] Z [.fz, .fz, .fz] 1 F_reachedUby) (G_neighbours_by : Has P w K mg base 1 "neighbours_by" ["graph"] Z [.fz] 2 F_neighboursUby) : BodyD P w K mg base 2 N_isUlot "is_lot" s_isUlot f Z [.fz, .fz] 9 m_isUlot := by
  intro cdv A outer s H E hr hgd tk po
  have hu80 := units80 hr
  have hu70 := units70 hr
  have hu65 := units65 hr
  have hu64 := units64 hr
  refine ⟨⟨[0, 0, 0, 0, 0], [0, 0, 0, 0, 0], [0, 0, 0, 0, 0]⟩, rfl, ?_⟩
  exact (gSeq ⟨[0, 0, 0, 0, 0], [0, 0, 0, 0, 0], [0, 0, 0, 0, 0]⟩ (gIfS (ψ1 := ⟨[0, 0, 0, 0, 0], [0, 0, 0, 0, 0], [0, 0, 0, 0, 0]⟩) (ψ2 := ⟨[0, 0, 0, 0, 0], [0, 0, 0, 0, 0], [0, 0, 0, 0, 0]⟩) (jt_w (gOr (jt_not (gTru (gIsi z_isinstance z_tuple (gv 1)))) (gOr (gCmpT (op_eqDD hu64) (gv 1) (gTup 8 ja_nil)) (jw_or1 (jt_not (gTru (gCallB (cd_all rfl) z_all (gCons (gLc [("each", 4)] [0, 0, 0, 0, 0] n_isUlot (blk_mk (by rfl)) (ji_seq (ge 1)) (fun _ _ _ _ _ => (gTgN 4 n_isUlot)) (fun _ _ _ _ _ => jts_nil) (fun _ _ _ _ _ => (gCall G_is_between hr hgd tk0 (gCons (ge 4) (gCons gi (gCons (je_bin op_subD (gIx (op_ixD hu64) (gv 0) gi) gi) ja_nil)))))) ja_nil))))))))
    (gSeq ⟨[0, 0, 0, 0, 0], [0, 0, 0, 0, 0], [0, 0, 0, 0, 0]⟩ (gRet gb)
    gNil)
    gNil)
    (gSeq ⟨[0, 0, 0, 0, 0], [0, 0, 0, 0, 0], [0, 0, 0, 0, 0]⟩ (gIfS (ψ1 := ⟨[0, 0, 0, 0, 0], [0, 0, 0, 0, 0], [0, 0, 0, 0, 0]⟩) (ψ2 := ⟨[0, 0, 0, 0, 0], [0, 0, 0, 0, 0], [0, 0, 0, 0, 0]⟩) (jt_not (gTru (gCallB (cd_all rfl) z_all (gCons (gLc [("one", 2), ("two", 3)] [0, 0, 0, 0, 0] n_isUlot (blk_mk (by rfl)) (gZip z_zip (ge 1) (gSlice (gv 1) (jo_some gi) jo_none)) (fun _ _ _ _ _ => (gTgT (gN1 2 n_isUlot (gN1 3 n_isUlot pgs_n0)))) (fun _ _ _ _ _ => jts_nil) (fun _ _ _ _ _ => (gCmp (op_ordD rfl hu80) (gv 2) (gv 3)))) ja_nil))))
    (gSeq ⟨[0, 0, 0, 0, 0], [0, 0, 0, 0, 0], [0, 0, 0, 0, 0]⟩ (gRet gb)
    gNil)
    gNil)
    (gSeq ⟨[0, 0, 0, 0, 0], [0, 0, 0, 0, 0], [0, 0, 0, 0, 0]⟩ (gRet (gCmp (op_eqDD hu64) (gCall G_reached_by hr hgd tk (gCons (gCall G_neighbours_by hr hgd tk (gCons (ge 0) ja_nil)) (gCons (gIx (op_ixD hu64) (gv 1) gi) (gCons (ge 1) ja_nil)))) (gv 1)))
    gNil)))
theorem h_isUlot (fn : Fun K "is_lot" "is_lot" s_isUlot f fd) (hm : mg "is_lot" = some (.ref f)) (z_all : mg "all" = none) (z_isinstance : mg "isinstance" = none) (z_tuple : mg "tuple" = none) (z_zip : mg "zip" = none) (G_is_between : Has P w K mg base 2 "is_between" ["value", "least", "most"] Z [.fz, .fz, .fz] 9 F_isUbetween) (G_reached_by : Has P w K mg base 1 "reached_by" ["near", "start", "lot"] Z [.fz, .fz, .fz] 1 F_reachedUby) (G_neighbours_by : Has P w K mg base 1 "neighbours_by" ["graph"] Z [.fz] 2 F_neighboursUby) : Has P w K mg base 3 "is_lot" ["graph", "value"] Z [.fz, .fz] 9 F_isUlot :=
  has_of fn hm S_isUlot (fun _ _ _ _ _ _ l hl => match l, hl with
    | [_, _], _ => (And.intro rfl (And.intro rfl (And.intro rfl (And.intro rfl trivial))))) rfl (b_isUlot z_all z_isinstance z_tuple z_zip G_is_between G_reached_by G_neighbours_by)
end
abbrev s_isUmodelUby : Stmt := top 19
abbrev N_isUmodelUby : List Str := ["graph", "other", "value", "met", "lot", "vertex", "one", "two"]
theorem n_isUmodelUby : N_isUmodelUby.Nodup := by decide
theorem S_isUmodelUby : FnScope N_isUmodelUby ["graph", "other", "value"] (defScope s_isUmodelUby) := ⟨rfl, rfl, rfl, by decide +kernel, rfl, by decide +kernel, by decide +kernel⟩
section
variable {P : Program} {w : World} {K : PySem.W.Frag} {mg : Str → Option Value} {base : Heap} {f : Addr} {fd : FuncData} {Z : ClT}
theorem b_isUmodelUby (z_all : mg "all" = none) (z_isinstance : mg "isinstance" = none) (z_len : mg "len" = none) (z_set : mg "set" = none) (z_tuple : mg "tuple" = none) (G_is_lot : Has P w K mg base 3 "is_lot" ["graph", "value"] Z [.fz, .fz] 9 F_isUlot) (G_are_joined : Has P w K mg base 2 "are_joined" ["graph", "one", "two"] Z [.fz, .fz, .fz] 9 F_areUjoined) : BodyD P w K mg base 3 N_isUmodelUby "is_model_by" s_isUmodelUby f Z [.fz, .fz, .fz] 9 m_isUmodelUby := by
  intro cdv A outer s H E hr hgd tk po
  have hu80 := units80 hr
  have hu70 := units70 hr
  have hu65 := units65 hr
  have hu64 := units64 hr
  refine ⟨⟨[0, 0, 0, 0, 0, 0, 0, 0], [0, 0, 0, 0, 0, 0, 0, 0], [0, 0, 0, 0, 0, 0, 0, 0]⟩, rfl, ?_⟩
  exact (gSeq ⟨[0, 0, 0, 0, 0, 0, 0, 0], [0, 0, 0, 0, 0, 0, 0, 0], [0, 0, 0, 0, 0, 0, 0, 0]⟩ (gIfS (ψ1 := ⟨[0, 0, 0, 0, 0, 0, 0, 0], [0, 0, 0, 0, 0, 0, 0, 0], [0, 0, 0, 0, 0, 0, 0, 0]⟩) (ψ2 := ⟨[0, 0, 0, 0, 0, 0, 0, 0], [0, 0, 0, 0, 0, 0, 0, 0], [0, 0, 0, 0, 0, 0, 0, 0]⟩) (jt_w (gOr (jt_not (gTru (gIsi z_isinstance z_tuple (gv 2)))) (gOr (gCmpT (op_neDD hu64) (gCallB cd_len z_len (gCons (gv 2) ja_nil)) (gIx (op_ixD hu64) (gv 1) gi)) (jw_or1 (jt_not (gTru (gCallB (cd_all rfl) z_all (gCons (gLc [("lot", 4)] [0, 0, 0, 0, 0, 0, 0, 0] n_isUmodelUby (blk_mk (by rfl)) (ji_seq (ge 2)) (fun _ _ _ _ _ => (gTgN 4 n_isUmodelUby)) (fun _ _ _ _ _ => jts_nil) (fun _ _ _ _ _ => (gCall G_is_lot hr hgd tk0 (gCons (ge 0) (gCons (ge 4) ja_nil))))) ja_nil))))))))
    (gSeq ⟨[0, 0, 0, 0, 0, 0, 0, 0], [0, 0, 0, 0, 0, 0, 0, 0], [0, 0, 0, 0, 0, 0, 0, 0]⟩ (gRet gb)
    gNil)
    gNil)
    (gSeq ⟨[0, 0, 0, 1, 0, 0, 0, 0], [0, 0, 0, 0, 0, 0, 0, 0], [0, 0, 0, 0, 0, 0, 0, 0]⟩ (gSetLc2 3 [("lot", 4), ("vertex", 5)] [5] [0, 0, 0, 0, 0, 0, 0, 0] [0, 0, 0, 0, 0, 0, 0, 0] n_isUmodelUby (blk_mk (by rfl)) (ji_seq (ge 2)) (fun _ _ _ _ _ => (gTgN 4 n_isUmodelUby)) (fun _ _ _ _ _ => jts_nil) (fun _ _ _ _ _ => (ji_seq (ge 4))) (fun _ _ _ _ _ => (gTgN 5 n_isUmodelUby)) (fun _ _ _ _ _ => jts_nil) (fun _ _ _ _ _ => (ge 5)))
    (gSeq ⟨[0, 0, 0, 0, 0, 0, 0, 0], [0, 0, 0, 0, 0, 0, 0, 0], [0, 0, 0, 0, 0, 0, 0, 0]⟩ (gIfS (ψ1 := ⟨[0, 0, 0, 0, 0, 0, 0, 0], [0, 0, 0, 0, 0, 0, 0, 0], [0, 0, 0, 0, 0, 0, 0, 0]⟩) (ψ2 := ⟨[0, 0, 0, 0, 0, 0, 0, 0], [0, 0, 0, 0, 0, 0, 0, 0], [0, 0, 0, 0, 0, 0, 0, 0]⟩) (gCmpT (op_neDD hu64) (gCallB cd_len z_len (gCons (gv 3) ja_nil)) (gLenSet z_len z_set (ge 3)))
    (gSeq ⟨[0, 0, 0, 0, 0, 0, 0, 0], [0, 0, 0, 0, 0, 0, 0, 0], [0, 0, 0, 0, 0, 0, 0, 0]⟩ (gRet gb)
    gNil)
    gNil)
    (gSeq ⟨[0, 0, 0, 0, 0, 0, 0, 0], [0, 0, 0, 0, 0, 0, 0, 0], [0, 0, 0, 0, 0, 0, 0, 0]⟩ (gRet (gCallB (cd_all rfl) z_all (gCons (gLc [("one", 6), ("two", 7)] [0, 0, 0, 0, 0, 0, 0, 0] n_isUmodelUby (blk_mk (by rfl)) (ji_seq (gIx (op_ixD hu64) (gv 1) gi)) (fun _ _ _ _ _ => (gTgT (gN1 6 n_isUmodelUby (gN1 7 n_isUmodelUby pgs_n0)))) (fun _ _ _ _ _ => jts_nil) (fun _ _ _ _ _ => (gCall G_are_joined hr hgd tk0 (gCons (ge 0) (gCons (gIx (op_ixD hu64) (gv 2) (gv 6)) (gCons (gIx (op_ixD hu64) (gv 2) (gv 7)) ja_nil)))))) ja_nil)))
    gNil))))
theorem h_isUmodelUby (fn : Fun K "is_model_by" "is_model_by" s_isUmodelUby f fd) (hm : mg "is_model_by" = some (.ref f)) (z_all : mg "all" = none) (z_isinstance : mg "isinstance" = none) (z_len : mg "len" = none) (z_set : mg "set" = none) (z_tuple : mg "tuple" = none) (G_is_lot : Has P w K mg base 3 "is_lot" ["graph", "value"] Z [.fz, .fz] 9 F_isUlot) (G_are_joined : Has P w K mg base 2 "are_joined" ["graph", "one", "two"] Z [.fz, .fz, .fz] 9 F_areUjoined) : Has P w K mg base 4 "is_model_by" ["graph", "other", "value"] Z [.fz, .fz, .fz] 9 F_isUmodelUby :=
  has_of fn hm S_isUmodelUby (fun _ _ _ _ _ _ l hl => match l, hl with
    | [_, _, _], _ => (And.intro rfl (And.intro rfl (And.intro rfl (And.intro rfl (And.intro rfl (And.intro rfl (And.intro rfl (And.intro rfl (And.intro rfl (And.intro rfl trivial))))))))))) rfl (b_isUmodelUby z_all z_isinstance z_len z_set z_tuple G_is_lot G_are_joined)
end
abbrev s_isUmodel : Stmt := top 21
abbrev N_isUmodel : List Str := ["graph", "other", "value"]
theorem n_isUmodel : N_isUmodel.Nodup := by decide
theorem S_isUmodel : FnScope N_isUmodel ["graph", "other", "value"] (defScope s_isUmodel) := ⟨rfl, rfl, rfl, by decide +kernel, rfl, by decide +kernel, by decide +kernel⟩
section
variable {P : Program} {w : World} {K : PySem.W.Frag} {mg : Str → Option Value} {base : Heap} {f : Addr} {fd : FuncData} {Z : ClT}
theorem b_isUmodel (G_check_graph : Has P w K mg base 5 "check_graph" ["value"] Z [.fz] 9 F_checkUgraph) (G_is_model_by : Has P w K mg base 4 "is_model_by" ["graph", "other", "value"] Z [.fz, .fz, .fz] 9 F_isUmodelUby) : BodyD P w K mg base 5 N_isUmodel "is_model" s_isUmodel f Z [.fz, .fz, .fz] 9 m_isUmodel := by
  intro cdv A outer s H E hr hgd tk po
  have hu80 := units80 hr
  have hu70 := units70 hr
  have hu65 := units65 hr
  have hu64 := units64 hr
  refine ⟨⟨[0, 0, 0], [0, 0, 0], [0, 0, 0]⟩, rfl, ?_⟩
  exact (gSeq ⟨[0, 0, 0], [0, 0, 0], [0, 0, 0]⟩ (gExpr (gCall G_check_graph hr hgd tk (gCons (ge 0) ja_nil)))
    (gSeq ⟨[0, 0, 0], [0, 0, 0], [0, 0, 0]⟩ (gExpr (gCall G_check_graph hr hgd tk (gCons (ge 1) ja_nil)))
    (gSeq ⟨[0, 0, 0], [0, 0, 0], [0, 0, 0]⟩ (gRet (gCall G_is_model_by hr hgd tk (gCons (ge 0) (gCons (ge 1) (gCons (ge 2) ja_nil)))))
    gNil)))
theorem h_isUmodel (fn : Fun K "is_model" "is_model" s_isUmodel f fd) (hm : mg "is_model" = some (.ref f)) (G_check_graph : Has P w K mg base 5 "check_graph" ["value"] Z [.fz] 9 F_checkUgraph) (G_is_model_by : Has P w K mg base 4 "is_model_by" ["graph", "other", "value"] Z [.fz, .fz, .fz] 9 F_isUmodelUby) : Has P w K mg base 6 "is_model" ["graph", "other", "value"] Z [.fz, .fz, .fz] 9 F_isUmodel :=
  has_of fn hm S_isUmodel (fun _ _ _ _ _ _ l hl => match l, hl with
    | [_, _, _], _ => (And.intro rfl (And.intro rfl (And.intro rfl (And.intro rfl (And.intro rfl (And.intro rfl (And.intro rfl (And.intro rfl (And.intro rfl (And.intro rfl trivial))))))))))) rfl (b_isUmodel G_check_graph G_is_model_by)
end
abbrev s_lawUtold : Stmt := top 45
abbrev N_lawUtold : List Str := ["graph", "other", "thing", "due"]
theorem n_lawUtold : N_lawUtold.Nodup := by decide
theorem S_lawUtold : FnScope N_lawUtold ["graph", "other", "thing"] (defScope s_lawUtold) := ⟨rfl, rfl, rfl, by decide +kernel, rfl, by decide +kernel, by decide +kernel⟩
section
variable {P : Program} {w : World} {K : PySem.W.Frag} {mg : Str → Option Value} {base : Heap} {f : Addr} {fd : FuncData} {Z : ClT}
theorem b_lawUtold (z_repr : mg "repr" = none) (G__law_is_model : Has P w K mg base 4 "_law_is_model" ["graph", "other", "thing"] Z [.fz, .fz, .fz] 9 F_lawUisUmodel) (G_is_model : Has P w K mg base 6 "is_model" ["graph", "other", "value"] Z [.fz, .fz, .fz] 9 F_isUmodel) : BodyD P w K mg base 6 N_lawUtold "_law_told" s_lawUtold f Z [.fz, .fz, .fz] 9 m_lawUtold := by
  intro cdv A outer s H E hr hgd tk po
  have hu80 := units80 hr
  have hu70 := units70 hr
  have hu65 := units65 hr
  have hu64 := units64 hr
  refine ⟨⟨[0, 0, 0, 0], [0, 0, 0, 0], [0, 0, 0, 0]⟩, rfl, ?_⟩
  exact (gSeq ⟨[0, 0, 0, 9], [0, 0, 0, 0], [0, 0, 0, 0]⟩ (gSet 3 n_lawUtold (gCall G__law_is_model hr hgd tk (gCons (ge 0) (gCons (ge 1) (gCons (ge 2) ja_nil)))))
    (gSeq ⟨[0, 0, 0, 0], [0, 0, 0, 0], [0, 0, 0, 0]⟩ (gRet (gCmp (op_eqDD hu64) (gCallB (cd_repr hgd hu70) z_repr (gCons (gLst 9 (gCons (gCall G_is_model hr hgd tk (gCons (ge 0) (gCons (ge 1) (gCons (ge 2) ja_nil)))) (gCons (gCallK0 [2, 1, 0] [2, 1, 0] G_is_model hr hgd tk (jk_cons (ge 2) (jk_cons (ge 1) (jk_cons (ge 0) jk_nil))) (fun ws h => match ws, h with | [_, _, _], _ => rfl)) ja_nil))) ja_nil)) (gCallB (cd_repr hgd hu70) z_repr (gCons (gLst 0 (gCons (ge 3) (gCons (ge 3) ja_nil))) ja_nil))))
    gNil))
theorem h_lawUtold (fn : Fun K "_law_told" "_law_told" s_lawUtold f fd) (hm : mg "_law_told" = some (.ref f)) (z_repr : mg "repr" = none) (G__law_is_model : Has P w K mg base 4 "_law_is_model" ["graph", "other", "thing"] Z [.fz, .fz, .fz] 9 F_lawUisUmodel) (G_is_model : Has P w K mg base 6 "is_model" ["graph", "other", "value"] Z [.fz, .fz, .fz] 9 F_isUmodel) : Has P w K mg base 7 "_law_told" ["graph", "other", "thing"] Z [.fz, .fz, .fz] 9 F_lawUtold :=
  has_of fn hm S_lawUtold (fun _ _ _ _ _ _ l hl => match l, hl with
    | [_, _, _], _ => (And.intro rfl (And.intro rfl (And.intro rfl (And.intro rfl (And.intro rfl (And.intro rfl (And.intro rfl (And.intro rfl (And.intro rfl (And.intro rfl trivial))))))))))) rfl (b_lawUtold z_repr G__law_is_model G_is_model)
end
abbrev s_lawUstrange : Stmt := top 28
abbrev N_lawUstrange : List Str := ["well", "plain", "more"]
theorem n_lawUstrange : N_lawUstrange.Nodup := by decide
theorem S_lawUstrange : FnScope N_lawUstrange ["well"] (defScope s_lawUstrange) := ⟨rfl, rfl, rfl, by decide +kernel, rfl, by decide +kernel, by decide +kernel⟩
section
variable {P : Program} {w : World} {K : PySem.W.Frag} {mg : Str → Option Value} {base : Heap} {f : Addr} {fd : FuncData} {Z : ClT}
theorem b_lawUstrange (G__law_pick : Has P w K mg base 2 "_law_pick" ["well", "some"] Z [.io 1 1, .fz] 0 F_lawUpick) : BodyD P w K mg base 2 N_lawUstrange "_law_strange" s_lawUstrange f Z [.io 1 1] 0 m_lawUstrange := by
  intro cdv A outer s H E hr hgd tk po
  have hu80 := units80 hr
  have hu70 := units70 hr
  have hu65 := units65 hr
  have hu64 := units64 hr
  refine ⟨⟨[1, 0, 0], [1, 0, 0], [1, 0, 0]⟩, rfl, ?_⟩
  exact (gSeq ⟨[1, 10, 0], [1, 0, 0], [1, 0, 0]⟩ (gSet 1 n_lawUstrange (gTup 9 (gCons gn (gCons gb (gCons gb (gCons gi (gCons gi (gCons gi (gCons (gNeg gi) (gCons gi (gCons (je_bin op_powD gi gi) (gCons gs (gCons gs (gCons gs (gCons (gTup 8 ja_nil) (gCons (gTup 9 (gCons gi ja_nil)) (gCons (gTup 9 (gCons gi (gCons gi ja_nil))) (gCons (gTup 9 (gCons gi (gCons gi ja_nil))) (gCons (gLst 8 ja_nil) (gCons (gLst 9 (gCons gi (gCons gi ja_nil))) ja_nil))))))))))))))))))))
    (gSeq ⟨[1, 10, 11], [1, 0, 0], [1, 0, 0]⟩ (gSet 2 n_lawUstrange (gTup 10 (gCons (gTup 9 (gCons gi (gCons (gTup 8 ja_nil) ja_nil))) (gCons (gTup 9 (gCons gi (gCons (gTup 10 (gCons (gTup 9 (gCons gi (gCons gi ja_nil))) ja_nil)) ja_nil))) (gCons (gTup 9 (gCons gi (gCons (gTup 10 (gCons (gTup 9 (gCons gi (gCons gi ja_nil))) ja_nil)) ja_nil))) (gCons (gTup 9 (gCons gi (gCons (gTup 8 ja_nil) ja_nil))) (gCons (gTup 9 (gCons gi (gCons (gTup 8 ja_nil) ja_nil))) (gCons (gTup 9 (gCons gb (gCons (gTup 8 ja_nil) ja_nil))) (gCons (gTup 9 (gCons gi (gCons (gLst 10 (gCons (gTup 9 (gCons gi (gCons gi ja_nil))) ja_nil)) ja_nil))) ja_nil)))))))))
    (gSeq ⟨[1, 0, 0], [1, 0, 0], [1, 0, 0]⟩ (gRet (gCall G__law_pick hr hgd tk (gCons (gv 0) (gCons (je_bin op_addD (je_bin op_addD (gv 1) (gv 2)) (gTup 9 (gCons gDict0 (gCons (gTup 10 (gCons (gTup 9 (gCons gi (gCons gi ja_nil))) (gCons (gTup 9 (gCons gi (gCons gi ja_nil))) ja_nil))) ja_nil)))) ja_nil))))
    gNil)))
theorem h_lawUstrange (fn : Fun K "_law_strange" "_law_strange" s_lawUstrange f fd) (hm : mg "_law_strange" = some (.ref f)) (G__law_pick : Has P w K mg base 2 "_law_pick" ["well", "some"] Z [.io 1 1, .fz] 0 F_lawUpick) : Has P w K mg base 3 "_law_strange" ["well"] Z [.io 1 1] 0 F_lawUstrange :=
  has_of fn hm S_lawUstrange (fun _ _ _ _ _ _ l hl => match l, hl with
    | [_], _ => (And.intro rfl (And.intro rfl trivial))) rfl (b_lawUstrange G__law_pick)
end
abbrev s_lawUlot : Stmt := top 44
abbrev N_lawUlot : List Str := ["well", "model", "many", "way", "at", "lot", "other"]
theorem n_lawUlot : N_lawUlot.Nodup := by decide
theorem S_lawUlot : FnScope N_lawUlot ["well", "model", "many"] (defScope s_lawUlot) := ⟨rfl, rfl, rfl, by decide +kernel, rfl, by decide +kernel, by decide +kernel⟩
section
variable {P : Program} {w : World} {K : PySem.W.Frag} {mg : Str → Option Value} {base : Heap} {f : Addr} {fd : FuncData} {Z : ClT}
theorem b_lawUlot (z_len : mg "len" = none) (z_list : mg "list" = none) (z_sorted : mg "sorted" = none) (z_tuple : mg "tuple" = none) (G__law_draw : Has P w K mg base 1 "_law_draw" ["well", "many"] Z [.io 1 1, .fz] 9 F_lawUdraw) (G__law_strange : Has P w K mg base 3 "_law_strange" ["well"] Z [.io 1 1] 0 F_lawUstrange) : BodyD P w K mg base 3 N_lawUlot "_law_lot" s_lawUlot f Z [.io 1 1, .fz, .fz] 1 m_lawUlot := by
  intro cdv A outer s H E hr hgd tk po
  have hu80 := units80 hr
  have hu70 := units70 hr
  have hu65 := units65 hr
  have hu64 := units64 hr
  refine ⟨⟨[1, 0, 0, 0, 0, 0, 0], [1, 0, 0, 0, 0, 0, 0], [1, 0, 0, 0, 0, 0, 0]⟩, rfl, ?_⟩
  exact (gSeq ⟨[1, 0, 0, 9, 9, 0, 0], [1, 0, 0, 0, 0, 0, 0], [1, 0, 0, 0, 0, 0, 0]⟩ (gPar 3 4 n_lawUlot (gCons (gCall G__law_draw hr hgd tk (gCons (gv 0) (gCons gi ja_nil))) (gCons (gCall G__law_draw hr hgd tk (gCons (gv 0) (gCons (gCallB cd_len z_len (gCons (gv 1) ja_nil)) ja_nil))) ja_nil)))
    (gSeq ⟨[1, 0, 0, 9, 1, 0, 9], [1, 0, 0, 0, 0, 0, 0], [1, 0, 0, 0, 0, 0, 0]⟩ (gPar 5 6 n_lawUlot (gCons (gIx (op_ixD hu64) (gv 1) (gv 4)) (gCons (gCall G__law_draw hr hgd tk (gCons (gv 0) (gCons (ge 2) ja_nil))) ja_nil)))
    (gSeq ⟨[1, 0, 0, 9, 1, 0, 9], [1, 0, 0, 0, 0, 0, 0], [1, 0, 0, 0, 0, 0, 0]⟩ (gIfS (ψ1 := ⟨[1, 0, 0, 9, 1, 0, 9], [1, 0, 0, 0, 0, 0, 0], [1, 0, 0, 0, 0, 0, 0]⟩) (ψ2 := ⟨[1, 0, 0, 9, 1, 0, 9], [1, 0, 0, 0, 0, 0, 0], [1, 0, 0, 0, 0, 0, 0]⟩) (gCmpT (op_eqDD hu64) (gv 3) gi)
    (gSeq ⟨[1, 0, 0, 9, 1, 0, 9], [1, 0, 0, 0, 0, 0, 0], [1, 0, 0, 0, 0, 0, 0]⟩ (gRet (je_bin op_addD (je_bin op_addD (gSlice (gv 1) jo_none (jo_some (gv 4))) (gTup 1 (gCons (gSlice (gv 5) (jo_some gi) jo_none) ja_nil))) (gSlice (gv 1) (jo_some (je_bin op_addD (gv 4) gi)) jo_none)))
    gNil)
    gNil)
    (gSeq ⟨[1, 0, 0, 9, 1, 0, 9], [1, 0, 0, 0, 0, 0, 0], [1, 0, 0, 0, 0, 0, 0]⟩ (gIfS (ψ1 := ⟨[1, 0, 0, 9, 1, 0, 9], [1, 0, 0, 0, 0, 0, 0], [1, 0, 0, 0, 0, 0, 0]⟩) (ψ2 := ⟨[1, 0, 0, 9, 1, 0, 9], [1, 0, 0, 0, 0, 0, 0], [1, 0, 0, 0, 0, 0, 0]⟩) (gCmpT (op_eqDD hu64) (gv 3) gi)
    (gSeq ⟨[1, 0, 0, 9, 1, 0, 9], [1, 0, 0, 0, 0, 0, 0], [1, 0, 0, 0, 0, 0, 0]⟩ (gRet (je_bin op_addD (je_bin op_addD (gSlice (gv 1) jo_none (jo_some (gv 4))) (gTup 1 (gCons (gCallT cd_tuple z_tuple (gCons (gCallB (cd_sorted rfl hu70) z_sorted (gCons (je_bin op_addD (gv 5) (gTup 0 (gCons (ge 6) ja_nil))) ja_nil)) ja_nil)) ja_nil))) (gSlice (gv 1) (jo_some (je_bin op_addD (gv 4) gi)) jo_none)))
    gNil)
    gNil)
    (gSeq ⟨[1, 0, 0, 9, 1, 0, 9], [1, 0, 0, 0, 0, 0, 0], [1, 0, 0, 0, 0, 0, 0]⟩ (gIfS (ψ1 := ⟨[1, 0, 0, 9, 1, 0, 9], [1, 0, 0, 0, 0, 0, 0], [1, 0, 0, 0, 0, 0, 0]⟩) (ψ2 := ⟨[1, 0, 0, 9, 1, 0, 9], [1, 0, 0, 0, 0, 0, 0], [1, 0, 0, 0, 0, 0, 0]⟩) (gCmpT (op_eqDD hu64) (gv 3) gi)
    (gSeq ⟨[1, 0, 0, 9, 1, 0, 9], [1, 0, 0, 0, 0, 0, 0], [1, 0, 0, 0, 0, 0, 0]⟩ (gRet (je_bin op_addD (je_bin op_addD (gSlice (gv 1) jo_none (jo_some (gv 4))) (gTup 1 (gCons (gRev (ge 5)) ja_nil))) (gSlice (gv 1) (jo_some (je_bin op_addD (gv 4) gi)) jo_none)))
    gNil)
    gNil)
    (gSeq ⟨[1, 0, 0, 9, 1, 0, 9], [1, 0, 0, 0, 0, 0, 0], [1, 0, 0, 0, 0, 0, 0]⟩ (gIfS (ψ1 := ⟨[1, 0, 0, 9, 1, 0, 9], [1, 0, 0, 0, 0, 0, 0], [1, 0, 0, 0, 0, 0, 0]⟩) (ψ2 := ⟨[1, 0, 0, 9, 1, 0, 9], [1, 0, 0, 0, 0, 0, 0], [1, 0, 0, 0, 0, 0, 0]⟩) (gCmpT (op_eqDD hu64) (gv 3) gi)
    (gSeq ⟨[1, 0, 0, 9, 1, 0, 9], [1, 0, 0, 0, 0, 0, 0], [1, 0, 0, 0, 0, 0, 0]⟩ (gRet (je_bin op_addD (je_bin op_addD (gSlice (gv 1) jo_none (jo_some (gv 4))) (gTup 1 (gCons (gCallT cd_list z_list (gCons (gv 5) ja_nil)) ja_nil))) (gSlice (gv 1) (jo_some (je_bin op_addD (gv 4) gi)) jo_none)))
    gNil)
    gNil)
    (gSeq ⟨[1, 0, 0, 9, 1, 0, 9], [1, 0, 0, 0, 0, 0, 0], [1, 0, 0, 0, 0, 0, 0]⟩ (gIfS (ψ1 := ⟨[1, 0, 0, 9, 1, 0, 9], [1, 0, 0, 0, 0, 0, 0], [1, 0, 0, 0, 0, 0, 0]⟩) (ψ2 := ⟨[1, 0, 0, 9, 1, 0, 9], [1, 0, 0, 0, 0, 0, 0], [1, 0, 0, 0, 0, 0, 0]⟩) (gCmpT (op_eqDD hu64) (gv 3) gi)
    (gSeq ⟨[1, 0, 0, 9, 1, 0, 9], [1, 0, 0, 0, 0, 0, 0], [1, 0, 0, 0, 0, 0, 0]⟩ (gRet (gSlice (gv 1) jo_none (jo_some (gNeg gi))))
    gNil)
    gNil)
    (gSeq ⟨[1, 0, 0, 9, 1, 0, 9], [1, 0, 0, 0, 0, 0, 0], [1, 0, 0, 0, 0, 0, 0]⟩ (gIfS (ψ1 := ⟨[1, 0, 0, 9, 1, 0, 9], [1, 0, 0, 0, 0, 0, 0], [1, 0, 0, 0, 0, 0, 0]⟩) (ψ2 := ⟨[1, 0, 0, 9, 1, 0, 9], [1, 0, 0, 0, 0, 0, 0], [1, 0, 0, 0, 0, 0, 0]⟩) (gCmpT (op_eqDD hu64) (gv 3) gi)
    (gSeq ⟨[1, 0, 0, 9, 1, 0, 9], [1, 0, 0, 0, 0, 0, 0], [1, 0, 0, 0, 0, 0, 0]⟩ (gRet (je_bin op_addD (gv 1) (gTup 1 (gCons (gTup 0 (gCons (ge 6) ja_nil)) ja_nil))))
    gNil)
    gNil)
    (gSeq ⟨[1, 0, 0, 9, 1, 0, 9], [1, 0, 0, 0, 0, 0, 0], [1, 0, 0, 0, 0, 0, 0]⟩ (gIfS (ψ1 := ⟨[1, 0, 0, 9, 1, 0, 9], [1, 0, 0, 0, 0, 0, 0], [1, 0, 0, 0, 0, 0, 0]⟩) (ψ2 := ⟨[1, 0, 0, 9, 1, 0, 9], [1, 0, 0, 0, 0, 0, 0], [1, 0, 0, 0, 0, 0, 0]⟩) (gCmpT (op_eqDD hu64) (gv 3) gi)
    (gSeq ⟨[1, 0, 0, 9, 1, 0, 9], [1, 0, 0, 0, 0, 0, 0], [1, 0, 0, 0, 0, 0, 0]⟩ (gRet (gCallT cd_list z_list (gCons (gv 1) ja_nil)))
    gNil)
    gNil)
    (gSeq ⟨[1, 0, 0, 9, 1, 0, 9], [1, 0, 0, 0, 0, 0, 0], [1, 0, 0, 0, 0, 0, 0]⟩ (gIfS (ψ1 := ⟨[1, 0, 0, 9, 1, 0, 9], [1, 0, 0, 0, 0, 0, 0], [1, 0, 0, 0, 0, 0, 0]⟩) (ψ2 := ⟨[1, 0, 0, 9, 1, 0, 9], [1, 0, 0, 0, 0, 0, 0], [1, 0, 0, 0, 0, 0, 0]⟩) (gCmpT (op_eqDD hu64) (gv 3) gi)
    (gSeq ⟨[1, 0, 0, 9, 1, 0, 9], [1, 0, 0, 0, 0, 0, 0], [1, 0, 0, 0, 0, 0, 0]⟩ (gRet (je_bin op_addD (je_bin op_addD (gSlice (gv 1) jo_none (jo_some (gv 4))) (gTup 1 (gCons (je_bin op_addD (gSlice (gv 5) jo_none (jo_some (gNeg gi))) (gTup 0 (gCons (ge 2) ja_nil))) ja_nil))) (gSlice (gv 1) (jo_some (je_bin op_addD (gv 4) gi)) jo_none)))
    gNil)
    gNil)
    (gSeq ⟨[1, 0, 0, 9, 1, 0, 9], [1, 0, 0, 0, 0, 0, 0], [1, 0, 0, 0, 0, 0, 0]⟩ (gIfS (ψ1 := ⟨[1, 0, 0, 9, 1, 0, 9], [1, 0, 0, 0, 0, 0, 0], [1, 0, 0, 0, 0, 0, 0]⟩) (ψ2 := ⟨[1, 0, 0, 9, 1, 0, 9], [1, 0, 0, 0, 0, 0, 0], [1, 0, 0, 0, 0, 0, 0]⟩) (gCmpT (op_eqDD hu64) (gv 3) gi)
    (gSeq ⟨[1, 0, 0, 9, 1, 0, 9], [1, 0, 0, 0, 0, 0, 0], [1, 0, 0, 0, 0, 0, 0]⟩ (gRet (gRev (ge 1)))
    gNil)
    gNil)
    (gSeq ⟨[1, 0, 0, 9, 1, 0, 9], [1, 0, 0, 0, 0, 0, 0], [1, 0, 0, 0, 0, 0, 0]⟩ (gIfS (ψ1 := ⟨[1, 0, 0, 9, 1, 0, 9], [1, 0, 0, 0, 0, 0, 0], [1, 0, 0, 0, 0, 0, 0]⟩) (ψ2 := ⟨[1, 0, 0, 9, 1, 0, 9], [1, 0, 0, 0, 0, 0, 0], [1, 0, 0, 0, 0, 0, 0]⟩) (gCmpT (op_eqDD hu64) (gv 3) gi)
    (gSeq ⟨[1, 0, 0, 9, 1, 0, 9], [1, 0, 0, 0, 0, 0, 0], [1, 0, 0, 0, 0, 0, 0]⟩ (gRet (je_bin op_addD (je_bin op_addD (gSlice (gv 1) jo_none (jo_some (gv 4))) (gTup 0 (gCons (gIx (op_ixD hu64) (gv 1) (je_bin op_subD (gv 4) gi)) ja_nil))) (gSlice (gv 1) (jo_some (je_bin op_addD (gv 4) gi)) jo_none)))
    gNil)
    gNil)
    (gSeq ⟨[1, 0, 0, 9, 1, 0, 9], [1, 0, 0, 0, 0, 0, 0], [1, 0, 0, 0, 0, 0, 0]⟩ (gIfS (ψ1 := ⟨[1, 0, 0, 9, 1, 0, 9], [1, 0, 0, 0, 0, 0, 0], [1, 0, 0, 0, 0, 0, 0]⟩) (ψ2 := ⟨[1, 0, 0, 9, 1, 0, 9], [1, 0, 0, 0, 0, 0, 0], [1, 0, 0, 0, 0, 0, 0]⟩) (gCmpT (op_eqDD hu64) (gv 3) gi)
    (gSeq ⟨[1, 0, 0, 9, 1, 0, 9], [1, 0, 0, 0, 0, 0, 0], [1, 0, 0, 0, 0, 0, 0]⟩ (gRet (je_bin op_addD (je_bin op_addD (gSlice (gv 1) jo_none (jo_some (gv 4))) (gTup 0 (gCons (gCall G__law_strange hr hgd tk (gCons (gv 0) ja_nil)) ja_nil))) (gSlice (gv 1) (jo_some (je_bin op_addD (gv 4) gi)) jo_none)))
    gNil)
    gNil)
    (gSeq ⟨[1, 0, 0, 0, 0, 0, 0], [1, 0, 0, 0, 0, 0, 0], [1, 0, 0, 0, 0, 0, 0]⟩ (gRet (je_bin op_addD (je_bin op_addD (gSlice (gv 1) jo_none (jo_some (gv 4))) (gTup 1 (gCons (gTup 0 (gCons (ge 6) ja_nil)) ja_nil))) (gSlice (gv 1) (jo_some (je_bin op_addD (gv 4) gi)) jo_none)))
    gNil))))))))))))))
theorem h_lawUlot (fn : Fun K "_law_lot" "_law_lot" s_lawUlot f fd) (hm : mg "_law_lot" = some (.ref f)) (z_len : mg "len" = none) (z_list : mg "list" = none) (z_sorted : mg "sorted" = none) (z_tuple : mg "tuple" = none) (G__law_draw : Has P w K mg base 1 "_law_draw" ["well", "many"] Z [.io 1 1, .fz] 9 F_lawUdraw) (G__law_strange : Has P w K mg base 3 "_law_strange" ["well"] Z [.io 1 1] 0 F_lawUstrange) : Has P w K mg base 4 "_law_lot" ["well", "model", "many"] Z [.io 1 1, .fz, .fz] 1 F_lawUlot :=
  has_of fn hm S_lawUlot (fun _ _ _ _ _ _ l hl => match l, hl with
    | [_, _, _], _ => (And.intro rfl (And.intro rfl (And.intro rfl (And.intro rfl (And.intro rfl (And.intro rfl (And.intro rfl (And.intro rfl (And.intro rfl (And.intro rfl trivial))))))))))) rfl (b_lawUlot z_len z_list z_sorted z_tuple G__law_draw G__law_strange)
end
abbrev s_lawUwithoutUedge : Stmt := top 39
abbrev N_lawUwithoutUedge : List Str := ["graph", "edge", "each"]
theorem n_lawUwithoutUedge : N_lawUwithoutUedge.Nodup := by decide
theorem S_lawUwithoutUedge : FnScope N_lawUwithoutUedge ["graph", "edge"] (defScope s_lawUwithoutUedge) := ⟨rfl, rfl, rfl, by decide +kernel, rfl, by decide +kernel, by decide +kernel⟩
section
variable {P : Program} {w : World} {K : PySem.W.Frag} {mg : Str → Option Value} {base : Heap} {f : Addr} {fd : FuncData} {Z : ClT}
theorem b_lawUwithoutUedge (z_tuple : mg "tuple" = none) : BodyD P w K mg base 0 N_lawUwithoutUedge "_law_without_edge" s_lawUwithoutUedge f Z [.fz, .fz] 1 m_lawUwithoutUedge := by
  intro cdv A outer s H E hr hgd tk po
  have hu80 := units80 hr
  have hu70 := units70 hr
  have hu65 := units65 hr
  have hu64 := units64 hr
  refine ⟨⟨[0, 0, 0], [0, 0, 0], [0, 0, 0]⟩, rfl, ?_⟩
  exact (gSeq ⟨[0, 0, 0], [0, 0, 0], [0, 0, 0]⟩ (gRet (gTup 0 (gCons (gIx (op_ixD hu64) (gv 0) gi) (gCons (gCallT cd_tuple z_tuple (gCons (gLc [("each", 2)] [0, 0, 0] n_lawUwithoutUedge (blk_mk (by rfl)) (ji_seq (gIx (op_ixD hu64) (gv 0) gi)) (fun _ _ _ _ _ => (gTgN 2 n_lawUwithoutUedge)) (fun _ _ _ _ _ => (jts_one (gCmpT (op_neDD hu64) (gv 2) (gv 1)))) (fun _ _ _ _ _ => (ge 2))) ja_nil)) ja_nil))))
    gNil)
theorem h_lawUwithoutUedge (fn : Fun K "_law_without_edge" "_law_without_edge" s_lawUwithoutUedge f fd) (hm : mg "_law_without_edge" = some (.ref f)) (z_tuple : mg "tuple" = none) : Has P w K mg base 1 "_law_without_edge" ["graph", "edge"] Z [.fz, .fz] 1 F_lawUwithoutUedge :=
  has_of fn hm S_lawUwithoutUedge (fun _ _ _ _ _ _ l hl => match l, hl with
    | [_, _], _ => (And.intro rfl (And.intro rfl (And.intro rfl (And.intro rfl trivial))))) rfl (b_lawUwithoutUedge z_tuple)
end
abbrev s_lawUright : Stmt := top 46
abbrev N_lawUright : List Str := ["well", "turn", "other", "graph", "model", "things", "thing", "lap"]
theorem n_lawUright : N_lawUright.Nodup := by decide
theorem S_lawUright : FnScope N_lawUright ["well"] (defScope s_lawUright) := ⟨rfl, rfl, rfl, by decide +kernel, rfl, by decide +kernel, by decide +kernel⟩
section
variable {P : Program} {w : World} {K : PySem.W.Frag} {mg : Str → Option Value} {base : Heap} {f : Addr} {fd : FuncData} {Z : ClT}
theorem b_lawUright (z_range : mg "range" = none) (G__law_graph : Has P w K mg base 4 "_law_graph" ["well", "most", "edges"] Z [.io 1 1, .fz, .fz] 1 F_lawUgraph) (G__law_draw : Has P w K mg base 1 "_law_draw" ["well", "many"] Z [.io 1 1, .fz] 9 F_lawUdraw) (G__law_pick : Has P w K mg base 2 "_law_pick" ["well", "some"] Z [.io 1 1, .fz] 0 F_lawUpick) (G__law_family : Has P w K mg base 3 "_law_family" ["level"] Z [.fz] 2 F_lawUfamily) (G__law_spread : Has P w K mg base 4 "_law_spread" ["well", "other", "most"] Z [.io 1 1, .fz, .fz] 1 F_lawUspread) (G__law_is_model : Has P w K mg base 4 "_law_is_model" ["graph", "other", "thing"] Z [.fz, .fz, .fz] 9 F_lawUisUmodel) (G__law_told : Has P w K mg base 7 "_law_told" ["graph", "other", "thing"] Z [.fz, .fz, .fz] 9 F_lawUtold) (G__law_lot : Has P w K mg base 4 "_law_lot" ["well", "model", "many"] Z [.io 1 1, .fz, .fz] 1 F_lawUlot) (G__law_strange : Has P w K mg base 3 "_law_strange" ["well"] Z [.io 1 1] 0 F_lawUstrange) (G__law_without_edge : Has P w K mg base 1 "_law_without_edge" ["graph", "edge"] Z [.fz, .fz] 1 F_lawUwithoutUedge) : BodyD P w K mg base 7 N_lawUright "_law_right" s_lawUright f Z [.io 1 1] 9 m_lawUright := by
  intro cdv A outer s H E hr hgd tk po
  have hu80 := units80 hr
  have hu70 := units70 hr
  have hu65 := units65 hr
  have hu64 := units64 hr
  refine ⟨⟨[1, 0, 0, 0, 0, 0, 0, 0], [1, 0, 0, 0, 0, 0, 0, 0], [1, 0, 0, 0, 0, 0, 0, 0]⟩, rfl, ?_⟩
  exact (gSeq ⟨[1, 0, 0, 0, 0, 0, 0, 0], [1, 0, 0, 0, 0, 0, 0, 0], [1, 0, 0, 0, 0, 0, 0, 0]⟩ (gFor [1, 0, 0, 0, 0, 0, 0, 0] ⟨[1, 0, 0, 0, 0, 0, 0, 0], [1, 0, 0, 0, 0, 0, 0, 0], [1, 0, 0, 0, 0, 0, 0, 0]⟩ po (gRange1 z_range gi) (gTgN 1 n_lawUright)
    (gSeq ⟨[1, 0, 1, 0, 0, 0, 0, 0], [1, 0, 0, 0, 0, 0, 0, 0], [1, 0, 0, 0, 0, 0, 0, 0]⟩ (gSet 2 n_lawUright (gCall G__law_graph hr hgd tk (gCons (gv 0) (gCons gi (gCons gi ja_nil)))))
    (gSeq ⟨[1, 0, 0, 0, 0, 0, 0, 0], [1, 0, 0, 0, 0, 0, 0, 0], [1, 0, 0, 0, 0, 0, 0, 0]⟩ (gIfS (ψ1 := ⟨[1, 0, 0, 0, 0, 0, 0, 0], [1, 0, 0, 0, 0, 0, 0, 0], [1, 0, 0, 0, 0, 0, 0, 0]⟩) (ψ2 := ⟨[1, 0, 1, 0, 0, 0, 0, 0], [1, 0, 0, 0, 0, 0, 0, 0], [1, 0, 0, 0, 0, 0, 0, 0]⟩) (gCmpT (op_eqDD hu64) (gCall G__law_draw hr hgd tk (gCons (gv 0) (gCons gi ja_nil))) gi)
    (gSeq ⟨[1, 0, 0, 0, 0, 0, 0, 0], [1, 0, 0, 0, 0, 0, 0, 0], [1, 0, 0, 0, 0, 0, 0, 0]⟩ (gSet 2 n_lawUright (gCall G__law_pick hr hgd tk (gCons (gv 0) (gCons (gCall G__law_family hr hgd tk (gCons (je_bin op_addD gi (gCall G__law_draw hr hgd tk (gCons (gv 0) (gCons gi ja_nil)))) ja_nil)) ja_nil))))
    gNil)
    gNil)
    (gSeq ⟨[1, 0, 0, 0, 0, 0, 0, 0], [1, 0, 0, 0, 0, 0, 0, 0], [1, 0, 0, 0, 0, 0, 0, 0]⟩ (gAsg (gCall G__law_spread hr hgd tk (gCons (gv 0) (gCons (ge 2) (gCons gi ja_nil)))) (gTgT (gN1 3 n_lawUright (gN1 4 n_lawUright pgs_n0))))
    (gSeq ⟨[1, 0, 0, 0, 0, 0, 0, 0], [1, 0, 0, 0, 0, 0, 0, 0], [1, 0, 0, 0, 0, 0, 0, 0]⟩ (gIfS (ψ1 := ⟨[1, 0, 0, 0, 0, 0, 0, 0], [1, 0, 0, 0, 0, 0, 0, 0], [1, 0, 0, 0, 0, 0, 0, 0]⟩) (ψ2 := ⟨[1, 0, 0, 0, 0, 0, 0, 0], [1, 0, 0, 0, 0, 0, 0, 0], [1, 0, 0, 0, 0, 0, 0, 0]⟩) (jt_w (gOr (jt_not (gTru (gCall G__law_is_model hr hgd tk (gCons (ge 3) (gCons (ge 2) (gCons (ge 4) ja_nil)))))) (jw_or1 (jt_not (gTru (gCall G__law_told hr hgd tk (gCons (ge 3) (gCons (ge 2) (gCons (ge 4) ja_nil)))))))))
    (gSeq ⟨[1, 0, 0, 0, 0, 0, 0, 0], [1, 0, 0, 0, 0, 0, 0, 0], [1, 0, 0, 0, 0, 0, 0, 0]⟩ (gRet gb)
    gNil)
    gNil)
    (gSeq ⟨[1, 0, 0, 0, 0, 1, 0, 0], [1, 0, 0, 0, 0, 0, 0, 0], [1, 0, 0, 0, 0, 0, 0, 0]⟩ (gSet 5 n_lawUright (je_bin op_addD (gLc [("lap", 7)] [1, 0, 0, 0, 0, 0, 0, 0] n_lawUright (blk_mk (by rfl)) (gRange1 z_range gi) (fun _ _ _ _ _ => (gTgN 7 n_lawUright)) (fun _ _ _ _ _ => jts_nil) (fun _ _ _ _ _ => (gCall G__law_lot hr hgd tk0 (gCons (gv 0) (gCons (ge 4) (gCons (gIx (op_ixD hu64) (gv 3) gi) ja_nil)))))) (gLst 0 (gCons (gCall G__law_strange hr hgd tk (gCons (gv 0) ja_nil)) ja_nil))))
    (gSeq ⟨[1, 0, 0, 0, 0, 0, 0, 0], [1, 0, 0, 0, 0, 0, 0, 0], [1, 0, 0, 0, 0, 0, 0, 0]⟩ (gFor [1, 0, 0, 0, 0, 0, 0, 0] ⟨[1, 0, 0, 0, 0, 0, 0, 0], [1, 0, 0, 0, 0, 0, 0, 0], [1, 0, 0, 0, 0, 0, 0, 0]⟩ po (ji_seq (ge 5)) (gTgN 6 n_lawUright)
    (gSeq ⟨[1, 0, 0, 0, 0, 0, 0, 0], [1, 0, 0, 0, 0, 0, 0, 0], [1, 0, 0, 0, 0, 0, 0, 0]⟩ (gIfS (ψ1 := ⟨[1, 0, 0, 0, 0, 0, 0, 0], [1, 0, 0, 0, 0, 0, 0, 0], [1, 0, 0, 0, 0, 0, 0, 0]⟩) (ψ2 := ⟨[1, 0, 0, 0, 0, 0, 0, 0], [1, 0, 0, 0, 0, 0, 0, 0], [1, 0, 0, 0, 0, 0, 0, 0]⟩) (jt_not (gTru (gCall G__law_told hr hgd tk (gCons (ge 3) (gCons (ge 2) (gCons (ge 6) ja_nil))))))
    (gSeq ⟨[1, 0, 0, 0, 0, 0, 0, 0], [1, 0, 0, 0, 0, 0, 0, 0], [1, 0, 0, 0, 0, 0, 0, 0]⟩ (gRet gb)
    gNil)
    gNil)
    gNil))
    (gSeq ⟨[1, 0, 0, 0, 0, 0, 0, 0], [1, 0, 0, 0, 0, 0, 0, 0], [1, 0, 0, 0, 0, 0, 0, 0]⟩ (gIfS (ψ1 := ⟨[1, 0, 0, 0, 0, 0, 0, 0], [1, 0, 0, 0, 0, 0, 0, 0], [1, 0, 0, 0, 0, 0, 0, 0]⟩) (ψ2 := ⟨[1, 0, 0, 0, 0, 0, 0, 0], [1, 0, 0, 0, 0, 0, 0, 0], [1, 0, 0, 0, 0, 0, 0, 0]⟩) (jt_w (gAnd (gCmpT (op_neDD hu64) (gIx (op_ixD hu64) (gv 3) gi) (gTup 8 ja_nil)) (jw_and1 (jt_not (gTru (gCall G__law_told hr hgd tk (gCons (gCall G__law_without_edge hr hgd tk (gCons (ge 3) (gCons (gCall G__law_pick hr hgd tk (gCons (gv 0) (gCons (gIx (op_ixD hu64) (gv 3) gi) ja_nil))) ja_nil))) (gCons (ge 2) (gCons (ge 4) ja_nil)))))))))
    (gSeq ⟨[1, 0, 0, 0, 0, 0, 0, 0], [1, 0, 0, 0, 0, 0, 0, 0], [1, 0, 0, 0, 0, 0, 0, 0]⟩ (gRet gb)
    gNil)
    gNil)
    (gSeq ⟨[1, 0, 0, 0, 0, 0, 0, 0], [1, 0, 0, 0, 0, 0, 0, 0], [1, 0, 0, 0, 0, 0, 0, 0]⟩ (gIfS (ψ1 := ⟨[1, 0, 0, 0, 0, 0, 0, 0], [1, 0, 0, 0, 0, 0, 0, 0], [1, 0, 0, 0, 0, 0, 0, 0]⟩) (ψ2 := ⟨[1, 0, 0, 0, 0, 0, 0, 0], [1, 0, 0, 0, 0, 0, 0, 0], [1, 0, 0, 0, 0, 0, 0, 0]⟩) (jt_not (gTru (gCall G__law_told hr hgd tk (gCons (ge 3) (gCons (gCall G__law_graph hr hgd tk (gCons (gv 0) (gCons gi (gCons gi ja_nil)))) (gCons (ge 4) ja_nil))))))
    (gSeq ⟨[1, 0, 0, 0, 0, 0, 0, 0], [1, 0, 0, 0, 0, 0, 0, 0], [1, 0, 0, 0, 0, 0, 0, 0]⟩ (gRet gb)
    gNil)
    gNil)
    gNil)))))))))
    (gSeq ⟨[1, 0, 0, 0, 0, 0, 0, 0], [1, 0, 0, 0, 0, 0, 0, 0], [1, 0, 0, 0, 0, 0, 0, 0]⟩ (gRet gb)
    gNil))
theorem h_lawUright (fn : Fun K "_law_right" "_law_right" s_lawUright f fd) (hm : mg "_law_right" = some (.ref f)) (z_range : mg "range" = none) (G__law_graph : Has P w K mg base 4 "_law_graph" ["well", "most", "edges"] Z [.io 1 1, .fz, .fz] 1 F_lawUgraph) (G__law_draw : Has P w K mg base 1 "_law_draw" ["well", "many"] Z [.io 1 1, .fz] 9 F_lawUdraw) (G__law_pick : Has P w K mg base 2 "_law_pick" ["well", "some"] Z [.io 1 1, .fz] 0 F_lawUpick) (G__law_family : Has P w K mg base 3 "_law_family" ["level"] Z [.fz] 2 F_lawUfamily) (G__law_spread : Has P w K mg base 4 "_law_spread" ["well", "other", "most"] Z [.io 1 1, .fz, .fz] 1 F_lawUspread) (G__law_is_model : Has P w K mg base 4 "_law_is_model" ["graph", "other", "thing"] Z [.fz, .fz, .fz] 9 F_lawUisUmodel) (G__law_told : Has P w K mg base 7 "_law_told" ["graph", "other", "thing"] Z [.fz, .fz, .fz] 9 F_lawUtold) (G__law_lot : Has P w K mg base 4 "_law_lot" ["well", "model", "many"] Z [.io 1 1, .fz, .fz] 1 F_lawUlot) (G__law_strange : Has P w K mg base 3 "_law_strange" ["well"] Z [.io 1 1] 0 F_lawUstrange) (G__law_without_edge : Has P w K mg base 1 "_law_without_edge" ["graph", "edge"] Z [.fz, .fz] 1 F_lawUwithoutUedge) : Has P w K mg base 8 "_law_right" ["well"] Z [.io 1 1] 9 F_lawUright :=
  has_of fn hm S_lawUright (fun _ _ _ _ _ _ l hl => match l, hl with
    | [_], _ => (And.intro rfl (And.intro rfl trivial))) rfl (b_lawUright z_range G__law_graph G__law_draw G__law_pick G__law_family G__law_spread G__law_is_model G__law_told G__law_lot G__law_strange G__law_without_edge)
end
abbrev s_lawUwell : Stmt := top 23
abbrev N_lawUwell : List Str := ["script", "turn", "own", "mixed", "cell"]
theorem n_lawUwell : N_lawUwell.Nodup := by decide
theorem S_lawUwell : FnScope N_lawUwell ["script", "turn"] (defScope s_lawUwell) := ⟨rfl, rfl, rfl, by decide +kernel, rfl, by decide +kernel, by decide +kernel⟩
section
variable {P : Program} {w : World} {K : PySem.W.Frag} {mg : Str → Option Value} {base : Heap} {f : Addr} {fd : FuncData} {Z : ClT}
theorem b_lawUwell (z_abs : mg "abs" = none) (z_int : mg "int" = none) (z_len : mg "len" = none) : BodyD P w K mg base 0 N_lawUwell "_law_well" s_lawUwell f Z [.fz, .fz] 1 m_lawUwell := by
  intro cdv A outer s H E hr hgd tk po
  have hu80 := units80 hr
  have hu70 := units70 hr
  have hu65 := units65 hr
  have hu64 := units64 hr
  refine ⟨⟨[0, 0, 0, 0, 0], [0, 0, 0, 0, 0], [0, 0, 0, 0, 0]⟩, rfl, ?_⟩
  exact (gSeq ⟨[0, 0, 9, 0, 0], [0, 0, 0, 0, 0], [0, 0, 0, 0, 0]⟩ (gSet 2 n_lawUwell (gIf [0, 0, 0, 0, 0] 9 (gCmpT (op_ordD rfl hu80) (gv 1) (gCallB cd_len z_len (gCons (gv 0) ja_nil))) (gCallT cd_int z_int (gCons (gIx (op_ixD hu64) (gv 0) (gv 1)) ja_nil)) gi))
    (gSeq ⟨[0, 0, 9, 1, 0], [0, 0, 0, 0, 0], [0, 0, 0, 0, 0]⟩ (gSet 3 n_lawUwell (je_bin op_addD gi (je_bin op_mulDD gi (gv 1))))
    (gSeq ⟨[0, 0, 9, 1, 0], [0, 0, 0, 0, 0], [0, 0, 0, 0, 0]⟩ (gFor [0, 0, 9, 1, 0] ⟨[0, 0, 9, 9, 0], [0, 0, 9, 1, 0], [0, 0, 9, 1, 0]⟩ po (ji_seq (gSlice (gv 0) jo_none (jo_some gi))) (gTgN 4 n_lawUwell)
    (gSeq ⟨[0, 0, 9, 9, 0], [0, 0, 9, 1, 0], [0, 0, 9, 1, 0]⟩ (gSet 3 n_lawUwell (je_bin op_modD (gCallT cd_int z_int (gCons (je_bin op_addD (je_bin op_addD (je_bin op_mulDD (gv 3) gi) (je_bin op_modD (gCallT cd_int z_int (gCons (gv 4) ja_nil)) gi)) gi) ja_nil)) gi))
    gNil))
    (gSeq ⟨[0, 0, 9, 9, 0], [0, 0, 0, 0, 0], [0, 0, 0, 0, 0]⟩ (gSet 3 n_lawUwell (je_bin op_modD (gCallT cd_int z_int (gCons (je_bin op_addD (je_bin op_addD (je_bin op_mulDD (gv 3) gi) (je_bin op_mulDD (je_bin op_modD (gCallT cd_int z_int (gCons (gv 2) ja_nil)) gi) gi)) gi) ja_nil)) gi))
    (gSeq ⟨[0, 0, 0, 0, 0], [0, 0, 0, 0, 0], [0, 0, 0, 0, 0]⟩ (gRet (gLst 0 (gCons (gIf [0, 0, 9, 9, 0] 9 (gCmpT (op_ordD rfl hu80) (gCallB cd_abs z_abs (gCons (gv 2) ja_nil)) (je_bin op_powD gi gi)) (gCallB cd_abs z_abs (gCons (gv 2) ja_nil)) gi) (gCons (ge 3) (gCons gi ja_nil)))))
    gNil)))))
theorem h_lawUwell (fn : Fun K "_law_well" "_law_well" s_lawUwell f fd) (hm : mg "_law_well" = some (.ref f)) (z_abs : mg "abs" = none) (z_int : mg "int" = none) (z_len : mg "len" = none) : Has P w K mg base 1 "_law_well" ["script", "turn"] Z [.fz, .fz] 1 F_lawUwell :=
  has_of fn hm S_lawUwell (fun _ _ _ _ _ _ l hl => match l, hl with
    | [_, _], _ => (And.intro rfl (And.intro rfl (And.intro rfl (And.intro rfl trivial))))) rfl (b_lawUwell z_abs z_int z_len)
end
abbrev s_law : Stmt := top 47
abbrev N_law : List Str := ["script", "turn"]
theorem n_law : N_law.Nodup := by decide
theorem S_law : FnScope N_law ["script"] (defScope s_law) := ⟨rfl, rfl, rfl, by decide +kernel, rfl, by decide +kernel, by decide +kernel⟩
section
variable {P : Program} {w : World} {K : PySem.W.Frag} {mg : Str → Option Value} {base : Heap} {f : Addr} {fd : FuncData} {Z : ClT}
theorem b_law (z_len : mg "len" = none) (z_max : mg "max" = none) (z_min : mg "min" = none) (z_range : mg "range" = none) (G__law_right : Has P w K mg base 8 "_law_right" ["well"] Z [.io 1 1] 9 F_lawUright) (G__law_well : Has P w K mg base 1 "_law_well" ["script", "turn"] Z [.fz, .fz] 1 F_lawUwell) : BodyD P w K mg base 8 N_law "law" s_law f Z [.fz] 9 m_law := by
  intro cdv A outer s H E hr hgd tk po
  have hu80 := units80 hr
  have hu70 := units70 hr
  have hu65 := units65 hr
  have hu64 := units64 hr
  refine ⟨⟨[0, 0], [0, 0], [0, 0]⟩, rfl, ?_⟩
  exact (gSeq ⟨[0, 0], [0, 0], [0, 0]⟩ (gFor [0, 0] ⟨[0, 0], [0, 0], [0, 0]⟩ po (gRange1 z_range (gCallB (cd_max rfl) z_max (gCons gi (gCons (gCallB (cd_min rfl) z_min (gCons (gCallB cd_len z_len (gCons (gv 0) ja_nil)) (gCons gi ja_nil))) ja_nil)))) (gTgN 1 n_law)
    (gSeq ⟨[0, 0], [0, 0], [0, 0]⟩ (gIfS (ψ1 := ⟨[0, 0], [0, 0], [0, 0]⟩) (ψ2 := ⟨[0, 0], [0, 0], [0, 0]⟩) (jt_not (gTru (gCall G__law_right hr hgd tk (gCons (gCall G__law_well hr hgd tk (gCons (ge 0) (gCons (ge 1) ja_nil))) ja_nil))))
    (gSeq ⟨[0, 0], [0, 0], [0, 0]⟩ (gRet gb)
    gNil)
    gNil)
    gNil))
    (gSeq ⟨[0, 0], [0, 0], [0, 0]⟩ (gRet gb)
    gNil))
theorem h_law (fn : Fun K "law" "law" s_law f fd) (hm : mg "law" = some (.ref f)) (z_len : mg "len" = none) (z_max : mg "max" = none) (z_min : mg "min" = none) (z_range : mg "range" = none) (G__law_right : Has P w K mg base 8 "_law_right" ["well"] Z [.io 1 1] 9 F_lawUright) (G__law_well : Has P w K mg base 1 "_law_well" ["script", "turn"] Z [.fz, .fz] 1 F_lawUwell) : Has P w K mg base 9 "law" ["script"] Z [.fz] 9 F_law :=
  has_of fn hm S_law (fun _ _ _ _ _ _ l hl => match l, hl with
    | [_], _ => (And.intro rfl (And.intro rfl trivial))) rfl (b_law z_len z_max z_min z_range G__law_right G__law_well)
end
end Lk
namespace Lk
open PySem PySem.Spec L2
theorem draw_sat {w : DV} {m : Int} (hw : WL w) (hm : 0 < m) (hm2 : m < 1073741824) : (F_lawUdraw [w, .d (.int m)]).sat (fun d outs => ∃ r w', d = .d (.int r) ∧ outs = [w'] ∧ WL w' ∧ 0 ≤ r ∧ r < m) nR := by
  obtain ⟨a, b, c, rfl⟩ := hw
  rw [F_lawUdraw, runF_sat]
  unfold m_lawUdraw
  simp [env0, ioP, atI_0, atI_1, atI_2, hm, hm2, stO, stD, ixN]
  refine ⟨fun h => ⟨⟨_, _, _, rfl⟩, Int.emod_nonneg _ (by omega), Int.emod_lt_of_pos _ hm⟩, fun h => ⟨by omega, ⟨_, _, _, rfl⟩, Int.emod_nonneg _ (by omega), Int.emod_lt_of_pos _ hm⟩⟩
theorem pick_sat {w : DV} {xs : List PyData} (hw : WL w) (hx : xs ≠ []) (hl : xs.length < 1073741824) : (F_lawUpick [w, .d (.list xs)]).sat (fun d outs => ∃ x w', d = .d x ∧ outs = [w'] ∧ WL w' ∧ x ∈ xs) nR := by
  have h0 : 0 < xs.length := List.length_pos_iff.mpr hx
  rw [F_lawUpick, runF_sat]
  unfold m_lawUpick
  simp [env0, ioP, lenD]
  refine (draw_sat (m := xs.length) hw (by omega) (by omega)).mono ?_
  rintro d outs ⟨r, w', rfl, rfl, hw', h1, h2⟩
  obtain ⟨x, hx1, hx2⟩ := atI_in h1 h2
  simp [putM, clrM, hx1, hw', hx2]
theorem pickT_sat {w : DV} {xs : List PyData} (hw : WL w) (hx : xs ≠ []) (hl : xs.length < 1073741824) : (F_lawUpick [w, .d (.tuple xs)]).sat (fun d outs => ∃ x w', d = .d x ∧ outs = [w'] ∧ WL w' ∧ x ∈ xs) nR := by
  have h0 : 0 < xs.length := List.length_pos_iff.mpr hx
  rw [F_lawUpick, runF_sat]
  unfold m_lawUpick
  simp [env0, ioP, lenD]
  refine (draw_sat (m := xs.length) hw (by omega) (by omega)).mono ?_
  rintro d outs ⟨r, w', rfl, rfl, hw', h1, h2⟩
  obtain ⟨x, hx1, hx2⟩ := atI_in h1 h2
  simp [putM, clrM, hx1, hw', hx2]
theorem order_sat {w : DV} {n : Int} (hw : WL w) (h0 : 0 ≤ n) (hn : n ≤ 1000) : (F_lawUorder [w, .d (.int n)]).sat (fun d outs => ∃ (l : List Int) (w' : DV), d = .d (.list (l.map .int)) ∧ outs = [w'] ∧ WL w' ∧ l.Perm (rgL 0 n)) nR := by
  rw [F_lawUorder, runF_sat]
  unfold m_lawUorder
  have hr : rgOk 0 n = true := rgOk_of (by omega) (by omega) (by omega) (by omega)
  simp [env0, ioP, rgD, hr, rgP_rgL]
  refine sat_while (fun k e => ∃ (w : DV) (left found : List Int) (o : Option DV), WL w ∧ e = [some w, some (.d (.int n)), some (.d (.list (left.map .int))), some (.d (.list (found.map .int))), o, none] ∧ left.length = k ∧ (found ++ left).Perm (rgL 0 n)) n.toNat (by show _ < 1000000; omega) ⟨w, rgL 0 n, [], none, hw, rfl, by rw [len_rgL]; omega, by simp⟩ ?_
  rintro k e ⟨w, left, found, o, hw, rfl, hk, hp⟩
  have hsz : found.length + left.length = n.toNat := by
    have := hp.length_eq
    rw [List.length_append, len_rgL] at this
    omega
  have hnd : left.Nodup := ((hp.nodup_iff.mpr nodup_rgL).sublist (List.sublist_append_right _ _))
  simp [neP_s shp_ints shp_e, eqv_nil]
  cases left with
  | nil =>
    simp
    exact ⟨found, rfl, hw, by simpa using hp⟩
  | cons i0 left0 =>
    generalize hL : i0 :: left0 = left at *
    have hne : left ≠ [] := by rw [← hL]; simp
    have : left.isEmpty = false := by rw [← hL]; rfl
    simp [this]
    refine (pick_sat (xs := left.map .int) hw (by simpa using hne) (by rw [List.length_map]; omega)).mono ?_
    rintro d outs ⟨x, w', rfl, rfl, hw', hx⟩
    obtain ⟨i, hi, rfl⟩ := List.mem_map.mp hx
    have hf : found.length < big := by show _ < 1000000; omega
    simp [putM, clrM, apO, hf]
    refine sat_comp (fun j => decide (j ≠ i)) .int (fun j hj => ?_) (by show _ ≤ 1000000; simp; omega) ?_
    · by_cases e : j = i <;> simp [neP_s shp_int shp_int, eqv_int, e]
    · simp
      refine ⟨(left.filter fun j => decide (j ≠ i)).length, ?_, w', hw', left.filter (fun j => decide (j ≠ i)), found ++ [i], ⟨by simp, by simp⟩, by simp, ?_⟩
      · rw [← hk, ← (filter_ne_perm hnd hi).length_eq]
        simp
      · refine List.Perm.trans ?_ hp
        rw [List.append_assoc]
        exact List.Perm.append_left _ (filter_ne_perm hnd hi)
theorem kept_ok {n : Int} {ps : List (Int × Int)} (hl : ps.length ≤ 1000) : F_lawUkept [.d (.int n), .d (.list (ps.map pairD))] = .ok (.d (gD n (srtB SrtO.lexB (keptL ps [])))) [] := by
  refine res_eq ?_
  rw [F_lawUkept, runF_sat]
  unfold m_lawUkept
  simp [env0, ioP, -List.map_map]
  rw [List.map_map]
  refine sat_for (enc := DV.d ∘ pairD) (fun rest e => ∃ (acc : List (Int × Int)) (x y z : Option DV), e = [some (.d (.int n)), some (.d (.list (ps.map pairD))), some (.d (.list (acc.map pairD))), x, y, z] ∧ acc.length + rest.length ≤ 1000 ∧ keptL rest acc = keptL ps []) ⟨[], none, none, none, rfl, by simpa using hl, rfl⟩ ?_ ?_
  · rintro p rest e ⟨acc, x, y, z, rfl, hln, hk⟩
    simp only [List.length_cons] at hln
    have hb : acc.length < big := by show _ < 1000000; omega
    have e1 : (.tuple [.int p.1, .int p.2] : PyData) = pairD p := rfl
    have e2 : (.tuple [.int p.2, .int p.1] : PyData) = pairD (p.2, p.1) := rfl
    have stop : keptL rest (if p.1 ≠ p.2 ∧ normP p ∉ acc then acc ++ [normP p] else acc) = keptL ps [] := hk
    simp [pairD]
    rw [e1, e2]
    simp [neP_s shp_int shp_int, eqv_int, notInP_pairs, apO, hb]
    have n1 : p.1 < p.2 → normP p = p := fun h => by unfold normP; rw [if_pos h]
    have n2 : ¬ p.1 < p.2 → normP p = (p.2, p.1) := fun h => by unfold normP; rw [if_neg h]
    refine ⟨fun h1 => ?_, fun h1 => ?_⟩
    · rw [n1 h1] at stop
      refine ⟨fun h2 => by omega, fun h2 => ⟨fun h3 => ⟨acc, rfl, by omega, ?_⟩, fun h3 => ⟨acc ++ [p], by simp, by simp; omega, ?_⟩⟩⟩ <;> simp [h2, h3] at stop <;> exact stop
    · rw [n2 (by omega)] at stop
      refine ⟨fun h2 => ⟨acc, rfl, by omega, ?_⟩, fun h2 => ⟨fun h3 => ⟨acc, rfl, by omega, ?_⟩, fun h3 => ⟨acc ++ [(p.2, p.1)], by simp, by simp; omega, ?_⟩⟩⟩
      · simp [h2] at stop; exact stop
      · simp [h2, h3] at stop; exact stop
      · simp [h2, h3] at stop; exact stop
  · rintro e ⟨acc, x, y, z, rfl, hln, hk⟩
    have hk : acc = keptL ps [] := hk
    subst hk
    simp [-List.map_map, sortP_pairs, tupleP, gD]
theorem fam2 : famB (F_lawUfamily [.d (.int 2)]) = true := by decide +kernel
theorem fam3 : famB (F_lawUfamily [.d (.int 3)]) = true := by decide +kernel
theorem fam4 : famB (F_lawUfamily [.d (.int 4)]) = true := by decide +kernel
theorem fam_of {lv : Int} (h : famB (F_lawUfamily [.d (.int lv)]) = true) : (F_lawUfamily [.d (.int lv)]).sat (fun d outs => ∃ gs : List PyData, d = .d (.list gs) ∧ outs = [] ∧ gs ≠ [] ∧ gs.length ≤ 100 ∧ ∀ g ∈ gs, ∃ n es, g = gD n es ∧ Nice n es ∧ 3 ≤ n) nR := by
  revert h
  cases F_lawUfamily [.d (.int lv)] with
  | bad => intro h; cases h
  | ex c g => intro h; cases h
  | ok d outs =>
    intro h
    unfold famB at h
    split at h
    · rename_i gs e
      cases e
      simp only [Bool.and_eq_true, decide_eq_true_eq, List.all_eq_true, Bool.not_eq_true', List.isEmpty_eq_false_iff] at h
      refine ⟨gs, rfl, rfl, h.1.1, h.1.2, fun g hg => ?_⟩
      have q := h.2 g hg
      cases e2 : getG g with
      | none => rw [e2] at q; cases q
      | some z =>
        obtain ⟨n, es⟩ := z
        rw [e2] at q
        simp only [niceB, Bool.and_eq_true, decide_eq_true_eq, List.all_eq_true] at q
        obtain ⟨⟨⟨⟨h1, h2⟩, h3⟩, h4⟩, h5⟩ := q
        exact ⟨n, es, getG_eq e2, ⟨by omega, h2, h3, h4, fun p hp => ⟨(h5 p hp).1.1, (h5 p hp).1.2, (h5 p hp).2⟩⟩, h1⟩
    · cases h
theorem fam_sat {lv : Int} (h : lv = 2 ∨ lv = 3 ∨ lv = 4) : (F_lawUfamily [.d (.int lv)]).sat (fun d outs => ∃ gs : List PyData, d = .d (.list gs) ∧ outs = [] ∧ gs ≠ [] ∧ gs.length ≤ 100 ∧ ∀ g ∈ gs, ∃ n es, g = gD n es ∧ Nice n es ∧ 3 ≤ n) nR := by
  rcases h with rfl | rfl | rfl
  · exact fam_of fam2
  · exact fam_of fam3
  · exact fam_of fam4
theorem pairs_ok {n : Int} (h0 : 0 ≤ n) (hn : n ≤ 100) : F_lawUpairsUof [.d (.int n)] = .ok (.d (.list ((pairsL n).map pairD))) [] := by
  refine res_eq ?_
  rw [F_lawUpairsUof, runF_sat]
  unfold m_lawUpairsUof
  have hrg : rgOk 0 n = true := rgOk_of (by omega) (by omega) (by omega) (by omega)
  simp [env0, ioP, rgI_ok hrg, rgP_rgL]
  refine sat_forD (enc := DV.d ∘ .int) (fun done e => ∃ (x : Option DV), e = [some (.d (.int n)), some (.d (.list ((done.flatMap fun a => (rgL (a + 1) n).map fun b => (a, b)).map pairD))), x, none]) ⟨none, rfl⟩ ?_ ?_
  · rintro done a rest e hr ⟨x, rfl⟩
    have ha : a ∈ rgL 0 n := by rw [← hr]; simp
    have ha := mem_rgL.mp ha
    have hrg : rgOk (a + 1) n = true := rgOk_of (by omega) (by omega) (by omega) (by omega)
    have hdl : done.length ≤ 100 := by
      have := congrArg List.length hr
      rw [List.length_append, len_rgL] at this
      omega
    have hb : ((done.flatMap fun a => (rgL (a + 1) n).map fun b => (a, b)).map pairD).length + ((rgL (a + 1) n).map fun b => pairD (a, b)).length ≤ big := by
      have h1 : (done.flatMap fun a => (rgL (a + 1) n).map fun b => (a, b)).length ≤ done.length * 200 := len_flat_le fun b hb => by
        have : b ∈ rgL 0 n := by rw [← hr]; simp [hb]
        have := mem_rgL.mp this
        simp [len_rgL]; omega
      rw [List.length_map, List.length_map, len_rgL]
      show _ ≤ 1000000
      omega
    simp [rgI_ok hrg, rgP_rgL, -List.map_map]
    rw [List.map_map]
    refine sat_compA (enc := DV.d ∘ .int) (fun b => pairD (a, b)) (fun j hj => ?_) (by show _ ≤ 1000000; simp [len_rgL]; omega) ?_
    · simp [pairD]
    · simp [addP_ll hb, -List.map_map, -List.length_map]
      simp [pairD]
  · rintro e ⟨x, rfl⟩
    simp [pairsL]
theorem named_sat {n : Int} {es : List (Int × Int)} {l : List Int} (hg : Nice n es) (hp : l.Perm (rgL 0 n)) : (F_lawUnamed [.d (gD n es), .d (.list (l.map .int))]).sat (fun d outs => ∃ es', d = .d (gD n es') ∧ outs = [] ∧ Nice n es' ∧ es'.length ≤ es.length) nR := by
  obtain ⟨g1, g2, g3, g4, g5⟩ := hg
  have hlen : (l.length : Int) = n := by rw [hp.length_eq, len_rgL]; omega
  have inl : ∀ i, 0 ≤ i → i < n → atI l i = some (atD l i) ∧ 0 ≤ atD l i ∧ atD l i < n := fun i h0 h1 => by
    obtain ⟨q1, q2⟩ := atD_ok (l := l) h0 (by omega)
    have := mem_rgL.mp (hp.mem_iff.mp q2)
    exact ⟨q1, this.1, this.2⟩
  rw [F_lawUnamed, runF_sat]
  unfold m_lawUnamed
  simp [env0, ioP, gD, atI_0, atI_1]
  refine sat_compA (enc := DV.d ∘ pairD) (fun p => pairD (atD l p.1, atD l p.2)) (fun p hp => ?_) (by show _ ≤ 1000000; simp; omega) ?_
  · have := g5 p hp
    simp [pairD, atI_map, (inl p.1 (by omega) (by omega)).1, (inl p.2 (by omega) (by omega)).1]
  · simp
    have e : (es.map fun p => pairD (atD l p.1, atD l p.2)) = (es.map fun p => (atD l p.1, atD l p.2)).map pairD := by simp
    rw [e, kept_ok (n := n) (ps := es.map fun p => (atD l p.1, atD l p.2)) (by simp; omega)]
    simp [putM, clrM]
    refine ⟨srtB SrtO.lexB (keptL (es.map fun p => (atD l p.1, atD l p.2)) []), rfl, nice_kept g1 g2 (Nat.le_trans keptL_len (by simpa using g3)) fun q hq => ?_, by rw [(srtB_perm _).length_eq]; exact Nat.le_trans keptL_len (by simp)⟩
    obtain ⟨p, hp, rfl⟩ := List.mem_map.mp hq
    have := g5 p hp
    have h1 := inl p.1 (by omega) (by omega)
    have h2 := inl p.2 (by omega) (by omega)
    exact ⟨h1.2.1, h1.2.2, h2.2.1, h2.2.2⟩
end Lk
namespace Lk
open PySem PySem.Spec L2
theorem eps_nice {n : Int} {ps : List (Int × Int)} (h1 : 1 ≤ n) (h2 : n ≤ 10) (h3 : ps.length ≤ 24) (h : EPs n ps) : Nice n (srtB SrtO.lexB (keptL ps [])) ∧ (srtB SrtO.lexB (keptL ps [])).length ≤ ps.length := by
  have hl : (keptL ps []).length ≤ ps.length := by have := keptL_len (ps := ps) (acc := []); simpa using this
  refine ⟨nice_kept h1 h2 (by omega) fun p hp => ?_, by rw [(srtB_perm _).length_eq]; exact hl⟩
  have := h p hp
  omega
theorem graph_sat {w : DV} {mo ed : Int} (hw : WL w) (hmo : 1 ≤ mo) (hmo2 : mo ≤ 10) (hed : 0 ≤ ed) (hed2 : ed ≤ 24) : (F_lawUgraph [w, .d (.int mo), .d (.int ed)]).sat (fun d outs => ∃ n es w', d = .d (gD n es) ∧ outs = [w'] ∧ WL w' ∧ Nice n es ∧ n ≤ mo ∧ (es.length : Int) ≤ ed) nR := by
  rw [F_lawUgraph, runF_sat]
  unfold m_lawUgraph
  simp [env0, ioP, -bsat_dec]
  refine (draw_sat (m := mo) hw (by omega) (by omega)).mono ?_
  rintro d outs ⟨r0, w0, rfl, rfl, hw0, hr0, hr1⟩
  simp [pairs_ok (n := 1 + r0) (by omega) (by omega), -sat_ifS]
  have pl := pairsL_len (n := 1 + r0) (by omega) (by omega)
  refine sat_mid (fun e => ∃ w o5 o6 o7 o8, WL w ∧ e = [some w, some (.d (.int mo)), some (.d (.int ed)), some (.d (.int (1 + r0))), some (.d (.list ((pairsL (1 + r0)).map pairD))), o5, o6, o7, o8, none, none, none]) ?_ ?_
  · rintro e ⟨w, o5, o6, o7, o8, hw, rfl⟩
    simp
    refine (draw_sat (m := 6) hw (by omega) (by omega)).mono ?_
    rintro d outs ⟨sh, w', rfl, rfl, hw', -, -⟩
    simp [-List.map_map]
    rw [List.map_map]
    refine sat_forD (enc := DV.d ∘ pairD) (fun done e => ∃ (w : DV) (ps : List (Int × Int)) (x : Option DV), WL w ∧ EPs (1 + r0) ps ∧ ps.length ≤ done.length ∧ (ps.length : Int) ≤ ed ∧ e = [some w, some (.d (.int mo)), some (.d (.int ed)), some (.d (.int (1 + r0))), some (.d (.list ((pairsL (1 + r0)).map pairD))), o5, o6, o7, x, some (.d (.list (ps.map pairD))), some (.d (.int (1 + sh))), none]) ⟨w', [], o8, hw', (fun _ h => nomatch h), by simp, by simpa using hed, rfl⟩ ?_ ?_
    · rintro done p rest e hd ⟨w, ps, x, hw, hps, hle, hln, rfl⟩
      have hp : p ∈ pairsL (1 + r0) := by rw [← hd]; simp
      have hp := mem_pairsL hp
      have hb : ps.length < big := by show _ < 1000000; omega
      simp [-sat_ifS]
      refine sat_mid (fun e => ∃ (w : DV) (ps' : List (Int × Int)) (x : Option DV), WL w ∧ EPs (1 + r0) ps' ∧ ps'.length ≤ ps.length + 1 ∧ (ps'.length : Int) ≤ ed ∧ e = [some w, some (.d (.int mo)), some (.d (.int ed)), some (.d (.int (1 + r0))), some (.d (.list ((pairsL (1 + r0)).map pairD))), o5, o6, o7, x, some (.d (.list (ps'.map pairD))), some (.d (.int (1 + sh))), none]) ?_ ?_
      · rintro e ⟨w, ps', x, hw, hps, hle', hln, rfl⟩
        simp
        exact ⟨w, hw, ps', hps, by omega, hln, rfl, rfl⟩
      · simp
        refine (draw_sat (m := 6) hw (by omega) (by omega)).mono ?_
        rintro d outs ⟨r, w', rfl, rfl, hw', -, -⟩
        simp [lenD, apO, hb]
        refine ⟨fun h1 => ⟨fun h2 => ⟨w', hw', ps ++ [p], fun q hq => ?_, by simp, by simp; omega, rfl, by simp⟩, fun h2 => ⟨w', hw', ps, hps, by omega, hln, rfl, rfl⟩⟩, fun h1 => ⟨w', hw', ps, hps, by omega, hln, rfl, rfl⟩⟩
        rcases List.mem_append.mp hq with hq | hq
        · exact hps q hq
        · rw [List.mem_singleton.mp hq]; exact hp
    · rintro e ⟨w, ps, x, hw, hps, hle, hln, rfl⟩
      obtain ⟨q1, q2⟩ := eps_nice (by omega) (by omega) (by omega) hps
      simp [kept_ok (n := 1 + r0) (ps := ps) (by omega)]
      exact ⟨1 + r0, _, rfl, hw, q1, by omega, by omega⟩
  · simp [-bsat_dec]
    refine (draw_sat (m := 3) hw0 (by omega) (by omega)).mono ?_
    rintro d outs ⟨r1, w1, rfl, rfl, hw1, -, -⟩
    simp [-bsat_dec]
    rw [bsat_dec]
    refine ⟨fun h1 => ?_, fun h1 => ?_⟩
    rotate_left
    · simp
      exact hw1
    simp
    refine (pickT_sat (xs := [.int 2, .int 3, .int 4]) hw1 (by simp) (by decide)).mono ?_
    rintro d outs ⟨x, w2, rfl, rfl, hw2, hx⟩
    obtain ⟨lv, rfl, hlv⟩ : ∃ lv : Int, x = .int lv ∧ (lv = 2 ∨ lv = 3 ∨ lv = 4) := by
      simp at hx
      rcases hx with rfl | rfl | rfl
      · exact ⟨2, rfl, by simp⟩
      · exact ⟨3, rfl, by simp⟩
      · exact ⟨4, rfl, by simp⟩
    simp [-bsat_dec]
    refine (fam_sat hlv).mono ?_
    rintro d outs ⟨gs, rfl, rfl, hg1, hg2, hg3⟩
    simp [-bsat_dec]
    refine (pick_sat hw2 hg1 (by omega)).mono ?_
    rintro d outs ⟨g, w3, rfl, rfl, hw3, hg⟩
    obtain ⟨n, es, rfl, hgn, hn3⟩ := hg3 g hg
    simp
    refine ⟨fun h2 => ⟨fun h3 => ?_, fun h3 => hw3⟩, fun h2 => hw3⟩
    have g0 := hgn.1
    have g1 := hgn.2.1
    refine (order_sat hw3 (by omega) (by omega)).mono ?_
    rintro d outs ⟨l, w4, rfl, rfl, hw4, hl⟩
    simp
    refine (named_sat hgn hl).mono ?_
    rintro d outs ⟨es', rfl, rfl, hg', hle'⟩
    simp
    refine (draw_sat (m := 4) hw4 (by omega) (by omega)).mono ?_
    rintro d outs ⟨r4, w5, rfl, rfl, hw5, h5, h6⟩
    have hrg : rgOk 0 r4 = true := rgOk_of (by omega) (by omega) (by omega) (by omega)
    obtain ⟨-, -, g3, -, g5⟩ := hg'
    have g5 : EPs n es' := g5
    have pln := pairsL_len (n := n) (by omega) (by omega)
    have pne := pairsL_ne (n := n) (by omega)
    simp [rgI_ok hrg, rgP_rgL]
    refine sat_forD (enc := DV.d ∘ .int) (fun done e => ∃ (w : DV) (ps : List (Int × Int)) (x y : Option DV), WL w ∧ EPs n ps ∧ (ps.length : Int) ≤ ed ∧ e = [some w, some (.d (.int mo)), some (.d (.int ed)), some (.d (.int (1 + r0))), some (.d (.list ((pairsL (1 + r0)).map pairD))), some (.d (gD n es')), some (.d (.list (ps.map pairD))), x, y, none, none, none]) ⟨w5, es', none, none, hw5, g5, by omega, rfl⟩ ?_ ?_
    · rintro done i rest e hd ⟨w, ps, x, y, hw, hps, hln, rfl⟩
      have hb : ps.length < big := by show _ < 1000000; omega
      simp [pairs_ok (n := n) (by omega) (by omega), -sat_ifS]
      refine (pick_sat hw (by simpa using pne) (by rw [List.length_map]; omega)).mono ?_
      rintro d outs ⟨z, w', rfl, rfl, hw', hz⟩
      obtain ⟨q, hq, rfl⟩ := List.mem_map.mp hz
      have hq := mem_pairsL hq
      simp [-sat_ifS]
      refine sat_mid (fun e => ∃ (w : DV) (ps : List (Int × Int)), WL w ∧ EPs n ps ∧ (ps.length : Int) ≤ ed ∧ e = [some w, some (.d (.int mo)), some (.d (.int ed)), some (.d (.int (1 + r0))), some (.d (.list ((pairsL (1 + r0)).map pairD))), some (.d (gD n es')), some (.d (.list (ps.map pairD))), some (.d (.int i)), some (.d (pairD q)), none, none, none]) ?_ ?_
      · rintro e ⟨w, ps, hw, hps, hln, rfl⟩
        simp
        exact ⟨w, hw, ps, hps, hln, rfl, rfl⟩
      · simp [-bsat_dec]
        refine (draw_sat (m := 2) hw' (by omega) (by omega)).mono ?_
        rintro d outs ⟨r, w2, rfl, rfl, hw2, -, -⟩
        have comp : ∀ {Q : List PyData → Ev → Prop} {X : XQ}, Q ((ps.filter fun p => decide (p ≠ q)).map pairD) [some w2, some (.d (.int mo)), some (.d (.int ed)), some (.d (.int (1 + r0))), some (.d (.list ((pairsL (1 + r0)).map pairD))), some (.d (gD n es')), some (.d (.list (ps.map pairD))), some (.d (.int i)), some (.d (pairD q)), none, none, none] →
            (compGo (.nm 11) [11] (asB (.v 9) (op2 (lift2 neP) (.sl 11) (.sl 8) (slotM 11) (slotM 8))) (slotM 11) (ps.map (DV.d ∘ pairD)) [] [some w2, some (.d (.int mo)), some (.d (.int ed)), some (.d (.int (1 + r0))), some (.d (.list ((pairsL (1 + r0)).map pairD))), some (.d (gD n es')), some (.d (.list (ps.map pairD))), some (.d (.int i)), some (.d (pairD q)), none, none, none]).sat Q X := by
          intro Q X hQ
          refine sat_comp (fun p => decide (p ≠ q)) pairD (fun p hp => ?_) (by show _ ≤ 1000000; simp; omega) hQ
          simp [neP_s shp_pair shp_pair, eqv_pair]
        have fin : ∃ w ps', WL w ∧ EPs n ps' ∧ (ps'.length : Int) ≤ ed ∧ w2 = w ∧ (ps.filter fun p => decide (p ≠ q)).map pairD = ps'.map pairD := ⟨w2, _, hw2, fun p hp => hps p (List.mem_filter.mp hp).1, by have := List.length_filter_le (fun p => decide (p ≠ q)) ps; omega, rfl, rfl⟩
        simp [-List.map_map]
        rw [List.map_map]
        refine ⟨fun h => ?_, fun h => ⟨fun h2 => ?_, fun h2 => ?_⟩⟩
        · refine comp ?_
          simpa using fin
        · refine comp ?_
          simpa using fin
        · simp [apO, hb]
          refine ⟨w2, hw2, ps ++ [q], fun p hp => ?_, by simp; omega, rfl, by simp⟩
          rcases List.mem_append.mp hp with hp | hp
          · exact hps p hp
          · rw [List.mem_singleton.mp hp]; exact hq
    · rintro e ⟨w, ps, x, y, hw, hps, hln, rfl⟩
      obtain ⟨q1, q2⟩ := eps_nice (by omega) (by omega) (by omega) hps
      simp [kept_ok (n := n) (ps := ps) (by omega)]
      exact ⟨n, _, rfl, hw, q1, by omega, by omega⟩
end Lk
namespace Lk
open PySem PySem.Spec L2
/-! what the program's looks tell of anything -/
def isW : PyData → Bool
  | .int _ => true
  | _ => false
def isB (lo hi : Int) : PyData → Bool
  | .int i => decide (lo ≤ i) && decide (i ≤ hi)
  | _ => false
theorem whole_eq (x : PyData) : F_isUwhole [.d x] = .ok (.d (.bool (isW x))) [] := by
  refine res_eq ?_
  rw [F_isUwhole, runF_sat]
  unfold m_isUwhole
  cases x <;> simp [env0, ioP, tyName, isTy, isW]
theorem between_eq (x : PyData) (lo hi : Int) : F_isUbetween [.d x, .d (.int lo), .d (.int hi)] = .ok (.d (.bool (isB lo hi x))) [] := by
  refine res_eq ?_
  rw [F_isUbetween, runF_sat]
  unfold m_isUbetween
  simp [env0, ioP, whole_eq]
  cases x <;> simp [isW, isB]
  exact ⟨fun h _ => h, fun h h2 => by omega⟩
def isE (n : Int) : PyData → Bool
  | .tuple [.int a, .int b] => decide (0 ≤ a) && decide (a ≤ n - 1) && (decide (0 ≤ b) && decide (b ≤ n - 1)) && decide (a < b)
  | _ => false
theorem allP_map {α : Type} (p : α → Bool) (xs : List α) : allP (.list (xs.map fun x => .bool (p x))) = some (.bool (xs.all p)) := by
  have key : ∀ xs : List α, getBs (xs.map fun x => .bool (p x)) = some (xs.map p) := by
    intro xs
    induction xs with
    | nil => rfl
    | cons x xs ih => simp only [List.map_cons, getBs, ih]
  show (getBs (xs.map fun x => .bool (p x))).map _ = _
  rw [key]
  simp [List.all_map]
theorem edge_eq (n : Int) (x : PyData) : F_isUedgeUof [.d (.int n), .d x] = .ok (.d (.bool (isE n x))) [] := by
  refine res_eq ?_
  rw [F_isUedgeUof, runF_sat]
  unfold m_isUedgeUof
  cases x with
  | tuple xs =>
    simp [env0, ioP, tyName, isTy]
    match xs with
    | [a, b] =>
      simp
      refine sat_compA (enc := DV.d) (fun x => .bool (isB 0 (n - 1) x)) (xs := [a, b]) (fun x hx => ?_) (by show 2 ≤ 1000000; omega) ?_
      · simp [between_eq]
      · have h2 := allP_map (isB 0 (n - 1)) [a, b]
        simp at h2
        simp [h2]
        cases h : isB 0 (n - 1) a with
        | false =>
          simp
          cases a <;> cases b <;> simp_all [isB, isE]
          omega
        | true =>
          cases h' : isB 0 (n - 1) b with
          | false =>
            simp
            cases a <;> cases b <;> simp_all [isB, isE]
            omega
          | true =>
            cases a <;> cases b <;> simp_all [isB, isE, atI_0, atI_1]
    | [] => simp [isE]
    | [a] => simp [isE]
    | a :: b :: c :: r =>
      simp
      exact ⟨fun h => absurd h (by omega), fun _ => by simp [isE]⟩
  | _ => simp [env0, ioP, tyName, isTy, isE]
def isG : PyData → Bool
  | .tuple [.int n, .tuple es] => decide (1 ≤ n) && decide (n ≤ 10) && decide (es.length ≤ 24) && es.all (isE n) && (match getPs es with
    | some ps => (ps.zip ps.tail).all fun z => SrtO.lexB z.1 z.2
    | none => false)
  | _ => false
theorem isE_pair {n : Int} {x : PyData} (h : isE n x = true) : ∃ p : Int × Int, x = pairD p ∧ 0 ≤ p.1 ∧ p.1 < p.2 ∧ p.2 < n := by
  unfold isE at h
  split at h
  · rename_i a b
    simp only [Bool.and_eq_true, decide_eq_true_eq] at h
    exact ⟨(a, b), rfl, h.1.1.1, h.2, by omega⟩
  · cases h
theorem isE_pairs {n : Int} : ∀ {es : List PyData}, es.all (isE n) = true → ∃ ps : List (Int × Int), es = ps.map pairD ∧ EPs n ps
  | [], _ => ⟨[], rfl, fun _ h => nomatch h⟩
  | x :: es, h => by
    simp only [List.all_cons, Bool.and_eq_true] at h
    obtain ⟨p, rfl, hp⟩ := isE_pair h.1
    obtain ⟨ps, rfl, hps⟩ := isE_pairs h.2
    refine ⟨p :: ps, rfl, fun q hq => ?_⟩
    rcases List.mem_cons.mp hq with rfl | hq
    · exact hp
    · exact hps q hq
theorem isE_of {n : Int} {p : Int × Int} (h : 0 ≤ p.1 ∧ p.1 < p.2 ∧ p.2 < n) : isE n (pairD p) = true := by
  simp [isE, pairD]
  omega
theorem pw_chain {ps : List (Int × Int)} : ((ps.zip ps.tail).all fun z => SrtO.lexB z.1 z.2) = true ↔ ps.Pairwise fun p q => SrtO.lexB p q = true := by
  constructor
  · intro h
    have key : ∀ (ps : List (Int × Int)), ((ps.zip ps.tail).all fun z => SrtO.lexB z.1 z.2) = true → ps.Pairwise fun p q => SrtO.lexB p q = true := by
      intro ps
      induction ps with
      | nil => intro _; exact List.Pairwise.nil
      | cons p ps ih =>
        intro h
        cases ps with
        | nil => exact List.pairwise_singleton _ _
        | cons q ps =>
          simp only [List.tail_cons, List.zip_cons_cons, List.all_cons, Bool.and_eq_true] at h
          have i := ih (by simpa using h.2)
          refine List.pairwise_cons.mpr ⟨fun r hr => ?_, i⟩
          rcases List.mem_cons.mp hr with rfl | hr
          · exact h.1
          · exact tot_pair.tr _ _ _ h.1 ((List.pairwise_cons.mp i).1 r hr)
    exact key ps h
  · intro h
    rw [List.all_eq_true]
    intro z hz
    exact zip_tail_mem h z hz
theorem isG_iff {x : PyData} : isG x = true ↔ ∃ n es, x = gD n es ∧ Nice n es := by
  constructor
  · intro h
    unfold isG at h
    split at h
    · rename_i n es
      simp only [Bool.and_eq_true, decide_eq_true_eq] at h
      obtain ⟨⟨⟨⟨h1, h2⟩, h3⟩, h4⟩, h5⟩ := h
      obtain ⟨ps, rfl, hps⟩ := isE_pairs h4
      rw [getPs_map] at h5
      exact ⟨n, ps, rfl, h1, h2, by simpa using h3, pw_chain.mp h5, hps⟩
    · cases h
  · rintro ⟨n, es, rfl, h1, h2, h3, h4, h5⟩
    simp only [isG, gD, Bool.and_eq_true, decide_eq_true_eq, getPs_map]
    exact ⟨⟨⟨⟨h1, h2⟩, by simpa using h3⟩, List.all_eq_true.mpr fun x hx => by obtain ⟨p, hp, rfl⟩ := List.mem_map.mp hx; exact isE_of (h5 p hp)⟩, pw_chain.mpr h4⟩
theorem graph_eq (x : PyData) : F_isUgraphUby [.d x] = .ok (.d (.bool (isG x))) [] := by
  refine res_eq ?_
  rw [F_isUgraphUby, runF_sat]
  unfold m_isUgraphUby
  cases x with
  | tuple xs =>
    match xs with
    | [a, b] =>
      simp [env0, ioP, tyName, isTy, atI_0, between_eq]
      cases hb : isB 1 10 a with
      | false =>
        simp
        cases a <;> simp [isB, isG] at hb ⊢
        cases b <;> simp
        intro h1 h2
        exact absurd h2 (by have := hb h1; omega)
      | true =>
        obtain ⟨n, rfl, hn1, hn2⟩ : ∃ n : Int, a = .int n ∧ 1 ≤ n ∧ n ≤ 10 := by
          cases a <;> simp [isB] at hb
          exact ⟨_, rfl, hb.1, hb.2⟩
        cases b with
        | tuple es =>
          simp [tyName, isTy]
          refine ⟨fun h => ?_, fun h => ?_⟩
          · simp [isG]
            omega
          · refine sat_compA (enc := DV.d) (fun x => .bool (isE n x)) (fun x hx => ?_) (by show _ ≤ 1000000; simp; omega) ?_
            · simp [edge_eq]
            · simp [allP_map]
              cases he : es.all (isE n) with
              | false =>
                simp
                simp only [isG, he, Bool.and_false, Bool.false_and]
              | true =>
                obtain ⟨ps, rfl, hps⟩ := isE_pairs he
                simp [slD, cut1, ← List.map_tail, zip_pairs, -List.map_map]
                rw [List.map_map]
                refine sat_compA (fun z => .bool (SrtO.lexB z.1 z.2)) (fun z hz => ?_) (by show _ ≤ 1000000; simp at h ⊢; omega) ?_
                · simp [cmp_pair]
                · simp [allP_map]
                  simp only [isG, he, getPs_map]
                  simp [hn1, hn2]
                  simp at h
                  omega
        | _ => simp [tyName, isTy, isG]
    | [] => simp [env0, ioP, tyName, isTy, isG]
    | [a] => simp [env0, ioP, tyName, isTy, isG]
    | a :: b :: c :: r =>
      simp [env0, ioP, tyName, isTy]
      exact ⟨fun h => absurd h (by omega), fun _ => by simp [isG]⟩
  | _ => simp [env0, ioP, tyName, isTy, isG]
end Lk
namespace Lk
open PySem PySem.Spec L2
theorem nb_eq {n v : Int} {es : List (Int × Int)} (h24 : es.length ≤ 1000) : F_lawUneighbours [.d (gD n es), .d (.int v)] = .ok (.d (.list ((nbL v es).map .int))) [] := by
  refine res_eq ?_
  rw [F_lawUneighbours, runF_sat]
  unfold m_lawUneighbours
  simp [env0, ioP]
  refine sat_comp (enc := DV.d ∘ pairD) (fun p => decide (p.1 = v ∨ p.2 = v)) (fun p => .int (p.1 + p.2 - v)) (fun p hp => ?_) (by show _ ≤ 1000000; simp; omega) ?_
  · simp only [Function.comp_apply, tg_pair]
    by_cases q : p.1 = v ∨ p.2 = v
    · simp [inP_vp, mk_p', q]
    · simp [inP_vp, mk_p', q]
  · have e : ((es.filter fun p => decide (p.1 = v ∨ p.2 = v)).map fun p => PyData.int (p.1 + p.2 - v)) = ((es.filter fun p => decide (p.1 = v ∨ p.2 = v)).map fun p => p.1 + p.2 - v).map .int := by rw [List.map_map]; rfl
    rw [List.nil_append, e]
    simp [sortP_ints, nbL, -List.map_map]
end Lk
namespace Lk
open PySem PySem.Spec L2
theorem well_sat {ns : List Int} {t : Int} (ht : 0 ≤ t) : (F_lawUwell [.s ns, .d (.int t)]).sat (fun d outs => WL d ∧ outs = []) nR := by
  have hpow : powP (.int 10) (.int 16) = some (.int 10000000000000000) := by simp [powP]
  obtain ⟨xs, hxs⟩ : ∃ xs : List Int, slD (.s ns) none (some 11) = some (.d (.list (xs.map .int))) := ⟨_, rfl⟩
  rw [F_lawUwell, runF_sat]
  unfold m_lawUwell
  simp [env0, ioP, -sat_setM]
  refine sat_mid (fun e => ∃ own : Int, e = [some (.s ns), some (.d (.int t)), some (.d (.int own)), none, none]) ?_ ?_
  · rintro e ⟨own, rfl⟩
    simp [hxs]
    refine sat_for (enc := DV.d ∘ .int) (fun rest e => ∃ (m : Int) (x : Option DV), e = [some (.s ns), some (.d (.int t)), some (.d (.int own)), some (.d (.int m)), x]) ⟨_, _, rfl⟩ ?_ ?_
    · rintro c rest e ⟨m, x, rfl⟩
      simp
    · rintro e ⟨m, x, rfl⟩
      simp [absP, hpow]
      exact ⟨fun _ => ⟨_, _, _, rfl⟩, fun _ => ⟨_, _, _, rfl⟩⟩
  · simp [lenD]
    intro h
    obtain ⟨x, hx, _⟩ := atI_in ht h
    simp [hx]
end Lk
namespace Lk
open PySem PySem.Spec L2
theorem rgL_get {n : Int} {m : Nat} : (rgL 0 n)[m]? = if m < n.toNat then some (m : Int) else none := by
  unfold rgL
  rw [List.getElem?_map, show (n - 0).toNat = n.toNat by simp]
  by_cases h : m < n.toNat
  · rw [if_pos h, List.getElem?_range h]; simp
  · rw [if_neg h, List.getElem?_eq_none (by simpa using h)]; rfl
theorem ixN_in {n : Nat} {i : Int} (h0 : 0 ≤ i) (h1 : i < n) : ixN n i = some i.toNat := by
  unfold ixN
  rw [if_pos h0, if_pos h1]
theorem atI_rg {α : Type} {n a : Int} {g : Int → α} (h0 : 0 ≤ a) (h1 : a < n) : atI ((rgL 0 n).map g) a = some (g a) := by
  unfold atI
  rw [ixN_in h0 (by rw [List.length_map, len_rgL]; omega)]
  show ((rgL 0 n).map g)[a.toNat]? = _
  rw [List.getElem?_map, rgL_get, if_pos (by omega)]
  simp
  rw [show max a 0 = a by omega]
def rowD (f : Int → List Int) (v : Int) : PyData := .list ((f v).map .int)
theorem set_rg {α : Type} {n a : Int} {g : Int → α} {x : α} (h0 : 0 ≤ a) (h1 : a < n) : ((rgL 0 n).map g).set a.toNat x = (rgL 0 n).map fun v => if v = a then x else g v := by
  apply List.ext_getElem?
  intro m
  rw [List.getElem?_set, List.getElem?_map, List.getElem?_map, rgL_get, List.length_map, len_rgL]
  by_cases hm : a.toNat = m
  · rw [if_pos hm, if_pos (by omega), if_pos (by omega)]
    simp
    intro h; omega
  · rw [if_neg hm]
    split
    · simp
      intro h; omega
    · rfl
theorem apIx_rows {e : Ev} {j i z : Nat} {n a b : Int} {f : Int → List Int} (hj : slot e j = some (.d (.list ((rgL 0 n).map (rowD f))))) (hi : slot e i = some (.d (.int a))) (hz : slot e z = some (.d (.int b))) (h0 : 0 ≤ a) (h1 : a < n) (hl : (f a).length < big) :
    apIxO j i z e = some (e.set j (some (.d (.list ((rgL 0 n).map (rowD fun v => if v = a then f v ++ [b] else f v)))))) := by
  have hix : ixN ((rgL 0 n).map (rowD f)).length a = some a.toNat := ixN_in h0 (by rw [List.length_map, len_rgL]; omega)
  have hat : ((rgL 0 n).map (rowD f))[a.toNat]? = some (.list ((f a).map .int)) := by
    rw [List.getElem?_map, rgL_get, if_pos (by omega)]
    simp [rowD]
    rw [show max a 0 = a by omega]
  unfold apIxO
  rw [hj, hi, hz]
  simp only [hix, hat]
  rw [if_pos (by rw [List.length_map]; exact hl), set_rg h0 h1]
  refine congrArg (fun l => some (e.set j (some (DV.d (.list l))))) (List.map_congr_left fun v hv => ?_)
  unfold rowD
  by_cases q : v = a
  · subst q; simp
  · simp [q]
def nbX (v : Int) (es : List (Int × Int)) : List Int := (es.filter fun p => decide (p.1 = v ∨ p.2 = v)).map fun p => p.1 + p.2 - v
theorem nbX_len {v : Int} {es : List (Int × Int)} : (nbX v es).length ≤ es.length := by
  unfold nbX
  rw [List.length_map]
  exact List.length_filter_le _ _
theorem nbX_add {v : Int} {done : List (Int × Int)} {p : Int × Int} (hp : p.1 < p.2) : nbX v (done ++ [p]) = if v = p.2 then (if v = p.1 then nbX v done ++ [p.2] else nbX v done) ++ [p.1] else (if v = p.1 then nbX v done ++ [p.2] else nbX v done) := by
  unfold nbX
  rw [List.filter_append, List.map_append]
  by_cases q1 : v = p.1
  · have q2 : v ≠ p.2 := by omega
    subst q1
    simp [q2]
    omega
  · by_cases q2 : v = p.2
    · subst q2
      have : p.1 ≠ p.2 := by omega
      simp [q1]
    · have e1 : ¬ p.1 = v := fun h => q1 h.symm
      have e2 : ¬ p.2 = v := fun h => q2 h.symm
      simp [q1, q2, e1, e2]
theorem nbs_by {n : Int} {es : List (Int × Int)} (hg : Nice n es) : F_neighboursUby [.d (gD n es)] = .ok (.d (.list ((rgL 0 n).map (rowD fun v => nbL v es)))) [] := by
  have h1 := hg.1
  have h2 := hg.2.1
  have h24 := hg.2.2.1
  have hrg : rgOk 0 n = true := rgOk_of (by omega) (by omega) (by omega) (by omega)
  refine res_eq ?_
  rw [F_neighboursUby, runF_sat]
  unfold m_neighboursUby
  simp [env0, ioP, rgI_ok hrg, rgP_rgL]
  refine sat_compA (enc := DV.d ∘ .int) (fun v => rowD (fun v => nbX v []) v) (fun v hv => ?_) (by show _ ≤ 1000000; simp [len_rgL]; omega) ?_
  · simp [rowD, nbX]
  · rw [List.nil_append]
    simp [-List.map_map]
    rw [List.map_map]
    refine sat_forD (enc := DV.d ∘ pairD) (fun done e => ∃ x y : Option DV, e = [some (.d (gD n es)), some (.d (.list ((rgL 0 n).map (rowD fun v => nbX v done)))), x, y, none, none]) ⟨none, none, rfl⟩ ?_ ?_
    · rintro done p rest e hd ⟨x, y, rfl⟩
      have hp : p ∈ es := by rw [← hd]; simp
      have pr := hg.2.2.2.2 p hp
      have hdl : done.length ≤ 24 := by
        have := congrArg List.length hd
        rw [List.length_append] at this
        omega
      have l1 := nbX_len (v := p.1) (es := done)
      have l2 := nbX_len (v := p.2) (es := done)
      have a1 := apIx_rows (e := [some (.d (gD n es)), some (.d (.list ((rgL 0 n).map (rowD fun v => nbX v done)))), some (.d (.int p.1)), some (.d (.int p.2)), none, none]) (j := 1) (i := 2) (z := 3) (n := n) (a := p.1) (b := p.2) (f := fun v => nbX v done) rfl rfl rfl (by omega) (by omega) (by show _ < 1000000; omega)
      have a2 := apIx_rows (e := [some (.d (gD n es)), some (.d (.list ((rgL 0 n).map (rowD fun v => if v = p.1 then nbX v done ++ [p.2] else nbX v done)))), some (.d (.int p.1)), some (.d (.int p.2)), none, none]) (j := 1) (i := 3) (z := 2) (n := n) (a := p.2) (b := p.1) (f := fun v => if v = p.1 then nbX v done ++ [p.2] else nbX v done) rfl rfl rfl (by omega) (by omega) (by
        show _ < 1000000
        split
        · rw [List.length_append]; simp; omega
        · omega)
      simp [a1, a2]
      refine fun v hv => ?_
      unfold rowD
      exact congrArg (fun l : List Int => PyData.list (l.map .int)) (nbX_add (v := v) (done := done) (p := p) (by omega)).symm
    · rintro e ⟨x, y, rfl⟩
      simp [-List.map_map]
      rw [List.map_map]
      refine sat_compA (enc := DV.d ∘ rowD fun v => nbX v es) (fun v => rowD (fun v => nbL v es) v) (fun v hv => ?_) (by show _ ≤ 1000000; simp [len_rgL]; omega) ?_
      · simp [rowD, sortP_ints, nbL, nbX, -List.map_map]
      · simp
end Lk
namespace Lk
open PySem PySem.Spec L2
theorem law_whole_eq (x : PyData) : F_lawUisUwhole [.d x] = .ok (.d (.bool (isW x))) [] := by
  refine res_eq ?_
  rw [F_lawUisUwhole, runF_sat]
  unfold m_lawUisUwhole
  cases x <;> simp [env0, ioP, tyName, isTy, isW]
theorem law_upto_eq (x : PyData) (lo hi : Int) : F_lawUisUupUto [.d x, .d (.int lo), .d (.int hi)] = .ok (.d (.bool (isB lo hi x))) [] := by
  refine res_eq ?_
  rw [F_lawUisUupUto, runF_sat]
  unfold m_lawUisUupUto
  simp [env0, ioP, law_whole_eq]
  cases x <;> simp [isW, isB]
  exact ⟨fun h _ => h, fun h h2 => by omega⟩
theorem addP_tt {xs ys : List PyData} (h : xs.length + ys.length ≤ big) : addP (.tuple xs) (.tuple ys) = some (.tuple (xs ++ ys)) := by
  unfold addP
  simp [h]
theorem strange_sat {w : DV} (hw : WL w) : (F_lawUstrange [w]).sat (fun d outs => ∃ x w', d = .d x ∧ outs = [w'] ∧ WL w' ∧ Thg 5 100 x) nR := by
  rw [F_lawUstrange, runF_sat]
  unfold m_lawUstrange
  have hpow : powP (.int 10) (.int 30) = some (.int 1000000000000000000000000000000) := by simp [powP]
  simp [env0, ioP, addP_tt, big, negP, lift1, hpow]
  refine Res.sat.mono (pickT_sat hw ?_ ?_) ?_
  · simp
  · decide
  rintro d outs ⟨x, w', rfl, rfl, hw', hx⟩
  simp
  refine ⟨hw', thgB_ok ?_⟩
  revert x
  decide +kernel
end Lk
namespace Lk
open PySem PySem.Spec L2
/-! what can be reached, plain -/
def stepL (nb : Int → List Int) (lot found : List Int) (v : Int) : List Int := found ++ (nb v).filter fun x => decide (x ∈ lot ∧ x ∉ found)
def reachL (nb : Int → List Int) (lot : List Int) : Nat → List Int → Nat → List Int
  | 0, found, _ => found
  | k + 1, found, i => match found[i]? with
    | some v => reachL nb lot k (stepL nb lot found v) (i + 1)
    | none => found
theorem nodup_sub_len : ∀ {l m : List Int}, l.Nodup → (∀ x ∈ l, x ∈ m) → l.length ≤ m.length
  | [], _, _, _ => by simp
  | x :: l, m, hn, hs => by
    obtain ⟨n1, n2⟩ := List.nodup_cons.mp hn
    have hx := hs x List.mem_cons_self
    have := nodup_sub_len (l := l) (m := m.erase x) n2 fun y hy => by
      have hne : y ≠ x := fun e => n1 (e ▸ hy)
      exact (List.mem_erase_of_ne hne).mpr (hs y (List.mem_cons_of_mem _ hy))
    rw [List.length_erase_of_mem hx] at this
    have hp := List.length_pos_of_mem hx
    simp only [List.length_cons]
    omega
theorem step_ok {nb : Int → List Int} {lot found : List Int} {v : Int} (hnb : (nb v).Nodup) (h1 : found.Nodup) (h2 : ∀ x ∈ found, x ∈ lot) : (stepL nb lot found v).Nodup ∧ ∀ x ∈ stepL nb lot found v, x ∈ lot := by
  unfold stepL
  refine ⟨List.nodup_append.mpr ⟨h1, hnb.sublist List.filter_sublist, ?_⟩, fun x hx => ?_⟩
  · rintro p hp q hq rfl
    have := (List.mem_filter.mp hq).2
    simp [hp] at this
  · rcases List.mem_append.mp hx with hx | hx
    · exact h2 x hx
    · have := (List.mem_filter.mp hx).2
      simp at this
      exact this.1
/-- what comes out: it holds what was found, lies in the lot, and is closed in it -/
theorem reach_ok {nb : Int → List Int} {lot : List Int} (hnb : ∀ v, (nb v).Nodup) : ∀ {k : Nat} {found : List Int} {i : Nat}, found.Nodup → (∀ x ∈ found, x ∈ lot) → lot.length < k + i → i ≤ found.length →
    (∀ j < i, ∀ v, found[j]? = some v → ∀ x ∈ nb v, x ∈ lot → x ∈ found) →
    (reachL nb lot k found i).Nodup ∧ (∀ x ∈ reachL nb lot k found i, x ∈ lot) ∧ (∀ x ∈ found, x ∈ reachL nb lot k found i) ∧ ∀ v ∈ reachL nb lot k found i, ∀ x ∈ nb v, x ∈ lot → x ∈ reachL nb lot k found i
  | 0, found, i, h1, h2, hk, hi, hc => by
    have := nodup_sub_len h1 h2
    omega
  | k + 1, found, i, h1, h2, hk, hi, hc => by
    unfold reachL
    cases hv : found[i]? with
    | none =>
      have hl : found.length ≤ i := List.getElem?_eq_none_iff.mp hv
      refine ⟨h1, h2, fun _ h => h, fun v (hv : v ∈ found) x hx hl2 => ?_⟩
      obtain ⟨j, hj, e⟩ := List.getElem_of_mem hv
      exact hc j (by omega) v (by rw [List.getElem?_eq_getElem hj, e]) x hx hl2
    | some v =>
      have hi2 : i < found.length := (List.getElem?_eq_some_iff.mp hv).1
      obtain ⟨s1, s2⟩ := step_ok (lot := lot) (hnb v) h1 h2
      have sub : ∀ x ∈ found, x ∈ stepL nb lot found v := fun x hx => List.mem_append_left _ hx
      obtain ⟨r1, r2, r3, r4⟩ := reach_ok hnb (k := k) (found := stepL nb lot found v) (i := i + 1) s1 s2 (by omega) (by unfold stepL; rw [List.length_append]; omega) fun j hj u hu x hx hl2 => by
        by_cases e : j = i
        · subst e
          have hu' : found[j]? = some u := by
            unfold stepL at hu
            rwa [List.getElem?_append_left hi2] at hu
          rw [hv] at hu'
          cases hu'
          by_cases q : x ∈ found
          · exact sub x q
          · exact List.mem_append_right _ (List.mem_filter.mpr ⟨hx, by simp [q, hl2]⟩)
        · have hu' : found[j]? = some u := by
            unfold stepL at hu
            rwa [List.getElem?_append_left (by omega)] at hu
          exact sub x (hc j (by omega) u hu' x hx hl2)
      exact ⟨r1, r2, fun x hx => r3 x (sub x hx), r4⟩
def tupI (l : List Int) : PyData := .tuple (l.map .int)
theorem alike_ints : ∀ l m : List Int, PySem.W.alikeAll (l.map .int) (m.map .int) = true
  | [], _ => by simp [PySem.W.alikeAll]
  | _ :: _, [] => by simp [PySem.W.alikeAll]
  | a :: l, b :: m => by simp [PySem.W.alikeAll, PySem.W.alike, alike_ints l m]
theorem shp_tupI {l : List Int} : Shp 1 (tupI l) := shp_tuple fun z hz => by
  obtain ⟨i, _, rfl⟩ := List.mem_map.mp hz
  exact shp_int
theorem nbX_nodup {v : Int} {es : List (Int × Int)} (h : es.Nodup) (hp : ∀ p ∈ es, p.1 < p.2) : (nbX v es).Nodup := by
  unfold nbX
  refine List.pairwise_map.mpr ?_
  refine List.Pairwise.imp_of_mem (fun {p q} hp1 hq1 hne e => ?_) (h.sublist List.filter_sublist)
  obtain ⟨p1, p2⟩ := List.mem_filter.mp hp1
  obtain ⟨q1, q2⟩ := List.mem_filter.mp hq1
  simp only [decide_eq_true_eq] at p2 q2
  have := hp p p1
  have := hp q q1
  refine hne (Prod.ext ?_ ?_) <;> omega
theorem nbL_nodup {n v : Int} {es : List (Int × Int)} (hg : Nice n es) : (nbL v es).Nodup := (srtB_perm _).nodup_iff.mpr (nbX_nodup (strict_nodup hg.2.2.2.1) fun p hp => (hg.2.2.2.2 p hp).2.1)
theorem nb_sym {es : List (Int × Int)} (u x : Int) (h : x ∈ nbL u es) : u ∈ nbL x es := mem_nb.mpr (mem_nb.mp h).symm
theorem nb_rg {n v x : Int} {es : List (Int × Int)} (hg : Nice n es) (h : x ∈ nbL v es) : 0 ≤ x ∧ x < n := by
  rcases mem_nb.mp h with q | q
  · have := hg.2.2.2.2 _ q; simp only at this; omega
  · have := hg.2.2.2.2 _ q; simp only at this; omega
theorem inP_ints {v : Int} {l : List Int} : inP (.int v) (.list (l.map .int)) = some (.bool (decide (v ∈ l))) := by
  rw [inP_l shp_int shp_ints]
  refine congrArg (fun b => some (PyData.bool b)) ?_
  rw [Bool.eq_iff_iff]
  simp [eqv_int]
theorem inP_intsT {v : Int} {l : List Int} : inP (.int v) (.tuple (l.map .int)) = some (.bool (decide (v ∈ l))) := by
  rw [inP_t shp_int (shp_tupI (l := l))]
  refine congrArg (fun b => some (PyData.bool b)) ?_
  rw [Bool.eq_iff_iff]
  simp [eqv_int]
theorem notInP_ints {v : Int} {l : List Int} : notInP (.int v) (.list (l.map .int)) = some (.bool (!decide (v ∈ l))) := by
  unfold notInP
  rw [inP_ints]
  rfl
theorem notInP_intsT {v : Int} {l : List Int} : notInP (.int v) (.tuple (l.map .int)) = some (.bool (!decide (v ∈ l))) := by
  unfold notInP
  rw [inP_intsT]
  rfl
theorem neP_ints {l : List Int} : neP (.list (l.map .int)) (.list []) = some (.bool (!l.isEmpty)) := by
  rw [neP_s shp_ints shp_e, eqv_nil]
  simp
theorem atI_ints {l : List Int} {i : Nat} {v : Int} (h : l[i]? = some v) : atI (l.map PyData.int) (i : Int) = some (.int v) := by
  have hi := (List.getElem?_eq_some_iff.mp h).1
  unfold atI ixN
  rw [if_pos (by omega), if_pos (by rw [List.length_map]; omega)]
  show (l.map PyData.int)[(i : Int).toNat]? = _
  rw [show (i : Int).toNat = i by omega, List.getElem?_map, h]
  rfl
def growL (left found done : List Int) : List Int := found ++ done.filter fun x => decide (x ∈ left ∧ x ∉ found)
theorem grow_snoc {left found done : List Int} {x : Int} : growL left found (done ++ [x]) = if x ∈ left ∧ x ∉ found then growL left found done ++ [x] else growL left found done := by
  unfold growL
  rw [List.filter_append, ← List.append_assoc]
  by_cases q : x ∈ left ∧ x ∉ found
  · rw [if_pos q, List.filter_cons_of_pos (by simpa using q)]
    rfl
  · rw [if_neg q, List.filter_cons_of_neg (by simpa using q)]
    simp
theorem grow_mem {left found done : List Int} {x : Int} (hx : x ∉ done) : x ∈ growL left found done ↔ x ∈ found := by
  unfold growL
  rw [List.mem_append]
  exact ⟨fun q => q.elim id fun q => absurd (List.mem_filter.mp q).1 hx, .inl⟩
theorem grow_len {left found done : List Int} : (growL left found done).length ≤ found.length + done.length := by
  unfold growL
  rw [List.length_append]
  have := List.length_filter_le (fun x => decide (x ∈ left ∧ x ∉ found)) done
  omega
theorem grow_nil {left found : List Int} : growL left found [] = found := by simp [growL]
theorem reach_stop {nb : Int → List Int} {lot found : List Int} {k i : Nat} (h : found.length ≤ i) : reachL nb lot k found i = found := by
  cases k with
  | zero => rfl
  | succ k =>
    show (match found[i]? with
      | some v => reachL nb lot k (stepL nb lot found v) (i + 1)
      | none => found) = found
    rw [List.getElem?_eq_none h]
theorem reach_go {nb : Int → List Int} {lot found : List Int} {k i : Nat} {u : Int} (h : found[i]? = some u) : reachL nb lot (k + 1) found i = reachL nb lot k (stepL nb lot found u) (i + 1) := by
  show (match found[i]? with
    | some v => reachL nb lot k (stepL nb lot found v) (i + 1)
    | none => found) = _
  rw [h]
theorem law_reachedT {n v : Int} {es : List (Int × Int)} {left rest : List Int} (hg : Nice n es) (hleft : left = v :: rest) (few : left.length ≤ 90) : F_lawUreached [.d (gD n es), .d (tupI left)] = .ok (.d (.list ((reachL (fun v => nbL v es) left 100 [v] 0).map .int))) [] := by
  have h24 := hg.2.2.1
  refine res_eq ?_
  rw [F_lawUreached, runF_sat]
  unfold m_lawUreached
  have hc : slD (.d (.tuple (left.map .int))) none (some 1) = some (.d (.tuple [.int v])) := by rw [hleft]; rfl
  have hvl : ∀ x ∈ [v], x ∈ left := by rw [hleft]; simp
  simp [env0, ioP, hc, tupI]
  refine sat_while (fun k e => ∃ (found : List Int) (i : Nat) (o : Option DV), e = [some (.d (gD n es)), some (.d (.tuple (left.map .int))), some (.d (.list (found.map .int))), some (.d (.int i)), o] ∧ reachL (fun v => nbL v es) left k found i = reachL (fun v => nbL v es) left 100 [v] 0 ∧ found.Nodup ∧ (∀ x ∈ found, x ∈ left) ∧ k + i = 100 ∧ i ≤ found.length) 100 (by show _ < 1000000; omega) ⟨[v], 0, none, rfl, rfl, by simp, hvl, rfl, by simp⟩ ?_
  rintro k e ⟨found, i, o, rfl, hr, hnd, hsub, hk, hi⟩
  have hfl := nodup_sub_len hnd hsub
  simp
  refine ⟨fun hlt => ?_, fun hge => ?_⟩
  · obtain ⟨u, hu⟩ : ∃ u, found[i]? = some u := ⟨_, List.getElem?_eq_getElem hlt⟩
    obtain ⟨k, rfl⟩ : ∃ k', k = k' + 1 := ⟨k - 1, by omega⟩
    simp [atI_ints hu, nb_eq (n := n) (v := u) (es := es) (by omega), -List.map_map]
    rw [List.map_map]
    refine sat_forD (enc := DV.d ∘ .int) (fun done e => ∃ o, e = [some (.d (gD n es)), some (.d (.tuple (left.map .int))), some (.d (.list ((growL left found done).map .int))), some (.d (.int i)), o]) ⟨o, by rw [grow_nil]⟩ ?_ ?_
    · rintro done x rs e hd ⟨o, rfl⟩
      have hx : x ∉ done := fun q => by
        have nd := nbL_nodup (v := u) hg
        rw [← hd] at nd
        exact (List.nodup_append.mp nd).2.2 x q x List.mem_cons_self rfl
      have hdl : done.length ≤ 24 := by
        have := congrArg List.length hd
        rw [List.length_append] at this
        have := nb_len (v := u) (es := es)
        omega
      have gl := grow_len (left := left) (found := found) (done := done)
      have hb : (growL left found done).length < big := by show _ < 1000000; omega
      have m1 := grow_mem (left := left) (found := found) hx
      simp [inP_intsT, notInP_ints, apO, hb, m1, grow_snoc]
      by_cases q1 : x ∈ left <;> by_cases q2 : x ∈ found <;> simp [q1, q2, apO, hb]
    · rintro e ⟨o, rfl⟩
      have hF : growL left found (nbL u es) = stepL (fun v => nbL v es) left found u := rfl
      rw [hF]
      simp
      have hs := step_ok (nb := fun v => nbL v es) (lot := left) (v := u) (nbL_nodup hg) hnd hsub
      rw [reach_go hu] at hr
      refine ⟨k, by omega, stepL (fun v => nbL v es) left found u, i + 1, ⟨rfl, by simp⟩, hr, hs.1, hs.2, by omega, ?_⟩
      unfold stepL; rw [List.length_append]; omega
  · rw [reach_stop (by omega)] at hr
    rw [hr]
abbrev nrD (n : Int) (es : List (Int × Int)) : DV := .d (.list ((rgL 0 n).map (rowD fun v => nbL v es)))
theorem prog_reachedT {n v : Int} {es : List (Int × Int)} {left rest : List Int} (hg : Nice n es) (hleft : left = v :: rest) (few : left.length ≤ 90) (hrg : ∀ x ∈ left, 0 ≤ x ∧ x < n) : F_reachedUby [nrD n es, .d (.int v), .d (tupI left)] = .ok (.d (tupI (srtB ltI (reachL (fun v => nbL v es) left 100 [v] 0)))) [] := by
  have h24 := hg.2.2.1
  refine res_eq ?_
  rw [F_reachedUby, runF_sat]
  unfold m_reachedUby
  simp [env0, ioP, setAll]
  refine sat_while (fun k e => ∃ (found : List Int) (i : Nat), e = [some (nrD n es), some (.d (.int v)), some (.d (tupI left)), some (.d (.list (found.map .int))), some (.d (.int i)), none] ∧ reachL (fun v => nbL v es) left k found i = reachL (fun v => nbL v es) left 100 [v] 0 ∧ found.Nodup ∧ (∀ x ∈ found, x ∈ left) ∧ k + i = 100 ∧ i ≤ found.length) 100 (by show _ < 1000000; omega) ⟨[v], 0, rfl, rfl, by simp, by rw [hleft]; simp, rfl, by simp⟩ ?_
  rintro k e ⟨found, i, rfl, hr, hnd, hsub, hk, hi⟩
  have hfl := nodup_sub_len hnd hsub
  simp
  refine ⟨fun hlt => ?_, fun hge => ?_⟩
  · obtain ⟨u, hu⟩ : ∃ u, found[i]? = some u := ⟨_, List.getElem?_eq_getElem hlt⟩
    obtain ⟨k, rfl⟩ : ∃ k', k = k' + 1 := ⟨k - 1, by omega⟩
    have hur := hrg u (hsub u (List.mem_of_getElem? hu))
    have it : itemsOf (.d (rowD (fun v => nbL v es) u)) = some ((nbL u es).map (DV.d ∘ .int)) := by
      show some (((nbL u es).map PyData.int).map DV.d) = _
      rw [List.map_map]
    have hnl := nb_len (v := u) (es := es)
    simp [atI_ints hu, atI_rg hur.1 hur.2, it]
    refine sat_comp (enc := DV.d ∘ .int) (fun x => decide (x ∈ left ∧ x ∉ found)) .int (fun x hx => ?_) (by show 0 + (nbL u es).length ≤ 1000000; omega) ?_
    · by_cases q1 : x ∈ left <;> by_cases q2 : x ∈ found <;> simp [tupI, inP_intsT, notInP_ints, q1, q2]
    · rw [List.nil_append]
      have hs := step_ok (nb := fun v => nbL v es) (lot := left) (v := u) (nbL_nodup hg) hnd hsub
      have e1 : found.map PyData.int ++ ((nbL u es).filter fun x => decide (x ∈ left ∧ x ∉ found)).map .int = (stepL (fun v => nbL v es) left found u).map .int := by
        rw [← List.map_append]; rfl
      have fl := List.length_filter_le (fun x => decide (x ∈ left ∧ x ∉ found)) (nbL u es)
      have hadd : addP (.list (found.map PyData.int)) (.list (((nbL u es).filter fun x => decide (x ∈ left ∧ x ∉ found)).map .int)) = some (.list ((stepL (fun v => nbL v es) left found u).map .int)) := by
        rw [addP_ll (by rw [List.length_map, List.length_map]; show _ ≤ 1000000; omega), e1]
      rw [reach_go hu] at hr
      simp at hadd
      simp [hadd]
      refine ⟨k, by omega, stepL (fun v => nbL v es) left found u, i + 1, ⟨rfl, by simp⟩, hr, hs.1, hs.2, by omega, ?_⟩
      unfold stepL; rw [List.length_append]; omega
  · rw [reach_stop (by omega)] at hr
    simp [sortP_ints, tupI, hr, -List.map_map]
end Lk
namespace Lk
open PySem PySem.Spec L2
/-! two clauses -/
section
variable {α β : Type}
@[simp] theorem sat_comp2M {T T1 : Tgt} {vs vs1 : List Nat} {f : M (List DV)} {ft ft1 : M Bool} {fi1 : M (List DV)} {fe : M DV} {e : Ev} {QD : DV → Ev → Prop} {X : XQ} : (comp2M T vs f ft fi1 T1 vs1 ft1 fe e).sat QD X = (f e).sat (fun items e1 => (compGo2 T vs ft fi1 T1 vs1 ft1 fe items [] (wipeE vs e1)).sat (fun xs e2 => QD (.d (.list xs)) (restE vs e1 e2)) X) X := by
  show ((f e).bind _).sat QD X = _
  rw [sat_bind]; congr 1; funext ds e'
  rw [sat_bind]; rfl
theorem sat_comp2 {enc : α → DV} {encb : β → DV} {T T1 : Tgt} {vs vs1 : List Nat} {fi1 : M (List DV)} {fe : M DV} {Q : List PyData → Ev → Prop} {X : XQ} {e : Ev} (ys : α → List β) (h : α → β → PyData) {xs : List α} {acc : List PyData}
    (hb : ∀ x ∈ xs, (tgM T (enc x) e).sat (fun _ e2 => (fi1 e2).sat (fun items e3 => items = (ys x).map encb ∧ (∀ y ∈ ys x, (tgM T1 (encb y) (wipeE vs1 e3)).sat (fun _ e4 => (fe e4).sat (fun d e5 => d = .d (h x y) ∧ wipeE vs1 e5 = wipeE vs1 e3) nX) nX) ∧ wipeE vs (wipeE vs1 e3) = e) nX) nX)
    (hl : acc.length + (xs.flatMap fun x => (ys x).map (h x)).length ≤ big) (hQ : Q (acc ++ xs.flatMap fun x => (ys x).map (h x)) e) : (compGo2 T vs (M.pure true) fi1 T1 vs1 (M.pure true) fe (xs.map enc) acc e).sat Q X := by
  induction xs generalizing acc with
  | nil => simpa [compGo2] using hQ
  | cons x xs ih =>
    have s := hb x List.mem_cons_self
    rw [List.map_cons]
    unfold compGo2
    rw [sat_bind, sat_noEx]
    refine s.mono (fun _ e2 s1 => ?_)
    show (((noEx (fi1 e2)).bind _)).sat Q X
    rw [sat_bind, sat_noEx]
    refine Out.sat.mono s1 (fun items e3 ⟨h1, h2, h3⟩ => ?_)
    subst h1
    rw [sat_bind]
    have hl' : acc.length + ((ys x).map (h x)).length + (xs.flatMap fun x => (ys x).map (h x)).length ≤ big := by
      rw [List.flatMap_cons, List.length_append] at hl
      omega
    refine sat_compA (enc := encb) (h x) h2 (by rw [List.length_map] at hl'; omega) ?_
    rw [h3]
    refine ih (fun y hy => hb y (List.mem_cons_of_mem _ hy)) (by rw [List.length_append]; omega) ?_
    rw [List.append_assoc]
    exact hQ
end
/-! lots, plain -/
def incr (ns : List Int) : Bool := decide (ns.Pairwise fun x y => x < y)
def conn (es : List (Int × Int)) : List Int → Bool
  | [] => false
  | v :: r => decide ((reachL (fun v => nbL v es) (v :: r) 100 [v] 0).length = (v :: r).length)
def inR (n : Int) (i : Int) : Bool := decide (0 ≤ i) && decide (i ≤ n - 1)
def lotL (n : Int) (es : List (Int × Int)) (ns : List Int) : Bool := ns.all (inR n) && incr ns && conn es ns
def isL (n : Int) (es : List (Int × Int)) : PyData → Bool
  | .tuple xs => (match getIs xs with
    | some ns => lotL n es ns
    | none => false)
  | _ => false
theorem isL_ints {n : Int} {es : List (Int × Int)} {ns : List Int} : isL n es (.tuple (ns.map .int)) = lotL n es ns := by
  show (match getIs (ns.map .int) with
    | some ns => lotL n es ns
    | none => false) = _
  rw [getIs_map]
theorem isL_none {n : Int} {es : List (Int × Int)} {xs : List PyData} (h : getIs xs = none) : isL n es (.tuple xs) = false := by
  show (match getIs xs with
    | some ns => lotL n es ns
    | none => false) = _
  rw [h]
theorem getIs_map' : ∀ l : List Int, getIs (l.map .int) = some l := getIs_map
theorem allB {n : Int} : ∀ {xs : List PyData}, xs.all (isB 0 (n - 1)) = true → ∃ ns : List Int, xs = ns.map .int ∧ ns.all (inR n) = true
  | [], _ => ⟨[], rfl, rfl⟩
  | x :: xs, h => by
    simp only [List.all_cons, Bool.and_eq_true] at h
    obtain ⟨ns, rfl, h2⟩ := allB h.2
    cases x with
    | int i => exact ⟨i :: ns, rfl, by simp only [List.all_cons, Bool.and_eq_true]; exact ⟨by simpa [isB, inR] using h.1, h2⟩⟩
    | _ => simp [isB] at h
theorem allB_no {n : Int} {xs : List PyData} (h : xs.all (isB 0 (n - 1)) = false) (es : List (Int × Int)) : isL n es (.tuple xs) = false := by
  cases hg : getIs xs with
  | none => exact isL_none hg
  | some ns =>
    have e := getIs_eq hg
    subst e
    have : ns.all (inR n) = false := by
      rw [← h, List.all_map]
      congr 1
    rw [isL_ints]
    simp [lotL, this]
theorem incr_zip : ∀ {ns : List Int}, ((ns.zip ns.tail).all fun z => decide (z.1 < z.2)) = incr ns
  | [] => rfl
  | [a] => by simp [incr]
  | a :: b :: r => by
    have ih := incr_zip (ns := b :: r)
    simp only [List.tail_cons, List.zip_cons_cons, List.all_cons] at ih ⊢
    rw [show ((b :: r).zip r).all (fun z => decide (z.1 < z.2)) = incr (b :: r) from ih]
    unfold incr
    rw [Bool.eq_iff_iff]
    simp only [Bool.and_eq_true, decide_eq_true_eq]
    constructor
    · rintro ⟨h1, h2⟩
      refine List.pairwise_cons.mpr ⟨fun y hy => ?_, h2⟩
      rcases List.mem_cons.mp hy with rfl | hy
      · exact h1
      · have := (List.pairwise_cons.mp h2).1 y hy; omega
    · intro h
      exact ⟨(List.pairwise_cons.mp h).1 b List.mem_cons_self, (List.pairwise_cons.mp h).2⟩
theorem zip_ints : ∀ {es fs : List Int}, zipP (es.map .int) (fs.map .int) = (es.zip fs).map (DV.d ∘ fun z => .tuple [.int z.1, .int z.2])
  | [], _ => by simp [zipP]
  | _ :: _, [] => by simp [zipP]
  | a :: es, b :: fs => by
    have := zip_ints (es := es) (fs := fs)
    simp only [List.map_cons, zipP, List.zip_cons_cons] at this ⊢
    rw [this]
    rfl
theorem eqvAll_ints : ∀ a b : List Int, PyData.eqvAll (a.map .int) (b.map .int) = decide (a = b)
  | [], [] => by simp [PyData.eqvAll]
  | [], _ :: _ => by simp [PyData.eqvAll]
  | _ :: _, [] => by simp [PyData.eqvAll]
  | x :: a, y :: b => by
    simp only [List.map_cons, PyData.eqvAll, eqvAll_ints a b, eqv_int]
    rw [Bool.eq_iff_iff]
    simp
theorem eqv_tupI {a b : List Int} : PyData.eqv (tupI a) (tupI b) = decide (a = b) := by
  show PyData.eqv (.tuple (a.map .int)) (.tuple (b.map .int)) = _
  rw [← eqvAll_ints]
  simp [PyData.eqv]
/-- what comes out is the lot itself when it is as long -/
theorem srt_reach {nb : Int → List Int} {v : Int} {r : List Int} (hnb : ∀ v, (nb v).Nodup) (hi : (v :: r).Pairwise fun x y => x < y) (hf : (v :: r).length ≤ 90) : (srtB ltI (reachL nb (v :: r) 100 [v] 0) = v :: r) ↔ (reachL nb (v :: r) 100 [v] 0).length = (v :: r).length := by
  have ok := reach_ok (lot := v :: r) hnb (k := 100) (found := [v]) (i := 0) (by simp) (by simp) (by omega) (by omega) (by omega)
  have hnd : (v :: r).Nodup := hi.imp fun {x y} h e => by omega
  constructor
  · intro h
    rw [← (srtB_perm (lt := ltI) _).length_eq, h]
  · intro h
    have back : ∀ x ∈ v :: r, x ∈ reachL nb (v :: r) 100 [v] 0 := fun x hx => by
      refine Classical.byContradiction fun hn => ?_
      have := nodup_sub_len (l := x :: reachL nb (v :: r) 100 [v] 0) (m := v :: r) (List.nodup_cons.mpr ⟨hn, ok.1⟩) fun y hy => by
        rcases List.mem_cons.mp hy with rfl | hy
        · exact hx
        · exact ok.2.1 y hy
      simp only [List.length_cons] at this h
      omega
    have p : (v :: r).Perm (reachL nb (v :: r) 100 [v] 0) := (List.perm_ext_iff_of_nodup hnd ok.1).mpr fun x => ⟨back x, ok.2.1 x⟩
    exact (srt_is tot_int (hi.imp fun {x y} h => decide_eq_false (by omega)) p).symm
/-- what may stand as a lot -/
def LotT (l : PyData) : Prop := ∀ xs, l = .tuple xs → Shp 5 (.tuple xs) ∧ xs.length ≤ 80
theorem lot_eq {n : Int} {es : List (Int × Int)} (hg : Nice n es) {l : PyData} (hT : LotT l) : F_isUlot [.d (gD n es), .d l] = .ok (.d (.bool (isL n es l))) [] := by
  refine res_eq ?_
  rw [F_isUlot, runF_sat]
  unfold m_isUlot
  cases l with
  | tuple xs =>
    obtain ⟨hs, hl⟩ := hT xs rfl
    have e0 : eqP (.tuple xs) (.tuple []) = some (.bool xs.isEmpty) := by
      rw [eqP_s hs (shp_tuple (n := 0) (xs := []) (by simp)), eqv_nilT]
    simp [env0, ioP, tyName, isTy, e0]
    cases hx : xs.isEmpty with
    | true =>
      simp
      have : xs = [] := by simpa using hx
      subst this
      rfl
    | false =>
      simp
      refine sat_compA (enc := DV.d) (fun x => .bool (isB 0 (n - 1) x)) (fun x hx => ?_) (by show 0 + xs.length ≤ 1000000; omega) ?_
      · simp [between_eq]
      · rw [List.nil_append]
        simp [allP_map]
        cases ha : xs.all (isB 0 (n - 1)) with
        | false =>
          simp
          exact allB_no ha es
        | true =>
          obtain ⟨ns, rfl, hin⟩ := allB ha
          simp [slD, cut1, ← List.map_tail, zip_ints, -List.map_map]
          rw [List.length_map] at hl
          refine sat_compA (fun z => .bool (decide (z.1 < z.2))) (fun z hz => ?_) (by show 0 + _ ≤ 1000000; rw [List.length_zip]; omega) ?_
          · simp
          · rw [List.nil_append]
            simp [allP_map, incr_zip]
            have eL : isL n es (.tuple (ns.map .int)) = (incr ns && conn es ns) := by
              rw [isL_ints]
              simp [lotL, hin]
            cases hi : incr ns with
            | false =>
              simp
              rw [eL, hi]; rfl
            | true =>
              simp
              cases ns with
              | nil => simp at hx
              | cons v r =>
                have hrg : ∀ x ∈ v :: r, 0 ≤ x ∧ x < n := fun x hx => by
                  have := List.all_eq_true.mp hin x hx
                  simp [inR] at this
                  omega
                have hp := prog_reachedT hg rfl (by omega) hrg
                have a0 : atI ((v :: r).map PyData.int) 0 = some (.int v) := atI_0
                have et : (PyData.tuple ((v :: r).map .int)) = tupI (v :: r) := rfl
                have hi' : (v :: r).Pairwise fun x y => x < y := of_decide_eq_true hi
                have fin : decide (srtB ltI (reachL (fun v => nbL v es) (v :: r) 100 [v] 0) = v :: r) = isL n es (.tuple ((v :: r).map .int)) := by
                  rw [eL, hi, Bool.true_and]
                  exact decide_eq_decide.mpr (srt_reach (fun v => nbL_nodup hg) hi' (by omega))
                generalize hns : v :: r = ns at *
                rw [et] at fin ⊢
                have a1 : ixD (.d (tupI ns)) (.d (.int 0)) = some (.d (.int v)) := by rw [← et]; simp [a0]
                simp [nbs_by hg, a1, hp, eqP_s shp_tupI shp_tupI, eqv_tupI, fin]
  | _ => simp [env0, ioP, tyName, isTy, isL]
end Lk
namespace Lk
open PySem PySem.Spec L2
theorem apart_eq {a b : List Int} (hl : a.length ≤ 80) : F_lawUareUapart [.d (tupI a), .d (.list (b.map .int))] = .ok (.d (.bool (a.all fun x => decide (x ∉ b)))) [] := by
  refine res_eq ?_
  rw [F_lawUareUapart, runF_sat]
  unfold m_lawUareUapart
  simp [env0, ioP, tupI, -List.map_map]
  rw [List.map_map]
  refine sat_comp (enc := DV.d ∘ .int) (fun x => decide (x ∈ b)) .int (fun x hx => ?_) (by show 0 + a.length ≤ 1000000; omega) ?_
  · by_cases q : x ∈ b <;> simp [inP_ints, q]
  · rw [List.nil_append]
    simp [eqP_s shp_ints shp_e, eqv_nil]
    rw [Bool.eq_iff_iff]
    simp
theorem conn_eq {n : Int} {es : List (Int × Int)} {ns : List Int} (hg : Nice n es) (hl : ns.length ≤ 80) : F_lawUisUconnected [.d (gD n es), .d (tupI ns)] = .ok (.d (.bool (conn es ns))) [] := by
  refine res_eq ?_
  rw [F_lawUisUconnected, runF_sat]
  unfold m_lawUisUconnected
  have hlen : lenD [.d (tupI ns)] = some (.d (.int ns.length)) := by
    show some (DV.d (.int (ns.map PyData.int).length)) = _
    rw [List.length_map]
  simp [env0, ioP, hlen]
  cases ns with
  | nil => simp [conn]
  | cons v r =>
    have h := law_reachedT hg (left := v :: r) rfl (by omega)
    simp [h, hlen]
    unfold conn
    rw [Bool.eq_iff_iff]
    simp
    try omega
def acr (A B : List Int) (q : Int × Int) : Bool := decide ((q.1 ∈ A ∧ q.2 ∈ B) ∨ (q.2 ∈ A ∧ q.1 ∈ B))
def joined (es : List (Int × Int)) (A B : List Int) : Bool := es.any (acr A B)
theorem across_eq {q : Int × Int} {A B : List Int} : F_lawUisUacross [.d (pairD q), .d (tupI A), .d (tupI B)] = .ok (.d (.bool (acr A B q))) [] := by
  unfold acr
  refine res_eq ?_
  rw [F_lawUisUacross, runF_sat]
  unfold m_lawUisUacross
  by_cases h1 : q.1 ∈ A <;> by_cases h2 : q.2 ∈ B <;> by_cases h3 : q.2 ∈ A <;> by_cases h4 : q.1 ∈ B <;> simp [env0, ioP, tupI, inP_intsT, h1, h2, h3, h4]
theorem edge_between_eq {a b : Int} : F_edgeUbetween [.d (.int a), .d (.int b)] = .ok (.d (pairD (normP (a, b)))) [] := by
  refine res_eq ?_
  rw [F_edgeUbetween, runF_sat]
  unfold m_edgeUbetween normP
  simp [env0, ioP]
  exact ⟨fun h => by rw [if_pos h]; rfl, fun h => by rw [if_neg (by omega)]; rfl⟩
theorem inP_pairsT {ps : List (Int × Int)} {q : Int × Int} : inP (pairD q) (.tuple (ps.map pairD)) = some (.bool (decide (q ∈ ps))) := by
  rw [inP_t shp_pair shp_pairsT, any_pair]
theorem anyP_map {α : Type} (p : α → Bool) (xs : List α) : anyP (.list (xs.map fun x => .bool (p x))) = some (.bool (xs.any p)) := by
  have key : ∀ xs : List α, getBs (xs.map fun x => .bool (p x)) = some (xs.map p) := by
    intro xs
    induction xs with
    | nil => rfl
    | cons x xs ih => simp only [List.map_cons, getBs, ih]
  show (getBs (xs.map fun x => .bool (p x))).map _ = _
  rw [key]
  simp [List.any_map]
theorem norm_mem {n : Int} {es : List (Int × Int)} (hg : Nice n es) {a b : Int} : normP (a, b) ∈ es ↔ (a, b) ∈ es ∨ (b, a) ∈ es := by
  unfold normP
  constructor
  · intro h
    split at h
    · exact .inl h
    · exact .inr h
  · rintro (h | h)
    · have := (hg.2.2.2.2 _ h).2.1
      rw [if_pos this]; exact h
    · have := (hg.2.2.2.2 _ h).2.1
      simp only at this
      rw [if_neg (by simp; omega)]; exact h
theorem joined_eq {n : Int} {es : List (Int × Int)} {A B : List Int} (hg : Nice n es) (hA : A.length ≤ 80) (hB : B.length ≤ 80) : F_areUjoined [.d (gD n es), .d (tupI A), .d (tupI B)] = .ok (.d (.bool (joined es A B))) [] := by
  refine res_eq ?_
  rw [F_areUjoined, runF_sat]
  unfold m_areUjoined
  simp [env0, ioP, tupI, -List.map_map]
  rw [List.map_map]
  refine sat_comp2 (enc := DV.d ∘ .int) (encb := DV.d ∘ .int) (fun _ => B) (fun a b => .bool (decide (normP (a, b) ∈ es))) (fun a ha => ?_) ?_ ?_
  · simp
    intro b hb
    simp [edge_between_eq, inP_pairsT]
  · have := len_flat_le (l := A) (f := fun a => B.map fun b => PyData.bool (decide (normP (a, b) ∈ es))) (c := 80) fun a ha => by rw [List.length_map]; exact hB
    show 0 + _ ≤ 1000000
    omega
  · have e : (A.flatMap fun a => B.map fun b => PyData.bool (decide (normP (a, b) ∈ es))) = (A.flatMap fun a => B.map fun b => (a, b)).map fun z => .bool (decide (normP z ∈ es)) := by
      rw [List.map_flatMap]
      congr 1
      funext a
      rw [List.map_map]
      rfl
    obtain ⟨Z, hZ⟩ : ∃ Z, (A.flatMap fun a => B.map fun b => (a, b)) = Z := ⟨_, rfl⟩
    rw [List.nil_append, e, hZ]
    simp [anyP_map]
    rw [← hZ]
    unfold joined acr
    rw [Bool.eq_iff_iff]
    simp only [List.any_eq_true, List.mem_flatMap, List.mem_map, decide_eq_true_eq]
    constructor
    · rintro ⟨z, ⟨a, ha, b, hb, rfl⟩, hz⟩
      rcases (norm_mem hg).mp hz with h | h
      · exact ⟨(a, b), h, .inl ⟨ha, hb⟩⟩
      · exact ⟨(b, a), h, .inr ⟨ha, hb⟩⟩
    · rintro ⟨⟨x, y⟩, hq, h | h⟩
      · exact ⟨(x, y), ⟨x, h.1, y, h.2, rfl⟩, (norm_mem hg).mpr (.inl hq)⟩
      · exact ⟨(y, x), ⟨y, h.1, x, h.2, rfl⟩, (norm_mem hg).mpr (.inr hq)⟩
/-! whether it is a model -/
def intsOf : PyData → List Int
  | .tuple xs => (getIs xs).getD []
  | _ => []
@[simp] theorem intsOf_tup {ns : List Int} : intsOf (tupI ns) = ns := by
  show (getIs (ns.map .int)).getD [] = ns
  rw [getIs_map]
  rfl
def ljoin (es : List (Int × Int)) (ls : List PyData) (p : Int × Int) : Bool := joined es (intsOf (ls.getD p.1.toNat .none)) (intsOf (ls.getD p.2.toNat .none))
def isM (n : Int) (es : List (Int × Int)) (n' : Int) (es' : List (Int × Int)) : PyData → Bool
  | .tuple ls => decide ((ls.length : Int) = n') && ls.all (isL n es) && decide ((ls.flatMap intsOf).Nodup) && es'.all (ljoin es ls)
  | _ => false
theorem allL {n : Int} {es : List (Int × Int)} : ∀ {ls : List PyData}, ls.all (isL n es) = true → ∃ nss : List (List Int), ls = nss.map tupI ∧ ∀ ns ∈ nss, lotL n es ns = true
  | [], _ => ⟨[], rfl, by simp⟩
  | l :: ls, h => by
    simp only [List.all_cons, Bool.and_eq_true] at h
    obtain ⟨nss, rfl, h2⟩ := allL h.2
    cases l with
    | tuple xs =>
      cases hx : getIs xs with
      | none => rw [isL_none hx] at h; exact absurd h.1 (by simp)
      | some ns =>
        have e := getIs_eq hx
        subst e
        rw [isL_ints] at h
        refine ⟨ns :: nss, rfl, fun m hm => ?_⟩
        rcases List.mem_cons.mp hm with rfl | hm
        · exact h.1
        · exact h2 m hm
    | _ => simp [isL] at h
theorem flat_tup (nss : List (List Int)) : (nss.map tupI).flatMap intsOf = nss.flatten := by
  rw [List.flatMap_map]
  simp [List.flatMap, Function.comp_def]
theorem lot_len {n : Int} {es : List (Int × Int)} {ns : List Int} (hg : Nice n es) (h : lotL n es ns = true) : ns.length ≤ 10 := by
  unfold lotL at h
  simp only [Bool.and_eq_true] at h
  have hi : ns.Pairwise fun x y => x < y := of_decide_eq_true h.1.2
  have := nodup_sub_len (l := ns) (m := rgL 0 n) (hi.imp fun {x y} h e => by omega) fun x hx => by
    have := List.all_eq_true.mp h.1.1 x hx
    simp [inR] at this
    exact mem_rgL.mpr (by omega)
  rw [len_rgL] at this
  have := hg.2.1
  omega
theorem ded_go : ∀ {ns acc : List Int}, ((ns.foldl PyProof.Rows.step_dedup acc).length ≤ acc.length + ns.length) ∧ ((ns.foldl PyProof.Rows.step_dedup acc).length = acc.length + ns.length ↔ ns.Nodup ∧ ∀ x ∈ ns, x ∉ acc)
  | [], acc => by simp
  | a :: ns, acc => by
    rw [List.foldl_cons]
    by_cases q : a ∈ acc
    · have e : PyProof.Rows.step_dedup acc a = acc := by
        unfold PyProof.Rows.step_dedup
        rw [if_pos (List.any_eq_true.mpr ⟨a, q, by simp⟩)]
      rw [e]
      have ih := (ded_go (ns := ns) (acc := acc)).1
      refine ⟨by simp only [List.length_cons]; omega, ⟨fun h => ?_, fun h => absurd q (h.2 a List.mem_cons_self)⟩⟩
      simp only [List.length_cons] at h
      omega
    · have e : PyProof.Rows.step_dedup acc a = acc ++ [a] := by
        unfold PyProof.Rows.step_dedup
        rw [if_neg]
        intro h
        obtain ⟨y, hy, e⟩ := List.any_eq_true.mp h
        rw [← eq_of_beq e] at q
        exact q hy
      rw [e]
      obtain ⟨ih1, ih2⟩ := ded_go (ns := ns) (acc := acc ++ [a])
      have l1 : (acc ++ [a]).length = acc.length + 1 := by simp
      rw [l1] at ih1 ih2
      refine ⟨by simp only [List.length_cons]; omega, ?_⟩
      rw [show acc.length + (a :: ns).length = acc.length + 1 + ns.length by simp only [List.length_cons]; omega, ih2, List.nodup_cons]
      constructor
      · rintro ⟨h1, h2⟩
        refine ⟨⟨fun h => h2 a h (by simp), h1⟩, fun x hx => ?_⟩
        rcases List.mem_cons.mp hx with rfl | hx
        · exact q
        · exact fun h => h2 x hx (List.mem_append_left _ h)
      · rintro ⟨⟨h1, h2⟩, h3⟩
        refine ⟨h2, fun x hx h => ?_⟩
        rcases List.mem_append.mp h with h | h
        · exact h3 x (List.mem_cons_of_mem _ hx) h
        · rw [List.mem_singleton.mp h] at hx
          exact h1 hx
theorem ded_nodup {ns : List Int} : (dedI ns).length = ns.length ↔ ns.Nodup := by
  have := (ded_go (ns := ns) (acc := [])).2
  unfold dedI
  simpa using this
/-- what may stand as a thing -/
def ThT (x : PyData) : Prop := ∀ ls, x = .tuple ls → ls.length ≤ 80 ∧ ∀ l ∈ ls, LotT l
theorem getD_tup {nss : List (List Int)} {i : Int} (h0 : 0 ≤ i) (h1 : i < nss.length) : ∃ A ∈ nss, atI (nss.map tupI) i = some (tupI A) ∧ (nss.map tupI).getD i.toNat .none = tupI A := by
  have hi : i.toNat < nss.length := by omega
  refine ⟨nss[i.toNat], List.getElem_mem hi, ?_, ?_⟩
  · unfold atI ixN
    rw [if_pos h0, if_pos (by rw [List.length_map]; exact h1)]
    show (nss.map tupI)[i.toNat]? = _
    rw [List.getElem?_map, List.getElem?_eq_getElem hi]
    rfl
  · rw [List.getD_eq_getElem?_getD, List.getElem?_map, List.getElem?_eq_getElem hi]
    rfl
theorem model_by_eq {n n' : Int} {es es' : List (Int × Int)} {x : PyData} (hg : Nice n es) (hg' : Nice n' es') (hT : ThT x) : F_isUmodelUby [.d (gD n es), .d (gD n' es'), .d x] = .ok (.d (.bool (isM n es n' es' x))) [] := by
  refine res_eq ?_
  rw [F_isUmodelUby, runF_sat]
  unfold m_isUmodelUby
  cases x with
  | tuple ls =>
    obtain ⟨hl, hlot⟩ := hT ls rfl
    simp [env0, ioP, tyName, isTy]
    by_cases hn : (ls.length : Int) = n'
    · simp [hn]
      refine sat_compA (enc := DV.d) (fun l => .bool (isL n es l)) (fun l hm => ?_) (by show 0 + ls.length ≤ 1000000; omega) ?_
      · simp [lot_eq hg (hlot l hm)]
      · rw [List.nil_append]
        simp [allP_map]
        cases ha : ls.all (isL n es) with
        | false =>
          simp
          simp [isM, ha]
        | true =>
          obtain ⟨nss, rfl, hls⟩ := allL ha
          have hll : ∀ ns ∈ nss, ns.length ≤ 10 := fun ns h => lot_len hg (hls ns h)
          rw [List.length_map] at hl hn
          have hfl : nss.flatten.length ≤ 800 := by
            have := len_flat_le (l := nss) (f := fun ns => ns) (c := 10) hll
            have e : (nss.flatMap fun ns => ns) = nss.flatten := by simp [List.flatMap]
            rw [e] at this
            omega
          have e1 : (nss.flatMap fun ns => ns.map PyData.int) = nss.flatten.map .int := by
            rw [List.map_flatten]
            simp [List.flatMap]
          simp [-List.map_map]
          rw [List.map_map]
          refine sat_comp2 (enc := DV.d ∘ tupI) (encb := DV.d ∘ .int) (fun ns => ns) (fun _ i => .int i) (fun ns hns => ?_) ?_ ?_
          · simp [tupI]
          · rw [e1, List.length_map]
            show 0 + _ ≤ 1000000
            omega
          · rw [List.nil_append, e1]
            have hd : lenSetD (.d (.list (nss.flatten.map .int))) = some (.d (.int (dedI nss.flatten).length)) := by
              show ((getIs (nss.flatten.map .int)).bind fun ns => if ns.length ≤ 4000 then some (DV.d (.int (dedI ns).length)) else none) = _
              rw [getIs_map]
              simp only [Option.bind_some]
              rw [if_pos (by omega)]
            simp [hd, -List.map_flatten, -List.length_flatten, -List.map_map]
            have ded := ded_nodup (ns := nss.flatten)
            by_cases nd : nss.flatten.Nodup
            · have e2 := ded.mpr nd
              refine ⟨fun _ => ?_, fun h => absurd e2.symm (by omega)⟩
              rw [List.map_map]
              refine sat_compA (enc := DV.d ∘ pairD) (fun p => .bool (ljoin es (nss.map tupI) p)) (fun p hp => ?_) (by show 0 + es'.length ≤ 1000000; have := hg'.2.2.1; omega) ?_
              · have := hg'.2.2.2.2 p hp
                obtain ⟨A, mA, a1, a2⟩ := getD_tup (nss := nss) (i := p.1) (by omega) (by omega)
                obtain ⟨B, mB, b1, b2⟩ := getD_tup (nss := nss) (i := p.2) (by omega) (by omega)
                have j := joined_eq hg (show A.length ≤ 80 by have := hll A mA; omega) (show B.length ≤ 80 by have := hll B mB; omega)
                have e3 : ljoin es (nss.map tupI) p = joined es A B := by
                  unfold ljoin
                  rw [a2, b2, intsOf_tup, intsOf_tup]
                simp [a1, b1, j, e3]
              · rw [List.nil_append]
                simp [allP_map]
                have hn' : (((nss.map tupI).length : Nat) : Int) = n' := by rw [List.length_map]; exact hn
                simp only [isM, hn', ha, flat_tup, nd, decide_true, Bool.true_and]
            · have e2 : (dedI nss.flatten).length ≠ nss.flatten.length := fun h => nd (ded.mp h)
              refine ⟨fun h => absurd h (by omega), fun _ => ?_⟩
              have hn' : (((nss.map tupI).length : Nat) : Int) = n' := by rw [List.length_map]; exact hn
              simp only [isM, flat_tup, nd, decide_false, Bool.and_false, Bool.false_and]
    · simp [hn]
      simp [isM, hn]
  | _ => simp [env0, ioP, tyName, isTy, isM]
end Lk
namespace Lk
open PySem PySem.Spec L2
theorem chain_ints : ∀ {ns : List Int}, (∀ k : Nat, ∀ a b, ns[k]? = some a → ns[k + 1]? = some b → a < b) ↔ incr ns = true
  | [] => by simp [incr]
  | [a] => by simp [incr]
  | a :: b :: r => by
    have ih := chain_ints (ns := b :: r)
    rw [← incr_zip] at ih ⊢
    simp only [List.tail_cons, List.zip_cons_cons, List.all_cons, Bool.and_eq_true, decide_eq_true_eq] at ih ⊢
    rw [← ih]
    constructor
    · intro h
      exact ⟨h 0 a b rfl rfl, fun k x y hx hy => h (k + 1) x y hx hy⟩
    · rintro ⟨h1, h2⟩ k x y hx hy
      cases k with
      | zero => cases hx; cases hy; exact h1
      | succ k => exact h2 k x y hx hy
def offI (ns : List Int) (k : Int) : Bool := match ns[(k - 1).toNat]?, ns[k.toNat]? with
  | some a, some b => decide (b ≤ a)
  | _, _ => true
theorem offI_eq {ns : List Int} {k a b : Int} (hp : ns[(k - 1).toNat]? = some a) (hq : ns[k.toNat]? = some b) : offI ns k = decide (b ≤ a) := by
  unfold offI
  rw [hp, hq]
theorem off_empty {ns : List Int} : ((rgL 1 ns.length).filter (offI ns)).isEmpty = incr ns := by
  rw [Bool.eq_iff_iff, List.isEmpty_iff, List.filter_eq_nil_iff, ← chain_ints]
  constructor
  · intro hh k p q hp hq
    have hk : k + 1 < ns.length := (List.getElem?_eq_some_iff.mp hq).1
    have := hh ((k : Int) + 1) (mem_rgL.mpr ⟨by omega, by omega⟩)
    rw [offI_eq (a := p) (b := q) (by rw [show ((k : Int) + 1 - 1).toNat = k by omega]; exact hp) (by rw [show ((k : Int) + 1).toNat = k + 1 by omega]; exact hq)] at this
    simp at this
    omega
  · intro hh k hk
    have hk := mem_rgL.mp hk
    obtain ⟨p, hp⟩ : ∃ p, ns[(k - 1).toNat]? = some p := ⟨_, List.getElem?_eq_getElem (by omega)⟩
    obtain ⟨q, hq⟩ : ∃ q, ns[k.toNat]? = some q := ⟨_, List.getElem?_eq_getElem (by omega)⟩
    have := hh (k - 1).toNat p q hp (by rw [show (k - 1).toNat + 1 = k.toNat by omega]; exact hq)
    rw [offI_eq hp hq]
    simp
    omega
theorem atI_at {ns : List Int} {k a : Int} (h0 : 0 ≤ k) (h : ns[k.toNat]? = some a) : atI (ns.map PyData.int) k = some (.int a) := by
  have hi := (List.getElem?_eq_some_iff.mp h).1
  unfold atI ixN
  rw [if_pos h0, if_pos (by rw [List.length_map]; omega)]
  show (ns.map PyData.int)[k.toNat]? = _
  rw [List.getElem?_map, h]
  rfl
theorem isM_no {n n' : Int} {es es' : List (Int × Int)} {ls : List PyData} {x : PyData} (hx : x ∈ ls) (h : isL n es x = false) : isM n es n' es' (.tuple ls) = false := by
  have : ls.all (isL n es) = false := by
    rw [List.all_eq_false]
    exact ⟨x, hx, by simp [h]⟩
  simp only [isM, this, Bool.and_false, Bool.false_and]
theorem can_mem : ∀ {xs : List PyData}, PyData.canLayAll0 xs = true → ∀ x ∈ xs, x.canLay0 = true
  | [], _, _, h => nomatch h
  | y :: xs, h, x, hx => by
    simp only [PyData.canLayAll0, Bool.and_eq_true] at h
    rcases List.mem_cons.mp hx with rfl | hx
    · exact h.1
    · exact can_mem h.2 x hx
theorem depth_mem : ∀ {xs : List PyData}, ∀ x ∈ xs, x.depth ≤ PyData.depthAll xs
  | [], _, h => nomatch h
  | y :: xs, x, hx => by
    simp only [PyData.depthAll]
    rcases List.mem_cons.mp hx with rfl | hx
    · omega
    · have := depth_mem x hx; omega
theorem shp_filter {m : Nat} {xs : List PyData} {p : PyData → Bool} (h : Shp m (.tuple xs)) : Shp m (.list (xs.filter p)) := by
  obtain ⟨h1, h2⟩ := h
  simp only [PyData.canLay0] at h1
  simp only [PyData.depth] at h2
  refine ⟨by simp only [PyData.canLay0]; exact canAll_of fun x hx => can_mem h1 x (List.mem_filter.mp hx).1, ?_⟩
  have := depthAll_le (m := PyData.depthAll xs) (xs := xs.filter p) fun x hx => depth_mem x (List.mem_filter.mp hx).1
  simp only [PyData.depth]
  omega
theorem isM_dup {n n' : Int} {es es' : List (Int × Int)} {ls : List PyData} (h : ¬ (ls.flatMap intsOf).Nodup) : isM n es n' es' (.tuple ls) = false := by
  simp only [isM, h, decide_false, Bool.and_false, Bool.false_and]
theorem law_model_eq {n n' : Int} {es es' : List (Int × Int)} {x : PyData} (hg : Nice n es) (hg' : Nice n' es') (hT : ThT x) : F_lawUisUmodel [.d (gD n es), .d (gD n' es'), .d x] = .ok (.d (.bool (isM n es n' es' x))) [] := by
  refine res_eq ?_
  rw [F_lawUisUmodel, runF_sat]
  unfold m_lawUisUmodel
  cases x with
  | tuple ls =>
    obtain ⟨hl, hlot⟩ := hT ls rfl
    simp [env0, ioP, tyName, isTy]
    by_cases hn : (ls.length : Int) = n'
    · simp [hn]
      refine sat_forD (enc := DV.d) (fun done e => ∃ (nss : List (List Int)) (o : Option DV), done = nss.map tupI ∧ (∀ ns ∈ nss, lotL n es ns = true) ∧ nss.flatten.Nodup ∧ e = [some (.d (gD n es)), some (.d (gD n' es')), some (.d (.tuple ls)), some (.d (.list (nss.flatten.map .int))), o, none, none, none, none, none]) ⟨[], none, rfl, by simp, by simp, rfl⟩ ?_ ?_
      · rintro done l rest e hd ⟨nss, o, rfl, hls, hnd, rfl⟩
        have hm : l ∈ ls := by rw [← hd]; simp
        have hll : ∀ ns ∈ nss, ns.length ≤ 10 := fun ns h => lot_len hg (hls ns h)
        have hnl : nss.length ≤ 80 := by
          have := congrArg List.length hd
          rw [List.length_append, List.length_map] at this
          omega
        have hfl : nss.flatten.length ≤ 800 := by
          have := len_flat_le (l := nss) (f := fun ns => ns) (c := 10) hll
          have e : (nss.flatMap fun ns => ns) = nss.flatten := by simp [List.flatMap]
          rw [e] at this
          omega
        obtain ⟨S, hS⟩ : ∃ S, nss.flatten = S := ⟨_, rfl⟩
        rw [hS] at hfl
        have no : isL n es l = false → isM n es n' es' (.tuple ls) = false := fun h => isM_no hm h
        cases l with
        | tuple xs =>
          obtain ⟨hs, hxl⟩ := hlot _ hm xs rfl
          simp only [hS]
          simp [tyName, isTy, -sat_ifS]
          rw [sat_ifS]
          simp [tyName, isTy, -sat_ifS]
          refine sat_comp (enc := DV.d) (fun x => !isB 0 (n - 1) x) id (fun x hx => ?_) (by show 0 + xs.length ≤ 1000000; omega) ?_
          · simp [law_upto_eq]
            cases isB 0 (n - 1) x <;> simp
          · have hsF : Shp 5 (.list (xs.filter fun x => !isB 0 (n - 1) x)) := shp_filter hs
            have hE : (xs.filter fun x => !isB 0 (n - 1) x).isEmpty = xs.all (isB 0 (n - 1)) := by
              rw [Bool.eq_iff_iff, List.isEmpty_iff, List.filter_eq_nil_iff, List.all_eq_true]
              simp
            rw [List.nil_append, List.map_id]
            simp [neP_s hsF shp_e, eqv_nil, hE, -sat_ifS]
            cases ha : xs.all (isB 0 (n - 1)) with
            | false =>
              simp
              exact no (allB_no ha es)
            | true =>
              obtain ⟨ns, rfl, hin⟩ := allB ha
              rw [List.length_map] at hxl
              have hrg : rgOk 1 (ns.length : Int) = true := rgOk_of (by omega) (by omega) (by omega) (by omega)
              simp [-sat_ifS]
              rw [sat_ifS]
              simp [rgI_ok hrg, rgP_rgL, -sat_ifS]
              refine sat_comp (enc := DV.d ∘ .int) (offI ns) .int (xs := rgL 1 ns.length) (acc := []) (fun k hk => ?_) (by show 0 + (rgL 1 _).length ≤ 1000000; rw [len_rgL]; omega) ?_
              · have hk := mem_rgL.mp hk
                obtain ⟨p, hp⟩ : ∃ p, ns[(k - 1).toNat]? = some p := ⟨_, List.getElem?_eq_getElem (by omega)⟩
                obtain ⟨q, hq⟩ : ∃ q, ns[k.toNat]? = some q := ⟨_, List.getElem?_eq_getElem (by omega)⟩
                have e := offI_eq hp hq
                simp [atI_at (by omega) hp, atI_at (by omega) hq, e]
              · rw [List.nil_append]
                simp [neP_ints, off_empty, -sat_ifS]
                cases hi : incr ns with
                | false =>
                  simp
                  exact no (by rw [isL_ints]; simp [lotL, hi])
                | true =>
                  have et : (PyData.tuple (ns.map .int)) = tupI ns := rfl
                  have ap := apart_eq (a := ns) (b := S) (by omega)
                  rw [et] at no ⊢
                  obtain ⟨bp, hbp⟩ : ∃ bp, (ns.all fun x => decide (x ∉ S)) = bp := ⟨_, rfl⟩
                  rw [hbp] at ap
                  simp [ap, -sat_ifS]
                  cases bp with
                  | false =>
                    simp
                    refine isM_dup fun h => ?_
                    obtain ⟨x, hx, hxS⟩ := List.all_eq_false.mp hbp
                    simp at hxS
                    rw [← hd, List.flatMap_append, flat_tup, hS, List.flatMap_cons] at h
                    refine (List.nodup_append.mp h).2.2 x hxS x (List.mem_append_left _ ?_) rfl
                    rw [et, intsOf_tup]
                    exact hx
                  | true =>
                    have cq := conn_eq hg (ns := ns) (by omega)
                    simp [cq, -sat_ifS]
                    rw [sat_ifS]
                    simp [cq]
                    cases hc : conn es ns with
                    | false =>
                      simp
                      exact no (by show isL n es (.tuple (ns.map .int)) = false; rw [isL_ints]; simp [lotL, hc])
                    | true =>
                      have lt : listD [.d (tupI ns)] = some (.d (.list (ns.map .int))) := rfl
                      have hadd : addP (.list (S.map PyData.int)) (.list (ns.map .int)) = some (.list (S.map .int ++ ns.map .int)) := addP_ll (by rw [List.length_map, List.length_map]; show _ ≤ 1000000; omega)
                      simp [lt, hadd]
                      refine ⟨nss ++ [ns], ?_, ?_, ?_, ?_⟩
                      · simp
                      · intro m hm2
                        rcases List.mem_append.mp hm2 with hm2 | hm2
                        · exact hls m hm2
                        · rw [List.mem_singleton.mp hm2]
                          simp [lotL, hin, hi, hc]
                      · rw [List.flatten_append, hS]
                        simp only [List.flatten_cons, List.flatten_nil, List.append_nil]
                        have hi' : ns.Pairwise fun x y => x < y := of_decide_eq_true hi
                        refine List.nodup_append.mpr ⟨by rw [← hS]; exact hnd, hi'.imp fun {x y} h e => by omega, ?_⟩
                        rintro x hx y hy rfl
                        have := List.all_eq_true.mp hbp x hy
                        simp [hx] at this
                      · rw [← List.map_flatten, List.flatten_append, hS]
                        simp
        | _ =>
          simp only [hS]
          simp [tyName, isTy]
          exact no rfl
      · rintro e ⟨nss, o, rfl, hls, hnd, rfl⟩
        rw [List.length_map] at hl hn
        have hn' : (((nss.map tupI).length : Nat) : Int) = n' := by rw [List.length_map]; exact hn
        have hall : (nss.map tupI).all (isL n es) = true := by
          rw [List.all_eq_true]
          intro x hx
          obtain ⟨ns, hns, rfl⟩ := List.mem_map.mp hx
          show isL n es (.tuple (ns.map .int)) = true
          rw [isL_ints]
          exact hls ns hns
        have eM : isM n es n' es' (.tuple (nss.map tupI)) = es'.all (ljoin es (nss.map tupI)) := by
          simp only [isM, hn', hall, flat_tup, hnd, decide_true, Bool.true_and]
        have h24 := hg.2.2.1
        simp [eM, -List.map_map]
        rw [List.map_map]
        refine sat_forD (enc := DV.d ∘ pairD) (fun done e => ∃ a b, e = [some (.d (gD n es)), some (.d (gD n' es')), some (.d (.tuple (nss.map tupI))), some (.d (.list (nss.flatten.map .int))), o, a, b, none, none, none] ∧ done.all (ljoin es (nss.map tupI)) = true) ⟨none, none, by simp, rfl⟩ ?_ ?_
        · rintro done p rest e hd ⟨a, b, rfl, hdone⟩
          have hp : p ∈ es' := by rw [← hd]; simp
          have pr := hg'.2.2.2.2 p hp
          obtain ⟨A, mA, a1, a2⟩ := getD_tup (nss := nss) (i := p.1) (by omega) (by omega)
          obtain ⟨B, mB, b1, b2⟩ := getD_tup (nss := nss) (i := p.2) (by omega) (by omega)
          have e3 : ljoin es (nss.map tupI) p = joined es A B := by
            unfold ljoin
            rw [a2, b2, intsOf_tup, intsOf_tup]
          simp [-List.map_map]
          rw [List.map_map]
          refine sat_comp (enc := DV.d ∘ pairD) (acr A B) pairD (fun q hq => ?_) (by show 0 + es.length ≤ 1000000; omega) ?_
          · simp [a1, b1, across_eq]
            cases acr A B q <;> simp
          · have hE : (es.filter (acr A B)).isEmpty = !joined es A B := by
              unfold joined
              rw [Bool.eq_iff_iff, List.isEmpty_iff, List.filter_eq_nil_iff]
              simp
            obtain ⟨F, hF⟩ : ∃ F, es.filter (acr A B) = F := ⟨_, rfl⟩
            rw [hF] at hE ⊢
            have hQ : eqP (.list (F.map pairD)) (.list []) = some (.bool F.isEmpty) := by
              rw [eqP_s shp_pairs shp_e, eqv_nil]
              simp
            rw [List.nil_append]
            simp [hQ, hE]
            cases hj : joined es A B with
            | true =>
              rw [bsat_true]
              refine ⟨some (.d (.int p.1)), some (.d (.int p.2)), by rw [← List.map_flatten], ?_⟩
              rw [List.all_append, hdone]
              simp [e3, hj]
            | false =>
              simp
              rw [eM, List.all_eq_false]
              exact ⟨p, hp, by rw [e3, hj]; simp⟩
        · rintro e ⟨a, b, rfl, hdone⟩
          simp
          rw [eM]
          exact hdone
    · simp [hn]
      simp [isM, hn]
  | _ => simp [env0, ioP, tyName, isTy, isM]
end Lk
namespace Lk
open PySem PySem.Spec L2
def adj (E : List (Int × Int)) (a b : Int) : Prop := (a, b) ∈ E ∨ (b, a) ∈ E
def Conn (E : List (Int × Int)) (S : List Int) : Prop := ∀ T : Int → Prop, (∃ x ∈ S, T x) → (∀ a ∈ S, ∀ b ∈ S, T a → adj E a b → T b) → ∀ x ∈ S, T x
structure SpI (n' : Int) (es' : List (Int × Int)) (V : Int) (E : List (Int × Int)) (L : List (List Int)) : Prop where
  len : (L.length : Int) = n'
  ne : ∀ S ∈ L, S ≠ []
  nd : ∀ S ∈ L, S.Nodup
  rg : ∀ S ∈ L, ∀ x ∈ S, 0 ≤ x ∧ x < V
  dj : L.Pairwise fun S R => ∀ x ∈ S, x ∉ R
  cn : ∀ S ∈ L, Conn E S
  cr : ∀ p ∈ es', ∃ A B, L[p.1.toNat]? = some A ∧ L[p.2.toNat]? = some B ∧ ∃ a ∈ A, ∃ b ∈ B, adj E a b
  eok : ∀ p ∈ E, (0 ≤ p.1 ∧ p.1 < V) ∧ 0 ≤ p.2 ∧ p.2 < V
theorem Conn.mono {E E' : List (Int × Int)} {S : List Int} (h : Conn E S) (i : ∀ a b, adj E a b → adj E' a b) : Conn E' S := fun T h1 h2 => h T h1 fun a ha b hb t q => h2 a ha b hb t (i a b q)
theorem SpI.more {n' V V' : Int} {es' E E' : List (Int × Int)} {L : List (List Int)} (h : SpI n' es' V E L) (hV : V ≤ V') (i : ∀ a b, adj E a b → adj E' a b) (he : ∀ p ∈ E', (0 ≤ p.1 ∧ p.1 < V') ∧ 0 ≤ p.2 ∧ p.2 < V') : SpI n' es' V' E' L :=
  ⟨h.len, h.ne, h.nd, fun S hS x hx => by have := h.rg S hS x hx; omega, h.dj, fun S hS => (h.cn S hS).mono i, fun p hp => by
    obtain ⟨A, B, a1, b1, a, ha, b, hb, q⟩ := h.cr p hp
    exact ⟨A, B, a1, b1, a, ha, b, hb, i a b q⟩, he⟩
theorem sp_start {n' : Int} {es' : List (Int × Int)} (hg : Nice n' es') : SpI n' es' n' es' ((rgL 0 n').map fun v => [v]) := by
  have h1 := hg.1
  have at' : ∀ i : Int, 0 ≤ i → i < n' → ((rgL 0 n').map fun v => [v])[i.toNat]? = some [i] := fun i h0 h => by
    rw [List.getElem?_map, rgL_get, if_pos (by omega)]
    simp
    omega
  refine ⟨by rw [List.length_map, len_rgL]; omega, ?_, ?_, ?_, ?_, ?_, ?_, fun p hp => by have := hg.2.2.2.2 p hp; omega⟩
  · intro S hS
    obtain ⟨v, _, rfl⟩ := List.mem_map.mp hS
    simp
  · intro S hS
    obtain ⟨v, _, rfl⟩ := List.mem_map.mp hS
    simp
  · intro S hS x hx
    obtain ⟨v, hv, rfl⟩ := List.mem_map.mp hS
    rw [List.mem_singleton.mp hx]
    exact mem_rgL.mp hv
  · refine List.pairwise_map.mpr (List.Pairwise.imp (fun {a b} h x hx hx2 => ?_) (nodup_rgL (a := 0) (b := n')))
    rw [List.mem_singleton.mp hx] at hx2
    exact h (List.mem_singleton.mp hx2)
  · intro S hS
    obtain ⟨v, _, rfl⟩ := List.mem_map.mp hS
    rintro T ⟨x, hx, t⟩ _ y hy
    rw [List.mem_singleton.mp hy, ← List.mem_singleton.mp hx]
    exact t
  · intro p hp
    have := hg.2.2.2.2 p hp
    exact ⟨[p.1], [p.2], at' _ (by omega) (by omega), at' _ (by omega) (by omega), p.1, by simp, p.2, by simp, .inl hp⟩
/-! one vertex split -/
def mvE (v u : Int) (E moved : List (Int × Int)) : List (Int × Int) := (E.filter fun p => decide (p ∉ moved)) ++ moved.map (fun p => (p.1 + p.2 - v, u)) ++ [(v, u)]
def mvL (v u : Int) (L : List (List Int)) : List (List Int) := L.map fun S => if v ∈ S then S ++ [u] else S
theorem adj_mv {v u : Int} {E moved : List (Int × Int)} (ht : ∀ p ∈ moved, p.1 = v ∨ p.2 = v) {a b : Int} (h : adj E a b) : adj (mvE v u E moved) a b ∨ (a = v ∧ adj (mvE v u E moved) u b) ∨ (b = v ∧ adj (mvE v u E moved) a u) := by
  have keep : ∀ p ∈ E, p ∉ moved → p ∈ mvE v u E moved := fun p hp hm => List.mem_append_left _ (List.mem_append_left _ (List.mem_filter.mpr ⟨hp, by simpa using hm⟩))
  have went : ∀ p ∈ moved, (p.1 + p.2 - v, u) ∈ mvE v u E moved := fun p hp => List.mem_append_left _ (List.mem_append_right _ (List.mem_map.mpr ⟨p, hp, rfl⟩))
  rcases h with h | h
  · by_cases q : (a, b) ∈ moved
    · have w := went _ q
      rcases ht _ q with e | e
      · simp only at e
        subst e
        refine .inr (.inl ⟨rfl, .inr ?_⟩)
        rw [show ((a, b) : Int × Int).1 + ((a, b) : Int × Int).2 - a = b by simp; omega] at w
        exact w
      · simp only at e
        subst e
        refine .inr (.inr ⟨rfl, .inl ?_⟩)
        rw [show ((a, b) : Int × Int).1 + ((a, b) : Int × Int).2 - b = a by simp] at w
        exact w
    · exact .inl (.inl (keep _ h q))
  · by_cases q : (b, a) ∈ moved
    · have w := went _ q
      rcases ht _ q with e | e
      · simp only at e
        subst e
        refine .inr (.inr ⟨rfl, .inl ?_⟩)
        rw [show ((b, a) : Int × Int).1 + ((b, a) : Int × Int).2 - b = a by simp; omega] at w
        exact w
      · simp only at e
        subst e
        refine .inr (.inl ⟨rfl, .inr ?_⟩)
        rw [show ((b, a) : Int × Int).1 + ((b, a) : Int × Int).2 - a = b by simp] at w
        exact w
    · exact .inl (.inr (keep _ h q))
theorem adj_vu {v u : Int} {E moved : List (Int × Int)} : adj (mvE v u E moved) v u ∧ adj (mvE v u E moved) u v := by
  have : (v, u) ∈ mvE v u E moved := List.mem_append_right _ (by simp)
  exact ⟨.inl this, .inr this⟩
theorem sp_move {n' V v : Int} {es' E moved : List (Int × Int)} {L : List (List Int)} (h : SpI n' es' V E L) (hv0 : 0 ≤ v) (hv1 : v < V) (hm : ∀ p ∈ moved, p ∈ E ∧ (p.1 = v ∨ p.2 = v)) : SpI n' es' (V + 1) (mvE v V E moved) (mvL v V L) := by
  have ht : ∀ p ∈ moved, p.1 = v ∨ p.2 = v := fun p hp => (hm p hp).2
  have mem : ∀ S' ∈ mvL v V L, ∃ S ∈ L, S' = if v ∈ S then S ++ [V] else S := fun S' hS' => by
    obtain ⟨S, hS, rfl⟩ := List.mem_map.mp hS'
    exact ⟨S, hS, rfl⟩
  refine ⟨by unfold mvL; rw [List.length_map]; exact h.len, ?_, ?_, ?_, ?_, ?_, ?_, ?_⟩
  · intro S' hS'
    obtain ⟨S, hS, rfl⟩ := mem S' hS'
    split
    · simp
    · exact h.ne S hS
  · intro S' hS'
    obtain ⟨S, hS, rfl⟩ := mem S' hS'
    split
    · refine List.nodup_append.mpr ⟨h.nd S hS, by simp, ?_⟩
      rintro x hx y hy rfl
      have := h.rg S hS x hx
      rw [List.mem_singleton.mp hy] at this
      omega
    · exact h.nd S hS
  · intro S' hS' x hx
    obtain ⟨S, hS, rfl⟩ := mem S' hS'
    split at hx
    · rcases List.mem_append.mp hx with hx | hx
      · have := h.rg S hS x hx; omega
      · rw [List.mem_singleton.mp hx]; omega
    · have := h.rg S hS x hx; omega
  · unfold mvL
    refine List.pairwise_map.mpr (List.Pairwise.imp_of_mem (fun {S R} hS hR hd x hx hx2 => ?_) h.dj)
    have vV : ∀ Q ∈ L, V ∉ Q := fun Q hQ hV => by have := h.rg Q hQ V hV; omega
    split at hx
    · rename_i h1
      split at hx2
      · rename_i h2
        exact hd v h1 h2
      · rcases List.mem_append.mp hx with hx | hx
        · exact hd x hx hx2
        · rw [List.mem_singleton.mp hx] at hx2
          exact vV R hR hx2
    · split at hx2
      · rcases List.mem_append.mp hx2 with hx2 | hx2
        · exact hd x hx hx2
        · rw [List.mem_singleton.mp hx2] at hx
          exact vV S hS hx
      · exact hd x hx hx2
  · intro S' hS'
    obtain ⟨S, hS, rfl⟩ := mem S' hS'
    have c := h.cn S hS
    split
    · rename_i h1
      intro T ⟨x0, hx0, t0⟩ hcl
      have vu : T v → T V := fun t => hcl v (List.mem_append_left _ h1) V (by simp) t adj_vu.1
      have uv : T V → T v := fun t => hcl V (by simp) v (List.mem_append_left _ h1) t adj_vu.2
      have all : ∀ x ∈ S, T x := by
        refine c T ?_ fun a ha b hb t q => ?_
        · rcases List.mem_append.mp hx0 with h0 | h0
          · exact ⟨x0, h0, t0⟩
          · rw [List.mem_singleton.mp h0] at t0
            exact ⟨v, h1, uv t0⟩
        · rcases adj_mv ht q with q | ⟨rfl, q⟩ | ⟨rfl, q⟩
          · exact hcl a (List.mem_append_left _ ha) b (List.mem_append_left _ hb) t q
          · exact hcl V (by simp) b (List.mem_append_left _ hb) (vu t) q
          · exact uv (hcl a (List.mem_append_left _ ha) V (by simp) t q)
      intro x hx
      rcases List.mem_append.mp hx with hx | hx
      · exact all x hx
      · rw [List.mem_singleton.mp hx]
        exact vu (all v h1)
    · rename_i h1
      intro T ht0 hcl
      refine c T ht0 fun a ha b hb t q => ?_
      rcases adj_mv ht q with q | ⟨rfl, q⟩ | ⟨rfl, q⟩
      · exact hcl a ha b hb t q
      · exact absurd ha h1
      · exact absurd hb h1
  · intro p hp
    obtain ⟨A, B, a1, b1, a, ha, b, hb, q⟩ := h.cr p hp
    have sub : ∀ (S : List Int) (x : Int), x ∈ S → x ∈ (if v ∈ S then S ++ [V] else S) := fun S x hx => by
      split
      · exact List.mem_append_left _ hx
      · exact hx
    have hV : ∀ (S : List Int), v ∈ S → V ∈ (if v ∈ S then S ++ [V] else S) := fun S hs => by
      rw [if_pos hs]; simp
    refine ⟨_, _, by unfold mvL; rw [List.getElem?_map, a1]; rfl, by unfold mvL; rw [List.getElem?_map, b1]; rfl, ?_⟩
    rcases adj_mv ht q with q | ⟨rfl, q⟩ | ⟨rfl, q⟩
    · exact ⟨a, sub A a ha, b, sub B b hb, q⟩
    · exact ⟨V, hV A ha, b, sub B b hb, q⟩
    · exact ⟨a, sub A a ha, V, hV B hb, q⟩
  · intro p hp
    unfold mvE at hp
    rcases List.mem_append.mp hp with hp | hp
    · rcases List.mem_append.mp hp with hp | hp
      · have := h.eok p (List.mem_filter.mp hp).1; omega
      · obtain ⟨q, hq, rfl⟩ := List.mem_map.mp hp
        have e := h.eok q (hm q hq).1
        have := (hm q hq).2
        simp only
        omega
    · rw [List.mem_singleton.mp hp]
      simp only
      omega
end Lk
namespace Lk
open PySem PySem.Spec L2
def nmL (l : List Int) (es : List (Int × Int)) : List (Int × Int) := srtB SrtO.lexB (keptL (es.map fun p => (atD l p.1, atD l p.2)) [])
theorem named_eq {n : Int} {es : List (Int × Int)} {l : List Int} (hg : Nice n es) (hp : l.Perm (rgL 0 n)) : F_lawUnamed [.d (gD n es), .d (.list (l.map .int))] = .ok (.d (gD n (nmL l es))) [] ∧ Nice n (nmL l es) ∧ (nmL l es).length ≤ es.length := by
  obtain ⟨g1, g2, g3, g4, g5⟩ := hg
  have hlen : (l.length : Int) = n := by rw [hp.length_eq, len_rgL]; omega
  have inl : ∀ i, 0 ≤ i → i < n → atI l i = some (atD l i) ∧ 0 ≤ atD l i ∧ atD l i < n := fun i h0 h1 => by
    obtain ⟨q1, q2⟩ := atD_ok (l := l) h0 (by omega)
    have := mem_rgL.mp (hp.mem_iff.mp q2)
    exact ⟨q1, this.1, this.2⟩
  refine ⟨res_eq ?_, ?_, ?_⟩
  · rw [F_lawUnamed, runF_sat]
    unfold m_lawUnamed
    simp [env0, ioP, gD, atI_0, atI_1]
    refine sat_compA (enc := DV.d ∘ pairD) (fun p => pairD (atD l p.1, atD l p.2)) (fun p hp => ?_) (by show _ ≤ 1000000; simp; omega) ?_
    · have := g5 p hp
      simp [pairD, atI_map, (inl p.1 (by omega) (by omega)).1, (inl p.2 (by omega) (by omega)).1]
    · simp
      have e : (es.map fun p => pairD (atD l p.1, atD l p.2)) = (es.map fun p => (atD l p.1, atD l p.2)).map pairD := by simp
      rw [e, kept_ok (n := n) (ps := es.map fun p => (atD l p.1, atD l p.2)) (by simp; omega)]
      simp [putM, clrM, nmL, gD]
  · refine nice_kept g1 g2 (Nat.le_trans keptL_len (by simpa using g3)) fun q hq => ?_
    obtain ⟨p, hp, rfl⟩ := List.mem_map.mp hq
    have := g5 p hp
    have h1 := inl p.1 (by omega) (by omega)
    have h2 := inl p.2 (by omega) (by omega)
    exact ⟨h1.2.1, h1.2.2, h2.2.1, h2.2.2⟩
  · unfold nmL
    rw [(srtB_perm _).length_eq]
    exact Nat.le_trans keptL_len (by simp)
theorem atD_inj {l : List Int} (hn : l.Nodup) {i j : Int} (i0 : 0 ≤ i) (i1 : i < l.length) (j0 : 0 ≤ j) (j1 : j < l.length) (h : atD l i = atD l j) : i = j := by
  have key : ∀ i : Int, 0 ≤ i → (h : i < l.length) → atD l i = l[i.toNat]'(by omega) := fun i h0 h => by
    unfold atD atI ixN
    rw [if_pos h0, if_pos h]
    show (l[i.toNat]?).getD 0 = _
    rw [List.getElem?_eq_getElem (by omega)]
    rfl
  rw [key i i0 i1, key j j0 j1] at h
  have hp := List.pairwise_iff_getElem.mp hn
  by_cases c : i.toNat < j.toNat
  · exact absurd h (hp i.toNat j.toNat (by omega) (by omega) c)
  · by_cases c2 : j.toNat < i.toNat
    · exact absurd h.symm (hp j.toNat i.toNat (by omega) (by omega) c2)
    · omega
def fin (l : List Int) (E : List (Int × Int)) : List (Int × Int) := nmL l (srtB SrtO.lexB (keptL E []))
def lots2 (l : List Int) (L : List (List Int)) : List (List Int) := L.map fun S => srtB ltI (S.map (atD l))
theorem adj_fin {V : Int} {E : List (Int × Int)} {l : List Int} (hp : l.Perm (rgL 0 V)) {a b : Int} (hab : a ≠ b) (ha : 0 ≤ a ∧ a < V) (hb : 0 ≤ b ∧ b < V) (h : adj E a b) : adj (fin l E) (atD l a) (atD l b) := by
  have hlen : (l.length : Int) = V := by rw [hp.length_eq, len_rgL]; omega
  have hnd : l.Nodup := hp.nodup_iff.mpr nodup_rgL
  have hne : atD l a ≠ atD l b := fun e => hab (atD_inj hnd ha.1 (by omega) hb.1 (by omega) e)
  have two : normP (a, b) ∈ srtB SrtO.lexB (keptL E []) := by
    rcases h with h | h
    · exact mem_kept.mpr ⟨_, h, hab, rfl⟩
    · exact mem_kept.mpr ⟨_, h, hab.symm, normP_swap hab⟩
  have fin' : ∀ x y : Int, x ≠ y → atD l x ≠ atD l y → (x, y) ∈ srtB SrtO.lexB (keptL E []) → adj (fin l E) (atD l x) (atD l y) := fun x y _ hne h => by
    have m : normP (atD l x, atD l y) ∈ fin l E := mem_kept.mpr ⟨_, List.mem_map.mpr ⟨_, h, rfl⟩, hne, rfl⟩
    unfold normP at m
    split at m
    · exact .inl m
    · exact .inr m
  unfold normP at two
  split at two
  · exact fin' a b hab hne two
  · exact (fin' b a hab.symm hne.symm two).symm
theorem sp_model {n' V : Int} {es' E : List (Int × Int)} {L : List (List Int)} {l : List Int} (hg' : Nice n' es') (h : SpI n' es' V E L) (hp : l.Perm (rgL 0 V)) (hN : Nice V (fin l E)) : isM V (fin l E) n' es' (.tuple ((lots2 l L).map tupI)) = true := by
  have hlen : (l.length : Int) = V := by rw [hp.length_eq, len_rgL]; have := hN.1; omega
  have hnd : l.Nodup := hp.nodup_iff.mpr nodup_rgL
  have inl : ∀ i, 0 ≤ i → i < V → 0 ≤ atD l i ∧ atD l i < V := fun i h0 h1 => by
    obtain ⟨q1, q2⟩ := atD_ok (l := l) h0 (by omega)
    have := mem_rgL.mp (hp.mem_iff.mp q2)
    exact ⟨this.1, this.2⟩
  have inj : ∀ i j : Int, 0 ≤ i → i < V → 0 ≤ j → j < V → atD l i = atD l j → i = j := fun i j i0 i1 j0 j1 e => atD_inj hnd i0 (by omega) j0 (by omega) e
  have mem2 : ∀ S' ∈ lots2 l L, ∃ S ∈ L, S' = srtB ltI (S.map (atD l)) := fun S' hS' => by
    obtain ⟨S, hS, rfl⟩ := List.mem_map.mp hS'
    exact ⟨S, hS, rfl⟩
  have ndS : ∀ S ∈ L, (S.map (atD l)).Nodup := fun S hS => by
    refine List.pairwise_map.mpr (List.Pairwise.imp_of_mem (fun {a b} ha hb hne e => hne ?_) (h.nd S hS))
    have r1 := h.rg S hS a ha
    have r2 := h.rg S hS b hb
    exact inj a b r1.1 r1.2 r2.1 r2.2 e
  have ms : ∀ (S : List Int) (y : Int), y ∈ srtB ltI (S.map (atD l)) ↔ ∃ x ∈ S, y = atD l x := fun S y => by
    rw [(srtB_perm _).mem_iff, List.mem_map]
    exact ⟨fun ⟨x, hx, e⟩ => ⟨x, hx, e.symm⟩, fun ⟨x, hx, e⟩ => ⟨x, hx, e.symm⟩⟩
  have lotOk : ∀ S ∈ L, lotL V (fin l E) (srtB ltI (S.map (atD l))) = true := fun S hS => by
    have srt : (srtB ltI (S.map (atD l))).Pairwise fun x y => x < y := by
      have h1 : SrtO.Srtd ltI (srtB ltI (S.map (atD l))) := srtB_srt tot_int _
      have h2 : (srtB ltI (S.map (atD l))).Nodup := (srtB_perm _).nodup_iff.mpr (ndS S hS)
      refine List.Pairwise.imp₂ (fun {x y} (a : ltI y x = false) (b : x ≠ y) => ?_) h1 h2
      have : ¬ y < x := of_decide_eq_false a
      omega
    have rgS : ∀ y ∈ srtB ltI (S.map (atD l)), 0 ≤ y ∧ y < V := fun y hy => by
      obtain ⟨x, hx, rfl⟩ := (ms S y).mp hy
      have := h.rg S hS x hx
      exact inl x this.1 this.2
    unfold lotL
    simp only [Bool.and_eq_true]
    refine ⟨⟨List.all_eq_true.mpr fun y hy => by have := rgS y hy; simp [inR]; omega, decide_eq_true srt⟩, ?_⟩
    cases e : srtB ltI (S.map (atD l)) with
    | nil =>
      have : S.map (atD l) = [] := by
        have := (srtB_perm (lt := ltI) (S.map (atD l))).length_eq
        rw [e] at this
        exact List.length_eq_zero_iff.mp this.symm
      exact absurd (List.map_eq_nil_iff.mp this) (h.ne S hS)
    | cons v r =>
      have few : (v :: r).length ≤ 10 := by
        rw [← e]
        have := nodup_sub_len (l := srtB ltI (S.map (atD l))) (m := rgL 0 V) (srt.imp fun {x y} h e => by omega) fun x hx => mem_rgL.mpr (rgS x hx)
        rw [len_rgL] at this
        have := hN.2.1
        omega
      have ok := reach_ok (nb := fun v => nbL v (fin l E)) (lot := v :: r) (fun v => nbL_nodup hN) (k := 100) (found := [v]) (i := 0) (by simp) (by simp) (by omega) (by omega) (by omega)
      have all : ∀ x ∈ S, atD l x ∈ reachL (fun v => nbL v (fin l E)) (v :: r) 100 [v] 0 := by
        refine h.cn S hS (fun x => atD l x ∈ reachL (fun v => nbL v (fin l E)) (v :: r) 100 [v] 0) ?_ fun a ha b hb t q => ?_
        · obtain ⟨x, hx, ex⟩ := (ms S v).mp (by rw [e]; simp)
          exact ⟨x, hx, by rw [← ex]; exact ok.2.2.1 v (by simp)⟩
        · by_cases hab : a = b
          · rw [← hab]; exact t
          · refine ok.2.2.2 _ t _ (mem_nb.mpr ?_) (by rw [← e]; exact (ms S _).mpr ⟨b, hb, rfl⟩)
            exact adj_fin hp hab (h.rg S hS a ha) (h.rg S hS b hb) q
      have l1 := nodup_sub_len ok.1 ok.2.1
      have l2 := nodup_sub_len (l := v :: r) (m := reachL (fun v => nbL v (fin l E)) (v :: r) 100 [v] 0) (by rw [← e]; exact srt.imp fun {x y} h e => by omega) fun y hy => by
        rw [← e] at hy
        obtain ⟨x, hx, rfl⟩ := (ms S y).mp hy
        exact all x hx
      exact decide_eq_true (by omega)
  have d1 : ((((lots2 l L).map tupI).length : Nat) : Int) = n' := by
    unfold lots2
    rw [List.length_map, List.length_map]
    exact h.len
  have d2 : ((lots2 l L).map tupI).all (isL V (fin l E)) = true := by
    rw [List.all_eq_true]
    intro x hx
    obtain ⟨S', hS', rfl⟩ := List.mem_map.mp hx
    obtain ⟨S, hS, rfl⟩ := mem2 S' hS'
    show isL V (fin l E) (.tuple ((srtB ltI (S.map (atD l))).map .int)) = true
    rw [isL_ints]
    exact lotOk S hS
  have d3 : (lots2 l L).flatten.Nodup := by
    refine List.pairwise_flatten.mpr ⟨fun S' hS' => ?_, ?_⟩
    · obtain ⟨S, hS, rfl⟩ := mem2 S' hS'
      exact (srtB_perm _).nodup_iff.mpr (ndS S hS)
    · unfold lots2
      refine List.pairwise_map.mpr (List.Pairwise.imp_of_mem (fun {S R} hS hR hd x hx y hy e => ?_) h.dj)
      subst e
      obtain ⟨a, ha, e1⟩ := (ms S x).mp hx
      obtain ⟨b, hb, e2⟩ := (ms R x).mp hy
      have r1 := h.rg S hS a ha
      have r2 := h.rg R hR b hb
      have := inj a b r1.1 r1.2 r2.1 r2.2 (e1.symm.trans e2)
      subst this
      exact hd a ha hb
  have d4 : es'.all (ljoin (fin l E) ((lots2 l L).map tupI)) = true := by
    rw [List.all_eq_true]
    intro p hp'
    have pr := hg'.2.2.2.2 p hp'
    obtain ⟨A, B, a1, b1, a, ha, b, hb, q⟩ := h.cr p hp'
    have gA : ((lots2 l L).map tupI).getD p.1.toNat .none = tupI (srtB ltI (A.map (atD l))) := by
      unfold lots2
      rw [List.getD_eq_getElem?_getD, List.getElem?_map, List.getElem?_map, a1]
      rfl
    have gB : ((lots2 l L).map tupI).getD p.2.toNat .none = tupI (srtB ltI (B.map (atD l))) := by
      unfold lots2
      rw [List.getD_eq_getElem?_getD, List.getElem?_map, List.getElem?_map, b1]
      rfl
    have mA := List.mem_of_getElem? a1
    have mB := List.mem_of_getElem? b1
    have hab : a ≠ b := fun e => by
      subst e
      obtain ⟨iA, eA⟩ := List.getElem?_eq_some_iff.mp a1
      obtain ⟨iB, eB⟩ := List.getElem?_eq_some_iff.mp b1
      have := List.pairwise_iff_getElem.mp h.dj p.1.toNat p.2.toNat iA iB (by omega)
      rw [eA, eB] at this
      exact this a ha hb
    unfold ljoin
    rw [gA, gB, intsOf_tup, intsOf_tup]
    unfold joined
    rw [List.any_eq_true]
    have hA2 : atD l a ∈ srtB ltI (A.map (atD l)) := (ms A _).mpr ⟨a, ha, rfl⟩
    have hB2 : atD l b ∈ srtB ltI (B.map (atD l)) := (ms B _).mpr ⟨b, hb, rfl⟩
    rcases adj_fin hp hab (h.rg A mA a ha) (h.rg B mB b hb) q with z | z
    · exact ⟨_, z, by unfold acr; exact decide_eq_true (.inl ⟨hA2, hB2⟩)⟩
    · exact ⟨_, z, by unfold acr; exact decide_eq_true (.inr ⟨hA2, hB2⟩)⟩
  simp only [isM, d1, d2, flat_tup, d3, d4, decide_true, Bool.true_and]
end Lk
namespace Lk
open PySem PySem.Spec L2
def lsD (S : List Int) : PyData := .list (S.map .int)
theorem shp_lsD {S : List Int} : Shp 1 (lsD S) := shp_ints
theorem sp_len {v u : Int} {E moved : List (Int × Int)} (h : moved.Sublist E) : (mvE v u E moved).length ≤ E.length + 1 := by
  unfold mvE
  rw [List.length_append, List.length_append, List.length_map]
  have a : moved.length ≤ (E.filter fun p => decide (p ∈ moved)).length := by
    have := h.filter (fun p => decide (p ∈ moved))
    rw [List.filter_eq_self.mpr (fun p hp => by simp [hp])] at this
    exact this.length_le
  have b : (E.filter fun p => decide (p ∈ moved)).length + (E.filter fun p => decide (p ∉ moved)).length = E.length := by
    have key : ∀ E : List (Int × Int), (E.filter fun p => decide (p ∈ moved)).length + (E.filter fun p => decide (p ∉ moved)).length = E.length := by
      intro E
      induction E with
      | nil => rfl
      | cons p E ih =>
        by_cases q : p ∈ moved
        · rw [List.filter_cons_of_pos (by simp [q]), List.filter_cons_of_neg (by simp [q])]
          simp only [List.length_cons]; omega
        · rw [List.filter_cons_of_neg (by simp [q]), List.filter_cons_of_pos (by simp [q])]
          simp only [List.length_cons]; omega
    exact key E
  simp only [List.length_cons, List.length_nil]
  omega
def Tch (v : Int) (moved : List (Int × Int)) : Prop := ∀ p ∈ moved, p.1 = v ∨ p.2 = v
def mvS (v u : Int) (S : List Int) : List Int := if v ∈ S then S ++ [u] else S
theorem len_L {n' V : Int} {es' E : List (Int × Int)} {L : List (List Int)} (h : SpI n' es' V E L) (hn : n' ≤ 10) (hV : V ≤ 10) : L.length ≤ 10 ∧ ∀ S ∈ L, S.length ≤ 10 := by
  have := h.len
  refine ⟨by omega, fun S hS => ?_⟩
  have := nodup_sub_len (l := S) (m := rgL 0 V) (h.nd S hS) fun x hx => mem_rgL.mpr (h.rg S hS x hx)
  rw [len_rgL] at this
  omega
theorem spread_sat {w : DV} {n' : Int} {es' : List (Int × Int)} (hw : WL w) (hg' : Nice n' es') : (F_lawUspread [w, .d (gD n' es'), .d (.int 10)]).sat (fun d outs => ∃ (n : Int) (es : List (Int × Int)) (nss : List (List Int)) (w' : DV), d = .d (.list [gD n es, .tuple (nss.map tupI)]) ∧ outs = [w'] ∧ WL w' ∧ Nice n es ∧ isM n es n' es' (.tuple (nss.map tupI)) = true) nR := by
  have h1 := hg'.1
  have h2 := hg'.2.1
  have h24 := hg'.2.2.1
  have hrg : rgOk 0 n' = true := rgOk_of (by omega) (by omega) (by omega) (by omega)
  rw [F_lawUspread, runF_sat]
  unfold m_lawUspread
  simp [env0, ioP, setAll, rgI_ok hrg, rgP_rgL]
  refine sat_compA (enc := DV.d ∘ .int) (fun v => lsD [v]) (fun v hv => ?_) (by show 0 + (rgL 0 n').length ≤ 1000000; rw [len_rgL]; omega) ?_
  · simp [lsD]
  · have e0 : (rgL 0 n').map (fun v => lsD [v]) = ((rgL 0 n').map fun v => [v]).map lsD := by rw [List.map_map]; rfl
    rw [List.nil_append, e0]
    simp [setAll, -List.map_map, -sat_ifS]
    refine (draw_sat (m := 4) hw (by omega) (by omega)).mono ?_
    rintro d outs ⟨r, w1, rfl, rfl, hw1, hr0, hr1⟩
    have hrr : rgOk 0 r = true := rgOk_of (by omega) (by omega) (by omega) (by omega)
    simp [rgI_ok hrr, rgP_rgL, -List.map_map, -sat_ifS]
    rw [List.map_map]
    refine sat_for (enc := DV.d ∘ .int) (fun rest e => ∃ (w : DV) (V : Int) (E : List (Int × Int)) (L : List (List Int)) (o6 o7 o8 o9 : Option DV), e = [some w, some (.d (gD n' es')), some (.d (.int 10)), some (.d (.int V)), some (.d (.list (E.map pairD))), some (.d (.list (L.map lsD))), o6, o7, o8, o9, none, none, none, none, none, none] ∧ WL w ∧ SpI n' es' V E L ∧ V ≤ 10 ∧ E.length ≤ 24) ⟨w1, n', es', _, none, none, none, none, rfl, hw1, sp_start hg', h2, h24⟩ ?_ ?_
    · rintro t rest e ⟨w, V, E, L, o6, o7, o8, o9, rfl, hw, hS, hV, hE⟩
      have ll := len_L hS h2 hV
      simp
      refine ⟨fun hV10 => ⟨fun hE22 => ?_, fun hE22 => ?_⟩, fun hV10 => ?_⟩
      · have hV0 : 0 < V := by
          cases hL : L with
          | nil => have := hS.len; rw [hL] at this; simp at this; omega
          | cons S L' =>
            have mS : S ∈ L := by rw [hL]; simp
            cases hSS : S with
            | nil => exact absurd hSS (hS.ne S mS)
            | cons x S' => have := hS.rg S mS x (by rw [hSS]; simp); omega
        refine (draw_sat (m := V) hw (by omega) (by omega)).mono ?_
        rintro d outs ⟨v, w2, rfl, rfl, hw2, hv0, hv1⟩
        simp [-List.map_map]
        rw [List.map_map]
        refine sat_forD (enc := DV.d ∘ pairD) (fun done e => ∃ (w : DV) (moved : List (Int × Int)) (o9 : Option DV), e = [some w, some (.d (gD n' es')), some (.d (.int 10)), some (.d (.int V)), some (.d (.list (E.map pairD))), some (.d (.list (L.map lsD))), some (.d (.int t)), some (.d (.int v)), some (.d (.list (moved.map pairD))), o9, none, none, none, none, none, none] ∧ WL w ∧ moved.Sublist done ∧ Tch v moved) ⟨w2, [], o9, rfl, hw2, by simp, fun p hp => nomatch hp⟩ ?_ ?_
        · rintro done p rs e hd ⟨w, moved, o9, rfl, hw, hsub, hto⟩
          have hdl : done.length ≤ 24 := by
            have := congrArg List.length hd
            rw [List.length_append] at this
            omega
          have hml := hsub.length_le
          have hb : moved.length < big := by show _ < 1000000; omega
          obtain ⟨bq, hbq⟩ : ∃ b, decide (p.1 = v ∨ p.2 = v) = b := ⟨_, rfl⟩
          have hin : inP (.int v) (pairD p) = some (.bool bq) := by rw [inP_vp, hbq]
          simp [hin]
          cases bq with
          | true =>
            have q : p.1 = v ∨ p.2 = v := of_decide_eq_true hbq
            simp
            refine (draw_sat (m := 2) hw (by omega) (by omega)).mono ?_
            rintro d outs ⟨k, w3, rfl, rfl, hw3, -, -⟩
            simp [apO, hb]
            refine ⟨fun _ => ⟨w3, moved ++ [p], ⟨rfl, by simp⟩, hw3, hsub.append (List.Sublist.refl _), fun z hz => ?_⟩, fun _ => ⟨w3, moved, ⟨rfl, rfl⟩, hw3, hsub.trans (List.sublist_append_left _ _), hto⟩⟩
            rcases List.mem_append.mp hz with hz | hz
            · exact hto z hz
            · rw [List.mem_singleton.mp hz]; exact q
          | false =>
            simp
            exact ⟨w, moved, ⟨rfl, rfl⟩, hw, hsub.trans (List.sublist_append_left _ _), hto⟩
        · rintro e ⟨w, moved, o9, rfl, hw, hsub, hto⟩
          have hml := hsub.length_le
          simp [-List.map_map]
          rw [List.map_map]
          refine sat_comp (enc := DV.d ∘ pairD) (fun p => decide (p ∉ moved)) pairD (fun p hp => ?_) (by show 0 + E.length ≤ 1000000; omega) ?_
          · by_cases q : p ∈ moved <;> simp [notInP_pairs, q]
          · rw [List.nil_append]
            simp [-List.map_map]
            rw [List.map_map]
            refine sat_compA (enc := DV.d ∘ pairD) (fun p => pairD (p.1 + p.2 - v, V)) (fun p hp => ?_) (by show 0 + moved.length ≤ 1000000; omega) ?_
            · simp [mk_p]
            · obtain ⟨F, hF⟩ : ∃ F, E.filter (fun p => decide (p ∉ moved)) = F := ⟨_, rfl⟩
              have hFl : F.length ≤ 24 := by rw [← hF]; exact Nat.le_trans (List.length_filter_le _ _) hE
              have hF' : E.filter (fun p => !decide (p ∈ moved)) = F := by rw [← hF]; congr 1; funext p; simp
              have hadd : addP (.list (F.map pairD)) (.list (moved.map fun p => pairD (p.1 + p.2 - v, V))) = some (.list (F.map pairD ++ moved.map fun p => pairD (p.1 + p.2 - v, V))) := addP_ll (by rw [List.length_map, List.length_map]; show _ ≤ 1000000; omega)
              have hb : (F.map pairD ++ moved.map fun p => pairD (p.1 + p.2 - v, V)).length < big := by
                rw [List.length_append, List.length_map, List.length_map]
                show _ < 1000000
                omega
              have eE : (F.map pairD ++ moved.map fun p => pairD (p.1 + p.2 - v, V)) ++ [pairD (v, V)] = (mvE v V E moved).map pairD := by
                unfold mvE
                rw [hF]
                simp
              rw [List.nil_append]
              try rw [hF]
              try rw [hF']
              simp [hadd, apO, hb, mk_p, -List.map_map, -List.length_append]
              have eE' : F.map pairD ++ ((moved.map fun p => pairD (p.1 + p.2 - v, V)) ++ [pairD (v, V)]) = (mvE v V E moved).map pairD := by rw [← eE, List.append_assoc]
              rw [eE', List.map_map]
              refine sat_compA (enc := DV.d ∘ lsD) (fun S => lsD (mvS v V S)) (fun S hSm => ?_) (by show 0 + L.length ≤ 1000000; omega) ?_
              · have sl := ll.2 S hSm
                have hin : inP (.int v) (lsD S) = some (.bool (decide (v ∈ S))) := inP_ints
                have hadd2 : addP (lsD S) (.list [.int V]) = some (lsD (S ++ [V])) := by
                  have := addP_ll (xs := S.map PyData.int) (ys := [.int V]) (by rw [List.length_map]; show _ + 1 ≤ 1000000; omega)
                  show addP (.list (S.map .int)) (.list [.int V]) = some (.list ((S ++ [V]).map .int))
                  rw [this]
                  simp
                unfold mvS
                by_cases q : v ∈ S <;> simp [hin, hadd2, q]
              · have eL : L.map (fun S => lsD (mvS v V S)) = (mvL v V L).map lsD := by unfold mvL mvS; rw [List.map_map]; rfl
                rw [List.nil_append, eL]
                simp
                refine ⟨w, V + 1, mvE v V E moved, mvL v V L, ⟨rfl, rfl, rfl, rfl⟩, hw, sp_move hS hv0 hv1 (fun p hp => ⟨hsub.mem hp, hto p hp⟩), by omega, ?_⟩
                have := sp_len (v := v) (u := V) hsub
                omega
      · exact ⟨w, V, E, L, ⟨rfl, rfl, rfl, rfl⟩, hw, hS, hV, hE⟩
      · exact ⟨w, V, E, L, ⟨rfl, rfl, rfl, rfl⟩, hw, hS, hV, hE⟩
    · rintro e ⟨w, V, E, L, o6, o7, o8, o9, rfl, hw, hS, hV, hE⟩
      simp [-sat_ifS, -sat_ifM]
      refine Out.sat.mono (Q := fun d e' => ∃ (w : DV) (i : Int), d = .d (.int i) ∧ WL w ∧ 0 ≤ i ∧ V + i ≤ 10 ∧ e' = [some w, some (.d (gD n' es')), some (.d (.int 10)), some (.d (.int V)), some (.d (.list (E.map pairD))), some (.d (.list (L.map lsD))), o6, o7, o8, o9, none, none, none, none, none, none]) ?_ ?_
      · simp
        refine ⟨fun hlt => ?_, fun hge => ?_⟩
        · refine (draw_sat (m := 3) hw (by omega) (by omega)).mono ?_
          rintro d outs ⟨k, w3, rfl, rfl, hw3, -, -⟩
          simp
          exact ⟨fun _ => ⟨hw3, by omega⟩, fun _ => ⟨hw3, by omega⟩⟩
        · exact ⟨hw, by omega⟩
      · rintro d e' ⟨w, i, rfl, hw, hi, hVi, rfl⟩
        simp [-List.map_map]
        refine (draw_sat (m := 4) hw (by omega) (by omega)).mono ?_
        rintro d outs ⟨r, w3, rfl, rfl, hw3, hr0, hr1⟩
        have hrr : rgOk 0 r = true := rgOk_of (by omega) (by omega) (by omega) (by omega)
        have hS2 : SpI n' es' (V + i) E L := hS.more (by omega) (fun a b h => h) fun p hp => by have := hS.eok p hp; omega
        have hVp : 0 < V := by
          cases hL : L with
          | nil => have := hS.len; rw [hL] at this; simp at this; omega
          | cons S L' =>
            have mS : S ∈ L := by rw [hL]; simp
            cases hSS : S with
            | nil => exact absurd hSS (hS.ne S mS)
            | cons x S' => have := hS.rg S mS x (by rw [hSS]; simp); omega
        obtain ⟨U, hU⟩ : ∃ U, V + i = U := ⟨_, rfl⟩
        rw [hU] at hS2 hVi ⊢
        simp [rgI_ok hrr, rgP_rgL, -List.map_map]
        rw [List.map_map]
        refine sat_for (enc := DV.d ∘ .int) (fun rest e => ∃ (w : DV) (E : List (Int × Int)) (o6 o10 : Option DV), e = [some w, some (.d (gD n' es')), some (.d (.int 10)), some (.d (.int U)), some (.d (.list (E.map pairD))), some (.d (.list (L.map lsD))), o6, o7, o8, o9, o10, none, none, none, none, none] ∧ WL w ∧ SpI n' es' U E L ∧ E.length ≤ 24) ⟨w3, E, o6, none, rfl, hw3, hS2, hE⟩ ?_ ?_
        · rintro t rest e ⟨w, E, o6, o10, rfl, hw, hS, hE⟩
          have pl := pairsL_len (n := U) (by omega) (by omega)
          have hadd : addP (.list ((pairsL U).map pairD)) (.list [.tuple [.int 0, .int 0]]) = some (.list ((pairsL U ++ [(0, 0)]).map pairD)) := by
            rw [addP_ll (by rw [List.length_map]; show _ + 1 ≤ 1000000; omega), List.map_append]
            rfl
          simp [pairs_ok (n := U) (by omega) (by omega), hadd, -List.map_append]
          refine Res.sat.mono (pick_sat hw ?_ ?_) ?_
          · simp
          · rw [List.length_map, List.length_append]; simp only [List.length_cons, List.length_nil]; omega
          rintro d outs ⟨x, w4, rfl, rfl, hw4, hx⟩
          obtain ⟨q, hq, rfl⟩ := List.mem_map.mp hx
          have qr : (0 ≤ q.1 ∧ q.1 < U) ∧ 0 ≤ q.2 ∧ q.2 < U := by
            rcases List.mem_append.mp hq with hq | hq
            · have := mem_pairsL hq; omega
            · rw [List.mem_singleton.mp hq]; simp; omega
          have hadd3 : addP (.list (E.map pairD)) (.list [pairD q]) = some (.list ((E ++ [q]).map pairD)) := by
            rw [addP_ll (by rw [List.length_map]; show _ + 1 ≤ 1000000; omega), List.map_append]
            rfl
          simp [hadd3, -List.map_append]
          refine ⟨fun hl => ⟨w4, E ++ [q], ⟨rfl, rfl⟩, hw4, hS.more (Int.le_refl _) (fun a b h => h.imp (List.mem_append_left _) (List.mem_append_left _)) (fun p hp => ?_), by rw [List.length_append]; simp only [List.length_cons, List.length_nil]; omega⟩, fun hl => ⟨w4, E, ⟨rfl, rfl⟩, hw4, hS, hE⟩⟩
          rcases List.mem_append.mp hp with hp | hp
          · exact hS.eok p hp
          · rw [List.mem_singleton.mp hp]; exact qr
        · rintro e ⟨w, E, o6, o10, rfl, hw, hS, hE⟩
          have ll := len_L hS h2 hVi
          simp [-List.map_map]
          refine (order_sat (n := U) hw (by omega) (by omega)).mono ?_
          rintro d outs ⟨l, w4, rfl, rfl, hw4, hp⟩
          have hlen : (l.length : Int) = U := by rw [hp.length_eq, len_rgL]; omega
          simp [-List.map_map]
          rw [List.map_map]
          refine sat_compA (enc := DV.d ∘ lsD) (fun S => tupI (srtB ltI (S.map (atD l)))) (fun S hSm => ?_) (by show 0 + L.length ≤ 1000000; omega) ?_
          · have sl := ll.2 S hSm
            have it : itemsOf (.d (lsD S)) = some (S.map (DV.d ∘ .int)) := by
              show some ((S.map PyData.int).map DV.d) = _
              rw [List.map_map]
            simp [it]
            refine sat_compA (enc := DV.d ∘ .int) (fun x => .int (atD l x)) (fun x hx => ?_) (by show 0 + S.length ≤ 1000000; omega) ?_
            · have := hS.rg S hSm x hx
              have a := (atD_ok (l := l) this.1 (by omega)).1
              simp [atI_map, a]
            · have e : S.map (fun x => PyData.int (atD l x)) = (S.map (atD l)).map .int := by rw [List.map_map]; rfl
              rw [List.nil_append, e]
              simp [sortP_ints, tupI, -List.map_map]
          · have kn : Nice U (srtB SrtO.lexB (keptL E [])) := nice_kept (by omega) hVi (Nat.le_trans keptL_len (by simpa using hE)) fun p hp => by have := hS.eok p hp; omega
            obtain ⟨f1, f2, f3⟩ := named_eq kn hp
            have eL : L.map (fun S => tupI (srtB ltI (S.map (atD l)))) = (lots2 l L).map tupI := by unfold lots2; rw [List.map_map]; rfl
            rw [List.nil_append, eL]
            simp [kept_ok (n := U) (ps := E) (by omega), f1, -List.map_map]
            exact ⟨U, _, lots2 l L, ⟨rfl, rfl⟩, hw4, f2, sp_model hg' hS hp f2⟩
end Lk
namespace Lk
open PySem PySem.Spec L2
def lotTB : PyData → Bool
  | .tuple xs => PyData.canLay0 (.tuple xs) && decide (PyData.depth (.tuple xs) ≤ 5) && decide (xs.length ≤ 80)
  | _ => true
def stB (x : PyData) : Bool := lotTB x && match x with
  | .tuple ls => ls.all lotTB
  | _ => true
theorem lotTB_ok {x : PyData} (h : lotTB x = true) : LotT x := fun xs e => by
  subst e
  simp only [lotTB, Bool.and_eq_true, decide_eq_true_eq] at h
  exact ⟨⟨h.1.1, h.1.2⟩, h.2⟩
theorem stB_ok {x : PyData} (h : stB x = true) : LotT x ∧ ThT x := by
  unfold stB at h
  simp only [Bool.and_eq_true] at h
  refine ⟨lotTB_ok h.1, fun ls e => ?_⟩
  subst e
  have q := lotTB_ok h.1 ls rfl
  exact ⟨q.2, fun l hl => lotTB_ok (List.all_eq_true.mp h.2 l hl)⟩
theorem strange2 {w : DV} (hw : WL w) : (F_lawUstrange [w]).sat (fun d outs => ∃ x w', d = .d x ∧ outs = [w'] ∧ WL w' ∧ LotT x ∧ ThT x) nR := by
  rw [F_lawUstrange, runF_sat]
  unfold m_lawUstrange
  have hpow : powP (.int 10) (.int 30) = some (.int 1000000000000000000000000000000) := by simp [powP]
  simp [env0, ioP, addP_tt, big, negP, lift1, hpow]
  refine Res.sat.mono (pickT_sat hw ?_ ?_) ?_
  · simp
  · decide
  rintro d outs ⟨x, w', rfl, rfl, hw', hx⟩
  simp
  refine ⟨hw', stB_ok ?_⟩
  revert x
  decide +kernel
theorem check_ok {n : Int} {es : List (Int × Int)} (hg : Nice n es) : F_checkUgraph [.d (gD n es)] = .ok (.d .none) [] := by
  refine res_eq ?_
  rw [F_checkUgraph, runF_sat]
  unfold m_checkUgraph
  simp [env0, ioP, graph_eq, isG_iff.mpr ⟨n, es, rfl, hg⟩]
theorem is_model_eq {n n' : Int} {es es' : List (Int × Int)} {x : PyData} (hg : Nice n es) (hg' : Nice n' es') (hT : ThT x) : F_isUmodel [.d (gD n es), .d (gD n' es'), .d x] = .ok (.d (.bool (isM n es n' es' x))) [] := by
  refine res_eq ?_
  rw [F_isUmodel, runF_sat]
  unfold m_isUmodel
  simp [env0, ioP, check_ok hg, check_ok hg', model_by_eq hg hg' hT]
theorem repr_bb (b : Bool) : reprP (.list [.bool b, .bool b]) = some (.str (PyData.list [.bool b, .bool b]).shown) := by
  refine reprP_s (m := 1) (k := 20) rfl (shp_list fun x hx => ?_) ((shb_list (k := 5) fun x hx => ?_).mono (by simp))
  · simp at hx; subst hx; exact shp_bool
  · simp at hx; subst hx; exact shb_bool
theorem told_eq {n n' : Int} {es es' : List (Int × Int)} {x : PyData} (hg : Nice n es) (hg' : Nice n' es') (hT : ThT x) : F_lawUtold [.d (gD n es), .d (gD n' es'), .d x] = .ok (.d (.bool true)) [] := by
  refine res_eq ?_
  rw [F_lawUtold, runF_sat]
  unfold m_lawUtold
  simp [env0, ioP, law_model_eq hg hg' hT, is_model_eq hg hg' hT, repr_bb]
/-! lots bent -/
theorem lot_ints {ns : List Int} (h : ns.length ≤ 80) : LotT (.tuple (ns.map .int)) := fun xs e => by
  cases e
  exact ⟨(shp_tupI (l := ns)).mono (by omega), by rw [List.length_map]; exact h⟩
theorem lot_no {x : PyData} (h : ∀ xs, x ≠ .tuple xs) : LotT x := fun xs e => absurd e (h xs)
theorem th_no {x : PyData} (h : ∀ xs, x ≠ .tuple xs) : ThT x := fun xs e => absurd e (h xs)
def LL (A : List PyData) : Prop := ∀ l ∈ A, LotT l
theorem LL.cut {A : List PyData} {lo hi : Option Int} (h : LL A) : LL (cutP A lo hi) := fun x hx => h x (cut_mem hx)
theorem cut_le' {A : List PyData} {lo hi : Option Int} : (cutP A lo hi).length ≤ A.length := by
  unfold cutP
  rw [List.length_take, List.length_drop]
  omega
theorem th_of {A : List PyData} (h : LL A) (hl : A.length ≤ 80) : ThT (.tuple A) := fun ls e => by
  cases e
  exact ⟨hl, h⟩
theorem cut_ints {ns : List Int} {lo hi : Option Int} : ∃ ms : List Int, cutP (ns.map PyData.int) lo hi = ms.map .int ∧ ms.length ≤ ns.length := by
  have key : ∀ xs : List PyData, (∀ x ∈ xs, ∃ k, x = .int k) → ∃ ks : List Int, xs = ks.map .int := by
    intro xs
    induction xs with
    | nil => intro _; exact ⟨[], rfl⟩
    | cons x xs ih =>
      intro h
      obtain ⟨k, rfl⟩ := h x List.mem_cons_self
      obtain ⟨ks, rfl⟩ := ih fun y hy => h y (List.mem_cons_of_mem _ hy)
      exact ⟨k :: ks, rfl⟩
  obtain ⟨ms, hms⟩ := key (cutP (ns.map PyData.int) lo hi) fun x hx => by
    obtain ⟨k, _, rfl⟩ := List.mem_map.mp (cut_mem hx)
    exact ⟨k, rfl⟩
  refine ⟨ms, hms, ?_⟩
  have := cut_le' (A := ns.map PyData.int) (lo := lo) (hi := hi)
  rw [hms, List.length_map, List.length_map] at this
  exact this
theorem sortP_intsT {ns : List Int} (h : ns.length ≤ 80) : sortP (.tuple (ns.map .int)) = some (.list ((srtB ltI ns).map .int)) := by
  have ok : srtOk (ns.map .int) = true := by
    unfold srtOk
    simp only [Bool.and_eq_true, Bool.or_eq_true, List.all_eq_true, decide_eq_true_eq]
    refine ⟨⟨⟨fun x hx y hy => ?_, .inr fun x hx => ?_⟩, fun x hx => ?_⟩, by rw [List.length_map]; show _ ≤ 1000000; omega⟩
    · obtain ⟨a, _, rfl⟩ := List.mem_map.mp hx
      obtain ⟨b, _, rfl⟩ := List.mem_map.mp hy
      simp [PySem.W.alike]
    · obtain ⟨a, _, rfl⟩ := List.mem_map.mp hx
      rfl
    · obtain ⟨a, _, rfl⟩ := List.mem_map.mp hx
      exact shp_int.ok
  show (if srtOk (ns.map .int) then some (PyData.list (srtA (ns.map .int))) else none) = _
  rw [if_pos ok, srtA_ints]
theorem lot_sat {w : DV} {many : Int} {nss : List (List Int)} (hw : WL w) (hm : 0 < many) (hm2 : many ≤ 10) (h0 : 0 < nss.length) (h1 : nss.length ≤ 10) (h2 : ∀ ns ∈ nss, ns.length ≤ 10) : (F_lawUlot [w, .d (.tuple (nss.map tupI)), .d (.int many)]).sat (fun d outs => ∃ x w', d = .d x ∧ outs = [w'] ∧ WL w' ∧ ThT x) nR := by
  have hLL : LL (nss.map tupI) := fun x hx => by
    obtain ⟨ns, hns, rfl⟩ := List.mem_map.mp hx
    exact lot_ints (by have := h2 ns hns; omega)
  have hlen : (nss.map tupI).length ≤ 10 := by rw [List.length_map]; exact h1
  rw [F_lawUlot, runF_sat]
  unfold m_lawUlot
  simp [env0, ioP, -sat_ifS]
  refine (draw_sat (m := 12) hw (by omega) (by omega)).mono ?_
  rintro d outs ⟨wy, w1, rfl, rfl, hw1, hwy0, hwy1⟩
  simp [-sat_ifS]
  refine (draw_sat (m := nss.length) hw1 (by omega) (by omega)).mono ?_
  rintro d outs ⟨a, w2, rfl, rfl, hw2, ha0, ha1⟩
  obtain ⟨ns, mns, ea, _⟩ := getD_tup (nss := nss) ha0 ha1
  have nl := h2 ns mns
  simp [ea, -sat_ifS]
  refine (draw_sat (m := many) hw2 (by omega) (by omega)).mono ?_
  rintro d outs ⟨o, w3, rfl, rfl, hw3, ho0, ho1⟩
  obtain ⟨A, eA⟩ : ∃ A, cutP (nss.map tupI) none (some a) = A := ⟨_, rfl⟩
  obtain ⟨B, eB⟩ : ∃ B, cutP (nss.map tupI) (some (a + 1)) none = B := ⟨_, rfl⟩
  have pA : LL A := eA ▸ hLL.cut
  have pB : LL B := eB ▸ hLL.cut
  have lA : A.length ≤ 10 := by rw [← eA]; exact Nat.le_trans cut_le' hlen
  have lB : B.length ≤ 10 := by rw [← eB]; exact Nat.le_trans cut_le' hlen
  have mid : ∀ z, LotT z → ThT (.tuple (A ++ z :: B)) := fun z hz => th_of (fun l hl => by
    rcases List.mem_append.mp hl with hl | hl
    · exact pA l hl
    · rcases List.mem_cons.mp hl with rfl | hl
      · exact hz
      · exact pB l hl) (by rw [List.length_append, List.length_cons]; omega)
  have a1 : ∀ z, addP (.tuple A) (.tuple [z]) = some (.tuple (A ++ [z])) := fun z => addP_tt (by show _ + 1 ≤ 1000000; omega)
  have a2 : ∀ z, addP (.tuple (A ++ [z])) (.tuple B) = some (.tuple (A ++ z :: B)) := fun z => by
    rw [addP_tt (by rw [List.length_append]; show _ + 1 + _ ≤ 1000000; omega)]
    simp
  have cases12 : wy = 0 ∨ wy = 1 ∨ wy = 2 ∨ wy = 3 ∨ wy = 4 ∨ wy = 5 ∨ wy = 6 ∨ wy = 7 ∨ wy = 8 ∨ wy = 9 ∨ wy = 10 ∨ wy = 11 := by omega
  rcases cases12 with rfl | rfl | rfl | rfl | rfl | rfl | rfl | rfl | rfl | rfl | rfl | rfl
  · obtain ⟨ms, e1, e2⟩ := cut_ints (ns := ns) (lo := some 1) (hi := none)
    simp [slD, eA, eB, tupI, e1, a1, a2]
    exact ⟨hw3, mid _ (lot_ints (by omega))⟩
  · have e1 : addP (.tuple (ns.map PyData.int)) (.tuple [.int o]) = some (.tuple ((ns ++ [o]).map .int)) := by
      rw [addP_tt (by rw [List.length_map]; show _ + 1 ≤ 1000000; omega), List.map_append]
      rfl
    have e2 := sortP_intsT (ns := ns ++ [o]) (by rw [List.length_append]; simp only [List.length_cons, List.length_nil]; omega)
    have e3 : (srtB ltI (ns ++ [o])).length ≤ 80 := by rw [(srtB_perm _).length_eq, List.length_append]; simp only [List.length_cons, List.length_nil]; omega
    simp [slD, eA, eB, tupI, e1, e2, a1, a2, -List.map_append]
    exact ⟨hw3, mid _ (lot_ints e3)⟩
  · simp [slD, eA, eB, tupI, a1, a2]
    refine ⟨hw3, mid _ ?_⟩
    rw [← List.map_reverse]
    exact lot_ints (by rw [List.length_reverse]; omega)
  · simp [slD, eA, eB, tupI, a1, a2]
    exact ⟨hw3, mid _ (lot_no fun xs e => nomatch e)⟩
  · simp [slD, negP, lift1]
    exact ⟨hw3, th_of hLL.cut (Nat.le_trans cut_le' (by omega))⟩
  · have e1 : addP (.tuple (nss.map tupI)) (.tuple [.tuple [.int o]]) = some (.tuple (nss.map tupI ++ [.tuple [.int o]])) := addP_tt (by show _ + 1 ≤ 1000000; omega)
    simp [e1]
    refine ⟨hw3, th_of (fun l hl => ?_) (by rw [List.length_append]; simp only [List.length_cons, List.length_nil]; omega)⟩
    rcases List.mem_append.mp hl with hl | hl
    · exact hLL l hl
    · rw [List.mem_singleton.mp hl]; exact lot_ints (ns := [o]) (by simp)
  · simp
    exact ⟨hw3, th_no fun xs e => nomatch e⟩
  · obtain ⟨ms, e1, e2⟩ := cut_ints (ns := ns) (lo := none) (hi := some (-1))
    have e3 : addP (.tuple (ms.map PyData.int)) (.tuple [.int many]) = some (.tuple ((ms ++ [many]).map .int)) := by
      rw [addP_tt (by rw [List.length_map]; show _ + 1 ≤ 1000000; omega), List.map_append]
      rfl
    simp [slD, eA, eB, tupI, negP, lift1, e1, e3, a1, a2, -List.map_append]
    exact ⟨hw3, mid _ (lot_ints (by rw [List.length_append]; simp only [List.length_cons, List.length_nil]; omega))⟩
  · simp
    refine ⟨hw3, th_of (fun l hl => hLL l (List.mem_reverse.mp hl)) (by rw [List.length_reverse]; omega)⟩
  · obtain ⟨z, hz, mz⟩ : ∃ z, atI (nss.map tupI) (a - 1) = some z ∧ z ∈ nss.map tupI := by
      by_cases q : a = 0
      · subst q
        have e : atI (nss.map tupI) (0 - 1) = (nss.map tupI)[((0 : Int) - 1 + ((nss.map tupI).length : Int)).toNat]? := by
          unfold atI ixN
          rw [if_neg (by omega), if_pos (by rw [List.length_map]; omega)]
          rfl
        have hi : ((0 : Int) - 1 + ((nss.map tupI).length : Int)).toNat < (nss.map tupI).length := by rw [List.length_map]; omega
        exact ⟨_, by rw [e]; exact List.getElem?_eq_getElem hi, List.getElem_mem hi⟩
      · exact atI_in (by omega) (by rw [List.length_map]; omega)
    simp [slD, eA, eB, hz, a1, a2]
    exact ⟨hw3, mid _ (hLL z mz)⟩
  · simp [slD, eA, eB]
    refine (strange2 hw3).mono ?_
    rintro d outs ⟨x, w4, rfl, rfl, hw4, hx, -⟩
    simp [slD, eA, eB, a1, a2]
    exact ⟨hw4, mid _ hx⟩
  · simp [slD, eA, eB, a1, a2]
    exact ⟨hw3, mid _ (lot_ints (ns := [o]) (by simp))⟩
end Lk
namespace Lk
open PySem PySem.Spec L2
theorem fam1 : famB (F_lawUfamily [.d (.int 1)]) = true := by decide +kernel
theorem fam_any {lv : Int} (h0 : 1 ≤ lv) (h1 : lv ≤ 4) : (F_lawUfamily [.d (.int lv)]).sat (fun d outs => ∃ gs : List PyData, d = .d (.list gs) ∧ outs = [] ∧ gs ≠ [] ∧ gs.length ≤ 100 ∧ ∀ g ∈ gs, ∃ n es, g = gD n es ∧ Nice n es ∧ 3 ≤ n) nR := by
  by_cases q : lv = 1
  · subst q; exact fam_of fam1
  · exact fam_sat (by omega)
theorem law_we {n : Int} {e : Int × Int} {es : List (Int × Int)} (hg : Nice n es) : F_lawUwithoutUedge [.d (gD n es), .d (pairD e)] = .ok (.d (gD n (weL e es))) [] := by
  have h24 := hg.2.2.1
  refine res_eq ?_
  rw [F_lawUwithoutUedge, runF_sat]
  unfold m_lawUwithoutUedge
  simp [env0, ioP]
  refine sat_comp (enc := DV.d ∘ pairD) (fun p => decide (p ≠ e)) pairD (fun p hp => ?_) (by show _ ≤ 1000000; simp; omega) ?_
  · by_cases q : p = e <;> simp [neP_s shp_pair shp_pair, eqv_pair, q]
  · simp [mk_g, weL]
theorem isM_len {n n' : Int} {es es' : List (Int × Int)} {nss : List (List Int)} (hg : Nice n es) (hg' : Nice n' es') (h : isM n es n' es' (.tuple (nss.map tupI)) = true) : (nss.length : Int) = n' ∧ (∀ ns ∈ nss, ns.length ≤ 10) ∧ ThT (.tuple (nss.map tupI)) := by
  simp only [isM, Bool.and_eq_true, decide_eq_true_eq] at h
  have h1 : (nss.length : Int) = n' := by have := h.1.1.1; rw [List.length_map] at this; exact this
  have h2 : ∀ ns ∈ nss, ns.length ≤ 10 := fun ns hns => by
    have := List.all_eq_true.mp h.1.1.2 (tupI ns) (List.mem_map.mpr ⟨ns, hns, rfl⟩)
    have e : isL n es (tupI ns) = lotL n es ns := isL_ints
    rw [e] at this
    exact lot_len hg this
  refine ⟨h1, h2, th_of (fun x hx => ?_) (by rw [List.length_map]; have := hg'.2.1; omega)⟩
  obtain ⟨ns, hns, rfl⟩ := List.mem_map.mp hx
  exact lot_ints (by have := h2 ns hns; omega)
theorem right_sat {w : DV} (hw : WL w) : (F_lawUright [w]).sat (fun d outs => d = .d (.bool true) ∧ ∃ w', outs = [w']) nR := by
  rw [F_lawUright, runF_sat]
  unfold m_lawUright
  have hrg : rgOk 0 3 = true := rfl
  have hrg5 : rgOk 0 5 = true := rfl
  simp [env0, ioP, rgI_ok hrg, rgP_rgL]
  refine sat_for (enc := DV.d ∘ .int) (fun rest e => ∃ (w : DV) (o1 o2 o3 o4 o5 o6 : Option DV), WL w ∧ e = [some w, o1, o2, o3, o4, o5, o6, none]) ⟨w, _, _, _, _, _, _, hw, rfl⟩ ?_ ?_
  · rintro t rest e ⟨w, o1, o2, o3, o4, o5, o6, hw, rfl⟩
    simp [-sat_ifS]
    refine (graph_sat (mo := 6) (ed := 12) hw (by omega) (by omega) (by omega) (by omega)).mono ?_
    rintro d outs ⟨n0, es0, w1, rfl, rfl, hw1, hg0, -, -⟩
    simp [-sat_ifS]
    refine sat_mid (fun e => ∃ (w : DV) (n' : Int) (es' : List (Int × Int)), e = [some w, some (.d (.int t)), some (.d (gD n' es')), o3, o4, o5, o6, none] ∧ WL w ∧ Nice n' es') ?_ ?_
    · rintro e ⟨w, n', es', rfl, hw, hg'⟩
      have g1 := hg'.1
      have g2 := hg'.2.1
      simp [-sat_ifS]
      refine (spread_sat hw hg').mono ?_
      rintro d outs ⟨n, es, nss, w2, rfl, rfl, hw2, hg, hM⟩
      obtain ⟨m1, m2, m3⟩ := isM_len hg hg' hM
      have f1 := hg.1
      have f2 := hg.2.1
      have f24 := hg.2.2.1
      simp [setAll, -sat_ifS]
      rw [sat_ifS]
      simp [law_model_eq hg hg' m3, hM, told_eq hg hg' m3, rgI_ok hrg5, rgP_rgL, -sat_ifS]
      refine sat_compI (enc := DV.d ∘ .int) (fun rest acc e => ∃ w, e = [some w, some (.d (.int t)), some (.d (gD n' es')), some (.d (gD n es)), some (.d (.tuple (nss.map tupI))), o5, o6, none] ∧ WL w ∧ acc.length + rest.length = 5 ∧ ∀ x ∈ acc, ThT x) ⟨w2, rfl, hw2, by rw [len_rgL]; rfl, by simp⟩ ?_ ?_
      · rintro k rs acc e ⟨w, rfl, hw, hl, hacc⟩
        simp only [List.length_cons] at hl
        simp
        refine (lot_sat (many := n) hw (by omega) f2 (by omega) (by omega) m2).mono ?_
        rintro d outs ⟨x, w3, rfl, rfl, hw3, hx⟩
        simp
        refine ⟨by show _ < 1000000; omega, ⟨hw3, by omega, fun y hy => ?_⟩⟩
        rcases hy with hy | rfl
        · exact hacc y hy
        · exact hx
      · rintro acc e ⟨w, rfl, hw, hl, hacc⟩
        have hl : acc.length + 0 = 5 := hl
        simp [-sat_ifS]
        refine (strange2 hw).mono ?_
        rintro d outs ⟨x, w3, rfl, rfl, hw3, -, hx⟩
        have hadd : addP (.list acc) (.list [x]) = some (.list (acc ++ [x])) := addP_ll (by show _ + 1 ≤ 1000000; omega)
        simp [hadd, -sat_ifS, -List.map_append]
        refine sat_forD (enc := DV.d) (fun done e => ∃ o, e = [some w3, some (.d (.int t)), some (.d (gD n' es')), some (.d (gD n es)), some (.d (.tuple (nss.map tupI))), some (.d (.list (acc ++ [x]))), o, none]) ⟨o6, rfl⟩ ?_ ?_
        · rintro done y rs e hd ⟨o, rfl⟩
          have hy : ThT y := by
            have : y ∈ acc ++ [x] := by rw [← hd]; simp
            rcases List.mem_append.mp this with q | q
            · exact hacc y q
            · rw [List.mem_singleton.mp q]; exact hx
          simp [told_eq hg hg' hy]
        · rintro e ⟨o, rfl⟩
          simp [-sat_ifS]
          refine sat_mid (fun e => ∃ w, e = [some w, some (.d (.int t)), some (.d (gD n' es')), some (.d (gD n es)), some (.d (.tuple (nss.map tupI))), some (.d (.list (acc ++ [x]))), o, none] ∧ WL w) ?_ ?_
          · rintro e ⟨w, rfl, hw⟩
            simp
            refine (graph_sat (mo := 5) (ed := 10) hw (by omega) (by omega) (by omega) (by omega)).mono ?_
            rintro d outs ⟨n5, es5, w5, rfl, rfl, hw5, hg5, -, -⟩
            simp [told_eq hg hg5 m3]
            exact hw5
          · simp [neP_nilT]
            cases hes : es.isEmpty with
            | true =>
              simp
              exact hw3
            | false =>
              simp
              have hne : es ≠ [] := by rintro rfl; simp at hes
              refine (pickT_sat (xs := es.map pairD) hw3 (by simpa using hne) (by rw [List.length_map]; omega)).mono ?_
              rintro d outs ⟨z, w4, rfl, rfl, hw4, hz⟩
              obtain ⟨e1, he1, rfl⟩ := List.mem_map.mp hz
              simp [law_we hg, told_eq (nice_we e1 hg) hg' m3]
              exact hw4
    · simp
      refine (draw_sat (m := 2) hw1 (by omega) (by omega)).mono ?_
      rintro d outs ⟨k, w2, rfl, rfl, hw2, -, -⟩
      simp
      refine ⟨fun _ => ?_, fun _ => ⟨w2, n0, es0, ⟨rfl, rfl⟩, hw2, hg0⟩⟩
      refine (draw_sat (m := 4) hw2 (by omega) (by omega)).mono ?_
      rintro d outs ⟨lv, w3, rfl, rfl, hw3, hl0, hl1⟩
      simp
      refine (fam_any (lv := 1 + lv) (by omega) (by omega)).mono ?_
      rintro d outs ⟨gs, rfl, rfl, hne, hgl, hgs⟩
      simp
      refine (pick_sat (xs := gs) hw3 hne (by omega)).mono ?_
      rintro d outs ⟨g, w4, rfl, rfl, hw4, hgm⟩
      obtain ⟨n1, es1, rfl, hg1, -⟩ := hgs g hgm
      simp
      exact ⟨w4, n1, es1, ⟨rfl, rfl⟩, hw4, hg1⟩
  · rintro e ⟨w, o1, o2, o3, o4, o5, o6, hw, rfl⟩
    simp
theorem law_true (ns : List Int) (h63 : ns.length ≤ 63) : F_law [.s ns] = .ok (.d (.bool true)) [] := by
  refine res_eq ?_
  rw [F_law, runF_sat]
  unfold m_law
  simp [env0, ioP, lenD, minP, maxP]
  obtain ⟨b, hb, hb0, hb1⟩ : ∃ b : Int, (if (2 : Int) < (if (4 : Int) < ns.length then 4 else (ns.length : Int)) then (if (4 : Int) < ns.length then 4 else (ns.length : Int)) else 2) = b ∧ 0 ≤ b ∧ b ≤ 4 := ⟨_, rfl, by split <;> (try split) <;> omega, by split <;> (try split) <;> omega⟩
  rw [hb]
  have hrg : rgOk 0 b = true := rgOk_of (by omega) (by omega) (by omega) (by omega)
  simp [rgI_ok hrg, rgP_rgL]
  refine sat_forD (enc := DV.d ∘ .int) (fun done e => ∃ x : Option DV, e = [some (.s ns), x]) ⟨none, rfl⟩ ?_ ?_
  · rintro done t rest e hd ⟨x, rfl⟩
    have ht : t ∈ rgL 0 b := by rw [← hd]; simp
    simp
    refine (well_sat (ns := ns) (mem_rgL.mp ht).1).mono ?_
    rintro d outs ⟨hw, rfl⟩
    simp
    refine (right_sat hw).mono ?_
    rintro d outs ⟨rfl, w', rfl⟩
    simp
  · rintro e ⟨x, rfl⟩
    simp
end Lk
namespace Lk
open PySem PySem.Spec L2
theorem all_mk {l : PySem.W.OpenLaw} {w : World} {K : PySem.W.Frag} {h : Heap} {mg : Str → Option Value} (X : K.In h) (G : h.Ns mainGlobals mg) {Z : ClT}
    {f_lawUpairsUof : Addr} {od_lawUpairsUof an_lawUpairsUof : Option Addr} {sl_lawUpairsUof : Array (Option Value)} {oc_lawUpairsUof kV_lawUpairsUof dc_lawUpairsUof pm_lawUpairsUof cd_lawUpairsUof ct_lawUpairsUof : Value}
    (a_lawUpairsUof : PySem.W.nsIn K mainGlobals "_law_pairs_of" = some (some (.ref f_lawUpairsUof)))
    (l_lawUpairsUof : K.lookup f_lawUpairsUof = some ⟨oc_lawUpairsUof, od_lawUpairsUof, .func (PySem.W.fnOf "_law_pairs_of" "_law_pairs_of" (defArgs s_lawUpairsUof) (defBody s_lawUpairsUof) (defScope s_lawUpairsUof) .none kV_lawUpairsUof dc_lawUpairsUof pm_lawUpairsUof an_lawUpairsUof cd_lawUpairsUof ct_lawUpairsUof), sl_lawUpairsUof⟩)
    (d_lawUpairsUof : PySem.W.codeIn K cd_lawUpairsUof "_law_pairs_of" = true) (k_lawUpairsUof : PySem.W.keepIn K (.ref f_lawUpairsUof) = true)
    {f_lawUkept : Addr} {od_lawUkept an_lawUkept : Option Addr} {sl_lawUkept : Array (Option Value)} {oc_lawUkept kV_lawUkept dc_lawUkept pm_lawUkept cd_lawUkept ct_lawUkept : Value}
    (a_lawUkept : PySem.W.nsIn K mainGlobals "_law_kept" = some (some (.ref f_lawUkept)))
    (l_lawUkept : K.lookup f_lawUkept = some ⟨oc_lawUkept, od_lawUkept, .func (PySem.W.fnOf "_law_kept" "_law_kept" (defArgs s_lawUkept) (defBody s_lawUkept) (defScope s_lawUkept) .none kV_lawUkept dc_lawUkept pm_lawUkept an_lawUkept cd_lawUkept ct_lawUkept), sl_lawUkept⟩)
    (d_lawUkept : PySem.W.codeIn K cd_lawUkept "_law_kept" = true) (k_lawUkept : PySem.W.keepIn K (.ref f_lawUkept) = true)
    {f_lawUdraw : Addr} {od_lawUdraw an_lawUdraw : Option Addr} {sl_lawUdraw : Array (Option Value)} {oc_lawUdraw kV_lawUdraw dc_lawUdraw pm_lawUdraw cd_lawUdraw ct_lawUdraw : Value}
    (a_lawUdraw : PySem.W.nsIn K mainGlobals "_law_draw" = some (some (.ref f_lawUdraw)))
    (l_lawUdraw : K.lookup f_lawUdraw = some ⟨oc_lawUdraw, od_lawUdraw, .func (PySem.W.fnOf "_law_draw" "_law_draw" (defArgs s_lawUdraw) (defBody s_lawUdraw) (defScope s_lawUdraw) .none kV_lawUdraw dc_lawUdraw pm_lawUdraw an_lawUdraw cd_lawUdraw ct_lawUdraw), sl_lawUdraw⟩)
    (d_lawUdraw : PySem.W.codeIn K cd_lawUdraw "_law_draw" = true) (k_lawUdraw : PySem.W.keepIn K (.ref f_lawUdraw) = true)
    {f_lawUpick : Addr} {od_lawUpick an_lawUpick : Option Addr} {sl_lawUpick : Array (Option Value)} {oc_lawUpick kV_lawUpick dc_lawUpick pm_lawUpick cd_lawUpick ct_lawUpick : Value}
    (a_lawUpick : PySem.W.nsIn K mainGlobals "_law_pick" = some (some (.ref f_lawUpick)))
    (l_lawUpick : K.lookup f_lawUpick = some ⟨oc_lawUpick, od_lawUpick, .func (PySem.W.fnOf "_law_pick" "_law_pick" (defArgs s_lawUpick) (defBody s_lawUpick) (defScope s_lawUpick) .none kV_lawUpick dc_lawUpick pm_lawUpick an_lawUpick cd_lawUpick ct_lawUpick), sl_lawUpick⟩)
    (d_lawUpick : PySem.W.codeIn K cd_lawUpick "_law_pick" = true) (k_lawUpick : PySem.W.keepIn K (.ref f_lawUpick) = true)
    {f_lawUedgesUof : Addr} {od_lawUedgesUof an_lawUedgesUof : Option Addr} {sl_lawUedgesUof : Array (Option Value)} {oc_lawUedgesUof kV_lawUedgesUof dc_lawUedgesUof pm_lawUedgesUof cd_lawUedgesUof ct_lawUedgesUof : Value}
    (a_lawUedgesUof : PySem.W.nsIn K mainGlobals "_law_edges_of" = some (some (.ref f_lawUedgesUof)))
    (l_lawUedgesUof : K.lookup f_lawUedgesUof = some ⟨oc_lawUedgesUof, od_lawUedgesUof, .func (PySem.W.fnOf "_law_edges_of" "_law_edges_of" (defArgs s_lawUedgesUof) (defBody s_lawUedgesUof) (defScope s_lawUedgesUof) .none kV_lawUedgesUof dc_lawUedgesUof pm_lawUedgesUof an_lawUedgesUof cd_lawUedgesUof ct_lawUedgesUof), sl_lawUedgesUof⟩)
    (d_lawUedgesUof : PySem.W.codeIn K cd_lawUedgesUof "_law_edges_of" = true) (k_lawUedgesUof : PySem.W.keepIn K (.ref f_lawUedgesUof) = true)
    {f_lawUfamily : Addr} {od_lawUfamily an_lawUfamily : Option Addr} {sl_lawUfamily : Array (Option Value)} {oc_lawUfamily kV_lawUfamily dc_lawUfamily pm_lawUfamily cd_lawUfamily ct_lawUfamily : Value}
    (a_lawUfamily : PySem.W.nsIn K mainGlobals "_law_family" = some (some (.ref f_lawUfamily)))
    (l_lawUfamily : K.lookup f_lawUfamily = some ⟨oc_lawUfamily, od_lawUfamily, .func (PySem.W.fnOf "_law_family" "_law_family" (defArgs s_lawUfamily) (defBody s_lawUfamily) (defScope s_lawUfamily) .none kV_lawUfamily dc_lawUfamily pm_lawUfamily an_lawUfamily cd_lawUfamily ct_lawUfamily), sl_lawUfamily⟩)
    (d_lawUfamily : PySem.W.codeIn K cd_lawUfamily "_law_family" = true) (k_lawUfamily : PySem.W.keepIn K (.ref f_lawUfamily) = true)
    {f_lawUnamed : Addr} {od_lawUnamed an_lawUnamed : Option Addr} {sl_lawUnamed : Array (Option Value)} {oc_lawUnamed kV_lawUnamed dc_lawUnamed pm_lawUnamed cd_lawUnamed ct_lawUnamed : Value}
    (a_lawUnamed : PySem.W.nsIn K mainGlobals "_law_named" = some (some (.ref f_lawUnamed)))
    (l_lawUnamed : K.lookup f_lawUnamed = some ⟨oc_lawUnamed, od_lawUnamed, .func (PySem.W.fnOf "_law_named" "_law_named" (defArgs s_lawUnamed) (defBody s_lawUnamed) (defScope s_lawUnamed) .none kV_lawUnamed dc_lawUnamed pm_lawUnamed an_lawUnamed cd_lawUnamed ct_lawUnamed), sl_lawUnamed⟩)
    (d_lawUnamed : PySem.W.codeIn K cd_lawUnamed "_law_named" = true) (k_lawUnamed : PySem.W.keepIn K (.ref f_lawUnamed) = true)
    {f_lawUorder : Addr} {od_lawUorder an_lawUorder : Option Addr} {sl_lawUorder : Array (Option Value)} {oc_lawUorder kV_lawUorder dc_lawUorder pm_lawUorder cd_lawUorder ct_lawUorder : Value}
    (a_lawUorder : PySem.W.nsIn K mainGlobals "_law_order" = some (some (.ref f_lawUorder)))
    (l_lawUorder : K.lookup f_lawUorder = some ⟨oc_lawUorder, od_lawUorder, .func (PySem.W.fnOf "_law_order" "_law_order" (defArgs s_lawUorder) (defBody s_lawUorder) (defScope s_lawUorder) .none kV_lawUorder dc_lawUorder pm_lawUorder an_lawUorder cd_lawUorder ct_lawUorder), sl_lawUorder⟩)
    (d_lawUorder : PySem.W.codeIn K cd_lawUorder "_law_order" = true) (k_lawUorder : PySem.W.keepIn K (.ref f_lawUorder) = true)
    {f_lawUgraph : Addr} {od_lawUgraph an_lawUgraph : Option Addr} {sl_lawUgraph : Array (Option Value)} {oc_lawUgraph kV_lawUgraph dc_lawUgraph pm_lawUgraph cd_lawUgraph ct_lawUgraph : Value}
    (a_lawUgraph : PySem.W.nsIn K mainGlobals "_law_graph" = some (some (.ref f_lawUgraph)))
    (l_lawUgraph : K.lookup f_lawUgraph = some ⟨oc_lawUgraph, od_lawUgraph, .func (PySem.W.fnOf "_law_graph" "_law_graph" (defArgs s_lawUgraph) (defBody s_lawUgraph) (defScope s_lawUgraph) .none kV_lawUgraph dc_lawUgraph pm_lawUgraph an_lawUgraph cd_lawUgraph ct_lawUgraph), sl_lawUgraph⟩)
    (d_lawUgraph : PySem.W.codeIn K cd_lawUgraph "_law_graph" = true) (k_lawUgraph : PySem.W.keepIn K (.ref f_lawUgraph) = true)
    {f_lawUspread : Addr} {od_lawUspread an_lawUspread : Option Addr} {sl_lawUspread : Array (Option Value)} {oc_lawUspread kV_lawUspread dc_lawUspread pm_lawUspread cd_lawUspread ct_lawUspread : Value}
    (a_lawUspread : PySem.W.nsIn K mainGlobals "_law_spread" = some (some (.ref f_lawUspread)))
    (l_lawUspread : K.lookup f_lawUspread = some ⟨oc_lawUspread, od_lawUspread, .func (PySem.W.fnOf "_law_spread" "_law_spread" (defArgs s_lawUspread) (defBody s_lawUspread) (defScope s_lawUspread) .none kV_lawUspread dc_lawUspread pm_lawUspread an_lawUspread cd_lawUspread ct_lawUspread), sl_lawUspread⟩)
    (d_lawUspread : PySem.W.codeIn K cd_lawUspread "_law_spread" = true) (k_lawUspread : PySem.W.keepIn K (.ref f_lawUspread) = true)
    {f_lawUneighbours : Addr} {od_lawUneighbours an_lawUneighbours : Option Addr} {sl_lawUneighbours : Array (Option Value)} {oc_lawUneighbours kV_lawUneighbours dc_lawUneighbours pm_lawUneighbours cd_lawUneighbours ct_lawUneighbours : Value}
    (a_lawUneighbours : PySem.W.nsIn K mainGlobals "_law_neighbours" = some (some (.ref f_lawUneighbours)))
    (l_lawUneighbours : K.lookup f_lawUneighbours = some ⟨oc_lawUneighbours, od_lawUneighbours, .func (PySem.W.fnOf "_law_neighbours" "_law_neighbours" (defArgs s_lawUneighbours) (defBody s_lawUneighbours) (defScope s_lawUneighbours) .none kV_lawUneighbours dc_lawUneighbours pm_lawUneighbours an_lawUneighbours cd_lawUneighbours ct_lawUneighbours), sl_lawUneighbours⟩)
    (d_lawUneighbours : PySem.W.codeIn K cd_lawUneighbours "_law_neighbours" = true) (k_lawUneighbours : PySem.W.keepIn K (.ref f_lawUneighbours) = true)
    {f_lawUreached : Addr} {od_lawUreached an_lawUreached : Option Addr} {sl_lawUreached : Array (Option Value)} {oc_lawUreached kV_lawUreached dc_lawUreached pm_lawUreached cd_lawUreached ct_lawUreached : Value}
    (a_lawUreached : PySem.W.nsIn K mainGlobals "_law_reached" = some (some (.ref f_lawUreached)))
    (l_lawUreached : K.lookup f_lawUreached = some ⟨oc_lawUreached, od_lawUreached, .func (PySem.W.fnOf "_law_reached" "_law_reached" (defArgs s_lawUreached) (defBody s_lawUreached) (defScope s_lawUreached) .none kV_lawUreached dc_lawUreached pm_lawUreached an_lawUreached cd_lawUreached ct_lawUreached), sl_lawUreached⟩)
    (d_lawUreached : PySem.W.codeIn K cd_lawUreached "_law_reached" = true) (k_lawUreached : PySem.W.keepIn K (.ref f_lawUreached) = true)
    {f_lawUisUconnected : Addr} {od_lawUisUconnected an_lawUisUconnected : Option Addr} {sl_lawUisUconnected : Array (Option Value)} {oc_lawUisUconnected kV_lawUisUconnected dc_lawUisUconnected pm_lawUisUconnected cd_lawUisUconnected ct_lawUisUconnected : Value}
    (a_lawUisUconnected : PySem.W.nsIn K mainGlobals "_law_is_connected" = some (some (.ref f_lawUisUconnected)))
    (l_lawUisUconnected : K.lookup f_lawUisUconnected = some ⟨oc_lawUisUconnected, od_lawUisUconnected, .func (PySem.W.fnOf "_law_is_connected" "_law_is_connected" (defArgs s_lawUisUconnected) (defBody s_lawUisUconnected) (defScope s_lawUisUconnected) .none kV_lawUisUconnected dc_lawUisUconnected pm_lawUisUconnected an_lawUisUconnected cd_lawUisUconnected ct_lawUisUconnected), sl_lawUisUconnected⟩)
    (d_lawUisUconnected : PySem.W.codeIn K cd_lawUisUconnected "_law_is_connected" = true) (k_lawUisUconnected : PySem.W.keepIn K (.ref f_lawUisUconnected) = true)
    {f_lawUareUapart : Addr} {od_lawUareUapart an_lawUareUapart : Option Addr} {sl_lawUareUapart : Array (Option Value)} {oc_lawUareUapart kV_lawUareUapart dc_lawUareUapart pm_lawUareUapart cd_lawUareUapart ct_lawUareUapart : Value}
    (a_lawUareUapart : PySem.W.nsIn K mainGlobals "_law_are_apart" = some (some (.ref f_lawUareUapart)))
    (l_lawUareUapart : K.lookup f_lawUareUapart = some ⟨oc_lawUareUapart, od_lawUareUapart, .func (PySem.W.fnOf "_law_are_apart" "_law_are_apart" (defArgs s_lawUareUapart) (defBody s_lawUareUapart) (defScope s_lawUareUapart) .none kV_lawUareUapart dc_lawUareUapart pm_lawUareUapart an_lawUareUapart cd_lawUareUapart ct_lawUareUapart), sl_lawUareUapart⟩)
    (d_lawUareUapart : PySem.W.codeIn K cd_lawUareUapart "_law_are_apart" = true) (k_lawUareUapart : PySem.W.keepIn K (.ref f_lawUareUapart) = true)
    {f_lawUisUacross : Addr} {od_lawUisUacross an_lawUisUacross : Option Addr} {sl_lawUisUacross : Array (Option Value)} {oc_lawUisUacross kV_lawUisUacross dc_lawUisUacross pm_lawUisUacross cd_lawUisUacross ct_lawUisUacross : Value}
    (a_lawUisUacross : PySem.W.nsIn K mainGlobals "_law_is_across" = some (some (.ref f_lawUisUacross)))
    (l_lawUisUacross : K.lookup f_lawUisUacross = some ⟨oc_lawUisUacross, od_lawUisUacross, .func (PySem.W.fnOf "_law_is_across" "_law_is_across" (defArgs s_lawUisUacross) (defBody s_lawUisUacross) (defScope s_lawUisUacross) .none kV_lawUisUacross dc_lawUisUacross pm_lawUisUacross an_lawUisUacross cd_lawUisUacross ct_lawUisUacross), sl_lawUisUacross⟩)
    (d_lawUisUacross : PySem.W.codeIn K cd_lawUisUacross "_law_is_across" = true) (k_lawUisUacross : PySem.W.keepIn K (.ref f_lawUisUacross) = true)
    {f_lawUisUwhole : Addr} {od_lawUisUwhole an_lawUisUwhole : Option Addr} {sl_lawUisUwhole : Array (Option Value)} {oc_lawUisUwhole kV_lawUisUwhole dc_lawUisUwhole pm_lawUisUwhole cd_lawUisUwhole ct_lawUisUwhole : Value}
    (a_lawUisUwhole : PySem.W.nsIn K mainGlobals "_law_is_whole" = some (some (.ref f_lawUisUwhole)))
    (l_lawUisUwhole : K.lookup f_lawUisUwhole = some ⟨oc_lawUisUwhole, od_lawUisUwhole, .func (PySem.W.fnOf "_law_is_whole" "_law_is_whole" (defArgs s_lawUisUwhole) (defBody s_lawUisUwhole) (defScope s_lawUisUwhole) .none kV_lawUisUwhole dc_lawUisUwhole pm_lawUisUwhole an_lawUisUwhole cd_lawUisUwhole ct_lawUisUwhole), sl_lawUisUwhole⟩)
    (d_lawUisUwhole : PySem.W.codeIn K cd_lawUisUwhole "_law_is_whole" = true) (k_lawUisUwhole : PySem.W.keepIn K (.ref f_lawUisUwhole) = true)
    {f_lawUisUupUto : Addr} {od_lawUisUupUto an_lawUisUupUto : Option Addr} {sl_lawUisUupUto : Array (Option Value)} {oc_lawUisUupUto kV_lawUisUupUto dc_lawUisUupUto pm_lawUisUupUto cd_lawUisUupUto ct_lawUisUupUto : Value}
    (a_lawUisUupUto : PySem.W.nsIn K mainGlobals "_law_is_up_to" = some (some (.ref f_lawUisUupUto)))
    (l_lawUisUupUto : K.lookup f_lawUisUupUto = some ⟨oc_lawUisUupUto, od_lawUisUupUto, .func (PySem.W.fnOf "_law_is_up_to" "_law_is_up_to" (defArgs s_lawUisUupUto) (defBody s_lawUisUupUto) (defScope s_lawUisUupUto) .none kV_lawUisUupUto dc_lawUisUupUto pm_lawUisUupUto an_lawUisUupUto cd_lawUisUupUto ct_lawUisUupUto), sl_lawUisUupUto⟩)
    (d_lawUisUupUto : PySem.W.codeIn K cd_lawUisUupUto "_law_is_up_to" = true) (k_lawUisUupUto : PySem.W.keepIn K (.ref f_lawUisUupUto) = true)
    {f_lawUisUmodel : Addr} {od_lawUisUmodel an_lawUisUmodel : Option Addr} {sl_lawUisUmodel : Array (Option Value)} {oc_lawUisUmodel kV_lawUisUmodel dc_lawUisUmodel pm_lawUisUmodel cd_lawUisUmodel ct_lawUisUmodel : Value}
    (a_lawUisUmodel : PySem.W.nsIn K mainGlobals "_law_is_model" = some (some (.ref f_lawUisUmodel)))
    (l_lawUisUmodel : K.lookup f_lawUisUmodel = some ⟨oc_lawUisUmodel, od_lawUisUmodel, .func (PySem.W.fnOf "_law_is_model" "_law_is_model" (defArgs s_lawUisUmodel) (defBody s_lawUisUmodel) (defScope s_lawUisUmodel) .none kV_lawUisUmodel dc_lawUisUmodel pm_lawUisUmodel an_lawUisUmodel cd_lawUisUmodel ct_lawUisUmodel), sl_lawUisUmodel⟩)
    (d_lawUisUmodel : PySem.W.codeIn K cd_lawUisUmodel "_law_is_model" = true) (k_lawUisUmodel : PySem.W.keepIn K (.ref f_lawUisUmodel) = true)
    {f_isUwhole : Addr} {od_isUwhole an_isUwhole : Option Addr} {sl_isUwhole : Array (Option Value)} {oc_isUwhole kV_isUwhole dc_isUwhole pm_isUwhole cd_isUwhole ct_isUwhole : Value}
    (a_isUwhole : PySem.W.nsIn K mainGlobals "is_whole" = some (some (.ref f_isUwhole)))
    (l_isUwhole : K.lookup f_isUwhole = some ⟨oc_isUwhole, od_isUwhole, .func (PySem.W.fnOf "is_whole" "is_whole" (defArgs s_isUwhole) (defBody s_isUwhole) (defScope s_isUwhole) .none kV_isUwhole dc_isUwhole pm_isUwhole an_isUwhole cd_isUwhole ct_isUwhole), sl_isUwhole⟩)
    (d_isUwhole : PySem.W.codeIn K cd_isUwhole "is_whole" = true) (k_isUwhole : PySem.W.keepIn K (.ref f_isUwhole) = true)
    {f_isUbetween : Addr} {od_isUbetween an_isUbetween : Option Addr} {sl_isUbetween : Array (Option Value)} {oc_isUbetween kV_isUbetween dc_isUbetween pm_isUbetween cd_isUbetween ct_isUbetween : Value}
    (a_isUbetween : PySem.W.nsIn K mainGlobals "is_between" = some (some (.ref f_isUbetween)))
    (l_isUbetween : K.lookup f_isUbetween = some ⟨oc_isUbetween, od_isUbetween, .func (PySem.W.fnOf "is_between" "is_between" (defArgs s_isUbetween) (defBody s_isUbetween) (defScope s_isUbetween) .none kV_isUbetween dc_isUbetween pm_isUbetween an_isUbetween cd_isUbetween ct_isUbetween), sl_isUbetween⟩)
    (d_isUbetween : PySem.W.codeIn K cd_isUbetween "is_between" = true) (k_isUbetween : PySem.W.keepIn K (.ref f_isUbetween) = true)
    {f_isUedgeUof : Addr} {od_isUedgeUof an_isUedgeUof : Option Addr} {sl_isUedgeUof : Array (Option Value)} {oc_isUedgeUof kV_isUedgeUof dc_isUedgeUof pm_isUedgeUof cd_isUedgeUof ct_isUedgeUof : Value}
    (a_isUedgeUof : PySem.W.nsIn K mainGlobals "is_edge_of" = some (some (.ref f_isUedgeUof)))
    (l_isUedgeUof : K.lookup f_isUedgeUof = some ⟨oc_isUedgeUof, od_isUedgeUof, .func (PySem.W.fnOf "is_edge_of" "is_edge_of" (defArgs s_isUedgeUof) (defBody s_isUedgeUof) (defScope s_isUedgeUof) .none kV_isUedgeUof dc_isUedgeUof pm_isUedgeUof an_isUedgeUof cd_isUedgeUof ct_isUedgeUof), sl_isUedgeUof⟩)
    (d_isUedgeUof : PySem.W.codeIn K cd_isUedgeUof "is_edge_of" = true) (k_isUedgeUof : PySem.W.keepIn K (.ref f_isUedgeUof) = true)
    {f_isUgraphUby : Addr} {od_isUgraphUby an_isUgraphUby : Option Addr} {sl_isUgraphUby : Array (Option Value)} {oc_isUgraphUby kV_isUgraphUby dc_isUgraphUby pm_isUgraphUby cd_isUgraphUby ct_isUgraphUby : Value}
    (a_isUgraphUby : PySem.W.nsIn K mainGlobals "is_graph_by" = some (some (.ref f_isUgraphUby)))
    (l_isUgraphUby : K.lookup f_isUgraphUby = some ⟨oc_isUgraphUby, od_isUgraphUby, .func (PySem.W.fnOf "is_graph_by" "is_graph_by" (defArgs s_isUgraphUby) (defBody s_isUgraphUby) (defScope s_isUgraphUby) .none kV_isUgraphUby dc_isUgraphUby pm_isUgraphUby an_isUgraphUby cd_isUgraphUby ct_isUgraphUby), sl_isUgraphUby⟩)
    (d_isUgraphUby : PySem.W.codeIn K cd_isUgraphUby "is_graph_by" = true) (k_isUgraphUby : PySem.W.keepIn K (.ref f_isUgraphUby) = true)
    {f_checkUgraph : Addr} {od_checkUgraph an_checkUgraph : Option Addr} {sl_checkUgraph : Array (Option Value)} {oc_checkUgraph kV_checkUgraph dc_checkUgraph pm_checkUgraph cd_checkUgraph ct_checkUgraph : Value}
    (a_checkUgraph : PySem.W.nsIn K mainGlobals "check_graph" = some (some (.ref f_checkUgraph)))
    (l_checkUgraph : K.lookup f_checkUgraph = some ⟨oc_checkUgraph, od_checkUgraph, .func (PySem.W.fnOf "check_graph" "check_graph" (defArgs s_checkUgraph) (defBody s_checkUgraph) (defScope s_checkUgraph) .none kV_checkUgraph dc_checkUgraph pm_checkUgraph an_checkUgraph cd_checkUgraph ct_checkUgraph), sl_checkUgraph⟩)
    (d_checkUgraph : PySem.W.codeIn K cd_checkUgraph "check_graph" = true) (k_checkUgraph : PySem.W.keepIn K (.ref f_checkUgraph) = true)
    {f_edgeUbetween : Addr} {od_edgeUbetween an_edgeUbetween : Option Addr} {sl_edgeUbetween : Array (Option Value)} {oc_edgeUbetween kV_edgeUbetween dc_edgeUbetween pm_edgeUbetween cd_edgeUbetween ct_edgeUbetween : Value}
    (a_edgeUbetween : PySem.W.nsIn K mainGlobals "edge_between" = some (some (.ref f_edgeUbetween)))
    (l_edgeUbetween : K.lookup f_edgeUbetween = some ⟨oc_edgeUbetween, od_edgeUbetween, .func (PySem.W.fnOf "edge_between" "edge_between" (defArgs s_edgeUbetween) (defBody s_edgeUbetween) (defScope s_edgeUbetween) .none kV_edgeUbetween dc_edgeUbetween pm_edgeUbetween an_edgeUbetween cd_edgeUbetween ct_edgeUbetween), sl_edgeUbetween⟩)
    (d_edgeUbetween : PySem.W.codeIn K cd_edgeUbetween "edge_between" = true) (k_edgeUbetween : PySem.W.keepIn K (.ref f_edgeUbetween) = true)
    {f_areUjoined : Addr} {od_areUjoined an_areUjoined : Option Addr} {sl_areUjoined : Array (Option Value)} {oc_areUjoined kV_areUjoined dc_areUjoined pm_areUjoined cd_areUjoined ct_areUjoined : Value}
    (a_areUjoined : PySem.W.nsIn K mainGlobals "are_joined" = some (some (.ref f_areUjoined)))
    (l_areUjoined : K.lookup f_areUjoined = some ⟨oc_areUjoined, od_areUjoined, .func (PySem.W.fnOf "are_joined" "are_joined" (defArgs s_areUjoined) (defBody s_areUjoined) (defScope s_areUjoined) .none kV_areUjoined dc_areUjoined pm_areUjoined an_areUjoined cd_areUjoined ct_areUjoined), sl_areUjoined⟩)
    (d_areUjoined : PySem.W.codeIn K cd_areUjoined "are_joined" = true) (k_areUjoined : PySem.W.keepIn K (.ref f_areUjoined) = true)
    {f_reachedUby : Addr} {od_reachedUby an_reachedUby : Option Addr} {sl_reachedUby : Array (Option Value)} {oc_reachedUby kV_reachedUby dc_reachedUby pm_reachedUby cd_reachedUby ct_reachedUby : Value}
    (a_reachedUby : PySem.W.nsIn K mainGlobals "reached_by" = some (some (.ref f_reachedUby)))
    (l_reachedUby : K.lookup f_reachedUby = some ⟨oc_reachedUby, od_reachedUby, .func (PySem.W.fnOf "reached_by" "reached_by" (defArgs s_reachedUby) (defBody s_reachedUby) (defScope s_reachedUby) .none kV_reachedUby dc_reachedUby pm_reachedUby an_reachedUby cd_reachedUby ct_reachedUby), sl_reachedUby⟩)
    (d_reachedUby : PySem.W.codeIn K cd_reachedUby "reached_by" = true) (k_reachedUby : PySem.W.keepIn K (.ref f_reachedUby) = true)
    {f_neighboursUby : Addr} {od_neighboursUby an_neighboursUby : Option Addr} {sl_neighboursUby : Array (Option Value)} {oc_neighboursUby kV_neighboursUby dc_neighboursUby pm_neighboursUby cd_neighboursUby ct_neighboursUby : Value}
    (a_neighboursUby : PySem.W.nsIn K mainGlobals "neighbours_by" = some (some (.ref f_neighboursUby)))
    (l_neighboursUby : K.lookup f_neighboursUby = some ⟨oc_neighboursUby, od_neighboursUby, .func (PySem.W.fnOf "neighbours_by" "neighbours_by" (defArgs s_neighboursUby) (defBody s_neighboursUby) (defScope s_neighboursUby) .none kV_neighboursUby dc_neighboursUby pm_neighboursUby an_neighboursUby cd_neighboursUby ct_neighboursUby), sl_neighboursUby⟩)
    (d_neighboursUby : PySem.W.codeIn K cd_neighboursUby "neighbours_by" = true) (k_neighboursUby : PySem.W.keepIn K (.ref f_neighboursUby) = true)
    {f_isUlot : Addr} {od_isUlot an_isUlot : Option Addr} {sl_isUlot : Array (Option Value)} {oc_isUlot kV_isUlot dc_isUlot pm_isUlot cd_isUlot ct_isUlot : Value}
    (a_isUlot : PySem.W.nsIn K mainGlobals "is_lot" = some (some (.ref f_isUlot)))
    (l_isUlot : K.lookup f_isUlot = some ⟨oc_isUlot, od_isUlot, .func (PySem.W.fnOf "is_lot" "is_lot" (defArgs s_isUlot) (defBody s_isUlot) (defScope s_isUlot) .none kV_isUlot dc_isUlot pm_isUlot an_isUlot cd_isUlot ct_isUlot), sl_isUlot⟩)
    (d_isUlot : PySem.W.codeIn K cd_isUlot "is_lot" = true) (k_isUlot : PySem.W.keepIn K (.ref f_isUlot) = true)
    {f_isUmodelUby : Addr} {od_isUmodelUby an_isUmodelUby : Option Addr} {sl_isUmodelUby : Array (Option Value)} {oc_isUmodelUby kV_isUmodelUby dc_isUmodelUby pm_isUmodelUby cd_isUmodelUby ct_isUmodelUby : Value}
    (a_isUmodelUby : PySem.W.nsIn K mainGlobals "is_model_by" = some (some (.ref f_isUmodelUby)))
    (l_isUmodelUby : K.lookup f_isUmodelUby = some ⟨oc_isUmodelUby, od_isUmodelUby, .func (PySem.W.fnOf "is_model_by" "is_model_by" (defArgs s_isUmodelUby) (defBody s_isUmodelUby) (defScope s_isUmodelUby) .none kV_isUmodelUby dc_isUmodelUby pm_isUmodelUby an_isUmodelUby cd_isUmodelUby ct_isUmodelUby), sl_isUmodelUby⟩)
    (d_isUmodelUby : PySem.W.codeIn K cd_isUmodelUby "is_model_by" = true) (k_isUmodelUby : PySem.W.keepIn K (.ref f_isUmodelUby) = true)
    {f_isUmodel : Addr} {od_isUmodel an_isUmodel : Option Addr} {sl_isUmodel : Array (Option Value)} {oc_isUmodel kV_isUmodel dc_isUmodel pm_isUmodel cd_isUmodel ct_isUmodel : Value}
    (a_isUmodel : PySem.W.nsIn K mainGlobals "is_model" = some (some (.ref f_isUmodel)))
    (l_isUmodel : K.lookup f_isUmodel = some ⟨oc_isUmodel, od_isUmodel, .func (PySem.W.fnOf "is_model" "is_model" (defArgs s_isUmodel) (defBody s_isUmodel) (defScope s_isUmodel) .none kV_isUmodel dc_isUmodel pm_isUmodel an_isUmodel cd_isUmodel ct_isUmodel), sl_isUmodel⟩)
    (d_isUmodel : PySem.W.codeIn K cd_isUmodel "is_model" = true) (k_isUmodel : PySem.W.keepIn K (.ref f_isUmodel) = true)
    {f_lawUtold : Addr} {od_lawUtold an_lawUtold : Option Addr} {sl_lawUtold : Array (Option Value)} {oc_lawUtold kV_lawUtold dc_lawUtold pm_lawUtold cd_lawUtold ct_lawUtold : Value}
    (a_lawUtold : PySem.W.nsIn K mainGlobals "_law_told" = some (some (.ref f_lawUtold)))
    (l_lawUtold : K.lookup f_lawUtold = some ⟨oc_lawUtold, od_lawUtold, .func (PySem.W.fnOf "_law_told" "_law_told" (defArgs s_lawUtold) (defBody s_lawUtold) (defScope s_lawUtold) .none kV_lawUtold dc_lawUtold pm_lawUtold an_lawUtold cd_lawUtold ct_lawUtold), sl_lawUtold⟩)
    (d_lawUtold : PySem.W.codeIn K cd_lawUtold "_law_told" = true) (k_lawUtold : PySem.W.keepIn K (.ref f_lawUtold) = true)
    {f_lawUstrange : Addr} {od_lawUstrange an_lawUstrange : Option Addr} {sl_lawUstrange : Array (Option Value)} {oc_lawUstrange kV_lawUstrange dc_lawUstrange pm_lawUstrange cd_lawUstrange ct_lawUstrange : Value}
    (a_lawUstrange : PySem.W.nsIn K mainGlobals "_law_strange" = some (some (.ref f_lawUstrange)))
    (l_lawUstrange : K.lookup f_lawUstrange = some ⟨oc_lawUstrange, od_lawUstrange, .func (PySem.W.fnOf "_law_strange" "_law_strange" (defArgs s_lawUstrange) (defBody s_lawUstrange) (defScope s_lawUstrange) .none kV_lawUstrange dc_lawUstrange pm_lawUstrange an_lawUstrange cd_lawUstrange ct_lawUstrange), sl_lawUstrange⟩)
    (d_lawUstrange : PySem.W.codeIn K cd_lawUstrange "_law_strange" = true) (k_lawUstrange : PySem.W.keepIn K (.ref f_lawUstrange) = true)
    {f_lawUlot : Addr} {od_lawUlot an_lawUlot : Option Addr} {sl_lawUlot : Array (Option Value)} {oc_lawUlot kV_lawUlot dc_lawUlot pm_lawUlot cd_lawUlot ct_lawUlot : Value}
    (a_lawUlot : PySem.W.nsIn K mainGlobals "_law_lot" = some (some (.ref f_lawUlot)))
    (l_lawUlot : K.lookup f_lawUlot = some ⟨oc_lawUlot, od_lawUlot, .func (PySem.W.fnOf "_law_lot" "_law_lot" (defArgs s_lawUlot) (defBody s_lawUlot) (defScope s_lawUlot) .none kV_lawUlot dc_lawUlot pm_lawUlot an_lawUlot cd_lawUlot ct_lawUlot), sl_lawUlot⟩)
    (d_lawUlot : PySem.W.codeIn K cd_lawUlot "_law_lot" = true) (k_lawUlot : PySem.W.keepIn K (.ref f_lawUlot) = true)
    {f_lawUwithoutUedge : Addr} {od_lawUwithoutUedge an_lawUwithoutUedge : Option Addr} {sl_lawUwithoutUedge : Array (Option Value)} {oc_lawUwithoutUedge kV_lawUwithoutUedge dc_lawUwithoutUedge pm_lawUwithoutUedge cd_lawUwithoutUedge ct_lawUwithoutUedge : Value}
    (a_lawUwithoutUedge : PySem.W.nsIn K mainGlobals "_law_without_edge" = some (some (.ref f_lawUwithoutUedge)))
    (l_lawUwithoutUedge : K.lookup f_lawUwithoutUedge = some ⟨oc_lawUwithoutUedge, od_lawUwithoutUedge, .func (PySem.W.fnOf "_law_without_edge" "_law_without_edge" (defArgs s_lawUwithoutUedge) (defBody s_lawUwithoutUedge) (defScope s_lawUwithoutUedge) .none kV_lawUwithoutUedge dc_lawUwithoutUedge pm_lawUwithoutUedge an_lawUwithoutUedge cd_lawUwithoutUedge ct_lawUwithoutUedge), sl_lawUwithoutUedge⟩)
    (d_lawUwithoutUedge : PySem.W.codeIn K cd_lawUwithoutUedge "_law_without_edge" = true) (k_lawUwithoutUedge : PySem.W.keepIn K (.ref f_lawUwithoutUedge) = true)
    {f_lawUright : Addr} {od_lawUright an_lawUright : Option Addr} {sl_lawUright : Array (Option Value)} {oc_lawUright kV_lawUright dc_lawUright pm_lawUright cd_lawUright ct_lawUright : Value}
    (a_lawUright : PySem.W.nsIn K mainGlobals "_law_right" = some (some (.ref f_lawUright)))
    (l_lawUright : K.lookup f_lawUright = some ⟨oc_lawUright, od_lawUright, .func (PySem.W.fnOf "_law_right" "_law_right" (defArgs s_lawUright) (defBody s_lawUright) (defScope s_lawUright) .none kV_lawUright dc_lawUright pm_lawUright an_lawUright cd_lawUright ct_lawUright), sl_lawUright⟩)
    (d_lawUright : PySem.W.codeIn K cd_lawUright "_law_right" = true) (k_lawUright : PySem.W.keepIn K (.ref f_lawUright) = true)
    {f_lawUwell : Addr} {od_lawUwell an_lawUwell : Option Addr} {sl_lawUwell : Array (Option Value)} {oc_lawUwell kV_lawUwell dc_lawUwell pm_lawUwell cd_lawUwell ct_lawUwell : Value}
    (a_lawUwell : PySem.W.nsIn K mainGlobals "_law_well" = some (some (.ref f_lawUwell)))
    (l_lawUwell : K.lookup f_lawUwell = some ⟨oc_lawUwell, od_lawUwell, .func (PySem.W.fnOf "_law_well" "_law_well" (defArgs s_lawUwell) (defBody s_lawUwell) (defScope s_lawUwell) .none kV_lawUwell dc_lawUwell pm_lawUwell an_lawUwell cd_lawUwell ct_lawUwell), sl_lawUwell⟩)
    (d_lawUwell : PySem.W.codeIn K cd_lawUwell "_law_well" = true) (k_lawUwell : PySem.W.keepIn K (.ref f_lawUwell) = true)
    {f_law : Addr} {od_law an_law : Option Addr} {sl_law : Array (Option Value)} {oc_law kV_law dc_law pm_law cd_law ct_law : Value}
    (a_law : PySem.W.nsIn K mainGlobals "law" = some (some (.ref f_law)))
    (l_law : K.lookup f_law = some ⟨oc_law, od_law, .func (PySem.W.fnOf "law" "law" (defArgs s_law) (defBody s_law) (defScope s_law) .none kV_law dc_law pm_law an_law cd_law ct_law), sl_law⟩)
    (d_law : PySem.W.codeIn K cd_law "law" = true) (k_law : PySem.W.keepIn K (.ref f_law) = true)
    (z_abs : PySem.W.nsIn K mainGlobals "abs" = some none)
    (z_all : PySem.W.nsIn K mainGlobals "all" = some none)
    (z_any : PySem.W.nsIn K mainGlobals "any" = some none)
    (z_bool : PySem.W.nsIn K mainGlobals "bool" = some none)
    (z_int : PySem.W.nsIn K mainGlobals "int" = some none)
    (z_isinstance : PySem.W.nsIn K mainGlobals "isinstance" = some none)
    (z_len : PySem.W.nsIn K mainGlobals "len" = some none)
    (z_list : PySem.W.nsIn K mainGlobals "list" = some none)
    (z_max : PySem.W.nsIn K mainGlobals "max" = some none)
    (z_min : PySem.W.nsIn K mainGlobals "min" = some none)
    (z_range : PySem.W.nsIn K mainGlobals "range" = some none)
    (z_repr : PySem.W.nsIn K mainGlobals "repr" = some none)
    (z_set : PySem.W.nsIn K mainGlobals "set" = some none)
    (z_sorted : PySem.W.nsIn K mainGlobals "sorted" = some none)
    (z_tuple : PySem.W.nsIn K mainGlobals "tuple" = some none)
    (z_zip : PySem.W.nsIn K mainGlobals "zip" = some none)
    {t_MOST_EDGES : Tok} (c_MOST_EDGES : PySem.W.nsIn K mainGlobals "MOST_EDGES" = some (some (.int 24 t_MOST_EDGES)))
    {t_MOST_VERTICES : Tok} (c_MOST_VERTICES : PySem.W.nsIn K mainGlobals "MOST_VERTICES" = some (some (.int 10 t_MOST_VERTICES))) :
    ∀ base : Heap, Has l.prog w K mg base 9 "law" ["script"] Z [.fz] 9 F_law := by
  intro base
  have z_abs := PySem.W.mg_none_of X G z_abs
  have z_all := PySem.W.mg_none_of X G z_all
  have z_any := PySem.W.mg_none_of X G z_any
  have z_bool := PySem.W.mg_none_of X G z_bool
  have z_int := PySem.W.mg_none_of X G z_int
  have z_isinstance := PySem.W.mg_none_of X G z_isinstance
  have z_len := PySem.W.mg_none_of X G z_len
  have z_list := PySem.W.mg_none_of X G z_list
  have z_max := PySem.W.mg_none_of X G z_max
  have z_min := PySem.W.mg_none_of X G z_min
  have z_range := PySem.W.mg_none_of X G z_range
  have z_repr := PySem.W.mg_none_of X G z_repr
  have z_set := PySem.W.mg_none_of X G z_set
  have z_sorted := PySem.W.mg_none_of X G z_sorted
  have z_tuple := PySem.W.mg_none_of X G z_tuple
  have z_zip := PySem.W.mg_none_of X G z_zip
  have c_MOST_EDGES := PySem.W.mg_of X G c_MOST_EDGES
  have c_MOST_VERTICES := PySem.W.mg_of X G c_MOST_VERTICES
  have G__law_pairs_of := h_lawUpairsUof (P := l.prog) (w := w) (base := base) (Z := Z) (fun_mk (st := s_lawUpairsUof) l_lawUpairsUof d_lawUpairsUof k_lawUpairsUof) (PySem.W.mg_of X G a_lawUpairsUof) z_range
  have G__law_kept := h_lawUkept (P := l.prog) (w := w) (base := base) (Z := Z) (fun_mk (st := s_lawUkept) l_lawUkept d_lawUkept k_lawUkept) (PySem.W.mg_of X G a_lawUkept) z_sorted z_tuple
  have G__law_draw := h_lawUdraw (P := l.prog) (w := w) (base := base) (Z := Z) (fun_mk (st := s_lawUdraw) l_lawUdraw d_lawUdraw k_lawUdraw) (PySem.W.mg_of X G a_lawUdraw) z_int
  have G__law_pick := h_lawUpick (P := l.prog) (w := w) (base := base) (Z := Z) (fun_mk (st := s_lawUpick) l_lawUpick d_lawUpick k_lawUpick) (PySem.W.mg_of X G a_lawUpick) z_len G__law_draw
  have G__law_edges_of := h_lawUedgesUof (P := l.prog) (w := w) (base := base) (Z := Z) (fun_mk (st := s_lawUedgesUof) l_lawUedgesUof d_lawUedgesUof k_lawUedgesUof) (PySem.W.mg_of X G a_lawUedgesUof) z_int G__law_kept
  have G__law_family := h_lawUfamily (P := l.prog) (w := w) (base := base) (Z := Z) (fun_mk (st := s_lawUfamily) l_lawUfamily d_lawUfamily k_lawUfamily) (PySem.W.mg_of X G a_lawUfamily) G__law_edges_of
  have G__law_named := h_lawUnamed (P := l.prog) (w := w) (base := base) (Z := Z) (fun_mk (st := s_lawUnamed) l_lawUnamed d_lawUnamed k_lawUnamed) (PySem.W.mg_of X G a_lawUnamed) G__law_kept
  have G__law_order := h_lawUorder (P := l.prog) (w := w) (base := base) (Z := Z) (fun_mk (st := s_lawUorder) l_lawUorder d_lawUorder k_lawUorder) (PySem.W.mg_of X G a_lawUorder) z_list z_range G__law_pick
  have G__law_graph := h_lawUgraph (P := l.prog) (w := w) (base := base) (Z := Z) (fun_mk (st := s_lawUgraph) l_lawUgraph d_lawUgraph k_lawUgraph) (PySem.W.mg_of X G a_lawUgraph) z_len z_list z_range G__law_draw G__law_pairs_of G__law_pick G__law_family G__law_named G__law_order G__law_kept
  have G__law_spread := h_lawUspread (P := l.prog) (w := w) (base := base) (Z := Z) (fun_mk (st := s_lawUspread) l_lawUspread d_lawUspread k_lawUspread) (PySem.W.mg_of X G a_lawUspread) z_len z_list z_range z_sorted z_tuple G__law_draw G__law_pick G__law_pairs_of G__law_order G__law_named G__law_kept
  have G__law_neighbours := h_lawUneighbours (P := l.prog) (w := w) (base := base) (Z := Z) (fun_mk (st := s_lawUneighbours) l_lawUneighbours d_lawUneighbours k_lawUneighbours) (PySem.W.mg_of X G a_lawUneighbours) z_sorted
  have G__law_reached := h_lawUreached (P := l.prog) (w := w) (base := base) (Z := Z) (fun_mk (st := s_lawUreached) l_lawUreached d_lawUreached k_lawUreached) (PySem.W.mg_of X G a_lawUreached) z_len z_list G__law_neighbours
  have G__law_is_connected := h_lawUisUconnected (P := l.prog) (w := w) (base := base) (Z := Z) (fun_mk (st := s_lawUisUconnected) l_lawUisUconnected d_lawUisUconnected k_lawUisUconnected) (PySem.W.mg_of X G a_lawUisUconnected) z_len G__law_reached
  have G__law_are_apart := h_lawUareUapart (P := l.prog) (w := w) (base := base) (Z := Z) (fun_mk (st := s_lawUareUapart) l_lawUareUapart d_lawUareUapart k_lawUareUapart) (PySem.W.mg_of X G a_lawUareUapart) 
  have G__law_is_across := h_lawUisUacross (P := l.prog) (w := w) (base := base) (Z := Z) (fun_mk (st := s_lawUisUacross) l_lawUisUacross d_lawUisUacross k_lawUisUacross) (PySem.W.mg_of X G a_lawUisUacross) 
  have G__law_is_whole := h_lawUisUwhole (P := l.prog) (w := w) (base := base) (Z := Z) (fun_mk (st := s_lawUisUwhole) l_lawUisUwhole d_lawUisUwhole k_lawUisUwhole) (PySem.W.mg_of X G a_lawUisUwhole) z_bool z_int z_isinstance
  have G__law_is_up_to := h_lawUisUupUto (P := l.prog) (w := w) (base := base) (Z := Z) (fun_mk (st := s_lawUisUupUto) l_lawUisUupUto d_lawUisUupUto k_lawUisUupUto) (PySem.W.mg_of X G a_lawUisUupUto) G__law_is_whole
  have G__law_is_model := h_lawUisUmodel (P := l.prog) (w := w) (base := base) (Z := Z) (fun_mk (st := s_lawUisUmodel) l_lawUisUmodel d_lawUisUmodel k_lawUisUmodel) (PySem.W.mg_of X G a_lawUisUmodel) z_isinstance z_len z_list z_range z_tuple G__law_is_up_to G__law_are_apart G__law_is_connected G__law_is_across
  have G_is_whole := h_isUwhole (P := l.prog) (w := w) (base := base) (Z := Z) (fun_mk (st := s_isUwhole) l_isUwhole d_isUwhole k_isUwhole) (PySem.W.mg_of X G a_isUwhole) z_bool z_int z_isinstance
  have G_is_between := h_isUbetween (P := l.prog) (w := w) (base := base) (Z := Z) (fun_mk (st := s_isUbetween) l_isUbetween d_isUbetween k_isUbetween) (PySem.W.mg_of X G a_isUbetween) G_is_whole
  have G_is_edge_of := h_isUedgeUof (P := l.prog) (w := w) (base := base) (Z := Z) (fun_mk (st := s_isUedgeUof) l_isUedgeUof d_isUedgeUof k_isUedgeUof) (PySem.W.mg_of X G a_isUedgeUof) z_all z_isinstance z_len z_tuple G_is_between
  have G_is_graph_by := h_isUgraphUby (P := l.prog) (w := w) (base := base) (Z := Z) (fun_mk (st := s_isUgraphUby) l_isUgraphUby d_isUgraphUby k_isUgraphUby) (PySem.W.mg_of X G a_isUgraphUby) z_all z_isinstance z_len z_tuple z_zip c_MOST_EDGES c_MOST_VERTICES G_is_between G_is_edge_of
  have G_check_graph := h_checkUgraph (P := l.prog) (w := w) (base := base) (Z := Z) (fun_mk (st := s_checkUgraph) l_checkUgraph d_checkUgraph k_checkUgraph) (PySem.W.mg_of X G a_checkUgraph) G_is_graph_by
  have G_edge_between := h_edgeUbetween (P := l.prog) (w := w) (base := base) (Z := Z) (fun_mk (st := s_edgeUbetween) l_edgeUbetween d_edgeUbetween k_edgeUbetween) (PySem.W.mg_of X G a_edgeUbetween) 
  have G_are_joined := h_areUjoined (P := l.prog) (w := w) (base := base) (Z := Z) (fun_mk (st := s_areUjoined) l_areUjoined d_areUjoined k_areUjoined) (PySem.W.mg_of X G a_areUjoined) z_any G_edge_between
  have G_reached_by := h_reachedUby (P := l.prog) (w := w) (base := base) (Z := Z) (fun_mk (st := s_reachedUby) l_reachedUby d_reachedUby k_reachedUby) (PySem.W.mg_of X G a_reachedUby) z_len z_sorted z_tuple
  have G_neighbours_by := h_neighboursUby (P := l.prog) (w := w) (base := base) (Z := Z) (fun_mk (st := s_neighboursUby) l_neighboursUby d_neighboursUby k_neighboursUby) (PySem.W.mg_of X G a_neighboursUby) z_range z_sorted
  have G_is_lot := h_isUlot (P := l.prog) (w := w) (base := base) (Z := Z) (fun_mk (st := s_isUlot) l_isUlot d_isUlot k_isUlot) (PySem.W.mg_of X G a_isUlot) z_all z_isinstance z_tuple z_zip G_is_between G_reached_by G_neighbours_by
  have G_is_model_by := h_isUmodelUby (P := l.prog) (w := w) (base := base) (Z := Z) (fun_mk (st := s_isUmodelUby) l_isUmodelUby d_isUmodelUby k_isUmodelUby) (PySem.W.mg_of X G a_isUmodelUby) z_all z_isinstance z_len z_set z_tuple G_is_lot G_are_joined
  have G_is_model := h_isUmodel (P := l.prog) (w := w) (base := base) (Z := Z) (fun_mk (st := s_isUmodel) l_isUmodel d_isUmodel k_isUmodel) (PySem.W.mg_of X G a_isUmodel) G_check_graph G_is_model_by
  have G__law_told := h_lawUtold (P := l.prog) (w := w) (base := base) (Z := Z) (fun_mk (st := s_lawUtold) l_lawUtold d_lawUtold k_lawUtold) (PySem.W.mg_of X G a_lawUtold) z_repr G__law_is_model G_is_model
  have G__law_strange := h_lawUstrange (P := l.prog) (w := w) (base := base) (Z := Z) (fun_mk (st := s_lawUstrange) l_lawUstrange d_lawUstrange k_lawUstrange) (PySem.W.mg_of X G a_lawUstrange) G__law_pick
  have G__law_lot := h_lawUlot (P := l.prog) (w := w) (base := base) (Z := Z) (fun_mk (st := s_lawUlot) l_lawUlot d_lawUlot k_lawUlot) (PySem.W.mg_of X G a_lawUlot) z_len z_list z_sorted z_tuple G__law_draw G__law_strange
  have G__law_without_edge := h_lawUwithoutUedge (P := l.prog) (w := w) (base := base) (Z := Z) (fun_mk (st := s_lawUwithoutUedge) l_lawUwithoutUedge d_lawUwithoutUedge k_lawUwithoutUedge) (PySem.W.mg_of X G a_lawUwithoutUedge) z_tuple
  have G__law_right := h_lawUright (P := l.prog) (w := w) (base := base) (Z := Z) (fun_mk (st := s_lawUright) l_lawUright d_lawUright k_lawUright) (PySem.W.mg_of X G a_lawUright) z_range G__law_graph G__law_draw G__law_pick G__law_family G__law_spread G__law_is_model G__law_told G__law_lot G__law_strange G__law_without_edge
  have G__law_well := h_lawUwell (P := l.prog) (w := w) (base := base) (Z := Z) (fun_mk (st := s_lawUwell) l_lawUwell d_lawUwell k_lawUwell) (PySem.W.mg_of X G a_lawUwell) z_abs z_int z_len
  have G_law := h_law (P := l.prog) (w := w) (base := base) (Z := Z) (fun_mk (st := s_law) l_law d_law k_law) (PySem.W.mg_of X G a_law) z_len z_max z_min z_range G__law_right G__law_well
  exact G_law
theorem walk {l : PySem.W.OpenLaw} {q : Program} {loose : List Str} {XP : (Str → Option Value) → Heap → Prop} {YP : World → Heap → Prop} {d : DefRec} {K : Params → PySem.W.Frag} (hn : l.most = some 63) (hdf : d.params.defaults = []) (hd : d.name = "law")
    (hY : ∀ (w : World) (h : Heap), YP w h → (K w.params).In h) (F : ∀ (w : World) (mg : Str → Option Value) (h : Heap), (K w.params).In h → h.Ns mainGlobals mg → ∀ base : Heap, Has l.prog w (K w.params) mg base 9 "law" ["script"] (fun _ => none) [.fz] 9 F_law) :
    PySem.W.WalkO q loose XP YP l.row.toRowW d [] (fun f vs => PySem.call f vs) :=
  walk_D (n := 63) (k := 9) (x := "script") (F := F_law) (Z := fun _ _ => none) hn (by decide) hdf ⟨rfl, by decide, by decide⟩ hY (fun w mg h a b base _ _ => hd ▸ F w mg h a b base) law_true
end Lk
open PySem PySem.W PyProof.Rows
set_option maxRecDepth 100000 in
set_option maxHeartbeats 0 in
theorem PySem.Challenge.cw_linkless_k10_whole_models_judged_holds : PySem.Challenge.rw_linkless_k10_whole_models_judged.Holds := by
  w_on; o_law; k_head; (case hw => w_witness2)
  k_fill
  refine Lk.walk (l := PySem.Challenge.rw_linkless_k10_whole_models_judged) rfl rfl rfl (fun w h Y => PySem.W.kIn_of Y) ?F
  case F =>
    intro w mg h KX G
    refine' Lk.all_mk KX G ?a_lawUpairsUof ?l_lawUpairsUof ?d_lawUpairsUof ?k_lawUpairsUof ?a_lawUkept ?l_lawUkept ?d_lawUkept ?k_lawUkept ?a_lawUdraw ?l_lawUdraw ?d_lawUdraw ?k_lawUdraw ?a_lawUpick ?l_lawUpick ?d_lawUpick ?k_lawUpick ?a_lawUedgesUof ?l_lawUedgesUof ?d_lawUedgesUof ?k_lawUedgesUof ?a_lawUfamily ?l_lawUfamily ?d_lawUfamily ?k_lawUfamily ?a_lawUnamed ?l_lawUnamed ?d_lawUnamed ?k_lawUnamed ?a_lawUorder ?l_lawUorder ?d_lawUorder ?k_lawUorder ?a_lawUgraph ?l_lawUgraph ?d_lawUgraph ?k_lawUgraph ?a_lawUspread ?l_lawUspread ?d_lawUspread ?k_lawUspread ?a_lawUneighbours ?l_lawUneighbours ?d_lawUneighbours ?k_lawUneighbours ?a_lawUreached ?l_lawUreached ?d_lawUreached ?k_lawUreached ?a_lawUisUconnected ?l_lawUisUconnected ?d_lawUisUconnected ?k_lawUisUconnected ?a_lawUareUapart ?l_lawUareUapart ?d_lawUareUapart ?k_lawUareUapart ?a_lawUisUacross ?l_lawUisUacross ?d_lawUisUacross ?k_lawUisUacross ?a_lawUisUwhole ?l_lawUisUwhole ?d_lawUisUwhole ?k_lawUisUwhole ?a_lawUisUupUto ?l_lawUisUupUto ?d_lawUisUupUto ?k_lawUisUupUto ?a_lawUisUmodel ?l_lawUisUmodel ?d_lawUisUmodel ?k_lawUisUmodel ?a_isUwhole ?l_isUwhole ?d_isUwhole ?k_isUwhole ?a_isUbetween ?l_isUbetween ?d_isUbetween ?k_isUbetween ?a_isUedgeUof ?l_isUedgeUof ?d_isUedgeUof ?k_isUedgeUof ?a_isUgraphUby ?l_isUgraphUby ?d_isUgraphUby ?k_isUgraphUby ?a_checkUgraph ?l_checkUgraph ?d_checkUgraph ?k_checkUgraph ?a_edgeUbetween ?l_edgeUbetween ?d_edgeUbetween ?k_edgeUbetween ?a_areUjoined ?l_areUjoined ?d_areUjoined ?k_areUjoined ?a_reachedUby ?l_reachedUby ?d_reachedUby ?k_reachedUby ?a_neighboursUby ?l_neighboursUby ?d_neighboursUby ?k_neighboursUby ?a_isUlot ?l_isUlot ?d_isUlot ?k_isUlot ?a_isUmodelUby ?l_isUmodelUby ?d_isUmodelUby ?k_isUmodelUby ?a_isUmodel ?l_isUmodel ?d_isUmodel ?k_isUmodel ?a_lawUtold ?l_lawUtold ?d_lawUtold ?k_lawUtold ?a_lawUstrange ?l_lawUstrange ?d_lawUstrange ?k_lawUstrange ?a_lawUlot ?l_lawUlot ?d_lawUlot ?k_lawUlot ?a_lawUwithoutUedge ?l_lawUwithoutUedge ?d_lawUwithoutUedge ?k_lawUwithoutUedge ?a_lawUright ?l_lawUright ?d_lawUright ?k_lawUright ?a_lawUwell ?l_lawUwell ?d_lawUwell ?k_lawUwell ?a_law ?l_law ?d_law ?k_law ?z_abs ?z_all ?z_any ?z_bool ?z_int ?z_isinstance ?z_len ?z_list ?z_max ?z_min ?z_range ?z_repr ?z_set ?z_sorted ?z_tuple ?z_zip ?c_MOST_EDGES ?c_MOST_VERTICES
    (case a_lawUpairsUof => k_is); (case l_lawUpairsUof => k_is); (case d_lawUpairsUof => k_is); (case k_lawUpairsUof => k_is)
    (case a_lawUkept => k_is); (case l_lawUkept => k_is); (case d_lawUkept => k_is); (case k_lawUkept => k_is)
    (case a_lawUdraw => k_is); (case l_lawUdraw => k_is); (case d_lawUdraw => k_is); (case k_lawUdraw => k_is)
    (case a_lawUpick => k_is); (case l_lawUpick => k_is); (case d_lawUpick => k_is); (case k_lawUpick => k_is)
    (case a_lawUedgesUof => k_is); (case l_lawUedgesUof => k_is); (case d_lawUedgesUof => k_is); (case k_lawUedgesUof => k_is)
    (case a_lawUfamily => k_is); (case l_lawUfamily => k_is); (case d_lawUfamily => k_is); (case k_lawUfamily => k_is)
    (case a_lawUnamed => k_is); (case l_lawUnamed => k_is); (case d_lawUnamed => k_is); (case k_lawUnamed => k_is)
    (case a_lawUorder => k_is); (case l_lawUorder => k_is); (case d_lawUorder => k_is); (case k_lawUorder => k_is)
    (case a_lawUgraph => k_is); (case l_lawUgraph => k_is); (case d_lawUgraph => k_is); (case k_lawUgraph => k_is)
    (case a_lawUspread => k_is); (case l_lawUspread => k_is); (case d_lawUspread => k_is); (case k_lawUspread => k_is)
    (case a_lawUneighbours => k_is); (case l_lawUneighbours => k_is); (case d_lawUneighbours => k_is); (case k_lawUneighbours => k_is)
    (case a_lawUreached => k_is); (case l_lawUreached => k_is); (case d_lawUreached => k_is); (case k_lawUreached => k_is)
    (case a_lawUisUconnected => k_is); (case l_lawUisUconnected => k_is); (case d_lawUisUconnected => k_is); (case k_lawUisUconnected => k_is)
    (case a_lawUareUapart => k_is); (case l_lawUareUapart => k_is); (case d_lawUareUapart => k_is); (case k_lawUareUapart => k_is)
    (case a_lawUisUacross => k_is); (case l_lawUisUacross => k_is); (case d_lawUisUacross => k_is); (case k_lawUisUacross => k_is)
    (case a_lawUisUwhole => k_is); (case l_lawUisUwhole => k_is); (case d_lawUisUwhole => k_is); (case k_lawUisUwhole => k_is)
    (case a_lawUisUupUto => k_is); (case l_lawUisUupUto => k_is); (case d_lawUisUupUto => k_is); (case k_lawUisUupUto => k_is)
    (case a_lawUisUmodel => k_is); (case l_lawUisUmodel => k_is); (case d_lawUisUmodel => k_is); (case k_lawUisUmodel => k_is)
    (case a_isUwhole => k_is); (case l_isUwhole => k_is); (case d_isUwhole => k_is); (case k_isUwhole => k_is)
    (case a_isUbetween => k_is); (case l_isUbetween => k_is); (case d_isUbetween => k_is); (case k_isUbetween => k_is)
    (case a_isUedgeUof => k_is); (case l_isUedgeUof => k_is); (case d_isUedgeUof => k_is); (case k_isUedgeUof => k_is)
    (case a_isUgraphUby => k_is); (case l_isUgraphUby => k_is); (case d_isUgraphUby => k_is); (case k_isUgraphUby => k_is)
    (case a_checkUgraph => k_is); (case l_checkUgraph => k_is); (case d_checkUgraph => k_is); (case k_checkUgraph => k_is)
    (case a_edgeUbetween => k_is); (case l_edgeUbetween => k_is); (case d_edgeUbetween => k_is); (case k_edgeUbetween => k_is)
    (case a_areUjoined => k_is); (case l_areUjoined => k_is); (case d_areUjoined => k_is); (case k_areUjoined => k_is)
    (case a_reachedUby => k_is); (case l_reachedUby => k_is); (case d_reachedUby => k_is); (case k_reachedUby => k_is)
    (case a_neighboursUby => k_is); (case l_neighboursUby => k_is); (case d_neighboursUby => k_is); (case k_neighboursUby => k_is)
    (case a_isUlot => k_is); (case l_isUlot => k_is); (case d_isUlot => k_is); (case k_isUlot => k_is)
    (case a_isUmodelUby => k_is); (case l_isUmodelUby => k_is); (case d_isUmodelUby => k_is); (case k_isUmodelUby => k_is)
    (case a_isUmodel => k_is); (case l_isUmodel => k_is); (case d_isUmodel => k_is); (case k_isUmodel => k_is)
    (case a_lawUtold => k_is); (case l_lawUtold => k_is); (case d_lawUtold => k_is); (case k_lawUtold => k_is)
    (case a_lawUstrange => k_is); (case l_lawUstrange => k_is); (case d_lawUstrange => k_is); (case k_lawUstrange => k_is)
    (case a_lawUlot => k_is); (case l_lawUlot => k_is); (case d_lawUlot => k_is); (case k_lawUlot => k_is)
    (case a_lawUwithoutUedge => k_is); (case l_lawUwithoutUedge => k_is); (case d_lawUwithoutUedge => k_is); (case k_lawUwithoutUedge => k_is)
    (case a_lawUright => k_is); (case l_lawUright => k_is); (case d_lawUright => k_is); (case k_lawUright => k_is)
    (case a_lawUwell => k_is); (case l_lawUwell => k_is); (case d_lawUwell => k_is); (case k_lawUwell => k_is)
    (case a_law => k_is); (case l_law => k_is); (case d_law => k_is); (case k_law => k_is)
    (case z_abs => k_is); (case z_all => k_is); (case z_any => k_is); (case z_bool => k_is)
    (case z_int => k_is); (case z_isinstance => k_is); (case z_len => k_is); (case z_list => k_is)
    (case z_max => k_is); (case z_min => k_is); (case z_range => k_is); (case z_repr => k_is)
    (case z_set => k_is); (case z_sorted => k_is); (case z_tuple => k_is); (case z_zip => k_is)
    (case c_MOST_EDGES => k_is); (case c_MOST_VERTICES => k_is)
