import PyProof.Rows.All
import Wide.All
import OpenK.AllK
import Wide.FinOn
import HandS.ForMost
import HandS.ForExc
import HandS.TupAny
import HandS.TupLe
import HandS.Deep
import HandS.More
import HandS.Conv
import HandS.IsInst
import HandS.Zip
import HandS.Comp
import HandS.Text
import HandS.Style
import HandS.SortRule
import HandS.SortInts
import PyProof.StrLawsTight
import PyProof.ReprLen
import PyProof.StrLawsRepr
import PySem.Challenge.RW_linkless_k06_texts_there_and_back
set_option Elab.async false
set_option linter.all false
set_option maxRecDepth 100000
set_option maxHeartbeats 0
namespace Lk
open PySem PySem.Spec L2

/-- a value of the layer: data, an instance (class number, fields), an exception value, a closure -/
inductive DV where
  | d (x : PyData)
  | o (c : Nat) (fs : List (Str × PyData))
  | x (c : Nat) (g : PyData)
  | f (i : Nat) (cs : List PyData)
  | s (ns : List Int)

/-- addresses met, with the depth of mutable things above them -/
abbrev Ft := List (Addr × Nat)
def up (G : Ft) : Ft := G.map fun p => (p.1, p.2 + 1)
def tag (n : Nat) (G : Ft) : List (Addr × Bool) := G.map fun p => (p.1, decide (p.2 < n))
theorem up_append (G G' : Ft) : up (G ++ G') = up G ++ up G' := List.map_append
theorem tag_append (n : Nat) (G G' : Ft) : tag n (G ++ G') = tag n G ++ tag n G' := List.map_append
theorem tag_nil (n : Nat) : tag n [] = [] := rfl
theorem tag_cons (n : Nat) (p : Addr × Nat) (G : Ft) : tag n (p :: G) = (p.1, decide (p.2 < n)) :: tag n G := rfl
theorem tag_up (n : Nat) (G : Ft) : tag n (up G) = tag (n - 1) G := by
  unfold tag up
  rw [List.map_map]
  apply List.map_congr_left
  intro p _
  show (p.1, decide (p.2 + 1 < n)) = (p.1, decide (p.2 < n - 1))
  congr 1
  exact decide_eq_decide.mpr (by omega)
theorem tag_zero_mem {G : Ft} {p : Addr × Bool} (h : p ∈ tag 0 G) : p.2 = false := by
  unfold tag at h
  obtain ⟨q, _, rfl⟩ := List.mem_map.mp h
  exact decide_eq_false (Nat.not_lt_zero q.2)
theorem tag_fst (n : Nat) (G : Ft) : (tag n G).map (·.1) = G.map (·.1) := by
  unfold tag
  rw [List.map_map]
  rfl
theorem up_fst (G : Ft) : (up G).map (·.1) = G.map (·.1) := by
  unfold up
  rw [List.map_map]
  rfl
def keyD : Key → PyData
  | .inl i => .int i
  | .inr x => .str x
/-- a dict at a: its keys, its values, in order; fz: it is locked -/
def DicAt (H : Hp) (a : Addr) (ks : List PyData) (vs : List V) : Prop :=
  (∃ kvs : List (Key × V), H a = some (.dK kvs) ∧ ks = kvs.map (fun p => keyD p.1) ∧ vs = kvs.map (·.2)) ∨
  (∃ kvs : List (List Key × V), H a = some (.dT kvs) ∧ ks = kvs.map (fun p => PyData.tuple (p.1.map keyD)) ∧ vs = kvs.map (·.2))
mutual
inductive Den (K : PySem.W.Frag) (H : Hp) : PyData → V → Ft → Prop
  | non : Den K H .none .non []
  | bl (b : Bool) : Den K H (.bool b) (.bl b) []
  | int (i : Int) : Den K H (.int i) (.int i) []
  | str (x : Str) : Den K H (.str x) (.str x) []
  | lst {a : Addr} {vs : List V} {ds : List PyData} {G : Ft} : H a = some (.lst vs) → DenL K H ds vs G → Den K H (.list ds) (.ref a) ((a, 0) :: up G)
  | tup {a : Addr} {vs : List V} {ds : List PyData} {G : Ft} : SqT K H a vs → DenL K H ds vs G → Den K H (.tuple ds) (.ref a) (up G)
  | dic {a : Addr} {ks : List PyData} {vs : List V} {qs : List (PyData × PyData)} {G : Ft} : DicAt H a ks vs → qs.map (·.1) = ks → DenL K H (qs.map (·.2)) vs G → Den K H (.dict qs) (.ref a) ((a, 0) :: up G)
inductive DenL (K : PySem.W.Frag) (H : Hp) : List PyData → List V → Ft → Prop
  | nil : DenL K H [] [] []
  | cons {d : PyData} {ds : List PyData} {v : V} {vs : List V} {G G' : Ft} : Den K H d v G → DenL K H ds vs G' → DenL K H (d :: ds) (v :: vs) (G ++ G')
end

/-- the class table -/
abbrev ClT := Nat → Option Addr
inductive DenV (K : PySem.W.Frag) (Z : ClT) (H : Hp) : DV → V → Ft → Prop
  | d {x : PyData} {v : V} {G : Ft} : Den K H x v G → DenV K Z H (.d x) v G
  | s {a : Addr} {ns : List Int} : SqL K (fun _ => none) a (ns.map V.int) ∨ (∃ ob, H a = some (.frz ob (.lst (ns.map V.int)))) → DenV K Z H (.s ns) (.ref a) []
  | o {c : Nat} {C a dx : Addr} {fs : List (Str × PyData)} {gs : List (Str × V)} {G : Ft} : Z c = some C → H a = some (.ins C dx gs) → gs.map (·.1) = fs.map (·.1) → DenL K H (fs.map (·.2)) (gs.map (·.2)) G →
      DenV K Z H (.o c fs) (.ref a) ((a, 0) :: up G)

structure Root where
  n : Nat
  d : DV
  v : V

def Own (F : List (Addr × Bool)) : Prop := F.Pairwise fun x y => x.1 = y.1 → x.2 = false ∧ y.2 = false
def SimF (K : PySem.W.Frag) (Z : ClT) (H : Hp) : List Root → List (Addr × Bool) → Prop
  | [], F => F = []
  | r :: R, F => ∃ G F', DenV K Z H r.d r.v G ∧ SimF K Z H R F' ∧ F = tag r.n G ++ F'
def Sim (K : PySem.W.Frag) (Z : ClT) (H : Hp) (R : List Root) : Prop := ∃ F, SimF K Z H R F ∧ Own F

section
variable {K : PySem.W.Frag} {Z : ClT} {H H' : Hp}

/-! ### Own -/
theorem Own.perm {F F' : List (Addr × Bool)} (h : F.Perm F') (o : Own F) : Own F' :=
  (List.Perm.pairwise_iff (fun {x y} q e => ⟨(q e.symm).2, (q e.symm).1⟩) h).mp o
theorem Own.sub {F F' : List (Addr × Bool)} (h : F'.Sublist F) (o : Own F) : Own F' := List.Pairwise.sublist h o
/-- what is frozen may be met again -/
theorem Own.more {A F : List (Addr × Bool)} (o : Own F) (h : ∀ p ∈ A, p.2 = false ∧ (p.1, false) ∈ F) : Own (A ++ F) := by
  refine List.pairwise_append.mpr ⟨?_, o, fun x hx y hy e => ?_⟩
  · exact List.Pairwise.imp_of_mem (R := fun _ _ => True) (fun hx hy _ _ => ⟨(h _ hx).1, (h _ hy).1⟩) (List.pairwise_of_forall fun _ _ => trivial)
  · obtain ⟨h1, h2⟩ := h x hx
    refine ⟨h1, ?_⟩
    by_cases z : y = (x.1, false)
    · rw [z]
    · have key : ∀ l : List (Addr × Bool), l.Pairwise (fun x y => x.1 = y.1 → x.2 = false ∧ y.2 = false) → (x.1, false) ∈ l → y ∈ l → y.2 = false := by
        intro l
        induction l with
        | nil => intro _ q; cases q
        | cons c r ih =>
          intro p q1 q2
          obtain ⟨p1, p2⟩ := List.pairwise_cons.mp p
          rcases List.mem_cons.mp q1 with e1 | q1
          · rcases List.mem_cons.mp q2 with e2 | q2
            · exact absurd (e2.trans e1.symm) z
            · exact (p1 y q2 (by rw [← e1]; exact e)).2
          · rcases List.mem_cons.mp q2 with e2 | q2
            · have := p1 _ q1 (by rw [← e2]; exact e.symm)
              rw [e2]; exact this.1
            · exact ih p2 q1 q2
      exact key F o h2 hy
/-- weakening tags -/
theorem Own.weak {F F' : List (Addr × Bool)} (o : Own F) (h : Paired (fun (x y : Addr × Bool) => x.1 = y.1 ∧ (y.2 = true → x.2 = true)) F F') : Own F' := by
  induction h with
  | nil => exact List.Pairwise.nil
  | @cons x y xs ys r t ih =>
    obtain ⟨p1, p2⟩ := List.pairwise_cons.mp o
    refine List.pairwise_cons.mpr ⟨fun z hz e => ?_, ih p2⟩
    obtain ⟨w, hw, e1, e2⟩ : ∃ w ∈ xs, w.1 = z.1 ∧ (z.2 = true → w.2 = true) := by
      clear ih p1 p2 o
      induction t with
      | nil => cases hz
      | cons r' t' ih' =>
        rcases List.mem_cons.mp hz with q | q
        · subst q; exact ⟨_, List.mem_cons_self, r'.1, r'.2⟩
        · obtain ⟨w, hw, q1⟩ := ih' q
          exact ⟨w, List.mem_cons_of_mem _ hw, q1⟩
    have q := p1 w hw (r.1.trans (e.trans e1.symm))
    refine ⟨?_, ?_⟩
    · cases hy : y.2 with
      | false => rfl
      | true => rw [r.2 hy] at q; exact absurd q.1 (by simp)
    · cases hy : z.2 with
      | false => rfl
      | true => rw [e2 hy] at q; exact absurd q.2 (by simp)

/-! ### DenL -/
theorem DenL.append {ds es : List PyData} {vs us : List V} {G G' : Ft} (h : DenL K H ds vs G) (h' : DenL K H es us G') : DenL K H (ds ++ es) (vs ++ us) (G ++ G') := by
  induction ds generalizing vs G with
  | nil => cases h; exact h'
  | cons d ds ih =>
    cases h with
    | cons h1 h2 =>
      rw [List.append_assoc]
      exact .cons h1 (ih h2)
theorem DenL.split {es : List PyData} : ∀ {ds : List PyData} {vs : List V} {G : Ft}, DenL K H (ds ++ es) vs G →
    ∃ us ws G1 G2, vs = us ++ ws ∧ G = G1 ++ G2 ∧ DenL K H ds us G1 ∧ DenL K H es ws G2
  | [], vs, G, h => ⟨[], vs, [], G, rfl, rfl, .nil, h⟩
  | d :: ds, _, _, h => by
    cases h with
    | cons h1 h2 =>
      obtain ⟨us, ws, G1, G2, rfl, rfl, q1, q2⟩ := DenL.split h2
      exact ⟨_ :: us, ws, _, G2, rfl, (List.append_assoc _ _ _).symm, .cons h1 q1, q2⟩
theorem DenL.length : ∀ {ds : List PyData} {vs : List V} {G : Ft}, DenL K H ds vs G → ds.length = vs.length
  | [], _, _, h => by cases h; rfl
  | d :: ds, _, _, h => by
    cases h with
    | cons h1 h2 => simp [DenL.length h2]
theorem DenL.one {d : PyData} {v : V} {G : Ft} (h : Den K H d v G) : DenL K H [d] [v] G := by
  have q : DenL K H [d] [v] (G ++ []) := .cons h .nil
  rwa [List.append_nil] at q
theorem DenL.get : ∀ {ds : List PyData} {vs : List V} {G : Ft} {i : Nat} {d : PyData}, DenL K H ds vs G → ds[i]? = some d → ∃ v G1 G0 G2, vs[i]? = some v ∧ Den K H d v G1 ∧ G = G0 ++ (G1 ++ G2)
  | [], _, _, _, _, _, e => by simp at e
  | x :: ds, _, _, 0, d, h, e => by
    cases h with
    | cons h1 h2 =>
      simp at e; subst e
      exact ⟨_, _, [], _, rfl, h1, rfl⟩
  | x :: ds, _, _, i + 1, d, h, e => by
    cases h with
    | cons h1 h2 =>
      obtain ⟨v, G1, G0, G2, q1, q2, q3⟩ := DenL.get (i := i) h2 (by simpa using e)
      exact ⟨v, G1, _ ++ G0, G2, by simpa using q1, q2, by rw [q3, List.append_assoc]⟩

/-! ### heaps -/
/-- what is met is there and may change; the rest can't -/
def Good (H H' : Hp) (G : Ft) : Prop :=
  (∀ a vs, H a = some (.tup vs) → H' a = some (.tup vs)) ∧ (∀ a o u, H a = some (.frz o u) → H' a = some (.frz o u)) ∧ ∀ p ∈ G, H' p.1 = H p.1
theorem Good.sub {G G' : Ft} (g : Good H H' G) (h : ∀ p ∈ G', ∃ q ∈ G, q.1 = p.1) : Good H H' G' :=
  ⟨g.1, g.2.1, fun p hp => by obtain ⟨q, hq, e⟩ := h p hp; rw [← e]; exact g.2.2 q hq⟩
theorem Rd.good {a : Addr} {vs : List V} {G : Ft} (g : Good H H' G) (h : Rd H a (.tup vs)) : Rd H' a (.tup vs) := by
  rcases h with h | ⟨o, h⟩
  · exact .inl (g.1 _ _ h)
  · exact .inr ⟨o, g.2.1 _ _ _ h⟩
theorem SqT.good {a : Addr} {vs : List V} {G : Ft} (g : Good H H' G) (h : SqT K H a vs) : SqT K H' a vs := by
  rcases h with h | h
  · exact .inl (Rd.good g h)
  · exact .inr h
theorem Good.up {G : Ft} (g : Good H H' (up G)) : Good H H' G := g.sub fun p hp => ⟨(p.1, p.2 + 1), List.mem_map.mpr ⟨p, hp, rfl⟩, rfl⟩
theorem DicAt.good {a : Addr} {ks : List PyData} {vs : List V} (e : H' a = H a) (h : DicAt H a ks vs) : DicAt H' a ks vs := by
  rcases h with ⟨kvs, q, r⟩ | ⟨kvs, q, r⟩
  · exact .inl ⟨kvs, e.trans q, r⟩
  · exact .inr ⟨kvs, e.trans q, r⟩
mutual
theorem Den.good : ∀ {d : PyData} {v : V} {G : Ft}, Den K H d v G → Good H H' G → Den K H' d v G
  | _, _, _, .non, _ => .non
  | _, _, _, .bl b, _ => .bl b
  | _, _, _, .int i, _ => .int i
  | _, _, _, .str x, _ => .str x
  | _, _, _, .lst h1 h2, g => .lst ((g.2.2 _ List.mem_cons_self).trans h1) (DenL.good h2 (g.sub (G' := up _) fun p hp => ⟨p, List.mem_cons_of_mem _ hp, rfl⟩).up)
  | _, _, _, .tup h1 h2, g => .tup (SqT.good g h1) (DenL.good h2 g.up)
  | _, _, _, .dic h1 h2 h3, g => .dic (DicAt.good (g.2.2 _ List.mem_cons_self) h1) h2 (DenL.good h3 (g.sub (G' := up _) fun p hp => ⟨p, List.mem_cons_of_mem _ hp, rfl⟩).up)
theorem DenL.good : ∀ {ds : List PyData} {vs : List V} {G : Ft}, DenL K H ds vs G → Good H H' G → DenL K H' ds vs G
  | _, _, _, .nil, _ => .nil
  | _, _, _, .cons h1 h2, g => .cons (Den.good h1 (g.sub fun p hp => ⟨p, List.mem_append_left _ hp, rfl⟩)) (DenL.good h2 (g.sub fun p hp => ⟨p, List.mem_append_right _ hp, rfl⟩))
end
theorem DenV.good {d : DV} {v : V} {G : Ft} (h : DenV K Z H d v G) (g : Good H H' G) : DenV K Z H' d v G := by
  cases h with
  | d h => exact .d (h.good g)
  | s h =>
    rcases h with h | ⟨ob, h⟩
    · exact .s (.inl h)
    · exact .s (.inr ⟨ob, g.2.1 _ _ _ h⟩)
  | o h1 h2 h3 h4 =>
    have g' := (g.sub (G' := up _) fun p hp => ⟨p, List.mem_cons_of_mem _ hp, rfl⟩).up
    exact .o h1 ((g.2.2 _ List.mem_cons_self).trans h2) h3 (h4.good g')
/-- every address met is tracked -/
def There (H : Hp) (G : Ft) : Prop := ∀ p ∈ G, ∃ o, H p.1 = some o
theorem There.up {G : Ft} (t : There H G) : There H (up G) := fun p hp => by
  obtain ⟨q, hq, rfl⟩ := List.mem_map.mp hp
  exact t q hq
theorem There.cons {G : Ft} {a : Addr} {n : Nat} {o : HO} (h : H a = some o) (t : There H G) : There H ((a, n) :: G) := fun p hp => by
  rcases List.mem_cons.mp hp with e | hp
  · subst e; exact ⟨o, h⟩
  · exact t p hp
theorem There.append {G G' : Ft} (t : There H G) (t' : There H G') : There H (G ++ G') := fun p hp => (List.mem_append.mp hp).elim (t p) (t' p)
theorem DicAt.there {a : Addr} {ks : List PyData} {vs : List V} (h : DicAt H a ks vs) : ∃ o, H a = some o := by
  rcases h with ⟨_, h, _⟩ | ⟨_, h, _⟩
  · exact ⟨_, h⟩
  · exact ⟨_, h⟩
theorem There.nil : There H [] := fun _ hp => nomatch hp
mutual
theorem Den.there : ∀ {d : PyData} {v : V} {G : Ft}, Den K H d v G → There H G
  | _, _, _, .non => .nil
  | _, _, _, .bl b => .nil
  | _, _, _, .int i => .nil
  | _, _, _, .str x => .nil
  | _, _, _, .lst h1 h2 => .cons h1 (DenL.there h2).up
  | _, _, _, .tup h1 h2 => (DenL.there h2).up
  | _, _, _, .dic h1 h2 h3 => .cons h1.there.choose_spec (DenL.there h3).up
theorem DenL.there : ∀ {ds : List PyData} {vs : List V} {G : Ft}, DenL K H ds vs G → There H G
  | _, _, _, .nil => .nil
  | _, _, _, .cons h1 h2 => (Den.there h1).append (DenL.there h2)
end
theorem DenV.there {d : DV} {v : V} {G : Ft} (h : DenV K Z H d v G) : There H G := by
  cases h with
  | d h => exact h.there
  | s h => exact .nil
  | o h1 h2 h3 h4 => exact .cons h2 h4.there.up
end
end Lk
namespace Lk
open PySem PySem.Spec L2

def tks (T : List Addr) : List (Addr × Bool) := T.map fun a => (a, true)
/-- the roots R stand, the addresses T are owned beside them -/
def SimT (K : PySem.W.Frag) (Z : ClT) (H : Hp) (T : List Addr) (R : List Root) : Prop := ∃ F, SimF K Z H R F ∧ Own (tks T ++ F)
def kids (m : Nat) (ds : List PyData) (vs : List V) : List Root := List.zipWith (fun d v => ⟨m, .d d, v⟩) ds vs

section
variable {K : PySem.W.Frag} {Z : ClT} {H H' : Hp} {T : List Addr} {R R' : List Root}
theorem Sim.toT (h : Sim K Z H R) : SimT K Z H [] R := h
theorem SimT.toSim (h : SimT K Z H [] R) : Sim K Z H R := h

theorem SimF.append : ∀ {R R' : List Root} {F : List (Addr × Bool)}, SimF K Z H (R ++ R') F → ∃ F1 F2, SimF K Z H R F1 ∧ SimF K Z H R' F2 ∧ F = F1 ++ F2
  | [], _, F, h => ⟨[], F, rfl, h, rfl⟩
  | r :: R, R', F, h => by
    obtain ⟨G, F', hd, h', rfl⟩ := h
    obtain ⟨F1, F2, q1, q2, rfl⟩ := SimF.append h'
    exact ⟨tag r.n G ++ F1, F2, ⟨G, F1, hd, q1, rfl⟩, q2, by rw [List.append_assoc]⟩
theorem SimF.join : ∀ {R R' : List Root} {F F' : List (Addr × Bool)}, SimF K Z H R F → SimF K Z H R' F' → SimF K Z H (R ++ R') (F ++ F')
  | [], _, F, F', h, h' => by
    obtain rfl : F = [] := h
    exact h'
  | r :: R, R', F, F', h, h' => by
    obtain ⟨G, F1, hd, q, rfl⟩ := h
    exact ⟨G, F1 ++ F', hd, SimF.join q h', by rw [List.append_assoc]⟩
theorem SimF.perm (p : R.Perm R') : ∀ {F}, SimF K Z H R F → ∃ F', F.Perm F' ∧ SimF K Z H R' F' := by
  induction p with
  | nil => intro F h; exact ⟨F, .refl _, h⟩
  | cons x _ ih =>
    intro F h
    obtain ⟨G, F1, hd, q, rfl⟩ := h
    obtain ⟨F2, p2, q2⟩ := ih q
    exact ⟨_, List.Perm.append_left _ p2, G, F2, hd, q2, rfl⟩
  | swap x y l =>
    intro F h
    obtain ⟨G, F1, hd, ⟨G', F2, hd', q, rfl⟩, rfl⟩ := h
    refine ⟨_, ?_, G', _, hd', ⟨G, F2, hd, q, rfl⟩, rfl⟩
    rw [← List.append_assoc, ← List.append_assoc]
    exact List.Perm.append_right _ List.perm_append_comm
  | trans _ _ ih1 ih2 =>
    intro F h
    obtain ⟨F1, p1, q1⟩ := ih1 h
    obtain ⟨F2, p2, q2⟩ := ih2 q1
    exact ⟨F2, p1.trans p2, q2⟩
theorem SimF.sub (p : R'.Sublist R) : ∀ {F}, SimF K Z H R F → ∃ F', F'.Sublist F ∧ SimF K Z H R' F' := by
  induction p with
  | slnil => intro F h; exact ⟨F, .refl _, h⟩
  | cons a _ ih =>
    intro F h
    obtain ⟨G, F1, hd, q, rfl⟩ := h
    obtain ⟨F2, p2, q2⟩ := ih q
    exact ⟨F2, p2.trans (List.sublist_append_right _ _), q2⟩
  | cons_cons a _ ih =>
    intro F h
    obtain ⟨G, F1, hd, q, rfl⟩ := h
    obtain ⟨F2, p2, q2⟩ := ih q
    exact ⟨_, List.Sublist.append_left p2 _, G, F2, hd, q2, rfl⟩
theorem SimT.perm (h : SimT K Z H T R) (p : R.Perm R') : SimT K Z H T R' := by
  obtain ⟨F, hF, o⟩ := h
  obtain ⟨F', q, hF'⟩ := hF.perm p
  exact ⟨F', hF', o.perm (List.Perm.append_left _ q)⟩
theorem SimT.sub (h : SimT K Z H T R) (p : R'.Sublist R) : SimT K Z H T R' := by
  obtain ⟨F, hF, o⟩ := h
  obtain ⟨F', q, hF'⟩ := hF.sub p
  exact ⟨F', hF', o.sub (List.Sublist.append_left q _)⟩
theorem Sim.perm (h : Sim K Z H R) (p : R.Perm R') : Sim K Z H R' := SimT.perm (T := []) h p
theorem Sim.sub (h : Sim K Z H R) (p : R'.Sublist R) : Sim K Z H R' := SimT.sub (T := []) h p
theorem Sim.drop {r : Root} (h : Sim K Z H (r :: R)) : Sim K Z H R := h.sub (List.sublist_cons_self _ _)
theorem SimF.good : ∀ {R : List Root} {F : List (Addr × Bool)}, SimF K Z H R F → (∀ a vs, H a = some (.tup vs) → H' a = some (.tup vs)) → (∀ a o u, H a = some (.frz o u) → H' a = some (.frz o u)) → (∀ p ∈ F, H' p.1 = H p.1) → SimF K Z H' R F
  | [], F, h, _, _, _ => h
  | r :: R, F, h, h1, h2, h3 => by
    obtain ⟨G, F1, hd, q, rfl⟩ := h
    refine ⟨G, F1, hd.good ⟨h1, h2, fun p hp => ?_⟩, SimF.good q h1 h2 fun p hp => h3 p (List.mem_append_right _ hp), rfl⟩
    exact h3 (p.1, decide (p.2 < r.n)) (List.mem_append_left _ (List.mem_map.mpr ⟨p, hp, rfl⟩))
theorem SimF.there : ∀ {R : List Root} {F : List (Addr × Bool)}, SimF K Z H R F → ∀ p ∈ F, ∃ o, H p.1 = some o
  | [], F, h, p, hp => by
    obtain rfl : F = [] := h
    cases hp
  | r :: R, F, h, p, hp => by
    obtain ⟨G, F1, hd, q, rfl⟩ := h
    rcases List.mem_append.mp hp with hp | hp
    · obtain ⟨z, hz, rfl⟩ := List.mem_map.mp hp
      exact hd.there z hz
    · exact SimF.there q p hp
theorem SimT.grow (h : SimT K Z H T R) (g : ∀ a o, H a = some o → H' a = some o) : SimT K Z H' T R := by
  obtain ⟨F, hF, o⟩ := h
  refine ⟨F, hF.good (fun a vs e => g _ _ e) (fun a ob u e => g _ _ e) fun p hp => ?_, o⟩
  obtain ⟨o, e⟩ := hF.there p hp
  rw [e, g _ _ e]
theorem Sim.grow (h : Sim K Z H R) (g : ∀ a o, H a = some o → H' a = some o) : Sim K Z H' R := SimT.grow (T := []) h g
theorem grow_upd {p : Addr} {ob : HO} (hp : H p = none) : ∀ a o, H a = some o → upd H p ob a = some o := fun a o e => by
  rw [upd_ne (ne_of_none e hp)]; exact e
/-- an owned object is written -/
theorem SimT.write {a : Addr} {ob : HO} (h : SimT K Z H (a :: T) R) (nt : ∀ vs, H a ≠ some (.tup vs)) (nf : ∀ o u, H a ≠ some (.frz o u)) : SimT K Z (upd H a ob) (a :: T) R := by
  obtain ⟨F, hF, o⟩ := h
  refine ⟨F, hF.good (fun b vs e => ?_) (fun b ob u e => ?_) fun p hp => ?_, o⟩
  · rw [upd_ne (fun q => by subst q; exact nt _ e)]; exact e
  · rw [upd_ne (fun q => by subst q; exact nf _ _ e)]; exact e
  · refine upd_ne fun q => ?_
    have := (List.pairwise_cons.mp o).1 p (List.mem_append_right _ hp) q.symm
    exact absurd this.1 (by simp)
theorem SimT.dropT {a : Addr} (h : SimT K Z H (a :: T) R) : SimT K Z H T R := by
  obtain ⟨F, hF, o⟩ := h
  exact ⟨F, hF, o.sub (List.sublist_cons_self _ _)⟩

/-! ### flags -/
theorem tag_weak {m n : Nat} (h : m ≤ n) : ∀ G : Ft, Paired (fun (x y : Addr × Bool) => x.1 = y.1 ∧ (y.2 = true → x.2 = true)) (tag n G) (tag m G)
  | [] => .nil
  | p :: G => .cons ⟨rfl, fun z => by
      have z : p.2 < m := of_decide_eq_true z
      exact decide_eq_true (Nat.lt_of_lt_of_le z h)⟩ (tag_weak h G)
theorem paired_refl : ∀ F : List (Addr × Bool), Paired (fun (x y : Addr × Bool) => x.1 = y.1 ∧ (y.2 = true → x.2 = true)) F F
  | [] => .nil
  | p :: F => .cons ⟨rfl, fun z => z⟩ (paired_refl F)
theorem paired_app {A B C D : List (Addr × Bool)} {r : Addr × Bool → Addr × Bool → Prop} (h : Paired r A B) (h' : Paired r C D) : Paired r (A ++ C) (B ++ D) := by
  induction h with
  | nil => exact h'
  | cons q _ ih => exact .cons q ih
/-- each root's flag may be lessened -/
def Less : List Root → List Root → Prop := Paired fun r r' => r'.n ≤ r.n ∧ r'.d = r.d ∧ r'.v = r.v
theorem Less.refl : ∀ R : List Root, Less R R
  | [] => .nil
  | _ :: R => .cons ⟨Nat.le_refl _, rfl, rfl⟩ (Less.refl R)
theorem Less.app {A B C D : List Root} (h : Less A B) (h' : Less C D) : Less (A ++ C) (B ++ D) := by
  induction h with
  | nil => exact h'
  | cons q _ ih => exact .cons q ih
theorem SimF.less (l : Less R R') : ∀ {F}, SimF K Z H R F → ∃ F', Paired (fun (x y : Addr × Bool) => x.1 = y.1 ∧ (y.2 = true → x.2 = true)) F F' ∧ SimF K Z H R' F' := by
  induction l with
  | nil => intro F h; exact ⟨F, paired_refl F, h⟩
  | cons q _ ih =>
    intro F h
    obtain ⟨G, F1, hd, q1, rfl⟩ := h
    obtain ⟨F2, p2, q2⟩ := ih q1
    exact ⟨_, paired_app (tag_weak q.1 G) p2, G, F2, by rw [q.2.1, q.2.2]; exact hd, q2, rfl⟩
theorem SimT.less (h : SimT K Z H T R) (l : Less R R') : SimT K Z H T R' := by
  obtain ⟨F, hF, o⟩ := h
  obtain ⟨F', p, hF'⟩ := hF.less l
  exact ⟨F', hF', o.weak (paired_app (paired_refl _) p)⟩
theorem Sim.less (h : Sim K Z H R) (l : Less R R') : Sim K Z H R' := SimT.less (T := []) h l
theorem Sim.weak {m n : Nat} {d : DV} {v : V} (h : Sim K Z H (⟨n, d, v⟩ :: R)) (hm : m ≤ n) : Sim K Z H (⟨m, d, v⟩ :: R) := h.less (.cons ⟨hm, rfl, rfl⟩ (Less.refl R))
/-- frozen roots that are met already -/
theorem SimT.more {A : List (Addr × Bool)} {S : List Root} (h : SimT K Z H T R) (hS : ∀ F, SimF K Z H R F → ∃ A, SimF K Z H S A ∧ ∀ p ∈ A, p.2 = false ∧ (p.1, false) ∈ F) : SimT K Z H T (S ++ R) := by
  obtain ⟨F, hF, o⟩ := h
  obtain ⟨A, hA, q⟩ := hS F hF
  refine ⟨A ++ F, hA.join hF, ?_⟩
  have o2 : Own (A ++ (tks T ++ F)) := o.more fun p hp => ⟨(q p hp).1, List.mem_append_right _ (q p hp).2⟩
  refine o2.perm ?_
  rw [← List.append_assoc, ← List.append_assoc]
  exact List.Perm.append_right _ List.perm_append_comm
theorem SimF.mem : ∀ {R : List Root} {F : List (Addr × Bool)} {r : Root}, SimF K Z H R F → r ∈ R → ∃ G, DenV K Z H r.d r.v G ∧ ∀ p ∈ tag r.n G, p ∈ F
  | [], _, _, _, hr => nomatch hr
  | r :: R, F, x, h, hr => by
    obtain ⟨G, F1, hd, q, rfl⟩ := h
    rcases List.mem_cons.mp hr with e | hr
    · subst e
      exact ⟨G, hd, fun p hp => List.mem_append_left _ hp⟩
    · obtain ⟨G', hd', q'⟩ := SimF.mem q hr
      exact ⟨G', hd', fun p hp => List.mem_append_right _ (q' p hp)⟩
theorem tag0_in {n : Nat} {G : Ft} {F : List (Addr × Bool)} (h : ∀ p ∈ tag n G, p ∈ F) (h0 : ∀ p ∈ G, n ≤ p.2) : ∀ p ∈ tag 0 G, p.2 = false ∧ (p.1, false) ∈ F := fun p hp => by
  obtain ⟨q, hq, rfl⟩ := List.mem_map.mp hp
  refine ⟨decide_eq_false (Nat.not_lt_zero q.2), ?_⟩
  have := h (q.1, decide (q.2 < n)) (List.mem_map.mpr ⟨q, hq, rfl⟩)
  rwa [decide_eq_false (Nat.not_lt.mpr (h0 q hq))] at this
theorem Sim.den {r : Root} (h : Sim K Z H R) (hr : r ∈ R) : ∃ G, DenV K Z H r.d r.v G := by
  obtain ⟨F, hF, _⟩ := h
  obtain ⟨G, hd, _⟩ := hF.mem hr
  exact ⟨G, hd⟩
/-- a frozen root twice -/
theorem Sim.dup {d : DV} {v : V} (h : Sim K Z H R) (hr : ⟨0, d, v⟩ ∈ R) : Sim K Z H (⟨0, d, v⟩ :: R) := by
  refine SimT.more (T := []) (A := []) (S := [⟨0, d, v⟩]) h fun F hF => ?_
  obtain ⟨G, hd, q⟩ := hF.mem hr
  exact ⟨tag 0 G ++ [], ⟨G, [], hd, rfl, rfl⟩, fun p hp => tag0_in q (fun _ _ => Nat.zero_le _) p (by simpa using hp)⟩
/-- what has no address may be put to the roots -/
theorem Sim.scal {n : Nat} {d : DV} {v : V} (h : Sim K Z H R) (hd : DenV K Z H d v []) : Sim K Z H (⟨n, d, v⟩ :: R) := by
  obtain ⟨F, hF, o⟩ := h
  exact ⟨F, ⟨[], F, hd, hF, rfl⟩, o⟩

/-! ### children -/
theorem SimF.kids {m : Nat} : ∀ {ds : List PyData} {vs : List V} {G : Ft}, DenL K H ds vs G → SimF K Z H (kids m ds vs) (tag m G)
  | [], _, _, h => by cases h; rfl
  | d :: ds, _, _, h => by
    cases h with
    | cons h1 h2 => exact ⟨_, _, .d h1, SimF.kids h2, by rw [tag_append]⟩
theorem SimF.ofKids {m : Nat} : ∀ {ds : List PyData} {vs : List V} {F : List (Addr × Bool)}, ds.length = vs.length → SimF K Z H (Lk.kids m ds vs) F → ∃ G, DenL K H ds vs G ∧ F = tag m G
  | [], [], F, _, h => ⟨[], .nil, h⟩
  | [], _ :: _, _, e, _ => by simp at e
  | _ :: _, [], _, e, _ => by simp at e
  | d :: ds, v :: vs, F, e, h => by
    obtain ⟨G, F1, hd, q, rfl⟩ := h
    obtain ⟨G', q1, rfl⟩ := SimF.ofKids (by simpa using e) q
    cases hd with
    | d hd => exact ⟨G ++ G', .cons hd q1, by rw [tag_append]⟩
theorem mem_up {G : Ft} {p : Addr × Nat} (h : p ∈ up G) : 1 ≤ p.2 := by
  obtain ⟨q, _, rfl⟩ := List.mem_map.mp h
  exact Nat.le_add_left _ _
theorem tag0_up (G : Ft) : tag 0 (up G) = tag 0 G := by rw [tag_up]
/-- the items of a list whose items are not owned -/
theorem Sim.openL {n : Nat} {ds : List PyData} {v : V} (h : Sim K Z H R) (hr : ⟨n, .d (.list ds), v⟩ ∈ R) (hn : n ≤ 1) :
    ∃ a vs, v = .ref a ∧ H a = some (.lst vs) ∧ ds.length = vs.length ∧ Sim K Z H (kids 0 ds vs ++ R) := by
  obtain ⟨F, hF, o⟩ := id h
  obtain ⟨G, hd, q⟩ := hF.mem hr
  cases hd with
  | d hd =>
    cases hd with
    | @lst _ _ _ G' h1 h2 =>
      refine ⟨_, _, rfl, h1, h2.length, _, (SimF.kids h2).join hF, o.more fun p hp => ?_⟩
      have q' : ∀ p ∈ tag n (up G'), p ∈ F := fun p hp => q p (by rw [tag_cons]; exact List.mem_cons_of_mem _ hp)
      exact tag0_in (G := up G') q' (fun p hp => Nat.le_trans hn (mem_up hp)) p (by rw [tag0_up]; exact hp)
/-- the list itself, whatever its flag -/
theorem Sim.seeL {n : Nat} {ds : List PyData} {v : V} (h : Sim K Z H R) (hr : ⟨n, .d (.list ds), v⟩ ∈ R) :
    ∃ a vs, v = .ref a ∧ H a = some (.lst vs) ∧ ds.length = vs.length := by
  obtain ⟨G, hd⟩ := h.den hr
  cases hd with
  | d hd =>
    cases hd with
    | lst h1 h2 => exact ⟨_, _, rfl, h1, h2.length⟩
/-- the script -/
theorem Sim.script {n : Nat} {ns : List Int} {v : V} (h : Sim K Z H R) (hr : ⟨n, .s ns, v⟩ ∈ R) : ∃ a, v = .ref a ∧ SqL K H a (ns.map V.int) := by
  obtain ⟨G, hd⟩ := h.den hr
  cases hd with
  | s h =>
    refine ⟨_, rfl, ?_⟩
    rcases h with h | ⟨ob, h⟩
    · rcases h with (h | ⟨ob, h⟩) | h
      · cases h
      · cases h
      · exact .inr h
    · exact .inl (.inr ⟨ob, h⟩)
/-- the items of a tuple whose items are not owned -/
theorem Sim.openT {n : Nat} {ds : List PyData} {v : V} (h : Sim K Z H R) (hr : ⟨n, .d (.tuple ds), v⟩ ∈ R) (hn : n ≤ 1) :
    ∃ a vs, v = .ref a ∧ SqT K H a vs ∧ ds.length = vs.length ∧ Sim K Z H (kids 0 ds vs ++ R) := by
  obtain ⟨F, hF, o⟩ := id h
  obtain ⟨G, hd, q⟩ := hF.mem hr
  cases hd with
  | d hd =>
    cases hd with
    | @tup _ _ _ G' h1 h2 =>
      refine ⟨_, _, rfl, h1, h2.length, _, (SimF.kids h2).join hF, o.more fun p hp => ?_⟩
      exact tag0_in (G := up G') q (fun p hp => Nat.le_trans hn (mem_up hp)) p (by rw [tag0_up]; exact hp)
theorem Sim.again {n : Nat} {ds : List PyData} {v : V} (h : Sim K Z H R) (hr : ⟨n, .d (.tuple ds), v⟩ ∈ R) (hn : n ≤ 1) : Sim K Z H (⟨1, .d (.tuple ds), v⟩ :: R) := by
  obtain ⟨F, hF, o⟩ := id h
  obtain ⟨G, hd, q⟩ := hF.mem hr
  cases hd with
  | d hd =>
    cases hd with
    | @tup _ _ _ G' h1 h2 =>
      refine ⟨_, ⟨up G', F, .d (.tup h1 h2), hF, rfl⟩, ?_⟩
      rw [tag_up]
      exact o.more fun p hp => tag0_in (G := up G') q (fun p hp => Nat.le_trans hn (mem_up hp)) p (by rw [tag0_up]; exact hp)
/-- the tuple itself, whatever its flag -/
theorem Sim.seeT {n : Nat} {ds : List PyData} {v : V} (h : Sim K Z H R) (hr : ⟨n, .d (.tuple ds), v⟩ ∈ R) : ∃ a vs, v = .ref a ∧ SqT K H a vs ∧ ds.length = vs.length := by
  obtain ⟨G, hd⟩ := h.den hr
  cases hd with
  | d hd =>
    cases hd with
    | tup h1 h2 => exact ⟨_, _, rfl, h1, h2.length⟩
theorem kids_mem {m : Nat} {d : PyData} {v : V} : ∀ {i : Nat} {ds : List PyData} {vs : List V}, ds[i]? = some d → vs[i]? = some v → ⟨m, .d d, v⟩ ∈ kids m ds vs
  | 0, d' :: ds, v' :: vs, e1, e2 => by
    simp at e1 e2; subst e1; subst e2
    exact List.mem_cons_self
  | i + 1, d' :: ds, v' :: vs, e1, e2 => List.mem_cons_of_mem _ (kids_mem (i := i) (by simpa using e1) (by simpa using e2))
  | _, [], _, e1, _ => by simp at e1
  | _, _ :: _, [], _, e2 => by simp at e2
theorem mem_sub {r : Root} {A : List Root} (h : r ∈ A) : [r].Sublist A := List.singleton_sublist.mpr h
theorem Sim.kid {m : Nat} {d : PyData} {v : V} {i : Nat} {ds : List PyData} {vs : List V} (h : Sim K Z H (kids m ds vs ++ R)) (e1 : ds[i]? = some d) (e2 : vs[i]? = some v) : Sim K Z H (⟨m, .d d, v⟩ :: R) :=
  h.sub ((mem_sub (kids_mem e1 e2)).append_right R)
/-- an owned list is taken apart, its address kept -/
theorem Sim.apart {n : Nat} {ds : List PyData} {v : V} (h : Sim K Z H (⟨n + 1, .d (.list ds), v⟩ :: R)) :
    ∃ a vs, v = .ref a ∧ H a = some (.lst vs) ∧ ds.length = vs.length ∧ SimT K Z H [a] (kids n ds vs ++ R) := by
  obtain ⟨F, ⟨G, F1, hd, hF, rfl⟩, o⟩ := h
  cases hd with
  | d hd =>
    cases hd with
    | lst h1 h2 =>
      refine ⟨_, _, rfl, h1, h2.length, _, (SimF.kids h2).join hF, ?_⟩
      rw [tag_cons, tag_up] at o
      exact o
/-- .. put together again, with other items -/
theorem SimT.close {n : Nat} {a : Addr} {ds : List PyData} {vs : List V} {ws : List V} (h : SimT K Z H [a] (kids n ds vs ++ R)) (e : ds.length = vs.length) (ha : H a = some (.lst ws)) :
    Sim K Z (upd H a (.lst vs)) (⟨n + 1, .d (.list ds), .ref a⟩ :: R) := by
  have h2 := h.write (ob := .lst vs) (by rw [ha]; simp) (by rw [ha]; simp)
  obtain ⟨F, hF, o⟩ := h2
  obtain ⟨F1, F2, q1, q2, rfl⟩ := hF.append
  obtain ⟨G, hl, rfl⟩ := q1.ofKids e
  refine ⟨(a, true) :: (tag n G ++ F2), ⟨(a, 0) :: up G, F2, .d (.lst upd_same hl), q2, ?_⟩, o⟩
  rw [tag_cons, tag_up]
  rfl
theorem SimF.grow {F : List (Addr × Bool)} (hF : SimF K Z H R F) (g : ∀ a o, H a = some o → H' a = some o) : SimF K Z H' R F :=
  hF.good (fun a vs e => g _ _ e) (fun a ob u e => g _ _ e) fun p hp => by
    obtain ⟨o, e⟩ := hF.there p hp
    rw [e, g _ _ e]
/-- a fresh address is owned -/
theorem Sim.fresh {p : Addr} {ob : HO} (h : Sim K Z H R) (hp : H p = none) : SimT K Z (upd H p ob) [p] R := by
  obtain ⟨F, hF, o⟩ := h
  refine ⟨F, hF.grow (grow_upd hp), List.pairwise_cons.mpr ⟨fun y hy e => ?_, o⟩⟩
  obtain ⟨u, q⟩ := hF.there y hy
  have e : p = y.1 := e
  rw [← e, hp] at q
  cases q
theorem SimT.close0 {n : Nat} {a : Addr} {ds : List PyData} {vs : List V} (h : SimT K Z H [a] (kids n ds vs ++ R)) (e : ds.length = vs.length) (ha : H a = some (.lst vs)) :
    Sim K Z H (⟨n + 1, .d (.list ds), .ref a⟩ :: R) := by
  obtain ⟨F, hF, o⟩ := h
  obtain ⟨F1, F2, q1, q2, rfl⟩ := hF.append
  obtain ⟨G, hl, rfl⟩ := q1.ofKids e
  refine ⟨(a, true) :: (tag n G ++ F2), ⟨(a, 0) :: up G, F2, .d (.lst ha hl), q2, ?_⟩, o⟩
  rw [tag_cons, tag_up]
  rfl
/-- a new list -/
theorem Sim.mkL {n : Nat} {p : Addr} {ds : List PyData} {vs : List V} (h : Sim K Z H (kids n ds vs ++ R)) (e : ds.length = vs.length) (hp : H p = none) :
    Sim K Z (upd H p (.lst vs)) (⟨n + 1, .d (.list ds), .ref p⟩ :: R) := (h.fresh hp).close0 e upd_same
/-- a new tuple -/
theorem Sim.mkT {n : Nat} {p : Addr} {ds : List PyData} {vs : List V} (h : Sim K Z H (kids n ds vs ++ R)) (e : ds.length = vs.length) (hp : H p = none) :
    Sim K Z (upd H p (.tup vs)) (⟨n + 1, .d (.tuple ds), .ref p⟩ :: R) := by
  obtain ⟨F, hF, o⟩ := h.grow (grow_upd (ob := .tup vs) hp)
  obtain ⟨F1, F2, q1, q2, rfl⟩ := hF.append
  obtain ⟨G, hl, rfl⟩ := q1.ofKids e
  exact ⟨_, ⟨up G, F2, .d (.tup (.of upd_same) hl), q2, by rw [tag_up]; rfl⟩, o⟩
/-- scalars -/
theorem Sim.int {n : Nat} {i : Int} {v : V} (h : Sim K Z H R) (hr : ⟨n, .d (.int i), v⟩ ∈ R) : v = .int i := by
  obtain ⟨G, hd⟩ := h.den hr
  cases hd with
  | d hd => cases hd; rfl
theorem Sim.bl {n : Nat} {i : Bool} {v : V} (h : Sim K Z H R) (hr : ⟨n, .d (.bool i), v⟩ ∈ R) : v = .bl i := by
  obtain ⟨G, hd⟩ := h.den hr
  cases hd with
  | d hd => cases hd; rfl
theorem Sim.str {n : Nat} {i : Str} {v : V} (h : Sim K Z H R) (hr : ⟨n, .d (.str i), v⟩ ∈ R) : v = .str i := by
  obtain ⟨G, hd⟩ := h.den hr
  cases hd with
  | d hd => cases hd; rfl
theorem Sim.non {n : Nat} {v : V} (h : Sim K Z H R) (hr : ⟨n, .d .none, v⟩ ∈ R) : v = .non := by
  obtain ⟨G, hd⟩ := h.den hr
  cases hd with
  | d hd => cases hd; rfl
end
end Lk
namespace Lk
open PySem PySem.Spec L2

abbrev Ev := List (Option DV)
inductive Out (α : Type) where
  | ok (a : α) (e : Ev)
  | ex (c : Nat) (g : PyData) (e : Ev)
  | bad
abbrev M (α : Type) := Ev → Out α
def Out.bind {α β : Type} (o : Out α) (f : α → M β) : Out β :=
  match o with
  | .ok a e => f a e
  | .ex c g e => .ex c g e
  | .bad => .bad
def M.bind {α β : Type} (m : M α) (f : α → M β) : M β := fun e => (m e).bind f
def M.pure {α : Type} (a : α) : M α := fun e => .ok a e
def M.bad {α : Type} : M α := fun _ => .bad
def optM {α : Type} (o : Option α) : M α := match o with
  | some a => M.pure a
  | none => M.bad

/-- where an expression's value stands: in a slot, or by itself with a flag -/
inductive Tm where
  | sl (i : Nat)
  | v (k : Nat)
def slot (e : Ev) (i : Nat) : Option DV := (e[i]?).join
def Tm.now (t : Tm) (d : DV) (e : Ev) : Option DV := match t with
  | .sl i => slot e i
  | .v _ => some d
structure Held where
  t : Tm
  d : DV
  v : V
def Held.rt (h : Held) : List Root := match h.t with
  | .sl _ => []
  | .v k => [⟨k, h.d, h.v⟩]
def hrts (hs : List Held) : List Root := hs.flatMap Held.rt
def Held.at (h : Held) (σ : St) : Prop := match h.t with
  | .sl i => σ[i]? = some (some h.v)
  | .v _ => True
def roots : List Nat → Ev → St → List Root
  | n :: φ, some d :: e, some v :: σ => ⟨n, d, v⟩ :: roots φ e σ
  | _ :: φ, _ :: e, _ :: σ => roots φ e σ
  | _, _, _ => []
def Al : List Nat → Ev → St → Prop
  | [], [], [] => True
  | _ :: φ, d :: e, v :: σ => (d.isSome = true → v.isSome = true) ∧ Al φ e σ
  | _, _, _ => False

section
theorem Al.get : ∀ {φ : List Nat} {e : Ev} {σ : St} {i : Nat} {d : DV}, Al φ e σ → slot e i = some d → ∃ n v, φ[i]? = some n ∧ σ[i]? = some (some v) ∧ (roots φ e σ).Perm (⟨n, d, v⟩ :: roots φ (e.set i none) σ)
  | [], [], [], i, d, _, h => by simp [slot] at h
  | n :: φ, d0 :: e, v0 :: σ, 0, d, a, h => by
    have h : d0 = some d := by simpa [slot] using h
    subst h
    cases v0 with
    | none => exact absurd (a.1 rfl) (by simp)
    | some v => exact ⟨n, v, rfl, rfl, .refl _⟩
  | n :: φ, d0 :: e, v0 :: σ, i + 1, d, a, h => by
    obtain ⟨n', v, q1, q2, p⟩ := Al.get (i := i) a.2 (by simpa [slot] using h)
    refine ⟨n', v, by simpa using q1, by simpa using q2, ?_⟩
    rw [List.set_cons_succ]
    cases d0 with
    | none => exact p
    | some d1 =>
      cases v0 with
      | none => exact absurd (a.1 rfl) (by simp)
      | some v1 => exact (List.Perm.cons _ p).trans (.swap _ _ _)
  | [], [], _ :: _, _, _, a, _ => a.elim
  | [], _ :: _, [], _, _, a, _ => a.elim
  | [], _ :: _, _ :: _, _, _, a, _ => a.elim
  | _ :: _, [], [], _, _, a, _ => a.elim
  | _ :: _, [], _ :: _, _, _, a, _ => a.elim
  | _ :: _, _ :: _, [], _, _, a, _ => a.elim
theorem Al.set : ∀ {φ : List Nat} {e : Ev} {σ : St} {i m : Nat} {d : DV} {v : V}, Al φ e σ → i < e.length → Al (φ.set i m) (e.set i (some d)) (σ.set i (some v)) ∧
    (roots (φ.set i m) (e.set i (some d)) (σ.set i (some v))).Perm (⟨m, d, v⟩ :: roots φ (e.set i none) σ)
  | [], [], [], i, _, _, _, _, h => by simp at h
  | n :: φ, d0 :: e, v0 :: σ, 0, m, d, v, a, _ => ⟨⟨fun _ => rfl, a.2⟩, .refl _⟩
  | n :: φ, d0 :: e, v0 :: σ, i + 1, m, d, v, a, h => by
    obtain ⟨q1, p⟩ := Al.set (i := i) (m := m) (d := d) (v := v) a.2 (by simpa using h)
    refine ⟨⟨a.1, q1⟩, ?_⟩
    simp only [List.set_cons_succ]
    cases d0 with
    | none => exact p
    | some d1 =>
      cases v0 with
      | none => exact absurd (a.1 rfl) (by simp)
      | some v1 => exact (List.Perm.cons _ p).trans (.swap _ _ _)
  | [], [], _ :: _, _, _, _, _, a, _ => a.elim
  | [], _ :: _, [], _, _, _, _, a, _ => a.elim
  | [], _ :: _, _ :: _, _, _, _, _, a, _ => a.elim
  | _ :: _, [], [], _, _, _, _, a, _ => a.elim
  | _ :: _, [], _ :: _, _, _, _, _, a, _ => a.elim
  | _ :: _, _ :: _, [], _, _, _, _, a, _ => a.elim
theorem Al.len : ∀ {φ : List Nat} {e : Ev} {σ : St}, Al φ e σ → e.length = σ.length ∧ φ.length = σ.length
  | [], [], [], _ => ⟨rfl, rfl⟩
  | _ :: φ, _ :: e, _ :: σ, a => by simp [a.2.len.1, a.2.len.2]
  | [], [], _ :: _, a => a.elim
  | [], _ :: _, [], a => a.elim
  | [], _ :: _, _ :: _, a => a.elim
  | _ :: _, [], [], a => a.elim
  | _ :: _, [], _ :: _, a => a.elim
  | _ :: _, _ :: _, [], a => a.elim
theorem Al.setE {φ : List Nat} {e : Ev} {σ : St} {i : Nat} (m : Nat) {d' : DV} {v : V} (a : Al φ e σ) (h : σ[i]? = some (some v)) : Al (φ.set i m) (e.set i (some d')) σ ∧
    (roots (φ.set i m) (e.set i (some d')) σ).Perm (⟨m, d', v⟩ :: roots φ (e.set i none) σ) := by
  have hi : i < σ.length := (List.getElem?_eq_some_iff.mp h).1
  have q := Al.set (m := m) (d := d') (v := v) a (a.len.1 ▸ hi)
  have e2 : σ.set i (some v) = σ := by
    apply List.ext_getElem?
    intro j
    by_cases hj : i = j
    · subst hj; rw [List.getElem?_set_self hi, h]
    · rw [List.getElem?_set_ne hj]
  rwa [e2] at q
/-- flags lessened -/
def leN : List Nat → List Nat → Bool
  | [], [] => true
  | a :: φ, b :: ψ => decide (a ≤ b) && leN φ ψ
  | _, _ => false
theorem Al.less : ∀ {φ ψ : List Nat} {e : Ev} {σ : St}, Al φ e σ → leN ψ φ = true → Al ψ e σ ∧ Less (roots φ e σ) (roots ψ e σ)
  | [], [], [], [], _, _ => ⟨trivial, .nil⟩
  | n :: φ, m :: ψ, d :: e, v :: σ, a, h => by
    simp only [leN, Bool.and_eq_true, decide_eq_true_eq] at h
    obtain ⟨q1, q2⟩ := Al.less a.2 h.2
    refine ⟨⟨a.1, q1⟩, ?_⟩
    cases d with
    | none => exact q2
    | some d =>
      cases v with
      | none => exact q2
      | some v => exact .cons ⟨h.1, rfl, rfl⟩ q2
  | [], _ :: _, _, _, _, h => by simp [leN] at h
  | _ :: _, [], _, _, _, h => by simp [leN] at h
  | [], [], [], _ :: _, a, _ => a.elim
  | [], [], _ :: _, [], a, _ => a.elim
  | [], [], _ :: _, _ :: _, a, _ => a.elim
  | _ :: _, _ :: _, [], [], a, _ => a.elim
  | _ :: _, _ :: _, [], _ :: _, a, _ => a.elim
  | _ :: _, _ :: _, _ :: _, [], a, _ => a.elim
theorem leN_refl : ∀ φ : List Nat, leN φ φ = true
  | [] => rfl
  | n :: φ => by simp [leN, leN_refl φ]
theorem leN_trans : ∀ {φ ψ χ : List Nat}, leN φ ψ = true → leN ψ χ = true → leN φ χ = true
  | [], [], [], _, _ => rfl
  | a :: φ, b :: ψ, c :: χ, h, h' => by
    simp only [leN, Bool.and_eq_true, decide_eq_true_eq] at h h' ⊢
    exact ⟨Nat.le_trans h.1 h'.1, leN_trans h.2 h'.2⟩
  | [], [], _ :: _, _, h => by simp [leN] at h
  | [], _ :: _, _, h, _ => by simp [leN] at h
  | _ :: _, [], _, h, _ => by simp [leN] at h
  | _ :: _, _ :: _, [], _, h => by simp [leN] at h
end

/-- the state in a body: roots of the slots, of what is held, and the frame's L -/
structure Stt (K : PySem.W.Frag) (Z : ClT) (φ : List Nat) (env : Ev) (hs : List Held) (σ : St) (H : Hp) (L : List Root) : Prop where
  sim : Sim K Z H (hrts hs ++ (roots φ env σ ++ L))
  al : Al φ env σ
  at' : ∀ h ∈ hs, h.at σ

def zeros (e : Ev) : List Nat := e.map fun _ => 0
/-- the attribute of an exception's class -/
def fldOf (c : Nat) : Str := if c < 100 then "given" else "index"
/-- what is wanted of an exception -/
def XP (K : PySem.W.Frag) (Z : ClT) (W : WX) (L : List Root) (c : Nat) (g : PyData) (e : Ev) : Prop :=
  ∀ (C a : Addr) (v : V) (σ' : St) (H' : Hp), Z c = some C → H' a = some (.xd [(fldOf c, v)]) → Sim K Z H' (⟨0, .d g, v⟩ :: (roots (zeros e) e σ' ++ L)) → Al (zeros e) e σ' → W (.ref C) (some a) σ' H'
def Wish {α : Type} (K : PySem.W.Frag) (Z : ClT) (W : WX) (L : List Root) (o : Out α) (k : α → Ev → Prop) : Prop := match o with
  | .ok a e => k a e
  | .ex c g e => XP K Z W L c g e
  | .bad => False

def Out.ofO {α : Type} (o : Option α) (e : Ev) : Out α := match o with
  | some a => .ok a e
  | none => .bad
section
variable {K : PySem.W.Frag} {Z : ClT} {W : WX} {L L' : List Root}
theorem Wish.ofO {α : Type} {o : Option α} {e : Ev} {k : α → Ev → Prop} (h : Wish K Z W L (Out.ofO o e) k) : ∃ a, o = some a ∧ k a e := by
  cases o with
  | none => exact h.elim
  | some a => exact ⟨a, rfl, h⟩
theorem Wish.bind {α β : Type} {o : Out α} {f : α → M β} {k : β → Ev → Prop} (h : Wish K Z W L (o.bind f) k) : Wish K Z W L o fun a e => Wish K Z W L (f a e) k := by
  cases o with
  | ok a e => exact h
  | ex c g e => exact h
  | bad => exact h
theorem Wish.mono {α : Type} {o : Out α} {k k' : α → Ev → Prop} (h : Wish K Z W L o k) (i : ∀ a e, k a e → k' a e) : Wish K Z W L o k' := by
  cases o with
  | ok a e => exact i _ _ h
  | ex c g e => exact h
  | bad => exact h
theorem XP.frame {A : List Root} {c : Nat} {g : PyData} {e : Ev} (h : XP K Z W L c g e) : XP K Z W (A ++ L) c g e := fun C a v σ' H' q1 q2 q3 q4 =>
  h C a v σ' H' q1 q2 (q3.sub (.cons_cons _ (List.Sublist.append_left (List.sublist_append_right _ _) _))) q4
theorem Wish.frame {α : Type} {A : List Root} {o : Out α} {k : α → Ev → Prop} (h : Wish K Z W L o k) : Wish K Z W (A ++ L) o k := by
  cases o with
  | ok a e => exact h
  | ex c g e => exact XP.frame h
  | bad => exact h
end

section
variable (X : Cx) (Z : ClT) (W : WX)
def rdE (φ φ' : List Nat) (t : Tm) (f : M DV) : TE := fun σ H Q => ∃ L env, Stt X.K Z φ env [] σ H L ∧ Wish X.K Z W L (f env) fun d e' => ∀ v H', Stt X.K Z φ' e' [⟨t, d, v⟩] σ H' L → Q v H'
def rdT (φ φ' : List Nat) (f : M Bool) : TT := fun σ H Q => ∃ L env, Stt X.K Z φ env [] σ H L ∧ Wish X.K Z W L (f env) fun b e' => ∀ H', Stt X.K Z φ' e' [] σ H' L → Q b H'
def JE (φ : List Nat) (e : Expr) (φ' : List Nat) (t : Tm) (f : M DV) : Prop := PE X e (rdE X Z W φ φ' t f)
def JT (φ : List Nat) (e : Expr) (φ' : List Nat) (f : M Bool) : Prop := PT X e (rdT X Z W φ φ' f)
/-- a list of operands: their terms, latest last; the values as they are when all are there -/
def nows : List (Tm × DV) → Ev → Option (List DV)
  | [], _ => some []
  | (t, d) :: r, e => match t.now d e, nows r e with
    | some x, some xs => some (x :: xs)
    | _, _ => none
end
section
variable {X : Cx} {Z : ClT} {W : WX}
theorem pe_imp {e : Expr} {t t' : TE} (h : PE X e t) (i : ∀ σ H Q, t' σ H Q → t σ H Q) : PE X e t' := ⟨fun pins s σ H Q I q => h.run pins s σ H Q I (i _ _ _ q)⟩
theorem pt_imp {e : Expr} {t t' : TT} (h : PT X e t) (i : ∀ σ H Q, t' σ H Q → t σ H Q) : PT X e t' := ⟨fun pins s σ H Q I q => h.run pins s σ H Q I (i _ _ _ q)⟩
theorem hrts_cons (h : Held) (hs : List Held) : hrts (h :: hs) = h.rt ++ hrts hs := rfl
theorem shuf {A B C D : List Root} : (A ++ (B ++ (C ++ D))).Perm (A ++ (C ++ (B ++ D))) := by
  refine List.Perm.append_left _ ?_
  rw [← List.append_assoc, ← List.append_assoc]
  exact List.Perm.append_right _ List.perm_append_comm
variable {φ φ' : List Nat} {t : Tm} {f : M DV} {σ : St} {H : Hp} {L : List Root} {env : Ev} {hs : List Held}
/-- an expression in the middle of others -/
theorem rdE.go {P : VK} (S : Stt X.K Z φ env hs σ H L) (h : Wish X.K Z W L (f env) fun d e' => ∀ v H', Stt X.K Z φ' e' (⟨t, d, v⟩ :: hs) σ H' L → P v H') : rdE X Z W φ φ' t f σ H P := by
  refine ⟨hrts hs ++ L, env, ⟨?_, S.al, fun _ h => nomatch h⟩, h.frame.mono fun d e' k v H' S' => k v H' ⟨?_, S'.al, fun x hx => ?_⟩⟩
  · refine S.sim.perm ?_
    show (hrts hs ++ (roots φ env σ ++ L)).Perm ([] ++ (roots φ env σ ++ (hrts hs ++ L)))
    exact shuf (A := [])
  · refine S'.sim.perm ?_
    show ((Held.rt _ ++ []) ++ (roots φ' e' σ ++ (hrts hs ++ L))).Perm ((Held.rt _ ++ hrts hs) ++ (roots φ' e' σ ++ L))
    rw [List.append_nil, List.append_assoc]
    exact shuf
  · rcases List.mem_cons.mp hx with e | hx
    · subst e; exact S'.at' _ List.mem_cons_self
    · exact S.at' x hx
theorem rdT.go {f : M Bool} {P : Bool → Hp → Prop} (S : Stt X.K Z φ env hs σ H L) (h : Wish X.K Z W L (f env) fun b e' => ∀ H', Stt X.K Z φ' e' hs σ H' L → P b H') : rdT X Z W φ φ' f σ H P := by
  refine ⟨hrts hs ++ L, env, ⟨?_, S.al, fun _ h => nomatch h⟩, h.frame.mono fun d e' k H' S' => k H' ⟨?_, S'.al, S.at'⟩⟩
  · refine S.sim.perm ?_
    show (hrts hs ++ (roots φ env σ ++ L)).Perm ([] ++ (roots φ env σ ++ (hrts hs ++ L)))
    exact shuf (A := [])
  · refine S'.sim.perm ?_
    show ([] ++ (roots φ' e' σ ++ (hrts hs ++ L))).Perm (hrts hs ++ (roots φ' e' σ ++ L))
    exact shuf (A := [])

/-! ### what is held, as a root with a bounded flag -/
/-- the flags when held operands may share their parts: at most cap -/
def capS (cap : Nat) : List (Option Nat) → List Nat → List Nat
  | [], φ => φ
  | none :: ts, φ => capS cap ts φ
  | some i :: ts, φ => capS cap ts (φ.modify i (min cap))
def Tm.slot? : Tm → Option Nat
  | .sl i => some i
  | .v _ => none
theorem modify_le (cap : Nat) : ∀ (φ : List Nat) (i : Nat), leN (φ.modify i (min cap)) φ = true
  | [], i => by cases i <;> rfl
  | n :: φ, 0 => by
    show leN (min cap n :: φ) (n :: φ) = true
    simp [leN, leN_refl, Nat.min_le_right]
  | n :: φ, i + 1 => by
    show leN (n :: φ.modify i (min cap)) (n :: φ) = true
    simp [leN, modify_le cap φ i]
theorem capS_le (cap : Nat) : ∀ (ts : List (Option Nat)) (φ : List Nat), leN (capS cap ts φ) φ = true
  | [], φ => leN_refl φ
  | none :: ts, φ => capS_le cap ts φ
  | some i :: ts, φ => leN_trans (capS_le cap ts _) (modify_le cap φ i)
theorem leN_get : ∀ {φ ψ : List Nat} {i n : Nat}, leN ψ φ = true → ψ[i]? = some n → ∃ m, φ[i]? = some m ∧ n ≤ m
  | a :: φ, b :: ψ, 0, n, h, e => by
    simp only [leN, Bool.and_eq_true, decide_eq_true_eq] at h
    simp at e; subst e
    exact ⟨a, rfl, h.1⟩
  | a :: φ, b :: ψ, i + 1, n, h, e => by
    simp only [leN, Bool.and_eq_true, decide_eq_true_eq] at h
    exact leN_get (i := i) h.2 (by simpa using e)
  | [], [], _, _, _, e => by simp at e
  | [], _ :: _, _, _, h, _ => by simp [leN] at h
  | _ :: _, [], _, _, _, e => by simp at e
theorem capS_get (cap : Nat) : ∀ {ts : List (Option Nat)} {φ : List Nat} {i n : Nat}, some i ∈ ts → (capS cap ts φ)[i]? = some n → n ≤ cap
  | none :: ts, φ, i, n, h, e => by
    rcases List.mem_cons.mp h with q | h
    · cases q
    · exact capS_get cap h e
  | some j :: ts, φ, i, n, h, e => by
    rcases List.mem_cons.mp h with q | h
    · have q : i = j := Option.some.inj q
      subst q
      obtain ⟨m, hm, hnm⟩ := leN_get (capS_le cap ts (φ.modify i (min cap))) e
      rw [List.getElem?_modify] at hm
      cases hq : φ[i]? with
      | none => rw [hq] at hm; simp at hm
      | some a =>
        rw [hq] at hm
        simp at hm
        omega
    · exact capS_get cap h e
def Held.cap (c : Nat) (h : Held) : Held := match h.t with
  | .sl i => h
  | .v k => ⟨.v (min c k), h.d, h.v⟩
theorem Held.cap_rt (c : Nat) (h : Held) : Less h.rt (h.cap c).rt := by
  obtain ⟨t, d, v⟩ := h
  cases t with
  | sl i => exact .nil
  | v k => exact .cons ⟨Nat.min_le_right _ _, rfl, rfl⟩ .nil
theorem hrts_cap (c : Nat) : ∀ hs : List Held, Less (hrts hs) (hrts (hs.map (Held.cap c)))
  | [] => .nil
  | h :: hs => by
    show Less (h.rt ++ hrts hs) ((h.cap c).rt ++ hrts (hs.map (Held.cap c)))
    exact Less.app (h.cap_rt c) (hrts_cap c hs)
/-- all that is held may share its parts -/
theorem Stt.cap (S : Stt X.K Z φ env hs σ H L) (c : Nat) : Stt X.K Z (capS c (hs.map fun h => h.t.slot?) φ) env (hs.map (Held.cap c)) σ H L := by
  obtain ⟨a, l⟩ := S.al.less (capS_le c (hs.map fun h => h.t.slot?) φ)
  refine ⟨S.sim.less (Less.app (hrts_cap c hs) (Less.app l (Less.refl L))), a, fun x hx => ?_⟩
  obtain ⟨y, hy, rfl⟩ := List.mem_map.mp hx
  have := S.at' y hy
  obtain ⟨t, d, v⟩ := y
  cases t with
  | sl i => exact this
  | v k => trivial
theorem Stt.less {ψ : List Nat} (S : Stt X.K Z φ env hs σ H L) (h : leN ψ φ = true) : Stt X.K Z ψ env hs σ H L := by
  obtain ⟨a, l⟩ := S.al.less h
  exact ⟨S.sim.less (Less.app (Less.refl _) (Less.app l (Less.refl L))), a, S.at'⟩
/-- a held operand is among the roots -/
theorem Stt.mem {h : Held} {d : DV} (S : Stt X.K Z φ env hs σ H L) (hh : h ∈ hs) (hd : h.t.now h.d env = some d) :
    ∃ n, ⟨n, d, h.v⟩ ∈ hrts hs ++ (roots φ env σ ++ L) ∧ (∀ i, h.t = .sl i → φ[i]? = some n) ∧ ∀ k, h.t = .v k → n = k := by
  obtain ⟨t, d0, v⟩ := h
  cases t with
  | v k =>
    have hd : some d0 = some d := hd
    cases hd
    refine ⟨k, List.mem_append_left _ (List.mem_flatMap.mpr ⟨_, hh, List.mem_singleton.mpr rfl⟩), (fun i e => nomatch e), fun k' e => ?_⟩
    cases e; rfl
  | sl i =>
    obtain ⟨n, v', h1, h2, p⟩ := S.al.get (i := i) hd
    have q : σ[i]? = some (some v) := S.at' _ hh
    rw [h2] at q; cases q
    refine ⟨n, List.mem_append_right _ (List.mem_append_left _ (p.mem_iff.mpr List.mem_cons_self)), fun j e => ?_, fun k e => nomatch e⟩
    cases e; exact h1
theorem Stt.memC {c : Nat} {h : Held} {d : DV} (S : Stt X.K Z φ env hs σ H L) (hh : h ∈ hs) (hd : h.t.now h.d env = some d) :
    ∃ n, n ≤ c ∧ ⟨n, d, h.v⟩ ∈ hrts (hs.map (Held.cap c)) ++ (roots (capS c (hs.map fun h => h.t.slot?) φ) env σ ++ L) := by
  have hh' : h.cap c ∈ hs.map (Held.cap c) := List.mem_map.mpr ⟨h, hh, rfl⟩
  obtain ⟨t, d0, v⟩ := h
  cases t with
  | v k =>
    obtain ⟨n, q, _, q2⟩ := (S.cap c).mem hh' hd
    exact ⟨n, by rw [q2 _ rfl]; exact Nat.min_le_left _ _, q⟩
  | sl i =>
    obtain ⟨n, q, q1, _⟩ := (S.cap c).mem hh' hd
    exact ⟨n, capS_get c (List.mem_map.mpr ⟨_, hh, rfl⟩) (q1 i rfl), q⟩
/-- the end of an operation: the operands go, the result is held -/
theorem Stt.done {k : Nat} {d : DV} {v : V} {H' : Hp} {as : List Held} (S : Stt X.K Z φ env (as ++ hs) σ H L) (h : Sim X.K Z H' (⟨k, d, v⟩ :: (hrts (as ++ hs) ++ (roots φ env σ ++ L)))) : Stt X.K Z φ env (⟨.v k, d, v⟩ :: hs) σ H' L := by
  refine ⟨h.sub (.cons_cons _ ?_), S.al, fun x hx => ?_⟩
  · refine List.Sublist.append_right ?_ _
    show (hrts hs).Sublist ((as ++ hs).flatMap Held.rt)
    rw [List.flatMap_append]
    exact List.sublist_append_right _ _
  · rcases List.mem_cons.mp hx with e | hx
    · subst e; trivial
    · exact S.at' x (List.mem_append_right _ hx)
end
end Lk
namespace Lk
open PySem PySem.Spec L2

section
variable {X : Cx} {Z : ClT} {W : WX} {φ φ1 φ2 φ3 φ' : List Nat} {t ta tb tc : Tm} {f fa fb fc : M DV} {σ : St} {H : Hp} {L : List Root} {env : Ev} {hs : List Held} {a b c e : Expr} {pos : Pos}

theorem Stt.hperm {hs' : List Held} (S : Stt X.K Z φ env hs σ H L) (p : hs.Perm hs') : Stt X.K Z φ env hs' σ H L :=
  ⟨S.sim.perm (List.Perm.append_right _ (List.Perm.flatMap_right _ p)), S.al, fun x hx => S.at' x (p.mem_iff.mpr hx)⟩
/-- the roots of a state -/
abbrev Stt.R (φ : List Nat) (env : Ev) (hs : List Held) (σ : St) (L : List Root) : List Root := hrts hs ++ (roots φ env σ ++ L)

/-! ### names, constants -/
def slotM (i : Nat) : M DV := fun e => match slot e i with
  | some d => .ok d e
  | none => .bad
theorem je_var {i : Nat} {x : Str} (hN : X.N[i]? = some x) (hv : Vis X.env.scope x) (hd : (x == ("__debug__" : Str)) = false) (hcd : (x == ("__classdict__" : Str)) = false) : JE X Z W φ (.Name x pos) φ (.sl i) (slotM i) := by
  refine pe_imp (pe_var hN hv hd hcd) fun σ H Q ⟨L, env, S, h⟩ => ?_
  unfold slotM at h
  cases q : slot env i with
  | none => rw [q] at h; exact h.elim
  | some d =>
    rw [q] at h
    obtain ⟨n, v, h1, h2, p⟩ := S.al.get q
    refine ⟨v, h2, h v H ⟨S.sim, S.al, fun x hx => ?_⟩⟩
    rw [List.mem_singleton.mp hx]
    exact h2
/-- a name whose value goes on by itself: what it holds is not owned any more -/
theorem je_varE {i : Nat} {x : Str} (hN : X.N[i]? = some x) (hv : Vis X.env.scope x) (hd : (x == ("__debug__" : Str)) = false) (hcd : (x == ("__classdict__" : Str)) = false) :
    JE X Z W φ (.Name x pos) (φ.modify i (min 0)) (.v 0) (slotM i) := by
  refine pe_imp (pe_var hN hv hd hcd) fun σ H Q ⟨L, env, S, h⟩ => ?_
  unfold slotM at h
  cases q : slot env i with
  | none => rw [q] at h; exact h.elim
  | some d =>
    rw [q] at h
    have S2 := S.less (modify_le 0 φ i)
    obtain ⟨n, v, h1, h2, p⟩ := S2.al.get q
    have hn : n = 0 := by
      rw [List.getElem?_modify] at h1
      cases q2 : φ[i]? with
      | none => rw [q2] at h1; simp at h1
      | some m => rw [q2] at h1; simp at h1; exact h1.symm
    subst hn
    refine ⟨v, h2, h v H ⟨?_, S2.al, fun x hx => ?_⟩⟩
    · exact S2.sim.dup (List.mem_append_right _ (List.mem_append_left _ (p.mem_iff.mpr List.mem_cons_self)))
    · rw [List.mem_singleton.mp hx]; trivial
theorem je_const {v : V} {d : DV} (hp : PE X e (tC v)) (hd : ∀ H, DenV X.K Z H d v []) : JE X Z W φ e φ (.v 9) (M.pure d) := by
  refine pe_imp hp fun σ H Q ⟨L, env, S, h⟩ => ?_
  refine h v H ⟨S.sim.scal (hd H), S.al, fun x hx => ?_⟩
  rw [List.mem_singleton.mp hx]; trivial

/-! ### two operands -/
def OpD (X : Cx) (Z : ClT) (F : Value → Value → Sem Value) (g : DV → DV → Option DV) (cap k : Nat) : Prop :=
  OpR X F fun x y H Q => ∃ R d e n m r, Sim X.K Z H R ∧ (⟨n, d, x⟩ : Root) ∈ R ∧ (⟨m, e, y⟩ : Root) ∈ R ∧ n ≤ cap ∧ m ≤ cap ∧ g d e = some r ∧ ∀ v H', Sim X.K Z H' (⟨k, r, v⟩ :: R) → Q v H'
def op2 (g : DV → DV → Option DV) (ta tb : Tm) (fa fb : M DV) : M DV := fun env => (fa env).bind fun d e1 => (fb e1).bind fun d' e2 =>
  match ta.now d e2, tb.now d' e2 with
  | some x, some y => (match g x y with
    | some r => .ok r e2
    | none => .bad)
  | _, _ => .bad
abbrev cap2 (cap : Nat) (ta tb : Tm) (φ : List Nat) : List Nat := capS cap [tb.slot?, ta.slot?] φ
theorem cap_slots (c : Nat) (hs : List Held) : hs.map (fun h => h.t.slot?) = hs.map (fun h => h.t.slot?) := rfl
/-- the core: both operands evaluated -/
theorem op2_core {g : DV → DV → Option DV} {cap k : Nat} {P : VK} {x y : V} {d d' : DV} (S : Stt X.K Z φ2 env [⟨tb, d', y⟩, ⟨ta, d, x⟩] σ H L)
    (h : Wish X.K Z W L (match ta.now d env, tb.now d' env with
      | some x, some y => (match g x y with
        | some r => Out.ok r env
        | none => .bad)
      | _, _ => .bad) fun r e' => ∀ v H', Stt X.K Z (cap2 cap ta tb φ2) e' [⟨.v k, r, v⟩] σ H' L → P v H') :
    ∃ R d e n m r, Sim X.K Z H R ∧ (⟨n, d, x⟩ : Root) ∈ R ∧ (⟨m, e, y⟩ : Root) ∈ R ∧ n ≤ cap ∧ m ≤ cap ∧ g d e = some r ∧ ∀ v H', Sim X.K Z H' (⟨k, r, v⟩ :: R) → P v H' := by
  cases q1 : ta.now d env with
  | none => rw [q1] at h; exact h.elim
  | some d1 =>
    cases q2 : tb.now d' env with
    | none => rw [q1, q2] at h; exact h.elim
    | some d2 =>
      rw [q1, q2] at h
      simp only at h
      cases q3 : g d1 d2 with
      | none => rw [q3] at h; exact h.elim
      | some r =>
        rw [q3] at h
        obtain ⟨n, hn, m1⟩ := S.memC (c := cap) (h := ⟨ta, d, x⟩) (List.mem_cons_of_mem _ List.mem_cons_self) q1
        obtain ⟨m, hm, m2⟩ := S.memC (c := cap) (h := ⟨tb, d', y⟩) List.mem_cons_self q2
        refine ⟨_, d1, d2, n, m, r, (S.cap cap).sim, m1, m2, hn, hm, q3, fun v H' s => h v H' ?_⟩
        exact Stt.done (as := [Held.cap cap ⟨tb, d', y⟩, Held.cap cap ⟨ta, d, x⟩]) (hs := []) (S.cap cap) s
theorem je_bin {op : Operator} {g : DV → DV → Option DV} {cap k : Nat} (ho : OpD X Z (binaryOp op) g cap k) (ha : JE X Z W φ a φ1 ta fa) (hb : JE X Z W φ1 b φ2 tb fb) :
    JE X Z W φ (.BinOp a op b pos) (cap2 cap ta tb φ2) (.v k) (op2 g ta tb fa fb) := by
  refine pe_imp (pe_op ho ha hb) fun σ H Q ⟨L, env, S, h⟩ => ?_
  refine rdE.go S (h.bind.mono fun d e1 h1 v H1 S1 => ?_)
  refine rdE.go S1 (h1.bind.mono fun d' e2 h2 u H2 S2 => ?_)
  exact op2_core S2 h2
theorem je_cmp {op : CmpOp} {g : DV → DV → Option DV} {cap k : Nat} (ho : OpD X Z (compareOp op) g cap k) (hm : behindInMarks op b = false) (ha : JE X Z W φ a φ1 ta fa) (hb : JE X Z W φ1 b φ2 tb fb) :
    JE X Z W φ (.Compare a [op] [b] pos) (cap2 cap ta tb φ2) (.v k) (op2 g ta tb fa fb) := by
  refine pe_imp (pe_cmpR ho ha hb hm) fun σ H Q ⟨L, env, S, h⟩ => ?_
  refine rdE.go S (h.bind.mono fun d e1 h1 v H1 S1 => ?_)
  refine rdE.go S1 (h1.bind.mono fun d' e2 h2 u H2 S2 => ?_)
  exact op2_core S2 h2
/-- a truth value is told by the term -/
def asB (t : Tm) (f : M DV) : M Bool := fun env => (f env).bind fun d e => match t.now d e with
  | some (.d (.bool b)) => .ok b e
  | _ => .bad
theorem Stt.isB {h : Held} {k : Bool} (S : Stt X.K Z φ env hs σ H L) (hh : h ∈ hs) (hd : h.t.now h.d env = some (.d (.bool k))) : h.v = .bl k := by
  obtain ⟨n, q, _⟩ := S.mem hh hd
  exact S.sim.bl q
theorem Stt.free {h : Held} (S : Stt X.K Z φ env (h :: hs) σ H L) : Stt X.K Z φ env hs σ H L :=
  ⟨S.sim.sub (List.Sublist.append_right (List.sublist_append_right _ _) _), S.al, fun x hx => S.at' x (List.mem_cons_of_mem _ hx)⟩
theorem jt_cmp {op : CmpOp} {g : DV → DV → Option DV} {cap k : Nat} (ho : OpD X Z (compareOp op) g cap k) (hm : behindInMarks op b = false) (ha : JE X Z W φ a φ1 ta fa) (hb : JE X Z W φ1 b φ2 tb fb) :
    JT X Z W φ (.Compare a [op] [b] pos) (cap2 cap ta tb φ2) (asB (.v k) (op2 g ta tb fa fb)) := by
  refine pt_imp (pt_cmpR ho ha hb hm) fun σ H Q ⟨L, env, S, h⟩ => ?_
  have h := h.bind
  refine rdE.go S (h.bind.mono fun d e1 h1 v H1 S1 => ?_)
  refine rdE.go S1 (h1.bind.mono fun d' e2 h2 u H2 S2 => ?_)
  refine op2_core (k := k) (P := fun x H' => ∃ k, x = .bl k ∧ Q k H') S2 (h2.mono fun r e3 h3 w H3 S3 => ?_)
  cases r with
  | d r =>
    cases r with
    | bool kb => exact ⟨kb, S3.isB List.mem_cons_self rfl, h3 H3 S3.free⟩
    | none => exact h3.elim
    | int _ => exact h3.elim
    | str _ => exact h3.elim
    | list _ => exact h3.elim
    | tuple _ => exact h3.elim
    | dict _ => exact h3.elim
  | o _ _ => exact h3.elim
  | x _ _ => exact h3.elim
  | f _ _ => exact h3.elim
  | s _ => exact h3.elim

/-! ### truth -/
def truD : DV → Option Bool
  | .d .none => some false
  | .d (.bool b) => some b
  | .d (.int i) => some (i != 0)
  | .d (.str x) => if x.length ≤ 1000000 then some ((x.length : Int) != 0) else none
  | .d (.list xs) => some (!xs.isEmpty)
  | .d (.tuple xs) => some (!xs.isEmpty)
  | _ => none
theorem isEmpty_len {α β : Type} {xs : List α} {ys : List β} (h : xs.length = ys.length) : (!xs.isEmpty) = !ys.isEmpty := by
  cases xs <;> cases ys <;> first | rfl | simp at h
theorem Stt.tru {h : Held} {d : DV} {k : Bool} (S : Stt X.K Z φ env hs σ H L) (hh : h ∈ hs) (hd : h.t.now h.d env = some d) (ht : truD d = some k) : TruV X.K h.v H k := by
  obtain ⟨n, q, _⟩ := S.mem hh hd
  cases d with
  | d d =>
    cases d with
    | none =>
      rw [S.sim.non q]
      exact (Option.some.inj ht).symm
    | bool b =>
      rw [S.sim.bl q]
      exact (Option.some.inj ht).symm
    | int i =>
      rw [S.sim.int q]
      exact (Option.some.inj ht).symm
    | str x =>
      rw [S.sim.str q]
      have ht : (if x.length ≤ 1000000 then some ((x.length : Int) != 0) else none) = some k := ht
      by_cases hx : x.length ≤ 1000000
      · rw [if_pos hx] at ht
        have hz : x.length ≤ sizeLine := by rw [sizeLine_eq]; omega
        exact ⟨hz, (Option.some.inj ht).symm⟩
      · rw [if_neg hx] at ht; cases ht
    | list ds =>
      obtain ⟨a, vs, e, hl, hn⟩ := S.sim.seeL q
      rw [e]
      exact .inl ⟨vs, .of hl, by rw [← Option.some.inj ht]; exact isEmpty_len hn⟩
    | tuple ds =>
      obtain ⟨a, vs, e, hl, hn⟩ := S.sim.seeT q
      rw [e]
      exact .inr (.inl ⟨vs, hl, by rw [← Option.some.inj ht]; exact isEmpty_len hn⟩)
    | dict _ => cases ht
  | o _ _ => cases ht
  | x _ _ => cases ht
  | f _ _ => cases ht
  | s _ => cases ht
def truM (t : Tm) (f : M DV) : M Bool := fun env => (f env).bind fun d e => match t.now d e with
  | some x => (match truD x with
    | some b => .ok b e
    | none => .bad)
  | none => .bad
/-- expressions whose test is the truth of the value -/
def plainTest : Expr → Bool
  | .UnaryOp .Not _ _ => false
  | .BoolOp .. => false
  | .IfExp .. => false
  | .Compare .. => false
  | _ => true
theorem plainTest_eq {env : PySem.Env} : ∀ {a : Expr}, plainTest a = true → ∀ whole, isTrue a env whole = (do let v ← whole; standAt a.pos; holding [v] (truthy v)) := by
  intro a h whole
  cases a <;> first | rfl | cases h | skip
  rename_i op x p
  cases op <;> first | rfl | cases h
theorem jt_truth (ha : JE X Z W φ a φ1 ta fa) (hp : plainTest a = true) : JT X Z W φ a φ1 (truM ta fa) := by
  refine pt_imp (pt_truth ha (plainTest_eq hp)) fun σ H Q ⟨L, env, S, h⟩ => ?_
  refine rdE.go S (h.bind.mono fun d e1 h1 v H1 S1 => ?_)
  cases q1 : ta.now d e1 with
  | none => rw [q1] at h1; exact h1.elim
  | some d1 =>
    rw [q1] at h1
    simp only at h1
    cases q2 : truD d1 with
    | none => rw [q2] at h1; exact h1.elim
    | some k =>
      rw [q2] at h1
      exact ⟨k, S1.tru (h := ⟨ta, d, v⟩) List.mem_cons_self q1 q2, h1 H1 S1.free⟩
def notM (f : M Bool) : M Bool := fun env => (f env).bind fun b e => .ok (!b) e
theorem jt_not {f : M Bool} (ha : JT X Z W φ a φ1 f) : JT X Z W φ (.UnaryOp .Not a pos) φ1 (notM f) := by
  refine pt_imp (pt_not ha) fun σ H Q ⟨L, env, S, h⟩ => ?_
  exact rdT.go S h.bind
def andM (f g : M Bool) : M Bool := fun env => (f env).bind fun b e => match b with
  | true => g e
  | false => .ok false e
def orM (f g : M Bool) : M Bool := fun env => (f env).bind fun b e => match b with
  | true => .ok true e
  | false => g e
/-- and, or as tests; the second operand must leave the flags (it may lessen them) -/
def JW (X : Cx) (Z : ClT) (W : WX) (φ : List Nat) (e : Expr) (φ' : List Nat) (f : M Bool) : Prop := PW X e (rdT X Z W φ φ' f)
theorem pw_imp {e : Expr} {t t' : TT} (h : PW X e t) (i : ∀ σ H Q, t' σ H Q → t σ H Q) : PW X e t' := ⟨fun wh pins s σ H Q I q => h.run wh pins s σ H Q I (i _ _ _ q)⟩
theorem jw_and1 {f : M Bool} (ha : JT X Z W φ a φ1 f) : JW X Z W φ (.BoolOp .And [a] pos) φ1 f := pw_and1 ha
theorem jw_or1 {f : M Bool} (ha : JT X Z W φ a φ1 f) : JW X Z W φ (.BoolOp .Or [a] pos) φ1 f := pw_or1 ha
theorem rdT.less {f : M Bool} {Q : Bool → Hp → Prop} (hl : leN φ2 φ1 = true) (h : rdT X Z W φ φ2 f σ H Q) : rdT X Z W φ φ1 f σ H Q := by
  obtain ⟨L, env, S, h⟩ := h
  exact ⟨L, env, S, h.mono fun b e k H' S' => k H' (S'.less hl)⟩
theorem jw_and {f g : M Bool} {rest : List Expr} (ha : JT X Z W φ a φ1 f) (hb : JW X Z W φ1 (.BoolOp .And (b :: rest) pos) φ2 g) (hl : leN φ2 φ1 = true) : JW X Z W φ (.BoolOp .And (a :: b :: rest) pos) φ2 (andM f g) := by
  refine pw_imp (pw_and ha hb) fun σ H Q ⟨L, env, S, h⟩ => ?_
  refine rdT.go S (h.bind.mono fun k e1 h1 H1 S1 => ?_)
  cases k with
  | true => exact rdT.go S1 h1
  | false => exact h1 H1 (S1.less hl)
theorem jw_or {f g : M Bool} {rest : List Expr} (ha : JT X Z W φ a φ1 f) (hb : JW X Z W φ1 (.BoolOp .Or (b :: rest) pos) φ2 g) (hl : leN φ2 φ1 = true) : JW X Z W φ (.BoolOp .Or (a :: b :: rest) pos) φ2 (orM f g) := by
  refine pw_imp (pw_or ha hb) fun σ H Q ⟨L, env, S, h⟩ => ?_
  refine rdT.go S (h.bind.mono fun k e1 h1 H1 S1 => ?_)
  cases k with
  | false => exact rdT.go S1 h1
  | true => exact h1 H1 (S1.less hl)
theorem jt_w {f : M Bool} (h : JW X Z W φ a φ1 f) : JT X Z W φ a φ1 f := h.pt
/-! .. as values: the operands are tests or bools -/
def blM (f : M Bool) : M DV := fun env => (f env).bind fun b e => .ok (.d (.bool b)) e
theorem je_one {op : BoolOp} (ha : JE X Z W φ a φ1 ta fa) : JE X Z W φ (.BoolOp op [a] pos) φ1 ta fa := pe_one ha
def andV (ta : Tm) (fa fb : M DV) : M DV := fun env => (asB ta fa env).bind fun k e => match k with
  | true => fb e
  | false => .ok (.d (.bool false)) e
def orV (ta : Tm) (fa fb : M DV) : M DV := fun env => (asB ta fa env).bind fun k e => match k with
  | true => .ok (.d (.bool true)) e
  | false => fb e
theorem asB_split {σ : St} {P : Bool → Ev → Prop} (h : Wish X.K Z W L (asB ta fa env) P) : Wish X.K Z W L (fa env) fun d e => ∃ k, ta.now d e = some (.d (.bool k)) ∧ P k e := by
  refine h.bind.mono fun d e h => ?_
  cases q : ta.now d e with
  | none => rw [q] at h; exact h.elim
  | some x =>
    rw [q] at h
    cases x with
    | d x =>
      cases x with
      | bool k => exact ⟨k, rfl, h⟩
      | none => exact h.elim
      | int _ => exact h.elim
      | str _ => exact h.elim
      | list _ => exact h.elim
      | tuple _ => exact h.elim
      | dict _ => exact h.elim
    | o _ _ => exact h.elim
    | x _ _ => exact h.elim
    | f _ _ => exact h.elim
    | s _ => exact h.elim
/-- a value by itself with flag k stands for any slotless value -/
theorem je_and {rest : List Expr} {k : Nat} (ha : JE X Z W φ a φ1 ta fa) (hb : JE X Z W φ1 (.BoolOp .And (b :: rest) pos) φ2 (.v k) fb) (hl : leN φ2 φ1 = true) :
    JE X Z W φ (.BoolOp .And (a :: b :: rest) pos) φ2 (.v k) (andV ta fa fb) := by
  refine pe_imp (pe_and ha hb) fun σ H Q ⟨L, env, S, h⟩ => ?_
  refine rdE.go S ((asB_split (σ := σ) h.bind).mono fun d e1 ⟨kb, q, h1⟩ v H1 S1 => ?_)
  refine ⟨kb, S1.isB (h := ⟨ta, d, v⟩) List.mem_cons_self q, ?_⟩
  cases kb with
  | true => exact rdE.go S1.free h1
  | false =>
    refine h1 (.bl false) H1 ⟨((S1.free.less hl).sim.scal (.d (.bl false))), (S1.free.less hl).al, fun x hx => ?_⟩
    rw [List.mem_singleton.mp hx]; trivial
theorem je_or {rest : List Expr} {k : Nat} (ha : JE X Z W φ a φ1 ta fa) (hb : JE X Z W φ1 (.BoolOp .Or (b :: rest) pos) φ2 (.v k) fb) (hl : leN φ2 φ1 = true) :
    JE X Z W φ (.BoolOp .Or (a :: b :: rest) pos) φ2 (.v k) (orV ta fa fb) := by
  refine pe_imp (pe_or ha hb) fun σ H Q ⟨L, env, S, h⟩ => ?_
  refine rdE.go S ((asB_split (σ := σ) h.bind).mono fun d e1 ⟨kb, q, h1⟩ v H1 S1 => ?_)
  refine ⟨kb, S1.isB (h := ⟨ta, d, v⟩) List.mem_cons_self q, ?_⟩
  cases kb with
  | false => exact rdE.go S1.free h1
  | true =>
    refine h1 (.bl true) H1 ⟨((S1.free.less hl).sim.scal (.d (.bl true))), (S1.free.less hl).al, fun x hx => ?_⟩
    rw [List.mem_singleton.mp hx]; trivial
def notV (ta : Tm) (fa : M DV) : M DV := blM (notM (asB ta fa))
theorem je_not (ha : JE X Z W φ a φ1 ta fa) : JE X Z W φ (.UnaryOp .Not a pos) φ1 (.v 9) (notV ta fa) := by
  refine pe_imp (pe_not ha) fun σ H Q ⟨L, env, S, h⟩ => ?_
  refine rdE.go S ((asB_split (σ := σ) h.bind.bind).mono fun d e1 ⟨kb, q, h1⟩ v H1 S1 => ?_)
  refine ⟨kb, S1.isB (h := ⟨ta, d, v⟩) List.mem_cons_self q, ?_⟩
  refine h1 (.bl (!kb)) H1 ⟨S1.free.sim.scal (.d (.bl _)), S1.free.al, fun x hx => ?_⟩
  rw [List.mem_singleton.mp hx]; trivial
/-! a if t else b -/
def ifM (ft : M Bool) (fa fb : M DV) : M DV := fun env => (ft env).bind fun k e => match k with
  | true => fa e
  | false => fb e
theorem je_if {ft : M Bool} {k ka kb : Nat} (hc : JT X Z W φ c φ1 ft) (ha : JE X Z W φ1 a φ2 (.v ka) fa) (hb : JE X Z W φ1 b φ3 (.v kb) fb) (h2 : leN φ' φ2 = true) (h3 : leN φ' φ3 = true) (k2 : k ≤ ka) (k3 : k ≤ kb) :
    JE X Z W φ (.IfExp c a b pos) φ' (.v k) (ifM ft fa fb) := by
  refine pe_imp (pe_ifExp hc ha hb) fun σ H Q ⟨L, env, S, h⟩ => ?_
  refine rdT.go S (h.bind.mono fun kb e1 h1 H1 S1 => ?_)
  have low : ∀ {e : Ev} {d : DV} {v : V} {H' : Hp} {n : Nat}, k ≤ n → Stt X.K Z φ' e [⟨.v n, d, v⟩] σ H' L → Stt X.K Z φ' e [⟨.v k, d, v⟩] σ H' L := fun {e d v H' n} hk s =>
    ⟨s.sim.weak hk, s.al, fun x hx => by rw [List.mem_singleton.mp hx]; trivial⟩
  cases kb with
  | true => exact rdE.go S1 (h1.mono fun d e2 h2' v H2 S2 => h2' v H2 (low k2 (S2.less h2)))
  | false => exact rdE.go S1 (h1.mono fun d e2 h2' v H2 S2 => h2' v H2 (low k3 (S2.less h3)))
end
end Lk
namespace Lk
open PySem PySem.Spec L2

abbrev big : Nat := 1000000
theorem big_line {n : Nat} (h : n ≤ big) : n ≤ sizeLine := by rw [sizeLine_eq]; unfold big at h; omega
def lift2 (g : PyData → PyData → Option PyData) : DV → DV → Option DV
  | .d x, .d y => (g x y).map .d
  | _, _ => none
def lift1 (g : PyData → Option PyData) : DV → Option DV
  | .d x => (g x).map .d
  | _ => none

/-! ### the operations -/
def addP : PyData → PyData → Option PyData
  | .int i, .int j => some (.int (i + j))
  | .str x, .str y => if x.length + y.length ≤ big then some (.str (x ++ y)) else none
  | .list xs, .list ys => if xs.length + ys.length ≤ big then some (.list (xs ++ ys)) else none
  | .tuple xs, .tuple ys => if xs.length + ys.length ≤ big then some (.tuple (xs ++ ys)) else none
  | _, _ => none
def subP : PyData → PyData → Option PyData
  | .int i, .int j => some (.int (i - j))
  | _, _ => none
def mulP : PyData → PyData → Option PyData
  | .int i, .int j => if (-(2 ^ 64) < i ∧ i < 2 ^ 64) ∨ (-(2 ^ 64) < j ∧ j < 2 ^ 64) then some (.int (i * j)) else none
  | _, _ => none
def divP : PyData → PyData → Option PyData
  | .int i, .int j => if 0 < j ∧ j < 1073741824 then some (.int (i / j)) else none
  | _, _ => none
def modP : PyData → PyData → Option PyData
  | .int i, .int j => if 0 < j then some (.int (i % j)) else none
  | _, _ => none
def powP : PyData → PyData → Option PyData
  | .int i, .int j => if 0 ≤ j ∧ j ≤ 1000000 ∧ i.natAbs < 2 ^ 64 then some (.int (i ^ j.toNat)) else none
  | _, _ => none
def shlP : PyData → PyData → Option PyData
  | .int i, .int j => if 0 ≤ j ∧ j ≤ 1000000 ∧ i.natAbs < 2 ^ 64 then some (.int (i * 2 ^ j.toNat)) else none
  | _, _ => none
def shrP : PyData → PyData → Option PyData
  | .int i, .int j => if 0 ≤ j then some (.int (i / 2 ^ j.toNat)) else none
  | _, _ => none
def andP : PyData → PyData → Option PyData
  | .int i, .int j => some (.int (Builtin.bitAnd i j))
  | _, _ => none
def borP : PyData → PyData → Option PyData
  | .int i, .int j => some (.int (Builtin.bitOr i j))
  | _, _ => none
def xorP : PyData → PyData → Option PyData
  | .int i, .int j => some (.int (Builtin.bitXor i j))
  | _, _ => none
/-- two texts -/
def bothS : PyData → PyData → Bool
  | .str _, .str _ => true
  | _, _ => false
def eqP (x y : PyData) : Option PyData := if bothS x y || (SeqAt.shaped x && SeqAt.shaped y) then some (.bool (PyData.eqv x y)) else none
def neP (x y : PyData) : Option PyData := if bothS x y || (SeqAt.shaped x && SeqAt.shaped y) then some (.bool (!PyData.eqv x y)) else none
theorem bothS_eq {x y : PyData} (h : bothS x y = true) : ∃ a b, x = .str a ∧ y = .str b := by
  unfold bothS at h
  split at h
  · exact ⟨_, _, rfl, rfl⟩
  · cases h
theorem eqv_strs {a b : Str} : PyData.eqv (.str a) (.str b) = decide (V.str a = V.str b) := by
  rw [dec_str]
  simp [PyData.eqv]
def inP (x : PyData) : PyData → Option PyData
  | .list ys => if SeqAt.shaped x && SeqAt.shaped (.list ys) then some (.bool (ys.any fun z => PyData.eqv z x)) else none
  | .tuple ys => if SeqAt.shaped x && SeqAt.shaped (.tuple ys) then some (.bool (ys.any fun z => PyData.eqv z x)) else none
  | .str y => match x with
    | .str x => some (.bool (!(Builtin.Str.occurrences y x 0 y.length 1).isEmpty))
    | _ => none
  | _ => none
def notP : PyData → Option PyData
  | .bool b => some (.bool (!b))
  | _ => none
def notInP (x y : PyData) : Option PyData := (inP x y).bind notP
def isP : PyData → PyData → Option PyData
  | x, .none => match x with
    | .none => some (.bool true)
    | _ => some (.bool false)
  | .bool a, .bool b => some (.bool (decide (a = b)))
  | _, _ => none
def isNotP (x y : PyData) : Option PyData := (isP x y).bind notP
/-- the index of a place, from behind if below 0 -/
def ixP : PyData → PyData → Option PyData
  | .list xs, .int i => atI xs i
  | .tuple xs, .int i => atI xs i
  | .str x, .int i => if x.length ≤ big then (atI x.cps.toList i).map fun c => .str ⟨#[c]⟩ else none
  | _, _ => none
def ixD : DV → DV → Option DV
  | .s ns, .d (.int i) => (atI ns i).map fun n => .d (.int n)
  | .d x, .d y => (ixP x y).map .d
  | _, _ => none

section
variable {X : Cx} {Z : ClT} {H H' : Hp} {R : List Root}
theorem opd_lift {F : Value → Value → Sem Value} {g : PyData → PyData → Option PyData} {cap k : Nat}
    (h : ∀ (pins : List (Addr × Obj)) (s : Shared) (σ : St) (H : Hp) (x y : V) (v u : Value) (Q : VK) (p q r : PyData) (R : List Root) (n m : Nat), Inv X pins σ H s → RelV x v → RelV y u → Sim X.K Z H R → (⟨n, .d p, x⟩ : Root) ∈ R → (⟨m, .d q, y⟩ : Root) ∈ R →
      n ≤ cap → m ≤ cap → g p q = some r → (∀ w H', Sim X.K Z H' (⟨k, .d r, w⟩ :: R) → Q w H') → wpAny (model X.prog X.w) X.A (F v u) (EP X pins σ Q) X.xe s) : OpD X Z F (lift2 g) cap k := by
  intro pins s σ H x y v u Q I rx ry ⟨R, d, e, n, m, r, S, h1, h2, hn, hm, hg, hq⟩
  cases d with
  | d p =>
    cases e with
    | d q =>
      have hg : (g p q).map DV.d = some r := hg
      cases q3 : g p q with
      | none => rw [q3] at hg; cases hg
      | some r' =>
        rw [q3] at hg
        cases hg
        exact h pins s σ H x y v u Q p q r' R n m I rx ry S h1 h2 hn hm q3 hq
    | _ => cases hg
  | _ => cases hg
theorem Sim.cint {k : Nat} {i : Int} (S : Sim X.K Z H R) : Sim X.K Z H (⟨k, .d (.int i), .int i⟩ :: R) := S.scal (.d (.int i))
theorem Sim.cbl {k : Nat} {i : Bool} (S : Sim X.K Z H R) : Sim X.K Z H (⟨k, .d (.bool i), .bl i⟩ :: R) := S.scal (.d (.bl i))
theorem Sim.cstr {k : Nat} {i : Str} (S : Sim X.K Z H R) : Sim X.K Z H (⟨k, .d (.str i), .str i⟩ :: R) := S.scal (.d (.str i))
theorem kids_append {m : Nat} : ∀ {ds es : List PyData} {vs us : List V}, ds.length = vs.length → kids m (ds ++ es) (vs ++ us) = kids m ds vs ++ kids m es us := fun {ds es vs us} h => by
  unfold kids
  exact List.zipWith_append h

theorem op_addD : OpD X Z (binaryOp .Add) (lift2 addP) 1 1 := opd_lift fun pins s σ H x y v u Q p q r R n m I rx ry S h1 h2 hn hm hg hq => by
  cases p with
  | int i =>
    cases q with
    | int j =>
      cases hg
      rw [S.int h1] at rx; rw [S.int h2] at ry
      exact op_add pins s σ H _ _ v u Q I rx ry ⟨i, j, rfl, rfl, hq _ _ S.cint⟩
    | _ => cases hg
  | str a =>
    cases q with
    | str b =>
      have hg : (if a.length + b.length ≤ big then some (PyData.str (a ++ b)) else none) = some r := hg
      split at hg
      · rename_i hl
        cases hg
        rw [S.str h1] at rx; rw [S.str h2] at ry
        exact op_add_str pins s σ H _ _ v u Q I rx ry ⟨a, b, rfl, rfl, big_line hl, hq _ _ S.cstr⟩
      · cases hg
    | _ => cases hg
  | list a =>
    cases q with
    | list b =>
      have hg : (if a.length + b.length ≤ big then some (PyData.list (a ++ b)) else none) = some r := hg
      split at hg
      · rename_i hl
        cases hg
        obtain ⟨l1, vs1, rfl, e1, n1, S1⟩ := S.openL h1 hn
        obtain ⟨l2, vs2, rfl, e2, n2, S2⟩ := S1.openL (List.mem_append_right _ h2) hm
        refine op_cat pins s σ H _ _ v u Q I rx ry ⟨l1, l2, vs1, vs2, rfl, rfl, e1, e2, big_line (by omega), fun p hp => hq _ _ ?_⟩
        refine Sim.mkL (n := 0) (S2.perm ?_) (by simp [n1, n2]) hp
        rw [kids_append n1, ← List.append_assoc]
        exact List.Perm.append_right _ List.perm_append_comm
      · cases hg
    | _ => cases hg
  | tuple a =>
    cases q with
    | tuple b =>
      have hg : (if a.length + b.length ≤ big then some (PyData.tuple (a ++ b)) else none) = some r := hg
      split at hg
      · rename_i hl
        cases hg
        obtain ⟨l1, vs1, rfl, e1, n1, S1⟩ := S.openT h1 hn
        obtain ⟨l2, vs2, rfl, e2, n2, S2⟩ := S1.openT (List.mem_append_right _ h2) hm
        refine op_catA pins s σ H _ _ v u Q I rx ry ⟨l1, l2, vs1, vs2, rfl, rfl, e1, e2, big_line (by omega), fun z => ?_, fun z z2 => ?_, fun _ _ p hp => hq _ _ ?_⟩
        · subst z
          have : a = [] := List.eq_nil_of_length_eq_zero n1
          subst this
          exact hq _ _ (S.again h2 hm)
        · subst z2
          have : b = [] := List.eq_nil_of_length_eq_zero n2
          subst this
          rw [List.append_nil] at hq
          exact hq _ _ (S.again h1 hn)
        · refine Sim.mkT (n := 0) (S2.perm ?_) (by simp [n1, n2]) hp
          rw [kids_append n1, ← List.append_assoc]
          exact List.Perm.append_right _ List.perm_append_comm
      · cases hg
    | _ => cases hg
  | _ => cases hg

/-! ### ints -/
theorem opd_int {F : Value → Value → Sem Value} {g : PyData → PyData → Option PyData} {C : Int → Int → Prop} {h : Int → Int → Int} {k : Nat} (ho : OpR X F (rI C fun i j => .int (h i j)))
    (hg : ∀ p q r, g p q = some r → ∃ i j, p = .int i ∧ q = .int j ∧ C i j ∧ r = .int (h i j)) : OpD X Z F (lift2 g) 9 k := opd_lift fun pins s σ H x y v u Q p q r R n m I rx ry S h1 h2 hn hm hgr hq => by
  obtain ⟨i, j, rfl, rfl, hc, rfl⟩ := hg _ _ _ hgr
  rw [S.int h1] at rx; rw [S.int h2] at ry
  exact ho pins s σ H _ _ v u Q I rx ry ⟨i, j, rfl, rfl, hc, hq _ _ S.cint⟩
theorem rI_of0 {F : Value → Value → Sem Value} {h : Int → Int → V} (ho : OpR X F (rI0 h)) : OpR X F (rI (fun _ _ => True) h) := fun pins s σ H x y v u Q I rx ry ⟨i, j, e1, e2, _, q⟩ => ho pins s σ H x y v u Q I rx ry ⟨i, j, e1, e2, q⟩
theorem op_subD : OpD X Z (binaryOp .Sub) (lift2 subP) 9 9 := opd_int (rI_of0 op_sub) fun p q r h => by
  unfold subP at h
  split at h
  · cases h; exact ⟨_, _, rfl, rfl, trivial, rfl⟩
  · cases h
theorem op_mulD : OpD X Z (binaryOp .Mult) (lift2 mulP) 9 9 := opd_int op_mul fun p q r h => by
  unfold mulP at h
  split at h
  · split at h
    · rename_i hc
      cases h; exact ⟨_, _, rfl, rfl, hc, rfl⟩
    · cases h
  · cases h
theorem op_divD : OpD X Z (binaryOp .FloorDiv) (lift2 divP) 9 9 := opd_int op_fdiv fun p q r h => by
  unfold divP at h
  split at h
  · split at h
    · rename_i hc
      cases h; exact ⟨_, _, rfl, rfl, hc, rfl⟩
    · cases h
  · cases h
theorem op_modD : OpD X Z (binaryOp .Mod) (lift2 modP) 9 9 := opd_int op_mod fun p q r h => by
  unfold modP at h
  split at h
  · split at h
    · rename_i hc
      cases h; exact ⟨_, _, rfl, rfl, hc, rfl⟩
    · cases h
  · cases h
theorem op_powD : OpD X Z (binaryOp .Pow) (lift2 powP) 9 9 := opd_int op_pow fun p q r h => by
  unfold powP at h
  split at h
  · split at h
    · rename_i hc
      cases h; exact ⟨_, _, rfl, rfl, hc, rfl⟩
    · cases h
  · cases h
theorem op_shlD : OpD X Z (binaryOp .LShift) (lift2 shlP) 9 9 := opd_int op_shl fun p q r h => by
  unfold shlP at h
  split at h
  · split at h
    · rename_i hc
      cases h; exact ⟨_, _, rfl, rfl, hc, rfl⟩
    · cases h
  · cases h
theorem op_shrD : OpD X Z (binaryOp .RShift) (lift2 shrP) 9 9 := opd_int op_shr fun p q r h => by
  unfold shrP at h
  split at h
  · split at h
    · rename_i hc
      cases h; exact ⟨_, _, rfl, rfl, hc, rfl⟩
    · cases h
  · cases h
theorem op_andD : OpD X Z (binaryOp .BitAnd) (lift2 andP) 9 9 := opd_int (rI_of0 op_and) fun p q r h => by
  unfold andP at h
  split at h
  · cases h; exact ⟨_, _, rfl, rfl, trivial, rfl⟩
  · cases h
theorem op_borD : OpD X Z (binaryOp .BitOr) (lift2 borP) 9 9 := opd_int (rI_of0 op_or) fun p q r h => by
  unfold borP at h
  split at h
  · cases h; exact ⟨_, _, rfl, rfl, trivial, rfl⟩
  · cases h
theorem op_xorD : OpD X Z (binaryOp .BitXor) (lift2 xorP) 9 9 := opd_int (rI_of0 op_xor) fun p q r h => by
  unfold xorP at h
  split at h
  · cases h; exact ⟨_, _, rfl, rfl, trivial, rfl⟩
  · cases h

/-! ### == != in -/
mutual
theorem Den.dp {K : PySem.W.Frag} {H : Hp} : ∀ {d : PyData} {v : V} {G : Ft}, Den K H d v G → d.canLay0 = true → Dp K H v d
  | _, _, _, .non, _ => .non
  | _, _, _, .bl b, _ => .bl b
  | _, _, _, .int i, _ => .int i
  | _, _, _, .str x, _ => .str x
  | _, _, _, .lst h1 h2, c => .lst (.of h1) (DenL.dp h2 (by simpa [PyData.canLay0] using c))
  | _, _, _, .tup h1 h2, c => .tup h1 (DenL.dp h2 (by simpa [PyData.canLay0] using c))
  | _, _, _, .dic h1 h2 h3, c => absurd c (by simp [PyData.canLay0])
theorem DenL.dp {K : PySem.W.Frag} {H : Hp} : ∀ {ds : List PyData} {vs : List V} {G : Ft}, DenL K H ds vs G → PyData.canLayAll0 ds = true → DpAll K H vs ds
  | _, _, _, .nil, _ => .nil
  | _, _, _, .cons h1 h2, c => .cons (Den.dp h1 (by simp only [PyData.canLayAll0, Bool.and_eq_true] at c; exact c.1)) (DenL.dp h2 (by simp only [PyData.canLayAll0, Bool.and_eq_true] at c; exact c.2))
end
theorem Sim.dp {n : Nat} {d : PyData} {v : V} (S : Sim X.K Z H R) (h : (⟨n, .d d, v⟩ : Root) ∈ R) (hs : SeqAt.shaped d = true) : Dp X.K H v d := by
  obtain ⟨G, hd⟩ := S.den h
  cases hd with
  | d hd => exact hd.dp (SeqAt.canLay_of_shaped hs)
theorem op_eqDD (hu : X.A.units + 64 < cLine) : OpD X Z (compareOp .Eq) (lift2 eqP) 9 9 := opd_lift fun pins s σ H x y v u Q p q r R n m I rx ry S h1 h2 hn hm hg hq => by
  unfold eqP at hg
  split at hg
  · rename_i hs
    simp only [Bool.or_eq_true, Bool.and_eq_true] at hs
    cases hg
    rcases hs with hs | hs
    · obtain ⟨a, b, rfl, rfl⟩ := bothS_eq hs
      rw [S.str h1] at rx; rw [S.str h2] at ry
      exact op_eq pins s σ H _ _ v u Q I rx ry ⟨rfl, by rw [← eqv_strs]; exact hq _ _ S.cbl⟩
    exact op_eqD hu pins s σ H x y v u Q I rx ry ⟨p, q, S.dp h1 hs.1, S.dp h2 hs.2, hs.1, hs.2, hq _ _ S.cbl⟩
  · cases hg
theorem op_neDD (hu : X.A.units + 64 < cLine) : OpD X Z (compareOp .NotEq) (lift2 neP) 9 9 := opd_lift fun pins s σ H x y v u Q p q r R n m I rx ry S h1 h2 hn hm hg hq => by
  unfold neP at hg
  split at hg
  · rename_i hs
    simp only [Bool.or_eq_true, Bool.and_eq_true] at hs
    cases hg
    rcases hs with hs | hs
    · obtain ⟨a, b, rfl, rfl⟩ := bothS_eq hs
      rw [S.str h1] at rx; rw [S.str h2] at ry
      exact op_ne pins s σ H _ _ v u Q I rx ry ⟨rfl, by rw [← eqv_strs]; exact hq _ _ S.cbl⟩
    exact op_neD hu pins s σ H x y v u Q I rx ry ⟨p, q, S.dp h1 hs.1, S.dp h2 hs.2, hs.1, hs.2, hq _ _ S.cbl⟩
  · cases hg

theorem shaped_items {ys : List PyData} (h : SeqAt.shaped (.list ys) = true) : PyData.canLayAll0 ys = true := by
  have := SeqAt.canLay_of_shaped h
  simpa [PyData.canLay0] using this
theorem shaped_itemsT {ys : List PyData} (h : SeqAt.shaped (.tuple ys) = true) : PyData.canLayAll0 ys = true := by
  have := SeqAt.canLay_of_shaped h
  simpa [PyData.canLay0] using this
theorem op_inDD (hu : X.A.units + 65 < cLine) : OpD X Z (compareOp .In) (lift2 inP) 9 9 := opd_lift fun pins s σ H x y v u Q p q r R n m I rx ry S h1 h2 hn hm hg hq => by
  unfold inP at hg
  split at hg
  · rename_i ys
    split at hg
    · rename_i hs
      simp only [Bool.and_eq_true] at hs
      cases hg
      exact op_inD hu pins s σ H x y v u Q I rx ry ⟨p, ys, S.dp h1 hs.1, S.dp h2 hs.2, hs.1, hs.2, hq _ _ S.cbl⟩
    · cases hg
  · rename_i ys
    split at hg
    · rename_i hs
      simp only [Bool.and_eq_true] at hs
      cases hg
      obtain ⟨as, r1⟩ := Dp.reads I p x v (S.dp h1 hs.1) rx
      obtain ⟨bs, r2⟩ := Dp.reads I (.tuple ys) y u (S.dp h2 hs.2) ry
      exact SeqAt.in_tuple_reads r2 r1 (shaped_itemsT hs.2) (SeqAt.canLay_of_shaped hs.1) (PyProof.Rows.room_in_shaped hs.1 hu) ⟨.bl _, H, I, rfl, hq _ _ S.cbl⟩
    · cases hg
  · split at hg
    · cases hg
      rw [S.str h1] at rx; rw [S.str h2] at ry
      exact op_in_str pins s σ H _ _ v u Q I rx ry ⟨_, _, rfl, rfl, hq _ _ S.cbl⟩
    · cases hg
  · cases hg
theorem op_notInDD (hu : X.A.units + 65 < cLine) : OpD X Z (compareOp .NotIn) (lift2 notInP) 9 9 := opd_lift fun pins s σ H x y v u Q p q r R n m I rx ry S h1 h2 hn hm hg hq => by
  unfold notInP inP at hg
  split at hg
  · rename_i ys
    split at hg
    · rename_i hs
      simp only [Bool.and_eq_true] at hs
      cases hg
      exact op_notInD hu pins s σ H x y v u Q I rx ry ⟨p, ys, S.dp h1 hs.1, S.dp h2 hs.2, hs.1, hs.2, hq _ _ S.cbl⟩
    · cases hg
  · rename_i ys
    split at hg
    · rename_i hs
      simp only [Bool.and_eq_true] at hs
      cases hg
      obtain ⟨as, r1⟩ := Dp.reads I p x v (S.dp h1 hs.1) rx
      obtain ⟨bs, r2⟩ := Dp.reads I (.tuple ys) y u (S.dp h2 hs.2) ry
      exact SeqAt.notIn_tuple_reads r2 r1 (shaped_itemsT hs.2) (SeqAt.canLay_of_shaped hs.1) (PyProof.Rows.room_in_shaped hs.1 hu) ⟨.bl _, H, I, rfl, hq _ _ S.cbl⟩
    · cases hg
  · split at hg
    · cases hg
      rw [S.str h1] at rx; rw [S.str h2] at ry
      exact op_notin_str pins s σ H _ _ v u Q I rx ry ⟨_, _, rfl, rfl, hq _ _ S.cbl⟩
    · cases hg
  · cases hg
theorem Sim.notNone {n : Nat} {d : PyData} {v : V} (S : Sim X.K Z H R) (h : (⟨n, .d d, v⟩ : Root) ∈ R) (hd : d ≠ .none) : v ≠ .non := by
  obtain ⟨G, q⟩ := S.den h
  cases q with
  | d q => cases q <;> first | exact absurd rfl hd | (intro z; cases z)
theorem op_isD : OpD X Z (compareOp .Is) (lift2 isP) 9 9 := opd_lift fun pins s σ H x y v u Q p q r R n m I rx ry S h1 h2 hn hm hg hq => by
  unfold isP at hg
  split at hg
  · rw [S.non h2] at ry
    split at hg
    · cases hg
      rw [S.non h1] at rx
      exact op_isN pins s σ H _ _ v u Q I rx ry ⟨rfl, hq _ _ S.cbl⟩
    · rename_i hx
      cases hg
      refine op_isN pins s σ H _ _ v u Q I rx ry ⟨rfl, ?_⟩
      rw [decide_eq_false (S.notNone h1 hx)]
      exact hq _ _ S.cbl
  · cases hg
    rw [S.bl h1] at rx; rw [S.bl h2] at ry
    exact op_is_bl pins s σ H _ _ v u Q I rx ry ⟨_, _, rfl, rfl, hq _ _ S.cbl⟩
  · cases hg
theorem op_isNotD : OpD X Z (compareOp .IsNot) (lift2 isNotP) 9 9 := opd_lift fun pins s σ H x y v u Q p q r R n m I rx ry S h1 h2 hn hm hg hq => by
  unfold isNotP isP at hg
  split at hg
  · rw [S.non h2] at ry
    split at hg
    · cases hg
      rw [S.non h1] at rx
      exact op_notN pins s σ H _ _ v u Q I rx ry ⟨rfl, hq _ _ S.cbl⟩
    · rename_i hx
      cases hg
      refine op_notN pins s σ H _ _ v u Q I rx ry ⟨rfl, ?_⟩
      rw [decide_eq_false (S.notNone h1 hx)]
      exact hq _ _ S.cbl
  · cases hg
    rw [S.bl h1] at rx; rw [S.bl h2] at ry
    exact op_isnot_bl pins s σ H _ _ v u Q I rx ry ⟨_, _, rfl, rfl, hq _ _ S.cbl⟩
  · cases hg

/-! ### items -/
def OpIx (X : Cx) (Z : ClT) (g : DV → DV → Option DV) (cap k : Nat) : Prop :=
  IxR X fun x y H Q => ∃ R d e n m r, Sim X.K Z H R ∧ (⟨n, d, x⟩ : Root) ∈ R ∧ (⟨m, e, y⟩ : Root) ∈ R ∧ n ≤ cap ∧ m ≤ cap ∧ g d e = some r ∧ ∀ v H', Sim X.K Z H' (⟨k, r, v⟩ :: R) → Q v H'
theorem atI_map {α β : Type} (f : α → β) (xs : List α) (i : Int) : atI (xs.map f) i = (atI xs i).map f := by
  unfold atI
  rw [List.length_map]
  cases ixN xs.length i with
  | none => rfl
  | some j => exact List.getElem?_map ..
theorem atI_rel {ds : List PyData} {vs : List V} {i : Int} {d : PyData} (hl : ds.length = vs.length) (h : atI ds i = some d) : ∃ (j : Nat) (v : V), ds[j]? = some d ∧ vs[j]? = some v ∧ atI vs i = some v := by
  unfold atI at h ⊢
  rw [← hl]
  cases q : ixN ds.length i with
  | none => rw [q] at h; cases h
  | some j =>
    rw [q] at h
    have h : ds[j]? = some d := h
    have hj : j < vs.length := hl ▸ (List.getElem?_eq_some_iff.mp h).1
    exact ⟨j, vs[j], h, List.getElem?_eq_getElem hj, List.getElem?_eq_getElem hj⟩
theorem op_ixD : OpIx X Z ixD 1 0 := by
  intro vl sl pins s σ H x y v u Q I rx ry ⟨R, d, e, n, m, r, S, h1, h2, hn, hm, hg, hq⟩ hsb
  unfold ixD at hg
  split at hg
  · rename_i ns i
    obtain ⟨a, rfl, hs⟩ := S.script h1
    rw [S.int h2] at ry
    cases q : atI ns i with
    | none => rw [q] at hg; cases hg
    | some z =>
      rw [q] at hg
      cases hg
      refine ix_list vl sl pins s σ H _ _ v u Q I rx ry ⟨a, _, i, .int z, rfl, rfl, hs, ?_, hq _ _ S.cint⟩ hsb
      rw [atI_map, q]; rfl
  · rename_i p q
    cases q3 : ixP p q with
    | none => rw [q3] at hg; cases hg
    | some r' =>
      rw [q3] at hg
      cases hg
      unfold ixP at q3
      split at q3
      · obtain ⟨a, vs, rfl, ha, hl, S2⟩ := S.openL h1 hn
        rw [S.int h2] at ry
        obtain ⟨j, w, e1, e2, e3⟩ := atI_rel hl q3
        exact ix_list vl sl pins s σ H _ _ v u Q I rx ry ⟨a, _, _, w, rfl, rfl, .of ha, e3, hq _ _ (S2.kid e1 e2)⟩ hsb
      · obtain ⟨a, vs, rfl, ha, hl, S2⟩ := S.openT h1 hn
        rw [S.int h2] at ry
        obtain ⟨j, w, e1, e2, e3⟩ := atI_rel hl q3
        exact ix_tup vl sl pins s σ H _ _ v u Q I rx ry ⟨a, _, _, w, rfl, rfl, ha, e3, hq _ _ (S2.kid e1 e2)⟩ hsb
      · split at q3
        · rename_i x i hx
          rw [S.str h1] at rx; rw [S.int h2] at ry
          cases q4 : atI x.cps.toList i with
          | none => rw [q4] at q3; cases q3
          | some c =>
            rw [q4] at q3
            cases q3
            exact ix_str vl sl pins s σ H _ _ v u Q I rx ry ⟨_, _, c, rfl, rfl, big_line hx, q4, hq _ _ S.cstr⟩ hsb
        · cases q3
      · cases q3
  · cases hg
end
section
variable {X : Cx} {Z : ClT} {W : WX} {φ φ1 φ2 φ' : List Nat} {ta tb : Tm} {fa fb : M DV} {a b : Expr} {pos : Pos}
/-- the index is no slice -/
def noSlice : Expr → Bool
  | .Slice .. => false
  | _ => true
theorem noSlice_ix {b : Expr} (h : noSlice b = true) : PlainIx b := fun o i => by
  cases b <;> first | rfl | cases h
theorem je_ix {g : DV → DV → Option DV} {cap k : Nat} (ho : OpIx X Z g cap k) (ha : JE X Z W φ a φ1 ta fa) (hb : JE X Z W φ1 b φ2 tb fb) (hs : noSlice b = true) :
    JE X Z W φ (.Subscript a b pos) (cap2 cap ta tb φ2) (.v k) (op2 g ta tb fa fb) := by
  refine pe_imp (pe_ix ho ha hb (noSlice_ix hs)) fun σ H Q ⟨L, env, S, h⟩ => ?_
  refine rdE.go S (h.bind.mono fun d e1 h1 v H1 S1 => ?_)
  refine rdE.go S1 (h1.bind.mono fun d' e2 h2 u H2 S2 => ?_)
  exact op2_core S2 h2
end
end Lk
namespace Lk
open PySem PySem.Spec L2

def opI : CmpOp → Int → Int → Bool
  | .Lt, i, j => decide (i < j)
  | .LtE, i, j => decide (i ≤ j)
  | .Gt, i, j => decide (j < i)
  | .GtE, i, j => decide (j ≤ i)
  | _, _, _ => false
/-- the first pair that differs decides by c, else z -/
def lexV (c : PyData → PyData → Bool) (z : Bool) : List PyData → List PyData → Bool
  | x :: xs, y :: ys => if PyData.eqv x y then lexV c z xs ys else c x y
  | [], _ => z
  | _ :: _, [] => z
/-- all pairs that differ can be compared -/
def cmpAll (c : PyData → PyData → Option Bool) : List PyData → List PyData → Bool
  | x :: xs, y :: ys => (PyData.eqv x y || (c x y).isSome) && cmpAll c xs ys
  | [], _ => true
  | _ :: _, [] => true
def cmpN (op : CmpOp) : Nat → PyData → PyData → Option Bool
  | 0 => fun _ _ => none
  | n + 1 => fun p q => match p, q with
    | .int i, .int j => some (opI op i j)
    | .tuple xs, .tuple ys => if cmpAll (cmpN op n) xs ys then some (lexV (fun x y => (cmpN op n x y).getD false) (opI op xs.length ys.length) xs ys) else none
    | _, _ => none
def isOrd : CmpOp → Bool
  | .Lt => true
  | .LtE => true
  | .Gt => true
  | .GtE => true
  | _ => false
def cmpP (op : CmpOp) (x y : PyData) : Option PyData := if SeqAt.shaped x && SeqAt.shaped y then (cmpN op 8 x y).map .bool else none

theorem lexAt_lexV {c : PyData → PyData → Bool} {z : Bool} {xs ys : List PyData} : ∀ (as bs : List PyData) (i : Nat), xs.drop i = as → ys.drop i = bs →
    Ob.lexAt (fun j => PyData.eqv (xs.getD j .none) (ys.getD j .none)) (fun j => c (xs.getD j .none) (ys.getD j .none)) z i (min as.length bs.length) = lexV c z as bs
  | [], bs, i, _, _ => by simp [Ob.lexAt, lexV]
  | a :: as, [], i, _, _ => by simp [Ob.lexAt, lexV]
  | a :: as, b :: bs, i, ha, hb => by
    have h1 : xs.getD i .none = a := by
      have : xs[i]? = some a := by
        have q : (xs.drop i)[0]? = xs[i + 0]? := List.getElem?_drop
        rw [ha] at q
        exact q.symm
      rw [List.getD_eq_getElem?_getD, this]; rfl
    have h2 : ys.getD i .none = b := by
      have : ys[i]? = some b := by
        have q : (ys.drop i)[0]? = ys[i + 0]? := List.getElem?_drop
        rw [hb] at q
        exact q.symm
      rw [List.getD_eq_getElem?_getD, this]; rfl
    have e1 : xs.drop (i + 1) = as := by rw [← List.drop_drop, ha]; rfl
    have e2 : ys.drop (i + 1) = bs := by rw [← List.drop_drop, hb]; rfl
    have ih := lexAt_lexV (c := c) (z := z) as bs (i + 1) e1 e2
    rw [List.length_cons, List.length_cons, Nat.add_min_add_right, Ob.lexAt_succ]
    unfold lexV
    rw [h1, h2, ih]
theorem cmpAll_get {c : PyData → PyData → Option Bool} : ∀ {xs ys : List PyData} {j : Nat} {x y : PyData}, cmpAll c xs ys = true → xs[j]? = some x → ys[j]? = some y → PyData.eqv x y = false → ∃ b, c x y = some b
  | a :: xs, b :: ys, 0, x, y, h, h1, h2, he => by
    simp at h1 h2; subst h1; subst h2
    simp only [cmpAll, Bool.and_eq_true, Bool.or_eq_true, he] at h
    rcases h.1 with q | q
    · cases q
    · exact Option.isSome_iff_exists.mp q
  | a :: xs, b :: ys, j + 1, x, y, h, h1, h2, he => by
    simp only [cmpAll, Bool.and_eq_true] at h
    exact cmpAll_get (j := j) h.2 (by simpa using h1) (by simpa using h2) he
  | [], _, _, _, _, _, h1, _, _ => by simp at h1
  | _ :: _, [], _, _, _, _, _, h2, _ => by simp at h2
theorem readsAll_get {h : Heap} : ∀ {vs : List Value} {ds : List PyData} {as : List Addr} {j : Nat} {v : Value}, ReadsAll h vs ds as → vs[j]? = some v → ∃ d bs, ds[j]? = some d ∧ Reads h v d bs
  | [], _, _, _, _, _, e => by simp at e
  | v :: vs, _, _, 0, w, .cons r _, e => by simp at e; subst e; exact ⟨_, _, rfl, r⟩
  | v :: vs, _, _, j + 1, w, .cons _ r, e => by
    obtain ⟨d, bs, q1, q2⟩ := readsAll_get (j := j) r (by simpa using e)
    exact ⟨d, bs, by simpa using q1, q2⟩
theorem canLayAll_get : ∀ {ds : List PyData} {j : Nat} {d : PyData}, PyData.canLayAll0 ds = true → ds[j]? = some d → d.canLay0 = true
  | [], _, _, _, e => by simp at e
  | x :: ds, 0, d, h, e => by
    simp at e; subst e
    simp only [PyData.canLayAll0, Bool.and_eq_true] at h
    exact h.1
  | x :: ds, j + 1, d, h, e => by
    simp only [PyData.canLayAll0, Bool.and_eq_true] at h
    exact canLayAll_get (j := j) h.2 (by simpa using e)
theorem depthAll_get : ∀ {ds : List PyData} {j : Nat} {d : PyData}, ds[j]? = some d → d.depth ≤ PyData.depthAll ds
  | [], _, _, e => by simp at e
  | x :: ds, 0, d, e => by
    simp at e; subst e
    simp only [PyData.depthAll]
    exact Nat.le_max_left _ _
  | x :: ds, j + 1, d, e => by
    simp only [PyData.depthAll]
    exact Nat.le_trans (depthAll_get (j := j) (by simpa using e)) (Nat.le_max_right _ _)

/-- what one of the four operators does -/
theorem rc_run {op : CmpOp} (ho : isOrd op = true) : ∀ (n : Nat) (A : Around) (s : Shared) (p q : PyData) (v u : Value) (as bs : List Addr) (b : Bool), Reads s.heap v p as → Reads s.heap u q bs → p.canLay0 = true → q.canLay0 = true → p.depth ≤ 64 → A.units + 70 + n < cLine →
    cmpN op n p q = some b → Ob.RcOp op A s v u b
  | 0, _, _, _, _, _, _, _, _, _, _, _, _, _, _, _, h => by simp [cmpN] at h
  | n + 1, A, s, p, q, v, u, as, bs, b, ra, rb, ca, cb, hd, hu, h => by
    simp only [cmpN] at h
    split at h
    · rename_i i j
      cases h
      cases ra
      cases rb
      cases op with
      | Lt => exact Ob.RcOp.lt_int _ _ _ _
      | LtE => exact Ob.RcOp.le_int _ _ _ _
      | Gt => exact Ob.RcOp.gt_int _ _ _ _
      | GtE => exact Ob.RcOp.ge_int _ _ _ _
      | _ => cases ho
    · rename_i xs ys
      split at h
      · rename_i hall
        cases h
        cases ra with
        | tuple h1 h2 h3 h4 =>
          cases rb with
          | tuple g1 g2 g3 g4 =>
            rename_i a1 o1 vs1 n1 b1 o2 vs2 n2
            have l1 : vs1.size = xs.length := by have := SeqAt.ReadsAll.length _ _ _ h4; simpa using this
            have l2 : vs2.size = ys.length := by have := SeqAt.ReadsAll.length _ _ _ g4; simpa using this
            have t1 : s.heap.IsTuple a1 vs1 := ⟨_, h1, h2, n1, h3⟩
            have t2 : s.heap.IsTuple b1 vs2 := ⟨_, g1, g2, n2, g3⟩
            have cx : PyData.canLayAll0 xs = true := by simpa [PyData.canLay0] using ca
            have cy : PyData.canLayAll0 ys = true := by simpa [PyData.canLay0] using cb
            have dx : PyData.depthAll xs ≤ 63 := by
              have : PyData.depthAll xs + 1 ≤ 64 := by simpa [PyData.depth] using hd
              omega
            have item1 : ∀ (j : Nat) (hj : j < vs1.size), ∃ bs, xs[j]? = some (xs.getD j .none) ∧ Reads s.heap vs1[j] (xs.getD j .none) bs := fun j hj => by
              obtain ⟨d, bs, q1, q2⟩ := readsAll_get (j := j) h4 (by rw [Array.getElem?_toList]; exact Array.getElem?_eq_getElem hj)
              have e : xs.getD j .none = d := by rw [List.getD_eq_getElem?_getD, q1]; rfl
              rw [e]; exact ⟨bs, q1, q2⟩
            have item2 : ∀ (j : Nat) (hj : j < vs2.size), ∃ bs, ys[j]? = some (ys.getD j .none) ∧ Reads s.heap vs2[j] (ys.getD j .none) bs := fun j hj => by
              obtain ⟨d, bs, q1, q2⟩ := readsAll_get (j := j) g4 (by rw [Array.getElem?_toList]; exact Array.getElem?_eq_getElem hj)
              have e : ys.getD j .none = d := by rw [List.getD_eq_getElem?_getD, q1]; rfl
              rw [e]; exact ⟨bs, q1, q2⟩
            have he : ∀ j (q1 : j < vs1.size) (q2 : j < vs2.size), SeqAt.EqAt A.in1 s vs1[j] vs2[j] (PyData.eqv (xs.getD j .none) (ys.getD j .none)) := fun j q1 q2 => by
              obtain ⟨b1, e1, r1⟩ := item1 j q1
              obtain ⟨b2, e2, r2⟩ := item2 j q2
              have hd1 := depthAll_get e1
              refine SeqAt.eqAt_reads _ _ A.in1 s _ _ _ _ r1 r2 (canLayAll_get cx e1) (canLayAll_get cy e2) ?_
              have : min (xs.getD j PyData.none).depth (ys.getD j PyData.none).depth ≤ (xs.getD j PyData.none).depth := Nat.min_le_left _ _
              show A.units + 1 + min (xs.getD j PyData.none).depth (ys.getD j PyData.none).depth < cLine
              omega
            have hr : ∀ j (q1 : j < vs1.size) (q2 : j < vs2.size), PyData.eqv (xs.getD j .none) (ys.getD j .none) = false → Ob.RcOp op A.in1 s vs1[j] vs2[j] ((cmpN op n (xs.getD j .none) (ys.getD j .none)).getD false) := fun j q1 q2 q3 => by
              obtain ⟨b1, e1, r1⟩ := item1 j q1
              obtain ⟨b2, e2, r2⟩ := item2 j q2
              obtain ⟨k, hk⟩ := cmpAll_get hall e1 e2 q3
              have hd1 := depthAll_get e1
              rw [hk]
              exact rc_run ho n A.in1 s _ _ _ _ _ _ k r1 r2 (canLayAll_get cx e1) (canLayAll_get cy e2) (by omega) (by show A.units + 1 + 70 + n < cLine; omega) hk
            have key := lexAt_lexV (c := fun x y => (cmpN op n x y).getD false) (z := opI op xs.length ys.length) (xs := xs) (ys := ys) xs ys 0 rfl rfl
            rw [← key]
            have hz : ∀ z : Bool, z = opI op xs.length ys.length → Ob.RcOp op A s (.ref a1) (.ref b1) (Ob.lexAt (fun j => PyData.eqv (xs.getD j .none) (ys.getD j .none)) (fun j => (cmpN op n (xs.getD j .none) (ys.getD j .none)).getD false) z 0 (min vs1.size vs2.size)) →
              Ob.RcOp op A s (.ref a1) (.ref b1) (Ob.lexAt (fun j => PyData.eqv (xs.getD j .none) (ys.getD j .none)) (fun j => (cmpN op n (xs.getD j .none) (ys.getD j .none)).getD false) (opI op xs.length ys.length) 0 (min xs.length ys.length)) := fun z e k => by
              rw [e, l1, l2] at k; exact k
            cases op with
            | Lt => exact hz (decide (vs1.size < vs2.size)) (by rw [l1, l2]; exact decide_eq_decide.mpr (by omega)) (Ob.RcOp.tuples_lt t1 t2 (by omega) he hr)
            | LtE => exact hz (decide (vs1.size ≤ vs2.size)) (by rw [l1, l2]; exact decide_eq_decide.mpr (by omega)) (Ob.RcOp.tuples_le t1 t2 (by omega) he hr)
            | Gt => exact hz (decide (vs1.size > vs2.size)) (by rw [l1, l2]; exact decide_eq_decide.mpr (by omega)) (Ob.RcOp.tuples_gt t1 t2 (by omega) he hr)
            | GtE => exact hz (decide (vs1.size ≥ vs2.size)) (by rw [l1, l2]; exact decide_eq_decide.mpr (by omega)) (Ob.RcOp.tuples_ge t1 t2 (by omega) he hr)
            | _ => cases ho
      · cases h
    · cases h
section
variable {X : Cx} {Z : ClT}
theorem op_ordD {op : CmpOp} (ho : isOrd op = true) (hu : X.A.units + 80 < cLine) : OpD X Z (compareOp op) (lift2 (cmpP op)) 9 9 := opd_lift fun pins s σ H x y v u Q p q r R n m I rx ry S h1 h2 hn hm hg hq => by
  unfold cmpP at hg
  split at hg
  · rename_i hs
    simp only [Bool.and_eq_true] at hs
    cases q3 : cmpN op 8 p q with
    | none => rw [q3] at hg; cases hg
    | some b =>
      rw [q3] at hg
      cases hg
      obtain ⟨as, r1⟩ := Dp.reads I p x v (S.dp h1 hs.1) rx
      obtain ⟨bs, r2⟩ := Dp.reads I q y u (S.dp h2 hs.2) ry
      have z := rc_run ho 8 X.A s p q v u as bs b r1 r2 (SeqAt.canLay_of_shaped hs.1) (SeqAt.canLay_of_shaped hs.2) (SeqAt.depth_of_shaped hs.1) (by omega) q3 X.prog X.w X.xe (EP X pins σ Q) ⟨.bl b, H, I, rfl, hq _ _ S.cbl⟩
      cases op with
      | Lt => exact z
      | LtE => exact z
      | Gt => exact z
      | GtE => exact z
      | _ => cases ho
  · cases hg
end
end Lk
namespace Lk
open PySem PySem.Spec L2

def zipH : List Tm → List DV → List V → List Held
  | t :: ts, d :: ds, v :: vs => ⟨t, d, v⟩ :: zipH ts ds vs
  | _, _, _ => []
def nowsD : List Tm → List DV → Ev → Option (List DV)
  | t :: ts, d :: ds, e => match t.now d e, nowsD ts ds e with
    | some x, some xs => some (x :: xs)
    | _, _ => none
  | [], [], _ => some []
  | _, _, _ => none
def slotsOf (ts : List Tm) : List (Option Nat) := ts.map Tm.slot?
section
variable (X : Cx) (Z : ClT) (W : WX)
def rdA (φ φ' : List Nat) (ts : List Tm) (f : M (List DV)) : TA := fun σ H Q => ∃ L env, Stt X.K Z φ env [] σ H L ∧ Wish X.K Z W L (f env) fun ds e' =>
  ∀ vs H', ds.length = ts.length → vs.length = ts.length → Stt X.K Z φ' e' (zipH ts ds vs) σ H' L → Q vs H'
def JA (φ : List Nat) (es : List Expr) (φ' : List Nat) (ts : List Tm) (f : M (List DV)) : Prop := PA X es (rdA X Z W φ φ' ts f)
end
section
variable {X : Cx} {Z : ClT} {W : WX} {φ φ1 φ2 φ' : List Nat} {t : Tm} {ts : List Tm} {fa : M DV} {f : M (List DV)} {σ : St} {H : Hp} {L : List Root} {env : Ev} {hs : List Held} {a b : Expr} {es : List Expr} {pos : Pos}
theorem pa_imp {es : List Expr} {t t' : TA} (h : PA X es t) (i : ∀ σ H Q, t' σ H Q → t σ H Q) : PA X es t' := ⟨fun pos pins s σ H Q I q => h.run pos pins s σ H Q I (i _ _ _ q)⟩
theorem rdA.go {P : List V → Hp → Prop} (S : Stt X.K Z φ env hs σ H L) (h : Wish X.K Z W L (f env) fun ds e' => ∀ vs H', ds.length = ts.length → vs.length = ts.length → Stt X.K Z φ' e' (zipH ts ds vs ++ hs) σ H' L → P vs H') : rdA X Z W φ φ' ts f σ H P := by
  have S0 : Stt X.K Z φ env [] σ H (hrts hs ++ L) := by
    refine ⟨S.sim.perm ?_, S.al, fun _ h => nomatch h⟩
    show (hrts hs ++ (roots φ env σ ++ L)).Perm ([] ++ (roots φ env σ ++ (hrts hs ++ L)))
    exact shuf (A := [])
  refine ⟨hrts hs ++ L, env, S0, Wish.mono h.frame fun ds e' k => ?_⟩
  intro vs H' hl hv S'
  have S1 : Stt X.K Z φ' e' (zipH ts ds vs ++ hs) σ H' L := by
    refine ⟨S'.sim.perm ?_, S'.al, fun x hx => ?_⟩
    · unfold hrts
      rw [List.flatMap_append, List.append_assoc]
      exact shuf
    · rcases List.mem_append.mp hx with hx | hx
      · exact S'.at' x hx
      · exact S.at' x hx
  exact k vs H' hl hv S1
theorem ja_nil : JA X Z W φ [] φ [] (M.pure []) := pa_imp pa_nil fun σ H Q ⟨L, env, S, h⟩ => by
  exact (show ∀ vs H', ([] : List DV).length = ([] : List Tm).length → vs.length = ([] : List Tm).length → Stt X.K Z φ env (zipH [] [] vs) σ H' L → Q vs H' from h) [] H rfl rfl S
def noStar : Expr → Bool
  | .Starred .. => false
  | _ => true
theorem star_eq {env : PySem.Env} {e : Expr} {es : List Expr} (h : noStar e = true) : starEach (e :: es) env = (false, eval e env) :: starEach es env := by
  cases e <;> first | rfl | cases h
theorem star_any {env : PySem.Env} {pos : Pos} : ∀ {es : List Expr}, es.all noStar = true → (backTo pos (starEach es env)).any (·.1) = false
  | [], _ => rfl
  | e :: es, h => by
    simp only [List.all_cons, Bool.and_eq_true] at h
    rw [star_eq h.1]
    show (false || (backTo pos (starEach es env)).any (·.1)) = false
    rw [star_any h.2]; rfl
def consM (fa : M DV) (f : M (List DV)) : M (List DV) := fun env => (fa env).bind fun d e => (f e).bind fun ds e2 => .ok (d :: ds) e2
theorem ja_cons (hs : noStar a = true) (ha : JE X Z W φ a φ1 t fa) (h : JA X Z W φ1 es φ2 ts f) : JA X Z W φ (a :: es) φ2 (t :: ts) (consM fa f) := by
  refine pa_imp (pa_cons ha h (star_eq hs)) fun σ H Q ⟨L, env, S, h⟩ => ?_
  refine rdE.go S (h.bind.mono fun d e1 h1 v H1 S1 => ?_)
  refine rdA.go S1 (h1.bind.mono fun ds e2 h2 vs H2 hl hv S2 => ?_)
  refine h2 (v :: vs) H2 (by simp [hl]) (by simp [hv]) (S2.hperm ?_)
  show (zipH ts ds vs ++ [(⟨t, d, v⟩ : Held)]).Perm ((⟨t, d, v⟩ : Held) :: zipH ts ds vs)
  exact List.perm_append_comm

/-! ### displays -/
def getDs : List DV → Option (List PyData)
  | [] => some []
  | .d x :: r => match getDs r with
    | some xs => some (x :: xs)
    | none => none
  | _ :: _ => none
def allV (m : Nat) : List Tm → Bool
  | [] => true
  | .v k :: ts => decide (m ≤ k) && allV m ts
  | .sl _ :: _ => false
theorem kids_of {m : Nat} : ∀ {ts : List Tm} {ds : List DV} {vs : List V} {xs : List PyData}, allV m ts = true → ds.length = ts.length → vs.length = ts.length → getDs ds = some xs → Less (hrts (zipH ts ds vs)) (kids m xs vs) ∧ xs.length = vs.length
  | [], [], [], xs, _, _, _, h => by cases h; exact ⟨.nil, rfl⟩
  | t :: ts, d :: ds, v :: vs, xs, ht, hd, hv, h => by
    cases t with
    | sl i => simp [allV] at ht
    | v k =>
      simp only [allV, Bool.and_eq_true, decide_eq_true_eq] at ht
      cases d with
      | d x =>
        unfold getDs at h
        cases q : getDs ds with
        | none => rw [q] at h; cases h
        | some ys =>
          rw [q] at h
          cases h
          obtain ⟨q1, q2⟩ := kids_of ht.2 (by simpa using hd) (by simpa using hv) q
          exact ⟨.cons ⟨ht.1, rfl, rfl⟩ q1, by simp [q2]⟩
      | _ => cases h
  | [], _ :: _, _, _, _, hd, _, _ => by simp at hd
  | [], [], _ :: _, _, _, _, hv, _ => by simp at hv
  | _ :: _, [], _, _, _, hd, _, _ => by simp at hd
  | _ :: _, _ :: _, [], _, _, _, hv, _ => by simp at hv
def dispM (mk : List PyData → PyData) (f : M (List DV)) : M DV := fun env => (f env).bind fun ds e => match getDs ds with
  | some xs => if xs.length ≤ big then .ok (.d (mk xs)) e else .bad
  | none => .bad
theorem disp_core {m : Nat} {mk : List PyData → PyData} {ds : List DV} {vs : List V} {P : Prop} {k : DV → Ev → Prop} {e' : Ev} (hm : allV m ts = true) (hl : ds.length = ts.length) (hv : vs.length = ts.length) (S : Stt X.K Z φ' e' (zipH ts ds vs) σ H L)
    (h : Wish X.K Z W L (match getDs ds with
      | some xs => if xs.length ≤ big then Out.ok (.d (mk xs)) e' else .bad
      | none => .bad) k) (go : ∀ xs, xs.length = vs.length → xs.length ≤ big → Sim X.K Z H (kids m xs vs ++ (roots φ' e' σ ++ L)) → k (.d (mk xs)) e' → P) : P := by
  cases q : getDs ds with
  | none => rw [q] at h; exact h.elim
  | some xs =>
    rw [q] at h
    simp only at h
    split at h
    · rename_i hx
      obtain ⟨q1, q2⟩ := kids_of hm hl hv q
      exact go xs q2 hx (S.sim.less (Less.app q1 (Less.refl _))) h
    · exact h.elim
theorem je_lst {m : Nat} (ha : JA X Z W φ es φ' ts f) (hm : allV m ts = true) : JE X Z W φ (.List es pos) φ' (.v (m + 1)) (dispM .list f) := by
  refine pe_imp (pe_lst ha) fun σ H Q ⟨L, env, S, h⟩ => ?_
  refine ⟨L, env, S, h.bind.mono fun ds e' h1 vs H' hl hv S' => ?_⟩
  refine disp_core hm hl hv S' h1 fun xs q1 q2 s k => ⟨big_line (by omega), fun p hp => k _ _ ⟨s.mkL q1 hp, S'.al, fun x hx => ?_⟩⟩
  rw [List.mem_singleton.mp hx]; trivial
theorem je_tup {m n : Nat} (ha : JA X Z W φ es φ' ts f) (hm : allV m ts = true) : JE X Z W φ (.Tuple es n pos) φ' (.v (m + 1)) (dispM .tuple f) := by
  refine pe_imp (pe_tup ha) fun σ H Q ⟨L, env, S, h⟩ => ?_
  refine ⟨L, env, S, h.bind.mono fun ds e' h1 vs H' hl hv S' => ?_⟩
  refine disp_core hm hl hv S' h1 fun xs q1 q2 s k => ⟨big_line (by omega), fun p hp => k _ _ ⟨s.mkT q1 hp, S'.al, fun x hx => ?_⟩⟩
  rw [List.mem_singleton.mp hx]; trivial

/-! ### calls of built-ins -/
def LArgs (R : List Root) (cap : Nat) : List DV → List V → Prop := Paired fun d v => ∃ n, n ≤ cap ∧ (⟨n, d, v⟩ : Root) ∈ R
def CallD (X : Cx) (Z : ClT) (F : Value) (g : List DV → Option DV) (cap k : Nat) : Prop :=
  CallR X F fun vs H Q => ∃ R ds r, Sim X.K Z H R ∧ LArgs R cap ds vs ∧ g ds = some r ∧ ∀ v H', Sim X.K Z H' (⟨k, r, v⟩ :: R) → Q v H'
def callM (g : List DV → Option DV) (ts : List Tm) (f : M (List DV)) : M DV := fun env => (f env).bind fun ds e => match nowsD ts ds e with
  | some xs => (match g xs with
    | some r => .ok r e
    | none => .bad)
  | none => .bad
theorem zipH_slots : ∀ {ts : List Tm} {ds : List DV} {vs : List V}, ds.length = ts.length → vs.length = ts.length → (zipH ts ds vs).map (fun h => h.t.slot?) = slotsOf ts
  | [], [], [], _, _ => rfl
  | t :: ts, d :: ds, v :: vs, h1, h2 => by
    show t.slot? :: (zipH ts ds vs).map (fun h => h.t.slot?) = t.slot? :: slotsOf ts
    rw [zipH_slots (by simpa using h1) (by simpa using h2)]
  | [], _ :: _, _, h, _ => by simp at h
  | [], [], _ :: _, _, h => by simp at h
  | _ :: _, [], _, h, _ => by simp at h
  | _ :: _, _ :: _, [], _, h => by simp at h
theorem zipH_args {cap : Nat} {hs : List Held} (S : Stt X.K Z φ env hs σ H L) : ∀ {ts : List Tm} {ds : List DV} {vs : List V} {xs : List DV}, ds.length = ts.length → vs.length = ts.length → (∀ h ∈ zipH ts ds vs, h ∈ hs) → nowsD ts ds env = some xs →
    LArgs (hrts (hs.map (Held.cap cap)) ++ (roots (capS cap (hs.map fun h => h.t.slot?) φ) env σ ++ L)) cap xs vs
  | [], [], [], xs, _, _, _, h => by cases h; exact .nil
  | t :: ts, d :: ds, v :: vs, xs, h1, h2, hm, h => by
    unfold nowsD at h
    cases q1 : t.now d env with
    | none => rw [q1] at h; cases h
    | some x =>
      cases q2 : nowsD ts ds env with
      | none => rw [q1, q2] at h; cases h
      | some ys =>
        rw [q1, q2] at h
        cases h
        refine .cons ?_ (zipH_args S (by simpa using h1) (by simpa using h2) (fun y hy => hm y (List.mem_cons_of_mem _ hy)) q2)
        exact S.memC (h := ⟨t, d, v⟩) (hm _ List.mem_cons_self) q1
  | [], _ :: _, _, _, h, _, _, _ => by simp at h
  | [], [], _ :: _, _, _, h, _, _ => by simp at h
  | _ :: _, [], _, _, h, _, _, _ => by simp at h
  | _ :: _, _ :: _, [], _, _, h, _, _ => by simp at h
theorem call_core {g : List DV → Option DV} {cap k : Nat} {P : VK} {ds : List DV} {vs : List V} (hl : ds.length = ts.length) (hv : vs.length = ts.length) (S : Stt X.K Z φ2 env (zipH ts ds vs) σ H L)
    (h : Wish X.K Z W L (match nowsD ts ds env with
      | some xs => (match g xs with
        | some r => Out.ok r env
        | none => .bad)
      | none => .bad) fun r e' => ∀ v H', Stt X.K Z (capS cap (slotsOf ts) φ2) e' [⟨.v k, r, v⟩] σ H' L → P v H') :
    ∃ R ds r, Sim X.K Z H R ∧ LArgs R cap ds vs ∧ g ds = some r ∧ ∀ v H', Sim X.K Z H' (⟨k, r, v⟩ :: R) → P v H' := by
  cases q : nowsD ts ds env with
  | none => rw [q] at h; exact h.elim
  | some xs =>
    rw [q] at h
    simp only at h
    cases q2 : g xs with
    | none => rw [q2] at h; exact h.elim
    | some r =>
      rw [q2] at h
      have a := zipH_args (cap := cap) S hl hv (fun h hh => hh) q
      refine ⟨_, xs, r, (S.cap cap).sim, a, q2, fun v H' s => h v H' ?_⟩
      have S2 := S.cap cap
      rw [zipH_slots hl hv] at s S2
      have S3 : Stt X.K Z (capS cap (slotsOf ts) φ2) env ((zipH ts ds vs).map (Held.cap cap) ++ []) σ H L := by rw [List.append_nil]; exact S2
      exact S3.done (hs := []) (by rw [List.append_nil]; exact s)
theorem je_callB {id : String} {x : Str} {p : Pos} {g : List DV → Option DV} {cap k : Nat} (hc : CallD X Z (.builtin id) g cap k) (hg : Gl X x) (hm : X.mg x = none) (hv : bootBuiltins x = some (.builtin id)) (hn : x ≠ "__name__") (hdb : (x == ("__debug__" : Str)) = false)
    (hs : noStar a = true) (hpl : es.all noStar = true) (ha : JA X Z W φ (a :: es) φ2 ts f) : JE X Z W φ (.Call (.Name x p) (a :: es) [] pos) (capS cap (slotsOf ts) φ2) (.v k) (callM g ts f) := by
  refine pe_imp (pe_callB hc hg hm hv ha hn hdb (star_eq hs) (star_any hpl)) fun σ H Q ⟨L, env, S, h⟩ => ?_
  exact ⟨L, env, S, h.bind.mono fun ds e' h1 vs H' hl hv S' => call_core hl hv S' h1⟩
theorem je_callTy {T : String} {x : Str} {p : Pos} {g : List DV → Option DV} {cap k : Nat} (hc : CallD X Z (.type T) g cap k) (hg : Gl X x) (hm : X.mg x = none) (hv : bootBuiltins x = some (.type T)) (hn : x ≠ "__name__") (hdb : (x == ("__debug__" : Str)) = false)
    (hs : noStar a = true) (hpl : es.all noStar = true) (ha : JA X Z W φ (a :: es) φ2 ts f) : JE X Z W φ (.Call (.Name x p) (a :: es) [] pos) (capS cap (slotsOf ts) φ2) (.v k) (callM g ts f) := by
  refine pe_imp (pe_callTy hc hg hm hv ha hn hdb (star_eq hs) (star_any hpl)) fun σ H Q ⟨L, env, S, h⟩ => ?_
  exact ⟨L, env, S, h.bind.mono fun ds e' h1 vs H' hl hv S' => call_core hl hv S' h1⟩
end
end Lk
namespace Lk
open PySem PySem.Spec L2

def oneD (g : PyData → Option PyData) : List DV → Option DV
  | [.d x] => (g x).map .d
  | _ => none
def twoD (g : PyData → PyData → Option PyData) : List DV → Option DV
  | [.d x, .d y] => (g x y).map .d
  | _ => none
def lenD : List DV → Option DV
  | [.s ns] => some (.d (.int ns.length))
  | [.d (.list xs)] => some (.d (.int xs.length))
  | [.d (.tuple xs)] => some (.d (.int xs.length))
  | [.d (.str x)] => if x.length ≤ big then some (.d (.int x.length)) else none
  | _ => none
def absP : PyData → Option PyData
  | .int i => some (.int (if i < 0 then -i else i))
  | _ => none
def minP : PyData → PyData → Option PyData
  | .int i, .int j => some (.int (if j < i then j else i))
  | _, _ => none
def maxP : PyData → PyData → Option PyData
  | .int i, .int j => some (.int (if j > i then j else i))
  | _, _ => none
def intP : PyData → Option PyData
  | .int i => some (.int i)
  | .bool b => some (.int (if b then 1 else 0))
  | .str x => if x.length ≤ 640 then (PySem.intText? x).map .int else none
  | _ => none
def strP : PyData → Option PyData
  | .int i => if i.natAbs.log2 < 1920 then some (.str (toString i)) else none
  | _ => none
def getBs : List PyData → Option (List Bool)
  | [] => some []
  | .bool b :: r => match getBs r with
    | some bs => some (b :: bs)
    | none => none
  | _ :: _ => none
def getIs : List PyData → Option (List Int)
  | [] => some []
  | .int b :: r => match getIs r with
    | some bs => some (b :: bs)
    | none => none
  | _ :: _ => none
def getSs : List PyData → Option (List Str)
  | [] => some []
  | .str b :: r => match getSs r with
    | some bs => some (b :: bs)
    | none => none
  | _ :: _ => none
def allP : PyData → Option PyData
  | .list xs => (getBs xs).map fun bs => .bool (bs.all id)
  | _ => none
def anyP : PyData → Option PyData
  | .list xs => (getBs xs).map fun bs => .bool (bs.any id)
  | _ => none
def sumP : PyData → Option PyData
  | .list xs => (getIs xs).map fun bs => .int bs.sum
  | _ => none
def listP : PyData → Option PyData
  | .list xs => some (.list xs)
  | .tuple xs => some (.list xs)
  | _ => none
def listD : List DV → Option DV
  | [.s ns] => some (.d (.list (ns.map .int)))
  | [.d x] => (listP x).map .d
  | _ => none
def tupleP : PyData → Option PyData
  | .list xs => some (.tuple xs)
  | .tuple xs => some (.tuple xs)
  | _ => none
theorem getBs_eq : ∀ {xs : List PyData} {bs : List Bool}, getBs xs = some bs → xs = bs.map .bool
  | [], _, h => by cases h; rfl
  | x :: xs, bs, h => by
    cases x with
    | bool b =>
      unfold getBs at h
      cases q : getBs xs with
      | none => rw [q] at h; cases h
      | some ys => rw [q] at h; cases h; rw [getBs_eq q]; rfl
    | _ => cases h
theorem getIs_eq : ∀ {xs : List PyData} {bs : List Int}, getIs xs = some bs → xs = bs.map .int
  | [], _, h => by cases h; rfl
  | x :: xs, bs, h => by
    cases x with
    | int b =>
      unfold getIs at h
      cases q : getIs xs with
      | none => rw [q] at h; cases h
      | some ys => rw [q] at h; cases h; rw [getIs_eq q]; rfl
    | _ => cases h
theorem getSs_eq : ∀ {xs : List PyData} {bs : List Str}, getSs xs = some bs → xs = bs.map .str
  | [], _, h => by cases h; rfl
  | x :: xs, bs, h => by
    cases x with
    | str b =>
      unfold getSs at h
      cases q : getSs xs with
      | none => rw [q] at h; cases h
      | some ys => rw [q] at h; cases h; rw [getSs_eq q]; rfl
    | _ => cases h
section
variable {K : PySem.W.Frag} {H : Hp}
theorem DenL.bools : ∀ {bs : List Bool} {vs : List V} {G : Ft}, DenL K H (bs.map .bool) vs G → vs = bs.map .bl
  | [], _, _, h => by cases h; rfl
  | b :: bs, _, _, h => by
    cases h with
    | cons h1 h2 => cases h1; rw [DenL.bools h2]; rfl
theorem DenL.ints : ∀ {bs : List Int} {vs : List V} {G : Ft}, DenL K H (bs.map .int) vs G → vs = bs.map .int
  | [], _, _, h => by cases h; rfl
  | b :: bs, _, _, h => by
    cases h with
    | cons h1 h2 => cases h1; rw [DenL.ints h2]; rfl
theorem DenL.strs : ∀ {bs : List Str} {vs : List V} {G : Ft}, DenL K H (bs.map .str) vs G → vs = bs.map .str
  | [], _, _, h => by cases h; rfl
  | b :: bs, _, _, h => by
    cases h with
    | cons h1 h2 => cases h1; rw [DenL.strs h2]; rfl
theorem denL_ints : ∀ {bs : List Int}, DenL K H (bs.map .int) (bs.map V.int) []
  | [] => .nil
  | b :: bs => by
    have q : DenL K H (.int b :: bs.map .int) (V.int b :: bs.map V.int) ([] ++ []) := .cons (.int b) denL_ints
    exact q
theorem denL_strs : ∀ {bs : List Str}, DenL K H (bs.map .str) (bs.map V.str) []
  | [] => .nil
  | b :: bs => by
    have q : DenL K H (.str b :: bs.map .str) (V.str b :: bs.map V.str) ([] ++ []) := .cons (.str b) denL_strs
    exact q
end
section
variable {X : Cx} {Z : ClT} {H : Hp} {R : List Root} {cap k n : Nat}
theorem Sim.listOf {xs : List PyData} {v : V} (S : Sim X.K Z H R) (h : (⟨n, .d (.list xs), v⟩ : Root) ∈ R) : ∃ a vs G, v = .ref a ∧ H a = some (.lst vs) ∧ DenL X.K H xs vs G := by
  obtain ⟨G, hd⟩ := S.den h
  cases hd with
  | d hd =>
    cases hd with
    | lst h1 h2 => exact ⟨_, _, _, rfl, h1, h2⟩
theorem Sim.tupleOf {xs : List PyData} {v : V} (S : Sim X.K Z H R) (h : (⟨n, .d (.tuple xs), v⟩ : Root) ∈ R) : ∃ a vs G, v = .ref a ∧ SqT X.K H a vs ∧ DenL X.K H xs vs G := by
  obtain ⟨G, hd⟩ := S.den h
  cases hd with
  | d hd =>
    cases hd with
    | tup h1 h2 => exact ⟨_, _, _, rfl, h1, h2⟩
theorem args1 {d : DV} {vs : List V} (h : LArgs R cap [d] vs) : ∃ v n, vs = [v] ∧ n ≤ cap ∧ (⟨n, d, v⟩ : Root) ∈ R := by
  cases h with
  | cons h t =>
    cases t
    obtain ⟨n, hn, m⟩ := h
    exact ⟨_, n, rfl, hn, m⟩
theorem args2 {d e : DV} {vs : List V} (h : LArgs R cap [d, e] vs) : ∃ v u n m, vs = [v, u] ∧ n ≤ cap ∧ m ≤ cap ∧ (⟨n, d, v⟩ : Root) ∈ R ∧ (⟨m, e, u⟩ : Root) ∈ R := by
  cases h with
  | cons h t =>
    obtain ⟨n, hn, q⟩ := h
    cases t with
    | cons h t =>
      cases t
      obtain ⟨m, hm, q2⟩ := h
      exact ⟨_, _, n, m, rfl, hn, hm, q, q2⟩
/-- one operand, data -/
theorem cd_one {F : Value} {g : PyData → Option PyData}
    (h : ∀ (pins : List (Addr × Obj)) (s : Shared) (σ : St) (H : Hp) (v : V) (us : List Value) (Q : VK) (p r : PyData) (R : List Root) (n : Nat), Inv X pins σ H s → Vals [v] us → Sim X.K Z H R → (⟨n, .d p, v⟩ : Root) ∈ R → n ≤ cap → g p = some r →
      (∀ w H', Sim X.K Z H' (⟨k, .d r, w⟩ :: R) → Q w H') → wpAny (model X.prog X.w) X.A (call F us) (EP X pins σ Q) X.xe s) : CallD X Z F (oneD g) cap k := by
  intro pins s σ H vs us Q I rv ⟨R, ds, r, S, a, hg, hq⟩
  unfold oneD at hg
  split at hg
  · rename_i x
    cases q : g x with
    | none => rw [q] at hg; cases hg
    | some y =>
      rw [q] at hg; cases hg
      obtain ⟨v, n, rfl, hn, m⟩ := args1 a
      exact h pins s σ H v us Q x y R n I rv S m hn q hq
  · cases hg
theorem cd_two {F : Value} {g : PyData → PyData → Option PyData}
    (h : ∀ (pins : List (Addr × Obj)) (s : Shared) (σ : St) (H : Hp) (v u : V) (us : List Value) (Q : VK) (p q r : PyData) (R : List Root) (n m : Nat), Inv X pins σ H s → Vals [v, u] us → Sim X.K Z H R → (⟨n, .d p, v⟩ : Root) ∈ R → (⟨m, .d q, u⟩ : Root) ∈ R → n ≤ cap → m ≤ cap → g p q = some r →
      (∀ w H', Sim X.K Z H' (⟨k, .d r, w⟩ :: R) → Q w H') → wpAny (model X.prog X.w) X.A (call F us) (EP X pins σ Q) X.xe s) : CallD X Z F (twoD g) cap k := by
  intro pins s σ H vs us Q I rv ⟨R, ds, r, S, a, hg, hq⟩
  unfold twoD at hg
  split at hg
  · rename_i x y
    cases q : g x y with
    | none => rw [q] at hg; cases hg
    | some z =>
      rw [q] at hg; cases hg
      obtain ⟨v, u, n, m, rfl, hn, hm, m1, m2⟩ := args2 a
      exact h pins s σ H v u us Q x y z R n m I rv S m1 m2 hn hm q hq
  · cases hg
theorem cd_len : CallD X Z (.builtin "len") lenD 9 9 := by
  intro pins s σ H vs us Q I rv ⟨R, ds, r, S, a, hg, hq⟩
  unfold lenD at hg
  split at hg
  · cases hg
    obtain ⟨v, n, rfl, hn, m⟩ := args1 a
    obtain ⟨l, rfl, hs⟩ := S.script m
    exact call_len pins s σ H _ us Q I rv ⟨_, _, rfl, .inl ⟨_, hs, rfl⟩, by rw [List.length_map]; exact hq _ _ S.cint⟩
  · cases hg
    obtain ⟨v, n, rfl, hn, m⟩ := args1 a
    obtain ⟨l, vs, rfl, hs, hl⟩ := S.seeL m
    exact call_len pins s σ H _ us Q I rv ⟨_, _, rfl, .inl ⟨_, .of hs, rfl⟩, by rw [← hl]; exact hq _ _ S.cint⟩
  · cases hg
    obtain ⟨v, n, rfl, hn, m⟩ := args1 a
    obtain ⟨l, vs, rfl, hs, hl⟩ := S.seeT m
    exact call_len pins s σ H _ us Q I rv ⟨_, _, rfl, .inr ⟨_, hs, rfl⟩, by rw [← hl]; exact hq _ _ S.cint⟩
  · split at hg
    · rename_i hx
      cases hg
      obtain ⟨v, n, rfl, hn, m⟩ := args1 a
      rw [S.str m] at rv
      exact call_len pins s σ H _ us Q I rv ⟨_, _, rfl, ⟨big_line hx, rfl⟩, hq _ _ S.cint⟩
    · cases hg
  · cases hg
theorem cd_abs : CallD X Z (.builtin "abs") (oneD absP) 9 9 := cd_one fun pins s σ H v us Q p r R n I rv S m hn hg hq => by
  unfold absP at hg
  split at hg
  · cases hg
    rw [S.int m] at rv
    exact call_abs pins s σ H _ us Q I rv ⟨_, rfl, hq _ _ S.cint⟩
  · cases hg
theorem cd_min (hc : X.calm = true) : CallD X Z (.builtin "min") (twoD minP) 9 9 := cd_two fun pins s σ H v u us Q p q r R n m I rv S m1 m2 hn hm hg hq => by
  unfold minP at hg
  split at hg
  · cases hg
    rw [S.int m1, S.int m2] at rv
    exact call_min2 hc pins s σ H _ us Q I rv ⟨_, _, rfl, hq _ _ S.cint⟩
  · cases hg
theorem cd_max (hc : X.calm = true) : CallD X Z (.builtin "max") (twoD maxP) 9 9 := cd_two fun pins s σ H v u us Q p q r R n m I rv S m1 m2 hn hm hg hq => by
  unfold maxP at hg
  split at hg
  · cases hg
    rw [S.int m1, S.int m2] at rv
    exact call_max2 hc pins s σ H _ us Q I rv ⟨_, _, rfl, hq _ _ S.cint⟩
  · cases hg
theorem cd_int : CallD X Z (.type "int") (oneD intP) 9 9 := cd_one fun pins s σ H v us Q p r R n I rv S m hn hg hq => by
  unfold intP at hg
  split at hg
  · cases hg
    rw [S.int m] at rv
    exact call_int1 pins s σ H _ us Q I rv (.inl ⟨_, rfl, hq _ _ S.cint⟩)
  · cases hg
    rw [S.bl m] at rv
    exact call_int1 pins s σ H _ us Q I rv (.inr ⟨_, rfl, hq _ _ S.cint⟩)
  · split at hg
    · rename_i x hx
      rw [S.str m] at rv
      cases q : PySem.intText? x with
      | none => rw [q] at hg; cases hg
      | some z =>
        rw [q] at hg; cases hg
        exact call_int_str pins s σ H _ us Q I rv ⟨_, z, rfl, q, hx, hq _ _ S.cint⟩
    · cases hg
  · cases hg
theorem cd_str : CallD X Z (.type "str") (oneD strP) 9 9 := cd_one fun pins s σ H v us Q p r R n I rv S m hn hg hq => by
  unfold strP at hg
  split at hg
  · split at hg
    · rename_i i hi
      cases hg
      rw [S.int m] at rv
      exact call_str_int pins s σ H _ us Q I rv ⟨_, rfl, hi, hq _ _ S.cstr⟩
    · cases hg
  · cases hg
theorem cd_all (hc : X.calm = true) : CallD X Z (.builtin "all") (oneD allP) 9 9 := cd_one fun pins s σ H v us Q p r R n I rv S m hn hg hq => by
  unfold allP at hg
  split at hg
  · rename_i xs
    cases q : getBs xs with
    | none => rw [q] at hg; cases hg
    | some bs =>
      rw [q] at hg; cases hg
      obtain ⟨a, vs, G, rfl, h1, h2⟩ := S.listOf m
      rw [getBs_eq q] at h2
      exact cr_all hc pins s σ H _ us Q I rv ⟨a, bs, rfl, .of (by rw [h1, h2.bools]), hq _ _ S.cbl⟩
  · cases hg
theorem cd_any (hc : X.calm = true) : CallD X Z (.builtin "any") (oneD anyP) 9 9 := cd_one fun pins s σ H v us Q p r R n I rv S m hn hg hq => by
  unfold anyP at hg
  split at hg
  · rename_i xs
    cases q : getBs xs with
    | none => rw [q] at hg; cases hg
    | some bs =>
      rw [q] at hg; cases hg
      obtain ⟨a, vs, G, rfl, h1, h2⟩ := S.listOf m
      rw [getBs_eq q] at h2
      exact cr_any hc pins s σ H _ us Q I rv ⟨a, bs, rfl, .of (by rw [h1, h2.bools]), hq _ _ S.cbl⟩
  · cases hg
theorem cd_sum (hc : X.calm = true) : CallD X Z (.builtin "sum") (oneD sumP) 9 9 := cd_one fun pins s σ H v us Q p r R n I rv S m hn hg hq => by
  unfold sumP at hg
  split at hg
  · rename_i xs
    cases q : getIs xs with
    | none => rw [q] at hg; cases hg
    | some bs =>
      rw [q] at hg; cases hg
      obtain ⟨a, vs, G, rfl, h1, h2⟩ := S.listOf m
      rw [getIs_eq q] at h2
      exact cr_sum hc pins s σ H _ us Q I rv ⟨a, bs, rfl, .of (by rw [h1, h2.ints]), hq _ _ S.cint⟩
  · cases hg
theorem kids_scal {bs : List Int} (m : Nat) (S : Sim X.K Z H R) : Sim X.K Z H (kids m (bs.map .int) (bs.map V.int) ++ R) := by
  induction bs with
  | nil => exact S
  | cons b bs ih => exact ih.cint
theorem kids_scalS {bs : List Str} (m : Nat) (S : Sim X.K Z H R) : Sim X.K Z H (kids m (bs.map .str) (bs.map V.str) ++ R) := by
  induction bs with
  | nil => exact S
  | cons b bs ih => exact ih.cstr
theorem cd_list : CallD X Z (.type "list") listD 1 1 := by
  intro pins s σ H vs us Q I rv ⟨R, ds, r, S, a, hg, hq⟩
  unfold listD at hg
  split at hg
  · cases hg
    obtain ⟨v, n, rfl, hn, m⟩ := args1 a
    obtain ⟨l, rfl, hs⟩ := S.script m
    refine call_list_of pins s σ H _ us Q I rv ⟨_, _, rfl, .inl hs, fun q hp => hq _ _ ?_⟩
    exact Sim.mkL (n := 0) (kids_scal 0 S) (by simp) hp
  · rename_i x
    obtain ⟨v, n, rfl, hn, m⟩ := args1 a
    unfold listP at hg
    split at hg
    · cases hg
      obtain ⟨l, vs, rfl, h1, hl, S2⟩ := S.openL m hn
      exact call_list_of pins s σ H _ us Q I rv ⟨_, _, rfl, .inl (.of h1), fun q hp => hq _ _ (Sim.mkL (n := 0) S2 hl hp)⟩
    · cases hg
      obtain ⟨l, vs, rfl, h1, hl, S2⟩ := S.openT m hn
      exact call_list_of pins s σ H _ us Q I rv ⟨_, _, rfl, .inr h1, fun q hp => hq _ _ (Sim.mkL (n := 0) S2 hl hp)⟩
    · cases hg
  · cases hg
theorem cd_tuple : CallD X Z (.type "tuple") (oneD tupleP) 1 1 := cd_one fun pins s σ H v us Q p r R n I rv S m hn hg hq => by
  unfold tupleP at hg
  split at hg
  · cases hg
    obtain ⟨l, vs, rfl, h1, hl, S2⟩ := S.openL m hn
    exact call_tuple_of pins s σ H _ us Q I rv ⟨_, _, rfl, .inl ⟨.of h1, fun q hp => hq _ _ (Sim.mkT (n := 0) S2 hl hp)⟩⟩
  · cases hg
    obtain ⟨l, vs, rfl, h1, hl⟩ := S.seeT m
    exact call_tuple_of pins s σ H _ us Q I rv ⟨_, _, rfl, .inr ⟨h1, hq _ _ (S.again m hn)⟩⟩
  · cases hg
end

/-! ### isinstance against a built-in class -/
def tyName : DV → Option String
  | .d .none => some "NoneType"
  | .d (.bool _) => some "bool"
  | .d (.int _) => some "int"
  | .d (.str _) => some "str"
  | .d (.list _) => some "list"
  | .d (.tuple _) => some "tuple"
  | .d (.dict _) => some "dict"
  | _ => none
def isTy (a b : String) : Bool := a == b || (a == "bool" && b == "int")
def tyOk (T : String) : Bool := T == "int" || T == "bool" || T == "str" || T == "list" || T == "tuple" || T == "dict"
def isiM (T : String) (t : Tm) (f : M DV) : M DV := fun env => (f env).bind fun d e => .ofO ((t.now d e).bind fun x => (tyName x).map fun n => .d (.bool (isTy n T))) e
theorem kit_all (K : PySem.W.Frag) : ∀ a ∈ ["NoneType", "bool", "int", "str", "list", "tuple", "dict"], ∀ b ∈ ["int", "bool", "str", "list", "tuple", "dict"], PySem.W.kitOne K (.type a) (.type b) = some (isTy a b) := by
  intro a ha b hb
  simp only [List.mem_cons, List.not_mem_nil, or_false] at ha hb
  rcases ha with rfl | rfl | rfl | rfl | rfl | rfl | rfl <;> rcases hb with rfl | rfl | rfl | rfl | rfl | rfl <;> exact kit_ty (by decide +kernel)
end Lk
namespace Lk
open PySem PySem.Spec L2
section
variable {X : Cx} {Z : ClT} {W : WX} {φ φ1 φ2 φ3 φ' : List Nat} {t ta tb tc : Tm} {ts : List Tm} {fa fb fc : M DV} {f : M (List DV)} {σ : St} {H : Hp} {L : List Root} {env : Ev} {hs : List Held} {a b c : Expr} {es : List Expr} {pos p pos2 : Pos} {R : List Root} {n : Nat} {v : V}
theorem Sim.tyx {d : DV} {s : String} (S : Sim X.K Z H R) (h : (⟨n, d, v⟩ : Root) ∈ R) (ht : tyName d = some s) : TyX X.K H v (.type s) := by
  obtain ⟨G, hd⟩ := S.den h
  cases hd with
  | d hd =>
    cases hd with
    | non => cases ht; exact .base .non
    | bl b => cases ht; exact .base (.bl b)
    | int i => cases ht; exact .base (.int i)
    | str x => cases ht; exact .base (.str x)
    | lst h1 h2 => cases ht; exact .base (.lst h1)
    | tup h1 h2 =>
      cases ht
      rcases h1 with (h1 | ⟨ob, h1⟩) | ⟨o, its, n, h1, h2, _⟩
      · exact .base (.tup h1)
      · exact .fTuple h1
      · exact .kTuple h1 h2
    | dic h1 h2 h3 =>
      cases ht
      rcases h1 with ⟨kvs, h1, _⟩ | ⟨kvs, h1, _⟩
      · exact .base (.dK h1)
      · exact .base (.dT h1)
  | s _ => cases ht
  | o _ _ _ _ => cases ht
theorem tyName_mem {d : DV} {s : String} (ht : tyName d = some s) : s ∈ ["NoneType", "bool", "int", "str", "list", "tuple", "dict"] := by
  unfold tyName at ht
  split at ht <;> first | (cases ht; decide) | cases ht
theorem tyOk_mem {T : String} (h : tyOk T = true) : T ∈ ["int", "bool", "str", "list", "tuple", "dict"] := by
  unfold tyOk at h
  simp only [Bool.or_eq_true, beq_iff_eq] at h
  simp only [List.mem_cons, List.not_mem_nil, or_false]
  rcases h with ((((h | h) | h) | h) | h) | h <;> simp [h]
theorem je_isi {T : String} {x xt : Str} {pt : Pos} (hT : tyOk T = true) (hg : Gl X x) (hm : X.mg x = none) (hv : bootBuiltins x = some (.builtin "isinstance")) (hn : x ≠ "__name__") (hdb : (x == ("__debug__" : Str)) = false)
    (gt : Gl X xt) (mt : X.mg xt = none) (bt : bootBuiltins xt = some (.type T)) (nt : xt ≠ "__name__") (dt : (xt == ("__debug__" : Str)) = false)
    (hs : noStar a = true) (ha : JE X Z W φ a φ1 ta fa) : JE X Z W φ (.Call (.Name x p) [a, .Name xt pt] [] pos) φ1 (.v 9) (isiM T ta fa) := by
  have e0 : PE X (.Name xt pt) (tC (.ty T)) := pe_bltn gt mt bt rfl nt dt
  refine pe_imp (pe_callB call_isi hg hm hv (pa_cons ha (pa_cons e0 pa_nil) (star_eq hs)) hn hdb (star_eq hs)) fun σ H Q ⟨L, env, S, h⟩ => ?_
  refine rdE.go S (h.bind.mono fun d e1 h1 v H1 S1 => ?_)
  obtain ⟨r, q, h2⟩ := h1.ofO
  obtain ⟨x, q1, q⟩ := Option.bind_eq_some_iff.mp q
  obtain ⟨s, q2, rfl⟩ := Option.map_eq_some_iff.mp q
  obtain ⟨n, m, _⟩ := S1.mem (h := ⟨ta, d, v⟩) List.mem_cons_self q1
  refine ⟨v, .ty T, .type s, .type T, isTy s T, rfl, .ty T, S1.sim.tyx m q2, kit_all _ _ (tyName_mem q2) _ (tyOk_mem hT), ?_⟩
  refine h2 _ H1 ⟨S1.free.sim.cbl, S1.al, fun x hx => ?_⟩
  rw [List.mem_singleton.mp hx]; trivial

/-! ### list(range(..)) -/
def rgP (a b : Int) : List PyData := (List.range (b - a).toNat).map fun (i : Nat) => PyData.int (a + i)
theorem rgP_eq (a b : Int) : ∃ ns : List Int, rgP a b = ns.map .int ∧ rgV a b = ns.map V.int := by
  refine ⟨(List.range (b - a).toNat).map fun (i : Nat) => a + i, ?_, ?_⟩
  · unfold rgP; rw [List.map_map]; rfl
  · unfold rgV; rw [List.map_map]; rfl
def rgOk (a b : Int) : Bool := decide (0 ≤ a) && decide (a ≤ 1000000) && decide (0 ≤ b) && decide (b ≤ 1000000)
theorem rgOk_ok {a b : Int} (h : rgOk a b = true) : RgOk a b := by
  unfold rgOk at h
  simp only [Bool.and_eq_true, decide_eq_true_eq] at h
  exact .of_le (by omega) (by omega) (by omega) (by omega)
def rgD : Option DV → Option DV → Option DV
  | some (.d (.int a)), some (.d (.int b)) => if rgOk a b then some (.d (.list (rgP a b))) else none
  | _, _ => none
def rg1M (ta : Tm) (fa : M DV) : M DV := fun env => (fa env).bind fun d e => .ofO (rgD (some (.d (.int 0))) (ta.now d e)) e
def rg2M (ta tb : Tm) (fa fb : M DV) : M DV := fun env => (fa env).bind fun d e1 => (fb e1).bind fun d' e => .ofO (rgD (ta.now d e) (tb.now d' e)) e
theorem rgD_some {x y : Option DV} {r : DV} (h : rgD x y = some r) : ∃ a b, x = some (.d (.int a)) ∧ y = some (.d (.int b)) ∧ rgOk a b = true ∧ r = .d (.list (rgP a b)) := by
  unfold rgD at h
  split at h
  · split at h
    · rename_i hr
      cases h
      exact ⟨_, _, rfl, rfl, hr, rfl⟩
    · cases h
  · cases h
theorem rg_end {a b : Int} {Q : VK} {q : Addr} {e : Ev} (S : Stt X.K Z φ' e hs σ H L) (hq : H q = none) (h : ∀ v H', Stt X.K Z φ' e [⟨.v 9, .d (.list (rgP a b)), v⟩] σ H' L → Q v H') : Q (.ref q) (upd H q (.lst (rgV a b))) := by
  obtain ⟨ns, e1, e2⟩ := rgP_eq a b
  rw [e1] at h
  rw [e2]
  have S2 : Sim X.K Z H (kids 8 (ns.map .int) (ns.map V.int) ++ (roots φ' e σ ++ L)) := kids_scal 8 (S.sim.sub (List.sublist_append_right _ _))
  refine h _ _ ⟨Sim.mkL (n := 8) S2 (by simp) hq, S.al, fun x hx => ?_⟩
  rw [List.mem_singleton.mp hx]; trivial
theorem Stt.isI {h : Held} {k : Int} (S : Stt X.K Z φ env hs σ H L) (hh : h ∈ hs) (hd : h.t.now h.d env = some (.d (.int k))) : h.v = .int k := by
  obtain ⟨n, q, _⟩ := S.mem hh hd
  exact S.sim.int q
theorem je_listRg1 {x xr : Str} {pr : Pos} (hc : X.calm = true) (ex : x = "list") (er : xr = "range") (hg : Gl X x) (hm : X.mg x = none) (gr : Gl X xr) (mr : X.mg xr = none) (hs : noStar a = true) (ha : JE X Z W φ a φ1 ta fa) :
    JE X Z W φ (.Call (.Name x p) [.Call (.Name xr pr) [a] [] pos2] [] pos) φ1 (.v 9) (rg1M ta fa) := by
  subst ex; subst er
  refine pe_imp (pe_listRg hc hg hm (prg_1 gr mr ha (star_eq hs))) fun σ H Q ⟨L, env, S, h⟩ => ?_
  refine rdE.go S (h.bind.mono fun d e1 h1 v H1 S1 => ?_)
  obtain ⟨r, q, h2⟩ := h1.ofO
  obtain ⟨i, n, ei, q2, hr, rfl⟩ := rgD_some q
  cases ei
  exact ⟨n, S1.isI (h := ⟨ta, d, v⟩) List.mem_cons_self q2, rgOk_ok hr, fun q hq => rg_end S1 hq h2⟩
theorem je_listRg2 {x xr : Str} {pr : Pos} (hc : X.calm = true) (ex : x = "list") (er : xr = "range") (hg : Gl X x) (hm : X.mg x = none) (gr : Gl X xr) (mr : X.mg xr = none) (hs : noStar a = true) (hs2 : noStar b = true) (ha : JE X Z W φ a φ1 ta fa) (hb : JE X Z W φ1 b φ2 tb fb) :
    JE X Z W φ (.Call (.Name x p) [.Call (.Name xr pr) [a, b] [] pos2] [] pos) φ2 (.v 9) (rg2M ta tb fa fb) := by
  subst ex; subst er
  refine pe_imp (pe_listRg hc hg hm (prg_2 gr mr ha hb (star_eq hs) (star_eq hs2) (star_any (by simp [hs2])))) fun σ H Q ⟨L, env, S, h⟩ => ?_
  refine rdE.go S (h.bind.mono fun d e1 h1 v H1 S1 => ?_)
  refine rdE.go S1 (h1.bind.mono fun d' e2 h2 u H2 S2 => ?_)
  obtain ⟨r, q, h3⟩ := h2.ofO
  obtain ⟨i, j, q1, q2, hr, rfl⟩ := rgD_some q
  exact ⟨i, j, S2.isI (h := ⟨ta, d, v⟩) (List.mem_cons_of_mem _ List.mem_cons_self) q1, S2.isI (h := ⟨tb, d', u⟩) List.mem_cons_self q2, rgOk_ok hr, fun q hq => rg_end S2 hq h3⟩

/-! ### slices -/
/-- an optional bound -/
def rdO (X : Cx) (Z : ClT) (W : WX) (φ φ' : List Nat) (f : M (Option Int)) : TO := fun σ H Q => ∃ L env, Stt X.K Z φ env [] σ H L ∧ Wish X.K Z W L (f env) fun o e' => ∀ H', Stt X.K Z φ' e' [] σ H' L → Q o H'
def JO (X : Cx) (Z : ClT) (W : WX) (φ : List Nat) (e : Option Expr) (φ' : List Nat) (f : M (Option Int)) : Prop := PO X e (rdO X Z W φ φ' f)
theorem po_imp {e : Option Expr} {t t' : TO} (h : PO X e t) (i : ∀ σ H Q, t' σ H Q → t σ H Q) : PO X e t' := ⟨fun pins s σ H Q I q => h.run pins s σ H Q I (i _ _ _ q)⟩
theorem rdO.go {f : M (Option Int)} {P : Option Int → Hp → Prop} (S : Stt X.K Z φ env hs σ H L) (h : Wish X.K Z W L (f env) fun b e' => ∀ H', Stt X.K Z φ' e' hs σ H' L → P b H') : rdO X Z W φ φ' f σ H P := by
  have S0 : Stt X.K Z φ env [] σ H (hrts hs ++ L) := by
    refine ⟨S.sim.perm ?_, S.al, fun _ h => nomatch h⟩
    show (hrts hs ++ (roots φ env σ ++ L)).Perm ([] ++ (roots φ env σ ++ (hrts hs ++ L)))
    exact shuf (A := [])
  refine ⟨hrts hs ++ L, env, S0, Wish.mono h.frame fun d e' k H' S' => k H' ⟨S'.sim.perm ?_, S'.al, S.at'⟩⟩
  show ([] ++ (roots φ' e' σ ++ (hrts hs ++ L))).Perm (hrts hs ++ (roots φ' e' σ ++ L))
  exact shuf (A := [])
theorem jo_none : JO X Z W φ none φ (M.pure none) := po_imp po_none fun σ H Q ⟨L, env, S, h⟩ => by
  exact (show ∀ H', Stt X.K Z φ env [] σ H' L → Q none H' from h) H S
def intD : Option DV → Option (Option Int)
  | some (.d (.int n)) => some (some n)
  | _ => none
def someI (t : Tm) (f : M DV) : M (Option Int) := fun env => (f env).bind fun d e => .ofO (intD (t.now d e)) e
theorem intD_some {x : Option DV} {r : Option Int} (h : intD x = some r) : ∃ n, x = some (.d (.int n)) ∧ r = some n := by
  unfold intD at h
  split at h
  · cases h; exact ⟨_, rfl, rfl⟩
  · cases h
theorem jo_some (ha : JE X Z W φ a φ1 ta fa) : JO X Z W φ (some a) φ1 (someI ta fa) := po_imp (po_some ha) fun σ H Q ⟨L, env, S, h⟩ => by
  refine rdE.go S (h.bind.mono fun d e1 h1 v H1 S1 => ?_)
  obtain ⟨r, q, h2⟩ := h1.ofO
  obtain ⟨n, q2, rfl⟩ := intD_some q
  exact ⟨n, S1.isI (h := ⟨ta, d, v⟩) List.mem_cons_self q2, h2 H1 S1.free⟩
def cutP (xs : List PyData) (lo hi : Option Int) : List PyData := (xs.drop (HT.sIx xs.length 0 lo)).take (HT.sIx xs.length xs.length hi - HT.sIx xs.length 0 lo)
def slD : DV → Option Int → Option Int → Option DV
  | .s ns, lo, hi => some (.d (.list (((ns.drop (HT.sIx ns.length 0 lo)).take (HT.sIx ns.length ns.length hi - HT.sIx ns.length 0 lo)).map .int)))
  | .d (.list xs), lo, hi => some (.d (.list (cutP xs lo hi)))
  | .d (.tuple xs), lo, hi => some (.d (.tuple (cutP xs lo hi)))
  | .d (.str x), lo, hi => if x.length ≤ big then some (.d (.str (cutS x lo hi))) else none
  | _, _, _ => none
theorem kids_cut {m : Nat} {xs : List PyData} {vs : List V} {lo hi : Option Int} (h : xs.length = vs.length) : (kids m (cutP xs lo hi) (cutV vs lo hi)).Sublist (kids m xs vs) ∧ (cutP xs lo hi).length = (cutV vs lo hi).length := by
  unfold cutP cutV kids
  rw [h]
  refine ⟨?_, by simp [h]⟩
  rw [← List.take_zipWith, ← List.drop_zipWith]
  exact (List.take_sublist _ _).trans (List.drop_sublist _ _)
theorem sl_runD {x : V} {lo hi : Option Int} {Q : VK} {d r : DV} (S : Sim X.K Z H R) (m : (⟨n, d, x⟩ : Root) ∈ R) (hn : n ≤ 1) (hg : slD d lo hi = some r) (hq : ∀ w H', Sim X.K Z H' (⟨1, r, w⟩ :: R) → Q w H') :
    (rSlL X.K x lo hi H Q ∨ rSlA X.K x lo hi H Q) ∨ rSlS x lo hi H Q := by
  cases d with
  | s ns =>
    cases hg
    obtain ⟨a, rfl, hl⟩ := S.script m
    refine .inl (.inl ⟨a, _, rfl, hl, fun p hp => hq _ _ ?_⟩)
    have e : cutV (ns.map V.int) lo hi = ((ns.drop (HT.sIx ns.length 0 lo)).take (HT.sIx ns.length ns.length hi - HT.sIx ns.length 0 lo)).map V.int := by
      unfold cutV; rw [List.length_map, List.map_take, List.map_drop]
    rw [e]
    exact Sim.mkL (n := 0) (kids_scal 0 S) (by simp) hp
  | d x =>
    cases x with
    | list xs =>
      cases hg
      obtain ⟨a, vs, rfl, h1, hl, S2⟩ := S.openL m hn
      have k := kids_cut (m := 0) (lo := lo) (hi := hi) hl
      exact .inl (.inl ⟨a, vs, rfl, .of h1, fun p hp => hq _ _ (Sim.mkL (n := 0) (S2.sub (k.1.append_right R)) k.2 hp)⟩)
    | tuple xs =>
      cases hg
      obtain ⟨a, vs, rfl, h1, hl, S2⟩ := S.openT m hn
      have k := kids_cut (m := 0) (lo := lo) (hi := hi) hl
      refine .inl (.inr ⟨a, vs, rfl, h1, fun z => ?_, fun _ p hp => hq _ _ (Sim.mkT (n := 0) (S2.sub (k.1.append_right R)) k.2 hp)⟩)
      have e : cutP xs lo hi = xs := by unfold cutP; rw [hl, z.1, z.2, List.drop_zero, Nat.sub_zero, ← hl, List.take_length]
      rw [e] at hq
      exact hq _ _ (S.again m hn)
    | str y =>
      have hg : (if y.length ≤ big then some (DV.d (.str (cutS y lo hi))) else none) = some r := hg
      split at hg
      · rename_i hx
        cases hg
        rw [S.str m]
        exact .inr ⟨_, rfl, big_line hx, hq _ _ S.cstr⟩
      · cases hg
    | _ => cases hg
  | _ => cases hg
theorem sl_all : SlR X (fun x lo hi H Q => (rSlL X.K x lo hi H Q ∨ rSlA X.K x lo hi H Q) ∨ rSlS x lo hi H Q) := (sl_list.or sl_tupA).or sl_str
def slM (ta : Tm) (fa : M DV) (fl fh : M (Option Int)) : M DV := fun env => (fa env).bind fun d e1 => (fl e1).bind fun lo e2 => (fh e2).bind fun hi e => .ofO ((ta.now d e).bind fun x => slD x lo hi) e
theorem je_slice {lo hi : Option Expr} {fl fh : M (Option Int)} {p2 : Pos} (ha : JE X Z W φ a φ1 ta fa) (hl : JO X Z W φ1 lo φ2 fl) (hh : JO X Z W φ2 hi φ3 fh) :
    JE X Z W φ (.Subscript a (.Slice lo hi none p2) pos) (capS 1 (slotsOf [ta]) φ3) (.v 1) (slM ta fa fl fh) := by
  refine pe_imp (pe_slice sl_all ha hl hh) fun σ H Q ⟨L, env, S, h⟩ => ?_
  refine rdE.go S (h.bind.mono fun d e1 h1 v H1 S1 => ?_)
  refine rdO.go S1 (h1.bind.mono fun lo e2 h2 H2 S2 => ?_)
  refine rdO.go S2 (h2.bind.mono fun hi e3 h3 H3 S3 => ?_)
  obtain ⟨r, q, h4⟩ := h3.ofO
  obtain ⟨x, q, q2⟩ := Option.bind_eq_some_iff.mp q
  obtain ⟨n, hn, m⟩ := S3.memC (c := 1) (h := ⟨ta, d, v⟩) List.mem_cons_self q
  have S4 := S3.cap 1
  have key : ∀ w H', Sim X.K Z H' (⟨1, r, w⟩ :: _) → Q w H' := fun w H' s => h4 w H' (Stt.done (as := [Held.cap 1 ⟨ta, d, v⟩]) (hs := []) S4 s)
  exact sl_runD S4.sim m hn q2 key
end
end Lk
namespace Lk
open PySem PySem.Spec L2

inductive Md where
  | fz
  | io (m m' : Nat)
inductive Res where
  | ok (d : DV) (outs : List DV)
  | ex (c : Nat) (g : PyData)
  | bad
def argR : List Md → List DV → List V → List Root
  | .fz :: ms, d :: ds, v :: vs => ⟨0, d, v⟩ :: argR ms ds vs
  | .io m _ :: ms, d :: ds, v :: vs => ⟨m, d, v⟩ :: argR ms ds vs
  | _, _, _ => []
def outR : List Md → List DV → List V → List Root
  | .fz :: ms, outs, _ :: vs => outR ms outs vs
  | .io _ m' :: ms, o :: outs, v :: vs => ⟨m', o, v⟩ :: outR ms outs vs
  | _, _, _ => []
def XC (K : PySem.W.Frag) (Z : ClT) (E : XK) (L : List Root) (c : Nat) (g : PyData) : Prop :=
  ∀ (C a : Addr) (v : V) (H' : Hp), Z c = some C → H' a = some (.xd [(fldOf c, v)]) → Sim K Z H' (⟨0, .d g, v⟩ :: L) → E (.ref C) (some a) H'
def spD (K : PySem.W.Frag) (Z : ClT) (ms : List Md) (kr : Nat) (F : List DV → Res) : Sp := fun vs H Q E => ∃ L ds, vs.length = ms.length ∧ ds.length = ms.length ∧ Sim K Z H (argR ms ds vs ++ L) ∧ match F ds with
  | .ok d outs => ∀ v H', Sim K Z H' (⟨kr, d, v⟩ :: (outR ms outs vs ++ L)) → Q v H'
  | .ex c g => XC K Z E L c g
  | .bad => False
structure FnOkG (P : Program) (w : World) (K : PySem.W.Frag) (mg : Str → Option Value) (base : Heap) (k : Nat) (f : Addr) (fd : FuncData) (ps : List Str) (sp : Sp) : Prop where
  len : ∀ vs H Q E, sp vs H Q E → vs.length = ps.length
  run : ∀ (A : Around) (outer : List PySem.Env) (s : Shared) (H : Hp) (args : Args) (us : List Value) (vs : List V) (Q : VK) (E : XK), Room k A → A.guards = some [] → Env0 P w K mg base A outer s H → BindsTo s fd args (ps.zip us) →
    Vals vs us → sp vs H Q E → codeAny (model P w) A (.call (.ref f) args) (CR (L2.CX P w) outer P w H s Q E) s
theorem FnOkG.mono {P : Program} {w : World} {K : PySem.W.Frag} {mg : Str → Option Value} {base : Heap} {j k : Nat} {f : Addr} {fd : FuncData} {ps : List Str} {sp : Sp} (F : FnOkG P w K mg base j f fd ps sp) (h : j ≤ k) : FnOkG P w K mg base k f fd ps sp :=
  ⟨F.len, fun A outer s H args us vs Q E hr => F.run A outer s H args us vs Q E (hr.mono h)⟩

section
variable {X : Cx} {Z : ClT} {W : WX} {φ φ1 φ2 φ' : List Nat} {t ta : Tm} {ts : List Tm} {fa : M DV} {f : M (List DV)} {σ : St} {H : Hp} {L : List Root} {env : Ev} {hs : List Held} {a : Expr} {es : List Expr} {pos p : Pos} {k : Nat} {fn : Addr} {fd : FuncData} {ps : List Str} {sp : Sp} {x : Str}
theorem run_g {pins : List (Addr × Obj)} {s : Shared} {Q : VK} {us : List Value} {vs : List V} (F : FnOkG X.prog X.w X.K X.mg X.base k fn fd ps sp) (hr : Room k X.A) (hgd : X.A.guards = some []) (hb : Binds X.K fd ps []) (tk : Takes X W)
    (I : Inv X pins σ H s) (r : Vals vs us) (h : sp vs H Q fun cls d H' => W cls d σ H') : wpAny (model X.prog X.w) X.A (call (.ref fn) us) (EP X pins σ Q) X.xe s := by
  have hl : (us ++ []).length = ps.length := by
    rw [List.append_nil, ← r.length]
    exact F.len _ _ _ _ h
  have run := F.run X.A X.stack s H ⟨us, []⟩ us vs Q _ hr hgd I.env0 (by have q := hb s us I.kIn hl; rwa [List.append_nil] at q) r h
  refine wpAny_call (codeAny_mono run fun o s' hq => ?_)
  match o, hq with
  | .error e, hq => exact tk e s' (XE.of_call I (fun _ _ _ z => z) hq)
  | .ok (.ret u), hq => exact I.after hq
  | .ok .next, hq => exact False.elim hq
  | .ok .brk, hq => exact False.elim hq
  | .ok .cont, hq => exact False.elim hq
theorem pe_callG {t : TA} (F : FnOkG X.prog X.w X.K X.mg X.base k fn fd ps sp) (hr : Room k X.A) (hgd : X.A.guards = some []) (hg : Gl X x) (hm : X.mg x = some (.ref fn)) (hk : PySem.W.keepIn X.K (.ref fn) = true) (hb : Binds X.K fd ps []) (tk : Takes X W)
    (hdb : (x == ("__debug__" : Str)) = false) (hs : noStar a = true) (hpl : es.all noStar = true) (ha : PA X (a :: es) t) : PE X (.Call (.Name x p) (a :: es) [] pos) (fun σ H Q => t σ H fun vs H1 => sp vs H1 Q fun cls d H' => W cls d σ H') := by
  constructor
  intro pins s σ H Q I h
  have body := fun (s1 : Shared) (us : List Value) (q : AP X pins σ (fun vs H1 => sp vs H1 Q fun cls d H' => W cls d σ H') us s1) =>
    show X.K.In s1.heap ∧ wpAny (model X.prog X.w) X.A (call (.ref fn) us) (EP X pins σ Q) X.xe s1 from
    let ⟨_, _, I1, r, z⟩ := q
    ⟨I1.kIn, run_g F hr hgd hb tk I1 r z⟩
  refine wpAny_Call_Name_kw (ld_glob I hg hm ?_ hdb)
  exact PySem.W.callWith_K (h₀ := X.base) I.ok.mod.kin hk (thn (ha.run pos pins s σ H _ I h) fun us s1 q => body s1 us q) (star_eq hs) (star_any hpl)

/-! ### operands as a call wants them -/
/-- frozen parameters get values, the others a name each -/
def fitM : List Md → List Tm → List Nat → Bool
  | .fz :: ms, .v _ :: ts, φ => fitM ms ts φ
  | .io m _ :: ms, .sl i :: ts, φ => (match φ[i]? with
    | some n => decide (m ≤ n)
    | none => false) && !(ts.any fun t => match t with
      | .sl j => i == j
      | .v _ => false) && fitM ms ts φ
  | .io m _ :: ms, .v k :: ts, φ => decide (m ≤ k) && fitM ms ts φ
  | [], [], _ => true
  | _, _, _ => false
/-- the slots handed over are empty meanwhile -/
def clrM : List Tm → Ev → Ev
  | .sl i :: ts, e => clrM ts (e.set i none)
  | .v _ :: ts, e => clrM ts e
  | [], e => e
def putM : List Md → List Tm → List DV → Ev → Option Ev
  | .fz :: ms, _ :: ts, outs, e => putM ms ts outs e
  | .io _ _ :: ms, .sl i :: ts, o :: outs, e => putM ms ts outs (e.set i (some o))
  | .io _ _ :: ms, .v _ :: ts, _ :: outs, e => putM ms ts outs e
  | [], [], [], e => some e
  | _, _, _, _ => none
def flM : List Md → List Tm → List Nat → List Nat
  | .fz :: ms, _ :: ts, φ => flM ms ts φ
  | .io _ m' :: ms, .sl i :: ts, φ => flM ms ts (φ.set i m')
  | .io _ _ :: ms, .v _ :: ts, φ => flM ms ts φ
  | _, _, φ => φ
theorem Al.clr : ∀ {φ : List Nat} {e : Ev} {σ : St} {i : Nat}, Al φ e σ → Al φ (e.set i none) σ
  | [], [], [], _, a => a
  | _ :: φ, d :: e, v :: σ, 0, a => ⟨fun h => by simp at h, a.2⟩
  | _ :: φ, d :: e, v :: σ, i + 1, a => ⟨a.1, Al.clr (i := i) a.2⟩
  | [], [], _ :: _, _, a => a.elim
  | [], _ :: _, [], _, a => a.elim
  | [], _ :: _, _ :: _, _, a => a.elim
  | _ :: _, [], [], _, a => a.elim
  | _ :: _, [], _ :: _, _, a => a.elim
  | _ :: _, _ :: _, [], _, a => a.elim
theorem slot_set_ne {e : Ev} {i j : Nat} {o : Option DV} (h : i ≠ j) : slot (e.set i o) j = slot e j := by
  unfold slot
  rw [List.getElem?_set_ne h]
theorem nowsD_set {e : Ev} {i : Nat} {o : Option DV} : ∀ {ts : List Tm} {ds : List DV}, (ts.any fun t => match t with
    | .sl j => i == j
    | .v _ => false) = false → nowsD ts ds (e.set i o) = nowsD ts ds e
  | [], [], _ => rfl
  | [], _ :: _, _ => rfl
  | _ :: _, [], _ => rfl
  | t :: ts, d :: ds, h => by
    simp only [List.any_cons, Bool.or_eq_false_iff] at h
    unfold nowsD
    rw [nowsD_set h.2]
    cases t with
    | v k => rfl
    | sl j =>
      have hne : i ≠ j := by simpa using h.1
      show (match slot (e.set i o) j, _ with | some x, some xs => some (x :: xs) | _, _ => none) = _
      rw [slot_set_ne hne]; rfl
/-- into the call -/
theorem call_in : ∀ {ms : List Md} {ts : List Tm} {ds : List DV} {vs : List V} {xs : List DV} {e : Ev} {R : List Root}, fitM ms ts φ = true → ds.length = ts.length → vs.length = ts.length → nowsD ts ds e = some xs → (∀ h ∈ zipH ts ds vs, h.at σ) → Al φ e σ →
    Sim X.K Z H (hrts (zipH ts ds vs) ++ (roots φ e σ ++ R)) → Sim X.K Z H (argR ms xs vs ++ (roots φ (clrM ts e) σ ++ R)) ∧ Al φ (clrM ts e) σ ∧ xs.length = ms.length ∧ vs.length = ms.length
  | [], [], [], [], xs, e, R, _, _, _, h, _, al, S => by
    cases h
    exact ⟨S, al, rfl, rfl⟩
  | .fz :: ms, .v k :: ts, d :: ds, v :: vs, xs, e, R, hf, hd, hv, h, hat, al, S => by
    unfold nowsD at h
    cases q : nowsD ts ds e with
    | none => rw [q] at h; cases h
    | some ys =>
      rw [q] at h
      cases h
      have S2 : Sim X.K Z H (hrts (zipH ts ds vs) ++ (roots φ e σ ++ (⟨k, d, v⟩ :: R))) := by
        refine S.perm ?_
        show (⟨k, d, v⟩ :: (hrts (zipH ts ds vs) ++ (roots φ e σ ++ R))).Perm _
        rw [← List.append_assoc, ← List.append_assoc]
        exact List.perm_middle.symm
      obtain ⟨S3, a3, l1, l2⟩ := call_in (ms := ms) hf (by simpa using hd) (by simpa using hv) q (fun h hh => hat h (List.mem_cons_of_mem _ hh)) al S2
      refine ⟨?_, a3, by simp [l1], by simp [l2]⟩
      have S4 := S3.less (R' := argR ms ys vs ++ (roots φ (clrM ts e) σ ++ (⟨0, d, v⟩ :: R))) (Less.app (Less.refl _) (Less.app (Less.refl _) (.cons ⟨Nat.zero_le _, rfl, rfl⟩ (Less.refl _))))
      refine S4.perm (?_ : List.Perm _ (⟨0, d, v⟩ :: (argR ms ys vs ++ (roots φ (clrM ts e) σ ++ R))))
      rw [← List.append_assoc, ← List.append_assoc]
      exact List.perm_middle
  | .io m m' :: ms, .sl i :: ts, d :: ds, v :: vs, xs, e, R, hf, hd, hv, h, hat, al, S => by
    unfold fitM at hf
    simp only [Bool.and_eq_true, Bool.not_eq_true'] at hf
    obtain ⟨⟨hf1, hf2⟩, hf3⟩ := hf
    unfold nowsD at h
    cases q0 : (Tm.sl i).now d e with
    | none => rw [q0] at h; cases h
    | some x =>
      cases q : nowsD ts ds e with
      | none => rw [q0, q] at h; cases h
      | some ys =>
        rw [q0, q] at h
        cases h
        have q0' : slot e i = some x := q0
        obtain ⟨n, v', g1, g2, gp⟩ := al.get q0'
        have hvv : v' = v := by
          have z : σ[i]? = some (some v) := hat _ List.mem_cons_self
          rw [g2] at z; cases z; rfl
        subst hvv
        rw [g1] at hf1
        have hmn : m ≤ n := of_decide_eq_true hf1
        have S2 : Sim X.K Z H (hrts (zipH ts ds vs) ++ (roots φ (e.set i none) σ ++ (⟨m, x, v'⟩ :: R))) := by
          have S1 : Sim X.K Z H (⟨n, x, v'⟩ :: (hrts (zipH ts ds vs) ++ (roots φ (e.set i none) σ ++ R))) := by
            refine S.perm ?_
            show (hrts (zipH ts ds vs) ++ (roots φ e σ ++ R)).Perm _
            refine (List.Perm.append_left _ (List.Perm.append_right R gp)).trans ?_
            exact List.perm_middle
          refine (S1.weak hmn).perm ?_
          rw [← List.append_assoc, ← List.append_assoc]
          exact List.perm_middle.symm
        obtain ⟨S3, a3, l1, l2⟩ := call_in (ms := ms) hf3 (by simpa using hd) (by simpa using hv) ((nowsD_set hf2).trans q) (fun h hh => hat h (List.mem_cons_of_mem _ hh)) al.clr S2
        refine ⟨S3.perm (?_ : List.Perm _ (⟨m, x, v'⟩ :: (argR ms ys vs ++ (roots φ (clrM ts (e.set i none)) σ ++ R)))), a3, by simp [l1], by simp [l2]⟩
        rw [← List.append_assoc, ← List.append_assoc]
        exact List.perm_middle
  | [], _ :: _, _, _, _, _, _, hf, _, _, _, _, _, _ => by simp [fitM] at hf
  | .fz :: _, [], _, _, _, _, _, hf, _, _, _, _, _, _ => by simp [fitM] at hf
  | .io _ _ :: _, [], _, _, _, _, _, hf, _, _, _, _, _, _ => by simp [fitM] at hf
  | .fz :: _, .sl _ :: _, _, _, _, _, _, hf, _, _, _, _, _, _ => by simp [fitM] at hf
  | .io m m' :: ms, .v k :: ts, d :: ds, v :: vs, xs, e, R, hf, hd, hv, h, hat, al, S => by
    unfold fitM at hf
    simp only [Bool.and_eq_true, decide_eq_true_eq] at hf
    unfold nowsD at h
    cases q : nowsD ts ds e with
    | none => rw [q] at h; cases h
    | some ys =>
      rw [q] at h
      cases h
      have S2 : Sim X.K Z H (hrts (zipH ts ds vs) ++ (roots φ e σ ++ (⟨k, d, v⟩ :: R))) := by
        refine S.perm ?_
        show (⟨k, d, v⟩ :: (hrts (zipH ts ds vs) ++ (roots φ e σ ++ R))).Perm _
        rw [← List.append_assoc, ← List.append_assoc]
        exact List.perm_middle.symm
      obtain ⟨S3, a3, l1, l2⟩ := call_in (ms := ms) hf.2 (by simpa using hd) (by simpa using hv) q (fun h hh => hat h (List.mem_cons_of_mem _ hh)) al S2
      refine ⟨?_, a3, by simp [l1], by simp [l2]⟩
      have S4 := S3.less (R' := argR ms ys vs ++ (roots φ (clrM ts e) σ ++ (⟨m, d, v⟩ :: R))) (Less.app (Less.refl _) (Less.app (Less.refl _) (.cons ⟨hf.1, rfl, rfl⟩ (Less.refl _))))
      refine S4.perm (?_ : List.Perm _ (⟨m, d, v⟩ :: (argR ms ys vs ++ (roots φ (clrM ts e) σ ++ R))))
      rw [← List.append_assoc, ← List.append_assoc]
      exact List.perm_middle
  | [], [], _ :: _, _, _, _, _, _, hd, _, _, _, _, _ => by simp at hd
  | [], [], [], _ :: _, _, _, _, _, _, hv, _, _, _, _ => by simp at hv
  | .fz :: _, .v _ :: _, [], _, _, _, _, _, hd, _, _, _, _, _ => by simp at hd
  | .fz :: _, .v _ :: _, _ :: _, [], _, _, _, _, _, hv, _, _, _, _ => by simp at hv
  | .io _ _ :: _, .sl _ :: _, [], _, _, _, _, _, hd, _, _, _, _, _ => by simp at hd
  | .io _ _ :: _, .sl _ :: _, _ :: _, [], _, _, _, _, _, hv, _, _, _, _ => by simp at hv

theorem roots_clr : ∀ {φ : List Nat} {e : Ev} {σ : St} {i : Nat}, (roots φ (e.set i none) σ).Sublist (roots φ e σ)
  | n :: φ, some d :: e, some v :: σ, 0 => List.sublist_cons_self _ _
  | n :: φ, none :: e, some v :: σ, 0 => .refl _
  | n :: φ, some d :: e, none :: σ, 0 => .refl _
  | n :: φ, none :: e, none :: σ, 0 => .refl _
  | n :: φ, some d :: e, some v :: σ, i + 1 => .cons_cons _ (roots_clr (i := i))
  | n :: φ, none :: e, some v :: σ, i + 1 => roots_clr (i := i)
  | n :: φ, some d :: e, none :: σ, i + 1 => roots_clr (i := i)
  | n :: φ, none :: e, none :: σ, i + 1 => roots_clr (i := i)
  | [], e, σ, i => by cases e <;> cases i <;> exact .refl _
  | _ :: _, [], σ, i => .refl _
  | _ :: _, d :: _, [], i => by cases d <;> cases i <;> exact .refl _
theorem call_out : ∀ {ms : List Md} {ts : List Tm} {ds : List DV} {vs : List V} {outs : List DV} {e e' : Ev} {φ ψ : List Nat} {R : List Root}, fitM ms ts ψ = true → ds.length = ts.length → vs.length = ts.length → putM ms ts outs e = some e' → (∀ h ∈ zipH ts ds vs, h.at σ) → Al φ e σ →
    Sim X.K Z H (outR ms outs vs ++ (roots φ e σ ++ R)) → Sim X.K Z H (roots (flM ms ts φ) e' σ ++ R) ∧ Al (flM ms ts φ) e' σ
  | [], [], _, _, [], e, e', φ, ψ, R, _, _, _, hp, _, al, S => by
    cases hp
    exact ⟨S, al⟩
  | .fz :: ms, .v k :: ts, d :: ds, v :: vs, outs, e, e', φ, ψ, R, hf, hd, hv, hp, hat, al, S =>
    call_out (ms := ms) (ts := ts) (ds := ds) (vs := vs) (ψ := ψ) hf (by simpa using hd) (by simpa using hv) hp (fun h hh => hat h (List.mem_cons_of_mem _ hh)) al S
  | .io m m' :: ms, .sl i :: ts, d :: ds, v :: vs, o :: outs, e, e', φ, ψ, R, hf, hd, hv, hp, hat, al, S => by
    unfold fitM at hf
    simp only [Bool.and_eq_true, Bool.not_eq_true'] at hf
    have z : σ[i]? = some (some v) := hat _ List.mem_cons_self
    obtain ⟨a2, p2⟩ := al.setE (d' := o) m' z
    refine call_out (ms := ms) (ts := ts) (ds := ds) (vs := vs) (ψ := ψ) hf.2 (by simpa using hd) (by simpa using hv) hp (fun h hh => hat h (List.mem_cons_of_mem _ hh)) a2 ?_
    have S1 : Sim X.K Z H (⟨m', o, v⟩ :: (outR ms outs vs ++ (roots φ (e.set i none) σ ++ R))) :=
      S.sub (.cons_cons _ (List.Sublist.append_left (List.Sublist.append_right roots_clr R) _))
    refine S1.perm ?_
    refine List.Perm.trans ?_ (List.Perm.append_left _ (List.Perm.append_right R p2.symm))
    rw [List.cons_append]
    exact List.perm_middle.symm
  | [], _ :: _, _, _, _, _, _, _, _, _, hf, _, _, _, _, _, _ => by simp [fitM] at hf
  | .fz :: _, [], _, _, _, _, _, _, _, _, hf, _, _, _, _, _, _ => by simp [fitM] at hf
  | .io _ _ :: _, [], _, _, _, _, _, _, _, _, hf, _, _, _, _, _, _ => by simp [fitM] at hf
  | .fz :: _, .sl _ :: _, _, _, _, _, _, _, _, _, hf, _, _, _, _, _, _ => by simp [fitM] at hf
  | .io m m' :: ms, .v k :: ts, d :: ds, v :: vs, o :: outs, e, e', φ, ψ, R, hf, hd, hv, hp, hat, al, S => by
    unfold fitM at hf
    simp only [Bool.and_eq_true, decide_eq_true_eq] at hf
    exact call_out (ms := ms) (ts := ts) (ds := ds) (vs := vs) (ψ := ψ) hf.2 (by simpa using hd) (by simpa using hv) hp (fun h hh => hat h (List.mem_cons_of_mem _ hh)) al (S.sub (List.sublist_cons_self _ _))
  | .io _ _ :: _, .v _ :: _, _, _, [], _, _, _, _, _, _, _, _, hp, _, _, _ => by simp [putM] at hp
  | .io _ _ :: _, .v _ :: _, [], _, _ :: _, _, _, _, _, _, _, hd, _, _, _, _, _ => by simp at hd
  | .io _ _ :: _, .v _ :: _, _ :: _, [], _ :: _, _, _, _, _, _, _, _, hv, _, _, _, _ => by simp at hv
  | [], [], _, _, _ :: _, _, _, _, _, _, _, _, _, hp, _, _, _ => by simp [putM] at hp
  | .io _ _ :: _, .sl _ :: _, _, _, [], _, _, _, _, _, _, _, _, hp, _, _, _ => by simp [putM] at hp
  | .fz :: _, .v _ :: _, [], _, _, _, _, _, _, _, _, hd, _, _, _, _, _ => by simp at hd
  | .fz :: _, .v _ :: _, _ :: _, [], _, _, _, _, _, _, _, _, hv, _, _, _, _ => by simp at hv
  | .io _ _ :: _, .sl _ :: _, [], _, _ :: _, _, _, _, _, _, _, hd, _, _, _, _, _ => by simp at hd
  | .io _ _ :: _, .sl _ :: _, _ :: _, [], _ :: _, _, _, _, _, _, _, _, hv, _, _, _, _ => by simp at hv
def callF (F : List DV → Res) (ms : List Md) (ts : List Tm) (f : M (List DV)) : M DV := fun env => (f env).bind fun ds e => match nowsD ts ds e with
  | some xs => (match F xs with
    | .ok d outs => (match putM ms ts outs (clrM ts e) with
      | some e' => .ok d e'
      | none => .bad)
    | .ex c g => .ex c g (clrM ts e)
    | .bad => .bad)
  | none => .bad
theorem zeros_le : ∀ {φ : List Nat} {e : Ev}, φ.length = e.length → leN (zeros e) φ = true
  | [], [], _ => rfl
  | n :: φ, d :: e, h => by
    show (decide (0 ≤ n) && leN (zeros e) φ) = true
    simp [zeros_le (φ := φ) (e := e) (by simpa using h)]
  | [], _ :: _, h => by simp at h
  | _ :: _, [], h => by simp at h
theorem callF_core {F : List DV → Res} {ms : List Md} {kr : Nat} {Q : VK} {ds : List DV} {vs : List V} (hf : fitM ms ts φ2 = true) (hl : ds.length = ts.length) (hv : vs.length = ts.length) (S : Stt X.K Z φ2 env (zipH ts ds vs) σ H L)
    (h : Wish X.K Z W L (match nowsD ts ds env with
      | some xs => (match F xs with
        | .ok d outs => (match putM ms ts outs (clrM ts env) with
          | some e' => Out.ok d e'
          | none => .bad)
        | .ex c g => .ex c g (clrM ts env)
        | .bad => .bad)
      | none => .bad) fun d e' => ∀ v H', Stt X.K Z (flM ms ts φ2) e' [⟨.v kr, d, v⟩] σ H' L → Q v H') : spD X.K Z ms kr F vs H Q fun cls d H' => W cls d σ H' := by
  cases q : nowsD ts ds env with
  | none => rw [q] at h; exact h.elim
  | some xs =>
    rw [q] at h
    simp only at h
    obtain ⟨S2, a2, l1, l2⟩ := call_in hf hl hv q S.at' S.al S.sim
    refine ⟨_, xs, l2, l1, S2, ?_⟩
    cases q2 : F xs with
    | bad => rw [q2] at h; exact h.elim
    | ex c g =>
      rw [q2] at h
      have h : XP X.K Z W L c g (clrM ts env) := h
      intro C a v H' hz hx S3
      have hlen := a2.len
      obtain ⟨a3, le3⟩ := a2.less (zeros_le (by rw [hlen.1, hlen.2]))
      exact h C a v σ H' hz hx (S3.less (.cons ⟨Nat.le_refl _, rfl, rfl⟩ (Less.app le3 (Less.refl L)))) a3
    | ok d outs =>
      rw [q2] at h
      simp only at h
      cases q3 : putM ms ts outs (clrM ts env) with
      | none => rw [q3] at h; exact h.elim
      | some e' =>
        rw [q3] at h
        intro v H' S3
        have S4 : Sim X.K Z H' (outR ms outs vs ++ (roots φ2 (clrM ts env) σ ++ (⟨kr, d, v⟩ :: L))) := by
          refine S3.perm ?_
          rw [← List.append_assoc, ← List.append_assoc]
          exact List.perm_middle.symm
        obtain ⟨S5, a5⟩ := call_out hf hl hv q3 S.at' a2 S4
        refine h v H' ⟨S5.perm ?_, a5, fun x hx => ?_⟩
        · show (roots (flM ms ts φ2) e' σ ++ (⟨kr, d, v⟩ :: L)).Perm (⟨kr, d, v⟩ :: (roots (flM ms ts φ2) e' σ ++ L))
          exact List.perm_middle
        · rw [List.mem_singleton.mp hx]; trivial
theorem je_call {F : List DV → Res} {ms : List Md} {kr : Nat} (G : FnOkG X.prog X.w X.K X.mg X.base k fn fd ps (spD X.K Z ms kr F)) (hr : Room k X.A) (hgd : X.A.guards = some []) (hg : Gl X x) (hm : X.mg x = some (.ref fn)) (hk : PySem.W.keepIn X.K (.ref fn) = true) (hb : Binds X.K fd ps [])
    (tk : Takes X W) (hdb : (x == ("__debug__" : Str)) = false) (hs : noStar a = true) (hpl : es.all noStar = true) (ha : JA X Z W φ (a :: es) φ2 ts f) (hf : fitM ms ts φ2 = true) :
    JE X Z W φ (.Call (.Name x p) (a :: es) [] pos) (flM ms ts φ2) (.v kr) (callF F ms ts f) := by
  refine pe_imp (pe_callG G hr hgd hg hm hk hb tk hdb hs hpl ha) fun σ H Q ⟨L, env, S, h⟩ => ?_
  exact ⟨L, env, S, h.bind.mono fun ds e' h1 vs H' hl hv S' => callF_core hf hl hv S' h1⟩
end
end Lk
namespace Lk
open PySem PySem.Spec L2

inductive Fl where
  | nx | br | ct
  | rt (d : DV)
def outsAt (P : List (Nat × Nat)) (e : Ev) : Option (List DV) := match P with
  | [] => some []
  | (i, _) :: P => match slot e i, outsAt P e with
    | some d, some ds => some (d :: ds)
    | _, _ => none
def retR : List (Nat × Nat) → List DV → List V → List Root
  | (_, m) :: P, d :: ds, v :: vs => ⟨m, d, v⟩ :: retR P ds vs
  | _, _, _ => []
/-- the values of the parameters that go back stand in their slots -/
def Pok (P : List (Nat × Nat)) (pv : List V) (σ : St) : Prop := Paired (fun p v => σ[p.1]? = some (some v)) P pv
section
variable (X : Cx) (Z : ClT) (W : WX) (P : List (Nat × Nat)) (kr : Nat)
structure SF where
  n : List Nat
  b : List Nat
  c : List Nat
def rdS (φ : List Nat) (ψ : SF) (g : M Fl) : TS := fun D σ H => ∃ L env pv, Stt X.K Z φ env [] σ H L ∧ Pok P pv σ ∧ Wish X.K Z W L (g env) fun fl e' => match fl with
  | .nx => ∀ σ' H', Stt X.K Z ψ.n e' [] σ' H' L → Pok P pv σ' → D.nx σ' H'
  | .br => ∀ σ' H', Stt X.K Z ψ.b e' [] σ' H' L → Pok P pv σ' → D.bk σ' H'
  | .ct => ∀ σ' H', Stt X.K Z ψ.c e' [] σ' H' L → Pok P pv σ' → D.ct σ' H'
  | .rt d => ∃ outs, outsAt P e' = some outs ∧ ∀ v H', Sim X.K Z H' (⟨kr, d, v⟩ :: (retR P outs pv ++ L)) → D.rt v H'
def JS (φ : List Nat) (s : Stmt) (ψ : SF) (g : M Fl) : Prop := PS X s (rdS X Z W P kr φ ψ g)
def JSs (φ : List Nat) (s : List Stmt) (ψ : SF) (g : M Fl) : Prop := PSs X s (rdS X Z W P kr φ ψ g)
end
section
variable {X : Cx} {Z : ClT} {W : WX} {P : List (Nat × Nat)} {kr : Nat} {φ φ1 φ2 : List Nat} {ψ ψ1 ψ2 : SF} {t ta : Tm} {fa : M DV} {g g1 g2 : M Fl} {σ : St} {H : Hp} {L : List Root} {env : Ev} {a e : Expr} {st : Stmt} {sts : List Stmt} {pos pos' p : Pos} {k : Nat}
theorem ps_imp {t t' : TS} (h : PS X st t) (i : ∀ D σ H, t' D σ H → t D σ H) : PS X st t' := ⟨fun pins s σ H D I q => h.run pins s σ H D I (i _ _ _ q)⟩
theorem pss_imp {t t' : TS} (h : PSs X sts t) (i : ∀ D σ H, t' D σ H → t D σ H) : PSs X sts t' := ⟨fun pins s σ H D I q => h.run pins s σ H D I (i _ _ _ q)⟩
/-- flags at all ends lessened -/
def leF (ψ χ : SF) : Bool := leN ψ.n χ.n && leN ψ.b χ.b && leN ψ.c χ.c
theorem rdS.imp {D D' : Ends} (hl : leF ψ2 ψ1 = true) (h : rdS X Z W P kr φ ψ2 g D σ H) (hn : D.nx = D'.nx) (hb : D.bk = D'.bk) (hc : D.ct = D'.ct) (hr : D.rt = D'.rt) : rdS X Z W P kr φ ψ1 g D' σ H := by
  obtain ⟨L, env, pv, S, hp, h⟩ := h
  unfold leF at hl
  simp only [Bool.and_eq_true] at hl
  refine ⟨L, env, pv, S, hp, h.mono fun fl e' q => ?_⟩
  cases fl with
  | nx => exact fun σ' H' s z => by rw [← hn]; exact q σ' H' (s.less hl.1.1) z
  | br => exact fun σ' H' s z => by rw [← hb]; exact q σ' H' (s.less hl.1.2) z
  | ct => exact fun σ' H' s z => by rw [← hc]; exact q σ' H' (s.less hl.2) z
  | rt d =>
    obtain ⟨outs, h1, h2⟩ := q
    exact ⟨outs, h1, fun v H' s => by rw [← hr]; exact h2 v H' s⟩
theorem js_less (h : JS X Z W P kr φ st ψ1 g) (hl : leF ψ2 ψ1 = true) : JS X Z W P kr φ st ψ2 g := ps_imp h fun D σ H q => q.imp hl rfl rfl rfl rfl
theorem jss_less (h : JSs X Z W P kr φ sts ψ1 g) (hl : leF ψ2 ψ1 = true) : JSs X Z W P kr φ sts ψ2 g := pss_imp h fun D σ H q => q.imp hl rfl rfl rfl rfl

def nxM : M Fl := fun e => .ok .nx e
theorem js_next (h : PS X st tNext) (hn : ψ.n = φ) : JS X Z W P kr φ st ψ nxM := ps_imp h fun D σ H ⟨L, env, pv, S, hp, q⟩ => by
  rw [hn] at q
  exact (show ∀ σ' H', Stt X.K Z φ env [] σ' H' L → Pok P pv σ' → D.nx σ' H' from q) σ H S hp
theorem js_pass (hn : ψ.n = φ) : JS X Z W P kr φ (.Pass pos) ψ nxM := js_next ps_pass hn
theorem js_doc {x : Str} {j : Nat} (hn : ψ.n = φ) : JS X Z W P kr φ (.Expr (.Constant (.str x) j pos) pos') ψ nxM := js_next ps_doc hn
theorem js_break (hn : ψ.b = φ) : JS X Z W P kr φ (.Break pos) ψ (fun e => .ok .br e) := ps_imp ps_break fun D σ H ⟨L, env, pv, S, hp, q⟩ => by
  rw [hn] at q
  exact (show ∀ σ' H', Stt X.K Z φ env [] σ' H' L → Pok P pv σ' → D.bk σ' H' from q) σ H S hp
theorem js_continue (hn : ψ.c = φ) : JS X Z W P kr φ (.Continue pos) ψ (fun e => .ok .ct e) := ps_imp ps_continue fun D σ H ⟨L, env, pv, S, hp, q⟩ => by
  rw [hn] at q
  exact (show ∀ σ' H', Stt X.K Z φ env [] σ' H' L → Pok P pv σ' → D.ct σ' H' from q) σ H S hp
def seqM (g1 g2 : M Fl) : M Fl := fun e => (g1 e).bind fun fl e' => match fl with
  | .nx => g2 e'
  | .br => .ok .br e'
  | .ct => .ok .ct e'
  | .rt d => .ok (.rt d) e'
theorem jss_nil (hn : ψ.n = φ) : JSs X Z W P kr φ [] ψ nxM := pss_imp pss_nil fun D σ H ⟨L, env, pv, S, hp, q⟩ => by
  rw [hn] at q
  exact (show ∀ σ' H', Stt X.K Z φ env [] σ' H' L → Pok P pv σ' → D.nx σ' H' from q) σ H S hp
theorem jss_cons (h1 : JS X Z W P kr φ st ψ1 g1) (h2 : JSs X Z W P kr ψ1.n sts ψ g2) (hb : leN ψ.b ψ1.b = true) (hc : leN ψ.c ψ1.c = true) : JSs X Z W P kr φ (st :: sts) ψ (seqM g1 g2) := by
  refine pss_imp (pss_cons h1 h2) fun D σ H ⟨L, env, pv, S, hp, q⟩ => ?_
  refine ⟨L, env, pv, S, hp, q.bind.mono fun fl e' q => ?_⟩
  cases fl with
  | nx => exact fun σ' H' s z => ⟨L, e', pv, s, z, q⟩
  | br => exact fun σ' H' s z => (show ∀ σ' H', Stt X.K Z ψ.b e' [] σ' H' L → Pok P pv σ' → D.bk σ' H' from q) σ' H' (s.less hb) z
  | ct => exact fun σ' H' s z => (show ∀ σ' H', Stt X.K Z ψ.c e' [] σ' H' L → Pok P pv σ' → D.ct σ' H' from q) σ' H' (s.less hc) z
  | rt d => exact q
def ifS (ft : M Bool) (g1 g2 : M Fl) : M Fl := fun e => (ft e).bind fun b e' => match b with
  | true => g1 e'
  | false => g2 e'
theorem js_if {c : Expr} {s1 s2 : List Stmt} {ft : M Bool} (hc : JT X Z W φ c φ1 ft) (h1 : JSs X Z W P kr φ1 s1 ψ1 g1) (h2 : JSs X Z W P kr φ1 s2 ψ2 g2) (l1 : leF ψ ψ1 = true) (l2 : leF ψ ψ2 = true) : JS X Z W P kr φ (.If c s1 s2 pos) ψ (ifS ft g1 g2) := by
  refine ps_imp (ps_if hc (jss_less h1 l1) (jss_less h2 l2)) fun D σ H ⟨L, env, pv, S, hp, q⟩ => ?_
  refine rdT.go S (q.bind.mono fun b e' q H' s => ?_)
  cases b with
  | true => exact ⟨L, e', pv, s, hp, q⟩
  | false => exact ⟨L, e', pv, s, hp, q⟩
/-! the value goes into a slot -/
theorem Stt.store {i : Nat} {d : DV} {v : V} (S : Stt X.K Z φ env [⟨.v k, d, v⟩] σ H L) (hi : i < env.length) : Stt X.K Z (φ.set i k) (env.set i (some d)) [] (σ.set i (some v)) H L := by
  obtain ⟨a, p⟩ := S.al.set (m := k) (d := d) (v := v) hi
  refine ⟨?_, a, fun _ h => nomatch h⟩
  have S1 : Sim X.K Z H (⟨k, d, v⟩ :: (roots φ (env.set i none) σ ++ L)) := S.sim.sub (.cons_cons _ (List.Sublist.append_right roots_clr L))
  refine S1.perm ?_
  exact (List.Perm.append_right L p.symm)
theorem Pok.set {pv : List V} {i : Nat} {v : V} (h : Pok P pv σ) (hi : P.all (fun p => p.1 != i) = true) : Pok P pv (σ.set i (some v)) := by
  induction h with
  | nil => exact .nil
  | cons q _ ih =>
    simp only [List.all_cons, Bool.and_eq_true] at hi
    refine .cons ?_ (ih hi.2)
    rw [List.getElem?_set_ne (by have := hi.1; simp at this; exact fun z => this z.symm)]
    exact q
def setM (i : Nat) (fa : M DV) : M Fl := fun env => (fa env).bind fun d e => if i < e.length then .ok .nx (e.set i (some d)) else .bad
theorem js_set {i : Nat} {x : Str} (hN : X.N.Nodup) (hi : X.N[i]? = some x) (hx : Loc X.env.scope x) (hf : X.fn x = true ∨ X.env.scope.names.lookup x = some .local) (hs : swapsWith e (some (.Name x pos')) pos.line X.env = pure false)
    (he : JE X Z W φ e φ1 (.v k) fa) (hP : P.all (fun p => p.1 != i) = true) (hn : ψ.n = φ1.set i k) : JS X Z W P kr φ (.Assign [.Name x pos'] e pos) ψ (setM i fa) := by
  refine ps_imp (ps_set hN hi hx he hs hf) fun D σ H ⟨L, env, pv, S, hp, q⟩ => ?_
  refine rdE.go S (q.bind.mono fun d e' q v H' s => ?_)
  split at q
  · rename_i hl
    rw [hn] at q
    exact (show ∀ σ' H', Stt X.K Z (φ1.set i k) (e'.set i (some d)) [] σ' H' L → Pok P pv σ' → D.nx σ' H' from q) _ _ (s.store hl) (hp.set hP)
  · exact q.elim
/-! return -/
def retM (P : List (Nat × Nat)) (fa : M DV) : M Fl := fun env => (fa env).bind fun d e => match outsAt P e with
  | some _ => .ok (.rt d) e
  | none => .bad
def retOk (P : List (Nat × Nat)) (φ : List Nat) : Bool := P.all fun p => match φ[p.1]? with
  | some n => decide (p.2 ≤ n)
  | none => false
theorem ret_core : ∀ {P : List (Nat × Nat)} {pv : List V} {outs : List DV} {e : Ev} {φ : List Nat} {R : List Root}, retOk P φ = true → (P.map (·.1)).Nodup → outsAt P e = some outs → Pok P pv σ → Al φ e σ → Sim X.K Z H (roots φ e σ ++ R) → Sim X.K Z H (retR P outs pv ++ R)
  | [], _, _, e, φ, R, _, _, ho, hp, _, S => by
    cases ho
    exact S.sub (List.sublist_append_right _ _)
  | (i, m) :: P, v :: pv, outs, e, φ, R, hr, hd, ho, .cons q hp, al, S => by
    unfold outsAt at ho
    cases q1 : slot e i with
    | none => rw [q1] at ho; cases ho
    | some d =>
      cases q2 : outsAt P e with
      | none => rw [q1, q2] at ho; cases ho
      | some ds =>
        rw [q1, q2] at ho
        cases ho
        unfold retOk at hr
        simp only [List.all_cons, Bool.and_eq_true] at hr
        obtain ⟨n, v', g1, g2, gp⟩ := al.get q1
        rw [q] at g2
        cases g2
        have hr1 := hr.1
        rw [g1] at hr1
        have hmn : m ≤ n := of_decide_eq_true hr1
        have S1 : Sim X.K Z H (⟨m, d, v⟩ :: (roots φ (e.set i none) σ ++ R)) := (S.perm (List.Perm.append_right R gp)).weak hmn
        have S2 : Sim X.K Z H (roots φ (e.set i none) σ ++ (⟨m, d, v⟩ :: R)) := S1.perm List.perm_middle.symm
        have hd' : i ∉ P.map (·.1) ∧ (P.map (·.1)).Nodup := List.nodup_cons.mp hd
        have q3 : outsAt P (e.set i none) = some ds := by
          rw [← q2]
          clear q2 hp hr S S1 S2
          have hd1 := hd'.1
          clear hd hd'
          induction P with
          | nil => rfl
          | cons p P ih =>
            obtain ⟨j, mj⟩ := p
            simp only [List.map_cons, List.mem_cons, not_or] at hd1
            unfold outsAt
            rw [slot_set_ne hd1.1, ih hd1.2]
        have S3 := ret_core (P := P) hr.2 hd'.2 q3 hp al.clr S2
        exact S3.perm List.perm_middle
theorem js_ret (he : JE X Z W φ e φ1 (.v k) fa) (hk : kr ≤ k) (hr : retOk P φ1 = true) (hd : (P.map (·.1)).Nodup) : JS X Z W P kr φ (.Return (some e) pos) ψ (retM P fa) := by
  refine ps_imp (ps_ret he) fun D σ H ⟨L, env, pv, S, hp, q⟩ => ?_
  refine rdE.go S (q.bind.mono fun d e' q v H' s => ?_)
  cases q1 : outsAt P e' with
  | none => rw [q1] at q; exact q.elim
  | some outs =>
    rw [q1] at q
    obtain ⟨outs', h1, h2⟩ : ∃ outs, outsAt P e' = some outs ∧ ∀ v H', Sim X.K Z H' (⟨kr, d, v⟩ :: (retR P outs pv ++ L)) → D.rt v H' := q
    rw [q1] at h1; cases h1
    refine h2 v H' ?_
    have S1 : Sim X.K Z H' (roots φ1 e' σ ++ (⟨kr, d, v⟩ :: L)) := by
      refine (Sim.weak s.sim hk).perm ?_
      show (⟨kr, d, v⟩ :: (roots φ1 e' σ ++ L)).Perm _
      exact List.perm_middle.symm
    exact (ret_core hr hd q1 hp s.al S1).perm List.perm_middle
theorem outsAt_clr {i : Nat} {e : Ev} : ∀ {P : List (Nat × Nat)}, P.all (fun p => p.1 != i) = true → outsAt P (e.set i none) = outsAt P e
  | [], _ => rfl
  | (j, m) :: P, h => by
    simp only [List.all_cons, Bool.and_eq_true] at h
    unfold outsAt
    rw [outsAt_clr h.2, slot_set_ne (by have := h.1; simp at this; exact fun z => this z.symm)]
/-- a name that is returned: what it holds goes over whole -/
theorem js_retV {i n : Nat} {x : Str} (hN : X.N[i]? = some x) (hv : Vis X.env.scope x) (hdb : (x == ("__debug__" : Str)) = false) (hcd : (x == ("__classdict__" : Str)) = false) (hφ : φ[i]? = some n) (hk : kr ≤ n) (hr : retOk P φ = true) (hd : (P.map (·.1)).Nodup) (hP : P.all (fun p => p.1 != i) = true) :
    JS X Z W P kr φ (.Return (some (.Name x p)) pos) ψ (retM P (slotM i)) := by
  refine ps_imp (ps_ret (pe_var hN hv hdb hcd)) fun D σ H ⟨L, env, pv, S, hp, q⟩ => ?_
  unfold retM slotM at q
  cases q0 : slot env i with
  | none => rw [q0] at q; exact q.elim
  | some d =>
    rw [q0] at q
    have q : Wish X.K Z W L (match outsAt P env with
      | some _ => Out.ok (Fl.rt d) env
      | none => .bad) _ := q
    cases q1 : outsAt P env with
    | none => rw [q1] at q; exact q.elim
    | some outs =>
      rw [q1] at q
      obtain ⟨outs', h1, h2⟩ : ∃ outs, outsAt P env = some outs ∧ ∀ v H', Sim X.K Z H' (⟨kr, d, v⟩ :: (retR P outs pv ++ L)) → D.rt v H' := q
      rw [q1] at h1; cases h1
      obtain ⟨n', v, g1, g2, gp⟩ := S.al.get q0
      rw [hφ] at g1; cases g1
      refine ⟨v, g2, h2 v H ?_⟩
      have S0 : Sim X.K Z H (roots φ env σ ++ L) := S.sim
      have S1 : Sim X.K Z H (⟨kr, d, v⟩ :: (roots φ (env.set i none) σ ++ L)) := (S0.perm (List.Perm.append_right L gp)).weak hk
      have S2 : Sim X.K Z H (roots φ (env.set i none) σ ++ (⟨kr, d, v⟩ :: L)) := S1.perm List.perm_middle.symm
      exact (ret_core hr hd ((outsAt_clr hP).trans q1) hp S.al.clr S2).perm List.perm_middle
theorem js_retN (hr : retOk P φ = true) (hd : (P.map (·.1)).Nodup) : JS X Z W P kr φ (.Return none pos) ψ (retM P (M.pure (.d .none))) := by
  refine ps_imp ps_retN fun D σ H ⟨L, env, pv, S, hp, q⟩ => ?_
  have q : Wish X.K Z W L (match outsAt P env with
    | some _ => Out.ok (Fl.rt (.d .none)) env
    | none => .bad) _ := q
  cases q1 : outsAt P env with
  | none => rw [q1] at q; exact q.elim
  | some outs =>
    rw [q1] at q
    obtain ⟨outs', h1, h2⟩ : ∃ outs, outsAt P env = some outs ∧ ∀ v H', Sim X.K Z H' (⟨kr, .d .none, v⟩ :: (retR P outs pv ++ L)) → D.rt v H' := q
    rw [q1] at h1; cases h1
    exact h2 .non H ((ret_core hr hd q1 hp S.al S.sim).scal (.d .non))
/-! a value that is dropped -/
def dropM (fa : M DV) : M Fl := fun env => (fa env).bind fun _ e => .ok .nx e
theorem js_expr (he : JE X Z W φ e φ1 t fa) (hs : swapsWith e none pos.line X.env = pure false) (hn : ψ.n = φ1) : JS X Z W P kr φ (.Expr e pos) ψ (dropM fa) := by
  refine ps_imp (ps_expr he hs) fun D σ H ⟨L, env, pv, S, hp, q⟩ => ?_
  refine rdE.go S (q.bind.mono fun d e' q v H' s => ?_)
  rw [hn] at q
  exact (show ∀ σ' H', Stt X.K Z φ1 e' [] σ' H' L → Pok P pv σ' → D.nx σ' H' from q) σ H' s.free hp
end
end Lk
namespace Lk
open PySem PySem.Spec L2

inductive Tgt where
  | nm (i : Nat)
  | tp (is : List Nat)
def setAll {α : Type} : List Nat → List α → List (Option α) → List (Option α)
  | i :: is, v :: vs, σ => setAll is vs (σ.set i (some v))
  | _, _, σ => σ
def setFl : List Nat → List Nat → List Nat
  | i :: is, φ => setFl is (φ.set i 0)
  | [], φ => φ
def tgM : Tgt → DV → M Unit
  | .nm i, d => fun e => if i < e.length then .ok () (e.set i (some d)) else .bad
  | .tp is, .d (.tuple ds) => fun e => if ds.length = is.length ∧ is.all (fun i => decide (i < e.length)) = true then .ok () (setAll is (ds.map .d) e) else .bad
  | _, _ => fun _ => .bad
def tgF : Tgt → Nat → List Nat → List Nat
  | .nm i, k, φ => φ.set i k
  | .tp is, _, φ => setFl is φ
def tgFree (P : List (Nat × Nat)) : Tgt → Bool
  | .nm i => P.all fun p => p.1 != i
  | .tp is => is.all fun i => P.all fun p => p.1 != i
section
variable {X : Cx} {Z : ClT} {W : WX} {P : List (Nat × Nat)} {kr : Nat} {φ φ1 φ2 φ' : List Nat} {ψ ψ1 ψ2 : SF} {t ta : Tm} {fa : M DV} {g g1 g2 : M Fl} {σ : St} {H : Hp} {L : List Root} {env : Ev} {a e tg : Expr} {st : Stmt} {sts : List Stmt} {pos pos' p : Pos} {k : Nat}
def tgS : Tgt → List Nat
  | .nm i => [i]
  | .tp is => is
/-- what a target of names does -/
def JG (X : Cx) (Z : ClT) (tg : Expr) (T : Tgt) : Prop := PG X tg fun v σ H Q => ∃ (L : List Root) (env : Ev) (φ : List Nat) (k : Nat) (d : DV) (W : WX), Stt X.K Z φ env [⟨.v k, d, v⟩] σ H L ∧ k ≤ 1 ∧
  Wish X.K Z W L (tgM T d env) fun _ e' => ∀ σ' H', Stt X.K Z (tgF T k φ) e' [] σ' H' L → (∀ P pv, tgFree P T = true → Pok P pv σ → Pok P pv σ') → (σ'.length = σ.length ∧ ∀ j, j ∉ tgS T → σ'[j]? = σ[j]?) → Q σ' H'
theorem pg_imp {tg : Expr} {t t' : TG} (h : PG X tg t) (i : ∀ v σ H Q, t' v σ H Q → t v σ H Q) : PG X tg t' := ⟨fun pins s σ H v u Q I r q => h.run pins s σ H v u Q I r (i _ _ _ _ q)⟩
theorem jg_name {i : Nat} {x : Str} (hN : X.N.Nodup) (hi : X.N[i]? = some x) (hx : Loc X.env.scope x) (hf : X.fn x = true ∨ X.env.scope.names.lookup x = some .local) : JG X Z (.Name x pos) (.nm i) := by
  refine pg_imp (pg_name hN hi hx hf) fun v σ H Q ⟨L, env, φ, k, d, W, S, hk, q⟩ => ?_
  unfold tgM at q
  simp only at q
  split at q
  · rename_i hl
    exact q _ _ (S.store hl) (fun P pv hP hp => hp.set hP) ⟨List.length_set .., fun j hj => List.getElem?_set_ne fun z => hj (by simp [tgS, z])⟩
  · exact q.elim
def gNames (is : List Nat) : TGs := fun vs σ H Q => vs.length = is.length ∧ Q (setAll is vs σ) H
theorem pgs_imp {ts : List Expr} {t t' : TGs} (h : PGs X ts t) (i : ∀ v σ H Q, t' v σ H Q → t v σ H Q) : PGs X ts t' := ⟨fun pins s σ H v u Q I r q => h.run pins s σ H v u Q I r (i _ _ _ _ q)⟩
theorem pgs_n0 : PGs X [] (gNames []) := pgs_imp pgs_nil fun vs σ H Q ⟨h, q⟩ => by
  cases vs with
  | nil => exact ⟨rfl, q⟩
  | cons _ _ => simp at h
theorem pgs_n1 {i : Nat} {x : Str} {es : List Expr} {is : List Nat} (hN : X.N.Nodup) (hi : X.N[i]? = some x) (hx : Loc X.env.scope x) (hf : X.fn x = true ∨ X.env.scope.names.lookup x = some .local) (h : PGs X es (gNames is)) : PGs X (.Name x pos :: es) (gNames (i :: is)) :=
  pgs_imp (pgs_cons (pg_name hN hi hx hf) h rfl) fun vs σ H Q ⟨hl, q⟩ => by
    cases vs with
    | nil => simp at hl
    | cons v vs => exact ⟨v, vs, rfl, by simpa using hl, q⟩
theorem setAll_ok : ∀ {is : List Nat} {ds : List PyData} {vs : List V} {φ : List Nat} {env : Ev} {σ : St}, ds.length = is.length → vs.length = is.length → is.all (fun i => decide (i < env.length)) = true → Al φ env σ → Sim X.K Z H (kids 0 ds vs ++ (roots φ env σ ++ L)) →
    Sim X.K Z H (roots (setFl is φ) (setAll is (ds.map .d) env) (setAll is vs σ) ++ L) ∧ Al (setFl is φ) (setAll is (ds.map .d) env) (setAll is vs σ)
  | [], [], [], φ, env, σ, _, _, _, al, S => ⟨S, al⟩
  | i :: is, d :: ds, v :: vs, φ, env, σ, h1, h2, h3, al, S => by
    simp only [List.all_cons, Bool.and_eq_true, decide_eq_true_eq] at h3
    obtain ⟨a, p⟩ := al.set (m := 0) (d := .d d) (v := v) h3.1
    refine setAll_ok (is := is) (by simpa using h1) (by simpa using h2) (by rw [List.length_set]; exact h3.2) a ?_
    have S1 : Sim X.K Z H (⟨0, .d d, v⟩ :: (kids 0 ds vs ++ (roots φ (env.set i none) σ ++ L))) := S.sub (.cons_cons _ (List.Sublist.append_left (List.Sublist.append_right roots_clr L) _))
    refine S1.perm ?_
    refine List.Perm.trans ?_ (List.Perm.append_left _ (List.Perm.append_right L p.symm))
    rw [List.cons_append]
    exact List.perm_middle.symm
  | [], _ :: _, _, _, _, _, h, _, _, _, _ => by simp at h
  | [], [], _ :: _, _, _, _, _, h, _, _, _ => by simp at h
  | _ :: _, [], _, _, _, _, h, _, _, _, _ => by simp at h
  | _ :: _, _ :: _, [], _, _, _, _, h, _, _, _ => by simp at h
theorem Pok.setAll {pv : List V} : ∀ {is : List Nat} {vs : List V} {σ : St}, (is.all fun i => P.all fun p => p.1 != i) = true → Pok P pv σ → Pok P pv (Lk.setAll is vs σ)
  | [], _, _, _, h => by unfold Lk.setAll; exact h
  | i :: is, [], _, _, h => h
  | i :: is, v :: vs, σ, h1, h => by
    simp only [List.all_cons, Bool.and_eq_true] at h1
    exact Pok.setAll (is := is) h1.2 (h.set h1.1)
def tgLen (es : List Expr) : Bool := es.all fun e => match e with
  | .Name .. => true
  | _ => false
theorem setAll_same {α : Type} : ∀ (is : List Nat) (vs : List α) (σ : List (Option α)), (setAll is vs σ).length = σ.length ∧ ∀ j, j ∉ is → (setAll is vs σ)[j]? = σ[j]?
  | [], _, σ => by unfold setAll; exact ⟨rfl, fun _ _ => rfl⟩
  | i :: is, [], σ => ⟨rfl, fun _ _ => rfl⟩
  | i :: is, v :: vs, σ => by
    obtain ⟨q1, q2⟩ := setAll_same is vs (σ.set i (some v))
    refine ⟨by show (setAll is vs (σ.set i (some v))).length = _; rw [q1, List.length_set], fun j hj => ?_⟩
    simp only [List.mem_cons, not_or] at hj
    show (setAll is vs (σ.set i (some v)))[j]? = _
    rw [q2 j hj.2, List.getElem?_set_ne (fun z => hj.1 z.symm)]
theorem tgLen_ok {env : PySem.Env} : ∀ {es : List Expr}, tgLen es = true → (assignEach es env).length = es.length ∧ (assignEach es env).findIdx? (·.1) = none
  | [], _ => ⟨rfl, rfl⟩
  | e :: es, h => by
    simp only [tgLen, List.all_cons, Bool.and_eq_true] at h
    obtain ⟨q1, q2⟩ := tgLen_ok (env := env) (es := es) h.2
    cases e <;> first | cases h.1 | skip
    refine ⟨?_, ?_⟩
    · show ((false, _) :: assignEach es env).length = es.length + 1
      simp [q1]
    · show List.findIdx? (·.1) ((false, _) :: assignEach es env) = none
      rw [List.findIdx?_cons]
      simp [q2]
theorem jg_tup {es : List Expr} {is : List Nat} {n : Nat} (hc : X.calm = true) (hl : tgLen es = true) (hn : es.length = is.length) (h : PGs X es (gNames is)) : JG X Z (.Tuple es n pos) (.tp is) := by
  obtain ⟨q1, q2⟩ := tgLen_ok (env := X.env) hl
  refine pg_imp (pg_tup hc h q1 q2) fun v σ H Q ⟨L, env, φ, k, d, W, S, hk, q⟩ => ?_
  cases d with
  | d x =>
    cases x with
    | tuple ds =>
      have q : Wish X.K Z W L (if ds.length = is.length ∧ is.all (fun i => decide (i < env.length)) = true then Out.ok () (setAll is (ds.map .d) env) else .bad) _ := q
      split at q
      · rename_i hc
        obtain ⟨a, vs, e1, hs, hl, S2⟩ := S.sim.openT (ds := ds) (v := v) (n := k) (List.mem_cons_self) hk
        have S3 : Sim X.K Z H (kids 0 ds vs ++ (roots φ env σ ++ L)) := S2.sub (List.Sublist.append_left (List.sublist_cons_self _ _) _)
        obtain ⟨S4, a4⟩ := setAll_ok hc.1 (by rw [← hl]; exact hc.1) hc.2 S.al S3
        exact ⟨a, vs, e1, hs, by rw [← hl, hc.1, hn], by rw [← hl]; exact hc.1, q _ _ ⟨S4, a4, fun _ h => nomatch h⟩ (fun P pv hP hp => hp.setAll hP) (setAll_same is vs σ)⟩
      · exact q.elim
    | _ => exact q.elim
  | _ => exact q.elim
/-- targets = value, not by swapped stores -/
def asgM (T : Tgt) (fa : M DV) : M Fl := fun env => (fa env).bind fun d e => (tgM T d e).bind fun _ e' => .ok .nx e'
theorem js_asg {T : Tgt} (he : JE X Z W φ e φ1 (.v k) fa) (hg : JG X Z tg T) (hs : swapsWithSole [tg] e pos.line X.env = pure false) (hw : swappedStores [tg] e X.env = pure none) (h1 : (assignEach [tg] X.env).map (·.2) = [assign tg X.env])
    (hP : tgFree P T = true) (hn : ψ.n = tgF T (min 1 k) φ1) : JS X Z W P kr φ (.Assign [tg] e pos) ψ (asgM T fa) := by
  refine ps_imp (ps_asg he hg hs hw h1) fun D σ H ⟨L, env, pv, S, hp, q⟩ => ?_
  refine rdE.go S (q.bind.mono fun d e' q v H' s => ?_)
  have s2 : Stt X.K Z φ1 e' [⟨.v (min 1 k), d, v⟩] σ H' L := ⟨Sim.weak s.sim (Nat.min_le_right _ _), s.al, fun x hx => by rw [List.mem_singleton.mp hx]; trivial⟩
  refine ⟨L, e', φ1, min 1 k, d, W, s2, Nat.min_le_left _ _, q.bind.mono fun _ e2 q2 σ' H2 s3 keep _ => ?_⟩
  rw [hn] at q2
  exact (show ∀ σ' H', Stt X.K Z (tgF T (min 1 k) φ1) e2 [] σ' H' L → Pok P pv σ' → D.nx σ' H' from q2) σ' H2 s3 (keep P pv hP hp)
/-! ### while -/
def whileM (c : M Bool) (b : M Fl) : Nat → M Fl
  | 0 => fun _ => .bad
  | n + 1 => fun e => (c e).bind fun k e1 => match k with
    | false => .ok .nx e1
    | true => (b e1).bind fun fl e2 => match fl with
      | .nx => whileM c b n e2
      | .ct => whileM c b n e2
      | .br => .ok .nx e2
      | .rt d => .ok (.rt d) e2
theorem js_while {c : Expr} {ft : M Bool} {φL φB : List Nat} (hp : PassesOwn (model X.prog X.w) X.A X.env X.xe) (hc : JT X Z W φL c φ1 ft) (hb : JSs X Z W P kr φ1 sts ψ1 g) (l0 : leN φL φ = true) (l1 : leN φL ψ1.n = true) (l2 : leN φL ψ1.c = true) (l3 : leN ψ.n φ1 = true) (l4 : leN ψ.n ψ1.b = true) :
    JS X Z W P kr φ (.While c sts [] pos) ψ (whileM ft g big) := by
  refine ps_imp (ps_while hp hc hb) fun D σ H ⟨L, env, pv, S, hpv, q⟩ => ?_
  refine ⟨fun m σ H => ∃ env, Stt X.K Z φL env [] σ H L ∧ Pok P pv σ ∧ Wish X.K Z W L (whileM ft g m env) fun fl e' => match fl with
    | .nx => ∀ σ' H', Stt X.K Z ψ.n e' [] σ' H' L → Pok P pv σ' → D.nx σ' H'
    | .br => False
    | .ct => False
    | .rt d => ∃ outs, outsAt P e' = some outs ∧ ∀ v H', Sim X.K Z H' (⟨kr, d, v⟩ :: (retR P outs pv ++ L)) → D.rt v H', ⟨big, env, S.less l0, hpv, ?_⟩, ?_⟩
  · have key : ∀ (n : Nat) (e : Ev) (k : Fl → Ev → Prop), Wish X.K Z W L (whileM ft g n e) k → Wish X.K Z W L (whileM ft g n e) fun fl e' => (fl = .br → False) ∧ (fl = .ct → False) ∧ k fl e' := by
      intro n
      induction n with
      | zero => intro e k h; exact h
      | succ n ih =>
        intro e k h
        unfold whileM at h ⊢
        have h := h.bind
        cases q1 : ft e with
        | bad => rw [q1] at h; exact h.elim
        | ex c x e1 => rw [q1] at h; exact h
        | ok b e1 =>
          rw [q1] at h
          cases b with
          | false => exact ⟨(fun z => nomatch z), (fun z => nomatch z), h⟩
          | true =>
            have h : Wish X.K Z W L ((g e1).bind _) k := h
            have h := h.bind
            show Wish X.K Z W L ((g e1).bind _) _
            cases q2 : g e1 with
            | bad => rw [q2] at h; exact h.elim
            | ex c x e2 => rw [q2] at h; exact h
            | ok fl e2 =>
              rw [q2] at h
              cases fl with
              | nx => exact ih e2 k h
              | ct => exact ih e2 k h
              | br => exact ⟨(fun z => nomatch z), (fun z => nomatch z), h⟩
              | rt d => exact ⟨(fun z => nomatch z), (fun z => nomatch z), h⟩
    refine (key _ _ _ q).mono fun fl e' ⟨h1, h2, h3⟩ => ?_
    cases fl with
    | nx => exact h3
    | br => exact (h1 rfl).elim
    | ct => exact (h2 rfl).elim
    | rt d => exact h3
  · rintro m σ H ⟨env, S, hpv, q⟩
    cases m with
    | zero => exact q.elim
    | succ n =>
      refine rdT.go S (q.bind.mono fun b e1 q1 H1 S1 => ?_)
      cases b with
      | false => exact (show ∀ σ' H', Stt X.K Z ψ.n e1 [] σ' H' L → Pok P pv σ' → D.nx σ' H' from q1) σ H1 (S1.less l3) hpv
      | true =>
        rw [if_pos rfl]
        refine ⟨fun σ' H' => ∃ env, Stt X.K Z φL env [] σ' H' L ∧ Pok P pv σ' ∧ Wish X.K Z W L (whileM ft g n env) _, fun σ' H' h => ⟨n, Nat.lt_succ_self n, h⟩, L, e1, pv, S1, hpv, q1.bind.mono fun fl e2 q2 => ?_⟩
        cases fl with
        | nx => exact fun σ' H' s z => ⟨e2, s.less l1, z, q2⟩
        | ct => exact fun σ' H' s z => ⟨e2, s.less l2, z, q2⟩
        | br => exact fun σ' H' s z => (show ∀ σ' H', Stt X.K Z ψ.n e2 [] σ' H' L → Pok P pv σ' → D.nx σ' H' from q2) σ' H' (s.less l4) z
        | rt d => exact q2
/-! ### for -/
/-- an iterator walks the items, while held stands -/
def IterOk (K : PySem.W.Frag) (Z : ClT) (J : It) (held : List Root) (items : List DV) : Prop := ∀ (i : Nat) (H : Hp) (R : List Root), Sim K Z H (held ++ R) →
  (items.length ≤ i → J.stop i H) ∧ ∀ d, items[i]? = some d → J.go i H ∧ ∀ x H', J.yld i H x H' → Sim K Z H' (⟨0, d, x⟩ :: (held ++ R))
def rdI (X : Cx) (Z : ClT) (W : WX) (φ φ' : List Nat) (f : M (List DV)) : TI := fun σ H R => ∃ L env, Stt X.K Z φ env [] σ H L ∧ Wish X.K Z W L (f env) fun items e' => ∀ J held H', Stt X.K Z φ' e' [] σ H' (held ++ L) → IterOk X.K Z J held items → R J H'
def JI (X : Cx) (Z : ClT) (W : WX) (φ : List Nat) (tg it : Expr) (φ' : List Nat) (f : M (List DV)) : Prop := PI X tg it (rdI X Z W φ φ' f)
theorem pi_imp {it : Expr} {t t' : TI} (h : PI X tg it t) (i : ∀ σ H Q, t' σ H Q → t σ H Q) : PI X tg it t' := ⟨fun pins s σ H Q I q => h.run pins s σ H Q I (i _ _ _ q)⟩
def forM (T : Tgt) (g : M Fl) : List DV → M Fl
  | [] => fun e => .ok .nx e
  | d :: ds => fun e => (tgM T d e).bind fun _ e1 => (g e1).bind fun fl e2 => match fl with
    | .nx => forM T g ds e2
    | .ct => forM T g ds e2
    | .br => .ok .nx e2
    | .rt d => .ok (.rt d) e2
def forS (T : Tgt) (fi : M (List DV)) (g : M Fl) : M Fl := fun e => (fi e).bind fun items e1 => forM T g items e1
theorem forM_ends {T : Tgt} : ∀ (items : List DV) (e : Ev) (k : Fl → Ev → Prop), Wish X.K Z W L (forM T g items e) k → Wish X.K Z W L (forM T g items e) fun fl e' => (fl = .br → False) ∧ (fl = .ct → False) ∧ k fl e'
  | [], e, k, h => ⟨(fun z => nomatch z), (fun z => nomatch z), h⟩
  | d :: ds, e, k, h => by
    unfold forM at h ⊢
    cases q1 : tgM T d e with
    | bad => rw [q1] at h; exact h.elim
    | ex c x e1 => rw [q1] at h; exact h
    | ok b e1 =>
      rw [q1] at h
      have h : Wish X.K Z W L ((g e1).bind _) k := h
      show Wish X.K Z W L ((g e1).bind _) _
      cases q2 : g e1 with
      | bad => rw [q2] at h; exact h.elim
      | ex c x e2 => rw [q2] at h; exact h
      | ok fl e2 =>
        rw [q2] at h
        cases fl with
        | nx => exact forM_ends ds e2 k h
        | ct => exact forM_ends ds e2 k h
        | br => exact ⟨(fun z => nomatch z), (fun z => nomatch z), h⟩
        | rt d => exact ⟨(fun z => nomatch z), (fun z => nomatch z), h⟩
theorem js_for {T : Tgt} {it : Expr} {fi : M (List DV)} {φL : List Nat} (hp : PassesOwn (model X.prog X.w) X.A X.env X.xe) (hc : X.calm = true) (hi : JI X Z W φ tg it φ1 fi) (hg : JG X Z tg T) (hb : JSs X Z W P kr (tgF T 0 φL) sts ψ1 g) (hs : ∀ x, foldedSetIterable it X.env x = pure x)
    (hP : tgFree P T = true) (l0 : leN φL φ1 = true) (l1 : leN φL ψ1.n = true) (l2 : leN φL ψ1.c = true) (l3 : leN ψ.n φL = true) (l4 : leN ψ.n ψ1.b = true) :
    JS X Z W P kr φ (.For tg it sts [] pos) ψ (forS T fi g) := by
  refine ps_imp (ps_for hp hc hi hg hb hs) fun D σ H ⟨L, env, pv, S, hpv, q⟩ => ?_
  refine ⟨L, env, S, q.bind.mono fun items e1 q1 J held H1 S1 ok => ?_⟩
  -- the frame without what the loop holds
  have dropH : ∀ {ψ : List Nat} {e : Ev} {σ : St} {H : Hp}, Stt X.K Z ψ e [] σ H (held ++ L) → Stt X.K Z ψ e [] σ H L := fun s => ⟨s.sim.sub (List.Sublist.append_left (List.Sublist.append_left (List.sublist_append_right _ _) _) _), s.al, s.at'⟩
  let Post : Fl → Ev → Prop := fun fl e' => match fl with
    | .nx => ∀ σ' H', Stt X.K Z ψ.n e' [] σ' H' L → Pok P pv σ' → D.nx σ' H'
    | .br => False
    | .ct => False
    | .rt d => ∃ outs, outsAt P e' = some outs ∧ ∀ v H', Sim X.K Z H' (⟨kr, d, v⟩ :: (retR P outs pv ++ L)) → D.rt v H'
  have q2 : Wish X.K Z W L (forM T g items e1) Post := (forM_ends items e1 _ q1).mono fun fl e' ⟨h1, h2, h3⟩ => by
    cases fl with
    | nx => exact h3
    | br => exact (h1 rfl).elim
    | ct => exact (h2 rfl).elim
    | rt d => exact h3
  refine ⟨fun i m σ H => m = items.length - i ∧ i ≤ items.length ∧ ∃ env, Stt X.K Z φL env [] σ H (held ++ L) ∧ Pok P pv σ ∧ Wish X.K Z W L (forM T g (items.drop i) env) Post, ⟨_, rfl, Nat.zero_le _, e1, S1.less l0, hpv, q2⟩, ?_⟩
  rintro i m σ H ⟨rfl, hi, env, S, hpv, q⟩
  have S0 : Sim X.K Z H (held ++ (roots φL env σ ++ L)) := by
    refine S.sim.perm ?_
    show (roots φL env σ ++ (held ++ L)).Perm _
    exact shuf (A := [])
  obtain ⟨o1, o2⟩ := ok i H _ S0
  by_cases hlt : i < items.length
  · obtain ⟨go, yl⟩ := o2 items[i] (List.getElem?_eq_getElem hlt)
    refine .inr ⟨go, fun σ' H' => ∃ env, Stt X.K Z φL env [] σ' H' (held ++ L) ∧ Pok P pv σ' ∧ Wish X.K Z W L (forM T g (items.drop (i + 1)) env) Post, fun σ' H' h => ⟨items.length - (i + 1), by omega, rfl, hlt, h⟩, fun x H' y => ?_⟩
    rw [List.drop_eq_getElem_cons hlt] at q
    have S2 : Stt X.K Z φL env [⟨.v 0, items[i], x⟩] σ H' (held ++ L) := by
      refine ⟨(yl x H' y).perm (.cons _ ?_), S.al, fun z hz => by rw [List.mem_singleton.mp hz]; trivial⟩
      show (held ++ (roots φL env σ ++ L)).Perm (roots φL env σ ++ (held ++ L))
      exact shuf (A := [])
    refine ⟨held ++ L, env, φL, 0, items[i], W, S2, Nat.zero_le _, (Wish.frame (A := held) q.bind).mono fun _ e2 q3 σ2 H2 s2 keep _ => ?_⟩
    refine ⟨held ++ L, e2, pv, s2, keep P pv hP hpv, (Wish.frame (A := held) q3.bind).mono fun fl e3 q4 => ?_⟩
    cases fl with
    | nx => exact fun σ' H' s z => ⟨e3, s.less l1, z, q4⟩
    | ct => exact fun σ' H' s z => ⟨e3, s.less l2, z, q4⟩
    | br => exact fun σ' H' s z => (show ∀ σ' H', Stt X.K Z ψ.n e3 [] σ' H' L → Pok P pv σ' → D.nx σ' H' from q4) σ' H' (dropH (s.less l4)) z
    | rt d =>
      obtain ⟨outs, h1, h2⟩ : ∃ outs, outsAt P e3 = some outs ∧ ∀ v H', Sim X.K Z H' (⟨kr, d, v⟩ :: (retR P outs pv ++ L)) → D.rt v H' := q4
      exact ⟨outs, h1, fun v H' s => h2 v H' (s.sub (.cons_cons _ (List.Sublist.append_left (List.sublist_append_right _ _) _)))⟩
  · have e : i = items.length := by omega
    subst e
    rw [List.drop_length] at q
    exact .inl ⟨o1 (Nat.le_refl _), (show ∀ σ' H', Stt X.K Z ψ.n env [] σ' H' L → Pok P pv σ' → D.nx σ' H' from q) σ H (dropH (S.less l3)) hpv⟩
end
end Lk
namespace Lk
open PySem PySem.Spec L2
section
variable {X : Cx} {Z : ClT} {W : WX} {φ φ1 φ2 φ' : List Nat} {t ta tb : Tm} {fa fb : M DV} {f : M (List DV)} {ts : List Tm} {σ : St} {H : Hp} {L R : List Root} {env : Ev} {a b e tg : Expr} {es : List Expr} {pos pos' p tpos : Pos} {k : Nat}
def itemsOf : DV → Option (List DV)
  | .s ns => some (ns.map fun n => .d (.int n))
  | .d (.list xs) => some (xs.map .d)
  | .d (.tuple xs) => some (xs.map .d)
  | .d (.str x) => some (x.cps.toList.map fun c => .d (.str ⟨#[c]⟩))
  | _ => none
def seqI (fa : M DV) : M (List DV) := fun env => (fa env).bind fun d e => .ofO (itemsOf d) e
theorem pi_or {it : Expr} {t1 t2 : TI} (h1 : PI X tg it t1) (h2 : PI X tg it t2) : PI X tg it (fun σ H R => t1 σ H R ∨ t2 σ H R) := ⟨fun pins s σ H R I q => q.elim (h1.run pins s σ H R I) (h2.run pins s σ H R I)⟩
theorem iter_list {held : List Root} {a : Addr} {ds : List PyData} (hm : (⟨0, .d (.list ds), .ref a⟩ : Root) ∈ held) : IterOk X.K Z (Itl X.K a) held (ds.map .d) := fun i H R S => by
  obtain ⟨a', vs, e, h1, hl, S2⟩ := S.openL (List.mem_append_left _ hm) (Nat.zero_le _)
  cases e
  refine ⟨fun hi => ⟨vs, .of h1, by rw [List.length_map] at hi; omega⟩, fun d hd => ?_⟩
  rw [List.getElem?_map] at hd
  obtain ⟨x, hx, rfl⟩ := Option.map_eq_some_iff.mp hd
  have hlt : i < vs.length := by rw [← hl]; exact (List.getElem?_eq_some_iff.mp hx).1
  refine ⟨⟨vs, vs[i], .of h1, List.getElem?_eq_getElem hlt⟩, fun y H' ⟨e, hy⟩ => ?_⟩
  subst e
  have ey := hy vs (.of h1)
  exact S2.kid hx ey
theorem iter_tup {held : List Root} {a : Addr} {ds : List PyData} (hm : (⟨0, .d (.tuple ds), .ref a⟩ : Root) ∈ held) : IterOk X.K Z (Itt X.K a) held (ds.map .d) := fun i H R S => by
  obtain ⟨a', vs, e, h1, hl, S2⟩ := S.openT (List.mem_append_left _ hm) (Nat.zero_le _)
  cases e
  refine ⟨fun hi => ⟨vs, h1, by rw [List.length_map] at hi; omega⟩, fun d hd => ?_⟩
  rw [List.getElem?_map] at hd
  obtain ⟨x, hx, rfl⟩ := Option.map_eq_some_iff.mp hd
  have hlt : i < vs.length := by rw [← hl]; exact (List.getElem?_eq_some_iff.mp hx).1
  refine ⟨⟨vs, vs[i], h1, List.getElem?_eq_getElem hlt⟩, fun y H' ⟨e, hy⟩ => ?_⟩
  subst e
  exact S2.kid hx (hy vs h1)
theorem iter_script {held : List Root} {a : Addr} {ns : List Int} {n : Nat} (hm : (⟨n, .s ns, .ref a⟩ : Root) ∈ held) : IterOk X.K Z (Itl X.K a) held (ns.map fun n => .d (.int n)) := fun i H R S => by
  obtain ⟨a', e, h1⟩ := S.script (List.mem_append_left _ hm)
  cases e
  refine ⟨fun hi => ⟨_, h1, by simpa using hi⟩, fun d hd => ?_⟩
  rw [List.getElem?_map] at hd
  obtain ⟨x, hx, rfl⟩ := Option.map_eq_some_iff.mp hd
  have hv : (ns.map V.int)[i]? = some (.int x) := by rw [List.getElem?_map, hx]; rfl
  refine ⟨⟨_, _, h1, hv⟩, fun y H' ⟨e, hy⟩ => ?_⟩
  subst e
  have := hy _ h1
  rw [hv] at this; cases this
  exact S.cint
theorem iter_str {held : List Root} {x : Str} : IterOk X.K Z (Its x) held (x.cps.toList.map fun c => .d (.str ⟨#[c]⟩)) := fun i H R S => by
  refine ⟨fun hi => (show x.cps.size ≤ i by simpa using hi), fun d hd => ?_⟩
  rw [List.getElem?_map] at hd
  obtain ⟨c, hx, rfl⟩ := Option.map_eq_some_iff.mp hd
  rw [Array.getElem?_toList] at hx
  refine ⟨(Array.getElem?_eq_some_iff.mp hx).1, fun y H' ⟨e, c', hc, hy⟩ => ?_⟩
  subst e; subst hy
  rw [hx] at hc; cases hc
  exact S.cstr
theorem ji_seq (he : JE X Z W φ e φ1 (.v k) fa) : JI X Z W φ tg e φ1 (seqI fa) := by
  refine pi_imp (pi_or (pi_list he) (pi_or (pi_tup he) (pi_str he))) fun σ H R ⟨L, env, S, h⟩ => ?_
  have h := h.bind
  have S0 : ∀ {e' : Ev} {d : DV} {v : V} {H' : Hp}, Stt X.K Z φ1 e' [⟨.v k, d, v⟩] σ H' L → Stt X.K Z φ1 e' [] σ H' ([⟨0, d, v⟩] ++ L) ∧ Sim X.K Z H' (⟨0, d, v⟩ :: (roots φ1 e' σ ++ L)) := fun {e' d v H'} s => by
    have s1 := Sim.weak s.sim (Nat.zero_le _)
    refine ⟨⟨s1.perm ?_, s.al, fun _ h => nomatch h⟩, s1⟩
    show (⟨0, d, v⟩ :: (roots φ1 e' σ ++ L)).Perm (roots φ1 e' σ ++ (⟨0, d, v⟩ :: L))
    exact List.perm_middle.symm
  have hf : fa env = fa env := rfl
  cases q : fa env with
  | bad => rw [q] at h; exact h.elim
  | ex c g e1 =>
    rw [q] at h
    exact .inl ⟨L, env, S, by rw [q]; exact h⟩
  | ok d e1 =>
    rw [q] at h
    obtain ⟨items, hi, h2⟩ := Wish.ofO (show Wish X.K Z W L (Out.ofO (itemsOf d) e1) _ from h)
    cases d with
    | s ns =>
      cases hi
      refine .inl ⟨L, env, S, ?_⟩
      rw [q]
      intro v H' s
      obtain ⟨s1, s2⟩ := S0 s
      obtain ⟨a, rfl, hl⟩ := s2.script List.mem_cons_self
      exact ⟨a, rfl, ⟨_, hl⟩, h2 _ _ _ s1 (iter_script List.mem_cons_self)⟩
    | d x =>
      cases x with
      | list xs =>
        cases hi
        refine .inl ⟨L, env, S, ?_⟩
        rw [q]
        intro v H' s
        obtain ⟨s1, s2⟩ := S0 s
        obtain ⟨a, vs, rfl, hl, _⟩ := s2.seeL List.mem_cons_self
        exact ⟨a, rfl, ⟨_, .of hl⟩, h2 _ _ _ s1 (iter_list List.mem_cons_self)⟩
      | tuple xs =>
        cases hi
        refine .inr (.inl ⟨L, env, S, ?_⟩)
        rw [q]
        intro v H' s
        obtain ⟨s1, s2⟩ := S0 s
        obtain ⟨a, vs, rfl, hl, _⟩ := s2.seeT List.mem_cons_self
        exact ⟨a, rfl, ⟨_, hl⟩, h2 _ _ _ s1 (iter_tup List.mem_cons_self)⟩
      | str x =>
        cases hi
        refine .inr (.inr ⟨L, env, S, ?_⟩)
        rw [q]
        intro v H' s
        obtain ⟨s1, s2⟩ := S0 s
        have := s2.str List.mem_cons_self
        exact ⟨x, this, h2 _ _ _ s1 iter_str⟩
      | _ => cases hi
    | _ => cases hi
/-! range -/
def rgI : Option DV → Option DV → Option (List DV)
  | some (.d (.int a)), some (.d (.int b)) => if rgOk a b then some ((rgP a b).map .d) else none
  | _, _ => none
theorem rgI_some {x y : Option DV} {r : List DV} (h : rgI x y = some r) : ∃ a b, x = some (.d (.int a)) ∧ y = some (.d (.int b)) ∧ rgOk a b = true ∧ r = (rgP a b).map .d := by
  unfold rgI at h
  split at h
  · split at h
    · rename_i hr
      cases h
      exact ⟨_, _, rfl, rfl, hr, rfl⟩
    · cases h
  · cases h
theorem iter_rg {held : List Root} {a b : Int} : IterOk X.K Z (Itr a (b - a).toNat) held ((rgP a b).map .d) := fun i H R S => by
  have hl : ((rgP a b).map DV.d).length = (b - a).toNat := by unfold rgP; simp
  refine ⟨fun hi => by rw [hl] at hi; exact hi, fun d hd => ?_⟩
  have hd0 := (List.getElem?_eq_some_iff.mp hd).1
  rw [List.getElem?_map] at hd
  obtain ⟨x, hx, rfl⟩ := Option.map_eq_some_iff.mp hd
  unfold rgP at hx
  rw [List.getElem?_map] at hx
  obtain ⟨j, hj, rfl⟩ := Option.map_eq_some_iff.mp hx
  have hlt : i < (b - a).toNat := by
    rw [hl] at hd0; exact hd0
  rw [List.getElem?_range hlt] at hj
  cases hj
  refine ⟨hlt, fun y H' ⟨e, hy⟩ => ?_⟩
  subst e; subst hy
  exact S.cint
def rg1I (ta : Tm) (fa : M DV) : M (List DV) := fun env => (fa env).bind fun d e => .ofO (rgI (some (.d (.int 0))) (ta.now d e)) e
def rg2I (ta tb : Tm) (fa fb : M DV) : M (List DV) := fun env => (fa env).bind fun d e1 => (fb e1).bind fun d' e => .ofO (rgI (ta.now d e) (tb.now d' e)) e
theorem Stt.heldNil (S : Stt X.K Z φ env [] σ H L) : Stt X.K Z φ env [] σ H ([] ++ L) := S
theorem ji_range1 {x : Str} (ex : x = "range") (hg : Gl X x) (hm : X.mg x = none) (hs : noStar a = true) (ha : JE X Z W φ a φ1 ta fa) : JI X Z W φ tg (.Call (.Name x p) [a] [] pos) φ1 (rg1I ta fa) := by
  subst ex
  refine pi_imp (pi_range1 hg hm (pa_cons ha pa_nil (star_eq hs)) (star_eq hs)) fun σ H R ⟨L, env, S, h⟩ => ?_
  refine rdE.go S (h.bind.mono fun d e1 h1 v H1 S1 => ?_)
  obtain ⟨r, q, h2⟩ := h1.ofO
  obtain ⟨i, n, ei, q2, hr, rfl⟩ := rgI_some q
  cases ei
  have e1 : v = .int n := S1.isI (h := ⟨ta, d, v⟩) List.mem_cons_self q2
  unfold rgOk at hr
  simp only [Bool.and_eq_true, decide_eq_true_eq] at hr
  refine ⟨n, by rw [e1], by omega, by omega, ?_⟩
  have e2 : n.toNat = (n - 0).toNat := by simp
  rw [e2]
  exact h2 _ [] _ S1.free.heldNil iter_rg
theorem ji_range2 {x : Str} (ex : x = "range") (hg : Gl X x) (hm : X.mg x = none) (hs : noStar a = true) (hs2 : noStar b = true) (ha : JE X Z W φ a φ1 ta fa) (hb : JE X Z W φ1 b φ2 tb fb) : JI X Z W φ tg (.Call (.Name x p) [a, b] [] pos) φ2 (rg2I ta tb fa fb) := by
  subst ex
  have eb : starEach [b] X.env = [(false, eval b X.env)] := star_eq hs2
  refine pi_imp (pi_range2 hg hm (pa_cons ha (pa_cons hb pa_nil (star_eq hs2)) (star_eq hs)) (by rw [star_eq hs, eb]) eb) fun σ H R ⟨L, env, S, h⟩ => ?_
  refine rdE.go S (h.bind.mono fun d e1 h1 v H1 S1 => ?_)
  refine rdE.go S1 (h1.bind.mono fun d' e2 h2 u H2 S2 => ?_)
  obtain ⟨r, q, h3⟩ := h2.ofO
  obtain ⟨i, j, q1, q2, hr, rfl⟩ := rgI_some q
  have e1 : v = .int i := S2.isI (h := ⟨ta, d, v⟩) (List.mem_cons_of_mem _ List.mem_cons_self) q1
  have e2 : u = .int j := S2.isI (h := ⟨tb, d', u⟩) List.mem_cons_self q2
  unfold rgOk at hr
  simp only [Bool.and_eq_true, decide_eq_true_eq] at hr
  exact ⟨i, j, by rw [e1, e2], ⟨by omega, by omega, by omega, by omega⟩, h3 _ [] _ S2.free.free.heldNil iter_rg⟩
/-! enumerate over a list, zip of two lists or two tuples -/
def numFrom : Nat → List PyData → List DV
  | _, [] => []
  | i, x :: xs => .d (.tuple [.int i, x]) :: numFrom (i + 1) xs
def enumD : DV → Option (List DV)
  | .d (.list xs) => some (numFrom 0 xs)
  | _ => none
theorem numFrom_get : ∀ {xs : List PyData} {i j : Nat}, (numFrom j xs)[i]? = (xs[i]?).map fun x => .d (.tuple [.int ((j + i : Nat) : Int), x])
  | [], i, j => by simp [numFrom]
  | x :: xs, 0, j => by simp [numFrom]
  | x :: xs, i + 1, j => by
    show (numFrom (j + 1) xs)[i]? = (xs[i]?).map _
    rw [numFrom_get]
    have : j + 1 + i = j + (i + 1) := by omega
    rw [this]
theorem numFrom_len : ∀ {xs : List PyData} {j : Nat}, (numFrom j xs).length = xs.length
  | [], _ => rfl
  | x :: xs, j => by simp [numFrom, numFrom_len]
theorem iter_enum {held : List Root} {a : Addr} {ds : List PyData} (hm : (⟨0, .d (.list ds), .ref a⟩ : Root) ∈ held) : IterOk X.K Z (Ite X.K a) held (numFrom 0 ds) := fun i H R S => by
  obtain ⟨a', vs, e, h1, hl, S2⟩ := S.openL (List.mem_append_left _ hm) (Nat.zero_le _)
  cases e
  refine ⟨fun hi => ⟨vs, .of h1, by rw [numFrom_len] at hi; omega⟩, fun d hd => ?_⟩
  rw [numFrom_get] at hd
  obtain ⟨x, hx, rfl⟩ := Option.map_eq_some_iff.mp hd
  have hlt : i < vs.length := by rw [← hl]; exact (List.getElem?_eq_some_iff.mp hx).1
  refine ⟨⟨vs, vs[i], .of h1, List.getElem?_eq_getElem hlt⟩, fun y H' ⟨T, u, hy, hT, hH, hu⟩ => ?_⟩
  subst hH; subst hy
  have ey := hu vs (.of h1)
  have S3 := S2.kid hx ey
  have S4 : Sim X.K Z H (kids 0 [.int ((0 + i : Nat) : Int), x] [.int (i : Nat), u] ++ (held ++ R)) := by
    rw [Nat.zero_add]
    exact S3.cint
  exact (Sim.mkT (n := 0) S4 rfl hT).weak (Nat.zero_le _)
theorem ji_enum {x : Str} {n : Nat} (ex : x = "enumerate") (hg : Gl X x) (hm : X.mg x = none) (hs : noStar a = true) (ha : JE X Z W φ a φ1 (.v k) fa) :
    JI X Z W φ (.Tuple es n tpos) (.Call (.Name x p) [a] [] pos) φ1 (fun env => (fa env).bind fun d e => .ofO (enumD d) e) := by
  subst ex
  refine pi_imp (pi_enum hg hm (pa_cons ha pa_nil (star_eq hs)) (star_eq hs)) fun σ H R ⟨L, env, S, h⟩ => ?_
  refine rdE.go S (h.bind.mono fun d e1 h1 v H1 S1 => ?_)
  obtain ⟨r, q, h2⟩ := h1.ofO
  have s1 := Sim.weak S1.sim (Nat.zero_le _)
  cases d with
  | d x =>
    cases x with
    | list xs =>
      cases q
      obtain ⟨a, vs, rfl, hl, _⟩ := s1.seeL List.mem_cons_self
      refine ⟨a, vs, rfl, .of hl, h2 _ [⟨0, .d (.list xs), .ref a⟩] _ ⟨s1.perm ?_, S1.al, fun _ h => nomatch h⟩ (iter_enum List.mem_cons_self)⟩
      show (⟨0, .d (.list xs), .ref a⟩ :: (roots φ1 e1 σ ++ L)).Perm (roots φ1 e1 σ ++ (⟨0, .d (.list xs), .ref a⟩ :: L))
      exact List.perm_middle.symm
    | _ => cases q
  | _ => cases q
def zipP : List PyData → List PyData → List DV
  | x :: xs, y :: ys => .d (.tuple [x, y]) :: zipP xs ys
  | _, _ => []
def zipD : Option DV → Option DV → Option (List DV)
  | some (.d (.list xs)), some (.d (.list ys)) => some (zipP xs ys)
  | some (.d (.tuple xs)), some (.d (.tuple ys)) => some (zipP xs ys)
  | _, _ => none
theorem zipP_get : ∀ {xs ys : List PyData} {i : Nat}, (zipP xs ys)[i]? = match xs[i]?, ys[i]? with
    | some x, some y => some (.d (.tuple [x, y]))
    | _, _ => none
  | [], _, i => by simp [zipP]
  | x :: xs, [], i => by
    simp only [zipP, List.getElem?_nil]
    cases (x :: xs)[i]? <;> simp
  | x :: xs, y :: ys, 0 => rfl
  | x :: xs, y :: ys, i + 1 => by
    show (zipP xs ys)[i]? = match xs[i]?, ys[i]? with
      | some x, some y => some (.d (.tuple [x, y]))
      | _, _ => none
    exact zipP_get
theorem zipP_len : ∀ {xs ys : List PyData}, (zipP xs ys).length = min xs.length ys.length
  | [], _ => by simp [zipP]
  | x :: xs, [] => by simp [zipP]
  | x :: xs, y :: ys => by simp [zipP, zipP_len]
theorem zipP_some {xs ys : List PyData} {i : Nat} {d : DV} (h : (zipP xs ys)[i]? = some d) : ∃ x y, xs[i]? = some x ∧ ys[i]? = some y ∧ d = .d (.tuple [x, y]) := by
  rw [zipP_get] at h
  split at h
  · rename_i x y h1 h2
    cases h
    exact ⟨x, y, h1, h2, rfl⟩
  · cases h
theorem zip_end {i : Nat} {x y : PyData} {u w : V} {T : Addr} {xs ys : List PyData} {us ws : List V} (S : Sim X.K Z H (kids 0 ys ws ++ (kids 0 xs us ++ R))) (h1 : xs[i]? = some x) (h2 : ys[i]? = some y) (e1 : us[i]? = some u) (e2 : ws[i]? = some w) (hT : H T = none) :
    Sim X.K Z (upd H T (.tup [u, w])) (⟨0, .d (.tuple [x, y]), .ref T⟩ :: R) := by
  have S1 : Sim X.K Z H (⟨0, .d y, w⟩ :: (kids 0 xs us ++ R)) := S.kid h2 e2
  have S2 : Sim X.K Z H (⟨0, .d y, w⟩ :: (⟨0, .d x, u⟩ :: R)) := S1.sub (.cons_cons _ ((mem_sub (kids_mem h1 e1)).append_right R))
  have S3 : Sim X.K Z H (kids 0 [x, y] [u, w] ++ R) := S2.perm (.swap _ _ _)
  exact (Sim.mkT (n := 0) S3 rfl hT).weak (Nat.zero_le _)
theorem iter_zipL {held : List Root} {a b : Addr} {xs ys : List PyData} (hm : (⟨0, .d (.list xs), .ref a⟩ : Root) ∈ held) (hm2 : (⟨0, .d (.list ys), .ref b⟩ : Root) ∈ held) : IterOk X.K Z (Itz X.K a b) held (zipP xs ys) := fun i H R S => by
  obtain ⟨a', us, e, g1, l1, S1⟩ := S.openL (List.mem_append_left _ hm) (Nat.zero_le _)
  cases e
  obtain ⟨b', ws, e, g2, l2, S2⟩ := S1.openL (List.mem_append_right _ (List.mem_append_left _ hm2)) (Nat.zero_le _)
  cases e
  refine ⟨fun hi => ⟨us, ws, .of g1, .of g2, by rw [zipP_len] at hi; omega⟩, fun d hd => ?_⟩
  obtain ⟨x, y, h1, h2, rfl⟩ := zipP_some hd
  have q1 : i < us.length := by rw [← l1]; exact (List.getElem?_eq_some_iff.mp h1).1
  have q2 : i < ws.length := by rw [← l2]; exact (List.getElem?_eq_some_iff.mp h2).1
  refine ⟨⟨us, ws, us[i], ws[i], .of g1, .of g2, List.getElem?_eq_getElem q1, List.getElem?_eq_getElem q2⟩, fun v H' ⟨T, u, w, hv, hT, hH, hu, hw⟩ => ?_⟩
  subst hH; subst hv
  exact zip_end S2 h1 h2 (hu us (.of g1)) (hw ws (.of g2)) hT
theorem iter_zipT {held : List Root} {a b : Addr} {xs ys : List PyData} (hm : (⟨0, .d (.tuple xs), .ref a⟩ : Root) ∈ held) (hm2 : (⟨0, .d (.tuple ys), .ref b⟩ : Root) ∈ held) : IterOk X.K Z (RZ.ItzT X.K a b) held (zipP xs ys) := fun i H R S => by
  obtain ⟨a', us, e, g1, l1, S1⟩ := S.openT (List.mem_append_left _ hm) (Nat.zero_le _)
  cases e
  obtain ⟨b', ws, e, g2, l2, S2⟩ := S1.openT (List.mem_append_right _ (List.mem_append_left _ hm2)) (Nat.zero_le _)
  cases e
  refine ⟨fun hi => ⟨us, ws, g1, g2, by rw [zipP_len] at hi; omega⟩, fun d hd => ?_⟩
  obtain ⟨x, y, h1, h2, rfl⟩ := zipP_some hd
  have q1 : i < us.length := by rw [← l1]; exact (List.getElem?_eq_some_iff.mp h1).1
  have q2 : i < ws.length := by rw [← l2]; exact (List.getElem?_eq_some_iff.mp h2).1
  refine ⟨⟨us, ws, us[i], ws[i], g1, g2, List.getElem?_eq_getElem q1, List.getElem?_eq_getElem q2⟩, fun v H' ⟨T, u, w, hv, hT, hH, hu, hw⟩ => ?_⟩
  subst hH; subst hv
  exact zip_end S2 h1 h2 (hu us g1) (hw ws g2) hT
def zipI (fa fb : M DV) : M (List DV) := fun env => (fa env).bind fun d e1 => (fb e1).bind fun d' e => .ofO (zipD (some d) (some d')) e
theorem ji_zip {x : Str} {n ka kb : Nat} (ex : x = "zip") (hg : Gl X x) (hm : X.mg x = none) (hs : noStar a = true) (hs2 : noStar b = true) (ha : JE X Z W φ a φ1 (.v ka) fa) (hb : JE X Z W φ1 b φ2 (.v kb) fb) :
    JI X Z W φ (.Tuple es n tpos) (.Call (.Name x p) [a, b] [] pos) φ2 (zipI fa fb) := by
  subst ex
  refine pi_imp (RZ.pi_zipA hg hm (pa_cons ha (pa_cons hb pa_nil (star_eq hs2)) (star_eq hs)) (star_eq hs) (star_any (by simp [hs2]))) fun σ H R ⟨L, env, S, h⟩ => ?_
  refine rdE.go S (h.bind.mono fun d e1 h1 v H1 S1 => ?_)
  refine rdE.go S1 (h1.bind.mono fun d' e2 h2 u H2 S2 => ?_)
  obtain ⟨r, q, h3⟩ := h2.ofO
  have s2 : Stt X.K Z φ2 e2 [] σ H2 ([⟨0, d', u⟩, ⟨0, d, v⟩] ++ L) := by
    have s0 : Sim X.K Z H2 (⟨kb, d', u⟩ :: ⟨ka, d, v⟩ :: (roots φ2 e2 σ ++ L)) := S2.sim
    have s1 := s0.less (R' := ⟨0, d', u⟩ :: ⟨0, d, v⟩ :: (roots φ2 e2 σ ++ L)) (.cons ⟨Nat.zero_le _, rfl, rfl⟩ (.cons ⟨Nat.zero_le _, rfl, rfl⟩ (Less.refl _)))
    refine ⟨s1.perm ?_, S2.al, fun _ h => nomatch h⟩
    show ([(⟨0, d', u⟩ : Root), ⟨0, d, v⟩] ++ (roots φ2 e2 σ ++ L)).Perm (roots φ2 e2 σ ++ ([(⟨0, d', u⟩ : Root), ⟨0, d, v⟩] ++ L))
    have z := shuf (A := []) (B := [(⟨0, d', u⟩ : Root), ⟨0, d, v⟩]) (C := roots φ2 e2 σ) (D := L)
    exact z
  have m1 : (⟨0, d, v⟩ : Root) ∈ hrts [] ++ (roots φ2 e2 σ ++ ([⟨0, d', u⟩, ⟨0, d, v⟩] ++ L)) := by simp
  have m2 : (⟨0, d', u⟩ : Root) ∈ hrts [] ++ (roots φ2 e2 σ ++ ([⟨0, d', u⟩, ⟨0, d, v⟩] ++ L)) := by simp
  unfold zipD at q
  split at q
  · rename_i xs ys q1 q2
    cases q1; cases q2; cases q
    obtain ⟨a, us, rfl, g1, _⟩ := s2.sim.seeL m1
    obtain ⟨b, ws, rfl, g2, _⟩ := s2.sim.seeL m2
    exact ⟨a, b, us, ws, rfl, .inl ⟨.of g1, .of g2, h3 _ _ _ s2 (iter_zipL (by simp) (by simp))⟩⟩
  · rename_i xs ys q1 q2
    cases q1; cases q2; cases q
    obtain ⟨a, us, rfl, g1, _⟩ := s2.sim.seeT m1
    obtain ⟨b, ws, rfl, g2, _⟩ := s2.sim.seeT m2
    exact ⟨a, b, us, ws, rfl, .inr ⟨g1, g2, h3 _ _ _ s2 (iter_zipT (by simp) (by simp))⟩⟩
  · cases q
end
end Lk
namespace Lk
open PySem PySem.Spec L2

def wipeE (vs : List Nat) (e : Ev) : Ev := match vs with
  | [] => e
  | v :: vs => (wipeE vs e).set v none
def restE (vs : List Nat) (e e2 : Ev) : Ev := match vs with
  | [] => e2
  | v :: vs => restE vs e (e2.set v (slot (wipeE vs e) v))
/-- nothing may be raised -/
def noEx {α : Type} (o : Out α) : Out α := match o with
  | .ok a e => .ok a e
  | _ => .bad
def dataOf : DV → Option PyData
  | .d x => some x
  | _ => none
def compGo (T : Tgt) (vs : List Nat) (ft : M Bool) (fe : M DV) : List DV → List PyData → M (List PyData)
  | [], acc => fun e => .ok acc e
  | d :: ds, acc => fun e => (noEx (tgM T d e)).bind fun _ e1 => (noEx (ft e1)).bind fun b e2 => match b with
    | false => compGo T vs ft fe ds acc (wipeE vs e2)
    | true => (noEx (fe e2)).bind fun y e3 => match dataOf y with
      | some x => if acc.length < big then compGo T vs ft fe ds (acc ++ [x]) (wipeE vs e3) else .bad
      | none => .bad
def compM (T : Tgt) (vs : List Nat) (fi : M (List DV)) (ft : M Bool) (fe : M DV) : M DV := fun env => (fi env).bind fun items e1 => (compGo T vs ft fe items [] (wipeE vs e1)).bind fun xs e2 => .ok (.d (.list xs)) (restE vs e1 e2)
abbrev W0 : WX := fun _ _ _ _ => False
section
theorem wipe_get {σ : St} {j : Nat} : ∀ {vs : List Nat}, j ∉ vs → (wipe σ vs)[j]? = σ[j]?
  | [], _ => rfl
  | v :: vs, h => by
    simp only [List.mem_cons, not_or] at h
    unfold wipe
    rw [List.getElem?_set_ne (fun z => h.1 z.symm), wipe_get h.2]
theorem wipe_in {σ : St} {j : Nat} : ∀ {vs : List Nat}, j ∈ vs → j < σ.length → (wipe σ vs)[j]? = some none
  | v :: vs, h, hl => by
    unfold wipe
    by_cases z : v = j
    · subst z
      rw [List.getElem?_set_self (by rw [wipe_length]; exact hl)]
    · rw [List.getElem?_set_ne z]
      rcases List.mem_cons.mp h with q | q
      · exact absurd q.symm z
      · exact wipe_in q hl
theorem wipe_ext {a b : St} {vs : List Nat} (hl : a.length = b.length) (h : ∀ j, j ∉ vs → a[j]? = b[j]?) : wipe a vs = wipe b vs := by
  apply List.ext_getElem?
  intro j
  by_cases hj : j ∈ vs
  · by_cases hlt : j < a.length
    · rw [wipe_in hj hlt, wipe_in hj (hl ▸ hlt)]
    · rw [List.getElem?_eq_none (by rw [wipe_length]; omega), List.getElem?_eq_none (by rw [wipe_length]; omega)]
  · rw [wipe_get hj, wipe_get hj, h j hj]
theorem Al.save1 : ∀ {φ : List Nat} {e : Ev} {σ : St} {v : Nat}, Al φ e σ → ∃ A, Al φ (e.set v none) (σ.set v none) ∧ (roots φ e σ).Perm (A ++ roots φ (e.set v none) (σ.set v none)) ∧
    ∀ e2, Al φ e2 (σ.set v none) → Al φ (e2.set v (slot e v)) σ ∧ (roots φ (e2.set v (slot e v)) σ).Perm (A ++ roots φ e2 (σ.set v none))
  | [], [], [], v, a => ⟨[], trivial, .refl _, fun e2 b => by
    cases e2 with
    | nil => exact ⟨trivial, .refl _⟩
    | cons _ _ => cases v <;> exact b.elim⟩
  | n :: φ, d :: e, x :: σ, 0, a => by
    refine ⟨roots [n] [d] [x], ⟨fun h => by simp at h, a.2⟩, ?_, fun e2 b => ?_⟩
    · cases d <;> cases x <;> first | exact .refl _
    · cases e2 with
      | nil => exact b.elim
      | cons d2 e2 =>
        have hd : d2 = none := by
          cases d2 with
          | none => rfl
          | some d => exact absurd (b.1 rfl) (by simp)
        subst hd
        refine ⟨⟨a.1, b.2⟩, ?_⟩
        show (roots (n :: φ) (slot (d :: e) 0 :: e2) (x :: σ)).Perm _
        have : slot (d :: e) 0 = d := by simp [slot]
        rw [this]
        cases d <;> cases x <;> exact .refl _
  | n :: φ, d :: e, x :: σ, v + 1, a => by
    obtain ⟨A, q1, q2, q3⟩ := Al.save1 (v := v) a.2
    refine ⟨A, ⟨a.1, q1⟩, ?_, fun e2 b => ?_⟩
    · simp only [List.set_cons_succ]
      cases d with
      | none => exact q2
      | some d =>
        cases x with
        | none => exact q2
        | some x => exact (q2.cons _).trans List.perm_middle.symm
    · cases e2 with
      | nil => exact b.elim
      | cons d2 e2 =>
        obtain ⟨z1, z2⟩ := q3 e2 b.2
        have : slot (d :: e) (v + 1) = slot e v := by simp [slot]
        rw [this]
        refine ⟨⟨b.1, z1⟩, ?_⟩
        simp only [List.set_cons_succ]
        cases d2 with
        | none => exact z2
        | some d =>
          cases x with
          | none => exact z2
          | some x => exact (z2.cons _).trans List.perm_middle.symm
  | [], [], _ :: _, _, a => a.elim
  | [], _ :: _, [], _, a => a.elim
  | [], _ :: _, _ :: _, _, a => a.elim
  | _ :: _, [], [], _, a => a.elim
  | _ :: _, [], _ :: _, _, a => a.elim
  | _ :: _, _ :: _, [], _, a => a.elim
theorem Al.saveA {φ : List Nat} {e : Ev} {σ : St} (a : Al φ e σ) : ∀ vs : List Nat, ∃ A, Al φ (wipeE vs e) (wipe σ vs) ∧ (roots φ e σ).Perm (A ++ roots φ (wipeE vs e) (wipe σ vs)) ∧
    ∀ e2, Al φ e2 (wipe σ vs) → Al φ (restE vs e e2) σ ∧ (roots φ (restE vs e e2) σ).Perm (A ++ roots φ e2 (wipe σ vs))
  | [] => ⟨[], a, .refl _, fun e2 b => ⟨b, .refl _⟩⟩
  | v :: vs => by
    obtain ⟨A, q1, q2, q3⟩ := Al.saveA a vs
    obtain ⟨B, p1, p2, p3⟩ := Al.save1 (v := v) q1
    refine ⟨A ++ B, p1, ?_, fun e2 b => ?_⟩
    · refine q2.trans ?_
      rw [List.append_assoc]
      exact List.Perm.append_left _ p2
    · obtain ⟨z1, z2⟩ := p3 e2 b
      obtain ⟨y1, y2⟩ := q3 _ z1
      refine ⟨y1, y2.trans ?_⟩
      rw [List.append_assoc]
      exact List.Perm.append_left _ z2
variable {X : Cx} {Z : ClT} {W : WX} {φ φ' φ1 φ2 φ3 φL : List Nat} {fe : M DV} {ft : M Bool} {fi : M (List DV)} {σ : St} {H : Hp} {L : List Root} {env : Ev} {elt tg iter : Expr} {ifs : List Expr} {scope : Scope} {own : List (Str × Nat)} {pos : Pos} {ke : Nat} {T : Tgt}
theorem Wish.noEx {α : Type} {W' : WX} {L' : List Root} {o : Out α} {k : α → Ev → Prop} (h : Wish X.K Z W L (Lk.noEx o) k) : Wish X.K Z W' L' o k := by
  cases o with
  | ok a e => exact h
  | ex c g e => exact h.elim
  | bad => exact h.elim
theorem compGo_ok {vs : List Nat} : ∀ (items : List DV) (acc : List PyData) (e : Ev) (k : List PyData → Ev → Prop) (W' : WX) (L' : List Root), Wish X.K Z W L (compGo T vs ft fe items acc e) k → Wish X.K Z W' L' (compGo T vs ft fe items acc e) k
  | [], acc, e, k, W', L', h => h
  | d :: ds, acc, e, k, W', L', h => by
    unfold compGo at h ⊢
    cases q1 : tgM T d e with
    | bad => rw [q1] at h; exact h.elim
    | ex c g e' => rw [q1] at h; exact h.elim
    | ok u e1 =>
      rw [q1] at h
      have h : Wish X.K Z W L ((Lk.noEx (ft e1)).bind _) k := h
      show Wish X.K Z W' L' ((Lk.noEx (ft e1)).bind _) k
      cases q2 : ft e1 with
      | bad => rw [q2] at h; exact h.elim
      | ex c g e' => rw [q2] at h; exact h.elim
      | ok b e2 =>
        rw [q2] at h
        cases b with
        | false => exact compGo_ok ds acc _ k W' L' h
        | true =>
          have h : Wish X.K Z W L ((Lk.noEx (fe e2)).bind _) k := h
          show Wish X.K Z W' L' ((Lk.noEx (fe e2)).bind _) k
          cases q3 : fe e2 with
          | bad => rw [q3] at h; exact h.elim
          | ex c g e' => rw [q3] at h; exact h.elim
          | ok y e3 =>
            rw [q3] at h
            have h : Wish X.K Z W L (match dataOf y with
              | some x => if acc.length < big then compGo T vs ft fe ds (acc ++ [x]) (wipeE vs e3) else .bad
              | none => .bad) k := h
            show Wish X.K Z W' L' (match dataOf y with
              | some x => if acc.length < big then compGo T vs ft fe ds (acc ++ [x]) (wipeE vs e3) else .bad
              | none => .bad) k
            cases q4 : dataOf y with
            | none => rw [q4] at h; exact h.elim
            | some x =>
              rw [q4] at h
              simp only at h ⊢
              split at h
              · rename_i hl
                rw [if_pos hl]
                exact compGo_ok ds _ _ k W' L' h
              · exact h.elim
theorem wipeE_len {e : Ev} : ∀ vs : List Nat, (wipeE vs e).length = e.length
  | [] => rfl
  | v :: vs => by unfold wipeE; rw [List.length_set, wipeE_len vs]
theorem Al.wipeA {φ : List Nat} {e : Ev} {σ : St} (a : Al φ e σ) (vs : List Nat) : Al φ (wipeE vs e) (wipe σ vs) ∧ ∃ A, (roots φ e σ).Perm (A ++ roots φ (wipeE vs e) (wipe σ vs)) := by
  obtain ⟨A, q1, q2, _⟩ := a.saveA vs
  exact ⟨q1, A, q2⟩
/-- tests behind a clause -/
def JTs (X : Cx) (Z : ClT) (W : WX) (φ : List Nat) (ifs : List Expr) (φ' : List Nat) (f : M Bool) : Prop := PTs X ifs (rdT X Z W φ φ' f)
theorem jts_nil : JTs X Z W φ [] φ (M.pure true) := ⟨fun pins s σ H Q I ⟨L, env, S, h⟩ => pts_nil.run pins s σ H Q I (h H S)⟩
theorem jts_one {c : Expr} (h : JT X Z W φ c φ' ft) : JTs X Z W φ [c] φ' ft := pts_one h
abbrev blkOf (X : Cx) (s : Shared) (H : Hp) (scope : Scope) (cl : List (Str × Addr)) (C : Addr) (fp : List Addr) : Cx := X.blk s H scope (compEnvC scope cl C X.env) fp
/-- the term of a target, as JG has it -/
abbrev gT (K : PySem.W.Frag) (Z : ClT) (T : Tgt) : TG := fun v σ H Q => ∃ (L : List Root) (env : Ev) (φ : List Nat) (k : Nat) (d : DV) (W : WX), Stt K Z φ env [⟨.v k, d, v⟩] σ H L ∧ k ≤ 1 ∧
  Wish K Z W L (tgM T d env) fun _ e' => ∀ σ' H', Stt K Z (tgF T k φ) e' [] σ' H' L → (∀ P pv, tgFree P T = true → Pok P pv σ → Pok P pv σ') → (σ'.length = σ.length ∧ ∀ j, j ∉ tgS T → σ'[j]? = σ[j]?) → Q σ' H'
theorem same_wipe {T : Tgt} {vs : List Nat} {σ2 : St} (hT : ∀ i ∈ tgS T, i ∈ vs) (hl : σ2.length = (wipe σ vs).length) (h : ∀ j, j ∉ tgS T → σ2[j]? = (wipe σ vs)[j]?) : wipe σ2 vs = wipe σ vs := by
  refine wipe_ext (by rw [hl, wipe_length]) fun j hj => ?_
  rw [h j (fun z => hj (hT j z)), wipe_get hj]
theorem Wish.any {α : Type} {W' : WX} {L' : List Root} {o : Out α} {k : α → Ev → Prop} (h : ∀ (c : Nat) (g : PyData) (e : Ev), o ≠ .ex c g e) (q : Wish X.K Z W L o k) : Wish X.K Z W' L' o k := by
  cases o with
  | ok a e => exact q
  | ex c g e => exact absurd rfl (h c g e)
  | bad => exact q.elim
theorem lc_law {vs : List Nat} {Q : VK} (hT : ∀ i ∈ tgS T, i ∈ vs) (l0 : leN φL φ1 = true) (l2 : leN φL φ2 = true) (l3 : leN φL φ3 = true)
    (h : rdE X Z W φ φL (.v (ke + 1)) (compM T vs fi ft fe) σ H Q) :
    tLc (rdI X Z W φ φ1 fi) (gT X.K Z T) (rdT X Z W0 (tgF T 0 φL) φ2 ft) (rdE X Z W0 φ2 φ3 (.v ke) fe) vs σ H Q := by
  obtain ⟨L, env, S, q⟩ := h
  refine ⟨L, env, S, q.bind.mono fun items e1 q1 J held H1 S1 ok D hD => ?_⟩
  have S1 := S1.less l0
  obtain ⟨A, a0, p0, back⟩ := S1.al.saveA vs
  let Post : List PyData → Ev → Prop := fun xs e2 => ∀ v H', Stt X.K Z φL (restE vs e1 e2) [⟨.v (ke + 1), .d (.list xs), v⟩] σ H' L → Q v H'
  have q2 : Wish X.K Z W0 [] (compGo T vs ft fe items [] (wipeE vs e1)) Post := compGo_ok items [] _ _ W0 [] q1.bind
  let St1 : Nat → Hp → Prop := fun i H => i ≤ items.length ∧ ∃ env acc, Sim X.K Z H (⟨ke + 1, .d (.list acc), .ref D⟩ :: (roots φL env (wipe σ vs) ++ (held ++ (A ++ L)))) ∧ Al φL env (wipe σ vs) ∧ acc.length ≤ big ∧ Wish X.K Z W0 [] (compGo T vs ft fe (items.drop i) acc env) Post
  refine ⟨fun i m H => m = items.length - i ∧ St1 i H, ⟨items.length, by omega, Nat.zero_le _, wipeE vs e1, [], ?_, a0, Nat.zero_le _, q2⟩, ?_⟩
  · have s0 : Sim X.K Z H1 (kids ke [] [] ++ (roots φL (wipeE vs e1) (wipe σ vs) ++ (held ++ (A ++ L)))) := by
      refine S1.sim.perm ?_
      show (roots φL e1 σ ++ (held ++ L)).Perm (roots φL (wipeE vs e1) (wipe σ vs) ++ (held ++ (A ++ L)))
      refine (List.Perm.append_right _ p0).trans ?_
      rw [List.append_assoc]
      refine List.perm_append_comm_assoc .. |>.trans ?_
      refine List.Perm.append_left _ ?_
      exact List.perm_append_comm_assoc ..
    exact Sim.mkL s0 rfl hD
  rintro i m H ⟨rfl, hi, env, acc, S, al, hac, q⟩
  have S0 : Sim X.K Z H (held ++ (⟨ke + 1, .d (.list acc), .ref D⟩ :: (roots φL env (wipe σ vs) ++ (A ++ L)))) := by
    refine S.perm ?_
    refine List.Perm.trans ?_ List.perm_middle.symm
    exact .cons _ (List.perm_append_comm_assoc ..)
  obtain ⟨o1, o2⟩ := ok i H _ S0
  by_cases hlt : i < items.length
  · obtain ⟨go, yl⟩ := o2 items[i] (List.getElem?_eq_getElem hlt)
    refine .inr ⟨go, St1 (i + 1), fun H' h' => ⟨items.length - (i + 1), by omega, rfl, h'⟩, fun x H' y => ?_⟩
    rw [List.drop_eq_getElem_cons hlt] at q
    generalize hL' : (⟨ke + 1, .d (.list acc), .ref D⟩ : Root) :: (held ++ (A ++ L)) = L'
    have S2 : Stt X.K Z φL env [⟨.v 0, items[i], x⟩] (wipe σ vs) H' L' := by
      subst hL'
      refine ⟨(yl x H' y).perm (.cons _ ?_), al, fun z hz => by rw [List.mem_singleton.mp hz]; trivial⟩
      show (held ++ (_ :: (roots φL env (wipe σ vs) ++ (A ++ L)))).Perm (roots φL env (wipe σ vs) ++ (_ :: (held ++ (A ++ L))))
      refine List.perm_middle.trans (List.Perm.trans (.cons _ ?_) List.perm_middle.symm)
      exact List.perm_append_comm_assoc ..
    have q : Wish X.K Z W0 [] ((Lk.noEx (tgM T items[i] env)).bind _) Post := q
    refine ⟨L', env, φL, 0, items[i], W0, S2, Nat.zero_le _, (q.bind.noEx (W' := W0) (L' := L')).mono fun _ e2 q3 σ2 H2 s2 _ ⟨g1, g2⟩ => ?_⟩
    have ew := same_wipe hT g1 g2
    refine ⟨ew, L', e2, s2, (q3.bind.noEx (W' := W0) (L' := L')).mono fun b e3 q4 H3 s3 => ?_⟩
    -- the turn's end
    have fin : ∀ {φ4 : List Nat} {e4 : Ev} {H4 : Hp} {acc' : List PyData}, leN φL φ4 = true → Sim X.K Z H4 (⟨ke + 1, .d (.list acc'), .ref D⟩ :: (roots φ4 e4 σ2 ++ (held ++ (A ++ L)))) → Al φ4 e4 σ2 → acc'.length ≤ big →
        Wish X.K Z W0 [] (compGo T vs ft fe (items.drop (i + 1)) acc' (wipeE vs e4)) Post → St1 (i + 1) H4 := fun {φ4 e4 H4 acc'} hl s a hb qq => by
      obtain ⟨a5, l5⟩ := a.less hl
      obtain ⟨a6, B, p6⟩ := a5.wipeA vs
      rw [ew] at a6 p6
      refine ⟨hlt, wipeE vs e4, acc', ?_, a6, hb, qq⟩
      have s7 := s.less (R' := ⟨ke + 1, .d (.list acc'), .ref D⟩ :: (roots φL e4 σ2 ++ (held ++ (A ++ L)))) (.cons ⟨Nat.le_refl _, rfl, rfl⟩ (Less.app l5 (Less.refl _)))
      have s8 := s7.perm (R' := ⟨ke + 1, .d (.list acc'), .ref D⟩ :: ((B ++ roots φL (wipeE vs e4) (wipe σ vs)) ++ (held ++ (A ++ L)))) (.cons _ (List.Perm.append_right _ p6))
      exact s8.sub (.cons_cons _ (List.Sublist.append_right (List.sublist_append_right _ _) _))
    cases b with
    | false =>
      simp only [Bool.false_eq_true, if_false]
      refine fin l2 ?_ s3.al hac q4
      refine s3.sim.perm ?_
      subst hL'
      exact List.perm_middle
    | true =>
      simp only [if_true]
      refine ⟨L', e3, s3, (q4.bind.noEx (W' := W0) (L' := L')).mono fun y e4 q5 yv H4 s4 => ?_⟩
      cases hy : dataOf y with
      | none => rw [hy] at q5; exact q5.elim
      | some x =>
        rw [hy] at q5
        simp only at q5
        split at q5
        · rename_i hb
          have ey : y = .d x := by
            cases y <;> simp only [dataOf] at hy <;> first | cases hy | skip
            rfl
          subst ey
          have s5 : Sim X.K Z H4 (⟨ke + 1, .d (.list acc), .ref D⟩ :: (⟨ke, .d x, yv⟩ :: (roots φ3 e4 σ2 ++ (held ++ (A ++ L))))) := by
            refine s4.sim.perm ?_
            subst hL'
            show (⟨ke, .d x, yv⟩ :: (roots φ3 e4 σ2 ++ (_ :: (held ++ (A ++ L))))).Perm _
            exact (List.Perm.cons _ List.perm_middle).trans (.swap _ _ _)
          obtain ⟨D', vacc, e, hD4, hlen, s6⟩ := s5.apart
          cases e
          refine ⟨vacc, hD4, by rw [sizeLine_eq]; unfold big at hb; omega, ?_⟩
          have s7 : SimT X.K Z H4 [D] (kids ke (acc ++ [x]) (vacc ++ [yv]) ++ (roots φ3 e4 σ2 ++ (held ++ (A ++ L)))) := by
            rw [kids_append hlen]
            rw [List.append_assoc]
            exact s6
          exact fin l3 (s7.close (by simp [hlen]) hD4) s4.al (by simp; exact hb) q5
        · exact q5.elim
  · have e : i = items.length := by omega
    subst e
    rw [List.drop_length] at q
    refine .inl ⟨o1 (Nat.le_refl _), (show ∀ v H', Stt X.K Z φL (restE vs e1 env) [⟨.v (ke + 1), .d (.list acc), v⟩] σ H' L → Q v H' from q) _ _ ?_⟩
    obtain ⟨a7, p7⟩ := back env al
    refine ⟨?_, a7, fun z hz => by rw [List.mem_singleton.mp hz]; trivial⟩
    have s8 : Sim X.K Z H (⟨ke + 1, .d (.list acc), .ref D⟩ :: (roots φL env (wipe σ vs) ++ (A ++ L))) := S.sub (.cons_cons _ (List.Sublist.append_left (List.sublist_append_right _ _) _))
    refine s8.perm (.cons _ ?_)
    refine (List.perm_append_comm_assoc ..).trans ?_
    rw [← List.append_assoc]
    exact List.Perm.append_right _ p7.symm
/-- a list comprehension, as a value -/
theorem je_lc (hc : X.calm = true) (hN : X.N.Nodup) (hi : JI X Z W φ tg iter φ1 fi) (ok : BlkOk X.N X.env.scope scope own)
    (hg : ∀ s H C cl fp, JG (blkOf X s H scope cl C fp) Z tg T) (ht : ∀ s H C cl fp, JTs (blkOf X s H scope cl C fp) Z W0 (tgF T 0 φL) ifs φ2 ft)
    (he : ∀ s H C cl fp, JE (blkOf X s H scope cl C fp) Z W0 φ2 elt φ3 (.v ke) fe) (hs : ∀ x, foldedSetIterable iter X.env x = pure x)
    (hT : ∀ i ∈ tgS T, i ∈ own.map (·.2)) (l0 : leN φL φ1 = true) (l2 : leN φL φ2 = true) (l3 : leN φL φ3 = true) :
    JE X Z W φ (.ListComp elt [⟨tg, iter, ifs, 0⟩] scope pos) φL (.v (ke + 1)) (compM T (own.map (·.2)) fi ft fe) :=
  pe_imp (pe_lc (g := gT X.K Z T) (tt := rdT X Z W0 (tgF T 0 φL) φ2 ft) (te := rdE X Z W0 φ2 φ3 (.v ke) fe) hc hN hi ok (fun s H C cl fp => hg s H C cl fp) (fun s H C cl fp => ht s H C cl fp) (fun s H C cl fp => he s H C cl fp) hs) fun σ H Q h => lc_law hT l0 l2 l3 h
/-- name = [..] on one line -/
theorem js_setLc {P : List (Nat × Nat)} {kr : Nat} {ψ : SF} {i : Nat} {y : Str} {py spos : Pos} (hc : X.calm = true) (hN : X.N.Nodup) (hy : X.N[i]? = some y) (hyl : X.env.scope.names.lookup y = some .local)
    (hsw : swapsWith (.ListComp elt [⟨tg, iter, ifs, 0⟩] scope pos) (some (.Name y py)) spos.line X.env = pure true)
    (hi : JI X Z W φ tg iter φ1 fi) (ok : BlkOk X.N X.env.scope scope own)
    (hg : ∀ s H C cl fp, JG (blkOf X s H scope cl C fp) Z tg T) (ht : ∀ s H C cl fp, JTs (blkOf X s H scope cl C fp) Z W0 (tgF T 0 φL) ifs φ2 ft)
    (he : ∀ s H C cl fp, JE (blkOf X s H scope cl C fp) Z W0 φ2 elt φ3 (.v ke) fe) (hs : ∀ x, foldedSetIterable iter X.env x = pure x)
    (hT : ∀ i ∈ tgS T, i ∈ own.map (·.2)) (l0 : leN φL φ1 = true) (l2 : leN φL φ2 = true) (l3 : leN φL φ3 = true)
    (hP : P.all (fun p => p.1 != i) = true) (hn : ψ.n = φL.set i (ke + 1)) :
    JS X Z W P kr φ (.Assign [.Name y py] (.ListComp elt [⟨tg, iter, ifs, 0⟩] scope pos) spos) ψ (setM i (compM T (own.map (·.2)) fi ft fe)) := by
  refine ps_imp (ps_setLc (g := gT X.K Z T) (tt := rdT X Z W0 (tgF T 0 φL) φ2 ft) (te := rdE X Z W0 φ2 φ3 (.v ke) fe) hc hN hy hyl hsw hi ok (fun s H C cl fp => hg s H C cl fp) (fun s H C cl fp => ht s H C cl fp) (fun s H C cl fp => he s H C cl fp) hs) fun D σ H ⟨L, env, pv, S, hp, q⟩ => ?_
  refine lc_law (Q := fun x H1 => gName i x σ H1 D.nx) hT l0 l2 l3 ⟨L, env, S, q.bind.mono fun d e' q v H' s => ?_⟩
  split at q
  · rename_i hl
    rw [hn] at q
    exact (show ∀ σ' H', Stt X.K Z (φL.set i (ke + 1)) (e'.set i (some d)) [] σ' H' L → Pok P pv σ' → D.nx σ' H' from q) _ _ (s.store hl) (hp.set hP)
  · exact q.elim
end
end Lk
namespace Lk
open PySem PySem.Spec L2
section
variable {X : Cx} {Z : ClT} {W : WX} {P : List (Nat × Nat)} {kr : Nat} {φ φ0 φ1 φ2 φ3 φ' : List Nat} {ψ ψ1 ψ2 : SF} {t ta tb tc : Tm} {ts : List Tm} {fa fb fc : M DV} {f : M (List DV)} {g g1 g2 : M Fl} {σ : St} {H : Hp} {L R : List Root} {env : Ev} {a b c e tg : Expr} {es : List Expr} {st : Stmt} {sts : List Stmt} {pos pos' p : Pos} {k n : Nat}

/-! ### what is never reached needs no rule -/
theorem je_bad : JE X Z W φ e φ' t (fun _ => .bad) := ⟨fun pins s σ H Q I ⟨L, env, S, h⟩ => h.elim⟩
theorem js_bad : JS X Z W P kr φ st ψ (fun _ => .bad) := ⟨fun pins s σ H D I ⟨L, env, pv, S, hp, h⟩ => h.elim⟩
theorem jss_bad : JSs X Z W P kr φ sts ψ (fun _ => .bad) := ⟨fun pins s σ H D I ⟨L, env, pv, S, hp, h⟩ => h.elim⟩
theorem je_less (h : JE X Z W φ e φ1 t fa) (hl : leN φ2 φ1 = true) : JE X Z W φ e φ2 t fa := pe_imp h fun σ H Q ⟨L, env, S, q⟩ => ⟨L, env, S, q.mono fun d e' k v H' s => k v H' (s.less hl)⟩
theorem jt_less {ft : M Bool} (h : JT X Z W φ e φ1 ft) (hl : leN φ2 φ1 = true) : JT X Z W φ e φ2 ft := pt_imp h fun σ H Q ⟨L, env, S, q⟩ => ⟨L, env, S, q.mono fun d e' k H' s => k H' (s.less hl)⟩
theorem Stt.weakV {k m : Nat} {d : DV} {v : V} {hs : List Held} (S : Stt X.K Z φ env (⟨.v k, d, v⟩ :: hs) σ H L) (h : m ≤ k) : Stt X.K Z φ env (⟨.v m, d, v⟩ :: hs) σ H L := by
  refine ⟨Sim.weak (n := k) S.sim h, S.al, fun x hx => ?_⟩
  rcases List.mem_cons.mp hx with e | hx
  · subst e; trivial
  · exact S.at' x (List.mem_cons_of_mem _ hx)
theorem je_weak {m : Nat} (h : JE X Z W φ e φ1 (.v k) fa) (hl : m ≤ k) : JE X Z W φ e φ1 (.v m) fa := pe_imp h fun σ H Q ⟨L, env, S, q⟩ => ⟨L, env, S, q.mono fun d e' z v H' s => z v H' (s.weakV hl)⟩

/-! ### a op b op' c -/
def chM (g g' : DV → DV → Option DV) (ta tb tc : Tm) (fa fb fc : M DV) : M DV := fun env => (fa env).bind fun d e1 => (fb e1).bind fun d' e2 =>
  match ta.now d e2, tb.now d' e2 with
  | some x, some y => (match g x y with
    | some (.d (.bool true)) => (fc e2).bind fun d'' e3 => (match tb.now d' e3, tc.now d'' e3 with
      | some y, some z => (match g' y z with
        | some (.d (.bool r)) => .ok (.d (.bool r)) e3
        | _ => .bad)
      | _, _ => .bad)
    | some (.d (.bool false)) => .ok (.d (.bool false)) e2
    | _ => .bad)
  | _, _ => .bad
theorem Stt.op1 {hs : List Held} {h1 h2 : Held} {g : DV → DV → Option DV} {x y r : DV} {k cap : Nat} {P : VK} (S : Stt X.K Z φ env hs σ H L) (m1 : h1 ∈ hs) (m2 : h2 ∈ hs) (q1 : h1.t.now h1.d env = some x) (q2 : h2.t.now h2.d env = some y) (hg : g x y = some r)
    (hP : ∀ v H', Stt X.K Z (capS cap (hs.map fun h => h.t.slot?) φ) env (⟨.v k, r, v⟩ :: hs.map (Held.cap cap)) σ H' L → P v H') :
    ∃ R d e n m r, Sim X.K Z H R ∧ (⟨n, d, h1.v⟩ : Root) ∈ R ∧ (⟨m, e, h2.v⟩ : Root) ∈ R ∧ n ≤ cap ∧ m ≤ cap ∧ g d e = some r ∧ ∀ v H', Sim X.K Z H' (⟨k, r, v⟩ :: R) → P v H' := by
  obtain ⟨n, hn, mm1⟩ := S.memC (c := cap) m1 q1
  obtain ⟨m, hm, mm2⟩ := S.memC (c := cap) m2 q2
  refine ⟨_, x, y, n, m, r, (S.cap cap).sim, mm1, mm2, hn, hm, hg, fun v H' s => hP v H' ⟨s, (S.cap cap).al, fun z hz => ?_⟩⟩
  rcases List.mem_cons.mp hz with e | hz
  · subst e; trivial
  · exact (S.cap cap).at' z hz
theorem hrts_sub {hs hs' : List Held} (h : hs'.Sublist hs) : (hrts hs').Sublist (hrts hs) := by
  induction h with
  | slnil => exact .refl _
  | cons a _ ih => exact ih.trans (List.sublist_append_right _ _)
  | cons_cons a _ ih => exact List.Sublist.append_left ih _
theorem Stt.hsub {hs hs' : List Held} (S : Stt X.K Z φ env hs σ H L) (h : hs'.Sublist hs) : Stt X.K Z φ env hs' σ H L :=
  ⟨S.sim.sub (List.Sublist.append_right (hrts_sub h) _), S.al, fun x hx => S.at' x (h.subset hx)⟩
theorem ch_core {op op' : CmpOp} {g g' : DV → DV → Option DV} {k' : Nat} {P : VK} (S : Stt X.K Z φ env [] σ H L) (hb : JE X Z W φ1 b φ2 tb fb) (hc : JE X Z W (cap2 9 ta tb φ2) c φ3 tc fc) (hl : leN φ' (cap2 9 ta tb φ2) = true) (hl3 : leN φ' (cap2 9 tb tc φ3) = true)
    (h : Wish X.K Z W L (chM g g' ta tb tc fa fb fc env) fun d e' => ∀ kb H', d = .d (.bool kb) → Stt X.K Z φ' e' [] σ H' L → P (.bl kb) H') :
    tChain (fun x y H Q => ∃ R d e n m r, Sim X.K Z H R ∧ (⟨n, d, x⟩ : Root) ∈ R ∧ (⟨m, e, y⟩ : Root) ∈ R ∧ n ≤ 9 ∧ m ≤ 9 ∧ g d e = some r ∧ ∀ v H', Sim X.K Z H' (⟨k, r, v⟩ :: R) → Q v H')
      (fun x y H Q => ∃ R d e n m r, Sim X.K Z H R ∧ (⟨n, d, x⟩ : Root) ∈ R ∧ (⟨m, e, y⟩ : Root) ∈ R ∧ n ≤ 9 ∧ m ≤ 9 ∧ g' d e = some r ∧ ∀ v H', Sim X.K Z H' (⟨k', r, v⟩ :: R) → Q v H')
      (rdE X Z W φ φ1 ta fa) (rdE X Z W φ1 φ2 tb fb) (rdE X Z W (cap2 9 ta tb φ2) φ3 tc fc) σ H P := by
  refine rdE.go S (h.bind.mono fun d e1 h1 v H1 S1 => ?_)
  refine rdE.go S1 (h1.bind.mono fun d' e2 h2 u H2 S2 => ?_)
  cases q1 : ta.now d e2 with
  | none => rw [q1] at h2; exact h2.elim
  | some x =>
    cases q2 : tb.now d' e2 with
    | none => rw [q1, q2] at h2; exact h2.elim
    | some y =>
      rw [q1, q2] at h2
      simp only at h2
      cases q3 : g x y with
      | none => rw [q3] at h2; exact h2.elim
      | some r =>
        rw [q3] at h2
        have isb : ∃ kb, r = .d (.bool kb) := by
          cases r with
          | d r =>
            cases r with
            | bool kb => exact ⟨kb, rfl⟩
            | none => exact h2.elim
            | int _ => exact h2.elim
            | str _ => exact h2.elim
            | list _ => exact h2.elim
            | tuple _ => exact h2.elim
            | dict _ => exact h2.elim
          | o _ _ => exact h2.elim
          | x _ _ => exact h2.elim
          | f _ _ => exact h2.elim
          | s _ => exact h2.elim
        obtain ⟨kb, rfl⟩ := isb
        refine Stt.op1 (h1 := ⟨ta, d, v⟩) (h2 := ⟨tb, d', u⟩) (cap := 9) S2 (List.mem_cons_of_mem _ List.mem_cons_self) List.mem_cons_self q1 q2 q3 fun w H3 S3 => ?_
        have ew : w = .bl kb := S3.sim.bl (n := k) (List.mem_cons_self)
        refine ⟨kb, ew, ?_⟩
        have S4 : Stt X.K Z (cap2 9 ta tb φ2) e2 [Held.cap 9 ⟨tb, d', u⟩] σ H3 L := S3.hsub (.cons _ (.cons_cons _ (List.nil_sublist _)))
        cases kb with
        | false =>
          simp only [Bool.false_eq_true, if_false]
          exact h2 false H3 rfl (S4.less hl).free
        | true =>
          simp only [if_true]
          refine rdE.go S4 (h2.bind.mono fun d'' e3 h3 z H4 S5 => ?_)
          cases q5 : tb.now d' e3 with
          | none => rw [q5] at h3; exact h3.elim
          | some y' =>
            cases q6 : tc.now d'' e3 with
            | none => rw [q5, q6] at h3; exact h3.elim
            | some z' =>
              rw [q5, q6] at h3
              simp only at h3
              cases q7 : g' y' z' with
              | none => rw [q7] at h3; exact h3.elim
              | some r' =>
                rw [q7] at h3
                have q5' : (Held.cap 9 ⟨tb, d', u⟩).t.now (Held.cap 9 ⟨tb, d', u⟩).d e3 = some y' := by
                  cases tb with
                  | sl i => exact q5
                  | v k => exact q5
                have eu : (Held.cap 9 ⟨tb, d', u⟩).v = u := by cases tb <;> rfl
                have et : (Held.cap 9 ⟨tb, d', u⟩).t.slot? = tb.slot? := by cases tb <;> rfl
                have z0 := Stt.op1 (P := P) (k := k') (h1 := Held.cap 9 ⟨tb, d', u⟩) (h2 := ⟨tc, d'', z⟩) (cap := 9) S5 (List.mem_cons_of_mem _ List.mem_cons_self) List.mem_cons_self q5' q6 q7 fun w H5 S6 => by
                  have isb : ∃ kb, r' = .d (.bool kb) := by
                    cases r' with
                    | d r =>
                      cases r with
                      | bool kb => exact ⟨kb, rfl⟩
                      | none => exact h3.elim
                      | int _ => exact h3.elim
                      | str _ => exact h3.elim
                      | list _ => exact h3.elim
                      | tuple _ => exact h3.elim
                      | dict _ => exact h3.elim
                    | o _ _ => exact h3.elim
                    | x _ _ => exact h3.elim
                    | f _ _ => exact h3.elim
                    | s _ => exact h3.elim
                  obtain ⟨kb, rfl⟩ := isb
                  have ew2 : w = .bl kb := S6.sim.bl (n := k') List.mem_cons_self
                  rw [ew2]
                  have S7 := S6.free
                  simp only [List.map_cons, List.map_nil, et] at S7
                  exact h3 kb H5 rfl ((S7.less hl3).hsub (List.nil_sublist _))
                rw [eu] at z0
                exact z0
theorem je_chain {op op' : CmpOp} {g g' : DV → DV → Option DV} {k' : Nat} (ho : OpD X Z (compareOp op) g 9 k) (ho' : OpD X Z (compareOp op') g' 9 k') (hm : lastMarks [op, op'] [b, c] = false)
    (ha : JE X Z W φ a φ1 ta fa) (hb : JE X Z W φ1 b φ2 tb fb) (hc : JE X Z W (cap2 9 ta tb φ2) c φ3 tc fc) (hl : leN φ' (cap2 9 ta tb φ2) = true) (hl3 : leN φ' (cap2 9 tb tc φ3) = true) :
    JE X Z W φ (.Compare a [op, op'] [b, c] pos) φ' (.v 9) (chM g g' ta tb tc fa fb fc) := by
  refine pe_imp (pe_chain ho ho' ha hb hc hm) fun σ H Q ⟨L, env, S, h⟩ => ?_
  exact ch_core (op := op) (op' := op') S hb hc hl hl3 (h.mono fun d e' k kb H' e s => by
    subst e
    exact k (.bl kb) H' ⟨s.sim.cbl, s.al, fun z hz => by rw [List.mem_singleton.mp hz]; trivial⟩)
theorem jt_chain {op op' : CmpOp} {g g' : DV → DV → Option DV} {k' : Nat} (ho : OpD X Z (compareOp op) g 9 k) (ho' : OpD X Z (compareOp op') g' 9 k') (hm : lastMarks [op, op'] [b, c] = false)
    (ha : JE X Z W φ a φ1 ta fa) (hb : JE X Z W φ1 b φ2 tb fb) (hc : JE X Z W (cap2 9 ta tb φ2) c φ3 tc fc) (hl : leN φ' (cap2 9 ta tb φ2) = true) (hl3 : leN φ' (cap2 9 tb tc φ3) = true) :
    JT X Z W φ (.Compare a [op, op'] [b, c] pos) φ' (asB (.v 9) (chM g g' ta tb tc fa fb fc)) := by
  refine pt_imp (pt_chain ho ho' ha hb hc hm) fun σ H Q ⟨L, env, S, h⟩ => ?_
  exact ch_core (op := op) (op' := op') (P := fun z H' => ∃ k, z = .bl k ∧ Q k H') S hb hc hl hl3 (Wish.mono h.bind fun d e' k kb H' e s => by
    subst e
    exact ⟨kb, rfl, k H' s⟩)

/-! ### x[i] = v, x a list of the body's own -/
theorem kids_set {m : Nat} {x : PyData} {v : V} : ∀ {xs : List PyData} {vs : List V} {j : Nat}, xs.length = vs.length → j < xs.length → ∃ r, (r :: kids m (xs.set j x) (vs.set j v)).Perm (⟨m, .d x, v⟩ :: kids m xs vs)
  | y :: xs, w :: vs, 0, _, _ => ⟨⟨m, .d y, w⟩, by
    show (⟨m, .d y, w⟩ :: ⟨m, .d x, v⟩ :: kids m xs vs).Perm (⟨m, .d x, v⟩ :: ⟨m, .d y, w⟩ :: kids m xs vs)
    exact .swap _ _ _⟩
  | y :: xs, w :: vs, j + 1, h, hj => by
    obtain ⟨r, q⟩ := kids_set (m := m) (x := x) (v := v) (xs := xs) (vs := vs) (j := j) (by simpa using h) (by simpa using hj)
    refine ⟨r, ?_⟩
    show (r :: ⟨m, .d y, w⟩ :: kids m (xs.set j x) (vs.set j v)).Perm (⟨m, .d x, v⟩ :: ⟨m, .d y, w⟩ :: kids m xs vs)
    exact (List.Perm.swap _ _ _).trans ((List.Perm.cons _ q).trans (.swap _ _ _))
  | [], _, _, _, hj => by simp at hj
  | _ :: _, [], _, h, _ => by simp at h
theorem kids_less {m n : Nat} (h : m ≤ n) : ∀ (xs : List PyData) (vs : List V), Less (kids n xs vs) (kids m xs vs)
  | [], _ => .nil
  | _ :: _, [] => .nil
  | x :: xs, v :: vs => .cons ⟨h, rfl, rfl⟩ (kids_less h xs vs)
/-- the list of a slot, taken apart -/
theorem Stt.slotL {j n : Nat} {xs : List PyData} {hs : List Held} (S : Stt X.K Z φ env hs σ H L) (h : slot env j = some (.d (.list xs))) (hn : φ[j]? = some (n + 1)) :
    ∃ l vs, σ[j]? = some (some (.ref l)) ∧ H l = some (.lst vs) ∧ xs.length = vs.length ∧ SimT X.K Z H [l] (kids n xs vs ++ (hrts hs ++ (roots φ (env.set j none) σ ++ L))) := by
  obtain ⟨n', v, h1, h2, p⟩ := S.al.get h
  rw [hn] at h1; cases h1
  have s1 : Sim X.K Z H (⟨n + 1, .d (.list xs), v⟩ :: (hrts hs ++ (roots φ (env.set j none) σ ++ L))) := by
    refine S.sim.perm ?_
    exact (List.Perm.append_left _ (List.Perm.append_right L p)).trans List.perm_middle
  obtain ⟨l, vs, rfl, q1, q2, q3⟩ := s1.apart
  exact ⟨l, vs, h2, q1, q2, q3⟩
/-- .. and put back -/
theorem Stt.slotPut {j m : Nat} {l : Addr} {xs : List PyData} {vs ws : List V} {hs : List Held} (al : Al φ env σ) (at' : ∀ h ∈ hs, h.at σ) (hv : σ[j]? = some (some (.ref l))) (hH : H l = some (.lst ws)) (hl : xs.length = vs.length)
    (q : SimT X.K Z H [l] (kids m xs vs ++ (hrts hs ++ (roots φ (env.set j none) σ ++ L)))) : Stt X.K Z (φ.set j (m + 1)) (env.set j (some (.d (.list xs)))) hs σ (upd H l (.lst vs)) L := by
  obtain ⟨a2, p2⟩ := al.setE (d' := .d (.list xs)) (m + 1) hv
  refine ⟨?_, a2, at'⟩
  have s2 := q.close hl hH
  refine s2.perm ?_
  refine List.Perm.trans ?_ (List.Perm.append_left _ (List.Perm.append_right L p2.symm))
  exact List.perm_middle.symm
def stD (j : Nat) (x : PyData) (i : Int) (e : Ev) : Option Ev := match slot e j with
  | some (.d (.list xs)) => (ixN xs.length i).map fun k => e.set j (some (.d (.list (xs.set k x))))
  | _ => none
def intO : Option DV → Option Int
  | some (.d (.int i)) => some i
  | _ => none
theorem intO_some {o : Option DV} {i : Int} (h : intO o = some i) : o = some (.d (.int i)) := by
  unfold intO at h
  split at h
  · cases h; rfl
  · cases h
theorem dataOf_some {d : DV} {x : PyData} (h : dataOf d = some x) : d = .d x := by
  cases d <;> simp only [dataOf] at h <;> first | cases h | skip
  rfl
def stO (j : Nat) (d : DV) (oi : Option DV) (e : Ev) : Option Ev := (dataOf d).bind fun x => (intO oi).bind fun i => stD j x i e
def Out.goE {α : Type} (a : α) (o : Option Ev) : Out α := match o with
  | some e => .ok a e
  | none => .bad
theorem Wish.goE {α : Type} {a : α} {o : Option Ev} {k : α → Ev → Prop} (h : Wish X.K Z W L (Out.goE a o) k) : ∃ e, o = some e ∧ k a e := by
  cases o with
  | none => exact h.elim
  | some e => exact ⟨e, rfl, h⟩
def stM (j : Nat) (fv : M DV) (ti : Tm) (fi : M DV) : M Fl := fun env => (fv env).bind fun d e1 => (slotM j e1).bind fun _ e1 => (fi e1).bind fun i e2 => .goE .nx (stO j d (ti.now i e2) e2)
theorem stD_some {j : Nat} {x : PyData} {i : Int} {e e3 : Ev} (h : stD j x i e = some e3) : ∃ xs k, slot e j = some (.d (.list xs)) ∧ ixN xs.length i = some k ∧ e3 = e.set j (some (.d (.list (xs.set k x)))) := by
  unfold stD at h
  split at h
  · rename_i xs q
    obtain ⟨k, hk, rfl⟩ := Option.map_eq_some_iff.mp h
    exact ⟨xs, k, q, hk, rfl⟩
  · cases h
theorem Wish.slotM {j : Nat} {e : Ev} {k : DV → Ev → Prop} (h : Wish X.K Z W L (Lk.slotM j e) k) : ∃ d, slot e j = some d ∧ k d e := by
  unfold Lk.slotM at h
  cases q : slot e j with
  | none => rw [q] at h; exact h.elim
  | some d => rw [q] at h; exact ⟨d, rfl, h⟩
theorem js_store {j n m : Nat} {x : Str} {ei : Expr} {ti : Tm} {fv fi : M DV} {px pos2 : Pos} (hN : X.N[j]? = some x) (hv : Vis X.env.scope x) (hdb : (x == ("__debug__" : Str)) = false) (hcd : (x == ("__classdict__" : Str)) = false)
    (he : JE X Z W φ e φ1 (.v k) fv) (hi : JE X Z W φ1 ei φ2 ti fi) (hn : φ2[j]? = some (n + 1)) (hm : m = min n k)
    (hs : swapsWithSole [.Subscript (.Name x px) ei pos2] e pos.line X.env = pure false) (hw : swappedStores [.Subscript (.Name x px) ei pos2] e X.env = pure none) (h1 : (assignEach [.Subscript (.Name x px) ei pos2] X.env).map (·.2) = [assign (.Subscript (.Name x px) ei pos2) X.env])
    (hsu : ∀ v, assign (.Subscript (.Name x px) ei pos2) X.env v = (do
      let ov ← holding [v] (eval (.Name x px) X.env)
      let iv ← holding [v, ov] (eval ei X.env)
      standAt pos2
      holding [v, ov, iv] (setItem ov iv v)
      release [v, ov, iv] [])) (hψ : ψ.n = φ2.set j (m + 1)) :
    JS X Z W P kr φ (.Assign [.Subscript (.Name x px) ei pos2] e pos) ψ (stM j fv ti fi) := by
  refine ps_imp (ps_asg he (pg_sub (pe_var hN hv hdb hcd) hi set_list hsu) hs hw h1) fun D σ H ⟨L, env, pv, S, hp, q⟩ => ?_
  refine rdE.go S (q.bind.mono fun d e1 q1 v H1 S1 => ?_)
  obtain ⟨d0, q0, q1⟩ := Wish.slotM q1.bind
  obtain ⟨_, w, _, g2, _⟩ := S1.al.get q0
  refine ⟨w, g2, ?_⟩
  refine rdE.go S1 (q1.bind.mono fun i e2 q2 iv H2 S2 => ?_)
  obtain ⟨e3, z, q2⟩ := q2.goE
  obtain ⟨x, z0, z⟩ := Option.bind_eq_some_iff.mp z
  obtain ⟨i0, z1, z2⟩ := Option.bind_eq_some_iff.mp z
  obtain rfl := dataOf_some z0
  have z1 := intO_some z1
  obtain ⟨xs, k', y1, y2, rfl⟩ := stD_some z2
  have ei : iv = .int i0 := S2.isI (h := ⟨ti, i, iv⟩) List.mem_cons_self z1
  have S3 : Stt X.K Z φ2 e2 [⟨.v k, .d x, v⟩] σ H2 L := S2.free
  obtain ⟨l, vs, b1, b2, b3, b4⟩ := S3.slotL y1 hn
  rw [g2] at b1; cases b1
  have hk' : k' < xs.length := (ixN_seq y2).2.1
  refine ⟨l, vs, i0, k', rfl, ei, b2, b3 ▸ y2, ?_⟩
  have b5 : SimT X.K Z H2 [l] (kids m (xs.set k' x) (vs.set k' v) ++ (hrts [] ++ (roots φ2 (e2.set j none) σ ++ L))) := by
    obtain ⟨r, pr⟩ := kids_set (m := m) (x := x) (v := v) b3 hk'
    have c0 : SimT X.K Z H2 [l] (⟨k, .d x, v⟩ :: kids n xs vs ++ (roots φ2 (e2.set j none) σ ++ L)) := b4.perm List.perm_middle
    have l1 : m ≤ k := by omega
    have c1 : SimT X.K Z H2 [l] (⟨m, .d x, v⟩ :: kids m xs vs ++ (roots φ2 (e2.set j none) σ ++ L)) :=
      c0.less (.cons ⟨l1, rfl, rfl⟩ (Less.app (kids_less (by omega) xs vs) (Less.refl _)))
    have c2 := c1.perm (List.Perm.append_right _ pr.symm)
    exact c2.sub (List.sublist_cons_self _ _)
  rw [hψ] at q2
  refine (show ∀ σ' H', Stt X.K Z (φ2.set j (m + 1)) (e2.set j (some (.d (.list (xs.set k' x))))) [] σ' H' L → Pok P pv σ' → D.nx σ' H' from q2) σ _ ?_ hp
  exact Stt.slotPut S3.al (fun _ h => nomatch h) g2 b2 (by simp [b3]) b5

/-! ### methods of a list of the body's own -/
def apO (j : Nat) (d : DV) (e : Ev) : Option Ev := (dataOf d).bind fun x => match slot e j with
  | some (.d (.list xs)) => if xs.length < big then some (e.set j (some (.d (.list (xs ++ [x]))))) else none
  | _ => none
theorem apO_some {j : Nat} {d : DV} {e e3 : Ev} (h : apO j d e = some e3) : ∃ x xs, d = .d x ∧ slot e j = some (.d (.list xs)) ∧ xs.length < big ∧ e3 = e.set j (some (.d (.list (xs ++ [x])))) := by
  obtain ⟨x, h0, h⟩ := Option.bind_eq_some_iff.mp h
  split at h
  · rename_i xs q
    split at h
    · rename_i hb
      cases h
      exact ⟨x, xs, dataOf_some h0, q, hb, rfl⟩
    · cases h
  · cases h
/-- the slot holds a list -/
def lstM (j : Nat) : M Unit := fun e => match slot e j with
  | some (.d (.list _)) => .ok () e
  | _ => .bad
theorem Wish.lstM {j : Nat} {e : Ev} {k : Unit → Ev → Prop} (h : Wish X.K Z W L (Lk.lstM j e) k) : ∃ xs, slot e j = some (.d (.list xs)) ∧ k () e := by
  unfold Lk.lstM at h
  split at h
  · exact ⟨_, ‹_›, h⟩
  · exact h.elim
def apM (j : Nat) (fa : M DV) : M DV := fun env => (lstM j env).bind fun _ env => (fa env).bind fun d e => .goE (.d .none) (apO j d e)
theorem few_ok {env : PySem.Env} {es : List Expr} (h : es.all noStar = true) (hl : es.length < 29) : ((backTo pos (starEach es env)).all (fun x => !x.1) && (backToKw pos (keywordEach [] env)).all (fun x => x.1.isSome)
      && decide (es.length + ([] : List Keyword).length + (if ([] : List Keyword).isEmpty then 0 else 1) < 30)) = true := by
  have key : ∀ {es : List Expr}, es.all noStar = true → (backTo pos (starEach es env)).all (fun x => !x.1) = true := by
    intro es
    induction es with
    | nil => intro _; rfl
    | cons e es ih =>
      intro h
      simp only [List.all_cons, Bool.and_eq_true] at h
      rw [star_eq h.1]
      show (!false && (backTo pos (starEach es env)).all (fun x => !x.1)) = true
      rw [ih h.2]; rfl
  rw [key h]
  have : (backToKw pos (keywordEach [] env)).all (fun x => x.1.isSome) = true := rfl
  rw [this]
  simp only [Bool.true_and, decide_eq_true_eq, List.length_nil, List.isEmpty_nil, if_true]
  omega
theorem je_append {j n m : Nat} {x : Str} {px ap : Pos} (hN : X.N[j]? = some x) (hv : Vis X.env.scope x) (hdb : (x == ("__debug__" : Str)) = false) (hcd : (x == ("__classdict__" : Str)) = false)
    (ha : JE X Z W φ a φ1 (.v k) fa) (hs : noStar a = true) (hn : φ1[j]? = some (n + 1)) (hm : m = min n k)
    (hbase : attributeBase (.Name x px) "append" X.env (eval (.Name x px) X.env) = eval (.Name x px) X.env) (hline : (ap.endLine == pos.line) = true) :
    JE X Z W φ (.Call (.Attribute (.Name x px) "append" ap) [a] [] pos) (φ1.set j (m + 1)) (.v 9) (apM j fa) := by
  refine pe_imp (pe_bm PySem.F.plainAttrs_list PySem.F.slot_list_append PySem.F.type_list_append mt_append (pe_var hN hv hdb hcd) (pa_cons ha pa_nil (star_eq hs)) hbase (few_ok (by simp [hs]) (by simp)) hline (star_eq hs)) fun σ H Q ⟨L, env, S, h⟩ => ?_
  obtain ⟨xs0, q0, h⟩ := Wish.lstM h.bind
  obtain ⟨_, w, _, g2, p2⟩ := S.al.get q0
  have ml : (⟨_, .d (.list xs0), w⟩ : Root) ∈ hrts [] ++ (roots φ env σ ++ L) := List.mem_append_left L (p2.mem_iff.mpr List.mem_cons_self)
  obtain ⟨l, vs0, rfl, hl, _⟩ := S.sim.seeL ml
  refine ⟨.ref l, g2, .inl ⟨rfl, vs0, .of hl⟩, ?_⟩
  refine rdE.go S (h.bind.mono fun d e1 h1 v H1 S1 => ?_)
  obtain ⟨e3, z, h2⟩ := h1.goE
  obtain ⟨x, xs, rfl, y1, hb, rfl⟩ := apO_some z
  obtain ⟨l', vs, b1, b2, b3, b4⟩ := S1.slotL y1 hn
  rw [g2] at b1; cases b1
  refine ⟨l, vs, v, rfl, rfl, b2, by rw [sizeLine_eq]; unfold big at hb; omega, h2 _ _ ?_⟩
  have c0 : SimT X.K Z H1 [l] (kids m (xs ++ [x]) (vs ++ [v]) ++ (hrts [] ++ (roots φ1 (e1.set j none) σ ++ L))) := by
    rw [kids_append b3, List.append_assoc]
    exact b4.less (Less.app (kids_less (by omega) xs vs) (.cons ⟨by show m ≤ k; omega, rfl, rfl⟩ (Less.refl _)))
  have S3 := Stt.slotPut (hs := []) S1.al (fun _ h => nomatch h) g2 b2 (by simp [b3]) c0
  exact ⟨S3.sim.scal (.d .non), S3.al, fun z hz => by rw [List.mem_singleton.mp hz]; trivial⟩
def popO (j : Nat) (e : Ev) : Option (DV × Ev) := match slot e j with
  | some (.d (.list xs)) => (xs[xs.length - 1]?).map fun x => (.d x, e.set j (some (.d (.list xs.dropLast))))
  | _ => none
def popM (j : Nat) : M DV := fun e => match popO j e with
  | some (d, e') => .ok d e'
  | none => .bad
theorem kids_last {m : Nat} {x : PyData} {v : V} {xs : List PyData} {vs : List V} (h : xs.length = vs.length) (h1 : xs[xs.length - 1]? = some x) (h2 : vs[vs.length - 1]? = some v) : kids m xs vs = kids m xs.dropLast vs.dropLast ++ [⟨m, .d x, v⟩] := by
  rw [← List.getLast?_eq_getElem?] at h1 h2
  obtain ⟨ys, rfl⟩ := List.getLast?_eq_some_iff.mp h1
  obtain ⟨ws, rfl⟩ := List.getLast?_eq_some_iff.mp h2
  rw [kids_append (by simpa using h)]
  simp [kids]
theorem je_pop {j n : Nat} {x : Str} {px ap : Pos} (hN : X.N[j]? = some x) (hv : Vis X.env.scope x) (hdb : (x == ("__debug__" : Str)) = false) (hcd : (x == ("__classdict__" : Str)) = false) (hn : φ[j]? = some (n + 1))
    (hbase : attributeBase (.Name x px) "pop" X.env (eval (.Name x px) X.env) = eval (.Name x px) X.env) (hline : (ap.endLine == pos.line) = true) :
    JE X Z W φ (.Call (.Attribute (.Name x px) "pop" ap) [] [] pos) (φ.set j (n + 1)) (.v n) (popM j) := by
  refine pe_imp (pe_bm0 PySem.F.plainAttrs_list PySem.F.slot_list_pop PySem.F.type_list_pop mt_pop (pe_var hN hv hdb hcd) hbase hline) fun σ H Q ⟨L, env, S, h⟩ => ?_
  unfold popM popO at h
  split at h
  · rename_i d e' q
    split at q
    · rename_i xs y1
      obtain ⟨x, hx, q⟩ := Option.map_eq_some_iff.mp q
      cases q
      obtain ⟨l, vs, b1, b2, b3, b4⟩ := S.slotL y1 hn
      have hlen : vs.length - 1 < vs.length := by
        have := (List.getElem?_eq_some_iff.mp hx).1
        omega
      have h2 : vs[vs.length - 1]? = some vs[vs.length - 1] := List.getElem?_eq_getElem hlen
      refine ⟨.ref l, b1, .inl ⟨rfl, vs, .of b2⟩, l, vs, vs[vs.length - 1], rfl, rfl, b2, h2, ?_⟩
      rw [kids_last b3 hx h2, List.append_assoc] at b4
      have c0 : SimT X.K Z H [l] (kids n xs.dropLast vs.dropLast ++ (hrts [⟨.v n, .d x, vs[vs.length - 1]⟩] ++ (roots φ (env.set j none) σ ++ L))) := b4
      exact (show ∀ v H', Stt X.K Z (φ.set j (n + 1)) (env.set j (some (.d (.list xs.dropLast)))) [⟨.v n, .d x, v⟩] σ H' L → Q v H' from h) _ _ (Stt.slotPut S.al (fun z hz => by rw [List.mem_singleton.mp hz]; trivial) b1 b2 (by simp [b3]) c0)
    · cases q
  · exact h.elim

/-! ### two, three names at once -/
theorem Stt.storeC {i : Nat} {d : DV} {v : V} {hs : List Held} (S : Stt X.K Z φ env (⟨.v k, d, v⟩ :: hs) σ H L) (hv : ∀ h ∈ hs, ∃ k, h.t = .v k) (hi : i < env.length) : Stt X.K Z (φ.set i k) (env.set i (some d)) hs (σ.set i (some v)) H L := by
  obtain ⟨a, p⟩ := S.al.set (m := k) (d := d) (v := v) hi
  refine ⟨?_, a, fun x hx => ?_⟩
  · have S1 : Sim X.K Z H (⟨k, d, v⟩ :: (hrts hs ++ (roots φ (env.set i none) σ ++ L))) := S.sim.sub (.cons_cons _ (List.Sublist.append_left (List.Sublist.append_right roots_clr L) _))
    refine S1.perm ?_
    refine List.perm_middle.symm.trans (List.Perm.append_left _ ?_)
    exact List.Perm.append_right L p.symm
  · obtain ⟨k', e⟩ := hv x hx
    obtain ⟨t, d', v'⟩ := x
    cases e
    trivial
def parM (i j : Nat) (f : M (List DV)) : M Fl := fun env => (f env).bind fun ds e => match ds with
  | [a, b] => if i < e.length ∧ j < e.length then .ok .nx ((e.set i (some a)).set j (some b)) else .bad
  | _ => .bad
def par3M (i j l : Nat) (f : M (List DV)) : M Fl := fun env => (f env).bind fun ds e => match ds with
  | [a, b, c] => if i < e.length ∧ j < e.length ∧ l < e.length then .ok .nx (((e.set i (some a)).set j (some b)).set l (some c)) else .bad
  | _ => .bad
theorem js_par {i j k1 k2 : Nat} {x y : Str} {px py pt : Pos} {kt q2 pt2} (hc : X.calm = true) (hN : X.N.Nodup) (hi : X.N[i]? = some x) (hj : X.N[j]? = some y) (hij : i ≠ j)
    (hx : X.env.scope.names.lookup x = some .local) (hy : X.env.scope.names.lookup y = some .local) (ha : JA X Z W φ [a, b] φ1 [.v k1, .v k2] f)
    (hw : swappedStores [.Tuple [.Name x px, .Name y py] kt pt] (.Tuple [a, b] q2 pt2) X.env = pure (some [x, y]))
    (hs : swapsWithSole [.Tuple [.Name x px, .Name y py] kt pt] (.Tuple [a, b] q2 pt2) pos.line X.env = pure false)
    (hP : (P.all fun p => p.1 != i && p.1 != j) = true) (hψ : ψ.n = (φ1.set i k1).set j k2) :
    JS X Z W P kr φ (.Assign [.Tuple [.Name x px, .Name y py] kt pt] (.Tuple [a, b] q2 pt2) pos) ψ (parM i j f) := by
  refine ps_imp (ps_par hc hN hi hj hij hx hy ha hw hs) fun D σ H ⟨L, env, pv, S, hp, q⟩ => ?_
  refine ⟨L, env, S, q.bind.mono fun ds e q1 vs H1 hl hv S1 => ?_⟩
  match ds, vs, hl, hv with
  | [d1, d2], [v1, v2], _, _ =>
    have q1 : Wish X.K Z W L (if i < e.length ∧ j < e.length then Out.ok Fl.nx ((e.set i (some d1)).set j (some d2)) else .bad) _ := q1
    split at q1
    · rename_i hb
      have S2 : Stt X.K Z φ1 e [⟨.v k1, d1, v1⟩, ⟨.v k2, d2, v2⟩] σ H1 L := S1
      have S3 := S2.storeC (i := i) (fun h hh => by rw [List.mem_singleton.mp hh]; exact ⟨_, rfl⟩) hb.1
      have S4 := S3.storeC (i := j) (fun h hh => nomatch hh) (by rw [List.length_set]; exact hb.2)
      rw [hψ] at q1
      have hP1 : (P.all fun p => p.1 != i) = true := by
        rw [List.all_eq_true] at hP ⊢
        intro p hp; have := hP p hp; simp only [Bool.and_eq_true] at this; exact this.1
      have hP2 : (P.all fun p => p.1 != j) = true := by
        rw [List.all_eq_true] at hP ⊢
        intro p hp; have := hP p hp; simp only [Bool.and_eq_true] at this; exact this.2
      exact ⟨v1, v2, rfl, (show ∀ σ' H', Stt X.K Z ((φ1.set i k1).set j k2) ((e.set i (some d1)).set j (some d2)) [] σ' H' L → Pok P pv σ' → D.nx σ' H' from q1) _ _ S4 ((hp.set hP1).set hP2)⟩
    · exact q1.elim
theorem js_par3 {i j l k1 k2 k3 : Nat} {x y z : Str} {px py pz pt : Pos} {kt q2 pt2} (hc : X.calm = true) (hN : X.N.Nodup) (hi : X.N[i]? = some x) (hj : X.N[j]? = some y) (hl : X.N[l]? = some z) (hij : i ≠ j) (hil : i ≠ l) (hjl : j ≠ l)
    (hx : X.env.scope.names.lookup x = some .local) (hy : X.env.scope.names.lookup y = some .local) (hz : X.env.scope.names.lookup z = some .local) (ha : JA X Z W φ [a, b, c] φ1 [.v k1, .v k2, .v k3] f)
    (hw : swappedStores [.Tuple [.Name x px, .Name y py, .Name z pz] kt pt] (.Tuple [a, b, c] q2 pt2) X.env = pure (some [x, y, z]))
    (hs : swapsWithSole [.Tuple [.Name x px, .Name y py, .Name z pz] kt pt] (.Tuple [a, b, c] q2 pt2) pos.line X.env = pure false)
    (hP1 : (P.all fun p => p.1 != i) = true) (hP2 : (P.all fun p => p.1 != j) = true) (hP3 : (P.all fun p => p.1 != l) = true) (hψ : ψ.n = ((φ1.set i k1).set j k2).set l k3) :
    JS X Z W P kr φ (.Assign [.Tuple [.Name x px, .Name y py, .Name z pz] kt pt] (.Tuple [a, b, c] q2 pt2) pos) ψ (par3M i j l f) := by
  refine ps_imp (ps_par3 hc hN hi hj hl hij hil hjl hx hy hz ha hw hs) fun D σ H ⟨L, env, pv, S, hp, q⟩ => ?_
  refine ⟨L, env, S, q.bind.mono fun ds e q1 vs H1 hl hv S1 => ?_⟩
  match ds, vs, hl, hv with
  | [d1, d2, d3], [v1, v2, v3], _, _ =>
    have q1 : Wish X.K Z W L (if i < e.length ∧ j < e.length ∧ l < e.length then Out.ok Fl.nx (((e.set i (some d1)).set j (some d2)).set l (some d3)) else .bad) _ := q1
    split at q1
    · rename_i hb
      have S2 : Stt X.K Z φ1 e [⟨.v k1, d1, v1⟩, ⟨.v k2, d2, v2⟩, ⟨.v k3, d3, v3⟩] σ H1 L := S1
      have S3 := S2.storeC (i := i) (fun h hh => (List.mem_cons.mp hh).elim (fun e => ⟨k2, by rw [e]⟩) fun hh => ⟨k3, by rw [List.mem_singleton.mp hh]⟩) hb.1
      have S4 := S3.storeC (i := j) (fun h hh => by rw [List.mem_singleton.mp hh]; exact ⟨_, rfl⟩) (by rw [List.length_set]; exact hb.2.1)
      have S5 := S4.storeC (i := l) (fun h hh => nomatch hh) (by rw [List.length_set, List.length_set]; exact hb.2.2)
      rw [hψ] at q1
      exact ⟨v1, v2, v3, rfl, (show ∀ σ' H', Stt X.K Z (((φ1.set i k1).set j k2).set l k3) (((e.set i (some d1)).set j (some d2)).set l (some d3)) [] σ' H' L → Pok P pv σ' → D.nx σ' H' from q1) _ _ S5 (((hp.set hP1).set hP2).set hP3)⟩
    · exact q1.elim

/-! ### methods that change nothing -/
def tyD : DV → String
  | .s _ => "list"
  | .d (.str _) => "str"
  | .d (.int _) => "int"
  | .d (.list _) => "list"
  | .d (.dict _) => "dict"
  | _ => ""
theorem Sim.tyv {d : DV} {v : V} {T : String} (S : Sim X.K Z H R) (h : (⟨n, d, v⟩ : Root) ∈ R) (ht : tyD d = T) (hT : T ≠ "") : tyV X.K T v H := by
  obtain ⟨G, hd⟩ := S.den h
  cases hd with
  | d hd =>
    cases hd with
    | non => exact absurd ht.symm hT
    | bl b => exact absurd ht.symm hT
    | int i => exact ht.symm
    | str x => exact ht.symm
    | lst h1 h2 => exact .inl ⟨ht.symm, _, .of h1⟩
    | tup h1 h2 => exact absurd ht.symm hT
    | dic h1 h2 h3 =>
      refine .inr (.inr (.inl ⟨ht.symm, ?_⟩))
      rcases h1 with ⟨kvs, h1, _⟩ | ⟨kvs, h1, _⟩
      · exact .inl ⟨_, h1⟩
      · exact .inr ⟨_, h1⟩
  | s _ =>
    refine .inl ⟨ht.symm, ?_⟩
    obtain ⟨a, e, hl⟩ := S.script h
    cases e
    exact ⟨_, hl⟩
  | o _ _ _ _ => exact absurd ht.symm hT
/-- a method by values: the receiver, the operands -/
def MethD (X : Cx) (Z : ClT) (id : String) (g : DV → List DV → Option DV) (cap k : Nat) : Prop :=
  MtR X id fun x xs H Q => ∃ R n d ds r, Sim X.K Z H R ∧ (⟨n, d, x⟩ : Root) ∈ R ∧ n ≤ cap ∧ LArgs R cap ds xs ∧ g d ds = some r ∧ ∀ v H', Sim X.K Z H' (⟨k, r, v⟩ :: R) → Q v H'
def tyChk (T : String) (t : Tm) (d : DV) : M Unit := fun e => match t.now d e with
  | some x => if tyD x = T then .ok () e else .bad
  | none => .bad
def mthM (T : String) (g : DV → List DV → Option DV) (to : Tm) (fo : M DV) (ts : List Tm) (f : M (List DV)) : M DV := fun env => (fo env).bind fun d e1 => (tyChk T to d e1).bind fun _ e1 => (f e1).bind fun ds e2 =>
  .ofO ((to.now d e2).bind fun x => (nowsD ts ds e2).bind fun xs => g x xs) e2
theorem Wish.tyChk {T : String} {d : DV} {e : Ev} {k : Unit → Ev → Prop} (h : Wish X.K Z W L (Lk.tyChk T t d e) k) : ∃ x, t.now d e = some x ∧ tyD x = T ∧ k () e := by
  unfold Lk.tyChk at h
  cases q : t.now d e with
  | none => rw [q] at h; exact h.elim
  | some x =>
    rw [q] at h
    simp only at h
    split at h
    · exact ⟨x, rfl, ‹_›, h⟩
    · exact h.elim
theorem je_meth {T id : String} {name : Str} {g : DV → List DV → Option DV} {cap : Nat} {o : Expr} {to : Tm} {fo : M DV} {ap : Pos} (hT : T ≠ "") (pa : PlainAttrs T) (slot : Slot T name id) (hty : typeOf (.builtin id) = pure (.type "method_descriptor")) (hm : MethD X Z id g cap k)
    (ho : JE X Z W φ o φ1 to fo) (ha : JA X Z W φ1 (a :: es) φ2 ts f) (hs : noStar a = true) (hpl : es.all noStar = true) (hlen : es.length < 28)
    (hbase : attributeBase o name X.env (eval o X.env) = eval o X.env) (hline : (ap.endLine == pos.line) = true) :
    JE X Z W φ (.Call (.Attribute o name ap) (a :: es) [] pos) (capS cap (slotsOf ts ++ [to.slot?]) φ2) (.v k) (mthM T g to fo ts f) := by
  refine pe_imp (pe_bm pa slot hty hm ho ha hbase (few_ok (by simp only [List.all_cons, Bool.and_eq_true]; exact ⟨hs, hpl⟩) (by simp; omega)) hline (star_eq hs) (star_any hpl)) fun σ H Q ⟨L, env, S, h⟩ => ?_
  refine rdE.go S (h.bind.mono fun d e1 h1 v H1 S1 => ?_)
  obtain ⟨x, q1, ht, h1⟩ := h1.bind.tyChk
  obtain ⟨n, m, _⟩ := S1.mem (h := ⟨to, d, v⟩) List.mem_cons_self q1
  refine ⟨S1.sim.tyv m ht hT, ?_⟩
  refine rdA.go S1 (h1.bind.mono fun ds e2 h2 vs H2 hl hv S2 => ?_)
  obtain ⟨r, q, h3⟩ := h2.ofO
  obtain ⟨x2, q2, q⟩ := Option.bind_eq_some_iff.mp q
  obtain ⟨xs, q3, q4⟩ := Option.bind_eq_some_iff.mp q
  have S3 := S2.cap cap
  obtain ⟨n2, hn2, m2⟩ := S2.memC (c := cap) (h := ⟨to, d, v⟩) (List.mem_append_right _ List.mem_cons_self) q2
  have a2 := zipH_args (cap := cap) S2 hl hv (fun h hh => List.mem_append_left _ hh) q3
  refine ⟨_, n2, x2, xs, r, S3.sim, m2, hn2, a2, q4, fun w H' s => ?_⟩
  have es : (zipH ts ds vs ++ [(⟨to, d, v⟩ : Held)]).map (fun h => h.t.slot?) = slotsOf ts ++ [to.slot?] := by
    rw [List.map_append, zipH_slots hl hv]; rfl
  rw [es] at s S3
  refine h3 w H' ?_
  have S4 : Stt X.K Z (capS cap (slotsOf ts ++ [to.slot?]) φ2) e2 ((zipH ts ds vs ++ [(⟨to, d, v⟩ : Held)]).map (Held.cap cap) ++ []) σ H2 L := by rw [List.append_nil]; exact S3
  exact S4.done (hs := []) (by rw [List.append_nil]; exact s)
theorem je_meth0 {T id : String} {name : Str} {g : DV → List DV → Option DV} {cap : Nat} {o : Expr} {to : Tm} {fo : M DV} {ap : Pos} (hT : T ≠ "") (pa : PlainAttrs T) (slot : Slot T name id) (hty : typeOf (.builtin id) = pure (.type "method_descriptor")) (hm : MethD X Z id g cap k)
    (ho : JE X Z W φ o φ1 to fo) (hbase : attributeBase o name X.env (eval o X.env) = eval o X.env) (hline : (ap.endLine == pos.line) = true) :
    JE X Z W φ (.Call (.Attribute o name ap) [] [] pos) (capS cap [to.slot?] φ1) (.v k) (mthM T g to fo [] (M.pure [])) := by
  refine pe_imp (pe_bm0 pa slot hty hm ho hbase hline) fun σ H Q ⟨L, env, S, h⟩ => ?_
  refine rdE.go S (h.bind.mono fun d e1 h1 v H1 S1 => ?_)
  obtain ⟨x, q1, ht, h1⟩ := h1.bind.tyChk
  obtain ⟨n, m, _⟩ := S1.mem (h := ⟨to, d, v⟩) List.mem_cons_self q1
  refine ⟨S1.sim.tyv m ht hT, ?_⟩
  obtain ⟨r, q, h3⟩ := Wish.ofO (show Wish X.K Z W L (Out.ofO ((to.now d e1).bind fun x => (nowsD [] [] e1).bind fun xs => g x xs) e1) _ from h1)
  obtain ⟨x2, q2, q⟩ := Option.bind_eq_some_iff.mp q
  obtain ⟨xs, q3, q4⟩ := Option.bind_eq_some_iff.mp q
  cases q3
  obtain ⟨n2, hn2, m2⟩ := S1.memC (c := cap) (h := ⟨to, d, v⟩) List.mem_cons_self q2
  have S3 := S1.cap cap
  refine ⟨_, n2, x2, [], r, S3.sim, m2, hn2, .nil, q4, fun w H' s => h3 w H' ?_⟩
  exact Stt.done (as := [Held.cap cap ⟨to, d, v⟩]) (hs := []) S3 s
/-! split, join -/
def splitD : DV → List DV → Option DV
  | .d (.str a), [.d (.str b)] => if (b.length == 0) = false ∧ a.length ≤ big then some (.d (.list ((Txt.split a b).map .str))) else none
  | _, _ => none
theorem mth_split : MethD X Z "str.split" splitD 9 9 := by
  intro pins s σ H x xs v us Q I rx rs ⟨R, n, d, ds, r, S, m, hn, a, hg, hq⟩
  unfold splitD at hg
  split at hg
  · split at hg
    · rename_i ad bd hc
      cases hg
      obtain ⟨w, n2, rfl, _, m2⟩ := args1 a
      rw [S.str m] at rx
      rw [S.str m2] at rs
      have hz := hc.2
      exact mt_split pins s σ H _ _ v us Q I rx rs ⟨ad, bd, rfl, rfl, hc.1, by rw [sizeLine_eq]; unfold big at hz; omega, fun p hp => hq _ _ (Sim.mkL (n := 8) (kids_scalS 8 S) (by simp) hp)⟩
    · cases hg
  · cases hg
def joinP : PyData → Option (List Str)
  | .list xs => getSs xs
  | .tuple xs => getSs xs
  | _ => none
def joinD : DV → List DV → Option DV
  | .d (.str a), [.d y] => (joinP y).bind fun ys => if (ys.map (·.length)).sum + ys.length * a.length ≤ 16777216 then some (.d (.str (Txt.join a ys))) else none
  | _, _ => none
theorem mth_join : MethD X Z "str.join" joinD 9 9 := by
  intro pins s σ H x xs v us Q I rx rs ⟨R, n, d, ds, r, S, m, hn, a, hg, hq⟩
  unfold joinD at hg
  split at hg
  · rename_i ad y
    obtain ⟨ys, q, hg⟩ := Option.bind_eq_some_iff.mp hg
    split at hg
    · rename_i hc
      cases hg
      obtain ⟨w, n2, rfl, _, m2⟩ := args1 a
      rw [S.str m] at rx
      unfold joinP at q
      split at q
      · obtain ⟨p, vs, G, rfl, h1, h2⟩ := S.listOf m2
        rw [getSs_eq q] at h2
        exact mt_join pins s σ H _ _ v us Q I rx rs ⟨ad, p, ys, rfl, rfl, .inl (.of (by rw [h1, h2.strs])), hc, hq _ _ S.cstr⟩
      · obtain ⟨p, vs, G, rfl, h1, h2⟩ := S.tupleOf m2
        rw [getSs_eq q] at h2
        rw [h2.strs] at h1
        exact mt_join pins s σ H _ _ v us Q I rx rs ⟨ad, p, ys, rfl, rfl, .inr h1, hc, hq _ _ S.cstr⟩
      · cases q
    · cases hg
  · cases hg
end
end Lk
namespace Lk
open PySem PySem.Spec L2
open PyProof.Rows (envOfC)

/-- the flags, the parameters that go back -/
def inF : List Md → List Nat
  | [] => []
  | .fz :: ms => 0 :: inF ms
  | .io m _ :: ms => m :: inF ms
def ioP : Nat → List Md → List (Nat × Nat)
  | _, [] => []
  | i, .fz :: ms => ioP (i + 1) ms
  | i, .io _ m' :: ms => (i, m') :: ioP (i + 1) ms
def ioV : List Md → List V → List V
  | .fz :: ms, _ :: vs => ioV ms vs
  | .io _ _ :: ms, v :: vs => v :: ioV ms vs
  | _, _ => []
def env0 (n : Nat) (ds : List DV) : Ev := ds.map some ++ List.replicate (n - ds.length) none
/-- what a body answers -/
def endR (P : List (Nat × Nat)) : Out Fl → Res
  | .ok .nx e => (match outsAt P e with
    | some outs => .ok (.d .none) outs
    | none => .bad)
  | .ok (.rt d) e => (match outsAt P e with
    | some outs => .ok d outs
    | none => .bad)
  | .ex c g _ => .ex c g
  | _ => .bad
def runF (n : Nat) (P : List (Nat × Nat)) (g : M Fl) (ds : List DV) : Res := endR P (g (env0 n ds))
section
variable {K : PySem.W.Frag} {Z : ClT} {H : Hp} {L : List Root}
theorem roots_nones : ∀ {φ : List Nat} {n m : Nat} {σ : St}, roots φ (List.replicate n none) σ = []
  | [], _, _, _ => by cases ‹Nat› <;> rfl
  | _ :: _, 0, _, _ => rfl
  | _ :: _, _ + 1, _, [] => rfl
  | _ :: φ, n + 1, m, _ :: σ => by
    show roots φ (List.replicate n none) σ = []
    exact roots_nones (m := m)
theorem roots_arg : ∀ {ms : List Md} {ds : List DV} {vs : List V} {φ : List Nat} {e : Ev} {σ : St}, ds.length = ms.length → vs.length = ms.length → roots (inF ms ++ φ) (ds.map some ++ e) (vs.map some ++ σ) = argR ms ds vs ++ roots φ e σ
  | [], [], [], _, _, _, _, _ => rfl
  | .fz :: ms, d :: ds, v :: vs, φ, e, σ, h1, h2 => by
    show ⟨0, d, v⟩ :: roots (inF ms ++ φ) (ds.map some ++ e) (vs.map some ++ σ) = ⟨0, d, v⟩ :: (argR ms ds vs ++ roots φ e σ)
    rw [roots_arg (by simpa using h1) (by simpa using h2)]
  | .io m m' :: ms, d :: ds, v :: vs, φ, e, σ, h1, h2 => by
    show ⟨m, d, v⟩ :: roots (inF ms ++ φ) (ds.map some ++ e) (vs.map some ++ σ) = ⟨m, d, v⟩ :: (argR ms ds vs ++ roots φ e σ)
    rw [roots_arg (by simpa using h1) (by simpa using h2)]
  | [], _ :: _, _, _, _, _, h, _ => by simp at h
  | [], [], _ :: _, _, _, _, _, h => by simp at h
  | _ :: _, [], _, _, _, _, h, _ => by simp at h
  | _ :: _, _ :: _, [], _, _, _, _, h => by simp at h
theorem al_arg : ∀ {φ : List Nat} {ds : List DV} {vs : List V} {n : Nat}, φ.length = ds.length → vs.length = ds.length → Al (φ ++ List.replicate n 0) (ds.map some ++ List.replicate n none) (vs.map some ++ List.replicate n none)
  | [], [], [], 0, _, _ => trivial
  | [], [], [], n + 1, _, _ => ⟨fun h => by simp at h, al_arg (φ := []) (ds := []) (vs := []) (n := n) rfl rfl⟩
  | a :: φ, d :: ds, v :: vs, n, h1, h2 => ⟨fun _ => rfl, al_arg (by simpa using h1) (by simpa using h2)⟩
  | _ :: _, [], _, _, h, _ => by simp at h
  | [], _ :: _, _, _, h, _ => by simp at h
  | [], [], _ :: _, _, _, h => by simp at h
  | _ :: _, _ :: _, [], _, _, h => by simp at h
theorem inF_len : ∀ ms : List Md, (inF ms).length = ms.length
  | [] => rfl
  | .fz :: ms => by simp [inF, inF_len ms]
  | .io _ _ :: ms => by simp [inF, inF_len ms]
theorem pok_arg {σ : St} : ∀ {ms : List Md} {vs : List V} {i : Nat}, vs.length = ms.length → (∀ j v, vs[j]? = some v → σ[i + j]? = some (some v)) → Pok (ioP i ms) (ioV ms vs) σ
  | [], [], _, _, _ => .nil
  | .fz :: ms, v :: vs, i, h, q => pok_arg (ms := ms) (by simpa using h) fun j w e => by
    have := q (j + 1) w (by simpa using e)
    rwa [show i + (j + 1) = i + 1 + j by omega] at this
  | .io m m' :: ms, v :: vs, i, h, q => .cons (q 0 v rfl) (pok_arg (ms := ms) (by simpa using h) fun j w e => by
    have := q (j + 1) w (by simpa using e)
    rwa [show i + (j + 1) = i + 1 + j by omega] at this)
  | [], _ :: _, _, h, _ => by simp at h
  | _ :: _, [], _, h, _ => by simp at h
theorem ret_out : ∀ {ms : List Md} {vs : List V} {outs : List DV} {i : Nat}, vs.length = ms.length → retR (ioP i ms) outs (ioV ms vs) = outR ms outs vs
  | [], [], outs, _, _ => by cases outs <;> rfl
  | .fz :: ms, v :: vs, outs, i, h => ret_out (ms := ms) (by simpa using h)
  | .io m m' :: ms, v :: vs, [], i, h => rfl
  | .io m m' :: ms, v :: vs, o :: outs, i, h => by
    show ⟨m', o, v⟩ :: retR (ioP (i + 1) ms) outs (ioV ms vs) = ⟨m', o, v⟩ :: outR ms outs vs
    rw [ret_out (by simpa using h)]
  | [], _ :: _, _, _, h => by simp at h
  | _ :: _, [], _, _, h => by simp at h
end
/-- the context of a body -/
abbrev bodyX (P : Program) (w : World) (K : PySem.W.Frag) (mg : Str → Option Value) (base : Heap) (N : List Str) (qual : Str) (scope : Scope) (f : Addr) (cdv : Value) (A : Around) (outer : List PySem.Env) (s : Shared) (H : Hp) (E : XK) : Cx := cxOf (L2.CX P w) P w K mg base N qual scope f cdv A outer s H E
abbrev WE (E : XK) : WX := fun cls d _ H => E cls d H
section
variable {P : Program} {w : World} {K : PySem.W.Frag} {mg : Str → Option Value} {base : Heap} {k : Nat} {f : Addr} {fd : FuncData} {N ps : List Str} {Z : ClT} {ms : List Md} {kr : Nat} {qual nm : Str} {scope : Scope} {cdv : Value}
/-- what is asked of a def's body: for each way of being entered -/
def BodyD (P : Program) (w : World) (K : PySem.W.Frag) (mg : Str → Option Value) (base : Heap) (k : Nat) (N : List Str) (qual : Str) (st : Stmt) (f : Addr) (Z : ClT) (ms : List Md) (kr : Nat) (g : M Fl) : Prop :=
  ∀ (cdv : Value) (A : Around) (outer : List PySem.Env) (s : Shared) (H : Hp) (E : XK), Room k (A.deeper (envOfC qual (defScope st) s.heap.objs.size f cdv)) → (A.deeper (envOfC qual (defScope st) s.heap.objs.size f cdv)).guards = some [] →
    Takes (bodyX P w K mg base N qual (defScope st) f cdv A outer s H E) (WE E) →
    PassesOwn (model P w) (A.deeper (envOfC qual (defScope st) s.heap.objs.size f cdv)) (envOfC qual (defScope st) s.heap.objs.size f cdv) (bodyX P w K mg base N qual (defScope st) f cdv A outer s H E).xe →
    ∃ ψ, retOk (ioP 0 ms) ψ.n = true ∧ JSs (bodyX P w K mg base N qual (defScope st) f cdv A outer s H E) Z (WE E) (ioP 0 ms) kr (inF ms ++ List.replicate (N.length - ms.length) 0) (defBody st) ψ g
theorem ioP_ge : ∀ {ms : List Md} {i : Nat} {p : Nat × Nat}, p ∈ ioP i ms → i ≤ p.1
  | [], _, _, h => nomatch h
  | .fz :: ms, i, p, h => by have := ioP_ge (ms := ms) (i := i + 1) h; omega
  | .io m m' :: ms, i, p, h => by
    rcases List.mem_cons.mp h with e | h
    · rw [e]; exact Nat.le_refl _
    · have := ioP_ge (ms := ms) (i := i + 1) h; omega
theorem ioP_nodup : ∀ {ms : List Md} {i : Nat}, ((ioP i ms).map (·.1)).Nodup
  | [], _ => List.Pairwise.nil
  | .fz :: ms, i => ioP_nodup (ms := ms)
  | .io m m' :: ms, i => List.nodup_cons.mpr ⟨fun h => by
    obtain ⟨p, hp, e⟩ := List.mem_map.mp h
    have h3 := ioP_ge hp
    have e : p.1 = i := e
    omega, ioP_nodup (ms := ms)⟩
theorem body_reads {X : Cx} {E : XK} {sts : List Stmt} {ψ : SF} {g : M Fl} {vs : List V} {H : Hp} {Q : VK} (hr : retOk (ioP 0 ms) ψ.n = true) (b : JSs X Z (WE E) (ioP 0 ms) kr (inF ms ++ List.replicate (X.N.length - ms.length) 0) sts ψ g)
    (h : spD X.K Z ms kr (runF X.N.length (ioP 0 ms) g) vs H Q E) : rdS X Z (WE E) (ioP 0 ms) kr (inF ms ++ List.replicate (X.N.length - ms.length) 0) ψ g { nx := fun _ H' => Q .non H', rt := Q } (L2.start X.N vs) H := by
  obtain ⟨L, ds, h1, h2, S, h⟩ := h
  have est : L2.start X.N vs = vs.map some ++ List.replicate (X.N.length - ms.length) none := by unfold L2.start; rw [h1]
  have een : env0 X.N.length ds = ds.map some ++ List.replicate (X.N.length - ms.length) none := by unfold env0; rw [h2]
  refine ⟨L, env0 X.N.length ds, ioV ms vs, ⟨?_, ?_, fun _ z => nomatch z⟩, ?_, ?_⟩
  · rw [een, est]
    show Sim X.K Z H (roots _ _ _ ++ L)
    rw [roots_arg h2 h1, roots_nones (m := 0), List.append_nil]
    exact S
  · rw [een, est]
    exact al_arg (by rw [inF_len, h2]) (by rw [h1, h2])
  · refine pok_arg h1 fun j v e => ?_
    rw [est, Nat.zero_add]
    have hj := (List.getElem?_eq_some_iff.mp e).1
    rw [List.getElem?_append_left (by simpa using hj), List.getElem?_map, e]
    rfl
  · unfold runF at h
    cases q : g (env0 X.N.length ds) with
    | bad => rw [q] at h; exact h.elim
    | ex c x e =>
      rw [q] at h
      have h : XC X.K Z E L c x := h
      intro C a v σ' H' z1 z2 z3 _
      exact h C a v H' z1 z2 (z3.sub (.cons_cons _ (List.sublist_append_right _ _)))
    | ok fl e =>
      rw [q] at h
      cases fl with
      | br => exact h.elim
      | ct => exact h.elim
      | nx =>
        unfold endR at h
        simp only at h
        cases q2 : outsAt (ioP 0 ms) e with
        | none => rw [q2] at h; exact h.elim
        | some outs =>
          rw [q2] at h
          have h : ∀ v H', Sim X.K Z H' (⟨kr, .d .none, v⟩ :: (outR ms outs vs ++ L)) → Q v H' := h
          show ∀ σ' H', Stt X.K Z ψ.n e [] σ' H' L → Pok (ioP 0 ms) (ioV ms vs) σ' → Q .non H'
          intro σ' H' s hp
          have s2 := ret_core hr ioP_nodup q2 hp s.al s.sim
          rw [ret_out h1] at s2
          exact h .non H' (s2.scal (.d .non))
      | rt d =>
        unfold endR at h
        simp only at h
        cases q2 : outsAt (ioP 0 ms) e with
        | none => rw [q2] at h; exact h.elim
        | some outs =>
          rw [q2] at h
          refine ⟨outs, q2, fun v H' s => ?_⟩
          have h : ∀ v H', Sim X.K Z H' (⟨kr, d, v⟩ :: (outR ms outs vs ++ L)) → Q v H' := h
          rw [ret_out h1] at s
          exact h v H' s
/-- a def's contract, of its body; F is any function that answers as the body does where it answers at all -/
theorem fn_D {st : Stmt} {g : M Fl} {F : List DV → Res} (fn : Fun K nm qual st f fd) (S : FnScope N ps (defScope st)) (hl : ms.length = ps.length)
    (hF : ∀ ds, ds.length = ms.length → F ds = .bad ∨ runF N.length (ioP 0 ms) g ds = F ds) (b : BodyD P w K mg base k N qual st f Z ms kr g) : FnOkG P w K mg base (k + 1) f fd ps (spD K Z ms kr F) := by
  obtain ⟨oc, od, kV, doc, pm, an, cdv, ct, osl, rfl, lk, hcd⟩ := fn.ex
  refine ⟨fun vs H Q E h => ?_, fun A outer s H args us vs Q E room gd e0 hb r hsp => ?_⟩
  · obtain ⟨L, ds, h1, _⟩ := h
    rw [h1, hl]
  have hvl : vs.length = ps.length := by
    obtain ⟨L, ds, h1, _⟩ := hsp
    rw [h1, hl]
  have hsp2 : spD K Z ms kr (runF N.length (ioP 0 ms) g) vs H Q E := by
    obtain ⟨L, ds, h1, h2, h3, h4⟩ := hsp
    refine ⟨L, ds, h1, h2, h3, ?_⟩
    rcases hF ds h2 with z | z
    · rw [z] at h4; exact h4.elim
    · rw [z]; exact h4
  have inK : K.In s.heap := e0.mod.kin.keeps fun b o q => (e0.bs b o q).1
  have kinds : ∀ y ∈ ps.zip us, (defScope st).names.lookup y.1 = some .local ∨ ((defScope st).names.lookup y.1 = some .cell ∧ ((cellsFrom (s.heap.objs.size + 1) (defScope st).names []).lookup y.1).isSome = true) := by
    rintro ⟨n, v⟩ hy
    cases S.par n (List.of_mem_zip hy).1 with
    | inl q => exact .inl q
    | inr q => exact .inr ⟨q, PySem.W.cellsFrom_some _ _ _ (.inl q)⟩
  refine codeAny_call_function room.depth (inK _ _ lk) rfl S.co S.gen rfl (PySem.W.codeRec_of inK hcd) (hb _ _ _ _ ?_)
  refine wpAny_newFunctionEnv_cells S.kind kinds fun env he s1 x => ?_
  subst he
  refine ⟨(e0.mod.nolimit.keeps fun b o q => (e0.bs b o q).1).keeps x.toInCall.keep, codeAny_func ?_⟩
  obtain ⟨ψ, hψ, body⟩ := b cdv A outer s H E (room.deeper _) gd (takes_of rfl rfl rfl rfl) (passes_of rfl)
  have I := inv_start (CX := L2.CX P w) (f := f) (cd := cdv) (qual := qual) (E := E) S room.hd e0 hvl r x
  have t := body_reads (X := bodyX P w K mg base N qual (defScope st) f cdv A outer s H E) hψ body hsp2
  refine wpAny_mono (body.run [] s1 _ H _ I t) (fun fl s' back => ?_) fun _ _ q => q
  cases fl with
  | brk => exact let ⟨_, _, _, z⟩ := back; z.elim
  | cont => exact let ⟨_, _, _, z⟩ := back; z.elim
  | next => exact let ⟨_, H', J, z⟩ := back; ⟨.non, H', J.os, J.bare, J.base, J.hok, rfl, z⟩
  | ret u => exact let ⟨v, _, H', J, rv, z⟩ := back; ⟨v, H', J.os, J.bare, J.base, J.hok, rv, z⟩
end

end Lk
namespace Lk
open PySem PySem.Spec L2

/-- a def of the module, by its name: how its arguments bind, its contract -/
structure Has (P : Program) (w : World) (K : PySem.W.Frag) (mg : Str → Option Value) (base : Heap) (k : Nat) (x : Str) (ps : List Str) (Z : ClT) (ms : List Md) (kr : Nat) (F : List DV → Res) : Prop where
  ex : ∃ (f : Addr) (fd : FuncData), mg x = some (.ref f) ∧ PySem.W.keepIn K (.ref f) = true ∧
    (∀ (s : Shared) (us ws : List Value), us.length + ws.length = ps.length → BindsTo s fd ⟨us, (ps.drop us.length).zip ws⟩ (ps.zip (us ++ ws))) ∧ FnOkG P w K mg base k f fd ps (spD K Z ms kr F)
section
variable {X : Cx} {Z : ClT} {W : WX} {φ φ1 φ2 φ3 φ' : List Nat} {t ta : Tm} {ts ts2 : List Tm} {fa : M DV} {f f2 : M (List DV)} {σ : St} {H : Hp} {L : List Root} {env : Ev} {hs : List Held} {a : Expr} {es : List Expr} {pos p : Pos} {j k kr : Nat} {x : Str} {ms : List Md} {F : List DV → Res} {ps : List Str} {kws : List Keyword}
theorem Has.mono (h : Has X.prog X.w X.K X.mg X.base j x ps Z ms kr F) (hk : j ≤ k) : Has X.prog X.w X.K X.mg X.base k x ps Z ms kr F := by
  obtain ⟨f, fd, h1, h2, h3, h4⟩ := h.ex
  exact ⟨f, fd, h1, h2, h3, h4.mono hk⟩
/-- the values of keywords -/
def JK (X : Cx) (Z : ClT) (W : WX) (φ : List Nat) (kws : List Keyword) (φ' : List Nat) (ts : List Tm) (f : M (List DV)) : Prop := PK X kws (rdA X Z W φ φ' ts f)
theorem pk_imp {t t' : TA} (h : PK X kws t) (i : ∀ σ H Q, t' σ H Q → t σ H Q) : PK X kws t' := ⟨fun pos pins s σ H Q I q => h.run pos pins s σ H Q I (i _ _ _ q)⟩
theorem jk_nil : JK X Z W φ [] φ [] (M.pure []) := pk_imp pk_nil fun σ H Q ⟨L, env, S, h⟩ => by
  exact (show ∀ vs H', ([] : List DV).length = ([] : List Tm).length → vs.length = ([] : List Tm).length → Stt X.K Z φ env (zipH [] [] vs) σ H' L → Q vs H' from h) [] H rfl rfl S
theorem jk_cons {nm : Option Str} {kpos : Pos} (ha : JE X Z W φ a φ1 t fa) (h : JK X Z W φ1 kws φ2 ts f) : JK X Z W φ (⟨nm, a, kpos⟩ :: kws) φ2 (t :: ts) (consM fa f) := by
  refine pk_imp (pk_cons ha h) fun σ H Q ⟨L, env, S, h⟩ => ?_
  refine rdE.go S (h.bind.mono fun d e1 h1 v H1 S1 => ?_)
  refine rdA.go S1 (h1.bind.mono fun ds e2 h2 vs H2 hl hv S2 => ?_)
  refine h2 (v :: vs) H2 (by simp [hl]) (by simp [hv]) (S2.hperm ?_)
  show (zipH ts ds vs ++ [(⟨t, d, v⟩ : Held)]).Perm ((⟨t, d, v⟩ : Held) :: zipH ts ds vs)
  exact List.perm_append_comm
/-- the callee runs, keywords behind the rest in the parameters' order -/
theorem run_gK {pins : List (Addr × Obj)} {s : Shared} {Q : VK} {us ws : List Value} {vs : List V} {fn : Addr} {fd : FuncData} {sp : Sp} (G : FnOkG X.prog X.w X.K X.mg X.base k fn fd ps sp) (hr : Room k X.A) (hgd : X.A.guards = some [])
    (hb : ∀ (s : Shared) (us ws : List Value), us.length + ws.length = ps.length → BindsTo s fd ⟨us, (ps.drop us.length).zip ws⟩ (ps.zip (us ++ ws))) (tk : Takes X W)
    (I : Inv X pins σ H s) (r : Vals vs (us ++ ws)) (h : sp vs H Q fun cls d H' => W cls d σ H') : wpAny (model X.prog X.w) X.A (call (.ref fn) us ((ps.drop us.length).zip ws)) (EP X pins σ Q) X.xe s := by
  have hl : us.length + ws.length = ps.length := by
    rw [← List.length_append, ← r.length]
    exact G.len _ _ _ _ h
  have run := G.run X.A X.stack s H ⟨us, (ps.drop us.length).zip ws⟩ (us ++ ws) vs Q _ hr hgd I.env0 (hb s us ws hl) r h
  refine wpAny_call (codeAny_mono run fun o s' hq => ?_)
  match o, hq with
  | .error e, hq => exact tk e s' (XE.of_call I (fun _ _ _ z => z) hq)
  | .ok (.ret u), hq => exact I.after hq
  | .ok .next, hq => exact False.elim hq
  | .ok .brk, hq => exact False.elim hq
  | .ok .cont, hq => exact False.elim hq
theorem je_callH (G : Has X.prog X.w X.K X.mg X.base j x ps Z ms kr F) (hj : j ≤ k) (hr : Room k X.A) (hgd : X.A.guards = some []) (hg : Gl X x) (tk : Takes X W)
    (hdb : (x == ("__debug__" : Str)) = false) (hs : noStar a = true) (hpl : es.all noStar = true) (ha : JA X Z W φ (a :: es) φ2 ts f) (hf : fitM ms ts φ2 = true) :
    JE X Z W φ (.Call (.Name x p) (a :: es) [] pos) (flM ms ts φ2) (.v kr) (callF F ms ts f) := by
  obtain ⟨fn, fd, h1, h2, h3, h4⟩ := (G.mono hj).ex
  have hb : Binds X.K fd ps [] := fun s us _ hl => by
    rw [List.append_nil] at hl ⊢
    have q := h3 s us [] (by simpa using hl)
    rw [List.zip_nil_right, List.append_nil] at q
    exact q
  exact je_call h4 hr hgd hg h1 h2 hb tk hdb hs hpl ha hf
theorem vals_len {vs : List V} {us : List Value} (r : Vals vs us) : us.length = vs.length := r.length.symm
theorem zipH_app {ts2 : List Tm} {ds2 : List DV} {zs : List V} : ∀ {ts : List Tm} {ds : List DV} {vs : List V}, ds.length = ts.length → vs.length = ts.length → zipH (ts ++ ts2) (ds ++ ds2) (vs ++ zs) = zipH ts ds vs ++ zipH ts2 ds2 zs
  | [], [], [], _, _ => rfl
  | t :: ts, d :: ds, v :: vs, a, b => by
    show _ :: zipH (ts ++ ts2) (ds ++ ds2) (vs ++ zs) = _ :: (zipH ts ds vs ++ zipH ts2 ds2 zs)
    rw [zipH_app (by simpa using a) (by simpa using b)]
  | [], _ :: _, _, h, _ => by simp at h
  | [], [], _ :: _, _, h => by simp at h
  | _ :: _, [], _, h, _ => by simp at h
  | _ :: _, _ :: _, [], _, h => by simp at h
/-- f(.., k = e, ..): the keywords' names are the last parameters, in their order -/
theorem je_callK (G : Has X.prog X.w X.K X.mg X.base j x ps Z ms kr F) (hj : j ≤ k) (hr : Room k X.A) (hgd : X.A.guards = some []) (hg : Gl X x) (tk : Takes X W)
    (hdb : (x == ("__debug__" : Str)) = false) (hs : noStar a = true) (hpl : ((backTo pos (starEach (a :: es) X.env)).any (·.1) || (backToKw pos (keywordEach kws X.env)).any (·.1.isNone)) = false)
    (hall : (backToKw pos (keywordEach kws X.env)).all (·.1.isSome) = true) (hks : (backToKw pos (keywordEach kws X.env)).filterMap (·.1) = ps.drop (es.length + 1)) (hlen : ts.length = es.length + 1)
    (ha : JA X Z W φ (a :: es) φ1 ts f) (hk : JK X Z W φ1 kws φ2 ts2 f2) (hf : fitM ms (ts ++ ts2) φ2 = true) :
    JE X Z W φ (.Call (.Name x p) (a :: es) kws pos) (flM ms (ts ++ ts2) φ2) (.v kr) (callF F ms (ts ++ ts2) (fun e => (f e).bind fun ds e1 => (f2 e1).bind fun ds2 e2 => .ok (ds ++ ds2) e2)) := by
  obtain ⟨fn, fd, h1, h2, h3, h4⟩ := (G.mono hj).ex
  refine pe_imp (t := fun σ H Q => rdA X Z W φ φ1 ts f σ H fun vs H1 => vs.length = es.length + 1 ∧ rdA X Z W φ1 φ2 ts2 f2 σ H1 fun zs H2 => spD X.K Z ms kr F (vs ++ zs) H2 Q fun cls d H' => W cls d σ H') ⟨fun pins s σ H Q I h => ?_⟩ fun σ H Q ⟨L, env, S, h⟩ => ?_
  · refine wpAny_Call_Name_kw (ld_glob I hg h1 ?_ hdb)
    refine PySem.W.callWith_KW (h₀ := X.base) I.ok.mod.kin h2 hall (thn (ha.run pos pins s σ H _ I h) fun us s1 ⟨vs, H1, I1, r, hl, q⟩ => ?_) hpl (star_eq hs)
    refine thn (hk.run pos pins s1 σ H1 _ I1 q) fun ws s2 ⟨zs, H2, I2, rz, q2⟩ => ⟨I2.kIn, ?_⟩
    rw [hks, ← hl, ← vals_len r]
    exact run_gK h4 hr hgd h3 tk I2 (r.append rz) q2
  · refine ⟨L, env, S, ?_⟩
    have h := h.bind
    refine Wish.mono h.bind fun ds e1 h1 vs H1 hl hv S1 => ⟨by rw [hv, hlen], ?_⟩
    refine rdA.go S1 (Wish.mono h1.bind fun ds2 e2 h2 zs H2 hl2 hv2 S2 => ?_)
    have S3 : Stt X.K Z φ2 e2 (zipH (ts ++ ts2) (ds ++ ds2) (vs ++ zs)) σ H2 L := by
      refine S2.hperm ?_
      rw [zipH_app hl hv]
      exact List.perm_append_comm
    exact callF_core (ds := ds ++ ds2) hf (by simp [hl, hl2]) (by simp [hv, hv2]) S3 h2
theorem je_callK0 (G : Has X.prog X.w X.K X.mg X.base j x ps Z ms kr F) (hj : j ≤ k) (hr : Room k X.A) (hgd : X.A.guards = some []) (hg : Gl X x) (tk : Takes X W)
    (hdb : (x == ("__debug__" : Str)) = false) (hpl : ((backTo pos (starEach [] X.env)).any (·.1) || (backToKw pos (keywordEach kws X.env)).any (·.1.isNone)) = false)
    (hall : (backToKw pos (keywordEach kws X.env)).all (·.1.isSome) = true) (hks : (backToKw pos (keywordEach kws X.env)).filterMap (·.1) = ps)
    (hk : JK X Z W φ kws φ2 ts f) (hf : fitM ms ts φ2 = true) :
    JE X Z W φ (.Call (.Name x p) [] kws pos) (flM ms ts φ2) (.v kr) (callF F ms ts f) := by
  obtain ⟨fn, fd, h1, h2, h3, h4⟩ := (G.mono hj).ex
  refine pe_imp (t := fun σ H Q => rdA X Z W φ φ2 ts f σ H fun zs H2 => spD X.K Z ms kr F zs H2 Q fun cls d H' => W cls d σ H') ⟨fun pins s σ H Q I h => ?_⟩ fun σ H Q ⟨L, env, S, h⟩ => ?_
  · refine wpAny_Call_Name_kw (ld_glob I hg h1 ?_ hdb)
    refine PySem.W.callWith_KW0 (h₀ := X.base) I.ok.mod.kin h2 hall ?_ hpl
    refine thn (hk.run pos pins s σ H _ I h) fun ws s2 ⟨zs, H2, I2, rz, q2⟩ => ⟨I2.kIn, ?_⟩
    rw [hks]
    exact run_gK (us := []) h4 hr hgd h3 tk I2 rz q2
  · exact ⟨L, env, S, h.bind.mono fun ds e' h1 vs H' hl hv S' => callF_core hf hl hv S' h1⟩
/-- f() -/
theorem je_call0 (G : Has X.prog X.w X.K X.mg X.base j x ps Z [] kr F) (hj : j ≤ k) (hr : Room k X.A) (hgd : X.A.guards = some []) (hg : Gl X x) (tk : Takes X W)
    (hdb : (x == ("__debug__" : Str)) = false) (hps : ps = []) : JE X Z W φ (.Call (.Name x p) [] [] pos) φ (.v kr) (callF F [] [] (M.pure [])) := by
  obtain ⟨fn, fd, h1, h2, h3, h4⟩ := (G.mono hj).ex
  refine pe_imp (t := fun σ H Q => spD X.K Z [] kr F [] H Q fun cls d H' => W cls d σ H') ⟨fun pins s σ H Q I h => ?_⟩ fun σ H Q ⟨L, env, S, h⟩ => ?_
  · refine wpAny_Call_Name_kw (ld_glob I hg h1 ?_ hdb)
    refine PySem.W.callWith_K0 I.kIn h2 ?_
    have q := run_gK (us := []) (ws := []) h4 hr hgd h3 tk I .nil h
    rw [List.zip_nil_right] at q
    exact q
  · have S2 : Stt X.K Z φ env (zipH [] [] []) σ H L := S
    exact callF_core (ts := []) (ds := []) (vs := []) (φ2 := φ) rfl rfl rfl S2 h
end

/-! ### repr of a list, of a tuple -/
section
variable {X : Cx} {Z : ClT}
def isSeq : PyData → Bool
  | .list _ => true
  | .tuple _ => true
  | _ => false
def reprP (x : PyData) : Option PyData := if isSeq x && SeqAt.shaped x && x.showable && decide (x.shown.length ≤ big) then some (.str x.shown) else none
theorem cd_repr (hgd : X.A.guards = some []) (hu : X.A.units + 70 < cLine) : CallD X Z (.builtin "repr") (oneD reprP) 9 9 := cd_one fun pins s σ H v us Q p r R n I rv S m hn hg hq => by
  unfold reprP at hg
  split at hg
  · rename_i h
    simp only [Bool.and_eq_true, decide_eq_true_eq] at h
    obtain ⟨⟨⟨h1, h2⟩, h3⟩, h4⟩ := h
    cases hg
    have dp := S.dp m h2
    obtain ⟨a, rfl⟩ : ∃ a, v = .ref a := by
      cases p with
      | list xs => obtain ⟨a, _, rfl, _⟩ := S.seeL m; exact ⟨a, rfl⟩
      | tuple xs => obtain ⟨a, _, rfl, _⟩ := S.seeT m; exact ⟨a, rfl⟩
      | none => cases h1
      | bool _ => cases h1
      | int _ => cases h1
      | str _ => cases h1
      | dict _ => cases h1
    have e := Vals.ref1 rv
    subst e
    obtain ⟨as, rd⟩ := Dp.reads I p (.ref a) _ dp rfl
    have dd := SeqAt.depth_of_shaped h2
    refine repr_of_reads' rd h3 (PyData.noDict_hsm (PyData.hasDict_of_canLay p (SeqAt.canLay_of_shaped h2))) hgd (by omega) (fun b o e => e) (fun h' u tk hk => ?_) (big_line h4)
    exact ⟨.str p.shown, H, I.kept (t' := tk) hk, ⟨_, rfl⟩, hq _ _ S.cstr⟩
  · cases hg
end

/-! ### sorted -/
def insB {α : Type} (lt : α → α → Bool) (x : α) : List α → List α
  | [] => [x]
  | y :: ys => if lt y x then y :: insB lt x ys else x :: y :: ys
def srtB {α : Type} (lt : α → α → Bool) : List α → List α
  | [] => []
  | x :: xs => insB lt x (srtB lt xs)
/-- a total order, told by its strict half -/
structure Tot {α : Type} (lt : α → α → Bool) : Prop where
  asym : ∀ x y, lt x y = true → lt y x = false
  tr : ∀ x y z, lt x y = true → lt y z = true → lt x z = true
  eq : ∀ x y, lt x y = false → lt y x = false → x = y
section
variable {α : Type} {lt : α → α → Bool}
theorem Tot.irr (T : Tot lt) (x : α) : lt x x = false := by
  cases h : lt x x with
  | false => rfl
  | true => have := T.asym x x h; rw [h] at this; exact this
theorem Tot.swo (T : Tot lt) : SrtO.Swo lt := ⟨T.asym, fun x y z h1 h2 => by
  -- y ≤ x, z ≤ y: z ≤ x
  cases h : lt z x with
  | false => rfl
  | true =>
    cases h3 : lt x y with
    | true => rw [T.tr z x y h h3] at h2; exact h2
    | false =>
      have e := T.eq x y h3 h1
      subst e
      rw [h] at h2; exact h2⟩
theorem insB_perm (x : α) : ∀ l : List α, (insB lt x l).Perm (x :: l)
  | [] => .refl _
  | y :: ys => by
    unfold insB
    split
    · exact ((insB_perm x ys).cons y).trans (.swap _ _ _)
    · exact .refl _
theorem srtB_perm : ∀ l : List α, (srtB lt l).Perm l
  | [] => .refl _
  | x :: xs => (insB_perm x _).trans ((srtB_perm xs).cons x)
theorem insB_srt (T : Tot lt) (x : α) : ∀ {l : List α}, SrtO.Srtd lt l → SrtO.Srtd lt (insB lt x l)
  | [], _ => List.pairwise_singleton _ _
  | y :: ys, h => by
    obtain ⟨h1, h2⟩ := List.pairwise_cons.mp h
    unfold insB
    split
    · rename_i hy
      refine List.pairwise_cons.mpr ⟨fun z hz => ?_, insB_srt T x h2⟩
      rcases List.mem_cons.mp ((insB_perm x ys).mem_iff.mp hz) with e | hz
      · rw [e]; exact T.asym y x hy
      · exact h1 z hz
    · rename_i hy
      have hy : lt y x = false := by simpa using hy
      refine List.pairwise_cons.mpr ⟨fun z hz => ?_, h⟩
      rcases List.mem_cons.mp hz with e | hz
      · rw [e]; exact hy
      · exact T.swo.tr x y z hy (h1 z hz)
theorem srtB_srt (T : Tot lt) : ∀ l : List α, SrtO.Srtd lt (srtB lt l)
  | [] => List.Pairwise.nil
  | x :: xs => insB_srt T x (srtB_srt T xs)
/-- there is but one -/
theorem srt_uniq (T : Tot lt) : ∀ {l m : List α}, SrtO.Srtd lt l → SrtO.Srtd lt m → l.Perm m → l = m
  | [], m, _, _, p => (List.Perm.eq_nil p.symm).symm
  | x :: l, [], _, _, p => absurd p.length_eq (by simp)
  | x :: l, y :: m, hl, hm, p => by
    obtain ⟨l1, l2⟩ := List.pairwise_cons.mp hl
    obtain ⟨m1, m2⟩ := List.pairwise_cons.mp hm
    have e : x = y := by
      rcases List.mem_cons.mp (p.mem_iff.mp List.mem_cons_self) with e | hx
      · exact e
      · rcases List.mem_cons.mp (p.mem_iff.mpr List.mem_cons_self) with e | hy
        · exact e.symm
        · exact T.eq x y (m1 x hx) (l1 y hy)
    subst e
    rw [srt_uniq T l2 m2 p.cons_inv]
theorem srt_is (T : Tot lt) {l m : List α} (h : SrtO.Srtd lt l) (p : l.Perm m) : l = srtB lt m := srt_uniq T h (srtB_srt T m) (p.trans (srtB_perm m).symm)
end
def ltI (i j : Int) : Bool := decide (i < j)
theorem tot_int : Tot ltI := by
  refine ⟨fun x y h => ?_, fun x y z h1 h2 => ?_, fun x y h1 h2 => ?_⟩
  · have := of_decide_eq_true h
    exact decide_eq_false (by omega)
  · have := of_decide_eq_true h1
    have := of_decide_eq_true h2
    exact decide_eq_true (by omega)
  · have := of_decide_eq_false h1
    have := of_decide_eq_false h2
    omega
theorem tot_pair : Tot SrtO.lexB := by
  refine ⟨fun x y h => ?_, fun x y z h1 h2 => ?_, fun x y h1 h2 => ?_⟩
  · have := SrtO.lexB_iff.mp h
    exact SrtO.lexB_no.mpr (by omega)
  · have := SrtO.lexB_iff.mp h1
    have := SrtO.lexB_iff.mp h2
    exact SrtO.lexB_iff.mpr (by omega)
  · have := SrtO.lexB_no.mp h1
    have := SrtO.lexB_no.mp h2
    obtain ⟨a, b⟩ := x
    obtain ⟨c, d⟩ := y
    simp only at *
    have e1 : a = c := by omega
    have e2 : b = d := by omega
    rw [e1, e2]
def pairD (p : Int × Int) : PyData := .tuple [.int p.1, .int p.2]
def getPs : List PyData → Option (List (Int × Int))
  | [] => some []
  | .tuple [.int i, .int j] :: r => (match getPs r with
    | some ps => some ((i, j) :: ps)
    | none => none)
  | _ :: _ => none
theorem getPs_eq : ∀ {xs : List PyData} {ps : List (Int × Int)}, getPs xs = some ps → xs = ps.map pairD
  | [], _, h => by cases h; rfl
  | x :: xs, ps, h => by
    unfold getPs at h
    split at h
    · rename_i e; cases e
    · rename_i i j r e
      cases e
      split at h
      · rename_i ps' q
        cases h
        rw [getPs_eq q]; rfl
      · cases h
    · cases h
def sortP : PyData → Option PyData
  | .list xs => match getIs xs with
    | some is => some (.list ((srtB ltI is).map .int))
    | none => (getPs xs).map fun ps => .list ((srtB SrtO.lexB ps).map pairD)
  | _ => none
section
variable {X : Cx} {Z : ClT} {H : Hp} {R : List Root}
/-- the two ints of a pair, as they lie -/
noncomputable def pairAt (h : Heap) (v : Value) : Int × Int := match v with
  | .ref a => (match h.get? a with
    | some o => (match o.data with
      | .seq vs _ => (match vs.toList with
        | [.int i _, .int j _] => (i, j)
        | _ => (0, 0))
      | _ => (0, 0))
    | none => (0, 0))
  | _ => (0, 0)
theorem pair_item {pins : List (Addr × Obj)} {σ : St} {s : Shared} {p : Int × Int} {v : V} {u : Value} {G : Ft} (I : Inv X pins σ H s) (d : Den X.K H (pairD p) v G) (r : RelV v u) : (∃ a, v = .ref a) ∧ pairAt s.heap u = p ∧ Srt.IsPair s.heap u p.1 p.2 := by
  cases d with
  | tup h1 h2 =>
    cases h2 with
    | cons a1 t1 =>
      cases t1 with
      | cons a2 t2 =>
        cases t2
        cases a1
        cases a2
        cases r
        obtain ⟨its, rv, ht, _⟩ := I.tuple h1
        obtain ⟨u1, u2, rfl, r1, r2⟩ := rv.two
        obtain ⟨t1, rfl⟩ := r1
        obtain ⟨t2, rfl⟩ := r2
        obtain ⟨o, ho, hc, n, hd⟩ := ht
        refine ⟨⟨_, rfl⟩, ?_, ?_⟩
        · unfold pairAt
          simp only [ho, hd]
        · exact ⟨_, o, t1, t2, n, rfl, ho, hc, hd⟩
theorem pairs_items {pins : List (Addr × Obj)} {σ : St} {s : Shared} (I : Inv X pins σ H s) : ∀ {ps : List (Int × Int)} {vs : List V} {us : List Value} {G : Ft}, DenL X.K H (ps.map pairD) vs G → Vals vs us →
    us.map (pairAt s.heap) = ps ∧ (∀ v ∈ vs, ∃ a, v = V.ref a) ∧ ∀ u ∈ us, Srt.IsPair s.heap u (pairAt s.heap u).1 (pairAt s.heap u).2
  | [], _, _, _, h, r => by
    cases h
    cases r
    exact ⟨rfl, (fun _ h => nomatch h), (fun _ h => nomatch h)⟩
  | p :: ps, _, _, _, h, r => by
    cases h with
    | cons h1 h2 =>
      cases r with
      | cons r1 r2 =>
        obtain ⟨q1, q2, q3⟩ := pairs_items I h2 r2
        obtain ⟨p1, p2, p3⟩ := pair_item I h1 r1
        refine ⟨by rw [List.map_cons, q1, p2], fun v hv => ?_, fun u hu => ?_⟩
        · rcases List.mem_cons.mp hv with e | hv
          · rw [e]; exact p1
          · exact q2 v hv
        · rcases List.mem_cons.mp hu with e | hu
          · rw [e, p2]; exact p3
          · exact q3 u hu
theorem kids_perm {m : Nat} {f : Value → PyData} : ∀ us : List Value, kids m (us.map f) (us.map backV) = us.map fun u => ⟨m, .d (f u), backV u⟩
  | [] => rfl
  | u :: us => by
    show _ :: kids m (us.map f) (us.map backV) = _ :: _
    rw [kids_perm us]
theorem cd_sorted : CallD X Z (.builtin "sorted") (oneD sortP) 1 1 := cd_one fun pins s σ H v us Q p r R n I rv S m hn hg hq => by
  unfold sortP at hg
  split at hg
  · rename_i xs
    split at hg
    · rename_i is q
      cases hg
      obtain ⟨a, vs, G, rfl, h1, h2⟩ := S.listOf m
      rw [getIs_eq q] at h2
      refine cr_sortedI pins s σ H _ us Q I rv ⟨a, is, rfl, .of (by rw [h1, h2.ints]), fun ns' b pm pw hb => hq _ _ ?_⟩
      have e : ns' = srtB ltI is := srt_is tot_int (pw.imp fun {x y} h => decide_eq_false (by omega)) pm
      rw [← e]
      exact Sim.mkL (n := 0) (kids_scal 0 S) (by simp) hb
    · rename_i q0
      cases q : getPs xs with
      | none => rw [q] at hg; cases hg
      | some ps =>
        rw [q] at hg
        cases hg
        have ex := getPs_eq q
        subst ex
        obtain ⟨a, vs, rfl, h1, hl, S2⟩ := S.openL m hn
        obtain ⟨a', vs', G, e, h1', h2⟩ := S.listOf m
        cases e
        rw [h1] at h1'
        cases h1'
        obtain ⟨its, rv2, pl, hz⟩ := I.list (.of h1)
        have eu := Vals.ref1 rv
        subst eu
        obtain ⟨q1, q2, q3⟩ := pairs_items I h2 rv2
        obtain ⟨e1, e2⟩ := refs_back rv2 q2
        refine SrtO.sorted_pairsO (k := pairAt s.heap) pl.isList (by rw [← rv2.length]; exact hz) q3 fun h' d out s1 s2 keep hd ⟨nn, hn2⟩ => ?_
        have refs : ∀ u ∈ out, ∃ a, u = Value.ref a := fun u hu => e2 u (s2.perm.mem_iff.mp hu)
        have es : out.map (pairAt s.heap) = srtB SrtO.lexB ps := by
          refine srt_is tot_pair (List.pairwise_map.mpr s1) ?_
          rw [← q1]
          exact s2.perm.map _
        have el : (out.map backV).length = vs.length := by rw [e1, List.length_map, List.length_map, s2.perm.length_eq]
        refine ⟨.ref d, upd H d (.lst (out.map backV)), I.laid (t' := s.toks) keep hd ⟨by rw [el]; exact hz, out, nn, vals_back refs, hn2⟩, rfl, hq _ _ ?_⟩
        have hd0 : H d = none := I.hok.fresh hd
        refine Sim.mkL (n := 0) (S2.perm (List.Perm.append_right R ?_)) ?_ hd0
        · rw [← es, List.map_map, kids_perm]
          have ep : ps.map pairD = its.map (pairD ∘ pairAt s.heap) := by rw [← q1, List.map_map]
          rw [ep, e1, kids_perm]
          exact s2.perm.symm.map _
        · rw [← es]; simp
  · cases hg
end
end Lk
namespace Lk
open PySem PySem.Spec L2
section
variable {X : Cx} {Z : ClT} {W : WX} {P : List (Nat × Nat)} {kr : Nat} {φ φ1 φ2 φ3 φ' : List Nat} {ψ ψ1 ψ2 : SF} {t ta tb tc to : Tm} {ts ts2 : List Tm} {fa fb fc fo : M DV} {f f2 : M (List DV)} {g1 g2 : M Fl} {a b c e o tg : Expr} {es : List Expr} {st : Stmt} {sts : List Stmt} {pos pos' p px ap : Pos} {x : Str} {k n m cap j : Nat} {ps : List Str} {ms : List Md} {F : List DV → Res}
theorem gv (i : Nat) (hN : X.N[i]? = some x := by rfl) (hv : Vis X.env.scope x := by first | exact Or.inl rfl | exact Or.inr (Or.inl rfl) | exact Or.inr (Or.inr rfl)) (hd : (x == ("__debug__" : Str)) = false := by decide) (hcd : (x == ("__classdict__" : Str)) = false := by decide) : JE X Z W φ (.Name x pos) φ (.sl i) (slotM i) := je_var hN hv hd hcd
theorem ge (i : Nat) (hN : X.N[i]? = some x := by rfl) (hv : Vis X.env.scope x := by first | exact Or.inl rfl | exact Or.inr (Or.inl rfl) | exact Or.inr (Or.inr rfl)) (hd : (x == ("__debug__" : Str)) = false := by decide) (hcd : (x == ("__classdict__" : Str)) = false := by decide) : JE X Z W φ (.Name x pos) (φ.modify i (min 0)) (.v 0) (slotM i) := je_varE hN hv hd hcd
theorem gi {i : Int} {q : Nat} : JE X Z W φ (.Constant (.int i) q pos) φ (.v 9) (M.pure (.d (.int i))) := je_const pe_int fun _ => .d (.int i)
theorem gs {i : Str} {q : Nat} : JE X Z W φ (.Constant (.str i) q pos) φ (.v 9) (M.pure (.d (.str i))) := je_const pe_str fun _ => .d (.str i)
theorem gb {i : Bool} {q : Nat} : JE X Z W φ (.Constant (.bool i) q pos) φ (.v 9) (M.pure (.d (.bool i))) := je_const pe_bl fun _ => .d (.bl i)
theorem gn {q : Nat} : JE X Z W φ (.Constant .none q pos) φ (.v 9) (M.pure (.d .none)) := je_const pe_non fun _ => .d .non
theorem gGi {i : Int} {u : Tok} (hm : X.mg x = some (.int i u)) (hg : Gl X x := by rfl) (hd : (x == ("__debug__" : Str)) = false := by decide) : JE X Z W φ (.Name x pos) φ (.v 9) (M.pure (.d (.int i))) := je_const (pe_glob (v := .int i) hg hm ⟨_, rfl⟩ hd) fun _ => .d (.int i)
theorem gGs {i : Str} {u : Tok} (hm : X.mg x = some (.str i u)) (hg : Gl X x := by rfl) (hd : (x == ("__debug__" : Str)) = false := by decide) : JE X Z W φ (.Name x pos) φ (.v 9) (M.pure (.d (.str i))) := je_const (pe_glob (v := .str i) hg hm ⟨_, rfl⟩ hd) fun _ => .d (.str i)
def negP : PyData → Option PyData
  | .int i => some (.int (-i))
  | _ => none
def un1 (g : DV → Option DV) (ta : Tm) (fa : M DV) : M DV := fun env => (fa env).bind fun d e => .ofO ((ta.now d e).bind g) e
theorem gNeg (ha : JE X Z W φ a φ1 ta fa) : JE X Z W φ (.UnaryOp .USub a pos) φ1 (.v 9) (un1 (lift1 negP) ta fa) := by
  refine pe_imp (pe_un un_neg ha) fun σ H Q ⟨L, env, S, h⟩ => ?_
  refine rdE.go S (h.bind.mono fun d e1 h1 v H1 S1 => ?_)
  obtain ⟨r, q, h2⟩ := h1.ofO
  obtain ⟨y, q1, q2⟩ := Option.bind_eq_some_iff.mp q
  cases y with
  | d y =>
    cases y with
    | int i =>
      cases q2
      exact ⟨i, S1.isI (h := ⟨ta, d, v⟩) List.mem_cons_self q1, h2 _ _ ⟨S1.free.sim.cint, S1.al, fun z hz => by rw [List.mem_singleton.mp hz]; trivial⟩⟩
    | _ => cases q2
  | _ => cases q2
theorem gCmp {op : CmpOp} {g : DV → DV → Option DV} (ho : OpD X Z (compareOp op) g cap k) (ha : JE X Z W φ a φ1 ta fa) (hb : JE X Z W φ1 b φ2 tb fb) (hm : behindInMarks op b = false := by rfl) :
    JE X Z W φ (.Compare a [op] [b] pos) (cap2 cap ta tb φ2) (.v k) (op2 g ta tb fa fb) := je_cmp ho hm ha hb
theorem gCmpT {op : CmpOp} {g : DV → DV → Option DV} (ho : OpD X Z (compareOp op) g cap k) (ha : JE X Z W φ a φ1 ta fa) (hb : JE X Z W φ1 b φ2 tb fb) (hm : behindInMarks op b = false := by rfl) :
    JT X Z W φ (.Compare a [op] [b] pos) (cap2 cap ta tb φ2) (asB (.v k) (op2 g ta tb fa fb)) := jt_cmp ho hm ha hb
theorem gChain {op op' : CmpOp} {g g' : DV → DV → Option DV} {k' : Nat} (ho : OpD X Z (compareOp op) g 9 k) (ho' : OpD X Z (compareOp op') g' 9 k') (ha : JE X Z W φ a φ1 ta fa) (hb : JE X Z W φ1 b φ2 tb fb) (hc : JE X Z W (cap2 9 ta tb φ2) c φ3 tc fc)
    (hm : lastMarks [op, op'] [b, c] = false := by rfl) (hl : leN φ' (cap2 9 ta tb φ2) = true := by rfl) (hl3 : leN φ' (cap2 9 tb tc φ3) = true := by rfl) : JE X Z W φ (.Compare a [op, op'] [b, c] pos) φ' (.v 9) (chM g g' ta tb tc fa fb fc) := je_chain ho ho' hm ha hb hc hl hl3
theorem gChainT {op op' : CmpOp} {g g' : DV → DV → Option DV} {k' : Nat} (ho : OpD X Z (compareOp op) g 9 k) (ho' : OpD X Z (compareOp op') g' 9 k') (ha : JE X Z W φ a φ1 ta fa) (hb : JE X Z W φ1 b φ2 tb fb) (hc : JE X Z W (cap2 9 ta tb φ2) c φ3 tc fc)
    (hm : lastMarks [op, op'] [b, c] = false := by rfl) (hl : leN φ' (cap2 9 ta tb φ2) = true := by rfl) (hl3 : leN φ' (cap2 9 tb tc φ3) = true := by rfl) : JT X Z W φ (.Compare a [op, op'] [b, c] pos) φ' (asB (.v 9) (chM g g' ta tb tc fa fb fc)) := jt_chain ho ho' hm ha hb hc hl hl3
theorem gTru (ha : JE X Z W φ a φ1 ta fa) (hp : plainTest a = true := by rfl) : JT X Z W φ a φ1 (truM ta fa) := jt_truth ha hp
theorem gAnd {f g : M Bool} {rest : List Expr} (ha : JT X Z W φ a φ1 f) (hb : JW X Z W φ1 (.BoolOp .And (b :: rest) pos) φ2 g) (hl : leN φ2 φ1 = true := by rfl) : JW X Z W φ (.BoolOp .And (a :: b :: rest) pos) φ2 (andM f g) := jw_and ha hb hl
theorem gOr {f g : M Bool} {rest : List Expr} (ha : JT X Z W φ a φ1 f) (hb : JW X Z W φ1 (.BoolOp .Or (b :: rest) pos) φ2 g) (hl : leN φ2 φ1 = true := by rfl) : JW X Z W φ (.BoolOp .Or (a :: b :: rest) pos) φ2 (orM f g) := jw_or ha hb hl
theorem gAndV {rest : List Expr} {k : Nat} (ha : JE X Z W φ a φ1 ta fa) (hb : JE X Z W φ1 (.BoolOp .And (b :: rest) pos) φ2 (.v k) fb) (hl : leN φ2 φ1 = true := by rfl) : JE X Z W φ (.BoolOp .And (a :: b :: rest) pos) φ2 (.v k) (andV ta fa fb) := je_and ha hb hl
theorem gOrV {rest : List Expr} {k : Nat} (ha : JE X Z W φ a φ1 ta fa) (hb : JE X Z W φ1 (.BoolOp .Or (b :: rest) pos) φ2 (.v k) fb) (hl : leN φ2 φ1 = true := by rfl) : JE X Z W φ (.BoolOp .Or (a :: b :: rest) pos) φ2 (.v k) (orV ta fa fb) := je_or ha hb hl
theorem gIf {ft : M Bool} {ka kb : Nat} (φ' : List Nat) (k : Nat) (hc : JT X Z W φ c φ1 ft) (ha : JE X Z W φ1 a φ2 (.v ka) fa) (hb : JE X Z W φ1 b φ3 (.v kb) fb) (h2 : leN φ' φ2 = true := by rfl) (h3 : leN φ' φ3 = true := by rfl) (k2 : k ≤ ka := by decide) (k3 : k ≤ kb := by decide) :
    JE X Z W φ (.IfExp c a b pos) φ' (.v k) (ifM ft fa fb) := je_if hc ha hb h2 h3 k2 k3
theorem gCons (ha : JE X Z W φ a φ1 t fa) (h : JA X Z W φ1 es φ2 ts f) (hs : noStar a = true := by rfl) : JA X Z W φ (a :: es) φ2 (t :: ts) (consM fa f) := ja_cons hs ha h
theorem gLst (m : Nat) (ha : JA X Z W φ es φ' ts f) (hm : allV m ts = true := by rfl) : JE X Z W φ (.List es pos) φ' (.v (m + 1)) (dispM .list f) := je_lst ha hm
theorem gTup (m : Nat) (ha : JA X Z W φ es φ' ts f) (hm : allV m ts = true := by rfl) : JE X Z W φ (.Tuple es n pos) φ' (.v (m + 1)) (dispM .tuple f) := je_tup ha hm
theorem gCallB {id : String} {g : List DV → Option DV} (hc : CallD X Z (.builtin id) g cap k) (hm : X.mg x = none) (ha : JA X Z W φ (a :: es) φ2 ts f) (hg : Gl X x := by rfl) (hv : bootBuiltins x = some (.builtin id) := by rfl) (hn : x ≠ "__name__" := by decide) (hdb : (x == ("__debug__" : Str)) = false := by decide)
    (hs : noStar a = true := by rfl) (hpl : es.all noStar = true := by rfl) : JE X Z W φ (.Call (.Name x p) (a :: es) [] pos) (capS cap (slotsOf ts) φ2) (.v k) (callM g ts f) := je_callB hc hg hm hv hn hdb hs hpl ha
theorem gCallT {T : String} {g : List DV → Option DV} (hc : CallD X Z (.type T) g cap k) (hm : X.mg x = none) (ha : JA X Z W φ (a :: es) φ2 ts f) (hg : Gl X x := by rfl) (hv : bootBuiltins x = some (.type T) := by rfl) (hn : x ≠ "__name__" := by decide) (hdb : (x == ("__debug__" : Str)) = false := by decide)
    (hs : noStar a = true := by rfl) (hpl : es.all noStar = true := by rfl) : JE X Z W φ (.Call (.Name x p) (a :: es) [] pos) (capS cap (slotsOf ts) φ2) (.v k) (callM g ts f) := je_callTy hc hg hm hv hn hdb hs hpl ha
theorem gCall {k0 : Nat} (G : Has X.prog X.w X.K X.mg X.base j x ps Z ms kr F) (hr : Room k0 X.A) (hgd : X.A.guards = some []) (tk : Takes X W) (ha : JA X Z W φ (a :: es) φ2 ts f) (hj : j ≤ k0 := by decide) (hg : Gl X x := by rfl)
    (hdb : (x == ("__debug__" : Str)) = false := by decide) (hs : noStar a = true := by rfl) (hpl : es.all noStar = true := by rfl) (hf : fitM ms ts φ2 = true := by rfl) : JE X Z W φ (.Call (.Name x p) (a :: es) [] pos) (flM ms ts φ2) (.v kr) (callF F ms ts f) := je_callH G hj hr hgd hg tk hdb hs hpl ha hf
theorem gIx {g : DV → DV → Option DV} (ho : OpIx X Z g cap k) (ha : JE X Z W φ a φ1 ta fa) (hb : JE X Z W φ1 b φ2 tb fb) (hs : noSlice b = true := by rfl) : JE X Z W φ (.Subscript a b pos) (cap2 cap ta tb φ2) (.v k) (op2 g ta tb fa fb) := je_ix ho ha hb hs
theorem gStore {ei : Expr} {ti : Tm} {fv fi : M DV} {pos2 : Pos} (j n : Nat) (he : JE X Z W φ e φ1 (.v k) fv) (hi : JE X Z W φ1 ei φ2 ti fi) (hn : φ2[j]? = some (n + 1) := by rfl) (hN : X.N[j]? = some x := by rfl) (hv : Vis X.env.scope x := by first | exact Or.inl rfl | exact Or.inr (Or.inl rfl) | exact Or.inr (Or.inr rfl))
    (hdb : (x == ("__debug__" : Str)) = false := by decide) (hcd : (x == ("__classdict__" : Str)) = false := by decide)
    (hs : swapsWithSole [.Subscript (.Name x px) ei pos2] e pos.line X.env = pure false := by rfl) (hw : swappedStores [.Subscript (.Name x px) ei pos2] e X.env = pure none := by rfl) (h1 : (assignEach [.Subscript (.Name x px) ei pos2] X.env).map (·.2) = [assign (.Subscript (.Name x px) ei pos2) X.env] := by rfl)
    (hsu : ∀ v, assign (.Subscript (.Name x px) ei pos2) X.env v = (do
      let ov ← holding [v] (eval (.Name x px) X.env)
      let iv ← holding [v, ov] (eval ei X.env)
      standAt pos2
      holding [v, ov, iv] (setItem ov iv v)
      release [v, ov, iv] []) := by intro _; rfl) (hψ : ψ.n = φ2.set j (min n k + 1) := by rfl) :
    JS X Z W P kr φ (.Assign [.Subscript (.Name x px) ei pos2] e pos) ψ (stM j fv ti fi) := js_store (m := min n k) hN hv hdb hcd he hi hn rfl hs hw h1 hsu hψ
theorem gSet (i : Nat) (hN : X.N.Nodup) (he : JE X Z W φ e φ1 (.v k) fa) (hi : X.N[i]? = some x := by rfl) (hx : Loc X.env.scope x := by first | exact Or.inl rfl | exact Or.inr rfl) (hf : X.fn x = true ∨ X.env.scope.names.lookup x = some .local := by exact Or.inl rfl)
    (hs : swapsWith e (some (.Name x pos')) pos.line X.env = pure false := by rfl) (hP : P.all (fun p => p.1 != i) = true := by rfl) (hn : ψ.n = φ1.set i k := by rfl) : JS X Z W P kr φ (.Assign [.Name x pos'] e pos) ψ (setM i fa) := js_set hN hi hx hf hs he hP hn
theorem gRet (he : JE X Z W φ e φ1 (.v k) fa) (hk : kr ≤ k := by decide) (hr : retOk P φ1 = true := by rfl) (hd : (P.map (·.1)).Nodup := by decide) : JS X Z W P kr φ (.Return (some e) pos) ψ (retM P fa) := js_ret he hk hr hd
theorem gRetV (i n : Nat) (hφ : φ[i]? = some n := by rfl) (hN : X.N[i]? = some x := by rfl) (hv : Vis X.env.scope x := by first | exact Or.inl rfl | exact Or.inr (Or.inl rfl) | exact Or.inr (Or.inr rfl)) (hdb : (x == ("__debug__" : Str)) = false := by decide) (hcd : (x == ("__classdict__" : Str)) = false := by decide)
    (hk : kr ≤ n := by decide) (hr : retOk P φ = true := by rfl) (hd : (P.map (·.1)).Nodup := by decide) (hP : P.all (fun p => p.1 != i) = true := by rfl) : JS X Z W P kr φ (.Return (some (.Name x p)) pos) ψ (retM P (slotM i)) := js_retV hN hv hdb hcd hφ hk hr hd hP
theorem gRetN (hr : retOk P φ = true := by rfl) (hd : (P.map (·.1)).Nodup := by decide) : JS X Z W P kr φ (.Return none pos) ψ (retM P (M.pure (.d .none))) := js_retN hr hd
theorem gSeq {ψ : SF} (ψ1 : SF) (h1 : JS X Z W P kr φ st ψ1 g1) (h2 : JSs X Z W P kr ψ1.n sts ψ g2) (hb : leN ψ.b ψ1.b = true := by rfl) (hc : leN ψ.c ψ1.c = true := by rfl) : JSs X Z W P kr φ (st :: sts) ψ (seqM g1 g2) := jss_cons h1 h2 hb hc
theorem gNil (hn : ψ.n = φ := by rfl) : JSs X Z W P kr φ [] ψ nxM := jss_nil hn
theorem gIfS {s1 s2 : List Stmt} {ft : M Bool} (hc : JT X Z W φ c φ1 ft) (h1 : JSs X Z W P kr φ1 s1 ψ1 g1) (h2 : JSs X Z W P kr φ1 s2 ψ2 g2) (l1 : leF ψ ψ1 = true := by rfl) (l2 : leF ψ ψ2 = true := by rfl) : JS X Z W P kr φ (.If c s1 s2 pos) ψ (ifS ft g1 g2) := js_if hc h1 h2 l1 l2
theorem gExpr (he : JE X Z W φ e φ1 t fa) (hs : swapsWith e none pos.line X.env = pure false := by rfl) (hn : ψ.n = φ1 := by rfl) : JS X Z W P kr φ (.Expr e pos) ψ (dropM fa) := js_expr he hs hn

theorem gIsi {T : String} {xt : Str} {pt : Pos} (hm : X.mg x = none) (mt : X.mg xt = none) (ha : JE X Z W φ a φ1 ta fa) (hT : tyOk T = true := by decide) (hg : Gl X x := by rfl) (hv : bootBuiltins x = some (.builtin "isinstance") := by rfl) (hn : x ≠ "__name__" := by decide) (hdb : (x == ("__debug__" : Str)) = false := by decide)
    (gt : Gl X xt := by rfl) (bt : bootBuiltins xt = some (.type T) := by rfl) (nt : xt ≠ "__name__" := by decide) (dt : (xt == ("__debug__" : Str)) = false := by decide) (hs : noStar a = true := by rfl) :
    JE X Z W φ (.Call (.Name x p) [a, .Name xt pt] [] pos) φ1 (.v 9) (isiM T ta fa) := je_isi hT hg hm hv hn hdb gt mt bt nt dt hs ha
theorem gListRg1 {xr : Str} {pr pos2 : Pos} (hm : X.mg x = none) (mr : X.mg xr = none) (ha : JE X Z W φ a φ1 ta fa) (hc : X.calm = true := by rfl) (ex : x = "list" := by rfl) (er : xr = "range" := by rfl) (hg : Gl X x := by rfl) (gr : Gl X xr := by rfl) (hs : noStar a = true := by rfl) :
    JE X Z W φ (.Call (.Name x p) [.Call (.Name xr pr) [a] [] pos2] [] pos) φ1 (.v 9) (rg1M ta fa) := je_listRg1 hc ex er hg hm gr mr hs ha
theorem gListRg2 {xr : Str} {pr pos2 : Pos} (hm : X.mg x = none) (mr : X.mg xr = none) (ha : JE X Z W φ a φ1 ta fa) (hb : JE X Z W φ1 b φ2 tb fb) (hc : X.calm = true := by rfl) (ex : x = "list" := by rfl) (er : xr = "range" := by rfl) (hg : Gl X x := by rfl) (gr : Gl X xr := by rfl) (hs : noStar a = true := by rfl) (hs2 : noStar b = true := by rfl) :
    JE X Z W φ (.Call (.Name x p) [.Call (.Name xr pr) [a, b] [] pos2] [] pos) φ2 (.v 9) (rg2M ta tb fa fb) := je_listRg2 hc ex er hg hm gr mr hs hs2 ha hb
theorem gSlice {lo hi : Option Expr} {fl fh : M (Option Int)} {p2 : Pos} (ha : JE X Z W φ a φ1 ta fa) (hl : JO X Z W φ1 lo φ2 fl) (hh : JO X Z W φ2 hi φ3 fh) : JE X Z W φ (.Subscript a (.Slice lo hi none p2) pos) (capS 1 (slotsOf [ta]) φ3) (.v 1) (slM ta fa fl fh) := je_slice ha hl hh
theorem gRange1 (hm : X.mg x = none) (ha : JE X Z W φ a φ1 ta fa) (ex : x = "range" := by rfl) (hg : Gl X x := by rfl) (hs : noStar a = true := by rfl) : JI X Z W φ tg (.Call (.Name x p) [a] [] pos) φ1 (rg1I ta fa) := ji_range1 ex hg hm hs ha
theorem gRange2 (hm : X.mg x = none) (ha : JE X Z W φ a φ1 ta fa) (hb : JE X Z W φ1 b φ2 tb fb) (ex : x = "range" := by rfl) (hg : Gl X x := by rfl) (hs : noStar a = true := by rfl) (hs2 : noStar b = true := by rfl) : JI X Z W φ tg (.Call (.Name x p) [a, b] [] pos) φ2 (rg2I ta tb fa fb) := ji_range2 ex hg hm hs hs2 ha hb
theorem gEnum {tpos : Pos} (hm : X.mg x = none) (ha : JE X Z W φ a φ1 (.v k) fa) (ex : x = "enumerate" := by rfl) (hg : Gl X x := by rfl) (hs : noStar a = true := by rfl) : JI X Z W φ (.Tuple es n tpos) (.Call (.Name x p) [a] [] pos) φ1 (fun env => (fa env).bind fun d e => .ofO (enumD d) e) := ji_enum ex hg hm hs ha
theorem gZip {ka kb : Nat} {tpos : Pos} (hm : X.mg x = none) (ha : JE X Z W φ a φ1 (.v ka) fa) (hb : JE X Z W φ1 b φ2 (.v kb) fb) (ex : x = "zip" := by rfl) (hg : Gl X x := by rfl) (hs : noStar a = true := by rfl) (hs2 : noStar b = true := by rfl) : JI X Z W φ (.Tuple es n tpos) (.Call (.Name x p) [a, b] [] pos) φ2 (zipI fa fb) := ji_zip ex hg hm hs hs2 ha hb
theorem gTgN (i : Nat) (hN : X.N.Nodup) (hi : X.N[i]? = some x := by rfl) (hx : Loc X.env.scope x := by first | exact Or.inl rfl | exact Or.inr rfl) (hf : X.fn x = true ∨ X.env.scope.names.lookup x = some .local := by first | exact Or.inl rfl | exact Or.inr rfl) : JG X Z (.Name x pos) (.nm i) := jg_name hN hi hx hf
theorem gN1 (i : Nat) {is : List Nat} (hN : X.N.Nodup) (h : PGs X es (gNames is)) (hi : X.N[i]? = some x := by rfl) (hx : Loc X.env.scope x := by first | exact Or.inl rfl | exact Or.inr rfl) (hf : X.fn x = true ∨ X.env.scope.names.lookup x = some .local := by first | exact Or.inl rfl | exact Or.inr rfl) : PGs X (.Name x pos :: es) (gNames (i :: is)) := pgs_n1 hN hi hx hf h
theorem gTgT {is : List Nat} (h : PGs X es (gNames is)) (hc : X.calm = true := by rfl) (hl : tgLen es = true := by rfl) (hn : es.length = is.length := by rfl) : JG X Z (.Tuple es n pos) (.tp is) := jg_tup hc hl hn h
theorem gAsg {T : Tgt} (he : JE X Z W φ e φ1 (.v k) fa) (hg : JG X Z tg T) (hs : swapsWithSole [tg] e pos.line X.env = pure false := by rfl) (hw : swappedStores [tg] e X.env = pure none := by rfl) (h1 : (assignEach [tg] X.env).map (·.2) = [assign tg X.env] := by rfl)
    (hP : tgFree P T = true := by rfl) (hn : ψ.n = tgF T (min 1 k) φ1 := by rfl) : JS X Z W P kr φ (.Assign [tg] e pos) ψ (asgM T fa) := js_asg he hg hs hw h1 hP hn
theorem gWhile {ft : M Bool} (φL : List Nat) (ψ1 : SF) (hp : PassesOwn (model X.prog X.w) X.A X.env X.xe) (hc : JT X Z W φL c φ1 ft) (hb : JSs X Z W P kr φ1 sts ψ1 g1) (l0 : leN φL φ = true := by rfl) (l1 : leN φL ψ1.n = true := by rfl) (l2 : leN φL ψ1.c = true := by rfl) (l3 : leN ψ.n φ1 = true := by rfl) (l4 : leN ψ.n ψ1.b = true := by rfl) :
    JS X Z W P kr φ (.While c sts [] pos) ψ (whileM ft g1 big) := js_while (φB := []) hp hc hb l0 l1 l2 l3 l4
theorem gFor {T : Tgt} {it : Expr} {fi : M (List DV)} (φL : List Nat) (ψ1 : SF) (hp : PassesOwn (model X.prog X.w) X.A X.env X.xe) (hi : JI X Z W φ tg it φ1 fi) (hg : JG X Z tg T) (hb : JSs X Z W P kr (tgF T 0 φL) sts ψ1 g1) (hc : X.calm = true := by rfl) (hs : ∀ x, foldedSetIterable it X.env x = pure x := by intro _; rfl)
    (hP : tgFree P T = true := by rfl) (l0 : leN φL φ1 = true := by rfl) (l1 : leN φL ψ1.n = true := by rfl) (l2 : leN φL ψ1.c = true := by rfl) (l3 : leN ψ.n φL = true := by rfl) (l4 : leN ψ.n ψ1.b = true := by rfl) :
    JS X Z W P kr φ (.For tg it sts [] pos) ψ (forS T fi g1) := js_for hp hc hi hg hb hs hP l0 l1 l2 l3 l4
theorem gPar {k1 k2 : Nat} {y : Str} {py pt : Pos} {kt q2 pt2} (i j : Nat) (hN : X.N.Nodup) (ha : JA X Z W φ [a, b] φ1 [.v k1, .v k2] f) (hc : X.calm = true := by rfl) (hi : X.N[i]? = some x := by rfl) (hj : X.N[j]? = some y := by rfl) (hij : i ≠ j := by decide)
    (hx : X.env.scope.names.lookup x = some .local := by rfl) (hy : X.env.scope.names.lookup y = some .local := by rfl)
    (hw : swappedStores [.Tuple [.Name x px, .Name y py] kt pt] (.Tuple [a, b] q2 pt2) X.env = pure (some [x, y]) := by rfl)
    (hs : swapsWithSole [.Tuple [.Name x px, .Name y py] kt pt] (.Tuple [a, b] q2 pt2) pos.line X.env = pure false := by rfl)
    (hP : (P.all fun p => p.1 != i && p.1 != j) = true := by rfl) (hψ : ψ.n = (φ1.set i k1).set j k2 := by rfl) :
    JS X Z W P kr φ (.Assign [.Tuple [.Name x px, .Name y py] kt pt] (.Tuple [a, b] q2 pt2) pos) ψ (parM i j f) := js_par hc hN hi hj hij hx hy ha hw hs hP hψ
theorem gPar3 {k1 k2 k3 : Nat} {y z : Str} {py pz pt : Pos} {kt q2 pt2} (i j l : Nat) (hN : X.N.Nodup) (ha : JA X Z W φ [a, b, c] φ1 [.v k1, .v k2, .v k3] f) (hc : X.calm = true := by rfl) (hi : X.N[i]? = some x := by rfl) (hj : X.N[j]? = some y := by rfl) (hl : X.N[l]? = some z := by rfl) (hij : i ≠ j := by decide) (hil : i ≠ l := by decide) (hjl : j ≠ l := by decide)
    (hx : X.env.scope.names.lookup x = some .local := by rfl) (hy : X.env.scope.names.lookup y = some .local := by rfl) (hz : X.env.scope.names.lookup z = some .local := by rfl)
    (hw : swappedStores [.Tuple [.Name x px, .Name y py, .Name z pz] kt pt] (.Tuple [a, b, c] q2 pt2) X.env = pure (some [x, y, z]) := by rfl)
    (hs : swapsWithSole [.Tuple [.Name x px, .Name y py, .Name z pz] kt pt] (.Tuple [a, b, c] q2 pt2) pos.line X.env = pure false := by rfl)
    (hP1 : (P.all fun p => p.1 != i) = true := by rfl) (hP2 : (P.all fun p => p.1 != j) = true := by rfl) (hP3 : (P.all fun p => p.1 != l) = true := by rfl) (hψ : ψ.n = ((φ1.set i k1).set j k2).set l k3 := by rfl) :
    JS X Z W P kr φ (.Assign [.Tuple [.Name x px, .Name y py, .Name z pz] kt pt] (.Tuple [a, b, c] q2 pt2) pos) ψ (par3M i j l f) := js_par3 hc hN hi hj hl hij hil hjl hx hy hz ha hw hs hP1 hP2 hP3 hψ
theorem gMeth {T id : String} {name : Str} {g : DV → List DV → Option DV} (pa : PlainAttrs T) (slot : Slot T name id) (hty : typeOf (.builtin id) = pure (.type "method_descriptor")) (hm : MethD X Z id g cap k) (ho : JE X Z W φ o φ1 to fo) (ha : JA X Z W φ1 (a :: es) φ2 ts f)
    (hT : T ≠ "" := by decide) (hs : noStar a = true := by rfl) (hpl : es.all noStar = true := by rfl) (hlen : es.length < 28 := by decide) (hbase : attributeBase o name X.env (eval o X.env) = eval o X.env := by rfl) (hline : (ap.endLine == pos.line) = true := by rfl) :
    JE X Z W φ (.Call (.Attribute o name ap) (a :: es) [] pos) (capS cap (slotsOf ts ++ [to.slot?]) φ2) (.v k) (mthM T g to fo ts f) := je_meth hT pa slot hty hm ho ha hs hpl hlen hbase hline
theorem gMeth0 {T id : String} {name : Str} {g : DV → List DV → Option DV} (pa : PlainAttrs T) (slot : Slot T name id) (hty : typeOf (.builtin id) = pure (.type "method_descriptor")) (hm : MethD X Z id g cap k) (ho : JE X Z W φ o φ1 to fo)
    (hT : T ≠ "" := by decide) (hbase : attributeBase o name X.env (eval o X.env) = eval o X.env := by rfl) (hline : (ap.endLine == pos.line) = true := by rfl) :
    JE X Z W φ (.Call (.Attribute o name ap) [] [] pos) (capS cap [to.slot?] φ1) (.v k) (mthM T g to fo [] (M.pure [])) := je_meth0 hT pa slot hty hm ho hbase hline
theorem gAppend (j n : Nat) (ha : JE X Z W φ a φ1 (.v k) fa) (hn : φ1[j]? = some (n + 1) := by rfl) (hN : X.N[j]? = some x := by rfl) (hv : Vis X.env.scope x := by first | exact Or.inl rfl | exact Or.inr (Or.inl rfl) | exact Or.inr (Or.inr rfl)) (hdb : (x == ("__debug__" : Str)) = false := by decide) (hcd : (x == ("__classdict__" : Str)) = false := by decide)
    (hs : noStar a = true := by rfl) (hbase : attributeBase (.Name x px) "append" X.env (eval (.Name x px) X.env) = eval (.Name x px) X.env := by rfl) (hline : (ap.endLine == pos.line) = true := by rfl) :
    JE X Z W φ (.Call (.Attribute (.Name x px) "append" ap) [a] [] pos) (φ1.set j (min n k + 1)) (.v 9) (apM j fa) := je_append (m := min n k) hN hv hdb hcd ha hs hn rfl hbase hline
theorem gPop (j n : Nat) (hn : φ[j]? = some (n + 1) := by rfl) (hN : X.N[j]? = some x := by rfl) (hv : Vis X.env.scope x := by first | exact Or.inl rfl | exact Or.inr (Or.inl rfl) | exact Or.inr (Or.inr rfl)) (hdb : (x == ("__debug__" : Str)) = false := by decide) (hcd : (x == ("__classdict__" : Str)) = false := by decide)
    (hbase : attributeBase (.Name x px) "pop" X.env (eval (.Name x px) X.env) = eval (.Name x px) X.env := by rfl) (hline : (ap.endLine == pos.line) = true := by rfl) :
    JE X Z W φ (.Call (.Attribute (.Name x px) "pop" ap) [] [] pos) (φ.set j (n + 1)) (.v n) (popM j) := je_pop hN hv hdb hcd hn hbase hline
theorem gCallK {k0 : Nat} {kws : List Keyword} (G : Has X.prog X.w X.K X.mg X.base j x ps Z ms kr F) (hr : Room k0 X.A) (hgd : X.A.guards = some []) (tk : Takes X W) (ha : JA X Z W φ (a :: es) φ1 ts f) (hk : JK X Z W φ1 kws φ2 ts2 f2) (hj : j ≤ k0 := by decide) (hg : Gl X x := by rfl)
    (hdb : (x == ("__debug__" : Str)) = false := by decide) (hs : noStar a = true := by rfl) (hpl : ((backTo pos (starEach (a :: es) X.env)).any (·.1) || (backToKw pos (keywordEach kws X.env)).any (·.1.isNone)) = false := by rfl)
    (hall : (backToKw pos (keywordEach kws X.env)).all (·.1.isSome) = true := by rfl) (hks : (backToKw pos (keywordEach kws X.env)).filterMap (·.1) = ps.drop (es.length + 1) := by rfl) (hlen : ts.length = es.length + 1 := by rfl) (hf : fitM ms (ts ++ ts2) φ2 = true := by rfl) :
    JE X Z W φ (.Call (.Name x p) (a :: es) kws pos) (flM ms (ts ++ ts2) φ2) (.v kr) (callF F ms (ts ++ ts2) (fun e => (f e).bind fun ds e1 => (f2 e1).bind fun ds2 e2 => .ok (ds ++ ds2) e2)) := je_callK G hj hr hgd hg tk hdb hs hpl hall hks hlen ha hk hf
theorem gCallK0 {k0 : Nat} {kws : List Keyword} (G : Has X.prog X.w X.K X.mg X.base j x ps Z ms kr F) (hr : Room k0 X.A) (hgd : X.A.guards = some []) (tk : Takes X W) (hk : JK X Z W φ kws φ2 ts f) (hj : j ≤ k0 := by decide) (hg : Gl X x := by rfl)
    (hdb : (x == ("__debug__" : Str)) = false := by decide) (hpl : ((backTo pos (starEach [] X.env)).any (·.1) || (backToKw pos (keywordEach kws X.env)).any (·.1.isNone)) = false := by rfl)
    (hall : (backToKw pos (keywordEach kws X.env)).all (·.1.isSome) = true := by rfl) (hks : (backToKw pos (keywordEach kws X.env)).filterMap (·.1) = ps := by rfl) (hf : fitM ms ts φ2 = true := by rfl) :
    JE X Z W φ (.Call (.Name x p) [] kws pos) (flM ms ts φ2) (.v kr) (callF F ms ts f) := je_callK0 G hj hr hgd hg tk hdb hpl hall hks hk hf
theorem gCall0 {k0 : Nat} (G : Has X.prog X.w X.K X.mg X.base j x ps Z [] kr F) (hr : Room k0 X.A) (hgd : X.A.guards = some []) (tk : Takes X W) (hj : j ≤ k0 := by decide) (hg : Gl X x := by rfl) (hdb : (x == ("__debug__" : Str)) = false := by decide) (hps : ps = [] := by rfl) :
    JE X Z W φ (.Call (.Name x p) [] [] pos) φ (.v kr) (callF F [] [] (M.pure [])) := je_call0 G hj hr hgd hg tk hdb hps
/-! comprehensions -/
def blkChk (N : List Str) (sc scope : Scope) (own : List (Str × Nat)) : Bool :=
  scope.kind == .function && (scope.names.all fun y => scope.names.lookup y.1 == some y.2) && (own.all fun p => N[p.2]? == some p.1) &&
  (scope.names.all fun y => !(y.2 == .free) || (sc.names.lookup y.1 == some .cell || sc.names.lookup y.1 == some .free)) &&
  (scope.names.all fun y => !(y.2 == .local || y.2 == .cell) || ((own.map (·.1)).contains y.1 || !N.contains y.1))
theorem blk_mk {N : List Str} {sc scope : Scope} {own : List (Str × Nat)} (h : blkChk N sc scope own = true) : BlkOk N sc scope own := by
  unfold blkChk at h
  simp only [Bool.and_eq_true, List.all_eq_true, beq_iff_eq, Bool.or_eq_true, Bool.not_eq_true', Bool.or_eq_false_iff, List.contains_eq_mem, decide_eq_true_eq, decide_eq_false_iff_not, beq_eq_false_iff_ne, ne_eq] at h
  obtain ⟨⟨⟨⟨h1, h2⟩, h3⟩, h4⟩, h5⟩ := h
  refine ⟨h1, fun y hy => h2 y hy, fun p hp => h3 p hp, fun y hy e => ?_, fun y hy e => ?_⟩
  · exact (h4 y hy).resolve_left fun z => z e
  · rcases h5 y hy with z | z
    · rcases e with e | e
      · exact absurd e z.1
      · exact absurd e z.2
    · exact z
theorem tk0 {s : Shared} {H : Hp} {scope : Scope} {cl : List (Str × Addr)} {C : Addr} {fp : List Addr} : Takes (blkOf X s H scope cl C fp) W0 := fun u s' ⟨a, B, sI, pins, σ, H, cls, d, e, I, nb, up, sky, na, os, ag, w⟩ => w.elim
theorem gLc {ft : M Bool} {fe : M DV} {fi : M (List DV)} {T : Tgt} {iter elt : Expr} {ifs : List Expr} {scope : Scope} {ke : Nat} (own : List (Str × Nat)) (φL : List Nat) (hN : X.N.Nodup) (ok : BlkOk X.N X.env.scope scope own) (hi : JI X Z W φ tg iter φ1 fi)
    (hg : ∀ s H C cl fp, JG (blkOf X s H scope cl C fp) Z tg T) (ht : ∀ s H C cl fp, JTs (blkOf X s H scope cl C fp) Z W0 (tgF T 0 φL) ifs φ2 ft)
    (he : ∀ s H C cl fp, JE (blkOf X s H scope cl C fp) Z W0 φ2 elt φ3 (.v ke) fe) (hc : X.calm = true := by rfl) (hs : ∀ x, foldedSetIterable iter X.env x = pure x := by intro _; rfl)
    (hT : ∀ i ∈ tgS T, i ∈ own.map (·.2) := by decide) (l0 : leN φL φ1 = true := by rfl) (l2 : leN φL φ2 = true := by rfl) (l3 : leN φL φ3 = true := by rfl) :
    JE X Z W φ (.ListComp elt [⟨tg, iter, ifs, 0⟩] scope pos) φL (.v (ke + 1)) (compM T (own.map (·.2)) fi ft fe) := je_lc hc hN hi ok hg ht he hs hT l0 l2 l3
theorem gSetLc {ft : M Bool} {fe : M DV} {fi : M (List DV)} {T : Tgt} {iter elt : Expr} {ifs : List Expr} {scope : Scope} {ke : Nat} {y : Str} {py spos : Pos} (i : Nat) (own : List (Str × Nat)) (φL : List Nat) (hN : X.N.Nodup) (ok : BlkOk X.N X.env.scope scope own) (hi : JI X Z W φ tg iter φ1 fi)
    (hg : ∀ s H C cl fp, JG (blkOf X s H scope cl C fp) Z tg T) (ht : ∀ s H C cl fp, JTs (blkOf X s H scope cl C fp) Z W0 (tgF T 0 φL) ifs φ2 ft)
    (he : ∀ s H C cl fp, JE (blkOf X s H scope cl C fp) Z W0 φ2 elt φ3 (.v ke) fe) (hy : X.N[i]? = some y := by rfl) (hyl : X.env.scope.names.lookup y = some .local := by rfl)
    (hsw : swapsWith (.ListComp elt [⟨tg, iter, ifs, 0⟩] scope pos) (some (.Name y py)) spos.line X.env = pure true := by rfl) (hc : X.calm = true := by rfl) (hs : ∀ x, foldedSetIterable iter X.env x = pure x := by intro _; rfl)
    (hT : ∀ i ∈ tgS T, i ∈ own.map (·.2) := by decide) (l0 : leN φL φ1 = true := by rfl) (l2 : leN φL φ2 = true := by rfl) (l3 : leN φL φ3 = true := by rfl)
    (hP : P.all (fun p => p.1 != i) = true := by rfl) (hn : ψ.n = φL.set i (ke + 1) := by rfl) :
    JS X Z W P kr φ (.Assign [.Name y py] (.ListComp elt [⟨tg, iter, ifs, 0⟩] scope pos) spos) ψ (setM i (compM T (own.map (·.2)) fi ft fe)) := js_setLc hc hN hy hyl hsw hi ok hg ht he hs hT l0 l2 l3 hP hn
end
theorem bindsK {K : PySem.W.Frag} {x qual : Str} {st : Stmt} {f : Addr} {fd : FuncData} {ps : List Str} (F : Fun K x qual st f fd)
    (h : ∀ (kV doc pm : Value) (an : Option Addr) (cdv ct : Value) (l : List Value), l.length = ps.length → ∀ i, i ≤ ps.length → bindArgs (PySem.W.fnOf x qual (defArgs st) (defBody st) (defScope st) .none kV doc pm an cdv ct) ⟨l.take i, (ps.drop i).zip (l.drop i)⟩ = pure (ps.zip l)) :
    ∀ (s : Shared) (us ws : List Value), us.length + ws.length = ps.length → BindsTo s fd ⟨us, (ps.drop us.length).zip ws⟩ (ps.zip (us ++ ws)) := by
  obtain ⟨oc, od, kV, doc, pm, an, cdv, ct, osl, rfl, lk, hcd⟩ := F.ex
  intro s us ws hl
  have q := h kV doc pm an cdv ct (us ++ ws) (by simpa using hl) us.length (by omega)
  rw [List.take_left, List.drop_left] at q
  exact .of_eq q
/-- a def of the text, once its body is shown -/
theorem has_of {P : Program} {w : World} {K : PySem.W.Frag} {mg : Str → Option Value} {base : Heap} {k : Nat} {f : Addr} {fd : FuncData} {N ps : List Str} {Z : ClT} {ms : List Md} {kr : Nat} {x : Str} {st : Stmt} {g : M Fl} (fn : Fun K x x st f fd) (hm : mg x = some (.ref f)) (S : FnScope N ps (defScope st))
    (h : ∀ (kV doc pm : Value) (an : Option Addr) (cdv ct : Value) (l : List Value), l.length = ps.length → ∀ i, i ≤ ps.length → bindArgs (PySem.W.fnOf x x (defArgs st) (defBody st) (defScope st) .none kV doc pm an cdv ct) ⟨l.take i, (ps.drop i).zip (l.drop i)⟩ = pure (ps.zip l))
    (hl : ms.length = ps.length) (b : BodyD P w K mg base k N x st f Z ms kr g) : Has P w K mg base (k + 1) x ps Z ms kr (runF N.length (ioP 0 ms) g) :=
  ⟨f, fd, hm, fn.kp, bindsK fn h, fn_D fn S hl (fun _ _ => .inr rfl) b⟩
theorem units80 {k : Nat} {A : Around} (hr : Room k A) : A.units + 80 < cLine := by
  have := hr.un
  omega
theorem units70 {k : Nat} {A : Around} (hr : Room k A) : A.units + 70 < cLine := by
  have := hr.un
  omega
theorem units65 {k : Nat} {A : Around} (hr : Room k A) : A.units + 65 < cLine := by
  have := hr.un
  omega
theorem units64 {k : Nat} {A : Around} (hr : Room k A) : A.units + 64 < cLine := by
  have := hr.un
  omega
/-! ### the law's end -/
section
open PyProof.Rows PySem.W PySem.Calls
variable {P : Program} {w : World} {K : PySem.W.Frag} {mg mb : Str → Option Value} {k : Nat} {kr : Nat} {fa a : Addr} {nm x : Str} {s1 : Shared} {vs : List Value} {ns : List Int} {H : Hp} {F : List DV → Res} {Z : ClT}
abbrev LawBack (s1 : Shared) (r : Result) (s' : Shared) : Prop := r = .ok (.ret (.bool true)) ∧ OldK s1.heap s'.heap ∧ s'.os = s1.os ∧ AllBare s'.gens
/-- one entry of the law, the script tracked as H says -/
theorem law_from (hH : ∀ b u, H b = some u → b = a ∧ ∃ o xs, u = .frz o (.lst xs)) (hK : H a ≠ none → K.lookup a = none) (hok : HOk P w H s1.heap) (hS : DenV K Z H (.s ns) (.ref a) [])
    (KX : K.In s1.heap) (n1 : s1.heap.Ns mainGlobals mg) (n2 : s1.heap.Ns builtinsNs mb) (n3 : ∀ x : Str, x ≠ "__name__" → mb x = bootBuiltins x) (lim : s1.heap.NoLimit) (gens : s1.gens = #[])
    (ha : s1.heap.get? a = some { cls := .type "list", data := .seq vs.toArray }) (room : Room k callerA)
    (Fn : ∀ base : Heap, K.In base → base.Ns mainGlobals mg → Has P w K mg base k nm [x] Z [.fz] kr F) (hfa : mg nm = some (.ref fa)) (hF : F [.s ns] = .ok (.d (.bool true)) []) :
    codeAny (model P w) callerA (.call (.ref fa) ⟨[.ref a], []⟩) (LawBack s1) s1 := by
  have sees : ∀ {b : Addr} {o : Obj}, s1.heap.get? b = some o → H b = none → (hidT s1.heap H).get? b = some o := fun e z => hidT_get e z
  have dicts : ∀ {b : Addr} {m : Str → Option Value}, s1.heap.Ns b m → (hidT s1.heap H).Ns b m := fun {b m} ⟨o, es, ep', e, d, r⟩ => by
    cases q : H b with
    | none => exact ⟨o, es, ep', sees e q, d, r⟩
    | some u =>
      obtain ⟨z, _⟩ := hH b u q
      subst z
      rw [ha] at e
      cases e
      cases d
  have inB : K.In (hidT s1.heap H) := fun b o e => by
    cases q : H b with
    | none => exact sees (KX b o e) q
    | some u =>
      obtain ⟨z, _⟩ := hH b u q
      subst z
      rw [hK (by rw [q]; simp)] at e
      cases e
  have md : Mod K mg (hidT s1.heap H) := ⟨inB, dicts n1, ⟨mb, dicts n2, n3⟩, by obtain ⟨mc, h1, h2⟩ := lim; exact ⟨mc, dicts h1, h2⟩⟩
  have e0 : Env0 P w K mg (hidT s1.heap H) callerA [] s1 H := ⟨rfl, md, fun b o e => of_hidT e, Nat.le_of_eq (hidT_size _ _), trivial, (fun b hb => absurd (show b ∈ ([] : List Addr) from hb) List.not_mem_nil), hok, .of_eq gens⟩
  obtain ⟨fa', fd, e1, _, bind, good⟩ := (Fn _ inB (dicts n1)).ex
  rw [hfa] at e1
  cases e1
  have want : spD K Z [.fz] kr F [.ref a] H (fun v _ => v = .bl true) fun _ _ _ => False := by
    refine ⟨[], [.s ns], rfl, rfl, ⟨[], ⟨[], [], hS, rfl, rfl⟩, List.Pairwise.nil⟩, ?_⟩
    rw [hF]
    intro v H' S
    exact S.bl List.mem_cons_self
  refine codeAny_mono (good.run callerA [] s1 H ⟨[.ref a], []⟩ [.ref a] [.ref a] _ _ room rfl e0 (bind s1 [.ref a] [] rfl) (.cons rfl .nil) want) fun r s' h => ?_
  match r, h with
  | .error e, h =>
    obtain ⟨_, _, _, _, _, _, _, _, _, _, _, _, z⟩ := h
    exact z.elim
  | .ok .next, h => exact False.elim h
  | .ok .brk, h => exact False.elim h
  | .ok .cont, h => exact False.elim h
  | .ok (.ret u), h =>
    obtain ⟨v, H', os, bare, un, hok', ru, q⟩ := h
    cases (show v = V.bl true from q)
    cases (show u = Value.bool true from ru)
    refine ⟨rfl, OldK.of_keep fun b o e => ?_, os, bare⟩
    cases q : H b with
    | none => exact un.keep b o e q (fun z => absurd (show b ∈ ([] : List Addr) from z) List.not_mem_nil) (fun z => absurd (show b ∈ ([] : List Addr) from z) List.not_mem_nil)
    | some u =>
      obtain ⟨_, ob, xs, rfl⟩ := hH b u q
      obtain ⟨e1, _⟩ := hok b _ q
      obtain ⟨e2, _⟩ := hok' b _ (un.frzs b ob _ q)
      rw [e1] at e
      cases e
      exact e2
theorem law_D (KX : K.In s1.heap) (n1 : s1.heap.Ns mainGlobals mg) (n2 : s1.heap.Ns builtinsNs mb) (n3 : ∀ x : Str, x ≠ "__name__" → mb x = bootBuiltins x) (lim : s1.heap.NoLimit) (gens : s1.gens = #[])
    (ha : s1.heap.get? a = some { cls := .type "list", data := .seq vs.toArray }) (hi : IntsAre vs ns) (hz : ns.length ≤ sizeLine) (room : Room k callerA)
    (Fn : ∀ base : Heap, K.In base → base.Ns mainGlobals mg → Has P w K mg base k nm [x] Z [.fz] kr F) (hfa : mg nm = some (.ref fa)) (hF : F [.s ns] = .ok (.d (.bool true)) []) :
    codeAny (model P w) callerA (.call (.ref fa) ⟨[.ref a], []⟩) (LawBack s1) s1 := by
  cases hk : K.lookup a with
  | some o =>
    have e := KX a o hk
    rw [ha] at e
    cases e
    have sq : SqL K (fun _ => none) a (ns.map V.int) := .inr ⟨_, vs.toArray, _, hk, rfl, rfl, rfl, by rw [List.size_toArray, hi.length]; exact hz, by simpa using vals_ints hi⟩
    exact law_from (H := fun _ => none) (fun b u z => nomatch z) (fun z => absurd rfl z) (fun b u z => nomatch z) (.s (.inl sq)) KX n1 n2 n3 lim gens ha room Fn hfa hF
  | none =>
    let ob : Obj := { cls := .type "list", data := .seq vs.toArray }
    let Hs : Hp := fun b => if b = a then some (.frz ob (.lst (ns.map V.int))) else none
    have at1 : Hs a = some (.frz ob (.lst (ns.map V.int))) := if_pos rfl
    have only : ∀ b u, Hs b = some u → b = a ∧ u = .frz ob (.lst (ns.map V.int)) := fun b u z => by
      by_cases e : b = a
      · subst e
        rw [at1] at z
        cases z
        exact ⟨rfl, rfl⟩
      · have z' : (if b = a then some (HO.frz ob (.lst (ns.map V.int))) else none) = some u := z
        rw [if_neg e] at z'
        cases z'
    refine law_from (H := Hs) (fun b u z => ⟨(only b u z).1, ob, _, (only b u z).2⟩) (fun _ => hk) (fun b u z => ?_) (.s (.inr ⟨ob, at1⟩)) KX n1 n2 n3 lim gens ha room Fn hfa hF
    obtain ⟨rfl, rfl⟩ := only b u z
    exact ⟨ha, by rw [List.length_map]; exact hz, vs, _, vals_ints hi, ha⟩
/-- THE END: a law whose def answers True for all scripts -/
theorem walk_D {l : PySem.W.OpenLaw} {n k kr : Nat} {q : Program} {loose : List Str} {XP : (Str → Option Value) → Heap → Prop} {YP : World → Heap → Prop} {d : DefRec} {K : Params → PySem.W.Frag} {x : Str} {Z : World → ClT} {F : List DV → Res}
    (hn : l.most = some n) (hn2 : n ≤ sizeLine) (hdf : d.params.defaults = []) (room : Room k callerA) (hY : ∀ (w : World) (h : Heap), YP w h → (K w.params).In h)
    (Fn : ∀ (w : World) (mg : Str → Option Value) (h : Heap), (K w.params).In h → h.Ns mainGlobals mg → ∀ base : Heap, (K w.params).In base → base.Ns mainGlobals mg → Has l.prog w (K w.params) mg base k d.name [x] (Z w) [.fz] kr F)
    (hF : ∀ ns : List Int, ns.length ≤ n → F [.s ns] = .ok (.d (.bool true)) []) : PySem.W.WalkO q loose XP YP l.row.toRowW d [] (fun f vs => PySem.call f vs) := by
  refine Att.attach_call hn hdf fun w s0 s1 mg mb fa o pm cd doc a vs ns G Y ho hd hcd hmg hobj hints hlen hg => ?_
  exact law_D (hY w _ Y) G.T.g G.T.b G.T.builtins G.T.nolimit hg hobj hints (Nat.le_trans hlen hn2) room (Fn w mg _ (hY w _ Y) G.T.g) hmg (hF ns hlen)
end
end Lk
namespace Lk
open PySem PySem.Spec L2
section
variable {α β : Type}
@[simp] theorem bind_ok {a : α} {e : Ev} {f : α → Ev → Out β} : (Out.ok a e).bind f = f a e := rfl
@[simp] theorem bind_ex {c : Nat} {g : PyData} {e : Ev} {f : α → Ev → Out β} : (Out.ex c g e : Out α).bind f = .ex c g e := rfl
@[simp] theorem bind_bad {f : α → Ev → Out β} : (Out.bad : Out α).bind f = .bad := rfl
@[simp] theorem ofO_some {a : α} {e : Ev} : Out.ofO (some a) e = .ok a e := rfl
@[simp] theorem goE_some {a : α} {e : Ev} : Out.goE a (some e) = .ok a e := rfl
@[simp] theorem pure_ev {a : α} {e : Ev} : M.pure a e = .ok a e := rfl
@[simp] theorem noEx_ok {a : α} {e : Ev} : noEx (.ok a e) = .ok a e := rfl
@[simp] theorem slot_0 {d : Option DV} {e : Ev} : slot (d :: e) 0 = d := by simp [slot]
@[simp] theorem slot_s {d : Option DV} {e : Ev} {i : Nat} : slot (d :: e) (i + 1) = slot e i := by simp [slot]
theorem slot_1 {d d1 : Option DV} {e : Ev} : slot (d :: d1 :: e) 1 = d1 := by simp [slot]
@[simp] theorem now_sl {i : Nat} {d : DV} {e : Ev} : (Tm.sl i).now d e = slot e i := rfl
@[simp] theorem now_v {k : Nat} {d : DV} {e : Ev} : (Tm.v k).now d e = some d := rfl
@[simp] theorem slotM_ev {i : Nat} {e : Ev} : slotM i e = match slot e i with
  | some d => .ok d e
  | none => .bad := rfl
@[simp] theorem seqM_ev {g1 g2 : M Fl} {e : Ev} : seqM g1 g2 e = (g1 e).bind fun fl e' => match fl with
  | .nx => g2 e'
  | .br => .ok .br e'
  | .ct => .ok .ct e'
  | .rt d => .ok (.rt d) e' := rfl
@[simp] theorem nxM_ev {e : Ev} : nxM e = .ok .nx e := rfl
@[simp] theorem ifS_ev {ft : M Bool} {g1 g2 : M Fl} {e : Ev} : ifS ft g1 g2 e = (ft e).bind fun b e' => match b with
  | true => g1 e'
  | false => g2 e' := rfl
@[simp] theorem ifM_ev {ft : M Bool} {g1 g2 : M DV} {e : Ev} : ifM ft g1 g2 e = (ft e).bind fun b e' => match b with
  | true => g1 e'
  | false => g2 e' := rfl
@[simp] theorem asB_ev {t : Tm} {f : M DV} {e : Ev} : asB t f e = (f e).bind fun d e => match t.now d e with
  | some (.d (.bool b)) => .ok b e
  | _ => .bad := rfl
@[simp] theorem op2_ev {g : DV → DV → Option DV} {ta tb : Tm} {fa fb : M DV} {e : Ev} : op2 g ta tb fa fb e = (fa e).bind fun d e1 => (fb e1).bind fun d' e2 => match ta.now d e2, tb.now d' e2 with
  | some x, some y => (match g x y with
    | some r => .ok r e2
    | none => .bad)
  | _, _ => .bad := rfl
@[simp] theorem setM_ev {i : Nat} {fa : M DV} {e : Ev} : setM i fa e = (fa e).bind fun d e => if i < e.length then .ok .nx (e.set i (some d)) else .bad := rfl
@[simp] theorem consM_ev {fa : M DV} {f : M (List DV)} {e : Ev} : consM fa f e = (fa e).bind fun d e => (f e).bind fun ds e2 => .ok (d :: ds) e2 := rfl
@[simp] theorem callM_ev {g : List DV → Option DV} {ts : List Tm} {f : M (List DV)} {e : Ev} : callM g ts f e = (f e).bind fun ds e => match nowsD ts ds e with
  | some xs => (match g xs with
    | some r => .ok r e
    | none => .bad)
  | none => .bad := rfl
@[simp] theorem callF_ev {F : List DV → Res} {ms : List Md} {ts : List Tm} {f : M (List DV)} {e : Ev} : callF F ms ts f e = (f e).bind fun ds e => match nowsD ts ds e with
  | some xs => (match F xs with
    | .ok d outs => (match putM ms ts outs (clrM ts e) with
      | some e' => .ok d e'
      | none => .bad)
    | .ex c g => .ex c g (clrM ts e)
    | .bad => .bad)
  | none => .bad := rfl
@[simp] theorem nowsD_nil {e : Ev} : nowsD [] [] e = some [] := rfl
@[simp] theorem nowsD_cons {t : Tm} {ts : List Tm} {d : DV} {ds : List DV} {e : Ev} : nowsD (t :: ts) (d :: ds) e = match t.now d e, nowsD ts ds e with
  | some x, some xs => some (x :: xs)
  | _, _ => none := rfl
@[simp] theorem stM_ev {j : Nat} {fv : M DV} {ti : Tm} {fi : M DV} {e : Ev} : stM j fv ti fi e = (fv e).bind fun d e1 => (slotM j e1).bind fun _ e1 => (fi e1).bind fun i e2 => .goE .nx (stO j d (ti.now i e2) e2) := rfl
@[simp] theorem apM_ev {j : Nat} {fa : M DV} {e : Ev} : apM j fa e = (lstM j e).bind fun _ e => (fa e).bind fun d e => .goE (.d .none) (apO j d e) := rfl
@[simp] theorem lstM_ev {j : Nat} {e : Ev} : lstM j e = match slot e j with
  | some (.d (.list _)) => .ok () e
  | _ => .bad := rfl
@[simp] theorem retM_ev {P : List (Nat × Nat)} {fa : M DV} {e : Ev} : retM P fa e = (fa e).bind fun d e => match outsAt P e with
  | some _ => .ok (.rt d) e
  | none => .bad := rfl
@[simp] theorem outsAt_nil {e : Ev} : outsAt [] e = some [] := rfl
@[simp] theorem outsAt_cons {i m : Nat} {P : List (Nat × Nat)} {e : Ev} : outsAt ((i, m) :: P) e = match slot e i, outsAt P e with
  | some d, some ds => some (d :: ds)
  | _, _ => none := rfl
@[simp] theorem dropM_ev {fa : M DV} {e : Ev} : dropM fa e = (fa e).bind fun _ e => .ok .nx e := rfl
@[simp] theorem asgM_ev {T : Tgt} {fa : M DV} {e : Ev} : asgM T fa e = (fa e).bind fun d e => (tgM T d e).bind fun _ e' => .ok .nx e' := rfl
@[simp] theorem tgM_nm {i : Nat} {d : DV} {e : Ev} : tgM (.nm i) d e = if i < e.length then .ok () (e.set i (some d)) else .bad := rfl
@[simp] theorem tgM_tp {is : List Nat} {ds : List PyData} {e : Ev} : tgM (.tp is) (.d (.tuple ds)) e = if ds.length = is.length ∧ is.all (fun i => decide (i < e.length)) = true then .ok () (setAll is (ds.map .d) e) else .bad := rfl
@[simp] theorem setAll_nil {α : Type} {vs : List α} {σ : List (Option α)} : setAll [] vs σ = σ := by unfold setAll; rfl
@[simp] theorem setAll_cons {α : Type} {i : Nat} {is : List Nat} {v : α} {vs : List α} {σ : List (Option α)} : setAll (i :: is) (v :: vs) σ = setAll is vs (σ.set i (some v)) := rfl
@[simp] theorem forS_ev {T : Tgt} {fi : M (List DV)} {g : M Fl} {e : Ev} : forS T fi g e = (fi e).bind fun items e1 => forM T g items e1 := rfl
@[simp] theorem seqI_ev {fa : M DV} {e : Ev} : seqI fa e = (fa e).bind fun d e => .ofO (itemsOf d) e := rfl
@[simp] theorem andM_ev {f g : M Bool} {e : Ev} : andM f g e = (f e).bind fun b e => match b with
  | true => g e
  | false => .ok false e := rfl
@[simp] theorem orM_ev {f g : M Bool} {e : Ev} : orM f g e = (f e).bind fun b e => match b with
  | true => .ok true e
  | false => g e := rfl
@[simp] theorem notM_ev {f : M Bool} {e : Ev} : notM f e = (f e).bind fun b e => .ok (!b) e := rfl
@[simp] theorem andV_ev {t : Tm} {f g : M DV} {e : Ev} : andV t f g e = (asB t f e).bind fun b e => match b with
  | true => g e
  | false => .ok (.d (.bool false)) e := rfl
@[simp] theorem orV_ev {t : Tm} {f g : M DV} {e : Ev} : orV t f g e = (asB t f e).bind fun b e => match b with
  | true => .ok (.d (.bool true)) e
  | false => g e := rfl
@[simp] theorem notV_ev {t : Tm} {f : M DV} {e : Ev} : notV t f e = ((asB t f e).bind fun b e => .ok (!b) e).bind fun b e => .ok (.d (.bool b)) e := rfl
@[simp] theorem truM_ev {t : Tm} {f : M DV} {e : Ev} : truM t f e = (f e).bind fun d e => match t.now d e with
  | some x => (match truD x with
    | some b => .ok b e
    | none => .bad)
  | none => .bad := rfl
@[simp] theorem dispM_ev {mk : List PyData → PyData} {f : M (List DV)} {e : Ev} : dispM mk f e = (f e).bind fun ds e => match getDs ds with
  | some xs => if xs.length ≤ big then .ok (.d (mk xs)) e else .bad
  | none => .bad := rfl
@[simp] theorem getDs_nil : getDs [] = some [] := rfl
@[simp] theorem getDs_cons {x : PyData} {r : List DV} : getDs (.d x :: r) = match getDs r with
  | some xs => some (x :: xs)
  | none => none := rfl
@[simp] theorem isiM_ev {T : String} {t : Tm} {f : M DV} {e : Ev} : isiM T t f e = (f e).bind fun d e => .ofO ((t.now d e).bind fun x => (tyName x).map fun n => .d (.bool (isTy n T))) e := rfl
@[simp] theorem compM_ev {T : Tgt} {vs : List Nat} {fi : M (List DV)} {ft : M Bool} {fe : M DV} {e : Ev} : compM T vs fi ft fe e = (fi e).bind fun items e1 => (compGo T vs ft fe items [] (wipeE vs e1)).bind fun xs e2 => .ok (.d (.list xs)) (restE vs e1 e2) := rfl
@[simp] theorem parM_ev {i j : Nat} {f : M (List DV)} {e : Ev} : parM i j f e = (f e).bind fun ds e => match ds with
  | [a, b] => if i < e.length ∧ j < e.length then .ok .nx ((e.set i (some a)).set j (some b)) else .bad
  | _ => .bad := rfl
@[simp] theorem rg1M_ev {t : Tm} {f : M DV} {e : Ev} : rg1M t f e = (f e).bind fun d e => .ofO (rgD (some (.d (.int 0))) (t.now d e)) e := rfl
@[simp] theorem rg2M_ev {ta tb : Tm} {fa fb : M DV} {e : Ev} : rg2M ta tb fa fb e = (fa e).bind fun d e1 => (fb e1).bind fun d' e => .ofO (rgD (ta.now d e) (tb.now d' e)) e := rfl
@[simp] theorem rg1I_ev {t : Tm} {f : M DV} {e : Ev} : rg1I t f e = (f e).bind fun d e => .ofO (rgI (some (.d (.int 0))) (t.now d e)) e := rfl
@[simp] theorem rg2I_ev {ta tb : Tm} {fa fb : M DV} {e : Ev} : rg2I ta tb fa fb e = (fa e).bind fun d e1 => (fb e1).bind fun d' e => .ofO (rgI (ta.now d e) (tb.now d' e)) e := rfl
@[simp] theorem slM_ev {ta : Tm} {fa : M DV} {fl fh : M (Option Int)} {e : Ev} : slM ta fa fl fh e = (fa e).bind fun d e1 => (fl e1).bind fun lo e2 => (fh e2).bind fun hi e => .ofO ((ta.now d e).bind fun x => slD x lo hi) e := rfl
@[simp] theorem someI_ev {t : Tm} {f : M DV} {e : Ev} : someI t f e = (f e).bind fun d e => .ofO (intD (t.now d e)) e := rfl
@[simp] theorem mthM_ev {T : String} {g : DV → List DV → Option DV} {to : Tm} {fo : M DV} {ts : List Tm} {f : M (List DV)} {e : Ev} : mthM T g to fo ts f e = (fo e).bind fun d e1 => (tyChk T to d e1).bind fun _ e1 => (f e1).bind fun ds e2 => .ofO ((to.now d e2).bind fun x => (nowsD ts ds e2).bind fun xs => g x xs) e2 := rfl
@[simp] theorem tyChk_ev {T : String} {t : Tm} {d : DV} {e : Ev} : tyChk T t d e = match t.now d e with
  | some x => if tyD x = T then .ok () e else .bad
  | none => .bad := rfl
@[simp] theorem zipI_ev {fa fb : M DV} {e : Ev} : zipI fa fb e = (fa e).bind fun d e1 => (fb e1).bind fun d' e => .ofO (zipD (some d) (some d')) e := rfl
@[simp] theorem chM_ev {g g' : DV → DV → Option DV} {ta tb tc : Tm} {fa fb fc : M DV} {env : Ev} : chM g g' ta tb tc fa fb fc env = (fa env).bind fun d e1 => (fb e1).bind fun d' e2 =>
  match ta.now d e2, tb.now d' e2 with
  | some x, some y => (match g x y with
    | some (.d (.bool true)) => (fc e2).bind fun d'' e3 => (match tb.now d' e3, tc.now d'' e3 with
      | some y, some z => (match g' y z with
        | some (.d (.bool r)) => .ok (.d (.bool r)) e3
        | _ => .bad)
      | _, _ => .bad)
    | some (.d (.bool false)) => .ok (.d (.bool false)) e2
    | _ => .bad)
  | _, _ => .bad := rfl
/-! restoring the slots of a comprehension, wiping -/
@[simp] theorem wipeE_nil {e : Ev} : wipeE [] e = e := rfl
@[simp] theorem wipeE_cons {v : Nat} {vs : List Nat} {e : Ev} : wipeE (v :: vs) e = (wipeE vs e).set v none := rfl
@[simp] theorem restE_nil {e e2 : Ev} : restE [] e e2 = e2 := rfl
@[simp] theorem restE_cons {v : Nat} {vs : List Nat} {e e2 : Ev} : restE (v :: vs) e e2 = restE vs e (e2.set v (slot (wipeE vs e) v)) := rfl
/-! operations -/
@[simp] theorem lift2_d {g : PyData → PyData → Option PyData} {x y : PyData} : lift2 g (.d x) (.d y) = (g x y).map .d := rfl
@[simp] theorem oneD_d {g : PyData → Option PyData} {x : PyData} : oneD g [.d x] = (g x).map .d := rfl
@[simp] theorem twoD_d {g : PyData → PyData → Option PyData} {x y : PyData} : twoD g [.d x, .d y] = (g x y).map .d := rfl
@[simp] theorem cmpP_ii {op : CmpOp} {i j : Int} : cmpP op (.int i) (.int j) = some (.bool (opI op i j)) := by
  unfold cmpP
  rw [if_pos (by simp [SeqAt.shaped, PyData.canLay0, PyData.depth])]
  rfl
@[simp] theorem opI_lt {i j : Int} : opI .Lt i j = decide (i < j) := rfl
@[simp] theorem opI_le {i j : Int} : opI .LtE i j = decide (i ≤ j) := rfl
@[simp] theorem opI_gt {i j : Int} : opI .Gt i j = decide (j < i) := rfl
@[simp] theorem opI_ge {i j : Int} : opI .GtE i j = decide (j ≤ i) := rfl
@[simp] theorem eqP_ii {i j : Int} : eqP (.int i) (.int j) = some (.bool (decide (i = j))) := by
  unfold eqP
  rw [if_pos (by simp [SeqAt.shaped, PyData.canLay0, PyData.depth])]
  simp [PyData.eqv]
  rfl
@[simp] theorem addP_ii {i j : Int} : addP (.int i) (.int j) = some (.int (i + j)) := rfl
@[simp] theorem subP_ii {i j : Int} : subP (.int i) (.int j) = some (.int (i - j)) := rfl
@[simp] theorem modP_ii {i j : Int} : modP (.int i) (.int j) = if 0 < j then some (.int (i % j)) else none := rfl
@[simp] theorem divP_ii {i j : Int} : divP (.int i) (.int j) = if 0 < j ∧ j < 1073741824 then some (.int (i / j)) else none := rfl
@[simp] theorem mulP_ii {i j : Int} : mulP (.int i) (.int j) = if (-(2 ^ 64) < i ∧ i < 2 ^ 64) ∨ (-(2 ^ 64) < j ∧ j < 2 ^ 64) then some (.int (i * j)) else none := rfl
@[simp] theorem intP_i {i : Int} : intP (.int i) = some (.int i) := rfl
@[simp] theorem ixD_l {xs : List PyData} {i : Int} : ixD (.d (.list xs)) (.d (.int i)) = (atI xs i).map .d := rfl
@[simp] theorem ixD_t {xs : List PyData} {i : Int} : ixD (.d (.tuple xs)) (.d (.int i)) = (atI xs i).map .d := rfl
@[simp] theorem ixD_sc {ns : List Int} {i : Int} : ixD (.s ns) (.d (.int i)) = (atI ns i).map fun n => .d (.int n) := rfl
@[simp] theorem dataOf_d {x : PyData} : dataOf (.d x) = some x := rfl
@[simp] theorem intO_i {i : Int} : intO (some (.d (.int i))) = some i := rfl
theorem atI_0 {α : Type} {x : α} {xs : List α} : atI (x :: xs) 0 = some x := by simp [atI, ixN]
theorem atI_1 {α : Type} {x y : α} {xs : List α} : atI (x :: y :: xs) 1 = some y := by
  unfold atI ixN
  rw [if_pos (by omega), if_pos (by simp only [List.length_cons]; omega)]
  rfl
theorem atI_2 {α : Type} {x y z : α} {xs : List α} : atI (x :: y :: z :: xs) 2 = some z := by
  unfold atI ixN
  rw [if_pos (by omega), if_pos (by simp only [List.length_cons]; omega)]
  rfl
end
@[simp] theorem big_1 : 1 ≤ big := by decide
@[simp] theorem big_2 : 2 ≤ big := by decide
@[simp] theorem big_3 : 3 ≤ big := by decide
@[simp] theorem big_4 : 4 ≤ big := by decide
@[simp] theorem big_5 : 5 ≤ big := by decide
@[simp] theorem big_6 : 6 ≤ big := by decide
@[simp] theorem big_7 : 7 ≤ big := by decide
@[simp] theorem big_8 : 8 ≤ big := by decide
@[simp] theorem big_9 : 9 ≤ big := by decide
@[simp] theorem big_10 : 10 ≤ big := by decide
@[simp] theorem big_11 : 11 ≤ big := by decide
/-! loops -/
theorem forM_ok {T : Tgt} {g : M Fl} (Inv : List DV → Ev → Prop) (step : ∀ d rest e, Inv (d :: rest) e → ∃ e1 e2, tgM T d e = .ok () e1 ∧ (g e1 = .ok .nx e2 ∨ g e1 = .ok .ct e2) ∧ Inv rest e2) :
    ∀ (items : List DV) (e : Ev), Inv items e → ∃ e', forM T g items e = .ok .nx e' ∧ Inv [] e'
  | [], e, h => ⟨e, rfl, h⟩
  | d :: ds, e, h => by
    obtain ⟨e1, e2, h1, h2, h3⟩ := step d ds e h
    obtain ⟨e', q1, q2⟩ := forM_ok Inv step ds e2 h3
    refine ⟨e', ?_, q2⟩
    unfold forM
    rw [h1]
    show (g e1).bind _ = _
    rcases h2 with h2 | h2
    · rw [h2]; exact q1
    · rw [h2]; exact q1
/-- a loop that may return -/
theorem forM_rt {T : Tgt} {g : M Fl} (Inv : List DV → Ev → Prop) (Post : DV → Ev → Prop) (step : ∀ d rest e, Inv (d :: rest) e → ∃ e1 e2, tgM T d e = .ok () e1 ∧ (((g e1 = .ok .nx e2 ∨ g e1 = .ok .ct e2) ∧ Inv rest e2) ∨ ∃ r, g e1 = .ok (.rt r) e2 ∧ Post r e2)) :
    ∀ (items : List DV) (e : Ev), Inv items e → ∃ e', (forM T g items e = .ok .nx e' ∧ Inv [] e') ∨ ∃ r, forM T g items e = .ok (.rt r) e' ∧ Post r e'
  | [], e, h => ⟨e, .inl ⟨rfl, h⟩⟩
  | d :: ds, e, h => by
    obtain ⟨e1, e2, h1, h2⟩ := step d ds e h
    rcases h2 with ⟨h2, h3⟩ | ⟨r, h2, h3⟩
    · obtain ⟨e', q⟩ := forM_rt Inv Post step ds e2 h3
      refine ⟨e', ?_⟩
      have key : forM T g (d :: ds) e = forM T g ds e2 := by
        show (tgM T d e).bind _ = _
        rw [h1]
        show (g e1).bind _ = _
        rcases h2 with h2 | h2
        · rw [h2]; rfl
        · rw [h2]; rfl
      rw [key]; exact q
    · refine ⟨e2, .inr ⟨r, ?_, h3⟩⟩
      show (tgM T d e).bind _ = _
      rw [h1]
      show (g e1).bind _ = _
      rw [h2]; rfl
theorem whileM_ok {c : M Bool} {b : M Fl} (Inv : Nat → Ev → Prop) (Post : Ev → Prop) (step : ∀ n e, Inv n e → (∃ e1, c e = .ok false e1 ∧ Post e1) ∨ ∃ e1 e2 m, c e = .ok true e1 ∧ b e1 = .ok .nx e2 ∧ m < n ∧ Inv m e2) :
    ∀ (fuel n : Nat) (e : Ev), n < fuel → Inv n e → ∃ e', whileM c b fuel e = .ok .nx e' ∧ Post e'
  | 0, _, _, h, _ => absurd h (Nat.not_lt_zero _)
  | fuel + 1, n, e, hn, h => by
    rcases step n e h with ⟨e1, h1, h2⟩ | ⟨e1, e2, m, h1, h2, h3, h4⟩
    · refine ⟨e1, ?_, h2⟩
      show (c e).bind _ = _
      rw [h1]; rfl
    · obtain ⟨e', q1, q2⟩ := whileM_ok Inv Post step fuel m e2 (by omega) h4
      refine ⟨e', ?_, q2⟩
      show (c e).bind _ = _
      rw [h1]
      show (b e1).bind _ = _
      rw [h2]; exact q1
/-- a comprehension that changes nothing -/
theorem compGo_pure {T : Tgt} {vs : List Nat} {ft : M Bool} {fe : M DV} {e : Ev} (p : DV → Bool) (h : DV → PyData) : ∀ (items : List DV) (acc : List PyData),
    (∀ d ∈ items, ∃ e1 e2, tgM T d e = .ok () e1 ∧ ft e1 = .ok (p d) e2 ∧ (p d = false → wipeE vs e2 = e) ∧ (p d = true → ∃ e3, fe e2 = .ok (.d (h d)) e3 ∧ wipeE vs e3 = e)) → acc.length + items.length ≤ big →
    compGo T vs ft fe items acc e = .ok (acc ++ (items.filter p).map h) e
  | [], acc, _, _ => by simp [compGo]
  | d :: ds, acc, H, hl => by
    obtain ⟨e1, e2, h1, h2, h3, h4⟩ := H d List.mem_cons_self
    simp only [List.length_cons] at hl
    unfold compGo
    rw [h1]
    simp only [noEx_ok, bind_ok]
    rw [h2]
    simp only [noEx_ok, bind_ok]
    cases q : p d with
    | false =>
      simp only
      rw [h3 q, compGo_pure p h ds acc (fun x hx => H x (List.mem_cons_of_mem _ hx)) (by omega)]
      simp [q]
    | true =>
      obtain ⟨e3, h5, h6⟩ := h4 q
      simp only
      rw [h5]
      simp only [noEx_ok, bind_ok, dataOf_d]
      rw [if_pos (by omega), h6, compGo_pure p h ds (acc ++ [h d]) (fun x hx => H x (List.mem_cons_of_mem _ hx)) (by simp; omega)]
      simp [q]
/-- .. with one name; the items as data -/
theorem compGo_nm {k : Nat} {ft : M Bool} {fe : M DV} {e : Ev} (p : DV → Bool) (h : DV → PyData) (items : List DV) (he : e.set k none = e) (hk : k < e.length)
    (H : ∀ d ∈ items, ft (e.set k (some d)) = .ok (p d) (e.set k (some d)) ∧ (p d = true → fe (e.set k (some d)) = .ok (.d (h d)) (e.set k (some d)))) (hl : items.length ≤ big) :
    compGo (.nm k) [k] ft fe items [] e = .ok ((items.filter p).map h) e := by
  have w : ∀ d, wipeE [k] (e.set k (some d)) = e := fun d => by
    show (e.set k (some d)).set k none = e
    rw [List.set_set, he]
  have q := compGo_pure (T := .nm k) (vs := [k]) (ft := ft) (fe := fe) (e := e) p h items [] (fun d hd => ⟨e.set k (some d), e.set k (some d), by rw [tgM_nm, if_pos hk], (H d hd).1, fun _ => w d, fun z => ⟨_, (H d hd).2 z, w d⟩⟩) (by simpa using hl)
  simpa using q
/-- .. with two names -/
theorem compGo_tp {k l : Nat} {ft : M Bool} {fe : M DV} {e : Ev} (p : PyData × PyData → Bool) (h : PyData × PyData → PyData) (items : List (PyData × PyData)) (he : (e.set k none).set l none = e) (hkl : k ≠ l) (hk : k < e.length) (hk2 : l < e.length)
    (H : ∀ d ∈ items, ft ((e.set k (some (.d d.1))).set l (some (.d d.2))) = .ok (p d) ((e.set k (some (.d d.1))).set l (some (.d d.2))) ∧ (p d = true → fe ((e.set k (some (.d d.1))).set l (some (.d d.2))) = .ok (.d (h d)) ((e.set k (some (.d d.1))).set l (some (.d d.2))))) (hl : items.length ≤ big) :
    compGo (.tp [k, l]) [k, l] ft fe (items.map fun d => .d (.tuple [d.1, d.2])) [] e = .ok ((items.filter p).map h) e := by
  have w : ∀ d : PyData × PyData, wipeE [k, l] ((e.set k (some (.d d.1))).set l (some (.d d.2))) = e := fun d => by
    show ((((e.set k (some (.d d.1))).set l (some (.d d.2))).set l none).set k none) = e
    rw [List.set_set, List.set_comm _ _ hkl, List.set_set, ← List.set_comm _ _ hkl]
    exact he
  have key : ∀ (items : List (PyData × PyData)) (acc : List PyData), (∀ d ∈ items, ft ((e.set k (some (.d d.1))).set l (some (.d d.2))) = .ok (p d) ((e.set k (some (.d d.1))).set l (some (.d d.2))) ∧ (p d = true → fe ((e.set k (some (.d d.1))).set l (some (.d d.2))) = .ok (.d (h d)) ((e.set k (some (.d d.1))).set l (some (.d d.2))))) → acc.length + items.length ≤ big →
      compGo (.tp [k, l]) [k, l] ft fe (items.map fun d => .d (.tuple [d.1, d.2])) acc e = .ok (acc ++ (items.filter p).map h) e := by
    intro items
    induction items with
    | nil => intro acc _ _; simp [compGo]
    | cons d ds ih =>
      intro acc H hl
      simp only [List.length_cons] at hl
      obtain ⟨h1, h2⟩ := H d List.mem_cons_self
      rw [List.map_cons]
      unfold compGo
      have ht : tgM (.tp [k, l]) (.d (.tuple [d.1, d.2])) e = .ok () ((e.set k (some (.d d.1))).set l (some (.d d.2))) := by
        rw [tgM_tp, if_pos ⟨rfl, by simp [hk, hk2]⟩]
        rfl
      rw [ht]
      simp only [noEx_ok, bind_ok]
      rw [h1]
      simp only [noEx_ok, bind_ok]
      cases q : p d with
      | false =>
        simp only
        rw [w d, ih acc (fun x hx => H x (List.mem_cons_of_mem _ hx)) (by omega)]
        simp [q]
      | true =>
        simp only
        rw [h2 q]
        simp only [noEx_ok, bind_ok, dataOf_d]
        rw [if_pos (by omega), w d, ih (acc ++ [h d]) (fun x hx => H x (List.mem_cons_of_mem _ hx)) (by simp; omega)]
        simp [q]
  have q := key items [] H (by simpa using hl)
  simpa using q
end Lk
namespace Lk
open PySem PySem.Spec L2
/-- can be compared, n deep at most -/
def Shp (n : Nat) (x : PyData) : Prop := x.canLay0 = true ∧ x.depth ≤ n
theorem Shp.mono {m n : Nat} {x : PyData} (h : Shp m x) (hn : m ≤ n) : Shp n x := ⟨h.1, Nat.le_trans h.2 hn⟩
theorem Shp.ok {n : Nat} {x : PyData} (h : Shp n x) (hn : n ≤ 64 := by decide) : SeqAt.shaped x = true := by
  unfold SeqAt.shaped
  rw [h.1, Bool.true_and]
  exact decide_eq_true (Nat.le_trans h.2 hn)
theorem shp_int {i : Int} : Shp 0 (.int i) := ⟨by simp [PyData.canLay0], by simp [PyData.depth]⟩
theorem shp_bool {i : Bool} : Shp 0 (.bool i) := ⟨by simp [PyData.canLay0], by simp [PyData.depth]⟩
theorem shp_none : Shp 0 .none := ⟨by simp [PyData.canLay0], by simp [PyData.depth]⟩
theorem shpAll {n : Nat} : ∀ {xs : List PyData}, (∀ x ∈ xs, Shp n x) → PyData.canLayAll0 xs = true ∧ PyData.depthAll xs ≤ n
  | [], _ => ⟨by simp [PyData.canLayAll0], by simp [PyData.depthAll]⟩
  | x :: xs, h => by
    obtain ⟨q1, q2⟩ := shpAll fun y hy => h y (List.mem_cons_of_mem _ hy)
    obtain ⟨p1, p2⟩ := h x List.mem_cons_self
    refine ⟨by simp [PyData.canLayAll0, p1, q1], ?_⟩
    simp only [PyData.depthAll]
    omega
theorem shp_list {n : Nat} {xs : List PyData} (h : ∀ x ∈ xs, Shp n x) : Shp (n + 1) (.list xs) := by
  obtain ⟨q1, q2⟩ := shpAll h
  exact ⟨by simpa [PyData.canLay0] using q1, by simp only [PyData.depth]; omega⟩
theorem shp_tuple {n : Nat} {xs : List PyData} (h : ∀ x ∈ xs, Shp n x) : Shp (n + 1) (.tuple xs) := by
  obtain ⟨q1, q2⟩ := shpAll h
  exact ⟨by simpa [PyData.canLay0] using q1, by simp only [PyData.depth]; omega⟩
theorem shp_ints {is : List Int} : Shp 1 (.list (is.map .int)) := shp_list fun x hx => by
  obtain ⟨i, _, rfl⟩ := List.mem_map.mp hx
  exact shp_int
theorem shp_pair {p : Int × Int} : Shp 1 (pairD p) := shp_tuple fun x hx => by
  simp only [List.mem_cons, List.not_mem_nil, or_false] at hx
  rcases hx with rfl | rfl <;> exact shp_int
theorem shp_pairs {ps : List (Int × Int)} : Shp 2 (.list (ps.map pairD)) := shp_list fun x hx => by
  obtain ⟨i, _, rfl⟩ := List.mem_map.mp hx
  exact shp_pair
theorem shp_pairsT {ps : List (Int × Int)} : Shp 2 (.tuple (ps.map pairD)) := shp_tuple fun x hx => by
  obtain ⟨i, _, rfl⟩ := List.mem_map.mp hx
  exact shp_pair
theorem shp_nil : Shp 0 (.list []) → False := fun h => by
  have := h.2
  simp [PyData.depth] at this
theorem eqP_s {m n : Nat} {x y : PyData} (hx : Shp m x) (hy : Shp n y) (h1 : m ≤ 64 := by decide) (h2 : n ≤ 64 := by decide) : eqP x y = some (.bool (PyData.eqv x y)) := by
  unfold eqP
  rw [hx.ok h1, hy.ok h2, Bool.and_self, Bool.or_true, if_pos rfl]
theorem neP_s {m n : Nat} {x y : PyData} (hx : Shp m x) (hy : Shp n y) (h1 : m ≤ 64 := by decide) (h2 : n ≤ 64 := by decide) : neP x y = some (.bool (!PyData.eqv x y)) := by
  unfold neP
  rw [hx.ok h1, hy.ok h2, Bool.and_self, Bool.or_true, if_pos rfl]
theorem neP_str {x y : Str} : neP (.str x) (.str y) = some (.bool (!PyData.eqv (.str x) (.str y))) := by
  unfold neP bothS
  simp
theorem eqP_str {x y : Str} : eqP (.str x) (.str y) = some (.bool (PyData.eqv (.str x) (.str y))) := by
  unfold eqP bothS
  simp
theorem inP_l {m n : Nat} {x : PyData} {ys : List PyData} (hx : Shp m x) (hy : Shp n (.list ys)) (h1 : m ≤ 64 := by decide) (h2 : n ≤ 64 := by decide) : inP x (.list ys) = some (.bool (ys.any fun z => PyData.eqv z x)) := by
  unfold inP
  simp only
  rw [hx.ok h1, hy.ok h2]; rfl
theorem inP_t {m n : Nat} {x : PyData} {ys : List PyData} (hx : Shp m x) (hy : Shp n (.tuple ys)) (h1 : m ≤ 64 := by decide) (h2 : n ≤ 64 := by decide) : inP x (.tuple ys) = some (.bool (ys.any fun z => PyData.eqv z x)) := by
  unfold inP
  simp only
  rw [hx.ok h1, hy.ok h2]; rfl
theorem eqv_int {i j : Int} : PyData.eqv (.int i) (.int j) = decide (i = j) := by
  simp only [PyData.eqv]
  by_cases h : i = j
  · simp [h]
  · simp [h]
theorem eqv_pair {p q : Int × Int} : PyData.eqv (pairD p) (pairD q) = decide (p = q) := by
  obtain ⟨a, b⟩ := p
  obtain ⟨c, d⟩ := q
  simp only [pairD, PyData.eqv, PyData.eqvAll, Bool.and_true]
  by_cases h1 : a = c <;> by_cases h2 : b = d <;> simp [h1, h2]
theorem eqv_nil {xs : List PyData} : PyData.eqv (.list xs) (.list []) = xs.isEmpty := by
  cases xs <;> simp [PyData.eqv, PyData.eqvAll]
mutual
theorem eqv_refl : ∀ x : PyData, x.canLay0 = true → PyData.eqv x x = true
  | .none, _ => rfl
  | .bool b, _ => by simp [PyData.eqv]
  | .int b, _ => by simp [PyData.eqv]
  | .str b, _ => by simp [PyData.eqv]
  | .list xs, h => by
    simp only [PyData.eqv]
    exact eqvAll_refl xs (by simpa [PyData.canLay0] using h)
  | .tuple xs, h => by
    simp only [PyData.eqv]
    exact eqvAll_refl xs (by simpa [PyData.canLay0] using h)
  | .dict _, h => absurd h (by simp [PyData.canLay0])
theorem eqvAll_refl : ∀ xs : List PyData, PyData.canLayAll0 xs = true → PyData.eqvAll xs xs = true
  | [], _ => by simp [PyData.eqvAll]
  | x :: xs, h => by
    simp only [PyData.canLayAll0, Bool.and_eq_true] at h
    simp only [PyData.eqvAll, Bool.and_eq_true]
    exact ⟨eqv_refl x h.1, eqvAll_refl xs h.2⟩
end
/-! no truth values inside: equality is equality -/
mutual
def noB : PyData → Bool
  | .bool _ => false
  | .dict _ => false
  | .list xs => noBs xs
  | .tuple xs => noBs xs
  | _ => true
def noBs : List PyData → Bool
  | [] => true
  | x :: xs => noB x && noBs xs
end
mutual
theorem eqv_eq : ∀ x y : PyData, noB x = true → noB y = true → PyData.eqv x y = true → x = y
  | .none, y, _, hy, h => by cases y <;> simp [PyData.eqv] at h ⊢
  | .bool b, _, hx, _, _ => absurd hx (by simp [noB])
  | .dict b, _, hx, _, _ => absurd hx (by simp [noB])
  | .int i, y, _, hy, h => by cases y <;> simp [PyData.eqv, noB] at h hy ⊢; exact h
  | .str i, y, _, hy, h => by cases y <;> simp [PyData.eqv, noB] at h hy ⊢; exact h
  | .list xs, y, hx, hy, h => by
    cases y <;> simp only [PyData.eqv, Bool.false_eq_true] at h
    rw [eqvAll_eq xs _ (by simpa [noB] using hx) (by simpa [noB] using hy) h]
  | .tuple xs, y, hx, hy, h => by
    cases y <;> simp only [PyData.eqv, Bool.false_eq_true] at h
    rw [eqvAll_eq xs _ (by simpa [noB] using hx) (by simpa [noB] using hy) h]
theorem eqvAll_eq : ∀ xs ys : List PyData, noBs xs = true → noBs ys = true → PyData.eqvAll xs ys = true → xs = ys
  | [], ys, _, _, h => by cases ys <;> simp [PyData.eqvAll] at h ⊢
  | x :: xs, [], _, _, h => by simp [PyData.eqvAll] at h
  | x :: xs, y :: ys, hx, hy, h => by
    simp only [noBs, Bool.and_eq_true] at hx hy
    simp only [PyData.eqvAll, Bool.and_eq_true] at h
    rw [eqv_eq x y hx.1 hy.1 h.1, eqvAll_eq xs ys hx.2 hy.2 h.2]
end
end Lk
namespace Lk
open PySem PySem.Spec L2
def top (i : Nat) : Stmt := PySem.Challenge.pw_linkless_k06_texts_there_and_back.main.body.getD i (.Pass ⟨0, 0, 0, 0⟩)
abbrev s_lawUtext : Stmt := top 40
abbrev N_lawUtext : List Str := ["graph", "found", "a", "b"]
theorem n_lawUtext : N_lawUtext.Nodup := by decide
theorem S_lawUtext : FnScope N_lawUtext ["graph"] (defScope s_lawUtext) := ⟨rfl, rfl, rfl, by decide +kernel, rfl, by decide +kernel, by decide +kernel⟩
def m_lawUtext : M Fl :=
  (seqM (setM 1 (op2 (lift2 addP) (.v 9) (.v 9) (callM (oneD strP) [.v 0] (consM (op2 ixD (.sl 0) (.v 9) (slotM 0) (M.pure (.d (.int 0)))) (M.pure []))) (M.pure (.d (.str (":" : Str))))))
    (seqM (forS (.tp [2, 3]) (seqI (op2 ixD (.sl 0) (.v 9) (slotM 0) (M.pure (.d (.int 1)))))
    (seqM (setM 1 (op2 (lift2 addP) (.v 1) (.v 9) (op2 (lift2 addP) (.v 1) (.v 9) (op2 (lift2 addP) (.v 1) (.v 9) (op2 (lift2 addP) (.sl 1) (.v 9) (slotM 1) (M.pure (.d (.str (" " : Str))))) (callM (oneD strP) [.sl 2] (consM (slotM 2) (M.pure [])))) (M.pure (.d (.str ("-" : Str))))) (callM (oneD strP) [.sl 3] (consM (slotM 3) (M.pure [])))))
    nxM))
    (seqM (retM [] (slotM 1))
    nxM)))
def F_lawUtext : List DV → Res := runF N_lawUtext.length (ioP 0 [.fz]) m_lawUtext
section
variable {P : Program} {w : World} {K : PySem.W.Frag} {mg : Str → Option Value} {base : Heap} {f : Addr} {fd : FuncData} {Z : ClT}
theorem b_lawUtext (z_str : mg "str" = none) : BodyD P w K mg base 0 N_lawUtext "_law_text" s_lawUtext f Z [.fz] 1 m_lawUtext := by
  intro cdv A outer s H E hr hgd tk po
  have hu80 := units80 hr
  have hu70 := units70 hr
  have hu65 := units65 hr
  have hu64 := units64 hr
  refine ⟨⟨[0, 0, 0, 0], [0, 0, 0, 0], [0, 0, 0, 0]⟩, rfl, ?_⟩
  exact (gSeq ⟨[0, 1, 0, 0], [0, 0, 0, 0], [0, 0, 0, 0]⟩ (gSet 1 n_lawUtext (je_bin op_addD (gCallT cd_str z_str (gCons (gIx op_ixD (gv 0) gi) ja_nil)) gs))
    (gSeq ⟨[0, 1, 0, 0], [0, 0, 0, 0], [0, 0, 0, 0]⟩ (gFor [0, 1, 0, 0] ⟨[0, 1, 0, 0], [0, 1, 0, 0], [0, 1, 0, 0]⟩ po (ji_seq (gIx op_ixD (gv 0) gi)) (gTgT (gN1 2 n_lawUtext (gN1 3 n_lawUtext pgs_n0)))
    (gSeq ⟨[0, 1, 0, 0], [0, 1, 0, 0], [0, 1, 0, 0]⟩ (gSet 1 n_lawUtext (je_bin op_addD (je_bin op_addD (je_bin op_addD (je_bin op_addD (gv 1) gs) (gCallT cd_str z_str (gCons (gv 2) ja_nil))) gs) (gCallT cd_str z_str (gCons (gv 3) ja_nil))))
    gNil))
    (gSeq ⟨[0, 0, 0, 0], [0, 0, 0, 0], [0, 0, 0, 0]⟩ (gRetV 1 1)
    gNil)))
theorem h_lawUtext (fn : Fun K "_law_text" "_law_text" s_lawUtext f fd) (hm : mg "_law_text" = some (.ref f)) (z_str : mg "str" = none) : Has P w K mg base 1 "_law_text" ["graph"] Z [.fz] 1 F_lawUtext :=
  has_of fn hm S_lawUtext (fun _ _ _ _ _ _ l hl => match l, hl with
    | [_], _ => fun i hi => match i, hi with
      | 0, _ => rfl
      | 1, _ => rfl
      | n + 2, h => absurd h (by show ¬ n + 2 ≤ 1; omega)) rfl (b_lawUtext z_str)
end
abbrev s_lawUdraw : Stmt := top 30
abbrev N_lawUdraw : List Str := ["well", "many", "digit", "seed"]
theorem n_lawUdraw : N_lawUdraw.Nodup := by decide
theorem S_lawUdraw : FnScope N_lawUdraw ["well", "many"] (defScope s_lawUdraw) := ⟨rfl, rfl, rfl, by decide +kernel, rfl, by decide +kernel, by decide +kernel⟩
def m_lawUdraw : M Fl :=
  (seqM (ifS (asB (.v 9) (op2 (lift2 (cmpP .Gt)) (.v 0) (.v 9) (op2 ixD (.sl 0) (.v 9) (slotM 0) (M.pure (.d (.int 0)))) (M.pure (.d (.int 0)))))
    (seqM (setM 2 (op2 (lift2 modP) (.v 9) (.sl 1) (callM (oneD intP) [.v 0] (consM (op2 ixD (.sl 0) (.v 9) (slotM 0) (M.pure (.d (.int 0)))) (M.pure []))) (slotM 1)))
    (seqM (stM 0 (op2 (lift2 divP) (.v 0) (.sl 1) (op2 ixD (.sl 0) (.v 9) (slotM 0) (M.pure (.d (.int 0)))) (slotM 1)) (.v 9) (M.pure (.d (.int 0))))
    (seqM (retM [(0, 1)] (slotM 2))
    nxM)))
    nxM)
    (seqM (stM 0 (op2 (lift2 addP) (.v 0) (.v 9) (op2 ixD (.sl 0) (.v 9) (slotM 0) (M.pure (.d (.int 2)))) (M.pure (.d (.int 1)))) (.v 9) (M.pure (.d (.int 2))))
    (seqM (setM 3 (op2 (lift2 modP) (.v 9) (.v 9) (callM (oneD intP) [.v 1] (consM (op2 (lift2 addP) (.v 1) (.v 9) (op2 (lift2 addP) (.v 9) (.v 9) (op2 (lift2 mulP) (.v 0) (.v 9) (op2 ixD (.sl 0) (.v 9) (slotM 0) (M.pure (.d (.int 1)))) (M.pure (.d (.int 40692)))) (op2 (lift2 mulP) (.v 9) (.v 0) (M.pure (.d (.int 17093))) (op2 ixD (.sl 0) (.v 9) (slotM 0) (M.pure (.d (.int 2)))))) (M.pure (.d (.int 31)))) (M.pure []))) (M.pure (.d (.int 2147483399)))))
    (seqM (stM 0 (slotM 3) (.v 9) (M.pure (.d (.int 1))))
    (seqM (retM [(0, 1)] (op2 (lift2 modP) (.v 9) (.sl 1) (callM (oneD intP) [.v 9] (consM (op2 (lift2 divP) (.v 9) (.v 9) (op2 (lift2 mulP) (.sl 3) (.v 1) (slotM 3) (op2 (lift2 addP) (.v 9) (.v 9) (op2 (lift2 modP) (.v 9) (.v 9) (callM (oneD intP) [.sl 3] (consM (slotM 3) (M.pure []))) (M.pure (.d (.int 28001)))) (M.pure (.d (.int 30011))))) (M.pure (.d (.int 5003)))) (M.pure []))) (slotM 1)))
    nxM)))))
def F_lawUdraw : List DV → Res := runF N_lawUdraw.length (ioP 0 [.io 1 1, .fz]) m_lawUdraw
section
variable {P : Program} {w : World} {K : PySem.W.Frag} {mg : Str → Option Value} {base : Heap} {f : Addr} {fd : FuncData} {Z : ClT}
theorem b_lawUdraw (z_int : mg "int" = none) : BodyD P w K mg base 0 N_lawUdraw "_law_draw" s_lawUdraw f Z [.io 1 1, .fz] 9 m_lawUdraw := by
  intro cdv A outer s H E hr hgd tk po
  have hu80 := units80 hr
  have hu70 := units70 hr
  have hu65 := units65 hr
  have hu64 := units64 hr
  refine ⟨⟨[1, 0, 0, 0], [1, 0, 0, 0], [1, 0, 0, 0]⟩, rfl, ?_⟩
  exact (gSeq ⟨[1, 0, 0, 0], [1, 0, 0, 0], [1, 0, 0, 0]⟩ (gIfS (ψ1 := ⟨[1, 0, 0, 0], [1, 0, 0, 0], [1, 0, 0, 0]⟩) (ψ2 := ⟨[1, 0, 0, 0], [1, 0, 0, 0], [1, 0, 0, 0]⟩) (gCmpT (op_ordD rfl hu80) (gIx op_ixD (gv 0) gi) gi)
    (gSeq ⟨[1, 0, 9, 0], [1, 0, 0, 0], [1, 0, 0, 0]⟩ (gSet 2 n_lawUdraw (je_bin op_modD (gCallT cd_int z_int (gCons (gIx op_ixD (gv 0) gi) ja_nil)) (gv 1)))
    (gSeq ⟨[1, 0, 9, 0], [1, 0, 0, 0], [1, 0, 0, 0]⟩ (gStore 0 0 (je_bin op_divD (gIx op_ixD (gv 0) gi) (gv 1)) gi)
    (gSeq ⟨[1, 0, 0, 0], [1, 0, 0, 0], [1, 0, 0, 0]⟩ (gRetV 2 9)
    gNil)))
    gNil)
    (gSeq ⟨[1, 0, 0, 0], [1, 0, 0, 0], [1, 0, 0, 0]⟩ (gStore 0 0 (je_bin op_addD (gIx op_ixD (gv 0) gi) gi) gi)
    (gSeq ⟨[1, 0, 0, 9], [1, 0, 0, 0], [1, 0, 0, 0]⟩ (gSet 3 n_lawUdraw (je_bin op_modD (gCallT cd_int z_int (gCons (je_bin op_addD (je_bin op_addD (je_bin op_mulD (gIx op_ixD (gv 0) gi) gi) (je_bin op_mulD gi (gIx op_ixD (gv 0) gi))) gi) ja_nil)) gi))
    (gSeq ⟨[1, 0, 0, 0], [1, 0, 0, 0], [1, 0, 0, 0]⟩ (gStore 0 0 (ge 3) gi)
    (gSeq ⟨[1, 0, 0, 0], [1, 0, 0, 0], [1, 0, 0, 0]⟩ (gRet (je_bin op_modD (gCallT cd_int z_int (gCons (je_bin op_divD (je_bin op_mulD (gv 3) (je_bin op_addD (je_bin op_modD (gCallT cd_int z_int (gCons (gv 3) ja_nil)) gi) gi)) gi) ja_nil)) (gv 1)))
    gNil)))))
theorem h_lawUdraw (fn : Fun K "_law_draw" "_law_draw" s_lawUdraw f fd) (hm : mg "_law_draw" = some (.ref f)) (z_int : mg "int" = none) : Has P w K mg base 1 "_law_draw" ["well", "many"] Z [.io 1 1, .fz] 9 F_lawUdraw :=
  has_of fn hm S_lawUdraw (fun _ _ _ _ _ _ l hl => match l, hl with
    | [_, _], _ => fun i hi => match i, hi with
      | 0, _ => rfl
      | 1, _ => rfl
      | 2, _ => rfl
      | n + 3, h => absurd h (by show ¬ n + 3 ≤ 2; omega)) rfl (b_lawUdraw z_int)
end
abbrev s_lawUpick : Stmt := top 31
abbrev N_lawUpick : List Str := ["well", "some"]
theorem n_lawUpick : N_lawUpick.Nodup := by decide
theorem S_lawUpick : FnScope N_lawUpick ["well", "some"] (defScope s_lawUpick) := ⟨rfl, rfl, rfl, by decide +kernel, rfl, by decide +kernel, by decide +kernel⟩
def m_lawUpick : M Fl :=
  (seqM (retM [(0, 1)] (op2 ixD (.sl 1) (.v 9) (slotM 1) (callF F_lawUdraw [.io 1 1, .fz] [.sl 0, .v 9] (consM (slotM 0) (consM (callM lenD [.sl 1] (consM (slotM 1) (M.pure []))) (M.pure []))))))
    nxM)
def F_lawUpick : List DV → Res := runF N_lawUpick.length (ioP 0 [.io 1 1, .fz]) m_lawUpick
section
variable {P : Program} {w : World} {K : PySem.W.Frag} {mg : Str → Option Value} {base : Heap} {f : Addr} {fd : FuncData} {Z : ClT}
theorem b_lawUpick (z_len : mg "len" = none) (G__law_draw : Has P w K mg base 1 "_law_draw" ["well", "many"] Z [.io 1 1, .fz] 9 F_lawUdraw) : BodyD P w K mg base 1 N_lawUpick "_law_pick" s_lawUpick f Z [.io 1 1, .fz] 0 m_lawUpick := by
  intro cdv A outer s H E hr hgd tk po
  have hu80 := units80 hr
  have hu70 := units70 hr
  have hu65 := units65 hr
  have hu64 := units64 hr
  refine ⟨⟨[1, 0], [1, 0], [1, 0]⟩, rfl, ?_⟩
  exact (gSeq ⟨[1, 0], [1, 0], [1, 0]⟩ (gRet (gIx op_ixD (gv 1) (gCall G__law_draw hr hgd tk (gCons (gv 0) (gCons (gCallB cd_len z_len (gCons (gv 1) ja_nil)) ja_nil)))))
    gNil)
theorem h_lawUpick (fn : Fun K "_law_pick" "_law_pick" s_lawUpick f fd) (hm : mg "_law_pick" = some (.ref f)) (z_len : mg "len" = none) (G__law_draw : Has P w K mg base 1 "_law_draw" ["well", "many"] Z [.io 1 1, .fz] 9 F_lawUdraw) : Has P w K mg base 2 "_law_pick" ["well", "some"] Z [.io 1 1, .fz] 0 F_lawUpick :=
  has_of fn hm S_lawUpick (fun _ _ _ _ _ _ l hl => match l, hl with
    | [_, _], _ => fun i hi => match i, hi with
      | 0, _ => rfl
      | 1, _ => rfl
      | 2, _ => rfl
      | n + 3, h => absurd h (by show ¬ n + 3 ≤ 2; omega)) rfl (b_lawUpick z_len G__law_draw)
end
abbrev s_lawUorder : Stmt := top 35
abbrev N_lawUorder : List Str := ["well", "many", "left", "found", "each", "other"]
theorem n_lawUorder : N_lawUorder.Nodup := by decide
theorem S_lawUorder : FnScope N_lawUorder ["well", "many"] (defScope s_lawUorder) := ⟨rfl, rfl, rfl, by decide +kernel, rfl, by decide +kernel, by decide +kernel⟩
def m_lawUorder : M Fl :=
  (seqM (parM 2 3 (consM (rg1M (.sl 1) (slotM 1)) (consM (dispM .list (M.pure [])) (M.pure []))))
    (seqM (whileM (asB (.v 9) (op2 (lift2 neP) (.sl 2) (.v 9) (slotM 2) (dispM .list (M.pure []))))
    (seqM (setM 4 (callF F_lawUpick [.io 1 1, .fz] [.sl 0, .v 0] (consM (slotM 0) (consM (slotM 2) (M.pure [])))))
    (seqM (dropM (apM 3 (slotM 4)))
    (seqM (setM 2 (compM (.nm 5) [5] (seqI (slotM 2)) (asB (.v 9) (op2 (lift2 neP) (.sl 5) (.sl 4) (slotM 5) (slotM 4))) (slotM 5)))
    nxM))) big)
    (seqM (retM [(0, 1)] (slotM 3))
    nxM)))
def F_lawUorder : List DV → Res := runF N_lawUorder.length (ioP 0 [.io 1 1, .fz]) m_lawUorder
section
variable {P : Program} {w : World} {K : PySem.W.Frag} {mg : Str → Option Value} {base : Heap} {f : Addr} {fd : FuncData} {Z : ClT}
theorem b_lawUorder (z_list : mg "list" = none) (z_range : mg "range" = none) (G__law_pick : Has P w K mg base 2 "_law_pick" ["well", "some"] Z [.io 1 1, .fz] 0 F_lawUpick) : BodyD P w K mg base 2 N_lawUorder "_law_order" s_lawUorder f Z [.io 1 1, .fz] 1 m_lawUorder := by
  intro cdv A outer s H E hr hgd tk po
  have hu80 := units80 hr
  have hu70 := units70 hr
  have hu65 := units65 hr
  have hu64 := units64 hr
  refine ⟨⟨[1, 0, 0, 0, 0, 0], [1, 0, 0, 0, 0, 0], [1, 0, 0, 0, 0, 0]⟩, rfl, ?_⟩
  exact (gSeq ⟨[1, 0, 9, 9, 0, 0], [1, 0, 0, 0, 0, 0], [1, 0, 0, 0, 0, 0]⟩ (gPar 2 3 n_lawUorder (gCons (gListRg1 z_list z_range (gv 1)) (gCons (gLst 8 ja_nil) ja_nil)))
    (gSeq ⟨[1, 0, 1, 1, 0, 0], [1, 0, 0, 0, 0, 0], [1, 0, 0, 0, 0, 0]⟩ (gWhile [1, 0, 1, 1, 0, 0] ⟨[1, 0, 1, 1, 0, 0], [1, 0, 1, 1, 0, 0], [1, 0, 1, 1, 0, 0]⟩ po (gCmpT (op_neDD hu64) (gv 2) (gLst 8 ja_nil))
    (gSeq ⟨[1, 0, 0, 1, 0, 0], [1, 0, 1, 1, 0, 0], [1, 0, 1, 1, 0, 0]⟩ (gSet 4 n_lawUorder (gCall G__law_pick hr hgd tk (gCons (gv 0) (gCons (ge 2) ja_nil))))
    (gSeq ⟨[1, 0, 0, 1, 0, 0], [1, 0, 1, 1, 0, 0], [1, 0, 1, 1, 0, 0]⟩ (gExpr (gAppend 3 0 (ge 4)))
    (gSeq ⟨[1, 0, 1, 1, 0, 0], [1, 0, 1, 1, 0, 0], [1, 0, 1, 1, 0, 0]⟩ (gSetLc 2 [("other", 5)] [1, 0, 0, 1, 0, 0] n_lawUorder (blk_mk (by rfl)) (ji_seq (ge 2)) (fun _ _ _ _ _ => (gTgN 5 n_lawUorder)) (fun _ _ _ _ _ => (jts_one (gCmpT (op_neDD hu64) (gv 5) (gv 4)))) (fun _ _ _ _ _ => (ge 5)))
    gNil))))
    (gSeq ⟨[1, 0, 0, 0, 0, 0], [1, 0, 0, 0, 0, 0], [1, 0, 0, 0, 0, 0]⟩ (gRetV 3 1)
    gNil)))
theorem h_lawUorder (fn : Fun K "_law_order" "_law_order" s_lawUorder f fd) (hm : mg "_law_order" = some (.ref f)) (z_list : mg "list" = none) (z_range : mg "range" = none) (G__law_pick : Has P w K mg base 2 "_law_pick" ["well", "some"] Z [.io 1 1, .fz] 0 F_lawUpick) : Has P w K mg base 3 "_law_order" ["well", "many"] Z [.io 1 1, .fz] 1 F_lawUorder :=
  has_of fn hm S_lawUorder (fun _ _ _ _ _ _ l hl => match l, hl with
    | [_, _], _ => fun i hi => match i, hi with
      | 0, _ => rfl
      | 1, _ => rfl
      | 2, _ => rfl
      | n + 3, h => absurd h (by show ¬ n + 3 ≤ 2; omega)) rfl (b_lawUorder z_list z_range G__law_pick)
end
abbrev s_lawUblanks : Stmt := top 41
abbrev N_lawUblanks : List Str := ["well"]
theorem n_lawUblanks : N_lawUblanks.Nodup := by decide
theorem S_lawUblanks : FnScope N_lawUblanks ["well"] (defScope s_lawUblanks) := ⟨rfl, rfl, rfl, by decide +kernel, rfl, by decide +kernel, by decide +kernel⟩
def m_lawUblanks : M Fl :=
  (seqM (retM [(0, 1)] (callF F_lawUpick [.io 1 1, .fz] [.sl 0, .v 10] (consM (slotM 0) (consM (dispM .tuple (consM (M.pure (.d (.str ("" : Str)))) (consM (M.pure (.d (.str ("" : Str)))) (consM (M.pure (.d (.str (" " : Str)))) (consM (M.pure (.d (.str ("   " : Str)))) (M.pure [])))))) (M.pure [])))))
    nxM)
def F_lawUblanks : List DV → Res := runF N_lawUblanks.length (ioP 0 [.io 1 1]) m_lawUblanks
section
variable {P : Program} {w : World} {K : PySem.W.Frag} {mg : Str → Option Value} {base : Heap} {f : Addr} {fd : FuncData} {Z : ClT}
theorem b_lawUblanks (G__law_pick : Has P w K mg base 2 "_law_pick" ["well", "some"] Z [.io 1 1, .fz] 0 F_lawUpick) : BodyD P w K mg base 2 N_lawUblanks "_law_blanks" s_lawUblanks f Z [.io 1 1] 0 m_lawUblanks := by
  intro cdv A outer s H E hr hgd tk po
  have hu80 := units80 hr
  have hu70 := units70 hr
  have hu65 := units65 hr
  have hu64 := units64 hr
  refine ⟨⟨[1], [1], [1]⟩, rfl, ?_⟩
  exact (gSeq ⟨[1], [1], [1]⟩ (gRet (gCall G__law_pick hr hgd tk (gCons (gv 0) (gCons (gTup 9 (gCons gs (gCons gs (gCons gs (gCons gs ja_nil))))) ja_nil))))
    gNil)
theorem h_lawUblanks (fn : Fun K "_law_blanks" "_law_blanks" s_lawUblanks f fd) (hm : mg "_law_blanks" = some (.ref f)) (G__law_pick : Has P w K mg base 2 "_law_pick" ["well", "some"] Z [.io 1 1, .fz] 0 F_lawUpick) : Has P w K mg base 3 "_law_blanks" ["well"] Z [.io 1 1] 0 F_lawUblanks :=
  has_of fn hm S_lawUblanks (fun _ _ _ _ _ _ l hl => match l, hl with
    | [_], _ => fun i hi => match i, hi with
      | 0, _ => rfl
      | 1, _ => rfl
      | n + 2, h => absurd h (by show ¬ n + 2 ≤ 1; omega)) rfl (b_lawUblanks G__law_pick)
end
abbrev s_lawUotherUtext : Stmt := top 42
abbrev N_lawUotherUtext : List Str := ["well", "graph", "text", "k", "a", "b"]
theorem n_lawUotherUtext : N_lawUotherUtext.Nodup := by decide
theorem S_lawUotherUtext : FnScope N_lawUotherUtext ["well", "graph"] (defScope s_lawUotherUtext) := ⟨rfl, rfl, rfl, by decide +kernel, rfl, by decide +kernel, by decide +kernel⟩
def m_lawUotherUtext : M Fl :=
  (seqM (setM 2 (op2 (lift2 addP) (.v 1) (.v 9) (op2 (lift2 addP) (.v 0) (.v 9) (callF F_lawUblanks [.io 1 1] [.sl 0] (consM (slotM 0) (M.pure []))) (callM (oneD strP) [.v 0] (consM (op2 ixD (.sl 1) (.v 9) (slotM 1) (M.pure (.d (.int 0)))) (M.pure [])))) (M.pure (.d (.str (":" : Str))))))
    (seqM (forS (.nm 3) (seqI (callF F_lawUorder [.io 1 1, .fz] [.sl 0, .v 9] (consM (slotM 0) (consM (callM lenD [.v 0] (consM (op2 ixD (.sl 1) (.v 9) (slotM 1) (M.pure (.d (.int 1)))) (M.pure []))) (M.pure [])))))
    (seqM (asgM (.tp [4, 5]) (op2 ixD (.v 0) (.sl 3) (op2 ixD (.sl 1) (.v 9) (slotM 1) (M.pure (.d (.int 1)))) (slotM 3)))
    (seqM (asgM (.tp [4, 5]) (ifM (asB (.v 9) (op2 (lift2 eqP) (.v 9) (.v 9) (callF F_lawUdraw [.io 1 1, .fz] [.sl 0, .v 9] (consM (slotM 0) (consM (M.pure (.d (.int 2))) (M.pure [])))) (M.pure (.d (.int 0))))) (dispM .tuple (consM (slotM 5) (consM (slotM 4) (M.pure [])))) (dispM .tuple (consM (slotM 4) (consM (slotM 5) (M.pure []))))))
    (seqM (setM 2 (op2 (lift2 addP) (.v 1) (.v 9) (op2 (lift2 addP) (.v 1) (.v 9) (op2 (lift2 addP) (.v 1) (.v 9) (op2 (lift2 addP) (.v 1) (.v 0) (op2 (lift2 addP) (.sl 2) (.v 9) (slotM 2) (M.pure (.d (.str (" " : Str))))) (callF F_lawUblanks [.io 1 1] [.sl 0] (consM (slotM 0) (M.pure [])))) (callM (oneD strP) [.sl 4] (consM (slotM 4) (M.pure [])))) (M.pure (.d (.str ("-" : Str))))) (callM (oneD strP) [.sl 5] (consM (slotM 5) (M.pure [])))))
    nxM))))
    (seqM (retM [(0, 1)] (op2 (lift2 addP) (.sl 2) (.v 0) (slotM 2) (callF F_lawUblanks [.io 1 1] [.sl 0] (consM (slotM 0) (M.pure [])))))
    nxM)))
def F_lawUotherUtext : List DV → Res := runF N_lawUotherUtext.length (ioP 0 [.io 1 1, .fz]) m_lawUotherUtext
section
variable {P : Program} {w : World} {K : PySem.W.Frag} {mg : Str → Option Value} {base : Heap} {f : Addr} {fd : FuncData} {Z : ClT}
theorem b_lawUotherUtext (z_len : mg "len" = none) (z_str : mg "str" = none) (G__law_blanks : Has P w K mg base 3 "_law_blanks" ["well"] Z [.io 1 1] 0 F_lawUblanks) (G__law_order : Has P w K mg base 3 "_law_order" ["well", "many"] Z [.io 1 1, .fz] 1 F_lawUorder) (G__law_draw : Has P w K mg base 1 "_law_draw" ["well", "many"] Z [.io 1 1, .fz] 9 F_lawUdraw) : BodyD P w K mg base 3 N_lawUotherUtext "_law_other_text" s_lawUotherUtext f Z [.io 1 1, .fz] 1 m_lawUotherUtext := by
  intro cdv A outer s H E hr hgd tk po
  have hu80 := units80 hr
  have hu70 := units70 hr
  have hu65 := units65 hr
  have hu64 := units64 hr
  refine ⟨⟨[1, 0, 0, 0, 0, 0], [1, 0, 0, 0, 0, 0], [1, 0, 0, 0, 0, 0]⟩, rfl, ?_⟩
  exact (gSeq ⟨[1, 0, 1, 0, 0, 0], [1, 0, 0, 0, 0, 0], [1, 0, 0, 0, 0, 0]⟩ (gSet 2 n_lawUotherUtext (je_bin op_addD (je_bin op_addD (gCall G__law_blanks hr hgd tk (gCons (gv 0) ja_nil)) (gCallT cd_str z_str (gCons (gIx op_ixD (gv 1) gi) ja_nil))) gs))
    (gSeq ⟨[1, 0, 1, 0, 0, 0], [1, 0, 0, 0, 0, 0], [1, 0, 0, 0, 0, 0]⟩ (gFor [1, 0, 1, 0, 0, 0] ⟨[1, 0, 1, 0, 0, 0], [1, 0, 1, 0, 0, 0], [1, 0, 1, 0, 0, 0]⟩ po (ji_seq (gCall G__law_order hr hgd tk (gCons (gv 0) (gCons (gCallB cd_len z_len (gCons (gIx op_ixD (gv 1) gi) ja_nil)) ja_nil)))) (gTgN 3 n_lawUotherUtext)
    (gSeq ⟨[1, 0, 1, 0, 0, 0], [1, 0, 1, 0, 0, 0], [1, 0, 1, 0, 0, 0]⟩ (gAsg (gIx op_ixD (gIx op_ixD (gv 1) gi) (gv 3)) (gTgT (gN1 4 n_lawUotherUtext (gN1 5 n_lawUotherUtext pgs_n0))))
    (gSeq ⟨[1, 0, 1, 0, 0, 0], [1, 0, 1, 0, 0, 0], [1, 0, 1, 0, 0, 0]⟩ (gAsg (gIf [1, 0, 1, 0, 0, 0] 1 (gCmpT (op_eqDD hu64) (gCall G__law_draw hr hgd tk (gCons (gv 0) (gCons gi ja_nil))) gi) (gTup 0 (gCons (ge 5) (gCons (ge 4) ja_nil))) (gTup 0 (gCons (ge 4) (gCons (ge 5) ja_nil)))) (gTgT (gN1 4 n_lawUotherUtext (gN1 5 n_lawUotherUtext pgs_n0))))
    (gSeq ⟨[1, 0, 1, 0, 0, 0], [1, 0, 1, 0, 0, 0], [1, 0, 1, 0, 0, 0]⟩ (gSet 2 n_lawUotherUtext (je_bin op_addD (je_bin op_addD (je_bin op_addD (je_bin op_addD (je_bin op_addD (gv 2) gs) (gCall G__law_blanks hr hgd tk (gCons (gv 0) ja_nil))) (gCallT cd_str z_str (gCons (gv 4) ja_nil))) gs) (gCallT cd_str z_str (gCons (gv 5) ja_nil))))
    gNil))))
    (gSeq ⟨[1, 0, 0, 0, 0, 0], [1, 0, 0, 0, 0, 0], [1, 0, 0, 0, 0, 0]⟩ (gRet (je_bin op_addD (gv 2) (gCall G__law_blanks hr hgd tk (gCons (gv 0) ja_nil))))
    gNil)))
theorem h_lawUotherUtext (fn : Fun K "_law_other_text" "_law_other_text" s_lawUotherUtext f fd) (hm : mg "_law_other_text" = some (.ref f)) (z_len : mg "len" = none) (z_str : mg "str" = none) (G__law_blanks : Has P w K mg base 3 "_law_blanks" ["well"] Z [.io 1 1] 0 F_lawUblanks) (G__law_order : Has P w K mg base 3 "_law_order" ["well", "many"] Z [.io 1 1, .fz] 1 F_lawUorder) (G__law_draw : Has P w K mg base 1 "_law_draw" ["well", "many"] Z [.io 1 1, .fz] 9 F_lawUdraw) : Has P w K mg base 4 "_law_other_text" ["well", "graph"] Z [.io 1 1, .fz] 1 F_lawUotherUtext :=
  has_of fn hm S_lawUotherUtext (fun _ _ _ _ _ _ l hl => match l, hl with
    | [_, _], _ => fun i hi => match i, hi with
      | 0, _ => rfl
      | 1, _ => rfl
      | 2, _ => rfl
      | n + 3, h => absurd h (by show ¬ n + 3 ≤ 2; omega)) rfl (b_lawUotherUtext z_len z_str G__law_blanks G__law_order G__law_draw)
end
abbrev s_lawUpairsUof : Stmt := top 37
abbrev N_lawUpairsUof : List Str := ["vertices", "found", "a", "b"]
theorem n_lawUpairsUof : N_lawUpairsUof.Nodup := by decide
theorem S_lawUpairsUof : FnScope N_lawUpairsUof ["vertices"] (defScope s_lawUpairsUof) := ⟨rfl, rfl, rfl, by decide +kernel, rfl, by decide +kernel, by decide +kernel⟩
def m_lawUpairsUof : M Fl :=
  (seqM (setM 1 (dispM .list (M.pure [])))
    (seqM (forS (.nm 2) (rg1I (.sl 0) (slotM 0))
    (seqM (setM 1 (op2 (lift2 addP) (.sl 1) (.v 2) (slotM 1) (compM (.nm 3) [3] (rg2I (.v 1) (.sl 0) (op2 (lift2 addP) (.sl 2) (.v 9) (slotM 2) (M.pure (.d (.int 1)))) (slotM 0)) (M.pure true) (dispM .tuple (consM (slotM 2) (consM (slotM 3) (M.pure [])))))))
    nxM))
    (seqM (retM [] (slotM 1))
    nxM)))
def F_lawUpairsUof : List DV → Res := runF N_lawUpairsUof.length (ioP 0 [.fz]) m_lawUpairsUof
section
variable {P : Program} {w : World} {K : PySem.W.Frag} {mg : Str → Option Value} {base : Heap} {f : Addr} {fd : FuncData} {Z : ClT}
theorem b_lawUpairsUof (z_range : mg "range" = none) : BodyD P w K mg base 0 N_lawUpairsUof "_law_pairs_of" s_lawUpairsUof f Z [.fz] 1 m_lawUpairsUof := by
  intro cdv A outer s H E hr hgd tk po
  have hu80 := units80 hr
  have hu70 := units70 hr
  have hu65 := units65 hr
  have hu64 := units64 hr
  refine ⟨⟨[0, 0, 0, 0], [0, 0, 0, 0], [0, 0, 0, 0]⟩, rfl, ?_⟩
  exact (gSeq ⟨[0, 9, 0, 0], [0, 0, 0, 0], [0, 0, 0, 0]⟩ (gSet 1 n_lawUpairsUof (gLst 8 ja_nil))
    (gSeq ⟨[0, 1, 0, 0], [0, 0, 0, 0], [0, 0, 0, 0]⟩ (gFor [0, 1, 0, 0] ⟨[0, 1, 0, 0], [0, 1, 0, 0], [0, 1, 0, 0]⟩ po (gRange1 z_range (gv 0)) (gTgN 2 n_lawUpairsUof)
    (gSeq ⟨[0, 1, 0, 0], [0, 1, 0, 0], [0, 1, 0, 0]⟩ (gSet 1 n_lawUpairsUof (je_bin op_addD (gv 1) (gLc [("b", 3)] [0, 1, 0, 0] n_lawUpairsUof (blk_mk (by rfl)) (gRange2 z_range (je_bin op_addD (gv 2) gi) (gv 0)) (fun _ _ _ _ _ => (gTgN 3 n_lawUpairsUof)) (fun _ _ _ _ _ => jts_nil) (fun _ _ _ _ _ => (gTup 0 (gCons (ge 2) (gCons (ge 3) ja_nil)))))))
    gNil))
    (gSeq ⟨[0, 0, 0, 0], [0, 0, 0, 0], [0, 0, 0, 0]⟩ (gRetV 1 1)
    gNil)))
theorem h_lawUpairsUof (fn : Fun K "_law_pairs_of" "_law_pairs_of" s_lawUpairsUof f fd) (hm : mg "_law_pairs_of" = some (.ref f)) (z_range : mg "range" = none) : Has P w K mg base 1 "_law_pairs_of" ["vertices"] Z [.fz] 1 F_lawUpairsUof :=
  has_of fn hm S_lawUpairsUof (fun _ _ _ _ _ _ l hl => match l, hl with
    | [_], _ => fun i hi => match i, hi with
      | 0, _ => rfl
      | 1, _ => rfl
      | n + 2, h => absurd h (by show ¬ n + 2 ≤ 1; omega)) rfl (b_lawUpairsUof z_range)
end
abbrev s_lawUkept : Stmt := top 32
abbrev N_lawUkept : List Str := ["vertices", "edges", "found", "a", "b", "pair"]
theorem n_lawUkept : N_lawUkept.Nodup := by decide
theorem S_lawUkept : FnScope N_lawUkept ["vertices", "edges"] (defScope s_lawUkept) := ⟨rfl, rfl, rfl, by decide +kernel, rfl, by decide +kernel, by decide +kernel⟩
def m_lawUkept : M Fl :=
  (seqM (setM 2 (dispM .list (M.pure [])))
    (seqM (forS (.tp [3, 4]) (seqI (slotM 1))
    (seqM (setM 5 (ifM (asB (.v 9) (op2 (lift2 (cmpP .Lt)) (.sl 3) (.sl 4) (slotM 3) (slotM 4))) (dispM .tuple (consM (slotM 3) (consM (slotM 4) (M.pure [])))) (dispM .tuple (consM (slotM 4) (consM (slotM 3) (M.pure []))))))
    (seqM (ifS (andM (asB (.v 9) (op2 (lift2 neP) (.sl 3) (.sl 4) (slotM 3) (slotM 4))) (asB (.v 9) (op2 (lift2 notInP) (.sl 5) (.sl 2) (slotM 5) (slotM 2))))
    (seqM (dropM (apM 2 (slotM 5)))
    nxM)
    nxM)
    nxM)))
    (seqM (retM [] (dispM .tuple (consM (slotM 0) (consM (callM (oneD tupleP) [.v 1] (consM (callM (oneD sortP) [.sl 2] (consM (slotM 2) (M.pure []))) (M.pure []))) (M.pure [])))))
    nxM)))
def F_lawUkept : List DV → Res := runF N_lawUkept.length (ioP 0 [.fz, .fz]) m_lawUkept
section
variable {P : Program} {w : World} {K : PySem.W.Frag} {mg : Str → Option Value} {base : Heap} {f : Addr} {fd : FuncData} {Z : ClT}
theorem b_lawUkept (z_sorted : mg "sorted" = none) (z_tuple : mg "tuple" = none) : BodyD P w K mg base 0 N_lawUkept "_law_kept" s_lawUkept f Z [.fz, .fz] 1 m_lawUkept := by
  intro cdv A outer s H E hr hgd tk po
  have hu80 := units80 hr
  have hu70 := units70 hr
  have hu65 := units65 hr
  have hu64 := units64 hr
  refine ⟨⟨[0, 0, 0, 0, 0, 0], [0, 0, 0, 0, 0, 0], [0, 0, 0, 0, 0, 0]⟩, rfl, ?_⟩
  exact (gSeq ⟨[0, 0, 9, 0, 0, 0], [0, 0, 0, 0, 0, 0], [0, 0, 0, 0, 0, 0]⟩ (gSet 2 n_lawUkept (gLst 8 ja_nil))
    (gSeq ⟨[0, 0, 1, 0, 0, 0], [0, 0, 0, 0, 0, 0], [0, 0, 0, 0, 0, 0]⟩ (gFor [0, 0, 1, 0, 0, 0] ⟨[0, 0, 1, 0, 0, 0], [0, 0, 1, 0, 0, 0], [0, 0, 1, 0, 0, 0]⟩ po (ji_seq (ge 1)) (gTgT (gN1 3 n_lawUkept (gN1 4 n_lawUkept pgs_n0)))
    (gSeq ⟨[0, 0, 1, 0, 0, 1], [0, 0, 1, 0, 0, 0], [0, 0, 1, 0, 0, 0]⟩ (gSet 5 n_lawUkept (gIf [0, 0, 1, 0, 0, 0] 1 (gCmpT (op_ordD rfl hu80) (gv 3) (gv 4)) (gTup 0 (gCons (ge 3) (gCons (ge 4) ja_nil))) (gTup 0 (gCons (ge 4) (gCons (ge 3) ja_nil)))))
    (gSeq ⟨[0, 0, 1, 0, 0, 0], [0, 0, 1, 0, 0, 0], [0, 0, 1, 0, 0, 0]⟩ (gIfS (ψ1 := ⟨[0, 0, 1, 0, 0, 0], [0, 0, 1, 0, 0, 0], [0, 0, 1, 0, 0, 0]⟩) (ψ2 := ⟨[0, 0, 1, 0, 0, 1], [0, 0, 1, 0, 0, 0], [0, 0, 1, 0, 0, 0]⟩) (jt_w (gAnd (gCmpT (op_neDD hu64) (gv 3) (gv 4)) (jw_and1 (gCmpT (op_notInDD hu65) (gv 5) (gv 2)))))
    (gSeq ⟨[0, 0, 1, 0, 0, 0], [0, 0, 1, 0, 0, 0], [0, 0, 1, 0, 0, 0]⟩ (gExpr (gAppend 2 0 (ge 5)))
    gNil)
    gNil)
    gNil)))
    (gSeq ⟨[0, 0, 0, 0, 0, 0], [0, 0, 0, 0, 0, 0], [0, 0, 0, 0, 0, 0]⟩ (gRet (gTup 0 (gCons (ge 0) (gCons (gCallT cd_tuple z_tuple (gCons (gCallB cd_sorted z_sorted (gCons (gv 2) ja_nil)) ja_nil)) ja_nil))))
    gNil)))
theorem h_lawUkept (fn : Fun K "_law_kept" "_law_kept" s_lawUkept f fd) (hm : mg "_law_kept" = some (.ref f)) (z_sorted : mg "sorted" = none) (z_tuple : mg "tuple" = none) : Has P w K mg base 1 "_law_kept" ["vertices", "edges"] Z [.fz, .fz] 1 F_lawUkept :=
  has_of fn hm S_lawUkept (fun _ _ _ _ _ _ l hl => match l, hl with
    | [_, _], _ => fun i hi => match i, hi with
      | 0, _ => rfl
      | 1, _ => rfl
      | 2, _ => rfl
      | n + 3, h => absurd h (by show ¬ n + 3 ≤ 2; omega)) rfl (b_lawUkept z_sorted z_tuple)
end
abbrev s_lawUedgesUof : Stmt := top 33
abbrev N_lawUedgesUof : List Str := ["text", "words", "pairs", "word", "pair"]
theorem n_lawUedgesUof : N_lawUedgesUof.Nodup := by decide
theorem S_lawUedgesUof : FnScope N_lawUedgesUof ["text"] (defScope s_lawUedgesUof) := ⟨rfl, rfl, rfl, by decide +kernel, rfl, by decide +kernel, by decide +kernel⟩
def m_lawUedgesUof : M Fl :=
  (seqM (setM 1 (mthM "str" splitD (.sl 0) (slotM 0) [.v 9] (consM (M.pure (.d (.str (" " : Str)))) (M.pure []))))
    (seqM (setM 2 (compM (.nm 3) [3] (seqI (slM (.sl 1) (slotM 1) (someI (.v 9) (M.pure (.d (.int 1)))) (M.pure none))) (M.pure true) (mthM "str" splitD (.sl 3) (slotM 3) [.v 9] (consM (M.pure (.d (.str ("-" : Str)))) (M.pure [])))))
    (seqM (retM [] (callF F_lawUkept [.fz, .fz] [.v 9, .v 11] (consM (callM (oneD intP) [.v 1] (consM (slM (.v 0) (op2 ixD (.sl 1) (.v 9) (slotM 1) (M.pure (.d (.int 0)))) (M.pure none) (someI (.v 9) (un1 (lift1 negP) (.v 9) (M.pure (.d (.int 1)))))) (M.pure []))) (consM (compM (.nm 4) [4] (seqI (slotM 2)) (M.pure true) (dispM .tuple (consM (callM (oneD intP) [.v 0] (consM (op2 ixD (.sl 4) (.v 9) (slotM 4) (M.pure (.d (.int 0)))) (M.pure []))) (consM (callM (oneD intP) [.v 0] (consM (op2 ixD (.sl 4) (.v 9) (slotM 4) (M.pure (.d (.int 1)))) (M.pure []))) (M.pure []))))) (M.pure [])))))
    nxM)))
def F_lawUedgesUof : List DV → Res := runF N_lawUedgesUof.length (ioP 0 [.fz]) m_lawUedgesUof
section
variable {P : Program} {w : World} {K : PySem.W.Frag} {mg : Str → Option Value} {base : Heap} {f : Addr} {fd : FuncData} {Z : ClT}
theorem b_lawUedgesUof (z_int : mg "int" = none) (G__law_kept : Has P w K mg base 1 "_law_kept" ["vertices", "edges"] Z [.fz, .fz] 1 F_lawUkept) : BodyD P w K mg base 1 N_lawUedgesUof "_law_edges_of" s_lawUedgesUof f Z [.fz] 1 m_lawUedgesUof := by
  intro cdv A outer s H E hr hgd tk po
  have hu80 := units80 hr
  have hu70 := units70 hr
  have hu65 := units65 hr
  have hu64 := units64 hr
  refine ⟨⟨[0, 0, 0, 0, 0], [0, 0, 0, 0, 0], [0, 0, 0, 0, 0]⟩, rfl, ?_⟩
  exact (gSeq ⟨[0, 9, 0, 0, 0], [0, 0, 0, 0, 0], [0, 0, 0, 0, 0]⟩ (gSet 1 n_lawUedgesUof (gMeth PySem.F.plainAttrs_str PySem.F.slot_str_split PySem.F.type_str_split mth_split (gv 0) (gCons gs ja_nil)))
    (gSeq ⟨[0, 1, 10, 0, 0], [0, 0, 0, 0, 0], [0, 0, 0, 0, 0]⟩ (gSetLc 2 [("word", 3)] [0, 1, 0, 0, 0] n_lawUedgesUof (blk_mk (by rfl)) (ji_seq (gSlice (gv 1) (jo_some gi) jo_none)) (fun _ _ _ _ _ => (gTgN 3 n_lawUedgesUof)) (fun _ _ _ _ _ => jts_nil) (fun _ _ _ _ _ => (gMeth PySem.F.plainAttrs_str PySem.F.slot_str_split PySem.F.type_str_split mth_split (gv 3) (gCons gs ja_nil))))
    (gSeq ⟨[0, 0, 0, 0, 0], [0, 0, 0, 0, 0], [0, 0, 0, 0, 0]⟩ (gRet (gCall G__law_kept hr hgd tk (gCons (gCallT cd_int z_int (gCons (gSlice (gIx op_ixD (gv 1) gi) jo_none (jo_some (gNeg gi))) ja_nil)) (gCons (gLc [("pair", 4)] [0, 1, 0, 0, 0] n_lawUedgesUof (blk_mk (by rfl)) (ji_seq (ge 2)) (fun _ _ _ _ _ => (gTgN 4 n_lawUedgesUof)) (fun _ _ _ _ _ => jts_nil) (fun _ _ _ _ _ => (gTup 9 (gCons (gCallT cd_int z_int (gCons (gIx op_ixD (gv 4) gi) ja_nil)) (gCons (gCallT cd_int z_int (gCons (gIx op_ixD (gv 4) gi) ja_nil)) ja_nil))))) ja_nil))))
    gNil)))
theorem h_lawUedgesUof (fn : Fun K "_law_edges_of" "_law_edges_of" s_lawUedgesUof f fd) (hm : mg "_law_edges_of" = some (.ref f)) (z_int : mg "int" = none) (G__law_kept : Has P w K mg base 1 "_law_kept" ["vertices", "edges"] Z [.fz, .fz] 1 F_lawUkept) : Has P w K mg base 2 "_law_edges_of" ["text"] Z [.fz] 1 F_lawUedgesUof :=
  has_of fn hm S_lawUedgesUof (fun _ _ _ _ _ _ l hl => match l, hl with
    | [_], _ => fun i hi => match i, hi with
      | 0, _ => rfl
      | 1, _ => rfl
      | n + 2, h => absurd h (by show ¬ n + 2 ≤ 1; omega)) rfl (b_lawUedgesUof z_int G__law_kept)
end
abbrev s_lawUfamily : Stmt := top 34
abbrev N_lawUfamily : List Str := ["level", "texts", "text"]
theorem n_lawUfamily : N_lawUfamily.Nodup := by decide
theorem S_lawUfamily : FnScope N_lawUfamily ["level"] (defScope s_lawUfamily) := ⟨rfl, rfl, rfl, by decide +kernel, rfl, by decide +kernel, by decide +kernel⟩
def m_lawUfamily : M Fl :=
  (seqM (setM 1 (dispM .tuple (consM (dispM .tuple (consM (M.pure (.d (.str ("3: 0-1 0-2 1-2" : Str)))) (consM (M.pure (.d (.str ("4: 0-3 1-3 2-3" : Str)))) (M.pure [])))) (consM (dispM .tuple (consM (M.pure (.d (.str ("4: 0-1 0-2 0-3 1-2 1-3 2-3" : Str)))) (consM (M.pure (.d (.str ("5: 0-2 0-3 0-4 1-2 1-3 1-4" : Str)))) (M.pure [])))) (consM (dispM .tuple (consM (M.pure (.d (.str ("5: 0-1 0-2 0-3 0-4 1-2 1-3 1-4 2-3 2-4 3-4" : Str)))) (consM (M.pure (.d (.str ("6: 0-3 0-4 0-5 1-3 1-4 1-5 2-3 2-4 2-5" : Str)))) (M.pure [])))) (consM (dispM .tuple (consM (M.pure (.d (.str ("6: 0-1 0-2 0-3 0-4 0-5 1-2 1-3 1-4 1-5 2-3 2-4 2-5 3-4 3-5 4-5" : Str)))) (consM (M.pure (.d (.str ("7: 0-3 0-4 0-5 0-6 1-3 1-4 1-5 1-6 2-3 2-4 2-5 2-6 3-6 4-6 5-6" : Str)))) (consM (M.pure (.d (.str ("7: 0-1 0-2 0-3 0-4 0-5 1-2 1-3 1-4 1-5 2-3 2-4 2-5 3-6 4-6 5-6" : Str)))) (consM (M.pure (.d (.str ("8: 0-4 0-5 0-6 0-7 1-4 1-5 1-6 1-7 2-4 2-5 2-6 2-7 3-4 3-5 3-6" : Str)))) (consM (M.pure (.d (.str ("8: 0-2 0-4 0-5 0-7 1-2 1-4 1-5 1-7 2-3 2-4 2-5 3-6 3-7 4-6 5-6" : Str)))) (consM (M.pure (.d (.str ("9: 0-5 0-7 0-8 1-2 1-4 1-5 1-7 2-3 2-5 2-8 3-6 3-7 4-6 4-8 5-6" : Str)))) (consM (M.pure (.d (.str ("10: 0-5 0-7 0-8 1-4 1-7 1-9 2-3 2-8 2-9 3-6 3-7 4-6 4-8 5-6 5-9" : Str)))) (M.pure []))))))))) (M.pure [])))))))
    (seqM (retM [] (compM (.nm 2) [2] (seqI (op2 ixD (.sl 1) (.v 9) (slotM 1) (op2 (lift2 subP) (.sl 0) (.v 9) (slotM 0) (M.pure (.d (.int 1)))))) (M.pure true) (callF F_lawUedgesUof [.fz] [.v 0] (consM (slotM 2) (M.pure [])))))
    nxM))
def F_lawUfamily : List DV → Res := runF N_lawUfamily.length (ioP 0 [.fz]) m_lawUfamily
section
variable {P : Program} {w : World} {K : PySem.W.Frag} {mg : Str → Option Value} {base : Heap} {f : Addr} {fd : FuncData} {Z : ClT}
theorem b_lawUfamily (G__law_edges_of : Has P w K mg base 2 "_law_edges_of" ["text"] Z [.fz] 1 F_lawUedgesUof) : BodyD P w K mg base 2 N_lawUfamily "_law_family" s_lawUfamily f Z [.fz] 2 m_lawUfamily := by
  intro cdv A outer s H E hr hgd tk po
  have hu80 := units80 hr
  have hu70 := units70 hr
  have hu65 := units65 hr
  have hu64 := units64 hr
  refine ⟨⟨[0, 0, 0], [0, 0, 0], [0, 0, 0]⟩, rfl, ?_⟩
  exact (gSeq ⟨[0, 11, 0], [0, 0, 0], [0, 0, 0]⟩ (gSet 1 n_lawUfamily (gTup 10 (gCons (gTup 9 (gCons gs (gCons gs ja_nil))) (gCons (gTup 9 (gCons gs (gCons gs ja_nil))) (gCons (gTup 9 (gCons gs (gCons gs ja_nil))) (gCons (gTup 9 (gCons gs (gCons gs (gCons gs (gCons gs (gCons gs (gCons gs (gCons gs ja_nil)))))))) ja_nil))))))
    (gSeq ⟨[0, 0, 0], [0, 0, 0], [0, 0, 0]⟩ (gRet (gLc [("text", 2)] [0, 1, 0] n_lawUfamily (blk_mk (by rfl)) (ji_seq (gIx op_ixD (gv 1) (je_bin op_subD (gv 0) gi))) (fun _ _ _ _ _ => (gTgN 2 n_lawUfamily)) (fun _ _ _ _ _ => jts_nil) (fun _ _ _ _ _ => (gCall G__law_edges_of hr hgd tk0 (gCons (ge 2) ja_nil)))))
    gNil))
theorem h_lawUfamily (fn : Fun K "_law_family" "_law_family" s_lawUfamily f fd) (hm : mg "_law_family" = some (.ref f)) (G__law_edges_of : Has P w K mg base 2 "_law_edges_of" ["text"] Z [.fz] 1 F_lawUedgesUof) : Has P w K mg base 3 "_law_family" ["level"] Z [.fz] 2 F_lawUfamily :=
  has_of fn hm S_lawUfamily (fun _ _ _ _ _ _ l hl => match l, hl with
    | [_], _ => fun i hi => match i, hi with
      | 0, _ => rfl
      | 1, _ => rfl
      | n + 2, h => absurd h (by show ¬ n + 2 ≤ 1; omega)) rfl (b_lawUfamily G__law_edges_of)
end
abbrev s_lawUnamed : Stmt := top 36
abbrev N_lawUnamed : List Str := ["graph", "order", "a", "b"]
theorem n_lawUnamed : N_lawUnamed.Nodup := by decide
theorem S_lawUnamed : FnScope N_lawUnamed ["graph", "order"] (defScope s_lawUnamed) := ⟨rfl, rfl, rfl, by decide +kernel, rfl, by decide +kernel, by decide +kernel⟩
def m_lawUnamed : M Fl :=
  (seqM (retM [] (callF F_lawUkept [.fz, .fz] [.v 0, .v 2] (consM (op2 ixD (.sl 0) (.v 9) (slotM 0) (M.pure (.d (.int 0)))) (consM (compM (.tp [2, 3]) [2, 3] (seqI (op2 ixD (.sl 0) (.v 9) (slotM 0) (M.pure (.d (.int 1))))) (M.pure true) (dispM .tuple (consM (op2 ixD (.sl 1) (.sl 2) (slotM 1) (slotM 2)) (consM (op2 ixD (.sl 1) (.sl 3) (slotM 1) (slotM 3)) (M.pure []))))) (M.pure [])))))
    nxM)
def F_lawUnamed : List DV → Res := runF N_lawUnamed.length (ioP 0 [.fz, .fz]) m_lawUnamed
section
variable {P : Program} {w : World} {K : PySem.W.Frag} {mg : Str → Option Value} {base : Heap} {f : Addr} {fd : FuncData} {Z : ClT}
theorem b_lawUnamed (G__law_kept : Has P w K mg base 1 "_law_kept" ["vertices", "edges"] Z [.fz, .fz] 1 F_lawUkept) : BodyD P w K mg base 1 N_lawUnamed "_law_named" s_lawUnamed f Z [.fz, .fz] 1 m_lawUnamed := by
  intro cdv A outer s H E hr hgd tk po
  have hu80 := units80 hr
  have hu70 := units70 hr
  have hu65 := units65 hr
  have hu64 := units64 hr
  refine ⟨⟨[0, 0, 0, 0], [0, 0, 0, 0], [0, 0, 0, 0]⟩, rfl, ?_⟩
  exact (gSeq ⟨[0, 0, 0, 0], [0, 0, 0, 0], [0, 0, 0, 0]⟩ (gRet (gCall G__law_kept hr hgd tk (gCons (gIx op_ixD (gv 0) gi) (gCons (gLc [("a", 2), ("b", 3)] [0, 0, 0, 0] n_lawUnamed (blk_mk (by rfl)) (ji_seq (gIx op_ixD (gv 0) gi)) (fun _ _ _ _ _ => (gTgT (gN1 2 n_lawUnamed (gN1 3 n_lawUnamed pgs_n0)))) (fun _ _ _ _ _ => jts_nil) (fun _ _ _ _ _ => (gTup 0 (gCons (gIx op_ixD (gv 1) (gv 2)) (gCons (gIx op_ixD (gv 1) (gv 3)) ja_nil))))) ja_nil))))
    gNil)
theorem h_lawUnamed (fn : Fun K "_law_named" "_law_named" s_lawUnamed f fd) (hm : mg "_law_named" = some (.ref f)) (G__law_kept : Has P w K mg base 1 "_law_kept" ["vertices", "edges"] Z [.fz, .fz] 1 F_lawUkept) : Has P w K mg base 2 "_law_named" ["graph", "order"] Z [.fz, .fz] 1 F_lawUnamed :=
  has_of fn hm S_lawUnamed (fun _ _ _ _ _ _ l hl => match l, hl with
    | [_, _], _ => fun i hi => match i, hi with
      | 0, _ => rfl
      | 1, _ => rfl
      | 2, _ => rfl
      | n + 3, h => absurd h (by show ¬ n + 3 ≤ 2; omega)) rfl (b_lawUnamed G__law_kept)
end
abbrev s_lawUgraph : Stmt := top 38
abbrev N_lawUgraph : List Str := ["well", "most", "edges", "vertices", "some", "graph", "more", "turn", "pair", "found", "share", "each"]
theorem n_lawUgraph : N_lawUgraph.Nodup := by decide
theorem S_lawUgraph : FnScope N_lawUgraph ["well", "most", "edges"] (defScope s_lawUgraph) := ⟨rfl, rfl, rfl, by decide +kernel, rfl, by decide +kernel, by decide +kernel⟩
def m_lawUgraph : M Fl :=
  (seqM (setM 3 (op2 (lift2 addP) (.v 9) (.v 9) (M.pure (.d (.int 1))) (callF F_lawUdraw [.io 1 1, .fz] [.sl 0, .v 0] (consM (slotM 0) (consM (slotM 1) (M.pure []))))))
    (seqM (setM 4 (callF F_lawUpairsUof [.fz] [.v 0] (consM (slotM 3) (M.pure []))))
    (seqM (ifS (asB (.v 9) (op2 (lift2 eqP) (.v 9) (.v 9) (callF F_lawUdraw [.io 1 1, .fz] [.sl 0, .v 9] (consM (slotM 0) (consM (M.pure (.d (.int 3))) (M.pure [])))) (M.pure (.d (.int 0)))))
    (seqM (setM 5 (callF F_lawUpick [.io 1 1, .fz] [.sl 0, .v 2] (consM (slotM 0) (consM (callF F_lawUfamily [.fz] [.v 0] (consM (callF F_lawUpick [.io 1 1, .fz] [.sl 0, .v 10] (consM (slotM 0) (consM (dispM .tuple (consM (M.pure (.d (.int 2))) (consM (M.pure (.d (.int 3))) (consM (M.pure (.d (.int 4))) (M.pure []))))) (M.pure [])))) (M.pure []))) (M.pure [])))))
    (seqM (ifS (andM (asB (.v 9) (op2 (lift2 (cmpP .LtE)) (.v 0) (.sl 1) (op2 ixD (.sl 5) (.v 9) (slotM 5) (M.pure (.d (.int 0)))) (slotM 1))) (asB (.v 9) (op2 (lift2 (cmpP .LtE)) (.v 9) (.sl 2) (callM lenD [.v 0] (consM (op2 ixD (.sl 5) (.v 9) (slotM 5) (M.pure (.d (.int 1)))) (M.pure []))) (slotM 2))))
    (seqM (setM 5 (callF F_lawUnamed [.fz, .fz] [.v 0, .v 1] (consM (slotM 5) (consM (callF F_lawUorder [.io 1 1, .fz] [.sl 0, .v 0] (consM (slotM 0) (consM (op2 ixD (.sl 5) (.v 9) (slotM 5) (M.pure (.d (.int 0)))) (M.pure [])))) (M.pure [])))))
    (seqM (setM 6 (callM listD [.v 0] (consM (op2 ixD (.sl 5) (.v 9) (slotM 5) (M.pure (.d (.int 1)))) (M.pure []))))
    (seqM (forS (.nm 7) (rg1I (.v 9) (callF F_lawUdraw [.io 1 1, .fz] [.sl 0, .v 9] (consM (slotM 0) (consM (M.pure (.d (.int 4))) (M.pure [])))))
    (seqM (setM 8 (callF F_lawUpick [.io 1 1, .fz] [.sl 0, .v 1] (consM (slotM 0) (consM (callF F_lawUpairsUof [.fz] [.v 0] (consM (op2 ixD (.sl 5) (.v 9) (slotM 5) (M.pure (.d (.int 0)))) (M.pure []))) (M.pure [])))))
    (seqM (ifS (orM (asB (.v 9) (op2 (lift2 eqP) (.v 9) (.v 9) (callF F_lawUdraw [.io 1 1, .fz] [.sl 0, .v 9] (consM (slotM 0) (consM (M.pure (.d (.int 2))) (M.pure [])))) (M.pure (.d (.int 0))))) (asB (.v 9) (op2 (lift2 (cmpP .GtE)) (.v 9) (.sl 2) (callM lenD [.sl 6] (consM (slotM 6) (M.pure []))) (slotM 2))))
    (seqM (setM 6 (compM (.nm 11) [11] (seqI (slotM 6)) (asB (.v 9) (op2 (lift2 neP) (.sl 11) (.sl 8) (slotM 11) (slotM 8))) (slotM 11)))
    nxM)
    (seqM (dropM (apM 6 (slotM 8)))
    nxM))
    nxM)))
    (seqM (retM [(0, 1)] (callF F_lawUkept [.fz, .fz] [.v 0, .v 0] (consM (op2 ixD (.sl 5) (.v 9) (slotM 5) (M.pure (.d (.int 0)))) (consM (slotM 6) (M.pure [])))))
    nxM))))
    nxM)
    nxM))
    nxM)
    (seqM (parM 9 10 (consM (dispM .list (M.pure [])) (consM (op2 (lift2 addP) (.v 9) (.v 9) (M.pure (.d (.int 1))) (callF F_lawUdraw [.io 1 1, .fz] [.sl 0, .v 9] (consM (slotM 0) (consM (M.pure (.d (.int 6))) (M.pure []))))) (M.pure []))))
    (seqM (forS (.nm 8) (seqI (slotM 4))
    (seqM (ifS (andM (asB (.v 9) (op2 (lift2 (cmpP .Lt)) (.v 9) (.sl 10) (callF F_lawUdraw [.io 1 1, .fz] [.sl 0, .v 9] (consM (slotM 0) (consM (M.pure (.d (.int 6))) (M.pure [])))) (slotM 10))) (asB (.v 9) (op2 (lift2 (cmpP .Lt)) (.v 9) (.sl 2) (callM lenD [.sl 9] (consM (slotM 9) (M.pure []))) (slotM 2))))
    (seqM (dropM (apM 9 (slotM 8)))
    nxM)
    nxM)
    nxM))
    (seqM (retM [(0, 1)] (callF F_lawUkept [.fz, .fz] [.v 0, .v 0] (consM (slotM 3) (consM (slotM 9) (M.pure [])))))
    nxM))))))
def F_lawUgraph : List DV → Res := runF N_lawUgraph.length (ioP 0 [.io 1 1, .fz, .fz]) m_lawUgraph
section
variable {P : Program} {w : World} {K : PySem.W.Frag} {mg : Str → Option Value} {base : Heap} {f : Addr} {fd : FuncData} {Z : ClT}
theorem b_lawUgraph (z_len : mg "len" = none) (z_list : mg "list" = none) (z_range : mg "range" = none) (G__law_draw : Has P w K mg base 1 "_law_draw" ["well", "many"] Z [.io 1 1, .fz] 9 F_lawUdraw) (G__law_pairs_of : Has P w K mg base 1 "_law_pairs_of" ["vertices"] Z [.fz] 1 F_lawUpairsUof) (G__law_pick : Has P w K mg base 2 "_law_pick" ["well", "some"] Z [.io 1 1, .fz] 0 F_lawUpick) (G__law_family : Has P w K mg base 3 "_law_family" ["level"] Z [.fz] 2 F_lawUfamily) (G__law_named : Has P w K mg base 2 "_law_named" ["graph", "order"] Z [.fz, .fz] 1 F_lawUnamed) (G__law_order : Has P w K mg base 3 "_law_order" ["well", "many"] Z [.io 1 1, .fz] 1 F_lawUorder) (G__law_kept : Has P w K mg base 1 "_law_kept" ["vertices", "edges"] Z [.fz, .fz] 1 F_lawUkept) : BodyD P w K mg base 3 N_lawUgraph "_law_graph" s_lawUgraph f Z [.io 1 1, .fz, .fz] 1 m_lawUgraph := by
  intro cdv A outer s H E hr hgd tk po
  have hu80 := units80 hr
  have hu70 := units70 hr
  have hu65 := units65 hr
  have hu64 := units64 hr
  refine ⟨⟨[1, 0, 0, 0, 0, 0, 0, 0, 0, 0, 0, 0], [1, 0, 0, 0, 0, 0, 0, 0, 0, 0, 0, 0], [1, 0, 0, 0, 0, 0, 0, 0, 0, 0, 0, 0]⟩, rfl, ?_⟩
  exact (gSeq ⟨[1, 0, 0, 1, 0, 0, 0, 0, 0, 0, 0, 0], [1, 0, 0, 0, 0, 0, 0, 0, 0, 0, 0, 0], [1, 0, 0, 0, 0, 0, 0, 0, 0, 0, 0, 0]⟩ (gSet 3 n_lawUgraph (je_bin op_addD gi (gCall G__law_draw hr hgd tk (gCons (gv 0) (gCons (ge 1) ja_nil)))))
    (gSeq ⟨[1, 0, 0, 0, 1, 0, 0, 0, 0, 0, 0, 0], [1, 0, 0, 0, 0, 0, 0, 0, 0, 0, 0, 0], [1, 0, 0, 0, 0, 0, 0, 0, 0, 0, 0, 0]⟩ (gSet 4 n_lawUgraph (gCall G__law_pairs_of hr hgd tk (gCons (ge 3) ja_nil)))
    (gSeq ⟨[1, 0, 0, 0, 1, 0, 0, 0, 0, 0, 0, 0], [1, 0, 0, 0, 0, 0, 0, 0, 0, 0, 0, 0], [1, 0, 0, 0, 0, 0, 0, 0, 0, 0, 0, 0]⟩ (gIfS (ψ1 := ⟨[1, 0, 0, 0, 1, 0, 0, 0, 0, 0, 0, 0], [1, 0, 0, 0, 0, 0, 0, 0, 0, 0, 0, 0], [1, 0, 0, 0, 0, 0, 0, 0, 0, 0, 0, 0]⟩) (ψ2 := ⟨[1, 0, 0, 0, 1, 0, 0, 0, 0, 0, 0, 0], [1, 0, 0, 0, 0, 0, 0, 0, 0, 0, 0, 0], [1, 0, 0, 0, 0, 0, 0, 0, 0, 0, 0, 0]⟩) (gCmpT (op_eqDD hu64) (gCall G__law_draw hr hgd tk (gCons (gv 0) (gCons gi ja_nil))) gi)
    (gSeq ⟨[1, 0, 0, 0, 1, 0, 0, 0, 0, 0, 0, 0], [1, 0, 0, 0, 0, 0, 0, 0, 0, 0, 0, 0], [1, 0, 0, 0, 0, 0, 0, 0, 0, 0, 0, 0]⟩ (gSet 5 n_lawUgraph (gCall G__law_pick hr hgd tk (gCons (gv 0) (gCons (gCall G__law_family hr hgd tk (gCons (gCall G__law_pick hr hgd tk (gCons (gv 0) (gCons (gTup 9 (gCons gi (gCons gi (gCons gi ja_nil)))) ja_nil))) ja_nil)) ja_nil))))
    (gSeq ⟨[1, 0, 0, 0, 1, 0, 0, 0, 0, 0, 0, 0], [1, 0, 0, 0, 0, 0, 0, 0, 0, 0, 0, 0], [1, 0, 0, 0, 0, 0, 0, 0, 0, 0, 0, 0]⟩ (gIfS (ψ1 := ⟨[1, 0, 0, 0, 1, 0, 0, 0, 0, 0, 0, 0], [1, 0, 0, 0, 0, 0, 0, 0, 0, 0, 0, 0], [1, 0, 0, 0, 0, 0, 0, 0, 0, 0, 0, 0]⟩) (ψ2 := ⟨[1, 0, 0, 0, 1, 0, 0, 0, 0, 0, 0, 0], [1, 0, 0, 0, 0, 0, 0, 0, 0, 0, 0, 0], [1, 0, 0, 0, 0, 0, 0, 0, 0, 0, 0, 0]⟩) (jt_w (gAnd (gCmpT (op_ordD rfl hu80) (gIx op_ixD (gv 5) gi) (gv 1)) (jw_and1 (gCmpT (op_ordD rfl hu80) (gCallB cd_len z_len (gCons (gIx op_ixD (gv 5) gi) ja_nil)) (gv 2)))))
    (gSeq ⟨[1, 0, 0, 0, 1, 1, 0, 0, 0, 0, 0, 0], [1, 0, 0, 0, 0, 0, 0, 0, 0, 0, 0, 0], [1, 0, 0, 0, 0, 0, 0, 0, 0, 0, 0, 0]⟩ (gSet 5 n_lawUgraph (gCall G__law_named hr hgd tk (gCons (ge 5) (gCons (gCall G__law_order hr hgd tk (gCons (gv 0) (gCons (gIx op_ixD (gv 5) gi) ja_nil))) ja_nil))))
    (gSeq ⟨[1, 0, 0, 0, 1, 1, 1, 0, 0, 0, 0, 0], [1, 0, 0, 0, 0, 0, 0, 0, 0, 0, 0, 0], [1, 0, 0, 0, 0, 0, 0, 0, 0, 0, 0, 0]⟩ (gSet 6 n_lawUgraph (gCallT cd_list z_list (gCons (gIx op_ixD (gv 5) gi) ja_nil)))
    (gSeq ⟨[1, 0, 0, 0, 1, 1, 1, 0, 0, 0, 0, 0], [1, 0, 0, 0, 0, 0, 0, 0, 0, 0, 0, 0], [1, 0, 0, 0, 0, 0, 0, 0, 0, 0, 0, 0]⟩ (gFor [1, 0, 0, 0, 1, 1, 1, 0, 0, 0, 0, 0] ⟨[1, 0, 0, 0, 1, 1, 1, 0, 0, 0, 0, 0], [1, 0, 0, 0, 1, 1, 1, 0, 0, 0, 0, 0], [1, 0, 0, 0, 1, 1, 1, 0, 0, 0, 0, 0]⟩ po (gRange1 z_range (gCall G__law_draw hr hgd tk (gCons (gv 0) (gCons gi ja_nil)))) (gTgN 7 n_lawUgraph)
    (gSeq ⟨[1, 0, 0, 0, 1, 1, 1, 0, 0, 0, 0, 0], [1, 0, 0, 0, 1, 1, 1, 0, 0, 0, 0, 0], [1, 0, 0, 0, 1, 1, 1, 0, 0, 0, 0, 0]⟩ (gSet 8 n_lawUgraph (gCall G__law_pick hr hgd tk (gCons (gv 0) (gCons (gCall G__law_pairs_of hr hgd tk (gCons (gIx op_ixD (gv 5) gi) ja_nil)) ja_nil))))
    (gSeq ⟨[1, 0, 0, 0, 1, 1, 1, 0, 0, 0, 0, 0], [1, 0, 0, 0, 1, 1, 1, 0, 0, 0, 0, 0], [1, 0, 0, 0, 1, 1, 1, 0, 0, 0, 0, 0]⟩ (gIfS (ψ1 := ⟨[1, 0, 0, 0, 1, 1, 1, 0, 0, 0, 0, 0], [1, 0, 0, 0, 1, 1, 1, 0, 0, 0, 0, 0], [1, 0, 0, 0, 1, 1, 1, 0, 0, 0, 0, 0]⟩) (ψ2 := ⟨[1, 0, 0, 0, 1, 1, 1, 0, 0, 0, 0, 0], [1, 0, 0, 0, 1, 1, 1, 0, 0, 0, 0, 0], [1, 0, 0, 0, 1, 1, 1, 0, 0, 0, 0, 0]⟩) (jt_w (gOr (gCmpT (op_eqDD hu64) (gCall G__law_draw hr hgd tk (gCons (gv 0) (gCons gi ja_nil))) gi) (jw_or1 (gCmpT (op_ordD rfl hu80) (gCallB cd_len z_len (gCons (gv 6) ja_nil)) (gv 2)))))
    (gSeq ⟨[1, 0, 0, 0, 1, 1, 1, 0, 0, 0, 0, 0], [1, 0, 0, 0, 1, 1, 1, 0, 0, 0, 0, 0], [1, 0, 0, 0, 1, 1, 1, 0, 0, 0, 0, 0]⟩ (gSetLc 6 [("each", 11)] [1, 0, 0, 0, 1, 1, 0, 0, 0, 0, 0, 0] n_lawUgraph (blk_mk (by rfl)) (ji_seq (ge 6)) (fun _ _ _ _ _ => (gTgN 11 n_lawUgraph)) (fun _ _ _ _ _ => (jts_one (gCmpT (op_neDD hu64) (gv 11) (gv 8)))) (fun _ _ _ _ _ => (ge 11)))
    gNil)
    (gSeq ⟨[1, 0, 0, 0, 1, 1, 1, 0, 0, 0, 0, 0], [1, 0, 0, 0, 1, 1, 1, 0, 0, 0, 0, 0], [1, 0, 0, 0, 1, 1, 1, 0, 0, 0, 0, 0]⟩ (gExpr (gAppend 6 0 (ge 8)))
    gNil))
    gNil)))
    (gSeq ⟨[1, 0, 0, 0, 1, 0, 0, 0, 0, 0, 0, 0], [1, 0, 0, 0, 0, 0, 0, 0, 0, 0, 0, 0], [1, 0, 0, 0, 0, 0, 0, 0, 0, 0, 0, 0]⟩ (gRet (gCall G__law_kept hr hgd tk (gCons (gIx op_ixD (gv 5) gi) (gCons (ge 6) ja_nil))))
    gNil))))
    gNil)
    gNil))
    gNil)
    (gSeq ⟨[1, 0, 0, 0, 1, 0, 0, 0, 0, 9, 1, 0], [1, 0, 0, 0, 0, 0, 0, 0, 0, 0, 0, 0], [1, 0, 0, 0, 0, 0, 0, 0, 0, 0, 0, 0]⟩ (gPar 9 10 n_lawUgraph (gCons (gLst 8 ja_nil) (gCons (je_bin op_addD gi (gCall G__law_draw hr hgd tk (gCons (gv 0) (gCons gi ja_nil)))) ja_nil)))
    (gSeq ⟨[1, 0, 0, 0, 0, 0, 0, 0, 0, 1, 1, 0], [1, 0, 0, 0, 0, 0, 0, 0, 0, 0, 0, 0], [1, 0, 0, 0, 0, 0, 0, 0, 0, 0, 0, 0]⟩ (gFor [1, 0, 0, 0, 0, 0, 0, 0, 0, 1, 1, 0] ⟨[1, 0, 0, 0, 0, 0, 0, 0, 0, 1, 1, 0], [1, 0, 0, 0, 0, 0, 0, 0, 0, 1, 1, 0], [1, 0, 0, 0, 0, 0, 0, 0, 0, 1, 1, 0]⟩ po (ji_seq (ge 4)) (gTgN 8 n_lawUgraph)
    (gSeq ⟨[1, 0, 0, 0, 0, 0, 0, 0, 0, 1, 1, 0], [1, 0, 0, 0, 0, 0, 0, 0, 0, 1, 1, 0], [1, 0, 0, 0, 0, 0, 0, 0, 0, 1, 1, 0]⟩ (gIfS (ψ1 := ⟨[1, 0, 0, 0, 0, 0, 0, 0, 0, 1, 1, 0], [1, 0, 0, 0, 0, 0, 0, 0, 0, 1, 1, 0], [1, 0, 0, 0, 0, 0, 0, 0, 0, 1, 1, 0]⟩) (ψ2 := ⟨[1, 0, 0, 0, 0, 0, 0, 0, 0, 1, 1, 0], [1, 0, 0, 0, 0, 0, 0, 0, 0, 1, 1, 0], [1, 0, 0, 0, 0, 0, 0, 0, 0, 1, 1, 0]⟩) (jt_w (gAnd (gCmpT (op_ordD rfl hu80) (gCall G__law_draw hr hgd tk (gCons (gv 0) (gCons gi ja_nil))) (gv 10)) (jw_and1 (gCmpT (op_ordD rfl hu80) (gCallB cd_len z_len (gCons (gv 9) ja_nil)) (gv 2)))))
    (gSeq ⟨[1, 0, 0, 0, 0, 0, 0, 0, 0, 1, 1, 0], [1, 0, 0, 0, 0, 0, 0, 0, 0, 1, 1, 0], [1, 0, 0, 0, 0, 0, 0, 0, 0, 1, 1, 0]⟩ (gExpr (gAppend 9 0 (ge 8)))
    gNil)
    gNil)
    gNil))
    (gSeq ⟨[1, 0, 0, 0, 0, 0, 0, 0, 0, 0, 0, 0], [1, 0, 0, 0, 0, 0, 0, 0, 0, 0, 0, 0], [1, 0, 0, 0, 0, 0, 0, 0, 0, 0, 0, 0]⟩ (gRet (gCall G__law_kept hr hgd tk (gCons (ge 3) (gCons (ge 9) ja_nil))))
    gNil))))))
theorem h_lawUgraph (fn : Fun K "_law_graph" "_law_graph" s_lawUgraph f fd) (hm : mg "_law_graph" = some (.ref f)) (z_len : mg "len" = none) (z_list : mg "list" = none) (z_range : mg "range" = none) (G__law_draw : Has P w K mg base 1 "_law_draw" ["well", "many"] Z [.io 1 1, .fz] 9 F_lawUdraw) (G__law_pairs_of : Has P w K mg base 1 "_law_pairs_of" ["vertices"] Z [.fz] 1 F_lawUpairsUof) (G__law_pick : Has P w K mg base 2 "_law_pick" ["well", "some"] Z [.io 1 1, .fz] 0 F_lawUpick) (G__law_family : Has P w K mg base 3 "_law_family" ["level"] Z [.fz] 2 F_lawUfamily) (G__law_named : Has P w K mg base 2 "_law_named" ["graph", "order"] Z [.fz, .fz] 1 F_lawUnamed) (G__law_order : Has P w K mg base 3 "_law_order" ["well", "many"] Z [.io 1 1, .fz] 1 F_lawUorder) (G__law_kept : Has P w K mg base 1 "_law_kept" ["vertices", "edges"] Z [.fz, .fz] 1 F_lawUkept) : Has P w K mg base 4 "_law_graph" ["well", "most", "edges"] Z [.io 1 1, .fz, .fz] 1 F_lawUgraph :=
  has_of fn hm S_lawUgraph (fun _ _ _ _ _ _ l hl => match l, hl with
    | [_, _, _], _ => fun i hi => match i, hi with
      | 0, _ => rfl
      | 1, _ => rfl
      | 2, _ => rfl
      | 3, _ => rfl
      | n + 4, h => absurd h (by show ¬ n + 4 ≤ 3; omega)) rfl (b_lawUgraph z_len z_list z_range G__law_draw G__law_pairs_of G__law_pick G__law_family G__law_named G__law_order G__law_kept)
end
abbrev s_lawUfull : Stmt := top 39
abbrev N_lawUfull : List Str := ["well", "edges", "found", "k"]
theorem n_lawUfull : N_lawUfull.Nodup := by decide
theorem S_lawUfull : FnScope N_lawUfull ["well", "edges"] (defScope s_lawUfull) := ⟨rfl, rfl, rfl, by decide +kernel, rfl, by decide +kernel, by decide +kernel⟩
def m_lawUfull : M Fl :=
  (seqM (setM 2 (dispM .list (M.pure [])))
    (seqM (forS (.nm 3) (seqI (slM (.v 1) (callF F_lawUorder [.io 1 1, .fz] [.sl 0, .v 9] (consM (slotM 0) (consM (M.pure (.d (.int 45))) (M.pure [])))) (M.pure none) (someI (.sl 1) (slotM 1))))
    (seqM (dropM (apM 2 (op2 ixD (.v 1) (.sl 3) (callF F_lawUpairsUof [.fz] [.v 9] (consM (M.pure (.d (.int 10))) (M.pure []))) (slotM 3))))
    nxM))
    (seqM (retM [(0, 1)] (callF F_lawUkept [.fz, .fz] [.v 9, .v 0] (consM (M.pure (.d (.int 10))) (consM (slotM 2) (M.pure [])))))
    nxM)))
def F_lawUfull : List DV → Res := runF N_lawUfull.length (ioP 0 [.io 1 1, .fz]) m_lawUfull
section
variable {P : Program} {w : World} {K : PySem.W.Frag} {mg : Str → Option Value} {base : Heap} {f : Addr} {fd : FuncData} {Z : ClT}
theorem b_lawUfull (G__law_order : Has P w K mg base 3 "_law_order" ["well", "many"] Z [.io 1 1, .fz] 1 F_lawUorder) (G__law_pairs_of : Has P w K mg base 1 "_law_pairs_of" ["vertices"] Z [.fz] 1 F_lawUpairsUof) (G__law_kept : Has P w K mg base 1 "_law_kept" ["vertices", "edges"] Z [.fz, .fz] 1 F_lawUkept) : BodyD P w K mg base 3 N_lawUfull "_law_full" s_lawUfull f Z [.io 1 1, .fz] 1 m_lawUfull := by
  intro cdv A outer s H E hr hgd tk po
  have hu80 := units80 hr
  have hu70 := units70 hr
  have hu65 := units65 hr
  have hu64 := units64 hr
  refine ⟨⟨[1, 0, 0, 0], [1, 0, 0, 0], [1, 0, 0, 0]⟩, rfl, ?_⟩
  exact (gSeq ⟨[1, 0, 9, 0], [1, 0, 0, 0], [1, 0, 0, 0]⟩ (gSet 2 n_lawUfull (gLst 8 ja_nil))
    (gSeq ⟨[1, 0, 1, 0], [1, 0, 0, 0], [1, 0, 0, 0]⟩ (gFor [1, 0, 1, 0] ⟨[1, 0, 1, 0], [1, 0, 1, 0], [1, 0, 1, 0]⟩ po (ji_seq (gSlice (gCall G__law_order hr hgd tk (gCons (gv 0) (gCons gi ja_nil))) jo_none (jo_some (gv 1)))) (gTgN 3 n_lawUfull)
    (gSeq ⟨[1, 0, 1, 0], [1, 0, 1, 0], [1, 0, 1, 0]⟩ (gExpr (gAppend 2 0 (gIx op_ixD (gCall G__law_pairs_of hr hgd tk (gCons gi ja_nil)) (gv 3))))
    gNil))
    (gSeq ⟨[1, 0, 0, 0], [1, 0, 0, 0], [1, 0, 0, 0]⟩ (gRet (gCall G__law_kept hr hgd tk (gCons gi (gCons (ge 2) ja_nil))))
    gNil)))
theorem h_lawUfull (fn : Fun K "_law_full" "_law_full" s_lawUfull f fd) (hm : mg "_law_full" = some (.ref f)) (G__law_order : Has P w K mg base 3 "_law_order" ["well", "many"] Z [.io 1 1, .fz] 1 F_lawUorder) (G__law_pairs_of : Has P w K mg base 1 "_law_pairs_of" ["vertices"] Z [.fz] 1 F_lawUpairsUof) (G__law_kept : Has P w K mg base 1 "_law_kept" ["vertices", "edges"] Z [.fz, .fz] 1 F_lawUkept) : Has P w K mg base 4 "_law_full" ["well", "edges"] Z [.io 1 1, .fz] 1 F_lawUfull :=
  has_of fn hm S_lawUfull (fun _ _ _ _ _ _ l hl => match l, hl with
    | [_, _], _ => fun i hi => match i, hi with
      | 0, _ => rfl
      | 1, _ => rfl
      | 2, _ => rfl
      | n + 3, h => absurd h (by show ¬ n + 3 ≤ 2; omega)) rfl (b_lawUfull G__law_order G__law_pairs_of G__law_kept)
end
abbrev s_isUwhole : Stmt := top 7
abbrev N_isUwhole : List Str := ["value"]
theorem n_isUwhole : N_isUwhole.Nodup := by decide
theorem S_isUwhole : FnScope N_isUwhole ["value"] (defScope s_isUwhole) := ⟨rfl, rfl, rfl, by decide +kernel, rfl, by decide +kernel, by decide +kernel⟩
def m_isUwhole : M Fl :=
  (seqM (retM [] (andV (.v 9) (isiM "int" (.sl 0) (slotM 0)) (notV (.v 9) (isiM "bool" (.sl 0) (slotM 0)))))
    nxM)
def F_isUwhole : List DV → Res := runF N_isUwhole.length (ioP 0 [.fz]) m_isUwhole
section
variable {P : Program} {w : World} {K : PySem.W.Frag} {mg : Str → Option Value} {base : Heap} {f : Addr} {fd : FuncData} {Z : ClT}
theorem b_isUwhole (z_bool : mg "bool" = none) (z_int : mg "int" = none) (z_isinstance : mg "isinstance" = none) : BodyD P w K mg base 0 N_isUwhole "is_whole" s_isUwhole f Z [.fz] 9 m_isUwhole := by
  intro cdv A outer s H E hr hgd tk po
  have hu80 := units80 hr
  have hu70 := units70 hr
  have hu65 := units65 hr
  have hu64 := units64 hr
  refine ⟨⟨[0], [0], [0]⟩, rfl, ?_⟩
  exact (gSeq ⟨[0], [0], [0]⟩ (gRet (gAndV (gIsi z_isinstance z_int (gv 0)) (je_one (je_not (gIsi z_isinstance z_bool (gv 0))))))
    gNil)
theorem h_isUwhole (fn : Fun K "is_whole" "is_whole" s_isUwhole f fd) (hm : mg "is_whole" = some (.ref f)) (z_bool : mg "bool" = none) (z_int : mg "int" = none) (z_isinstance : mg "isinstance" = none) : Has P w K mg base 1 "is_whole" ["value"] Z [.fz] 9 F_isUwhole :=
  has_of fn hm S_isUwhole (fun _ _ _ _ _ _ l hl => match l, hl with
    | [_], _ => fun i hi => match i, hi with
      | 0, _ => rfl
      | 1, _ => rfl
      | n + 2, h => absurd h (by show ¬ n + 2 ≤ 1; omega)) rfl (b_isUwhole z_bool z_int z_isinstance)
end
abbrev s_isUbetween : Stmt := top 8
abbrev N_isUbetween : List Str := ["value", "least", "most"]
theorem n_isUbetween : N_isUbetween.Nodup := by decide
theorem S_isUbetween : FnScope N_isUbetween ["value", "least", "most"] (defScope s_isUbetween) := ⟨rfl, rfl, rfl, by decide +kernel, rfl, by decide +kernel, by decide +kernel⟩
def m_isUbetween : M Fl :=
  (seqM (retM [] (andV (.v 9) (callF F_isUwhole [.fz] [.v 0] (consM (slotM 0) (M.pure []))) (chM (lift2 (cmpP .LtE)) (lift2 (cmpP .LtE)) (.sl 1) (.sl 0) (.sl 2) (slotM 1) (slotM 0) (slotM 2))))
    nxM)
def F_isUbetween : List DV → Res := runF N_isUbetween.length (ioP 0 [.fz, .fz, .fz]) m_isUbetween
section
variable {P : Program} {w : World} {K : PySem.W.Frag} {mg : Str → Option Value} {base : Heap} {f : Addr} {fd : FuncData} {Z : ClT}
theorem b_isUbetween (G_is_whole : Has P w K mg base 1 "is_whole" ["value"] Z [.fz] 9 F_isUwhole) : BodyD P w K mg base 1 N_isUbetween "is_between" s_isUbetween f Z [.fz, .fz, .fz] 9 m_isUbetween := by
  intro cdv A outer s H E hr hgd tk po
  have hu80 := units80 hr
  have hu70 := units70 hr
  have hu65 := units65 hr
  have hu64 := units64 hr
  refine ⟨⟨[0, 0, 0], [0, 0, 0], [0, 0, 0]⟩, rfl, ?_⟩
  exact (gSeq ⟨[0, 0, 0], [0, 0, 0], [0, 0, 0]⟩ (gRet (gAndV (gCall G_is_whole hr hgd tk (gCons (ge 0) ja_nil)) (je_one (gChain (φ' := [0, 0, 0]) (op_ordD rfl hu80) (op_ordD rfl hu80) (gv 1) (gv 0) (gv 2)))))
    gNil)
theorem h_isUbetween (fn : Fun K "is_between" "is_between" s_isUbetween f fd) (hm : mg "is_between" = some (.ref f)) (G_is_whole : Has P w K mg base 1 "is_whole" ["value"] Z [.fz] 9 F_isUwhole) : Has P w K mg base 2 "is_between" ["value", "least", "most"] Z [.fz, .fz, .fz] 9 F_isUbetween :=
  has_of fn hm S_isUbetween (fun _ _ _ _ _ _ l hl => match l, hl with
    | [_, _, _], _ => fun i hi => match i, hi with
      | 0, _ => rfl
      | 1, _ => rfl
      | 2, _ => rfl
      | 3, _ => rfl
      | n + 4, h => absurd h (by show ¬ n + 4 ≤ 3; omega)) rfl (b_isUbetween G_is_whole)
end
abbrev s_isUedgeUof : Stmt := top 9
abbrev N_isUedgeUof : List Str := ["vertices", "value", "each"]
theorem n_isUedgeUof : N_isUedgeUof.Nodup := by decide
theorem S_isUedgeUof : FnScope N_isUedgeUof ["vertices", "value"] (defScope s_isUedgeUof) := ⟨rfl, rfl, rfl, by decide +kernel, rfl, by decide +kernel, by decide +kernel⟩
def m_isUedgeUof : M Fl :=
  (seqM (ifS (orM (notM (truM (.v 9) (isiM "tuple" (.sl 1) (slotM 1)))) (asB (.v 9) (op2 (lift2 neP) (.v 9) (.v 9) (callM lenD [.sl 1] (consM (slotM 1) (M.pure []))) (M.pure (.d (.int 2))))))
    (seqM (retM [] (M.pure (.d (.bool false))))
    nxM)
    nxM)
    (seqM (ifS (notM (truM (.v 9) (callM (oneD allP) [.v 10] (consM (compM (.nm 2) [2] (seqI (slotM 1)) (M.pure true) (callF F_isUbetween [.fz, .fz, .fz] [.v 0, .v 9, .v 9] (consM (slotM 2) (consM (M.pure (.d (.int 0))) (consM (op2 (lift2 subP) (.sl 0) (.v 9) (slotM 0) (M.pure (.d (.int 1)))) (M.pure [])))))) (M.pure [])))))
    (seqM (retM [] (M.pure (.d (.bool false))))
    nxM)
    nxM)
    (seqM (retM [] (op2 (lift2 (cmpP .Lt)) (.v 0) (.v 0) (op2 ixD (.sl 1) (.v 9) (slotM 1) (M.pure (.d (.int 0)))) (op2 ixD (.sl 1) (.v 9) (slotM 1) (M.pure (.d (.int 1))))))
    nxM)))
def F_isUedgeUof : List DV → Res := runF N_isUedgeUof.length (ioP 0 [.fz, .fz]) m_isUedgeUof
section
variable {P : Program} {w : World} {K : PySem.W.Frag} {mg : Str → Option Value} {base : Heap} {f : Addr} {fd : FuncData} {Z : ClT}
theorem b_isUedgeUof (z_all : mg "all" = none) (z_isinstance : mg "isinstance" = none) (z_len : mg "len" = none) (z_tuple : mg "tuple" = none) (G_is_between : Has P w K mg base 2 "is_between" ["value", "least", "most"] Z [.fz, .fz, .fz] 9 F_isUbetween) : BodyD P w K mg base 2 N_isUedgeUof "is_edge_of" s_isUedgeUof f Z [.fz, .fz] 9 m_isUedgeUof := by
  intro cdv A outer s H E hr hgd tk po
  have hu80 := units80 hr
  have hu70 := units70 hr
  have hu65 := units65 hr
  have hu64 := units64 hr
  refine ⟨⟨[0, 0, 0], [0, 0, 0], [0, 0, 0]⟩, rfl, ?_⟩
  exact (gSeq ⟨[0, 0, 0], [0, 0, 0], [0, 0, 0]⟩ (gIfS (ψ1 := ⟨[0, 0, 0], [0, 0, 0], [0, 0, 0]⟩) (ψ2 := ⟨[0, 0, 0], [0, 0, 0], [0, 0, 0]⟩) (jt_w (gOr (jt_not (gTru (gIsi z_isinstance z_tuple (gv 1)))) (jw_or1 (gCmpT (op_neDD hu64) (gCallB cd_len z_len (gCons (gv 1) ja_nil)) gi))))
    (gSeq ⟨[0, 0, 0], [0, 0, 0], [0, 0, 0]⟩ (gRet gb)
    gNil)
    gNil)
    (gSeq ⟨[0, 0, 0], [0, 0, 0], [0, 0, 0]⟩ (gIfS (ψ1 := ⟨[0, 0, 0], [0, 0, 0], [0, 0, 0]⟩) (ψ2 := ⟨[0, 0, 0], [0, 0, 0], [0, 0, 0]⟩) (jt_not (gTru (gCallB (cd_all rfl) z_all (gCons (gLc [("each", 2)] [0, 0, 0] n_isUedgeUof (blk_mk (by rfl)) (ji_seq (ge 1)) (fun _ _ _ _ _ => (gTgN 2 n_isUedgeUof)) (fun _ _ _ _ _ => jts_nil) (fun _ _ _ _ _ => (gCall G_is_between hr hgd tk0 (gCons (ge 2) (gCons gi (gCons (je_bin op_subD (gv 0) gi) ja_nil)))))) ja_nil))))
    (gSeq ⟨[0, 0, 0], [0, 0, 0], [0, 0, 0]⟩ (gRet gb)
    gNil)
    gNil)
    (gSeq ⟨[0, 0, 0], [0, 0, 0], [0, 0, 0]⟩ (gRet (gCmp (op_ordD rfl hu80) (gIx op_ixD (gv 1) gi) (gIx op_ixD (gv 1) gi)))
    gNil)))
theorem h_isUedgeUof (fn : Fun K "is_edge_of" "is_edge_of" s_isUedgeUof f fd) (hm : mg "is_edge_of" = some (.ref f)) (z_all : mg "all" = none) (z_isinstance : mg "isinstance" = none) (z_len : mg "len" = none) (z_tuple : mg "tuple" = none) (G_is_between : Has P w K mg base 2 "is_between" ["value", "least", "most"] Z [.fz, .fz, .fz] 9 F_isUbetween) : Has P w K mg base 3 "is_edge_of" ["vertices", "value"] Z [.fz, .fz] 9 F_isUedgeUof :=
  has_of fn hm S_isUedgeUof (fun _ _ _ _ _ _ l hl => match l, hl with
    | [_, _], _ => fun i hi => match i, hi with
      | 0, _ => rfl
      | 1, _ => rfl
      | 2, _ => rfl
      | n + 3, h => absurd h (by show ¬ n + 3 ≤ 2; omega)) rfl (b_isUedgeUof z_all z_isinstance z_len z_tuple G_is_between)
end
abbrev s_isUgraphUby : Stmt := top 10
abbrev N_isUgraphUby : List Str := ["value", "vertices", "edges", "one", "two", "each"]
theorem n_isUgraphUby : N_isUgraphUby.Nodup := by decide
theorem S_isUgraphUby : FnScope N_isUgraphUby ["value"] (defScope s_isUgraphUby) := ⟨rfl, rfl, rfl, by decide +kernel, rfl, by decide +kernel, by decide +kernel⟩
def m_isUgraphUby : M Fl :=
  (seqM (ifS (orM (notM (truM (.v 9) (isiM "tuple" (.sl 0) (slotM 0)))) (orM (asB (.v 9) (op2 (lift2 neP) (.v 9) (.v 9) (callM lenD [.sl 0] (consM (slotM 0) (M.pure []))) (M.pure (.d (.int 2))))) (notM (truM (.v 9) (callF F_isUbetween [.fz, .fz, .fz] [.v 0, .v 9, .v 9] (consM (op2 ixD (.sl 0) (.v 9) (slotM 0) (M.pure (.d (.int 0)))) (consM (M.pure (.d (.int 1))) (consM (M.pure (.d (.int 10))) (M.pure [])))))))))
    (seqM (retM [] (M.pure (.d (.bool false))))
    nxM)
    nxM)
    (seqM (asgM (.tp [1, 2]) (slotM 0))
    (seqM (ifS (orM (notM (truM (.v 9) (isiM "tuple" (.sl 2) (slotM 2)))) (asB (.v 9) (op2 (lift2 (cmpP .Gt)) (.v 9) (.v 9) (callM lenD [.sl 2] (consM (slotM 2) (M.pure []))) (M.pure (.d (.int 24))))))
    (seqM (retM [] (M.pure (.d (.bool false))))
    nxM)
    nxM)
    (seqM (ifS (notM (truM (.v 9) (callM (oneD allP) [.v 10] (consM (compM (.nm 5) [5] (seqI (slotM 2)) (M.pure true) (callF F_isUedgeUof [.fz, .fz] [.v 0, .v 0] (consM (slotM 1) (consM (slotM 5) (M.pure []))))) (M.pure [])))))
    (seqM (retM [] (M.pure (.d (.bool false))))
    nxM)
    nxM)
    (seqM (retM [] (callM (oneD allP) [.v 10] (consM (compM (.tp [3, 4]) [3, 4] (zipI (slotM 2) (slM (.sl 2) (slotM 2) (someI (.v 9) (M.pure (.d (.int 1)))) (M.pure none))) (M.pure true) (op2 (lift2 (cmpP .Lt)) (.sl 3) (.sl 4) (slotM 3) (slotM 4))) (M.pure []))))
    nxM)))))
def F_isUgraphUby : List DV → Res := runF N_isUgraphUby.length (ioP 0 [.fz]) m_isUgraphUby
section
variable {P : Program} {w : World} {K : PySem.W.Frag} {mg : Str → Option Value} {base : Heap} {f : Addr} {fd : FuncData} {Z : ClT}
theorem b_isUgraphUby (z_all : mg "all" = none) (z_isinstance : mg "isinstance" = none) (z_len : mg "len" = none) (z_tuple : mg "tuple" = none) (z_zip : mg "zip" = none) {t_MOST_EDGES : Tok} (c_MOST_EDGES : mg "MOST_EDGES" = some (.int 24 t_MOST_EDGES)) {t_MOST_VERTICES : Tok} (c_MOST_VERTICES : mg "MOST_VERTICES" = some (.int 10 t_MOST_VERTICES)) (G_is_between : Has P w K mg base 2 "is_between" ["value", "least", "most"] Z [.fz, .fz, .fz] 9 F_isUbetween) (G_is_edge_of : Has P w K mg base 3 "is_edge_of" ["vertices", "value"] Z [.fz, .fz] 9 F_isUedgeUof) : BodyD P w K mg base 3 N_isUgraphUby "is_graph_by" s_isUgraphUby f Z [.fz] 9 m_isUgraphUby := by
  intro cdv A outer s H E hr hgd tk po
  have hu80 := units80 hr
  have hu70 := units70 hr
  have hu65 := units65 hr
  have hu64 := units64 hr
  refine ⟨⟨[0, 0, 0, 0, 0, 0], [0, 0, 0, 0, 0, 0], [0, 0, 0, 0, 0, 0]⟩, rfl, ?_⟩
  exact (gSeq ⟨[0, 0, 0, 0, 0, 0], [0, 0, 0, 0, 0, 0], [0, 0, 0, 0, 0, 0]⟩ (gIfS (ψ1 := ⟨[0, 0, 0, 0, 0, 0], [0, 0, 0, 0, 0, 0], [0, 0, 0, 0, 0, 0]⟩) (ψ2 := ⟨[0, 0, 0, 0, 0, 0], [0, 0, 0, 0, 0, 0], [0, 0, 0, 0, 0, 0]⟩) (jt_w (gOr (jt_not (gTru (gIsi z_isinstance z_tuple (gv 0)))) (gOr (gCmpT (op_neDD hu64) (gCallB cd_len z_len (gCons (gv 0) ja_nil)) gi) (jw_or1 (jt_not (gTru (gCall G_is_between hr hgd tk (gCons (gIx op_ixD (gv 0) gi) (gCons gi (gCons (gGi c_MOST_VERTICES) ja_nil))))))))))
    (gSeq ⟨[0, 0, 0, 0, 0, 0], [0, 0, 0, 0, 0, 0], [0, 0, 0, 0, 0, 0]⟩ (gRet gb)
    gNil)
    gNil)
    (gSeq ⟨[0, 0, 0, 0, 0, 0], [0, 0, 0, 0, 0, 0], [0, 0, 0, 0, 0, 0]⟩ (gAsg (ge 0) (gTgT (gN1 1 n_isUgraphUby (gN1 2 n_isUgraphUby pgs_n0))))
    (gSeq ⟨[0, 0, 0, 0, 0, 0], [0, 0, 0, 0, 0, 0], [0, 0, 0, 0, 0, 0]⟩ (gIfS (ψ1 := ⟨[0, 0, 0, 0, 0, 0], [0, 0, 0, 0, 0, 0], [0, 0, 0, 0, 0, 0]⟩) (ψ2 := ⟨[0, 0, 0, 0, 0, 0], [0, 0, 0, 0, 0, 0], [0, 0, 0, 0, 0, 0]⟩) (jt_w (gOr (jt_not (gTru (gIsi z_isinstance z_tuple (gv 2)))) (jw_or1 (gCmpT (op_ordD rfl hu80) (gCallB cd_len z_len (gCons (gv 2) ja_nil)) (gGi c_MOST_EDGES)))))
    (gSeq ⟨[0, 0, 0, 0, 0, 0], [0, 0, 0, 0, 0, 0], [0, 0, 0, 0, 0, 0]⟩ (gRet gb)
    gNil)
    gNil)
    (gSeq ⟨[0, 0, 0, 0, 0, 0], [0, 0, 0, 0, 0, 0], [0, 0, 0, 0, 0, 0]⟩ (gIfS (ψ1 := ⟨[0, 0, 0, 0, 0, 0], [0, 0, 0, 0, 0, 0], [0, 0, 0, 0, 0, 0]⟩) (ψ2 := ⟨[0, 0, 0, 0, 0, 0], [0, 0, 0, 0, 0, 0], [0, 0, 0, 0, 0, 0]⟩) (jt_not (gTru (gCallB (cd_all rfl) z_all (gCons (gLc [("each", 5)] [0, 0, 0, 0, 0, 0] n_isUgraphUby (blk_mk (by rfl)) (ji_seq (ge 2)) (fun _ _ _ _ _ => (gTgN 5 n_isUgraphUby)) (fun _ _ _ _ _ => jts_nil) (fun _ _ _ _ _ => (gCall G_is_edge_of hr hgd tk0 (gCons (ge 1) (gCons (ge 5) ja_nil))))) ja_nil))))
    (gSeq ⟨[0, 0, 0, 0, 0, 0], [0, 0, 0, 0, 0, 0], [0, 0, 0, 0, 0, 0]⟩ (gRet gb)
    gNil)
    gNil)
    (gSeq ⟨[0, 0, 0, 0, 0, 0], [0, 0, 0, 0, 0, 0], [0, 0, 0, 0, 0, 0]⟩ (gRet (gCallB (cd_all rfl) z_all (gCons (gLc [("one", 3), ("two", 4)] [0, 0, 0, 0, 0, 0] n_isUgraphUby (blk_mk (by rfl)) (gZip z_zip (ge 2) (gSlice (gv 2) (jo_some gi) jo_none)) (fun _ _ _ _ _ => (gTgT (gN1 3 n_isUgraphUby (gN1 4 n_isUgraphUby pgs_n0)))) (fun _ _ _ _ _ => jts_nil) (fun _ _ _ _ _ => (gCmp (op_ordD rfl hu80) (gv 3) (gv 4)))) ja_nil)))
    gNil)))))
theorem h_isUgraphUby (fn : Fun K "is_graph_by" "is_graph_by" s_isUgraphUby f fd) (hm : mg "is_graph_by" = some (.ref f)) (z_all : mg "all" = none) (z_isinstance : mg "isinstance" = none) (z_len : mg "len" = none) (z_tuple : mg "tuple" = none) (z_zip : mg "zip" = none) {t_MOST_EDGES : Tok} (c_MOST_EDGES : mg "MOST_EDGES" = some (.int 24 t_MOST_EDGES)) {t_MOST_VERTICES : Tok} (c_MOST_VERTICES : mg "MOST_VERTICES" = some (.int 10 t_MOST_VERTICES)) (G_is_between : Has P w K mg base 2 "is_between" ["value", "least", "most"] Z [.fz, .fz, .fz] 9 F_isUbetween) (G_is_edge_of : Has P w K mg base 3 "is_edge_of" ["vertices", "value"] Z [.fz, .fz] 9 F_isUedgeUof) : Has P w K mg base 4 "is_graph_by" ["value"] Z [.fz] 9 F_isUgraphUby :=
  has_of fn hm S_isUgraphUby (fun _ _ _ _ _ _ l hl => match l, hl with
    | [_], _ => fun i hi => match i, hi with
      | 0, _ => rfl
      | 1, _ => rfl
      | n + 2, h => absurd h (by show ¬ n + 2 ≤ 1; omega)) rfl (b_isUgraphUby z_all z_isinstance z_len z_tuple z_zip c_MOST_EDGES c_MOST_VERTICES G_is_between G_is_edge_of)
end
abbrev s_checkUgraph : Stmt := top 12
abbrev N_checkUgraph : List Str := ["value"]
theorem n_checkUgraph : N_checkUgraph.Nodup := by decide
theorem S_checkUgraph : FnScope N_checkUgraph ["value"] (defScope s_checkUgraph) := ⟨rfl, rfl, rfl, by decide +kernel, rfl, by decide +kernel, by decide +kernel⟩
def m_checkUgraph : M Fl :=
  (seqM (ifS (notM (truM (.v 9) (callF F_isUgraphUby [.fz] [.v 0] (consM (slotM 0) (M.pure [])))))
    (seqM (fun _ => .bad)
    nxM)
    nxM)
    nxM)
def F_checkUgraph : List DV → Res := runF N_checkUgraph.length (ioP 0 [.fz]) m_checkUgraph
section
variable {P : Program} {w : World} {K : PySem.W.Frag} {mg : Str → Option Value} {base : Heap} {f : Addr} {fd : FuncData} {Z : ClT}
theorem b_checkUgraph (G_is_graph_by : Has P w K mg base 4 "is_graph_by" ["value"] Z [.fz] 9 F_isUgraphUby) : BodyD P w K mg base 4 N_checkUgraph "check_graph" s_checkUgraph f Z [.fz] 9 m_checkUgraph := by
  intro cdv A outer s H E hr hgd tk po
  have hu80 := units80 hr
  have hu70 := units70 hr
  have hu65 := units65 hr
  have hu64 := units64 hr
  refine ⟨⟨[0], [0], [0]⟩, rfl, ?_⟩
  exact (gSeq ⟨[0], [0], [0]⟩ (gIfS (ψ1 := ⟨[0], [0], [0]⟩) (ψ2 := ⟨[0], [0], [0]⟩) (jt_not (gTru (gCall G_is_graph_by hr hgd tk (gCons (ge 0) ja_nil))))
    (gSeq ⟨[0], [0], [0]⟩ js_bad
    gNil)
    gNil)
    gNil)
theorem h_checkUgraph (fn : Fun K "check_graph" "check_graph" s_checkUgraph f fd) (hm : mg "check_graph" = some (.ref f)) (G_is_graph_by : Has P w K mg base 4 "is_graph_by" ["value"] Z [.fz] 9 F_isUgraphUby) : Has P w K mg base 5 "check_graph" ["value"] Z [.fz] 9 F_checkUgraph :=
  has_of fn hm S_checkUgraph (fun _ _ _ _ _ _ l hl => match l, hl with
    | [_], _ => fun i hi => match i, hi with
      | 0, _ => rfl
      | 1, _ => rfl
      | n + 2, h => absurd h (by show ¬ n + 2 ≤ 1; omega)) rfl (b_checkUgraph G_is_graph_by)
end
abbrev s_shownUedge : Stmt := top 23
abbrev N_shownUedge : List Str := ["edge"]
theorem n_shownUedge : N_shownUedge.Nodup := by decide
theorem S_shownUedge : FnScope N_shownUedge ["edge"] (defScope s_shownUedge) := ⟨rfl, rfl, rfl, by decide +kernel, rfl, by decide +kernel, by decide +kernel⟩
def m_shownUedge : M Fl :=
  (seqM (retM [] (op2 (lift2 addP) (.v 1) (.v 9) (op2 (lift2 addP) (.v 9) (.v 9) (callM (oneD strP) [.v 0] (consM (op2 ixD (.sl 0) (.v 9) (slotM 0) (M.pure (.d (.int 0)))) (M.pure []))) (M.pure (.d (.str ("-" : Str))))) (callM (oneD strP) [.v 0] (consM (op2 ixD (.sl 0) (.v 9) (slotM 0) (M.pure (.d (.int 1)))) (M.pure [])))))
    nxM)
def F_shownUedge : List DV → Res := runF N_shownUedge.length (ioP 0 [.fz]) m_shownUedge
section
variable {P : Program} {w : World} {K : PySem.W.Frag} {mg : Str → Option Value} {base : Heap} {f : Addr} {fd : FuncData} {Z : ClT}
theorem b_shownUedge (z_str : mg "str" = none) : BodyD P w K mg base 0 N_shownUedge "shown_edge" s_shownUedge f Z [.fz] 1 m_shownUedge := by
  intro cdv A outer s H E hr hgd tk po
  have hu80 := units80 hr
  have hu70 := units70 hr
  have hu65 := units65 hr
  have hu64 := units64 hr
  refine ⟨⟨[0], [0], [0]⟩, rfl, ?_⟩
  exact (gSeq ⟨[0], [0], [0]⟩ (gRet (je_bin op_addD (je_bin op_addD (gCallT cd_str z_str (gCons (gIx op_ixD (gv 0) gi) ja_nil)) gs) (gCallT cd_str z_str (gCons (gIx op_ixD (gv 0) gi) ja_nil))))
    gNil)
theorem h_shownUedge (fn : Fun K "shown_edge" "shown_edge" s_shownUedge f fd) (hm : mg "shown_edge" = some (.ref f)) (z_str : mg "str" = none) : Has P w K mg base 1 "shown_edge" ["edge"] Z [.fz] 1 F_shownUedge :=
  has_of fn hm S_shownUedge (fun _ _ _ _ _ _ l hl => match l, hl with
    | [_], _ => fun i hi => match i, hi with
      | 0, _ => rfl
      | 1, _ => rfl
      | n + 2, h => absurd h (by show ¬ n + 2 ≤ 1; omega)) rfl (b_shownUedge z_str)
end
abbrev s_shownUby : Stmt := top 24
abbrev N_shownUby : List Str := ["graph", "edge"]
theorem n_shownUby : N_shownUby.Nodup := by decide
theorem S_shownUby : FnScope N_shownUby ["graph"] (defScope s_shownUby) := ⟨rfl, rfl, rfl, by decide +kernel, rfl, by decide +kernel, by decide +kernel⟩
def m_shownUby : M Fl :=
  (seqM (retM [] (mthM "str" joinD (.v 9) (M.pure (.d (.str (" " : Str)))) [.v 1] (consM (op2 (lift2 addP) (.v 2) (.v 2) (dispM .list (consM (op2 (lift2 addP) (.v 9) (.v 9) (callM (oneD strP) [.v 0] (consM (op2 ixD (.sl 0) (.v 9) (slotM 0) (M.pure (.d (.int 0)))) (M.pure []))) (M.pure (.d (.str (":" : Str))))) (M.pure []))) (compM (.nm 1) [1] (seqI (op2 ixD (.sl 0) (.v 9) (slotM 0) (M.pure (.d (.int 1))))) (M.pure true) (callF F_shownUedge [.fz] [.v 0] (consM (slotM 1) (M.pure []))))) (M.pure []))))
    nxM)
def F_shownUby : List DV → Res := runF N_shownUby.length (ioP 0 [.fz]) m_shownUby
section
variable {P : Program} {w : World} {K : PySem.W.Frag} {mg : Str → Option Value} {base : Heap} {f : Addr} {fd : FuncData} {Z : ClT}
theorem b_shownUby (z_str : mg "str" = none) (G_shown_edge : Has P w K mg base 1 "shown_edge" ["edge"] Z [.fz] 1 F_shownUedge) : BodyD P w K mg base 1 N_shownUby "shown_by" s_shownUby f Z [.fz] 9 m_shownUby := by
  intro cdv A outer s H E hr hgd tk po
  have hu80 := units80 hr
  have hu70 := units70 hr
  have hu65 := units65 hr
  have hu64 := units64 hr
  refine ⟨⟨[0, 0], [0, 0], [0, 0]⟩, rfl, ?_⟩
  exact (gSeq ⟨[0, 0], [0, 0], [0, 0]⟩ (gRet (gMeth PySem.F.plainAttrs_str PySem.F.slot_str_join PySem.F.type_str_join mth_join gs (gCons (je_bin op_addD (gLst 1 (gCons (je_bin op_addD (gCallT cd_str z_str (gCons (gIx op_ixD (gv 0) gi) ja_nil)) gs) ja_nil)) (gLc [("edge", 1)] [0, 0] n_shownUby (blk_mk (by rfl)) (ji_seq (gIx op_ixD (gv 0) gi)) (fun _ _ _ _ _ => (gTgN 1 n_shownUby)) (fun _ _ _ _ _ => jts_nil) (fun _ _ _ _ _ => (gCall G_shown_edge hr hgd tk0 (gCons (ge 1) ja_nil))))) ja_nil)))
    gNil)
theorem h_shownUby (fn : Fun K "shown_by" "shown_by" s_shownUby f fd) (hm : mg "shown_by" = some (.ref f)) (z_str : mg "str" = none) (G_shown_edge : Has P w K mg base 1 "shown_edge" ["edge"] Z [.fz] 1 F_shownUedge) : Has P w K mg base 2 "shown_by" ["graph"] Z [.fz] 9 F_shownUby :=
  has_of fn hm S_shownUby (fun _ _ _ _ _ _ l hl => match l, hl with
    | [_], _ => fun i hi => match i, hi with
      | 0, _ => rfl
      | 1, _ => rfl
      | n + 2, h => absurd h (by show ¬ n + 2 ≤ 1; omega)) rfl (b_shownUby z_str G_shown_edge)
end
abbrev s_showUgraph : Stmt := top 26
abbrev N_showUgraph : List Str := ["graph"]
theorem n_showUgraph : N_showUgraph.Nodup := by decide
theorem S_showUgraph : FnScope N_showUgraph ["graph"] (defScope s_showUgraph) := ⟨rfl, rfl, rfl, by decide +kernel, rfl, by decide +kernel, by decide +kernel⟩
def m_showUgraph : M Fl :=
  (seqM (dropM (callF F_checkUgraph [.fz] [.v 0] (consM (slotM 0) (M.pure []))))
    (seqM (retM [] (callF F_shownUby [.fz] [.v 0] (consM (slotM 0) (M.pure []))))
    nxM))
def F_showUgraph : List DV → Res := runF N_showUgraph.length (ioP 0 [.fz]) m_showUgraph
section
variable {P : Program} {w : World} {K : PySem.W.Frag} {mg : Str → Option Value} {base : Heap} {f : Addr} {fd : FuncData} {Z : ClT}
theorem b_showUgraph (G_check_graph : Has P w K mg base 5 "check_graph" ["value"] Z [.fz] 9 F_checkUgraph) (G_shown_by : Has P w K mg base 2 "shown_by" ["graph"] Z [.fz] 9 F_shownUby) : BodyD P w K mg base 5 N_showUgraph "show_graph" s_showUgraph f Z [.fz] 9 m_showUgraph := by
  intro cdv A outer s H E hr hgd tk po
  have hu80 := units80 hr
  have hu70 := units70 hr
  have hu65 := units65 hr
  have hu64 := units64 hr
  refine ⟨⟨[0], [0], [0]⟩, rfl, ?_⟩
  exact (gSeq ⟨[0], [0], [0]⟩ (gExpr (gCall G_check_graph hr hgd tk (gCons (ge 0) ja_nil)))
    (gSeq ⟨[0], [0], [0]⟩ (gRet (gCall G_shown_by hr hgd tk (gCons (ge 0) ja_nil)))
    gNil))
theorem h_showUgraph (fn : Fun K "show_graph" "show_graph" s_showUgraph f fd) (hm : mg "show_graph" = some (.ref f)) (G_check_graph : Has P w K mg base 5 "check_graph" ["value"] Z [.fz] 9 F_checkUgraph) (G_shown_by : Has P w K mg base 2 "shown_by" ["graph"] Z [.fz] 9 F_shownUby) : Has P w K mg base 6 "show_graph" ["graph"] Z [.fz] 9 F_showUgraph :=
  has_of fn hm S_showUgraph (fun _ _ _ _ _ _ l hl => match l, hl with
    | [_], _ => fun i hi => match i, hi with
      | 0, _ => rfl
      | 1, _ => rfl
      | n + 2, h => absurd h (by show ¬ n + 2 ≤ 1; omega)) rfl (b_showUgraph G_check_graph G_shown_by)
end
abbrev s_wordsUof : Stmt := top 18
abbrev N_wordsUof : List Str := ["line", "word"]
theorem n_wordsUof : N_wordsUof.Nodup := by decide
theorem S_wordsUof : FnScope N_wordsUof ["line"] (defScope s_wordsUof) := ⟨rfl, rfl, rfl, by decide +kernel, rfl, by decide +kernel, by decide +kernel⟩
def m_wordsUof : M Fl :=
  (seqM (retM [] (compM (.nm 1) [1] (seqI (mthM "str" splitD (.sl 0) (slotM 0) [.v 9] (consM (M.pure (.d (.str (" " : Str)))) (M.pure [])))) (asB (.v 9) (op2 (lift2 neP) (.sl 1) (.v 9) (slotM 1) (M.pure (.d (.str ("" : Str)))))) (slotM 1)))
    nxM)
def F_wordsUof : List DV → Res := runF N_wordsUof.length (ioP 0 [.fz]) m_wordsUof
section
variable {P : Program} {w : World} {K : PySem.W.Frag} {mg : Str → Option Value} {base : Heap} {f : Addr} {fd : FuncData} {Z : ClT}
theorem b_wordsUof  : BodyD P w K mg base 0 N_wordsUof "words_of" s_wordsUof f Z [.fz] 1 m_wordsUof := by
  intro cdv A outer s H E hr hgd tk po
  have hu80 := units80 hr
  have hu70 := units70 hr
  have hu65 := units65 hr
  have hu64 := units64 hr
  refine ⟨⟨[0, 0], [0, 0], [0, 0]⟩, rfl, ?_⟩
  exact (gSeq ⟨[0, 0], [0, 0], [0, 0]⟩ (gRet (gLc [("word", 1)] [0, 0] n_wordsUof (blk_mk (by rfl)) (ji_seq (gMeth PySem.F.plainAttrs_str PySem.F.slot_str_split PySem.F.type_str_split mth_split (gv 0) (gCons gs ja_nil))) (fun _ _ _ _ _ => (gTgN 1 n_wordsUof)) (fun _ _ _ _ _ => (jts_one (gCmpT (op_neDD hu64) (gv 1) gs))) (fun _ _ _ _ _ => (ge 1))))
    gNil)
theorem h_wordsUof (fn : Fun K "words_of" "words_of" s_wordsUof f fd) (hm : mg "words_of" = some (.ref f))  : Has P w K mg base 1 "words_of" ["line"] Z [.fz] 1 F_wordsUof :=
  has_of fn hm S_wordsUof (fun _ _ _ _ _ _ l hl => match l, hl with
    | [_], _ => fun i hi => match i, hi with
      | 0, _ => rfl
      | 1, _ => rfl
      | n + 2, h => absurd h (by show ¬ n + 2 ≤ 1; omega)) rfl (b_wordsUof )
end
abbrev s_numberUin : Stmt := top 19
abbrev N_numberUin : List Str := ["word", "sign"]
theorem n_numberUin : N_numberUin.Nodup := by decide
theorem S_numberUin : FnScope N_numberUin ["word"] (defScope s_numberUin) := ⟨rfl, rfl, rfl, by decide +kernel, rfl, by decide +kernel, by decide +kernel⟩
def m_numberUin : M Fl :=
  (seqM (ifS (orM (notM (asB (.v 9) (chM (lift2 (cmpP .LtE)) (lift2 (cmpP .LtE)) (.v 9) (.v 9) (.v 9) (M.pure (.d (.int 1))) (callM lenD [.sl 0] (consM (slotM 0) (M.pure []))) (M.pure (.d (.int 2)))))) (notM (truM (.v 9) (callM (oneD allP) [.v 10] (consM (compM (.nm 1) [1] (seqI (slotM 0)) (M.pure true) (op2 (lift2 inP) (.sl 1) (.v 9) (slotM 1) (M.pure (.d (.str ("0123456789" : Str)))))) (M.pure []))))))
    (seqM (retM [] (dispM .list (M.pure [])))
    nxM)
    nxM)
    (seqM (retM [] (ifM (orM (asB (.v 9) (op2 (lift2 eqP) (.sl 0) (.v 9) (slotM 0) (M.pure (.d (.str ("0" : Str)))))) (asB (.v 9) (op2 (lift2 neP) (.v 0) (.v 9) (op2 ixD (.sl 0) (.v 9) (slotM 0) (M.pure (.d (.int 0)))) (M.pure (.d (.str ("0" : Str))))))) (dispM .list (consM (callM (oneD intP) [.sl 0] (consM (slotM 0) (M.pure []))) (M.pure []))) (dispM .list (M.pure []))))
    nxM))
def F_numberUin : List DV → Res := runF N_numberUin.length (ioP 0 [.fz]) m_numberUin
section
variable {P : Program} {w : World} {K : PySem.W.Frag} {mg : Str → Option Value} {base : Heap} {f : Addr} {fd : FuncData} {Z : ClT}
theorem b_numberUin (z_all : mg "all" = none) (z_int : mg "int" = none) (z_len : mg "len" = none) {t_FIGURES : Tok} (c_FIGURES : mg "FIGURES" = some (.str ("0123456789" : Str) t_FIGURES)) {t_MOST_FIGURES : Tok} (c_MOST_FIGURES : mg "MOST_FIGURES" = some (.int 2 t_MOST_FIGURES)) : BodyD P w K mg base 0 N_numberUin "number_in" s_numberUin f Z [.fz] 9 m_numberUin := by
  intro cdv A outer s H E hr hgd tk po
  have hu80 := units80 hr
  have hu70 := units70 hr
  have hu65 := units65 hr
  have hu64 := units64 hr
  refine ⟨⟨[0, 0], [0, 0], [0, 0]⟩, rfl, ?_⟩
  exact (gSeq ⟨[0, 0], [0, 0], [0, 0]⟩ (gIfS (ψ1 := ⟨[0, 0], [0, 0], [0, 0]⟩) (ψ2 := ⟨[0, 0], [0, 0], [0, 0]⟩) (jt_w (gOr (jt_not (gChainT (φ' := [0, 0]) (op_ordD rfl hu80) (op_ordD rfl hu80) gi (gCallB cd_len z_len (gCons (gv 0) ja_nil)) (gGi c_MOST_FIGURES))) (jw_or1 (jt_not (gTru (gCallB (cd_all rfl) z_all (gCons (gLc [("sign", 1)] [0, 0] n_numberUin (blk_mk (by rfl)) (ji_seq (ge 0)) (fun _ _ _ _ _ => (gTgN 1 n_numberUin)) (fun _ _ _ _ _ => jts_nil) (fun _ _ _ _ _ => (gCmp (op_inDD hu65) (gv 1) (gGs c_FIGURES)))) ja_nil)))))))
    (gSeq ⟨[0, 0], [0, 0], [0, 0]⟩ (gRet (gLst 8 ja_nil))
    gNil)
    gNil)
    (gSeq ⟨[0, 0], [0, 0], [0, 0]⟩ (gRet (gIf [0, 0] 9 (jt_w (gOr (gCmpT (op_eqDD hu64) (gv 0) gs) (jw_or1 (gCmpT (op_neDD hu64) (gIx op_ixD (gv 0) gi) gs)))) (gLst 9 (gCons (gCallT cd_int z_int (gCons (gv 0) ja_nil)) ja_nil)) (gLst 8 ja_nil)))
    gNil))
theorem h_numberUin (fn : Fun K "number_in" "number_in" s_numberUin f fd) (hm : mg "number_in" = some (.ref f)) (z_all : mg "all" = none) (z_int : mg "int" = none) (z_len : mg "len" = none) {t_FIGURES : Tok} (c_FIGURES : mg "FIGURES" = some (.str ("0123456789" : Str) t_FIGURES)) {t_MOST_FIGURES : Tok} (c_MOST_FIGURES : mg "MOST_FIGURES" = some (.int 2 t_MOST_FIGURES)) : Has P w K mg base 1 "number_in" ["word"] Z [.fz] 9 F_numberUin :=
  has_of fn hm S_numberUin (fun _ _ _ _ _ _ l hl => match l, hl with
    | [_], _ => fun i hi => match i, hi with
      | 0, _ => rfl
      | 1, _ => rfl
      | n + 2, h => absurd h (by show ¬ n + 2 ≤ 1; omega)) rfl (b_numberUin z_all z_int z_len c_FIGURES c_MOST_FIGURES)
end
abbrev s_verticesUin : Stmt := top 20
abbrev N_verticesUin : List Str := ["word", "each"]
theorem n_verticesUin : N_verticesUin.Nodup := by decide
theorem S_verticesUin : FnScope N_verticesUin ["word"] (defScope s_verticesUin) := ⟨rfl, rfl, rfl, by decide +kernel, rfl, by decide +kernel, by decide +kernel⟩
def m_verticesUin : M Fl :=
  (seqM (ifS (asB (.v 9) (op2 (lift2 neP) (.v 0) (.v 9) (op2 ixD (.sl 0) (.v 9) (slotM 0) (un1 (lift1 negP) (.v 9) (M.pure (.d (.int 1))))) (M.pure (.d (.str (":" : Str))))))
    (seqM (retM [] (dispM .list (M.pure [])))
    nxM)
    nxM)
    (seqM (retM [] (compM (.nm 1) [1] (seqI (callF F_numberUin [.fz] [.v 1] (consM (slM (.sl 0) (slotM 0) (M.pure none) (someI (.v 9) (un1 (lift1 negP) (.v 9) (M.pure (.d (.int 1)))))) (M.pure [])))) (asB (.v 9) (chM (lift2 (cmpP .LtE)) (lift2 (cmpP .LtE)) (.v 9) (.sl 1) (.v 9) (M.pure (.d (.int 1))) (slotM 1) (M.pure (.d (.int 10))))) (slotM 1)))
    nxM))
def F_verticesUin : List DV → Res := runF N_verticesUin.length (ioP 0 [.fz]) m_verticesUin
section
variable {P : Program} {w : World} {K : PySem.W.Frag} {mg : Str → Option Value} {base : Heap} {f : Addr} {fd : FuncData} {Z : ClT}
theorem b_verticesUin {t_MOST_VERTICES : Tok} (c_MOST_VERTICES : mg "MOST_VERTICES" = some (.int 10 t_MOST_VERTICES)) (G_number_in : Has P w K mg base 1 "number_in" ["word"] Z [.fz] 9 F_numberUin) : BodyD P w K mg base 1 N_verticesUin "vertices_in" s_verticesUin f Z [.fz] 1 m_verticesUin := by
  intro cdv A outer s H E hr hgd tk po
  have hu80 := units80 hr
  have hu70 := units70 hr
  have hu65 := units65 hr
  have hu64 := units64 hr
  refine ⟨⟨[0, 0], [0, 0], [0, 0]⟩, rfl, ?_⟩
  exact (gSeq ⟨[0, 0], [0, 0], [0, 0]⟩ (gIfS (ψ1 := ⟨[0, 0], [0, 0], [0, 0]⟩) (ψ2 := ⟨[0, 0], [0, 0], [0, 0]⟩) (gCmpT (op_neDD hu64) (gIx op_ixD (gv 0) (gNeg gi)) gs)
    (gSeq ⟨[0, 0], [0, 0], [0, 0]⟩ (gRet (gLst 8 ja_nil))
    gNil)
    gNil)
    (gSeq ⟨[0, 0], [0, 0], [0, 0]⟩ (gRet (gLc [("each", 1)] [0, 0] n_verticesUin (blk_mk (by rfl)) (ji_seq (gCall G_number_in hr hgd tk (gCons (gSlice (gv 0) jo_none (jo_some (gNeg gi))) ja_nil))) (fun _ _ _ _ _ => (gTgN 1 n_verticesUin)) (fun _ _ _ _ _ => (jts_one (gChainT (φ' := [0, 0]) (op_ordD rfl hu80) (op_ordD rfl hu80) gi (gv 1) (gGi c_MOST_VERTICES)))) (fun _ _ _ _ _ => (ge 1))))
    gNil))
theorem h_verticesUin (fn : Fun K "vertices_in" "vertices_in" s_verticesUin f fd) (hm : mg "vertices_in" = some (.ref f)) {t_MOST_VERTICES : Tok} (c_MOST_VERTICES : mg "MOST_VERTICES" = some (.int 10 t_MOST_VERTICES)) (G_number_in : Has P w K mg base 1 "number_in" ["word"] Z [.fz] 9 F_numberUin) : Has P w K mg base 2 "vertices_in" ["word"] Z [.fz] 1 F_verticesUin :=
  has_of fn hm S_verticesUin (fun _ _ _ _ _ _ l hl => match l, hl with
    | [_], _ => fun i hi => match i, hi with
      | 0, _ => rfl
      | 1, _ => rfl
      | n + 2, h => absurd h (by show ¬ n + 2 ≤ 1; omega)) rfl (b_verticesUin c_MOST_VERTICES G_number_in)
end
abbrev s_endsUin : Stmt := top 21
abbrev N_endsUin : List Str := ["word", "vertices", "parts", "one", "two", "part"]
theorem n_endsUin : N_endsUin.Nodup := by decide
theorem S_endsUin : FnScope N_endsUin ["word", "vertices"] (defScope s_endsUin) := ⟨rfl, rfl, rfl, by decide +kernel, rfl, by decide +kernel, by decide +kernel⟩
def m_endsUin : M Fl :=
  (seqM (setM 2 (compM (.nm 5) [5] (seqI (mthM "str" splitD (.sl 0) (slotM 0) [.v 9] (consM (M.pure (.d (.str ("-" : Str)))) (M.pure [])))) (M.pure true) (callF F_numberUin [.fz] [.v 0] (consM (slotM 5) (M.pure [])))))
    (seqM (ifS (orM (asB (.v 9) (op2 (lift2 neP) (.v 9) (.v 9) (callM lenD [.sl 2] (consM (slotM 2) (M.pure []))) (M.pure (.d (.int 2))))) (asB (.v 9) (op2 (lift2 inP) (.v 9) (.sl 2) (dispM .list (M.pure [])) (slotM 2))))
    (seqM (retM [] (dispM .list (M.pure [])))
    nxM)
    nxM)
    (seqM (parM 3 4 (consM (op2 ixD (.v 0) (.v 9) (op2 ixD (.sl 2) (.v 9) (slotM 2) (M.pure (.d (.int 0)))) (M.pure (.d (.int 0)))) (consM (op2 ixD (.v 0) (.v 9) (op2 ixD (.sl 2) (.v 9) (slotM 2) (M.pure (.d (.int 1)))) (M.pure (.d (.int 0)))) (M.pure []))))
    (seqM (retM [] (ifM (andM (asB (.v 9) (op2 (lift2 neP) (.sl 3) (.sl 4) (slotM 3) (slotM 4))) (asB (.v 9) (op2 (lift2 (cmpP .Lt)) (.v 9) (.sl 1) (callM (twoD maxP) [.sl 3, .sl 4] (consM (slotM 3) (consM (slotM 4) (M.pure [])))) (slotM 1)))) (dispM .list (consM (dispM .tuple (consM (slotM 3) (consM (slotM 4) (M.pure [])))) (M.pure []))) (dispM .list (M.pure []))))
    nxM))))
def F_endsUin : List DV → Res := runF N_endsUin.length (ioP 0 [.fz, .fz]) m_endsUin
section
variable {P : Program} {w : World} {K : PySem.W.Frag} {mg : Str → Option Value} {base : Heap} {f : Addr} {fd : FuncData} {Z : ClT}
theorem b_endsUin (z_len : mg "len" = none) (z_max : mg "max" = none) (G_number_in : Has P w K mg base 1 "number_in" ["word"] Z [.fz] 9 F_numberUin) : BodyD P w K mg base 1 N_endsUin "ends_in" s_endsUin f Z [.fz, .fz] 2 m_endsUin := by
  intro cdv A outer s H E hr hgd tk po
  have hu80 := units80 hr
  have hu70 := units70 hr
  have hu65 := units65 hr
  have hu64 := units64 hr
  refine ⟨⟨[0, 0, 0, 0, 0, 0], [0, 0, 0, 0, 0, 0], [0, 0, 0, 0, 0, 0]⟩, rfl, ?_⟩
  exact (gSeq ⟨[0, 0, 10, 0, 0, 0], [0, 0, 0, 0, 0, 0], [0, 0, 0, 0, 0, 0]⟩ (gSetLc 2 [("part", 5)] [0, 0, 0, 0, 0, 0] n_endsUin (blk_mk (by rfl)) (ji_seq (gMeth PySem.F.plainAttrs_str PySem.F.slot_str_split PySem.F.type_str_split mth_split (gv 0) (gCons gs ja_nil))) (fun _ _ _ _ _ => (gTgN 5 n_endsUin)) (fun _ _ _ _ _ => jts_nil) (fun _ _ _ _ _ => (gCall G_number_in hr hgd tk0 (gCons (ge 5) ja_nil))))
    (gSeq ⟨[0, 0, 9, 0, 0, 0], [0, 0, 0, 0, 0, 0], [0, 0, 0, 0, 0, 0]⟩ (gIfS (ψ1 := ⟨[0, 0, 9, 0, 0, 0], [0, 0, 0, 0, 0, 0], [0, 0, 0, 0, 0, 0]⟩) (ψ2 := ⟨[0, 0, 9, 0, 0, 0], [0, 0, 0, 0, 0, 0], [0, 0, 0, 0, 0, 0]⟩) (jt_w (gOr (gCmpT (op_neDD hu64) (gCallB cd_len z_len (gCons (gv 2) ja_nil)) gi) (jw_or1 (gCmpT (op_inDD hu65) (gLst 8 ja_nil) (gv 2)))))
    (gSeq ⟨[0, 0, 9, 0, 0, 0], [0, 0, 0, 0, 0, 0], [0, 0, 0, 0, 0, 0]⟩ (gRet (gLst 8 ja_nil))
    gNil)
    gNil)
    (gSeq ⟨[0, 0, 1, 0, 0, 0], [0, 0, 0, 0, 0, 0], [0, 0, 0, 0, 0, 0]⟩ (gPar 3 4 n_endsUin (gCons (gIx op_ixD (gIx op_ixD (gv 2) gi) gi) (gCons (gIx op_ixD (gIx op_ixD (gv 2) gi) gi) ja_nil)))
    (gSeq ⟨[0, 0, 0, 0, 0, 0], [0, 0, 0, 0, 0, 0], [0, 0, 0, 0, 0, 0]⟩ (gRet (gIf [0, 0, 1, 0, 0, 0] 2 (jt_w (gAnd (gCmpT (op_neDD hu64) (gv 3) (gv 4)) (jw_and1 (gCmpT (op_ordD rfl hu80) (gCallB (cd_max rfl) z_max (gCons (gv 3) (gCons (gv 4) ja_nil))) (gv 1))))) (gLst 1 (gCons (gTup 0 (gCons (ge 3) (gCons (ge 4) ja_nil))) ja_nil)) (gLst 8 ja_nil)))
    gNil))))
theorem h_endsUin (fn : Fun K "ends_in" "ends_in" s_endsUin f fd) (hm : mg "ends_in" = some (.ref f)) (z_len : mg "len" = none) (z_max : mg "max" = none) (G_number_in : Has P w K mg base 1 "number_in" ["word"] Z [.fz] 9 F_numberUin) : Has P w K mg base 2 "ends_in" ["word", "vertices"] Z [.fz, .fz] 2 F_endsUin :=
  has_of fn hm S_endsUin (fun _ _ _ _ _ _ l hl => match l, hl with
    | [_, _], _ => fun i hi => match i, hi with
      | 0, _ => rfl
      | 1, _ => rfl
      | 2, _ => rfl
      | n + 3, h => absurd h (by show ¬ n + 3 ≤ 2; omega)) rfl (b_endsUin z_len z_max G_number_in)
end
abbrev s_edgeUbetween : Stmt := top 14
abbrev N_edgeUbetween : List Str := ["one", "two"]
theorem n_edgeUbetween : N_edgeUbetween.Nodup := by decide
theorem S_edgeUbetween : FnScope N_edgeUbetween ["one", "two"] (defScope s_edgeUbetween) := ⟨rfl, rfl, rfl, by decide +kernel, rfl, by decide +kernel, by decide +kernel⟩
def m_edgeUbetween : M Fl :=
  (seqM (retM [] (ifM (asB (.v 9) (op2 (lift2 (cmpP .Lt)) (.sl 0) (.sl 1) (slotM 0) (slotM 1))) (dispM .tuple (consM (slotM 0) (consM (slotM 1) (M.pure [])))) (dispM .tuple (consM (slotM 1) (consM (slotM 0) (M.pure []))))))
    nxM)
def F_edgeUbetween : List DV → Res := runF N_edgeUbetween.length (ioP 0 [.fz, .fz]) m_edgeUbetween
section
variable {P : Program} {w : World} {K : PySem.W.Frag} {mg : Str → Option Value} {base : Heap} {f : Addr} {fd : FuncData} {Z : ClT}
theorem b_edgeUbetween  : BodyD P w K mg base 0 N_edgeUbetween "edge_between" s_edgeUbetween f Z [.fz, .fz] 1 m_edgeUbetween := by
  intro cdv A outer s H E hr hgd tk po
  have hu80 := units80 hr
  have hu70 := units70 hr
  have hu65 := units65 hr
  have hu64 := units64 hr
  refine ⟨⟨[0, 0], [0, 0], [0, 0]⟩, rfl, ?_⟩
  exact (gSeq ⟨[0, 0], [0, 0], [0, 0]⟩ (gRet (gIf [0, 0] 1 (gCmpT (op_ordD rfl hu80) (gv 0) (gv 1)) (gTup 0 (gCons (ge 0) (gCons (ge 1) ja_nil))) (gTup 0 (gCons (ge 1) (gCons (ge 0) ja_nil)))))
    gNil)
theorem h_edgeUbetween (fn : Fun K "edge_between" "edge_between" s_edgeUbetween f fd) (hm : mg "edge_between" = some (.ref f))  : Has P w K mg base 1 "edge_between" ["one", "two"] Z [.fz, .fz] 1 F_edgeUbetween :=
  has_of fn hm S_edgeUbetween (fun _ _ _ _ _ _ l hl => match l, hl with
    | [_, _], _ => fun i hi => match i, hi with
      | 0, _ => rfl
      | 1, _ => rfl
      | 2, _ => rfl
      | n + 3, h => absurd h (by show ¬ n + 3 ≤ 2; omega)) rfl (b_edgeUbetween )
end
abbrev s_readUby : Stmt := top 22
abbrev N_readUby : List Str := ["text", "words", "edges", "told", "index", "word", "ends"]
theorem n_readUby : N_readUby.Nodup := by decide
theorem S_readUby : FnScope N_readUby ["text"] (defScope s_readUby) := ⟨rfl, rfl, rfl, by decide +kernel, rfl, by decide +kernel, by decide +kernel⟩
def m_readUby : M Fl :=
  (seqM (parM 1 2 (consM (callF F_wordsUof [.fz] [.v 0] (consM (slotM 0) (M.pure []))) (consM (dispM .list (M.pure [])) (M.pure []))))
    (seqM (setM 3 (ifM (asB (.v 9) (op2 (lift2 neP) (.sl 1) (.v 9) (slotM 1) (dispM .list (M.pure [])))) (callF F_verticesUin [.fz] [.v 0] (consM (op2 ixD (.sl 1) (.v 9) (slotM 1) (M.pure (.d (.int 0)))) (M.pure []))) (dispM .list (M.pure []))))
    (seqM (ifS (asB (.v 9) (op2 (lift2 eqP) (.sl 3) (.v 9) (slotM 3) (dispM .list (M.pure []))))
    (seqM (retM [] (M.pure (.d (.int 0))))
    nxM)
    nxM)
    (seqM (forS (.tp [4, 5]) (fun env => ((slM (.sl 1) (slotM 1) (someI (.v 9) (M.pure (.d (.int 1)))) (M.pure none)) env).bind fun d e => .ofO (enumD d) e)
    (seqM (setM 6 (ifM (asB (.v 9) (op2 (lift2 (cmpP .Lt)) (.v 9) (.v 9) (callM lenD [.sl 2] (consM (slotM 2) (M.pure []))) (M.pure (.d (.int 24))))) (callF F_endsUin [.fz, .fz] [.v 0, .v 0] (consM (slotM 5) (consM (op2 ixD (.sl 3) (.v 9) (slotM 3) (M.pure (.d (.int 0)))) (M.pure [])))) (dispM .list (M.pure []))))
    (seqM (ifS (orM (asB (.v 9) (op2 (lift2 eqP) (.sl 6) (.v 9) (slotM 6) (dispM .list (M.pure [])))) (asB (.v 9) (op2 (lift2 inP) (.v 1) (.sl 2) (callF F_edgeUbetween [.fz, .fz] [.v 0, .v 0] (consM (op2 ixD (.v 0) (.v 9) (op2 ixD (.sl 6) (.v 9) (slotM 6) (M.pure (.d (.int 0)))) (M.pure (.d (.int 0)))) (consM (op2 ixD (.v 0) (.v 9) (op2 ixD (.sl 6) (.v 9) (slotM 6) (M.pure (.d (.int 0)))) (M.pure (.d (.int 1)))) (M.pure [])))) (slotM 2))))
    (seqM (retM [] (op2 (lift2 addP) (.sl 4) (.v 9) (slotM 4) (M.pure (.d (.int 1)))))
    nxM)
    nxM)
    (seqM (dropM (apM 2 (callF F_edgeUbetween [.fz, .fz] [.v 0, .v 0] (consM (op2 ixD (.v 0) (.v 9) (op2 ixD (.sl 6) (.v 9) (slotM 6) (M.pure (.d (.int 0)))) (M.pure (.d (.int 0)))) (consM (op2 ixD (.v 0) (.v 9) (op2 ixD (.sl 6) (.v 9) (slotM 6) (M.pure (.d (.int 0)))) (M.pure (.d (.int 1)))) (M.pure []))))))
    nxM))))
    (seqM (retM [] (dispM .tuple (consM (op2 ixD (.sl 3) (.v 9) (slotM 3) (M.pure (.d (.int 0)))) (consM (callM (oneD tupleP) [.v 1] (consM (callM (oneD sortP) [.sl 2] (consM (slotM 2) (M.pure []))) (M.pure []))) (M.pure [])))))
    nxM)))))
def F_readUby : List DV → Res := runF N_readUby.length (ioP 0 [.fz]) m_readUby
section
variable {P : Program} {w : World} {K : PySem.W.Frag} {mg : Str → Option Value} {base : Heap} {f : Addr} {fd : FuncData} {Z : ClT}
theorem b_readUby (z_enumerate : mg "enumerate" = none) (z_len : mg "len" = none) (z_sorted : mg "sorted" = none) (z_tuple : mg "tuple" = none) {t_MOST_EDGES : Tok} (c_MOST_EDGES : mg "MOST_EDGES" = some (.int 24 t_MOST_EDGES)) (G_words_of : Has P w K mg base 1 "words_of" ["line"] Z [.fz] 1 F_wordsUof) (G_vertices_in : Has P w K mg base 2 "vertices_in" ["word"] Z [.fz] 1 F_verticesUin) (G_ends_in : Has P w K mg base 2 "ends_in" ["word", "vertices"] Z [.fz, .fz] 2 F_endsUin) (G_edge_between : Has P w K mg base 1 "edge_between" ["one", "two"] Z [.fz, .fz] 1 F_edgeUbetween) : BodyD P w K mg base 2 N_readUby "read_by" s_readUby f Z [.fz] 1 m_readUby := by
  intro cdv A outer s H E hr hgd tk po
  have hu80 := units80 hr
  have hu70 := units70 hr
  have hu65 := units65 hr
  have hu64 := units64 hr
  refine ⟨⟨[0, 0, 0, 0, 0, 0, 0], [0, 0, 0, 0, 0, 0, 0], [0, 0, 0, 0, 0, 0, 0]⟩, rfl, ?_⟩
  exact (gSeq ⟨[0, 1, 9, 0, 0, 0, 0], [0, 0, 0, 0, 0, 0, 0], [0, 0, 0, 0, 0, 0, 0]⟩ (gPar 1 2 n_readUby (gCons (gCall G_words_of hr hgd tk (gCons (ge 0) ja_nil)) (gCons (gLst 8 ja_nil) ja_nil)))
    (gSeq ⟨[0, 1, 9, 1, 0, 0, 0], [0, 0, 0, 0, 0, 0, 0], [0, 0, 0, 0, 0, 0, 0]⟩ (gSet 3 n_readUby (gIf [0, 1, 9, 0, 0, 0, 0] 1 (gCmpT (op_neDD hu64) (gv 1) (gLst 8 ja_nil)) (gCall G_vertices_in hr hgd tk (gCons (gIx op_ixD (gv 1) gi) ja_nil)) (gLst 8 ja_nil)))
    (gSeq ⟨[0, 1, 9, 1, 0, 0, 0], [0, 0, 0, 0, 0, 0, 0], [0, 0, 0, 0, 0, 0, 0]⟩ (gIfS (ψ1 := ⟨[0, 1, 9, 1, 0, 0, 0], [0, 0, 0, 0, 0, 0, 0], [0, 0, 0, 0, 0, 0, 0]⟩) (ψ2 := ⟨[0, 1, 9, 1, 0, 0, 0], [0, 0, 0, 0, 0, 0, 0], [0, 0, 0, 0, 0, 0, 0]⟩) (gCmpT (op_eqDD hu64) (gv 3) (gLst 8 ja_nil))
    (gSeq ⟨[0, 1, 9, 1, 0, 0, 0], [0, 0, 0, 0, 0, 0, 0], [0, 0, 0, 0, 0, 0, 0]⟩ (gRet gi)
    gNil)
    gNil)
    (gSeq ⟨[0, 1, 2, 1, 0, 0, 0], [0, 0, 0, 0, 0, 0, 0], [0, 0, 0, 0, 0, 0, 0]⟩ (gFor [0, 1, 2, 1, 0, 0, 0] ⟨[0, 1, 2, 1, 0, 0, 1], [0, 1, 2, 1, 0, 0, 0], [0, 1, 2, 1, 0, 0, 0]⟩ po (gEnum z_enumerate (gSlice (gv 1) (jo_some gi) jo_none)) (gTgT (gN1 4 n_readUby (gN1 5 n_readUby pgs_n0)))
    (gSeq ⟨[0, 1, 2, 1, 0, 0, 2], [0, 1, 2, 1, 0, 0, 0], [0, 1, 2, 1, 0, 0, 0]⟩ (gSet 6 n_readUby (gIf [0, 1, 2, 1, 0, 0, 0] 2 (gCmpT (op_ordD rfl hu80) (gCallB cd_len z_len (gCons (gv 2) ja_nil)) (gGi c_MOST_EDGES)) (gCall G_ends_in hr hgd tk (gCons (ge 5) (gCons (gIx op_ixD (gv 3) gi) ja_nil))) (gLst 8 ja_nil)))
    (gSeq ⟨[0, 1, 2, 1, 0, 0, 1], [0, 1, 2, 1, 0, 0, 0], [0, 1, 2, 1, 0, 0, 0]⟩ (gIfS (ψ1 := ⟨[0, 1, 2, 1, 0, 0, 1], [0, 1, 2, 1, 0, 0, 0], [0, 1, 2, 1, 0, 0, 0]⟩) (ψ2 := ⟨[0, 1, 2, 1, 0, 0, 1], [0, 1, 2, 1, 0, 0, 0], [0, 1, 2, 1, 0, 0, 0]⟩) (jt_w (gOr (gCmpT (op_eqDD hu64) (gv 6) (gLst 8 ja_nil)) (jw_or1 (gCmpT (op_inDD hu65) (gCall G_edge_between hr hgd tk (gCons (gIx op_ixD (gIx op_ixD (gv 6) gi) gi) (gCons (gIx op_ixD (gIx op_ixD (gv 6) gi) gi) ja_nil))) (gv 2)))))
    (gSeq ⟨[0, 1, 2, 1, 0, 0, 1], [0, 1, 2, 1, 0, 0, 0], [0, 1, 2, 1, 0, 0, 0]⟩ (gRet (je_bin op_addD (gv 4) gi))
    gNil)
    gNil)
    (gSeq ⟨[0, 1, 2, 1, 0, 0, 1], [0, 1, 2, 1, 0, 0, 0], [0, 1, 2, 1, 0, 0, 0]⟩ (gExpr (gAppend 2 1 (gCall G_edge_between hr hgd tk (gCons (gIx op_ixD (gIx op_ixD (gv 6) gi) gi) (gCons (gIx op_ixD (gIx op_ixD (gv 6) gi) gi) ja_nil)))))
    gNil))))
    (gSeq ⟨[0, 0, 0, 0, 0, 0, 0], [0, 0, 0, 0, 0, 0, 0], [0, 0, 0, 0, 0, 0, 0]⟩ (gRet (gTup 0 (gCons (gIx op_ixD (gv 3) gi) (gCons (gCallT cd_tuple z_tuple (gCons (gCallB cd_sorted z_sorted (gCons (gv 2) ja_nil)) ja_nil)) ja_nil))))
    gNil)))))
theorem h_readUby (fn : Fun K "read_by" "read_by" s_readUby f fd) (hm : mg "read_by" = some (.ref f)) (z_enumerate : mg "enumerate" = none) (z_len : mg "len" = none) (z_sorted : mg "sorted" = none) (z_tuple : mg "tuple" = none) {t_MOST_EDGES : Tok} (c_MOST_EDGES : mg "MOST_EDGES" = some (.int 24 t_MOST_EDGES)) (G_words_of : Has P w K mg base 1 "words_of" ["line"] Z [.fz] 1 F_wordsUof) (G_vertices_in : Has P w K mg base 2 "vertices_in" ["word"] Z [.fz] 1 F_verticesUin) (G_ends_in : Has P w K mg base 2 "ends_in" ["word", "vertices"] Z [.fz, .fz] 2 F_endsUin) (G_edge_between : Has P w K mg base 1 "edge_between" ["one", "two"] Z [.fz, .fz] 1 F_edgeUbetween) : Has P w K mg base 3 "read_by" ["text"] Z [.fz] 1 F_readUby :=
  has_of fn hm S_readUby (fun _ _ _ _ _ _ l hl => match l, hl with
    | [_], _ => fun i hi => match i, hi with
      | 0, _ => rfl
      | 1, _ => rfl
      | n + 2, h => absurd h (by show ¬ n + 2 ≤ 1; omega)) rfl (b_readUby z_enumerate z_len z_sorted z_tuple c_MOST_EDGES G_words_of G_vertices_in G_ends_in G_edge_between)
end
abbrev s_readUgraph : Stmt := top 27
abbrev N_readUgraph : List Str := ["text", "found"]
theorem n_readUgraph : N_readUgraph.Nodup := by decide
theorem S_readUgraph : FnScope N_readUgraph ["text"] (defScope s_readUgraph) := ⟨rfl, rfl, rfl, by decide +kernel, rfl, by decide +kernel, by decide +kernel⟩
def m_readUgraph : M Fl :=
  (seqM (ifS (notM (truM (.v 9) (isiM "str" (.sl 0) (slotM 0))))
    (seqM (fun _ => .bad)
    nxM)
    nxM)
    (seqM (setM 1 (callF F_readUby [.fz] [.v 0] (consM (slotM 0) (M.pure []))))
    (seqM (ifS (truM (.v 9) (isiM "int" (.sl 1) (slotM 1)))
    (seqM (fun _ => .bad)
    nxM)
    nxM)
    (seqM (retM [] (slotM 1))
    nxM))))
def F_readUgraph : List DV → Res := runF N_readUgraph.length (ioP 0 [.fz]) m_readUgraph
section
variable {P : Program} {w : World} {K : PySem.W.Frag} {mg : Str → Option Value} {base : Heap} {f : Addr} {fd : FuncData} {Z : ClT}
theorem b_readUgraph (z_int : mg "int" = none) (z_isinstance : mg "isinstance" = none) (z_str : mg "str" = none) (G_read_by : Has P w K mg base 3 "read_by" ["text"] Z [.fz] 1 F_readUby) : BodyD P w K mg base 3 N_readUgraph "read_graph" s_readUgraph f Z [.fz] 1 m_readUgraph := by
  intro cdv A outer s H E hr hgd tk po
  have hu80 := units80 hr
  have hu70 := units70 hr
  have hu65 := units65 hr
  have hu64 := units64 hr
  refine ⟨⟨[0, 0], [0, 0], [0, 0]⟩, rfl, ?_⟩
  exact (gSeq ⟨[0, 0], [0, 0], [0, 0]⟩ (gIfS (ψ1 := ⟨[0, 0], [0, 0], [0, 0]⟩) (ψ2 := ⟨[0, 0], [0, 0], [0, 0]⟩) (jt_not (gTru (gIsi z_isinstance z_str (gv 0))))
    (gSeq ⟨[0, 0], [0, 0], [0, 0]⟩ js_bad
    gNil)
    gNil)
    (gSeq ⟨[0, 1], [0, 0], [0, 0]⟩ (gSet 1 n_readUgraph (gCall G_read_by hr hgd tk (gCons (ge 0) ja_nil)))
    (gSeq ⟨[0, 1], [0, 0], [0, 0]⟩ (gIfS (ψ1 := ⟨[0, 1], [0, 0], [0, 0]⟩) (ψ2 := ⟨[0, 1], [0, 0], [0, 0]⟩) (gTru (gIsi z_isinstance z_int (gv 1)))
    (gSeq ⟨[0, 1], [0, 0], [0, 0]⟩ js_bad
    gNil)
    gNil)
    (gSeq ⟨[0, 0], [0, 0], [0, 0]⟩ (gRetV 1 1)
    gNil))))
theorem h_readUgraph (fn : Fun K "read_graph" "read_graph" s_readUgraph f fd) (hm : mg "read_graph" = some (.ref f)) (z_int : mg "int" = none) (z_isinstance : mg "isinstance" = none) (z_str : mg "str" = none) (G_read_by : Has P w K mg base 3 "read_by" ["text"] Z [.fz] 1 F_readUby) : Has P w K mg base 4 "read_graph" ["text"] Z [.fz] 1 F_readUgraph :=
  has_of fn hm S_readUgraph (fun _ _ _ _ _ _ l hl => match l, hl with
    | [_], _ => fun i hi => match i, hi with
      | 0, _ => rfl
      | 1, _ => rfl
      | n + 2, h => absurd h (by show ¬ n + 2 ≤ 1; omega)) rfl (b_readUgraph z_int z_isinstance z_str G_read_by)
end
abbrev s_lawUright : Stmt := top 43
abbrev N_lawUright : List Str := ["well", "turn", "graph", "text", "some", "other"]
theorem n_lawUright : N_lawUright.Nodup := by decide
theorem S_lawUright : FnScope N_lawUright ["well"] (defScope s_lawUright) := ⟨rfl, rfl, rfl, by decide +kernel, rfl, by decide +kernel, by decide +kernel⟩
def m_lawUright : M Fl :=
  (seqM (forS (.nm 1) (rg1I (.v 9) (M.pure (.d (.int 3))))
    (seqM (setM 2 (ifM (asB (.v 9) (op2 (lift2 eqP) (.v 9) (.v 9) (callF F_lawUdraw [.io 1 1, .fz] [.sl 0, .v 9] (consM (slotM 0) (consM (M.pure (.d (.int 5))) (M.pure [])))) (M.pure (.d (.int 0))))) (callF F_lawUfull [.io 1 1, .fz] [.sl 0, .v 9] (consM (slotM 0) (consM (M.pure (.d (.int 24))) (M.pure [])))) (callF F_lawUgraph [.io 1 1, .fz, .fz] [.sl 0, .v 9, .v 9] (consM (slotM 0) (consM (M.pure (.d (.int 10))) (consM (M.pure (.d (.int 24))) (M.pure [])))))))
    (seqM (setM 3 (callF F_lawUtext [.fz] [.v 0] (consM (slotM 2) (M.pure []))))
    (seqM (ifS (asB (.v 9) (op2 (lift2 neP) (.v 9) (.v 9) (callM (oneD reprP) [.v 10] (consM (dispM .list (consM (callF F_showUgraph [.fz] [.v 0] (consM (slotM 2) (M.pure []))) (consM (callF F_showUgraph [.fz] [.v 0] (consM (slotM 2) (M.pure []))) (M.pure [])))) (M.pure []))) (callM (oneD reprP) [.v 1] (consM (dispM .list (consM (slotM 3) (consM (slotM 3) (M.pure [])))) (M.pure [])))))
    (seqM (retM [(0, 1)] (M.pure (.d (.bool false))))
    nxM)
    nxM)
    (seqM (setM 4 (callF F_lawUotherUtext [.io 1 1, .fz] [.sl 0, .v 0] (consM (slotM 0) (consM (slotM 2) (M.pure [])))))
    (seqM (ifS (asB (.v 9) (op2 (lift2 neP) (.v 9) (.v 9) (callM (oneD reprP) [.v 2] (consM (dispM .list (consM (callF F_readUgraph [.fz] [.v 0] (consM (slotM 3) (M.pure []))) (consM (callF F_readUgraph [.fz] [.v 0] (consM (slotM 4) (M.pure []))) (consM (callF F_readUgraph [.fz] [.v 0] (consM (slotM 4) (M.pure []))) (M.pure []))))) (M.pure []))) (callM (oneD reprP) [.v 1] (consM (dispM .list (consM (slotM 2) (consM (slotM 2) (consM (slotM 2) (M.pure []))))) (M.pure [])))))
    (seqM (retM [(0, 1)] (M.pure (.d (.bool false))))
    nxM)
    nxM)
    (seqM (setM 5 (callF F_lawUgraph [.io 1 1, .fz, .fz] [.sl 0, .v 9, .v 9] (consM (slotM 0) (consM (M.pure (.d (.int 10))) (consM (M.pure (.d (.int 24))) (M.pure []))))))
    (seqM (ifS (asB (.v 9) (op2 (lift2 neP) (.v 9) (.v 9) (op2 (lift2 eqP) (.v 9) (.sl 3) (callF F_showUgraph [.fz] [.v 0] (consM (slotM 5) (M.pure []))) (slotM 3)) (op2 (lift2 eqP) (.sl 5) (.sl 2) (slotM 5) (slotM 2))))
    (seqM (retM [(0, 1)] (M.pure (.d (.bool false))))
    nxM)
    nxM)
    nxM))))))))
    (seqM (retM [(0, 1)] (M.pure (.d (.bool true))))
    nxM))
def F_lawUright : List DV → Res := runF N_lawUright.length (ioP 0 [.io 1 1]) m_lawUright
section
variable {P : Program} {w : World} {K : PySem.W.Frag} {mg : Str → Option Value} {base : Heap} {f : Addr} {fd : FuncData} {Z : ClT}
theorem b_lawUright (z_range : mg "range" = none) (z_repr : mg "repr" = none) (G__law_draw : Has P w K mg base 1 "_law_draw" ["well", "many"] Z [.io 1 1, .fz] 9 F_lawUdraw) (G__law_full : Has P w K mg base 4 "_law_full" ["well", "edges"] Z [.io 1 1, .fz] 1 F_lawUfull) (G__law_graph : Has P w K mg base 4 "_law_graph" ["well", "most", "edges"] Z [.io 1 1, .fz, .fz] 1 F_lawUgraph) (G__law_text : Has P w K mg base 1 "_law_text" ["graph"] Z [.fz] 1 F_lawUtext) (G_show_graph : Has P w K mg base 6 "show_graph" ["graph"] Z [.fz] 9 F_showUgraph) (G__law_other_text : Has P w K mg base 4 "_law_other_text" ["well", "graph"] Z [.io 1 1, .fz] 1 F_lawUotherUtext) (G_read_graph : Has P w K mg base 4 "read_graph" ["text"] Z [.fz] 1 F_readUgraph) : BodyD P w K mg base 6 N_lawUright "_law_right" s_lawUright f Z [.io 1 1] 9 m_lawUright := by
  intro cdv A outer s H E hr hgd tk po
  have hu80 := units80 hr
  have hu70 := units70 hr
  have hu65 := units65 hr
  have hu64 := units64 hr
  refine ⟨⟨[1, 0, 0, 0, 0, 0], [1, 0, 0, 0, 0, 0], [1, 0, 0, 0, 0, 0]⟩, rfl, ?_⟩
  exact (gSeq ⟨[1, 0, 0, 0, 0, 0], [1, 0, 0, 0, 0, 0], [1, 0, 0, 0, 0, 0]⟩ (gFor [1, 0, 0, 0, 0, 0] ⟨[1, 0, 0, 0, 0, 0], [1, 0, 0, 0, 0, 0], [1, 0, 0, 0, 0, 0]⟩ po (gRange1 z_range gi) (gTgN 1 n_lawUright)
    (gSeq ⟨[1, 0, 1, 0, 0, 0], [1, 0, 0, 0, 0, 0], [1, 0, 0, 0, 0, 0]⟩ (gSet 2 n_lawUright (gIf [1, 0, 0, 0, 0, 0] 1 (gCmpT (op_eqDD hu64) (gCall G__law_draw hr hgd tk (gCons (gv 0) (gCons gi ja_nil))) gi) (gCall G__law_full hr hgd tk (gCons (gv 0) (gCons gi ja_nil))) (gCall G__law_graph hr hgd tk (gCons (gv 0) (gCons gi (gCons gi ja_nil))))))
    (gSeq ⟨[1, 0, 0, 1, 0, 0], [1, 0, 0, 0, 0, 0], [1, 0, 0, 0, 0, 0]⟩ (gSet 3 n_lawUright (gCall G__law_text hr hgd tk (gCons (ge 2) ja_nil)))
    (gSeq ⟨[1, 0, 0, 0, 0, 0], [1, 0, 0, 0, 0, 0], [1, 0, 0, 0, 0, 0]⟩ (gIfS (ψ1 := ⟨[1, 0, 0, 0, 0, 0], [1, 0, 0, 0, 0, 0], [1, 0, 0, 0, 0, 0]⟩) (ψ2 := ⟨[1, 0, 0, 0, 0, 0], [1, 0, 0, 0, 0, 0], [1, 0, 0, 0, 0, 0]⟩) (gCmpT (op_neDD hu64) (gCallB (cd_repr hgd hu70) z_repr (gCons (gLst 9 (gCons (gCall G_show_graph hr hgd tk (gCons (ge 2) ja_nil)) (gCons (gCallK0 G_show_graph hr hgd tk (jk_cons (ge 2) jk_nil)) ja_nil))) ja_nil)) (gCallB (cd_repr hgd hu70) z_repr (gCons (gLst 0 (gCons (ge 3) (gCons (ge 3) ja_nil))) ja_nil)))
    (gSeq ⟨[1, 0, 0, 0, 0, 0], [1, 0, 0, 0, 0, 0], [1, 0, 0, 0, 0, 0]⟩ (gRet gb)
    gNil)
    gNil)
    (gSeq ⟨[1, 0, 0, 0, 1, 0], [1, 0, 0, 0, 0, 0], [1, 0, 0, 0, 0, 0]⟩ (gSet 4 n_lawUright (gCall G__law_other_text hr hgd tk (gCons (gv 0) (gCons (ge 2) ja_nil))))
    (gSeq ⟨[1, 0, 0, 0, 0, 0], [1, 0, 0, 0, 0, 0], [1, 0, 0, 0, 0, 0]⟩ (gIfS (ψ1 := ⟨[1, 0, 0, 0, 0, 0], [1, 0, 0, 0, 0, 0], [1, 0, 0, 0, 0, 0]⟩) (ψ2 := ⟨[1, 0, 0, 0, 0, 0], [1, 0, 0, 0, 0, 0], [1, 0, 0, 0, 0, 0]⟩) (gCmpT (op_neDD hu64) (gCallB (cd_repr hgd hu70) z_repr (gCons (gLst 1 (gCons (gCall G_read_graph hr hgd tk (gCons (ge 3) ja_nil)) (gCons (gCall G_read_graph hr hgd tk (gCons (ge 4) ja_nil)) (gCons (gCallK0 G_read_graph hr hgd tk (jk_cons (ge 4) jk_nil)) ja_nil)))) ja_nil)) (gCallB (cd_repr hgd hu70) z_repr (gCons (gLst 0 (gCons (ge 2) (gCons (ge 2) (gCons (ge 2) ja_nil)))) ja_nil)))
    (gSeq ⟨[1, 0, 0, 0, 0, 0], [1, 0, 0, 0, 0, 0], [1, 0, 0, 0, 0, 0]⟩ (gRet gb)
    gNil)
    gNil)
    (gSeq ⟨[1, 0, 0, 0, 0, 1], [1, 0, 0, 0, 0, 0], [1, 0, 0, 0, 0, 0]⟩ (gSet 5 n_lawUright (gCall G__law_graph hr hgd tk (gCons (gv 0) (gCons gi (gCons gi ja_nil)))))
    (gSeq ⟨[1, 0, 0, 0, 0, 0], [1, 0, 0, 0, 0, 0], [1, 0, 0, 0, 0, 0]⟩ (gIfS (ψ1 := ⟨[1, 0, 0, 0, 0, 0], [1, 0, 0, 0, 0, 0], [1, 0, 0, 0, 0, 0]⟩) (ψ2 := ⟨[1, 0, 0, 0, 0, 0], [1, 0, 0, 0, 0, 0], [1, 0, 0, 0, 0, 0]⟩) (gCmpT (op_neDD hu64) (gCmp (op_eqDD hu64) (gCall G_show_graph hr hgd tk (gCons (ge 5) ja_nil)) (gv 3)) (gCmp (op_eqDD hu64) (gv 5) (gv 2)))
    (gSeq ⟨[1, 0, 0, 0, 0, 0], [1, 0, 0, 0, 0, 0], [1, 0, 0, 0, 0, 0]⟩ (gRet gb)
    gNil)
    gNil)
    gNil))))))))
    (gSeq ⟨[1, 0, 0, 0, 0, 0], [1, 0, 0, 0, 0, 0], [1, 0, 0, 0, 0, 0]⟩ (gRet gb)
    gNil))
theorem h_lawUright (fn : Fun K "_law_right" "_law_right" s_lawUright f fd) (hm : mg "_law_right" = some (.ref f)) (z_range : mg "range" = none) (z_repr : mg "repr" = none) (G__law_draw : Has P w K mg base 1 "_law_draw" ["well", "many"] Z [.io 1 1, .fz] 9 F_lawUdraw) (G__law_full : Has P w K mg base 4 "_law_full" ["well", "edges"] Z [.io 1 1, .fz] 1 F_lawUfull) (G__law_graph : Has P w K mg base 4 "_law_graph" ["well", "most", "edges"] Z [.io 1 1, .fz, .fz] 1 F_lawUgraph) (G__law_text : Has P w K mg base 1 "_law_text" ["graph"] Z [.fz] 1 F_lawUtext) (G_show_graph : Has P w K mg base 6 "show_graph" ["graph"] Z [.fz] 9 F_showUgraph) (G__law_other_text : Has P w K mg base 4 "_law_other_text" ["well", "graph"] Z [.io 1 1, .fz] 1 F_lawUotherUtext) (G_read_graph : Has P w K mg base 4 "read_graph" ["text"] Z [.fz] 1 F_readUgraph) : Has P w K mg base 7 "_law_right" ["well"] Z [.io 1 1] 9 F_lawUright :=
  has_of fn hm S_lawUright (fun _ _ _ _ _ _ l hl => match l, hl with
    | [_], _ => fun i hi => match i, hi with
      | 0, _ => rfl
      | 1, _ => rfl
      | n + 2, h => absurd h (by show ¬ n + 2 ≤ 1; omega)) rfl (b_lawUright z_range z_repr G__law_draw G__law_full G__law_graph G__law_text G_show_graph G__law_other_text G_read_graph)
end
abbrev s_lawUwell : Stmt := top 29
abbrev N_lawUwell : List Str := ["script", "turn", "own", "mixed", "cell"]
theorem n_lawUwell : N_lawUwell.Nodup := by decide
theorem S_lawUwell : FnScope N_lawUwell ["script", "turn"] (defScope s_lawUwell) := ⟨rfl, rfl, rfl, by decide +kernel, rfl, by decide +kernel, by decide +kernel⟩
def m_lawUwell : M Fl :=
  (seqM (setM 2 (ifM (asB (.v 9) (op2 (lift2 (cmpP .Lt)) (.sl 1) (.v 9) (slotM 1) (callM lenD [.sl 0] (consM (slotM 0) (M.pure []))))) (callM (oneD intP) [.v 0] (consM (op2 ixD (.sl 0) (.sl 1) (slotM 0) (slotM 1)) (M.pure []))) (M.pure (.d (.int 0)))))
    (seqM (setM 3 (op2 (lift2 addP) (.v 9) (.v 9) (M.pure (.d (.int 97))) (op2 (lift2 mulP) (.v 9) (.sl 1) (M.pure (.d (.int 32452843))) (slotM 1))))
    (seqM (forS (.nm 4) (seqI (slM (.sl 0) (slotM 0) (M.pure none) (someI (.v 9) (M.pure (.d (.int 11))))))
    (seqM (setM 3 (op2 (lift2 modP) (.v 9) (.v 9) (callM (oneD intP) [.v 1] (consM (op2 (lift2 addP) (.v 1) (.v 9) (op2 (lift2 addP) (.v 9) (.v 9) (op2 (lift2 mulP) (.sl 3) (.v 9) (slotM 3) (M.pure (.d (.int 22695)))) (op2 (lift2 modP) (.v 9) (.v 9) (callM (oneD intP) [.sl 4] (consM (slotM 4) (M.pure []))) (M.pure (.d (.int 2147483423))))) (M.pure (.d (.int 53)))) (M.pure []))) (M.pure (.d (.int 2147483399)))))
    nxM))
    (seqM (setM 3 (op2 (lift2 modP) (.v 9) (.v 9) (callM (oneD intP) [.v 1] (consM (op2 (lift2 addP) (.v 1) (.v 9) (op2 (lift2 addP) (.v 9) (.v 9) (op2 (lift2 mulP) (.sl 3) (.v 9) (slotM 3) (M.pure (.d (.int 41358)))) (op2 (lift2 mulP) (.v 9) (.v 9) (op2 (lift2 modP) (.v 9) (.v 9) (callM (oneD intP) [.sl 2] (consM (slotM 2) (M.pure []))) (M.pure (.d (.int 2147483423)))) (M.pure (.d (.int 10301))))) (M.pure (.d (.int 23)))) (M.pure []))) (M.pure (.d (.int 2147483399)))))
    (seqM (retM [] (dispM .list (consM (ifM (asB (.v 9) (op2 (lift2 (cmpP .GtE)) (.v 9) (.v 9) (callM (oneD absP) [.sl 2] (consM (slotM 2) (M.pure []))) (op2 (lift2 powP) (.v 9) (.v 9) (M.pure (.d (.int 10))) (M.pure (.d (.int 16)))))) (callM (oneD absP) [.sl 2] (consM (slotM 2) (M.pure []))) (M.pure (.d (.int 0)))) (consM (slotM 3) (consM (M.pure (.d (.int 0))) (M.pure []))))))
    nxM)))))
def F_lawUwell : List DV → Res := runF N_lawUwell.length (ioP 0 [.fz, .fz]) m_lawUwell
section
variable {P : Program} {w : World} {K : PySem.W.Frag} {mg : Str → Option Value} {base : Heap} {f : Addr} {fd : FuncData} {Z : ClT}
theorem b_lawUwell (z_abs : mg "abs" = none) (z_int : mg "int" = none) (z_len : mg "len" = none) : BodyD P w K mg base 0 N_lawUwell "_law_well" s_lawUwell f Z [.fz, .fz] 1 m_lawUwell := by
  intro cdv A outer s H E hr hgd tk po
  have hu80 := units80 hr
  have hu70 := units70 hr
  have hu65 := units65 hr
  have hu64 := units64 hr
  refine ⟨⟨[0, 0, 0, 0, 0], [0, 0, 0, 0, 0], [0, 0, 0, 0, 0]⟩, rfl, ?_⟩
  exact (gSeq ⟨[0, 0, 9, 0, 0], [0, 0, 0, 0, 0], [0, 0, 0, 0, 0]⟩ (gSet 2 n_lawUwell (gIf [0, 0, 0, 0, 0] 9 (gCmpT (op_ordD rfl hu80) (gv 1) (gCallB cd_len z_len (gCons (gv 0) ja_nil))) (gCallT cd_int z_int (gCons (gIx op_ixD (gv 0) (gv 1)) ja_nil)) gi))
    (gSeq ⟨[0, 0, 9, 1, 0], [0, 0, 0, 0, 0], [0, 0, 0, 0, 0]⟩ (gSet 3 n_lawUwell (je_bin op_addD gi (je_bin op_mulD gi (gv 1))))
    (gSeq ⟨[0, 0, 9, 1, 0], [0, 0, 0, 0, 0], [0, 0, 0, 0, 0]⟩ (gFor [0, 0, 9, 1, 0] ⟨[0, 0, 9, 9, 0], [0, 0, 9, 1, 0], [0, 0, 9, 1, 0]⟩ po (ji_seq (gSlice (gv 0) jo_none (jo_some gi))) (gTgN 4 n_lawUwell)
    (gSeq ⟨[0, 0, 9, 9, 0], [0, 0, 9, 1, 0], [0, 0, 9, 1, 0]⟩ (gSet 3 n_lawUwell (je_bin op_modD (gCallT cd_int z_int (gCons (je_bin op_addD (je_bin op_addD (je_bin op_mulD (gv 3) gi) (je_bin op_modD (gCallT cd_int z_int (gCons (gv 4) ja_nil)) gi)) gi) ja_nil)) gi))
    gNil))
    (gSeq ⟨[0, 0, 9, 9, 0], [0, 0, 0, 0, 0], [0, 0, 0, 0, 0]⟩ (gSet 3 n_lawUwell (je_bin op_modD (gCallT cd_int z_int (gCons (je_bin op_addD (je_bin op_addD (je_bin op_mulD (gv 3) gi) (je_bin op_mulD (je_bin op_modD (gCallT cd_int z_int (gCons (gv 2) ja_nil)) gi) gi)) gi) ja_nil)) gi))
    (gSeq ⟨[0, 0, 0, 0, 0], [0, 0, 0, 0, 0], [0, 0, 0, 0, 0]⟩ (gRet (gLst 0 (gCons (gIf [0, 0, 9, 9, 0] 9 (gCmpT (op_ordD rfl hu80) (gCallB cd_abs z_abs (gCons (gv 2) ja_nil)) (je_bin op_powD gi gi)) (gCallB cd_abs z_abs (gCons (gv 2) ja_nil)) gi) (gCons (ge 3) (gCons gi ja_nil)))))
    gNil)))))
theorem h_lawUwell (fn : Fun K "_law_well" "_law_well" s_lawUwell f fd) (hm : mg "_law_well" = some (.ref f)) (z_abs : mg "abs" = none) (z_int : mg "int" = none) (z_len : mg "len" = none) : Has P w K mg base 1 "_law_well" ["script", "turn"] Z [.fz, .fz] 1 F_lawUwell :=
  has_of fn hm S_lawUwell (fun _ _ _ _ _ _ l hl => match l, hl with
    | [_, _], _ => fun i hi => match i, hi with
      | 0, _ => rfl
      | 1, _ => rfl
      | 2, _ => rfl
      | n + 3, h => absurd h (by show ¬ n + 3 ≤ 2; omega)) rfl (b_lawUwell z_abs z_int z_len)
end
abbrev s_law : Stmt := top 44
abbrev N_law : List Str := ["script", "turn"]
theorem n_law : N_law.Nodup := by decide
theorem S_law : FnScope N_law ["script"] (defScope s_law) := ⟨rfl, rfl, rfl, by decide +kernel, rfl, by decide +kernel, by decide +kernel⟩
def m_law : M Fl :=
  (seqM (forS (.nm 1) (rg1I (.v 9) (callM (twoD maxP) [.v 9, .v 9] (consM (M.pure (.d (.int 2))) (consM (callM (twoD minP) [.v 9, .v 9] (consM (callM lenD [.sl 0] (consM (slotM 0) (M.pure []))) (consM (M.pure (.d (.int 4))) (M.pure [])))) (M.pure [])))))
    (seqM (ifS (notM (truM (.v 9) (callF F_lawUright [.io 1 1] [.v 1] (consM (callF F_lawUwell [.fz, .fz] [.v 0, .v 0] (consM (slotM 0) (consM (slotM 1) (M.pure [])))) (M.pure [])))))
    (seqM (retM [] (M.pure (.d (.bool false))))
    nxM)
    nxM)
    nxM))
    (seqM (retM [] (M.pure (.d (.bool true))))
    nxM))
def F_law : List DV → Res := runF N_law.length (ioP 0 [.fz]) m_law
section
variable {P : Program} {w : World} {K : PySem.W.Frag} {mg : Str → Option Value} {base : Heap} {f : Addr} {fd : FuncData} {Z : ClT}
theorem b_law (z_len : mg "len" = none) (z_max : mg "max" = none) (z_min : mg "min" = none) (z_range : mg "range" = none) (G__law_right : Has P w K mg base 7 "_law_right" ["well"] Z [.io 1 1] 9 F_lawUright) (G__law_well : Has P w K mg base 1 "_law_well" ["script", "turn"] Z [.fz, .fz] 1 F_lawUwell) : BodyD P w K mg base 7 N_law "law" s_law f Z [.fz] 9 m_law := by
  intro cdv A outer s H E hr hgd tk po
  have hu80 := units80 hr
  have hu70 := units70 hr
  have hu65 := units65 hr
  have hu64 := units64 hr
  refine ⟨⟨[0, 0], [0, 0], [0, 0]⟩, rfl, ?_⟩
  exact (gSeq ⟨[0, 0], [0, 0], [0, 0]⟩ (gFor [0, 0] ⟨[0, 0], [0, 0], [0, 0]⟩ po (gRange1 z_range (gCallB (cd_max rfl) z_max (gCons gi (gCons (gCallB (cd_min rfl) z_min (gCons (gCallB cd_len z_len (gCons (gv 0) ja_nil)) (gCons gi ja_nil))) ja_nil)))) (gTgN 1 n_law)
    (gSeq ⟨[0, 0], [0, 0], [0, 0]⟩ (gIfS (ψ1 := ⟨[0, 0], [0, 0], [0, 0]⟩) (ψ2 := ⟨[0, 0], [0, 0], [0, 0]⟩) (jt_not (gTru (gCall G__law_right hr hgd tk (gCons (gCall G__law_well hr hgd tk (gCons (ge 0) (gCons (ge 1) ja_nil))) ja_nil))))
    (gSeq ⟨[0, 0], [0, 0], [0, 0]⟩ (gRet gb)
    gNil)
    gNil)
    gNil))
    (gSeq ⟨[0, 0], [0, 0], [0, 0]⟩ (gRet gb)
    gNil))
theorem h_law (fn : Fun K "law" "law" s_law f fd) (hm : mg "law" = some (.ref f)) (z_len : mg "len" = none) (z_max : mg "max" = none) (z_min : mg "min" = none) (z_range : mg "range" = none) (G__law_right : Has P w K mg base 7 "_law_right" ["well"] Z [.io 1 1] 9 F_lawUright) (G__law_well : Has P w K mg base 1 "_law_well" ["script", "turn"] Z [.fz, .fz] 1 F_lawUwell) : Has P w K mg base 8 "law" ["script"] Z [.fz] 9 F_law :=
  has_of fn hm S_law (fun _ _ _ _ _ _ l hl => match l, hl with
    | [_], _ => fun i hi => match i, hi with
      | 0, _ => rfl
      | 1, _ => rfl
      | n + 2, h => absurd h (by show ¬ n + 2 ≤ 1; omega)) rfl (b_law z_len z_max z_min z_range G__law_right G__law_well)
end
end Lk
namespace Lk
open PySem PySem.Spec L2
abbrev wl (a b c : Int) : DV := .d (.list [.int a, .int b, .int c])
def WL (d : DV) : Prop := ∃ a b c, d = wl a b c
theorem draw_ok {w : DV} {m : Int} (hw : WL w) (hm : 0 < m) (hm2 : m < 1073741824) : ∃ r w', F_lawUdraw [w, .d (.int m)] = .ok (.d (.int r)) [w'] ∧ WL w' ∧ 0 ≤ r ∧ r < m := by
  obtain ⟨a, b, c, rfl⟩ := hw
  unfold F_lawUdraw runF m_lawUdraw
  by_cases h : 0 < a
  · refine ⟨a % m, wl (a / m) b c, ?_, ⟨_, _, _, rfl⟩, Int.emod_nonneg _ (by omega), Int.emod_lt_of_pos _ hm⟩
    simp [env0, atI_0, atI_1, atI_2, hm, hm2, h, stO, stD, ixN, ioP, endR]
  · refine ⟨(b * 40692 + 17093 * (c + 1) + 31) % 2147483399 * ((b * 40692 + 17093 * (c + 1) + 31) % 2147483399 % 28001 + 30011) / 5003 % m, wl a ((b * 40692 + 17093 * (c + 1) + 31) % 2147483399) (c + 1), ?_, ⟨_, _, _, rfl⟩, Int.emod_nonneg _ (by omega), Int.emod_lt_of_pos _ hm⟩
    have h1 : 0 ≤ (b * 40692 + 17093 * (c + 1) + 31) % 2147483399 % 28001 := Int.emod_nonneg _ (by omega)
    have h2 : (b * 40692 + 17093 * (c + 1) + 31) % 2147483399 % 28001 < 28001 := Int.emod_lt_of_pos _ (by omega)
    simp [env0, atI_0, atI_1, atI_2, hm, hm2, h, stO, stD, ixN, ioP, endR]
    generalize (b * 40692 + 17093 * (c + 1) + 31) % 2147483399 = s at *
    rw [if_pos (Or.inr ⟨by omega, by omega⟩)]
    simp [hm]
theorem atI_in {α : Type} {xs : List α} {i : Int} (h0 : 0 ≤ i) (h1 : i < xs.length) : ∃ x, atI xs i = some x ∧ x ∈ xs := by
  have hk : i.toNat < xs.length := by omega
  refine ⟨xs[i.toNat], ?_, List.getElem_mem hk⟩
  unfold atI ixN
  rw [if_pos h0, if_pos h1]
  exact List.getElem?_eq_getElem hk
theorem pick_ok {w : DV} {xs : List PyData} (hw : WL w) (hx : xs ≠ []) (hl : xs.length < 1073741824) : ∃ x w', F_lawUpick [w, .d (.list xs)] = .ok (.d x) [w'] ∧ WL w' ∧ x ∈ xs := by
  have h0 : 0 < xs.length := List.length_pos_iff.mpr hx
  obtain ⟨r, w', h, hw', h1, h2⟩ := draw_ok (m := xs.length) hw (by omega) (by omega)
  obtain ⟨x, hx1, hx2⟩ := atI_in h1 h2
  refine ⟨x, w', ?_, hw', hx2⟩
  unfold F_lawUpick runF m_lawUpick
  simp [env0, lenD, h, putM, clrM, ioP, endR, hx1]
theorem pick_okT {w : DV} {xs : List PyData} (hw : WL w) (hx : xs ≠ []) (hl : xs.length < 1073741824) : ∃ x w', F_lawUpick [w, .d (.tuple xs)] = .ok (.d x) [w'] ∧ WL w' ∧ x ∈ xs := by
  have h0 : 0 < xs.length := List.length_pos_iff.mpr hx
  obtain ⟨r, w', h, hw', h1, h2⟩ := draw_ok (m := xs.length) hw (by omega) (by omega)
  obtain ⟨x, hx1, hx2⟩ := atI_in h1 h2
  refine ⟨x, w', ?_, hw', hx2⟩
  unfold F_lawUpick runF m_lawUpick
  simp [env0, lenD, h, putM, clrM, ioP, endR, hx1]
@[simp] theorem itemsOf_list {xs : List PyData} : itemsOf (.d (.list xs)) = some (xs.map .d) := rfl
@[simp] theorem itemsOf_tuple {xs : List PyData} : itemsOf (.d (.tuple xs)) = some (xs.map .d) := rfl
@[simp] theorem itemsOf_s {xs : List Int} : itemsOf (.s xs) = some (xs.map fun n => .d (.int n)) := rfl
def undD : DV → PyData
  | .d x => x
  | _ => .none
@[simp] theorem undD_d {x : PyData} : undD (.d x) = x := rfl
theorem filt_map {α : Type} {f : α → PyData} {p : DV → Bool} {q : α → Bool} (h : ∀ a, p (.d (f a)) = q a) : ∀ l : List α, (((l.map f).map DV.d).filter p).map undD = (l.filter q).map f
  | [] => rfl
  | a :: l => by
    simp only [List.map_cons, List.filter_cons, h]
    cases q a
    · simp only [Bool.false_eq_true, if_false]
      exact filt_map h l
    · simp only [if_true, List.map_cons, undD_d]
      rw [filt_map h l]
theorem rgP_len {a b : Int} : (rgP a b).length = (b - a).toNat := by simp [rgP]
/-- the ints from a up to b -/
def rgL (a b : Int) : List Int := (List.range (b - a).toNat).map fun (i : Nat) => a + i
theorem rgP_rgL {a b : Int} : rgP a b = (rgL a b).map .int := by simp [rgP, rgL]
theorem mem_rgL {a b i : Int} : i ∈ rgL a b ↔ a ≤ i ∧ i < b := by
  unfold rgL
  rw [List.mem_map]
  constructor
  · rintro ⟨k, hk, rfl⟩
    rw [List.mem_range] at hk
    omega
  · rintro ⟨h1, h2⟩
    exact ⟨(i - a).toNat, List.mem_range.mpr (by omega), by omega⟩
theorem nodup_rgL {a b : Int} : (rgL a b).Nodup := by
  unfold rgL
  refine List.Pairwise.map _ (fun x y h => ?_) List.nodup_range
  intro e
  apply h
  have e : a + (x : Int) = a + (y : Int) := e
  omega
theorem len_rgL {a b : Int} : (rgL a b).length = (b - a).toNat := by simp [rgL]
theorem filter_ne_perm {i : Int} : ∀ {l : List Int}, l.Nodup → i ∈ l → (i :: l.filter (fun j => decide (j ≠ i))).Perm l
  | x :: l, hn, hi => by
    obtain ⟨h1, h2⟩ := List.nodup_cons.mp hn
    by_cases e : x = i
    · subst e
      rw [List.filter_cons_of_neg (by simp)]
      have : l.filter (fun j => decide (j ≠ x)) = l := List.filter_eq_self.mpr fun y hy => by
        simp only [ne_eq, decide_eq_true_eq]
        intro e; subst e; exact h1 hy
      rw [this]
    · rw [List.filter_cons_of_pos (by simpa using e)]
      have hi' : i ∈ l := (List.mem_cons.mp hi).resolve_left fun z => e z.symm
      exact (List.Perm.swap _ _ _).trans ((filter_ne_perm h2 hi').cons x)
def undI : DV → Int
  | .d (.int i) => i
  | _ => 0
@[simp] theorem undI_d {i : Int} : undI (.d (.int i)) = i := rfl
theorem shp_e : Shp 1 (.list []) := shp_list (fun _ h => nomatch h)
theorem ev6 {a b c d f : Option DV} : slot [a, b, c, d, f, none] 5 = none := by simp [slot]
theorem order_ok {w : DV} {n : Int} (hw : WL w) (h0 : 0 ≤ n) (hn : n ≤ 1000) : ∃ (l : List Int) (w' : DV), F_lawUorder [w, .d (.int n)] = .ok (.d (.list (l.map .int))) [w'] ∧ WL w' ∧ l.Perm (rgL 0 n) := by
  have key := whileM_ok (c := asB (.v 9) (op2 (lift2 neP) (.sl 2) (.v 9) (slotM 2) (dispM .list (M.pure []))))
    (b := seqM (setM 4 (callF F_lawUpick [.io 1 1, .fz] [.sl 0, .v 0] (consM (slotM 0) (consM (slotM 2) (M.pure [])))))
    (seqM (dropM (apM 3 (slotM 4)))
    (seqM (setM 2 (compM (.nm 5) [5] (seqI (slotM 2)) (asB (.v 9) (op2 (lift2 neP) (.sl 5) (.sl 4) (slotM 5) (slotM 4))) (slotM 5)))
    nxM)))
    (fun k e => ∃ (w : DV) (left found : List Int) (o : Option DV), WL w ∧ e = [some w, some (.d (.int n)), some (.d (.list (left.map .int))), some (.d (.list (found.map .int))), o, none] ∧ left.length = k ∧ (found ++ left).Perm (rgL 0 n))
    (fun e => ∃ (w : DV) (found : List Int) (o : Option DV), WL w ∧ e = [some w, some (.d (.int n)), some (.d (.list [])), some (.d (.list (found.map .int))), o, none] ∧ found.Perm (rgL 0 n)) (by
    rintro k e ⟨w, left, found, o, hw, rfl, hk, hp⟩
    have hsz : found.length + left.length = n.toNat := by
      have := hp.length_eq
      rw [List.length_append, len_rgL] at this
      omega
    have hnd : left.Nodup := ((hp.nodup_iff.mpr nodup_rgL).sublist (List.sublist_append_right _ _))
    by_cases hl : left = []
    · subst hl
      refine .inl ⟨_, ?_, w, found, o, hw, rfl, by simpa using hp⟩
      simp [neP_s shp_e shp_e, eqv_nil]
    · obtain ⟨x, w', hpk, hw', hx⟩ := pick_ok (w := w) (xs := left.map .int) hw (by simpa using hl) (by rw [List.length_map]; omega)
      obtain ⟨i, hi, rfl⟩ := List.mem_map.mp hx
      have hcomp := compGo_nm (k := 5) (ft := asB (.v 9) (op2 (lift2 neP) (.sl 5) (.sl 4) (slotM 5) (slotM 4))) (fe := slotM 5)
        (e := [some w', some (.d (.int n)), some (.d (.list (left.map .int))), some (.d (.list ((found ++ [i]).map .int))), some (.d (.int i)), none])
        (fun d => decide (undI d ≠ i)) undD ((left.map .int).map .d) rfl (by simp) (by
          intro d hd
          obtain ⟨x, hx, rfl⟩ := List.mem_map.mp hd
          obtain ⟨j, hj, rfl⟩ := List.mem_map.mp hx
          exact ⟨by by_cases e : j = i <;> simp [neP_s shp_int shp_int, eqv_int, e], fun _ => by simp⟩) (by show _ ≤ 1000000; simp; omega)
      rw [filt_map (q := fun j => decide (j ≠ i)) (fun a => rfl)] at hcomp
      refine .inr ⟨[some w, some (.d (.int n)), some (.d (.list (left.map .int))), some (.d (.list (found.map .int))), o, none], [some w', some (.d (.int n)), some (.d (.list ((left.filter fun j => decide (j ≠ i)).map .int))), some (.d (.list ((found ++ [i]).map .int))), some (.d (.int i)), none], (left.filter fun j => decide (j ≠ i)).length, ?_, ?_, ?_, w', left.filter (fun j => decide (j ≠ i)), found ++ [i], some (.d (.int i)), hw', rfl, rfl, ?_⟩
      · simp [neP_s shp_ints shp_e, eqv_nil, hl]
      · have hf : found.length < big := by show _ < 1000000; omega
        rw [List.map_append] at hcomp
        simp [hpk, putM, clrM, apO, hf]
        simp at hcomp
        rw [hcomp]
        simp
      · rw [← hk, ← (filter_ne_perm hnd hi).length_eq]
        simp
      · refine List.Perm.trans ?_ hp
        rw [List.append_assoc]
        exact List.Perm.append_left _ (filter_ne_perm hnd hi))
  unfold F_lawUorder runF m_lawUorder
  obtain ⟨e', h1, w', found, o, hw', rfl, hp⟩ := key big n.toNat [some w, some (.d (.int n)), some (.d (.list ((rgL 0 n).map .int))), some (.d (.list [])), none, none] (by show _ < 1000000; omega)
    ⟨w, rgL 0 n, [], none, hw, rfl, by rw [len_rgL]; omega, by simp⟩
  refine ⟨found, w', ?_, hw', hp⟩
  have hr : rgOk 0 n = true := by unfold rgOk; simp; omega
  simp only [env0, List.map_cons, List.map_nil, List.length_cons, List.length_nil]
  simp [rgD, hr, rgP_rgL, h1, ioP, endR]
end Lk
namespace Lk
open PySem PySem.Spec L2
def normP (p : Int × Int) : Int × Int := if p.1 < p.2 then p else (p.2, p.1)
def keptL : List (Int × Int) → List (Int × Int) → List (Int × Int)
  | [], acc => acc
  | p :: r, acc => keptL r (if p.1 ≠ p.2 ∧ normP p ∉ acc then acc ++ [normP p] else acc)
def gD (n : Int) (es : List (Int × Int)) : PyData := .tuple [.int n, .tuple (es.map pairD)]
theorem keptL_mem : ∀ {ps acc : List (Int × Int)} {q : Int × Int}, q ∈ keptL ps acc ↔ q ∈ acc ∨ ∃ p ∈ ps, p.1 ≠ p.2 ∧ q = normP p
  | [], acc, q => by simp [keptL]
  | p :: r, acc, q => by
    unfold keptL
    rw [keptL_mem]
    by_cases h : p.1 ≠ p.2 ∧ normP p ∉ acc
    · rw [if_pos h]
      simp only [List.mem_append, List.mem_cons, List.not_mem_nil, or_false, exists_eq_or_imp]
      constructor
      · rintro ((h1 | h1) | h1)
        · exact .inl h1
        · exact .inr (.inl ⟨h.1, h1⟩)
        · exact .inr (.inr h1)
      · rintro (h1 | h1 | h1)
        · exact .inl (.inl h1)
        · exact .inl (.inr h1.2)
        · exact .inr h1
    · rw [if_neg h]
      simp only [List.mem_cons, exists_eq_or_imp]
      constructor
      · rintro (h1 | h1)
        · exact .inl h1
        · exact .inr (.inr h1)
      · rintro (h1 | h1 | h1)
        · exact .inl h1
        · by_cases h2 : normP p ∈ acc
          · rw [h1.2]; exact .inl h2
          · exact absurd ⟨h1.1, h2⟩ h
        · exact .inr h1
theorem keptL_nodup : ∀ {ps acc : List (Int × Int)}, acc.Nodup → (keptL ps acc).Nodup
  | [], acc, h => h
  | p :: r, acc, h => by
    unfold keptL
    refine keptL_nodup ?_
    split
    · rename_i hc
      exact List.nodup_append.mpr ⟨h, by simp, fun a ha b hb => by
        rw [List.mem_singleton.mp hb]
        intro e; subst e; exact hc.2 ha⟩
    · exact h
theorem keptL_len : ∀ {ps acc : List (Int × Int)}, (keptL ps acc).length ≤ acc.length + ps.length
  | [], acc => by simp [keptL]
  | p :: r, acc => by
    unfold keptL
    refine Nat.le_trans keptL_len ?_
    split <;> simp <;> omega
theorem any_pair {ps : List (Int × Int)} {q : Int × Int} : ((ps.map pairD).any fun z => PyData.eqv z (pairD q)) = decide (q ∈ ps) := by
  induction ps with
  | nil => simp
  | cons p ps ih =>
    simp only [List.map_cons, List.any_cons, ih, eqv_pair]
    by_cases h : p = q
    · simp [h]
    · have h' : ¬ q = p := fun e => h e.symm
      simp [h, h']
theorem inP_pairs {ps : List (Int × Int)} {q : Int × Int} : inP (pairD q) (.list (ps.map pairD)) = some (.bool (decide (q ∈ ps))) := by
  rw [inP_l shp_pair shp_pairs, any_pair]
theorem notInP_pairs {ps : List (Int × Int)} {q : Int × Int} : notInP (pairD q) (.list (ps.map pairD)) = some (.bool (!decide (q ∈ ps))) := by
  unfold notInP
  rw [inP_pairs]; rfl
theorem getPs_map {ps : List (Int × Int)} : getPs (ps.map pairD) = some ps := by
  induction ps with
  | nil => rfl
  | cons p ps ih =>
    show getPs (.tuple [.int p.1, .int p.2] :: ps.map pairD) = _
    unfold getPs
    rw [ih]
theorem sortP_pairs {ps : List (Int × Int)} : sortP (.list (ps.map pairD)) = some (.list ((srtB SrtO.lexB ps).map pairD)) := by
  cases ps with
  | nil => rfl
  | cons p ps =>
    show (match getIs (pairD p :: ps.map pairD) with
      | some is => some (PyData.list ((srtB ltI is).map .int))
      | none => (getPs ((p :: ps).map pairD)).map fun ps => .list ((srtB SrtO.lexB ps).map pairD)) = _
    rw [getPs_map]
    rfl
theorem kept_ok {n : Int} {ps : List (Int × Int)} (hl : ps.length ≤ 1000) : F_lawUkept [.d (.int n), .d (.list (ps.map pairD))] = .ok (.d (gD n (srtB SrtO.lexB (keptL ps [])))) [] := by
  obtain ⟨e', h1, h2⟩ := forM_ok (T := .tp [3, 4]) (g := seqM (setM 5 (ifM (asB (.v 9) (op2 (lift2 (cmpP .Lt)) (.sl 3) (.sl 4) (slotM 3) (slotM 4))) (dispM .tuple (consM (slotM 3) (consM (slotM 4) (M.pure [])))) (dispM .tuple (consM (slotM 4) (consM (slotM 3) (M.pure []))))))
    (seqM (ifS (andM (asB (.v 9) (op2 (lift2 neP) (.sl 3) (.sl 4) (slotM 3) (slotM 4))) (asB (.v 9) (op2 (lift2 notInP) (.sl 5) (.sl 2) (slotM 5) (slotM 2))))
    (seqM (dropM (apM 2 (slotM 5)))
    nxM)
    nxM)
    nxM))
    (fun items e => ∃ (rest acc : List (Int × Int)) (x y z : Option DV), items = (rest.map pairD).map .d ∧ e = [some (.d (.int n)), some (.d (.list (ps.map pairD))), some (.d (.list (acc.map pairD))), x, y, z] ∧ acc.length + rest.length ≤ 1000 ∧ keptL rest acc = keptL ps [])
    (by
      rintro d rest e ⟨rest', acc, x, y, z, hi, rfl, hln, hk⟩
      cases rest' with
      | nil => simp at hi
      | cons p rest' =>
        simp only [List.map_cons, List.cons.injEq] at hi
        obtain ⟨rfl, rfl⟩ := hi
        simp only [List.length_cons] at hln
        refine ⟨[some (.d (.int n)), some (.d (.list (ps.map pairD))), some (.d (.list (acc.map pairD))), some (.d (.int p.1)), some (.d (.int p.2)), z], [some (.d (.int n)), some (.d (.list (ps.map pairD))), some (.d (.list ((if p.1 ≠ p.2 ∧ normP p ∉ acc then acc ++ [normP p] else acc).map pairD))), some (.d (.int p.1)), some (.d (.int p.2)), some (.d (pairD (normP p)))], ?_, .inl ?_, rest', if p.1 ≠ p.2 ∧ normP p ∉ acc then acc ++ [normP p] else acc, _, _, _, rfl, rfl, ?_, ?_⟩
        · simp [pairD]
        · have hb : acc.length < big := by show _ < 1000000; omega
          have hn : (.tuple [.int (if p.1 < p.2 then p.1 else p.2), .int (if p.1 < p.2 then p.2 else p.1)] : PyData) = pairD (normP p) := by
            unfold normP pairD
            split <;> rfl
          by_cases hlt : p.1 < p.2
          · have e1 : normP p = p := by unfold normP; rw [if_pos hlt]
            have e2 : (.tuple [.int p.1, .int p.2] : PyData) = pairD (normP p) := by rw [e1]; rfl
            have hne : ¬ p.1 = p.2 := by omega
            simp [hlt, e2, neP_s shp_int shp_int, eqv_int, hne]
            by_cases hm : normP p ∈ acc
            · simp [notInP_pairs, hm]
            · simp [notInP_pairs, hm, apO, hb]
          · have e1 : normP p = (p.2, p.1) := by unfold normP; rw [if_neg hlt]
            have e2 : (.tuple [.int p.2, .int p.1] : PyData) = pairD (normP p) := by rw [e1]; rfl
            simp [hlt, e2, neP_s shp_int shp_int, eqv_int]
            by_cases hne : p.1 = p.2
            · simp [hne]
            · by_cases hm : normP p ∈ acc
              · simp [notInP_pairs, hm, hne]
              · simp [notInP_pairs, hm, apO, hb, hne]
        · split
          · rw [List.length_append, List.length_singleton]; omega
          · omega
        · rw [← hk]; rfl)
    ((ps.map pairD).map .d) [some (.d (.int n)), some (.d (.list (ps.map pairD))), some (.d (.list [])), none, none, none] ⟨ps, [], none, none, none, rfl, rfl, by simpa using hl, rfl⟩
  obtain ⟨rest, acc, x, y, z, hi, rfl, hln, hk⟩ := h2
  cases rest with
  | cons _ _ => simp at hi
  | nil =>
    have hk : acc = keptL ps [] := hk
    subst hk
    unfold F_lawUkept runF m_lawUkept
    simp only [env0, List.map_cons, List.map_nil, List.length_cons, List.length_nil]
    simp only [seqM_ev, setM_ev, dispM_ev, pure_ev, bind_ok, getDs_nil, forS_ev, seqI_ev, slotM_ev]
    simp [-List.map_map, h1, sortP_pairs, tupleP, gD, ioP, endR]
end Lk
namespace Lk
open PySem PySem.Spec L2
def Nice (n : Int) (es : List (Int × Int)) : Prop := 1 ≤ n ∧ n ≤ 10 ∧ es.length ≤ 24 ∧ es.Pairwise (fun p q => SrtO.lexB p q = true) ∧ ∀ p ∈ es, 0 ≤ p.1 ∧ p.1 < p.2 ∧ p.2 < n
def niceB (n : Int) (es : List (Int × Int)) : Bool := decide (3 ≤ n) && decide (n ≤ 10) && decide (es.length ≤ 24) && decide (es.Pairwise (fun p q => SrtO.lexB p q = true)) && es.all fun p => decide (0 ≤ p.1) && decide (p.1 < p.2) && decide (p.2 < n)
def getG : PyData → Option (Int × List (Int × Int))
  | .tuple [.int n, .tuple xs] => (getPs xs).map fun ps => (n, ps)
  | _ => none
theorem getG_eq {x : PyData} {n : Int} {es : List (Int × Int)} (h : getG x = some (n, es)) : x = gD n es := by
  unfold getG at h
  split at h
  · obtain ⟨ps, h1, h2⟩ := Option.map_eq_some_iff.mp h
    cases h2
    rw [getPs_eq h1]; rfl
  · cases h
def famB : Res → Bool
  | .ok (.d (.list gs)) [] => !gs.isEmpty && decide (gs.length ≤ 100) && gs.all fun g => match getG g with
    | some (n, es) => niceB n es
    | none => false
  | _ => false
theorem fam2 : famB (F_lawUfamily [.d (.int 2)]) = true := by decide +kernel
theorem fam3 : famB (F_lawUfamily [.d (.int 3)]) = true := by decide +kernel
theorem fam4 : famB (F_lawUfamily [.d (.int 4)]) = true := by decide +kernel
end Lk
namespace Lk
open PySem PySem.Spec L2
theorem fam_of {lv : Int} (h : famB (F_lawUfamily [.d (.int lv)]) = true) : ∃ gs : List PyData, F_lawUfamily [.d (.int lv)] = .ok (.d (.list gs)) [] ∧ gs ≠ [] ∧ gs.length ≤ 100 ∧ ∀ g ∈ gs, ∃ n es, g = gD n es ∧ Nice n es ∧ 3 ≤ n := by
  revert h
  cases F_lawUfamily [.d (.int lv)] with
  | bad => intro h; cases h
  | ex c g => intro h; cases h
  | ok d outs =>
    intro h
    unfold famB at h
    split at h
    · rename_i gs e
      cases e
      simp only [Bool.and_eq_true, decide_eq_true_eq, List.all_eq_true, Bool.not_eq_true', List.isEmpty_eq_false_iff] at h
      refine ⟨gs, rfl, h.1.1, h.1.2, fun g hg => ?_⟩
      have q := h.2 g hg
      cases e2 : getG g with
      | none => rw [e2] at q; cases q
      | some z =>
        obtain ⟨n, es⟩ := z
        rw [e2] at q
        simp only [niceB, Bool.and_eq_true, decide_eq_true_eq, List.all_eq_true] at q
        obtain ⟨⟨⟨⟨h1, h2⟩, h3⟩, h4⟩, h5⟩ := q
        exact ⟨n, es, getG_eq e2, ⟨by omega, h2, h3, h4, fun p hp => ⟨(h5 p hp).1.1, (h5 p hp).1.2, (h5 p hp).2⟩⟩, h1⟩
    · cases h
theorem srt_strict {l : List (Int × Int)} (h : l.Nodup) : (srtB SrtO.lexB l).Pairwise (fun p q => SrtO.lexB p q = true) := by
  have h1 := srtB_srt tot_pair l
  have h2 : (srtB SrtO.lexB l).Nodup := (srtB_perm l).nodup_iff.mpr h
  have h3 : (srtB SrtO.lexB l).Pairwise (fun p q => SrtO.lexB q p = false ∧ p ≠ q) := List.Pairwise.and h1 h2
  refine h3.imp fun {p q} h => ?_
  cases e : SrtO.lexB p q with
  | true => rfl
  | false => exact absurd (tot_pair.eq p q e h.1) h.2
theorem nice_kept {n : Int} {ps : List (Int × Int)} (h1 : 1 ≤ n) (h2 : n ≤ 10) (h3 : (keptL ps []).length ≤ 24) (h4 : ∀ p ∈ ps, 0 ≤ p.1 ∧ p.1 < n ∧ 0 ≤ p.2 ∧ p.2 < n) : Nice n (srtB SrtO.lexB (keptL ps [])) := by
  refine ⟨h1, h2, by rw [(srtB_perm _).length_eq]; exact h3, srt_strict (keptL_nodup List.nodup_nil), fun q hq => ?_⟩
  have hq := (srtB_perm _).mem_iff.mp hq
  rcases keptL_mem.mp hq with hq | ⟨p, hp, hne, rfl⟩
  · cases hq
  · have := h4 p hp
    unfold normP
    split
    · omega
    · simp only
      omega
/-- the pairs of numbers below n -/
def pairsL (n : Int) : List (Int × Int) := (rgL 0 n).flatMap fun a => (rgL (a + 1) n).map fun b => (a, b)
theorem mem_pairsL {n : Int} {p : Int × Int} (h : p ∈ pairsL n) : 0 ≤ p.1 ∧ p.1 < p.2 ∧ p.2 < n := by
  unfold pairsL at h
  obtain ⟨a, ha, h⟩ := List.mem_flatMap.mp h
  obtain ⟨b, hb, rfl⟩ := List.mem_map.mp h
  have := mem_rgL.mp ha
  have := mem_rgL.mp hb
  simp only
  omega
theorem filt_true {α : Type} {f : α → PyData} {h : DV → PyData} {g : α → PyData} (hf : ∀ a, h (.d (f a)) = g a) (l : List α) : (((l.map f).map DV.d).filter fun _ => true).map h = l.map g := by
  induction l with
  | nil => rfl
  | cons a l ih =>
    simp only [List.map_cons, List.filter_cons, if_true, hf]
    rw [ih]
theorem addP_ll {xs ys : List PyData} (h : xs.length + ys.length ≤ big) : addP (.list xs) (.list ys) = some (.list (xs ++ ys)) := by
  show (if xs.length + ys.length ≤ big then some (PyData.list (xs ++ ys)) else none) = _
  rw [if_pos h]
theorem rgI_ok {a b : Int} (h : rgOk a b = true) : rgI (some (.d (.int a))) (some (.d (.int b))) = some ((rgP a b).map .d) := by
  show (if rgOk a b then some ((rgP a b).map DV.d) else none) = _
  rw [if_pos h]
theorem rgOk_of {a b : Int} (h1 : 0 ≤ a) (h2 : a ≤ 1000) (h3 : 0 ≤ b) (h4 : b ≤ 1000) : rgOk a b = true := by
  unfold rgOk; simp; omega
theorem len_flat_le {α β : Type} {f : α → List β} {c : Nat} : ∀ {l : List α}, (∀ a ∈ l, (f a).length ≤ c) → (l.flatMap f).length ≤ l.length * c
  | [], _ => by simp
  | a :: l, h => by
    simp only [List.flatMap_cons, List.length_append, List.length_cons]
    have h1 := h a List.mem_cons_self
    have h2 := len_flat_le (l := l) fun b hb => h b (List.mem_cons_of_mem _ hb)
    rw [Nat.succ_mul]
    omega
theorem pairs_ok {n : Int} (h0 : 0 ≤ n) (hn : n ≤ 100) : F_lawUpairsUof [.d (.int n)] = .ok (.d (.list ((pairsL n).map pairD))) [] := by
  obtain ⟨e', h1, h2⟩ := forM_ok (T := .nm 2) (g := seqM (setM 1 (op2 (lift2 addP) (.sl 1) (.v 2) (slotM 1) (compM (.nm 3) [3] (rg2I (.v 1) (.sl 0) (op2 (lift2 addP) (.sl 2) (.v 9) (slotM 2) (M.pure (.d (.int 1)))) (slotM 0)) (M.pure true) (dispM .tuple (consM (slotM 2) (consM (slotM 3) (M.pure [])))))))
    nxM)
    (fun items e => ∃ (done rest : List Int) (x : Option DV), items = (rest.map .int).map .d ∧ done ++ rest = rgL 0 n ∧ e = [some (.d (.int n)), some (.d (.list ((done.flatMap fun a => (rgL (a + 1) n).map fun b => (a, b)).map pairD))), x, none])
    (by
      rintro d rest e ⟨done, rest', x, hi, hr, rfl⟩
      cases rest' with
      | nil => simp at hi
      | cons a rest' =>
        simp only [List.map_cons, List.cons.injEq] at hi
        obtain ⟨rfl, rfl⟩ := hi
        have ha : a ∈ rgL 0 n := by rw [← hr]; simp
        have ha := mem_rgL.mp ha
        have hrg : rgOk (a + 1) n = true := rgOk_of (by omega) (by omega) (by omega) (by omega)
        have hdl : done.length ≤ 100 := by
          have := congrArg List.length hr
          rw [List.length_append, len_rgL] at this
          omega
        have hcomp := compGo_nm (k := 3) (ft := M.pure true) (fe := dispM .tuple (consM (slotM 2) (consM (slotM 3) (M.pure []))))
          (e := [some (.d (.int n)), some (.d (.list ((done.flatMap fun a => (rgL (a + 1) n).map fun b => (a, b)).map pairD))), some (.d (.int a)), none])
          (fun _ => true) (fun d => pairD (a, undI d)) (((rgL (a + 1) n).map .int).map .d) rfl (by simp) (by
            intro d hd
            obtain ⟨x, hx, rfl⟩ := List.mem_map.mp hd
            obtain ⟨j, hj, rfl⟩ := List.mem_map.mp hx
            exact ⟨by simp, fun _ => by simp [pairD]⟩) (by show _ ≤ 1000000; simp [len_rgL]; omega)
        rw [filt_true (g := fun b => pairD (a, b)) (fun _ => rfl)] at hcomp
        have hb : ((done.flatMap fun a => (rgL (a + 1) n).map fun b => (a, b)).map pairD).length + ((rgL (a + 1) n).map fun b => pairD (a, b)).length ≤ big := by
          have h1 : (done.flatMap fun a => (rgL (a + 1) n).map fun b => (a, b)).length ≤ done.length * 200 := len_flat_le fun b hb => by
            have : b ∈ rgL 0 n := by rw [← hr]; simp [hb]
            have := mem_rgL.mp this
            simp [len_rgL]; omega
          rw [List.length_map, List.length_map, len_rgL]
          show _ ≤ 1000000
          omega
        refine ⟨[some (.d (.int n)), some (.d (.list ((done.flatMap fun a => (rgL (a + 1) n).map fun b => (a, b)).map pairD))), some (.d (.int a)), none], _, rfl, .inl ?_, done ++ [a], rest', some (.d (.int a)), rfl, by simpa using hr, rfl⟩
        simp only [seqM_ev, setM_ev, op2_ev, compM_ev, rg2I_ev, slotM_ev, slot_0, slot_s, bind_ok, now_sl, now_v, pure_ev, lift2_d, addP_ii, Option.map_some, rgI_ok hrg, ofO_some, rgP_rgL, wipeE_cons, wipeE_nil, restE_cons, restE_nil, List.set_cons_succ, List.set_cons_zero]
        simp only [hcomp, bind_ok]
        simp only [slot_s, slot_0, List.set_cons_succ, List.set_cons_zero, lift2_d, addP_ll hb, Option.map_some, List.length_cons, List.length_nil]
        simp [-List.map_map, List.flatMap_append]
        simp [pairD])
    (((rgL 0 n).map .int).map .d) [some (.d (.int n)), some (.d (.list [])), none, none] ⟨[], rgL 0 n, none, rfl, rfl, rfl⟩
  obtain ⟨done, rest, x, hi, hr, rfl⟩ := h2
  cases rest with
  | cons _ _ => simp at hi
  | nil =>
    have hr : done = rgL 0 n := by simpa using hr
    subst hr
    have hrg : rgOk 0 n = true := rgOk_of (by omega) (by omega) (by omega) (by omega)
    unfold F_lawUpairsUof runF m_lawUpairsUof
    simp only [env0, List.map_cons, List.map_nil, List.length_cons, List.length_nil]
    simp [-List.map_map, rgI_ok hrg, rgP_rgL, h1, pairsL, ioP, endR]
end Lk
namespace Lk
open PySem PySem.Spec L2
def atD (l : List Int) (i : Int) : Int := (atI l i).getD 0
theorem atD_ok {l : List Int} {i : Int} (h0 : 0 ≤ i) (h1 : i < l.length) : atI l i = some (atD l i) ∧ atD l i ∈ l := by
  obtain ⟨x, h, hx⟩ := atI_in h0 h1
  unfold atD
  rw [h]
  exact ⟨rfl, hx⟩
theorem named_ok {n : Int} {es : List (Int × Int)} {l : List Int} (hg : Nice n es) (hp : l.Perm (rgL 0 n)) : ∃ es', F_lawUnamed [.d (gD n es), .d (.list (l.map .int))] = .ok (.d (gD n es')) [] ∧ Nice n es' := by
  obtain ⟨g1, g2, g3, g4, g5⟩ := hg
  have hlen : (l.length : Int) = n := by rw [hp.length_eq, len_rgL]; omega
  have inl : ∀ i, 0 ≤ i → i < n → atI l i = some (atD l i) ∧ 0 ≤ atD l i ∧ atD l i < n := fun i h0 h1 => by
    obtain ⟨q1, q2⟩ := atD_ok (l := l) h0 (by omega)
    have := mem_rgL.mp (hp.mem_iff.mp q2)
    exact ⟨q1, this.1, this.2⟩
  have hcomp := compGo_tp (k := 2) (l := 3) (ft := M.pure true) (fe := dispM .tuple (consM (op2 ixD (.sl 1) (.sl 2) (slotM 1) (slotM 2)) (consM (op2 ixD (.sl 1) (.sl 3) (slotM 1) (slotM 3)) (M.pure []))))
    (e := [some (.d (gD n es)), some (.d (.list (l.map .int))), none, none]) (fun _ => true) (fun d => pairD (atD l (undI (.d d.1)), atD l (undI (.d d.2)))) (es.map fun p => (.int p.1, .int p.2)) rfl (by decide) (by simp) (by simp) (by
      intro d hd
      obtain ⟨p, hp, rfl⟩ := List.mem_map.mp hd
      have := g5 p hp
      refine ⟨by simp, fun _ => ?_⟩
      simp [atI_map, (inl p.1 (by omega) (by omega)).1, (inl p.2 (by omega) (by omega)).1, pairD]) (by show _ ≤ 1000000; simp; omega)
  have hi : (es.map fun p => ((.int p.1, .int p.2) : PyData × PyData)).map (fun d => DV.d (.tuple [d.1, d.2])) = (es.map pairD).map .d := by simp [pairD]
  have ho : ((es.map fun p => ((.int p.1, .int p.2) : PyData × PyData)).filter fun _ => true).map (fun d => pairD (atD l (undI (.d d.1)), atD l (undI (.d d.2)))) = (es.map fun p => (atD l p.1, atD l p.2)).map pairD := by
    rw [List.filter_eq_self.mpr (fun _ _ => rfl)]
    simp
  rw [hi, ho] at hcomp
  refine ⟨srtB SrtO.lexB (keptL (es.map fun p => (atD l p.1, atD l p.2)) []), ?_, nice_kept g1 g2 (Nat.le_trans keptL_len (by simpa using g3)) fun q hq => ?_⟩
  · have hk := kept_ok (n := n) (ps := es.map fun p => (atD l p.1, atD l p.2)) (by simp; omega)
    unfold F_lawUnamed runF m_lawUnamed
    simp only [env0, List.map_cons, List.map_nil, List.length_cons, List.length_nil]
    have e0 : atI [PyData.int n, .tuple (es.map pairD)] 0 = some (.int n) := atI_0
    have e1 : atI [PyData.int n, .tuple (es.map pairD)] 1 = some (.tuple (es.map pairD)) := atI_1
    unfold gD at hcomp ⊢
    unfold gD at hk
    simp only [seqM_ev, retM_ev, callF_ev, consM_ev, op2_ev, slotM_ev, slot_0, slot_s, pure_ev, bind_ok, now_sl, now_v, ixD_t, e0, e1, Option.map_some, compM_ev, seqI_ev, itemsOf_tuple, ofO_some, wipeE_cons, wipeE_nil, restE_cons, restE_nil, List.set_cons_succ, List.set_cons_zero,
      List.replicate, List.cons_append, List.nil_append]
    rw [hcomp]
    simp [-List.map_map, hk, putM, clrM, ioP, endR]
  · obtain ⟨p, hp, rfl⟩ := List.mem_map.mp hq
    have := g5 p hp
    have h1 := inl p.1 (by omega) (by omega)
    have h2 := inl p.2 (by omega) (by omega)
    exact ⟨h1.2.1, h1.2.2, h2.2.1, h2.2.2⟩
end Lk
namespace Lk
open PySem PySem.Spec L2
theorem cut_mem {xs : List PyData} {lo hi : Option Int} {x : PyData} (h : x ∈ cutP xs lo hi) : x ∈ xs := List.mem_of_mem_drop (List.mem_of_mem_take h)
theorem cut_len {xs : List PyData} {j : Int} (h : 0 ≤ j) : (cutP xs none (some j)).length ≤ j.toNat := by
  unfold cutP
  simp only [HT.sIx_none, List.drop_zero, Nat.sub_zero]
  have : HT.sIx xs.length xs.length (some j) = min j.toNat xs.length := by
    show (if j < 0 then (j + (xs.length : Int)).toNat else min j.toNat xs.length) = _
    rw [if_neg (by omega)]
  rw [this, List.length_take]
  omega
theorem pairs10 : (pairsL 10).length = 45 := by decide +kernel
theorem full_ok {w : DV} (hw : WL w) : ∃ es w', F_lawUfull [w, .d (.int 24)] = .ok (.d (gD 10 es)) [w'] ∧ WL w' ∧ Nice 10 es := by
  obtain ⟨l, w', ho, hw', hp⟩ := order_ok (n := 45) hw (by omega) (by omega)
  have hpr := pairs_ok (n := 10) (by omega) (by omega)
  have inl : ∀ x ∈ cutP (l.map .int) none (some 24), ∃ k : Int, x = .int k ∧ 0 ≤ k ∧ k < 45 := fun x hx => by
    obtain ⟨k, hk, rfl⟩ := List.mem_map.mp (cut_mem hx)
    have := mem_rgL.mp (hp.mem_iff.mp hk)
    exact ⟨k, rfl, this.1, this.2⟩
  obtain ⟨e', h1, h2⟩ := forM_ok (T := .nm 3) (g := seqM (dropM (apM 2 (op2 ixD (.v 1) (.sl 3) (callF F_lawUpairsUof [.fz] [.v 9] (consM (M.pure (.d (.int 10))) (M.pure []))) (slotM 3))))
    nxM)
    (fun items e => ∃ (rest : List PyData) (ps : List (Int × Int)) (x : Option DV), items = rest.map .d ∧ (∀ y ∈ rest, ∃ k : Int, y = .int k ∧ 0 ≤ k ∧ k < 45) ∧ ps.length + rest.length ≤ 24 ∧ (∀ p ∈ ps, p ∈ pairsL 10) ∧ e = [some w', some (.d (.int 24)), some (.d (.list (ps.map pairD))), x])
    (by
      rintro d rest e ⟨rest', ps, x, hi, hr, hln, hps, rfl⟩
      cases rest' with
      | nil => simp at hi
      | cons y rest' =>
        simp only [List.map_cons, List.cons.injEq] at hi
        obtain ⟨rfl, rfl⟩ := hi
        obtain ⟨k, rfl, hk0, hk1⟩ := hr y List.mem_cons_self
        simp only [List.length_cons] at hln
        obtain ⟨q, hq1, hq2⟩ := atI_in (xs := pairsL 10) (i := k) hk0 (by rw [pairs10]; omega)
        have hb : ps.length < big := by show _ < 1000000; omega
        refine ⟨[some w', some (.d (.int 24)), some (.d (.list (ps.map pairD))), some (.d (.int k))], [some w', some (.d (.int 24)), some (.d (.list ((ps ++ [q]).map pairD))), some (.d (.int k))], rfl, .inl ?_, rest', ps ++ [q], _, rfl, fun z hz => hr z (List.mem_cons_of_mem _ hz), by simp; omega, fun p hp => ?_, rfl⟩
        · simp [hpr, putM, clrM, atI_map, hq1, apO, hb]
        · rcases List.mem_append.mp hp with hp | hp
          · exact hps p hp
          · rw [List.mem_singleton.mp hp]; exact hq2)
    ((cutP (l.map .int) none (some 24)).map .d) [some w', some (.d (.int 24)), some (.d (.list [])), none] ⟨_, [], none, rfl, inl, by have := cut_len (xs := l.map .int) (j := 24) (by omega); simpa using this, (fun _ h => nomatch h), rfl⟩
  obtain ⟨rest, ps, x, hi, _, hln, hps, rfl⟩ := h2
  cases rest with
  | cons _ _ => simp at hi
  | nil =>
    have hk := kept_ok (n := 10) (ps := ps) (by simp at hln; omega)
    refine ⟨srtB SrtO.lexB (keptL ps []), w', ?_, hw', nice_kept (by omega) (by omega) (Nat.le_trans keptL_len (by simpa using hln)) fun p hp => ?_⟩
    · unfold F_lawUfull runF m_lawUfull
      simp only [env0, List.map_cons, List.map_nil, List.length_cons, List.length_nil]
      simp [-List.map_map, ho, putM, clrM, slD, intD, h1, hk, ioP, endR]
    · have := mem_pairsL (hps p hp)
      omega
end Lk
namespace Lk
open PySem PySem.Spec L2
def EPs (n : Int) (ps : List (Int × Int)) : Prop := ∀ p ∈ ps, 0 ≤ p.1 ∧ p.1 < p.2 ∧ p.2 < n
theorem pairsL_ne {n : Int} (h : 2 ≤ n) : pairsL n ≠ [] := by
  intro e
  have : (0, 1) ∈ pairsL n := by
    unfold pairsL
    exact List.mem_flatMap.mpr ⟨0, mem_rgL.mpr (by omega), List.mem_map.mpr ⟨1, mem_rgL.mpr (by omega), rfl⟩⟩
  rw [e] at this
  cases this
theorem pairsL_len {n : Int} (h0 : 0 ≤ n) (h : n ≤ 10) : (pairsL n).length ≤ 100 := by
  have h1 : (pairsL n).length ≤ (rgL 0 n).length * 10 := len_flat_le fun b hb => by
    have := mem_rgL.mp hb
    simp [len_rgL]; omega
  rw [len_rgL] at h1
  omega
theorem filt_pair {q : Int × Int} (ps : List (Int × Int)) : (((ps.map pairD).map DV.d).filter fun d => !PyData.eqv (undD d) (pairD q)).map undD = (ps.filter fun p => decide (p ≠ q)).map pairD := by
  rw [filt_map (f := pairD) (p := fun d => !PyData.eqv (undD d) (pairD q)) (q := fun p => decide (p ≠ q)) (fun a => by simp [eqv_pair])]
/-- the loop of changes -/
theorem graph_more {w : DV} {n : Int} {es : List (Int × Int)} {o3 o4 : Option DV} {items : List DV} (hw : WL w) (hg : Nice n es) (hn : 3 ≤ n) (hl : items.length ≤ 10) {o7 o8 o9 o10 : Option DV} :
    ∃ (w' : DV) (ps : List (Int × Int)) (x y : Option DV), forM (.nm 7) (seqM (setM 8 (callF F_lawUpick [.io 1 1, .fz] [.sl 0, .v 1] (consM (slotM 0) (consM (callF F_lawUpairsUof [.fz] [.v 0] (consM (op2 ixD (.sl 5) (.v 9) (slotM 5) (M.pure (.d (.int 0)))) (M.pure []))) (M.pure [])))))
    (seqM (ifS (orM (asB (.v 9) (op2 (lift2 eqP) (.v 9) (.v 9) (callF F_lawUdraw [.io 1 1, .fz] [.sl 0, .v 9] (consM (slotM 0) (consM (M.pure (.d (.int 2))) (M.pure [])))) (M.pure (.d (.int 0))))) (asB (.v 9) (op2 (lift2 (cmpP .GtE)) (.v 9) (.sl 2) (callM lenD [.sl 6] (consM (slotM 6) (M.pure []))) (slotM 2))))
    (seqM (setM 6 (compM (.nm 11) [11] (seqI (slotM 6)) (asB (.v 9) (op2 (lift2 neP) (.sl 11) (.sl 8) (slotM 11) (slotM 8))) (slotM 11)))
    nxM)
    (seqM (dropM (apM 6 (slotM 8)))
    nxM))
    nxM)) items [some w, some (.d (.int 10)), some (.d (.int 24)), o3, o4, some (.d (gD n es)), some (.d (.list (es.map pairD))), o7, o8, o9, o10, none] = .ok .nx [some w', some (.d (.int 10)), some (.d (.int 24)), o3, o4, some (.d (gD n es)), some (.d (.list (ps.map pairD))), x, y, o9, o10, none] ∧ WL w' ∧ EPs n ps ∧ ps.length ≤ 24 := by
  obtain ⟨g1, g2, g3, g4, g5⟩ := hg
  obtain ⟨e', h1, h2⟩ := forM_ok (T := .nm 7) (g := seqM (setM 8 (callF F_lawUpick [.io 1 1, .fz] [.sl 0, .v 1] (consM (slotM 0) (consM (callF F_lawUpairsUof [.fz] [.v 0] (consM (op2 ixD (.sl 5) (.v 9) (slotM 5) (M.pure (.d (.int 0)))) (M.pure []))) (M.pure [])))))
    (seqM (ifS (orM (asB (.v 9) (op2 (lift2 eqP) (.v 9) (.v 9) (callF F_lawUdraw [.io 1 1, .fz] [.sl 0, .v 9] (consM (slotM 0) (consM (M.pure (.d (.int 2))) (M.pure [])))) (M.pure (.d (.int 0))))) (asB (.v 9) (op2 (lift2 (cmpP .GtE)) (.v 9) (.sl 2) (callM lenD [.sl 6] (consM (slotM 6) (M.pure []))) (slotM 2))))
    (seqM (setM 6 (compM (.nm 11) [11] (seqI (slotM 6)) (asB (.v 9) (op2 (lift2 neP) (.sl 11) (.sl 8) (slotM 11) (slotM 8))) (slotM 11)))
    nxM)
    (seqM (dropM (apM 6 (slotM 8)))
    nxM))
    nxM))
    (fun items e => ∃ (w : DV) (ps : List (Int × Int)) (x y : Option DV), WL w ∧ EPs n ps ∧ ps.length ≤ 24 ∧ e = [some w, some (.d (.int 10)), some (.d (.int 24)), o3, o4, some (.d (gD n es)), some (.d (.list (ps.map pairD))), x, y, o9, o10, none])
    (by
      rintro d rest e ⟨w, ps, x, y, hw, hps, hln, rfl⟩
      obtain ⟨z, w1, hpk, hw1, hz⟩ := pick_ok (w := w) (xs := (pairsL n).map pairD) hw (by simpa using pairsL_ne (by omega)) (by have := pairsL_len (n := n) (by omega) g2; rw [List.length_map]; omega)
      obtain ⟨q, hq, rfl⟩ := List.mem_map.mp hz
      obtain ⟨r, w2, hd, hw2, hr0, hr1⟩ := draw_ok (w := w1) (m := 2) hw1 (by omega) (by omega)
      have hpr := pairs_ok (n := n) (by omega) (by omega)
      have e0 : atI [PyData.int n, .tuple (es.map pairD)] 0 = some (.int n) := atI_0
      have hb : ps.length < big := by show _ < 1000000; omega
      have hcomp := compGo_nm (k := 11) (ft := asB (.v 9) (op2 (lift2 neP) (.sl 11) (.sl 8) (slotM 11) (slotM 8))) (fe := slotM 11)
        (e := [some w2, some (.d (.int 10)), some (.d (.int 24)), o3, o4, some (.d (gD n es)), some (.d (.list (ps.map pairD))), some d, some (.d (pairD q)), o9, o10, none])
        (fun d => !PyData.eqv (undD d) (pairD q)) undD ((ps.map pairD).map .d) rfl (by simp) (by
          intro d hd
          obtain ⟨x, hx, rfl⟩ := List.mem_map.mp hd
          obtain ⟨p, hp, rfl⟩ := List.mem_map.mp hx
          exact ⟨by simp [neP_s shp_pair shp_pair], fun _ => by simp⟩) (by show _ ≤ 1000000; simp; omega)
      rw [filt_pair] at hcomp
      by_cases hc : r = 0 ∨ 24 ≤ (ps.length : Int)
      · refine ⟨[some w, some (.d (.int 10)), some (.d (.int 24)), o3, o4, some (.d (gD n es)), some (.d (.list (ps.map pairD))), some d, y, o9, o10, none], [some w2, some (.d (.int 10)), some (.d (.int 24)), o3, o4, some (.d (gD n es)), some (.d (.list ((ps.filter fun p => decide (p ≠ q)).map pairD))), some d, some (.d (pairD q)), o9, o10, none], rfl, .inl ?_, w2, ps.filter (fun p => decide (p ≠ q)), some d, some (.d (pairD q)), hw2, fun p hp => hps p ((List.mem_filter.mp hp).1), Nat.le_trans (List.length_filter_le _ _) hln, rfl⟩
        unfold gD at hcomp ⊢
        rcases hc with rfl | hc
        · simp [-List.map_map, e0, hpr, hpk, hd, putM, clrM, hcomp]
        · by_cases hr : r = 0
          · subst hr
            simp [-List.map_map, e0, hpr, hpk, hd, putM, clrM, hcomp]
          · simp [-List.map_map, e0, hpr, hpk, hd, putM, clrM, hr, lenD, hc, hcomp]
      · have hc1 : ¬ r = 0 := fun e => hc (.inl e)
        have hc2 : ¬ 24 ≤ (ps.length : Int) := fun e => hc (.inr e)
        refine ⟨[some w, some (.d (.int 10)), some (.d (.int 24)), o3, o4, some (.d (gD n es)), some (.d (.list (ps.map pairD))), some d, y, o9, o10, none], [some w2, some (.d (.int 10)), some (.d (.int 24)), o3, o4, some (.d (gD n es)), some (.d (.list ((ps ++ [q]).map pairD))), some d, some (.d (pairD q)), o9, o10, none], rfl, .inl ?_, w2, ps ++ [q], some d, some (.d (pairD q)), hw2, fun p hp => ?_, by simp; omega, rfl⟩
        · unfold gD
          simp [-List.map_map, e0, hpr, hpk, hd, putM, clrM, hc1, lenD, hc2, apO, hb]
        · rcases List.mem_append.mp hp with hp | hp
          · exact hps p hp
          · rw [List.mem_singleton.mp hp]; exact mem_pairsL hq)
    items [some w, some (.d (.int 10)), some (.d (.int 24)), o3, o4, some (.d (gD n es)), some (.d (.list (es.map pairD))), o7, o8, o9, o10, none] ⟨w, es, o7, o8, hw, g5, g3, rfl⟩
  obtain ⟨w', ps, x, y, a1, a2, a3, rfl⟩ := h2
  exact ⟨w', ps, x, y, h1, a1, a2, a3⟩
end Lk
namespace Lk
open PySem PySem.Spec L2
/-- the loop over all pairs -/
theorem graph_some {w : DV} {n sh : Int} {all : List (Int × Int)} (hw : WL w) (ha : EPs n all) {o3 o4 o5 o6 o7 o8 : Option DV} :
    ∃ (w' : DV) (ps : List (Int × Int)) (x : Option DV), forM (.nm 8) (seqM (ifS (andM (asB (.v 9) (op2 (lift2 (cmpP .Lt)) (.v 9) (.sl 10) (callF F_lawUdraw [.io 1 1, .fz] [.sl 0, .v 9] (consM (slotM 0) (consM (M.pure (.d (.int 6))) (M.pure [])))) (slotM 10))) (asB (.v 9) (op2 (lift2 (cmpP .Lt)) (.v 9) (.sl 2) (callM lenD [.sl 9] (consM (slotM 9) (M.pure []))) (slotM 2))))
    (seqM (dropM (apM 9 (slotM 8)))
    nxM)
    nxM)
    nxM) ((all.map pairD).map .d) [some w, some (.d (.int 10)), some (.d (.int 24)), o3, o4, o5, o6, o7, o8, some (.d (.list [])), some (.d (.int sh)), none] = .ok .nx [some w', some (.d (.int 10)), some (.d (.int 24)), o3, o4, o5, o6, o7, x, some (.d (.list (ps.map pairD))), some (.d (.int sh)), none] ∧ WL w' ∧ EPs n ps ∧ ps.length ≤ 24 := by
  obtain ⟨e', h1, h2⟩ := forM_ok (T := .nm 8) (g := seqM (ifS (andM (asB (.v 9) (op2 (lift2 (cmpP .Lt)) (.v 9) (.sl 10) (callF F_lawUdraw [.io 1 1, .fz] [.sl 0, .v 9] (consM (slotM 0) (consM (M.pure (.d (.int 6))) (M.pure [])))) (slotM 10))) (asB (.v 9) (op2 (lift2 (cmpP .Lt)) (.v 9) (.sl 2) (callM lenD [.sl 9] (consM (slotM 9) (M.pure []))) (slotM 2))))
    (seqM (dropM (apM 9 (slotM 8)))
    nxM)
    nxM)
    nxM)
    (fun items e => ∃ (w : DV) (rest ps : List (Int × Int)) (x : Option DV), items = (rest.map pairD).map .d ∧ EPs n rest ∧ WL w ∧ EPs n ps ∧ ps.length ≤ 24 ∧ e = [some w, some (.d (.int 10)), some (.d (.int 24)), o3, o4, o5, o6, o7, x, some (.d (.list (ps.map pairD))), some (.d (.int sh)), none])
    (by
      rintro d rest e ⟨w, rest', ps, x, hi, hr, hw, hps, hln, rfl⟩
      cases rest' with
      | nil => simp at hi
      | cons q rest' =>
        simp only [List.map_cons, List.cons.injEq] at hi
        obtain ⟨rfl, rfl⟩ := hi
        obtain ⟨r, w2, hd, hw2, hr0, hr1⟩ := draw_ok (w := w) (m := 6) hw (by omega) (by omega)
        have hb : ps.length < big := by show _ < 1000000; omega
        have hr' : EPs n rest' := fun p hp => hr p (List.mem_cons_of_mem _ hp)
        by_cases hc : r < sh ∧ (ps.length : Int) < 24
        · refine ⟨[some w, some (.d (.int 10)), some (.d (.int 24)), o3, o4, o5, o6, o7, some (.d (pairD q)), some (.d (.list (ps.map pairD))), some (.d (.int sh)), none], [some w2, some (.d (.int 10)), some (.d (.int 24)), o3, o4, o5, o6, o7, some (.d (pairD q)), some (.d (.list ((ps ++ [q]).map pairD))), some (.d (.int sh)), none], rfl, .inl ?_, w2, rest', ps ++ [q], _, rfl, hr', hw2, fun p hp => ?_, by simp; omega, rfl⟩
          · simp [-List.map_map, hd, putM, clrM, hc.1, lenD, hc.2, apO, hb]
          · rcases List.mem_append.mp hp with hp | hp
            · exact hps p hp
            · rw [List.mem_singleton.mp hp]; exact hr q List.mem_cons_self
        · refine ⟨[some w, some (.d (.int 10)), some (.d (.int 24)), o3, o4, o5, o6, o7, some (.d (pairD q)), some (.d (.list (ps.map pairD))), some (.d (.int sh)), none], [some w2, some (.d (.int 10)), some (.d (.int 24)), o3, o4, o5, o6, o7, some (.d (pairD q)), some (.d (.list (ps.map pairD))), some (.d (.int sh)), none], rfl, .inl ?_, w2, rest', ps, _, rfl, hr', hw2, hps, hln, rfl⟩
          by_cases h1 : r < sh
          · have h2 : ¬ (ps.length : Int) < 24 := fun z => hc ⟨h1, z⟩
            simp [-List.map_map, hd, putM, clrM, h1, lenD, h2]
          · simp [-List.map_map, hd, putM, clrM, h1])
    ((all.map pairD).map .d) [some w, some (.d (.int 10)), some (.d (.int 24)), o3, o4, o5, o6, o7, o8, some (.d (.list [])), some (.d (.int sh)), none] ⟨w, all, [], o8, rfl, ha, hw, (fun _ h => nomatch h), by simp, rfl⟩
  obtain ⟨w', rest, ps, x, _, _, a1, a2, a3, rfl⟩ := h2
  exact ⟨w', ps, x, h1, a1, a2, a3⟩
theorem graph_ok {w : DV} (hw : WL w) : ∃ n es w', F_lawUgraph [w, .d (.int 10), .d (.int 24)] = .ok (.d (gD n es)) [w'] ∧ WL w' ∧ Nice n es := by
  obtain ⟨r1, w1, hd1, hw1, a1, a2⟩ := draw_ok (w := w) (m := 10) hw (by omega) (by omega)
  obtain ⟨r2, w2, hd2, hw2, b1, b2⟩ := draw_ok (w := w1) (m := 3) hw1 (by omega) (by omega)
  have hpr := pairs_ok (n := 1 + r1) (by omega) (by omega)
  by_cases hz : r2 = 0
  · subst hz
    obtain ⟨x, w3, hp3, hw3, hx⟩ := pick_okT (w := w2) (xs := [.int 2, .int 3, .int 4]) hw2 (by simp) (by simp)
    have hfam : ∃ gs : List PyData, F_lawUfamily [.d x] = .ok (.d (.list gs)) [] ∧ gs ≠ [] ∧ gs.length ≤ 100 ∧ ∀ g ∈ gs, ∃ n es, g = gD n es ∧ Nice n es ∧ 3 ≤ n := by
      simp only [List.mem_cons, List.not_mem_nil, or_false] at hx
      rcases hx with rfl | rfl | rfl
      · exact fam_of fam2
      · exact fam_of fam3
      · exact fam_of fam4
    obtain ⟨gs, hf, hne, hgl, hgs⟩ := hfam
    obtain ⟨g, w4, hp4, hw4, hg⟩ := pick_ok (w := w3) hw3 hne (by omega)
    obtain ⟨n, es, rfl, hnice, hn3⟩ := hgs g hg
    obtain ⟨l, w5, ho, hw5, hperm⟩ := order_ok (w := w4) (n := n) hw4 (by omega) (by have := hnice.2.1; omega)
    obtain ⟨es', hnm, hnice'⟩ := named_ok hnice hperm
    obtain ⟨r4, w6, hd4, hw6, c1, c2⟩ := draw_ok (w := w5) (m := 4) hw5 (by omega) (by omega)
    obtain ⟨w7, ps, x', y', hloop, hw7, hps, hpl⟩ := graph_more (w := w6) (n := n) (es := es') (o3 := some (.d (.int (1 + r1)))) (o4 := some (.d (.list ((pairsL (1 + r1)).map pairD)))) (items := (rgP 0 r4).map .d) hw6 hnice' hn3 (by rw [List.length_map, rgP_len]; omega) (o7 := none) (o8 := none) (o9 := none) (o10 := none)
    have hrg : rgOk 0 r4 = true := rgOk_of (by omega) (by omega) (by omega) (by omega)
    have hk := kept_ok (n := n) (ps := ps) (by omega)
    refine ⟨n, srtB SrtO.lexB (keptL ps []), w7, ?_, hw7, nice_kept hnice.1 hnice.2.1 (Nat.le_trans keptL_len (by simpa using hpl)) fun p hp => by have := hps p hp; omega⟩
    have e0 : atI [PyData.int n, .tuple (es.map pairD)] 0 = some (.int n) := atI_0
    have e1 : atI [PyData.int n, .tuple (es.map pairD)] 1 = some (.tuple (es.map pairD)) := atI_1
    have e0' : atI [PyData.int n, .tuple (es'.map pairD)] 0 = some (.int n) := atI_0
    have e1' : atI [PyData.int n, .tuple (es'.map pairD)] 1 = some (.tuple (es'.map pairD)) := atI_1
    have h10 : n ≤ 10 := hnice.2.1
    have h24 : (es.length : Int) ≤ 24 := by have := hnice.2.2.1; omega
    unfold F_lawUgraph runF m_lawUgraph
    simp only [env0, List.map_cons, List.map_nil, List.length_cons, List.length_nil]
    unfold gD at hp4 hnm hloop hk ⊢
    simp [-List.map_map, hd1, hpr, hd2, hp3, hf, hp4, putM, clrM, e0, e1, h10, lenD, h24, ho, hnm, e0', e1', listD, listP, hd4, rgI_ok hrg, hloop, hk, ioP, endR]
  · obtain ⟨r3, w3, hd3, hw3, c1, c2⟩ := draw_ok (w := w2) (m := 6) hw2 (by omega) (by omega)
    obtain ⟨w4, ps, x, hloop, hw4, hps, hpl⟩ := graph_some (w := w3) (n := 1 + r1) (sh := 1 + r3) (all := pairsL (1 + r1)) hw3 (fun p hp => mem_pairsL hp) (o3 := some (.d (.int (1 + r1)))) (o4 := some (.d (.list ((pairsL (1 + r1)).map pairD)))) (o5 := none) (o6 := none) (o7 := none) (o8 := none)
    have hk := kept_ok (n := 1 + r1) (ps := ps) (by omega)
    refine ⟨1 + r1, srtB SrtO.lexB (keptL ps []), w4, ?_, hw4, nice_kept (by omega) (by omega) (Nat.le_trans keptL_len (by simpa using hpl)) fun p hp => by have := hps p hp; omega⟩
    unfold F_lawUgraph runF m_lawUgraph
    simp only [env0, List.map_cons, List.map_nil, List.length_cons, List.length_nil]
    simp [-List.map_map, hd1, hpr, hd2, hz, hd3, putM, clrM, hloop, hk, ioP, endR]
end Lk
namespace Lk
open PySem PySem.Spec L2
abbrev cl (x : Str) : List Nat := x.cps.toList
theorem cl_ext {x y : Str} (h : cl x = cl y) : x = y := by
  cases x; cases y
  simp only [cl] at h
  congr
  exact Array.toList_inj.mp h
theorem cl_app {x y : Str} : cl (x ++ y) = cl x ++ cl y := by
  show (x.cps ++ y.cps).toList = _
  simp
theorem cl_len {x : Str} : x.length = (cl x).length := by
  show x.cps.size = _
  simp
/-- cut at c -/
def cutL (c : Nat) : List Nat → List (List Nat)
  | [] => [[]]
  | a :: l => if a = c then [] :: cutL c l else match cutL c l with
    | w :: ws => (a :: w) :: ws
    | [] => [[a]]
def glueL (c : Nat) : List (List Nat) → List Nat
  | [] => []
  | [w] => w
  | w :: v :: r => w ++ c :: glueL c (v :: r)
theorem cutL_ne {c : Nat} : ∀ l : List Nat, cutL c l ≠ []
  | [] => by simp [cutL]
  | a :: l => by
    unfold cutL
    split
    · simp
    · split <;> simp
theorem cutL_app {c : Nat} : ∀ {w l : List Nat}, c ∉ w → cutL c (w ++ l) = match cutL c l with
    | v :: ws => (w ++ v) :: ws
    | [] => []
  | [], l, _ => by
    have := cutL_ne (c := c) l
    cases h : cutL c l with
    | nil => exact absurd h this
    | cons v ws => simp [h]
  | a :: w, l, h => by
    simp only [List.mem_cons, not_or] at h
    show (if a = c then [] :: cutL c (w ++ l) else match cutL c (w ++ l) with
      | w :: ws => (a :: w) :: ws
      | [] => [[a]]) = _
    rw [if_neg (fun e => h.1 e.symm), cutL_app h.2]
    have := cutL_ne (c := c) l
    cases h : cutL c l with
    | nil => exact absurd h this
    | cons v ws => rfl
theorem cutL_sep {c : Nat} {w l : List Nat} (h : c ∉ w) : cutL c (w ++ c :: l) = w :: cutL c l := by
  rw [cutL_app h]
  have : cutL c (c :: l) = [] :: cutL c l := by
    show (if c = c then _ else _) = _
    rw [if_pos rfl]
  rw [this]
  simp
theorem cutL_one {c : Nat} {w : List Nat} (h : c ∉ w) : cutL c w = [w] := by
  have := cutL_app (l := []) h
  rw [List.append_nil] at this
  rw [this]
  simp [cutL]
theorem cutL_glue {c : Nat} : ∀ {ps : List (List Nat)}, ps ≠ [] → (∀ p ∈ ps, c ∉ p) → cutL c (glueL c ps) = ps
  | [], h, _ => absurd rfl h
  | [w], _, h => cutL_one (h w List.mem_cons_self)
  | w :: v :: r, _, h => by
    show cutL c (w ++ c :: glueL c (v :: r)) = _
    rw [cutL_sep (h w List.mem_cons_self), cutL_glue (by simp) fun p hp => h p (List.mem_cons_of_mem _ hp)]
theorem cl_join {c : Nat} : ∀ {ps : List Str}, cl (Str.join ⟨#[c]⟩ ps) = glueL c (ps.map cl)
  | [] => rfl
  | [x] => rfl
  | x :: y :: r => by
    show cl (x ++ ⟨#[c]⟩ ++ Str.join ⟨#[c]⟩ (y :: r)) = cl x ++ c :: glueL c ((y :: r).map cl)
    rw [cl_app, cl_app, cl_join, List.append_assoc]
    rfl
theorem split_cut (x : Str) (c : Nat) : (Txt.split x ⟨#[c]⟩).map cl = cutL c (cl x) := by
  have h1 := StrLaws.join_split x ⟨#[c]⟩
  have h2 := StrLaws.split_free x c
  have h3 : cl x = glueL c ((Txt.split x ⟨#[c]⟩).map cl) := by
    conv => lhs; rw [← h1]
    exact cl_join
  have h4 : Txt.split x ⟨#[c]⟩ ≠ [] := by
    unfold Txt.split
    split
    · simp
    · split
      · simp
      · rw [StrLaws.partsBetween_eq]
        obtain ⟨p, r, e⟩ := StrLaws.partsFrom_ne x (⟨#[c]⟩ : Str).length 0 (Builtin.Str.occurrences x ⟨#[c]⟩ 0 x.length (x.length + 1))
        rw [e]; simp
  rw [h3, cutL_glue (by simpa using h4) fun p hp => ?_]
  obtain ⟨q, hq, rfl⟩ := List.mem_map.mp hp
  exact h2 q hq
/-- the words -/
def wordsL (l : List Nat) : List (List Nat) := (cutL 32 l).filter fun w => decide (w ≠ [])
theorem wordsL_sp {l : List Nat} : wordsL (32 :: l) = wordsL l := by
  unfold wordsL
  have : cutL 32 (32 :: l) = [] :: cutL 32 l := by
    show (if 32 = 32 then _ else _) = _
    rw [if_pos rfl]
  rw [this]
  simp
theorem wordsL_nil : wordsL [] = [] := by simp [wordsL, cutL]
theorem wordsL_one {w : List Nat} (h : 32 ∉ w) (hn : w ≠ []) : wordsL w = [w] := by
  unfold wordsL
  rw [cutL_one h]
  simp [hn]
theorem wordsL_w {w l : List Nat} (h : 32 ∉ w) (hn : w ≠ []) : wordsL (w ++ 32 :: l) = w :: wordsL l := by
  unfold wordsL
  rw [cutL_sep h]
  simp [hn]
/-- what is made of blanks alone -/
def Bl (b : List Nat) : Prop := ∀ c ∈ b, c = 32
theorem wordsL_bl : ∀ {b l : List Nat}, Bl b → wordsL (b ++ l) = wordsL l
  | [], l, _ => rfl
  | c :: b, l, h => by
    have e : c = 32 := h c List.mem_cons_self
    subst e
    show wordsL (32 :: (b ++ l)) = _
    rw [wordsL_sp, wordsL_bl fun c hc => h c (List.mem_cons_of_mem _ hc)]
theorem wordsL_end {w b : List Nat} (h : 32 ∉ w) (hn : w ≠ []) (hb : Bl b) : wordsL (w ++ b) = [w] := by
  cases b with
  | nil => rw [List.append_nil]; exact wordsL_one h hn
  | cons c b =>
    have e : c = 32 := hb c List.mem_cons_self
    subst e
    rw [wordsL_w h hn]
    have := wordsL_bl (l := []) (b := b) fun c hc => hb c (List.mem_cons_of_mem _ hc)
    rw [List.append_nil] at this
    rw [this, wordsL_nil]
/-- the texts of small numbers -/
def dS (i : Int) : Str := toString i
def wS (n : Int) : Str := dS n ++ (":" : Str)
def eS (p : Int × Int) : Str := dS p.1 ++ ("-" : Str) ++ dS p.2
def smallB (x : Str) : Bool := !(cl x).contains 32 && !(cl x).isEmpty && decide ((cl x).length ≤ 5) && x.cps.all (· < 0x110000)
theorem dS_small : ((rgL 0 11).all fun i => smallB (dS i)) = true := by decide +kernel
theorem wS_small : ((rgL 0 11).all fun i => smallB (wS i)) = true := by decide +kernel
theorem eS_small : ((rgL 0 10).all fun i => (rgL 0 10).all fun j => smallB (eS (i, j))) = true := by decide +kernel
theorem strP_i {i : Int} (h0 : 0 ≤ i) (h1 : i ≤ 10) : strP (.int i) = some (.str (dS i)) := by
  show (if i.natAbs.log2 < 1920 then some (PyData.str (toString i)) else none) = _
  rw [if_pos]
  · rfl
  · have : i.natAbs ≤ 10 := by omega
    have h2 : i.natAbs.log2 ≤ i.natAbs := Nat.log2_le_self _
    omega
end Lk
namespace Lk
open PySem PySem.Spec L2
theorem small_of {x : Str} (h : smallB x = true) : 32 ∉ cl x ∧ cl x ≠ [] ∧ x.length ≤ 5 ∧ (PyData.str x).canLay0 = true := by
  unfold smallB at h
  simp only [Bool.and_eq_true, Bool.not_eq_true', List.contains_eq_mem, decide_eq_false_iff_not, decide_eq_true_eq, List.isEmpty_eq_false_iff] at h
  refine ⟨h.1.1.1, h.1.1.2, by rw [cl_len]; exact h.1.2, ?_⟩
  simp only [PyData.canLay0]
  exact h.2
theorem dS_ok {i : Int} (h0 : 0 ≤ i) (h1 : i ≤ 10) : 32 ∉ cl (dS i) ∧ cl (dS i) ≠ [] ∧ (dS i).length ≤ 5 ∧ (PyData.str (dS i)).canLay0 = true := small_of (List.all_eq_true.mp dS_small i (mem_rgL.mpr ⟨h0, by omega⟩))
theorem wS_ok {i : Int} (h0 : 0 ≤ i) (h1 : i ≤ 10) : 32 ∉ cl (wS i) ∧ cl (wS i) ≠ [] ∧ (wS i).length ≤ 5 ∧ (PyData.str (wS i)).canLay0 = true := small_of (List.all_eq_true.mp wS_small i (mem_rgL.mpr ⟨h0, by omega⟩))
theorem eS_ok {p : Int × Int} (h0 : 0 ≤ p.1) (h1 : p.1 < 10) (h2 : 0 ≤ p.2) (h3 : p.2 < 10) : 32 ∉ cl (eS p) ∧ cl (eS p) ≠ [] ∧ (eS p).length ≤ 5 ∧ (PyData.str (eS p)).canLay0 = true :=
  small_of (List.all_eq_true.mp (List.all_eq_true.mp eS_small p.1 (mem_rgL.mpr ⟨h0, h1⟩)) p.2 (mem_rgL.mpr ⟨h2, h3⟩))
/-- the text of a graph -/
def tS (n : Int) : List (Int × Int) → Str → Str
  | [], acc => acc
  | p :: r, acc => tS n r (acc ++ (" " : Str) ++ dS p.1 ++ ("-" : Str) ++ dS p.2)
def txt (n : Int) (es : List (Int × Int)) : Str := tS n es (wS n)
theorem cl_sp : cl (" " : Str) = [32] := by decide
theorem tS_cl {n : Int} : ∀ {es : List (Int × Int)} {acc : Str}, cl (tS n es acc) = cl acc ++ es.flatMap fun p => 32 :: cl (eS p)
  | [], acc => by simp [tS]
  | p :: r, acc => by
    unfold tS
    rw [tS_cl]
    simp only [cl_app, eS, List.flatMap_cons, List.append_assoc, cl_sp, List.cons_append, List.nil_append]
theorem tS_len {n : Int} {es : List (Int × Int)} (h : EPs 10 es) : ∀ {acc : Str}, (tS n es acc).length ≤ acc.length + 6 * es.length := by
  induction es with
  | nil => intro acc; simp [tS]
  | cons p r ih =>
    intro acc
    have hp := h p List.mem_cons_self
    have h1 := (eS_ok (p := p) (by omega) (by omega) (by omega) (by omega)).2.2.1
    have := ih (fun q hq => h q (List.mem_cons_of_mem _ hq)) (acc := acc ++ (" " : Str) ++ dS p.1 ++ ("-" : Str) ++ dS p.2)
    unfold tS
    refine Nat.le_trans this ?_
    unfold eS at h1
    simp only [Str.length_append, List.length_cons] at h1 ⊢
    have e1 : (" " : Str).length = 1 := by decide
    have e2 : ("-" : Str).length = 1 := by decide
    omega
theorem addP_ss {x y : Str} (h : x.length + y.length ≤ big) : addP (.str x) (.str y) = some (.str (x ++ y)) := by
  show (if x.length + y.length ≤ big then some (PyData.str (x ++ y)) else none) = _
  rw [if_pos h]
theorem len_sp : (" " : Str).length = 1 := by decide
theorem len_mi : ("-" : Str).length = 1 := by decide
theorem len_co : (":" : Str).length = 1 := by decide
theorem text_ok {n : Int} {es : List (Int × Int)} (hg : Nice n es) : F_lawUtext [.d (gD n es)] = .ok (.d (.str (txt n es))) [] := by
  obtain ⟨g1, g2, g3, g4, g5⟩ := hg
  have h10 : EPs 10 es := fun p hp => by have := g5 p hp; omega
  have hn := dS_ok (i := n) (by omega) g2
  obtain ⟨e', h1, h2⟩ := forM_ok (T := .tp [2, 3]) (g := seqM (setM 1 (op2 (lift2 addP) (.v 1) (.v 9) (op2 (lift2 addP) (.v 1) (.v 9) (op2 (lift2 addP) (.v 1) (.v 9) (op2 (lift2 addP) (.sl 1) (.v 9) (slotM 1) (M.pure (.d (.str (" " : Str))))) (callM (oneD strP) [.sl 2] (consM (slotM 2) (M.pure [])))) (M.pure (.d (.str ("-" : Str))))) (callM (oneD strP) [.sl 3] (consM (slotM 3) (M.pure [])))))
    nxM)
    (fun items e => ∃ (rest : List (Int × Int)) (acc : Str) (x y : Option DV), items = (rest.map pairD).map .d ∧ EPs 10 rest ∧ acc.length + 6 * rest.length ≤ 200 ∧ tS n rest acc = txt n es ∧ e = [some (.d (gD n es)), some (.d (.str acc)), x, y])
    (by
      rintro d rest e ⟨rest', acc, x, y, hi, hr, hln, ht, rfl⟩
      cases rest' with
      | nil => simp at hi
      | cons p rest' =>
        simp only [List.map_cons, List.cons.injEq] at hi
        obtain ⟨rfl, rfl⟩ := hi
        simp only [List.length_cons] at hln
        have hp := hr p List.mem_cons_self
        have q1 := (dS_ok (i := p.1) (by omega) (by omega)).2.2.1
        have q2 := (dS_ok (i := p.2) (by omega) (by omega)).2.2.1
        have q3 := (eS_ok (p := p) (by omega) (by omega) (by omega) (by omega)).2.2.1
        have hb : ∀ k, k ≤ 1000 → k ≤ big := fun k hk => by show k ≤ 1000000; omega
        unfold eS at q3
        simp only [Str.length_append, len_mi] at q3
        have a1 := addP_ss (x := acc) (y := (" " : Str)) (hb _ (by rw [len_sp]; omega))
        have a2 := addP_ss (x := acc ++ (" " : Str)) (y := dS p.1) (hb _ (by rw [Str.length_append, len_sp]; omega))
        have a3 := addP_ss (x := acc ++ (" " : Str) ++ dS p.1) (y := ("-" : Str)) (hb _ (by simp only [Str.length_append, len_sp, len_mi]; omega))
        have a4 := addP_ss (x := acc ++ (" " : Str) ++ dS p.1 ++ ("-" : Str)) (y := dS p.2) (hb _ (by simp only [Str.length_append, len_sp, len_mi]; omega))
        refine ⟨[some (.d (gD n es)), some (.d (.str acc)), some (.d (.int p.1)), some (.d (.int p.2))], [some (.d (gD n es)), some (.d (.str (acc ++ (" " : Str) ++ dS p.1 ++ ("-" : Str) ++ dS p.2))), some (.d (.int p.1)), some (.d (.int p.2))], by simp [pairD], .inl ?_, rest', _, _, _, rfl, fun q hq => hr q (List.mem_cons_of_mem _ hq), ?_, ht, rfl⟩
        · simp [a1, a2, a3, a4, strP_i (i := p.1) (by omega) (by omega), strP_i (i := p.2) (by omega) (by omega)]
        · simp only [Str.length_append, len_sp, len_mi]
          omega)
    ((es.map pairD).map .d) [some (.d (gD n es)), some (.d (.str (wS n))), none, none] ⟨es, wS n, none, none, rfl, h10, by have := (wS_ok (i := n) (by omega) g2).2.2.1; omega, rfl, rfl⟩
  obtain ⟨rest, acc, x, y, hi, _, _, ht, rfl⟩ := h2
  cases rest with
  | cons _ _ => simp at hi
  | nil =>
    have ht : acc = txt n es := ht
    subst ht
    have e0 : atI [PyData.int n, .tuple (es.map pairD)] 0 = some (.int n) := atI_0
    have e1 : atI [PyData.int n, .tuple (es.map pairD)] 1 = some (.tuple (es.map pairD)) := atI_1
    have a0 := addP_ss (x := dS n) (y := (":" : Str)) (by show _ ≤ 1000000; rw [len_co]; omega)
    unfold F_lawUtext runF m_lawUtext
    simp only [env0, List.map_cons, List.map_nil, List.length_cons, List.length_nil]
    unfold gD at h1 ⊢
    unfold wS at h1
    simp [-List.map_map, e0, e1, strP_i (i := n) (by omega) g2, a0, h1, ioP, endR]
end Lk
namespace Lk
open PySem PySem.Spec L2
/-! the program: a right graph is one -/
theorem whole_ok {i : Int} : F_isUwhole [.d (.int i)] = .ok (.d (.bool true)) [] := by
  unfold F_isUwhole runF m_isUwhole
  simp [env0, tyName, isTy, ioP, endR]
theorem between_ok {i a b : Int} (h1 : a ≤ i) (h2 : i ≤ b) : F_isUbetween [.d (.int i), .d (.int a), .d (.int b)] = .ok (.d (.bool true)) [] := by
  unfold F_isUbetween runF m_isUbetween
  simp [env0, whole_ok, putM, clrM, h1, h2, ioP, endR]
theorem getBs_true : ∀ k : Nat, getBs (List.replicate k (.bool true)) = some (List.replicate k true)
  | 0 => rfl
  | k + 1 => by
    show getBs (.bool true :: List.replicate k (.bool true)) = _
    unfold getBs
    rw [getBs_true k]; rfl
theorem allP_true {xs : List PyData} (h : ∀ x ∈ xs, x = .bool true) : allP (.list xs) = some (.bool true) := by
  have e : xs = List.replicate xs.length (.bool true) := List.eq_replicate_iff.mpr ⟨rfl, h⟩
  show (getBs xs).map (fun bs => PyData.bool (bs.all id)) = _
  rw [e, getBs_true]
  simp
theorem map_true {α : Type} {l : List α} {x : PyData} (h : x ∈ (l.filter fun _ => true).map fun _ => PyData.bool true) : x = .bool true := by
  obtain ⟨_, _, rfl⟩ := List.mem_map.mp h
  rfl
theorem edgeOf_ok {n : Int} {p : Int × Int} (h0 : 0 ≤ p.1) (h1 : p.1 < p.2) (h2 : p.2 < n) : F_isUedgeUof [.d (.int n), .d (pairD p)] = .ok (.d (.bool true)) [] := by
  have hcomp := compGo_nm (k := 2) (ft := M.pure true) (fe := callF F_isUbetween [.fz, .fz, .fz] [.v 0, .v 9, .v 9] (consM (slotM 2) (consM (M.pure (.d (.int 0))) (consM (op2 (lift2 subP) (.sl 0) (.v 9) (slotM 0) (M.pure (.d (.int 1)))) (M.pure [])))))
    (e := [some (.d (.int n)), some (.d (pairD p)), none]) (fun _ => true) (fun _ => .bool true) [.d (.int p.1), .d (.int p.2)] rfl (by simp) (by
      intro d hd
      simp only [List.mem_cons, List.not_mem_nil, or_false] at hd
      refine ⟨by simp, fun _ => ?_⟩
      rcases hd with rfl | rfl
      · simp [between_ok (i := p.1) (a := 0) (b := n - 1) h0 (by omega), putM, clrM]
      · simp [between_ok (i := p.2) (a := 0) (b := n - 1) (by omega) (by omega), putM, clrM]) (by show _ ≤ 1000000; simp)
  have hall := allP_true (xs := ([DV.d (.int p.1), DV.d (.int p.2)].filter fun _ => true).map fun _ => PyData.bool true) fun x hx => map_true hx
  have e0 : atI [PyData.int p.1, .int p.2] 0 = some (.int p.1) := atI_0
  have e1 : atI [PyData.int p.1, .int p.2] 1 = some (.int p.2) := atI_1
  unfold F_isUedgeUof runF m_isUedgeUof
  simp only [env0, List.map_cons, List.map_nil, List.length_cons, List.length_nil]
  unfold pairD at hcomp ⊢
  simp at hcomp hall
  simp [-List.map_map, tyName, isTy, truD, lenD, neP_s shp_int shp_int, eqv_int, hcomp, hall, e0, e1, h1, ioP, endR]
theorem cmpN_ii {op : CmpOp} {k : Nat} {i j : Int} : cmpN op (k + 1) (.int i) (.int j) = some (opI op i j) := rfl
theorem cmp_pair {p q : Int × Int} : cmpP .Lt (pairD p) (pairD q) = some (.bool (SrtO.lexB p q)) := by
  unfold cmpP
  rw [(shp_pair (p := p)).ok, (shp_pair (p := q)).ok]
  have h : cmpN .Lt 8 (pairD p) (pairD q) = some (SrtO.lexB p q) := by
    show (if cmpAll (cmpN .Lt 7) [.int p.1, .int p.2] [.int q.1, .int q.2] then some (lexV (fun x y => (cmpN .Lt 7 x y).getD false) (opI .Lt 2 2) [.int p.1, .int p.2] [.int q.1, .int q.2]) else none) = _
    have e : cmpAll (cmpN .Lt 7) [.int p.1, .int p.2] [.int q.1, .int q.2] = true := by simp [cmpAll, cmpN_ii]
    rw [if_pos e]
    simp only [lexV, eqv_int, cmpN_ii, Option.getD_some, opI_lt, SrtO.lexB]
    by_cases h1 : p.1 = q.1
    · by_cases h2 : p.2 = q.2
      · simp [h1, h2]
      · simp [h1, h2]
    · simp [h1]
  rw [h]; rfl
theorem cut1 {xs : List PyData} : cutP xs (some 1) none = xs.tail := by
  unfold cutP
  rw [HT.sIx_none]
  have e : HT.sIx xs.length 0 (some 1) = min 1 xs.length := by
    show (if (1 : Int) < 0 then ((1 : Int) + (xs.length : Int)).toNat else min (1 : Int).toNat xs.length) = _
    rw [if_neg (by omega)]; rfl
  rw [e]
  cases xs with
  | nil => rfl
  | cons x xs =>
    have : min 1 (x :: xs).length = 1 := by simp
    rw [this]
    simp
theorem zip_pairs : ∀ {es fs : List (Int × Int)}, zipP (es.map pairD) (fs.map pairD) = ((es.zip fs).map fun z => ((pairD z.1, pairD z.2) : PyData × PyData)).map fun d => DV.d (.tuple [d.1, d.2])
  | [], _ => by simp [zipP]
  | _ :: _, [] => by simp [zipP]
  | e :: es, f :: fs => by
    show DV.d (.tuple [pairD e, pairD f]) :: zipP (es.map pairD) (fs.map pairD) = _
    rw [zip_pairs]
    rfl
theorem zip_tail_mem {r : Int × Int → Int × Int → Prop} : ∀ {es : List (Int × Int)}, es.Pairwise r → ∀ z ∈ es.zip es.tail, r z.1 z.2
  | [], _, z, hz => by simp at hz
  | [a], _, z, hz => by simp at hz
  | a :: b :: es, h, z, hz => by
    obtain ⟨h1, h2⟩ := List.pairwise_cons.mp h
    rcases List.mem_cons.mp hz with e | hz
    · rw [e]; exact h1 b List.mem_cons_self
    · exact zip_tail_mem h2 z hz
@[simp] theorem zipD_t {xs ys : List PyData} : zipD (some (.d (.tuple xs))) (some (.d (.tuple ys))) = some (zipP xs ys) := rfl
theorem graph_by_ok {n : Int} {es : List (Int × Int)} (hg : Nice n es) : F_isUgraphUby [.d (gD n es)] = .ok (.d (.bool true)) [] := by
  obtain ⟨g1, g2, g3, g4, g5⟩ := hg
  have hc1 := compGo_nm (k := 5) (ft := M.pure true) (fe := callF F_isUedgeUof [.fz, .fz] [.v 0, .v 0] (consM (slotM 1) (consM (slotM 5) (M.pure []))))
    (e := [some (.d (gD n es)), some (.d (.int n)), some (.d (.tuple (es.map pairD))), none, none, none]) (fun _ => true) (fun _ => .bool true) ((es.map pairD).map .d) rfl (by simp) (by
      intro d hd
      obtain ⟨x, hx, rfl⟩ := List.mem_map.mp hd
      obtain ⟨p, hp, rfl⟩ := List.mem_map.mp hx
      have := g5 p hp
      exact ⟨by simp, fun _ => by simp [edgeOf_ok this.1 this.2.1 this.2.2, putM, clrM]⟩) (by show _ ≤ 1000000; simp; omega)
  have hc2 := compGo_tp (k := 3) (l := 4) (ft := M.pure true) (fe := op2 (lift2 (cmpP .Lt)) (.sl 3) (.sl 4) (slotM 3) (slotM 4))
    (e := [some (.d (gD n es)), some (.d (.int n)), some (.d (.tuple (es.map pairD))), none, none, none]) (fun _ => true) (fun _ => .bool true) ((es.zip es.tail).map fun z => ((pairD z.1, pairD z.2) : PyData × PyData)) rfl (by decide) (by simp) (by simp) (by
      intro d hd
      obtain ⟨z, hz, rfl⟩ := List.mem_map.mp hd
      have := zip_tail_mem g4 z hz
      exact ⟨by simp, fun _ => by simp [cmp_pair, this]⟩) (by show _ ≤ 1000000; simp; omega)
  rw [← zip_pairs, List.map_tail] at hc2
  have ha1 := allP_true (xs := (((es.map pairD).map DV.d).filter fun _ => true).map fun _ => PyData.bool true) fun x hx => map_true hx
  have ha2 := allP_true (xs := ((((es.zip es.tail).map fun z => ((pairD z.1, pairD z.2) : PyData × PyData))).filter fun _ => true).map fun _ => PyData.bool true) fun x hx => map_true hx
  have e0 : atI [PyData.int n, .tuple (es.map pairD)] 0 = some (.int n) := atI_0
  have h24 : ¬ (24 : Int) < es.length := by omega
  generalize (((es.map pairD).map DV.d).filter fun _ => true).map (fun _ => PyData.bool true) = r1 at *
  generalize ((((es.zip es.tail).map fun z => ((pairD z.1, pairD z.2) : PyData × PyData))).filter fun _ => true).map (fun _ => PyData.bool true) = r2 at *
  unfold F_isUgraphUby runF m_isUgraphUby
  simp only [env0, List.map_cons, List.map_nil, List.length_cons, List.length_nil]
  unfold gD at hc1 hc2 ⊢
  simp [-List.map_map, tyName, isTy, truD, lenD, neP_s shp_int shp_int, eqv_int, e0, between_ok g1 g2, putM, clrM, h24, hc1, ha1, intD, slD, cut1, hc2, ha2, ioP, endR]
end Lk
namespace Lk
open PySem PySem.Spec L2
theorem check_ok {n : Int} {es : List (Int × Int)} (hg : Nice n es) : F_checkUgraph [.d (gD n es)] = .ok (.d .none) [] := by
  unfold F_checkUgraph runF m_checkUgraph
  simp [env0, graph_by_ok hg, putM, clrM, truD, ioP, endR]
theorem getSs_map : ∀ {l : List Str}, getSs (l.map .str) = some l
  | [] => rfl
  | x :: l => by
    show getSs (.str x :: l.map .str) = _
    unfold getSs
    rw [getSs_map]
theorem shown_edge_ok {p : Int × Int} (h0 : 0 ≤ p.1) (h1 : p.1 < 10) (h2 : 0 ≤ p.2) (h3 : p.2 < 10) : F_shownUedge [.d (pairD p)] = .ok (.d (.str (eS p))) [] := by
  have q1 := (dS_ok (i := p.1) (by omega) (by omega)).2.2.1
  have q2 := (dS_ok (i := p.2) (by omega) (by omega)).2.2.1
  have hb : ∀ k, k ≤ 1000 → k ≤ big := fun k hk => by show k ≤ 1000000; omega
  have a1 := addP_ss (x := dS p.1) (y := ("-" : Str)) (hb _ (by rw [len_mi]; omega))
  have a2 := addP_ss (x := dS p.1 ++ ("-" : Str)) (y := dS p.2) (hb _ (by rw [Str.length_append, len_mi]; omega))
  have e0 : atI [PyData.int p.1, .int p.2] 0 = some (.int p.1) := atI_0
  have e1 : atI [PyData.int p.1, .int p.2] 1 = some (.int p.2) := atI_1
  unfold F_shownUedge runF m_shownUedge pairD
  simp [env0, e0, e1, strP_i (i := p.1) (by omega) (by omega), strP_i (i := p.2) (by omega) (by omega), a1, a2, ioP, endR, eS]
theorem sp_eq : (" " : Str) = ⟨#[32]⟩ := by decide
theorem glue_cons {c : Nat} {w : List Nat} : ∀ {ps : List (List Nat)}, glueL c (w :: ps) = w ++ ps.flatMap fun p => c :: p
  | [] => by simp [glueL]
  | v :: r => by
    show w ++ c :: glueL c (v :: r) = _
    rw [glue_cons]
    simp
theorem join_txt {n : Int} {es : List (Int × Int)} : Txt.join (" " : Str) (wS n :: es.map eS) = txt n es := by
  apply cl_ext
  show cl (Builtin.Str.glued (" " : Str) (wS n :: es.map eS)) = _
  rw [StrLaws.glued_eq_join, sp_eq, cl_join, List.map_cons, glue_cons]
  unfold txt
  rw [tS_cl]
  simp [List.flatMap_map]
theorem sum_le {l : List Str} {k : Nat} (h : ∀ x ∈ l, x.length ≤ k) : (l.map (·.length)).sum ≤ l.length * k := by
  induction l with
  | nil => simp
  | cons x l ih =>
    have h1 := h x List.mem_cons_self
    have h2 := ih fun y hy => h y (List.mem_cons_of_mem _ hy)
    simp only [List.map_cons, List.sum_cons, List.length_cons, Nat.succ_mul]
    omega
def unE (d : DV) : PyData := match undD d with
  | .tuple [.int i, .int j] => .str (eS (i, j))
  | _ => .none
@[simp] theorem unE_d {p : Int × Int} : unE (.d (pairD p)) = .str (eS p) := rfl
theorem show_ok {n : Int} {es : List (Int × Int)} (hg : Nice n es) : F_showUgraph [.d (gD n es)] = .ok (.d (.str (txt n es))) [] := by
  obtain ⟨g1, g2, g3, g4, g5⟩ := id hg
  have hw := (wS_ok (i := n) (by omega) g2)
  have hc := compGo_nm (k := 1) (ft := M.pure true) (fe := callF F_shownUedge [.fz] [.v 0] (consM (slotM 1) (M.pure [])))
    (e := [some (.d (gD n es)), none]) (fun _ => true) unE ((es.map pairD).map .d) rfl (by simp) (by
      intro d hd
      obtain ⟨x, hx, rfl⟩ := List.mem_map.mp hd
      obtain ⟨p, hp, rfl⟩ := List.mem_map.mp hx
      have := g5 p hp
      exact ⟨by simp, fun _ => by simp [shown_edge_ok (p := p) (by omega) (by omega) (by omega) (by omega), putM, clrM]⟩) (by show _ ≤ 1000000; simp; omega)
  rw [filt_true (g := fun p => .str (eS p)) (fun p => unE_d)] at hc
  have e0 : atI [PyData.int n, .tuple (es.map pairD)] 0 = some (.int n) := atI_0
  have e1 : atI [PyData.int n, .tuple (es.map pairD)] 1 = some (.tuple (es.map pairD)) := atI_1
  have a0 := addP_ss (x := dS n) (y := (":" : Str)) (by show _ ≤ 1000000; rw [len_co]; have := (dS_ok (i := n) (by omega) g2).2.2.1; omega)
  have a1 : addP (.list [.str (wS n)]) (.list (es.map fun p => .str (eS p))) = some (.list ((wS n :: es.map eS).map .str)) := by
    rw [addP_ll (by show _ ≤ 1000000; simp; omega)]
    simp
  have hj : joinD (.d (.str (" " : Str))) [.d (.list ((wS n :: es.map eS).map .str))] = some (.d (.str (txt n es))) := by
    show (getSs _).bind _ = _
    rw [getSs_map]
    show (if _ then _ else _) = _
    have hs := sum_le (l := wS n :: es.map eS) (k := 5) fun x hx => by
      rcases List.mem_cons.mp hx with e | hx
      · rw [e]; exact hw.2.2.1
      · obtain ⟨p, hp, rfl⟩ := List.mem_map.mp hx
        have := g5 p hp
        exact (eS_ok (p := p) (by omega) (by omega) (by omega) (by omega)).2.2.1
    rw [if_pos, join_txt]
    rw [len_sp]
    simp only [List.length_cons, List.length_map] at hs ⊢
    omega
  have hby : F_shownUby [.d (gD n es)] = .ok (.d (.str (txt n es))) [] := by
    unfold F_shownUby runF m_shownUby
    simp only [env0, List.map_cons, List.map_nil, List.length_cons, List.length_nil]
    unfold gD at hc ⊢
    unfold wS at a1
    simp only [List.map_cons] at hj
    unfold wS at hj
    simp [-List.map_map, e0, e1, strP_i (i := n) (by omega) g2, a0, hc, tyD]
    simp at a1 hj
    simp [a1, hj, ioP, endR]
  unfold F_showUgraph runF m_showUgraph
  simp [env0, check_ok hg, hby, putM, clrM, ioP, endR]
end Lk
namespace Lk
open PySem PySem.Spec L2
def chkV (n : Int) : Bool := match F_verticesUin [.d (.str (wS n))] with
  | .ok (.d (.list [.int m])) [] => decide (m = n)
  | _ => false
theorem chkV_all : ((rgL 1 11).all chkV) = true := by decide +kernel
theorem vert_ok {n : Int} (h0 : 1 ≤ n) (h1 : n ≤ 10) : F_verticesUin [.d (.str (wS n))] = .ok (.d (.list [.int n])) [] := by
  have h := List.all_eq_true.mp chkV_all n (mem_rgL.mpr ⟨h0, by omega⟩)
  unfold chkV at h
  split at h
  · rename_i m e
    rw [e, of_decide_eq_true h]
  · cases h
def chkE (n a b : Int) : Bool := if a ≠ b ∧ a < n ∧ b < n then (match F_endsUin [.d (.str (eS (a, b))), .d (.int n)] with
  | .ok (.d (.list [.tuple [.int c, .int d]])) [] => decide (c = a ∧ d = b)
  | _ => false) else true
theorem chkE_all : ((rgL 1 11).all fun n => (rgL 0 10).all fun a => (rgL 0 10).all fun b => chkE n a b) = true := by decide +kernel
theorem ends_ok {n : Int} {p : Int × Int} (h0 : 1 ≤ n) (h1 : n ≤ 10) (a0 : 0 ≤ p.1) (a1 : p.1 < n) (b0 : 0 ≤ p.2) (b1 : p.2 < n) (hne : p.1 ≠ p.2) : F_endsUin [.d (.str (eS p)), .d (.int n)] = .ok (.d (.list [pairD p])) [] := by
  have h := List.all_eq_true.mp (List.all_eq_true.mp (List.all_eq_true.mp chkE_all n (mem_rgL.mpr ⟨h0, by omega⟩)) p.1 (mem_rgL.mpr ⟨a0, by omega⟩)) p.2 (mem_rgL.mpr ⟨b0, by omega⟩)
  unfold chkE at h
  rw [if_pos ⟨hne, a1, b1⟩] at h
  split at h
  · rename_i c d e
    have hcd := of_decide_eq_true h
    rw [e, hcd.1, hcd.2]
    rfl
  · cases h
end Lk
namespace Lk
open PySem PySem.Spec L2
theorem cutL_mem {c : Nat} : ∀ {l : List Nat} {w : List Nat} {a : Nat}, w ∈ cutL c l → a ∈ w → a ∈ l
  | [], w, a, hw, ha => by
    simp [cutL] at hw
    subst hw
    cases ha
  | b :: l, w, a, hw, ha => by
    have hw : w ∈ (if b = c then [] :: cutL c l else match cutL c l with
      | w :: ws => (b :: w) :: ws
      | [] => [[b]]) := hw
    split at hw
    · rcases List.mem_cons.mp hw with e | hw
      · rw [e] at ha; cases ha
      · exact List.mem_cons_of_mem _ (cutL_mem hw ha)
    · cases h : cutL c l with
      | nil => exact absurd h (cutL_ne l)
      | cons v ws =>
        rw [h] at hw
        rcases List.mem_cons.mp hw with e | hw
        · rw [e] at ha
          rcases List.mem_cons.mp ha with e | ha
          · rw [e]; exact List.mem_cons_self
          · exact List.mem_cons_of_mem _ (cutL_mem (l := l) (by rw [h]; exact List.mem_cons_self) ha)
        · exact List.mem_cons_of_mem _ (cutL_mem (l := l) (by rw [h]; exact List.mem_cons_of_mem _ hw) ha)
/-- a text that may be compared, not too long -/
def TxOk (x : Str) : Prop := (PyData.str x).canLay0 = true ∧ x.length ≤ 100000
theorem strOk_iff {x : Str} : (PyData.str x).canLay0 = true ↔ ∀ a ∈ cl x, a < 0x110000 := by
  simp only [PyData.canLay0, PyData.strOk]
  rw [Array.all_eq_true_iff_forall_mem]
  simp
theorem shp_str {x : Str} (h : (PyData.str x).canLay0 = true) : Shp 0 (.str x) := ⟨h, by simp [PyData.depth]⟩
theorem eqv_str {x y : Str} : PyData.eqv (.str x) (.str y) = decide (x = y) := by
  simp only [PyData.eqv]
  by_cases h : x = y <;> simp [h]
theorem cl_inj {x y : Str} : x = y ↔ cl x = cl y := ⟨fun h => by rw [h], cl_ext⟩
theorem words_ok {x : Str} (hx : TxOk x) : ∃ ws : List Str, F_wordsUof [.d (.str x)] = .ok (.d (.list (ws.map .str))) [] ∧ ws.map cl = wordsL (cl x) := by
  have hs := split_cut x 32
  have hok : ∀ w ∈ Txt.split x (" " : Str), (PyData.str w).canLay0 = true := fun w hw => by
    rw [strOk_iff]
    intro a ha
    have : cl w ∈ cutL 32 (cl x) := by
      rw [← hs]
      exact List.mem_map.mpr ⟨w, hw, rfl⟩
    exact strOk_iff.mp hx.1 a (cutL_mem this ha)
  have hlen : (Txt.split x (" " : Str)).length ≤ big := by
    have := PyProof.Rows.split_le x (" " : Str)
    have := hx.2
    show _ ≤ 1000000
    omega
  have hc := compGo_nm (k := 1) (ft := asB (.v 9) (op2 (lift2 neP) (.sl 1) (.v 9) (slotM 1) (M.pure (.d (.str ("" : Str)))))) (fe := slotM 1)
    (e := [some (.d (.str x)), none]) (fun d => !PyData.eqv (undD d) (.str ("" : Str))) undD (((Txt.split x (" " : Str)).map PyData.str).map .d) rfl (by simp) (by
      intro d hd
      obtain ⟨z, hz, rfl⟩ := List.mem_map.mp hd
      obtain ⟨w, hw, rfl⟩ := List.mem_map.mp hz
      exact ⟨by simp [neP_s (shp_str (hok w hw)) (shp_str (x := ("" : Str)) (by decide +kernel))], fun _ => by simp⟩) (by simpa using hlen)
  rw [filt_map (f := PyData.str) (q := fun w => decide (w ≠ ("" : Str))) (fun a => by simp [eqv_str])] at hc
  refine ⟨(Txt.split x (" " : Str)).filter (fun w => decide (w ≠ ("" : Str))), ?_, ?_⟩
  · have hsp : splitD (.d (.str x)) [.d (.str (" " : Str))] = some (.d (.list ((Txt.split x (" " : Str)).map .str))) := by
      show (if _ then _ else _) = _
      rw [if_pos ⟨by decide, by have := hx.2; show _ ≤ 1000000; omega⟩]
    unfold F_wordsUof runF m_wordsUof
    simp only [env0, List.map_cons, List.map_nil, List.length_cons, List.length_nil]
    simp [-List.map_map, tyD, hsp, hc, ioP, endR]
  · unfold wordsL
    rw [← hs, List.filter_map]
    show _ = ((Txt.split x (" " : Str)).filter _).map cl
    congr 1
    apply List.filter_congr
    intro w _
    show decide (w ≠ ("" : Str)) = decide (cl w ≠ [])
    congr 1
    have : cl ("" : Str) = [] := by decide
    rw [ne_eq, ne_eq, cl_inj, this]
theorem between_ok2 {a b : Int} : F_edgeUbetween [.d (.int a), .d (.int b)] = .ok (.d (pairD (normP (a, b)))) [] := by
  unfold F_edgeUbetween runF m_edgeUbetween normP pairD
  by_cases h : a < b <;> simp [env0, h, ioP, endR]
theorem numFrom_cons {i : Nat} {x : PyData} {xs : List PyData} : numFrom i (x :: xs) = .d (.tuple [.int i, x]) :: numFrom (i + 1) xs := rfl
@[simp] theorem ixD_p0 {p : Int × Int} : ixD (.d (pairD p)) (.d (.int 0)) = some (.d (.int p.1)) := rfl
@[simp] theorem ixD_p1 {p : Int × Int} : ixD (.d (pairD p)) (.d (.int 1)) = some (.d (.int p.2)) := by
  show (atI [PyData.int p.1, .int p.2] 1).map DV.d = _
  rw [atI_1]; rfl
theorem read_by_ok {x : Str} {n : Int} {es qs : List (Int × Int)} (hx : TxOk x) (hg : Nice n es) (hq : ∀ p ∈ qs, 0 ≤ p.1 ∧ p.1 < n ∧ 0 ≤ p.2 ∧ p.2 < n ∧ p.1 ≠ p.2) (hp : (qs.map normP).Perm es) (hw : wordsL (cl x) = cl (wS n) :: qs.map fun p => cl (eS p)) :
    F_readUby [.d (.str x)] = .ok (.d (gD n es)) [] := by
  obtain ⟨g1, g2, g3, g4, g5⟩ := hg
  obtain ⟨ws, h1, h2⟩ := words_ok hx
  have hws : ws = wS n :: qs.map eS := by
    have e : ws.map cl = (wS n :: qs.map eS).map cl := by rw [h2, hw]; simp
    clear h1 h2
    have key : ∀ (a b : List Str), a.map cl = b.map cl → a = b := by
      intro a
      induction a with
      | nil => intro b h; cases b <;> simp at h ⊢
      | cons y a ih =>
        intro b h
        cases b with
        | nil => simp at h
        | cons z b =>
          simp only [List.map_cons, List.cons.injEq] at h
          have h1 : cl y = cl z := h.1
          rw [cl_ext h1, ih b h.2]
    exact key _ _ e
  subst hws
  have hnd : (qs.map normP).Nodup := hp.nodup_iff.mpr (g4.imp fun {a b} h e => by
    subst e
    rw [tot_pair.irr] at h
    cases h)
  have hlen : qs.length = es.length := by have := hp.length_eq; rwa [List.length_map] at this
  have hi0 : atI ((wS n :: qs.map eS).map PyData.str) 0 = some (.str (wS n)) := atI_0
  have htail : cutP ((wS n :: qs.map eS).map PyData.str) (some 1) none = (qs.map eS).map .str := by rw [cut1]; rfl
  have hv := vert_ok g1 g2
  have en : PyData.eqv (.list ((wS n :: qs.map eS).map PyData.str)) (.list []) = false := by simp [PyData.eqv, PyData.eqvAll]
  have hsw : Shp 1 (.list ((wS n :: qs.map eS).map PyData.str)) := shp_list fun z hz => by
    obtain ⟨w, hw, rfl⟩ := List.mem_map.mp hz
    refine shp_str ?_
    rcases List.mem_cons.mp hw with e | hw
    · rw [e]; exact (wS_ok (i := n) (by omega) g2).2.2.2
    · obtain ⟨p, hp, rfl⟩ := List.mem_map.mp hw
      have := hq p hp
      exact (eS_ok (p := p) (by omega) (by omega) (by omega) (by omega)).2.2.2
  obtain ⟨e', k1, k2⟩ := forM_ok (T := .tp [4, 5]) (g := seqM (setM 6 (ifM (asB (.v 9) (op2 (lift2 (cmpP .Lt)) (.v 9) (.v 9) (callM lenD [.sl 2] (consM (slotM 2) (M.pure []))) (M.pure (.d (.int 24))))) (callF F_endsUin [.fz, .fz] [.v 0, .v 0] (consM (slotM 5) (consM (op2 ixD (.sl 3) (.v 9) (slotM 3) (M.pure (.d (.int 0)))) (M.pure [])))) (dispM .list (M.pure []))))
    (seqM (ifS (orM (asB (.v 9) (op2 (lift2 eqP) (.sl 6) (.v 9) (slotM 6) (dispM .list (M.pure [])))) (asB (.v 9) (op2 (lift2 inP) (.v 1) (.sl 2) (callF F_edgeUbetween [.fz, .fz] [.v 0, .v 0] (consM (op2 ixD (.v 0) (.v 9) (op2 ixD (.sl 6) (.v 9) (slotM 6) (M.pure (.d (.int 0)))) (M.pure (.d (.int 0)))) (consM (op2 ixD (.v 0) (.v 9) (op2 ixD (.sl 6) (.v 9) (slotM 6) (M.pure (.d (.int 0)))) (M.pure (.d (.int 1)))) (M.pure [])))) (slotM 2))))
    (seqM (retM [] (op2 (lift2 addP) (.sl 4) (.v 9) (slotM 4) (M.pure (.d (.int 1)))))
    nxM)
    nxM)
    (seqM (dropM (apM 2 (callF F_edgeUbetween [.fz, .fz] [.v 0, .v 0] (consM (op2 ixD (.v 0) (.v 9) (op2 ixD (.sl 6) (.v 9) (slotM 6) (M.pure (.d (.int 0)))) (M.pure (.d (.int 0)))) (consM (op2 ixD (.v 0) (.v 9) (op2 ixD (.sl 6) (.v 9) (slotM 6) (M.pure (.d (.int 0)))) (M.pure (.d (.int 1)))) (M.pure []))))))
    nxM)))
    (fun items e => ∃ (i : Nat) (done rest : List (Int × Int)) (a b c : Option DV), items = numFrom i ((rest.map eS).map .str) ∧ done ++ rest = qs ∧ e = [some (.d (.str x)), some (.d (.list ((wS n :: qs.map eS).map .str))), some (.d (.list ((done.map normP).map pairD))), some (.d (.list [.int n])), a, b, c])
    (by
      rintro d rest e ⟨i, done, rest', a, b, c, hi, hr, rfl⟩
      cases rest' with
      | nil => simp [numFrom] at hi
      | cons p rest' =>
        simp only [List.map_cons, numFrom_cons, List.cons.injEq] at hi
        obtain ⟨rfl, rfl⟩ := hi
        have hpq : p ∈ qs := by rw [← hr]; simp
        have hp' := hq p hpq
        have hE := ends_ok g1 g2 hp'.1 hp'.2.1 hp'.2.2.1 hp'.2.2.2.1 hp'.2.2.2.2
        have hl : done.length < qs.length := by rw [← hr]; simp
        have h24 : (done.length : Int) < 24 := by omega
        have hnot : normP (p.1, p.2) ∉ done.map normP := by
          have h := hnd
          rw [← hr, List.map_append, List.map_cons] at h
          have h := (List.nodup_append.mp h).2.2
          intro hm
          exact h _ hm _ List.mem_cons_self rfl
        have hb : done.length < big := by show _ < 1000000; omega
        have a0 : atI [PyData.int p.1, .int p.2] 0 = some (.int p.1) := atI_0
        have a1 : atI [PyData.int p.1, .int p.2] 1 = some (.int p.2) := atI_1
        have b0 : atI [pairD p] 0 = some (pairD p) := atI_0
        have c0 : atI [PyData.int n] 0 = some (.int n) := atI_0
        have sp : Shp 2 (.list [pairD p]) := shp_pairs (ps := [p])
        have ep : PyData.eqv (.list [pairD p]) (.list []) = false := by simp [PyData.eqv, PyData.eqvAll]
        refine ⟨[some (.d (.str x)), some (.d (.list ((wS n :: qs.map eS).map .str))), some (.d (.list ((done.map normP).map pairD))), some (.d (.list [.int n])), some (.d (.int i)), some (.d (.str (eS p))), c], [some (.d (.str x)), some (.d (.list ((wS n :: qs.map eS).map .str))), some (.d (.list (((done ++ [p]).map normP).map pairD))), some (.d (.list [.int n])), some (.d (.int i)), some (.d (.str (eS p))), some (.d (.list [pairD p]))], by simp, .inl ?_, i + 1, done ++ [p], rest', _, _, _, rfl, by simpa using hr, rfl⟩
        simp only [seqM_ev, setM_ev, ifM_ev, asB_ev, op2_ev, callM_ev, consM_ev, slotM_ev, slot_0, slot_s, pure_ev, bind_ok, nowsD_cons, nowsD_nil, now_sl, now_v, lenD, lift2_d, cmpP_ii, Option.map_some, opI_lt, List.length_map, h24, decide_true]
        simp [-List.map_map, c0, hE, putM, clrM]
        simp [-List.map_map, eqP_s sp shp_e, ep, b0, between_ok2, putM, clrM, inP_pairs]
        have hnot2 : ¬ ∃ a, a ∈ done ∧ normP a = normP (p.1, p.2) := fun ⟨a, h1, h2⟩ => hnot (List.mem_map.mpr ⟨a, h1, h2⟩)
        simp [-List.map_map, hnot2, apO, hb, b0, between_ok2, putM, clrM])
    (numFrom 0 ((qs.map eS).map .str)) [some (.d (.str x)), some (.d (.list ((wS n :: qs.map eS).map .str))), some (.d (.list [])), some (.d (.list [.int n])), none, none, none] ⟨0, [], qs, none, none, none, rfl, rfl, rfl⟩
  obtain ⟨i, done, rest, a, b, c, hi, hr, rfl⟩ := k2
  have hrest : rest = [] := by
    cases rest with
    | nil => rfl
    | cons p r => simp [numFrom] at hi
  subst hrest
  have hr : done = qs := by simpa using hr
  subst hr
  have hs : srtB SrtO.lexB (done.map normP) = es := (srt_is tot_pair (g4.imp fun {a b} h => tot_pair.asym a b h) hp.symm).symm
  have c0 : atI [PyData.int n] 0 = some (.int n) := atI_0
  have tn : PyData.eqv (.list [.int n]) (.list []) = false := by simp [PyData.eqv, PyData.eqvAll]
  have st : Shp 1 (.list [.int n]) := shp_ints (is := [n])
  unfold F_readUby runF m_readUby
  simp only [env0, List.map_cons, List.map_nil, List.length_cons, List.length_nil]
  have hsl : slD (.d (.list ((wS n :: done.map eS).map .str))) (some 1) none = some (.d (.list ((done.map eS).map .str))) := by
    show some (DV.d (.list (cutP _ (some 1) none))) = _
    rw [htail]
  have hen : enumD (.d (.list ((done.map eS).map .str))) = some (numFrom 0 ((done.map eS).map .str)) := rfl
  generalize hW : (wS n :: done.map eS).map PyData.str = W at *
  simp [-List.map_map, h1, putM, clrM, neP_s hsw shp_e, en, hi0, hv, eqP_s st shp_e, tn, intD, hsl, hen, k1, c0, sortP_pairs, hs, tupleP, gD, ioP, endR]
theorem read_ok {x : Str} {n : Int} {es qs : List (Int × Int)} (hx : TxOk x) (hg : Nice n es) (hq : ∀ p ∈ qs, 0 ≤ p.1 ∧ p.1 < n ∧ 0 ≤ p.2 ∧ p.2 < n ∧ p.1 ≠ p.2) (hp : (qs.map normP).Perm es) (hw : wordsL (cl x) = cl (wS n) :: qs.map fun p => cl (eS p)) :
    F_readUgraph [.d (.str x)] = .ok (.d (gD n es)) [] := by
  have h := read_by_ok hx hg hq hp hw
  unfold F_readUgraph runF m_readUgraph
  simp [env0, tyName, isTy, truD, h, putM, clrM, gD, ioP, endR]
end Lk
namespace Lk
open PySem PySem.Spec L2
/-- the text t so far: words ws, the last one open -/
def Qw (t : List Nat) (ws : List (List Nat)) : Prop := (∀ r, wordsL (t ++ 32 :: r) = ws ++ wordsL r) ∧ ∀ b, Bl b → wordsL (t ++ b) = ws
theorem Qw.first {b w : List Nat} (hb : Bl b) (h : 32 ∉ w) (hn : w ≠ []) : Qw (b ++ w) [w] := by
  refine ⟨fun r => ?_, fun b' hb' => ?_⟩
  · rw [List.append_assoc, wordsL_bl hb, wordsL_w h hn]; rfl
  · rw [List.append_assoc, wordsL_bl hb, wordsL_end h hn hb']
theorem Qw.step {t b w : List Nat} {ws : List (List Nat)} (q : Qw t ws) (hb : Bl b) (h : 32 ∉ w) (hn : w ≠ []) : Qw (t ++ 32 :: (b ++ w)) (ws ++ [w]) := by
  refine ⟨fun r => ?_, fun b' hb' => ?_⟩
  · rw [List.append_assoc, List.cons_append, q.1, List.append_assoc, wordsL_bl hb, wordsL_w h hn]
    simp
  · rw [List.append_assoc, List.cons_append, q.1, List.append_assoc, wordsL_bl hb, wordsL_end h hn hb']
theorem txt_Qw {n : Int} : ∀ {es : List (Int × Int)} {t : List Nat} {ws : List (List Nat)}, Qw t ws → EPs 10 es → Qw (t ++ es.flatMap fun p => 32 :: cl (eS p)) (ws ++ es.map fun p => cl (eS p))
  | [], t, ws, q, _ => by simpa using q
  | p :: es, t, ws, q, h => by
    have hp := h p List.mem_cons_self
    have he := eS_ok (p := p) (by omega) (by omega) (by omega) (by omega)
    have q2 := q.step (b := []) (fun _ h => nomatch h) he.1 he.2.1
    have := txt_Qw (n := n) (es := es) q2 fun r hr => h r (List.mem_cons_of_mem _ hr)
    simpa using this
theorem txt_words {n : Int} {es : List (Int × Int)} (hg : Nice n es) : wordsL (cl (txt n es)) = cl (wS n) :: es.map fun p => cl (eS p) := by
  have hw := wS_ok (i := n) (by have := hg.1; omega) hg.2.1
  have h10 : EPs 10 es := fun p hp => by have := hg.2.2.2.2 p hp; have := hg.2.1; omega
  have q := txt_Qw (n := n) (es := es) (Qw.first (b := []) (fun _ h => nomatch h) hw.1 hw.2.1) h10
  have := q.2 [] fun _ h => nomatch h
  rw [List.append_nil] at this
  unfold txt
  rw [tS_cl]
  simpa using this
theorem lay_app {x y : Str} (hx : (PyData.str x).canLay0 = true) (hy : (PyData.str y).canLay0 = true) : (PyData.str (x ++ y)).canLay0 = true := by
  rw [strOk_iff] at *
  intro a ha
  rw [cl_app] at ha
  rcases List.mem_append.mp ha with h | h
  · exact hx a h
  · exact hy a h
theorem lay_sp : (PyData.str (" " : Str)).canLay0 = true := by decide +kernel
theorem lay_mi : (PyData.str ("-" : Str)).canLay0 = true := by decide +kernel
theorem lay_co : (PyData.str (":" : Str)).canLay0 = true := by decide +kernel
theorem txt_ok {n : Int} {es : List (Int × Int)} (hg : Nice n es) : TxOk (txt n es) := by
  have hw := wS_ok (i := n) (by have := hg.1; omega) hg.2.1
  have h10 : EPs 10 es := fun p hp => by have := hg.2.2.2.2 p hp; have := hg.2.1; omega
  refine ⟨?_, ?_⟩
  · rw [strOk_iff]
    intro a ha
    unfold txt at ha
    rw [tS_cl] at ha
    rcases List.mem_append.mp ha with h | h
    · exact strOk_iff.mp hw.2.2.2 a h
    · obtain ⟨p, hp, h⟩ := List.mem_flatMap.mp h
      have := h10 p hp
      rcases List.mem_cons.mp h with e | h
      · omega
      · exact strOk_iff.mp (eS_ok (p := p) (by omega) (by omega) (by omega) (by omega)).2.2.2 a h
  · have := tS_len (n := n) h10 (acc := wS n)
    have h1 := hg.2.2.1
    have h2 := hw.2.2.1
    unfold txt
    omega
theorem norm_self {p : Int × Int} (h : p.1 < p.2) : normP p = p := by unfold normP; rw [if_pos h]
theorem read_txt {n : Int} {es : List (Int × Int)} (hg : Nice n es) : F_readUgraph [.d (.str (txt n es))] = .ok (.d (gD n es)) [] := by
  refine read_ok (qs := es) (txt_ok hg) hg (fun p hp => by have := hg.2.2.2.2 p hp; omega) ?_ (txt_words hg)
  have e : es.map normP = es.map id := List.map_congr_left fun p hp => norm_self (hg.2.2.2.2 p hp).2.1
  rw [e, List.map_id]
def blkB (x : Str) : Bool := (cl x).all (· == 32) && decide ((cl x).length ≤ 3) && x.cps.all (· < 0x110000)
theorem blk_of {x : Str} (h : blkB x = true) : Bl (cl x) ∧ x.length ≤ 3 ∧ (PyData.str x).canLay0 = true := by
  unfold blkB at h
  simp only [Bool.and_eq_true, List.all_eq_true, beq_iff_eq, decide_eq_true_eq] at h
  exact ⟨h.1.1, by rw [cl_len]; exact h.1.2, by simp only [PyData.canLay0]; exact h.2⟩
theorem blanks_ok {w : DV} (hw : WL w) : ∃ b w', F_lawUblanks [w] = .ok (.d (.str b)) [w'] ∧ WL w' ∧ Bl (cl b) ∧ b.length ≤ 3 ∧ (PyData.str b).canLay0 = true := by
  obtain ⟨x, w', hp, hw', hx⟩ := pick_okT (w := w) (xs := [.str ("" : Str), .str ("" : Str), .str (" " : Str), .str ("   " : Str)]) hw (by simp) (by simp)
  have : ∃ b : Str, x = .str b ∧ blkB b = true := by
    simp only [List.mem_cons, List.not_mem_nil, or_false] at hx
    rcases hx with rfl | rfl | rfl | rfl
    · exact ⟨_, rfl, by decide +kernel⟩
    · exact ⟨_, rfl, by decide +kernel⟩
    · exact ⟨_, rfl, by decide +kernel⟩
    · exact ⟨_, rfl, by decide +kernel⟩
  obtain ⟨b, rfl, hb⟩ := this
  obtain ⟨h1, h2, h3⟩ := blk_of hb
  refine ⟨b, w', ?_, hw', h1, h2, h3⟩
  unfold F_lawUblanks runF m_lawUblanks
  simp [env0, hp, putM, clrM, ioP, endR]
def eAt (es : List (Int × Int)) (k : Int) : Int × Int := (atI es k).getD (0, 0)
theorem map_eAt {es : List (Int × Int)} : (rgL 0 es.length).map (eAt es) = es := by
  apply List.ext_getElem
  · simp [len_rgL]
  · intro i h1 h2
    simp only [rgL, List.getElem_map, List.getElem_range, eAt]
    have : atI es ((0 : Int) + (i : Int)) = some es[i] := by
      rw [Int.zero_add]
      unfold atI ixN
      rw [if_pos (by omega), if_pos (by omega)]
      simp [List.getElem?_eq_getElem h2]
    rw [this]; rfl
theorem eAt_ok {es : List (Int × Int)} {k : Int} (h0 : 0 ≤ k) (h1 : k < es.length) : atI es k = some (eAt es k) ∧ eAt es k ∈ es := by
  obtain ⟨x, h, hx⟩ := atI_in h0 h1
  unfold eAt
  rw [h]
  exact ⟨rfl, hx⟩
end Lk
namespace Lk
open PySem PySem.Spec L2
theorem other_ok {w : DV} {n : Int} {es : List (Int × Int)} (hw : WL w) (hg : Nice n es) : ∃ x w', F_lawUotherUtext [w, .d (gD n es)] = .ok (.d (.str x)) [w'] ∧ WL w' ∧ F_readUgraph [.d (.str x)] = .ok (.d (gD n es)) [] := by
  obtain ⟨g1, g2, g3, g4, g5⟩ := id hg
  obtain ⟨b0, w1, hb, hw1, k1, k2, k3⟩ := blanks_ok hw
  obtain ⟨l, w2, ho, hw2, hp⟩ := order_ok (w := w1) (n := es.length) hw1 (by omega) (by omega)
  have hwS := wS_ok (i := n) (by omega) g2
  have hdn := dS_ok (i := n) (by omega) g2
  have e0 : atI [PyData.int n, .tuple (es.map pairD)] 0 = some (.int n) := atI_0
  have e1 : atI [PyData.int n, .tuple (es.map pairD)] 1 = some (.tuple (es.map pairD)) := atI_1
  have hbig : ∀ k, k ≤ 1000 → k ≤ big := fun k hk => by show k ≤ 1000000; omega
  obtain ⟨e', h1, h2⟩ := forM_ok (T := .nm 3) (g := seqM (asgM (.tp [4, 5]) (op2 ixD (.v 0) (.sl 3) (op2 ixD (.sl 1) (.v 9) (slotM 1) (M.pure (.d (.int 1)))) (slotM 3)))
    (seqM (asgM (.tp [4, 5]) (ifM (asB (.v 9) (op2 (lift2 eqP) (.v 9) (.v 9) (callF F_lawUdraw [.io 1 1, .fz] [.sl 0, .v 9] (consM (slotM 0) (consM (M.pure (.d (.int 2))) (M.pure [])))) (M.pure (.d (.int 0))))) (dispM .tuple (consM (slotM 5) (consM (slotM 4) (M.pure [])))) (dispM .tuple (consM (slotM 4) (consM (slotM 5) (M.pure []))))))
    (seqM (setM 2 (op2 (lift2 addP) (.v 1) (.v 9) (op2 (lift2 addP) (.v 1) (.v 9) (op2 (lift2 addP) (.v 1) (.v 9) (op2 (lift2 addP) (.v 1) (.v 0) (op2 (lift2 addP) (.sl 2) (.v 9) (slotM 2) (M.pure (.d (.str (" " : Str))))) (callF F_lawUblanks [.io 1 1] [.sl 0] (consM (slotM 0) (M.pure [])))) (callM (oneD strP) [.sl 4] (consM (slotM 4) (M.pure [])))) (M.pure (.d (.str ("-" : Str))))) (callM (oneD strP) [.sl 5] (consM (slotM 5) (M.pure [])))))
    nxM)))
    (fun items e => ∃ (w : DV) (rest : List Int) (t : Str) (qs : List (Int × Int)) (a b c : Option DV), items = (rest.map .int).map .d ∧ WL w ∧ (∀ k ∈ rest, 0 ≤ k ∧ k < es.length) ∧ (∀ p ∈ qs, 0 ≤ p.1 ∧ p.1 < n ∧ 0 ≤ p.2 ∧ p.2 < n ∧ p.1 ≠ p.2) ∧ (qs.map normP ++ rest.map (eAt es)).Perm es ∧
      Qw (cl t) (cl (wS n) :: qs.map fun p => cl (eS p)) ∧ (PyData.str t).canLay0 = true ∧ t.length + 9 * rest.length ≤ 300 ∧ e = [some w, some (.d (gD n es)), some (.d (.str t)), a, b, c])
    (by
      rintro d rest e ⟨w, rest', t, qs, a, b, c, hi, hw, hr, hq, hpm, hQ, hlay, hln, rfl⟩
      cases rest' with
      | nil => simp at hi
      | cons k rest' =>
        simp only [List.map_cons, List.cons.injEq] at hi
        obtain ⟨rfl, rfl⟩ := hi
        simp only [List.length_cons] at hln
        have hk := hr k List.mem_cons_self
        obtain ⟨ha, hm⟩ := eAt_ok hk.1 hk.2
        have hp5 := g5 _ hm
        generalize hpe : eAt es k = p at *
        obtain ⟨r, w3, hd, hw3, _, _⟩ := draw_ok (w := w) (m := 2) hw (by omega) (by omega)
        obtain ⟨bl, w4, hbl, hw4, c1, c2, c3⟩ := blanks_ok hw3
        -- the edge, turned or not
        obtain ⟨q, hqe, hqn, hq1, hq2, hq3, hq4, hq5⟩ : ∃ q : Int × Int, (if r = 0 then (p.2, p.1) else (p.1, p.2)) = q ∧ normP q = p ∧ 0 ≤ q.1 ∧ q.1 < n ∧ 0 ≤ q.2 ∧ q.2 < n ∧ q.1 ≠ q.2 := by
          by_cases hz : r = 0
          · refine ⟨(p.2, p.1), by rw [if_pos hz], ?_, by simp only; omega, by simp only; omega, by simp only; omega, by simp only; omega, by simp only; omega⟩
            unfold normP
            rw [if_neg (by simp only; omega)]
          · exact ⟨p, by rw [if_neg hz], norm_self hp5.2.1, by omega, by omega, by omega, by omega, by omega⟩
        have d1 := (dS_ok (i := q.1) (by omega) (by omega))
        have d2 := (dS_ok (i := q.2) (by omega) (by omega))
        have hE := eS_ok (p := q) (by omega) (by omega) (by omega) (by omega)
        have hEl := hE.2.2.1
        unfold eS at hEl
        simp only [Str.length_append, len_mi] at hEl
        have a1 := addP_ss (x := t) (y := (" " : Str)) (hbig _ (by rw [len_sp]; omega))
        have a2 := addP_ss (x := t ++ (" " : Str)) (y := bl) (hbig _ (by simp only [Str.length_append, len_sp]; omega))
        have a3 := addP_ss (x := t ++ (" " : Str) ++ bl) (y := dS q.1) (hbig _ (by simp only [Str.length_append, len_sp]; omega))
        have a4 := addP_ss (x := t ++ (" " : Str) ++ bl ++ dS q.1) (y := ("-" : Str)) (hbig _ (by simp only [Str.length_append, len_sp, len_mi]; omega))
        have a5 := addP_ss (x := t ++ (" " : Str) ++ bl ++ dS q.1 ++ ("-" : Str)) (y := dS q.2) (hbig _ (by simp only [Str.length_append, len_sp, len_mi]; omega))
        refine ⟨[some w, some (.d (gD n es)), some (.d (.str t)), some (.d (.int k)), b, c], [some w4, some (.d (gD n es)), some (.d (.str (t ++ (" " : Str) ++ bl ++ dS q.1 ++ ("-" : Str) ++ dS q.2))), some (.d (.int k)), some (.d (.int q.1)), some (.d (.int q.2))], by simp, .inl ?_, w4, rest', _, qs ++ [q], _, _, _, rfl, hw4, fun k hk => hr k (List.mem_cons_of_mem _ hk), fun z hz => ?_, ?_, ?_, ?_, ?_, rfl⟩
        · unfold gD
          by_cases hz : r = 0
          · rw [if_pos hz] at hqe
            subst hqe
            simp only at a3 a4 a5 d1 d2
            simp [-List.map_map, e1, ha, atI_map, pairD, hd, putM, clrM, hz, hbl, a1, a2, a3, a4, a5, strP_i (i := p.1) (by omega) (by omega), strP_i (i := p.2) (by omega) (by omega)]
          · rw [if_neg hz] at hqe
            subst hqe
            simp only at a3 a4 a5 d1 d2
            simp [-List.map_map, e1, ha, atI_map, pairD, hd, putM, clrM, hz, hbl, a1, a2, a3, a4, a5, strP_i (i := p.1) (by omega) (by omega), strP_i (i := p.2) (by omega) (by omega)]
        · rcases List.mem_append.mp hz with hz | hz
          · exact hq z hz
          · rw [List.mem_singleton.mp hz]; exact ⟨hq1, hq2, hq3, hq4, hq5⟩
        · refine List.Perm.trans ?_ hpm
          rw [List.map_append, List.map_cons, List.map_cons, hpe, List.map_nil, hqn, List.append_assoc]
          exact .refl _
        · have := hQ.step (b := cl bl) (w := cl (eS q)) c1 hE.1 hE.2.1
          have ec : cl (t ++ (" " : Str) ++ bl ++ dS q.1 ++ ("-" : Str) ++ dS q.2) = cl t ++ 32 :: (cl bl ++ cl (eS q)) := by
            unfold eS
            simp only [cl_app, cl_sp, List.append_assoc, List.cons_append, List.nil_append]
          rw [ec]
          simpa using this
        · exact lay_app (lay_app (lay_app (lay_app (lay_app hlay lay_sp) c3) d1.2.2.2) lay_mi) d2.2.2.2
        · simp only [Str.length_append, len_sp, len_mi]
          omega)
    ((l.map .int).map .d) [some w2, some (.d (gD n es)), some (.d (.str (b0 ++ dS n ++ (":" : Str)))), none, none, none]
    ⟨w2, l, b0 ++ dS n ++ (":" : Str), [], none, none, none, rfl, hw2, fun k hk => mem_rgL.mp (hp.mem_iff.mp hk), (fun _ h => nomatch h), by
      have := hp.map (eAt es)
      rw [map_eAt] at this
      simpa using this, by
      have q := Qw.first (b := cl b0) k1 hwS.1 hwS.2.1
      have ec : cl (b0 ++ dS n ++ (":" : Str)) = cl b0 ++ cl (wS n) := by
        unfold wS
        simp only [cl_app, List.append_assoc]
      rw [ec]
      simpa using q, lay_app (lay_app k3 hdn.2.2.2) lay_co, by
      have := hp.length_eq
      rw [len_rgL] at this
      have h5 := hwS.2.2.1
      unfold wS at h5
      simp only [Str.length_append, len_co] at h5 ⊢
      omega, rfl⟩
  obtain ⟨w5, rest, t, qs, a, b, c, hi, hw5, _, hq, hpm, hQ, hlay, hln, rfl⟩ := h2
  cases rest with
  | cons _ _ => simp at hi
  | nil =>
    obtain ⟨b9, w6, hb9, hw6, m1, m2, m3⟩ := blanks_ok hw5
    refine ⟨t ++ b9, w6, ?_, hw6, read_ok (qs := qs) ⟨lay_app hlay m3, by simp only [Str.length_append]; omega⟩ hg hq (by simpa using hpm) ?_⟩
    · have h5 := hwS.2.2.1
      unfold wS at h5
      simp only [Str.length_append, len_co] at h5
      have a1 := addP_ss (x := b0) (y := dS n) (hbig _ (by omega))
      have a2 := addP_ss (x := b0 ++ dS n) (y := (":" : Str)) (hbig _ (by simp only [Str.length_append, len_co]; omega))
      have a3 := addP_ss (x := t) (y := b9) (hbig _ (by omega))
      unfold F_lawUotherUtext runF m_lawUotherUtext
      simp only [env0, List.map_cons, List.map_nil, List.length_cons, List.length_nil]
      unfold gD at h1 ⊢
      simp [-List.map_map, hb, putM, clrM, e0, e1, strP_i (i := n) (by omega) g2, a1, a2, lenD, ho, h1, hb9, a3, ioP, endR]
    · rw [cl_app]
      exact hQ.2 _ m1
end Lk
namespace Lk
open PySem PySem.Spec L2
/-- is shown, in so many signs at most -/
def ShB (k : Nat) (x : PyData) : Prop := x.showable = true ∧ x.shown.length ≤ k
theorem ShB.mono {j k : Nat} {x : PyData} (h : ShB j x) (hk : j ≤ k) : ShB k x := ⟨h.1, Nat.le_trans h.2 hk⟩
theorem shbAll {k : Nat} : ∀ {xs : List PyData}, (∀ x ∈ xs, ShB k x) → PyData.showableAll xs = true ∧ ((PyData.shownAll xs).map (·.length)).sum ≤ xs.length * k ∧ (PyData.shownAll xs).length = xs.length
  | [], _ => ⟨by simp [PyData.showableAll], by simp [PyData.shownAll], by simp [PyData.shownAll]⟩
  | x :: xs, h => by
    obtain ⟨h1, h2⟩ := h x List.mem_cons_self
    obtain ⟨q1, q2, q3⟩ := shbAll fun y hy => h y (List.mem_cons_of_mem _ hy)
    refine ⟨by simp [PyData.showableAll, h1, q1], ?_, by simp [PyData.shownAll, q3]⟩
    simp only [PyData.shownAll, List.map_cons, List.sum_cons, List.length_cons, Nat.succ_mul]
    omega
theorem shb_list {k : Nat} {xs : List PyData} (h : ∀ x ∈ xs, ShB k x) : ShB (xs.length * (k + 2) + 3) (.list xs) := by
  obtain ⟨q1, q2, q3⟩ := shbAll h
  refine ⟨by simpa [PyData.showable] using q1, ?_⟩
  simp only [PyData.shown]
  have := PySem.listText_len_le (PyData.shownAll xs)
  rw [Nat.mul_add]
  omega
theorem shb_tuple {k : Nat} {xs : List PyData} (h : ∀ x ∈ xs, ShB k x) : ShB (xs.length * (k + 2) + 3) (.tuple xs) := by
  obtain ⟨q1, q2, q3⟩ := shbAll h
  refine ⟨by simpa [PyData.showable] using q1, ?_⟩
  simp only [PyData.shown]
  have := PySem.tupleText_len_le (PyData.shownAll xs)
  rw [Nat.mul_add]
  omega
theorem shb_int {i : Int} (h0 : 0 ≤ i) (h1 : i ≤ 10) : ShB 5 (.int i) := by
  refine ⟨?_, ?_⟩
  · simp only [PyData.showable, decide_eq_true_eq]
    have h2 : i.natAbs.log2 ≤ i.natAbs := Nat.log2_le_self _
    omega
  · simp only [PyData.shown]
    exact (dS_ok h0 h1).2.2.1
theorem shb_str {x : Str} (h : TxOk x) (hl : x.length ≤ 1000) : ShB 10002 (.str x) := by
  refine ⟨by simp [PyData.showable], ?_⟩
  simp only [PyData.shown]
  have := StrLaws.reprText_len x fun c hc => Nat.lt_of_lt_of_le (strOk_iff.mp h.1 c hc) (by decide)
  omega
theorem shb_graph {n : Int} {es : List (Int × Int)} (hg : Nice n es) : ShB 5000 (gD n es) := by
  have hp : ∀ x ∈ es.map pairD, ShB 100 x := fun x hx => by
    obtain ⟨p, hp, rfl⟩ := List.mem_map.mp hx
    have := hg.2.2.2.2 p hp
    have h10 := hg.2.1
    refine (shb_tuple (k := 5) fun z hz => ?_).mono (by simp)
    simp only [List.mem_cons, List.not_mem_nil, or_false] at hz
    rcases hz with rfl | rfl
    · exact shb_int (by omega) (by omega)
    · exact shb_int (by omega) (by omega)
  have ht := shb_tuple hp
  rw [List.length_map] at ht
  have h24 := hg.2.2.1
  have ht := ht.mono (k := 2451) (by omega)
  refine ShB.mono (shb_tuple (k := 2451) (xs := [.int n, .tuple (es.map pairD)]) fun z hz => ?_) (by simp)
  simp only [List.mem_cons, List.not_mem_nil, or_false] at hz
  rcases hz with rfl | rfl
  · exact (shb_int (by have := hg.1; omega) hg.2.1).mono (by omega)
  · exact ht
theorem reprP_s {m k : Nat} {x : PyData} (h0 : isSeq x = true) (h1 : Shp m x) (h2 : ShB k x) (hm : m ≤ 64 := by decide) (hk : k ≤ 1000000 := by omega) : reprP x = some (.str x.shown) := by
  unfold reprP
  rw [h0, h1.ok hm, h2.1]
  simp only [Bool.and_self, Bool.true_and]
  rw [if_pos]
  exact decide_eq_true (Nat.le_trans h2.2 hk)
theorem shp_graph {n : Int} {es : List (Int × Int)} : Shp 3 (gD n es) := shp_tuple fun z hz => by
  simp only [List.mem_cons, List.not_mem_nil, or_false] at hz
  rcases hz with rfl | rfl
  · exact shp_int.mono (by omega)
  · exact shp_pairsT
theorem noBs_pairs : ∀ {ps : List (Int × Int)}, noBs (ps.map pairD) = true
  | [] => by simp [noBs]
  | p :: ps => by
    have ih := noBs_pairs (ps := ps)
    simp only [List.map_cons, noBs, ih, Bool.and_true]
    simp [pairD, noB, noBs]
theorem noB_graph {n : Int} {es : List (Int × Int)} : noB (gD n es) = true := by
  unfold gD
  simp [noB, noBs, noBs_pairs]
theorem gD_inj {n n' : Int} {es es' : List (Int × Int)} (h : gD n es = gD n' es') : n = n' ∧ es = es' := by
  unfold gD at h
  simp only [PyData.tuple.injEq, List.cons.injEq, PyData.int.injEq, and_true] at h
  refine ⟨h.1, ?_⟩
  have q := getPs_map (ps := es)
  rw [h.2, getPs_map] at q
  exact (Option.some.inj q).symm
theorem eqv_graph {n n' : Int} {es es' : List (Int × Int)} : PyData.eqv (gD n es) (gD n' es') = decide (n = n' ∧ es = es') := by
  by_cases h : n = n' ∧ es = es'
  · rw [decide_eq_true h, h.1, h.2, eqv_refl _ shp_graph.1]
  · rw [decide_eq_false h]
    cases e : PyData.eqv (gD n es) (gD n' es') with
    | false => rfl
    | true => exact absurd (gD_inj (eqv_eq _ _ noB_graph noB_graph e)) h
theorem right_ok {w : DV} (hw : WL w) : ∃ w', F_lawUright [w] = .ok (.d (.bool true)) [w'] := by
  obtain ⟨e', h1, h2⟩ := forM_ok (T := .nm 1) (g := seqM (setM 2 (ifM (asB (.v 9) (op2 (lift2 eqP) (.v 9) (.v 9) (callF F_lawUdraw [.io 1 1, .fz] [.sl 0, .v 9] (consM (slotM 0) (consM (M.pure (.d (.int 5))) (M.pure [])))) (M.pure (.d (.int 0))))) (callF F_lawUfull [.io 1 1, .fz] [.sl 0, .v 9] (consM (slotM 0) (consM (M.pure (.d (.int 24))) (M.pure [])))) (callF F_lawUgraph [.io 1 1, .fz, .fz] [.sl 0, .v 9, .v 9] (consM (slotM 0) (consM (M.pure (.d (.int 10))) (consM (M.pure (.d (.int 24))) (M.pure [])))))))
    (seqM (setM 3 (callF F_lawUtext [.fz] [.v 0] (consM (slotM 2) (M.pure []))))
    (seqM (ifS (asB (.v 9) (op2 (lift2 neP) (.v 9) (.v 9) (callM (oneD reprP) [.v 10] (consM (dispM .list (consM (callF F_showUgraph [.fz] [.v 0] (consM (slotM 2) (M.pure []))) (consM (callF F_showUgraph [.fz] [.v 0] (consM (slotM 2) (M.pure []))) (M.pure [])))) (M.pure []))) (callM (oneD reprP) [.v 1] (consM (dispM .list (consM (slotM 3) (consM (slotM 3) (M.pure [])))) (M.pure [])))))
    (seqM (retM [(0, 1)] (M.pure (.d (.bool false))))
    nxM)
    nxM)
    (seqM (setM 4 (callF F_lawUotherUtext [.io 1 1, .fz] [.sl 0, .v 0] (consM (slotM 0) (consM (slotM 2) (M.pure [])))))
    (seqM (ifS (asB (.v 9) (op2 (lift2 neP) (.v 9) (.v 9) (callM (oneD reprP) [.v 2] (consM (dispM .list (consM (callF F_readUgraph [.fz] [.v 0] (consM (slotM 3) (M.pure []))) (consM (callF F_readUgraph [.fz] [.v 0] (consM (slotM 4) (M.pure []))) (consM (callF F_readUgraph [.fz] [.v 0] (consM (slotM 4) (M.pure []))) (M.pure []))))) (M.pure []))) (callM (oneD reprP) [.v 1] (consM (dispM .list (consM (slotM 2) (consM (slotM 2) (consM (slotM 2) (M.pure []))))) (M.pure [])))))
    (seqM (retM [(0, 1)] (M.pure (.d (.bool false))))
    nxM)
    nxM)
    (seqM (setM 5 (callF F_lawUgraph [.io 1 1, .fz, .fz] [.sl 0, .v 9, .v 9] (consM (slotM 0) (consM (M.pure (.d (.int 10))) (consM (M.pure (.d (.int 24))) (M.pure []))))))
    (seqM (ifS (asB (.v 9) (op2 (lift2 neP) (.v 9) (.v 9) (op2 (lift2 eqP) (.v 9) (.sl 3) (callF F_showUgraph [.fz] [.v 0] (consM (slotM 5) (M.pure []))) (slotM 3)) (op2 (lift2 eqP) (.sl 5) (.sl 2) (slotM 5) (slotM 2))))
    (seqM (retM [(0, 1)] (M.pure (.d (.bool false))))
    nxM)
    nxM)
    nxM)))))))
    (fun items e => ∃ (w : DV) (a b c d x : Option DV), WL w ∧ e = [some w, a, b, c, d, x])
    (by
      rintro t rest e ⟨w, a, b, c, d, x, hw, rfl⟩
      obtain ⟨r, w1, hd, hw1, _, _⟩ := draw_ok (w := w) (m := 5) hw (by omega) (by omega)
      obtain ⟨n, es, w2, hgr, hw2, hg⟩ : ∃ n es w2, (if r = 0 then F_lawUfull [w1, .d (.int 24)] else F_lawUgraph [w1, .d (.int 10), .d (.int 24)]) = .ok (.d (gD n es)) [w2] ∧ WL w2 ∧ Nice n es := by
        by_cases hz : r = 0
        · obtain ⟨es, w2, q1, q2, q3⟩ := full_ok hw1
          exact ⟨10, es, w2, by rw [if_pos hz]; exact q1, q2, q3⟩
        · obtain ⟨n, es, w2, q1, q2, q3⟩ := graph_ok hw1
          exact ⟨n, es, w2, by rw [if_neg hz]; exact q1, q2, q3⟩
      have ht := text_ok hg
      have hs := show_ok hg
      obtain ⟨y, w3, ho, hw3, hry⟩ := other_ok hw2 hg
      have hr := read_txt hg
      obtain ⟨n', es', w4, hg', hw4, hN'⟩ := graph_ok hw3
      have hs' := show_ok hN'
      have tx := txt_ok hg
      have tl : (txt n es).length ≤ 1000 := by
        have := tS_len (n := n) (es := es) (fun p hp => by have := hg.2.2.2.2 p hp; have := hg.2.1; omega) (acc := wS n)
        have h1 := hg.2.2.1
        have h2 := (wS_ok (i := n) (by have := hg.1; omega) hg.2.1).2.2.1
        unfold txt
        omega
      have rp1 := reprP_s (x := .list [.str (txt n es), .str (txt n es)]) rfl (shp_list (n := 0) fun z hz => by
        simp only [List.mem_cons, List.not_mem_nil, or_false, or_self] at hz
        subst hz
        exact shp_str tx.1) (shb_list (k := 10002) fun z hz => by
        simp only [List.mem_cons, List.not_mem_nil, or_false, or_self] at hz
        subst hz
        exact shb_str tx tl) (by decide) (by simp)
      have rp2 := reprP_s (x := .list [gD n es, gD n es, gD n es]) rfl (shp_list (n := 3) fun z hz => by
        simp only [List.mem_cons, List.not_mem_nil, or_false, or_self] at hz
        subst hz
        exact shp_graph) (shb_list (k := 5000) fun z hz => by
        simp only [List.mem_cons, List.not_mem_nil, or_false, or_self] at hz
        subst hz
        exact shb_graph hg) (by decide) (by simp)
      have same : decide (txt n' es' = txt n es) = decide (n' = n ∧ es' = es) := by
        apply decide_eq_decide.mpr
        constructor
        · intro e
          have q1 := read_txt hN'
          rw [e, hr] at q1
          have q2 : gD n es = gD n' es' := by injection q1 with q2; injection q2
          have := gD_inj q2
          exact ⟨this.1.symm, this.2.symm⟩
        · rintro ⟨rfl, rfl⟩
          rfl
      refine ⟨[some w, some t, b, c, d, x], [some w4, some t, some (.d (gD n es)), some (.d (.str (txt n es))), some (.d (.str y)), some (.d (gD n' es'))], rfl, .inl ?_, w4, _, _, _, _, _, hw4, rfl⟩
      have fin : PyData.eqv (.bool (decide (txt n' es' = txt n es))) (.bool (decide (n' = n ∧ es' = es))) = true := by
        rw [same]; simp [PyData.eqv]
      by_cases hz : r = 0
      · rw [if_pos hz] at hgr
        simp [-decide_eq_decide, -Bool.decide_and, hd, putM, clrM, hz, hgr, ht, hs, rp1, neP_str, eqv_str, ho, hr, hry, rp2, hg', hs', eqP_str, eqP_s (shp_graph (n := n') (es := es')) (shp_graph (n := n) (es := es)), eqv_graph, neP_s shp_bool shp_bool, fin]
      · rw [if_neg hz] at hgr
        simp [-decide_eq_decide, -Bool.decide_and, hd, putM, clrM, hz, hgr, ht, hs, rp1, neP_str, eqv_str, ho, hr, hry, rp2, hg', hs', eqP_str, eqP_s (shp_graph (n := n') (es := es')) (shp_graph (n := n) (es := es)), eqv_graph, neP_s shp_bool shp_bool, fin])
    ((rgP 0 3).map .d) [some w, none, none, none, none, none] ⟨w, _, _, _, _, _, hw, rfl⟩
  obtain ⟨w', a, b, c, d, x, hw', rfl⟩ := h2
  have hrg : rgOk 0 3 = true := rgOk_of (by omega) (by omega) (by omega) (by omega)
  refine ⟨w', ?_⟩
  unfold F_lawUright runF m_lawUright
  simp only [env0, List.map_cons, List.map_nil, List.length_cons, List.length_nil]
  simp [rgI_ok hrg, h1, ioP, endR]
end Lk
namespace Lk
open PySem PySem.Spec L2
theorem well_ok {ns : List Int} {t : Int} (ht : 0 ≤ t) : ∃ w, F_lawUwell [.s ns, .d (.int t)] = .ok w [] ∧ WL w := by
  obtain ⟨own, hown⟩ : ∃ own : Int, (if t < ns.length then atI ns t = some own else own = 0) := by
    by_cases h : t < ns.length
    · obtain ⟨x, hx, _⟩ := atI_in ht h
      exact ⟨x, by rw [if_pos h]; exact hx⟩
    · exact ⟨0, by rw [if_neg h]⟩
  have hsl : ∃ xs : List Int, slD (.s ns) none (some 11) = some (.d (.list (xs.map .int))) := ⟨_, rfl⟩
  obtain ⟨xs, hxs⟩ := hsl
  obtain ⟨e', h1, h2⟩ := forM_ok (T := .nm 4) (g := seqM (setM 3 (op2 (lift2 modP) (.v 9) (.v 9) (callM (oneD intP) [.v 1] (consM (op2 (lift2 addP) (.v 1) (.v 9) (op2 (lift2 addP) (.v 9) (.v 9) (op2 (lift2 mulP) (.sl 3) (.v 9) (slotM 3) (M.pure (.d (.int 22695)))) (op2 (lift2 modP) (.v 9) (.v 9) (callM (oneD intP) [.sl 4] (consM (slotM 4) (M.pure []))) (M.pure (.d (.int 2147483423))))) (M.pure (.d (.int 53)))) (M.pure []))) (M.pure (.d (.int 2147483399)))))
    nxM)
    (fun items e => ∃ (rest : List Int) (m : Int) (x : Option DV), items = (rest.map .int).map .d ∧ e = [some (.s ns), some (.d (.int t)), some (.d (.int own)), some (.d (.int m)), x])
    (by
      rintro d rest e ⟨rest', m, x, hi, rfl⟩
      cases rest' with
      | nil => simp at hi
      | cons c rest' =>
        simp only [List.map_cons, List.cons.injEq] at hi
        obtain ⟨rfl, rfl⟩ := hi
        refine ⟨[some (.s ns), some (.d (.int t)), some (.d (.int own)), some (.d (.int m)), some (.d (.int c))], [some (.s ns), some (.d (.int t)), some (.d (.int own)), some (.d (.int ((m * 22695 + c % 2147483423 + 53) % 2147483399))), some (.d (.int c))], rfl, .inl ?_, rest', _, _, rfl, rfl⟩
        simp)
    ((xs.map .int).map .d) [some (.s ns), some (.d (.int t)), some (.d (.int own)), some (.d (.int (97 + 32452843 * t))), none] ⟨xs, _, none, rfl, rfl⟩
  obtain ⟨rest, m, x, hi, rfl⟩ := h2
  have hpow : powP (.int 10) (.int 16) = some (.int 10000000000000000) := by simp [powP]
  refine ⟨wl (if (10000000000000000 : Int) ≤ (if own < 0 then -own else own) then (if own < 0 then -own else own) else 0) ((m * 41358 + own % 2147483423 * 10301 + 23) % 2147483399) 0, ?_, ⟨_, _, _, rfl⟩⟩
  · unfold F_lawUwell runF m_lawUwell
    simp only [env0, List.map_cons, List.map_nil, List.length_cons, List.length_nil]
    by_cases h : t < ns.length
    · rw [if_pos h] at hown
      by_cases hb : (10000000000000000 : Int) ≤ (if own < 0 then -own else own)
      · simp [-List.map_map, lenD, h, hown, intD, hxs, h1, hpow, absP, hb, ioP, endR]
      · simp [-List.map_map, lenD, h, hown, intD, hxs, h1, hpow, absP, hb, ioP, endR]
    · rw [if_neg h] at hown
      subst hown
      simp [-List.map_map, lenD, h, intD, hxs, h1, hpow, absP, ioP, endR]
theorem law_true (ns : List Int) (h63 : ns.length ≤ 63) : F_law [.s ns] = .ok (.d (.bool true)) [] := by
  obtain ⟨e', h1, h2⟩ := forM_ok (T := .nm 1) (g := seqM (ifS (notM (truM (.v 9) (callF F_lawUright [.io 1 1] [.v 1] (consM (callF F_lawUwell [.fz, .fz] [.v 0, .v 0] (consM (slotM 0) (consM (slotM 1) (M.pure [])))) (M.pure [])))))
    (seqM (retM [] (M.pure (.d (.bool false))))
    nxM)
    nxM)
    nxM)
    (fun items e => ∃ (rest : List Int) (x : Option DV), items = (rest.map .int).map .d ∧ (∀ k ∈ rest, 0 ≤ k) ∧ e = [some (.s ns), x])
    (by
      rintro d rest e ⟨rest', x, hi, hr, rfl⟩
      cases rest' with
      | nil => simp at hi
      | cons t rest' =>
        simp only [List.map_cons, List.cons.injEq] at hi
        obtain ⟨rfl, rfl⟩ := hi
        obtain ⟨w, hw, hW⟩ := well_ok (ns := ns) (hr t List.mem_cons_self)
        obtain ⟨w', hright⟩ := right_ok hW
        refine ⟨[some (.s ns), some (.d (.int t))], [some (.s ns), some (.d (.int t))], rfl, .inl ?_, rest', _, rfl, fun k hk => hr k (List.mem_cons_of_mem _ hk), rfl⟩
        simp [hw, hright, putM, clrM, truD])
    ((rgP 0 (if (if (4 : Int) < ns.length then 4 else (ns.length : Int)) > 2 then (if (4 : Int) < ns.length then 4 else (ns.length : Int)) else 2)).map .d) [some (.s ns), none] ⟨_, none, by rw [rgP_rgL], fun k hk => (mem_rgL.mp hk).1, rfl⟩
  obtain ⟨rest, x, _, _, rfl⟩ := h2
  have hm : maxP (.int 2) (.int (if (4 : Int) < ns.length then 4 else (ns.length : Int))) = some (.int (if (if (4 : Int) < ns.length then 4 else (ns.length : Int)) > 2 then (if (4 : Int) < ns.length then 4 else (ns.length : Int)) else 2)) := rfl
  have hrg : rgOk 0 (if (if (4 : Int) < ns.length then 4 else (ns.length : Int)) > 2 then (if (4 : Int) < ns.length then 4 else (ns.length : Int)) else 2) = true := by
    apply rgOk_of (by omega) (by omega)
    · split <;> (try split) <;> omega
    · split <;> (try split) <;> omega
  have hmin : minP (.int ns.length) (.int 4) = some (.int (if (4 : Int) < ns.length then 4 else (ns.length : Int))) := rfl
  generalize (if (4 : Int) < ns.length then 4 else (ns.length : Int)) = a at *
  generalize (if a > 2 then a else 2) = b at *
  unfold F_law runF m_law
  simp only [env0, List.map_cons, List.map_nil, List.length_cons, List.length_nil]
  simp [lenD, hmin, hm, rgI_ok hrg, h1, ioP, endR]
end Lk
namespace Lk
open PySem PySem.Spec L2
theorem all_mk {l : PySem.W.OpenLaw} {w : World} {K : PySem.W.Frag} {h : Heap} {mg : Str → Option Value} (X : K.In h) (G : h.Ns mainGlobals mg) {Z : ClT}
    {f_lawUtext : Addr} {od_lawUtext an_lawUtext : Option Addr} {sl_lawUtext : Array (Option Value)} {oc_lawUtext kV_lawUtext dc_lawUtext pm_lawUtext cd_lawUtext ct_lawUtext : Value}
    (a_lawUtext : PySem.W.nsIn K mainGlobals "_law_text" = some (some (.ref f_lawUtext)))
    (l_lawUtext : K.lookup f_lawUtext = some ⟨oc_lawUtext, od_lawUtext, .func (PySem.W.fnOf "_law_text" "_law_text" (defArgs s_lawUtext) (defBody s_lawUtext) (defScope s_lawUtext) .none kV_lawUtext dc_lawUtext pm_lawUtext an_lawUtext cd_lawUtext ct_lawUtext), sl_lawUtext⟩)
    (d_lawUtext : PySem.W.codeIn K cd_lawUtext "_law_text" = true) (k_lawUtext : PySem.W.keepIn K (.ref f_lawUtext) = true)
    {f_lawUdraw : Addr} {od_lawUdraw an_lawUdraw : Option Addr} {sl_lawUdraw : Array (Option Value)} {oc_lawUdraw kV_lawUdraw dc_lawUdraw pm_lawUdraw cd_lawUdraw ct_lawUdraw : Value}
    (a_lawUdraw : PySem.W.nsIn K mainGlobals "_law_draw" = some (some (.ref f_lawUdraw)))
    (l_lawUdraw : K.lookup f_lawUdraw = some ⟨oc_lawUdraw, od_lawUdraw, .func (PySem.W.fnOf "_law_draw" "_law_draw" (defArgs s_lawUdraw) (defBody s_lawUdraw) (defScope s_lawUdraw) .none kV_lawUdraw dc_lawUdraw pm_lawUdraw an_lawUdraw cd_lawUdraw ct_lawUdraw), sl_lawUdraw⟩)
    (d_lawUdraw : PySem.W.codeIn K cd_lawUdraw "_law_draw" = true) (k_lawUdraw : PySem.W.keepIn K (.ref f_lawUdraw) = true)
    {f_lawUpick : Addr} {od_lawUpick an_lawUpick : Option Addr} {sl_lawUpick : Array (Option Value)} {oc_lawUpick kV_lawUpick dc_lawUpick pm_lawUpick cd_lawUpick ct_lawUpick : Value}
    (a_lawUpick : PySem.W.nsIn K mainGlobals "_law_pick" = some (some (.ref f_lawUpick)))
    (l_lawUpick : K.lookup f_lawUpick = some ⟨oc_lawUpick, od_lawUpick, .func (PySem.W.fnOf "_law_pick" "_law_pick" (defArgs s_lawUpick) (defBody s_lawUpick) (defScope s_lawUpick) .none kV_lawUpick dc_lawUpick pm_lawUpick an_lawUpick cd_lawUpick ct_lawUpick), sl_lawUpick⟩)
    (d_lawUpick : PySem.W.codeIn K cd_lawUpick "_law_pick" = true) (k_lawUpick : PySem.W.keepIn K (.ref f_lawUpick) = true)
    {f_lawUorder : Addr} {od_lawUorder an_lawUorder : Option Addr} {sl_lawUorder : Array (Option Value)} {oc_lawUorder kV_lawUorder dc_lawUorder pm_lawUorder cd_lawUorder ct_lawUorder : Value}
    (a_lawUorder : PySem.W.nsIn K mainGlobals "_law_order" = some (some (.ref f_lawUorder)))
    (l_lawUorder : K.lookup f_lawUorder = some ⟨oc_lawUorder, od_lawUorder, .func (PySem.W.fnOf "_law_order" "_law_order" (defArgs s_lawUorder) (defBody s_lawUorder) (defScope s_lawUorder) .none kV_lawUorder dc_lawUorder pm_lawUorder an_lawUorder cd_lawUorder ct_lawUorder), sl_lawUorder⟩)
    (d_lawUorder : PySem.W.codeIn K cd_lawUorder "_law_order" = true) (k_lawUorder : PySem.W.keepIn K (.ref f_lawUorder) = true)
    {f_lawUblanks : Addr} {od_lawUblanks an_lawUblanks : Option Addr} {sl_lawUblanks : Array (Option Value)} {oc_lawUblanks kV_lawUblanks dc_lawUblanks pm_lawUblanks cd_lawUblanks ct_lawUblanks : Value}
    (a_lawUblanks : PySem.W.nsIn K mainGlobals "_law_blanks" = some (some (.ref f_lawUblanks)))
    (l_lawUblanks : K.lookup f_lawUblanks = some ⟨oc_lawUblanks, od_lawUblanks, .func (PySem.W.fnOf "_law_blanks" "_law_blanks" (defArgs s_lawUblanks) (defBody s_lawUblanks) (defScope s_lawUblanks) .none kV_lawUblanks dc_lawUblanks pm_lawUblanks an_lawUblanks cd_lawUblanks ct_lawUblanks), sl_lawUblanks⟩)
    (d_lawUblanks : PySem.W.codeIn K cd_lawUblanks "_law_blanks" = true) (k_lawUblanks : PySem.W.keepIn K (.ref f_lawUblanks) = true)
    {f_lawUotherUtext : Addr} {od_lawUotherUtext an_lawUotherUtext : Option Addr} {sl_lawUotherUtext : Array (Option Value)} {oc_lawUotherUtext kV_lawUotherUtext dc_lawUotherUtext pm_lawUotherUtext cd_lawUotherUtext ct_lawUotherUtext : Value}
    (a_lawUotherUtext : PySem.W.nsIn K mainGlobals "_law_other_text" = some (some (.ref f_lawUotherUtext)))
    (l_lawUotherUtext : K.lookup f_lawUotherUtext = some ⟨oc_lawUotherUtext, od_lawUotherUtext, .func (PySem.W.fnOf "_law_other_text" "_law_other_text" (defArgs s_lawUotherUtext) (defBody s_lawUotherUtext) (defScope s_lawUotherUtext) .none kV_lawUotherUtext dc_lawUotherUtext pm_lawUotherUtext an_lawUotherUtext cd_lawUotherUtext ct_lawUotherUtext), sl_lawUotherUtext⟩)
    (d_lawUotherUtext : PySem.W.codeIn K cd_lawUotherUtext "_law_other_text" = true) (k_lawUotherUtext : PySem.W.keepIn K (.ref f_lawUotherUtext) = true)
    {f_lawUpairsUof : Addr} {od_lawUpairsUof an_lawUpairsUof : Option Addr} {sl_lawUpairsUof : Array (Option Value)} {oc_lawUpairsUof kV_lawUpairsUof dc_lawUpairsUof pm_lawUpairsUof cd_lawUpairsUof ct_lawUpairsUof : Value}
    (a_lawUpairsUof : PySem.W.nsIn K mainGlobals "_law_pairs_of" = some (some (.ref f_lawUpairsUof)))
    (l_lawUpairsUof : K.lookup f_lawUpairsUof = some ⟨oc_lawUpairsUof, od_lawUpairsUof, .func (PySem.W.fnOf "_law_pairs_of" "_law_pairs_of" (defArgs s_lawUpairsUof) (defBody s_lawUpairsUof) (defScope s_lawUpairsUof) .none kV_lawUpairsUof dc_lawUpairsUof pm_lawUpairsUof an_lawUpairsUof cd_lawUpairsUof ct_lawUpairsUof), sl_lawUpairsUof⟩)
    (d_lawUpairsUof : PySem.W.codeIn K cd_lawUpairsUof "_law_pairs_of" = true) (k_lawUpairsUof : PySem.W.keepIn K (.ref f_lawUpairsUof) = true)
    {f_lawUkept : Addr} {od_lawUkept an_lawUkept : Option Addr} {sl_lawUkept : Array (Option Value)} {oc_lawUkept kV_lawUkept dc_lawUkept pm_lawUkept cd_lawUkept ct_lawUkept : Value}
    (a_lawUkept : PySem.W.nsIn K mainGlobals "_law_kept" = some (some (.ref f_lawUkept)))
    (l_lawUkept : K.lookup f_lawUkept = some ⟨oc_lawUkept, od_lawUkept, .func (PySem.W.fnOf "_law_kept" "_law_kept" (defArgs s_lawUkept) (defBody s_lawUkept) (defScope s_lawUkept) .none kV_lawUkept dc_lawUkept pm_lawUkept an_lawUkept cd_lawUkept ct_lawUkept), sl_lawUkept⟩)
    (d_lawUkept : PySem.W.codeIn K cd_lawUkept "_law_kept" = true) (k_lawUkept : PySem.W.keepIn K (.ref f_lawUkept) = true)
    {f_lawUedgesUof : Addr} {od_lawUedgesUof an_lawUedgesUof : Option Addr} {sl_lawUedgesUof : Array (Option Value)} {oc_lawUedgesUof kV_lawUedgesUof dc_lawUedgesUof pm_lawUedgesUof cd_lawUedgesUof ct_lawUedgesUof : Value}
    (a_lawUedgesUof : PySem.W.nsIn K mainGlobals "_law_edges_of" = some (some (.ref f_lawUedgesUof)))
    (l_lawUedgesUof : K.lookup f_lawUedgesUof = some ⟨oc_lawUedgesUof, od_lawUedgesUof, .func (PySem.W.fnOf "_law_edges_of" "_law_edges_of" (defArgs s_lawUedgesUof) (defBody s_lawUedgesUof) (defScope s_lawUedgesUof) .none kV_lawUedgesUof dc_lawUedgesUof pm_lawUedgesUof an_lawUedgesUof cd_lawUedgesUof ct_lawUedgesUof), sl_lawUedgesUof⟩)
    (d_lawUedgesUof : PySem.W.codeIn K cd_lawUedgesUof "_law_edges_of" = true) (k_lawUedgesUof : PySem.W.keepIn K (.ref f_lawUedgesUof) = true)
    {f_lawUfamily : Addr} {od_lawUfamily an_lawUfamily : Option Addr} {sl_lawUfamily : Array (Option Value)} {oc_lawUfamily kV_lawUfamily dc_lawUfamily pm_lawUfamily cd_lawUfamily ct_lawUfamily : Value}
    (a_lawUfamily : PySem.W.nsIn K mainGlobals "_law_family" = some (some (.ref f_lawUfamily)))
    (l_lawUfamily : K.lookup f_lawUfamily = some ⟨oc_lawUfamily, od_lawUfamily, .func (PySem.W.fnOf "_law_family" "_law_family" (defArgs s_lawUfamily) (defBody s_lawUfamily) (defScope s_lawUfamily) .none kV_lawUfamily dc_lawUfamily pm_lawUfamily an_lawUfamily cd_lawUfamily ct_lawUfamily), sl_lawUfamily⟩)
    (d_lawUfamily : PySem.W.codeIn K cd_lawUfamily "_law_family" = true) (k_lawUfamily : PySem.W.keepIn K (.ref f_lawUfamily) = true)
    {f_lawUnamed : Addr} {od_lawUnamed an_lawUnamed : Option Addr} {sl_lawUnamed : Array (Option Value)} {oc_lawUnamed kV_lawUnamed dc_lawUnamed pm_lawUnamed cd_lawUnamed ct_lawUnamed : Value}
    (a_lawUnamed : PySem.W.nsIn K mainGlobals "_law_named" = some (some (.ref f_lawUnamed)))
    (l_lawUnamed : K.lookup f_lawUnamed = some ⟨oc_lawUnamed, od_lawUnamed, .func (PySem.W.fnOf "_law_named" "_law_named" (defArgs s_lawUnamed) (defBody s_lawUnamed) (defScope s_lawUnamed) .none kV_lawUnamed dc_lawUnamed pm_lawUnamed an_lawUnamed cd_lawUnamed ct_lawUnamed), sl_lawUnamed⟩)
    (d_lawUnamed : PySem.W.codeIn K cd_lawUnamed "_law_named" = true) (k_lawUnamed : PySem.W.keepIn K (.ref f_lawUnamed) = true)
    {f_lawUgraph : Addr} {od_lawUgraph an_lawUgraph : Option Addr} {sl_lawUgraph : Array (Option Value)} {oc_lawUgraph kV_lawUgraph dc_lawUgraph pm_lawUgraph cd_lawUgraph ct_lawUgraph : Value}
    (a_lawUgraph : PySem.W.nsIn K mainGlobals "_law_graph" = some (some (.ref f_lawUgraph)))
    (l_lawUgraph : K.lookup f_lawUgraph = some ⟨oc_lawUgraph, od_lawUgraph, .func (PySem.W.fnOf "_law_graph" "_law_graph" (defArgs s_lawUgraph) (defBody s_lawUgraph) (defScope s_lawUgraph) .none kV_lawUgraph dc_lawUgraph pm_lawUgraph an_lawUgraph cd_lawUgraph ct_lawUgraph), sl_lawUgraph⟩)
    (d_lawUgraph : PySem.W.codeIn K cd_lawUgraph "_law_graph" = true) (k_lawUgraph : PySem.W.keepIn K (.ref f_lawUgraph) = true)
    {f_lawUfull : Addr} {od_lawUfull an_lawUfull : Option Addr} {sl_lawUfull : Array (Option Value)} {oc_lawUfull kV_lawUfull dc_lawUfull pm_lawUfull cd_lawUfull ct_lawUfull : Value}
    (a_lawUfull : PySem.W.nsIn K mainGlobals "_law_full" = some (some (.ref f_lawUfull)))
    (l_lawUfull : K.lookup f_lawUfull = some ⟨oc_lawUfull, od_lawUfull, .func (PySem.W.fnOf "_law_full" "_law_full" (defArgs s_lawUfull) (defBody s_lawUfull) (defScope s_lawUfull) .none kV_lawUfull dc_lawUfull pm_lawUfull an_lawUfull cd_lawUfull ct_lawUfull), sl_lawUfull⟩)
    (d_lawUfull : PySem.W.codeIn K cd_lawUfull "_law_full" = true) (k_lawUfull : PySem.W.keepIn K (.ref f_lawUfull) = true)
    {f_isUwhole : Addr} {od_isUwhole an_isUwhole : Option Addr} {sl_isUwhole : Array (Option Value)} {oc_isUwhole kV_isUwhole dc_isUwhole pm_isUwhole cd_isUwhole ct_isUwhole : Value}
    (a_isUwhole : PySem.W.nsIn K mainGlobals "is_whole" = some (some (.ref f_isUwhole)))
    (l_isUwhole : K.lookup f_isUwhole = some ⟨oc_isUwhole, od_isUwhole, .func (PySem.W.fnOf "is_whole" "is_whole" (defArgs s_isUwhole) (defBody s_isUwhole) (defScope s_isUwhole) .none kV_isUwhole dc_isUwhole pm_isUwhole an_isUwhole cd_isUwhole ct_isUwhole), sl_isUwhole⟩)
    (d_isUwhole : PySem.W.codeIn K cd_isUwhole "is_whole" = true) (k_isUwhole : PySem.W.keepIn K (.ref f_isUwhole) = true)
    {f_isUbetween : Addr} {od_isUbetween an_isUbetween : Option Addr} {sl_isUbetween : Array (Option Value)} {oc_isUbetween kV_isUbetween dc_isUbetween pm_isUbetween cd_isUbetween ct_isUbetween : Value}
    (a_isUbetween : PySem.W.nsIn K mainGlobals "is_between" = some (some (.ref f_isUbetween)))
    (l_isUbetween : K.lookup f_isUbetween = some ⟨oc_isUbetween, od_isUbetween, .func (PySem.W.fnOf "is_between" "is_between" (defArgs s_isUbetween) (defBody s_isUbetween) (defScope s_isUbetween) .none kV_isUbetween dc_isUbetween pm_isUbetween an_isUbetween cd_isUbetween ct_isUbetween), sl_isUbetween⟩)
    (d_isUbetween : PySem.W.codeIn K cd_isUbetween "is_between" = true) (k_isUbetween : PySem.W.keepIn K (.ref f_isUbetween) = true)
    {f_isUedgeUof : Addr} {od_isUedgeUof an_isUedgeUof : Option Addr} {sl_isUedgeUof : Array (Option Value)} {oc_isUedgeUof kV_isUedgeUof dc_isUedgeUof pm_isUedgeUof cd_isUedgeUof ct_isUedgeUof : Value}
    (a_isUedgeUof : PySem.W.nsIn K mainGlobals "is_edge_of" = some (some (.ref f_isUedgeUof)))
    (l_isUedgeUof : K.lookup f_isUedgeUof = some ⟨oc_isUedgeUof, od_isUedgeUof, .func (PySem.W.fnOf "is_edge_of" "is_edge_of" (defArgs s_isUedgeUof) (defBody s_isUedgeUof) (defScope s_isUedgeUof) .none kV_isUedgeUof dc_isUedgeUof pm_isUedgeUof an_isUedgeUof cd_isUedgeUof ct_isUedgeUof), sl_isUedgeUof⟩)
    (d_isUedgeUof : PySem.W.codeIn K cd_isUedgeUof "is_edge_of" = true) (k_isUedgeUof : PySem.W.keepIn K (.ref f_isUedgeUof) = true)
    {f_isUgraphUby : Addr} {od_isUgraphUby an_isUgraphUby : Option Addr} {sl_isUgraphUby : Array (Option Value)} {oc_isUgraphUby kV_isUgraphUby dc_isUgraphUby pm_isUgraphUby cd_isUgraphUby ct_isUgraphUby : Value}
    (a_isUgraphUby : PySem.W.nsIn K mainGlobals "is_graph_by" = some (some (.ref f_isUgraphUby)))
    (l_isUgraphUby : K.lookup f_isUgraphUby = some ⟨oc_isUgraphUby, od_isUgraphUby, .func (PySem.W.fnOf "is_graph_by" "is_graph_by" (defArgs s_isUgraphUby) (defBody s_isUgraphUby) (defScope s_isUgraphUby) .none kV_isUgraphUby dc_isUgraphUby pm_isUgraphUby an_isUgraphUby cd_isUgraphUby ct_isUgraphUby), sl_isUgraphUby⟩)
    (d_isUgraphUby : PySem.W.codeIn K cd_isUgraphUby "is_graph_by" = true) (k_isUgraphUby : PySem.W.keepIn K (.ref f_isUgraphUby) = true)
    {f_checkUgraph : Addr} {od_checkUgraph an_checkUgraph : Option Addr} {sl_checkUgraph : Array (Option Value)} {oc_checkUgraph kV_checkUgraph dc_checkUgraph pm_checkUgraph cd_checkUgraph ct_checkUgraph : Value}
    (a_checkUgraph : PySem.W.nsIn K mainGlobals "check_graph" = some (some (.ref f_checkUgraph)))
    (l_checkUgraph : K.lookup f_checkUgraph = some ⟨oc_checkUgraph, od_checkUgraph, .func (PySem.W.fnOf "check_graph" "check_graph" (defArgs s_checkUgraph) (defBody s_checkUgraph) (defScope s_checkUgraph) .none kV_checkUgraph dc_checkUgraph pm_checkUgraph an_checkUgraph cd_checkUgraph ct_checkUgraph), sl_checkUgraph⟩)
    (d_checkUgraph : PySem.W.codeIn K cd_checkUgraph "check_graph" = true) (k_checkUgraph : PySem.W.keepIn K (.ref f_checkUgraph) = true)
    {f_shownUedge : Addr} {od_shownUedge an_shownUedge : Option Addr} {sl_shownUedge : Array (Option Value)} {oc_shownUedge kV_shownUedge dc_shownUedge pm_shownUedge cd_shownUedge ct_shownUedge : Value}
    (a_shownUedge : PySem.W.nsIn K mainGlobals "shown_edge" = some (some (.ref f_shownUedge)))
    (l_shownUedge : K.lookup f_shownUedge = some ⟨oc_shownUedge, od_shownUedge, .func (PySem.W.fnOf "shown_edge" "shown_edge" (defArgs s_shownUedge) (defBody s_shownUedge) (defScope s_shownUedge) .none kV_shownUedge dc_shownUedge pm_shownUedge an_shownUedge cd_shownUedge ct_shownUedge), sl_shownUedge⟩)
    (d_shownUedge : PySem.W.codeIn K cd_shownUedge "shown_edge" = true) (k_shownUedge : PySem.W.keepIn K (.ref f_shownUedge) = true)
    {f_shownUby : Addr} {od_shownUby an_shownUby : Option Addr} {sl_shownUby : Array (Option Value)} {oc_shownUby kV_shownUby dc_shownUby pm_shownUby cd_shownUby ct_shownUby : Value}
    (a_shownUby : PySem.W.nsIn K mainGlobals "shown_by" = some (some (.ref f_shownUby)))
    (l_shownUby : K.lookup f_shownUby = some ⟨oc_shownUby, od_shownUby, .func (PySem.W.fnOf "shown_by" "shown_by" (defArgs s_shownUby) (defBody s_shownUby) (defScope s_shownUby) .none kV_shownUby dc_shownUby pm_shownUby an_shownUby cd_shownUby ct_shownUby), sl_shownUby⟩)
    (d_shownUby : PySem.W.codeIn K cd_shownUby "shown_by" = true) (k_shownUby : PySem.W.keepIn K (.ref f_shownUby) = true)
    {f_showUgraph : Addr} {od_showUgraph an_showUgraph : Option Addr} {sl_showUgraph : Array (Option Value)} {oc_showUgraph kV_showUgraph dc_showUgraph pm_showUgraph cd_showUgraph ct_showUgraph : Value}
    (a_showUgraph : PySem.W.nsIn K mainGlobals "show_graph" = some (some (.ref f_showUgraph)))
    (l_showUgraph : K.lookup f_showUgraph = some ⟨oc_showUgraph, od_showUgraph, .func (PySem.W.fnOf "show_graph" "show_graph" (defArgs s_showUgraph) (defBody s_showUgraph) (defScope s_showUgraph) .none kV_showUgraph dc_showUgraph pm_showUgraph an_showUgraph cd_showUgraph ct_showUgraph), sl_showUgraph⟩)
    (d_showUgraph : PySem.W.codeIn K cd_showUgraph "show_graph" = true) (k_showUgraph : PySem.W.keepIn K (.ref f_showUgraph) = true)
    {f_wordsUof : Addr} {od_wordsUof an_wordsUof : Option Addr} {sl_wordsUof : Array (Option Value)} {oc_wordsUof kV_wordsUof dc_wordsUof pm_wordsUof cd_wordsUof ct_wordsUof : Value}
    (a_wordsUof : PySem.W.nsIn K mainGlobals "words_of" = some (some (.ref f_wordsUof)))
    (l_wordsUof : K.lookup f_wordsUof = some ⟨oc_wordsUof, od_wordsUof, .func (PySem.W.fnOf "words_of" "words_of" (defArgs s_wordsUof) (defBody s_wordsUof) (defScope s_wordsUof) .none kV_wordsUof dc_wordsUof pm_wordsUof an_wordsUof cd_wordsUof ct_wordsUof), sl_wordsUof⟩)
    (d_wordsUof : PySem.W.codeIn K cd_wordsUof "words_of" = true) (k_wordsUof : PySem.W.keepIn K (.ref f_wordsUof) = true)
    {f_numberUin : Addr} {od_numberUin an_numberUin : Option Addr} {sl_numberUin : Array (Option Value)} {oc_numberUin kV_numberUin dc_numberUin pm_numberUin cd_numberUin ct_numberUin : Value}
    (a_numberUin : PySem.W.nsIn K mainGlobals "number_in" = some (some (.ref f_numberUin)))
    (l_numberUin : K.lookup f_numberUin = some ⟨oc_numberUin, od_numberUin, .func (PySem.W.fnOf "number_in" "number_in" (defArgs s_numberUin) (defBody s_numberUin) (defScope s_numberUin) .none kV_numberUin dc_numberUin pm_numberUin an_numberUin cd_numberUin ct_numberUin), sl_numberUin⟩)
    (d_numberUin : PySem.W.codeIn K cd_numberUin "number_in" = true) (k_numberUin : PySem.W.keepIn K (.ref f_numberUin) = true)
    {f_verticesUin : Addr} {od_verticesUin an_verticesUin : Option Addr} {sl_verticesUin : Array (Option Value)} {oc_verticesUin kV_verticesUin dc_verticesUin pm_verticesUin cd_verticesUin ct_verticesUin : Value}
    (a_verticesUin : PySem.W.nsIn K mainGlobals "vertices_in" = some (some (.ref f_verticesUin)))
    (l_verticesUin : K.lookup f_verticesUin = some ⟨oc_verticesUin, od_verticesUin, .func (PySem.W.fnOf "vertices_in" "vertices_in" (defArgs s_verticesUin) (defBody s_verticesUin) (defScope s_verticesUin) .none kV_verticesUin dc_verticesUin pm_verticesUin an_verticesUin cd_verticesUin ct_verticesUin), sl_verticesUin⟩)
    (d_verticesUin : PySem.W.codeIn K cd_verticesUin "vertices_in" = true) (k_verticesUin : PySem.W.keepIn K (.ref f_verticesUin) = true)
    {f_endsUin : Addr} {od_endsUin an_endsUin : Option Addr} {sl_endsUin : Array (Option Value)} {oc_endsUin kV_endsUin dc_endsUin pm_endsUin cd_endsUin ct_endsUin : Value}
    (a_endsUin : PySem.W.nsIn K mainGlobals "ends_in" = some (some (.ref f_endsUin)))
    (l_endsUin : K.lookup f_endsUin = some ⟨oc_endsUin, od_endsUin, .func (PySem.W.fnOf "ends_in" "ends_in" (defArgs s_endsUin) (defBody s_endsUin) (defScope s_endsUin) .none kV_endsUin dc_endsUin pm_endsUin an_endsUin cd_endsUin ct_endsUin), sl_endsUin⟩)
    (d_endsUin : PySem.W.codeIn K cd_endsUin "ends_in" = true) (k_endsUin : PySem.W.keepIn K (.ref f_endsUin) = true)
    {f_edgeUbetween : Addr} {od_edgeUbetween an_edgeUbetween : Option Addr} {sl_edgeUbetween : Array (Option Value)} {oc_edgeUbetween kV_edgeUbetween dc_edgeUbetween pm_edgeUbetween cd_edgeUbetween ct_edgeUbetween : Value}
    (a_edgeUbetween : PySem.W.nsIn K mainGlobals "edge_between" = some (some (.ref f_edgeUbetween)))
    (l_edgeUbetween : K.lookup f_edgeUbetween = some ⟨oc_edgeUbetween, od_edgeUbetween, .func (PySem.W.fnOf "edge_between" "edge_between" (defArgs s_edgeUbetween) (defBody s_edgeUbetween) (defScope s_edgeUbetween) .none kV_edgeUbetween dc_edgeUbetween pm_edgeUbetween an_edgeUbetween cd_edgeUbetween ct_edgeUbetween), sl_edgeUbetween⟩)
    (d_edgeUbetween : PySem.W.codeIn K cd_edgeUbetween "edge_between" = true) (k_edgeUbetween : PySem.W.keepIn K (.ref f_edgeUbetween) = true)
    {f_readUby : Addr} {od_readUby an_readUby : Option Addr} {sl_readUby : Array (Option Value)} {oc_readUby kV_readUby dc_readUby pm_readUby cd_readUby ct_readUby : Value}
    (a_readUby : PySem.W.nsIn K mainGlobals "read_by" = some (some (.ref f_readUby)))
    (l_readUby : K.lookup f_readUby = some ⟨oc_readUby, od_readUby, .func (PySem.W.fnOf "read_by" "read_by" (defArgs s_readUby) (defBody s_readUby) (defScope s_readUby) .none kV_readUby dc_readUby pm_readUby an_readUby cd_readUby ct_readUby), sl_readUby⟩)
    (d_readUby : PySem.W.codeIn K cd_readUby "read_by" = true) (k_readUby : PySem.W.keepIn K (.ref f_readUby) = true)
    {f_readUgraph : Addr} {od_readUgraph an_readUgraph : Option Addr} {sl_readUgraph : Array (Option Value)} {oc_readUgraph kV_readUgraph dc_readUgraph pm_readUgraph cd_readUgraph ct_readUgraph : Value}
    (a_readUgraph : PySem.W.nsIn K mainGlobals "read_graph" = some (some (.ref f_readUgraph)))
    (l_readUgraph : K.lookup f_readUgraph = some ⟨oc_readUgraph, od_readUgraph, .func (PySem.W.fnOf "read_graph" "read_graph" (defArgs s_readUgraph) (defBody s_readUgraph) (defScope s_readUgraph) .none kV_readUgraph dc_readUgraph pm_readUgraph an_readUgraph cd_readUgraph ct_readUgraph), sl_readUgraph⟩)
    (d_readUgraph : PySem.W.codeIn K cd_readUgraph "read_graph" = true) (k_readUgraph : PySem.W.keepIn K (.ref f_readUgraph) = true)
    {f_lawUright : Addr} {od_lawUright an_lawUright : Option Addr} {sl_lawUright : Array (Option Value)} {oc_lawUright kV_lawUright dc_lawUright pm_lawUright cd_lawUright ct_lawUright : Value}
    (a_lawUright : PySem.W.nsIn K mainGlobals "_law_right" = some (some (.ref f_lawUright)))
    (l_lawUright : K.lookup f_lawUright = some ⟨oc_lawUright, od_lawUright, .func (PySem.W.fnOf "_law_right" "_law_right" (defArgs s_lawUright) (defBody s_lawUright) (defScope s_lawUright) .none kV_lawUright dc_lawUright pm_lawUright an_lawUright cd_lawUright ct_lawUright), sl_lawUright⟩)
    (d_lawUright : PySem.W.codeIn K cd_lawUright "_law_right" = true) (k_lawUright : PySem.W.keepIn K (.ref f_lawUright) = true)
    {f_lawUwell : Addr} {od_lawUwell an_lawUwell : Option Addr} {sl_lawUwell : Array (Option Value)} {oc_lawUwell kV_lawUwell dc_lawUwell pm_lawUwell cd_lawUwell ct_lawUwell : Value}
    (a_lawUwell : PySem.W.nsIn K mainGlobals "_law_well" = some (some (.ref f_lawUwell)))
    (l_lawUwell : K.lookup f_lawUwell = some ⟨oc_lawUwell, od_lawUwell, .func (PySem.W.fnOf "_law_well" "_law_well" (defArgs s_lawUwell) (defBody s_lawUwell) (defScope s_lawUwell) .none kV_lawUwell dc_lawUwell pm_lawUwell an_lawUwell cd_lawUwell ct_lawUwell), sl_lawUwell⟩)
    (d_lawUwell : PySem.W.codeIn K cd_lawUwell "_law_well" = true) (k_lawUwell : PySem.W.keepIn K (.ref f_lawUwell) = true)
    {f_law : Addr} {od_law an_law : Option Addr} {sl_law : Array (Option Value)} {oc_law kV_law dc_law pm_law cd_law ct_law : Value}
    (a_law : PySem.W.nsIn K mainGlobals "law" = some (some (.ref f_law)))
    (l_law : K.lookup f_law = some ⟨oc_law, od_law, .func (PySem.W.fnOf "law" "law" (defArgs s_law) (defBody s_law) (defScope s_law) .none kV_law dc_law pm_law an_law cd_law ct_law), sl_law⟩)
    (d_law : PySem.W.codeIn K cd_law "law" = true) (k_law : PySem.W.keepIn K (.ref f_law) = true)
    (z_abs : PySem.W.nsIn K mainGlobals "abs" = some none)
    (z_all : PySem.W.nsIn K mainGlobals "all" = some none)
    (z_bool : PySem.W.nsIn K mainGlobals "bool" = some none)
    (z_enumerate : PySem.W.nsIn K mainGlobals "enumerate" = some none)
    (z_int : PySem.W.nsIn K mainGlobals "int" = some none)
    (z_isinstance : PySem.W.nsIn K mainGlobals "isinstance" = some none)
    (z_len : PySem.W.nsIn K mainGlobals "len" = some none)
    (z_list : PySem.W.nsIn K mainGlobals "list" = some none)
    (z_max : PySem.W.nsIn K mainGlobals "max" = some none)
    (z_min : PySem.W.nsIn K mainGlobals "min" = some none)
    (z_range : PySem.W.nsIn K mainGlobals "range" = some none)
    (z_repr : PySem.W.nsIn K mainGlobals "repr" = some none)
    (z_sorted : PySem.W.nsIn K mainGlobals "sorted" = some none)
    (z_str : PySem.W.nsIn K mainGlobals "str" = some none)
    (z_tuple : PySem.W.nsIn K mainGlobals "tuple" = some none)
    (z_zip : PySem.W.nsIn K mainGlobals "zip" = some none)
    {t_FIGURES : Tok} (c_FIGURES : PySem.W.nsIn K mainGlobals "FIGURES" = some (some (.str ("0123456789" : Str) t_FIGURES)))
    {t_MOST_EDGES : Tok} (c_MOST_EDGES : PySem.W.nsIn K mainGlobals "MOST_EDGES" = some (some (.int 24 t_MOST_EDGES)))
    {t_MOST_FIGURES : Tok} (c_MOST_FIGURES : PySem.W.nsIn K mainGlobals "MOST_FIGURES" = some (some (.int 2 t_MOST_FIGURES)))
    {t_MOST_VERTICES : Tok} (c_MOST_VERTICES : PySem.W.nsIn K mainGlobals "MOST_VERTICES" = some (some (.int 10 t_MOST_VERTICES))) :
    ∀ base : Heap, Has l.prog w K mg base 8 "law" ["script"] Z [.fz] 9 F_law := by
  intro base
  have z_abs := PySem.W.mg_none_of X G z_abs
  have z_all := PySem.W.mg_none_of X G z_all
  have z_bool := PySem.W.mg_none_of X G z_bool
  have z_enumerate := PySem.W.mg_none_of X G z_enumerate
  have z_int := PySem.W.mg_none_of X G z_int
  have z_isinstance := PySem.W.mg_none_of X G z_isinstance
  have z_len := PySem.W.mg_none_of X G z_len
  have z_list := PySem.W.mg_none_of X G z_list
  have z_max := PySem.W.mg_none_of X G z_max
  have z_min := PySem.W.mg_none_of X G z_min
  have z_range := PySem.W.mg_none_of X G z_range
  have z_repr := PySem.W.mg_none_of X G z_repr
  have z_sorted := PySem.W.mg_none_of X G z_sorted
  have z_str := PySem.W.mg_none_of X G z_str
  have z_tuple := PySem.W.mg_none_of X G z_tuple
  have z_zip := PySem.W.mg_none_of X G z_zip
  have c_FIGURES := PySem.W.mg_of X G c_FIGURES
  have c_MOST_EDGES := PySem.W.mg_of X G c_MOST_EDGES
  have c_MOST_FIGURES := PySem.W.mg_of X G c_MOST_FIGURES
  have c_MOST_VERTICES := PySem.W.mg_of X G c_MOST_VERTICES
  have G__law_text := h_lawUtext (P := l.prog) (w := w) (base := base) (Z := Z) (fun_mk (st := s_lawUtext) l_lawUtext d_lawUtext k_lawUtext) (PySem.W.mg_of X G a_lawUtext) z_str
  have G__law_draw := h_lawUdraw (P := l.prog) (w := w) (base := base) (Z := Z) (fun_mk (st := s_lawUdraw) l_lawUdraw d_lawUdraw k_lawUdraw) (PySem.W.mg_of X G a_lawUdraw) z_int
  have G__law_pick := h_lawUpick (P := l.prog) (w := w) (base := base) (Z := Z) (fun_mk (st := s_lawUpick) l_lawUpick d_lawUpick k_lawUpick) (PySem.W.mg_of X G a_lawUpick) z_len G__law_draw
  have G__law_order := h_lawUorder (P := l.prog) (w := w) (base := base) (Z := Z) (fun_mk (st := s_lawUorder) l_lawUorder d_lawUorder k_lawUorder) (PySem.W.mg_of X G a_lawUorder) z_list z_range G__law_pick
  have G__law_blanks := h_lawUblanks (P := l.prog) (w := w) (base := base) (Z := Z) (fun_mk (st := s_lawUblanks) l_lawUblanks d_lawUblanks k_lawUblanks) (PySem.W.mg_of X G a_lawUblanks) G__law_pick
  have G__law_other_text := h_lawUotherUtext (P := l.prog) (w := w) (base := base) (Z := Z) (fun_mk (st := s_lawUotherUtext) l_lawUotherUtext d_lawUotherUtext k_lawUotherUtext) (PySem.W.mg_of X G a_lawUotherUtext) z_len z_str G__law_blanks G__law_order G__law_draw
  have G__law_pairs_of := h_lawUpairsUof (P := l.prog) (w := w) (base := base) (Z := Z) (fun_mk (st := s_lawUpairsUof) l_lawUpairsUof d_lawUpairsUof k_lawUpairsUof) (PySem.W.mg_of X G a_lawUpairsUof) z_range
  have G__law_kept := h_lawUkept (P := l.prog) (w := w) (base := base) (Z := Z) (fun_mk (st := s_lawUkept) l_lawUkept d_lawUkept k_lawUkept) (PySem.W.mg_of X G a_lawUkept) z_sorted z_tuple
  have G__law_edges_of := h_lawUedgesUof (P := l.prog) (w := w) (base := base) (Z := Z) (fun_mk (st := s_lawUedgesUof) l_lawUedgesUof d_lawUedgesUof k_lawUedgesUof) (PySem.W.mg_of X G a_lawUedgesUof) z_int G__law_kept
  have G__law_family := h_lawUfamily (P := l.prog) (w := w) (base := base) (Z := Z) (fun_mk (st := s_lawUfamily) l_lawUfamily d_lawUfamily k_lawUfamily) (PySem.W.mg_of X G a_lawUfamily) G__law_edges_of
  have G__law_named := h_lawUnamed (P := l.prog) (w := w) (base := base) (Z := Z) (fun_mk (st := s_lawUnamed) l_lawUnamed d_lawUnamed k_lawUnamed) (PySem.W.mg_of X G a_lawUnamed) G__law_kept
  have G__law_graph := h_lawUgraph (P := l.prog) (w := w) (base := base) (Z := Z) (fun_mk (st := s_lawUgraph) l_lawUgraph d_lawUgraph k_lawUgraph) (PySem.W.mg_of X G a_lawUgraph) z_len z_list z_range G__law_draw G__law_pairs_of G__law_pick G__law_family G__law_named G__law_order G__law_kept
  have G__law_full := h_lawUfull (P := l.prog) (w := w) (base := base) (Z := Z) (fun_mk (st := s_lawUfull) l_lawUfull d_lawUfull k_lawUfull) (PySem.W.mg_of X G a_lawUfull) G__law_order G__law_pairs_of G__law_kept
  have G_is_whole := h_isUwhole (P := l.prog) (w := w) (base := base) (Z := Z) (fun_mk (st := s_isUwhole) l_isUwhole d_isUwhole k_isUwhole) (PySem.W.mg_of X G a_isUwhole) z_bool z_int z_isinstance
  have G_is_between := h_isUbetween (P := l.prog) (w := w) (base := base) (Z := Z) (fun_mk (st := s_isUbetween) l_isUbetween d_isUbetween k_isUbetween) (PySem.W.mg_of X G a_isUbetween) G_is_whole
  have G_is_edge_of := h_isUedgeUof (P := l.prog) (w := w) (base := base) (Z := Z) (fun_mk (st := s_isUedgeUof) l_isUedgeUof d_isUedgeUof k_isUedgeUof) (PySem.W.mg_of X G a_isUedgeUof) z_all z_isinstance z_len z_tuple G_is_between
  have G_is_graph_by := h_isUgraphUby (P := l.prog) (w := w) (base := base) (Z := Z) (fun_mk (st := s_isUgraphUby) l_isUgraphUby d_isUgraphUby k_isUgraphUby) (PySem.W.mg_of X G a_isUgraphUby) z_all z_isinstance z_len z_tuple z_zip c_MOST_EDGES c_MOST_VERTICES G_is_between G_is_edge_of
  have G_check_graph := h_checkUgraph (P := l.prog) (w := w) (base := base) (Z := Z) (fun_mk (st := s_checkUgraph) l_checkUgraph d_checkUgraph k_checkUgraph) (PySem.W.mg_of X G a_checkUgraph) G_is_graph_by
  have G_shown_edge := h_shownUedge (P := l.prog) (w := w) (base := base) (Z := Z) (fun_mk (st := s_shownUedge) l_shownUedge d_shownUedge k_shownUedge) (PySem.W.mg_of X G a_shownUedge) z_str
  have G_shown_by := h_shownUby (P := l.prog) (w := w) (base := base) (Z := Z) (fun_mk (st := s_shownUby) l_shownUby d_shownUby k_shownUby) (PySem.W.mg_of X G a_shownUby) z_str G_shown_edge
  have G_show_graph := h_showUgraph (P := l.prog) (w := w) (base := base) (Z := Z) (fun_mk (st := s_showUgraph) l_showUgraph d_showUgraph k_showUgraph) (PySem.W.mg_of X G a_showUgraph) G_check_graph G_shown_by
  have G_words_of := h_wordsUof (P := l.prog) (w := w) (base := base) (Z := Z) (fun_mk (st := s_wordsUof) l_wordsUof d_wordsUof k_wordsUof) (PySem.W.mg_of X G a_wordsUof) 
  have G_number_in := h_numberUin (P := l.prog) (w := w) (base := base) (Z := Z) (fun_mk (st := s_numberUin) l_numberUin d_numberUin k_numberUin) (PySem.W.mg_of X G a_numberUin) z_all z_int z_len c_FIGURES c_MOST_FIGURES
  have G_vertices_in := h_verticesUin (P := l.prog) (w := w) (base := base) (Z := Z) (fun_mk (st := s_verticesUin) l_verticesUin d_verticesUin k_verticesUin) (PySem.W.mg_of X G a_verticesUin) c_MOST_VERTICES G_number_in
  have G_ends_in := h_endsUin (P := l.prog) (w := w) (base := base) (Z := Z) (fun_mk (st := s_endsUin) l_endsUin d_endsUin k_endsUin) (PySem.W.mg_of X G a_endsUin) z_len z_max G_number_in
  have G_edge_between := h_edgeUbetween (P := l.prog) (w := w) (base := base) (Z := Z) (fun_mk (st := s_edgeUbetween) l_edgeUbetween d_edgeUbetween k_edgeUbetween) (PySem.W.mg_of X G a_edgeUbetween) 
  have G_read_by := h_readUby (P := l.prog) (w := w) (base := base) (Z := Z) (fun_mk (st := s_readUby) l_readUby d_readUby k_readUby) (PySem.W.mg_of X G a_readUby) z_enumerate z_len z_sorted z_tuple c_MOST_EDGES G_words_of G_vertices_in G_ends_in G_edge_between
  have G_read_graph := h_readUgraph (P := l.prog) (w := w) (base := base) (Z := Z) (fun_mk (st := s_readUgraph) l_readUgraph d_readUgraph k_readUgraph) (PySem.W.mg_of X G a_readUgraph) z_int z_isinstance z_str G_read_by
  have G__law_right := h_lawUright (P := l.prog) (w := w) (base := base) (Z := Z) (fun_mk (st := s_lawUright) l_lawUright d_lawUright k_lawUright) (PySem.W.mg_of X G a_lawUright) z_range z_repr G__law_draw G__law_full G__law_graph G__law_text G_show_graph G__law_other_text G_read_graph
  have G__law_well := h_lawUwell (P := l.prog) (w := w) (base := base) (Z := Z) (fun_mk (st := s_lawUwell) l_lawUwell d_lawUwell k_lawUwell) (PySem.W.mg_of X G a_lawUwell) z_abs z_int z_len
  have G_law := h_law (P := l.prog) (w := w) (base := base) (Z := Z) (fun_mk (st := s_law) l_law d_law k_law) (PySem.W.mg_of X G a_law) z_len z_max z_min z_range G__law_right G__law_well
  exact G_law
theorem walk {l : PySem.W.OpenLaw} {q : Program} {loose : List Str} {XP : (Str → Option Value) → Heap → Prop} {YP : World → Heap → Prop} {d : DefRec} {K : Params → PySem.W.Frag} (hn : l.most = some 63) (hdf : d.params.defaults = []) (hd : d.name = "law")
    (hY : ∀ (w : World) (h : Heap), YP w h → (K w.params).In h) (F : ∀ (w : World) (mg : Str → Option Value) (h : Heap), (K w.params).In h → h.Ns mainGlobals mg → ∀ base : Heap, Has l.prog w (K w.params) mg base 8 "law" ["script"] (fun _ => none) [.fz] 9 F_law) :
    PySem.W.WalkO q loose XP YP l.row.toRowW d [] (fun f vs => PySem.call f vs) :=
  walk_D (n := 63) (k := 8) (x := "script") (F := F_law) (Z := fun _ _ => none) hn (by decide) hdf ⟨rfl, by decide, by decide⟩ hY (fun w mg h a b base _ _ => hd ▸ F w mg h a b base) law_true
end Lk
open PySem PySem.W PyProof.Rows
set_option maxRecDepth 100000 in
set_option maxHeartbeats 0 in
theorem PySem.Challenge.cw_linkless_k06_texts_there_and_back_holds : PySem.Challenge.rw_linkless_k06_texts_there_and_back.Holds := by
  w_on; o_law; k_head; (case hw => w_witness2)
  k_fill
  refine Lk.walk (l := PySem.Challenge.rw_linkless_k06_texts_there_and_back) rfl rfl rfl (fun w h Y => PySem.W.kIn_of Y) ?F
  case F =>
    intro w mg h KX G
    refine' Lk.all_mk KX G ?a_lawUtext ?l_lawUtext ?d_lawUtext ?k_lawUtext ?a_lawUdraw ?l_lawUdraw ?d_lawUdraw ?k_lawUdraw ?a_lawUpick ?l_lawUpick ?d_lawUpick ?k_lawUpick ?a_lawUorder ?l_lawUorder ?d_lawUorder ?k_lawUorder ?a_lawUblanks ?l_lawUblanks ?d_lawUblanks ?k_lawUblanks ?a_lawUotherUtext ?l_lawUotherUtext ?d_lawUotherUtext ?k_lawUotherUtext ?a_lawUpairsUof ?l_lawUpairsUof ?d_lawUpairsUof ?k_lawUpairsUof ?a_lawUkept ?l_lawUkept ?d_lawUkept ?k_lawUkept ?a_lawUedgesUof ?l_lawUedgesUof ?d_lawUedgesUof ?k_lawUedgesUof ?a_lawUfamily ?l_lawUfamily ?d_lawUfamily ?k_lawUfamily ?a_lawUnamed ?l_lawUnamed ?d_lawUnamed ?k_lawUnamed ?a_lawUgraph ?l_lawUgraph ?d_lawUgraph ?k_lawUgraph ?a_lawUfull ?l_lawUfull ?d_lawUfull ?k_lawUfull ?a_isUwhole ?l_isUwhole ?d_isUwhole ?k_isUwhole ?a_isUbetween ?l_isUbetween ?d_isUbetween ?k_isUbetween ?a_isUedgeUof ?l_isUedgeUof ?d_isUedgeUof ?k_isUedgeUof ?a_isUgraphUby ?l_isUgraphUby ?d_isUgraphUby ?k_isUgraphUby ?a_checkUgraph ?l_checkUgraph ?d_checkUgraph ?k_checkUgraph ?a_shownUedge ?l_shownUedge ?d_shownUedge ?k_shownUedge ?a_shownUby ?l_shownUby ?d_shownUby ?k_shownUby ?a_showUgraph ?l_showUgraph ?d_showUgraph ?k_showUgraph ?a_wordsUof ?l_wordsUof ?d_wordsUof ?k_wordsUof ?a_numberUin ?l_numberUin ?d_numberUin ?k_numberUin ?a_verticesUin ?l_verticesUin ?d_verticesUin ?k_verticesUin ?a_endsUin ?l_endsUin ?d_endsUin ?k_endsUin ?a_edgeUbetween ?l_edgeUbetween ?d_edgeUbetween ?k_edgeUbetween ?a_readUby ?l_readUby ?d_readUby ?k_readUby ?a_readUgraph ?l_readUgraph ?d_readUgraph ?k_readUgraph ?a_lawUright ?l_lawUright ?d_lawUright ?k_lawUright ?a_lawUwell ?l_lawUwell ?d_lawUwell ?k_lawUwell ?a_law ?l_law ?d_law ?k_law ?z_abs ?z_all ?z_bool ?z_enumerate ?z_int ?z_isinstance ?z_len ?z_list ?z_max ?z_min ?z_range ?z_repr ?z_sorted ?z_str ?z_tuple ?z_zip ?c_FIGURES ?c_MOST_EDGES ?c_MOST_FIGURES ?c_MOST_VERTICES
    (case a_lawUtext => k_is); (case l_lawUtext => k_is); (case d_lawUtext => k_is); (case k_lawUtext => k_is)
    (case a_lawUdraw => k_is); (case l_lawUdraw => k_is); (case d_lawUdraw => k_is); (case k_lawUdraw => k_is)
    (case a_lawUpick => k_is); (case l_lawUpick => k_is); (case d_lawUpick => k_is); (case k_lawUpick => k_is)
    (case a_lawUorder => k_is); (case l_lawUorder => k_is); (case d_lawUorder => k_is); (case k_lawUorder => k_is)
    (case a_lawUblanks => k_is); (case l_lawUblanks => k_is); (case d_lawUblanks => k_is); (case k_lawUblanks => k_is)
    (case a_lawUotherUtext => k_is); (case l_lawUotherUtext => k_is); (case d_lawUotherUtext => k_is); (case k_lawUotherUtext => k_is)
    (case a_lawUpairsUof => k_is); (case l_lawUpairsUof => k_is); (case d_lawUpairsUof => k_is); (case k_lawUpairsUof => k_is)
    (case a_lawUkept => k_is); (case l_lawUkept => k_is); (case d_lawUkept => k_is); (case k_lawUkept => k_is)
    (case a_lawUedgesUof => k_is); (case l_lawUedgesUof => k_is); (case d_lawUedgesUof => k_is); (case k_lawUedgesUof => k_is)
    (case a_lawUfamily => k_is); (case l_lawUfamily => k_is); (case d_lawUfamily => k_is); (case k_lawUfamily => k_is)
    (case a_lawUnamed => k_is); (case l_lawUnamed => k_is); (case d_lawUnamed => k_is); (case k_lawUnamed => k_is)
    (case a_lawUgraph => k_is); (case l_lawUgraph => k_is); (case d_lawUgraph => k_is); (case k_lawUgraph => k_is)
    (case a_lawUfull => k_is); (case l_lawUfull => k_is); (case d_lawUfull => k_is); (case k_lawUfull => k_is)
    (case a_isUwhole => k_is); (case l_isUwhole => k_is); (case d_isUwhole => k_is); (case k_isUwhole => k_is)
    (case a_isUbetween => k_is); (case l_isUbetween => k_is); (case d_isUbetween => k_is); (case k_isUbetween => k_is)
    (case a_isUedgeUof => k_is); (case l_isUedgeUof => k_is); (case d_isUedgeUof => k_is); (case k_isUedgeUof => k_is)
    (case a_isUgraphUby => k_is); (case l_isUgraphUby => k_is); (case d_isUgraphUby => k_is); (case k_isUgraphUby => k_is)
    (case a_checkUgraph => k_is); (case l_checkUgraph => k_is); (case d_checkUgraph => k_is); (case k_checkUgraph => k_is)
    (case a_shownUedge => k_is); (case l_shownUedge => k_is); (case d_shownUedge => k_is); (case k_shownUedge => k_is)
    (case a_shownUby => k_is); (case l_shownUby => k_is); (case d_shownUby => k_is); (case k_shownUby => k_is)
    (case a_showUgraph => k_is); (case l_showUgraph => k_is); (case d_showUgraph => k_is); (case k_showUgraph => k_is)
    (case a_wordsUof => k_is); (case l_wordsUof => k_is); (case d_wordsUof => k_is); (case k_wordsUof => k_is)
    (case a_numberUin => k_is); (case l_numberUin => k_is); (case d_numberUin => k_is); (case k_numberUin => k_is)
    (case a_verticesUin => k_is); (case l_verticesUin => k_is); (case d_verticesUin => k_is); (case k_verticesUin => k_is)
    (case a_endsUin => k_is); (case l_endsUin => k_is); (case d_endsUin => k_is); (case k_endsUin => k_is)
    (case a_edgeUbetween => k_is); (case l_edgeUbetween => k_is); (case d_edgeUbetween => k_is); (case k_edgeUbetween => k_is)
    (case a_readUby => k_is); (case l_readUby => k_is); (case d_readUby => k_is); (case k_readUby => k_is)
    (case a_readUgraph => k_is); (case l_readUgraph => k_is); (case d_readUgraph => k_is); (case k_readUgraph => k_is)
    (case a_lawUright => k_is); (case l_lawUright => k_is); (case d_lawUright => k_is); (case k_lawUright => k_is)
    (case a_lawUwell => k_is); (case l_lawUwell => k_is); (case d_lawUwell => k_is); (case k_lawUwell => k_is)
    (case a_law => k_is); (case l_law => k_is); (case d_law => k_is); (case k_law => k_is)
    (case z_abs => k_is); (case z_all => k_is); (case z_bool => k_is); (case z_enumerate => k_is)
    (case z_int => k_is); (case z_isinstance => k_is); (case z_len => k_is); (case z_list => k_is)
    (case z_max => k_is); (case z_min => k_is); (case z_range => k_is); (case z_repr => k_is)
    (case z_sorted => k_is); (case z_str => k_is); (case z_tuple => k_is); (case z_zip => k_is)
    (case c_FIGURES => k_is); (case c_MOST_EDGES => k_is); (case c_MOST_FIGURES => k_is); (case c_MOST_VERTICES => k_is)
