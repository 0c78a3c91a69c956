import PyProof.Rows.All
import Wide.All
import OpenK.AllK
import Wide.FinOn
import HandS.ForMost
import HandS.Lambda
import HandS.ExcInit
import HandS.ForExc
import HandS.TupLen
import HandS.TupAny
import HandS.TupLe
import HandS.Deep
import HandS.More
import HandS.Conv
import HandS.IsInst
import HandS.NoneIn
import HandS.Zip
import HandS.Comp
import HandS.Text
import HandS.Style
import HandS.SortInts
import HandS.SortOrd
import HandS.SortRule
import KE.SortData
import HandS.Star
import HandS.TupSets
import KE.KExcSuper
import KE.KSuper
import HandS.ExcField
import HandS.ExcIs
import KE.KExcIs
import KE.KTryMore
import OpenK.KWalk
import PyProof.ReprLen
import PyProof.StrLawsRepr
import PyProof.EqAt
import PyProof.NeData
import KE.GoesEnum
import HandS.Iter
import KE.DataCmp
import HandS.ExcValue
import PySem.Challenge.RW_linkless_k01_errors_each_of_its_own
set_option Elab.async false
set_option linter.all false
set_option maxRecDepth 100000
set_option maxHeartbeats 0
namespace Lk
open PySem PySem.Spec L2

/-- a value of the layer: data, an instance (class number, fields), an exception value, a closure -/
inductive DV where
  | d (x : PyData)
  | o (c : Nat) (fs : List (Str × PyData))
  | x (c : Nat) (g : PyData)
  | f (i c : Nat) (fs : List (Str × PyData))
  | s (ns : List Int)
  | z (qs : List (PyData × PyData))
  | g (i : Nat)
  | k (o : Obj) (u : HO)
  | e (c : Nat) (g : Option PyData)

/-- addresses met, with the depth of mutable things above them -/
abbrev Ft := List (Addr × Nat)
def up (G : Ft) : Ft := G.map fun p => (p.1, p.2 + 1)
def tag (n : Nat) (G : Ft) : List (Addr × Bool) := G.map fun p => (p.1, decide (p.2 < n))
theorem up_append (G G' : Ft) : up (G ++ G') = up G ++ up G' := List.map_append
theorem tag_append (n : Nat) (G G' : Ft) : tag n (G ++ G') = tag n G ++ tag n G' := List.map_append
theorem tag_nil (n : Nat) : tag n [] = [] := rfl
theorem tag_cons (n : Nat) (p : Addr × Nat) (G : Ft) : tag n (p :: G) = (p.1, decide (p.2 < n)) :: tag n G := rfl
theorem tag_up (n : Nat) (G : Ft) : tag n (up G) = tag (n - 1) G := by
  unfold tag up
  rw [List.map_map]
  apply List.map_congr_left
  intro p _
  show (p.1, decide (p.2 + 1 < n)) = (p.1, decide (p.2 < n - 1))
  congr 1
  exact decide_eq_decide.mpr (by omega)
theorem tag_zero_mem {G : Ft} {p : Addr × Bool} (h : p ∈ tag 0 G) : p.2 = false := by
  unfold tag at h
  obtain ⟨q, _, rfl⟩ := List.mem_map.mp h
  exact decide_eq_false (Nat.not_lt_zero q.2)
theorem tag_fst (n : Nat) (G : Ft) : (tag n G).map (·.1) = G.map (·.1) := by
  unfold tag
  rw [List.map_map]
  rfl
theorem up_fst (G : Ft) : (up G).map (·.1) = G.map (·.1) := by
  unfold up
  rw [List.map_map]
  rfl
def keyD : Key → PyData
  | .inl i => .int i
  | .inr x => .str x
/-- a dict at a: its keys, its values, in order; fz: it is locked -/
def DicAt (H : Hp) (a : Addr) (ks : List PyData) (vs : List V) : Prop :=
  (∃ kvs : List (Key × V), H a = some (.dK kvs) ∧ ks = kvs.map (fun p => keyD p.1) ∧ vs = kvs.map (·.2)) ∨
  (∃ kvs : List (List Key × V), H a = some (.dT kvs) ∧ ks = kvs.map (fun p => PyData.tuple (p.1.map keyD)) ∧ vs = kvs.map (·.2))
mutual
inductive Den (K : PySem.W.Frag) (H : Hp) : PyData → V → Ft → Prop
  | non : Den K H .none .non []
  | bl (b : Bool) : Den K H (.bool b) (.bl b) []
  | int (i : Int) : Den K H (.int i) (.int i) []
  | str (x : Str) : Den K H (.str x) (.str x) []
  | lst {a : Addr} {vs : List V} {ds : List PyData} {G : Ft} : H a = some (.lst vs) → DenL K H ds vs G → Den K H (.list ds) (.ref a) ((a, 0) :: up G)
  | tup {a : Addr} {vs : List V} {ds : List PyData} {G : Ft} : H a = some (.tup vs) → DenL K H ds vs G → Den K H (.tuple ds) (.ref a) (up G)
  | dic {a : Addr} {ks : List PyData} {vs : List V} {qs : List (PyData × PyData)} {G : Ft} : DicAt H a ks vs → qs.map (·.1) = ks → DenL K H (qs.map (·.2)) vs G → Den K H (.dict qs) (.ref a) ((a, 0) :: up G)
inductive DenL (K : PySem.W.Frag) (H : Hp) : List PyData → List V → Ft → Prop
  | nil : DenL K H [] [] []
  | cons {d : PyData} {ds : List PyData} {v : V} {vs : List V} {G G' : Ft} : Den K H d v G → DenL K H ds vs G' → DenL K H (d :: ds) (v :: vs) (G ++ G')
end

/-- a locked dict at a: its keys, its values -/
def DicZ (H : Hp) (a : Addr) (ks : List PyData) (vs : List V) : Prop :=
  (∃ (od : Obj) (kvs : List (Key × V)), H a = some (.frz od (.dK kvs)) ∧ ks = kvs.map (fun p => keyD p.1) ∧ vs = kvs.map (·.2)) ∨
  (∃ (od : Obj) (kvs : List (List Key × V)), H a = some (.frz od (.dT kvs)) ∧ ks = kvs.map (fun p => PyData.tuple (p.1.map keyD)) ∧ vs = kvs.map (·.2))
/-- the class table; 300 on: methods; 4000 on: defs; from 1000 on: the exception in hand, its dict, its class -/
abbrev ClT := Nat → Option Addr
/-- the attribute of an exception's class -/
def fldOf (c : Nat) : Str := if c < 100 then "given" else "index"
inductive DenV (K : PySem.W.Frag) (Z : ClT) (H : Hp) : DV → V → Ft → Prop
  | d {x : PyData} {v : V} {G : Ft} : Den K H x v G → DenV K Z H (.d x) v G
  | s {a : Addr} {ns : List Int} : SqL K (fun _ => none) a (ns.map V.int) ∨ (∃ ob, H a = some (.frz ob (.lst (ns.map V.int)))) → DenV K Z H (.s ns) (.ref a) []
  | o {c : Nat} {C a dx : Addr} {fs : List (Str × PyData)} {gs : List (Str × V)} {G : Ft} : Z c = some C → H a = some (.ins C dx gs) → gs.map (·.1) = fs.map (·.1) → DenL K H (fs.map (·.2)) (gs.map (·.2)) G →
      DenV K Z H (.o c fs) (.ref a) ((a, 0) :: up G)
  | f {i c : Nat} {g C q a dx : Addr} {fs : List (Str × PyData)} {gs : List (Str × V)} {G : Ft} : Z (300 + i) = some g ∧ Z c = some C → H q = some (.met g a) → H a = some (.ins C dx gs) → gs.map (·.1) = fs.map (·.1) → DenL K H (fs.map (·.2)) (gs.map (·.2)) G →
      DenV K Z H (.f i c fs) (.ref q) ((q, 0) :: (a, 0) :: up G)
  | z {a : Addr} {ks : List PyData} {vs : List V} {qs : List (PyData × PyData)} {G : Ft} : DicZ H a ks vs → qs.map (·.1) = ks → DenL K H (qs.map (·.2)) vs G → DenV K Z H (.z qs) (.ref a) (up G)
  | g {i : Nat} {f : Addr} : Z (4000 + i) = some f → DenV K Z H (.g i) (.ref f) []
  | k {a : Addr} {o : Obj} {u : HO} : H a = some (.frz o u) → DenV K Z H (.k o u) (.ref a) []
  | e {c : Nat} {a d C : Addr} {g : PyData} {v : V} {G : Ft} : Z c = some C ∧ c < 200 → H a = some (L2.exo a C (some d)) → H d = some (L2.exd d [(fldOf c, v)]) → Den K H g v G → DenV K Z H (.e c (some g)) (.ref a) ((a, 0) :: (d, 0) :: up G)
  | e0 {c : Nat} {a C : Addr} : Z c = some C ∧ c < 200 → H a = some (L2.exo a C none) → DenV K Z H (.e c none) (.ref a) [(a, 0)]
  | x {c : Nat} {a d C : Addr} {g : PyData} {v : V} {G : Ft} : Z 1000 = some a → Z 1001 = some d → Z 1002 = some C ∧ Z c = some C → H d = some (.xd [(fldOf c, v)]) → Den K H g v G → DenV K Z H (.x c g) (.ref a) ((d, 0) :: up G)

structure Root where
  n : Nat
  d : DV
  v : V

def Own (F : List (Addr × Bool)) : Prop := F.Pairwise fun x y => x.1 = y.1 → x.2 = false ∧ y.2 = false
/-- the names of the code objects that a table tells, by the table's number -/
def lamQ : Nat → Str
  | 0 => "_law_right.<locals>.<lambda>"
  | 1 => "_law_changes_right.<locals>.<lambda>"
  | 2 => "_law_calls.<locals>.<lambda>"
  | 3 => "_law_odd_heard.<locals>.<lambda>"
  | _ => ""
/-- the tables of code objects: from 2000 on in the class table -/
def tabsOf (Z : ClT) : List (Addr × Str) := (List.range 4).filterMap fun k => (Z (2000 + k)).map fun P => (P, lamQ k)
def TabH (Z : ClT) (H : Hp) : Prop := LamX.Tabs (tabsOf Z) H
def SimF (K : PySem.W.Frag) (Z : ClT) (H : Hp) : List Root → List (Addr × Bool) → Prop
  | [], F => F = [] ∧ TabH Z H
  | r :: R, F => ∃ G F', DenV K Z H r.d r.v G ∧ SimF K Z H R F' ∧ F = tag r.n G ++ F'
def Sim (K : PySem.W.Frag) (Z : ClT) (H : Hp) (R : List Root) : Prop := ∃ F, SimF K Z H R F ∧ Own F

section
variable {K : PySem.W.Frag} {Z : ClT} {H H' : Hp}

/-! ### Own -/
theorem Own.perm {F F' : List (Addr × Bool)} (h : F.Perm F') (o : Own F) : Own F' :=
  (List.Perm.pairwise_iff (fun {x y} q e => ⟨(q e.symm).2, (q e.symm).1⟩) h).mp o
theorem Own.sub {F F' : List (Addr × Bool)} (h : F'.Sublist F) (o : Own F) : Own F' := List.Pairwise.sublist h o
/-- what is frozen may be met again -/
theorem Own.more {A F : List (Addr × Bool)} (o : Own F) (h : ∀ p ∈ A, p.2 = false ∧ (p.1, false) ∈ F) : Own (A ++ F) := by
  refine List.pairwise_append.mpr ⟨?_, o, fun x hx y hy e => ?_⟩
  · exact List.Pairwise.imp_of_mem (R := fun _ _ => True) (fun hx hy _ _ => ⟨(h _ hx).1, (h _ hy).1⟩) (List.pairwise_of_forall fun _ _ => trivial)
  · obtain ⟨h1, h2⟩ := h x hx
    refine ⟨h1, ?_⟩
    by_cases z : y = (x.1, false)
    · rw [z]
    · have key : ∀ l : List (Addr × Bool), l.Pairwise (fun x y => x.1 = y.1 → x.2 = false ∧ y.2 = false) → (x.1, false) ∈ l → y ∈ l → y.2 = false := by
        intro l
        induction l with
        | nil => intro _ q; cases q
        | cons c r ih =>
          intro p q1 q2
          obtain ⟨p1, p2⟩ := List.pairwise_cons.mp p
          rcases List.mem_cons.mp q1 with e1 | q1
          · rcases List.mem_cons.mp q2 with e2 | q2
            · exact absurd (e2.trans e1.symm) z
            · exact (p1 y q2 (by rw [← e1]; exact e)).2
          · rcases List.mem_cons.mp q2 with e2 | q2
            · have := p1 _ q1 (by rw [← e2]; exact e.symm)
              rw [e2]; exact this.1
            · exact ih p2 q1 q2
      exact key F o h2 hy
/-- weakening tags -/
theorem Own.weak {F F' : List (Addr × Bool)} (o : Own F) (h : Paired (fun (x y : Addr × Bool) => x.1 = y.1 ∧ (y.2 = true → x.2 = true)) F F') : Own F' := by
  induction h with
  | nil => exact List.Pairwise.nil
  | @cons x y xs ys r t ih =>
    obtain ⟨p1, p2⟩ := List.pairwise_cons.mp o
    refine List.pairwise_cons.mpr ⟨fun z hz e => ?_, ih p2⟩
    obtain ⟨w, hw, e1, e2⟩ : ∃ w ∈ xs, w.1 = z.1 ∧ (z.2 = true → w.2 = true) := by
      clear ih p1 p2 o
      induction t with
      | nil => cases hz
      | cons r' t' ih' =>
        rcases List.mem_cons.mp hz with q | q
        · subst q; exact ⟨_, List.mem_cons_self, r'.1, r'.2⟩
        · obtain ⟨w, hw, q1⟩ := ih' q
          exact ⟨w, List.mem_cons_of_mem _ hw, q1⟩
    have q := p1 w hw (r.1.trans (e.trans e1.symm))
    refine ⟨?_, ?_⟩
    · cases hy : y.2 with
      | false => rfl
      | true => rw [r.2 hy] at q; exact absurd q.1 (by simp)
    · cases hy : z.2 with
      | false => rfl
      | true => rw [e2 hy] at q; exact absurd q.2 (by simp)

/-! ### DenL -/
theorem DenL.append {ds es : List PyData} {vs us : List V} {G G' : Ft} (h : DenL K H ds vs G) (h' : DenL K H es us G') : DenL K H (ds ++ es) (vs ++ us) (G ++ G') := by
  induction ds generalizing vs G with
  | nil => cases h; exact h'
  | cons d ds ih =>
    cases h with
    | cons h1 h2 =>
      rw [List.append_assoc]
      exact .cons h1 (ih h2)
theorem DenL.split {es : List PyData} : ∀ {ds : List PyData} {vs : List V} {G : Ft}, DenL K H (ds ++ es) vs G →
    ∃ us ws G1 G2, vs = us ++ ws ∧ G = G1 ++ G2 ∧ DenL K H ds us G1 ∧ DenL K H es ws G2
  | [], vs, G, h => ⟨[], vs, [], G, rfl, rfl, .nil, h⟩
  | d :: ds, _, _, h => by
    cases h with
    | cons h1 h2 =>
      obtain ⟨us, ws, G1, G2, rfl, rfl, q1, q2⟩ := DenL.split h2
      exact ⟨_ :: us, ws, _, G2, rfl, (List.append_assoc _ _ _).symm, .cons h1 q1, q2⟩
theorem DenL.length : ∀ {ds : List PyData} {vs : List V} {G : Ft}, DenL K H ds vs G → ds.length = vs.length
  | [], _, _, h => by cases h; rfl
  | d :: ds, _, _, h => by
    cases h with
    | cons h1 h2 => simp [DenL.length h2]
theorem DenL.one {d : PyData} {v : V} {G : Ft} (h : Den K H d v G) : DenL K H [d] [v] G := by
  have q : DenL K H [d] [v] (G ++ []) := .cons h .nil
  rwa [List.append_nil] at q
theorem DenL.get : ∀ {ds : List PyData} {vs : List V} {G : Ft} {i : Nat} {d : PyData}, DenL K H ds vs G → ds[i]? = some d → ∃ v G1 G0 G2, vs[i]? = some v ∧ Den K H d v G1 ∧ G = G0 ++ (G1 ++ G2)
  | [], _, _, _, _, _, e => by simp at e
  | x :: ds, _, _, 0, d, h, e => by
    cases h with
    | cons h1 h2 =>
      simp at e; subst e
      exact ⟨_, _, [], _, rfl, h1, rfl⟩
  | x :: ds, _, _, i + 1, d, h, e => by
    cases h with
    | cons h1 h2 =>
      obtain ⟨v, G1, G0, G2, q1, q2, q3⟩ := DenL.get (i := i) h2 (by simpa using e)
      exact ⟨v, G1, _ ++ G0, G2, by simpa using q1, q2, by rw [q3, List.append_assoc]⟩

/-! ### heaps -/
/-- what is met is there and may change; the rest can't -/
def Good (H H' : Hp) (G : Ft) : Prop :=
  (∀ a vs, H a = some (.tup vs) → H' a = some (.tup vs)) ∧ (∀ a o u, H a = some (.frz o u) → H' a = some (.frz o u)) ∧ ∀ p ∈ G, H' p.1 = H p.1
theorem Good.sub {G G' : Ft} (g : Good H H' G) (h : ∀ p ∈ G', ∃ q ∈ G, q.1 = p.1) : Good H H' G' :=
  ⟨g.1, g.2.1, fun p hp => by obtain ⟨q, hq, e⟩ := h p hp; rw [← e]; exact g.2.2 q hq⟩
theorem Rd.good {a : Addr} {vs : List V} {G : Ft} (g : Good H H' G) (h : Rd H a (.tup vs)) : Rd H' a (.tup vs) := by
  rcases h with h | ⟨o, h⟩
  · exact .inl (g.1 _ _ h)
  · exact .inr ⟨o, g.2.1 _ _ _ h⟩
theorem SqT.good {a : Addr} {vs : List V} {G : Ft} (g : Good H H' G) (h : SqT K H a vs) : SqT K H' a vs := by
  rcases h with h | h
  · exact .inl (Rd.good g h)
  · exact .inr h
theorem Good.up {G : Ft} (g : Good H H' (up G)) : Good H H' G := g.sub fun p hp => ⟨(p.1, p.2 + 1), List.mem_map.mpr ⟨p, hp, rfl⟩, rfl⟩
theorem DicAt.good {a : Addr} {ks : List PyData} {vs : List V} (e : H' a = H a) (h : DicAt H a ks vs) : DicAt H' a ks vs := by
  rcases h with ⟨kvs, q, r⟩ | ⟨kvs, q, r⟩
  · exact .inl ⟨kvs, e.trans q, r⟩
  · exact .inr ⟨kvs, e.trans q, r⟩
theorem DicZ.good {a : Addr} {ks : List PyData} {vs : List V} (e : ∀ o u, H a = some (.frz o u) → H' a = some (.frz o u)) (h : DicZ H a ks vs) : DicZ H' a ks vs := by
  rcases h with ⟨od, kvs, q, r⟩ | ⟨od, kvs, q, r⟩
  · exact .inl ⟨od, kvs, e _ _ q, r⟩
  · exact .inr ⟨od, kvs, e _ _ q, r⟩
mutual
theorem Den.good : ∀ {d : PyData} {v : V} {G : Ft}, Den K H d v G → Good H H' G → Den K H' d v G
  | _, _, _, .non, _ => .non
  | _, _, _, .bl b, _ => .bl b
  | _, _, _, .int i, _ => .int i
  | _, _, _, .str x, _ => .str x
  | _, _, _, .lst h1 h2, g => .lst ((g.2.2 _ List.mem_cons_self).trans h1) (DenL.good h2 (g.sub (G' := up _) fun p hp => ⟨p, List.mem_cons_of_mem _ hp, rfl⟩).up)
  | _, _, _, .tup h1 h2, g => .tup (g.1 _ _ h1) (DenL.good h2 g.up)
  | _, _, _, .dic h1 h2 h3, g => .dic (DicAt.good (g.2.2 _ List.mem_cons_self) h1) h2 (DenL.good h3 (g.sub (G' := up _) fun p hp => ⟨p, List.mem_cons_of_mem _ hp, rfl⟩).up)
theorem DenL.good : ∀ {ds : List PyData} {vs : List V} {G : Ft}, DenL K H ds vs G → Good H H' G → DenL K H' ds vs G
  | _, _, _, .nil, _ => .nil
  | _, _, _, .cons h1 h2, g => .cons (Den.good h1 (g.sub fun p hp => ⟨p, List.mem_append_left _ hp, rfl⟩)) (DenL.good h2 (g.sub fun p hp => ⟨p, List.mem_append_right _ hp, rfl⟩))
end
theorem DenV.good {d : DV} {v : V} {G : Ft} (h : DenV K Z H d v G) (g : Good H H' G) : DenV K Z H' d v G := by
  cases h with
  | d h => exact .d (h.good g)
  | s h =>
    rcases h with h | ⟨ob, h⟩
    · exact .s (.inl h)
    · exact .s (.inr ⟨ob, g.2.1 _ _ _ h⟩)
  | o h1 h2 h3 h4 =>
    have g' := (g.sub (G' := up _) fun p hp => ⟨p, List.mem_cons_of_mem _ hp, rfl⟩).up
    exact .o h1 ((g.2.2 _ List.mem_cons_self).trans h2) h3 (h4.good g')
  | x h1 h2 h3 h4 h5 =>
    have g' := (g.sub (G' := up _) fun p hp => ⟨p, List.mem_cons_of_mem _ hp, rfl⟩).up
    exact .x h1 h2 h3 ((g.2.2 _ List.mem_cons_self).trans h4) (h5.good g')
  | f h1 h2 h3 h4 h5 =>
    have g' := (g.sub (G' := up _) fun p hp => ⟨p, List.mem_cons_of_mem _ (List.mem_cons_of_mem _ hp), rfl⟩).up
    exact .f h1 ((g.2.2 _ List.mem_cons_self).trans h2) ((g.2.2 _ (List.mem_cons_of_mem _ List.mem_cons_self)).trans h3) h4 (h5.good g')
  | z h1 h2 h3 => exact .z (h1.good (g.2.1 _)) h2 (h3.good g.up)
  | g h1 => exact .g h1
  | k h1 => exact .k (g.2.1 _ _ _ h1)
  | e h1 h2 h3 h4 =>
    have g' := (g.sub (G' := up _) fun p hp => ⟨p, List.mem_cons_of_mem _ (List.mem_cons_of_mem _ hp), rfl⟩).up
    exact .e h1 ((g.2.2 _ List.mem_cons_self).trans h2) ((g.2.2 _ (List.mem_cons_of_mem _ List.mem_cons_self)).trans h3) (h4.good g')
  | e0 h1 h2 => exact .e0 h1 ((g.2.2 _ List.mem_cons_self).trans h2)
/-- every address met is tracked -/
def There (H : Hp) (G : Ft) : Prop := ∀ p ∈ G, ∃ o, H p.1 = some o
theorem There.up {G : Ft} (t : There H G) : There H (up G) := fun p hp => by
  obtain ⟨q, hq, rfl⟩ := List.mem_map.mp hp
  exact t q hq
theorem There.cons {G : Ft} {a : Addr} {n : Nat} {o : HO} (h : H a = some o) (t : There H G) : There H ((a, n) :: G) := fun p hp => by
  rcases List.mem_cons.mp hp with e | hp
  · subst e; exact ⟨o, h⟩
  · exact t p hp
theorem There.append {G G' : Ft} (t : There H G) (t' : There H G') : There H (G ++ G') := fun p hp => (List.mem_append.mp hp).elim (t p) (t' p)
theorem DicAt.there {a : Addr} {ks : List PyData} {vs : List V} (h : DicAt H a ks vs) : ∃ o, H a = some o := by
  rcases h with ⟨_, h, _⟩ | ⟨_, h, _⟩
  · exact ⟨_, h⟩
  · exact ⟨_, h⟩
theorem There.nil : There H [] := fun _ hp => nomatch hp
mutual
theorem Den.there : ∀ {d : PyData} {v : V} {G : Ft}, Den K H d v G → There H G
  | _, _, _, .non => .nil
  | _, _, _, .bl b => .nil
  | _, _, _, .int i => .nil
  | _, _, _, .str x => .nil
  | _, _, _, .lst h1 h2 => .cons h1 (DenL.there h2).up
  | _, _, _, .tup h1 h2 => (DenL.there h2).up
  | _, _, _, .dic h1 h2 h3 => .cons h1.there.choose_spec (DenL.there h3).up
theorem DenL.there : ∀ {ds : List PyData} {vs : List V} {G : Ft}, DenL K H ds vs G → There H G
  | _, _, _, .nil => .nil
  | _, _, _, .cons h1 h2 => (Den.there h1).append (DenL.there h2)
end
theorem DenV.there {d : DV} {v : V} {G : Ft} (h : DenV K Z H d v G) : There H G := by
  cases h with
  | d h => exact h.there
  | s h => exact .nil
  | o h1 h2 h3 h4 => exact .cons h2 h4.there.up
  | x h1 h2 h3 h4 h5 => exact .cons h4 h5.there.up
  | f h1 h2 h3 h4 h5 => exact .cons h2 (.cons h3 h5.there.up)
  | z h1 h2 h3 => exact h3.there.up
  | g h1 => exact .nil
  | k h1 => exact .nil
  | e h1 h2 h3 h4 => exact .cons h2 (.cons h3 h4.there.up)
  | e0 h1 h2 => exact .cons h2 .nil
end
end Lk
namespace Lk
open PySem PySem.Spec L2

def tks (T : List Addr) : List (Addr × Bool) := T.map fun a => (a, true)
/-- the roots R stand, the addresses T are owned beside them -/
def SimT (K : PySem.W.Frag) (Z : ClT) (H : Hp) (T : List Addr) (R : List Root) : Prop := ∃ F, SimF K Z H R F ∧ Own (tks T ++ F)
def kids (m : Nat) (ds : List PyData) (vs : List V) : List Root := List.zipWith (fun d v => ⟨m, .d d, v⟩) ds vs

section
variable {K : PySem.W.Frag} {Z : ClT} {H H' : Hp} {T : List Addr} {R R' : List Root}
theorem Sim.toT (h : Sim K Z H R) : SimT K Z H [] R := h
theorem SimT.toSim (h : SimT K Z H [] R) : Sim K Z H R := h

theorem SimF.tab : ∀ {R : List Root} {F : List (Addr × Bool)}, SimF K Z H R F → TabH Z H
  | [], _, h => h.2
  | _ :: _, _, ⟨_, _, _, q, _⟩ => SimF.tab q
theorem Sim.tab (h : Sim K Z H R) : TabH Z H := let ⟨_, q, _⟩ := h; q.tab
theorem SimF.append : ∀ {R R' : List Root} {F : List (Addr × Bool)}, SimF K Z H (R ++ R') F → ∃ F1 F2, SimF K Z H R F1 ∧ SimF K Z H R' F2 ∧ F = F1 ++ F2
  | [], _, F, h => ⟨[], F, ⟨rfl, h.tab⟩, h, rfl⟩
  | r :: R, R', F, h => by
    obtain ⟨G, F', hd, h', rfl⟩ := h
    obtain ⟨F1, F2, q1, q2, rfl⟩ := SimF.append h'
    exact ⟨tag r.n G ++ F1, F2, ⟨G, F1, hd, q1, rfl⟩, q2, by rw [List.append_assoc]⟩
theorem SimF.join : ∀ {R R' : List Root} {F F' : List (Addr × Bool)}, SimF K Z H R F → SimF K Z H R' F' → SimF K Z H (R ++ R') (F ++ F')
  | [], _, F, F', h, h' => by
    obtain rfl : F = [] := h.1
    exact h'
  | r :: R, R', F, F', h, h' => by
    obtain ⟨G, F1, hd, q, rfl⟩ := h
    exact ⟨G, F1 ++ F', hd, SimF.join q h', by rw [List.append_assoc]⟩
theorem SimF.perm (p : R.Perm R') : ∀ {F}, SimF K Z H R F → ∃ F', F.Perm F' ∧ SimF K Z H R' F' := by
  induction p with
  | nil => intro F h; exact ⟨F, .refl _, h⟩
  | cons x _ ih =>
    intro F h
    obtain ⟨G, F1, hd, q, rfl⟩ := h
    obtain ⟨F2, p2, q2⟩ := ih q
    exact ⟨_, List.Perm.append_left _ p2, G, F2, hd, q2, rfl⟩
  | swap x y l =>
    intro F h
    obtain ⟨G, F1, hd, ⟨G', F2, hd', q, rfl⟩, rfl⟩ := h
    refine ⟨_, ?_, G', _, hd', ⟨G, F2, hd, q, rfl⟩, rfl⟩
    rw [← List.append_assoc, ← List.append_assoc]
    exact List.Perm.append_right _ List.perm_append_comm
  | trans _ _ ih1 ih2 =>
    intro F h
    obtain ⟨F1, p1, q1⟩ := ih1 h
    obtain ⟨F2, p2, q2⟩ := ih2 q1
    exact ⟨F2, p1.trans p2, q2⟩
theorem SimF.sub (p : R'.Sublist R) : ∀ {F}, SimF K Z H R F → ∃ F', F'.Sublist F ∧ SimF K Z H R' F' := by
  induction p with
  | slnil => intro F h; exact ⟨F, .refl _, h⟩
  | cons a _ ih =>
    intro F h
    obtain ⟨G, F1, hd, q, rfl⟩ := h
    obtain ⟨F2, p2, q2⟩ := ih q
    exact ⟨F2, p2.trans (List.sublist_append_right _ _), q2⟩
  | cons_cons a _ ih =>
    intro F h
    obtain ⟨G, F1, hd, q, rfl⟩ := h
    obtain ⟨F2, p2, q2⟩ := ih q
    exact ⟨_, List.Sublist.append_left p2 _, G, F2, hd, q2, rfl⟩
theorem SimT.perm (h : SimT K Z H T R) (p : R.Perm R') : SimT K Z H T R' := by
  obtain ⟨F, hF, o⟩ := h
  obtain ⟨F', q, hF'⟩ := hF.perm p
  exact ⟨F', hF', o.perm (List.Perm.append_left _ q)⟩
theorem SimT.sub (h : SimT K Z H T R) (p : R'.Sublist R) : SimT K Z H T R' := by
  obtain ⟨F, hF, o⟩ := h
  obtain ⟨F', q, hF'⟩ := hF.sub p
  exact ⟨F', hF', o.sub (List.Sublist.append_left q _)⟩
theorem Sim.perm (h : Sim K Z H R) (p : R.Perm R') : Sim K Z H R' := SimT.perm (T := []) h p
theorem Sim.sub (h : Sim K Z H R) (p : R'.Sublist R) : Sim K Z H R' := SimT.sub (T := []) h p
theorem Sim.drop {r : Root} (h : Sim K Z H (r :: R)) : Sim K Z H R := h.sub (List.sublist_cons_self _ _)
theorem SimF.good : ∀ {R : List Root} {F : List (Addr × Bool)}, SimF K Z H R F → (∀ a vs, H a = some (.tup vs) → H' a = some (.tup vs)) → (∀ a o u, H a = some (.frz o u) → H' a = some (.frz o u)) → (∀ p ∈ F, H' p.1 = H p.1) → (TabH Z H → TabH Z H') → SimF K Z H' R F
  | [], F, h, _, _, _, tb => ⟨h.1, tb h.2⟩
  | r :: R, F, h, h1, h2, h3, tb => by
    obtain ⟨G, F1, hd, q, rfl⟩ := h
    refine ⟨G, F1, hd.good ⟨h1, h2, fun p hp => ?_⟩, SimF.good q h1 h2 (fun p hp => h3 p (List.mem_append_right _ hp)) tb, rfl⟩
    exact h3 (p.1, decide (p.2 < r.n)) (List.mem_append_left _ (List.mem_map.mpr ⟨p, hp, rfl⟩))
theorem SimF.there : ∀ {R : List Root} {F : List (Addr × Bool)}, SimF K Z H R F → ∀ p ∈ F, ∃ o, H p.1 = some o
  | [], F, h, p, hp => by
    obtain rfl : F = [] := h.1
    cases hp
  | r :: R, F, h, p, hp => by
    obtain ⟨G, F1, hd, q, rfl⟩ := h
    rcases List.mem_append.mp hp with hp | hp
    · obtain ⟨z, hz, rfl⟩ := List.mem_map.mp hp
      exact hd.there z hz
    · exact SimF.there q p hp
theorem SimT.grow (h : SimT K Z H T R) (g : ∀ a o, H a = some o → H' a = some o) : SimT K Z H' T R := by
  obtain ⟨F, hF, o⟩ := h
  refine ⟨F, hF.good (fun a vs e => g _ _ e) (fun a ob u e => g _ _ e) (fun p hp => ?_) (fun t => t.ext g), o⟩
  obtain ⟨o, e⟩ := hF.there p hp
  rw [e, g _ _ e]
theorem Sim.grow (h : Sim K Z H R) (g : ∀ a o, H a = some o → H' a = some o) : Sim K Z H' R := SimT.grow (T := []) h g
theorem grow_upd {p : Addr} {ob : HO} (hp : H p = none) : ∀ a o, H a = some o → upd H p ob a = some o := fun a o e => by
  rw [upd_ne (ne_of_none e hp)]; exact e
theorem TabH.write {a : Addr} {ob : HO} (t : TabH Z H) (nb : ∀ ps, H a ≠ some (.tbl ps)) (ne : ∀ f, H a ≠ some (.ext f)) : TabH Z (upd H a ob) := fun p hp => by
  obtain ⟨ps, h1, h2, h3⟩ := t p hp
  refine ⟨ps, (upd_ne fun q => nb ps (by rw [← q]; exact h1)).trans h1, h2, fun pos cv hc => ?_⟩
  obtain ⟨c, e1, e2⟩ := h3 pos cv hc
  refine ⟨c, e1, (upd_ne fun q => ?_).trans e2⟩
  rw [q] at e2
  unfold LamX.CodeO at e2
  exact ne _ e2
theorem TabH.ext (t : TabH Z H) (g : ∀ a o, H a = some o → H' a = some o) : TabH Z H' := LamX.Tabs.ext t g
/-- an owned object is written -/
theorem SimT.write {a : Addr} {ob : HO} (h : SimT K Z H (a :: T) R) (nt : ∀ vs, H a ≠ some (.tup vs)) (nf : ∀ o u, H a ≠ some (.frz o u)) (nb : ∀ ps, H a ≠ some (.tbl ps)) (ne : ∀ f, H a ≠ some (.ext f)) : SimT K Z (upd H a ob) (a :: T) R := by
  obtain ⟨F, hF, o⟩ := h
  refine ⟨F, hF.good (fun b vs e => ?_) (fun b ob u e => ?_) (fun p hp => ?_) (fun t => t.write nb ne), o⟩
  · rw [upd_ne (fun q => by subst q; exact nt _ e)]; exact e
  · rw [upd_ne (fun q => by subst q; exact nf _ _ e)]; exact e
  · refine upd_ne fun q => ?_
    have := (List.pairwise_cons.mp o).1 p (List.mem_append_right _ hp) q.symm
    exact absurd this.1 (by simp)
theorem SimT.dropT {a : Addr} (h : SimT K Z H (a :: T) R) : SimT K Z H T R := by
  obtain ⟨F, hF, o⟩ := h
  exact ⟨F, hF, o.sub (List.sublist_cons_self _ _)⟩

/-! ### flags -/
theorem tag_weak {m n : Nat} (h : m ≤ n) : ∀ G : Ft, Paired (fun (x y : Addr × Bool) => x.1 = y.1 ∧ (y.2 = true → x.2 = true)) (tag n G) (tag m G)
  | [] => .nil
  | p :: G => .cons ⟨rfl, fun z => by
      have z : p.2 < m := of_decide_eq_true z
      exact decide_eq_true (Nat.lt_of_lt_of_le z h)⟩ (tag_weak h G)
theorem paired_refl : ∀ F : List (Addr × Bool), Paired (fun (x y : Addr × Bool) => x.1 = y.1 ∧ (y.2 = true → x.2 = true)) F F
  | [] => .nil
  | p :: F => .cons ⟨rfl, fun z => z⟩ (paired_refl F)
theorem paired_app {A B C D : List (Addr × Bool)} {r : Addr × Bool → Addr × Bool → Prop} (h : Paired r A B) (h' : Paired r C D) : Paired r (A ++ C) (B ++ D) := by
  induction h with
  | nil => exact h'
  | cons q _ ih => exact .cons q ih
/-- each root's flag may be lessened -/
def Less : List Root → List Root → Prop := Paired fun r r' => r'.n ≤ r.n ∧ r'.d = r.d ∧ r'.v = r.v
theorem Less.refl : ∀ R : List Root, Less R R
  | [] => .nil
  | _ :: R => .cons ⟨Nat.le_refl _, rfl, rfl⟩ (Less.refl R)
theorem Less.app {A B C D : List Root} (h : Less A B) (h' : Less C D) : Less (A ++ C) (B ++ D) := by
  induction h with
  | nil => exact h'
  | cons q _ ih => exact .cons q ih
theorem SimF.less (l : Less R R') : ∀ {F}, SimF K Z H R F → ∃ F', Paired (fun (x y : Addr × Bool) => x.1 = y.1 ∧ (y.2 = true → x.2 = true)) F F' ∧ SimF K Z H R' F' := by
  induction l with
  | nil => intro F h; exact ⟨F, paired_refl F, h⟩
  | cons q _ ih =>
    intro F h
    obtain ⟨G, F1, hd, q1, rfl⟩ := h
    obtain ⟨F2, p2, q2⟩ := ih q1
    exact ⟨_, paired_app (tag_weak q.1 G) p2, G, F2, by rw [q.2.1, q.2.2]; exact hd, q2, rfl⟩
theorem SimT.less (h : SimT K Z H T R) (l : Less R R') : SimT K Z H T R' := by
  obtain ⟨F, hF, o⟩ := h
  obtain ⟨F', p, hF'⟩ := hF.less l
  exact ⟨F', hF', o.weak (paired_app (paired_refl _) p)⟩
theorem Sim.less (h : Sim K Z H R) (l : Less R R') : Sim K Z H R' := SimT.less (T := []) h l
theorem Sim.weak {m n : Nat} {d : DV} {v : V} (h : Sim K Z H (⟨n, d, v⟩ :: R)) (hm : m ≤ n) : Sim K Z H (⟨m, d, v⟩ :: R) := h.less (.cons ⟨hm, rfl, rfl⟩ (Less.refl R))
/-- frozen roots that are met already -/
theorem SimT.more {A : List (Addr × Bool)} {S : List Root} (h : SimT K Z H T R) (hS : ∀ F, SimF K Z H R F → ∃ A, SimF K Z H S A ∧ ∀ p ∈ A, p.2 = false ∧ (p.1, false) ∈ F) : SimT K Z H T (S ++ R) := by
  obtain ⟨F, hF, o⟩ := h
  obtain ⟨A, hA, q⟩ := hS F hF
  refine ⟨A ++ F, hA.join hF, ?_⟩
  have o2 : Own (A ++ (tks T ++ F)) := o.more fun p hp => ⟨(q p hp).1, List.mem_append_right _ (q p hp).2⟩
  refine o2.perm ?_
  rw [← List.append_assoc, ← List.append_assoc]
  exact List.Perm.append_right _ List.perm_append_comm
theorem SimF.mem : ∀ {R : List Root} {F : List (Addr × Bool)} {r : Root}, SimF K Z H R F → r ∈ R → ∃ G, DenV K Z H r.d r.v G ∧ ∀ p ∈ tag r.n G, p ∈ F
  | [], _, _, _, hr => nomatch hr
  | r :: R, F, x, h, hr => by
    obtain ⟨G, F1, hd, q, rfl⟩ := h
    rcases List.mem_cons.mp hr with e | hr
    · subst e
      exact ⟨G, hd, fun p hp => List.mem_append_left _ hp⟩
    · obtain ⟨G', hd', q'⟩ := SimF.mem q hr
      exact ⟨G', hd', fun p hp => List.mem_append_right _ (q' p hp)⟩
theorem tag0_in {n : Nat} {G : Ft} {F : List (Addr × Bool)} (h : ∀ p ∈ tag n G, p ∈ F) (h0 : ∀ p ∈ G, n ≤ p.2) : ∀ p ∈ tag 0 G, p.2 = false ∧ (p.1, false) ∈ F := fun p hp => by
  obtain ⟨q, hq, rfl⟩ := List.mem_map.mp hp
  refine ⟨decide_eq_false (Nat.not_lt_zero q.2), ?_⟩
  have := h (q.1, decide (q.2 < n)) (List.mem_map.mpr ⟨q, hq, rfl⟩)
  rwa [decide_eq_false (Nat.not_lt.mpr (h0 q hq))] at this
theorem Sim.den {r : Root} (h : Sim K Z H R) (hr : r ∈ R) : ∃ G, DenV K Z H r.d r.v G := by
  obtain ⟨F, hF, _⟩ := h
  obtain ⟨G, hd, _⟩ := hF.mem hr
  exact ⟨G, hd⟩
/-- a frozen root twice -/
theorem Sim.dup {d : DV} {v : V} (h : Sim K Z H R) (hr : ⟨0, d, v⟩ ∈ R) : Sim K Z H (⟨0, d, v⟩ :: R) := by
  refine SimT.more (T := []) (A := []) (S := [⟨0, d, v⟩]) h fun F hF => ?_
  obtain ⟨G, hd, q⟩ := hF.mem hr
  exact ⟨tag 0 G ++ [], ⟨G, [], hd, ⟨rfl, hF.tab⟩, rfl⟩, fun p hp => tag0_in q (fun _ _ => Nat.zero_le _) p (by simpa using hp)⟩
/-- what has no address may be put to the roots -/
theorem Sim.scal {n : Nat} {d : DV} {v : V} (h : Sim K Z H R) (hd : DenV K Z H d v []) : Sim K Z H (⟨n, d, v⟩ :: R) := by
  obtain ⟨F, hF, o⟩ := h
  exact ⟨F, ⟨[], F, hd, hF, rfl⟩, o⟩

/-! ### children -/
theorem SimF.kids {m : Nat} (tb : TabH Z H) : ∀ {ds : List PyData} {vs : List V} {G : Ft}, DenL K H ds vs G → SimF K Z H (kids m ds vs) (tag m G)
  | [], _, _, h => by cases h; exact ⟨rfl, tb⟩
  | d :: ds, _, _, h => by
    cases h with
    | cons h1 h2 => exact ⟨_, _, .d h1, SimF.kids tb h2, by rw [tag_append]⟩
theorem SimF.ofKids {m : Nat} : ∀ {ds : List PyData} {vs : List V} {F : List (Addr × Bool)}, ds.length = vs.length → SimF K Z H (Lk.kids m ds vs) F → ∃ G, DenL K H ds vs G ∧ F = tag m G
  | [], [], F, _, h => ⟨[], .nil, h.1⟩
  | [], _ :: _, _, e, _ => by simp at e
  | _ :: _, [], _, e, _ => by simp at e
  | d :: ds, v :: vs, F, e, h => by
    obtain ⟨G, F1, hd, q, rfl⟩ := h
    obtain ⟨G', q1, rfl⟩ := SimF.ofKids (by simpa using e) q
    cases hd with
    | d hd => exact ⟨G ++ G', .cons hd q1, by rw [tag_append]⟩
theorem mem_up {G : Ft} {p : Addr × Nat} (h : p ∈ up G) : 1 ≤ p.2 := by
  obtain ⟨q, _, rfl⟩ := List.mem_map.mp h
  exact Nat.le_add_left _ _
theorem tag0_up (G : Ft) : tag 0 (up G) = tag 0 G := by rw [tag_up]
/-- the items of a list whose items are not owned -/
theorem Sim.openL {n : Nat} {ds : List PyData} {v : V} (h : Sim K Z H R) (hr : ⟨n, .d (.list ds), v⟩ ∈ R) (hn : n ≤ 1) :
    ∃ a vs, v = .ref a ∧ H a = some (.lst vs) ∧ ds.length = vs.length ∧ Sim K Z H (kids 0 ds vs ++ R) := by
  obtain ⟨F, hF, o⟩ := id h
  obtain ⟨G, hd, q⟩ := hF.mem hr
  cases hd with
  | d hd =>
    cases hd with
    | @lst _ _ _ G' h1 h2 =>
      refine ⟨_, _, rfl, h1, h2.length, _, (SimF.kids hF.tab h2).join hF, o.more fun p hp => ?_⟩
      have q' : ∀ p ∈ tag n (up G'), p ∈ F := fun p hp => q p (by rw [tag_cons]; exact List.mem_cons_of_mem _ hp)
      exact tag0_in (G := up G') q' (fun p hp => Nat.le_trans hn (mem_up hp)) p (by rw [tag0_up]; exact hp)
/-- the list itself, whatever its flag -/
theorem Sim.seeL {n : Nat} {ds : List PyData} {v : V} (h : Sim K Z H R) (hr : ⟨n, .d (.list ds), v⟩ ∈ R) :
    ∃ a vs, v = .ref a ∧ H a = some (.lst vs) ∧ ds.length = vs.length := by
  obtain ⟨G, hd⟩ := h.den hr
  cases hd with
  | d hd =>
    cases hd with
    | lst h1 h2 => exact ⟨_, _, rfl, h1, h2.length⟩
/-- the script -/
theorem Sim.script {n : Nat} {ns : List Int} {v : V} (h : Sim K Z H R) (hr : ⟨n, .s ns, v⟩ ∈ R) : ∃ a, v = .ref a ∧ SqL K H a (ns.map V.int) := by
  obtain ⟨G, hd⟩ := h.den hr
  cases hd with
  | s h =>
    refine ⟨_, rfl, ?_⟩
    rcases h with h | ⟨ob, h⟩
    · rcases h with (h | ⟨ob, h⟩) | h
      · cases h
      · cases h
      · exact .inr h
    · exact .inl (.inr ⟨ob, h⟩)
/-- the items of a tuple whose items are not owned -/
theorem Sim.openT {n : Nat} {ds : List PyData} {v : V} (h : Sim K Z H R) (hr : ⟨n, .d (.tuple ds), v⟩ ∈ R) (hn : n ≤ 1) :
    ∃ a vs, v = .ref a ∧ SqT K H a vs ∧ ds.length = vs.length ∧ Sim K Z H (kids 0 ds vs ++ R) := by
  obtain ⟨F, hF, o⟩ := id h
  obtain ⟨G, hd, q⟩ := hF.mem hr
  cases hd with
  | d hd =>
    cases hd with
    | @tup _ _ _ G' h1 h2 =>
      refine ⟨_, _, rfl, .of h1, h2.length, _, (SimF.kids hF.tab h2).join hF, o.more fun p hp => ?_⟩
      exact tag0_in (G := up G') q (fun p hp => Nat.le_trans hn (mem_up hp)) p (by rw [tag0_up]; exact hp)
theorem Sim.again {n : Nat} {ds : List PyData} {v : V} (h : Sim K Z H R) (hr : ⟨n, .d (.tuple ds), v⟩ ∈ R) (hn : n ≤ 1) : Sim K Z H (⟨1, .d (.tuple ds), v⟩ :: R) := by
  obtain ⟨F, hF, o⟩ := id h
  obtain ⟨G, hd, q⟩ := hF.mem hr
  cases hd with
  | d hd =>
    cases hd with
    | @tup _ _ _ G' h1 h2 =>
      refine ⟨_, ⟨up G', F, .d (.tup h1 h2), hF, rfl⟩, ?_⟩
      rw [tag_up]
      exact o.more fun p hp => tag0_in (G := up G') q (fun p hp => Nat.le_trans hn (mem_up hp)) p (by rw [tag0_up]; exact hp)
/-- the tuple itself, whatever its flag -/
theorem Sim.seeT {n : Nat} {ds : List PyData} {v : V} (h : Sim K Z H R) (hr : ⟨n, .d (.tuple ds), v⟩ ∈ R) : ∃ a vs, v = .ref a ∧ SqT K H a vs ∧ ds.length = vs.length := by
  obtain ⟨G, hd⟩ := h.den hr
  cases hd with
  | d hd =>
    cases hd with
    | tup h1 h2 => exact ⟨_, _, rfl, .of h1, h2.length⟩
theorem kids_mem {m : Nat} {d : PyData} {v : V} : ∀ {i : Nat} {ds : List PyData} {vs : List V}, ds[i]? = some d → vs[i]? = some v → ⟨m, .d d, v⟩ ∈ kids m ds vs
  | 0, d' :: ds, v' :: vs, e1, e2 => by
    simp at e1 e2; subst e1; subst e2
    exact List.mem_cons_self
  | i + 1, d' :: ds, v' :: vs, e1, e2 => List.mem_cons_of_mem _ (kids_mem (i := i) (by simpa using e1) (by simpa using e2))
  | _, [], _, e1, _ => by simp at e1
  | _, _ :: _, [], _, e2 => by simp at e2
theorem mem_sub {r : Root} {A : List Root} (h : r ∈ A) : [r].Sublist A := List.singleton_sublist.mpr h
theorem Sim.kid {m : Nat} {d : PyData} {v : V} {i : Nat} {ds : List PyData} {vs : List V} (h : Sim K Z H (kids m ds vs ++ R)) (e1 : ds[i]? = some d) (e2 : vs[i]? = some v) : Sim K Z H (⟨m, .d d, v⟩ :: R) :=
  h.sub ((mem_sub (kids_mem e1 e2)).append_right R)
/-- an owned list is taken apart, its address kept -/
theorem Sim.apart {n : Nat} {ds : List PyData} {v : V} (h : Sim K Z H (⟨n + 1, .d (.list ds), v⟩ :: R)) :
    ∃ a vs, v = .ref a ∧ H a = some (.lst vs) ∧ ds.length = vs.length ∧ SimT K Z H [a] (kids n ds vs ++ R) := by
  obtain ⟨F, ⟨G, F1, hd, hF, rfl⟩, o⟩ := h
  cases hd with
  | d hd =>
    cases hd with
    | lst h1 h2 =>
      refine ⟨_, _, rfl, h1, h2.length, _, (SimF.kids hF.tab h2).join hF, ?_⟩
      rw [tag_cons, tag_up] at o
      exact o
/-- .. put together again, with other items -/
theorem SimT.close {n : Nat} {a : Addr} {ds : List PyData} {vs : List V} {ws : List V} (h : SimT K Z H [a] (kids n ds vs ++ R)) (e : ds.length = vs.length) (ha : H a = some (.lst ws)) :
    Sim K Z (upd H a (.lst vs)) (⟨n + 1, .d (.list ds), .ref a⟩ :: R) := by
  have h2 := h.write (ob := .lst vs) (by rw [ha]; simp) (by rw [ha]; simp) (by rw [ha]; simp) (by rw [ha]; simp)
  obtain ⟨F, hF, o⟩ := h2
  obtain ⟨F1, F2, q1, q2, rfl⟩ := hF.append
  obtain ⟨G, hl, rfl⟩ := q1.ofKids e
  refine ⟨(a, true) :: (tag n G ++ F2), ⟨(a, 0) :: up G, F2, .d (.lst upd_same hl), q2, ?_⟩, o⟩
  rw [tag_cons, tag_up]
  rfl
theorem SimF.grow {F : List (Addr × Bool)} (hF : SimF K Z H R F) (g : ∀ a o, H a = some o → H' a = some o) : SimF K Z H' R F :=
  hF.good (fun a vs e => g _ _ e) (fun a ob u e => g _ _ e) (fun p hp => by
    obtain ⟨o, e⟩ := hF.there p hp
    rw [e, g _ _ e]) fun t => t.ext g
/-- a fresh address is owned -/
theorem Sim.fresh {p : Addr} {ob : HO} (h : Sim K Z H R) (hp : H p = none) : SimT K Z (upd H p ob) [p] R := by
  obtain ⟨F, hF, o⟩ := h
  refine ⟨F, hF.grow (grow_upd hp), List.pairwise_cons.mpr ⟨fun y hy e => ?_, o⟩⟩
  obtain ⟨u, q⟩ := hF.there y hy
  have e : p = y.1 := e
  rw [← e, hp] at q
  cases q
theorem SimT.close0 {n : Nat} {a : Addr} {ds : List PyData} {vs : List V} (h : SimT K Z H [a] (kids n ds vs ++ R)) (e : ds.length = vs.length) (ha : H a = some (.lst vs)) :
    Sim K Z H (⟨n + 1, .d (.list ds), .ref a⟩ :: R) := by
  obtain ⟨F, hF, o⟩ := h
  obtain ⟨F1, F2, q1, q2, rfl⟩ := hF.append
  obtain ⟨G, hl, rfl⟩ := q1.ofKids e
  refine ⟨(a, true) :: (tag n G ++ F2), ⟨(a, 0) :: up G, F2, .d (.lst ha hl), q2, ?_⟩, o⟩
  rw [tag_cons, tag_up]
  rfl
/-- a new list -/
theorem Sim.mkL {n : Nat} {p : Addr} {ds : List PyData} {vs : List V} (h : Sim K Z H (kids n ds vs ++ R)) (e : ds.length = vs.length) (hp : H p = none) :
    Sim K Z (upd H p (.lst vs)) (⟨n + 1, .d (.list ds), .ref p⟩ :: R) := (h.fresh hp).close0 e upd_same
/-- a new tuple -/
theorem Sim.mkT {n : Nat} {p : Addr} {ds : List PyData} {vs : List V} (h : Sim K Z H (kids n ds vs ++ R)) (e : ds.length = vs.length) (hp : H p = none) :
    Sim K Z (upd H p (.tup vs)) (⟨n + 1, .d (.tuple ds), .ref p⟩ :: R) := by
  obtain ⟨F, hF, o⟩ := h.grow (grow_upd (ob := .tup vs) hp)
  obtain ⟨F1, F2, q1, q2, rfl⟩ := hF.append
  obtain ⟨G, hl, rfl⟩ := q1.ofKids e
  exact ⟨_, ⟨up G, F2, .d (.tup upd_same hl), q2, by rw [tag_up]; rfl⟩, o⟩
/-- scalars -/
theorem Sim.int {n : Nat} {i : Int} {v : V} (h : Sim K Z H R) (hr : ⟨n, .d (.int i), v⟩ ∈ R) : v = .int i := by
  obtain ⟨G, hd⟩ := h.den hr
  cases hd with
  | d hd => cases hd; rfl
theorem Sim.bl {n : Nat} {i : Bool} {v : V} (h : Sim K Z H R) (hr : ⟨n, .d (.bool i), v⟩ ∈ R) : v = .bl i := by
  obtain ⟨G, hd⟩ := h.den hr
  cases hd with
  | d hd => cases hd; rfl
theorem Sim.str {n : Nat} {i : Str} {v : V} (h : Sim K Z H R) (hr : ⟨n, .d (.str i), v⟩ ∈ R) : v = .str i := by
  obtain ⟨G, hd⟩ := h.den hr
  cases hd with
  | d hd => cases hd; rfl
theorem Sim.non {n : Nat} {v : V} (h : Sim K Z H R) (hr : ⟨n, .d .none, v⟩ ∈ R) : v = .non := by
  obtain ⟨G, hd⟩ := h.den hr
  cases hd with
  | d hd => cases hd; rfl
end
end Lk
namespace Lk
open PySem PySem.Spec L2

abbrev Ev := List (Option DV)
inductive Out (α : Type) where
  | ok (a : α) (e : Ev)
  | ex (c : Nat) (g : PyData) (e : Ev)
  | bad
abbrev M (α : Type) := Ev → Out α
def Out.bind {α β : Type} (o : Out α) (f : α → M β) : Out β :=
  match o with
  | .ok a e => f a e
  | .ex c g e => .ex c g e
  | .bad => .bad
def M.bind {α β : Type} (m : M α) (f : α → M β) : M β := fun e => (m e).bind f
def M.pure {α : Type} (a : α) : M α := fun e => .ok a e
def M.bad {α : Type} : M α := fun _ => .bad
def optM {α : Type} (o : Option α) : M α := match o with
  | some a => M.pure a
  | none => M.bad

/-- where an expression's value stands: in a slot, or by itself with a flag -/
inductive Tm where
  | sl (i : Nat)
  | v (k : Nat)
def slot (e : Ev) (i : Nat) : Option DV := (e[i]?).join
def Tm.now (t : Tm) (d : DV) (e : Ev) : Option DV := match t with
  | .sl i => slot e i
  | .v _ => some d
structure Held where
  t : Tm
  d : DV
  v : V
def Held.rt (h : Held) : List Root := match h.t with
  | .sl _ => []
  | .v k => [⟨k, h.d, h.v⟩]
def hrts (hs : List Held) : List Root := hs.flatMap Held.rt
def Held.at (h : Held) (σ : St) : Prop := match h.t with
  | .sl i => σ[i]? = some (some h.v)
  | .v _ => True
def roots : List Nat → Ev → St → List Root
  | n :: φ, some d :: e, some v :: σ => ⟨n, d, v⟩ :: roots φ e σ
  | _ :: φ, _ :: e, _ :: σ => roots φ e σ
  | _, _, _ => []
def Al : List Nat → Ev → St → Prop
  | [], [], [] => True
  | _ :: φ, d :: e, v :: σ => (d.isSome = true → v.isSome = true) ∧ Al φ e σ
  | _, _, _ => False

section
theorem Al.get : ∀ {φ : List Nat} {e : Ev} {σ : St} {i : Nat} {d : DV}, Al φ e σ → slot e i = some d → ∃ n v, φ[i]? = some n ∧ σ[i]? = some (some v) ∧ (roots φ e σ).Perm (⟨n, d, v⟩ :: roots φ (e.set i none) σ)
  | [], [], [], i, d, _, h => by simp [slot] at h
  | n :: φ, d0 :: e, v0 :: σ, 0, d, a, h => by
    have h : d0 = some d := by simpa [slot] using h
    subst h
    cases v0 with
    | none => exact absurd (a.1 rfl) (by simp)
    | some v => exact ⟨n, v, rfl, rfl, .refl _⟩
  | n :: φ, d0 :: e, v0 :: σ, i + 1, d, a, h => by
    obtain ⟨n', v, q1, q2, p⟩ := Al.get (i := i) a.2 (by simpa [slot] using h)
    refine ⟨n', v, by simpa using q1, by simpa using q2, ?_⟩
    rw [List.set_cons_succ]
    cases d0 with
    | none => exact p
    | some d1 =>
      cases v0 with
      | none => exact absurd (a.1 rfl) (by simp)
      | some v1 => exact (List.Perm.cons _ p).trans (.swap _ _ _)
  | [], [], _ :: _, _, _, a, _ => a.elim
  | [], _ :: _, [], _, _, a, _ => a.elim
  | [], _ :: _, _ :: _, _, _, a, _ => a.elim
  | _ :: _, [], [], _, _, a, _ => a.elim
  | _ :: _, [], _ :: _, _, _, a, _ => a.elim
  | _ :: _, _ :: _, [], _, _, a, _ => a.elim
theorem Al.set : ∀ {φ : List Nat} {e : Ev} {σ : St} {i m : Nat} {d : DV} {v : V}, Al φ e σ → i < e.length → Al (φ.set i m) (e.set i (some d)) (σ.set i (some v)) ∧
    (roots (φ.set i m) (e.set i (some d)) (σ.set i (some v))).Perm (⟨m, d, v⟩ :: roots φ (e.set i none) σ)
  | [], [], [], i, _, _, _, _, h => by simp at h
  | n :: φ, d0 :: e, v0 :: σ, 0, m, d, v, a, _ => ⟨⟨fun _ => rfl, a.2⟩, .refl _⟩
  | n :: φ, d0 :: e, v0 :: σ, i + 1, m, d, v, a, h => by
    obtain ⟨q1, p⟩ := Al.set (i := i) (m := m) (d := d) (v := v) a.2 (by simpa using h)
    refine ⟨⟨a.1, q1⟩, ?_⟩
    simp only [List.set_cons_succ]
    cases d0 with
    | none => exact p
    | some d1 =>
      cases v0 with
      | none => exact absurd (a.1 rfl) (by simp)
      | some v1 => exact (List.Perm.cons _ p).trans (.swap _ _ _)
  | [], [], _ :: _, _, _, _, _, a, _ => a.elim
  | [], _ :: _, [], _, _, _, _, a, _ => a.elim
  | [], _ :: _, _ :: _, _, _, _, _, a, _ => a.elim
  | _ :: _, [], [], _, _, _, _, a, _ => a.elim
  | _ :: _, [], _ :: _, _, _, _, _, a, _ => a.elim
  | _ :: _, _ :: _, [], _, _, _, _, a, _ => a.elim
theorem Al.len : ∀ {φ : List Nat} {e : Ev} {σ : St}, Al φ e σ → e.length = σ.length ∧ φ.length = σ.length
  | [], [], [], _ => ⟨rfl, rfl⟩
  | _ :: φ, _ :: e, _ :: σ, a => by simp [a.2.len.1, a.2.len.2]
  | [], [], _ :: _, a => a.elim
  | [], _ :: _, [], a => a.elim
  | [], _ :: _, _ :: _, a => a.elim
  | _ :: _, [], [], a => a.elim
  | _ :: _, [], _ :: _, a => a.elim
  | _ :: _, _ :: _, [], a => a.elim
theorem Al.setE {φ : List Nat} {e : Ev} {σ : St} {i : Nat} (m : Nat) {d' : DV} {v : V} (a : Al φ e σ) (h : σ[i]? = some (some v)) : Al (φ.set i m) (e.set i (some d')) σ ∧
    (roots (φ.set i m) (e.set i (some d')) σ).Perm (⟨m, d', v⟩ :: roots φ (e.set i none) σ) := by
  have hi : i < σ.length := (List.getElem?_eq_some_iff.mp h).1
  have q := Al.set (m := m) (d := d') (v := v) a (a.len.1 ▸ hi)
  have e2 : σ.set i (some v) = σ := by
    apply List.ext_getElem?
    intro j
    by_cases hj : i = j
    · subst hj; rw [List.getElem?_set_self hi, h]
    · rw [List.getElem?_set_ne hj]
  rwa [e2] at q
/-- flags lessened -/
def leN : List Nat → List Nat → Bool
  | [], [] => true
  | a :: φ, b :: ψ => decide (a ≤ b) && leN φ ψ
  | _, _ => false
theorem Al.less : ∀ {φ ψ : List Nat} {e : Ev} {σ : St}, Al φ e σ → leN ψ φ = true → Al ψ e σ ∧ Less (roots φ e σ) (roots ψ e σ)
  | [], [], [], [], _, _ => ⟨trivial, .nil⟩
  | n :: φ, m :: ψ, d :: e, v :: σ, a, h => by
    simp only [leN, Bool.and_eq_true, decide_eq_true_eq] at h
    obtain ⟨q1, q2⟩ := Al.less a.2 h.2
    refine ⟨⟨a.1, q1⟩, ?_⟩
    cases d with
    | none => exact q2
    | some d =>
      cases v with
      | none => exact q2
      | some v => exact .cons ⟨h.1, rfl, rfl⟩ q2
  | [], _ :: _, _, _, _, h => by simp [leN] at h
  | _ :: _, [], _, _, _, h => by simp [leN] at h
  | [], [], [], _ :: _, a, _ => a.elim
  | [], [], _ :: _, [], a, _ => a.elim
  | [], [], _ :: _, _ :: _, a, _ => a.elim
  | _ :: _, _ :: _, [], [], a, _ => a.elim
  | _ :: _, _ :: _, [], _ :: _, a, _ => a.elim
  | _ :: _, _ :: _, _ :: _, [], a, _ => a.elim
theorem leN_refl : ∀ φ : List Nat, leN φ φ = true
  | [] => rfl
  | n :: φ => by simp [leN, leN_refl φ]
theorem leN_trans : ∀ {φ ψ χ : List Nat}, leN φ ψ = true → leN ψ χ = true → leN φ χ = true
  | [], [], [], _, _ => rfl
  | a :: φ, b :: ψ, c :: χ, h, h' => by
    simp only [leN, Bool.and_eq_true, decide_eq_true_eq] at h h' ⊢
    exact ⟨Nat.le_trans h.1 h'.1, leN_trans h.2 h'.2⟩
  | [], [], _ :: _, _, h => by simp [leN] at h
  | [], _ :: _, _, h, _ => by simp [leN] at h
  | _ :: _, [], _, h, _ => by simp [leN] at h
  | _ :: _, _ :: _, [], _, h => by simp [leN] at h
end

/-- the state in a body: roots of the slots, of what is held, and the frame's L -/
structure Stt (K : PySem.W.Frag) (Z : ClT) (φ : List Nat) (env : Ev) (hs : List Held) (σ : St) (H : Hp) (L : List Root) : Prop where
  sim : Sim K Z H (hrts hs ++ (roots φ env σ ++ L))
  al : Al φ env σ
  at' : ∀ h ∈ hs, h.at σ

def zeros (e : Ev) : List Nat := e.map fun _ => 0
/-- what is wanted of an exception -/
def XP (K : PySem.W.Frag) (Z : ClT) (W : WX) (L : List Root) (c : Nat) (g : PyData) (e : Ev) : Prop :=
  ∀ (C a : Addr) (v : V) (σ' : St) (H' : Hp), Z c = some C → H' a = some (.xd [(fldOf c, v)]) → Sim K Z H' (⟨0, .d g, v⟩ :: (roots (zeros e) e σ' ++ L)) → Al (zeros e) e σ' → W (.ref C) (some a) σ' H'
def Wish {α : Type} (K : PySem.W.Frag) (Z : ClT) (W : WX) (L : List Root) (o : Out α) (k : α → Ev → Prop) : Prop := match o with
  | .ok a e => k a e
  | .ex c g e => XP K Z W L c g e
  | .bad => False

def Out.ofO {α : Type} (o : Option α) (e : Ev) : Out α := match o with
  | some a => .ok a e
  | none => .bad
section
variable {K : PySem.W.Frag} {Z : ClT} {W : WX} {L L' : List Root}
theorem Wish.ofO {α : Type} {o : Option α} {e : Ev} {k : α → Ev → Prop} (h : Wish K Z W L (Out.ofO o e) k) : ∃ a, o = some a ∧ k a e := by
  cases o with
  | none => exact h.elim
  | some a => exact ⟨a, rfl, h⟩
theorem Wish.bind {α β : Type} {o : Out α} {f : α → M β} {k : β → Ev → Prop} (h : Wish K Z W L (o.bind f) k) : Wish K Z W L o fun a e => Wish K Z W L (f a e) k := by
  cases o with
  | ok a e => exact h
  | ex c g e => exact h
  | bad => exact h
theorem Wish.mono {α : Type} {o : Out α} {k k' : α → Ev → Prop} (h : Wish K Z W L o k) (i : ∀ a e, k a e → k' a e) : Wish K Z W L o k' := by
  cases o with
  | ok a e => exact i _ _ h
  | ex c g e => exact h
  | bad => exact h
theorem XP.frame {A : List Root} {c : Nat} {g : PyData} {e : Ev} (h : XP K Z W L c g e) : XP K Z W (A ++ L) c g e := fun C a v σ' H' q1 q2 q3 q4 =>
  h C a v σ' H' q1 q2 (q3.sub (.cons_cons _ (List.Sublist.append_left (List.sublist_append_right _ _) _))) q4
theorem Wish.frame {α : Type} {A : List Root} {o : Out α} {k : α → Ev → Prop} (h : Wish K Z W L o k) : Wish K Z W (A ++ L) o k := by
  cases o with
  | ok a e => exact h
  | ex c g e => exact XP.frame h
  | bad => exact h
end

section
variable (X : Cx) (Z : ClT) (W : WX)
def rdE (φ φ' : List Nat) (t : Tm) (f : M DV) : TE := fun σ H Q => ∃ L env, Stt X.K Z φ env [] σ H L ∧ Wish X.K Z W L (f env) fun d e' => ∀ v H', Stt X.K Z φ' e' [⟨t, d, v⟩] σ H' L → Q v H'
def rdT (φ φ' : List Nat) (f : M Bool) : TT := fun σ H Q => ∃ L env, Stt X.K Z φ env [] σ H L ∧ Wish X.K Z W L (f env) fun b e' => ∀ H', Stt X.K Z φ' e' [] σ H' L → Q b H'
def JE (φ : List Nat) (e : Expr) (φ' : List Nat) (t : Tm) (f : M DV) : Prop := PE X e (rdE X Z W φ φ' t f)
def JT (φ : List Nat) (e : Expr) (φ' : List Nat) (f : M Bool) : Prop := PT X e (rdT X Z W φ φ' f)
/-- a list of operands: their terms, latest last; the values as they are when all are there -/
def nows : List (Tm × DV) → Ev → Option (List DV)
  | [], _ => some []
  | (t, d) :: r, e => match t.now d e, nows r e with
    | some x, some xs => some (x :: xs)
    | _, _ => none
end
section
variable {X : Cx} {Z : ClT} {W : WX}
theorem pe_imp {e : Expr} {t t' : TE} (h : PE X e t) (i : ∀ σ H Q, t' σ H Q → t σ H Q) : PE X e t' := ⟨fun pins s σ H Q I q => h.run pins s σ H Q I (i _ _ _ q)⟩
theorem pt_imp {e : Expr} {t t' : TT} (h : PT X e t) (i : ∀ σ H Q, t' σ H Q → t σ H Q) : PT X e t' := ⟨fun pins s σ H Q I q => h.run pins s σ H Q I (i _ _ _ q)⟩
theorem hrts_cons (h : Held) (hs : List Held) : hrts (h :: hs) = h.rt ++ hrts hs := rfl
theorem shuf {A B C D : List Root} : (A ++ (B ++ (C ++ D))).Perm (A ++ (C ++ (B ++ D))) := by
  refine List.Perm.append_left _ ?_
  rw [← List.append_assoc, ← List.append_assoc]
  exact List.Perm.append_right _ List.perm_append_comm
variable {φ φ' : List Nat} {t : Tm} {f : M DV} {σ : St} {H : Hp} {L : List Root} {env : Ev} {hs : List Held}
/-- an expression in the middle of others -/
theorem rdE.go {P : VK} (S : Stt X.K Z φ env hs σ H L) (h : Wish X.K Z W L (f env) fun d e' => ∀ v H', Stt X.K Z φ' e' (⟨t, d, v⟩ :: hs) σ H' L → P v H') : rdE X Z W φ φ' t f σ H P := by
  refine ⟨hrts hs ++ L, env, ⟨?_, S.al, fun _ h => nomatch h⟩, h.frame.mono fun d e' k v H' S' => k v H' ⟨?_, S'.al, fun x hx => ?_⟩⟩
  · refine S.sim.perm ?_
    show (hrts hs ++ (roots φ env σ ++ L)).Perm ([] ++ (roots φ env σ ++ (hrts hs ++ L)))
    exact shuf (A := [])
  · refine S'.sim.perm ?_
    show ((Held.rt _ ++ []) ++ (roots φ' e' σ ++ (hrts hs ++ L))).Perm ((Held.rt _ ++ hrts hs) ++ (roots φ' e' σ ++ L))
    rw [List.append_nil, List.append_assoc]
    exact shuf
  · rcases List.mem_cons.mp hx with e | hx
    · subst e; exact S'.at' _ List.mem_cons_self
    · exact S.at' x hx
theorem rdT.go {f : M Bool} {P : Bool → Hp → Prop} (S : Stt X.K Z φ env hs σ H L) (h : Wish X.K Z W L (f env) fun b e' => ∀ H', Stt X.K Z φ' e' hs σ H' L → P b H') : rdT X Z W φ φ' f σ H P := by
  refine ⟨hrts hs ++ L, env, ⟨?_, S.al, fun _ h => nomatch h⟩, h.frame.mono fun d e' k H' S' => k H' ⟨?_, S'.al, S.at'⟩⟩
  · refine S.sim.perm ?_
    show (hrts hs ++ (roots φ env σ ++ L)).Perm ([] ++ (roots φ env σ ++ (hrts hs ++ L)))
    exact shuf (A := [])
  · refine S'.sim.perm ?_
    show ([] ++ (roots φ' e' σ ++ (hrts hs ++ L))).Perm (hrts hs ++ (roots φ' e' σ ++ L))
    exact shuf (A := [])

/-! ### what is held, as a root with a bounded flag -/
/-- the flags when held operands may share their parts: at most cap -/
def capS (cap : Nat) : List (Option Nat) → List Nat → List Nat
  | [], φ => φ
  | none :: ts, φ => capS cap ts φ
  | some i :: ts, φ => capS cap ts (φ.modify i (min cap))
def Tm.slot? : Tm → Option Nat
  | .sl i => some i
  | .v _ => none
theorem modify_le (cap : Nat) : ∀ (φ : List Nat) (i : Nat), leN (φ.modify i (min cap)) φ = true
  | [], i => by cases i <;> rfl
  | n :: φ, 0 => by
    show leN (min cap n :: φ) (n :: φ) = true
    simp [leN, leN_refl, Nat.min_le_right]
  | n :: φ, i + 1 => by
    show leN (n :: φ.modify i (min cap)) (n :: φ) = true
    simp [leN, modify_le cap φ i]
theorem capS_le (cap : Nat) : ∀ (ts : List (Option Nat)) (φ : List Nat), leN (capS cap ts φ) φ = true
  | [], φ => leN_refl φ
  | none :: ts, φ => capS_le cap ts φ
  | some i :: ts, φ => leN_trans (capS_le cap ts _) (modify_le cap φ i)
theorem leN_get : ∀ {φ ψ : List Nat} {i n : Nat}, leN ψ φ = true → ψ[i]? = some n → ∃ m, φ[i]? = some m ∧ n ≤ m
  | a :: φ, b :: ψ, 0, n, h, e => by
    simp only [leN, Bool.and_eq_true, decide_eq_true_eq] at h
    simp at e; subst e
    exact ⟨a, rfl, h.1⟩
  | a :: φ, b :: ψ, i + 1, n, h, e => by
    simp only [leN, Bool.and_eq_true, decide_eq_true_eq] at h
    exact leN_get (i := i) h.2 (by simpa using e)
  | [], [], _, _, _, e => by simp at e
  | [], _ :: _, _, _, h, _ => by simp [leN] at h
  | _ :: _, [], _, _, _, e => by simp at e
theorem capS_get (cap : Nat) : ∀ {ts : List (Option Nat)} {φ : List Nat} {i n : Nat}, some i ∈ ts → (capS cap ts φ)[i]? = some n → n ≤ cap
  | none :: ts, φ, i, n, h, e => by
    rcases List.mem_cons.mp h with q | h
    · cases q
    · exact capS_get cap h e
  | some j :: ts, φ, i, n, h, e => by
    rcases List.mem_cons.mp h with q | h
    · have q : i = j := Option.some.inj q
      subst q
      obtain ⟨m, hm, hnm⟩ := leN_get (capS_le cap ts (φ.modify i (min cap))) e
      rw [List.getElem?_modify] at hm
      cases hq : φ[i]? with
      | none => rw [hq] at hm; simp at hm
      | some a =>
        rw [hq] at hm
        simp at hm
        omega
    · exact capS_get cap h e
def Held.cap (c : Nat) (h : Held) : Held := match h.t with
  | .sl i => h
  | .v k => ⟨.v (min c k), h.d, h.v⟩
theorem Held.cap_rt (c : Nat) (h : Held) : Less h.rt (h.cap c).rt := by
  obtain ⟨t, d, v⟩ := h
  cases t with
  | sl i => exact .nil
  | v k => exact .cons ⟨Nat.min_le_right _ _, rfl, rfl⟩ .nil
theorem hrts_cap (c : Nat) : ∀ hs : List Held, Less (hrts hs) (hrts (hs.map (Held.cap c)))
  | [] => .nil
  | h :: hs => by
    show Less (h.rt ++ hrts hs) ((h.cap c).rt ++ hrts (hs.map (Held.cap c)))
    exact Less.app (h.cap_rt c) (hrts_cap c hs)
/-- all that is held may share its parts -/
theorem Stt.cap (S : Stt X.K Z φ env hs σ H L) (c : Nat) : Stt X.K Z (capS c (hs.map fun h => h.t.slot?) φ) env (hs.map (Held.cap c)) σ H L := by
  obtain ⟨a, l⟩ := S.al.less (capS_le c (hs.map fun h => h.t.slot?) φ)
  refine ⟨S.sim.less (Less.app (hrts_cap c hs) (Less.app l (Less.refl L))), a, fun x hx => ?_⟩
  obtain ⟨y, hy, rfl⟩ := List.mem_map.mp hx
  have := S.at' y hy
  obtain ⟨t, d, v⟩ := y
  cases t with
  | sl i => exact this
  | v k => trivial
theorem Stt.less {ψ : List Nat} (S : Stt X.K Z φ env hs σ H L) (h : leN ψ φ = true) : Stt X.K Z ψ env hs σ H L := by
  obtain ⟨a, l⟩ := S.al.less h
  exact ⟨S.sim.less (Less.app (Less.refl _) (Less.app l (Less.refl L))), a, S.at'⟩
/-- a held operand is among the roots -/
theorem Stt.mem {h : Held} {d : DV} (S : Stt X.K Z φ env hs σ H L) (hh : h ∈ hs) (hd : h.t.now h.d env = some d) :
    ∃ n, ⟨n, d, h.v⟩ ∈ hrts hs ++ (roots φ env σ ++ L) ∧ (∀ i, h.t = .sl i → φ[i]? = some n) ∧ ∀ k, h.t = .v k → n = k := by
  obtain ⟨t, d0, v⟩ := h
  cases t with
  | v k =>
    have hd : some d0 = some d := hd
    cases hd
    refine ⟨k, List.mem_append_left _ (List.mem_flatMap.mpr ⟨_, hh, List.mem_singleton.mpr rfl⟩), (fun i e => nomatch e), fun k' e => ?_⟩
    cases e; rfl
  | sl i =>
    obtain ⟨n, v', h1, h2, p⟩ := S.al.get (i := i) hd
    have q : σ[i]? = some (some v) := S.at' _ hh
    rw [h2] at q; cases q
    refine ⟨n, List.mem_append_right _ (List.mem_append_left _ (p.mem_iff.mpr List.mem_cons_self)), fun j e => ?_, fun k e => nomatch e⟩
    cases e; exact h1
theorem Stt.memC {c : Nat} {h : Held} {d : DV} (S : Stt X.K Z φ env hs σ H L) (hh : h ∈ hs) (hd : h.t.now h.d env = some d) :
    ∃ n, n ≤ c ∧ ⟨n, d, h.v⟩ ∈ hrts (hs.map (Held.cap c)) ++ (roots (capS c (hs.map fun h => h.t.slot?) φ) env σ ++ L) := by
  have hh' : h.cap c ∈ hs.map (Held.cap c) := List.mem_map.mpr ⟨h, hh, rfl⟩
  obtain ⟨t, d0, v⟩ := h
  cases t with
  | v k =>
    obtain ⟨n, q, _, q2⟩ := (S.cap c).mem hh' hd
    exact ⟨n, by rw [q2 _ rfl]; exact Nat.min_le_left _ _, q⟩
  | sl i =>
    obtain ⟨n, q, q1, _⟩ := (S.cap c).mem hh' hd
    exact ⟨n, capS_get c (List.mem_map.mpr ⟨_, hh, rfl⟩) (q1 i rfl), q⟩
/-- the end of an operation: the operands go, the result is held -/
theorem Stt.done {k : Nat} {d : DV} {v : V} {H' : Hp} {as : List Held} (S : Stt X.K Z φ env (as ++ hs) σ H L) (h : Sim X.K Z H' (⟨k, d, v⟩ :: (hrts (as ++ hs) ++ (roots φ env σ ++ L)))) : Stt X.K Z φ env (⟨.v k, d, v⟩ :: hs) σ H' L := by
  refine ⟨h.sub (.cons_cons _ ?_), S.al, fun x hx => ?_⟩
  · refine List.Sublist.append_right ?_ _
    show (hrts hs).Sublist ((as ++ hs).flatMap Held.rt)
    rw [List.flatMap_append]
    exact List.sublist_append_right _ _
  · rcases List.mem_cons.mp hx with e | hx
    · subst e; trivial
    · exact S.at' x (List.mem_append_right _ hx)
end
end Lk
namespace Lk
open PySem PySem.Spec L2

section
variable {X : Cx} {Z : ClT} {W : WX} {φ φ1 φ2 φ3 φ' : List Nat} {t ta tb tc : Tm} {f fa fb fc : M DV} {σ : St} {H : Hp} {L : List Root} {env : Ev} {hs : List Held} {a b c e : Expr} {pos : Pos}

theorem Stt.hperm {hs' : List Held} (S : Stt X.K Z φ env hs σ H L) (p : hs.Perm hs') : Stt X.K Z φ env hs' σ H L :=
  ⟨S.sim.perm (List.Perm.append_right _ (List.Perm.flatMap_right _ p)), S.al, fun x hx => S.at' x (p.mem_iff.mpr hx)⟩
/-- the roots of a state -/
abbrev Stt.R (φ : List Nat) (env : Ev) (hs : List Held) (σ : St) (L : List Root) : List Root := hrts hs ++ (roots φ env σ ++ L)

/-! ### names, constants -/
def slotM (i : Nat) : M DV := fun e => match slot e i with
  | some d => .ok d e
  | none => .bad
theorem je_var {i : Nat} {x : Str} (hN : X.N[i]? = some x) (hv : Vis X.env.scope x) (hd : (x == ("__debug__" : Str)) = false) (hcd : (x == ("__classdict__" : Str)) = false) : JE X Z W φ (.Name x pos) φ (.sl i) (slotM i) := by
  refine pe_imp (pe_var hN hv hd hcd) fun σ H Q ⟨L, env, S, h⟩ => ?_
  unfold slotM at h
  cases q : slot env i with
  | none => rw [q] at h; exact h.elim
  | some d =>
    rw [q] at h
    obtain ⟨n, v, h1, h2, p⟩ := S.al.get q
    refine ⟨v, h2, h v H ⟨S.sim, S.al, fun x hx => ?_⟩⟩
    rw [List.mem_singleton.mp hx]
    exact h2
/-- a name whose value goes on by itself: what it holds is not owned any more -/
theorem je_varE {i : Nat} {x : Str} (hN : X.N[i]? = some x) (hv : Vis X.env.scope x) (hd : (x == ("__debug__" : Str)) = false) (hcd : (x == ("__classdict__" : Str)) = false) :
    JE X Z W φ (.Name x pos) (φ.modify i (min 0)) (.v 0) (slotM i) := by
  refine pe_imp (pe_var hN hv hd hcd) fun σ H Q ⟨L, env, S, h⟩ => ?_
  unfold slotM at h
  cases q : slot env i with
  | none => rw [q] at h; exact h.elim
  | some d =>
    rw [q] at h
    have S2 := S.less (modify_le 0 φ i)
    obtain ⟨n, v, h1, h2, p⟩ := S2.al.get q
    have hn : n = 0 := by
      rw [List.getElem?_modify] at h1
      cases q2 : φ[i]? with
      | none => rw [q2] at h1; simp at h1
      | some m => rw [q2] at h1; simp at h1; exact h1.symm
    subst hn
    refine ⟨v, h2, h v H ⟨?_, S2.al, fun x hx => ?_⟩⟩
    · exact S2.sim.dup (List.mem_append_right _ (List.mem_append_left _ (p.mem_iff.mpr List.mem_cons_self)))
    · rw [List.mem_singleton.mp hx]; trivial
theorem je_const {v : V} {d : DV} (hp : PE X e (tC v)) (hd : ∀ H, DenV X.K Z H d v []) : JE X Z W φ e φ (.v 9) (M.pure d) := by
  refine pe_imp hp fun σ H Q ⟨L, env, S, h⟩ => ?_
  refine h v H ⟨S.sim.scal (hd H), S.al, fun x hx => ?_⟩
  rw [List.mem_singleton.mp hx]; trivial

/-! ### two operands -/
def OpD (X : Cx) (Z : ClT) (F : Value → Value → Sem Value) (g : DV → DV → Option DV) (cap k : Nat) : Prop :=
  OpR X F fun x y H Q => ∃ R d e n m r, Sim X.K Z H R ∧ (⟨n, d, x⟩ : Root) ∈ R ∧ (⟨m, e, y⟩ : Root) ∈ R ∧ n ≤ cap ∧ m ≤ cap ∧ g d e = some r ∧ ∀ v H', Sim X.K Z H' (⟨k, r, v⟩ :: R) → Q v H'
def op2 (g : DV → DV → Option DV) (ta tb : Tm) (fa fb : M DV) : M DV := fun env => (fa env).bind fun d e1 => (fb e1).bind fun d' e2 =>
  match ta.now d e2, tb.now d' e2 with
  | some x, some y => (match g x y with
    | some r => .ok r e2
    | none => .bad)
  | _, _ => .bad
abbrev cap2 (cap : Nat) (ta tb : Tm) (φ : List Nat) : List Nat := capS cap [tb.slot?, ta.slot?] φ
theorem cap_slots (c : Nat) (hs : List Held) : hs.map (fun h => h.t.slot?) = hs.map (fun h => h.t.slot?) := rfl
/-- the core: both operands evaluated -/
theorem op2_core {g : DV → DV → Option DV} {cap k : Nat} {P : VK} {x y : V} {d d' : DV} (S : Stt X.K Z φ2 env [⟨tb, d', y⟩, ⟨ta, d, x⟩] σ H L)
    (h : Wish X.K Z W L (match ta.now d env, tb.now d' env with
      | some x, some y => (match g x y with
        | some r => Out.ok r env
        | none => .bad)
      | _, _ => .bad) fun r e' => ∀ v H', Stt X.K Z (cap2 cap ta tb φ2) e' [⟨.v k, r, v⟩] σ H' L → P v H') :
    ∃ R d e n m r, Sim X.K Z H R ∧ (⟨n, d, x⟩ : Root) ∈ R ∧ (⟨m, e, y⟩ : Root) ∈ R ∧ n ≤ cap ∧ m ≤ cap ∧ g d e = some r ∧ ∀ v H', Sim X.K Z H' (⟨k, r, v⟩ :: R) → P v H' := by
  cases q1 : ta.now d env with
  | none => rw [q1] at h; exact h.elim
  | some d1 =>
    cases q2 : tb.now d' env with
    | none => rw [q1, q2] at h; exact h.elim
    | some d2 =>
      rw [q1, q2] at h
      simp only at h
      cases q3 : g d1 d2 with
      | none => rw [q3] at h; exact h.elim
      | some r =>
        rw [q3] at h
        obtain ⟨n, hn, m1⟩ := S.memC (c := cap) (h := ⟨ta, d, x⟩) (List.mem_cons_of_mem _ List.mem_cons_self) q1
        obtain ⟨m, hm, m2⟩ := S.memC (c := cap) (h := ⟨tb, d', y⟩) List.mem_cons_self q2
        refine ⟨_, d1, d2, n, m, r, (S.cap cap).sim, m1, m2, hn, hm, q3, fun v H' s => h v H' ?_⟩
        exact Stt.done (as := [Held.cap cap ⟨tb, d', y⟩, Held.cap cap ⟨ta, d, x⟩]) (hs := []) (S.cap cap) s
theorem je_bin {op : Operator} {g : DV → DV → Option DV} {cap k : Nat} (ho : OpD X Z (binaryOp op) g cap k) (ha : JE X Z W φ a φ1 ta fa) (hb : JE X Z W φ1 b φ2 tb fb) :
    JE X Z W φ (.BinOp a op b pos) (cap2 cap ta tb φ2) (.v k) (op2 g ta tb fa fb) := by
  refine pe_imp (pe_op ho ha hb) fun σ H Q ⟨L, env, S, h⟩ => ?_
  refine rdE.go S (h.bind.mono fun d e1 h1 v H1 S1 => ?_)
  refine rdE.go S1 (h1.bind.mono fun d' e2 h2 u H2 S2 => ?_)
  exact op2_core S2 h2
theorem je_cmp {op : CmpOp} {g : DV → DV → Option DV} {cap k : Nat} (ho : OpD X Z (compareOp op) g cap k) (hm : behindInMarks op b = false) (ha : JE X Z W φ a φ1 ta fa) (hb : JE X Z W φ1 b φ2 tb fb) :
    JE X Z W φ (.Compare a [op] [b] pos) (cap2 cap ta tb φ2) (.v k) (op2 g ta tb fa fb) := by
  refine pe_imp (pe_cmpR ho ha hb hm) fun σ H Q ⟨L, env, S, h⟩ => ?_
  refine rdE.go S (h.bind.mono fun d e1 h1 v H1 S1 => ?_)
  refine rdE.go S1 (h1.bind.mono fun d' e2 h2 u H2 S2 => ?_)
  exact op2_core S2 h2
/-- a truth value is told by the term -/
def asB (t : Tm) (f : M DV) : M Bool := fun env => (f env).bind fun d e => match t.now d e with
  | some (.d (.bool b)) => .ok b e
  | _ => .bad
theorem Stt.isB {h : Held} {k : Bool} (S : Stt X.K Z φ env hs σ H L) (hh : h ∈ hs) (hd : h.t.now h.d env = some (.d (.bool k))) : h.v = .bl k := by
  obtain ⟨n, q, _⟩ := S.mem hh hd
  exact S.sim.bl q
theorem Stt.free {h : Held} (S : Stt X.K Z φ env (h :: hs) σ H L) : Stt X.K Z φ env hs σ H L :=
  ⟨S.sim.sub (List.Sublist.append_right (List.sublist_append_right _ _) _), S.al, fun x hx => S.at' x (List.mem_cons_of_mem _ hx)⟩
theorem jt_cmp {op : CmpOp} {g : DV → DV → Option DV} {cap k : Nat} (ho : OpD X Z (compareOp op) g cap k) (hm : behindInMarks op b = false) (ha : JE X Z W φ a φ1 ta fa) (hb : JE X Z W φ1 b φ2 tb fb) :
    JT X Z W φ (.Compare a [op] [b] pos) (cap2 cap ta tb φ2) (asB (.v k) (op2 g ta tb fa fb)) := by
  refine pt_imp (pt_cmpR ho ha hb hm) fun σ H Q ⟨L, env, S, h⟩ => ?_
  have h := h.bind
  refine rdE.go S (h.bind.mono fun d e1 h1 v H1 S1 => ?_)
  refine rdE.go S1 (h1.bind.mono fun d' e2 h2 u H2 S2 => ?_)
  refine op2_core (k := k) (P := fun x H' => ∃ k, x = .bl k ∧ Q k H') S2 (h2.mono fun r e3 h3 w H3 S3 => ?_)
  cases r with
  | d r =>
    cases r with
    | bool kb => exact ⟨kb, S3.isB List.mem_cons_self rfl, h3 H3 S3.free⟩
    | none => exact h3.elim
    | int _ => exact h3.elim
    | str _ => exact h3.elim
    | list _ => exact h3.elim
    | tuple _ => exact h3.elim
    | dict _ => exact h3.elim
  | o _ _ => exact h3.elim
  | x _ _ => exact h3.elim
  | f _ _ _ => exact h3.elim
  | z _ => exact h3.elim
  | g _ => exact h3.elim
  | k _ _ => exact h3.elim
  | e _ _ => exact h3.elim
  | s _ => exact h3.elim

/-! ### truth -/
def truD : DV → Option Bool
  | .d .none => some false
  | .d (.bool b) => some b
  | .d (.int i) => some (i != 0)
  | .d (.str x) => if x.length ≤ 1000000 then some ((x.length : Int) != 0) else none
  | .d (.list xs) => some (!xs.isEmpty)
  | .d (.tuple xs) => some (!xs.isEmpty)
  | _ => none
theorem isEmpty_len {α β : Type} {xs : List α} {ys : List β} (h : xs.length = ys.length) : (!xs.isEmpty) = !ys.isEmpty := by
  cases xs <;> cases ys <;> first | rfl | simp at h
theorem Stt.tru {h : Held} {d : DV} {k : Bool} (S : Stt X.K Z φ env hs σ H L) (hh : h ∈ hs) (hd : h.t.now h.d env = some d) (ht : truD d = some k) : TruV X.K h.v H k := by
  obtain ⟨n, q, _⟩ := S.mem hh hd
  cases d with
  | d d =>
    cases d with
    | none =>
      rw [S.sim.non q]
      exact (Option.some.inj ht).symm
    | bool b =>
      rw [S.sim.bl q]
      exact (Option.some.inj ht).symm
    | int i =>
      rw [S.sim.int q]
      exact (Option.some.inj ht).symm
    | str x =>
      rw [S.sim.str q]
      have ht : (if x.length ≤ 1000000 then some ((x.length : Int) != 0) else none) = some k := ht
      by_cases hx : x.length ≤ 1000000
      · rw [if_pos hx] at ht
        have hz : x.length ≤ sizeLine := by rw [sizeLine_eq]; omega
        exact ⟨hz, (Option.some.inj ht).symm⟩
      · rw [if_neg hx] at ht; cases ht
    | list ds =>
      obtain ⟨a, vs, e, hl, hn⟩ := S.sim.seeL q
      rw [e]
      exact .inl ⟨vs, .of hl, by rw [← Option.some.inj ht]; exact isEmpty_len hn⟩
    | tuple ds =>
      obtain ⟨a, vs, e, hl, hn⟩ := S.sim.seeT q
      rw [e]
      exact .inr (.inl ⟨vs, hl, by rw [← Option.some.inj ht]; exact isEmpty_len hn⟩)
    | dict _ => cases ht
  | o _ _ => cases ht
  | x _ _ => cases ht
  | f _ _ _ => cases ht
  | z _ => cases ht
  | g _ => cases ht
  | k _ _ => cases ht
  | e _ _ => cases ht
  | s _ => cases ht
def truM (t : Tm) (f : M DV) : M Bool := fun env => (f env).bind fun d e => match t.now d e with
  | some x => (match truD x with
    | some b => .ok b e
    | none => .bad)
  | none => .bad
/-- expressions whose test is the truth of the value -/
def plainTest : Expr → Bool
  | .UnaryOp .Not _ _ => false
  | .BoolOp .. => false
  | .IfExp .. => false
  | .Compare .. => false
  | _ => true
theorem plainTest_eq {env : PySem.Env} : ∀ {a : Expr}, plainTest a = true → ∀ whole, isTrue a env whole = (do let v ← whole; standAt a.pos; holding [v] (truthy v)) := by
  intro a h whole
  cases a <;> first | rfl | cases h | skip
  rename_i op x p
  cases op <;> first | rfl | cases h
theorem jt_truth (ha : JE X Z W φ a φ1 ta fa) (hp : plainTest a = true) : JT X Z W φ a φ1 (truM ta fa) := by
  refine pt_imp (pt_truth ha (plainTest_eq hp)) fun σ H Q ⟨L, env, S, h⟩ => ?_
  refine rdE.go S (h.bind.mono fun d e1 h1 v H1 S1 => ?_)
  cases q1 : ta.now d e1 with
  | none => rw [q1] at h1; exact h1.elim
  | some d1 =>
    rw [q1] at h1
    simp only at h1
    cases q2 : truD d1 with
    | none => rw [q2] at h1; exact h1.elim
    | some k =>
      rw [q2] at h1
      exact ⟨k, S1.tru (h := ⟨ta, d, v⟩) List.mem_cons_self q1 q2, h1 H1 S1.free⟩
def notM (f : M Bool) : M Bool := fun env => (f env).bind fun b e => .ok (!b) e
theorem jt_not {f : M Bool} (ha : JT X Z W φ a φ1 f) : JT X Z W φ (.UnaryOp .Not a pos) φ1 (notM f) := by
  refine pt_imp (pt_not ha) fun σ H Q ⟨L, env, S, h⟩ => ?_
  exact rdT.go S h.bind
def andM (f g : M Bool) : M Bool := fun env => (f env).bind fun b e => match b with
  | true => g e
  | false => .ok false e
def orM (f g : M Bool) : M Bool := fun env => (f env).bind fun b e => match b with
  | true => .ok true e
  | false => g e
/-- and, or as tests; the second operand must leave the flags (it may lessen them) -/
def JW (X : Cx) (Z : ClT) (W : WX) (φ : List Nat) (e : Expr) (φ' : List Nat) (f : M Bool) : Prop := PW X e (rdT X Z W φ φ' f)
theorem pw_imp {e : Expr} {t t' : TT} (h : PW X e t) (i : ∀ σ H Q, t' σ H Q → t σ H Q) : PW X e t' := ⟨fun wh pins s σ H Q I q => h.run wh pins s σ H Q I (i _ _ _ q)⟩
theorem jw_and1 {f : M Bool} (ha : JT X Z W φ a φ1 f) : JW X Z W φ (.BoolOp .And [a] pos) φ1 f := pw_and1 ha
theorem jw_or1 {f : M Bool} (ha : JT X Z W φ a φ1 f) : JW X Z W φ (.BoolOp .Or [a] pos) φ1 f := pw_or1 ha
theorem rdT.less {f : M Bool} {Q : Bool → Hp → Prop} (hl : leN φ2 φ1 = true) (h : rdT X Z W φ φ2 f σ H Q) : rdT X Z W φ φ1 f σ H Q := by
  obtain ⟨L, env, S, h⟩ := h
  exact ⟨L, env, S, h.mono fun b e k H' S' => k H' (S'.less hl)⟩
theorem jw_and {f g : M Bool} {rest : List Expr} (ha : JT X Z W φ a φ1 f) (hb : JW X Z W φ1 (.BoolOp .And (b :: rest) pos) φ2 g) (hl : leN φ2 φ1 = true) : JW X Z W φ (.BoolOp .And (a :: b :: rest) pos) φ2 (andM f g) := by
  refine pw_imp (pw_and ha hb) fun σ H Q ⟨L, env, S, h⟩ => ?_
  refine rdT.go S (h.bind.mono fun k e1 h1 H1 S1 => ?_)
  cases k with
  | true => exact rdT.go S1 h1
  | false => exact h1 H1 (S1.less hl)
theorem jw_or {f g : M Bool} {rest : List Expr} (ha : JT X Z W φ a φ1 f) (hb : JW X Z W φ1 (.BoolOp .Or (b :: rest) pos) φ2 g) (hl : leN φ2 φ1 = true) : JW X Z W φ (.BoolOp .Or (a :: b :: rest) pos) φ2 (orM f g) := by
  refine pw_imp (pw_or ha hb) fun σ H Q ⟨L, env, S, h⟩ => ?_
  refine rdT.go S (h.bind.mono fun k e1 h1 H1 S1 => ?_)
  cases k with
  | false => exact rdT.go S1 h1
  | true => exact h1 H1 (S1.less hl)
theorem jt_w {f : M Bool} (h : JW X Z W φ a φ1 f) : JT X Z W φ a φ1 f := h.pt
/-! .. as values: the operands are tests or bools -/
def blM (f : M Bool) : M DV := fun env => (f env).bind fun b e => .ok (.d (.bool b)) e
theorem je_one {op : BoolOp} (ha : JE X Z W φ a φ1 ta fa) : JE X Z W φ (.BoolOp op [a] pos) φ1 ta fa := pe_one ha
def andV (ta : Tm) (fa fb : M DV) : M DV := fun env => (asB ta fa env).bind fun k e => match k with
  | true => fb e
  | false => .ok (.d (.bool false)) e
def orV (ta : Tm) (fa fb : M DV) : M DV := fun env => (asB ta fa env).bind fun k e => match k with
  | true => .ok (.d (.bool true)) e
  | false => fb e
theorem asB_split {σ : St} {P : Bool → Ev → Prop} (h : Wish X.K Z W L (asB ta fa env) P) : Wish X.K Z W L (fa env) fun d e => ∃ k, ta.now d e = some (.d (.bool k)) ∧ P k e := by
  refine h.bind.mono fun d e h => ?_
  cases q : ta.now d e with
  | none => rw [q] at h; exact h.elim
  | some x =>
    rw [q] at h
    cases x with
    | d x =>
      cases x with
      | bool k => exact ⟨k, rfl, h⟩
      | none => exact h.elim
      | int _ => exact h.elim
      | str _ => exact h.elim
      | list _ => exact h.elim
      | tuple _ => exact h.elim
      | dict _ => exact h.elim
    | o _ _ => exact h.elim
    | x _ _ => exact h.elim
    | f _ _ _ => exact h.elim
    | z _ => exact h.elim
    | g _ => exact h.elim
    | k _ _ => exact h.elim
    | e _ _ => exact h.elim
    | s _ => exact h.elim
/-- a value by itself with flag k stands for any slotless value -/
theorem je_and {rest : List Expr} {k : Nat} (ha : JE X Z W φ a φ1 ta fa) (hb : JE X Z W φ1 (.BoolOp .And (b :: rest) pos) φ2 (.v k) fb) (hl : leN φ2 φ1 = true) :
    JE X Z W φ (.BoolOp .And (a :: b :: rest) pos) φ2 (.v k) (andV ta fa fb) := by
  refine pe_imp (pe_and ha hb) fun σ H Q ⟨L, env, S, h⟩ => ?_
  refine rdE.go S ((asB_split (σ := σ) h.bind).mono fun d e1 ⟨kb, q, h1⟩ v H1 S1 => ?_)
  refine ⟨kb, S1.isB (h := ⟨ta, d, v⟩) List.mem_cons_self q, ?_⟩
  cases kb with
  | true => exact rdE.go S1.free h1
  | false =>
    refine h1 (.bl false) H1 ⟨((S1.free.less hl).sim.scal (.d (.bl false))), (S1.free.less hl).al, fun x hx => ?_⟩
    rw [List.mem_singleton.mp hx]; trivial
theorem je_or {rest : List Expr} {k : Nat} (ha : JE X Z W φ a φ1 ta fa) (hb : JE X Z W φ1 (.BoolOp .Or (b :: rest) pos) φ2 (.v k) fb) (hl : leN φ2 φ1 = true) :
    JE X Z W φ (.BoolOp .Or (a :: b :: rest) pos) φ2 (.v k) (orV ta fa fb) := by
  refine pe_imp (pe_or ha hb) fun σ H Q ⟨L, env, S, h⟩ => ?_
  refine rdE.go S ((asB_split (σ := σ) h.bind).mono fun d e1 ⟨kb, q, h1⟩ v H1 S1 => ?_)
  refine ⟨kb, S1.isB (h := ⟨ta, d, v⟩) List.mem_cons_self q, ?_⟩
  cases kb with
  | false => exact rdE.go S1.free h1
  | true =>
    refine h1 (.bl true) H1 ⟨((S1.free.less hl).sim.scal (.d (.bl true))), (S1.free.less hl).al, fun x hx => ?_⟩
    rw [List.mem_singleton.mp hx]; trivial
def notV (ta : Tm) (fa : M DV) : M DV := blM (notM (asB ta fa))
theorem je_not (ha : JE X Z W φ a φ1 ta fa) : JE X Z W φ (.UnaryOp .Not a pos) φ1 (.v 9) (notV ta fa) := by
  refine pe_imp (pe_not ha) fun σ H Q ⟨L, env, S, h⟩ => ?_
  refine rdE.go S ((asB_split (σ := σ) h.bind.bind).mono fun d e1 ⟨kb, q, h1⟩ v H1 S1 => ?_)
  refine ⟨kb, S1.isB (h := ⟨ta, d, v⟩) List.mem_cons_self q, ?_⟩
  refine h1 (.bl (!kb)) H1 ⟨S1.free.sim.scal (.d (.bl _)), S1.free.al, fun x hx => ?_⟩
  rw [List.mem_singleton.mp hx]; trivial
/-! a if t else b -/
def ifM (ft : M Bool) (fa fb : M DV) : M DV := fun env => (ft env).bind fun k e => match k with
  | true => fa e
  | false => fb e
theorem je_if {ft : M Bool} {k ka kb : Nat} (hc : JT X Z W φ c φ1 ft) (ha : JE X Z W φ1 a φ2 (.v ka) fa) (hb : JE X Z W φ1 b φ3 (.v kb) fb) (h2 : leN φ' φ2 = true) (h3 : leN φ' φ3 = true) (k2 : k ≤ ka) (k3 : k ≤ kb) :
    JE X Z W φ (.IfExp c a b pos) φ' (.v k) (ifM ft fa fb) := by
  refine pe_imp (pe_ifExp hc ha hb) fun σ H Q ⟨L, env, S, h⟩ => ?_
  refine rdT.go S (h.bind.mono fun kb e1 h1 H1 S1 => ?_)
  have low : ∀ {e : Ev} {d : DV} {v : V} {H' : Hp} {n : Nat}, k ≤ n → Stt X.K Z φ' e [⟨.v n, d, v⟩] σ H' L → Stt X.K Z φ' e [⟨.v k, d, v⟩] σ H' L := fun {e d v H' n} hk s =>
    ⟨s.sim.weak hk, s.al, fun x hx => by rw [List.mem_singleton.mp hx]; trivial⟩
  cases kb with
  | true => exact rdE.go S1 (h1.mono fun d e2 h2' v H2 S2 => h2' v H2 (low k2 (S2.less h2)))
  | false => exact rdE.go S1 (h1.mono fun d e2 h2' v H2 S2 => h2' v H2 (low k3 (S2.less h3)))
end
end Lk
namespace Lk
open PySem PySem.Spec L2

abbrev big0 : Nat := 1000000
def unK : PyData → Option Key
  | .int i => some (.inl i)
  | .str x => some (.inr x)
  | _ => none
def unKs : List PyData → Option (List Key)
  | [] => some []
  | x :: xs => match unK x, unKs xs with
    | some k, some ks => some (k :: ks)
    | _, _ => none
def unT : PyData → Option (List Key)
  | .tuple xs => unKs xs
  | _ => none
theorem unK_eq {x : PyData} {k : Key} (h : unK x = some k) : x = keyD k := by
  unfold unK at h
  split at h <;> first | (cases h; rfl) | cases h
theorem unK_keyD (k : Key) : unK (keyD k) = some k := by cases k <;> rfl
theorem keyD_inj {k l : Key} (h : keyD k = keyD l) : k = l := by
  have := congrArg unK h
  rw [unK_keyD, unK_keyD] at this
  exact Option.some.inj this
theorem unKs_eq : ∀ {xs : List PyData} {ks : List Key}, unKs xs = some ks → xs = ks.map keyD
  | [], _, h => by cases h; rfl
  | x :: xs, ks, h => by
    unfold unKs at h
    split at h
    · rename_i k ks' h1 h2
      cases h
      rw [unK_eq h1, unKs_eq h2]; rfl
    · cases h
theorem unKs_map : ∀ ks : List Key, unKs (ks.map keyD) = some ks
  | [] => rfl
  | k :: ks => by
    show (match unK (keyD k), unKs (ks.map keyD) with
      | some k, some ks => some (k :: ks)
      | _, _ => none) = _
    rw [unK_keyD, unKs_map ks]
def keyT (ks : List Key) : PyData := .tuple (ks.map keyD)
theorem unT_eq {x : PyData} {k : List Key} (h : unT x = some k) : x = keyT k := by
  unfold unT at h
  split at h
  · rw [unKs_eq h]; rfl
  · cases h
theorem unT_keyT (k : List Key) : unT (keyT k) = some k := unKs_map k
theorem keyT_inj {k l : List Key} (h : keyT k = keyT l) : k = l := by
  have := congrArg unT h
  rw [unT_keyT, unT_keyT] at this
  exact Option.some.inj this
theorem keyD_T (k : Key) (l : List Key) : keyD k ≠ keyT l := by cases k <;> exact fun h => nomatch h

/-! ### pairs in order -/
section
variable {κ : Type} [DecidableEq κ] {α β : Type}
def valG (l : List (κ × α)) (k : κ) : Option α := (l.find? fun p => decide (p.1 = k)).map (·.2)
def putG (l : List (κ × α)) (k : κ) (v : α) : List (κ × α) := if (l.any fun p => decide (p.1 = k)) = true then l.map (fun p => if p.1 = k then (p.1, v) else p) else l ++ [(k, v)]
theorem putG_len (l : List (κ × α)) (k : κ) (v : α) : (putG l k v).length ≤ l.length + 1 := by
  unfold putG
  split
  · rw [List.length_map]; omega
  · rw [List.length_append, List.length_cons, List.length_nil]; omega
theorem any_keys (k : κ) : ∀ {l : List (κ × α)} {m : List (κ × β)}, l.map (·.1) = m.map (·.1) → (l.any fun p => decide (p.1 = k)) = (m.any fun p => decide (p.1 = k))
  | [], [], _ => rfl
  | [], _ :: _, h => by simp at h
  | _ :: _, [], h => by simp at h
  | p :: l, q :: m, h => by
    simp only [List.map_cons, List.cons.injEq] at h
    rw [List.any_cons, List.any_cons, h.1, any_keys k h.2]
theorem repl_keys (k : κ) (v : α) : ∀ l : List (κ × α), (l.map fun p => if p.1 = k then (p.1, v) else p).map (·.1) = l.map (·.1)
  | [] => rfl
  | p :: l => by
    rw [List.map_cons, List.map_cons, repl_keys k v l, List.map_cons]
    congr 1
    split <;> rfl
theorem putG_keys (k : κ) (v : α) (w : β) {l : List (κ × α)} {m : List (κ × β)} (h : l.map (·.1) = m.map (·.1)) : (putG l k v).map (·.1) = (putG m k w).map (·.1) := by
  unfold putG
  rw [any_keys k h]
  split
  · rw [repl_keys, repl_keys, h]
  · rw [List.map_append, List.map_append, h]; rfl
/-- where the key stands -/
theorem put_at (k : κ) (v : α) : ∀ {l : List (κ × α)}, (l.map (·.1)).Nodup → (l.any fun p => decide (p.1 = k)) = true → ∃ i, i < l.length ∧ ((l.map (·.1))[i]? = some k) ∧ (l.map fun p => if p.1 = k then (p.1, v) else p).map (·.2) = (l.map (·.2)).set i v
  | [], _, h => by simp at h
  | p :: l, nd, h => by
    rw [List.map_cons, List.nodup_cons] at nd
    by_cases e : p.1 = k
    · refine ⟨0, by simp, by simp [e], ?_⟩
      have q : (l.map fun p => if p.1 = k then (p.1, v) else p) = l := by
        conv => rhs; rw [← List.map_id l]
        refine List.map_congr_left fun x hx => ?_
        rw [if_neg]; rfl
        intro z
        exact nd.1 (by rw [e, ← z]; exact List.mem_map.mpr ⟨x, hx, rfl⟩)
      rw [List.map_cons, if_pos e, q]; rfl
    · rw [List.any_cons, decide_eq_false e, Bool.false_or] at h
      obtain ⟨i, h1, h2, h3⟩ := put_at k v nd.2 h
      refine ⟨i + 1, by simp; omega, by simpa using h2, ?_⟩
      rw [List.map_cons, if_neg e, List.map_cons, h3]; rfl
theorem valG_at (k : κ) : ∀ {l : List (κ × α)} {m : List (κ × β)} {x : α}, l.map (·.1) = m.map (·.1) → valG l k = some x → ∃ (i : Nat) (y : β), (l.map (·.2))[i]? = some x ∧ (m.map (·.2))[i]? = some y ∧ valG m k = some y
  | [], _, _, _, h => by cases h
  | _ :: _, [], _, h, _ => by simp at h
  | p :: l, q :: m, x, h, e => by
    simp only [List.map_cons, List.cons.injEq] at h
    unfold valG at e ⊢
    by_cases z : p.1 = k
    · rw [List.find?_cons, decide_eq_true z] at e
      rw [List.find?_cons, decide_eq_true (h.1 ▸ z)]
      exact ⟨0, q.2, by simpa using e, rfl, rfl⟩
    · rw [List.find?_cons, decide_eq_false z] at e
      rw [List.find?_cons, decide_eq_false (h.1 ▸ z)]
      obtain ⟨i, y, a, b, c⟩ := valG_at k h.2 e
      exact ⟨i + 1, y, by simpa using a, by simpa using b, c⟩
theorem valG_some (k : κ) : ∀ l : List (κ × α), (valG l k).isSome = (l.any fun p => decide (p.1 = k))
  | [] => rfl
  | p :: l => by
    have ih := valG_some k l
    unfold valG at ih ⊢
    rw [List.any_cons, List.find?_cons]
    by_cases z : p.1 = k
    · rw [decide_eq_true z]; rfl
    · rw [decide_eq_false z, Bool.false_or]; exact ih
end
/-- the keys of a dict, all ints and texts; all tuples -/
def asK : List (PyData × PyData) → Option (List (Key × PyData))
  | [] => some []
  | p :: r => match unK p.1, asK r with
    | some k, some l => some ((k, p.2) :: l)
    | _, _ => none
def asT : List (PyData × PyData) → Option (List (List Key × PyData))
  | [] => some []
  | p :: r => match unT p.1, asT r with
    | some k, some l => some ((k, p.2) :: l)
    | _, _ => none
def ofK (l : List (Key × PyData)) : List (PyData × PyData) := l.map fun p => (keyD p.1, p.2)
def ofT (l : List (List Key × PyData)) : List (PyData × PyData) := l.map fun p => (keyT p.1, p.2)
theorem asK_eq : ∀ {qs : List (PyData × PyData)} {l : List (Key × PyData)}, asK qs = some l → qs = ofK l
  | [], _, h => by cases h; rfl
  | p :: r, l, h => by
    unfold asK at h
    split at h
    · rename_i k l' h1 h2
      cases h
      rw [asK_eq h2]
      show _ = (keyD k, p.2) :: _
      rw [← unK_eq h1]; rfl
    · cases h
theorem asT_eq : ∀ {qs : List (PyData × PyData)} {l : List (List Key × PyData)}, asT qs = some l → qs = ofT l
  | [], _, h => by cases h; rfl
  | p :: r, l, h => by
    unfold asT at h
    split at h
    · rename_i k l' h1 h2
      cases h
      rw [asT_eq h2]
      show _ = (keyT k, p.2) :: _
      rw [← unT_eq h1]; rfl
    · cases h
theorem asK_of : ∀ l : List (Key × PyData), asK (ofK l) = some l
  | [] => rfl
  | p :: l => by
    show (match unK (keyD p.1), asK (ofK l) with
      | some k, some l => some ((k, p.2) :: l)
      | _, _ => none) = _
    rw [unK_keyD, asK_of l]
theorem asT_of : ∀ l : List (List Key × PyData), asT (ofT l) = some l
  | [] => rfl
  | p :: l => by
    show (match unT (keyT p.1), asT (ofT l) with
      | some k, some l => some ((k, p.2) :: l)
      | _, _ => none) = _
    rw [unT_keyT, asT_of l]
/-- what the dict holds at a key -/
def dgetP (qs : List (PyData × PyData)) (k : PyData) : Option (Option PyData) := match unK k with
  | some k => (asK qs).map fun l => valG l k
  | none => match unT k with
    | some k => (asT qs).map fun l => valG l k
    | none => none
/-- the dict with a key put -/
def dputP (qs : List (PyData × PyData)) (k v : PyData) : Option (List (PyData × PyData)) := if qs.length < big0 then match unK k with
  | some k => (asK qs).map fun l => ofK (putG l k v)
  | none => match unT k with
    | some k => (asT qs).map fun l => ofT (putG l k v)
    | none => none
  else none
theorem map_inj {α β : Type} {f : α → β} (hf : ∀ a b, f a = f b → a = b) : ∀ {l m : List α}, l.map f = m.map f → l = m
  | [], [], _ => rfl
  | [], _ :: _, h => by simp at h
  | _ :: _, [], h => by simp at h
  | a :: l, b :: m, h => by
    simp only [List.map_cons, List.cons.injEq] at h
    rw [hf a b h.1, map_inj hf h.2]
/-- the heap's keys are the data's -/
theorem keysK {l : List (Key × PyData)} {kvs : List (Key × V)} (h : (ofK l).map (·.1) = kvs.map (fun p => keyD p.1)) : l.map (·.1) = kvs.map (·.1) := by
  refine map_inj (f := keyD) (fun a b => keyD_inj) ?_
  rw [List.map_map, List.map_map]
  unfold ofK at h
  rw [List.map_map] at h
  exact h
theorem keysT {l : List (List Key × PyData)} {kvs : List (List Key × V)} (h : (ofT l).map (·.1) = kvs.map (fun p => keyT p.1)) : l.map (·.1) = kvs.map (·.1) := by
  refine map_inj (f := keyT) (fun a b => keyT_inj) ?_
  rw [List.map_map, List.map_map]
  unfold ofT at h
  rw [List.map_map] at h
  exact h
theorem keysKT {l : List (Key × PyData)} {kvs : List (List Key × V)} (h : (ofK l).map (·.1) = kvs.map (fun p => keyT p.1)) : l = [] ∧ kvs = [] := by
  cases l with
  | nil => cases kvs with
    | nil => exact ⟨rfl, rfl⟩
    | cons _ _ => simp [ofK] at h
  | cons p l => cases kvs with
    | nil => simp [ofK] at h
    | cons q kvs =>
      simp only [ofK, List.map_cons, List.cons.injEq] at h
      exact absurd h.1 (keyD_T _ _)
theorem keysTK {l : List (List Key × PyData)} {kvs : List (Key × V)} (h : (ofT l).map (·.1) = kvs.map (fun p => keyD p.1)) : l = [] ∧ kvs = [] := by
  cases l with
  | nil => cases kvs with
    | nil => exact ⟨rfl, rfl⟩
    | cons _ _ => simp [ofT] at h
  | cons p l => cases kvs with
    | nil => simp [ofT] at h
    | cons q kvs =>
      simp only [ofT, List.map_cons, List.cons.injEq] at h
      exact absurd h.1.symm (keyD_T _ _)

/-! ### dicts in the heap -/
section
variable {K : PySem.W.Frag} {Z : ClT} {H H' : Hp} {T : List Addr} {R R' : List Root}
theorem Den.keyD {k : Key} {v : V} {G : Ft} (h : Den K H (Lk.keyD k) v G) : v = kV k := by
  cases k with
  | inl i => cases h; rfl
  | inr x => cases h; rfl
theorem DenL.keysD : ∀ {ks : List Key} {vs : List V} {G : Ft}, DenL K H (ks.map Lk.keyD) vs G → vs = ks.map kV
  | [], _, _, h => by cases h; rfl
  | k :: ks, _, _, h => by
    cases h with
    | cons h1 h2 => rw [h1.keyD, DenL.keysD h2]; rfl
theorem Den.keyT {k : List Key} {v : V} {G : Ft} (h : Den K H (Lk.keyT k) v G) : ∃ b, v = .ref b ∧ H b = some (.tup (k.map kV)) := by
  cases h with
  | tup h1 h2 => exact ⟨_, rfl, by rw [h1, h2.keysD]⟩
theorem Sim.keyD {n : Nat} {k : Key} {v : V} (h : Sim K Z H R) (hr : (⟨n, .d (Lk.keyD k), v⟩ : Root) ∈ R) : v = kV k := by
  obtain ⟨G, hd⟩ := h.den hr
  cases hd with
  | d hd => exact hd.keyD
theorem Sim.keyT {n : Nat} {k : List Key} {v : V} (h : Sim K Z H R) (hr : (⟨n, .d (Lk.keyT k), v⟩ : Root) ∈ R) : ∃ b, v = .ref b ∧ H b = some (.tup (k.map kV)) := by
  obtain ⟨G, hd⟩ := h.den hr
  cases hd with
  | d hd => exact hd.keyT
theorem Sim.openD {n : Nat} {qs : List (PyData × PyData)} {v : V} (h : Sim K Z H R) (hr : (⟨n, .d (.dict qs), v⟩ : Root) ∈ R) (hn : n ≤ 1) :
    ∃ a vs, v = .ref a ∧ DicAt H a (qs.map (·.1)) vs ∧ (qs.map (·.2)).length = vs.length ∧ Sim K Z H (kids 0 (qs.map (·.2)) vs ++ R) := by
  obtain ⟨F, hF, o⟩ := id h
  obtain ⟨G, hd, q⟩ := hF.mem hr
  cases hd with
  | d hd =>
    cases hd with
    | @dic _ _ _ _ G' h1 h2 h3 =>
      refine ⟨_, _, rfl, h2 ▸ h1, h3.length, _, (SimF.kids hF.tab h3).join hF, o.more fun p hp => ?_⟩
      have q' : ∀ p ∈ tag n (up G'), p ∈ F := fun p hp => q p (by rw [tag_cons]; exact List.mem_cons_of_mem _ hp)
      exact tag0_in (G := up G') q' (fun p hp => Nat.le_trans hn (mem_up hp)) p (by rw [tag0_up]; exact hp)
theorem Sim.seeD {n : Nat} {qs : List (PyData × PyData)} {v : V} (h : Sim K Z H R) (hr : (⟨n, .d (.dict qs), v⟩ : Root) ∈ R) :
    ∃ a vs, v = .ref a ∧ DicAt H a (qs.map (·.1)) vs ∧ (qs.map (·.2)).length = vs.length := by
  obtain ⟨G, hd⟩ := h.den hr
  cases hd with
  | d hd =>
    cases hd with
    | dic h1 h2 h3 => exact ⟨_, _, rfl, h2 ▸ h1, h3.length⟩
theorem Sim.apartD {n : Nat} {qs : List (PyData × PyData)} {v : V} (h : Sim K Z H (⟨n + 1, .d (.dict qs), v⟩ :: R)) :
    ∃ a vs, v = .ref a ∧ DicAt H a (qs.map (·.1)) vs ∧ (qs.map (·.2)).length = vs.length ∧ SimT K Z H [a] (kids n (qs.map (·.2)) vs ++ R) := by
  obtain ⟨F, ⟨G, F1, hd, hF, rfl⟩, o⟩ := h
  cases hd with
  | d hd =>
    cases hd with
    | dic h1 h2 h3 =>
      refine ⟨_, _, rfl, h2 ▸ h1, h3.length, _, (SimF.kids hF.tab h3).join hF, ?_⟩
      rw [tag_cons, tag_up] at o
      exact o
theorem DicAt.notTup {a : Addr} {ks : List PyData} {vs : List V} (h : DicAt H a ks vs) : (∀ us, H a ≠ some (.tup us)) ∧ (∀ o u, H a ≠ some (.frz o u)) ∧ (∀ ps, H a ≠ some (.tbl ps)) ∧ ∀ f, H a ≠ some (.ext f) := by
  rcases h with ⟨kvs, q, _⟩ | ⟨kvs, q, _⟩ <;> exact ⟨(fun us e => by rw [q] at e; cases e), (fun o u e => by rw [q] at e; cases e), (fun o e => by rw [q] at e; cases e), (fun o e => by rw [q] at e; cases e)⟩
theorem SimT.closeD {n : Nat} {a : Addr} {qs : List (PyData × PyData)} {vs ws : List V} {ks : List PyData} {ob : HO} (h : SimT K Z H [a] (kids n (qs.map (·.2)) vs ++ R)) (e : (qs.map (·.2)).length = vs.length) (ha : DicAt H a ks ws) (hn : DicAt (upd H a ob) a (qs.map (·.1)) vs) :
    Sim K Z (upd H a ob) (⟨n + 1, .d (.dict qs), .ref a⟩ :: R) := by
  have h2 := h.write (ob := ob) ha.notTup.1 ha.notTup.2.1 ha.notTup.2.2.1 ha.notTup.2.2.2
  obtain ⟨F, hF, o⟩ := h2
  obtain ⟨F1, F2, q1, q2, rfl⟩ := hF.append
  obtain ⟨G, hl, rfl⟩ := q1.ofKids e
  refine ⟨(a, true) :: (tag n G ++ F2), ⟨(a, 0) :: up G, F2, .d (.dic hn rfl hl), q2, ?_⟩, o⟩
  rw [tag_cons, tag_up]
  rfl
/-- {} -/
theorem Sim.mkD {n : Nat} {p : Addr} (h : Sim K Z H R) (hp : H p = none) : Sim K Z (upd H p (.dK [])) (⟨n + 1, .d (.dict []), .ref p⟩ :: R) := by
  obtain ⟨F, hF, o⟩ := h.fresh (ob := .dK []) hp
  refine ⟨(p, true) :: F, ⟨[(p, 0)], F, .d (.dic (G := []) (.inl ⟨[], upd_same, rfl, rfl⟩) rfl .nil), hF, ?_⟩, o⟩
  rw [tag_cons]; rfl
end
section
variable {X : Cx} {pins : List (Addr × Obj)} {σ : St} {H : Hp} {s : Shared} {a : Addr} {A : Around} {E : Value → Shared → Prop}
/-- the empty dict is of either kind -/
theorem d_toT (I : Inv X pins σ H s) (e : H a = some (.dK [])) : Inv X pins σ (upd H a (.dT [])) s := by
  obtain ⟨z, hd, vs, rel, o, es, ep, h1, h2, h3, _, h4, _⟩ := dk_of I.hok e
  have e2 : vs = [] := by cases rel; rfl
  subst e2
  have e3 : es.toList = [] := by
    generalize es.toList = l at h4
    cases h4; rfl
  exact d_write (t' := s.toks) I (by rw [e]; exact True.intro) (Heap.SameBut.refl _ _) ⟨o, h1⟩ ⟨Nat.zero_le _, hd, [], .nil, o, es, ep, h1, h2, h3, by rw [e3]; rfl, List.nodup_nil⟩
theorem d_toK (I : Inv X pins σ H s) (e : H a = some (.dT [])) : Inv X pins σ (upd H a (.dK [])) s := by
  obtain ⟨z, hd, xs, rel, o, es, ep, h1, h2, h3, h4, _⟩ := dt_of I.hok e
  have e2 : xs = [] := by cases rel; rfl
  subst e2
  have e3 : es = #[] := by
    apply Array.ext'
    exact h4
  subst e3
  have new : Heap.DictOf (mixKind X.prog X.w) s.heap a [] := by
    exact ⟨o, #[], ep, h1, h2, h3, (fun _ he => by simp at he), Pairs.nil, List.nodup_nil⟩
  exact d_write (t' := s.toks) I (by rw [e]; exact True.intro) (Heap.SameBut.refl _ _) ⟨o, h1⟩ (dk_new (Nat.zero_le _) hd .nil new)
theorem upd_back {o u : HO} (e : H a = some o) : upd (upd H a u) a o = H := by
  funext b
  by_cases hb : b = a
  · subst hb; rw [upd_same, e]
  · rw [upd_ne hb, upd_ne hb]
def rSetD : TSet := fun o i v H Q => ∃ a, o = V.ref a ∧
  ((∃ (kvs : List (Key × V)) (k : Key), (H a = some (.dK kvs) ∨ (H a = some (.dT []) ∧ kvs = [])) ∧ i = kV k ∧ kvs.length < sizeLine ∧ ((kvs.map (·.1)).Nodup → Q (upd H a (.dK (putK kvs k v))))) ∨
   ∃ (kvs : List (List Key × V)) (k : List Key) (b : Addr), (H a = some (.dT kvs) ∨ (H a = some (.dK []) ∧ kvs = [])) ∧ i = .ref b ∧ H b = some (.tup (k.map kV)) ∧ kvs.length < sizeLine ∧ ((kvs.map (·.1)).Nodup → Q (upd H a (.dT (putK kvs k v)))))
theorem dk_nodup {kvs : List (Key × V)} (I : Inv X pins σ H s) (e : H a = some (.dK kvs)) : (kvs.map (·.1)).Nodup := by
  obtain ⟨z, hd, vs, rel, o, es, ep, h1, h2, h3, _, h4, nd⟩ := dk_of I.hok e
  rw [rel.keys]; exact nd
theorem dt_keys {H : Hp} {kvs : List (List Key × V)} {xs : List (List Key × Addr × Value)} (r : KT H kvs xs) : kvs.map (·.1) = xs.map (·.1) := by
  induction r with
  | nil => rfl
  | cons h t ih => rw [List.map_cons, List.map_cons, h.1, ih]
theorem dt_nodup {kvs : List (List Key × V)} (I : Inv X pins σ H s) (e : H a = some (.dT kvs)) : (kvs.map (·.1)).Nodup := by
  obtain ⟨z, hd, xs, rel, o, es, ep, h1, h2, h3, h4, nd⟩ := (show ObjOk X.prog X.w H s.heap a (.dT kvs) from rd_of I.hok (.inl e))
  rw [dt_keys rel]; exact nd
theorem set_dict (hu : X.A.units + 1 < cLine) : PSet X rSetD := by
  intro pins s σ H o i v ov iv u Q I ro ri rv h
  obtain ⟨a, rfl, h⟩ := h
  obtain rfl : ov = Value.ref a := ro
  rcases h with ⟨kvs, k, e, rfl, hl, q⟩ | ⟨kvs, k, b, e, rfl, eb, hl, q⟩
  · rcases e with e | ⟨e, rfl⟩
    · exact d_setItem hu I (DPut.k e hl) ri rv fun s' I' => ⟨_, I', q (dk_nodup I e)⟩
    · refine d_setItem hu (d_toK I e) (DPut.k upd_same hl) ri rv fun s' I' => ⟨_, I', ?_⟩
      rw [upd_upd]; exact q List.nodup_nil
  · rcases e with e | ⟨e, rfl⟩
    · exact d_setItem hu I (DPut.t e eb hl) ri rv fun s' I' => ⟨_, I', q (dt_nodup I e)⟩
    · refine d_setItem hu (d_toT I e) (DPut.t upd_same (by rw [upd_ne (ne_of eb e (fun z => nomatch z))]; exact eb) hl) ri rv fun s' I' => ⟨_, I', ?_⟩
      rw [upd_upd]; exact q List.nodup_nil
/-- d[y], there -/
def rIxD : R2 := fun x y H Q => ∃ a v, x = .ref a ∧ DGet H a y (some v) ∧ Q v H
theorem ix_dict (hu : X.A.units + 3 < cLine) : IxR X rIxD := by
  intro vl sl pins s σ H x y v u Q I rx ry h hs
  obtain ⟨a, z, rfl, g, q⟩ := h
  obtain rfl : v = Value.ref a := rx
  have hT := dict_typeIs I g
  unfold PyProof.Rows.subscriptTail
  refine wpAny_bind ?_
  rw [getitemInPython_of_ne hT.not_modules]
  refine wpAny_bind (wpAny_specialOf hT PySem.F.slot_dict_getitem.lookup ?_)
  have fin : wpAny (model X.prog X.w) X.A (subscripted sl false (.ref a) u) (fun r s₃ => wpAny (model X.prog X.w) X.A (letTemporaryGo vl (.ref a) r >>= fun _ => pure r) (EP X pins σ Q) X.xe s₃) X.xe s := by
    rw [hs]
    exact wpAny_operating (d_getItem (by omega) I g ry fun w' s' I' rw' => wpAny_bind (wpAny_letTemporaryGo (wpAny_pure ⟨z, H, I', rw', q⟩)))
  first
    | exact wpAny_pure (wpAny_bind fin)
    | exact wpAny_bind (wpAny_pure (wpAny_bind fin))
    | exact wpAny_bind fin
end
section
variable {X : Cx} {Z : ClT} {H : Hp} {R : List Root}
/-- what the heap's dict holds at a key -/
def DHas (H : Hp) (a : Addr) (y : V) (b : Bool) : Prop := (∃ o : Option V, DGet H a y o ∧ o.isSome = b) ∨ (b = false ∧ H a = some (.dT []) ∧ ∃ k : Key, y = kV k) ∨ (b = false ∧ H a = some (.dK []) ∧ ∃ (k : List Key) (c : Addr), y = V.ref c ∧ H c = some (.tup (k.map kV)))
theorem dgetP_cases {qs : List (PyData × PyData)} {k : PyData} {r : Option PyData} (h : dgetP qs k = some r) :
    (∃ k' l, k = keyD k' ∧ qs = ofK l ∧ r = valG l k') ∨ ∃ k' l, k = keyT k' ∧ qs = ofT l ∧ r = valG l k' := by
  unfold dgetP at h
  split at h
  · rename_i k' e
    obtain ⟨l, q, rfl⟩ := Option.map_eq_some_iff.mp h
    exact .inl ⟨k', l, unK_eq e, asK_eq q, rfl⟩
  · split at h
    · rename_i k' e
      obtain ⟨l, q, rfl⟩ := Option.map_eq_some_iff.mp h
      exact .inr ⟨k', l, unT_eq e, asT_eq q, rfl⟩
    · cases h
theorem ofK_snd (l : List (Key × PyData)) : (ofK l).map (·.2) = l.map (·.2) := by unfold ofK; rw [List.map_map]; rfl
theorem ofT_snd (l : List (List Key × PyData)) : (ofT l).map (·.2) = l.map (·.2) := by unfold ofT; rw [List.map_map]; rfl
theorem Sim.dget {n m : Nat} {qs : List (PyData × PyData)} {k d : PyData} {x y : V} (S : Sim X.K Z H R) (h1 : (⟨n, .d (.dict qs), x⟩ : Root) ∈ R) (h2 : (⟨m, .d k, y⟩ : Root) ∈ R) (hn : n ≤ 1) (h : dgetP qs k = some (some d)) :
    ∃ a v, x = .ref a ∧ DGet H a y (some v) ∧ Sim X.K Z H (⟨0, .d d, v⟩ :: R) := by
  obtain ⟨a, vs, rfl, q1, q2, q3⟩ := S.openD h1 hn
  rcases dgetP_cases h with ⟨k', l, rfl, rfl, e⟩ | ⟨k', l, rfl, rfl, e⟩
  · have ey := S.keyD h2
    rw [ofK_snd] at q2 q3
    rcases q1 with ⟨kvs, g1, g2, rfl⟩ | ⟨kvs, g1, g2, rfl⟩
    · obtain ⟨i, v, e1, e2, e3⟩ := valG_at k' (keysK g2) e.symm
      exact ⟨a, v, rfl, .inl ⟨kvs, k', .of g1, ey, e3.symm⟩, q3.kid e1 e2⟩
    · obtain ⟨rfl, rfl⟩ := keysKT g2
      cases e
  · obtain ⟨b, ey, eb⟩ := S.keyT h2
    rw [ofT_snd] at q2 q3
    rcases q1 with ⟨kvs, g1, g2, rfl⟩ | ⟨kvs, g1, g2, rfl⟩
    · obtain ⟨rfl, rfl⟩ := keysTK g2
      cases e
    · obtain ⟨i, v, e1, e2, e3⟩ := valG_at k' (keysT g2) e.symm
      exact ⟨a, v, rfl, .inr ⟨kvs, k', b, .of g1, ey, eb, e3.symm⟩, q3.kid e1 e2⟩
theorem Sim.openZ {n : Nat} {qs : List (PyData × PyData)} {v : V} (h : Sim X.K Z H R) (hr : (⟨n, .z qs, v⟩ : Root) ∈ R) (hn : n ≤ 1) :
    ∃ a vs, v = .ref a ∧ DicZ H a (qs.map (·.1)) vs ∧ (qs.map (·.2)).length = vs.length ∧ Sim X.K Z H (kids 0 (qs.map (·.2)) vs ++ R) := by
  obtain ⟨F, hF, o⟩ := id h
  obtain ⟨G, hd, q⟩ := hF.mem hr
  cases hd with
  | @z _ _ _ _ G' h1 h2 h3 =>
    refine ⟨_, _, rfl, h2 ▸ h1, h3.length, _, (SimF.kids hF.tab h3).join hF, o.more fun p hp => ?_⟩
    exact tag0_in (G := up G') q (fun p hp => Nat.le_trans hn (mem_up hp)) p (by rw [tag0_up]; exact hp)
theorem Sim.dgetZ {n m : Nat} {qs : List (PyData × PyData)} {k d : PyData} {x y : V} (S : Sim X.K Z H R) (h1 : (⟨n, .z qs, x⟩ : Root) ∈ R) (h2 : (⟨m, .d k, y⟩ : Root) ∈ R) (hn : n ≤ 1) (h : dgetP qs k = some (some d)) :
    ∃ a v, x = .ref a ∧ DGet H a y (some v) ∧ Sim X.K Z H (⟨0, .d d, v⟩ :: R) := by
  obtain ⟨a, vs, rfl, q1, q2, q3⟩ := S.openZ h1 hn
  rcases dgetP_cases h with ⟨k', l, rfl, rfl, e⟩ | ⟨k', l, rfl, rfl, e⟩
  · have ey := S.keyD h2
    rw [ofK_snd] at q2 q3
    rcases q1 with ⟨od, kvs, g1, g2, rfl⟩ | ⟨od, kvs, g1, g2, rfl⟩
    · obtain ⟨i, v, e1, e2, e3⟩ := valG_at k' (keysK g2) e.symm
      exact ⟨a, v, rfl, .inl ⟨kvs, k', .inr ⟨od, g1⟩, ey, e3.symm⟩, q3.kid e1 e2⟩
    · obtain ⟨rfl, rfl⟩ := keysKT g2
      cases e
  · obtain ⟨b, ey, eb⟩ := S.keyT h2
    rw [ofT_snd] at q2 q3
    rcases q1 with ⟨od, kvs, g1, g2, rfl⟩ | ⟨od, kvs, g1, g2, rfl⟩
    · obtain ⟨rfl, rfl⟩ := keysTK g2
      cases e
    · obtain ⟨i, v, e1, e2, e3⟩ := valG_at k' (keysT g2) e.symm
      exact ⟨a, v, rfl, .inr ⟨kvs, k', b, .inr ⟨od, g1⟩, ey, eb, e3.symm⟩, q3.kid e1 e2⟩
theorem Sim.dhas {n m : Nat} {qs : List (PyData × PyData)} {k : PyData} {r : Option PyData} {x y : V} (S : Sim X.K Z H R) (h1 : (⟨n, .d (.dict qs), x⟩ : Root) ∈ R) (h2 : (⟨m, .d k, y⟩ : Root) ∈ R) (h : dgetP qs k = some r) :
    ∃ a, x = .ref a ∧ DHas H a y r.isSome := by
  obtain ⟨a, vs, rfl, q1, q2⟩ := S.seeD h1
  refine ⟨a, rfl, ?_⟩
  rcases dgetP_cases h with ⟨k', l, rfl, rfl, e⟩ | ⟨k', l, rfl, rfl, e⟩
  · have ey := S.keyD h2
    rcases q1 with ⟨kvs, g1, g2, rfl⟩ | ⟨kvs, g1, g2, rfl⟩
    · refine .inl ⟨valG kvs k', .inl ⟨kvs, k', .of g1, ey, rfl⟩, ?_⟩
      rw [e, valG_some, valG_some, any_keys k' (keysK g2)]
    · obtain ⟨rfl, rfl⟩ := keysKT g2
      exact .inr (.inl ⟨by rw [e]; rfl, g1, k', ey⟩)
  · obtain ⟨b, ey, eb⟩ := S.keyT h2
    rcases q1 with ⟨kvs, g1, g2, rfl⟩ | ⟨kvs, g1, g2, rfl⟩
    · obtain ⟨rfl, rfl⟩ := keysTK g2
      exact .inr (.inr ⟨by rw [e]; rfl, g1, k', b, ey, eb⟩)
    · refine .inl ⟨valG kvs k', .inr ⟨kvs, k', b, .of g1, ey, eb, rfl⟩, ?_⟩
      rw [e, valG_some, valG_some, any_keys k' (keysT g2)]
theorem dhas_in {pins : List (Addr × Obj)} {σ : St} {s : Shared} {a : Addr} {A : Around} {E : Value → Shared → Prop} {y : V} {u : Value} {b : Bool} {Q : Value → Shared → Prop} (hu : A.units + 1 < cLine) (I : Inv X pins σ H s) (g : DHas H a y b) (ry : RelV y u)
    (h : ∀ s', Inv X pins σ H s' → Q (.bool b) s') : wpAny (model X.prog X.w) A (compareOp .In u (.ref a)) Q E s := by
  rcases g with ⟨o, g, e⟩ | ⟨rfl, e, k, rfl⟩ | ⟨rfl, e, k, c, rfl, ec⟩
  · refine d_in hu I g ry fun s' I' => ?_
    rw [e]; exact h s' I'
  · refine d_in hu (d_toK I e) (DGet.k (k := k) upd_same) ry fun s' I' => h s' ?_
    have := d_toT I' upd_same
    rwa [upd_back e] at this
  · refine d_in hu (d_toT I e) (DGet.t (k := k) upd_same (by rw [upd_ne (ne_of ec e (fun z => nomatch z))]; exact ec)) ry fun s' I' => h s' ?_
    have := d_toK I' upd_same
    rwa [upd_back e] at this
theorem dhas_notIn {pins : List (Addr × Obj)} {σ : St} {s : Shared} {a : Addr} {A : Around} {E : Value → Shared → Prop} {y : V} {u : Value} {b : Bool} {Q : Value → Shared → Prop} (hu : A.units + 1 < cLine) (I : Inv X pins σ H s) (g : DHas H a y b) (ry : RelV y u)
    (h : ∀ s', Inv X pins σ H s' → Q (.bool !b) s') : wpAny (model X.prog X.w) A (compareOp .NotIn u (.ref a)) Q E s := by
  rcases g with ⟨o, g, e⟩ | ⟨rfl, e, k, rfl⟩ | ⟨rfl, e, k, c, rfl, ec⟩
  · refine d_notIn hu I g ry fun s' I' => ?_
    rw [e]; exact h s' I'
  · refine d_notIn hu (d_toK I e) (DGet.k (k := k) upd_same) ry fun s' I' => h s' ?_
    have := d_toT I' upd_same
    rwa [upd_back e] at this
  · refine d_notIn hu (d_toT I e) (DGet.t (k := k) upd_same (by rw [upd_ne (ne_of ec e (fun z => nomatch z))]; exact ec)) ry fun s' I' => h s' ?_
    have := d_toK I' upd_same
    rwa [upd_back e] at this
end
end Lk
namespace Lk
open PySem PySem.Spec L2

abbrev big : Nat := 1000000
theorem big_line {n : Nat} (h : n ≤ big) : n ≤ sizeLine := by rw [sizeLine_eq]; unfold big at h; omega
def lift2 (g : PyData → PyData → Option PyData) : DV → DV → Option DV
  | .d x, .d y => (g x y).map .d
  | _, _ => none
def lift1 (g : PyData → Option PyData) : DV → Option DV
  | .d x => (g x).map .d
  | _ => none

/-! ### the operations -/
def addP : PyData → PyData → Option PyData
  | .int i, .int j => some (.int (i + j))
  | .str x, .str y => if x.length + y.length ≤ big then some (.str (x ++ y)) else none
  | .list xs, .list ys => if xs.length + ys.length ≤ big then some (.list (xs ++ ys)) else none
  | .tuple xs, .tuple ys => if xs.length + ys.length ≤ big then some (.tuple (xs ++ ys)) else none
  | _, _ => none
def subP : PyData → PyData → Option PyData
  | .int i, .int j => some (.int (i - j))
  | _, _ => none
def mulP : PyData → PyData → Option PyData
  | .int i, .int j => if (-(2 ^ 64) < i ∧ i < 2 ^ 64) ∨ (-(2 ^ 64) < j ∧ j < 2 ^ 64) then some (.int (i * j)) else none
  | _, _ => none
def mulQ : PyData → PyData → Option PyData
  | .list xs, .int k => if -(2 ^ 63) ≤ k ∧ k < 2 ^ 63 ∧ xs.length * k.toNat ≤ big then some (.list (List.replicate k.toNat xs).flatten) else none
  | x, y => mulP x y
def divP : PyData → PyData → Option PyData
  | .int i, .int j => if 0 < j ∧ j < 1073741824 then some (.int (i / j)) else none
  | _, _ => none
def modP : PyData → PyData → Option PyData
  | .int i, .int j => if 0 < j then some (.int (i % j)) else none
  | _, _ => none
def powP : PyData → PyData → Option PyData
  | .int i, .int j => if 0 ≤ j ∧ j ≤ 1000000 ∧ i.natAbs < 2 ^ 64 then some (.int (i ^ j.toNat)) else none
  | _, _ => none
def shlP : PyData → PyData → Option PyData
  | .int i, .int j => if 0 ≤ j ∧ j ≤ 1000000 ∧ i.natAbs < 2 ^ 64 then some (.int (i * 2 ^ j.toNat)) else none
  | _, _ => none
def shrP : PyData → PyData → Option PyData
  | .int i, .int j => if 0 ≤ j then some (.int (i / 2 ^ j.toNat)) else none
  | _, _ => none
def andP : PyData → PyData → Option PyData
  | .int i, .int j => some (.int (Builtin.bitAnd i j))
  | _, _ => none
def borP : PyData → PyData → Option PyData
  | .int i, .int j => some (.int (Builtin.bitOr i j))
  | _, _ => none
def xorP : PyData → PyData → Option PyData
  | .int i, .int j => some (.int (Builtin.bitXor i j))
  | _, _ => none
/-- two texts -/
def bothS : PyData → PyData → Bool
  | .str _, .str _ => true
  | _, _ => false
def eqP (x y : PyData) : Option PyData := if bothS x y || (SeqAt.shaped x && SeqAt.shaped y) then some (.bool (PyData.eqv x y)) else none
def neP (x y : PyData) : Option PyData := if bothS x y || (SeqAt.shaped x && SeqAt.shaped y) then some (.bool (!PyData.eqv x y)) else none
theorem bothS_eq {x y : PyData} (h : bothS x y = true) : ∃ a b, x = .str a ∧ y = .str b := by
  unfold bothS at h
  split at h
  · exact ⟨_, _, rfl, rfl⟩
  · cases h
theorem eqv_strs {a b : Str} : PyData.eqv (.str a) (.str b) = decide (V.str a = V.str b) := by
  rw [dec_str]
  simp [PyData.eqv]
def inP (x : PyData) : PyData → Option PyData
  | .list ys => if SeqAt.shaped x && SeqAt.shaped (.list ys) then some (.bool (ys.any fun z => PyData.eqv z x)) else none
  | .tuple ys => if SeqAt.shaped x && SeqAt.shaped (.tuple ys) then some (.bool (ys.any fun z => PyData.eqv z x)) else none
  | .str y => match x with
    | .str x => some (.bool (!(Builtin.Str.occurrences y x 0 y.length 1).isEmpty))
    | _ => none
  | .dict qs => (dgetP qs x).map fun o => .bool o.isSome
  | _ => none
def notP : PyData → Option PyData
  | .bool b => some (.bool (!b))
  | _ => none
def notInP (x y : PyData) : Option PyData := (inP x y).bind notP
def isP : PyData → PyData → Option PyData
  | x, .none => match x with
    | .none => some (.bool true)
    | _ => some (.bool false)
  | .bool a, .bool b => some (.bool (decide (a = b)))
  | _, _ => none
def isNotP (x y : PyData) : Option PyData := (isP x y).bind notP
/-- the index of a place, from behind if below 0 -/
def ixP : PyData → PyData → Option PyData
  | .list xs, .int i => atI xs i
  | .tuple xs, .int i => atI xs i
  | .str x, .int i => if x.length ≤ big then (atI x.cps.toList i).map fun c => .str ⟨#[c]⟩ else none
  | .dict qs, k => (dgetP qs k).bind id
  | _, _ => none
def ixD : DV → DV → Option DV
  | .s ns, .d (.int i) => (atI ns i).map fun n => .d (.int n)
  | .d x, .d y => (ixP x y).map .d
  | .z qs, .d k => ((dgetP qs k).bind id).map .d
  | _, _ => none

section
variable {X : Cx} {Z : ClT} {H H' : Hp} {R : List Root}
theorem opd_lift {F : Value → Value → Sem Value} {g : PyData → PyData → Option PyData} {cap k : Nat}
    (h : ∀ (pins : List (Addr × Obj)) (s : Shared) (σ : St) (H : Hp) (x y : V) (v u : Value) (Q : VK) (p q r : PyData) (R : List Root) (n m : Nat), Inv X pins σ H s → RelV x v → RelV y u → Sim X.K Z H R → (⟨n, .d p, x⟩ : Root) ∈ R → (⟨m, .d q, y⟩ : Root) ∈ R →
      n ≤ cap → m ≤ cap → g p q = some r → (∀ w H', Sim X.K Z H' (⟨k, .d r, w⟩ :: R) → Q w H') → wpAny (model X.prog X.w) X.A (F v u) (EP X pins σ Q) X.xe s) : OpD X Z F (lift2 g) cap k := by
  intro pins s σ H x y v u Q I rx ry ⟨R, d, e, n, m, r, S, h1, h2, hn, hm, hg, hq⟩
  cases d with
  | d p =>
    cases e with
    | d q =>
      have hg : (g p q).map DV.d = some r := hg
      cases q3 : g p q with
      | none => rw [q3] at hg; cases hg
      | some r' =>
        rw [q3] at hg
        cases hg
        exact h pins s σ H x y v u Q p q r' R n m I rx ry S h1 h2 hn hm q3 hq
    | _ => cases hg
  | _ => cases hg
theorem Sim.cint {k : Nat} {i : Int} (S : Sim X.K Z H R) : Sim X.K Z H (⟨k, .d (.int i), .int i⟩ :: R) := S.scal (.d (.int i))
theorem Sim.cbl {k : Nat} {i : Bool} (S : Sim X.K Z H R) : Sim X.K Z H (⟨k, .d (.bool i), .bl i⟩ :: R) := S.scal (.d (.bl i))
theorem Sim.cstr {k : Nat} {i : Str} (S : Sim X.K Z H R) : Sim X.K Z H (⟨k, .d (.str i), .str i⟩ :: R) := S.scal (.d (.str i))
theorem kids_append {m : Nat} : ∀ {ds es : List PyData} {vs us : List V}, ds.length = vs.length → kids m (ds ++ es) (vs ++ us) = kids m ds vs ++ kids m es us := fun {ds es vs us} h => by
  unfold kids
  exact List.zipWith_append h

theorem op_addD : OpD X Z (binaryOp .Add) (lift2 addP) 1 1 := opd_lift fun pins s σ H x y v u Q p q r R n m I rx ry S h1 h2 hn hm hg hq => by
  cases p with
  | int i =>
    cases q with
    | int j =>
      cases hg
      rw [S.int h1] at rx; rw [S.int h2] at ry
      exact op_add pins s σ H _ _ v u Q I rx ry ⟨i, j, rfl, rfl, hq _ _ S.cint⟩
    | _ => cases hg
  | str a =>
    cases q with
    | str b =>
      have hg : (if a.length + b.length ≤ big then some (PyData.str (a ++ b)) else none) = some r := hg
      split at hg
      · rename_i hl
        cases hg
        rw [S.str h1] at rx; rw [S.str h2] at ry
        exact op_add_str pins s σ H _ _ v u Q I rx ry ⟨a, b, rfl, rfl, big_line hl, hq _ _ S.cstr⟩
      · cases hg
    | _ => cases hg
  | list a =>
    cases q with
    | list b =>
      have hg : (if a.length + b.length ≤ big then some (PyData.list (a ++ b)) else none) = some r := hg
      split at hg
      · rename_i hl
        cases hg
        obtain ⟨l1, vs1, rfl, e1, n1, S1⟩ := S.openL h1 hn
        obtain ⟨l2, vs2, rfl, e2, n2, S2⟩ := S1.openL (List.mem_append_right _ h2) hm
        refine op_cat pins s σ H _ _ v u Q I rx ry ⟨l1, l2, vs1, vs2, rfl, rfl, e1, e2, big_line (by omega), fun p hp => hq _ _ ?_⟩
        refine Sim.mkL (n := 0) (S2.perm ?_) (by simp [n1, n2]) hp
        rw [kids_append n1, ← List.append_assoc]
        exact List.Perm.append_right _ List.perm_append_comm
      · cases hg
    | _ => cases hg
  | tuple a =>
    cases q with
    | tuple b =>
      have hg : (if a.length + b.length ≤ big then some (PyData.tuple (a ++ b)) else none) = some r := hg
      split at hg
      · rename_i hl
        cases hg
        obtain ⟨l1, vs1, rfl, e1, n1, S1⟩ := S.openT h1 hn
        obtain ⟨l2, vs2, rfl, e2, n2, S2⟩ := S1.openT (List.mem_append_right _ h2) hm
        refine op_catA pins s σ H _ _ v u Q I rx ry ⟨l1, l2, vs1, vs2, rfl, rfl, e1, e2, big_line (by omega), fun z => ?_, fun z z2 => ?_, fun _ _ p hp => hq _ _ ?_⟩
        · subst z
          have : a = [] := List.eq_nil_of_length_eq_zero n1
          subst this
          exact hq _ _ (S.again h2 hm)
        · subst z2
          have : b = [] := List.eq_nil_of_length_eq_zero n2
          subst this
          rw [List.append_nil] at hq
          exact hq _ _ (S.again h1 hn)
        · refine Sim.mkT (n := 0) (S2.perm ?_) (by simp [n1, n2]) hp
          rw [kids_append n1, ← List.append_assoc]
          exact List.Perm.append_right _ List.perm_append_comm
      · cases hg
    | _ => cases hg
  | _ => cases hg

/-! ### ints -/
theorem opd_int {F : Value → Value → Sem Value} {g : PyData → PyData → Option PyData} {C : Int → Int → Prop} {h : Int → Int → Int} {k : Nat} (ho : OpR X F (rI C fun i j => .int (h i j)))
    (hg : ∀ p q r, g p q = some r → ∃ i j, p = .int i ∧ q = .int j ∧ C i j ∧ r = .int (h i j)) : OpD X Z F (lift2 g) 9 k := opd_lift fun pins s σ H x y v u Q p q r R n m I rx ry S h1 h2 hn hm hgr hq => by
  obtain ⟨i, j, rfl, rfl, hc, rfl⟩ := hg _ _ _ hgr
  rw [S.int h1] at rx; rw [S.int h2] at ry
  exact ho pins s σ H _ _ v u Q I rx ry ⟨i, j, rfl, rfl, hc, hq _ _ S.cint⟩
theorem rI_of0 {F : Value → Value → Sem Value} {h : Int → Int → V} (ho : OpR X F (rI0 h)) : OpR X F (rI (fun _ _ => True) h) := fun pins s σ H x y v u Q I rx ry ⟨i, j, e1, e2, _, q⟩ => ho pins s σ H x y v u Q I rx ry ⟨i, j, e1, e2, q⟩
theorem op_subD : OpD X Z (binaryOp .Sub) (lift2 subP) 9 9 := opd_int (rI_of0 op_sub) fun p q r h => by
  unfold subP at h
  split at h
  · cases h; exact ⟨_, _, rfl, rfl, trivial, rfl⟩
  · cases h
theorem op_mulD : OpD X Z (binaryOp .Mult) (lift2 mulP) 9 9 := opd_int op_mul fun p q r h => by
  unfold mulP at h
  split at h
  · split at h
    · rename_i hc
      cases h; exact ⟨_, _, rfl, rfl, hc, rfl⟩
    · cases h
  · cases h
theorem rep_kids {a : Addr} {n : Nat} {xs : List PyData} {vs : List V} (S : Sim X.K Z H R) (h : (⟨n, .d (.list xs), .ref a⟩ : Root) ∈ R) (hn : n ≤ 1) (ha : H a = some (.lst vs)) : ∀ k : Nat, Sim X.K Z H (kids 0 (List.replicate k xs).flatten (List.replicate k vs).flatten ++ R) ∧ ((List.replicate k xs).flatten).length = ((List.replicate k vs).flatten).length
  | 0 => ⟨S, rfl⟩
  | k + 1 => by
    obtain ⟨q1, q2⟩ := rep_kids S h hn ha k
    obtain ⟨a', vs', e, h1, hl, S2⟩ := q1.openL (List.mem_append_right _ h) hn
    cases e
    rw [ha] at h1
    cases h1
    rw [List.replicate_succ, List.replicate_succ, List.flatten_cons, List.flatten_cons, kids_append hl, List.append_assoc]
    exact ⟨S2, by rw [List.length_append, List.length_append, hl, q2]⟩
theorem op_mulDD : OpD X Z (binaryOp .Mult) (lift2 mulQ) 1 1 := opd_lift fun pins s σ H x y v u Q p q r R n m I rx ry S h1 h2 hn hm hgr hq => by
  have viaI : mulP p q = some r → wpAny (model X.prog X.w) X.A (binaryOp .Mult v u) (EP X pins σ Q) X.xe s := fun hgr => by
    unfold mulP at hgr
    split at hgr
    · split at hgr
      · rename_i hc
        cases hgr
        rw [S.int h1] at rx; rw [S.int h2] at ry
        exact op_mul pins s σ H _ _ v u Q I rx ry ⟨_, _, rfl, rfl, hc, hq _ _ S.cint⟩
      · cases hgr
    · cases hgr
  unfold mulQ at hgr
  split at hgr
  · rename_i xs k
    split at hgr
    · rename_i hc
      cases hgr
      obtain ⟨a, vs, rfl, ha, hl⟩ := S.seeL h1
      rw [S.int h2] at ry
      obtain ⟨q1, q2⟩ := rep_kids S h1 hn ha k.toNat
      exact op_rep pins s σ H _ _ v u Q I rx ry ⟨a, k, vs, rfl, rfl, ha, hc.1, hc.2.1, by rw [← hl]; exact big_line hc.2.2, fun b hb => hq _ _ (Sim.mkL (n := 0) q1 q2 hb)⟩
    · cases hgr
  · exact viaI hgr
theorem op_divD : OpD X Z (binaryOp .FloorDiv) (lift2 divP) 9 9 := opd_int op_fdiv fun p q r h => by
  unfold divP at h
  split at h
  · split at h
    · rename_i hc
      cases h; exact ⟨_, _, rfl, rfl, hc, rfl⟩
    · cases h
  · cases h
theorem op_modD : OpD X Z (binaryOp .Mod) (lift2 modP) 9 9 := opd_int op_mod fun p q r h => by
  unfold modP at h
  split at h
  · split at h
    · rename_i hc
      cases h; exact ⟨_, _, rfl, rfl, hc, rfl⟩
    · cases h
  · cases h
theorem op_powD : OpD X Z (binaryOp .Pow) (lift2 powP) 9 9 := opd_int op_pow fun p q r h => by
  unfold powP at h
  split at h
  · split at h
    · rename_i hc
      cases h; exact ⟨_, _, rfl, rfl, hc, rfl⟩
    · cases h
  · cases h
theorem op_shlD : OpD X Z (binaryOp .LShift) (lift2 shlP) 9 9 := opd_int op_shl fun p q r h => by
  unfold shlP at h
  split at h
  · split at h
    · rename_i hc
      cases h; exact ⟨_, _, rfl, rfl, hc, rfl⟩
    · cases h
  · cases h
theorem op_shrD : OpD X Z (binaryOp .RShift) (lift2 shrP) 9 9 := opd_int op_shr fun p q r h => by
  unfold shrP at h
  split at h
  · split at h
    · rename_i hc
      cases h; exact ⟨_, _, rfl, rfl, hc, rfl⟩
    · cases h
  · cases h
theorem op_andD : OpD X Z (binaryOp .BitAnd) (lift2 andP) 9 9 := opd_int (rI_of0 op_and) fun p q r h => by
  unfold andP at h
  split at h
  · cases h; exact ⟨_, _, rfl, rfl, trivial, rfl⟩
  · cases h
theorem op_borD : OpD X Z (binaryOp .BitOr) (lift2 borP) 9 9 := opd_int (rI_of0 op_or) fun p q r h => by
  unfold borP at h
  split at h
  · cases h; exact ⟨_, _, rfl, rfl, trivial, rfl⟩
  · cases h
theorem op_xorD : OpD X Z (binaryOp .BitXor) (lift2 xorP) 9 9 := opd_int (rI_of0 op_xor) fun p q r h => by
  unfold xorP at h
  split at h
  · cases h; exact ⟨_, _, rfl, rfl, trivial, rfl⟩
  · cases h

/-! ### == != in -/
mutual
theorem Den.dp {K : PySem.W.Frag} {H : Hp} : ∀ {d : PyData} {v : V} {G : Ft}, Den K H d v G → d.canLay0 = true → Dp K H v d
  | _, _, _, .non, _ => .non
  | _, _, _, .bl b, _ => .bl b
  | _, _, _, .int i, _ => .int i
  | _, _, _, .str x, _ => .str x
  | _, _, _, .lst h1 h2, c => .lst (.of h1) (DenL.dp h2 (by simpa [PyData.canLay0] using c))
  | _, _, _, .tup h1 h2, c => .tup (.of h1) (DenL.dp h2 (by simpa [PyData.canLay0] using c))
  | _, _, _, .dic h1 h2 h3, c => absurd c (by simp [PyData.canLay0])
theorem DenL.dp {K : PySem.W.Frag} {H : Hp} : ∀ {ds : List PyData} {vs : List V} {G : Ft}, DenL K H ds vs G → PyData.canLayAll0 ds = true → DpAll K H vs ds
  | _, _, _, .nil, _ => .nil
  | _, _, _, .cons h1 h2, c => .cons (Den.dp h1 (by simp only [PyData.canLayAll0, Bool.and_eq_true] at c; exact c.1)) (DenL.dp h2 (by simp only [PyData.canLayAll0, Bool.and_eq_true] at c; exact c.2))
end
theorem Sim.dp {n : Nat} {d : PyData} {v : V} (S : Sim X.K Z H R) (h : (⟨n, .d d, v⟩ : Root) ∈ R) (hs : SeqAt.shaped d = true) : Dp X.K H v d := by
  obtain ⟨G, hd⟩ := S.den h
  cases hd with
  | d hd => exact hd.dp (SeqAt.canLay_of_shaped hs)
theorem op_eqDD (hu : X.A.units + 64 < cLine) : OpD X Z (compareOp .Eq) (lift2 eqP) 9 9 := opd_lift fun pins s σ H x y v u Q p q r R n m I rx ry S h1 h2 hn hm hg hq => by
  unfold eqP at hg
  split at hg
  · rename_i hs
    simp only [Bool.or_eq_true, Bool.and_eq_true] at hs
    cases hg
    rcases hs with hs | hs
    · obtain ⟨a, b, rfl, rfl⟩ := bothS_eq hs
      rw [S.str h1] at rx; rw [S.str h2] at ry
      exact op_eq pins s σ H _ _ v u Q I rx ry ⟨rfl, by rw [← eqv_strs]; exact hq _ _ S.cbl⟩
    exact op_eqD hu pins s σ H x y v u Q I rx ry ⟨p, q, S.dp h1 hs.1, S.dp h2 hs.2, hs.1, hs.2, hq _ _ S.cbl⟩
  · cases hg
theorem op_neDD (hu : X.A.units + 64 < cLine) : OpD X Z (compareOp .NotEq) (lift2 neP) 9 9 := opd_lift fun pins s σ H x y v u Q p q r R n m I rx ry S h1 h2 hn hm hg hq => by
  unfold neP at hg
  split at hg
  · rename_i hs
    simp only [Bool.or_eq_true, Bool.and_eq_true] at hs
    cases hg
    rcases hs with hs | hs
    · obtain ⟨a, b, rfl, rfl⟩ := bothS_eq hs
      rw [S.str h1] at rx; rw [S.str h2] at ry
      exact op_ne pins s σ H _ _ v u Q I rx ry ⟨rfl, by rw [← eqv_strs]; exact hq _ _ S.cbl⟩
    exact op_neD hu pins s σ H x y v u Q I rx ry ⟨p, q, S.dp h1 hs.1, S.dp h2 hs.2, hs.1, hs.2, hq _ _ S.cbl⟩
  · cases hg

theorem shaped_items {ys : List PyData} (h : SeqAt.shaped (.list ys) = true) : PyData.canLayAll0 ys = true := by
  have := SeqAt.canLay_of_shaped h
  simpa [PyData.canLay0] using this
theorem shaped_itemsT {ys : List PyData} (h : SeqAt.shaped (.tuple ys) = true) : PyData.canLayAll0 ys = true := by
  have := SeqAt.canLay_of_shaped h
  simpa [PyData.canLay0] using this
theorem op_inDD (hu : X.A.units + 65 < cLine) : OpD X Z (compareOp .In) (lift2 inP) 9 9 := opd_lift fun pins s σ H x y v u Q p q r R n m I rx ry S h1 h2 hn hm hg hq => by
  unfold inP at hg
  split at hg
  · rename_i ys
    split at hg
    · rename_i hs
      simp only [Bool.and_eq_true] at hs
      cases hg
      exact op_inD hu pins s σ H x y v u Q I rx ry ⟨p, ys, S.dp h1 hs.1, S.dp h2 hs.2, hs.1, hs.2, hq _ _ S.cbl⟩
    · cases hg
  · rename_i ys
    split at hg
    · rename_i hs
      simp only [Bool.and_eq_true] at hs
      cases hg
      obtain ⟨as, r1⟩ := Dp.reads I p x v (S.dp h1 hs.1) rx
      obtain ⟨bs, r2⟩ := Dp.reads I (.tuple ys) y u (S.dp h2 hs.2) ry
      exact SeqAt.in_tuple_reads r2 r1 (shaped_itemsT hs.2) (SeqAt.canLay_of_shaped hs.1) (PyProof.Rows.room_in_shaped hs.1 hu) ⟨.bl _, H, I, rfl, hq _ _ S.cbl⟩
    · cases hg
  · split at hg
    · cases hg
      rw [S.str h1] at rx; rw [S.str h2] at ry
      exact op_in_str pins s σ H _ _ v u Q I rx ry ⟨_, _, rfl, rfl, hq _ _ S.cbl⟩
    · cases hg
  · obtain ⟨o, q, rfl⟩ := Option.map_eq_some_iff.mp hg
    obtain ⟨a, rfl, g⟩ := S.dhas h2 h1 q
    obtain rfl : u = Value.ref a := ry
    exact dhas_in (by omega) I g rx fun s' I' => ⟨.bl _, H, I', rfl, hq _ _ S.cbl⟩
  · cases hg
theorem op_notInDD (hu : X.A.units + 65 < cLine) : OpD X Z (compareOp .NotIn) (lift2 notInP) 9 9 := opd_lift fun pins s σ H x y v u Q p q r R n m I rx ry S h1 h2 hn hm hg hq => by
  unfold notInP inP at hg
  split at hg
  · rename_i ys
    split at hg
    · rename_i hs
      simp only [Bool.and_eq_true] at hs
      cases hg
      exact op_notInD hu pins s σ H x y v u Q I rx ry ⟨p, ys, S.dp h1 hs.1, S.dp h2 hs.2, hs.1, hs.2, hq _ _ S.cbl⟩
    · cases hg
  · rename_i ys
    split at hg
    · rename_i hs
      simp only [Bool.and_eq_true] at hs
      cases hg
      obtain ⟨as, r1⟩ := Dp.reads I p x v (S.dp h1 hs.1) rx
      obtain ⟨bs, r2⟩ := Dp.reads I (.tuple ys) y u (S.dp h2 hs.2) ry
      exact SeqAt.notIn_tuple_reads r2 r1 (shaped_itemsT hs.2) (SeqAt.canLay_of_shaped hs.1) (PyProof.Rows.room_in_shaped hs.1 hu) ⟨.bl _, H, I, rfl, hq _ _ S.cbl⟩
    · cases hg
  · split at hg
    · cases hg
      rw [S.str h1] at rx; rw [S.str h2] at ry
      exact op_notin_str pins s σ H _ _ v u Q I rx ry ⟨_, _, rfl, rfl, hq _ _ S.cbl⟩
    · cases hg
  · rename_i qs
    cases q : dgetP qs p with
    | none => rw [q] at hg; cases hg
    | some o =>
      rw [q] at hg
      cases hg
      obtain ⟨a, rfl, g⟩ := S.dhas h2 h1 q
      obtain rfl : u = Value.ref a := ry
      exact dhas_notIn (by omega) I g rx fun s' I' => ⟨.bl _, H, I', rfl, hq _ _ S.cbl⟩
  · cases hg
theorem Sim.notNone {n : Nat} {d : PyData} {v : V} (S : Sim X.K Z H R) (h : (⟨n, .d d, v⟩ : Root) ∈ R) (hd : d ≠ .none) : v ≠ .non := by
  obtain ⟨G, q⟩ := S.den h
  cases q with
  | d q => cases q <;> first | exact absurd rfl hd | (intro z; cases z)
theorem op_isD : OpD X Z (compareOp .Is) (lift2 isP) 9 9 := opd_lift fun pins s σ H x y v u Q p q r R n m I rx ry S h1 h2 hn hm hg hq => by
  unfold isP at hg
  split at hg
  · rw [S.non h2] at ry
    split at hg
    · cases hg
      rw [S.non h1] at rx
      exact op_isN pins s σ H _ _ v u Q I rx ry ⟨rfl, hq _ _ S.cbl⟩
    · rename_i hx
      cases hg
      refine op_isN pins s σ H _ _ v u Q I rx ry ⟨rfl, ?_⟩
      rw [decide_eq_false (S.notNone h1 hx)]
      exact hq _ _ S.cbl
  · cases hg
    rw [S.bl h1] at rx; rw [S.bl h2] at ry
    exact op_is_bl pins s σ H _ _ v u Q I rx ry ⟨_, _, rfl, rfl, hq _ _ S.cbl⟩
  · cases hg
theorem op_isNotD : OpD X Z (compareOp .IsNot) (lift2 isNotP) 9 9 := opd_lift fun pins s σ H x y v u Q p q r R n m I rx ry S h1 h2 hn hm hg hq => by
  unfold isNotP isP at hg
  split at hg
  · rw [S.non h2] at ry
    split at hg
    · cases hg
      rw [S.non h1] at rx
      exact op_notN pins s σ H _ _ v u Q I rx ry ⟨rfl, hq _ _ S.cbl⟩
    · rename_i hx
      cases hg
      refine op_notN pins s σ H _ _ v u Q I rx ry ⟨rfl, ?_⟩
      rw [decide_eq_false (S.notNone h1 hx)]
      exact hq _ _ S.cbl
  · cases hg
    rw [S.bl h1] at rx; rw [S.bl h2] at ry
    exact op_isnot_bl pins s σ H _ _ v u Q I rx ry ⟨_, _, rfl, rfl, hq _ _ S.cbl⟩
  · cases hg

/-! ### items -/
def OpIx (X : Cx) (Z : ClT) (g : DV → DV → Option DV) (cap k : Nat) : Prop :=
  IxR X fun x y H Q => ∃ R d e n m r, Sim X.K Z H R ∧ (⟨n, d, x⟩ : Root) ∈ R ∧ (⟨m, e, y⟩ : Root) ∈ R ∧ n ≤ cap ∧ m ≤ cap ∧ g d e = some r ∧ ∀ v H', Sim X.K Z H' (⟨k, r, v⟩ :: R) → Q v H'
theorem atI_map {α β : Type} (f : α → β) (xs : List α) (i : Int) : atI (xs.map f) i = (atI xs i).map f := by
  unfold atI
  rw [List.length_map]
  cases ixN xs.length i with
  | none => rfl
  | some j => exact List.getElem?_map ..
theorem atI_rel {ds : List PyData} {vs : List V} {i : Int} {d : PyData} (hl : ds.length = vs.length) (h : atI ds i = some d) : ∃ (j : Nat) (v : V), ds[j]? = some d ∧ vs[j]? = some v ∧ atI vs i = some v := by
  unfold atI at h ⊢
  rw [← hl]
  cases q : ixN ds.length i with
  | none => rw [q] at h; cases h
  | some j =>
    rw [q] at h
    have h : ds[j]? = some d := h
    have hj : j < vs.length := hl ▸ (List.getElem?_eq_some_iff.mp h).1
    exact ⟨j, vs[j], h, List.getElem?_eq_getElem hj, List.getElem?_eq_getElem hj⟩
theorem op_ixD (hu : X.A.units + 64 < cLine) : OpIx X Z ixD 1 0 := by
  intro vl sl pins s σ H x y v u Q I rx ry ⟨R, d, e, n, m, r, S, h1, h2, hn, hm, hg, hq⟩ hsb
  unfold ixD at hg
  split at hg
  · rename_i ns i
    obtain ⟨a, rfl, hs⟩ := S.script h1
    rw [S.int h2] at ry
    cases q : atI ns i with
    | none => rw [q] at hg; cases hg
    | some z =>
      rw [q] at hg
      cases hg
      refine ix_list vl sl pins s σ H _ _ v u Q I rx ry ⟨a, _, i, .int z, rfl, rfl, hs, ?_, hq _ _ S.cint⟩ hsb
      rw [atI_map, q]; rfl
  · rename_i p q
    cases q3 : ixP p q with
    | none => rw [q3] at hg; cases hg
    | some r' =>
      rw [q3] at hg
      cases hg
      unfold ixP at q3
      split at q3
      · obtain ⟨a, vs, rfl, ha, hl, S2⟩ := S.openL h1 hn
        rw [S.int h2] at ry
        obtain ⟨j, w, e1, e2, e3⟩ := atI_rel hl q3
        exact ix_list vl sl pins s σ H _ _ v u Q I rx ry ⟨a, _, _, w, rfl, rfl, .of ha, e3, hq _ _ (S2.kid e1 e2)⟩ hsb
      · obtain ⟨a, vs, rfl, ha, hl, S2⟩ := S.openT h1 hn
        rw [S.int h2] at ry
        obtain ⟨j, w, e1, e2, e3⟩ := atI_rel hl q3
        exact ix_tup vl sl pins s σ H _ _ v u Q I rx ry ⟨a, _, _, w, rfl, rfl, ha, e3, hq _ _ (S2.kid e1 e2)⟩ hsb
      · split at q3
        · rename_i x i hx
          rw [S.str h1] at rx; rw [S.int h2] at ry
          cases q4 : atI x.cps.toList i with
          | none => rw [q4] at q3; cases q3
          | some c =>
            rw [q4] at q3
            cases q3
            exact ix_str vl sl pins s σ H _ _ v u Q I rx ry ⟨_, _, c, rfl, rfl, big_line hx, q4, hq _ _ S.cstr⟩ hsb
        · cases q3
      · obtain ⟨o, q4, q5⟩ := Option.bind_eq_some_iff.mp q3
        obtain rfl : o = some r' := q5
        obtain ⟨a, w, rfl, g, S2⟩ := S.dget h1 h2 hn q4
        exact ix_dict (by omega) vl sl pins s σ H _ _ v u Q I rx ry ⟨a, w, rfl, g, hq _ _ S2⟩ hsb
      · cases q3
  · rename_i qs k
    obtain ⟨r', q4, rfl⟩ := Option.map_eq_some_iff.mp hg
    obtain ⟨o, q5, q6⟩ := Option.bind_eq_some_iff.mp q4
    obtain rfl : o = some r' := q6
    obtain ⟨a, w, rfl, g, S2⟩ := S.dgetZ h1 h2 hn q5
    exact ix_dict (by omega) vl sl pins s σ H _ _ v u Q I rx ry ⟨a, w, rfl, g, hq _ _ S2⟩ hsb
  · cases hg
end
section
variable {X : Cx} {Z : ClT} {W : WX} {φ φ1 φ2 φ' : List Nat} {ta tb : Tm} {fa fb : M DV} {a b : Expr} {pos : Pos}
/-- the index is no slice -/
def noSlice : Expr → Bool
  | .Slice .. => false
  | _ => true
theorem noSlice_ix {b : Expr} (h : noSlice b = true) : PlainIx b := fun o i => by
  cases b <;> first | rfl | cases h
theorem je_ix {g : DV → DV → Option DV} {cap k : Nat} (ho : OpIx X Z g cap k) (ha : JE X Z W φ a φ1 ta fa) (hb : JE X Z W φ1 b φ2 tb fb) (hs : noSlice b = true) :
    JE X Z W φ (.Subscript a b pos) (cap2 cap ta tb φ2) (.v k) (op2 g ta tb fa fb) := by
  refine pe_imp (pe_ix ho ha hb (noSlice_ix hs)) fun σ H Q ⟨L, env, S, h⟩ => ?_
  refine rdE.go S (h.bind.mono fun d e1 h1 v H1 S1 => ?_)
  refine rdE.go S1 (h1.bind.mono fun d' e2 h2 u H2 S2 => ?_)
  exact op2_core S2 h2
end
end Lk
namespace Lk
open PySem PySem.Spec L2

def opI : CmpOp → Int → Int → Bool
  | .Lt, i, j => decide (i < j)
  | .LtE, i, j => decide (i ≤ j)
  | .Gt, i, j => decide (j < i)
  | .GtE, i, j => decide (j ≤ i)
  | _, _, _ => false
/-- the first pair that differs decides by c, else z -/
def lexV (c : PyData → PyData → Bool) (z : Bool) : List PyData → List PyData → Bool
  | x :: xs, y :: ys => if PyData.eqv x y then lexV c z xs ys else c x y
  | [], _ => z
  | _ :: _, [] => z
/-- all pairs that differ can be compared -/
def cmpAll (c : PyData → PyData → Option Bool) : List PyData → List PyData → Bool
  | x :: xs, y :: ys => (PyData.eqv x y || (c x y).isSome) && cmpAll c xs ys
  | [], _ => true
  | _ :: _, [] => true
def cmpN (op : CmpOp) : Nat → PyData → PyData → Option Bool
  | 0 => fun _ _ => none
  | n + 1 => fun p q => match p, q with
    | .int i, .int j => some (opI op i j)
    | .tuple xs, .tuple ys => if cmpAll (cmpN op n) xs ys then some (lexV (fun x y => (cmpN op n x y).getD false) (opI op xs.length ys.length) xs ys) else none
    | _, _ => none
def isOrd : CmpOp → Bool
  | .Lt => true
  | .LtE => true
  | .Gt => true
  | .GtE => true
  | _ => false
def cmpP (op : CmpOp) (x y : PyData) : Option PyData := if SeqAt.shaped x && SeqAt.shaped y then (cmpN op 8 x y).map .bool else none

theorem lexAt_lexV {c : PyData → PyData → Bool} {z : Bool} {xs ys : List PyData} : ∀ (as bs : List PyData) (i : Nat), xs.drop i = as → ys.drop i = bs →
    Ob.lexAt (fun j => PyData.eqv (xs.getD j .none) (ys.getD j .none)) (fun j => c (xs.getD j .none) (ys.getD j .none)) z i (min as.length bs.length) = lexV c z as bs
  | [], bs, i, _, _ => by simp [Ob.lexAt, lexV]
  | a :: as, [], i, _, _ => by simp [Ob.lexAt, lexV]
  | a :: as, b :: bs, i, ha, hb => by
    have h1 : xs.getD i .none = a := by
      have : xs[i]? = some a := by
        have q : (xs.drop i)[0]? = xs[i + 0]? := List.getElem?_drop
        rw [ha] at q
        exact q.symm
      rw [List.getD_eq_getElem?_getD, this]; rfl
    have h2 : ys.getD i .none = b := by
      have : ys[i]? = some b := by
        have q : (ys.drop i)[0]? = ys[i + 0]? := List.getElem?_drop
        rw [hb] at q
        exact q.symm
      rw [List.getD_eq_getElem?_getD, this]; rfl
    have e1 : xs.drop (i + 1) = as := by rw [← List.drop_drop, ha]; rfl
    have e2 : ys.drop (i + 1) = bs := by rw [← List.drop_drop, hb]; rfl
    have ih := lexAt_lexV (c := c) (z := z) as bs (i + 1) e1 e2
    rw [List.length_cons, List.length_cons, Nat.add_min_add_right, Ob.lexAt_succ]
    unfold lexV
    rw [h1, h2, ih]
theorem cmpAll_get {c : PyData → PyData → Option Bool} : ∀ {xs ys : List PyData} {j : Nat} {x y : PyData}, cmpAll c xs ys = true → xs[j]? = some x → ys[j]? = some y → PyData.eqv x y = false → ∃ b, c x y = some b
  | a :: xs, b :: ys, 0, x, y, h, h1, h2, he => by
    simp at h1 h2; subst h1; subst h2
    simp only [cmpAll, Bool.and_eq_true, Bool.or_eq_true, he] at h
    rcases h.1 with q | q
    · cases q
    · exact Option.isSome_iff_exists.mp q
  | a :: xs, b :: ys, j + 1, x, y, h, h1, h2, he => by
    simp only [cmpAll, Bool.and_eq_true] at h
    exact cmpAll_get (j := j) h.2 (by simpa using h1) (by simpa using h2) he
  | [], _, _, _, _, _, h1, _, _ => by simp at h1
  | _ :: _, [], _, _, _, _, _, h2, _ => by simp at h2
theorem readsAll_get {h : Heap} : ∀ {vs : List Value} {ds : List PyData} {as : List Addr} {j : Nat} {v : Value}, ReadsAll h vs ds as → vs[j]? = some v → ∃ d bs, ds[j]? = some d ∧ Reads h v d bs
  | [], _, _, _, _, _, e => by simp at e
  | v :: vs, _, _, 0, w, .cons r _, e => by simp at e; subst e; exact ⟨_, _, rfl, r⟩
  | v :: vs, _, _, j + 1, w, .cons _ r, e => by
    obtain ⟨d, bs, q1, q2⟩ := readsAll_get (j := j) r (by simpa using e)
    exact ⟨d, bs, by simpa using q1, q2⟩
theorem canLayAll_get : ∀ {ds : List PyData} {j : Nat} {d : PyData}, PyData.canLayAll0 ds = true → ds[j]? = some d → d.canLay0 = true
  | [], _, _, _, e => by simp at e
  | x :: ds, 0, d, h, e => by
    simp at e; subst e
    simp only [PyData.canLayAll0, Bool.and_eq_true] at h
    exact h.1
  | x :: ds, j + 1, d, h, e => by
    simp only [PyData.canLayAll0, Bool.and_eq_true] at h
    exact canLayAll_get (j := j) h.2 (by simpa using e)
theorem depthAll_get : ∀ {ds : List PyData} {j : Nat} {d : PyData}, ds[j]? = some d → d.depth ≤ PyData.depthAll ds
  | [], _, _, e => by simp at e
  | x :: ds, 0, d, e => by
    simp at e; subst e
    simp only [PyData.depthAll]
    exact Nat.le_max_left _ _
  | x :: ds, j + 1, d, e => by
    simp only [PyData.depthAll]
    exact Nat.le_trans (depthAll_get (j := j) (by simpa using e)) (Nat.le_max_right _ _)

/-- what one of the four operators does -/
theorem rc_run {op : CmpOp} (ho : isOrd op = true) : ∀ (n : Nat) (A : Around) (s : Shared) (p q : PyData) (v u : Value) (as bs : List Addr) (b : Bool), Reads s.heap v p as → Reads s.heap u q bs → p.canLay0 = true → q.canLay0 = true → p.depth ≤ 64 → A.units + 70 + n < cLine →
    cmpN op n p q = some b → Ob.RcOp op A s v u b
  | 0, _, _, _, _, _, _, _, _, _, _, _, _, _, _, _, h => by simp [cmpN] at h
  | n + 1, A, s, p, q, v, u, as, bs, b, ra, rb, ca, cb, hd, hu, h => by
    simp only [cmpN] at h
    split at h
    · rename_i i j
      cases h
      cases ra
      cases rb
      cases op with
      | Lt => exact Ob.RcOp.lt_int _ _ _ _
      | LtE => exact Ob.RcOp.le_int _ _ _ _
      | Gt => exact Ob.RcOp.gt_int _ _ _ _
      | GtE => exact Ob.RcOp.ge_int _ _ _ _
      | _ => cases ho
    · rename_i xs ys
      split at h
      · rename_i hall
        cases h
        cases ra with
        | tuple h1 h2 h3 h4 =>
          cases rb with
          | tuple g1 g2 g3 g4 =>
            rename_i a1 o1 vs1 n1 b1 o2 vs2 n2
            have l1 : vs1.size = xs.length := by have := SeqAt.ReadsAll.length _ _ _ h4; simpa using this
            have l2 : vs2.size = ys.length := by have := SeqAt.ReadsAll.length _ _ _ g4; simpa using this
            have t1 : s.heap.IsTuple a1 vs1 := ⟨_, h1, h2, n1, h3⟩
            have t2 : s.heap.IsTuple b1 vs2 := ⟨_, g1, g2, n2, g3⟩
            have cx : PyData.canLayAll0 xs = true := by simpa [PyData.canLay0] using ca
            have cy : PyData.canLayAll0 ys = true := by simpa [PyData.canLay0] using cb
            have dx : PyData.depthAll xs ≤ 63 := by
              have : PyData.depthAll xs + 1 ≤ 64 := by simpa [PyData.depth] using hd
              omega
            have item1 : ∀ (j : Nat) (hj : j < vs1.size), ∃ bs, xs[j]? = some (xs.getD j .none) ∧ Reads s.heap vs1[j] (xs.getD j .none) bs := fun j hj => by
              obtain ⟨d, bs, q1, q2⟩ := readsAll_get (j := j) h4 (by rw [Array.getElem?_toList]; exact Array.getElem?_eq_getElem hj)
              have e : xs.getD j .none = d := by rw [List.getD_eq_getElem?_getD, q1]; rfl
              rw [e]; exact ⟨bs, q1, q2⟩
            have item2 : ∀ (j : Nat) (hj : j < vs2.size), ∃ bs, ys[j]? = some (ys.getD j .none) ∧ Reads s.heap vs2[j] (ys.getD j .none) bs := fun j hj => by
              obtain ⟨d, bs, q1, q2⟩ := readsAll_get (j := j) g4 (by rw [Array.getElem?_toList]; exact Array.getElem?_eq_getElem hj)
              have e : ys.getD j .none = d := by rw [List.getD_eq_getElem?_getD, q1]; rfl
              rw [e]; exact ⟨bs, q1, q2⟩
            have he : ∀ j (q1 : j < vs1.size) (q2 : j < vs2.size), SeqAt.EqAt A.in1 s vs1[j] vs2[j] (PyData.eqv (xs.getD j .none) (ys.getD j .none)) := fun j q1 q2 => by
              obtain ⟨b1, e1, r1⟩ := item1 j q1
              obtain ⟨b2, e2, r2⟩ := item2 j q2
              have hd1 := depthAll_get e1
              refine SeqAt.eqAt_reads _ _ A.in1 s _ _ _ _ r1 r2 (canLayAll_get cx e1) (canLayAll_get cy e2) ?_
              have : min (xs.getD j PyData.none).depth (ys.getD j PyData.none).depth ≤ (xs.getD j PyData.none).depth := Nat.min_le_left _ _
              show A.units + 1 + min (xs.getD j PyData.none).depth (ys.getD j PyData.none).depth < cLine
              omega
            have hr : ∀ j (q1 : j < vs1.size) (q2 : j < vs2.size), PyData.eqv (xs.getD j .none) (ys.getD j .none) = false → Ob.RcOp op A.in1 s vs1[j] vs2[j] ((cmpN op n (xs.getD j .none) (ys.getD j .none)).getD false) := fun j q1 q2 q3 => by
              obtain ⟨b1, e1, r1⟩ := item1 j q1
              obtain ⟨b2, e2, r2⟩ := item2 j q2
              obtain ⟨k, hk⟩ := cmpAll_get hall e1 e2 q3
              have hd1 := depthAll_get e1
              rw [hk]
              exact rc_run ho n A.in1 s _ _ _ _ _ _ k r1 r2 (canLayAll_get cx e1) (canLayAll_get cy e2) (by omega) (by show A.units + 1 + 70 + n < cLine; omega) hk
            have key := lexAt_lexV (c := fun x y => (cmpN op n x y).getD false) (z := opI op xs.length ys.length) (xs := xs) (ys := ys) xs ys 0 rfl rfl
            rw [← key]
            have hz : ∀ z : Bool, z = opI op xs.length ys.length → Ob.RcOp op A s (.ref a1) (.ref b1) (Ob.lexAt (fun j => PyData.eqv (xs.getD j .none) (ys.getD j .none)) (fun j => (cmpN op n (xs.getD j .none) (ys.getD j .none)).getD false) z 0 (min vs1.size vs2.size)) →
              Ob.RcOp op A s (.ref a1) (.ref b1) (Ob.lexAt (fun j => PyData.eqv (xs.getD j .none) (ys.getD j .none)) (fun j => (cmpN op n (xs.getD j .none) (ys.getD j .none)).getD false) (opI op xs.length ys.length) 0 (min xs.length ys.length)) := fun z e k => by
              rw [e, l1, l2] at k; exact k
            cases op with
            | Lt => exact hz (decide (vs1.size < vs2.size)) (by rw [l1, l2]; exact decide_eq_decide.mpr (by omega)) (Ob.RcOp.tuples_lt t1 t2 (by omega) he hr)
            | LtE => exact hz (decide (vs1.size ≤ vs2.size)) (by rw [l1, l2]; exact decide_eq_decide.mpr (by omega)) (Ob.RcOp.tuples_le t1 t2 (by omega) he hr)
            | Gt => exact hz (decide (vs1.size > vs2.size)) (by rw [l1, l2]; exact decide_eq_decide.mpr (by omega)) (Ob.RcOp.tuples_gt t1 t2 (by omega) he hr)
            | GtE => exact hz (decide (vs1.size ≥ vs2.size)) (by rw [l1, l2]; exact decide_eq_decide.mpr (by omega)) (Ob.RcOp.tuples_ge t1 t2 (by omega) he hr)
            | _ => cases ho
      · cases h
    · cases h
section
variable {X : Cx} {Z : ClT}
theorem op_ordD {op : CmpOp} (ho : isOrd op = true) (hu : X.A.units + 80 < cLine) : OpD X Z (compareOp op) (lift2 (cmpP op)) 9 9 := opd_lift fun pins s σ H x y v u Q p q r R n m I rx ry S h1 h2 hn hm hg hq => by
  unfold cmpP at hg
  split at hg
  · rename_i hs
    simp only [Bool.and_eq_true] at hs
    cases q3 : cmpN op 8 p q with
    | none => rw [q3] at hg; cases hg
    | some b =>
      rw [q3] at hg
      cases hg
      obtain ⟨as, r1⟩ := Dp.reads I p x v (S.dp h1 hs.1) rx
      obtain ⟨bs, r2⟩ := Dp.reads I q y u (S.dp h2 hs.2) ry
      have z := rc_run ho 8 X.A s p q v u as bs b r1 r2 (SeqAt.canLay_of_shaped hs.1) (SeqAt.canLay_of_shaped hs.2) (SeqAt.depth_of_shaped hs.1) (by omega) q3 X.prog X.w X.xe (EP X pins σ Q) ⟨.bl b, H, I, rfl, hq _ _ S.cbl⟩
      cases op with
      | Lt => exact z
      | LtE => exact z
      | Gt => exact z
      | GtE => exact z
      | _ => cases ho
  · cases hg
end
end Lk
namespace Lk
open PySem PySem.Spec L2

def zipH : List Tm → List DV → List V → List Held
  | t :: ts, d :: ds, v :: vs => ⟨t, d, v⟩ :: zipH ts ds vs
  | _, _, _ => []
def nowsD : List Tm → List DV → Ev → Option (List DV)
  | t :: ts, d :: ds, e => match t.now d e, nowsD ts ds e with
    | some x, some xs => some (x :: xs)
    | _, _ => none
  | [], [], _ => some []
  | _, _, _ => none
def slotsOf (ts : List Tm) : List (Option Nat) := ts.map Tm.slot?
section
variable (X : Cx) (Z : ClT) (W : WX)
def rdA (φ φ' : List Nat) (ts : List Tm) (f : M (List DV)) : TA := fun σ H Q => ∃ L env, Stt X.K Z φ env [] σ H L ∧ Wish X.K Z W L (f env) fun ds e' =>
  ∀ vs H', ds.length = ts.length → vs.length = ts.length → Stt X.K Z φ' e' (zipH ts ds vs) σ H' L → Q vs H'
def JA (φ : List Nat) (es : List Expr) (φ' : List Nat) (ts : List Tm) (f : M (List DV)) : Prop := PA X es (rdA X Z W φ φ' ts f)
end
section
variable {X : Cx} {Z : ClT} {W : WX} {φ φ1 φ2 φ' : List Nat} {t : Tm} {ts : List Tm} {fa : M DV} {f : M (List DV)} {σ : St} {H : Hp} {L : List Root} {env : Ev} {hs : List Held} {a b : Expr} {es : List Expr} {pos : Pos}
theorem pa_imp {es : List Expr} {t t' : TA} (h : PA X es t) (i : ∀ σ H Q, t' σ H Q → t σ H Q) : PA X es t' := ⟨fun pos pins s σ H Q I q => h.run pos pins s σ H Q I (i _ _ _ q)⟩
theorem rdA.go {P : List V → Hp → Prop} (S : Stt X.K Z φ env hs σ H L) (h : Wish X.K Z W L (f env) fun ds e' => ∀ vs H', ds.length = ts.length → vs.length = ts.length → Stt X.K Z φ' e' (zipH ts ds vs ++ hs) σ H' L → P vs H') : rdA X Z W φ φ' ts f σ H P := by
  have S0 : Stt X.K Z φ env [] σ H (hrts hs ++ L) := by
    refine ⟨S.sim.perm ?_, S.al, fun _ h => nomatch h⟩
    show (hrts hs ++ (roots φ env σ ++ L)).Perm ([] ++ (roots φ env σ ++ (hrts hs ++ L)))
    exact shuf (A := [])
  refine ⟨hrts hs ++ L, env, S0, Wish.mono h.frame fun ds e' k => ?_⟩
  intro vs H' hl hv S'
  have S1 : Stt X.K Z φ' e' (zipH ts ds vs ++ hs) σ H' L := by
    refine ⟨S'.sim.perm ?_, S'.al, fun x hx => ?_⟩
    · unfold hrts
      rw [List.flatMap_append, List.append_assoc]
      exact shuf
    · rcases List.mem_append.mp hx with hx | hx
      · exact S'.at' x hx
      · exact S.at' x hx
  exact k vs H' hl hv S1
theorem ja_nil : JA X Z W φ [] φ [] (M.pure []) := pa_imp pa_nil fun σ H Q ⟨L, env, S, h⟩ => by
  exact (show ∀ vs H', ([] : List DV).length = ([] : List Tm).length → vs.length = ([] : List Tm).length → Stt X.K Z φ env (zipH [] [] vs) σ H' L → Q vs H' from h) [] H rfl rfl S
def noStar : Expr → Bool
  | .Starred .. => false
  | _ => true
theorem star_eq {env : PySem.Env} {e : Expr} {es : List Expr} (h : noStar e = true) : starEach (e :: es) env = (false, eval e env) :: starEach es env := by
  cases e <;> first | rfl | cases h
theorem star_any {env : PySem.Env} {pos : Pos} : ∀ {es : List Expr}, es.all noStar = true → (backTo pos (starEach es env)).any (·.1) = false
  | [], _ => rfl
  | e :: es, h => by
    simp only [List.all_cons, Bool.and_eq_true] at h
    rw [star_eq h.1]
    show (false || (backTo pos (starEach es env)).any (·.1)) = false
    rw [star_any h.2]; rfl
def consM (fa : M DV) (f : M (List DV)) : M (List DV) := fun env => (fa env).bind fun d e => (f e).bind fun ds e2 => .ok (d :: ds) e2
theorem ja_cons (hs : noStar a = true) (ha : JE X Z W φ a φ1 t fa) (h : JA X Z W φ1 es φ2 ts f) : JA X Z W φ (a :: es) φ2 (t :: ts) (consM fa f) := by
  refine pa_imp (pa_cons ha h (star_eq hs)) fun σ H Q ⟨L, env, S, h⟩ => ?_
  refine rdE.go S (h.bind.mono fun d e1 h1 v H1 S1 => ?_)
  refine rdA.go S1 (h1.bind.mono fun ds e2 h2 vs H2 hl hv S2 => ?_)
  refine h2 (v :: vs) H2 (by simp [hl]) (by simp [hv]) (S2.hperm ?_)
  show (zipH ts ds vs ++ [(⟨t, d, v⟩ : Held)]).Perm ((⟨t, d, v⟩ : Held) :: zipH ts ds vs)
  exact List.perm_append_comm

/-! ### displays -/
def getDs : List DV → Option (List PyData)
  | [] => some []
  | .d x :: r => match getDs r with
    | some xs => some (x :: xs)
    | none => none
  | _ :: _ => none
def allV (m : Nat) : List Tm → Bool
  | [] => true
  | .v k :: ts => decide (m ≤ k) && allV m ts
  | .sl _ :: _ => false
theorem kids_of {m : Nat} : ∀ {ts : List Tm} {ds : List DV} {vs : List V} {xs : List PyData}, allV m ts = true → ds.length = ts.length → vs.length = ts.length → getDs ds = some xs → Less (hrts (zipH ts ds vs)) (kids m xs vs) ∧ xs.length = vs.length
  | [], [], [], xs, _, _, _, h => by cases h; exact ⟨.nil, rfl⟩
  | t :: ts, d :: ds, v :: vs, xs, ht, hd, hv, h => by
    cases t with
    | sl i => simp [allV] at ht
    | v k =>
      simp only [allV, Bool.and_eq_true, decide_eq_true_eq] at ht
      cases d with
      | d x =>
        unfold getDs at h
        cases q : getDs ds with
        | none => rw [q] at h; cases h
        | some ys =>
          rw [q] at h
          cases h
          obtain ⟨q1, q2⟩ := kids_of ht.2 (by simpa using hd) (by simpa using hv) q
          exact ⟨.cons ⟨ht.1, rfl, rfl⟩ q1, by simp [q2]⟩
      | _ => cases h
  | [], _ :: _, _, _, _, hd, _, _ => by simp at hd
  | [], [], _ :: _, _, _, _, hv, _ => by simp at hv
  | _ :: _, [], _, _, _, hd, _, _ => by simp at hd
  | _ :: _, _ :: _, [], _, _, _, hv, _ => by simp at hv
def dispM (mk : List PyData → PyData) (f : M (List DV)) : M DV := fun env => (f env).bind fun ds e => match getDs ds with
  | some xs => if xs.length ≤ big then .ok (.d (mk xs)) e else .bad
  | none => .bad
theorem disp_core {m : Nat} {mk : List PyData → PyData} {ds : List DV} {vs : List V} {P : Prop} {k : DV → Ev → Prop} {e' : Ev} (hm : allV m ts = true) (hl : ds.length = ts.length) (hv : vs.length = ts.length) (S : Stt X.K Z φ' e' (zipH ts ds vs) σ H L)
    (h : Wish X.K Z W L (match getDs ds with
      | some xs => if xs.length ≤ big then Out.ok (.d (mk xs)) e' else .bad
      | none => .bad) k) (go : ∀ xs, xs.length = vs.length → xs.length ≤ big → Sim X.K Z H (kids m xs vs ++ (roots φ' e' σ ++ L)) → k (.d (mk xs)) e' → P) : P := by
  cases q : getDs ds with
  | none => rw [q] at h; exact h.elim
  | some xs =>
    rw [q] at h
    simp only at h
    split at h
    · rename_i hx
      obtain ⟨q1, q2⟩ := kids_of hm hl hv q
      exact go xs q2 hx (S.sim.less (Less.app q1 (Less.refl _))) h
    · exact h.elim
theorem je_lst {m : Nat} (ha : JA X Z W φ es φ' ts f) (hm : allV m ts = true) : JE X Z W φ (.List es pos) φ' (.v (m + 1)) (dispM .list f) := by
  refine pe_imp (pe_lst ha) fun σ H Q ⟨L, env, S, h⟩ => ?_
  refine ⟨L, env, S, h.bind.mono fun ds e' h1 vs H' hl hv S' => ?_⟩
  refine disp_core hm hl hv S' h1 fun xs q1 q2 s k => ⟨big_line (by omega), fun p hp => k _ _ ⟨s.mkL q1 hp, S'.al, fun x hx => ?_⟩⟩
  rw [List.mem_singleton.mp hx]; trivial
theorem je_tup {m n : Nat} (ha : JA X Z W φ es φ' ts f) (hm : allV m ts = true) : JE X Z W φ (.Tuple es n pos) φ' (.v (m + 1)) (dispM .tuple f) := by
  refine pe_imp (pe_tup ha) fun σ H Q ⟨L, env, S, h⟩ => ?_
  refine ⟨L, env, S, h.bind.mono fun ds e' h1 vs H' hl hv S' => ?_⟩
  refine disp_core hm hl hv S' h1 fun xs q1 q2 s k => ⟨big_line (by omega), fun p hp => k _ _ ⟨s.mkT q1 hp, S'.al, fun x hx => ?_⟩⟩
  rw [List.mem_singleton.mp hx]; trivial

/-! ### calls of built-ins -/
def LArgs (R : List Root) (cap : Nat) : List DV → List V → Prop := Paired fun d v => ∃ n, n ≤ cap ∧ (⟨n, d, v⟩ : Root) ∈ R
def CallD (X : Cx) (Z : ClT) (F : Value) (g : List DV → Option DV) (cap k : Nat) : Prop :=
  CallR X F fun vs H Q => ∃ R ds r, Sim X.K Z H R ∧ LArgs R cap ds vs ∧ g ds = some r ∧ ∀ v H', Sim X.K Z H' (⟨k, r, v⟩ :: R) → Q v H'
def callM (g : List DV → Option DV) (ts : List Tm) (f : M (List DV)) : M DV := fun env => (f env).bind fun ds e => match nowsD ts ds e with
  | some xs => (match g xs with
    | some r => .ok r e
    | none => .bad)
  | none => .bad
theorem zipH_slots : ∀ {ts : List Tm} {ds : List DV} {vs : List V}, ds.length = ts.length → vs.length = ts.length → (zipH ts ds vs).map (fun h => h.t.slot?) = slotsOf ts
  | [], [], [], _, _ => rfl
  | t :: ts, d :: ds, v :: vs, h1, h2 => by
    show t.slot? :: (zipH ts ds vs).map (fun h => h.t.slot?) = t.slot? :: slotsOf ts
    rw [zipH_slots (by simpa using h1) (by simpa using h2)]
  | [], _ :: _, _, h, _ => by simp at h
  | [], [], _ :: _, _, h => by simp at h
  | _ :: _, [], _, h, _ => by simp at h
  | _ :: _, _ :: _, [], _, h => by simp at h
theorem zipH_args {cap : Nat} {hs : List Held} (S : Stt X.K Z φ env hs σ H L) : ∀ {ts : List Tm} {ds : List DV} {vs : List V} {xs : List DV}, ds.length = ts.length → vs.length = ts.length → (∀ h ∈ zipH ts ds vs, h ∈ hs) → nowsD ts ds env = some xs →
    LArgs (hrts (hs.map (Held.cap cap)) ++ (roots (capS cap (hs.map fun h => h.t.slot?) φ) env σ ++ L)) cap xs vs
  | [], [], [], xs, _, _, _, h => by cases h; exact .nil
  | t :: ts, d :: ds, v :: vs, xs, h1, h2, hm, h => by
    unfold nowsD at h
    cases q1 : t.now d env with
    | none => rw [q1] at h; cases h
    | some x =>
      cases q2 : nowsD ts ds env with
      | none => rw [q1, q2] at h; cases h
      | some ys =>
        rw [q1, q2] at h
        cases h
        refine .cons ?_ (zipH_args S (by simpa using h1) (by simpa using h2) (fun y hy => hm y (List.mem_cons_of_mem _ hy)) q2)
        exact S.memC (h := ⟨t, d, v⟩) (hm _ List.mem_cons_self) q1
  | [], _ :: _, _, _, h, _, _, _ => by simp at h
  | [], [], _ :: _, _, _, h, _, _ => by simp at h
  | _ :: _, [], _, _, h, _, _, _ => by simp at h
  | _ :: _, _ :: _, [], _, _, h, _, _ => by simp at h
theorem call_core {g : List DV → Option DV} {cap k : Nat} {P : VK} {ds : List DV} {vs : List V} (hl : ds.length = ts.length) (hv : vs.length = ts.length) (S : Stt X.K Z φ2 env (zipH ts ds vs) σ H L)
    (h : Wish X.K Z W L (match nowsD ts ds env with
      | some xs => (match g xs with
        | some r => Out.ok r env
        | none => .bad)
      | none => .bad) fun r e' => ∀ v H', Stt X.K Z (capS cap (slotsOf ts) φ2) e' [⟨.v k, r, v⟩] σ H' L → P v H') :
    ∃ R ds r, Sim X.K Z H R ∧ LArgs R cap ds vs ∧ g ds = some r ∧ ∀ v H', Sim X.K Z H' (⟨k, r, v⟩ :: R) → P v H' := by
  cases q : nowsD ts ds env with
  | none => rw [q] at h; exact h.elim
  | some xs =>
    rw [q] at h
    simp only at h
    cases q2 : g xs with
    | none => rw [q2] at h; exact h.elim
    | some r =>
      rw [q2] at h
      have a := zipH_args (cap := cap) S hl hv (fun h hh => hh) q
      refine ⟨_, xs, r, (S.cap cap).sim, a, q2, fun v H' s => h v H' ?_⟩
      have S2 := S.cap cap
      rw [zipH_slots hl hv] at s S2
      have S3 : Stt X.K Z (capS cap (slotsOf ts) φ2) env ((zipH ts ds vs).map (Held.cap cap) ++ []) σ H L := by rw [List.append_nil]; exact S2
      exact S3.done (hs := []) (by rw [List.append_nil]; exact s)
theorem je_callB {id : String} {x : Str} {p : Pos} {g : List DV → Option DV} {cap k : Nat} (hc : CallD X Z (.builtin id) g cap k) (hg : Gl X x) (hm : X.mg x = none) (hv : bootBuiltins x = some (.builtin id)) (hn : x ≠ "__name__") (hdb : (x == ("__debug__" : Str)) = false)
    (hs : noStar a = true) (hpl : es.all noStar = true) (ha : JA X Z W φ (a :: es) φ2 ts f) : JE X Z W φ (.Call (.Name x p) (a :: es) [] pos) (capS cap (slotsOf ts) φ2) (.v k) (callM g ts f) := by
  refine pe_imp (pe_callB hc hg hm hv ha hn hdb (star_eq hs) (star_any hpl)) fun σ H Q ⟨L, env, S, h⟩ => ?_
  exact ⟨L, env, S, h.bind.mono fun ds e' h1 vs H' hl hv S' => call_core hl hv S' h1⟩
theorem je_callTy {T : String} {x : Str} {p : Pos} {g : List DV → Option DV} {cap k : Nat} (hc : CallD X Z (.type T) g cap k) (hg : Gl X x) (hm : X.mg x = none) (hv : bootBuiltins x = some (.type T)) (hn : x ≠ "__name__") (hdb : (x == ("__debug__" : Str)) = false)
    (hs : noStar a = true) (hpl : es.all noStar = true) (ha : JA X Z W φ (a :: es) φ2 ts f) : JE X Z W φ (.Call (.Name x p) (a :: es) [] pos) (capS cap (slotsOf ts) φ2) (.v k) (callM g ts f) := by
  refine pe_imp (pe_callTy hc hg hm hv ha hn hdb (star_eq hs) (star_any hpl)) fun σ H Q ⟨L, env, S, h⟩ => ?_
  exact ⟨L, env, S, h.bind.mono fun ds e' h1 vs H' hl hv S' => call_core hl hv S' h1⟩
end
end Lk
namespace Lk
open PySem PySem.Spec L2

def oneD (g : PyData → Option PyData) : List DV → Option DV
  | [.d x] => (g x).map .d
  | _ => none
def twoD (g : PyData → PyData → Option PyData) : List DV → Option DV
  | [.d x, .d y] => (g x y).map .d
  | _ => none
def lenD : List DV → Option DV
  | [.s ns] => some (.d (.int ns.length))
  | [.d (.list xs)] => some (.d (.int xs.length))
  | [.d (.tuple xs)] => some (.d (.int xs.length))
  | [.d (.str x)] => if x.length ≤ big then some (.d (.int x.length)) else none
  | [.d (.dict qs)] => some (.d (.int qs.length))
  | _ => none
def absP : PyData → Option PyData
  | .int i => some (.int (if i < 0 then -i else i))
  | _ => none
def minP : PyData → PyData → Option PyData
  | .int i, .int j => some (.int (if j < i then j else i))
  | _, _ => none
def maxP : PyData → PyData → Option PyData
  | .int i, .int j => some (.int (if j > i then j else i))
  | _, _ => none
def intP : PyData → Option PyData
  | .int i => some (.int i)
  | .bool b => some (.int (if b then 1 else 0))
  | .str x => if x.length ≤ 640 then (PySem.intText? x).map .int else none
  | _ => none
def strP : PyData → Option PyData
  | .int i => if i.natAbs.log2 < 1920 then some (.str (toString i)) else none
  | _ => none
def getBs : List PyData → Option (List Bool)
  | [] => some []
  | .bool b :: r => match getBs r with
    | some bs => some (b :: bs)
    | none => none
  | _ :: _ => none
def getIs : List PyData → Option (List Int)
  | [] => some []
  | .int b :: r => match getIs r with
    | some bs => some (b :: bs)
    | none => none
  | _ :: _ => none
def getSs : List PyData → Option (List Str)
  | [] => some []
  | .str b :: r => match getSs r with
    | some bs => some (b :: bs)
    | none => none
  | _ :: _ => none
def allP : PyData → Option PyData
  | .list xs => (getBs xs).map fun bs => .bool (bs.all id)
  | _ => none
def anyP : PyData → Option PyData
  | .list xs => (getBs xs).map fun bs => .bool (bs.any id)
  | _ => none
def sumP : PyData → Option PyData
  | .list xs => (getIs xs).map fun bs => .int bs.sum
  | _ => none
def listP : PyData → Option PyData
  | .list xs => some (.list xs)
  | .tuple xs => some (.list xs)
  | _ => none
def listD : List DV → Option DV
  | [.s ns] => some (.d (.list (ns.map .int)))
  | [.d x] => (listP x).map .d
  | _ => none
def tupleP : PyData → Option PyData
  | .list xs => some (.tuple xs)
  | .tuple xs => some (.tuple xs)
  | _ => none
theorem getBs_eq : ∀ {xs : List PyData} {bs : List Bool}, getBs xs = some bs → xs = bs.map .bool
  | [], _, h => by cases h; rfl
  | x :: xs, bs, h => by
    cases x with
    | bool b =>
      unfold getBs at h
      cases q : getBs xs with
      | none => rw [q] at h; cases h
      | some ys => rw [q] at h; cases h; rw [getBs_eq q]; rfl
    | _ => cases h
theorem getIs_eq : ∀ {xs : List PyData} {bs : List Int}, getIs xs = some bs → xs = bs.map .int
  | [], _, h => by cases h; rfl
  | x :: xs, bs, h => by
    cases x with
    | int b =>
      unfold getIs at h
      cases q : getIs xs with
      | none => rw [q] at h; cases h
      | some ys => rw [q] at h; cases h; rw [getIs_eq q]; rfl
    | _ => cases h
theorem getSs_eq : ∀ {xs : List PyData} {bs : List Str}, getSs xs = some bs → xs = bs.map .str
  | [], _, h => by cases h; rfl
  | x :: xs, bs, h => by
    cases x with
    | str b =>
      unfold getSs at h
      cases q : getSs xs with
      | none => rw [q] at h; cases h
      | some ys => rw [q] at h; cases h; rw [getSs_eq q]; rfl
    | _ => cases h
section
variable {K : PySem.W.Frag} {H : Hp}
theorem DenL.bools : ∀ {bs : List Bool} {vs : List V} {G : Ft}, DenL K H (bs.map .bool) vs G → vs = bs.map .bl
  | [], _, _, h => by cases h; rfl
  | b :: bs, _, _, h => by
    cases h with
    | cons h1 h2 => cases h1; rw [DenL.bools h2]; rfl
theorem DenL.ints : ∀ {bs : List Int} {vs : List V} {G : Ft}, DenL K H (bs.map .int) vs G → vs = bs.map .int
  | [], _, _, h => by cases h; rfl
  | b :: bs, _, _, h => by
    cases h with
    | cons h1 h2 => cases h1; rw [DenL.ints h2]; rfl
theorem DenL.strs : ∀ {bs : List Str} {vs : List V} {G : Ft}, DenL K H (bs.map .str) vs G → vs = bs.map .str
  | [], _, _, h => by cases h; rfl
  | b :: bs, _, _, h => by
    cases h with
    | cons h1 h2 => cases h1; rw [DenL.strs h2]; rfl
theorem denL_ints : ∀ {bs : List Int}, DenL K H (bs.map .int) (bs.map V.int) []
  | [] => .nil
  | b :: bs => by
    have q : DenL K H (.int b :: bs.map .int) (V.int b :: bs.map V.int) ([] ++ []) := .cons (.int b) denL_ints
    exact q
theorem denL_strs : ∀ {bs : List Str}, DenL K H (bs.map .str) (bs.map V.str) []
  | [] => .nil
  | b :: bs => by
    have q : DenL K H (.str b :: bs.map .str) (V.str b :: bs.map V.str) ([] ++ []) := .cons (.str b) denL_strs
    exact q
end
section
variable {X : Cx} {Z : ClT} {H : Hp} {R : List Root} {cap k n : Nat}
theorem Sim.listOf {xs : List PyData} {v : V} (S : Sim X.K Z H R) (h : (⟨n, .d (.list xs), v⟩ : Root) ∈ R) : ∃ a vs G, v = .ref a ∧ H a = some (.lst vs) ∧ DenL X.K H xs vs G := by
  obtain ⟨G, hd⟩ := S.den h
  cases hd with
  | d hd =>
    cases hd with
    | lst h1 h2 => exact ⟨_, _, _, rfl, h1, h2⟩
theorem Sim.tupleOf {xs : List PyData} {v : V} (S : Sim X.K Z H R) (h : (⟨n, .d (.tuple xs), v⟩ : Root) ∈ R) : ∃ a vs G, v = .ref a ∧ SqT X.K H a vs ∧ DenL X.K H xs vs G := by
  obtain ⟨G, hd⟩ := S.den h
  cases hd with
  | d hd =>
    cases hd with
    | tup h1 h2 => exact ⟨_, _, _, rfl, .of h1, h2⟩
theorem args1 {d : DV} {vs : List V} (h : LArgs R cap [d] vs) : ∃ v n, vs = [v] ∧ n ≤ cap ∧ (⟨n, d, v⟩ : Root) ∈ R := by
  cases h with
  | cons h t =>
    cases t
    obtain ⟨n, hn, m⟩ := h
    exact ⟨_, n, rfl, hn, m⟩
theorem args2 {d e : DV} {vs : List V} (h : LArgs R cap [d, e] vs) : ∃ v u n m, vs = [v, u] ∧ n ≤ cap ∧ m ≤ cap ∧ (⟨n, d, v⟩ : Root) ∈ R ∧ (⟨m, e, u⟩ : Root) ∈ R := by
  cases h with
  | cons h t =>
    obtain ⟨n, hn, q⟩ := h
    cases t with
    | cons h t =>
      cases t
      obtain ⟨m, hm, q2⟩ := h
      exact ⟨_, _, n, m, rfl, hn, hm, q, q2⟩
/-- one operand, data -/
theorem cd_one {F : Value} {g : PyData → Option PyData}
    (h : ∀ (pins : List (Addr × Obj)) (s : Shared) (σ : St) (H : Hp) (v : V) (us : List Value) (Q : VK) (p r : PyData) (R : List Root) (n : Nat), Inv X pins σ H s → Vals [v] us → Sim X.K Z H R → (⟨n, .d p, v⟩ : Root) ∈ R → n ≤ cap → g p = some r →
      (∀ w H', Sim X.K Z H' (⟨k, .d r, w⟩ :: R) → Q w H') → wpAny (model X.prog X.w) X.A (call F us) (EP X pins σ Q) X.xe s) : CallD X Z F (oneD g) cap k := by
  intro pins s σ H vs us Q I rv ⟨R, ds, r, S, a, hg, hq⟩
  unfold oneD at hg
  split at hg
  · rename_i x
    cases q : g x with
    | none => rw [q] at hg; cases hg
    | some y =>
      rw [q] at hg; cases hg
      obtain ⟨v, n, rfl, hn, m⟩ := args1 a
      exact h pins s σ H v us Q x y R n I rv S m hn q hq
  · cases hg
theorem cd_two {F : Value} {g : PyData → PyData → Option PyData}
    (h : ∀ (pins : List (Addr × Obj)) (s : Shared) (σ : St) (H : Hp) (v u : V) (us : List Value) (Q : VK) (p q r : PyData) (R : List Root) (n m : Nat), Inv X pins σ H s → Vals [v, u] us → Sim X.K Z H R → (⟨n, .d p, v⟩ : Root) ∈ R → (⟨m, .d q, u⟩ : Root) ∈ R → n ≤ cap → m ≤ cap → g p q = some r →
      (∀ w H', Sim X.K Z H' (⟨k, .d r, w⟩ :: R) → Q w H') → wpAny (model X.prog X.w) X.A (call F us) (EP X pins σ Q) X.xe s) : CallD X Z F (twoD g) cap k := by
  intro pins s σ H vs us Q I rv ⟨R, ds, r, S, a, hg, hq⟩
  unfold twoD at hg
  split at hg
  · rename_i x y
    cases q : g x y with
    | none => rw [q] at hg; cases hg
    | some z =>
      rw [q] at hg; cases hg
      obtain ⟨v, u, n, m, rfl, hn, hm, m1, m2⟩ := args2 a
      exact h pins s σ H v u us Q x y z R n m I rv S m1 m2 hn hm q hq
  · cases hg
theorem cd_len : CallD X Z (.builtin "len") lenD 9 9 := by
  intro pins s σ H vs us Q I rv ⟨R, ds, r, S, a, hg, hq⟩
  unfold lenD at hg
  split at hg
  · cases hg
    obtain ⟨v, n, rfl, hn, m⟩ := args1 a
    obtain ⟨l, rfl, hs⟩ := S.script m
    exact call_len pins s σ H _ us Q I rv ⟨_, _, rfl, .inl ⟨_, hs, rfl⟩, by rw [List.length_map]; exact hq _ _ S.cint⟩
  · cases hg
    obtain ⟨v, n, rfl, hn, m⟩ := args1 a
    obtain ⟨l, vs, rfl, hs, hl⟩ := S.seeL m
    exact call_len pins s σ H _ us Q I rv ⟨_, _, rfl, .inl ⟨_, .of hs, rfl⟩, by rw [← hl]; exact hq _ _ S.cint⟩
  · cases hg
    obtain ⟨v, n, rfl, hn, m⟩ := args1 a
    obtain ⟨l, vs, rfl, hs, hl⟩ := S.seeT m
    exact call_len pins s σ H _ us Q I rv ⟨_, _, rfl, .inr ⟨_, hs, rfl⟩, by rw [← hl]; exact hq _ _ S.cint⟩
  · split at hg
    · rename_i hx
      cases hg
      obtain ⟨v, n, rfl, hn, m⟩ := args1 a
      rw [S.str m] at rv
      exact call_len pins s σ H _ us Q I rv ⟨_, _, rfl, ⟨big_line hx, rfl⟩, hq _ _ S.cint⟩
    · cases hg
  · rename_i qs
    cases hg
    obtain ⟨v, n, rfl, hn, m⟩ := args1 a
    obtain ⟨l, vs, rfl, hs, hl⟩ := S.seeD m
    rcases hs with ⟨kvs, e1, e2, _⟩ | ⟨kvs, e1, e2, _⟩
    · have eu := Vals.ref1 rv
      subst eu
      have el : qs.length = kvs.length := by simpa using congrArg List.length e2
      exact d_len I (.of e1) fun t s' I' => ⟨.int kvs.length, H, I', ⟨_, rfl⟩, by rw [← el]; exact hq _ _ S.cint⟩
    · have el : qs.length = kvs.length := by simpa using congrArg List.length e2
      exact call_len_dT pins s σ H _ us Q I rv ⟨_, kvs, rfl, e1, by rw [← el]; exact hq _ _ S.cint⟩
  · cases hg
theorem cd_abs : CallD X Z (.builtin "abs") (oneD absP) 9 9 := cd_one fun pins s σ H v us Q p r R n I rv S m hn hg hq => by
  unfold absP at hg
  split at hg
  · cases hg
    rw [S.int m] at rv
    exact call_abs pins s σ H _ us Q I rv ⟨_, rfl, hq _ _ S.cint⟩
  · cases hg
theorem cd_min (hc : X.calm = true) : CallD X Z (.builtin "min") (twoD minP) 9 9 := cd_two fun pins s σ H v u us Q p q r R n m I rv S m1 m2 hn hm hg hq => by
  unfold minP at hg
  split at hg
  · cases hg
    rw [S.int m1, S.int m2] at rv
    exact call_min2 hc pins s σ H _ us Q I rv ⟨_, _, rfl, hq _ _ S.cint⟩
  · cases hg
theorem cd_max (hc : X.calm = true) : CallD X Z (.builtin "max") (twoD maxP) 9 9 := cd_two fun pins s σ H v u us Q p q r R n m I rv S m1 m2 hn hm hg hq => by
  unfold maxP at hg
  split at hg
  · cases hg
    rw [S.int m1, S.int m2] at rv
    exact call_max2 hc pins s σ H _ us Q I rv ⟨_, _, rfl, hq _ _ S.cint⟩
  · cases hg
theorem cd_int : CallD X Z (.type "int") (oneD intP) 9 9 := cd_one fun pins s σ H v us Q p r R n I rv S m hn hg hq => by
  unfold intP at hg
  split at hg
  · cases hg
    rw [S.int m] at rv
    exact call_int1 pins s σ H _ us Q I rv (.inl ⟨_, rfl, hq _ _ S.cint⟩)
  · cases hg
    rw [S.bl m] at rv
    exact call_int1 pins s σ H _ us Q I rv (.inr ⟨_, rfl, hq _ _ S.cint⟩)
  · split at hg
    · rename_i x hx
      rw [S.str m] at rv
      cases q : PySem.intText? x with
      | none => rw [q] at hg; cases hg
      | some z =>
        rw [q] at hg; cases hg
        exact call_int_str pins s σ H _ us Q I rv ⟨_, z, rfl, q, hx, hq _ _ S.cint⟩
    · cases hg
  · cases hg
theorem cd_str : CallD X Z (.type "str") (oneD strP) 9 9 := cd_one fun pins s σ H v us Q p r R n I rv S m hn hg hq => by
  unfold strP at hg
  split at hg
  · split at hg
    · rename_i i hi
      cases hg
      rw [S.int m] at rv
      exact call_str_int pins s σ H _ us Q I rv ⟨_, rfl, hi, hq _ _ S.cstr⟩
    · cases hg
  · cases hg
theorem cd_all (hc : X.calm = true) : CallD X Z (.builtin "all") (oneD allP) 9 9 := cd_one fun pins s σ H v us Q p r R n I rv S m hn hg hq => by
  unfold allP at hg
  split at hg
  · rename_i xs
    cases q : getBs xs with
    | none => rw [q] at hg; cases hg
    | some bs =>
      rw [q] at hg; cases hg
      obtain ⟨a, vs, G, rfl, h1, h2⟩ := S.listOf m
      rw [getBs_eq q] at h2
      exact cr_all hc pins s σ H _ us Q I rv ⟨a, bs, rfl, .of (by rw [h1, h2.bools]), hq _ _ S.cbl⟩
  · cases hg
theorem cd_any (hc : X.calm = true) : CallD X Z (.builtin "any") (oneD anyP) 9 9 := cd_one fun pins s σ H v us Q p r R n I rv S m hn hg hq => by
  unfold anyP at hg
  split at hg
  · rename_i xs
    cases q : getBs xs with
    | none => rw [q] at hg; cases hg
    | some bs =>
      rw [q] at hg; cases hg
      obtain ⟨a, vs, G, rfl, h1, h2⟩ := S.listOf m
      rw [getBs_eq q] at h2
      exact cr_any hc pins s σ H _ us Q I rv ⟨a, bs, rfl, .of (by rw [h1, h2.bools]), hq _ _ S.cbl⟩
  · cases hg
theorem cd_sum (hc : X.calm = true) : CallD X Z (.builtin "sum") (oneD sumP) 9 9 := cd_one fun pins s σ H v us Q p r R n I rv S m hn hg hq => by
  unfold sumP at hg
  split at hg
  · rename_i xs
    cases q : getIs xs with
    | none => rw [q] at hg; cases hg
    | some bs =>
      rw [q] at hg; cases hg
      obtain ⟨a, vs, G, rfl, h1, h2⟩ := S.listOf m
      rw [getIs_eq q] at h2
      exact cr_sum hc pins s σ H _ us Q I rv ⟨a, bs, rfl, .of (by rw [h1, h2.ints]), hq _ _ S.cint⟩
  · cases hg
theorem kids_scal {bs : List Int} (m : Nat) (S : Sim X.K Z H R) : Sim X.K Z H (kids m (bs.map .int) (bs.map V.int) ++ R) := by
  induction bs with
  | nil => exact S
  | cons b bs ih => exact ih.cint
theorem kids_scalS {bs : List Str} (m : Nat) (S : Sim X.K Z H R) : Sim X.K Z H (kids m (bs.map .str) (bs.map V.str) ++ R) := by
  induction bs with
  | nil => exact S
  | cons b bs ih => exact ih.cstr
theorem cd_list : CallD X Z (.type "list") listD 1 1 := by
  intro pins s σ H vs us Q I rv ⟨R, ds, r, S, a, hg, hq⟩
  unfold listD at hg
  split at hg
  · cases hg
    obtain ⟨v, n, rfl, hn, m⟩ := args1 a
    obtain ⟨l, rfl, hs⟩ := S.script m
    refine call_list_of pins s σ H _ us Q I rv ⟨_, _, rfl, .inl hs, fun q hp => hq _ _ ?_⟩
    exact Sim.mkL (n := 0) (kids_scal 0 S) (by simp) hp
  · rename_i x
    obtain ⟨v, n, rfl, hn, m⟩ := args1 a
    unfold listP at hg
    split at hg
    · cases hg
      obtain ⟨l, vs, rfl, h1, hl, S2⟩ := S.openL m hn
      exact call_list_of pins s σ H _ us Q I rv ⟨_, _, rfl, .inl (.of h1), fun q hp => hq _ _ (Sim.mkL (n := 0) S2 hl hp)⟩
    · cases hg
      obtain ⟨l, vs, rfl, h1, hl, S2⟩ := S.openT m hn
      exact call_list_of pins s σ H _ us Q I rv ⟨_, _, rfl, .inr h1, fun q hp => hq _ _ (Sim.mkL (n := 0) S2 hl hp)⟩
    · cases hg
  · cases hg
theorem cd_tuple : CallD X Z (.type "tuple") (oneD tupleP) 1 1 := cd_one fun pins s σ H v us Q p r R n I rv S m hn hg hq => by
  unfold tupleP at hg
  split at hg
  · cases hg
    obtain ⟨l, vs, rfl, h1, hl, S2⟩ := S.openL m hn
    exact call_tuple_of pins s σ H _ us Q I rv ⟨_, _, rfl, .inl ⟨.of h1, fun q hp => hq _ _ (Sim.mkT (n := 0) S2 hl hp)⟩⟩
  · cases hg
    obtain ⟨l, vs, rfl, h1, hl⟩ := S.seeT m
    exact call_tuple_of pins s σ H _ us Q I rv ⟨_, _, rfl, .inr ⟨h1, hq _ _ (S.again m hn)⟩⟩
  · cases hg
end

/-! ### isinstance against a built-in class -/
def tyName : DV → Option String
  | .d .none => some "NoneType"
  | .d (.bool _) => some "bool"
  | .d (.int _) => some "int"
  | .d (.str _) => some "str"
  | .d (.list _) => some "list"
  | .d (.tuple _) => some "tuple"
  | .d (.dict _) => some "dict"
  | _ => none
def isTy (a b : String) : Bool := a == b || (a == "bool" && b == "int")
def tyOk (T : String) : Bool := T == "int" || T == "bool" || T == "str" || T == "list" || T == "tuple" || T == "dict"
def isiM (T : String) (t : Tm) (f : M DV) : M DV := fun env => (f env).bind fun d e => .ofO ((t.now d e).bind fun x => (tyName x).map fun n => .d (.bool (isTy n T))) e
theorem kit_all (K : PySem.W.Frag) : ∀ a ∈ ["NoneType", "bool", "int", "str", "list", "tuple", "dict"], ∀ b ∈ ["int", "bool", "str", "list", "tuple", "dict"], PySem.W.kitOne K (.type a) (.type b) = some (isTy a b) := by
  intro a ha b hb
  simp only [List.mem_cons, List.not_mem_nil, or_false] at ha hb
  rcases ha with rfl | rfl | rfl | rfl | rfl | rfl | rfl <;> rcases hb with rfl | rfl | rfl | rfl | rfl | rfl <;> exact kit_ty (by decide +kernel)
end Lk
namespace Lk
open PySem PySem.Spec L2
section
variable {X : Cx} {Z : ClT} {W : WX} {φ φ1 φ2 φ3 φ' : List Nat} {t ta tb tc : Tm} {ts : List Tm} {fa fb fc : M DV} {f : M (List DV)} {σ : St} {H : Hp} {L : List Root} {env : Ev} {hs : List Held} {a b c : Expr} {es : List Expr} {pos p pos2 : Pos} {R : List Root} {n : Nat} {v : V}
theorem Sim.tyx {d : DV} {s : String} (S : Sim X.K Z H R) (h : (⟨n, d, v⟩ : Root) ∈ R) (ht : tyName d = some s) : TyX X.K H v (.type s) := by
  obtain ⟨G, hd⟩ := S.den h
  cases hd with
  | d hd =>
    cases hd with
    | non => cases ht; exact .base .non
    | bl b => cases ht; exact .base (.bl b)
    | int i => cases ht; exact .base (.int i)
    | str x => cases ht; exact .base (.str x)
    | lst h1 h2 => cases ht; exact .base (.lst h1)
    | tup h1 h2 =>
      cases ht
      exact .base (.tup h1)
    | dic h1 h2 h3 =>
      cases ht
      rcases h1 with ⟨kvs, h1, _⟩ | ⟨kvs, h1, _⟩
      · exact .base (.dK h1)
      · exact .base (.dT h1)
  | s _ => cases ht
  | o _ _ _ _ => cases ht
  | x _ _ _ _ _ => cases ht
  | f _ _ _ _ _ => cases ht
  | z _ _ _ => cases ht
  | g _ => cases ht
  | k _ => cases ht
  | e _ _ _ _ => cases ht
  | e0 _ _ => cases ht
theorem tyName_mem {d : DV} {s : String} (ht : tyName d = some s) : s ∈ ["NoneType", "bool", "int", "str", "list", "tuple", "dict"] := by
  unfold tyName at ht
  split at ht <;> first | (cases ht; decide) | cases ht
theorem tyOk_mem {T : String} (h : tyOk T = true) : T ∈ ["int", "bool", "str", "list", "tuple", "dict"] := by
  unfold tyOk at h
  simp only [Bool.or_eq_true, beq_iff_eq] at h
  simp only [List.mem_cons, List.not_mem_nil, or_false]
  rcases h with ((((h | h) | h) | h) | h) | h <;> simp [h]
theorem je_isi {T : String} {x xt : Str} {pt : Pos} (hT : tyOk T = true) (hg : Gl X x) (hm : X.mg x = none) (hv : bootBuiltins x = some (.builtin "isinstance")) (hn : x ≠ "__name__") (hdb : (x == ("__debug__" : Str)) = false)
    (gt : Gl X xt) (mt : X.mg xt = none) (bt : bootBuiltins xt = some (.type T)) (nt : xt ≠ "__name__") (dt : (xt == ("__debug__" : Str)) = false)
    (hs : noStar a = true) (ha : JE X Z W φ a φ1 ta fa) : JE X Z W φ (.Call (.Name x p) [a, .Name xt pt] [] pos) φ1 (.v 9) (isiM T ta fa) := by
  have e0 : PE X (.Name xt pt) (tC (.ty T)) := pe_bltn gt mt bt rfl nt dt
  refine pe_imp (pe_callB call_isi hg hm hv (pa_cons ha (pa_cons e0 pa_nil) (star_eq hs)) hn hdb (star_eq hs)) fun σ H Q ⟨L, env, S, h⟩ => ?_
  refine rdE.go S (h.bind.mono fun d e1 h1 v H1 S1 => ?_)
  obtain ⟨r, q, h2⟩ := h1.ofO
  obtain ⟨x, q1, q⟩ := Option.bind_eq_some_iff.mp q
  obtain ⟨s, q2, rfl⟩ := Option.map_eq_some_iff.mp q
  obtain ⟨n, m, _⟩ := S1.mem (h := ⟨ta, d, v⟩) List.mem_cons_self q1
  refine ⟨v, .ty T, .type s, .type T, isTy s T, rfl, .ty T, S1.sim.tyx m q2, kit_all _ _ (tyName_mem q2) _ (tyOk_mem hT), ?_⟩
  refine h2 _ H1 ⟨S1.free.sim.cbl, S1.al, fun x hx => ?_⟩
  rw [List.mem_singleton.mp hx]; trivial

/-! ### list(range(..)) -/
def rgP (a b : Int) : List PyData := (List.range (b - a).toNat).map fun (i : Nat) => PyData.int (a + i)
theorem rgP_eq (a b : Int) : ∃ ns : List Int, rgP a b = ns.map .int ∧ rgV a b = ns.map V.int := by
  refine ⟨(List.range (b - a).toNat).map fun (i : Nat) => a + i, ?_, ?_⟩
  · unfold rgP; rw [List.map_map]; rfl
  · unfold rgV; rw [List.map_map]; rfl
def rgOk (a b : Int) : Bool := decide (0 ≤ a) && decide (a ≤ 1000000) && decide (0 ≤ b) && decide (b ≤ 1000000)
theorem rgOk_ok {a b : Int} (h : rgOk a b = true) : RgOk a b := by
  unfold rgOk at h
  simp only [Bool.and_eq_true, decide_eq_true_eq] at h
  exact .of_le (by omega) (by omega) (by omega) (by omega)
def rgD : Option DV → Option DV → Option DV
  | some (.d (.int a)), some (.d (.int b)) => if rgOk a b then some (.d (.list (rgP a b))) else none
  | _, _ => none
def rg1M (ta : Tm) (fa : M DV) : M DV := fun env => (fa env).bind fun d e => .ofO (rgD (some (.d (.int 0))) (ta.now d e)) e
def rg2M (ta tb : Tm) (fa fb : M DV) : M DV := fun env => (fa env).bind fun d e1 => (fb e1).bind fun d' e => .ofO (rgD (ta.now d e) (tb.now d' e)) e
theorem rgD_some {x y : Option DV} {r : DV} (h : rgD x y = some r) : ∃ a b, x = some (.d (.int a)) ∧ y = some (.d (.int b)) ∧ rgOk a b = true ∧ r = .d (.list (rgP a b)) := by
  unfold rgD at h
  split at h
  · split at h
    · rename_i hr
      cases h
      exact ⟨_, _, rfl, rfl, hr, rfl⟩
    · cases h
  · cases h
theorem rg_end {a b : Int} {Q : VK} {q : Addr} {e : Ev} (S : Stt X.K Z φ' e hs σ H L) (hq : H q = none) (h : ∀ v H', Stt X.K Z φ' e [⟨.v 9, .d (.list (rgP a b)), v⟩] σ H' L → Q v H') : Q (.ref q) (upd H q (.lst (rgV a b))) := by
  obtain ⟨ns, e1, e2⟩ := rgP_eq a b
  rw [e1] at h
  rw [e2]
  have S2 : Sim X.K Z H (kids 8 (ns.map .int) (ns.map V.int) ++ (roots φ' e σ ++ L)) := kids_scal 8 (S.sim.sub (List.sublist_append_right _ _))
  refine h _ _ ⟨Sim.mkL (n := 8) S2 (by simp) hq, S.al, fun x hx => ?_⟩
  rw [List.mem_singleton.mp hx]; trivial
theorem Stt.isI {h : Held} {k : Int} (S : Stt X.K Z φ env hs σ H L) (hh : h ∈ hs) (hd : h.t.now h.d env = some (.d (.int k))) : h.v = .int k := by
  obtain ⟨n, q, _⟩ := S.mem hh hd
  exact S.sim.int q
theorem je_listRg1 {x xr : Str} {pr : Pos} (hc : X.calm = true) (ex : x = "list") (er : xr = "range") (hg : Gl X x) (hm : X.mg x = none) (gr : Gl X xr) (mr : X.mg xr = none) (hs : noStar a = true) (ha : JE X Z W φ a φ1 ta fa) :
    JE X Z W φ (.Call (.Name x p) [.Call (.Name xr pr) [a] [] pos2] [] pos) φ1 (.v 9) (rg1M ta fa) := by
  subst ex; subst er
  refine pe_imp (pe_listRg hc hg hm (prg_1 gr mr ha (star_eq hs))) fun σ H Q ⟨L, env, S, h⟩ => ?_
  refine rdE.go S (h.bind.mono fun d e1 h1 v H1 S1 => ?_)
  obtain ⟨r, q, h2⟩ := h1.ofO
  obtain ⟨i, n, ei, q2, hr, rfl⟩ := rgD_some q
  cases ei
  exact ⟨n, S1.isI (h := ⟨ta, d, v⟩) List.mem_cons_self q2, rgOk_ok hr, fun q hq => rg_end S1 hq h2⟩
theorem je_listRg2 {x xr : Str} {pr : Pos} (hc : X.calm = true) (ex : x = "list") (er : xr = "range") (hg : Gl X x) (hm : X.mg x = none) (gr : Gl X xr) (mr : X.mg xr = none) (hs : noStar a = true) (hs2 : noStar b = true) (ha : JE X Z W φ a φ1 ta fa) (hb : JE X Z W φ1 b φ2 tb fb) :
    JE X Z W φ (.Call (.Name x p) [.Call (.Name xr pr) [a, b] [] pos2] [] pos) φ2 (.v 9) (rg2M ta tb fa fb) := by
  subst ex; subst er
  refine pe_imp (pe_listRg hc hg hm (prg_2 gr mr ha hb (star_eq hs) (star_eq hs2) (star_any (by simp [hs2])))) fun σ H Q ⟨L, env, S, h⟩ => ?_
  refine rdE.go S (h.bind.mono fun d e1 h1 v H1 S1 => ?_)
  refine rdE.go S1 (h1.bind.mono fun d' e2 h2 u H2 S2 => ?_)
  obtain ⟨r, q, h3⟩ := h2.ofO
  obtain ⟨i, j, q1, q2, hr, rfl⟩ := rgD_some q
  exact ⟨i, j, S2.isI (h := ⟨ta, d, v⟩) (List.mem_cons_of_mem _ List.mem_cons_self) q1, S2.isI (h := ⟨tb, d', u⟩) List.mem_cons_self q2, rgOk_ok hr, fun q hq => rg_end S2 hq h3⟩

/-! ### slices -/
/-- an optional bound -/
def rdO (X : Cx) (Z : ClT) (W : WX) (φ φ' : List Nat) (f : M (Option Int)) : TO := fun σ H Q => ∃ L env, Stt X.K Z φ env [] σ H L ∧ Wish X.K Z W L (f env) fun o e' => ∀ H', Stt X.K Z φ' e' [] σ H' L → Q o H'
def JO (X : Cx) (Z : ClT) (W : WX) (φ : List Nat) (e : Option Expr) (φ' : List Nat) (f : M (Option Int)) : Prop := PO X e (rdO X Z W φ φ' f)
theorem po_imp {e : Option Expr} {t t' : TO} (h : PO X e t) (i : ∀ σ H Q, t' σ H Q → t σ H Q) : PO X e t' := ⟨fun pins s σ H Q I q => h.run pins s σ H Q I (i _ _ _ q)⟩
theorem rdO.go {f : M (Option Int)} {P : Option Int → Hp → Prop} (S : Stt X.K Z φ env hs σ H L) (h : Wish X.K Z W L (f env) fun b e' => ∀ H', Stt X.K Z φ' e' hs σ H' L → P b H') : rdO X Z W φ φ' f σ H P := by
  have S0 : Stt X.K Z φ env [] σ H (hrts hs ++ L) := by
    refine ⟨S.sim.perm ?_, S.al, fun _ h => nomatch h⟩
    show (hrts hs ++ (roots φ env σ ++ L)).Perm ([] ++ (roots φ env σ ++ (hrts hs ++ L)))
    exact shuf (A := [])
  refine ⟨hrts hs ++ L, env, S0, Wish.mono h.frame fun d e' k H' S' => k H' ⟨S'.sim.perm ?_, S'.al, S.at'⟩⟩
  show ([] ++ (roots φ' e' σ ++ (hrts hs ++ L))).Perm (hrts hs ++ (roots φ' e' σ ++ L))
  exact shuf (A := [])
theorem jo_none : JO X Z W φ none φ (M.pure none) := po_imp po_none fun σ H Q ⟨L, env, S, h⟩ => by
  exact (show ∀ H', Stt X.K Z φ env [] σ H' L → Q none H' from h) H S
def intD : Option DV → Option (Option Int)
  | some (.d (.int n)) => some (some n)
  | _ => none
def someI (t : Tm) (f : M DV) : M (Option Int) := fun env => (f env).bind fun d e => .ofO (intD (t.now d e)) e
theorem intD_some {x : Option DV} {r : Option Int} (h : intD x = some r) : ∃ n, x = some (.d (.int n)) ∧ r = some n := by
  unfold intD at h
  split at h
  · cases h; exact ⟨_, rfl, rfl⟩
  · cases h
theorem jo_some (ha : JE X Z W φ a φ1 ta fa) : JO X Z W φ (some a) φ1 (someI ta fa) := po_imp (po_some ha) fun σ H Q ⟨L, env, S, h⟩ => by
  refine rdE.go S (h.bind.mono fun d e1 h1 v H1 S1 => ?_)
  obtain ⟨r, q, h2⟩ := h1.ofO
  obtain ⟨n, q2, rfl⟩ := intD_some q
  exact ⟨n, S1.isI (h := ⟨ta, d, v⟩) List.mem_cons_self q2, h2 H1 S1.free⟩
def cutP (xs : List PyData) (lo hi : Option Int) : List PyData := (xs.drop (HT.sIx xs.length 0 lo)).take (HT.sIx xs.length xs.length hi - HT.sIx xs.length 0 lo)
def slD : DV → Option Int → Option Int → Option DV
  | .s ns, lo, hi => some (.d (.list (((ns.drop (HT.sIx ns.length 0 lo)).take (HT.sIx ns.length ns.length hi - HT.sIx ns.length 0 lo)).map .int)))
  | .d (.list xs), lo, hi => some (.d (.list (cutP xs lo hi)))
  | .d (.tuple xs), lo, hi => some (.d (.tuple (cutP xs lo hi)))
  | .d (.str x), lo, hi => if x.length ≤ big then some (.d (.str (cutS x lo hi))) else none
  | _, _, _ => none
theorem kids_cut {m : Nat} {xs : List PyData} {vs : List V} {lo hi : Option Int} (h : xs.length = vs.length) : (kids m (cutP xs lo hi) (cutV vs lo hi)).Sublist (kids m xs vs) ∧ (cutP xs lo hi).length = (cutV vs lo hi).length := by
  unfold cutP cutV kids
  rw [h]
  refine ⟨?_, by simp [h]⟩
  rw [← List.take_zipWith, ← List.drop_zipWith]
  exact (List.take_sublist _ _).trans (List.drop_sublist _ _)
theorem sl_runD {x : V} {lo hi : Option Int} {Q : VK} {d r : DV} (S : Sim X.K Z H R) (m : (⟨n, d, x⟩ : Root) ∈ R) (hn : n ≤ 1) (hg : slD d lo hi = some r) (hq : ∀ w H', Sim X.K Z H' (⟨1, r, w⟩ :: R) → Q w H') :
    (rSlL X.K x lo hi H Q ∨ rSlA X.K x lo hi H Q) ∨ rSlS x lo hi H Q := by
  cases d with
  | s ns =>
    cases hg
    obtain ⟨a, rfl, hl⟩ := S.script m
    refine .inl (.inl ⟨a, _, rfl, hl, fun p hp => hq _ _ ?_⟩)
    have e : cutV (ns.map V.int) lo hi = ((ns.drop (HT.sIx ns.length 0 lo)).take (HT.sIx ns.length ns.length hi - HT.sIx ns.length 0 lo)).map V.int := by
      unfold cutV; rw [List.length_map, List.map_take, List.map_drop]
    rw [e]
    exact Sim.mkL (n := 0) (kids_scal 0 S) (by simp) hp
  | d x =>
    cases x with
    | list xs =>
      cases hg
      obtain ⟨a, vs, rfl, h1, hl, S2⟩ := S.openL m hn
      have k := kids_cut (m := 0) (lo := lo) (hi := hi) hl
      exact .inl (.inl ⟨a, vs, rfl, .of h1, fun p hp => hq _ _ (Sim.mkL (n := 0) (S2.sub (k.1.append_right R)) k.2 hp)⟩)
    | tuple xs =>
      cases hg
      obtain ⟨a, vs, rfl, h1, hl, S2⟩ := S.openT m hn
      have k := kids_cut (m := 0) (lo := lo) (hi := hi) hl
      refine .inl (.inr ⟨a, vs, rfl, h1, fun z => ?_, fun _ p hp => hq _ _ (Sim.mkT (n := 0) (S2.sub (k.1.append_right R)) k.2 hp)⟩)
      have e : cutP xs lo hi = xs := by unfold cutP; rw [hl, z.1, z.2, List.drop_zero, Nat.sub_zero, ← hl, List.take_length]
      rw [e] at hq
      exact hq _ _ (S.again m hn)
    | str y =>
      have hg : (if y.length ≤ big then some (DV.d (.str (cutS y lo hi))) else none) = some r := hg
      split at hg
      · rename_i hx
        cases hg
        rw [S.str m]
        exact .inr ⟨_, rfl, big_line hx, hq _ _ S.cstr⟩
      · cases hg
    | _ => cases hg
  | _ => cases hg
theorem sl_all : SlR X (fun x lo hi H Q => (rSlL X.K x lo hi H Q ∨ rSlA X.K x lo hi H Q) ∨ rSlS x lo hi H Q) := (sl_list.or sl_tupA).or sl_str
def slM (ta : Tm) (fa : M DV) (fl fh : M (Option Int)) : M DV := fun env => (fa env).bind fun d e1 => (fl e1).bind fun lo e2 => (fh e2).bind fun hi e => .ofO ((ta.now d e).bind fun x => slD x lo hi) e
theorem je_slice {lo hi : Option Expr} {fl fh : M (Option Int)} {p2 : Pos} (ha : JE X Z W φ a φ1 ta fa) (hl : JO X Z W φ1 lo φ2 fl) (hh : JO X Z W φ2 hi φ3 fh) :
    JE X Z W φ (.Subscript a (.Slice lo hi none p2) pos) (capS 1 (slotsOf [ta]) φ3) (.v 1) (slM ta fa fl fh) := by
  refine pe_imp (pe_slice sl_all ha hl hh) fun σ H Q ⟨L, env, S, h⟩ => ?_
  refine rdE.go S (h.bind.mono fun d e1 h1 v H1 S1 => ?_)
  refine rdO.go S1 (h1.bind.mono fun lo e2 h2 H2 S2 => ?_)
  refine rdO.go S2 (h2.bind.mono fun hi e3 h3 H3 S3 => ?_)
  obtain ⟨r, q, h4⟩ := h3.ofO
  obtain ⟨x, q, q2⟩ := Option.bind_eq_some_iff.mp q
  obtain ⟨n, hn, m⟩ := S3.memC (c := 1) (h := ⟨ta, d, v⟩) List.mem_cons_self q
  have S4 := S3.cap 1
  have key : ∀ w H', Sim X.K Z H' (⟨1, r, w⟩ :: _) → Q w H' := fun w H' s => h4 w H' (Stt.done (as := [Held.cap 1 ⟨ta, d, v⟩]) (hs := []) S4 s)
  exact sl_runD S4.sim m hn q2 key
end
end Lk
namespace Lk
open PySem PySem.Spec L2

inductive Md where
  | fz
  | io (m m' : Nat)
inductive Res where
  | ok (d : DV) (outs : List DV)
  | ex (c : Nat) (g : PyData)
  | bad
def argR : List Md → List DV → List V → List Root
  | .fz :: ms, d :: ds, v :: vs => ⟨0, d, v⟩ :: argR ms ds vs
  | .io m _ :: ms, d :: ds, v :: vs => ⟨m, d, v⟩ :: argR ms ds vs
  | _, _, _ => []
def outR : List Md → List DV → List V → List Root
  | .fz :: ms, outs, _ :: vs => outR ms outs vs
  | .io _ m' :: ms, o :: outs, v :: vs => ⟨m', o, v⟩ :: outR ms outs vs
  | _, _, _ => []
def XC (K : PySem.W.Frag) (Z : ClT) (E : XK) (L : List Root) (c : Nat) (g : PyData) : Prop :=
  ∀ (C a : Addr) (v : V) (H' : Hp), Z c = some C → H' a = some (.xd [(fldOf c, v)]) → Sim K Z H' (⟨0, .d g, v⟩ :: L) → E (.ref C) (some a) H'
def spD (K : PySem.W.Frag) (Z : ClT) (ms : List Md) (kr : Nat) (F : List DV → Res) : Sp := fun vs H Q E => ∃ L ds, vs.length = ms.length ∧ ds.length = ms.length ∧ Sim K Z H (argR ms ds vs ++ L) ∧ match F ds with
  | .ok d outs => ∀ v H', Sim K Z H' (⟨kr, d, v⟩ :: (outR ms outs vs ++ L)) → Q v H'
  | .ex c g => XC K Z E L c g
  | .bad => False
structure FnOkG (P : Program) (w : World) (K : PySem.W.Frag) (mg : Str → Option Value) (base : Heap) (k : Nat) (f : Addr) (fd : FuncData) (ps : List Str) (sp : Sp) : Prop where
  len : ∀ vs H Q E, sp vs H Q E → vs.length = ps.length
  run : ∀ (A : Around) (outer : List PySem.Env) (s : Shared) (H : Hp) (args : Args) (us : List Value) (vs : List V) (Q : VK) (E : XK), Room k A → A.guards = some [] → Env0 P w K mg base A outer s H → BindsTo s fd args (ps.zip us) →
    Vals vs us → sp vs H Q E → codeAny (model P w) A (.call (.ref f) args) (CR (L2.CX P w) outer P w H s Q E) s
theorem FnOkG.mono {P : Program} {w : World} {K : PySem.W.Frag} {mg : Str → Option Value} {base : Heap} {j k : Nat} {f : Addr} {fd : FuncData} {ps : List Str} {sp : Sp} (F : FnOkG P w K mg base j f fd ps sp) (h : j ≤ k) : FnOkG P w K mg base k f fd ps sp :=
  ⟨F.len, fun A outer s H args us vs Q E hr => F.run A outer s H args us vs Q E (hr.mono h)⟩

section
variable {X : Cx} {Z : ClT} {W : WX} {φ φ1 φ2 φ' : List Nat} {t ta : Tm} {ts : List Tm} {fa : M DV} {f : M (List DV)} {σ : St} {H : Hp} {L : List Root} {env : Ev} {hs : List Held} {a : Expr} {es : List Expr} {pos p : Pos} {k : Nat} {fn : Addr} {fd : FuncData} {ps : List Str} {sp : Sp} {x : Str}
theorem run_g {pins : List (Addr × Obj)} {s : Shared} {Q : VK} {us : List Value} {vs : List V} (F : FnOkG X.prog X.w X.K X.mg X.base k fn fd ps sp) (hr : Room k X.A) (hgd : X.A.guards = some []) (hb : Binds X.K fd ps []) (tk : Takes X W)
    (I : Inv X pins σ H s) (r : Vals vs us) (h : sp vs H Q fun cls d H' => W cls d σ H') : wpAny (model X.prog X.w) X.A (call (.ref fn) us) (EP X pins σ Q) X.xe s := by
  have hl : (us ++ []).length = ps.length := by
    rw [List.append_nil, ← r.length]
    exact F.len _ _ _ _ h
  have run := F.run X.A X.stack s H ⟨us, []⟩ us vs Q _ hr hgd I.env0 (by have q := hb s us I.kIn hl; rwa [List.append_nil] at q) r h
  refine wpAny_call (codeAny_mono run fun o s' hq => ?_)
  match o, hq with
  | .error e, hq => exact tk e s' (XE.of_call I (fun _ _ _ z => z) hq)
  | .ok (.ret u), hq => exact I.after hq
  | .ok .next, hq => exact False.elim hq
  | .ok .brk, hq => exact False.elim hq
  | .ok .cont, hq => exact False.elim hq
theorem pe_callG {t : TA} (F : FnOkG X.prog X.w X.K X.mg X.base k fn fd ps sp) (hr : Room k X.A) (hgd : X.A.guards = some []) (hg : Gl X x) (hm : X.mg x = some (.ref fn)) (hk : PySem.W.keepIn X.K (.ref fn) = true) (hb : Binds X.K fd ps []) (tk : Takes X W)
    (hdb : (x == ("__debug__" : Str)) = false) (hs : noStar a = true) (hpl : es.all noStar = true) (ha : PA X (a :: es) t) : PE X (.Call (.Name x p) (a :: es) [] pos) (fun σ H Q => t σ H fun vs H1 => sp vs H1 Q fun cls d H' => W cls d σ H') := by
  constructor
  intro pins s σ H Q I h
  have body := fun (s1 : Shared) (us : List Value) (q : AP X pins σ (fun vs H1 => sp vs H1 Q fun cls d H' => W cls d σ H') us s1) =>
    show X.K.In s1.heap ∧ wpAny (model X.prog X.w) X.A (call (.ref fn) us) (EP X pins σ Q) X.xe s1 from
    let ⟨_, _, I1, r, z⟩ := q
    ⟨I1.kIn, run_g F hr hgd hb tk I1 r z⟩
  refine wpAny_Call_Name_kw (ld_glob I hg hm ?_ hdb)
  exact PySem.W.callWith_K (h₀ := X.base) I.ok.mod.kin hk (thn (ha.run pos pins s σ H _ I h) fun us s1 q => body s1 us q) (star_eq hs) (star_any hpl)

/-! ### operands as a call wants them -/
/-- frozen parameters get values, the others a name each -/
def fitM : List Md → List Tm → List Nat → Bool
  | .fz :: ms, .v _ :: ts, φ => fitM ms ts φ
  | .io m _ :: ms, .sl i :: ts, φ => (match φ[i]? with
    | some n => decide (m ≤ n)
    | none => false) && !(ts.any fun t => match t with
      | .sl j => i == j
      | .v _ => false) && fitM ms ts φ
  | .io m _ :: ms, .v k :: ts, φ => decide (m ≤ k) && fitM ms ts φ
  | [], [], _ => true
  | _, _, _ => false
/-- the slots handed over are empty meanwhile -/
def clrM : List Tm → Ev → Ev
  | .sl i :: ts, e => clrM ts (e.set i none)
  | .v _ :: ts, e => clrM ts e
  | [], e => e
def putM : List Md → List Tm → List DV → Ev → Option Ev
  | .fz :: ms, _ :: ts, outs, e => putM ms ts outs e
  | .io _ _ :: ms, .sl i :: ts, o :: outs, e => putM ms ts outs (e.set i (some o))
  | .io _ _ :: ms, .v _ :: ts, _ :: outs, e => putM ms ts outs e
  | [], [], [], e => some e
  | _, _, _, _ => none
def flM : List Md → List Tm → List Nat → List Nat
  | .fz :: ms, _ :: ts, φ => flM ms ts φ
  | .io _ m' :: ms, .sl i :: ts, φ => flM ms ts (φ.set i m')
  | .io _ _ :: ms, .v _ :: ts, φ => flM ms ts φ
  | _, _, φ => φ
theorem Al.clr : ∀ {φ : List Nat} {e : Ev} {σ : St} {i : Nat}, Al φ e σ → Al φ (e.set i none) σ
  | [], [], [], _, a => a
  | _ :: φ, d :: e, v :: σ, 0, a => ⟨fun h => by simp at h, a.2⟩
  | _ :: φ, d :: e, v :: σ, i + 1, a => ⟨a.1, Al.clr (i := i) a.2⟩
  | [], [], _ :: _, _, a => a.elim
  | [], _ :: _, [], _, a => a.elim
  | [], _ :: _, _ :: _, _, a => a.elim
  | _ :: _, [], [], _, a => a.elim
  | _ :: _, [], _ :: _, _, a => a.elim
  | _ :: _, _ :: _, [], _, a => a.elim
theorem slot_set_ne {e : Ev} {i j : Nat} {o : Option DV} (h : i ≠ j) : slot (e.set i o) j = slot e j := by
  unfold slot
  rw [List.getElem?_set_ne h]
theorem nowsD_set {e : Ev} {i : Nat} {o : Option DV} : ∀ {ts : List Tm} {ds : List DV}, (ts.any fun t => match t with
    | .sl j => i == j
    | .v _ => false) = false → nowsD ts ds (e.set i o) = nowsD ts ds e
  | [], [], _ => rfl
  | [], _ :: _, _ => rfl
  | _ :: _, [], _ => rfl
  | t :: ts, d :: ds, h => by
    simp only [List.any_cons, Bool.or_eq_false_iff] at h
    unfold nowsD
    rw [nowsD_set h.2]
    cases t with
    | v k => rfl
    | sl j =>
      have hne : i ≠ j := by simpa using h.1
      show (match slot (e.set i o) j, _ with | some x, some xs => some (x :: xs) | _, _ => none) = _
      rw [slot_set_ne hne]; rfl
/-- into the call -/
theorem call_in : ∀ {ms : List Md} {ts : List Tm} {ds : List DV} {vs : List V} {xs : List DV} {e : Ev} {R : List Root}, fitM ms ts φ = true → ds.length = ts.length → vs.length = ts.length → nowsD ts ds e = some xs → (∀ h ∈ zipH ts ds vs, h.at σ) → Al φ e σ →
    Sim X.K Z H (hrts (zipH ts ds vs) ++ (roots φ e σ ++ R)) → Sim X.K Z H (argR ms xs vs ++ (roots φ (clrM ts e) σ ++ R)) ∧ Al φ (clrM ts e) σ ∧ xs.length = ms.length ∧ vs.length = ms.length
  | [], [], [], [], xs, e, R, _, _, _, h, _, al, S => by
    cases h
    exact ⟨S, al, rfl, rfl⟩
  | .fz :: ms, .v k :: ts, d :: ds, v :: vs, xs, e, R, hf, hd, hv, h, hat, al, S => by
    unfold nowsD at h
    cases q : nowsD ts ds e with
    | none => rw [q] at h; cases h
    | some ys =>
      rw [q] at h
      cases h
      have S2 : Sim X.K Z H (hrts (zipH ts ds vs) ++ (roots φ e σ ++ (⟨k, d, v⟩ :: R))) := by
        refine S.perm ?_
        show (⟨k, d, v⟩ :: (hrts (zipH ts ds vs) ++ (roots φ e σ ++ R))).Perm _
        rw [← List.append_assoc, ← List.append_assoc]
        exact List.perm_middle.symm
      obtain ⟨S3, a3, l1, l2⟩ := call_in (ms := ms) hf (by simpa using hd) (by simpa using hv) q (fun h hh => hat h (List.mem_cons_of_mem _ hh)) al S2
      refine ⟨?_, a3, by simp [l1], by simp [l2]⟩
      have S4 := S3.less (R' := argR ms ys vs ++ (roots φ (clrM ts e) σ ++ (⟨0, d, v⟩ :: R))) (Less.app (Less.refl _) (Less.app (Less.refl _) (.cons ⟨Nat.zero_le _, rfl, rfl⟩ (Less.refl _))))
      refine S4.perm (?_ : List.Perm _ (⟨0, d, v⟩ :: (argR ms ys vs ++ (roots φ (clrM ts e) σ ++ R))))
      rw [← List.append_assoc, ← List.append_assoc]
      exact List.perm_middle
  | .io m m' :: ms, .sl i :: ts, d :: ds, v :: vs, xs, e, R, hf, hd, hv, h, hat, al, S => by
    unfold fitM at hf
    simp only [Bool.and_eq_true, Bool.not_eq_true'] at hf
    obtain ⟨⟨hf1, hf2⟩, hf3⟩ := hf
    unfold nowsD at h
    cases q0 : (Tm.sl i).now d e with
    | none => rw [q0] at h; cases h
    | some x =>
      cases q : nowsD ts ds e with
      | none => rw [q0, q] at h; cases h
      | some ys =>
        rw [q0, q] at h
        cases h
        have q0' : slot e i = some x := q0
        obtain ⟨n, v', g1, g2, gp⟩ := al.get q0'
        have hvv : v' = v := by
          have z : σ[i]? = some (some v) := hat _ List.mem_cons_self
          rw [g2] at z; cases z; rfl
        subst hvv
        rw [g1] at hf1
        have hmn : m ≤ n := of_decide_eq_true hf1
        have S2 : Sim X.K Z H (hrts (zipH ts ds vs) ++ (roots φ (e.set i none) σ ++ (⟨m, x, v'⟩ :: R))) := by
          have S1 : Sim X.K Z H (⟨n, x, v'⟩ :: (hrts (zipH ts ds vs) ++ (roots φ (e.set i none) σ ++ R))) := by
            refine S.perm ?_
            show (hrts (zipH ts ds vs) ++ (roots φ e σ ++ R)).Perm _
            refine (List.Perm.append_left _ (List.Perm.append_right R gp)).trans ?_
            exact List.perm_middle
          refine (S1.weak hmn).perm ?_
          rw [← List.append_assoc, ← List.append_assoc]
          exact List.perm_middle.symm
        obtain ⟨S3, a3, l1, l2⟩ := call_in (ms := ms) hf3 (by simpa using hd) (by simpa using hv) ((nowsD_set hf2).trans q) (fun h hh => hat h (List.mem_cons_of_mem _ hh)) al.clr S2
        refine ⟨S3.perm (?_ : List.Perm _ (⟨m, x, v'⟩ :: (argR ms ys vs ++ (roots φ (clrM ts (e.set i none)) σ ++ R)))), a3, by simp [l1], by simp [l2]⟩
        rw [← List.append_assoc, ← List.append_assoc]
        exact List.perm_middle
  | [], _ :: _, _, _, _, _, _, hf, _, _, _, _, _, _ => by simp [fitM] at hf
  | .fz :: _, [], _, _, _, _, _, hf, _, _, _, _, _, _ => by simp [fitM] at hf
  | .io _ _ :: _, [], _, _, _, _, _, hf, _, _, _, _, _, _ => by simp [fitM] at hf
  | .fz :: _, .sl _ :: _, _, _, _, _, _, hf, _, _, _, _, _, _ => by simp [fitM] at hf
  | .io m m' :: ms, .v k :: ts, d :: ds, v :: vs, xs, e, R, hf, hd, hv, h, hat, al, S => by
    unfold fitM at hf
    simp only [Bool.and_eq_true, decide_eq_true_eq] at hf
    unfold nowsD at h
    cases q : nowsD ts ds e with
    | none => rw [q] at h; cases h
    | some ys =>
      rw [q] at h
      cases h
      have S2 : Sim X.K Z H (hrts (zipH ts ds vs) ++ (roots φ e σ ++ (⟨k, d, v⟩ :: R))) := by
        refine S.perm ?_
        show (⟨k, d, v⟩ :: (hrts (zipH ts ds vs) ++ (roots φ e σ ++ R))).Perm _
        rw [← List.append_assoc, ← List.append_assoc]
        exact List.perm_middle.symm
      obtain ⟨S3, a3, l1, l2⟩ := call_in (ms := ms) hf.2 (by simpa using hd) (by simpa using hv) q (fun h hh => hat h (List.mem_cons_of_mem _ hh)) al S2
      refine ⟨?_, a3, by simp [l1], by simp [l2]⟩
      have S4 := S3.less (R' := argR ms ys vs ++ (roots φ (clrM ts e) σ ++ (⟨m, d, v⟩ :: R))) (Less.app (Less.refl _) (Less.app (Less.refl _) (.cons ⟨hf.1, rfl, rfl⟩ (Less.refl _))))
      refine S4.perm (?_ : List.Perm _ (⟨m, d, v⟩ :: (argR ms ys vs ++ (roots φ (clrM ts e) σ ++ R))))
      rw [← List.append_assoc, ← List.append_assoc]
      exact List.perm_middle
  | [], [], _ :: _, _, _, _, _, _, hd, _, _, _, _, _ => by simp at hd
  | [], [], [], _ :: _, _, _, _, _, _, hv, _, _, _, _ => by simp at hv
  | .fz :: _, .v _ :: _, [], _, _, _, _, _, hd, _, _, _, _, _ => by simp at hd
  | .fz :: _, .v _ :: _, _ :: _, [], _, _, _, _, _, hv, _, _, _, _ => by simp at hv
  | .io _ _ :: _, .sl _ :: _, [], _, _, _, _, _, hd, _, _, _, _, _ => by simp at hd
  | .io _ _ :: _, .sl _ :: _, _ :: _, [], _, _, _, _, _, hv, _, _, _, _ => by simp at hv

theorem roots_clr : ∀ {φ : List Nat} {e : Ev} {σ : St} {i : Nat}, (roots φ (e.set i none) σ).Sublist (roots φ e σ)
  | n :: φ, some d :: e, some v :: σ, 0 => List.sublist_cons_self _ _
  | n :: φ, none :: e, some v :: σ, 0 => .refl _
  | n :: φ, some d :: e, none :: σ, 0 => .refl _
  | n :: φ, none :: e, none :: σ, 0 => .refl _
  | n :: φ, some d :: e, some v :: σ, i + 1 => .cons_cons _ (roots_clr (i := i))
  | n :: φ, none :: e, some v :: σ, i + 1 => roots_clr (i := i)
  | n :: φ, some d :: e, none :: σ, i + 1 => roots_clr (i := i)
  | n :: φ, none :: e, none :: σ, i + 1 => roots_clr (i := i)
  | [], e, σ, i => by cases e <;> cases i <;> exact .refl _
  | _ :: _, [], σ, i => .refl _
  | _ :: _, d :: _, [], i => by cases d <;> cases i <;> exact .refl _
theorem call_out : ∀ {ms : List Md} {ts : List Tm} {ds : List DV} {vs : List V} {outs : List DV} {e e' : Ev} {φ ψ : List Nat} {R : List Root}, fitM ms ts ψ = true → ds.length = ts.length → vs.length = ts.length → putM ms ts outs e = some e' → (∀ h ∈ zipH ts ds vs, h.at σ) → Al φ e σ →
    Sim X.K Z H (outR ms outs vs ++ (roots φ e σ ++ R)) → Sim X.K Z H (roots (flM ms ts φ) e' σ ++ R) ∧ Al (flM ms ts φ) e' σ
  | [], [], _, _, [], e, e', φ, ψ, R, _, _, _, hp, _, al, S => by
    cases hp
    exact ⟨S, al⟩
  | .fz :: ms, .v k :: ts, d :: ds, v :: vs, outs, e, e', φ, ψ, R, hf, hd, hv, hp, hat, al, S =>
    call_out (ms := ms) (ts := ts) (ds := ds) (vs := vs) (ψ := ψ) hf (by simpa using hd) (by simpa using hv) hp (fun h hh => hat h (List.mem_cons_of_mem _ hh)) al S
  | .io m m' :: ms, .sl i :: ts, d :: ds, v :: vs, o :: outs, e, e', φ, ψ, R, hf, hd, hv, hp, hat, al, S => by
    unfold fitM at hf
    simp only [Bool.and_eq_true, Bool.not_eq_true'] at hf
    have z : σ[i]? = some (some v) := hat _ List.mem_cons_self
    obtain ⟨a2, p2⟩ := al.setE (d' := o) m' z
    refine call_out (ms := ms) (ts := ts) (ds := ds) (vs := vs) (ψ := ψ) hf.2 (by simpa using hd) (by simpa using hv) hp (fun h hh => hat h (List.mem_cons_of_mem _ hh)) a2 ?_
    have S1 : Sim X.K Z H (⟨m', o, v⟩ :: (outR ms outs vs ++ (roots φ (e.set i none) σ ++ R))) :=
      S.sub (.cons_cons _ (List.Sublist.append_left (List.Sublist.append_right roots_clr R) _))
    refine S1.perm ?_
    refine List.Perm.trans ?_ (List.Perm.append_left _ (List.Perm.append_right R p2.symm))
    rw [List.cons_append]
    exact List.perm_middle.symm
  | [], _ :: _, _, _, _, _, _, _, _, _, hf, _, _, _, _, _, _ => by simp [fitM] at hf
  | .fz :: _, [], _, _, _, _, _, _, _, _, hf, _, _, _, _, _, _ => by simp [fitM] at hf
  | .io _ _ :: _, [], _, _, _, _, _, _, _, _, hf, _, _, _, _, _, _ => by simp [fitM] at hf
  | .fz :: _, .sl _ :: _, _, _, _, _, _, _, _, _, hf, _, _, _, _, _, _ => by simp [fitM] at hf
  | .io m m' :: ms, .v k :: ts, d :: ds, v :: vs, o :: outs, e, e', φ, ψ, R, hf, hd, hv, hp, hat, al, S => by
    unfold fitM at hf
    simp only [Bool.and_eq_true, decide_eq_true_eq] at hf
    exact call_out (ms := ms) (ts := ts) (ds := ds) (vs := vs) (ψ := ψ) hf.2 (by simpa using hd) (by simpa using hv) hp (fun h hh => hat h (List.mem_cons_of_mem _ hh)) al (S.sub (List.sublist_cons_self _ _))
  | .io _ _ :: _, .v _ :: _, _, _, [], _, _, _, _, _, _, _, _, hp, _, _, _ => by simp [putM] at hp
  | .io _ _ :: _, .v _ :: _, [], _, _ :: _, _, _, _, _, _, _, hd, _, _, _, _, _ => by simp at hd
  | .io _ _ :: _, .v _ :: _, _ :: _, [], _ :: _, _, _, _, _, _, _, _, hv, _, _, _, _ => by simp at hv
  | [], [], _, _, _ :: _, _, _, _, _, _, _, _, _, hp, _, _, _ => by simp [putM] at hp
  | .io _ _ :: _, .sl _ :: _, _, _, [], _, _, _, _, _, _, _, _, hp, _, _, _ => by simp [putM] at hp
  | .fz :: _, .v _ :: _, [], _, _, _, _, _, _, _, _, hd, _, _, _, _, _ => by simp at hd
  | .fz :: _, .v _ :: _, _ :: _, [], _, _, _, _, _, _, _, _, hv, _, _, _, _ => by simp at hv
  | .io _ _ :: _, .sl _ :: _, [], _, _ :: _, _, _, _, _, _, _, hd, _, _, _, _, _ => by simp at hd
  | .io _ _ :: _, .sl _ :: _, _ :: _, [], _ :: _, _, _, _, _, _, _, _, hv, _, _, _, _ => by simp at hv
def callF (F : List DV → Res) (ms : List Md) (ts : List Tm) (f : M (List DV)) : M DV := fun env => (f env).bind fun ds e => match nowsD ts ds e with
  | some xs => (match F xs with
    | .ok d outs => (match putM ms ts outs (clrM ts e) with
      | some e' => .ok d e'
      | none => .bad)
    | .ex c g => .ex c g (clrM ts e)
    | .bad => .bad)
  | none => .bad
theorem zeros_le : ∀ {φ : List Nat} {e : Ev}, φ.length = e.length → leN (zeros e) φ = true
  | [], [], _ => rfl
  | n :: φ, d :: e, h => by
    show (decide (0 ≤ n) && leN (zeros e) φ) = true
    simp [zeros_le (φ := φ) (e := e) (by simpa using h)]
  | [], _ :: _, h => by simp at h
  | _ :: _, [], h => by simp at h
theorem callF_core {F : List DV → Res} {ms : List Md} {kr : Nat} {Q : VK} {ds : List DV} {vs : List V} (hf : fitM ms ts φ2 = true) (hl : ds.length = ts.length) (hv : vs.length = ts.length) (S : Stt X.K Z φ2 env (zipH ts ds vs) σ H L)
    (h : Wish X.K Z W L (match nowsD ts ds env with
      | some xs => (match F xs with
        | .ok d outs => (match putM ms ts outs (clrM ts env) with
          | some e' => Out.ok d e'
          | none => .bad)
        | .ex c g => .ex c g (clrM ts env)
        | .bad => .bad)
      | none => .bad) fun d e' => ∀ v H', Stt X.K Z (flM ms ts φ2) e' [⟨.v kr, d, v⟩] σ H' L → Q v H') : spD X.K Z ms kr F vs H Q fun cls d H' => W cls d σ H' := by
  cases q : nowsD ts ds env with
  | none => rw [q] at h; exact h.elim
  | some xs =>
    rw [q] at h
    simp only at h
    obtain ⟨S2, a2, l1, l2⟩ := call_in hf hl hv q S.at' S.al S.sim
    refine ⟨_, xs, l2, l1, S2, ?_⟩
    cases q2 : F xs with
    | bad => rw [q2] at h; exact h.elim
    | ex c g =>
      rw [q2] at h
      have h : XP X.K Z W L c g (clrM ts env) := h
      intro C a v H' hz hx S3
      have hlen := a2.len
      obtain ⟨a3, le3⟩ := a2.less (zeros_le (by rw [hlen.1, hlen.2]))
      exact h C a v σ H' hz hx (S3.less (.cons ⟨Nat.le_refl _, rfl, rfl⟩ (Less.app le3 (Less.refl L)))) a3
    | ok d outs =>
      rw [q2] at h
      simp only at h
      cases q3 : putM ms ts outs (clrM ts env) with
      | none => rw [q3] at h; exact h.elim
      | some e' =>
        rw [q3] at h
        intro v H' S3
        have S4 : Sim X.K Z H' (outR ms outs vs ++ (roots φ2 (clrM ts env) σ ++ (⟨kr, d, v⟩ :: L))) := by
          refine S3.perm ?_
          rw [← List.append_assoc, ← List.append_assoc]
          exact List.perm_middle.symm
        obtain ⟨S5, a5⟩ := call_out hf hl hv q3 S.at' a2 S4
        refine h v H' ⟨S5.perm ?_, a5, fun x hx => ?_⟩
        · show (roots (flM ms ts φ2) e' σ ++ (⟨kr, d, v⟩ :: L)).Perm (⟨kr, d, v⟩ :: (roots (flM ms ts φ2) e' σ ++ L))
          exact List.perm_middle
        · rw [List.mem_singleton.mp hx]; trivial
theorem je_call {F : List DV → Res} {ms : List Md} {kr : Nat} (G : FnOkG X.prog X.w X.K X.mg X.base k fn fd ps (spD X.K Z ms kr F)) (hr : Room k X.A) (hgd : X.A.guards = some []) (hg : Gl X x) (hm : X.mg x = some (.ref fn)) (hk : PySem.W.keepIn X.K (.ref fn) = true) (hb : Binds X.K fd ps [])
    (tk : Takes X W) (hdb : (x == ("__debug__" : Str)) = false) (hs : noStar a = true) (hpl : es.all noStar = true) (ha : JA X Z W φ (a :: es) φ2 ts f) (hf : fitM ms ts φ2 = true) :
    JE X Z W φ (.Call (.Name x p) (a :: es) [] pos) (flM ms ts φ2) (.v kr) (callF F ms ts f) := by
  refine pe_imp (pe_callG G hr hgd hg hm hk hb tk hdb hs hpl ha) fun σ H Q ⟨L, env, S, h⟩ => ?_
  exact ⟨L, env, S, h.bind.mono fun ds e' h1 vs H' hl hv S' => callF_core hf hl hv S' h1⟩
end
end Lk
namespace Lk
open PySem PySem.Spec L2

inductive Fl where
  | nx | br | ct
  | rt (d : DV)
def outsAt (P : List (Nat × Nat)) (e : Ev) : Option (List DV) := match P with
  | [] => some []
  | (i, _) :: P => match slot e i, outsAt P e with
    | some d, some ds => some (d :: ds)
    | _, _ => none
def retR : List (Nat × Nat) → List DV → List V → List Root
  | (_, m) :: P, d :: ds, v :: vs => ⟨m, d, v⟩ :: retR P ds vs
  | _, _, _ => []
/-- the values of the parameters that go back stand in their slots -/
def Pok (P : List (Nat × Nat)) (pv : List V) (σ : St) : Prop := Paired (fun p v => σ[p.1]? = some (some v)) P pv
section
variable (X : Cx) (Z : ClT) (W : WX) (P : List (Nat × Nat)) (kr : Nat)
structure SF where
  n : List Nat
  b : List Nat
  c : List Nat
def rdS (φ : List Nat) (ψ : SF) (g : M Fl) : TS := fun D σ H => ∃ L env pv, Stt X.K Z φ env [] σ H L ∧ Pok P pv σ ∧ Wish X.K Z W L (g env) fun fl e' => match fl with
  | .nx => ∀ σ' H', Stt X.K Z ψ.n e' [] σ' H' L → Pok P pv σ' → D.nx σ' H'
  | .br => ∀ σ' H', Stt X.K Z ψ.b e' [] σ' H' L → Pok P pv σ' → D.bk σ' H'
  | .ct => ∀ σ' H', Stt X.K Z ψ.c e' [] σ' H' L → Pok P pv σ' → D.ct σ' H'
  | .rt d => ∃ outs, outsAt P e' = some outs ∧ ∀ v H', Sim X.K Z H' (⟨kr, d, v⟩ :: (retR P outs pv ++ L)) → D.rt v H'
def JS (φ : List Nat) (s : Stmt) (ψ : SF) (g : M Fl) : Prop := PS X s (rdS X Z W P kr φ ψ g)
def JSs (φ : List Nat) (s : List Stmt) (ψ : SF) (g : M Fl) : Prop := PSs X s (rdS X Z W P kr φ ψ g)
end
section
variable {X : Cx} {Z : ClT} {W : WX} {P : List (Nat × Nat)} {kr : Nat} {φ φ1 φ2 : List Nat} {ψ ψ1 ψ2 : SF} {t ta : Tm} {fa : M DV} {g g1 g2 : M Fl} {σ : St} {H : Hp} {L : List Root} {env : Ev} {a e : Expr} {st : Stmt} {sts : List Stmt} {pos pos' p : Pos} {k : Nat}
theorem ps_imp {t t' : TS} (h : PS X st t) (i : ∀ D σ H, t' D σ H → t D σ H) : PS X st t' := ⟨fun pins s σ H D I q => h.run pins s σ H D I (i _ _ _ q)⟩
theorem pss_imp {t t' : TS} (h : PSs X sts t) (i : ∀ D σ H, t' D σ H → t D σ H) : PSs X sts t' := ⟨fun pins s σ H D I q => h.run pins s σ H D I (i _ _ _ q)⟩
/-- flags at all ends lessened -/
def leF (ψ χ : SF) : Bool := leN ψ.n χ.n && leN ψ.b χ.b && leN ψ.c χ.c
theorem rdS.imp {D D' : Ends} (hl : leF ψ2 ψ1 = true) (h : rdS X Z W P kr φ ψ2 g D σ H) (hn : D.nx = D'.nx) (hb : D.bk = D'.bk) (hc : D.ct = D'.ct) (hr : D.rt = D'.rt) : rdS X Z W P kr φ ψ1 g D' σ H := by
  obtain ⟨L, env, pv, S, hp, h⟩ := h
  unfold leF at hl
  simp only [Bool.and_eq_true] at hl
  refine ⟨L, env, pv, S, hp, h.mono fun fl e' q => ?_⟩
  cases fl with
  | nx => exact fun σ' H' s z => by rw [← hn]; exact q σ' H' (s.less hl.1.1) z
  | br => exact fun σ' H' s z => by rw [← hb]; exact q σ' H' (s.less hl.1.2) z
  | ct => exact fun σ' H' s z => by rw [← hc]; exact q σ' H' (s.less hl.2) z
  | rt d =>
    obtain ⟨outs, h1, h2⟩ := q
    exact ⟨outs, h1, fun v H' s => by rw [← hr]; exact h2 v H' s⟩
theorem js_less (h : JS X Z W P kr φ st ψ1 g) (hl : leF ψ2 ψ1 = true) : JS X Z W P kr φ st ψ2 g := ps_imp h fun D σ H q => q.imp hl rfl rfl rfl rfl
theorem jss_less (h : JSs X Z W P kr φ sts ψ1 g) (hl : leF ψ2 ψ1 = true) : JSs X Z W P kr φ sts ψ2 g := pss_imp h fun D σ H q => q.imp hl rfl rfl rfl rfl

def nxM : M Fl := fun e => .ok .nx e
theorem js_next (h : PS X st tNext) (hn : ψ.n = φ) : JS X Z W P kr φ st ψ nxM := ps_imp h fun D σ H ⟨L, env, pv, S, hp, q⟩ => by
  rw [hn] at q
  exact (show ∀ σ' H', Stt X.K Z φ env [] σ' H' L → Pok P pv σ' → D.nx σ' H' from q) σ H S hp
theorem js_pass (hn : ψ.n = φ) : JS X Z W P kr φ (.Pass pos) ψ nxM := js_next ps_pass hn
theorem js_doc {x : Str} {j : Nat} (hn : ψ.n = φ) : JS X Z W P kr φ (.Expr (.Constant (.str x) j pos) pos') ψ nxM := js_next ps_doc hn
theorem js_break (hn : ψ.b = φ) : JS X Z W P kr φ (.Break pos) ψ (fun e => .ok .br e) := ps_imp ps_break fun D σ H ⟨L, env, pv, S, hp, q⟩ => by
  rw [hn] at q
  exact (show ∀ σ' H', Stt X.K Z φ env [] σ' H' L → Pok P pv σ' → D.bk σ' H' from q) σ H S hp
theorem js_continue (hn : ψ.c = φ) : JS X Z W P kr φ (.Continue pos) ψ (fun e => .ok .ct e) := ps_imp ps_continue fun D σ H ⟨L, env, pv, S, hp, q⟩ => by
  rw [hn] at q
  exact (show ∀ σ' H', Stt X.K Z φ env [] σ' H' L → Pok P pv σ' → D.ct σ' H' from q) σ H S hp
def seqM (g1 g2 : M Fl) : M Fl := fun e => (g1 e).bind fun fl e' => match fl with
  | .nx => g2 e'
  | .br => .ok .br e'
  | .ct => .ok .ct e'
  | .rt d => .ok (.rt d) e'
theorem jss_nil (hn : ψ.n = φ) : JSs X Z W P kr φ [] ψ nxM := pss_imp pss_nil fun D σ H ⟨L, env, pv, S, hp, q⟩ => by
  rw [hn] at q
  exact (show ∀ σ' H', Stt X.K Z φ env [] σ' H' L → Pok P pv σ' → D.nx σ' H' from q) σ H S hp
theorem jss_cons (h1 : JS X Z W P kr φ st ψ1 g1) (h2 : JSs X Z W P kr ψ1.n sts ψ g2) (hb : leN ψ.b ψ1.b = true) (hc : leN ψ.c ψ1.c = true) : JSs X Z W P kr φ (st :: sts) ψ (seqM g1 g2) := by
  refine pss_imp (pss_cons h1 h2) fun D σ H ⟨L, env, pv, S, hp, q⟩ => ?_
  refine ⟨L, env, pv, S, hp, q.bind.mono fun fl e' q => ?_⟩
  cases fl with
  | nx => exact fun σ' H' s z => ⟨L, e', pv, s, z, q⟩
  | br => exact fun σ' H' s z => (show ∀ σ' H', Stt X.K Z ψ.b e' [] σ' H' L → Pok P pv σ' → D.bk σ' H' from q) σ' H' (s.less hb) z
  | ct => exact fun σ' H' s z => (show ∀ σ' H', Stt X.K Z ψ.c e' [] σ' H' L → Pok P pv σ' → D.ct σ' H' from q) σ' H' (s.less hc) z
  | rt d => exact q
def ifS (ft : M Bool) (g1 g2 : M Fl) : M Fl := fun e => (ft e).bind fun b e' => match b with
  | true => g1 e'
  | false => g2 e'
theorem js_if {c : Expr} {s1 s2 : List Stmt} {ft : M Bool} (hc : JT X Z W φ c φ1 ft) (h1 : JSs X Z W P kr φ1 s1 ψ1 g1) (h2 : JSs X Z W P kr φ1 s2 ψ2 g2) (l1 : leF ψ ψ1 = true) (l2 : leF ψ ψ2 = true) : JS X Z W P kr φ (.If c s1 s2 pos) ψ (ifS ft g1 g2) := by
  refine ps_imp (ps_if hc (jss_less h1 l1) (jss_less h2 l2)) fun D σ H ⟨L, env, pv, S, hp, q⟩ => ?_
  refine rdT.go S (q.bind.mono fun b e' q H' s => ?_)
  cases b with
  | true => exact ⟨L, e', pv, s, hp, q⟩
  | false => exact ⟨L, e', pv, s, hp, q⟩
/-! the value goes into a slot -/
theorem Stt.store {i : Nat} {d : DV} {v : V} (S : Stt X.K Z φ env [⟨.v k, d, v⟩] σ H L) (hi : i < env.length) : Stt X.K Z (φ.set i k) (env.set i (some d)) [] (σ.set i (some v)) H L := by
  obtain ⟨a, p⟩ := S.al.set (m := k) (d := d) (v := v) hi
  refine ⟨?_, a, fun _ h => nomatch h⟩
  have S1 : Sim X.K Z H (⟨k, d, v⟩ :: (roots φ (env.set i none) σ ++ L)) := S.sim.sub (.cons_cons _ (List.Sublist.append_right roots_clr L))
  refine S1.perm ?_
  exact (List.Perm.append_right L p.symm)
theorem Pok.set {pv : List V} {i : Nat} {v : V} (h : Pok P pv σ) (hi : P.all (fun p => p.1 != i) = true) : Pok P pv (σ.set i (some v)) := by
  induction h with
  | nil => exact .nil
  | cons q _ ih =>
    simp only [List.all_cons, Bool.and_eq_true] at hi
    refine .cons ?_ (ih hi.2)
    rw [List.getElem?_set_ne (by have := hi.1; simp at this; exact fun z => this z.symm)]
    exact q
def setM (i : Nat) (fa : M DV) : M Fl := fun env => (fa env).bind fun d e => if i < e.length then .ok .nx (e.set i (some d)) else .bad
theorem js_set {i : Nat} {x : Str} (hN : X.N.Nodup) (hi : X.N[i]? = some x) (hx : Loc X.env.scope x) (hf : X.fn x = true ∨ X.env.scope.names.lookup x = some .local) (hs : swapsWith e (some (.Name x pos')) pos.line X.env = pure false)
    (he : JE X Z W φ e φ1 (.v k) fa) (hP : P.all (fun p => p.1 != i) = true) (hn : ψ.n = φ1.set i k) : JS X Z W P kr φ (.Assign [.Name x pos'] e pos) ψ (setM i fa) := by
  refine ps_imp (ps_set hN hi hx he hs hf) fun D σ H ⟨L, env, pv, S, hp, q⟩ => ?_
  refine rdE.go S (q.bind.mono fun d e' q v H' s => ?_)
  split at q
  · rename_i hl
    rw [hn] at q
    exact (show ∀ σ' H', Stt X.K Z (φ1.set i k) (e'.set i (some d)) [] σ' H' L → Pok P pv σ' → D.nx σ' H' from q) _ _ (s.store hl) (hp.set hP)
  · exact q.elim
/-! return -/
def retM (P : List (Nat × Nat)) (fa : M DV) : M Fl := fun env => (fa env).bind fun d e => match outsAt P e with
  | some _ => .ok (.rt d) e
  | none => .bad
def retOk (P : List (Nat × Nat)) (φ : List Nat) : Bool := P.all fun p => match φ[p.1]? with
  | some n => decide (p.2 ≤ n)
  | none => false
theorem ret_core : ∀ {P : List (Nat × Nat)} {pv : List V} {outs : List DV} {e : Ev} {φ : List Nat} {R : List Root}, retOk P φ = true → (P.map (·.1)).Nodup → outsAt P e = some outs → Pok P pv σ → Al φ e σ → Sim X.K Z H (roots φ e σ ++ R) → Sim X.K Z H (retR P outs pv ++ R)
  | [], _, _, e, φ, R, _, _, ho, hp, _, S => by
    cases ho
    exact S.sub (List.sublist_append_right _ _)
  | (i, m) :: P, v :: pv, outs, e, φ, R, hr, hd, ho, .cons q hp, al, S => by
    unfold outsAt at ho
    cases q1 : slot e i with
    | none => rw [q1] at ho; cases ho
    | some d =>
      cases q2 : outsAt P e with
      | none => rw [q1, q2] at ho; cases ho
      | some ds =>
        rw [q1, q2] at ho
        cases ho
        unfold retOk at hr
        simp only [List.all_cons, Bool.and_eq_true] at hr
        obtain ⟨n, v', g1, g2, gp⟩ := al.get q1
        rw [q] at g2
        cases g2
        have hr1 := hr.1
        rw [g1] at hr1
        have hmn : m ≤ n := of_decide_eq_true hr1
        have S1 : Sim X.K Z H (⟨m, d, v⟩ :: (roots φ (e.set i none) σ ++ R)) := (S.perm (List.Perm.append_right R gp)).weak hmn
        have S2 : Sim X.K Z H (roots φ (e.set i none) σ ++ (⟨m, d, v⟩ :: R)) := S1.perm List.perm_middle.symm
        have hd' : i ∉ P.map (·.1) ∧ (P.map (·.1)).Nodup := List.nodup_cons.mp hd
        have q3 : outsAt P (e.set i none) = some ds := by
          rw [← q2]
          clear q2 hp hr S S1 S2
          have hd1 := hd'.1
          clear hd hd'
          induction P with
          | nil => rfl
          | cons p P ih =>
            obtain ⟨j, mj⟩ := p
            simp only [List.map_cons, List.mem_cons, not_or] at hd1
            unfold outsAt
            rw [slot_set_ne hd1.1, ih hd1.2]
        have S3 := ret_core (P := P) hr.2 hd'.2 q3 hp al.clr S2
        exact S3.perm List.perm_middle
theorem js_ret (he : JE X Z W φ e φ1 (.v k) fa) (hk : kr ≤ k) (hr : retOk P φ1 = true) (hd : (P.map (·.1)).Nodup) : JS X Z W P kr φ (.Return (some e) pos) ψ (retM P fa) := by
  refine ps_imp (ps_ret he) fun D σ H ⟨L, env, pv, S, hp, q⟩ => ?_
  refine rdE.go S (q.bind.mono fun d e' q v H' s => ?_)
  cases q1 : outsAt P e' with
  | none => rw [q1] at q; exact q.elim
  | some outs =>
    rw [q1] at q
    obtain ⟨outs', h1, h2⟩ : ∃ outs, outsAt P e' = some outs ∧ ∀ v H', Sim X.K Z H' (⟨kr, d, v⟩ :: (retR P outs pv ++ L)) → D.rt v H' := q
    rw [q1] at h1; cases h1
    refine h2 v H' ?_
    have S1 : Sim X.K Z H' (roots φ1 e' σ ++ (⟨kr, d, v⟩ :: L)) := by
      refine (Sim.weak s.sim hk).perm ?_
      show (⟨kr, d, v⟩ :: (roots φ1 e' σ ++ L)).Perm _
      exact List.perm_middle.symm
    exact (ret_core hr hd q1 hp s.al S1).perm List.perm_middle
theorem outsAt_clr {i : Nat} {e : Ev} : ∀ {P : List (Nat × Nat)}, P.all (fun p => p.1 != i) = true → outsAt P (e.set i none) = outsAt P e
  | [], _ => rfl
  | (j, m) :: P, h => by
    simp only [List.all_cons, Bool.and_eq_true] at h
    unfold outsAt
    rw [outsAt_clr h.2, slot_set_ne (by have := h.1; simp at this; exact fun z => this z.symm)]
/-- a name that is returned: what it holds goes over whole -/
theorem js_retV {i n : Nat} {x : Str} (hN : X.N[i]? = some x) (hv : Vis X.env.scope x) (hdb : (x == ("__debug__" : Str)) = false) (hcd : (x == ("__classdict__" : Str)) = false) (hφ : φ[i]? = some n) (hk : kr ≤ n) (hr : retOk P φ = true) (hd : (P.map (·.1)).Nodup) (hP : P.all (fun p => p.1 != i) = true) :
    JS X Z W P kr φ (.Return (some (.Name x p)) pos) ψ (retM P (slotM i)) := by
  refine ps_imp (ps_ret (pe_var hN hv hdb hcd)) fun D σ H ⟨L, env, pv, S, hp, q⟩ => ?_
  unfold retM slotM at q
  cases q0 : slot env i with
  | none => rw [q0] at q; exact q.elim
  | some d =>
    rw [q0] at q
    have q : Wish X.K Z W L (match outsAt P env with
      | some _ => Out.ok (Fl.rt d) env
      | none => .bad) _ := q
    cases q1 : outsAt P env with
    | none => rw [q1] at q; exact q.elim
    | some outs =>
      rw [q1] at q
      obtain ⟨outs', h1, h2⟩ : ∃ outs, outsAt P env = some outs ∧ ∀ v H', Sim X.K Z H' (⟨kr, d, v⟩ :: (retR P outs pv ++ L)) → D.rt v H' := q
      rw [q1] at h1; cases h1
      obtain ⟨n', v, g1, g2, gp⟩ := S.al.get q0
      rw [hφ] at g1; cases g1
      refine ⟨v, g2, h2 v H ?_⟩
      have S0 : Sim X.K Z H (roots φ env σ ++ L) := S.sim
      have S1 : Sim X.K Z H (⟨kr, d, v⟩ :: (roots φ (env.set i none) σ ++ L)) := (S0.perm (List.Perm.append_right L gp)).weak hk
      have S2 : Sim X.K Z H (roots φ (env.set i none) σ ++ (⟨kr, d, v⟩ :: L)) := S1.perm List.perm_middle.symm
      exact (ret_core hr hd ((outsAt_clr hP).trans q1) hp S.al.clr S2).perm List.perm_middle
theorem js_retN (hr : retOk P φ = true) (hd : (P.map (·.1)).Nodup) : JS X Z W P kr φ (.Return none pos) ψ (retM P (M.pure (.d .none))) := by
  refine ps_imp ps_retN fun D σ H ⟨L, env, pv, S, hp, q⟩ => ?_
  have q : Wish X.K Z W L (match outsAt P env with
    | some _ => Out.ok (Fl.rt (.d .none)) env
    | none => .bad) _ := q
  cases q1 : outsAt P env with
  | none => rw [q1] at q; exact q.elim
  | some outs =>
    rw [q1] at q
    obtain ⟨outs', h1, h2⟩ : ∃ outs, outsAt P env = some outs ∧ ∀ v H', Sim X.K Z H' (⟨kr, .d .none, v⟩ :: (retR P outs pv ++ L)) → D.rt v H' := q
    rw [q1] at h1; cases h1
    exact h2 .non H ((ret_core hr hd q1 hp S.al S.sim).scal (.d .non))
/-! a value that is dropped -/
def dropM (fa : M DV) : M Fl := fun env => (fa env).bind fun _ e => .ok .nx e
theorem js_expr (he : JE X Z W φ e φ1 t fa) (hs : swapsWith e none pos.line X.env = pure false) (hn : ψ.n = φ1) : JS X Z W P kr φ (.Expr e pos) ψ (dropM fa) := by
  refine ps_imp (ps_expr he hs) fun D σ H ⟨L, env, pv, S, hp, q⟩ => ?_
  refine rdE.go S (q.bind.mono fun d e' q v H' s => ?_)
  rw [hn] at q
  exact (show ∀ σ' H', Stt X.K Z φ1 e' [] σ' H' L → Pok P pv σ' → D.nx σ' H' from q) σ H' s.free hp
end
end Lk
namespace Lk
open PySem PySem.Spec L2

inductive Tgt where
  | nm (i : Nat)
  | tp (is : List Nat)
def setAll {α : Type} : List Nat → List α → List (Option α) → List (Option α)
  | i :: is, v :: vs, σ => setAll is vs (σ.set i (some v))
  | _, _, σ => σ
def setFl : List Nat → List Nat → List Nat
  | i :: is, φ => setFl is (φ.set i 0)
  | [], φ => φ
def tgM : Tgt → DV → M Unit
  | .nm i, d => fun e => if i < e.length then .ok () (e.set i (some d)) else .bad
  | .tp is, .d (.tuple ds) => fun e => if ds.length = is.length ∧ is.all (fun i => decide (i < e.length)) = true then .ok () (setAll is (ds.map .d) e) else .bad
  | .tp is, .d (.list ds) => fun e => if ds.length = is.length ∧ is.all (fun i => decide (i < e.length)) = true then .ok () (setAll is (ds.map .d) e) else .bad
  | _, _ => fun _ => .bad
def tgF : Tgt → Nat → List Nat → List Nat
  | .nm i, k, φ => φ.set i k
  | .tp is, _, φ => setFl is φ
def tgFree (P : List (Nat × Nat)) : Tgt → Bool
  | .nm i => P.all fun p => p.1 != i
  | .tp is => is.all fun i => P.all fun p => p.1 != i
section
variable {X : Cx} {Z : ClT} {W : WX} {P : List (Nat × Nat)} {kr : Nat} {φ φ1 φ2 φ' : List Nat} {ψ ψ1 ψ2 : SF} {t ta : Tm} {fa : M DV} {g g1 g2 : M Fl} {σ : St} {H : Hp} {L : List Root} {env : Ev} {a e tg : Expr} {st : Stmt} {sts : List Stmt} {pos pos' p : Pos} {k : Nat}
def tgS : Tgt → List Nat
  | .nm i => [i]
  | .tp is => is
/-- what a target of names does -/
def JG (X : Cx) (Z : ClT) (tg : Expr) (T : Tgt) : Prop := PG X tg fun v σ H Q => ∃ (L : List Root) (env : Ev) (φ : List Nat) (k : Nat) (d : DV) (W : WX), Stt X.K Z φ env [⟨.v k, d, v⟩] σ H L ∧ k ≤ 1 ∧
  Wish X.K Z W L (tgM T d env) fun _ e' => ∀ σ' H', Stt X.K Z (tgF T k φ) e' [] σ' H' L → (∀ P pv, tgFree P T = true → Pok P pv σ → Pok P pv σ') → (σ'.length = σ.length ∧ ∀ j, j ∉ tgS T → σ'[j]? = σ[j]?) → Q σ' H'
theorem pg_imp {tg : Expr} {t t' : TG} (h : PG X tg t) (i : ∀ v σ H Q, t' v σ H Q → t v σ H Q) : PG X tg t' := ⟨fun pins s σ H v u Q I r q => h.run pins s σ H v u Q I r (i _ _ _ _ q)⟩
theorem jg_name {i : Nat} {x : Str} (hN : X.N.Nodup) (hi : X.N[i]? = some x) (hx : Loc X.env.scope x) (hf : X.fn x = true ∨ X.env.scope.names.lookup x = some .local) : JG X Z (.Name x pos) (.nm i) := by
  refine pg_imp (pg_name hN hi hx hf) fun v σ H Q ⟨L, env, φ, k, d, W, S, hk, q⟩ => ?_
  unfold tgM at q
  simp only at q
  split at q
  · rename_i hl
    exact q _ _ (S.store hl) (fun P pv hP hp => hp.set hP) ⟨List.length_set .., fun j hj => List.getElem?_set_ne fun z => hj (by simp [tgS, z])⟩
  · exact q.elim
def gNames (is : List Nat) : TGs := fun vs σ H Q => vs.length = is.length ∧ Q (setAll is vs σ) H
theorem pgs_imp {ts : List Expr} {t t' : TGs} (h : PGs X ts t) (i : ∀ v σ H Q, t' v σ H Q → t v σ H Q) : PGs X ts t' := ⟨fun pins s σ H v u Q I r q => h.run pins s σ H v u Q I r (i _ _ _ _ q)⟩
theorem pgs_n0 : PGs X [] (gNames []) := pgs_imp pgs_nil fun vs σ H Q ⟨h, q⟩ => by
  cases vs with
  | nil => exact ⟨rfl, q⟩
  | cons _ _ => simp at h
theorem pgs_n1 {i : Nat} {x : Str} {es : List Expr} {is : List Nat} (hN : X.N.Nodup) (hi : X.N[i]? = some x) (hx : Loc X.env.scope x) (hf : X.fn x = true ∨ X.env.scope.names.lookup x = some .local) (h : PGs X es (gNames is)) : PGs X (.Name x pos :: es) (gNames (i :: is)) :=
  pgs_imp (pgs_cons (pg_name hN hi hx hf) h rfl) fun vs σ H Q ⟨hl, q⟩ => by
    cases vs with
    | nil => simp at hl
    | cons v vs => exact ⟨v, vs, rfl, by simpa using hl, q⟩
theorem setAll_ok : ∀ {is : List Nat} {ds : List PyData} {vs : List V} {φ : List Nat} {env : Ev} {σ : St}, ds.length = is.length → vs.length = is.length → is.all (fun i => decide (i < env.length)) = true → Al φ env σ → Sim X.K Z H (kids 0 ds vs ++ (roots φ env σ ++ L)) →
    Sim X.K Z H (roots (setFl is φ) (setAll is (ds.map .d) env) (setAll is vs σ) ++ L) ∧ Al (setFl is φ) (setAll is (ds.map .d) env) (setAll is vs σ)
  | [], [], [], φ, env, σ, _, _, _, al, S => ⟨S, al⟩
  | i :: is, d :: ds, v :: vs, φ, env, σ, h1, h2, h3, al, S => by
    simp only [List.all_cons, Bool.and_eq_true, decide_eq_true_eq] at h3
    obtain ⟨a, p⟩ := al.set (m := 0) (d := .d d) (v := v) h3.1
    refine setAll_ok (is := is) (by simpa using h1) (by simpa using h2) (by rw [List.length_set]; exact h3.2) a ?_
    have S1 : Sim X.K Z H (⟨0, .d d, v⟩ :: (kids 0 ds vs ++ (roots φ (env.set i none) σ ++ L))) := S.sub (.cons_cons _ (List.Sublist.append_left (List.Sublist.append_right roots_clr L) _))
    refine S1.perm ?_
    refine List.Perm.trans ?_ (List.Perm.append_left _ (List.Perm.append_right L p.symm))
    rw [List.cons_append]
    exact List.perm_middle.symm
  | [], _ :: _, _, _, _, _, h, _, _, _, _ => by simp at h
  | [], [], _ :: _, _, _, _, _, h, _, _, _ => by simp at h
  | _ :: _, [], _, _, _, _, h, _, _, _, _ => by simp at h
  | _ :: _, _ :: _, [], _, _, _, _, h, _, _, _ => by simp at h
theorem Pok.setAll {pv : List V} : ∀ {is : List Nat} {vs : List V} {σ : St}, (is.all fun i => P.all fun p => p.1 != i) = true → Pok P pv σ → Pok P pv (Lk.setAll is vs σ)
  | [], _, _, _, h => by unfold Lk.setAll; exact h
  | i :: is, [], _, _, h => h
  | i :: is, v :: vs, σ, h1, h => by
    simp only [List.all_cons, Bool.and_eq_true] at h1
    exact Pok.setAll (is := is) h1.2 (h.set h1.1)
def tgLen (es : List Expr) : Bool := es.all fun e => match e with
  | .Name .. => true
  | _ => false
theorem setAll_same {α : Type} : ∀ (is : List Nat) (vs : List α) (σ : List (Option α)), (setAll is vs σ).length = σ.length ∧ ∀ j, j ∉ is → (setAll is vs σ)[j]? = σ[j]?
  | [], _, σ => by unfold setAll; exact ⟨rfl, fun _ _ => rfl⟩
  | i :: is, [], σ => ⟨rfl, fun _ _ => rfl⟩
  | i :: is, v :: vs, σ => by
    obtain ⟨q1, q2⟩ := setAll_same is vs (σ.set i (some v))
    refine ⟨by show (setAll is vs (σ.set i (some v))).length = _; rw [q1, List.length_set], fun j hj => ?_⟩
    simp only [List.mem_cons, not_or] at hj
    show (setAll is vs (σ.set i (some v)))[j]? = _
    rw [q2 j hj.2, List.getElem?_set_ne (fun z => hj.1 z.symm)]
theorem tgLen_ok {env : PySem.Env} : ∀ {es : List Expr}, tgLen es = true → (assignEach es env).length = es.length ∧ (assignEach es env).findIdx? (·.1) = none
  | [], _ => ⟨rfl, rfl⟩
  | e :: es, h => by
    simp only [tgLen, List.all_cons, Bool.and_eq_true] at h
    obtain ⟨q1, q2⟩ := tgLen_ok (env := env) (es := es) h.2
    cases e <;> first | cases h.1 | skip
    refine ⟨?_, ?_⟩
    · show ((false, _) :: assignEach es env).length = es.length + 1
      simp [q1]
    · show List.findIdx? (·.1) ((false, _) :: assignEach es env) = none
      rw [List.findIdx?_cons]
      simp [q2]
theorem jg_tup {es : List Expr} {is : List Nat} {n : Nat} (hc : X.calm = true) (hl : tgLen es = true) (hn : es.length = is.length) (h : PGs X es (gNames is)) : JG X Z (.Tuple es n pos) (.tp is) := by
  obtain ⟨q1, q2⟩ := tgLen_ok (env := X.env) hl
  have two : PG X (.Tuple es n pos) (fun v σ H Q => gTup X.K es.length (gNames is) v σ H Q ∨ gUnl X.K es.length (gNames is) v σ H Q) := ⟨fun pins s σ H v u Q I r h' => h'.elim (fun h' => (pg_tup hc h q1 q2).run pins s σ H v u Q I r h') fun h' => (pg_unl hc h q1 q2).run pins s σ H v u Q I r h'⟩
  refine pg_imp two fun v σ H Q ⟨L, env, φ, k, d, W, S, hk, q⟩ => ?_
  cases d with
  | d x =>
    cases x with
    | tuple ds =>
      have q : Wish X.K Z W L (if ds.length = is.length ∧ is.all (fun i => decide (i < env.length)) = true then Out.ok () (setAll is (ds.map .d) env) else .bad) _ := q
      split at q
      · rename_i hc
        obtain ⟨a, vs, e1, hs, hl, S2⟩ := S.sim.openT (ds := ds) (v := v) (n := k) (List.mem_cons_self) hk
        have S3 : Sim X.K Z H (kids 0 ds vs ++ (roots φ env σ ++ L)) := S2.sub (List.Sublist.append_left (List.sublist_cons_self _ _) _)
        obtain ⟨S4, a4⟩ := setAll_ok hc.1 (by rw [← hl]; exact hc.1) hc.2 S.al S3
        exact .inl ⟨a, vs, e1, hs, by rw [← hl, hc.1, hn], by rw [← hl]; exact hc.1, q _ _ ⟨S4, a4, fun _ h => nomatch h⟩ (fun P pv hP hp => hp.setAll hP) (setAll_same is vs σ)⟩
      · exact q.elim
    | list ds =>
      have q : Wish X.K Z W L (if ds.length = is.length ∧ is.all (fun i => decide (i < env.length)) = true then Out.ok () (setAll is (ds.map .d) env) else .bad) _ := q
      split at q
      · rename_i hc
        obtain ⟨a, vs, e1, hs, hl, S2⟩ := S.sim.openL (ds := ds) (v := v) (n := k) (List.mem_cons_self) hk
        have S3 : Sim X.K Z H (kids 0 ds vs ++ (roots φ env σ ++ L)) := S2.sub (List.Sublist.append_left (List.sublist_cons_self _ _) _)
        obtain ⟨S4, a4⟩ := setAll_ok hc.1 (by rw [← hl]; exact hc.1) hc.2 S.al S3
        exact .inr ⟨a, vs, e1, .of hs, by rw [← hl, hc.1, hn], by rw [← hl]; exact hc.1, q _ _ ⟨S4, a4, fun _ h => nomatch h⟩ (fun P pv hP hp => hp.setAll hP) (setAll_same is vs σ)⟩
      · exact q.elim
    | _ => exact q.elim
  | _ => exact q.elim
/-- targets = value, not by swapped stores -/
def asgM (T : Tgt) (fa : M DV) : M Fl := fun env => (fa env).bind fun d e => (tgM T d e).bind fun _ e' => .ok .nx e'
theorem js_asg {T : Tgt} (he : JE X Z W φ e φ1 (.v k) fa) (hg : JG X Z tg T) (hs : swapsWithSole [tg] e pos.line X.env = pure false) (hw : swappedStores [tg] e X.env = pure none) (h1 : (assignEach [tg] X.env).map (·.2) = [assign tg X.env])
    (hP : tgFree P T = true) (hn : ψ.n = tgF T (min 1 k) φ1) : JS X Z W P kr φ (.Assign [tg] e pos) ψ (asgM T fa) := by
  refine ps_imp (ps_asg he hg hs hw h1) fun D σ H ⟨L, env, pv, S, hp, q⟩ => ?_
  refine rdE.go S (q.bind.mono fun d e' q v H' s => ?_)
  have s2 : Stt X.K Z φ1 e' [⟨.v (min 1 k), d, v⟩] σ H' L := ⟨Sim.weak s.sim (Nat.min_le_right _ _), s.al, fun x hx => by rw [List.mem_singleton.mp hx]; trivial⟩
  refine ⟨L, e', φ1, min 1 k, d, W, s2, Nat.min_le_left _ _, q.bind.mono fun _ e2 q2 σ' H2 s3 keep _ => ?_⟩
  rw [hn] at q2
  exact (show ∀ σ' H', Stt X.K Z (tgF T (min 1 k) φ1) e2 [] σ' H' L → Pok P pv σ' → D.nx σ' H' from q2) σ' H2 s3 (keep P pv hP hp)
/-! ### while -/
def whileM (c : M Bool) (b : M Fl) : Nat → M Fl
  | 0 => fun _ => .bad
  | n + 1 => fun e => (c e).bind fun k e1 => match k with
    | false => .ok .nx e1
    | true => (b e1).bind fun fl e2 => match fl with
      | .nx => whileM c b n e2
      | .ct => whileM c b n e2
      | .br => .ok .nx e2
      | .rt d => .ok (.rt d) e2
theorem js_while {c : Expr} {ft : M Bool} {φL φB : List Nat} (hp : PassesOwn (model X.prog X.w) X.A X.env X.xe) (hc : JT X Z W φL c φ1 ft) (hb : JSs X Z W P kr φ1 sts ψ1 g) (l0 : leN φL φ = true) (l1 : leN φL ψ1.n = true) (l2 : leN φL ψ1.c = true) (l3 : leN ψ.n φ1 = true) (l4 : leN ψ.n ψ1.b = true) :
    JS X Z W P kr φ (.While c sts [] pos) ψ (whileM ft g big) := by
  refine ps_imp (ps_while hp hc hb) fun D σ H ⟨L, env, pv, S, hpv, q⟩ => ?_
  refine ⟨fun m σ H => ∃ env, Stt X.K Z φL env [] σ H L ∧ Pok P pv σ ∧ Wish X.K Z W L (whileM ft g m env) fun fl e' => match fl with
    | .nx => ∀ σ' H', Stt X.K Z ψ.n e' [] σ' H' L → Pok P pv σ' → D.nx σ' H'
    | .br => False
    | .ct => False
    | .rt d => ∃ outs, outsAt P e' = some outs ∧ ∀ v H', Sim X.K Z H' (⟨kr, d, v⟩ :: (retR P outs pv ++ L)) → D.rt v H', ⟨big, env, S.less l0, hpv, ?_⟩, ?_⟩
  · have key : ∀ (n : Nat) (e : Ev) (k : Fl → Ev → Prop), Wish X.K Z W L (whileM ft g n e) k → Wish X.K Z W L (whileM ft g n e) fun fl e' => (fl = .br → False) ∧ (fl = .ct → False) ∧ k fl e' := by
      intro n
      induction n with
      | zero => intro e k h; exact h
      | succ n ih =>
        intro e k h
        unfold whileM at h ⊢
        have h := h.bind
        cases q1 : ft e with
        | bad => rw [q1] at h; exact h.elim
        | ex c x e1 => rw [q1] at h; exact h
        | ok b e1 =>
          rw [q1] at h
          cases b with
          | false => exact ⟨(fun z => nomatch z), (fun z => nomatch z), h⟩
          | true =>
            have h : Wish X.K Z W L ((g e1).bind _) k := h
            have h := h.bind
            show Wish X.K Z W L ((g e1).bind _) _
            cases q2 : g e1 with
            | bad => rw [q2] at h; exact h.elim
            | ex c x e2 => rw [q2] at h; exact h
            | ok fl e2 =>
              rw [q2] at h
              cases fl with
              | nx => exact ih e2 k h
              | ct => exact ih e2 k h
              | br => exact ⟨(fun z => nomatch z), (fun z => nomatch z), h⟩
              | rt d => exact ⟨(fun z => nomatch z), (fun z => nomatch z), h⟩
    refine (key _ _ _ q).mono fun fl e' ⟨h1, h2, h3⟩ => ?_
    cases fl with
    | nx => exact h3
    | br => exact (h1 rfl).elim
    | ct => exact (h2 rfl).elim
    | rt d => exact h3
  · rintro m σ H ⟨env, S, hpv, q⟩
    cases m with
    | zero => exact q.elim
    | succ n =>
      refine rdT.go S (q.bind.mono fun b e1 q1 H1 S1 => ?_)
      cases b with
      | false => exact (show ∀ σ' H', Stt X.K Z ψ.n e1 [] σ' H' L → Pok P pv σ' → D.nx σ' H' from q1) σ H1 (S1.less l3) hpv
      | true =>
        rw [if_pos rfl]
        refine ⟨fun σ' H' => ∃ env, Stt X.K Z φL env [] σ' H' L ∧ Pok P pv σ' ∧ Wish X.K Z W L (whileM ft g n env) _, fun σ' H' h => ⟨n, Nat.lt_succ_self n, h⟩, L, e1, pv, S1, hpv, q1.bind.mono fun fl e2 q2 => ?_⟩
        cases fl with
        | nx => exact fun σ' H' s z => ⟨e2, s.less l1, z, q2⟩
        | ct => exact fun σ' H' s z => ⟨e2, s.less l2, z, q2⟩
        | br => exact fun σ' H' s z => (show ∀ σ' H', Stt X.K Z ψ.n e2 [] σ' H' L → Pok P pv σ' → D.nx σ' H' from q2) σ' H' (s.less l4) z
        | rt d => exact q2
/-! ### for -/
/-- an iterator walks the items, while held stands -/
def IterOk (K : PySem.W.Frag) (Z : ClT) (J : It) (held : List Root) (items : List DV) : Prop := ∀ (i : Nat) (H : Hp) (R : List Root), Sim K Z H (held ++ R) →
  (items.length ≤ i → J.stop i H) ∧ ∀ d, items[i]? = some d → J.go i H ∧ ∀ x H', J.yld i H x H' → Sim K Z H' (⟨0, d, x⟩ :: (held ++ R))
def rdI (X : Cx) (Z : ClT) (W : WX) (φ φ' : List Nat) (f : M (List DV)) : TI := fun σ H R => ∃ L env, Stt X.K Z φ env [] σ H L ∧ Wish X.K Z W L (f env) fun items e' => ∀ J held H', Stt X.K Z φ' e' [] σ H' (held ++ L) → IterOk X.K Z J held items → R J H'
def JI (X : Cx) (Z : ClT) (W : WX) (φ : List Nat) (tg it : Expr) (φ' : List Nat) (f : M (List DV)) : Prop := PI X tg it (rdI X Z W φ φ' f)
theorem pi_imp {it : Expr} {t t' : TI} (h : PI X tg it t) (i : ∀ σ H Q, t' σ H Q → t σ H Q) : PI X tg it t' := ⟨fun pins s σ H Q I q => h.run pins s σ H Q I (i _ _ _ q)⟩
def forM (T : Tgt) (g : M Fl) : List DV → M Fl
  | [] => fun e => .ok .nx e
  | d :: ds => fun e => (tgM T d e).bind fun _ e1 => (g e1).bind fun fl e2 => match fl with
    | .nx => forM T g ds e2
    | .ct => forM T g ds e2
    | .br => .ok .nx e2
    | .rt d => .ok (.rt d) e2
def forS (T : Tgt) (fi : M (List DV)) (g : M Fl) : M Fl := fun e => (fi e).bind fun items e1 => forM T g items e1
theorem forM_ends {T : Tgt} : ∀ (items : List DV) (e : Ev) (k : Fl → Ev → Prop), Wish X.K Z W L (forM T g items e) k → Wish X.K Z W L (forM T g items e) fun fl e' => (fl = .br → False) ∧ (fl = .ct → False) ∧ k fl e'
  | [], e, k, h => ⟨(fun z => nomatch z), (fun z => nomatch z), h⟩
  | d :: ds, e, k, h => by
    unfold forM at h ⊢
    cases q1 : tgM T d e with
    | bad => rw [q1] at h; exact h.elim
    | ex c x e1 => rw [q1] at h; exact h
    | ok b e1 =>
      rw [q1] at h
      have h : Wish X.K Z W L ((g e1).bind _) k := h
      show Wish X.K Z W L ((g e1).bind _) _
      cases q2 : g e1 with
      | bad => rw [q2] at h; exact h.elim
      | ex c x e2 => rw [q2] at h; exact h
      | ok fl e2 =>
        rw [q2] at h
        cases fl with
        | nx => exact forM_ends ds e2 k h
        | ct => exact forM_ends ds e2 k h
        | br => exact ⟨(fun z => nomatch z), (fun z => nomatch z), h⟩
        | rt d => exact ⟨(fun z => nomatch z), (fun z => nomatch z), h⟩
theorem js_for {T : Tgt} {it : Expr} {fi : M (List DV)} {φL : List Nat} (hp : PassesOwn (model X.prog X.w) X.A X.env X.xe) (hc : X.calm = true) (hi : JI X Z W φ tg it φ1 fi) (hg : JG X Z tg T) (hb : JSs X Z W P kr (tgF T 0 φL) sts ψ1 g) (hs : ∀ x, foldedSetIterable it X.env x = pure x)
    (hP : tgFree P T = true) (l0 : leN φL φ1 = true) (l1 : leN φL ψ1.n = true) (l2 : leN φL ψ1.c = true) (l3 : leN ψ.n φL = true) (l4 : leN ψ.n ψ1.b = true) :
    JS X Z W P kr φ (.For tg it sts [] pos) ψ (forS T fi g) := by
  refine ps_imp (ps_for hp hc hi hg hb hs) fun D σ H ⟨L, env, pv, S, hpv, q⟩ => ?_
  refine ⟨L, env, S, q.bind.mono fun items e1 q1 J held H1 S1 ok => ?_⟩
  -- the frame without what the loop holds
  have dropH : ∀ {ψ : List Nat} {e : Ev} {σ : St} {H : Hp}, Stt X.K Z ψ e [] σ H (held ++ L) → Stt X.K Z ψ e [] σ H L := fun s => ⟨s.sim.sub (List.Sublist.append_left (List.Sublist.append_left (List.sublist_append_right _ _) _) _), s.al, s.at'⟩
  let Post : Fl → Ev → Prop := fun fl e' => match fl with
    | .nx => ∀ σ' H', Stt X.K Z ψ.n e' [] σ' H' L → Pok P pv σ' → D.nx σ' H'
    | .br => False
    | .ct => False
    | .rt d => ∃ outs, outsAt P e' = some outs ∧ ∀ v H', Sim X.K Z H' (⟨kr, d, v⟩ :: (retR P outs pv ++ L)) → D.rt v H'
  have q2 : Wish X.K Z W L (forM T g items e1) Post := (forM_ends items e1 _ q1).mono fun fl e' ⟨h1, h2, h3⟩ => by
    cases fl with
    | nx => exact h3
    | br => exact (h1 rfl).elim
    | ct => exact (h2 rfl).elim
    | rt d => exact h3
  refine ⟨fun i m σ H => m = items.length - i ∧ i ≤ items.length ∧ ∃ env, Stt X.K Z φL env [] σ H (held ++ L) ∧ Pok P pv σ ∧ Wish X.K Z W L (forM T g (items.drop i) env) Post, ⟨_, rfl, Nat.zero_le _, e1, S1.less l0, hpv, q2⟩, ?_⟩
  rintro i m σ H ⟨rfl, hi, env, S, hpv, q⟩
  have S0 : Sim X.K Z H (held ++ (roots φL env σ ++ L)) := by
    refine S.sim.perm ?_
    show (roots φL env σ ++ (held ++ L)).Perm _
    exact shuf (A := [])
  obtain ⟨o1, o2⟩ := ok i H _ S0
  by_cases hlt : i < items.length
  · obtain ⟨go, yl⟩ := o2 items[i] (List.getElem?_eq_getElem hlt)
    refine .inr ⟨go, fun σ' H' => ∃ env, Stt X.K Z φL env [] σ' H' (held ++ L) ∧ Pok P pv σ' ∧ Wish X.K Z W L (forM T g (items.drop (i + 1)) env) Post, fun σ' H' h => ⟨items.length - (i + 1), by omega, rfl, hlt, h⟩, fun x H' y => ?_⟩
    rw [List.drop_eq_getElem_cons hlt] at q
    have S2 : Stt X.K Z φL env [⟨.v 0, items[i], x⟩] σ H' (held ++ L) := by
      refine ⟨(yl x H' y).perm (.cons _ ?_), S.al, fun z hz => by rw [List.mem_singleton.mp hz]; trivial⟩
      show (held ++ (roots φL env σ ++ L)).Perm (roots φL env σ ++ (held ++ L))
      exact shuf (A := [])
    refine ⟨held ++ L, env, φL, 0, items[i], W, S2, Nat.zero_le _, (Wish.frame (A := held) q.bind).mono fun _ e2 q3 σ2 H2 s2 keep _ => ?_⟩
    refine ⟨held ++ L, e2, pv, s2, keep P pv hP hpv, (Wish.frame (A := held) q3.bind).mono fun fl e3 q4 => ?_⟩
    cases fl with
    | nx => exact fun σ' H' s z => ⟨e3, s.less l1, z, q4⟩
    | ct => exact fun σ' H' s z => ⟨e3, s.less l2, z, q4⟩
    | br => exact fun σ' H' s z => (show ∀ σ' H', Stt X.K Z ψ.n e3 [] σ' H' L → Pok P pv σ' → D.nx σ' H' from q4) σ' H' (dropH (s.less l4)) z
    | rt d =>
      obtain ⟨outs, h1, h2⟩ : ∃ outs, outsAt P e3 = some outs ∧ ∀ v H', Sim X.K Z H' (⟨kr, d, v⟩ :: (retR P outs pv ++ L)) → D.rt v H' := q4
      exact ⟨outs, h1, fun v H' s => h2 v H' (s.sub (.cons_cons _ (List.Sublist.append_left (List.sublist_append_right _ _) _)))⟩
  · have e : i = items.length := by omega
    subst e
    rw [List.drop_length] at q
    exact .inl ⟨o1 (Nat.le_refl _), (show ∀ σ' H', Stt X.K Z ψ.n env [] σ' H' L → Pok P pv σ' → D.nx σ' H' from q) σ H (dropH (S.less l3)) hpv⟩
end
end Lk
namespace Lk
open PySem PySem.Spec L2
section
variable {X : Cx} {Z : ClT} {W : WX} {φ φ1 φ2 φ' : List Nat} {t ta tb : Tm} {fa fb : M DV} {f : M (List DV)} {ts : List Tm} {σ : St} {H : Hp} {L R : List Root} {env : Ev} {a b e tg : Expr} {es : List Expr} {pos pos' p tpos : Pos} {k : Nat}
def itemsOf : DV → Option (List DV)
  | .s ns => some (ns.map fun n => .d (.int n))
  | .d (.list xs) => some (xs.map .d)
  | .d (.tuple xs) => some (xs.map .d)
  | .d (.str x) => some (x.cps.toList.map fun c => .d (.str ⟨#[c]⟩))
  | _ => none
def seqI (fa : M DV) : M (List DV) := fun env => (fa env).bind fun d e => .ofO (itemsOf d) e
theorem pi_or {it : Expr} {t1 t2 : TI} (h1 : PI X tg it t1) (h2 : PI X tg it t2) : PI X tg it (fun σ H R => t1 σ H R ∨ t2 σ H R) := ⟨fun pins s σ H R I q => q.elim (h1.run pins s σ H R I) (h2.run pins s σ H R I)⟩
theorem iter_list {held : List Root} {a : Addr} {ds : List PyData} (hm : (⟨0, .d (.list ds), .ref a⟩ : Root) ∈ held) : IterOk X.K Z (Itl X.K a) held (ds.map .d) := fun i H R S => by
  obtain ⟨a', vs, e, h1, hl, S2⟩ := S.openL (List.mem_append_left _ hm) (Nat.zero_le _)
  cases e
  refine ⟨fun hi => ⟨vs, .of h1, by rw [List.length_map] at hi; omega⟩, fun d hd => ?_⟩
  rw [List.getElem?_map] at hd
  obtain ⟨x, hx, rfl⟩ := Option.map_eq_some_iff.mp hd
  have hlt : i < vs.length := by rw [← hl]; exact (List.getElem?_eq_some_iff.mp hx).1
  refine ⟨⟨vs, vs[i], .of h1, List.getElem?_eq_getElem hlt⟩, fun y H' ⟨e, hy⟩ => ?_⟩
  subst e
  have ey := hy vs (.of h1)
  exact S2.kid hx ey
theorem iter_tup {held : List Root} {a : Addr} {ds : List PyData} (hm : (⟨0, .d (.tuple ds), .ref a⟩ : Root) ∈ held) : IterOk X.K Z (Itt X.K a) held (ds.map .d) := fun i H R S => by
  obtain ⟨a', vs, e, h1, hl, S2⟩ := S.openT (List.mem_append_left _ hm) (Nat.zero_le _)
  cases e
  refine ⟨fun hi => ⟨vs, h1, by rw [List.length_map] at hi; omega⟩, fun d hd => ?_⟩
  rw [List.getElem?_map] at hd
  obtain ⟨x, hx, rfl⟩ := Option.map_eq_some_iff.mp hd
  have hlt : i < vs.length := by rw [← hl]; exact (List.getElem?_eq_some_iff.mp hx).1
  refine ⟨⟨vs, vs[i], h1, List.getElem?_eq_getElem hlt⟩, fun y H' ⟨e, hy⟩ => ?_⟩
  subst e
  exact S2.kid hx (hy vs h1)
theorem iter_script {held : List Root} {a : Addr} {ns : List Int} {n : Nat} (hm : (⟨n, .s ns, .ref a⟩ : Root) ∈ held) : IterOk X.K Z (Itl X.K a) held (ns.map fun n => .d (.int n)) := fun i H R S => by
  obtain ⟨a', e, h1⟩ := S.script (List.mem_append_left _ hm)
  cases e
  refine ⟨fun hi => ⟨_, h1, by simpa using hi⟩, fun d hd => ?_⟩
  rw [List.getElem?_map] at hd
  obtain ⟨x, hx, rfl⟩ := Option.map_eq_some_iff.mp hd
  have hv : (ns.map V.int)[i]? = some (.int x) := by rw [List.getElem?_map, hx]; rfl
  refine ⟨⟨_, _, h1, hv⟩, fun y H' ⟨e, hy⟩ => ?_⟩
  subst e
  have := hy _ h1
  rw [hv] at this; cases this
  exact S.cint
theorem iter_str {held : List Root} {x : Str} : IterOk X.K Z (Its x) held (x.cps.toList.map fun c => .d (.str ⟨#[c]⟩)) := fun i H R S => by
  refine ⟨fun hi => (show x.cps.size ≤ i by simpa using hi), fun d hd => ?_⟩
  rw [List.getElem?_map] at hd
  obtain ⟨c, hx, rfl⟩ := Option.map_eq_some_iff.mp hd
  rw [Array.getElem?_toList] at hx
  refine ⟨(Array.getElem?_eq_some_iff.mp hx).1, fun y H' ⟨e, c', hc, hy⟩ => ?_⟩
  subst e; subst hy
  rw [hx] at hc; cases hc
  exact S.cstr
theorem ji_seq (he : JE X Z W φ e φ1 (.v k) fa) : JI X Z W φ tg e φ1 (seqI fa) := by
  refine pi_imp (pi_or (pi_list he) (pi_or (pi_tup he) (pi_str he))) fun σ H R ⟨L, env, S, h⟩ => ?_
  have h := h.bind
  have S0 : ∀ {e' : Ev} {d : DV} {v : V} {H' : Hp}, Stt X.K Z φ1 e' [⟨.v k, d, v⟩] σ H' L → Stt X.K Z φ1 e' [] σ H' ([⟨0, d, v⟩] ++ L) ∧ Sim X.K Z H' (⟨0, d, v⟩ :: (roots φ1 e' σ ++ L)) := fun {e' d v H'} s => by
    have s1 := Sim.weak s.sim (Nat.zero_le _)
    refine ⟨⟨s1.perm ?_, s.al, fun _ h => nomatch h⟩, s1⟩
    show (⟨0, d, v⟩ :: (roots φ1 e' σ ++ L)).Perm (roots φ1 e' σ ++ (⟨0, d, v⟩ :: L))
    exact List.perm_middle.symm
  have hf : fa env = fa env := rfl
  cases q : fa env with
  | bad => rw [q] at h; exact h.elim
  | ex c g e1 =>
    rw [q] at h
    exact .inl ⟨L, env, S, by rw [q]; exact h⟩
  | ok d e1 =>
    rw [q] at h
    obtain ⟨items, hi, h2⟩ := Wish.ofO (show Wish X.K Z W L (Out.ofO (itemsOf d) e1) _ from h)
    cases d with
    | s ns =>
      cases hi
      refine .inl ⟨L, env, S, ?_⟩
      rw [q]
      intro v H' s
      obtain ⟨s1, s2⟩ := S0 s
      obtain ⟨a, rfl, hl⟩ := s2.script List.mem_cons_self
      exact ⟨a, rfl, ⟨_, hl⟩, h2 _ _ _ s1 (iter_script List.mem_cons_self)⟩
    | d x =>
      cases x with
      | list xs =>
        cases hi
        refine .inl ⟨L, env, S, ?_⟩
        rw [q]
        intro v H' s
        obtain ⟨s1, s2⟩ := S0 s
        obtain ⟨a, vs, rfl, hl, _⟩ := s2.seeL List.mem_cons_self
        exact ⟨a, rfl, ⟨_, .of hl⟩, h2 _ _ _ s1 (iter_list List.mem_cons_self)⟩
      | tuple xs =>
        cases hi
        refine .inr (.inl ⟨L, env, S, ?_⟩)
        rw [q]
        intro v H' s
        obtain ⟨s1, s2⟩ := S0 s
        obtain ⟨a, vs, rfl, hl, _⟩ := s2.seeT List.mem_cons_self
        exact ⟨a, rfl, ⟨_, hl⟩, h2 _ _ _ s1 (iter_tup List.mem_cons_self)⟩
      | str x =>
        cases hi
        refine .inr (.inr ⟨L, env, S, ?_⟩)
        rw [q]
        intro v H' s
        obtain ⟨s1, s2⟩ := S0 s
        have := s2.str List.mem_cons_self
        exact ⟨x, this, h2 _ _ _ s1 iter_str⟩
      | _ => cases hi
    | _ => cases hi
/-! range -/
def rgI : Option DV → Option DV → Option (List DV)
  | some (.d (.int a)), some (.d (.int b)) => if rgOk a b then some ((rgP a b).map .d) else none
  | _, _ => none
theorem rgI_some {x y : Option DV} {r : List DV} (h : rgI x y = some r) : ∃ a b, x = some (.d (.int a)) ∧ y = some (.d (.int b)) ∧ rgOk a b = true ∧ r = (rgP a b).map .d := by
  unfold rgI at h
  split at h
  · split at h
    · rename_i hr
      cases h
      exact ⟨_, _, rfl, rfl, hr, rfl⟩
    · cases h
  · cases h
theorem iter_rg {held : List Root} {a b : Int} : IterOk X.K Z (Itr a (b - a).toNat) held ((rgP a b).map .d) := fun i H R S => by
  have hl : ((rgP a b).map DV.d).length = (b - a).toNat := by unfold rgP; simp
  refine ⟨fun hi => by rw [hl] at hi; exact hi, fun d hd => ?_⟩
  have hd0 := (List.getElem?_eq_some_iff.mp hd).1
  rw [List.getElem?_map] at hd
  obtain ⟨x, hx, rfl⟩ := Option.map_eq_some_iff.mp hd
  unfold rgP at hx
  rw [List.getElem?_map] at hx
  obtain ⟨j, hj, rfl⟩ := Option.map_eq_some_iff.mp hx
  have hlt : i < (b - a).toNat := by
    rw [hl] at hd0; exact hd0
  rw [List.getElem?_range hlt] at hj
  cases hj
  refine ⟨hlt, fun y H' ⟨e, hy⟩ => ?_⟩
  subst e; subst hy
  exact S.cint
def rg1I (ta : Tm) (fa : M DV) : M (List DV) := fun env => (fa env).bind fun d e => .ofO (rgI (some (.d (.int 0))) (ta.now d e)) e
def rg2I (ta tb : Tm) (fa fb : M DV) : M (List DV) := fun env => (fa env).bind fun d e1 => (fb e1).bind fun d' e => .ofO (rgI (ta.now d e) (tb.now d' e)) e
theorem Stt.heldNil (S : Stt X.K Z φ env [] σ H L) : Stt X.K Z φ env [] σ H ([] ++ L) := S
theorem ji_range1 {x : Str} (ex : x = "range") (hg : Gl X x) (hm : X.mg x = none) (hs : noStar a = true) (ha : JE X Z W φ a φ1 ta fa) : JI X Z W φ tg (.Call (.Name x p) [a] [] pos) φ1 (rg1I ta fa) := by
  subst ex
  refine pi_imp (pi_range1 hg hm (pa_cons ha pa_nil (star_eq hs)) (star_eq hs)) fun σ H R ⟨L, env, S, h⟩ => ?_
  refine rdE.go S (h.bind.mono fun d e1 h1 v H1 S1 => ?_)
  obtain ⟨r, q, h2⟩ := h1.ofO
  obtain ⟨i, n, ei, q2, hr, rfl⟩ := rgI_some q
  cases ei
  have e1 : v = .int n := S1.isI (h := ⟨ta, d, v⟩) List.mem_cons_self q2
  unfold rgOk at hr
  simp only [Bool.and_eq_true, decide_eq_true_eq] at hr
  refine ⟨n, by rw [e1], by omega, by omega, ?_⟩
  have e2 : n.toNat = (n - 0).toNat := by simp
  rw [e2]
  exact h2 _ [] _ S1.free.heldNil iter_rg
theorem ji_range2 {x : Str} (ex : x = "range") (hg : Gl X x) (hm : X.mg x = none) (hs : noStar a = true) (hs2 : noStar b = true) (ha : JE X Z W φ a φ1 ta fa) (hb : JE X Z W φ1 b φ2 tb fb) : JI X Z W φ tg (.Call (.Name x p) [a, b] [] pos) φ2 (rg2I ta tb fa fb) := by
  subst ex
  have eb : starEach [b] X.env = [(false, eval b X.env)] := star_eq hs2
  refine pi_imp (pi_range2 hg hm (pa_cons ha (pa_cons hb pa_nil (star_eq hs2)) (star_eq hs)) (by rw [star_eq hs, eb]) eb) fun σ H R ⟨L, env, S, h⟩ => ?_
  refine rdE.go S (h.bind.mono fun d e1 h1 v H1 S1 => ?_)
  refine rdE.go S1 (h1.bind.mono fun d' e2 h2 u H2 S2 => ?_)
  obtain ⟨r, q, h3⟩ := h2.ofO
  obtain ⟨i, j, q1, q2, hr, rfl⟩ := rgI_some q
  have e1 : v = .int i := S2.isI (h := ⟨ta, d, v⟩) (List.mem_cons_of_mem _ List.mem_cons_self) q1
  have e2 : u = .int j := S2.isI (h := ⟨tb, d', u⟩) List.mem_cons_self q2
  unfold rgOk at hr
  simp only [Bool.and_eq_true, decide_eq_true_eq] at hr
  exact ⟨i, j, by rw [e1, e2], ⟨by omega, by omega, by omega, by omega⟩, h3 _ [] _ S2.free.free.heldNil iter_rg⟩
/-! enumerate over a list, zip of two lists or two tuples -/
def numFrom : Nat → List PyData → List DV
  | _, [] => []
  | i, x :: xs => .d (.tuple [.int i, x]) :: numFrom (i + 1) xs
def enumD : DV → Option (List DV)
  | .d (.list xs) => some (numFrom 0 xs)
  | _ => none
theorem numFrom_get : ∀ {xs : List PyData} {i j : Nat}, (numFrom j xs)[i]? = (xs[i]?).map fun x => .d (.tuple [.int ((j + i : Nat) : Int), x])
  | [], i, j => by simp [numFrom]
  | x :: xs, 0, j => by simp [numFrom]
  | x :: xs, i + 1, j => by
    show (numFrom (j + 1) xs)[i]? = (xs[i]?).map _
    rw [numFrom_get]
    have : j + 1 + i = j + (i + 1) := by omega
    rw [this]
theorem numFrom_len : ∀ {xs : List PyData} {j : Nat}, (numFrom j xs).length = xs.length
  | [], _ => rfl
  | x :: xs, j => by simp [numFrom, numFrom_len]
theorem iter_enum {held : List Root} {a : Addr} {ds : List PyData} (hm : (⟨0, .d (.list ds), .ref a⟩ : Root) ∈ held) : IterOk X.K Z (Ite X.K a) held (numFrom 0 ds) := fun i H R S => by
  obtain ⟨a', vs, e, h1, hl, S2⟩ := S.openL (List.mem_append_left _ hm) (Nat.zero_le _)
  cases e
  refine ⟨fun hi => ⟨vs, .of h1, by rw [numFrom_len] at hi; omega⟩, fun d hd => ?_⟩
  rw [numFrom_get] at hd
  obtain ⟨x, hx, rfl⟩ := Option.map_eq_some_iff.mp hd
  have hlt : i < vs.length := by rw [← hl]; exact (List.getElem?_eq_some_iff.mp hx).1
  refine ⟨⟨vs, vs[i], .of h1, List.getElem?_eq_getElem hlt⟩, fun y H' ⟨T, u, hy, hT, hH, hu⟩ => ?_⟩
  subst hH; subst hy
  have ey := hu vs (.of h1)
  have S3 := S2.kid hx ey
  have S4 : Sim X.K Z H (kids 0 [.int ((0 + i : Nat) : Int), x] [.int (i : Nat), u] ++ (held ++ R)) := by
    rw [Nat.zero_add]
    exact S3.cint
  exact (Sim.mkT (n := 0) S4 rfl hT).weak (Nat.zero_le _)
theorem ji_enum {x : Str} {n : Nat} (ex : x = "enumerate") (hg : Gl X x) (hm : X.mg x = none) (hs : noStar a = true) (ha : JE X Z W φ a φ1 (.v k) fa) :
    JI X Z W φ (.Tuple es n tpos) (.Call (.Name x p) [a] [] pos) φ1 (fun env => (fa env).bind fun d e => .ofO (enumD d) e) := by
  subst ex
  refine pi_imp (pi_enum hg hm (pa_cons ha pa_nil (star_eq hs)) (star_eq hs)) fun σ H R ⟨L, env, S, h⟩ => ?_
  refine rdE.go S (h.bind.mono fun d e1 h1 v H1 S1 => ?_)
  obtain ⟨r, q, h2⟩ := h1.ofO
  have s1 := Sim.weak S1.sim (Nat.zero_le _)
  cases d with
  | d x =>
    cases x with
    | list xs =>
      cases q
      obtain ⟨a, vs, rfl, hl, _⟩ := s1.seeL List.mem_cons_self
      refine ⟨a, vs, rfl, .of hl, h2 _ [⟨0, .d (.list xs), .ref a⟩] _ ⟨s1.perm ?_, S1.al, fun _ h => nomatch h⟩ (iter_enum List.mem_cons_self)⟩
      show (⟨0, .d (.list xs), .ref a⟩ :: (roots φ1 e1 σ ++ L)).Perm (roots φ1 e1 σ ++ (⟨0, .d (.list xs), .ref a⟩ :: L))
      exact List.perm_middle.symm
    | _ => cases q
  | _ => cases q
def zipP : List PyData → List PyData → List DV
  | x :: xs, y :: ys => .d (.tuple [x, y]) :: zipP xs ys
  | _, _ => []
def zipD : Option DV → Option DV → Option (List DV)
  | some (.d (.list xs)), some (.d (.list ys)) => some (zipP xs ys)
  | some (.d (.tuple xs)), some (.d (.tuple ys)) => some (zipP xs ys)
  | _, _ => none
theorem zipP_get : ∀ {xs ys : List PyData} {i : Nat}, (zipP xs ys)[i]? = match xs[i]?, ys[i]? with
    | some x, some y => some (.d (.tuple [x, y]))
    | _, _ => none
  | [], _, i => by simp [zipP]
  | x :: xs, [], i => by
    simp only [zipP, List.getElem?_nil]
    cases (x :: xs)[i]? <;> simp
  | x :: xs, y :: ys, 0 => rfl
  | x :: xs, y :: ys, i + 1 => by
    show (zipP xs ys)[i]? = match xs[i]?, ys[i]? with
      | some x, some y => some (.d (.tuple [x, y]))
      | _, _ => none
    exact zipP_get
theorem zipP_len : ∀ {xs ys : List PyData}, (zipP xs ys).length = min xs.length ys.length
  | [], _ => by simp [zipP]
  | x :: xs, [] => by simp [zipP]
  | x :: xs, y :: ys => by simp [zipP, zipP_len]
theorem zipP_some {xs ys : List PyData} {i : Nat} {d : DV} (h : (zipP xs ys)[i]? = some d) : ∃ x y, xs[i]? = some x ∧ ys[i]? = some y ∧ d = .d (.tuple [x, y]) := by
  rw [zipP_get] at h
  split at h
  · rename_i x y h1 h2
    cases h
    exact ⟨x, y, h1, h2, rfl⟩
  · cases h
theorem zip_end {i : Nat} {x y : PyData} {u w : V} {T : Addr} {xs ys : List PyData} {us ws : List V} (S : Sim X.K Z H (kids 0 ys ws ++ (kids 0 xs us ++ R))) (h1 : xs[i]? = some x) (h2 : ys[i]? = some y) (e1 : us[i]? = some u) (e2 : ws[i]? = some w) (hT : H T = none) :
    Sim X.K Z (upd H T (.tup [u, w])) (⟨0, .d (.tuple [x, y]), .ref T⟩ :: R) := by
  have S1 : Sim X.K Z H (⟨0, .d y, w⟩ :: (kids 0 xs us ++ R)) := S.kid h2 e2
  have S2 : Sim X.K Z H (⟨0, .d y, w⟩ :: (⟨0, .d x, u⟩ :: R)) := S1.sub (.cons_cons _ ((mem_sub (kids_mem h1 e1)).append_right R))
  have S3 : Sim X.K Z H (kids 0 [x, y] [u, w] ++ R) := S2.perm (.swap _ _ _)
  exact (Sim.mkT (n := 0) S3 rfl hT).weak (Nat.zero_le _)
theorem iter_zipL {held : List Root} {a b : Addr} {xs ys : List PyData} (hm : (⟨0, .d (.list xs), .ref a⟩ : Root) ∈ held) (hm2 : (⟨0, .d (.list ys), .ref b⟩ : Root) ∈ held) : IterOk X.K Z (Itz X.K a b) held (zipP xs ys) := fun i H R S => by
  obtain ⟨a', us, e, g1, l1, S1⟩ := S.openL (List.mem_append_left _ hm) (Nat.zero_le _)
  cases e
  obtain ⟨b', ws, e, g2, l2, S2⟩ := S1.openL (List.mem_append_right _ (List.mem_append_left _ hm2)) (Nat.zero_le _)
  cases e
  refine ⟨fun hi => ⟨us, ws, .of g1, .of g2, by rw [zipP_len] at hi; omega⟩, fun d hd => ?_⟩
  obtain ⟨x, y, h1, h2, rfl⟩ := zipP_some hd
  have q1 : i < us.length := by rw [← l1]; exact (List.getElem?_eq_some_iff.mp h1).1
  have q2 : i < ws.length := by rw [← l2]; exact (List.getElem?_eq_some_iff.mp h2).1
  refine ⟨⟨us, ws, us[i], ws[i], .of g1, .of g2, List.getElem?_eq_getElem q1, List.getElem?_eq_getElem q2⟩, fun v H' ⟨T, u, w, hv, hT, hH, hu, hw⟩ => ?_⟩
  subst hH; subst hv
  exact zip_end S2 h1 h2 (hu us (.of g1)) (hw ws (.of g2)) hT
theorem iter_zipT {held : List Root} {a b : Addr} {xs ys : List PyData} (hm : (⟨0, .d (.tuple xs), .ref a⟩ : Root) ∈ held) (hm2 : (⟨0, .d (.tuple ys), .ref b⟩ : Root) ∈ held) : IterOk X.K Z (RZ.ItzT X.K a b) held (zipP xs ys) := fun i H R S => by
  obtain ⟨a', us, e, g1, l1, S1⟩ := S.openT (List.mem_append_left _ hm) (Nat.zero_le _)
  cases e
  obtain ⟨b', ws, e, g2, l2, S2⟩ := S1.openT (List.mem_append_right _ (List.mem_append_left _ hm2)) (Nat.zero_le _)
  cases e
  refine ⟨fun hi => ⟨us, ws, g1, g2, by rw [zipP_len] at hi; omega⟩, fun d hd => ?_⟩
  obtain ⟨x, y, h1, h2, rfl⟩ := zipP_some hd
  have q1 : i < us.length := by rw [← l1]; exact (List.getElem?_eq_some_iff.mp h1).1
  have q2 : i < ws.length := by rw [← l2]; exact (List.getElem?_eq_some_iff.mp h2).1
  refine ⟨⟨us, ws, us[i], ws[i], g1, g2, List.getElem?_eq_getElem q1, List.getElem?_eq_getElem q2⟩, fun v H' ⟨T, u, w, hv, hT, hH, hu, hw⟩ => ?_⟩
  subst hH; subst hv
  exact zip_end S2 h1 h2 (hu us g1) (hw ws g2) hT
def zipI (fa fb : M DV) : M (List DV) := fun env => (fa env).bind fun d e1 => (fb e1).bind fun d' e => .ofO (zipD (some d) (some d')) e
theorem ji_zip {x : Str} {n ka kb : Nat} (ex : x = "zip") (hg : Gl X x) (hm : X.mg x = none) (hs : noStar a = true) (hs2 : noStar b = true) (ha : JE X Z W φ a φ1 (.v ka) fa) (hb : JE X Z W φ1 b φ2 (.v kb) fb) :
    JI X Z W φ (.Tuple es n tpos) (.Call (.Name x p) [a, b] [] pos) φ2 (zipI fa fb) := by
  subst ex
  refine pi_imp (RZ.pi_zipA hg hm (pa_cons ha (pa_cons hb pa_nil (star_eq hs2)) (star_eq hs)) (star_eq hs) (star_any (by simp [hs2]))) fun σ H R ⟨L, env, S, h⟩ => ?_
  refine rdE.go S (h.bind.mono fun d e1 h1 v H1 S1 => ?_)
  refine rdE.go S1 (h1.bind.mono fun d' e2 h2 u H2 S2 => ?_)
  obtain ⟨r, q, h3⟩ := h2.ofO
  have s2 : Stt X.K Z φ2 e2 [] σ H2 ([⟨0, d', u⟩, ⟨0, d, v⟩] ++ L) := by
    have s0 : Sim X.K Z H2 (⟨kb, d', u⟩ :: ⟨ka, d, v⟩ :: (roots φ2 e2 σ ++ L)) := S2.sim
    have s1 := s0.less (R' := ⟨0, d', u⟩ :: ⟨0, d, v⟩ :: (roots φ2 e2 σ ++ L)) (.cons ⟨Nat.zero_le _, rfl, rfl⟩ (.cons ⟨Nat.zero_le _, rfl, rfl⟩ (Less.refl _)))
    refine ⟨s1.perm ?_, S2.al, fun _ h => nomatch h⟩
    show ([(⟨0, d', u⟩ : Root), ⟨0, d, v⟩] ++ (roots φ2 e2 σ ++ L)).Perm (roots φ2 e2 σ ++ ([(⟨0, d', u⟩ : Root), ⟨0, d, v⟩] ++ L))
    have z := shuf (A := []) (B := [(⟨0, d', u⟩ : Root), ⟨0, d, v⟩]) (C := roots φ2 e2 σ) (D := L)
    exact z
  have m1 : (⟨0, d, v⟩ : Root) ∈ hrts [] ++ (roots φ2 e2 σ ++ ([⟨0, d', u⟩, ⟨0, d, v⟩] ++ L)) := by simp
  have m2 : (⟨0, d', u⟩ : Root) ∈ hrts [] ++ (roots φ2 e2 σ ++ ([⟨0, d', u⟩, ⟨0, d, v⟩] ++ L)) := by simp
  unfold zipD at q
  split at q
  · rename_i xs ys q1 q2
    cases q1; cases q2; cases q
    obtain ⟨a, us, rfl, g1, _⟩ := s2.sim.seeL m1
    obtain ⟨b, ws, rfl, g2, _⟩ := s2.sim.seeL m2
    exact ⟨a, b, us, ws, rfl, .inl ⟨.of g1, .of g2, h3 _ _ _ s2 (iter_zipL (by simp) (by simp))⟩⟩
  · rename_i xs ys q1 q2
    cases q1; cases q2; cases q
    obtain ⟨a, us, rfl, g1, _⟩ := s2.sim.seeT m1
    obtain ⟨b, ws, rfl, g2, _⟩ := s2.sim.seeT m2
    exact ⟨a, b, us, ws, rfl, .inr ⟨g1, g2, h3 _ _ _ s2 (iter_zipT (by simp) (by simp))⟩⟩
  · cases q
end
end Lk
namespace Lk
open PySem PySem.Spec L2

def wipeE (vs : List Nat) (e : Ev) : Ev := match vs with
  | [] => e
  | v :: vs => (wipeE vs e).set v none
def restE (vs : List Nat) (e e2 : Ev) : Ev := match vs with
  | [] => e2
  | v :: vs => restE vs e (e2.set v (slot (wipeE vs e) v))
/-- nothing may be raised -/
def noEx {α : Type} (o : Out α) : Out α := match o with
  | .ok a e => .ok a e
  | _ => .bad
def dataOf : DV → Option PyData
  | .d x => some x
  | _ => none
def compGo (T : Tgt) (vs : List Nat) (ft : M Bool) (fe : M DV) : List DV → List PyData → M (List PyData)
  | [], acc => fun e => .ok acc e
  | d :: ds, acc => fun e => (noEx (tgM T d e)).bind fun _ e1 => (noEx (ft e1)).bind fun b e2 => match b with
    | false => compGo T vs ft fe ds acc (wipeE vs e2)
    | true => (noEx (fe e2)).bind fun y e3 => match dataOf y with
      | some x => if acc.length < big then compGo T vs ft fe ds (acc ++ [x]) (wipeE vs e3) else .bad
      | none => .bad
def compM (T : Tgt) (vs : List Nat) (fi : M (List DV)) (ft : M Bool) (fe : M DV) : M DV := fun env => (fi env).bind fun items e1 => (compGo T vs ft fe items [] (wipeE vs e1)).bind fun xs e2 => .ok (.d (.list xs)) (restE vs e1 e2)
abbrev W0 : WX := fun _ _ _ _ => False
section
theorem wipe_get {σ : St} {j : Nat} : ∀ {vs : List Nat}, j ∉ vs → (wipe σ vs)[j]? = σ[j]?
  | [], _ => rfl
  | v :: vs, h => by
    simp only [List.mem_cons, not_or] at h
    unfold wipe
    rw [List.getElem?_set_ne (fun z => h.1 z.symm), wipe_get h.2]
theorem wipe_in {σ : St} {j : Nat} : ∀ {vs : List Nat}, j ∈ vs → j < σ.length → (wipe σ vs)[j]? = some none
  | v :: vs, h, hl => by
    unfold wipe
    by_cases z : v = j
    · subst z
      rw [List.getElem?_set_self (by rw [wipe_length]; exact hl)]
    · rw [List.getElem?_set_ne z]
      rcases List.mem_cons.mp h with q | q
      · exact absurd q.symm z
      · exact wipe_in q hl
theorem wipe_ext {a b : St} {vs : List Nat} (hl : a.length = b.length) (h : ∀ j, j ∉ vs → a[j]? = b[j]?) : wipe a vs = wipe b vs := by
  apply List.ext_getElem?
  intro j
  by_cases hj : j ∈ vs
  · by_cases hlt : j < a.length
    · rw [wipe_in hj hlt, wipe_in hj (hl ▸ hlt)]
    · rw [List.getElem?_eq_none (by rw [wipe_length]; omega), List.getElem?_eq_none (by rw [wipe_length]; omega)]
  · rw [wipe_get hj, wipe_get hj, h j hj]
theorem Al.save1 : ∀ {φ : List Nat} {e : Ev} {σ : St} {v : Nat}, Al φ e σ → ∃ A, Al φ (e.set v none) (σ.set v none) ∧ (roots φ e σ).Perm (A ++ roots φ (e.set v none) (σ.set v none)) ∧
    ∀ e2, Al φ e2 (σ.set v none) → Al φ (e2.set v (slot e v)) σ ∧ (roots φ (e2.set v (slot e v)) σ).Perm (A ++ roots φ e2 (σ.set v none))
  | [], [], [], v, a => ⟨[], trivial, .refl _, fun e2 b => by
    cases e2 with
    | nil => exact ⟨trivial, .refl _⟩
    | cons _ _ => cases v <;> exact b.elim⟩
  | n :: φ, d :: e, x :: σ, 0, a => by
    refine ⟨roots [n] [d] [x], ⟨fun h => by simp at h, a.2⟩, ?_, fun e2 b => ?_⟩
    · cases d <;> cases x <;> first | exact .refl _
    · cases e2 with
      | nil => exact b.elim
      | cons d2 e2 =>
        have hd : d2 = none := by
          cases d2 with
          | none => rfl
          | some d => exact absurd (b.1 rfl) (by simp)
        subst hd
        refine ⟨⟨a.1, b.2⟩, ?_⟩
        show (roots (n :: φ) (slot (d :: e) 0 :: e2) (x :: σ)).Perm _
        have : slot (d :: e) 0 = d := by simp [slot]
        rw [this]
        cases d <;> cases x <;> exact .refl _
  | n :: φ, d :: e, x :: σ, v + 1, a => by
    obtain ⟨A, q1, q2, q3⟩ := Al.save1 (v := v) a.2
    refine ⟨A, ⟨a.1, q1⟩, ?_, fun e2 b => ?_⟩
    · simp only [List.set_cons_succ]
      cases d with
      | none => exact q2
      | some d =>
        cases x with
        | none => exact q2
        | some x => exact (q2.cons _).trans List.perm_middle.symm
    · cases e2 with
      | nil => exact b.elim
      | cons d2 e2 =>
        obtain ⟨z1, z2⟩ := q3 e2 b.2
        have : slot (d :: e) (v + 1) = slot e v := by simp [slot]
        rw [this]
        refine ⟨⟨b.1, z1⟩, ?_⟩
        simp only [List.set_cons_succ]
        cases d2 with
        | none => exact z2
        | some d =>
          cases x with
          | none => exact z2
          | some x => exact (z2.cons _).trans List.perm_middle.symm
  | [], [], _ :: _, _, a => a.elim
  | [], _ :: _, [], _, a => a.elim
  | [], _ :: _, _ :: _, _, a => a.elim
  | _ :: _, [], [], _, a => a.elim
  | _ :: _, [], _ :: _, _, a => a.elim
  | _ :: _, _ :: _, [], _, a => a.elim
theorem Al.saveA {φ : List Nat} {e : Ev} {σ : St} (a : Al φ e σ) : ∀ vs : List Nat, ∃ A, Al φ (wipeE vs e) (wipe σ vs) ∧ (roots φ e σ).Perm (A ++ roots φ (wipeE vs e) (wipe σ vs)) ∧
    ∀ e2, Al φ e2 (wipe σ vs) → Al φ (restE vs e e2) σ ∧ (roots φ (restE vs e e2) σ).Perm (A ++ roots φ e2 (wipe σ vs))
  | [] => ⟨[], a, .refl _, fun e2 b => ⟨b, .refl _⟩⟩
  | v :: vs => by
    obtain ⟨A, q1, q2, q3⟩ := Al.saveA a vs
    obtain ⟨B, p1, p2, p3⟩ := Al.save1 (v := v) q1
    refine ⟨A ++ B, p1, ?_, fun e2 b => ?_⟩
    · refine q2.trans ?_
      rw [List.append_assoc]
      exact List.Perm.append_left _ p2
    · obtain ⟨z1, z2⟩ := p3 e2 b
      obtain ⟨y1, y2⟩ := q3 _ z1
      refine ⟨y1, y2.trans ?_⟩
      rw [List.append_assoc]
      exact List.Perm.append_left _ z2
variable {X : Cx} {Z : ClT} {W : WX} {φ φ' φ1 φ2 φ3 φL : List Nat} {fe : M DV} {ft : M Bool} {fi : M (List DV)} {σ : St} {H : Hp} {L : List Root} {env : Ev} {elt tg iter : Expr} {ifs : List Expr} {scope : Scope} {own : List (Str × Nat)} {pos : Pos} {ke : Nat} {T : Tgt}
theorem Wish.noEx {α : Type} {W' : WX} {L' : List Root} {o : Out α} {k : α → Ev → Prop} (h : Wish X.K Z W L (Lk.noEx o) k) : Wish X.K Z W' L' o k := by
  cases o with
  | ok a e => exact h
  | ex c g e => exact h.elim
  | bad => exact h.elim
theorem compGo_ok {vs : List Nat} : ∀ (items : List DV) (acc : List PyData) (e : Ev) (k : List PyData → Ev → Prop) (W' : WX) (L' : List Root), Wish X.K Z W L (compGo T vs ft fe items acc e) k → Wish X.K Z W' L' (compGo T vs ft fe items acc e) k
  | [], acc, e, k, W', L', h => h
  | d :: ds, acc, e, k, W', L', h => by
    unfold compGo at h ⊢
    cases q1 : tgM T d e with
    | bad => rw [q1] at h; exact h.elim
    | ex c g e' => rw [q1] at h; exact h.elim
    | ok u e1 =>
      rw [q1] at h
      have h : Wish X.K Z W L ((Lk.noEx (ft e1)).bind _) k := h
      show Wish X.K Z W' L' ((Lk.noEx (ft e1)).bind _) k
      cases q2 : ft e1 with
      | bad => rw [q2] at h; exact h.elim
      | ex c g e' => rw [q2] at h; exact h.elim
      | ok b e2 =>
        rw [q2] at h
        cases b with
        | false => exact compGo_ok ds acc _ k W' L' h
        | true =>
          have h : Wish X.K Z W L ((Lk.noEx (fe e2)).bind _) k := h
          show Wish X.K Z W' L' ((Lk.noEx (fe e2)).bind _) k
          cases q3 : fe e2 with
          | bad => rw [q3] at h; exact h.elim
          | ex c g e' => rw [q3] at h; exact h.elim
          | ok y e3 =>
            rw [q3] at h
            have h : Wish X.K Z W L (match dataOf y with
              | some x => if acc.length < big then compGo T vs ft fe ds (acc ++ [x]) (wipeE vs e3) else .bad
              | none => .bad) k := h
            show Wish X.K Z W' L' (match dataOf y with
              | some x => if acc.length < big then compGo T vs ft fe ds (acc ++ [x]) (wipeE vs e3) else .bad
              | none => .bad) k
            cases q4 : dataOf y with
            | none => rw [q4] at h; exact h.elim
            | some x =>
              rw [q4] at h
              simp only at h ⊢
              split at h
              · rename_i hl
                rw [if_pos hl]
                exact compGo_ok ds _ _ k W' L' h
              · exact h.elim
theorem wipeE_len {e : Ev} : ∀ vs : List Nat, (wipeE vs e).length = e.length
  | [] => rfl
  | v :: vs => by unfold wipeE; rw [List.length_set, wipeE_len vs]
theorem Al.wipeA {φ : List Nat} {e : Ev} {σ : St} (a : Al φ e σ) (vs : List Nat) : Al φ (wipeE vs e) (wipe σ vs) ∧ ∃ A, (roots φ e σ).Perm (A ++ roots φ (wipeE vs e) (wipe σ vs)) := by
  obtain ⟨A, q1, q2, _⟩ := a.saveA vs
  exact ⟨q1, A, q2⟩
/-- tests behind a clause -/
def JTs (X : Cx) (Z : ClT) (W : WX) (φ : List Nat) (ifs : List Expr) (φ' : List Nat) (f : M Bool) : Prop := PTs X ifs (rdT X Z W φ φ' f)
theorem jts_nil : JTs X Z W φ [] φ (M.pure true) := ⟨fun pins s σ H Q I ⟨L, env, S, h⟩ => pts_nil.run pins s σ H Q I (h H S)⟩
theorem jts_one {c : Expr} (h : JT X Z W φ c φ' ft) : JTs X Z W φ [c] φ' ft := pts_one h
abbrev blkOf (X : Cx) (s : Shared) (H : Hp) (scope : Scope) (cl : List (Str × Addr)) (C : Addr) (fp : List Addr) : Cx := X.blk s H scope (compEnvC scope cl C X.env) fp
/-- the term of a target, as JG has it -/
abbrev gT (K : PySem.W.Frag) (Z : ClT) (T : Tgt) : TG := fun v σ H Q => ∃ (L : List Root) (env : Ev) (φ : List Nat) (k : Nat) (d : DV) (W : WX), Stt K Z φ env [⟨.v k, d, v⟩] σ H L ∧ k ≤ 1 ∧
  Wish K Z W L (tgM T d env) fun _ e' => ∀ σ' H', Stt K Z (tgF T k φ) e' [] σ' H' L → (∀ P pv, tgFree P T = true → Pok P pv σ → Pok P pv σ') → (σ'.length = σ.length ∧ ∀ j, j ∉ tgS T → σ'[j]? = σ[j]?) → Q σ' H'
theorem same_wipe {T : Tgt} {vs : List Nat} {σ2 : St} (hT : ∀ i ∈ tgS T, i ∈ vs) (hl : σ2.length = (wipe σ vs).length) (h : ∀ j, j ∉ tgS T → σ2[j]? = (wipe σ vs)[j]?) : wipe σ2 vs = wipe σ vs := by
  refine wipe_ext (by rw [hl, wipe_length]) fun j hj => ?_
  rw [h j (fun z => hj (hT j z)), wipe_get hj]
theorem Wish.any {α : Type} {W' : WX} {L' : List Root} {o : Out α} {k : α → Ev → Prop} (h : ∀ (c : Nat) (g : PyData) (e : Ev), o ≠ .ex c g e) (q : Wish X.K Z W L o k) : Wish X.K Z W' L' o k := by
  cases o with
  | ok a e => exact q
  | ex c g e => exact absurd rfl (h c g e)
  | bad => exact q.elim
theorem lc_law {vs : List Nat} {Q : VK} (hT : ∀ i ∈ tgS T, i ∈ vs) (l0 : leN φL φ1 = true) (l2 : leN φL φ2 = true) (l3 : leN φL φ3 = true)
    (h : rdE X Z W φ φL (.v (ke + 1)) (compM T vs fi ft fe) σ H Q) :
    tLc (rdI X Z W φ φ1 fi) (gT X.K Z T) (rdT X Z W0 (tgF T 0 φL) φ2 ft) (rdE X Z W0 φ2 φ3 (.v ke) fe) vs σ H Q := by
  obtain ⟨L, env, S, q⟩ := h
  refine ⟨L, env, S, q.bind.mono fun items e1 q1 J held H1 S1 ok D hD => ?_⟩
  have S1 := S1.less l0
  obtain ⟨A, a0, p0, back⟩ := S1.al.saveA vs
  let Post : List PyData → Ev → Prop := fun xs e2 => ∀ v H', Stt X.K Z φL (restE vs e1 e2) [⟨.v (ke + 1), .d (.list xs), v⟩] σ H' L → Q v H'
  have q2 : Wish X.K Z W0 [] (compGo T vs ft fe items [] (wipeE vs e1)) Post := compGo_ok items [] _ _ W0 [] q1.bind
  let St1 : Nat → Hp → Prop := fun i H => i ≤ items.length ∧ ∃ env acc, Sim X.K Z H (⟨ke + 1, .d (.list acc), .ref D⟩ :: (roots φL env (wipe σ vs) ++ (held ++ (A ++ L)))) ∧ Al φL env (wipe σ vs) ∧ acc.length ≤ big ∧ Wish X.K Z W0 [] (compGo T vs ft fe (items.drop i) acc env) Post
  refine ⟨fun i m H => m = items.length - i ∧ St1 i H, ⟨items.length, by omega, Nat.zero_le _, wipeE vs e1, [], ?_, a0, Nat.zero_le _, q2⟩, ?_⟩
  · have s0 : Sim X.K Z H1 (kids ke [] [] ++ (roots φL (wipeE vs e1) (wipe σ vs) ++ (held ++ (A ++ L)))) := by
      refine S1.sim.perm ?_
      show (roots φL e1 σ ++ (held ++ L)).Perm (roots φL (wipeE vs e1) (wipe σ vs) ++ (held ++ (A ++ L)))
      refine (List.Perm.append_right _ p0).trans ?_
      rw [List.append_assoc]
      refine List.perm_append_comm_assoc .. |>.trans ?_
      refine List.Perm.append_left _ ?_
      exact List.perm_append_comm_assoc ..
    exact Sim.mkL s0 rfl hD
  rintro i m H ⟨rfl, hi, env, acc, S, al, hac, q⟩
  have S0 : Sim X.K Z H (held ++ (⟨ke + 1, .d (.list acc), .ref D⟩ :: (roots φL env (wipe σ vs) ++ (A ++ L)))) := by
    refine S.perm ?_
    refine List.Perm.trans ?_ List.perm_middle.symm
    exact .cons _ (List.perm_append_comm_assoc ..)
  obtain ⟨o1, o2⟩ := ok i H _ S0
  by_cases hlt : i < items.length
  · obtain ⟨go, yl⟩ := o2 items[i] (List.getElem?_eq_getElem hlt)
    refine .inr ⟨go, St1 (i + 1), fun H' h' => ⟨items.length - (i + 1), by omega, rfl, h'⟩, fun x H' y => ?_⟩
    rw [List.drop_eq_getElem_cons hlt] at q
    generalize hL' : (⟨ke + 1, .d (.list acc), .ref D⟩ : Root) :: (held ++ (A ++ L)) = L'
    have S2 : Stt X.K Z φL env [⟨.v 0, items[i], x⟩] (wipe σ vs) H' L' := by
      subst hL'
      refine ⟨(yl x H' y).perm (.cons _ ?_), al, fun z hz => by rw [List.mem_singleton.mp hz]; trivial⟩
      show (held ++ (_ :: (roots φL env (wipe σ vs) ++ (A ++ L)))).Perm (roots φL env (wipe σ vs) ++ (_ :: (held ++ (A ++ L))))
      refine List.perm_middle.trans (List.Perm.trans (.cons _ ?_) List.perm_middle.symm)
      exact List.perm_append_comm_assoc ..
    have q : Wish X.K Z W0 [] ((Lk.noEx (tgM T items[i] env)).bind _) Post := q
    refine ⟨L', env, φL, 0, items[i], W0, S2, Nat.zero_le _, (q.bind.noEx (W' := W0) (L' := L')).mono fun _ e2 q3 σ2 H2 s2 _ ⟨g1, g2⟩ => ?_⟩
    have ew := same_wipe hT g1 g2
    refine ⟨ew, L', e2, s2, (q3.bind.noEx (W' := W0) (L' := L')).mono fun b e3 q4 H3 s3 => ?_⟩
    -- the turn's end
    have fin : ∀ {φ4 : List Nat} {e4 : Ev} {H4 : Hp} {acc' : List PyData}, leN φL φ4 = true → Sim X.K Z H4 (⟨ke + 1, .d (.list acc'), .ref D⟩ :: (roots φ4 e4 σ2 ++ (held ++ (A ++ L)))) → Al φ4 e4 σ2 → acc'.length ≤ big →
        Wish X.K Z W0 [] (compGo T vs ft fe (items.drop (i + 1)) acc' (wipeE vs e4)) Post → St1 (i + 1) H4 := fun {φ4 e4 H4 acc'} hl s a hb qq => by
      obtain ⟨a5, l5⟩ := a.less hl
      obtain ⟨a6, B, p6⟩ := a5.wipeA vs
      rw [ew] at a6 p6
      refine ⟨hlt, wipeE vs e4, acc', ?_, a6, hb, qq⟩
      have s7 := s.less (R' := ⟨ke + 1, .d (.list acc'), .ref D⟩ :: (roots φL e4 σ2 ++ (held ++ (A ++ L)))) (.cons ⟨Nat.le_refl _, rfl, rfl⟩ (Less.app l5 (Less.refl _)))
      have s8 := s7.perm (R' := ⟨ke + 1, .d (.list acc'), .ref D⟩ :: ((B ++ roots φL (wipeE vs e4) (wipe σ vs)) ++ (held ++ (A ++ L)))) (.cons _ (List.Perm.append_right _ p6))
      exact s8.sub (.cons_cons _ (List.Sublist.append_right (List.sublist_append_right _ _) _))
    cases b with
    | false =>
      simp only [Bool.false_eq_true, if_false]
      refine fin l2 ?_ s3.al hac q4
      refine s3.sim.perm ?_
      subst hL'
      exact List.perm_middle
    | true =>
      simp only [if_true]
      refine ⟨L', e3, s3, (q4.bind.noEx (W' := W0) (L' := L')).mono fun y e4 q5 yv H4 s4 => ?_⟩
      cases hy : dataOf y with
      | none => rw [hy] at q5; exact q5.elim
      | some x =>
        rw [hy] at q5
        simp only at q5
        split at q5
        · rename_i hb
          have ey : y = .d x := by
            cases y <;> simp only [dataOf] at hy <;> first | cases hy | skip
            rfl
          subst ey
          have s5 : Sim X.K Z H4 (⟨ke + 1, .d (.list acc), .ref D⟩ :: (⟨ke, .d x, yv⟩ :: (roots φ3 e4 σ2 ++ (held ++ (A ++ L))))) := by
            refine s4.sim.perm ?_
            subst hL'
            show (⟨ke, .d x, yv⟩ :: (roots φ3 e4 σ2 ++ (_ :: (held ++ (A ++ L))))).Perm _
            exact (List.Perm.cons _ List.perm_middle).trans (.swap _ _ _)
          obtain ⟨D', vacc, e, hD4, hlen, s6⟩ := s5.apart
          cases e
          refine ⟨vacc, hD4, by rw [sizeLine_eq]; unfold big at hb; omega, ?_⟩
          have s7 : SimT X.K Z H4 [D] (kids ke (acc ++ [x]) (vacc ++ [yv]) ++ (roots φ3 e4 σ2 ++ (held ++ (A ++ L)))) := by
            rw [kids_append hlen]
            rw [List.append_assoc]
            exact s6
          exact fin l3 (s7.close (by simp [hlen]) hD4) s4.al (by simp; exact hb) q5
        · exact q5.elim
  · have e : i = items.length := by omega
    subst e
    rw [List.drop_length] at q
    refine .inl ⟨o1 (Nat.le_refl _), (show ∀ v H', Stt X.K Z φL (restE vs e1 env) [⟨.v (ke + 1), .d (.list acc), v⟩] σ H' L → Q v H' from q) _ _ ?_⟩
    obtain ⟨a7, p7⟩ := back env al
    refine ⟨?_, a7, fun z hz => by rw [List.mem_singleton.mp hz]; trivial⟩
    have s8 : Sim X.K Z H (⟨ke + 1, .d (.list acc), .ref D⟩ :: (roots φL env (wipe σ vs) ++ (A ++ L))) := S.sub (.cons_cons _ (List.Sublist.append_left (List.sublist_append_right _ _) _))
    refine s8.perm (.cons _ ?_)
    refine (List.perm_append_comm_assoc ..).trans ?_
    rw [← List.append_assoc]
    exact List.Perm.append_right _ p7.symm
/-- a list comprehension, as a value -/
theorem je_lc (hc : X.calm = true) (hN : X.N.Nodup) (hi : JI X Z W φ tg iter φ1 fi) (ok : BlkOk X.N X.env.scope scope own)
    (hg : ∀ s H C cl fp, JG (blkOf X s H scope cl C fp) Z tg T) (ht : ∀ s H C cl fp, JTs (blkOf X s H scope cl C fp) Z W0 (tgF T 0 φL) ifs φ2 ft)
    (he : ∀ s H C cl fp, JE (blkOf X s H scope cl C fp) Z W0 φ2 elt φ3 (.v ke) fe) (hs : ∀ x, foldedSetIterable iter X.env x = pure x)
    (hT : ∀ i ∈ tgS T, i ∈ own.map (·.2)) (l0 : leN φL φ1 = true) (l2 : leN φL φ2 = true) (l3 : leN φL φ3 = true) :
    JE X Z W φ (.ListComp elt [⟨tg, iter, ifs, 0⟩] scope pos) φL (.v (ke + 1)) (compM T (own.map (·.2)) fi ft fe) :=
  pe_imp (pe_lc (g := gT X.K Z T) (tt := rdT X Z W0 (tgF T 0 φL) φ2 ft) (te := rdE X Z W0 φ2 φ3 (.v ke) fe) hc hN hi ok (fun s H C cl fp => hg s H C cl fp) (fun s H C cl fp => ht s H C cl fp) (fun s H C cl fp => he s H C cl fp) hs) fun σ H Q h => lc_law hT l0 l2 l3 h
/-- name = [..] on one line -/
theorem js_setLc {P : List (Nat × Nat)} {kr : Nat} {ψ : SF} {i : Nat} {y : Str} {py spos : Pos} (hc : X.calm = true) (hN : X.N.Nodup) (hy : X.N[i]? = some y) (hyl : X.env.scope.names.lookup y = some .local)
    (hsw : swapsWith (.ListComp elt [⟨tg, iter, ifs, 0⟩] scope pos) (some (.Name y py)) spos.line X.env = pure true)
    (hi : JI X Z W φ tg iter φ1 fi) (ok : BlkOk X.N X.env.scope scope own)
    (hg : ∀ s H C cl fp, JG (blkOf X s H scope cl C fp) Z tg T) (ht : ∀ s H C cl fp, JTs (blkOf X s H scope cl C fp) Z W0 (tgF T 0 φL) ifs φ2 ft)
    (he : ∀ s H C cl fp, JE (blkOf X s H scope cl C fp) Z W0 φ2 elt φ3 (.v ke) fe) (hs : ∀ x, foldedSetIterable iter X.env x = pure x)
    (hT : ∀ i ∈ tgS T, i ∈ own.map (·.2)) (l0 : leN φL φ1 = true) (l2 : leN φL φ2 = true) (l3 : leN φL φ3 = true)
    (hP : P.all (fun p => p.1 != i) = true) (hn : ψ.n = φL.set i (ke + 1)) :
    JS X Z W P kr φ (.Assign [.Name y py] (.ListComp elt [⟨tg, iter, ifs, 0⟩] scope pos) spos) ψ (setM i (compM T (own.map (·.2)) fi ft fe)) := by
  refine ps_imp (ps_setLc (g := gT X.K Z T) (tt := rdT X Z W0 (tgF T 0 φL) φ2 ft) (te := rdE X Z W0 φ2 φ3 (.v ke) fe) hc hN hy hyl hsw hi ok (fun s H C cl fp => hg s H C cl fp) (fun s H C cl fp => ht s H C cl fp) (fun s H C cl fp => he s H C cl fp) hs) fun D σ H ⟨L, env, pv, S, hp, q⟩ => ?_
  refine lc_law (Q := fun x H1 => gName i x σ H1 D.nx) hT l0 l2 l3 ⟨L, env, S, q.bind.mono fun d e' q v H' s => ?_⟩
  split at q
  · rename_i hl
    rw [hn] at q
    exact (show ∀ σ' H', Stt X.K Z (φL.set i (ke + 1)) (e'.set i (some d)) [] σ' H' L → Pok P pv σ' → D.nx σ' H' from q) _ _ (s.store hl) (hp.set hP)
  · exact q.elim
end
end Lk
namespace Lk
open PySem PySem.Spec L2
section
variable {X : Cx} {Z : ClT} {W : WX} {P : List (Nat × Nat)} {kr : Nat} {φ φ0 φ1 φ2 φ3 φ' : List Nat} {ψ ψ1 ψ2 : SF} {t ta tb tc : Tm} {ts : List Tm} {fa fb fc : M DV} {f : M (List DV)} {g g1 g2 : M Fl} {σ : St} {H : Hp} {L R : List Root} {env : Ev} {a b c e tg : Expr} {es : List Expr} {st : Stmt} {sts : List Stmt} {pos pos' p : Pos} {k n : Nat}

/-! ### what is never reached needs no rule -/
theorem je_bad : JE X Z W φ e φ' t (fun _ => .bad) := ⟨fun pins s σ H Q I ⟨L, env, S, h⟩ => h.elim⟩
theorem js_bad : JS X Z W P kr φ st ψ (fun _ => .bad) := ⟨fun pins s σ H D I ⟨L, env, pv, S, hp, h⟩ => h.elim⟩
theorem jss_bad : JSs X Z W P kr φ sts ψ (fun _ => .bad) := ⟨fun pins s σ H D I ⟨L, env, pv, S, hp, h⟩ => h.elim⟩
theorem je_less (h : JE X Z W φ e φ1 t fa) (hl : leN φ2 φ1 = true) : JE X Z W φ e φ2 t fa := pe_imp h fun σ H Q ⟨L, env, S, q⟩ => ⟨L, env, S, q.mono fun d e' k v H' s => k v H' (s.less hl)⟩
theorem jt_less {ft : M Bool} (h : JT X Z W φ e φ1 ft) (hl : leN φ2 φ1 = true) : JT X Z W φ e φ2 ft := pt_imp h fun σ H Q ⟨L, env, S, q⟩ => ⟨L, env, S, q.mono fun d e' k H' s => k H' (s.less hl)⟩
theorem Stt.weakV {k m : Nat} {d : DV} {v : V} {hs : List Held} (S : Stt X.K Z φ env (⟨.v k, d, v⟩ :: hs) σ H L) (h : m ≤ k) : Stt X.K Z φ env (⟨.v m, d, v⟩ :: hs) σ H L := by
  refine ⟨Sim.weak (n := k) S.sim h, S.al, fun x hx => ?_⟩
  rcases List.mem_cons.mp hx with e | hx
  · subst e; trivial
  · exact S.at' x (List.mem_cons_of_mem _ hx)
theorem je_weak {m : Nat} (h : JE X Z W φ e φ1 (.v k) fa) (hl : m ≤ k) : JE X Z W φ e φ1 (.v m) fa := pe_imp h fun σ H Q ⟨L, env, S, q⟩ => ⟨L, env, S, q.mono fun d e' z v H' s => z v H' (s.weakV hl)⟩

/-! ### a op b op' c -/
def chM (g g' : DV → DV → Option DV) (ta tb tc : Tm) (fa fb fc : M DV) : M DV := fun env => (fa env).bind fun d e1 => (fb e1).bind fun d' e2 =>
  match ta.now d e2, tb.now d' e2 with
  | some x, some y => (match g x y with
    | some (.d (.bool true)) => (fc e2).bind fun d'' e3 => (match tb.now d' e3, tc.now d'' e3 with
      | some y, some z => (match g' y z with
        | some (.d (.bool r)) => .ok (.d (.bool r)) e3
        | _ => .bad)
      | _, _ => .bad)
    | some (.d (.bool false)) => .ok (.d (.bool false)) e2
    | _ => .bad)
  | _, _ => .bad
theorem Stt.op1 {hs : List Held} {h1 h2 : Held} {g : DV → DV → Option DV} {x y r : DV} {k cap : Nat} {P : VK} (S : Stt X.K Z φ env hs σ H L) (m1 : h1 ∈ hs) (m2 : h2 ∈ hs) (q1 : h1.t.now h1.d env = some x) (q2 : h2.t.now h2.d env = some y) (hg : g x y = some r)
    (hP : ∀ v H', Stt X.K Z (capS cap (hs.map fun h => h.t.slot?) φ) env (⟨.v k, r, v⟩ :: hs.map (Held.cap cap)) σ H' L → P v H') :
    ∃ R d e n m r, Sim X.K Z H R ∧ (⟨n, d, h1.v⟩ : Root) ∈ R ∧ (⟨m, e, h2.v⟩ : Root) ∈ R ∧ n ≤ cap ∧ m ≤ cap ∧ g d e = some r ∧ ∀ v H', Sim X.K Z H' (⟨k, r, v⟩ :: R) → P v H' := by
  obtain ⟨n, hn, mm1⟩ := S.memC (c := cap) m1 q1
  obtain ⟨m, hm, mm2⟩ := S.memC (c := cap) m2 q2
  refine ⟨_, x, y, n, m, r, (S.cap cap).sim, mm1, mm2, hn, hm, hg, fun v H' s => hP v H' ⟨s, (S.cap cap).al, fun z hz => ?_⟩⟩
  rcases List.mem_cons.mp hz with e | hz
  · subst e; trivial
  · exact (S.cap cap).at' z hz
theorem hrts_sub {hs hs' : List Held} (h : hs'.Sublist hs) : (hrts hs').Sublist (hrts hs) := by
  induction h with
  | slnil => exact .refl _
  | cons a _ ih => exact ih.trans (List.sublist_append_right _ _)
  | cons_cons a _ ih => exact List.Sublist.append_left ih _
theorem Stt.hsub {hs hs' : List Held} (S : Stt X.K Z φ env hs σ H L) (h : hs'.Sublist hs) : Stt X.K Z φ env hs' σ H L :=
  ⟨S.sim.sub (List.Sublist.append_right (hrts_sub h) _), S.al, fun x hx => S.at' x (h.subset hx)⟩
theorem ch_core {op op' : CmpOp} {g g' : DV → DV → Option DV} {k' : Nat} {P : VK} (S : Stt X.K Z φ env [] σ H L) (hb : JE X Z W φ1 b φ2 tb fb) (hc : JE X Z W (cap2 9 ta tb φ2) c φ3 tc fc) (hl : leN φ' (cap2 9 ta tb φ2) = true) (hl3 : leN φ' (cap2 9 tb tc φ3) = true)
    (h : Wish X.K Z W L (chM g g' ta tb tc fa fb fc env) fun d e' => ∀ kb H', d = .d (.bool kb) → Stt X.K Z φ' e' [] σ H' L → P (.bl kb) H') :
    tChain (fun x y H Q => ∃ R d e n m r, Sim X.K Z H R ∧ (⟨n, d, x⟩ : Root) ∈ R ∧ (⟨m, e, y⟩ : Root) ∈ R ∧ n ≤ 9 ∧ m ≤ 9 ∧ g d e = some r ∧ ∀ v H', Sim X.K Z H' (⟨k, r, v⟩ :: R) → Q v H')
      (fun x y H Q => ∃ R d e n m r, Sim X.K Z H R ∧ (⟨n, d, x⟩ : Root) ∈ R ∧ (⟨m, e, y⟩ : Root) ∈ R ∧ n ≤ 9 ∧ m ≤ 9 ∧ g' d e = some r ∧ ∀ v H', Sim X.K Z H' (⟨k', r, v⟩ :: R) → Q v H')
      (rdE X Z W φ φ1 ta fa) (rdE X Z W φ1 φ2 tb fb) (rdE X Z W (cap2 9 ta tb φ2) φ3 tc fc) σ H P := by
  refine rdE.go S (h.bind.mono fun d e1 h1 v H1 S1 => ?_)
  refine rdE.go S1 (h1.bind.mono fun d' e2 h2 u H2 S2 => ?_)
  cases q1 : ta.now d e2 with
  | none => rw [q1] at h2; exact h2.elim
  | some x =>
    cases q2 : tb.now d' e2 with
    | none => rw [q1, q2] at h2; exact h2.elim
    | some y =>
      rw [q1, q2] at h2
      simp only at h2
      cases q3 : g x y with
      | none => rw [q3] at h2; exact h2.elim
      | some r =>
        rw [q3] at h2
        have isb : ∃ kb, r = .d (.bool kb) := by
          cases r with
          | d r =>
            cases r with
            | bool kb => exact ⟨kb, rfl⟩
            | none => exact h2.elim
            | int _ => exact h2.elim
            | str _ => exact h2.elim
            | list _ => exact h2.elim
            | tuple _ => exact h2.elim
            | dict _ => exact h2.elim
          | o _ _ => exact h2.elim
          | x _ _ => exact h2.elim
          | f _ _ _ => exact h2.elim
          | z _ => exact h2.elim
          | g _ => exact h2.elim
          | k _ _ => exact h2.elim
          | e _ _ => exact h2.elim
          | s _ => exact h2.elim
        obtain ⟨kb, rfl⟩ := isb
        refine Stt.op1 (h1 := ⟨ta, d, v⟩) (h2 := ⟨tb, d', u⟩) (cap := 9) S2 (List.mem_cons_of_mem _ List.mem_cons_self) List.mem_cons_self q1 q2 q3 fun w H3 S3 => ?_
        have ew : w = .bl kb := S3.sim.bl (n := k) (List.mem_cons_self)
        refine ⟨kb, ew, ?_⟩
        have S4 : Stt X.K Z (cap2 9 ta tb φ2) e2 [Held.cap 9 ⟨tb, d', u⟩] σ H3 L := S3.hsub (.cons _ (.cons_cons _ (List.nil_sublist _)))
        cases kb with
        | false =>
          simp only [Bool.false_eq_true, if_false]
          exact h2 false H3 rfl (S4.less hl).free
        | true =>
          simp only [if_true]
          refine rdE.go S4 (h2.bind.mono fun d'' e3 h3 z H4 S5 => ?_)
          cases q5 : tb.now d' e3 with
          | none => rw [q5] at h3; exact h3.elim
          | some y' =>
            cases q6 : tc.now d'' e3 with
            | none => rw [q5, q6] at h3; exact h3.elim
            | some z' =>
              rw [q5, q6] at h3
              simp only at h3
              cases q7 : g' y' z' with
              | none => rw [q7] at h3; exact h3.elim
              | some r' =>
                rw [q7] at h3
                have q5' : (Held.cap 9 ⟨tb, d', u⟩).t.now (Held.cap 9 ⟨tb, d', u⟩).d e3 = some y' := by
                  cases tb with
                  | sl i => exact q5
                  | v k => exact q5
                have eu : (Held.cap 9 ⟨tb, d', u⟩).v = u := by cases tb <;> rfl
                have et : (Held.cap 9 ⟨tb, d', u⟩).t.slot? = tb.slot? := by cases tb <;> rfl
                have z0 := Stt.op1 (P := P) (k := k') (h1 := Held.cap 9 ⟨tb, d', u⟩) (h2 := ⟨tc, d'', z⟩) (cap := 9) S5 (List.mem_cons_of_mem _ List.mem_cons_self) List.mem_cons_self q5' q6 q7 fun w H5 S6 => by
                  have isb : ∃ kb, r' = .d (.bool kb) := by
                    cases r' with
                    | d r =>
                      cases r with
                      | bool kb => exact ⟨kb, rfl⟩
                      | none => exact h3.elim
                      | int _ => exact h3.elim
                      | str _ => exact h3.elim
                      | list _ => exact h3.elim
                      | tuple _ => exact h3.elim
                      | dict _ => exact h3.elim
                    | o _ _ => exact h3.elim
                    | x _ _ => exact h3.elim
                    | f _ _ _ => exact h3.elim
                    | z _ => exact h3.elim
                    | g _ => exact h3.elim
                    | k _ _ => exact h3.elim
                    | e _ _ => exact h3.elim
                    | s _ => exact h3.elim
                  obtain ⟨kb, rfl⟩ := isb
                  have ew2 : w = .bl kb := S6.sim.bl (n := k') List.mem_cons_self
                  rw [ew2]
                  have S7 := S6.free
                  simp only [List.map_cons, List.map_nil, et] at S7
                  exact h3 kb H5 rfl ((S7.less hl3).hsub (List.nil_sublist _))
                rw [eu] at z0
                exact z0
theorem je_chain {op op' : CmpOp} {g g' : DV → DV → Option DV} {k' : Nat} (ho : OpD X Z (compareOp op) g 9 k) (ho' : OpD X Z (compareOp op') g' 9 k') (hm : lastMarks [op, op'] [b, c] = false)
    (ha : JE X Z W φ a φ1 ta fa) (hb : JE X Z W φ1 b φ2 tb fb) (hc : JE X Z W (cap2 9 ta tb φ2) c φ3 tc fc) (hl : leN φ' (cap2 9 ta tb φ2) = true) (hl3 : leN φ' (cap2 9 tb tc φ3) = true) :
    JE X Z W φ (.Compare a [op, op'] [b, c] pos) φ' (.v 9) (chM g g' ta tb tc fa fb fc) := by
  refine pe_imp (pe_chain ho ho' ha hb hc hm) fun σ H Q ⟨L, env, S, h⟩ => ?_
  exact ch_core (op := op) (op' := op') S hb hc hl hl3 (h.mono fun d e' k kb H' e s => by
    subst e
    exact k (.bl kb) H' ⟨s.sim.cbl, s.al, fun z hz => by rw [List.mem_singleton.mp hz]; trivial⟩)
theorem jt_chain {op op' : CmpOp} {g g' : DV → DV → Option DV} {k' : Nat} (ho : OpD X Z (compareOp op) g 9 k) (ho' : OpD X Z (compareOp op') g' 9 k') (hm : lastMarks [op, op'] [b, c] = false)
    (ha : JE X Z W φ a φ1 ta fa) (hb : JE X Z W φ1 b φ2 tb fb) (hc : JE X Z W (cap2 9 ta tb φ2) c φ3 tc fc) (hl : leN φ' (cap2 9 ta tb φ2) = true) (hl3 : leN φ' (cap2 9 tb tc φ3) = true) :
    JT X Z W φ (.Compare a [op, op'] [b, c] pos) φ' (asB (.v 9) (chM g g' ta tb tc fa fb fc)) := by
  refine pt_imp (pt_chain ho ho' ha hb hc hm) fun σ H Q ⟨L, env, S, h⟩ => ?_
  exact ch_core (op := op) (op' := op') (P := fun z H' => ∃ k, z = .bl k ∧ Q k H') S hb hc hl hl3 (Wish.mono h.bind fun d e' k kb H' e s => by
    subst e
    exact ⟨kb, rfl, k H' s⟩)

/-! ### x[i] = v, x a list of the body's own -/
theorem kids_set {m : Nat} {x : PyData} {v : V} : ∀ {xs : List PyData} {vs : List V} {j : Nat}, xs.length = vs.length → j < xs.length → ∃ r, (r :: kids m (xs.set j x) (vs.set j v)).Perm (⟨m, .d x, v⟩ :: kids m xs vs)
  | y :: xs, w :: vs, 0, _, _ => ⟨⟨m, .d y, w⟩, by
    show (⟨m, .d y, w⟩ :: ⟨m, .d x, v⟩ :: kids m xs vs).Perm (⟨m, .d x, v⟩ :: ⟨m, .d y, w⟩ :: kids m xs vs)
    exact .swap _ _ _⟩
  | y :: xs, w :: vs, j + 1, h, hj => by
    obtain ⟨r, q⟩ := kids_set (m := m) (x := x) (v := v) (xs := xs) (vs := vs) (j := j) (by simpa using h) (by simpa using hj)
    refine ⟨r, ?_⟩
    show (r :: ⟨m, .d y, w⟩ :: kids m (xs.set j x) (vs.set j v)).Perm (⟨m, .d x, v⟩ :: ⟨m, .d y, w⟩ :: kids m xs vs)
    exact (List.Perm.swap _ _ _).trans ((List.Perm.cons _ q).trans (.swap _ _ _))
  | [], _, _, _, hj => by simp at hj
  | _ :: _, [], _, h, _ => by simp at h
theorem kids_less {m n : Nat} (h : m ≤ n) : ∀ (xs : List PyData) (vs : List V), Less (kids n xs vs) (kids m xs vs)
  | [], _ => .nil
  | _ :: _, [] => .nil
  | x :: xs, v :: vs => .cons ⟨h, rfl, rfl⟩ (kids_less h xs vs)
/-- the list of a slot, taken apart -/
theorem Stt.slotL {j n : Nat} {xs : List PyData} {hs : List Held} (S : Stt X.K Z φ env hs σ H L) (h : slot env j = some (.d (.list xs))) (hn : φ[j]? = some (n + 1)) :
    ∃ l vs, σ[j]? = some (some (.ref l)) ∧ H l = some (.lst vs) ∧ xs.length = vs.length ∧ SimT X.K Z H [l] (kids n xs vs ++ (hrts hs ++ (roots φ (env.set j none) σ ++ L))) := by
  obtain ⟨n', v, h1, h2, p⟩ := S.al.get h
  rw [hn] at h1; cases h1
  have s1 : Sim X.K Z H (⟨n + 1, .d (.list xs), v⟩ :: (hrts hs ++ (roots φ (env.set j none) σ ++ L))) := by
    refine S.sim.perm ?_
    exact (List.Perm.append_left _ (List.Perm.append_right L p)).trans List.perm_middle
  obtain ⟨l, vs, rfl, q1, q2, q3⟩ := s1.apart
  exact ⟨l, vs, h2, q1, q2, q3⟩
/-- .. and put back -/
theorem Stt.slotPut {j m : Nat} {l : Addr} {xs : List PyData} {vs ws : List V} {hs : List Held} (al : Al φ env σ) (at' : ∀ h ∈ hs, h.at σ) (hv : σ[j]? = some (some (.ref l))) (hH : H l = some (.lst ws)) (hl : xs.length = vs.length)
    (q : SimT X.K Z H [l] (kids m xs vs ++ (hrts hs ++ (roots φ (env.set j none) σ ++ L)))) : Stt X.K Z (φ.set j (m + 1)) (env.set j (some (.d (.list xs)))) hs σ (upd H l (.lst vs)) L := by
  obtain ⟨a2, p2⟩ := al.setE (d' := .d (.list xs)) (m + 1) hv
  refine ⟨?_, a2, at'⟩
  have s2 := q.close hl hH
  refine s2.perm ?_
  refine List.Perm.trans ?_ (List.Perm.append_left _ (List.Perm.append_right L p2.symm))
  exact List.perm_middle.symm
def stD (j : Nat) (x i : PyData) (e : Ev) : Option Ev := match slot e j with
  | some (.d (.list xs)) => (match i with
    | .int i => (ixN xs.length i).map fun k => e.set j (some (.d (.list (xs.set k x))))
    | _ => none)
  | some (.d (.dict qs)) => (dputP qs i x).map fun qs' => e.set j (some (.d (.dict qs')))
  | _ => none
def intO : Option DV → Option Int
  | some (.d (.int i)) => some i
  | _ => none
theorem intO_some {o : Option DV} {i : Int} (h : intO o = some i) : o = some (.d (.int i)) := by
  unfold intO at h
  split at h
  · cases h; rfl
  · cases h
theorem dataOf_some {d : DV} {x : PyData} (h : dataOf d = some x) : d = .d x := by
  cases d <;> simp only [dataOf] at h <;> first | cases h | skip
  rfl
def stO (j : Nat) (d : DV) (oi : Option DV) (e : Ev) : Option Ev := (dataOf d).bind fun x => (oi.bind dataOf).bind fun i => stD j x i e
def Out.goE {α : Type} (a : α) (o : Option Ev) : Out α := match o with
  | some e => .ok a e
  | none => .bad
theorem Wish.goE {α : Type} {a : α} {o : Option Ev} {k : α → Ev → Prop} (h : Wish X.K Z W L (Out.goE a o) k) : ∃ e, o = some e ∧ k a e := by
  cases o with
  | none => exact h.elim
  | some e => exact ⟨e, rfl, h⟩
def stM (j : Nat) (fv : M DV) (ti : Tm) (fi : M DV) : M Fl := fun env => (fv env).bind fun d e1 => (slotM j e1).bind fun _ e1 => (fi e1).bind fun i e2 => .goE .nx (stO j d (ti.now i e2) e2)
theorem stD_some {j : Nat} {x i : PyData} {e e3 : Ev} (h : stD j x i e = some e3) : (∃ xs k i', i = .int i' ∧ slot e j = some (.d (.list xs)) ∧ ixN xs.length i' = some k ∧ e3 = e.set j (some (.d (.list (xs.set k x))))) ∨
    ∃ qs qs', slot e j = some (.d (.dict qs)) ∧ dputP qs i x = some qs' ∧ e3 = e.set j (some (.d (.dict qs'))) := by
  unfold stD at h
  split at h
  · rename_i xs q
    split at h
    · obtain ⟨k, hk, rfl⟩ := Option.map_eq_some_iff.mp h
      exact .inl ⟨xs, k, _, rfl, q, hk, rfl⟩
    · cases h
  · rename_i qs q
    obtain ⟨qs', hk, rfl⟩ := Option.map_eq_some_iff.mp h
    exact .inr ⟨qs, qs', q, hk, rfl⟩
  · cases h
/-- the dict of a slot, taken apart -/
theorem Stt.slotD {j n : Nat} {qs : List (PyData × PyData)} {hs : List Held} (S : Stt X.K Z φ env hs σ H L) (h : slot env j = some (.d (.dict qs))) (hn : φ[j]? = some (n + 1)) :
    ∃ l vs, σ[j]? = some (some (.ref l)) ∧ DicAt H l (qs.map (·.1)) vs ∧ (qs.map (·.2)).length = vs.length ∧ SimT X.K Z H [l] (kids n (qs.map (·.2)) vs ++ (hrts hs ++ (roots φ (env.set j none) σ ++ L))) := by
  obtain ⟨n', v, h1, h2, p⟩ := S.al.get h
  rw [hn] at h1; cases h1
  have s1 : Sim X.K Z H (⟨n + 1, .d (.dict qs), v⟩ :: (hrts hs ++ (roots φ (env.set j none) σ ++ L))) := by
    refine S.sim.perm ?_
    exact (List.Perm.append_left _ (List.Perm.append_right L p)).trans List.perm_middle
  obtain ⟨l, vs, rfl, q1, q2, q3⟩ := s1.apartD
  exact ⟨l, vs, h2, q1, q2, q3⟩
theorem Stt.slotPutD {j m : Nat} {l : Addr} {qs : List (PyData × PyData)} {ks : List PyData} {vs ws : List V} {ob : HO} {hs : List Held} (al : Al φ env σ) (at' : ∀ h ∈ hs, h.at σ) (hv : σ[j]? = some (some (.ref l))) (hH : DicAt H l ks ws) (hN : DicAt (upd H l ob) l (qs.map (·.1)) vs) (hl : (qs.map (·.2)).length = vs.length)
    (q : SimT X.K Z H [l] (kids m (qs.map (·.2)) vs ++ (hrts hs ++ (roots φ (env.set j none) σ ++ L)))) : Stt X.K Z (φ.set j (m + 1)) (env.set j (some (.d (.dict qs)))) hs σ (upd H l ob) L := by
  obtain ⟨a2, p2⟩ := al.setE (d' := .d (.dict qs)) (m + 1) hv
  refine ⟨?_, a2, at'⟩
  have s2 := q.closeD hl hH hN
  refine s2.perm ?_
  refine List.Perm.trans ?_ (List.Perm.append_left _ (List.Perm.append_right L p2.symm))
  exact List.perm_middle.symm
def rSetA : TSet := fun o i v H Q => rSetL o i v H Q ∨ rSetD o i v H Q
theorem set_any (hu : X.A.units + 1 < cLine) : PSet X rSetA := by
  intro pins s σ H o i v ov iv u Q I ro ri rv h
  rcases h with h | h
  · exact set_list pins s σ H o i v ov iv u Q I ro ri rv h
  · exact set_dict hu pins s σ H o i v ov iv u Q I ro ri rv h
/-- the kids when a key is put -/
theorem kids_put {κ : Type} [DecidableEq κ] {m n k0 : Nat} {R : List Root} {a : Addr} {H : Hp} {x : PyData} {v : V} {k : κ} {l : List (κ × PyData)} {kvs : List (κ × V)} (hk : l.map (·.1) = kvs.map (·.1)) (nd : (kvs.map (·.1)).Nodup) (hm : m ≤ n) (hm2 : m ≤ k0)
    (q : SimT X.K Z H [a] (kids n (l.map (·.2)) (kvs.map (·.2)) ++ (⟨k0, .d x, v⟩ :: R))) : SimT X.K Z H [a] (kids m ((putG l k x).map (·.2)) ((putK kvs k v).map (·.2)) ++ R) := by
  have hl : (l.map (·.2)).length = (kvs.map (·.2)).length := by
    have := congrArg List.length hk
    simpa using this
  have c1 : SimT X.K Z H [a] (kids m (l.map (·.2)) (kvs.map (·.2)) ++ (⟨m, .d x, v⟩ :: R)) := q.less (Less.app (kids_less hm _ _) (.cons ⟨hm2, rfl, rfl⟩ (Less.refl _)))
  unfold putG putK
  by_cases z : (l.any fun p => decide (p.1 = k)) = true
  · rw [if_pos z, if_pos (by rw [← any_keys k hk]; exact z)]
    obtain ⟨i, a1, a2, a3⟩ := put_at k x (hk ▸ nd) z
    obtain ⟨i', b1, b2, b3⟩ := put_at k v nd (by rw [← any_keys k hk]; exact z)
    have ei : i = i' := by
      have e1 : (kvs.map (·.1))[i]? = some k := by rw [← hk]; exact a2
      exact (List.getElem?_inj (by rw [List.length_map, ← List.length_map (·.1), ← hk, List.length_map]; exact a1) nd).mp (e1.trans b2.symm)
    subst ei
    rw [a3, b3]
    obtain ⟨r, pr⟩ := kids_set (m := m) (x := x) (v := v) hl (by rw [List.length_map]; exact a1)
    have c2 : SimT X.K Z H [a] ((⟨m, .d x, v⟩ :: kids m (l.map (·.2)) (kvs.map (·.2))) ++ R) := c1.perm List.perm_middle
    exact (c2.perm (List.Perm.append_right _ pr.symm)).sub (List.sublist_cons_self _ _)
  · rw [if_neg z, if_neg (by rw [← any_keys k hk]; exact z), List.map_append, List.map_append, kids_append hl, List.append_assoc]
    exact c1
theorem Wish.slotM {j : Nat} {e : Ev} {k : DV → Ev → Prop} (h : Wish X.K Z W L (Lk.slotM j e) k) : ∃ d, slot e j = some d ∧ k d e := by
  unfold Lk.slotM at h
  cases q : slot e j with
  | none => rw [q] at h; exact h.elim
  | some d => rw [q] at h; exact ⟨d, rfl, h⟩
theorem js_store {j n m : Nat} {x : Str} {ei : Expr} {ti : Tm} {fv fi : M DV} {px pos2 : Pos} (hu : X.A.units + 64 < cLine) (hN : X.N[j]? = some x) (hv : Vis X.env.scope x) (hdb : (x == ("__debug__" : Str)) = false) (hcd : (x == ("__classdict__" : Str)) = false)
    (he : JE X Z W φ e φ1 (.v k) fv) (hi : JE X Z W φ1 ei φ2 ti fi) (hn : φ2[j]? = some (n + 1)) (hm : m = min n k)
    (hs : swapsWithSole [.Subscript (.Name x px) ei pos2] e pos.line X.env = pure false) (hw : swappedStores [.Subscript (.Name x px) ei pos2] e X.env = pure none) (h1 : (assignEach [.Subscript (.Name x px) ei pos2] X.env).map (·.2) = [assign (.Subscript (.Name x px) ei pos2) X.env])
    (hsu : ∀ v, assign (.Subscript (.Name x px) ei pos2) X.env v = (do
      let ov ← holding [v] (eval (.Name x px) X.env)
      let iv ← holding [v, ov] (eval ei X.env)
      standAt pos2
      holding [v, ov, iv] (setItem ov iv v)
      release [v, ov, iv] [])) (hψ : ψ.n = φ2.set j (m + 1)) :
    JS X Z W P kr φ (.Assign [.Subscript (.Name x px) ei pos2] e pos) ψ (stM j fv ti fi) := by
  refine ps_imp (ps_asg he (pg_sub (pe_var hN hv hdb hcd) hi (set_any (by omega)) hsu) hs hw h1) fun D σ H ⟨L, env, pv, S, hp, q⟩ => ?_
  refine rdE.go S (q.bind.mono fun d e1 q1 v H1 S1 => ?_)
  obtain ⟨d0, q0, q1⟩ := Wish.slotM q1.bind
  obtain ⟨_, w, _, g2, _⟩ := S1.al.get q0
  refine ⟨w, g2, ?_⟩
  refine rdE.go S1 (q1.bind.mono fun i e2 q2 iv H2 S2 => ?_)
  obtain ⟨e3, z, q2⟩ := q2.goE
  obtain ⟨x, z0, z⟩ := Option.bind_eq_some_iff.mp z
  obtain ⟨i0, z1, z2⟩ := Option.bind_eq_some_iff.mp z
  obtain rfl := dataOf_some z0
  obtain ⟨di, z1, z3⟩ := Option.bind_eq_some_iff.mp z1
  obtain rfl := dataOf_some z3
  have l0 : m ≤ k := by omega
  have l1 : m ≤ n := by omega
  rcases stD_some z2 with ⟨xs, k', i1, rfl, y1, y2, rfl⟩ | ⟨qs, qs', y1, y2, rfl⟩
  · have ei : iv = .int i1 := S2.isI (h := ⟨ti, i, iv⟩) List.mem_cons_self z1
    have S3 : Stt X.K Z φ2 e2 [⟨.v k, .d x, v⟩] σ H2 L := S2.free
    obtain ⟨l, vs, b1, b2, b3, b4⟩ := S3.slotL y1 hn
    rw [g2] at b1; cases b1
    have hk' : k' < xs.length := (ixN_seq y2).2.1
    refine .inl ⟨l, vs, i1, k', rfl, ei, b2, b3 ▸ y2, ?_⟩
    have b5 : SimT X.K Z H2 [l] (kids m (xs.set k' x) (vs.set k' v) ++ (hrts [] ++ (roots φ2 (e2.set j none) σ ++ L))) := by
      obtain ⟨r, pr⟩ := kids_set (m := m) (x := x) (v := v) b3 hk'
      have c0 : SimT X.K Z H2 [l] (⟨k, .d x, v⟩ :: kids n xs vs ++ (roots φ2 (e2.set j none) σ ++ L)) := b4.perm List.perm_middle
      have c1 : SimT X.K Z H2 [l] (⟨m, .d x, v⟩ :: kids m xs vs ++ (roots φ2 (e2.set j none) σ ++ L)) :=
        c0.less (.cons ⟨l0, rfl, rfl⟩ (Less.app (kids_less l1 xs vs) (Less.refl _)))
      have c2 := c1.perm (List.Perm.append_right _ pr.symm)
      exact c2.sub (List.sublist_cons_self _ _)
    rw [hψ] at q2
    refine (show ∀ σ' H', Stt X.K Z (φ2.set j (m + 1)) (e2.set j (some (.d (.list (xs.set k' x))))) [] σ' H' L → Pok P pv σ' → D.nx σ' H' from q2) σ _ ?_ hp
    exact Stt.slotPut S3.al (fun _ h => nomatch h) g2 b2 (by simp [b3]) b5
  · obtain ⟨n2, r2, _⟩ := S2.mem (h := ⟨ti, i, iv⟩) List.mem_cons_self z1
    have S3 : Stt X.K Z φ2 e2 [⟨.v k, .d x, v⟩] σ H2 L := S2.free
    obtain ⟨l, vs, b1, b2, b3, b4⟩ := S3.slotD y1 hn
    rw [g2] at b1; cases b1
    have c0 : SimT X.K Z H2 [l] (kids n (qs.map (·.2)) vs ++ (⟨k, .d x, v⟩ :: (hrts [] ++ (roots φ2 (e2.set j none) σ ++ L)))) := b4
    rw [hψ] at q2
    obtain ⟨h0, h1⟩ : qs.length < big0 ∧ _ := by
      unfold dputP at y2
      split at y2
      · exact ⟨by assumption, y2⟩
      · cases y2
    have hz : qs.length < sizeLine := by rw [sizeLine_eq]; unfold big0 at h0; omega
    refine .inr ⟨l, rfl, ?_⟩
    split at h1
    · rename_i k' e
      obtain ⟨ls, u1, rfl⟩ := Option.map_eq_some_iff.mp h1
      obtain rfl := unK_eq e
      obtain rfl := asK_eq u1
      have ey := S2.sim.keyD r2
      rw [ofK_snd] at b3 c0
      have fin : ∀ kvs : List (Key × V), ls.map (·.1) = kvs.map (·.1) → vs = kvs.map (·.2) → (kvs.map (·.1)).Nodup → D.nx σ (upd H2 l (.dK (putK kvs k' v))) := fun kvs f1 f2 nd => by
        subst f2
        refine (show ∀ σ' H', Stt X.K Z (φ2.set j (m + 1)) (e2.set j (some (.d (.dict (ofK (putG ls k' x)))))) [] σ' H' L → Pok P pv σ' → D.nx σ' H' from q2) σ _ ?_ hp
        refine Stt.slotPutD (vs := (putK kvs k' v).map (·.2)) S3.al (fun _ h => nomatch h) g2 b2 (.inl ⟨_, upd_same, ?_, rfl⟩) ?_ ?_
        · unfold ofK
          rw [List.map_map]
          have := congrArg (List.map keyD) (putG_keys k' x v f1)
          rw [List.map_map, List.map_map] at this
          exact this
        · rw [ofK_snd]
          have : ((putG ls k' x).map (·.1)).length = ((putK kvs k' v).map (·.1)).length := congrArg List.length (putG_keys k' x v f1)
          simpa using this
        · rw [ofK_snd]
          exact kids_put f1 nd l1 l0 c0
      refine .inl ?_
      rcases b2 with ⟨kvs, g1, g2', g3⟩ | ⟨kvs, g1, g2', g3⟩
      · exact ⟨kvs, k', .inl g1, ey, by rw [← List.length_map (·.1), ← keysK g2', List.length_map]; simpa [ofK] using hz, fun nd => fin kvs (keysK g2') g3 nd⟩
      · obtain ⟨rfl, rfl⟩ := keysKT g2'
        exact ⟨[], k', .inr ⟨g1, rfl⟩, ey, by rw [sizeLine_eq]; decide, fun nd => fin [] rfl g3 nd⟩
    · split at h1
      · rename_i k' e
        obtain ⟨ls, u1, rfl⟩ := Option.map_eq_some_iff.mp h1
        obtain rfl := unT_eq e
        obtain rfl := asT_eq u1
        obtain ⟨b, ey, eb⟩ := S2.sim.keyT r2
        rw [ofT_snd] at b3 c0
        have fin : ∀ kvs : List (List Key × V), ls.map (·.1) = kvs.map (·.1) → vs = kvs.map (·.2) → (kvs.map (·.1)).Nodup → D.nx σ (upd H2 l (.dT (putK kvs k' v))) := fun kvs f1 f2 nd => by
          subst f2
          refine (show ∀ σ' H', Stt X.K Z (φ2.set j (m + 1)) (e2.set j (some (.d (.dict (ofT (putG ls k' x)))))) [] σ' H' L → Pok P pv σ' → D.nx σ' H' from q2) σ _ ?_ hp
          refine Stt.slotPutD (vs := (putK kvs k' v).map (·.2)) S3.al (fun _ h => nomatch h) g2 b2 (.inr ⟨_, upd_same, ?_, rfl⟩) ?_ ?_
          · unfold ofT
            rw [List.map_map]
            have := congrArg (List.map keyT) (putG_keys k' x v f1)
            rw [List.map_map, List.map_map] at this
            exact this
          · rw [ofT_snd]
            have : ((putG ls k' x).map (·.1)).length = ((putK kvs k' v).map (·.1)).length := congrArg List.length (putG_keys k' x v f1)
            simpa using this
          · rw [ofT_snd]
            exact kids_put f1 nd l1 l0 c0
        refine .inr ?_
        rcases b2 with ⟨kvs, g1, g2', g3⟩ | ⟨kvs, g1, g2', g3⟩
        · obtain ⟨rfl, rfl⟩ := keysTK g2'
          exact ⟨[], k', b, .inr ⟨g1, rfl⟩, ey, eb, by rw [sizeLine_eq]; decide, fun nd => fin [] rfl g3 nd⟩
        · exact ⟨kvs, k', b, .inl g1, ey, eb, by rw [← List.length_map (·.1), ← keysT g2', List.length_map]; simpa [ofT] using hz, fun nd => fin kvs (keysT g2') g3 nd⟩
      · cases h1

/-! ### methods of a list of the body's own -/
def apO (j : Nat) (d : DV) (e : Ev) : Option Ev := (dataOf d).bind fun x => match slot e j with
  | some (.d (.list xs)) => if xs.length < big then some (e.set j (some (.d (.list (xs ++ [x]))))) else none
  | _ => none
theorem apO_some {j : Nat} {d : DV} {e e3 : Ev} (h : apO j d e = some e3) : ∃ x xs, d = .d x ∧ slot e j = some (.d (.list xs)) ∧ xs.length < big ∧ e3 = e.set j (some (.d (.list (xs ++ [x])))) := by
  obtain ⟨x, h0, h⟩ := Option.bind_eq_some_iff.mp h
  split at h
  · rename_i xs q
    split at h
    · rename_i hb
      cases h
      exact ⟨x, xs, dataOf_some h0, q, hb, rfl⟩
    · cases h
  · cases h
/-- the slot holds a list -/
def lstM (j : Nat) : M Unit := fun e => match slot e j with
  | some (.d (.list _)) => .ok () e
  | _ => .bad
theorem Wish.lstM {j : Nat} {e : Ev} {k : Unit → Ev → Prop} (h : Wish X.K Z W L (Lk.lstM j e) k) : ∃ xs, slot e j = some (.d (.list xs)) ∧ k () e := by
  unfold Lk.lstM at h
  split at h
  · exact ⟨_, ‹_›, h⟩
  · exact h.elim
def apM (j : Nat) (fa : M DV) : M DV := fun env => (lstM j env).bind fun _ env => (fa env).bind fun d e => .goE (.d .none) (apO j d e)
theorem few_ok {env : PySem.Env} {es : List Expr} (h : es.all noStar = true) (hl : es.length < 29) : ((backTo pos (starEach es env)).all (fun x => !x.1) && (backToKw pos (keywordEach [] env)).all (fun x => x.1.isSome)
      && decide (es.length + ([] : List Keyword).length + (if ([] : List Keyword).isEmpty then 0 else 1) < 30)) = true := by
  have key : ∀ {es : List Expr}, es.all noStar = true → (backTo pos (starEach es env)).all (fun x => !x.1) = true := by
    intro es
    induction es with
    | nil => intro _; rfl
    | cons e es ih =>
      intro h
      simp only [List.all_cons, Bool.and_eq_true] at h
      rw [star_eq h.1]
      show (!false && (backTo pos (starEach es env)).all (fun x => !x.1)) = true
      rw [ih h.2]; rfl
  rw [key h]
  have : (backToKw pos (keywordEach [] env)).all (fun x => x.1.isSome) = true := rfl
  rw [this]
  simp only [Bool.true_and, decide_eq_true_eq, List.length_nil, List.isEmpty_nil, if_true]
  omega
theorem je_append {j n m : Nat} {x : Str} {px ap : Pos} (hN : X.N[j]? = some x) (hv : Vis X.env.scope x) (hdb : (x == ("__debug__" : Str)) = false) (hcd : (x == ("__classdict__" : Str)) = false)
    (ha : JE X Z W φ a φ1 (.v k) fa) (hs : noStar a = true) (hn : φ1[j]? = some (n + 1)) (hm : m = min n k)
    (hbase : attributeBase (.Name x px) "append" X.env (eval (.Name x px) X.env) = eval (.Name x px) X.env) (hline : (ap.endLine == pos.line) = true) :
    JE X Z W φ (.Call (.Attribute (.Name x px) "append" ap) [a] [] pos) (φ1.set j (m + 1)) (.v 9) (apM j fa) := by
  refine pe_imp (pe_bm PySem.F.plainAttrs_list PySem.F.slot_list_append PySem.F.type_list_append mt_append (pe_var hN hv hdb hcd) (pa_cons ha pa_nil (star_eq hs)) hbase (few_ok (by simp [hs]) (by simp)) hline (star_eq hs)) fun σ H Q ⟨L, env, S, h⟩ => ?_
  obtain ⟨xs0, q0, h⟩ := Wish.lstM h.bind
  obtain ⟨_, w, _, g2, p2⟩ := S.al.get q0
  have ml : (⟨_, .d (.list xs0), w⟩ : Root) ∈ hrts [] ++ (roots φ env σ ++ L) := List.mem_append_left L (p2.mem_iff.mpr List.mem_cons_self)
  obtain ⟨l, vs0, rfl, hl, _⟩ := S.sim.seeL ml
  refine ⟨.ref l, g2, .inl ⟨rfl, vs0, .of hl⟩, ?_⟩
  refine rdE.go S (h.bind.mono fun d e1 h1 v H1 S1 => ?_)
  obtain ⟨e3, z, h2⟩ := h1.goE
  obtain ⟨x, xs, rfl, y1, hb, rfl⟩ := apO_some z
  obtain ⟨l', vs, b1, b2, b3, b4⟩ := S1.slotL y1 hn
  rw [g2] at b1; cases b1
  refine ⟨l, vs, v, rfl, rfl, b2, by rw [sizeLine_eq]; unfold big at hb; omega, h2 _ _ ?_⟩
  have c0 : SimT X.K Z H1 [l] (kids m (xs ++ [x]) (vs ++ [v]) ++ (hrts [] ++ (roots φ1 (e1.set j none) σ ++ L))) := by
    rw [kids_append b3, List.append_assoc]
    exact b4.less (Less.app (kids_less (by omega) xs vs) (.cons ⟨by show m ≤ k; omega, rfl, rfl⟩ (Less.refl _)))
  have S3 := Stt.slotPut (hs := []) S1.al (fun _ h => nomatch h) g2 b2 (by simp [b3]) c0
  exact ⟨S3.sim.scal (.d .non), S3.al, fun z hz => by rw [List.mem_singleton.mp hz]; trivial⟩
def popO (j : Nat) (e : Ev) : Option (DV × Ev) := match slot e j with
  | some (.d (.list xs)) => (xs[xs.length - 1]?).map fun x => (.d x, e.set j (some (.d (.list xs.dropLast))))
  | _ => none
def popM (j : Nat) : M DV := fun e => match popO j e with
  | some (d, e') => .ok d e'
  | none => .bad
theorem kids_last {m : Nat} {x : PyData} {v : V} {xs : List PyData} {vs : List V} (h : xs.length = vs.length) (h1 : xs[xs.length - 1]? = some x) (h2 : vs[vs.length - 1]? = some v) : kids m xs vs = kids m xs.dropLast vs.dropLast ++ [⟨m, .d x, v⟩] := by
  rw [← List.getLast?_eq_getElem?] at h1 h2
  obtain ⟨ys, rfl⟩ := List.getLast?_eq_some_iff.mp h1
  obtain ⟨ws, rfl⟩ := List.getLast?_eq_some_iff.mp h2
  rw [kids_append (by simpa using h)]
  simp [kids]
theorem je_pop {j n : Nat} {x : Str} {px ap : Pos} (hN : X.N[j]? = some x) (hv : Vis X.env.scope x) (hdb : (x == ("__debug__" : Str)) = false) (hcd : (x == ("__classdict__" : Str)) = false) (hn : φ[j]? = some (n + 1))
    (hbase : attributeBase (.Name x px) "pop" X.env (eval (.Name x px) X.env) = eval (.Name x px) X.env) (hline : (ap.endLine == pos.line) = true) :
    JE X Z W φ (.Call (.Attribute (.Name x px) "pop" ap) [] [] pos) (φ.set j (n + 1)) (.v n) (popM j) := by
  refine pe_imp (pe_bm0 PySem.F.plainAttrs_list PySem.F.slot_list_pop PySem.F.type_list_pop mt_pop (pe_var hN hv hdb hcd) hbase hline) fun σ H Q ⟨L, env, S, h⟩ => ?_
  unfold popM popO at h
  split at h
  · rename_i d e' q
    split at q
    · rename_i xs y1
      obtain ⟨x, hx, q⟩ := Option.map_eq_some_iff.mp q
      cases q
      obtain ⟨l, vs, b1, b2, b3, b4⟩ := S.slotL y1 hn
      have hlen : vs.length - 1 < vs.length := by
        have := (List.getElem?_eq_some_iff.mp hx).1
        omega
      have h2 : vs[vs.length - 1]? = some vs[vs.length - 1] := List.getElem?_eq_getElem hlen
      refine ⟨.ref l, b1, .inl ⟨rfl, vs, .of b2⟩, l, vs, vs[vs.length - 1], rfl, rfl, b2, h2, ?_⟩
      rw [kids_last b3 hx h2, List.append_assoc] at b4
      have c0 : SimT X.K Z H [l] (kids n xs.dropLast vs.dropLast ++ (hrts [⟨.v n, .d x, vs[vs.length - 1]⟩] ++ (roots φ (env.set j none) σ ++ L))) := b4
      exact (show ∀ v H', Stt X.K Z (φ.set j (n + 1)) (env.set j (some (.d (.list xs.dropLast)))) [⟨.v n, .d x, v⟩] σ H' L → Q v H' from h) _ _ (Stt.slotPut S.al (fun z hz => by rw [List.mem_singleton.mp hz]; trivial) b1 b2 (by simp [b3]) c0)
    · cases q
  · exact h.elim

/-! ### two, three names at once -/
theorem Stt.storeC {i : Nat} {d : DV} {v : V} {hs : List Held} (S : Stt X.K Z φ env (⟨.v k, d, v⟩ :: hs) σ H L) (hv : ∀ h ∈ hs, ∃ k, h.t = .v k) (hi : i < env.length) : Stt X.K Z (φ.set i k) (env.set i (some d)) hs (σ.set i (some v)) H L := by
  obtain ⟨a, p⟩ := S.al.set (m := k) (d := d) (v := v) hi
  refine ⟨?_, a, fun x hx => ?_⟩
  · have S1 : Sim X.K Z H (⟨k, d, v⟩ :: (hrts hs ++ (roots φ (env.set i none) σ ++ L))) := S.sim.sub (.cons_cons _ (List.Sublist.append_left (List.Sublist.append_right roots_clr L) _))
    refine S1.perm ?_
    refine List.perm_middle.symm.trans (List.Perm.append_left _ ?_)
    exact List.Perm.append_right L p.symm
  · obtain ⟨k', e⟩ := hv x hx
    obtain ⟨t, d', v'⟩ := x
    cases e
    trivial
def parM (i j : Nat) (f : M (List DV)) : M Fl := fun env => (f env).bind fun ds e => match ds with
  | [a, b] => if i < e.length ∧ j < e.length then .ok .nx ((e.set i (some a)).set j (some b)) else .bad
  | _ => .bad
def par3M (i j l : Nat) (f : M (List DV)) : M Fl := fun env => (f env).bind fun ds e => match ds with
  | [a, b, c] => if i < e.length ∧ j < e.length ∧ l < e.length then .ok .nx (((e.set i (some a)).set j (some b)).set l (some c)) else .bad
  | _ => .bad
theorem two_of {α : Type} {l : List α} (h : l.length = 2) : ∃ a b, l = [a, b] := by
  match l, h with
  | [a, b], _ => exact ⟨a, b, rfl⟩
theorem three_of {α : Type} {l : List α} (h : l.length = 3) : ∃ a b c, l = [a, b, c] := by
  match l, h with
  | [a, b, c], _ => exact ⟨a, b, c, rfl⟩
theorem js_par {i j k1 k2 : Nat} {x y : Str} {px py pt : Pos} {kt q2 pt2} (hc : X.calm = true) (hN : X.N.Nodup) (hi : X.N[i]? = some x) (hj : X.N[j]? = some y) (hij : i ≠ j)
    (hx : X.env.scope.names.lookup x = some .local) (hy : X.env.scope.names.lookup y = some .local) (ha : JA X Z W φ [a, b] φ1 [.v k1, .v k2] f)
    (hw : swappedStores [.Tuple [.Name x px, .Name y py] kt pt] (.Tuple [a, b] q2 pt2) X.env = pure (some [x, y]))
    (hs : swapsWithSole [.Tuple [.Name x px, .Name y py] kt pt] (.Tuple [a, b] q2 pt2) pos.line X.env = pure false)
    (hP : (P.all fun p => p.1 != i && p.1 != j) = true) (hψ : ψ.n = (φ1.set i k1).set j k2) :
    JS X Z W P kr φ (.Assign [.Tuple [.Name x px, .Name y py] kt pt] (.Tuple [a, b] q2 pt2) pos) ψ (parM i j f) := by
  refine ps_imp (ps_par hc hN hi hj hij hx hy ha hw hs) fun D σ H ⟨L, env, pv, S, hp, q⟩ => ?_
  refine ⟨L, env, S, q.bind.mono fun ds e q1 vs H1 hl hv S1 => ?_⟩
  obtain ⟨d1, d2, rfl⟩ := two_of (show ds.length = 2 from hl)
  obtain ⟨v1, v2, rfl⟩ := two_of (show vs.length = 2 from hv)
  · have q1 : Wish X.K Z W L (if i < e.length ∧ j < e.length then Out.ok Fl.nx ((e.set i (some d1)).set j (some d2)) else .bad) _ := q1
    split at q1
    · rename_i hb
      have S2 : Stt X.K Z φ1 e [⟨.v k1, d1, v1⟩, ⟨.v k2, d2, v2⟩] σ H1 L := S1
      have S3 := S2.storeC (i := i) (fun h hh => by rw [List.mem_singleton.mp hh]; exact ⟨_, rfl⟩) hb.1
      have S4 := S3.storeC (i := j) (fun h hh => nomatch hh) (by rw [List.length_set]; exact hb.2)
      rw [hψ] at q1
      have hP1 : (P.all fun p => p.1 != i) = true := by
        rw [List.all_eq_true] at hP ⊢
        intro p hp; have := hP p hp; simp only [Bool.and_eq_true] at this; exact this.1
      have hP2 : (P.all fun p => p.1 != j) = true := by
        rw [List.all_eq_true] at hP ⊢
        intro p hp; have := hP p hp; simp only [Bool.and_eq_true] at this; exact this.2
      exact ⟨v1, v2, rfl, (show ∀ σ' H', Stt X.K Z ((φ1.set i k1).set j k2) ((e.set i (some d1)).set j (some d2)) [] σ' H' L → Pok P pv σ' → D.nx σ' H' from q1) _ _ S4 ((hp.set hP1).set hP2)⟩
    · exact q1.elim
theorem js_par3 {i j l k1 k2 k3 : Nat} {x y z : Str} {px py pz pt : Pos} {kt q2 pt2} (hc : X.calm = true) (hN : X.N.Nodup) (hi : X.N[i]? = some x) (hj : X.N[j]? = some y) (hl : X.N[l]? = some z) (hij : i ≠ j) (hil : i ≠ l) (hjl : j ≠ l)
    (hx : X.env.scope.names.lookup x = some .local) (hy : X.env.scope.names.lookup y = some .local) (hz : X.env.scope.names.lookup z = some .local) (ha : JA X Z W φ [a, b, c] φ1 [.v k1, .v k2, .v k3] f)
    (hw : swappedStores [.Tuple [.Name x px, .Name y py, .Name z pz] kt pt] (.Tuple [a, b, c] q2 pt2) X.env = pure (some [x, y, z]))
    (hs : swapsWithSole [.Tuple [.Name x px, .Name y py, .Name z pz] kt pt] (.Tuple [a, b, c] q2 pt2) pos.line X.env = pure false)
    (hP1 : (P.all fun p => p.1 != i) = true) (hP2 : (P.all fun p => p.1 != j) = true) (hP3 : (P.all fun p => p.1 != l) = true) (hψ : ψ.n = ((φ1.set i k1).set j k2).set l k3) :
    JS X Z W P kr φ (.Assign [.Tuple [.Name x px, .Name y py, .Name z pz] kt pt] (.Tuple [a, b, c] q2 pt2) pos) ψ (par3M i j l f) := by
  refine ps_imp (ps_par3 hc hN hi hj hl hij hil hjl hx hy hz ha hw hs) fun D σ H ⟨L, env, pv, S, hp, q⟩ => ?_
  refine ⟨L, env, S, q.bind.mono fun ds e q1 vs H1 hl hv S1 => ?_⟩
  obtain ⟨d1, d2, d3, rfl⟩ := three_of (show ds.length = 3 from hl)
  obtain ⟨v1, v2, v3, rfl⟩ := three_of (show vs.length = 3 from hv)
  · have q1 : Wish X.K Z W L (if i < e.length ∧ j < e.length ∧ l < e.length then Out.ok Fl.nx (((e.set i (some d1)).set j (some d2)).set l (some d3)) else .bad) _ := q1
    split at q1
    · rename_i hb
      have S2 : Stt X.K Z φ1 e [⟨.v k1, d1, v1⟩, ⟨.v k2, d2, v2⟩, ⟨.v k3, d3, v3⟩] σ H1 L := S1
      have S3 := S2.storeC (i := i) (fun h hh => (List.mem_cons.mp hh).elim (fun e => ⟨k2, by rw [e]⟩) fun hh => ⟨k3, by rw [List.mem_singleton.mp hh]⟩) hb.1
      have S4 := S3.storeC (i := j) (fun h hh => by rw [List.mem_singleton.mp hh]; exact ⟨_, rfl⟩) (by rw [List.length_set]; exact hb.2.1)
      have S5 := S4.storeC (i := l) (fun h hh => nomatch hh) (by rw [List.length_set, List.length_set]; exact hb.2.2)
      rw [hψ] at q1
      exact ⟨v1, v2, v3, rfl, (show ∀ σ' H', Stt X.K Z (((φ1.set i k1).set j k2).set l k3) (((e.set i (some d1)).set j (some d2)).set l (some d3)) [] σ' H' L → Pok P pv σ' → D.nx σ' H' from q1) _ _ S5 (((hp.set hP1).set hP2).set hP3)⟩
    · exact q1.elim

/-! ### methods that change nothing -/
def tyD : DV → String
  | .s _ => "list"
  | .d (.str _) => "str"
  | .d (.int _) => "int"
  | .d (.list _) => "list"
  | .d (.dict _) => "dict"
  | _ => ""
theorem Sim.tyv {d : DV} {v : V} {T : String} (S : Sim X.K Z H R) (h : (⟨n, d, v⟩ : Root) ∈ R) (ht : tyD d = T) (hT : T ≠ "") : tyV X.K T v H := by
  obtain ⟨G, hd⟩ := S.den h
  cases hd with
  | d hd =>
    cases hd with
    | non => exact absurd ht.symm hT
    | bl b => exact absurd ht.symm hT
    | int i => exact ht.symm
    | str x => exact ht.symm
    | lst h1 h2 => exact .inl ⟨ht.symm, _, .of h1⟩
    | tup h1 h2 => exact absurd ht.symm hT
    | dic h1 h2 h3 =>
      refine .inr (.inr (.inl ⟨ht.symm, ?_⟩))
      rcases h1 with ⟨kvs, h1, _⟩ | ⟨kvs, h1, _⟩
      · exact .inl ⟨_, h1⟩
      · exact .inr ⟨_, h1⟩
  | s _ =>
    refine .inl ⟨ht.symm, ?_⟩
    obtain ⟨a, e, hl⟩ := S.script h
    cases e
    exact ⟨_, hl⟩
  | o _ _ _ _ => exact absurd ht.symm hT
  | x _ _ _ _ _ => exact absurd ht.symm hT
  | f _ _ _ _ _ => exact absurd ht.symm hT
  | z _ _ _ => exact absurd ht.symm hT
  | g _ => exact absurd ht.symm hT
  | k _ => exact absurd ht.symm hT
  | e _ _ _ _ => exact absurd ht.symm hT
  | e0 _ _ => exact absurd ht.symm hT
/-- a method by values: the receiver, the operands -/
def MethD (X : Cx) (Z : ClT) (id : String) (g : DV → List DV → Option DV) (cap k : Nat) : Prop :=
  MtR X id fun x xs H Q => ∃ R n d ds r, Sim X.K Z H R ∧ (⟨n, d, x⟩ : Root) ∈ R ∧ n ≤ cap ∧ LArgs R cap ds xs ∧ g d ds = some r ∧ ∀ v H', Sim X.K Z H' (⟨k, r, v⟩ :: R) → Q v H'
def tyChk (T : String) (t : Tm) (d : DV) : M Unit := fun e => match t.now d e with
  | some x => if tyD x = T then .ok () e else .bad
  | none => .bad
def mthM (T : String) (g : DV → List DV → Option DV) (to : Tm) (fo : M DV) (ts : List Tm) (f : M (List DV)) : M DV := fun env => (fo env).bind fun d e1 => (tyChk T to d e1).bind fun _ e1 => (f e1).bind fun ds e2 =>
  .ofO ((to.now d e2).bind fun x => (nowsD ts ds e2).bind fun xs => g x xs) e2
theorem Wish.tyChk {T : String} {d : DV} {e : Ev} {k : Unit → Ev → Prop} (h : Wish X.K Z W L (Lk.tyChk T t d e) k) : ∃ x, t.now d e = some x ∧ tyD x = T ∧ k () e := by
  unfold Lk.tyChk at h
  cases q : t.now d e with
  | none => rw [q] at h; exact h.elim
  | some x =>
    rw [q] at h
    simp only at h
    split at h
    · exact ⟨x, rfl, ‹_›, h⟩
    · exact h.elim
theorem je_meth {T id : String} {name : Str} {g : DV → List DV → Option DV} {cap : Nat} {o : Expr} {to : Tm} {fo : M DV} {ap : Pos} (hT : T ≠ "") (pa : PlainAttrs T) (slot : Slot T name id) (hty : typeOf (.builtin id) = pure (.type "method_descriptor")) (hm : MethD X Z id g cap k)
    (ho : JE X Z W φ o φ1 to fo) (ha : JA X Z W φ1 (a :: es) φ2 ts f) (hs : noStar a = true) (hpl : es.all noStar = true) (hlen : es.length < 28)
    (hbase : attributeBase o name X.env (eval o X.env) = eval o X.env) (hline : (ap.endLine == pos.line) = true) :
    JE X Z W φ (.Call (.Attribute o name ap) (a :: es) [] pos) (capS cap (slotsOf ts ++ [to.slot?]) φ2) (.v k) (mthM T g to fo ts f) := by
  refine pe_imp (pe_bm pa slot hty hm ho ha hbase (few_ok (by simp only [List.all_cons, Bool.and_eq_true]; exact ⟨hs, hpl⟩) (by simp; omega)) hline (star_eq hs) (star_any hpl)) fun σ H Q ⟨L, env, S, h⟩ => ?_
  refine rdE.go S (h.bind.mono fun d e1 h1 v H1 S1 => ?_)
  obtain ⟨x, q1, ht, h1⟩ := h1.bind.tyChk
  obtain ⟨n, m, _⟩ := S1.mem (h := ⟨to, d, v⟩) List.mem_cons_self q1
  refine ⟨S1.sim.tyv m ht hT, ?_⟩
  refine rdA.go S1 (h1.bind.mono fun ds e2 h2 vs H2 hl hv S2 => ?_)
  obtain ⟨r, q, h3⟩ := h2.ofO
  obtain ⟨x2, q2, q⟩ := Option.bind_eq_some_iff.mp q
  obtain ⟨xs, q3, q4⟩ := Option.bind_eq_some_iff.mp q
  have S3 := S2.cap cap
  obtain ⟨n2, hn2, m2⟩ := S2.memC (c := cap) (h := ⟨to, d, v⟩) (List.mem_append_right _ List.mem_cons_self) q2
  have a2 := zipH_args (cap := cap) S2 hl hv (fun h hh => List.mem_append_left _ hh) q3
  refine ⟨_, n2, x2, xs, r, S3.sim, m2, hn2, a2, q4, fun w H' s => ?_⟩
  have es : (zipH ts ds vs ++ [(⟨to, d, v⟩ : Held)]).map (fun h => h.t.slot?) = slotsOf ts ++ [to.slot?] := by
    rw [List.map_append, zipH_slots hl hv]; rfl
  rw [es] at s S3
  refine h3 w H' ?_
  have S4 : Stt X.K Z (capS cap (slotsOf ts ++ [to.slot?]) φ2) e2 ((zipH ts ds vs ++ [(⟨to, d, v⟩ : Held)]).map (Held.cap cap) ++ []) σ H2 L := by rw [List.append_nil]; exact S3
  exact S4.done (hs := []) (by rw [List.append_nil]; exact s)
theorem je_meth0 {T id : String} {name : Str} {g : DV → List DV → Option DV} {cap : Nat} {o : Expr} {to : Tm} {fo : M DV} {ap : Pos} (hT : T ≠ "") (pa : PlainAttrs T) (slot : Slot T name id) (hty : typeOf (.builtin id) = pure (.type "method_descriptor")) (hm : MethD X Z id g cap k)
    (ho : JE X Z W φ o φ1 to fo) (hbase : attributeBase o name X.env (eval o X.env) = eval o X.env) (hline : (ap.endLine == pos.line) = true) :
    JE X Z W φ (.Call (.Attribute o name ap) [] [] pos) (capS cap [to.slot?] φ1) (.v k) (mthM T g to fo [] (M.pure [])) := by
  refine pe_imp (pe_bm0 pa slot hty hm ho hbase hline) fun σ H Q ⟨L, env, S, h⟩ => ?_
  refine rdE.go S (h.bind.mono fun d e1 h1 v H1 S1 => ?_)
  obtain ⟨x, q1, ht, h1⟩ := h1.bind.tyChk
  obtain ⟨n, m, _⟩ := S1.mem (h := ⟨to, d, v⟩) List.mem_cons_self q1
  refine ⟨S1.sim.tyv m ht hT, ?_⟩
  obtain ⟨r, q, h3⟩ := Wish.ofO (show Wish X.K Z W L (Out.ofO ((to.now d e1).bind fun x => (nowsD [] [] e1).bind fun xs => g x xs) e1) _ from h1)
  obtain ⟨x2, q2, q⟩ := Option.bind_eq_some_iff.mp q
  obtain ⟨xs, q3, q4⟩ := Option.bind_eq_some_iff.mp q
  cases q3
  obtain ⟨n2, hn2, m2⟩ := S1.memC (c := cap) (h := ⟨to, d, v⟩) List.mem_cons_self q2
  have S3 := S1.cap cap
  refine ⟨_, n2, x2, [], r, S3.sim, m2, hn2, .nil, q4, fun w H' s => h3 w H' ?_⟩
  exact Stt.done (as := [Held.cap cap ⟨to, d, v⟩]) (hs := []) S3 s
/-! split, join -/
def splitD : DV → List DV → Option DV
  | .d (.str a), [.d (.str b)] => if (b.length == 0) = false ∧ a.length ≤ big then some (.d (.list ((Txt.split a b).map .str))) else none
  | _, _ => none
theorem mth_split : MethD X Z "str.split" splitD 9 9 := by
  intro pins s σ H x xs v us Q I rx rs ⟨R, n, d, ds, r, S, m, hn, a, hg, hq⟩
  unfold splitD at hg
  split at hg
  · split at hg
    · rename_i ad bd hc
      cases hg
      obtain ⟨w, n2, rfl, _, m2⟩ := args1 a
      rw [S.str m] at rx
      rw [S.str m2] at rs
      have hz := hc.2
      exact mt_split pins s σ H _ _ v us Q I rx rs ⟨ad, bd, rfl, rfl, hc.1, by rw [sizeLine_eq]; unfold big at hz; omega, fun p hp => hq _ _ (Sim.mkL (n := 8) (kids_scalS 8 S) (by simp) hp)⟩
    · cases hg
  · cases hg
def joinP : PyData → Option (List Str)
  | .list xs => getSs xs
  | .tuple xs => getSs xs
  | _ => none
def joinD : DV → List DV → Option DV
  | .d (.str a), [.d y] => (joinP y).bind fun ys => if (ys.map (·.length)).sum + ys.length * a.length ≤ 16777216 then some (.d (.str (Txt.join a ys))) else none
  | _, _ => none
theorem mth_join : MethD X Z "str.join" joinD 9 9 := by
  intro pins s σ H x xs v us Q I rx rs ⟨R, n, d, ds, r, S, m, hn, a, hg, hq⟩
  unfold joinD at hg
  split at hg
  · rename_i ad y
    obtain ⟨ys, q, hg⟩ := Option.bind_eq_some_iff.mp hg
    split at hg
    · rename_i hc
      cases hg
      obtain ⟨w, n2, rfl, _, m2⟩ := args1 a
      rw [S.str m] at rx
      unfold joinP at q
      split at q
      · obtain ⟨p, vs, G, rfl, h1, h2⟩ := S.listOf m2
        rw [getSs_eq q] at h2
        exact mt_join pins s σ H _ _ v us Q I rx rs ⟨ad, p, ys, rfl, rfl, .inl (.of (by rw [h1, h2.strs])), hc, hq _ _ S.cstr⟩
      · obtain ⟨p, vs, G, rfl, h1, h2⟩ := S.tupleOf m2
        rw [getSs_eq q] at h2
        rw [h2.strs] at h1
        exact mt_join pins s σ H _ _ v us Q I rx rs ⟨ad, p, ys, rfl, rfl, .inr h1, hc, hq _ _ S.cstr⟩
      · cases q
    · cases hg
  · cases hg
end
end Lk
namespace Lk
open PySem PySem.Spec L2
open PyProof.Rows (envOfC)

/-- the flags, the parameters that go back -/
def inF : List Md → List Nat
  | [] => []
  | .fz :: ms => 0 :: inF ms
  | .io m _ :: ms => m :: inF ms
def ioP : Nat → List Md → List (Nat × Nat)
  | _, [] => []
  | i, .fz :: ms => ioP (i + 1) ms
  | i, .io _ m' :: ms => (i, m') :: ioP (i + 1) ms
def ioV : List Md → List V → List V
  | .fz :: ms, _ :: vs => ioV ms vs
  | .io _ _ :: ms, v :: vs => v :: ioV ms vs
  | _, _ => []
def env0 (n : Nat) (ds : List DV) : Ev := ds.map some ++ List.replicate (n - ds.length) none
/-- what a body answers -/
def endR (P : List (Nat × Nat)) : Out Fl → Res
  | .ok .nx e => (match outsAt P e with
    | some outs => .ok (.d .none) outs
    | none => .bad)
  | .ok (.rt d) e => (match outsAt P e with
    | some outs => .ok d outs
    | none => .bad)
  | .ex c g _ => .ex c g
  | _ => .bad
def runF (n : Nat) (P : List (Nat × Nat)) (g : M Fl) (ds : List DV) : Res := endR P (g (env0 n ds))
section
variable {K : PySem.W.Frag} {Z : ClT} {H : Hp} {L : List Root}
theorem roots_nones : ∀ {φ : List Nat} {n m : Nat} {σ : St}, roots φ (List.replicate n none) σ = []
  | [], _, _, _ => by cases ‹Nat› <;> rfl
  | _ :: _, 0, _, _ => rfl
  | _ :: _, _ + 1, _, [] => rfl
  | _ :: φ, n + 1, m, _ :: σ => by
    show roots φ (List.replicate n none) σ = []
    exact roots_nones (m := m)
theorem roots_arg : ∀ {ms : List Md} {ds : List DV} {vs : List V} {φ : List Nat} {e : Ev} {σ : St}, ds.length = ms.length → vs.length = ms.length → roots (inF ms ++ φ) (ds.map some ++ e) (vs.map some ++ σ) = argR ms ds vs ++ roots φ e σ
  | [], [], [], _, _, _, _, _ => rfl
  | .fz :: ms, d :: ds, v :: vs, φ, e, σ, h1, h2 => by
    show ⟨0, d, v⟩ :: roots (inF ms ++ φ) (ds.map some ++ e) (vs.map some ++ σ) = ⟨0, d, v⟩ :: (argR ms ds vs ++ roots φ e σ)
    rw [roots_arg (by simpa using h1) (by simpa using h2)]
  | .io m m' :: ms, d :: ds, v :: vs, φ, e, σ, h1, h2 => by
    show ⟨m, d, v⟩ :: roots (inF ms ++ φ) (ds.map some ++ e) (vs.map some ++ σ) = ⟨m, d, v⟩ :: (argR ms ds vs ++ roots φ e σ)
    rw [roots_arg (by simpa using h1) (by simpa using h2)]
  | [], _ :: _, _, _, _, _, h, _ => by simp at h
  | [], [], _ :: _, _, _, _, _, h => by simp at h
  | _ :: _, [], _, _, _, _, h, _ => by simp at h
  | _ :: _, _ :: _, [], _, _, _, _, h => by simp at h
theorem al_arg : ∀ {φ : List Nat} {ds : List DV} {vs : List V} {n : Nat}, φ.length = ds.length → vs.length = ds.length → Al (φ ++ List.replicate n 0) (ds.map some ++ List.replicate n none) (vs.map some ++ List.replicate n none)
  | [], [], [], 0, _, _ => trivial
  | [], [], [], n + 1, _, _ => ⟨fun h => by simp at h, al_arg (φ := []) (ds := []) (vs := []) (n := n) rfl rfl⟩
  | a :: φ, d :: ds, v :: vs, n, h1, h2 => ⟨fun _ => rfl, al_arg (by simpa using h1) (by simpa using h2)⟩
  | _ :: _, [], _, _, h, _ => by simp at h
  | [], _ :: _, _, _, h, _ => by simp at h
  | [], [], _ :: _, _, _, h => by simp at h
  | _ :: _, _ :: _, [], _, _, h => by simp at h
theorem inF_len : ∀ ms : List Md, (inF ms).length = ms.length
  | [] => rfl
  | .fz :: ms => by simp [inF, inF_len ms]
  | .io _ _ :: ms => by simp [inF, inF_len ms]
theorem pok_arg {σ : St} : ∀ {ms : List Md} {vs : List V} {i : Nat}, vs.length = ms.length → (∀ j v, vs[j]? = some v → σ[i + j]? = some (some v)) → Pok (ioP i ms) (ioV ms vs) σ
  | [], [], _, _, _ => .nil
  | .fz :: ms, v :: vs, i, h, q => pok_arg (ms := ms) (by simpa using h) fun j w e => by
    have := q (j + 1) w (by simpa using e)
    rwa [show i + (j + 1) = i + 1 + j by omega] at this
  | .io m m' :: ms, v :: vs, i, h, q => .cons (q 0 v rfl) (pok_arg (ms := ms) (by simpa using h) fun j w e => by
    have := q (j + 1) w (by simpa using e)
    rwa [show i + (j + 1) = i + 1 + j by omega] at this)
  | [], _ :: _, _, h, _ => by simp at h
  | _ :: _, [], _, h, _ => by simp at h
theorem ret_out : ∀ {ms : List Md} {vs : List V} {outs : List DV} {i : Nat}, vs.length = ms.length → retR (ioP i ms) outs (ioV ms vs) = outR ms outs vs
  | [], [], outs, _, _ => by cases outs <;> rfl
  | .fz :: ms, v :: vs, outs, i, h => ret_out (ms := ms) (by simpa using h)
  | .io m m' :: ms, v :: vs, [], i, h => rfl
  | .io m m' :: ms, v :: vs, o :: outs, i, h => by
    show ⟨m', o, v⟩ :: retR (ioP (i + 1) ms) outs (ioV ms vs) = ⟨m', o, v⟩ :: outR ms outs vs
    rw [ret_out (by simpa using h)]
  | [], _ :: _, _, _, h => by simp at h
  | _ :: _, [], _, _, h => by simp at h
end
/-- the context of a body -/
abbrev bodyX (P : Program) (w : World) (K : PySem.W.Frag) (mg : Str → Option Value) (base : Heap) (N : List Str) (qual : Str) (scope : Scope) (f : Addr) (cdv : Value) (A : Around) (outer : List PySem.Env) (s : Shared) (H : Hp) (E : XK) : Cx := cxOf (L2.CX P w) P w K mg base N qual scope f cdv A outer s H E
abbrev WE (E : XK) : WX := fun cls d _ H => E cls d H
section
variable {P : Program} {w : World} {K : PySem.W.Frag} {mg : Str → Option Value} {base : Heap} {k : Nat} {f : Addr} {fd : FuncData} {N ps : List Str} {Z : ClT} {ms : List Md} {kr : Nat} {qual nm : Str} {scope : Scope} {cdv : Value}
/-- what is asked of a def's body: for each way of being entered -/
def BodyD (P : Program) (w : World) (K : PySem.W.Frag) (mg : Str → Option Value) (base : Heap) (k : Nat) (N : List Str) (qual : Str) (st : Stmt) (f : Addr) (Z : ClT) (ms : List Md) (kr : Nat) (g : M Fl) : Prop :=
  ∀ (cdv : Value) (A : Around) (outer : List PySem.Env) (s : Shared) (H : Hp) (E : XK), (∀ oc od fd osl, K.lookup f = some ⟨oc, od, .func fd, osl⟩ → fd.code = cdv) → Room k (A.deeper (envOfC qual (defScope st) s.heap.objs.size f cdv)) → (A.deeper (envOfC qual (defScope st) s.heap.objs.size f cdv)).guards = some [] →
    Takes (bodyX P w K mg base N qual (defScope st) f cdv A outer s H E) (WE E) →
    PassesOwn (model P w) (A.deeper (envOfC qual (defScope st) s.heap.objs.size f cdv)) (envOfC qual (defScope st) s.heap.objs.size f cdv) (bodyX P w K mg base N qual (defScope st) f cdv A outer s H E).xe →
    ∃ ψ, retOk (ioP 0 ms) ψ.n = true ∧ JSs (bodyX P w K mg base N qual (defScope st) f cdv A outer s H E) Z (WE E) (ioP 0 ms) kr (inF ms ++ List.replicate (N.length - ms.length) 0) (defBody st) ψ g
theorem ioP_ge : ∀ {ms : List Md} {i : Nat} {p : Nat × Nat}, p ∈ ioP i ms → i ≤ p.1
  | [], _, _, h => nomatch h
  | .fz :: ms, i, p, h => by have := ioP_ge (ms := ms) (i := i + 1) h; omega
  | .io m m' :: ms, i, p, h => by
    rcases List.mem_cons.mp h with e | h
    · rw [e]; exact Nat.le_refl _
    · have := ioP_ge (ms := ms) (i := i + 1) h; omega
theorem ioP_nodup : ∀ {ms : List Md} {i : Nat}, ((ioP i ms).map (·.1)).Nodup
  | [], _ => List.Pairwise.nil
  | .fz :: ms, i => ioP_nodup (ms := ms)
  | .io m m' :: ms, i => List.nodup_cons.mpr ⟨fun h => by
    obtain ⟨p, hp, e⟩ := List.mem_map.mp h
    have h3 := ioP_ge hp
    have e : p.1 = i := e
    omega, ioP_nodup (ms := ms)⟩
theorem body_reads {X : Cx} {E : XK} {sts : List Stmt} {ψ : SF} {g : M Fl} {vs : List V} {H : Hp} {Q : VK} (hr : retOk (ioP 0 ms) ψ.n = true) (b : JSs X Z (WE E) (ioP 0 ms) kr (inF ms ++ List.replicate (X.N.length - ms.length) 0) sts ψ g)
    (h : spD X.K Z ms kr (runF X.N.length (ioP 0 ms) g) vs H Q E) : rdS X Z (WE E) (ioP 0 ms) kr (inF ms ++ List.replicate (X.N.length - ms.length) 0) ψ g { nx := fun _ H' => Q .non H', rt := Q } (L2.start X.N vs) H := by
  obtain ⟨L, ds, h1, h2, S, h⟩ := h
  have est : L2.start X.N vs = vs.map some ++ List.replicate (X.N.length - ms.length) none := by unfold L2.start; rw [h1]
  have een : env0 X.N.length ds = ds.map some ++ List.replicate (X.N.length - ms.length) none := by unfold env0; rw [h2]
  refine ⟨L, env0 X.N.length ds, ioV ms vs, ⟨?_, ?_, fun _ z => nomatch z⟩, ?_, ?_⟩
  · rw [een, est]
    show Sim X.K Z H (roots _ _ _ ++ L)
    rw [roots_arg h2 h1, roots_nones (m := 0), List.append_nil]
    exact S
  · rw [een, est]
    exact al_arg (by rw [inF_len, h2]) (by rw [h1, h2])
  · refine pok_arg h1 fun j v e => ?_
    rw [est, Nat.zero_add]
    have hj := (List.getElem?_eq_some_iff.mp e).1
    rw [List.getElem?_append_left (by simpa using hj), List.getElem?_map, e]
    rfl
  · unfold runF at h
    cases q : g (env0 X.N.length ds) with
    | bad => rw [q] at h; exact h.elim
    | ex c x e =>
      rw [q] at h
      have h : XC X.K Z E L c x := h
      intro C a v σ' H' z1 z2 z3 _
      exact h C a v H' z1 z2 (z3.sub (.cons_cons _ (List.sublist_append_right _ _)))
    | ok fl e =>
      rw [q] at h
      cases fl with
      | br => exact h.elim
      | ct => exact h.elim
      | nx =>
        unfold endR at h
        simp only at h
        cases q2 : outsAt (ioP 0 ms) e with
        | none => rw [q2] at h; exact h.elim
        | some outs =>
          rw [q2] at h
          have h : ∀ v H', Sim X.K Z H' (⟨kr, .d .none, v⟩ :: (outR ms outs vs ++ L)) → Q v H' := h
          show ∀ σ' H', Stt X.K Z ψ.n e [] σ' H' L → Pok (ioP 0 ms) (ioV ms vs) σ' → Q .non H'
          intro σ' H' s hp
          have s2 := ret_core hr ioP_nodup q2 hp s.al s.sim
          rw [ret_out h1] at s2
          exact h .non H' (s2.scal (.d .non))
      | rt d =>
        unfold endR at h
        simp only at h
        cases q2 : outsAt (ioP 0 ms) e with
        | none => rw [q2] at h; exact h.elim
        | some outs =>
          rw [q2] at h
          refine ⟨outs, q2, fun v H' s => ?_⟩
          have h : ∀ v H', Sim X.K Z H' (⟨kr, d, v⟩ :: (outR ms outs vs ++ L)) → Q v H' := h
          rw [ret_out h1] at s
          exact h v H' s
/-- a def's contract, of its body; F is any function that answers as the body does where it answers at all -/
theorem fn_D {st : Stmt} {g : M Fl} {F : List DV → Res} (fn : Fun K nm qual st f fd) (S : FnScope N ps (defScope st)) (hl : ms.length = ps.length)
    (hF : ∀ ds, ds.length = ms.length → F ds = .bad ∨ runF N.length (ioP 0 ms) g ds = F ds) (b : BodyD P w K mg base k N qual st f Z ms kr g) : FnOkG P w K mg base (k + 1) f fd ps (spD K Z ms kr F) := by
  obtain ⟨oc, od, kV, doc, pm, an, cdv, ct, osl, rfl, lk, hcd⟩ := fn.ex
  refine ⟨fun vs H Q E h => ?_, fun A outer s H args us vs Q E room gd e0 hb r hsp => ?_⟩
  · obtain ⟨L, ds, h1, _⟩ := h
    rw [h1, hl]
  have hvl : vs.length = ps.length := by
    obtain ⟨L, ds, h1, _⟩ := hsp
    rw [h1, hl]
  have hsp2 : spD K Z ms kr (runF N.length (ioP 0 ms) g) vs H Q E := by
    obtain ⟨L, ds, h1, h2, h3, h4⟩ := hsp
    refine ⟨L, ds, h1, h2, h3, ?_⟩
    rcases hF ds h2 with z | z
    · rw [z] at h4; exact h4.elim
    · rw [z]; exact h4
  have inK : K.In s.heap := e0.mod.kin.keeps fun b o q => (e0.bs b o q).1
  have kinds : ∀ y ∈ ps.zip us, (defScope st).names.lookup y.1 = some .local ∨ ((defScope st).names.lookup y.1 = some .cell ∧ ((cellsFrom (s.heap.objs.size + 1) (defScope st).names []).lookup y.1).isSome = true) := by
    rintro ⟨n, v⟩ hy
    cases S.par n (List.of_mem_zip hy).1 with
    | inl q => exact .inl q
    | inr q => exact .inr ⟨q, PySem.W.cellsFrom_some _ _ _ (.inl q)⟩
  refine codeAny_call_function room.depth (inK _ _ lk) rfl S.co S.gen rfl (PySem.W.codeRec_of inK hcd) (hb _ _ _ _ ?_)
  refine wpAny_newFunctionEnv_cells S.kind kinds fun env he s1 x => ?_
  subst he
  refine ⟨(e0.mod.nolimit.keeps fun b o q => (e0.bs b o q).1).keeps x.toInCall.keep, codeAny_func ?_⟩
  obtain ⟨ψ, hψ, body⟩ := b cdv A outer s H E (fun oc' od' fd' osl' e => by rw [lk] at e; cases e; rfl) (room.deeper _) gd (takes_of rfl rfl rfl rfl) (passes_of rfl)
  have I := inv_start (CX := L2.CX P w) (f := f) (cd := cdv) (qual := qual) (E := E) S room.hd e0 hvl r x
  have t := body_reads (X := bodyX P w K mg base N qual (defScope st) f cdv A outer s H E) hψ body hsp2
  refine wpAny_mono (body.run [] s1 _ H _ I t) (fun fl s' back => ?_) fun _ _ q => q
  cases fl with
  | brk => exact let ⟨_, _, _, z⟩ := back; z.elim
  | cont => exact let ⟨_, _, _, z⟩ := back; z.elim
  | next => exact let ⟨_, H', J, z⟩ := back; ⟨.non, H', J.os, J.bare, J.base, J.hok, rfl, z⟩
  | ret u => exact let ⟨v, _, H', J, rv, z⟩ := back; ⟨v, H', J.os, J.bare, J.base, J.hok, rv, z⟩
end

end Lk
namespace SrtO
open PySem PySem.Spec PyProof.Rows Srt L2
section
variable {prog : Program} {w : World} {A : Around} {E : Value → Shared → Prop} {s : Shared}
theorem sorted_dictO {d : Addr} {o : Obj} {es : Array DictEntry} {ep : Nat} {vs : List Value} {ltv : Value → Value → Bool} {Q : Value → Shared → Prop} (O : Swo ltv) (lo : (d == sysModules) = false) (hx : o.ExactDict) (hd : o.data = .dict es ep) (ho : s.heap.get? d = some o)
    (hh : A.in1.handled = none) (hz : es.size ≤ sizeLine) (hv : vs = es.toList.map (·.key))
    (hS : 2 ≤ vs.length → ∀ (h₁ : Heap) (tk : Nat) (a : Addr), h₁.get? a = some (seqObj "list" vs.toArray 0) → (∀ b o, s.heap.get? b = some o → b ≠ a ∧ h₁.get? b = some o) → SortableO prog w A.in1.in1 { s with heap := h₁, toks := tk } a vs ltv)
    (h : ∀ (h0 h' : Heap) (tk : Nat) (d' : Addr) (out : List Value), Srtd ltv out → Stb ltv out vs → (∀ b o, s.heap.get? b = some o → h0.get? b = some o) → (∀ b o, h0.get? b = some o → h'.get? b = some o) → h0.objs.size ≤ d' → (∃ n, h'.get? d' = some (seqObj "list" out.toArray n)) → Q (.ref d') { s with heap := h', toks := tk }) :
    wpAny (model prog w) A (call (.builtin "sorted") [.ref d]) Q E s := by
  refine Calls.call_function_entry kind_sorted plain_sorted entry_sorted (args_sorted1 _) ?_
  unfold Builtin.«sorted»
  refine wpAny_bind (m := checkCount "sorted" 1 1 _) (wpAny_pure ?_)
  refine wpAny_bind (PySem.W.kdu_collect (A := A.in1) (kdl_raw lo hx hd) hh ho hz fun h' tk acc hk hacc => ?_)
  have hal : acc.toList = vs := by
    rw [hv]
    have hl : acc.toList.length = es.size := by rw [Array.length_toList, hacc.1]
    apply List.ext_getElem?
    intro j
    rw [List.getElem?_map]
    cases hj : acc.toList[j]? with
    | none =>
      have h1 := List.getElem?_eq_none_iff.mp hj
      rw [List.getElem?_eq_none (by rw [Array.length_toList]; omega)]
      rfl
    | some v =>
      obtain ⟨en, hen, hv⟩ := hacc.2 j v (by rw [← Array.getElem?_toList]; exact hj)
      rw [Array.getElem?_toList, hen, hv]; rfl
  rw [hal]
  have hvl : vs.length ≤ sizeLine := by rw [hv, List.length_map, Array.length_toList]; exact hz
  refine wpAny_bind (wpAny_newList ?_ hvl)
  have hoL : (h'.push (seqObj "list" vs.toArray 0)).get? h'.objs.size = some (seqObj "list" vs.toArray 0) := Heap.get?_push_size _ rfl
  have keep : ∀ b o, s.heap.get? b = some o → b ≠ h'.objs.size ∧ (h'.push (seqObj "list" vs.toArray 0)).get? b = some o := fun b o q => by
    have q' := hk b o q
    exact ⟨Nat.ne_of_lt (Heap.lt_size q'), Heap.get?_push_of_some _ q'⟩
  show wpAny _ _ _ _ _ { s with heap := h'.push (seqObj "list" vs.toArray 0), toks := tk }
  refine wpAny_bind (wpAny_holding (wpAny_call_entry slot_list_sort ⟨_, hoL, rfl⟩ entry_list_sort (list_sort_ord (s := { s with heap := h'.push (seqObj "list" vs.toArray 0), toks := tk }) O hoL hvl (fun h2 => hS h2 _ tk _ hoL keep) fun out hs hb => ⟨_, rfl, ?_⟩) (args_list_sort _)))
  refine wpAny_pure ⟨_, rfl, h h' _ tk _ out hs hb hk (fun b o e => ?_) (Nat.le_refl _) (sortedHeap_at hoL)⟩
  have hlt := Heap.lt_size e
  rw [sortedHeap_old (Nat.ne_of_lt hlt) (by rw [size_push']; exact Nat.lt_succ_of_lt hlt)]
  exact Heap.get?_push_of_some _ e
end
end SrtO
namespace Lk
open PySem PySem.Spec L2

/-- a def of the module, by its name: how its arguments bind, its contract -/
def permsN : Nat → List (List Nat)
  | 0 => [[]]
  | 1 => [[0]]
  | 2 => [[0, 1], [1, 0]]
  | 3 => [[0, 1, 2], [0, 2, 1], [1, 0, 2], [1, 2, 0], [2, 0, 1], [2, 1, 0]]
  | n => [List.range n]
/-- how many operands stand by position, in which order the rest is named -/
def kwTab (n : Nat) : List (Nat × List Nat) := (List.range (n + 1)).flatMap fun i => (permsN (n - i)).map fun π => (i, π)
/-- names and values in the order π -/
def kwOf (ps : List Str) (i : Nat) (π : List Nat) (ws : List Value) : List (Str × Value) := π.map fun j => (ps.getD (i + j) "", ws.getD j .none)
structure Has (P : Program) (w : World) (K : PySem.W.Frag) (mg : Str → Option Value) (base : Heap) (k : Nat) (x : Str) (ps : List Str) (Z : ClT) (ms : List Md) (kr : Nat) (F : List DV → Res) : Prop where
  ex : ∃ (f : Addr) (fd : FuncData), mg x = some (.ref f) ∧ PySem.W.keepIn K (.ref f) = true ∧
    (∀ (s : Shared) (us ws : List Value) (π : List Nat), us.length + ws.length = ps.length → (us.length, π) ∈ kwTab ps.length → BindsTo s fd ⟨us, kwOf ps us.length π ws⟩ (ps.zip (us ++ ws))) ∧ FnOkG P w K mg base k f fd ps (spD K Z ms kr F)
section
variable {X : Cx} {Z : ClT} {W : WX} {φ φ1 φ2 φ3 φ' : List Nat} {t ta : Tm} {ts ts2 : List Tm} {fa : M DV} {f f2 : M (List DV)} {σ : St} {H : Hp} {L : List Root} {env : Ev} {hs : List Held} {a : Expr} {es : List Expr} {pos p : Pos} {j k kr : Nat} {x : Str} {ms : List Md} {F : List DV → Res} {ps : List Str} {kws : List Keyword}
theorem Has.mono (h : Has X.prog X.w X.K X.mg X.base j x ps Z ms kr F) (hk : j ≤ k) : Has X.prog X.w X.K X.mg X.base k x ps Z ms kr F := by
  obtain ⟨f, fd, h1, h2, h3, h4⟩ := h.ex
  exact ⟨f, fd, h1, h2, h3, h4.mono hk⟩
/-- the values of keywords -/
def JK (X : Cx) (Z : ClT) (W : WX) (φ : List Nat) (kws : List Keyword) (φ' : List Nat) (ts : List Tm) (f : M (List DV)) : Prop := PK X kws (rdA X Z W φ φ' ts f)
theorem pk_imp {t t' : TA} (h : PK X kws t) (i : ∀ σ H Q, t' σ H Q → t σ H Q) : PK X kws t' := ⟨fun pos pins s σ H Q I q => h.run pos pins s σ H Q I (i _ _ _ q)⟩
theorem jk_nil : JK X Z W φ [] φ [] (M.pure []) := pk_imp pk_nil fun σ H Q ⟨L, env, S, h⟩ => by
  exact (show ∀ vs H', ([] : List DV).length = ([] : List Tm).length → vs.length = ([] : List Tm).length → Stt X.K Z φ env (zipH [] [] vs) σ H' L → Q vs H' from h) [] H rfl rfl S
theorem jk_cons {nm : Option Str} {kpos : Pos} (ha : JE X Z W φ a φ1 t fa) (h : JK X Z W φ1 kws φ2 ts f) : JK X Z W φ (⟨nm, a, kpos⟩ :: kws) φ2 (t :: ts) (consM fa f) := by
  refine pk_imp (pk_cons ha h) fun σ H Q ⟨L, env, S, h⟩ => ?_
  refine rdE.go S (h.bind.mono fun d e1 h1 v H1 S1 => ?_)
  refine rdA.go S1 (h1.bind.mono fun ds e2 h2 vs H2 hl hv S2 => ?_)
  refine h2 (v :: vs) H2 (by simp [hl]) (by simp [hv]) (S2.hperm ?_)
  show (zipH ts ds vs ++ [(⟨t, d, v⟩ : Held)]).Perm ((⟨t, d, v⟩ : Held) :: zipH ts ds vs)
  exact List.perm_append_comm
/-- the callee runs, keywords behind the rest in the parameters' order -/
theorem run_gK {pins : List (Addr × Obj)} {s : Shared} {Q : VK} {us ws : List Value} {kw : List (Str × Value)} {vs : List V} {fn : Addr} {fd : FuncData} {sp : Sp} (G : FnOkG X.prog X.w X.K X.mg X.base k fn fd ps sp) (hr : Room k X.A) (hgd : X.A.guards = some [])
    (hb : us.length + ws.length = ps.length → BindsTo s fd ⟨us, kw⟩ (ps.zip (us ++ ws))) (tk : Takes X W)
    (I : Inv X pins σ H s) (r : Vals vs (us ++ ws)) (h : sp vs H Q fun cls d H' => W cls d σ H') : wpAny (model X.prog X.w) X.A (call (.ref fn) us kw) (EP X pins σ Q) X.xe s := by
  have hl : us.length + ws.length = ps.length := by
    rw [← List.length_append, ← r.length]
    exact G.len _ _ _ _ h
  have run := G.run X.A X.stack s H ⟨us, kw⟩ (us ++ ws) vs Q _ hr hgd I.env0 (hb hl) r h
  refine wpAny_call (codeAny_mono run fun o s' hq => ?_)
  match o, hq with
  | .error e, hq => exact tk e s' (XE.of_call I (fun _ _ _ z => z) hq)
  | .ok (.ret u), hq => exact I.after hq
  | .ok .next, hq => exact False.elim hq
  | .ok .brk, hq => exact False.elim hq
  | .ok .cont, hq => exact False.elim hq
theorem kwTab_end {n k : Nat} (h : k = n) : (k, []) ∈ kwTab n := by
  subst h
  refine List.mem_flatMap.mpr ⟨k, List.mem_range.mpr (Nat.lt_succ_self k), ?_⟩
  rw [Nat.sub_self]
  exact List.mem_cons_self
theorem je_callH (G : Has X.prog X.w X.K X.mg X.base j x ps Z ms kr F) (hj : j ≤ k) (hr : Room k X.A) (hgd : X.A.guards = some []) (hg : Gl X x) (tk : Takes X W)
    (hdb : (x == ("__debug__" : Str)) = false) (hs : noStar a = true) (hpl : es.all noStar = true) (ha : JA X Z W φ (a :: es) φ2 ts f) (hf : fitM ms ts φ2 = true) :
    JE X Z W φ (.Call (.Name x p) (a :: es) [] pos) (flM ms ts φ2) (.v kr) (callF F ms ts f) := by
  obtain ⟨fn, fd, h1, h2, h3, h4⟩ := (G.mono hj).ex
  have hb : Binds X.K fd ps [] := fun s us _ hl => by
    rw [List.append_nil] at hl ⊢
    have q := h3 s us [] [] (by simpa using hl) (kwTab_end hl)
    rw [List.append_nil] at q
    exact q
  exact je_call h4 hr hgd hg h1 h2 hb tk hdb hs hpl ha hf
theorem vals_len {vs : List V} {us : List Value} (r : Vals vs us) : us.length = vs.length := r.length.symm
theorem zipH_app {ts2 : List Tm} {ds2 : List DV} {zs : List V} : ∀ {ts : List Tm} {ds : List DV} {vs : List V}, ds.length = ts.length → vs.length = ts.length → zipH (ts ++ ts2) (ds ++ ds2) (vs ++ zs) = zipH ts ds vs ++ zipH ts2 ds2 zs
  | [], [], [], _, _ => rfl
  | t :: ts, d :: ds, v :: vs, a, b => by
    show _ :: zipH (ts ++ ts2) (ds ++ ds2) (vs ++ zs) = _ :: (zipH ts ds vs ++ zipH ts2 ds2 zs)
    rw [zipH_app (by simpa using a) (by simpa using b)]
  | [], _ :: _, _, h, _ => by simp at h
  | [], [], _ :: _, _, h => by simp at h
  | _ :: _, [], _, h, _ => by simp at h
  | _ :: _, _ :: _, [], _, h => by simp at h
/-- taken in the order ρ -/
def reo {α : Type} (ρ : List Nat) (l : List α) : List α := ρ.filterMap fun j => l[j]?
theorem reo_range {α : Type} : ∀ l : List α, reo (List.range l.length) l = l
  | [] => rfl
  | x :: l => by
    have ih := reo_range l
    unfold reo at ih ⊢
    rw [List.length_cons, List.range_succ_eq_map, List.filterMap_cons, List.filterMap_map]
    show x :: (List.range l.length).filterMap (fun j => (x :: l)[j + 1]?) = _
    simp only [List.getElem?_cons_succ]
    rw [ih]
theorem reo_perm {α : Type} {ρ : List Nat} {l : List α} (h : ρ.Perm (List.range l.length)) : (reo ρ l).Perm l := by
  have := h.filterMap fun j => l[j]?
  refine this.trans ?_
  have e := reo_range l
  unfold reo at e
  rw [e]
theorem vals_reo {xs : List V} {us : List Value} (h : Vals xs us) : ∀ ρ : List Nat, Vals (reo ρ xs) (reo ρ us)
  | [] => .nil
  | j :: ρ => by
    have ih := vals_reo h ρ
    unfold reo at ih ⊢
    simp only [List.filterMap_cons]
    cases e : xs[j]? with
    | none =>
      have e2 : us[j]? = none := by
        rw [List.getElem?_eq_none_iff] at e ⊢
        rw [← h.length]; exact e
      rw [e2]; exact ih
    | some x =>
      obtain ⟨u, e2, r⟩ := h.get e
      rw [e2]
      exact .cons r ih
theorem reo_len {α : Type} {ρ : List Nat} {l : List α} (h : ρ.Perm (List.range l.length)) : (reo ρ l).length = l.length := (reo_perm h).length_eq
theorem zipH_get : ∀ {ts : List Tm} {ds : List DV} {vs : List V} {j : Nat}, ds.length = ts.length → vs.length = ts.length → (zipH ts ds vs)[j]? = match ts[j]?, ds[j]?, vs[j]? with
    | some t, some d, some v => some ⟨t, d, v⟩
    | _, _, _ => none
  | [], [], [], j, _, _ => by simp [zipH]
  | t :: ts, d :: ds, v :: vs, 0, _, _ => rfl
  | t :: ts, d :: ds, v :: vs, j + 1, h1, h2 => by
    show (zipH ts ds vs)[j]? = _
    rw [zipH_get (by simpa using h1) (by simpa using h2)]
    simp
  | [], _ :: _, _, _, h, _ => by simp at h
  | [], [], _ :: _, _, _, h => by simp at h
  | _ :: _, [], _, _, h, _ => by simp at h
  | _ :: _, _ :: _, [], _, _, h => by simp at h
theorem reo_cons {α : Type} {j : Nat} {ρ : List Nat} {l : List α} : reo (j :: ρ) l = match l[j]? with
    | some x => x :: reo ρ l
    | none => reo ρ l := by
  unfold reo
  rw [List.filterMap_cons]
  cases l[j]? <;> rfl
theorem zipH_reo {ts : List Tm} {ds : List DV} {vs : List V} (h1 : ds.length = ts.length) (h2 : vs.length = ts.length) : ∀ ρ : List Nat, zipH (reo ρ ts) (reo ρ ds) (reo ρ vs) = reo ρ (zipH ts ds vs)
  | [] => rfl
  | j :: ρ => by
    have ih := zipH_reo h1 h2 ρ
    rw [reo_cons, reo_cons, reo_cons, reo_cons, zipH_get h1 h2]
    by_cases hj : j < ts.length
    · rw [List.getElem?_eq_getElem hj, List.getElem?_eq_getElem (by omega : j < ds.length), List.getElem?_eq_getElem (by omega : j < vs.length)]
      show _ :: zipH _ _ _ = _ :: _
      rw [ih]
    · rw [List.getElem?_eq_none (by omega), List.getElem?_eq_none (by omega), List.getElem?_eq_none (by omega)]
      exact ih
theorem zipH_len : ∀ {ts : List Tm} {ds : List DV} {vs : List V}, ds.length = ts.length → vs.length = ts.length → (zipH ts ds vs).length = ts.length
  | [], [], [], _, _ => rfl
  | t :: ts, d :: ds, v :: vs, h1, h2 => by
    show (zipH ts ds vs).length + 1 = _
    rw [zipH_len (by simpa using h1) (by simpa using h2)]; rfl
  | [], _ :: _, _, h, _ => by simp at h
  | [], [], _ :: _, _, h => by simp at h
  | _ :: _, [], _, h, _ => by simp at h
  | _ :: _, _ :: _, [], _, h => by simp at h
def kwM (ρ : List Nat) (f f2 : M (List DV)) : M (List DV) := fun e => (f e).bind fun ds e1 => (f2 e1).bind fun ds2 e2 => .ok (ds ++ reo ρ ds2) e2
/-- f(.., k = e, ..): the names told in the order π, put right by ρ -/
theorem je_callK (ρ π : List Nat) (G : Has X.prog X.w X.K X.mg X.base j x ps Z ms kr F) (hj : j ≤ k) (hr : Room k X.A) (hgd : X.A.guards = some []) (hg : Gl X x) (tk : Takes X W)
    (hdb : (x == ("__debug__" : Str)) = false) (hs : noStar a = true) (hpl : ((backTo pos (starEach (a :: es) X.env)).any (·.1) || (backToKw pos (keywordEach kws X.env)).any (·.1.isNone)) = false)
    (hall : (backToKw pos (keywordEach kws X.env)).all (·.1.isSome) = true) (hlen : ts.length = es.length + 1) (hπ : (es.length + 1, π) ∈ kwTab ps.length) (hρ : ρ.Perm (List.range ts2.length))
    (hks : ∀ ws : List Value, ws.length = ts2.length → ((backToKw pos (keywordEach kws X.env)).filterMap (·.1)).zip ws = kwOf ps (es.length + 1) π (reo ρ ws))
    (ha : JA X Z W φ (a :: es) φ1 ts f) (hk : JK X Z W φ1 kws φ2 ts2 f2) (hf : fitM ms (ts ++ reo ρ ts2) φ2 = true) :
    JE X Z W φ (.Call (.Name x p) (a :: es) kws pos) (flM ms (ts ++ reo ρ ts2) φ2) (.v kr) (callF F ms (ts ++ reo ρ ts2) (kwM ρ f f2)) := by
  obtain ⟨fn, fd, h1, h2, h3, h4⟩ := (G.mono hj).ex
  refine pe_imp (t := fun σ H Q => rdA X Z W φ φ1 ts f σ H fun vs H1 => vs.length = es.length + 1 ∧ rdA X Z W φ1 φ2 ts2 f2 σ H1 fun zs H2 => zs.length = ts2.length ∧ spD X.K Z ms kr F (vs ++ reo ρ zs) H2 Q fun cls d H' => W cls d σ H') ⟨fun pins s σ H Q I h => ?_⟩ fun σ H Q ⟨L, env, S, h⟩ => ?_
  · refine wpAny_Call_Name_kw (ld_glob I hg h1 ?_ hdb)
    refine PySem.W.callWith_KW (h₀ := X.base) I.ok.mod.kin h2 hall (thn (ha.run pos pins s σ H _ I h) fun us s1 ⟨vs, H1, I1, r, hl, q⟩ => ?_) hpl (star_eq hs)
    refine thn (hk.run pos pins s1 σ H1 _ I1 q) fun ws s2 ⟨zs, H2, I2, rz, hz, q2⟩ => ⟨I2.kIn, ?_⟩
    have hu : us.length = es.length + 1 := by rw [vals_len r, hl]
    rw [hks ws (by rw [vals_len rz, hz])]
    refine run_gK (ws := reo ρ ws) h4 hr hgd (fun hlen => ?_) tk I2 (r.append (vals_reo rz ρ)) q2
    have := h3 s2 us (reo ρ ws) π hlen (by rw [hu]; exact hπ)
    rw [hu] at this
    exact this
  · refine ⟨L, env, S, ?_⟩
    have h := h.bind
    refine Wish.mono h.bind fun ds e1 h1 vs H1 hl hv S1 => ⟨by rw [hv, hlen], ?_⟩
    refine rdA.go S1 (Wish.mono h1.bind fun ds2 e2 h2 zs H2 hl2 hv2 S2 => ⟨hv2, ?_⟩)
    have S3 : Stt X.K Z φ2 e2 (zipH (ts ++ reo ρ ts2) (ds ++ reo ρ ds2) (vs ++ reo ρ zs)) σ H2 L := by
      refine S2.hperm ?_
      rw [zipH_app hl hv, zipH_reo hl2 hv2]
      refine List.perm_append_comm.trans (List.Perm.append_left _ ?_)
      exact (reo_perm (by rw [zipH_len hl2 hv2]; exact hρ)).symm
    have e1 : (reo ρ ds2).length = (reo ρ ts2).length := by rw [reo_len hρ, reo_len (by rw [hl2]; exact hρ), hl2]
    have e2 : (reo ρ zs).length = (reo ρ ts2).length := by rw [reo_len hρ, reo_len (by rw [hv2]; exact hρ), hv2]
    exact callF_core (ds := ds ++ reo ρ ds2) hf (by simp [hl, e1]) (by simp [hv, e2]) S3 h2
theorem je_callK0 (ρ π : List Nat) (G : Has X.prog X.w X.K X.mg X.base j x ps Z ms kr F) (hj : j ≤ k) (hr : Room k X.A) (hgd : X.A.guards = some []) (hg : Gl X x) (tk : Takes X W)
    (hdb : (x == ("__debug__" : Str)) = false) (hpl : ((backTo pos (starEach [] X.env)).any (·.1) || (backToKw pos (keywordEach kws X.env)).any (·.1.isNone)) = false)
    (hall : (backToKw pos (keywordEach kws X.env)).all (·.1.isSome) = true) (hπ : (0, π) ∈ kwTab ps.length) (hρ : ρ.Perm (List.range ts.length))
    (hks : ∀ ws : List Value, ws.length = ts.length → ((backToKw pos (keywordEach kws X.env)).filterMap (·.1)).zip ws = kwOf ps 0 π (reo ρ ws))
    (hk : JK X Z W φ kws φ2 ts f) (hf : fitM ms (reo ρ ts) φ2 = true) :
    JE X Z W φ (.Call (.Name x p) [] kws pos) (flM ms (reo ρ ts) φ2) (.v kr) (callF F ms (reo ρ ts) (kwM ρ (M.pure []) f)) := by
  obtain ⟨fn, fd, h1, h2, h3, h4⟩ := (G.mono hj).ex
  refine pe_imp (t := fun σ H Q => rdA X Z W φ φ2 ts f σ H fun zs H2 => zs.length = ts.length ∧ spD X.K Z ms kr F (reo ρ zs) H2 Q fun cls d H' => W cls d σ H') ⟨fun pins s σ H Q I h => ?_⟩ fun σ H Q ⟨L, env, S, h⟩ => ?_
  · refine wpAny_Call_Name_kw (ld_glob I hg h1 ?_ hdb)
    refine PySem.W.callWith_KW0 (h₀ := X.base) I.ok.mod.kin h2 hall ?_ hpl
    refine thn (hk.run pos pins s σ H _ I h) fun ws s2 ⟨zs, H2, I2, rz, hz, q2⟩ => ⟨I2.kIn, ?_⟩
    rw [hks ws (by rw [vals_len rz, hz])]
    exact run_gK (us := []) (ws := reo ρ ws) h4 hr hgd (fun hlen => h3 s2 [] (reo ρ ws) π hlen hπ) tk I2 (vals_reo rz ρ) q2
  · have h := Wish.bind (show Wish X.K Z W L (((f env).bind fun ds2 e2 => Out.ok ([] ++ reo ρ ds2) e2).bind _) _ from h)
    refine ⟨L, env, S, Wish.mono h.bind fun ds e' h1 vs H' hl hv S' => ⟨hv, ?_⟩⟩
    have S3 : Stt X.K Z φ2 e' (zipH (reo ρ ts) (reo ρ ds) (reo ρ vs)) σ H' L := by
      refine S'.hperm ?_
      rw [zipH_reo hl hv]
      exact (reo_perm (by rw [zipH_len hl hv]; exact hρ)).symm
    have e1 : (reo ρ ds).length = (reo ρ ts).length := by rw [reo_len hρ, reo_len (by rw [hl]; exact hρ), hl]
    have e2 : (reo ρ vs).length = (reo ρ ts).length := by rw [reo_len hρ, reo_len (by rw [hv]; exact hρ), hv]
    exact callF_core hf e1 e2 S3 h1
/-- f() -/
theorem je_call0 (G : Has X.prog X.w X.K X.mg X.base j x ps Z [] kr F) (hj : j ≤ k) (hr : Room k X.A) (hgd : X.A.guards = some []) (hg : Gl X x) (tk : Takes X W)
    (hdb : (x == ("__debug__" : Str)) = false) (hps : ps = []) : JE X Z W φ (.Call (.Name x p) [] [] pos) φ (.v kr) (callF F [] [] (M.pure [])) := by
  obtain ⟨fn, fd, h1, h2, h3, h4⟩ := (G.mono hj).ex
  refine pe_imp (t := fun σ H Q => spD X.K Z [] kr F [] H Q fun cls d H' => W cls d σ H') ⟨fun pins s σ H Q I h => ?_⟩ fun σ H Q ⟨L, env, S, h⟩ => ?_
  · refine wpAny_Call_Name_kw (ld_glob I hg h1 ?_ hdb)
    refine PySem.W.callWith_K0 I.kIn h2 ?_
    exact run_gK (us := []) (ws := []) h4 hr hgd (fun hlen => h3 s [] [] [] hlen (kwTab_end (by simpa using hlen))) tk I .nil h
  · have S2 : Stt X.K Z φ env (zipH [] [] []) σ H L := S
    exact callF_core (ts := []) (ds := []) (vs := []) (φ2 := φ) rfl rfl rfl S2 h
end

/-! ### repr of a list, of a tuple -/
section
variable {X : Cx} {Z : ClT}
def isSeq : PyData → Bool
  | .list _ => true
  | .tuple _ => true
  | _ => false
mutual
/-- data, empty dicts among it, no lists -/
def dOk : PyData → Bool
  | .none | .bool _ | .int _ | .str _ => true
  | .tuple xs => dOks xs
  | .dict [] => true
  | _ => false
def dOks : List PyData → Bool
  | [] => true
  | x :: xs => dOk x && dOks xs
end
mutual
theorem Den.rdT {pins : List (Addr × Obj)} {σ : St} {H : Hp} {s : Shared} (I : Inv X pins σ H s) : ∀ {d : PyData} {v : V} {G : Ft} {u : Value}, Den X.K H d v G → dOk d = true → RelV v u → ∃ as, Reads s.heap u d as ∧ sysModules ∉ as
  | _, _, _, _, .non, _, r => by cases r; exact ⟨_, .none, by simp⟩
  | _, _, _, _, .bl b, _, r => by cases r; exact ⟨_, .bool b, by simp⟩
  | _, _, _, _, .int i, _, r => by obtain ⟨t, rfl⟩ := r; exact ⟨_, .int i t, by simp⟩
  | _, _, _, _, .str x, _, r => by obtain ⟨t, rfl⟩ := r; exact ⟨_, .str x t, by simp⟩
  | _, _, _, _, .lst h1 h2, c, r => by simp [dOk] at c
  | _, _, _, _, .tup h1 h2, c, r => by
    cases r
    obtain ⟨its, rv, ⟨o, ho, hc, n, hd⟩, _⟩ := I.tuple (.of h1)
    obtain ⟨as, hr, hn⟩ := DenL.rdT I h2 (by simpa [dOk] using c) rv
    exact ⟨_, Reads.tuple ho hc hd hr, hn⟩
  | .dict [], _, _, _, .dic h1 h2 h3, c, r => by
    cases r
    rcases h1 with ⟨kvs, e1, e2, e3⟩ | ⟨kvs, e1, e2, e3⟩
    · have : kvs = [] := by
        cases kvs with
        | nil => rfl
        | cons p kvs => rw [e2] at h2; cases h2
      subst this
      obtain ⟨z, hs, vs, kv, o, es, ep, q1, q2, q3, q4, q5, q6⟩ := dk_of I.hok e1
      cases kv
      have he : es.toList = [] := by
        cases hh : es.toList with
        | nil => rfl
        | cons x l => rw [hh] at q5; cases q5
      refine ⟨_, Reads.dict (as := []) (bs := []) q1 q2.1 q3 (by rw [he]; exact .nil) (by rw [he]; exact .nil), ?_⟩
      simp only [List.append_nil, List.mem_singleton]
      intro e
      rw [← e] at hs
      simp at hs
    · have : kvs = [] := by
        cases kvs with
        | nil => rfl
        | cons p kvs => rw [e2] at h2; cases h2
      subst this
      obtain ⟨z, hs, xs, kv, o, es, ep, q1, q2, q3, q4, q5⟩ := (show ObjOk X.prog X.w H s.heap _ (.dT []) from I.hok _ _ e1)
      cases kv
      have he : es.toList = [] := by rw [q4]; rfl
      refine ⟨_, Reads.dict (as := []) (bs := []) q1 q2.1 q3 (by rw [he]; exact .nil) (by rw [he]; exact .nil), ?_⟩
      simp only [List.append_nil, List.mem_singleton]
      intro e
      rw [← e] at hs
      simp at hs
  | .dict (_ :: _), _, _, _, .dic h1 h2 h3, c, r => by simp [dOk] at c
theorem DenL.rdT {pins : List (Addr × Obj)} {σ : St} {H : Hp} {s : Shared} (I : Inv X pins σ H s) : ∀ {ds : List PyData} {vs : List V} {G : Ft} {us : List Value}, DenL X.K H ds vs G → dOks ds = true → Vals vs us → ∃ as, ReadsAll s.heap us ds as ∧ sysModules ∉ as
  | _, _, _, _, .nil, _, r => by cases r; exact ⟨_, .nil, by simp⟩
  | _, _, _, _, .cons h1 h2, c, r => by
    cases r with
    | cons r1 r2 =>
      simp only [dOks, Bool.and_eq_true] at c
      obtain ⟨as, q1, n1⟩ := Den.rdT I h1 c.1 r1
      obtain ⟨bs, q2, n2⟩ := DenL.rdT I h2 c.2 r2
      exact ⟨_, .cons q1 q2, by simp [n1, n2]⟩
end
def reprP (x : PyData) : Option PyData := if (x.canLay0 || dOk x) && decide (x.depth ≤ 64) && x.showable && decide (x.shown.length ≤ big) then some (.str x.shown) else none
theorem cd_repr (hgd : X.A.guards = some []) (hu : X.A.units + 70 < cLine) : CallD X Z (.builtin "repr") (oneD reprP) 9 9 := cd_one fun pins s σ H v us Q p r R n I rv S m hn hg hq => by
  unfold reprP at hg
  split at hg
  · rename_i h
    simp only [Bool.and_eq_true, Bool.or_eq_true, decide_eq_true_eq] at h
    obtain ⟨⟨⟨h1, h2⟩, h3⟩, h4⟩ := h
    cases hg
    obtain ⟨u, eu, ru⟩ : ∃ u, us = [u] ∧ RelV v u := by
      cases rv with
      | cons r1 r2 => cases r2; exact ⟨_, rfl, r1⟩
    subst eu
    have hr : ∃ as, Reads s.heap u p as ∧ (p.hasDict = true → sysModules ∉ as) := by
      rcases h1 with h1 | h1
      · have dp := S.dp m (show SeqAt.shaped p = true by unfold SeqAt.shaped; rw [h1]; simpa using h2)
        obtain ⟨as, rd⟩ := Dp.reads I p v u dp ru
        exact ⟨as, rd, PyData.noDict_hsm (PyData.hasDict_of_canLay p h1)⟩
      · obtain ⟨G, hd⟩ := S.den m
        cases hd with
        | d hd =>
          obtain ⟨as, rd, hn⟩ := hd.rdT I h1 ru
          exact ⟨as, rd, fun _ => hn⟩
    obtain ⟨as, rd, hsm⟩ := hr
    cases rd with
    | none => exact PySem.P.repr_of_none ⟨.str _, H, I.kept (h' := s.heap) (t' := s.toks + 1) (fun b o e => e), ⟨_, rfl⟩, hq _ _ S.cstr⟩
    | bool b => exact PySem.P.repr_of_bool ⟨.str _, H, I.kept (h' := s.heap) (t' := s.toks + 1) (fun b o e => e), ⟨_, by cases b <;> rfl⟩, hq _ _ S.cstr⟩
    | int i t => exact PySem.P.repr_of_int (by simpa [PyData.showable] using h3) ⟨.str _, H, I.kept (h' := s.heap) (t' := s.toks + 1) (fun b o e => e), ⟨_, rfl⟩, hq _ _ S.cstr⟩
    | str x t => exact PySem.P.repr_of_str ⟨.str _, H, I.kept (h' := s.heap) (t' := s.toks + 1) (fun b o e => e), ⟨_, rfl⟩, hq _ _ S.cstr⟩ (big_line h4)
    | list q1 q2 q3 q4 => exact repr_of_reads' (.list q1 q2 q3 q4) h3 hsm hgd (by omega) (fun b o e => e) (fun h' u tk hk => ⟨.str _, H, I.kept (t' := tk) hk, ⟨_, rfl⟩, hq _ _ S.cstr⟩) (big_line h4)
    | tuple q1 q2 q3 q4 => exact repr_of_reads' (.tuple q1 q2 q3 q4) h3 hsm hgd (by omega) (fun b o e => e) (fun h' u tk hk => ⟨.str _, H, I.kept (t' := tk) hk, ⟨_, rfl⟩, hq _ _ S.cstr⟩) (big_line h4)
    | dict q1 q2 q3 q4 q5 => exact repr_of_reads' (.dict q1 q2 q3 q4 q5) h3 hsm hgd (by omega) (fun b o e => e) (fun h' u tk hk => ⟨.str _, H, I.kept (t' := tk) hk, ⟨_, rfl⟩, hq _ _ S.cstr⟩) (big_line h4)
  · cases hg
end

/-! ### sorted -/
def insB {α : Type} (lt : α → α → Bool) (x : α) : List α → List α
  | [] => [x]
  | y :: ys => if lt y x then y :: insB lt x ys else x :: y :: ys
def srtB {α : Type} (lt : α → α → Bool) : List α → List α
  | [] => []
  | x :: xs => insB lt x (srtB lt xs)
/-- a total order, told by its strict half -/
structure Tot {α : Type} (lt : α → α → Bool) : Prop where
  asym : ∀ x y, lt x y = true → lt y x = false
  tr : ∀ x y z, lt x y = true → lt y z = true → lt x z = true
  eq : ∀ x y, lt x y = false → lt y x = false → x = y
section
variable {α : Type} {lt : α → α → Bool}
theorem Tot.irr (T : Tot lt) (x : α) : lt x x = false := by
  cases h : lt x x with
  | false => rfl
  | true => have := T.asym x x h; rw [h] at this; exact this
theorem Tot.swo (T : Tot lt) : SrtO.Swo lt := ⟨T.asym, fun x y z h1 h2 => by
  -- y ≤ x, z ≤ y: z ≤ x
  cases h : lt z x with
  | false => rfl
  | true =>
    cases h3 : lt x y with
    | true => rw [T.tr z x y h h3] at h2; exact h2
    | false =>
      have e := T.eq x y h3 h1
      subst e
      rw [h] at h2; exact h2⟩
theorem insB_perm (x : α) : ∀ l : List α, (insB lt x l).Perm (x :: l)
  | [] => .refl _
  | y :: ys => by
    unfold insB
    split
    · exact ((insB_perm x ys).cons y).trans (.swap _ _ _)
    · exact .refl _
theorem srtB_perm : ∀ l : List α, (srtB lt l).Perm l
  | [] => .refl _
  | x :: xs => (insB_perm x _).trans ((srtB_perm xs).cons x)
theorem insB_srt (T : Tot lt) (x : α) : ∀ {l : List α}, SrtO.Srtd lt l → SrtO.Srtd lt (insB lt x l)
  | [], _ => List.pairwise_singleton _ _
  | y :: ys, h => by
    obtain ⟨h1, h2⟩ := List.pairwise_cons.mp h
    unfold insB
    split
    · rename_i hy
      refine List.pairwise_cons.mpr ⟨fun z hz => ?_, insB_srt T x h2⟩
      rcases List.mem_cons.mp ((insB_perm x ys).mem_iff.mp hz) with e | hz
      · rw [e]; exact T.asym y x hy
      · exact h1 z hz
    · rename_i hy
      have hy : lt y x = false := by simpa using hy
      refine List.pairwise_cons.mpr ⟨fun z hz => ?_, h⟩
      rcases List.mem_cons.mp hz with e | hz
      · rw [e]; exact hy
      · exact T.swo.tr x y z hy (h1 z hz)
theorem srtB_srt (T : Tot lt) : ∀ l : List α, SrtO.Srtd lt (srtB lt l)
  | [] => List.Pairwise.nil
  | x :: xs => insB_srt T x (srtB_srt T xs)
/-- there is but one -/
theorem srt_uniq (T : Tot lt) : ∀ {l m : List α}, SrtO.Srtd lt l → SrtO.Srtd lt m → l.Perm m → l = m
  | [], m, _, _, p => (List.Perm.eq_nil p.symm).symm
  | x :: l, [], _, _, p => absurd p.length_eq (by simp)
  | x :: l, y :: m, hl, hm, p => by
    obtain ⟨l1, l2⟩ := List.pairwise_cons.mp hl
    obtain ⟨m1, m2⟩ := List.pairwise_cons.mp hm
    have e : x = y := by
      rcases List.mem_cons.mp (p.mem_iff.mp List.mem_cons_self) with e | hx
      · exact e
      · rcases List.mem_cons.mp (p.mem_iff.mpr List.mem_cons_self) with e | hy
        · exact e.symm
        · exact T.eq x y (m1 x hx) (l1 y hy)
    subst e
    rw [srt_uniq T l2 m2 p.cons_inv]
theorem srt_is (T : Tot lt) {l m : List α} (h : SrtO.Srtd lt l) (p : l.Perm m) : l = srtB lt m := srt_uniq T h (srtB_srt T m) (p.trans (srtB_perm m).symm)
end
def ltI (i j : Int) : Bool := decide (i < j)
theorem tot_int : Tot ltI := by
  refine ⟨fun x y h => ?_, fun x y z h1 h2 => ?_, fun x y h1 h2 => ?_⟩
  · have := of_decide_eq_true h
    exact decide_eq_false (by omega)
  · have := of_decide_eq_true h1
    have := of_decide_eq_true h2
    exact decide_eq_true (by omega)
  · have := of_decide_eq_false h1
    have := of_decide_eq_false h2
    omega
theorem tot_pair : Tot SrtO.lexB := by
  refine ⟨fun x y h => ?_, fun x y z h1 h2 => ?_, fun x y h1 h2 => ?_⟩
  · have := SrtO.lexB_iff.mp h
    exact SrtO.lexB_no.mpr (by omega)
  · have := SrtO.lexB_iff.mp h1
    have := SrtO.lexB_iff.mp h2
    exact SrtO.lexB_iff.mpr (by omega)
  · have := SrtO.lexB_no.mp h1
    have := SrtO.lexB_no.mp h2
    obtain ⟨a, b⟩ := x
    obtain ⟨c, d⟩ := y
    simp only at *
    have e1 : a = c := by omega
    have e2 : b = d := by omega
    rw [e1, e2]
def pairD (p : Int × Int) : PyData := .tuple [.int p.1, .int p.2]
def getPs : List PyData → Option (List (Int × Int))
  | [] => some []
  | .tuple [.int i, .int j] :: r => (match getPs r with
    | some ps => some ((i, j) :: ps)
    | none => none)
  | _ :: _ => none
theorem getPs_eq : ∀ {xs : List PyData} {ps : List (Int × Int)}, getPs xs = some ps → xs = ps.map pairD
  | [], _, h => by cases h; rfl
  | x :: xs, ps, h => by
    unfold getPs at h
    split at h
    · rename_i e; cases e
    · rename_i i j r e
      cases e
      split at h
      · rename_i ps' q
        cases h
        rw [getPs_eq q]; rfl
      · cases h
    · cases h
def isTupN : PyData → Bool
  | .tuple (_ :: _) => true
  | _ => false
def noTup : PyData → Bool
  | .tuple _ => false
  | .none => false
  | _ => true
/-- data that can be sorted as they are -/
def srtOk (xs : List PyData) : Bool := (xs.all fun x => xs.all fun y => PySem.W.alike x y) && (xs.all isTupN || xs.all noTup) && xs.all SeqAt.shaped && decide (xs.length ≤ big)
def srtA (xs : List PyData) : List PyData := xs.mergeSort (PySem.W.dataLe false id)
def sortP : PyData → Option PyData
  | .list xs => match getIs xs with
    | some is => some (.list ((srtB ltI is).map .int))
    | none => match getPs xs with
      | some ps => some (.list ((srtB SrtO.lexB ps).map pairD))
      | none => if srtOk xs then some (.list (srtA xs)) else none
  | .tuple xs => if srtOk xs then some (.list (srtA xs)) else none
  | .dict qs => match getIs (qs.map (·.1)) with
    | some is => some (.list ((srtB ltI is).map .int))
    | none => (getPs (qs.map (·.1))).map fun ps => .list ((srtB SrtO.lexB ps).map pairD)
  | _ => none
section
variable {X : Cx} {Z : ClT} {H : Hp} {R : List Root}
/-- the two ints of a pair, as they lie -/
noncomputable def pairAt (h : Heap) (v : Value) : Int × Int := match v with
  | .ref a => (match h.get? a with
    | some o => (match o.data with
      | .seq vs _ => (match vs.toList with
        | [.int i _, .int j _] => (i, j)
        | _ => (0, 0))
      | _ => (0, 0))
    | none => (0, 0))
  | _ => (0, 0)
theorem pair_item {pins : List (Addr × Obj)} {σ : St} {s : Shared} {p : Int × Int} {v : V} {u : Value} {G : Ft} (I : Inv X pins σ H s) (d : Den X.K H (pairD p) v G) (r : RelV v u) : (∃ a, v = .ref a) ∧ pairAt s.heap u = p ∧ Srt.IsPair s.heap u p.1 p.2 := by
  cases d with
  | tup h1 h2 =>
    cases h2 with
    | cons a1 t1 =>
      cases t1 with
      | cons a2 t2 =>
        cases t2
        cases a1
        cases a2
        cases r
        obtain ⟨its, rv, ht, _⟩ := I.tuple (.of h1)
        obtain ⟨u1, u2, rfl, r1, r2⟩ := rv.two
        obtain ⟨t1, rfl⟩ := r1
        obtain ⟨t2, rfl⟩ := r2
        obtain ⟨o, ho, hc, n, hd⟩ := ht
        refine ⟨⟨_, rfl⟩, ?_, ?_⟩
        · unfold pairAt
          simp only [ho, hd]
        · exact ⟨_, o, t1, t2, n, rfl, ho, hc, hd⟩
theorem pairs_items {pins : List (Addr × Obj)} {σ : St} {s : Shared} (I : Inv X pins σ H s) : ∀ {ps : List (Int × Int)} {vs : List V} {us : List Value} {G : Ft}, DenL X.K H (ps.map pairD) vs G → Vals vs us →
    us.map (pairAt s.heap) = ps ∧ (∀ v ∈ vs, ∃ a, v = V.ref a) ∧ ∀ u ∈ us, Srt.IsPair s.heap u (pairAt s.heap u).1 (pairAt s.heap u).2
  | [], _, _, _, h, r => by
    cases h
    cases r
    exact ⟨rfl, (fun _ h => nomatch h), (fun _ h => nomatch h)⟩
  | p :: ps, _, _, _, h, r => by
    cases h with
    | cons h1 h2 =>
      cases r with
      | cons r1 r2 =>
        obtain ⟨q1, q2, q3⟩ := pairs_items I h2 r2
        obtain ⟨p1, p2, p3⟩ := pair_item I h1 r1
        refine ⟨by rw [List.map_cons, q1, p2], fun v hv => ?_, fun u hu => ?_⟩
        · rcases List.mem_cons.mp hv with e | hv
          · rw [e]; exact p1
          · exact q2 v hv
        · rcases List.mem_cons.mp hu with e | hu
          · rw [e, p2]; exact p3
          · exact q3 u hu
theorem kids_perm {m : Nat} {f : Value → PyData} : ∀ us : List Value, kids m (us.map f) (us.map backV) = us.map fun u => ⟨m, .d (f u), backV u⟩
  | [] => rfl
  | u :: us => by
    show _ :: kids m (us.map f) (us.map backV) = _ :: _
    rw [kids_perm us]
theorem DenL.nilApp {K : PySem.W.Frag} {ds : List PyData} {vs : List V} {d : PyData} {v : V} (h : Den K H d v []) (t : DenL K H ds vs []) : DenL K H (d :: ds) (v :: vs) [] := by
  have := DenL.cons h t
  rwa [List.append_nil] at this
theorem den_keyD {K : PySem.W.Frag} (k : Key) : Den K H (keyD k) (kV k) [] := by cases k with
  | inl i => exact .int i
  | inr x => exact .str x
theorem denl_keyD {K : PySem.W.Frag} : ∀ ks : List Key, DenL K H (ks.map keyD) (ks.map kV) []
  | [] => .nil
  | k :: ks => DenL.nilApp (den_keyD k) (denl_keyD ks)
theorem den_keyT {K : PySem.W.Frag} {b : Addr} {k : List Key} (h : H b = some (.tup (k.map kV))) : Den K H (keyT k) (.ref b) [] := .tup (G := []) h (denl_keyD k)
theorem denl_keyT {K : PySem.W.Frag} {kvs : List (List Key × V)} {xs : List (List Key × Addr × Value)} (r : KT H kvs xs) : DenL K H (kvs.map fun p => keyT p.1) (xs.map fun x => V.ref x.2.1) [] := by
  induction r with
  | nil => exact .nil
  | cons h t ih => exact DenL.nilApp (den_keyT h.2.1) ih
theorem Sim.scals {m : Nat} (S : Sim X.K Z H R) : ∀ {ds : List PyData} {vs : List V}, DenL X.K H ds vs [] → Sim X.K Z H (kids m ds vs ++ R)
  | [], _, h => by cases h; exact S
  | d :: ds, _, h => by
    generalize e : ([] : Ft) = G at h
    cases h with
    | cons h1 h2 =>
      obtain ⟨e1, e2⟩ := List.append_eq_nil_iff.mp e.symm
      subst e1
      subst e2
      exact (S.scals h2).scal (.d h1)
theorem vals_xs : ∀ xs : List (List Key × Addr × Value), Vals (xs.map fun x => V.ref x.2.1) (xs.map fun x => Value.ref x.2.1)
  | [] => .nil
  | _ :: r => .cons rfl (vals_xs r)
theorem sort_dT {pins : List (Addr × Obj)} {σ : St} {s : Shared} {a : Addr} {kvs : List (List Key × V)} {ps : List (Int × Int)} {Q : VK} (hc : X.calm = true) (I : Inv X pins σ H s) (S : Sim X.K Z H R) (e : H a = some (.dT kvs)) (ep : kvs.map (fun p => keyT p.1) = ps.map pairD)
    (hq : ∀ v H', Sim X.K Z H' (⟨1, .d (.list ((srtB SrtO.lexB ps).map pairD)), v⟩ :: R) → Q v H') : wpAny (model X.prog X.w) X.A (call (.builtin "sorted") [.ref a]) (EP X pins σ Q) X.xe s := by
  obtain ⟨z, lo, xs, rel, o, es, epo, h1, h2, h3, h4, nd⟩ := (show ObjOk X.prog X.w H s.heap a (.dT kvs) from rd_of I.hok (.inl e))
  have hk : es.toList.map (·.key) = xs.map fun x => Value.ref x.2.1 := by
    rw [h4, List.map_map]; rfl
  have hz : es.size ≤ sizeLine := by
    have l1 : es.toList.length = xs.length := by rw [h4, List.length_map]
    have l2 : kvs.length = xs.length := Paired.length rel
    rw [Array.length_toList] at l1
    omega
  have hd := denl_keyT (K := X.K) rel
  rw [ep] at hd
  obtain ⟨q1, q2, q3⟩ := pairs_items I hd (vals_xs xs)
  obtain ⟨e1, e2⟩ := refs_back (vals_xs xs) q2
  refine SrtO.sorted_dictO (vs := xs.map fun x => Value.ref x.2.1) (SrtO.swo_lex (pairAt s.heap)) lo h2 h3 h1 (I.ok.hd hc) hz hk.symm (fun h2' h₁ tk b ha kk => ?_) fun h0 h' tk d out s1 s2 k0 keep hd' ⟨nn, hn2⟩ => ?_
  · refine SrtO.pairs_sortableO (s := { s with heap := h₁, toks := tk }) (by omega) (fun v hm => (q3 v hm).keeps fun b o e _ => (kk b o e).2) fun o e => ?_
    have e' : some o = some (PyProof.Rows.seqObj "list" (xs.map fun x => Value.ref x.2.1).toArray 0) := e.symm.trans ha
    cases e'
    intro c
    exact absurd (Value.type.inj c) (by decide)
  · have refs : ∀ u ∈ out, ∃ a, u = Value.ref a := fun u hu => e2 u (s2.perm.mem_iff.mp hu)
    have es2 : out.map (pairAt s.heap) = srtB SrtO.lexB ps := by
      refine srt_is tot_pair (List.pairwise_map.mpr s1) ?_
      rw [← q1]
      exact s2.perm.map _
    have el : (out.map backV).length = xs.length := by rw [List.length_map, s2.perm.length_eq, List.length_map]
    have I1 : Inv X pins σ H { s with heap := h0, toks := tk } := I.kept k0
    have hxl : xs.length ≤ sizeLine := by rw [← Paired.length rel]; exact z
    refine ⟨.ref d, upd H d (.lst (out.map backV)), I1.laid (t' := tk) keep hd' ⟨by rw [el]; exact hxl, out, nn, vals_back refs, hn2⟩, rfl, hq _ _ ?_⟩
    have hd0 : H d = none := I1.hok.fresh hd'
    have S2 : Sim X.K Z H (kids 0 (ps.map pairD) (xs.map fun x => V.ref x.2.1) ++ R) := S.scals hd
    refine Sim.mkL (n := 0) (S2.perm (List.Perm.append_right R ?_)) ?_ hd0
    · rw [← es2, List.map_map, kids_perm]
      have ep2 : ps.map pairD = (xs.map fun x => Value.ref x.2.1).map (pairD ∘ pairAt s.heap) := by rw [← q1, List.map_map]
      rw [ep2, e1, kids_perm]
      exact s2.perm.symm.map _
    · rw [← es2]; simp
theorem sort_dK {pins : List (Addr × Obj)} {σ : St} {s : Shared} {a : Addr} {kvs : List (Key × V)} {ks : List Int} {Q : VK} (hcalm : X.calm = true) (I : Inv X pins σ H s) (S : Sim X.K Z H R) (hd : H a = some (.dK kvs)) (hks : kvs.map (fun p => keyD p.1) = ks.map .int)
    (hq : ∀ v H', Sim X.K Z H' (⟨1, .d (.list ((srtB ltI ks).map .int)), v⟩ :: R) → Q v H') : wpAny (model X.prog X.w) X.A (call (.builtin "sorted") [.ref a]) (EP X pins σ Q) X.xe s := by
  obtain ⟨z, lo, vs, rel, dd⟩ := dk_rd I.hok (.inl hd)
  obtain ⟨ep, hat⟩ := dd.dictAt
  have hks' : kvs.map (·.1) = ks.map Sum.inl := by
    refine map_inj (f := keyD) (fun _ _ => keyD_inj) ?_
    rw [List.map_map, List.map_map]
    exact hks
  have hkeys : vs.map (·.1) = ks.map Sum.inl := rel.keys.symm.trans hks'
  have hl : vs.length = ks.length := by
    have e := congrArg List.length hkeys
    rw [List.length_map, List.length_map] at e
    exact e
  have hlk : kvs.length = ks.length := by
    have e := congrArg List.length hks'
    rw [List.length_map, List.length_map] at e
    exact e
  have h16 : vs.length ≤ sizeLine := by omega
  refine Calls.call_function_entry PyProof.Rows.kind_sorted PyProof.Rows.plain_sorted PyProof.Rows.entry_sorted (PyProof.Rows.args_sorted1 _) ?_
  unfold Builtin.«sorted»
  refine wpAny_bind (m := checkCount "sorted" 1 1 _) (wpAny_pure ?_)
  refine wpAny_bind (PySem.W.kdu_collect (A := X.A.in1) (PySem.W.kdl_dict (knd := mixKind X.prog X.w) (kvs := vs) (ep := ep) lo) (I.ok.hd hcalm) hat h16 fun h' tk acc hk hacc => ?_)
  have hal : acc.toList.length = ks.length := by rw [Array.length_toList, hacc.1, hl]
  have hS : PyProof.Rows.IntsAre acc.toList ks := ints_each hal fun j v e => by
    obtain ⟨k, x, e1, e2⟩ := hacc.2 j v (by rw [← Array.getElem?_toList]; exact e)
    have e3 : (vs.map (·.1))[j]? = some k := by rw [List.getElem?_map, e1]; rfl
    rw [hkeys, List.getElem?_map] at e3
    cases e4 : ks[j]? with
    | none => rw [e4] at e3; cases e3
    | some y =>
      rw [e4] at e3
      have e5 : Sum.inl y = k := Option.some.inj e3
      subst e5
      rcases keyIs_shape (show keyIs (Sum.inl y) v = true from e2) with ⟨i, t, ek, ev⟩ | ⟨z, t, ek, ev⟩
      · cases ek
        exact ⟨y, t, rfl, ev⟩
      · cases ek
  have I1 : Inv X pins σ H { s with heap := h', toks := tk } := I.kept hk
  have hvl : acc.toList.length ≤ sizeLine := by rw [hal]; omega
  refine wpAny_bind (wpAny_newList ?_ hvl)
  have hoL : (h'.push (PyProof.Rows.seqObj "list" acc.toList.toArray 0)).get? h'.objs.size = some (PyProof.Rows.seqObj "list" acc.toList.toArray 0) := Heap.get?_push_size _ rfl
  show wpAny _ _ _ _ _ { s with heap := h'.push (PyProof.Rows.seqObj "list" acc.toList.toArray 0), toks := tk }
  refine wpAny_bind (wpAny_holding (wpAny_call_entry PyProof.Rows.slot_list_sort ⟨_, hoL, rfl⟩ PyProof.Rows.entry_list_sort
    (SrtO.list_sort_ord (s := { s with heap := h'.push (PyProof.Rows.seqObj "list" acc.toList.toArray 0), toks := tk }) SrtO.swo_int hoL hvl (fun h2 => SrtO.ints_sortable hS h2) fun out hs hb => ⟨_, rfl, ?_⟩) (PyProof.Rows.args_list_sort _)))
  obtain ⟨g1, g2, g3⟩ := SrtO.ints_out hS hs hb
  obtain ⟨e', he'⟩ := PyProof.Rows.sortedHeap_at (vs := acc.toList) (out := out.toArray) hoL
  have eo : out.map SrtO.iv = srtB ltI ks := srt_is tot_int (g3.imp fun {x y} h => decide_eq_false (by omega)) g2
  have hlen : ((srtB ltI ks).map V.int).length ≤ sizeLine := by
    rw [List.length_map, ← eo, g2.length_eq]
    omega
  have hd0 : H h'.objs.size = none := I1.hok.fresh (Nat.le_refl _)
  refine wpAny_pure ⟨_, rfl, .ref h'.objs.size, upd H h'.objs.size (.lst ((srtB ltI ks).map V.int)), I1.laid (t' := tk) (fun b u e => ?_) (Nat.le_refl _) ⟨hlen, out, e', ?_, he'⟩, rfl, hq _ _ ?_⟩
  · have hlt := Heap.lt_size e
    rw [PyProof.Rows.sortedHeap_old (Nat.ne_of_lt hlt) (by rw [PyProof.Rows.size_push']; exact Nat.lt_succ_of_lt hlt)]
    exact Heap.get?_push_of_some _ e
  · rw [← eo]
    exact vals_of_ints g1
  · exact Sim.mkL (n := 0) (kids_scal 0 S) (by simp) hd0
theorem srtOk_tup {xs : List PyData} (h : xs.all isTupN = true) : ∀ d ∈ xs.map id, ∃ x r, d = .tuple (x :: r) := fun d hd => by
  rw [List.map_id] at hd
  have q := List.all_eq_true.mp h d hd
  unfold isTupN at q
  split at q
  · exact ⟨_, _, rfl⟩
  · cases q
theorem srtOk_no {xs : List PyData} (h : xs.all noTup = true) : ∀ d ∈ xs.map id, d ≠ .none ∧ ∀ ys, d ≠ .tuple ys := fun d hd => by
  rw [List.map_id] at hd
  have q := List.all_eq_true.mp h d hd
  constructor
  · rintro rfl; cases q
  · rintro ys rfl; cases q
/-- frozen roots that are met already, once more -/
theorem Sim.dups (S : Sim X.K Z H R) : ∀ {ds : List PyData} {ws : List V}, ds.length = ws.length → (∀ r ∈ kids 0 ds ws, r ∈ R) → Sim X.K Z H (kids 0 ds ws ++ R)
  | [], ws, _, _ => by cases ws <;> exact S
  | d :: ds, [], h, _ => by simp at h
  | d :: ds, w :: ws, h, hm => by
    have S1 := Sim.dups S (ds := ds) (ws := ws) (by simpa using h) fun r hr => hm r (List.mem_cons_of_mem _ hr)
    exact S1.dup (List.mem_append_right _ (hm _ List.mem_cons_self))
theorem each_kids {R0 : List Root} : ∀ {ds : List PyData} {us : List Value}, PySem.W.EachIs (fun (v : Value) (d : PyData) => ∃ w, RelV w v ∧ (⟨0, .d d, w⟩ : Root) ∈ R0) us ds → ∃ ws : List V, ds.length = ws.length ∧ Vals ws us ∧ ∀ r ∈ kids 0 ds ws, r ∈ R0
  | _, _, .nil => ⟨[], rfl, .nil, fun _ h => nomatch h⟩
  | _, _, .cons ⟨w, h1, h2⟩ t => by
    obtain ⟨ws, q1, q2, q3⟩ := each_kids t
    refine ⟨w :: ws, by simp [q1], .cons h1 q2, fun r hr => ?_⟩
    rcases List.mem_cons.mp hr with e | hr
    · rw [e]; exact h2
    · exact q3 r hr
theorem each_of {R0 : List Root} {α : Type} : ∀ {ds : List PyData} {vs : List V} {us : List Value}, ds.length = vs.length → Vals vs us → (∀ r ∈ kids 0 ds vs, r ∈ R0) → PySem.W.EachIs (fun (v : Value) (d : PyData) => ∃ w, RelV w v ∧ (⟨0, .d d, w⟩ : Root) ∈ R0) us ds
  | [], [], _, _, r, _ => by cases r; exact .nil
  | d :: ds, v :: vs, _, h, r, hm => by
    cases r with
    | cons h1 h2 => exact .cons ⟨v, h1, hm _ List.mem_cons_self⟩ (each_of (α := α) (by simpa using h) h2 fun r hr => hm r (List.mem_cons_of_mem _ hr))
  | [], _ :: _, _, h, _, _ => by simp at h
  | _ :: _, [], _, h, _, _ => by simp at h
theorem sort_any {pins : List (Addr × Obj)} {σ : St} {s : Shared} {v : V} {us : List Value} {xs : List PyData} {n : Nat} {Q : VK} (hu : X.A.units + 70 < cLine) (I : Inv X pins σ H s) (rv : Vals [v] us) (S : Sim X.K Z H R) (m : (⟨n, .d (.list xs), v⟩ : Root) ∈ R) (hn : n ≤ 1) (ok : srtOk xs = true)
    (hq : ∀ v H', Sim X.K Z H' (⟨1, .d (.list (srtA xs)), v⟩ :: R) → Q v H') : wpAny (model X.prog X.w) X.A (call (.builtin "sorted") us) (EP X pins σ Q) X.xe s := by
  unfold srtOk at ok
  simp only [Bool.and_eq_true, Bool.or_eq_true, decide_eq_true_eq] at ok
  obtain ⟨⟨⟨ok1, ok2⟩, ok3⟩, ok4⟩ := ok
  obtain ⟨a, vs, rfl, h1, hl, S2⟩ := S.openL m hn
  obtain ⟨its, rv2, pl, hz⟩ := I.list (.of h1)
  have eu := Vals.ref1 rv
  subst eu
  have e0 : PySem.W.EachIs (fun (v : Value) (d : PyData) => ∃ w, RelV w v ∧ (⟨0, .d d, w⟩ : Root) ∈ kids 0 xs vs ++ R) its xs := each_of (α := Unit) hl rv2 fun r hr => List.mem_append_left _ hr
  have er : PySem.W.EachIs (fun (v : Value) (d : PyData) => ∃ as, Reads s.heap v (id d) as) its xs := (PySem.W.each_mem e0).mono fun u d ⟨⟨w, q1, q2⟩, hd⟩ => by
    have sh := List.all_eq_true.mp ok3 d hd
    exact Dp.reads I d w u (S2.dp q2 sh) q1
  refine PySem.W.sorted_data (enc := id) (bs := xs) (pl.isList) e0 er (fun d hd d' hd' => ?_) ?_ (by rw [sizeLine_eq]; unfold big at ok4; omega) (fun d hd => ?_) fun out hlen eo => ?_
  · rw [List.map_id] at hd hd'
    exact List.all_eq_true.mp (List.all_eq_true.mp ok1 d hd) d' hd'
  · rcases ok2 with q | q
    · exact .inl (srtOk_tup q)
    · exact .inr (srtOk_no q)
  · have := SeqAt.depth_of_shaped (List.all_eq_true.mp ok3 d hd)
    show X.A.units + 2 + d.depth < cLine
    omega
  · obtain ⟨ws, q1, q2, q3⟩ := each_kids eo
    obtain ⟨ep, he'⟩ := PyProof.Rows.sortedAll_at s.heap its out.toArray
    have hlw : ws.length ≤ sizeLine := by
      rw [← q1, List.length_mergeSort, sizeLine_eq]; unfold big at ok4; omega
    have hd0 : H (s.heap.objs.size + 1) = none := I.hok.fresh (Nat.le_succ _)
    refine ⟨.ref _, upd H (s.heap.objs.size + 1) (.lst ws), I.laid (t' := s.toks) (fun _ _ => PyProof.Rows.sortedAll_old) (Nat.le_succ _) ⟨hlw, out, ep, q2, he'⟩, rfl, hq _ _ ?_⟩
    have S3 := Sim.dups S2 q1 q3
    have S4 : Sim X.K Z H (kids 0 (srtA xs) ws ++ R) := S3.sub (List.Sublist.append_left (List.sublist_append_right _ _) _)
    exact Sim.mkL (n := 0) S4 q1 hd0
theorem srtA_ints (is : List Int) : srtA (is.map .int) = (srtB ltI is).map .int := by
  have h1 : (srtA (is.map .int)).Perm (is.map .int) := List.mergeSort_perm _ _
  have le : PySem.W.dataLe false (id : PyData → PyData) = fun a b => !PySem.W.dataLt b a := rfl
  have lei : ∀ i j : Int, PySem.W.dataLe false (id : PyData → PyData) (.int i) (.int j) = decide (i ≤ j) := fun i j => by
    have := congrFun (congrFun (PySem.W.dataLe_int (β := Int) id) i) j
    exact this
  obtain ⟨ks, hk, he⟩ : ∃ ks : List Int, srtA (is.map .int) = ks.map .int ∧ ks.Perm is := by
    have hm : ∀ x ∈ srtA (is.map .int), ∃ i : Int, x = .int i := fun x hx => by
      obtain ⟨i, _, e⟩ := List.mem_map.mp (h1.mem_iff.mp hx)
      exact ⟨i, e.symm⟩
    have key : ∀ l : List PyData, (∀ x ∈ l, ∃ i : Int, x = .int i) → ∃ ks : List Int, l = ks.map .int := by
      intro l
      induction l with
      | nil => intro _; exact ⟨[], rfl⟩
      | cons x l ih =>
        intro h
        obtain ⟨i, rfl⟩ := h x List.mem_cons_self
        obtain ⟨ks, rfl⟩ := ih fun y hy => h y (List.mem_cons_of_mem _ hy)
        exact ⟨i :: ks, rfl⟩
    obtain ⟨ks, hk⟩ := key _ hm
    refine ⟨ks, hk, ?_⟩
    rw [hk] at h1
    have := h1.map (fun x => match x with | .int i => i | _ => (0 : Int))
    simpa [List.map_map, Function.comp_def] using this
  have hs : (srtA (is.map .int)).Pairwise fun a b => PySem.W.dataLe false (id : PyData → PyData) a b = true := by
    have hp : ((is.map (fun i => (i : Int))).mergeSort (fun a b => decide (a ≤ b))).Pairwise fun a b => decide (a ≤ b) = true := List.pairwise_mergeSort (fun a b c h1 h2 => by simp at *; omega) (fun a b => by simp; omega) _
    have e : srtA (is.map .int) = ((is.map fun i => i).mergeSort (fun a b => decide (a ≤ b))).map .int := by
      unfold srtA
      rw [List.map_mergeSort (s := PySem.W.dataLe false (id : PyData → PyData)) (fun a _ b _ => (lei a b).symm)]
      simp
    rw [e]
    exact List.pairwise_map.mpr (hp.imp fun {a b} h => by rw [lei]; exact h)
  rw [hk] at hs ⊢
  have e2 : ks = srtB ltI is := srt_is tot_int ((List.pairwise_map.mp hs).imp fun {a b} h => by
    rw [lei] at h
    have := of_decide_eq_true h
    exact decide_eq_false (by omega)) he
  rw [e2]
theorem sort_tup {pins : List (Addr × Obj)} {σ : St} {s : Shared} {v : V} {us : List Value} {xs : List PyData} {n : Nat} {Q : VK} (hu : X.A.units + 70 < cLine) (I : Inv X pins σ H s) (rv : Vals [v] us) (S : Sim X.K Z H R) (m : (⟨n, .d (.tuple xs), v⟩ : Root) ∈ R) (hn : n ≤ 1) (ok : srtOk xs = true)
    (hq : ∀ v H', Sim X.K Z H' (⟨1, .d (.list (srtA xs)), v⟩ :: R) → Q v H') : wpAny (model X.prog X.w) X.A (call (.builtin "sorted") us) (EP X pins σ Q) X.xe s := by
  unfold srtOk at ok
  simp only [Bool.and_eq_true, Bool.or_eq_true, decide_eq_true_eq] at ok
  obtain ⟨⟨⟨ok1, ok2⟩, ok3⟩, ok4⟩ := ok
  obtain ⟨a, vs, rfl, h1, hl, S2⟩ := S.openT m hn
  obtain ⟨its, rv2, ⟨ob, ho, hc, nn0, hd⟩, hz⟩ := I.tuple h1
  have eu := Vals.ref1 rv
  subst eu
  have hvl : its.length ≤ sizeLine := by rw [← rv2.length]; exact hz
  have e0 : PySem.W.EachIs (fun (v : Value) (d : PyData) => ∃ w, RelV w v ∧ (⟨0, .d d, w⟩ : Root) ∈ kids 0 xs vs ++ R) its xs := each_of (α := Unit) hl rv2 fun r hr => List.mem_append_left _ hr
  have er : PySem.W.EachIs (fun (v : Value) (d : PyData) => ∃ as, Reads s.heap v d as) its xs := (PySem.W.each_mem e0).mono fun u d ⟨⟨w, q1, q2⟩, hd⟩ => by
    have sh := List.all_eq_true.mp ok3 d hd
    exact Dp.reads I d w u (S2.dp q2 sh) q1
  have hal : PySem.W.AllAlike xs := fun d hd d' hd' => List.all_eq_true.mp (List.all_eq_true.mp ok1 d hd) d' hd'
  have hso : PySem.W.Sortable xs := by
    rcases ok2 with q | q
    · exact .inl fun d hd => srtOk_tup q d (by rw [List.map_id]; exact hd)
    · exact .inr fun d hd => srtOk_no q d (by rw [List.map_id]; exact hd)
  refine Calls.call_function_entry PyProof.Rows.kind_sorted PyProof.Rows.plain_sorted PyProof.Rows.entry_sorted (PyProof.Rows.args_sorted1 _) ?_
  unfold Builtin.«sorted»
  refine wpAny_bind (m := checkCount "sorted" 1 1 _) (wpAny_pure ?_)
  refine wpAny_bind (wpAny_collect_seq a (.inr rfl) ho hc hd (fun h' keep => ?_) (by simpa using hvl))
  refine wpAny_bind (wpAny_newList ?_ (by simpa using hvl))
  have el : its.toArray.toList = its := by simp
  rw [el]
  have hoL : (h'.push (PyProof.Rows.seqObj "list" its.toArray 0)).get? h'.objs.size = some (PyProof.Rows.seqObj "list" its.toArray 0) := Heap.get?_push_size _ rfl
  show wpAny _ _ _ _ _ { s with heap := h'.push (PyProof.Rows.seqObj "list" its.toArray 0) }
  have er2 : PySem.W.EachIs (fun (v : Value) (d : PyData) => ∃ as, Reads (PySem.W.sortingHeap (h'.push (PyProof.Rows.seqObj "list" its.toArray 0)) h'.objs.size its) v d as) its xs := er.mono fun _ _ ⟨as, r⟩ => ⟨as, PyProof.Rows.Reads.keeps (fun b o e => by
    have e1 := keep b o e
    exact PySem.W.sortingHeap_old (Nat.ne_of_lt (Heap.lt_size e1)) (Heap.get?_push_of_some _ e1)) r⟩
  have hu2 : ∀ d, d ∈ xs → X.A.in1.in1.units + d.depth < cLine := fun d hd => by
    have := SeqAt.depth_of_shaped (List.all_eq_true.mp ok3 d hd)
    show X.A.units + 2 + d.depth < cLine
    omega
  have ss := PySem.W.SortsAt.data (prog := X.prog) (w := X.w) (A := X.A.in1.in1) (s := { s with heap := PySem.W.sortingHeap (h'.push (PyProof.Rows.seqObj "list" its.toArray 0)) h'.objs.size its }) er2 hal hso hu2
  refine wpAny_bind (wpAny_holding (wpAny_call_entry PyProof.Rows.slot_list_sort ⟨_, hoL, rfl⟩ PyProof.Rows.entry_list_sort (PySem.W.list_sort_vals (s := { s with heap := h'.push (PyProof.Rows.seqObj "list" its.toArray 0) }) hoL ss hvl ⟨_, rfl, ?_⟩) (PyProof.Rows.args_list_sort _)))
  have eo := PySem.W.sortVals_data (h' := PySem.W.sortingHeap (h'.push (PyProof.Rows.seqObj "list" its.toArray 0)) h'.objs.size its) (enc := id) (bs := xs) false e0 er2 (by rw [List.map_id]; exact hal)
  rw [List.map_id] at eo
  obtain ⟨ws, q1, q2, q3⟩ := each_kids eo
  obtain ⟨ep, he'⟩ := PyProof.Rows.sortedHeap_at (vs := its) (out := (PySem.W.sortVals (PySem.W.dataKind (PySem.W.sortingHeap (h'.push (PyProof.Rows.seqObj "list" its.toArray 0)) h'.objs.size its) xs) false its its).toArray) hoL
  have hlw : ws.length ≤ sizeLine := by
    rw [← q1, List.length_mergeSort, sizeLine_eq]; unfold big at ok4; omega
  have I1 : Inv X pins σ H { s with heap := h' } := I.kept (t' := s.toks) keep
  have hd0 : H h'.objs.size = none := I1.hok.fresh (Nat.le_refl _)
  refine wpAny_pure ⟨_, rfl, .ref h'.objs.size, upd H h'.objs.size (.lst ws), I1.laid (t' := s.toks) (fun b u e => ?_) (Nat.le_refl _) ⟨hlw, _, ep, q2, he'⟩, rfl, hq _ _ ?_⟩
  · have hlt := Heap.lt_size e
    rw [PyProof.Rows.sortedHeap_old (Nat.ne_of_lt hlt) (by rw [PyProof.Rows.size_push']; exact Nat.lt_succ_of_lt hlt)]
    exact Heap.get?_push_of_some _ e
  · have S3 := Sim.dups S2 q1 q3
    have S4 : Sim X.K Z H (kids 0 (srtA xs) ws ++ R) := S3.sub (List.Sublist.append_left (List.sublist_append_right _ _) _)
    exact Sim.mkL (n := 0) S4 q1 hd0
theorem cd_sorted (hc : X.calm = true) (hu : X.A.units + 70 < cLine) : CallD X Z (.builtin "sorted") (oneD sortP) 1 1 := cd_one fun pins s σ H v us Q p r R n I rv S m hn hg hq => by
  unfold sortP at hg
  split at hg
  · rename_i xs
    split at hg
    · rename_i is q
      cases hg
      obtain ⟨a, vs, G, rfl, h1, h2⟩ := S.listOf m
      rw [getIs_eq q] at h2
      refine cr_sortedI pins s σ H _ us Q I rv ⟨a, is, rfl, .of (by rw [h1, h2.ints]), fun ns' b pm pw hb => hq _ _ ?_⟩
      have e : ns' = srtB ltI is := srt_is tot_int (pw.imp fun {x y} h => decide_eq_false (by omega)) pm
      rw [← e]
      exact Sim.mkL (n := 0) (kids_scal 0 S) (by simp) hb
    · rename_i q0
      split at hg
      · rename_i ps q
        cases hg
        have ex := getPs_eq q
        subst ex
        obtain ⟨a, vs, rfl, h1, hl, S2⟩ := S.openL m hn
        obtain ⟨a', vs', G, e, h1', h2⟩ := S.listOf m
        cases e
        rw [h1] at h1'
        cases h1'
        obtain ⟨its, rv2, pl, hz⟩ := I.list (.of h1)
        have eu := Vals.ref1 rv
        subst eu
        obtain ⟨q1, q2, q3⟩ := pairs_items I h2 rv2
        obtain ⟨e1, e2⟩ := refs_back rv2 q2
        refine SrtO.sorted_pairsO (k := pairAt s.heap) pl.isList (by rw [← rv2.length]; exact hz) q3 fun h' d out s1 s2 keep hd ⟨nn, hn2⟩ => ?_
        have refs : ∀ u ∈ out, ∃ a, u = Value.ref a := fun u hu => e2 u (s2.perm.mem_iff.mp hu)
        have es : out.map (pairAt s.heap) = srtB SrtO.lexB ps := by
          refine srt_is tot_pair (List.pairwise_map.mpr s1) ?_
          rw [← q1]
          exact s2.perm.map _
        have el : (out.map backV).length = vs.length := by rw [e1, List.length_map, List.length_map, s2.perm.length_eq]
        refine ⟨.ref d, upd H d (.lst (out.map backV)), I.laid (t' := s.toks) keep hd ⟨by rw [el]; exact hz, out, nn, vals_back refs, hn2⟩, rfl, hq _ _ ?_⟩
        have hd0 : H d = none := I.hok.fresh hd
        refine Sim.mkL (n := 0) (S2.perm (List.Perm.append_right R ?_)) ?_ hd0
        · rw [← es, List.map_map, kids_perm]
          have ep : ps.map pairD = its.map (pairD ∘ pairAt s.heap) := by rw [← q1, List.map_map]
          rw [ep, e1, kids_perm]
          exact s2.perm.symm.map _
        · rw [← es]; simp
      · split at hg
        · cases hg
          exact sort_any hu I rv S m hn (by assumption) hq
        · cases hg
  · split at hg
    · cases hg
      exact sort_tup hu I rv S m hn (by assumption) hq
    · cases hg
  · rename_i qs
    obtain ⟨a, vs, rfl, h1, hl⟩ := S.seeD m
    have eu := Vals.ref1 rv
    subst eu
    split at hg
    · rename_i is q
      cases hg
      have ei := getIs_eq q
      rcases h1 with ⟨kvs, g1, g2, g3⟩ | ⟨kvs, g1, g2, g3⟩
      · exact sort_dK hc I S g1 (g2.symm.trans ei) hq
      · have e0 : kvs = [] ∧ is = [] := by
          have e2 := g2.symm.trans ei
          cases kvs with
          | nil => cases is with
            | nil => exact ⟨rfl, rfl⟩
            | cons i is => simp at e2
          | cons k kvs => cases is with
            | nil => simp at e2
            | cons i is => simp at e2
        obtain ⟨rfl, rfl⟩ := e0
        exact sort_dT (ps := []) hc I S g1 rfl hq
    · rename_i q0
      cases q : getPs (qs.map (·.1)) with
      | none => rw [q] at hg; cases hg
      | some ps =>
        rw [q] at hg
        cases hg
        have ep := getPs_eq q
        rcases h1 with ⟨kvs, g1, g2, g3⟩ | ⟨kvs, g1, g2, g3⟩
        · have e0 : kvs = [] ∧ ps = [] := by
            have e2 := g2.symm.trans ep
            cases kvs with
            | nil => cases ps with
              | nil => exact ⟨rfl, rfl⟩
              | cons i is => simp at e2
            | cons k kvs => cases ps with
              | nil => simp at e2
              | cons i is =>
                simp only [List.map_cons, List.cons.injEq] at e2
                have e3 := e2.1
                cases k with
                | mk k v => cases k <;> simp [keyD, pairD] at e3
          obtain ⟨rfl, rfl⟩ := e0
          exact sort_dK (ks := []) hc I S g1 rfl hq
        · exact sort_dT hc I S g1 (g2.symm.trans ep) hq
  · cases hg
end
end Lk
namespace Lk
open PySem PySem.Spec L2
section
variable {X : Cx} {Z : ClT} {W : WX} {P : List (Nat × Nat)} {kr : Nat} {φ φ1 φ2 φ3 φ' : List Nat} {ψ ψ1 ψ2 : SF} {t ta tb tc to : Tm} {ts ts2 : List Tm} {fa fb fc fo : M DV} {f f2 : M (List DV)} {g1 g2 : M Fl} {a b c e o tg : Expr} {es : List Expr} {st : Stmt} {sts : List Stmt} {pos pos' p px ap : Pos} {x : Str} {k n m cap j : Nat} {ps : List Str} {ms : List Md} {F : List DV → Res}
theorem gv (i : Nat) (hN : X.N[i]? = some x := by rfl) (hv : Vis X.env.scope x := by first | exact Or.inl rfl | exact Or.inr (Or.inl rfl) | exact Or.inr (Or.inr rfl)) (hd : (x == ("__debug__" : Str)) = false := by decide) (hcd : (x == ("__classdict__" : Str)) = false := by decide) : JE X Z W φ (.Name x pos) φ (.sl i) (slotM i) := je_var hN hv hd hcd
theorem ge (i : Nat) (hN : X.N[i]? = some x := by rfl) (hv : Vis X.env.scope x := by first | exact Or.inl rfl | exact Or.inr (Or.inl rfl) | exact Or.inr (Or.inr rfl)) (hd : (x == ("__debug__" : Str)) = false := by decide) (hcd : (x == ("__classdict__" : Str)) = false := by decide) : JE X Z W φ (.Name x pos) (φ.modify i (min 0)) (.v 0) (slotM i) := je_varE hN hv hd hcd
theorem gi {i : Int} {q : Nat} : JE X Z W φ (.Constant (.int i) q pos) φ (.v 9) (M.pure (.d (.int i))) := je_const pe_int fun _ => .d (.int i)
theorem gs {i : Str} {q : Nat} : JE X Z W φ (.Constant (.str i) q pos) φ (.v 9) (M.pure (.d (.str i))) := je_const pe_str fun _ => .d (.str i)
theorem gb {i : Bool} {q : Nat} : JE X Z W φ (.Constant (.bool i) q pos) φ (.v 9) (M.pure (.d (.bool i))) := je_const pe_bl fun _ => .d (.bl i)
theorem gn {q : Nat} : JE X Z W φ (.Constant .none q pos) φ (.v 9) (M.pure (.d .none)) := je_const pe_non fun _ => .d .non
theorem gGi {i : Int} {u : Tok} (hm : X.mg x = some (.int i u)) (hg : Gl X x := by rfl) (hd : (x == ("__debug__" : Str)) = false := by decide) : JE X Z W φ (.Name x pos) φ (.v 9) (M.pure (.d (.int i))) := je_const (pe_glob (v := .int i) hg hm ⟨_, rfl⟩ hd) fun _ => .d (.int i)
theorem gGs {i : Str} {u : Tok} (hm : X.mg x = some (.str i u)) (hg : Gl X x := by rfl) (hd : (x == ("__debug__" : Str)) = false := by decide) : JE X Z W φ (.Name x pos) φ (.v 9) (M.pure (.d (.str i))) := je_const (pe_glob (v := .str i) hg hm ⟨_, rfl⟩ hd) fun _ => .d (.str i)
theorem gDict0 : JE X Z W φ (.Dict [] [] pos) φ (.v 9) (M.pure (.d (.dict []))) := pe_imp pe_dnewK fun σ H Q ⟨L, env, S, h⟩ => fun p hp => h _ _ ⟨S.sim.mkD (n := 8) hp, S.al, fun x hx => by
  rw [List.mem_singleton.mp hx]; trivial⟩
def negP : PyData → Option PyData
  | .int i => some (.int (-i))
  | _ => none
def un1 (g : DV → Option DV) (ta : Tm) (fa : M DV) : M DV := fun env => (fa env).bind fun d e => .ofO ((ta.now d e).bind g) e
theorem gNeg (ha : JE X Z W φ a φ1 ta fa) : JE X Z W φ (.UnaryOp .USub a pos) φ1 (.v 9) (un1 (lift1 negP) ta fa) := by
  refine pe_imp (pe_un un_neg ha) fun σ H Q ⟨L, env, S, h⟩ => ?_
  refine rdE.go S (h.bind.mono fun d e1 h1 v H1 S1 => ?_)
  obtain ⟨r, q, h2⟩ := h1.ofO
  obtain ⟨y, q1, q2⟩ := Option.bind_eq_some_iff.mp q
  cases y with
  | d y =>
    cases y with
    | int i =>
      cases q2
      exact ⟨i, S1.isI (h := ⟨ta, d, v⟩) List.mem_cons_self q1, h2 _ _ ⟨S1.free.sim.cint, S1.al, fun z hz => by rw [List.mem_singleton.mp hz]; trivial⟩⟩
    | _ => cases q2
  | _ => cases q2
theorem gCmp {op : CmpOp} {g : DV → DV → Option DV} (ho : OpD X Z (compareOp op) g cap k) (ha : JE X Z W φ a φ1 ta fa) (hb : JE X Z W φ1 b φ2 tb fb) (hm : behindInMarks op b = false := by rfl) :
    JE X Z W φ (.Compare a [op] [b] pos) (cap2 cap ta tb φ2) (.v k) (op2 g ta tb fa fb) := je_cmp ho hm ha hb
theorem gCmpT {op : CmpOp} {g : DV → DV → Option DV} (ho : OpD X Z (compareOp op) g cap k) (ha : JE X Z W φ a φ1 ta fa) (hb : JE X Z W φ1 b φ2 tb fb) (hm : behindInMarks op b = false := by rfl) :
    JT X Z W φ (.Compare a [op] [b] pos) (cap2 cap ta tb φ2) (asB (.v k) (op2 g ta tb fa fb)) := jt_cmp ho hm ha hb
theorem gChain {op op' : CmpOp} {g g' : DV → DV → Option DV} {k' : Nat} (ho : OpD X Z (compareOp op) g 9 k) (ho' : OpD X Z (compareOp op') g' 9 k') (ha : JE X Z W φ a φ1 ta fa) (hb : JE X Z W φ1 b φ2 tb fb) (hc : JE X Z W (cap2 9 ta tb φ2) c φ3 tc fc)
    (hm : lastMarks [op, op'] [b, c] = false := by rfl) (hl : leN φ' (cap2 9 ta tb φ2) = true := by rfl) (hl3 : leN φ' (cap2 9 tb tc φ3) = true := by rfl) : JE X Z W φ (.Compare a [op, op'] [b, c] pos) φ' (.v 9) (chM g g' ta tb tc fa fb fc) := je_chain ho ho' hm ha hb hc hl hl3
theorem gChainT {op op' : CmpOp} {g g' : DV → DV → Option DV} {k' : Nat} (ho : OpD X Z (compareOp op) g 9 k) (ho' : OpD X Z (compareOp op') g' 9 k') (ha : JE X Z W φ a φ1 ta fa) (hb : JE X Z W φ1 b φ2 tb fb) (hc : JE X Z W (cap2 9 ta tb φ2) c φ3 tc fc)
    (hm : lastMarks [op, op'] [b, c] = false := by rfl) (hl : leN φ' (cap2 9 ta tb φ2) = true := by rfl) (hl3 : leN φ' (cap2 9 tb tc φ3) = true := by rfl) : JT X Z W φ (.Compare a [op, op'] [b, c] pos) φ' (asB (.v 9) (chM g g' ta tb tc fa fb fc)) := jt_chain ho ho' hm ha hb hc hl hl3
theorem gTru (ha : JE X Z W φ a φ1 ta fa) (hp : plainTest a = true := by rfl) : JT X Z W φ a φ1 (truM ta fa) := jt_truth ha hp
theorem gAnd {f g : M Bool} {rest : List Expr} (ha : JT X Z W φ a φ1 f) (hb : JW X Z W φ1 (.BoolOp .And (b :: rest) pos) φ2 g) (hl : leN φ2 φ1 = true := by rfl) : JW X Z W φ (.BoolOp .And (a :: b :: rest) pos) φ2 (andM f g) := jw_and ha hb hl
theorem gOr {f g : M Bool} {rest : List Expr} (ha : JT X Z W φ a φ1 f) (hb : JW X Z W φ1 (.BoolOp .Or (b :: rest) pos) φ2 g) (hl : leN φ2 φ1 = true := by rfl) : JW X Z W φ (.BoolOp .Or (a :: b :: rest) pos) φ2 (orM f g) := jw_or ha hb hl
theorem gAndV {rest : List Expr} {k : Nat} (ha : JE X Z W φ a φ1 ta fa) (hb : JE X Z W φ1 (.BoolOp .And (b :: rest) pos) φ2 (.v k) fb) (hl : leN φ2 φ1 = true := by rfl) : JE X Z W φ (.BoolOp .And (a :: b :: rest) pos) φ2 (.v k) (andV ta fa fb) := je_and ha hb hl
theorem gOrV {rest : List Expr} {k : Nat} (ha : JE X Z W φ a φ1 ta fa) (hb : JE X Z W φ1 (.BoolOp .Or (b :: rest) pos) φ2 (.v k) fb) (hl : leN φ2 φ1 = true := by rfl) : JE X Z W φ (.BoolOp .Or (a :: b :: rest) pos) φ2 (.v k) (orV ta fa fb) := je_or ha hb hl
theorem gIf {ft : M Bool} {ka kb : Nat} (φ' : List Nat) (k : Nat) (hc : JT X Z W φ c φ1 ft) (ha : JE X Z W φ1 a φ2 (.v ka) fa) (hb : JE X Z W φ1 b φ3 (.v kb) fb) (h2 : leN φ' φ2 = true := by rfl) (h3 : leN φ' φ3 = true := by rfl) (k2 : k ≤ ka := by decide) (k3 : k ≤ kb := by decide) :
    JE X Z W φ (.IfExp c a b pos) φ' (.v k) (ifM ft fa fb) := je_if hc ha hb h2 h3 k2 k3
theorem gCons (ha : JE X Z W φ a φ1 t fa) (h : JA X Z W φ1 es φ2 ts f) (hs : noStar a = true := by rfl) : JA X Z W φ (a :: es) φ2 (t :: ts) (consM fa f) := ja_cons hs ha h
theorem gLst (m : Nat) (ha : JA X Z W φ es φ' ts f) (hm : allV m ts = true := by rfl) : JE X Z W φ (.List es pos) φ' (.v (m + 1)) (dispM .list f) := je_lst ha hm
theorem gTup (m : Nat) (ha : JA X Z W φ es φ' ts f) (hm : allV m ts = true := by rfl) : JE X Z W φ (.Tuple es n pos) φ' (.v (m + 1)) (dispM .tuple f) := je_tup ha hm
theorem gCallB {id : String} {g : List DV → Option DV} (hc : CallD X Z (.builtin id) g cap k) (hm : X.mg x = none) (ha : JA X Z W φ (a :: es) φ2 ts f) (hg : Gl X x := by rfl) (hv : bootBuiltins x = some (.builtin id) := by rfl) (hn : x ≠ "__name__" := by decide) (hdb : (x == ("__debug__" : Str)) = false := by decide)
    (hs : noStar a = true := by rfl) (hpl : es.all noStar = true := by rfl) : JE X Z W φ (.Call (.Name x p) (a :: es) [] pos) (capS cap (slotsOf ts) φ2) (.v k) (callM g ts f) := je_callB hc hg hm hv hn hdb hs hpl ha
theorem gCallT {T : String} {g : List DV → Option DV} (hc : CallD X Z (.type T) g cap k) (hm : X.mg x = none) (ha : JA X Z W φ (a :: es) φ2 ts f) (hg : Gl X x := by rfl) (hv : bootBuiltins x = some (.type T) := by rfl) (hn : x ≠ "__name__" := by decide) (hdb : (x == ("__debug__" : Str)) = false := by decide)
    (hs : noStar a = true := by rfl) (hpl : es.all noStar = true := by rfl) : JE X Z W φ (.Call (.Name x p) (a :: es) [] pos) (capS cap (slotsOf ts) φ2) (.v k) (callM g ts f) := je_callTy hc hg hm hv hn hdb hs hpl ha
theorem gCall {k0 : Nat} (G : Has X.prog X.w X.K X.mg X.base j x ps Z ms kr F) (hr : Room k0 X.A) (hgd : X.A.guards = some []) (tk : Takes X W) (ha : JA X Z W φ (a :: es) φ2 ts f) (hj : j ≤ k0 := by first | decide | omega) (hg : Gl X x := by rfl)
    (hdb : (x == ("__debug__" : Str)) = false := by decide) (hs : noStar a = true := by rfl) (hpl : es.all noStar = true := by rfl) (hf : fitM ms ts φ2 = true := by rfl) : JE X Z W φ (.Call (.Name x p) (a :: es) [] pos) (flM ms ts φ2) (.v kr) (callF F ms ts f) := je_callH G hj hr hgd hg tk hdb hs hpl ha hf
theorem gIx {g : DV → DV → Option DV} (ho : OpIx X Z g cap k) (ha : JE X Z W φ a φ1 ta fa) (hb : JE X Z W φ1 b φ2 tb fb) (hs : noSlice b = true := by rfl) : JE X Z W φ (.Subscript a b pos) (cap2 cap ta tb φ2) (.v k) (op2 g ta tb fa fb) := je_ix ho ha hb hs
theorem gStore {ei : Expr} {ti : Tm} {fv fi : M DV} {pos2 : Pos} (j n : Nat) (hu : X.A.units + 64 < cLine) (he : JE X Z W φ e φ1 (.v k) fv) (hi : JE X Z W φ1 ei φ2 ti fi) (hn : φ2[j]? = some (n + 1) := by rfl) (hN : X.N[j]? = some x := by rfl) (hv : Vis X.env.scope x := by first | exact Or.inl rfl | exact Or.inr (Or.inl rfl) | exact Or.inr (Or.inr rfl))
    (hdb : (x == ("__debug__" : Str)) = false := by decide) (hcd : (x == ("__classdict__" : Str)) = false := by decide)
    (hs : swapsWithSole [.Subscript (.Name x px) ei pos2] e pos.line X.env = pure false := by rfl) (hw : swappedStores [.Subscript (.Name x px) ei pos2] e X.env = pure none := by rfl) (h1 : (assignEach [.Subscript (.Name x px) ei pos2] X.env).map (·.2) = [assign (.Subscript (.Name x px) ei pos2) X.env] := by rfl)
    (hsu : ∀ v, assign (.Subscript (.Name x px) ei pos2) X.env v = (do
      let ov ← holding [v] (eval (.Name x px) X.env)
      let iv ← holding [v, ov] (eval ei X.env)
      standAt pos2
      holding [v, ov, iv] (setItem ov iv v)
      release [v, ov, iv] []) := by intro _; rfl) (hψ : ψ.n = φ2.set j (min n k + 1) := by rfl) :
    JS X Z W P kr φ (.Assign [.Subscript (.Name x px) ei pos2] e pos) ψ (stM j fv ti fi) := js_store (m := min n k) hu hN hv hdb hcd he hi hn rfl hs hw h1 hsu hψ
theorem gSet (i : Nat) (hN : X.N.Nodup) (he : JE X Z W φ e φ1 (.v k) fa) (hi : X.N[i]? = some x := by rfl) (hx : Loc X.env.scope x := by first | exact Or.inl rfl | exact Or.inr rfl) (hf : X.fn x = true ∨ X.env.scope.names.lookup x = some .local := by exact Or.inl rfl)
    (hs : swapsWith e (some (.Name x pos')) pos.line X.env = pure false := by rfl) (hP : P.all (fun p => p.1 != i) = true := by rfl) (hn : ψ.n = φ1.set i k := by rfl) : JS X Z W P kr φ (.Assign [.Name x pos'] e pos) ψ (setM i fa) := js_set hN hi hx hf hs he hP hn
theorem gRet (he : JE X Z W φ e φ1 (.v k) fa) (hk : kr ≤ k := by decide) (hr : retOk P φ1 = true := by rfl) (hd : (P.map (·.1)).Nodup := by decide) : JS X Z W P kr φ (.Return (some e) pos) ψ (retM P fa) := js_ret he hk hr hd
theorem gRetV (i n : Nat) (hφ : φ[i]? = some n := by rfl) (hN : X.N[i]? = some x := by rfl) (hv : Vis X.env.scope x := by first | exact Or.inl rfl | exact Or.inr (Or.inl rfl) | exact Or.inr (Or.inr rfl)) (hdb : (x == ("__debug__" : Str)) = false := by decide) (hcd : (x == ("__classdict__" : Str)) = false := by decide)
    (hk : kr ≤ n := by decide) (hr : retOk P φ = true := by rfl) (hd : (P.map (·.1)).Nodup := by decide) (hP : P.all (fun p => p.1 != i) = true := by rfl) : JS X Z W P kr φ (.Return (some (.Name x p)) pos) ψ (retM P (slotM i)) := js_retV hN hv hdb hcd hφ hk hr hd hP
theorem gRetN (hr : retOk P φ = true := by rfl) (hd : (P.map (·.1)).Nodup := by decide) : JS X Z W P kr φ (.Return none pos) ψ (retM P (M.pure (.d .none))) := js_retN hr hd
theorem gSeq {ψ : SF} (ψ1 : SF) (h1 : JS X Z W P kr φ st ψ1 g1) (h2 : JSs X Z W P kr ψ1.n sts ψ g2) (hb : leN ψ.b ψ1.b = true := by rfl) (hc : leN ψ.c ψ1.c = true := by rfl) : JSs X Z W P kr φ (st :: sts) ψ (seqM g1 g2) := jss_cons h1 h2 hb hc
theorem gNil (hn : ψ.n = φ := by rfl) : JSs X Z W P kr φ [] ψ nxM := jss_nil hn
theorem gIfS {s1 s2 : List Stmt} {ft : M Bool} (hc : JT X Z W φ c φ1 ft) (h1 : JSs X Z W P kr φ1 s1 ψ1 g1) (h2 : JSs X Z W P kr φ1 s2 ψ2 g2) (l1 : leF ψ ψ1 = true := by rfl) (l2 : leF ψ ψ2 = true := by rfl) : JS X Z W P kr φ (.If c s1 s2 pos) ψ (ifS ft g1 g2) := js_if hc h1 h2 l1 l2
theorem gExpr (he : JE X Z W φ e φ1 t fa) (hs : swapsWith e none pos.line X.env = pure false := by rfl) (hn : ψ.n = φ1 := by rfl) : JS X Z W P kr φ (.Expr e pos) ψ (dropM fa) := js_expr he hs hn

theorem gIsi {T : String} {xt : Str} {pt : Pos} (hm : X.mg x = none) (mt : X.mg xt = none) (ha : JE X Z W φ a φ1 ta fa) (hT : tyOk T = true := by decide) (hg : Gl X x := by rfl) (hv : bootBuiltins x = some (.builtin "isinstance") := by rfl) (hn : x ≠ "__name__" := by decide) (hdb : (x == ("__debug__" : Str)) = false := by decide)
    (gt : Gl X xt := by rfl) (bt : bootBuiltins xt = some (.type T) := by rfl) (nt : xt ≠ "__name__" := by decide) (dt : (xt == ("__debug__" : Str)) = false := by decide) (hs : noStar a = true := by rfl) :
    JE X Z W φ (.Call (.Name x p) [a, .Name xt pt] [] pos) φ1 (.v 9) (isiM T ta fa) := je_isi hT hg hm hv hn hdb gt mt bt nt dt hs ha
theorem gListRg1 {xr : Str} {pr pos2 : Pos} (hm : X.mg x = none) (mr : X.mg xr = none) (ha : JE X Z W φ a φ1 ta fa) (hc : X.calm = true := by rfl) (ex : x = "list" := by rfl) (er : xr = "range" := by rfl) (hg : Gl X x := by rfl) (gr : Gl X xr := by rfl) (hs : noStar a = true := by rfl) :
    JE X Z W φ (.Call (.Name x p) [.Call (.Name xr pr) [a] [] pos2] [] pos) φ1 (.v 9) (rg1M ta fa) := je_listRg1 hc ex er hg hm gr mr hs ha
theorem gListRg2 {xr : Str} {pr pos2 : Pos} (hm : X.mg x = none) (mr : X.mg xr = none) (ha : JE X Z W φ a φ1 ta fa) (hb : JE X Z W φ1 b φ2 tb fb) (hc : X.calm = true := by rfl) (ex : x = "list" := by rfl) (er : xr = "range" := by rfl) (hg : Gl X x := by rfl) (gr : Gl X xr := by rfl) (hs : noStar a = true := by rfl) (hs2 : noStar b = true := by rfl) :
    JE X Z W φ (.Call (.Name x p) [.Call (.Name xr pr) [a, b] [] pos2] [] pos) φ2 (.v 9) (rg2M ta tb fa fb) := je_listRg2 hc ex er hg hm gr mr hs hs2 ha hb
theorem gSlice {lo hi : Option Expr} {fl fh : M (Option Int)} {p2 : Pos} (ha : JE X Z W φ a φ1 ta fa) (hl : JO X Z W φ1 lo φ2 fl) (hh : JO X Z W φ2 hi φ3 fh) : JE X Z W φ (.Subscript a (.Slice lo hi none p2) pos) (capS 1 (slotsOf [ta]) φ3) (.v 1) (slM ta fa fl fh) := je_slice ha hl hh
theorem gRange1 (hm : X.mg x = none) (ha : JE X Z W φ a φ1 ta fa) (ex : x = "range" := by rfl) (hg : Gl X x := by rfl) (hs : noStar a = true := by rfl) : JI X Z W φ tg (.Call (.Name x p) [a] [] pos) φ1 (rg1I ta fa) := ji_range1 ex hg hm hs ha
theorem gRange2 (hm : X.mg x = none) (ha : JE X Z W φ a φ1 ta fa) (hb : JE X Z W φ1 b φ2 tb fb) (ex : x = "range" := by rfl) (hg : Gl X x := by rfl) (hs : noStar a = true := by rfl) (hs2 : noStar b = true := by rfl) : JI X Z W φ tg (.Call (.Name x p) [a, b] [] pos) φ2 (rg2I ta tb fa fb) := ji_range2 ex hg hm hs hs2 ha hb
theorem gEnum {tpos : Pos} (hm : X.mg x = none) (ha : JE X Z W φ a φ1 (.v k) fa) (ex : x = "enumerate" := by rfl) (hg : Gl X x := by rfl) (hs : noStar a = true := by rfl) : JI X Z W φ (.Tuple es n tpos) (.Call (.Name x p) [a] [] pos) φ1 (fun env => (fa env).bind fun d e => .ofO (enumD d) e) := ji_enum ex hg hm hs ha
theorem gZip {ka kb : Nat} {tpos : Pos} (hm : X.mg x = none) (ha : JE X Z W φ a φ1 (.v ka) fa) (hb : JE X Z W φ1 b φ2 (.v kb) fb) (ex : x = "zip" := by rfl) (hg : Gl X x := by rfl) (hs : noStar a = true := by rfl) (hs2 : noStar b = true := by rfl) : JI X Z W φ (.Tuple es n tpos) (.Call (.Name x p) [a, b] [] pos) φ2 (zipI fa fb) := ji_zip ex hg hm hs hs2 ha hb
theorem gTgN (i : Nat) (hN : X.N.Nodup) (hi : X.N[i]? = some x := by rfl) (hx : Loc X.env.scope x := by first | exact Or.inl rfl | exact Or.inr rfl) (hf : X.fn x = true ∨ X.env.scope.names.lookup x = some .local := by first | exact Or.inl rfl | exact Or.inr rfl) : JG X Z (.Name x pos) (.nm i) := jg_name hN hi hx hf
theorem gN1 (i : Nat) {is : List Nat} (hN : X.N.Nodup) (h : PGs X es (gNames is)) (hi : X.N[i]? = some x := by rfl) (hx : Loc X.env.scope x := by first | exact Or.inl rfl | exact Or.inr rfl) (hf : X.fn x = true ∨ X.env.scope.names.lookup x = some .local := by first | exact Or.inl rfl | exact Or.inr rfl) : PGs X (.Name x pos :: es) (gNames (i :: is)) := pgs_n1 hN hi hx hf h
theorem gTgT {is : List Nat} (h : PGs X es (gNames is)) (hc : X.calm = true := by rfl) (hl : tgLen es = true := by rfl) (hn : es.length = is.length := by rfl) : JG X Z (.Tuple es n pos) (.tp is) := jg_tup hc hl hn h
theorem gAsg {T : Tgt} (he : JE X Z W φ e φ1 (.v k) fa) (hg : JG X Z tg T) (hs : swapsWithSole [tg] e pos.line X.env = pure false := by rfl) (hw : swappedStores [tg] e X.env = pure none := by rfl) (h1 : (assignEach [tg] X.env).map (·.2) = [assign tg X.env] := by rfl)
    (hP : tgFree P T = true := by rfl) (hn : ψ.n = tgF T (min 1 k) φ1 := by rfl) : JS X Z W P kr φ (.Assign [tg] e pos) ψ (asgM T fa) := js_asg he hg hs hw h1 hP hn
theorem gWhile {ft : M Bool} (φL : List Nat) (ψ1 : SF) (hp : PassesOwn (model X.prog X.w) X.A X.env X.xe) (hc : JT X Z W φL c φ1 ft) (hb : JSs X Z W P kr φ1 sts ψ1 g1) (l0 : leN φL φ = true := by rfl) (l1 : leN φL ψ1.n = true := by rfl) (l2 : leN φL ψ1.c = true := by rfl) (l3 : leN ψ.n φ1 = true := by rfl) (l4 : leN ψ.n ψ1.b = true := by rfl) :
    JS X Z W P kr φ (.While c sts [] pos) ψ (whileM ft g1 big) := js_while (φB := []) hp hc hb l0 l1 l2 l3 l4
theorem gFor {T : Tgt} {it : Expr} {fi : M (List DV)} (φL : List Nat) (ψ1 : SF) (hp : PassesOwn (model X.prog X.w) X.A X.env X.xe) (hi : JI X Z W φ tg it φ1 fi) (hg : JG X Z tg T) (hb : JSs X Z W P kr (tgF T 0 φL) sts ψ1 g1) (hc : X.calm = true := by rfl) (hs : ∀ x, foldedSetIterable it X.env x = pure x := by intro _; rfl)
    (hP : tgFree P T = true := by rfl) (l0 : leN φL φ1 = true := by rfl) (l1 : leN φL ψ1.n = true := by rfl) (l2 : leN φL ψ1.c = true := by rfl) (l3 : leN ψ.n φL = true := by rfl) (l4 : leN ψ.n ψ1.b = true := by rfl) :
    JS X Z W P kr φ (.For tg it sts [] pos) ψ (forS T fi g1) := js_for hp hc hi hg hb hs hP l0 l1 l2 l3 l4
theorem gPar {k1 k2 : Nat} {y : Str} {py pt : Pos} {kt q2 pt2} (i j : Nat) (hN : X.N.Nodup) (ha : JA X Z W φ [a, b] φ1 [.v k1, .v k2] f) (hc : X.calm = true := by rfl) (hi : X.N[i]? = some x := by rfl) (hj : X.N[j]? = some y := by rfl) (hij : i ≠ j := by decide)
    (hx : X.env.scope.names.lookup x = some .local := by rfl) (hy : X.env.scope.names.lookup y = some .local := by rfl)
    (hw : swappedStores [.Tuple [.Name x px, .Name y py] kt pt] (.Tuple [a, b] q2 pt2) X.env = pure (some [x, y]) := by rfl)
    (hs : swapsWithSole [.Tuple [.Name x px, .Name y py] kt pt] (.Tuple [a, b] q2 pt2) pos.line X.env = pure false := by rfl)
    (hP : (P.all fun p => p.1 != i && p.1 != j) = true := by rfl) (hψ : ψ.n = (φ1.set i k1).set j k2 := by rfl) :
    JS X Z W P kr φ (.Assign [.Tuple [.Name x px, .Name y py] kt pt] (.Tuple [a, b] q2 pt2) pos) ψ (parM i j f) := js_par hc hN hi hj hij hx hy ha hw hs hP hψ
theorem gPar3 {k1 k2 k3 : Nat} {y z : Str} {py pz pt : Pos} {kt q2 pt2} (i j l : Nat) (hN : X.N.Nodup) (ha : JA X Z W φ [a, b, c] φ1 [.v k1, .v k2, .v k3] f) (hc : X.calm = true := by rfl) (hi : X.N[i]? = some x := by rfl) (hj : X.N[j]? = some y := by rfl) (hl : X.N[l]? = some z := by rfl) (hij : i ≠ j := by decide) (hil : i ≠ l := by decide) (hjl : j ≠ l := by decide)
    (hx : X.env.scope.names.lookup x = some .local := by rfl) (hy : X.env.scope.names.lookup y = some .local := by rfl) (hz : X.env.scope.names.lookup z = some .local := by rfl)
    (hw : swappedStores [.Tuple [.Name x px, .Name y py, .Name z pz] kt pt] (.Tuple [a, b, c] q2 pt2) X.env = pure (some [x, y, z]) := by rfl)
    (hs : swapsWithSole [.Tuple [.Name x px, .Name y py, .Name z pz] kt pt] (.Tuple [a, b, c] q2 pt2) pos.line X.env = pure false := by rfl)
    (hP1 : (P.all fun p => p.1 != i) = true := by rfl) (hP2 : (P.all fun p => p.1 != j) = true := by rfl) (hP3 : (P.all fun p => p.1 != l) = true := by rfl) (hψ : ψ.n = ((φ1.set i k1).set j k2).set l k3 := by rfl) :
    JS X Z W P kr φ (.Assign [.Tuple [.Name x px, .Name y py, .Name z pz] kt pt] (.Tuple [a, b, c] q2 pt2) pos) ψ (par3M i j l f) := js_par3 hc hN hi hj hl hij hil hjl hx hy hz ha hw hs hP1 hP2 hP3 hψ
theorem gMeth {T id : String} {name : Str} {g : DV → List DV → Option DV} (pa : PlainAttrs T) (slot : Slot T name id) (hty : typeOf (.builtin id) = pure (.type "method_descriptor")) (hm : MethD X Z id g cap k) (ho : JE X Z W φ o φ1 to fo) (ha : JA X Z W φ1 (a :: es) φ2 ts f)
    (hT : T ≠ "" := by decide) (hs : noStar a = true := by rfl) (hpl : es.all noStar = true := by rfl) (hlen : es.length < 28 := by decide) (hbase : attributeBase o name X.env (eval o X.env) = eval o X.env := by rfl) (hline : (ap.endLine == pos.line) = true := by rfl) :
    JE X Z W φ (.Call (.Attribute o name ap) (a :: es) [] pos) (capS cap (slotsOf ts ++ [to.slot?]) φ2) (.v k) (mthM T g to fo ts f) := je_meth hT pa slot hty hm ho ha hs hpl hlen hbase hline
theorem gMeth0 {T id : String} {name : Str} {g : DV → List DV → Option DV} (pa : PlainAttrs T) (slot : Slot T name id) (hty : typeOf (.builtin id) = pure (.type "method_descriptor")) (hm : MethD X Z id g cap k) (ho : JE X Z W φ o φ1 to fo)
    (hT : T ≠ "" := by decide) (hbase : attributeBase o name X.env (eval o X.env) = eval o X.env := by rfl) (hline : (ap.endLine == pos.line) = true := by rfl) :
    JE X Z W φ (.Call (.Attribute o name ap) [] [] pos) (capS cap [to.slot?] φ1) (.v k) (mthM T g to fo [] (M.pure [])) := je_meth0 hT pa slot hty hm ho hbase hline
theorem gAppend (j n : Nat) (ha : JE X Z W φ a φ1 (.v k) fa) (hn : φ1[j]? = some (n + 1) := by rfl) (hN : X.N[j]? = some x := by rfl) (hv : Vis X.env.scope x := by first | exact Or.inl rfl | exact Or.inr (Or.inl rfl) | exact Or.inr (Or.inr rfl)) (hdb : (x == ("__debug__" : Str)) = false := by decide) (hcd : (x == ("__classdict__" : Str)) = false := by decide)
    (hs : noStar a = true := by rfl) (hbase : attributeBase (.Name x px) "append" X.env (eval (.Name x px) X.env) = eval (.Name x px) X.env := by rfl) (hline : (ap.endLine == pos.line) = true := by rfl) :
    JE X Z W φ (.Call (.Attribute (.Name x px) "append" ap) [a] [] pos) (φ1.set j (min n k + 1)) (.v 9) (apM j fa) := je_append (m := min n k) hN hv hdb hcd ha hs hn rfl hbase hline
theorem gPop (j n : Nat) (hn : φ[j]? = some (n + 1) := by rfl) (hN : X.N[j]? = some x := by rfl) (hv : Vis X.env.scope x := by first | exact Or.inl rfl | exact Or.inr (Or.inl rfl) | exact Or.inr (Or.inr rfl)) (hdb : (x == ("__debug__" : Str)) = false := by decide) (hcd : (x == ("__classdict__" : Str)) = false := by decide)
    (hbase : attributeBase (.Name x px) "pop" X.env (eval (.Name x px) X.env) = eval (.Name x px) X.env := by rfl) (hline : (ap.endLine == pos.line) = true := by rfl) :
    JE X Z W φ (.Call (.Attribute (.Name x px) "pop" ap) [] [] pos) (φ.set j (n + 1)) (.v n) (popM j) := je_pop hN hv hdb hcd hn hbase hline
theorem gCallK {k0 : Nat} {kws : List Keyword} (ρ π : List Nat) (G : Has X.prog X.w X.K X.mg X.base j x ps Z ms kr F) (hr : Room k0 X.A) (hgd : X.A.guards = some []) (tk : Takes X W) (ha : JA X Z W φ (a :: es) φ1 ts f) (hk : JK X Z W φ1 kws φ2 ts2 f2)
    (hks : ∀ ws : List Value, ws.length = ts2.length → ((backToKw pos (keywordEach kws X.env)).filterMap (·.1)).zip ws = kwOf ps (es.length + 1) π (reo ρ ws)) (hj : j ≤ k0 := by first | decide | omega) (hg : Gl X x := by rfl)
    (hdb : (x == ("__debug__" : Str)) = false := by decide) (hs : noStar a = true := by rfl) (hpl : ((backTo pos (starEach (a :: es) X.env)).any (·.1) || (backToKw pos (keywordEach kws X.env)).any (·.1.isNone)) = false := by rfl)
    (hall : (backToKw pos (keywordEach kws X.env)).all (·.1.isSome) = true := by rfl) (hlen : ts.length = es.length + 1 := by rfl) (hπ : (es.length + 1, π) ∈ kwTab ps.length := by decide) (hρ : ρ.Perm (List.range ts2.length) := by decide) (hf : fitM ms (ts ++ reo ρ ts2) φ2 = true := by rfl) :
    JE X Z W φ (.Call (.Name x p) (a :: es) kws pos) (flM ms (ts ++ reo ρ ts2) φ2) (.v kr) (callF F ms (ts ++ reo ρ ts2) (kwM ρ f f2)) := je_callK ρ π G hj hr hgd hg tk hdb hs hpl hall hlen hπ hρ hks ha hk hf
theorem gCallK0 {k0 : Nat} {kws : List Keyword} (ρ π : List Nat) (G : Has X.prog X.w X.K X.mg X.base j x ps Z ms kr F) (hr : Room k0 X.A) (hgd : X.A.guards = some []) (tk : Takes X W) (hk : JK X Z W φ kws φ2 ts f)
    (hks : ∀ ws : List Value, ws.length = ts.length → ((backToKw pos (keywordEach kws X.env)).filterMap (·.1)).zip ws = kwOf ps 0 π (reo ρ ws)) (hj : j ≤ k0 := by first | decide | omega) (hg : Gl X x := by rfl)
    (hdb : (x == ("__debug__" : Str)) = false := by decide) (hpl : ((backTo pos (starEach [] X.env)).any (·.1) || (backToKw pos (keywordEach kws X.env)).any (·.1.isNone)) = false := by rfl)
    (hall : (backToKw pos (keywordEach kws X.env)).all (·.1.isSome) = true := by rfl) (hπ : (0, π) ∈ kwTab ps.length := by decide) (hρ : ρ.Perm (List.range ts.length) := by decide) (hf : fitM ms (reo ρ ts) φ2 = true := by rfl) :
    JE X Z W φ (.Call (.Name x p) [] kws pos) (flM ms (reo ρ ts) φ2) (.v kr) (callF F ms (reo ρ ts) (kwM ρ (M.pure []) f)) := je_callK0 ρ π G hj hr hgd hg tk hdb hpl hall hπ hρ hks hk hf
theorem gCall0 {k0 : Nat} (G : Has X.prog X.w X.K X.mg X.base j x ps Z [] kr F) (hr : Room k0 X.A) (hgd : X.A.guards = some []) (tk : Takes X W) (hj : j ≤ k0 := by first | decide | omega) (hg : Gl X x := by rfl) (hdb : (x == ("__debug__" : Str)) = false := by decide) (hps : ps = [] := by rfl) :
    JE X Z W φ (.Call (.Name x p) [] [] pos) φ (.v kr) (callF F [] [] (M.pure [])) := je_call0 G hj hr hgd hg tk hdb hps
/-! comprehensions -/
def blkChk (N : List Str) (sc scope : Scope) (own : List (Str × Nat)) : Bool :=
  scope.kind == .function && (scope.names.all fun y => scope.names.lookup y.1 == some y.2) && (own.all fun p => N[p.2]? == some p.1) &&
  (scope.names.all fun y => !(y.2 == .free) || (sc.names.lookup y.1 == some .cell || sc.names.lookup y.1 == some .free)) &&
  (scope.names.all fun y => !(y.2 == .local || y.2 == .cell) || ((own.map (·.1)).contains y.1 || !N.contains y.1))
theorem blk_mk {N : List Str} {sc scope : Scope} {own : List (Str × Nat)} (h : blkChk N sc scope own = true) : BlkOk N sc scope own := by
  unfold blkChk at h
  simp only [Bool.and_eq_true, List.all_eq_true, beq_iff_eq, Bool.or_eq_true, Bool.not_eq_true', Bool.or_eq_false_iff, List.contains_eq_mem, decide_eq_true_eq, decide_eq_false_iff_not, beq_eq_false_iff_ne, ne_eq] at h
  obtain ⟨⟨⟨⟨h1, h2⟩, h3⟩, h4⟩, h5⟩ := h
  refine ⟨h1, fun y hy => h2 y hy, fun p hp => h3 p hp, fun y hy e => ?_, fun y hy e => ?_⟩
  · exact (h4 y hy).resolve_left fun z => z e
  · rcases h5 y hy with z | z
    · rcases e with e | e
      · exact absurd e z.1
      · exact absurd e z.2
    · exact z
theorem tk0 {s : Shared} {H : Hp} {scope : Scope} {cl : List (Str × Addr)} {C : Addr} {fp : List Addr} : Takes (blkOf X s H scope cl C fp) W0 := fun u s' ⟨a, B, sI, pins, σ, H, cls, d, e, I, nb, up, sky, na, os, ag, w⟩ => w.elim
theorem gLc {ft : M Bool} {fe : M DV} {fi : M (List DV)} {T : Tgt} {iter elt : Expr} {ifs : List Expr} {scope : Scope} {ke : Nat} (own : List (Str × Nat)) (φL : List Nat) (hN : X.N.Nodup) (ok : BlkOk X.N X.env.scope scope own) (hi : JI X Z W φ tg iter φ1 fi)
    (hg : ∀ s H C cl fp, JG (blkOf X s H scope cl C fp) Z tg T) (ht : ∀ s H C cl fp, JTs (blkOf X s H scope cl C fp) Z W0 (tgF T 0 φL) ifs φ2 ft)
    (he : ∀ s H C cl fp, JE (blkOf X s H scope cl C fp) Z W0 φ2 elt φ3 (.v ke) fe) (hc : X.calm = true := by rfl) (hs : ∀ x, foldedSetIterable iter X.env x = pure x := by intro _; rfl)
    (hT : ∀ i ∈ tgS T, i ∈ own.map (·.2) := by decide) (l0 : leN φL φ1 = true := by rfl) (l2 : leN φL φ2 = true := by rfl) (l3 : leN φL φ3 = true := by rfl) :
    JE X Z W φ (.ListComp elt [⟨tg, iter, ifs, 0⟩] scope pos) φL (.v (ke + 1)) (compM T (own.map (·.2)) fi ft fe) := je_lc hc hN hi ok hg ht he hs hT l0 l2 l3
theorem gSetLc {ft : M Bool} {fe : M DV} {fi : M (List DV)} {T : Tgt} {iter elt : Expr} {ifs : List Expr} {scope : Scope} {ke : Nat} {y : Str} {py spos : Pos} (i : Nat) (own : List (Str × Nat)) (φL : List Nat) (hN : X.N.Nodup) (ok : BlkOk X.N X.env.scope scope own) (hi : JI X Z W φ tg iter φ1 fi)
    (hg : ∀ s H C cl fp, JG (blkOf X s H scope cl C fp) Z tg T) (ht : ∀ s H C cl fp, JTs (blkOf X s H scope cl C fp) Z W0 (tgF T 0 φL) ifs φ2 ft)
    (he : ∀ s H C cl fp, JE (blkOf X s H scope cl C fp) Z W0 φ2 elt φ3 (.v ke) fe) (hy : X.N[i]? = some y := by rfl) (hyl : X.env.scope.names.lookup y = some .local := by rfl)
    (hsw : swapsWith (.ListComp elt [⟨tg, iter, ifs, 0⟩] scope pos) (some (.Name y py)) spos.line X.env = pure true := by rfl) (hc : X.calm = true := by rfl) (hs : ∀ x, foldedSetIterable iter X.env x = pure x := by intro _; rfl)
    (hT : ∀ i ∈ tgS T, i ∈ own.map (·.2) := by decide) (l0 : leN φL φ1 = true := by rfl) (l2 : leN φL φ2 = true := by rfl) (l3 : leN φL φ3 = true := by rfl)
    (hP : P.all (fun p => p.1 != i) = true := by rfl) (hn : ψ.n = φL.set i (ke + 1) := by rfl) :
    JS X Z W P kr φ (.Assign [.Name y py] (.ListComp elt [⟨tg, iter, ifs, 0⟩] scope pos) spos) ψ (setM i (compM T (own.map (·.2)) fi ft fe)) := js_setLc hc hN hy hyl hsw hi ok hg ht he hs hT l0 l2 l3 hP hn
end
/-- p of all -/
def allZ {α : Type} : List α → (α → Prop) → Prop
  | [], _ => True
  | z :: r, p => p z ∧ allZ r p
theorem allZ_mem {α : Type} {p : α → Prop} : ∀ {l : List α}, allZ l p → ∀ z ∈ l, p z
  | z :: r, h, x, hx => by
    rcases List.mem_cons.mp hx with e | hx
    · rw [e]; exact h.1
    · exact allZ_mem h.2 x hx
theorem bindsK {K : PySem.W.Frag} {x qual : Str} {st : Stmt} {f : Addr} {fd : FuncData} {ps : List Str} (F : Fun K x qual st f fd)
    (h : ∀ (kV doc pm : Value) (an : Option Addr) (cdv ct : Value) (l : List Value), l.length = ps.length → allZ (kwTab ps.length) fun z => bindArgs (PySem.W.fnOf x qual (defArgs st) (defBody st) (defScope st) .none kV doc pm an cdv ct) ⟨l.take z.1, kwOf ps z.1 z.2 (l.drop z.1)⟩ = pure (ps.zip l)) :
    ∀ (s : Shared) (us ws : List Value) (π : List Nat), us.length + ws.length = ps.length → (us.length, π) ∈ kwTab ps.length → BindsTo s fd ⟨us, kwOf ps us.length π ws⟩ (ps.zip (us ++ ws)) := by
  obtain ⟨oc, od, kV, doc, pm, an, cdv, ct, osl, rfl, lk, hcd⟩ := F.ex
  intro s us ws π hl hπ
  have q := allZ_mem (h kV doc pm an cdv ct (us ++ ws) (by simpa using hl)) _ hπ
  simp only [List.take_left, List.drop_left] at q
  exact .of_eq q
/-- a def of the text, once its body is shown -/
theorem has_of {P : Program} {w : World} {K : PySem.W.Frag} {mg : Str → Option Value} {base : Heap} {k : Nat} {f : Addr} {fd : FuncData} {N ps : List Str} {Z : ClT} {ms : List Md} {kr : Nat} {x : Str} {st : Stmt} {g : M Fl} (fn : Fun K x x st f fd) (hm : mg x = some (.ref f)) (S : FnScope N ps (defScope st))
    (h : ∀ (kV doc pm : Value) (an : Option Addr) (cdv ct : Value) (l : List Value), l.length = ps.length → allZ (kwTab ps.length) fun z => bindArgs (PySem.W.fnOf x x (defArgs st) (defBody st) (defScope st) .none kV doc pm an cdv ct) ⟨l.take z.1, kwOf ps z.1 z.2 (l.drop z.1)⟩ = pure (ps.zip l))
    (hl : ms.length = ps.length) (b : BodyD P w K mg base k N x st f Z ms kr g) : Has P w K mg base (k + 1) x ps Z ms kr (runF N.length (ioP 0 ms) g) :=
  ⟨f, fd, hm, fn.kp, bindsK fn h, fn_D fn S hl (fun _ _ => .inr rfl) b⟩
theorem units80 {k : Nat} {A : Around} (hr : Room k A) : A.units + 80 < cLine := by
  have := hr.un
  omega
theorem units70 {k : Nat} {A : Around} (hr : Room k A) : A.units + 70 < cLine := by
  have := hr.un
  omega
theorem units65 {k : Nat} {A : Around} (hr : Room k A) : A.units + 65 < cLine := by
  have := hr.un
  omega
theorem units64 {k : Nat} {A : Around} (hr : Room k A) : A.units + 64 < cLine := by
  have := hr.un
  omega
/-! ### the law's end -/
section
open PyProof.Rows PySem.W PySem.Calls
variable {P : Program} {w : World} {K : PySem.W.Frag} {mg mb : Str → Option Value} {k : Nat} {kr : Nat} {fa a : Addr} {nm x : Str} {s1 : Shared} {vs : List Value} {ns : List Int} {H : Hp} {F : List DV → Res} {Z : ClT}
abbrev LawBack (s1 : Shared) (r : Result) (s' : Shared) : Prop := r = .ok (.ret (.bool true)) ∧ OldK s1.heap s'.heap ∧ s'.os = s1.os ∧ AllBare s'.gens
/-- the classes by number -/
def clsName : Nat → Option Str
  | 0 => some "InvalidGraph"
  | 1 => some "InvalidEdge"
  | 2 => some "InvalidVertex"
  | 3 => some "InvalidTriangle"
  | 4 => some "InvalidNumber"
  | 5 => some "InvalidRotation"
  | 6 => some "TooMany"
  | 100 => some "InvalidText"
  | 101 => some "InvalidMoves"
  | 102 => some "InvalidPasses"
  | 103 => some "InvalidLines"
  | 150 => some "LinkError"
  | 200 => some "Moves"
  | 201 => some "Passes"
  | 202 => some "Console"
  | _ => none
/-- the defs that make lambdas, by number -/
def lamDef : Nat → Str
  | 0 => "_law_right"
  | 1 => "_law_changes_right"
  | 2 => "_law_calls"
  | 3 => "_law_odd_heard"
  | _ => ""
/-- methods handed on, by number: the class, the name -/
def methName : Nat → Option (Str × Str)
  | 0 => some ("Moves", "has")
  | 1 => some ("Passes", "has")
  | _ => none
/-- defs that stand as values, by number -/
def fnName : Nat → Option Str
  | 0 => some "takes_level"
  | 1 => some "takes_above"
  | 2 => some "takes_minor"
  | 3 => some "takes_uncrossed"
  | 4 => some "takes_crossed"
  | 5 => some "takes_unlinked"
  | 6 => some "takes_linked"
  | 7 => some "takes_odd_crossings"
  | 8 => some "takes_odd_links"
  | 9 => some "takes_apex"
  | 10 => some "takes_critical"
  | _ => none
/-- the class table of the written part; tl: the defs whose tables of code are known -/
def ZK (K : PySem.W.Frag) (tl : List Nat) : ClT := fun n =>
  if 300 ≤ n ∧ n < 400 then (match methName (n - 300) with
    | some (y, m) => (match PySem.W.nsIn K mainGlobals y with
      | some (some (.ref C)) => (match PySem.W.findIn K (.ref C) m with
        | some (some (.ref g)) => some g
        | _ => none)
      | _ => none)
    | none => none)
  else if 4000 ≤ n then (match fnName (n - 4000) with
    | some y => (match PySem.W.nsIn K mainGlobals y with
      | some (some (.ref f)) => some f
      | _ => none)
    | none => none)
  else if n < 1000 then (match clsName n with
    | some y => (match PySem.W.nsIn K mainGlobals y with
      | some (some (.ref C)) => some C
      | _ => none)
    | none => none)
  else if n < 2000 then none
  else if n - 2000 ∈ tl then (PySem.W.tabIn K (lamDef (n - 2000))).map (·.2) else none
/-- what the making of lambdas asks of the defs that make them -/
def TabF (K : PySem.W.Frag) (mg : Str → Option Value) (base : Heap) (tl : List Nat) : Prop := ∀ j ∈ tl, ∀ c Q, PySem.W.tabIn K (lamDef j) = some (c, Q) → LamX.TabB base mg c Q
theorem tabsOf_ZK {K : PySem.W.Frag} {tl : List Nat} {p : Addr × Str} (h : p ∈ tabsOf (ZK K tl)) : ∃ j ∈ tl, ∃ c, PySem.W.tabIn K (lamDef j) = some (c, p.1) := by
  unfold tabsOf at h
  obtain ⟨j, hj4, e⟩ := List.mem_filterMap.mp h
  have hj4 := List.mem_range.mp hj4
  obtain ⟨Q, e1, rfl⟩ := Option.map_eq_some_iff.mp e
  have z8 : ¬ (300 ≤ 2000 + j ∧ 2000 + j < 400) := by omega
  have z9 : ¬ 4000 ≤ 2000 + j := by omega
  have z1 : ¬ 2000 + j < 1000 := by omega
  have z2 : ¬ 2000 + j < 2000 := by omega
  have z3 : 2000 + j - 2000 = j := by omega
  unfold ZK at e1
  rw [if_neg z8, if_neg z9, if_neg z1, if_neg z2, z3] at e1
  split at e1
  · rename_i hj
    obtain ⟨q, e2, rfl⟩ := Option.map_eq_some_iff.mp e1
    exact ⟨j, hj, q.1, e2⟩
  · cases e1
/-- the tables of code that are tracked: the def's code and its table -/
structure TabsK (K : PySem.W.Frag) (h : Heap) (tl : List Nat) : Prop where
  hd : ∀ j ∈ tl, ∀ c Q, PySem.W.tabIn K (lamDef j) = some (c, Q) → PySem.W.CodeHd h c Q ∧ h.get? Q = some { cls := .none, data := .fields #[] } ∧ K.lookup Q = none
/-- one entry of the law, the script and the tables tracked as H says -/
theorem law_from {tl : List Nat} (hH : ∀ b u, H b = some u → (b = a ∧ ∃ o xs, u = .frz o (.lst xs)) ∨ (u = .tbl #[] ∧ ∃ j ∈ tl, ∃ c, tabIn K (lamDef j) = some (c, b))) (hK : H a ≠ none → K.lookup a = none) (hok : HOk P w H s1.heap) (hS : DenV K Z H (.s ns) (.ref a) [])
    (TK : TabsK K s1.heap tl) (hZt : TabH Z H) (hbm : ∃ (bm : Addr) (ob : Obj), mg "__builtins__" = some (.ref bm) ∧ bm ≠ builtinsNs ∧ s1.heap.get? bm = some ob ∧ ob.cls = .type "module" ∧ ob.dict = some builtinsNs ∧ ob.data = .plain)
    (KX : K.In s1.heap) (n1 : s1.heap.Ns mainGlobals mg) (n2 : s1.heap.Ns builtinsNs mb) (n3 : ∀ x : Str, x ≠ "__name__" → mb x = bootBuiltins x) (lim : s1.heap.NoLimit) (gens : s1.gens = #[])
    (ha : s1.heap.get? a = some { cls := .type "list", data := .seq vs.toArray }) (room : Room k callerA)
    (Fn : ∀ base : Heap, K.In base → base.Ns mainGlobals mg → TabF K mg base tl → Has P w K mg base k nm [x] Z [.fz] kr F) (hfa : mg nm = some (.ref fa)) (hF : F [.s ns] = .ok (.d (.bool true)) []) :
    codeAny (model P w) callerA (.call (.ref fa) ⟨[.ref a], []⟩) (LawBack s1) s1 := by
  have sees : ∀ {b : Addr} {o : Obj}, s1.heap.get? b = some o → H b = none → (hidT s1.heap H).get? b = some o := fun e z => hidT_get e z
  -- what is tracked is the script's list or an empty table
  have kind : ∀ {b : Addr} {o : Obj}, s1.heap.get? b = some o → H b ≠ none → o = { cls := .type "list", data := .seq vs.toArray } ∨ o = { cls := .none, data := .fields #[] } := fun {b o} e z => by
    obtain ⟨u, q⟩ := Option.ne_none_iff_exists'.mp z
    rcases hH b u q with ⟨rfl, _⟩ | ⟨_, j, hj, c, ht⟩
    · rw [ha] at e
      exact .inl (Option.some.inj e).symm
    · rw [(TK.hd j hj c b ht).2.1] at e
      exact .inr (Option.some.inj e).symm
  have free : ∀ {b : Addr} {o : Obj}, s1.heap.get? b = some o → o ≠ { cls := .type "list", data := .seq vs.toArray } → o ≠ { cls := .none, data := .fields #[] } → (hidT s1.heap H).get? b = some o := fun {b o} e d1 d2 => by
    cases q : H b with
    | none => exact sees e q
    | some u =>
      rcases kind e (by rw [q]; simp) with z | z
      · exact absurd z d1
      · exact absurd z d2
  have dicts : ∀ {b : Addr} {m : Str → Option Value}, s1.heap.Ns b m → (hidT s1.heap H).Ns b m := fun {b m} ⟨o, es, ep', e, d, r⟩ => by
    refine ⟨o, es, ep', free e (fun z => ?_) (fun z => ?_), d, r⟩
    · rw [z] at d; cases d
    · rw [z] at d; cases d
  have inB : K.In (hidT s1.heap H) := fun b o e => by
    cases q : H b with
    | none => exact sees (KX b o e) q
    | some u =>
      rcases hH b u q with ⟨rfl, _⟩ | ⟨_, j, hj, c, ht⟩
      · rw [hK (by rw [q]; simp)] at e
        cases e
      · rw [(TK.hd j hj c b ht).2.2] at e
        cases e
  have md : Mod K mg (hidT s1.heap H) := ⟨inB, dicts n1, ⟨mb, dicts n2, n3⟩, by obtain ⟨mc, h1, h2⟩ := lim; exact ⟨mc, dicts h1, h2⟩⟩
  have tf : TabF K mg (hidT s1.heap H) tl := fun j hj c Q ht => by
    obtain ⟨cd, tq, tn⟩ := TK.hd j hj c Q ht
    refine ⟨?_, ?_, fun z => ?_⟩
    · obtain ⟨o, us, file, tf, flags, tg, inF, text, tt, e1, r1, r2, r3, more⟩ := cd
      refine ⟨o, us, file, tf, flags, tg, inF, text, tt, free e1 (fun z => ?_) (fun z => ?_), r1, r2, r3, more⟩
      · rw [z] at r2; cases r2
      · rw [z] at r2; cases r2; simp at r3
    · obtain ⟨bm, ob, b1, b2, b3, b4, b5, b6⟩ := hbm
      refine ⟨bm, ob, b1, b2, fun q => ?_, fun q => ?_, free b3 (fun z => ?_) (fun z => ?_), b4, b5, b6⟩
      · obtain ⟨o, es, ep', e, hd, _⟩ := n1
        rw [q, e] at b3
        cases b3
        rw [hd] at b6
        cases b6
      · rw [q, tq] at b3
        cases b3
        cases b6
      · rw [z] at b6; cases b6
      · rw [z] at b6; cases b6
    · obtain ⟨o, es, ep', e, hd, _⟩ := n1
      rw [z, tq] at e
      cases e
      cases hd
  have e0 : Env0 P w K mg (hidT s1.heap H) callerA [] s1 H := ⟨rfl, md, fun b o e => of_hidT e, Nat.le_of_eq (hidT_size _ _), trivial, (fun b hb => absurd (show b ∈ ([] : List Addr) from hb) List.not_mem_nil), hok, .of_eq gens⟩
  obtain ⟨fa', fd, e1, _, bind, good⟩ := (Fn _ inB (dicts n1) tf).ex
  rw [hfa] at e1
  cases e1
  have want : spD K Z [.fz] kr F [.ref a] H (fun v _ => v = .bl true) fun _ _ _ => False := by
    refine ⟨[], [.s ns], rfl, rfl, ⟨[], ⟨[], [], hS, ⟨rfl, hZt⟩, rfl⟩, List.Pairwise.nil⟩, ?_⟩
    rw [hF]
    intro v H' S
    exact S.bl List.mem_cons_self
  refine codeAny_mono (good.run callerA [] s1 H ⟨[.ref a], []⟩ [.ref a] [.ref a] _ _ room rfl e0 (bind s1 [.ref a] [] [] rfl (kwTab_end rfl)) (.cons rfl .nil) want) fun r s' h => ?_
  match r, h with
  | .error e, h =>
    obtain ⟨_, _, _, _, _, _, _, _, _, _, _, _, z⟩ := h
    exact z.elim
  | .ok .next, h => exact False.elim h
  | .ok .brk, h => exact False.elim h
  | .ok .cont, h => exact False.elim h
  | .ok (.ret u), h =>
    obtain ⟨v, H', os, bare, un, hok', ru, q⟩ := h
    cases (show v = V.bl true from q)
    cases (show u = Value.bool true from ru)
    have old : ∀ b o, s1.heap.get? b = some o → s'.heap.get? b = some o ∨ (o = { cls := .none, data := .fields #[] } ∧ (∃ j ∈ tl, ∃ c, tabIn K (lamDef j) = some (c, b)) ∧ ∃ more : Array Value, s'.heap.get? b = some { cls := .none, data := .fields more }) := fun b o e => by
      cases q : H b with
      | none => exact .inl (un.keep b o e q (fun z => absurd (show b ∈ ([] : List Addr) from z) List.not_mem_nil) (fun z => absurd (show b ∈ ([] : List Addr) from z) List.not_mem_nil))
      | some u =>
        rcases hH b u q with ⟨_, ob, xs, rfl⟩ | ⟨rfl, j, hj, c, ht⟩
        · obtain ⟨e1, _⟩ := hok b _ q
          obtain ⟨e2, _⟩ := hok' b _ (un.frzs b ob _ q)
          rw [e1] at e
          cases e
          exact .inl e2
        · obtain ⟨more, z⟩ := un.tbls b #[] q
          rw [(TK.hd j hj c b ht).2.1] at e
          cases e
          exact .inr ⟨rfl, ⟨j, hj, c, ht⟩, _, hok' b _ z⟩
    refine ⟨rfl, ⟨fun b o e => ?_, fun b o e => ?_⟩, os, bare⟩
    · rcases old b o e with z | ⟨rfl, ⟨j, hj, c, ht⟩, more, z⟩
      · exact .inl z
      · obtain ⟨cd, tq, _⟩ := TK.hd j hj c b ht
        exact .inr (.inl ⟨(cd.tab tq).isCodeTable, rfl, #[], more, rfl, by rw [Array.empty_append]; exact z⟩)
    · rcases old b o e with z | ⟨rfl, ⟨j, hj, c, ht⟩, more, z⟩
      · exact ⟨o, z⟩
      · exact ⟨_, z⟩
theorem law_D {tl : List Nat} (hZt : Z = ZK K tl) (TK : TabsK K s1.heap tl) (hbm : ∃ (bm : Addr) (ob : Obj), mg "__builtins__" = some (.ref bm) ∧ bm ≠ builtinsNs ∧ s1.heap.get? bm = some ob ∧ ob.cls = .type "module" ∧ ob.dict = some builtinsNs ∧ ob.data = .plain)
    (KX : K.In s1.heap) (n1 : s1.heap.Ns mainGlobals mg) (n2 : s1.heap.Ns builtinsNs mb) (n3 : ∀ x : Str, x ≠ "__name__" → mb x = bootBuiltins x) (lim : s1.heap.NoLimit) (gens : s1.gens = #[])
    (ha : s1.heap.get? a = some { cls := .type "list", data := .seq vs.toArray }) (hi : IntsAre vs ns) (hz : ns.length ≤ sizeLine) (room : Room k callerA)
    (Fn : ∀ base : Heap, K.In base → base.Ns mainGlobals mg → TabF K mg base tl → Has P w K mg base k nm [x] Z [.fz] kr F) (hfa : mg nm = some (.ref fa)) (hF : F [.s ns] = .ok (.d (.bool true)) []) :
    codeAny (model P w) callerA (.call (.ref fa) ⟨[.ref a], []⟩) (LawBack s1) s1 := by
  classical
  let ob : Obj := { cls := .type "list", data := .seq vs.toArray }
  let isT : Addr → Prop := fun b => ∃ j ∈ tl, ∃ c, tabIn K (lamDef j) = some (c, b)
  have notT : ∀ {b}, isT b → b ≠ a := fun {b} ⟨j, hj, c, ht⟩ e => by
    have z := (TK.hd j hj c b ht).2.1
    rw [e, ha] at z
    cases z
  let Hs : Hp := fun b => if b = a then (match K.lookup a with
    | some _ => none
    | none => some (.frz ob (.lst (ns.map V.int)))) else if isT b then some (.tbl #[]) else none
  have at0 : ∀ b u, Hs b = some u → (b = a ∧ K.lookup a = none ∧ u = .frz ob (.lst (ns.map V.int))) ∨ (u = .tbl #[] ∧ isT b) := fun b u z => by
    have z : (if b = a then (match K.lookup a with
      | some _ => none
      | none => some (HO.frz ob (.lst (ns.map V.int)))) else if isT b then some (.tbl #[]) else none) = some u := z
    by_cases e : b = a
    · rw [if_pos e] at z
      cases q : K.lookup a with
      | some _ => rw [q] at z; cases z
      | none => rw [q] at z; cases z; exact .inl ⟨e, rfl, rfl⟩
    · rw [if_neg e] at z
      by_cases t : isT b
      · rw [if_pos t] at z; cases z; exact .inr ⟨rfl, t⟩
      · rw [if_neg t] at z; cases z
  have tb : TabH Z Hs := fun p hp => by
    rw [hZt] at hp
    have t : isT p.1 := tabsOf_ZK hp
    refine LamX.TabS.nil ?_
    show (if p.1 = a then _ else if isT p.1 then some (HO.tbl #[]) else none) = _
    rw [if_neg (notT t), if_pos t]
  have ok : HOk P w Hs s1.heap := fun b u z => by
    rcases at0 b u z with ⟨rfl, _, rfl⟩ | ⟨rfl, j, hj, c, ht⟩
    · exact ⟨ha, by rw [List.length_map]; exact hz, vs, _, vals_ints hi, ha⟩
    · exact (TK.hd j hj c b ht).2.1
  have den : DenV K Z Hs (.s ns) (.ref a) [] := by
    cases hk : K.lookup a with
    | some o =>
      have e := KX a o hk
      rw [ha] at e
      cases e
      exact .s (.inl (.inr ⟨_, vs.toArray, _, hk, rfl, rfl, rfl, by rw [List.size_toArray, hi.length]; exact hz, by simpa using vals_ints hi⟩))
    | none =>
      refine .s (.inr ⟨ob, ?_⟩)
      show (if a = a then (match K.lookup a with
        | some _ => none
        | none => some (HO.frz ob (.lst (ns.map V.int)))) else _) = _
      rw [if_pos rfl, hk]
  refine law_from (H := Hs) (fun b u z => ?_) (fun z => ?_) ok den TK tb hbm KX n1 n2 n3 lim gens ha room Fn hfa hF
  · rcases at0 b u z with ⟨e, _, r⟩ | ⟨e, t⟩
    · exact .inl ⟨e, ob, _, r⟩
    · exact .inr ⟨e, t⟩
  · obtain ⟨u, q⟩ := Option.ne_none_iff_exists'.mp z
    rcases at0 a u q with ⟨_, r, _⟩ | ⟨_, t⟩
    · exact r
    · exact absurd rfl (notT t)
/-- THE END: a law whose def answers True for all scripts -/
theorem walk_D {l : PySem.W.OpenLaw} {n k kr : Nat} {q : Program} {loose : List Str} {XP : (Str → Option Value) → Heap → Prop} {YP : World → Heap → Prop} {d : DefRec} {K : Params → PySem.W.Frag} {x : Str} {F : List DV → Res} (tl : List Nat)
    (hn : l.most = some n) (hn2 : n ≤ sizeLine) (hdf : d.params.defaults = []) (room : Room k callerA) (hY : ∀ (w : World) (h : Heap), YP w h → (K w.params).In h)
    (htl : ∀ j ∈ tl, ((recsOf q).find? fun e => e.name == lamDef j).isSome = true) (hno : ∀ (w : World), ∀ j ∈ tl, ∀ c Q, tabIn (K w.params) (lamDef j) = some (c, Q) → (K w.params).lookup Q = none)
    (Fn : ∀ (w : World) (mg : Str → Option Value) (h : Heap), (K w.params).In h → h.Ns mainGlobals mg → ∀ base : Heap, (K w.params).In base → base.Ns mainGlobals mg → TabF (K w.params) mg base tl → Has l.prog w (K w.params) mg base k d.name [x] (ZK (K w.params) tl) [.fz] kr F)
    (hF : ∀ ns : List Int, ns.length ≤ n → F [.s ns] = .ok (.d (.bool true)) []) : PySem.W.WalkO q loose XP YP l.row.toRowW d [] (fun f vs => PySem.call f vs) := by
  refine Att.attach_call hn hdf fun w s0 s1 mg mb fa o pm cd doc a vs ns G Y ho hd hcd hmg hobj hints hlen hg => ?_
  have KX := hY w _ Y
  have TK : TabsK (K w.params) s1.heap tl := ⟨fun j hj c Q ht => by
    obtain ⟨r, hr⟩ := Option.isSome_iff_exists.mp (htl j hj)
    obtain ⟨h1, h2⟩ := tab_of G.T KX hr ht
    exact ⟨h1, h2, hno w j hj c Q ht⟩⟩
  exact law_D rfl TK G.T.bmain KX G.T.g G.T.b G.T.builtins G.T.nolimit hg hobj hints (Nat.le_trans hlen hn2) room (Fn w mg _ KX G.T.g) hmg (hF ns hlen)
end
end Lk
namespace Lk
open PySem PySem.Spec L2
def compGo2 (T : Tgt) (vs : List Nat) (ft : M Bool) (fi1 : M (List DV)) (T1 : Tgt) (vs1 : List Nat) (ft1 : M Bool) (fe : M DV) : List DV → List PyData → M (List PyData)
  | [], acc => fun e => .ok acc e
  | d :: ds, acc => fun e => (noEx (tgM T d e)).bind fun _ e1 => (noEx (ft e1)).bind fun b e2 => match b with
    | false => compGo2 T vs ft fi1 T1 vs1 ft1 fe ds acc (wipeE vs e2)
    | true => (noEx (fi1 e2)).bind fun items e3 => (compGo T1 vs1 ft1 fe items acc (wipeE vs1 e3)).bind fun acc' e4 => compGo2 T vs ft fi1 T1 vs1 ft1 fe ds acc' (wipeE vs e4)
def comp2M (T : Tgt) (vs : List Nat) (fi : M (List DV)) (ft : M Bool) (fi1 : M (List DV)) (T1 : Tgt) (vs1 : List Nat) (ft1 : M Bool) (fe : M DV) : M DV := fun env => (fi env).bind fun items e1 => (compGo2 T vs ft fi1 T1 vs1 ft1 fe items [] (wipeE vs e1)).bind fun xs e2 => .ok (.d (.list xs)) (restE vs e1 e2)
section
variable {X : Cx} {Z : ClT} {W : WX} {φ φ' φ1 φ2 φ3 φ4 φ5 φL φM : List Nat} {fe : M DV} {ft ft1 : M Bool} {fi fi1 : M (List DV)} {σ : St} {H : Hp} {L : List Root} {env : Ev} {elt tg iter tg1 iter1 : Expr} {ifs ifs1 : List Expr} {scope : Scope} {own : List (Str × Nat)} {pos : Pos} {ke : Nat} {T T1 : Tgt}
theorem compGo_noEx {vs : List Nat} : ∀ (items : List DV) (acc : List PyData) (e : Ev) (c : Nat) (g : PyData) (e' : Ev), compGo T vs ft fe items acc e ≠ .ex c g e'
  | [], acc, e, c, g, e', h => by cases h
  | d :: ds, acc, e, c, g, e', h => by
    unfold compGo at h
    cases q1 : tgM T d e with
    | bad => rw [q1] at h; cases h
    | ex c g e' => rw [q1] at h; cases h
    | ok u e1 =>
      rw [q1] at h
      have h : ((Lk.noEx (ft e1)).bind _) = Out.ex c g e' := h
      cases q2 : ft e1 with
      | bad => rw [q2] at h; cases h
      | ex c g e' => rw [q2] at h; cases h
      | ok b e2 =>
        rw [q2] at h
        cases b with
        | false => exact compGo_noEx ds acc _ c g e' h
        | true =>
          have h : ((Lk.noEx (fe e2)).bind _) = Out.ex c g e' := h
          cases q3 : fe e2 with
          | bad => rw [q3] at h; cases h
          | ex c g e' => rw [q3] at h; cases h
          | ok y e3 =>
            rw [q3] at h
            have h : (match dataOf y with
              | some x => if acc.length < big then compGo T vs ft fe ds (acc ++ [x]) (wipeE vs e3) else .bad
              | none => .bad) = Out.ex c g e' := h
            cases q4 : dataOf y with
            | none => rw [q4] at h; cases h
            | some x =>
              rw [q4] at h
              simp only at h
              split at h
              · exact compGo_noEx ds _ _ c g e' h
              · cases h
theorem compGo2_ok {vs vs1 : List Nat} : ∀ (items : List DV) (acc : List PyData) (e : Ev) (k : List PyData → Ev → Prop) (W' : WX) (L' : List Root), Wish X.K Z W L (compGo2 T vs ft fi1 T1 vs1 ft1 fe items acc e) k → Wish X.K Z W' L' (compGo2 T vs ft fi1 T1 vs1 ft1 fe items acc e) k
  | [], acc, e, k, W', L', h => h
  | d :: ds, acc, e, k, W', L', h => by
    unfold compGo2 at h ⊢
    cases q1 : tgM T d e with
    | bad => rw [q1] at h; exact h.elim
    | ex c g e' => rw [q1] at h; exact h.elim
    | ok u e1 =>
      rw [q1] at h
      have h : Wish X.K Z W L ((Lk.noEx (ft e1)).bind _) k := h
      show Wish X.K Z W' L' ((Lk.noEx (ft e1)).bind _) k
      cases q2 : ft e1 with
      | bad => rw [q2] at h; exact h.elim
      | ex c g e' => rw [q2] at h; exact h.elim
      | ok b e2 =>
        rw [q2] at h
        cases b with
        | false => exact compGo2_ok ds acc _ k W' L' h
        | true =>
          have h : Wish X.K Z W L ((Lk.noEx (fi1 e2)).bind _) k := h
          show Wish X.K Z W' L' ((Lk.noEx (fi1 e2)).bind _) k
          cases q3 : fi1 e2 with
          | bad => rw [q3] at h; exact h.elim
          | ex c g e' => rw [q3] at h; exact h.elim
          | ok y e3 =>
            rw [q3] at h
            have h : Wish X.K Z W L ((compGo T1 vs1 ft1 fe y acc (wipeE vs1 e3)).bind _) k := h
            show Wish X.K Z W' L' ((compGo T1 vs1 ft1 fe y acc (wipeE vs1 e3)).bind _) k
            cases q4 : compGo T1 vs1 ft1 fe y acc (wipeE vs1 e3) with
            | bad => rw [q4] at h; exact h.elim
            | ex c g e' => exact absurd q4 (compGo_noEx _ _ _ _ _ _)
            | ok acc' e4 =>
              rw [q4] at h
              exact compGo2_ok ds _ _ k W' L' h
/-- the loop of a clause whose turns go to the list D -/
theorem lc_loop {vs : List Nat} {σ0 : St} {D : Addr} {End : Hp → Prop} {J : It} {held : List Root} {items : List DV} {env0 : Ev} {acc0 : List PyData} {H0 : Hp} (hT : ∀ i ∈ tgS T, i ∈ vs) (l2 : leN φL φ2 = true) (l3 : leN φL φ3 = true) (ok : IterOk X.K Z J held items)
    (S0 : Sim X.K Z H0 (⟨ke + 1, .d (.list acc0), .ref D⟩ :: (roots φL env0 (wipe σ0 vs) ++ (held ++ L)))) (a0 : Al φL env0 (wipe σ0 vs)) (hb : acc0.length ≤ big)
    (q0 : Wish X.K Z W0 [] (compGo T vs ft fe items acc0 env0) fun acc e2 => ∀ H', Sim X.K Z H' (⟨ke + 1, .d (.list acc), .ref D⟩ :: (roots φL e2 (wipe σ0 vs) ++ (held ++ L))) → Al φL e2 (wipe σ0 vs) → acc.length ≤ big → End H') :
    ∃ W : Nat → Nat → Hp → Prop, (∃ m, W 0 m H0) ∧ ∀ i m H, W i m H → (J.stop i H ∧ End H) ∨ (J.go i H ∧ ∃ Nx : Hp → Prop, (∀ H', Nx H' → ∃ m', m' < m ∧ W (i + 1) m' H') ∧ ∀ x H', J.yld i H x H' → gT X.K Z T x (wipe σ0 vs) H' fun σ2 H2 => wipe σ2 vs = wipe σ0 vs ∧
      rdT X Z W0 (tgF T 0 φL) φ2 ft σ2 H2 fun b H3 => if b = true then rdE X Z W0 φ2 φ3 (.v ke) fe σ2 H3 fun y H4 => ∃ acc, H4 D = some (.lst acc) ∧ acc.length < sizeLine ∧ Nx (upd H4 D (.lst (acc ++ [y]))) else Nx H3) := by
  let Post : List PyData → Ev → Prop := fun acc e2 => ∀ H', Sim X.K Z H' (⟨ke + 1, .d (.list acc), .ref D⟩ :: (roots φL e2 (wipe σ0 vs) ++ (held ++ L))) → Al φL e2 (wipe σ0 vs) → acc.length ≤ big → End H'
  let St1 : Nat → Hp → Prop := fun i H => i ≤ items.length ∧ ∃ env acc, Sim X.K Z H (⟨ke + 1, .d (.list acc), .ref D⟩ :: (roots φL env (wipe σ0 vs) ++ (held ++ L))) ∧ Al φL env (wipe σ0 vs) ∧ acc.length ≤ big ∧ Wish X.K Z W0 [] (compGo T vs ft fe (items.drop i) acc env) Post
  refine ⟨fun i m H => m = items.length - i ∧ St1 i H, ⟨items.length, by omega, Nat.zero_le _, env0, acc0, S0, a0, hb, q0⟩, ?_⟩
  rintro i m H ⟨rfl, hi, env, acc, S, al, hac, q⟩
  have S0 : Sim X.K Z H (held ++ (⟨ke + 1, .d (.list acc), .ref D⟩ :: (roots φL env (wipe σ0 vs) ++ L))) := by
    refine S.perm ?_
    refine List.Perm.trans ?_ List.perm_middle.symm
    exact .cons _ (List.perm_append_comm_assoc ..)
  obtain ⟨o1, o2⟩ := ok i H _ S0
  by_cases hlt : i < items.length
  · obtain ⟨go, yl⟩ := o2 items[i] (List.getElem?_eq_getElem hlt)
    refine .inr ⟨go, St1 (i + 1), fun H' h' => ⟨items.length - (i + 1), by omega, rfl, h'⟩, fun x H' y => ?_⟩
    rw [List.drop_eq_getElem_cons hlt] at q
    generalize hL' : (⟨ke + 1, .d (.list acc), .ref D⟩ : Root) :: (held ++ L) = L'
    have S2 : Stt X.K Z φL env [⟨.v 0, items[i], x⟩] (wipe σ0 vs) H' L' := by
      subst hL'
      refine ⟨(yl x H' y).perm (.cons _ ?_), al, fun z hz => by rw [List.mem_singleton.mp hz]; trivial⟩
      show (held ++ (_ :: (roots φL env (wipe σ0 vs) ++ L))).Perm (roots φL env (wipe σ0 vs) ++ (_ :: (held ++ L)))
      refine List.perm_middle.trans (List.Perm.trans (.cons _ ?_) List.perm_middle.symm)
      exact List.perm_append_comm_assoc ..
    have q : Wish X.K Z W0 [] ((Lk.noEx (tgM T items[i] env)).bind _) Post := q
    refine ⟨L', env, φL, 0, items[i], W0, S2, Nat.zero_le _, (q.bind.noEx (W' := W0) (L' := L')).mono fun _ e2 q3 σ2 H2 s2 _ ⟨g1, g2⟩ => ?_⟩
    have ew := same_wipe hT g1 g2
    refine ⟨ew, L', e2, s2, (q3.bind.noEx (W' := W0) (L' := L')).mono fun b e3 q4 H3 s3 => ?_⟩
    have fin : ∀ {φ4 : List Nat} {e4 : Ev} {H4 : Hp} {acc' : List PyData}, leN φL φ4 = true → Sim X.K Z H4 (⟨ke + 1, .d (.list acc'), .ref D⟩ :: (roots φ4 e4 σ2 ++ (held ++ L))) → Al φ4 e4 σ2 → acc'.length ≤ big →
        Wish X.K Z W0 [] (compGo T vs ft fe (items.drop (i + 1)) acc' (wipeE vs e4)) Post → St1 (i + 1) H4 := fun {φ4 e4 H4 acc'} hl s a hb qq => by
      obtain ⟨a5, l5⟩ := a.less hl
      obtain ⟨a6, B, p6⟩ := a5.wipeA vs
      rw [ew] at a6 p6
      refine ⟨hlt, wipeE vs e4, acc', ?_, a6, hb, qq⟩
      have s7 := s.less (R' := ⟨ke + 1, .d (.list acc'), .ref D⟩ :: (roots φL e4 σ2 ++ (held ++ L))) (.cons ⟨Nat.le_refl _, rfl, rfl⟩ (Less.app l5 (Less.refl _)))
      have s8 := s7.perm (R' := ⟨ke + 1, .d (.list acc'), .ref D⟩ :: ((B ++ roots φL (wipeE vs e4) (wipe σ0 vs)) ++ (held ++ L))) (.cons _ (List.Perm.append_right _ p6))
      exact s8.sub (.cons_cons _ (List.Sublist.append_right (List.sublist_append_right _ _) _))
    cases b with
    | false =>
      simp only [Bool.false_eq_true, if_false]
      refine fin l2 ?_ s3.al hac q4
      refine s3.sim.perm ?_
      subst hL'
      exact List.perm_middle
    | true =>
      simp only [if_true]
      refine ⟨L', e3, s3, (q4.bind.noEx (W' := W0) (L' := L')).mono fun y e4 q5 yv H4 s4 => ?_⟩
      cases hy : dataOf y with
      | none => rw [hy] at q5; exact q5.elim
      | some x =>
        rw [hy] at q5
        simp only at q5
        split at q5
        · rename_i hb
          have ey : y = .d x := dataOf_some hy
          subst ey
          have s5 : Sim X.K Z H4 (⟨ke + 1, .d (.list acc), .ref D⟩ :: (⟨ke, .d x, yv⟩ :: (roots φ3 e4 σ2 ++ (held ++ L)))) := by
            refine s4.sim.perm ?_
            subst hL'
            show (⟨ke, .d x, yv⟩ :: (roots φ3 e4 σ2 ++ (_ :: (held ++ L)))).Perm _
            exact (List.Perm.cons _ List.perm_middle).trans (.swap _ _ _)
          obtain ⟨D', vacc, e, hD4, hlen, s6⟩ := s5.apart
          cases e
          refine ⟨vacc, hD4, by rw [sizeLine_eq]; unfold big at hb; omega, ?_⟩
          have s7 : SimT X.K Z H4 [D] (kids ke (acc ++ [x]) (vacc ++ [yv]) ++ (roots φ3 e4 σ2 ++ (held ++ L))) := by
            rw [kids_append hlen]
            rw [List.append_assoc]
            exact s6
          exact fin l3 (s7.close (by simp [hlen]) hD4) s4.al (by simp; exact hb) q5
        · exact q5.elim
  · have e : i = items.length := by omega
    subst e
    rw [List.drop_length] at q
    exact .inl ⟨o1 (Nat.le_refl _), (show Post acc env from q) _ S al hac⟩
/-- what stands over wiped slots stands over the slots -/
theorem Al.unwipe1 {φ : List Nat} {e : Ev} {σ : St} {v : Nat} (a : Al φ e (σ.set v none)) : Al φ e σ ∧ roots φ e σ = roots φ e (σ.set v none) := by
  induction φ generalizing e σ v with
  | nil =>
    cases e with
    | nil => cases σ with
      | nil => exact ⟨trivial, rfl⟩
      | cons x σ => cases v <;> exact a.elim
    | cons d e => cases σ with
      | nil => cases v <;> exact a.elim
      | cons x σ => cases v <;> exact a.elim
  | cons n φ ih =>
    cases e with
    | nil => cases σ with
      | nil => cases v <;> exact a.elim
      | cons x σ => cases v <;> exact a.elim
    | cons d e =>
      cases σ with
      | nil => cases v <;> exact a.elim
      | cons x σ =>
        cases v with
        | zero =>
          obtain ⟨a1, a2⟩ : (d.isSome = true → (none : Option V).isSome = true) ∧ Al φ e σ := a
          have hd : d = none := by cases d with
            | none => rfl
            | some d => exact absurd (a1 rfl) (by simp)
          subst hd
          exact ⟨⟨(fun h => absurd h (by simp)), a2⟩, by cases x <;> rfl⟩
        | succ v =>
          obtain ⟨a1, a2⟩ : (d.isSome = true → x.isSome = true) ∧ Al φ e (σ.set v none) := a
          obtain ⟨i1, i2⟩ := ih a2
          refine ⟨⟨a1, i1⟩, ?_⟩
          cases d with
          | none => exact i2
          | some d => cases x with
            | none => exact i2
            | some x =>
              show ⟨n, d, x⟩ :: roots φ e σ = ⟨n, d, x⟩ :: roots φ e (σ.set v none)
              rw [i2]
theorem Al.unwipe {φ : List Nat} {e : Ev} {σ : St} : ∀ {vs : List Nat}, Al φ e (wipe σ vs) → Al φ e σ ∧ roots φ e σ = roots φ e (wipe σ vs)
  | [], a => ⟨a, rfl⟩
  | v :: vs, a => by
    unfold wipe at a ⊢
    obtain ⟨a1, e1⟩ := Al.unwipe1 a
    obtain ⟨a2, e2⟩ := Al.unwipe a1
    exact ⟨a2, e2.trans e1⟩
theorem lc2_law {vs vs1 : List Nat} {Q : VK} (hT : ∀ i ∈ tgS T, i ∈ vs) (hT1 : ∀ i ∈ tgS T1, i ∈ vs1) (l0 : leN φL φ1 = true) (l2 : leN φL φ2 = true) (lM : leN φL φM = true) (l4 : leN φM φ4 = true) (l5 : leN φM φ5 = true) (l3 : leN φM φ3 = true)
    (h : rdE X Z W φ φL (.v (ke + 1)) (comp2M T vs fi ft fi1 T1 vs1 ft1 fe) σ H Q) :
    tLc2 (rdI X Z W φ φ1 fi) (gT X.K Z T) (rdT X Z W0 (tgF T 0 φL) φ2 ft) (rdI X Z W0 φ2 φ4 fi1) (gT X.K Z T1) (rdT X Z W0 (tgF T1 0 φM) φ5 ft1) (rdE X Z W0 φ5 φ3 (.v ke) fe) vs vs1 σ H Q := by
  obtain ⟨L, env, S, q⟩ := h
  refine ⟨L, env, S, q.bind.mono fun items e1 q1 J held H1 S1 ok D hD => ?_⟩
  have S1 := S1.less l0
  obtain ⟨A, a0, p0, back⟩ := S1.al.saveA vs
  let Post : List PyData → Ev → Prop := fun xs e2 => ∀ v H', Stt X.K Z φL (restE vs e1 e2) [⟨.v (ke + 1), .d (.list xs), v⟩] σ H' L → Q v H'
  have q2 : Wish X.K Z W0 [] (compGo2 T vs ft fi1 T1 vs1 ft1 fe items [] (wipeE vs e1)) Post := compGo2_ok items [] _ _ W0 [] q1.bind
  let St1 : Nat → Hp → Prop := fun i H => i ≤ items.length ∧ ∃ env acc, Sim X.K Z H (⟨ke + 1, .d (.list acc), .ref D⟩ :: (roots φL env (wipe σ vs) ++ (held ++ (A ++ L)))) ∧ Al φL env (wipe σ vs) ∧ acc.length ≤ big ∧ Wish X.K Z W0 [] (compGo2 T vs ft fi1 T1 vs1 ft1 fe (items.drop i) acc env) Post
  refine ⟨fun i m H => m = items.length - i ∧ St1 i H, ⟨items.length, by omega, Nat.zero_le _, wipeE vs e1, [], ?_, a0, Nat.zero_le _, q2⟩, ?_⟩
  · have s0 : Sim X.K Z H1 (kids ke [] [] ++ (roots φL (wipeE vs e1) (wipe σ vs) ++ (held ++ (A ++ L)))) := by
      refine S1.sim.perm ?_
      show (roots φL e1 σ ++ (held ++ L)).Perm (roots φL (wipeE vs e1) (wipe σ vs) ++ (held ++ (A ++ L)))
      refine (List.Perm.append_right _ p0).trans ?_
      rw [List.append_assoc]
      refine List.perm_append_comm_assoc .. |>.trans ?_
      refine List.Perm.append_left _ ?_
      exact List.perm_append_comm_assoc ..
    exact Sim.mkL s0 rfl hD
  rintro i m H ⟨rfl, hi, env, acc, S, al, hac, q⟩
  have S0 : Sim X.K Z H (held ++ (⟨ke + 1, .d (.list acc), .ref D⟩ :: (roots φL env (wipe σ vs) ++ (A ++ L)))) := by
    refine S.perm ?_
    refine List.Perm.trans ?_ List.perm_middle.symm
    exact .cons _ (List.perm_append_comm_assoc ..)
  obtain ⟨o1, o2⟩ := ok i H _ S0
  by_cases hlt : i < items.length
  · obtain ⟨go, yl⟩ := o2 items[i] (List.getElem?_eq_getElem hlt)
    refine .inr ⟨go, St1 (i + 1), fun H' h' => ⟨items.length - (i + 1), by omega, rfl, h'⟩, fun x H' y => ?_⟩
    rw [List.drop_eq_getElem_cons hlt] at q
    generalize hL' : (⟨ke + 1, .d (.list acc), .ref D⟩ : Root) :: (held ++ (A ++ L)) = L'
    have S2 : Stt X.K Z φL env [⟨.v 0, items[i], x⟩] (wipe σ vs) H' L' := by
      subst hL'
      refine ⟨(yl x H' y).perm (.cons _ ?_), al, fun z hz => by rw [List.mem_singleton.mp hz]; trivial⟩
      show (held ++ (_ :: (roots φL env (wipe σ vs) ++ (A ++ L)))).Perm (roots φL env (wipe σ vs) ++ (_ :: (held ++ (A ++ L))))
      refine List.perm_middle.trans (List.Perm.trans (.cons _ ?_) List.perm_middle.symm)
      exact List.perm_append_comm_assoc ..
    have q : Wish X.K Z W0 [] ((Lk.noEx (tgM T items[i] env)).bind _) Post := q
    refine ⟨L', env, φL, 0, items[i], W0, S2, Nat.zero_le _, (q.bind.noEx (W' := W0) (L' := L')).mono fun _ e2 q3 σ2 H2 s2 _ ⟨g1, g2⟩ => ?_⟩
    have ew := same_wipe hT g1 g2
    refine ⟨ew, L', e2, s2, (q3.bind.noEx (W' := W0) (L' := L')).mono fun b e3 q4 H3 s3 => ?_⟩
    -- the turn's end
    have fin : ∀ {φ4 : List Nat} {e4 : Ev} {H4 : Hp} {acc' : List PyData}, leN φL φ4 = true → Sim X.K Z H4 (⟨ke + 1, .d (.list acc'), .ref D⟩ :: (roots φ4 e4 σ2 ++ (held ++ (A ++ L)))) → Al φ4 e4 σ2 → acc'.length ≤ big →
        Wish X.K Z W0 [] (compGo2 T vs ft fi1 T1 vs1 ft1 fe (items.drop (i + 1)) acc' (wipeE vs e4)) Post → St1 (i + 1) H4 := fun {φ4 e4 H4 acc'} hl s a hb qq => by
      obtain ⟨a5, l5⟩ := a.less hl
      obtain ⟨a6, B, p6⟩ := a5.wipeA vs
      rw [ew] at a6 p6
      refine ⟨hlt, wipeE vs e4, acc', ?_, a6, hb, qq⟩
      have s7 := s.less (R' := ⟨ke + 1, .d (.list acc'), .ref D⟩ :: (roots φL e4 σ2 ++ (held ++ (A ++ L)))) (.cons ⟨Nat.le_refl _, rfl, rfl⟩ (Less.app l5 (Less.refl _)))
      have s8 := s7.perm (R' := ⟨ke + 1, .d (.list acc'), .ref D⟩ :: ((B ++ roots φL (wipeE vs e4) (wipe σ vs)) ++ (held ++ (A ++ L)))) (.cons _ (List.Perm.append_right _ p6))
      exact s8.sub (.cons_cons _ (List.Sublist.append_right (List.sublist_append_right _ _) _))
    cases b with
    | false =>
      simp only [Bool.false_eq_true, if_false]
      refine fin l2 ?_ s3.al hac q4
      refine s3.sim.perm ?_
      subst hL'
      exact List.perm_middle
    | true =>
      simp only [if_true]
      have q4 : Wish X.K Z W0 [] ((Lk.noEx (fi1 e3)).bind fun items' e3 => (compGo T1 vs1 ft1 fe items' acc (wipeE vs1 e3)).bind fun acc' e4 => compGo2 T vs ft fi1 T1 vs1 ft1 fe (items.drop (i + 1)) acc' (wipeE vs e4)) Post := q4
      refine ⟨L', e3, s3, (q4.bind.noEx (W' := W0) (L' := L')).mono fun items1 e4 q5 J1 held1 H4 s4 ok1 => ?_⟩
      have s4' := s4.less l4
      obtain ⟨a6, B, p6⟩ := s4'.al.wipeA vs1
      refine lc_loop (φL := φM) (ke := ke) (D := D) (L := held ++ (A ++ L)) (env0 := wipeE vs1 e4) (acc0 := acc) hT1 l5 l3 ok1 ?_ a6 hac ?_
      · have s5 : Sim X.K Z H4 (roots φM e4 σ2 ++ (held1 ++ L')) := s4'.sim
        have s6 := s5.perm (R' := (B ++ roots φM (wipeE vs1 e4) (wipe σ2 vs1)) ++ (held1 ++ L')) (List.Perm.append_right _ p6)
        have s7 : Sim X.K Z H4 (roots φM (wipeE vs1 e4) (wipe σ2 vs1) ++ (held1 ++ L')) := s6.sub (List.Sublist.append_right (List.sublist_append_right _ _) _)
        refine s7.perm ?_
        subst hL'
        refine (List.Perm.append_left _ List.perm_middle).trans ?_
        exact List.perm_middle
      · refine (Wish.bind q5).mono fun acc' e5 q6 H5 s5 a5 hb5 => ?_
        obtain ⟨a7, r7⟩ := Al.unwipe a5
        rw [← r7] at s5
        refine fin lM ?_ a7 hb5 q6
        exact s5.sub (.cons_cons _ (List.Sublist.append_left (List.sublist_append_right _ _) _))
  · have e : i = items.length := by omega
    subst e
    rw [List.drop_length] at q
    refine .inl ⟨o1 (Nat.le_refl _), (show ∀ v H', Stt X.K Z φL (restE vs e1 env) [⟨.v (ke + 1), .d (.list acc), v⟩] σ H' L → Q v H' from q) _ _ ?_⟩
    obtain ⟨a7, p7⟩ := back env al
    refine ⟨?_, a7, fun z hz => by rw [List.mem_singleton.mp hz]; trivial⟩
    have s8 : Sim X.K Z H (⟨ke + 1, .d (.list acc), .ref D⟩ :: (roots φL env (wipe σ vs) ++ (A ++ L))) := S.sub (.cons_cons _ (List.Sublist.append_left (List.sublist_append_right _ _) _))
    refine s8.perm (.cons _ ?_)
    refine (List.perm_append_comm_assoc ..).trans ?_
    rw [← List.append_assoc]
    exact List.Perm.append_right _ p7.symm
theorem gLc2 (own : List (Str × Nat)) (vs1 : List Nat) (φL φM : List Nat) (hN : X.N.Nodup) (ok : BlkOk X.N X.env.scope scope own) (hi : JI X Z W φ tg iter φ1 fi)
    (hg : ∀ s H C cl fp, JG (blkOf X s H scope cl C fp) Z tg T) (ht : ∀ s H C cl fp, JTs (blkOf X s H scope cl C fp) Z W0 (tgF T 0 φL) ifs φ2 ft)
    (hi1 : ∀ s H C cl fp, JI (blkOf X s H scope cl C fp) Z W0 φ2 tg1 iter1 φ4 fi1)
    (hg1 : ∀ s H C cl fp, JG (blkOf X s H scope cl C fp) Z tg1 T1) (ht1 : ∀ s H C cl fp, JTs (blkOf X s H scope cl C fp) Z W0 (tgF T1 0 φM) ifs1 φ5 ft1)
    (he : ∀ s H C cl fp, JE (blkOf X s H scope cl C fp) Z W0 φ5 elt φ3 (.v ke) fe) (hc : X.calm = true := by rfl) (hs : ∀ x, foldedSetIterable iter X.env x = pure x := by intro _; rfl) (hs1 : ∀ env x, foldedSetIterable iter1 env x = pure x := by intro _ _; rfl)
    (hv : ∀ i ∈ vs1, i ∈ own.map (·.2) := by decide) (hT : ∀ i ∈ tgS T, i ∈ own.map (·.2) := by decide) (hT1 : ∀ i ∈ tgS T1, i ∈ vs1 := by decide) (l0 : leN φL φ1 = true := by rfl) (l2 : leN φL φ2 = true := by rfl) (lM : leN φL φM = true := by rfl) (l4 : leN φM φ4 = true := by rfl) (l5 : leN φM φ5 = true := by rfl) (l3 : leN φM φ3 = true := by rfl) :
    JE X Z W φ (.ListComp elt [⟨tg, iter, ifs, 0⟩, ⟨tg1, iter1, ifs1, 0⟩] scope pos) φL (.v (ke + 1)) (comp2M T (own.map (·.2)) fi ft fi1 T1 vs1 ft1 fe) :=
  pe_imp (pe_lc2 (g := gT X.K Z T) (tt := rdT X Z W0 (tgF T 0 φL) φ2 ft) (wi1 := rdI X Z W0 φ2 φ4 fi1) (g1 := gT X.K Z T1) (tt1 := rdT X Z W0 (tgF T1 0 φM) φ5 ft1) (te := rdE X Z W0 φ5 φ3 (.v ke) fe) hc hN hi ok hv (fun s H C cl fp => hg s H C cl fp) (fun s H C cl fp => ht s H C cl fp) (fun s H C cl fp => hi1 s H C cl fp) (fun s H C cl fp => hg1 s H C cl fp) (fun s H C cl fp => ht1 s H C cl fp) (fun s H C cl fp => he s H C cl fp) hs hs1) fun σ H Q h => lc2_law hT hT1 l0 l2 lM l4 l5 l3 h
/-- name = [.. for .. for ..] on one line -/
theorem gSetLc2 {P : List (Nat × Nat)} {kr : Nat} {ψ : SF} {y : Str} {py spos : Pos} (i : Nat) (own : List (Str × Nat)) (vs1 : List Nat) (φL φM : List Nat) (hN : X.N.Nodup) (ok : BlkOk X.N X.env.scope scope own) (hi : JI X Z W φ tg iter φ1 fi)
    (hg : ∀ s H C cl fp, JG (blkOf X s H scope cl C fp) Z tg T) (ht : ∀ s H C cl fp, JTs (blkOf X s H scope cl C fp) Z W0 (tgF T 0 φL) ifs φ2 ft)
    (hi1 : ∀ s H C cl fp, JI (blkOf X s H scope cl C fp) Z W0 φ2 tg1 iter1 φ4 fi1)
    (hg1 : ∀ s H C cl fp, JG (blkOf X s H scope cl C fp) Z tg1 T1) (ht1 : ∀ s H C cl fp, JTs (blkOf X s H scope cl C fp) Z W0 (tgF T1 0 φM) ifs1 φ5 ft1)
    (he : ∀ s H C cl fp, JE (blkOf X s H scope cl C fp) Z W0 φ5 elt φ3 (.v ke) fe) (hc : X.calm = true := by rfl) (hs : ∀ x, foldedSetIterable iter X.env x = pure x := by intro _; rfl) (hs1 : ∀ env x, foldedSetIterable iter1 env x = pure x := by intro _ _; rfl)
    (hy : X.N[i]? = some y := by rfl) (hyl : X.env.scope.names.lookup y = some .local := by rfl) (hsw : swapsWith (.ListComp elt [⟨tg, iter, ifs, 0⟩, ⟨tg1, iter1, ifs1, 0⟩] scope pos) (some (.Name y py)) spos.line X.env = pure true := by rfl)
    (hv : ∀ i ∈ vs1, i ∈ own.map (·.2) := by decide) (hT : ∀ i ∈ tgS T, i ∈ own.map (·.2) := by decide) (hT1 : ∀ i ∈ tgS T1, i ∈ vs1 := by decide) (l0 : leN φL φ1 = true := by rfl) (l2 : leN φL φ2 = true := by rfl) (lM : leN φL φM = true := by rfl) (l4 : leN φM φ4 = true := by rfl) (l5 : leN φM φ5 = true := by rfl) (l3 : leN φM φ3 = true := by rfl)
    (hP : P.all (fun p => p.1 != i) = true := by rfl) (hn : ψ.n = φL.set i (ke + 1) := by rfl) :
    JS X Z W P kr φ (.Assign [.Name y py] (.ListComp elt [⟨tg, iter, ifs, 0⟩, ⟨tg1, iter1, ifs1, 0⟩] scope pos) spos) ψ (setM i (comp2M T (own.map (·.2)) fi ft fi1 T1 vs1 ft1 fe)) := by
  refine ps_imp (ps_setLc2 (g := gT X.K Z T) (tt := rdT X Z W0 (tgF T 0 φL) φ2 ft) (wi1 := rdI X Z W0 φ2 φ4 fi1) (g1 := gT X.K Z T1) (tt1 := rdT X Z W0 (tgF T1 0 φM) φ5 ft1) (te := rdE X Z W0 φ5 φ3 (.v ke) fe) hc hN hy hyl hsw hi ok hv (fun s H C cl fp => hg s H C cl fp) (fun s H C cl fp => ht s H C cl fp) (fun s H C cl fp => hi1 s H C cl fp) (fun s H C cl fp => hg1 s H C cl fp) (fun s H C cl fp => ht1 s H C cl fp) (fun s H C cl fp => he s H C cl fp) hs hs1) fun D σ H ⟨L, env, pv, S, hp, q⟩ => ?_
  refine lc2_law (Q := fun x H1 => gName i x σ H1 D.nx) hT hT1 l0 l2 lM l4 l5 l3 ⟨L, env, S, q.bind.mono fun d e' q v H' s => ?_⟩
  split at q
  · rename_i hl
    rw [hn] at q
    exact (show ∀ σ' H', Stt X.K Z (φL.set i (ke + 1)) (e'.set i (some d)) [] σ' H' L → Pok P pv σ' → D.nx σ' H' from q) _ _ (s.store hl) (hp.set hP)
  · exact q.elim
end
end Lk
namespace Lk
open PySem PySem.Spec L2
section
variable {X : Cx} {Z : ClT} {W : WX} {P : List (Nat × Nat)} {kr : Nat} {φ φ1 φ2 φ3 φ' : List Nat} {ψ ψ1 ψ2 : SF} {t ta tb tc to : Tm} {ts ts2 : List Tm} {fa fb fc fo : M DV} {σ : St} {H : Hp} {L R : List Root} {env : Ev} {g1 g2 : M Fl} {a b c e o tg : Expr} {es : List Expr} {st : Stmt} {sts : List Stmt} {pos pos' p px ap : Pos} {x : Str} {k n m cap j : Nat}
/-! ### [*a, b], (a, *b) -/
def rdL (X : Cx) (Z : ClT) (W : WX) (φ φ' : List Nat) (m : Nat) (f : M (List PyData)) : TA := fun σ H Q => ∃ L env, Stt X.K Z φ env [] σ H L ∧ Wish X.K Z W L (f env) fun ds e' => ∀ vs H', ds.length = vs.length → Stt X.K Z φ' e' [] σ H' (kids m ds vs ++ L) → Q vs H'
def JL (X : Cx) (Z : ClT) (W : WX) (φ : List Nat) (es : List Expr) (φ' : List Nat) (m : Nat) (f : M (List PyData)) : Prop := PA X es (rdL X Z W φ φ' m f)
theorem jl_nil : JL X Z W φ [] φ m (M.pure []) := pa_imp pa_nil fun σ H Q ⟨L, env, S, h⟩ => h [] H rfl S
def consL (fa : M DV) (f : M (List PyData)) : M (List PyData) := fun env => (fa env).bind fun d e => match dataOf d with
  | some x => (f e).bind fun ds e2 => .ok (x :: ds) e2
  | none => .bad
def itemsP : DV → Option (List PyData)
  | .d (.list xs) => some xs
  | .d (.tuple xs) => some xs
  | _ => none
def starL (fa : M DV) (f : M (List PyData)) : M (List PyData) := fun env => (fa env).bind fun d e => match itemsP d with
  | some xs => (f e).bind fun ds e2 => .ok (xs ++ ds) e2
  | none => .bad
theorem itemsP_some {d : DV} {xs : List PyData} (h : itemsP d = some xs) : d = .d (.list xs) ∨ d = .d (.tuple xs) := by
  unfold itemsP at h
  split at h
  · cases h; exact .inl rfl
  · cases h; exact .inr rfl
  · cases h
theorem jl_cons {f : M (List PyData)} (ha : JE X Z W φ a φ1 (.v k) fa) (hm : m ≤ k) (hs : noStar a = true) (h : JL X Z W φ1 es φ2 m f) : JL X Z W φ (a :: es) φ2 m (consL fa f) := by
  refine pa_imp (pa_cons ha h (star_eq hs)) fun σ H Q ⟨L, env, S, q⟩ => ?_
  refine rdE.go S (q.bind.mono fun d e1 q1 v H1 S1 => ?_)
  cases hd : dataOf d with
  | none => rw [hd] at q1; exact q1.elim
  | some x =>
    obtain rfl := dataOf_some hd
    rw [hd] at q1
    have S2 : Stt X.K Z φ1 e1 [] σ H1 (⟨m, .d x, v⟩ :: L) := by
      refine ⟨?_, S1.al, fun _ h => nomatch h⟩
      have s := Sim.weak (n := k) S1.sim hm
      refine s.perm ?_
      show (⟨m, .d x, v⟩ :: (roots φ1 e1 σ ++ L)).Perm (roots φ1 e1 σ ++ (⟨m, .d x, v⟩ :: L))
      exact List.perm_middle.symm
    refine ⟨_, e1, S2, (Wish.frame (A := [⟨m, .d x, v⟩]) q1.bind).mono fun ds e2 q2 vs H2 hl S3 => q2 (v :: vs) H2 (by simp [hl]) ?_⟩
    refine ⟨S3.sim.perm ?_, S3.al, fun _ h => nomatch h⟩
    show (roots φ2 e2 σ ++ (kids m ds vs ++ (⟨m, .d x, v⟩ :: L))).Perm (roots φ2 e2 σ ++ (⟨m, .d x, v⟩ :: (kids m ds vs ++ L)))
    exact List.Perm.append_left _ List.perm_middle
theorem jl_star {f : M (List PyData)} {sp : Pos} (ha : JE X Z W φ a φ1 (.v k) fa) (h : JL X Z W φ1 es φ2 0 f) : JL X Z W φ (.Starred a sp :: es) φ2 0 (starL fa f) := by
  refine pa_imp (StX.pa_star ha h) fun σ H Q ⟨L, env, S, q⟩ => ?_
  refine rdE.go S (q.bind.mono fun d e1 q1 v H1 S1 => ?_)
  cases hd : itemsP d with
  | none => rw [hd] at q1; exact q1.elim
  | some xs =>
    rw [hd] at q1
    have s0 := Sim.weak (n := k) S1.sim (Nat.zero_le _)
    have fin : ∀ ws : List V, xs.length = ws.length → Sim X.K Z H1 (kids 0 xs ws ++ (roots φ1 e1 σ ++ L)) → rdL X Z W φ1 φ2 0 f σ H1 fun ys H2 => Q (ws ++ ys) H2 := fun ws hl s => by
      have S2 : Stt X.K Z φ1 e1 [] σ H1 (kids 0 xs ws ++ L) := by
        refine ⟨s.perm ?_, S1.al, fun _ h => nomatch h⟩
        exact List.perm_append_comm_assoc ..
      refine ⟨_, e1, S2, (Wish.frame (A := kids 0 xs ws) q1.bind).mono fun ds e2 q2 vs H2 hl2 S3 => q2 (ws ++ vs) H2 (by simp [hl, hl2]) ?_⟩
      refine ⟨S3.sim.perm ?_, S3.al, fun _ h => nomatch h⟩
      show (roots φ2 e2 σ ++ (kids 0 ds vs ++ (kids 0 xs ws ++ L))).Perm (roots φ2 e2 σ ++ (kids 0 (xs ++ ds) (ws ++ vs) ++ L))
      rw [kids_append hl, List.append_assoc]
      exact List.Perm.append_left _ (List.perm_append_comm_assoc ..)
    rcases itemsP_some hd with rfl | rfl
    · obtain ⟨l, ws, rfl, hl, hw, s1⟩ := s0.openL List.mem_cons_self (Nat.zero_le _)
      exact ⟨l, ws, rfl, .inr (.of hl), fin ws hw (s1.sub (List.Sublist.append_left (List.sublist_cons_self _ _) _))⟩
    · obtain ⟨l, ws, rfl, hl, hw, s1⟩ := s0.openT List.mem_cons_self (Nat.zero_le _)
      exact ⟨l, ws, rfl, .inl hl, fin ws hw (s1.sub (List.Sublist.append_left (List.sublist_cons_self _ _) _))⟩
def dispL (mk : List PyData → PyData) (f : M (List PyData)) : M DV := fun env => (f env).bind fun ds e => if ds.length ≤ big then .ok (.d (mk ds)) e else .bad
theorem gLstL {f : M (List PyData)} (m : Nat) (h : JL X Z W φ es φ' m f) : JE X Z W φ (.List es pos) φ' (.v (m + 1)) (dispL .list f) := by
  refine pe_imp (pe_lst h) fun σ H Q ⟨L, env, S, q⟩ => ⟨L, env, S, q.bind.mono fun ds e q vs H1 hl S1 => ?_⟩
  split at q
  · rename_i hb
    refine ⟨by rw [← hl, sizeLine_eq]; unfold big at hb; omega, fun p hp => ?_⟩
    refine (show ∀ v H', Stt X.K Z φ' e [⟨.v (m + 1), .d (.list ds), v⟩] σ H' L → Q v H' from q) _ _ ⟨?_, S1.al, fun z hz => by rw [List.mem_singleton.mp hz]; trivial⟩
    have s : Sim X.K Z H1 (kids m ds vs ++ (roots φ' e σ ++ L)) := Sim.perm (R := roots φ' e σ ++ (kids m ds vs ++ L)) S1.sim (List.perm_append_comm_assoc ..)
    exact s.mkL hl hp
  · exact q.elim
theorem gTupL {f : M (List PyData)} (m : Nat) (h : JL X Z W φ es φ' m f) : JE X Z W φ (.Tuple es n pos) φ' (.v (m + 1)) (dispL .tuple f) := by
  refine pe_imp (pe_tup h) fun σ H Q ⟨L, env, S, q⟩ => ⟨L, env, S, q.bind.mono fun ds e q vs H1 hl S1 => ?_⟩
  split at q
  · rename_i hb
    refine ⟨by rw [← hl, sizeLine_eq]; unfold big at hb; omega, fun p hp => ?_⟩
    refine (show ∀ v H', Stt X.K Z φ' e [⟨.v (m + 1), .d (.tuple ds), v⟩] σ H' L → Q v H' from q) _ _ ⟨?_, S1.al, fun z hz => by rw [List.mem_singleton.mp hz]; trivial⟩
    have s : Sim X.K Z H1 (kids m ds vs ++ (roots φ' e σ ++ L)) := Sim.perm (R := roots φ' e σ ++ (kids m ds vs ++ L)) S1.sim (List.perm_append_comm_assoc ..)
    exact s.mkT hl hp
  · exact q.elim
theorem gL1 {f : M (List PyData)} (ha : JE X Z W φ a φ1 (.v k) fa) (h : JL X Z W φ1 es φ2 m f) (hm : m ≤ k := by decide) (hs : noStar a = true := by rfl) : JL X Z W φ (a :: es) φ2 m (consL fa f) := jl_cons ha hm hs h
/-! ### owned lists within owned lists -/
theorem SimT.apartT {T : List Addr} {n : Nat} {ds : List PyData} {v : V} (h : SimT X.K Z H T (⟨n + 1, .d (.list ds), v⟩ :: R)) :
    ∃ a vs, v = .ref a ∧ H a = some (.lst vs) ∧ ds.length = vs.length ∧ SimT X.K Z H (a :: T) (kids n ds vs ++ R) ∧ a ∉ T := by
  obtain ⟨F, ⟨G, F1, hd, hF, rfl⟩, o⟩ := h
  cases hd with
  | d hd =>
    cases hd with
    | @lst a vs _ G' h1 h2 =>
      rw [tag_cons, tag_up] at o
      have o2 : Own (tks (a :: T) ++ (tag n G' ++ F1)) := by
        refine o.perm ?_
        show (tks T ++ ((a, true) :: (tag n G' ++ F1))).Perm ((a, true) :: (tks T ++ (tag n G' ++ F1)))
        exact List.perm_middle
      refine ⟨a, vs, rfl, h1, h2.length, ⟨_, (SimF.kids hF.tab h2).join hF, o2⟩, fun hm => ?_⟩
      have := (List.pairwise_cons.mp o2).1 (a, true) (List.mem_append_left _ (List.mem_map.mpr ⟨a, hm, rfl⟩)) rfl
      exact absurd this.1 (by simp)
theorem SimT.closeT {T : List Addr} {n : Nat} {a : Addr} {ds : List PyData} {vs : List V} {ws : List V} (h : SimT X.K Z H (a :: T) (kids n ds vs ++ R)) (e : ds.length = vs.length) (ha : H a = some (.lst ws)) :
    SimT X.K Z (upd H a (.lst vs)) T (⟨n + 1, .d (.list ds), .ref a⟩ :: R) := by
  have h2 := h.write (ob := .lst vs) (by rw [ha]; simp) (by rw [ha]; simp) (by rw [ha]; simp) (by rw [ha]; simp)
  obtain ⟨F, hF, o⟩ := h2
  obtain ⟨F1, F2, q1, q2, rfl⟩ := hF.append
  obtain ⟨G, hl, rfl⟩ := q1.ofKids e
  refine ⟨(a, true) :: (tag n G ++ F2), ⟨(a, 0) :: up G, F2, .d (.lst upd_same hl), q2, ?_⟩, ?_⟩
  · rw [tag_cons, tag_up]
    rfl
  · refine o.perm ?_
    show ((a, true) :: (tks T ++ (tag n G ++ F2))).Perm (tks T ++ ((a, true) :: (tag n G ++ F2)))
    exact List.perm_middle.symm
theorem kids_at {m : Nat} {x : PyData} {v : V} : ∀ {xs : List PyData} {vs : List V} {k : Nat}, xs.length = vs.length → xs[k]? = some x → vs[k]? = some v → ∃ A B, kids m xs vs = A ++ ⟨m, .d x, v⟩ :: B ∧ (∀ y, kids m (xs.set k y) vs = A ++ ⟨m, .d y, v⟩ :: B) ∧ A.length = k
  | y :: xs, w :: vs, 0, _, h1, h2 => by
    simp at h1 h2; subst h1; subst h2
    exact ⟨[], kids m xs vs, rfl, fun _ => rfl, rfl⟩
  | y :: xs, w :: vs, k + 1, h, h1, h2 => by
    obtain ⟨A, B, e1, e2, e3⟩ := kids_at (m := m) (xs := xs) (vs := vs) (k := k) (by simpa using h) (by simpa using h1) (by simpa using h2)
    refine ⟨⟨m, .d y, w⟩ :: A, B, ?_, fun z => ?_, by simp [e3]⟩
    · show ⟨m, .d y, w⟩ :: kids m xs vs = _
      rw [e1]; rfl
    · show ⟨m, .d y, w⟩ :: kids m (xs.set k z) vs = _
      rw [e2]; rfl
  | [], _, _, _, h1, _ => by simp at h1
  | _ :: _, [], _, h, _, _ => by simp at h
def apIxO (j i z : Nat) (e : Ev) : Option Ev := match slot e j, slot e i, slot e z with
  | some (.d (.list xs)), some (.d (.int ii)), some (.d y) => (match ixN xs.length ii with
    | some k => (match xs[k]? with
      | some (.list ys) => if ys.length < big then some (e.set j (some (.d (.list (xs.set k (.list (ys ++ [y]))))))) else none
      | _ => none)
    | none => none)
  | _, _, _ => none
def apIxM (j i z : Nat) : M DV := fun e => .goE (.d .none) (apIxO j i z e)
theorem apIxO_some {j i z : Nat} {e e' : Ev} (h : apIxO j i z e = some e') : ∃ xs ii y k ys, slot e j = some (.d (.list xs)) ∧ slot e i = some (.d (.int ii)) ∧ slot e z = some (.d y) ∧ ixN xs.length ii = some k ∧ xs[k]? = some (.list ys) ∧ ys.length < big ∧ e' = e.set j (some (.d (.list (xs.set k (.list (ys ++ [y])))))) := by
  unfold apIxO at h
  split at h
  · rename_i xs ii y h1 h2 h3
    split at h
    · rename_i k hk
      split at h
      · rename_i ys hy
        split at h
        · cases h
          exact ⟨xs, ii, y, k, ys, h1, h2, h3, hk, hy, by assumption, rfl⟩
        · cases h
      · cases h
    · cases h
  · cases h
theorem upd_id {H : Hp} {a : Addr} {o : HO} (h : H a = some o) : upd H a o = H := by
  funext b
  by_cases e : b = a
  · subst e; rw [upd_same, h]
  · rw [upd_ne e]
theorem gAppendIx {y w : Str} {py pz sp : Pos} (j i z n : Nat) (hn : (φ.modify z (min 0))[j]? = some (n + 2) := by rfl) (hN : X.N[j]? = some x := by rfl) (hNi : X.N[i]? = some y := by rfl) (hNz : X.N[z]? = some w := by rfl) (hjz : j ≠ z := by decide)
    (hv : Vis X.env.scope x := by first | exact Or.inl rfl | exact Or.inr (Or.inl rfl) | exact Or.inr (Or.inr rfl)) (hvi : Vis X.env.scope y := by first | exact Or.inl rfl | exact Or.inr (Or.inl rfl) | exact Or.inr (Or.inr rfl)) (hvz : Vis X.env.scope w := by first | exact Or.inl rfl | exact Or.inr (Or.inl rfl) | exact Or.inr (Or.inr rfl))
    (hd : (x == ("__debug__" : Str)) = false := by decide) (hcd : (x == ("__classdict__" : Str)) = false := by decide) (hdi : (y == ("__debug__" : Str)) = false := by decide) (hcdi : (y == ("__classdict__" : Str)) = false := by decide) (hdz : (w == ("__debug__" : Str)) = false := by decide) (hcdz : (w == ("__classdict__" : Str)) = false := by decide)
    (hbase : attributeBase (.Subscript (.Name x px) (.Name y py) sp) "append" X.env (eval (.Subscript (.Name x px) (.Name y py) sp) X.env) = eval (.Subscript (.Name x px) (.Name y py) sp) X.env := by rfl) (hline : (ap.endLine == pos.line) = true := by rfl) :
    JE X Z W φ (.Call (.Attribute (.Subscript (.Name x px) (.Name y py) sp) "append" ap) [.Name w pz] [] pos) ((φ.modify z (min 0)).set j 2) (.v 9) (apIxM j i z) := by
  refine pe_imp (pe_bm PySem.F.plainAttrs_list PySem.F.slot_list_append PySem.F.type_list_append mt_append (pe_ix ix_list (pe_var hN hv hd hcd) (pe_var hNi hvi hdi hcdi) (noSlice_ix rfl)) (pa_cons (pe_var hNz hvz hdz hcdz) pa_nil (star_eq rfl)) hbase (few_ok (by rfl) (by simp)) hline (star_eq rfl)) fun σ H Q ⟨L, env, S, h⟩ => ?_
  unfold apIxM at h
  obtain ⟨e', he, hQ⟩ := h.goE
  obtain ⟨xs, ii, y', k, ys, s1, s2, s3, hk, hy, hb, rfl⟩ := apIxO_some he
  have S0 : Stt X.K Z (φ.modify z (min 0)) env [] σ H L := S.less (modify_le 0 φ z)
  obtain ⟨nz, vz, hz1, hz2, pz⟩ := S0.al.get s3
  obtain ⟨ni, vi, hi1, hi2, pi⟩ := S0.al.get s2
  have ei : vi = .int ii := S0.sim.int (n := ni) (List.mem_append_left L (pi.mem_iff.mpr List.mem_cons_self))
  subst ei
  have hz0 : nz = 0 := by
    rw [List.getElem?_modify] at hz1
    simp only [if_true] at hz1
    obtain ⟨q, _, rfl⟩ := Option.map_eq_some_iff.mp hz1
    omega
  subst hz0
  have S1 : Stt X.K Z (φ.modify z (min 0)) env [⟨.v 0, .d y', vz⟩] σ H L := by
    refine ⟨?_, S0.al, fun q hq => by rw [List.mem_singleton.mp hq]; trivial⟩
    exact S0.sim.dup (List.mem_append_left L (pz.mem_iff.mpr List.mem_cons_self))
  obtain ⟨l, vs, b1, b2, b3, b4⟩ := S1.slotL s1 hn
  obtain ⟨hk0, hk1⟩ := ixN_seq hk
  obtain ⟨v2, hv2⟩ : ∃ v2, vs[k]? = some v2 := ⟨vs[k]'(by omega), List.getElem?_eq_getElem (by omega)⟩
  obtain ⟨A, B, eA, eB, lenA⟩ := kids_at (m := n + 1) b3 hy hv2
  have b5 : SimT X.K Z H [l] (⟨n + 1, .d (.list ys), v2⟩ :: ((A ++ B) ++ (hrts [⟨.v 0, .d y', vz⟩] ++ (roots (φ.modify z (min 0)) (env.set j none) σ ++ L)))) := by
    rw [eA] at b4
    refine b4.perm ?_
    rw [← List.cons_append]
    exact List.Perm.append_right _ List.perm_middle
  obtain ⟨l2, ws, rfl, c1, c2, c3, c4⟩ := b5.apartT
  have hll : l2 ≠ l := fun e => c4 (by rw [e]; exact List.mem_singleton.mpr rfl)
  have hat : atI vs ii = some (.ref l2) := by
    unfold atI
    rw [← b3, hk]
    exact hv2
  refine ⟨.ref l, b1, .int ii, hi2, l, vs, ii, .ref l2, rfl, rfl, .of b2, hat, .inl ⟨rfl, ws, .of c1⟩, vz, hz2, l2, ws, vz, rfl, rfl, c1, by rw [sizeLine_eq]; unfold big at hb; omega, hQ _ _ ?_⟩
  have d1 : SimT X.K Z H [l2, l] (kids 0 (ys ++ [y']) (ws ++ [vz]) ++ ((A ++ B) ++ (roots (φ.modify z (min 0)) (env.set j none) σ ++ L))) := by
    have d0 : SimT X.K Z H [l2, l] (kids 0 ys ws ++ ((A ++ B) ++ (⟨0, .d y', vz⟩ :: (roots (φ.modify z (min 0)) (env.set j none) σ ++ L)))) := c3.less (Less.app (kids_less (Nat.zero_le _) ys ws) (Less.refl _))
    rw [kids_append c2, List.append_assoc]
    refine d0.perm (List.Perm.append_left _ ?_)
    exact List.perm_middle
  have d2 := d1.closeT (by simp [c2]) c1
  have d3 : SimT X.K Z (upd H l2 (.lst (ws ++ [vz]))) [l] (kids 1 (xs.set k (.list (ys ++ [y']))) vs ++ (roots (φ.modify z (min 0)) (env.set j none) σ ++ L)) := by
    obtain ⟨A1, B1, eA1, eB1, lenA1⟩ := kids_at (m := 1) b3 hy hv2
    have lA : Less (A ++ B) (A1 ++ B1) := by
      have l0 := kids_less (show 1 ≤ n + 1 by omega) xs vs
      rw [eA, eA1] at l0
      have key : ∀ {A A1 B B1 : List Root} {r r1 : Root}, A.length = A1.length → Less (A ++ r :: B) (A1 ++ r1 :: B1) → Less (A ++ B) (A1 ++ B1) := by
        intro A
        induction A with
        | nil =>
          intro A1 B B1 r r1 h l
          cases A1 with
          | nil => cases l with
            | cons _ t => exact t
          | cons _ _ => simp at h
        | cons a A ih =>
          intro A1 B B1 r r1 h l
          cases A1 with
          | nil => simp at h
          | cons a1 A1 =>
            cases l with
            | cons q t => exact .cons q (ih (by simpa using h) t)
      have hlen : A.length = A1.length := by rw [lenA, lenA1]
      exact key hlen l0
    rw [eB1]
    have d4 := d2.less (R' := ⟨1, .d (.list (ys ++ [y'])), .ref l2⟩ :: ((A1 ++ B1) ++ (roots (φ.modify z (min 0)) (env.set j none) σ ++ L))) (.cons ⟨Nat.le_refl _, rfl, rfl⟩ (Less.app lA (Less.refl _)))
    refine d4.perm ?_
    rw [← List.cons_append]
    exact List.Perm.append_right _ List.perm_middle.symm
  have hl1 : upd H l2 (.lst (ws ++ [vz])) l = some (.lst vs) := by rw [upd_ne (fun e => hll e.symm)]; exact b2
  have S3 := Stt.slotPut (hs := []) (m := 1) S1.al (fun _ h => nomatch h) b1 hl1 (by simp [b3]) d3
  rw [upd_id hl1] at S3
  exact ⟨S3.sim.scal (.d .non), S3.al, fun z hz => by rw [List.mem_singleton.mp hz]; trivial⟩
end
end Lk
namespace HT
open PySem PySem.Spec PyProof.Rows L2
section
variable {prog : Program} {w : World} {A : Around} {E : Value → Shared → Prop} {s : Shared}
theorem sliceApplied_rev {sl : Addr} {vs : Value} {n : Nat} {Q : Int × Int × Nat → Shared → Prop} (hs : s.heap.IsSliceOf sl .none .none vs) (ps : IsPart vs (some (-1)))
    (h : Q ((n : Int) - 1, -1, n) s) : wpAny (model prog w) A (Builtin.Slice.sliceApplied (.ref sl) (pure (n : Int))) Q E s := by
  obtain ⟨os, hos, hcs, hds⟩ := id hs
  unfold Builtin.Slice.sliceApplied Builtin.Slice.sliceFields
  refine wpAny_bind (wpAny_bind (wpAny_field hos hds (x := .none) rfl (wpAny_bind (wpAny_field hos hds (x := .none) rfl (wpAny_bind (wpAny_field hos hds (x := vs) rfl (wpAny_pure ?_)))))))
  refine wpAny_bind (slicePart_ ps ?_)
  show wpAny _ _ (if ((-1 : Int) == 0) = true then _ else _) _ _ s
  rw [if_neg (by decide)]
  refine wpAny_bind (slicePart_none (wpAny_bind (slicePart_none (wpAny_bind (wpAny_pure ?_)))))
  show wpAny _ _ (match Builtin.Slice.sliceAdjust none none (-1) (n : Int) with | (lo, hi) => pure (lo, (-1 : Int), Builtin.Slice.slicePlaces lo hi (-1))) _ _ s
  have e : Builtin.Slice.sliceAdjust none none (-1) (n : Int) = ((n : Int) - 1, -1) := by
    unfold Builtin.Slice.sliceAdjust
    simp
  rw [e]
  show wpAny _ _ (pure ((n : Int) - 1, (-1 : Int), Builtin.Slice.slicePlaces ((n : Int) - 1) (-1) (-1))) _ _ s
  have e2 : Builtin.Slice.slicePlaces ((n : Int) - 1) (-1) (-1) = n := by
    unfold Builtin.Slice.slicePlaces
    have h1 : ¬ ((-1 : Int) > 0) := by omega
    simp only [h1, if_false, Int.neg_neg, Int.ediv_one]
    split <;> omega
  rw [e2]
  exact wpAny_pure h
theorem pick_rev (xs : Array Value) : ((List.range xs.size).filterMap fun (m : Nat) => xs[(((xs.size : Nat) : Int) - 1 + (m : Int) * (-1)).toNat]?).toArray = xs.toList.reverse.toArray := by
  congr 1
  rw [← PySem.W.krv_all xs, ← List.filterMap_reverse, ← PySem.W.krv_range, List.filterMap_map]
  have key : ∀ l : List Nat, (∀ m ∈ l, m < xs.size) → l.filterMap (fun (m : Nat) => xs[(((xs.size : Nat) : Int) - 1 + (m : Int) * (-1)).toNat]?) = l.filterMap ((fun x => xs[x]?) ∘ fun k => xs.size - 1 - k) := by
    intro l
    induction l with
    | nil => intro _; rfl
    | cons m l ih =>
      intro h
      have hm := h m List.mem_cons_self
      have e : (((xs.size : Nat) : Int) - 1 + (m : Int) * (-1)).toNat = xs.size - 1 - m := by omega
      simp only [List.filterMap_cons, Function.comp_apply, e]
      rw [ih fun k hk => h k (List.mem_cons_of_mem _ hk)]
  exact key _ fun m hm => List.mem_range.mp hm
theorem getItem_tuple_rev {t sl : Addr} {items : Array Value} {vs : Value} {Q : Value → Shared → Prop} (ht : IsTup s.heap t items) (hs : s.heap.IsSliceOf sl .none .none vs) (ps : IsPart vs (some (-1)))
    (h : Q (.ref s.heap.objs.size) { s with heap := s.heap.push { cls := .type "tuple", data := .seq items.toList.reverse.toArray } })
    (hsz : items.size ≤ sizeLine) : wpAny (model prog w) A (getItem (.ref t) (.ref sl)) Q E s := by
  have htake : sizeOk (.seq items.toList.reverse.toArray) := by
    show items.toList.reverse.toArray.size ≤ sizeLine
    rw [List.size_toArray, List.length_reverse, Array.length_toList]
    exact hsz
  obtain ⟨os, hos, hcs, hds⟩ := id hs
  have hTs : s.TypeIs (.ref sl) "slice" := ⟨os, hos, hcs⟩
  unfold getItem
  try with_reducible refine wpAny_holding ?_
  first | refine wpAny_bind (wpAny_pure ?_) | skip
  refine wpAny_bind (wpAny_sequenceKey ht.typeIs (by decide) ?_)
  refine wpAny_bind (wpAny_callSpecial?_slot (name := Str.ofString "__getitem__") ht.typeIs PyProof.Rows.slot_tuple_getitem
    (wpAny_call_entry PyProof.Rows.slot_tuple_getitem ht.typeIs entry_tuple_getitem ?_ (args_tuple_getitem _ _)))
  show wpAny _ _ (Builtin.Tuple.tupleItemsOf (.ref t) >>= _) _ _ s
  refine wpAny_bind (tupleItemsOf_ ht ?_)
  refine wpAny_bind (wpAny_typeOf hTs ?_)
  rw [if_pos (by decide)]
  refine wpAny_bind (sliceApplied_rev hs ps ?_)
  have hno : ¬ (((((items.size : Nat) : Int) - 1) == 0 && (-1 : Int) == 1 && items.size == items.size) = true) := by
    intro q
    rw [Bool.and_eq_true, Bool.and_eq_true] at q
    exact absurd q.1.2 (by decide)
  show wpAny _ _ (if ((((items.size : Nat) : Int) - 1) == 0 && (-1 : Int) == 1 && items.size == items.size) = true then _ else _) _ _ s
  rw [if_neg hno, pick_rev]
  first
    | exact wpAny_bind (m := Builtin.Tuple.tupleExact _) (wpAny_newObj_type (wpAny_pure ⟨_, rfl, wpAny_pure h⟩) htake)
    | exact wpAny_bind (m := Builtin.Tuple.tupleExact _) (wpAny_newObj_type (wpAny_bind (wpAny_pure (wpAny_pure ⟨_, rfl, wpAny_pure h⟩))) htake)
end
end HT
namespace Lk
open PySem PySem.Spec L2
section
variable {X : Cx} {Z : ClT} {W : WX} {φ φ1 φ2 φ3 φ' : List Nat} {t ta tb tc to : Tm} {fa : M DV} {σ : St} {H : Hp} {L R : List Root} {env : Ev} {a b c e o tg : Expr} {k n m cap j : Nat}
def tRevT (K : PySem.W.Frag) (te : TE) : TE := fun σ H Q => te σ H fun x H1 => ∃ a xs, x = .ref a ∧ SqT K H1 a xs ∧ ∀ p, H1 p = none → Q (.ref p) (upd H1 p (.tup xs.reverse))
theorem pe_revT {e : Expr} {te : TE} {k : Nat} {p1 p2 p3 pos : Pos} (he : PE X e te) : PE X (.Subscript e (.Slice none none (some (.UnaryOp .USub (.Constant (.int 1) k p1) p2)) p3) pos) (tRevT X.K te) := by
  refine ⟨fun pins s σ H Q I h => ?_⟩
  refine PyProof.Rows.Subscript_ (thn (he.run pins s σ H _ I h) fun v s1 ⟨x, H1, I1, r1, q1⟩ => ?_)
  obtain ⟨a, xs, ex, hx, q⟩ := q1
  subst ex
  cases r1
  have hst : PO X (some (.UnaryOp .USub (.Constant (.int 1) k p1) p2)) (tPart (tUn (rU fun i => .int (-i)) (tC (.int 1)))) := po_some (pe_un un_neg pe_int)
  refine wpAny_Slice (thn (po_none.run pins s1 σ H1 (fun o H2 => o = none ∧ H2 = H1) I1 ⟨rfl, rfl⟩) fun vl s2 ⟨l, H2, I2, pl, el, e2⟩ => ?_)
  subst el e2
  refine thn (po_none.run pins s2 σ H2 (fun o H3 => o = none ∧ H3 = H2) I2 ⟨rfl, rfl⟩) fun vu s3 ⟨u, H3, I3, pu, eu, e3⟩ => ?_
  subst eu e3
  refine thn (hst.run pins s3 σ H3 (fun o H4 => o = some (-1) ∧ H4 = H3) I3 ⟨1, rfl, -1, rfl, rfl, rfl⟩) fun vs s4 ⟨o, H4, I4, ps, eo, e4⟩ => ?_
  subst eo e4
  have I5 : Inv X pins σ H4 { s4 with heap := s4.heap.push { cls := .type "slice", data := .fields #[vl, vu, vs] } } := I4.kept (t' := s4.toks) fun b ob q => Heap.get?_push_of_some _ q
  obtain ⟨its, r, ht, hz⟩ := I5.tuple hx
  have hlen := r.length
  cases pl
  cases pu
  show wpAny (model X.prog X.w) X.A (PyProof.Rows.subscriptTail e (.Slice none none (some (.UnaryOp .USub (.Constant (.int 1) k p1) p2)) p3) (.ref a) (.ref s4.heap.objs.size)) (EP X pins σ Q) X.xe { s4 with heap := s4.heap.push { cls := .type "slice", data := .fields #[.none, .none, vs] } }
  refine PyProof.Rows.tail_any (ops := [.ref a, .ref s4.heap.objs.size]) ht.typeIs (PyProof.Rows.slot_tuple_getitem.lookup) ?_ (by with_unfolding_all rfl)
  refine HT.getItem_tuple_rev ht (Heap.IsSliceOf.new _ .none .none vs) ps ?_ (by rw [List.size_toArray]; omega)
  refine ⟨.ref _, _, I5.laid (t' := s4.toks) (o := .tup xs.reverse) (fun b ob q => Heap.get?_push_of_some _ q) (Nat.le_refl _) ?_, rfl, q _ (I5.hok.fresh (Nat.le_refl _))⟩
  have e0 : its.toArray.toList.reverse = its.reverse := by simp
  rw [e0]
  exact ⟨by rw [List.length_reverse]; exact hz, _, r.reverse, PyProof.Rows.IsTup.new _ _⟩
def revD : DV → Option DV
  | .d (.list xs) => some (.d (.list xs.reverse))
  | .d (.tuple xs) => some (.d (.tuple xs.reverse))
  | _ => none
theorem kids_rev {m : Nat} : ∀ {xs : List PyData} {vs : List V}, xs.length = vs.length → kids m xs.reverse vs.reverse = (kids m xs vs).reverse
  | [], [], _ => rfl
  | x :: xs, v :: vs, h => by
    have hl : xs.length = vs.length := by simpa using h
    rw [List.reverse_cons, List.reverse_cons, kids_append (by simp [hl]), kids_rev hl]
    show _ = (⟨m, .d x, v⟩ :: kids m xs vs).reverse
    rw [List.reverse_cons]
    rfl
  | [], _ :: _, h => by simp at h
  | _ :: _, [], h => by simp at h
theorem gRev {kk : Nat} {p1 p2 p3 pos : Pos} (ha : JE X Z W φ a φ1 (.v k) fa) : JE X Z W φ (.Subscript a (.Slice none none (some (.UnaryOp .USub (.Constant (.int 1) kk p1) p2)) p3) pos) φ1 (.v 1) (un1 revD (.v k) fa) := by
  have two : PE X (.Subscript a (.Slice none none (some (.UnaryOp .USub (.Constant (.int 1) kk p1) p2)) p3) pos) (fun σ H Q => tRevL X.K (rdE X Z W φ φ1 (.v k) fa) σ H Q ∨ tRevT X.K (rdE X Z W φ φ1 (.v k) fa) σ H Q) := ⟨fun pins s σ H Q I h => h.elim (fun h => (pe_revL ha).run pins s σ H Q I h) fun h => (pe_revT ha).run pins s σ H Q I h⟩
  refine pe_imp two fun σ H Q ⟨L, env, S, h⟩ => ?_
  have h := Wish.bind (show Wish X.K Z W L ((fa env).bind fun d e => .ofO ((Tm.now (.v k) d e).bind revD) e) _ from h)
  have key : ∀ (d : DV) (e1 : Ev) (v : V) (H1 : Hp), Stt X.K Z φ1 e1 [⟨.v k, d, v⟩] σ H1 L → Wish X.K Z W L (Out.ofO ((Tm.now (.v k) d e1).bind revD) e1) (fun d e' => ∀ v H', Stt X.K Z φ1 e' [⟨.v 1, d, v⟩] σ H' L → Q v H') →
      (∃ xs, d = .d (.list xs) ∧ ∃ l vs, v = .ref l ∧ SqL X.K H1 l vs ∧ ∀ p, H1 p = none → Q (.ref p) (upd H1 p (.lst vs.reverse))) ∨ (∃ xs, d = .d (.tuple xs) ∧ ∃ l vs, v = .ref l ∧ SqT X.K H1 l vs ∧ ∀ p, H1 p = none → Q (.ref p) (upd H1 p (.tup vs.reverse))) := fun d e1 v H1 S1 q => by
    obtain ⟨r, hr, q⟩ := q.ofO
    have hr : revD d = some r := hr
    have s0 : Sim X.K Z H1 (⟨0, d, v⟩ :: (roots φ1 e1 σ ++ L)) := Sim.weak (n := k) S1.sim (Nat.zero_le _)
    unfold revD at hr
    split at hr
    · rename_i xs _
      cases hr
      obtain ⟨l, vs, rfl, hl, hw, s1⟩ := s0.openL List.mem_cons_self (Nat.zero_le _)
      refine .inl ⟨xs, rfl, l, vs, rfl, .of hl, fun p hp => q _ _ ⟨?_, S1.al, fun z hz => by rw [List.mem_singleton.mp hz]; trivial⟩⟩
      have s2 : Sim X.K Z H1 (kids 0 xs.reverse vs.reverse ++ (roots φ1 e1 σ ++ L)) := by
        rw [kids_rev hw]
        exact (s1.sub (List.Sublist.append_left (List.sublist_cons_self _ _) _)).perm (List.Perm.append_right _ (List.reverse_perm _).symm)
      exact Sim.mkL (n := 0) s2 (by simp [hw]) hp
    · rename_i xs _
      cases hr
      obtain ⟨l, vs, rfl, hl, hw, s1⟩ := s0.openT List.mem_cons_self (Nat.zero_le _)
      refine .inr ⟨xs, rfl, l, vs, rfl, hl, fun p hp => q _ _ ⟨?_, S1.al, fun z hz => by rw [List.mem_singleton.mp hz]; trivial⟩⟩
      have s2 : Sim X.K Z H1 (kids 0 xs.reverse vs.reverse ++ (roots φ1 e1 σ ++ L)) := by
        rw [kids_rev hw]
        exact (s1.sub (List.Sublist.append_left (List.sublist_cons_self _ _) _)).perm (List.Perm.append_right _ (List.reverse_perm _).symm)
      exact Sim.mkT (n := 0) s2 (by simp [hw]) hp
    · cases hr
  cases q : fa env with
  | bad => rw [q] at h; exact h.elim
  | ex c g e1 =>
    rw [q] at h
    exact .inl ⟨L, env, S, by rw [q]; exact h⟩
  | ok d e1 =>
    rw [q] at h
    have h : Wish X.K Z W L (Out.ofO ((Tm.now (.v k) d e1).bind revD) e1) _ := h
    cases d with
    | d y =>
      cases y with
      | list xs =>
        refine .inl ⟨L, env, S, ?_⟩
        rw [q]
        intro v H' s
        rcases key _ _ _ _ s h with ⟨_, _, r⟩ | ⟨_, e, _⟩
        · exact r
        · cases e
      | tuple xs =>
        refine .inr ⟨L, env, S, ?_⟩
        rw [q]
        intro v H' s
        rcases key _ _ _ _ s h with ⟨_, e, _⟩ | ⟨_, _, r⟩
        · cases e
        · exact r
      | _ => exact h.elim
    | _ => exact h.elim
end
end Lk
namespace Lk
open PySem PySem.Spec L2
section
variable {X : Cx} {Z : ClT} {W : WX} {P : List (Nat × Nat)} {kr : Nat} {φ φ1 : List Nat} {ψ : SF} {f : M (List DV)} {a b c : Expr} {pos px : Pos} {x : Str}
theorem gParC {k1 k2 : Nat} {y : Str} {py pt : Pos} {kt q2 pt2} (i j : Nat) (hg : PGs X [.Name x px, .Name y py] (gNames [i, j])) (ha : JA X Z W φ [a, b] φ1 [.v k1, .v k2] f) (hc : X.calm = true := by rfl)
    (hw : swappedStores [.Tuple [.Name x px, .Name y py] kt pt] (.Tuple [a, b] q2 pt2) X.env = pure none := by rfl)
    (hs : swapsWithSole [.Tuple [.Name x px, .Name y py] kt pt] (.Tuple [a, b] q2 pt2) pos.line X.env = pure false := by rfl)
    (h1 : (assignEach [.Tuple [.Name x px, .Name y py] kt pt] X.env).map (·.2) = [assign (.Tuple [.Name x px, .Name y py] kt pt) X.env] := by rfl)
    (hP : (P.all fun p => p.1 != i && p.1 != j) = true := by rfl) (hψ : ψ.n = (φ1.set i k1).set j k2 := by rfl) :
    JS X Z W P kr φ (.Assign [.Tuple [.Name x px, .Name y py] kt pt] (.Tuple [a, b] q2 pt2) pos) ψ (parM i j f) := by
  obtain ⟨q1, q2⟩ := tgLen_ok (env := X.env) (es := [.Name x px, .Name y py]) rfl
  refine ps_imp (ps_asg (pe_tup ha) (pg_tup hc hg q1 q2) hs hw h1) fun D σ H ⟨L, env, pv, S, hp, q⟩ => ?_
  refine ⟨L, env, S, q.bind.mono fun ds e q1 vs H1 hl hv S1 => ?_⟩
  obtain ⟨d1, d2, rfl⟩ := two_of (show ds.length = 2 from hl)
  obtain ⟨v1, v2, rfl⟩ := two_of (show vs.length = 2 from hv)
  · have q1 : Wish X.K Z W L (if i < e.length ∧ j < e.length then Out.ok Fl.nx ((e.set i (some d1)).set j (some d2)) else .bad) _ := q1
    split at q1
    · rename_i hb
      refine ⟨by show 2 ≤ sizeLine; rw [sizeLine_eq]; omega, fun p hp0 => ⟨p, [v1, v2], rfl, .of upd_same, rfl, rfl, ?_⟩⟩
      have S1' : Stt X.K Z φ1 e [⟨.v k1, d1, v1⟩, ⟨.v k2, d2, v2⟩] σ (upd H1 p (.tup [v1, v2])) L := ⟨S1.sim.grow (grow_upd hp0), S1.al, S1.at'⟩
      have S3 := S1'.storeC (i := i) (fun h hh => by rw [List.mem_singleton.mp hh]; exact ⟨_, rfl⟩) hb.1
      have S4 := S3.storeC (i := j) (fun h hh => nomatch hh) (by rw [List.length_set]; exact hb.2)
      rw [hψ] at q1
      have hP1 : (P.all fun p => p.1 != i) = true := by
        rw [List.all_eq_true] at hP ⊢
        intro p hp; have := hP p hp; simp only [Bool.and_eq_true] at this; exact this.1
      have hP2 : (P.all fun p => p.1 != j) = true := by
        rw [List.all_eq_true] at hP ⊢
        intro p hp; have := hP p hp; simp only [Bool.and_eq_true] at this; exact this.2
      exact (show ∀ σ' H', Stt X.K Z ((φ1.set i k1).set j k2) ((e.set i (some d1)).set j (some d2)) [] σ' H' L → Pok P pv σ' → D.nx σ' H' from q1) _ _ S4 ((hp.set hP1).set hP2)
    · exact q1.elim
end
/-! ### len(set(xs)) -/
def dedI (ns : List Int) : List Int := ns.foldl PyProof.Rows.step_dedup []
theorem firstMet_all (ns : List Int) : PyProof.Rows.firstMet (fun i => ns.getD i 0) ns.length = dedI ns := by
  unfold PyProof.Rows.firstMet dedI
  congr 1
  apply List.ext_getElem?
  intro m
  rw [List.getElem?_map]
  by_cases h : m < ns.length
  · rw [List.getElem?_range h]
    simp [List.getElem?_eq_getElem h]
  · rw [List.getElem?_eq_none (by simpa using h), List.getElem?_eq_none (by omega)]
    rfl
theorem dedI_len (ns : List Int) : (dedI ns).length ≤ ns.length := by
  rw [← firstMet_all]
  exact PyProof.Rows.firstMet_length_le _ _
def tLenSetG (K : PySem.W.Frag) (ta : TE) : TE := fun σ H Q => ta σ H fun x H1 => ∃ (l : Addr) (ns : List Int), x = .ref l ∧ SqL K H1 l (ns.map V.int) ∧ ns.length ≤ 4000 ∧ Q (.int ((dedI ns).length : Nat)) H1
section
open PyProof.Rows
theorem pe_lenSetG {X : Cx} {a : Expr} {ta : TE} {p p2 q pos : Pos} (hg : Gl X "len") (hm : X.mg "len" = none) (hg2 : Gl X "set") (hm2 : X.mg "set" = none) (ha : PE X a ta) (hc : X.calm = true := by rfl)
    (na : starEach [a] X.env = (false, eval a X.env) :: starEach [] X.env := by rfl) : PE X (.Call (.Name "len" p) [.Call (.Name "set" p2) [a] [] q] [] pos) (tLenSetG X.K ta) := by
  refine ⟨fun pins s σ H Q I h => ?_⟩
  refine Call_ (ld_blt I hg hm boot_len ?_)
  refine PyProof.Rows.callWith_builtin1 (PyProof.Rows.args_cons ?_ rfl) rfl rfl
  refine Call_ (ld_blt I hg2 hm2 boot_set ?_)
  refine PyProof.Rows.callWith_type1 (PyProof.Rows.args_cons (thn (ha.run pins s σ H _ I h) fun v s1 ⟨x, H1, I1, r1, q1⟩ => PyProof.Rows.args_nil ?_) na) na rfl
  obtain ⟨l, ns, rfl, hq, hl, q1⟩ := q1
  cases r1
  obtain ⟨its, r, pl, hz⟩ := I1.list hq
  have hlen : its.toArray.size = ns.length := by rw [List.size_toArray, ← r.length, List.length_map]
  refine call_set_list (I1.ok.hd hc) pl.isList (by simpa using RZ.intsAre_vals r) (by rw [hlen]; unfold scanBound; omega) fun h' tk hS hk => ?_
  refine PyProof.Rows.args_nil ?_
  rw [hlen, firstMet_all] at hS
  obtain ⟨o, es, ep, t, ho, hex, hd, _, _, _, hf, hn⟩ := hS
  have dl := dedI_len ns
  have I2 : Inv X pins σ H1 { s1 with heap := h', toks := tk } := I1.kept fun b o e => hk b o (Heap.lt_size e) e
  exact call_len_set ho hex hd hf (by rw [hn] <;> omega) ⟨.int ((dedI ns).length : Nat), H1, I2.tok _, ⟨_, by rw [hn]⟩, q1⟩
end
def lenSetD : DV → Option DV
  | .d (.list xs) => (getIs xs).bind fun ns => if ns.length ≤ 4000 then some (.d (.int (dedI ns).length)) else none
  | _ => none
theorem gLenSet {X : Cx} {Z : ClT} {W : WX} {φ φ1 : List Nat} {k : Nat} {fa : M DV} {a : Expr} {p p2 q pos : Pos} (hm : X.mg "len" = none) (hm2 : X.mg "set" = none) (ha : JE X Z W φ a φ1 (.v k) fa) (hc : X.calm = true := by rfl) (hg : Gl X "len" := by rfl) (hg2 : Gl X "set" := by rfl) (hs : noStar a = true := by rfl) :
    JE X Z W φ (.Call (.Name "len" p) [.Call (.Name "set" p2) [a] [] q] [] pos) φ1 (.v 9) (un1 lenSetD (.v k) fa) := by
  refine pe_imp (pe_lenSetG hg hm hg2 hm2 ha hc (star_eq hs)) fun σ H Q ⟨L, env, S, h⟩ => ?_
  refine ⟨L, env, S, h.bind.mono fun d e1 q v H1 S1 => ?_⟩
  obtain ⟨r, hr, q⟩ := q.ofO
  have hr : lenSetD d = some r := hr
  have s0 : Sim X.K Z H1 (⟨k, d, v⟩ :: (roots φ1 e1 σ ++ L)) := S1.sim
  unfold lenSetD at hr
  split at hr
  · rename_i xs
    obtain ⟨ns, hns, hr⟩ := Option.bind_eq_some_iff.mp hr
    split at hr
    · rename_i hl
      cases hr
      obtain ⟨a, vs, G, rfl, h1, h2⟩ := s0.listOf List.mem_cons_self
      rw [getIs_eq hns] at h2
      refine ⟨a, ns, rfl, .of (by rw [h1, h2.ints]), hl, q _ _ ⟨?_, S1.al, fun z hz => by rw [List.mem_singleton.mp hz]; trivial⟩⟩
      exact (s0.sub (List.sublist_cons_self _ _)).cint
    · cases hr
  · cases hr
end Lk
namespace Lk
open PySem PySem.Spec L2
section
variable {X : Cx} {Z : ClT} {W : WX} {φ φ1 : List Nat} {fa : M DV} {a : Expr} {pos px ap : Pos} {x : Str} {k : Nat}
def extO (j : Nat) (d : DV) (e : Ev) : Option Ev := match d, slot e j with
  | .d (.list ys), some (.d (.list xs)) => if xs.length + ys.length ≤ big then some (e.set j (some (.d (.list (xs ++ ys))))) else none
  | _, _ => none
theorem extO_some {j : Nat} {d : DV} {e e3 : Ev} (h : extO j d e = some e3) : ∃ xs ys, d = .d (.list ys) ∧ slot e j = some (.d (.list xs)) ∧ xs.length + ys.length ≤ big ∧ e3 = e.set j (some (.d (.list (xs ++ ys)))) := by
  unfold extO at h
  split at h
  · rename_i ys xs q
    split at h
    · rename_i hb
      cases h
      exact ⟨xs, ys, rfl, q, hb, rfl⟩
    · cases h
  · cases h
def extM (j : Nat) (fa : M DV) : M DV := fun env => (lstM j env).bind fun _ env => (fa env).bind fun d e => .goE (.d .none) (extO j d e)
theorem gExtend (j n : Nat) (ha : JE X Z W φ a φ1 (.v k) fa) (hn : φ1[j]? = some (n + 1) := by rfl) (hN : X.N[j]? = some x := by rfl) (hv : Vis X.env.scope x := by first | exact Or.inl rfl | exact Or.inr (Or.inl rfl) | exact Or.inr (Or.inr rfl)) (hdb : (x == ("__debug__" : Str)) = false := by decide) (hcd : (x == ("__classdict__" : Str)) = false := by decide)
    (hs : noStar a = true := by rfl) (hbase : attributeBase (.Name x px) "extend" X.env (eval (.Name x px) X.env) = eval (.Name x px) X.env := by rfl) (hline : (ap.endLine == pos.line) = true := by rfl) :
    JE X Z W φ (.Call (.Attribute (.Name x px) "extend" ap) [a] [] pos) (φ1.set j 1) (.v 9) (extM j fa) := by
  refine pe_imp (pe_bm PySem.F.plainAttrs_list PySem.F.slot_list_extend PySem.F.type_list_extend mt_extend (pe_var hN hv hdb hcd) (pa_cons ha pa_nil (star_eq hs)) hbase (few_ok (by simp [hs]) (by simp)) hline (star_eq hs)) fun σ H Q ⟨L, env, S, h⟩ => ?_
  obtain ⟨xs0, q0, h⟩ := Wish.lstM h.bind
  obtain ⟨_, w, _, g2, p2⟩ := S.al.get q0
  have ml : (⟨_, .d (.list xs0), w⟩ : Root) ∈ hrts [] ++ (roots φ env σ ++ L) := List.mem_append_left L (p2.mem_iff.mpr List.mem_cons_self)
  obtain ⟨l, vs0, rfl, hl, _⟩ := S.sim.seeL ml
  refine ⟨.ref l, g2, .inl ⟨rfl, vs0, .of hl⟩, ?_⟩
  refine rdE.go S (h.bind.mono fun d e1 h1 v H1 S1 => ?_)
  obtain ⟨e3, z, h2⟩ := h1.goE
  obtain ⟨xs, ys, rfl, y1, hb, rfl⟩ := extO_some z
  have s0 : Sim X.K Z H1 (⟨0, .d (.list ys), v⟩ :: (roots φ1 e1 σ ++ L)) := Sim.weak (n := k) S1.sim (Nat.zero_le _)
  obtain ⟨b, ws, rfl, hbH, hbl, s1⟩ := s0.openL List.mem_cons_self (Nat.zero_le _)
  have S2 : Stt X.K Z φ1 e1 [] σ H1 (kids 0 ys ws ++ L) := by
    refine ⟨?_, S1.al, fun _ h => nomatch h⟩
    have s2 : Sim X.K Z H1 (kids 0 ys ws ++ (roots φ1 e1 σ ++ L)) := s1.sub (List.Sublist.append_left (List.sublist_cons_self _ _) _)
    refine s2.perm ?_
    exact List.perm_append_comm_assoc ..
  obtain ⟨l', vs, b1, b2, b3, b4⟩ := S2.slotL y1 hn
  rw [g2] at b1; cases b1
  refine ⟨l, b, vs, ws, rfl, rfl, b2, hbH, by rw [sizeLine_eq]; unfold big at hb; omega, h2 _ _ ?_⟩
  have c0 : SimT X.K Z H1 [l] (kids 0 (xs ++ ys) (vs ++ ws) ++ (hrts [] ++ (roots φ1 (e1.set j none) σ ++ L))) := by
    rw [kids_append b3, List.append_assoc]
    refine (b4.less (Less.app (kids_less (Nat.zero_le n) xs vs) (Less.refl _))).perm ?_
    refine List.Perm.append_left _ ?_
    show (roots φ1 (e1.set j none) σ ++ (kids 0 ys ws ++ L)).Perm (kids 0 ys ws ++ (roots φ1 (e1.set j none) σ ++ L))
    exact List.perm_append_comm_assoc ..
  have S3 := Stt.slotPut (hs := []) S1.al (fun _ h => nomatch h) g2 b2 (by simp [b3, hbl]) c0
  exact ⟨S3.sim.scal (.d .non), S3.al, fun z hz => by rw [List.mem_singleton.mp hz]; trivial⟩
end
end Lk
namespace Lk
open PySem PySem.Spec L2
section
variable {X : Cx} {Z : ClT} {W : WX} {φ φ1 : List Nat} {fa : M DV} {a : Expr} {pos px ap : Pos} {x : Str} {k : Nat}
def popAtO (j : Nat) (d : DV) (e : Ev) : Option (DV × Ev) := match d, slot e j with
  | .d (.int i), some (.d (.list xs)) => if xs.length ≤ big then (ixN xs.length i).bind fun k => (xs[k]?).map fun x => (.d x, e.set j (some (.d (.list (xs.eraseIdx k))))) else none
  | _, _ => none
theorem popAtO_some {j : Nat} {d : DV} {e : Ev} {r : DV × Ev} (h : popAtO j d e = some r) : ∃ i xs k x, d = .d (.int i) ∧ slot e j = some (.d (.list xs)) ∧ xs.length ≤ big ∧ ixN xs.length i = some k ∧ xs[k]? = some x ∧ r = (.d x, e.set j (some (.d (.list (xs.eraseIdx k))))) := by
  unfold popAtO at h
  split at h
  · rename_i i xs q
    split at h
    · rename_i hb
      obtain ⟨k, hk, h⟩ := Option.bind_eq_some_iff.mp h
      obtain ⟨x, hx, h⟩ := Option.map_eq_some_iff.mp h
      exact ⟨i, xs, k, x, rfl, q, hb, hk, hx, h.symm⟩
    · cases h
  · cases h
def popAtM (j : Nat) (fa : M DV) : M DV := fun env => (lstM j env).bind fun _ env => (fa env).bind fun d e => match popAtO j d e with
  | some (x, e') => .ok x e'
  | none => .bad
theorem kids_erase {m : Nat} : ∀ {xs : List PyData} {vs : List V} {k : Nat} {x : PyData} {v : V}, xs.length = vs.length → xs[k]? = some x → vs[k]? = some v → (kids m xs vs).Perm (⟨m, .d x, v⟩ :: kids m (xs.eraseIdx k) (vs.eraseIdx k))
  | [], _, _, _, _, _, h, _ => by simp at h
  | _ :: _, [], _, _, _, h, _, _ => by simp at h
  | a :: xs, b :: vs, 0, x, v, _, h1, h2 => by
    simp at h1 h2
    subst h1 h2
    exact .refl _
  | a :: xs, b :: vs, k + 1, x, v, h, h1, h2 => by
    have ih := kids_erase (m := m) (xs := xs) (vs := vs) (k := k) (x := x) (v := v) (by simpa using h) (by simpa using h1) (by simpa using h2)
    exact (List.Perm.cons _ ih).trans (.swap _ _ _)
theorem gPopAt (j n : Nat) (ha : JE X Z W φ a φ1 (.v k) fa) (hn : φ1[j]? = some (n + 1) := by rfl) (hN : X.N[j]? = some x := by rfl) (hv : Vis X.env.scope x := by first | exact Or.inl rfl | exact Or.inr (Or.inl rfl) | exact Or.inr (Or.inr rfl)) (hdb : (x == ("__debug__" : Str)) = false := by decide) (hcd : (x == ("__classdict__" : Str)) = false := by decide)
    (hs : noStar a = true := by rfl) (hbase : attributeBase (.Name x px) "pop" X.env (eval (.Name x px) X.env) = eval (.Name x px) X.env := by rfl) (hline : (ap.endLine == pos.line) = true := by rfl) :
    JE X Z W φ (.Call (.Attribute (.Name x px) "pop" ap) [a] [] pos) (φ1.set j (n + 1)) (.v n) (popAtM j fa) := by
  refine pe_imp (pe_bm PySem.F.plainAttrs_list PySem.F.slot_list_pop PySem.F.type_list_pop mt_popAt (pe_var hN hv hdb hcd) (pa_cons ha pa_nil (star_eq hs)) hbase (few_ok (by simp [hs]) (by simp)) hline (star_eq hs)) fun σ H Q ⟨L, env, S, h⟩ => ?_
  obtain ⟨xs0, q0, h⟩ := Wish.lstM h.bind
  obtain ⟨_, w, _, g2, p2⟩ := S.al.get q0
  have ml : (⟨_, .d (.list xs0), w⟩ : Root) ∈ hrts [] ++ (roots φ env σ ++ L) := List.mem_append_left L (p2.mem_iff.mpr List.mem_cons_self)
  obtain ⟨l, vs0, rfl, hl, _⟩ := S.sim.seeL ml
  refine ⟨.ref l, g2, .inl ⟨rfl, vs0, .of hl⟩, ?_⟩
  refine rdE.go S (h.bind.mono fun d e1 h1 v H1 S1 => ?_)
  cases z : popAtO j d e1 with
  | none => rw [z] at h1; exact h1.elim
  | some r =>
    rw [z] at h1
    obtain ⟨i, xs, kk, y, rfl, y1, hbig, hk, hy, rfl⟩ := popAtO_some z
    unfold big at hbig
    have ev : v = .int i := S1.sim.int (n := k) List.mem_cons_self
    subst ev
    have S2 : Stt X.K Z φ1 e1 [] σ H1 L := ⟨S1.sim.sub (List.sublist_cons_self _ _), S1.al, fun _ h => nomatch h⟩
    obtain ⟨l', vs, b1, b2, b3, b4⟩ := S2.slotL y1 hn
    rw [g2] at b1; cases b1
    obtain ⟨hk0, hk1, hk2, hk3⟩ := ixN_seq hk
    have hlt : kk < vs.length := by omega
    have h2 : vs[kk]? = some vs[kk] := List.getElem?_eq_getElem hlt
    refine ⟨l, vs, i, kk, vs[kk], rfl, rfl, b2, ?_, ?_, by rw [← b3]; exact hk0, h2, ?_⟩
    · omega
    · omega
    · have c0 : SimT X.K Z H1 [l] (kids n (xs.eraseIdx kk) (vs.eraseIdx kk) ++ (hrts [⟨.v n, .d y, vs[kk]⟩] ++ (roots φ1 (e1.set j none) σ ++ L))) := by
        refine b4.perm ?_
        refine (List.Perm.append_right _ (kids_erase b3 hy h2)).trans ?_
        rw [List.cons_append]
        exact List.perm_middle.symm
      exact (show ∀ v H', Stt X.K Z (φ1.set j (n + 1)) (e1.set j (some (.d (.list (xs.eraseIdx kk))))) [⟨.v n, .d y, v⟩] σ H' L → Q v H' from h1) _ _ (Stt.slotPut S1.al (fun z hz => by rw [List.mem_singleton.mp hz]; trivial) g2 b2 (by rw [List.length_eraseIdx, List.length_eraseIdx, b3]) c0)
end
end Lk
namespace Lk
open PySem PySem.Spec L2
def dedP (ps : List (Int × Int)) : List (Int × Int) := ps.foldl (fun acc p => if p ∈ acc then acc else acc ++ [p]) []
theorem dedP_go : ∀ (ps acc : List (Int × Int)), acc.Nodup → (ps.foldl (fun acc p => if p ∈ acc then acc else acc ++ [p]) acc).Nodup ∧ ∀ q, q ∈ ps.foldl (fun acc p => if p ∈ acc then acc else acc ++ [p]) acc ↔ q ∈ acc ∨ q ∈ ps
  | [], acc, h => ⟨h, fun q => by simp⟩
  | p :: ps, acc, h => by
    rw [List.foldl_cons]
    by_cases m : p ∈ acc
    · rw [if_pos m]
      obtain ⟨h1, h2⟩ := dedP_go ps acc h
      refine ⟨h1, fun q => ?_⟩
      rw [h2, List.mem_cons]
      exact ⟨fun z => z.elim .inl fun z => .inr (.inr z), fun z => z.elim .inl fun z => z.elim (fun e => .inl (e ▸ m)) .inr⟩
    · rw [if_neg m]
      obtain ⟨h1, h2⟩ := dedP_go ps (acc ++ [p]) (List.nodup_append.mpr ⟨h, by simp, by
        rintro a ha b hb rfl
        rw [List.mem_singleton.mp hb] at ha
        exact m ha⟩)
      refine ⟨h1, fun q => ?_⟩
      rw [h2, List.mem_append, List.mem_singleton, List.mem_cons, or_assoc]
theorem dedP_nodup (ps : List (Int × Int)) : (dedP ps).Nodup := (dedP_go ps [] List.nodup_nil).1
theorem dedP_mem {ps : List (Int × Int)} {q : Int × Int} : q ∈ dedP ps ↔ q ∈ ps := by
  have := (dedP_go ps [] List.nodup_nil).2 q
  unfold dedP
  rw [this]
  simp
def sortSetD : DV → Option DV
  | .d (.list xs) => (getPs xs).bind fun ps => if ps.length < 64 ∧ (ps.all fun p => decide (0 ≤ p.1) && decide (p.1 < 64) && (decide (0 ≤ p.2) && decide (p.2 < 64))) = true then some (.d (.list ((srtB SrtO.lexB (dedP ps)).map pairD))) else none
  | _ => none
abbrev two (p : Int × Int) : List Int := [p.1, p.2]
section
variable {X : Cx} {Z : ClT} {W : WX} {φ φ1 : List Nat} {fa : M DV} {H : Hp} {a : Expr} {k : Nat}
theorem den_pairs : ∀ {ps : List (Int × Int)} {vs : List V} {G : Ft}, DenL X.K H (ps.map pairD) vs G → ∃ ks : List (Addr × List Int), vs = ks.map (fun p => V.ref p.1) ∧ ks.map (·.2) = ps.map two ∧ ∀ p ∈ ks, H p.1 = some (.tup (p.2.map V.int))
  | [], _, _, h => by cases h; exact ⟨[], rfl, rfl, by simp⟩
  | p :: ps, _, _, h => by
    cases h with
    | cons h1 h2 =>
      obtain ⟨ks, rfl, e2, e3⟩ := den_pairs h2
      cases h1 with
      | @tup b ws _ _ q1 q2 =>
        cases q2 with
        | cons a1 t1 =>
          cases t1 with
          | cons a2 t2 =>
            cases t2
            cases a1
            cases a2
            refine ⟨(b, two p) :: ks, rfl, by simp [e2], fun q hq => ?_⟩
            rcases List.mem_cons.mp hq with rfl | hq
            · exact q1
            · exact e3 q hq
theorem gSortSet {p p2 q pos : Pos} (hm : X.mg "sorted" = none) (hm2 : X.mg "set" = none) (ha : JE X Z W φ a φ1 (.v k) fa) (hu : X.A.units + 64 < cLine) (hc : X.calm = true := by rfl) (hg : Gl X "sorted" := by rfl) (hg2 : Gl X "set" := by rfl) (hs : noStar a = true := by rfl) :
    JE X Z W φ (.Call (.Name "sorted" p) [.Call (.Name "set" p2) [a] [] q] [] pos) φ1 (.v 1) (un1 sortSetD (.v k) fa) := by
  have inner := pe_callTy (p := p2) (pos := q) (cr_setOfT hc hu) hg2 hm2 PyProof.Rows.boot_set (pa_cons ha pa_nil (star_eq hs)) (by decide) (by decide) (star_eq hs) rfl
  have outer := pe_callB (p := p) (pos := pos) (cr_sortedT hc) hg hm (by decide +kernel : bootBuiltins "sorted" = some (.builtin "sorted")) (pa_cons inner pa_nil rfl) (by decide) (by decide) rfl rfl
  refine pe_imp outer fun σ H Q ⟨L, env, S, h⟩ => ?_
  refine ⟨L, env, S, h.bind.mono fun d e1 q v H1 S1 => ?_⟩
  obtain ⟨r, hr, qq⟩ := q.ofO
  have hr : sortSetD d = some r := hr
  have s0 : Sim X.K Z H1 (⟨k, d, v⟩ :: (roots φ1 e1 σ ++ L)) := S1.sim
  unfold sortSetD at hr
  split at hr
  · rename_i xs
    obtain ⟨ps, hps, hr⟩ := Option.bind_eq_some_iff.mp hr
    split at hr
    · rename_i hb
      cases hr
      have ex := getPs_eq hps
      subst ex
      obtain ⟨l, vs, G, rfl, h1, h2⟩ := s0.listOf List.mem_cons_self
      obtain ⟨ks, rfl, e2, e3⟩ := den_pairs h2
      have lk : ks.length = ps.length := by
        have := congrArg List.length e2
        rwa [List.length_map, List.length_map] at this
      obtain ⟨l', vs', e4, h1', hlen, s1⟩ := (Sim.weak (n := k) s0 (Nat.zero_le _)).openL List.mem_cons_self (Nat.zero_le _)
      cases e4
      rw [h1] at h1'
      cases h1'
      have s2 : Sim X.K Z H1 (kids 0 (ps.map pairD) (ks.map fun p => V.ref p.1) ++ (roots φ1 e1 σ ++ L)) := s1.sub (List.Sublist.append_left (List.sublist_cons_self _ _) _)
      have inK : ∀ z ∈ ks, ∃ p ∈ ps, z.2 = two p ∧ (⟨0, .d (pairD p), .ref z.1⟩ : Root) ∈ kids 0 (ps.map pairD) (ks.map fun p => V.ref p.1) := by
        have key : ∀ (ks : List (Addr × List Int)) (ps : List (Int × Int)), ks.map (·.2) = ps.map two → ∀ z ∈ ks, ∃ p ∈ ps, z.2 = two p ∧ (⟨0, .d (pairD p), .ref z.1⟩ : Root) ∈ kids 0 (ps.map pairD) (ks.map fun p => V.ref p.1) := by
          intro ks
          induction ks with
          | nil => intro ps _ z hz; exact nomatch hz
          | cons w ks ih =>
            intro ps e z hz
            cases ps with
            | nil => simp at e
            | cons p ps =>
              simp only [List.map_cons, List.cons.injEq] at e
              rcases List.mem_cons.mp hz with rfl | hz
              · exact ⟨p, List.mem_cons_self, e.1, List.mem_cons_self⟩
              · obtain ⟨p', h1, h2, h3⟩ := ih ps e.2 z hz
                exact ⟨p', List.mem_cons_of_mem _ h1, h2, List.mem_cons_of_mem _ h3⟩
        exact key ks ps e2
      have bd : ∀ p ∈ ps, (0 ≤ p.1 ∧ p.1 < 64) ∧ 0 ≤ p.2 ∧ p.2 < 64 := fun p hp => by
        have := List.all_eq_true.mp hb.2 p hp
        simp only [Bool.and_eq_true, decide_eq_true_eq] at this
        exact this
      refine ⟨l, ks, rfl, .of h1, fun z hz => .of (e3 z hz), by omega, fun a Ls ha hsub hall => ?_⟩
      refine ⟨a, Ls, 2, 64, rfl, upd_same, fun z hz => ?_, by omega, fun z hz => ?_, fun L' b hperm hnd hfew hsort hbn => ?_⟩
      · have t := e3 z (hsub z hz)
        exact .of (by rw [upd_ne (ne_of_none t ha)]; exact t)
      · obtain ⟨p, hp, e, _⟩ := inK z (hsub z hz)
        rw [e]
        have := bd p hp
        exact ⟨rfl, fun m hm => by simp at hm; rcases hm with rfl | rfl <;> omega⟩
      · let pr : List Int → Int × Int := fun l => (l.getD 0 0, l.getD 1 0)
        have prt : ∀ p, pr (two p) = p := fun p => rfl
        have hU : L'.map (·.2) = (L'.map fun z => pr z.2).map two := by
          rw [List.map_map]
          refine List.map_congr_left fun z hz => ?_
          obtain ⟨p, hp, e, _⟩ := inK z (hsub z (hperm.mem_iff.mp hz))
          show z.2 = two (pr z.2)
          rw [e, prt]
        have eT : (L'.map fun z => pr z.2) = srtB SrtO.lexB (dedP ps) := by
          have hnd2 : (L'.map fun z => pr z.2).Nodup := by
            rw [hU] at hnd
            exact (List.pairwise_map.mp hnd).imp fun {x y} h e => h (by rw [e])
          have mU : ∀ z ∈ L', ∃ p ∈ ps, z.2 = two p := fun z hz => by
            obtain ⟨p, hp, e, _⟩ := inK z (hsub z (hperm.mem_iff.mp hz))
            exact ⟨p, hp, e⟩
          have srt : SrtO.Srtd SrtO.lexB (L'.map fun z => pr z.2) := by
            refine List.pairwise_map.mpr (List.Pairwise.imp_of_mem (R := fun y z => TS.code 64 y.2 ≤ TS.code 64 z.2 ∧ y.2 ≠ z.2) (fun {y z} hy hz h => ?_) ?_)
            · obtain ⟨p, hp, e⟩ := mU y hy
              obtain ⟨p', hp', e'⟩ := mU z hz
              rw [e, e'] at h
              have b1 := bd p hp
              have b2 := bd p' hp'
              have lt := pair_lt h.1 h.2 b1.1 b1.2 b2.1 b2.2
              show SrtO.lexB (pr z.2) (pr y.2) = false
              rw [e, e', prt, prt]
              cases hx : SrtO.lexB p' p with
              | false => rfl
              | true =>
                rw [SrtO.lexB_iff] at hx
                omega
            · exact List.Pairwise.and hsort (List.pairwise_map.mp hnd)
          have pm : (L'.map fun z => pr z.2).Perm (dedP ps) := (List.perm_ext_iff_of_nodup hnd2 (dedP_nodup ps)).mpr fun p => by
            rw [dedP_mem, List.mem_map]
            constructor
            · rintro ⟨z, hz, rfl⟩
              obtain ⟨p, hp, e⟩ := mU z hz
              rw [e, prt]; exact hp
            · intro hp
              have : two p ∈ ks.map (·.2) := by rw [e2]; exact List.mem_map.mpr ⟨p, hp, rfl⟩
              obtain ⟨w, hw, ew⟩ := List.mem_map.mp this
              have hw2 := hall w hw
              obtain ⟨z, hz, ez⟩ := List.mem_map.mp hw2
              refine ⟨z, hperm.mem_iff.mpr hz, ?_⟩
              rw [ez, ew, prt]
          exact srt_is tot_pair srt pm
        have s3 : Sim X.K Z (upd H1 a (SetTO X.prog X.w a Ls)) (kids 0 (ps.map pairD) (ks.map fun p => V.ref p.1) ++ (roots φ1 e1 σ ++ L)) := s2.grow (grow_upd ha)
        have s4 := s3.dups (ds := (srtB SrtO.lexB (dedP ps)).map pairD) (ws := L'.map fun z => V.ref z.1) (by rw [← eT]; simp) fun r hr => by
          refine List.mem_append_left _ ?_
          rw [← eT] at hr
          have key : ∀ (M : List (Addr × List Int)), (∀ z ∈ M, z ∈ ks) → ∀ r ∈ kids 0 ((M.map fun z => pr z.2).map pairD) (M.map fun z => V.ref z.1), r ∈ kids 0 (ps.map pairD) (ks.map fun p => V.ref p.1) := by
            intro M
            induction M with
            | nil => intro _ r hr; exact nomatch hr
            | cons w M ih =>
              intro hM r hr
              rcases List.mem_cons.mp hr with rfl | hr
              · obtain ⟨p, hp, e, m⟩ := inK w (hM w List.mem_cons_self)
                show (⟨0, .d (pairD (pr w.2)), .ref w.1⟩ : Root) ∈ _
                rw [show pr w.2 = p by rw [e, prt]]
                exact m
              · exact ih (fun z hz => hM z (List.mem_cons_of_mem _ hz)) r hr
          exact key L' (fun z hz => hsub z (hperm.mem_iff.mp hz)) r hr
        have s5 : Sim X.K Z (upd H1 a (SetTO X.prog X.w a Ls)) (kids 0 ((srtB SrtO.lexB (dedP ps)).map pairD) (L'.map fun z => V.ref z.1) ++ (roots φ1 e1 σ ++ L)) := s4.sub (List.Sublist.append_left (List.sublist_append_right _ _) _)
        refine qq _ _ ⟨Sim.mkL (n := 0) s5 (by rw [← eT]; simp) hbn, S1.al, fun z hz => by rw [List.mem_singleton.mp hz]; trivial⟩
    · cases hr
  · cases hr
end
end Lk
namespace Lk
open PySem PySem.Spec L2
section
variable {X : Cx} {Z : ClT} {W : WX} {P : List (Nat × Nat)} {kr : Nat} {φ φ1 : List Nat} {ψ : SF} {f : M (List DV)} {a b : Expr} {ts : List Tm} {pos px py pc pd pt ps q2 : Pos} {x y : Str} {kt kc : Nat}
def dvO (j i : Nat) (xs0 : List DV) (e : Ev) : Option Ev := match xs0, slot e j with
  | [.d (.int u), .d (.int v)], some (.d (.list xs)) => if (0 < v ∧ v < 1073741824) ∧ 0 < xs.length ∧ i < e.length then some ((e.set j (some (.d (.list (xs.set 0 (.int (u / v))))))).set i (some (.d (.int (u % v))))) else none
  | _, _ => none
def dvM (j i : Nat) (ts : List Tm) (f : M (List DV)) : M Fl := fun env => (f env).bind fun ds e => .goE .nx ((nowsD ts ds e).bind fun xs0 => dvO j i xs0 e)
theorem SimT.scal {K : PySem.W.Frag} {H : Hp} {T : List Addr} {R : List Root} {n : Nat} {d : DV} {v : V} (h : SimT K Z H T R) (hd : DenV K Z H d v []) : SimT K Z H T (⟨n, d, v⟩ :: R) := by
  obtain ⟨F, hF, o⟩ := h
  exact ⟨F, ⟨[], F, hd, hF, rfl⟩, o⟩
theorem dvO_some {j i : Nat} {xs0 : List DV} {e e3 : Ev} (h : dvO j i xs0 e = some e3) : ∃ u v xs, xs0 = [.d (.int u), .d (.int v)] ∧ slot e j = some (.d (.list xs)) ∧ (0 < v ∧ v < 1073741824) ∧ 0 < xs.length ∧ i < e.length ∧ e3 = (e.set j (some (.d (.list (xs.set 0 (.int (u / v))))))).set i (some (.d (.int (u % v)))) := by
  unfold dvO at h
  split at h
  · rename_i u v xs q
    split at h
    · rename_i hb
      cases h
      exact ⟨u, v, xs, rfl, q, hb.1, hb.2.1, hb.2.2, rfl⟩
    · cases h
  · cases h
theorem gDivmod {t1 t2 : Tm} (j i n : Nat) (hm : X.mg "divmod" = none) (ha : JA X Z W φ [a, b] φ1 [t1, t2] f) (hN : X.N.Nodup) (hj : X.N[j]? = some x := by rfl) (hi : X.N[i]? = some y := by rfl) (hn : φ1[j]? = some (n + 1) := by rfl) (hij : i ≠ j := by decide) (hc : X.calm = true := by rfl)
    (hv : Vis X.env.scope x := by first | exact Or.inl rfl | exact Or.inr (Or.inl rfl) | exact Or.inr (Or.inr rfl)) (hdb : (x == ("__debug__" : Str)) = false := by decide) (hcd : (x == ("__classdict__" : Str)) = false := by decide)
    (hx : Loc X.env.scope y := by first | exact Or.inl rfl | exact Or.inr rfl) (hf : X.fn y = true ∨ X.env.scope.names.lookup y = some .local := by first | exact Or.inl rfl | exact Or.inr rfl) (hg : Gl X "divmod" := by rfl) (hs1 : noStar a = true := by rfl) (hs2 : noStar b = true := by rfl)
    (hs : swapsWithSole [.Tuple [.Subscript (.Name x px) (.Constant (.int 0) kc pc) ps, .Name y py] kt pt] (.Call (.Name "divmod" pd) [a, b] [] q2) pos.line X.env = pure false := by rfl)
    (hw : swappedStores [.Tuple [.Subscript (.Name x px) (.Constant (.int 0) kc pc) ps, .Name y py] kt pt] (.Call (.Name "divmod" pd) [a, b] [] q2) X.env = pure none := by rfl)
    (h1 : (assignEach [.Tuple [.Subscript (.Name x px) (.Constant (.int 0) kc pc) ps, .Name y py] kt pt] X.env).map (·.2) = [assign (.Tuple [.Subscript (.Name x px) (.Constant (.int 0) kc pc) ps, .Name y py] kt pt) X.env] := by rfl)
    (hP : (P.all fun p => p.1 != i) = true := by rfl) (hψ : ψ.n = (φ1.set j (n + 1)).set i 9 := by rfl) :
    JS X Z W P kr φ (.Assign [.Tuple [.Subscript (.Name x px) (.Constant (.int 0) kc pc) ps, .Name y py] kt pt] (.Call (.Name "divmod" pd) [a, b] [] q2) pos) ψ (dvM j i [t1, t2] f) := by
  have hsu : ∀ v, assign (.Subscript (.Name x px) (.Constant (.int 0) kc pc) ps) X.env v = (do
      let ov ← holding [v] (eval (.Name x px) X.env)
      let iv ← holding [v, ov] (eval (.Constant (.int 0) kc pc) X.env)
      standAt ps
      holding [v, ov, iv] (setItem ov iv v)
      release [v, ov, iv] []) := fun v => rfl
  refine ps_imp (ps_asg (pe_callB call_divmod hg hm (by decide +kernel) ha (by decide) (by decide) (star_eq hs1) (star_any (by simp [hs2]))) (pg_tup hc (pgs_cons (pg_sub (pe_var hj hv hdb hcd) pe_int set_list hsu) (pgs_cons (pg_name hN hi hx hf) pgs_nil)) rfl rfl) hs hw h1) fun D σ H ⟨L, env, pv, S, hp, q⟩ => ?_
  refine ⟨L, env, S, q.bind.mono fun ds e q1 vs H1 hl hv2 S1 => ?_⟩
  obtain ⟨e3, z, qq⟩ := q1.goE
  obtain ⟨xs0, z1, z2⟩ := Option.bind_eq_some_iff.mp z
  obtain ⟨u, w, xs, rfl, y1, hb, hlen, hi2, rfl⟩ := dvO_some z2
  obtain ⟨d1, d2, rfl⟩ := two_of (show ds.length = 2 from hl)
  obtain ⟨v1, v2, rfl⟩ := two_of (show vs.length = 2 from hv2)
  · obtain ⟨n1, n2⟩ : t1.now d1 e = some (.d (.int u)) ∧ t2.now d2 e = some (.d (.int w)) := by
      simp only [nowsD] at z1
      revert z1
      cases t1.now d1 e <;> cases t2.now d2 e <;> simp
    have S1' : Stt X.K Z φ1 e [⟨t1, d1, v1⟩, ⟨t2, d2, v2⟩] σ H1 L := S1
    have e1 : v1 = .int u := S1'.isI (h := ⟨t1, d1, v1⟩) List.mem_cons_self n1
    have e2 : v2 = .int w := S1'.isI (h := ⟨t2, d2, v2⟩) (List.mem_cons_of_mem _ List.mem_cons_self) n2
    subst e1 e2
    have S2 : Stt X.K Z φ1 e [] σ H1 L := S1'.free.free
    obtain ⟨l, vs, b1, b2, b3, b4⟩ := S2.slotL y1 hn
    refine ⟨u, w, rfl, hb, fun p hp0 => ⟨p, [.int (u / w), .int (u % w)], rfl, .of upd_same, rfl, .int (u / w), [.int (u % w)], rfl, ?_⟩⟩
    refine ⟨.ref l, b1, l, vs, 0, 0, rfl, rfl, ?_, ?_, ?_⟩
    · rw [upd_ne (ne_of_none b2 hp0)]; exact b2
    · unfold ixN
      rw [if_pos (by omega), if_pos (by omega)]
      rfl
    · refine ⟨.int (u % w), [], rfl, rfl, ?_⟩
      rw [hψ] at qq
      have b4' : SimT X.K Z (upd H1 p (.tup [.int (u / w), .int (u % w)])) [l] (kids n xs vs ++ (hrts [] ++ (roots φ1 (e.set j none) σ ++ L))) := b4.grow (grow_upd hp0)
      have b2' : upd H1 p (.tup [.int (u / w), .int (u % w)]) l = some (.lst vs) := by rw [upd_ne (ne_of_none b2 hp0)]; exact b2
      obtain ⟨r, pr⟩ := kids_set (m := n) (x := .int (u / w)) (v := .int (u / w)) b3 hlen
      have c2 : SimT X.K Z (upd H1 p (.tup [.int (u / w), .int (u % w)])) [l] (kids n (xs.set 0 (.int (u / w))) (vs.set 0 (.int (u / w))) ++ (hrts [] ++ (roots φ1 (e.set j none) σ ++ L))) := by
        have c0 : SimT X.K Z (upd H1 p (.tup [.int (u / w), .int (u % w)])) [l] (⟨n, .d (.int (u / w)), .int (u / w)⟩ :: (kids n xs vs ++ (hrts [] ++ (roots φ1 (e.set j none) σ ++ L)))) := b4'.scal (.d (.int _))
        have c1 := c0.perm (R' := (r :: kids n (xs.set 0 (.int (u / w))) (vs.set 0 (.int (u / w)))) ++ (hrts [] ++ (roots φ1 (e.set j none) σ ++ L))) (by
          rw [← List.cons_append]
          exact List.Perm.append_right _ pr.symm)
        exact c1.sub (List.sublist_cons_self _ _)
      have S3 := Stt.slotPut (hs := []) S2.al (fun _ h => nomatch h) b1 b2' (by simp [b3]) c2
      have S4 : Stt X.K Z (φ1.set j (n + 1)) (e.set j (some (.d (.list (xs.set 0 (.int (u / w))))))) [⟨.v 9, .d (.int (u % w)), .int (u % w)⟩] σ (upd (upd H1 p (.tup [.int (u / w), .int (u % w)])) l (.lst (vs.set 0 (.int (u / w))))) L := ⟨S3.sim.cint, S3.al, fun z hz => by rw [List.mem_singleton.mp hz]; trivial⟩
      have S5 := S4.storeC (i := i) (fun h hh => nomatch hh) (by rw [List.length_set]; exact hi2)
      exact (show ∀ σ' H', Stt X.K Z ((φ1.set j (n + 1)).set i 9) _ [] σ' H' L → Pok P pv σ' → D.nx σ' H' from qq) _ _ S5 (hp.set hP)
end
end Lk
namespace Lk
open PySem PySem.Spec PyProof.Rows L2
/-- an __init__'s names -/
structure IniS (p : Str) (sc : Scope) : Prop where
  kind : sc.kind = .function
  co : sc.isCoroutine = false
  gen : sc.isGenerator = false
  sf : sc.names.lookup ("self" : Str) = some .local
  pr : sc.names.lookup p = some .local
  su : sc.names.lookup ("super" : Str) = some .globalImplicit
  cl : sc.names.lookup ("__class__" : Str) = some .free
  nocell : ∀ x ∈ sc.names, x.2 ≠ .cell
  free1 : ∀ x ∈ sc.names, x.2 = .free → x.1 = ("__class__" : Str)
  ne : ("self" : Str) ≠ p
/-- the context of an __init__'s body -/
def iniCx (P : Program) (w : World) (K : PySem.W.Frag) (mg : Str → Option Value) (base : Heap) (p qual : Str) (scope : Scope) (f cc : Addr) (cd : Value) (A : Around) (outer : List PySem.Env) (s : Shared) (H : Hp) (E : XK) : Cx where
  prog := P
  w := w
  K := K
  mg := mg
  base := base
  A := A.deeper (PySem.W.ksEnv qual scope s.heap.objs.size f cd cc)
  N := ["self", p]
  s_0 := s
  H_0 := H
  env := PySem.W.ksEnv qual scope s.heap.objs.size f cd cc
  outer := outer
  stack := PySem.W.ksEnv qual scope s.heap.objs.size f cd cc :: outer
  ex := []
  calm := true
  fn := fun _ => false
  pn := []
  xe := fun e s' => wpAny (model P w) (A.deeper (PySem.W.ksEnv qual scope s.heap.objs.size f cd cc)) (leaving (PySem.W.ksEnv qual scope s.heap.objs.size f cd cc) e) (fun _ s'' => L2.CX P w outer H s E e s'') (fun e' s'' => L2.CX P w outer H s E e' s'') s'
section
variable {P : Program} {w : World} {K : PySem.W.Frag} {mg : Str → Option Value} {base : Heap} {p qual : Str} {scope : Scope} {f cc C : Addr} {cd : Value} {A : Around} {outer : List PySem.Env} {s : Shared} {H : Hp} {E : XK}
theorem iniInv {x y : V} {u v : Value} {h₀ : Heap} {tk : Nat} {cl : Value} {cld : Option Addr} {csl : Array (Option Value)} (S : IniS p scope) (hd : A.handled = none) (e0 : Env0 P w K mg base A outer s H) (hcell : K.lookup cc = some ⟨cl, cld, .cell (some (.ref C)), csl⟩)
    (hns : h₀.Ns s.heap.objs.size (fun n => (([("self", u), (p, v)] : List (Str × Value)).reverse).lookup n)) (kp : ∀ b o, s.heap.get? b = some o → h₀.get? b = some o) (r1 : L2.RelV x u) (r2 : L2.RelV y v) :
    Inv (iniCx P w K mg base p qual scope f cc cd A outer s H E) [] [some x, some y] H { s with heap := h₀, toks := tk } := by
  have noA : ∀ b : Addr, b ∉ (iniCx P w K mg base p qual scope f cc cd A outer s H E).ex := fun b z => absurd (show b ∈ ([] : List Addr) from z) (by simp)
  have hcb : base.get? cc = some ⟨cl, cld, .cell (some (.ref C)), csl⟩ := e0.mod.kin _ _ hcell
  have look1 : ∀ {n : Str} {c : Addr}, ([(("__class__" : Str), cc)] : List (Str × Addr)).lookup n = some c → n = ("__class__" : Str) ∧ c = cc := fun {n c} h => by
    have := PySem.mem_of_lookup h
    simp at this
    exact this
  refine ⟨⟨e0.mod, S.kind, rfl, rfl, Nat.le_refl _, fun n z c e1 e2 => (look1 e1).1.trans (look1 e2).1.symm, fun n hn => ?_, fun n c z _ => ?_, fun _ => hd, Around.frames_deeper e0.frames, .inr ⟨rfl, rfl⟩, fun b z => absurd z (noA b), e0.bs, e0.bsz, fun b _ _ => noA b,
      fun b z => absurd z (noA b), e0.funs, e0.frf⟩,
    rfl, e0.bare, Un.kept kp, ⟨_, hns, fun i n z e1 e2 e3 => ?_⟩, fun n c e => ?_, e0.hok.fresh (Nat.le_refl _), fun n c e => ?_, fun q hq => absurd (show q ∈ ([] : List (Addr × Obj)) ++ [] from hq) (by simp), e0.hok.kept kp, rfl⟩
  · have hn : scope.names.lookup n = some .cell ∨ scope.names.lookup n = some .free := hn
    rcases hn with hn | hn
    · exact absurd rfl (S.nocell _ (PySem.mem_of_lookup hn))
    · have := S.free1 _ (PySem.mem_of_lookup hn) rfl
      subst this
      exact ⟨cc, rfl⟩
  · have z : false = true := z
    cases z
  · have e1 : (["self", p] : List Str)[i]? = some n := e1
    match i, e1, e2 with
    | 0, e1, e2 =>
      cases e1
      cases e2
      refine ⟨u, r1, .inl ⟨S.sf, ?_⟩⟩
      show List.lookup ("self" : Str) [(p, v), (("self" : Str), u)] = some u
      have hb : (("self" : Str) == p) = false := by simpa using S.ne
      simp [List.lookup, hb]
    | 1, e1, e2 =>
      cases e1
      cases e2
      exact ⟨v, r2, .inl ⟨S.pr, by simp [List.lookup]⟩⟩
    | i + 2, e1, e2 => simp at e1
  · obtain ⟨_, rfl⟩ := look1 e
    exact ⟨_, _, kp _ _ (e0.bs _ _ hcb).1, rfl⟩
  · obtain ⟨_, rfl⟩ := look1 e
    exact (e0.bs _ _ hcb).2
end
end Lk
namespace Lk
open PySem PySem.Spec PyProof.Rows L2
/-- what the written part says of the class, its __init__ and its cell -/
structure IniC (K : PySem.W.Frag) (mg : Str → Option Value) (P : Program) (C cc cda f : Addr) (fd : FuncData) : Prop where
  oex : OexC K C
  cell : ∃ cl cld csl, K.lookup cc = some ⟨cl, cld, .cell (some (.ref C)), csl⟩
  fn : ∃ oc od osl, K.lookup f = some ⟨oc, od, .func fd, osl⟩
  head : ∃ ar, (fd.params.posonlyargs ++ fd.params.args).head? = some ar ∧ ar.arg = ("self" : Str)
  code : ∃ ccl cdd vs ccs file tf, K.lookup cda = some ⟨ccl, cdd, .fields vs, ccs⟩ ∧ vs[2]? = some (.str file tf) ∧ ((P.main.file : Str) == file) = true
  top : (P.main.scope.names.lookup ("super" : Str)).isSome = false
  sup : mg "super" = none
  third : PySem.W.nsIn K cStatics "thirdparty.any" = some none
  up : PySem.W.ks_superIn K C C "__init__" = some (some (.builtin "ValueError.__init__"))
  ve : PySem.W.subIn K (.ref C) (.type "ValueError") = some true
  self : PySem.W.mroIn K C (.ref C) = some true
section
variable {prog : Program} {w : World} {A : Around} {E : Value → Shared → Prop} {h : Heap} {g : Array GenState} {d : Drawn} {t : Nat} {os : OsState}
/-- ValueError.__init__ bound to an exception, called with nothing -/
theorem call_mw {nm q : Str} {C N : Addr} {bs bm : List Value} {hdct : Bool} {sn : List Str} {sub : List Value} {ab : Bool} {col : Option Bool} {dd : Option Addr} {k0 k1 k2 k3 k5 : Option Value} {u e t0 : Addr} {Q : Value → Shared → Prop}
    (hC : h.get? C = some (excClassObj nm q C N bs bm hdct sn sub ab col dd k0 k1 k2 k3 k5 "ValueError.__new__")) (he : h.get? e = some (HandSPX.excO C t0)) (hu : h.get? u = some (PySem.W.kxs_mw "ValueError.__init__" e))
    (hq : ∀ h' t1, (∀ b o, b ≠ e → h.get? b = some o → h'.get? b = some o) → h'.get? e = some (HandSPX.excO C t1) → Q .none ⟨h', g, d, t, os⟩) :
    wpAny (model prog w) A (call (.ref u) []) Q E ⟨h, g, d, t, os⟩ := by
  refine wpAny_call (codeAny_of_tree ?_)
  show wpAny _ A.in1 (callAny (.ref u) ⟨[], []⟩) _ _ _
  simp only [callAny]
  refine wpAny_bind (wpAny_load hu ?_)
  simp only [PySem.W.kxs_mw, show (Value.type "method-wrapper" == Value.type "method" || Value.type "method-wrapper" == Value.type "builtin_function_or_method" || Value.type "method-wrapper" == Value.type "method-wrapper") = true by decide, if_true]
  refine PySem.W.KFB.if_so (by decide) ?_
  refine wpAny_bind (PySem.W.check_bound_init F.excBase_ValueError.toExcCallFacts hC he rfl ?_)
  refine wpAny_bind (wpAny_pure (wpAny_pure ?_))
  refine ⟨Code.quiet_builtin _ (by decide +kernel), codeAny_builtin F.excBase_ValueError.initEntry ?_⟩
  rw [Around.under_plainId F.excBase_ValueError.init.plain _]
  wp_walk
  refine hq _ h.objs.size (fun b o hb ho => ?_) ?_
  · rw [Heap.get?_update_other _ _ (Ne.symm hb)]
    exact Heap.get?_push_of_some _ ho
  · rw [Heap.get?_update_self _ (Heap.get?_push_of_some _ he) rfl]
    rfl
end
section
variable {X : Cx} {pins : List (Addr × Obj)} {σ : L2.St} {H : Hp} {s : Shared} {p qual : Str} {scope : Scope} {f cc C L cda a : Addr} {fd : FuncData}
theorem sup_ini {body : List Stmt} {p0 p1 p2 p3 p4 : Pos} {E : Value → Shared → Prop} {pl : Sem Bool} (hi : interactive X.env = false) (hsw : swapsWith (.Call (.Attribute (.Call (.Name "super" p0) [] [] p1) "__init__" p2) [] [] p3) none p4.line X.env = pure false)
    (hev : eval (.Call (.Attribute (.Call (.Name "super" p0) [] [] p1) "__init__" p2) [] [] p3) X.env = (do
      let ov ← attributeBase (.Call (.Name "super" p0) [] [] p1) "__init__" X.env (eval (.Call (.Name "super" p0) [] [] p1) X.env)
      standAt p2.atName
      let (f, first) ← holding [ov] (getMethod ov "__init__" pl)
      callWith p3 f first (backTo p3 (starEach [] X.env)) [])) (S : IniS p scope) (T : IniC X.K X.mg X.prog C cc cda f fd) (ev : X.env = PySem.W.ksEnv qual scope L f (.ref cda) cc) (hN : X.N[0]? = some ("self" : Str)) (I : Inv X pins σ H s) (h0 : σ[0]? = some (some (V.ref a))) (e : H a = some (exo a C none)) :
    PySem.wpAt (model X.prog X.w) X.A (.func body X.env) (exec (.Expr (.Call (.Attribute (.Call (.Name "super" p0) [] [] p1) "__init__" p2) [] [] p3) p4) X.env) (fun fl s' => fl = .next ∧ Inv X pins σ H s') E s := by
  obtain ⟨cl, cld, csl, hcell⟩ := T.cell
  obtain ⟨oc, od, osl, hf⟩ := T.fn
  obtain ⟨ar, har, hare⟩ := T.head
  obtain ⟨ccl, cdd, vs, ccs, file, tf, hcode, hvs, hfile⟩ := T.code
  obtain ⟨nm, q, N, bs, bm, sn, sub, ab, col, dd, k0, k1, k2, k3, k5, hC, hbm⟩ := T.oex.cls
  obtain ⟨m, hns, loc⟩ := I.loc
  have hk : X.env.scope.kind = .function := I.ok.kind
  have hks : X.env.kindOf "super" = some .globalImplicit := by rw [ev]; exact S.su
  have hkc : X.env.kindOf "__class__" = some .free := by rw [ev]; exact S.cl
  have hse : X.env.kindOf "self" = some .local := by rw [ev]; exact S.sf
  have hms : m "self" = some (.ref a) := by
    obtain ⟨u, r, k⟩ := loc 0 "self" _ hN h0 (.inl hse)
    obtain rfl : u = Value.ref a := r
    rcases k with ⟨_, k⟩ | ⟨k, _⟩
    · exact k
    · rw [hse] at k
      rcases k with k | k <;> cases k
  refine ks_wpAt_Expr_any ?_ hi hsw
  refine ks_wpAt_MethodCall ?_ hev
  refine ks_wpAt_super_base (f := f) hks hkc (by rfl) (by rw [ev]) (I.kIn _ _ hf) rfl har (by rw [ev]) (I.kIn _ _ hcode) rfl hvs hfile T.top ?_
  rw [hare]
  have hC' := I.kIn _ _ hC
  obtain ⟨t1, ho⟩ := exo_at I.hok e
  obtain ⟨mb, h1, h2⟩ := I.mod.blt
  refine PySem.W.ks_loadName_global hk hks (Calls.loadGlobal_builtin (by rw [I.ok.glob]; exact I.mod.glob.keeps I.bk) T.sup (by rw [I.ok.blt]; exact h1.keeps I.bk) ((h2 "super" (by decide)).trans Boot.«super») ⟨rfl, ?_⟩)
  refine wpAny_loadName_free hk hkc (c := cc) (by rw [ev]; rfl) ⟨_, I.kIn _ _ hcell, rfl⟩ ?_
  refine wpAny_loadName_local hk hse hns hms ?_
  refine ks_wpAny_isType_cls hC' rfl ⟨rfl, ?_⟩
  obtain ⟨hp, g, d, t, os⟩ := s
  refine ks_wpAny_call_super hC' rfl ho rfl (fun c e => by cases e) (PySem.W.looks_mroIn I.kIn T.self) (fun h' e' k => ?_)
  have J := I.kept (t' := t) k
  have ho' := k _ _ ho
  cases hc : PySem.W.clsIn X.K C with
  | none =>
    have z := T.up
    unfold PySem.W.ks_superIn at z
    rw [hc] at z
    cases z
  | some cdC =>
  have z := T.up
  unfold PySem.W.ks_superIn at z
  rw [hc] at z
  have hxC : a ≠ C := fun q => by
    rw [q, hC'] at ho
    have z := congrArg Obj.data (Option.some.inj ho)
    cases z
  have I0 : PySem.W.InstAt h' a (HandSPX.excO C t1) C none := ⟨ho', rfl, rfl, trivial⟩
  refine PySem.W.kxs_getMethod PySem.W.kxs_ValueError e' (PySem.W.looks_opaque J.kIn T.third) (l₀ := cdC.mro) (fun A Q E s k q => wpAny_bind ((PySem.W.looks_clsIn J.kIn hc) A _ E s k (wpAny_pure q))) rfl J.kIn z (I0.type.andThen (PySem.W.looks_subIn J.kIn T.ve)) hxC (by decide) ?_
  have J2 := J.kept (t' := t + 1) (h' := h'.push (PySem.W.kxs_mw "ValueError.__init__" a)) (fun b o e => Heap.get?_push_of_some _ e)
  have hm : (h'.push (PySem.W.kxs_mw "ValueError.__init__" a)).get? h'.objs.size = some (PySem.W.kxs_mw "ValueError.__init__" a) := Heap.get?_push_at rfl rfl
  refine PySem.W.kxs_callWith (i := "ValueError.__init__") (x := a) rfl (evalArgs_empty ⟨hm, ?_⟩)
  refine call_mw (J2.kIn _ _ hC) (Heap.get?_push_of_some _ ho') hm fun h2 t2 k2 hx => ?_
  have J3 := J2.write (t' := t + 1) (x := a) (e := a) (o := exo a C none) (by rw [e]; exact True.intro) (.inl rfl) k2 ⟨_, hx⟩ (exo_ok hx)
  have eu : upd H a (exo a C none) = H := by
    funext b
    by_cases hb : b = a
    · rw [hb, upd_same, e]
    · rw [upd_ne hb]
  rw [eu] at J3
  exact ⟨rfl, J3⟩
end
end Lk
namespace Lk
open PySem PySem.Spec PyProof.Rows L2
/-- self.fl = p -/
def spIni (K : PySem.W.Frag) (C : Addr) (fl : Str) : Sp := fun vs H Q _ => ∃ (a : Addr) (y : V), vs = [.ref a, y] ∧ H a = some (exo a C none) ∧ ∀ dx, H dx = none → dx ≠ a → Q .non (upd (upd H dx (exd dx [(fl, y)])) a (exo a C (some dx)))
section
variable {P : Program} {w : World} {K : PySem.W.Frag} {mg : Str → Option Value} {base : Heap} {p qual name fl : Str} {scope : Scope} {f cc C cda : Addr} {params : Arguments} {dV kV doc pm ct : Value} {an : Option Addr} {k : Nat} {p0 p1 p2 p3 p4 p5 p6 p7 p8 : Pos}
theorem fn_ini {pl : Sem Bool} (S : IniS p scope)
    (T : IniC K mg P C cc cda f (PySem.W.ksFn name qual params [.Expr (.Call (.Attribute (.Call (.Name "super" p0) [] [] p1) "__init__" p2) [] [] p3) p4, .Assign [.Attribute (.Name "self" p5) fl p6] (.Name p p7) p8] scope dV kV doc pm an (.ref cda) ct cc))
    (hcd : PySem.W.codeIn K (.ref cda) qual = true) (hno : PySem.W.findIn K (.ref C) fl = some none)
    (hi : ∀ L, interactive (PySem.W.ksEnv qual scope L f (.ref cda) cc) = false)
    (hsw : ∀ L, swapsWith (.Call (.Attribute (.Call (.Name "super" p0) [] [] p1) "__init__" p2) [] [] p3) none p4.line (PySem.W.ksEnv qual scope L f (.ref cda) cc) = pure false)
    (hsw2 : ∀ L, swapsWith (.Name p p7) (some (.Attribute (.Name "self" p5) fl p6)) p8.line (PySem.W.ksEnv qual scope L f (.ref cda) cc) = pure false)
    (hev : ∀ L, eval (.Call (.Attribute (.Call (.Name "super" p0) [] [] p1) "__init__" p2) [] [] p3) (PySem.W.ksEnv qual scope L f (.ref cda) cc) = (do
      let ov ← attributeBase (.Call (.Name "super" p0) [] [] p1) "__init__" (PySem.W.ksEnv qual scope L f (.ref cda) cc) (eval (.Call (.Name "super" p0) [] [] p1) (PySem.W.ksEnv qual scope L f (.ref cda) cc))
      standAt p2.atName
      let (g, first) ← holding [ov] (getMethod ov "__init__" pl)
      callWith p3 g first (backTo p3 (starEach [] (PySem.W.ksEnv qual scope L f (.ref cda) cc))) [])) (hdb : (p == ("__debug__" : Str)) = false := by decide) (hpc : (p == ("__classdict__" : Str)) = false := by decide) :
    FnOk P w K mg base (L2.CX P w) (k + 1) f (PySem.W.ksFn name qual params [.Expr (.Call (.Attribute (.Call (.Name "super" p0) [] [] p1) "__init__" p2) [] [] p3) p4, .Assign [.Attribute (.Name "self" p5) fl p6] (.Name p p7) p8] scope dV kV doc pm an (.ref cda) ct cc) ["self", p] (spIni K C fl) := by
  refine ⟨fun vs H Q E ⟨a, y, e, _⟩ => by rw [e]; rfl, fun A outer s H args us vs Q E room e0 hb r hsp => ?_⟩
  obtain ⟨a, y, rfl, ea, q⟩ := hsp
  obtain ⟨oc, od, osl, hf⟩ := T.fn
  obtain ⟨cl, cld, csl, hcell⟩ := T.cell
  cases r with
  | @cons _ u _ us ra r =>
  cases r with
  | @cons _ v _ us rv r =>
  cases r with
  | nil =>
  have inK : K.In s.heap := e0.mod.kin.keeps fun b o z => (e0.bs b o z).1
  have lim : s.heap.NoLimit := e0.mod.nolimit.keeps fun b o z => (e0.bs b o z).1
  refine ks_codeAny_call_defAt (binds := [("self", u), (p, v)]) room.depth (inK _ _ hf) rfl lim (PySem.W.codeRec_of inK hcd) rfl hb S.nocell (fun x hx => ?_) (fun h₁ hns hk₁ => ?_) S.co S.gen S.kind
  · rcases List.mem_cons.mp hx with z | hx
    · rw [z]
      exact S.sf
    · rcases List.mem_cons.mp hx with z | hx
      · rw [z]
        exact S.pr
      · exact absurd hx (by simp)
  have I := iniInv (p := p) (qual := qual) (scope := scope) (f := f) (cd := .ref cda) (E := E) (tk := s.toks + 2) S room.hd e0 hcell hns hk₁ ra rv
  have st1 := sup_ini (X := iniCx P w K mg base p qual scope f cc (.ref cda) A outer s H E) (E := (iniCx P w K mg base p qual scope f cc (.ref cda) A outer s H E).xe) (body := [.Expr (.Call (.Attribute (.Call (.Name "super" p0) [] [] p1) "__init__" p2) [] [] p3) p4, .Assign [.Attribute (.Name "self" p5) fl p6] (.Name p p7) p8]) (hi s.heap.objs.size) (hsw _) (hev _) S T rfl rfl I rfl ea
  refine ks_wpAt_execs_cons (ks_wpAt_mono st1 (fun fl' s1 ⟨z, I1⟩ => ?_) fun _ _ z => z)
  subst z
  refine ks_wpAt_execs_cons (wpAt_of_wpAny ?_)
  have o1 : PE (iniCx P w K mg base p qual scope f cc (.ref cda) A outer s H E) (.Name "self" p5) (tVar 0) := pe_var rfl (.inl S.sf)
  have o2 : PE (iniCx P w K mg base p qual scope f cc (.ref cda) A outer s H E) (.Name p p7) (tVar 1) := pe_var rfl (.inl S.pr) hdb hpc
  have st2 := ps_ost (f := fl) (p' := p6) (pos := p8) o1 o2 (hsw2 _)
  refine wpAny_mono (st2.run [] s1 _ H { nx := fun _ H' => Q .non H', rt := Q } I1 ⟨y, rfl, V.ref a, rfl, a, C, rfl, T.oex, hno, .inl ⟨ea, fun dx n ne => q dx n ne⟩⟩) (fun fl' s2 hs => ?_) fun _ _ z => z
  have fin : ∀ {σ' : L2.St} {H' : Hp} {v : V} {u : Value}, Inv (iniCx P w K mg base p qual scope f cc (.ref cda) A outer s H E) [] σ' H' s2 → L2.RelV v u → Q v H' → CE outer P w H s Q u s2 :=
    fun {σ' H' v u} J rv q => ⟨v, H', J.os, J.bare, J.base, J.hok, rv, q⟩
  cases fl' with
  | ret u =>
    obtain ⟨v, σ', H', J, rv, q⟩ := hs
    exact fin J rv q
  | next =>
    obtain ⟨σ', H', J, q⟩ := hs
    exact wpAt_of_wpAny (wpAny_execs_nil (fin (v := V.non) (u := Value.none) J rfl q))
  | brk =>
    obtain ⟨_, _, _, q⟩ := hs
    exact False.elim q
  | cont =>
    obtain ⟨_, _, _, q⟩ := hs
    exact False.elim q
end
end Lk
namespace Lk
open PySem PySem.Spec PyProof.Rows L2
def raiM (c : Nat) (t : Tm) (fa : M DV) : M Fl := fun env => (fa env).bind fun d e => match (t.now d e).bind dataOf with
  | some g => .ex c g e
  | none => .bad
theorem leN_zeros : ∀ {φ : List Nat} {e : Ev} {σ : L2.St}, Al φ e σ → leN (zeros e) φ = true
  | [], [], [], _ => rfl
  | _ :: φ, _ :: e, _ :: σ, h => by
    show (decide (0 ≤ _) && leN (zeros e) φ) = true
    rw [leN_zeros h.2]
    simp
  | [], [], _ :: _, h => h.elim
  | [], _ :: _, _, h => h.elim
  | _ :: _, [], _, h => h.elim
  | _ :: _, _ :: _, [], h => h.elim
section
variable {X : Cx} {Z : ClT} {W : WX} {P : List (Nat × Nat)} {kr : Nat} {φ φ1 : List Nat} {ψ : SF} {t : Tm} {fa : M DV} {a : Expr} {x fl pnm : Str} {C fI : Addr} {fd : FuncData} {k c : Nat} {p pos pos' : Pos}
theorem js_raise (hc : X.calm = true) (tk : Takes X W) (T : OexC X.K C) (iC : PySem.W.findIn X.K (.ref C) "__init__" = some (some (.ref fI))) (tI : PySem.W.typeIn X.K (.ref fI) = some (.type "function"))
    (F1 : FnOk X.prog X.w X.K X.mg X.base (L2.CX X.prog X.w) k fI fd ["self", pnm] (spIni X.K C fl)) (hr : Room (k + 1) X.A) (hb : Binds X.K fd ["self", pnm] []) (hg : Gl X x) (hm : X.mg x = some (.ref C)) (hZ : Z c = some C) (hfl : fldOf c = fl)
    (ha : JE X Z W φ a φ1 t fa) (hs : noStar a = true) (hdb : (x == ("__debug__" : Str)) = false := by decide) :
    JS X Z W P kr φ (.Raise (some (.Call (.Name x p) [a] [] pos)) none pos') ψ (raiM c t fa) := by
  refine ps_imp (ps_raise hc tk (pmk_oex (CX := L2.CX X.prog X.w) (dvs := []) (ds := []) T iC tI F1 hr hb .nil (passes_call tk fun _ _ _ _ z => z.elim) hg hm (pa_cons ha pa_nil (star_eq hs)) hdb (star_eq hs) (by rfl))) fun D σ H ⟨L, env, pv, S, hp, q⟩ => ?_
  refine rdE.go S (q.bind.mono fun d e' q v H' s => ?_)
  cases q0 : (t.now d e').bind dataOf with
  | none => rw [q0] at q; exact q.elim
  | some g =>
    rw [q0] at q
    have q : XP X.K Z W L c g e' := q
    obtain ⟨d1, hd1, hd2⟩ := Option.bind_eq_some_iff.mp q0
    obtain rfl := dataOf_some hd2
    have S1 := s.cap 0
    obtain ⟨n, hn, hmem⟩ := s.memC (c := 0) (h := ⟨t, d, v⟩) List.mem_cons_self hd1
    obtain rfl : n = 0 := by omega
    obtain ⟨A1, L1⟩ := S1.al.less (leN_zeros S1.al)
    have S2 : Sim X.K Z H' (⟨0, .d g, v⟩ :: (roots (zeros e') e' σ ++ L)) := by
      refine Sim.less ((S1.sim.dup hmem).sub (.cons_cons _ (List.sublist_append_right _ _))) ?_
      exact .cons ⟨Nat.le_refl _, rfl, rfl⟩ (Less.app L1 (Less.refl L))
    refine ⟨by simp, fun b hb => ⟨b, v, rfl, upd_same, fun dx n ne => ⟨rfl, dx, [(fl, v)], upd_same, ?_, ?_, ?_⟩⟩⟩
    · rw [upd_ne ne, upd_same]
    · rw [upd_ne ne] at n
      exact n
    · have e1 : upd (del (upd (upd (upd H' b (exo b C none)) dx (exd dx [(fl, v)])) b (exo b C (some dx))) b) dx (.xd [(fl, v)]) = upd H' dx (.xd [(fl, v)]) := by
        funext z
        by_cases h1 : z = dx
        · rw [h1, upd_same, upd_same]
        · rw [upd_ne h1, upd_ne h1]
          by_cases h2 : z = b
          · rw [h2, del_same, hb]
          · rw [del_ne h2, upd_ne h2, upd_ne h1, upd_ne h2]
      have nx : H' dx = none := by
        rw [upd_ne ne] at n
        exact n
      rw [e1]
      refine q C dx v σ _ hZ (by rw [hfl, upd_same]) (S2.grow fun y o hy => ?_) A1
      rw [upd_ne (ne_of_none hy nx)]
      exact hy
end
end Lk
namespace Lk
open PySem PySem.Spec PyProof.Rows L2
/-- the table with the exception at a, its dict at d, its class at C -/
def handZ (Z : ClT) (a d C : Addr) : ClT := fun n => if n = 1000 then some a else if n = 1001 then some d else if n = 1002 then some C else Z n
/-- no exception in hand -/
def NoH (Z : ClT) : Prop := ∀ n, 1000 ≤ n → n < 1003 → Z n = none
section
variable {K : PySem.W.Frag} {Z : ClT} {H : Hp} {a d C : Addr}
theorem handZ_ne {n : Nat} (h : n < 1000 ∨ 1003 ≤ n) : handZ Z a d C n = Z n := by
  unfold handZ
  rw [if_neg (by omega), if_neg (by omega), if_neg (by omega)]
theorem NoH.ne (h : NoH Z) {n : Nat} {c : Addr} (e : Z n = some c) : n < 1000 ∨ 1003 ≤ n := by
  by_cases q : n < 1000 ∨ 1003 ≤ n
  · exact q
  · rw [h n (by omega) (by omega)] at e
    cases e
theorem handZ_tabs : tabsOf (handZ Z a d C) = tabsOf Z := by
  unfold tabsOf
  congr 1
  funext k
  rw [handZ_ne (.inr (by omega))]
theorem TabH.hand (h : TabH Z H) : TabH (handZ Z a d C) H := by
  unfold TabH
  rw [handZ_tabs]
  exact h
theorem TabH.unhand (h : TabH (handZ Z a d C) H) : TabH Z H := by
  unfold TabH at h
  rw [handZ_tabs] at h
  exact h
/-- data without an exception, and no odd class -/
def okD : DV → Prop
  | .o c _ => c < 1000 ∨ 1003 ≤ c
  | .x _ _ => False
  | .f i c _ => (300 + i < 1000 ∨ 1003 ≤ 300 + i) ∧ (c < 1000 ∨ 1003 ≤ c)
  | _ => True
theorem NoH.ok (h : NoH Z) {x : DV} {v : V} {G : Ft} (q : DenV K Z H x v G) : okD x := by
  cases q with
  | d _ => trivial
  | s _ => trivial
  | o h1 _ _ _ => exact h.ne h1
  | f h1 _ _ _ _ => exact ⟨h.ne h1.1, h.ne h1.2⟩
  | z _ _ _ => trivial
  | g _ => trivial
  | k _ => trivial
  | e _ _ _ _ => trivial
  | e0 _ _ => trivial
  | x h1 _ _ _ _ =>
    have := h.ne h1
    omega
theorem DenV.hand (h : NoH Z) {x : DV} {v : V} {G : Ft} (q : DenV K Z H x v G) : DenV K (handZ Z a d C) H x v G := by
  cases q with
  | d z => exact .d z
  | s z => exact .s z
  | o h1 h2 h3 h4 => exact .o ((handZ_ne (h.ne h1)).trans h1) h2 h3 h4
  | f h1 h2 h3 h4 h5 => exact .f ⟨(handZ_ne (h.ne h1.1)).trans h1.1, (handZ_ne (h.ne h1.2)).trans h1.2⟩ h2 h3 h4 h5
  | z h1 h2 h3 => exact .z h1 h2 h3
  | g h1 => exact .g ((handZ_ne (.inr (by omega))).trans h1)
  | k h1 => exact .k h1
  | e h1 h2 h3 h4 => exact .e ⟨(handZ_ne (.inl (by omega))).trans h1.1, h1.2⟩ h2 h3 h4
  | e0 h1 h2 => exact .e0 ⟨(handZ_ne (.inl (by omega))).trans h1.1, h1.2⟩ h2
  | x h1 _ _ _ _ =>
    have := h.ne h1
    omega
theorem DenV.unhand {x : DV} {v : V} {G : Ft} (ok : okD x) (q : DenV K (handZ Z a d C) H x v G) : DenV K Z H x v G := by
  cases q with
  | d z => exact .d z
  | s z => exact .s z
  | o h1 h2 h3 h4 => exact .o ((handZ_ne ok).symm.trans h1) h2 h3 h4
  | f h1 h2 h3 h4 h5 => exact .f ⟨(handZ_ne ok.1).symm.trans h1.1, (handZ_ne ok.2).symm.trans h1.2⟩ h2 h3 h4 h5
  | z h1 h2 h3 => exact .z h1 h2 h3
  | g h1 => exact .g ((handZ_ne (.inr (by omega))).symm.trans h1)
  | k h1 => exact .k h1
  | e h1 h2 h3 h4 => exact .e ⟨(handZ_ne (.inl (by omega))).symm.trans h1.1, h1.2⟩ h2 h3 h4
  | e0 h1 h2 => exact .e0 ⟨(handZ_ne (.inl (by omega))).symm.trans h1.1, h1.2⟩ h2
  | x h1 _ _ _ _ => exact ok.elim
theorem SimF.hand (h : NoH Z) : ∀ {R : List Root} {F : List (Addr × Bool)}, SimF K Z H R F → SimF K (handZ Z a d C) H R F
  | [], _, q => ⟨q.1, q.2.hand⟩
  | _ :: _, _, ⟨G, F', q1, q2, q3⟩ => ⟨G, F', q1.hand h, SimF.hand h q2, q3⟩
theorem SimF.unhand : ∀ {R : List Root} {F : List (Addr × Bool)}, (∀ r ∈ R, okD r.d) → SimF K (handZ Z a d C) H R F → SimF K Z H R F
  | [], _, _, q => ⟨q.1, q.2.unhand⟩
  | _ :: _, _, h, ⟨G, F', q1, q2, q3⟩ => ⟨G, F', q1.unhand (h _ List.mem_cons_self), SimF.unhand (fun r hr => h r (List.mem_cons_of_mem _ hr)) q2, q3⟩
theorem SimF.oks (h : NoH Z) : ∀ {R : List Root} {F : List (Addr × Bool)}, SimF K Z H R F → ∀ r ∈ R, okD r.d
  | [], _, _, _, hr => nomatch hr
  | _ :: _, _, ⟨_, _, q1, q2, _⟩, r, hr => by
    rcases List.mem_cons.mp hr with e | hr
    · rw [e]
      exact h.ok q1
    · exact SimF.oks h q2 r hr
theorem Sim.hand {R : List Root} (h : NoH Z) (q : Sim K Z H R) : Sim K (handZ Z a d C) H R := let ⟨F, q1, q2⟩ := q; ⟨F, q1.hand h, q2⟩
theorem Sim.unhand {R : List Root} (ok : ∀ r ∈ R, okD r.d) (q : Sim K (handZ Z a d C) H R) : Sim K Z H R := let ⟨F, q1, q2⟩ := q; ⟨F, q1.unhand ok, q2⟩
theorem Sim.oks {R : List Root} (h : NoH Z) (q : Sim K Z H R) : ∀ r ∈ R, okD r.d := let ⟨_, q1, _⟩ := q; q1.oks h
end
end Lk
namespace Lk
open PySem PySem.Spec PyProof.Rows L2
theorem Sim.openX {K : PySem.W.Frag} {Z : ClT} {H : Hp} {R : List Root} {n c : Nat} {g : PyData} {v : V} (h : Sim K Z H R) (hr : ⟨n, .x c g, v⟩ ∈ R) (hn : n ≤ 1) :
    ∃ a d C w, v = .ref a ∧ Z 1000 = some a ∧ Z 1001 = some d ∧ Z 1002 = some C ∧ Z c = some C ∧ H d = some (.xd [(fldOf c, w)]) ∧ Sim K Z H (⟨0, .d g, w⟩ :: R) := by
  obtain ⟨F, hF, o⟩ := id h
  obtain ⟨G, hd, q⟩ := hF.mem hr
  cases hd with
  | @x _ a d C _ w G' h1 h2 h3 h4 h5 =>
    refine ⟨a, d, C, w, rfl, h1, h2, h3.1, h3.2, h4, tag 0 G' ++ F, ⟨G', F, .d h5, hF, rfl⟩, o.more fun p hp => ?_⟩
    have q' : ∀ p ∈ tag n (up G'), p ∈ F := fun p hp => q p (by rw [tag_cons]; exact List.mem_cons_of_mem _ hp)
    exact tag0_in (G := up G') q' (fun p hp => Nat.le_trans hn (mem_up hp)) p (by rw [tag0_up]; exact hp)
def fldM (i : Nat) (f : Str) : M DV := fun env => match slot env i with
  | some (.x c g) => if fldOf c = f then .ok (.d g) env else .bad
  | _ => .bad
section
variable {X : Cx} {Z : ClT} {W : WX} {φ : List Nat} {a d C : Addr} {oe : Obj} {pn : List (Addr × Obj)} {i : Nat} {x f : Str} {p pos : Pos}
theorem je_xf (T : XfC X.K C) (hno : PySem.W.findIn X.K (.ref C) f = some none) (hz : Zc (.ref C) (some d) oe) (hf : ∃ vs, oe.data = .fields vs)
    (hN : X.N[i]? = some x) (hv : Vis X.env.scope x) (hφ : φ[i]? = some 0) (hd : (x == ("__debug__" : Str)) = false := by decide) (hcd : (x == ("__classdict__" : Str)) = false := by decide) :
    JE (X.suite a ((a, oe) :: pn)) (handZ Z a d C) W φ (.Attribute (.Name x p) f pos) φ (.v 0) (fldM i f) := by
  refine pe_imp (pe_xf (X := X) T hno hz hf (pe_var (X := X.suite a ((a, oe) :: pn)) hN hv hd hcd)) fun σ H Q ⟨L, env, S, h⟩ => ?_
  unfold fldM at h
  cases q : slot env i with
  | none => rw [q] at h; exact h.elim
  | some dv =>
    rw [q] at h
    cases dv with
    | x c g =>
      simp only at h
      split at h
      · rename_i hfl
        obtain ⟨n, v, h1, h2, pp⟩ := S.al.get q
        rw [hφ] at h1
        cases h1
        have hm : ⟨0, .x c g, v⟩ ∈ hrts [] ++ (roots φ env σ ++ L) := List.mem_append_right _ (List.mem_append_left _ (pp.mem_iff.mpr List.mem_cons_self))
        obtain ⟨a', d', C', w, rfl, z1, z2, z3, z4, e, S1⟩ := S.sim.openX hm (Nat.zero_le _)
        cases z1
        cases z2
        cases z3
        refine ⟨.ref a, h2, rfl, rfl, d, _, w, rfl, e, ?_, h w H ⟨S1, S.al, fun y hy => ?_⟩⟩
        · rw [hfl]
          simp [List.lookup]
        · rw [List.mem_singleton.mp hy]
          trivial
      · exact h.elim
    | d _ => exact h.elim
    | o _ _ => exact h.elim
    | f _ _ _ => exact h.elim
    | z _ => exact h.elim
    | g _ => exact h.elim
    | k _ _ => exact h.elim
    | e _ _ => exact h.elim
    | s _ => exact h.elim
end
end Lk
namespace Lk
open PySem PySem.Spec PyProof.Rows L2
abbrev ATS := Addr → Value → Option Addr → TS
/-- what the clauses wish of an exception of the body, one after the other: slot i is the name's -/
def wAll (K : PySem.W.Frag) (i : Nat) (Wout : WX) (D : Ends) : List (Value × ATS) → WX
  | [] => Wout
  | (c, ts) :: r => fun cls d σ H => ∃ b, PySem.W.exmOne K cls c = some b ∧
      (b = true → ∀ a, H a = none → ts a cls d { nx := fun σ' H' => D.nx (σ'.set i none) H', rt := D.rt, bk := fun σ' H' => D.bk (σ'.set i none) H', ct := fun σ' H' => D.ct (σ'.set i none) H' } (σ.set i (some (.ref a))) H) ∧
      (b = false → wAll K i Wout D r cls d σ H)
inductive HdsA (X : Cx) (n : Str) : List ExceptHandler → List (Value × ATS) → Prop
  | nil : HdsA X n [] []
  | cons {x : Str} {c : Value} {ts : ATS} {b₀ : Stmt} {suite : List Stmt} {np pos' : Pos} {hds : List ExceptHandler} {l : List (Value × ATS)} (hc : Names X x c)
      (hsu : ∀ (a : Addr) (oe : Obj) (cls : Value) (d : Option Addr) (pn : List (Addr × Obj)), Zc cls d oe → (∃ vs, oe.data = .fields vs) → PSs (X.suite a ((a, oe) :: pn)) (b₀ :: suite) (ts a cls d)) (r : HdsA X n hds l) :
      HdsA X n (.ExceptHandler (some (.Name x np)) (some n) (b₀ :: suite) pos' :: hds) ((c, ts) :: l)
section
variable {X : Cx} {n : Str} {i : Nat} {body : List Stmt} {h₀ : ExceptHandler} {hds : List ExceptHandler} {l : List (Value × ATS)} {pos : Pos} {tb : WX → TS} {Wout : WX}
theorem ps_try_all (hs : X.stack = X.env :: X.outer) (hf : X.env.frame = some X.env.locals) (hN : X.N.Nodup) (hi : X.N[i]? = some n) (hln : X.env.kindOf n = some .local) (tk : Takes X Wout)
    (hb : ∀ (W : WX) (pn : List (Addr × Obj)) (xe : Value → Shared → Prop), Takes (X.tr pn xe) W → PassesOwn (model X.prog X.w) X.A X.env xe → PSs (X.tr pn xe) body (tb W))
    (hh : HdsA X n (h₀ :: hds) l) : PS X (.Try body (h₀ :: hds) [] [] pos) (fun D σ H => tb (wAll X.K i Wout D l) D σ H) := by
  refine ⟨fun pins s σ H D I h => ?_⟩
  have okX := I.ok
  have hframes : X.A.frames = some (X.env :: X.outer) := by rw [okX.frames, hs]
  have hlc : Loc X.env.scope n := .inl hln
  refine wpAny_Try_except ?_
  refine wpAny_mono ((hb (wAll X.K i Wout D l) (X.pn ++ pins) (fun e s₁ => wpAny (model X.prog X.w) X.A (noteFrame e X.env) (fun _ s₂ => wpAny (model X.prog X.w) X.A (setFlight e none) (fun _ s₃ =>
    wpAny (model X.prog X.w) X.A (handleBy e X.env (h₀ :: hds)) (SP X pins D) X.xe s₃) X.xe s₂) X.xe s₁) (fun u s' xx => ?_) PassesOwn.looking).run [] s σ H D (I.toTry _) h) (fun f s1 hend => ?_) (fun e s1 he => he)
  · obtain ⟨a, B, sI, pin2, σ', H', cls, d, rfl, jt, nb, up, sky, na, os, ag, w⟩ := xx
    have jj : Inv X pins σ' H' sI := jt.ofTry okX
    have skz : Sky B (X.env :: X.outer) a (Zc cls d) X.env.locals s'.heap := by rw [← hs]; exact sky
    show wpAny (model X.prog X.w) X.A (noteFrame (.ref a) X.env) _ _ _
    refine Sky.land Zc.steady hframes hf skz fun h3 fa3 ua3 => ?_
    have j3 : Inv X pins σ' H' { s' with heap := h3 } := jj.landed nb fa3.1 (up.trans ua3) os ag
    obtain ⟨ob3, ws3, ge3, gz3, gd3⟩ := fa3.there
    have offFr : ∀ {h : Heap} {o : Obj} {vs : Array Value}, h.FunFrames B (X.env :: X.outer) → h.get? a = some o → o.data = .fields vs → a ∉ frs (X.env :: X.outer) := fun {h o vs} ff e dd hm => by
      obtain ⟨_, o', e', hnf⟩ := ff.mem hm
      rw [e] at e'; cases e'
      exact hnf _ dd
    have nof := offFr fa3.2.2.1 ge3 gd3
    have nL : a ≠ X.env.locals := fun z => nof (List.mem_filterMap.mpr ⟨X.env, List.mem_cons_self, by rw [hf, z]⟩)
    have nF : a ∉ X.fs := fun hm => by
      obtain ⟨e, he, q⟩ := List.mem_filterMap.mp hm
      exact nof (List.mem_filterMap.mpr ⟨e, List.mem_cons_of_mem _ he, q⟩)
    have t3 := j3.suite ge3 gd3 na nL nF
    have go : ∀ {hds' : List ExceptHandler} {l' : List (Value × ATS)}, HdsA X n hds' l' → wAll X.K i Wout D l' cls d σ' H' →
        wpAny (model X.prog X.w) X.A (handleBy (.ref a) X.env hds') (SP X pins D) X.xe { s' with heap := h3 } := by
      intro hds' l' hk
      induction hk with
      | nil =>
        intro w
        refine wpAny_handleBy_nil ?_
        obtain ⟨k1, k2, k3, oe, vs, T, oT, ts', he, hz, hd, h1, hr⟩ := id fa3
        unfold PySem.passOn
        refine wpAny_bind (wpAny_field he hd h1 ?_)
        rw [if_neg (show ¬ ((Value.ref T == Value.none) = true) from by simp)]
        have fin : wpAny (model X.prog X.w) X.A (setFlight (.ref a) X.env.frame) (fun _ s4 => wpAny (model X.prog X.w) X.A (throw (.ref a) : Sem Flow) (SP X pins D) X.xe s4) X.xe { s' with heap := h3 } := by
          rw [hf]
          refine HandSPX.setFlight_upZ fa3 fun h4 hx4 ua4 => wpAny_throw (tk _ _ ?_)
          exact ⟨a, B, sI, pins, σ', H', cls, d, rfl, jj, nb, (up.trans ua3).trans ua4, .inr (.inr (by rw [hs]; exact hx4)), na, os, ag, w⟩
        first
          | exact wpAny_bind (wpAny_pure (wpAny_bind fin))
          | exact wpAny_bind fin
      | @cons x c ts b₀ suite np pos' hds2 l2 hc hsu r ih =>
        intro w
        obtain ⟨b, hbv, hY, hNo⟩ := w
        refine wpAny_handleBy_cons (codeAny_handlers_test ?_) (by intro q; cases q)
        have lt : PySem.W.Looks (model X.prog X.w) h3 (typeOf (.ref a)) cls := fun A Q E s k q => wpAny_typeOf_ref (k _ _ ge3) (by rw [gz3.1]; exact q)
        have lm := PySem.W.exm_one (M := model X.prog X.w) (j3.kIn) lt hbv
        have test : ∀ {Q : Value → Shared → Prop} {E : Value → Shared → Prop}, Q c { s' with heap := h3 } → wpAny (model X.prog X.w) (X.A.mark (some (.ref a))) (eval (.Name x np) X.env) Q E { s' with heap := h3 } := fun {Q E} q => by
          obtain ⟨hg, hdbg, hm | ⟨hm, hv, hnn⟩⟩ := hc
          · exact ld_glob (X := X.suite a ((a, ob3) :: (X.pn ++ pins))) t3 hg hm q hdbg
          · exact ld_blt (X := X.suite a ((a, ob3) :: (X.pn ++ pins))) t3 hg hm hv q hnn hdbg
        refine test (lm.here ?_)
        cases b with
        | true =>
          refine codeAny_handlers_suite_as ?_
          refine HandSPX.lands_againZ fa3 fun h4 fa4 ua4 => ?_
          have j4 : Inv X pins σ' H' { s' with heap := h4 } := jj.landed nb fa4.1 ((up.trans ua3).trans ua4) os ag
          obtain ⟨ob4, ws4, ge4, gz4, gd4⟩ := fa4.there
          have t4 := j4.suite ge4 gd4 na nL nF
          refine store_ok (X := X.suite a ((a, ob4) :: (X.pn ++ pins))) (v := .ref a) t4 hN hi hlc rfl (fun z5 t5 => ?_) (.inr hln)
          refine wpAny_mono ((hsu a ob4 cls d (X.pn ++ pins) gz4 ⟨_, gd4⟩).run [] z5 _ H' _ t5 (hY rfl a na)) (fun f z6 hend => ?_) (fun _ _ z => False.elim z)
          have fin_ : ∀ {τ6 : L2.St} {G6 : Hp} {Q : Shared → Prop}, Inv (X.suite a ((a, ob4) :: (X.pn ++ pins))) [] τ6 G6 z6 → (∀ z7, Inv X pins (τ6.set i none) G6 z7 → Q z7) →
              wpAny (model X.prog X.w) X.A (do bindName X.env n .none; unbindBehindTheSuite X.env n pos') (fun _ z7 => Q z7) X.xe z6 := fun {τ6 G6 Q} t6 hq => gone_ok (t6.unsuite okX) hN hi hln hq
          cases f with
          | next =>
            obtain ⟨τ6, G6, t6, p6⟩ := hend
            exact fin_ t6 fun z7 j7 => ⟨_, _, j7, p6⟩
          | brk =>
            obtain ⟨τ6, G6, t6, p6⟩ := hend
            exact fin_ t6 fun z7 j7 => ⟨_, _, j7, p6⟩
          | cont =>
            obtain ⟨τ6, G6, t6, p6⟩ := hend
            exact fin_ t6 fun z7 j7 => ⟨_, _, j7, p6⟩
          | ret u =>
            obtain ⟨w6, τ6, G6, t6, rr6, p6⟩ := hend
            exact fin_ t6 fun z7 j7 => ⟨_, _, _, j7, rr6, p6⟩
        | false =>
          show wpAny _ X.A (handleBy (.ref a) X.env hds2) _ _ _
          exact ih (hNo rfl)
    exact go hh w
  · cases f with
    | next =>
      obtain ⟨σ', H', jt, q⟩ := hend
      exact wpAny_execs_nil ⟨σ', H', jt.ofTry okX, q⟩
    | brk =>
      obtain ⟨σ', H', jt, q⟩ := hend
      exact ⟨σ', H', jt.ofTry okX, q⟩
    | cont =>
      obtain ⟨σ', H', jt, q⟩ := hend
      exact ⟨σ', H', jt.ofTry okX, q⟩
    | ret u =>
      obtain ⟨v, σ', H', jt, r, q⟩ := hend
      exact ⟨v, σ', H', jt.ofTry okX, r, q⟩
end

/-- what the exceptions' classes must say -/
structure XFact (K : PySem.W.Frag) (C : Addr) (f : Str) : Prop where
  xf : XfC K C
  ex : ExcC K C
  no : PySem.W.findIn K (.ref C) f = some none
section
variable {X : Cx} {Z : ClT} {W : WX} {φ : List Nat} {a d C : Addr} {oe : Obj} {pn : List (Addr × Obj)} {i : Nat} {x y f : Str} {p p2 pos : Pos}
/-- isinstance(e, c), e the exception that the suite holds, which has a dict -/
def rIsX (K : PySem.W.Frag) (C a d : Addr) : List V → Hp → VK → Prop := fun xs H Q => ∃ (c : V) (cv : Value) (b : Bool), xs = [.ref a, c] ∧ (∀ u, L2.RelV c u → u = cv) ∧ PySem.W.kitOne K (.ref C) cv = some b ∧ (∃ fs, H d = some (.xd fs)) ∧ Q (.bl b) H
theorem call_isX (T : ExcC X.K C) (hz : Zc (.ref C) (some d) oe) (hf : ∃ vs, oe.data = .fields vs) : CallR (X.suite a ((a, oe) :: pn)) (.builtin "isinstance") (rIsX X.K C a d) := by
  intro pins s σ H xs us Q I r h
  obtain ⟨c, cv, b, rfl, hcv, e, ⟨fs, ed⟩, q⟩ := h
  cases r with
  | cons rx rr =>
    cases rr with
    | cons rt rr =>
      cases rr
      cases rx
      have ec := hcv _ rt
      subst ec
      obtain ⟨hget, _⟩ := I.pin (a, oe) (List.mem_append.mpr (.inl List.mem_cons_self))
      obtain ⟨vs, hv⟩ := hf
      have hx : ObjOk X.prog X.w H s.heap d (.xd fs) := I.hok d _ ed
      obtain ⟨mA, hns, hr⟩ := hx
      obtain ⟨od, ho, hl⟩ := L2.lookIn_ns hns
      have J : PySem.W.InstAt s.heap a oe C (some od) := ⟨hget, hz.1, by unfold PySem.W.notCls; rw [hv] <;> rfl, by rw [hz.2]; exact ho⟩
      have hcl : (PySem.W.clsIn X.K C).isSome = true := by
        obtain ⟨cd, hc, _⟩ := PySem.W.any_some T.hd
        rw [hc]
        rfl
      exact PySem.W.kia_one (PySem.W.kitx_exc hcl T.hg T.hk T.hs T.ha T.hn T.ht T.hm) I.kIn J e (fun z => nomatch z) fun tk => ⟨.bl b, H, I.kept (t' := tk) fun _ _ z => z, rfl, q⟩
def isXM (i : Nat) (tk : Nat → Bool) : M DV := fun env => match slot env i with
  | some (.x c g) => if c < 200 then .ok (.d (.bool (tk c))) env else .bad
  | _ => .bad
theorem je_isX {tk : Nat → Bool} {D : Addr} (T : ExcC X.K C) (hz : Zc (.ref C) (some d) oe) (hf : ∃ vs, oe.data = .fields vs) (hk : ∀ c, c < 200 → Z c = some C → PySem.W.kitOne X.K (.ref C) (.ref D) = some (tk c))
    (ni : Str) (pn' : Pos) (eni : ni = "isinstance") (gi : Gl X ni) (mi : X.mg ni = none) (gy : Gl X y) (my : X.mg y = some (.ref D)) (dy : (y == ("__debug__" : Str)) = false)
    (hN : X.N[i]? = some x) (hv : Vis X.env.scope x) (hφ : φ[i]? = some 0) (hd : (x == ("__debug__" : Str)) = false := by decide) (hcd : (x == ("__classdict__" : Str)) = false := by decide) :
    JE (X.suite a ((a, oe) :: pn)) (handZ Z a d C) W φ (.Call (.Name ni pn') [.Name x p, .Name y p2] [] pos) φ (.v 9) (isXM i tk) := by
  subst eni
  have e0 : PE (X.suite a ((a, oe) :: pn)) (.Name y p2) (tC (.ref D)) := pe_glob gy my rfl dy
  have e1 := pe_var (X := X.suite a ((a, oe) :: pn)) (pos := p) hN hv hd hcd
  refine pe_imp (pe_callB (call_isX T hz hf) gi mi (by decide) (pa_cons e1 (pa_cons e0 pa_nil) (star_eq rfl)) (by decide) (by decide) (star_eq rfl)) fun σ H Q ⟨L, env, S, h⟩ => ?_
  unfold isXM at h
  cases q : slot env i with
  | none => rw [q] at h; exact h.elim
  | some dv =>
    rw [q] at h
    cases dv with
    | x c g =>
      simp only at h
      split at h
      case isFalse => exact h.elim
      rename_i hc
      obtain ⟨n, v, h1, h2, pp⟩ := S.al.get q
      rw [hφ] at h1
      cases h1
      have hm : ⟨0, .x c g, v⟩ ∈ hrts [] ++ (roots φ env σ ++ L) := List.mem_append_right _ (List.mem_append_left _ (pp.mem_iff.mpr List.mem_cons_self))
      obtain ⟨a', d', C', w, rfl, z1, z2, z3, z4, e, S1⟩ := S.sim.openX hm (Nat.zero_le _)
      cases z1
      cases z2
      cases z3
      refine ⟨.ref a, h2, .ref D, .ref D, tk c, rfl, fun u hu => hu, hk c hc ?_, ⟨_, e⟩, ?_⟩
      · exact (handZ_ne (.inl (by omega))).symm.trans z4
      · refine h _ H ⟨S.sim.scal (.d (.bl _)), S.al, fun y hy => ?_⟩
        rw [List.mem_singleton.mp hy]
        trivial
    | d _ => exact h.elim
    | o _ _ => exact h.elim
    | f _ _ _ => exact h.elim
    | z _ => exact h.elim
    | g _ => exact h.elim
    | k _ _ => exact h.elim
    | e _ _ => exact h.elim
    | s _ => exact h.elim
end
end Lk
namespace Lk
open PySem PySem.Spec PyProof.Rows L2
/-- no dict of an exception is met -/
def NoX (H : Hp) (G : Ft) : Prop := ∀ p ∈ G, ∀ fs, H p.1 ≠ some (.xd fs)
theorem NoX.nil {H : Hp} : NoX H [] := fun _ hp => nomatch hp
theorem NoX.up {H : Hp} {G : Ft} (t : NoX H G) : NoX H (up G) := fun p hp => by
  obtain ⟨q, hq, rfl⟩ := List.mem_map.mp hp
  exact t q hq
theorem NoX.cons {H : Hp} {G : Ft} {a : Addr} {n : Nat} (h : ∀ fs, H a ≠ some (.xd fs)) (t : NoX H G) : NoX H ((a, n) :: G) := fun p hp => by
  rcases List.mem_cons.mp hp with e | hp
  · subst e; exact h
  · exact t p hp
theorem NoX.append {H : Hp} {G G' : Ft} (t : NoX H G) (t' : NoX H G') : NoX H (G ++ G') := fun p hp => (List.mem_append.mp hp).elim (t p) (t' p)
theorem DicAt.nox {H : Hp} {a : Addr} {ks : List PyData} {vs : List V} (h : DicAt H a ks vs) : ∀ fs, H a ≠ some (.xd fs) := by
  rcases h with ⟨_, h, _⟩ | ⟨_, h, _⟩ <;> (intro fs e; rw [h] at e; cases e)
section
variable {K : PySem.W.Frag} {Z : ClT} {H : Hp}
mutual
theorem Den.nox : ∀ {d : PyData} {v : V} {G : Ft}, Den K H d v G → NoX H G
  | _, _, _, .non => .nil
  | _, _, _, .bl b => .nil
  | _, _, _, .int i => .nil
  | _, _, _, .str x => .nil
  | _, _, _, .lst h1 h2 => .cons (fun fs e => by rw [h1] at e; cases e) (DenL.nox h2).up
  | _, _, _, .tup h1 h2 => (DenL.nox h2).up
  | _, _, _, .dic h1 h2 h3 => .cons h1.nox (DenL.nox h3).up
theorem DenL.nox : ∀ {ds : List PyData} {vs : List V} {G : Ft}, DenL K H ds vs G → NoX H G
  | _, _, _, .nil => .nil
  | _, _, _, .cons h1 h2 => (Den.nox h1).append (DenL.nox h2)
end
theorem DenV.nox (h0 : NoH Z) {d : DV} {v : V} {G : Ft} (h : DenV K Z H d v G) : NoX H G := by
  cases h with
  | d h => exact h.nox
  | s h => exact .nil
  | o h1 h2 h3 h4 => exact .cons (fun fs e => by rw [h2] at e; cases e) h4.nox.up
  | f h1 h2 h3 h4 h5 => exact .cons (fun fs e => by rw [h2] at e; cases e) (.cons (fun fs e => by rw [h3] at e; cases e) h5.nox.up)
  | z h1 h2 h3 => exact h3.nox.up
  | g h1 => exact .nil
  | k h1 => exact .nil
  | e h1 h2 h3 h4 => exact .cons (fun fs e => by rw [h2] at e; cases e) (.cons (fun fs e => by rw [h3] at e; cases e) h4.nox.up)
  | e0 h1 h2 => exact .cons (fun fs e => by rw [h2] at e; cases e) .nil
  | x h1 h2 h3 h4 h5 =>
    have := h0.ne h1
    omega
theorem SimF.nox (h0 : NoH Z) : ∀ {R : List Root} {F : List (Addr × Bool)}, SimF K Z H R F → ∀ p ∈ F, ∀ fs, H p.1 ≠ some (.xd fs)
  | [], F, h, p, hp => by
    obtain rfl : F = [] := h.1
    cases hp
  | r :: R, F, h, p, hp => by
    obtain ⟨G, F1, hd, q, rfl⟩ := h
    rcases List.mem_append.mp hp with hp | hp
    · obtain ⟨z, hz, rfl⟩ := List.mem_map.mp hp
      exact hd.nox h0 z hz
    · exact SimF.nox h0 q p hp
/-- the exception caught is in hand -/
theorem Sim.mkX {R : List Root} {a0 a C : Addr} {c : Nat} {g : PyData} {v : V} (h0 : NoH Z) (hC : Z c = some C) (h : Sim K Z H (⟨0, .d g, v⟩ :: R)) (e : H a = some (.xd [(fldOf c, v)])) :
    Sim K (handZ Z a0 a C) H (⟨0, .x c g, .ref a0⟩ :: R) := by
  obtain ⟨F, hF, o⟩ := h
  have nx := hF.nox h0
  obtain ⟨G, F1, hd, q, rfl⟩ := hF
  cases hd with
  | d hd =>
    refine ⟨(a, false) :: (tag 0 G ++ F1), ⟨(a, 0) :: up G, F1, .x rfl rfl ⟨rfl, (handZ_ne (h0.ne hC)).trans hC⟩ e hd, q.hand h0, ?_⟩, ?_⟩
    · rw [tag_cons, tag_up]
      rfl
    · refine List.pairwise_cons.mpr ⟨fun y hy z => ?_, o⟩
      have z : a = y.1 := z
      exact absurd (by rw [← z]; exact e) (nx y hy _)
theorem roots_set : ∀ {φ : List Nat} {e : Ev} {σ : L2.St} {i : Nat}, roots φ (e.set i none) (σ.set i none) = roots φ (e.set i none) σ
  | [], _, _, _ => by simp [roots]
  | _ :: _, [], _, _ => by simp [roots]
  | _ :: φ, none :: e, [], i => by simp
  | _ :: φ, some d :: e, [], i => by simp
  | _ :: φ, d :: e, v :: σ, 0 => by
    show roots (_ :: φ) (none :: e) (none :: σ) = roots (_ :: φ) (none :: e) (v :: σ)
    rfl
  | n :: φ, d :: e, v :: σ, i + 1 => by
    show roots (n :: φ) (d :: e.set i none) (v :: σ.set i none) = roots (n :: φ) (d :: e.set i none) (v :: σ)
    have ih := roots_set (φ := φ) (e := e) (σ := σ) (i := i)
    cases d with
    | none => exact ih
    | some d =>
      cases v with
      | none => exact ih
      | some v =>
        show _ :: roots φ _ _ = _ :: roots φ _ _
        rw [ih]
theorem Al.clr2 : ∀ {φ : List Nat} {e : Ev} {σ : L2.St} {i : Nat}, Al φ e σ → Al φ (e.set i none) (σ.set i none)
  | [], [], [], _, a => a
  | _ :: φ, d :: e, v :: σ, 0, a => ⟨fun h => by simp at h, a.2⟩
  | _ :: φ, d :: e, v :: σ, i + 1, a => ⟨a.1, Al.clr2 (i := i) a.2⟩
  | [], [], _ :: _, _, a => a.elim
  | [], _ :: _, [], _, a => a.elim
  | [], _ :: _, _ :: _, _, a => a.elim
  | _ :: _, [], [], _, a => a.elim
  | _ :: _, [], _ :: _, _, a => a.elim
  | _ :: _, _ :: _, [], _, a => a.elim
end
def okDb : DV → Bool
  | .o c _ => decide (c < 1000) || decide (1003 ≤ c)
  | .x _ _ => false
  | .f i c _ => (decide (300 + i < 1000) || decide (1003 ≤ 300 + i)) && (decide (c < 1000) || decide (1003 ≤ c))
  | _ => true
theorem okDb_ok {d : DV} (h : okDb d = true) : okD d := by
  cases d with
  | d _ => trivial
  | o c _ =>
    simp only [okDb, Bool.or_eq_true, decide_eq_true_eq] at h
    exact h
  | x _ _ => cases h
  | f _ _ _ =>
    simp only [okDb, Bool.and_eq_true, Bool.or_eq_true, decide_eq_true_eq] at h
    exact h
  | z _ => trivial
  | g _ => trivial
  | k _ _ => trivial
  | e _ _ => trivial
  | s _ => trivial
def okE (e : Ev) : Bool := e.all fun d => match d with
  | some d => okDb d
  | none => true
theorem okE_roots : ∀ {φ : List Nat} {e : Ev} {σ : L2.St}, okE e = true → ∀ r ∈ roots φ e σ, okD r.d
  | [], e, σ, _, r, hr => by simp [roots] at hr
  | _ :: _, [], _, _, r, hr => by simp [roots] at hr
  | _ :: φ, none :: e, [], _, r, hr => by simp [roots] at hr
  | _ :: φ, some d :: e, [], _, r, hr => by simp [roots] at hr
  | _ :: φ, none :: e, _ :: σ, h, r, hr => by
    simp only [okE, List.all_cons, Bool.and_eq_true] at h
    exact okE_roots h.2 r hr
  | _ :: φ, some d :: e, none :: σ, h, r, hr => by
    simp only [okE, List.all_cons, Bool.and_eq_true] at h
    exact okE_roots h.2 r hr
  | _ :: φ, some d :: e, some v :: σ, h, r, hr => by
    simp only [okE, List.all_cons, Bool.and_eq_true] at h
    rcases List.mem_cons.mp hr with z | hr
    · rw [z]
      exact okDb_ok h.1
    · exact okE_roots h.2 r hr
/-- a clause: whom it takes, its suite -/
structure Cla where
  tk : Nat → Bool
  g : M Fl
/-- a suite's end: the name goes -/
def finM (i : Nat) : Out Fl → Out Fl
  | .ok .nx e => if okE (e.set i none) then .ok .nx (e.set i none) else .bad
  | .ok (.rt d) e => if okDb d then .ok (.rt d) (e.set i none) else .bad
  | _ => .bad
def catM (i : Nat) : List Cla → Nat → PyData → M Fl
  | [], c, g => fun e => .ex c g e
  | k :: ks, c, g => fun e => if k.tk c then finM i (k.g (e.set i (some (.x c g)))) else catM i ks c g e
def tryM (n i : Nat) (ks : List Cla) (gb : M Fl) : M Fl := fun env => match gb env with
  | .ex c g e => if c < 200 ∧ e.length = n then catM i ks c g e else .bad
  | .ok fl e => .ok fl e
  | .bad => .bad
abbrev noW : WX := fun _ _ _ _ => False
section
variable {X : Cx} {Z : ClT} {W : WX} {kr i : Nat} {n : Str} {φ : List Nat} {ψ : SF} {gb : M Fl} {ks : List (Value × Cla)} {pos : Pos}
def tsC (X : Cx) (Z : ClT) (kr : Nat) (N : Nat) (ψ : SF) (k : Cla) : ATS := fun a cls d D σ H => ∃ C d' c, cls = .ref C ∧ d = some d' ∧ Z c = some C ∧ c < 200 ∧ rdS X (handZ Z a d' C) noW [] kr (List.replicate N 0) ψ k.g D σ H
inductive HdsJ (X : Cx) (Z : ClT) (kr : Nat) (n : Str) (ψ : SF) : List ExceptHandler → List (Value × Cla) → Prop
  | nil : HdsJ X Z kr n ψ [] []
  | cons {x : Str} {k : Cla} {cv : Value} {b₀ : Stmt} {suite : List Stmt} {np pos' : Pos} {hds : List ExceptHandler} {l : List (Value × Cla)} (hc : Names X x cv) (htk : ∀ c C, c < 200 → Z c = some C → PySem.W.exmOne X.K (.ref C) cv = some (k.tk c))
      (hsu : ∀ (a C d : Addr) (oe : Obj) (pn : List (Addr × Obj)), Zc (.ref C) (some d) oe → (∃ vs, oe.data = .fields vs) → (∃ c, c < 200 ∧ Z c = some C) → JSs (X.suite a ((a, oe) :: pn)) (handZ Z a d C) noW [] kr (List.replicate X.N.length 0) (b₀ :: suite) ψ k.g)
      (r : HdsJ X Z kr n ψ hds l) : HdsJ X Z kr n ψ (.ExceptHandler (some (.Name x np)) (some n) (b₀ :: suite) pos' :: hds) ((cv, k) :: l)
theorem HdsJ.toA {hds : List ExceptHandler} (h : HdsJ X Z kr n ψ hds ks) : HdsA X n hds (ks.map fun k => (k.1, tsC X Z kr X.N.length ψ k.2)) := by
  induction h with
  | nil => exact .nil
  | @cons x k cv b₀ suite np pos' hds l hc htk hsu r ih =>
    refine .cons hc (fun a oe cls d pn hz hf => ⟨fun pins s σ H D I h => ?_⟩) ih
    obtain ⟨C, d', c, rfl, rfl, hC, hc2, h⟩ := h
    exact (hsu a C d' oe pn hz hf ⟨c, hc2, hC⟩).run pins s σ H D I h
theorem HdsJ.tks {hds : List ExceptHandler} (h : HdsJ X Z kr n ψ hds ks) : ∀ k ∈ ks, ∀ c C, c < 200 → Z c = some C → PySem.W.exmOne X.K (.ref C) k.1 = some (k.2.tk c) := by
  induction h with
  | nil => exact fun _ hk => nomatch hk
  | cons hc htk hsu r ih =>
    intro k hk
    rcases List.mem_cons.mp hk with e | hk
    · rw [e]; exact htk
    · exact ih k hk
theorem zeros_eq (e : Ev) : zeros e = List.replicate e.length 0 := by
  unfold zeros
  induction e with
  | nil => rfl
  | cons d e ih => simp [List.replicate_succ, ih]
theorem catch_all {L : List Root} {c : Nat} {g : PyData} {e : Ev} {C a : Addr} {v : V} {σ : L2.St} {H : Hp} {D : Ends} (h0 : NoH Z) (hc : c < 200) (he : e.length = X.N.length) (hi : i < X.N.length) (z1 : Z c = some C) (z2 : H a = some (.xd [(fldOf c, v)]))
    (S : Sim X.K Z H (⟨0, .d g, v⟩ :: (roots (zeros e) e σ ++ L))) (al : Al (zeros e) e σ) : ∀ {ks : List (Value × Cla)}, (∀ k ∈ ks, ∀ c C, c < 200 → Z c = some C → PySem.W.exmOne X.K (.ref C) k.1 = some (k.2.tk c)) →
    (Wish X.K Z W L (catM i (ks.map (·.2)) c g e) fun fl e' => match fl with
      | .nx => ∀ σ' H', Stt X.K Z ψ.n e' [] σ' H' L → Pok [] [] σ' → D.nx σ' H'
      | .br => ∀ σ' H', Stt X.K Z ψ.b e' [] σ' H' L → Pok [] [] σ' → D.bk σ' H'
      | .ct => ∀ σ' H', Stt X.K Z ψ.c e' [] σ' H' L → Pok [] [] σ' → D.ct σ' H'
      | .rt d => ∃ outs, outsAt [] e' = some outs ∧ ∀ v H', Sim X.K Z H' (⟨kr, d, v⟩ :: (retR [] outs [] ++ L)) → D.rt v H') →
    wAll X.K i W D (ks.map fun k => (k.1, tsC X Z kr X.N.length ψ k.2)) (.ref C) (some a) σ H
  | [], _, q => (show XP X.K Z W L c g e from q) C a v σ H z1 z2 S al
  | k :: ks, ht, q => by
    refine ⟨k.2.tk c, ht k List.mem_cons_self c C hc z1, fun hb a0 n0 => ?_, fun hb => ?_⟩
    · have q := q
      simp only [List.map_cons, catM] at q
      rw [hb, if_pos rfl] at q
      have ez : zeros e = List.replicate X.N.length 0 := by rw [zeros_eq, he]
      have er : (List.replicate X.N.length 0).set i 0 = List.replicate X.N.length 0 := by
        apply List.ext_getElem?
        intro j
        by_cases hj : i = j
        · subst hj
          rw [List.getElem?_set_self (by simpa using hi), List.getElem?_replicate, if_pos hi]
        · rw [List.getElem?_set_ne hj]
      have hL : ∀ r ∈ L, okD r.d := fun r hr => S.oks h0 r (List.mem_cons_of_mem _ (List.mem_append_right _ hr))
      obtain ⟨al1, p1⟩ := al.set (i := i) (m := 0) (d := .x c g) (v := .ref a0) (by rw [he]; exact hi)
      rw [ez, er] at al1 p1
      have S0 : Sim X.K (handZ Z a0 a C) H (⟨0, .x c g, .ref a0⟩ :: (roots (List.replicate X.N.length 0) (e.set i none) σ ++ L)) := by
        refine Sim.mkX h0 z1 (S.sub (.cons_cons _ (List.Sublist.append_right ?_ L))) z2
        rw [ez]
        exact roots_clr
      have S1 : Stt X.K (handZ Z a0 a C) (List.replicate X.N.length 0) (e.set i (some (.x c g))) [] (σ.set i (some (.ref a0))) H L := ⟨S0.perm (List.Perm.append_right L p1.symm), al1, fun _ z => nomatch z⟩
      refine ⟨C, a, c, rfl, rfl, z1, hc, L, _, [], S1, .nil, ?_⟩
      cases r : k.2.g (e.set i (some (.x c g))) with
      | bad => rw [r] at q; exact q.elim
      | ex _ _ _ => rw [r] at q; exact q.elim
      | ok fl e' =>
        rw [r] at q
        cases fl with
        | br => exact q.elim
        | ct => exact q.elim
        | nx =>
          unfold finM at q
          simp only at q
          split at q
          case isFalse => exact q.elim
          rename_i hok
          intro σ' H' s hp
          refine (show ∀ σ' H', Stt X.K Z ψ.n (e'.set i none) [] σ' H' L → Pok [] [] σ' → D.nx σ' H' from q) _ _ ⟨?_, s.al.clr2, fun _ z => nomatch z⟩ .nil
          have s2 : Sim X.K (handZ Z a0 a C) H' (roots ψ.n (e'.set i none) σ' ++ L) := s.sim.sub (List.Sublist.append_right roots_clr L)
          show Sim X.K Z H' (roots ψ.n (e'.set i none) (σ'.set i none) ++ L)
          rw [roots_set]
          refine s2.unhand fun r hr => ?_
          rcases List.mem_append.mp hr with hr | hr
          · exact okE_roots hok r hr
          · exact hL r hr
        | rt d =>
          unfold finM at q
          simp only at q
          split at q
          case isFalse => exact q.elim
          rename_i hok
          have q : ∃ outs, outsAt [] (e'.set i none) = some outs ∧ ∀ v H', Sim X.K Z H' (⟨kr, d, v⟩ :: (retR [] outs [] ++ L)) → D.rt v H' := q
          obtain ⟨outs, ho, q⟩ := q
          refine ⟨[], rfl, fun v' H' s => q v' H' ?_⟩
          have s : Sim X.K (handZ Z a0 a C) H' (⟨kr, d, v'⟩ :: L) := s
          show Sim X.K Z H' (⟨kr, d, v'⟩ :: L)
          refine s.unhand fun r hr => ?_
          rcases List.mem_cons.mp hr with z | hr
          · rw [z]
            exact okDb_ok hok
          · exact hL r hr
    · have q := q
      simp only [List.map_cons, catM] at q
      rw [hb, if_neg Bool.false_ne_true] at q
      exact catch_all h0 hc he hi z1 z2 S al (fun k hk => ht k (List.mem_cons_of_mem _ hk)) q
/-- the wish of the body's exceptions -/
theorem try_wish {L : List Root} {env : Ev} {D : Ends} (h0 : NoH Z) (hi : i < X.N.length) {P0 : Fl → Ev → Prop} (ht : ∀ k ∈ ks, ∀ c C, c < 200 → Z c = some C → PySem.W.exmOne X.K (.ref C) k.1 = some (k.2.tk c))
    (hP : ∀ fl e', P0 fl e' = (match fl with
      | .nx => ∀ σ' H', Stt X.K Z ψ.n e' [] σ' H' L → Pok [] [] σ' → D.nx σ' H'
      | .br => ∀ σ' H', Stt X.K Z ψ.b e' [] σ' H' L → Pok [] [] σ' → D.bk σ' H'
      | .ct => ∀ σ' H', Stt X.K Z ψ.c e' [] σ' H' L → Pok [] [] σ' → D.ct σ' H'
      | .rt d => ∃ outs, outsAt [] e' = some outs ∧ ∀ v H', Sim X.K Z H' (⟨kr, d, v⟩ :: (retR [] outs [] ++ L)) → D.rt v H'))
    (q : Wish X.K Z W L (tryM X.N.length i (ks.map (·.2)) gb env) P0) : Wish X.K Z (wAll X.K i W D (ks.map fun k => (k.1, tsC X Z kr X.N.length ψ k.2))) L (gb env) P0 := by
  unfold tryM at q
  cases r : gb env with
  | bad => rw [r] at q; exact q.elim
  | ok fl e => rw [r] at q; exact q
  | ex c g e =>
    rw [r] at q
    simp only at q
    split at q
    case isFalse => exact q.elim
    rename_i hc
    intro C a v σ' H' z1 z2 S' al'
    refine catch_all (kr := kr) (ψ := ψ) h0 hc.1 hc.2 hi z1 z2 S' al' ht (q.mono fun fl e' z => ?_)
    rw [← hP]
    exact z
theorem js_try {body : List Stmt} {h₀ : ExceptHandler} {hds : List ExceptHandler} (hs : X.stack = X.env :: X.outer) (hf : X.env.frame = some X.env.locals) (hN : X.N.Nodup) (hi : X.N[i]? = some n) (hln : X.env.kindOf n = some .local) (tk : Takes X W) (h0 : NoH Z)
    (hb : ∀ (W' : WX) (pn : List (Addr × Obj)) (xe : Value → Shared → Prop), Takes (X.tr pn xe) W' → PassesOwn (model X.prog X.w) X.A X.env xe → JSs (X.tr pn xe) Z W' [] kr φ body ψ gb)
    (hh : HdsJ X Z kr n ψ (h₀ :: hds) ks) : JS X Z W [] kr φ (.Try body (h₀ :: hds) [] [] pos) ψ (tryM X.N.length i (ks.map (·.2)) gb) := by
  refine ps_imp (ps_try_all (tb := fun W' => rdS X Z W' [] kr φ ψ gb) (Wout := W) hs hf hN hi hln tk (fun W' pn xe t p => hb W' pn xe t p) hh.toA) fun D σ H ⟨L, env, pv, S, hp, q⟩ => ?_
  cases hp
  refine ⟨L, env, [], S, .nil, ?_⟩
  exact try_wish h0 (List.getElem?_eq_some_iff.mp hi).1 hh.tks (fun fl e' => by cases fl <;> rfl) q
end
end Lk
namespace Lk
open PySem PySem.Spec PyProof.Rows L2 LamX
section
variable {X : Cx} {pins : List (Addr × Obj)} {σ : L2.St} {H : Hp} {s : Shared}
/-- the lambda called in the def that got it: as the kit's pe_act, the guards told -/
theorem lam_act {CXg : CXT} {Eg : XK} {Ng : List Str} {qg : Str} {sg : Scope} {g f c' : Addr} {cdg pm ctv : Value} {params : Arguments} {body : Expr} {scope : Scope} {k i : Nat} {a : Str} {pn : List (Addr × Obj)} {xe : Value → Shared → Prop} {W : WX} {E : XK} {tb : TE} {p1 p2 : Pos}
    (I : Inv X pins σ H s) (hsc : LamS X.env.scope scope) (ho : s.heap.get? f = some (PySem.W.kla_obj "<lambda>" (X.env.qual ++ "<lambda>") params body scope (cloFrom X.env.cells scope.names []) pm c' ctv)) (hfn : H f = none) (hfr : f ∉ frs X.stack)
    (hbind : bindArgs (PySem.W.kla_fn "<lambda>" (X.env.qual ++ "<lambda>") params body scope (cloFrom X.env.cells scope.names []) pm (.ref c') ctv) ⟨[], []⟩ = pure [])
    (tk : Takes ((cxOf CXg X.prog X.w X.K X.mg X.base Ng qg sg g cdg X.A X.stack s H Eg).tr pn xe) W) (hr : Room (k + 1) (X.A.deeper (envOfC qg sg s.heap.objs.size g cdg))) (hgd : X.A.guards = some [])
    (hbody : ∀ (A : Around) (outer : List PySem.Env) (s : Shared) (H : Hp), Room k (A.deeper (lamEnv X scope s.heap.objs.size f c')) → A.guards = some [] → PE (lamCx X A outer s H E scope f c') body tb)
    (hN : Ng[i]? = some a) (hv : Vis sg a) (hd : (a == ("__debug__" : Str)) = false) (hcd : (a == ("__classdict__" : Str)) = false) :
    PE ((cxOf CXg X.prog X.w X.K X.mg X.base Ng qg sg g cdg X.A X.stack s H Eg).tr pn xe) (.Call (.Name a p1) [] [] p2) (fun τ G Q => τ[i]? = some (some (.ref f)) ∧ G c' = some (CodeO c' (X.env.qual ++ "<lambda>")) ∧ (∀ cls d G', E cls d G' → W cls d τ G') ∧ tb σ G Q) := by
  refine ⟨fun pinZ sZ τ G Q J ⟨hs, hc, hW, ht⟩ => ?_⟩
  refine wpAny_Call_Name_kw (thn ((pe_var (pos := p1) (i := i) hN hv hd hcd).run pinZ sZ τ G (fun v G1 => v = .ref f ∧ G1 = G) J ⟨.ref f, hs, rfl, rfl⟩) fun u s1 ⟨v, G1, J1, r1, ev, eG⟩ => ?_)
  subst ev
  subst eG
  cases (show u = Value.ref f from r1)
  have o1 : s1.heap.get? f = some (PySem.W.kla_obj "<lambda>" (X.env.qual ++ "<lambda>") params body scope (cloFrom X.env.cells scope.names []) pm c' ctv) := J1.base.keep f _ ho hfn hfr (fun z => nomatch (show f ∈ ([] : List Addr) from z))
  refine PySem.W.callWith_F0 ⟨_, _, _, _, o1⟩ ?_
  have un : Un (frs X.stack) [] H G1 s.heap s1.heap := J1.base
  obtain ⟨⟨oc, vs, t, hoc, hdc, hvc⟩, _, _⟩ := J1.hok c' _ hc
  have run : codeAny (model X.prog X.w) (X.A.deeper (envOfC qg sg s.heap.objs.size g cdg)) (.call (.ref f) ⟨[], []⟩) (CR (L2.CX X.prog X.w) (envOfC qg sg s.heap.objs.size g cdg :: X.stack) X.prog X.w G1 s1 Q E) s1 := by
    refine PySem.W.kla_callFunE hr.depth o1 rfl hsc.co hsc.gen rfl ⟨c', oc, vs, t, rfl, hoc, hdc, hvc⟩ ?_
    rw [hbind]
    refine wpAny_pure (wpAny_newFunctionEnv (fun y hy => (hsc.own y hy).2) (fun y hy => absurd hy List.not_mem_nil) (fun h₁ hns hsb => ⟨J1.nolimit.fresh _ hsb, ?_⟩) hsc.kind)
    show codeAny _ _ (.expr body (lamEnv X scope s1.heap.objs.size f c')) _ _
    have kp : ∀ b o, s1.heap.get? b = some o → h₁.get? b = some o := fun b o e => hsb.extBut b o (Nat.ne_of_lt (Heap.lt_size e)) (Heap.get?_push_of_some _ e)
    have J2 : Inv (lamCx X (X.A.deeper (envOfC qg sg s.heap.objs.size g cdg)) (envOfC qg sg s.heap.objs.size g cdg :: X.stack) s1 G1 E scope f c') [] σ G1 { s1 with heap := h₁, toks := s1.toks + ([] : List (Str × Value)).length } :=
      lam_start2 I hsc J1.env0 hr.hd un hns kp
    refine PySem.W.kla_codeExpr (wpAny_mono ((hbody _ _ s1 G1 (hr.deeper _) hgd).run [] _ _ G1 Q J2 ht) (fun v s' hq => ?_) fun e s' hq => hq)
    obtain ⟨y, H', J', rv, q⟩ := hq
    exact ⟨y, H', J'.os, J'.bare, J'.base, J'.hok, rv, q⟩
  refine wpAny_call (codeAny_mono run fun r s' hq => ?_)
  match r, hq with
  | .error e, hq => exact tk e s' (XE.of_call J1 hW hq)
  | .ok (.ret u), hq => exact J1.after hq
  | .ok .next, hq => exact False.elim hq
  | .ok .brk, hq => exact False.elim hq
  | .ok .cont, hq => exact False.elim hq
/-- how the def that got the lambda calls it -/
def Act (X : Cx) (Ng : List Str) (x : Str) (sg : Scope) (g : Addr) (cdg : Value) (a : Str) (q : Str) (f c' : Addr) (s : Shared) (H : Hp) (tl : XK → Hp → VK → Prop) : Prop :=
  ∀ (W : WX) (pn : List (Addr × Obj)) (xe : Value → Shared → Prop) (E : XK) (p1 p2 : Pos), Takes ((cxOf C8.CX0 X.prog X.w X.K X.mg X.base Ng x sg g cdg X.A X.stack s H C8.E0).tr pn xe) W →
    PE ((cxOf C8.CX0 X.prog X.w X.K X.mg X.base Ng x sg g cdg X.A X.stack s H C8.E0).tr pn xe) (.Call (.Name a p1) [] [] p2) (fun τ G Q => τ[0]? = some (some (.ref f)) ∧ G c' = some (CodeO c' q) ∧ (∀ cls d G', E cls d G' → W cls d τ G') ∧ tl E G Q)
def GivesW (X : Cx) (Ng : List Str) (x : Str) (sg : Scope) (g : Addr) (cdg : Value) (bg : List Stmt) (a : Str) (q : Str) (TT : (XK → Hp → VK → Prop) → Hp → VK → Prop) : Prop :=
  ∀ (f c' : Addr) (s : Shared) (H : Hp) (Q : VK) (tl : XK → Hp → VK → Prop), Act X Ng x sg g cdg a q f c' s H tl → H c' = some (CodeO c' q) → TT tl H Q →
    ∃ t, PSs (cxOf C8.CX0 X.prog X.w X.K X.mg X.base Ng x sg g cdg X.A X.stack s H C8.E0).nox bg t ∧ t { nx := fun _ H' => Q .non H', rt := Q } (L2.start Ng [.ref f]) H
/-- x(lambda: body): as the kit's pe_lamcall, the guards told -/
theorem lam_call {T : List (Addr × Str)} {TT : (XK → Hp → VK → Prop) → Hp → VK → Prop} {x a : Str} {g c Q0 : Addr} {k : Nat} {pg : Arguments} {bg : List Stmt} {sg : Scope} {dV kV doc pm cdv ct oc : Value} {an od : Option Addr} {osl : Array (Option Value)} {Ng : List Str}
    {params : Arguments} {body : Expr} {scope : Scope} {t : XK → TE} {p lpos pos : Pos} (hg : Gl X x) (hm : X.mg x = some (.ref g)) (hk : PySem.W.keepIn X.K (.ref g) = true)
    (lk : X.K.lookup g = some ⟨oc, od, .func (PySem.W.fnOf x x pg bg sg dV kV doc pm an cdv ct), osl⟩) (hcg : PySem.W.codeIn X.K cdv x = true) (hb : L2.Binds X.K (PySem.W.fnOf x x pg bg sg dV kV doc pm an cdv ct) [a] []) (Sg : FnScope Ng [a] sg) (hNg : Ng[0]? = some a) (hva : Vis sg a)
    (hG : GivesW X Ng x sg g cdv bg a (X.env.qual ++ "<lambda>") TT)
    (TB : TabB X.base X.mg c Q0) (hcode : X.env.code = .ref c) (hmT : (Q0, X.env.qual ++ "<lambda>") ∈ T) (hu : ∀ p ∈ T, p.1 = Q0 → p.2 = X.env.qual ++ "<lambda>") (hr : Room (k + 2) X.A) (hgd : X.A.guards = some []) (hsc : LamS X.env.scope scope) (hdef : defaultsOf params X.env = ([], []))
    (hbind : ∀ (q : Str) (cl : List (Str × Addr)) (pm cv ctv : Value), bindArgs (PySem.W.kla_fn "<lambda>" q params body scope cl pm cv ctv) ⟨[], []⟩ = pure [])
    (hbody : ∀ (A : Around) (outer : List PySem.Env) (s : Shared) (H : Hp) (E : XK) (f c' : Addr), Room k (A.deeper (lamEnv X scope s.heap.objs.size f c')) → A.guards = some [] → PE (lamCx X A outer s H E scope f c') body (t E))
    (hdb : (x == ("__debug__" : Str)) = false) (hd : (a == ("__debug__" : Str)) = false) (hcd : (a == ("__classdict__" : Str)) = false) :
    PE X (.Call (.Name x p) [.Lambda params body scope lpos] [] pos) (tLam T TT t) := by
  refine ⟨fun pins s σ H Q I ⟨hT, h⟩ => ?_⟩
  refine wpAny_Call_Name_kw (ld_glob I hg hm ?_ hdb)
  refine PySem.W.callWith_K (h₀ := X.base) I.ok.mod.kin hk ?_ (by rfl) (by rfl)
  show wpAny _ _ (spliced ((false, eval (.Lambda params body scope lpos) X.env) :: backTo pos (starEach [] X.env))) _ _ s
  refine Calls.spliced_cons (lam_make2 I TB hcode hmT hu hT hdef (hsc.has I.ok) fun f c' pm' ctv H1 s' J eN T1 hf hfn hfr hco => ?_)
  refine Calls.spliced_nil ⟨J.kIn, ?_⟩
  have run : codeAny (model X.prog X.w) X.A (.call (.ref g) ⟨[.ref f], []⟩) (CR C8.CX0 X.stack X.prog X.w H1 s' Q C8.E0) s' := by
    refine run_ofS (N := Ng) (ps := [a]) (us := [.ref f]) (vs := [.ref f]) lk hcg Sg hr J.env0 (hb s' [.ref f] J.kIn rfl) (.cons rfl .nil) rfl fun hr' => ?_
    obtain ⟨t', ht', hq'⟩ := hG f c' s' H1 Q (fun E H' Q' => t E σ H' Q') (fun W pn xe E p1 p2 tk => lam_act (i := 0) J hsc hf hfn hfr (hbind _ _ _ _ _) tk hr' hgd (fun A outer s H hr2 hg2 => hbody A outer s H E f c' hr2 hg2) hNg hva hd hcd) hco (h H1 eN T1)
    exact ⟨t', ht'.nox, hq'⟩
  refine wpAny_call (codeAny_mono run fun r s2 hq => ?_)
  match r, hq with
  | .error e, hq => exact (show False from hq).elim
  | .ok (.ret u), hq => exact J.after hq
  | .ok .next, hq => exact False.elim hq
  | .ok .brk, hq => exact False.elim hq
  | .ok .cont, hq => exact False.elim hq
end
/-! ### the lambda's captured names -/
def capE : List Bool → Ev → Ev
  | b :: m, d :: e => (if b then d else none) :: capE m e
  | _, _ => []
def capF : List Bool → List Nat → List Nat
  | b :: m, n :: φ => (if b then 0 else n) :: capF m φ
  | _, φ => φ
theorem capF_le : ∀ (m : List Bool) (φ : List Nat), leN (capF m φ) φ = true
  | [], φ => leN_refl φ
  | _ :: _, [] => rfl
  | b :: m, n :: φ => by
    show (decide ((if b then 0 else n) ≤ n) && leN (capF m φ) φ) = true
    rw [capF_le m φ]
    cases b <;> simp
theorem capE_al : ∀ {m : List Bool} {φ : List Nat} {e : Ev} {σ : L2.St}, m.length = φ.length → Al φ e σ → Al (m.map fun _ => 0) (capE m e) σ
  | [], [], [], [], _, _ => trivial
  | b :: m, n :: φ, d :: e, v :: σ, hl, a => ⟨fun h => a.1 (by cases b with
      | true => exact h
      | false => simp at h), capE_al (by simpa using hl) a.2⟩
  | [], _ :: _, _, _, hl, _ => by simp at hl
  | _ :: _, [], _, _, hl, _ => by simp at hl
  | [], [], [], _ :: _, _, a => a.elim
  | [], [], _ :: _, [], _, a => a.elim
  | [], [], _ :: _, _ :: _, _, a => a.elim
  | _ :: _, _ :: _, [], [], _, a => a.elim
  | _ :: _, _ :: _, [], _ :: _, _, a => a.elim
  | _ :: _, _ :: _, _ :: _, [], _, a => a.elim
theorem capE_mem : ∀ {m : List Bool} {φ : List Nat} {e : Ev} {σ : L2.St}, ∀ r ∈ roots (m.map fun _ => 0) (capE m e) σ, r.n = 0 ∧ r ∈ roots (capF m φ) e σ ∨ m.length ≠ φ.length ∨ ¬ Al φ e σ
  | [], φ, e, σ, r, hr => by cases e <;> simp [roots] at hr
  | b :: m, φ, [], σ, r, hr => by
    have hr : r ∈ roots (0 :: m.map fun _ => 0) [] σ := hr
    simp [roots] at hr
  | b :: m, φ, d :: e, [], r, hr => by
    have hr : r ∈ roots (0 :: m.map fun _ => 0) ((if b then d else none) :: capE m e) [] := hr
    cases q : (if b then d else none : Option DV) <;> (rw [q] at hr; simp [roots] at hr)
  | b :: m, [], d :: e, v :: σ, r, hr => .inr (.inl (by simp))
  | b :: m, n :: φ, d :: e, v :: σ, r, hr => by
    have hr : r ∈ roots (0 :: m.map fun _ => 0) ((if b then d else none) :: capE m e) (v :: σ) := hr
    have lift : r.n = 0 ∧ r ∈ roots (capF m φ) e σ ∨ m.length ≠ φ.length ∨ ¬ Al φ e σ → r.n = 0 ∧ r ∈ roots (capF (b :: m) (n :: φ)) (d :: e) (v :: σ) ∨ (b :: m).length ≠ (n :: φ).length ∨ ¬ Al (n :: φ) (d :: e) (v :: σ) := fun z => by
      rcases z with ⟨z1, z2⟩ | z | z
      · refine .inl ⟨z1, ?_⟩
        show r ∈ roots ((if b then 0 else n) :: capF m φ) (d :: e) (v :: σ)
        cases d with
        | none => exact z2
        | some d =>
          cases v with
          | none => exact z2
          | some v => exact List.mem_cons_of_mem _ z2
      · exact .inr (.inl (by simpa using z))
      · exact .inr (.inr fun a => z a.2)
    cases b with
    | false => exact lift (capE_mem r hr)
    | true =>
      cases d with
      | none => exact lift (capE_mem r hr)
      | some d =>
        cases v with
        | none => exact lift (capE_mem r hr)
        | some v =>
          have hr : r ∈ ⟨0, d, v⟩ :: roots (m.map fun _ => 0) (capE m e) σ := hr
          rcases List.mem_cons.mp hr with z | hr
          · refine .inl ⟨by rw [z], ?_⟩
            rw [z]
            exact List.mem_cons_self
          · exact lift (capE_mem r hr)
section
variable {K : PySem.W.Frag} {Z : ClT} {H H1 : Hp}
theorem Sim.dupAll {R : List Root} (h : Sim K Z H R) : ∀ {D : List Root}, (∀ r ∈ D, r.n = 0 ∧ r ∈ R) → Sim K Z H (D ++ R)
  | [], _ => h
  | r :: D, hd => by
    have h2 := Sim.dupAll h (D := D) fun r hr => hd r (List.mem_cons_of_mem _ hr)
    obtain ⟨h3, h4⟩ := hd r List.mem_cons_self
    obtain ⟨n, d, v⟩ := r
    cases (show n = 0 from h3)
    exact h2.dup (List.mem_append_right _ h4)
/-- no table is met -/
theorem DicAt.notab {a : Addr} {ks : List PyData} {vs : List V} (h : DicAt H a ks vs) : ∀ ps, H a ≠ some (.tbl ps) := h.notTup.2.2.1
def NoT (H : Hp) (G : Ft) : Prop := ∀ p ∈ G, ∃ o, H p.1 = some o ∧ ∀ ps, o ≠ .tbl ps
theorem NoT.up {G : Ft} (t : NoT H G) : NoT H (Lk.up G) := fun p hp => by
  obtain ⟨q, hq, rfl⟩ := List.mem_map.mp hp
  exact t q hq
theorem NoT.cons {G : Ft} {a : Addr} {n : Nat} {o : HO} (h : H a = some o) (ho : ∀ ps, o ≠ .tbl ps) (t : NoT H G) : NoT H ((a, n) :: G) := fun p hp => by
  rcases List.mem_cons.mp hp with e | hp
  · subst e; exact ⟨o, h, ho⟩
  · exact t p hp
theorem NoT.append {G G' : Ft} (t : NoT H G) (t' : NoT H G') : NoT H (G ++ G') := fun p hp => (List.mem_append.mp hp).elim (t p) (t' p)
mutual
theorem Den.not : ∀ {d : PyData} {v : V} {G : Ft}, Den K H d v G → NoT H G
  | _, _, _, .non => fun _ hp => nomatch hp
  | _, _, _, .bl b => fun _ hp => nomatch hp
  | _, _, _, .int i => fun _ hp => nomatch hp
  | _, _, _, .str x => fun _ hp => nomatch hp
  | _, _, _, .lst h1 h2 => .cons h1 (fun _ z => nomatch z) (DenL.not h2).up
  | _, _, _, .tup h1 h2 => (DenL.not h2).up
  | _, _, _, .dic h1 h2 h3 => .cons h1.there.choose_spec (fun ps z => h1.notab ps (by rw [← z]; exact h1.there.choose_spec)) (DenL.not h3).up
theorem DenL.not : ∀ {ds : List PyData} {vs : List V} {G : Ft}, DenL K H ds vs G → NoT H G
  | _, _, _, .nil => fun _ hp => nomatch hp
  | _, _, _, .cons h1 h2 => (Den.not h1).append (DenL.not h2)
end
theorem DenV.not {d : DV} {v : V} {G : Ft} (h : DenV K Z H d v G) : NoT H G := by
  cases h with
  | d h => exact h.not
  | s h => exact fun _ hp => nomatch hp
  | o h1 h2 h3 h4 => exact .cons h2 (fun _ z => nomatch z) h4.not.up
  | f h1 h2 h3 h4 h5 => exact .cons h2 (fun _ z => nomatch z) (.cons h3 (fun _ z => nomatch z) h5.not.up)
  | z h1 h2 h3 => exact h3.not.up
  | g h1 => exact fun _ hp => nomatch hp
  | k h1 => exact fun _ hp => nomatch hp
  | e h1 h2 h3 h4 => exact .cons h2 (fun _ z => L2.exo_tbl z) (.cons h3 (fun _ z => by unfold L2.exd at z; cases z) h4.not.up)
  | e0 h1 h2 => exact .cons h2 (fun _ z => L2.exo_tbl z) fun _ hp => nomatch hp
  | x h1 h2 h3 h4 h5 => exact .cons h4 (fun _ z => nomatch z) h5.not.up
theorem SimF.not : ∀ {R : List Root} {F : List (Addr × Bool)}, SimF K Z H R F → ∀ p ∈ F, ∃ o, H p.1 = some o ∧ ∀ ps, o ≠ .tbl ps
  | [], F, h, p, hp => by
    obtain rfl : F = [] := h.1
    cases hp
  | r :: R, F, h, p, hp => by
    obtain ⟨G, F1, hd, q, rfl⟩ := h
    rcases List.mem_append.mp hp with hp | hp
    · obtain ⟨z, hz, rfl⟩ := List.mem_map.mp hp
      exact hd.not z hz
    · exact SimF.not q p hp
/-- the tables have grown -/
theorem Sim.tabs {R : List Root} (h : Sim K Z H R) (e : ExtN H H1) (t : Tabs (tabsOf Z) H1) : Sim K Z H1 R := by
  obtain ⟨F, hF, o⟩ := h
  refine ⟨F, hF.good (fun a vs q => e _ _ q fun _ z => nomatch z) (fun a ob u q => e _ _ q fun _ z => nomatch z) (fun p hp => ?_) (fun _ => t), o⟩
  obtain ⟨u, h1, h2⟩ := hF.not p hp
  rw [h1, e _ _ h1 h2]
end
/-- a def with one parameter that it calls; o: how the call ends -/
def GivesD (X : Cx) (Z : ClT) (Ng : List Str) (x : Str) (sg : Scope) (g : Addr) (cdg : Value) (bg : List Stmt) (a : Str) (q : Str) (kb kr : Nat) (G : Out DV → Option DV) : Prop :=
  ∀ (f c' : Addr) (s : Shared) (H : Hp) (Q : VK) (tl : XK → Hp → VK → Prop) (L : List Root) (o : Out DV) (r : DV),
    Act X Ng x sg g cdg a q f c' s H tl →
    H c' = some (CodeO c' q) →
    (∀ E Q', (match o with
      | .ok d _ => ∀ v H', Sim X.K Z H' (⟨kb, d, v⟩ :: L) → Q' v H'
      | .ex c e _ => XC X.K Z E L c e
      | .bad => False) → tl E H Q') →
    G o = some r → (∀ v H', Sim X.K Z H' (⟨kr, r, v⟩ :: L) → Q v H') →
    ∃ t, PSs (cxOf C8.CX0 X.prog X.w X.K X.mg X.base Ng x sg g cdg X.A X.stack s H C8.E0).nox bg t ∧ t { nx := fun _ H' => Q .non H', rt := Q } (L2.start Ng [.ref f]) H
def lamM (m : List Bool) (G : Out DV → Option DV) (fa : M DV) : M DV := fun env => match G (fa (capE m env)) with
  | some r => .ok r env
  | none => .bad
section
variable {X : Cx} {Z : ClT} {W : WX} {φ φb : List Nat} {kb kr k : Nat} {G : Out DV → Option DV} {fa : M DV}
theorem je_lam {x a : Str} {g c Q0 : Addr} {pg : Arguments} {bg : List Stmt} {sg : Scope} {dV kV doc pm cdv ct oc : Value} {an od : Option Addr} {osl : Array (Option Value)} {Ng : List Str}
    {params : Arguments} {body : Expr} {scope : Scope} {p lpos pos : Pos} (m : List Bool) (hl : m.length = φ.length) (hg : Gl X x) (hm : X.mg x = some (.ref g)) (hk : PySem.W.keepIn X.K (.ref g) = true)
    (lk : X.K.lookup g = some ⟨oc, od, .func (PySem.W.fnOf x x pg bg sg dV kV doc pm an cdv ct), osl⟩) (hcg : PySem.W.codeIn X.K cdv x = true) (hb : L2.Binds X.K (PySem.W.fnOf x x pg bg sg dV kV doc pm an cdv ct) [a] []) (Sg : FnScope Ng [a] sg) (hNg : Ng[0]? = some a) (hva : Vis sg a)
    (hG : GivesD X Z Ng x sg g cdv bg a (X.env.qual ++ "<lambda>") kb kr G)
    (TB : TabB X.base X.mg c Q0) (hcode : X.env.code = .ref c) (hmT : (Q0, X.env.qual ++ "<lambda>") ∈ tabsOf Z) (hu : ∀ p ∈ tabsOf Z, p.1 = Q0 → p.2 = X.env.qual ++ "<lambda>") (hr : Room (k + 2) X.A) (hgd : X.A.guards = some []) (hsc : LamS X.env.scope scope) (hdef : defaultsOf params X.env = ([], []))
    (hbind : ∀ (q : Str) (cl : List (Str × Addr)) (pm cv ctv : Value), bindArgs (PySem.W.kla_fn "<lambda>" q params body scope cl pm cv ctv) ⟨[], []⟩ = pure [])
    (hbody : ∀ (A : Around) (outer : List PySem.Env) (s : Shared) (H : Hp) (E : XK) (f c' : Addr), Room k (A.deeper (lamEnv X scope s.heap.objs.size f c')) → A.guards = some [] → JE (lamCx X A outer s H E scope f c') Z (WE E) (m.map fun _ => 0) body φb (.v kb) fa)
    (hdb : (x == ("__debug__" : Str)) = false) (hd : (a == ("__debug__" : Str)) = false) (hcd : (a == ("__classdict__" : Str)) = false) :
    JE X Z W φ (.Call (.Name x p) [.Lambda params body scope lpos] [] pos) (capF m φ) (.v kr) (lamM m G fa) := by
  refine pe_imp (lam_call (T := tabsOf Z) (t := fun E => rdE X Z (WE E) (m.map fun _ => 0) φb (.v kb) fa)
    (TT := fun tl H Q => ∃ (L : List Root) (o : Out DV) (r : DV), (∀ E Q', (match o with
      | .ok d _ => ∀ v H', Sim X.K Z H' (⟨kb, d, v⟩ :: L) → Q' v H'
      | .ex c e _ => XC X.K Z E L c e
      | .bad => False) → tl E H Q') ∧ G o = some r ∧ ∀ v H', Sim X.K Z H' (⟨kr, r, v⟩ :: L) → Q v H')
    hg hm hk lk hcg hb Sg hNg hva (fun f c' s H Q tl act hc ⟨L, o, r, h1, h2, h3⟩ => hG f c' s H Q tl L o r act hc h1 h2 h3) TB hcode hmT hu hr hgd hsc hdef hbind (fun A outer s H E f c' hr2 hg2 => hbody A outer s H E f c' hr2 hg2) hdb hd hcd) fun σ H Q ⟨L, env, S, h⟩ => ?_
  refine ⟨S.sim.tab, fun H1 eN T1 => ?_⟩
  unfold lamM at h
  cases q : G (fa (capE m env)) with
  | none => rw [q] at h; exact h.elim
  | some r =>
    rw [q] at h
    have S1 := S.less (capF_le m φ)
    have s1 : Sim X.K Z H1 (roots (capF m φ) env σ ++ L) := S1.sim.tabs eN T1
    refine ⟨roots (capF m φ) env σ ++ L, fa (capE m env), r, fun E Q' hq => ?_, q, fun v H' s2 => h v H' ⟨s2, S1.al, fun y hy => ?_⟩⟩
    · have s2 : Sim X.K Z H1 (roots (m.map fun _ => 0) (capE m env) σ ++ (roots (capF m φ) env σ ++ L)) := s1.dupAll (D := roots (m.map fun _ => 0) (capE m env) σ) fun r hr => by
        rcases capE_mem (m := m) (φ := φ) (e := env) (σ := σ) r hr with ⟨z1, z2⟩ | z | z
        · exact ⟨z1, List.mem_append_left _ z2⟩
        · exact absurd hl z
        · exact absurd S.al z
      refine ⟨roots (capF m φ) env σ ++ L, capE m env, ⟨s2, capE_al hl S.al, fun _ z => nomatch z⟩, ?_⟩
      cases z : fa (capE m env) with
      | bad => rw [z] at hq; exact hq.elim
      | ok d e =>
        rw [z] at hq
        intro v H' s3
        exact hq v H' (s3.sim.sub (.cons_cons _ (List.sublist_append_right _ _)))
      | ex c e' e =>
        rw [z] at hq
        intro C a0 v σ' H' z1 z2 z3 z4
        exact hq C a0 v H' z1 z2 (z3.sub (.cons_cons _ (List.sublist_append_right _ _)))
    · rw [List.mem_singleton.mp hy]; trivial
end
end Lk
namespace Lk
open PySem PySem.Spec PyProof.Rows L2 LamX
def retO : Out Fl → Option DV
  | .ok (.rt d) _ => some d
  | _ => none
/-- call() as a statement -/
def holS (o : Out DV) : M Fl := fun e => match o with
  | .ok _ _ => .ok .nx e
  | .ex c g _ => .ex c g e
  | .bad => .bad
/-- return, of what call() gave -/
def holR (mk : DV → Option DV) (o : Out DV) : M Fl := fun e => match o with
  | .ok d _ => (match mk d with
    | some r => .ok (.rt r) e
    | none => .bad)
  | .ex c g _ => .ex c g e
  | .bad => .bad
def e0N (n : Nat) : Ev := List.replicate n none
def hGo (n i : Nat) (ks : List Cla) (hol : Out DV → M Fl) (gt : M Fl) (o : Out DV) : Option DV := retO (seqM (tryM n i ks (hol o)) gt (e0N n))
abbrev gX (X : Cx) (Ng : List Str) (x : Str) (sg : Scope) (g : Addr) (cdg : Value) (s : Shared) (H : Hp) : Cx := (cxOf C8.CX0 X.prog X.w X.K X.mg X.base Ng x sg g cdg X.A X.stack s H C8.E0).nox
abbrev z3 (n : Nat) : SF := ⟨List.replicate n 0, List.replicate n 0, List.replicate n 0⟩
section
variable {X : Cx} {Z : ClT} {kb kr i : Nat} {Ng : List Str} {x a q n : Str} {sg : Scope} {g : Addr} {cdg : Value} {ks : List (Value × Cla)} {h₀ : ExceptHandler} {hds : List ExceptHandler} {pos p1 p2 p3 p4 : Pos} {tail : List Stmt} {gt : M Fl} {ψ2 : SF}
theorem roots_none : ∀ {φ : List Nat} {m : Nat} {σ : L2.St}, roots φ (List.replicate m none) σ = []
  | [], m, _ => by cases m <;> rfl
  | _ :: _, 0, _ => rfl
  | _ :: _, _ + 1, [] => rfl
  | _ :: φ, m + 1, _ :: σ => by
    show roots φ (List.replicate m none) σ = []
    exact roots_none
theorem al_none : ∀ {m : Nat} {σ : L2.St}, σ.length = m → Al (List.replicate m 0) (List.replicate m none) σ
  | 0, [], _ => trivial
  | m + 1, _ :: σ, h => ⟨fun z => by simp at z, al_none (by simpa using h)⟩
  | 0, _ :: _, h => by simp at h
  | _ + 1, [], h => by simp at h
/-- the ends of the try statement, the rest behind it -/
theorem ends_of {L : List Root} {Q : VK} {r : DV} (Y : Cx) (hY : Y.K = X.K) {o : Out Fl} (h : retO (seqM (fun _ => o) gt []) = some r) (hq : ∀ v H', Sim X.K Z H' (⟨kr, r, v⟩ :: L) → Q v H') :
    Wish X.K Z noW L o fun fl e' => match fl with
      | .nx => ∀ σ' H', Stt X.K Z (List.replicate Ng.length 0) e' [] σ' H' L → Pok [] [] σ' → rdS Y Z noW [] kr (List.replicate Ng.length 0) ψ2 gt { nx := fun _ H' => Q .non H', rt := Q } σ' H'
      | .br => ∀ σ' H', Stt X.K Z (List.replicate Ng.length 0) e' [] σ' H' L → Pok [] [] σ' → False
      | .ct => ∀ σ' H', Stt X.K Z (List.replicate Ng.length 0) e' [] σ' H' L → Pok [] [] σ' → False
      | .rt d => ∃ outs, outsAt [] e' = some outs ∧ ∀ v H', Sim X.K Z H' (⟨kr, d, v⟩ :: (retR [] outs [] ++ L)) → Q v H' := by
  unfold seqM at h
  cases o with
  | bad => cases h
  | ex c e _ => cases h
  | ok fl e' =>
    cases fl with
    | br => cases h
    | ct => cases h
    | rt d =>
      cases h
      exact ⟨[], rfl, hq⟩
    | nx =>
      have h : retO (gt e') = some r := h
      intro σ' H' s hp
      refine ⟨L, e', [], by rw [hY]; exact s, .nil, ?_⟩
      cases z : gt e' with
      | bad => rw [z] at h; cases h
      | ex _ _ _ => rw [z] at h; cases h
      | ok fl e2 =>
        rw [z] at h
        cases fl with
        | nx => cases h
        | br => cases h
        | ct => cases h
        | rt d =>
          cases h
          exact ⟨[], rfl, by rw [hY]; exact hq⟩
/-- try: call() as the statement hb tells / except ..: .. / the tail -/
theorem gives {body : List Stmt} {hol : Out DV → M Fl} (tb : ((XK → Hp → VK → Prop)) → Addr → Addr → WX → TS)
    (hb : ∀ (f c' : Addr) (s : Shared) (H : Hp) (tl : XK → Hp → VK → Prop) (W : WX) (pn : List (Addr × Obj)) (xe : Value → Shared → Prop), Act X Ng x sg g cdg a q f c' s H tl → Takes ((gX X Ng x sg g cdg s H).tr pn xe) W → PSs ((gX X Ng x sg g cdg s H).tr pn xe) body (tb tl f c' W))
    (hol_ok : ∀ (f c' : Addr) (tl : XK → Hp → VK → Prop) (W : WX) (D : Ends) (τ : L2.St) (H : Hp) (L : List Root) (o : Out DV), τ[0]? = some (some (.ref f)) → H c' = some (CodeO c' q) → τ.length = Ng.length →
      (∀ E Q', (match o with
        | .ok d _ => ∀ v H', Sim X.K Z H' (⟨kb, d, v⟩ :: L) → Q' v H'
        | .ex c e _ => XC X.K Z E L c e
        | .bad => False) → tl E H Q') →
      (match hol o (e0N Ng.length) with
        | .ok .nx e => ∀ H', Sim X.K Z H' L → D.nx τ H'
        | .ok (.rt r) e => ∀ v H', Sim X.K Z H' (⟨kr, r, v⟩ :: L) → D.rt v H'
        | .ex c e _ => XC X.K Z (fun cls d G' => W cls d τ G') L c e
        | _ => False) → tb tl f c' W D τ H)
    (hol_e : ∀ o e, (∀ fl e', hol o e = .ok fl e' → e' = e ∧ (fl = .nx ∨ ∃ r, fl = .rt r)) ∧ ∀ c u e', hol o e = .ex c u e' → e' = e)
    (hN : Ng.Nodup) (hi : Ng[i]? = some n) (hln : sg.names.lookup n = some .local) (h0 : NoH Z)
    (hh : ∀ s H, HdsJ (gX X Ng x sg g cdg s H) Z kr n (z3 Ng.length) (h₀ :: hds) ks) (ht : ∀ s H, JSs (gX X Ng x sg g cdg s H) Z noW [] kr (List.replicate Ng.length 0) tail ψ2 gt) :
    GivesD X Z Ng x sg g cdg (.Try body (h₀ :: hds) [] [] pos :: tail) a q kb kr (hGo Ng.length i (ks.map (·.2)) hol gt) := by
  intro f c' s H Q tl L o r act hc hole hg hq
  have t1 := ps_try_all (X := gX X Ng x sg g cdg s H) (Wout := noW) (pos := pos) (tb := fun W => tb tl f c' W) rfl rfl hN hi hln L2.takes0 (fun W pn xe tk _ => hb f c' s H tl W pn xe act tk) (hh s H).toA
  refine ⟨_, pss_cons t1 (ht s H), ?_⟩
  have hgo : retO (seqM (fun _ => tryM Ng.length i (ks.map (·.2)) (hol o) (e0N Ng.length)) gt []) = some r := hg
  have W0 := ends_of (X := X) (Z := Z) (kr := kr) (Ng := Ng) (ψ2 := ψ2) (L := L) (gX X Ng x sg g cdg s H) rfl hgo hq
  have hst : (L2.start Ng [V.ref f]).length = Ng.length := by
    cases Ng with
    | nil => simp at hi
    | cons y ys => simp [L2.start]
  have h0s : (L2.start Ng [V.ref f])[0]? = some (some (V.ref f)) := rfl
  have s0 : ∀ {G : Hp}, Sim X.K Z G L → Stt X.K Z (List.replicate Ng.length 0) (e0N Ng.length) [] (L2.start Ng [V.ref f]) G L := fun {G} z => ⟨by
    show Sim X.K Z G (roots _ (List.replicate _ none) _ ++ L)
    rw [roots_none]
    exact z, al_none hst, fun _ z => nomatch z⟩
  refine hol_ok f c' tl _ _ _ H L o h0s hc hst hole ?_
  unfold tryM at W0
  obtain ⟨he1, he2⟩ := hol_e o (e0N Ng.length)
  cases z : hol o (e0N Ng.length) with
  | bad => rw [z] at W0; exact W0.elim
  | ok fl e =>
    rw [z] at W0
    obtain ⟨rfl, hfl⟩ := he1 fl e z
    rcases hfl with rfl | ⟨d, rfl⟩
    · intro G s1
      exact (show ∀ σ' H', Stt X.K Z (List.replicate Ng.length 0) (e0N Ng.length) [] σ' H' L → Pok [] [] σ' → rdS (gX X Ng x sg g cdg s H) Z noW [] kr (List.replicate Ng.length 0) ψ2 gt { nx := fun _ H' => Q .non H', rt := Q } σ' H' from W0) _ _ (s0 s1) .nil
    · obtain ⟨outs, _, k⟩ := (show ∃ outs, outsAt [] (e0N Ng.length) = some outs ∧ ∀ v H', Sim X.K Z H' (⟨kr, d, v⟩ :: (retR [] outs [] ++ L)) → Q v H' from W0)
      exact k
  | ex c u e =>
    rw [z] at W0
    obtain rfl := he2 c u e z
    simp only at W0
    split at W0
    case isFalse => exact W0.elim
    rename_i hcc
    intro C a0 v G z1 z2 s1
    have s2 : Sim X.K Z G (⟨0, .d u, v⟩ :: (roots (zeros (e0N Ng.length)) (e0N Ng.length) (L2.start Ng [V.ref f]) ++ L)) := by
      unfold e0N
      rw [roots_none]
      exact s1
    have al : Al (zeros (e0N Ng.length)) (e0N Ng.length) (L2.start Ng [V.ref f]) := by
      rw [zeros_eq]
      unfold e0N
      rw [List.length_replicate]
      exact al_none hst
    refine catch_all (X := gX X Ng x sg g cdg s H) (kr := kr) (ψ := z3 Ng.length) h0 hcc.1 hcc.2 (List.getElem?_eq_some_iff.mp hi).1 z1 z2 s2 al (hh s H).tks (W0.mono fun fl e' k => ?_)
    cases fl with
    | nx => exact k
    | rt d => exact k
    | br => exact fun σ' H' s3 hp => ((show ∀ σ' H', Stt X.K Z (List.replicate Ng.length 0) e' [] σ' H' L → Pok [] [] σ' → False from k) σ' H' s3 hp).elim
    | ct => exact fun σ' H' s3 hp => ((show ∀ σ' H', Stt X.K Z (List.replicate Ng.length 0) e' [] σ' H' L → Pok [] [] σ' → False from k) σ' H' s3 hp).elim
/-- try: call() -/
theorem givesS (hN : Ng.Nodup) (hi : Ng[i]? = some n) (hln : sg.names.lookup n = some .local) (h0 : NoH Z)
    (hh : ∀ s H, HdsJ (gX X Ng x sg g cdg s H) Z kr n (z3 Ng.length) (h₀ :: hds) ks) (ht : ∀ s H, JSs (gX X Ng x sg g cdg s H) Z noW [] kr (List.replicate Ng.length 0) tail ψ2 gt)
    (hsw : ∀ (s : Shared) (H : Hp), swapsWith (.Call (.Name a p1) [] [] p2) none p3.line (gX X Ng x sg g cdg s H).env = pure false) :
    GivesD X Z Ng x sg g cdg (.Try [.Expr (.Call (.Name a p1) [] [] p2) p3] (h₀ :: hds) [] [] pos :: tail) a q kb kr (hGo Ng.length i (ks.map (·.2)) holS gt) := by
  refine gives (fun tl f c' W D τ H' => ∃ E : XK, τ[0]? = some (some (.ref f)) ∧ H' c' = some (CodeO c' q) ∧ (∀ cls d G', E cls d G' → W cls d τ G') ∧ tl E H' fun _ H1 => D.nx τ H1) (fun f c' s H tl W pn xe act tk => ⟨fun pins s' σ H' D I ⟨E, h⟩ => ?_⟩) (fun f c' tl W D τ H L o e1 e2 e3 hole hk => ?_) (fun o e => ?_) hN hi hln h0 hh ht
  · exact (pss_one (ps_expr (act W pn xe E p1 p2 tk) (hsw s H))).run pins s' σ H' D I h
  · refine ⟨fun cls d G' => W cls d τ G', e1, e2, fun _ _ _ z => z, hole _ _ ?_⟩
    cases o with
    | bad => exact hk
    | ok d e => exact fun v H' z => (show ∀ H', Sim X.K Z H' L → D.nx τ H' from hk) H' (z.sub (List.sublist_cons_self _ _))
    | ex c u e => exact hk
  · cases o with
    | bad => exact ⟨fun fl e' z => (by cases z), fun c u e' z => (by cases z)⟩
    | ok d e1 => exact ⟨fun fl e' z => (by cases z; exact ⟨rfl, .inl rfl⟩), fun c u e' z => (by cases z)⟩
    | ex c u e1 => exact ⟨fun fl e' z => (by cases z), fun c u e' z => (by cases z; rfl)⟩
def mkP (l : Bool) (y : PyData) : DV → Option DV
  | .d z => some (.d (.list (if l then [y, z] else [z, y])))
  | _ => none
/-- try: return [call(), y] -/
theorem givesR {y : PyData} {vy : V} {ey : Expr} (hy : ∀ H, Den X.K H y vy []) (he : ∀ s H pn xe, PE ((gX X Ng x sg g cdg s H).tr pn xe) ey (tC vy)) (hkr : kr ≤ kb + 1) (hN : Ng.Nodup) (hi : Ng[i]? = some n) (hln : sg.names.lookup n = some .local) (h0 : NoH Z)
    (hh : ∀ s H, HdsJ (gX X Ng x sg g cdg s H) Z kr n (z3 Ng.length) (h₀ :: hds) ks) (ht : ∀ s H, JSs (gX X Ng x sg g cdg s H) Z noW [] kr (List.replicate Ng.length 0) tail ψ2 gt) (hns : noStar ey = true) :
    GivesD X Z Ng x sg g cdg (.Try [.Return (some (.List [.Call (.Name a p1) [] [] p2, ey] p3)) p4] (h₀ :: hds) [] [] pos :: tail) a q kb kr (hGo Ng.length i (ks.map (·.2)) (holR (mkP false y)) gt) := by
  refine gives (fun tl f c' W D τ H' => ∃ E : XK, τ[0]? = some (some (.ref f)) ∧ H' c' = some (CodeO c' q) ∧ (∀ cls d G', E cls d G' → W cls d τ G') ∧ tl E H' fun v H1 => [v, vy].length ≤ sizeLine ∧ ∀ p, H1 p = none → D.rt (.ref p) (upd H1 p (.lst [v, vy]))) (fun f c' s H tl W pn xe act tk => ⟨fun pins s' σ H' D I ⟨E, h⟩ => ?_⟩) (fun f c' tl W D τ H L o e1 e2 e3 hole hk => ?_) (fun o e => ?_) hN hi hln h0 hh ht
  · exact (pss_one (ps_ret (pe_lst (pa_cons (act W pn xe E p1 p2 tk) (pa_cons (he s H pn xe) pa_nil (star_eq hns)) (star_eq rfl))))).run pins s' σ H' D I h
  · refine ⟨fun cls d G' => W cls d τ G', e1, e2, fun _ _ _ z => z, hole _ _ ?_⟩
    cases o with
    | bad => exact hk
    | ex c u e => exact hk
    | ok d e =>
      cases d with
      | o _ _ => exact hk.elim
      | x _ _ => exact hk.elim
      | f _ _ _ => exact hk.elim
      | z _ => exact hk.elim
      | g _ => exact hk.elim
      | k _ _ => exact hk.elim
      | e _ _ => exact hk.elim
      | s _ => exact hk.elim
      | d z =>
        intro v H' s1
        refine ⟨(by decide : 2 ≤ sizeLine), fun p hp => ?_⟩
        refine (show ∀ v H', Sim X.K Z H' (⟨kr, .d (.list [z, y]), v⟩ :: L) → D.rt v H' from hk) _ _ ?_
        refine Sim.weak ?_ hkr
        refine Sim.mkL (n := kb) (ds := [z, y]) (vs := [v, vy]) ?_ rfl hp
        show Sim X.K Z H' (⟨kb, .d z, v⟩ :: ⟨kb, .d y, vy⟩ :: L)
        have s2 : Sim X.K Z H' (⟨kb, .d y, vy⟩ :: ⟨kb, .d z, v⟩ :: L) := s1.scal (.d (hy _))
        exact s2.perm (.swap _ _ _)
  · cases o with
    | bad => exact ⟨fun fl e' z => (by cases z), fun c u e' z => (by cases z)⟩
    | ex c u e1 => exact ⟨fun fl e' z => (by cases z), fun c u e' z => (by cases z; rfl)⟩
    | ok d e1 =>
      cases d with
      | d z => exact ⟨fun fl e' z => (by cases z; exact ⟨rfl, .inr ⟨_, rfl⟩⟩), fun c u e' z => (by cases z)⟩
      | o _ _ => exact ⟨fun fl e' z => (by cases z), fun c u e' z => (by cases z)⟩
      | x _ _ => exact ⟨fun fl e' z => (by cases z), fun c u e' z => (by cases z)⟩
      | f _ _ _ => exact ⟨fun fl e' z => (by cases z), fun c u e' z => (by cases z)⟩
      | z _ => exact ⟨fun fl e' z => (by cases z), fun c u e' z => (by cases z)⟩
      | g _ => exact ⟨fun fl e' z => (by cases z), fun c u e' z => (by cases z)⟩
      | k _ _ => exact ⟨fun fl e' z => (by cases z), fun c u e' z => (by cases z)⟩
      | e _ _ => exact ⟨fun fl e' z => (by cases z), fun c u e' z => (by cases z)⟩
      | s _ => exact ⟨fun fl e' z => (by cases z), fun c u e' z => (by cases z)⟩
theorem pe_neg1 {Y : Cx} {j : Int} {kk : Nat} : PE Y (.UnaryOp .USub (.Constant (.int j) kk p1) p2) (tC (.int (-j))) := pe_imp (pe_un un_neg pe_int) fun σ H Q h => ⟨j, rfl, h⟩
end
end Lk
namespace Lk
open PySem PySem.Spec PyProof.Rows L2 LamX
/-- how the __init__ binds its keyword -/
def KwBinds (K : PySem.W.Frag) (fd : FuncData) (pnm : Str) : Prop := ∀ (s : Shared) (u y : Value), K.In s.heap → BindsTo s fd ⟨[u], [(pnm, y)]⟩ [("self", u), (pnm, y)]
/-- the class x, number c, can be raised with one thing -/
structure ErrC (P : Program) (w : World) (K : PySem.W.Frag) (mg : Str → Option Value) (base : Heap) (Z : ClT) (c : Nat) (x : Str) : Prop where
  ex : ∃ (C fI : Addr) (fd : FuncData) (y : Str), mg x = some (.ref C) ∧ Z c = some C ∧ OexC K C ∧ PySem.W.findIn K (.ref C) "__init__" = some (some (.ref fI)) ∧ PySem.W.typeIn K (.ref fI) = some (.type "function") ∧
    FnOk P w K mg base (L2.CX P w) 1 fI fd ["self", y] (spIni K C (fldOf c)) ∧ Binds K fd ["self", y] [] ∧ KwBinds K fd y ∧ y = fldOf c
/-- what all classes of errors say -/
structure ErrsOk (K : PySem.W.Frag) (Z : ClT) : Prop where
  nh : NoH Z
  xf : ∀ c C, c < 200 → Z c = some C → XfC K C ∧ ExcC K C ∧ PySem.W.findIn K (.ref C) "given" = some none ∧ PySem.W.findIn K (.ref C) "index" = some none
/-- the class x in a clause, in isinstance: whom it takes -/
structure ErrM (K : PySem.W.Frag) (mg : Str → Option Value) (Z : ClT) (x : Str) (tk : Nat → Bool) : Prop where
  ex : ∃ D, mg x = some (.ref D) ∧ (∀ c C, c < 200 → Z c = some C → PySem.W.exmOne K (.ref C) (.ref D) = some (tk c)) ∧ ∀ c C, c < 200 → Z c = some C → PySem.W.kitOne K (.ref C) (.ref D) = some (tk c)
/-- number d alone; all -/
def tkC (d : Nat) : Nat → Bool := fun c => c == d
def tkA : Nat → Bool := fun _ => true
section
variable {X : Cx} {Z : ClT} {W : WX} {P : List (Nat × Nat)} {kr k c i : Nat} {φ φ1 : List Nat} {ψ : SF} {t : Tm} {fa : M DV} {a : Expr} {x y f : Str} {p p2 pos pos' : Pos}
theorem gRaise (E : ErrC X.prog X.w X.K X.mg X.base Z c x) (hr : Room k X.A) (tk : Takes X W) (ha : JE X Z W φ a φ1 t fa) (hk : 2 ≤ k := by decide) (hc : X.calm = true := by rfl) (hg : Gl X x := by rfl) (hs : noStar a = true := by rfl) (hdb : (x == ("__debug__" : Str)) = false := by decide) :
    JS X Z W P kr φ (.Raise (some (.Call (.Name x p) [a] [] pos)) none pos') ψ (raiM c t fa) := by
  obtain ⟨C, fI, fd, y, h1, h2, h3, h4, h5, h6, h7, _⟩ := E.ex
  exact js_raise hc tk h3 h4 h5 h6 (hr.mono hk) h7 hg h1 h2 rfl ha hs hdb
variable {a0 d C : Addr} {oe : Obj} {pn : List (Addr × Obj)}
theorem gXf (i : Nat) (E : ErrsOk X.K Z) (hC : ∃ c, c < 200 ∧ Z c = some C) (hz : Zc (.ref C) (some d) oe) (hf : ∃ vs, oe.data = .fields vs) (hfl : f = "given" ∨ f = "index" := by first | exact .inl rfl | exact .inr rfl)
    (hN : X.N[i]? = some x := by rfl) (hv : Vis X.env.scope x := by first | exact Or.inl rfl | exact Or.inr (Or.inl rfl) | exact Or.inr (Or.inr rfl)) (hφ : φ[i]? = some 0 := by rfl) (hd : (x == ("__debug__" : Str)) = false := by decide) (hcd : (x == ("__classdict__" : Str)) = false := by decide) :
    JE (X.suite a0 ((a0, oe) :: pn)) (handZ Z a0 d C) W φ (.Attribute (.Name x p) f pos) φ (.v 0) (fldM i f) := by
  obtain ⟨c, hc, hZ⟩ := hC
  obtain ⟨h1, h2, h3, h4⟩ := E.xf c C hc hZ
  refine je_xf h1 ?_ hz hf hN hv hφ hd hcd
  rcases hfl with rfl | rfl
  · exact h3
  · exact h4
theorem gIsX {tk : Nat → Bool} (i : Nat) (E : ErrsOk X.K Z) (M : ErrM X.K X.mg Z y tk) (hC : ∃ c, c < 200 ∧ Z c = some C) (hz : Zc (.ref C) (some d) oe) (hf : ∃ vs, oe.data = .fields vs) (mi : X.mg "isinstance" = none)
    (hN : X.N[i]? = some x := by rfl) (hv : Vis X.env.scope x := by first | exact Or.inl rfl | exact Or.inr (Or.inl rfl) | exact Or.inr (Or.inr rfl)) (hφ : φ[i]? = some 0 := by rfl) (gi : Gl X "isinstance" := by rfl) (gy : Gl X y := by rfl) (dy : (y == ("__debug__" : Str)) = false := by decide)
    (hd : (x == ("__debug__" : Str)) = false := by decide) (hcd : (x == ("__classdict__" : Str)) = false := by decide) :
    JE (X.suite a0 ((a0, oe) :: pn)) (handZ Z a0 d C) W φ (.Call (.Name "isinstance" pos') [.Name x p, .Name y p2] [] pos) φ (.v 9) (isXM i tk) := by
  obtain ⟨c, hc, hZ⟩ := hC
  obtain ⟨D, m1, m2, m3⟩ := M.ex
  exact je_isX (E.xf c C hc hZ).2.1 hz hf (fun c' hc' hz' => m3 c' C hc' hz') _ _ rfl gi mi gy m1 dy hN hv hφ hd hcd
/-- a clause -/
theorem gHd {n : Str} {b₀ : Stmt} {suite : List Stmt} {np : Pos} {hds : List ExceptHandler} {l : List (Value × Cla)} {D : Addr} {tk : Nat → Bool} {g : M Fl} (hm : X.mg x = some (.ref D)) (ht : ∀ c C, c < 200 → Z c = some C → PySem.W.exmOne X.K (.ref C) (.ref D) = some (tk c))
    (hsu : ∀ (a C d : Addr) (oe : Obj) (pn : List (Addr × Obj)), Zc (.ref C) (some d) oe → (∃ vs, oe.data = .fields vs) → (∃ c, c < 200 ∧ Z c = some C) → JSs (X.suite a ((a, oe) :: pn)) (handZ Z a d C) noW [] kr (List.replicate X.N.length 0) (b₀ :: suite) ψ g)
    (r : HdsJ X Z kr n ψ hds l) (hg : Gl X x := by rfl) (hdb : (x == ("__debug__" : Str)) = false := by decide) :
    HdsJ X Z kr n ψ (.ExceptHandler (some (.Name x np)) (some n) (b₀ :: suite) pos' :: hds) ((.ref D, ⟨tk, g⟩) :: l) := .cons ⟨hg, hdb, .inl hm⟩ ht hsu r
end
/-- the def number j makes lambdas: its code, its table -/
structure LamT (K : PySem.W.Frag) (mg : Str → Option Value) (base : Heap) (Z : ClT) (j : Nat) (f0 : Addr) : Prop where
  ex : ∃ c Q, TabB base mg c Q ∧ (Q, lamQ j) ∈ tabsOf Z ∧ (∀ p ∈ tabsOf Z, p.1 = Q → p.2 = lamQ j) ∧ ∃ oc od fd osl, K.lookup f0 = some ⟨oc, od, .func fd, osl⟩ ∧ fd.code = .ref c
section
variable {X : Cx} {Z : ClT} {W : WX} {φ φb : List Nat} {kb kr k : Nat} {G : Out DV → Option DV} {fa : M DV} {x a : Str} {g f0 : Addr} {st : Stmt} {fd : FuncData} {Ng : List Str} {params : Arguments} {body : Expr} {scope : Scope} {p lpos pos : Pos}
theorem gLam (m : List Bool) (j : Nat) (T : LamT X.K X.mg X.base Z j f0) (hcc : ∀ oc od fd osl, X.K.lookup f0 = some ⟨oc, od, .func fd, osl⟩ → fd.code = X.env.code) (fn : Fun X.K x x st g fd) (hm : X.mg x = some (.ref g))
    (hbi : ∀ (kV doc pm : Value) (an : Option Addr) (cdv ct : Value) (l : List Value), l.length = [a].length → bindArgs (PySem.W.fnOf x x (defArgs st) (defBody st) (defScope st) .none kV doc pm an cdv ct) ⟨l, []⟩ = pure ([a].zip l))
    (Sg : FnScope Ng [a] (defScope st)) (Gv : ∀ cdg, GivesD X Z Ng x (defScope st) g cdg (defBody st) a (X.env.qual ++ "<lambda>") kb kr G) (hr : Room (k + 2) X.A) (hgd : X.A.guards = some [])
    (hbody : ∀ (A : Around) (outer : List PySem.Env) (s : Shared) (H : Hp) (E : XK) (f c' : Addr), Room k (A.deeper (lamEnv X scope s.heap.objs.size f c')) → (A.deeper (lamEnv X scope s.heap.objs.size f c')).guards = some [] → Takes (lamCx X A outer s H E scope f c') (WE E) → JE (lamCx X A outer s H E scope f c') Z (WE E) (m.map fun _ => 0) body φb (.v kb) fa)
    (hq : X.env.qual ++ "<lambda>" = lamQ j := by rfl) (hl : m.length = φ.length := by rfl) (hNg : Ng[0]? = some a := by rfl) (hva : Vis (defScope st) a := by first | exact Or.inl rfl | exact Or.inr (Or.inl rfl) | exact Or.inr (Or.inr rfl)) (hg : Gl X x := by rfl)
    (hsc : lamSB X.env.scope scope = true := by rfl) (hdef : defaultsOf params X.env = ([], []) := by rfl)
    (hbind : ∀ (q : Str) (cl : List (Str × Addr)) (pm cv ctv : Value), bindArgs (PySem.W.kla_fn "<lambda>" q params body scope cl pm cv ctv) ⟨[], []⟩ = pure [] := by intro _ _ _ _ _; rfl)
    (hdb : (x == ("__debug__" : Str)) = false := by decide) (hd : (a == ("__debug__" : Str)) = false := by decide) (hcd : (a == ("__classdict__" : Str)) = false := by decide) :
    JE X Z W φ (.Call (.Name x p) [.Lambda params body scope lpos] [] pos) (capF m φ) (.v kr) (lamM m G fa) := by
  obtain ⟨c, Q, tb, h1, h2, oc, od, fd0, osl, h3, h4⟩ := T.ex
  have hcode : X.env.code = .ref c := (hcc _ _ _ _ h3).symm.trans h4
  obtain ⟨oc', od', kV, doc, pm, an, cdv, ct, osl', rfl, lk, hcg⟩ := fn.ex
  rw [← hq] at h1 h2
  exact je_lam m hl hg hm fn.kp lk hcg (.all fun us hu => hbi kV doc pm an cdv ct us hu) Sg hNg hva (Gv cdv) tb hcode h1 h2 hr hgd (lamS_by hsc) hdef hbind (fun A outer s H E f c' hr2 hg2 => hbody A outer s H E f c' hr2 hg2 (takes_of rfl rfl rfl rfl)) hdb hd hcd
end
end Lk
namespace Lk
open PySem PySem.Spec PyProof.Rows L2 LamX PySem.W
def clsList : List (Nat × Str) := [(0, "InvalidGraph"), (1, "InvalidEdge"), (2, "InvalidVertex"), (3, "InvalidTriangle"), (4, "InvalidNumber"), (5, "InvalidRotation"), (6, "TooMany"), (100, "InvalidText"), (101, "InvalidMoves"), (102, "InvalidPasses"), (103, "InvalidLines"), (150, "LinkError")]
section
variable {K : Frag} {mg : Str → Option Value} {tl : List Nat}
theorem ZK_cls {c : Nat} {C : Addr} (h : ZK K tl c = some C) (hc : c < 200) : ∃ y, (c, y) ∈ clsList ∧ nsIn K mainGlobals y = some (some (.ref C)) := by
  unfold ZK at h
  rw [if_neg (by omega), if_neg (by omega), if_pos (by omega)] at h
  cases q : clsName c with
  | none => rw [q] at h; cases h
  | some y =>
    rw [q] at h
    simp only at h
    have hy : nsIn K mainGlobals y = some (some (.ref C)) := by
      split at h
      · cases h; assumption
      · cases h
    refine ⟨y, ?_, hy⟩
    unfold clsName at q
    split at q <;> first | (cases q; simp [clsList]; done) | (cases q; done) | (omega)
theorem ZK_nh : NoH (ZK K tl) := fun n h1 h2 => by
  unfold ZK
  rw [if_neg (by omega), if_neg (by omega), if_neg (by omega), if_pos (by omega)]
theorem ZK_at {c : Nat} {y : Str} {C : Addr} (hc : c < 300) (h1 : clsName c = some y) (h2 : nsIn K mainGlobals y = some (some (.ref C))) : ZK K tl c = some C := by
  unfold ZK
  rw [if_neg (by omega), if_neg (by omega), if_pos (by omega), h1]
  simp only
  rw [h2]
def ofCls (K : Frag) (b : Nat → Addr → Bool) : Bool := clsList.all fun p => match nsIn K mainGlobals p.2 with
  | some (some (.ref C)) => b p.1 C
  | _ => true
theorem ofCls_ok {b : Nat → Addr → Bool} (h : ofCls K b = true) {c : Nat} {C : Addr} (hc : c < 200) (hz : ZK K tl c = some C) : b c C = true := by
  obtain ⟨y, h1, h2⟩ := ZK_cls hz hc
  have := List.all_eq_true.mp h _ h1
  simp only at this
  rw [h2] at this
  exact this
def excB (K : Frag) (D : Addr) : Bool := decide (findIn K (.ref D) "__getattribute__" = some (some (.builtin "BaseException.__getattribute__"))) && (decide (findIn K (.ref D) "__getattr__" = some none) && (decide (subIn K (.ref D) (.type "BaseException") = some true) && (hasDictIn K D && (decide (findIn K (.ref D) "__class__" = some (some (.builtin "object.__class__"))) &&
  (decide (specialIn K (.builtin "object.__class__") "__get__" = some (some (.builtin "getset_descriptor.__get__"))) && (decide (takesIn K (.builtin "object.__class__") = some true) && decide (mroIn K D (.type "object") = some true)))))))
theorem excB_ok {D : Addr} (h : excB K D = true) : ExcC K D := by
  unfold excB at h
  simp only [Bool.and_eq_true, decide_eq_true_eq] at h
  obtain ⟨h1, h2, h3, h4, h5, h6, h7, h8⟩ := h
  exact ⟨h1, h2, h3, h4, h5, h6, h7, h8⟩
def errsB (K : Frag) : Bool := ofCls K fun _ C => xfB K C && (excB K C && (decide (findIn K (.ref C) "given" = some none) && decide (findIn K (.ref C) "index" = some none)))
theorem errsB_ok (h : errsB K = true) : ErrsOk K (ZK K tl) := ⟨ZK_nh, fun c C hc hz => by
  have := ofCls_ok h hc hz
  simp only [Bool.and_eq_true, decide_eq_true_eq] at this
  obtain ⟨h1, h2, h3, h4⟩ := this
  exact ⟨xfB_ok h1, excB_ok h2, h3, h4⟩⟩
def errmB (K : Frag) (D : Addr) (tk : Nat → Bool) : Bool := ofCls K fun c C => decide (exmOne K (.ref C) (.ref D) = some (tk c)) && decide (kitOne K (.ref C) (.ref D) = some (tk c))
theorem errM_mk {x : Str} {D : Addr} {tk : Nat → Bool} (hm : mg x = some (.ref D)) (h : errmB K D tk = true) : ErrM K mg (ZK K tl) x tk := by
  refine ⟨D, hm, fun c C hc hz => ?_, fun c C hc hz => ?_⟩
  · have := ofCls_ok h hc hz
    simp only [Bool.and_eq_true, decide_eq_true_eq] at this
    exact this.1
  · have := ofCls_ok h hc hz
    simp only [Bool.and_eq_true, decide_eq_true_eq] at this
    exact this.2
def oexB (K : Frag) (C : Addr) : Bool := (match K.lookup C with
    | some ⟨.type "type", _, .cls cd, sl⟩ => (match cd.mro, sl.toList with
      | .ref C' :: bm, [_, _, _, _, some (.builtin n), _] => C' == C && (n == "ValueError.__new__" && (!cd.hasDel && (cd.hasDict && PySem.HandSPX.refsVE bm)))
      | _, _ => false)
    | _ => false) &&
  (decide (findIn K (.ref C) "__setattr__" = some (some (.builtin "object.__setattr__"))) && (decide (subIn K (.ref C) (.type "BaseException") = some true) && (decide (typeIn K (.ref C) = some (.type "type")) && keepIn K (.ref C))))
theorem oexB_ok {C : Addr} (h : oexB K C = true) : OexC K C := by
  unfold oexB at h
  obtain ⟨h0, h⟩ := Bool.and_eq_true_iff.mp h
  simp only [Bool.and_eq_true, decide_eq_true_eq] at h
  obtain ⟨h1, h2, h3, h4⟩ := h
  refine ⟨?_, h1, h2, h3, h4⟩
  split at h0
  · rename_i dd cd sl ho
    split at h0
    · rename_i C' bm k0 k1 k2 k3 n k5 hm hs
      simp only [Bool.and_eq_true, beq_iff_eq, Bool.not_eq_true'] at h0
      obtain ⟨rfl, rfl, hdel, hdct, hv⟩ := h0
      obtain ⟨nm, bs, mro, ns, qn, hd, sn, sub, ab, col, del⟩ := cd
      dsimp only at hm hdel hdct
      subst hm hdel hdct
      have e : sl = #[k0, k1, k2, k3, some (.builtin "ValueError.__new__"), k5] := by
        obtain ⟨l⟩ := sl
        simp only at hs
        rw [hs]
      subst e
      exact ⟨nm, qn, ns, bs, bm, sn, sub, ab, col, dd, k0, k1, k2, k3, k5, ho, hv⟩
    · cases h0
  · cases h0
/-- all that the raising of C asks of the written part -/
def iniB (K : Frag) (file : Str) (C cc cda fI : Addr) (fl qual : Str) : Bool :=
  oexB K C && (decide (typeIn K (.ref fI) = some (.type "function")) && (decide (findIn K (.ref C) fl = some none) && (codeIn K (.ref cda) qual &&
  ((match K.lookup cc with
    | some ⟨_, _, .cell (some (.ref C')), _⟩ => C' == C
    | _ => false) &&
  ((match K.lookup cda with
    | some ⟨_, _, .fields vs, _⟩ => (match (vs[2]? : Option Value) with
      | some (.str fi _) => file == fi
      | _ => false)
    | _ => false) &&
  (decide (nsIn K cStatics "thirdparty.any" = some none) && (decide (ks_superIn K C C "__init__" = some (some (.builtin "ValueError.__init__"))) && (decide (subIn K (.ref C) (.type "ValueError") = some true) && decide (mroIn K C (.ref C) = some true)))))))))
theorem errC_mk {P : Program} {w : World} {base : Heap} {Z : ClT} {c : Nat} {x p qual name : Str} {C f cc cda : Addr} {oc : Value} {od : Option Addr} {osl : Array (Option Value)} {params : Arguments} {scope : Scope} {dV kV doc pm ct : Value} {an : Option Addr} {p0 p1 p2 p3 p4 p5 p6 p7 p8 : Pos} {pl : Sem Bool} {ar : Arg}
    (hm : mg x = some (.ref C)) (hZ : Z c = some C) (iC : findIn K (.ref C) "__init__" = some (some (.ref f)))
    (lk : K.lookup f = some ⟨oc, od, .func (ksFn name qual params [.Expr (.Call (.Attribute (.Call (.Name "super" p0) [] [] p1) "__init__" p2) [] [] p3) p4, .Assign [.Attribute (.Name "self" p5) (fldOf c) p6] (.Name p p7) p8] scope dV kV doc pm an (.ref cda) ct cc), osl⟩)
    (hB : iniB K P.main.file C cc cda f (fldOf c) qual = true) (hsup : mg "super" = none) (htop : (P.main.scope.names.lookup ("super" : Str)).isSome = false) (S : IniS p scope) (hh : (params.posonlyargs ++ params.args).head? = some ar) (har : ar.arg = ("self" : Str))
    (hbi : ∀ us : List Value, us.length = 2 → bindArgs (ksFn name qual params [.Expr (.Call (.Attribute (.Call (.Name "super" p0) [] [] p1) "__init__" p2) [] [] p3) p4, .Assign [.Attribute (.Name "self" p5) (fldOf c) p6] (.Name p p7) p8] scope dV kV doc pm an (.ref cda) ct cc) ⟨us, []⟩ = pure ([("self" : Str), p].zip us))
    (hi : ∀ L, interactive (ksEnv qual scope L f (.ref cda) cc) = false)
    (hsw : ∀ L, swapsWith (.Call (.Attribute (.Call (.Name "super" p0) [] [] p1) "__init__" p2) [] [] p3) none p4.line (ksEnv qual scope L f (.ref cda) cc) = pure false)
    (hsw2 : ∀ L, swapsWith (.Name p p7) (some (.Attribute (.Name "self" p5) (fldOf c) p6)) p8.line (ksEnv qual scope L f (.ref cda) cc) = pure false)
    (hev : ∀ L, eval (.Call (.Attribute (.Call (.Name "super" p0) [] [] p1) "__init__" p2) [] [] p3) (ksEnv qual scope L f (.ref cda) cc) = (do
      let ov ← attributeBase (.Call (.Name "super" p0) [] [] p1) "__init__" (ksEnv qual scope L f (.ref cda) cc) (eval (.Call (.Name "super" p0) [] [] p1) (ksEnv qual scope L f (.ref cda) cc))
      standAt p2.atName
      let (g, first) ← holding [ov] (getMethod ov "__init__" pl)
      callWith p3 g first (backTo p3 (starEach [] (ksEnv qual scope L f (.ref cda) cc))) []))
    (hdb : (p == ("__debug__" : Str)) = false) (hpc : (p == ("__classdict__" : Str)) = false)
    (hbk : ∀ u y : Value, bindArgs (ksFn name qual params [.Expr (.Call (.Attribute (.Call (.Name "super" p0) [] [] p1) "__init__" p2) [] [] p3) p4, .Assign [.Attribute (.Name "self" p5) (fldOf c) p6] (.Name p p7) p8] scope dV kV doc pm an (.ref cda) ct cc) ⟨[u], [(p, y)]⟩ = pure ([(("self" : Str), u), (p, y)] : List (Str × Value))) (hpf : p = fldOf c) : ErrC P w K mg base Z c x := by
  unfold iniB at hB
  obtain ⟨h0, hB⟩ := Bool.and_eq_true_iff.mp hB
  obtain ⟨h1, hB⟩ := Bool.and_eq_true_iff.mp hB
  obtain ⟨h2, hB⟩ := Bool.and_eq_true_iff.mp hB
  obtain ⟨h3, hB⟩ := Bool.and_eq_true_iff.mp hB
  obtain ⟨h4, hB⟩ := Bool.and_eq_true_iff.mp hB
  obtain ⟨h5, hB⟩ := Bool.and_eq_true_iff.mp hB
  simp only [Bool.and_eq_true, decide_eq_true_eq] at hB
  obtain ⟨h6, h7, h8, h9⟩ := hB
  have T : IniC K mg P C cc cda f (ksFn name qual params [.Expr (.Call (.Attribute (.Call (.Name "super" p0) [] [] p1) "__init__" p2) [] [] p3) p4, .Assign [.Attribute (.Name "self" p5) (fldOf c) p6] (.Name p p7) p8] scope dV kV doc pm an (.ref cda) ct cc) := by
    refine ⟨oexB_ok h0, ?_, ⟨oc, od, osl, lk⟩, ⟨ar, hh, har⟩, ?_, htop, hsup, h6, h7, h8, h9⟩
    · split at h4
      · rename_i q
        cases beq_iff_eq.mp h4
        exact ⟨_, _, _, q⟩
      · cases h4
    · split at h5
      · rename_i q
        split at h5
        · rename_i fi tf e
          exact ⟨_, _, _, _, fi, tf, q, e, h5⟩
        · cases h5
      · cases h5
  exact ⟨C, f, _, p, hm, hZ, oexB_ok h0, iC, of_decide_eq_true h1, fn_ini (k := 0) S T h3 (of_decide_eq_true h2) hi hsw hsw2 hev hdb hpc, .all hbi, fun s u y _ => .of_eq (hbk u y), hpf⟩
/-- the tables of code -/
theorem lamT_mk {base : Heap} {j c Q f0 : Addr} {oc : Value} {od : Option Addr} {fd : FuncData} {osl : Array (Option Value)} (htb : TabF K mg base tl) (hj : j ∈ tl) (hj4 : j < 4) (ht : tabIn K (lamDef j) = some (c, Q)) (lk : K.lookup f0 = some ⟨oc, od, .func fd, osl⟩) (hc : fd.code = .ref c)
    (hu : ∀ i ∈ tl, i ≠ j → ∀ c', tabIn K (lamDef i) ≠ some (c', Q)) : LamT K mg base (ZK K tl) j f0 := by
  have mem : ∀ i ∈ tl, i < 4 → ∀ c' Q', tabIn K (lamDef i) = some (c', Q') → (Q', lamQ i) ∈ tabsOf (ZK K tl) := fun i hi h4 c' Q' h => by
    unfold tabsOf
    refine List.mem_filterMap.mpr ⟨i, List.mem_range.mpr h4, ?_⟩
    have z8 : ¬ (300 ≤ 2000 + i ∧ 2000 + i < 400) := by omega
    have z9 : ¬ 4000 ≤ 2000 + i := by omega
    have z1 : ¬ 2000 + i < 1000 := by omega
    have z2 : ¬ 2000 + i < 2000 := by omega
    have z3 : 2000 + i - 2000 = i := by omega
    unfold ZK
    rw [if_neg z8, if_neg z9, if_neg z1, if_neg z2, z3, if_pos hi, h]
    rfl
  refine ⟨c, Q, htb j hj c Q ht, mem j hj hj4 c Q ht, fun p hp e => ?_, _, _, _, _, lk, hc⟩
  unfold tabsOf at hp
  obtain ⟨i, hi4, e2⟩ := List.mem_filterMap.mp hp
  have hi4 := List.mem_range.mp hi4
  obtain ⟨Q', e3, rfl⟩ := Option.map_eq_some_iff.mp e2
  have z8 : ¬ (300 ≤ 2000 + i ∧ 2000 + i < 400) := by omega
  have z9 : ¬ 4000 ≤ 2000 + i := by omega
  have z1 : ¬ 2000 + i < 1000 := by omega
  have z2 : ¬ 2000 + i < 2000 := by omega
  have z3 : 2000 + i - 2000 = i := by omega
  unfold ZK at e3
  rw [if_neg z8, if_neg z9, if_neg z1, if_neg z2, z3] at e3
  split at e3
  · rename_i hi
    obtain ⟨q, e4, rfl⟩ := Option.map_eq_some_iff.mp e3
    by_cases hij : i = j
    · rw [hij]
    · exact absurd (by rw [e4]; rw [← e]) (hu i hi hij q.1)
  · cases e3
/-- no table of the list is written out -/
def noTabB (K : Frag) (j : Nat) : Bool := match tabIn K (lamDef j) with
  | some (_, Q) => (K.lookup Q).isNone
  | none => true
theorem noTab_ok {K : Frag} {j c Q : Nat} (h : noTabB K j = true) (e : tabIn K (lamDef j) = some (c, Q)) : K.lookup Q = none := by
  unfold noTabB at h
  rw [e] at h
  exact Option.isNone_iff_eq_none.mp h
end
/-- the table of a def's code -/
theorem tabIn_of {K : Frag} {x : Str} {f c Q : Addr} {oc e : Value} {od dd : Option Addr} {fd : FuncData} {osl sl : Array (Option Value)} {vs : Array Value} (a : nsIn K mainGlobals x = some (some (.ref f))) (l : K.lookup f = some ⟨oc, od, .func fd, osl⟩) (hc : fd.code = .ref c)
    (lc : K.lookup c = some ⟨e, dd, .fields vs, sl⟩) (hv : vs[11]? = some (.ref Q)) : tabIn K x = some (c, Q) := by
  unfold tabIn
  rw [a]
  simp only
  rw [l]
  simp only
  rw [hc]
  simp only
  rw [lc]
  simp only
  rw [hv]
end Lk
namespace Lk
open PySem PySem.Spec L2
section
variable {α β : Type}
theorem bind_ok {a : α} {e : Ev} {f : α → Ev → Out β} : (Out.ok a e).bind f = f a e := rfl
theorem bind_ex {c : Nat} {g : PyData} {e : Ev} {f : α → Ev → Out β} : (Out.ex c g e : Out α).bind f = .ex c g e := rfl
theorem bind_bad {f : α → Ev → Out β} : (Out.bad : Out α).bind f = .bad := rfl
theorem ofO_some {a : α} {e : Ev} : Out.ofO (some a) e = .ok a e := rfl
theorem goE_some {a : α} {e : Ev} : Out.goE a (some e) = .ok a e := rfl
theorem pure_ev {a : α} {e : Ev} : M.pure a e = .ok a e := rfl
theorem noEx_ok {a : α} {e : Ev} : noEx (.ok a e) = .ok a e := rfl
@[simp] theorem slot_0 {d : Option DV} {e : Ev} : slot (d :: e) 0 = d := by simp [slot]
@[simp] theorem slot_s {d : Option DV} {e : Ev} {i : Nat} : slot (d :: e) (i + 1) = slot e i := by simp [slot]
theorem slot_1 {d d1 : Option DV} {e : Ev} : slot (d :: d1 :: e) 1 = d1 := by simp [slot]
@[simp] theorem now_sl {i : Nat} {d : DV} {e : Ev} : (Tm.sl i).now d e = slot e i := rfl
@[simp] theorem now_v {k : Nat} {d : DV} {e : Ev} : (Tm.v k).now d e = some d := rfl
theorem slotM_ev {i : Nat} {e : Ev} : slotM i e = match slot e i with
  | some d => .ok d e
  | none => .bad := rfl
theorem seqM_ev {g1 g2 : M Fl} {e : Ev} : seqM g1 g2 e = (g1 e).bind fun fl e' => match fl with
  | .nx => g2 e'
  | .br => .ok .br e'
  | .ct => .ok .ct e'
  | .rt d => .ok (.rt d) e' := rfl
theorem nxM_ev {e : Ev} : nxM e = .ok .nx e := rfl
theorem ifS_ev {ft : M Bool} {g1 g2 : M Fl} {e : Ev} : ifS ft g1 g2 e = (ft e).bind fun b e' => match b with
  | true => g1 e'
  | false => g2 e' := rfl
theorem ifM_ev {ft : M Bool} {g1 g2 : M DV} {e : Ev} : ifM ft g1 g2 e = (ft e).bind fun b e' => match b with
  | true => g1 e'
  | false => g2 e' := rfl
theorem asB_ev {t : Tm} {f : M DV} {e : Ev} : asB t f e = (f e).bind fun d e => match t.now d e with
  | some (.d (.bool b)) => .ok b e
  | _ => .bad := rfl
theorem op2_ev {g : DV → DV → Option DV} {ta tb : Tm} {fa fb : M DV} {e : Ev} : op2 g ta tb fa fb e = (fa e).bind fun d e1 => (fb e1).bind fun d' e2 => match ta.now d e2, tb.now d' e2 with
  | some x, some y => (match g x y with
    | some r => .ok r e2
    | none => .bad)
  | _, _ => .bad := rfl
theorem setM_ev {i : Nat} {fa : M DV} {e : Ev} : setM i fa e = (fa e).bind fun d e => if i < e.length then .ok .nx (e.set i (some d)) else .bad := rfl
theorem consM_ev {fa : M DV} {f : M (List DV)} {e : Ev} : consM fa f e = (fa e).bind fun d e => (f e).bind fun ds e2 => .ok (d :: ds) e2 := rfl
theorem callM_ev {g : List DV → Option DV} {ts : List Tm} {f : M (List DV)} {e : Ev} : callM g ts f e = (f e).bind fun ds e => match nowsD ts ds e with
  | some xs => (match g xs with
    | some r => .ok r e
    | none => .bad)
  | none => .bad := rfl
theorem callF_ev {F : List DV → Res} {ms : List Md} {ts : List Tm} {f : M (List DV)} {e : Ev} : callF F ms ts f e = (f e).bind fun ds e => match nowsD ts ds e with
  | some xs => (match F xs with
    | .ok d outs => (match putM ms ts outs (clrM ts e) with
      | some e' => .ok d e'
      | none => .bad)
    | .ex c g => .ex c g (clrM ts e)
    | .bad => .bad)
  | none => .bad := rfl
@[simp] theorem nowsD_nil {e : Ev} : nowsD [] [] e = some [] := rfl
@[simp] theorem nowsD_cons {t : Tm} {ts : List Tm} {d : DV} {ds : List DV} {e : Ev} : nowsD (t :: ts) (d :: ds) e = match t.now d e, nowsD ts ds e with
  | some x, some xs => some (x :: xs)
  | _, _ => none := rfl
theorem stM_ev {j : Nat} {fv : M DV} {ti : Tm} {fi : M DV} {e : Ev} : stM j fv ti fi e = (fv e).bind fun d e1 => (slotM j e1).bind fun _ e1 => (fi e1).bind fun i e2 => .goE .nx (stO j d (ti.now i e2) e2) := rfl
theorem apM_ev {j : Nat} {fa : M DV} {e : Ev} : apM j fa e = (lstM j e).bind fun _ e => (fa e).bind fun d e => .goE (.d .none) (apO j d e) := rfl
theorem lstM_ev {j : Nat} {e : Ev} : lstM j e = match slot e j with
  | some (.d (.list _)) => .ok () e
  | _ => .bad := rfl
theorem retM_ev {P : List (Nat × Nat)} {fa : M DV} {e : Ev} : retM P fa e = (fa e).bind fun d e => match outsAt P e with
  | some _ => .ok (.rt d) e
  | none => .bad := rfl
@[simp] theorem outsAt_nil {e : Ev} : outsAt [] e = some [] := rfl
@[simp] theorem outsAt_cons {i m : Nat} {P : List (Nat × Nat)} {e : Ev} : outsAt ((i, m) :: P) e = match slot e i, outsAt P e with
  | some d, some ds => some (d :: ds)
  | _, _ => none := rfl
theorem dropM_ev {fa : M DV} {e : Ev} : dropM fa e = (fa e).bind fun _ e => .ok .nx e := rfl
theorem asgM_ev {T : Tgt} {fa : M DV} {e : Ev} : asgM T fa e = (fa e).bind fun d e => (tgM T d e).bind fun _ e' => .ok .nx e' := rfl
theorem tgM_nm {i : Nat} {d : DV} {e : Ev} : tgM (.nm i) d e = if i < e.length then .ok () (e.set i (some d)) else .bad := rfl
theorem tgM_tp {is : List Nat} {ds : List PyData} {e : Ev} : tgM (.tp is) (.d (.tuple ds)) e = if ds.length = is.length ∧ is.all (fun i => decide (i < e.length)) = true then .ok () (setAll is (ds.map .d) e) else .bad := rfl
theorem tgM_tl {is : List Nat} {ds : List PyData} {e : Ev} : tgM (.tp is) (.d (.list ds)) e = if ds.length = is.length ∧ is.all (fun i => decide (i < e.length)) = true then .ok () (setAll is (ds.map .d) e) else .bad := rfl
@[simp] theorem setAll_nil {α : Type} {vs : List α} {σ : List (Option α)} : setAll [] vs σ = σ := by unfold setAll; rfl
@[simp] theorem setAll_cons {α : Type} {i : Nat} {is : List Nat} {v : α} {vs : List α} {σ : List (Option α)} : setAll (i :: is) (v :: vs) σ = setAll is vs (σ.set i (some v)) := rfl
theorem forS_ev {T : Tgt} {fi : M (List DV)} {g : M Fl} {e : Ev} : forS T fi g e = (fi e).bind fun items e1 => forM T g items e1 := rfl
theorem seqI_ev {fa : M DV} {e : Ev} : seqI fa e = (fa e).bind fun d e => .ofO (itemsOf d) e := rfl
theorem andM_ev {f g : M Bool} {e : Ev} : andM f g e = (f e).bind fun b e => match b with
  | true => g e
  | false => .ok false e := rfl
theorem orM_ev {f g : M Bool} {e : Ev} : orM f g e = (f e).bind fun b e => match b with
  | true => .ok true e
  | false => g e := rfl
theorem notM_ev {f : M Bool} {e : Ev} : notM f e = (f e).bind fun b e => .ok (!b) e := rfl
theorem andV_ev {t : Tm} {f g : M DV} {e : Ev} : andV t f g e = (asB t f e).bind fun b e => match b with
  | true => g e
  | false => .ok (.d (.bool false)) e := rfl
theorem orV_ev {t : Tm} {f g : M DV} {e : Ev} : orV t f g e = (asB t f e).bind fun b e => match b with
  | true => .ok (.d (.bool true)) e
  | false => g e := rfl
theorem notV_ev {t : Tm} {f : M DV} {e : Ev} : notV t f e = ((asB t f e).bind fun b e => .ok (!b) e).bind fun b e => .ok (.d (.bool b)) e := rfl
theorem truM_ev {t : Tm} {f : M DV} {e : Ev} : truM t f e = (f e).bind fun d e => match t.now d e with
  | some x => (match truD x with
    | some b => .ok b e
    | none => .bad)
  | none => .bad := rfl
theorem dispM_ev {mk : List PyData → PyData} {f : M (List DV)} {e : Ev} : dispM mk f e = (f e).bind fun ds e => match getDs ds with
  | some xs => if xs.length ≤ big then .ok (.d (mk xs)) e else .bad
  | none => .bad := rfl
@[simp] theorem getDs_nil : getDs [] = some [] := rfl
@[simp] theorem getDs_cons {x : PyData} {r : List DV} : getDs (.d x :: r) = match getDs r with
  | some xs => some (x :: xs)
  | none => none := rfl
theorem isiM_ev {T : String} {t : Tm} {f : M DV} {e : Ev} : isiM T t f e = (f e).bind fun d e => .ofO ((t.now d e).bind fun x => (tyName x).map fun n => .d (.bool (isTy n T))) e := rfl
theorem compM_ev {T : Tgt} {vs : List Nat} {fi : M (List DV)} {ft : M Bool} {fe : M DV} {e : Ev} : compM T vs fi ft fe e = (fi e).bind fun items e1 => (compGo T vs ft fe items [] (wipeE vs e1)).bind fun xs e2 => .ok (.d (.list xs)) (restE vs e1 e2) := rfl
theorem parM_ev {i j : Nat} {f : M (List DV)} {e : Ev} : parM i j f e = (f e).bind fun ds e => match ds with
  | [a, b] => if i < e.length ∧ j < e.length then .ok .nx ((e.set i (some a)).set j (some b)) else .bad
  | _ => .bad := rfl
theorem rg1M_ev {t : Tm} {f : M DV} {e : Ev} : rg1M t f e = (f e).bind fun d e => .ofO (rgD (some (.d (.int 0))) (t.now d e)) e := rfl
theorem rg2M_ev {ta tb : Tm} {fa fb : M DV} {e : Ev} : rg2M ta tb fa fb e = (fa e).bind fun d e1 => (fb e1).bind fun d' e => .ofO (rgD (ta.now d e) (tb.now d' e)) e := rfl
theorem rg1I_ev {t : Tm} {f : M DV} {e : Ev} : rg1I t f e = (f e).bind fun d e => .ofO (rgI (some (.d (.int 0))) (t.now d e)) e := rfl
theorem rg2I_ev {ta tb : Tm} {fa fb : M DV} {e : Ev} : rg2I ta tb fa fb e = (fa e).bind fun d e1 => (fb e1).bind fun d' e => .ofO (rgI (ta.now d e) (tb.now d' e)) e := rfl
theorem slM_ev {ta : Tm} {fa : M DV} {fl fh : M (Option Int)} {e : Ev} : slM ta fa fl fh e = (fa e).bind fun d e1 => (fl e1).bind fun lo e2 => (fh e2).bind fun hi e => .ofO ((ta.now d e).bind fun x => slD x lo hi) e := rfl
theorem someI_ev {t : Tm} {f : M DV} {e : Ev} : someI t f e = (f e).bind fun d e => .ofO (intD (t.now d e)) e := rfl
theorem mthM_ev {T : String} {g : DV → List DV → Option DV} {to : Tm} {fo : M DV} {ts : List Tm} {f : M (List DV)} {e : Ev} : mthM T g to fo ts f e = (fo e).bind fun d e1 => (tyChk T to d e1).bind fun _ e1 => (f e1).bind fun ds e2 => .ofO ((to.now d e2).bind fun x => (nowsD ts ds e2).bind fun xs => g x xs) e2 := rfl
theorem tyChk_ev {T : String} {t : Tm} {d : DV} {e : Ev} : tyChk T t d e = match t.now d e with
  | some x => if tyD x = T then .ok () e else .bad
  | none => .bad := rfl
theorem zipI_ev {fa fb : M DV} {e : Ev} : zipI fa fb e = (fa e).bind fun d e1 => (fb e1).bind fun d' e => .ofO (zipD (some d) (some d')) e := rfl
theorem chM_ev {g g' : DV → DV → Option DV} {ta tb tc : Tm} {fa fb fc : M DV} {env : Ev} : chM g g' ta tb tc fa fb fc env = (fa env).bind fun d e1 => (fb e1).bind fun d' e2 =>
  match ta.now d e2, tb.now d' e2 with
  | some x, some y => (match g x y with
    | some (.d (.bool true)) => (fc e2).bind fun d'' e3 => (match tb.now d' e3, tc.now d'' e3 with
      | some y, some z => (match g' y z with
        | some (.d (.bool r)) => .ok (.d (.bool r)) e3
        | _ => .bad)
      | _, _ => .bad)
    | some (.d (.bool false)) => .ok (.d (.bool false)) e2
    | _ => .bad)
  | _, _ => .bad := rfl
/-! restoring the slots of a comprehension, wiping -/
@[simp] theorem wipeE_nil {e : Ev} : wipeE [] e = e := rfl
@[simp] theorem wipeE_cons {v : Nat} {vs : List Nat} {e : Ev} : wipeE (v :: vs) e = (wipeE vs e).set v none := rfl
@[simp] theorem restE_nil {e e2 : Ev} : restE [] e e2 = e2 := rfl
@[simp] theorem restE_cons {v : Nat} {vs : List Nat} {e e2 : Ev} : restE (v :: vs) e e2 = restE vs e (e2.set v (slot (wipeE vs e) v)) := rfl
/-! operations -/
@[simp] theorem lift2_d {g : PyData → PyData → Option PyData} {x y : PyData} : lift2 g (.d x) (.d y) = (g x y).map .d := rfl
@[simp] theorem oneD_d {g : PyData → Option PyData} {x : PyData} : oneD g [.d x] = (g x).map .d := rfl
@[simp] theorem twoD_d {g : PyData → PyData → Option PyData} {x y : PyData} : twoD g [.d x, .d y] = (g x y).map .d := rfl
@[simp] theorem cmpP_ii {op : CmpOp} {i j : Int} : cmpP op (.int i) (.int j) = some (.bool (opI op i j)) := by
  unfold cmpP
  rw [if_pos (by simp [SeqAt.shaped, PyData.canLay0, PyData.depth])]
  rfl
@[simp] theorem opI_lt {i j : Int} : opI .Lt i j = decide (i < j) := rfl
@[simp] theorem opI_le {i j : Int} : opI .LtE i j = decide (i ≤ j) := rfl
@[simp] theorem opI_gt {i j : Int} : opI .Gt i j = decide (j < i) := rfl
@[simp] theorem opI_ge {i j : Int} : opI .GtE i j = decide (j ≤ i) := rfl
@[simp] theorem eqP_ii {i j : Int} : eqP (.int i) (.int j) = some (.bool (decide (i = j))) := by
  unfold eqP
  rw [if_pos (by simp [SeqAt.shaped, PyData.canLay0, PyData.depth])]
  simp [PyData.eqv]
  rfl
@[simp] theorem addP_ii {i j : Int} : addP (.int i) (.int j) = some (.int (i + j)) := rfl
@[simp] theorem subP_ii {i j : Int} : subP (.int i) (.int j) = some (.int (i - j)) := rfl
@[simp] theorem modP_ii {i j : Int} : modP (.int i) (.int j) = if 0 < j then some (.int (i % j)) else none := rfl
@[simp] theorem divP_ii {i j : Int} : divP (.int i) (.int j) = if 0 < j ∧ j < 1073741824 then some (.int (i / j)) else none := rfl
@[simp] theorem mulP_ii {i j : Int} : mulP (.int i) (.int j) = if (-(2 ^ 64) < i ∧ i < 2 ^ 64) ∨ (-(2 ^ 64) < j ∧ j < 2 ^ 64) then some (.int (i * j)) else none := rfl
@[simp] theorem intP_i {i : Int} : intP (.int i) = some (.int i) := rfl
@[simp] theorem ixD_l {xs : List PyData} {i : Int} : ixD (.d (.list xs)) (.d (.int i)) = (atI xs i).map .d := rfl
@[simp] theorem ixD_t {xs : List PyData} {i : Int} : ixD (.d (.tuple xs)) (.d (.int i)) = (atI xs i).map .d := rfl
@[simp] theorem ixD_sc {ns : List Int} {i : Int} : ixD (.s ns) (.d (.int i)) = (atI ns i).map fun n => .d (.int n) := rfl
@[simp] theorem dataOf_d {x : PyData} : dataOf (.d x) = some x := rfl
@[simp] theorem intO_i {i : Int} : intO (some (.d (.int i))) = some i := rfl
theorem atI_0 {α : Type} {x : α} {xs : List α} : atI (x :: xs) 0 = some x := by simp [atI, ixN]
theorem atI_1 {α : Type} {x y : α} {xs : List α} : atI (x :: y :: xs) 1 = some y := by
  unfold atI ixN
  rw [if_pos (by omega), if_pos (by simp only [List.length_cons]; omega)]
  rfl
theorem atI_2 {α : Type} {x y z : α} {xs : List α} : atI (x :: y :: z :: xs) 2 = some z := by
  unfold atI ixN
  rw [if_pos (by omega), if_pos (by simp only [List.length_cons]; omega)]
  rfl
end
@[simp] theorem big_1 : 1 ≤ big := by decide
@[simp] theorem big_2 : 2 ≤ big := by decide
@[simp] theorem big_3 : 3 ≤ big := by decide
@[simp] theorem big_4 : 4 ≤ big := by decide
@[simp] theorem big_5 : 5 ≤ big := by decide
@[simp] theorem big_6 : 6 ≤ big := by decide
@[simp] theorem big_7 : 7 ≤ big := by decide
@[simp] theorem big_8 : 8 ≤ big := by decide
@[simp] theorem big_9 : 9 ≤ big := by decide
@[simp] theorem big_10 : 10 ≤ big := by decide
@[simp] theorem big_11 : 11 ≤ big := by decide
end Lk
namespace Lk
open PySem PySem.Spec L2
/-- can be compared, n deep at most -/
def Shp (n : Nat) (x : PyData) : Prop := x.canLay0 = true ∧ x.depth ≤ n
theorem Shp.mono {m n : Nat} {x : PyData} (h : Shp m x) (hn : m ≤ n) : Shp n x := ⟨h.1, Nat.le_trans h.2 hn⟩
theorem Shp.ok {n : Nat} {x : PyData} (h : Shp n x) (hn : n ≤ 64 := by decide) : SeqAt.shaped x = true := by
  unfold SeqAt.shaped
  rw [h.1, Bool.true_and]
  exact decide_eq_true (Nat.le_trans h.2 hn)
theorem shp_int {i : Int} : Shp 0 (.int i) := ⟨by simp [PyData.canLay0], by simp [PyData.depth]⟩
theorem shp_bool {i : Bool} : Shp 0 (.bool i) := ⟨by simp [PyData.canLay0], by simp [PyData.depth]⟩
theorem shp_none : Shp 0 .none := ⟨by simp [PyData.canLay0], by simp [PyData.depth]⟩
theorem shpAll {n : Nat} : ∀ {xs : List PyData}, (∀ x ∈ xs, Shp n x) → PyData.canLayAll0 xs = true ∧ PyData.depthAll xs ≤ n
  | [], _ => ⟨by simp [PyData.canLayAll0], by simp [PyData.depthAll]⟩
  | x :: xs, h => by
    obtain ⟨q1, q2⟩ := shpAll fun y hy => h y (List.mem_cons_of_mem _ hy)
    obtain ⟨p1, p2⟩ := h x List.mem_cons_self
    refine ⟨by simp [PyData.canLayAll0, p1, q1], ?_⟩
    simp only [PyData.depthAll]
    omega
theorem shp_list {n : Nat} {xs : List PyData} (h : ∀ x ∈ xs, Shp n x) : Shp (n + 1) (.list xs) := by
  obtain ⟨q1, q2⟩ := shpAll h
  exact ⟨by simpa [PyData.canLay0] using q1, by simp only [PyData.depth]; omega⟩
theorem shp_tuple {n : Nat} {xs : List PyData} (h : ∀ x ∈ xs, Shp n x) : Shp (n + 1) (.tuple xs) := by
  obtain ⟨q1, q2⟩ := shpAll h
  exact ⟨by simpa [PyData.canLay0] using q1, by simp only [PyData.depth]; omega⟩
theorem shp_ints {is : List Int} : Shp 1 (.list (is.map .int)) := shp_list fun x hx => by
  obtain ⟨i, _, rfl⟩ := List.mem_map.mp hx
  exact shp_int
theorem shp_pair {p : Int × Int} : Shp 1 (pairD p) := shp_tuple fun x hx => by
  simp only [List.mem_cons, List.not_mem_nil, or_false] at hx
  rcases hx with rfl | rfl <;> exact shp_int
theorem shp_pairs {ps : List (Int × Int)} : Shp 2 (.list (ps.map pairD)) := shp_list fun x hx => by
  obtain ⟨i, _, rfl⟩ := List.mem_map.mp hx
  exact shp_pair
theorem shp_pairsT {ps : List (Int × Int)} : Shp 2 (.tuple (ps.map pairD)) := shp_tuple fun x hx => by
  obtain ⟨i, _, rfl⟩ := List.mem_map.mp hx
  exact shp_pair
theorem shp_nil : Shp 0 (.list []) → False := fun h => by
  have := h.2
  simp [PyData.depth] at this
theorem eqP_s {m n : Nat} {x y : PyData} (hx : Shp m x) (hy : Shp n y) (h1 : m ≤ 64 := by decide) (h2 : n ≤ 64 := by decide) : eqP x y = some (.bool (PyData.eqv x y)) := by
  unfold eqP
  rw [hx.ok h1, hy.ok h2, Bool.and_self, Bool.or_true, if_pos rfl]
theorem neP_s {m n : Nat} {x y : PyData} (hx : Shp m x) (hy : Shp n y) (h1 : m ≤ 64 := by decide) (h2 : n ≤ 64 := by decide) : neP x y = some (.bool (!PyData.eqv x y)) := by
  unfold neP
  rw [hx.ok h1, hy.ok h2, Bool.and_self, Bool.or_true, if_pos rfl]
theorem neP_str {x y : Str} : neP (.str x) (.str y) = some (.bool (!PyData.eqv (.str x) (.str y))) := by
  unfold neP bothS
  simp
theorem eqP_str {x y : Str} : eqP (.str x) (.str y) = some (.bool (PyData.eqv (.str x) (.str y))) := by
  unfold eqP bothS
  simp
theorem inP_l {m n : Nat} {x : PyData} {ys : List PyData} (hx : Shp m x) (hy : Shp n (.list ys)) (h1 : m ≤ 64 := by decide) (h2 : n ≤ 64 := by decide) : inP x (.list ys) = some (.bool (ys.any fun z => PyData.eqv z x)) := by
  unfold inP
  simp only
  rw [hx.ok h1, hy.ok h2]; rfl
theorem inP_t {m n : Nat} {x : PyData} {ys : List PyData} (hx : Shp m x) (hy : Shp n (.tuple ys)) (h1 : m ≤ 64 := by decide) (h2 : n ≤ 64 := by decide) : inP x (.tuple ys) = some (.bool (ys.any fun z => PyData.eqv z x)) := by
  unfold inP
  simp only
  rw [hx.ok h1, hy.ok h2]; rfl
theorem eqv_int {i j : Int} : PyData.eqv (.int i) (.int j) = decide (i = j) := by
  simp only [PyData.eqv]
  by_cases h : i = j
  · simp [h]
  · simp [h]
theorem eqv_pair {p q : Int × Int} : PyData.eqv (pairD p) (pairD q) = decide (p = q) := by
  obtain ⟨a, b⟩ := p
  obtain ⟨c, d⟩ := q
  simp only [pairD, PyData.eqv, PyData.eqvAll, Bool.and_true]
  by_cases h1 : a = c <;> by_cases h2 : b = d <;> simp [h1, h2]
theorem eqv_nil {xs : List PyData} : PyData.eqv (.list xs) (.list []) = xs.isEmpty := by
  cases xs <;> simp [PyData.eqv, PyData.eqvAll]
mutual
theorem eqv_refl : ∀ x : PyData, x.canLay0 = true → PyData.eqv x x = true
  | .none, _ => rfl
  | .bool b, _ => by simp [PyData.eqv]
  | .int b, _ => by simp [PyData.eqv]
  | .str b, _ => by simp [PyData.eqv]
  | .list xs, h => by
    simp only [PyData.eqv]
    exact eqvAll_refl xs (by simpa [PyData.canLay0] using h)
  | .tuple xs, h => by
    simp only [PyData.eqv]
    exact eqvAll_refl xs (by simpa [PyData.canLay0] using h)
  | .dict _, h => absurd h (by simp [PyData.canLay0])
theorem eqvAll_refl : ∀ xs : List PyData, PyData.canLayAll0 xs = true → PyData.eqvAll xs xs = true
  | [], _ => by simp [PyData.eqvAll]
  | x :: xs, h => by
    simp only [PyData.canLayAll0, Bool.and_eq_true] at h
    simp only [PyData.eqvAll, Bool.and_eq_true]
    exact ⟨eqv_refl x h.1, eqvAll_refl xs h.2⟩
end
/-! no truth values inside: equality is equality -/
mutual
def noB : PyData → Bool
  | .bool _ => false
  | .dict _ => false
  | .list xs => noBs xs
  | .tuple xs => noBs xs
  | _ => true
def noBs : List PyData → Bool
  | [] => true
  | x :: xs => noB x && noBs xs
end
mutual
theorem eqv_eq : ∀ x y : PyData, noB x = true → noB y = true → PyData.eqv x y = true → x = y
  | .none, y, _, hy, h => by cases y <;> simp [PyData.eqv] at h ⊢
  | .bool b, _, hx, _, _ => absurd hx (by simp [noB])
  | .dict b, _, hx, _, _ => absurd hx (by simp [noB])
  | .int i, y, _, hy, h => by cases y <;> simp [PyData.eqv, noB] at h hy ⊢; exact h
  | .str i, y, _, hy, h => by cases y <;> simp [PyData.eqv, noB] at h hy ⊢; exact h
  | .list xs, y, hx, hy, h => by
    cases y <;> simp only [PyData.eqv, Bool.false_eq_true] at h
    rw [eqvAll_eq xs _ (by simpa [noB] using hx) (by simpa [noB] using hy) h]
  | .tuple xs, y, hx, hy, h => by
    cases y <;> simp only [PyData.eqv, Bool.false_eq_true] at h
    rw [eqvAll_eq xs _ (by simpa [noB] using hx) (by simpa [noB] using hy) h]
theorem eqvAll_eq : ∀ xs ys : List PyData, noBs xs = true → noBs ys = true → PyData.eqvAll xs ys = true → xs = ys
  | [], ys, _, _, h => by cases ys <;> simp [PyData.eqvAll] at h ⊢
  | x :: xs, [], _, _, h => by simp [PyData.eqvAll] at h
  | x :: xs, y :: ys, hx, hy, h => by
    simp only [noBs, Bool.and_eq_true] at hx hy
    simp only [PyData.eqvAll, Bool.and_eq_true] at h
    rw [eqv_eq x y hx.1 hy.1 h.1, eqvAll_eq xs ys hx.2 hy.2 h.2]
end
end Lk
namespace Lk
open PySem PySem.Spec L2
section
variable {α β : Type}
abbrev XQ := Nat → PyData → Ev → Prop
abbrev XK {α : Type} (_ : α → Ev → Prop) := Nat → PyData → Ev → Prop
abbrev RK (_ : DV → List DV → Prop) := Nat → PyData → Prop
def Out.sat (o : Out α) (Q : α → Ev → Prop) (X : XK Q) : Prop := match o with
  | .ok a e => Q a e
  | .ex c g e => X c g e
  | .bad => False
def Res.sat (r : Res) (Q : DV → List DV → Prop) (X : RK Q) : Prop := match r with
  | .ok d outs => Q d outs
  | .ex c g => X c g
  | .bad => False
abbrev nX : XQ := fun _ _ _ => False
abbrev nR : Nat → PyData → Prop := fun _ _ => False
abbrev OptK {α : Type} (_ : α → Prop) := Option α
abbrev BoolK (_ _ : Prop) := Bool
def osat (Q : α → Prop) (o : OptK Q) : Prop := match o with
  | some a => Q a
  | none => False
@[simp] theorem osat_some {a : α} {Q : α → Prop} : osat Q (some a) = Q a := rfl
@[simp] theorem osat_none {Q : α → Prop} : osat Q none = False := rfl
@[simp] theorem osat_map {o : Option α} {f : α → β} {Q : β → Prop} : osat Q (o.map f) = osat (fun a => Q (f a)) o := by cases o <;> rfl
@[simp] theorem osat_bind {o : Option α} {f : α → Option β} {Q : β → Prop} : osat Q (o.bind f) = osat (fun a => osat Q (f a)) o := by cases o <;> rfl
@[simp] theorem osat_if {c : Prop} [Decidable c] {o p : Option α} {Q : α → Prop} : osat Q (if c then o else p) = ((c → osat Q o) ∧ (¬ c → osat Q p)) := by
  by_cases h : c <;> simp [h]
@[simp high] theorem osat_ifn {c : Prop} [Decidable c] {o : Option α} {Q : α → Prop} : osat Q (if c then o else none) = (c ∧ osat Q o) := by
  by_cases h : c <;> simp [h]
theorem osat_iff {o : Option α} {Q : α → Prop} : osat Q o ↔ ∃ a, o = some a ∧ Q a := by cases o <;> simp
theorem osat_of {o : Option α} {a : α} {Q : α → Prop} (h : o = some a) (q : Q a) : osat Q o := by rw [h]; exact q
def bsat (A B : Prop) (b : BoolK A B) : Prop := match b with
  | true => A
  | false => B
@[simp] theorem bsat_true {A B : Prop} : bsat A B true = A := rfl
@[simp] theorem bsat_false {A B : Prop} : bsat A B false = B := rfl
@[simp] theorem bsat_not {b : Bool} {A B : Prop} : bsat A B (!b) = bsat B A b := by cases b <;> rfl
theorem bsat_iff {b : Bool} {A B : Prop} : bsat A B b ↔ (b = true → A) ∧ (b = false → B) := by cases b <;> simp
@[simp] theorem bsat_dec {c : Prop} [Decidable c] {A B : Prop} : bsat A B (decide c) = ((c → A) ∧ (¬ c → B)) := by
  by_cases h : c <;> simp [h]
@[simp] theorem sat_ok {a : α} {e : Ev} {Q : α → Ev → Prop} {X : XQ} : (Out.ok a e).sat Q X = Q a e := rfl
@[simp] theorem sat_ex {c : Nat} {g : PyData} {e : Ev} {Q : α → Ev → Prop} {X : XQ} : (Out.ex c g e).sat Q X = X c g e := rfl
@[simp] theorem sat_bad {Q : α → Ev → Prop} {X : XQ} : (Out.bad : Out α).sat Q X = False := rfl
@[simp] theorem rsat_ok {a : DV} {e : List DV} {Q : DV → List DV → Prop} {X : Nat → PyData → Prop} : (Res.ok a e).sat Q X = Q a e := rfl
@[simp] theorem rsat_ex {c : Nat} {g : PyData} {Q : DV → List DV → Prop} {X : Nat → PyData → Prop} : (Res.ex c g).sat Q X = X c g := rfl
@[simp] theorem sat_bind {o : Out α} {f : α → M β} {Q : β → Ev → Prop} {X : XQ} : (o.bind f).sat Q X = o.sat (fun a e => (f a e).sat Q X) X := by
  cases o <;> rfl
@[simp] theorem sat_noEx {o : Out α} {Q : α → Ev → Prop} {X : XQ} : (noEx o).sat Q X = o.sat Q nX := by
  cases o <;> rfl
@[simp] theorem sat_ofO {o : Option α} {e : Ev} {Q : α → Ev → Prop} {X : XQ} : (Out.ofO o e).sat Q X = osat (fun a => Q a e) o := by
  cases o <;> rfl
@[simp] theorem sat_goE {a : α} {o : Option Ev} {Q : α → Ev → Prop} {X : XQ} : (Out.goE a o).sat Q X = osat (fun e => Q a e) o := by
  cases o <;> rfl
theorem Out.sat.mono {o : Out α} {Q Q' : α → Ev → Prop} {X X' : XQ} (h : o.sat Q X) (i : ∀ a e, Q a e → Q' a e) (j : ∀ c g e, X c g e → X' c g e := by exact fun _ _ _ h => h) : o.sat Q' X' := by
  cases o with
  | ok a e => exact i a e h
  | ex _ _ _ => exact j _ _ _ h
  | bad => exact h.elim
theorem Res.sat.mono {o : Res} {Q Q' : DV → List DV → Prop} {X X' : Nat → PyData → Prop} (h : o.sat Q X) (i : ∀ a e, Q a e → Q' a e) (j : ∀ c g, X c g → X' c g := by first | exact fun _ _ h => h | exact fun _ _ h => h.elim) : o.sat Q' X' := by
  cases o with
  | ok a e => exact i a e h
  | ex _ _ => exact j _ _ h
  | bad => exact h.elim
def retD : Fl → Option DV
  | .nx => some (.d .none)
  | .rt d => some d
  | _ => none
@[simp] theorem retD_nx : retD .nx = some (.d .none) := rfl
@[simp] theorem retD_rt {d : DV} : retD (.rt d) = some d := rfl
theorem runF_sat {n : Nat} {P : List (Nat × Nat)} {g : M Fl} {ds : List DV} {Q : DV → List DV → Prop} {X : Nat → PyData → Prop} : (runF n P g ds).sat Q X = (g (env0 n ds)).sat (fun fl e => osat (fun d => osat (fun outs => Q d outs) (outsAt P e)) (retD fl)) (fun c g _ => X c g) := by
  unfold runF
  cases g (env0 n ds) with
  | ok fl e =>
    cases fl with
    | nx => cases h : outsAt P e <;> simp [endR, h, Res.sat, retD]
    | rt d => cases h : outsAt P e <;> simp [endR, h, Res.sat, retD]
    | br => simp [endR, Res.sat, retD]
    | ct => simp [endR, Res.sat, retD]
  | ex _ _ _ => rfl
  | bad => rfl
theorem res_eq {r : Res} {d : DV} {outs : List DV} (h : r.sat (fun d' o' => d' = d ∧ o' = outs) nR) : r = .ok d outs := by
  cases r with
  | ok d' o' => obtain ⟨rfl, rfl⟩ := h; rfl
  | ex _ _ => exact h.elim
  | bad => exact h.elim
theorem res_of {r : Res} {d : DV} {outs : List DV} {Q : DV → List DV → Prop} {X : Nat → PyData → Prop} (h : r = .ok d outs) (q : Q d outs) : r.sat Q X := by
  rw [h]; exact q
theorem res_exq {r : Res} {c : Nat} {g : PyData} (h : r.sat (fun _ _ => False) (fun c' g' => c' = c ∧ g' = g)) : r = .ex c g := by
  cases r with
  | ok d' o' => exact h.elim
  | ex _ _ => obtain ⟨rfl, rfl⟩ := h; rfl
  | bad => exact h.elim
/-! the combinators -/
variable {e : Ev} {Q : α → Ev → Prop} {QD : DV → Ev → Prop} {QB : Bool → Ev → Prop} {QF : Fl → Ev → Prop} {QL : List DV → Ev → Prop} {X : XQ} {t ta tb tc : Tm} {i j k l m : Nat} {fa fb fc : M DV} {f f2 : M (List DV)} {ft ft2 : M Bool} {g1 g2 : M Fl} {ts : List Tm}
abbrev FlK (_ _ _ : Prop) (_ : DV → Prop) := Fl
def fsat (A B C : Prop) (D : DV → Prop) (fl : FlK A B C D) : Prop := match fl with
  | .nx => A
  | .br => B
  | .ct => C
  | .rt d => D d
@[simp] theorem fsat_nx {A B C : Prop} {D : DV → Prop} : fsat A B C D .nx = A := rfl
@[simp] theorem fsat_br {A B C : Prop} {D : DV → Prop} : fsat A B C D .br = B := rfl
@[simp] theorem fsat_ct {A B C : Prop} {D : DV → Prop} : fsat A B C D .ct = C := rfl
@[simp] theorem fsat_rt {A B C : Prop} {D : DV → Prop} {d : DV} : fsat A B C D (.rt d) = D d := rfl
@[simp] theorem sat_pure {a : α} : (M.pure a e).sat Q X = Q a e := rfl
@[simp] theorem sat_slotM : (slotM i e).sat QD X = osat (fun d => QD d e) (slot e i) := by
  unfold slotM
  cases slot e i <;> rfl
@[simp] theorem sat_seqM : (seqM g1 g2 e).sat QF X = (g1 e).sat (fun fl e' => fsat ((g2 e').sat QF X) (QF .br e') (QF .ct e') (fun d => QF (.rt d) e') fl) X := by
  show ((g1 e).bind _).sat QF X = _
  rw [sat_bind]
  cases g1 e with
  | ok fl e' => cases fl <;> rfl
  | ex _ _ _ => rfl
  | bad => rfl
@[simp] theorem sat_nxM : (nxM e).sat QF X = QF .nx e := rfl
theorem sat_bool {o : Out Bool} {p q : M α} : (o.bind fun b e' => match b with
    | true => p e'
    | false => q e').sat Q X = o.sat (fun b e' => bsat ((p e').sat Q X) ((q e').sat Q X) b) X := by
  rw [sat_bind]
  cases o with
  | ok b e' => cases b <;> rfl
  | ex _ _ _ => rfl
  | bad => rfl
@[simp] theorem sat_ifS : (ifS ft g1 g2 e).sat QF X = (ft e).sat (fun b e' => bsat ((g1 e').sat QF X) ((g2 e').sat QF X) b) X := sat_bool
@[simp] theorem sat_ifM : (ifM ft fa fb e).sat QD X = (ft e).sat (fun b e' => bsat ((fa e').sat QD X) ((fb e').sat QD X) b) X := sat_bool
@[simp] theorem sat_andM : (andM ft ft2 e).sat QB X = (ft e).sat (fun b e' => bsat ((ft2 e').sat QB X) (QB false e') b) X := sat_bool (q := fun e => .ok false e)
@[simp] theorem sat_orM : (orM ft ft2 e).sat QB X = (ft e).sat (fun b e' => bsat (QB true e') ((ft2 e').sat QB X) b) X := sat_bool (p := fun e => .ok true e)
@[simp] theorem sat_notM : (notM ft e).sat QB X = (ft e).sat (fun b e' => QB (!b) e') X := by
  show ((ft e).bind _).sat QB X = _
  rw [sat_bind]; rfl
def boolO : Option DV → Option Bool
  | some (.d (.bool b)) => some b
  | _ => none
@[simp] theorem boolO_b {b : Bool} : boolO (some (.d (.bool b))) = some b := rfl
@[simp] theorem sat_asB : (asB t fa e).sat QB X = (fa e).sat (fun d e' => osat (fun b => QB b e') (boolO (t.now d e'))) X := by
  show ((fa e).bind _).sat QB X = _
  rw [sat_bind]
  congr 1
  funext d e'
  generalize t.now d e' = o
  cases o with
  | none => rfl
  | some x =>
    cases x with
    | d y => cases y <;> rfl
    | _ => rfl
def op2O (g : DV → DV → Option DV) : Option DV → Option DV → Option DV
  | some x, some y => g x y
  | _, _ => none
@[simp] theorem op2O_s {g : DV → DV → Option DV} {x y : DV} : op2O g (some x) (some y) = g x y := rfl
@[simp] theorem sat_op2 {g : DV → DV → Option DV} : (op2 g ta tb fa fb e).sat QD X = (fa e).sat (fun d e1 => (fb e1).sat (fun d' e2 => osat (fun r => QD r e2) (op2O g (ta.now d e2) (tb.now d' e2))) X) X := by
  show ((fa e).bind _).sat QD X = _
  rw [sat_bind]
  congr 1
  funext d e1
  rw [sat_bind]
  congr 1
  funext d' e2
  cases h1 : ta.now d e2 with
  | none => rfl
  | some x =>
    cases h2 : tb.now d' e2 with
    | none => rfl
    | some y =>
      simp only [op2O_s]
      cases g x y <;> rfl
def op1O (g : DV → Option DV) : Option DV → Option DV
  | some x => g x
  | _ => none
@[simp] theorem op1O_s {g : DV → Option DV} {x : DV} : op1O g (some x) = g x := rfl
@[simp] theorem sat_un1 {g : DV → Option DV} : (un1 g t fa e).sat QD X = (fa e).sat (fun d e' => osat (fun r => QD r e') (op1O g (t.now d e'))) X := by
  show ((fa e).bind _).sat QD X = _
  rw [sat_bind]
  congr 1
  funext d e'
  cases h1 : t.now d e' with
  | none => rfl
  | some x => rw [sat_ofO]; rfl
@[simp] theorem sat_setM : (setM i fa e).sat QF X = (fa e).sat (fun d e' => i < e'.length ∧ QF .nx (e'.set i (some d))) X := by
  show ((fa e).bind _).sat QF X = _
  rw [sat_bind]
  congr 1
  funext d e'
  by_cases h : i < e'.length <;> simp [h]
@[simp] theorem sat_consM : (consM fa f e).sat QL X = (fa e).sat (fun d e' => (f e').sat (fun ds e2 => QL (d :: ds) e2) X) X := by
  show ((fa e).bind _).sat QL X = _
  rw [sat_bind]
  congr 1
  funext d e'
  rw [sat_bind]; rfl
@[simp] theorem sat_callM {g : List DV → Option DV} : (callM g ts f e).sat QD X = (f e).sat (fun ds e' => osat (fun xs => osat (fun r => QD r e') (g xs)) (nowsD ts ds e')) X := by
  show ((f e).bind _).sat QD X = _
  rw [sat_bind]
  congr 1
  funext ds e'
  cases h : nowsD ts ds e' with
  | none => rfl
  | some xs => simp only [osat_some]; cases g xs <;> rfl
@[simp] theorem sat_callF {F : List DV → Res} {ms : List Md} : (callF F ms ts f e).sat QD X = (f e).sat (fun ds e' => osat (fun xs => (F xs).sat (fun d outs => osat (fun e2 => QD d e2) (putM ms ts outs (clrM ts e'))) (fun c g => X c g (clrM ts e'))) (nowsD ts ds e')) X := by
  show ((f e).bind _).sat QD X = _
  rw [sat_bind]
  congr 1
  funext ds e'
  cases h : nowsD ts ds e' with
  | none => rfl
  | some xs =>
    simp only [osat_some]
    cases h2 : F xs with
    | ok d outs => simp only [rsat_ok]; cases putM ms ts outs (clrM ts e') <;> rfl
    | ex c g => rfl
    | bad => rfl
@[simp] theorem sat_stM {fv : M DV} {ti : Tm} {fi : M DV} : (stM j fv ti fi e).sat QF X = (fv e).sat (fun d e1 => osat (fun _ => (fi e1).sat (fun i e2 => osat (fun e3 => QF .nx e3) (stO j d (ti.now i e2) e2)) X) (slot e1 j)) X := by
  show ((fv e).bind _).sat QF X = _
  rw [sat_bind]
  congr 1
  funext d e1
  rw [sat_bind, sat_slotM]
  congr 1
  funext d0
  rw [sat_bind]
  congr 1
  funext i e2
  rw [sat_goE]
def lstO : Option DV → Option Unit
  | some (.d (.list _)) => some ()
  | _ => none
@[simp] theorem lstO_l {xs : List PyData} : lstO (some (.d (.list xs))) = some () := rfl
@[simp] theorem sat_apM : (apM j fa e).sat QD X = osat (fun _ => (fa e).sat (fun d e' => osat (fun e3 => QD (.d .none) e3) (apO j d e')) X) (lstO (slot e j)) := by
  show ((lstM j e).bind _).sat QD X = _
  rw [sat_bind]
  unfold lstM
  generalize slot e j = o
  have key : ((fa e).bind fun d e => Out.goE (.d .none) (apO j d e)).sat QD X = (fa e).sat (fun d e' => osat (fun e3 => QD (.d .none) e3) (apO j d e')) X := by
    rw [sat_bind]
    congr 1
    funext d e'
    rw [sat_goE]
  cases o with
  | none => rfl
  | some x =>
    cases x with
    | d y =>
      cases y with
      | list xs => exact key
      | _ => rfl
    | _ => rfl
@[simp] theorem sat_popM : (popM j e).sat QD X = osat (fun p => QD p.1 p.2) (popO j e) := by
  unfold popM
  cases h : popO j e <;> rfl
@[simp] theorem sat_retM {P : List (Nat × Nat)} : (retM P fa e).sat QF X = (fa e).sat (fun d e' => osat (fun _ => QF (.rt d) e') (outsAt P e')) X := by
  show ((fa e).bind _).sat QF X = _
  rw [sat_bind]
  congr 1
  funext d e'
  cases h : outsAt P e' <;> rfl
@[simp] theorem sat_dropM : (dropM fa e).sat QF X = (fa e).sat (fun _ e' => QF .nx e') X := by
  show ((fa e).bind _).sat QF X = _
  rw [sat_bind]; rfl
@[simp] theorem sat_asgM {T : Tgt} : (asgM T fa e).sat QF X = (fa e).sat (fun d e' => (tgM T d e').sat (fun _ e2 => QF .nx e2) X) X := by
  show ((fa e).bind _).sat QF X = _
  rw [sat_bind]
  congr 1
  funext d e'
  rw [sat_bind]; rfl
@[simp] theorem sat_tgN {d : DV} {QU : Unit → Ev → Prop} : (tgM (.nm i) d e).sat QU X = (i < e.length ∧ QU () (e.set i (some d))) := by
  rw [tgM_nm]
  by_cases h : i < e.length <;> simp [h]
@[simp] theorem sat_tgT {is : List Nat} {ds : List PyData} {QU : Unit → Ev → Prop} : (tgM (.tp is) (.d (.tuple ds)) e).sat QU X = ((ds.length = is.length ∧ is.all (fun i => decide (i < e.length)) = true) ∧ QU () (setAll is (ds.map .d) e)) := by
  rw [tgM_tp]
  by_cases h : ds.length = is.length ∧ is.all (fun i => decide (i < e.length)) = true
  · rw [if_pos h]; simp only [sat_ok]; exact propext ⟨fun q => ⟨h, q⟩, fun q => q.2⟩
  · rw [if_neg h]; simp only [sat_bad]; exact propext ⟨fun q => q.elim, fun q => h q.1⟩
@[simp] theorem sat_tgL {is : List Nat} {ds : List PyData} {QU : Unit → Ev → Prop} : (tgM (.tp is) (.d (.list ds)) e).sat QU X = ((ds.length = is.length ∧ is.all (fun i => decide (i < e.length)) = true) ∧ QU () (setAll is (ds.map .d) e)) := by
  rw [tgM_tl]
  by_cases h : ds.length = is.length ∧ is.all (fun i => decide (i < e.length)) = true
  · rw [if_pos h]; simp only [sat_ok]; exact propext ⟨fun q => ⟨h, q⟩, fun q => q.2⟩
  · rw [if_neg h]; simp only [sat_bad]; exact propext ⟨fun q => q.elim, fun q => h q.1⟩
@[simp] theorem sat_forS {T : Tgt} : (forS T f g1 e).sat QF X = (f e).sat (fun items e1 => (forM T g1 items e1).sat QF X) X := by
  show ((f e).bind _).sat QF X = _
  rw [sat_bind]
@[simp] theorem sat_seqI : (seqI fa e).sat QL X = (fa e).sat (fun d e' => osat (fun ds => QL ds e') (itemsOf d)) X := by
  show ((fa e).bind _).sat QL X = _
  rw [sat_bind]
  congr 1; funext d e'; rw [sat_ofO]
@[simp] theorem sat_andV : (andV t fa fb e).sat QD X = (asB t fa e).sat (fun b e' => bsat ((fb e').sat QD X) (QD (.d (.bool false)) e') b) X := sat_bool (q := fun e => .ok (DV.d (PyData.bool false)) e)
@[simp] theorem sat_orV : (orV t fa fb e).sat QD X = (asB t fa e).sat (fun b e' => bsat (QD (.d (.bool true)) e') ((fb e').sat QD X) b) X := sat_bool (p := fun e => .ok (DV.d (PyData.bool true)) e)
@[simp] theorem sat_notV : (notV t fa e).sat QD X = (asB t fa e).sat (fun b e' => QD (.d (.bool !b)) e') X := by
  rw [notV_ev, sat_bind, sat_bind]; rfl
def truO : Option DV → Option Bool
  | some d => truD d
  | none => none
@[simp] theorem truO_s {d : DV} : truO (some d) = truD d := rfl
@[simp] theorem truD_l {xs : List PyData} : truD (.d (.list xs)) = some (!xs.isEmpty) := rfl
@[simp] theorem truD_t {xs : List PyData} : truD (.d (.tuple xs)) = some (!xs.isEmpty) := rfl
@[simp] theorem truD_b {b : Bool} : truD (.d (.bool b)) = some b := rfl
@[simp] theorem truD_i {i : Int} : truD (.d (.int i)) = some (i != 0) := rfl
@[simp] theorem truD_n : truD (.d .none) = some false := rfl
@[simp] theorem sat_truM : (truM t fa e).sat QB X = (fa e).sat (fun d e' => osat (fun b => QB b e') (truO (t.now d e'))) X := by
  show ((fa e).bind _).sat QB X = _
  rw [sat_bind]
  congr 1; funext d e'
  cases h : t.now d e' with
  | none => rfl
  | some x => rw [truO_s]; cases h2 : truD x <;> simp [h2]
def lenO (xs : List PyData) : Option Unit := if xs.length ≤ big then some () else none
@[simp] theorem sat_dispM {mk : List PyData → PyData} : (dispM mk f e).sat QD X = (f e).sat (fun ds e' => osat (fun xs => xs.length ≤ big ∧ QD (.d (mk xs)) e') (getDs ds)) X := by
  show ((f e).bind _).sat QD X = _
  rw [sat_bind]
  congr 1; funext ds e'
  cases h : getDs ds with
  | none => rfl
  | some xs => by_cases h2 : xs.length ≤ big <;> simp [h2]
@[simp] theorem sat_isiM {T : String} : (isiM T t fa e).sat QD X = (fa e).sat (fun d e' => osat (fun n => QD (.d (.bool (isTy n T))) e') ((t.now d e').bind tyName)) X := by
  rw [isiM_ev, sat_bind]
  congr 1; funext d e'
  rw [sat_ofO]
  cases h : t.now d e' with
  | none => rfl
  | some x => cases h2 : tyName x <;> simp [h2]
@[simp] theorem sat_compM {T : Tgt} {vs : List Nat} : (compM T vs f ft fa e).sat QD X = (f e).sat (fun items e1 => (compGo T vs ft fa items [] (wipeE vs e1)).sat (fun xs e2 => QD (.d (.list xs)) (restE vs e1 e2)) X) X := by
  rw [compM_ev, sat_bind]
  congr 1; funext ds e'
  rw [sat_bind]; rfl
def two? {α : Type} : List α → Option (α × α)
  | [a, b] => some (a, b)
  | _ => none
def three? {α : Type} : List α → Option (α × α × α)
  | [a, b, c] => some (a, b, c)
  | _ => none
@[simp] theorem two_s {a b : α} : two? [a, b] = some (a, b) := rfl
@[simp] theorem three_s {a b c : α} : three? [a, b, c] = some (a, b, c) := rfl
@[simp] theorem sat_parM : (parM i j f e).sat QF X = (f e).sat (fun ds e' => osat (fun p => i < e'.length ∧ j < e'.length ∧ QF .nx ((e'.set i (some p.1)).set j (some p.2))) (two? ds)) X := by
  rw [parM_ev, sat_bind]
  congr 1; funext ds e'
  match ds with
  | [] => rfl
  | [a] => rfl
  | [a, b] =>
    show (if i < e'.length ∧ j < e'.length then Out.ok Fl.nx ((e'.set i (some a)).set j (some b)) else Out.bad).sat QF X = _
    by_cases h : i < e'.length ∧ j < e'.length
    · rw [if_pos h]; simp [h.1, h.2]
    · rw [if_neg h]
      refine propext ⟨fun z => z.elim, fun z => h ⟨z.1, z.2.1⟩⟩
  | a :: b :: c :: r => rfl
@[simp] theorem sat_par3M : (par3M i j l f e).sat QF X = (f e).sat (fun ds e' => osat (fun p => i < e'.length ∧ j < e'.length ∧ l < e'.length ∧ QF .nx (((e'.set i (some p.1)).set j (some p.2.1)).set l (some p.2.2))) (three? ds)) X := by
  show ((f e).bind _).sat QF X = _
  rw [sat_bind]
  congr 1; funext ds e'
  match ds with
  | [] => rfl
  | [a] => rfl
  | [a, b] => rfl
  | [a, b, c] =>
    show (if i < e'.length ∧ j < e'.length ∧ l < e'.length then Out.ok Fl.nx (((e'.set i (some a)).set j (some b)).set l (some c)) else Out.bad).sat QF X = _
    by_cases h : i < e'.length ∧ j < e'.length ∧ l < e'.length
    · rw [if_pos h]; simp [h.1, h.2.1, h.2.2]
    · rw [if_neg h]
      refine propext ⟨fun z => z.elim, fun z => h ⟨z.1, z.2.1, z.2.2.1⟩⟩
  | a :: b :: c :: d :: r => rfl
@[simp] theorem sat_rg1M : (rg1M t fa e).sat QD X = (fa e).sat (fun d e' => osat (fun r => QD r e') (rgD (some (.d (.int 0))) (t.now d e'))) X := by
  rw [rg1M_ev, sat_bind]; congr 1; funext d e'; rw [sat_ofO]
@[simp] theorem sat_rg2M : (rg2M ta tb fa fb e).sat QD X = (fa e).sat (fun d e1 => (fb e1).sat (fun d' e' => osat (fun r => QD r e') (rgD (ta.now d e') (tb.now d' e'))) X) X := by
  rw [rg2M_ev, sat_bind]; congr 1; funext d e1; rw [sat_bind]; congr 1; funext d' e'; rw [sat_ofO]
@[simp] theorem sat_rg1I : (rg1I t fa e).sat QL X = (fa e).sat (fun d e' => osat (fun r => QL r e') (rgI (some (.d (.int 0))) (t.now d e'))) X := by
  rw [rg1I_ev, sat_bind]; congr 1; funext d e'; rw [sat_ofO]
@[simp] theorem sat_rg2I : (rg2I ta tb fa fb e).sat QL X = (fa e).sat (fun d e1 => (fb e1).sat (fun d' e' => osat (fun r => QL r e') (rgI (ta.now d e') (tb.now d' e'))) X) X := by
  rw [rg2I_ev, sat_bind]; congr 1; funext d e1; rw [sat_bind]; congr 1; funext d' e'; rw [sat_ofO]
@[simp] theorem sat_slM {fl fh : M (Option Int)} : (slM t fa fl fh e).sat QD X = (fa e).sat (fun d e1 => (fl e1).sat (fun lo e2 => (fh e2).sat (fun hi e' => osat (fun r => QD r e') ((t.now d e').bind fun x => slD x lo hi)) X) X) X := by
  rw [slM_ev, sat_bind]; congr 1; funext d e1; rw [sat_bind]; congr 1; funext lo e2; rw [sat_bind]; congr 1; funext hi e'; rw [sat_ofO]
@[simp] theorem sat_someI {QO : Option Int → Ev → Prop} : (someI t fa e).sat QO X = (fa e).sat (fun d e' => osat (fun r => QO r e') (intD (t.now d e'))) X := by
  rw [someI_ev, sat_bind]; congr 1; funext d e'; rw [sat_ofO]
@[simp] theorem intD_i {n : Int} : intD (some (.d (.int n))) = some (some n) := rfl
def tyO (T : String) : Option DV → Option Unit
  | some x => if tyD x = T then some () else none
  | none => none
@[simp] theorem tyO_s {T : String} {x : DV} : tyO T (some x) = if tyD x = T then some () else none := rfl
@[simp] theorem tyD_str {x : Str} : tyD (.d (.str x)) = "str" := rfl
@[simp] theorem tyD_list {x : List PyData} : tyD (.d (.list x)) = "list" := rfl
@[simp] theorem tyD_int {x : Int} : tyD (.d (.int x)) = "int" := rfl
@[simp] theorem tyD_dict {x : List (PyData × PyData)} : tyD (.d (.dict x)) = "dict" := rfl
@[simp] theorem sat_mthM {T : String} {g : DV → List DV → Option DV} {to : Tm} {fo : M DV} : (mthM T g to fo ts f e).sat QD X = (fo e).sat (fun d e1 => osat (fun _ => (f e1).sat (fun ds e2 => osat (fun r => QD r e2) ((to.now d e2).bind fun x => (nowsD ts ds e2).bind fun xs => g x xs)) X) (tyO T (to.now d e1))) X := by
  rw [mthM_ev, sat_bind]; congr 1; funext d e1; rw [sat_bind, tyChk_ev]
  cases h : to.now d e1 with
  | none => rfl
  | some x =>
    by_cases h2 : tyD x = T
    · simp only [tyO, h2, if_true, sat_ok, osat_some]
      rw [sat_bind]
      congr 1; funext ds e2; rw [sat_ofO]
    · simp [tyO, h2]
@[simp] theorem sat_zipI : (zipI fa fb e).sat QL X = (fa e).sat (fun d e1 => (fb e1).sat (fun d' e' => osat (fun r => QL r e') (zipD (some d) (some d'))) X) X := by
  rw [zipI_ev, sat_bind]; congr 1; funext d e1; rw [sat_bind]; congr 1; funext d' e'; rw [sat_ofO]
@[simp] theorem sat_kwM {ρ : List Nat} : (kwM ρ f f2 e).sat QL X = (f e).sat (fun ds e1 => (f2 e1).sat (fun ds2 e2 => QL (ds ++ reo ρ ds2) e2) X) X := by
  show ((f e).bind _).sat QL X = _
  rw [sat_bind]; congr 1; funext d e1; rw [sat_bind]; rfl
@[simp] theorem reo_n {α : Type} {l : List α} : reo [] l = [] := rfl
@[simp] theorem reo_c {α : Type} {j : Nat} {ρ : List Nat} {l : List α} : reo (j :: ρ) l = match l[j]? with
    | some x => x :: reo ρ l
    | none => reo ρ l := reo_cons
@[simp] theorem sat_chM {g g' : DV → DV → Option DV} : (chM g g' ta tb tc fa fb fc e).sat QD X = (fa e).sat (fun d e1 => (fb e1).sat (fun d' e2 => osat (fun b => bsat ((fc e2).sat (fun d'' e3 => osat (fun r => QD (.d (.bool r)) e3) (boolO (op2O g' (tb.now d' e3) (tc.now d'' e3)))) X) (QD (.d (.bool false)) e2) b) (boolO (op2O g (ta.now d e2) (tb.now d' e2)))) X) X := by
  rw [chM_ev, sat_bind]; congr 1; funext d e1; rw [sat_bind]; congr 1; funext d' e2
  cases h1 : ta.now d e2 with
  | none => rfl
  | some x =>
    cases h2 : tb.now d' e2 with
    | none => rfl
    | some y =>
      simp only [op2O_s]
      generalize hg : g x y = o
      have key : ∀ (e3 : Ev) (d'' : DV), ((match tb.now d' e3, tc.now d'' e3 with
        | some y, some z => (match g' y z with
          | some (DV.d (PyData.bool r)) => Out.ok (DV.d (PyData.bool r)) e3
          | _ => .bad)
        | _, _ => .bad).sat QD X) = osat (fun r => QD (.d (.bool r)) e3) (boolO (op2O g' (tb.now d' e3) (tc.now d'' e3))) := by
        intro e3 d''
        cases tb.now d' e3 with
        | none => rfl
        | some y =>
          cases tc.now d'' e3 with
          | none => rfl
          | some z =>
            simp only [op2O_s]
            generalize g' y z = o
            cases o with
            | none => rfl
            | some x =>
              cases x with
              | d y => cases y <;> rfl
              | _ => rfl
      cases o with
      | none => rfl
      | some x =>
        cases x with
        | d y =>
          cases y with
          | bool b =>
            cases b with
            | true =>
              simp only [sat_bind, boolO_b, osat_some, bsat_true]
              congr 1; funext d'' e3; exact key e3 d''
            | false => rfl
          | _ => rfl
        | _ => rfl
@[simp] theorem clrM_n {e : Ev} : clrM [] e = e := rfl
@[simp] theorem clrM_sl {i : Nat} {ts : List Tm} {e : Ev} : clrM (.sl i :: ts) e = clrM ts (e.set i none) := rfl
@[simp] theorem clrM_v {i : Nat} {ts : List Tm} {e : Ev} : clrM (.v i :: ts) e = clrM ts e := rfl
@[simp] theorem putM_n {e : Ev} : putM [] [] [] e = some e := rfl
@[simp] theorem putM_fz {ms : List Md} {t : Tm} {ts : List Tm} {outs : List DV} {e : Ev} : putM (.fz :: ms) (t :: ts) outs e = putM ms ts outs e := rfl
@[simp] theorem putM_sl {m m' i : Nat} {ms : List Md} {ts : List Tm} {o : DV} {outs : List DV} {e : Ev} : putM (.io m m' :: ms) (.sl i :: ts) (o :: outs) e = putM ms ts outs (e.set i (some o)) := rfl
@[simp] theorem putM_v {m m' i : Nat} {ms : List Md} {ts : List Tm} {o : DV} {outs : List DV} {e : Ev} : putM (.io m m' :: ms) (.v i :: ts) (o :: outs) e = putM ms ts outs e := rfl
/-- the ways come together -/
theorem sat_mid (P : Ev → Prop) {o : Out Fl} {K : Fl → Ev → Prop} {X : XQ} (h : ∀ e, P e → K .nx e) (h1 : o.sat (fun fl e => fsat (P e) (K .br e) (K .ct e) (fun d => K (.rt d) e) fl) X) : o.sat K X := by
  refine h1.mono fun fl e q => ?_
  cases fl with
  | nx => exact h e q
  | br => exact q
  | ct => exact q
  | rt d => exact q
/-! loops -/
/-- the invariant says what is left -/
theorem sat_for {enc : α → DV} {T : Tgt} {g : M Fl} {Q : Fl → Ev → Prop} {X : XQ} (Inv : List α → Ev → Prop) {xs : List α} {e : Ev} (h0 : Inv xs e)
    (step : ∀ x rest e, Inv (x :: rest) e → (tgM T (enc x) e).sat (fun _ e1 => (g e1).sat (fun fl e2 => fsat (Inv rest e2) (Q .nx e2) (Inv rest e2) (fun r => Q (.rt r) e2) fl) X) X) (hend : ∀ e, Inv [] e → Q .nx e) : (forM T g (xs.map enc) e).sat Q X := by
  induction xs generalizing e with
  | nil => exact hend e h0
  | cons x xs ih =>
    have s := step x xs e h0
    show ((tgM T (enc x) e).bind _).sat Q X
    rw [sat_bind]
    refine s.mono fun _ e1 s1 => ?_
    rw [sat_bind]
    refine s1.mono fun fl e2 s2 => ?_
    cases fl with
    | nx => exact ih s2
    | ct => exact ih s2
    | br => exact s2
    | rt r => exact s2
/-- .. what is done -/
theorem sat_forD {enc : α → DV} {T : Tgt} {g : M Fl} {Q : Fl → Ev → Prop} {X : XQ} (Inv : List α → Ev → Prop) {xs : List α} {e : Ev} (h0 : Inv [] e)
    (step : ∀ done x rest e, done ++ x :: rest = xs → Inv done e → (tgM T (enc x) e).sat (fun _ e1 => (g e1).sat (fun fl e2 => fsat (Inv (done ++ [x]) e2) (Q .nx e2) (Inv (done ++ [x]) e2) (fun r => Q (.rt r) e2) fl) X) X) (hend : ∀ e, Inv xs e → Q .nx e) : (forM T g (xs.map enc) e).sat Q X := by
  refine sat_for (fun rest e => ∃ done, done ++ rest = xs ∧ Inv done e) ⟨[], rfl, h0⟩ ?_ ?_
  · rintro x rest e ⟨done, hd, hi⟩
    refine (step done x rest e hd hi).mono fun _ e1 s => s.mono fun fl e2 s2 => ?_
    cases fl with
    | nx => exact ⟨done ++ [x], by rw [← hd]; simp, s2⟩
    | ct => exact ⟨done ++ [x], by rw [← hd]; simp, s2⟩
    | br => exact s2
    | rt r => exact s2
  · rintro e ⟨done, hd, hi⟩
    rw [List.append_nil] at hd
    subst hd
    exact hend e hi
theorem sat_while {c : M Bool} {b : M Fl} {Q : Fl → Ev → Prop} {X : XQ} (Inv : Nat → Ev → Prop) (n : Nat) {fuel : Nat} {e : Ev} (hn : n < fuel) (h0 : Inv n e)
    (step : ∀ n e, Inv n e → (c e).sat (fun k e1 => bsat ((b e1).sat (fun fl e2 => fsat (∃ m, m < n ∧ Inv m e2) (Q .nx e2) (∃ m, m < n ∧ Inv m e2) (fun d => Q (.rt d) e2) fl) X) (Q .nx e1) k) X) : (whileM c b fuel e).sat Q X := by
  induction fuel generalizing n e with
  | zero => exact absurd hn (Nat.not_lt_zero _)
  | succ fuel ih =>
    have s := step n e h0
    show ((c e).bind _).sat Q X
    rw [sat_bind]
    refine s.mono fun k e1 s1 => ?_
    cases k with
    | false => exact s1
    | true =>
      show ((b e1).bind _).sat Q X
      rw [sat_bind]
      refine Out.sat.mono s1 fun fl e2 s2 => ?_
      cases fl with
      | nx => obtain ⟨m, h1, h2⟩ := s2; exact ih m (by omega) h2
      | ct => obtain ⟨m, h1, h2⟩ := s2; exact ih m (by omega) h2
      | br => exact s2
      | rt r => exact s2
/-- a comprehension that changes nothing -/
theorem sat_comp {enc : α → DV} {T : Tgt} {vs : List Nat} {ft : M Bool} {fe : M DV} {Q : List PyData → Ev → Prop} {X : XQ} {e : Ev} (p : α → Bool) (h : α → PyData) {xs : List α} {acc : List PyData}
    (hb : ∀ x ∈ xs, (tgM T (enc x) e).sat (fun _ e1 => (ft e1).sat (fun b e2 => b = p x ∧ bsat ((fe e2).sat (fun d e3 => d = .d (h x) ∧ wipeE vs e3 = e) nX) (wipeE vs e2 = e) (p x)) nX) nX)
    (hl : acc.length + xs.length ≤ big) (hQ : Q (acc ++ (xs.filter p).map h) e) : (compGo T vs ft fe (xs.map enc) acc e).sat Q X := by
  induction xs generalizing acc with
  | nil => simpa [compGo] using hQ
  | cons x xs ih =>
    have s := hb x List.mem_cons_self
    simp only [List.length_cons] at hl
    rw [List.map_cons]
    unfold compGo
    rw [sat_bind, sat_noEx]
    refine s.mono (fun _ e1 s1 => ?_)
    rw [sat_bind, sat_noEx]
    refine s1.mono (fun b e2 ⟨s2, s3⟩ => ?_)
    subst s2
    cases q : p x with
    | false =>
      simp only
      rw [q] at s3
      rw [show wipeE vs e2 = e from s3]
      exact ih (fun y hy => hb y (List.mem_cons_of_mem _ hy)) (by omega) (by rw [List.filter_cons_of_neg (by rw [q]; simp)] at hQ; exact hQ)
    | true =>
      simp only
      rw [sat_bind, sat_noEx]
      rw [q] at s3
      refine Out.sat.mono s3 (fun d e3 ⟨s5, s6⟩ => ?_)
      subst s5
      simp only [dataOf_d]
      rw [if_pos (by omega), s6]
      refine ih (fun y hy => hb y (List.mem_cons_of_mem _ hy)) (by simp; omega) ?_
      rw [List.filter_cons_of_pos q] at hQ
      simpa using hQ
/-- .. without a test -/
theorem sat_compA {enc : α → DV} {T : Tgt} {vs : List Nat} {fe : M DV} {Q : List PyData → Ev → Prop} {X : XQ} {e : Ev} (h : α → PyData) {xs : List α} {acc : List PyData}
    (hb : ∀ x ∈ xs, (tgM T (enc x) e).sat (fun _ e1 => (fe e1).sat (fun d e3 => d = .d (h x) ∧ wipeE vs e3 = e) nX) nX)
    (hl : acc.length + xs.length ≤ big) (hQ : Q (acc ++ xs.map h) e) : (compGo T vs (M.pure true) fe (xs.map enc) acc e).sat Q X := by
  refine sat_comp (fun _ => true) h (fun x hx => (hb x hx).mono fun _ e1 s => ?_) hl (by rw [List.filter_eq_self.mpr (fun _ _ => rfl)]; exact hQ)
  exact ⟨rfl, s⟩
/-- a comprehension that changes what stands -/
theorem sat_compI {enc : α → DV} {T : Tgt} {vs : List Nat} {ft : M Bool} {fe : M DV} {Q : List PyData → Ev → Prop} {X : XQ} (Inv : List α → List PyData → Ev → Prop) {xs : List α} {acc : List PyData} {e : Ev} (h0 : Inv xs acc e)
    (step : ∀ x rest acc e, Inv (x :: rest) acc e → (tgM T (enc x) e).sat (fun _ e1 => (ft e1).sat (fun b e2 => bsat ((fe e2).sat (fun d e3 => acc.length < big ∧ osat (fun y => Inv rest (acc ++ [y]) (wipeE vs e3)) (dataOf d)) nX) (Inv rest acc (wipeE vs e2)) b) nX) nX)
    (hend : ∀ acc e, Inv [] acc e → Q acc e) : (compGo T vs ft fe (xs.map enc) acc e).sat Q X := by
  induction xs generalizing acc e with
  | nil => exact hend acc e h0
  | cons x xs ih =>
    have s := step x xs acc e h0
    rw [List.map_cons]
    unfold compGo
    rw [sat_bind, sat_noEx]
    refine s.mono (fun _ e1 s1 => ?_)
    rw [sat_bind, sat_noEx]
    refine s1.mono (fun b e2 s2 => ?_)
    cases b with
    | false => exact ih s2
    | true =>
      show ((noEx (fe e2)).bind _).sat Q X
      rw [sat_bind, sat_noEx]
      refine Out.sat.mono s2 (fun d e3 ⟨s3, s5⟩ => ?_)
      cases h : dataOf d with
      | none => rw [h] at s5; exact s5.elim
      | some y =>
        rw [h] at s5
        simp only
        rw [if_pos s3]
        exact ih s5
end
@[simp] theorem mulQ_ii {i j : Int} : mulQ (.int i) (.int j) = if (-(2 ^ 64) < i ∧ i < 2 ^ 64) ∨ (-(2 ^ 64) < j ∧ j < 2 ^ 64) then some (.int (i * j)) else none := rfl
end Lk
namespace Lk
open PySem PySem.Spec L2
abbrev wl (a b c : Int) : DV := .d (.list [.int a, .int b, .int c])
def WL (d : DV) : Prop := ∃ a b c, d = wl a b c
theorem atI_in {α : Type} {xs : List α} {i : Int} (h0 : 0 ≤ i) (h1 : i < xs.length) : ∃ x, atI xs i = some x ∧ x ∈ xs := by
  have hk : i.toNat < xs.length := by omega
  refine ⟨xs[i.toNat], ?_, List.getElem_mem hk⟩
  unfold atI ixN
  rw [if_pos h0, if_pos h1]
  exact List.getElem?_eq_getElem hk
@[simp] theorem itemsOf_list {xs : List PyData} : itemsOf (.d (.list xs)) = some (xs.map .d) := rfl
@[simp] theorem itemsOf_tuple {xs : List PyData} : itemsOf (.d (.tuple xs)) = some (xs.map .d) := rfl
@[simp] theorem itemsOf_s {xs : List Int} : itemsOf (.s xs) = some (xs.map fun n => .d (.int n)) := rfl
def undD : DV → PyData
  | .d x => x
  | _ => .none
@[simp] theorem undD_d {x : PyData} : undD (.d x) = x := rfl
theorem filt_map {α : Type} {f : α → PyData} {p : DV → Bool} {q : α → Bool} (h : ∀ a, p (.d (f a)) = q a) : ∀ l : List α, (((l.map f).map DV.d).filter p).map undD = (l.filter q).map f
  | [] => rfl
  | a :: l => by
    simp only [List.map_cons, List.filter_cons, h]
    cases q a
    · simp only [Bool.false_eq_true, if_false]
      exact filt_map h l
    · simp only [if_true, List.map_cons, undD_d]
      rw [filt_map h l]
theorem rgP_len {a b : Int} : (rgP a b).length = (b - a).toNat := by simp [rgP]
/-- the ints from a up to b -/
def rgL (a b : Int) : List Int := (List.range (b - a).toNat).map fun (i : Nat) => a + i
theorem rgP_rgL {a b : Int} : rgP a b = (rgL a b).map .int := by simp [rgP, rgL]
theorem mem_rgL {a b i : Int} : i ∈ rgL a b ↔ a ≤ i ∧ i < b := by
  unfold rgL
  rw [List.mem_map]
  constructor
  · rintro ⟨k, hk, rfl⟩
    rw [List.mem_range] at hk
    omega
  · rintro ⟨h1, h2⟩
    exact ⟨(i - a).toNat, List.mem_range.mpr (by omega), by omega⟩
theorem nodup_rgL {a b : Int} : (rgL a b).Nodup := by
  unfold rgL
  refine List.Pairwise.map _ (fun x y h => ?_) List.nodup_range
  intro e
  apply h
  have e : a + (x : Int) = a + (y : Int) := e
  omega
theorem len_rgL {a b : Int} : (rgL a b).length = (b - a).toNat := by simp [rgL]
theorem filter_ne_perm {i : Int} : ∀ {l : List Int}, l.Nodup → i ∈ l → (i :: l.filter (fun j => decide (j ≠ i))).Perm l
  | x :: l, hn, hi => by
    obtain ⟨h1, h2⟩ := List.nodup_cons.mp hn
    by_cases e : x = i
    · subst e
      rw [List.filter_cons_of_neg (by simp)]
      have : l.filter (fun j => decide (j ≠ x)) = l := List.filter_eq_self.mpr fun y hy => by
        simp only [ne_eq, decide_eq_true_eq]
        intro e; subst e; exact h1 hy
      rw [this]
    · rw [List.filter_cons_of_pos (by simpa using e)]
      have hi' : i ∈ l := (List.mem_cons.mp hi).resolve_left fun z => e z.symm
      exact (List.Perm.swap _ _ _).trans ((filter_ne_perm h2 hi').cons x)
def undI : DV → Int
  | .d (.int i) => i
  | _ => 0
@[simp] theorem undI_d {i : Int} : undI (.d (.int i)) = i := rfl
theorem shp_e : Shp 1 (.list []) := shp_list (fun _ h => nomatch h)
theorem ev6 {a b c d f : Option DV} : slot [a, b, c, d, f, none] 5 = none := by simp [slot]
def normP (p : Int × Int) : Int × Int := if p.1 < p.2 then p else (p.2, p.1)
def keptL : List (Int × Int) → List (Int × Int) → List (Int × Int)
  | [], acc => acc
  | p :: r, acc => keptL r (if p.1 ≠ p.2 ∧ normP p ∉ acc then acc ++ [normP p] else acc)
def gD (n : Int) (es : List (Int × Int)) : PyData := .tuple [.int n, .tuple (es.map pairD)]
theorem keptL_mem : ∀ {ps acc : List (Int × Int)} {q : Int × Int}, q ∈ keptL ps acc ↔ q ∈ acc ∨ ∃ p ∈ ps, p.1 ≠ p.2 ∧ q = normP p
  | [], acc, q => by simp [keptL]
  | p :: r, acc, q => by
    unfold keptL
    rw [keptL_mem]
    by_cases h : p.1 ≠ p.2 ∧ normP p ∉ acc
    · rw [if_pos h]
      simp only [List.mem_append, List.mem_cons, List.not_mem_nil, or_false, exists_eq_or_imp]
      constructor
      · rintro ((h1 | h1) | h1)
        · exact .inl h1
        · exact .inr (.inl ⟨h.1, h1⟩)
        · exact .inr (.inr h1)
      · rintro (h1 | h1 | h1)
        · exact .inl (.inl h1)
        · exact .inl (.inr h1.2)
        · exact .inr h1
    · rw [if_neg h]
      simp only [List.mem_cons, exists_eq_or_imp]
      constructor
      · rintro (h1 | h1)
        · exact .inl h1
        · exact .inr (.inr h1)
      · rintro (h1 | h1 | h1)
        · exact .inl h1
        · by_cases h2 : normP p ∈ acc
          · rw [h1.2]; exact .inl h2
          · exact absurd ⟨h1.1, h2⟩ h
        · exact .inr h1
theorem keptL_nodup : ∀ {ps acc : List (Int × Int)}, acc.Nodup → (keptL ps acc).Nodup
  | [], acc, h => h
  | p :: r, acc, h => by
    unfold keptL
    refine keptL_nodup ?_
    split
    · rename_i hc
      exact List.nodup_append.mpr ⟨h, by simp, fun a ha b hb => by
        rw [List.mem_singleton.mp hb]
        intro e; subst e; exact hc.2 ha⟩
    · exact h
theorem keptL_len : ∀ {ps acc : List (Int × Int)}, (keptL ps acc).length ≤ acc.length + ps.length
  | [], acc => by simp [keptL]
  | p :: r, acc => by
    unfold keptL
    refine Nat.le_trans keptL_len ?_
    split <;> simp <;> omega
theorem any_pair {ps : List (Int × Int)} {q : Int × Int} : ((ps.map pairD).any fun z => PyData.eqv z (pairD q)) = decide (q ∈ ps) := by
  induction ps with
  | nil => simp
  | cons p ps ih =>
    simp only [List.map_cons, List.any_cons, ih, eqv_pair]
    by_cases h : p = q
    · simp [h]
    · have h' : ¬ q = p := fun e => h e.symm
      simp [h, h']
theorem inP_pairs {ps : List (Int × Int)} {q : Int × Int} : inP (pairD q) (.list (ps.map pairD)) = some (.bool (decide (q ∈ ps))) := by
  rw [inP_l shp_pair shp_pairs, any_pair]
theorem notInP_pairs {ps : List (Int × Int)} {q : Int × Int} : notInP (pairD q) (.list (ps.map pairD)) = some (.bool (!decide (q ∈ ps))) := by
  unfold notInP
  rw [inP_pairs]; rfl
theorem getPs_map {ps : List (Int × Int)} : getPs (ps.map pairD) = some ps := by
  induction ps with
  | nil => rfl
  | cons p ps ih =>
    show getPs (.tuple [.int p.1, .int p.2] :: ps.map pairD) = _
    unfold getPs
    rw [ih]
theorem getIs_pairs {p : Int × Int} {ps : List (Int × Int)} : getIs (pairD p :: ps.map pairD) = none := rfl
theorem sortP_pairs {ps : List (Int × Int)} : sortP (.list (ps.map pairD)) = some (.list ((srtB SrtO.lexB ps).map pairD)) := by
  cases ps with
  | nil => rfl
  | cons p ps =>
    show (match getIs (pairD p :: ps.map pairD) with
      | some is => some (PyData.list ((srtB ltI is).map .int))
      | none => (match getPs ((p :: ps).map pairD) with
        | some ps => some (.list ((srtB SrtO.lexB ps).map pairD))
        | none => if srtOk ((p :: ps).map pairD) then some (.list (srtA ((p :: ps).map pairD))) else none)) = _
    rw [getPs_map]
    rfl
def Nice (n : Int) (es : List (Int × Int)) : Prop := 1 ≤ n ∧ n ≤ 10 ∧ es.length ≤ 24 ∧ es.Pairwise (fun p q => SrtO.lexB p q = true) ∧ ∀ p ∈ es, 0 ≤ p.1 ∧ p.1 < p.2 ∧ p.2 < n
def niceB (n : Int) (es : List (Int × Int)) : Bool := decide (3 ≤ n) && decide (n ≤ 10) && decide (es.length ≤ 24) && decide (es.Pairwise (fun p q => SrtO.lexB p q = true)) && es.all fun p => decide (0 ≤ p.1) && decide (p.1 < p.2) && decide (p.2 < n)
def getG : PyData → Option (Int × List (Int × Int))
  | .tuple [.int n, .tuple xs] => (getPs xs).map fun ps => (n, ps)
  | _ => none
theorem getG_eq {x : PyData} {n : Int} {es : List (Int × Int)} (h : getG x = some (n, es)) : x = gD n es := by
  unfold getG at h
  split at h
  · obtain ⟨ps, h1, h2⟩ := Option.map_eq_some_iff.mp h
    cases h2
    rw [getPs_eq h1]; rfl
  · cases h
def famB : Res → Bool
  | .ok (.d (.list gs)) [] => !gs.isEmpty && decide (gs.length ≤ 100) && gs.all fun g => match getG g with
    | some (n, es) => niceB n es
    | none => false
  | _ => false
theorem srt_strict {l : List (Int × Int)} (h : l.Nodup) : (srtB SrtO.lexB l).Pairwise (fun p q => SrtO.lexB p q = true) := by
  have h1 := srtB_srt tot_pair l
  have h2 : (srtB SrtO.lexB l).Nodup := (srtB_perm l).nodup_iff.mpr h
  have h3 : (srtB SrtO.lexB l).Pairwise (fun p q => SrtO.lexB q p = false ∧ p ≠ q) := List.Pairwise.and h1 h2
  refine h3.imp fun {p q} h => ?_
  cases e : SrtO.lexB p q with
  | true => rfl
  | false => exact absurd (tot_pair.eq p q e h.1) h.2
theorem nice_kept {n : Int} {ps : List (Int × Int)} (h1 : 1 ≤ n) (h2 : n ≤ 10) (h3 : (keptL ps []).length ≤ 24) (h4 : ∀ p ∈ ps, 0 ≤ p.1 ∧ p.1 < n ∧ 0 ≤ p.2 ∧ p.2 < n) : Nice n (srtB SrtO.lexB (keptL ps [])) := by
  refine ⟨h1, h2, by rw [(srtB_perm _).length_eq]; exact h3, srt_strict (keptL_nodup List.nodup_nil), fun q hq => ?_⟩
  have hq := (srtB_perm _).mem_iff.mp hq
  rcases keptL_mem.mp hq with hq | ⟨p, hp, hne, rfl⟩
  · cases hq
  · have := h4 p hp
    unfold normP
    split
    · omega
    · simp only
      omega
/-- the pairs of numbers below n -/
def pairsL (n : Int) : List (Int × Int) := (rgL 0 n).flatMap fun a => (rgL (a + 1) n).map fun b => (a, b)
theorem mem_pairsL {n : Int} {p : Int × Int} (h : p ∈ pairsL n) : 0 ≤ p.1 ∧ p.1 < p.2 ∧ p.2 < n := by
  unfold pairsL at h
  obtain ⟨a, ha, h⟩ := List.mem_flatMap.mp h
  obtain ⟨b, hb, rfl⟩ := List.mem_map.mp h
  have := mem_rgL.mp ha
  have := mem_rgL.mp hb
  simp only
  omega
theorem filt_true {α : Type} {f : α → PyData} {h : DV → PyData} {g : α → PyData} (hf : ∀ a, h (.d (f a)) = g a) (l : List α) : (((l.map f).map DV.d).filter fun _ => true).map h = l.map g := by
  induction l with
  | nil => rfl
  | cons a l ih =>
    simp only [List.map_cons, List.filter_cons, if_true, hf]
    rw [ih]
theorem addP_ll {xs ys : List PyData} (h : xs.length + ys.length ≤ big) : addP (.list xs) (.list ys) = some (.list (xs ++ ys)) := by
  show (if xs.length + ys.length ≤ big then some (PyData.list (xs ++ ys)) else none) = _
  rw [if_pos h]
theorem rgI_ok {a b : Int} (h : rgOk a b = true) : rgI (some (.d (.int a))) (some (.d (.int b))) = some ((rgP a b).map .d) := by
  show (if rgOk a b then some ((rgP a b).map DV.d) else none) = _
  rw [if_pos h]
theorem rgOk_of {a b : Int} (h1 : 0 ≤ a) (h2 : a ≤ 1000) (h3 : 0 ≤ b) (h4 : b ≤ 1000) : rgOk a b = true := by
  unfold rgOk; simp; omega
theorem len_flat_le {α β : Type} {f : α → List β} {c : Nat} : ∀ {l : List α}, (∀ a ∈ l, (f a).length ≤ c) → (l.flatMap f).length ≤ l.length * c
  | [], _ => by simp
  | a :: l, h => by
    simp only [List.flatMap_cons, List.length_append, List.length_cons]
    have h1 := h a List.mem_cons_self
    have h2 := len_flat_le (l := l) fun b hb => h b (List.mem_cons_of_mem _ hb)
    rw [Nat.succ_mul]
    omega
def atD (l : List Int) (i : Int) : Int := (atI l i).getD 0
theorem atD_ok {l : List Int} {i : Int} (h0 : 0 ≤ i) (h1 : i < l.length) : atI l i = some (atD l i) ∧ atD l i ∈ l := by
  obtain ⟨x, h, hx⟩ := atI_in h0 h1
  unfold atD
  rw [h]
  exact ⟨rfl, hx⟩
theorem cut_mem {xs : List PyData} {lo hi : Option Int} {x : PyData} (h : x ∈ cutP xs lo hi) : x ∈ xs := List.mem_of_mem_drop (List.mem_of_mem_take h)
theorem cut_len {xs : List PyData} {j : Int} (h : 0 ≤ j) : (cutP xs none (some j)).length ≤ j.toNat := by
  unfold cutP
  simp only [HT.sIx_none, List.drop_zero, Nat.sub_zero]
  have : HT.sIx xs.length xs.length (some j) = min j.toNat xs.length := by
    show (if j < 0 then (j + (xs.length : Int)).toNat else min j.toNat xs.length) = _
    rw [if_neg (by omega)]
  rw [this, List.length_take]
  omega
theorem pairs10 : (pairsL 10).length = 45 := by decide +kernel
def EPs (n : Int) (ps : List (Int × Int)) : Prop := ∀ p ∈ ps, 0 ≤ p.1 ∧ p.1 < p.2 ∧ p.2 < n
theorem pairsL_ne {n : Int} (h : 2 ≤ n) : pairsL n ≠ [] := by
  intro e
  have : (0, 1) ∈ pairsL n := by
    unfold pairsL
    exact List.mem_flatMap.mpr ⟨0, mem_rgL.mpr (by omega), List.mem_map.mpr ⟨1, mem_rgL.mpr (by omega), rfl⟩⟩
  rw [e] at this
  cases this
theorem pairsL_len {n : Int} (h0 : 0 ≤ n) (h : n ≤ 10) : (pairsL n).length ≤ 100 := by
  have h1 : (pairsL n).length ≤ (rgL 0 n).length * 10 := len_flat_le fun b hb => by
    have := mem_rgL.mp hb
    simp [len_rgL]; omega
  rw [len_rgL] at h1
  omega
theorem filt_pair {q : Int × Int} (ps : List (Int × Int)) : (((ps.map pairD).map DV.d).filter fun d => !PyData.eqv (undD d) (pairD q)).map undD = (ps.filter fun p => decide (p ≠ q)).map pairD := by
  rw [filt_map (f := pairD) (p := fun d => !PyData.eqv (undD d) (pairD q)) (q := fun p => decide (p ≠ q)) (fun a => by simp [eqv_pair])]
/-! the program: a right graph is one -/
theorem getBs_true : ∀ k : Nat, getBs (List.replicate k (.bool true)) = some (List.replicate k true)
  | 0 => rfl
  | k + 1 => by
    show getBs (.bool true :: List.replicate k (.bool true)) = _
    unfold getBs
    rw [getBs_true k]; rfl
theorem allP_true {xs : List PyData} (h : ∀ x ∈ xs, x = .bool true) : allP (.list xs) = some (.bool true) := by
  have e : xs = List.replicate xs.length (.bool true) := List.eq_replicate_iff.mpr ⟨rfl, h⟩
  show (getBs xs).map (fun bs => PyData.bool (bs.all id)) = _
  rw [e, getBs_true]
  simp
theorem map_true {α : Type} {l : List α} {x : PyData} (h : x ∈ (l.filter fun _ => true).map fun _ => PyData.bool true) : x = .bool true := by
  obtain ⟨_, _, rfl⟩ := List.mem_map.mp h
  rfl
theorem cmpN_ii {op : CmpOp} {k : Nat} {i j : Int} : cmpN op (k + 1) (.int i) (.int j) = some (opI op i j) := rfl
theorem cmp_pair {p q : Int × Int} : cmpP .Lt (pairD p) (pairD q) = some (.bool (SrtO.lexB p q)) := by
  unfold cmpP
  rw [(shp_pair (p := p)).ok, (shp_pair (p := q)).ok]
  have h : cmpN .Lt 8 (pairD p) (pairD q) = some (SrtO.lexB p q) := by
    show (if cmpAll (cmpN .Lt 7) [.int p.1, .int p.2] [.int q.1, .int q.2] then some (lexV (fun x y => (cmpN .Lt 7 x y).getD false) (opI .Lt 2 2) [.int p.1, .int p.2] [.int q.1, .int q.2]) else none) = _
    have e : cmpAll (cmpN .Lt 7) [.int p.1, .int p.2] [.int q.1, .int q.2] = true := by simp [cmpAll, cmpN_ii]
    rw [if_pos e]
    simp only [lexV, eqv_int, cmpN_ii, Option.getD_some, opI_lt, SrtO.lexB]
    by_cases h1 : p.1 = q.1
    · by_cases h2 : p.2 = q.2
      · simp [h1, h2]
      · simp [h1, h2]
    · simp [h1]
  rw [h]; rfl
theorem cut1 {xs : List PyData} : cutP xs (some 1) none = xs.tail := by
  unfold cutP
  rw [HT.sIx_none]
  have e : HT.sIx xs.length 0 (some 1) = min 1 xs.length := by
    show (if (1 : Int) < 0 then ((1 : Int) + (xs.length : Int)).toNat else min (1 : Int).toNat xs.length) = _
    rw [if_neg (by omega)]; rfl
  rw [e]
  cases xs with
  | nil => rfl
  | cons x xs =>
    have : min 1 (x :: xs).length = 1 := by simp
    rw [this]
    simp
theorem zip_pairs : ∀ {es fs : List (Int × Int)}, zipP (es.map pairD) (fs.map pairD) = ((es.zip fs).map fun z => ((pairD z.1, pairD z.2) : PyData × PyData)).map fun d => DV.d (.tuple [d.1, d.2])
  | [], _ => by simp [zipP]
  | _ :: _, [] => by simp [zipP]
  | e :: es, f :: fs => by
    show DV.d (.tuple [pairD e, pairD f]) :: zipP (es.map pairD) (fs.map pairD) = _
    rw [zip_pairs]
    rfl
theorem zip_tail_mem {r : Int × Int → Int × Int → Prop} : ∀ {es : List (Int × Int)}, es.Pairwise r → ∀ z ∈ es.zip es.tail, r z.1 z.2
  | [], _, z, hz => by simp at hz
  | [a], _, z, hz => by simp at hz
  | a :: b :: es, h, z, hz => by
    obtain ⟨h1, h2⟩ := List.pairwise_cons.mp h
    rcases List.mem_cons.mp hz with e | hz
    · rw [e]; exact h1 b List.mem_cons_self
    · exact zip_tail_mem h2 z hz
@[simp] theorem zipD_t {xs ys : List PyData} : zipD (some (.d (.tuple xs))) (some (.d (.tuple ys))) = some (zipP xs ys) := rfl
/-! the graph's parts; short operations -/
@[simp] theorem ix_g0 {n : Int} {es : List (Int × Int)} : ixD (.d (gD n es)) (.d (.int 0)) = some (.d (.int n)) := by simp [gD, atI_0]
@[simp] theorem ix_g1 {n : Int} {es : List (Int × Int)} : ixD (.d (gD n es)) (.d (.int 1)) = some (.d (.tuple (es.map pairD))) := by simp [gD, atI_1]
@[simp] theorem ix_p0 {p : Int × Int} : ixD (.d (pairD p)) (.d (.int 0)) = some (.d (.int p.1)) := by simp [pairD, atI_0]
@[simp] theorem ix_p1 {p : Int × Int} : ixD (.d (pairD p)) (.d (.int 1)) = some (.d (.int p.2)) := by simp [pairD, atI_1]
@[simp] theorem tg_pair {i j : Nat} {p : Int × Int} {e : Ev} {QU : Unit → Ev → Prop} {X : XQ} : (tgM (.tp [i, j]) (.d (pairD p)) e).sat QU X = ((i < e.length ∧ j < e.length) ∧ QU () ((e.set i (some (.d (.int p.1)))).set j (some (.d (.int p.2))))) := by
  simp [pairD]
@[simp] theorem lenD_l {xs : List PyData} : lenD [.d (.list xs)] = some (.d (.int xs.length)) := rfl
@[simp] theorem lenD_t {xs : List PyData} : lenD [.d (.tuple xs)] = some (.d (.int xs.length)) := rfl
@[simp] theorem listD_l {xs : List PyData} : listD [.d (.list xs)] = some (.d (.list xs)) := rfl
@[simp] theorem listD_t {xs : List PyData} : listD [.d (.tuple xs)] = some (.d (.list xs)) := rfl
@[simp] theorem tupleP_l {xs : List PyData} : tupleP (.list xs) = some (.tuple xs) := rfl
@[simp] theorem tupleP_t {xs : List PyData} : tupleP (.tuple xs) = some (.tuple xs) := rfl
theorem mk_g {n : Int} {es : List (Int × Int)} : (.tuple [.int n, .tuple (es.map pairD)] : PyData) = gD n es := rfl
theorem mk_p {a b : Int} : (.tuple [.int a, .int b] : PyData) = pairD (a, b) := rfl
theorem mk_p' {p : Int × Int} : (.tuple [.int p.1, .int p.2] : PyData) = pairD p := rfl
end Lk
namespace Lk
open PySem PySem.Spec L2
/-- is shown, in so many signs at most -/
def ShB (k : Nat) (x : PyData) : Prop := x.showable = true ∧ x.shown.length ≤ k
theorem ShB.mono {j k : Nat} {x : PyData} (h : ShB j x) (hk : j ≤ k) : ShB k x := ⟨h.1, Nat.le_trans h.2 hk⟩
theorem shbAll {k : Nat} : ∀ {xs : List PyData}, (∀ x ∈ xs, ShB k x) → PyData.showableAll xs = true ∧ ((PyData.shownAll xs).map (·.length)).sum ≤ xs.length * k ∧ (PyData.shownAll xs).length = xs.length
  | [], _ => ⟨by simp [PyData.showableAll], by simp [PyData.shownAll], by simp [PyData.shownAll]⟩
  | x :: xs, h => by
    obtain ⟨h1, h2⟩ := h x List.mem_cons_self
    obtain ⟨q1, q2, q3⟩ := shbAll fun y hy => h y (List.mem_cons_of_mem _ hy)
    refine ⟨by simp [PyData.showableAll, h1, q1], ?_, by simp [PyData.shownAll, q3]⟩
    simp only [PyData.shownAll, List.map_cons, List.sum_cons, List.length_cons, Nat.succ_mul]
    omega
theorem shb_list {k : Nat} {xs : List PyData} (h : ∀ x ∈ xs, ShB k x) : ShB (xs.length * (k + 2) + 3) (.list xs) := by
  obtain ⟨q1, q2, q3⟩ := shbAll h
  refine ⟨by simpa [PyData.showable] using q1, ?_⟩
  simp only [PyData.shown]
  have := PySem.listText_len_le (PyData.shownAll xs)
  rw [Nat.mul_add]
  omega
theorem shb_tuple {k : Nat} {xs : List PyData} (h : ∀ x ∈ xs, ShB k x) : ShB (xs.length * (k + 2) + 3) (.tuple xs) := by
  obtain ⟨q1, q2, q3⟩ := shbAll h
  refine ⟨by simpa [PyData.showable] using q1, ?_⟩
  simp only [PyData.shown]
  have := PySem.tupleText_len_le (PyData.shownAll xs)
  rw [Nat.mul_add]
  omega
theorem small_len : ((List.range 1000).all fun k => decide ((toString (k : Int) : Str).length ≤ 5)) = true := by decide +kernel
theorem shb_int {i : Int} (h0 : 0 ≤ i) (h1 : i < 1000) : ShB 5 (.int i) := by
  refine ⟨?_, ?_⟩
  · simp only [PyData.showable, decide_eq_true_eq]
    have h2 : i.natAbs.log2 ≤ i.natAbs := Nat.log2_le_self _
    omega
  · simp only [PyData.shown]
    have := List.all_eq_true.mp small_len i.toNat (List.mem_range.mpr (by omega))
    have e : ((i.toNat : Nat) : Int) = i := by omega
    rw [e] at this
    exact of_decide_eq_true this
theorem shb_neg1 : ShB 5 (.int (-1)) := ⟨by decide +kernel, by decide +kernel⟩
theorem shb_bool {b : Bool} : ShB 5 (.bool b) := by cases b <;> exact ⟨by decide +kernel, by decide +kernel⟩
theorem shb_none : ShB 5 .none := ⟨by decide +kernel, by decide +kernel⟩
theorem shb_graph {n : Int} {es : List (Int × Int)} (hg : Nice n es) : ShB 5000 (gD n es) := by
  have hp : ∀ x ∈ es.map pairD, ShB 100 x := fun x hx => by
    obtain ⟨p, hp, rfl⟩ := List.mem_map.mp hx
    have := hg.2.2.2.2 p hp
    have h10 := hg.2.1
    refine (shb_tuple (k := 5) fun z hz => ?_).mono (by simp)
    simp only [List.mem_cons, List.not_mem_nil, or_false] at hz
    rcases hz with rfl | rfl
    · exact shb_int (by omega) (by omega)
    · exact shb_int (by omega) (by omega)
  have ht := shb_tuple hp
  rw [List.length_map] at ht
  have h24 := hg.2.2.1
  have ht := ht.mono (k := 2451) (by omega)
  refine ShB.mono (shb_tuple (k := 2451) (xs := [.int n, .tuple (es.map pairD)]) fun z hz => ?_) (by simp)
  simp only [List.mem_cons, List.not_mem_nil, or_false] at hz
  rcases hz with rfl | rfl
  · exact (shb_int (by have := hg.1; omega) (by have := hg.2.1; omega)).mono (by omega)
  · exact ht
theorem reprP_s {m k : Nat} {x : PyData} (h0 : isSeq x = true) (h1 : Shp m x) (h2 : ShB k x) (hm : m ≤ 64 := by decide) (hk : k ≤ 1000000 := by omega) : reprP x = some (.str x.shown) := by
  unfold reprP
  have a : decide (x.depth ≤ 64) = true := decide_eq_true (Nat.le_trans h1.2 hm)
  have b : decide (x.shown.length ≤ big) = true := decide_eq_true (Nat.le_trans h2.2 hk)
  rw [h1.1, a, h2.1, b]
  rfl
/-- data that repr takes -/
def Thg (m k : Nat) (x : PyData) : Prop := (x.canLay0 = true ∨ dOk x = true) ∧ x.depth ≤ m ∧ ShB k x
theorem Thg.repr {m k : Nat} {x : PyData} (h : Thg m k x) (hm : m ≤ 64 := by decide) (hk : k ≤ 1000000 := by omega) : reprP x = some (.str x.shown) := by
  unfold reprP
  have a : decide (x.depth ≤ 64) = true := decide_eq_true (Nat.le_trans h.2.1 hm)
  have b : decide (x.shown.length ≤ big) = true := decide_eq_true (Nat.le_trans h.2.2.2 hk)
  have c : (x.canLay0 || dOk x) = true := by rcases h.1 with q | q <;> simp [q]
  rw [c, a, h.2.2.1, b]
  rfl
theorem Thg.mono {m k m' k' : Nat} {x : PyData} (h : Thg m k x) (hm : m ≤ m') (hk : k ≤ k') : Thg m' k' x := ⟨h.1, Nat.le_trans h.2.1 hm, h.2.2.mono hk⟩
theorem Thg.of {m k : Nat} {x : PyData} (h : Shp m x) (h2 : ShB k x) : Thg m k x := ⟨.inl h.1, h.2, h2⟩
def thgB (m k : Nat) (x : PyData) : Bool := (x.canLay0 || dOk x) && decide (x.depth ≤ m) && x.showable && decide (x.shown.length ≤ k)
theorem thgB_ok {m k : Nat} {x : PyData} (h : thgB m k x = true) : Thg m k x := by
  unfold thgB at h
  simp only [Bool.and_eq_true, Bool.or_eq_true, decide_eq_true_eq] at h
  exact ⟨h.1.1.1, h.1.1.2, h.1.2, h.2⟩
theorem dOks_of : ∀ {xs : List PyData}, (∀ x ∈ xs, dOk x = true) → dOks xs = true
  | [], _ => rfl
  | x :: xs, h => by
    unfold dOks
    rw [h x List.mem_cons_self, dOks_of fun y hy => h y (List.mem_cons_of_mem _ hy)]
    rfl
theorem depthAll_le {m : Nat} : ∀ {xs : List PyData}, (∀ x ∈ xs, x.depth ≤ m) → PyData.depthAll xs ≤ m
  | [], _ => by simp [PyData.depthAll]
  | x :: xs, h => by
    have a := h x List.mem_cons_self
    have b := depthAll_le fun y hy => h y (List.mem_cons_of_mem _ hy)
    simp only [PyData.depthAll]
    omega
theorem canAll_of : ∀ {xs : List PyData}, (∀ x ∈ xs, x.canLay0 = true) → PyData.canLayAll0 xs = true
  | [], _ => by simp [PyData.canLayAll0]
  | x :: xs, h => by
    simp only [PyData.canLayAll0]
    rw [h x List.mem_cons_self, canAll_of fun y hy => h y (List.mem_cons_of_mem _ hy)]
    rfl
/-- a tuple of such; all but one are plain both ways -/
theorem Thg.tuple {m k : Nat} {xs : List PyData} (hc : (∀ x ∈ xs, x.canLay0 = true) ∨ ∀ x ∈ xs, dOk x = true) (h : ∀ x ∈ xs, Thg m k x) : Thg (m + 1) (xs.length * (k + 2) + 3) (.tuple xs) := by
  refine ⟨?_, ?_, shb_tuple fun x hx => (h x hx).2.2⟩
  · rcases hc with hc | hc
    · exact .inl (by simp only [PyData.canLay0]; exact canAll_of hc)
    · exact .inr (by unfold dOk; exact dOks_of hc)
  · have := depthAll_le fun x hx => (h x hx).2.1
    simp only [PyData.depth]
    omega
theorem shp_graph {n : Int} {es : List (Int × Int)} : Shp 3 (gD n es) := shp_tuple fun z hz => by
  simp only [List.mem_cons, List.not_mem_nil, or_false] at hz
  rcases hz with rfl | rfl
  · exact shp_int.mono (by omega)
  · exact shp_pairsT
theorem noBs_pairs : ∀ {ps : List (Int × Int)}, noBs (ps.map pairD) = true
  | [] => by simp [noBs]
  | p :: ps => by
    have ih := noBs_pairs (ps := ps)
    simp only [List.map_cons, noBs, ih, Bool.and_true]
    simp [pairD, noB, noBs]
theorem noB_graph {n : Int} {es : List (Int × Int)} : noB (gD n es) = true := by
  unfold gD
  simp [noB, noBs, noBs_pairs]
theorem gD_inj {n n' : Int} {es es' : List (Int × Int)} (h : gD n es = gD n' es') : n = n' ∧ es = es' := by
  unfold gD at h
  simp only [PyData.tuple.injEq, List.cons.injEq, PyData.int.injEq, and_true] at h
  refine ⟨h.1, ?_⟩
  have q := getPs_map (ps := es)
  rw [h.2, getPs_map] at q
  exact (Option.some.inj q).symm
theorem eqv_graph {n n' : Int} {es es' : List (Int × Int)} : PyData.eqv (gD n es) (gD n' es') = decide (n = n' ∧ es = es') := by
  by_cases h : n = n' ∧ es = es'
  · rw [decide_eq_true h, h.1, h.2, eqv_refl _ shp_graph.1]
  · rw [decide_eq_false h]
    cases e : PyData.eqv (gD n es) (gD n' es') with
    | false => rfl
    | true => exact absurd (gD_inj (eqv_eq _ _ noB_graph noB_graph e)) h
theorem repr_g {n : Int} {es : List (Int × Int)} (hg : Nice n es) : reprP (gD n es) = some (.str (gD n es).shown) := reprP_s rfl shp_graph (shb_graph hg)
theorem repr_gs {gs : List PyData} (h : ∀ g ∈ gs, ∃ n es, g = gD n es ∧ Nice n es) (hl : gs.length ≤ 100) : reprP (.list gs) = some (.str (PyData.list gs).shown) := by
  refine reprP_s (m := 4) (k := gs.length * (5000 + 2) + 3) rfl (shp_list fun x hx => ?_) (shb_list fun x hx => ?_)
  · obtain ⟨n, es, rfl, _⟩ := h x hx
    exact shp_graph
  · obtain ⟨n, es, rfl, hg⟩ := h x hx
    exact shb_graph hg
@[simp] theorem eqv_str_self {x : Str} : PyData.eqv (.str x) (.str x) = true := by rw [eqv_strs]; simp
end Lk
namespace Lk
open PySem PySem.Spec L2
/-! new combinators -/
@[simp] theorem sat_lstM {e : Ev} {j : Nat} {QU : Unit → Ev → Prop} {X : XQ} : (lstM j e).sat QU X = osat (fun _ => QU () e) (lstO (slot e j)) := by
  unfold lstM
  generalize slot e j = o
  cases o with
  | none => rfl
  | some d =>
    cases d with
    | d y => cases y <;> rfl
    | _ => rfl
section
variable {e : Ev} {QD : DV → Ev → Prop} {QP : List PyData → Ev → Prop} {X : XQ} {j i z : Nat} {fa : M DV} {f : M (List PyData)} {mk : List PyData → PyData}
@[simp] theorem sat_consL : (consL fa f e).sat QP X = (fa e).sat (fun d e1 => osat (fun x => (f e1).sat (fun ds e2 => QP (x :: ds) e2) X) (dataOf d)) X := by
  show ((fa e).bind _).sat QP X = _
  rw [sat_bind]; congr 1; funext d e1
  cases dataOf d with
  | none => rfl
  | some x => show ((f e1).bind _).sat QP X = _; rw [sat_bind]; rfl
@[simp] theorem sat_starL : (starL fa f e).sat QP X = (fa e).sat (fun d e1 => osat (fun xs => (f e1).sat (fun ds e2 => QP (xs ++ ds) e2) X) (itemsP d)) X := by
  show ((fa e).bind _).sat QP X = _
  rw [sat_bind]; congr 1; funext d e1
  cases itemsP d with
  | none => rfl
  | some x => show ((f e1).bind _).sat QP X = _; rw [sat_bind]; rfl
@[simp] theorem itemsP_l {xs : List PyData} : itemsP (.d (.list xs)) = some xs := rfl
@[simp] theorem itemsP_t {xs : List PyData} : itemsP (.d (.tuple xs)) = some xs := rfl
@[simp] theorem sat_dispL : (dispL mk f e).sat QD X = (f e).sat (fun ds e' => ds.length ≤ big ∧ QD (.d (mk ds)) e') X := by
  show ((f e).bind _).sat QD X = _
  rw [sat_bind]; congr 1; funext ds e'
  by_cases h : ds.length ≤ big
  · rw [if_pos h]; simp [h]
  · rw [if_neg h]; simp [h]
@[simp] theorem sat_apIxM : (apIxM j i z e).sat QD X = osat (fun e' => QD (.d .none) e') (apIxO j i z e) := sat_goE
@[simp] theorem sat_extM {fa : M DV} : (extM j fa e).sat QD X = (lstM j e).sat (fun _ e1 => (fa e1).sat (fun d e2 => osat (fun e' => QD (.d .none) e') (extO j d e2)) X) X := by
  show ((lstM j e).bind _).sat QD X = _
  rw [sat_bind]; congr 1; funext d e1
  rw [sat_bind]; congr 1; funext d' e2
  exact sat_goE
@[simp] theorem sat_popAtM {fa : M DV} : (popAtM j fa e).sat QD X = (lstM j e).sat (fun _ e1 => (fa e1).sat (fun d e2 => osat (fun r => QD r.1 r.2) (popAtO j d e2)) X) X := by
  show ((lstM j e).bind _).sat QD X = _
  rw [sat_bind]; congr 1; funext d e1
  rw [sat_bind]; congr 1; funext d' e2
  cases h : popAtO j d' e2 with
  | none => simp [h]
  | some r => obtain ⟨x, e'⟩ := r; simp [h]
@[simp] theorem sat_dvM {ts : List Tm} {f : M (List DV)} {QF : Fl → Ev → Prop} : (dvM j i ts f e).sat QF X = (f e).sat (fun ds e' => osat (fun e2 => QF .nx e2) ((nowsD ts ds e').bind fun xs0 => dvO j i xs0 e')) X := by
  show ((f e).bind _).sat QF X = _
  rw [sat_bind]; congr 1; funext ds e'
  exact sat_goE
@[simp] theorem revD_l {xs : List PyData} : revD (.d (.list xs)) = some (.d (.list xs.reverse)) := rfl
@[simp] theorem revD_t {xs : List PyData} : revD (.d (.tuple xs)) = some (.d (.tuple xs.reverse)) := rfl
end
/-! plain: graphs made less -/
def dn (g v : Int) : Int := if g < v then v - 1 else v
def dnP (g : Int) (p : Int × Int) : Int × Int := (dn g p.1, dn g p.2)
theorem keptL_id : ∀ {ps acc : List (Int × Int)}, (∀ p ∈ ps, p.1 < p.2) → ps.Nodup → (∀ p ∈ ps, p ∉ acc) → keptL ps acc = acc ++ ps
  | [], acc, _, _, _ => by simp [keptL]
  | p :: ps, acc, h1, h2, h3 => by
    have hp := h1 p List.mem_cons_self
    have hn : normP p = p := by unfold normP; rw [if_pos hp]
    obtain ⟨n1, n2⟩ := List.nodup_cons.mp h2
    unfold keptL
    rw [hn, if_pos ⟨by omega, h3 p List.mem_cons_self⟩, keptL_id (fun q hq => h1 q (List.mem_cons_of_mem _ hq)) n2 fun q hq => ?_]
    · simp
    · simp only [List.mem_append, List.mem_singleton, not_or]
      exact ⟨h3 q (List.mem_cons_of_mem _ hq), fun e => n1 (e ▸ hq)⟩
theorem strict_nodup {ps : List (Int × Int)} (h : ps.Pairwise fun p q => SrtO.lexB p q = true) : ps.Nodup := h.imp fun {p q} hpq e => by
  subst e
  rw [tot_pair.irr] at hpq
  cases hpq
theorem srtB_id {ps : List (Int × Int)} (h : ps.Pairwise fun p q => SrtO.lexB p q = true) : srtB SrtO.lexB ps = ps := (srt_is tot_pair (h.imp fun {p q} hpq => tot_pair.asym _ _ hpq) (List.Perm.refl _)).symm
theorem kept_id {ps : List (Int × Int)} (h1 : ∀ p ∈ ps, p.1 < p.2) (h : ps.Pairwise fun p q => SrtO.lexB p q = true) : srtB SrtO.lexB (keptL ps []) = ps := by
  rw [keptL_id (acc := []) h1 (strict_nodup h) (by simp), List.nil_append, srtB_id h]
/-- what has the same members is sorted the same way -/
theorem kept_same {ps qs : List (Int × Int)} (h : ∀ q, q ∈ keptL ps [] ↔ q ∈ keptL qs []) : srtB SrtO.lexB (keptL ps []) = srtB SrtO.lexB (keptL qs []) := by
  have p : (keptL ps []).Perm (keptL qs []) := (List.perm_ext_iff_of_nodup (keptL_nodup List.nodup_nil) (keptL_nodup List.nodup_nil)).mpr h
  refine srt_is tot_pair (srtB_srt tot_pair _) ((srtB_perm _).trans p)
def wvL (v : Int) (es : List (Int × Int)) : List (Int × Int) := (es.filter fun p => decide (p.1 ≠ v ∧ p.2 ≠ v)).map (dnP v)
theorem dn_lt {g a b : Int} (h : a < b) (ha : a ≠ g) (hb : b ≠ g) : dn g a < dn g b := by
  unfold dn
  split <;> split <;> omega
theorem dn_rg {g n a : Int} (h0 : 0 ≤ a) (h1 : a < n) (ha : a ≠ g) (g0 : 0 ≤ g) (g1 : g < n) : 0 ≤ dn g a ∧ dn g a < n - 1 := by
  unfold dn
  split <;> omega
theorem dn_inj {g a b : Int} (h : dn g a = dn g b) (ha : a ≠ g) (hb : b ≠ g) : a = b := by
  unfold dn at h
  split at h <;> split at h <;> omega
theorem nice_wv {n v : Int} {es : List (Int × Int)} (hg : Nice n es) (h0 : 0 ≤ v) (h1 : v < n) (h2 : 2 ≤ n) : Nice (n - 1) (wvL v es) := by
  obtain ⟨g1, g2, g3, g4, g5⟩ := hg
  have hm : ∀ p ∈ wvL v es, ∃ q ∈ es, p = dnP v q ∧ q.1 ≠ v ∧ q.2 ≠ v := fun p hp => by
    obtain ⟨q, hq, rfl⟩ := List.mem_map.mp hp
    obtain ⟨hq1, hq2⟩ := List.mem_filter.mp hq
    simp only [decide_eq_true_eq] at hq2
    exact ⟨q, hq1, rfl, hq2⟩
  refine ⟨by omega, by omega, ?_, ?_, fun p hp => ?_⟩
  · unfold wvL
    rw [List.length_map]
    have := List.length_filter_le (fun p : Int × Int => decide (p.1 ≠ v ∧ p.2 ≠ v)) es
    omega
  · unfold wvL
    refine List.pairwise_map.mpr ?_
    refine List.Pairwise.imp_of_mem (R := fun p q => SrtO.lexB p q = true) (fun {p q} hp hq h => ?_) (g4.sublist List.filter_sublist)
    simp only [List.mem_filter, decide_eq_true_eq] at hp hq
    rw [SrtO.lexB_iff] at h ⊢
    rcases h with h | h
    · exact .inl (dn_lt h hp.2.1 hq.2.1)
    · exact .inr ⟨by show dn v p.1 = dn v q.1; rw [h.1], dn_lt h.2 hp.2.2 hq.2.2⟩
  · obtain ⟨q, hq, rfl, q1, q2⟩ := hm p hp
    have := g5 q hq
    have a := dn_rg (n := n) (a := q.1) (by omega) (by omega) q1 h0 h1
    have b := dn_rg (n := n) (a := q.2) (by omega) (by omega) q2 h0 h1
    exact ⟨a.1, dn_lt this.2.1 q1 q2, b.2⟩
def weL (e : Int × Int) (es : List (Int × Int)) : List (Int × Int) := es.filter fun p => decide (p ≠ e)
theorem nice_we {n : Int} {es : List (Int × Int)} (e : Int × Int) (hg : Nice n es) : Nice n (weL e es) := by
  obtain ⟨g1, g2, g3, g4, g5⟩ := hg
  exact ⟨g1, g2, Nat.le_trans (List.length_filter_le _ _) g3, g4.sublist List.filter_sublist, fun p hp => g5 p (List.mem_filter.mp hp).1⟩
/-- an end when g is put to f -/
def cf (f g x : Int) : Int := dn g (if x = g then f else x)
def cfP (f g : Int) (p : Int × Int) : Int × Int := (cf f g p.1, cf f g p.2)
def ctL (f g : Int) (es : List (Int × Int)) : List (Int × Int) := srtB SrtO.lexB (keptL (es.map (cfP f g)) [])
theorem nice_ct {n f g : Int} {es : List (Int × Int)} (hg : Nice n es) (h0 : 0 ≤ f) (h1 : f < g) (h2 : g < n) : Nice (n - 1) (ctL f g es) := by
  obtain ⟨g1, g2, g3, g4, g5⟩ := hg
  refine nice_kept (by omega) (by omega) (Nat.le_trans keptL_len (by simpa using g3)) fun p hp => ?_
  obtain ⟨q, hq, rfl⟩ := List.mem_map.mp hp
  have := g5 q hq
  have key : ∀ x, 0 ≤ x → x < n → 0 ≤ cf f g x ∧ cf f g x < n - 1 := fun x x0 x1 => by
    unfold cf
    by_cases e : x = g
    · rw [if_pos e]; exact dn_rg h0 (by omega) (by omega) (by omega) h2
    · rw [if_neg e]; exact dn_rg x0 x1 e (by omega) h2
  have a := key q.1 (by omega) (by omega)
  have b := key q.2 (by omega) (by omega)
  exact ⟨a.1, a.2, b.1, b.2⟩
theorem inP_vp {v : Int} {p : Int × Int} : inP (.int v) (pairD p) = some (.bool (decide (p.1 = v ∨ p.2 = v))) := by
  have h := inP_t (x := .int v) (ys := [.int p.1, .int p.2]) shp_int (shp_pair (p := p))
  rw [show pairD p = .tuple [.int p.1, .int p.2] from rfl, h]
  simp [eqv_int]
theorem notInP_vp {v : Int} {p : Int × Int} : notInP (.int v) (pairD p) = some (.bool (decide (p.1 ≠ v ∧ p.2 ≠ v))) := by
  unfold notInP
  rw [inP_vp]
  simp [notP]
/-! the dict of edges -/
def kP (p : Int × Int) : List Key := [.inl p.1, .inl p.2]
def dKs (ps : List (Int × Int)) : List (PyData × PyData) := ps.map fun p => (pairD p, .bool true)
theorem unK_pair {p : Int × Int} : unK (pairD p) = none := rfl
theorem unT_pair {p : Int × Int} : unT (pairD p) = some (kP p) := rfl
theorem kP_inj {p q : Int × Int} : kP p = kP q ↔ p = q := by
  constructor
  · intro h
    simp only [kP, List.cons.injEq, Sum.inl.injEq, and_true] at h
    exact Prod.ext h.1 h.2
  · rintro rfl; rfl
theorem asT_dKs : ∀ ps : List (Int × Int), asT (dKs ps) = some (ps.map fun p => (kP p, .bool true))
  | [] => rfl
  | p :: ps => by
    show (match unT (pairD p), asT (dKs ps) with
      | some k, some l => some ((k, PyData.bool true) :: l)
      | _, _ => none) = _
    rw [unT_pair, asT_dKs ps]
    rfl
theorem dput_pairs {ps : List (Int × Int)} {q : Int × Int} (hl : ps.length < 1000000) : dputP (dKs ps) (pairD q) (.bool true) = some (dKs (if q ∈ ps then ps else ps ++ [q])) := by
  unfold dputP
  rw [if_pos (by unfold dKs; rw [List.length_map]; exact hl), unK_pair]
  simp only
  rw [unT_pair]
  simp only
  rw [asT_dKs]
  simp only [Option.map_some, Option.some.injEq]
  have ha : ((ps.map fun p => ((kP p, .bool true) : List Key × PyData)).any fun p => decide (p.1 = kP q)) = decide (q ∈ ps) := by
    rw [List.any_map]
    induction ps with
    | nil => simp
    | cons p ps ih =>
      simp only [List.length_cons] at hl
      simp only [List.any_cons, ih (by omega), Function.comp_apply, kP_inj]
      by_cases h : p = q
      · simp [h]
      · have h' : ¬ q = p := fun e => h e.symm
        simp [h, h']
  unfold putG
  rw [ha]
  by_cases h : q ∈ ps
  · rw [if_pos (decide_eq_true h), if_pos h]
    unfold ofT dKs
    rw [List.map_map, List.map_map]
    refine List.map_congr_left fun p hp => ?_
    by_cases e : p = q
    · subst e; simp; rfl
    · have e2 : ¬ kP p = kP q := fun z => e (kP_inj.mp z)
      simp [e2]; rfl
  · rw [if_neg (by simpa using h), if_neg h]
    unfold ofT dKs
    simp
    exact ⟨fun _ _ _ => rfl, rfl⟩
theorem sortP_dict {ps : List (Int × Int)} : sortP (.dict (dKs ps)) = some (.list ((srtB SrtO.lexB ps).map pairD)) := by
  have e : ((dKs ps).map fun (p : PyData × PyData) => p.1) = ps.map pairD := by unfold dKs; rw [List.map_map]; rfl
  show (match getIs ((dKs ps).map fun (p : PyData × PyData) => p.1) with
    | some is => some (PyData.list ((srtB ltI is).map .int))
    | none => (getPs ((dKs ps).map fun (p : PyData × PyData) => p.1)).map fun ps => .list ((srtB SrtO.lexB ps).map pairD)) = _
  rw [e]
  cases ps with
  | nil => rfl
  | cons p ps =>
    rw [getPs_map]
    rfl
theorem strict_ext {ps qs : List (Int × Int)} (h1 : ps.Pairwise fun p q => SrtO.lexB p q = true) (h2 : qs.Pairwise fun p q => SrtO.lexB p q = true) (h : ∀ q, q ∈ ps ↔ q ∈ qs) : ps = qs := by
  have p : ps.Perm qs := (List.perm_ext_iff_of_nodup (strict_nodup h1) (strict_nodup h2)).mpr h
  exact srt_uniq tot_pair (h1.imp fun {p q} hpq => tot_pair.asym _ _ hpq) (h2.imp fun {p q} hpq => tot_pair.asym _ _ hpq) p
def nbL (v : Int) (es : List (Int × Int)) : List Int := srtB ltI ((es.filter fun p => decide (p.1 = v ∨ p.2 = v)).map fun p => p.1 + p.2 - v)
theorem getIs_map : ∀ l : List Int, getIs (l.map .int) = some l
  | [] => rfl
  | i :: l => by
    show (match getIs (l.map .int) with
      | some is => some (i :: is)
      | none => none) = _
    rw [getIs_map l]
theorem sortP_ints {l : List Int} : sortP (.list (l.map .int)) = some (.list ((srtB ltI l).map .int)) := by
  show (match getIs (l.map .int) with
    | some is => some (PyData.list ((srtB ltI is).map .int))
    | none => _) = _
  rw [getIs_map]
theorem mem_nb {v x : Int} {es : List (Int × Int)} : x ∈ nbL v es ↔ (v, x) ∈ es ∨ (x, v) ∈ es := by
  unfold nbL
  rw [(srtB_perm _).mem_iff, List.mem_map]
  constructor
  · rintro ⟨p, hp, rfl⟩
    obtain ⟨h1, h2⟩ := List.mem_filter.mp hp
    rcases of_decide_eq_true h2 with h | h
    · refine .inl ?_
      have : p = (v, p.1 + p.2 - v) := Prod.ext h (by simp; omega)
      rw [← this]; exact h1
    · refine .inr ?_
      have : p = (p.1 + p.2 - v, v) := Prod.ext (by simp; omega) h
      rw [← this]; exact h1
  · rintro (h | h)
    · exact ⟨_, List.mem_filter.mpr ⟨h, by simp⟩, by simp; omega⟩
    · exact ⟨_, List.mem_filter.mpr ⟨h, by simp⟩, by simp⟩
theorem nb_len {v : Int} {es : List (Int × Int)} : (nbL v es).length ≤ es.length := by
  unfold nbL
  rw [(srtB_perm _).length_eq, List.length_map]
  exact List.length_filter_le _ _
theorem mem_kept {ps : List (Int × Int)} {q : Int × Int} : q ∈ srtB SrtO.lexB (keptL ps []) ↔ ∃ p ∈ ps, p.1 ≠ p.2 ∧ q = normP p := by
  rw [(srtB_perm _).mem_iff, keptL_mem]
  simp
theorem normP_dn {g : Int} {p : Int × Int} (h1 : p.1 ≠ g) (h2 : p.2 ≠ g) : normP (dnP g p) = dnP g (normP p) := by
  unfold normP dnP
  by_cases h : p.1 < p.2
  · rw [if_pos h, if_pos (dn_lt h h1 h2)]
  · rw [if_neg h, if_neg]
    intro z
    simp only at z
    unfold dn at z
    split at z <;> split at z <;> omega
theorem normP_swap {a b : Int} (h : a ≠ b) : normP (a, b) = normP (b, a) := by
  unfold normP
  simp only
  split <;> split <;> first | rfl | omega
theorem eqv_nilT {xs : List PyData} : PyData.eqv (.tuple xs) (.tuple []) = xs.isEmpty := by
  cases xs <;> simp [PyData.eqv, PyData.eqvAll]
theorem neP_nilT {ps : List (Int × Int)} : neP (.tuple (ps.map pairD)) (.tuple []) = some (.bool (!ps.isEmpty)) := by
  rw [neP_s shp_pairsT (shp_tuple (n := 0) (xs := []) (by simp)), eqv_nilT]
  simp
end Lk
namespace Lk
open PySem PySem.Spec PyProof.Rows L2
variable {X : Cx} {Z : ClT} {W : WX} {φ φ1 φ' : List Nat} {a : Expr} {p pos pos2 : Pos} {ta : Tm} {fa : M DV} {σ : L2.St} {H : Hp} {L : List Root} {hs : List Held}
def rgT (x y : Option DV) : Option DV := (rgD x y).bind fun d => match d with
  | .d (.list xs) => some (.d (.tuple xs))
  | _ => none
def rg1T (ta : Tm) (fa : M DV) : M DV := fun env => (fa env).bind fun d e => .ofO (rgT (some (.d (.int 0))) (ta.now d e)) e
theorem rgT_some {x y : Option DV} {r : DV} (h : rgT x y = some r) : ∃ a b, x = some (.d (.int a)) ∧ y = some (.d (.int b)) ∧ rgOk a b = true ∧ r = .d (.tuple (rgP a b)) := by
  unfold rgT at h
  obtain ⟨d, q, h⟩ := Option.bind_eq_some_iff.mp h
  obtain ⟨a, b, e1, e2, h3, rfl⟩ := rgD_some q
  cases h
  exact ⟨a, b, e1, e2, h3, rfl⟩
theorem rgT_end {a b : Int} {Q : VK} {q : Addr} {e : Ev} (S : Stt X.K Z φ' e hs σ H L) (hq : H q = none) (h : ∀ v H', Stt X.K Z φ' e [⟨.v 9, .d (.tuple (rgP a b)), v⟩] σ H' L → Q v H') : Q (.ref q) (upd H q (.tup (rgV a b))) := by
  obtain ⟨ns, e1, e2⟩ := rgP_eq a b
  rw [e1] at h
  rw [e2]
  have S2 : Sim X.K Z H (kids 8 (ns.map .int) (ns.map V.int) ++ (roots φ' e σ ++ L)) := kids_scal 8 (S.sim.sub (List.sublist_append_right _ _))
  refine h _ _ ⟨Sim.mkT (n := 8) S2 (by simp) hq, S.al, fun x hx => ?_⟩
  rw [List.mem_singleton.mp hx]; trivial
theorem gTupRg1 {x xr : Str} {pr : Pos} (hm : X.mg x = none) (mr : X.mg xr = none) (ha : JE X Z W φ a φ1 ta fa) (hc : X.calm = true := by rfl) (ex : x = "tuple" := by rfl) (er : xr = "range" := by rfl) (hg : Gl X x := by rfl) (gr : Gl X xr := by rfl) (hs : noStar a = true := by rfl) :
    JE X Z W φ (.Call (.Name x p) [.Call (.Name xr pr) [a] [] pos2] [] pos) φ1 (.v 9) (rg1T ta fa) := by
  subst ex; subst er
  refine pe_imp (pe_tupRg hc hg hm (prg_1 gr mr ha (star_eq hs))) fun σ H Q ⟨L, env, S, h⟩ => ?_
  refine rdE.go S (h.bind.mono fun d e1 h1 v H1 S1 => ?_)
  obtain ⟨r, q, h2⟩ := h1.ofO
  obtain ⟨i, n, ei, q2, hr, rfl⟩ := rgT_some q
  cases ei
  exact ⟨n, S1.isI (h := ⟨ta, d, v⟩) List.mem_cons_self q2, rgOk_ok hr, fun q hq => rgT_end S1 hq h2⟩
theorem rg1T_ev {t : Tm} {f : M DV} {e : Ev} : rg1T t f e = (f e).bind fun d e => .ofO (rgT (some (.d (.int 0))) (t.now d e)) e := rfl
@[simp] theorem sat_rg1T {t : Tm} {e : Ev} {QD : DV → Ev → Prop} {X : XQ} : (rg1T t fa e).sat QD X = (fa e).sat (fun d e' => osat (fun r => QD r e') (rgT (some (.d (.int 0))) (t.now d e'))) X := by
  rw [rg1T_ev, sat_bind]; congr 1; funext d e'; rw [sat_ofO]
/-! max, min of a list -/
def maxI : Int → List Int → Int
  | m, [] => m
  | m, i :: is => maxI (if m < i then i else m) is
def minI : Int → List Int → Int
  | m, [] => m
  | m, i :: is => minI (if i < m then i else m) is
theorem maxI_ge : ∀ {m : Int} {is : List Int}, m ≤ maxI m is ∧ ∀ i ∈ is, i ≤ maxI m is
  | m, [] => ⟨Int.le_refl _, fun _ h => nomatch h⟩
  | m, i :: is => by
    unfold maxI
    obtain ⟨h1, h2⟩ := maxI_ge (m := if m < i then i else m) (is := is)
    have a1 : m ≤ (if m < i then i else m) := by split <;> omega
    have a2 : i ≤ (if m < i then i else m) := by split <;> omega
    refine ⟨Int.le_trans a1 h1, fun j hj => ?_⟩
    rcases List.mem_cons.mp hj with e | hj
    · rw [e]; exact Int.le_trans a2 h1
    · exact h2 j hj
theorem maxI_mem : ∀ {m : Int} {is : List Int}, maxI m is ∈ m :: is
  | m, [] => by unfold maxI; simp
  | m, i :: is => by
    unfold maxI
    have h := maxI_mem (m := if m < i then i else m) (is := is)
    rcases List.mem_cons.mp h with h | h
    · rw [h]; split <;> simp
    · simp [h]
theorem minI_le : ∀ {m : Int} {is : List Int}, minI m is ≤ m ∧ ∀ i ∈ is, minI m is ≤ i
  | m, [] => ⟨Int.le_refl _, fun _ h => nomatch h⟩
  | m, i :: is => by
    unfold minI
    obtain ⟨h1, h2⟩ := minI_le (m := if i < m then i else m) (is := is)
    have a1 : (if i < m then i else m) ≤ m := by split <;> omega
    have a2 : (if i < m then i else m) ≤ i := by split <;> omega
    refine ⟨Int.le_trans h1 a1, fun j hj => ?_⟩
    rcases List.mem_cons.mp hj with e | hj
    · rw [e]; exact Int.le_trans h1 a2
    · exact h2 j hj
theorem minI_mem : ∀ {m : Int} {is : List Int}, minI m is ∈ m :: is
  | m, [] => by unfold minI; simp
  | m, i :: is => by
    unfold minI
    have h := minI_mem (m := if i < m then i else m) (is := is)
    rcases List.mem_cons.mp h with h | h
    · rw [h]; split <;> simp
    · simp [h]
def maxLP : PyData → Option PyData
  | .list xs => match getIs xs with
    | some (i :: is) => some (.int (maxI i is))
    | _ => none
  | _ => none
def minLP : PyData → Option PyData
  | .list xs => match getIs xs with
    | some (i :: is) => some (.int (minI i is))
    | _ => none
  | _ => none
theorem cd_maxL (hc : X.calm = true) : CallD X Z (.builtin "max") (oneD maxLP) 9 9 := cd_one fun pins s σ H v us Q p r R n I rv S m hn hg hq => by
  unfold maxLP at hg
  split at hg
  · rename_i xs
    cases q : getIs xs with
    | none => rw [q] at hg; cases hg
    | some bs =>
      rw [q] at hg
      cases bs with
      | nil => cases hg
      | cons b bs =>
        cases hg
        obtain ⟨a, vs, G, rfl, h1, h2⟩ := S.listOf m
        rw [getIs_eq q] at h2
        refine cr_max hc pins s σ H _ us Q I rv ⟨a, b :: bs, rfl, .of (by rw [h1, h2.ints]), Nat.zero_lt_succ _, fun m hm hy => ?_⟩
        obtain ⟨g1, g2⟩ := maxI_ge (m := b) (is := bs)
        have e1 := hy _ (maxI_mem (m := b) (is := bs))
        have e2 : m ≤ maxI b bs := by
          rcases List.mem_cons.mp hm with rfl | hm
          · exact g1
          · exact g2 m hm
        rw [show m = maxI b bs by omega]
        exact hq _ _ S.cint
  · cases hg
theorem cd_minL (hc : X.calm = true) : CallD X Z (.builtin "min") (oneD minLP) 9 9 := cd_one fun pins s σ H v us Q p r R n I rv S m hn hg hq => by
  unfold minLP at hg
  split at hg
  · rename_i xs
    cases q : getIs xs with
    | none => rw [q] at hg; cases hg
    | some bs =>
      rw [q] at hg
      cases bs with
      | nil => cases hg
      | cons b bs =>
        cases hg
        obtain ⟨a, vs, G, rfl, h1, h2⟩ := S.listOf m
        rw [getIs_eq q] at h2
        refine cr_min hc pins s σ H _ us Q I rv ⟨a, b :: bs, rfl, .of (by rw [h1, h2.ints]), Nat.zero_lt_succ _, fun m hm hy => ?_⟩
        obtain ⟨g1, g2⟩ := minI_le (m := b) (is := bs)
        have e1 := hy _ (minI_mem (m := b) (is := bs))
        have e2 : minI b bs ≤ m := by
          rcases List.mem_cons.mp hm with rfl | hm
          · exact g1
          · exact g2 m hm
        rw [show m = minI b bs by omega]
        exact hq _ _ S.cint
  · cases hg
end Lk
namespace Lk
open PySem PySem.Spec PyProof.Rows L2
variable {X : Cx} {Z : ClT}
def neQ (x y : PyData) : Option PyData := match x, y with
  | .tuple xs, .tuple [] => some (.bool (!xs.isEmpty))
  | x, y => neP x y
def eqQ (x y : PyData) : Option PyData := match x, y with
  | .tuple xs, .tuple [] => some (.bool xs.isEmpty)
  | x, y => eqP x y
@[simp] theorem neQ_t {xs : List PyData} : neQ (.tuple xs) (.tuple []) = some (.bool (!xs.isEmpty)) := by cases xs <;> rfl
@[simp] theorem eqQ_t {xs : List PyData} : eqQ (.tuple xs) (.tuple []) = some (.bool xs.isEmpty) := by cases xs <;> rfl
theorem neQ_no {x : PyData} (h : ∀ xs, x ≠ .tuple xs) (y : PyData) : neQ x y = neP x y := by
  unfold neQ
  split
  · exact absurd rfl (h _)
  · rfl
theorem eqQ_no {x : PyData} (h : ∀ xs, x ≠ .tuple xs) (y : PyData) : eqQ x y = eqP x y := by
  unfold eqQ
  split
  · exact absurd rfl (h _)
  · rfl
theorem emp_len {α β : Type} {a : List α} {b : List β} (h : a.length = b.length) : a.toArray.isEmpty = b.isEmpty := by
  cases a <;> cases b <;> simp_all
theorem tup_ne {A : Around} {s : Shared} {l b : Addr} {items : Array Value} (hl : s.heap.IsTuple l items) (hb : s.heap.IsTuple b #[]) (hu : A.units < cLine) : SeqAt.RcNeAt A s (.ref l) (.ref b) (!items.isEmpty) := by
  have := SeqAt.RcNeAt.tuples (e := fun _ => true) hl hb hu (fun j _ h2 => absurd h2 (Nat.not_lt_zero j))
  have e : (!((List.range (min items.size (#[] : Array Value).size)).all (fun _ => true) && items.size == (#[] : Array Value).size)) = !items.isEmpty := by
    cases h : items.isEmpty <;> simp_all
  rw [e] at this
  exact this
theorem tup_eq {A : Around} {s : Shared} {l b : Addr} {items : Array Value} (hl : s.heap.IsTuple l items) (hb : s.heap.IsTuple b #[]) (hu : A.units < cLine) : SeqAt.RcAt A s (.ref l) (.ref b) items.isEmpty := by
  have := SeqAt.RcAt.tuples (e := fun _ => true) hl hb hu (fun j _ h2 => absurd h2 (Nat.not_lt_zero j))
  have e : ((List.range (min items.size (#[] : Array Value).size)).all (fun _ => true) && items.size == (#[] : Array Value).size) = items.isEmpty := by
    cases h : items.isEmpty <;> simp_all
  rw [e] at this
  exact this
theorem op_neQQ (hu : X.A.units + 64 < cLine) : OpD X Z (compareOp .NotEq) (lift2 neQ) 9 9 := opd_lift fun pins s σ H x y v u Q p q r R n m I rx ry S h1 h2 hn hm hg hq => by
  unfold neQ at hg
  split at hg
  · rename_i xs
    cases hg
    obtain ⟨a, vs, rfl, hT, hl⟩ := S.seeT h1
    obtain ⟨b, us, rfl, hT2, hl2⟩ := S.seeT h2
    cases rx
    cases ry
    obtain ⟨its, r1, i1, _⟩ := I.tuple hT
    obtain ⟨its2, r2, i2, _⟩ := I.tuple hT2
    have e2 : its2 = [] := by
      have := r2.length
      cases its2 with
      | nil => rfl
      | cons _ _ =>
        have hz : us.length = 0 := hl2.symm
        rw [hz] at this; cases this
    subst e2
    have e1 : its.toArray.isEmpty = xs.isEmpty := by
      have a1 := r1.length
      exact emp_len (by omega)
    have := tup_ne (A := X.A) i1 i2 (by omega)
    rw [e1] at this
    exact this X.prog X.w _ _ ⟨.bl _, H, I, rfl, hq _ _ S.cbl⟩
  · exact op_neDD hu pins s σ H x y v u Q I rx ry ⟨R, .d p, .d q, n, m, .d r, S, h1, h2, hn, hm, by show (neP p q).map DV.d = _; rw [hg]; rfl, hq⟩
theorem op_eqQQ (hu : X.A.units + 64 < cLine) : OpD X Z (compareOp .Eq) (lift2 eqQ) 9 9 := opd_lift fun pins s σ H x y v u Q p q r R n m I rx ry S h1 h2 hn hm hg hq => by
  unfold eqQ at hg
  split at hg
  · rename_i xs
    cases hg
    obtain ⟨a, vs, rfl, hT, hl⟩ := S.seeT h1
    obtain ⟨b, us, rfl, hT2, hl2⟩ := S.seeT h2
    cases rx
    cases ry
    obtain ⟨its, r1, i1, _⟩ := I.tuple hT
    obtain ⟨its2, r2, i2, _⟩ := I.tuple hT2
    have e2 : its2 = [] := by
      have := r2.length
      cases its2 with
      | nil => rfl
      | cons _ _ =>
        have hz : us.length = 0 := hl2.symm
        rw [hz] at this; cases this
    subst e2
    have e1 : its.toArray.isEmpty = xs.isEmpty := by
      have a1 := r1.length
      exact emp_len (by omega)
    have := tup_eq (A := X.A) i1 i2 (by omega)
    rw [e1] at this
    exact this X.prog X.w _ _ ⟨.bl _, H, I, rfl, hq _ _ S.cbl⟩
  · exact op_eqDD hu pins s σ H x y v u Q I rx ry ⟨R, .d p, .d q, n, m, .d r, S, h1, h2, hn, hm, by show (eqP p q).map DV.d = _; rw [hg]; rfl, hq⟩
end Lk
namespace Lk
open PySem PySem.Spec L2
open PyProof.Rows (envOfC)
section
variable {K : PySem.W.Frag} {Z : ClT} {H H' : Hp} {R : List Root}
theorem Sim.mkO {c : Nat} {x dx C : Addr} {f : Str} {g : PyData} {v : V} (h : Sim K Z H (⟨0, .d g, v⟩ :: R)) (hZ : Z c = some C) (hx : H x = none) (hdx : H dx = none) (ne : dx ≠ x) :
    Sim K Z (upd (upd H dx (.own x)) x (.ins C dx [(f, v)])) (⟨0, .o c [(f, g)], .ref x⟩ :: R) := by
  have gr : ∀ a o, H a = some o → upd (upd H dx (.own x)) x (.ins C dx [(f, v)]) a = some o := fun a o e => by
    rw [upd_ne (ne_of_none e hx), upd_ne (ne_of_none e hdx)]; exact e
  obtain ⟨F, hF, o⟩ := h
  have th := hF.there
  obtain ⟨G, F1, hd, hF1, rfl⟩ := hF.grow gr
  cases hd with
  | d hd =>
    refine ⟨(x, false) :: (tag 0 G ++ F1), ⟨(x, 0) :: up G, F1, .o hZ upd_same rfl (DenL.one hd), hF1, ?_⟩, ?_⟩
    · rw [tag_cons, tag_up]; rfl
    · refine List.pairwise_cons.mpr ⟨fun y hy z => ?_, o⟩
      obtain ⟨o', e'⟩ := th y hy
      have z : x = y.1 := z
      rw [← z, hx] at e'
      cases e'
theorem Sim.mkF {i c : Nat} {q a g : Addr} {fs : List (Str × PyData)} (h : Sim K Z H (⟨0, .o c fs, .ref a⟩ :: R)) (hZ : Z (300 + i) = some g) (hq : H q = none) :
    Sim K Z (upd H q (.met g a)) (⟨0, .f i c fs, .ref q⟩ :: R) := by
  have gr : ∀ b o, H b = some o → upd H q (.met g a) b = some o := grow_upd hq
  obtain ⟨F, hF, o⟩ := h
  have th := hF.there
  obtain ⟨G, F1, hd, hF1, rfl⟩ := hF.grow gr
  cases hd with
  | @o _ C1 _ dx1 _ gs1 G h1 h2 h3 h4 =>
    refine ⟨(q, false) :: (tag 0 ((a, 0) :: up G) ++ F1), ⟨(q, 0) :: (a, 0) :: up G, F1, .f ⟨hZ, h1⟩ upd_same h2 h3 h4, hF1, ?_⟩, ?_⟩
    · rw [tag_cons]; rfl
    · refine List.pairwise_cons.mpr ⟨fun y hy z => ?_, o⟩
      obtain ⟨o', e'⟩ := th y hy
      have z : q = y.1 := z
      rw [← z, hq] at e'
      cases e'
theorem Sim.ofF {i c : Nat} {fs : List (Str × PyData)} {v : V} (h : Sim K Z H R) (hr : (⟨0, .f i c fs, v⟩ : Root) ∈ R) :
    ∃ q g a, v = .ref q ∧ H q = some (.met g a) ∧ Z (300 + i) = some g ∧ Sim K Z H (⟨0, .o c fs, .ref a⟩ :: R) := by
  obtain ⟨F, hF, o⟩ := id h
  obtain ⟨G, hd, hm⟩ := hF.mem hr
  cases hd with
  | @f _ _ g C q a dx _ gs G h1 h2 h3 h4 h5 =>
    refine ⟨q, g, a, rfl, h2, h1.1, tag 0 ((a, 0) :: up G) ++ F, ⟨(a, 0) :: up G, F, .o h1.2 h3 h4 h5, hF, rfl⟩, o.more fun p hp => ?_⟩
    refine tag0_in (n := 0) (G := (q, 0) :: (a, 0) :: up G) hm (fun _ _ => Nat.zero_le _) p ?_
    rw [tag_cons]
    exact List.mem_cons_of_mem _ hp
theorem look_rel {f : Str} {d : PyData} : ∀ {fs : List (Str × PyData)} {gs : List (Str × V)} {G : Ft}, gs.map (·.1) = fs.map (·.1) → DenL K H (fs.map (·.2)) (gs.map (·.2)) G → fs.lookup f = some d →
    ∃ w G1 G0 G2, gs.lookup f = some w ∧ Den K H d w G1 ∧ G = G0 ++ (G1 ++ G2)
  | [], _, _, _, _, h => by cases h
  | (n, x) :: fs, [], _, e, _, _ => by cases e
  | (n, x) :: fs, (m, w) :: gs, _, e, hd, h => by
    simp only [List.map_cons, List.cons.injEq] at e
    obtain ⟨e1, e2⟩ := e
    have e1 : m = n := e1
    subst e1
    have hd : DenL K H (x :: fs.map (·.2)) (w :: gs.map (·.2)) _ := hd
    cases hd with
    | @cons _ _ _ _ G G' h1 h2 =>
      rw [List.lookup_cons] at h ⊢
      cases q : f == m with
      | true =>
        rw [q] at h
        cases h
        exact ⟨w, G, [], G', rfl, h1, rfl⟩
      | false =>
        rw [q] at h
        obtain ⟨w', G1, G0, G2, a1, a2, a3⟩ := look_rel e2 h2 h
        exact ⟨w', G1, G ++ G0, G2, a1, a2, by rw [a3, List.append_assoc]⟩
theorem Sim.fld {n c : Nat} {fs : List (Str × PyData)} {v : V} {f : Str} {d : PyData} (h : Sim K Z H R) (hr : (⟨n, .o c fs, v⟩ : Root) ∈ R) (hn : n ≤ 1) (l : fs.lookup f = some d) :
    ∃ a C dx gs w, v = .ref a ∧ H a = some (.ins C dx gs) ∧ Z c = some C ∧ gs.lookup f = some w ∧ Sim K Z H (⟨0, .d d, w⟩ :: R) := by
  obtain ⟨F, hF, o⟩ := id h
  obtain ⟨G, hd, hm⟩ := hF.mem hr
  cases hd with
  | @o _ C a dx _ gs G h1 h2 h3 h4 =>
    obtain ⟨w, G1, G0, G2, a1, a2, rfl⟩ := look_rel h3 h4 l
    refine ⟨a, C, dx, gs, w, rfl, h2, h1, a1, tag 0 G1 ++ F, ⟨G1, F, .d a2, hF, rfl⟩, o.more fun p hp => ?_⟩
    have q' : ∀ p ∈ tag n (up (G0 ++ (G1 ++ G2))), p ∈ F := fun p hp => hm p (by rw [tag_cons]; exact List.mem_cons_of_mem _ hp)
    refine tag0_in (G := up (G0 ++ (G1 ++ G2))) q' (fun p hp => Nat.le_trans hn (mem_up hp)) p ?_
    rw [tag0_up, tag_append, tag_append]
    exact List.mem_append_right _ (List.mem_append_left _ hp)
end
/-! ### a field of a slot's instance -/
def fldS (i : Nat) (f : Str) : M DV := fun e => match slot e i with
  | some (.o c fs) => (match fs.lookup f with
    | some d => if 200 ≤ c ∧ c < 300 then .ok (.d d) e else .bad
    | none => .bad)
  | _ => .bad
def FldOk (K : PySem.W.Frag) (Z : ClT) (f : Str) : Prop := ∀ c C, 200 ≤ c → c < 300 → Z c = some C → Cls K C ∧ NoAttr K C f
def mkOM (c : Nat) (fl : Str) (fa : M DV) : M DV := fun env => (fa env).bind fun d e => match dataOf d with
  | some g => .ok (.o c [(fl, g)]) e
  | none => .bad
def bndM (i c0 : Nat) (m : Str) (fo : M DV) : M DV := fun env => (fo env).bind fun d e => match d with
  | .o c fs => if c = c0 ∧ (fs.lookup m).isNone = true then .ok (.f i c fs) e else .bad
  | _ => .bad
/-- a slot's method called with one operand -/
def callS (i : Nat) (F : Nat → List DV → Res) (fa : M DV) : M DV := fun env => match slot env i with
  | some (.f m0 _ _) => if m0 < 100 then (fa env).bind fun d e => (match slot e i with
    | some (.f m c fs) => if m = m0 then (match F m [.o c fs, d] with
      | .ok r [] => .ok r e
      | .ex c g => .ex c g e
      | _ => .bad) else .bad
    | _ => .bad) else .bad
  | _ => .bad
section
variable {X : Cx} {Z : ClT} {W : WX} {φ φ1 : List Nat} {t : Tm} {fa : M DV} {a : Expr} {pos p : Pos} {x : Str} {k : Nat}
theorem je_fldS {i n : Nat} {f : Str} (hN : X.N[i]? = some x) (hv : Vis X.env.scope x) (hdb : (x == ("__debug__" : Str)) = false) (hcd : (x == ("__classdict__" : Str)) = false) (hφ : φ[i]? = some n) (hn : n ≤ 1) (hc : FldOk X.K Z f)
    (hb : attributeBase (.Name x p) f X.env (eval (.Name x p) X.env) = eval (.Name x p) X.env) : JE X Z W φ (.Attribute (.Name x p) f pos) φ (.v 0) (fldS i f) := by
  refine pe_imp (pe_fld (pe_var hN hv hdb hcd) hb) fun σ H Q ⟨L, env, S, h⟩ => ?_
  unfold fldS at h
  cases q : slot env i with
  | none => rw [q] at h; exact h.elim
  | some d =>
    rw [q] at h
    cases d with
    | o c fs =>
      simp only at h
      cases ql : fs.lookup f with
      | none => rw [ql] at h; exact h.elim
      | some d =>
        rw [ql] at h
        simp only at h
        by_cases hcc : 200 ≤ c ∧ c < 300
        · rw [if_pos hcc] at h
          obtain ⟨n', v, h1, h2, hp⟩ := S.al.get q
          rw [hφ] at h1; cases h1
          have hm : (⟨n, .o c fs, v⟩ : Root) ∈ hrts [] ++ (roots φ env σ ++ L) := List.mem_append_right _ (List.mem_append_left _ (hp.mem_iff.mpr List.mem_cons_self))
          obtain ⟨a, C, dx, gs, w, rfl, e1, e2, e3, S2⟩ := S.sim.fld hm hn ql
          obtain ⟨c1, c2⟩ := hc c C hcc.1 hcc.2 e2
          refine ⟨.ref a, h2, a, C, dx, gs, w, rfl, e1, c1, c2, e3, h w H ⟨S2, S.al, fun y hy => ?_⟩⟩
          rw [List.mem_singleton.mp hy]; trivial
        · rw [if_neg hcc] at h; exact h.elim
    | _ => exact h.elim
/-- the reading of __init__: self.fl = y -/
def spIn1 (C : Addr) (fl : Str) : Sp := fun vs H Q _ => ∃ (a : Addr) (y : V) (dx : Addr), vs = [.ref a, y] ∧ H a = some (.ins C dx []) ∧ Q .non (upd H a (.ins C dx [(fl, y)]))
theorem fn_in1 {P : Program} {w : World} {K : PySem.W.Frag} {mg : Str → Option Value} {base : Heap} {f C : Addr} {name qual y fl : Str} {params : Arguments} {scope : Scope} {dV kV doc pm cdv ct oc : Value} {an od : Option Addr} {osl : Array (Option Value)} {k : Nat} {p5 p6 p7 p8 : Pos}
    (lk : K.lookup f = some ⟨oc, od, .func (PySem.W.fnOf name qual params [.Assign [.Attribute (.Name "self" p5) fl p6] (.Name y p7) p8] scope dV kV doc pm an cdv ct), osl⟩) (hcd : PySem.W.codeIn K cdv qual = true) (S : FnScope ["self", y] ["self", y] scope)
    (v0 : Vis scope "self") (v1 : Vis scope y) (hdb : (y == ("__debug__" : Str)) = false) (hcdt : (y == ("__classdict__" : Str)) = false) (c : Cls K C) (na : NoAttr K C fl) (hsw : ∀ (L f : Addr) (cd : Value), swapsWith (.Name y p7) (some (.Attribute (.Name "self" p5) fl p6)) p8.line (envOfC qual scope L f cd) = pure false) :
    FnOk P w K mg base (L2.CX P w) (k + 1) f (PySem.W.fnOf name qual params [.Assign [.Attribute (.Name "self" p5) fl p6] (.Name y p7) p8] scope dV kV doc pm an cdv ct) ["self", y] (spIn1 C fl) := by
  refine fn_of lk hcd S (fun vs H Q E ⟨a, z, dx, e, _⟩ => by rw [e]; rfl) fun A outer s H vs Q E hr ⟨a, z, dx, e, ea, hq⟩ => ?_
  subst e
  refine ⟨_, pss_one (ps_fld (pe_var (i := 0) rfl v0) (pe_var (i := 1) rfl v1 hdb hcdt) (hsw _ _ _)), z, rfl, .ref a, rfl, a, C, dx, [], rfl, ea, c, na, by decide, hq⟩
theorem je_mkO {C fI : Addr} {fd : FuncData} {fl pnm : Str} {c : Nat} (Mk0 : Mk X.K C fI) (F1 : FnOk X.prog X.w X.K X.mg X.base (L2.CX X.prog X.w) k fI fd ["self", pnm] (spIn1 C fl)) (hr : Room (k + 1) X.A) (hb : Binds X.K fd ["self", pnm] []) (tk : Takes X W) (hg : Gl X x) (hm : X.mg x = some (.ref C)) (hZ : Z c = some C)
    (ha : JE X Z W φ a φ1 (.v 0) fa) (hs : noStar a = true) (hdb : (x == ("__debug__" : Str)) = false) : JE X Z W φ (.Call (.Name x p) [a] [] pos) φ1 (.v 0) (mkOM c fl fa) := by
  refine pe_imp (pe_make (CX := L2.CX X.prog X.w) (dvs := []) (ds := []) (E := fun _ _ _ => False) Mk0 F1 hr hg hm hb .nil (passes_call tk fun _ _ _ _ z => z.elim) (pa_cons ha pa_nil (star_eq hs)) hdb (star_eq hs) (by rfl)) fun σ H Q ⟨L, env, S, h⟩ => ?_
  refine rdE.go S (h.bind.mono fun d e' h v H' s => ?_)
  cases q0 : dataOf d with
  | none => rw [q0] at h; exact h.elim
  | some g =>
    rw [q0] at h
    obtain rfl := dataOf_some q0
    refine fun x dx hx hdx ne => ⟨x, v, dx, rfl, upd_same, rfl, ?_⟩
    have h : ∀ v H', Stt X.K Z φ1 e' [⟨.v 0, .o c [(fl, g)], v⟩] σ H' L → Q v H' := h
    refine h _ _ ⟨?_, s.al, fun y hy => ?_⟩
    · have s0 : Sim X.K Z H' (⟨0, .d g, v⟩ :: (roots φ1 e' σ ++ L)) := s.sim
      have s1 := s0.mkO (f := fl) hZ hx hdx ne
      have eu : upd (upd (upd H' dx (.own x)) x (.ins C dx [])) x (.ins C dx [(fl, v)]) = upd (upd H' dx (.own x)) x (.ins C dx [(fl, v)]) := upd_upd
      rw [eu]
      exact s1
    · rw [List.mem_singleton.mp hy]; trivial
theorem je_bnd {C g : Addr} {m : Str} {i c0 : Nat} (c : Cls X.K C) (b : BMeth X.K C m g) (hZ : Z c0 = some C) (hM : Z (300 + i) = some g) (ha : JE X Z W φ a φ1 (.v 0) fa) (hb : attributeBase a m X.env (eval a X.env) = eval a X.env) :
    JE X Z W φ (.Attribute a m pos) φ1 (.v 0) (bndM i c0 m fa) := by
  refine ⟨fun pins s σ H Q I ⟨L, env, S, h⟩ => ?_⟩
  refine attr_of hb (thn (ha.run pins s σ H (fun v H' => ∃ aa dx gs, v = .ref aa ∧ H' aa = some (.ins C dx gs) ∧ gs.lookup m = none ∧ ∀ q, H' q = none → Q (.ref q) (upd H' q (.met g aa))) I ⟨L, env, S, h.bind.mono fun d e' h9 v H' s => ?_⟩) fun u s1 ⟨v, H1, I1, rv, aa, dx, gs, ev, ea, l, hq⟩ => ?_)
  · clear h
    cases d with
    | o c fs =>
      simp only at h9
      by_cases hcc : c = c0 ∧ (fs.lookup m).isNone = true
      · rw [if_pos hcc] at h9
        obtain ⟨ec, hl⟩ := hcc
        subst ec
        have h5 : ∀ v H', Stt X.K Z φ1 e' [⟨.v 0, .f i c fs, v⟩] σ H' L → Q v H' := h9
        have s0 : Sim X.K Z H' (⟨0, .o c fs, v⟩ :: (roots φ1 e' σ ++ L)) := s.sim
        obtain ⟨G, hd⟩ := s0.den List.mem_cons_self
        cases hd with
        | @o _ C' aa dx _ gs G h1 h2 h3 h4 =>
          rw [hZ] at h1; cases h1
          refine ⟨aa, dx, gs, rfl, h2, ?_, fun q hq => h5 _ _ ⟨s0.mkF hM hq, s.al, fun y hy => ?_⟩⟩
          · cases hg : gs.lookup m with
            | none => rfl
            | some w =>
              have : ∀ {fs : List (Str × PyData)} {gs : List (Str × V)}, gs.map (·.1) = fs.map (·.1) → fs.lookup m = none → gs.lookup m = none := by
                intro fs
                induction fs with
                | nil => intro gs e _; cases gs with
                  | nil => rfl
                  | cons _ _ => cases e
                | cons y fs ih =>
                  intro gs e hn
                  cases gs with
                  | nil => rfl
                  | cons z gs =>
                    obtain ⟨n1, x1⟩ := y
                    obtain ⟨n2, x2⟩ := z
                    simp only [List.map_cons, List.cons.injEq] at e
                    have e1 : n2 = n1 := e.1
                    subst e1
                    rw [List.lookup_cons] at hn ⊢
                    cases q : m == n2 with
                    | true => rw [q] at hn; cases hn
                    | false => rw [q] at hn; exact ih e.2 hn
              rw [this h3 (Option.isNone_iff_eq_none.mp hl)] at hg
              cases hg
          · rw [List.mem_singleton.mp hy]; trivial
      · rw [if_neg hcc] at h9; exact h9.elim
    | _ => exact h9.elim
  · subst ev
    obtain rfl : u = Value.ref aa := rv
    exact getbound_ok I1 ea c b l fun p s' hp I' => ⟨.ref p, _, I', rfl, hq p hp⟩
/-- the methods that a slot may hold -/
def MethsOk (P : Program) (w : World) (K : PySem.W.Frag) (mg : Str → Option Value) (base : Heap) (k : Nat) (Z : ClT) (kr : Nat) (F : Nat → List DV → Res) : Prop :=
  ∀ m g, m < 100 → Z (300 + m) = some g → PySem.W.fnIn K g = true ∧ ((∀ ds, F m ds = .bad) ∨ ∃ (fd : FuncData) (y : Str), Binds K fd ["self", y] [] ∧ FnOkG P w K mg base k g fd ["self", y] (spD K Z [.fz, .fz] kr (F m)))
theorem je_callS {i kr : Nat} {F : Nat → List DV → Res} (G : MethsOk X.prog X.w X.K X.mg X.base k Z kr F) (hr : Room k X.A) (hgd : X.A.guards = some []) (tk : Takes X W) (hN : X.N[i]? = some x) (hv : Vis X.env.scope x) (hdb : (x == ("__debug__" : Str)) = false) (hcd : (x == ("__classdict__" : Str)) = false)
    (ha : JE X Z W φ a φ1 (.v 0) fa) (hφ1 : φ1[i]? = some 0) (hs : noStar a = true) :
    JE X Z W φ (.Call (.Name x p) [a] [] pos) φ1 (.v kr) (callS i F fa) := by
  refine ⟨fun pins s σ H Q I ⟨L, env, S, h⟩ => ?_⟩
  unfold callS at h
  cases q : slot env i with
  | none => rw [q] at h; exact h.elim
  | some d =>
    rw [q] at h
    cases d with
    | f m0 c0 fs0 =>
      simp only at h
      by_cases h100 : m0 < 100
      rotate_left
      · rw [if_neg h100] at h; exact h.elim
      rw [if_pos h100] at h
      have h := h.bind
      obtain ⟨n', v, h1, h2, hp⟩ := S.al.get q
      have hm : (⟨n', .f m0 c0 fs0, v⟩ : Root) ∈ hrts [] ++ (roots φ env σ ++ L) := List.mem_append_right _ (List.mem_append_left _ (hp.mem_iff.mpr List.mem_cons_self))
      obtain ⟨G0, hd0⟩ := S.sim.den hm
      obtain ⟨q1, ev1⟩ : ∃ q1, v = .ref q1 := by cases hd0 with | f => exact ⟨_, rfl⟩
      refine wpAny_Call_Name_kw (thn ((pe_var (pos := p) (i := i) hN hv hdb hcd).run pins s σ H (fun v' H1 => v' = v ∧ H1 = H) I ⟨v, h2, rfl, rfl⟩) fun u s1 ⟨v', H1, J1, r1, ev, eG⟩ => ?_)
      subst ev; subst eG; subst ev1
      obtain rfl : u = Value.ref q1 := r1
      obtain ⟨g, a1, e1⟩ : ∃ g a1, H1 q1 = some (.met g a1) := by cases hd0 with | f _ z => exact ⟨_, _, z⟩
      have e2 : Z (300 + m0) = some g := by
        cases hd0 with
        | f z1 z2 => rw [e1] at z2; cases z2; exact z1.1
      obtain ⟨hfn, _⟩ := G m0 g h100 e2
      have hp := (pa_cons ha pa_nil (star_eq hs)).run pos pins s1 σ H1 (fun vs H' => ∃ w a' e' d c fs m, vs = [w] ∧ m < 100 ∧ H' q1 = some (.met g a') ∧ Z (300 + m) = some g ∧ Sim X.K Z H' (⟨0, .o c fs, .ref a'⟩ :: ⟨0, d, w⟩ :: (roots φ1 e' σ ++ L)) ∧ Al φ1 e' σ ∧
        Wish X.K Z W L (match F m [.o c fs, d] with
          | .ok r [] => Out.ok r e'
          | .ex c g => .ex c g e'
          | _ => .bad) fun d e' => ∀ v H', Stt X.K Z φ1 e' [⟨.v kr, d, v⟩] σ H' L → Q v H') J1 ⟨L, env, S, h.mono fun d e' h w H' s => ?_⟩
      · rw [star_eq hs] at hp ⊢
        refine PySem.W.callWith_of (P := fun h => ∃ a, PySem.W.MethP X.K q1 g (.ref a) h) (by rfl) (fun h ⟨a, p⟩ => PySem.W.keeps_M hfn h p) ?_
        refine Calls.evalArgs_plain (thn hp fun us s2 ⟨vs, H2, I2, rv, w, a', e', d, c, fs, m, evs, hlt, e3, e4, S3, A3, hw⟩ => ?_)
        subst evs
        cases rv with
        | @cons _ uw _ ur ru rn =>
        cases rn with
        | nil =>
        refine ⟨⟨a', met_P I2 e3⟩, ?_⟩
        obtain ⟨_, Gm⟩ := G m g hlt e4
        rcases Gm with Gm | ⟨fd, y, hbi, Gm⟩
        · rw [Gm] at hw; exact hw.elim
        · have hsp : spD X.K Z [.fz, .fz] kr (F m) [.ref a', w] H2 Q fun cls d H' => W cls d σ H' := by
            refine ⟨roots φ1 e' σ ++ L, [.o c fs, d], rfl, rfl, S3, ?_⟩
            cases qF : F m [.o c fs, d] with
            | bad => rw [qF] at hw; exact hw.elim
            | ex cc g' =>
              rw [qF] at hw
              have hw : XP X.K Z W L cc g' e' := hw
              intro C b v H' z1 z2 z3
              obtain ⟨A4, L4⟩ := A3.less (leN_zeros A3)
              exact hw C b v σ H' z1 z2 (z3.less (.cons ⟨Nat.le_refl _, rfl, rfl⟩ (Less.app L4 (Less.refl L)))) A4
            | ok r outs =>
              rw [qF] at hw
              cases outs with
              | cons _ _ => exact hw.elim
              | nil =>
                have hw : ∀ v H', Stt X.K Z φ1 e' [⟨.v kr, r, v⟩] σ H' L → Q v H' := hw
                intro v H' S4
                refine hw v H' ⟨S4, A3, fun y hy => ?_⟩
                rw [List.mem_singleton.mp hy]; trivial
          have run := Gm.run X.A X.stack s2 H2 ⟨[.ref a', uw], []⟩ [.ref a', uw] [.ref a', w] Q _ hr hgd I2.env0 (hbi s2 [.ref a', uw] I2.kIn rfl) (.cons rfl (.cons ru .nil)) hsp
          refine wpAny_call (call_met I2 e3 (codeAny_mono run fun o s' hq => ?_))
          match o, hq with
          | .error e, hq => exact tk e s' (XE.of_call I2 (fun _ _ _ z => z) hq)
          | .ok (.ret u), hq => exact I2.after hq
          | .ok .next, hq => exact False.elim hq
          | .ok .brk, hq => exact False.elim hq
          | .ok .cont, hq => exact False.elim hq
      · cases q5 : slot e' i with
        | none => rw [q5] at h; exact h.elim
        | some d5 =>
          rw [q5] at h
          cases d5 with
          | f m c fs =>
            simp only at h
            by_cases hmm : m = m0
            rotate_left
            · rw [if_neg hmm] at h; exact h.elim
            rw [if_pos hmm] at h
            have s0 : Sim X.K Z H' (⟨0, d, w⟩ :: (roots φ1 e' σ ++ L)) := s.sim
            obtain ⟨n5, v5, g1, g2, gp⟩ := s.al.get q5
            rw [hφ1] at g1; cases g1
            rw [h2] at g2; cases g2
            have hm5 : (⟨0, .f m c fs, .ref q1⟩ : Root) ∈ ⟨0, d, w⟩ :: (roots φ1 e' σ ++ L) := List.mem_cons_of_mem _ (List.mem_append_left _ (gp.mem_iff.mpr List.mem_cons_self))
            obtain ⟨q6, g6, a6, e6, e7, e8, S6⟩ := s0.ofF hm5
            cases e6
            have hg : g6 = g := by
              rw [hmm, e2] at e8; cases e8; rfl
            subst hg
            exact ⟨w, a6, e', d, c, fs, m, rfl, by omega, e7, e8, S6, s.al, h⟩
          | _ => exact h.elim
    | _ => exact h.elim
end
end Lk
namespace Lk
open PySem PySem.Spec L2
open PyProof.Rows (envOfC)
/-- a class of one field, made by its field -/
structure ClsM (P : Program) (w : World) (K : PySem.W.Frag) (mg : Str → Option Value) (base : Heap) (Z : ClT) (c : Nat) (x fl : Str) : Prop where
  ex : ∃ (C fI : Addr) (fd : FuncData) (y : Str), mg x = some (.ref C) ∧ Z c = some C ∧ Mk K C fI ∧ FnOk P w K mg base (L2.CX P w) 1 fI fd ["self", y] (spIn1 C fl) ∧ Binds K fd ["self", y] []
/-- a method that is handed on -/
structure BndC (K : PySem.W.Frag) (Z : ClT) (c i : Nat) (m : Str) : Prop where
  ex : ∃ C g, Cls K C ∧ BMeth K C m g ∧ Z c = some C ∧ Z (300 + i) = some g
section
variable {X : Cx} {Z : ClT} {W : WX} {φ φ1 : List Nat} {fa : M DV} {a : Expr} {pos p : Pos} {x : Str} {k : Nat}
theorem gFld (i n : Nat) {f : Str} (hc : FldOk X.K Z f) (hφ : φ[i]? = some n := by rfl) (hn : n ≤ 1 := by decide) (hN : X.N[i]? = some x := by rfl) (hv : Vis X.env.scope x := by first | exact Or.inl rfl | exact Or.inr (Or.inl rfl) | exact Or.inr (Or.inr rfl)) (hdb : (x == ("__debug__" : Str)) = false := by decide) (hcd : (x == ("__classdict__" : Str)) = false := by decide)
    (hb : attributeBase (.Name x p) f X.env (eval (.Name x p) X.env) = eval (.Name x p) X.env := by rfl) : JE X Z W φ (.Attribute (.Name x p) f pos) φ (.v 0) (fldS i f) := je_fldS hN hv hdb hcd hφ hn hc hb
theorem gMkO {c : Nat} {fl : Str} {k0 : Nat} (G : ClsM X.prog X.w X.K X.mg X.base Z c x fl) (hr : Room k0 X.A) (tk : Takes X W) (ha : JE X Z W φ a φ1 (.v 0) fa) (hk : 2 ≤ k0 := by first | decide | omega) (hg : Gl X x := by rfl) (hs : noStar a = true := by rfl) (hdb : (x == ("__debug__" : Str)) = false := by decide) :
    JE X Z W φ (.Call (.Name x p) [a] [] pos) φ1 (.v 0) (mkOM c fl fa) := by
  obtain ⟨C, fI, fd, y, h1, h2, h3, h4, h5⟩ := G.ex
  exact je_mkO h3 h4 (hr.mono hk) h5 tk hg h1 h2 ha hs hdb
theorem gBnd {c i : Nat} {m : Str} (G : BndC X.K Z c i m) (ha : JE X Z W φ a φ1 (.v 0) fa) (hb : attributeBase a m X.env (eval a X.env) = eval a X.env := by rfl) : JE X Z W φ (.Attribute a m pos) φ1 (.v 0) (bndM i c m fa) := by
  obtain ⟨C, g, h1, h2, h3, h4⟩ := G.ex
  exact je_bnd h1 h2 h3 h4 ha hb
theorem gCallS (i : Nat) {kr k0 : Nat} {F : Nat → List DV → Res} (G : MethsOk X.prog X.w X.K X.mg X.base k Z kr F) (hr : Room k0 X.A) (hgd : X.A.guards = some []) (tk : Takes X W) (ha : JE X Z W φ a φ1 (.v 0) fa) (hk : k ≤ k0 := by first | decide | omega) (hφ1 : φ1[i]? = some 0 := by rfl) (hs : noStar a = true := by rfl)
    (hN : X.N[i]? = some x := by rfl) (hv : Vis X.env.scope x := by first | exact Or.inl rfl | exact Or.inr (Or.inl rfl) | exact Or.inr (Or.inr rfl)) (hdb : (x == ("__debug__" : Str)) = false := by decide) (hcd : (x == ("__classdict__" : Str)) = false := by decide) :
    JE X Z W φ (.Call (.Name x p) [a] [] pos) φ1 (.v kr) (callS i F fa) := je_callS G (hr.mono hk) hgd tk hN hv hdb hcd ha hφ1 hs
end
/-! ### the looks -/
section
variable {K : PySem.W.Frag} {tl : List Nat} {mg : Str → Option Value}
def clsB (K : PySem.W.Frag) (C : Addr) : Bool := PySem.W.plainGet K C Str.empty && (PySem.W.hasDictIn K C && (PySem.W.plainOver K C && decide (PySem.W.findIn K (.ref C) "__setattr__" = some (some (.builtin "object.__setattr__")))))
theorem clsB_ok {C : Addr} (h : clsB K C = true) : Cls K C := by
  unfold clsB at h
  simp only [Bool.and_eq_true, decide_eq_true_eq] at h
  exact ⟨h.1, h.2.1, h.2.2.1, h.2.2.2⟩
def ownCls : List (Nat × Str) := [(200, "Moves"), (201, "Passes"), (202, "Console")]
def fldB (K : PySem.W.Frag) (f : Str) : Bool := ownCls.all fun p => match PySem.W.nsIn K mainGlobals p.2 with
  | some (some (.ref C)) => clsB K C && decide (PySem.W.findIn K (.ref C) f = some none)
  | _ => true
theorem fldB_ok {f : Str} (h : fldB K f = true) : FldOk K (ZK K tl) f := fun c C h1 h2 hz => by
  unfold ZK at hz
  rw [if_neg (by omega), if_neg (by omega), if_pos (by omega)] at hz
  cases q : clsName c with
  | none => rw [q] at hz; cases hz
  | some y =>
    rw [q] at hz
    simp only at hz
    have hy : PySem.W.nsIn K mainGlobals y = some (some (.ref C)) := by
      split at hz
      · cases hz; assumption
      · cases hz
    have hm : (c, y) ∈ ownCls := by
      unfold clsName at q
      split at q <;> first | (cases q; simp [ownCls]; done) | (cases q; done) | (omega)
    have := List.all_eq_true.mp h _ hm
    simp only at this
    rw [hy] at this
    simp only [Bool.and_eq_true, decide_eq_true_eq] at this
    exact ⟨clsB_ok this.1, this.2⟩
def bmethB (K : PySem.W.Frag) (C : Addr) (m : Str) (g : Addr) : Bool := decide (PySem.W.findIn K (.ref C) m = some (some (.ref g))) && (PySem.W.isFn K (.ref g) && (PySem.W.keepIn K (.ref g) && (decide (PySem.W.specialIn K (.ref g) "__get__" = some (some (.builtin "function.__get__"))) &&
  (decide (PySem.W.takesIn K (.ref g) = some false) && (!PySem.W.copiedNames.contains m && PySem.W.fnIn K g)))))
theorem bmethB_ok {C g : Addr} {m : Str} (h : bmethB K C m g = true) : BMeth K C m g := by
  unfold bmethB at h
  simp only [Bool.and_eq_true, decide_eq_true_eq, Bool.not_eq_true'] at h
  exact ⟨⟨h.1, h.2.1, h.2.2.1⟩, h.2.2.2.1, h.2.2.2.2.1, h.2.2.2.2.2.1, h.2.2.2.2.2.2⟩
theorem ZK_meth {i : Nat} {y m : Str} {C g : Addr} (hi : i < 100) (h1 : methName i = some (y, m)) (h2 : PySem.W.nsIn K mainGlobals y = some (some (.ref C))) (h3 : PySem.W.findIn K (.ref C) m = some (some (.ref g))) : ZK K tl (300 + i) = some g := by
  unfold ZK
  rw [if_pos (by omega), show 300 + i - 300 = i by omega, h1]
  simp only
  rw [h2]
  simp only
  rw [h3]
theorem bndC_mk {c i : Nat} {y m : Str} {C g : Addr} (hc : c < 300) (hi : i < 100) (e1 : clsName c = some y) (e2 : methName i = some (y, m)) (h2 : PySem.W.nsIn K mainGlobals y = some (some (.ref C))) (b1 : clsB K C = true) (b2 : bmethB K C m g = true) : BndC K (ZK K tl) c i m := by
  have h := bmethB_ok b2
  exact ⟨C, g, clsB_ok b1, h, ZK_at hc e1 h2, ZK_meth hi e2 h2 h.mt.at_⟩
/-- the body of an __init__ of one field -/
def ini1 (st : Stmt) : Option (Str × Str) := match defBody st with
  | [.Assign [.Attribute (.Name s _) fl _] (.Name y _) _] => if s = ("self" : Str) then some (fl, y) else none
  | _ => none
def swOk (st : Stmt) (qual : Str) : Prop := ∀ (L f : Addr) (cd : Value), match defBody st with
  | [.Assign [.Attribute o fl p6] v p8] => swapsWith v (some (.Attribute o fl p6)) p8.line (envOfC qual (defScope st) L f cd) = pure false
  | _ => True
theorem clsM_mk {P : Program} {w : World} {base : Heap} {c : Nat} {x y fl qual : Str} {st : Stmt} {C fI : Addr} {fd : FuncData} (hc : c < 300) (hm : PySem.W.nsIn K mainGlobals x = some (some (.ref C))) (hmg : mg x = some (.ref C)) (e1 : clsName c = some x) (fn : Fun K "__init__" qual st fI fd) (S : FnScope ["self", y] ["self", y] (defScope st)) (hi : ini1 st = some (fl, y))
    (v0 : Vis (defScope st) "self") (v1 : Vis (defScope st) y) (hdb : (y == ("__debug__" : Str)) = false) (hcdt : (y == ("__classdict__" : Str)) = false) (hsw : swOk st qual) (hbi : ∀ (kV doc pm : Value) (an : Option Addr) (cdv ct : Value) (us : List Value), us.length = (["self", y] : List Str).length → bindArgs (PySem.W.fnOf "__init__" qual (defArgs st) (defBody st) (defScope st) .none kV doc pm an cdv ct) ⟨us, []⟩ = pure ((["self", y] : List Str).zip us))
    (b1 : clsB K C = true) (b2 : (decide (PySem.W.findIn K (.ref C) fl = some none) && (PySem.W.makesIn K C && (decide (PySem.W.findIn K (.ref C) "__init__" = some (some (.ref fI))) && (PySem.W.isFn K (.ref fI) && PySem.W.keepIn K (.ref C))))) = true) : ClsM P w K mg base (ZK K tl) c x fl := by
  simp only [Bool.and_eq_true, decide_eq_true_eq] at b2
  obtain ⟨na, mk, ii, isf, kp⟩ := b2
  refine ⟨C, fI, fd, y, hmg, ZK_at hc e1 hm, ⟨mk, ii, isf, kp⟩, ?_, fn.binds hbi⟩
  obtain ⟨oc, od, kV, doc, pm, an, cdv, ct, osl, rfl, lk, hcd⟩ := fn.ex
  unfold ini1 at hi
  split at hi
  · rename_i s p5 fl' p6 y' p7 p8 hb
    split at hi
    · rename_i hse
      subst hse
      cases hi
      unfold swOk at hsw
      rw [hb] at hsw lk ⊢
      exact fn_in1 (k := 0) lk hcd S v0 v1 hdb hcdt (clsB_ok b1) na hsw
    · cases hi
  · cases hi
/-- the methods that may be called by a slot -/
theorem methsOk_mk {P : Program} {w : World} {base : Heap} {k kr : Nat} {F : Nat → List DV → Res} (h : ∀ i y m, i < 100 → methName i = some (y, m) → ∀ C g, PySem.W.nsIn K mainGlobals y = some (some (.ref C)) → PySem.W.findIn K (.ref C) m = some (some (.ref g)) →
    PySem.W.fnIn K g = true ∧ ((∀ ds, F i ds = .bad) ∨ ∃ (fd : FuncData) (z : Str), Binds K fd ["self", z] [] ∧ FnOkG P w K mg base k g fd ["self", z] (spD K (ZK K tl) [.fz, .fz] kr (F i)))) : MethsOk P w K mg base k (ZK K tl) kr F := fun i g hi hz => by
  unfold ZK at hz
  rw [if_pos (by omega), show 300 + i - 300 = i by omega] at hz
  cases q : methName i with
  | none => rw [q] at hz; cases hz
  | some ym =>
    obtain ⟨y, m⟩ := ym
    rw [q] at hz
    simp only at hz
    split at hz
    · rename_i C hC
      split at hz
      · rename_i g' hg
        cases hz
        exact h i y m hi q C g hC hg
      · cases hz
    · cases hz
end
/-! ### what a run gives -/
section
variable {e : Ev} {QD : DV → Ev → Prop} {X : XQ} {i : Nat} {fa : M DV}
def fldO (f : Str) : Option DV → Option PyData
  | some (.o c fs) => if 200 ≤ c ∧ c < 300 then fs.lookup f else none
  | _ => none
@[simp] theorem sat_fldS {f : Str} : (fldS i f e).sat QD X = osat (fun d => QD (.d d) e) (fldO f (slot e i)) := by
  unfold fldS
  cases slot e i with
  | none => rfl
  | some d =>
    cases d with
    | o c fs =>
      simp only [fldO]
      by_cases h : 200 ≤ c ∧ c < 300
      · rw [if_pos h]; cases fs.lookup f with
        | none => rfl
        | some d => simp [h]
      · rw [if_neg h]; cases fs.lookup f with
        | none => rfl
        | some d => simp [h]
    | _ => rfl
@[simp] theorem sat_mkOM {c : Nat} {fl : Str} : (mkOM c fl fa e).sat QD X = (fa e).sat (fun d e' => osat (fun g => QD (.o c [(fl, g)]) e') (dataOf d)) X := by
  show ((fa e).bind _).sat QD X = _
  rw [sat_bind]; congr 1; funext d e'
  cases dataOf d <;> rfl
def metO (i : Nat) : Option DV → Option (Nat × Nat × List (Str × PyData))
  | some (.f m c fs) => if m < 100 then some (m, c, fs) else none
  | _ => none
@[simp] theorem metO_f {m c : Nat} {fs : List (Str × PyData)} : metO i (some (.f m c fs)) = if m < 100 then some (m, c, fs) else none := rfl
@[simp] theorem sat_callS {F : Nat → List DV → Res} : (callS i F fa e).sat QD X = osat (fun p => (fa e).sat (fun d e' => osat (fun q => q.1 = p.1 ∧ (F q.1 [.o q.2.1 q.2.2, d]).sat (fun r outs => outs = [] ∧ QD r e') (fun c g => X c g e')) (metO i (slot e' i))) X) (metO i (slot e i)) := by
  unfold callS
  cases slot e i with
  | none => rfl
  | some d =>
    cases d with
    | f m0 c0 fs0 =>
      simp only [metO]
      by_cases h : m0 < 100
      · rw [if_pos h, if_pos h]
        simp only [osat_some]
        show ((fa e).bind _).sat QD X = _
        rw [sat_bind]; congr 1; funext d e'
        cases slot e' i with
        | none => rfl
        | some d' =>
          cases d' with
          | f m c fs =>
            simp only
            by_cases hm : m = m0
            · subst hm
              rw [if_pos rfl, if_pos h]
              simp only [osat_some, true_and]
              cases F m [.o c fs, d] with
              | ok r outs => cases outs <;> simp
              | ex c g => rfl
              | bad => rfl
            · rw [if_neg hm]
              by_cases h2 : m < 100
              · rw [if_pos h2]; simp [hm]
              · rw [if_neg h2]; rfl
          | _ => rfl
      · rw [if_neg h, if_neg h]; rfl
    | _ => rfl
def bndO (i c0 : Nat) (m : Str) : DV → Option DV
  | .o c fs => if c = c0 ∧ (fs.lookup m).isNone = true then some (.f i c fs) else none
  | _ => none
@[simp] theorem sat_bndM {c0 : Nat} {m : Str} {j : Nat} : (bndM j c0 m fa e).sat QD X = (fa e).sat (fun d e' => osat (fun r => QD r e') (bndO j c0 m d)) X := by
  show ((fa e).bind _).sat QD X = _
  rw [sat_bind]; congr 1; funext d e'
  cases d with
  | o c fs =>
    simp only [bndO]
    by_cases h : c = c0 ∧ (fs.lookup m).isNone = true
    · rw [if_pos h, if_pos h]; rfl
    · rw [if_neg h, if_neg h]; rfl
  | _ => rfl
end
end Lk
namespace Lk
open PySem PySem.Spec L2
theorem FnOkG.imp {P : Program} {w : World} {K : PySem.W.Frag} {mg : Str → Option Value} {base : Heap} {k : Nat} {f : Addr} {fd : FuncData} {ps : List Str} {sp sp' : Sp} (F : FnOkG P w K mg base k f fd ps sp) (h : ∀ vs H Q E, sp' vs H Q E → sp vs H Q E) : FnOkG P w K mg base k f fd ps sp' :=
  ⟨fun vs H Q E z => F.len vs H Q E (h vs H Q E z), fun A outer s H args us vs Q E a b c d e z => F.run A outer s H args us vs Q E a b c d e (h vs H Q E z)⟩
theorem spD_kr {K : PySem.W.Frag} {Z : ClT} {ms : List Md} {j k : Nat} {F : List DV → Res} {vs : List V} {H : Hp} {Q : VK} {E : L2.XK} (h : j ≤ k) (z : spD K Z ms j F vs H Q E) : spD K Z ms k F vs H Q E := by
  obtain ⟨L, ds, h1, h2, S, q⟩ := z
  refine ⟨L, ds, h1, h2, S, ?_⟩
  cases qF : F ds with
  | bad => rw [qF] at q; exact q
  | ex c g => rw [qF] at q; exact q
  | ok d outs => rw [qF] at q; exact fun v H' s => q v H' (s.weak h)
theorem gW0 {X : Cx} {Z : ClT} {W : WX} {φ φ1 : List Nat} {fa : M DV} {a : Expr} {k : Nat} (h : JE X Z W φ a φ1 (.v k) fa) : JE X Z W φ a φ1 (.v 0) fa := pe_imp h fun σ H Q ⟨L, env, S, q⟩ => ⟨L, env, S, q.mono fun d e' z v H' s => z v H' ⟨s.sim.weak (Nat.zero_le _), s.al, fun y hy => by rw [List.mem_singleton.mp hy]; trivial⟩⟩
end Lk
namespace Lk
open PySem PySem.Spec PyProof.Rows L2
theorem meets_enum1 {v : Value} {o : Obj} {H : Heap → Prop} (B : Begins v o H) :
    Meets (Builtin.«enumerate.__new__» ⟨[.type "enumerate", v], []⟩) (fun _ R s => H s.heap ∧
      R (.ok (.ret (.ref (s.heap.push o).objs.size))) { s with heap := (s.heap.push o).push { cls := .type "enumerate", data := .fields #[.none, .bool false, .ref s.heap.objs.size, rawInt 0, .none, .none] } }) :=
  .of_wp fun prog w A R s h => by
    obtain ⟨hp, g, d, tk, os⟩ := s; obtain ⟨h1, h⟩ := h
    have hsub := sub_enumerate
    have q1 : ∀ {A' : Around} {E : Value → Shared → Prop} {Q : Value → Shared → Prop}, Q (.ref hp.objs.size) ⟨hp.push o, g, d, tk, os⟩ → wpAny (model prog w) A' (pyIter v) Q E ⟨hp, g, d, tk, os⟩ :=
      fun q => B.iter prog w _ _ ⟨hp, g, d, tk, os⟩ _ h1 q
    wp_walk using q1
    refine wpAny_stack_any fun st => wpAny_pure ?_
    split
    · rename_i c _ _ _ _ _
      cases (c == Value.type "enumerate")
      · wp_walk using q1
        exact ⟨_, rfl, h⟩
      · wp_walk using q1
        exact ⟨_, rfl, h⟩
    · wp_walk using q1
      exact ⟨_, rfl, h⟩
theorem enum_begins1 {prog : Program} {w : World} {A : Around} {E : Value → Shared → Prop} {s : Shared} {v : Value} {o : Obj} {H : Heap → Prop} {Q : Value → Shared → Prop} (B : Begins v o H) (h1 : H s.heap)
    (h : ∀ h', IsEnum h' (s.heap.objs.size + 1) s.heap.objs.size 0 .none → h'.get? s.heap.objs.size = some o → h'.objs.size = s.heap.objs.size + 2 →
      (∀ b o, s.heap.get? b = some o → h'.get? b = some o) → Q (.ref (s.heap.objs.size + 1)) { s with heap := h' }) :
    wpAny (model prog w) A (call (.type "enumerate") [v]) Q E s := by
  refine callType_new F.called_enumerate (by decide) (F.typeCall_enumerate_1 _) (F.newCall_enumerate_1 _) (fun obj => F.args_object_init_2 obj _) F.entry_enumerate_new
    (meets_enum1 B) ⟨h1, ?_⟩
  have hz : (s.heap.push o).objs.size = s.heap.objs.size + 1 := Heap.size_push ..
  show _ ∧ _
  rw [hz]
  have he : IsEnum ((s.heap.push o).push { cls := .type "enumerate", data := .fields #[.none, .bool false, .ref s.heap.objs.size, rawInt 0, .none, .none] }) (s.heap.objs.size + 1) s.heap.objs.size 0 .none := by
    have := Heap.get?_push_size (s.heap.push o) (o := { cls := .type "enumerate", data := .fields #[.none, .bool false, .ref s.heap.objs.size, rawInt 0, .none, .none] }) rfl
    rw [hz] at this; exact this
  refine ⟨⟨_, he, rfl⟩, h _ he (Heap.get?_push_of_some _ (Heap.get?_push_size _ B.free)) (by rw [Heap.size_push, hz]) fun b o x => Heap.get?_push_of_some _ (Heap.get?_push_of_some _ x)⟩
section
variable {prog : Program} {w : World} {A : Around} {E : Value → Shared → Prop} {s : Shared}
theorem enumT_end {e it t : Addr} {i : Nat} {c : Int} {items : Array Value} {old : Value} {Q : Option Value → Shared → Prop} (hh : A.handled = none) (he : IsEnum s.heap e it c old) (hit : s.heap.IsTupleIter it t i) (ht : s.heap.IsTuple t items) (hx : items[i]? = none)
    (hQ : ∀ h', Heap.ExtBut it s.heap h' → Q none { s with heap := h' }) : wpAny (model prog w) A (pyNext (.ref e)) Q E s := by
  have hT : s.TypeIs (.ref e) "enumerate" := ⟨_, he, rfl⟩
  unfold pyNext
  refine wpAny_bind (wpAny_attempt (wpAny_callSpecial?_slot (name := Str.ofString "__next__") hT F.slot_enumerate_next
    (wpAny_call_entry F.slot_enumerate_next hT F.entry_enumerate_next ?_ (F.args_enumerate_next_1 _))))
  show wpAny _ _ (field (.ref e) 2 >>= _) _ _ _
  refine wpAny_bind (wpAny_field he rfl (x := .ref it) rfl ?_)
  refine wpAny_bind (wpAny_nextOf_tuple_end hh hit ht hx fun h' x he' hx' => ?_)
  obtain ⟨o, ho, hc⟩ := hx'
  refine wpAny_bind (wpAny_isInstance (T := "StopIteration") (b := true) ⟨o, ho, hc⟩ isSubtype_stop ?_)
  exact wpAny_pure (hQ _ he')
end
/-- the tuple at a, each item in a new pair -/
def ItE (K : PySem.W.Frag) (a : Addr) : It :=
  ⟨fun i H => ∃ (xs : List V) (x : V), SqT K H a xs ∧ xs[i]? = some x, fun i H v H' => ∃ T x, v = .ref T ∧ H T = none ∧ H' = upd H T (.tup [.int (i : Nat), x]) ∧ ∀ xs, SqT K H a xs → xs[i]? = some x, fun i H => ∃ xs : List V, SqT K H a xs ∧ xs.length ≤ i⟩
theorem turn_enumT {P : Program} {w : World} {K : PySem.W.Frag} {elts : List Expr} {kk : Nat} {tpos : Pos} (a e it : Addr) :
    Turn P w K (.Tuple elts kk tpos) (ItE K a) [e, it] e (fun i h => (∃ old, IsEnum h e it ((i : Nat) : Int) old) ∧ h.IsTupleIter it a i ∧ e ≠ it ∧ a ≠ it ∧ a ≠ e) where
  mem := by simp
  obj := fun i h st b hb => by
    obtain ⟨⟨old, he⟩, ⟨o, ho, hc, hd⟩, _⟩ := st
    have e' : b = e ∨ b = it := by simpa using hb
    rcases e' with z | z
    · rw [z]; exact ⟨_, he, fun v q => nomatch q⟩
    · rw [z]; exact ⟨o, ho, fun v q => by rw [hd] at q; cases q⟩
  keep := fun i h h' st k => let ⟨⟨old, he⟩, hi, hne⟩ := st; ⟨⟨old, k e (by simp) _ he⟩, hi.at fun o q => k it (by simp) o q, hne⟩
  item := by
    intro X hP hw hK hc i pins s σ H E I hf st hg
    subst hP hw hK
    obtain ⟨⟨old, he⟩, hit, hne, na, nb⟩ := st
    obtain ⟨xs, x, hq, hx⟩ := hg
    obtain ⟨its, rv, p, hz⟩ := I.tuple hq
    obtain ⟨u, hu, ru⟩ := rv.get hx
    have hel : e < s.heap.objs.size := Heap.lt_size he
    have hil : it < s.heap.objs.size := by obtain ⟨_, q, _⟩ := hit; exact Heap.lt_size q
    have p' : s.heap.IsTuple a its.toArray := p
    have hlt : i < its.toArray.size := by simpa using (List.getElem?_eq_some_iff.mp hu).1
    refine wpAny_pyNext_enum_itemD (Draws.tuple (show X.A.in1.handled = none from I.ok.hd hc) it a na its.toArray) he ⟨hit, p'⟩ hlt hne (by simp [hne, Ne.symm nb]) fun u' h' tk hu' ho hst' hT hsz hk => ?_
    have hu' : its[i]? = some u' := by simpa using hu'
    rw [hu] at hu'
    cases hu'
    obtain ⟨hit', _⟩ := hst'
    refine ⟨_, rfl, wpAny_letOwnedTupleGo_enum (s := { s with heap := h', toks := tk + 1 }) ho fun h'' he' sb => ?_⟩
    have hT2 : h''.get? s.heap.objs.size = some { cls := .type "tuple", data := .seq #[.int i tk, u] } := (sb.2 _ (Nat.ne_of_gt hel)).trans hT
    have new : ObjOk X.prog X.w (upd H s.heap.objs.size (.tup [.int (i : Nat), x])) h'' s.heap.objs.size (.tup [.int (i : Nat), x]) :=
      ⟨by show 2 ≤ sizeLine; decide, [.int i tk, u], .cons ⟨_, rfl⟩ (.cons ru .nil), ⟨_, hT2, rfl, _, rfl⟩⟩
    have I1 : Inv X pins σ (upd H s.heap.objs.size (.tup [.int (i : Nat), x])) { s with heap := h'', toks := tk + 1 } :=
      I.turnedNew (ch := [e, it]) (fun b ob hb q => (sb.2 b (fun z => hb (by simp [z]))).trans (hk b ob (fun z => hb (by simp [z])) (fun z => hb (by simp [z])) q)) hf (Nat.le_refl _) new
    refine ⟨.ref s.heap.objs.size, _, I1, rfl, ⟨_, x, rfl, I.hok.fresh (Nat.le_refl _), rfl, fun ys hy => by rw [I.tuple_inj hy hq]; exact hx⟩, ⟨⟨u, ?_⟩, hit'.at fun o q => (sb.2 it (Ne.symm hne)).trans q, hne, na, nb⟩, fun b hb => ?_⟩
    · have e1 : ((i + 1 : Nat) : Int) = (i : Int) + 1 := by omega
      rw [e1]; exact he'
    · have hb' : b < s.heap.objs.size := by
        have e' : b = e ∨ b = it := by simpa using hb
        rcases e' with z | z
        · rw [z]; exact hel
        · rw [z]; exact hil
      rw [upd_ne (Nat.ne_of_lt hb')]
      exact (hf b hb).1
  done := by
    intro X hP hw hK hc i pins s σ H E I hf st hg
    subst hP hw hK
    obtain ⟨⟨old, he⟩, hit, hne, na, nb⟩ := st
    obtain ⟨xs, hq, hx⟩ := hg
    obtain ⟨its, rv, p, hz⟩ := I.tuple hq
    obtain ⟨f0, f1, f2, f3, f4, f5⟩ := hf it (by simp)
    have hl := rv.length
    exact enumT_end (I.ok.hd hc) he hit (show s.heap.IsTuple a its.toArray from p) (by simp; omega) fun h' eb => ⟨rfl, I.turned (t' := s.toks) (fun b o hb q => eb b o hb q) f0 f1 f3 f4 f5⟩
  self := fun A i s Q E st h => let ⟨⟨_, he⟩, _⟩ := st; wpAny_pyIter_enum he h
def iEnumA (K : PySem.W.Frag) (ta : TA) : TI := fun σ H R => ta σ H fun vs H1 => ∃ a xs, vs = [.ref a] ∧ ((SqL K H1 a xs ∧ R (Ite K a) H1) ∨ (SqT K H1 a xs ∧ R (ItE K a) H1))
theorem pi_enumA {X : Cx} {e : Expr} {ta : TA} {p pos tpos : Pos} {elts : List Expr} {kk : Nat} (hg : Gl X "enumerate") (hm : X.mg "enumerate" = none) (ha : PA X [e] ta) (hs : starEach [e] X.env = [(false, eval e X.env)]) :
    PI X (.Tuple elts kk tpos) (.Call (.Name "enumerate" p) [e] [] pos) (iEnumA X.K ta) := by
  refine ⟨fun pins s σ H R I h => ?_⟩
  refine Call_ (ld_blt I hg hm boot_enumerate (PyProof.Rows.callWith_type1 (thn (ha.run pos pins s σ H _ I h) fun us s1 ⟨vs, H1, I1, r1, q1⟩ => ?_) hs rfl))
  obtain ⟨a, xs, ex, q⟩ := q1
  subst ex
  cases r1 with
  | cons r rr =>
    cases rr
    cases r
    have fp : ∀ b ∈ [s1.heap.objs.size + 1, s1.heap.objs.size], FpOk X pins H1 b := fun b hb => by
      have e' : b = s1.heap.objs.size + 1 ∨ b = s1.heap.objs.size := by simpa using hb
      have hle : s1.heap.objs.size ≤ b := by
        rcases e' with z | z
        · rw [z]; exact Nat.le_add_right _ _
        · rw [z]; exact Nat.le_refl _
      exact I1.fpOk hle (I1.hok.fresh hle)
    rcases q with ⟨hq, q⟩ | ⟨hq, q⟩
    · obtain ⟨its, rv, p', hz⟩ := I1.list hq
      refine call_enumerate_list p'.isList fun h' he hit hsz hk => wpAny_pyIter_enum he ?_
      have I2 : Inv X pins σ H1 { s1 with heap := h' } := I1.kept (t' := s1.toks) hk
      exact ⟨s1.heap.objs.size + 1, [s1.heap.objs.size + 1, s1.heap.objs.size], _, _, H1, rfl, I2, turn_enum a (s1.heap.objs.size + 1) s1.heap.objs.size, ⟨⟨.none, he⟩, hit, Nat.succ_ne_self _⟩, fp, q⟩
    · obtain ⟨its, rv, p', hz⟩ := I1.tuple hq
      have p' : s1.heap.IsTuple a its.toArray := p'
      have hal : a < s1.heap.objs.size := by obtain ⟨_, q, _⟩ := p'; exact Heap.lt_size q
      refine enum_begins1 (begins_tuple a its.toArray) p' fun h' he hit hsz hk => wpAny_pyIter_enum he ?_
      have I2 : Inv X pins σ H1 { s1 with heap := h' } := I1.kept (t' := s1.toks) hk
      exact ⟨s1.heap.objs.size + 1, [s1.heap.objs.size + 1, s1.heap.objs.size], _, _, H1, rfl, I2, turn_enumT a (s1.heap.objs.size + 1) s1.heap.objs.size, ⟨⟨.none, he⟩, ⟨_, hit, rfl, rfl⟩, Nat.succ_ne_self _, Nat.ne_of_lt hal, Nat.ne_of_lt (Nat.lt_succ_of_lt hal)⟩, fp, q⟩
section
variable {X : Cx} {Z : ClT} {W : WX} {φ φ1 : List Nat} {fa : M DV} {a : Expr} {es : List Expr} {pos p tpos : Pos} {k : Nat}
/-- list or tuple -/
def enumA : DV → Option (List DV)
  | .d (.list xs) => some (numFrom 0 xs)
  | .d (.tuple xs) => some (numFrom 0 xs)
  | _ => none
def enuI (fa : M DV) : M (List DV) := fun env => (fa env).bind fun d e => .ofO (enumA d) e
theorem iter_enumT {held : List Root} {a : Addr} {ds : List PyData} (hm : (⟨0, .d (.tuple ds), .ref a⟩ : Root) ∈ held) : IterOk X.K Z (ItE X.K a) held (numFrom 0 ds) := fun i H R S => by
  obtain ⟨a', vs, e, h1, hl, S2⟩ := S.openT (List.mem_append_left _ hm) (Nat.zero_le _)
  cases e
  refine ⟨fun hi => ⟨vs, h1, by rw [numFrom_len] at hi; omega⟩, fun d hd => ?_⟩
  rw [numFrom_get] at hd
  obtain ⟨x, hx, rfl⟩ := Option.map_eq_some_iff.mp hd
  have hlt : i < vs.length := by rw [← hl]; exact (List.getElem?_eq_some_iff.mp hx).1
  refine ⟨⟨vs, vs[i], h1, List.getElem?_eq_getElem hlt⟩, fun y H' ⟨T, u, hy, hT, hH, hu⟩ => ?_⟩
  subst hH; subst hy
  have ey := hu vs h1
  have S3 := S2.kid hx ey
  have S4 : Sim X.K Z H (kids 0 [.int ((0 + i : Nat) : Int), x] [.int (i : Nat), u] ++ (held ++ R)) := by
    rw [Nat.zero_add]
    exact S3.cint
  exact (Sim.mkT (n := 0) S4 rfl hT).weak (Nat.zero_le _)
theorem ji_enumA {x : Str} {n : Nat} (ex : x = "enumerate") (hg : Gl X x) (hm : X.mg x = none) (hs : noStar a = true) (ha : JE X Z W φ a φ1 (.v k) fa) :
    JI X Z W φ (.Tuple es n tpos) (.Call (.Name x p) [a] [] pos) φ1 (enuI fa) := by
  subst ex
  refine pi_imp (pi_enumA hg hm (pa_cons ha pa_nil (star_eq hs)) (star_eq hs)) fun σ H R ⟨L, env, S, h⟩ => ?_
  refine rdE.go S (h.bind.mono fun d e1 h1 v H1 S1 => ?_)
  obtain ⟨r, q, h2⟩ := h1.ofO
  have s1 := Sim.weak S1.sim (Nat.zero_le _)
  cases d with
  | d x =>
    cases x with
    | list xs =>
      cases q
      obtain ⟨a, vs, rfl, hl, _⟩ := s1.seeL List.mem_cons_self
      refine ⟨a, vs, rfl, .inl ⟨.of hl, h2 _ [⟨0, .d (.list xs), .ref a⟩] _ ⟨s1.perm ?_, S1.al, fun _ h => nomatch h⟩ (iter_enum List.mem_cons_self)⟩⟩
      show (⟨0, .d (.list xs), .ref a⟩ :: (roots φ1 e1 σ ++ L)).Perm (roots φ1 e1 σ ++ (⟨0, .d (.list xs), .ref a⟩ :: L))
      exact List.perm_middle.symm
    | tuple xs =>
      cases q
      obtain ⟨a, vs, rfl, hl, _, _⟩ := s1.openT List.mem_cons_self (Nat.zero_le _)
      refine ⟨a, vs, rfl, .inr ⟨hl, h2 _ [⟨0, .d (.tuple xs), .ref a⟩] _ ⟨s1.perm ?_, S1.al, fun _ h => nomatch h⟩ (iter_enumT List.mem_cons_self)⟩⟩
      show (⟨0, .d (.tuple xs), .ref a⟩ :: (roots φ1 e1 σ ++ L)).Perm (roots φ1 e1 σ ++ (⟨0, .d (.tuple xs), .ref a⟩ :: L))
      exact List.perm_middle.symm
    | _ => cases q
  | _ => cases q
theorem gEnumA {x : Str} {n : Nat} (hm : X.mg x = none) (ha : JE X Z W φ a φ1 (.v k) fa) (ex : x = "enumerate" := by rfl) (hg : Gl X x := by rfl) (hs : noStar a = true := by rfl) : JI X Z W φ (.Tuple es n tpos) (.Call (.Name x p) [a] [] pos) φ1 (enuI fa) := ji_enumA ex hg hm hs ha
@[simp] theorem sat_enuI {e : Ev} {QL : List DV → Ev → Prop} {X : XQ} : (enuI fa e).sat QL X = (fa e).sat (fun d e' => osat (fun r => QL r e') (enumA d)) X := by
  show ((fa e).bind _).sat QL X = _
  rw [sat_bind]; congr 1; funext d e'; rw [sat_ofO]
@[simp] theorem enumA_l {xs : List PyData} : enumA (.d (.list xs)) = some (numFrom 0 xs) := rfl
@[simp] theorem enumA_t {xs : List PyData} : enumA (.d (.tuple xs)) = some (numFrom 0 xs) := rfl
end
end Lk
namespace Lk
open PySem PySem.Spec L2
abbrev dLt := PySem.W.dataLt
theorem toks_eq {x y : PyData} (h : PySem.W.alike x y = true) (e : PyData.eqv x y = true) : PySem.W.keyToks x = PySem.W.keyToks y := (PySem.W.toks_eqv x y h).1 e
theorem lex_irr : ∀ l : List (Int ⊕ List Nat), PyProof.Rows.lexLt PyProof.Rows.itemOrd l l = false := fun l => PyProof.Rows.lex_irrefl (O := PyProof.Rows.itemOrd) l
def toksLt (xs ys : List PyData) : Bool := PyProof.Rows.lexLt PyProof.Rows.itemOrd (PySem.W.keyToksAll xs) (PySem.W.keyToksAll ys)
theorem dLt_tup (xs ys : List PyData) : dLt (.tuple xs) (.tuple ys) = toksLt xs ys := rfl
theorem toksLt_cons {x y : PyData} {xs ys : List PyData} (h : PySem.W.alike x y = true) : toksLt (x :: xs) (y :: ys) = if PyData.eqv x y then toksLt xs ys else dLt x y := by
  unfold toksLt
  rw [PySem.W.toks_all_cons, PySem.W.toks_all_cons]
  rw [show (Sum.inl 1 :: (PySem.W.keyToks x ++ PySem.W.keyToksAll xs) : List (Int ⊕ List Nat)) = [Sum.inl 1] ++ (PySem.W.keyToks x ++ PySem.W.keyToksAll xs) from rfl,
    show (Sum.inl 1 :: (PySem.W.keyToks y ++ PySem.W.keyToksAll ys) : List (Int ⊕ List Nat)) = [Sum.inl 1] ++ (PySem.W.keyToks y ++ PySem.W.keyToksAll ys) from rfl, PySem.W.lex_pre]
  cases e : PyData.eqv x y with
  | true => rw [toks_eq h e, PySem.W.lex_pre]; rfl
  | false => rw [(PySem.W.toks_eqv x y h).2 e]; rfl
theorem toksLt_nil : toksLt [] [] = false := rfl
theorem toksLt_nc {y : PyData} {ys : List PyData} : toksLt [] (y :: ys) = true := by
  unfold toksLt
  rw [PySem.W.toks_all_cons]
  simp [PySem.W.keyToksAll, PyProof.Rows.lexLt, PyProof.Rows.itemLt]
theorem toksLt_cn {y : PyData} {ys : List PyData} : toksLt (y :: ys) [] = false := by
  unfold toksLt
  rw [PySem.W.toks_all_cons]
  simp [PySem.W.keyToksAll, PyProof.Rows.lexLt, PyProof.Rows.itemLt]
theorem dLt_int {i j : Int} : dLt (.int i) (.int j) = decide (i < j) := by
  unfold dLt PySem.W.dataLt
  simp only [PySem.W.keyToks]
  by_cases h : i = j
  · subst h; rw [lex_irr]; simp
  · simp [PyProof.Rows.lexLt, PyProof.Rows.itemLt, h]
theorem dLt_eqv {x y : PyData} (h : PySem.W.alike x y = true) (e : PyData.eqv x y = true) : dLt x y = false := by
  unfold dLt PySem.W.dataLt
  rw [toks_eq h e]
  exact lex_irr _
theorem dLt_pair {a b c d : PyData} (h1 : PySem.W.alike a c = true) (h2 : PySem.W.alike b d = true) : dLt (.tuple [a, b]) (.tuple [c, d]) = if PyData.eqv a c then dLt b d else dLt a c := by
  rw [dLt_tup, toksLt_cons h1, toksLt_cons h2]
  cases e : PyData.eqv b d with
  | true => simp [toksLt_nil, dLt_eqv h2 e]
  | false => simp
/-- the order that sorted and < go by -/
def ltE {α : Type} (enc : α → PyData) (a b : α) : Bool := dLt (enc a) (enc b)
theorem tot_enc {α : Type} {enc : α → PyData} (hal : ∀ a b, PySem.W.alike (enc a) (enc b) = true) (heq : ∀ a b, PyData.eqv (enc a) (enc b) = true → a = b) : Tot (ltE enc) := by
  have irr : ∀ a, ltE enc a a = false := fun a => lex_irr _
  have tr : ∀ a b c, ltE enc a b = true → ltE enc b c = true → ltE enc a c = true := fun a b c h1 h2 => PyProof.Rows.lex_trans (O := PyProof.Rows.itemOrd) _ _ _ h1 h2
  refine ⟨fun a b h => ?_, tr, fun a b h1 h2 => ?_⟩
  · cases q : ltE enc b a with
    | false => rfl
    | true =>
      have := tr a b a h q
      rw [irr] at this
      cases this
  · refine heq a b ?_
    cases e : PyData.eqv (enc a) (enc b) with
    | true => rfl
    | false =>
      have e1 := (PySem.W.toks_eqv _ _ (hal a b)).2 e
      have ht : PySem.W.keyToks (enc a) = PySem.W.keyToks (enc b) := PyProof.Rows.lex_total (O := PyProof.Rows.itemOrd) _ _ h1 h2
      have z := e1 [.inl 0] [.inl 1]
      rw [ht, PySem.W.lex_pre, lex_irr] at z
      simp [PyProof.Rows.lexLt, PyProof.Rows.itemLt] at z
/-- ints and tuples, to a depth -/
def iT : Nat → PyData → Bool
  | 0, _ => false
  | _ + 1, .int _ => true
  | k + 1, .tuple xs => xs.all (iT k)
  | _, _ => false
def ordB : CmpOp → PyData → PyData → Bool
  | .Lt, x, y => dLt x y
  | .GtE, x, y => !dLt x y
  | .Gt, x, y => dLt y x
  | .LtE, x, y => !dLt y x
  | _, _, _ => false
theorem eqvC (x y : PyData) : PyData.eqv x y = PyData.eqv y x := PySem.W.eqv_comm x y
theorem alike_comm : ∀ {k : Nat} {x y : PyData}, iT k x = true → iT k y = true → PySem.W.alike x y = true → PySem.W.alike y x = true
  | 0, _, _, h, _, _ => by cases h
  | k + 1, x, y, hx, hy, h => by
    cases x with
    | int i =>
      cases y with
      | int j => rfl
      | _ => simp [PySem.W.alike] at h
    | tuple xs =>
      cases y with
      | tuple ys =>
        have hx : xs.all (iT k) = true := hx
        have hy : ys.all (iT k) = true := hy
        have key : ∀ (xs ys : List PyData), xs.all (iT k) = true → ys.all (iT k) = true → PySem.W.alikeAll xs ys = true → PySem.W.alikeAll ys xs = true := by
          intro xs
          induction xs with
          | nil => intro ys _ _ _; cases ys <;> simp [PySem.W.alikeAll]
          | cons x xs ih =>
            intro ys hx hy h
            cases ys with
            | nil => simp [PySem.W.alikeAll]
            | cons y ys =>
              simp only [List.all_cons, Bool.and_eq_true] at hx hy
              simp only [PySem.W.alikeAll, Bool.and_eq_true] at h ⊢
              exact ⟨alike_comm hx.1 hy.1 h.1, ih ys hx.2 hy.2 h.2⟩
        have h : PySem.W.alikeAll xs ys = true := by simpa [PySem.W.alike] using h
        simpa [PySem.W.alike] using key xs ys hx hy h
      | _ => simp [PySem.W.alike] at h
    | _ => cases hx
theorem ord_eqv {op : CmpOp} {x y : PyData} (hop : op = .Lt ∨ op = .GtE) (h : PySem.W.alike x y = true) (e : PyData.eqv x y = true) : ordB op x y = (match op with | .GtE => true | _ => false) := by
  rcases hop with rfl | rfl
  · exact dLt_eqv h e
  · show (!dLt x y) = true
    rw [dLt_eqv h e]; rfl
theorem cmpN_ord {op : CmpOp} (hop : op = .Lt ∨ op = .GtE) : ∀ {k : Nat} {x y : PyData}, iT k x = true → iT k y = true → PySem.W.alike x y = true → cmpN op k x y = some (ordB op x y)
  | 0, _, _, h, _, _ => by cases h
  | k + 1, x, y, hx, hy, h => by
    cases x with
    | int i =>
      cases y with
      | int j =>
        show some (opI op i j) = _
        rcases hop with rfl | rfl
        · show some (decide (i < j)) = some (dLt (.int i) (.int j))
          rw [dLt_int]
        · show some (decide (j ≤ i)) = some (!dLt (.int i) (.int j))
          rw [dLt_int]
          by_cases h : i < j
          · simp [h]
          · simp [h]; omega
      | _ => simp [PySem.W.alike] at h
    | tuple xs =>
      cases y with
      | tuple ys =>
        have hx : xs.all (iT k) = true := hx
        have hy : ys.all (iT k) = true := hy
        have h : PySem.W.alikeAll xs ys = true := by simpa [PySem.W.alike] using h
        have key : ∀ (xs ys : List PyData), xs.all (iT k) = true → ys.all (iT k) = true → PySem.W.alikeAll xs ys = true →
            cmpAll (cmpN op k) xs ys = true ∧ lexV (fun x y => (cmpN op k x y).getD false) (opI op xs.length ys.length) xs ys = ordB op (.tuple xs) (.tuple ys) := by
          intro xs
          induction xs with
          | nil =>
            intro ys _ _ _
            refine ⟨by cases ys <;> rfl, ?_⟩
            cases ys with
            | nil => rcases hop with rfl | rfl <;> simp [lexV, opI, ordB, dLt_tup, toksLt_nil]
            | cons y ys =>
              rcases hop with rfl | rfl
              · simp only [lexV, opI, ordB, dLt_tup, toksLt_nc, List.length_nil, List.length_cons]
                exact decide_eq_true (by omega)
              · simp only [lexV, opI, ordB, dLt_tup, toksLt_nc, List.length_nil, List.length_cons]
                exact decide_eq_false (by omega)
          | cons x xs ih =>
            intro ys hx hy h
            cases ys with
            | nil =>
              refine ⟨rfl, ?_⟩
              rcases hop with rfl | rfl
              · simp only [lexV, opI, ordB, dLt_tup, toksLt_cn, List.length_nil, List.length_cons]
                exact decide_eq_false (by omega)
              · simp only [lexV, opI, ordB, dLt_tup, toksLt_cn, List.length_nil, List.length_cons]
                exact decide_eq_true (by omega)
            | cons y ys =>
              simp only [List.all_cons, Bool.and_eq_true] at hx hy
              simp only [PySem.W.alikeAll, Bool.and_eq_true] at h
              obtain ⟨i1, i2⟩ := ih ys hx.2 hy.2 h.2
              have hc := cmpN_ord hop hx.1 hy.1 h.1
              refine ⟨by simp [cmpAll, hc, i1], ?_⟩
              have e1 : opI op (x :: xs).length (y :: ys).length = opI op xs.length ys.length := by
                rcases hop with rfl | rfl <;> simp [opI]
              rw [e1]
              unfold lexV
              rw [i2, hc]
              rcases hop with rfl | rfl
              · show (if PyData.eqv x y = true then dLt (.tuple xs) (.tuple ys) else dLt x y) = dLt (.tuple (x :: xs)) (.tuple (y :: ys))
                rw [dLt_tup, dLt_tup, toksLt_cons h.1]
              · show (if PyData.eqv x y = true then !dLt (.tuple xs) (.tuple ys) else !dLt x y) = !dLt (.tuple (x :: xs)) (.tuple (y :: ys))
                rw [dLt_tup, dLt_tup, toksLt_cons h.1]
                cases PyData.eqv x y <;> simp
        obtain ⟨k1, k2⟩ := key xs ys hx hy h
        show (if cmpAll (cmpN op k) xs ys then some (lexV (fun x y => (cmpN op k x y).getD false) (opI op xs.length ys.length) xs ys) else none) = _
        rw [if_pos k1, k2]
      | _ => simp [PySem.W.alike] at h
    | _ => cases hx
theorem cmp_lt {x y : PyData} (hx : iT 8 x = true) (hy : iT 8 y = true) (h : PySem.W.alike x y = true) (sx : SeqAt.shaped x = true) (sy : SeqAt.shaped y = true) : cmpP .Lt x y = some (.bool (dLt x y)) := by
  unfold cmpP
  rw [sx, sy, cmpN_ord (.inl rfl) hx hy h]; rfl
theorem cmp_ge {x y : PyData} (hx : iT 8 x = true) (hy : iT 8 y = true) (h : PySem.W.alike x y = true) (sx : SeqAt.shaped x = true) (sy : SeqAt.shaped y = true) : cmpP .GtE x y = some (.bool (!dLt x y)) := by
  unfold cmpP
  rw [sx, sy, cmpN_ord (.inr rfl) hx hy h]; rfl
/-- sorted, of coded things -/
theorem sortP_enc {α : Type} {enc : α → PyData} (hal : ∀ a b, PySem.W.alike (enc a) (enc b) = true) (heq : ∀ a b, PyData.eqv (enc a) (enc b) = true → a = b) (htup : ∀ a, isTupN (enc a) = true) (hsh : ∀ a, SeqAt.shaped (enc a) = true)
    (hI : ∀ a i, enc a ≠ .int i) (hP : ∀ a i j, enc a ≠ .tuple [.int i, .int j]) {l : List α} (hl : l.length ≤ 100000) : sortP (.list (l.map enc)) = some (.list ((srtB (ltE enc) l).map enc)) := by
  cases l with
  | nil => rfl
  | cons a l =>
    have e1 : getIs ((a :: l).map enc) = none := by
      rw [List.map_cons]
      unfold getIs
      split
      · exact absurd ‹_› (by simp)
      · rename_i i xs q
        simp only [List.cons.injEq] at q
        exact absurd q.1 (hI a i)
      · rfl
    have e2 : getPs ((a :: l).map enc) = none := by
      rw [List.map_cons]
      unfold getPs
      split
      · exact absurd ‹_› (by simp)
      · rename_i i j xs q
        simp only [List.cons.injEq] at q
        exact absurd q.1 (hP a i j)
      · rfl
    have ok : srtOk ((a :: l).map enc) = true := by
      unfold srtOk
      simp only [Bool.and_eq_true, Bool.or_eq_true, List.all_eq_true, decide_eq_true_eq]
      refine ⟨⟨⟨?_, .inl ?_⟩, ?_⟩, by rw [List.length_map]; show _ ≤ 1000000; omega⟩
      · intro x hx y hy
        obtain ⟨s, _, rfl⟩ := List.mem_map.mp hx
        obtain ⟨t, _, rfl⟩ := List.mem_map.mp hy
        exact hal s t
      · intro x hx
        obtain ⟨s, _, rfl⟩ := List.mem_map.mp hx
        exact htup s
      · intro x hx
        obtain ⟨s, _, rfl⟩ := List.mem_map.mp hx
        exact hsh s
    show (match getIs ((a :: l).map enc) with
      | some is => some (PyData.list ((srtB ltI is).map .int))
      | none => (match getPs ((a :: l).map enc) with
        | some ps => some (.list ((srtB SrtO.lexB ps).map pairD))
        | none => if srtOk ((a :: l).map enc) then some (.list (srtA ((a :: l).map enc))) else none)) = _
    rw [e1, e2]
    simp only
    rw [if_pos ok]
    refine congrArg (fun z => some (PyData.list z)) ?_
    have T := tot_enc hal heq
    have hle : ∀ a b, PySem.W.dataLe false (id : PyData → PyData) (enc a) (enc b) = !ltE enc b a := fun a b => rfl
    have hm : srtA ((a :: l).map enc) = ((a :: l).mergeSort fun a b => !ltE enc b a).map enc := by
      unfold srtA
      rw [← List.map_mergeSort]
      intro x _ y _
      exact hle x y
    rw [hm]
    refine congrArg (fun z => List.map enc z) ?_
    refine srt_is T ?_ (List.mergeSort_perm _ _)
    have sorted : ((a :: l).mergeSort fun a b => !ltE enc b a).Pairwise fun a b => (!ltE enc b a) = true := by
      refine List.pairwise_mergeSort (fun x y z h1 h2 => ?_) (fun x y => ?_) _
      · simp only [Bool.not_eq_true'] at h1 h2 ⊢
        cases q : ltE enc z x with
        | false => rfl
        | true =>
          by_cases e : ltE enc y z = true
          · have := T.tr _ _ _ e q
            rw [this] at h1; cases h1
          · have e3 : y = z := T.eq y z (by simpa using e) h2
            rw [e3, q] at h1; cases h1
      · cases q : ltE enc x y with
        | false => simp
        | true => simp [T.asym x y q]
    exact sorted.imp fun {x y} h => by simpa using h
end Lk
namespace Lk
open PySem PySem.Spec L2
def KeepN (H H' : Hp) : Prop := ∀ b o, H b = some o → (∀ od u, o ≠ .frz od u) → H' b = some o
def noRef : DV → Bool
  | .z _ => false
  | .k _ _ => false
  | _ => true
section
variable {K : PySem.W.Frag} {Z : ClT} {H H' : Hp} {R : List Root}
mutual
theorem Den.keepN : ∀ {d : PyData} {v : V} {G : Ft}, Den K H d v G → KeepN H H' → Den K H' d v G
  | _, _, _, .non, _ => .non
  | _, _, _, .bl b, _ => .bl b
  | _, _, _, .int i, _ => .int i
  | _, _, _, .str x, _ => .str x
  | _, _, _, .lst h1 h2, k => .lst (k _ _ h1 fun _ _ z => nomatch z) (DenL.keepN h2 k)
  | _, _, _, .tup h1 h2, k => .tup (k _ _ h1 fun _ _ z => nomatch z) (DenL.keepN h2 k)
  | _, _, _, .dic h1 h2 h3, k => .dic (by
      rcases h1 with ⟨kvs, q, r⟩ | ⟨kvs, q, r⟩
      · exact .inl ⟨kvs, k _ _ q (fun _ _ z => nomatch z), r⟩
      · exact .inr ⟨kvs, k _ _ q (fun _ _ z => nomatch z), r⟩) h2 (DenL.keepN h3 k)
theorem DenL.keepN : ∀ {ds : List PyData} {vs : List V} {G : Ft}, DenL K H ds vs G → KeepN H H' → DenL K H' ds vs G
  | _, _, _, .nil, _ => .nil
  | _, _, _, .cons h1 h2, k => .cons (Den.keepN h1 k) (DenL.keepN h2 k)
end
theorem keepN_upd {a : Addr} {od : Obj} {u : HO} (ha : H a = some (.frz od u)) : KeepN H (upd H a u) := fun b o e hne => by
  rw [upd_ne]
  · exact e
  · intro z
    rw [z, ha] at e
    cases e
    exact hne _ _ rfl
/-- nothing locked is met -/
def NoF (H : Hp) (G : Ft) : Prop := ∀ p ∈ G, ∀ od u, H p.1 ≠ some (.frz od u)
theorem NoF.nil : NoF H [] := fun _ hp => nomatch hp
theorem NoF.up {G : Ft} (t : NoF H G) : NoF H (Lk.up G) := fun p hp => by
  obtain ⟨q, hq, rfl⟩ := List.mem_map.mp hp
  exact t q hq
theorem NoF.cons {G : Ft} {a : Addr} {n : Nat} (h : ∀ od u, H a ≠ some (.frz od u)) (t : NoF H G) : NoF H ((a, n) :: G) := fun p hp => by
  rcases List.mem_cons.mp hp with e | hp
  · subst e; exact h
  · exact t p hp
theorem NoF.append {G G' : Ft} (t : NoF H G) (t' : NoF H G') : NoF H (G ++ G') := fun p hp => (List.mem_append.mp hp).elim (t p) (t' p)
mutual
theorem Den.nof : ∀ {d : PyData} {v : V} {G : Ft}, Den K H d v G → NoF H G
  | _, _, _, .non => .nil
  | _, _, _, .bl b => .nil
  | _, _, _, .int i => .nil
  | _, _, _, .str x => .nil
  | _, _, _, .lst h1 h2 => .cons (fun od u e => by rw [h1] at e; cases e) (DenL.nof h2).up
  | _, _, _, .tup h1 h2 => (DenL.nof h2).up
  | _, _, _, .dic h1 h2 h3 => .cons h1.notTup.2.1 (DenL.nof h3).up
theorem DenL.nof : ∀ {ds : List PyData} {vs : List V} {G : Ft}, DenL K H ds vs G → NoF H G
  | _, _, _, .nil => .nil
  | _, _, _, .cons h1 h2 => (Den.nof h1).append (DenL.nof h2)
end
theorem DenV.nof {d : DV} {v : V} {G : Ft} (h : DenV K Z H d v G) : NoF H G := by
  cases h with
  | d h => exact h.nof
  | s h => exact .nil
  | o h1 h2 h3 h4 => exact .cons (fun od u e => by rw [h2] at e; cases e) h4.nof.up
  | x h1 h2 h3 h4 h5 => exact .cons (fun od u e => by rw [h4] at e; cases e) h5.nof.up
  | f h1 h2 h3 h4 h5 => exact .cons (fun od u e => by rw [h2] at e; cases e) (.cons (fun od u e => by rw [h3] at e; cases e) h5.nof.up)
  | z h1 h2 h3 => exact h3.nof.up
  | g h1 => exact .nil
  | k h1 => exact .nil
  | e h1 h2 h3 h4 => exact .cons (fun od u e => by rw [h2] at e; cases e) (.cons (fun od u e => by rw [h3] at e; cases e) h4.nof.up)
  | e0 h1 h2 => exact .cons (fun od u e => by rw [h2] at e; cases e) .nil
theorem SimF.nof : ∀ {R : List Root} {F : List (Addr × Bool)}, SimF K Z H R F → ∀ p ∈ F, ∀ od u, H p.1 ≠ some (.frz od u)
  | [], F, h, p, hp => by
    obtain rfl : F = [] := h.1
    cases hp
  | r :: R, F, h, p, hp => by
    obtain ⟨G, F1, hd, q, rfl⟩ := h
    rcases List.mem_append.mp hp with hp | hp
    · obtain ⟨z, hz, rfl⟩ := List.mem_map.mp hp
      exact hd.nof z hz
    · exact SimF.nof q p hp
theorem DenV.unlock {a : Addr} {od : Obj} {u : HO} {d : DV} {v : V} {G : Ft} (ha : H a = some (.frz od u)) (hu : ∀ xs, u ≠ .lst xs) (nz : noRef d = true ∨ v ≠ .ref a) (h : DenV K Z H d v G) : DenV K Z (upd H a u) d v G := by
  have k := keepN_upd ha
  have nref : ∀ {b : Addr}, V.ref b ≠ .ref a → b ≠ a := fun h e => h (by rw [e])
  cases h with
  | d h => exact .d (h.keepN k)
  | s h =>
    rcases h with h | ⟨ob, h⟩
    · exact .s (.inl h)
    · refine .s (.inr ⟨ob, ?_⟩)
      rw [upd_ne]
      · exact h
      · intro e
        rw [e, ha] at h
        cases h
        exact hu _ rfl
  | o h1 h2 h3 h4 => exact .o h1 (k _ _ h2 fun _ _ z => nomatch z) h3 (h4.keepN k)
  | x h1 h2 h3 h4 h5 => exact .x h1 h2 h3 (k _ _ h4 fun _ _ z => nomatch z) (h5.keepN k)
  | f h1 h2 h3 h4 h5 => exact .f h1 (k _ _ h2 fun _ _ z => nomatch z) (k _ _ h3 fun _ _ z => nomatch z) h4 (h5.keepN k)
  | z h1 h2 h3 =>
    have hb := nref (nz.resolve_left (by simp [noRef]))
    refine .z ?_ h2 (h3.keepN k)
    rcases h1 with ⟨od', kvs, q, r⟩ | ⟨od', kvs, q, r⟩
    · exact .inl ⟨od', kvs, by rw [upd_ne hb]; exact q, r⟩
    · exact .inr ⟨od', kvs, by rw [upd_ne hb]; exact q, r⟩
  | g h1 => exact .g h1
  | k h1 =>
    have hb := nref (nz.resolve_left (by simp [noRef]))
    exact .k (by rw [upd_ne hb]; exact h1)
  | e h1 h2 h3 h4 => exact .e h1 (k _ _ h2 fun _ _ z => L2.exo_frz z) (k _ _ h3 fun _ _ z => by unfold L2.exd at z; cases z) (h4.keepN k)
  | e0 h1 h2 => exact .e0 h1 (k _ _ h2 fun _ _ z => L2.exo_frz z)
theorem TabH.keepN (t : TabH Z H) (k : KeepN H H') : TabH Z H' := fun p hp => by
  obtain ⟨ps, h1, h2, h3⟩ := t p hp
  refine ⟨ps, k _ _ h1 (fun _ _ z => nomatch z), h2, fun pos cv hc => ?_⟩
  obtain ⟨c, e1, e2⟩ := h3 pos cv hc
  exact ⟨c, e1, k _ _ e2 (fun _ _ z => by unfold LamX.CodeO at z; exact nomatch z)⟩
theorem SimF.unlock {a : Addr} {od : Obj} {u : HO} (ha : H a = some (.frz od u)) (hu : ∀ xs, u ≠ .lst xs) : ∀ {R : List Root} {F : List (Addr × Bool)}, (∀ r ∈ R, noRef r.d = true ∨ r.v ≠ .ref a) → SimF K Z H R F → SimF K Z (upd H a u) R F
  | [], _, _, h => ⟨h.1, h.2.keepN (keepN_upd ha)⟩
  | r :: R, _, hR, ⟨G, F1, hd, q, e⟩ => ⟨G, F1, hd.unlock ha hu (hR r List.mem_cons_self), SimF.unlock ha hu (fun x hx => hR x (List.mem_cons_of_mem _ hx)) q, e⟩
theorem Sim.unlock0 {a : Addr} {od : Obj} {u : HO} (ha : H a = some (.frz od u)) (hu : ∀ xs, u ≠ .lst xs) (hR : ∀ r ∈ R, noRef r.d = true ∨ r.v ≠ .ref a) (h : Sim K Z H R) : Sim K Z (upd H a u) R := let ⟨F, hF, o⟩ := h; ⟨F, hF.unlock ha hu hR, o⟩
theorem Sim.unlock {a : Addr} {od : Obj} {u : HO} {m : Nat} {qs : List (PyData × PyData)} (ha : H a = some (.frz od u)) (hu : ∀ xs, u ≠ .lst xs) (hR : ∀ r ∈ R, noRef r.d = true ∨ r.v ≠ .ref a) (h : Sim K Z H (⟨m, .z qs, .ref a⟩ :: R)) :
    Sim K Z (upd H a u) (⟨m, .d (.dict qs), .ref a⟩ :: R) := by
  obtain ⟨F, hF, o⟩ := h
  have nf := hF.nof
  obtain ⟨G, F1, hd, q, rfl⟩ := hF
  cases hd with
  | @z _ ks vs _ G' h1 h2 h3 =>
    have hdic : DicAt (upd H a u) a ks vs := by
      rcases h1 with ⟨od', kvs, q, r⟩ | ⟨od', kvs, q, r⟩
      · rw [ha] at q; cases q
        exact .inl ⟨kvs, upd_same, r⟩
      · rw [ha] at q; cases q
        exact .inr ⟨kvs, upd_same, r⟩
    refine ⟨(a, decide (0 < m)) :: (tag m (up G') ++ F1), ⟨(a, 0) :: up G', F1, .d (.dic hdic h2 (h3.keepN (keepN_upd ha))), q.unlock ha hu hR, rfl⟩, ?_⟩
    refine List.pairwise_cons.mpr ⟨fun y hy e => ?_, o⟩
    have e : a = y.1 := e
    exact absurd (by rw [← e]; exact ha) (nf y hy od u)
theorem Sim.lock {n : Nat} {qs : List (PyData × PyData)} {v : V} (h : Sim K Z H (⟨n + 1, .d (.dict qs), v⟩ :: R)) :
    ∃ a u, v = .ref a ∧ H a = some u ∧ Mut (some u) ∧ (∀ xs, u ≠ .lst xs) ∧ (∀ r ∈ R, noRef r.d = true ∨ r.v ≠ .ref a) ∧ ∀ od, Sim K Z (upd H a (.frz od u)) (⟨n + 1, .z qs, .ref a⟩ :: R) := by
  have hR0 := h.drop
  obtain ⟨a, vs, rfl, hd, hl, S⟩ := h.apartD
  obtain ⟨u, hu, mu, nl⟩ : ∃ u, H a = some u ∧ Mut (some u) ∧ ∀ xs, u ≠ .lst xs := by
    rcases hd with ⟨kvs, q, _⟩ | ⟨kvs, q, _⟩
    · exact ⟨_, q, trivial, fun _ z => nomatch z⟩
    · exact ⟨_, q, trivial, fun _ z => nomatch z⟩
  have nfz : ∀ od u', H a ≠ some (.frz od u') := hd.notTup.2.1
  refine ⟨a, u, rfl, hu, mu, nl, fun r hr => ?_, fun od => ?_⟩
  · by_cases e : r.v = .ref a
    · left
      obtain ⟨G, hdr⟩ := hR0.den hr
      obtain ⟨rn, rd, rv⟩ := r
      have e : rv = .ref a := e
      subst e
      cases hdr with
      | z h1 _ _ =>
        rcases h1 with ⟨od', kvs, q, _⟩ | ⟨od', kvs, q, _⟩ <;> exact absurd q (nfz _ _)
      | k h1 => exact absurd h1 (nfz _ _)
      | _ => rfl
    · exact .inr e
  · have S2 := S.write (ob := .frz od u) hd.notTup.1 hd.notTup.2.1 hd.notTup.2.2.1 hd.notTup.2.2.2
    have S3 := S2.dropT
    obtain ⟨F, hF, o⟩ := S3
    obtain ⟨F1, F2, q1, q2, rfl⟩ := hF.append
    obtain ⟨G, hG, rfl⟩ := q1.ofKids hl
    have hz : DicZ (upd H a (.frz od u)) a (qs.map (·.1)) vs := by
      rcases hd with ⟨kvs, q, r⟩ | ⟨kvs, q, r⟩
      · rw [hu] at q; cases q
        exact .inl ⟨od, kvs, upd_same, r⟩
      · rw [hu] at q; cases q
        exact .inr ⟨od, kvs, upd_same, r⟩
    refine ⟨tag n G ++ F2, ⟨up G, F2, .z hz rfl hG, q2, ?_⟩, o⟩
    rw [tag_up]
    rfl
theorem roots_mem : ∀ {φ : List Nat} {e : Ev} {σ : St} {r : Root}, r ∈ roots φ e σ → some r.d ∈ e
  | [], e, σ, r, h => by cases e <;> simp [roots] at h
  | _ :: _, [], σ, r, h => by simp [roots] at h
  | _ :: _, d :: e, [], r, h => by cases d <;> simp [roots] at h
  | n :: φ, none :: e, v :: σ, r, h => by
    have h : r ∈ roots φ e σ := by cases v <;> exact h
    exact List.mem_cons_of_mem _ (roots_mem h)
  | n :: φ, some d :: e, none :: σ, r, h => List.mem_cons_of_mem _ (roots_mem (show r ∈ roots φ e σ from h))
  | n :: φ, some d :: e, some v :: σ, r, h => by
    have h : r ∈ ⟨n, d, v⟩ :: roots φ e σ := h
    rcases List.mem_cons.mp h with e1 | h
    · rw [e1]; exact List.mem_cons_self
    · exact List.mem_cons_of_mem _ (roots_mem h)
end
/-! ### the statement -/
def notZ : Option DV → Bool
  | some d => noRef d
  | none => true
def flZ : Fl → Bool
  | .rt d => noRef d
  | _ => true
def lockM (i : Nat) (g : M Fl) : M Fl := fun env => match slot env i with
  | some (.d (.dict qs)) => (g (env.set i (some (.z qs)))).bind fun fl e => (match slot e i with
    | some (.z qs') => if ((e.set i none).all notZ && flZ fl) = true then .ok fl (e.set i (some (.d (.dict qs')))) else .bad
    | _ => .bad)
  | _ => .bad
theorem outs_set {i : Nat} {o : Option DV} {e : Ev} : ∀ {P : List (Nat × Nat)}, (∀ p ∈ P, p.1 ≠ i) → outsAt P (e.set i o) = outsAt P e
  | [], _ => rfl
  | p :: P, h => by
    obtain ⟨j, m⟩ := p
    have hj : i ≠ j := fun e => h (j, m) List.mem_cons_self e.symm
    unfold outsAt
    rw [slot_set_ne hj, outs_set fun q hq => h q (List.mem_cons_of_mem _ hq)]
theorem outs_mem {e : Ev} : ∀ {P : List (Nat × Nat)} {outs : List DV}, outsAt P e = some outs → ∀ d ∈ outs, ∃ p ∈ P, slot e p.1 = some d
  | [], _, h, d, hd => by cases h; cases hd
  | (j, m) :: P, outs, h, d, hd => by
    unfold outsAt at h
    cases q1 : slot e j with
    | none => rw [q1] at h; cases h
    | some d1 =>
      cases q2 : outsAt P e with
      | none => rw [q1, q2] at h; cases h
      | some ds =>
        rw [q1, q2] at h
        cases h
        rcases List.mem_cons.mp hd with rfl | hd
        · exact ⟨(j, m), List.mem_cons_self, q1⟩
        · obtain ⟨p, hp, e1⟩ := outs_mem q2 d hd
          exact ⟨p, List.mem_cons_of_mem _ hp, e1⟩
theorem slot_mem {e : Ev} {j : Nat} {d : DV} (h : slot e j = some d) : some d ∈ e := by
  unfold slot at h
  cases q : e[j]? with
  | none => rw [q] at h; cases h
  | some o =>
    rw [q] at h
    have h : o = some d := h
    rw [← h]
    exact List.mem_of_getElem? q
theorem retR_mem {r : Root} : ∀ {P : List (Nat × Nat)} {outs : List DV} {pv : List V}, r ∈ retR P outs pv → r.d ∈ outs
  | (_, m) :: P, d :: ds, v :: vs, h => by
    have h : r ∈ ⟨m, d, v⟩ :: retR P ds vs := h
    rcases List.mem_cons.mp h with rfl | h
    · exact List.mem_cons_self
    · exact List.mem_cons_of_mem _ (retR_mem h)
  | [], outs, pv, h => by cases outs <;> simp [retR] at h
  | _ :: _, [], pv, h => by simp [retR] at h
  | _ :: _, _ :: _, [], h => by simp [retR] at h
theorem set_same {φ : List Nat} {i m : Nat} (h : φ[i]? = some m) : φ.set i m = φ := by
  apply List.ext_getElem?
  intro j
  by_cases hj : i = j
  · subst hj
    rw [List.getElem?_set_self (List.getElem?_eq_some_iff.mp h).1, h]
  · rw [List.getElem?_set_ne hj]
end Lk
namespace Lk
open PySem PySem.Spec L2
section
variable {X : Cx} {Z : ClT} {W : WX} {P : List (Nat × Nat)} {kr : Nat} {φ φ1 : List Nat} {ψ : SF} {g : M Fl} {st : Stmt} {σ : St} {H : Hp} {L : List Root} {env : Ev}
theorem Pok.both {i m : Nat} {pv : List V} {w : V} (h : Pok ((i, m) :: P) (w :: pv) σ) : σ[i]? = some (some w) ∧ Pok P pv σ := by
  cases h with
  | cons a b => exact ⟨a, b⟩
theorem js_lock {i n : Nat} (hi : φ[i]? = some (n + 1)) (hP : ∀ p ∈ P, p.1 ≠ i) (h : JS X Z W ((i, 0) :: P) kr φ st ψ g) : JS X Z W P kr φ st ψ (lockM i g) := by
  refine ps_imp (ps_lock h) fun D σ H ⟨L, env, pv, S, hp, q⟩ => ?_
  unfold lockM at q
  cases q0 : slot env i with
  | none => rw [q0] at q; exact q.elim
  | some d =>
    rw [q0] at q
    cases d with
    | d x =>
      cases x with
      | dict qs =>
        have q := q.bind
        obtain ⟨n', v, h1, h2, pr⟩ := S.al.get q0
        rw [hi] at h1; cases h1
        have S0 : Sim X.K Z H (⟨n + 1, .d (.dict qs), v⟩ :: (roots φ (env.set i none) σ ++ L)) := S.sim.perm (List.Perm.append_right L pr)
        obtain ⟨a, u, rfl, hu, mu, nl, hR, hlk⟩ := S0.lock
        refine ⟨a, u, hu, mu, fun od => ?_⟩
        have S1 := hlk od
        have wit : DenV X.K Z (upd H a (.frz od u)) (.k od u) (.ref a) [] := .k upd_same
        have aE := S.al.setE (d' := .z qs) (n + 1) h2
        rw [set_same hi] at aE
        have S2 : Sim X.K Z (upd H a (.frz od u)) (roots φ (env.set i (some (.z qs))) σ ++ (⟨0, .k od u, .ref a⟩ :: L)) := by
          have S3 : Sim X.K Z (upd H a (.frz od u)) (⟨0, .k od u, .ref a⟩ :: (roots φ (env.set i (some (.z qs))) σ ++ L)) := (S1.perm (List.Perm.append_right L aE.2.symm)).scal wit
          refine S3.perm ?_
          exact List.perm_middle.symm
        refine ⟨⟨0, .k od u, .ref a⟩ :: L, env.set i (some (.z qs)), .ref a :: pv, ⟨S2, aE.1, fun _ z => nomatch z⟩, .cons h2 hp, (Wish.frame (A := [⟨0, .k od u, .ref a⟩]) q).mono fun fl e q1 => ?_⟩
        -- the end
        cases q2 : slot e i with
        | none => rw [q2] at q1; exact q1.elim
        | some d2 =>
          rw [q2] at q1
          cases d2 with
          | z qs' =>
            simp only at q1
            by_cases hc : ((e.set i none).all notZ && flZ fl) = true
            rotate_left
            · rw [if_neg hc] at q1; exact q1.elim
            rw [if_pos hc] at q1
            obtain ⟨hc1, hc2⟩ := Bool.and_eq_true_iff.mp hc
            have hall : ∀ o ∈ e.set i none, notZ o = true := List.all_eq_true.mp hc1
            have back : ∀ {χ : List Nat} {σ' : St} {H' : Hp}, Stt X.K Z χ e [] σ' H' (⟨0, .k od u, .ref a⟩ :: L) → Pok ((i, 0) :: P) (.ref a :: pv) σ' →
                H' a = some (.frz od u) ∧ Stt X.K Z χ (e.set i (some (.d (.dict qs')))) [] σ' (upd H' a u) L ∧ Pok P pv σ' := by
              intro χ σ' H' s hp'
              obtain ⟨p1, p2⟩ := hp'.both
              have hfr : H' a = some (.frz od u) := by
                obtain ⟨G, hd⟩ := s.sim.den (r := ⟨0, .k od u, .ref a⟩) (List.mem_append_right _ (List.mem_append_right _ List.mem_cons_self))
                cases hd with
                | k z => exact z
              obtain ⟨m, v', g1, g2, gp⟩ := s.al.get q2
              rw [p1] at g2; cases g2
              have s1 : Sim X.K Z H' (⟨m, .z qs', .ref a⟩ :: (roots χ (e.set i none) σ' ++ L)) := by
                have s0 : Sim X.K Z H' (roots χ e σ' ++ (⟨0, .k od u, .ref a⟩ :: L)) := s.sim
                exact (s0.perm (List.Perm.append_right _ gp)).sub (.cons_cons _ (List.Sublist.append_left (List.sublist_cons_self _ _) _))
              have s2 := s1.unlock hfr nl fun r hr => by
                rcases List.mem_append.mp hr with hr | hr
                · exact .inl (hall _ (roots_mem hr))
                · exact hR r (List.mem_append_right _ hr)
              have aE' := s.al.setE (d' := .d (.dict qs')) m p1
              rw [set_same g1] at aE'
              exact ⟨hfr, ⟨s2.perm (List.Perm.append_right L aE'.2.symm), aE'.1, fun _ z => nomatch z⟩, p2⟩
            cases fl with
            | nx =>
              intro σ' H' s hp'
              obtain ⟨b1, b2, b3⟩ := back s hp'
              exact ⟨b1, (show ∀ σ' H', Stt X.K Z ψ.n (e.set i (some (.d (.dict qs')))) [] σ' H' L → Pok P pv σ' → D.nx σ' H' from q1) _ _ b2 b3⟩
            | br =>
              intro σ' H' s hp'
              obtain ⟨b1, b2, b3⟩ := back s hp'
              exact ⟨b1, (show ∀ σ' H', Stt X.K Z ψ.b (e.set i (some (.d (.dict qs')))) [] σ' H' L → Pok P pv σ' → D.bk σ' H' from q1) _ _ b2 b3⟩
            | ct =>
              intro σ' H' s hp'
              obtain ⟨b1, b2, b3⟩ := back s hp'
              exact ⟨b1, (show ∀ σ' H', Stt X.K Z ψ.c (e.set i (some (.d (.dict qs')))) [] σ' H' L → Pok P pv σ' → D.ct σ' H' from q1) _ _ b2 b3⟩
            | rt d =>
              obtain ⟨outs, h3, h4⟩ : ∃ outs, outsAt P (e.set i (some (.d (.dict qs')))) = some outs ∧ ∀ v H', Sim X.K Z H' (⟨kr, d, v⟩ :: (retR P outs pv ++ L)) → D.rt v H' := q1
              rw [outs_set hP] at h3
              refine ⟨.z qs' :: outs, ?_, fun v H' s => ?_⟩
              · show (match slot e i, outsAt P e with
                  | some d, some ds => some (d :: ds)
                  | _, _ => none) = _
                rw [q2, h3]
              · have s0 : Sim X.K Z H' (⟨kr, d, v⟩ :: (⟨0, .z qs', .ref a⟩ :: (retR P outs pv ++ (⟨0, .k od u, .ref a⟩ :: L)))) := s
                have hfr : H' a = some (.frz od u) := by
                  obtain ⟨G, hd⟩ := s0.den (r := ⟨0, .k od u, .ref a⟩) (List.mem_cons_of_mem _ (List.mem_cons_of_mem _ (List.mem_append_right _ List.mem_cons_self)))
                  cases hd with
                  | k z => exact z
                have s1 : Sim X.K Z H' (⟨kr, d, v⟩ :: (retR P outs pv ++ L)) := s0.sub (.cons_cons _ (.cons _ (List.Sublist.append_left (List.sublist_cons_self _ _) _)))
                refine ⟨hfr, h4 _ _ (s1.unlock0 hfr nl fun r hr => ?_)⟩
                rcases List.mem_cons.mp hr with rfl | hr
                · exact .inl hc2
                rcases List.mem_append.mp hr with hr | hr
                · left
                  obtain ⟨p, hpP, hs⟩ := outs_mem h3 _ (retR_mem hr)
                  have hs2 : slot (e.set i none) p.1 = some r.d := by rw [slot_set_ne (fun z => hP p hpP z.symm)]; exact hs
                  exact hall _ (slot_mem hs2)
                · exact hR r (List.mem_append_right _ hr)
          | _ => exact q1.elim
      | _ => exact q.elim
    | _ => exact q.elim
/-! ### its keys -/
def zI (i : Nat) : M (List DV) := fun env => match slot env i with
  | some (.z qs) => .ok (qs.map fun p => .d p.1) env
  | _ => .bad
theorem Sim.key {n : Nat} {k : Key} {R : List Root} (S : Sim X.K Z H R) : Sim X.K Z H (⟨n, .d (Lk.keyD k), kV k⟩ :: R) := by
  cases k with
  | inl i => exact S.cint
  | inr x => exact S.cstr
theorem denL_keys {K : PySem.W.Frag} : ∀ ks : List Key, DenL K H (ks.map keyD) (ks.map kV) []
  | [] => .nil
  | k :: ks => by
    have h : Den K H (keyD k) (kV k) [] := by
      cases k with
      | inl i => exact .int i
      | inr x => exact .str x
    exact .cons (G := []) (G' := []) h (denL_keys ks)
theorem ji_z {tg : Expr} {i : Nat} {x : Str} {p : Pos} (hN : X.N[i]? = some x) (hv : Vis X.env.scope x) (hdb : (x == ("__debug__" : Str)) = false) (hcd : (x == ("__classdict__" : Str)) = false) : JI X Z W φ tg (.Name x p) φ (zI i) := by
  refine pi_imp (pi_keys (pe_var hN hv hdb hcd)) fun σ H R ⟨L, env, S, h⟩ => ?_
  unfold zI at h
  cases q : slot env i with
  | none => rw [q] at h; exact h.elim
  | some d =>
    rw [q] at h
    cases d with
    | z qs =>
      obtain ⟨n, v, h1, h2, hp⟩ := S.al.get q
      obtain ⟨G, hd⟩ := S.sim.den (r := ⟨n, .z qs, v⟩) (List.mem_append_right _ (List.mem_append_left _ (hp.mem_iff.mpr List.mem_cons_self)))
      cases hd with
      | @z a ks vs _ G hz hk hl =>
        have h : ∀ J held H', Stt X.K Z φ env [] σ H' (held ++ L) → IterOk X.K Z J held (qs.map fun p => .d p.1) → R J H' := h
        have go : ∀ od u, H a = some (.frz od u) → ∀ J, IterOk X.K Z J [⟨0, .k od u, .ref a⟩] (qs.map fun p => .d p.1) → R J H := by
          intro od u hu J hJ
          refine h J [⟨0, .k od u, .ref a⟩] H ⟨?_, S.al, fun _ z => nomatch z⟩ hJ
          have s : Sim X.K Z H (⟨0, .k od u, .ref a⟩ :: (roots φ env σ ++ L)) := Sim.scal S.sim (.k hu)
          exact s.perm (show (⟨0, .k od u, .ref a⟩ :: (roots φ env σ ++ L)).Perm (roots φ env σ ++ (⟨0, .k od u, .ref a⟩ :: L)) from List.perm_middle.symm)
        have fr : ∀ {od u H R}, Sim X.K Z H ([⟨0, .k od u, .ref a⟩] ++ R) → H a = some (.frz od u) := fun {od u H R} s => by
          obtain ⟨G, hd⟩ := s.den (r := ⟨0, .k od u, .ref a⟩) (List.mem_append_left _ List.mem_cons_self)
          cases hd with
          | k z => exact z
        have qk : (qs.map fun p => (.d p.1 : DV)) = ks.map .d := by rw [← hk, List.map_map]; rfl
        rw [qk] at go
        refine ⟨.ref a, h2, ?_⟩
        rcases hz with ⟨od, kvs, e1, e2, e3⟩ | ⟨od, kvs, e1, e2, e3⟩
        · refine ⟨a, od, rfl, .inl ⟨kvs, e1, go od _ e1 _ fun i H' R' s => ?_⟩⟩
          have hf := fr s
          rw [e2]
          refine ⟨fun hi => ⟨hf, by simpa using hi⟩, fun d hd => ?_⟩
          rw [List.map_map, List.getElem?_map] at hd
          obtain ⟨p, hp, rfl⟩ := Option.map_eq_some_iff.mp hd
          refine ⟨⟨hf, (List.getElem?_eq_some_iff.mp hp).1⟩, fun y H'' ⟨eH, k, v, hk, ey⟩ => ?_⟩
          subst eH; subst ey
          rw [hp] at hk
          cases hk
          exact Sim.key s
        · refine ⟨a, od, rfl, .inr ⟨kvs, e1, go od _ e1 _ fun i H' R' s => ?_⟩⟩
          have hf := fr s
          rw [e2]
          refine ⟨fun hi => ⟨hf, by simpa using hi⟩, fun d hd => ?_⟩
          rw [List.map_map, List.getElem?_map] at hd
          obtain ⟨p, hp, rfl⟩ := Option.map_eq_some_iff.mp hd
          refine ⟨⟨hf, (List.getElem?_eq_some_iff.mp hp).1⟩, fun y H'' ⟨eH, k, v, q, hk, ey, hq⟩ => ?_⟩
          subst eH; subst ey
          rw [hp] at hk
          cases hk
          exact Sim.scal s (.d (.tup (G := []) hq (denL_keys k)))
    | _ => exact h.elim
end
end Lk
namespace LkKw
open PySem PySem.Spec PyProof.Rows L2 PySem.HandSPX PySem.F
section
variable {M : Model} {A : Around} {E : Value → Shared → Prop} {h : Heap} {g : Array GenState} {d : Drawn} {t : Nat} {os : OsState}
variable {nm q : Str} {C N : Addr} {bs bm bmB : List Value} {hdct : Bool} {sn : List Str} {sub : List Value} {ab : Bool} {col : Option Bool} {dd : Option Addr} {k0 k1 k2 k3 k5 : Option Value} {B newId initId : String} {p : Str} {y : Value}
theorem check_new_kw (F : ExcBaseFacts B newId initId bmB) (hT : ∀ X : String, bm.contains (.type X) = bmB.contains (.type X)) {Q : Unit → Shared → Prop} (hp : p = "given" ∨ p = "index")
    (hC : h.get? C = some (excClassObj nm q C N bs bm hdct sn sub ab col dd k0 k1 k2 k3 k5 newId)) (hq : Q () ⟨h, g, d, t, os⟩) : wpAny M A (checkBuiltinCall newId ⟨[.ref C], [(p, y)]⟩) Q E ⟨h, g, d, t, os⟩ := by
  have hcont : (Value.ref C :: bm).contains (.type B) = true := by rw [List.contains_cons, hT, F.hasB, Bool.or_true]
  have hstar := F.noStar
  simp only [checkBuiltinCall, F.newKind, F.newSplit, F.newRow]
  repeat (first | refine wpAny_loadPart_at hC ?_ | (refine wpAny_isSubtype_exc hC ?_; rw [hcont]) | refine wpAny_staticBase_exc hC ?_ | refine wpAny_madeBy_exc hC ?_ | simp only [bne_self_eq_false, Bool.false_eq_true, if_false] | wp_step)
  exact hq
end
section
variable {prog : Program} {w : World} {A : Around} {E : Value → Shared → Prop} {R : Result → Shared → Prop} {h : Heap} {g : Array GenState} {d : Drawn} {t : Nat} {os : OsState}
variable {nm q : Str} {C N : Addr} {bs bm bmB : List Value} {hdct : Bool} {sn : List Str} {sub : List Value} {ab : Bool} {col : Option Bool} {dd : Option Addr} {k0 k1 k2 k3 k5 : Option Value} {B newId initId : String} {p : Str} {y : Value}
theorem new_kw (F : ExcBaseFacts B newId initId bmB) (hT : ∀ X : String, bm.contains (.type X) = bmB.contains (.type X)) (hp : p = "given" ∨ p = "index")
    (hC : h.get? C = some (excClassObj nm q C N bs bm hdct sn sub ab col dd k0 k1 k2 k3 k5 newId))
    (hq : R (.ok (.ret (.ref (h.objs.size + 1)))) ⟨(h.push { cls := .type "tuple", data := .seq #[] }).push
      { cls := .ref C, data := .fields #[.ref h.objs.size, .none, .none, .none, .bool false, .none] }, g, d, t, os⟩) :
    codeAny (model prog w) A (.builtin newId ⟨[.ref C], [(p, y)]⟩) R ⟨h, g, d, t, os⟩ := by
  have hends := F.ends
  have hcB : (Value.ref C :: bm).contains (.type B) = true := by rw [List.contains_cons, hT, F.hasB, Bool.or_true]
  have hcA : (Value.ref C :: bm).contains (.type "AttributeError") = false := by rw [List.contains_cons, hT, F.noAttr]; rfl
  have hcN : (Value.ref C :: bm).contains (.type "NameError") = false := by rw [List.contains_cons, hT, F.noName]; rfl
  have hrest : ([] : List Value).length ≤ sizeLine := by simp
  refine codeAny_builtinAt F.entry ?_
  unfold Builtin.«BaseException.__new__»
  refine PySem.wpAt_bind ?_
  show PySem.wpAt _ _ _ (stack >>= _) _ _ _
  refine PySem.wpAt_bind (PySem.wpAt_stack fun p below => PySem.wpAt_of_wpAny ?_)
  wp_walk
  refine PySem.wpAt_of_wpAny ?_
  rw [F.owner]
  repeat (first | with_reducible refine wpAny_madeHere_exc F.canon hC ?_ | with_reducible refine wpAny_loadPart_at hC ?_ | (with_reducible refine wpAny_isSubtype_exc hC ?_; first | rw [hcB] | rw [hcA] | rw [hcN]) | wp_step)
  show R _ _
  rw [Heap.size_push]
  exact hq
theorem type_call_kw (F : ExcBaseFacts B newId initId bmB) (hT : ∀ X : String, bm.contains (.type X) = bmB.contains (.type X)) {fI : Addr} {Q : Fin → Shared → Prop} (hp : p = "given" ∨ p = "index")
    (hC : h.get? C = some (excClassObj nm q C N bs bm hdct sn sub ab col dd k0 k1 k2 k3 k5 newId))
    (hi : W.Looks (model prog w) h (typeLookup (.ref C) "__init__") (some (.ref fI))) (hb : ∀ self, W.Looks (model prog w) h (bindSpecial (.ref fI) self) (.ref fI, [self]))
    (hq : codeAny (model prog w) A (.call (.ref fI) ⟨[.ref (h.objs.size + 1)], [(p, y)]⟩)
      (fun r s' => match r with | .ok (.ret v) => v = .none ∧ Q (.done (.ret (.ref (h.objs.size + 1)))) s' | .ok _ => False | .error e => E e s')
      ⟨(h.push (W.kdv_tup [])).push (excO C h.objs.size), g, d, t, os⟩) :
    wpAny (model prog w) A (Builtin.«type.__call__» ⟨[.ref C], [(p, y)]⟩) Q E ⟨h, g, d, t, os⟩ := by
  repeat (first | with_reducible refine wpAny_loadPart_at hC ?_ | with_reducible refine wpAny_madeBy_exc hC ?_ | wp_step)
  refine codeAny_call_builtin_code (Code.quiet_builtin _ F.quiet) (check_new_kw F hT hp hC ?_)
  refine new_kw F hT hp hC ?_
  show wpAny _ _ _ _ _ _
  have k : ∀ b o, h.get? b = some o → ((h.push (W.kdv_tup [])).push (excO C h.objs.size)).get? b = some o := fun b o e => Heap.get?_push_of_some _ (Heap.get?_push_of_some _ e)
  have hC₁ := k _ _ hC
  have hget : ((h.push (W.kdv_tup [])).push (excO C h.objs.size)).get? (h.objs.size + 1) = some (excO C h.objs.size) := by heap_get
  have hcC : (Value.ref C :: bm).contains (.ref C) = true := by simp
  have i1 := hi.keeps k
  have b1 := (hb (.ref (h.objs.size + 1))).keeps k
  unfold isInstance
  repeat (first | with_reducible refine wpAny_loadPart_at hget ?_ | (with_reducible refine wpAny_isSubtype_exc hC₁ ?_; rw [hcC]) | wp_step)
  show wpAny _ _ (typeLookup (.ref C) _) _ _ _
  refine i1.at ?_
  refine wpAny_holding (wpAny_bind (b1.at ?_))
  refine wpAny_bind (wpAny_call (codeAny_mono hq fun r s' z => ?_))
  rcases r with e | (v | _ | _ | _) <;> first | exact z | exact z.elim | skip
  obtain ⟨rfl, z⟩ := z
  first
    | exact wpAny_pure (wpAny_pure z)
    | (wp_walk; exact z)
theorem call_kw (F : ExcBaseFacts B newId initId bmB) (hT : ∀ X : String, bm.contains (.type X) = bmB.contains (.type X)) {fI : Addr} (hp : p = "given" ∨ p = "index")
    (hC : h.get? C = some (excClassObj nm q C N bs bm hdct sn sub ab col dd k0 k1 k2 k3 k5 newId))
    (hi : W.Looks (model prog w) h (typeLookup (.ref C) "__init__") (some (.ref fI))) (hb : ∀ self, W.Looks (model prog w) h (bindSpecial (.ref fI) self) (.ref fI, [self]))
    (hq : codeAny (model prog w) (A.under (.builtin "type.__call__" ⟨[.ref C], [(p, y)]⟩)) (.call (.ref fI) ⟨[.ref (h.objs.size + 1)], [(p, y)]⟩) (W.InitBack (h.objs.size + 1) R)
      ⟨(h.push (W.kdv_tup [])).push (excO C h.objs.size), g, d, t, os⟩) :
    codeAny (model prog w) A (.call (.ref C) ⟨[], [(p, y)]⟩) R ⟨h, g, d, t, os⟩ := by
  have f1 := tc_lookup
  have f2 := tc_bind (.ref C)
  have hTy : (⟨h, g, d, t, os⟩ : Shared).TypeIs (.ref C) "type" := ⟨_, hC, rfl⟩
  refine codeAny_of_tree ?_
  show wpAny _ _ (callAny (.ref C) _) _ _ _
  repeat (any_goals (first | assumption | with_reducible refine wpAny_loadPart_at hC ?_ | wp_step))
  refine ⟨rfl, ?_⟩
  refine codeAny_call_builtin_at (Code.quiet_builtin _ (by decide +kernel)) entry_typeCall (wpAny_check_type_call_sub hC (type_call_kw F hT hp hC hi hb ?_))
  refine codeAny_mono hq fun r s' z => ?_
  exact z
end
end LkKw
namespace Lk
open PySem PySem.Spec L2
open PyProof.Rows (envOfC)
section
variable {K : PySem.W.Frag} {Z : ClT} {H H' : Hp} {R : List Root}
theorem Sim.mkE {c : Nat} {x dx C : Addr} {g : PyData} {v : V} (h : Sim K Z H (⟨0, .d g, v⟩ :: R)) (hZ : Z c = some C) (hc : c < 200) (hx : H x = none) (hdx : H dx = none) (ne : dx ≠ x) :
    Sim K Z (upd (upd (upd H x (exo x C none)) dx (exd dx [(fldOf c, v)])) x (exo x C (some dx))) (⟨0, .e c (some g), .ref x⟩ :: R) := by
  have gr : ∀ a o, H a = some o → upd (upd (upd H x (exo x C none)) dx (exd dx [(fldOf c, v)])) x (exo x C (some dx)) a = some o := fun a o e => by
    rw [upd_ne (ne_of_none e hx), upd_ne (ne_of_none e hdx), upd_ne (ne_of_none e hx)]; exact e
  obtain ⟨F, hF, o⟩ := h
  have th := hF.there
  obtain ⟨G, F1, hd, hF1, rfl⟩ := hF.grow gr
  cases hd with
  | d hd =>
    refine ⟨(x, false) :: (dx, false) :: (tag 0 G ++ F1), ⟨(x, 0) :: (dx, 0) :: up G, F1, .e ⟨hZ, hc⟩ upd_same (by rw [upd_ne ne, upd_same]) hd, hF1, ?_⟩, ?_⟩
    · rw [tag_cons, tag_cons, tag_up]; rfl
    · refine List.pairwise_cons.mpr ⟨fun y hy z => ?_, List.pairwise_cons.mpr ⟨fun y hy z => ?_, o⟩⟩
      · have z : x = y.1 := z
        rcases List.mem_cons.mp hy with e | hy
        · rw [e]; exact ⟨rfl, rfl⟩
        · obtain ⟨o', e'⟩ := th y hy
          rw [← z, hx] at e'
          cases e'
      · have z : dx = y.1 := z
        obtain ⟨o', e'⟩ := th y hy
        rw [← z, hdx] at e'
        cases e'
theorem Sim.mkE0 {c : Nat} {x C : Addr} (h : Sim K Z H R) (hZ : Z c = some C) (hc : c < 200) (hx : H x = none) : Sim K Z (upd H x (exo x C none)) (⟨0, .e c none, .ref x⟩ :: R) := by
  have gr : ∀ a o, H a = some o → upd H x (exo x C none) a = some o := fun a o e => by
    rw [upd_ne (ne_of_none e hx)]; exact e
  obtain ⟨F, hF, o⟩ := h
  have th := hF.there
  refine ⟨(x, false) :: F, ⟨[(x, 0)], F, .e0 ⟨hZ, hc⟩ upd_same, hF.grow gr, rfl⟩, List.pairwise_cons.mpr ⟨fun y hy z => ?_, o⟩⟩
  have z : x = y.1 := z
  obtain ⟨o', e'⟩ := th y hy
  rw [← z, hx] at e'
  cases e'
/-- the exception that a root denotes: its class, its dict -/
theorem Sim.ofE {n c : Nat} {g : Option PyData} {v : V} (h : Sim K Z H R) (hr : (⟨n, .e c g, v⟩ : Root) ∈ R) : ∃ a C, v = .ref a ∧ Z c = some C ∧ c < 200 ∧
    ((∃ d w, H a = some (exo a C (some d)) ∧ H d = some (exd d [(fldOf c, w)]) ∧ ∀ x, g = some x → n ≤ 1 → Sim K Z H (⟨0, .d x, w⟩ :: R)) ∨ (g = none ∧ H a = some (exo a C none))) := by
  obtain ⟨F, hF, o⟩ := id h
  obtain ⟨G, hd, hm⟩ := hF.mem hr
  cases hd with
  | @e _ a d C x w G h1 h2 h3 h4 =>
    refine ⟨a, C, rfl, h1.1, h1.2, .inl ⟨d, w, h2, h3, fun x' e hn => ?_⟩⟩
    cases e
    refine ⟨tag 0 G ++ F, ⟨G, F, .d h4, hF, rfl⟩, o.more fun p hp => ?_⟩
    have q' : ∀ p ∈ tag n (up G), p ∈ F := fun p hp => hm p (by rw [tag_cons, tag_cons]; exact List.mem_cons_of_mem _ (List.mem_cons_of_mem _ hp))
    refine tag0_in (G := up G) q' (fun p hp => Nat.le_trans hn (mem_up hp)) p ?_
    rw [tag0_up]; exact hp
  | e0 h1 h2 => exact ⟨_, _, rfl, h1.1, h1.2, .inr ⟨rfl, h2⟩⟩
end
section
variable {X : Cx} {pins : List (Addr × Obj)} {σ : St} {H : Hp} {s : Shared} {a C d : Addr}
/-- such an exception, seen as an instance -/
theorem exo_inst {w : V} {fl : Str} (I : Inv X pins σ H s) (e : H a = some (exo a C (some d))) (ed : H d = some (exd d [(fl, w)])) :
    ∃ ox od u, PySem.W.InstAt s.heap a ox C (some od) ∧ PySem.W.lookIn fl od = some (some u) ∧ RelV w u := by
  obtain ⟨t1, ho⟩ := exo_at I.hok e
  obtain ⟨mA, hns, hr⟩ := exd_at I.hok ed
  obtain ⟨od, hod, hl⟩ := lookIn_ns hns
  obtain ⟨u, hu, ru⟩ := RelO.some_of (v := w) (o := mA fl) (by have := hr fl; simpa [List.lookup] using this)
  exact ⟨_, od, u, ⟨ho, rfl, rfl, hod⟩, by rw [hl, hu], ru⟩
theorem exo_inst0 (I : Inv X pins σ H s) (e : H a = some (exo a C none)) : ∃ ox, PySem.W.InstAt s.heap a ox C none := by
  obtain ⟨t1, ho⟩ := exo_at I.hok e
  exact ⟨_, ho, rfl, rfl, trivial⟩
end
section
variable {X : Cx}
/-- e.f, e an own exception held as a value -/
theorem pe_ef {e : Expr} {te : TE} {pos : Pos} {n : Str} (he : PE X e te) (hb : attributeBase e n X.env (eval e X.env) = eval e X.env) :
    PE X (.Attribute e n pos) (fun σ H Q => te σ H fun x H1 => ∃ (a C d : Addr) (w : V), x = .ref a ∧ H1 a = some (exo a C (some d)) ∧ H1 d = some (exd d [(n, w)]) ∧ XfC X.K C ∧ PySem.W.findIn X.K (.ref C) n = some none ∧ Q w H1) := by
  refine ⟨fun pins s σ H Q I h => ?_⟩
  refine attr_of hb (thn (he.run pins s σ H _ I h) fun u s1 ⟨x, H1, I1, rx, a, C, d, w, ex, ea, ed, T, hno, q⟩ => ?_)
  subst ex
  obtain rfl : u = Value.ref a := rx
  obtain ⟨ox, od, u, J, hl, ru⟩ := exo_inst I1 ea ed
  exact HandSPX.exc_get I1.kIn J T.ga T.gg T.exC (PySem.W.findObj_own T.hdC hno rfl hl) (handed_of ru) ⟨w, H1, I1.tok _, ru, q⟩
/-- an own exception at a, of the class C -/
def ExAt (H : Hp) (a C : Addr) : Prop := (∃ d fl w, H a = some (exo a C (some d)) ∧ H d = some (exd d [(fl, w)])) ∨ H a = some (exo a C none)
theorem exAt_kit {pins : List (Addr × Obj)} {σ : St} {H : Hp} {s : Shared} {a C : Addr} (I : Inv X pins σ H s) (T : ExcC X.K C) (e : ExAt H a C) : ∃ P : Heap → Prop, PySem.W.KitX X.K (.ref a) (.ref C) P ∧ P s.heap := by
  have hcl : (PySem.W.clsIn X.K C).isSome = true := by
    obtain ⟨cd, hc, _⟩ := PySem.W.any_some T.hd
    rw [hc]
    rfl
  rcases e with ⟨d, fl, w, e1, e2⟩ | e1
  · obtain ⟨ox, od, u, J, _, _⟩ := exo_inst I e1 e2
    exact ⟨_, PySem.W.kitx_exc hcl T.hg T.hk T.hs T.ha T.hn T.ht T.hm, J⟩
  · obtain ⟨ox, J⟩ := exo_inst0 I e1
    exact ⟨_, PySem.W.handS_kitx_exc T.hg T.hk T.hs T.hd T.ha T.hn T.ht T.hm, J⟩
def rIsEv (K : PySem.W.Frag) : List V → Hp → VK → Prop := fun xs H Q => ∃ (a C : Addr) (c : V) (u : Value) (b : Bool), xs = [.ref a, c] ∧ ClsV c u ∧ ExAt H a C ∧ ExcC K C ∧ PySem.W.kitOne K (.ref C) u = some b ∧ Q (.bl b) H
def rIsEt (K : PySem.W.Frag) : List V → Hp → VK → Prop := fun xs H Q => ∃ (a C tp : Addr) (cs : List V) (us : List Value) (b : Bool), xs = [.ref a, .ref tp] ∧ H tp = some (.tup cs) ∧ Paired ClsV cs us ∧ ExAt H a C ∧ ExcC K C ∧ PySem.W.kitAny K (.ref C) us = some b ∧ Q (.bl b) H
theorem call_isEv : CallR X (.builtin "isinstance") (rIsEv X.K) := by
  intro pins s σ H xs us Q I r h
  obtain ⟨a, C, c, u, b, rfl, k, ea, T, e, q⟩ := h
  obtain ⟨u1, u2, rfl, r1, r2⟩ := vals2 r
  have e2 := k.eq r2
  subst e2
  cases (show u1 = Value.ref a from r1)
  obtain ⟨P, Zk, p⟩ := exAt_kit I T ea
  exact PySem.W.kia_one Zk I.kIn p e (fun z => nomatch z) fun tk => ⟨.bl b, H, I.tok tk, rfl, q⟩
theorem call_isEt : CallR X (.builtin "isinstance") (rIsEt X.K) := by
  intro pins s σ H xs us Q I r h
  obtain ⟨a, C, tp, cs, ws, b, rfl, hT, k, ea, T, e, q⟩ := h
  obtain ⟨u1, u2, rfl, r1, r2⟩ := vals2 r
  cases (show u1 = Value.ref a from r1)
  cases (show u2 = Value.ref tp from r2)
  obtain ⟨P, Zk, p⟩ := exAt_kit I T ea
  obtain ⟨_, its, rv, o, h1, h2, n, h3⟩ := (show ObjOk X.prog X.w H s.heap tp (.tup cs) from I.hok tp _ hT)
  have e3 := ClsV.all k rv
  subst e3
  obtain ⟨oc, od, dt, sl⟩ := o
  simp only at h2 h3
  subst h2 h3
  exact PySem.W.kia_tup Zk I.kIn p h1 e (fun z => nomatch z) fun tk => ⟨.bl b, H, I.tok tk, rfl, q⟩
end
/-! ### making one -/
section
variable {X : Cx} {Z : ClT} {W : WX} {P : List (Nat × Nat)} {kr : Nat} {φ φ1 : List Nat} {ψ : SF} {t : Tm} {fa : M DV} {a : Expr} {x fl pnm : Str} {C fI : Addr} {fd : FuncData} {k c : Nat} {p pos pos' kpos : Pos}
/-- what stands behind C(y) -/
def spMkE (C : Addr) (fl : Str) (y : V) (H : Hp) (Q : VK) : Prop := ∀ a dx, H a = none → upd H a (exo a C none) dx = none → dx ≠ a → Q (.ref a) (upd (upd (upd H a (exo a C none)) dx (exd dx [(fl, y)])) a (exo a C (some dx)))
theorem spMkE_ini {K : PySem.W.Frag} {H : Hp} {Q : VK} {y : V} (h : spMkE C fl y H Q) {a : Addr} (ha : H a = none) {E : L2.XK} : spIni K C fl [.ref a, y] (upd H a (exo a C none)) (fun v H2 => v = .non ∧ Q (.ref a) H2) E :=
  ⟨a, y, rfl, upd_same, fun dx n ne => ⟨rfl, h a dx ha n ne⟩⟩
theorem pe_oexc {e : Expr} {te : TE} (T : OexC X.K C) (iC : PySem.W.findIn X.K (.ref C) "__init__" = some (some (.ref fI))) (tI : PySem.W.typeIn X.K (.ref fI) = some (.type "function"))
    (F1 : FnOk X.prog X.w X.K X.mg X.base (L2.CX X.prog X.w) k fI fd ["self", pnm] (spIni X.K C fl)) (hr : Room (k + 1) X.A) (hb : Binds X.K fd ["self", pnm] []) (hx : Passes (L2.CX X.prog X.w) X (fun _ _ _ => False)) (hg : Gl X x) (hm : X.mg x = some (.ref C)) (he : PE X e te)
    (hdb : (x == ("__debug__" : Str)) = false) (hs : starEach [e] X.env = (false, eval e X.env) :: starEach [] X.env) :
    PE X (.Call (.Name x p) [e] [] pos) (fun σ H Q => te σ H fun y H1 => spMkE C fl y H1 Q) := by
  refine ⟨fun pins s σ H Q I h => ?_⟩
  obtain ⟨nm, q, N, bs, bm, sn, sub, ab, col, dd, k0, k1, k2, k3, k5, hC, hbm⟩ := T.cls
  refine wpAny_Call_Name_kw (ld_glob I hg hm ?_ hdb)
  refine PySem.W.callWith_K (h₀ := X.base) I.ok.mod.kin T.kC ?_ hs (by rfl)
  rw [hs]
  show wpAny _ _ (spliced ((false, eval e X.env) :: backTo pos (starEach [] X.env))) _ _ s
  refine Calls.spliced_cons (thn (he.run pins s σ H _ I h) fun u s1 ⟨y, H1, I1, r1, q1⟩ => ?_)
  refine Calls.spliced_nil ⟨I1.kIn, ?_⟩
  show wpAny _ _ (call (.ref C) [u]) _ _ _
  obtain ⟨hp, g, dr, tk, os⟩ := s1
  have hsz : hp.objs.size ≤ hp.objs.size + 1 := Nat.le_succ _
  have hn : H1 (hp.objs.size + 1) = none := I1.hok.fresh hsz
  have hq := spMkE_ini (K := X.K) (E := fun _ _ _ => False) q1 hn
  have kk : ∀ b o, hp.get? b = some o → ((hp.push (PySem.W.kdv_tup [u])).push (PySem.HandSPX.excO C hp.objs.size)).get? b = some o := fun b o e => Heap.get?_push_of_some _ (Heap.get?_push_of_some _ e)
  have hget : ((hp.push (PySem.W.kdv_tup [u])).push (PySem.HandSPX.excO C hp.objs.size)).get? (hp.objs.size + 1) = some (PySem.HandSPX.excO C hp.objs.size) := by heap_get
  have I2 : Inv X pins σ (upd H1 (hp.objs.size + 1) (exo (hp.objs.size + 1) C none)) ⟨(hp.push (PySem.W.kdv_tup [u])).push (PySem.HandSPX.excO C hp.objs.size), g, dr, tk, os⟩ :=
    I1.laid (t' := tk) (a := hp.objs.size + 1) (o := exo (hp.objs.size + 1) C none) (h' := (hp.push (PySem.W.kdv_tup [u])).push (PySem.HandSPX.excO C hp.objs.size)) kk hsz (exo_ok hget)
  have r2 : Vals [V.ref (hp.objs.size + 1), y] [Value.ref (hp.objs.size + 1), u] := .cons rfl (.cons r1 .nil)
  have hus : [u].length ≤ sizeLine := by
    rw [sizeLine_eq]
    simp
  refine wpAny_call (PySem.HandSPX.call_own PySem.F.excBase_ValueError (fun Y => PySem.HandSPX.refsVE_contains Y bm hbm) (I1.kIn _ _ hC) (PySem.W.looks_findIn I1.kIn iC) (fun self => PySem.W.bind_fn I1.kIn self tI) hus
    (codeAny_mono (F1.run _ X.stack _ _ ⟨[Value.ref (hp.objs.size + 1), u], []⟩ [Value.ref (hp.objs.size + 1), u] _ _ (fun _ _ _ => False) (hr.make C [u] []) (I2.env0.make C [u] []) (by simpa using hb _ [Value.ref (hp.objs.size + 1), u] I2.kIn rfl) r2 hq) fun r s' hq' => ?_))
  cases r with
  | error er => exact hx pins σ _ _ er s' I2 hq'
  | ok fl =>
    cases fl with
    | ret u =>
      obtain ⟨v, H', I3, rv, ev, q3⟩ := I2.after hq'
      subst ev
      exact ⟨rv, ⟨V.ref (hp.objs.size + 1), H', I3, rfl, q3⟩⟩
    | next => exact False.elim hq'
    | brk => exact False.elim hq'
    | cont => exact False.elim hq'
theorem pe_oexk {e : Expr} {te : TE} (T : OexC X.K C) (iC : PySem.W.findIn X.K (.ref C) "__init__" = some (some (.ref fI))) (tI : PySem.W.typeIn X.K (.ref fI) = some (.type "function"))
    (F1 : FnOk X.prog X.w X.K X.mg X.base (L2.CX X.prog X.w) k fI fd ["self", pnm] (spIni X.K C fl)) (hr : Room (k + 1) X.A) (hb : KwBinds X.K fd pnm) (hp : pnm = "given" ∨ pnm = "index") (hx : Passes (L2.CX X.prog X.w) X (fun _ _ _ => False)) (hg : Gl X x) (hm : X.mg x = some (.ref C)) (he : PE X e te)
    (hdb : (x == ("__debug__" : Str)) = false) :
    PE X (.Call (.Name x p) [] [⟨some pnm, e, kpos⟩] pos) (fun σ H Q => te σ H fun y H1 => spMkE C fl y H1 Q) := by
  refine ⟨fun pins s σ H Q I h => ?_⟩
  obtain ⟨nm, q, N, bs, bm, sn, sub, ab, col, dd, k0, k1, k2, k3, k5, hC, hbm⟩ := T.cls
  refine wpAny_Call_Name_kw (ld_glob I hg hm ?_ hdb)
  refine PySem.W.callWith_KW0 (h₀ := X.base) I.ok.mod.kin T.kC (by rfl) (thn ((pk_cons he pk_nil).run pos pins s σ H (fun vs H1 => match vs with
    | [y] => spMkE C fl y H1 Q
    | _ => False) I h) fun us s1 ⟨vs, H1, I1, r1, q1⟩ => ⟨I1.kIn, ?_⟩) (by rfl)
  obtain ⟨y, rfl⟩ : ∃ y, vs = [y] := by
    rcases vs with _ | ⟨y, _ | ⟨z, vs⟩⟩
    · exact q1.elim
    · exact ⟨y, rfl⟩
    · exact q1.elim
  obtain ⟨u, rfl, rv⟩ : ∃ u, us = [u] ∧ RelV y u := by
    cases r1 with
    | cons rv r' =>
      cases r'
      exact ⟨_, rfl, rv⟩
  have q1 : spMkE C fl y H1 Q := q1
  show wpAny _ _ (call (.ref C) [] [(pnm, u)]) _ _ _
  obtain ⟨hp', g, dr, tk, os⟩ := s1
  have hsz : hp'.objs.size ≤ hp'.objs.size + 1 := Nat.le_succ _
  have hn : H1 (hp'.objs.size + 1) = none := I1.hok.fresh hsz
  have hq := spMkE_ini (K := X.K) (E := fun _ _ _ => False) q1 hn
  have kk : ∀ b o, hp'.get? b = some o → ((hp'.push (PySem.W.kdv_tup [])).push (PySem.HandSPX.excO C hp'.objs.size)).get? b = some o := fun b o e => Heap.get?_push_of_some _ (Heap.get?_push_of_some _ e)
  have hget : ((hp'.push (PySem.W.kdv_tup [])).push (PySem.HandSPX.excO C hp'.objs.size)).get? (hp'.objs.size + 1) = some (PySem.HandSPX.excO C hp'.objs.size) := by heap_get
  have I2 : Inv X pins σ (upd H1 (hp'.objs.size + 1) (exo (hp'.objs.size + 1) C none)) ⟨(hp'.push (PySem.W.kdv_tup [])).push (PySem.HandSPX.excO C hp'.objs.size), g, dr, tk, os⟩ :=
    I1.laid (t' := tk) (a := hp'.objs.size + 1) (o := exo (hp'.objs.size + 1) C none) (h' := (hp'.push (PySem.W.kdv_tup [])).push (PySem.HandSPX.excO C hp'.objs.size)) kk hsz (exo_ok hget)
  have r2 : Vals [V.ref (hp'.objs.size + 1), y] [Value.ref (hp'.objs.size + 1), u] := .cons rfl (.cons rv .nil)
  refine wpAny_call (LkKw.call_kw PySem.F.excBase_ValueError (fun Y => PySem.HandSPX.refsVE_contains Y bm hbm) hp (I1.kIn _ _ hC) (PySem.W.looks_findIn I1.kIn iC) (fun self => PySem.W.bind_fn I1.kIn self tI)
    (codeAny_mono (F1.run _ X.stack _ _ ⟨[Value.ref (hp'.objs.size + 1)], [(pnm, u)]⟩ [Value.ref (hp'.objs.size + 1), u] _ _ (fun _ _ _ => False) (hr.make C [] [(pnm, u)]) (I2.env0.make C [] [(pnm, u)]) (hb _ _ _ I2.kIn) r2 hq) fun r s' hq' => ?_))
  cases r with
  | error er => exact hx pins σ _ _ er s' I2 hq'
  | ok fl =>
    cases fl with
    | ret u =>
      obtain ⟨v, H', I3, rv, ev, q3⟩ := I2.after hq'
      subst ev
      exact ⟨rv, ⟨V.ref (hp'.objs.size + 1), H', I3, rfl, q3⟩⟩
    | next => exact False.elim hq'
    | brk => exact False.elim hq'
    | cont => exact False.elim hq'
/-- raise C(p = e) -/
theorem pmk_oexk {e : Expr} {te : TE} (T : OexC X.K C) (iC : PySem.W.findIn X.K (.ref C) "__init__" = some (some (.ref fI))) (tI : PySem.W.typeIn X.K (.ref fI) = some (.type "function"))
    (F1 : FnOk X.prog X.w X.K X.mg X.base (L2.CX X.prog X.w) k fI fd ["self", pnm] (spIni X.K C fl)) (hr : Room (k + 1) X.A) (hb : KwBinds X.K fd pnm) (hp : pnm = "given" ∨ pnm = "index") (hx : Passes (L2.CX X.prog X.w) X (fun _ _ _ => False)) (hg : Gl X x) (hm : X.mg x = some (.ref C)) (he : PE X e te)
    (hdb : (x == ("__debug__" : Str)) = false) :
    PMk X (.Call (.Name x p) [] [⟨some pnm, e, kpos⟩] pos) (fun σ H Q => te σ H fun y H1 => ∀ a, H1 a = none → spIni X.K C fl [.ref a, y] (upd H1 a (exo a C none))
      (fun v H2 => v = .non ∧ ∃ (d : Addr) (fs : List (Str × V)), H2 a = some (exo a C (some d)) ∧ H2 d = some (exd d fs) ∧ H1 d = none ∧ Q (.ref C) (some d) (upd (L2.del H2 a) d (.xd fs))) (fun _ _ _ => False)) := by
  intro pins s σ H Q I h
  obtain ⟨nm, q, N, bs, bm, sn, sub, ab, col, dd, k0, k1, k2, k3, k5, hC, hbm⟩ := T.cls
  refine wpAny_Call_Name_kw (ld_glob I hg hm ?_ hdb)
  refine PySem.W.callWith_KW0 (h₀ := X.base) I.ok.mod.kin T.kC (by rfl) (thn ((pk_cons he pk_nil).run pos pins s σ H (fun vs H1 => match vs with
    | [y] => ∀ a, H1 a = none → spIni X.K C fl [.ref a, y] (upd H1 a (exo a C none)) (fun v H2 => v = .non ∧ ∃ (d : Addr) (fs : List (Str × V)), H2 a = some (exo a C (some d)) ∧ H2 d = some (exd d fs) ∧ H1 d = none ∧ Q (.ref C) (some d) (upd (L2.del H2 a) d (.xd fs))) (fun _ _ _ => False)
    | _ => False) I h) fun us s1 ⟨vs, H1, I1, r1, q1⟩ => ⟨I1.kIn, ?_⟩) (by rfl)
  obtain ⟨y, rfl⟩ : ∃ y, vs = [y] := by
    rcases vs with _ | ⟨y, _ | ⟨z, vs⟩⟩
    · exact q1.elim
    · exact ⟨y, rfl⟩
    · exact q1.elim
  obtain ⟨u, rfl, rv⟩ : ∃ u, us = [u] ∧ RelV y u := by
    cases r1 with
    | cons rv r' =>
      cases r'
      exact ⟨_, rfl, rv⟩
  show wpAny _ _ (call (.ref C) [] [(pnm, u)]) _ _ _
  obtain ⟨hp', g, dr, tk, os⟩ := s1
  have hsz : hp'.objs.size ≤ hp'.objs.size + 1 := Nat.le_succ _
  have hn : H1 (hp'.objs.size + 1) = none := I1.hok.fresh hsz
  have hq := q1 _ hn
  have kk : ∀ b o, hp'.get? b = some o → ((hp'.push (PySem.W.kdv_tup [])).push (PySem.HandSPX.excO C hp'.objs.size)).get? b = some o := fun b o e => Heap.get?_push_of_some _ (Heap.get?_push_of_some _ e)
  have hget : ((hp'.push (PySem.W.kdv_tup [])).push (PySem.HandSPX.excO C hp'.objs.size)).get? (hp'.objs.size + 1) = some (PySem.HandSPX.excO C hp'.objs.size) := by heap_get
  have I2 : Inv X pins σ (upd H1 (hp'.objs.size + 1) (exo (hp'.objs.size + 1) C none)) ⟨(hp'.push (PySem.W.kdv_tup [])).push (PySem.HandSPX.excO C hp'.objs.size), g, dr, tk, os⟩ :=
    I1.laid (t' := tk) (a := hp'.objs.size + 1) (o := exo (hp'.objs.size + 1) C none) (h' := (hp'.push (PySem.W.kdv_tup [])).push (PySem.HandSPX.excO C hp'.objs.size)) kk hsz (exo_ok hget)
  have r2 : Vals [V.ref (hp'.objs.size + 1), y] [Value.ref (hp'.objs.size + 1), u] := .cons rfl (.cons rv .nil)
  refine wpAny_call (LkKw.call_kw PySem.F.excBase_ValueError (fun Y => PySem.HandSPX.refsVE_contains Y bm hbm) hp (I1.kIn _ _ hC) (PySem.W.looks_findIn I1.kIn iC) (fun self => PySem.W.bind_fn I1.kIn self tI)
    (codeAny_mono (F1.run _ X.stack _ _ ⟨[Value.ref (hp'.objs.size + 1)], [(pnm, u)]⟩ [Value.ref (hp'.objs.size + 1), u] _ _ (fun _ _ _ => False) (hr.make C [] [(pnm, u)]) (I2.env0.make C [] [(pnm, u)]) (hb _ _ _ I2.kIn) r2 hq) fun r s' hq' => ?_))
  cases r with
  | error er => exact hx pins σ _ _ er s' I2 hq'
  | ok fl =>
    cases fl with
    | ret u =>
      obtain ⟨v, H2, os2, bare2, un2, hok2, rv, ev, d, fs, ea, ed, hd1, q2⟩ := hq'
      subst ev
      obtain ⟨h2, g2, d2, t2, os'⟩ := s'
      exact ⟨rv, mk_end (raises_own T.exC T.tyC) I1 hsz kk un2 hok2 os2 bare2 ea ed hd1 q2⟩
    | next => exact False.elim hq'
    | brk => exact False.elim hq'
    | cont => exact False.elim hq'
end
end Lk
namespace Lk
open PySem PySem.Spec L2
open PyProof.Rows (envOfC)
def mkEM (c : Nat) (fa : M DV) : M DV := fun env => (fa env).bind fun d e => match dataOf d with
  | some g => .ok (.e c (some g)) e
  | none => .bad
def mkE0M (c : Nat) : M DV := fun e => .ok (.e c none) e
def fldEM (i : Nat) (f : Str) : M DV := fun env => match slot env i with
  | some (.e c (some g)) => if fldOf c = f then .ok (.d g) env else .bad
  | _ => .bad
def isEM (i : Nat) (tk : Nat → Bool) : M DV := fun env => match slot env i with
  | some (.e c _) => .ok (.d (.bool (tk c))) env
  | _ => .bad
/-- what built-in classes say of the exceptions -/
structure ErrT (K : PySem.W.Frag) (Z : ClT) (T : String) (tk : Nat → Bool) : Prop where
  ex : ∀ c C, c < 200 → Z c = some C → PySem.W.kitOne K (.ref C) (.type T) = some (tk c)
structure ErrTs (K : PySem.W.Frag) (Z : ClT) (Ts : List String) (tk : Nat → Bool) : Prop where
  ex : ∀ c C, c < 200 → Z c = some C → PySem.W.kitAny K (.ref C) (Ts.map Value.type) = some (tk c)
/-- a class that is made without an own __init__ -/
structure ErrC0 (K : PySem.W.Frag) (mg : Str → Option Value) (Z : ClT) (c : Nat) (x : Str) : Prop where
  ex : ∃ C, mg x = some (.ref C) ∧ Z c = some C ∧ PySem.W.excIn K C [.type "ValueError", .type "Exception", .type "BaseException", .type "object"] "ValueError.__new__" = true ∧ PySem.W.keepIn K (.ref C) = true
section
variable {X : Cx} {Z : ClT} {W : WX} {P : List (Nat × Nat)} {kr : Nat} {φ φ1 : List Nat} {ψ : SF} {t : Tm} {fa : M DV} {a : Expr} {x y f : Str} {k c i n : Nat} {p p2 pos pos' kpos : Pos} {tk : Nat → Bool}
theorem mkE_end {C : Addr} {d : DV} {v : V} {e' : Ev} {σ : St} {H' : Hp} {L : List Root} {Q : VK} (hZ : Z c = some C) (hc : c < 200) (s : Stt X.K Z φ1 e' [⟨.v 0, d, v⟩] σ H' L)
    (h : Wish X.K Z W L (match dataOf d with
      | some g => Out.ok (DV.e c (some g)) e'
      | none => .bad) (fun d e' => ∀ v H', Stt X.K Z φ1 e' [⟨.v 0, d, v⟩] σ H' L → Q v H')) : spMkE C (fldOf c) v H' Q := by
  cases q0 : dataOf d with
  | none => rw [q0] at h; exact h.elim
  | some g =>
    rw [q0] at h
    obtain rfl := dataOf_some q0
    intro x dx hx hdx ne
    have h : ∀ v H', Stt X.K Z φ1 e' [⟨.v 0, .e c (some g), v⟩] σ H' L → Q v H' := h
    have hdx' : H' dx = none := by rw [upd_ne ne] at hdx; exact hdx
    refine h _ _ ⟨?_, s.al, fun y hy => ?_⟩
    · have s0 : Sim X.K Z H' (⟨0, .d g, v⟩ :: (roots φ1 e' σ ++ L)) := s.sim
      exact s0.mkE hZ hc hx hdx' ne
    · rw [List.mem_singleton.mp hy]; trivial
theorem je_mkE (E : ErrC X.prog X.w X.K X.mg X.base Z c x) (hc : c < 200) (hr : Room 2 X.A) (tk : Takes X W) (hg : Gl X x) (ha : JE X Z W φ a φ1 (.v 0) fa) (hs : noStar a = true) (hdb : (x == ("__debug__" : Str)) = false) :
    JE X Z W φ (.Call (.Name x p) [a] [] pos) φ1 (.v 0) (mkEM c fa) := by
  obtain ⟨C, fI, fd, y, h1, h2, h3, h4, h5, h6, h7, h8, h9⟩ := E.ex
  refine pe_imp (pe_oexc h3 h4 h5 h6 hr h7 (passes_call tk fun _ _ _ _ z => z.elim) hg h1 ha hdb (star_eq hs)) fun σ H Q ⟨L, env, S, h⟩ => ?_
  exact rdE.go S (h.bind.mono fun d e' h v H' s => mkE_end h2 hc s h)
theorem je_mkEk (E : ErrC X.prog X.w X.K X.mg X.base Z c x) (hc : c < 200) (hr : Room 2 X.A) (tk : Takes X W) (hg : Gl X x) (ha : JE X Z W φ a φ1 (.v 0) fa) (hf : f = fldOf c) (hfl : f = "given" ∨ f = "index") (hdb : (x == ("__debug__" : Str)) = false) :
    JE X Z W φ (.Call (.Name x p) [] [⟨some f, a, kpos⟩] pos) φ1 (.v 0) (mkEM c fa) := by
  obtain ⟨C, fI, fd, y, h1, h2, h3, h4, h5, h6, h7, h8, h9⟩ := E.ex
  subst h9
  subst hf
  refine pe_imp (pe_oexk h3 h4 h5 h6 hr h8 hfl (passes_call tk fun _ _ _ _ z => z.elim) hg h1 ha hdb) fun σ H Q ⟨L, env, S, h⟩ => ?_
  exact rdE.go S (h.bind.mono fun d e' h v H' s => mkE_end h2 hc s h)
/-- C(), an own class without own __init__ -/
theorem pe_exc0 {C : Addr} (q : PySem.W.excIn X.K C [.type "ValueError", .type "Exception", .type "BaseException", .type "object"] "ValueError.__new__" = true) (gC : X.mg x = some (.ref C)) (kC : PySem.W.keepIn X.K (.ref C) = true) (hg : Gl X x) (hdb : (x == ("__debug__" : Str)) = false) :
    PE X (.Call (.Name x p) [] [] pos) (fun σ H Q => ∀ a, H a = none → Q (.ref a) (upd H a (exo a C none))) := by
  refine ⟨fun pins s σ H Q I h => ?_⟩
  refine wpAny_Call_Name_kw (ld_glob I hg gC ?_ hdb)
  refine PySem.W.callWith_KW0 (h₀ := X.base) I.ok.mod.kin kC (by rfl) (wpAny_evalAll_nil ⟨I.kIn, ?_⟩) (by rfl)
  show wpAny _ _ (call (.ref C) []) _ _ _
  obtain ⟨bm, N, nm, qn, bs, hdct, sn, sub, ab, col, dd, k0, k1, k2, k3, k5, mN, hC, hN, hni, T⟩ := exc_obj I.kIn q
  refine wpAny_call_exc_subT PySem.F.excBase_ValueError T hC hN hni (fun h' a hm => ?_) (by simp)
  have hn : H a = none := I.hok.gone hm.new
  obtain ⟨t, ht, _, _⟩ := hm.there
  exact ⟨.ref a, upd H a (exo a C none), I.laidN hm.keeps hm.new hn (exo_ok ht), rfl, h a hn⟩
theorem je_mkE0 (E : ErrC0 X.K X.mg Z c x) (hc : c < 200) (hg : Gl X x) (hdb : (x == ("__debug__" : Str)) = false) : JE X Z W φ (.Call (.Name x p) [] [] pos) φ (.v 0) (mkE0M c) := by
  obtain ⟨C, h1, h2, h3, h4⟩ := E.ex
  refine pe_imp (pe_exc0 h3 h1 h4 hg hdb) fun σ H Q ⟨L, env, S, h⟩ => fun a ha => ?_
  have h : ∀ v H', Stt X.K Z φ env [⟨.v 0, .e c none, v⟩] σ H' L → Q v H' := h
  refine h _ _ ⟨?_, S.al, fun y hy => ?_⟩
  · have s0 : Sim X.K Z H (roots φ env σ ++ L) := S.sim
    exact s0.mkE0 h2 hc ha
  · rw [List.mem_singleton.mp hy]; trivial
theorem slotE {φ : List Nat} {env : Ev} {σ : St} {H : Hp} {L : List Root} {K : PySem.W.Frag} (S : Stt K Z φ env [] σ H L) {c : Nat} {g : Option PyData} (q : slot env i = some (.e c g)) (hφ : φ[i]? = some n) :
    ∃ v, σ[i]? = some (some v) ∧ (⟨n, .e c g, v⟩ : Root) ∈ roots φ env σ ++ L := by
  obtain ⟨n', v, h1, h2, hp⟩ := S.al.get q
  rw [hφ] at h1; cases h1
  exact ⟨v, h2, List.mem_append_left _ (hp.mem_iff.mpr List.mem_cons_self)⟩
theorem exAt_of {K : PySem.W.Frag} {H : Hp} {R : List Root} {c : Nat} {g : Option PyData} {v : V} (h : Sim K Z H R) (hr : (⟨n, .e c g, v⟩ : Root) ∈ R) : ∃ a C, v = .ref a ∧ Z c = some C ∧ c < 200 ∧ ExAt H a C := by
  obtain ⟨a, C, e, hZ, hc, q⟩ := h.ofE hr
  refine ⟨a, C, e, hZ, hc, ?_⟩
  rcases q with ⟨d, w, e1, e2, _⟩ | ⟨_, e1⟩
  · exact .inl ⟨d, _, w, e1, e2⟩
  · exact .inr e1
theorem je_fldE (E : ErrsOk X.K Z) (hfl : f = "given" ∨ f = "index") (hN : X.N[i]? = some x) (hv : Vis X.env.scope x) (hdb : (x == ("__debug__" : Str)) = false) (hcd : (x == ("__classdict__" : Str)) = false) (hφ : φ[i]? = some n) (hn : n ≤ 1)
    (hb : attributeBase (.Name x p) f X.env (eval (.Name x p) X.env) = eval (.Name x p) X.env) : JE X Z W φ (.Attribute (.Name x p) f pos) φ (.v 0) (fldEM i f) := by
  refine pe_imp (pe_ef (pe_var hN hv hdb hcd) hb) fun σ H Q ⟨L, env, S, h⟩ => ?_
  unfold fldEM at h
  cases q : slot env i with
  | none => rw [q] at h; exact h.elim
  | some d =>
    rw [q] at h
    cases d with
    | e c g =>
      cases g with
      | none => exact h.elim
      | some g =>
        simp only at h
        by_cases hff : fldOf c = f
        · rw [if_pos hff] at h
          obtain ⟨v, h2, hm⟩ := slotE S q hφ
          have s0 : Sim X.K Z H (roots φ env σ ++ L) := S.sim
          obtain ⟨a, C, rfl, hZ, hc, qq⟩ := s0.ofE hm
          obtain ⟨t1, t2, t3, t4⟩ := E.xf c C hc hZ
          rcases qq with ⟨d, w, e1, e2, e3⟩ | ⟨e0, _⟩
          · refine ⟨.ref a, h2, a, C, d, w, rfl, e1, by rw [← hff]; exact e2, t1, ?_, h w H ⟨e3 g rfl hn, S.al, fun y hy => ?_⟩⟩
            · rcases hfl with rfl | rfl
              · exact t3
              · exact t4
            · rw [List.mem_singleton.mp hy]; trivial
          · cases e0
        · rw [if_neg hff] at h; exact h.elim
    | _ => exact h.elim
theorem isE_end {σ : St} {H : Hp} {L : List Root} {env : Ev} {Q : VK} {b : Bool} (S : Stt X.K Z φ env [] σ H L) (h : ∀ v H', Stt X.K Z φ env [⟨.v 9, .d (.bool b), v⟩] σ H' L → Q v H') : Q (.bl b) H := by
  refine h _ H ⟨S.sim.scal (.d (.bl _)), S.al, fun y hy => ?_⟩
  rw [List.mem_singleton.mp hy]; trivial
theorem je_isEv {D : V} {u : Value} {ce : Expr} (E : ErrsOk X.K Z) (hD : ClsV D u) (e0 : PE X ce (tC D)) (hs : noStar ce = true) (hpl : ((backTo pos (starEach [ce] X.env)).any (·.1)) = false) (hk : ∀ c C, c < 200 → Z c = some C → PySem.W.kitOne X.K (.ref C) u = some (tk c)) (gi : Gl X "isinstance") (mi : X.mg "isinstance" = none)
    (hN : X.N[i]? = some x) (hv : Vis X.env.scope x) (hφ : φ[i]? = some n) (hd : (x == ("__debug__" : Str)) = false) (hcd : (x == ("__classdict__" : Str)) = false) :
    JE X Z W φ (.Call (.Name "isinstance" pos') [.Name x p, ce] [] pos) φ (.v 9) (isEM i tk) := by
  have e1 := pe_var (X := X) (pos := p) hN hv hd hcd
  refine pe_imp (pe_callB call_isEv gi mi (by decide) (pa_cons e1 (pa_cons e0 pa_nil (star_eq hs)) (star_eq rfl)) (by decide) (by decide) (star_eq rfl) hpl) fun σ H Q ⟨L, env, S, h⟩ => ?_
  unfold isEM at h
  cases q : slot env i with
  | none => rw [q] at h; exact h.elim
  | some dv =>
    rw [q] at h
    cases dv with
    | e c g =>
      obtain ⟨v, h2, hm⟩ := slotE S q hφ
      have s0 : Sim X.K Z H (roots φ env σ ++ L) := S.sim
      obtain ⟨a, C, rfl, hZ, hc, ea⟩ := exAt_of s0 hm
      exact ⟨.ref a, h2, a, C, D, u, tk c, rfl, hD, ea, (E.xf c C hc hZ).2.1, hk c C hc hZ, isE_end S h⟩
    | _ => exact h.elim
theorem gIsEo (i n : Nat) (E : ErrsOk X.K Z) (M : ErrM X.K X.mg Z y tk) (mi : X.mg "isinstance" = none) (hφ : φ[i]? = some n := by rfl)
    (hN : X.N[i]? = some x := by rfl) (hv : Vis X.env.scope x := by first | exact Or.inl rfl | exact Or.inr (Or.inl rfl) | exact Or.inr (Or.inr rfl)) (gi : Gl X "isinstance" := by rfl) (gy : Gl X y := by rfl) (dy : (y == ("__debug__" : Str)) = false := by decide)
    (hd : (x == ("__debug__" : Str)) = false := by decide) (hcd : (x == ("__classdict__" : Str)) = false := by decide) :
    JE X Z W φ (.Call (.Name "isinstance" pos') [.Name x p, .Name y p2] [] pos) φ (.v 9) (isEM i tk) := by
  obtain ⟨D, m1, m2, m3⟩ := M.ex
  exact je_isEv E (.own D) (pe_glob gy m1 rfl dy) rfl rfl m3 gi mi hN hv hφ hd hcd
theorem gIsEb (i n : Nat) {T : String} (E : ErrsOk X.K Z) (M : ErrT X.K Z T tk) (mi : X.mg "isinstance" = none) (my : X.mg y = none) (hφ : φ[i]? = some n := by rfl) (by_ : bootBuiltins y = some (.type T) := by rfl)
    (hN : X.N[i]? = some x := by rfl) (hv : Vis X.env.scope x := by first | exact Or.inl rfl | exact Or.inr (Or.inl rfl) | exact Or.inr (Or.inr rfl)) (gi : Gl X "isinstance" := by rfl) (gy : Gl X y := by rfl) (dy : (y == ("__debug__" : Str)) = false := by decide) (ny : y ≠ "__name__" := by decide)
    (hd : (x == ("__debug__" : Str)) = false := by decide) (hcd : (x == ("__classdict__" : Str)) = false := by decide) :
    JE X Z W φ (.Call (.Name "isinstance" pos') [.Name x p, .Name y p2] [] pos) φ (.v 9) (isEM i tk) :=
  je_isEv E (.ty T) (pe_bltn gy my by_ rfl ny dy) rfl rfl M.ex gi mi hN hv hφ hd hcd
/-- isinstance(e, (T1, T2, T3)), built-in classes -/
theorem je_isE3 {y1 y2 y3 : Str} {T1 T2 T3 : String} {q1 q2 q3 q4 : Pos} {tx : Nat} (E : ErrsOk X.K Z) (M : ErrTs X.K Z [T1, T2, T3] tk) (gi : Gl X "isinstance") (mi : X.mg "isinstance" = none)
    (a1 : PE X (.Name y1 q1) (tC (.ty T1))) (a2 : PE X (.Name y2 q2) (tC (.ty T2))) (a3 : PE X (.Name y3 q3) (tC (.ty T3)))
    (hN : X.N[i]? = some x) (hv : Vis X.env.scope x) (hφ : φ[i]? = some n) (hd : (x == ("__debug__" : Str)) = false) (hcd : (x == ("__classdict__" : Str)) = false) :
    JE X Z W φ (.Call (.Name "isinstance" pos') [.Name x p, .Tuple [.Name y1 q1, .Name y2 q2, .Name y3 q3] tx q4] [] pos) φ (.v 9) (isEM i tk) := by
  have e1 := pe_var (X := X) (pos := p) hN hv hd hcd
  have e0 := pe_tup (x1 := tx) (pos := q4) (pa_cons a1 (pa_cons a2 (pa_cons a3 pa_nil (star_eq rfl)) (star_eq rfl)) (star_eq rfl))
  refine pe_imp (pe_callB call_isEt gi mi (by decide) (pa_cons e1 (pa_cons e0 pa_nil (star_eq rfl)) (star_eq rfl)) (by decide) (by decide) (star_eq rfl)) fun σ H Q ⟨L, env, S, h⟩ => ?_
  unfold isEM at h
  cases q : slot env i with
  | none => rw [q] at h; exact h.elim
  | some dv =>
    rw [q] at h
    cases dv with
    | e c g =>
      obtain ⟨v, h2, hm⟩ := slotE S q hφ
      have s0 : Sim X.K Z H (roots φ env σ ++ L) := S.sim
      refine ⟨v, h2, by rw [sizeLine_eq]; simp, fun tp htp => ?_⟩
      have s1 : Sim X.K Z (upd H tp (.tup [.ty T1, .ty T2, .ty T3])) (roots φ env σ ++ L) := s0.grow fun b o hb => by rw [upd_ne (ne_of_none hb htp)]; exact hb
      obtain ⟨a, C, rfl, hZ, hc, ea⟩ := exAt_of s1 hm
      exact ⟨a, C, tp, _, _, tk c, rfl, upd_same, .cons (.ty T1) (.cons (.ty T2) (.cons (.ty T3) .nil)), ea, (E.xf c C hc hZ).2.1, M.ex c C hc hZ, isE_end (L := L) ⟨s1, S.al, fun y hy => by cases hy⟩ h⟩
    | _ => exact h.elim
/-- raise C(p = a) -/
theorem gRaiseK (E : ErrC X.prog X.w X.K X.mg X.base Z c x) (hr : Room k X.A) (tk : Takes X W) (ha : JE X Z W φ a φ1 t fa) (hk : 2 ≤ k := by decide) (hf : f = fldOf c := by rfl) (hfl : f = "given" ∨ f = "index" := by first | exact .inl rfl | exact .inr rfl) (hc : X.calm = true := by rfl) (hg : Gl X x := by rfl) (hdb : (x == ("__debug__" : Str)) = false := by decide) :
    JS X Z W P kr φ (.Raise (some (.Call (.Name x p) [] [⟨some f, a, kpos⟩] pos)) none pos') ψ (raiM c t fa) := by
  obtain ⟨C, fI, fd, y, h1, hZ, h3, h4, h5, h6, h7, h8, h9⟩ := E.ex
  subst h9
  subst hf
  refine ps_imp (ps_raise hc tk (pmk_oexk h3 h4 h5 h6 (hr.mono hk) h8 hfl (passes_call tk fun _ _ _ _ z => z.elim) hg h1 ha hdb)) fun D σ H ⟨L, env, pv, S, hp, q⟩ => ?_
  refine rdE.go S (q.bind.mono fun d e' q v H' s => ?_)
  cases q0 : (t.now d e').bind dataOf with
  | none => rw [q0] at q; exact q.elim
  | some g =>
    rw [q0] at q
    have q : XP X.K Z W L c g e' := q
    obtain ⟨d1, hd1, hd2⟩ := Option.bind_eq_some_iff.mp q0
    obtain rfl := dataOf_some hd2
    have S1 := s.cap 0
    obtain ⟨n, hn, hmem⟩ := s.memC (c := 0) (h := ⟨t, d, v⟩) List.mem_cons_self hd1
    obtain rfl : n = 0 := by omega
    obtain ⟨A1, L1⟩ := S1.al.less (leN_zeros S1.al)
    have S2 : Sim X.K Z H' (⟨0, .d g, v⟩ :: (roots (zeros e') e' σ ++ L)) := by
      refine Sim.less ((S1.sim.dup hmem).sub (.cons_cons _ (List.sublist_append_right _ _))) ?_
      exact .cons ⟨Nat.le_refl _, rfl, rfl⟩ (Less.app L1 (Less.refl L))
    refine fun b hb => ⟨b, v, rfl, upd_same, fun dx n ne => ⟨rfl, dx, [(fldOf c, v)], upd_same, ?_, ?_, ?_⟩⟩
    · rw [upd_ne ne, upd_same]
    · rw [upd_ne ne] at n
      exact n
    · have e1 : upd (L2.del (upd (upd (upd H' b (exo b C none)) dx (exd dx [(fldOf c, v)])) b (exo b C (some dx))) b) dx (.xd [(fldOf c, v)]) = upd H' dx (.xd [(fldOf c, v)]) := by
        funext z
        by_cases h1 : z = dx
        · rw [h1, upd_same, upd_same]
        · rw [upd_ne h1, upd_ne h1]
          by_cases h2 : z = b
          · rw [h2, del_same, hb]
          · rw [del_ne h2, upd_ne h2, upd_ne h1, upd_ne h2]
      have nx : H' dx = none := by
        rw [upd_ne ne] at n
        exact n
      rw [e1]
      refine q C dx v σ _ hZ (by rw [upd_same]) (S2.grow fun y o hy => ?_) A1
      rw [upd_ne (ne_of_none hy nx)]
      exact hy
end
end Lk
namespace Lk
open PySem PySem.Spec L2
open PyProof.Rows (envOfC)
section
variable {X : Cx} {Z : ClT} {W : WX} {P : List (Nat × Nat)} {kr : Nat} {φ φ1 : List Nat} {ψ : SF} {t : Tm} {fa : M DV} {a : Expr} {x y f : Str} {k c i n : Nat} {p p2 pos pos' kpos : Pos} {tk : Nat → Bool}
theorem gMkE (E : ErrC X.prog X.w X.K X.mg X.base Z c x) (hr : Room k X.A) (tk : Takes X W) (ha : JE X Z W φ a φ1 (.v 0) fa) (hk : 2 ≤ k := by first | decide | omega) (hc : c < 200 := by decide) (hg : Gl X x := by rfl) (hs : noStar a = true := by rfl) (hdb : (x == ("__debug__" : Str)) = false := by decide) :
    JE X Z W φ (.Call (.Name x p) [a] [] pos) φ1 (.v 0) (mkEM c fa) := je_mkE E hc (hr.mono hk) tk hg ha hs hdb
theorem gMkEk (E : ErrC X.prog X.w X.K X.mg X.base Z c x) (hr : Room k X.A) (tk : Takes X W) (ha : JE X Z W φ a φ1 (.v 0) fa) (hk : 2 ≤ k := by first | decide | omega) (hc : c < 200 := by decide) (hf : f = fldOf c := by rfl) (hfl : f = "given" ∨ f = "index" := by first | exact .inl rfl | exact .inr rfl) (hg : Gl X x := by rfl) (hdb : (x == ("__debug__" : Str)) = false := by decide) :
    JE X Z W φ (.Call (.Name x p) [] [⟨some f, a, kpos⟩] pos) φ1 (.v 0) (mkEM c fa) := je_mkEk E hc (hr.mono hk) tk hg ha hf hfl hdb
theorem gMkE0 (E : ErrC0 X.K X.mg Z c x) (hc : c < 200 := by decide) (hg : Gl X x := by rfl) (hdb : (x == ("__debug__" : Str)) = false := by decide) : JE X Z W φ (.Call (.Name x p) [] [] pos) φ (.v 0) (mkE0M c) := je_mkE0 E hc hg hdb
theorem gFldE (i n : Nat) (E : ErrsOk X.K Z) (hfl : f = "given" ∨ f = "index" := by first | exact .inl rfl | exact .inr rfl) (hφ : φ[i]? = some n := by rfl) (hn : n ≤ 1 := by decide) (hN : X.N[i]? = some x := by rfl) (hv : Vis X.env.scope x := by first | exact Or.inl rfl | exact Or.inr (Or.inl rfl) | exact Or.inr (Or.inr rfl)) (hdb : (x == ("__debug__" : Str)) = false := by decide) (hcd : (x == ("__classdict__" : Str)) = false := by decide)
    (hb : attributeBase (.Name x p) f X.env (eval (.Name x p) X.env) = eval (.Name x p) X.env := by rfl) : JE X Z W φ (.Attribute (.Name x p) f pos) φ (.v 0) (fldEM i f) := je_fldE E hfl hN hv hdb hcd hφ hn hb
theorem gIsE3 (i n : Nat) {y1 y2 y3 : Str} {T1 T2 T3 : String} {q1 q2 q3 q4 : Pos} {tx : Nat} (E : ErrsOk X.K Z) (M : ErrTs X.K Z [T1, T2, T3] tk) (mi : X.mg "isinstance" = none) (m1 : X.mg y1 = none) (m2 : X.mg y2 = none) (m3 : X.mg y3 = none) (hφ : φ[i]? = some n := by rfl)
    (b1 : bootBuiltins y1 = some (.type T1) := by rfl) (b2 : bootBuiltins y2 = some (.type T2) := by rfl) (b3 : bootBuiltins y3 = some (.type T3) := by rfl) (g1 : Gl X y1 := by rfl) (g2 : Gl X y2 := by rfl) (g3 : Gl X y3 := by rfl)
    (d1 : (y1 == ("__debug__" : Str)) = false := by decide) (d2 : (y2 == ("__debug__" : Str)) = false := by decide) (d3 : (y3 == ("__debug__" : Str)) = false := by decide) (n1 : y1 ≠ "__name__" := by decide) (n2 : y2 ≠ "__name__" := by decide) (n3 : y3 ≠ "__name__" := by decide)
    (hN : X.N[i]? = some x := by rfl) (hv : Vis X.env.scope x := by first | exact Or.inl rfl | exact Or.inr (Or.inl rfl) | exact Or.inr (Or.inr rfl)) (gi : Gl X "isinstance" := by rfl) (hd : (x == ("__debug__" : Str)) = false := by decide) (hcd : (x == ("__classdict__" : Str)) = false := by decide) :
    JE X Z W φ (.Call (.Name "isinstance" pos') [.Name x p, .Tuple [.Name y1 q1, .Name y2 q2, .Name y3 q3] tx q4] [] pos) φ (.v 9) (isEM i tk) :=
  je_isE3 E M gi mi (pe_bltn g1 m1 b1 rfl n1 d1) (pe_bltn g2 m2 b2 rfl n2 d2) (pe_bltn g3 m3 b3 rfl n3 d3) hN hv hφ hd hcd
variable {a0 d C : Addr} {oe : Obj} {pn : List (Addr × Obj)}
/-- isinstance(e, T) in an except suite, T a built-in class -/
theorem gIsXb (i : Nat) {T : String} (E : ErrsOk X.K Z) (M : ErrT X.K Z T tk) (hC : ∃ c, c < 200 ∧ Z c = some C) (hz : Zc (.ref C) (some d) oe) (hf : ∃ vs, oe.data = .fields vs) (mi : X.mg "isinstance" = none) (my : X.mg y = none) (by_ : bootBuiltins y = some (.type T) := by rfl)
    (hN : X.N[i]? = some x := by rfl) (hv : Vis X.env.scope x := by first | exact Or.inl rfl | exact Or.inr (Or.inl rfl) | exact Or.inr (Or.inr rfl)) (hφ : φ[i]? = some 0 := by rfl) (gi : Gl X "isinstance" := by rfl) (gy : Gl X y := by rfl) (dy : (y == ("__debug__" : Str)) = false := by decide) (ny : y ≠ "__name__" := by decide)
    (hd : (x == ("__debug__" : Str)) = false := by decide) (hcd : (x == ("__classdict__" : Str)) = false := by decide) :
    JE (X.suite a0 ((a0, oe) :: pn)) (handZ Z a0 d C) W φ (.Call (.Name "isinstance" pos') [.Name x p, .Name y p2] [] pos) φ (.v 9) (isXM i tk) := by
  obtain ⟨c0, hc0, hZ0⟩ := hC
  have TT := (E.xf c0 C hc0 hZ0).2.1
  have e0 : PE (X.suite a0 ((a0, oe) :: pn)) (.Name y p2) (tC (.ty T)) := pe_bltn gy my by_ rfl ny dy
  have e1 := pe_var (X := X.suite a0 ((a0, oe) :: pn)) (pos := p) hN hv hd hcd
  refine pe_imp (pe_callB (call_isX TT hz hf) gi mi (by decide) (pa_cons e1 (pa_cons e0 pa_nil) (star_eq rfl)) (by decide) (by decide) (star_eq rfl)) fun σ H Q ⟨L, env, S, h⟩ => ?_
  unfold isXM at h
  cases q : slot env i with
  | none => rw [q] at h; exact h.elim
  | some dv =>
    rw [q] at h
    cases dv with
    | x c g =>
      simp only at h
      split at h
      case isFalse => exact h.elim
      rename_i hc
      obtain ⟨n, v, h1, h2, pp⟩ := S.al.get q
      rw [hφ] at h1
      cases h1
      have hm : ⟨0, .x c g, v⟩ ∈ hrts [] ++ (roots φ env σ ++ L) := List.mem_append_right _ (List.mem_append_left _ (pp.mem_iff.mpr List.mem_cons_self))
      obtain ⟨a', d', C', w, rfl, z1, z2, z3, z4, e, S1⟩ := S.sim.openX hm (Nat.zero_le _)
      cases z1
      cases z2
      cases z3
      refine ⟨.ref a0, h2, .ty T, .type T, tk c, rfl, fun u hu => hu, M.ex c C hc ?_, ⟨_, e⟩, ?_⟩
      · exact (handZ_ne (.inl (by omega))).symm.trans z4
      · refine h _ H ⟨S.sim.scal (.d (.bl _)), S.al, fun y hy => ?_⟩
        rw [List.mem_singleton.mp hy]
        trivial
    | _ => exact h.elim
end
/-! ### the looks -/
section
open PySem.W
variable {K : Frag} {mg : Str → Option Value} {tl : List Nat}
def errtB (K : Frag) (T : String) (tk : Nat → Bool) : Bool := ofCls K fun c C => decide (kitOne K (.ref C) (.type T) = some (tk c))
theorem errT_mk {T : String} {tk : Nat → Bool} (h : errtB K T tk = true) : ErrT K (ZK K tl) T tk := ⟨fun c C hc hz => by
  have := ofCls_ok h hc hz
  simpa using this⟩
def errtsB (K : Frag) (Ts : List String) (tk : Nat → Bool) : Bool := ofCls K fun c C => decide (kitAny K (.ref C) (Ts.map Value.type) = some (tk c))
theorem errTs_mk {Ts : List String} {tk : Nat → Bool} (h : errtsB K Ts tk = true) : ErrTs K (ZK K tl) Ts tk := ⟨fun c C hc hz => by
  have := ofCls_ok h hc hz
  simpa using this⟩
def err0B (K : Frag) (C : Addr) : Bool := excIn K C [.type "ValueError", .type "Exception", .type "BaseException", .type "object"] "ValueError.__new__" && keepIn K (.ref C)
theorem err0_mk {c : Nat} {x : Str} {C : Addr} (hm : mg x = some (.ref C)) (hZ : ZK K tl c = some C) (h : err0B K C = true) : ErrC0 K mg (ZK K tl) c x := by
  unfold err0B at h
  obtain ⟨h1, h2⟩ := Bool.and_eq_true_iff.mp h
  exact ⟨C, hm, hZ, h1, h2⟩
end
/-! ### what a run gives -/
section
variable {e : Ev} {QD : DV → Ev → Prop} {X : XQ} {i c : Nat} {fa : M DV}
@[simp] theorem sat_mkEM : (mkEM c fa e).sat QD X = (fa e).sat (fun d e' => osat (fun g => QD (.e c (some g)) e') (dataOf d)) X := by
  show ((fa e).bind _).sat QD X = _
  rw [sat_bind]; congr 1; funext d e'
  cases dataOf d <;> rfl
@[simp] theorem sat_mkE0M : (mkE0M c e).sat QD X = QD (.e c none) e := rfl
def fldEO (f : Str) : Option DV → Option PyData
  | some (.e c (some g)) => if fldOf c = f then some g else none
  | _ => none
@[simp] theorem sat_fldEM {f : Str} : (fldEM i f e).sat QD X = osat (fun d => QD (.d d) e) (fldEO f (slot e i)) := by
  unfold fldEM
  cases slot e i with
  | none => rfl
  | some d =>
    cases d with
    | e c g =>
      cases g with
      | none => rfl
      | some g =>
        simp only [fldEO]
        by_cases h : fldOf c = f
        · rw [if_pos h, if_pos h]; rfl
        · rw [if_neg h, if_neg h]; rfl
    | _ => rfl
def isEO (tk : Nat → Bool) : Option DV → Option Bool
  | some (.e c _) => some (tk c)
  | _ => none
@[simp] theorem sat_isEM {tk : Nat → Bool} : (isEM i tk e).sat QD X = osat (fun b => QD (.d (.bool b)) e) (isEO tk (slot e i)) := by
  unfold isEM
  cases slot e i with
  | none => rfl
  | some d => cases d <;> rfl
end
end Lk
namespace Lk
open PySem PySem.Spec PyProof.Rows L2
/-- no error is of the class -/
def tkN : Nat → Bool := fun _ => false
section
variable {X : Cx} {Z : ClT} {W : WX} {kr : Nat} {φ : List Nat} {ψ : SF} {gb : M Fl} {n : Str} {ks : List (Value × Cla)} {pos : Pos}
theorem gTry (i : Nat) {body : List Stmt} {h₀ : ExceptHandler} {hds : List ExceptHandler} (hN : X.N.Nodup) (XE : ErrsOk X.K Z) (tk : Takes X W)
    (hb : ∀ (W' : WX) (pn : List (Addr × Obj)) (xe : Value → Shared → Prop), Takes (X.tr pn xe) W' → JSs (X.tr pn xe) Z W' [] kr φ body ψ gb) (hh : HdsJ X Z kr n ψ (h₀ :: hds) ks)
    (hi : X.N[i]? = some n := by rfl) (hln : X.env.kindOf n = some .local := by rfl) (hs : X.stack = X.env :: X.outer := by rfl) (hf : X.env.frame = some X.env.locals := by rfl) :
    JS X Z W [] kr φ (.Try body (h₀ :: hds) [] [] pos) ψ (tryM X.N.length i (ks.map (·.2)) gb) := js_try hs hf hN hi hln tk XE.nh (fun W' pn xe tk _ => hb W' pn xe tk) hh
end
end Lk
namespace Lk
open PySem PySem.Spec L2
def m_lawUdraw : M Fl :=
  (seqM (ifS (asB (.v 9) (op2 (lift2 (cmpP .Gt)) (.v 0) (.v 9) (op2 ixD (.sl 0) (.v 9) (slotM 0) (M.pure (.d (.int 0)))) (M.pure (.d (.int 0)))))
    (seqM (setM 2 (op2 (lift2 modP) (.v 9) (.sl 1) (callM (oneD intP) [.v 0] (consM (op2 ixD (.sl 0) (.v 9) (slotM 0) (M.pure (.d (.int 0)))) (M.pure []))) (slotM 1)))
    (seqM (stM 0 (op2 (lift2 divP) (.v 0) (.sl 1) (op2 ixD (.sl 0) (.v 9) (slotM 0) (M.pure (.d (.int 0)))) (slotM 1)) (.v 9) (M.pure (.d (.int 0))))
    (seqM (retM [(0, 1)] (slotM 2))
    nxM)))
    nxM)
    (seqM (stM 0 (op2 (lift2 addP) (.v 0) (.v 9) (op2 ixD (.sl 0) (.v 9) (slotM 0) (M.pure (.d (.int 2)))) (M.pure (.d (.int 1)))) (.v 9) (M.pure (.d (.int 2))))
    (seqM (setM 3 (op2 (lift2 modP) (.v 9) (.v 9) (callM (oneD intP) [.v 1] (consM (op2 (lift2 addP) (.v 1) (.v 9) (op2 (lift2 addP) (.v 1) (.v 1) (op2 (lift2 mulQ) (.v 0) (.v 9) (op2 ixD (.sl 0) (.v 9) (slotM 0) (M.pure (.d (.int 1)))) (M.pure (.d (.int 40692)))) (op2 (lift2 mulQ) (.v 9) (.v 0) (M.pure (.d (.int 17093))) (op2 ixD (.sl 0) (.v 9) (slotM 0) (M.pure (.d (.int 2)))))) (M.pure (.d (.int 31)))) (M.pure []))) (M.pure (.d (.int 2147483399)))))
    (seqM (stM 0 (slotM 3) (.v 9) (M.pure (.d (.int 1))))
    (seqM (retM [(0, 1)] (op2 (lift2 modP) (.v 9) (.sl 1) (callM (oneD intP) [.v 9] (consM (op2 (lift2 divP) (.v 1) (.v 9) (op2 (lift2 mulQ) (.sl 3) (.v 1) (slotM 3) (op2 (lift2 addP) (.v 9) (.v 9) (op2 (lift2 modP) (.v 9) (.v 9) (callM (oneD intP) [.sl 3] (consM (slotM 3) (M.pure []))) (M.pure (.d (.int 28001)))) (M.pure (.d (.int 30011))))) (M.pure (.d (.int 5003)))) (M.pure []))) (slotM 1)))
    nxM)))))
def F_lawUdraw : List DV → Res := runF 4 (ioP 0 [.io 1 1, .fz]) m_lawUdraw
def m_lawUpick : M Fl :=
  (seqM (retM [(0, 1)] (op2 ixD (.sl 1) (.v 9) (slotM 1) (callF F_lawUdraw [.io 1 1, .fz] [.sl 0, .v 9] (consM (slotM 0) (consM (callM lenD [.sl 1] (consM (slotM 1) (M.pure []))) (M.pure []))))))
    nxM)
def F_lawUpick : List DV → Res := runF 2 (ioP 0 [.io 1 1, .fz]) m_lawUpick
def m_lawUstrange : M Fl :=
  (seqM (setM 1 (dispM .tuple (consM (M.pure (.d .none)) (consM (M.pure (.d (.bool true))) (consM (M.pure (.d (.bool false))) (consM (M.pure (.d (.int 0))) (consM (M.pure (.d (.int 1))) (consM (M.pure (.d (.int 7))) (consM (un1 (lift1 negP) (.v 9) (M.pure (.d (.int 1)))) (consM (M.pure (.d (.int 11))) (consM (op2 (lift2 powP) (.v 9) (.v 9) (M.pure (.d (.int 10))) (M.pure (.d (.int 30)))) (consM (M.pure (.d (.str ("" : Str)))) (consM (M.pure (.d (.str ("3:" : Str)))) (consM (M.pure (.d (.str ("3: 0-1" : Str)))) (consM (dispM .tuple (M.pure [])) (consM (dispM .tuple (consM (M.pure (.d (.int 0))) (M.pure []))) (consM (dispM .tuple (consM (M.pure (.d (.int 0))) (consM (M.pure (.d (.int 1))) (M.pure [])))) (consM (dispM .tuple (consM (M.pure (.d (.int 1))) (consM (M.pure (.d (.int 0))) (M.pure [])))) (consM (dispM .list (M.pure [])) (consM (dispM .list (consM (M.pure (.d (.int 0))) (consM (M.pure (.d (.int 1))) (M.pure [])))) (M.pure [])))))))))))))))))))))
    (seqM (setM 2 (dispM .tuple (consM (dispM .tuple (consM (M.pure (.d (.int 3))) (consM (dispM .tuple (M.pure [])) (M.pure [])))) (consM (dispM .tuple (consM (M.pure (.d (.int 3))) (consM (dispM .tuple (consM (dispM .tuple (consM (M.pure (.d (.int 0))) (consM (M.pure (.d (.int 1))) (M.pure [])))) (M.pure []))) (M.pure [])))) (consM (dispM .tuple (consM (M.pure (.d (.int 3))) (consM (dispM .tuple (consM (dispM .tuple (consM (M.pure (.d (.int 1))) (consM (M.pure (.d (.int 0))) (M.pure [])))) (M.pure []))) (M.pure [])))) (consM (dispM .tuple (consM (M.pure (.d (.int 0))) (consM (dispM .tuple (M.pure [])) (M.pure [])))) (consM (dispM .tuple (consM (M.pure (.d (.int 11))) (consM (dispM .tuple (M.pure [])) (M.pure [])))) (consM (dispM .tuple (consM (M.pure (.d (.bool true))) (consM (dispM .tuple (M.pure [])) (M.pure [])))) (consM (dispM .tuple (consM (M.pure (.d (.int 2))) (consM (dispM .list (consM (dispM .tuple (consM (M.pure (.d (.int 0))) (consM (M.pure (.d (.int 1))) (M.pure [])))) (M.pure []))) (M.pure [])))) (M.pure []))))))))))
    (seqM (retM [(0, 1)] (callF F_lawUpick [.io 1 1, .fz] [.sl 0, .v 1] (consM (slotM 0) (consM (op2 (lift2 addP) (.v 1) (.v 10) (op2 (lift2 addP) (.sl 1) (.sl 2) (slotM 1) (slotM 2)) (dispM .tuple (consM (M.pure (.d (.dict []))) (consM (dispM .tuple (consM (dispM .tuple (consM (M.pure (.d (.int 0))) (consM (M.pure (.d (.int 1))) (M.pure [])))) (consM (dispM .tuple (consM (M.pure (.d (.int 1))) (consM (M.pure (.d (.int 2))) (M.pure [])))) (M.pure [])))) (M.pure []))))) (M.pure [])))))
    nxM)))
def F_lawUstrange : List DV → Res := runF 3 (ioP 0 [.io 1 1]) m_lawUstrange
def m_lawUmade : M Fl :=
  (seqM (ifS (asB (.v 9) (op2 (lift2 eqP) (.sl 0) (.v 9) (slotM 0) (M.pure (.d (.int 0)))))
    (seqM (retM [] (ifM (truM (.sl 2) (slotM 2)) (mkEM 0 (slotM 1)) (mkEM 0 (slotM 1))))
    nxM)
    nxM)
    (seqM (ifS (asB (.v 9) (op2 (lift2 eqP) (.sl 0) (.v 9) (slotM 0) (M.pure (.d (.int 1)))))
    (seqM (retM [] (ifM (truM (.sl 2) (slotM 2)) (mkEM 1 (slotM 1)) (mkEM 1 (slotM 1))))
    nxM)
    nxM)
    (seqM (ifS (asB (.v 9) (op2 (lift2 eqP) (.sl 0) (.v 9) (slotM 0) (M.pure (.d (.int 2)))))
    (seqM (retM [] (ifM (truM (.sl 2) (slotM 2)) (mkEM 2 (slotM 1)) (mkEM 2 (slotM 1))))
    nxM)
    nxM)
    (seqM (ifS (asB (.v 9) (op2 (lift2 eqP) (.sl 0) (.v 9) (slotM 0) (M.pure (.d (.int 3)))))
    (seqM (retM [] (ifM (truM (.sl 2) (slotM 2)) (mkEM 3 (slotM 1)) (mkEM 3 (slotM 1))))
    nxM)
    nxM)
    (seqM (ifS (asB (.v 9) (op2 (lift2 eqP) (.sl 0) (.v 9) (slotM 0) (M.pure (.d (.int 4)))))
    (seqM (retM [] (ifM (truM (.sl 2) (slotM 2)) (mkEM 4 (slotM 1)) (mkEM 4 (slotM 1))))
    nxM)
    nxM)
    (seqM (ifS (asB (.v 9) (op2 (lift2 eqP) (.sl 0) (.v 9) (slotM 0) (M.pure (.d (.int 5)))))
    (seqM (retM [] (ifM (truM (.sl 2) (slotM 2)) (mkEM 5 (slotM 1)) (mkEM 5 (slotM 1))))
    nxM)
    nxM)
    (seqM (ifS (asB (.v 9) (op2 (lift2 eqP) (.sl 0) (.v 9) (slotM 0) (M.pure (.d (.int 6)))))
    (seqM (retM [] (ifM (truM (.sl 2) (slotM 2)) (mkEM 6 (slotM 1)) (mkEM 6 (slotM 1))))
    nxM)
    nxM)
    (seqM (ifS (asB (.v 9) (op2 (lift2 eqP) (.sl 0) (.v 9) (slotM 0) (M.pure (.d (.int 7)))))
    (seqM (retM [] (ifM (truM (.sl 2) (slotM 2)) (mkEM 100 (slotM 1)) (mkEM 100 (slotM 1))))
    nxM)
    nxM)
    (seqM (ifS (asB (.v 9) (op2 (lift2 eqP) (.sl 0) (.v 9) (slotM 0) (M.pure (.d (.int 8)))))
    (seqM (retM [] (ifM (truM (.sl 2) (slotM 2)) (mkEM 101 (slotM 1)) (mkEM 101 (slotM 1))))
    nxM)
    nxM)
    (seqM (ifS (asB (.v 9) (op2 (lift2 eqP) (.sl 0) (.v 9) (slotM 0) (M.pure (.d (.int 9)))))
    (seqM (retM [] (ifM (truM (.sl 2) (slotM 2)) (mkEM 102 (slotM 1)) (mkEM 102 (slotM 1))))
    nxM)
    nxM)
    (seqM (ifS (asB (.v 9) (op2 (lift2 eqP) (.sl 0) (.v 9) (slotM 0) (M.pure (.d (.int 10)))))
    (seqM (retM [] (ifM (truM (.sl 2) (slotM 2)) (mkEM 103 (slotM 1)) (mkEM 103 (slotM 1))))
    nxM)
    nxM)
    (seqM (retM [] (mkE0M 150))
    nxM))))))))))))
def F_lawUmade : List DV → Res := runF 3 (ioP 0 [.fz, .fz, .fz]) m_lawUmade
def m_lawUisUplain : M Fl :=
  (seqM (ifS (orM (notM (truM (.v 9) (isEM 0 tkA))) (notM (truM (.v 9) (isEM 0 tkA))))
    (seqM (retM [] (M.pure (.d (.bool false))))
    nxM)
    nxM)
    (seqM (retM [] (notV (.v 9) (isEM 0 tkN)))
    nxM))
def F_lawUisUplain : List DV → Res := runF 1 (ioP 0 [.fz]) m_lawUisUplain
def m_lawUisUcaught : M Fl :=
  (seqM (tryM 4 2 [⟨tkA, (seqM (setM 3 (ifM (asB (.v 9) (op2 (lift2 (cmpP .Lt)) (.sl 1) (.v 9) (slotM 1) (M.pure (.d (.int 2))))) (fldM 2 "given") (fldM 2 "index")))
    (seqM (retM [] (andV (.v 9) (op2 (lift2 eqP) (.v 9) (.v 9) (callM (oneD reprP) [.sl 3] (consM (slotM 3) (M.pure []))) (callM (oneD reprP) [.sl 0] (consM (slotM 0) (M.pure [])))) (isXM 2 tkA)))
    nxM))⟩]
    (seqM (ifS (asB (.v 9) (op2 (lift2 eqP) (.sl 1) (.v 9) (slotM 1) (M.pure (.d (.int 0)))))
    (seqM (raiM 0 (.sl 0) (slotM 0))
    nxM)
    nxM)
    (seqM (ifS (asB (.v 9) (op2 (lift2 eqP) (.sl 1) (.v 9) (slotM 1) (M.pure (.d (.int 1)))))
    (seqM (raiM 6 (.sl 0) (slotM 0))
    nxM)
    nxM)
    (seqM (raiM 100 (.sl 0) (slotM 0))
    nxM))))
    (fun _ => .bad))
def F_lawUisUcaught : List DV → Res := runF 4 (ioP 0 [.fz, .fz]) m_lawUisUcaught
def m_lawUisUof : M Fl :=
  (seqM (ifS (asB (.v 9) (op2 (lift2 eqP) (.sl 1) (.v 9) (slotM 1) (M.pure (.d (.int 0)))))
    (seqM (retM [] (isEM 0 (tkC 0)))
    nxM)
    nxM)
    (seqM (ifS (asB (.v 9) (op2 (lift2 eqP) (.sl 1) (.v 9) (slotM 1) (M.pure (.d (.int 1)))))
    (seqM (retM [] (isEM 0 (tkC 1)))
    nxM)
    nxM)
    (seqM (ifS (asB (.v 9) (op2 (lift2 eqP) (.sl 1) (.v 9) (slotM 1) (M.pure (.d (.int 2)))))
    (seqM (retM [] (isEM 0 (tkC 2)))
    nxM)
    nxM)
    (seqM (ifS (asB (.v 9) (op2 (lift2 eqP) (.sl 1) (.v 9) (slotM 1) (M.pure (.d (.int 3)))))
    (seqM (retM [] (isEM 0 (tkC 3)))
    nxM)
    nxM)
    (seqM (ifS (asB (.v 9) (op2 (lift2 eqP) (.sl 1) (.v 9) (slotM 1) (M.pure (.d (.int 4)))))
    (seqM (retM [] (isEM 0 (tkC 4)))
    nxM)
    nxM)
    (seqM (ifS (asB (.v 9) (op2 (lift2 eqP) (.sl 1) (.v 9) (slotM 1) (M.pure (.d (.int 5)))))
    (seqM (retM [] (isEM 0 (tkC 5)))
    nxM)
    nxM)
    (seqM (ifS (asB (.v 9) (op2 (lift2 eqP) (.sl 1) (.v 9) (slotM 1) (M.pure (.d (.int 6)))))
    (seqM (retM [] (isEM 0 (tkC 6)))
    nxM)
    nxM)
    (seqM (ifS (asB (.v 9) (op2 (lift2 eqP) (.sl 1) (.v 9) (slotM 1) (M.pure (.d (.int 7)))))
    (seqM (retM [] (isEM 0 (tkC 100)))
    nxM)
    nxM)
    (seqM (ifS (asB (.v 9) (op2 (lift2 eqP) (.sl 1) (.v 9) (slotM 1) (M.pure (.d (.int 8)))))
    (seqM (retM [] (isEM 0 (tkC 101)))
    nxM)
    nxM)
    (seqM (ifS (asB (.v 9) (op2 (lift2 eqP) (.sl 1) (.v 9) (slotM 1) (M.pure (.d (.int 9)))))
    (seqM (retM [] (isEM 0 (tkC 102)))
    nxM)
    nxM)
    (seqM (ifS (asB (.v 9) (op2 (lift2 eqP) (.sl 1) (.v 9) (slotM 1) (M.pure (.d (.int 10)))))
    (seqM (retM [] (isEM 0 (tkC 103)))
    nxM)
    nxM)
    (seqM (retM [] (isEM 0 tkA))
    nxM))))))))))))
def F_lawUisUof : List DV → Res := runF 2 (ioP 0 [.fz, .fz]) m_lawUisUof
def m_lawUright : M Fl :=
  (seqM (forS (.nm 1) (rg1I (.v 9) (M.pure (.d (.int 12))))
    (seqM (setM 2 (callF F_lawUstrange [.io 1 1] [.sl 0] (consM (slotM 0) (M.pure []))))
    (seqM (forS (.nm 3) (seqI (dispM .tuple (consM (M.pure (.d (.bool false))) (consM (M.pure (.d (.bool true))) (M.pure [])))))
    (seqM (setM 4 (callF F_lawUmade [.fz, .fz, .fz] [.v 0, .v 0, .v 0] (consM (slotM 1) (consM (slotM 2) (consM (slotM 3) (M.pure []))))))
    (seqM (ifS (asB (.v 9) (op2 (lift2 neP) (.v 1) (.v 1) (compM (.nm 6) [6] (rg1I (.v 9) (M.pure (.d (.int 11)))) (truM (.v 9) (callF F_lawUisUof [.fz, .fz] [.v 0, .v 0] (consM (slotM 4) (consM (slotM 6) (M.pure []))))) (slotM 6)) (ifM (asB (.v 9) (op2 (lift2 (cmpP .Lt)) (.sl 1) (.v 9) (slotM 1) (M.pure (.d (.int 11))))) (dispM .list (consM (slotM 1) (M.pure []))) (dispM .list (M.pure [])))))
    (seqM (retM [(0, 1)] (M.pure (.d (.bool false))))
    nxM)
    nxM)
    (seqM (ifS (notM (truM (.v 9) (callF F_lawUisUplain [.fz] [.v 0] (consM (slotM 4) (M.pure [])))))
    (seqM (retM [(0, 1)] (M.pure (.d (.bool false))))
    nxM)
    nxM)
    (seqM (ifS (andM (asB (.v 9) (op2 (lift2 (cmpP .Lt)) (.sl 1) (.v 9) (slotM 1) (M.pure (.d (.int 11))))) (asB (.v 9) (op2 (lift2 neP) (.v 9) (.v 9) (callM (oneD reprP) [.v 0] (consM (ifM (asB (.v 9) (op2 (lift2 (cmpP .Lt)) (.sl 1) (.v 9) (slotM 1) (M.pure (.d (.int 7))))) (fldEM 4 "given") (fldEM 4 "index")) (M.pure []))) (callM (oneD reprP) [.sl 2] (consM (slotM 2) (M.pure []))))))
    (seqM (retM [(0, 1)] (M.pure (.d (.bool false))))
    nxM)
    nxM)
    nxM)))))
    nxM)))
    (seqM (retM [(0, 1)] (op2 (lift2 eqP) (.v 1) (.v 9) (compM (.nm 5) [5] (seqI (dispM .tuple (consM (M.pure (.d (.int 0))) (consM (M.pure (.d (.int 1))) (consM (M.pure (.d (.int 2))) (M.pure [])))))) (notM (truM (.v 9) (callF F_lawUisUcaught [.fz, .fz] [.v 0, .v 0] (consM (callF F_lawUstrange [.io 1 1] [.sl 0] (consM (slotM 0) (M.pure []))) (consM (slotM 5) (M.pure [])))))) (slotM 5)) (dispM .list (M.pure []))))
    nxM))
def F_lawUright : List DV → Res := runF 7 (ioP 0 [.io 1 1]) m_lawUright
def m_lawUwell : M Fl :=
  (seqM (setM 2 (ifM (asB (.v 9) (op2 (lift2 (cmpP .Lt)) (.sl 1) (.v 9) (slotM 1) (callM lenD [.sl 0] (consM (slotM 0) (M.pure []))))) (callM (oneD intP) [.v 0] (consM (op2 ixD (.sl 0) (.sl 1) (slotM 0) (slotM 1)) (M.pure []))) (M.pure (.d (.int 0)))))
    (seqM (setM 3 (op2 (lift2 addP) (.v 9) (.v 1) (M.pure (.d (.int 97))) (op2 (lift2 mulQ) (.v 9) (.sl 1) (M.pure (.d (.int 32452843))) (slotM 1))))
    (seqM (forS (.nm 4) (seqI (slM (.sl 0) (slotM 0) (M.pure none) (someI (.v 9) (M.pure (.d (.int 11))))))
    (seqM (setM 3 (op2 (lift2 modP) (.v 9) (.v 9) (callM (oneD intP) [.v 1] (consM (op2 (lift2 addP) (.v 1) (.v 9) (op2 (lift2 addP) (.v 1) (.v 9) (op2 (lift2 mulQ) (.sl 3) (.v 9) (slotM 3) (M.pure (.d (.int 22695)))) (op2 (lift2 modP) (.v 9) (.v 9) (callM (oneD intP) [.sl 4] (consM (slotM 4) (M.pure []))) (M.pure (.d (.int 2147483423))))) (M.pure (.d (.int 53)))) (M.pure []))) (M.pure (.d (.int 2147483399)))))
    nxM))
    (seqM (setM 3 (op2 (lift2 modP) (.v 9) (.v 9) (callM (oneD intP) [.v 1] (consM (op2 (lift2 addP) (.v 1) (.v 9) (op2 (lift2 addP) (.v 1) (.v 1) (op2 (lift2 mulQ) (.sl 3) (.v 9) (slotM 3) (M.pure (.d (.int 41358)))) (op2 (lift2 mulQ) (.v 9) (.v 9) (op2 (lift2 modP) (.v 9) (.v 9) (callM (oneD intP) [.sl 2] (consM (slotM 2) (M.pure []))) (M.pure (.d (.int 2147483423)))) (M.pure (.d (.int 10301))))) (M.pure (.d (.int 23)))) (M.pure []))) (M.pure (.d (.int 2147483399)))))
    (seqM (retM [] (dispM .list (consM (ifM (asB (.v 9) (op2 (lift2 (cmpP .GtE)) (.v 9) (.v 9) (callM (oneD absP) [.sl 2] (consM (slotM 2) (M.pure []))) (op2 (lift2 powP) (.v 9) (.v 9) (M.pure (.d (.int 10))) (M.pure (.d (.int 16)))))) (callM (oneD absP) [.sl 2] (consM (slotM 2) (M.pure []))) (M.pure (.d (.int 0)))) (consM (slotM 3) (consM (M.pure (.d (.int 0))) (M.pure []))))))
    nxM)))))
def F_lawUwell : List DV → Res := runF 5 (ioP 0 [.fz, .fz]) m_lawUwell
def m_law : M Fl :=
  (seqM (forS (.nm 1) (rg1I (.v 9) (callM (twoD maxP) [.v 9, .v 9] (consM (M.pure (.d (.int 2))) (consM (callM (twoD minP) [.v 9, .v 9] (consM (callM lenD [.sl 0] (consM (slotM 0) (M.pure []))) (consM (M.pure (.d (.int 4))) (M.pure [])))) (M.pure [])))))
    (seqM (ifS (notM (truM (.v 9) (callF F_lawUright [.io 1 1] [.v 1] (consM (callF F_lawUwell [.fz, .fz] [.v 0, .v 0] (consM (slotM 0) (consM (slotM 1) (M.pure [])))) (M.pure [])))))
    (seqM (retM [] (M.pure (.d (.bool false))))
    nxM)
    nxM)
    nxM))
    (seqM (retM [] (M.pure (.d (.bool true))))
    nxM))
def F_law : List DV → Res := runF 2 (ioP 0 [.fz]) m_law
end Lk
namespace Lk
open PySem PySem.Spec L2
def top (i : Nat) : Stmt := PySem.Challenge.pw_linkless_k01_errors_each_of_its_own.main.body.getD i (.Pass ⟨0, 0, 0, 0⟩)
abbrev s_lawUdraw : Stmt := top 15
abbrev N_lawUdraw : List Str := ["well", "many", "digit", "seed"]
theorem n_lawUdraw : N_lawUdraw.Nodup := by decide
theorem S_lawUdraw : FnScope N_lawUdraw ["well", "many"] (defScope s_lawUdraw) := ⟨rfl, rfl, rfl, by decide +kernel, rfl, by decide +kernel, by decide +kernel⟩
section
variable {P : Program} {w : World} {K : PySem.W.Frag} {mg : Str → Option Value} {base : Heap} {f : Addr} {fd : FuncData} {Z : ClT}
theorem b_lawUdraw (z_int : mg "int" = none) : BodyD P w K mg base 0 N_lawUdraw "_law_draw" s_lawUdraw f Z [.io 1 1, .fz] 9 m_lawUdraw := by
  intro cdv A outer s H E hcc hr hgd tk po
  have hu80 := units80 hr
  have hu70 := units70 hr
  have hu65 := units65 hr
  have hu64 := units64 hr
  refine ⟨⟨[1, 0, 0, 0], [1, 0, 0, 0], [1, 0, 0, 0]⟩, rfl, ?_⟩
  exact (gSeq ⟨[1, 0, 0, 0], [1, 0, 0, 0], [1, 0, 0, 0]⟩ (gIfS (ψ1 := ⟨[1, 0, 0, 0], [1, 0, 0, 0], [1, 0, 0, 0]⟩) (ψ2 := ⟨[1, 0, 0, 0], [1, 0, 0, 0], [1, 0, 0, 0]⟩) (gCmpT (op_ordD rfl hu80) (gIx (op_ixD hu64) (gv 0) gi) gi)
    (gSeq ⟨[1, 0, 9, 0], [1, 0, 0, 0], [1, 0, 0, 0]⟩ (gSet 2 n_lawUdraw (je_bin op_modD (gCallT cd_int z_int (gCons (gIx (op_ixD hu64) (gv 0) gi) ja_nil)) (gv 1)))
    (gSeq ⟨[1, 0, 9, 0], [1, 0, 0, 0], [1, 0, 0, 0]⟩ (gStore 0 0 hu64 (je_bin op_divD (gIx (op_ixD hu64) (gv 0) gi) (gv 1)) gi)
    (gSeq ⟨[1, 0, 0, 0], [1, 0, 0, 0], [1, 0, 0, 0]⟩ (gRetV 2 9)
    gNil)))
    gNil)
    (gSeq ⟨[1, 0, 0, 0], [1, 0, 0, 0], [1, 0, 0, 0]⟩ (gStore 0 0 hu64 (je_bin op_addD (gIx (op_ixD hu64) (gv 0) gi) gi) gi)
    (gSeq ⟨[1, 0, 0, 9], [1, 0, 0, 0], [1, 0, 0, 0]⟩ (gSet 3 n_lawUdraw (je_bin op_modD (gCallT cd_int z_int (gCons (je_bin op_addD (je_bin op_addD (je_bin op_mulDD (gIx (op_ixD hu64) (gv 0) gi) gi) (je_bin op_mulDD gi (gIx (op_ixD hu64) (gv 0) gi))) gi) ja_nil)) gi))
    (gSeq ⟨[1, 0, 0, 0], [1, 0, 0, 0], [1, 0, 0, 0]⟩ (gStore 0 0 hu64 (ge 3) gi)
    (gSeq ⟨[1, 0, 0, 0], [1, 0, 0, 0], [1, 0, 0, 0]⟩ (gRet (je_bin op_modD (gCallT cd_int z_int (gCons (je_bin op_divD (je_bin op_mulDD (gv 3) (je_bin op_addD (je_bin op_modD (gCallT cd_int z_int (gCons (gv 3) ja_nil)) gi) gi)) gi) ja_nil)) (gv 1)))
    gNil)))))
theorem h_lawUdraw (fn : Fun K "_law_draw" "_law_draw" s_lawUdraw f fd) (hm : mg "_law_draw" = some (.ref f)) (z_int : mg "int" = none) : Has P w K mg base 1 "_law_draw" ["well", "many"] Z [.io 1 1, .fz] 9 F_lawUdraw :=
  has_of fn hm S_lawUdraw (fun _ _ _ _ _ _ l hl => match l, hl with
    | [_, _], _ => (And.intro rfl (And.intro rfl (And.intro rfl (And.intro rfl trivial))))) rfl (b_lawUdraw z_int)
end
abbrev s_lawUpick : Stmt := top 16
abbrev N_lawUpick : List Str := ["well", "some"]
theorem n_lawUpick : N_lawUpick.Nodup := by decide
theorem S_lawUpick : FnScope N_lawUpick ["well", "some"] (defScope s_lawUpick) := ⟨rfl, rfl, rfl, by decide +kernel, rfl, by decide +kernel, by decide +kernel⟩
section
variable {P : Program} {w : World} {K : PySem.W.Frag} {mg : Str → Option Value} {base : Heap} {f : Addr} {fd : FuncData} {Z : ClT}
theorem b_lawUpick (z_len : mg "len" = none) (G__law_draw : Has P w K mg base 1 "_law_draw" ["well", "many"] Z [.io 1 1, .fz] 9 F_lawUdraw) : BodyD P w K mg base 1 N_lawUpick "_law_pick" s_lawUpick f Z [.io 1 1, .fz] 0 m_lawUpick := by
  intro cdv A outer s H E hcc hr hgd tk po
  have hu80 := units80 hr
  have hu70 := units70 hr
  have hu65 := units65 hr
  have hu64 := units64 hr
  refine ⟨⟨[1, 0], [1, 0], [1, 0]⟩, rfl, ?_⟩
  exact (gSeq ⟨[1, 0], [1, 0], [1, 0]⟩ (gRet (gIx (op_ixD hu64) (gv 1) (gCall G__law_draw hr hgd tk (gCons (gv 0) (gCons (gCallB cd_len z_len (gCons (gv 1) ja_nil)) ja_nil)))))
    gNil)
theorem h_lawUpick (fn : Fun K "_law_pick" "_law_pick" s_lawUpick f fd) (hm : mg "_law_pick" = some (.ref f)) (z_len : mg "len" = none) (G__law_draw : Has P w K mg base 1 "_law_draw" ["well", "many"] Z [.io 1 1, .fz] 9 F_lawUdraw) : Has P w K mg base 2 "_law_pick" ["well", "some"] Z [.io 1 1, .fz] 0 F_lawUpick :=
  has_of fn hm S_lawUpick (fun _ _ _ _ _ _ l hl => match l, hl with
    | [_, _], _ => (And.intro rfl (And.intro rfl (And.intro rfl (And.intro rfl trivial))))) rfl (b_lawUpick z_len G__law_draw)
end
abbrev s_lawUstrange : Stmt := top 17
abbrev N_lawUstrange : List Str := ["well", "plain", "more"]
theorem n_lawUstrange : N_lawUstrange.Nodup := by decide
theorem S_lawUstrange : FnScope N_lawUstrange ["well"] (defScope s_lawUstrange) := ⟨rfl, rfl, rfl, by decide +kernel, rfl, by decide +kernel, by decide +kernel⟩
section
variable {P : Program} {w : World} {K : PySem.W.Frag} {mg : Str → Option Value} {base : Heap} {f : Addr} {fd : FuncData} {Z : ClT}
theorem b_lawUstrange (G__law_pick : Has P w K mg base 2 "_law_pick" ["well", "some"] Z [.io 1 1, .fz] 0 F_lawUpick) : BodyD P w K mg base 2 N_lawUstrange "_law_strange" s_lawUstrange f Z [.io 1 1] 0 m_lawUstrange := by
  intro cdv A outer s H E hcc hr hgd tk po
  have hu80 := units80 hr
  have hu70 := units70 hr
  have hu65 := units65 hr
  have hu64 := units64 hr
  refine ⟨⟨[1, 0, 0], [1, 0, 0], [1, 0, 0]⟩, rfl, ?_⟩
  exact (gSeq ⟨[1, 10, 0], [1, 0, 0], [1, 0, 0]⟩ (gSet 1 n_lawUstrange (gTup 9 (gCons gn (gCons gb (gCons gb (gCons gi (gCons gi (gCons gi (gCons (gNeg gi) (gCons gi (gCons (je_bin op_powD gi gi) (gCons gs (gCons gs (gCons gs (gCons (gTup 8 ja_nil) (gCons (gTup 9 (gCons gi ja_nil)) (gCons (gTup 9 (gCons gi (gCons gi ja_nil))) (gCons (gTup 9 (gCons gi (gCons gi ja_nil))) (gCons (gLst 8 ja_nil) (gCons (gLst 9 (gCons gi (gCons gi ja_nil))) ja_nil))))))))))))))))))))
    (gSeq ⟨[1, 10, 11], [1, 0, 0], [1, 0, 0]⟩ (gSet 2 n_lawUstrange (gTup 10 (gCons (gTup 9 (gCons gi (gCons (gTup 8 ja_nil) ja_nil))) (gCons (gTup 9 (gCons gi (gCons (gTup 10 (gCons (gTup 9 (gCons gi (gCons gi ja_nil))) ja_nil)) ja_nil))) (gCons (gTup 9 (gCons gi (gCons (gTup 10 (gCons (gTup 9 (gCons gi (gCons gi ja_nil))) ja_nil)) ja_nil))) (gCons (gTup 9 (gCons gi (gCons (gTup 8 ja_nil) ja_nil))) (gCons (gTup 9 (gCons gi (gCons (gTup 8 ja_nil) ja_nil))) (gCons (gTup 9 (gCons gb (gCons (gTup 8 ja_nil) ja_nil))) (gCons (gTup 9 (gCons gi (gCons (gLst 10 (gCons (gTup 9 (gCons gi (gCons gi ja_nil))) ja_nil)) ja_nil))) ja_nil)))))))))
    (gSeq ⟨[1, 0, 0], [1, 0, 0], [1, 0, 0]⟩ (gRet (gCall G__law_pick hr hgd tk (gCons (gv 0) (gCons (je_bin op_addD (je_bin op_addD (gv 1) (gv 2)) (gTup 9 (gCons gDict0 (gCons (gTup 10 (gCons (gTup 9 (gCons gi (gCons gi ja_nil))) (gCons (gTup 9 (gCons gi (gCons gi ja_nil))) ja_nil))) ja_nil)))) ja_nil))))
    gNil)))
theorem h_lawUstrange (fn : Fun K "_law_strange" "_law_strange" s_lawUstrange f fd) (hm : mg "_law_strange" = some (.ref f)) (G__law_pick : Has P w K mg base 2 "_law_pick" ["well", "some"] Z [.io 1 1, .fz] 0 F_lawUpick) : Has P w K mg base 3 "_law_strange" ["well"] Z [.io 1 1] 0 F_lawUstrange :=
  has_of fn hm S_lawUstrange (fun _ _ _ _ _ _ l hl => match l, hl with
    | [_], _ => (And.intro rfl (And.intro rfl trivial))) rfl (b_lawUstrange G__law_pick)
end
abbrev s_lawUmade : Stmt := top 18
abbrev N_lawUmade : List Str := ["at", "thing", "by_name"]
theorem n_lawUmade : N_lawUmade.Nodup := by decide
theorem S_lawUmade : FnScope N_lawUmade ["at", "thing", "by_name"] (defScope s_lawUmade) := ⟨rfl, rfl, rfl, by decide +kernel, rfl, by decide +kernel, by decide +kernel⟩
section
variable {P : Program} {w : World} {K : PySem.W.Frag} {mg : Str → Option Value} {base : Heap} {f : Addr} {fd : FuncData} {Z : ClT}
theorem b_lawUmade (E_InvalidEdge : ErrC P w K mg base Z 1 "InvalidEdge") (E_InvalidGraph : ErrC P w K mg base Z 0 "InvalidGraph") (E_InvalidLines : ErrC P w K mg base Z 103 "InvalidLines") (E_InvalidMoves : ErrC P w K mg base Z 101 "InvalidMoves") (E_InvalidNumber : ErrC P w K mg base Z 4 "InvalidNumber") (E_InvalidPasses : ErrC P w K mg base Z 102 "InvalidPasses") (E_InvalidRotation : ErrC P w K mg base Z 5 "InvalidRotation") (E_InvalidText : ErrC P w K mg base Z 100 "InvalidText") (E_InvalidTriangle : ErrC P w K mg base Z 3 "InvalidTriangle") (E_InvalidVertex : ErrC P w K mg base Z 2 "InvalidVertex") (E_TooMany : ErrC P w K mg base Z 6 "TooMany") (E0_LinkError : ErrC0 K mg Z 150 "LinkError") : BodyD P w K mg base 2 N_lawUmade "_law_made" s_lawUmade f Z [.fz, .fz, .fz] 0 m_lawUmade := by
  intro cdv A outer s H E hcc hr hgd tk po
  have hu80 := units80 hr
  have hu70 := units70 hr
  have hu65 := units65 hr
  have hu64 := units64 hr
  refine ⟨⟨[0, 0, 0], [0, 0, 0], [0, 0, 0]⟩, rfl, ?_⟩
  exact (gSeq ⟨[0, 0, 0], [0, 0, 0], [0, 0, 0]⟩ (gIfS (ψ1 := ⟨[0, 0, 0], [0, 0, 0], [0, 0, 0]⟩) (ψ2 := ⟨[0, 0, 0], [0, 0, 0], [0, 0, 0]⟩) (gCmpT (op_eqDD hu64) (gv 0) gi)
    (gSeq ⟨[0, 0, 0], [0, 0, 0], [0, 0, 0]⟩ (gRet (gIf [0, 0, 0] 0 (gTru (gv 2)) (gMkEk E_InvalidGraph hr tk (ge 1)) (gMkE E_InvalidGraph hr tk (ge 1))))
    gNil)
    gNil)
    (gSeq ⟨[0, 0, 0], [0, 0, 0], [0, 0, 0]⟩ (gIfS (ψ1 := ⟨[0, 0, 0], [0, 0, 0], [0, 0, 0]⟩) (ψ2 := ⟨[0, 0, 0], [0, 0, 0], [0, 0, 0]⟩) (gCmpT (op_eqDD hu64) (gv 0) gi)
    (gSeq ⟨[0, 0, 0], [0, 0, 0], [0, 0, 0]⟩ (gRet (gIf [0, 0, 0] 0 (gTru (gv 2)) (gMkEk E_InvalidEdge hr tk (ge 1)) (gMkE E_InvalidEdge hr tk (ge 1))))
    gNil)
    gNil)
    (gSeq ⟨[0, 0, 0], [0, 0, 0], [0, 0, 0]⟩ (gIfS (ψ1 := ⟨[0, 0, 0], [0, 0, 0], [0, 0, 0]⟩) (ψ2 := ⟨[0, 0, 0], [0, 0, 0], [0, 0, 0]⟩) (gCmpT (op_eqDD hu64) (gv 0) gi)
    (gSeq ⟨[0, 0, 0], [0, 0, 0], [0, 0, 0]⟩ (gRet (gIf [0, 0, 0] 0 (gTru (gv 2)) (gMkEk E_InvalidVertex hr tk (ge 1)) (gMkE E_InvalidVertex hr tk (ge 1))))
    gNil)
    gNil)
    (gSeq ⟨[0, 0, 0], [0, 0, 0], [0, 0, 0]⟩ (gIfS (ψ1 := ⟨[0, 0, 0], [0, 0, 0], [0, 0, 0]⟩) (ψ2 := ⟨[0, 0, 0], [0, 0, 0], [0, 0, 0]⟩) (gCmpT (op_eqDD hu64) (gv 0) gi)
    (gSeq ⟨[0, 0, 0], [0, 0, 0], [0, 0, 0]⟩ (gRet (gIf [0, 0, 0] 0 (gTru (gv 2)) (gMkEk E_InvalidTriangle hr tk (ge 1)) (gMkE E_InvalidTriangle hr tk (ge 1))))
    gNil)
    gNil)
    (gSeq ⟨[0, 0, 0], [0, 0, 0], [0, 0, 0]⟩ (gIfS (ψ1 := ⟨[0, 0, 0], [0, 0, 0], [0, 0, 0]⟩) (ψ2 := ⟨[0, 0, 0], [0, 0, 0], [0, 0, 0]⟩) (gCmpT (op_eqDD hu64) (gv 0) gi)
    (gSeq ⟨[0, 0, 0], [0, 0, 0], [0, 0, 0]⟩ (gRet (gIf [0, 0, 0] 0 (gTru (gv 2)) (gMkEk E_InvalidNumber hr tk (ge 1)) (gMkE E_InvalidNumber hr tk (ge 1))))
    gNil)
    gNil)
    (gSeq ⟨[0, 0, 0], [0, 0, 0], [0, 0, 0]⟩ (gIfS (ψ1 := ⟨[0, 0, 0], [0, 0, 0], [0, 0, 0]⟩) (ψ2 := ⟨[0, 0, 0], [0, 0, 0], [0, 0, 0]⟩) (gCmpT (op_eqDD hu64) (gv 0) gi)
    (gSeq ⟨[0, 0, 0], [0, 0, 0], [0, 0, 0]⟩ (gRet (gIf [0, 0, 0] 0 (gTru (gv 2)) (gMkEk E_InvalidRotation hr tk (ge 1)) (gMkE E_InvalidRotation hr tk (ge 1))))
    gNil)
    gNil)
    (gSeq ⟨[0, 0, 0], [0, 0, 0], [0, 0, 0]⟩ (gIfS (ψ1 := ⟨[0, 0, 0], [0, 0, 0], [0, 0, 0]⟩) (ψ2 := ⟨[0, 0, 0], [0, 0, 0], [0, 0, 0]⟩) (gCmpT (op_eqDD hu64) (gv 0) gi)
    (gSeq ⟨[0, 0, 0], [0, 0, 0], [0, 0, 0]⟩ (gRet (gIf [0, 0, 0] 0 (gTru (gv 2)) (gMkEk E_TooMany hr tk (ge 1)) (gMkE E_TooMany hr tk (ge 1))))
    gNil)
    gNil)
    (gSeq ⟨[0, 0, 0], [0, 0, 0], [0, 0, 0]⟩ (gIfS (ψ1 := ⟨[0, 0, 0], [0, 0, 0], [0, 0, 0]⟩) (ψ2 := ⟨[0, 0, 0], [0, 0, 0], [0, 0, 0]⟩) (gCmpT (op_eqDD hu64) (gv 0) gi)
    (gSeq ⟨[0, 0, 0], [0, 0, 0], [0, 0, 0]⟩ (gRet (gIf [0, 0, 0] 0 (gTru (gv 2)) (gMkEk E_InvalidText hr tk (ge 1)) (gMkE E_InvalidText hr tk (ge 1))))
    gNil)
    gNil)
    (gSeq ⟨[0, 0, 0], [0, 0, 0], [0, 0, 0]⟩ (gIfS (ψ1 := ⟨[0, 0, 0], [0, 0, 0], [0, 0, 0]⟩) (ψ2 := ⟨[0, 0, 0], [0, 0, 0], [0, 0, 0]⟩) (gCmpT (op_eqDD hu64) (gv 0) gi)
    (gSeq ⟨[0, 0, 0], [0, 0, 0], [0, 0, 0]⟩ (gRet (gIf [0, 0, 0] 0 (gTru (gv 2)) (gMkEk E_InvalidMoves hr tk (ge 1)) (gMkE E_InvalidMoves hr tk (ge 1))))
    gNil)
    gNil)
    (gSeq ⟨[0, 0, 0], [0, 0, 0], [0, 0, 0]⟩ (gIfS (ψ1 := ⟨[0, 0, 0], [0, 0, 0], [0, 0, 0]⟩) (ψ2 := ⟨[0, 0, 0], [0, 0, 0], [0, 0, 0]⟩) (gCmpT (op_eqDD hu64) (gv 0) gi)
    (gSeq ⟨[0, 0, 0], [0, 0, 0], [0, 0, 0]⟩ (gRet (gIf [0, 0, 0] 0 (gTru (gv 2)) (gMkEk E_InvalidPasses hr tk (ge 1)) (gMkE E_InvalidPasses hr tk (ge 1))))
    gNil)
    gNil)
    (gSeq ⟨[0, 0, 0], [0, 0, 0], [0, 0, 0]⟩ (gIfS (ψ1 := ⟨[0, 0, 0], [0, 0, 0], [0, 0, 0]⟩) (ψ2 := ⟨[0, 0, 0], [0, 0, 0], [0, 0, 0]⟩) (gCmpT (op_eqDD hu64) (gv 0) gi)
    (gSeq ⟨[0, 0, 0], [0, 0, 0], [0, 0, 0]⟩ (gRet (gIf [0, 0, 0] 0 (gTru (gv 2)) (gMkEk E_InvalidLines hr tk (ge 1)) (gMkE E_InvalidLines hr tk (ge 1))))
    gNil)
    gNil)
    (gSeq ⟨[0, 0, 0], [0, 0, 0], [0, 0, 0]⟩ (gRet (gMkE0 E0_LinkError))
    gNil))))))))))))
theorem h_lawUmade (fn : Fun K "_law_made" "_law_made" s_lawUmade f fd) (hm : mg "_law_made" = some (.ref f)) (E_InvalidEdge : ErrC P w K mg base Z 1 "InvalidEdge") (E_InvalidGraph : ErrC P w K mg base Z 0 "InvalidGraph") (E_InvalidLines : ErrC P w K mg base Z 103 "InvalidLines") (E_InvalidMoves : ErrC P w K mg base Z 101 "InvalidMoves") (E_InvalidNumber : ErrC P w K mg base Z 4 "InvalidNumber") (E_InvalidPasses : ErrC P w K mg base Z 102 "InvalidPasses") (E_InvalidRotation : ErrC P w K mg base Z 5 "InvalidRotation") (E_InvalidText : ErrC P w K mg base Z 100 "InvalidText") (E_InvalidTriangle : ErrC P w K mg base Z 3 "InvalidTriangle") (E_InvalidVertex : ErrC P w K mg base Z 2 "InvalidVertex") (E_TooMany : ErrC P w K mg base Z 6 "TooMany") (E0_LinkError : ErrC0 K mg Z 150 "LinkError") : Has P w K mg base 3 "_law_made" ["at", "thing", "by_name"] Z [.fz, .fz, .fz] 0 F_lawUmade :=
  has_of fn hm S_lawUmade (fun _ _ _ _ _ _ l hl => match l, hl with
    | [_, _, _], _ => (And.intro rfl (And.intro rfl (And.intro rfl (And.intro rfl (And.intro rfl (And.intro rfl (And.intro rfl (And.intro rfl (And.intro rfl (And.intro rfl trivial))))))))))) rfl (b_lawUmade E_InvalidEdge E_InvalidGraph E_InvalidLines E_InvalidMoves E_InvalidNumber E_InvalidPasses E_InvalidRotation E_InvalidText E_InvalidTriangle E_InvalidVertex E_TooMany E0_LinkError)
end
abbrev s_lawUisUplain : Stmt := top 21
abbrev N_lawUisUplain : List Str := ["error"]
theorem n_lawUisUplain : N_lawUisUplain.Nodup := by decide
theorem S_lawUisUplain : FnScope N_lawUisUplain ["error"] (defScope s_lawUisUplain) := ⟨rfl, rfl, rfl, by decide +kernel, rfl, by decide +kernel, by decide +kernel⟩
section
variable {P : Program} {w : World} {K : PySem.W.Frag} {mg : Str → Option Value} {base : Heap} {f : Addr} {fd : FuncData} {Z : ClT}
theorem b_lawUisUplain (z_ArithmeticError : mg "ArithmeticError" = none) (z_LookupError : mg "LookupError" = none) (z_TypeError : mg "TypeError" = none) (z_ValueError : mg "ValueError" = none) (z_isinstance : mg "isinstance" = none) (M_LinkError : ErrM K mg Z "LinkError" tkA) (XE : ErrsOk K Z) (MT_LookupError_TypeError_ArithmeticError : ErrTs K Z ["LookupError", "TypeError", "ArithmeticError"] tkN) (MT_ValueError : ErrT K Z "ValueError" tkA) : BodyD P w K mg base 0 N_lawUisUplain "_law_is_plain" s_lawUisUplain f Z [.fz] 9 m_lawUisUplain := by
  intro cdv A outer s H E hcc hr hgd tk po
  have hu80 := units80 hr
  have hu70 := units70 hr
  have hu65 := units65 hr
  have hu64 := units64 hr
  refine ⟨⟨[0], [0], [0]⟩, rfl, ?_⟩
  exact (gSeq ⟨[0], [0], [0]⟩ (gIfS (ψ1 := ⟨[0], [0], [0]⟩) (ψ2 := ⟨[0], [0], [0]⟩) (jt_w (gOr (jt_not (gTru (gIsEo 0 0 XE M_LinkError z_isinstance))) (jw_or1 (jt_not (gTru (gIsEb 0 0 XE MT_ValueError z_isinstance z_ValueError))))))
    (gSeq ⟨[0], [0], [0]⟩ (gRet gb)
    gNil)
    gNil)
    (gSeq ⟨[0], [0], [0]⟩ (gRet (je_not (gIsE3 0 0 XE MT_LookupError_TypeError_ArithmeticError z_isinstance z_LookupError z_TypeError z_ArithmeticError)))
    gNil))
theorem h_lawUisUplain (fn : Fun K "_law_is_plain" "_law_is_plain" s_lawUisUplain f fd) (hm : mg "_law_is_plain" = some (.ref f)) (z_ArithmeticError : mg "ArithmeticError" = none) (z_LookupError : mg "LookupError" = none) (z_TypeError : mg "TypeError" = none) (z_ValueError : mg "ValueError" = none) (z_isinstance : mg "isinstance" = none) (M_LinkError : ErrM K mg Z "LinkError" tkA) (XE : ErrsOk K Z) (MT_LookupError_TypeError_ArithmeticError : ErrTs K Z ["LookupError", "TypeError", "ArithmeticError"] tkN) (MT_ValueError : ErrT K Z "ValueError" tkA) : Has P w K mg base 1 "_law_is_plain" ["error"] Z [.fz] 9 F_lawUisUplain :=
  has_of fn hm S_lawUisUplain (fun _ _ _ _ _ _ l hl => match l, hl with
    | [_], _ => (And.intro rfl (And.intro rfl trivial))) rfl (b_lawUisUplain z_ArithmeticError z_LookupError z_TypeError z_ValueError z_isinstance M_LinkError XE MT_LookupError_TypeError_ArithmeticError MT_ValueError)
end
abbrev s_lawUisUcaught : Stmt := top 20
abbrev N_lawUisUcaught : List Str := ["thing", "way", "e", "kept"]
theorem n_lawUisUcaught : N_lawUisUcaught.Nodup := by decide
theorem S_lawUisUcaught : FnScope N_lawUisUcaught ["thing", "way"] (defScope s_lawUisUcaught) := ⟨rfl, rfl, rfl, by decide +kernel, rfl, by decide +kernel, by decide +kernel⟩
section
variable {P : Program} {w : World} {K : PySem.W.Frag} {mg : Str → Option Value} {base : Heap} {f : Addr} {fd : FuncData} {Z : ClT}
theorem b_lawUisUcaught (z_ValueError : mg "ValueError" = none) (z_isinstance : mg "isinstance" = none) (z_repr : mg "repr" = none) (E_InvalidGraph : ErrC P w K mg base Z 0 "InvalidGraph") (E_InvalidText : ErrC P w K mg base Z 100 "InvalidText") (E_TooMany : ErrC P w K mg base Z 6 "TooMany") (M_LinkError : ErrM K mg Z "LinkError" tkA) (XE : ErrsOk K Z) (MT_ValueError : ErrT K Z "ValueError" tkA) : BodyD P w K mg base 2 N_lawUisUcaught "_law_is_caught" s_lawUisUcaught f Z [.fz, .fz] 9 m_lawUisUcaught := by
  intro cdv A outer s H E hcc hr hgd tk po
  have hu80 := units80 hr
  have hu70 := units70 hr
  have hu65 := units65 hr
  have hu64 := units64 hr
  obtain ⟨D_LinkError, hm_LinkError, ht_LinkError, _⟩ := id M_LinkError.ex
  refine ⟨⟨[0, 0, 0, 0], [0, 0, 0, 0], [0, 0, 0, 0]⟩, rfl, ?_⟩
  exact (gSeq ⟨[0, 0, 0, 0], [0, 0, 0, 0], [0, 0, 0, 0]⟩ (gTry 2 n_lawUisUcaught XE tk (ks := [(.ref D_LinkError, ⟨tkA, (seqM (setM 3 (ifM (asB (.v 9) (op2 (lift2 (cmpP .Lt)) (.sl 1) (.v 9) (slotM 1) (M.pure (.d (.int 2))))) (fldM 2 "given") (fldM 2 "index")))
    (seqM (retM [] (andV (.v 9) (op2 (lift2 eqP) (.v 9) (.v 9) (callM (oneD reprP) [.sl 3] (consM (slotM 3) (M.pure []))) (callM (oneD reprP) [.sl 0] (consM (slotM 0) (M.pure [])))) (isXM 2 tkA)))
    nxM))⟩)]) (fun W1 pn xe tk1 => (gSeq ⟨[0, 0, 0, 0], [0, 0, 0, 0], [0, 0, 0, 0]⟩ (gIfS (ψ1 := ⟨[0, 0, 0, 0], [0, 0, 0, 0], [0, 0, 0, 0]⟩) (ψ2 := ⟨[0, 0, 0, 0], [0, 0, 0, 0], [0, 0, 0, 0]⟩) (gCmpT (op_eqDD hu64) (gv 1) gi)
    (gSeq ⟨[0, 0, 0, 0], [0, 0, 0, 0], [0, 0, 0, 0]⟩ (gRaise E_InvalidGraph hr tk1 (gv 0))
    gNil)
    gNil)
    (gSeq ⟨[0, 0, 0, 0], [0, 0, 0, 0], [0, 0, 0, 0]⟩ (gIfS (ψ1 := ⟨[0, 0, 0, 0], [0, 0, 0, 0], [0, 0, 0, 0]⟩) (ψ2 := ⟨[0, 0, 0, 0], [0, 0, 0, 0], [0, 0, 0, 0]⟩) (gCmpT (op_eqDD hu64) (gv 1) gi)
    (gSeq ⟨[0, 0, 0, 0], [0, 0, 0, 0], [0, 0, 0, 0]⟩ (gRaiseK E_TooMany hr tk1 (gv 0))
    gNil)
    gNil)
    (gSeq ⟨[0, 0, 0, 0], [0, 0, 0, 0], [0, 0, 0, 0]⟩ (gRaise E_InvalidText hr tk1 (gv 0))
    gNil))))
    (gHd hm_LinkError ht_LinkError (fun a C d oe pn hz hf hC => (gSeq ⟨[0, 0, 0, 0], [0, 0, 0, 0], [0, 0, 0, 0]⟩ (gSet 3 n_lawUisUcaught (gIf [0, 0, 0, 0] 0 (gCmpT (op_ordD rfl hu80) (gv 1) gi) (gXf 2 XE hC hz hf) (gXf 2 XE hC hz hf)))
    (gSeq ⟨[0, 0, 0, 0], [0, 0, 0, 0], [0, 0, 0, 0]⟩ (gRet (gAndV (gCmp (op_eqDD hu64) (gCallB (cd_repr hgd hu70) z_repr (gCons (gv 3) ja_nil)) (gCallB (cd_repr hgd hu70) z_repr (gCons (gv 0) ja_nil))) (je_one (gIsXb 2 XE MT_ValueError hC hz hf z_isinstance z_ValueError))))
    gNil)))
    .nil))
    jss_bad)
theorem h_lawUisUcaught (fn : Fun K "_law_is_caught" "_law_is_caught" s_lawUisUcaught f fd) (hm : mg "_law_is_caught" = some (.ref f)) (z_ValueError : mg "ValueError" = none) (z_isinstance : mg "isinstance" = none) (z_repr : mg "repr" = none) (E_InvalidGraph : ErrC P w K mg base Z 0 "InvalidGraph") (E_InvalidText : ErrC P w K mg base Z 100 "InvalidText") (E_TooMany : ErrC P w K mg base Z 6 "TooMany") (M_LinkError : ErrM K mg Z "LinkError" tkA) (XE : ErrsOk K Z) (MT_ValueError : ErrT K Z "ValueError" tkA) : Has P w K mg base 3 "_law_is_caught" ["thing", "way"] Z [.fz, .fz] 9 F_lawUisUcaught :=
  has_of fn hm S_lawUisUcaught (fun _ _ _ _ _ _ l hl => match l, hl with
    | [_, _], _ => (And.intro rfl (And.intro rfl (And.intro rfl (And.intro rfl trivial))))) rfl (b_lawUisUcaught z_ValueError z_isinstance z_repr E_InvalidGraph E_InvalidText E_TooMany M_LinkError XE MT_ValueError)
end
abbrev s_lawUisUof : Stmt := top 19
abbrev N_lawUisUof : List Str := ["error", "at"]
theorem n_lawUisUof : N_lawUisUof.Nodup := by decide
theorem S_lawUisUof : FnScope N_lawUisUof ["error", "at"] (defScope s_lawUisUof) := ⟨rfl, rfl, rfl, by decide +kernel, rfl, by decide +kernel, by decide +kernel⟩
section
variable {P : Program} {w : World} {K : PySem.W.Frag} {mg : Str → Option Value} {base : Heap} {f : Addr} {fd : FuncData} {Z : ClT}
theorem b_lawUisUof (z_isinstance : mg "isinstance" = none) (M_InvalidEdge : ErrM K mg Z "InvalidEdge" (tkC 1)) (M_InvalidGraph : ErrM K mg Z "InvalidGraph" (tkC 0)) (M_InvalidLines : ErrM K mg Z "InvalidLines" (tkC 103)) (M_InvalidMoves : ErrM K mg Z "InvalidMoves" (tkC 101)) (M_InvalidNumber : ErrM K mg Z "InvalidNumber" (tkC 4)) (M_InvalidPasses : ErrM K mg Z "InvalidPasses" (tkC 102)) (M_InvalidRotation : ErrM K mg Z "InvalidRotation" (tkC 5)) (M_InvalidText : ErrM K mg Z "InvalidText" (tkC 100)) (M_InvalidTriangle : ErrM K mg Z "InvalidTriangle" (tkC 3)) (M_InvalidVertex : ErrM K mg Z "InvalidVertex" (tkC 2)) (M_LinkError : ErrM K mg Z "LinkError" tkA) (M_TooMany : ErrM K mg Z "TooMany" (tkC 6)) (XE : ErrsOk K Z) : BodyD P w K mg base 0 N_lawUisUof "_law_is_of" s_lawUisUof f Z [.fz, .fz] 9 m_lawUisUof := by
  intro cdv A outer s H E hcc hr hgd tk po
  have hu80 := units80 hr
  have hu70 := units70 hr
  have hu65 := units65 hr
  have hu64 := units64 hr
  refine ⟨⟨[0, 0], [0, 0], [0, 0]⟩, rfl, ?_⟩
  exact (gSeq ⟨[0, 0], [0, 0], [0, 0]⟩ (gIfS (ψ1 := ⟨[0, 0], [0, 0], [0, 0]⟩) (ψ2 := ⟨[0, 0], [0, 0], [0, 0]⟩) (gCmpT (op_eqDD hu64) (gv 1) gi)
    (gSeq ⟨[0, 0], [0, 0], [0, 0]⟩ (gRet (gIsEo 0 0 XE M_InvalidGraph z_isinstance))
    gNil)
    gNil)
    (gSeq ⟨[0, 0], [0, 0], [0, 0]⟩ (gIfS (ψ1 := ⟨[0, 0], [0, 0], [0, 0]⟩) (ψ2 := ⟨[0, 0], [0, 0], [0, 0]⟩) (gCmpT (op_eqDD hu64) (gv 1) gi)
    (gSeq ⟨[0, 0], [0, 0], [0, 0]⟩ (gRet (gIsEo 0 0 XE M_InvalidEdge z_isinstance))
    gNil)
    gNil)
    (gSeq ⟨[0, 0], [0, 0], [0, 0]⟩ (gIfS (ψ1 := ⟨[0, 0], [0, 0], [0, 0]⟩) (ψ2 := ⟨[0, 0], [0, 0], [0, 0]⟩) (gCmpT (op_eqDD hu64) (gv 1) gi)
    (gSeq ⟨[0, 0], [0, 0], [0, 0]⟩ (gRet (gIsEo 0 0 XE M_InvalidVertex z_isinstance))
    gNil)
    gNil)
    (gSeq ⟨[0, 0], [0, 0], [0, 0]⟩ (gIfS (ψ1 := ⟨[0, 0], [0, 0], [0, 0]⟩) (ψ2 := ⟨[0, 0], [0, 0], [0, 0]⟩) (gCmpT (op_eqDD hu64) (gv 1) gi)
    (gSeq ⟨[0, 0], [0, 0], [0, 0]⟩ (gRet (gIsEo 0 0 XE M_InvalidTriangle z_isinstance))
    gNil)
    gNil)
    (gSeq ⟨[0, 0], [0, 0], [0, 0]⟩ (gIfS (ψ1 := ⟨[0, 0], [0, 0], [0, 0]⟩) (ψ2 := ⟨[0, 0], [0, 0], [0, 0]⟩) (gCmpT (op_eqDD hu64) (gv 1) gi)
    (gSeq ⟨[0, 0], [0, 0], [0, 0]⟩ (gRet (gIsEo 0 0 XE M_InvalidNumber z_isinstance))
    gNil)
    gNil)
    (gSeq ⟨[0, 0], [0, 0], [0, 0]⟩ (gIfS (ψ1 := ⟨[0, 0], [0, 0], [0, 0]⟩) (ψ2 := ⟨[0, 0], [0, 0], [0, 0]⟩) (gCmpT (op_eqDD hu64) (gv 1) gi)
    (gSeq ⟨[0, 0], [0, 0], [0, 0]⟩ (gRet (gIsEo 0 0 XE M_InvalidRotation z_isinstance))
    gNil)
    gNil)
    (gSeq ⟨[0, 0], [0, 0], [0, 0]⟩ (gIfS (ψ1 := ⟨[0, 0], [0, 0], [0, 0]⟩) (ψ2 := ⟨[0, 0], [0, 0], [0, 0]⟩) (gCmpT (op_eqDD hu64) (gv 1) gi)
    (gSeq ⟨[0, 0], [0, 0], [0, 0]⟩ (gRet (gIsEo 0 0 XE M_TooMany z_isinstance))
    gNil)
    gNil)
    (gSeq ⟨[0, 0], [0, 0], [0, 0]⟩ (gIfS (ψ1 := ⟨[0, 0], [0, 0], [0, 0]⟩) (ψ2 := ⟨[0, 0], [0, 0], [0, 0]⟩) (gCmpT (op_eqDD hu64) (gv 1) gi)
    (gSeq ⟨[0, 0], [0, 0], [0, 0]⟩ (gRet (gIsEo 0 0 XE M_InvalidText z_isinstance))
    gNil)
    gNil)
    (gSeq ⟨[0, 0], [0, 0], [0, 0]⟩ (gIfS (ψ1 := ⟨[0, 0], [0, 0], [0, 0]⟩) (ψ2 := ⟨[0, 0], [0, 0], [0, 0]⟩) (gCmpT (op_eqDD hu64) (gv 1) gi)
    (gSeq ⟨[0, 0], [0, 0], [0, 0]⟩ (gRet (gIsEo 0 0 XE M_InvalidMoves z_isinstance))
    gNil)
    gNil)
    (gSeq ⟨[0, 0], [0, 0], [0, 0]⟩ (gIfS (ψ1 := ⟨[0, 0], [0, 0], [0, 0]⟩) (ψ2 := ⟨[0, 0], [0, 0], [0, 0]⟩) (gCmpT (op_eqDD hu64) (gv 1) gi)
    (gSeq ⟨[0, 0], [0, 0], [0, 0]⟩ (gRet (gIsEo 0 0 XE M_InvalidPasses z_isinstance))
    gNil)
    gNil)
    (gSeq ⟨[0, 0], [0, 0], [0, 0]⟩ (gIfS (ψ1 := ⟨[0, 0], [0, 0], [0, 0]⟩) (ψ2 := ⟨[0, 0], [0, 0], [0, 0]⟩) (gCmpT (op_eqDD hu64) (gv 1) gi)
    (gSeq ⟨[0, 0], [0, 0], [0, 0]⟩ (gRet (gIsEo 0 0 XE M_InvalidLines z_isinstance))
    gNil)
    gNil)
    (gSeq ⟨[0, 0], [0, 0], [0, 0]⟩ (gRet (gIsEo 0 0 XE M_LinkError z_isinstance))
    gNil))))))))))))
theorem h_lawUisUof (fn : Fun K "_law_is_of" "_law_is_of" s_lawUisUof f fd) (hm : mg "_law_is_of" = some (.ref f)) (z_isinstance : mg "isinstance" = none) (M_InvalidEdge : ErrM K mg Z "InvalidEdge" (tkC 1)) (M_InvalidGraph : ErrM K mg Z "InvalidGraph" (tkC 0)) (M_InvalidLines : ErrM K mg Z "InvalidLines" (tkC 103)) (M_InvalidMoves : ErrM K mg Z "InvalidMoves" (tkC 101)) (M_InvalidNumber : ErrM K mg Z "InvalidNumber" (tkC 4)) (M_InvalidPasses : ErrM K mg Z "InvalidPasses" (tkC 102)) (M_InvalidRotation : ErrM K mg Z "InvalidRotation" (tkC 5)) (M_InvalidText : ErrM K mg Z "InvalidText" (tkC 100)) (M_InvalidTriangle : ErrM K mg Z "InvalidTriangle" (tkC 3)) (M_InvalidVertex : ErrM K mg Z "InvalidVertex" (tkC 2)) (M_LinkError : ErrM K mg Z "LinkError" tkA) (M_TooMany : ErrM K mg Z "TooMany" (tkC 6)) (XE : ErrsOk K Z) : Has P w K mg base 1 "_law_is_of" ["error", "at"] Z [.fz, .fz] 9 F_lawUisUof :=
  has_of fn hm S_lawUisUof (fun _ _ _ _ _ _ l hl => match l, hl with
    | [_, _], _ => (And.intro rfl (And.intro rfl (And.intro rfl (And.intro rfl trivial))))) rfl (b_lawUisUof z_isinstance M_InvalidEdge M_InvalidGraph M_InvalidLines M_InvalidMoves M_InvalidNumber M_InvalidPasses M_InvalidRotation M_InvalidText M_InvalidTriangle M_InvalidVertex M_LinkError M_TooMany XE)
end
abbrev s_lawUright : Stmt := top 22
abbrev N_lawUright : List Str := ["well", "at", "thing", "by_name", "error", "way", "k"]
theorem n_lawUright : N_lawUright.Nodup := by decide
theorem S_lawUright : FnScope N_lawUright ["well"] (defScope s_lawUright) := ⟨rfl, rfl, rfl, by decide +kernel, rfl, by decide +kernel, by decide +kernel⟩
section
variable {P : Program} {w : World} {K : PySem.W.Frag} {mg : Str → Option Value} {base : Heap} {f : Addr} {fd : FuncData} {Z : ClT}
theorem b_lawUright (z_range : mg "range" = none) (z_repr : mg "repr" = none) (XE : ErrsOk K Z) (G__law_strange : Has P w K mg base 3 "_law_strange" ["well"] Z [.io 1 1] 0 F_lawUstrange) (G__law_made : Has P w K mg base 3 "_law_made" ["at", "thing", "by_name"] Z [.fz, .fz, .fz] 0 F_lawUmade) (G__law_is_of : Has P w K mg base 1 "_law_is_of" ["error", "at"] Z [.fz, .fz] 9 F_lawUisUof) (G__law_is_plain : Has P w K mg base 1 "_law_is_plain" ["error"] Z [.fz] 9 F_lawUisUplain) (G__law_is_caught : Has P w K mg base 3 "_law_is_caught" ["thing", "way"] Z [.fz, .fz] 9 F_lawUisUcaught) : BodyD P w K mg base 3 N_lawUright "_law_right" s_lawUright f Z [.io 1 1] 9 m_lawUright := by
  intro cdv A outer s H E hcc hr hgd tk po
  have hu80 := units80 hr
  have hu70 := units70 hr
  have hu65 := units65 hr
  have hu64 := units64 hr
  refine ⟨⟨[1, 0, 0, 0, 0, 0, 0], [1, 0, 0, 0, 0, 0, 0], [1, 0, 0, 0, 0, 0, 0]⟩, rfl, ?_⟩
  exact (gSeq ⟨[1, 0, 0, 0, 0, 0, 0], [1, 0, 0, 0, 0, 0, 0], [1, 0, 0, 0, 0, 0, 0]⟩ (gFor [1, 0, 0, 0, 0, 0, 0] ⟨[1, 0, 0, 0, 0, 0, 0], [1, 0, 0, 0, 0, 0, 0], [1, 0, 0, 0, 0, 0, 0]⟩ po (gRange1 z_range gi) (gTgN 1 n_lawUright)
    (gSeq ⟨[1, 0, 0, 0, 0, 0, 0], [1, 0, 0, 0, 0, 0, 0], [1, 0, 0, 0, 0, 0, 0]⟩ (gSet 2 n_lawUright (gCall G__law_strange hr hgd tk (gCons (gv 0) ja_nil)))
    (gSeq ⟨[1, 0, 0, 0, 0, 0, 0], [1, 0, 0, 0, 0, 0, 0], [1, 0, 0, 0, 0, 0, 0]⟩ (gFor [1, 0, 0, 0, 0, 0, 0] ⟨[1, 0, 0, 0, 0, 0, 0], [1, 0, 0, 0, 0, 0, 0], [1, 0, 0, 0, 0, 0, 0]⟩ po (ji_seq (gTup 9 (gCons gb (gCons gb ja_nil)))) (gTgN 3 n_lawUright)
    (gSeq ⟨[1, 0, 0, 0, 0, 0, 0], [1, 0, 0, 0, 0, 0, 0], [1, 0, 0, 0, 0, 0, 0]⟩ (gSet 4 n_lawUright (gCall G__law_made hr hgd tk (gCons (ge 1) (gCons (ge 2) (gCons (ge 3) ja_nil)))))
    (gSeq ⟨[1, 0, 0, 0, 0, 0, 0], [1, 0, 0, 0, 0, 0, 0], [1, 0, 0, 0, 0, 0, 0]⟩ (gIfS (ψ1 := ⟨[1, 0, 0, 0, 0, 0, 0], [1, 0, 0, 0, 0, 0, 0], [1, 0, 0, 0, 0, 0, 0]⟩) (ψ2 := ⟨[1, 0, 0, 0, 0, 0, 0], [1, 0, 0, 0, 0, 0, 0], [1, 0, 0, 0, 0, 0, 0]⟩) (gCmpT (op_neDD hu64) (gLc [("k", 6)] [1, 0, 0, 0, 0, 0, 0] n_lawUright (blk_mk (by rfl)) (gRange1 z_range gi) (fun _ _ _ _ _ => (gTgN 6 n_lawUright)) (fun _ _ _ _ _ => (jts_one (gTru (gCall G__law_is_of hr hgd tk0 (gCons (ge 4) (gCons (ge 6) ja_nil)))))) (fun _ _ _ _ _ => (ge 6))) (gIf [1, 0, 0, 0, 0, 0, 0] 1 (gCmpT (op_ordD rfl hu80) (gv 1) gi) (gLst 0 (gCons (ge 1) ja_nil)) (gLst 8 ja_nil)))
    (gSeq ⟨[1, 0, 0, 0, 0, 0, 0], [1, 0, 0, 0, 0, 0, 0], [1, 0, 0, 0, 0, 0, 0]⟩ (gRet gb)
    gNil)
    gNil)
    (gSeq ⟨[1, 0, 0, 0, 0, 0, 0], [1, 0, 0, 0, 0, 0, 0], [1, 0, 0, 0, 0, 0, 0]⟩ (gIfS (ψ1 := ⟨[1, 0, 0, 0, 0, 0, 0], [1, 0, 0, 0, 0, 0, 0], [1, 0, 0, 0, 0, 0, 0]⟩) (ψ2 := ⟨[1, 0, 0, 0, 0, 0, 0], [1, 0, 0, 0, 0, 0, 0], [1, 0, 0, 0, 0, 0, 0]⟩) (jt_not (gTru (gCall G__law_is_plain hr hgd tk (gCons (ge 4) ja_nil))))
    (gSeq ⟨[1, 0, 0, 0, 0, 0, 0], [1, 0, 0, 0, 0, 0, 0], [1, 0, 0, 0, 0, 0, 0]⟩ (gRet gb)
    gNil)
    gNil)
    (gSeq ⟨[1, 0, 0, 0, 0, 0, 0], [1, 0, 0, 0, 0, 0, 0], [1, 0, 0, 0, 0, 0, 0]⟩ (gIfS (ψ1 := ⟨[1, 0, 0, 0, 0, 0, 0], [1, 0, 0, 0, 0, 0, 0], [1, 0, 0, 0, 0, 0, 0]⟩) (ψ2 := ⟨[1, 0, 0, 0, 0, 0, 0], [1, 0, 0, 0, 0, 0, 0], [1, 0, 0, 0, 0, 0, 0]⟩) (jt_w (gAnd (gCmpT (op_ordD rfl hu80) (gv 1) gi) (jw_and1 (gCmpT (op_neDD hu64) (gCallB (cd_repr hgd hu70) z_repr (gCons (gIf [1, 0, 0, 0, 0, 0, 0] 0 (gCmpT (op_ordD rfl hu80) (gv 1) gi) (gFldE 4 0 XE) (gFldE 4 0 XE)) ja_nil)) (gCallB (cd_repr hgd hu70) z_repr (gCons (gv 2) ja_nil))))))
    (gSeq ⟨[1, 0, 0, 0, 0, 0, 0], [1, 0, 0, 0, 0, 0, 0], [1, 0, 0, 0, 0, 0, 0]⟩ (gRet gb)
    gNil)
    gNil)
    gNil)))))
    gNil)))
    (gSeq ⟨[1, 0, 0, 0, 0, 0, 0], [1, 0, 0, 0, 0, 0, 0], [1, 0, 0, 0, 0, 0, 0]⟩ (gRet (gCmp (op_eqDD hu64) (gLc [("way", 5)] [1, 0, 0, 0, 0, 0, 0] n_lawUright (blk_mk (by rfl)) (ji_seq (gTup 9 (gCons gi (gCons gi (gCons gi ja_nil))))) (fun _ _ _ _ _ => (gTgN 5 n_lawUright)) (fun _ _ _ _ _ => (jts_one (jt_not (gTru (gCall G__law_is_caught hr hgd tk0 (gCons (gCall G__law_strange hr hgd tk0 (gCons (gv 0) ja_nil)) (gCons (ge 5) ja_nil))))))) (fun _ _ _ _ _ => (ge 5))) (gLst 8 ja_nil)))
    gNil))
theorem h_lawUright (fn : Fun K "_law_right" "_law_right" s_lawUright f fd) (hm : mg "_law_right" = some (.ref f)) (z_range : mg "range" = none) (z_repr : mg "repr" = none) (XE : ErrsOk K Z) (G__law_strange : Has P w K mg base 3 "_law_strange" ["well"] Z [.io 1 1] 0 F_lawUstrange) (G__law_made : Has P w K mg base 3 "_law_made" ["at", "thing", "by_name"] Z [.fz, .fz, .fz] 0 F_lawUmade) (G__law_is_of : Has P w K mg base 1 "_law_is_of" ["error", "at"] Z [.fz, .fz] 9 F_lawUisUof) (G__law_is_plain : Has P w K mg base 1 "_law_is_plain" ["error"] Z [.fz] 9 F_lawUisUplain) (G__law_is_caught : Has P w K mg base 3 "_law_is_caught" ["thing", "way"] Z [.fz, .fz] 9 F_lawUisUcaught) : Has P w K mg base 4 "_law_right" ["well"] Z [.io 1 1] 9 F_lawUright :=
  has_of fn hm S_lawUright (fun _ _ _ _ _ _ l hl => match l, hl with
    | [_], _ => (And.intro rfl (And.intro rfl trivial))) rfl (b_lawUright z_range z_repr XE G__law_strange G__law_made G__law_is_of G__law_is_plain G__law_is_caught)
end
abbrev s_lawUwell : Stmt := top 14
abbrev N_lawUwell : List Str := ["script", "turn", "own", "mixed", "cell"]
theorem n_lawUwell : N_lawUwell.Nodup := by decide
theorem S_lawUwell : FnScope N_lawUwell ["script", "turn"] (defScope s_lawUwell) := ⟨rfl, rfl, rfl, by decide +kernel, rfl, by decide +kernel, by decide +kernel⟩
section
variable {P : Program} {w : World} {K : PySem.W.Frag} {mg : Str → Option Value} {base : Heap} {f : Addr} {fd : FuncData} {Z : ClT}
theorem b_lawUwell (z_abs : mg "abs" = none) (z_int : mg "int" = none) (z_len : mg "len" = none) : BodyD P w K mg base 0 N_lawUwell "_law_well" s_lawUwell f Z [.fz, .fz] 1 m_lawUwell := by
  intro cdv A outer s H E hcc hr hgd tk po
  have hu80 := units80 hr
  have hu70 := units70 hr
  have hu65 := units65 hr
  have hu64 := units64 hr
  refine ⟨⟨[0, 0, 0, 0, 0], [0, 0, 0, 0, 0], [0, 0, 0, 0, 0]⟩, rfl, ?_⟩
  exact (gSeq ⟨[0, 0, 9, 0, 0], [0, 0, 0, 0, 0], [0, 0, 0, 0, 0]⟩ (gSet 2 n_lawUwell (gIf [0, 0, 0, 0, 0] 9 (gCmpT (op_ordD rfl hu80) (gv 1) (gCallB cd_len z_len (gCons (gv 0) ja_nil))) (gCallT cd_int z_int (gCons (gIx (op_ixD hu64) (gv 0) (gv 1)) ja_nil)) gi))
    (gSeq ⟨[0, 0, 9, 1, 0], [0, 0, 0, 0, 0], [0, 0, 0, 0, 0]⟩ (gSet 3 n_lawUwell (je_bin op_addD gi (je_bin op_mulDD gi (gv 1))))
    (gSeq ⟨[0, 0, 9, 1, 0], [0, 0, 0, 0, 0], [0, 0, 0, 0, 0]⟩ (gFor [0, 0, 9, 1, 0] ⟨[0, 0, 9, 9, 0], [0, 0, 9, 1, 0], [0, 0, 9, 1, 0]⟩ po (ji_seq (gSlice (gv 0) jo_none (jo_some gi))) (gTgN 4 n_lawUwell)
    (gSeq ⟨[0, 0, 9, 9, 0], [0, 0, 9, 1, 0], [0, 0, 9, 1, 0]⟩ (gSet 3 n_lawUwell (je_bin op_modD (gCallT cd_int z_int (gCons (je_bin op_addD (je_bin op_addD (je_bin op_mulDD (gv 3) gi) (je_bin op_modD (gCallT cd_int z_int (gCons (gv 4) ja_nil)) gi)) gi) ja_nil)) gi))
    gNil))
    (gSeq ⟨[0, 0, 9, 9, 0], [0, 0, 0, 0, 0], [0, 0, 0, 0, 0]⟩ (gSet 3 n_lawUwell (je_bin op_modD (gCallT cd_int z_int (gCons (je_bin op_addD (je_bin op_addD (je_bin op_mulDD (gv 3) gi) (je_bin op_mulDD (je_bin op_modD (gCallT cd_int z_int (gCons (gv 2) ja_nil)) gi) gi)) gi) ja_nil)) gi))
    (gSeq ⟨[0, 0, 0, 0, 0], [0, 0, 0, 0, 0], [0, 0, 0, 0, 0]⟩ (gRet (gLst 0 (gCons (gIf [0, 0, 9, 9, 0] 9 (gCmpT (op_ordD rfl hu80) (gCallB cd_abs z_abs (gCons (gv 2) ja_nil)) (je_bin op_powD gi gi)) (gCallB cd_abs z_abs (gCons (gv 2) ja_nil)) gi) (gCons (ge 3) (gCons gi ja_nil)))))
    gNil)))))
theorem h_lawUwell (fn : Fun K "_law_well" "_law_well" s_lawUwell f fd) (hm : mg "_law_well" = some (.ref f)) (z_abs : mg "abs" = none) (z_int : mg "int" = none) (z_len : mg "len" = none) : Has P w K mg base 1 "_law_well" ["script", "turn"] Z [.fz, .fz] 1 F_lawUwell :=
  has_of fn hm S_lawUwell (fun _ _ _ _ _ _ l hl => match l, hl with
    | [_, _], _ => (And.intro rfl (And.intro rfl (And.intro rfl (And.intro rfl trivial))))) rfl (b_lawUwell z_abs z_int z_len)
end
abbrev s_law : Stmt := top 23
abbrev N_law : List Str := ["script", "turn"]
theorem n_law : N_law.Nodup := by decide
theorem S_law : FnScope N_law ["script"] (defScope s_law) := ⟨rfl, rfl, rfl, by decide +kernel, rfl, by decide +kernel, by decide +kernel⟩
section
variable {P : Program} {w : World} {K : PySem.W.Frag} {mg : Str → Option Value} {base : Heap} {f : Addr} {fd : FuncData} {Z : ClT}
theorem b_law (z_len : mg "len" = none) (z_max : mg "max" = none) (z_min : mg "min" = none) (z_range : mg "range" = none) (G__law_right : Has P w K mg base 4 "_law_right" ["well"] Z [.io 1 1] 9 F_lawUright) (G__law_well : Has P w K mg base 1 "_law_well" ["script", "turn"] Z [.fz, .fz] 1 F_lawUwell) : BodyD P w K mg base 4 N_law "law" s_law f Z [.fz] 9 m_law := by
  intro cdv A outer s H E hcc hr hgd tk po
  have hu80 := units80 hr
  have hu70 := units70 hr
  have hu65 := units65 hr
  have hu64 := units64 hr
  refine ⟨⟨[0, 0], [0, 0], [0, 0]⟩, rfl, ?_⟩
  exact (gSeq ⟨[0, 0], [0, 0], [0, 0]⟩ (gFor [0, 0] ⟨[0, 0], [0, 0], [0, 0]⟩ po (gRange1 z_range (gCallB (cd_max rfl) z_max (gCons gi (gCons (gCallB (cd_min rfl) z_min (gCons (gCallB cd_len z_len (gCons (gv 0) ja_nil)) (gCons gi ja_nil))) ja_nil)))) (gTgN 1 n_law)
    (gSeq ⟨[0, 0], [0, 0], [0, 0]⟩ (gIfS (ψ1 := ⟨[0, 0], [0, 0], [0, 0]⟩) (ψ2 := ⟨[0, 0], [0, 0], [0, 0]⟩) (jt_not (gTru (gCall G__law_right hr hgd tk (gCons (gCall G__law_well hr hgd tk (gCons (ge 0) (gCons (ge 1) ja_nil))) ja_nil))))
    (gSeq ⟨[0, 0], [0, 0], [0, 0]⟩ (gRet gb)
    gNil)
    gNil)
    gNil))
    (gSeq ⟨[0, 0], [0, 0], [0, 0]⟩ (gRet gb)
    gNil))
theorem h_law (fn : Fun K "law" "law" s_law f fd) (hm : mg "law" = some (.ref f)) (z_len : mg "len" = none) (z_max : mg "max" = none) (z_min : mg "min" = none) (z_range : mg "range" = none) (G__law_right : Has P w K mg base 4 "_law_right" ["well"] Z [.io 1 1] 9 F_lawUright) (G__law_well : Has P w K mg base 1 "_law_well" ["script", "turn"] Z [.fz, .fz] 1 F_lawUwell) : Has P w K mg base 5 "law" ["script"] Z [.fz] 9 F_law :=
  has_of fn hm S_law (fun _ _ _ _ _ _ l hl => match l, hl with
    | [_], _ => (And.intro rfl (And.intro rfl trivial))) rfl (b_law z_len z_max z_min z_range G__law_right G__law_well)
end
end Lk
namespace Lk
open PySem PySem.Spec L2
theorem draw_sat {w : DV} {m : Int} (hw : WL w) (hm : 0 < m) (hm2 : m < 1073741824) : (F_lawUdraw [w, .d (.int m)]).sat (fun d outs => ∃ r w', d = .d (.int r) ∧ outs = [w'] ∧ WL w' ∧ 0 ≤ r ∧ r < m) nR := by
  obtain ⟨a, b, c, rfl⟩ := hw
  rw [F_lawUdraw, runF_sat]
  unfold m_lawUdraw
  simp [env0, ioP, atI_0, atI_1, atI_2, hm, hm2, stO, stD, ixN]
  refine ⟨fun h => ⟨⟨_, _, _, rfl⟩, Int.emod_nonneg _ (by omega), Int.emod_lt_of_pos _ hm⟩, fun h => ⟨by omega, ⟨_, _, _, rfl⟩, Int.emod_nonneg _ (by omega), Int.emod_lt_of_pos _ hm⟩⟩
theorem pickT_sat {w : DV} {xs : List PyData} (hw : WL w) (hx : xs ≠ []) (hl : xs.length < 1073741824) : (F_lawUpick [w, .d (.tuple xs)]).sat (fun d outs => ∃ x w', d = .d x ∧ outs = [w'] ∧ WL w' ∧ x ∈ xs) nR := by
  have h0 : 0 < xs.length := List.length_pos_iff.mpr hx
  rw [F_lawUpick, runF_sat]
  unfold m_lawUpick
  simp [env0, ioP, lenD]
  refine (draw_sat (m := xs.length) hw (by omega) (by omega)).mono ?_
  rintro d outs ⟨r, w', rfl, rfl, hw', h1, h2⟩
  obtain ⟨x, hx1, hx2⟩ := atI_in h1 h2
  simp [putM, clrM, hx1, hw', hx2]
theorem well_sat {ns : List Int} {t : Int} (ht : 0 ≤ t) : (F_lawUwell [.s ns, .d (.int t)]).sat (fun d outs => WL d ∧ outs = []) nR := by
  have hpow : powP (.int 10) (.int 16) = some (.int 10000000000000000) := by simp [powP]
  obtain ⟨xs, hxs⟩ : ∃ xs : List Int, slD (.s ns) none (some 11) = some (.d (.list (xs.map .int))) := ⟨_, rfl⟩
  rw [F_lawUwell, runF_sat]
  unfold m_lawUwell
  simp [env0, ioP, -sat_setM]
  refine sat_mid (fun e => ∃ own : Int, e = [some (.s ns), some (.d (.int t)), some (.d (.int own)), none, none]) ?_ ?_
  · rintro e ⟨own, rfl⟩
    simp [hxs]
    refine sat_for (enc := DV.d ∘ .int) (fun rest e => ∃ (m : Int) (x : Option DV), e = [some (.s ns), some (.d (.int t)), some (.d (.int own)), some (.d (.int m)), x]) ⟨_, _, rfl⟩ ?_ ?_
    · rintro c rest e ⟨m, x, rfl⟩
      simp
    · rintro e ⟨m, x, rfl⟩
      simp [absP, hpow]
      exact ⟨fun _ => ⟨_, _, _, rfl⟩, fun _ => ⟨_, _, _, rfl⟩⟩
  · simp [lenD]
    intro h
    obtain ⟨x, hx, _⟩ := atI_in ht h
    simp [hx]
theorem addP_tt {xs ys : List PyData} (h : xs.length + ys.length ≤ big) : addP (.tuple xs) (.tuple ys) = some (.tuple (xs ++ ys)) := by
  unfold addP
  simp [h]
theorem strange_sat {w : DV} (hw : WL w) : (F_lawUstrange [w]).sat (fun d outs => ∃ x w', d = .d x ∧ outs = [w'] ∧ WL w' ∧ Thg 5 100 x) nR := by
  rw [F_lawUstrange, runF_sat]
  unfold m_lawUstrange
  have hpow : powP (.int 10) (.int 30) = some (.int 1000000000000000000000000000000) := by simp [powP]
  simp [env0, ioP, addP_tt, big, negP, lift1, hpow]
  refine Res.sat.mono (pickT_sat hw ?_ ?_) ?_
  · simp
  · decide
  rintro d outs ⟨x, w', rfl, rfl, hw', hx⟩
  simp
  refine ⟨hw', thgB_ok ?_⟩
  revert x
  decide +kernel
end Lk
namespace Lk
open PySem PySem.Spec L2
def cE (a : Int) : Nat := if a < 7 then a.toNat else if a < 11 then (a + 93).toNat else 150
def eE (a : Int) (x : PyData) : DV := .e (cE a) (if a < 11 then some x else none)
theorem twelve {a : Int} (h0 : 0 ≤ a) (h1 : a < 12) : a = 0 ∨ a = 1 ∨ a = 2 ∨ a = 3 ∨ a = 4 ∨ a = 5 ∨ a = 6 ∨ a = 7 ∨ a = 8 ∨ a = 9 ∨ a = 10 ∨ a = 11 := by omega
theorem made_eq {a : Int} (h0 : 0 ≤ a) (h1 : a < 12) (x : PyData) (b : Bool) : F_lawUmade [.d (.int a), .d x, .d (.bool b)] = .ok (eE a x) [] := by
  refine res_eq ?_
  rw [F_lawUmade, runF_sat]
  unfold m_lawUmade
  rcases twelve h0 h1 with rfl | rfl | rfl | rfl | rfl | rfl | rfl | rfl | rfl | rfl | rfl | rfl <;> cases b <;> simp [env0, ioP, eE, cE]
theorem is_of_eq {a k : Int} (h0 : 0 ≤ a) (h1 : a < 12) (k0 : 0 ≤ k) (k1 : k < 11) (x : PyData) : F_lawUisUof [eE a x, .d (.int k)] = .ok (.d (.bool (decide (k = a)))) [] := by
  refine res_eq ?_
  rw [F_lawUisUof, runF_sat]
  unfold m_lawUisUof
  rcases twelve (a := k) k0 (by omega) with rfl | rfl | rfl | rfl | rfl | rfl | rfl | rfl | rfl | rfl | rfl | rfl <;> (try (exact absurd k1 (by decide))) <;> simp [env0, ioP, eE, isEO, tkC] <;>
    (rcases twelve h0 h1 with rfl | rfl | rfl | rfl | rfl | rfl | rfl | rfl | rfl | rfl | rfl | rfl <;> decide)
theorem is_plain_eq {a : Int} (x : PyData) : F_lawUisUplain [eE a x] = .ok (.d (.bool true)) [] := by
  refine res_eq ?_
  rw [F_lawUisUplain, runF_sat]
  unfold m_lawUisUplain
  simp [env0, ioP, eE, isEO, tkA, tkN]
@[simp] theorem sat_raiM {c : Nat} {t : Tm} {fa : M DV} {e : Ev} {QF : Fl → Ev → Prop} {X : XQ} : (raiM c t fa e).sat QF X = (fa e).sat (fun d e' => osat (fun g => X c g e') ((t.now d e').bind dataOf)) X := by
  show ((fa e).bind _).sat QF X = _
  rw [sat_bind]
  congr 1
  funext d e'
  cases h : (t.now d e').bind dataOf <;> simp [h]
end Lk
namespace Lk
open PySem PySem.Spec L2
theorem sat_tryM {n i : Nat} {ks : List Cla} {gb : M Fl} {e : Ev} {Q : Fl → Ev → Prop} {X : XQ} (h : (gb e).sat Q (fun c g e1 => (c < 200 ∧ e1.length = n) ∧ (catM i ks c g e1).sat Q X)) : (tryM n i ks gb e).sat Q X := by
  unfold tryM
  cases q : gb e with
  | bad => rw [q] at h; exact h
  | ok fl e1 => rw [q] at h; exact h
  | ex c g e1 =>
    rw [q] at h
    have h : (c < 200 ∧ e1.length = n) ∧ (catM i ks c g e1).sat Q X := h
    simp only
    rw [if_pos h.1]
    exact h.2
theorem sat_finM {i : Nat} {o : Out Fl} {Q : Fl → Ev → Prop} {X : XQ} (h : o.sat (fun fl e' => match fl with
    | .nx => okE (e'.set i none) = true ∧ Q .nx (e'.set i none)
    | .rt d => okDb d = true ∧ Q (.rt d) (e'.set i none)
    | _ => False) nX) : (finM i o).sat Q X := by
  cases o with
  | bad => exact h
  | ex c g e => exact h.elim
  | ok fl e =>
    cases fl with
    | br => exact h.elim
    | ct => exact h.elim
    | nx =>
      obtain ⟨h1, h2⟩ := h
      unfold finM
      simp only
      rw [if_pos h1]
      exact h2
    | rt d =>
      obtain ⟨h1, h2⟩ := h
      unfold finM
      simp only
      rw [if_pos h1]
      exact h2
theorem sat_cat1 {i c : Nat} {g : PyData} {k : Cla} {ks : List Cla} {e : Ev} {Q : Fl → Ev → Prop} {X : XQ} (hk : k.tk c = true) (h : (finM i (k.g (e.set i (some (.x c g))))).sat Q X) : (catM i (k :: ks) c g e).sat Q X := by
  show (if k.tk c = true then _ else _ : Out Fl).sat Q X
  rw [if_pos hk]
  exact h
def fldXO (f : Str) : Option DV → Option PyData
  | some (.x c g) => if fldOf c = f then some g else none
  | _ => none
@[simp] theorem sat_fldM {i : Nat} {e : Ev} {QD : DV → Ev → Prop} {X : XQ} {f : Str} : (fldM i f e).sat QD X = osat (fun d => QD (.d d) e) (fldXO f (slot e i)) := by
  unfold fldM
  cases slot e i with
  | none => rfl
  | some d =>
    cases d with
    | x c g =>
      simp only [fldXO]
      by_cases h : fldOf c = f
      · rw [if_pos h, if_pos h]; rfl
      · rw [if_neg h, if_neg h]; rfl
    | _ => rfl
def isXO (tk : Nat → Bool) : Option DV → Option Bool
  | some (.x c _) => if c < 200 then some (tk c) else none
  | _ => none
@[simp] theorem sat_isXM {i : Nat} {e : Ev} {QD : DV → Ev → Prop} {X : XQ} {tk : Nat → Bool} : (isXM i tk e).sat QD X = osat (fun b => QD (.d (.bool b)) e) (isXO tk (slot e i)) := by
  unfold isXM
  cases slot e i with
  | none => rfl
  | some d =>
    cases d with
    | x c g =>
      simp only [isXO]
      by_cases h : c < 200
      · rw [if_pos h, if_pos h]; rfl
      · rw [if_neg h, if_neg h]; rfl
    | _ => rfl
theorem is_caught_eq {x : PyData} {k : Int} (hx : Thg 5 100 x) (k0 : 0 ≤ k) (k1 : k < 3) : F_lawUisUcaught [.d x, .d (.int k)] = .ok (.d (.bool true)) [] := by
  have hk : k = 0 ∨ k = 1 ∨ k = 2 := by omega
  have hr := hx.repr
  have hs : eqP (.str x.shown) (.str x.shown) = some (.bool true) := by rw [eqP_str, eqv_str_self]
  refine res_eq ?_
  rw [F_lawUisUcaught, runF_sat]
  unfold m_lawUisUcaught
  have fin : ∀ (c : Nat) (k : Int), (c < 7 ∧ k < 2 ∨ 100 ≤ c ∧ c < 200 ∧ 2 ≤ k) → (catM 2 [⟨tkA, (seqM (setM 3 (ifM (asB (.v 9) (op2 (lift2 (cmpP .Lt)) (.sl 1) (.v 9) (slotM 1) (M.pure (.d (.int 2))))) (fldM 2 "given") (fldM 2 "index")))
    (seqM (retM [] (andV (.v 9) (op2 (lift2 eqP) (.v 9) (.v 9) (callM (oneD reprP) [.sl 3] (consM (slotM 3) (M.pure []))) (callM (oneD reprP) [.sl 0] (consM (slotM 0) (M.pure [])))) (isXM 2 tkA)))
    nxM))⟩] c x [some (DV.d x), some (DV.d (PyData.int k)), none, none]).sat (fun fl e' =>
      fsat False (osat (fun d => d = DV.d (PyData.bool true) ∧ ([] : List DV) = []) (retD Fl.br))
        (osat (fun d => d = DV.d (PyData.bool true) ∧ ([] : List DV) = []) (retD Fl.ct))
        (fun d => d = DV.d (PyData.bool true) ∧ ([] : List DV) = []) fl) (fun c g x => nR c g) := by
    intro c k hc
    refine sat_cat1 rfl (sat_finM ?_)
    rcases hc with ⟨h1, h2⟩ | ⟨h1, h2, h3⟩
    · have a : fldOf c = "given" := by unfold fldOf; rw [if_pos (by omega)]
      have b : c < 200 := by omega
      simp [fldXO, a, h2, hr, hs, isXO, okDb, b, tkA]
    · have a : fldOf c = "index" := by unfold fldOf; rw [if_neg (by omega)]
      have b : ¬ (k < 2) := by omega
      simp [fldXO, a, b, hr, hs, isXO, okDb, h2, tkA]
  rcases hk with rfl | rfl | rfl
  · simp [env0, ioP]
    refine sat_tryM ?_
    simp [dataOf]
    exact fin 0 0 (by omega)
  · simp [env0, ioP]
    refine sat_tryM ?_
    simp [dataOf]
    exact fin 6 1 (by omega)
  · simp [env0, ioP]
    refine sat_tryM ?_
    simp [dataOf]
    exact fin 100 2 (by omega)
end Lk
namespace Lk
open PySem PySem.Spec L2
theorem ofs : ∀ a ∈ rgL 0 12, (rgL 0 11).filter (fun k => decide (k = a)) = if a < 11 then [a] else [] := by decide +kernel
theorem right_sat {w : DV} (hw : WL w) : (F_lawUright [w]).sat (fun d outs => d = .d (.bool true) ∧ ∃ w', outs = [w'] ∧ WL w') nR := by
  rw [F_lawUright, runF_sat]
  unfold m_lawUright
  have hrg : rgOk 0 12 = true := by decide
  have hrg2 : rgOk 0 11 = true := by decide
  simp [env0, ioP, rgI_ok hrg, rgP_rgL]
  refine sat_forD (enc := DV.d ∘ .int) (fun done e => ∃ (w : DV) (o1 o2 o3 o4 : Option DV), WL w ∧ e = [some w, o1, o2, o3, o4, none, none]) ⟨w, _, _, _, _, hw, rfl⟩ ?_ ?_
  · rintro done a rest e hd ⟨w, o1, o2, o3, o4, hw, rfl⟩
    have ha : a ∈ rgL 0 12 := by rw [← hd]; simp
    have hof := ofs a ha
    have ha := mem_rgL.mp ha
    simp
    refine (strange_sat hw).mono ?_
    rintro d outs ⟨x, w1, rfl, rfl, hw1, hx⟩
    simp
    refine sat_forD (enc := fun b : Bool => DV.d (.bool b)) (xs := [false, true]) (fun done e => ∃ (o3 o4 : Option DV), e = [some w1, some (.d (.int a)), some (.d x), o3, o4, none, none]) ⟨_, _, rfl⟩ ?_ ?_
    · rintro done b rest e hd ⟨o3, o4, rfl⟩
      simp [made_eq ha.1 ha.2, rgI_ok hrg2, rgP_rgL]
      refine sat_comp (enc := DV.d ∘ .int) (fun k => decide (k = a)) .int (xs := rgL 0 11) (acc := []) (fun k hk => ?_) (by show 0 + (rgL 0 11).length ≤ 1000000; decide) ?_
      · have hk := mem_rgL.mp hk
        simp [is_of_eq ha.1 ha.2 hk.1 hk.2]
      · rw [List.nil_append, hof]
        by_cases h : a < 11
        · have hn : neP (.list [.int a]) (.list [.int a]) = some (.bool false) := by
            have := neP_s (shp_ints (is := [a])) (shp_ints (is := [a]))
            have e : PyData.eqv (.list [.int a]) (.list [.int a]) = true := eqv_refl _ (shp_ints (is := [a])).1
            simpa [e] using this
          have hr := hx.repr
          have hs : neP (.str x.shown) (.str x.shown) = some (.bool false) := by rw [neP_str, eqv_str_self]; rfl
          have he : ∀ f : Str, (if a < 7 then ("given" : Str) else "index") = f → fldEO f (some (eE a x)) = some x := by
            intro f hf
            unfold eE
            rw [if_pos h]
            unfold fldEO
            simp only
            rw [if_pos]
            rw [← hf]
            unfold fldOf cE
            by_cases h7 : a < 7
            · rw [if_pos h7, if_pos h7, if_pos (by omega)]
            · rw [if_neg h7, if_neg h7, if_pos h, if_neg (by omega)]
          simp [h, hn, is_plain_eq]
          by_cases h7 : a < 7
          · have := he "given" (by rw [if_pos h7])
            have h8 : ¬ (7 ≤ a) := by omega
            simp [h7, h8, this, hr, hs]
          · have := he "index" (by rw [if_neg h7])
            simp [h7, this, hr, hs]
        · have hn : neP (.list []) (.list []) = some (.bool false) := by
            have := neP_s (shp_ints (is := [])) (shp_ints (is := []))
            simpa [eqv_nil] using this
          simp [h, hn, is_plain_eq]
    · rintro e ⟨o3, o4, rfl⟩
      simp
      exact hw1
  · rintro e ⟨w, o1, o2, o3, o4, hw, rfl⟩
    simp
    refine sat_compI (enc := DV.d ∘ .int) (xs := [0, 1, 2]) (fun rest acc e => (∃ w : DV, WL w ∧ e = [some w, o1, o2, o3, o4, none, none]) ∧ acc = [] ∧ ∀ k ∈ rest, 0 ≤ k ∧ k < 3) ⟨⟨w, hw, rfl⟩, rfl, by decide⟩ ?_ ?_
    · rintro k rest acc e ⟨⟨w, hw, rfl⟩, rfl, hk⟩
      have hk0 := hk k List.mem_cons_self
      simp
      refine (strange_sat hw).mono ?_
      rintro d outs ⟨x, w1, rfl, rfl, hw1, hx⟩
      simp [is_caught_eq hx hk0.1 hk0.2]
      exact ⟨hw1, fun z hz => hk z (List.mem_cons_of_mem _ hz)⟩
    · rintro acc e ⟨⟨w, hw, rfl⟩, rfl, -⟩
      have hn : eqP (.list []) (.list []) = some (.bool true) := by
        have := eqP_s (shp_ints (is := [])) (shp_ints (is := []))
        simpa [eqv_nil] using this
      simp [hn]
      exact hw
theorem law_true (ns : List Int) (h63 : ns.length ≤ 63) : F_law [.s ns] = .ok (.d (.bool true)) [] := by
  refine res_eq ?_
  rw [F_law, runF_sat]
  unfold m_law
  simp [env0, ioP, lenD, minP, maxP]
  obtain ⟨b, hb, hb0, hb1⟩ : ∃ b : Int, (if (2 : Int) < (if (4 : Int) < ns.length then 4 else (ns.length : Int)) then (if (4 : Int) < ns.length then 4 else (ns.length : Int)) else 2) = b ∧ 0 ≤ b ∧ b ≤ 4 := ⟨_, rfl, by split <;> (try split) <;> omega, by split <;> (try split) <;> omega⟩
  rw [hb]
  have hrg : rgOk 0 b = true := rgOk_of (by omega) (by omega) (by omega) (by omega)
  simp [rgI_ok hrg, rgP_rgL]
  refine sat_forD (enc := DV.d ∘ .int) (fun done e => ∃ x : Option DV, e = [some (.s ns), x]) ⟨none, rfl⟩ ?_ ?_
  · rintro done t rest e hd ⟨x, rfl⟩
    have ht : t ∈ rgL 0 b := by rw [← hd]; simp
    simp
    refine (well_sat (ns := ns) (mem_rgL.mp ht).1).mono ?_
    rintro d outs ⟨hw, rfl⟩
    simp
    refine (right_sat hw).mono ?_
    rintro d outs ⟨rfl, w', rfl, -⟩
    simp
  · rintro e ⟨x, rfl⟩
    simp
end Lk
namespace Lk
open PySem PySem.Spec L2
theorem all_mk {l : PySem.W.OpenLaw} {w : World} {K : PySem.W.Frag} {h : Heap} {mg : Str → Option Value} (X : K.In h) (G : h.Ns mainGlobals mg)
    {f_lawUdraw : Addr} {od_lawUdraw an_lawUdraw : Option Addr} {sl_lawUdraw : Array (Option Value)} {oc_lawUdraw kV_lawUdraw dc_lawUdraw pm_lawUdraw cd_lawUdraw ct_lawUdraw : Value}
    (a_lawUdraw : PySem.W.nsIn K mainGlobals "_law_draw" = some (some (.ref f_lawUdraw)))
    (l_lawUdraw : K.lookup f_lawUdraw = some ⟨oc_lawUdraw, od_lawUdraw, .func (PySem.W.fnOf "_law_draw" "_law_draw" (defArgs s_lawUdraw) (defBody s_lawUdraw) (defScope s_lawUdraw) .none kV_lawUdraw dc_lawUdraw pm_lawUdraw an_lawUdraw cd_lawUdraw ct_lawUdraw), sl_lawUdraw⟩)
    (d_lawUdraw : PySem.W.codeIn K cd_lawUdraw "_law_draw" = true) (k_lawUdraw : PySem.W.keepIn K (.ref f_lawUdraw) = true)
    {f_lawUpick : Addr} {od_lawUpick an_lawUpick : Option Addr} {sl_lawUpick : Array (Option Value)} {oc_lawUpick kV_lawUpick dc_lawUpick pm_lawUpick cd_lawUpick ct_lawUpick : Value}
    (a_lawUpick : PySem.W.nsIn K mainGlobals "_law_pick" = some (some (.ref f_lawUpick)))
    (l_lawUpick : K.lookup f_lawUpick = some ⟨oc_lawUpick, od_lawUpick, .func (PySem.W.fnOf "_law_pick" "_law_pick" (defArgs s_lawUpick) (defBody s_lawUpick) (defScope s_lawUpick) .none kV_lawUpick dc_lawUpick pm_lawUpick an_lawUpick cd_lawUpick ct_lawUpick), sl_lawUpick⟩)
    (d_lawUpick : PySem.W.codeIn K cd_lawUpick "_law_pick" = true) (k_lawUpick : PySem.W.keepIn K (.ref f_lawUpick) = true)
    {f_lawUstrange : Addr} {od_lawUstrange an_lawUstrange : Option Addr} {sl_lawUstrange : Array (Option Value)} {oc_lawUstrange kV_lawUstrange dc_lawUstrange pm_lawUstrange cd_lawUstrange ct_lawUstrange : Value}
    (a_lawUstrange : PySem.W.nsIn K mainGlobals "_law_strange" = some (some (.ref f_lawUstrange)))
    (l_lawUstrange : K.lookup f_lawUstrange = some ⟨oc_lawUstrange, od_lawUstrange, .func (PySem.W.fnOf "_law_strange" "_law_strange" (defArgs s_lawUstrange) (defBody s_lawUstrange) (defScope s_lawUstrange) .none kV_lawUstrange dc_lawUstrange pm_lawUstrange an_lawUstrange cd_lawUstrange ct_lawUstrange), sl_lawUstrange⟩)
    (d_lawUstrange : PySem.W.codeIn K cd_lawUstrange "_law_strange" = true) (k_lawUstrange : PySem.W.keepIn K (.ref f_lawUstrange) = true)
    {f_lawUmade : Addr} {od_lawUmade an_lawUmade : Option Addr} {sl_lawUmade : Array (Option Value)} {oc_lawUmade kV_lawUmade dc_lawUmade pm_lawUmade cd_lawUmade ct_lawUmade : Value}
    (a_lawUmade : PySem.W.nsIn K mainGlobals "_law_made" = some (some (.ref f_lawUmade)))
    (l_lawUmade : K.lookup f_lawUmade = some ⟨oc_lawUmade, od_lawUmade, .func (PySem.W.fnOf "_law_made" "_law_made" (defArgs s_lawUmade) (defBody s_lawUmade) (defScope s_lawUmade) .none kV_lawUmade dc_lawUmade pm_lawUmade an_lawUmade cd_lawUmade ct_lawUmade), sl_lawUmade⟩)
    (d_lawUmade : PySem.W.codeIn K cd_lawUmade "_law_made" = true) (k_lawUmade : PySem.W.keepIn K (.ref f_lawUmade) = true)
    {f_lawUisUplain : Addr} {od_lawUisUplain an_lawUisUplain : Option Addr} {sl_lawUisUplain : Array (Option Value)} {oc_lawUisUplain kV_lawUisUplain dc_lawUisUplain pm_lawUisUplain cd_lawUisUplain ct_lawUisUplain : Value}
    (a_lawUisUplain : PySem.W.nsIn K mainGlobals "_law_is_plain" = some (some (.ref f_lawUisUplain)))
    (l_lawUisUplain : K.lookup f_lawUisUplain = some ⟨oc_lawUisUplain, od_lawUisUplain, .func (PySem.W.fnOf "_law_is_plain" "_law_is_plain" (defArgs s_lawUisUplain) (defBody s_lawUisUplain) (defScope s_lawUisUplain) .none kV_lawUisUplain dc_lawUisUplain pm_lawUisUplain an_lawUisUplain cd_lawUisUplain ct_lawUisUplain), sl_lawUisUplain⟩)
    (d_lawUisUplain : PySem.W.codeIn K cd_lawUisUplain "_law_is_plain" = true) (k_lawUisUplain : PySem.W.keepIn K (.ref f_lawUisUplain) = true)
    {f_lawUisUcaught : Addr} {od_lawUisUcaught an_lawUisUcaught : Option Addr} {sl_lawUisUcaught : Array (Option Value)} {oc_lawUisUcaught kV_lawUisUcaught dc_lawUisUcaught pm_lawUisUcaught cd_lawUisUcaught ct_lawUisUcaught : Value}
    (a_lawUisUcaught : PySem.W.nsIn K mainGlobals "_law_is_caught" = some (some (.ref f_lawUisUcaught)))
    (l_lawUisUcaught : K.lookup f_lawUisUcaught = some ⟨oc_lawUisUcaught, od_lawUisUcaught, .func (PySem.W.fnOf "_law_is_caught" "_law_is_caught" (defArgs s_lawUisUcaught) (defBody s_lawUisUcaught) (defScope s_lawUisUcaught) .none kV_lawUisUcaught dc_lawUisUcaught pm_lawUisUcaught an_lawUisUcaught cd_lawUisUcaught ct_lawUisUcaught), sl_lawUisUcaught⟩)
    (d_lawUisUcaught : PySem.W.codeIn K cd_lawUisUcaught "_law_is_caught" = true) (k_lawUisUcaught : PySem.W.keepIn K (.ref f_lawUisUcaught) = true)
    {f_lawUisUof : Addr} {od_lawUisUof an_lawUisUof : Option Addr} {sl_lawUisUof : Array (Option Value)} {oc_lawUisUof kV_lawUisUof dc_lawUisUof pm_lawUisUof cd_lawUisUof ct_lawUisUof : Value}
    (a_lawUisUof : PySem.W.nsIn K mainGlobals "_law_is_of" = some (some (.ref f_lawUisUof)))
    (l_lawUisUof : K.lookup f_lawUisUof = some ⟨oc_lawUisUof, od_lawUisUof, .func (PySem.W.fnOf "_law_is_of" "_law_is_of" (defArgs s_lawUisUof) (defBody s_lawUisUof) (defScope s_lawUisUof) .none kV_lawUisUof dc_lawUisUof pm_lawUisUof an_lawUisUof cd_lawUisUof ct_lawUisUof), sl_lawUisUof⟩)
    (d_lawUisUof : PySem.W.codeIn K cd_lawUisUof "_law_is_of" = true) (k_lawUisUof : PySem.W.keepIn K (.ref f_lawUisUof) = true)
    {f_lawUright : Addr} {od_lawUright an_lawUright : Option Addr} {sl_lawUright : Array (Option Value)} {oc_lawUright kV_lawUright dc_lawUright pm_lawUright cd_lawUright ct_lawUright : Value}
    (a_lawUright : PySem.W.nsIn K mainGlobals "_law_right" = some (some (.ref f_lawUright)))
    (l_lawUright : K.lookup f_lawUright = some ⟨oc_lawUright, od_lawUright, .func (PySem.W.fnOf "_law_right" "_law_right" (defArgs s_lawUright) (defBody s_lawUright) (defScope s_lawUright) .none kV_lawUright dc_lawUright pm_lawUright an_lawUright cd_lawUright ct_lawUright), sl_lawUright⟩)
    (d_lawUright : PySem.W.codeIn K cd_lawUright "_law_right" = true) (k_lawUright : PySem.W.keepIn K (.ref f_lawUright) = true)
    {f_lawUwell : Addr} {od_lawUwell an_lawUwell : Option Addr} {sl_lawUwell : Array (Option Value)} {oc_lawUwell kV_lawUwell dc_lawUwell pm_lawUwell cd_lawUwell ct_lawUwell : Value}
    (a_lawUwell : PySem.W.nsIn K mainGlobals "_law_well" = some (some (.ref f_lawUwell)))
    (l_lawUwell : K.lookup f_lawUwell = some ⟨oc_lawUwell, od_lawUwell, .func (PySem.W.fnOf "_law_well" "_law_well" (defArgs s_lawUwell) (defBody s_lawUwell) (defScope s_lawUwell) .none kV_lawUwell dc_lawUwell pm_lawUwell an_lawUwell cd_lawUwell ct_lawUwell), sl_lawUwell⟩)
    (d_lawUwell : PySem.W.codeIn K cd_lawUwell "_law_well" = true) (k_lawUwell : PySem.W.keepIn K (.ref f_lawUwell) = true)
    {f_law : Addr} {od_law an_law : Option Addr} {sl_law : Array (Option Value)} {oc_law kV_law dc_law pm_law cd_law ct_law : Value}
    (a_law : PySem.W.nsIn K mainGlobals "law" = some (some (.ref f_law)))
    (l_law : K.lookup f_law = some ⟨oc_law, od_law, .func (PySem.W.fnOf "law" "law" (defArgs s_law) (defBody s_law) (defScope s_law) .none kV_law dc_law pm_law an_law cd_law ct_law), sl_law⟩)
    (d_law : PySem.W.codeIn K cd_law "law" = true) (k_law : PySem.W.keepIn K (.ref f_law) = true)
    (z_ArithmeticError : PySem.W.nsIn K mainGlobals "ArithmeticError" = some none)
    (z_LookupError : PySem.W.nsIn K mainGlobals "LookupError" = some none)
    (z_TypeError : PySem.W.nsIn K mainGlobals "TypeError" = some none)
    (z_ValueError : PySem.W.nsIn K mainGlobals "ValueError" = some none)
    (z_abs : PySem.W.nsIn K mainGlobals "abs" = some none)
    (z_int : PySem.W.nsIn K mainGlobals "int" = some none)
    (z_isinstance : PySem.W.nsIn K mainGlobals "isinstance" = some none)
    (z_len : PySem.W.nsIn K mainGlobals "len" = some none)
    (z_max : PySem.W.nsIn K mainGlobals "max" = some none)
    (z_min : PySem.W.nsIn K mainGlobals "min" = some none)
    (z_range : PySem.W.nsIn K mainGlobals "range" = some none)
    (z_repr : PySem.W.nsIn K mainGlobals "repr" = some none)
    (z_super : PySem.W.nsIn K mainGlobals "super" = some none)
    {C_InvalidEdge : Addr} (ca_InvalidEdge : PySem.W.nsIn K mainGlobals "InvalidEdge" = some (some (.ref C_InvalidEdge)))
    {C_InvalidGraph : Addr} (ca_InvalidGraph : PySem.W.nsIn K mainGlobals "InvalidGraph" = some (some (.ref C_InvalidGraph)))
    {C_InvalidLines : Addr} (ca_InvalidLines : PySem.W.nsIn K mainGlobals "InvalidLines" = some (some (.ref C_InvalidLines)))
    {C_InvalidMoves : Addr} (ca_InvalidMoves : PySem.W.nsIn K mainGlobals "InvalidMoves" = some (some (.ref C_InvalidMoves)))
    {C_InvalidNumber : Addr} (ca_InvalidNumber : PySem.W.nsIn K mainGlobals "InvalidNumber" = some (some (.ref C_InvalidNumber)))
    {C_InvalidPasses : Addr} (ca_InvalidPasses : PySem.W.nsIn K mainGlobals "InvalidPasses" = some (some (.ref C_InvalidPasses)))
    {C_InvalidRotation : Addr} (ca_InvalidRotation : PySem.W.nsIn K mainGlobals "InvalidRotation" = some (some (.ref C_InvalidRotation)))
    {C_InvalidText : Addr} (ca_InvalidText : PySem.W.nsIn K mainGlobals "InvalidText" = some (some (.ref C_InvalidText)))
    {C_InvalidTriangle : Addr} (ca_InvalidTriangle : PySem.W.nsIn K mainGlobals "InvalidTriangle" = some (some (.ref C_InvalidTriangle)))
    {C_InvalidVertex : Addr} (ca_InvalidVertex : PySem.W.nsIn K mainGlobals "InvalidVertex" = some (some (.ref C_InvalidVertex)))
    {C_LinkError : Addr} (ca_LinkError : PySem.W.nsIn K mainGlobals "LinkError" = some (some (.ref C_LinkError)))
    {C_TooMany : Addr} (ca_TooMany : PySem.W.nsIn K mainGlobals "TooMany" = some (some (.ref C_TooMany)))
    {fI_InvalidEdge cc_InvalidEdge cda_InvalidEdge : Addr} {nm_InvalidEdge q_InvalidEdge y_InvalidEdge : Str} {pa_InvalidEdge : Arguments} {sc_InvalidEdge : Scope} {oc_InvalidEdge dV_InvalidEdge kV_InvalidEdge dc_InvalidEdge pm_InvalidEdge ct_InvalidEdge : Value} {od_InvalidEdge an_InvalidEdge : Option Addr} {sl_InvalidEdge : Array (Option Value)} {p0_InvalidEdge p1_InvalidEdge p2_InvalidEdge p3_InvalidEdge p4_InvalidEdge p5_InvalidEdge p6_InvalidEdge p7_InvalidEdge p8_InvalidEdge : Pos} {pl_InvalidEdge : Sem Bool} {ar_InvalidEdge : Arg}
    (ci_InvalidEdge : PySem.W.findIn K (.ref C_InvalidEdge) "__init__" = some (some (.ref fI_InvalidEdge)))
    (cl_InvalidEdge : K.lookup fI_InvalidEdge = some ⟨oc_InvalidEdge, od_InvalidEdge, .func (PySem.W.ksFn nm_InvalidEdge q_InvalidEdge pa_InvalidEdge [.Expr (.Call (.Attribute (.Call (.Name "super" p0_InvalidEdge) [] [] p1_InvalidEdge) "__init__" p2_InvalidEdge) [] [] p3_InvalidEdge) p4_InvalidEdge, .Assign [.Attribute (.Name "self" p5_InvalidEdge) "given" p6_InvalidEdge] (.Name y_InvalidEdge p7_InvalidEdge) p8_InvalidEdge] sc_InvalidEdge dV_InvalidEdge kV_InvalidEdge dc_InvalidEdge pm_InvalidEdge an_InvalidEdge (.ref cda_InvalidEdge) ct_InvalidEdge cc_InvalidEdge), sl_InvalidEdge⟩)
    (cb_InvalidEdge : iniB K l.prog.main.file C_InvalidEdge cc_InvalidEdge cda_InvalidEdge fI_InvalidEdge "given" q_InvalidEdge = true) (cs_InvalidEdge : IniS y_InvalidEdge sc_InvalidEdge) (ch_InvalidEdge : (pa_InvalidEdge.posonlyargs ++ pa_InvalidEdge.args).head? = some ar_InvalidEdge) (cg_InvalidEdge : ar_InvalidEdge.arg = ("self" : Str))
    (co_InvalidEdge : (l.prog.main.scope.names.lookup ("super" : Str)).isSome = false)
    (cu_InvalidEdge : ∀ us : List Value, us.length = 2 → bindArgs (PySem.W.ksFn nm_InvalidEdge q_InvalidEdge pa_InvalidEdge [.Expr (.Call (.Attribute (.Call (.Name "super" p0_InvalidEdge) [] [] p1_InvalidEdge) "__init__" p2_InvalidEdge) [] [] p3_InvalidEdge) p4_InvalidEdge, .Assign [.Attribute (.Name "self" p5_InvalidEdge) "given" p6_InvalidEdge] (.Name y_InvalidEdge p7_InvalidEdge) p8_InvalidEdge] sc_InvalidEdge dV_InvalidEdge kV_InvalidEdge dc_InvalidEdge pm_InvalidEdge an_InvalidEdge (.ref cda_InvalidEdge) ct_InvalidEdge cc_InvalidEdge) ⟨us, []⟩ = pure ([("self" : Str), y_InvalidEdge].zip us))
    (cv_InvalidEdge : ∀ L, interactive (PySem.W.ksEnv q_InvalidEdge sc_InvalidEdge L fI_InvalidEdge (.ref cda_InvalidEdge) cc_InvalidEdge) = false) (cw_InvalidEdge : ∀ L, swapsWith (.Call (.Attribute (.Call (.Name "super" p0_InvalidEdge) [] [] p1_InvalidEdge) "__init__" p2_InvalidEdge) [] [] p3_InvalidEdge) none p4_InvalidEdge.line (PySem.W.ksEnv q_InvalidEdge sc_InvalidEdge L fI_InvalidEdge (.ref cda_InvalidEdge) cc_InvalidEdge) = pure false) (cx_InvalidEdge : ∀ L, swapsWith (.Name y_InvalidEdge p7_InvalidEdge) (some (.Attribute (.Name "self" p5_InvalidEdge) "given" p6_InvalidEdge)) p8_InvalidEdge.line (PySem.W.ksEnv q_InvalidEdge sc_InvalidEdge L fI_InvalidEdge (.ref cda_InvalidEdge) cc_InvalidEdge) = pure false)
    (cy_InvalidEdge : ∀ L, eval (.Call (.Attribute (.Call (.Name "super" p0_InvalidEdge) [] [] p1_InvalidEdge) "__init__" p2_InvalidEdge) [] [] p3_InvalidEdge) (PySem.W.ksEnv q_InvalidEdge sc_InvalidEdge L fI_InvalidEdge (.ref cda_InvalidEdge) cc_InvalidEdge) = (do
      let ov ← attributeBase (.Call (.Name "super" p0_InvalidEdge) [] [] p1_InvalidEdge) "__init__" (PySem.W.ksEnv q_InvalidEdge sc_InvalidEdge L fI_InvalidEdge (.ref cda_InvalidEdge) cc_InvalidEdge) (eval (.Call (.Name "super" p0_InvalidEdge) [] [] p1_InvalidEdge) (PySem.W.ksEnv q_InvalidEdge sc_InvalidEdge L fI_InvalidEdge (.ref cda_InvalidEdge) cc_InvalidEdge))
      standAt p2_InvalidEdge.atName
      let (g, first) ← holding [ov] (getMethod ov "__init__" pl_InvalidEdge)
      callWith p3_InvalidEdge g first (backTo p3_InvalidEdge (starEach [] (PySem.W.ksEnv q_InvalidEdge sc_InvalidEdge L fI_InvalidEdge (.ref cda_InvalidEdge) cc_InvalidEdge))) []))
    (cp_InvalidEdge : (y_InvalidEdge == ("__debug__" : Str)) = false) (cq_InvalidEdge : (y_InvalidEdge == ("__classdict__" : Str)) = false)
    (ck_InvalidEdge : ∀ u y : Value, bindArgs (PySem.W.ksFn nm_InvalidEdge q_InvalidEdge pa_InvalidEdge [.Expr (.Call (.Attribute (.Call (.Name "super" p0_InvalidEdge) [] [] p1_InvalidEdge) "__init__" p2_InvalidEdge) [] [] p3_InvalidEdge) p4_InvalidEdge, .Assign [.Attribute (.Name "self" p5_InvalidEdge) "given" p6_InvalidEdge] (.Name y_InvalidEdge p7_InvalidEdge) p8_InvalidEdge] sc_InvalidEdge dV_InvalidEdge kV_InvalidEdge dc_InvalidEdge pm_InvalidEdge an_InvalidEdge (.ref cda_InvalidEdge) ct_InvalidEdge cc_InvalidEdge) ⟨[u], [(y_InvalidEdge, y)]⟩ = pure ([(("self" : Str), u), (y_InvalidEdge, y)] : List (Str × Value))) (cf_InvalidEdge : y_InvalidEdge = fldOf 1)
    {fI_InvalidGraph cc_InvalidGraph cda_InvalidGraph : Addr} {nm_InvalidGraph q_InvalidGraph y_InvalidGraph : Str} {pa_InvalidGraph : Arguments} {sc_InvalidGraph : Scope} {oc_InvalidGraph dV_InvalidGraph kV_InvalidGraph dc_InvalidGraph pm_InvalidGraph ct_InvalidGraph : Value} {od_InvalidGraph an_InvalidGraph : Option Addr} {sl_InvalidGraph : Array (Option Value)} {p0_InvalidGraph p1_InvalidGraph p2_InvalidGraph p3_InvalidGraph p4_InvalidGraph p5_InvalidGraph p6_InvalidGraph p7_InvalidGraph p8_InvalidGraph : Pos} {pl_InvalidGraph : Sem Bool} {ar_InvalidGraph : Arg}
    (ci_InvalidGraph : PySem.W.findIn K (.ref C_InvalidGraph) "__init__" = some (some (.ref fI_InvalidGraph)))
    (cl_InvalidGraph : K.lookup fI_InvalidGraph = some ⟨oc_InvalidGraph, od_InvalidGraph, .func (PySem.W.ksFn nm_InvalidGraph q_InvalidGraph pa_InvalidGraph [.Expr (.Call (.Attribute (.Call (.Name "super" p0_InvalidGraph) [] [] p1_InvalidGraph) "__init__" p2_InvalidGraph) [] [] p3_InvalidGraph) p4_InvalidGraph, .Assign [.Attribute (.Name "self" p5_InvalidGraph) "given" p6_InvalidGraph] (.Name y_InvalidGraph p7_InvalidGraph) p8_InvalidGraph] sc_InvalidGraph dV_InvalidGraph kV_InvalidGraph dc_InvalidGraph pm_InvalidGraph an_InvalidGraph (.ref cda_InvalidGraph) ct_InvalidGraph cc_InvalidGraph), sl_InvalidGraph⟩)
    (cb_InvalidGraph : iniB K l.prog.main.file C_InvalidGraph cc_InvalidGraph cda_InvalidGraph fI_InvalidGraph "given" q_InvalidGraph = true) (cs_InvalidGraph : IniS y_InvalidGraph sc_InvalidGraph) (ch_InvalidGraph : (pa_InvalidGraph.posonlyargs ++ pa_InvalidGraph.args).head? = some ar_InvalidGraph) (cg_InvalidGraph : ar_InvalidGraph.arg = ("self" : Str))
    (co_InvalidGraph : (l.prog.main.scope.names.lookup ("super" : Str)).isSome = false)
    (cu_InvalidGraph : ∀ us : List Value, us.length = 2 → bindArgs (PySem.W.ksFn nm_InvalidGraph q_InvalidGraph pa_InvalidGraph [.Expr (.Call (.Attribute (.Call (.Name "super" p0_InvalidGraph) [] [] p1_InvalidGraph) "__init__" p2_InvalidGraph) [] [] p3_InvalidGraph) p4_InvalidGraph, .Assign [.Attribute (.Name "self" p5_InvalidGraph) "given" p6_InvalidGraph] (.Name y_InvalidGraph p7_InvalidGraph) p8_InvalidGraph] sc_InvalidGraph dV_InvalidGraph kV_InvalidGraph dc_InvalidGraph pm_InvalidGraph an_InvalidGraph (.ref cda_InvalidGraph) ct_InvalidGraph cc_InvalidGraph) ⟨us, []⟩ = pure ([("self" : Str), y_InvalidGraph].zip us))
    (cv_InvalidGraph : ∀ L, interactive (PySem.W.ksEnv q_InvalidGraph sc_InvalidGraph L fI_InvalidGraph (.ref cda_InvalidGraph) cc_InvalidGraph) = false) (cw_InvalidGraph : ∀ L, swapsWith (.Call (.Attribute (.Call (.Name "super" p0_InvalidGraph) [] [] p1_InvalidGraph) "__init__" p2_InvalidGraph) [] [] p3_InvalidGraph) none p4_InvalidGraph.line (PySem.W.ksEnv q_InvalidGraph sc_InvalidGraph L fI_InvalidGraph (.ref cda_InvalidGraph) cc_InvalidGraph) = pure false) (cx_InvalidGraph : ∀ L, swapsWith (.Name y_InvalidGraph p7_InvalidGraph) (some (.Attribute (.Name "self" p5_InvalidGraph) "given" p6_InvalidGraph)) p8_InvalidGraph.line (PySem.W.ksEnv q_InvalidGraph sc_InvalidGraph L fI_InvalidGraph (.ref cda_InvalidGraph) cc_InvalidGraph) = pure false)
    (cy_InvalidGraph : ∀ L, eval (.Call (.Attribute (.Call (.Name "super" p0_InvalidGraph) [] [] p1_InvalidGraph) "__init__" p2_InvalidGraph) [] [] p3_InvalidGraph) (PySem.W.ksEnv q_InvalidGraph sc_InvalidGraph L fI_InvalidGraph (.ref cda_InvalidGraph) cc_InvalidGraph) = (do
      let ov ← attributeBase (.Call (.Name "super" p0_InvalidGraph) [] [] p1_InvalidGraph) "__init__" (PySem.W.ksEnv q_InvalidGraph sc_InvalidGraph L fI_InvalidGraph (.ref cda_InvalidGraph) cc_InvalidGraph) (eval (.Call (.Name "super" p0_InvalidGraph) [] [] p1_InvalidGraph) (PySem.W.ksEnv q_InvalidGraph sc_InvalidGraph L fI_InvalidGraph (.ref cda_InvalidGraph) cc_InvalidGraph))
      standAt p2_InvalidGraph.atName
      let (g, first) ← holding [ov] (getMethod ov "__init__" pl_InvalidGraph)
      callWith p3_InvalidGraph g first (backTo p3_InvalidGraph (starEach [] (PySem.W.ksEnv q_InvalidGraph sc_InvalidGraph L fI_InvalidGraph (.ref cda_InvalidGraph) cc_InvalidGraph))) []))
    (cp_InvalidGraph : (y_InvalidGraph == ("__debug__" : Str)) = false) (cq_InvalidGraph : (y_InvalidGraph == ("__classdict__" : Str)) = false)
    (ck_InvalidGraph : ∀ u y : Value, bindArgs (PySem.W.ksFn nm_InvalidGraph q_InvalidGraph pa_InvalidGraph [.Expr (.Call (.Attribute (.Call (.Name "super" p0_InvalidGraph) [] [] p1_InvalidGraph) "__init__" p2_InvalidGraph) [] [] p3_InvalidGraph) p4_InvalidGraph, .Assign [.Attribute (.Name "self" p5_InvalidGraph) "given" p6_InvalidGraph] (.Name y_InvalidGraph p7_InvalidGraph) p8_InvalidGraph] sc_InvalidGraph dV_InvalidGraph kV_InvalidGraph dc_InvalidGraph pm_InvalidGraph an_InvalidGraph (.ref cda_InvalidGraph) ct_InvalidGraph cc_InvalidGraph) ⟨[u], [(y_InvalidGraph, y)]⟩ = pure ([(("self" : Str), u), (y_InvalidGraph, y)] : List (Str × Value))) (cf_InvalidGraph : y_InvalidGraph = fldOf 0)
    {fI_InvalidLines cc_InvalidLines cda_InvalidLines : Addr} {nm_InvalidLines q_InvalidLines y_InvalidLines : Str} {pa_InvalidLines : Arguments} {sc_InvalidLines : Scope} {oc_InvalidLines dV_InvalidLines kV_InvalidLines dc_InvalidLines pm_InvalidLines ct_InvalidLines : Value} {od_InvalidLines an_InvalidLines : Option Addr} {sl_InvalidLines : Array (Option Value)} {p0_InvalidLines p1_InvalidLines p2_InvalidLines p3_InvalidLines p4_InvalidLines p5_InvalidLines p6_InvalidLines p7_InvalidLines p8_InvalidLines : Pos} {pl_InvalidLines : Sem Bool} {ar_InvalidLines : Arg}
    (ci_InvalidLines : PySem.W.findIn K (.ref C_InvalidLines) "__init__" = some (some (.ref fI_InvalidLines)))
    (cl_InvalidLines : K.lookup fI_InvalidLines = some ⟨oc_InvalidLines, od_InvalidLines, .func (PySem.W.ksFn nm_InvalidLines q_InvalidLines pa_InvalidLines [.Expr (.Call (.Attribute (.Call (.Name "super" p0_InvalidLines) [] [] p1_InvalidLines) "__init__" p2_InvalidLines) [] [] p3_InvalidLines) p4_InvalidLines, .Assign [.Attribute (.Name "self" p5_InvalidLines) "index" p6_InvalidLines] (.Name y_InvalidLines p7_InvalidLines) p8_InvalidLines] sc_InvalidLines dV_InvalidLines kV_InvalidLines dc_InvalidLines pm_InvalidLines an_InvalidLines (.ref cda_InvalidLines) ct_InvalidLines cc_InvalidLines), sl_InvalidLines⟩)
    (cb_InvalidLines : iniB K l.prog.main.file C_InvalidLines cc_InvalidLines cda_InvalidLines fI_InvalidLines "index" q_InvalidLines = true) (cs_InvalidLines : IniS y_InvalidLines sc_InvalidLines) (ch_InvalidLines : (pa_InvalidLines.posonlyargs ++ pa_InvalidLines.args).head? = some ar_InvalidLines) (cg_InvalidLines : ar_InvalidLines.arg = ("self" : Str))
    (co_InvalidLines : (l.prog.main.scope.names.lookup ("super" : Str)).isSome = false)
    (cu_InvalidLines : ∀ us : List Value, us.length = 2 → bindArgs (PySem.W.ksFn nm_InvalidLines q_InvalidLines pa_InvalidLines [.Expr (.Call (.Attribute (.Call (.Name "super" p0_InvalidLines) [] [] p1_InvalidLines) "__init__" p2_InvalidLines) [] [] p3_InvalidLines) p4_InvalidLines, .Assign [.Attribute (.Name "self" p5_InvalidLines) "index" p6_InvalidLines] (.Name y_InvalidLines p7_InvalidLines) p8_InvalidLines] sc_InvalidLines dV_InvalidLines kV_InvalidLines dc_InvalidLines pm_InvalidLines an_InvalidLines (.ref cda_InvalidLines) ct_InvalidLines cc_InvalidLines) ⟨us, []⟩ = pure ([("self" : Str), y_InvalidLines].zip us))
    (cv_InvalidLines : ∀ L, interactive (PySem.W.ksEnv q_InvalidLines sc_InvalidLines L fI_InvalidLines (.ref cda_InvalidLines) cc_InvalidLines) = false) (cw_InvalidLines : ∀ L, swapsWith (.Call (.Attribute (.Call (.Name "super" p0_InvalidLines) [] [] p1_InvalidLines) "__init__" p2_InvalidLines) [] [] p3_InvalidLines) none p4_InvalidLines.line (PySem.W.ksEnv q_InvalidLines sc_InvalidLines L fI_InvalidLines (.ref cda_InvalidLines) cc_InvalidLines) = pure false) (cx_InvalidLines : ∀ L, swapsWith (.Name y_InvalidLines p7_InvalidLines) (some (.Attribute (.Name "self" p5_InvalidLines) "index" p6_InvalidLines)) p8_InvalidLines.line (PySem.W.ksEnv q_InvalidLines sc_InvalidLines L fI_InvalidLines (.ref cda_InvalidLines) cc_InvalidLines) = pure false)
    (cy_InvalidLines : ∀ L, eval (.Call (.Attribute (.Call (.Name "super" p0_InvalidLines) [] [] p1_InvalidLines) "__init__" p2_InvalidLines) [] [] p3_InvalidLines) (PySem.W.ksEnv q_InvalidLines sc_InvalidLines L fI_InvalidLines (.ref cda_InvalidLines) cc_InvalidLines) = (do
      let ov ← attributeBase (.Call (.Name "super" p0_InvalidLines) [] [] p1_InvalidLines) "__init__" (PySem.W.ksEnv q_InvalidLines sc_InvalidLines L fI_InvalidLines (.ref cda_InvalidLines) cc_InvalidLines) (eval (.Call (.Name "super" p0_InvalidLines) [] [] p1_InvalidLines) (PySem.W.ksEnv q_InvalidLines sc_InvalidLines L fI_InvalidLines (.ref cda_InvalidLines) cc_InvalidLines))
      standAt p2_InvalidLines.atName
      let (g, first) ← holding [ov] (getMethod ov "__init__" pl_InvalidLines)
      callWith p3_InvalidLines g first (backTo p3_InvalidLines (starEach [] (PySem.W.ksEnv q_InvalidLines sc_InvalidLines L fI_InvalidLines (.ref cda_InvalidLines) cc_InvalidLines))) []))
    (cp_InvalidLines : (y_InvalidLines == ("__debug__" : Str)) = false) (cq_InvalidLines : (y_InvalidLines == ("__classdict__" : Str)) = false)
    (ck_InvalidLines : ∀ u y : Value, bindArgs (PySem.W.ksFn nm_InvalidLines q_InvalidLines pa_InvalidLines [.Expr (.Call (.Attribute (.Call (.Name "super" p0_InvalidLines) [] [] p1_InvalidLines) "__init__" p2_InvalidLines) [] [] p3_InvalidLines) p4_InvalidLines, .Assign [.Attribute (.Name "self" p5_InvalidLines) "index" p6_InvalidLines] (.Name y_InvalidLines p7_InvalidLines) p8_InvalidLines] sc_InvalidLines dV_InvalidLines kV_InvalidLines dc_InvalidLines pm_InvalidLines an_InvalidLines (.ref cda_InvalidLines) ct_InvalidLines cc_InvalidLines) ⟨[u], [(y_InvalidLines, y)]⟩ = pure ([(("self" : Str), u), (y_InvalidLines, y)] : List (Str × Value))) (cf_InvalidLines : y_InvalidLines = fldOf 103)
    {fI_InvalidMoves cc_InvalidMoves cda_InvalidMoves : Addr} {nm_InvalidMoves q_InvalidMoves y_InvalidMoves : Str} {pa_InvalidMoves : Arguments} {sc_InvalidMoves : Scope} {oc_InvalidMoves dV_InvalidMoves kV_InvalidMoves dc_InvalidMoves pm_InvalidMoves ct_InvalidMoves : Value} {od_InvalidMoves an_InvalidMoves : Option Addr} {sl_InvalidMoves : Array (Option Value)} {p0_InvalidMoves p1_InvalidMoves p2_InvalidMoves p3_InvalidMoves p4_InvalidMoves p5_InvalidMoves p6_InvalidMoves p7_InvalidMoves p8_InvalidMoves : Pos} {pl_InvalidMoves : Sem Bool} {ar_InvalidMoves : Arg}
    (ci_InvalidMoves : PySem.W.findIn K (.ref C_InvalidMoves) "__init__" = some (some (.ref fI_InvalidMoves)))
    (cl_InvalidMoves : K.lookup fI_InvalidMoves = some ⟨oc_InvalidMoves, od_InvalidMoves, .func (PySem.W.ksFn nm_InvalidMoves q_InvalidMoves pa_InvalidMoves [.Expr (.Call (.Attribute (.Call (.Name "super" p0_InvalidMoves) [] [] p1_InvalidMoves) "__init__" p2_InvalidMoves) [] [] p3_InvalidMoves) p4_InvalidMoves, .Assign [.Attribute (.Name "self" p5_InvalidMoves) "index" p6_InvalidMoves] (.Name y_InvalidMoves p7_InvalidMoves) p8_InvalidMoves] sc_InvalidMoves dV_InvalidMoves kV_InvalidMoves dc_InvalidMoves pm_InvalidMoves an_InvalidMoves (.ref cda_InvalidMoves) ct_InvalidMoves cc_InvalidMoves), sl_InvalidMoves⟩)
    (cb_InvalidMoves : iniB K l.prog.main.file C_InvalidMoves cc_InvalidMoves cda_InvalidMoves fI_InvalidMoves "index" q_InvalidMoves = true) (cs_InvalidMoves : IniS y_InvalidMoves sc_InvalidMoves) (ch_InvalidMoves : (pa_InvalidMoves.posonlyargs ++ pa_InvalidMoves.args).head? = some ar_InvalidMoves) (cg_InvalidMoves : ar_InvalidMoves.arg = ("self" : Str))
    (co_InvalidMoves : (l.prog.main.scope.names.lookup ("super" : Str)).isSome = false)
    (cu_InvalidMoves : ∀ us : List Value, us.length = 2 → bindArgs (PySem.W.ksFn nm_InvalidMoves q_InvalidMoves pa_InvalidMoves [.Expr (.Call (.Attribute (.Call (.Name "super" p0_InvalidMoves) [] [] p1_InvalidMoves) "__init__" p2_InvalidMoves) [] [] p3_InvalidMoves) p4_InvalidMoves, .Assign [.Attribute (.Name "self" p5_InvalidMoves) "index" p6_InvalidMoves] (.Name y_InvalidMoves p7_InvalidMoves) p8_InvalidMoves] sc_InvalidMoves dV_InvalidMoves kV_InvalidMoves dc_InvalidMoves pm_InvalidMoves an_InvalidMoves (.ref cda_InvalidMoves) ct_InvalidMoves cc_InvalidMoves) ⟨us, []⟩ = pure ([("self" : Str), y_InvalidMoves].zip us))
    (cv_InvalidMoves : ∀ L, interactive (PySem.W.ksEnv q_InvalidMoves sc_InvalidMoves L fI_InvalidMoves (.ref cda_InvalidMoves) cc_InvalidMoves) = false) (cw_InvalidMoves : ∀ L, swapsWith (.Call (.Attribute (.Call (.Name "super" p0_InvalidMoves) [] [] p1_InvalidMoves) "__init__" p2_InvalidMoves) [] [] p3_InvalidMoves) none p4_InvalidMoves.line (PySem.W.ksEnv q_InvalidMoves sc_InvalidMoves L fI_InvalidMoves (.ref cda_InvalidMoves) cc_InvalidMoves) = pure false) (cx_InvalidMoves : ∀ L, swapsWith (.Name y_InvalidMoves p7_InvalidMoves) (some (.Attribute (.Name "self" p5_InvalidMoves) "index" p6_InvalidMoves)) p8_InvalidMoves.line (PySem.W.ksEnv q_InvalidMoves sc_InvalidMoves L fI_InvalidMoves (.ref cda_InvalidMoves) cc_InvalidMoves) = pure false)
    (cy_InvalidMoves : ∀ L, eval (.Call (.Attribute (.Call (.Name "super" p0_InvalidMoves) [] [] p1_InvalidMoves) "__init__" p2_InvalidMoves) [] [] p3_InvalidMoves) (PySem.W.ksEnv q_InvalidMoves sc_InvalidMoves L fI_InvalidMoves (.ref cda_InvalidMoves) cc_InvalidMoves) = (do
      let ov ← attributeBase (.Call (.Name "super" p0_InvalidMoves) [] [] p1_InvalidMoves) "__init__" (PySem.W.ksEnv q_InvalidMoves sc_InvalidMoves L fI_InvalidMoves (.ref cda_InvalidMoves) cc_InvalidMoves) (eval (.Call (.Name "super" p0_InvalidMoves) [] [] p1_InvalidMoves) (PySem.W.ksEnv q_InvalidMoves sc_InvalidMoves L fI_InvalidMoves (.ref cda_InvalidMoves) cc_InvalidMoves))
      standAt p2_InvalidMoves.atName
      let (g, first) ← holding [ov] (getMethod ov "__init__" pl_InvalidMoves)
      callWith p3_InvalidMoves g first (backTo p3_InvalidMoves (starEach [] (PySem.W.ksEnv q_InvalidMoves sc_InvalidMoves L fI_InvalidMoves (.ref cda_InvalidMoves) cc_InvalidMoves))) []))
    (cp_InvalidMoves : (y_InvalidMoves == ("__debug__" : Str)) = false) (cq_InvalidMoves : (y_InvalidMoves == ("__classdict__" : Str)) = false)
    (ck_InvalidMoves : ∀ u y : Value, bindArgs (PySem.W.ksFn nm_InvalidMoves q_InvalidMoves pa_InvalidMoves [.Expr (.Call (.Attribute (.Call (.Name "super" p0_InvalidMoves) [] [] p1_InvalidMoves) "__init__" p2_InvalidMoves) [] [] p3_InvalidMoves) p4_InvalidMoves, .Assign [.Attribute (.Name "self" p5_InvalidMoves) "index" p6_InvalidMoves] (.Name y_InvalidMoves p7_InvalidMoves) p8_InvalidMoves] sc_InvalidMoves dV_InvalidMoves kV_InvalidMoves dc_InvalidMoves pm_InvalidMoves an_InvalidMoves (.ref cda_InvalidMoves) ct_InvalidMoves cc_InvalidMoves) ⟨[u], [(y_InvalidMoves, y)]⟩ = pure ([(("self" : Str), u), (y_InvalidMoves, y)] : List (Str × Value))) (cf_InvalidMoves : y_InvalidMoves = fldOf 101)
    {fI_InvalidNumber cc_InvalidNumber cda_InvalidNumber : Addr} {nm_InvalidNumber q_InvalidNumber y_InvalidNumber : Str} {pa_InvalidNumber : Arguments} {sc_InvalidNumber : Scope} {oc_InvalidNumber dV_InvalidNumber kV_InvalidNumber dc_InvalidNumber pm_InvalidNumber ct_InvalidNumber : Value} {od_InvalidNumber an_InvalidNumber : Option Addr} {sl_InvalidNumber : Array (Option Value)} {p0_InvalidNumber p1_InvalidNumber p2_InvalidNumber p3_InvalidNumber p4_InvalidNumber p5_InvalidNumber p6_InvalidNumber p7_InvalidNumber p8_InvalidNumber : Pos} {pl_InvalidNumber : Sem Bool} {ar_InvalidNumber : Arg}
    (ci_InvalidNumber : PySem.W.findIn K (.ref C_InvalidNumber) "__init__" = some (some (.ref fI_InvalidNumber)))
    (cl_InvalidNumber : K.lookup fI_InvalidNumber = some ⟨oc_InvalidNumber, od_InvalidNumber, .func (PySem.W.ksFn nm_InvalidNumber q_InvalidNumber pa_InvalidNumber [.Expr (.Call (.Attribute (.Call (.Name "super" p0_InvalidNumber) [] [] p1_InvalidNumber) "__init__" p2_InvalidNumber) [] [] p3_InvalidNumber) p4_InvalidNumber, .Assign [.Attribute (.Name "self" p5_InvalidNumber) "given" p6_InvalidNumber] (.Name y_InvalidNumber p7_InvalidNumber) p8_InvalidNumber] sc_InvalidNumber dV_InvalidNumber kV_InvalidNumber dc_InvalidNumber pm_InvalidNumber an_InvalidNumber (.ref cda_InvalidNumber) ct_InvalidNumber cc_InvalidNumber), sl_InvalidNumber⟩)
    (cb_InvalidNumber : iniB K l.prog.main.file C_InvalidNumber cc_InvalidNumber cda_InvalidNumber fI_InvalidNumber "given" q_InvalidNumber = true) (cs_InvalidNumber : IniS y_InvalidNumber sc_InvalidNumber) (ch_InvalidNumber : (pa_InvalidNumber.posonlyargs ++ pa_InvalidNumber.args).head? = some ar_InvalidNumber) (cg_InvalidNumber : ar_InvalidNumber.arg = ("self" : Str))
    (co_InvalidNumber : (l.prog.main.scope.names.lookup ("super" : Str)).isSome = false)
    (cu_InvalidNumber : ∀ us : List Value, us.length = 2 → bindArgs (PySem.W.ksFn nm_InvalidNumber q_InvalidNumber pa_InvalidNumber [.Expr (.Call (.Attribute (.Call (.Name "super" p0_InvalidNumber) [] [] p1_InvalidNumber) "__init__" p2_InvalidNumber) [] [] p3_InvalidNumber) p4_InvalidNumber, .Assign [.Attribute (.Name "self" p5_InvalidNumber) "given" p6_InvalidNumber] (.Name y_InvalidNumber p7_InvalidNumber) p8_InvalidNumber] sc_InvalidNumber dV_InvalidNumber kV_InvalidNumber dc_InvalidNumber pm_InvalidNumber an_InvalidNumber (.ref cda_InvalidNumber) ct_InvalidNumber cc_InvalidNumber) ⟨us, []⟩ = pure ([("self" : Str), y_InvalidNumber].zip us))
    (cv_InvalidNumber : ∀ L, interactive (PySem.W.ksEnv q_InvalidNumber sc_InvalidNumber L fI_InvalidNumber (.ref cda_InvalidNumber) cc_InvalidNumber) = false) (cw_InvalidNumber : ∀ L, swapsWith (.Call (.Attribute (.Call (.Name "super" p0_InvalidNumber) [] [] p1_InvalidNumber) "__init__" p2_InvalidNumber) [] [] p3_InvalidNumber) none p4_InvalidNumber.line (PySem.W.ksEnv q_InvalidNumber sc_InvalidNumber L fI_InvalidNumber (.ref cda_InvalidNumber) cc_InvalidNumber) = pure false) (cx_InvalidNumber : ∀ L, swapsWith (.Name y_InvalidNumber p7_InvalidNumber) (some (.Attribute (.Name "self" p5_InvalidNumber) "given" p6_InvalidNumber)) p8_InvalidNumber.line (PySem.W.ksEnv q_InvalidNumber sc_InvalidNumber L fI_InvalidNumber (.ref cda_InvalidNumber) cc_InvalidNumber) = pure false)
    (cy_InvalidNumber : ∀ L, eval (.Call (.Attribute (.Call (.Name "super" p0_InvalidNumber) [] [] p1_InvalidNumber) "__init__" p2_InvalidNumber) [] [] p3_InvalidNumber) (PySem.W.ksEnv q_InvalidNumber sc_InvalidNumber L fI_InvalidNumber (.ref cda_InvalidNumber) cc_InvalidNumber) = (do
      let ov ← attributeBase (.Call (.Name "super" p0_InvalidNumber) [] [] p1_InvalidNumber) "__init__" (PySem.W.ksEnv q_InvalidNumber sc_InvalidNumber L fI_InvalidNumber (.ref cda_InvalidNumber) cc_InvalidNumber) (eval (.Call (.Name "super" p0_InvalidNumber) [] [] p1_InvalidNumber) (PySem.W.ksEnv q_InvalidNumber sc_InvalidNumber L fI_InvalidNumber (.ref cda_InvalidNumber) cc_InvalidNumber))
      standAt p2_InvalidNumber.atName
      let (g, first) ← holding [ov] (getMethod ov "__init__" pl_InvalidNumber)
      callWith p3_InvalidNumber g first (backTo p3_InvalidNumber (starEach [] (PySem.W.ksEnv q_InvalidNumber sc_InvalidNumber L fI_InvalidNumber (.ref cda_InvalidNumber) cc_InvalidNumber))) []))
    (cp_InvalidNumber : (y_InvalidNumber == ("__debug__" : Str)) = false) (cq_InvalidNumber : (y_InvalidNumber == ("__classdict__" : Str)) = false)
    (ck_InvalidNumber : ∀ u y : Value, bindArgs (PySem.W.ksFn nm_InvalidNumber q_InvalidNumber pa_InvalidNumber [.Expr (.Call (.Attribute (.Call (.Name "super" p0_InvalidNumber) [] [] p1_InvalidNumber) "__init__" p2_InvalidNumber) [] [] p3_InvalidNumber) p4_InvalidNumber, .Assign [.Attribute (.Name "self" p5_InvalidNumber) "given" p6_InvalidNumber] (.Name y_InvalidNumber p7_InvalidNumber) p8_InvalidNumber] sc_InvalidNumber dV_InvalidNumber kV_InvalidNumber dc_InvalidNumber pm_InvalidNumber an_InvalidNumber (.ref cda_InvalidNumber) ct_InvalidNumber cc_InvalidNumber) ⟨[u], [(y_InvalidNumber, y)]⟩ = pure ([(("self" : Str), u), (y_InvalidNumber, y)] : List (Str × Value))) (cf_InvalidNumber : y_InvalidNumber = fldOf 4)
    {fI_InvalidPasses cc_InvalidPasses cda_InvalidPasses : Addr} {nm_InvalidPasses q_InvalidPasses y_InvalidPasses : Str} {pa_InvalidPasses : Arguments} {sc_InvalidPasses : Scope} {oc_InvalidPasses dV_InvalidPasses kV_InvalidPasses dc_InvalidPasses pm_InvalidPasses ct_InvalidPasses : Value} {od_InvalidPasses an_InvalidPasses : Option Addr} {sl_InvalidPasses : Array (Option Value)} {p0_InvalidPasses p1_InvalidPasses p2_InvalidPasses p3_InvalidPasses p4_InvalidPasses p5_InvalidPasses p6_InvalidPasses p7_InvalidPasses p8_InvalidPasses : Pos} {pl_InvalidPasses : Sem Bool} {ar_InvalidPasses : Arg}
    (ci_InvalidPasses : PySem.W.findIn K (.ref C_InvalidPasses) "__init__" = some (some (.ref fI_InvalidPasses)))
    (cl_InvalidPasses : K.lookup fI_InvalidPasses = some ⟨oc_InvalidPasses, od_InvalidPasses, .func (PySem.W.ksFn nm_InvalidPasses q_InvalidPasses pa_InvalidPasses [.Expr (.Call (.Attribute (.Call (.Name "super" p0_InvalidPasses) [] [] p1_InvalidPasses) "__init__" p2_InvalidPasses) [] [] p3_InvalidPasses) p4_InvalidPasses, .Assign [.Attribute (.Name "self" p5_InvalidPasses) "index" p6_InvalidPasses] (.Name y_InvalidPasses p7_InvalidPasses) p8_InvalidPasses] sc_InvalidPasses dV_InvalidPasses kV_InvalidPasses dc_InvalidPasses pm_InvalidPasses an_InvalidPasses (.ref cda_InvalidPasses) ct_InvalidPasses cc_InvalidPasses), sl_InvalidPasses⟩)
    (cb_InvalidPasses : iniB K l.prog.main.file C_InvalidPasses cc_InvalidPasses cda_InvalidPasses fI_InvalidPasses "index" q_InvalidPasses = true) (cs_InvalidPasses : IniS y_InvalidPasses sc_InvalidPasses) (ch_InvalidPasses : (pa_InvalidPasses.posonlyargs ++ pa_InvalidPasses.args).head? = some ar_InvalidPasses) (cg_InvalidPasses : ar_InvalidPasses.arg = ("self" : Str))
    (co_InvalidPasses : (l.prog.main.scope.names.lookup ("super" : Str)).isSome = false)
    (cu_InvalidPasses : ∀ us : List Value, us.length = 2 → bindArgs (PySem.W.ksFn nm_InvalidPasses q_InvalidPasses pa_InvalidPasses [.Expr (.Call (.Attribute (.Call (.Name "super" p0_InvalidPasses) [] [] p1_InvalidPasses) "__init__" p2_InvalidPasses) [] [] p3_InvalidPasses) p4_InvalidPasses, .Assign [.Attribute (.Name "self" p5_InvalidPasses) "index" p6_InvalidPasses] (.Name y_InvalidPasses p7_InvalidPasses) p8_InvalidPasses] sc_InvalidPasses dV_InvalidPasses kV_InvalidPasses dc_InvalidPasses pm_InvalidPasses an_InvalidPasses (.ref cda_InvalidPasses) ct_InvalidPasses cc_InvalidPasses) ⟨us, []⟩ = pure ([("self" : Str), y_InvalidPasses].zip us))
    (cv_InvalidPasses : ∀ L, interactive (PySem.W.ksEnv q_InvalidPasses sc_InvalidPasses L fI_InvalidPasses (.ref cda_InvalidPasses) cc_InvalidPasses) = false) (cw_InvalidPasses : ∀ L, swapsWith (.Call (.Attribute (.Call (.Name "super" p0_InvalidPasses) [] [] p1_InvalidPasses) "__init__" p2_InvalidPasses) [] [] p3_InvalidPasses) none p4_InvalidPasses.line (PySem.W.ksEnv q_InvalidPasses sc_InvalidPasses L fI_InvalidPasses (.ref cda_InvalidPasses) cc_InvalidPasses) = pure false) (cx_InvalidPasses : ∀ L, swapsWith (.Name y_InvalidPasses p7_InvalidPasses) (some (.Attribute (.Name "self" p5_InvalidPasses) "index" p6_InvalidPasses)) p8_InvalidPasses.line (PySem.W.ksEnv q_InvalidPasses sc_InvalidPasses L fI_InvalidPasses (.ref cda_InvalidPasses) cc_InvalidPasses) = pure false)
    (cy_InvalidPasses : ∀ L, eval (.Call (.Attribute (.Call (.Name "super" p0_InvalidPasses) [] [] p1_InvalidPasses) "__init__" p2_InvalidPasses) [] [] p3_InvalidPasses) (PySem.W.ksEnv q_InvalidPasses sc_InvalidPasses L fI_InvalidPasses (.ref cda_InvalidPasses) cc_InvalidPasses) = (do
      let ov ← attributeBase (.Call (.Name "super" p0_InvalidPasses) [] [] p1_InvalidPasses) "__init__" (PySem.W.ksEnv q_InvalidPasses sc_InvalidPasses L fI_InvalidPasses (.ref cda_InvalidPasses) cc_InvalidPasses) (eval (.Call (.Name "super" p0_InvalidPasses) [] [] p1_InvalidPasses) (PySem.W.ksEnv q_InvalidPasses sc_InvalidPasses L fI_InvalidPasses (.ref cda_InvalidPasses) cc_InvalidPasses))
      standAt p2_InvalidPasses.atName
      let (g, first) ← holding [ov] (getMethod ov "__init__" pl_InvalidPasses)
      callWith p3_InvalidPasses g first (backTo p3_InvalidPasses (starEach [] (PySem.W.ksEnv q_InvalidPasses sc_InvalidPasses L fI_InvalidPasses (.ref cda_InvalidPasses) cc_InvalidPasses))) []))
    (cp_InvalidPasses : (y_InvalidPasses == ("__debug__" : Str)) = false) (cq_InvalidPasses : (y_InvalidPasses == ("__classdict__" : Str)) = false)
    (ck_InvalidPasses : ∀ u y : Value, bindArgs (PySem.W.ksFn nm_InvalidPasses q_InvalidPasses pa_InvalidPasses [.Expr (.Call (.Attribute (.Call (.Name "super" p0_InvalidPasses) [] [] p1_InvalidPasses) "__init__" p2_InvalidPasses) [] [] p3_InvalidPasses) p4_InvalidPasses, .Assign [.Attribute (.Name "self" p5_InvalidPasses) "index" p6_InvalidPasses] (.Name y_InvalidPasses p7_InvalidPasses) p8_InvalidPasses] sc_InvalidPasses dV_InvalidPasses kV_InvalidPasses dc_InvalidPasses pm_InvalidPasses an_InvalidPasses (.ref cda_InvalidPasses) ct_InvalidPasses cc_InvalidPasses) ⟨[u], [(y_InvalidPasses, y)]⟩ = pure ([(("self" : Str), u), (y_InvalidPasses, y)] : List (Str × Value))) (cf_InvalidPasses : y_InvalidPasses = fldOf 102)
    {fI_InvalidRotation cc_InvalidRotation cda_InvalidRotation : Addr} {nm_InvalidRotation q_InvalidRotation y_InvalidRotation : Str} {pa_InvalidRotation : Arguments} {sc_InvalidRotation : Scope} {oc_InvalidRotation dV_InvalidRotation kV_InvalidRotation dc_InvalidRotation pm_InvalidRotation ct_InvalidRotation : Value} {od_InvalidRotation an_InvalidRotation : Option Addr} {sl_InvalidRotation : Array (Option Value)} {p0_InvalidRotation p1_InvalidRotation p2_InvalidRotation p3_InvalidRotation p4_InvalidRotation p5_InvalidRotation p6_InvalidRotation p7_InvalidRotation p8_InvalidRotation : Pos} {pl_InvalidRotation : Sem Bool} {ar_InvalidRotation : Arg}
    (ci_InvalidRotation : PySem.W.findIn K (.ref C_InvalidRotation) "__init__" = some (some (.ref fI_InvalidRotation)))
    (cl_InvalidRotation : K.lookup fI_InvalidRotation = some ⟨oc_InvalidRotation, od_InvalidRotation, .func (PySem.W.ksFn nm_InvalidRotation q_InvalidRotation pa_InvalidRotation [.Expr (.Call (.Attribute (.Call (.Name "super" p0_InvalidRotation) [] [] p1_InvalidRotation) "__init__" p2_InvalidRotation) [] [] p3_InvalidRotation) p4_InvalidRotation, .Assign [.Attribute (.Name "self" p5_InvalidRotation) "given" p6_InvalidRotation] (.Name y_InvalidRotation p7_InvalidRotation) p8_InvalidRotation] sc_InvalidRotation dV_InvalidRotation kV_InvalidRotation dc_InvalidRotation pm_InvalidRotation an_InvalidRotation (.ref cda_InvalidRotation) ct_InvalidRotation cc_InvalidRotation), sl_InvalidRotation⟩)
    (cb_InvalidRotation : iniB K l.prog.main.file C_InvalidRotation cc_InvalidRotation cda_InvalidRotation fI_InvalidRotation "given" q_InvalidRotation = true) (cs_InvalidRotation : IniS y_InvalidRotation sc_InvalidRotation) (ch_InvalidRotation : (pa_InvalidRotation.posonlyargs ++ pa_InvalidRotation.args).head? = some ar_InvalidRotation) (cg_InvalidRotation : ar_InvalidRotation.arg = ("self" : Str))
    (co_InvalidRotation : (l.prog.main.scope.names.lookup ("super" : Str)).isSome = false)
    (cu_InvalidRotation : ∀ us : List Value, us.length = 2 → bindArgs (PySem.W.ksFn nm_InvalidRotation q_InvalidRotation pa_InvalidRotation [.Expr (.Call (.Attribute (.Call (.Name "super" p0_InvalidRotation) [] [] p1_InvalidRotation) "__init__" p2_InvalidRotation) [] [] p3_InvalidRotation) p4_InvalidRotation, .Assign [.Attribute (.Name "self" p5_InvalidRotation) "given" p6_InvalidRotation] (.Name y_InvalidRotation p7_InvalidRotation) p8_InvalidRotation] sc_InvalidRotation dV_InvalidRotation kV_InvalidRotation dc_InvalidRotation pm_InvalidRotation an_InvalidRotation (.ref cda_InvalidRotation) ct_InvalidRotation cc_InvalidRotation) ⟨us, []⟩ = pure ([("self" : Str), y_InvalidRotation].zip us))
    (cv_InvalidRotation : ∀ L, interactive (PySem.W.ksEnv q_InvalidRotation sc_InvalidRotation L fI_InvalidRotation (.ref cda_InvalidRotation) cc_InvalidRotation) = false) (cw_InvalidRotation : ∀ L, swapsWith (.Call (.Attribute (.Call (.Name "super" p0_InvalidRotation) [] [] p1_InvalidRotation) "__init__" p2_InvalidRotation) [] [] p3_InvalidRotation) none p4_InvalidRotation.line (PySem.W.ksEnv q_InvalidRotation sc_InvalidRotation L fI_InvalidRotation (.ref cda_InvalidRotation) cc_InvalidRotation) = pure false) (cx_InvalidRotation : ∀ L, swapsWith (.Name y_InvalidRotation p7_InvalidRotation) (some (.Attribute (.Name "self" p5_InvalidRotation) "given" p6_InvalidRotation)) p8_InvalidRotation.line (PySem.W.ksEnv q_InvalidRotation sc_InvalidRotation L fI_InvalidRotation (.ref cda_InvalidRotation) cc_InvalidRotation) = pure false)
    (cy_InvalidRotation : ∀ L, eval (.Call (.Attribute (.Call (.Name "super" p0_InvalidRotation) [] [] p1_InvalidRotation) "__init__" p2_InvalidRotation) [] [] p3_InvalidRotation) (PySem.W.ksEnv q_InvalidRotation sc_InvalidRotation L fI_InvalidRotation (.ref cda_InvalidRotation) cc_InvalidRotation) = (do
      let ov ← attributeBase (.Call (.Name "super" p0_InvalidRotation) [] [] p1_InvalidRotation) "__init__" (PySem.W.ksEnv q_InvalidRotation sc_InvalidRotation L fI_InvalidRotation (.ref cda_InvalidRotation) cc_InvalidRotation) (eval (.Call (.Name "super" p0_InvalidRotation) [] [] p1_InvalidRotation) (PySem.W.ksEnv q_InvalidRotation sc_InvalidRotation L fI_InvalidRotation (.ref cda_InvalidRotation) cc_InvalidRotation))
      standAt p2_InvalidRotation.atName
      let (g, first) ← holding [ov] (getMethod ov "__init__" pl_InvalidRotation)
      callWith p3_InvalidRotation g first (backTo p3_InvalidRotation (starEach [] (PySem.W.ksEnv q_InvalidRotation sc_InvalidRotation L fI_InvalidRotation (.ref cda_InvalidRotation) cc_InvalidRotation))) []))
    (cp_InvalidRotation : (y_InvalidRotation == ("__debug__" : Str)) = false) (cq_InvalidRotation : (y_InvalidRotation == ("__classdict__" : Str)) = false)
    (ck_InvalidRotation : ∀ u y : Value, bindArgs (PySem.W.ksFn nm_InvalidRotation q_InvalidRotation pa_InvalidRotation [.Expr (.Call (.Attribute (.Call (.Name "super" p0_InvalidRotation) [] [] p1_InvalidRotation) "__init__" p2_InvalidRotation) [] [] p3_InvalidRotation) p4_InvalidRotation, .Assign [.Attribute (.Name "self" p5_InvalidRotation) "given" p6_InvalidRotation] (.Name y_InvalidRotation p7_InvalidRotation) p8_InvalidRotation] sc_InvalidRotation dV_InvalidRotation kV_InvalidRotation dc_InvalidRotation pm_InvalidRotation an_InvalidRotation (.ref cda_InvalidRotation) ct_InvalidRotation cc_InvalidRotation) ⟨[u], [(y_InvalidRotation, y)]⟩ = pure ([(("self" : Str), u), (y_InvalidRotation, y)] : List (Str × Value))) (cf_InvalidRotation : y_InvalidRotation = fldOf 5)
    {fI_InvalidText cc_InvalidText cda_InvalidText : Addr} {nm_InvalidText q_InvalidText y_InvalidText : Str} {pa_InvalidText : Arguments} {sc_InvalidText : Scope} {oc_InvalidText dV_InvalidText kV_InvalidText dc_InvalidText pm_InvalidText ct_InvalidText : Value} {od_InvalidText an_InvalidText : Option Addr} {sl_InvalidText : Array (Option Value)} {p0_InvalidText p1_InvalidText p2_InvalidText p3_InvalidText p4_InvalidText p5_InvalidText p6_InvalidText p7_InvalidText p8_InvalidText : Pos} {pl_InvalidText : Sem Bool} {ar_InvalidText : Arg}
    (ci_InvalidText : PySem.W.findIn K (.ref C_InvalidText) "__init__" = some (some (.ref fI_InvalidText)))
    (cl_InvalidText : K.lookup fI_InvalidText = some ⟨oc_InvalidText, od_InvalidText, .func (PySem.W.ksFn nm_InvalidText q_InvalidText pa_InvalidText [.Expr (.Call (.Attribute (.Call (.Name "super" p0_InvalidText) [] [] p1_InvalidText) "__init__" p2_InvalidText) [] [] p3_InvalidText) p4_InvalidText, .Assign [.Attribute (.Name "self" p5_InvalidText) "index" p6_InvalidText] (.Name y_InvalidText p7_InvalidText) p8_InvalidText] sc_InvalidText dV_InvalidText kV_InvalidText dc_InvalidText pm_InvalidText an_InvalidText (.ref cda_InvalidText) ct_InvalidText cc_InvalidText), sl_InvalidText⟩)
    (cb_InvalidText : iniB K l.prog.main.file C_InvalidText cc_InvalidText cda_InvalidText fI_InvalidText "index" q_InvalidText = true) (cs_InvalidText : IniS y_InvalidText sc_InvalidText) (ch_InvalidText : (pa_InvalidText.posonlyargs ++ pa_InvalidText.args).head? = some ar_InvalidText) (cg_InvalidText : ar_InvalidText.arg = ("self" : Str))
    (co_InvalidText : (l.prog.main.scope.names.lookup ("super" : Str)).isSome = false)
    (cu_InvalidText : ∀ us : List Value, us.length = 2 → bindArgs (PySem.W.ksFn nm_InvalidText q_InvalidText pa_InvalidText [.Expr (.Call (.Attribute (.Call (.Name "super" p0_InvalidText) [] [] p1_InvalidText) "__init__" p2_InvalidText) [] [] p3_InvalidText) p4_InvalidText, .Assign [.Attribute (.Name "self" p5_InvalidText) "index" p6_InvalidText] (.Name y_InvalidText p7_InvalidText) p8_InvalidText] sc_InvalidText dV_InvalidText kV_InvalidText dc_InvalidText pm_InvalidText an_InvalidText (.ref cda_InvalidText) ct_InvalidText cc_InvalidText) ⟨us, []⟩ = pure ([("self" : Str), y_InvalidText].zip us))
    (cv_InvalidText : ∀ L, interactive (PySem.W.ksEnv q_InvalidText sc_InvalidText L fI_InvalidText (.ref cda_InvalidText) cc_InvalidText) = false) (cw_InvalidText : ∀ L, swapsWith (.Call (.Attribute (.Call (.Name "super" p0_InvalidText) [] [] p1_InvalidText) "__init__" p2_InvalidText) [] [] p3_InvalidText) none p4_InvalidText.line (PySem.W.ksEnv q_InvalidText sc_InvalidText L fI_InvalidText (.ref cda_InvalidText) cc_InvalidText) = pure false) (cx_InvalidText : ∀ L, swapsWith (.Name y_InvalidText p7_InvalidText) (some (.Attribute (.Name "self" p5_InvalidText) "index" p6_InvalidText)) p8_InvalidText.line (PySem.W.ksEnv q_InvalidText sc_InvalidText L fI_InvalidText (.ref cda_InvalidText) cc_InvalidText) = pure false)
    (cy_InvalidText : ∀ L, eval (.Call (.Attribute (.Call (.Name "super" p0_InvalidText) [] [] p1_InvalidText) "__init__" p2_InvalidText) [] [] p3_InvalidText) (PySem.W.ksEnv q_InvalidText sc_InvalidText L fI_InvalidText (.ref cda_InvalidText) cc_InvalidText) = (do
      let ov ← attributeBase (.Call (.Name "super" p0_InvalidText) [] [] p1_InvalidText) "__init__" (PySem.W.ksEnv q_InvalidText sc_InvalidText L fI_InvalidText (.ref cda_InvalidText) cc_InvalidText) (eval (.Call (.Name "super" p0_InvalidText) [] [] p1_InvalidText) (PySem.W.ksEnv q_InvalidText sc_InvalidText L fI_InvalidText (.ref cda_InvalidText) cc_InvalidText))
      standAt p2_InvalidText.atName
      let (g, first) ← holding [ov] (getMethod ov "__init__" pl_InvalidText)
      callWith p3_InvalidText g first (backTo p3_InvalidText (starEach [] (PySem.W.ksEnv q_InvalidText sc_InvalidText L fI_InvalidText (.ref cda_InvalidText) cc_InvalidText))) []))
    (cp_InvalidText : (y_InvalidText == ("__debug__" : Str)) = false) (cq_InvalidText : (y_InvalidText == ("__classdict__" : Str)) = false)
    (ck_InvalidText : ∀ u y : Value, bindArgs (PySem.W.ksFn nm_InvalidText q_InvalidText pa_InvalidText [.Expr (.Call (.Attribute (.Call (.Name "super" p0_InvalidText) [] [] p1_InvalidText) "__init__" p2_InvalidText) [] [] p3_InvalidText) p4_InvalidText, .Assign [.Attribute (.Name "self" p5_InvalidText) "index" p6_InvalidText] (.Name y_InvalidText p7_InvalidText) p8_InvalidText] sc_InvalidText dV_InvalidText kV_InvalidText dc_InvalidText pm_InvalidText an_InvalidText (.ref cda_InvalidText) ct_InvalidText cc_InvalidText) ⟨[u], [(y_InvalidText, y)]⟩ = pure ([(("self" : Str), u), (y_InvalidText, y)] : List (Str × Value))) (cf_InvalidText : y_InvalidText = fldOf 100)
    {fI_InvalidTriangle cc_InvalidTriangle cda_InvalidTriangle : Addr} {nm_InvalidTriangle q_InvalidTriangle y_InvalidTriangle : Str} {pa_InvalidTriangle : Arguments} {sc_InvalidTriangle : Scope} {oc_InvalidTriangle dV_InvalidTriangle kV_InvalidTriangle dc_InvalidTriangle pm_InvalidTriangle ct_InvalidTriangle : Value} {od_InvalidTriangle an_InvalidTriangle : Option Addr} {sl_InvalidTriangle : Array (Option Value)} {p0_InvalidTriangle p1_InvalidTriangle p2_InvalidTriangle p3_InvalidTriangle p4_InvalidTriangle p5_InvalidTriangle p6_InvalidTriangle p7_InvalidTriangle p8_InvalidTriangle : Pos} {pl_InvalidTriangle : Sem Bool} {ar_InvalidTriangle : Arg}
    (ci_InvalidTriangle : PySem.W.findIn K (.ref C_InvalidTriangle) "__init__" = some (some (.ref fI_InvalidTriangle)))
    (cl_InvalidTriangle : K.lookup fI_InvalidTriangle = some ⟨oc_InvalidTriangle, od_InvalidTriangle, .func (PySem.W.ksFn nm_InvalidTriangle q_InvalidTriangle pa_InvalidTriangle [.Expr (.Call (.Attribute (.Call (.Name "super" p0_InvalidTriangle) [] [] p1_InvalidTriangle) "__init__" p2_InvalidTriangle) [] [] p3_InvalidTriangle) p4_InvalidTriangle, .Assign [.Attribute (.Name "self" p5_InvalidTriangle) "given" p6_InvalidTriangle] (.Name y_InvalidTriangle p7_InvalidTriangle) p8_InvalidTriangle] sc_InvalidTriangle dV_InvalidTriangle kV_InvalidTriangle dc_InvalidTriangle pm_InvalidTriangle an_InvalidTriangle (.ref cda_InvalidTriangle) ct_InvalidTriangle cc_InvalidTriangle), sl_InvalidTriangle⟩)
    (cb_InvalidTriangle : iniB K l.prog.main.file C_InvalidTriangle cc_InvalidTriangle cda_InvalidTriangle fI_InvalidTriangle "given" q_InvalidTriangle = true) (cs_InvalidTriangle : IniS y_InvalidTriangle sc_InvalidTriangle) (ch_InvalidTriangle : (pa_InvalidTriangle.posonlyargs ++ pa_InvalidTriangle.args).head? = some ar_InvalidTriangle) (cg_InvalidTriangle : ar_InvalidTriangle.arg = ("self" : Str))
    (co_InvalidTriangle : (l.prog.main.scope.names.lookup ("super" : Str)).isSome = false)
    (cu_InvalidTriangle : ∀ us : List Value, us.length = 2 → bindArgs (PySem.W.ksFn nm_InvalidTriangle q_InvalidTriangle pa_InvalidTriangle [.Expr (.Call (.Attribute (.Call (.Name "super" p0_InvalidTriangle) [] [] p1_InvalidTriangle) "__init__" p2_InvalidTriangle) [] [] p3_InvalidTriangle) p4_InvalidTriangle, .Assign [.Attribute (.Name "self" p5_InvalidTriangle) "given" p6_InvalidTriangle] (.Name y_InvalidTriangle p7_InvalidTriangle) p8_InvalidTriangle] sc_InvalidTriangle dV_InvalidTriangle kV_InvalidTriangle dc_InvalidTriangle pm_InvalidTriangle an_InvalidTriangle (.ref cda_InvalidTriangle) ct_InvalidTriangle cc_InvalidTriangle) ⟨us, []⟩ = pure ([("self" : Str), y_InvalidTriangle].zip us))
    (cv_InvalidTriangle : ∀ L, interactive (PySem.W.ksEnv q_InvalidTriangle sc_InvalidTriangle L fI_InvalidTriangle (.ref cda_InvalidTriangle) cc_InvalidTriangle) = false) (cw_InvalidTriangle : ∀ L, swapsWith (.Call (.Attribute (.Call (.Name "super" p0_InvalidTriangle) [] [] p1_InvalidTriangle) "__init__" p2_InvalidTriangle) [] [] p3_InvalidTriangle) none p4_InvalidTriangle.line (PySem.W.ksEnv q_InvalidTriangle sc_InvalidTriangle L fI_InvalidTriangle (.ref cda_InvalidTriangle) cc_InvalidTriangle) = pure false) (cx_InvalidTriangle : ∀ L, swapsWith (.Name y_InvalidTriangle p7_InvalidTriangle) (some (.Attribute (.Name "self" p5_InvalidTriangle) "given" p6_InvalidTriangle)) p8_InvalidTriangle.line (PySem.W.ksEnv q_InvalidTriangle sc_InvalidTriangle L fI_InvalidTriangle (.ref cda_InvalidTriangle) cc_InvalidTriangle) = pure false)
    (cy_InvalidTriangle : ∀ L, eval (.Call (.Attribute (.Call (.Name "super" p0_InvalidTriangle) [] [] p1_InvalidTriangle) "__init__" p2_InvalidTriangle) [] [] p3_InvalidTriangle) (PySem.W.ksEnv q_InvalidTriangle sc_InvalidTriangle L fI_InvalidTriangle (.ref cda_InvalidTriangle) cc_InvalidTriangle) = (do
      let ov ← attributeBase (.Call (.Name "super" p0_InvalidTriangle) [] [] p1_InvalidTriangle) "__init__" (PySem.W.ksEnv q_InvalidTriangle sc_InvalidTriangle L fI_InvalidTriangle (.ref cda_InvalidTriangle) cc_InvalidTriangle) (eval (.Call (.Name "super" p0_InvalidTriangle) [] [] p1_InvalidTriangle) (PySem.W.ksEnv q_InvalidTriangle sc_InvalidTriangle L fI_InvalidTriangle (.ref cda_InvalidTriangle) cc_InvalidTriangle))
      standAt p2_InvalidTriangle.atName
      let (g, first) ← holding [ov] (getMethod ov "__init__" pl_InvalidTriangle)
      callWith p3_InvalidTriangle g first (backTo p3_InvalidTriangle (starEach [] (PySem.W.ksEnv q_InvalidTriangle sc_InvalidTriangle L fI_InvalidTriangle (.ref cda_InvalidTriangle) cc_InvalidTriangle))) []))
    (cp_InvalidTriangle : (y_InvalidTriangle == ("__debug__" : Str)) = false) (cq_InvalidTriangle : (y_InvalidTriangle == ("__classdict__" : Str)) = false)
    (ck_InvalidTriangle : ∀ u y : Value, bindArgs (PySem.W.ksFn nm_InvalidTriangle q_InvalidTriangle pa_InvalidTriangle [.Expr (.Call (.Attribute (.Call (.Name "super" p0_InvalidTriangle) [] [] p1_InvalidTriangle) "__init__" p2_InvalidTriangle) [] [] p3_InvalidTriangle) p4_InvalidTriangle, .Assign [.Attribute (.Name "self" p5_InvalidTriangle) "given" p6_InvalidTriangle] (.Name y_InvalidTriangle p7_InvalidTriangle) p8_InvalidTriangle] sc_InvalidTriangle dV_InvalidTriangle kV_InvalidTriangle dc_InvalidTriangle pm_InvalidTriangle an_InvalidTriangle (.ref cda_InvalidTriangle) ct_InvalidTriangle cc_InvalidTriangle) ⟨[u], [(y_InvalidTriangle, y)]⟩ = pure ([(("self" : Str), u), (y_InvalidTriangle, y)] : List (Str × Value))) (cf_InvalidTriangle : y_InvalidTriangle = fldOf 3)
    {fI_InvalidVertex cc_InvalidVertex cda_InvalidVertex : Addr} {nm_InvalidVertex q_InvalidVertex y_InvalidVertex : Str} {pa_InvalidVertex : Arguments} {sc_InvalidVertex : Scope} {oc_InvalidVertex dV_InvalidVertex kV_InvalidVertex dc_InvalidVertex pm_InvalidVertex ct_InvalidVertex : Value} {od_InvalidVertex an_InvalidVertex : Option Addr} {sl_InvalidVertex : Array (Option Value)} {p0_InvalidVertex p1_InvalidVertex p2_InvalidVertex p3_InvalidVertex p4_InvalidVertex p5_InvalidVertex p6_InvalidVertex p7_InvalidVertex p8_InvalidVertex : Pos} {pl_InvalidVertex : Sem Bool} {ar_InvalidVertex : Arg}
    (ci_InvalidVertex : PySem.W.findIn K (.ref C_InvalidVertex) "__init__" = some (some (.ref fI_InvalidVertex)))
    (cl_InvalidVertex : K.lookup fI_InvalidVertex = some ⟨oc_InvalidVertex, od_InvalidVertex, .func (PySem.W.ksFn nm_InvalidVertex q_InvalidVertex pa_InvalidVertex [.Expr (.Call (.Attribute (.Call (.Name "super" p0_InvalidVertex) [] [] p1_InvalidVertex) "__init__" p2_InvalidVertex) [] [] p3_InvalidVertex) p4_InvalidVertex, .Assign [.Attribute (.Name "self" p5_InvalidVertex) "given" p6_InvalidVertex] (.Name y_InvalidVertex p7_InvalidVertex) p8_InvalidVertex] sc_InvalidVertex dV_InvalidVertex kV_InvalidVertex dc_InvalidVertex pm_InvalidVertex an_InvalidVertex (.ref cda_InvalidVertex) ct_InvalidVertex cc_InvalidVertex), sl_InvalidVertex⟩)
    (cb_InvalidVertex : iniB K l.prog.main.file C_InvalidVertex cc_InvalidVertex cda_InvalidVertex fI_InvalidVertex "given" q_InvalidVertex = true) (cs_InvalidVertex : IniS y_InvalidVertex sc_InvalidVertex) (ch_InvalidVertex : (pa_InvalidVertex.posonlyargs ++ pa_InvalidVertex.args).head? = some ar_InvalidVertex) (cg_InvalidVertex : ar_InvalidVertex.arg = ("self" : Str))
    (co_InvalidVertex : (l.prog.main.scope.names.lookup ("super" : Str)).isSome = false)
    (cu_InvalidVertex : ∀ us : List Value, us.length = 2 → bindArgs (PySem.W.ksFn nm_InvalidVertex q_InvalidVertex pa_InvalidVertex [.Expr (.Call (.Attribute (.Call (.Name "super" p0_InvalidVertex) [] [] p1_InvalidVertex) "__init__" p2_InvalidVertex) [] [] p3_InvalidVertex) p4_InvalidVertex, .Assign [.Attribute (.Name "self" p5_InvalidVertex) "given" p6_InvalidVertex] (.Name y_InvalidVertex p7_InvalidVertex) p8_InvalidVertex] sc_InvalidVertex dV_InvalidVertex kV_InvalidVertex dc_InvalidVertex pm_InvalidVertex an_InvalidVertex (.ref cda_InvalidVertex) ct_InvalidVertex cc_InvalidVertex) ⟨us, []⟩ = pure ([("self" : Str), y_InvalidVertex].zip us))
    (cv_InvalidVertex : ∀ L, interactive (PySem.W.ksEnv q_InvalidVertex sc_InvalidVertex L fI_InvalidVertex (.ref cda_InvalidVertex) cc_InvalidVertex) = false) (cw_InvalidVertex : ∀ L, swapsWith (.Call (.Attribute (.Call (.Name "super" p0_InvalidVertex) [] [] p1_InvalidVertex) "__init__" p2_InvalidVertex) [] [] p3_InvalidVertex) none p4_InvalidVertex.line (PySem.W.ksEnv q_InvalidVertex sc_InvalidVertex L fI_InvalidVertex (.ref cda_InvalidVertex) cc_InvalidVertex) = pure false) (cx_InvalidVertex : ∀ L, swapsWith (.Name y_InvalidVertex p7_InvalidVertex) (some (.Attribute (.Name "self" p5_InvalidVertex) "given" p6_InvalidVertex)) p8_InvalidVertex.line (PySem.W.ksEnv q_InvalidVertex sc_InvalidVertex L fI_InvalidVertex (.ref cda_InvalidVertex) cc_InvalidVertex) = pure false)
    (cy_InvalidVertex : ∀ L, eval (.Call (.Attribute (.Call (.Name "super" p0_InvalidVertex) [] [] p1_InvalidVertex) "__init__" p2_InvalidVertex) [] [] p3_InvalidVertex) (PySem.W.ksEnv q_InvalidVertex sc_InvalidVertex L fI_InvalidVertex (.ref cda_InvalidVertex) cc_InvalidVertex) = (do
      let ov ← attributeBase (.Call (.Name "super" p0_InvalidVertex) [] [] p1_InvalidVertex) "__init__" (PySem.W.ksEnv q_InvalidVertex sc_InvalidVertex L fI_InvalidVertex (.ref cda_InvalidVertex) cc_InvalidVertex) (eval (.Call (.Name "super" p0_InvalidVertex) [] [] p1_InvalidVertex) (PySem.W.ksEnv q_InvalidVertex sc_InvalidVertex L fI_InvalidVertex (.ref cda_InvalidVertex) cc_InvalidVertex))
      standAt p2_InvalidVertex.atName
      let (g, first) ← holding [ov] (getMethod ov "__init__" pl_InvalidVertex)
      callWith p3_InvalidVertex g first (backTo p3_InvalidVertex (starEach [] (PySem.W.ksEnv q_InvalidVertex sc_InvalidVertex L fI_InvalidVertex (.ref cda_InvalidVertex) cc_InvalidVertex))) []))
    (cp_InvalidVertex : (y_InvalidVertex == ("__debug__" : Str)) = false) (cq_InvalidVertex : (y_InvalidVertex == ("__classdict__" : Str)) = false)
    (ck_InvalidVertex : ∀ u y : Value, bindArgs (PySem.W.ksFn nm_InvalidVertex q_InvalidVertex pa_InvalidVertex [.Expr (.Call (.Attribute (.Call (.Name "super" p0_InvalidVertex) [] [] p1_InvalidVertex) "__init__" p2_InvalidVertex) [] [] p3_InvalidVertex) p4_InvalidVertex, .Assign [.Attribute (.Name "self" p5_InvalidVertex) "given" p6_InvalidVertex] (.Name y_InvalidVertex p7_InvalidVertex) p8_InvalidVertex] sc_InvalidVertex dV_InvalidVertex kV_InvalidVertex dc_InvalidVertex pm_InvalidVertex an_InvalidVertex (.ref cda_InvalidVertex) ct_InvalidVertex cc_InvalidVertex) ⟨[u], [(y_InvalidVertex, y)]⟩ = pure ([(("self" : Str), u), (y_InvalidVertex, y)] : List (Str × Value))) (cf_InvalidVertex : y_InvalidVertex = fldOf 2)
    {fI_TooMany cc_TooMany cda_TooMany : Addr} {nm_TooMany q_TooMany y_TooMany : Str} {pa_TooMany : Arguments} {sc_TooMany : Scope} {oc_TooMany dV_TooMany kV_TooMany dc_TooMany pm_TooMany ct_TooMany : Value} {od_TooMany an_TooMany : Option Addr} {sl_TooMany : Array (Option Value)} {p0_TooMany p1_TooMany p2_TooMany p3_TooMany p4_TooMany p5_TooMany p6_TooMany p7_TooMany p8_TooMany : Pos} {pl_TooMany : Sem Bool} {ar_TooMany : Arg}
    (ci_TooMany : PySem.W.findIn K (.ref C_TooMany) "__init__" = some (some (.ref fI_TooMany)))
    (cl_TooMany : K.lookup fI_TooMany = some ⟨oc_TooMany, od_TooMany, .func (PySem.W.ksFn nm_TooMany q_TooMany pa_TooMany [.Expr (.Call (.Attribute (.Call (.Name "super" p0_TooMany) [] [] p1_TooMany) "__init__" p2_TooMany) [] [] p3_TooMany) p4_TooMany, .Assign [.Attribute (.Name "self" p5_TooMany) "given" p6_TooMany] (.Name y_TooMany p7_TooMany) p8_TooMany] sc_TooMany dV_TooMany kV_TooMany dc_TooMany pm_TooMany an_TooMany (.ref cda_TooMany) ct_TooMany cc_TooMany), sl_TooMany⟩)
    (cb_TooMany : iniB K l.prog.main.file C_TooMany cc_TooMany cda_TooMany fI_TooMany "given" q_TooMany = true) (cs_TooMany : IniS y_TooMany sc_TooMany) (ch_TooMany : (pa_TooMany.posonlyargs ++ pa_TooMany.args).head? = some ar_TooMany) (cg_TooMany : ar_TooMany.arg = ("self" : Str))
    (co_TooMany : (l.prog.main.scope.names.lookup ("super" : Str)).isSome = false)
    (cu_TooMany : ∀ us : List Value, us.length = 2 → bindArgs (PySem.W.ksFn nm_TooMany q_TooMany pa_TooMany [.Expr (.Call (.Attribute (.Call (.Name "super" p0_TooMany) [] [] p1_TooMany) "__init__" p2_TooMany) [] [] p3_TooMany) p4_TooMany, .Assign [.Attribute (.Name "self" p5_TooMany) "given" p6_TooMany] (.Name y_TooMany p7_TooMany) p8_TooMany] sc_TooMany dV_TooMany kV_TooMany dc_TooMany pm_TooMany an_TooMany (.ref cda_TooMany) ct_TooMany cc_TooMany) ⟨us, []⟩ = pure ([("self" : Str), y_TooMany].zip us))
    (cv_TooMany : ∀ L, interactive (PySem.W.ksEnv q_TooMany sc_TooMany L fI_TooMany (.ref cda_TooMany) cc_TooMany) = false) (cw_TooMany : ∀ L, swapsWith (.Call (.Attribute (.Call (.Name "super" p0_TooMany) [] [] p1_TooMany) "__init__" p2_TooMany) [] [] p3_TooMany) none p4_TooMany.line (PySem.W.ksEnv q_TooMany sc_TooMany L fI_TooMany (.ref cda_TooMany) cc_TooMany) = pure false) (cx_TooMany : ∀ L, swapsWith (.Name y_TooMany p7_TooMany) (some (.Attribute (.Name "self" p5_TooMany) "given" p6_TooMany)) p8_TooMany.line (PySem.W.ksEnv q_TooMany sc_TooMany L fI_TooMany (.ref cda_TooMany) cc_TooMany) = pure false)
    (cy_TooMany : ∀ L, eval (.Call (.Attribute (.Call (.Name "super" p0_TooMany) [] [] p1_TooMany) "__init__" p2_TooMany) [] [] p3_TooMany) (PySem.W.ksEnv q_TooMany sc_TooMany L fI_TooMany (.ref cda_TooMany) cc_TooMany) = (do
      let ov ← attributeBase (.Call (.Name "super" p0_TooMany) [] [] p1_TooMany) "__init__" (PySem.W.ksEnv q_TooMany sc_TooMany L fI_TooMany (.ref cda_TooMany) cc_TooMany) (eval (.Call (.Name "super" p0_TooMany) [] [] p1_TooMany) (PySem.W.ksEnv q_TooMany sc_TooMany L fI_TooMany (.ref cda_TooMany) cc_TooMany))
      standAt p2_TooMany.atName
      let (g, first) ← holding [ov] (getMethod ov "__init__" pl_TooMany)
      callWith p3_TooMany g first (backTo p3_TooMany (starEach [] (PySem.W.ksEnv q_TooMany sc_TooMany L fI_TooMany (.ref cda_TooMany) cc_TooMany))) []))
    (cp_TooMany : (y_TooMany == ("__debug__" : Str)) = false) (cq_TooMany : (y_TooMany == ("__classdict__" : Str)) = false)
    (ck_TooMany : ∀ u y : Value, bindArgs (PySem.W.ksFn nm_TooMany q_TooMany pa_TooMany [.Expr (.Call (.Attribute (.Call (.Name "super" p0_TooMany) [] [] p1_TooMany) "__init__" p2_TooMany) [] [] p3_TooMany) p4_TooMany, .Assign [.Attribute (.Name "self" p5_TooMany) "given" p6_TooMany] (.Name y_TooMany p7_TooMany) p8_TooMany] sc_TooMany dV_TooMany kV_TooMany dc_TooMany pm_TooMany an_TooMany (.ref cda_TooMany) ct_TooMany cc_TooMany) ⟨[u], [(y_TooMany, y)]⟩ = pure ([(("self" : Str), u), (y_TooMany, y)] : List (Str × Value))) (cf_TooMany : y_TooMany = fldOf 6)
    (cm_InvalidEdge : errmB K C_InvalidEdge (tkC 1) = true)
    (cm_InvalidGraph : errmB K C_InvalidGraph (tkC 0) = true)
    (cm_InvalidLines : errmB K C_InvalidLines (tkC 103) = true)
    (cm_InvalidMoves : errmB K C_InvalidMoves (tkC 101) = true)
    (cm_InvalidNumber : errmB K C_InvalidNumber (tkC 4) = true)
    (cm_InvalidPasses : errmB K C_InvalidPasses (tkC 102) = true)
    (cm_InvalidRotation : errmB K C_InvalidRotation (tkC 5) = true)
    (cm_InvalidText : errmB K C_InvalidText (tkC 100) = true)
    (cm_InvalidTriangle : errmB K C_InvalidTriangle (tkC 3) = true)
    (cm_InvalidVertex : errmB K C_InvalidVertex (tkC 2) = true)
    (cm_LinkError : errmB K C_LinkError tkA = true)
    (cm_TooMany : errmB K C_TooMany (tkC 6) = true)
    (c0_LinkError : err0B K C_LinkError = true)
    (ct_LookupError_TypeError_ArithmeticError : errtsB K ["LookupError", "TypeError", "ArithmeticError"] tkN = true)
    (ct_ValueError : errtB K "ValueError" tkA = true)
    (xe : errsB K = true) :
    ∀ base : Heap, TabF K mg base [] → Has l.prog w K mg base 5 "law" ["script"] (ZK K []) [.fz] 9 F_law := by
  intro base TF
  have z_ArithmeticError := PySem.W.mg_none_of X G z_ArithmeticError
  have z_LookupError := PySem.W.mg_none_of X G z_LookupError
  have z_TypeError := PySem.W.mg_none_of X G z_TypeError
  have z_ValueError := PySem.W.mg_none_of X G z_ValueError
  have z_abs := PySem.W.mg_none_of X G z_abs
  have z_int := PySem.W.mg_none_of X G z_int
  have z_isinstance := PySem.W.mg_none_of X G z_isinstance
  have z_len := PySem.W.mg_none_of X G z_len
  have z_max := PySem.W.mg_none_of X G z_max
  have z_min := PySem.W.mg_none_of X G z_min
  have z_range := PySem.W.mg_none_of X G z_range
  have z_repr := PySem.W.mg_none_of X G z_repr
  have z_super := PySem.W.mg_none_of X G z_super
  have E_InvalidEdge : ErrC l.prog w K mg base (ZK K []) 1 "InvalidEdge" := errC_mk (c := 1) (PySem.W.mg_of X G ca_InvalidEdge) (ZK_at (by decide) (by rfl) ca_InvalidEdge) ci_InvalidEdge cl_InvalidEdge cb_InvalidEdge z_super co_InvalidEdge cs_InvalidEdge ch_InvalidEdge cg_InvalidEdge cu_InvalidEdge cv_InvalidEdge cw_InvalidEdge cx_InvalidEdge cy_InvalidEdge cp_InvalidEdge cq_InvalidEdge ck_InvalidEdge cf_InvalidEdge
  have E_InvalidGraph : ErrC l.prog w K mg base (ZK K []) 0 "InvalidGraph" := errC_mk (c := 0) (PySem.W.mg_of X G ca_InvalidGraph) (ZK_at (by decide) (by rfl) ca_InvalidGraph) ci_InvalidGraph cl_InvalidGraph cb_InvalidGraph z_super co_InvalidGraph cs_InvalidGraph ch_InvalidGraph cg_InvalidGraph cu_InvalidGraph cv_InvalidGraph cw_InvalidGraph cx_InvalidGraph cy_InvalidGraph cp_InvalidGraph cq_InvalidGraph ck_InvalidGraph cf_InvalidGraph
  have E_InvalidLines : ErrC l.prog w K mg base (ZK K []) 103 "InvalidLines" := errC_mk (c := 103) (PySem.W.mg_of X G ca_InvalidLines) (ZK_at (by decide) (by rfl) ca_InvalidLines) ci_InvalidLines cl_InvalidLines cb_InvalidLines z_super co_InvalidLines cs_InvalidLines ch_InvalidLines cg_InvalidLines cu_InvalidLines cv_InvalidLines cw_InvalidLines cx_InvalidLines cy_InvalidLines cp_InvalidLines cq_InvalidLines ck_InvalidLines cf_InvalidLines
  have E_InvalidMoves : ErrC l.prog w K mg base (ZK K []) 101 "InvalidMoves" := errC_mk (c := 101) (PySem.W.mg_of X G ca_InvalidMoves) (ZK_at (by decide) (by rfl) ca_InvalidMoves) ci_InvalidMoves cl_InvalidMoves cb_InvalidMoves z_super co_InvalidMoves cs_InvalidMoves ch_InvalidMoves cg_InvalidMoves cu_InvalidMoves cv_InvalidMoves cw_InvalidMoves cx_InvalidMoves cy_InvalidMoves cp_InvalidMoves cq_InvalidMoves ck_InvalidMoves cf_InvalidMoves
  have E_InvalidNumber : ErrC l.prog w K mg base (ZK K []) 4 "InvalidNumber" := errC_mk (c := 4) (PySem.W.mg_of X G ca_InvalidNumber) (ZK_at (by decide) (by rfl) ca_InvalidNumber) ci_InvalidNumber cl_InvalidNumber cb_InvalidNumber z_super co_InvalidNumber cs_InvalidNumber ch_InvalidNumber cg_InvalidNumber cu_InvalidNumber cv_InvalidNumber cw_InvalidNumber cx_InvalidNumber cy_InvalidNumber cp_InvalidNumber cq_InvalidNumber ck_InvalidNumber cf_InvalidNumber
  have E_InvalidPasses : ErrC l.prog w K mg base (ZK K []) 102 "InvalidPasses" := errC_mk (c := 102) (PySem.W.mg_of X G ca_InvalidPasses) (ZK_at (by decide) (by rfl) ca_InvalidPasses) ci_InvalidPasses cl_InvalidPasses cb_InvalidPasses z_super co_InvalidPasses cs_InvalidPasses ch_InvalidPasses cg_InvalidPasses cu_InvalidPasses cv_InvalidPasses cw_InvalidPasses cx_InvalidPasses cy_InvalidPasses cp_InvalidPasses cq_InvalidPasses ck_InvalidPasses cf_InvalidPasses
  have E_InvalidRotation : ErrC l.prog w K mg base (ZK K []) 5 "InvalidRotation" := errC_mk (c := 5) (PySem.W.mg_of X G ca_InvalidRotation) (ZK_at (by decide) (by rfl) ca_InvalidRotation) ci_InvalidRotation cl_InvalidRotation cb_InvalidRotation z_super co_InvalidRotation cs_InvalidRotation ch_InvalidRotation cg_InvalidRotation cu_InvalidRotation cv_InvalidRotation cw_InvalidRotation cx_InvalidRotation cy_InvalidRotation cp_InvalidRotation cq_InvalidRotation ck_InvalidRotation cf_InvalidRotation
  have E_InvalidText : ErrC l.prog w K mg base (ZK K []) 100 "InvalidText" := errC_mk (c := 100) (PySem.W.mg_of X G ca_InvalidText) (ZK_at (by decide) (by rfl) ca_InvalidText) ci_InvalidText cl_InvalidText cb_InvalidText z_super co_InvalidText cs_InvalidText ch_InvalidText cg_InvalidText cu_InvalidText cv_InvalidText cw_InvalidText cx_InvalidText cy_InvalidText cp_InvalidText cq_InvalidText ck_InvalidText cf_InvalidText
  have E_InvalidTriangle : ErrC l.prog w K mg base (ZK K []) 3 "InvalidTriangle" := errC_mk (c := 3) (PySem.W.mg_of X G ca_InvalidTriangle) (ZK_at (by decide) (by rfl) ca_InvalidTriangle) ci_InvalidTriangle cl_InvalidTriangle cb_InvalidTriangle z_super co_InvalidTriangle cs_InvalidTriangle ch_InvalidTriangle cg_InvalidTriangle cu_InvalidTriangle cv_InvalidTriangle cw_InvalidTriangle cx_InvalidTriangle cy_InvalidTriangle cp_InvalidTriangle cq_InvalidTriangle ck_InvalidTriangle cf_InvalidTriangle
  have E_InvalidVertex : ErrC l.prog w K mg base (ZK K []) 2 "InvalidVertex" := errC_mk (c := 2) (PySem.W.mg_of X G ca_InvalidVertex) (ZK_at (by decide) (by rfl) ca_InvalidVertex) ci_InvalidVertex cl_InvalidVertex cb_InvalidVertex z_super co_InvalidVertex cs_InvalidVertex ch_InvalidVertex cg_InvalidVertex cu_InvalidVertex cv_InvalidVertex cw_InvalidVertex cx_InvalidVertex cy_InvalidVertex cp_InvalidVertex cq_InvalidVertex ck_InvalidVertex cf_InvalidVertex
  have E_TooMany : ErrC l.prog w K mg base (ZK K []) 6 "TooMany" := errC_mk (c := 6) (PySem.W.mg_of X G ca_TooMany) (ZK_at (by decide) (by rfl) ca_TooMany) ci_TooMany cl_TooMany cb_TooMany z_super co_TooMany cs_TooMany ch_TooMany cg_TooMany cu_TooMany cv_TooMany cw_TooMany cx_TooMany cy_TooMany cp_TooMany cq_TooMany ck_TooMany cf_TooMany
  have M_InvalidEdge : ErrM K mg (ZK K []) "InvalidEdge" (tkC 1) := errM_mk (PySem.W.mg_of X G ca_InvalidEdge) cm_InvalidEdge
  have M_InvalidGraph : ErrM K mg (ZK K []) "InvalidGraph" (tkC 0) := errM_mk (PySem.W.mg_of X G ca_InvalidGraph) cm_InvalidGraph
  have M_InvalidLines : ErrM K mg (ZK K []) "InvalidLines" (tkC 103) := errM_mk (PySem.W.mg_of X G ca_InvalidLines) cm_InvalidLines
  have M_InvalidMoves : ErrM K mg (ZK K []) "InvalidMoves" (tkC 101) := errM_mk (PySem.W.mg_of X G ca_InvalidMoves) cm_InvalidMoves
  have M_InvalidNumber : ErrM K mg (ZK K []) "InvalidNumber" (tkC 4) := errM_mk (PySem.W.mg_of X G ca_InvalidNumber) cm_InvalidNumber
  have M_InvalidPasses : ErrM K mg (ZK K []) "InvalidPasses" (tkC 102) := errM_mk (PySem.W.mg_of X G ca_InvalidPasses) cm_InvalidPasses
  have M_InvalidRotation : ErrM K mg (ZK K []) "InvalidRotation" (tkC 5) := errM_mk (PySem.W.mg_of X G ca_InvalidRotation) cm_InvalidRotation
  have M_InvalidText : ErrM K mg (ZK K []) "InvalidText" (tkC 100) := errM_mk (PySem.W.mg_of X G ca_InvalidText) cm_InvalidText
  have M_InvalidTriangle : ErrM K mg (ZK K []) "InvalidTriangle" (tkC 3) := errM_mk (PySem.W.mg_of X G ca_InvalidTriangle) cm_InvalidTriangle
  have M_InvalidVertex : ErrM K mg (ZK K []) "InvalidVertex" (tkC 2) := errM_mk (PySem.W.mg_of X G ca_InvalidVertex) cm_InvalidVertex
  have M_LinkError : ErrM K mg (ZK K []) "LinkError" tkA := errM_mk (PySem.W.mg_of X G ca_LinkError) cm_LinkError
  have M_TooMany : ErrM K mg (ZK K []) "TooMany" (tkC 6) := errM_mk (PySem.W.mg_of X G ca_TooMany) cm_TooMany
  have E0_LinkError : ErrC0 K mg (ZK K []) 150 "LinkError" := err0_mk (PySem.W.mg_of X G ca_LinkError) (ZK_at (by decide) (by rfl) ca_LinkError) c0_LinkError
  have MT_LookupError_TypeError_ArithmeticError : ErrTs K (ZK K []) ["LookupError", "TypeError", "ArithmeticError"] tkN := errTs_mk ct_LookupError_TypeError_ArithmeticError
  have MT_ValueError : ErrT K (ZK K []) "ValueError" tkA := errT_mk ct_ValueError
  have XE : ErrsOk K (ZK K []) := errsB_ok xe
  have G__law_draw := h_lawUdraw (P := l.prog) (w := w) (base := base) (Z := ZK K []) (fun_mk (st := s_lawUdraw) l_lawUdraw d_lawUdraw k_lawUdraw) (PySem.W.mg_of X G a_lawUdraw) z_int
  have G__law_pick := h_lawUpick (P := l.prog) (w := w) (base := base) (Z := ZK K []) (fun_mk (st := s_lawUpick) l_lawUpick d_lawUpick k_lawUpick) (PySem.W.mg_of X G a_lawUpick) z_len G__law_draw
  have G__law_strange := h_lawUstrange (P := l.prog) (w := w) (base := base) (Z := ZK K []) (fun_mk (st := s_lawUstrange) l_lawUstrange d_lawUstrange k_lawUstrange) (PySem.W.mg_of X G a_lawUstrange) G__law_pick
  have G__law_made := h_lawUmade (P := l.prog) (w := w) (base := base) (Z := ZK K []) (fun_mk (st := s_lawUmade) l_lawUmade d_lawUmade k_lawUmade) (PySem.W.mg_of X G a_lawUmade) E_InvalidEdge E_InvalidGraph E_InvalidLines E_InvalidMoves E_InvalidNumber E_InvalidPasses E_InvalidRotation E_InvalidText E_InvalidTriangle E_InvalidVertex E_TooMany E0_LinkError
  have G__law_is_plain := h_lawUisUplain (P := l.prog) (w := w) (base := base) (Z := ZK K []) (fun_mk (st := s_lawUisUplain) l_lawUisUplain d_lawUisUplain k_lawUisUplain) (PySem.W.mg_of X G a_lawUisUplain) z_ArithmeticError z_LookupError z_TypeError z_ValueError z_isinstance M_LinkError XE MT_LookupError_TypeError_ArithmeticError MT_ValueError
  have G__law_is_caught := h_lawUisUcaught (P := l.prog) (w := w) (base := base) (Z := ZK K []) (fun_mk (st := s_lawUisUcaught) l_lawUisUcaught d_lawUisUcaught k_lawUisUcaught) (PySem.W.mg_of X G a_lawUisUcaught) z_ValueError z_isinstance z_repr E_InvalidGraph E_InvalidText E_TooMany M_LinkError XE MT_ValueError
  have G__law_is_of := h_lawUisUof (P := l.prog) (w := w) (base := base) (Z := ZK K []) (fun_mk (st := s_lawUisUof) l_lawUisUof d_lawUisUof k_lawUisUof) (PySem.W.mg_of X G a_lawUisUof) z_isinstance M_InvalidEdge M_InvalidGraph M_InvalidLines M_InvalidMoves M_InvalidNumber M_InvalidPasses M_InvalidRotation M_InvalidText M_InvalidTriangle M_InvalidVertex M_LinkError M_TooMany XE
  have G__law_right := h_lawUright (P := l.prog) (w := w) (base := base) (Z := ZK K []) (fun_mk (st := s_lawUright) l_lawUright d_lawUright k_lawUright) (PySem.W.mg_of X G a_lawUright) z_range z_repr XE G__law_strange G__law_made G__law_is_of G__law_is_plain G__law_is_caught
  have G__law_well := h_lawUwell (P := l.prog) (w := w) (base := base) (Z := ZK K []) (fun_mk (st := s_lawUwell) l_lawUwell d_lawUwell k_lawUwell) (PySem.W.mg_of X G a_lawUwell) z_abs z_int z_len
  have G_law := h_law (P := l.prog) (w := w) (base := base) (Z := ZK K []) (fun_mk (st := s_law) l_law d_law k_law) (PySem.W.mg_of X G a_law) z_len z_max z_min z_range G__law_right G__law_well
  exact G_law
theorem walk {l : PySem.W.OpenLaw} {q : Program} {loose : List Str} {XP : (Str → Option Value) → Heap → Prop} {YP : World → Heap → Prop} {d : DefRec} {K : Params → PySem.W.Frag} (hn : l.most = some 63) (hdf : d.params.defaults = []) (hd : d.name = "law")
    (hY : ∀ (w : World) (h : Heap), YP w h → (K w.params).In h) (htl : ∀ j ∈ ([] : List Nat), ((PyProof.Rows.recsOf q).find? fun e => e.name == lamDef j).isSome = true) (hno : ∀ (w : World), ∀ j ∈ ([] : List Nat), noTabB (K w.params) j = true)
    (F : ∀ (w : World) (mg : Str → Option Value) (h : Heap), (K w.params).In h → h.Ns mainGlobals mg → ∀ base : Heap, TabF (K w.params) mg base [] → Has l.prog w (K w.params) mg base 5 "law" ["script"] (ZK (K w.params) []) [.fz] 9 F_law) :
    PySem.W.WalkO q loose XP YP l.row.toRowW d [] (fun f vs => PySem.call f vs) :=
  walk_D [] (n := 63) (k := 5) (x := "script") (F := F_law) hn (by decide) hdf ⟨rfl, by decide, by decide⟩ hY htl (fun w j hj c Q e => noTab_ok (hno w j hj) e) (fun w mg h a b base _ _ tf => hd ▸ F w mg h a b base tf) law_true
end Lk
open PySem PySem.W PyProof.Rows
set_option maxRecDepth 100000 in
set_option maxHeartbeats 0 in
theorem PySem.Challenge.cw_linkless_k01_errors_each_of_its_own_holds : PySem.Challenge.rw_linkless_k01_errors_each_of_its_own.Holds := by
  w_on; o_law; k_head; (case hw => w_witness2)
  k_fill
  refine Lk.walk (l := PySem.Challenge.rw_linkless_k01_errors_each_of_its_own) rfl rfl rfl (fun w h Y => PySem.W.kIn_of Y) ?htl ?hno ?F
  case htl => exact fun _ h => nomatch h
  case hno => exact fun _ _ h => nomatch h
  case F =>
    intro w mg h KX G
    refine' Lk.all_mk KX G ?a_lawUdraw ?l_lawUdraw ?d_lawUdraw ?k_lawUdraw ?a_lawUpick ?l_lawUpick ?d_lawUpick ?k_lawUpick ?a_lawUstrange ?l_lawUstrange ?d_lawUstrange ?k_lawUstrange ?a_lawUmade ?l_lawUmade ?d_lawUmade ?k_lawUmade ?a_lawUisUplain ?l_lawUisUplain ?d_lawUisUplain ?k_lawUisUplain ?a_lawUisUcaught ?l_lawUisUcaught ?d_lawUisUcaught ?k_lawUisUcaught ?a_lawUisUof ?l_lawUisUof ?d_lawUisUof ?k_lawUisUof ?a_lawUright ?l_lawUright ?d_lawUright ?k_lawUright ?a_lawUwell ?l_lawUwell ?d_lawUwell ?k_lawUwell ?a_law ?l_law ?d_law ?k_law ?z_ArithmeticError ?z_LookupError ?z_TypeError ?z_ValueError ?z_abs ?z_int ?z_isinstance ?z_len ?z_max ?z_min ?z_range ?z_repr ?z_super ?ca_InvalidEdge ?ca_InvalidGraph ?ca_InvalidLines ?ca_InvalidMoves ?ca_InvalidNumber ?ca_InvalidPasses ?ca_InvalidRotation ?ca_InvalidText ?ca_InvalidTriangle ?ca_InvalidVertex ?ca_LinkError ?ca_TooMany ?ci_InvalidEdge ?cl_InvalidEdge ?cb_InvalidEdge ?cs_InvalidEdge ?ch_InvalidEdge ?cg_InvalidEdge ?co_InvalidEdge ?cu_InvalidEdge ?cv_InvalidEdge ?cw_InvalidEdge ?cx_InvalidEdge ?cy_InvalidEdge ?cp_InvalidEdge ?cq_InvalidEdge ?ck_InvalidEdge ?cf_InvalidEdge ?ci_InvalidGraph ?cl_InvalidGraph ?cb_InvalidGraph ?cs_InvalidGraph ?ch_InvalidGraph ?cg_InvalidGraph ?co_InvalidGraph ?cu_InvalidGraph ?cv_InvalidGraph ?cw_InvalidGraph ?cx_InvalidGraph ?cy_InvalidGraph ?cp_InvalidGraph ?cq_InvalidGraph ?ck_InvalidGraph ?cf_InvalidGraph ?ci_InvalidLines ?cl_InvalidLines ?cb_InvalidLines ?cs_InvalidLines ?ch_InvalidLines ?cg_InvalidLines ?co_InvalidLines ?cu_InvalidLines ?cv_InvalidLines ?cw_InvalidLines ?cx_InvalidLines ?cy_InvalidLines ?cp_InvalidLines ?cq_InvalidLines ?ck_InvalidLines ?cf_InvalidLines ?ci_InvalidMoves ?cl_InvalidMoves ?cb_InvalidMoves ?cs_InvalidMoves ?ch_InvalidMoves ?cg_InvalidMoves ?co_InvalidMoves ?cu_InvalidMoves ?cv_InvalidMoves ?cw_InvalidMoves ?cx_InvalidMoves ?cy_InvalidMoves ?cp_InvalidMoves ?cq_InvalidMoves ?ck_InvalidMoves ?cf_InvalidMoves ?ci_InvalidNumber ?cl_InvalidNumber ?cb_InvalidNumber ?cs_InvalidNumber ?ch_InvalidNumber ?cg_InvalidNumber ?co_InvalidNumber ?cu_InvalidNumber ?cv_InvalidNumber ?cw_InvalidNumber ?cx_InvalidNumber ?cy_InvalidNumber ?cp_InvalidNumber ?cq_InvalidNumber ?ck_InvalidNumber ?cf_InvalidNumber ?ci_InvalidPasses ?cl_InvalidPasses ?cb_InvalidPasses ?cs_InvalidPasses ?ch_InvalidPasses ?cg_InvalidPasses ?co_InvalidPasses ?cu_InvalidPasses ?cv_InvalidPasses ?cw_InvalidPasses ?cx_InvalidPasses ?cy_InvalidPasses ?cp_InvalidPasses ?cq_InvalidPasses ?ck_InvalidPasses ?cf_InvalidPasses ?ci_InvalidRotation ?cl_InvalidRotation ?cb_InvalidRotation ?cs_InvalidRotation ?ch_InvalidRotation ?cg_InvalidRotation ?co_InvalidRotation ?cu_InvalidRotation ?cv_InvalidRotation ?cw_InvalidRotation ?cx_InvalidRotation ?cy_InvalidRotation ?cp_InvalidRotation ?cq_InvalidRotation ?ck_InvalidRotation ?cf_InvalidRotation ?ci_InvalidText ?cl_InvalidText ?cb_InvalidText ?cs_InvalidText ?ch_InvalidText ?cg_InvalidText ?co_InvalidText ?cu_InvalidText ?cv_InvalidText ?cw_InvalidText ?cx_InvalidText ?cy_InvalidText ?cp_InvalidText ?cq_InvalidText ?ck_InvalidText ?cf_InvalidText ?ci_InvalidTriangle ?cl_InvalidTriangle ?cb_InvalidTriangle ?cs_InvalidTriangle ?ch_InvalidTriangle ?cg_InvalidTriangle ?co_InvalidTriangle ?cu_InvalidTriangle ?cv_InvalidTriangle ?cw_InvalidTriangle ?cx_InvalidTriangle ?cy_InvalidTriangle ?cp_InvalidTriangle ?cq_InvalidTriangle ?ck_InvalidTriangle ?cf_InvalidTriangle ?ci_InvalidVertex ?cl_InvalidVertex ?cb_InvalidVertex ?cs_InvalidVertex ?ch_InvalidVertex ?cg_InvalidVertex ?co_InvalidVertex ?cu_InvalidVertex ?cv_InvalidVertex ?cw_InvalidVertex ?cx_InvalidVertex ?cy_InvalidVertex ?cp_InvalidVertex ?cq_InvalidVertex ?ck_InvalidVertex ?cf_InvalidVertex ?ci_TooMany ?cl_TooMany ?cb_TooMany ?cs_TooMany ?ch_TooMany ?cg_TooMany ?co_TooMany ?cu_TooMany ?cv_TooMany ?cw_TooMany ?cx_TooMany ?cy_TooMany ?cp_TooMany ?cq_TooMany ?ck_TooMany ?cf_TooMany ?cm_InvalidEdge ?cm_InvalidGraph ?cm_InvalidLines ?cm_InvalidMoves ?cm_InvalidNumber ?cm_InvalidPasses ?cm_InvalidRotation ?cm_InvalidText ?cm_InvalidTriangle ?cm_InvalidVertex ?cm_LinkError ?cm_TooMany ?c0_LinkError ?ct_LookupError_TypeError_ArithmeticError ?ct_ValueError ?xe
    case a_lawUdraw => k_is
    case l_lawUdraw => k_is
    case d_lawUdraw => k_is
    case k_lawUdraw => k_is
    case a_lawUpick => k_is
    case l_lawUpick => k_is
    case d_lawUpick => k_is
    case k_lawUpick => k_is
    case a_lawUstrange => k_is
    case l_lawUstrange => k_is
    case d_lawUstrange => k_is
    case k_lawUstrange => k_is
    case a_lawUmade => k_is
    case l_lawUmade => k_is
    case d_lawUmade => k_is
    case k_lawUmade => k_is
    case a_lawUisUplain => k_is
    case l_lawUisUplain => k_is
    case d_lawUisUplain => k_is
    case k_lawUisUplain => k_is
    case a_lawUisUcaught => k_is
    case l_lawUisUcaught => k_is
    case d_lawUisUcaught => k_is
    case k_lawUisUcaught => k_is
    case a_lawUisUof => k_is
    case l_lawUisUof => k_is
    case d_lawUisUof => k_is
    case k_lawUisUof => k_is
    case a_lawUright => k_is
    case l_lawUright => k_is
    case d_lawUright => k_is
    case k_lawUright => k_is
    case a_lawUwell => k_is
    case l_lawUwell => k_is
    case d_lawUwell => k_is
    case k_lawUwell => k_is
    case a_law => k_is
    case l_law => k_is
    case d_law => k_is
    case k_law => k_is
    case z_ArithmeticError => k_is
    case z_LookupError => k_is
    case z_TypeError => k_is
    case z_ValueError => k_is
    case z_abs => k_is
    case z_int => k_is
    case z_isinstance => k_is
    case z_len => k_is
    case z_max => k_is
    case z_min => k_is
    case z_range => k_is
    case z_repr => k_is
    case z_super => k_is
    case ca_InvalidEdge => k_is
    case ca_InvalidGraph => k_is
    case ca_InvalidLines => k_is
    case ca_InvalidMoves => k_is
    case ca_InvalidNumber => k_is
    case ca_InvalidPasses => k_is
    case ca_InvalidRotation => k_is
    case ca_InvalidText => k_is
    case ca_InvalidTriangle => k_is
    case ca_InvalidVertex => k_is
    case ca_LinkError => k_is
    case ca_TooMany => k_is
    case ci_InvalidEdge => k_is
    case cl_InvalidEdge => k_is
    case cb_InvalidEdge => kernel_rfl
    case cs_InvalidEdge => exact ⟨rfl, rfl, rfl, rfl, rfl, rfl, rfl, by decide +kernel, by decide +kernel, by decide +kernel⟩
    case ch_InvalidEdge => rfl
    case cg_InvalidEdge => rfl
    case co_InvalidEdge => rfl
    case cu_InvalidEdge => exact fun us hu => match us, hu with | [_, _], _ => rfl
    case cv_InvalidEdge => intro L; rfl
    case cw_InvalidEdge => intro L; rfl
    case cx_InvalidEdge => intro L; rfl
    case cy_InvalidEdge => intro L; rfl
    case cp_InvalidEdge => decide
    case cq_InvalidEdge => decide
    case ck_InvalidEdge => intro u y; rfl
    case cf_InvalidEdge => rfl
    case ci_InvalidGraph => k_is
    case cl_InvalidGraph => k_is
    case cb_InvalidGraph => kernel_rfl
    case cs_InvalidGraph => exact ⟨rfl, rfl, rfl, rfl, rfl, rfl, rfl, by decide +kernel, by decide +kernel, by decide +kernel⟩
    case ch_InvalidGraph => rfl
    case cg_InvalidGraph => rfl
    case co_InvalidGraph => rfl
    case cu_InvalidGraph => exact fun us hu => match us, hu with | [_, _], _ => rfl
    case cv_InvalidGraph => intro L; rfl
    case cw_InvalidGraph => intro L; rfl
    case cx_InvalidGraph => intro L; rfl
    case cy_InvalidGraph => intro L; rfl
    case cp_InvalidGraph => decide
    case cq_InvalidGraph => decide
    case ck_InvalidGraph => intro u y; rfl
    case cf_InvalidGraph => rfl
    case ci_InvalidLines => k_is
    case cl_InvalidLines => k_is
    case cb_InvalidLines => kernel_rfl
    case cs_InvalidLines => exact ⟨rfl, rfl, rfl, rfl, rfl, rfl, rfl, by decide +kernel, by decide +kernel, by decide +kernel⟩
    case ch_InvalidLines => rfl
    case cg_InvalidLines => rfl
    case co_InvalidLines => rfl
    case cu_InvalidLines => exact fun us hu => match us, hu with | [_, _], _ => rfl
    case cv_InvalidLines => intro L; rfl
    case cw_InvalidLines => intro L; rfl
    case cx_InvalidLines => intro L; rfl
    case cy_InvalidLines => intro L; rfl
    case cp_InvalidLines => decide
    case cq_InvalidLines => decide
    case ck_InvalidLines => intro u y; rfl
    case cf_InvalidLines => rfl
    case ci_InvalidMoves => k_is
    case cl_InvalidMoves => k_is
    case cb_InvalidMoves => kernel_rfl
    case cs_InvalidMoves => exact ⟨rfl, rfl, rfl, rfl, rfl, rfl, rfl, by decide +kernel, by decide +kernel, by decide +kernel⟩
    case ch_InvalidMoves => rfl
    case cg_InvalidMoves => rfl
    case co_InvalidMoves => rfl
    case cu_InvalidMoves => exact fun us hu => match us, hu with | [_, _], _ => rfl
    case cv_InvalidMoves => intro L; rfl
    case cw_InvalidMoves => intro L; rfl
    case cx_InvalidMoves => intro L; rfl
    case cy_InvalidMoves => intro L; rfl
    case cp_InvalidMoves => decide
    case cq_InvalidMoves => decide
    case ck_InvalidMoves => intro u y; rfl
    case cf_InvalidMoves => rfl
    case ci_InvalidNumber => k_is
    case cl_InvalidNumber => k_is
    case cb_InvalidNumber => kernel_rfl
    case cs_InvalidNumber => exact ⟨rfl, rfl, rfl, rfl, rfl, rfl, rfl, by decide +kernel, by decide +kernel, by decide +kernel⟩
    case ch_InvalidNumber => rfl
    case cg_InvalidNumber => rfl
    case co_InvalidNumber => rfl
    case cu_InvalidNumber => exact fun us hu => match us, hu with | [_, _], _ => rfl
    case cv_InvalidNumber => intro L; rfl
    case cw_InvalidNumber => intro L; rfl
    case cx_InvalidNumber => intro L; rfl
    case cy_InvalidNumber => intro L; rfl
    case cp_InvalidNumber => decide
    case cq_InvalidNumber => decide
    case ck_InvalidNumber => intro u y; rfl
    case cf_InvalidNumber => rfl
    case ci_InvalidPasses => k_is
    case cl_InvalidPasses => k_is
    case cb_InvalidPasses => kernel_rfl
    case cs_InvalidPasses => exact ⟨rfl, rfl, rfl, rfl, rfl, rfl, rfl, by decide +kernel, by decide +kernel, by decide +kernel⟩
    case ch_InvalidPasses => rfl
    case cg_InvalidPasses => rfl
    case co_InvalidPasses => rfl
    case cu_InvalidPasses => exact fun us hu => match us, hu with | [_, _], _ => rfl
    case cv_InvalidPasses => intro L; rfl
    case cw_InvalidPasses => intro L; rfl
    case cx_InvalidPasses => intro L; rfl
    case cy_InvalidPasses => intro L; rfl
    case cp_InvalidPasses => decide
    case cq_InvalidPasses => decide
    case ck_InvalidPasses => intro u y; rfl
    case cf_InvalidPasses => rfl
    case ci_InvalidRotation => k_is
    case cl_InvalidRotation => k_is
    case cb_InvalidRotation => kernel_rfl
    case cs_InvalidRotation => exact ⟨rfl, rfl, rfl, rfl, rfl, rfl, rfl, by decide +kernel, by decide +kernel, by decide +kernel⟩
    case ch_InvalidRotation => rfl
    case cg_InvalidRotation => rfl
    case co_InvalidRotation => rfl
    case cu_InvalidRotation => exact fun us hu => match us, hu with | [_, _], _ => rfl
    case cv_InvalidRotation => intro L; rfl
    case cw_InvalidRotation => intro L; rfl
    case cx_InvalidRotation => intro L; rfl
    case cy_InvalidRotation => intro L; rfl
    case cp_InvalidRotation => decide
    case cq_InvalidRotation => decide
    case ck_InvalidRotation => intro u y; rfl
    case cf_InvalidRotation => rfl
    case ci_InvalidText => k_is
    case cl_InvalidText => k_is
    case cb_InvalidText => kernel_rfl
    case cs_InvalidText => exact ⟨rfl, rfl, rfl, rfl, rfl, rfl, rfl, by decide +kernel, by decide +kernel, by decide +kernel⟩
    case ch_InvalidText => rfl
    case cg_InvalidText => rfl
    case co_InvalidText => rfl
    case cu_InvalidText => exact fun us hu => match us, hu with | [_, _], _ => rfl
    case cv_InvalidText => intro L; rfl
    case cw_InvalidText => intro L; rfl
    case cx_InvalidText => intro L; rfl
    case cy_InvalidText => intro L; rfl
    case cp_InvalidText => decide
    case cq_InvalidText => decide
    case ck_InvalidText => intro u y; rfl
    case cf_InvalidText => rfl
    case ci_InvalidTriangle => k_is
    case cl_InvalidTriangle => k_is
    case cb_InvalidTriangle => kernel_rfl
    case cs_InvalidTriangle => exact ⟨rfl, rfl, rfl, rfl, rfl, rfl, rfl, by decide +kernel, by decide +kernel, by decide +kernel⟩
    case ch_InvalidTriangle => rfl
    case cg_InvalidTriangle => rfl
    case co_InvalidTriangle => rfl
    case cu_InvalidTriangle => exact fun us hu => match us, hu with | [_, _], _ => rfl
    case cv_InvalidTriangle => intro L; rfl
    case cw_InvalidTriangle => intro L; rfl
    case cx_InvalidTriangle => intro L; rfl
    case cy_InvalidTriangle => intro L; rfl
    case cp_InvalidTriangle => decide
    case cq_InvalidTriangle => decide
    case ck_InvalidTriangle => intro u y; rfl
    case cf_InvalidTriangle => rfl
    case ci_InvalidVertex => k_is
    case cl_InvalidVertex => k_is
    case cb_InvalidVertex => kernel_rfl
    case cs_InvalidVertex => exact ⟨rfl, rfl, rfl, rfl, rfl, rfl, rfl, by decide +kernel, by decide +kernel, by decide +kernel⟩
    case ch_InvalidVertex => rfl
    case cg_InvalidVertex => rfl
    case co_InvalidVertex => rfl
    case cu_InvalidVertex => exact fun us hu => match us, hu with | [_, _], _ => rfl
    case cv_InvalidVertex => intro L; rfl
    case cw_InvalidVertex => intro L; rfl
    case cx_InvalidVertex => intro L; rfl
    case cy_InvalidVertex => intro L; rfl
    case cp_InvalidVertex => decide
    case cq_InvalidVertex => decide
    case ck_InvalidVertex => intro u y; rfl
    case cf_InvalidVertex => rfl
    case ci_TooMany => k_is
    case cl_TooMany => k_is
    case cb_TooMany => kernel_rfl
    case cs_TooMany => exact ⟨rfl, rfl, rfl, rfl, rfl, rfl, rfl, by decide +kernel, by decide +kernel, by decide +kernel⟩
    case ch_TooMany => rfl
    case cg_TooMany => rfl
    case co_TooMany => rfl
    case cu_TooMany => exact fun us hu => match us, hu with | [_, _], _ => rfl
    case cv_TooMany => intro L; rfl
    case cw_TooMany => intro L; rfl
    case cx_TooMany => intro L; rfl
    case cy_TooMany => intro L; rfl
    case cp_TooMany => decide
    case cq_TooMany => decide
    case ck_TooMany => intro u y; rfl
    case cf_TooMany => rfl
    case cm_InvalidEdge => kernel_rfl
    case cm_InvalidGraph => kernel_rfl
    case cm_InvalidLines => kernel_rfl
    case cm_InvalidMoves => kernel_rfl
    case cm_InvalidNumber => kernel_rfl
    case cm_InvalidPasses => kernel_rfl
    case cm_InvalidRotation => kernel_rfl
    case cm_InvalidText => kernel_rfl
    case cm_InvalidTriangle => kernel_rfl
    case cm_InvalidVertex => kernel_rfl
    case cm_LinkError => kernel_rfl
    case cm_TooMany => kernel_rfl
    case c0_LinkError => kernel_rfl
    case ct_LookupError_TypeError_ArithmeticError => kernel_rfl
    case ct_ValueError => kernel_rfl
    case xe => kernel_rfl
