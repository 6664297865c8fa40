import PyProof.Rows.All
import Wide.All
import OpenK.AllK
import Wide.FinOn
import HandS.ForMost
import HandS.Flow
import HandS.Conv
import HandS.DictComp
import HandS.TupAny
import HandS.IsInst
import HandS.SortInts
import HandS.SetFor
import HandS.Strs
import KE.KeyNested
import KE.KDictWalk
import HandS.HeadHook3
import HandS.Style
import HandS.Deep
import HandS.NoneIn
import PyProof.Rows.TupTab
import PyProof.DictMoreH
import KE.KDictKeyed
import HandS.TupLen
import KE.KDictCopyH
import HandS.TupSets
import KE.SortData
import HandS.Zip
import PySem.Challenge.RW_sayingsdown_k35_whole_terms_in_worlds
set_option Elab.async false
set_option linter.all false
set_option maxRecDepth 100000
/-! SD1: values as trees, objects in a store; what stands for what. -/
namespace SD
open PySem PySem.Spec PyProof.Rows L2

/-- the written part that stays, and the world -/
structure KW where
  F : PySem.W.Frag
  w : World
instance : Coe KW PySem.W.Frag := ⟨KW.F⟩
abbrev kW (X : Cx) : KW := ⟨X.K, X.w⟩
/-- values: tuples are trees, what can change is a number of the store -/
inductive D where
  | non | bl (b : Bool) | int (i : Int) | str (s : Str) | tup (xs : List D) | frz (xs : List D) | ref (n : Nat)

mutual
def D.beq : D → D → Bool
  | .non, .non => true
  | .bl a, .bl b => a == b
  | .int a, .int b => a == b
  | .str a, .str b => decide (a = b)
  | .tup a, .tup b => D.beqs a b
  | .frz a, .frz b => D.beqs a b
  | .ref a, .ref b => a == b
  | _, _ => false
def D.beqs : List D → List D → Bool
  | [], [] => true
  | a :: as, b :: bs => D.beq a b && D.beqs as bs
  | _, _ => false
end
mutual
theorem D.beq_self : ∀ a : D, D.beq a a = true
  | .non => rfl
  | .bl a => by simp [D.beq]
  | .int a => by simp [D.beq]
  | .str a => by simp [D.beq]
  | .tup a => by rw [D.beq]; exact D.beqs_self a
  | .frz a => by rw [D.beq]; exact D.beqs_self a
  | .ref a => by simp [D.beq]
theorem D.beqs_self : ∀ a : List D, D.beqs a a = true
  | [] => rfl
  | a :: as => by rw [D.beqs, D.beq_self a, D.beqs_self as]; rfl
end
mutual
theorem D.eq_of_beq : ∀ a b : D, D.beq a b = true → a = b
  | .non, b, h => by cases b <;> first | rfl | (simp [D.beq] at h)
  | .bl a, b, h => by cases b <;> first | (simp [D.beq] at h; done) | (simp only [D.beq, beq_iff_eq] at h; rw [h])
  | .int a, b, h => by cases b <;> first | (simp [D.beq] at h; done) | (simp only [D.beq, beq_iff_eq] at h; rw [h])
  | .str a, b, h => by cases b <;> first | (simp [D.beq] at h; done) | (simp only [D.beq, decide_eq_true_eq] at h; rw [h])
  | .ref a, b, h => by cases b <;> first | (simp [D.beq] at h; done) | (simp only [D.beq, beq_iff_eq] at h; rw [h])
  | .tup a, b, h => by
    cases b <;> first | (simp [D.beq] at h; done) | skip
    rename_i b
    simp only [D.beq] at h
    rw [D.eqs_of_beqs a b h]
  | .frz a, b, h => by
    cases b <;> first | (simp [D.beq] at h; done) | skip
    rename_i b
    simp only [D.beq] at h
    rw [D.eqs_of_beqs a b h]
theorem D.eqs_of_beqs : ∀ a b : List D, D.beqs a b = true → a = b
  | [], b, h => by cases b <;> first | rfl | (simp [D.beqs] at h)
  | a :: as, b, h => by
    cases b with
    | nil => simp [D.beqs] at h
    | cons b bs =>
      simp only [D.beqs, Bool.and_eq_true] at h
      rw [D.eq_of_beq a b h.1, D.eqs_of_beqs as bs h.2]
end
instance : DecidableEq D := fun a b => if h : D.beq a b = true then .isTrue (D.eq_of_beq a b h) else .isFalse fun e => h (by rw [e]; exact D.beq_self b)

/-- a list; a dict by ints and texts; one that is walked; a dict by tuples; one that is walked -/
inductive Cell where
  | lst (xs : List D) | dct (kvs : List (D × D)) | lck (kvs : List (D × D)) | tdc (kvs : List (D × D)) | tlk (kvs : List (D × D))
def Cell.mut : Cell → Bool
  | .lst _ | .dct _ | .tdc _ => true
  | _ => false
abbrev Slots := List (Option D)
abbrev Store := List Cell
def keyD : Key → D
  | .inl i => .int i
  | .inr s => .str s
theorem keyD_inj {a b : Key} (h : keyD a = keyD b) : a = b := by
  cases a <;> cases b <;> simp_all [keyD]

/-- a list that is never written: the script, a list of the written part -/
def FzL (K : KW) (H : Hp) (a : Addr) (xs : List V) : Prop :=
  (∃ o, H a = some (.frz o (.lst xs))) ∨ ((∀ H' : Hp, SqL K H' a xs))
theorem FzL.sq {K : KW} {H : Hp} {a : Addr} {xs : List V} (h : FzL K H a xs) : SqL K H a xs := by
  rcases h with ⟨o, h⟩ | h
  · exact .inl (.inr ⟨o, h⟩)
  · exact h H

mutual
inductive RD (K : KW) (m : List Addr) (H : Hp) : D → V → Prop
  | non : RD K m H .non .non
  | bl (b : Bool) : RD K m H (.bl b) (.bl b)
  | int (i : Int) : RD K m H (.int i) (.int i)
  | str (x : Str) : RD K m H (.str x) (.str x)
  | tup {p : Addr} {xs : List D} {vs : List V} : SqT K H p vs → vs.length ≤ sizeLine → RDs K m H xs vs → RD K m H (.tup xs) (.ref p)
  | frz {p : Addr} {xs : List D} {vs : List V} : FzL K H p vs → vs.length ≤ sizeLine → RDs K m H xs vs → RD K m H (.frz xs) (.ref p)
  | ref {n : Nat} {p : Addr} : m[n]? = some p → RD K m H (.ref n) (.ref p)
inductive RDs (K : KW) (m : List Addr) (H : Hp) : List D → List V → Prop
  | nil : RDs K m H [] []
  | cons {d : D} {v : V} {ds : List D} {vs : List V} : RD K m H d v → RDs K m H ds vs → RDs K m H (d :: ds) (v :: vs)
end

/-- from one state to a later one -/
structure Grow (m : List Addr) (H : Hp) (m' : List Addr) (H' : Hp) : Prop where
  pre : m <+: m'
  tups : ∀ a xs, H a = some (.tup xs) → H' a = some (.tup xs)
  frzs : ∀ a o u, H a = some (.frz o u) → H' a = some (.frz o u)
theorem Grow.refl (m : List Addr) (H : Hp) : Grow m H m H := ⟨List.prefix_refl m, fun _ _ h => h, fun _ _ _ h => h⟩
theorem Grow.trans {m1 m2 m3 : List Addr} {H1 H2 H3 : Hp} (a : Grow m1 H1 m2 H2) (b : Grow m2 H2 m3 H3) : Grow m1 H1 m3 H3 :=
  ⟨a.pre.trans b.pre, fun c xs h => b.tups c xs (a.tups c xs h), fun c o u h => b.frzs c o u (a.frzs c o u h)⟩
theorem Grow.sqT {K : KW} {m m' : List Addr} {H H' : Hp} (g : Grow m H m' H') {a : Addr} {xs : List V} (h : SqT K H a xs) : SqT K H' a xs := by
  rcases h with (h | ⟨o, h⟩) | h
  · exact .inl (.inl (g.tups _ _ h))
  · exact .inl (.inr ⟨o, g.frzs _ _ _ h⟩)
  · exact .inr h
theorem Grow.fzL {K : KW} {m m' : List Addr} {H H' : Hp} (g : Grow m H m' H') {a : Addr} {xs : List V} (h : FzL K H a xs) : FzL K H' a xs := by
  rcases h with ⟨o, h⟩ | h
  · exact .inl ⟨o, g.frzs _ _ _ h⟩
  · exact .inr h
theorem Grow.at {m m' : List Addr} {H H' : Hp} (g : Grow m H m' H') {n : Nat} {p : Addr} (h : m[n]? = some p) : m'[n]? = some p := by
  obtain ⟨t, rfl⟩ := g.pre
  rw [List.getElem?_append_left (List.getElem?_eq_some_iff.mp h).1]
  exact h
/-- .. but for dicts that were locked -/
structure Grow0 (m : List Addr) (H : Hp) (m' : List Addr) (H' : Hp) : Prop where
  pre : m <+: m'
  tups : ∀ a xs, H a = some (.tup xs) → H' a = some (.tup xs)
  frzs : ∀ a o u, (∀ kw, u ≠ .dK kw) → (∀ φ, u ≠ .ext φ) → H a = some (.frz o u) → H' a = some (.frz o u)
theorem Grow.weak {m m' : List Addr} {H H' : Hp} (g : Grow m H m' H') : Grow0 m H m' H' := ⟨g.pre, g.tups, fun a o u _ _ h => g.frzs a o u h⟩
theorem Grow0.sqT {K : KW} {m m' : List Addr} {H H' : Hp} (g : Grow0 m H m' H') {a : Addr} {xs : List V} (h : SqT K H a xs) : SqT K H' a xs := by
  rcases h with (h | ⟨o, h⟩) | h
  · exact .inl (.inl (g.tups _ _ h))
  · exact .inl (.inr ⟨o, g.frzs _ _ _ (fun _ z => by cases z) (fun _ z => by cases z) h⟩)
  · exact .inr h
theorem Grow0.fzL {K : KW} {m m' : List Addr} {H H' : Hp} (g : Grow0 m H m' H') {a : Addr} {xs : List V} (h : FzL K H a xs) : FzL K H' a xs := by
  rcases h with ⟨o, h⟩ | h
  · exact .inl ⟨o, g.frzs _ _ _ (fun _ z => by cases z) (fun _ z => by cases z) h⟩
  · exact .inr h
theorem Grow0.at {m m' : List Addr} {H H' : Hp} (g : Grow0 m H m' H') {n : Nat} {p : Addr} (h : m[n]? = some p) : m'[n]? = some p := by
  obtain ⟨t, rfl⟩ := g.pre
  rw [List.getElem?_append_left (List.getElem?_eq_some_iff.mp h).1]
  exact h
section
variable {K : KW} {m m' : List Addr} {H H' : Hp}
mutual
theorem RD.mono (g : Grow0 m H m' H') : ∀ (d : D) (v : V), RD K m H d v → RD K m' H' d v
  | .non, _, h => by cases h; exact .non
  | .bl b, _, h => by cases h; exact .bl b
  | .int b, _, h => by cases h; exact .int b
  | .str b, _, h => by cases h; exact .str b
  | .tup xs, _, h => by
    cases h with
    | tup a z b => exact .tup (g.sqT a) z (RDs.mono g xs _ b)
  | .frz xs, _, h => by
    cases h with
    | frz a z b => exact .frz (g.fzL a) z (RDs.mono g xs _ b)
  | .ref n, _, h => by
    cases h with
    | ref a => exact .ref (g.at a)
theorem RDs.mono (g : Grow0 m H m' H') : ∀ (d : List D) (v : List V), RDs K m H d v → RDs K m' H' d v
  | [], _, h => by cases h; exact .nil
  | d :: ds, _, h => by
    cases h with
    | cons a b => exact .cons (RD.mono g d _ a) (RDs.mono g ds _ b)
end
theorem RD.up {d : D} {v : V} (r : RD K m H d v) (g : Grow m H m' H') : RD K m' H' d v := RD.mono g.weak d v r
theorem RDs.up {d : List D} {v : List V} (r : RDs K m H d v) (g : Grow m H m' H') : RDs K m' H' d v := RDs.mono g.weak d v r
theorem RDs.length : ∀ {xs : List D} {vs : List V}, RDs K m H xs vs → xs.length = vs.length
  | _, _, .nil => rfl
  | _, _, .cons _ t => congrArg (· + 1) (RDs.length t)
theorem RDs.get : ∀ {xs : List D} {vs : List V} {i : Nat} {d : D}, RDs K m H xs vs → xs[i]? = some d → ∃ v, vs[i]? = some v ∧ RD K m H d v
  | _, _, _, _, .nil, e => by simp at e
  | _, _, 0, _, .cons r _, e => by simp at e; subst e; exact ⟨_, rfl, r⟩
  | _, _, i + 1, d, .cons _ t, e => by
    obtain ⟨v, h1, h2⟩ := RDs.get (i := i) (d := d) t (by simpa using e)
    exact ⟨v, by simpa using h1, h2⟩
theorem RDs.get' : ∀ {xs : List D} {vs : List V} {i : Nat} {v : V}, RDs K m H xs vs → vs[i]? = some v → ∃ d, xs[i]? = some d ∧ RD K m H d v
  | _, _, _, _, .nil, e => by simp at e
  | _, _, 0, _, .cons r _, e => by simp at e; subst e; exact ⟨_, rfl, r⟩
  | _, _, i + 1, d, .cons _ t, e => by
    obtain ⟨v, h1, h2⟩ := RDs.get' (i := i) (v := d) t (by simpa using e)
    exact ⟨v, by simpa using h1, h2⟩
theorem RDs.append : ∀ {xs ys : List D} {vs ws : List V}, RDs K m H xs vs → RDs K m H ys ws → RDs K m H (xs ++ ys) (vs ++ ws)
  | _, _, _, _, .nil, s => s
  | _, _, _, _, .cons r t, s => .cons r (RDs.append t s)
theorem RDs.take : ∀ {xs : List D} {vs : List V} (n : Nat), RDs K m H xs vs → RDs K m H (xs.take n) (vs.take n)
  | _, _, 0, _ => by simpa using RDs.nil
  | _, _, n + 1, .nil => .nil
  | _, _, n + 1, .cons r t => .cons r (RDs.take n t)
theorem RDs.drop : ∀ {xs : List D} {vs : List V} (n : Nat), RDs K m H xs vs → RDs K m H (xs.drop n) (vs.drop n)
  | _, _, 0, r => r
  | _, _, n + 1, .nil => .nil
  | _, _, n + 1, .cons r t => RDs.drop n t
theorem RDs.set {d : D} {v : V} (r : RD K m H d v) : ∀ {xs : List D} {vs : List V} (n : Nat), RDs K m H xs vs → RDs K m H (xs.set n d) (vs.set n v)
  | _, _, _, .nil => .nil
  | _, _, 0, .cons _ t => .cons r t
  | _, _, n + 1, .cons q t => .cons q (RDs.set r n t)
theorem RDs.ints : ∀ {ns : List Int} {vs : List V}, RDs K m H (ns.map D.int) vs → vs = ns.map V.int
  | [], _, h => by cases h; rfl
  | n :: ns, _, h => by
    cases h with
    | cons a b => cases a; rw [RDs.ints b]; rfl
theorem RDs.of_ints : ∀ (ns : List Int), RDs K m H (ns.map D.int) (ns.map V.int)
  | [] => .nil
  | n :: ns => .cons (.int n) (RDs.of_ints ns)
theorem RDs.of_get : ∀ {xs : List D} {vs : List V}, xs.length = vs.length → (∀ (i : Nat) d v, xs[i]? = some d → vs[i]? = some v → RD K m H d v) → RDs K m H xs vs
  | [], [], _, _ => .nil
  | [], _ :: _, h, _ => by simp at h
  | _ :: _, [], h, _ => by simp at h
  | x :: xs, v :: vs, h, f => .cons (f 0 x v rfl rfl) (RDs.of_get (by simpa using h) fun i d w a b => f (i + 1) d w (by simpa using a) (by simpa using b))
end

/- a key of tuples -/
mutual
def keyN : NestedKey → D
  | .none => .non
  | .num i => .int i
  | .text x => .str x
  | .tup ks => .tup (keyNs ks)
def keyNs : List NestedKey → List D
  | [] => []
  | k :: ks => keyN k :: keyNs ks
end
/-- at p stands a dict whose keys are tuples; where the tuples themselves stand is told beside it -/
def tdOk (w : World) (p : Addr) (es : List (NestedKey × Addr × V)) (h : Heap) : Prop :=
  (p == sysModules) = false ∧ ∃ xs : List (NestedKey × Addr × Value), Paired (fun e x => e.1 = x.1 ∧ e.2.1 = x.2.1 ∧ RelV e.2.2 x.2.2) es xs ∧
    ∃ o des ep, h.get? p = some o ∧ o.ExactDict ∧ o.data = .dict des ep ∧ des.toList = xs.map (fun x => (⟨x.1.hash w, .ref x.2.1, x.2.2⟩ : DictEntry)) ∧ (xs.map (·.1)).Nodup
abbrev tdO (w : World) (p : Addr) (es : List (NestedKey × Addr × V)) : HO := .ext (tdOk w p es)
abbrev RKT (K : KW) (m : List Addr) (H : Hp) : List (D × D) → List (NestedKey × Addr × V) → Prop := Paired fun p e => p.1 = keyN e.1 ∧ e.1.depth ≤ 8 ∧ RD K m H p.1 (.ref e.2.1) ∧ RD K m H p.2 e.2.2
/-- the pairs of a dict -/
abbrev RKV (K : KW) (m : List Addr) (H : Hp) : List (D × D) → List (Key × V) → Prop := Paired fun p q => p.1 = keyD q.1 ∧ RD K m H p.2 q.2
inductive RCell (K : KW) (m : List Addr) (H : Hp) (p : Addr) : Cell → Option HO → Prop
  | lst {xs : List D} {vs : List V} : xs.length ≤ sizeLine → RDs K m H xs vs → RCell K m H p (.lst xs) (some (.lst vs))
  | dct {kvs : List (D × D)} {kw : List (Key × V)} : kvs.length ≤ sizeLine → RKV K m H kvs kw → RCell K m H p (.dct kvs) (some (.dK kw))
  | lck {kvs : List (D × D)} {kw : List (Key × V)} {o : Obj} : kvs.length ≤ sizeLine → RKV K m H kvs kw → RCell K m H p (.lck kvs) (some (.frz o (.dK kw)))
  | tdc {kvs : List (D × D)} {es : List (NestedKey × Addr × V)} : kvs.length ≤ sizeLine → RKT K m H kvs es → RCell K m H p (.tdc kvs) (some (tdO K.w p es))
  | tlk {kvs : List (D × D)} {es : List (NestedKey × Addr × V)} {o : Obj} : kvs.length ≤ sizeLine → RKT K m H kvs es → RCell K m H p (.tlk kvs) (some (.frz o (tdO K.w p es)))
theorem RKV.up {K : KW} {m m' : List Addr} {H H' : Hp} {a : List (D × D)} {b : List (Key × V)} (r : RKV K m H a b) (g : Grow m H m' H') : RKV K m' H' a b :=
  Paired.mapP r fun _ _ h => ⟨h.1, h.2.up g⟩
theorem RKT.up {K : KW} {m m' : List Addr} {H H' : Hp} {a : List (D × D)} {b : List (NestedKey × Addr × V)} (r : RKT K m H a b) (g : Grow m H m' H') : RKT K m' H' a b :=
  Paired.mapP r fun _ _ h => ⟨h.1, h.2.1, h.2.2.1.up g, h.2.2.2.up g⟩
theorem RCell.up {K : KW} {m m' : List Addr} {H H' : Hp} {p : Addr} {c : Cell} {o : Option HO} (r : RCell K m H p c o) (g : Grow m H m' H') : RCell K m' H' p c o := by
  cases r with
  | lst z a => exact .lst z (a.up g)
  | dct z a => exact .dct z (a.up g)
  | lck z a => exact .lck z (a.up g)
  | tdc z a => exact .tdc z (a.up g)
  | tlk z a => exact .tlk z (a.up g)

theorem RCell.up0 {K : KW} {m m' : List Addr} {H H' : Hp} {p : Addr} {c : Cell} {o : Option HO} (r : RCell K m H p c o) (g : Grow0 m H m' H') : RCell K m' H' p c o := by
  cases r with
  | lst z a => exact .lst z (RDs.mono g _ _ a)
  | dct z a => exact .dct z (Paired.mapP a fun _ _ h => ⟨h.1, RD.mono g _ _ h.2⟩)
  | lck z a => exact .lck z (Paired.mapP a fun _ _ h => ⟨h.1, RD.mono g _ _ h.2⟩)
  | tdc z a => exact .tdc z (Paired.mapP a fun _ _ h => ⟨h.1, h.2.1, RD.mono g _ _ h.2.2.1, RD.mono g _ _ h.2.2.2⟩)
  | tlk z a => exact .tlk z (Paired.mapP a fun _ _ h => ⟨h.1, h.2.1, RD.mono g _ _ h.2.2.1, RD.mono g _ _ h.2.2.2⟩)
structure Sim (K : KW) (m : List Addr) (S : Store) (H : Hp) : Prop where
  len : m.length = S.length
  nd : m.Nodup
  cell : ∀ (i : Nat) p c, m[i]? = some p → S[i]? = some c → RCell K m H p c (H p)
section
variable {K : KW} {m m' : List Addr} {H H' : Hp} {S : Store}
theorem RCell.some {p : Addr} {c : Cell} {o : Option HO} (r : RCell K m H p c o) : ∃ u, o = Option.some u ∧ (∀ xs, u ≠ .tup xs) := by
  cases r <;> exact ⟨_, rfl, fun _ h => by cases h⟩
theorem Sim.at (s : Sim K m S H) {n : Nat} {c : Cell} (h : S[n]? = some c) : ∃ p, m[n]? = some p ∧ RCell K m H p c (H p) := by
  have hl : n < m.length := by rw [s.len]; exact (List.getElem?_eq_some_iff.mp h).1
  exact ⟨m[n], by simp [hl], s.cell n m[n] c (by simp [hl]) h⟩
theorem Sim.has (s : Sim K m S H) {p : Addr} (h : p ∈ m) : ∃ u, H p = some u := by
  obtain ⟨i, hi⟩ := List.getElem?_of_mem h
  have hl : i < S.length := by rw [← s.len]; exact (List.getElem?_eq_some_iff.mp hi).1
  obtain ⟨u, e, _⟩ := (s.cell i p S[i] hi (by simp [hl])).some
  exact ⟨u, e⟩
theorem Grow.new {p : Addr} (h : H p = none) (o : HO) (hm : m <+: m') : Grow m H m' (upd H p o) :=
  ⟨hm, fun a xs e => by rw [upd_ne (ne_of_none e h)]; exact e, fun a q u e => by rw [upd_ne (ne_of_none e h)]; exact e⟩
/-- a new object that is not in the store (a tuple) -/
theorem Sim.plus (s : Sim K m S H) {p : Addr} (h : H p = none) (o : HO) : Sim K m S (upd H p o) := by
  refine ⟨s.len, s.nd, fun i q c a b => ?_⟩
  obtain ⟨u, e⟩ := s.has (List.mem_of_getElem? a)
  rw [upd_ne (ne_of_none e h)]
  exact (s.cell i q c a b).up (Grow.new h o (List.prefix_refl m))
/-- a new cell -/
theorem Sim.alloc (s : Sim K m S H) {p : Addr} (h : H p = none) {o : HO} {c : Cell} (r : RCell K (m ++ [p]) (upd H p o) p c (some o)) : Sim K (m ++ [p]) (S ++ [c]) (upd H p o) := by
  have g : Grow m H (m ++ [p]) (upd H p o) := Grow.new h o (List.prefix_append _ _)
  have nin : p ∉ m := fun hm => by
    obtain ⟨u, e⟩ := s.has hm
    rw [h] at e; cases e
  refine ⟨by simp [s.len], ?_, fun i q d a b => ?_⟩
  · rw [List.nodup_append]
    exact ⟨s.nd, by simp, fun x hx y hy => by rw [List.mem_singleton] at hy; rw [hy]; exact fun e => nin (e ▸ hx)⟩
  · by_cases hi : i < m.length
    · rw [List.getElem?_append_left hi] at a
      rw [List.getElem?_append_left (by rw [← s.len]; exact hi)] at b
      obtain ⟨u, e⟩ := s.has (List.mem_of_getElem? a)
      rw [upd_ne (ne_of_none e h)]
      exact (s.cell i q d a b).up g
    · have hi' : i = m.length := by
        have := (List.getElem?_eq_some_iff.mp a).1
        simp at this
        omega
      subst hi'
      rw [List.getElem?_append_right (Nat.le_refl _)] at a
      rw [List.getElem?_append_right (by rw [s.len]; exact Nat.le_refl _)] at b
      simp [s.len] at a b
      subst a b
      rw [upd_same]
      exact r
theorem Grow.write {n : Nat} {p : Addr} {c : Cell} (s : Sim K m S H) (hp : m[n]? = some p) (hc : S[n]? = some c) (hl : c.mut = true) (o : HO) : Grow m H m (upd H p o) := by
  have r := s.cell n p c hp hc
  refine ⟨List.prefix_refl m, fun a xs e => ?_, fun a q u e => ?_⟩
  · have ne : a ≠ p := fun z => by
      subst z
      rw [e] at r; cases r
    rw [upd_ne ne]; exact e
  · have ne : a ≠ p := fun z => by
      subst z
      rw [e] at r
      cases r with
      | lck _ _ => cases hl
      | tlk _ _ => cases hl
    rw [upd_ne ne]; exact e
theorem Sim.write {n : Nat} {p : Addr} {c c' : Cell} {o : HO} (s : Sim K m S H) (hp : m[n]? = some p) (hc : S[n]? = some c) (hl : c.mut = true) (r : RCell K m (upd H p o) p c' (some o)) : Sim K m (S.set n c') (upd H p o) := by
  have g := Grow.write s hp hc hl o
  refine ⟨by simp [s.len], s.nd, fun i q d a b => ?_⟩
  by_cases hi : i = n
  · subst hi
    rw [hp] at a; cases a
    have : i < S.length := (List.getElem?_eq_some_iff.mp hc).1
    rw [List.getElem?_set_self this] at b
    cases b
    rw [upd_same]
    exact r
  · rw [List.getElem?_set_ne (Ne.symm hi)] at b
    have ne : q ≠ p := fun e => hi (nd_ix s.nd a (e ▸ hp))
    rw [upd_ne ne]
    exact (s.cell i q d a b).up g
end

/-- the slots -/
structure RSl (K : KW) (m : List Addr) (H : Hp) (σ : L2.St) (σd : Slots) : Prop where
  len : σ.length = σd.length
  val : ∀ (i : Nat) d, σd[i]? = some (some d) → ∃ v, σ[i]? = some (some v) ∧ RD K m H d v
section
variable {K : KW} {m m' : List Addr} {H H' : Hp} {σ : L2.St} {σd : Slots}
theorem RSl.up (r : RSl K m H σ σd) (g : Grow m H m' H') : RSl K m' H' σ σd := ⟨r.len, fun i d h => let ⟨v, a, b⟩ := r.val i d h; ⟨v, a, b.up g⟩⟩
theorem RSl.set (r : RSl K m H σ σd) {d : D} {v : V} (q : RD K m H d v) (i : Nat) : RSl K m H (σ.set i (some v)) (σd.set i (some d)) := by
  refine ⟨by simp [r.len], fun j e h => ?_⟩
  by_cases hj : i = j
  · subst hj
    have hl : i < σd.length := by
      have := (List.getElem?_eq_some_iff.mp h).1
      simpa using this
    rw [List.getElem?_set_self hl] at h
    cases h
    exact ⟨v, List.getElem?_set_self (by rw [r.len]; exact hl), q⟩
  · rw [List.getElem?_set_ne hj] at h ⊢
    exact r.val j e h
theorem RSl.unset (r : RSl K m H σ σd) (i : Nat) : RSl K m H (σ.set i none) (σd.set i none) := by
  refine ⟨by simp [r.len], fun j e h => ?_⟩
  by_cases hj : i = j
  · subst hj
    have hl : i < σd.length := by
      have := (List.getElem?_eq_some_iff.mp h).1
      simpa using this
    rw [List.getElem?_set_self hl] at h
    cases h
  · rw [List.getElem?_set_ne hj] at h ⊢
    exact r.val j e h
end
def wipeD (σ : Slots) : List Nat → Slots
  | [] => σ
  | v :: vs => (wipeD σ vs).set v none
theorem RSl.wipe {K : KW} {m : List Addr} {H : Hp} {σ : L2.St} {σd : Slots} (r : RSl K m H σ σd) : ∀ vs : List Nat, RSl K m H (wipe σ vs) (wipeD σd vs)
  | [] => r
  | v :: vs => (RSl.wipe r vs).unset v

/-! ### readings over D -/
abbrev PD := D → Store → Prop
abbrev FE := Slots → Store → PD → Prop
abbrev FT := Slots → Store → (Bool → Store → Prop) → Prop
abbrev FA := Slots → Store → (List D → Store → Prop) → Prop
structure EndsD where
  nx : Slots → Store → Prop
  rt : PD
  bk : Slots → Store → Prop := fun _ _ => False
  ct : Slots → Store → Prop := fun _ _ => False
abbrev FS := EndsD → Slots → Store → Prop

/-- from here on a wish over D is as good as one over V -/
def WD (K : KW) (m : List Addr) (H : Hp) (P : PD) (Q : VK) : Prop := ∀ d S' m' v H', P d S' → Grow m H m' H' → Sim K m' S' H' → RD K m' H' d v → Q v H'
def WL (K : KW) (m : List Addr) (H : Hp) (P : List D → Store → Prop) (Q : List V → Hp → Prop) : Prop := ∀ d S' m' v H', P d S' → Grow m H m' H' → Sim K m' S' H' → RDs K m' H' d v → Q v H'
def WB (K : KW) (m : List Addr) (H : Hp) (P : Bool → Store → Prop) (Q : Bool → Hp → Prop) : Prop := ∀ b S' m' H', P b S' → Grow m H m' H' → Sim K m' S' H' → Q b H'
def WS (K : KW) (m : List Addr) (H : Hp) (P : Slots → Store → Prop) (Q : L2.St → Hp → Prop) : Prop := ∀ σd S' m' σ H', P σd S' → Grow m H m' H' → Sim K m' S' H' → RSl K m' H' σ σd → Q σ H'
structure WE (K : KW) (m : List Addr) (H : Hp) (E : EndsD) (D : Ends) : Prop where
  nx : WS K m H E.nx D.nx
  rt : WD K m H E.rt D.rt
  bk : WS K m H E.bk D.bk
  ct : WS K m H E.ct D.ct
section
variable {K : KW} {m m' : List Addr} {H H' : Hp}
theorem WD.up {P : PD} {Q : VK} (w : WD K m H P Q) (g : Grow m H m' H') : WD K m' H' P Q := fun d S' m2 v H2 h g2 s r => w d S' m2 v H2 h (g.trans g2) s r
theorem WL.up {P : List D → Store → Prop} {Q : List V → Hp → Prop} (w : WL K m H P Q) (g : Grow m H m' H') : WL K m' H' P Q := fun d S' m2 v H2 h g2 s r => w d S' m2 v H2 h (g.trans g2) s r
theorem WB.up {P : Bool → Store → Prop} {Q : Bool → Hp → Prop} (w : WB K m H P Q) (g : Grow m H m' H') : WB K m' H' P Q := fun b S' m2 H2 h g2 s => w b S' m2 H2 h (g.trans g2) s
theorem WS.up {P : Slots → Store → Prop} {Q : L2.St → Hp → Prop} (w : WS K m H P Q) (g : Grow m H m' H') : WS K m' H' P Q := fun d S' m2 v H2 h g2 s r => w d S' m2 v H2 h (g.trans g2) s r
theorem WE.up {E : EndsD} {D : Ends} (w : WE K m H E D) (g : Grow m H m' H') : WE K m' H' E D := ⟨w.nx.up g, w.rt.up g, w.bk.up g, w.ct.up g⟩
end
section
variable (K : KW)
def tOf (f : FE) : TE := fun σ H Q => ∃ m σd S P, Sim K m S H ∧ RSl K m H σ σd ∧ f σd S P ∧ WD K m H P Q
def tOfT (f : FT) : TT := fun σ H Q => ∃ m σd S P, Sim K m S H ∧ RSl K m H σ σd ∧ f σd S P ∧ WB K m H P Q
def tOfA (f : FA) : TA := fun σ H Q => ∃ m σd S P, Sim K m S H ∧ RSl K m H σ σd ∧ f σd S P ∧ WL K m H P Q
def tOfS (f : FS) : TS := fun D σ H => ∃ m σd S E, Sim K m S H ∧ RSl K m H σ σd ∧ f E σd S ∧ WE K m H E D
end
abbrev RE (X : Cx) (e : Expr) (f : FE) : Prop := PE X e (tOf (kW X) f)
abbrev RT (X : Cx) (e : Expr) (f : FT) : Prop := PT X e (tOfT (kW X) f)
abbrev RW (X : Cx) (e : Expr) (f : FT) : Prop := PW X e (tOfT (kW X) f)
abbrev RA (X : Cx) (es : List Expr) (f : FA) : Prop := PA X es (tOfA (kW X) f)
abbrev RS (X : Cx) (st : Stmt) (f : FS) : Prop := PS X st (tOfS (kW X) f)
abbrev RSs (X : Cx) (st : List Stmt) (f : FS) : Prop := PSs X st (tOfS (kW X) f)
section
variable {X : Cx}
theorem pe_w {e : Expr} {t t' : TE} (h : PE X e t) (w : ∀ σ H Q, t' σ H Q → t σ H Q) : PE X e t' := ⟨fun pins s σ H Q I q => h.run pins s σ H Q I (w σ H Q q)⟩
theorem pt_w {e : Expr} {t t' : TT} (h : PT X e t) (w : ∀ σ H Q, t' σ H Q → t σ H Q) : PT X e t' := ⟨fun pins s σ H Q I q => h.run pins s σ H Q I (w σ H Q q)⟩
theorem pw_w {e : Expr} {t t' : TT} (h : PW X e t) (w : ∀ σ H Q, t' σ H Q → t σ H Q) : PW X e t' := ⟨fun wh pins s σ H Q I q => h.run wh pins s σ H Q I (w σ H Q q)⟩
theorem pa_w {e : List Expr} {t t' : TA} (h : PA X e t) (w : ∀ σ H Q, t' σ H Q → t σ H Q) : PA X e t' := ⟨fun pos pins s σ H Q I q => h.run pos pins s σ H Q I (w σ H Q q)⟩
theorem ps_w {e : Stmt} {t t' : TS} (h : PS X e t) (w : ∀ D σ H, t' D σ H → t D σ H) : PS X e t' := ⟨fun pins s σ H D I q => h.run pins s σ H D I (w D σ H q)⟩
theorem pss_w {e : List Stmt} {t t' : TS} (h : PSs X e t) (w : ∀ D σ H, t' D σ H → t D σ H) : PSs X e t' := ⟨fun pins s σ H D I q => h.run pins s σ H D I (w D σ H q)⟩
end
end SD
/-! SD2: the rules of expressions over D. -/
namespace SD
open PySem PySem.Spec PyProof.Rows L2

/-! ### names, constants, displays -/
def eVar (i : Nat) : FE := fun σ S Q => ∃ d, σ[i]? = some (some d) ∧ Q d S
def eC (d : D) : FE := fun _ S Q => Q d S
def aNil : FA := fun _ S Q => Q [] S
def aCons (f : FE) (g : FA) : FA := fun σ S Q => f σ S fun d S1 => g σ S1 fun ds S2 => Q (d :: ds) S2
def eTup (f : FA) : FE := fun σ S Q => f σ S fun ds S1 => ds.length ≤ sizeLine ∧ Q (.tup ds) S1
def eLst (f : FA) : FE := fun σ S Q => f σ S fun ds S1 => ds.length ≤ sizeLine ∧ Q (.ref S1.length) (S1 ++ [.lst ds])
section
variable {X : Cx}
theorem re_var (i : Nat) {x : Str} {pos : Pos} (hN : X.N[i]? = some x := by rfl) (hv : Vis X.env.scope x := by first | exact Or.inl rfl | exact Or.inr (Or.inl rfl) | exact Or.inr (Or.inr rfl)) (hd : (x == ("__debug__" : Str)) = false := by decide)
    (hcd : (x == ("__classdict__" : Str)) = false := by decide) : RE X (.Name x pos) (eVar i) := by
  refine pe_w (pe_var hN hv hd hcd) fun σ H Q h => ?_
  obtain ⟨m, σd, S, P, s, r, ⟨d, e, p⟩, w⟩ := h
  obtain ⟨v, e1, r1⟩ := r.val i d e
  exact ⟨v, e1, w d S m v H p (.refl _ _) s r1⟩
theorem re_const {e : Expr} {v : V} {d : D} (h : PE X e (tC v)) (hd : ∀ m H, RD (kW X) m H d v) : RE X e (eC d) := by
  refine pe_w h fun σ H Q q => ?_
  obtain ⟨m, σd, S, P, s, r, p, w⟩ := q
  exact w d S m v H p (.refl _ _) s (hd m H)
theorem re_int {i j pos} : RE X (.Constant (.int i) j pos) (eC (.int i)) := re_const pe_int fun _ _ => .int i
theorem re_bl {b j pos} : RE X (.Constant (.bool b) j pos) (eC (.bl b)) := re_const pe_bl fun _ _ => .bl b
theorem re_non {j pos} : RE X (.Constant .none j pos) (eC .non) := re_const pe_non fun _ _ => .non
theorem re_str {x j pos} : RE X (.Constant (.str x) j pos) (eC (.str x)) := re_const pe_str fun _ _ => .str x
theorem ra_nil : RA X [] aNil := by
  refine pa_w pa_nil fun σ H Q q => ?_
  obtain ⟨m, σd, S, P, s, r, p, w⟩ := q
  exact w [] S m [] H p (.refl _ _) s .nil
theorem ra_cons {e : Expr} {es : List Expr} {f : FE} {g : FA} (ha : RE X e f) (hr : RA X es g) (hs : starEach (e :: es) X.env = (false, eval e X.env) :: starEach es X.env := by rfl) : RA X (e :: es) (aCons f g) := by
  refine pa_w (pa_cons ha hr hs) fun σ H Q q => ?_
  obtain ⟨m, σd, S, P, s, r, p, w⟩ := q
  refine ⟨m, σd, S, _, s, r, p, fun d S1 m1 v H1 p1 g1 s1 r1 => ?_⟩
  exact ⟨m1, σd, S1, _, s1, r.up g1, p1, fun ds S2 m2 vs H2 p2 g2 s2 r2 => w (d :: ds) S2 m2 (v :: vs) H2 p2 (g1.trans g2) s2 (.cons (r1.up g2) r2)⟩
theorem re_tup {es : List Expr} {pos : Pos} {x1} {f : FA} (h : RA X es f) : RE X (.Tuple es x1 pos) (eTup f) := by
  refine pe_w (pe_tup h) fun σ H Q q => ?_
  obtain ⟨m, σd, S, P, s, r, p, w⟩ := q
  refine ⟨m, σd, S, _, s, r, p, fun ds S1 m1 vs H1 ⟨z, p1⟩ g1 s1 r1 => ⟨by rw [← r1.length]; exact z, fun a ha => ?_⟩⟩
  have g2 : Grow m1 H1 m1 (upd H1 a (.tup vs)) := Grow.new ha _ (List.prefix_refl _)
  exact w (.tup ds) S1 m1 (.ref a) _ p1 (g1.trans g2) (s1.plus ha _) (.tup (SqT.of upd_same) (by rw [← r1.length]; exact z) (r1.up g2))
/-- a new list -/
theorem new_lst {K : KW} {m : List Addr} {S : Store} {H : Hp} {ds : List D} {vs : List V} {a : Addr} (s : Sim K m S H) (ha : H a = none) (r : RDs K m H ds vs) (z : ds.length ≤ sizeLine) :
    Grow m H (m ++ [a]) (upd H a (.lst vs)) ∧ Sim K (m ++ [a]) (S ++ [.lst ds]) (upd H a (.lst vs)) ∧ RD K (m ++ [a]) (upd H a (.lst vs)) (.ref S.length) (.ref a) := by
  have g2 : Grow m H (m ++ [a]) (upd H a (.lst vs)) := Grow.new ha _ (List.prefix_append _ _)
  exact ⟨g2, s.alloc ha (.lst z (r.up g2)), .ref (by rw [← s.len]; simp)⟩
theorem re_lst {es : List Expr} {pos : Pos} {f : FA} (h : RA X es f) : RE X (.List es pos) (eLst f) := by
  refine pe_w (pe_lst h) fun σ H Q q => ?_
  obtain ⟨m, σd, S, P, s, r, p, w⟩ := q
  refine ⟨m, σd, S, _, s, r, p, fun ds S1 m1 vs H1 ⟨z, p1⟩ g1 s1 r1 => ⟨by rw [← r1.length]; exact z, fun a ha => ?_⟩⟩
  obtain ⟨g2, s2, r2⟩ := new_lst s1 ha r1 z
  exact w _ _ _ _ _ p1 (g1.trans g2) s2 r2
end

/-! ### two values -/
abbrev F2 := D → D → Store → PD → Prop
abbrev FN := List D → Store → PD → Prop
def eOp (r : F2) (f g : FE) : FE := fun σ S Q => f σ S fun x S1 => g σ S1 fun y S2 => r x y S2 Q
def eCB (r : FN) (f : FA) : FE := fun σ S Q => f σ S fun xs S1 => r xs S1 Q
def R2R (K : KW) (fr : F2) (r : R2) : Prop := ∀ m S H x y v u P Q, Sim K m S H → RD K m H x v → RD K m H y u → fr x y S P → WD K m H P Q → r v u H Q
def RNR (K : KW) (fr : FN) (r : List V → Hp → VK → Prop) : Prop := ∀ m S H xs vs P Q, Sim K m S H → RDs K m H xs vs → fr xs S P → WD K m H P Q → r vs H Q
def OpD (X : Cx) (f : Value → Value → Sem Value) (fr : F2) : Prop := ∃ r, OpR X f r ∧ R2R (kW X) fr r
def IxD (X : Cx) (fr : F2) : Prop := ∃ r, IxR X r ∧ R2R (kW X) fr r
def CallD (X : Cx) (f : Value) (fr : FN) : Prop := ∃ r, CallR X f r ∧ RNR (kW X) fr r
theorem tOf_op {K : KW} {fr : F2} {r : R2} {f g : FE} (hr : R2R K fr r) {σ : L2.St} {H : Hp} {Q : VK} (h : tOf K (eOp fr f g) σ H Q) : tOp r (tOf K f) (tOf K g) σ H Q := by
  obtain ⟨m, σd, S, P, s, rs, p, w⟩ := h
  refine ⟨m, σd, S, _, s, rs, p, fun d S1 m1 v H1 p1 g1 s1 r1 => ?_⟩
  exact ⟨m1, σd, S1, _, s1, rs.up g1, p1, fun e S2 m2 u H2 p2 g2 s2 r2 => hr m2 S2 H2 d e v u P Q s2 (r1.up g2) r2 p2 (w.up (g1.trans g2))⟩
section
variable {X : Cx} {a b : Expr} {f g : FE} {pos : Pos}
theorem re_op {op : Operator} {fr : F2} (h : OpD X (binaryOp op) fr) (ha : RE X a f) (hb : RE X b g) : RE X (.BinOp a op b pos) (eOp fr f g) := by
  obtain ⟨r, h1, h2⟩ := h
  exact pe_w (pe_op h1 ha hb) fun _ _ _ q => tOf_op h2 q
theorem re_cmp {op : CmpOp} {fr : F2} (h : OpD X (compareOp op) fr) (ha : RE X a f) (hb : RE X b g) (hm : behindInMarks op b = false) : RE X (.Compare a [op] [b] pos) (eOp fr f g) := by
  obtain ⟨r, h1, h2⟩ := h
  exact pe_w (pe_cmpR h1 ha hb hm) fun _ _ _ q => tOf_op h2 q
theorem re_ix {fr : F2} (h : IxD X fr) (ha : RE X a f) (hb : RE X b g) (hs : PlainIx b := by intro _ _; rfl) : RE X (.Subscript a b pos) (eOp fr f g) := by
  obtain ⟨r, h1, h2⟩ := h
  exact pe_w (pe_ix h1 ha hb hs) fun _ _ _ q => tOf_op h2 q
theorem tOf_cb {K : KW} {fr : FN} {r : List V → Hp → VK → Prop} {f : FA} (hr : RNR K fr r) {σ : L2.St} {H : Hp} {Q : VK} (h : tOf K (eCB fr f) σ H Q) : tCB r (tOfA K f) σ H Q := by
  obtain ⟨m, σd, S, P, s, rs, p, w⟩ := h
  exact ⟨m, σd, S, _, s, rs, p, fun d S1 m1 v H1 p1 g1 s1 r1 => hr m1 S1 H1 d v P Q s1 r1 p1 (w.up g1)⟩
theorem re_callB {x : Str} {p : Pos} {e : Expr} {es : List Expr} {fa : FA} {id : String} {fr : FN} (h : CallD X (.builtin id) fr) (hg : Gl X x) (hm : X.mg x = none) (hv : bootBuiltins x = some (.builtin id)) (ha : RA X (e :: es) fa) (hn : x ≠ "__name__" := by decide) (hdb : (x == ("__debug__" : Str)) = false := by decide)
    (he : starEach (e :: es) X.env = (false, eval e X.env) :: starEach es X.env := by rfl) (hpl : (backTo pos (starEach es X.env)).any (·.1) = false := by rfl) : RE X (.Call (.Name x p) (e :: es) [] pos) (eCB fr fa) := by
  obtain ⟨r, h1, h2⟩ := h
  exact pe_w (pe_callB h1 hg hm hv ha hn hdb he hpl) fun _ _ _ q => tOf_cb h2 q
theorem re_callTy {x : Str} {p : Pos} {e : Expr} {es : List Expr} {fa : FA} {T : String} {fr : FN} (h : CallD X (.type T) fr) (hg : Gl X x) (hm : X.mg x = none) (hv : bootBuiltins x = some (.type T)) (ha : RA X (e :: es) fa) (hn : x ≠ "__name__" := by decide) (hdb : (x == ("__debug__" : Str)) = false := by decide)
    (he : starEach (e :: es) X.env = (false, eval e X.env) :: starEach es X.env := by rfl) (hpl : (backTo pos (starEach es X.env)).any (·.1) = false := by rfl) : RE X (.Call (.Name x p) (e :: es) [] pos) (eCB fr fa) := by
  obtain ⟨r, h1, h2⟩ := h
  exact pe_w (pe_callTy h1 hg hm hv ha hn hdb he hpl) fun _ _ _ q => tOf_cb h2 q
end
/-- a type's name as a value -/
def eTy : FE := fun _ S Q => Q .non S

/-! ### defs -/
abbrev FnD := List D → Store → PD → Prop
def spD (K : KW) (F : FnD) : Sp := fun vs H Q _ => ∃ m ds S P, Sim K m S H ∧ RDs K m H ds vs ∧ F ds S P ∧ WD K m H P Q
/-- a def of n parameters and l slots, by its body -/
def fnD (n l : Nat) (b : FS) : FnD := fun ds S P => ds.length = n ∧ b { nx := fun _ S' => P .non S', rt := P } (ds.map some ++ List.replicate (l - n) none) S
structure DefOk (P : Program) (w : World) (K : PySem.W.Frag) (mg : Str → Option Value) (base : Heap) (k : Nat) (x : Str) (F : FnD) : Prop where
  ex : ∃ f fd ps, FnOk P w K mg base CX0 k f fd ps (spD ⟨K, w⟩ F) ∧ mg x = some (.ref f) ∧ PySem.W.keepIn K (.ref f) = true ∧ Binds K fd ps []
def eCall (F : FnD) (f : FA) : FE := fun σ S Q => f σ S fun ds S1 => F ds S1 Q
section
variable {X : Cx} {pos : Pos}
theorem re_call {x : Str} {p : Pos} {e : Expr} {es : List Expr} {fa : FA} {F : FnD} {k k' : Nat} (h : DefOk X.prog X.w X.K X.mg X.base k x F) (hr : Room k' X.A) (ha : RA X (e :: es) fa) (hg : Gl X x := by rfl) (hk : k ≤ k' := by first | exact Nat.le_refl _ | decide | omega) (hdb : (x == ("__debug__" : Str)) = false := by decide)
    (he : starEach (e :: es) X.env = (false, eval e X.env) :: starEach es X.env := by rfl) (hpl : (backTo pos (starEach es X.env)).any (·.1) = false := by rfl) : RE X (.Call (.Name x p) (e :: es) [] pos) (eCall F fa) := by
  obtain ⟨f, fd, ps, h1, h2, h3, h4⟩ := h.ex
  refine pe_w (pe_call h1 (hr.mono hk) hg h2 h3 h4 .nil pass0 ha hdb he hpl) fun σ H Q q => ?_
  obtain ⟨m, σd, S, P, s, rs, p, w⟩ := q
  refine ⟨m, σd, S, _, s, rs, p, fun ds S1 m1 vs H1 p1 g1 s1 r1 => ?_⟩
  exact ⟨m1, ds, S1, P, s1, by rw [List.append_nil]; exact r1, p1, w.up g1⟩
end
theorem RSl.start {K : KW} {m : List Addr} {H : Hp} {ds : List D} {vs : List V} (r : RDs K m H ds vs) (N : List Str) : RSl K m H (L2.start N vs) (ds.map some ++ List.replicate (N.length - ds.length) none) := by
  refine ⟨by simp [L2.start, r.length], fun i d e => ?_⟩
  unfold L2.start
  by_cases hi : i < ds.length
  · rw [List.getElem?_append_left (by simpa using hi), List.getElem?_map] at e
    rw [List.getElem?_append_left (by simp [← r.length]; exact hi), List.getElem?_map]
    cases q : ds[i]? with
    | none => rw [q] at e; cases e
    | some d' =>
      rw [q] at e
      cases e
      obtain ⟨v, e1, r1⟩ := r.get q
      exact ⟨v, by rw [e1]; rfl, r1⟩
  · rw [List.getElem?_append_right (by simpa using hi), List.getElem?_replicate] at e
    split at e <;> cases e
theorem fn_ok {P : Program} {w : World} {K : PySem.W.Frag} {mg : Str → Option Value} {base : Heap} {x qual : Str} {st : Stmt} {f : Addr} {fd : FuncData} {N ps : List Str} {k : Nat} {b : FS} (F : Fun K x qual st f fd) (S : FnScope N ps (defScope st))
    (hb : ∀ (cdv : Value) (A : Around) (outer : List Env) (s : Shared) (H : Hp) (E : XK), Room k (A.deeper (envOfC qual (defScope st) s.heap.objs.size f cdv)) → RSs (cxOf CX0 P w K mg base N qual (defScope st) f cdv A outer s H E).nox (defBody st) b) :
    FnOk P w K mg base CX0 (k + 1) f fd ps (spD ⟨K, w⟩ (fnD ps.length N.length b)) := by
  refine F.ok S (fun vs H Q E h => ?_) (fun cdv A outer s H vs Q E hr h => ?_)
  · obtain ⟨m, ds, T, p, _, r, ⟨e, _⟩, _⟩ := h
    rw [← r.length]; exact e
  · obtain ⟨m, ds, T, p, s1, r, ⟨e, hf⟩, wd⟩ := h
    rw [← e] at hf
    exact ⟨_, hb cdv A outer s H E hr, m, _, T, _, s1, RSl.start r N, hf, ⟨fun σd S' m' σ H' h g s r => wd _ _ _ _ _ h g s .non, wd, fun _ _ _ _ _ h => False.elim h, fun _ _ _ _ _ h => False.elim h⟩⟩
theorem fn_none {P : Program} {w : World} {K : PySem.W.Frag} {mg : Str → Option Value} {base : Heap} {f : Addr} {fd : FuncData} {ps : List Str} {k : Nat} : FnOk P w K mg base CX0 k f fd ps (spD ⟨K, w⟩ fun _ _ _ => False) := by
  have no : ∀ vs H Q E, ¬ spD ⟨K, w⟩ (fun _ _ _ => False) vs H Q E := fun vs H Q E h => by
    obtain ⟨m, ds, T, p, _, r, z, _⟩ := h
    exact z
  exact ⟨fun vs H Q E h => absurd h (no vs H Q E), fun A outer s H args us vs Q E _ _ _ _ h => absurd h (no vs H Q E)⟩

/-! ### tests -/
def tVal (f : FE) : FT := fun σ S Q => f σ S fun d S1 => ∃ b, d = .bl b ∧ Q b S1
def tAndD (t u : FT) : FT := fun σ S Q => t σ S fun c S1 => if c = true then u σ S1 Q else Q false S1
def tOrD (t u : FT) : FT := fun σ S Q => t σ S fun c S1 => if c = true then Q true S1 else u σ S1 Q
def tNotD (t : FT) : FT := fun σ S Q => t σ S fun c S1 => Q (!c) S1
section
variable {X : Cx} {a b : Expr} {f g : FE} {t u : FT} {rest : List Expr} {pos : Pos}
theorem WB.of {K : KW} {m : List Addr} {H : Hp} {P : Bool → Store → Prop} {Q : Bool → Hp → Prop} (w : WB K m H P Q) : WD K m H (fun d S => ∃ b, d = .bl b ∧ P b S) (fun x H' => ∃ k, x = .bl k ∧ Q k H') := by
  intro d S' m' v H' ⟨b, e, p⟩ g s r
  subst e
  cases r
  exact ⟨b, rfl, w b S' m' H' p g s⟩
theorem rt_cmp {op : CmpOp} {fr : F2} (h : OpD X (compareOp op) fr) (ha : RE X a f) (hb : RE X b g) (hm : behindInMarks op b = false) : RT X (.Compare a [op] [b] pos) (tVal (eOp fr f g)) := by
  obtain ⟨r, h1, h2⟩ := h
  refine pt_w (pt_cmpR h1 ha hb hm) fun σ H Q q => ?_
  obtain ⟨m, σd, S, P, s, rs, p, w⟩ := q
  exact tOf_op h2 ⟨m, σd, S, _, s, rs, p, w.of⟩
theorem rt_val {e : Expr} (h : RE X e f) (he : ∀ whole, isTrue e X.env whole = (do let v ← whole; standAt e.pos; holding [v] (truthy v)) := by intro _; rfl) : RT X e (tVal f) := by
  refine pt_w (pt_val h he) fun σ H Q q => ?_
  obtain ⟨m, σd, S, P, s, rs, p, w⟩ := q
  exact ⟨m, σd, S, _, s, rs, p, w.of⟩
theorem rw_and1 (ha : RT X a t) : RW X (.BoolOp .And [a] pos) t := pw_and1 ha
theorem rw_or1 (ha : RT X a t) : RW X (.BoolOp .Or [a] pos) t := pw_or1 ha
theorem rw_and (ha : RT X a t) (hb : RW X (.BoolOp .And (b :: rest) pos) u) : RW X (.BoolOp .And (a :: b :: rest) pos) (tAndD t u) := by
  refine pw_w (pw_and ha hb) fun σ H Q q => ?_
  obtain ⟨m, σd, S, P, s, rs, p, w⟩ := q
  refine ⟨m, σd, S, _, s, rs, p, fun c S1 m1 H1 p1 g1 s1 => ?_⟩
  cases c with
  | true => exact iteT ⟨m1, σd, S1, P, s1, rs.up g1, by rw [if_pos rfl] at p1; exact p1, w.up g1⟩
  | false => exact iteF (w _ _ _ _ (by rw [if_neg (by decide)] at p1; exact p1) g1 s1)
theorem rw_or (ha : RT X a t) (hb : RW X (.BoolOp .Or (b :: rest) pos) u) : RW X (.BoolOp .Or (a :: b :: rest) pos) (tOrD t u) := by
  refine pw_w (pw_or ha hb) fun σ H Q q => ?_
  obtain ⟨m, σd, S, P, s, rs, p, w⟩ := q
  refine ⟨m, σd, S, _, s, rs, p, fun c S1 m1 H1 p1 g1 s1 => ?_⟩
  cases c with
  | false => exact iteF ⟨m1, σd, S1, P, s1, rs.up g1, by rw [if_neg (by decide)] at p1; exact p1, w.up g1⟩
  | true => exact iteT (w _ _ _ _ (by rw [if_pos rfl] at p1; exact p1) g1 s1)
theorem rt_w (h : RW X a t) : RT X a t := h.pt
theorem rt_not (ha : RT X a t) : RT X (.UnaryOp .Not a pos) (tNotD t) := by
  refine pt_w (pt_not ha) fun σ H Q q => ?_
  obtain ⟨m, σd, S, P, s, rs, p, w⟩ := q
  exact ⟨m, σd, S, _, s, rs, p, fun c S1 m1 H1 p1 g1 s1 => w _ _ _ _ p1 g1 s1⟩
/-- .. as values -/
def eAnd (f g : FE) : FE := fun σ S Q => f σ S fun d S1 => ∃ c, d = .bl c ∧ if c = true then g σ S1 Q else Q (.bl false) S1
def eOr (f g : FE) : FE := fun σ S Q => f σ S fun d S1 => ∃ c, d = .bl c ∧ if c = true then Q (.bl true) S1 else g σ S1 Q
def eNot (f : FE) : FE := fun σ S Q => f σ S fun d S1 => ∃ c, d = .bl c ∧ Q (.bl (!c)) S1
def eIf (t : FT) (f g : FE) : FE := fun σ S Q => t σ S fun c S1 => if c = true then f σ S1 Q else g σ S1 Q
theorem re_one {op} (h : RE X a f) : RE X (.BoolOp op [a] pos) f := pe_one h
theorem re_and (ha : RE X a f) (hb : RE X (.BoolOp .And (b :: rest) pos) g) : RE X (.BoolOp .And (a :: b :: rest) pos) (eAnd f g) := by
  refine pe_w (pe_and ha hb) fun σ H Q q => ?_
  obtain ⟨m, σd, S, P, s, rs, p, w⟩ := q
  refine ⟨m, σd, S, _, s, rs, p, fun d S1 m1 v H1 ⟨c, e, p1⟩ g1 s1 r1 => ?_⟩
  subst e
  cases r1
  refine ⟨c, rfl, ?_⟩
  cases c with
  | true => exact iteT ⟨m1, σd, S1, P, s1, rs.up g1, by rw [if_pos rfl] at p1; exact p1, w.up g1⟩
  | false => exact iteF (w _ _ _ _ _ (by rw [if_neg (by decide)] at p1; exact p1) g1 s1 (.bl _))
theorem re_or (ha : RE X a f) (hb : RE X (.BoolOp .Or (b :: rest) pos) g) : RE X (.BoolOp .Or (a :: b :: rest) pos) (eOr f g) := by
  refine pe_w (pe_or ha hb) fun σ H Q q => ?_
  obtain ⟨m, σd, S, P, s, rs, p, w⟩ := q
  refine ⟨m, σd, S, _, s, rs, p, fun d S1 m1 v H1 ⟨c, e, p1⟩ g1 s1 r1 => ?_⟩
  subst e
  cases r1
  refine ⟨c, rfl, ?_⟩
  cases c with
  | false => exact iteF ⟨m1, σd, S1, P, s1, rs.up g1, by rw [if_neg (by decide)] at p1; exact p1, w.up g1⟩
  | true => exact iteT (w _ _ _ _ _ (by rw [if_pos rfl] at p1; exact p1) g1 s1 (.bl _))
theorem re_not (ha : RE X a f) : RE X (.UnaryOp .Not a pos) (eNot f) := by
  refine pe_w (pe_not ha) fun σ H Q q => ?_
  obtain ⟨m, σd, S, P, s, rs, p, w⟩ := q
  refine ⟨m, σd, S, _, s, rs, p, fun d S1 m1 v H1 ⟨c, e, p1⟩ g1 s1 r1 => ?_⟩
  subst e
  cases r1
  exact ⟨c, rfl, w _ _ _ _ _ p1 g1 s1 (.bl _)⟩
theorem re_if {c : Expr} (hc : RT X c t) (ha : RE X a f) (hb : RE X b g) : RE X (.IfExp c a b pos) (eIf t f g) := by
  refine pe_w (pe_ifExp hc ha hb) fun σ H Q q => ?_
  obtain ⟨m, σd, S, P, s, rs, p, w⟩ := q
  refine ⟨m, σd, S, _, s, rs, p, fun c S1 m1 H1 p1 g1 s1 => ?_⟩
  cases c with
  | true => exact iteT ⟨m1, σd, S1, P, s1, rs.up g1, by rw [if_pos rfl] at p1; exact p1, w.up g1⟩
  | false => exact iteF ⟨m1, σd, S1, P, s1, rs.up g1, by rw [if_neg (by decide)] at p1; exact p1, w.up g1⟩
/-- is None -/
def eIsN (f : FE) : FE := fun σ S Q => f σ S fun d S1 => Q (.bl (decide (d = .non))) S1
def eNotN (f : FE) : FE := fun σ S Q => f σ S fun d S1 => Q (.bl (!decide (d = .non))) S1
theorem RD.non_iff {K : KW} {m : List Addr} {H : Hp} {d : D} {v : V} (r : RD K m H d v) : decide (v = V.non) = decide (d = D.non) := by
  cases r <;> simp
theorem re_isN {j pos'} (ha : RE X a f) : RE X (.Compare a [.Is] [.Constant .none j pos'] pos) (eIsN f) := by
  refine pe_w (pe_cmp (pc_isN ha) rfl) fun σ H Q q => ?_
  obtain ⟨m, σd, S, P, s, rs, p, w⟩ := q
  exact ⟨m, σd, S, _, s, rs, p, fun d S1 m1 v H1 p1 g1 s1 r1 => by show Q (V.bl (decide (v = V.non))) H1; rw [r1.non_iff]; exact w _ _ _ _ _ p1 g1 s1 (.bl _)⟩
theorem re_notN {j pos'} (ha : RE X a f) : RE X (.Compare a [.IsNot] [.Constant .none j pos'] pos) (eNotN f) := by
  refine pe_w (pe_cmp (pc_notN ha) rfl) fun σ H Q q => ?_
  obtain ⟨m, σd, S, P, s, rs, p, w⟩ := q
  exact ⟨m, σd, S, _, s, rs, p, fun d S1 m1 v H1 p1 g1 s1 r1 => by show Q (V.bl (!decide (v = V.non))) H1; rw [r1.non_iff]; exact w _ _ _ _ _ p1 g1 s1 (.bl _)⟩
end

/-! ### statements -/
def sNext : FS := fun E σ S => E.nx σ S
def sSeq (f g : FS) : FS := fun E σ S => f { E with nx := g E } σ S
def sDrop (f : FE) : FS := fun E σ S => f σ S fun _ S1 => E.nx σ S1
def sRet (f : FE) : FS := fun E σ S => f σ S E.rt
def sRetN : FS := fun E _ S => E.rt .non S
def sIf (t : FT) (f g : FS) : FS := fun E σ S => t σ S fun b S1 => if b = true then f E σ S1 else g E σ S1
def sBreak : FS := fun E σ S => E.bk σ S
def sCont : FS := fun E σ S => E.ct σ S
def sNever : FS := fun _ _ _ => False
section
variable {X : Cx} {st : Stmt} {rest : List Stmt} {f g : FS} {e : Expr} {fe : FE} {pos : Pos}
theorem rs_nil : RSs X [] sNext := by
  refine pss_w pss_nil fun D σ H q => ?_
  obtain ⟨m, σd, S, E, s, r, p, w⟩ := q
  exact w.nx _ _ _ _ _ p (.refl _ _) s r
theorem rs_cons (h1 : RS X st f) (h2 : RSs X rest g) : RSs X (st :: rest) (sSeq f g) := by
  refine pss_w (pss_cons h1 h2) fun D σ H q => ?_
  obtain ⟨m, σd, S, E, s, r, p, w⟩ := q
  exact ⟨m, σd, S, _, s, r, p, ⟨fun σd' S' m' σ' H' q g1 s1 r1 => ⟨m', σd', S', E, s1, r1, q, w.up g1⟩, w.rt, w.bk, w.ct⟩⟩
theorem rs_one (h1 : RS X st f) : RSs X [st] f := pss_one h1
theorem rs_pass : RS X (.Pass pos) sNext := by
  refine ps_w ps_pass fun D σ H q => ?_
  obtain ⟨m, σd, S, E, s, r, p, w⟩ := q
  exact w.nx _ _ _ _ _ p (.refl _ _) s r
theorem rs_break : RS X (.Break pos) sBreak := by
  refine ps_w ps_break fun D σ H q => ?_
  obtain ⟨m, σd, S, E, s, r, p, w⟩ := q
  exact w.bk _ _ _ _ _ p (.refl _ _) s r
theorem rs_continue : RS X (.Continue pos) sCont := by
  refine ps_w ps_continue fun D σ H q => ?_
  obtain ⟨m, σd, S, E, s, r, p, w⟩ := q
  exact w.ct _ _ _ _ _ p (.refl _ _) s r
theorem rs_expr (he : RE X e fe) (hs : swapsWith e none pos.line X.env = pure false := by rfl) : RS X (.Expr e pos) (sDrop fe) := by
  refine ps_w (ps_expr he hs) fun D σ H q => ?_
  obtain ⟨m, σd, S, E, s, r, p, w⟩ := q
  exact ⟨m, σd, S, _, s, r, p, fun d S1 m1 v H1 p1 g1 s1 r1 => w.nx _ _ _ _ _ p1 g1 s1 (r.up g1)⟩
theorem rs_ret (he : RE X e fe) : RS X (.Return (some e) pos) (sRet fe) := by
  refine ps_w (ps_ret he) fun D σ H q => ?_
  obtain ⟨m, σd, S, E, s, r, p, w⟩ := q
  exact ⟨m, σd, S, _, s, r, p, w.rt⟩
theorem rs_retN : RS X (.Return none pos) sRetN := by
  refine ps_w ps_retN fun D σ H q => ?_
  obtain ⟨m, σd, S, E, s, r, p, w⟩ := q
  exact w.rt _ _ _ _ _ p (.refl _ _) s .non
theorem rs_if {c : Expr} {a b : List Stmt} {t : FT} (hc : RT X c t) (ha : RSs X a f) (hb : RSs X b g) : RS X (.If c a b pos) (sIf t f g) := by
  refine ps_w (ps_if hc ha hb) fun D σ H q => ?_
  obtain ⟨m, σd, S, E, s, r, p, w⟩ := q
  refine ⟨m, σd, S, _, s, r, p, fun c S1 m1 H1 p1 g1 s1 => ?_⟩
  cases c with
  | true => exact iteT ⟨m1, σd, S1, E, s1, r.up g1, by rw [if_pos rfl] at p1; exact p1, w.up g1⟩
  | false => exact iteF ⟨m1, σd, S1, E, s1, r.up g1, by rw [if_neg (by decide)] at p1; exact p1, w.up g1⟩
theorem rs_never : RS X st sNever := by
  refine ps_w ps_never fun D σ H q => ?_
  obtain ⟨m, σd, S, E, s, r, p, w⟩ := q
  exact p
theorem rss_never {sts : List Stmt} : RSs X sts sNever := by
  refine pss_w pss_never fun D σ H q => ?_
  obtain ⟨m, σd, S, E, s, r, p, w⟩ := q
  exact p
end

/-! ### targets, assignments -/
abbrev FG := D → Slots → Store → (Slots → Store → Prop) → Prop
abbrev FGs := List D → Slots → Store → (Slots → Store → Prop) → Prop
def tOfG (K : KW) (g : FG) : TG := fun v σ H Q => ∃ m σd S d P, Sim K m S H ∧ RSl K m H σ σd ∧ RD K m H d v ∧ g d σd S P ∧ WS K m H P Q
def tOfGs (K : KW) (g : FGs) : TGs := fun v σ H Q => ∃ m σd S d P, Sim K m S H ∧ RSl K m H σ σd ∧ RDs K m H d v ∧ g d σd S P ∧ WS K m H P Q
abbrev RG (X : Cx) (e : Expr) (g : FG) : Prop := PG X e (tOfG (kW X) g)
abbrev RGs (X : Cx) (e : List Expr) (g : FGs) : Prop := PGs X e (tOfGs (kW X) g)
def gNm (i : Nat) : FG := fun d σ S Q => Q (σ.set i (some d)) S
def gsNil : FGs := fun ds σ S Q => ds = [] ∧ Q σ S
def gsCons (g : FG) (h : FGs) : FGs := fun ds σ S Q => ∃ d r, ds = d :: r ∧ g d σ S fun σ1 S1 => h r σ1 S1 Q
def gTp (n : Nat) (g : FGs) : FG := fun d σ S Q => ∃ xs, d = .tup xs ∧ xs.length = n ∧ g xs σ S Q
def sAsg (f : FE) (g : FG) : FS := fun E σ S => f σ S fun d S1 => g d σ S1 E.nx
def sPar (i j : Nat) (f : FA) : FS := fun E σ S => f σ S fun ds S1 => ∃ a b, ds = [a, b] ∧ E.nx ((σ.set i (some a)).set j (some b)) S1
section
variable {X : Cx} {pos : Pos}
theorem pg_w {e : Expr} {t t' : TG} (h : PG X e t) (w : ∀ v σ H Q, t' v σ H Q → t v σ H Q) : PG X e t' := ⟨fun pins s σ H v u Q I r q => h.run pins s σ H v u Q I r (w v σ H Q q)⟩
theorem pgs_w {e : List Expr} {t t' : TGs} (h : PGs X e t) (w : ∀ v σ H Q, t' v σ H Q → t v σ H Q) : PGs X e t' := ⟨fun pins s σ H v u Q I r q => h.run pins s σ H v u Q I r (w v σ H Q q)⟩
theorem rg_name {i : Nat} {x : Str} (hN : X.N.Nodup) (hi : X.N[i]? = some x := by rfl) (hx : Loc X.env.scope x := by first | exact Or.inl rfl | exact Or.inr rfl) (hf : X.fn x = true ∨ X.env.scope.names.lookup x = some .local := by first | exact .inl rfl | exact .inr rfl | assumption) : RG X (.Name x pos) (gNm i) := by
  refine pg_w (pg_name (pos := pos) hN hi hx hf) fun v σ H Q q => ?_
  obtain ⟨m, σd, S, d, P, s, r, rd, p, w⟩ := q
  exact w _ _ _ _ _ p (.refl _ _) s (r.set rd i)
theorem rgs_nil : RGs X [] gsNil := by
  refine pgs_w pgs_nil fun v σ H Q q => ?_
  obtain ⟨m, σd, S, d, P, s, r, rd, ⟨e, p⟩, w⟩ := q
  subst e
  cases rd
  exact ⟨rfl, w _ _ _ _ _ p (.refl _ _) s r⟩
theorem rgs_cons {e : Expr} {es : List Expr} {g : FG} {h : FGs} (h1 : RG X e g) (h2 : RGs X es h)
    (hs : (assignEach (e :: es) X.env).map (·.2) = assign e X.env :: (assignEach es X.env).map (·.2) := by rfl) : RGs X (e :: es) (gsCons g h) := by
  refine pgs_w (pgs_cons h1 h2 hs) fun v σ H Q q => ?_
  obtain ⟨m, σd, S, ds, P, s, r, rd, ⟨d, dr, e, p⟩, w⟩ := q
  subst e
  cases rd with
  | cons ra rb =>
    exact ⟨_, _, rfl, m, σd, S, d, _, s, r, ra, p, fun σd1 S1 m1 σ1 H1 p1 g1 s1 r1 => ⟨m1, σd1, S1, dr, P, s1, r1, rb.up g1, p1, w.up g1⟩⟩
theorem rg_tup {es : List Expr} {k : Nat} {g : FGs} {n : Nat} (hc : X.calm = true) (h : RGs X es g)
    (hn : (assignEach es X.env).length = n := by rfl) (hst : (assignEach es X.env).findIdx? (·.1) = none := by rfl) : RG X (.Tuple es k pos) (gTp n g) := by
  refine pg_w (pg_tup (pos := pos) hc h hn hst) fun v σ H Q q => ?_
  obtain ⟨m, σd, S, d, P, s, r, rd, ⟨xs, e, hl, p⟩, w⟩ := q
  subst e
  cases rd with
  | tup a z b => exact ⟨_, _, rfl, a, by rw [← b.length]; exact hl, m, σd, S, xs, P, s, r, b, p, w⟩
theorem rs_asg {tg e : Expr} {f : FE} {g : FG} (he : RE X e f) (hg : RG X tg g) (hs : swapsWithSole [tg] e pos.line X.env = pure false := by rfl) (hw : swappedStores [tg] e X.env = pure none := by rfl)
    (h1 : (assignEach [tg] X.env).map (·.2) = [assign tg X.env] := by rfl) : RS X (.Assign [tg] e pos) (sAsg f g) := by
  refine ps_w (ps_asg he hg hs hw h1) fun D σ H q => ?_
  obtain ⟨m, σd, S, E, s, r, p, w⟩ := q
  exact ⟨m, σd, S, _, s, r, p, fun d S1 m1 v H1 p1 g1 s1 r1 => ⟨m1, σd, S1, d, _, s1, r.up g1, r1, p1, w.nx.up g1⟩⟩
theorem rs_set {i : Nat} {x : Str} {e : Expr} {f : FE} {pos' : Pos} (hN : X.N.Nodup) (he : RE X e f) (hi : X.N[i]? = some x := by rfl) (hx : Loc X.env.scope x := by first | exact Or.inl rfl | exact Or.inr rfl) (hs : swapsWith e (some (.Name x pos')) pos.line X.env = pure false := by rfl)
    (hf : X.fn x = true ∨ X.env.scope.names.lookup x = some .local := by first | exact .inl rfl | exact .inr rfl | assumption) : RS X (.Assign [.Name x pos'] e pos) (sAsg f (gNm i)) := by
  refine ps_w (ps_set hN hi hx he hs hf) fun D σ H q => ?_
  obtain ⟨m, σd, S, E, s, r, p, w⟩ := q
  exact ⟨m, σd, S, _, s, r, p, fun d S1 m1 v H1 p1 g1 s1 r1 => w.nx _ _ _ _ _ p1 g1 s1 ((r.up g1).set r1 i)⟩
theorem rs_par {i j : Nat} {x y : Str} {a b : Expr} {f : FA} {px py pt : Pos} {kt k2 pt2} (hc : X.calm = true) (hN : X.N.Nodup) (ha : RA X [a, b] f) (hi : X.N[i]? = some x := by rfl) (hj : X.N[j]? = some y := by rfl) (hij : i ≠ j := by decide)
    (hx : X.env.scope.names.lookup x = some .local := by rfl) (hy : X.env.scope.names.lookup y = some .local := by rfl)
    (hw : swappedStores [.Tuple [.Name x px, .Name y py] kt pt] (.Tuple [a, b] k2 pt2) X.env = pure (some [x, y]) := by rfl)
    (hs : swapsWithSole [.Tuple [.Name x px, .Name y py] kt pt] (.Tuple [a, b] k2 pt2) pos.line X.env = pure false := by rfl) :
    RS X (.Assign [.Tuple [.Name x px, .Name y py] kt pt] (.Tuple [a, b] k2 pt2) pos) (sPar i j f) := by
  refine ps_w (ps_par hc hN hi hj hij hx hy ha hw hs) fun D σ H q => ?_
  obtain ⟨m, σd, S, E, s, r, p, w⟩ := q
  refine ⟨m, σd, S, _, s, r, p, fun d S1 m1 v H1 ⟨a, b, e, p1⟩ g1 s1 r1 => ?_⟩
  subst e
  cases r1 with
  | cons ra rb =>
    cases rb with
    | cons rb rn =>
      cases rn
      exact ⟨_, _, rfl, w.nx _ _ _ _ _ p1 g1 s1 (((r.up g1).set ra i).set rb j)⟩
end
end SD
/-! SD3: operators and built-ins over D. -/
namespace SD
open PySem PySem.Spec PyProof.Rows L2

/-! ### dicts by value keys -/
def toKey : D → Option Key
  | .int i => some (.inl i)
  | .str s => some (.inr s)
  | _ => none
theorem toKey_eq {d : D} {k : Key} (h : toKey d = some k) : d = keyD k := by
  cases d <;> simp [toKey] at h <;> subst h <;> rfl
theorem toKey_keyD (k : Key) : toKey (keyD k) = some k := by cases k <;> rfl
def valD (kvs : List (D × D)) (k : D) : Option D := (kvs.find? fun p => decide (p.1 = k)).map (·.2)
def putD (kvs : List (D × D)) (k v : D) : List (D × D) := if kvs.any (fun p => decide (p.1 = k)) then kvs.map fun p => if p.1 = k then (p.1, v) else p else kvs ++ [(k, v)]
theorem RD.key {K : KW} {m : List Addr} {H : Hp} {k : Key} {v : V} (r : RD K m H (keyD k) v) : v = kV k := by
  cases k <;> cases r <;> rfl
theorem RD.ofKey {K : KW} {m : List Addr} {H : Hp} (k : Key) : RD K m H (keyD k) (kV k) := by
  cases k
  · exact .int _
  · exact .str _
section
variable {K : KW} {m : List Addr} {H : Hp}
theorem RKV.val : ∀ {kvs : List (D × D)} {kw : List (Key × V)} (r : RKV K m H kvs kw) (k : Key), (∃ d v, valD kvs (keyD k) = some d ∧ valV kw k = some v ∧ RD K m H d v) ∨ (valD kvs (keyD k) = none ∧ valV kw k = none)
  | _, _, .nil, k => .inr ⟨rfl, rfl⟩
  | (p :: kvs), (q :: kw), .cons h t, k => by
    by_cases e : q.1 = k
    · refine .inl ⟨p.2, q.2, ?_, valV_pos e, h.2⟩
      unfold valD
      rw [List.find?_cons_of_pos (by rw [h.1, e]; exact decide_eq_true rfl)]
      rfl
    · have e' : ¬ p.1 = keyD k := fun z => e (keyD_inj (h.1.symm.trans z))
      have := RKV.val t k
      rw [valV_neg e]
      unfold valD at this ⊢
      rw [List.find?_cons_of_neg (by simpa using e')]
      exact this
theorem RKV.length {kvs : List (D × D)} {kw : List (Key × V)} (r : RKV K m H kvs kw) : kvs.length = kw.length := Paired.length r
theorem RKV.any {kvs : List (D × D)} {kw : List (Key × V)} (r : RKV K m H kvs kw) (k : Key) : (kvs.any fun p => decide (p.1 = keyD k)) = kw.any fun p => decide (p.1 = k) := by
  induction r with
  | nil => rfl
  | @cons p q _ _ h t ih =>
    rw [List.any_cons, List.any_cons, ih, h.1]
    by_cases e : q.1 = k
    · rw [e]; simp
    · rw [decide_eq_false e, decide_eq_false fun z => e (keyD_inj z)]
theorem RKV.repl (k : Key) {d : D} {v : V} (rd : RD K m H d v) : ∀ {kvs : List (D × D)} {kw : List (Key × V)}, RKV K m H kvs kw → RKV K m H (kvs.map fun p => if p.1 = keyD k then (p.1, d) else p) (kw.map fun kv => if kv.1 = k then (kv.1, v) else kv)
  | _, _, .nil => .nil
  | (p :: _), (q :: _), .cons h t => by
    rw [List.map_cons, List.map_cons]
    refine .cons ?_ (RKV.repl k rd t)
    by_cases e : q.1 = k
    · rw [if_pos e, if_pos (by rw [h.1, e])]
      exact ⟨h.1, rd⟩
    · rw [if_neg e, if_neg (by rw [h.1]; exact fun z => e (keyD_inj z))]
      exact h
theorem RKV.snoc (k : Key) {d : D} {v : V} (rd : RD K m H d v) : ∀ {kvs : List (D × D)} {kw : List (Key × V)}, RKV K m H kvs kw → RKV K m H (kvs ++ [(keyD k, d)]) (kw ++ [(k, v)])
  | _, _, .nil => .cons ⟨rfl, rd⟩ .nil
  | _, _, .cons h t => .cons h (RKV.snoc k rd t)
theorem RKV.put {kvs : List (D × D)} {kw : List (Key × V)} (r : RKV K m H kvs kw) (k : Key) {d : D} {v : V} (rd : RD K m H d v) : RKV K m H (putD kvs (keyD k) d) (putK kw k v) := by
  unfold putD putK
  rw [r.any k]
  split
  · exact RKV.repl k rd r
  · exact RKV.snoc k rd r
theorem length_putD (kvs : List (D × D)) (k v : D) : (putD kvs k v).length ≤ kvs.length + 1 := by
  unfold putD
  split <;> simp
end

/-! ### reading -/
def ixF : F2 := fun o i S Q => match o, i with
  | .tup xs, .int k => ∃ v, atI xs k = some v ∧ Q v S
  | .frz xs, .int k => ∃ v, atI xs k = some v ∧ Q v S
  | .ref n, i => (match S[n]? with
    | some (.lst xs) => ∃ k v, i = .int k ∧ atI xs k = some v ∧ Q v S
    | some (.dct kvs) => ∃ k v, toKey i = some k ∧ valD kvs i = some v ∧ Q v S
    | some (.lck kvs) => ∃ k v, toKey i = some k ∧ valD kvs i = some v ∧ Q v S
    | _ => False)
  | _, _ => False
section
variable {K : KW} {m : List Addr} {H : Hp}
theorem RDs.atI {xs : List D} {vs : List V} (r : RDs K m H xs vs) {k : Int} {d : D} (h : L2.atI xs k = some d) : ∃ v, L2.atI vs k = some v ∧ RD K m H d v := by
  unfold L2.atI at h ⊢
  rw [← r.length]
  cases e : ixN xs.length k with
  | none => rw [e] at h; cases h
  | some j =>
    rw [e] at h
    exact r.get h
theorem dget_of {kvs : List (D × D)} {kw : List (Key × V)} {p : Addr} {d dk : D} {k : Key} {y : V} (r : RKV K m H kvs kw) (hp : Rd H p (.dK kw)) (hk : toKey dk = some k) (ry : RD K m H dk y) (h : valD kvs dk = some d) : ∃ v, DGet H p y (some v) ∧ RD K m H d v := by
  have e := toKey_eq hk
  subst e
  have ey := ry.key
  subst ey
  rcases r.val k with ⟨d', v, h1, h2, h3⟩ | ⟨h1, _⟩
  · rw [h] at h1; cases h1
    exact ⟨v, .inl ⟨kw, k, hp, rfl, by rw [h2]⟩, h3⟩
  · rw [h] at h1; cases h1
end
section
variable {X : Cx}
def rIxD : R2 := fun x y H Q => ∃ a v, x = .ref a ∧ DGet H a y (some v) ∧ Q v H
theorem ix_dict (hu : X.A.units + 1 < cLine) : IxR X rIxD := by
  intro value slice pins s σ H x y v u Q I rx ry h hs
  obtain ⟨a, w, rfl, g, q⟩ := h
  cases rx
  have hT := dict_typeIs I g
  unfold subscriptTail
  refine wpAny_bind ?_
  rw [getitemInPython_of_ne hT.not_modules]
  refine wpAny_bind (wpAny_specialOf hT PySem.F.slot_dict_getitem.lookup ?_)
  have fin : wpAny (model X.prog X.w) X.A (subscripted slice false (.ref a) u) (fun r s₃ => wpAny (model X.prog X.w) X.A (letTemporaryGo value (.ref a) r >>= fun _ => pure r) (EP X pins σ Q) X.xe s₃) X.xe s := by
    rw [hs]
    exact wpAny_operating (d_getItem hu I g ry fun w' s' I' r' => wpAny_bind (wpAny_letTemporaryGo (wpAny_pure ⟨w, H, I', r', q⟩)))
  first
    | exact wpAny_pure (wpAny_bind fin)
    | exact wpAny_bind (wpAny_pure (wpAny_bind fin))
    | exact wpAny_bind fin
theorem id_ix (hu : X.A.units + 1 < cLine) : IxD X ixF := by
  refine ⟨_, ix_list.or (ix_tup.or (ix_dict hu)), fun m S H x y v u P Q s rx ry h w => ?_⟩
  cases rx with
  | @tup p xs vs a z b =>
    cases ry <;> try exact False.elim h
    obtain ⟨d, h1, h2⟩ := h
    obtain ⟨v, e1, e2⟩ := b.atI h1
    exact .inr (.inl ⟨p, vs, _, v, rfl, rfl, a, e1, w _ _ _ _ _ h2 (.refl _ _) s e2⟩)
  | @frz p xs vs a z b =>
    cases ry <;> try exact False.elim h
    obtain ⟨d, h1, h2⟩ := h
    obtain ⟨v, e1, e2⟩ := b.atI h1
    exact .inl ⟨p, vs, _, v, rfl, rfl, a.sq, e1, w _ _ _ _ _ h2 (.refl _ _) s e2⟩
  | @ref n p a =>
    have h : (match S[n]? with
      | some (.lst xs) => ∃ k v, y = .int k ∧ L2.atI xs k = some v ∧ P v S
      | some (.dct kvs) => ∃ k v, toKey y = some k ∧ valD kvs y = some v ∧ P v S
      | some (.lck kvs) => ∃ k v, toKey y = some k ∧ valD kvs y = some v ∧ P v S
      | _ => False) := h
    cases e : S[n]? with
    | none => rw [e] at h; exact h.elim
    | some c =>
      rw [e] at h
      have r := s.cell n p c a e
      cases c with
      | lst xs =>
        obtain ⟨k, d, rfl, h1, h2⟩ := h
        cases ry
        generalize eo : H p = o at r
        cases r with
        | lst z b =>
          obtain ⟨v, e1, e2⟩ := b.atI h1
          exact .inl ⟨p, _, _, v, rfl, rfl, SqL.of eo, e1, w _ _ _ _ _ h2 (.refl _ _) s e2⟩
      | dct kvs =>
        obtain ⟨k, d, h0, h1, h2⟩ := h
        generalize eo : H p = o at r
        cases r with
        | dct z b =>
          obtain ⟨v, e1, e2⟩ := dget_of b (.inl eo) h0 ry h1
          exact .inr (.inr ⟨p, v, rfl, e1, w _ _ _ _ _ h2 (.refl _ _) s e2⟩)
      | lck kvs =>
        obtain ⟨k, d, h0, h1, h2⟩ := h
        generalize eo : H p = o at r
        cases r with
        | lck z b =>
          obtain ⟨v, e1, e2⟩ := dget_of b (.inr ⟨_, eo⟩) h0 ry h1
          exact .inr (.inr ⟨p, v, rfl, e1, w _ _ _ _ _ h2 (.refl _ _) s e2⟩)
      | tdc kvs => exact h.elim
      | tlk kvs => exact h.elim
  | _ => exact False.elim h
end

/-! ### arithmetic -/
def addF : F2 := fun x y S Q => match x, y with
  | .int i, .int j => Q (.int (i + j)) S
  | .tup xs, .tup ys => xs.length + ys.length ≤ sizeLine ∧ Q (.tup (xs ++ ys)) S
  | .ref n, .ref k => ∃ xs ys, S[n]? = some (.lst xs) ∧ S[k]? = some (.lst ys) ∧ xs.length + ys.length ≤ sizeLine ∧ Q (.ref S.length) (S ++ [.lst (xs ++ ys)])
  | .str a, .str b => a.length + b.length ≤ sizeLine ∧ Q (.str (a ++ b)) S
  | _, _ => False
def intF (f : Int → Int → D) : F2 := fun x y S Q => match x, y with
  | .int i, .int j => Q (f i j) S
  | _, _ => False
def intCF (C : Int → Int → Prop) (f : Int → Int → D) : F2 := fun x y S Q => match x, y with
  | .int i, .int j => C i j ∧ Q (f i j) S
  | _, _ => False
section
variable {X : Cx}
theorem R2R.I0 {K : KW} {g : Int → Int → V} {f : Int → Int → D} (h : ∀ m H i j, RD K m H (f i j) (g i j)) : R2R K (intF f) (rI0 g) := by
  intro m S H x y v u P Q s rx ry p w
  cases rx <;> cases ry <;> first | exact False.elim p | skip
  exact ⟨_, _, rfl, rfl, w _ _ _ _ _ p (.refl _ _) s (h _ _ _ _)⟩
theorem R2R.I {K : KW} {C : Int → Int → Prop} {g : Int → Int → V} {f : Int → Int → D} (h : ∀ m H i j, RD K m H (f i j) (g i j)) : R2R K (intCF C f) (rI C g) := by
  intro m S H x y v u P Q s rx ry p w
  cases rx <;> cases ry <;> first | exact False.elim p | skip
  exact ⟨_, _, rfl, rfl, p.1, w _ _ _ _ _ p.2 (.refl _ _) s (h _ _ _ _)⟩
theorem od_sub : OpD X (binaryOp .Sub) (intF fun i j => .int (i - j)) := ⟨_, op_sub, R2R.I0 fun _ _ _ _ => .int _⟩
theorem od_mul : OpD X (binaryOp .Mult) (intCF CMul fun i j => .int (i * j)) := ⟨_, op_mul, R2R.I fun _ _ _ _ => .int _⟩
theorem od_mod : OpD X (binaryOp .Mod) (intCF (fun _ j => 0 < j) fun i j => .int (i % j)) := ⟨_, op_mod, R2R.I fun _ _ _ _ => .int _⟩
theorem od_fdiv : OpD X (binaryOp .FloorDiv) (intCF CDiv fun i j => .int (i / j)) := ⟨_, op_fdiv, R2R.I fun _ _ _ _ => .int _⟩
theorem od_lt : OpD X (compareOp .Lt) (intF fun i j => .bl (decide (i < j))) := ⟨_, op_lt, R2R.I0 fun _ _ _ _ => .bl _⟩
theorem od_le : OpD X (compareOp .LtE) (intF fun i j => .bl (decide (i ≤ j))) := ⟨_, op_le, R2R.I0 fun _ _ _ _ => .bl _⟩
theorem od_gt : OpD X (compareOp .Gt) (intF fun i j => .bl (decide (j < i))) := ⟨_, op_gt, R2R.I0 fun _ _ _ _ => .bl _⟩
theorem od_ge : OpD X (compareOp .GtE) (intF fun i j => .bl (decide (j ≤ i))) := ⟨_, op_ge, R2R.I0 fun _ _ _ _ => .bl _⟩
theorem RDs.nil_iff {K : KW} {m : List Addr} {H : Hp} {xs : List D} {vs : List V} (r : RDs K m H xs vs) : vs = [] ↔ xs = [] := by
  cases r <;> simp
theorem od_add : OpD X (binaryOp .Add) addF := by
  refine ⟨_, op_add.or (op_catA.or (op_cat.or op_add_str)), fun m S H x y v u P Q s rx ry p w => ?_⟩
  cases rx <;> cases ry <;> first | exact False.elim p | skip
  case int.int i j => exact .inl ⟨_, _, rfl, rfl, w _ _ _ _ _ p (.refl _ _) s (.int _)⟩
  case str.str a b => exact .inr (.inr (.inr ⟨_, _, rfl, rfl, p.1, w _ _ _ _ _ p.2 (.refl _ _) s (.str _)⟩))
  case tup.tup p1 xs vs h1 z1 r1 p2 ys us h2 z2 r2 =>
    obtain ⟨hz, hp⟩ := p
    refine .inr (.inl ⟨p1, p2, vs, us, rfl, rfl, h1, h2, by rw [← r1.length, ← r2.length]; exact hz, fun e => ?_, fun e1 e2 => ?_, fun e1 e2 a ha => ?_⟩)
    · rw [r1.nil_iff.mp e] at hp
      exact w _ _ _ _ _ hp (.refl _ _) s (.tup h2 z2 r2)
    · rw [r2.nil_iff.mp e2, List.append_nil] at hp
      exact w _ _ _ _ _ hp (.refl _ _) s (.tup h1 z1 r1)
    · have g2 : Grow m H m (upd H a (.tup (vs ++ us))) := Grow.new ha _ (List.prefix_refl _)
      refine w _ _ _ _ _ hp g2 (s.plus ha _) (.tup (SqT.of upd_same) ?_ ((r1.up g2).append (r2.up g2)))
      rw [List.length_append, ← r1.length, ← r2.length]; exact hz
  case ref.ref n p1 h1 k p2 h2 =>
    obtain ⟨xs, ys, e1, e2, hz, hp⟩ := p
    have c1 := s.cell n p1 _ h1 e1
    have c2 := s.cell k p2 _ h2 e2
    generalize q1 : H p1 = o1 at c1
    generalize q2 : H p2 = o2 at c2
    cases c1 with
    | lst z1 r1 =>
      cases c2 with
      | lst z2 r2 =>
        refine .inr (.inr (.inl ⟨p1, p2, _, _, rfl, rfl, q1, q2, by rw [← r1.length, ← r2.length]; exact hz, fun a ha => ?_⟩))
        obtain ⟨g2, s2, r⟩ := new_lst s ha (r1.append r2) (by rw [List.length_append]; exact hz)
        exact w _ _ _ _ _ hp g2 s2 r
end

/-! ### == of plain data -/
mutual
def okD : D → Bool
  | .non | .int _ => true
  | .str x => PyData.canLay0 (.str x)
  | .tup xs => okDs xs
  | _ => false
def okDs : List D → Bool
  | [] => true
  | x :: xs => okD x && okDs xs
end
mutual
def toPy : D → PyData
  | .non => .none
  | .bl b => .bool b
  | .int i => .int i
  | .str s => .str s
  | .tup xs => .tuple (toPys xs)
  | .frz xs => .list (toPys xs)
  | .ref _ => .none
def toPys : List D → List PyData
  | [] => []
  | x :: xs => toPy x :: toPys xs
end
def plainD (d : D) : Bool := okD d && decide ((toPy d).depth ≤ 64)
def plainDs (ds : List D) : Bool := okDs ds && decide ((PyData.list (toPys ds)).depth ≤ 64)
mutual
theorem canLay_toPy : ∀ d : D, okD d = true → (toPy d).canLay0 = true
  | .non, _ => rfl
  | .int _, _ => rfl
  | .str x, h => h
  | .tup xs, h => by
    rw [okD] at h
    rw [toPy, PyData.canLay0]
    exact canLay_toPys xs h
  | .bl _, h => by simp [okD] at h
  | .frz _, h => by simp [okD] at h
  | .ref _, h => by simp [okD] at h
theorem canLay_toPys : ∀ ds : List D, okDs ds = true → PyData.canLayAll0 (toPys ds) = true
  | [], _ => rfl
  | x :: xs, h => by
    rw [okDs, Bool.and_eq_true] at h
    rw [toPys, PyData.canLayAll0, canLay_toPy x h.1, canLay_toPys xs h.2]
    rfl
end
theorem shaped_of {d : D} (h : plainD d = true) : SeqAt.shaped (toPy d) = true := by
  unfold plainD at h
  rw [Bool.and_eq_true] at h
  unfold SeqAt.shaped
  rw [canLay_toPy d h.1]
  simpa using h.2
mutual
theorem eqv_toPy : ∀ a b : D, okD a = true → okD b = true → PyData.eqv (toPy a) (toPy b) = decide (a = b)
  | .non, b, _, h => by cases b <;> simp [okD] at h <;> simp [toPy, PyData.eqv]
  | .int a, b, _, h => by
    cases b <;> simp [okD] at h <;> simp [toPy, PyData.eqv]
    rename_i b
    by_cases e : a = b <;> simp [e]
  | .str a, b, _, h => by
    cases b <;> simp [okD] at h <;> simp [toPy, PyData.eqv]
    rename_i b
    by_cases e : a = b <;> simp [e]
  | .tup a, b, ha, h => by
    cases b with
    | tup b =>
      rw [okD] at ha h
      simp only [toPy, PyData.eqv]
      rw [eqv_toPys a b ha h]
      by_cases e : a = b <;> simp [e]
    | non => simp [toPy, PyData.eqv]
    | int _ => simp [toPy, PyData.eqv]
    | str _ => simp [toPy, PyData.eqv]
    | _ => simp [okD] at h
  | .bl _, _, h, _ => by simp [okD] at h
  | .frz _, _, h, _ => by simp [okD] at h
  | .ref _, _, h, _ => by simp [okD] at h
theorem eqv_toPys : ∀ a b : List D, okDs a = true → okDs b = true → PyData.eqvAll (toPys a) (toPys b) = decide (a = b)
  | [], [], _, _ => by simp [toPys, PyData.eqvAll]
  | [], _ :: _, _, _ => by simp [toPys, PyData.eqvAll]
  | _ :: _, [], _, _ => by simp [toPys, PyData.eqvAll]
  | a :: as, b :: bs, ha, hb => by
    rw [okDs, Bool.and_eq_true] at ha hb
    simp only [toPys, PyData.eqvAll]
    rw [eqv_toPy a b ha.1 hb.1, eqv_toPys as bs ha.2 hb.2]
    by_cases e1 : a = b <;> by_cases e2 : as = bs <;> simp [e1, e2]
end
section
variable {K : KW} {m : List Addr} {H : Hp}
mutual
theorem dp_of : ∀ (d : D) (v : V), okD d = true → RD K m H d v → Dp K H v (toPy d)
  | .non, _, _, h => by cases h; exact .non
  | .int i, _, _, h => by cases h; exact .int i
  | .str i, _, _, h => by cases h; exact .str i
  | .tup xs, _, ok, h => by
    rw [okD] at ok
    cases h with
    | tup a z b => exact .tup a (dps_of xs _ ok b)
  | .bl _, _, h, _ => by simp [okD] at h
  | .frz _, _, h, _ => by simp [okD] at h
  | .ref _, _, h, _ => by simp [okD] at h
theorem dps_of : ∀ (d : List D) (v : List V), okDs d = true → RDs K m H d v → DpAll K H v (toPys d)
  | [], _, _, h => by cases h; exact .nil
  | d :: ds, _, ok, h => by
    rw [okDs, Bool.and_eq_true] at ok
    cases h with
    | cons a b => exact .cons (dp_of d _ ok.1 a) (dps_of ds _ ok.2 b)
end
end
/-- dicts alike -/
def sameD (ks ls : List (D × D)) : Bool := ks.length == ls.length && ks.all fun p => decide (valD ls p.1 = some p.2)
def flatI : D → Bool
  | .int _ => true
  | _ => false
def homD (kvs : List (D × D)) : Prop := (∀ p ∈ kvs, p.2 = .bl true) ∨ (∀ p ∈ kvs, flatI p.2 = true)
def eqF (neg : Bool) : F2 := fun x y S Q => match x, y with
  | .int i, .int j => Q (.bl (decide (i = j) ^^ neg)) S
  | .str i, .str j => Q (.bl (decide (i = j) ^^ neg)) S
  | .bl i, .bl j => Q (.bl (decide (i = j) ^^ neg)) S
  | .ref n, .non => neg = true ∧ (∃ kvs, S[n]? = some (.dct kvs)) ∧ Q (.bl true) S
  | .ref n, .ref k => (∃ ks ls, S[n]? = some (.dct ks) ∧ S[k]? = some (.dct ls) ∧ homD (ks ++ ls) ∧ Q (.bl (sameD ks ls ^^ neg)) S) ∨
      (∃ xs ys, S[n]? = some (.lst xs) ∧ S[k]? = some (.lst ys) ∧ plainDs xs = true ∧ plainDs ys = true ∧ Q (.bl (decide (xs = ys) ^^ neg)) S)
  | x, y => plainD x = true ∧ plainD y = true ∧ Q (.bl (decide (x = y) ^^ neg)) S
def rDN (k : Bool) : R2 := fun x y H Q => ∃ a kvs, x = .ref a ∧ y = .non ∧ H a = some (.dK kvs) ∧ Q (.bl k) H
section
variable {X : Cx}
theorem dict_ne_none {d : Addr} {s : Shared} {Q : Value → Shared → Prop} (hT : s.TypeIs (.ref d) "dict") (h : Q .notImplemented s) : wpAny (model X.prog X.w) X.A (call (.builtin "dict.__ne__") [.ref d, .none]) Q X.xe s := by
  refine wpAny_call_entry PySem.F.slot_dict_ne hT PySem.F.entry_dict_ne ?_ (PySem.F.args_dict_ne_2 _ _)
  show wpAny _ _ (Builtin.Dict.dictSlotArgs "__ne__" ⟨[.ref d, .none], []⟩ >>= _) _ _ s
  refine wpAny_bind ?_
  unfold Builtin.Dict.dictSlotArgs
  refine wpAny_bind (wpAny_notOrdered_dict hT ?_)
  show wpAny _ _ (pure (Value.ref d, Value.none)) _ _ s
  refine wpAny_pure ?_
  refine wpAny_bind (wpAny_isInstance (T := "NoneType") (s := s) rfl PySem.F.sub_NoneType_dict ?_)
  simp only [Bool.not_false, if_true]
  exact wpAny_bind (wpAny_rule (wpAny_pure ⟨_, rfl, h⟩))
theorem op_ne_none (hu : X.A.units < cLine) : OpR X (compareOp .NotEq) (rDN true) := by
  intro pins s σ H x y v u Q I rx ry h
  obtain ⟨a, kvs, rfl, rfl, ea, q⟩ := h
  cases rx
  cases ry
  obtain ⟨_, ya, va, ra, da⟩ := (show ObjOk X.prog X.w H s.heap a (.dK kvs) from I.hok a _ ea)
  exact SeqAt.rc_ne_decline_or (k := false) da.typeIs rfl (by decide) PySem.F.sub_NoneType_dict PySem.F.slot_dict_ne PySem.F.slot_NoneType_ne_refl
    (fun _ hq => dict_ne_none da.typeIs hq)
    (fun _ hq => _root_.PySem.call_gives PySem.F.slot_NoneType_ne_refl rfl PySem.F.entry_NoneType_ne (PySem.F.args_NoneType_ne_2 _ _) (SeqAt.NoneType___ne___none_ref_0 a) hq)
    (fun _ hq => wpAny_of_eq (rfl : isSame (.ref a) .none = pure false) hq) (.inr hu) (fin_bl I q rfl)
end
end SD
/-! SD4: ==, in, len, list, tuple, sorted, any, all, isinstance over D. -/
namespace SD
open PySem PySem.Spec PyProof.Rows L2

/-! ### dicts compared -/
section
variable {X : Cx}
def sameV (ks ls : List (Key × V)) : Bool := ks.length == ls.length && ks.all fun p => match valV ls p.1 with
  | none => false
  | some y => eqV p.2 y
def rDD (neg : Bool) : R2 := fun x y H Q => ∃ a b ks ls, x = .ref a ∧ y = .ref b ∧ H a = some (.dK ks) ∧ H b = some (.dK ls) ∧ (∀ p ∈ ks, flatV p.2 = true) ∧ (∀ p ∈ ls, flatV p.2 = true) ∧ Q (.bl (sameV ks ls ^^ neg)) H
theorem valV_mem {ls : List (Key × V)} {k : Key} {v : V} (h : valV ls k = some v) : ∃ p ∈ ls, p.2 = v := by
  unfold valV at h
  cases e : ls.find? fun kv => decide (kv.1 = k) with
  | none => rw [e] at h; cases h
  | some p =>
    rw [e] at h
    cases h
    exact ⟨p, List.mem_of_find?_eq_some e, rfl⟩
theorem hits_of {A : Around} {s : Shared} {ls : List (Key × V)} {vl : List (Key × Value)} (rl : KV ls vl) (fl : ∀ p ∈ ls, flatV p.2 = true) :
    ∀ {ks : List (Key × V)} {vk : List (Key × Value)}, KV ks vk → (∀ p ∈ ks, flatV p.2 = true) → PySem.W.KeqHits A s vl vk (ks.all fun p => match valV ls p.1 with
      | none => false
      | some y => eqV p.2 y)
  | _, _, .nil, _ => .nil
  | (p :: ks), (q :: vk), .cons h t, f => by
    rw [List.all_cons]
    obtain ⟨k, v⟩ := q
    have ek : p.1 = k := h.1
    have rv : RelV p.2 v := h.2
    have rr := rl.val p.1
    rw [ek] at rr ⊢
    cases e : valV ls k with
    | none =>
      rw [e] at rr
      cases e2 : valueAt vl k with
      | none => exact .miss e2
      | some _ => rw [e2] at rr; exact rr.elim
    | some y =>
      rw [e] at rr
      cases e2 : valueAt vl k with
      | none => rw [e2] at rr; exact rr.elim
      | some u =>
        rw [e2] at rr
        obtain ⟨z, hz, ez⟩ := valV_mem e
        exact .hit e2 (eqAt_V rv rr (f p List.mem_cons_self) (by rw [← ez]; exact fl z hz)) (hits_of rl fl t fun p hp => f p (List.mem_cons_of_mem _ hp))
theorem op_dd_eq (hu : X.A.units < cLine) : OpR X (compareOp .Eq) (rDD false) := by
  intro pins s σ H x y v u Q I rx ry h
  obtain ⟨a, b, ks, ls, rfl, rfl, ea, eb, fk, fl, q⟩ := h
  cases rx
  cases ry
  obtain ⟨_, ya, va, ra, da⟩ := (show ObjOk X.prog X.w H s.heap a (.dK ks) from I.hok a _ ea)
  obtain ⟨_, yb, vb, rb, db⟩ := (show ObjOk X.prog X.w H s.heap b (.dK ls) from I.hok b _ eb)
  exact PySem.W.keq_eq (knd := mixKind X.prog X.w) ya yb da db hu (fun _ => hits_of rb fl ra fk) (fin_bl I q (by unfold sameV; rw [Bool.xor_false, ra.length, rb.length]))
theorem op_dd_ne (hu : X.A.units < cLine) : OpR X (compareOp .NotEq) (rDD true) := by
  intro pins s σ H x y v u Q I rx ry h
  obtain ⟨a, b, ks, ls, rfl, rfl, ea, eb, fk, fl, q⟩ := h
  cases rx
  cases ry
  obtain ⟨_, ya, va, ra, da⟩ := (show ObjOk X.prog X.w H s.heap a (.dK ks) from I.hok a _ ea)
  obtain ⟨_, yb, vb, rb, db⟩ := (show ObjOk X.prog X.w H s.heap b (.dK ls) from I.hok b _ eb)
  exact PySem.W.keq_ne (knd := mixKind X.prog X.w) ya yb da db hu (fun _ => hits_of rb fl ra fk) (fin_bl I q (by unfold sameV; rw [Bool.xor_true, ra.length, rb.length]))
end
section
variable {K : KW} {m : List Addr} {H : Hp}
theorem flat_of {d : D} {v : V} (r : RD K m H d v) (h : d = .bl true ∨ flatI d = true) : flatV v = true := by
  rcases h with h | h
  · subst h; cases r; rfl
  · cases r <;> first | rfl | (simp [flatI] at h)
theorem RKV.mem_r : ∀ {kvs : List (D × D)} {kw : List (Key × V)}, RKV K m H kvs kw → ∀ q ∈ kw, ∃ p ∈ kvs, p.1 = keyD q.1 ∧ RD K m H p.2 q.2
  | _, _, .nil, _, h => by cases h
  | _, _, .cons h t, q, hq => by
    rcases List.mem_cons.mp hq with rfl | hq
    · exact ⟨_, List.mem_cons_self, h⟩
    · obtain ⟨p, a, b⟩ := RKV.mem_r t q hq
      exact ⟨p, List.mem_cons_of_mem _ a, b⟩
theorem hom_flat {ks : List (D × D)} {kw : List (Key × V)} (r : RKV K m H ks kw) (h : homD ks) : ∀ p ∈ kw, flatV p.2 = true := by
  intro q hq
  obtain ⟨p, hp, _, rd⟩ := r.mem_r q hq
  rcases h with h | h
  · exact flat_of rd (.inl (h p hp))
  · exact flat_of rd (.inr (h p hp))
theorem homD.left {a b : List (D × D)} (h : homD (a ++ b)) : homD a := h.imp (fun h p hp => h p (List.mem_append_left _ hp)) fun h p hp => h p (List.mem_append_left _ hp)
theorem homD.right {a b : List (D × D)} (h : homD (a ++ b)) : homD b := h.imp (fun h p hp => h p (List.mem_append_right _ hp)) fun h p hp => h p (List.mem_append_right _ hp)
theorem eqV_hom {d e : D} {v w : V} (rd : RD K m H d v) (re : RD K m H e w) (h : (d = .bl true ∧ e = .bl true) ∨ (flatI d = true ∧ flatI e = true)) : eqV v w = decide (e = d) := by
  rcases h with ⟨rfl, rfl⟩ | ⟨h1, h2⟩
  · cases rd; cases re; rfl
  · cases rd <;> first | (simp [flatI] at h1; done) | skip
    cases re <;> first | (simp [flatI] at h2; done) | skip
    rename_i i j
    simp only [eqV, D.int.injEq]
    by_cases q : i = j
    · subst q; simp
    · rw [decide_eq_false (fun z => q z.symm)]
      simpa using q
theorem sameV_eq {ks ls : List (D × D)} {kw lw : List (Key × V)} (rk : RKV K m H ks kw) (rl : RKV K m H ls lw) (h : homD (ks ++ ls)) : sameV kw lw = sameD ks ls := by
  unfold sameV sameD
  rw [rk.length, rl.length]
  congr 1
  have hm : ∀ p ∈ ks, ∀ q ∈ ls, (p.2 = .bl true ∧ q.2 = .bl true) ∨ (flatI p.2 = true ∧ flatI q.2 = true) := fun p hp q hq =>
    h.imp (fun h => ⟨h p (List.mem_append_left _ hp), h q (List.mem_append_right _ hq)⟩) fun h => ⟨h p (List.mem_append_left _ hp), h q (List.mem_append_right _ hq)⟩
  clear h
  induction rk with
  | nil => rfl
  | @cons p q ks kw hd t ih =>
    rw [List.all_cons, List.all_cons, ih fun p hp => hm p (List.mem_cons_of_mem _ hp)]
    congr 1
    rw [hd.1]
    rcases rl.val q.1 with ⟨d, v, e1, e2, r⟩ | ⟨e1, e2⟩
    · rw [e1, e2]
      have hmem : ∃ z ∈ ls, z.2 = d := by
        unfold valD at e1
        cases e : ls.find? fun kv => decide (kv.1 = keyD q.1) with
        | none => rw [e] at e1; cases e1
        | some z =>
          rw [e] at e1
          cases e1
          exact ⟨z, List.mem_of_find?_eq_some e, rfl⟩
      obtain ⟨z, hz, rfl⟩ := hmem
      show eqV q.2 v = _
      rw [eqV_hom hd.2 r (hm p List.mem_cons_self z hz)]
      simp
    · rw [e1, e2]
      simp
end

/-! ### == and != -/
section
variable {X : Cx}
theorem eq_dp {K : KW} {m : List Addr} {H : Hp} {x y : D} {v u : V} (rx : RD K m H x v) (ry : RD K m H y u) (hx : plainD x = true) (hy : plainD y = true) :
    ∃ d e, Dp K H v d ∧ Dp K H u e ∧ SeqAt.shaped d = true ∧ SeqAt.shaped e = true ∧ PyData.eqv d e = decide (x = y) := by
  have ox : okD x = true := (Bool.and_eq_true_iff.mp hx).1
  have oy : okD y = true := (Bool.and_eq_true_iff.mp hy).1
  exact ⟨_, _, dp_of x v ox rx, dp_of y u oy ry, shaped_of hx, shaped_of hy, eqv_toPy x y ox oy⟩
theorem eq_dps {K : KW} {m : List Addr} {H : Hp} {xs ys : List D} {vs us : List V} {a b : Addr} (rx : RDs K m H xs vs) (ry : RDs K m H ys us) (ha : H a = some (.lst vs)) (hb : H b = some (.lst us)) (hx : plainDs xs = true) (hy : plainDs ys = true) :
    ∃ d e, Dp K H (.ref a) d ∧ Dp K H (.ref b) e ∧ SeqAt.shaped d = true ∧ SeqAt.shaped e = true ∧ PyData.eqv d e = decide (xs = ys) := by
  have ox : okDs xs = true := (Bool.and_eq_true_iff.mp hx).1
  have oy : okDs ys = true := (Bool.and_eq_true_iff.mp hy).1
  refine ⟨.list (toPys xs), .list (toPys ys), .lst (SqL.of ha) (dps_of xs vs ox rx), .lst (SqL.of hb) (dps_of ys us oy ry), ?_, ?_, by rw [PyData.eqv]; exact eqv_toPys xs ys ox oy⟩
  · unfold SeqAt.shaped
    rw [PyData.canLay0, canLay_toPys xs ox]
    simpa using (Bool.and_eq_true_iff.mp hx).2
  · unfold SeqAt.shaped
    rw [PyData.canLay0, canLay_toPys ys oy]
    simpa using (Bool.and_eq_true_iff.mp hy).2
theorem eqF_plain {x y : D} {S : Store} {P : PD} {neg : Bool} (h : eqF neg x y S P) (hx : ∀ n, x ≠ .ref n) : (∃ i j, x = .int i ∧ y = .int j ∧ P (.bl (decide (i = j) ^^ neg)) S) ∨ (∃ i j, x = .str i ∧ y = .str j ∧ P (.bl (decide (i = j) ^^ neg)) S) ∨
    (∃ i j, x = .bl i ∧ y = .bl j ∧ P (.bl (decide (i = j) ^^ neg)) S) ∨ (plainD x = true ∧ plainD y = true ∧ P (.bl (decide (x = y) ^^ neg)) S) := by
  cases x with
  | ref n => exact absurd rfl (hx n)
  | int i => cases y <;> first | exact .inl ⟨_, _, rfl, rfl, h⟩ | exact .inr (.inr (.inr h))
  | str i => cases y <;> first | exact .inr (.inl ⟨_, _, rfl, rfl, h⟩) | exact .inr (.inr (.inr h))
  | bl i => cases y <;> first | exact .inr (.inr (.inl ⟨_, _, rfl, rfl, h⟩)) | exact .inr (.inr (.inr h))
  | _ => exact .inr (.inr (.inr h))
theorem eqF_ref {n : Nat} {y : D} {S : Store} {P : PD} {neg : Bool} (h : eqF neg (.ref n) y S P) : (y = .non ∧ neg = true ∧ (∃ kvs, S[n]? = some (.dct kvs)) ∧ P (.bl true) S) ∨
    (∃ k ks ls, y = .ref k ∧ S[n]? = some (.dct ks) ∧ S[k]? = some (.dct ls) ∧ homD (ks ++ ls) ∧ P (.bl (sameD ks ls ^^ neg)) S) ∨
    (∃ k xs ys, y = .ref k ∧ S[n]? = some (.lst xs) ∧ S[k]? = some (.lst ys) ∧ plainDs xs = true ∧ plainDs ys = true ∧ P (.bl (decide (xs = ys) ^^ neg)) S) := by
  have no : ¬ plainD (.ref n) = true := by simp [plainD, okD]
  cases y with
  | non => exact .inl ⟨rfl, h.1, h.2.1, h.2.2⟩
  | ref k =>
    rcases h with ⟨ks, ls, a⟩ | ⟨xs, ys, a⟩
    · exact .inr (.inl ⟨k, ks, ls, rfl, a⟩)
    · exact .inr (.inr ⟨k, xs, ys, rfl, a⟩)
  | _ => exact absurd h.1 no
theorem od_eq (hu : X.A.units + 64 < cLine) : OpD X (compareOp .Eq) (eqF false) := by
  refine ⟨_, op_eq.or ((op_eqD hu).or (op_dd_eq (by omega))), fun m S H x y v u P Q s rx ry p w => ?_⟩
  by_cases hx : ∃ n, x = .ref n
  · obtain ⟨n, rfl⟩ := hx
    cases rx with
    | @ref _ pa ha =>
      rcases eqF_ref p with ⟨_, z, _⟩ | ⟨k, ks, ls, rfl, e1, e2, hh, p⟩ | ⟨k, xs, ys, rfl, e1, e2, h1, h2, p⟩
      · cases z
      · cases ry with
        | @ref _ pb hb =>
        have r1 := s.cell _ _ _ ha e1
        have r2 := s.cell _ _ _ hb e2
        generalize q1 : H pa = o1 at r1
        generalize q2 : H pb = o2 at r2
        cases r1 with
        | dct z1 r1 =>
          cases r2 with
          | dct z2 r2 =>
            refine .inr (.inr ⟨pa, pb, _, _, rfl, rfl, q1, q2, hom_flat r1 hh.left, hom_flat r2 hh.right, ?_⟩)
            rw [sameV_eq r1 r2 hh]
            exact w _ _ _ _ _ p (.refl _ _) s (.bl _)
      · cases ry with
        | @ref _ pb hb =>
        have r1 := s.cell _ _ _ ha e1
        have r2 := s.cell _ _ _ hb e2
        generalize q1 : H pa = o1 at r1
        generalize q2 : H pb = o2 at r2
        cases r1 with
        | lst z1 r1 =>
          cases r2 with
          | lst z2 r2 =>
            obtain ⟨d, e, a1, a2, a3, a4, a5⟩ := eq_dps r1 r2 q1 q2 h1 h2
            refine .inr (.inl ⟨d, e, a1, a2, a3, a4, ?_⟩)
            rw [a5]
            rw [Bool.xor_false] at p
            exact w _ _ _ _ _ p (.refl _ _) s (.bl _)
  · rcases eqF_plain p fun n e => hx ⟨n, e⟩ with ⟨i, j, rfl, rfl, p'⟩ | ⟨i, j, rfl, rfl, p'⟩ | ⟨i, j, rfl, rfl, p'⟩ | ⟨h1, h2, p'⟩
    · cases rx; cases ry
      rw [Bool.xor_false] at p'
      exact .inl ⟨rfl, w _ _ _ _ _ p' (.refl _ _) s (by rw [dec_int, Bool.beq_eq_decide_eq]; exact .bl _)⟩
    · cases rx; cases ry
      rw [Bool.xor_false] at p'
      exact .inl ⟨rfl, w _ _ _ _ _ p' (.refl _ _) s (by rw [dec_str, Bool.beq_eq_decide_eq]; exact .bl _)⟩
    · cases rx; cases ry
      rw [Bool.xor_false] at p'
      exact .inl ⟨rfl, w _ _ _ _ _ p' (.refl _ _) s (by rw [dec_bl, Bool.beq_eq_decide_eq]; exact .bl _)⟩
    · obtain ⟨d, e, a1, a2, a3, a4, a5⟩ := eq_dp rx ry h1 h2
      refine .inr (.inl ⟨d, e, a1, a2, a3, a4, ?_⟩)
      rw [a5]
      rw [Bool.xor_false] at p'
      exact w _ _ _ _ _ p' (.refl _ _) s (.bl _)
theorem od_ne (hu : X.A.units + 64 < cLine) : OpD X (compareOp .NotEq) (eqF true) := by
  refine ⟨_, op_ne.or ((op_neD hu).or ((op_dd_ne (by omega)).or (op_ne_none (by omega)))), fun m S H x y v u P Q s rx ry p w => ?_⟩
  by_cases hx : ∃ n, x = .ref n
  · obtain ⟨n, rfl⟩ := hx
    cases rx with
    | @ref _ pa ha =>
      rcases eqF_ref p with ⟨rfl, z, ⟨kvs, e1⟩, p⟩ | ⟨k, ks, ls, rfl, e1, e2, hh, p⟩ | ⟨k, xs, ys, rfl, e1, e2, h1, h2, p⟩
      · cases ry
        have r1 := s.cell _ _ _ ha e1
        generalize q1 : H pa = o1 at r1
        cases r1 with
        | dct z1 r1 => exact .inr (.inr (.inr ⟨pa, _, rfl, rfl, q1, w _ _ _ _ _ p (.refl _ _) s (.bl _)⟩))
      · cases ry with
        | @ref _ pb hb =>
        have r1 := s.cell _ _ _ ha e1
        have r2 := s.cell _ _ _ hb e2
        generalize q1 : H pa = o1 at r1
        generalize q2 : H pb = o2 at r2
        cases r1 with
        | dct z1 r1 =>
          cases r2 with
          | dct z2 r2 =>
            refine .inr (.inr (.inl ⟨pa, pb, _, _, rfl, rfl, q1, q2, hom_flat r1 hh.left, hom_flat r2 hh.right, ?_⟩))
            rw [sameV_eq r1 r2 hh]
            exact w _ _ _ _ _ p (.refl _ _) s (.bl _)
      · cases ry with
        | @ref _ pb hb =>
        have r1 := s.cell _ _ _ ha e1
        have r2 := s.cell _ _ _ hb e2
        generalize q1 : H pa = o1 at r1
        generalize q2 : H pb = o2 at r2
        cases r1 with
        | lst z1 r1 =>
          cases r2 with
          | lst z2 r2 =>
            obtain ⟨d, e, a1, a2, a3, a4, a5⟩ := eq_dps r1 r2 q1 q2 h1 h2
            refine .inr (.inl ⟨d, e, a1, a2, a3, a4, ?_⟩)
            rw [a5]
            rw [Bool.xor_true] at p
            exact w _ _ _ _ _ p (.refl _ _) s (.bl _)
  · rcases eqF_plain p fun n e => hx ⟨n, e⟩ with ⟨i, j, rfl, rfl, p'⟩ | ⟨i, j, rfl, rfl, p'⟩ | ⟨i, j, rfl, rfl, p'⟩ | ⟨h1, h2, p'⟩
    · cases rx; cases ry
      rw [Bool.xor_true] at p'
      exact .inl ⟨rfl, w _ _ _ _ _ p' (.refl _ _) s (by rw [dec_int, Bool.beq_eq_decide_eq]; exact .bl _)⟩
    · cases rx; cases ry
      rw [Bool.xor_true] at p'
      exact .inl ⟨rfl, w _ _ _ _ _ p' (.refl _ _) s (by rw [dec_str, Bool.beq_eq_decide_eq]; exact .bl _)⟩
    · cases rx; cases ry
      rw [Bool.xor_true] at p'
      exact .inl ⟨rfl, w _ _ _ _ _ p' (.refl _ _) s (by rw [dec_bl, Bool.beq_eq_decide_eq]; exact .bl _)⟩
    · obtain ⟨d, e, a1, a2, a3, a4, a5⟩ := eq_dp rx ry h1 h2
      refine .inr (.inl ⟨d, e, a1, a2, a3, a4, ?_⟩)
      rw [a5]
      rw [Bool.xor_true] at p'
      exact w _ _ _ _ _ p' (.refl _ _) s (.bl _)
end
end SD
/-! SD5: in, len, list, tuple, sorted, any, all, isinstance, slices, stores, methods over D. -/
namespace SD
open PySem PySem.Spec PyProof.Rows L2

/-! ### what a sequence is -/
def seqC : Option Cell → Option (List D)
  | some (.lst xs) => some xs
  | _ => none
def dicC : Option Cell → Option (List (D × D))
  | some (.dct kvs) => some kvs
  | some (.lck kvs) => some kvs
  | _ => none
/-- the items of a list or tuple -/
def seqD (S : Store) : D → Option (List D)
  | .tup xs => some xs
  | .frz xs => some xs
  | .ref n => seqC S[n]?
  | _ => none
def dictD (S : Store) : D → Option (List (D × D))
  | .ref n => dicC S[n]?
  | _ => none
section
variable {K : KW} {m : List Addr} {H : Hp} {S : Store}
theorem seq_at (s : Sim K m S H) {d : D} {v : V} {xs : List D} (r : RD K m H d v) (h : seqD S d = some xs) : ∃ p vs, v = .ref p ∧ (SqL K H p vs ∨ SqT K H p vs) ∧ RDs K m H xs vs ∧ vs.length ≤ sizeLine := by
  cases r with
  | @tup p ys vs a z b => cases h; exact ⟨p, vs, rfl, .inr a, b, z⟩
  | @frz p ys vs a z b => cases h; exact ⟨p, vs, rfl, .inl a.sq, b, z⟩
  | @ref n p a =>
    have h : seqC S[n]? = some xs := h
    cases e : S[n]? with
    | none => rw [e] at h; cases h
    | some c =>
      rw [e] at h
      have rc := s.cell n p c a e
      cases c with
      | lst ys =>
        cases h
        generalize eo : H p = o at rc
        cases rc with
        | lst z b => exact ⟨p, _, rfl, .inl (SqL.of eo), b, by rw [← b.length]; exact z⟩
      | dct _ => cases h
      | lck _ => cases h
      | tdc _ => cases h
      | tlk _ => cases h
  | _ => cases h
theorem dict_at (s : Sim K m S H) {d : D} {v : V} {kvs : List (D × D)} (r : RD K m H d v) (h : dictD S d = some kvs) : ∃ p kw, v = .ref p ∧ Rd H p (.dK kw) ∧ RKV K m H kvs kw ∧ kvs.length ≤ sizeLine := by
  cases r with
  | @ref n p a =>
    have h : dicC S[n]? = some kvs := h
    cases e : S[n]? with
    | none => rw [e] at h; cases h
    | some c =>
      rw [e] at h
      have rc := s.cell n p c a e
      cases c with
      | lst ys => cases h
      | dct ks =>
        cases h
        generalize eo : H p = o at rc
        cases rc with
        | dct z b => exact ⟨p, _, rfl, .inl eo, b, z⟩
      | lck ks =>
        cases h
        generalize eo : H p = o at rc
        cases rc with
        | lck z b => exact ⟨p, _, rfl, .inr ⟨_, eo⟩, b, z⟩
      | tdc ks => cases h
      | tlk ks => cases h
  | _ => cases h
theorem lst_at (s : Sim K m S H) {n : Nat} {v : V} {xs : List D} (r : RD K m H (.ref n) v) (h : S[n]? = some (.lst xs)) : ∃ p vs, v = .ref p ∧ m[n]? = some p ∧ H p = some (.lst vs) ∧ RDs K m H xs vs ∧ xs.length ≤ sizeLine := by
  cases r with
  | @ref n p a =>
    have rc := s.cell n p _ a h
    generalize eo : H p = o at rc
    cases rc with
    | lst z b => exact ⟨p, _, rfl, a, eo, b, z⟩
theorem dct_at (s : Sim K m S H) {n : Nat} {v : V} {kvs : List (D × D)} (r : RD K m H (.ref n) v) (h : S[n]? = some (.dct kvs)) : ∃ p kw, v = .ref p ∧ m[n]? = some p ∧ H p = some (.dK kw) ∧ RKV K m H kvs kw ∧ kvs.length ≤ sizeLine := by
  cases r with
  | @ref n p a =>
    have rc := s.cell n p _ a h
    generalize eo : H p = o at rc
    cases rc with
    | dct z b => exact ⟨p, _, rfl, a, eo, b, z⟩
end

/-! ### in -/
def flatD : D → Bool
  | .non => true
  | .int _ => true
  | .str _ => true
  | _ => false
def inF (neg : Bool) : F2 := fun x y S Q => match y with
  | .tup xs => flatD x = true ∧ xs.all flatD = true ∧ Q (.bl (decide (x ∈ xs) ^^ neg)) S
  | .ref n => (match S[n]? with
    | some (.lst xs) => flatD x = true ∧ xs.all flatD = true ∧ Q (.bl (decide (x ∈ xs) ^^ neg)) S
    | some (.dct kvs) => ∃ k, toKey x = some k ∧ Q (.bl ((valD kvs x).isSome ^^ neg)) S
    | some (.lck kvs) => ∃ k, toKey x = some k ∧ Q (.bl ((valD kvs x).isSome ^^ neg)) S
    | _ => False)
  | _ => False
section
variable {K : KW} {m : List Addr} {H : Hp}
theorem flatV_of {d : D} {v : V} (r : RD K m H d v) (h : flatD d = true) : flatV v = true := by
  cases r <;> first | rfl | (simp [flatD] at h)
theorem eqV_of {d e : D} {v w : V} (r : RD K m H d v) (q : RD K m H e w) (h : flatD d = true) (h' : flatD e = true) : eqV w v = decide (d = e) := by
  cases r <;> first | (simp [flatD] at h; done) | skip
  all_goals cases q <;> first | (simp [flatD] at h'; done) | skip
  all_goals first | rfl | skip
  · rename_i a b
    simp only [eqV, D.int.injEq]
    by_cases e : a = b
    · subst e; simp
    · rw [decide_eq_false e]
      simpa using fun z : b = a => e z.symm
  · rename_i a b
    simp only [eqV, D.str.injEq]
    by_cases e : a = b
    · subst e; simp
    · rw [decide_eq_false e]
      simpa using fun z : b = a => e z.symm
theorem flats_of : ∀ {ds : List D} {vs : List V}, RDs K m H ds vs → ds.all flatD = true → vs.all flatV = true
  | _, _, .nil, _ => rfl
  | _, _, .cons r t, h => by
    rw [List.all_cons, Bool.and_eq_true] at h ⊢
    exact ⟨flatV_of r h.1, flats_of t h.2⟩
theorem inV_of {d : D} {v : V} (rd : RD K m H d v) (hd : flatD d = true) : ∀ {ds : List D} {vs : List V}, RDs K m H ds vs → ds.all flatD = true → inV v vs = decide (d ∈ ds)
  | _, _, .nil, _ => by simp [inV]
  | _, _, .cons r t, h => by
    rw [List.all_cons, Bool.and_eq_true] at h
    unfold inV
    rw [List.any_cons, eqV_of rd r hd h.1]
    have := inV_of rd hd t h.2
    unfold inV at this
    rw [this]
    simp
end
section
variable {X : Cx}
def rInD (neg : Bool) : R2 := fun x y H Q => ∃ a o, y = .ref a ∧ DGet H a x o ∧ Q (.bl (o.isSome ^^ neg)) H
theorem op_in_d (hu : X.A.units + 1 < cLine) : OpR X (compareOp .In) (rInD false) := by
  intro pins s σ H x y v u Q I rx ry h
  obtain ⟨a, o, rfl, g, q⟩ := h
  cases ry
  exact d_in hu I g rx fun s' I' => ⟨.bl _, H, I', rfl, by rw [Bool.xor_false] at q; exact q⟩
theorem op_notin_d (hu : X.A.units + 1 < cLine) : OpR X (compareOp .NotIn) (rInD true) := by
  intro pins s σ H x y v u Q I rx ry h
  obtain ⟨a, o, rfl, g, q⟩ := h
  cases ry
  exact d_notIn hu I g rx fun s' I' => ⟨.bl _, H, I', rfl, by rw [Bool.xor_true] at q; exact q⟩
theorem dget_any {K : KW} {m : List Addr} {H : Hp} {kvs : List (D × D)} {kw : List (Key × V)} {p : Addr} {dk : D} {k : Key} {y : V} (r : RKV K m H kvs kw) (hp : Rd H p (.dK kw)) (hk : toKey dk = some k) (ry : RD K m H dk y) :
    ∃ o, DGet H p y o ∧ o.isSome = (valD kvs dk).isSome := by
  have e := toKey_eq hk
  subst e
  have ey := ry.key
  subst ey
  refine ⟨_, .inl ⟨kw, k, hp, rfl, rfl⟩, ?_⟩
  rcases r.val k with ⟨d', v, h1, h2, h3⟩ | ⟨h1, h2⟩
  · rw [h1, h2]; rfl
  · rw [h1, h2]; rfl
theorem in_R2R {K : KW} {neg : Bool} {r : R2} (hr : ∀ x y H Q, rIn K neg x y H Q ∨ rInD neg x y H Q → r x y H Q) : R2R K (inF neg) r := by
  intro m S H x y v u P Q s rx ry p w
  refine hr v u H Q ?_
  have seq : ∀ {q : Addr} {xs : List D} {vs : List V}, (SqL K H q vs ∨ SqT K H q vs) → RDs K m H xs vs → flatD x = true → xs.all flatD = true → P (.bl (decide (x ∈ xs) ^^ neg)) S → rIn K neg v (.ref q) H Q := fun {q xs vs} hq b f1 f2 p => by
    refine ⟨q, vs, rfl, hq, flatV_of rx f1, flats_of b f2, ?_⟩
    rw [inV_of rx f1 b f2]
    have e : (if neg = true then !decide (x ∈ xs) else decide (x ∈ xs)) = (decide (x ∈ xs) ^^ neg) := by cases neg <;> simp
    rw [e]
    exact w _ _ _ _ _ p (.refl _ _) s (.bl _)
  have dic : ∀ {q : Addr} {kvs : List (D × D)} {kw : List (Key × V)}, Rd H q (.dK kw) → RKV K m H kvs kw → (∃ k, toKey x = some k ∧ P (.bl ((valD kvs x).isSome ^^ neg)) S) → rInD neg v (.ref q) H Q := fun {q kvs kw} hq b ⟨k, hk, p⟩ => by
    obtain ⟨o, g, e⟩ := dget_any b hq hk rx
    exact ⟨q, o, rfl, g, by rw [e]; exact w _ _ _ _ _ p (.refl _ _) s (.bl _)⟩
  cases ry with
  | @tup q xs vs a z b => exact .inl (seq (.inr a) b p.1 p.2.1 p.2.2)
  | @ref n q a =>
    have p : (match S[n]? with
      | some (.lst xs) => flatD x = true ∧ xs.all flatD = true ∧ P (.bl (decide (x ∈ xs) ^^ neg)) S
      | some (.dct kvs) => ∃ k, toKey x = some k ∧ P (.bl ((valD kvs x).isSome ^^ neg)) S
      | some (.lck kvs) => ∃ k, toKey x = some k ∧ P (.bl ((valD kvs x).isSome ^^ neg)) S
      | _ => False) := p
    cases e : S[n]? with
    | none => rw [e] at p; exact p.elim
    | some c =>
      rw [e] at p
      have rc := s.cell n q c a e
      generalize eo : H q = o at rc
      cases rc with
      | lst z b => exact .inl (seq (.inl (SqL.of eo)) b p.1 p.2.1 p.2.2)
      | dct z b => exact .inr (dic (.inl eo) b p)
      | lck z b => exact .inr (dic (.inr ⟨_, eo⟩) b p)
      | tdc z b => exact p.elim
      | tlk z b => exact p.elim
  | _ => exact False.elim p
theorem od_in (hu : X.A.units + 1 < cLine) : OpD X (compareOp .In) (inF false) := ⟨_, op_in_seq.or (op_in_d hu), in_R2R fun _ _ _ _ h => h⟩
theorem od_notin (hu : X.A.units + 1 < cLine) : OpD X (compareOp .NotIn) (inF true) := ⟨_, op_notIn_seq.or (op_notin_d hu), in_R2R fun _ _ _ _ h => h⟩
end

/-! ### len, list, tuple, sorted, any, all, int -/
def lenF : FN := fun xs S Q => match xs with
  | [d] => ∃ n : Nat, ((∃ ys, seqD S d = some ys ∧ n = ys.length) ∨ (∃ kvs, dictD S d = some kvs ∧ n = kvs.length) ∨ (∃ z, d = .str z ∧ z.length ≤ sizeLine ∧ n = z.length)) ∧ Q (.int n) S
  | _ => False
def listF : FN := fun xs S Q => match xs with
  | [d] => (∃ ys, seqD S d = some ys ∧ Q (.ref S.length) (S ++ [.lst ys])) ∨ (∃ n kvs, d = .ref n ∧ S[n]? = some (.dct kvs) ∧ Q (.ref S.length) (S ++ [.lst (kvs.map (·.1))]))
  | _ => False
def tupleF : FN := fun xs S Q => match xs with
  | [d] => ∃ ys, seqD S d = some ys ∧ Q (.tup ys) S
  | _ => False
/-- sorted of ints -/
def sortedF : FN := fun xs S Q => match xs with
  | [d] => ∃ ns : List Int, seqD S d = some (ns.map D.int) ∧ (∃ n, d = .ref n) ∧ ∀ ns' : List Int, ns'.Perm ns → ns'.Pairwise (· ≤ ·) → Q (.ref S.length) (S ++ [.lst (ns'.map D.int)])
  | _ => False
def boolsF (f : List Bool → Bool) : FN := fun xs S Q => match xs with
  | [d] => ∃ bs : List Bool, seqD S d = some (bs.map D.bl) ∧ (∃ n, d = .ref n) ∧ Q (.bl (f bs)) S
  | _ => False
section
variable {K : KW} {m : List Addr} {H : Hp} {S : Store}
theorem RDs.one {xs : List D} {vs : List V} {d : D} (r : RDs K m H xs vs) (h : xs = [d]) : ∃ v, vs = [v] ∧ RD K m H d v := by
  subst h
  cases r with
  | cons a b => cases b; exact ⟨_, rfl, a⟩
theorem RDs.bls : ∀ {ns : List Bool} {vs : List V}, RDs K m H (ns.map D.bl) vs → vs = ns.map V.bl
  | [], _, h => by cases h; rfl
  | n :: ns, _, h => by
    cases h with
    | cons a b => cases a; rw [RDs.bls b]; rfl
theorem RKV.keysR {kvs : List (D × D)} {kw : List (Key × V)} (r : RKV K m H kvs kw) : RDs K m H (kvs.map (·.1)) (kw.map fun kv => kV kv.1) := by
  induction r with
  | nil => exact .nil
  | @cons p q _ _ h t ih =>
    refine .cons ?_ ih
    show RD K m H p.1 (kV q.1)
    rw [h.1]
    exact RD.ofKey _
end
section
variable {X : Cx}
theorem call_len_dict : CallR X (.builtin "len") (fun xs H Q => ∃ p kvs, xs = [.ref p] ∧ Rd H p (.dK kvs) ∧ Q (.int kvs.length) H) := by
  intro pins s σ H xs us Q I r h
  obtain ⟨p, kvs, rfl, hp, q⟩ := h
  obtain ⟨u, rfl, rx⟩ := vals1 r
  cases rx
  exact d_len I hp fun t s' I' => ⟨.int kvs.length, H, I', ⟨_, rfl⟩, q⟩
theorem cd_len : CallD X (.builtin "len") lenF := by
  refine ⟨_, call_len_seq.or (call_len_dict.or call_len_str), fun m S H xs vs P Q s r p w => ?_⟩
  match xs, p with
  | [d], p =>
    obtain ⟨v, rfl, rd⟩ := r.one rfl
    obtain ⟨n, h, p⟩ := p
    rcases h with ⟨ys, e, rfl⟩ | ⟨kvs, e, rfl⟩ | ⟨z, rfl, hz, rfl⟩
    · obtain ⟨q, ws, rfl, hq, b, hz⟩ := seq_at s rd e
      exact .inl ⟨q, ws, rfl, hq, by rw [← b.length]; exact w _ _ _ _ _ p (.refl _ _) s (.int _)⟩
    · obtain ⟨q, kw, rfl, hq, b, hz⟩ := dict_at s rd e
      exact .inr (.inl ⟨q, kw, rfl, hq, by rw [← b.length]; exact w _ _ _ _ _ p (.refl _ _) s (.int _)⟩)
    · cases rd
      exact .inr (.inr ⟨z, rfl, hz, w _ _ _ _ _ p (.refl _ _) s (.int _)⟩)
theorem cd_list (hc : X.calm = true) : CallD X (.type "list") listF := by
  refine ⟨_, call_list_of.or (call_list_dK hc), fun m S H xs vs P Q s r p w => ?_⟩
  match xs, p with
  | [d], p =>
    obtain ⟨v, rfl, rd⟩ := r.one rfl
    rcases p with ⟨ys, e, p⟩ | ⟨n, kvs, rfl, e, p⟩
    · obtain ⟨q, ws, rfl, hq, b, hz⟩ := seq_at s rd e
      refine .inl ⟨q, ws, rfl, hq, fun a ha => ?_⟩
      obtain ⟨g2, s2, r2⟩ := new_lst s ha b (by rw [b.length]; exact hz)
      exact w _ _ _ _ _ p g2 s2 r2
    · obtain ⟨q, kw, rfl, _, hq, b, hz⟩ := dct_at s rd e
      refine .inr ⟨q, kw, rfl, hq, fun a ha => ?_⟩
      obtain ⟨g2, s2, r2⟩ := new_lst s ha b.keysR (by rw [List.length_map]; exact hz)
      exact w _ _ _ _ _ p g2 s2 r2
theorem cd_tuple : CallD X (.type "tuple") tupleF := by
  refine ⟨_, call_tuple_of, fun m S H xs vs P Q s r p w => ?_⟩
  match xs, p with
  | [d], p =>
    obtain ⟨v, rfl, rd⟩ := r.one rfl
    obtain ⟨ys, e, p⟩ := p
    obtain ⟨q, ws, rfl, hq, b, hz⟩ := seq_at s rd e
    refine ⟨q, ws, rfl, ?_⟩
    rcases hq with hq | hq
    · refine .inl ⟨hq, fun a ha => ?_⟩
      have g2 : Grow m H m (upd H a (.tup ws)) := Grow.new ha _ (List.prefix_refl _)
      exact w _ _ _ _ _ p g2 (s.plus ha _) (.tup (SqT.of upd_same) hz (b.up g2))
    · exact .inr ⟨hq, w _ _ _ _ _ p (.refl _ _) s (.tup hq hz b)⟩
theorem seq_ref {K : KW} {m : List Addr} {H : Hp} {S : Store} (s : Sim K m S H) {n : Nat} {v : V} {xs : List D} (r : RD K m H (.ref n) v) (h : seqD S (.ref n) = some xs) : ∃ p vs, v = .ref p ∧ H p = some (.lst vs) ∧ RDs K m H xs vs ∧ vs.length ≤ sizeLine := by
  have h : seqC S[n]? = some xs := h
  cases e : S[n]? with
  | none => rw [e] at h; cases h
  | some c =>
    rw [e] at h
    cases c with
    | lst ys =>
      cases h
      obtain ⟨p, vs, rfl, _, hp, b, z⟩ := lst_at s r e
      exact ⟨p, vs, rfl, hp, b, by rw [← b.length]; exact z⟩
    | dct _ => cases h
    | lck _ => cases h
    | tdc _ => cases h
    | tlk _ => cases h
theorem cd_sorted : CallD X (.builtin "sorted") sortedF := by
  refine ⟨_, cr_sortedI, fun m S H xs vs P Q s r p w => ?_⟩
  match xs, p with
  | [d], p =>
    obtain ⟨v, rfl, rd⟩ := r.one rfl
    obtain ⟨ns, e, ⟨n, rfl⟩, p⟩ := p
    obtain ⟨q, ws, rfl, hq, b, hz⟩ := seq_ref s rd e
    have e2 := b.ints
    subst e2
    refine ⟨q, ns, rfl, SqL.of hq, fun ns' a h1 h2 ha => ?_⟩
    obtain ⟨g2, s2, r2⟩ := new_lst s ha (RDs.of_ints ns') (by rw [List.length_map, h1.length_eq]; simpa using hz)
    exact w _ _ _ _ _ (p ns' h1 h2) g2 s2 r2
theorem cd_any (hc : X.calm = true) : CallD X (.builtin "any") (boolsF fun bs => bs.any id) := by
  refine ⟨_, cr_any hc, fun m S H xs vs P Q s r p w => ?_⟩
  match xs, p with
  | [d], p =>
    obtain ⟨v, rfl, rd⟩ := r.one rfl
    obtain ⟨bs, e, ⟨n, rfl⟩, p⟩ := p
    obtain ⟨q, ws, rfl, hq, b, hz⟩ := seq_ref s rd e
    have e2 := b.bls
    subst e2
    exact ⟨q, bs, rfl, SqL.of hq, w _ _ _ _ _ p (.refl _ _) s (.bl _)⟩
theorem cd_all (hc : X.calm = true) : CallD X (.builtin "all") (boolsF fun bs => bs.all id) := by
  refine ⟨_, cr_all hc, fun m S H xs vs P Q s r p w => ?_⟩
  match xs, p with
  | [d], p =>
    obtain ⟨v, rfl, rd⟩ := r.one rfl
    obtain ⟨bs, e, ⟨n, rfl⟩, p⟩ := p
    obtain ⟨q, ws, rfl, hq, b, hz⟩ := seq_ref s rd e
    have e2 := b.bls
    subst e2
    exact ⟨q, bs, rfl, SqL.of hq, w _ _ _ _ _ p (.refl _ _) s (.bl _)⟩
/-- int(n) -/
def intF1 : FN := fun xs S Q => match xs with
  | [.int i] => Q (.int i) S
  | _ => False
theorem cd_int : CallD X (.type "int") intF1 := by
  refine ⟨_, call_int1, fun m S H xs vs P Q s r p w => ?_⟩
  match xs, p with
  | [.int i], p =>
    obtain ⟨v, rfl, rd⟩ := r.one rfl
    cases rd
    exact .inl ⟨_, rfl, w _ _ _ _ _ p (.refl _ _) s (.int _)⟩
/-- dict(d) -/
def dictF : FN := fun xs S Q => match xs with
  | [d] => ∃ kvs, dictD S d = some kvs ∧ Q (.ref S.length) (S ++ [.dct kvs])
  | _ => False
theorem new_dct {K : KW} {m : List Addr} {S : Store} {H : Hp} {kvs : List (D × D)} {kw : List (Key × V)} {a : Addr} (s : Sim K m S H) (ha : H a = none) (r : RKV K m H kvs kw) (z : kvs.length ≤ sizeLine) :
    Grow m H (m ++ [a]) (upd H a (.dK kw)) ∧ Sim K (m ++ [a]) (S ++ [.dct kvs]) (upd H a (.dK kw)) ∧ RD K (m ++ [a]) (upd H a (.dK kw)) (.ref S.length) (.ref a) := by
  have g2 : Grow m H (m ++ [a]) (upd H a (.dK kw)) := Grow.new ha _ (List.prefix_append _ _)
  exact ⟨g2, s.alloc ha (.dct z (r.up g2)), .ref (by rw [← s.len]; simp)⟩
theorem cd_dict : CallD X (.type "dict") dictF := by
  refine ⟨_, call_dictD, fun m S H xs vs P Q s r p w => ?_⟩
  match xs, p with
  | [d], p =>
    obtain ⟨v, rfl, rd⟩ := r.one rfl
    obtain ⟨kvs, e, p⟩ := p
    obtain ⟨q, kw, rfl, hq, b, hz⟩ := dict_at s rd e
    refine ⟨q, kw, rfl, hq, fun a ha => ?_⟩
    obtain ⟨g2, s2, r2⟩ := new_dct s ha b hz
    exact w _ _ _ _ _ p g2 s2 r2
/-- {} -/
def eDict0 : FE := fun _ S Q => Q (.ref S.length) (S ++ [.dct []])
theorem re_dict0 {pos : Pos} : RE X (.Dict [] [] pos) eDict0 := by
  refine pe_w pe_dnewK fun σ H Q q => ?_
  obtain ⟨m, σd, S, P, s, r, p, w⟩ := q
  intro a ha
  obtain ⟨g2, s2, r2⟩ := new_dct s ha .nil (Nat.zero_le _)
  exact w _ _ _ _ _ p g2 s2 r2
end
end SD
/-! SD6: stores, methods, displays, loops, comprehensions over D. -/
namespace SD
open PySem PySem.Spec PyProof.Rows L2

/-! ### o[i] = v -/
def setF (o i v : D) (S : Store) (Q : Store → Prop) : Prop := match o with
  | .ref n => (match S[n]? with
    | some (.lst xs) => ∃ k j, i = .int k ∧ ixN xs.length k = some j ∧ Q (S.set n (.lst (xs.set j v)))
    | some (.dct kvs) => (toKey i).isSome = true ∧ kvs.length < sizeLine ∧ Q (S.set n (.dct (putD kvs i v)))
    | _ => False)
  | _ => False
def gSubD (fo fi : FE) : FG := fun d σ S Q => fo σ S fun o S1 => fi σ S1 fun i S2 => setF o i d S2 fun S3 => Q σ S3
section
variable {X : Cx} {pos : Pos}
def rSetK : TSet := fun o i v H Q => ∃ a H', o = .ref a ∧ DPut H a i v H' ∧ Q H'
theorem set_dictK (hu : X.A.units + 1 < cLine) : PSet X rSetK := by
  intro pins s σ H o i v ov iv u Q I ro ri rv h
  obtain ⟨a, H', rfl, g, q⟩ := h
  cases ro
  exact d_setItem hu I g ri rv fun s' I' => ⟨H', I', q⟩
theorem PSet.or {r r' : TSet} (h : PSet X r) (h' : PSet X r') : PSet X (fun o i v H Q => r o i v H Q ∨ r' o i v H Q) := by
  intro pins s σ H o i v ov iv u Q I ro ri rv q
  rcases q with q | q
  · exact h pins s σ H o i v ov iv u Q I ro ri rv q
  · exact h' pins s σ H o i v ov iv u Q I ro ri rv q
theorem setF_R {K : KW} {m : List Addr} {S : Store} {H : Hp} {o i d : D} {vo vi v : V} {P : Store → Prop} {Q : Hp → Prop} (s : Sim K m S H) (ro : RD K m H o vo) (ri : RD K m H i vi) (rd : RD K m H d v) (h : setF o i d S P)
    (w : ∀ S' H', P S' → Grow m H m H' → Sim K m S' H' → Q H') : rSetL vo vi v H Q ∨ rSetK vo vi v H Q := by
  cases ro with
  | @ref n p a =>
    have h : (match S[n]? with
      | some (.lst xs) => ∃ k j, i = .int k ∧ ixN xs.length k = some j ∧ P (S.set n (.lst (xs.set j d)))
      | some (.dct kvs) => (toKey i).isSome = true ∧ kvs.length < sizeLine ∧ P (S.set n (.dct (putD kvs i d)))
      | _ => False) := h
    cases e : S[n]? with
    | none => rw [e] at h; exact h.elim
    | some c =>
      rw [e] at h
      have rc := s.cell n p c a e
      generalize eo : H p = q at rc
      cases rc with
      | @lst xs vs z b =>
        obtain ⟨k, j, rfl, hj, hp⟩ := h
        cases ri
        have g := Grow.write s a e rfl (.lst (vs.set j v))
        refine .inl ⟨p, vs, k, j, rfl, rfl, eo, by rw [← b.length]; exact hj, w _ _ hp g (s.write a e rfl (.lst (by rw [List.length_set]; exact z) (RDs.set (rd.up g) j (b.up g))))⟩
      | @dct kvs kw z b =>
        obtain ⟨hk, hz, hp⟩ := h
        obtain ⟨k, hk⟩ := Option.isSome_iff_exists.mp hk
        have ek := toKey_eq hk
        subst ek
        have ev := ri.key
        subst ev
        have g := Grow.write s a e rfl (.dK (putK kw k v))
        refine .inr ⟨p, _, rfl, DPut.k eo (by rw [← b.length]; exact hz), w _ _ hp g (s.write a e rfl (.dct ?_ (RKV.put (b.up g) k (rd.up g))))⟩
        have := length_putD kvs (keyD k) d
        omega
      | lck z b => exact h.elim
      | tdc z b => exact h.elim
      | tlk z b => exact h.elim
  | _ => exact False.elim h
theorem rg_sub {o i : Expr} {fo fi : FE} (hu : X.A.units + 1 < cLine) (ho : RE X o fo) (hi : RE X i fi)
    (ha : ∀ v, assign (.Subscript o i pos) X.env v = (do
      let ov ← holding [v] (eval o X.env)
      let iv ← holding [v, ov] (eval i X.env)
      standAt pos
      holding [v, ov, iv] (setItem ov iv v)
      release [v, ov, iv] []) := by intro _; rfl) : RG X (.Subscript o i pos) (gSubD fo fi) := by
  refine pg_w (pg_sub (pos := pos) ho hi (PSet.or set_list (set_dictK hu)) ha) fun v σ H Q q => ?_
  obtain ⟨m, σd, S, d, P, s, r, rd, p, w⟩ := q
  refine ⟨m, σd, S, _, s, r, p, fun od S1 m1 vo H1 p1 g1 s1 r1 => ?_⟩
  refine ⟨m1, σd, S1, _, s1, r.up g1, p1, fun id S2 m2 vi H2 p2 g2 s2 r2 => ?_⟩
  exact setF_R s2 (r1.up g2) r2 (rd.up (g1.trans g2)) p2 fun S' H' hp g s' => w _ _ _ _ _ hp (g1.trans (g2.trans g)) s' (r.up (g1.trans (g2.trans g)))
end

/-! ### op= -/
def IpD (X : Cx) (op : Operator) (fr : F2) : Prop := ∃ r, PIp X op r ∧ R2R (kW X) fr r
def sAug (i : Nat) (f : FE) (fr : F2) : FS := fun E σ S => ∃ x, σ[i]? = some (some x) ∧ f σ S fun y S1 => fr x y S1 fun z S2 => E.nx (σ.set i (some z)) S2
def sAugS (fo fi f : FE) (fr : F2) : FS := fun E σ S => fo σ S fun o S1 => fi σ S1 fun i S2 => ixF o i S2 fun x S3 => f σ S3 fun y S4 => fr x y S4 fun z S5 => setF o i z S5 fun S6 => E.nx σ S6
section
variable {X : Cx} {pos : Pos}
theorem ipd_add : IpD X .Add (intF fun i j => .int (i + j)) := ⟨_, ip_add, R2R.I0 fun _ _ _ _ => .int _⟩
theorem ipd_sub : IpD X .Sub (intF fun i j => .int (i - j)) := ⟨_, ip_sub, R2R.I0 fun _ _ _ _ => .int _⟩
theorem rs_aug {i : Nat} {x : Str} {e : Expr} {f : FE} {op : Operator} {fr : F2} {pos' : Pos} (hN : X.N.Nodup) (ho : IpD X op fr) (he : RE X e f) (hi : X.N[i]? = some x := by rfl) (hx : Loc X.env.scope x := by first | exact Or.inl rfl | exact Or.inr rfl)
    (hf : X.fn x = true ∨ X.env.scope.names.lookup x = some .local := by first | exact .inl rfl | exact .inr rfl | assumption) : RS X (.AugAssign (.Name x pos') op e pos) (sAug i f fr) := by
  obtain ⟨r, h1, h2⟩ := ho
  refine ps_w (ps_aug hN hi hx he h1 hf) fun D σ H q => ?_
  obtain ⟨m, σd, S, E, s, rs, ⟨d, e1, p⟩, w⟩ := q
  obtain ⟨v, e2, rd⟩ := rs.val i d e1
  refine ⟨v, e2, m, σd, S, _, s, rs, p, fun y S1 m1 vy H1 p1 g1 s1 r1 => ?_⟩
  exact h2 m1 S1 H1 d y v vy _ _ s1 (rd.up g1) r1 p1 fun z S2 m2 vz H2 p2 g2 s2 r2 => w.nx _ _ _ _ _ p2 (g1.trans g2) s2 ((rs.up (g1.trans g2)).set r2 i)
def rGet (K : KW) : V → V → Hp → VK → Prop := rIxD
theorem get_dict (hu : X.A.units + 1 < cLine) : PGet X rIxD := by
  intro pins s σ H o i ov iv Q I ro ri h
  obtain ⟨a, v, rfl, g, q⟩ := h
  cases ro
  exact d_getItem hu I g ri fun w' s' I' r' => ⟨v, H, I', r', q⟩
/-- d[k] op= e, d a dict -/
def sAugD (fo fi f : FE) (fr : F2) : FS := fun E σ S => fo σ S fun o S1 => fi σ S1 fun i S2 => ∃ kvs x, dictD S2 o = some kvs ∧ (toKey i).isSome = true ∧ valD kvs i = some x ∧ f σ S2 fun y S4 => fr x y S4 fun z S5 => setF o i z S5 fun S6 => E.nx σ S6
theorem rs_augD {o i e : Expr} {fo fi f : FE} {op : Operator} {fr : F2} {tpos : Pos} (hu : X.A.units + 1 < cLine) (ho : IpD X op fr) (h1 : RE X o fo) (h2 : RE X i fi) (he : RE X e f)
    (ha : ∀ ov iv new, augStore i ov iv new = (do holding [new, ov, iv] (setItem ov iv new); release [new, ov, iv] []; pure .next) := by intros; rfl) : RS X (.AugAssign (.Subscript o i tpos) op e pos) (sAugD fo fi f fr) := by
  obtain ⟨r, hr1, hr2⟩ := ho
  refine ps_w (ps_augS h1 h2 (get_dict hu) he hr1 (PSet.or set_list (set_dictK hu)) ha) fun D σ H q => ?_
  obtain ⟨m, σd, S, E, s, rs, p, w⟩ := q
  refine ⟨m, σd, S, _, s, rs, p, fun od S1 m1 vo H1 p1 g1 s1 r1 => ?_⟩
  refine ⟨m1, σd, S1, _, s1, rs.up g1, p1, fun id S2 m2 vi H2 ⟨kvs, x, d1, d2, d3, p2⟩ g2 s2 r2 => ?_⟩
  obtain ⟨q, kw, e, hq, b, hz⟩ := dict_at s2 (r1.up g2) d1
  obtain ⟨k, hk⟩ := Option.isSome_iff_exists.mp d2
  obtain ⟨v, g, rv⟩ := dget_of b hq hk r2 d3
  refine ⟨q, v, e, g, ?_⟩
  refine ⟨m2, σd, S2, _, s2, rs.up (g1.trans g2), p2, fun y S4 m4 vy H4 p4 g4 s4 r4 => ?_⟩
  refine hr2 m4 S4 H4 x y v vy _ _ s4 (rv.up g4) r4 p4 fun z S5 m5 vz H5 p5 g5 s5 r5 => ?_
  exact setF_R s5 (r1.up (g2.trans (g4.trans g5))) (r2.up (g4.trans g5)) r5 p5 fun S' H' hp g' s' => w.nx _ _ _ _ _ hp (g1.trans (g2.trans (g4.trans (g5.trans g')))) s' (rs.up (g1.trans (g2.trans (g4.trans (g5.trans g')))))
end

/-! ### methods -/
abbrev FM := D → List D → Store → PD → Prop
def tyD (T : String) (S : Store) (d : D) : Prop := (T = "list" ∧ ∃ n ys, d = .ref n ∧ S[n]? = some (.lst ys)) ∨ (T = "dict" ∧ ∃ n ys, d = .ref n ∧ S[n]? = some (.dct ys))
def eMt (T : String) (fr : FM) (fo : FE) (fa : FA) : FE := fun σ S Q => fo σ S fun x S1 => tyD T S1 x ∧ fa σ S1 fun xs S2 => fr x xs S2 Q
def RMR (K : KW) (fr : FM) (r : V → List V → Hp → VK → Prop) : Prop := ∀ m S H x v xs vs P Q, Sim K m S H → RD K m H x v → RDs K m H xs vs → fr x xs S P → WD K m H P Q → r v vs H Q
def MtD (X : Cx) (id : String) (fr : FM) : Prop := ∃ r, MtR X id r ∧ RMR (kW X) fr r
section
variable {X : Cx} {o e : Expr} {es : List Expr} {fo : FE} {fa : FA} {name : Str} {apos cpos : Pos} {T id : String} {fr : FM}
theorem tyD_V {K : KW} {m : List Addr} {S : Store} {H : Hp} {d : D} {v : V} (s : Sim K m S H) (r : RD K m H d v) (h : tyD T S d) : tyV K T v H := by
  rcases h with ⟨rfl, n, ys, rfl, e⟩ | ⟨rfl, n, ys, rfl, e⟩
  · obtain ⟨p, vs, rfl, _, hp, _, _⟩ := lst_at s r e
    exact .inl ⟨rfl, _, SqL.of hp⟩
  · obtain ⟨p, kw, rfl, _, hp, _, _⟩ := dct_at s r e
    exact .inr (.inr (.inl ⟨rfl, .inl ⟨_, hp⟩⟩))
theorem re_mt (pa : PlainAttrs T) (slot : Slot T name id) (hty : typeOf (.builtin id) = pure (.type "method_descriptor")) (hm : MtD X id fr) (ho : RE X o fo) (ha : RA X (e :: es) fa)
    (hbase : attributeBase o name X.env (eval o X.env) = eval o X.env := by rfl)
    (hfew : ((backTo cpos (starEach (e :: es) X.env)).all (fun x => !x.1) && (backToKw cpos (keywordEach [] X.env)).all (fun x => x.1.isSome)
      && decide ((e :: es).length + ([] : List Keyword).length + (if ([] : List Keyword).isEmpty then 0 else 1) < 30)) = true := by rfl)
    (hline : (apos.endLine == cpos.line) = true := by rfl) (hs : starEach (e :: es) X.env = (false, eval e X.env) :: starEach es X.env := by rfl) (hplain : (backTo cpos (starEach es X.env)).any (·.1) = false := by rfl) :
    RE X (.Call (.Attribute o name apos) (e :: es) [] cpos) (eMt T fr fo fa) := by
  obtain ⟨r, h1, h2⟩ := hm
  refine pe_w (pe_bm pa slot hty h1 ho ha hbase hfew hline hs hplain) fun σ H Q q => ?_
  obtain ⟨m, σd, S, P, s, rs, p, w⟩ := q
  refine ⟨m, σd, S, _, s, rs, p, fun d S1 m1 v H1 ⟨ty, p1⟩ g1 s1 r1 => ⟨tyD_V s1 r1 ty, ?_⟩⟩
  exact ⟨m1, σd, S1, _, s1, rs.up g1, p1, fun xs S2 m2 vs H2 p2 g2 s2 r2 => h2 m2 S2 H2 d v xs vs P Q s2 (r1.up g2) r2 p2 (w.up (g1.trans g2))⟩
theorem re_mt0 (pa : PlainAttrs T) (slot : Slot T name id) (hty : typeOf (.builtin id) = pure (.type "method_descriptor")) (hm : MtD X id fr) (ho : RE X o fo)
    (hbase : attributeBase o name X.env (eval o X.env) = eval o X.env := by rfl) (hline : (apos.endLine == cpos.line) = true := by rfl) : RE X (.Call (.Attribute o name apos) [] [] cpos) (eMt T fr fo aNil) := by
  obtain ⟨r, h1, h2⟩ := hm
  refine pe_w (pe_bm0 pa slot hty h1 ho hbase hline) fun σ H Q q => ?_
  obtain ⟨m, σd, S, P, s, rs, p, w⟩ := q
  exact ⟨m, σd, S, _, s, rs, p, fun d S1 m1 v H1 ⟨ty, p1⟩ g1 s1 r1 => ⟨tyD_V s1 r1 ty, h2 m1 S1 H1 d v [] [] P Q s1 r1 .nil p1 (w.up g1)⟩⟩
end
/-- xs.append(y) -/
def appF : FM := fun x xs S Q => ∃ n ys y, x = .ref n ∧ xs = [y] ∧ S[n]? = some (.lst ys) ∧ ys.length < sizeLine ∧ Q .non (S.set n (.lst (ys ++ [y])))
def popF : FM := fun x xs S Q => ∃ n ys y, x = .ref n ∧ xs = [] ∧ S[n]? = some (.lst ys) ∧ ys[ys.length - 1]? = some y ∧ Q y (S.set n (.lst ys.dropLast))
def pop0F : FM := fun x xs S Q => ∃ n y ys, x = .ref n ∧ xs = [.int 0] ∧ S[n]? = some (.lst (y :: ys)) ∧ Q y (S.set n (.lst ys))
def extF : FM := fun x xs S Q => ∃ n k ys zs, x = .ref n ∧ xs = [.ref k] ∧ S[n]? = some (.lst ys) ∧ S[k]? = some (.lst zs) ∧ ys.length + zs.length ≤ sizeLine ∧ Q .non (S.set n (.lst (ys ++ zs)))
def mergeD (kvs more : List (D × D)) : List (D × D) := more.foldl (fun acc p => putD acc p.1 p.2) kvs
def updF : FM := fun x xs S Q => ∃ n k ks ls, x = .ref n ∧ xs = [.ref k] ∧ n ≠ k ∧ S[n]? = some (.dct ks) ∧ dictD S (.ref k) = some ls ∧ ks.length + ls.length ≤ sizeLine ∧ Q .non (S.set n (.dct (mergeD ks ls)))
theorem RDs.dropLast {K : KW} {m : List Addr} {H : Hp} {xs : List D} {vs : List V} (r : RDs K m H xs vs) : RDs K m H xs.dropLast vs.dropLast := by
  rw [List.dropLast_eq_take, List.dropLast_eq_take, r.length]
  exact r.take _
theorem RKV.merge {K : KW} {m : List Addr} {H : Hp} : ∀ {more : List (D × D)} {mw : List (Key × V)}, RKV K m H more mw → ∀ {kvs : List (D × D)} {kw : List (Key × V)}, RKV K m H kvs kw → RKV K m H (mergeD kvs more) (mergeK kw mw)
  | _, _, .nil, _, _, r => r
  | (p :: _), (q :: _), .cons h t, kvs, kw, r => by
    have e : RKV K m H (putD kvs p.1 p.2) (putK kw q.1 q.2) := by rw [h.1]; exact r.put q.1 h.2
    exact RKV.merge t e
theorem length_mergeD : ∀ (more kvs : List (D × D)), (mergeD kvs more).length ≤ kvs.length + more.length
  | [], kvs => Nat.le_refl _
  | p :: r, kvs => by
    have h1 := length_mergeD r (putD kvs p.1 p.2)
    have h2 := length_putD kvs p.1 p.2
    show (mergeD (putD kvs p.1 p.2) r).length ≤ _
    rw [List.length_cons]; omega
section
variable {X : Cx}
theorem md_append : MtD X "list.append" appF := by
  refine ⟨_, mt_append, fun m S H x v xs vs P Q s rx rs p w => ?_⟩
  obtain ⟨n, ys, y, rfl, rfl, e, hz, p⟩ := p
  obtain ⟨vy, rfl, ry⟩ := rs.one rfl
  obtain ⟨q, ws, rfl, a, hq, b, _⟩ := lst_at s rx e
  have g := Grow.write s a e rfl (.lst (ws ++ [vy]))
  refine ⟨q, ws, vy, rfl, rfl, hq, by rw [← b.length]; exact hz, w _ _ _ _ _ p g (s.write a e rfl (.lst ?_ ((b.up g).append (.cons (ry.up g) .nil)))) .non⟩
  rw [List.length_append]; exact hz
theorem md_pop : MtD X "list.pop" popF := by
  refine ⟨_, mt_pop, fun m S H x v xs vs P Q s rx rs p w => ?_⟩
  obtain ⟨n, ys, y, rfl, rfl, e, hy, p⟩ := p
  cases rs
  obtain ⟨q, ws, rfl, a, hq, b, hz⟩ := lst_at s rx e
  obtain ⟨vy, e1, ry⟩ := b.get hy
  have g := Grow.write s a e rfl (.lst ws.dropLast)
  refine ⟨q, ws, vy, rfl, rfl, hq, by rw [← b.length]; exact e1, w _ _ _ _ _ p g (s.write a e rfl (.lst ?_ (b.up g).dropLast)) (ry.up g)⟩
  rw [List.length_dropLast]; omega
theorem md_pop0 : MtD X "list.pop" pop0F := by
  refine ⟨_, mt_popAt, fun m S H x v xs vs P Q s rx rs p w => ?_⟩
  obtain ⟨n, y, ys, rfl, rfl, e, p⟩ := p
  obtain ⟨vi, rfl, ri⟩ := rs.one rfl
  cases ri
  obtain ⟨q, ws, rfl, a, hq, b, hz⟩ := lst_at s rx e
  cases b with
  | @cons _ vy _ ws ry b =>
    have g := Grow.write s a e rfl (.lst ws)
    refine ⟨q, vy :: ws, 0, 0, vy, rfl, rfl, hq, by decide, by decide, ?_, rfl, w _ _ _ _ _ p g (s.write a e rfl (.lst ?_ (b.up g))) (ry.up g)⟩
    · unfold seqIndex?
      simp
    · rw [List.length_cons] at hz; omega
theorem md_extend : MtD X "list.extend" extF := by
  refine ⟨_, mt_extend, fun m S H x v xs vs P Q s rx rs p w => ?_⟩
  obtain ⟨n, k, ys, zs, rfl, rfl, e, e2, hz, p⟩ := p
  obtain ⟨vy, rfl, ry⟩ := rs.one rfl
  obtain ⟨q, ws, rfl, a, hq, b, _⟩ := lst_at s rx e
  obtain ⟨q2, ws2, rfl, a2, hq2, b2, _⟩ := lst_at s ry e2
  have g := Grow.write s a e rfl (.lst (ws ++ ws2))
  refine ⟨q, q2, ws, ws2, rfl, rfl, hq, hq2, by rw [← b.length, ← b2.length]; exact hz, w _ _ _ _ _ p g (s.write a e rfl (.lst ?_ ((b.up g).append (b2.up g)))) .non⟩
  rw [List.length_append]; exact hz
def rUpd : V → List V → Hp → VK → Prop := fun x xs H Q => ∃ a b ks ls, x = .ref a ∧ xs = [.ref b] ∧ a ≠ b ∧ H a = some (.dK ks) ∧ Rd H b (.dK ls) ∧ ks.length + ls.length ≤ sizeLine ∧ Q .non (upd H a (.dK (mergeK ks ls)))
theorem mt_update : MtR X "dict.update" rUpd := by
  intro pins s σ H x xs v us Q I rx rs h
  obtain ⟨a, b, ks, ls, rfl, rfl, ne, ha, hb, hz, q⟩ := h
  cases rx
  obtain ⟨u, rfl, ru⟩ := vals1 rs
  cases ru
  obtain ⟨z1, d1, va, ra, da⟩ := dk_of I.hok ha
  obtain ⟨z2, d2, vb, rb, db⟩ := dk_rd I.hok hb
  refine call_meetsIn PySem.F.slot_dict_update da.typeIs PySem.F.entry_dict_update (PySem.F.args_dict_update_2 _ _) (meets_dict_update (mixKind X.prog X.w) a b ne d2) ⟨va, vb, da, db, by rw [← ra.length, ← rb.length]; exact hz, fun h' dd' _ hs => ?_⟩
  have he : ∃ q, h'.get? a = some q := let ⟨q, _, _, hq, _⟩ := dd'; ⟨q, hq⟩
  have hl : (mergeK ks ls).length ≤ sizeLine := Nat.le_trans (length_mergeK ls ks) hz
  exact ⟨.non, _, d_write (t' := s.toks) I (by rw [ha]; exact True.intro) hs he (dk_new hl d1 (rb.merge ra) dd'), rfl, q⟩
theorem md_update : MtD X "dict.update" updF := by
  refine ⟨_, mt_update, fun m S H x v xs vs P Q s rx rs p w => ?_⟩
  obtain ⟨n, k, ks, ls, rfl, rfl, ne, e, e2, hz, p⟩ := p
  obtain ⟨vy, rfl, ry⟩ := rs.one rfl
  obtain ⟨q, kw, rfl, a, hq, b, _⟩ := dct_at s rx e
  obtain ⟨q2, lw, rfl, hq2, b2, _⟩ := dict_at s ry e2
  have a2 : m[k]? = some q2 := by cases ry; assumption
  have neq : q ≠ q2 := fun h => ne (nd_ix s.nd a (h ▸ a2))
  have g := Grow.write s a e rfl (.dK (mergeK kw lw))
  refine ⟨q, q2, kw, lw, rfl, rfl, neq, hq, hq2, by rw [← b.length, ← b2.length]; exact hz, w _ _ _ _ _ p g (s.write a e rfl (.dct ?_ (RKV.merge (b2.up g) (b.up g)))) .non⟩
  exact Nat.le_trans (length_mergeD ls ks) hz
end

/-! ### {k: v, ..} -/
def dispD : List (FE × FE) → Slots → Store → (List (D × D) → Store → Prop) → Prop
  | [], _, S, Q => Q [] S
  | (fk, fv) :: r, σ, S, Q => fk σ S fun k S1 => fv σ S1 fun v S2 => dispD r σ S2 fun ps S3 => Q ((k, v) :: ps) S3
section
variable {X : Cx} {pos : Pos}
structure RPs (X : Cx) (pos : Pos) (keys : List (Option Expr)) (values : List Expr) (prs : List (FE × FE)) : Prop where
  run : PPs X pos keys values (prs.map fun p => (tOf (kW X) p.1, tOf (kW X) p.2))
theorem rps_nil : RPs X pos [] [] [] := ⟨pps_nil⟩
theorem rps_cons {k v : Expr} {ks : List (Option Expr)} {vs : List Expr} {fk fv : FE} {prs : List (FE × FE)} (hk : RE X k fk) (hv : RE X v fv) (hr : RPs X pos ks vs prs) : RPs X pos (some k :: ks) (v :: vs) ((fk, fv) :: prs) := ⟨pps_cons hk hv hr.run⟩
abbrev RPr (K : KW) (m : List Addr) (H : Hp) : List (D × D) → List (V × V) → Prop := Paired fun p q => RD K m H p.1 q.1 ∧ RD K m H p.2 q.2
theorem RPr.up {K : KW} {m m' : List Addr} {H H' : Hp} {a : List (D × D)} {b : List (V × V)} (r : RPr K m H a b) (g : Grow m H m' H') : RPr K m' H' a b := Paired.mapP r fun _ _ h => ⟨h.1.up g, h.2.up g⟩
theorem disp_run {K : KW} : ∀ (prs : List (FE × FE)) {m : List Addr} {σ : L2.St} {σd : Slots} {S : Store} {H : Hp} {P : List (D × D) → Store → Prop} {Q : List (V × V) → Hp → Prop}, Sim K m S H → RSl K m H σ σd → dispD prs σd S P →
    (∀ ps S' m' qs H', P ps S' → Grow m H m' H' → Sim K m' S' H' → RPr K m' H' ps qs → Q qs H') → tPairs (prs.map fun p => (tOf K p.1, tOf K p.2)) σ H Q
  | [], m, σ, σd, S, H, P, Q, s, r, h, w => w _ _ _ _ _ h (.refl _ _) s .nil
  | (fk, fv) :: prs, m, σ, σd, S, H, P, Q, s, r, h, w => by
    refine ⟨m, σd, S, _, s, r, h, fun k S1 m1 vk H1 p1 g1 s1 r1 => ?_⟩
    refine ⟨m1, σd, S1, _, s1, r.up g1, p1, fun v S2 m2 vv H2 p2 g2 s2 r2 => ?_⟩
    exact disp_run prs s2 (r.up (g1.trans g2)) p2 fun ps S3 m3 qs H3 p3 g3 s3 r3 => w _ _ _ _ _ p3 (g1.trans (g2.trans g3)) s3 (.cons ⟨r1.up (g2.trans g3), r2.up g3⟩ r3)
theorem RPr.kv {K : KW} {m : List Addr} {H : Hp} : ∀ {ps : List (D × D)} {qs : List (V × V)}, RPr K m H ps qs → (∀ p ∈ ps, (toKey p.1).isSome = true) → ∃ kw : List (Key × V), qs = kw.map (fun kv => (kV kv.1, kv.2)) ∧ RKV K m H ps kw
  | _, _, .nil, _ => ⟨[], rfl, .nil⟩
  | (p :: ps), (q :: qs), .cons h t, hk => by
    obtain ⟨k, e⟩ := Option.isSome_iff_exists.mp (hk p List.mem_cons_self)
    obtain ⟨kw, e2, r⟩ := RPr.kv t fun p hp => hk p (List.mem_cons_of_mem _ hp)
    have e1 := toKey_eq e
    refine ⟨(k, q.2) :: kw, ?_, .cons ⟨e1, h.2⟩ r⟩
    have h1 := h.1
    rw [e1] at h1
    rw [List.map_cons, ← e2, ← h1.key]
def eDispD (prs : List (FE × FE)) : FE := fun σ S Q => dispD prs σ (S ++ [.dct []]) fun ps S2 => S2[S.length]? = some (.dct []) ∧ ps.length ≤ 15 ∧ (∀ p ∈ ps, (toKey p.1).isSome = true) ∧ Q (.ref S.length) (S2.set S.length (.dct (mergeD [] ps)))
theorem disp_len : ∀ (prs : List (FE × FE)) {σ : Slots} {S : Store} {P : List (D × D) → Store → Prop}, dispD prs σ S P → True := fun _ _ _ _ _ => trivial
theorem re_disp {keys : List (Option Expr)} {values : List Expr} {prs : List (FE × FE)} (h : RPs X pos keys values prs) (hall : keys.all (·.isSome) = true := by rfl) (hl : keys.length = values.length := by rfl) (h0 : keys ≠ [] := by intro h; cases h)
    (h15 : keys.length ≤ 15 := by decide) : RE X (.Dict keys values pos) (eDispD prs) := by
  refine pe_w (pe_disp h.run hall hl h0 h15) fun σ H Q q => ?_
  obtain ⟨m, σd, S, P, s, r, p, w⟩ := q
  intro a ha
  obtain ⟨g, s1, r1⟩ := new_dct s ha .nil (Nat.zero_le _)
  refine disp_run prs s1 (r.up g) p fun ps S2 m2 qs H2 ⟨e, hl, hk, p2⟩ g2 s2 r2 => ?_
  have hm : m2[S.length]? = some a := by
    cases r1 with
    | ref z => exact g2.at z
  have rc := s2.cell _ _ _ hm e
  generalize eo : H2 a = o at rc
  cases rc with
  | dct z b =>
    cases b
    obtain ⟨kw, ek, rk⟩ := RPr.kv r2 hk
    have g3 := Grow.write s2 hm e rfl (.dK (mergeK [] kw))
    refine ⟨rfl, kw, ek, by rw [← rk.length]; exact hl, ?_⟩
    refine w _ _ _ _ _ p2 (g.trans (g2.trans g3)) (s2.write hm e rfl (.dct ?_ (RKV.merge (rk.up g3) .nil))) (.ref hm)
    have := length_mergeD ps []
    rw [List.length_nil] at this
    rw [sizeLine_eq]; omega
end
end SD
/-! SD7: for, while, comprehensions over D. -/
namespace SD
open PySem PySem.Spec PyProof.Rows L2

/-! ### what is walked -/
abbrev FI := Slots → Store → ((Store → Prop) → List D → Store → Prop) → Prop
/-- J walks the items xs while ok -/
structure Wk (K : KW) (J : It) (ok : Store → Prop) (xs : List D) (m : List Addr) (H : Hp) : Prop where
  few : xs.length ≤ sizeLine
  go : ∀ (i : Nat) m1 S1 H1 d, Grow m H m1 H1 → Sim K m1 S1 H1 → ok S1 → xs[i]? = some d → J.go i H1 ∧ ∀ x H2, J.yld i H1 x H2 → Grow m1 H1 m1 H2 ∧ Sim K m1 S1 H2 ∧ RD K m1 H2 d x
  stop : ∀ (i : Nat) m1 S1 H1, Grow m H m1 H1 → Sim K m1 S1 H1 → ok S1 → xs.length ≤ i → J.stop i H1
theorem Wk.up {K : KW} {J : It} {ok : Store → Prop} {xs : List D} {m m' : List Addr} {H H' : Hp} (w : Wk K J ok xs m H) (g : Grow m H m' H') : Wk K J ok xs m' H' :=
  ⟨w.few, fun i m1 S1 H1 d g1 => w.go i m1 S1 H1 d (g.trans g1), fun i m1 S1 H1 g1 => w.stop i m1 S1 H1 (g.trans g1)⟩
def tOfI (K : KW) (f : FI) : TI := fun σ H R => ∃ m σd S P, Sim K m S H ∧ RSl K m H σ σd ∧ f σd S P ∧ ∀ ok xs S' m' H' J, P ok xs S' → Grow m H m' H' → Sim K m' S' H' → Wk K J ok xs m' H' → R J H'
abbrev RI (X : Cx) (tg e : Expr) (f : FI) : Prop := PI X tg e (tOfI (kW X) f)
def Always : Store → Prop := fun _ => True
/-- a list, a tuple -/
def iSeq (f : FE) : FI := fun σ S R => f σ S fun d S1 => (∃ xs, d = .tup xs ∧ R Always xs S1) ∨ (∃ n xs, d = .ref n ∧ S1[n]? = some (.lst xs) ∧ R (fun S => S[n]? = some (.lst xs)) xs S1)
def iTupD (f : FE) : FI := fun σ S R => f σ S fun d S1 => ∃ xs, d = .tup xs ∧ R Always xs S1
def iLstD (f : FE) : FI := fun σ S R => f σ S fun d S1 => (∃ xs, d = .frz xs ∧ R Always xs S1) ∨ ∃ n xs, d = .ref n ∧ S1[n]? = some (.lst xs) ∧ R (fun S => S[n]? = some (.lst xs)) xs S1
def rngD (lo : Int) (n : Nat) : List D := (List.range n).map fun i => .int (lo + (i : Nat))
def iRg1 (f : FA) : FI := fun σ S R => f σ S fun ds S1 => ∃ j : Int, ds = [.int j] ∧ -1000 ≤ j ∧ j ≤ 16777216 ∧ R Always (rngD 0 j.toNat) S1
def iRg2 (f : FA) : FI := fun σ S R => f σ S fun ds S1 => ∃ i j : Int, ds = [.int i, .int j] ∧ -1000 ≤ i ∧ i ≤ 16777216 ∧ -1000 ≤ j ∧ j ≤ 16776000 ∧ R Always (rngD i (j - i).toNat) S1
section
variable {X : Cx} {tg : Expr}
theorem pi_w {e : Expr} {t t' : TI} (h : PI X tg e t) (w : ∀ σ H Q, t' σ H Q → t σ H Q) : PI X tg e t' := ⟨fun pins s σ H Q I q => h.run pins s σ H Q I (w σ H Q q)⟩
theorem ri_tup {e : Expr} {f : FE} (h : RE X e f) : RI X tg e (iTupD f) := by
  refine pi_w (pi_tup h) fun σ H R q => ?_
  obtain ⟨m, σd, S, P, s, r, p, w⟩ := q
  refine ⟨m, σd, S, _, s, r, p, fun d S1 m1 v H1 ⟨xs, e, p1⟩ g1 s1 r1 => ?_⟩
  subst e
  cases r1 with
  | @tup p xs vs a z b =>
    refine ⟨p, rfl, ⟨vs, a⟩, w _ _ _ _ _ _ p1 g1 s1 ⟨by rw [b.length]; exact z, fun i m2 S2 H2 d g s2 _ hd => ?_, fun i m2 S2 H2 g s2 _ hi => ⟨vs, g.sqT a, by rw [← b.length]; exact hi⟩⟩⟩
    obtain ⟨v, e1, rv⟩ := (b.up g).get hd
    refine ⟨⟨vs, v, g.sqT a, e1⟩, fun x H3 ⟨e2, y⟩ => ?_⟩
    subst e2
    have := y vs (g.sqT a)
    rw [e1] at this
    cases this
    exact ⟨.refl _ _, s2, rv⟩
theorem ri_list {e : Expr} {f : FE} (h : RE X e f) : RI X tg e (iLstD f) := by
  refine pi_w (pi_list h) fun σ H R q => ?_
  obtain ⟨m, σd, S, P, s, r, p, w⟩ := q
  refine ⟨m, σd, S, _, s, r, p, fun d S1 m1 v H1 q1 g1 s1 r1 => ?_⟩
  rcases q1 with ⟨xs, e, p1⟩ | ⟨n, xs, e, e1, p1⟩
  · subst e
    cases r1 with
    | @frz p xs vs a z b =>
      have un : ∀ {m2 : List Addr} {H2 : Hp}, Grow m1 H1 m2 H2 → ∀ ys, SqL X.K H2 p ys → FzL (kW X) H2 p vs → True := fun _ _ _ _ => trivial
      refine ⟨p, rfl, ⟨vs, a.sq⟩, w _ _ _ _ _ _ p1 g1 s1 ⟨by rw [b.length]; exact z, fun i m2 S2 H2 d g s2 _ hd => ?_, fun i m2 S2 H2 g s2 _ hi => ⟨vs, (g.fzL a).sq, by rw [← b.length]; exact hi⟩⟩⟩
      obtain ⟨v, e1, rv⟩ := (b.up g).get hd
      refine ⟨⟨vs, v, (g.fzL a).sq, e1⟩, fun x H3 ⟨e2, y⟩ => ?_⟩
      subst e2
      have := y vs (g.fzL a).sq
      rw [e1] at this
      cases this
      exact ⟨.refl _ _, s2, rv⟩
  · subst e
    obtain ⟨p, vs, rfl, a, hp, b, hz⟩ := lst_at s1 r1 e1
    refine ⟨p, rfl, ⟨vs, SqL.of hp⟩, w _ _ _ _ _ _ p1 g1 s1 ⟨hz, fun i m2 S2 H2 d g s2 ok hd => ?_, fun i m2 S2 H2 g s2 ok hi => ?_⟩⟩
    · obtain ⟨p', ws, e2, a2, hp2, b2, _⟩ := lst_at s2 (.ref (g.at a)) ok
      cases e2
      obtain ⟨v, e1, rv⟩ := b2.get hd
      refine ⟨⟨ws, v, SqL.of hp2, e1⟩, fun x H3 ⟨e2, y⟩ => ?_⟩
      subst e2
      have := y ws (SqL.of hp2)
      rw [e1] at this
      cases this
      exact ⟨.refl _ _, s2, rv⟩
    · obtain ⟨p', ws, e2, a2, hp2, b2, _⟩ := lst_at s2 (.ref (g.at a)) ok
      cases e2
      exact ⟨ws, SqL.of hp2, by rw [← b2.length]; exact hi⟩
theorem wk_range {K : KW} {lo : Int} {n : Nat} {m : List Addr} {H : Hp} (hn : n ≤ sizeLine) : Wk K (Itr lo n) Always (rngD lo n) m H := by
  refine ⟨by unfold rngD; rw [List.length_map, List.length_range]; exact hn, fun i m2 S2 H2 d g s2 _ hd => ?_, fun i m2 S2 H2 g s2 _ hi => ?_⟩
  · unfold rngD at hd
    rw [List.getElem?_map] at hd
    cases e : (List.range n)[i]? with
    | none => rw [e] at hd; cases hd
    | some j =>
      rw [e] at hd
      cases hd
      obtain ⟨h1, h2⟩ := List.getElem?_eq_some_iff.mp e
      rw [List.length_range] at h1
      rw [List.getElem_range] at h2
      subst h2
      exact ⟨h1, fun x H3 ⟨e1, e2⟩ => by subst e1 e2; exact ⟨.refl _ _, s2, .int _⟩⟩
  · unfold rngD at hi
    rw [List.length_map, List.length_range] at hi
    exact hi
theorem ri_range1 {a : Expr} {fa : FA} {p pos : Pos} (hm : X.mg "range" = none) (ha : RA X [a] fa) (hg : Gl X "range" := by rfl) (hs : starEach [a] X.env = [(false, eval a X.env)] := by rfl) : RI X tg (.Call (.Name "range" p) [a] [] pos) (iRg1 fa) := by
  refine pi_w (pi_range1 hg hm ha hs) fun σ H R q => ?_
  obtain ⟨m, σd, S, P, s, r, p, w⟩ := q
  refine ⟨m, σd, S, _, s, r, p, fun ds S1 m1 vs H1 ⟨j, e, h0, h1, p1⟩ g1 s1 r1 => ?_⟩
  obtain ⟨v, rfl, rv⟩ := r1.one e
  cases rv
  exact ⟨j, rfl, by omega, by omega, w _ _ _ _ _ _ p1 g1 s1 (wk_range (by rw [sizeLine_eq]; omega))⟩
theorem ri_range2 {a b : Expr} {fa : FA} {p pos : Pos} (hm : X.mg "range" = none) (ha : RA X [a, b] fa) (hg : Gl X "range" := by rfl) (hs : starEach [a, b] X.env = [(false, eval a X.env), (false, eval b X.env)] := by rfl) (hs2 : starEach [b] X.env = [(false, eval b X.env)] := by rfl) :
    RI X tg (.Call (.Name "range" p) [a, b] [] pos) (iRg2 fa) := by
  refine pi_w (pi_range2 hg hm ha hs hs2) fun σ H R q => ?_
  obtain ⟨m, σd, S, P, s, r, p, w⟩ := q
  refine ⟨m, σd, S, _, s, r, p, fun ds S1 m1 vs H1 ⟨i, j, e, h0, h1, h2, h3, p1⟩ g1 s1 r1 => ?_⟩
  subst e
  cases r1 with
  | cons ra rb =>
    cases rb with
    | cons rb rn =>
      cases rn
      cases ra
      cases rb
      exact ⟨i, j, rfl, ⟨by omega, by omega, by omega, by omega⟩, w _ _ _ _ _ _ p1 g1 s1 (wk_range (by rw [sizeLine_eq]; omega))⟩
end

/-! ### for -/
def forD (ok : Store → Prop) (g : FG) (b : FS) (E : EndsD) : List D → Slots → Store → Prop
  | [], σ, S => ok S ∧ E.nx σ S
  | x :: xs, σ, S => ok S ∧ g x σ S fun σ1 S1 => b { E with nx := forD ok g b E xs, ct := forD ok g b E xs, bk := E.nx } σ1 S1
def sFor (f : FI) (g : FG) (b : FS) : FS := fun E σ S => f σ S fun ok xs S1 => forD ok g b E xs σ S1
theorem forD_ok {ok : Store → Prop} {g : FG} {b : FS} {E : EndsD} : ∀ {xs : List D} {σ : Slots} {S : Store}, forD ok g b E xs σ S → ok S
  | [], _, _, h => h.1
  | _ :: _, _, _, h => h.1
section
variable {X : Cx} {pos : Pos}
theorem rs_for {tg iter : Expr} {body : List Stmt} {f : FI} {g : FG} {b : FS} (hp : PassesOwn (model X.prog X.w) X.A X.env X.xe) (hc : X.calm = true) (hi : RI X tg iter f) (hg : RG X tg g) (hb : RSs X body b)
    (hs : ∀ x, foldedSetIterable iter X.env x = pure x := by intro _; rfl) : RS X (.For tg iter body [] pos) (sFor f g b) := by
  refine ps_w (ps_for hp hc hi hg hb hs) fun D σ H q => ?_
  obtain ⟨m, σd, S, E, s, r, p, w⟩ := q
  refine ⟨m, σd, S, _, s, r, p, fun ok xs S1 m1 H1 J p1 g1 s1 wk => ?_⟩
  refine ⟨fun i n σ2 H2 => n = xs.length - i ∧ i ≤ xs.length ∧ ∃ m2 σd2 S2, Sim (kW X) m2 S2 H2 ∧ RSl (kW X) m2 H2 σ2 σd2 ∧ Grow m1 H1 m2 H2 ∧ forD ok g b E (xs.drop i) σd2 S2, ⟨xs.length, by simp, Nat.zero_le _, m1, σd, S1, s1, r.up g1, .refl _ _, p1⟩, ?_⟩
  rintro i n σ2 H2 ⟨rfl, hi, m2, σd2, S2, s2, r2, g2, h2⟩
  by_cases hlt : i < xs.length
  · have e : xs.drop i = xs[i] :: xs.drop (i + 1) := List.drop_eq_getElem_cons hlt
    rw [e] at h2
    obtain ⟨hok, h2⟩ := h2
    obtain ⟨go, yl⟩ := wk.go i m2 S2 H2 xs[i] g2 s2 hok (by simp [hlt])
    refine .inr ⟨go, fun σ' H' => ∃ m3 σd3 S3, Sim (kW X) m3 S3 H' ∧ RSl (kW X) m3 H' σ' σd3 ∧ Grow m1 H1 m3 H' ∧ forD ok g b E (xs.drop (i + 1)) σd3 S3, fun σ' H' ⟨m3, σd3, S3, s3, r3, g3, h3⟩ => ⟨xs.length - (i + 1), by omega, rfl, hlt, m3, σd3, S3, s3, r3, g3, h3⟩, fun x H3 hy => ?_⟩
    obtain ⟨g3, s3, rx⟩ := yl x H3 hy
    refine ⟨m2, σd2, S2, xs[i], _, s3, r2.up g3, rx, h2, fun σd4 S4 m4 σ4 H4 p4 g4 s4 r4 => ?_⟩
    have gg := g2.trans (g3.trans g4)
    have ww := w.up (g1.trans gg)
    exact ⟨m4, σd4, S4, _, s4, r4, p4, ⟨fun σd5 S5 m5 σ5 H5 p5 g5 s5 r5 => ⟨m5, σd5, S5, s5, r5, gg.trans g5, p5⟩, ww.rt, ww.nx, fun σd5 S5 m5 σ5 H5 p5 g5 s5 r5 => ⟨m5, σd5, S5, s5, r5, gg.trans g5, p5⟩⟩⟩
  · have e : i = xs.length := by omega
    subst e
    rw [List.drop_length] at h2
    exact .inl ⟨wk.stop _ m2 S2 H2 g2 s2 h2.1 (Nat.le_refl _), w.nx _ _ _ _ _ h2.2 (g1.trans g2) s2 r2⟩
/-! ### while -/
end
def whileD (c : FT) (b : FS) (E : EndsD) : Nat → Slots → Store → Prop
  | 0, _, _ => False
  | n + 1, σ, S => c σ S fun t S1 => if t = true then b { E with nx := whileD c b E n, ct := whileD c b E n, bk := E.nx } σ S1 else E.nx σ S1
def sWhile (c : FT) (b : FS) : FS := fun E σ S => ∃ n, whileD c b E n σ S
section
variable {X : Cx} {pos : Pos}
theorem rs_while {c : Expr} {body : List Stmt} {t : FT} {b : FS} (hp : PassesOwn (model X.prog X.w) X.A X.env X.xe) (hc : RT X c t) (hb : RSs X body b) : RS X (.While c body [] pos) (sWhile t b) := by
  refine ps_w (ps_while hp hc hb) fun D σ H q => ?_
  obtain ⟨m, σd, S, E, s, r, ⟨n0, p⟩, w⟩ := q
  refine ⟨fun n σ2 H2 => ∃ m2 σd2 S2, Sim (kW X) m2 S2 H2 ∧ RSl (kW X) m2 H2 σ2 σd2 ∧ Grow m H m2 H2 ∧ whileD t b E n σd2 S2, ⟨n0, m, σd, S, s, r, .refl _ _, p⟩, ?_⟩
  rintro n σ2 H2 ⟨m2, σd2, S2, s2, r2, g2, h2⟩
  cases n with
  | zero => exact False.elim h2
  | succ n =>
    refine ⟨m2, σd2, S2, _, s2, r2, h2, fun k S3 m3 H3 p3 g3 s3 => ?_⟩
    have ww := w.up (g2.trans g3)
    cases k with
    | true =>
      rw [if_pos rfl] at p3
      refine iteT ⟨fun σ' H' => ∃ m4 σd4 S4, Sim (kW X) m4 S4 H' ∧ RSl (kW X) m4 H' σ' σd4 ∧ Grow m H m4 H' ∧ whileD t b E n σd4 S4, fun σ' H' h => ⟨n, Nat.lt_succ_self n, h⟩, ?_⟩
      exact ⟨m3, σd2, S3, _, s3, r2.up g3, p3, ⟨fun σd5 S5 m5 σ5 H5 p5 g5 s5 r5 => ⟨m5, σd5, S5, s5, r5, (g2.trans g3).trans g5, p5⟩, ww.rt, ww.nx, fun σd5 S5 m5 σ5 H5 p5 g5 s5 r5 => ⟨m5, σd5, S5, s5, r5, (g2.trans g3).trans g5, p5⟩⟩⟩
    | false =>
      rw [if_neg (by decide)] at p3
      exact iteF (ww.nx _ _ _ _ _ p3 (.refl _ _) s3 (r2.up g3))
end

/-! ### comprehensions -/
def tYesD : FT := fun _ S Q => Q true S
def PGD (K : KW) (vs : List Nat) (g : TG) (gd : FG) : Prop := ∀ m S H σ σd d v P Q, Sim K m S H → RSl K m H (wipe σ vs) σd → RD K m H d v → gd d σd S P →
  (∀ σd2 S2 m2 σ2 H2, P σd2 S2 → Grow m H m2 H2 → Sim K m2 S2 H2 → RSl K m2 H2 σ2 σd2 → wipe σ2 vs = wipe σ vs → Q σ2 H2) → g v (wipe σ vs) H Q
theorem pgd_name {K : KW} (i : Nat) : PGD K [i] (gName i) (gNm i) := by
  intro m S H σ σd d v P Q s r rd p w
  exact w _ _ _ _ _ p (.refl _ _) s (r.set rd i) (by simp [wipe, List.set_set])
theorem pgd_two {K : KW} (i j : Nat) (hij : i ≠ j) : PGD K [i, j] (gTup K 2 (gCons (gName i) (gCons (gName j) gNil))) (gTp 2 (gsCons (gNm i) (gsCons (gNm j) gsNil))) := by
  intro m S H σ σd d v P Q s r rd p w
  obtain ⟨xs, rfl, hl, x, r1, rfl, y, r2, e2, e3, p⟩ := p
  subst e2
  subst e3
  cases rd with
  | tup a z b =>
    cases b with
    | cons ra b =>
      cases b with
      | cons rb b =>
        cases b
        refine ⟨_, _, rfl, a, rfl, _, _, rfl, _, _, rfl, rfl, ?_⟩
        refine w _ _ _ _ _ p (.refl _ _) s ((r.set ra i).set rb j) ?_
        simp only [wipe]
        rw [List.set_set]
        apply List.ext_getElem?
        intro n
        simp only [List.getElem?_set, List.length_set]
        split <;> split <;> simp_all
def lcD (ok : Store → Prop) (g : FG) (t : FT) (e : FE) (n0 : Nat) (Q : Store → Prop) (σ : Slots) : List D → Store → Prop
  | [], S => ok S ∧ Q S
  | x :: xs, S => ok S ∧ g x σ S fun σ2 S2 => t σ2 S2 fun b S3 => if b = true then e σ2 S3 fun y S4 => ∃ acc, S4[n0]? = some (.lst acc) ∧ acc.length < sizeLine ∧ lcD ok g t e n0 Q σ xs (S4.set n0 (.lst (acc ++ [y])))
      else lcD ok g t e n0 Q σ xs S3
def eLc (f : FI) (g : FG) (t : FT) (e : FE) (vs : List Nat) : FE := fun σ S Q => f σ S fun ok xs S1 => xs.length ≤ sizeLine → lcD ok g t e S1.length (fun S' => Q (.ref S1.length) S') (wipeD σ vs) xs (S1 ++ [.lst []])
def dcD (ok : Store → Prop) (g : FG) (t : FT) (fk fv : FE) (n0 : Nat) (Q : Store → Prop) (σ : Slots) : List D → Store → Prop
  | [], S => ok S ∧ Q S
  | x :: xs, S => ok S ∧ g x σ S fun σ2 S2 => t σ2 S2 fun b S3 => if b = true then fk σ2 S3 fun k S4 => fv σ2 S4 fun v S5 => ∃ acc, (toKey k).isSome = true ∧ S5[n0]? = some (.dct acc) ∧ acc.length < sizeLine ∧ dcD ok g t fk fv n0 Q σ xs (S5.set n0 (.dct (putD acc k v)))
      else dcD ok g t fk fv n0 Q σ xs S3
def eDc (f : FI) (g : FG) (t : FT) (fk fv : FE) (vs : List Nat) : FE := fun σ S Q => f σ S fun ok xs S1 => xs.length ≤ sizeLine → dcD ok g t fk fv S1.length (fun S' => Q (.ref S1.length) S') (wipeD σ vs) xs (S1 ++ [.dct []])
/-- a clause's tests -/
abbrev RTs (X : Cx) (ifs : List Expr) (f : FT) : Prop := PTs X ifs (tOfT (kW X) f)
theorem pts_w {X : Cx} {e : List Expr} {t t' : TT} (h : PTs X e t) (w : ∀ σ H Q, t' σ H Q → t σ H Q) : PTs X e t' := ⟨fun pins s σ H Q I q => h.run pins s σ H Q I (w σ H Q q)⟩
theorem rts_nil {X : Cx} : RTs X [] tYesD := by
  refine pts_w pts_nil fun σ H Q q => ?_
  obtain ⟨m, σd, S, P, s, r, p, w⟩ := q
  exact w _ _ _ _ p (.refl _ _) s
theorem rts_one {X : Cx} {c : Expr} {t : FT} (h : RT X c t) : RTs X [c] t := pts_one h
section
variable {K : KW}
theorem wipe_len (σ : L2.St) (vs : List Nat) : (wipe σ vs).length = σ.length := wipe_length σ vs
theorem tOf_lc {g : TG} {gd : FG} {vs : List Nat} (hg : PGD K vs g gd) {f : FI} {t : FT} {e : FE} {σ : L2.St} {H : Hp} {Q : VK} (h : tOf K (eLc f gd t e vs) σ H Q) : tLc (tOfI K f) g (tOfT K t) (tOf K e) vs σ H Q := by
  obtain ⟨m, σd, S, P, s, r, p, w⟩ := h
  refine ⟨m, σd, S, _, s, r, p, fun ok xs S1 m1 H1 J p1 g1 s1 wk => fun D hD => ?_⟩
  have p1 := p1 wk.few
  obtain ⟨gN, sN, rN⟩ := new_lst s1 hD .nil (Nat.zero_le _)
  have hm : (m1 ++ [D])[S1.length]? = some D := by rw [← s1.len]; simp
  refine ⟨fun i n H2 => n = xs.length - i ∧ i ≤ xs.length ∧ ∃ m2 S2, Sim K m2 S2 H2 ∧ Grow (m1 ++ [D]) (upd H1 D (.lst [])) m2 H2 ∧ lcD ok gd t e S1.length (fun S' => P (.ref S1.length) S') (wipeD σd vs) (xs.drop i) S2, ⟨xs.length, by simp, Nat.zero_le _, _, _, sN, .refl _ _, p1⟩, ?_⟩
  rintro i n H2 ⟨rfl, hi, m2, S2, s2, g2, h2⟩
  by_cases hlt : i < xs.length
  · have ed : xs.drop i = xs[i] :: xs.drop (i + 1) := List.drop_eq_getElem_cons hlt
    rw [ed] at h2
    obtain ⟨hok, h2⟩ := h2
    obtain ⟨go, yl⟩ := wk.go i m2 S2 H2 xs[i] (gN.trans g2) s2 hok (by simp [hlt])
    refine .inr ⟨go, fun H' => ∃ m3 S3, Sim K m3 S3 H' ∧ Grow (m1 ++ [D]) (upd H1 D (.lst [])) m3 H' ∧ lcD ok gd t e S1.length (fun S' => P (.ref S1.length) S') (wipeD σd vs) (xs.drop (i + 1)) S3, fun H' ⟨m3, S3, s3, g3, h3⟩ => ⟨xs.length - (i + 1), by omega, rfl, hlt, m3, S3, s3, g3, h3⟩, fun x H3 hy => ?_⟩
    obtain ⟨g3, s3, rx⟩ := yl x H3 hy
    refine hg m2 S2 H3 σ (wipeD σd vs) xs[i] x _ _ s3 ((r.wipe vs).up (g1.trans (gN.trans (g2.trans g3)))) rx h2 fun σd4 S4 m4 σ4 H4 p4 g4 s4 r4 hw => ⟨hw, ?_⟩
    refine ⟨m4, σd4, S4, _, s4, r4, p4, fun b S5 m5 H5 p5 g5 s5 => ?_⟩
    cases b with
    | false =>
      rw [if_neg (by decide)] at p5
      exact iteF ⟨m5, S5, s5, g2.trans (g3.trans (g4.trans g5)), p5⟩
    | true =>
      rw [if_pos rfl] at p5
      refine iteT ⟨m5, σd4, S5, _, s5, r4.up g5, p5, fun y S6 m6 vy H6 ⟨acc, e6, hz, p6⟩ g6 s6 r6 => ?_⟩
      have gg := g2.trans (g3.trans (g4.trans (g5.trans g6)))
      have hm6 := gg.at hm
      have rc := s6.cell _ _ _ hm6 e6
      generalize eo : H6 D = o at rc
      cases rc with
      | @lst _ va z b =>
        have g7 := Grow.write s6 hm6 e6 rfl (.lst (va ++ [vy]))
        refine ⟨va, eo, by rw [← b.length]; exact hz, m6, _, s6.write hm6 e6 rfl (.lst ?_ ((b.up g7).append (.cons (r6.up g7) .nil))), gg.trans g7, p6⟩
        rw [List.length_append]; exact hz
  · have ei : i = xs.length := by omega
    subst ei
    rw [List.drop_length] at h2
    exact .inl ⟨wk.stop _ m2 S2 H2 (gN.trans g2) s2 h2.1 (Nat.le_refl _), w _ _ _ _ _ h2.2 (g1.trans (gN.trans g2)) s2 (.ref (g2.at hm))⟩
theorem tOf_dc {g : TG} {gd : FG} {vs : List Nat} (hg : PGD K vs g gd) {f : FI} {t : FT} {fk fv : FE} {σ : L2.St} {H : Hp} {Q : VK} (h : tOf K (eDc f gd t fk fv vs) σ H Q) : tDc (tOfI K f) g (tOfT K t) (tOf K fk) (tOf K fv) vs σ H Q := by
  obtain ⟨m, σd, S, P, s, r, p, w⟩ := h
  refine ⟨m, σd, S, _, s, r, p, fun ok xs S1 m1 H1 J p1 g1 s1 wk => fun D hD => ?_⟩
  have p1 := p1 wk.few
  obtain ⟨gN, sN, rN⟩ := new_dct s1 hD .nil (Nat.zero_le _)
  have hm : (m1 ++ [D])[S1.length]? = some D := by rw [← s1.len]; simp
  refine ⟨fun i n H2 => n = xs.length - i ∧ i ≤ xs.length ∧ ∃ m2 S2, Sim K m2 S2 H2 ∧ Grow (m1 ++ [D]) (upd H1 D (.dK [])) m2 H2 ∧ dcD ok gd t fk fv S1.length (fun S' => P (.ref S1.length) S') (wipeD σd vs) (xs.drop i) S2, ⟨xs.length, by simp, Nat.zero_le _, _, _, sN, .refl _ _, p1⟩, ?_⟩
  rintro i n H2 ⟨rfl, hi, m2, S2, s2, g2, h2⟩
  by_cases hlt : i < xs.length
  · have ed : xs.drop i = xs[i] :: xs.drop (i + 1) := List.drop_eq_getElem_cons hlt
    rw [ed] at h2
    obtain ⟨hok, h2⟩ := h2
    obtain ⟨go, yl⟩ := wk.go i m2 S2 H2 xs[i] (gN.trans g2) s2 hok (by simp [hlt])
    refine .inr ⟨go, fun H' => ∃ m3 S3, Sim K m3 S3 H' ∧ Grow (m1 ++ [D]) (upd H1 D (.dK [])) m3 H' ∧ dcD ok gd t fk fv S1.length (fun S' => P (.ref S1.length) S') (wipeD σd vs) (xs.drop (i + 1)) S3, fun H' ⟨m3, S3, s3, g3, h3⟩ => ⟨xs.length - (i + 1), by omega, rfl, hlt, m3, S3, s3, g3, h3⟩, fun x H3 hy => ?_⟩
    obtain ⟨g3, s3, rx⟩ := yl x H3 hy
    refine hg m2 S2 H3 σ (wipeD σd vs) xs[i] x _ _ s3 ((r.wipe vs).up (g1.trans (gN.trans (g2.trans g3)))) rx h2 fun σd4 S4 m4 σ4 H4 p4 g4 s4 r4 hw => ⟨hw, ?_⟩
    refine ⟨m4, σd4, S4, _, s4, r4, p4, fun b S5 m5 H5 p5 g5 s5 => ?_⟩
    cases b with
    | false =>
      rw [if_neg (by decide)] at p5
      exact iteF ⟨m5, S5, s5, g2.trans (g3.trans (g4.trans g5)), p5⟩
    | true =>
      rw [if_pos rfl] at p5
      refine iteT ⟨m5, σd4, S5, _, s5, r4.up g5, p5, fun y S6 m6 vy H6 p6 g6 s6 r6 => ?_⟩
      refine ⟨m6, σd4, S6, _, s6, r4.up (g5.trans g6), p6, fun z S7 m7 vz H7 ⟨acc, hk, e7, hz, p7⟩ g7 s7 r7 => ?_⟩
      have gg := g2.trans (g3.trans (g4.trans (g5.trans (g6.trans g7))))
      have hm7 := gg.at hm
      have rc := s7.cell _ _ _ hm7 e7
      obtain ⟨k, hk⟩ := Option.isSome_iff_exists.mp hk
      have ek := toKey_eq hk
      subst ek
      have ev := r6.key
      generalize eo : H7 D = o at rc
      cases rc with
      | @dct _ va z b =>
        have g8 := Grow.write s7 hm7 e7 rfl (.dK (putK va k vz))
        refine ⟨va, k, ev, eo, by rw [← b.length]; exact hz, m7, _, s7.write hm7 e7 rfl (.dct ?_ ((b.up g8).put k (r7.up g8))), gg.trans g8, p7⟩
        have := length_putD acc (keyD k) (by assumption)
        have hz2 := hz
        omega
  · have ei : i = xs.length := by omega
    subst ei
    rw [List.drop_length] at h2
    exact .inl ⟨wk.stop _ m2 S2 H2 (gN.trans g2) s2 h2.1 (Nat.le_refl _), w _ _ _ _ _ h2.2 (g1.trans (gN.trans g2)) s2 (.ref (g2.at hm))⟩
end
end SD
/-! SD8: comprehensions as expressions and stored, dicts walked, isinstance, tuple(range), slices, get. -/
namespace SD
open PySem PySem.Spec PyProof.Rows L2

section
variable {X : Cx}
theorem re_lc {elt tg iter : Expr} {ifs : List Expr} {scope : Scope} {own : List (Str × Nat)} {pos : Pos} {f : FI} {g : TG} {gd : FG} {t : FT} {e : FE} (hc : X.calm = true) (hN : X.N.Nodup) (hi : RI X tg iter f) (ok : BlkOk X.N X.env.scope scope own) (hgd : PGD (kW X) (own.map (·.2)) g gd)
    (hg : ∀ (s : Shared) (H : Hp) (C : Addr) (cl : List (Str × Addr)) (fp : List Addr), PG (X.blk s H scope (compEnvC scope cl C X.env) fp) tg g) (ht : ∀ (s : Shared) (H : Hp) (C : Addr) (cl : List (Str × Addr)) (fp : List Addr), RTs (X.blk s H scope (compEnvC scope cl C X.env) fp) ifs t)
    (he : ∀ (s : Shared) (H : Hp) (C : Addr) (cl : List (Str × Addr)) (fp : List Addr), RE (X.blk s H scope (compEnvC scope cl C X.env) fp) elt e) (hs : ∀ x, foldedSetIterable iter X.env x = pure x := by intro _; rfl) :
    RE X (.ListComp elt [⟨tg, iter, ifs, 0⟩] scope pos) (eLc f gd t e (own.map (·.2))) :=
  pe_w (pe_lc (tt := tOfT (kW X) t) (te := tOf (kW X) e) hc hN hi ok hg ht he hs) fun _ _ _ q => tOf_lc hgd q
theorem rs_setLc {i : Nat} {y : Str} {py : Pos} {elt tg iter : Expr} {ifs : List Expr} {scope : Scope} {own : List (Str × Nat)} {pos spos : Pos} {f : FI} {g : TG} {gd : FG} {t : FT} {e : FE} (hc : X.calm = true) (hN : X.N.Nodup) (hi : RI X tg iter f) (ok : BlkOk X.N X.env.scope scope own) (hgd : PGD (kW X) (own.map (·.2)) g gd)
    (hg : ∀ (s : Shared) (H : Hp) (C : Addr) (cl : List (Str × Addr)) (fp : List Addr), PG (X.blk s H scope (compEnvC scope cl C X.env) fp) tg g) (ht : ∀ (s : Shared) (H : Hp) (C : Addr) (cl : List (Str × Addr)) (fp : List Addr), RTs (X.blk s H scope (compEnvC scope cl C X.env) fp) ifs t)
    (he : ∀ (s : Shared) (H : Hp) (C : Addr) (cl : List (Str × Addr)) (fp : List Addr), RE (X.blk s H scope (compEnvC scope cl C X.env) fp) elt e)
    (hsw : swapsWith (.ListComp elt [⟨tg, iter, ifs, 0⟩] scope pos) (some (.Name y py)) spos.line X.env = pure true) (hy : X.N[i]? = some y := by rfl) (hyl : X.env.scope.names.lookup y = some .local := by rfl) (hs : ∀ x, foldedSetIterable iter X.env x = pure x := by intro _; rfl) :
    RS X (.Assign [.Name y py] (.ListComp elt [⟨tg, iter, ifs, 0⟩] scope pos) spos) (sAsg (eLc f gd t e (own.map (·.2))) (gNm i)) := by
  refine ps_w (ps_setLc (tt := tOfT (kW X) t) (te := tOf (kW X) e) hc hN hy hyl hsw hi ok hg ht he hs) fun D σ H q => ?_
  obtain ⟨m, σd, S, E, s, r, p, w⟩ := q
  exact tOf_lc hgd ⟨m, σd, S, _, s, r, p, fun d S1 m1 v H1 p1 g1 s1 r1 => w.nx _ _ _ _ _ p1 g1 s1 ((r.up g1).set r1 i)⟩
theorem re_dc {kx vx tg iter : Expr} {ifs : List Expr} {scope : Scope} {own : List (Str × Nat)} {pos : Pos} {f : FI} {g : TG} {gd : FG} {t : FT} {fk fv : FE} (hc : X.calm = true) (hN : X.N.Nodup) (hi : RI X tg iter f) (ok : BlkOk X.N X.env.scope scope own) (hgd : PGD (kW X) (own.map (·.2)) g gd)
    (hg : ∀ (s : Shared) (H : Hp) (C : Addr) (cl : List (Str × Addr)) (fp : List Addr), PG (X.blk s H scope (compEnvC scope cl C X.env) fp) tg g) (ht : ∀ (s : Shared) (H : Hp) (C : Addr) (cl : List (Str × Addr)) (fp : List Addr), RTs (X.blk s H scope (compEnvC scope cl C X.env) fp) ifs t)
    (hk : ∀ (s : Shared) (H : Hp) (C : Addr) (cl : List (Str × Addr)) (fp : List Addr), RE (X.blk s H scope (compEnvC scope cl C X.env) fp) kx fk)
    (he : ∀ (s : Shared) (H : Hp) (C : Addr) (cl : List (Str × Addr)) (fp : List Addr), RE (X.blk s H scope (compEnvC scope cl C X.env) fp) vx fv) (hs : ∀ x, foldedSetIterable iter X.env x = pure x := by intro _; rfl) :
    RE X (.DictComp kx vx [⟨tg, iter, ifs, 0⟩] scope pos) (eDc f gd t fk fv (own.map (·.2))) :=
  pe_w (pe_dc (tt := tOfT (kW X) t) (tk := tOf (kW X) fk) (tv := tOf (kW X) fv) hc hN hi ok hg ht hk he hs) fun _ _ _ q => tOf_dc hgd q

/-! ### a dict walked: locked meanwhile -/
/-- for k in d, d the name in slot i -/
def iKeysD (i : Nat) : FI := fun σ S R => ∃ n kvs, σ[i]? = some (some (.ref n)) ∧ S[n]? = some (.lck kvs) ∧ R (fun S => S[n]? = some (.lck kvs)) (kvs.map (·.1)) S
theorem ri_keys {tg : Expr} (i : Nat) {x : Str} {pos : Pos} (hN : X.N[i]? = some x := by rfl) (hv : Vis X.env.scope x := by first | exact Or.inl rfl | exact Or.inr (Or.inl rfl) | exact Or.inr (Or.inr rfl)) (hd : (x == ("__debug__" : Str)) = false := by decide)
    (hcd : (x == ("__classdict__" : Str)) = false := by decide) : RI X tg (.Name x pos) (iKeysD i) := by
  refine pi_w (pi_keys (pe_var hN hv hd hcd)) fun σ H R q => ?_
  obtain ⟨m, σd, S, P, s, r, ⟨n, kvs, e1, e2, p⟩, w⟩ := q
  obtain ⟨v, e3, rv⟩ := r.val i _ e1
  refine ⟨v, e3, ?_⟩
  cases rv with
  | @ref _ d a =>
    have rc := s.cell _ _ _ a e2
    generalize eo : H d = o at rc
    cases rc with
    | @lck _ kw od z b =>
      refine ⟨d, od, rfl, .inl ⟨kw, eo, w _ _ _ _ _ _ p (.refl _ _) s ⟨by rw [List.length_map]; exact z, fun i m2 S2 H2 d2 g s2 ok hd => ?_, fun i m2 S2 H2 g s2 ok hi => ?_⟩⟩⟩
      · have e4 := g.frzs _ _ _ eo
        rw [List.getElem?_map] at hd
        have hlt : i < kvs.length := by
          cases e5 : kvs[i]? with
          | none => rw [e5] at hd; cases hd
          | some q => exact (List.getElem?_eq_some_iff.mp e5).1
        refine ⟨⟨e4, by rw [← b.length]; exact hlt⟩, fun x H3 ⟨e5, k, v, e6, e7⟩ => ?_⟩
        subst e5
        refine ⟨.refl _ _, s2, ?_⟩
        have rk : RDs (kW X) m H (kvs.map (·.1)) (kw.map fun kv => kV kv.1) := b.keysR
        obtain ⟨v', e8, rv⟩ := (rk.up g).get (i := i) (d := d2) (by rw [List.getElem?_map]; exact hd)
        rw [List.getElem?_map, e6] at e8
        cases e8
        rw [e7]
        exact rv
      · exact ⟨g.frzs _ _ _ eo, by rw [← b.length]; rw [List.length_map] at hi; exact hi⟩
def eLock (i : Nat) (f : FE) : FE := fun σ S Q => ∃ n kvs, σ[i]? = some (some (.ref n)) ∧ S[n]? = some (.dct kvs) ∧ f σ (S.set n (.lck kvs)) fun d S' => S'[n]? = some (.lck kvs) ∧ Q d (S'.set n (.dct kvs))
def sLock (i : Nat) (f : FS) : FS := fun E σ S => ∃ n kvs, σ[i]? = some (some (.ref n)) ∧ S[n]? = some (.dct kvs) ∧
  f ⟨fun σ' S' => S'[n]? = some (.lck kvs) ∧ E.nx σ' (S'.set n (.dct kvs)), fun d S' => S'[n]? = some (.lck kvs) ∧ E.rt d (S'.set n (.dct kvs)), fun σ' S' => S'[n]? = some (.lck kvs) ∧ E.bk σ' (S'.set n (.dct kvs)), fun σ' S' => S'[n]? = some (.lck kvs) ∧ E.ct σ' (S'.set n (.dct kvs))⟩ σ (S.set n (.lck kvs))
end
section
variable {K : KW} {m m' : List Addr} {H H' : Hp} {S S' : Store} {n : Nat} {p : Addr} {kvs : List (D × D)} {kw : List (Key × V)} {od : Obj}
theorem lock_sim (s : Sim K m S H) (hp : m[n]? = some p) (hS : S[n]? = some (.dct kvs)) (b : RKV K m H kvs kw) (hz : kvs.length ≤ sizeLine) : Sim K m (S.set n (.lck kvs)) (upd H p (.frz od (.dK kw))) ∧ Grow m H m (upd H p (.frz od (.dK kw))) := by
  have g := Grow.write s hp hS rfl (.frz od (.dK kw))
  exact ⟨s.write hp hS rfl (.lck hz (b.up g)), g⟩
theorem unlock0 (hp : H p = some (.frz od (.dK kw))) : Grow0 m H m (upd H p (.dK kw)) := by
  refine ⟨List.prefix_refl _, fun a xs e => ?_, fun a o u hu _ e => ?_⟩
  · rw [upd_ne (fun z => by subst z; rw [hp] at e; cases e)]
    exact e
  · rw [upd_ne (fun z => by subst z; rw [hp] at e; cases e; exact hu _ rfl)]
    exact e
/-- the lock is taken away -/
theorem unlock (s : Sim K m' S' H') (g : Grow m (upd H p (.frz od (.dK kw))) m' H') (hp : m[n]? = some p) (hH : H p = some (.dK kw)) (b : RKV K m H kvs kw) (hz : kvs.length ≤ sizeLine) (hS : S'[n]? = some (.lck kvs)) :
    H' p = some (.frz od (.dK kw)) ∧ Sim K m' (S'.set n (.dct kvs)) (upd H' p (.dK kw)) ∧ Grow m H m' (upd H' p (.dK kw)) ∧ Grow0 m' H' m' (upd H' p (.dK kw)) := by
  have e : H' p = some (.frz od (.dK kw)) := g.frzs _ _ _ upd_same
  have g0 : Grow0 m' H' m' (upd H' p (.dK kw)) := unlock0 e
  have gr : Grow m H m' (upd H' p (.dK kw)) := by
    refine ⟨g.pre, fun a xs q => ?_, fun a o u q => ?_⟩
    · have ne : a ≠ p := fun z => by subst z; rw [hH] at q; cases q
      rw [upd_ne ne]
      exact g.tups _ _ (by rw [upd_ne ne]; exact q)
    · have ne : a ≠ p := fun z => by subst z; rw [hH] at q; cases q
      rw [upd_ne ne]
      exact g.frzs _ _ _ (by rw [upd_ne ne]; exact q)
  have hp' : m'[n]? = some p := g.at hp
  refine ⟨e, ⟨by rw [List.length_set]; exact s.len, s.nd, fun i q c a h => ?_⟩, gr, g0⟩
  by_cases hi : i = n
  · subst hi
    rw [hp'] at a; cases a
    rw [List.getElem?_set_self (List.getElem?_eq_some_iff.mp hS).1] at h
    cases h
    rw [upd_same]
    exact .dct hz (b.up gr)
  · rw [List.getElem?_set_ne (Ne.symm hi)] at h
    have ne : q ≠ p := fun z => hi (nd_ix s.nd a (z ▸ hp'))
    rw [upd_ne ne]
    exact (s.cell i q c a h).up0 g0
end
section
variable {X : Cx}
theorem re_lock {e : Expr} {f : FE} (i : Nat) (h : RE X e f) : RE X e (eLock i f) := by
  refine pe_w (pe_lock h) fun σ H Q q => ?_
  obtain ⟨m, σd, S, P, s, r, ⟨n, kvs, e1, e2, p⟩, w⟩ := q
  obtain ⟨v, e3, rv⟩ := r.val i _ e1
  obtain ⟨d, kw, rfl, a, hd, b, hz⟩ := dct_at s rv e2
  refine ⟨d, .dK kw, hd, trivial, fun od => ?_⟩
  obtain ⟨s1, g1⟩ := lock_sim (od := od) s a e2 b hz
  refine ⟨m, σd, _, _, s1, r.up g1, p, fun x S' m' v H' ⟨h3, p3⟩ g3 s3 r3 => ?_⟩
  obtain ⟨u1, u2, u3, u4⟩ := unlock s3 g3 a hd b hz h3
  exact ⟨u1, w _ _ _ _ _ p3 u3 u2 (RD.mono u4 _ _ r3)⟩
theorem RSl.up0 {K : KW} {m m' : List Addr} {H H' : Hp} {σ : L2.St} {σd : Slots} (r : RSl K m H σ σd) (g : Grow0 m H m' H') : RSl K m' H' σ σd := ⟨r.len, fun i d h => let ⟨v, a, b⟩ := r.val i d h; ⟨v, a, RD.mono g _ _ b⟩⟩
theorem rs_lock {st : Stmt} {f : FS} (i : Nat) (h : RS X st f) : RS X st (sLock i f) := by
  refine ps_w (ps_lock h) fun D σ H q => ?_
  obtain ⟨m, σd, S, E, s, r, ⟨n, kvs, e1, e2, p⟩, w⟩ := q
  obtain ⟨v, e3, rv⟩ := r.val i _ e1
  obtain ⟨d, kw, rfl, a, hd, b, hz⟩ := dct_at s rv e2
  refine ⟨d, .dK kw, hd, trivial, fun od => ?_⟩
  obtain ⟨s1, g1⟩ := lock_sim (od := od) s a e2 b hz
  refine ⟨m, σd, _, _, s1, r.up g1, p, ⟨fun σ' S' m' v H' ⟨h3, p3⟩ g3 s3 r3 => ?_, fun x S' m' v H' ⟨h3, p3⟩ g3 s3 r3 => ?_, fun σ' S' m' v H' ⟨h3, p3⟩ g3 s3 r3 => ?_, fun σ' S' m' v H' ⟨h3, p3⟩ g3 s3 r3 => ?_⟩⟩
  all_goals obtain ⟨u1, u2, u3, u4⟩ := unlock s3 g3 a hd b hz h3
  · exact ⟨u1, w.nx _ _ _ _ _ p3 u3 u2 (r3.up0 u4)⟩
  · exact ⟨u1, w.rt _ _ _ _ _ p3 u3 u2 (RD.mono u4 _ _ r3)⟩
  · exact ⟨u1, w.bk _ _ _ _ _ p3 u3 u2 (r3.up0 u4)⟩
  · exact ⟨u1, w.ct _ _ _ _ _ p3 u3 u2 (r3.up0 u4)⟩
end

/-! ### isinstance(x, T) -/
def tyName (S : Store) : D → Option String
  | .non => some "NoneType"
  | .bl _ => some "bool"
  | .int _ => some "int"
  | .str _ => some "str"
  | .tup _ => some "tuple"
  | .frz _ => some "list"
  | .ref n => match S[n]? with
    | some (.lst _) => some "list"
    | some (.dct _) => some "dict"
    | some (.lck _) => some "dict"
    | _ => none
def isiB (t T : String) : Bool := t == T || (t == "bool" && T == "int")
def eIsi (T : String) (f : FE) : FE := fun σ S Q => f σ S fun d S1 => ∃ t, tyName S1 d = some t ∧ Q (.bl (isiB t T)) S1
theorem kit_isi {t T : String} (ht : t ∈ ["NoneType", "bool", "int", "str", "tuple", "list", "dict"]) (hT : T ∈ ["tuple", "list", "bool", "int", "str"]) : kitB t T = some (isiB t T) := by
  simp only [List.mem_cons, List.not_mem_nil, or_false] at ht hT
  rcases ht with rfl | rfl | rfl | rfl | rfl | rfl | rfl <;> rcases hT with rfl | rfl | rfl | rfl | rfl <;> decide +kernel
section
variable {X : Cx}
theorem ty_of {K : KW} {m : List Addr} {S : Store} {H : Hp} {d : D} {v : V} {t : String} (s : Sim K m S H) (r : RD K m H d v) (h : tyName S d = some t) : TyX K H v (.type t) ∧ t ∈ ["NoneType", "bool", "int", "str", "tuple", "list", "dict"] := by
  cases r with
  | non => cases h; exact ⟨.base .non, by simp⟩
  | bl b => cases h; exact ⟨.base (.bl _), by simp⟩
  | int b => cases h; exact ⟨.base (.int _), by simp⟩
  | str b => cases h; exact ⟨.base (.str _), by simp⟩
  | tup a z b =>
    cases h
    rcases a with (a | ⟨o, a⟩) | ⟨o, its, n, k1, k2, _⟩
    · exact ⟨.base (.tup a), by simp⟩
    · exact ⟨.fTuple a, by simp⟩
    · exact ⟨.kTuple k1 k2, by simp⟩
  | frz a z b =>
    cases h
    rcases a with ⟨o, a⟩ | a
    · exact ⟨.base (.frz a), by simp⟩
    · rcases a (fun _ => none) with (a | ⟨o, a⟩) | ⟨o, its, n, k1, k2, _⟩
      · cases a
      · cases a
      · exact ⟨.kList k1 k2, by simp⟩
  | @ref n p a =>
    have h : (match S[n]? with
      | some (.lst _) => some "list"
      | some (.dct _) => some "dict"
      | some (.lck _) => some "dict"
      | _ => none) = some t := h
    cases e : S[n]? with
    | none => rw [e] at h; cases h
    | some c =>
      rw [e] at h
      have rc := s.cell n p c a e
      generalize eo : H p = o at rc
      cases rc with
      | lst z b => cases h; exact ⟨.base (.lst eo), by simp⟩
      | dct z b => cases h; exact ⟨.base (.dK eo), by simp⟩
      | lck z b => cases h; exact ⟨.fDict eo, by simp⟩
      | tdc z b => cases h
      | tlk z b => cases h
theorem re_isi {T : String} {x : Str} {p p2 pos : Pos} {e : Expr} {f : FE} (hT : T ∈ ["tuple", "list", "bool", "int", "str"]) (hx : x = Str.ofString T) (hv2 : bootBuiltins x = some (.type T)) (hm : X.mg "isinstance" = none) (hm2 : X.mg x = none) (he : RE X e f) (hg : Gl X "isinstance" := by rfl) (hg2 : Gl X x := by rfl) (hn : x ≠ "__name__" := by decide) (hdb : (x == ("__debug__" : Str)) = false := by decide)
    (hs1 : starEach [.Name x p2] X.env = (false, eval (.Name x p2) X.env) :: starEach [] X.env := by rfl)
    (hs : starEach [e, .Name x p2] X.env = (false, eval e X.env) :: starEach [.Name x p2] X.env := by rfl) (hpl : (backTo pos (starEach [.Name x p2] X.env)).any (·.1) = false := by rfl) : RE X (.Call (.Name "isinstance" p) [e, .Name x p2] [] pos) (eIsi T f) := by
  refine pe_w (pe_callB call_isi hg hm (by decide +kernel) (pa_cons he (pa_cons (pe_bltn (v := .ty T) hg2 hm2 hv2 rfl hn hdb) pa_nil hs1) hs) (by decide) (by decide) hs hpl) fun σ H Q q => ?_
  obtain ⟨m, σd, S, P, s, r, p, w⟩ := q
  refine ⟨m, σd, S, _, s, r, p, fun d S1 m1 v H1 ⟨t, ht, p1⟩ g1 s1 r1 => ?_⟩
  obtain ⟨ty, hm⟩ := ty_of s1 r1 ht
  exact ⟨v, .ty T, .type t, .type T, isiB t T, rfl, .ty T, ty, kit_ty (kit_isi hm hT), w _ _ _ _ _ p1 g1 s1 (.bl _)⟩
end

/-! ### tuple(range(..)), list(range(..)) -/
def eTupRg1 (f : FE) : FE := fun σ S Q => f σ S fun d S1 => ∃ n : Int, d = .int n ∧ 0 ≤ n ∧ n ≤ 16777216 ∧ Q (.tup (rngD 0 n.toNat)) S1
theorem rg_vals {K : KW} {m : List Addr} {H : Hp} (a : Int) (k : Nat) : RDs K m H (rngD a k) ((List.range k).map fun i => V.int (a + (i : Nat))) := by
  unfold rngD
  refine RDs.of_get (by simp) fun i d v h1 h2 => ?_
  rw [List.getElem?_map] at h1 h2
  cases e : (List.range k)[i]? with
  | none => rw [e] at h1; cases h1
  | some j =>
    rw [e] at h1 h2
    cases h1; cases h2
    exact .int _
section
variable {X : Cx}
theorem re_tupRg1 {e : Expr} {f : FE} {p p2 pos pos2 : Pos} (hc : X.calm = true) (hm : X.mg "tuple" = none) (hm2 : X.mg "range" = none) (he : RE X e f) (hg : Gl X "tuple" := by rfl) (hg2 : Gl X "range" := by rfl) (na2 : starEach [e] X.env = (false, eval e X.env) :: starEach [] X.env := by rfl)
    (na : starEach [.Call (.Name "range" p2) [e] [] pos2] X.env = (false, eval (.Call (.Name "range" p2) [e] [] pos2) X.env) :: starEach [] X.env := by rfl) : RE X (.Call (.Name "tuple" p) [.Call (.Name "range" p2) [e] [] pos2] [] pos) (eTupRg1 f) := by
  refine pe_w (pe_tupRg hc hg hm (prg_1 hg2 hm2 he na2) na) fun σ H Q q => ?_
  obtain ⟨m, σd, S, P, s, r, p, w⟩ := q
  refine ⟨m, σd, S, _, s, r, p, fun d S1 m1 v H1 ⟨n, e, h0, h1, p1⟩ g1 s1 r1 => ?_⟩
  subst e
  cases r1
  refine ⟨n, rfl, .of_le (by omega) h1 (by omega) h0, fun a ha => ?_⟩
  have g2 : Grow m1 H1 m1 (upd H1 a (.tup (rgV 0 n))) := Grow.new ha _ (List.prefix_refl _)
  refine w _ _ _ _ _ p1 (g1.trans g2) (s1.plus ha _) (.tup (SqT.of upd_same) (by rw [rgV_length, sizeLine_eq]; omega) ?_)
  unfold rgV
  rw [Int.sub_zero]
  exact rg_vals 0 n.toNat
end
end SD
/-! SD9: slices, dict.get, a walk of a tuple or list, names of built-ins. -/
namespace SD
open PySem PySem.Spec PyProof.Rows L2

theorem bt_len : bootBuiltins "len" = some (.builtin "len") := by decide +kernel
theorem bt_any : bootBuiltins "any" = some (.builtin "any") := by decide +kernel
theorem bt_all : bootBuiltins "all" = some (.builtin "all") := by decide +kernel
theorem bt_sorted : bootBuiltins "sorted" = some (.builtin "sorted") := by decide +kernel
theorem bt_list : bootBuiltins "list" = some (.type "list") := by decide +kernel
theorem bt_tuple : bootBuiltins "tuple" = some (.type "tuple") := by decide +kernel
theorem bt_dict : bootBuiltins "dict" = some (.type "dict") := by decide +kernel
theorem bt_int : bootBuiltins "int" = some (.type "int") := by decide +kernel
theorem bt_str : bootBuiltins "str" = some (.type "str") := by decide +kernel
theorem bt_bool : bootBuiltins "bool" = some (.type "bool") := by decide +kernel
theorem bt_set : bootBuiltins "set" = some (.type "set") := by decide +kernel

section
variable {X : Cx} {tg : Expr}
theorem PI.or {e : Expr} {t t' : TI} (h : PI X tg e t) (h' : PI X tg e t') : PI X tg e fun σ H R => t σ H R ∨ t' σ H R := ⟨fun pins s σ H R I q => q.elim (h.run pins s σ H R I) (h'.run pins s σ H R I)⟩
def iSeqD (f : FE) : FI := fun σ S R => iTupD f σ S R ∨ iLstD f σ S R
theorem ri_seq {e : Expr} {f : FE} (h : RE X e f) : RI X tg e (iSeqD f) := by
  refine pi_w (PI.or (ri_tup h) (ri_list h)) fun σ H R q => ?_
  obtain ⟨m, σd, S, P, s, r, p | p, w⟩ := q
  · exact .inl ⟨m, σd, S, P, s, r, p, w⟩
  · exact .inr ⟨m, σd, S, P, s, r, p, w⟩
end

/-! ### slices -/
abbrev FO := Slots → Store → (Option Int → Store → Prop) → Prop
def oNo : FO := fun _ S Q => Q none S
def oSome (f : FE) : FO := fun σ S Q => f σ S fun d S1 => ∃ i, d = .int i ∧ Q (some i) S1
def cutD (xs : List D) (lo hi : Option Int) : List D := (xs.drop (HT.sIx xs.length 0 lo)).take (HT.sIx xs.length xs.length hi - HT.sIx xs.length 0 lo)
def slF (d : D) (lo hi : Option Int) (S : Store) (Q : PD) : Prop := (∃ xs, d = .tup xs ∧ Q (.tup (cutD xs lo hi)) S) ∨ (∃ xs, d = .frz xs ∧ Q (.ref S.length) (S ++ [.lst (cutD xs lo hi)])) ∨ ∃ n xs, d = .ref n ∧ S[n]? = some (.lst xs) ∧ Q (.ref S.length) (S ++ [.lst (cutD xs lo hi)])
def eSl (f : FE) (l h : FO) : FE := fun σ S Q => f σ S fun d S1 => l σ S1 fun lo S2 => h σ S2 fun hi S3 => slF d lo hi S3 Q
def tOfO (K : KW) (f : FO) : TO := fun σ H Q => ∃ m σd S P, Sim K m S H ∧ RSl K m H σ σd ∧ f σd S P ∧ ∀ o S' m' H', P o S' → Grow m H m' H' → Sim K m' S' H' → Q o H'
abbrev RO (X : Cx) (e : Option Expr) (f : FO) : Prop := PO X e (tOfO (kW X) f)
section
variable {X : Cx}
theorem po_w {e : Option Expr} {t t' : TO} (h : PO X e t) (w : ∀ σ H Q, t' σ H Q → t σ H Q) : PO X e t' := by
  obtain ⟨r⟩ := h
  exact ⟨fun pins s σ H Q I q => r pins s σ H Q I (w σ H Q q)⟩
theorem ro_none : RO X none oNo := by
  refine po_w po_none fun σ H Q q => ?_
  obtain ⟨m, σd, S, P, s, r, p, w⟩ := q
  exact w _ _ _ _ p (.refl _ _) s
theorem ro_some {e : Expr} {f : FE} (h : RE X e f) : RO X (some e) (oSome f) := by
  refine po_w (po_some h) fun σ H Q q => ?_
  obtain ⟨m, σd, S, P, s, r, p, w⟩ := q
  refine ⟨m, σd, S, _, s, r, p, fun d S1 m1 v H1 ⟨i, e, p1⟩ g1 s1 r1 => ?_⟩
  subst e
  cases r1
  exact ⟨i, rfl, w _ _ _ _ p1 g1 s1⟩
theorem RDs.cut {K : KW} {m : List Addr} {H : Hp} {xs : List D} {vs : List V} (r : RDs K m H xs vs) (lo hi : Option Int) : RDs K m H (cutD xs lo hi) (cutV vs lo hi) := by
  unfold cutD cutV
  rw [r.length]
  exact (r.drop _).take _
theorem cutD_le (xs : List D) (lo hi : Option Int) : (cutD xs lo hi).length ≤ xs.length := by
  unfold cutD
  simp only [List.length_take, List.length_drop]
  omega
theorem cutD_all (xs : List D) (lo hi : Option Int) (h : HT.sIx xs.length 0 lo = 0 ∧ HT.sIx xs.length xs.length hi = xs.length) : cutD xs lo hi = xs := by
  unfold cutD
  rw [h.1, h.2]
  simp
theorem re_sl {a : Expr} {lo hi : Option Expr} {f : FE} {l h : FO} {p2 pos : Pos} (ha : RE X a f) (hl : RO X lo l) (hh : RO X hi h) : RE X (.Subscript a (.Slice lo hi none p2) pos) (eSl f l h) := by
  refine pe_w (pe_slice (SlR.or sl_tupA sl_list) ha hl hh) fun σ H Q q => ?_
  obtain ⟨m, σd, S, P, s, r, p, w⟩ := q
  refine ⟨m, σd, S, _, s, r, p, fun d S1 m1 v H1 p1 g1 s1 r1 => ?_⟩
  refine ⟨m1, σd, S1, _, s1, r.up g1, p1, fun o S2 m2 H2 p2 g2 s2 => ?_⟩
  refine ⟨m2, σd, S2, _, s2, r.up (g1.trans g2), p2, fun o2 S3 m3 H3 p3 g3 s3 => ?_⟩
  have ww := w.up (g1.trans (g2.trans g3))
  have r3 := r1.up (g2.trans g3)
  rcases p3 with ⟨xs, e, p3⟩ | ⟨xs, e, p3⟩ | ⟨n, xs, e, e2, p3⟩
  · subst e
    cases r3 with
    | @tup q _ vs a z b =>
      refine .inl ⟨q, vs, rfl, a, fun hw => ?_, fun hw t ht => ?_⟩
      · rw [cutD_all xs o o2 (by rw [b.length]; exact hw)] at p3
        exact ww _ _ _ _ _ p3 (.refl _ _) s3 (.tup a z b)
      · have g4 : Grow m3 H3 m3 (upd H3 t (.tup (cutV vs o o2))) := Grow.new ht _ (List.prefix_refl _)
        have hz := cutV_length vs o o2
        exact ww _ _ _ _ _ p3 g4 (s3.plus ht _) (.tup (SqT.of upd_same) (by omega) ((b.up g4).cut o o2))
  · subst e
    cases r3 with
    | @frz q _ vs a z b =>
      refine .inr ⟨q, vs, rfl, a.sq, fun t ht => ?_⟩
      obtain ⟨g4, s4, r4⟩ := new_lst s3 ht (b.cut o o2) (by have := cutD_le xs o o2; rw [b.length] at this; omega)
      exact ww _ _ _ _ _ p3 g4 s4 r4
  · subst e
    obtain ⟨q, vs, rfl, _, hq, b, hz⟩ := lst_at s3 r3 e2
    refine .inr ⟨q, vs, rfl, SqL.of hq, fun t ht => ?_⟩
    obtain ⟨g4, s4, r4⟩ := new_lst s3 ht (b.cut o o2) (by have := cutD_le xs o o2; omega)
    exact ww _ _ _ _ _ p3 g4 s4 r4
end
section
variable {X : Cx} {a : Expr} {f : FE} {pos : Pos}
theorem rt_isN {j pos'} (ha : RE X a f) : RT X (.Compare a [.Is] [.Constant .none j pos'] pos) (tVal (eIsN f)) := by
  refine pt_w (pt_cmp (pc_isN ha) rfl) fun σ H Q q => ?_
  obtain ⟨m, σd, S, P, s, rs, p, w⟩ := q
  refine ⟨m, σd, S, _, s, rs, p, fun d S1 m1 v H1 p1 g1 s1 r1 => ?_⟩
  obtain ⟨b, e, p1⟩ := p1
  cases e
  exact ⟨_, rfl, by rw [r1.non_iff]; exact w _ _ _ _ p1 g1 s1⟩
theorem rt_notN {j pos'} (ha : RE X a f) : RT X (.Compare a [.IsNot] [.Constant .none j pos'] pos) (tVal (eNotN f)) := by
  refine pt_w (pt_cmp (pc_notN ha) rfl) fun σ H Q q => ?_
  obtain ⟨m, σd, S, P, s, rs, p, w⟩ := q
  refine ⟨m, σd, S, _, s, rs, p, fun d S1 m1 v H1 p1 g1 s1 r1 => ?_⟩
  obtain ⟨b, e, p1⟩ := p1
  cases e
  exact ⟨_, rfl, by rw [r1.non_iff]; exact w _ _ _ _ p1 g1 s1⟩
end
end SD
/-! SDset: set(a list of ints), sorted of it. -/
namespace SD
open PySem PySem.Spec PyProof.Rows L2
open PySem.Calls
section
variable {P : Program} {w : World} {A : Around} {E : Value → Shared → Prop} {s : Shared}
/-- the set as set.__new__ lays it -/
abbrev newSet (w : World) : Obj := { cls := .type "set", dict := none, data := .set #[] 0 (.fresh 0 0 (!w.params.followText "set-order")) }
set_option maxHeartbeats 3200000 in
theorem set_of_list {l : Addr} {items : Array Value} (ns : List Int) {Q : Value → Shared → Prop} (hh : A.handled = none) (hl : s.heap.IsList l items) (hit : IntsAre items.toList ns) (hb : ns.length + 1 < scanBound)
    (h : ∀ (h' : Heap) (tk c : Nat), SetR w h' s.heap.objs.size (fun j => decide (j ∈ ns)) c → c ≤ ns.length → (∀ b o, s.heap.get? b = some o → h'.get? b = some o) → Q (.ref s.heap.objs.size) { s with heap := h', toks := tk }) :
    wpAny (model P w) A (call (.type "set") [.ref l]) Q E s := by
  have size : items.size = ns.length := by have q := IntsAre.length hit; rw [Array.length_toList] at q; exact q
  generalize hn : s.heap.objs.size = a at h
  obtain ⟨c, tl, hmro⟩ := F.called_set.mro
  have e1 := F.called_set.made; have e2 := F.called_set.sub
  refine wpAny_call (codeAny_of_tree ?_)
  show wpAny _ _ (callAny (.type "set") _) _ _ _
  refine wpAny_pure ⟨Code.quiet_builtin _ (by decide +kernel), codeAny_builtin F.entry_type_call ?_⟩; rw [Around.under_plain (weight_type_call_type "set" [.ref l] []) rfl]
  have e3 := F.called_set.notType; have e4 := F.called_set.canCreate; have e5 := F.typeCall_set_1 (.ref l)
  repeat (any_goals (first | assumption | wp_step))
  refine codeAny_mono (code_set_led1 (.ref l) (E := E) (Q₁ := fun o s1 => o = .ref a ∧ s1 = { s with heap := s.heap.push (newSet w) }) (by rw [← hn]; exact ⟨rfl, rfl⟩)) fun r s1 hr => ?_
  cases r with
  | error e => exact hr
  | ok fl =>
    cases fl with
    | ret o =>
      obtain ⟨rfl, rfl⟩ := hr
      have at0 : (s.heap.push (newSet w)).get? a = some (newSet w) := by rw [← hn]; exact Heap.get?_push_size _ rfl
      have ty : Shared.TypeIs { s with heap := s.heap.push (newSet w) } (.ref a) "set" := ⟨_, at0, rfl⟩
      have e6 := F.called_set.init.lookup; have e7 := F.called_set.init.bind (.ref a)
      repeat (any_goals (first | assumption | wp_step))
      refine codeAny_mono (codeAny_call_builtin (R := wants (fun r s2 => r = .none ∧ ∃ h' tk c, s2 = { s with heap := h', toks := tk } ∧ SetR w h' a (fun j => decide (j ∈ ns)) c ∧ c ≤ ns.length ∧ (∀ b o, s.heap.get? b = some o → h'.get? b = some o)) E)
        F.called_set.init.plain F.entry_set_init (check_set_init_1 ty ?_)) fun r2 s2 hr2 => ?_
      · obtain ⟨⟨oc, od, ot, os⟩, hol, hcl, nl, hdl⟩ := hl
        simp only at hcl hdl
        subst hcl; subst hdl
        have hol1 : (s.heap.push (newSet w)).get? l = some { cls := .type "list", dict := od, data := .seq items nl, slots := os } := Heap.get?_push_of_some _ hol
        have e8 := F.sub_list_set; have e9 := F.sub_list_frozenset
        have e10 : (Value.type "list" == Value.type "dict") = false := by decide
        have hl1 : (s.heap.push (newSet w)).IsList l items := ⟨_, hol1, rfl, nl, rfl⟩
        have la : l < a := by rw [← hn]; exact Heap.lt_size hol
        have z1 : (s.heap.push (newSet w)).objs.size = a + 1 := by rw [Heap.size_push, hn]
        unfold Builtin.«set.__init__» noKeywords Builtin.Frozenset.updateFrom
        generalize hPI : pyIter = PI
        wp_walk
        subst hPI
        refine wpAny_pyIter_list hl1 (wpAny_bind (wpAny_runValue ?_))
        have h3 : A.in1.in1.in1.handled = none := by simp [hh]
        have n1 : l ≠ (s.heap.push (newSet w)).objs.size := by rw [z1]; exact Nat.ne_of_lt (Nat.lt_succ_of_lt la)
        have n2 : a ∉ [(s.heap.push (newSet w)).objs.size, l] := by
          rw [z1]
          simp only [List.mem_cons, List.not_mem_nil, or_false, not_or]
          exact ⟨Nat.ne_of_lt (Nat.lt_succ_self _), Nat.ne_of_gt la⟩
        have vals : ∀ (i : Nat) (v : Value), items[i]? = some v → ∃ k t, ns[i]? = some k ∧ v = .int k t := fun i v hv => by
          have hi : i < ns.length := by rw [← size]; exact (Array.getElem?_eq_some_iff.mp hv).1
          obtain ⟨t, e⟩ := IntsAre.int_at hit i v (by rw [Array.getElem?_toList]; exact hv)
          exact ⟨ns[i], t, List.getElem?_eq_getElem hi, by rw [e, List.getD_eq_getElem?_getD, List.getElem?_eq_getElem hi]; rfl⟩
        refine set_update_ints ((Walks.list h3 _ l n1 items).toS) a n2 ns size hb vals (items.size - 0) 0 _ (by omega) (Nat.zero_le _) ⟨⟨_, Heap.get?_push_size _ rfl, rfl, rfl⟩, (hl1.push _)⟩
          ⟨0, Nat.le_refl 0, setR_new_at (Heap.get?_push_of_some _ at0)⟩ fun s' c' hm hc' hS' => ?_
        obtain ⟨h', g2, d', tk', os'⟩ := s'
        obtain rfl : g2 = s.gens := hm.gens
        obtain rfl : d' = s.drawn := hm.drawn
        obtain rfl : os' = s.os := hm.os
        show wpAny _ _ _ _ _ _
        refine wpAny_pure ?_
        show wpAny _ _ (ret Value.none) _ _ _
        rw [size] at hc'
        refine wpAny_pure ⟨rfl, h', tk', c', rfl, hS', hc', fun b o e => ?_⟩
        have hb0 : b < a := by rw [← hn]; exact Heap.lt_size e
        exact hm.heap b o (by rw [z1]; simp only [List.mem_cons, List.not_mem_nil, or_false, not_or]; exact ⟨Nat.ne_of_lt hb0, Nat.ne_of_lt (Nat.lt_succ_of_lt hb0)⟩) (Heap.get?_push_of_some _ (Heap.get?_push_of_some _ e))
      · cases r2 with
        | error e => exact hr2
        | ok fl =>
          cases fl with
          | ret r =>
            obtain ⟨rfl, h', tk, c, rfl, q1, q2, q3⟩ := hr2
            repeat (any_goals (first | assumption | wp_step))
            exact h _ _ _ q1 q2 q3
          | _ => exact hr2.elim
    | _ => exact hr.elim
end
section
variable {X : Cx}
/-- set(l), l a list of ints -/
def rSetL' (w : World) (K : KW) : List V → Hp → VK → Prop := fun xs H Q => ∃ (l : Addr) (ns : List Int), xs = [.ref l] ∧ (SqL K H l (ns.map V.int) ∨ SqT K H l (ns.map V.int)) ∧ ns.length + 1 < scanBound ∧ ∀ a c, H a = none → c ≤ ns.length → Q (.ref a) (upd H a (SetO w a (fun j => decide (j ∈ ns)) c))
theorem cr_setL (hc : X.calm = true) : CallR X (.type "set") (rSetL' X.w (kW X)) := by
  intro pins s σ H xs us Q I r h
  obtain ⟨l, ns, rfl, hq, hb, q⟩ := h
  obtain ⟨u, rfl, rx⟩ := vals1 r
  cases rx
  have fin : ∀ (h' : Heap) (tk c : Nat), SetR X.w h' s.heap.objs.size (fun j => decide (j ∈ ns)) c → c ≤ ns.length → (∀ b o, s.heap.get? b = some o → h'.get? b = some o) → EP X pins σ Q (.ref s.heap.objs.size) { s with heap := h', toks := tk } := fun h' tk c R hc k =>
    ⟨.ref s.heap.objs.size, _, I.laid (t' := tk) k (Nat.le_refl _) (setO_new R), rfl, q _ c (I.hok.fresh (Nat.le_refl _)) hc⟩
  rcases hq with hq | hq
  · obtain ⟨its, rv, pl, _⟩ := I.list hq
    exact set_of_list ns (I.ok.hd hc) pl.isList (by simpa using rv.ints) hb fin
  · obtain ⟨its, rv, pl, _⟩ := I.tuple hq
    exact call_set_tupI ns (I.ok.hd hc) pl (by simpa using rv.ints) hb fin
def eSortSet (f : FE) : FE := fun σ S Q => f σ S fun d S1 => ∃ ns : List Int, seqD S1 d = some (ns.map D.int) ∧ ns.length < 64 ∧ ∀ ys : List Int, ys.Pairwise (· < ·) → (∀ k, k ∈ ys ↔ k ∈ ns) → ys.length ≤ ns.length → Q (.ref S1.length) (S1 ++ [.lst (ys.map D.int)])
/-- sorted(set(e)) -/
theorem re_sortSet {e : Expr} {f : FE} {p p2 pos pos2 : Pos} (hc : X.calm = true) (hm : X.mg "sorted" = none) (hm2 : X.mg "set" = none) (he : RE X e f) (hg : Gl X "sorted" := by rfl) (hg2 : Gl X "set" := by rfl) (n1 : starEach [e] X.env = (false, eval e X.env) :: starEach [] X.env := by rfl)
    (n2 : starEach [.Call (.Name "set" p2) [e] [] pos2] X.env = (false, eval (.Call (.Name "set" p2) [e] [] pos2) X.env) :: starEach [] X.env := by rfl) : RE X (.Call (.Name "sorted" p) [.Call (.Name "set" p2) [e] [] pos2] [] pos) (eSortSet f) := by
  refine pe_w (pe_callB (cr_sortedSet hc) hg hm (by decide +kernel) (pa_cons (pe_callTy (cr_setL hc) hg2 hm2 (by decide +kernel) (pa_cons he pa_nil n1) (by decide) (by decide) n1 (by rfl)) pa_nil n2) (by decide) (by decide) n2 (by rfl)) fun σ H Q q => ?_
  obtain ⟨m, σd, S, P, s, r, p, w⟩ := q
  refine ⟨m, σd, S, _, s, r, p, fun d S1 m1 v H1 ⟨ns, e1, h64, p1⟩ g1 s1 r1 => ?_⟩
  obtain ⟨l, vs, rfl, hq, b, hz⟩ := seq_at s1 r1 e1
  have e2 := b.ints
  subst e2
  refine ⟨l, ns, rfl, hq, by unfold scanBound; omega, fun a c ha hc2 => ?_⟩
  refine ⟨a, _, c, rfl, upd_same, by omega, fun ys p2 h1 h2 h3 hp => ?_⟩
  have s2 := s1.plus ha (SetO X.w a (fun j => decide (j ∈ ns)) c)
  have g2 : Grow m1 H1 m1 _ := Grow.new ha (SetO X.w a (fun j => decide (j ∈ ns)) c) (List.prefix_refl _)
  have hl : ys.length ≤ ns.length := by omega
  obtain ⟨g3, s3, r3⟩ := new_lst s2 hp (RDs.of_ints ys) (by rw [List.length_map, sizeLine_eq]; omega)
  exact w _ _ _ _ _ (p1 ys h1 (fun k => by rw [h2 k]; simp) hl) (g1.trans (g2.trans g3)) s3 r3
end
end SD
/-! SDw: tools for the meanings over D: stores that grow, comprehensions and loops by an invariant. -/
namespace SD
open PySem L2

/-- all that was stands as it was -/
def Ext (S S' : Store) : Prop := ∀ (i : Nat) (c : Cell), S[i]? = some c → S'[i]? = some c
theorem Ext.refl (S : Store) : Ext S S := fun _ _ h => h
theorem Ext.trans {S S1 S2 : Store} (a : Ext S S1) (b : Ext S1 S2) : Ext S S2 := fun i c h => b i c (a i c h)
theorem Ext.app (S T : Store) : Ext S (S ++ T) := fun i c h => by rw [List.getElem?_append_left (List.getElem?_eq_some_iff.mp h).1]; exact h
theorem Ext.le {S S' : Store} (e : Ext S S') : S.length ≤ S'.length := by
  rcases Nat.eq_zero_or_pos S.length with h | h
  · omega
  · have q := e (S.length - 1) S[S.length - 1] (by simp)
    have := (List.getElem?_eq_some_iff.mp q).1
    omega
theorem Ext.set {S : Store} {n : Nat} {c : Cell} (h : S[n]? = none) : Ext S (S.set n c) := fun i d e => by
  by_cases hi : n = i
  · subst hi; rw [h] at e; cases e
  · rw [List.getElem?_set_ne hi]; exact e
theorem Ext.put {S S' : Store} {n : Nat} {c : Cell} (e : Ext S S') (h : S.length ≤ n) : Ext S (S'.set n c) := fun i d q => by
  have := (List.getElem?_eq_some_iff.mp q).1
  rw [List.getElem?_set_ne (by omega)]
  exact e i d q
theorem new_at (S : Store) (c : Cell) : (S ++ [c])[S.length]? = some c := by simp
theorem set_at {S : Store} {n : Nat} {c d : Cell} (h : S[n]? = some c) : (S.set n d)[n]? = some d := List.getElem?_set_self (List.getElem?_eq_some_iff.mp h).1
theorem set_off {S : Store} {n k : Nat} {d : Cell} (h : n ≠ k) : (S.set n d)[k]? = S[k]? := List.getElem?_set_ne h
/-- all but the cells in l -/
def ExtB (l : List Nat) (S S' : Store) : Prop := S.length ≤ S'.length ∧ ∀ (i : Nat), i ∉ l → ∀ (c : Cell), S[i]? = some c → S'[i]? = some c
theorem ExtB.refl (l : List Nat) (S : Store) : ExtB l S S := ⟨Nat.le_refl _, fun _ _ _ h => h⟩
theorem ExtB.trans {l : List Nat} {S S1 S2 : Store} (a : ExtB l S S1) (b : ExtB l S1 S2) : ExtB l S S2 := ⟨Nat.le_trans a.1 b.1, fun i hi c h => b.2 i hi c (a.2 i hi c h)⟩
theorem Ext.b {S S' : Store} (e : Ext S S') (l : List Nat) : ExtB l S S' := ⟨e.le, fun i _ c h => e i c h⟩
theorem ExtB.mono {l l' : List Nat} {S S' : Store} (e : ExtB l S S') (h : ∀ i ∈ l, i ∈ l') : ExtB l' S S' := ⟨e.1, fun i hi c q => e.2 i (fun z => hi (h i z)) c q⟩
theorem ExtB.put {l : List Nat} {S S' : Store} {n : Nat} {c : Cell} (e : ExtB l S S') (h : n ∈ l ∨ S.length ≤ n) : ExtB l S (S'.set n c) := ⟨by rw [List.length_set]; exact e.1, fun i hi d q => by
  have := (List.getElem?_eq_some_iff.mp q).1
  rw [List.getElem?_set_ne (by rintro rfl; rcases h with h | h; exact hi h; omega)]
  exact e.2 i hi d q⟩

theorem ite_t' {A B : Prop} (a : A) : if true = true then A else B := by rw [if_pos rfl]; exact a
/-! ### comprehensions -/
/-- a list comprehension by an invariant; R is what is reached -/
theorem lc_inv {ok : Store → Prop} {g : FG} {t : FT} {e : FE} {n0 : Nat} {Q : Store → Prop} {σ : Slots} (I : Nat → List D → Store → Prop) {xs : List D} {S0 : Store} (few : xs.length ≤ sizeLine) (at0 : S0[n0]? = some (.lst [])) (h0 : I 0 [] S0)
    (step : ∀ i x acc S (R : Store → Prop), xs[i]? = some x → S[n0]? = some (.lst acc) → acc.length ≤ i → I i acc S → (∀ acc' S', S'[n0]? = some (.lst acc') → acc'.length ≤ i + 1 → I (i + 1) acc' S' → R S') →
      ok S ∧ g x σ S fun σ2 S2 => t σ2 S2 fun b S3 => if b = true then e σ2 S3 fun y S4 => ∃ acc, S4[n0]? = some (.lst acc) ∧ acc.length < sizeLine ∧ R (S4.set n0 (.lst (acc ++ [y]))) else R S3)
    (done : ∀ acc S, S[n0]? = some (.lst acc) → acc.length ≤ xs.length → I xs.length acc S → ok S ∧ Q S) : lcD ok g t e n0 Q σ xs S0 := by
  have go : ∀ (ys : List D) (i : Nat) (acc : List D) (S : Store), xs.drop i = ys → i ≤ xs.length → S[n0]? = some (.lst acc) → acc.length ≤ i → I i acc S → lcD ok g t e n0 Q σ ys S := by
    intro ys
    induction ys with
    | nil =>
      intro i acc S hd hi h1 h2 h3
      have : i = xs.length := by
        have := congrArg List.length hd
        simp at this
        omega
      subst this
      exact done acc S h1 h2 h3
    | cons y ys ih =>
      intro i acc S hd hi h1 h2 h3
      have hlt : i < xs.length := by
        have := congrArg List.length hd
        simp at this
        omega
      have hx : xs[i]? = some y := by
        rw [← List.head?_drop, hd]; rfl
      have hd' : xs.drop (i + 1) = ys := by
        rw [← List.tail_drop, hd]; rfl
      exact step i y acc S _ hx h1 h2 h3 fun acc' S' q1 q2 q3 => ih (i + 1) acc' S' hd' hlt q1 q2 q3
  exact go xs 0 [] S0 rfl (Nat.zero_le _) at0 (Nat.le_refl _) h0
/-- a pure one, without a test -/
theorem lc_map {ok : Store → Prop} {e : FE} {i : Nat} {Q : Store → Prop} {σ : Slots} {xs : List D} {S : Store} (f : D → D) (few : xs.length ≤ sizeLine) (hok : ∀ S1, Ext S S1 → ok S1)
    (he : ∀ x ∈ xs, ∀ S1 (P : PD), Ext S S1 → (∀ S2, Ext S1 S2 → P (f x) S2) → e (σ.set i (some x)) S1 P)
    (hQ : ∀ S1, Ext S S1 → S1[S.length]? = some (.lst (xs.map f)) → Q S1) : lcD ok (gNm i) tYesD e S.length Q σ xs (S ++ [.lst []]) := by
  refine lc_inv (fun k acc S1 => Ext S S1 ∧ acc = (xs.take k).map f) few (new_at S _) ⟨Ext.app S _, rfl⟩ (fun k x acc S1 R hx h1 h2 ⟨h3, h4⟩ hR => ⟨hok S1 h3, ?_⟩) (fun acc S1 h1 h2 ⟨h3, h4⟩ => ⟨hok S1 h3, hQ S1 h3 (by rw [h1, h4, List.take_length])⟩)
  have z : e (σ.set i (some x)) S1 fun y S4 => ∃ acc, S4[S.length]? = some (.lst acc) ∧ acc.length < sizeLine ∧ R (S4.set S.length (.lst (acc ++ [y]))) := ?_
  · show (if true = true then e (σ.set i (some x)) S1 fun y S4 => ∃ acc, S4[S.length]? = some (.lst acc) ∧ acc.length < sizeLine ∧ R (S4.set S.length (.lst (acc ++ [y]))) else R S1)
    exact ite_t' z
  refine he x (List.mem_of_getElem? hx) S1 _ h3 fun S2 h5 => ?_
  refine ⟨acc, h5 _ _ h1, ?_, ?_⟩
  · have := (List.getElem?_eq_some_iff.mp hx).1
    omega
  · refine hR (acc ++ [f x]) _ (set_at (h5 _ _ h1)) (by simp; omega) ⟨(h3.trans h5).put (Nat.le_refl _), ?_⟩
    rw [h4, List.take_add_one, hx]
    simp
/-- a pure one with a test -/
theorem lc_filter {ok : Store → Prop} {t : FT} {e : FE} {i : Nat} {Q : Store → Prop} {σ : Slots} {xs : List D} {S : Store} (p : D → Bool) (f : D → D) (few : xs.length ≤ sizeLine) (hok : ∀ S1, Ext S S1 → ok S1)
    (ht : ∀ x ∈ xs, ∀ S1 (P : Bool → Store → Prop), Ext S S1 → (∀ S2, Ext S1 S2 → P (p x) S2) → t (σ.set i (some x)) S1 P)
    (he : ∀ x ∈ xs, ∀ S1 (P : PD), Ext S S1 → (∀ S2, Ext S1 S2 → P (f x) S2) → e (σ.set i (some x)) S1 P)
    (hQ : ∀ S1, Ext S S1 → S1[S.length]? = some (.lst ((xs.filter p).map f)) → Q S1) : lcD ok (gNm i) t e S.length Q σ xs (S ++ [.lst []]) := by
  refine lc_inv (fun k acc S1 => Ext S S1 ∧ acc = ((xs.take k).filter p).map f) few (new_at S _) ⟨Ext.app S _, rfl⟩ (fun k x acc S1 R hx h1 h2 ⟨h3, h4⟩ hR => ⟨hok S1 h3, ?_⟩) (fun acc S1 h1 h2 ⟨h3, h4⟩ => ⟨hok S1 h3, hQ S1 h3 (by rw [h1, h4, List.take_length])⟩)
  refine ht x (List.mem_of_getElem? hx) S1 _ h3 fun S2 h5 => ?_
  have tk : xs.take (k + 1) = xs.take k ++ [x] := by rw [List.take_add_one, hx]; rfl
  cases hp : p x with
  | false =>
    rw [if_neg (by decide)]
    refine hR acc S2 (h5 _ _ h1) (by omega) ⟨h3.trans h5, ?_⟩
    rw [h4, tk, List.filter_append, List.filter_cons_of_neg (by simp [hp])]
    simp
  | true =>
    rw [if_pos rfl]
    refine he x (List.mem_of_getElem? hx) S2 _ (h3.trans h5) fun S3 h6 => ⟨acc, h6 _ _ (h5 _ _ h1), ?_, ?_⟩
    · have := (List.getElem?_eq_some_iff.mp hx).1
      omega
    · refine hR (acc ++ [f x]) _ (set_at (h6 _ _ (h5 _ _ h1))) (by simp; omega) ⟨((h3.trans h5).trans h6).put (Nat.le_refl _), ?_⟩
      rw [h4, tk, List.filter_append, List.filter_cons_of_pos hp]
      simp
/-- {x: True for x in xs if p x} -/
theorem dc_inv {ok : Store → Prop} {g : FG} {t : FT} {fk fv : FE} {n0 : Nat} {Q : Store → Prop} {σ : Slots} (I : Nat → List (D × D) → Store → Prop) {xs : List D} {S0 : Store} (few : xs.length ≤ sizeLine) (at0 : S0[n0]? = some (.dct [])) (h0 : I 0 [] S0)
    (step : ∀ i x acc S (R : Store → Prop), xs[i]? = some x → S[n0]? = some (.dct acc) → acc.length ≤ i → I i acc S → (∀ acc' S', S'[n0]? = some (.dct acc') → acc'.length ≤ i + 1 → I (i + 1) acc' S' → R S') →
      ok S ∧ g x σ S fun σ2 S2 => t σ2 S2 fun b S3 => if b = true then fk σ2 S3 fun k S4 => fv σ2 S4 fun v S5 => ∃ acc, (toKey k).isSome = true ∧ S5[n0]? = some (.dct acc) ∧ acc.length < sizeLine ∧ R (S5.set n0 (.dct (putD acc k v))) else R S3)
    (done : ∀ acc S, S[n0]? = some (.dct acc) → acc.length ≤ xs.length → I xs.length acc S → ok S ∧ Q S) : dcD ok g t fk fv n0 Q σ xs S0 := by
  have go : ∀ (ys : List D) (i : Nat) (acc : List (D × D)) (S : Store), xs.drop i = ys → i ≤ xs.length → S[n0]? = some (.dct acc) → acc.length ≤ i → I i acc S → dcD ok g t fk fv n0 Q σ ys S := by
    intro ys
    induction ys with
    | nil =>
      intro i acc S hd hi h1 h2 h3
      have : i = xs.length := by
        have := congrArg List.length hd
        simp at this
        omega
      subst this
      exact done acc S h1 h2 h3
    | cons y ys ih =>
      intro i acc S hd hi h1 h2 h3
      have hlt : i < xs.length := by
        have := congrArg List.length hd
        simp at this
        omega
      have hx : xs[i]? = some y := by
        rw [← List.head?_drop, hd]; rfl
      have hd' : xs.drop (i + 1) = ys := by
        rw [← List.tail_drop, hd]; rfl
      exact step i y acc S _ hx h1 h2 h3 fun acc' S' q1 q2 q3 => ih (i + 1) acc' S' hd' hlt q1 q2 q3
  exact go xs 0 [] S0 rfl (Nat.zero_le _) at0 (Nat.le_refl _) h0

/-! ### sets of numbers as dicts -/
def setD (ks : List Nat) : List (D × D) := ks.map fun k => (.int (k : Nat), .bl true)
def insK (ks : List Nat) (k : Nat) : List Nat := if k ∈ ks then ks else ks ++ [k]
theorem setD_val (ks : List Nat) (k : Nat) : (valD (setD ks) (.int k)).isSome = decide (k ∈ ks) := by
  induction ks with
  | nil => rfl
  | cons a ks ih =>
    unfold setD valD at ih ⊢
    rw [List.map_cons]
    by_cases h : a = k
    · subst h
      rw [List.find?_cons_of_pos (by simp)]
      simp
    · rw [List.find?_cons_of_neg (by simp; omega), ih]
      simp [Ne.symm h]
theorem setD_any (ks : List Nat) (k : Nat) : (setD ks).any (fun p => decide (p.1 = D.int k)) = decide (k ∈ ks) := by
  induction ks with
  | nil => rfl
  | cons a ks ih =>
    unfold setD at ih ⊢
    rw [List.map_cons, List.any_cons, ih]
    by_cases h : a = k
    · subst h; simp
    · simp [h, Ne.symm h]; omega
theorem setD_put (ks : List Nat) (k : Nat) : putD (setD ks) (.int k) (.bl true) = setD (insK ks k) := by
  unfold putD insK
  rw [setD_any]
  by_cases h : k ∈ ks
  · rw [if_pos (by simpa using h), if_pos h]
    unfold setD
    rw [List.map_map]
    refine List.map_congr_left fun x _ => ?_
    simp only [Function.comp]
    split <;> rfl
  · rw [if_neg (by simpa using h), if_neg h]
    unfold setD
    simp
theorem mem_insK {ks : List Nat} {k j : Nat} : j ∈ insK ks k ↔ j ∈ ks ∨ j = k := by
  unfold insK
  split
  · constructor
    · exact .inl
    · rintro (h | rfl)
      · exact h
      · assumption
  · simp
theorem nodup_insK {ks : List Nat} {k : Nat} (h : ks.Nodup) : (insK ks k).Nodup := by
  unfold insK
  split
  · exact h
  · rw [List.nodup_append]
    exact ⟨h, by simp, fun a ha b hb => by rw [List.mem_singleton] at hb; rintro rfl; subst hb; contradiction⟩
theorem length_insK (ks : List Nat) (k : Nat) : (insK ks k).length ≤ ks.length + 1 := by
  unfold insK
  split <;> simp
theorem setD_keys (ks : List Nat) : (setD ks).map (·.1) = ks.map fun k => D.int (k : Nat) := by
  unfold setD; rw [List.map_map]; rfl
theorem setD_length (ks : List Nat) : (setD ks).length = ks.length := by unfold setD; rw [List.length_map]
theorem setD_merge (ks ls : List Nat) : ∃ ms, mergeD (setD ks) (setD ls) = setD ms ∧ (ks.Nodup → ms.Nodup) ∧ ∀ j, j ∈ ms ↔ j ∈ ks ∨ j ∈ ls := by
  induction ls generalizing ks with
  | nil => exact ⟨ks, rfl, fun h => h, fun j => by simp⟩
  | cons a ls ih =>
    obtain ⟨ms, h1, h2, h3⟩ := ih (insK ks a)
    refine ⟨ms, ?_, fun h => h2 (nodup_insK h), fun j => ?_⟩
    · show mergeD (putD (setD ks) (.int a) (.bl true)) (setD ls) = setD ms
      rw [setD_put]; exact h1
    · rw [h3, mem_insK, List.mem_cons]
      constructor
      · rintro ((h | h) | h)
        · exact .inl h
        · exact .inr (.inl h)
        · exact .inr (.inr h)
      · rintro (h | h | h)
        · exact .inl (.inl h)
        · exact .inl (.inr h)
        · exact .inr h
theorem setD_hom (ks : List Nat) : ∀ p ∈ setD ks, p.2 = .bl true := by
  intro p hp
  obtain ⟨k, _, rfl⟩ := List.mem_map.mp hp
  rfl
theorem subset_len {α : Type} [DecidableEq α] : ∀ {ks ls : List α}, ks.Nodup → (∀ j, j ∈ ks → j ∈ ls) → ks.length ≤ ls.length
  | [], _, _, _ => Nat.zero_le _
  | k :: ks, ls, hn, h => by
    rw [List.nodup_cons] at hn
    have hk := h k List.mem_cons_self
    have ih := subset_len (ls := ls.erase k) hn.2 fun j hj => (List.mem_erase_of_ne (fun (e : j = k) => hn.1 (e ▸ hj))).mpr (h j (List.mem_cons_of_mem _ hj))
    rw [List.length_erase_of_mem hk] at ih
    have : 0 < ls.length := List.length_pos_of_mem hk
    rw [List.length_cons]
    omega
theorem subset_back {α : Type} [DecidableEq α] {ks ls : List α} (hn : ks.Nodup) (h : ∀ j, j ∈ ks → j ∈ ls) (hl : ks.length = ls.length) (j : α) (hj : j ∈ ls) : j ∈ ks := by
  by_cases q : j ∈ ks
  · exact q
  · have := subset_len (ls := ls.erase j) hn fun i hi => (List.mem_erase_of_ne (fun (e : i = j) => q (e ▸ hi))).mpr (h i hi)
    rw [List.length_erase_of_mem hj] at this
    have := List.length_pos_of_mem hj
    omega
theorem setD_same {ks ls : List Nat} (hk : ks.Nodup) (hl : ls.Nodup) : sameD (setD ks) (setD ls) = true ↔ ∀ j, j ∈ ks ↔ j ∈ ls := by
  have vv : ∀ (ls : List Nat) (j : Nat), valD (setD ls) (.int j) = some (.bl true) ↔ j ∈ ls := fun ls j => by
    have q := setD_val ls j
    constructor
    · intro h
      rw [h] at q
      simpa using q.symm
    · intro h
      rw [decide_eq_true h] at q
      obtain ⟨v, hv⟩ := Option.isSome_iff_exists.mp q
      rw [hv]
      unfold valD at hv
      cases e : (setD ls).find? fun p => decide (p.1 = D.int j) with
      | none => rw [e] at hv; cases hv
      | some z =>
        rw [e] at hv
        cases hv
        show some z.2 = _
        rw [setD_hom ls z (List.mem_of_find?_eq_some e)]
  unfold sameD
  rw [setD_length, setD_length, Bool.and_eq_true, List.all_eq_true, beq_iff_eq]
  constructor
  · rintro ⟨h1, h2⟩
    have sub : ∀ j, j ∈ ks → j ∈ ls := fun j hj => by
      have := h2 (.int j, .bl true) (List.mem_map.mpr ⟨j, hj, rfl⟩)
      exact (vv ls j).mp (by simpa using this)
    refine fun j => ⟨sub j, fun hj => ?_⟩
    exact subset_back hk sub h1 j hj
  · intro h
    refine ⟨((List.perm_ext_iff_of_nodup hk hl).mpr h).length_eq, fun p hp => ?_⟩
    obtain ⟨k, hk, rfl⟩ := List.mem_map.mp hp
    simpa using (vv ls k).mpr ((h k).mp hk)

/-! ### tests known -/
theorem ite_t {c : Prop} [Decidable c] {A B : Prop} (h : c) (a : A) : if c then A else B := by rw [if_pos h]; exact a
theorem ite_f {c : Prop} [Decidable c] {A B : Prop} (h : ¬ c) (b : B) : if c then A else B := by rw [if_neg h]; exact b
theorem ite_b {b : Bool} {A B : Prop} (h1 : b = true → A) (h2 : b = false → B) : if b = true then A else B := by cases b <;> simp_all
theorem atI_n {α : Type} {xs : List α} (k : Nat) : L2.atI xs (k : Int) = xs[k]? := by
  by_cases h : k < xs.length
  · rw [L2.atI_nat (v := xs[k]) (by simp [h])]; simp [h]
  · unfold L2.atI L2.ixN
    rw [if_pos (by omega), if_neg (by omega)]
    simp [h]
end SD
/-! SDr: one step of a meaning at a time. -/
namespace SD
open PySem L2
theorem dicC_or {o : Option Cell} {kvs : List (D × D)} (h : dicC o = some kvs) : o = some (.dct kvs) ∨ o = some (.lck kvs) := by
  cases o with
  | none => simp [dicC] at h
  | some c =>
    cases c with
    | lst xs => simp [dicC] at h
    | dct ks => simp only [dicC, Option.some.injEq] at h; rw [h]; exact .inl rfl
    | lck ks => simp only [dicC, Option.some.injEq] at h; rw [h]; exact .inr rfl
    | tdc ks => simp [dicC] at h
    | tlk ks => simp [dicC] at h
section
variable {σ : Slots} {S : Store} {E : EndsD} {Q : PD} {QB : Bool → Store → Prop} {QA : List D → Store → Prop} {QG : Slots → Store → Prop} {QI : (Store → Prop) → List D → Store → Prop}
theorem r_seq {f g : FS} (h : f { E with nx := g E } σ S) : sSeq f g E σ S := h
theorem r_cut {f g : FS} (I : Slots → Store → Prop) (h2 : ∀ σ S, I σ S → g E σ S) (h : ∀ T : Slots → Store → Prop, (∀ σ S, I σ S → T σ S) → f { E with nx := T } σ S) : sSeq f g E σ S := h _ h2
theorem r_asg {f : FE} {g : FG} (h : f σ S fun d S1 => g d σ S1 E.nx) : sAsg f g E σ S := h
theorem r_if {t : FT} {f g : FS} (h : t σ S fun b S1 => if b = true then f E σ S1 else g E σ S1) : sIf t f g E σ S := h
theorem r_ret {f : FE} (h : f σ S E.rt) : sRet f E σ S := h
theorem r_drop {f : FE} (h : f σ S fun _ S1 => E.nx σ S1) : sDrop f E σ S := h
theorem r_next (h : E.nx σ S) : sNext E σ S := h
theorem r_nm {d : D} {i : Nat} (h : QG (σ.set i (some d)) S) : gNm i d σ S QG := h
theorem r_var {i : Nat} {d : D} (e : σ[i]? = some (some d)) (h : Q d S) : eVar i σ S Q := ⟨d, e, h⟩
theorem r_c {d : D} (h : Q d S) : eC d σ S Q := h
theorem r_aNil (h : QA [] S) : aNil σ S QA := h
theorem r_aCons {f : FE} {g : FA} (h : f σ S fun d S1 => g σ S1 fun ds S2 => QA (d :: ds) S2) : aCons f g σ S QA := h
theorem r_tup {f : FA} (h : f σ S fun ds S1 => ds.length ≤ sizeLine ∧ Q (.tup ds) S1) : eTup f σ S Q := h
theorem r_lst {f : FA} (h : f σ S fun ds S1 => ds.length ≤ sizeLine ∧ Q (.ref S1.length) (S1 ++ [.lst ds])) : eLst f σ S Q := h
theorem r_op {r : F2} {f g : FE} (h : f σ S fun x S1 => g σ S1 fun y S2 => r x y S2 Q) : eOp r f g σ S Q := h
theorem r_cb {r : FN} {f : FA} (h : f σ S fun xs S1 => r xs S1 Q) : eCB r f σ S Q := h
theorem r_call {F : FnD} {f : FA} (h : f σ S fun xs S1 => F xs S1 Q) : eCall F f σ S Q := h
theorem r_val {f : FE} (h : f σ S fun d S1 => ∃ b, d = .bl b ∧ QB b S1) : tVal f σ S QB := h
theorem r_and {t u : FT} (h : t σ S fun c S1 => if c = true then u σ S1 QB else QB false S1) : tAndD t u σ S QB := h
theorem r_or {t u : FT} (h : t σ S fun c S1 => if c = true then QB true S1 else u σ S1 QB) : tOrD t u σ S QB := h
theorem r_not {t : FT} (h : t σ S fun c S1 => QB (!c) S1) : tNotD t σ S QB := h
theorem r_eAnd {f g : FE} (h : f σ S fun d S1 => ∃ c, d = .bl c ∧ if c = true then g σ S1 Q else Q (.bl false) S1) : eAnd f g σ S Q := h
theorem r_eOr {f g : FE} (h : f σ S fun d S1 => ∃ c, d = .bl c ∧ if c = true then Q (.bl true) S1 else g σ S1 Q) : eOr f g σ S Q := h
theorem r_eNot {f : FE} (h : f σ S fun d S1 => ∃ c, d = .bl c ∧ Q (.bl (!c)) S1) : eNot f σ S Q := h
theorem r_eIf {t : FT} {f g : FE} (h : t σ S fun c S1 => if c = true then f σ S1 Q else g σ S1 Q) : eIf t f g σ S Q := h
theorem r_isN {f : FE} (h : f σ S fun d S1 => Q (.bl (decide (d = .non))) S1) : eIsN f σ S Q := h
theorem cmul_r {i j : Int} (h : -(2 ^ 64) < j ∧ j < 2 ^ 64) : CMul i j := .inr h
theorem cmul_l {i j : Int} (h : -(2 ^ 64) < i ∧ i < 2 ^ 64) : CMul i j := .inl h
theorem r_isi {T : String} {f : FE} (h : f σ S fun d S1 => ∃ t, tyName S1 d = some t ∧ Q (.bl (isiB t T)) S1) : eIsi T f σ S Q := h
theorem r_ty {t : String} {d : D} {P : String → Prop} (e : tyName S d = some t) (h : P t) : ∃ t, tyName S d = some t ∧ P t := ⟨t, e, h⟩
theorem r_yes (h : QB true S) : tYesD σ S QB := h
theorem r_dict0 (h : Q (.ref S.length) (S ++ [.dct []])) : eDict0 σ S Q := h
theorem r_dictF {d : D} {kvs : List (D × D)} (e : dictD S d = some kvs) (h : Q (.ref S.length) (S ++ [.dct kvs])) : dictF [d] S Q := ⟨kvs, e, h⟩
def ssD (Q : PD) (d : D) (S1 : Store) : Prop := ∃ ns : List Int, seqD S1 d = some (ns.map D.int) ∧ ns.length < 64 ∧ ∀ ys : List Int, ys.Pairwise (· < ·) → (∀ k, k ∈ ys ↔ k ∈ ns) → ys.length ≤ ns.length → Q (.ref S1.length) (S1 ++ [.lst (ys.map D.int)])
theorem r_ss {f : FE} (h : f σ S fun d S1 => ssD Q d S1) : eSortSet f σ S Q := h
theorem r_tr {f : FE} (h : f σ S fun d S1 => ∃ n : Int, d = .int n ∧ 0 ≤ n ∧ n ≤ 16777216 ∧ Q (.tup (rngD 0 n.toNat)) S1) : eTupRg1 f σ S Q := h
theorem r_mt {T : String} {fr : FM} {fo : FE} {fa : FA} (h : fo σ S fun x S1 => tyD T S1 x ∧ fa σ S1 fun xs S2 => fr x xs S2 Q) : eMt T fr fo fa σ S Q := h
theorem r_tyL {n : Nat} {ys : List D} {P : Prop} (e : S[n]? = some (.lst ys)) (h : P) : tyD "list" S (.ref n) ∧ P := ⟨.inl ⟨rfl, n, ys, rfl, e⟩, h⟩
theorem r_tyDc {n : Nat} {ys : List (D × D)} {P : Prop} (e : S[n]? = some (.dct ys)) (h : P) : tyD "dict" S (.ref n) ∧ P := ⟨.inr ⟨rfl, n, ys, rfl, e⟩, h⟩
theorem r_le {n : Nat} {P : Prop} (a : n ≤ sizeLine) (h : P) : n ≤ sizeLine ∧ P := ⟨a, h⟩
theorem r_bl {c : Bool} {P : Bool → Prop} (h : P c) : ∃ b, D.bl c = .bl b ∧ P b := ⟨c, rfl, h⟩
theorem r_ifT {c : Bool} {A B : Prop} (e : c = true) (h : A) : if c = true then A else B := by rw [if_pos e]; exact h
theorem r_ifF {c : Bool} {A B : Prop} (e : c = false) (h : B) : if c = true then A else B := by rw [if_neg (by rw [e]; decide)]; exact h
theorem r_ixT {xs : List D} {k : Int} {v : D} (e : atI xs k = some v) (h : Q v S) : ixF (.tup xs) (.int k) S Q := ⟨v, e, h⟩
theorem r_ixE {o : D} {xs : List D} {k : Int} {v : D} (e0 : o = .tup xs) (e : atI xs k = some v) (h : Q v S) : ixF o (.int k) S Q := by subst e0; exact ⟨v, e, h⟩
theorem r_ixZ {xs : List D} {k : Int} {v : D} (e : atI xs k = some v) (h : Q v S) : ixF (.frz xs) (.int k) S Q := ⟨v, e, h⟩
theorem r_ixL {n : Nat} {xs : List D} {k : Int} {v : D} (a : S[n]? = some (.lst xs)) (e : atI xs k = some v) (h : Q v S) : ixF (.ref n) (.int k) S Q := by
  dsimp only [ixF]; rw [a]; exact ⟨k, v, rfl, e, h⟩
theorem r_ixD {n : Nat} {kvs : List (D × D)} {i v : D} {k : Key} (a : dictD S (.ref n) = some kvs) (e : toKey i = some k) (e2 : valD kvs i = some v) (h : Q v S) : ixF (.ref n) i S Q := by
  dsimp only [ixF]
  rcases dicC_or a with a | a <;> rw [a] <;> exact ⟨k, v, e, e2, h⟩
theorem r_addI {i j : Int} (h : Q (.int (i + j)) S) : addF (.int i) (.int j) S Q := h
theorem r_addT {xs ys : List D} (l : xs.length + ys.length ≤ sizeLine) (h : Q (.tup (xs ++ ys)) S) : addF (.tup xs) (.tup ys) S Q := ⟨l, h⟩
theorem r_addL {n k : Nat} {xs ys : List D} (a : S[n]? = some (.lst xs)) (b : S[k]? = some (.lst ys)) (l : xs.length + ys.length ≤ sizeLine) (h : Q (.ref S.length) (S ++ [.lst (xs ++ ys)])) : addF (.ref n) (.ref k) S Q := ⟨xs, ys, a, b, l, h⟩
theorem r_intF {f : Int → Int → D} {i j : Int} (h : Q (f i j) S) : intF f (.int i) (.int j) S Q := h
theorem r_intCF {C : Int → Int → Prop} {f : Int → Int → D} {i j : Int} (c : C i j) (h : Q (f i j) S) : intCF C f (.int i) (.int j) S Q := ⟨c, h⟩
theorem r_eqI {i j : Int} (h : Q (.bl (decide (i = j))) S) : eqF false (.int i) (.int j) S Q := by show Q _ S; rw [Bool.xor_false]; exact h
theorem r_neI {i j : Int} (h : Q (.bl (!decide (i = j))) S) : eqF true (.int i) (.int j) S Q := by show Q _ S; rw [Bool.xor_true]; exact h
theorem r_eqS {i j : Str} (h : Q (.bl (decide (i = j))) S) : eqF false (.str i) (.str j) S Q := by show Q _ S; rw [Bool.xor_false]; exact h
theorem r_neS {i j : Str} (h : Q (.bl (!decide (i = j))) S) : eqF true (.str i) (.str j) S Q := by show Q _ S; rw [Bool.xor_true]; exact h
theorem r_eqB {i j : Bool} (h : Q (.bl (decide (i = j))) S) : eqF false (.bl i) (.bl j) S Q := by show Q _ S; rw [Bool.xor_false]; exact h
theorem r_neDN {n : Nat} {kvs : List (D × D)} (e : S[n]? = some (.dct kvs)) (h : Q (.bl true) S) : eqF true (.ref n) .non S Q := ⟨rfl, ⟨kvs, e⟩, h⟩
theorem r_neDD {n k : Nat} {ks ls : List (D × D)} (e : S[n]? = some (.dct ks)) (e2 : S[k]? = some (.dct ls)) (hh : homD (ks ++ ls)) (h : Q (.bl (!sameD ks ls)) S) : eqF true (.ref n) (.ref k) S Q := .inl ⟨ks, ls, e, e2, hh, by rw [Bool.xor_true]; exact h⟩
theorem r_eqT {xs ys : List D} (a : plainD (.tup xs) = true) (b : plainD (.tup ys) = true) (h : Q (.bl (decide (D.tup xs = D.tup ys))) S) : eqF false (.tup xs) (.tup ys) S Q := ⟨a, b, by rw [Bool.xor_false]; exact h⟩
theorem r_neT {xs ys : List D} (a : plainD (.tup xs) = true) (b : plainD (.tup ys) = true) (h : Q (.bl (!decide (D.tup xs = D.tup ys))) S) : eqF true (.tup xs) (.tup ys) S Q := ⟨a, b, by rw [Bool.xor_true]; exact h⟩
theorem r_neB {i j : Bool} (h : Q (.bl (!decide (i = j))) S) : eqF true (.bl i) (.bl j) S Q := by show Q _ S; rw [Bool.xor_true]; exact h
theorem r_inT {x : D} {xs : List D} (a : flatD x = true) (b : xs.all flatD = true) (h : Q (.bl (decide (x ∈ xs))) S) : inF false x (.tup xs) S Q := ⟨a, b, by rw [Bool.xor_false]; exact h⟩
theorem r_ninT {x : D} {xs : List D} (a : flatD x = true) (b : xs.all flatD = true) (h : Q (.bl (!decide (x ∈ xs))) S) : inF true x (.tup xs) S Q := ⟨a, b, by rw [Bool.xor_true]; exact h⟩
theorem r_inD {neg : Bool} {n : Nat} {kvs : List (D × D)} {i : D} {k : Key} (a : dictD S (.ref n) = some kvs) (e : toKey i = some k) (h : Q (.bl ((valD kvs i).isSome ^^ neg)) S) : inF neg i (.ref n) S Q := by
  dsimp only [inF]
  rcases dicC_or a with a | a <;> rw [a] <;> exact ⟨k, e, h⟩
theorem r_len {d : D} {ys : List D} (e : seqD S d = some ys) (h : Q (.int (ys.length : Nat)) S) : lenF [d] S Q := ⟨ys.length, .inl ⟨ys, e, rfl⟩, h⟩
theorem r_lenD {d : D} {ys : List (D × D)} (e : dictD S d = some ys) (h : Q (.int (ys.length : Nat)) S) : lenF [d] S Q := ⟨ys.length, .inr (.inl ⟨ys, e, rfl⟩), h⟩
theorem r_list {d : D} {ys : List D} (e : seqD S d = some ys) (h : Q (.ref S.length) (S ++ [.lst ys])) : listF [d] S Q := .inl ⟨ys, e, h⟩
theorem r_listD {n : Nat} {kvs : List (D × D)} (e : S[n]? = some (.dct kvs)) (h : Q (.ref S.length) (S ++ [.lst (kvs.map (·.1))])) : listF [.ref n] S Q := .inr ⟨n, kvs, rfl, e, h⟩
theorem r_tuple {d : D} {ys : List D} (e : seqD S d = some ys) (h : Q (.tup ys) S) : tupleF [d] S Q := ⟨ys, e, h⟩
theorem r_int {i : Int} (h : Q (.int i) S) : intF1 [.int i] S Q := h
theorem r_sub {fo fi : FE} {d : D} (h : fo σ S fun o S1 => fi σ S1 fun i S2 => setF o i d S2 fun S3 => QG σ S3) : gSubD fo fi d σ S QG := h
theorem r_setL {n : Nat} {xs : List D} {k : Int} {j : Nat} {v : D} {R : Store → Prop} (a : S[n]? = some (.lst xs)) (e : ixN xs.length k = some j) (h : R (S.set n (.lst (xs.set j v)))) : setF (.ref n) (.int k) v S R := by
  dsimp only [setF]; rw [a]; exact ⟨k, j, rfl, e, h⟩
theorem r_setD {n : Nat} {kvs : List (D × D)} {i v : D} {R : Store → Prop} (a : S[n]? = some (.dct kvs)) (e : (toKey i).isSome = true) (l : kvs.length < sizeLine) (h : R (S.set n (.dct (putD kvs i v)))) : setF (.ref n) i v S R := by
  dsimp only [setF]; rw [a]; exact ⟨e, l, h⟩
/-- only the cell n has changed -/
structure Off (n : Nat) (S S' : Store) : Prop where
  len : S'.length = S.length
  off : ∀ i, i ≠ n → S'[i]? = S[i]?
theorem Off.set (n : Nat) (S : Store) (c : Cell) : Off n S (S.set n c) := ⟨List.length_set, fun i hi => set_off (Ne.symm hi)⟩
theorem Off.trans {n : Nat} {S S1 S2 : Store} (a : Off n S S1) (b : Off n S1 S2) : Off n S S2 := ⟨b.len.trans a.len, fun i hi => (b.off i hi).trans (a.off i hi)⟩
theorem Off.ne {n k : Nat} {S S' : Store} (o : Off n S S') (h : k ≠ n) {c : Cell} (e : S[k]? = some c) : S'[k]? = some c := (o.off k h).trans e
theorem Off.b {n : Nat} {S S' : Store} (a : Off n S S') {l : List Nat} (h : n ∈ l) : ExtB l S S' := ⟨Nat.le_of_eq a.len.symm, fun i hi c e => (a.off i fun z => hi (z ▸ h)).trans e⟩
theorem r_setL1 {n : Nat} {xs : List D} {k : Int} {j : Nat} {v : D} {R : Store → Prop} (a : S[n]? = some (.lst xs)) (e : ixN xs.length k = some j) (h : ∀ S', S'[n]? = some (.lst (xs.set j v)) → Off n S S' → R S') : setF (.ref n) (.int k) v S R :=
  r_setL a e (h _ (set_at a) (Off.set _ _ _))
theorem r_setD1 {n : Nat} {kvs : List (D × D)} {i v : D} {R : Store → Prop} (a : S[n]? = some (.dct kvs)) (e : (toKey i).isSome = true) (l : kvs.length < sizeLine) (h : ∀ S', S'[n]? = some (.dct (putD kvs i v)) → Off n S S' → R S') : setF (.ref n) i v S R :=
  r_setD a e l (h _ (set_at a) (Off.set _ _ _))
theorem r_app {n : Nat} {ys : List D} {y : D} (e : S[n]? = some (.lst ys)) (l : ys.length < sizeLine) (h : ∀ S', S'[n]? = some (.lst (ys ++ [y])) → Off n S S' → Q .non S') : appF (.ref n) [y] S Q :=
  ⟨n, ys, y, rfl, rfl, e, l, h _ (set_at e) (Off.set _ _ _)⟩
theorem r_iTup {f : FE} (h : f σ S fun d S1 => ∃ xs, d = .tup xs ∧ QI Always xs S1) : iSeqD f σ S QI := .inl h
theorem r_iLst {f : FE} (h : f σ S fun d S1 => (∃ xs, d = .frz xs ∧ QI Always xs S1) ∨ ∃ n xs, d = .ref n ∧ S1[n]? = some (.lst xs) ∧ QI (fun S => S[n]? = some (.lst xs)) xs S1) : iSeqD f σ S QI := .inr h
theorem r_iRg1 {f : FA} (h : f σ S fun ds S1 => ∃ j : Int, ds = [.int j] ∧ -1000 ≤ j ∧ j ≤ 16777216 ∧ QI Always (rngD 0 j.toNat) S1) : iRg1 f σ S QI := h
theorem r_rg {j : Int} {P : Int → Prop} (a : -1000 ≤ j) (b : j ≤ 16777216) (h : P j) : ∃ i : Int, [D.int j] = [.int i] ∧ -1000 ≤ i ∧ i ≤ 16777216 ∧ P i := ⟨j, rfl, a, b, h⟩
theorem r_xs {xs : List D} {P : List D → Prop} (h : P xs) : ∃ ys, D.tup xs = .tup ys ∧ P ys := ⟨xs, rfl, h⟩
theorem r_for {f : FI} {g : FG} {b : FS} (h : f σ S fun ok xs S1 => forD ok g b E xs σ S1) : sFor f g b E σ S := h
theorem r_lc {f : FI} {g : FG} {t : FT} {e : FE} {vs : List Nat} (h : f σ S fun ok xs S1 => xs.length ≤ sizeLine → lcD ok g t e S1.length (fun S' => Q (.ref S1.length) S') (wipeD σ vs) xs (S1 ++ [.lst []])) : eLc f g t e vs σ S Q := h
theorem r_dc {f : FI} {g : FG} {t : FT} {fk fv : FE} {vs : List Nat} (h : f σ S fun ok xs S1 => xs.length ≤ sizeLine → dcD ok g t fk fv S1.length (fun S' => Q (.ref S1.length) S') (wipeD σ vs) xs (S1 ++ [.dct []])) : eDc f g t fk fv vs σ S Q := h
theorem r_fn {n l : Nat} {b : FS} {ds : List D} (e : ds.length = n) (h : b { nx := fun _ S' => Q .non S', rt := Q } (ds.map some ++ List.replicate (l - n) none) S) : fnD n l b ds S Q := ⟨e, h⟩
theorem r_gTp {n : Nat} {g : FGs} {xs : List D} (e : xs.length = n) (h : g xs σ S QG) : gTp n g (.tup xs) σ S QG := ⟨xs, rfl, e, h⟩
theorem r_gsCons {g : FG} {k : FGs} {d : D} {r : List D} (h : g d σ S fun σ1 S1 => k r σ1 S1 QG) : gsCons g k (d :: r) σ S QG := ⟨d, r, rfl, h⟩
theorem r_gsNil (h : QG σ S) : gsNil [] σ S QG := ⟨rfl, h⟩
theorem mem_rng {n : Nat} {x : D} (h : x ∈ rngD 0 n) : ∃ i, i < n ∧ x = .int (i : Nat) := by
  unfold rngD at h
  obtain ⟨i, h1, rfl⟩ := List.mem_map.mp h
  exact ⟨i, List.mem_range.mp h1, by show D.int (0 + (i : Int)) = _; rw [Int.zero_add]⟩
theorem rng_at {n i : Nat} {x : D} (h : (rngD 0 n)[i]? = some x) : i < n ∧ x = .int (i : Nat) := by
  unfold rngD at h
  rw [List.getElem?_map] at h
  by_cases hi : i < n
  · rw [List.getElem?_range hi] at h
    cases h
    exact ⟨hi, by show D.int (0 + (i : Int)) = _; rw [Int.zero_add]⟩
  · rw [List.getElem?_eq_none (by simp; omega)] at h
    cases h
theorem rng_map (n : Nat) : rngD 0 n = (List.range n).map fun i : Nat => D.int (i : Nat) := by
  unfold rngD
  exact List.map_congr_left fun i _ => by show D.int (0 + (i : Int)) = _; rw [Int.zero_add]
theorem rng_len (n : Nat) : (rngD 0 n).length = n := by unfold rngD; simp
theorem putD_keys {kvs : List (D × D)} {k v : D} (h : kvs.any (fun p => decide (p.1 = k)) = true) : (putD kvs k v).map (·.1) = kvs.map (·.1) := by
  unfold putD
  rw [if_pos h, List.map_map]
  refine List.map_congr_left fun p _ => ?_
  simp only [Function.comp]
  split <;> rfl
theorem valD_any {kvs : List (D × D)} {k : D} : (valD kvs k).isSome = kvs.any fun p => decide (p.1 = k) := by
  unfold valD
  rw [Option.isSome_map, Bool.eq_iff_iff, List.find?_isSome, List.any_eq_true]
theorem putD_ne (kvs : List (D × D)) {k j : D} (v : D) (h : j ≠ k) : valD (putD kvs k v) j = valD kvs j := by
  unfold putD
  split
  · unfold valD
    induction kvs with
    | nil => rfl
    | cons p kvs ih =>
      rw [List.map_cons]
      by_cases hp : p.1 = k
      · rw [if_pos hp]
        rw [List.find?_cons_of_neg (by simp [hp, Ne.symm h]), List.find?_cons_of_neg (by simp [hp, Ne.symm h])]
        by_cases hk : kvs.any (fun p => decide (p.1 = k)) = true
        · exact ih hk
        · have : (kvs.map fun p => if p.1 = k then (p.1, v) else p) = kvs := by
            conv => rhs; rw [← List.map_id kvs]
            refine List.map_congr_left fun q hq => ?_
            rw [if_neg fun e => hk (List.any_eq_true.mpr ⟨q, hq, by simpa using e⟩)]; rfl
          rw [this]
      · rw [if_neg hp]
        by_cases hj : p.1 = j
        · rw [List.find?_cons_of_pos (by simpa using hj), List.find?_cons_of_pos (by simpa using hj)]
        · rw [List.find?_cons_of_neg (by simpa using hj), List.find?_cons_of_neg (by simpa using hj)]
          refine ih ?_
          rename_i hk
          simpa [hp] using hk
  · unfold valD
    rw [List.find?_append]
    cases hf : kvs.find? (fun p => decide (p.1 = j)) with
    | some q => rfl
    | none =>
      rw [Option.none_or, List.find?_cons_of_neg (by simpa using Ne.symm h)]; rfl
theorem putD_self (kvs : List (D × D)) (k v : D) : valD (putD kvs k v) k = some v := by
  unfold putD
  split
  · rename_i hk
    unfold valD
    induction kvs with
    | nil => simp at hk
    | cons p kvs ih =>
      rw [List.map_cons]
      by_cases hp : p.1 = k
      · rw [if_pos hp, List.find?_cons_of_pos (by simpa using hp)]; rfl
      · rw [if_neg hp, List.find?_cons_of_neg (by simpa using hp)]
        exact ih (by simpa [hp] using hk)
  · rename_i hk
    unfold valD
    rw [List.find?_append, List.find?_eq_none.mpr fun p hp e => hk (List.any_eq_true.mpr ⟨p, hp, by simpa using e⟩), Option.none_or, List.find?_cons_of_pos (by simp)]
    rfl
theorem putD_len_in {kvs : List (D × D)} {k v : D} (h : (valD kvs k).isSome = true) : (putD kvs k v).length = kvs.length := by
  rw [valD_any] at h
  have := congrArg List.length (putD_keys (v := v) h)
  simpa using this
/-- {x: True for x in xs if p x} -/
theorem dc_set {ok : Store → Prop} {t : FT} {i : Nat} {R : Store → Prop} (xs : List Nat) (p : Nat → Bool) (few : xs.length < sizeLine) (hi : ∀ d : D, (σ.set i (some d))[i]? = some (some d)) (hok : ∀ S1, Ext S S1 → ok S1)
    (ht : ∀ x ∈ xs, ∀ S1 (P : Bool → Store → Prop), Ext S S1 → (∀ S2, Ext S1 S2 → P (p x) S2) → t (σ.set i (some (.int (x : Nat)))) S1 P)
    (hQ : ∀ S1 ks, Ext S S1 → S1[S.length]? = some (.dct (setD ks)) → ks.Nodup → (∀ j, j ∈ ks ↔ j ∈ xs ∧ p j = true) → R S1) : dcD ok (gNm i) t (eVar i) (eC (.bl true)) S.length R σ (xs.map fun k : Nat => .int (k : Nat)) (S ++ [.dct []]) := by
  refine dc_inv (fun k acc S1 => Ext S S1 ∧ ∃ ks : List Nat, acc = setD ks ∧ ks.Nodup ∧ ∀ j, j ∈ ks ↔ j ∈ xs.take k ∧ p j = true) (by simp; omega) (new_at S _) ⟨Ext.app S _, [], rfl, .nil, by simp⟩ ?_ ?_
  · rintro k x acc S1 R1 hx h1 hl ⟨e1, ks, rfl, h2, h3⟩ hR
    rw [List.getElem?_map] at hx
    cases hxx : xs[k]? with
    | none => rw [hxx] at hx; cases hx
    | some x' =>
      rw [hxx] at hx
      cases hx
      have hkl : k < xs.length := (List.getElem?_eq_some_iff.mp hxx).1
      have tk : xs.take (k + 1) = xs.take k ++ [x'] := by rw [List.take_add_one, hxx]; rfl
      refine ⟨hok S1 e1, ht x' (List.mem_of_getElem? hxx) S1 _ e1 fun S2 e2 => ?_⟩
      have h1' := e2 _ _ h1
      cases hp : p x' with
      | false =>
        rw [if_neg (by decide)]
        refine hR _ S2 h1' (by omega) ⟨e1.trans e2, ks, rfl, h2, fun j => ?_⟩
        rw [h3, tk, List.mem_append, List.mem_singleton]
        constructor
        · exact fun ⟨a, b⟩ => ⟨.inl a, b⟩
        · rintro ⟨a | rfl, b⟩
          · exact ⟨a, b⟩
          · rw [hp] at b; cases b
      | true =>
        rw [if_pos rfl]
        refine ⟨_, hi _, ?_⟩
        refine ⟨setD ks, rfl, h1', by omega, ?_⟩
        refine hR _ _ (set_at h1') (Nat.le_trans (length_putD _ _ _) (by omega)) ⟨(e1.trans e2).put (Nat.le_refl _), insK ks x', setD_put ks x', nodup_insK h2, fun j => ?_⟩
        rw [mem_insK, h3, tk, List.mem_append, List.mem_singleton]
        constructor
        · rintro (⟨a, b⟩ | rfl)
          · exact ⟨.inl a, b⟩
          · exact ⟨.inr rfl, hp⟩
        · rintro ⟨a | rfl, b⟩
          · exact .inl ⟨a, b⟩
          · exact .inr rfl
  · rintro acc S1 h1 hl ⟨e1, ks, rfl, h2, h3⟩
    refine ⟨hok S1 e1, hQ S1 ks e1 h1 h2 fun j => ?_⟩
    rw [h3, List.length_map, List.take_length]
theorem rng_map' (n : Nat) : rngD 0 (n : Int).toNat = (List.range n).map fun i : Nat => D.int (i : Nat) := by rw [Int.toNat_natCast, rng_map]
/-- sorted of a list of numbers, each once -/
theorem r_sorted {n : Nat} {ks : List Nat} (e : seqD S (.ref n) = some (ks.map fun k : Nat => .int (k : Nat))) (nd : ks.Nodup) (h : ∀ ls : List Nat, ls.Pairwise (· < ·) → (∀ j, j ∈ ls ↔ j ∈ ks) → Q (.ref S.length) (S ++ [.lst (ls.map fun k : Nat => .int (k : Nat))])) : sortedF [.ref n] S Q := by
  refine ⟨ks.map fun k : Nat => (k : Int), by rw [e, List.map_map]; rfl, ⟨n, rfl⟩, fun ns hp hs => ?_⟩
  have hn : ∀ z ∈ ns, ∃ k : Nat, z = (k : Int) := fun z hz => by
    obtain ⟨k, _, rfl⟩ := List.mem_map.mp (hp.mem_iff.mp hz)
    exact ⟨k, rfl⟩
  have em : ns = (ns.map Int.toNat).map fun k : Nat => (k : Int) := by
    rw [List.map_map]
    conv => lhs; rw [← List.map_id ns]
    refine List.map_congr_left fun z hz => ?_
    obtain ⟨k, rfl⟩ := hn z hz
    rfl
  have nd' : ns.Nodup := hp.nodup_iff.mpr (by
    rw [List.nodup_iff_pairwise_ne, List.pairwise_map]
    exact nd.imp fun a b => a (by omega))
  have := h (ns.map Int.toNat) ?_ ?_
  · rw [List.map_map] at this
    have e2 : (ns.map D.int) = ns.map ((fun k : Nat => D.int (k : Nat)) ∘ Int.toNat) := by
      refine List.map_congr_left fun z hz => ?_
      obtain ⟨k, rfl⟩ := hn z hz
      rfl
    rw [e2]
    exact this
  · rw [List.pairwise_map]
    refine (hs.and (List.nodup_iff_pairwise_ne.mp nd')).imp_of_mem fun {a b} ha hb hab => ?_
    obtain ⟨k, rfl⟩ := hn a ha
    obtain ⟨l, rfl⟩ := hn b hb
    have := hab.1
    have := hab.2
    simp only [Int.toNat_natCast]
    have : k ≠ l := fun e => hab.2 (by rw [e])
    omega
  · intro j
    rw [List.mem_map]
    constructor
    · rintro ⟨z, hz, rfl⟩
      obtain ⟨k, rfl⟩ := hn z hz
      obtain ⟨k', hk', e⟩ := List.mem_map.mp (hp.mem_iff.mp hz)
      have : k' = k := Int.ofNat.inj e
      rw [← this]; simpa using hk'
    · intro hj
      exact ⟨(j : Int), hp.mem_iff.mpr (List.mem_map.mpr ⟨j, hj, rfl⟩), by simp⟩
theorem r_sortSet {d : D} {ks : List Nat} (e : seqD S d = some (ks.map fun k : Nat => .int (k : Nat))) (l : ks.length < 64) (h : ∀ ls : List Nat, ls.Pairwise (· < ·) → (∀ j, j ∈ ls ↔ j ∈ ks) → Q (.ref S.length) (S ++ [.lst (ls.map fun k : Nat => .int (k : Nat))])) :
    ssD Q d S := by
  refine ⟨ks.map fun k : Nat => (k : Int), by rw [e, List.map_map]; rfl, by simpa using l, fun ns hs hp _ => ?_⟩
  have hn : ∀ z ∈ ns, ∃ k : Nat, z = (k : Int) := fun z hz => by
    obtain ⟨k, _, rfl⟩ := List.mem_map.mp ((hp z).mp hz)
    exact ⟨k, rfl⟩
  have := h (ns.map Int.toNat) ?_ ?_
  · rw [List.map_map] at this
    have e2 : (ns.map D.int) = ns.map ((fun k : Nat => D.int (k : Nat)) ∘ Int.toNat) := by
      refine List.map_congr_left fun z hz => ?_
      obtain ⟨k, rfl⟩ := hn z hz
      rfl
    rw [e2]
    exact this
  · rw [List.pairwise_map]
    refine hs.imp_of_mem fun {a b} ha hb hab => ?_
    obtain ⟨k, rfl⟩ := hn a ha
    obtain ⟨l, rfl⟩ := hn b hb
    simp only [Int.toNat_natCast]
    omega
  · intro j
    rw [List.mem_map]
    constructor
    · rintro ⟨z, hz, rfl⟩
      obtain ⟨k, rfl⟩ := hn z hz
      obtain ⟨k', hk', e⟩ := List.mem_map.mp ((hp _).mp hz)
      have : k' = k := Int.ofNat.inj e
      rw [← this]; simpa using hk'
    · intro hj
      exact ⟨(j : Int), (hp _).mpr (List.mem_map.mpr ⟨j, hj, rfl⟩), by simp⟩
/-- a for by an invariant -/
theorem for_inv {ok : Store → Prop} {g : FG} {b : FS} {xs : List D} (I : Nat → Slots → Store → Prop) (h0 : I 0 σ S)
    (step : ∀ i x σ S (R : Slots → Store → Prop), xs[i]? = some x → I i σ S → (∀ σ' S', I (i + 1) σ' S' → R σ' S') → ok S ∧ g x σ S fun σ1 S1 => b { E with nx := R, ct := R, bk := E.nx } σ1 S1)
    (done : ∀ σ S, I xs.length σ S → ok S ∧ E.nx σ S) : forD ok g b E xs σ S := by
  have go : ∀ (ys : List D) (i : Nat) (σ : Slots) (S : Store), xs.drop i = ys → i ≤ xs.length → I i σ S → forD ok g b E ys σ S := by
    intro ys
    induction ys with
    | nil =>
      intro i σ S hd hi h
      have : i = xs.length := by
        have := congrArg List.length hd
        simp at this
        omega
      subst this
      exact done σ S h
    | cons y ys ih =>
      intro i σ S hd hi h
      have hlt : i < xs.length := by
        have := congrArg List.length hd
        simp at this
        omega
      have hx : xs[i]? = some y := by rw [← List.head?_drop, hd]; rfl
      have hd' : xs.drop (i + 1) = ys := by rw [← List.tail_drop, hd]; rfl
      exact step i y σ S _ hx h fun σ' S' h' => ih (i + 1) σ' S' hd' hlt h'
  exact go xs 0 σ S rfl (Nat.zero_le _) h0
/-- a while by an invariant that counts down -/
theorem while_inv {c : FT} {b : FS} (I : Nat → Slots → Store → Prop) (k0 : Nat) (h0 : I k0 σ S)
    (step : ∀ k σ S (R : Slots → Store → Prop), I k σ S → (∀ k' σ' S', k' < k → I k' σ' S' → R σ' S') → c σ S fun t S1 => if t = true then b { E with nx := R, ct := R, bk := E.nx } σ S1 else E.nx σ S1) : sWhile c b E σ S := by
  have up : ∀ (n : Nat) (k : Nat) (σ : Slots) (S : Store), k < n → I k σ S → whileD c b E n σ S := by
    intro n
    induction n with
    | zero => intro k σ S h; omega
    | succ n ih =>
      intro k σ S hk h
      exact step k σ S _ h fun k' σ' S' hk' h' => ih k' σ' S' (by omega) h'
  exact ⟨k0 + 1, up (k0 + 1) k0 σ S (Nat.lt_succ_self _) h0⟩
end
end SD
local macro_rules | `(tactic| walk_at "s") => `(tactic| (repeat with_reducible first | refine SD.r_seq ?_ | refine SD.r_asg ?_ | refine SD.r_nm ?_ | refine SD.r_var (by with_unfolding_all rfl) ?_ | refine SD.r_c ?_ | refine SD.r_aCons ?_ | refine SD.r_aNil ?_ | refine SD.r_op ?_ | refine SD.r_call ?_ | refine SD.r_val ?_ | refine SD.r_bl ?_ | refine SD.r_if ?_ | refine SD.r_ret ?_ | refine SD.r_next ?_ | refine SD.r_ifT (by first | decide | (with_unfolding_all rfl)) ?_ | refine SD.r_ifF (by first | decide | (with_unfolding_all rfl)) ?_ | refine SD.r_tup ?_ | refine SD.r_lst ?_ | refine SD.r_le (Nat.le_of_ble_eq_true (by with_unfolding_all rfl)) ?_ | refine SD.r_cb ?_ | refine SD.r_and ?_ | refine SD.r_or ?_ | refine SD.r_not ?_ | refine SD.r_eIf ?_ | refine SD.r_eAnd ?_ | refine SD.r_eOr ?_ | refine SD.r_eNot ?_ | refine SD.r_isN ?_ | refine SD.r_mt ?_ | refine SD.r_tr ?_ | refine SD.r_ss ?_ | refine SD.r_dict0 ?_ | refine SD.r_yes ?_ | refine SD.r_isi ?_ | refine SD.r_ty (by with_unfolding_all rfl) ?_ | refine SD.r_ixT (by with_unfolding_all rfl) ?_ | refine SD.r_ixE (by with_unfolding_all rfl) (by with_unfolding_all rfl) ?_ | refine SD.r_ixL (by assumption) (by with_unfolding_all rfl) ?_ | refine SD.r_addI ?_ | refine SD.r_intF ?_ | refine SD.r_intCF (by first | decide | exact SD.cmul_r (by decide) | exact SD.cmul_l (by decide)) ?_ | refine SD.r_eqI ?_ | refine SD.r_neI ?_ | refine SD.r_eqS ?_ | refine SD.r_neS ?_ | refine SD.r_eqB ?_ | refine SD.r_neB ?_ | refine SD.r_int ?_ | refine SD.r_drop ?_ | refine SD.r_sub ?_ | refine SD.r_gTp (by with_unfolding_all rfl) ?_ | refine SD.r_gsCons ?_ | refine SD.r_gsNil ?_ | refine SD.r_for ?_ | refine SD.r_lc ?_ | refine SD.r_dc ?_ | refine SD.r_iRg1 ?_ | refine SD.r_inT (by with_unfolding_all rfl) (by with_unfolding_all rfl) ?_))
local macro_rules | `(tactic| walk_at "n") => `(tactic| (repeat with_reducible first | refine SD.r_asg ?_ | refine SD.r_nm ?_ | refine SD.r_var (by with_unfolding_all rfl) ?_ | refine SD.r_c ?_ | refine SD.r_aCons ?_ | refine SD.r_aNil ?_ | refine SD.r_op ?_ | refine SD.r_call ?_ | refine SD.r_val ?_ | refine SD.r_bl ?_ | refine SD.r_if ?_ | refine SD.r_ret ?_ | refine SD.r_next ?_ | refine SD.r_ifT (by first | decide | (with_unfolding_all rfl)) ?_ | refine SD.r_ifF (by first | decide | (with_unfolding_all rfl)) ?_ | refine SD.r_tup ?_ | refine SD.r_lst ?_ | refine SD.r_le (Nat.le_of_ble_eq_true (by with_unfolding_all rfl)) ?_ | refine SD.r_cb ?_ | refine SD.r_and ?_ | refine SD.r_or ?_ | refine SD.r_not ?_ | refine SD.r_eIf ?_ | refine SD.r_eAnd ?_ | refine SD.r_eOr ?_ | refine SD.r_eNot ?_ | refine SD.r_isN ?_ | refine SD.r_mt ?_ | refine SD.r_tr ?_ | refine SD.r_ss ?_ | refine SD.r_dict0 ?_ | refine SD.r_yes ?_ | refine SD.r_isi ?_ | refine SD.r_ty (by with_unfolding_all rfl) ?_ | refine SD.r_ixT (by with_unfolding_all rfl) ?_ | refine SD.r_ixE (by with_unfolding_all rfl) (by with_unfolding_all rfl) ?_ | refine SD.r_ixL (by assumption) (by with_unfolding_all rfl) ?_ | refine SD.r_addI ?_ | refine SD.r_intF ?_ | refine SD.r_intCF (by first | decide | exact SD.cmul_r (by decide) | exact SD.cmul_l (by decide)) ?_ | refine SD.r_eqI ?_ | refine SD.r_neI ?_ | refine SD.r_eqS ?_ | refine SD.r_neS ?_ | refine SD.r_eqB ?_ | refine SD.r_neB ?_ | refine SD.r_int ?_ | refine SD.r_drop ?_ | refine SD.r_sub ?_ | refine SD.r_gTp (by with_unfolding_all rfl) ?_ | refine SD.r_gsCons ?_ | refine SD.r_gsNil ?_ | refine SD.r_for ?_ | refine SD.r_lc ?_ | refine SD.r_dc ?_ | refine SD.r_iRg1 ?_ | refine SD.r_inT (by with_unfolding_all rfl) (by with_unfolding_all rfl) ?_))
/-! PG1: the defs' meanings over D (printed by gen.py). -/
namespace PG
open PySem L2 SD
/-! ### leads -/
def b_leads  : FS :=
  (sSeq (sIf (tVal (eVar 2)) (sRet (eCB (boolsF fun bs => bs.any id) (aCons (eLc (iSeqD (eVar 0)) (gNm 3) tYesD (eOp (inF false) (eVar 3) (eVar 1)) [3]) aNil))) sNext)
  (sRet (eCB (boolsF fun bs => bs.all id) (aCons (eLc (iSeqD (eVar 0)) (gNm 3) tYesD (eOp (inF false) (eVar 3) (eVar 1)) [3]) aNil))))
def F_leads : FnD := fnD 3 4 (b_leads )
/-! ### found_places -/
def b_found_places (G_found_places : FnD) (G_leads : FnD) : FS :=
  (sSeq (sAsg (eOp ixF (eVar 1) (eC (.int 0))) (gNm 3))
  (sSeq (sIf (tVal (eOp (inF false) (eVar 3) (eTup (aCons (eC (.str "yes")) (aCons (eC (.str "no")) aNil))))) (sRet (eDc (iRg1 (aCons (eOp ixF (eVar 0) (eC (.int 0))) aNil)) (gNm 10) (tVal (eOp (eqF false) (eVar 3) (eC (.str "yes")))) (eVar 10) (eC (.bl true)) [10])) sNext)
  (sSeq (sIf (tVal (eOp (inF false) (eVar 3) (eTup (aCons (eC (.str "is")) (aCons (eC (.str "isnt")) aNil))))) (sRet (eDc (iRg1 (aCons (eOp ixF (eVar 0) (eC (.int 0))) aNil)) (gNm 10) (tVal (eOp (eqF false) (eOp (inF false) (eVar 10) (eOp ixF (eOp ixF (eVar 0) (eC (.int 1))) (eOp ixF (eVar 1) (eC (.int 1))))) (eOp (eqF false) (eVar 3) (eC (.str "is"))))) (eVar 10) (eC (.bl true)) [10])) sNext)
  (sSeq (sIf (tVal (eOp (eqF false) (eVar 3) (eC (.str "name")))) (sRet (eDc (iSeqD (eOp ixF (eVar 2) (eOp ixF (eVar 1) (eC (.int 1))))) (gNm 10) tYesD (eVar 10) (eC (.bl true)) [10])) sNext)
  (sSeq (sIf (tVal (eOp (inF false) (eVar 3) (eTup (aCons (eC (.str "both")) (aCons (eC (.str "either")) aNil))))) (sSeq (sAsg (eTup (aCons (eCall G_found_places (aCons (eVar 0) (aCons (eOp ixF (eVar 1) (eC (.int 1))) (aCons (eVar 2) aNil)))) (aCons (eCall G_found_places (aCons (eVar 0) (aCons (eOp ixF (eVar 1) (eC (.int 2))) (aCons (eVar 2) aNil)))) aNil))) (gTp 2 (gsCons (gNm 4) (gsCons (gNm 5) gsNil))))
  (sSeq (sIf (tVal (eOp (eqF false) (eVar 3) (eC (.str "both")))) (sRet (eLock 4 (eDc (iKeysD 4) (gNm 10) (tVal (eOp (inF false) (eVar 10) (eVar 5))) (eVar 10) (eC (.bl true)) [10]))) sNext)
  (sSeq (sDrop (eMt "dict" updF (eVar 5) (aCons (eVar 4) aNil)))
  (sRet (eVar 5))))) sNext)
  (sSeq (sIf (tVal (eOp (inF false) (eVar 3) (eTup (aCons (eC (.str "some")) (aCons (eC (.str "all")) aNil))))) (sSeq (sAsg (eCall G_found_places (aCons (eVar 0) (aCons (eOp ixF (eVar 1) (eC (.int 2))) (aCons (eVar 2) aNil)))) (gNm 6))
  (sRet (eDc (iRg1 (aCons (eOp ixF (eVar 0) (eC (.int 0))) aNil)) (gNm 10) (tVal (eCall G_leads (aCons (eOp ixF (eOp ixF (eOp ixF (eVar 0) (eC (.int 2))) (eOp ixF (eVar 1) (eC (.int 1)))) (eVar 10)) (aCons (eVar 6) (aCons (eOp (eqF false) (eVar 3) (eC (.str "some"))) aNil))))) (eVar 10) (eC (.bl true)) [10]))) sNext)
  (sSeq (sAsg (eCB dictF (aCons (eVar 2) aNil)) (gNm 7))
  (sSeq (sAsg (eIf (tVal (eOp (eqF false) (eVar 3) (eC (.str "least")))) eDict0 (eDc (iRg1 (aCons (eOp ixF (eVar 0) (eC (.int 0))) aNil)) (gNm 10) tYesD (eVar 10) (eC (.bl true)) [10])) (gNm 8))
  (sSeq (sAsg (eC .non) (gNm 9))
  (sSeq (sWhile (tVal (eOp (eqF true) (eVar 8) (eVar 9))) (sSeq (sAsg (eVar 8) (gNm 9))
  (sSeq (sAsg (eCB tupleF (aCons (eCB sortedF (aCons (eCB listF (aCons (eVar 8) aNil)) aNil)) aNil)) (gSubD (eVar 7) (eOp ixF (eVar 1) (eC (.int 1)))))
  (sAsg (eCall G_found_places (aCons (eVar 0) (aCons (eOp ixF (eVar 1) (eC (.int 2))) (aCons (eVar 7) aNil)))) (gNm 8)))))
  (sRet (eVar 8))))))))))))
def F_found_places : Nat → FnD
  | 0 => fun _ _ _ => False
  | k + 1 => fnD 3 11 (b_found_places (F_found_places k) F_leads)
/-! ### worth -/
def b_worth (G_found_places : FnD) : FS :=
  (sRet (eCB tupleF (aCons (eCB sortedF (aCons (eCB listF (aCons (eCall G_found_places (aCons (eVar 0) (aCons (eVar 1) (aCons (eVar 2) aNil)))) aNil)) aNil)) aNil)))
def F_worth : FnD := fnD 3 3 (b_worth (F_found_places 24))
/-! ### places_where -/
def b_places_where (G_worth : FnD) : FS :=
  (sRet (eCall G_worth (aCons (eVar 0) (aCons (eVar 1) (aCons eDict0 aNil)))))
def F_places_where : FnD := fnD 2 2 (b_places_where F_worth)
/-! ### round_places -/
def b_round_places (G_worth : FnD) : FS :=
  (sSeq (sAsg (eIf (tVal (eOp (eqF false) (eOp ixF (eVar 1) (eC (.int 0))) (eC (.str "least")))) (eTup aNil) (eTupRg1 (eOp ixF (eVar 0) (eC (.int 0))))) (gNm 3))
  (sSeq (sFor (iRg1 (aCons (eVar 2) aNil)) (gNm 4) (sAsg (eCall G_worth (aCons (eVar 0) (aCons (eOp ixF (eVar 1) (eC (.int 2))) (aCons (eDispD (((eOp ixF (eVar 1) (eC (.int 1))), (eVar 3)) :: [])) aNil)))) (gNm 3)))
  (sRet (eVar 3))))
def F_round_places : FnD := fnD 3 5 (b_round_places F_worth)
/-! ### _law_same -/
def b__law_same (G__law_same : FnD) : FS :=
  (sSeq (sIf (tOrD (tVal (eIsi "tuple" (eVar 1))) (tVal (eIsi "list" (eVar 1)))) (sSeq (sIf (tOrD (tVal (eOp (eqF true) (eIsi "tuple" (eVar 1)) (eIsi "tuple" (eVar 0)))) (tOrD (tVal (eOp (eqF true) (eIsi "list" (eVar 1)) (eIsi "list" (eVar 0)))) (tVal (eOp (eqF true) (eCB lenF (aCons (eVar 0) aNil)) (eCB lenF (aCons (eVar 1) aNil)))))) (sRet (eC (.bl false))) sNext)
  (sRet (eOp (eqF false) (eCB lenF (aCons (eLc (iRg1 (aCons (eCB lenF (aCons (eVar 1) aNil)) aNil)) (gNm 2) (tNotD (tVal (eCall G__law_same (aCons (eOp ixF (eVar 0) (eVar 2)) (aCons (eOp ixF (eVar 1) (eVar 2)) aNil))))) (eVar 2) [2]) aNil)) (eC (.int 0))))) sNext)
  (sSeq (sIf (tVal (eIsN (eVar 1))) (sRet (eIsN (eVar 0))) sNext)
  (sSeq (sIf (tOrD (tVal (eIsi "bool" (eVar 1))) (tVal (eIsi "bool" (eVar 0)))) (sRet (eAnd (eIsi "bool" (eVar 1)) (eAnd (eIsi "bool" (eVar 0)) (eOp (eqF false) (eVar 0) (eVar 1))))) sNext)
  (sSeq (sIf (tVal (eIsi "int" (eVar 1))) (sRet (eAnd (eIsi "int" (eVar 0)) (eOp (eqF false) (eVar 0) (eVar 1)))) sNext)
  (sRet (eAnd (eIsi "str" (eVar 0)) (eOp (eqF false) (eVar 0) (eVar 1))))))))
def F__law_same : Nat → FnD
  | 0 => fun _ _ _ => False
  | k + 1 => fnD 2 3 (b__law_same (F__law_same k))
/-! ### _law_pool -/
def b__law_pool  : FS :=
  (sSeq (sAsg (eC (.int 7)) (gNm 1))
  (sSeq (sFor (iSeqD (eSl (eVar 0) oNo (oSome (eC (.int 63))))) (gNm 2) (sAsg (eOp (intCF (fun _ j => 0 < j) fun i j => .int (i % j)) (eCB intF1 (aCons (eOp addF (eOp (intCF CMul fun i j => .int (i * j)) (eVar 1) (eC (.int 31))) (eVar 2)) aNil)) (eC (.int 1000003))) (gNm 1)))
  (sRet (eLst (aCons (eCB listF (aCons (eVar 0) aNil)) (aCons (eC (.int 0)) (aCons (eC (.int 0)) (aCons (eC (.int 0)) (aCons (eVar 1) aNil)))))))))
def F__law_pool : FnD := fnD 1 3 (b__law_pool )
/-! ### _law_spread -/
def b__law_spread  : FS :=
  (sSeq (sAsg (eOp (intCF (fun _ j => 0 < j) fun i j => .int (i % j)) (eCB intF1 (aCons (eVar 0) aNil)) (eC (.int 2147483647))) (gNm 1))
  (sSeq (sAsg (eC (.int 1)) (gNm 2))
  (sSeq (sFor (iRg1 (aCons (eC (.int 4)) aNil)) (gNm 3) (sSeq (sAsg (eOp (intCF (fun _ j => 0 < j) fun i j => .int (i % j)) (eCB intF1 (aCons (eOp addF (eOp addF (eOp (intCF CMul fun i j => .int (i * j)) (eVar 1) (eC (.int 48271))) (eC (.int 12345))) (eVar 3)) aNil)) (eC (.int 2147483647))) (gNm 1))
  (sAsg (eOp addF (eOp (intCF CMul fun i j => .int (i * j)) (eVar 2) (eC (.int 2147483647))) (eVar 1)) (gNm 2))))
  (sRet (eVar 2)))))
def F__law_spread : FnD := fnD 1 4 (b__law_spread )
/-! ### _law_draw -/
def b__law_draw (G__law_spread : FnD) : FS :=
  (sSeq (sIf (tAndD (tVal (eOp (intF fun i j => .bl (decide (i ≤ j))) (eOp ixF (eVar 0) (eC (.int 2))) (eC (.int 0)))) (tVal (eOp (intF fun i j => .bl (decide (i < j))) (eOp ixF (eVar 0) (eC (.int 1))) (eCB lenF (aCons (eOp ixF (eVar 0) (eC (.int 0))) aNil))))) (sSeq (sAsg (eOp ixF (eOp ixF (eVar 0) (eC (.int 0))) (eOp ixF (eVar 0) (eC (.int 1)))) (gNm 2))
  (sSeq (sAsg (eOp addF (eOp ixF (eVar 0) (eC (.int 1))) (eC (.int 1))) (gSubD (eVar 0) (eC (.int 1))))
  (sSeq (sAsg (eVar 2) (gSubD (eVar 0) (eC (.int 2))))
  (sIf (tVal (eOp (intF fun i j => .bl (decide (i < j))) (eVar 2) (eC (.int 1000000000000000000)))) (sAsg (eCall G__law_spread (aCons (eVar 2) aNil)) (gSubD (eVar 0) (eC (.int 2)))) sNext)))) sNext)
  (sSeq (sAsg (eOp addF (eOp ixF (eVar 0) (eC (.int 3))) (eC (.int 1))) (gSubD (eVar 0) (eC (.int 3))))
  (sSeq (sIf (tVal (eOp (intF fun i j => .bl (decide (i ≤ j))) (eOp ixF (eVar 0) (eC (.int 2))) (eC (.int 0)))) (sSeq (sAsg (eOp (intCF (fun _ j => 0 < j) fun i j => .int (i % j)) (eCB intF1 (aCons (eOp addF (eOp addF (eOp (intCF CMul fun i j => .int (i * j)) (eOp ixF (eVar 0) (eC (.int 4))) (eC (.int 48271))) (eOp (intCF CMul fun i j => .int (i * j)) (eOp ixF (eVar 0) (eC (.int 3))) (eC (.int 69621)))) (eC (.int 1))) aNil)) (eC (.int 2147483647))) (gNm 3))
  (sSeq (sAsg (eOp (intCF (fun _ j => 0 < j) fun i j => .int (i % j)) (eCB intF1 (aCons (eOp addF (eOp (intCF CMul fun i j => .int (i * j)) (eVar 3) (eC (.int 16807))) (eOp ixF (eVar 0) (eC (.int 3)))) aNil)) (eC (.int 2147483629))) (gNm 3))
  (sRet (eOp (intCF (fun _ j => 0 < j) fun i j => .int (i % j)) (eOp (intCF CDiv fun i j => .int (i / j)) (eVar 3) (eC (.int 5))) (eVar 1))))) sNext)
  (sSeq (sAsg (eOp (intCF (fun _ j => 0 < j) fun i j => .int (i % j)) (eCB intF1 (aCons (eOp ixF (eVar 0) (eC (.int 2))) aNil)) (eVar 1)) (gNm 4))
  (sSeq (sAsg (eOp (intCF CDiv fun i j => .int (i / j)) (eOp ixF (eVar 0) (eC (.int 2))) (eVar 1)) (gSubD (eVar 0) (eC (.int 2))))
  (sRet (eVar 4)))))))
def F__law_draw : FnD := fnD 2 5 (b__law_draw F__law_spread)
/-! ### _law_pick -/
def b__law_pick (G__law_draw : FnD) : FS :=
  (sRet (eOp ixF (eVar 1) (eCall G__law_draw (aCons (eVar 0) (aCons (eCB lenF (aCons (eVar 1) aNil)) aNil)))))
def F__law_pick : FnD := fnD 2 2 (b__law_pick F__law_draw)
/-! ### _law_land -/
def b__law_land (G__law_draw : FnD) : FS :=
  (sRet (eOp ixF (eTup (aCons (eTup (aCons (eC (.int 1)) (aCons (eC (.int 1)) aNil))) (aCons (eTup (aCons (eC (.int 2)) (aCons (eC (.int 1)) aNil))) (aCons (eTup (aCons (eC (.int 1)) (aCons (eC (.int 2)) aNil))) (aCons (eTup (aCons (eC (.int 3)) (aCons (eC (.int 1)) aNil))) (aCons (eTup (aCons (eC (.int 2)) (aCons (eC (.int 2)) aNil))) aNil)))))) (eCall G__law_draw (aCons (eVar 0) (aCons (eC (.int 5)) aNil)))))
def F__law_land : FnD := fnD 1 1 (b__law_land F__law_draw)
/-! ### _law_saying -/
def b__law_saying (G__law_saying : FnD) (G__law_draw : FnD) (G__law_pick : FnD) : FS :=
  (sSeq (sAsg (eIf (tVal (eOp (intF fun i j => .bl (decide (j < i))) (eVar 2) (eC (.int 0)))) (eCall G__law_draw (aCons (eVar 0) (aCons (eC (.int 13)) aNil))) (eCall G__law_draw (aCons (eVar 0) (aCons (eC (.int 5)) aNil)))) (gNm 6))
  (sSeq (sIf (tOrD (tVal (eOp (intF fun i j => .bl (decide (i < j))) (eVar 6) (eC (.int 2)))) (tAndD (tVal (eOp (eqF false) (eVar 6) (eC (.int 3)))) (tVal (eOp (eqF false) (eCB lenF (aCons (eVar 5) aNil)) (eC (.int 0)))))) (sRet (eTup (aCons (eOp ixF (eTup (aCons (eC (.str "is")) (aCons (eC (.str "isnt")) aNil))) (eIf (tVal (eOp (intF fun i j => .bl (decide (i < j))) (eVar 6) (eC (.int 2)))) (eOp (intCF (fun _ j => 0 < j) fun i j => .int (i % j)) (eVar 6) (eC (.int 2))) (eC (.int 0)))) (aCons (eCall G__law_draw (aCons (eVar 0) (aCons (eOp ixF (eVar 1) (eC (.int 0))) aNil))) aNil)))) sNext)
  (sSeq (sIf (tVal (eOp (eqF false) (eVar 6) (eC (.int 2)))) (sRet (eIf (tVal (eOp (eqF false) (eCall G__law_draw (aCons (eVar 0) (aCons (eC (.int 3)) aNil))) (eC (.int 0)))) (eOp ixF (eTup (aCons (eTup (aCons (eC (.str "yes")) aNil)) (aCons (eTup (aCons (eC (.str "no")) aNil)) aNil))) (eCall G__law_draw (aCons (eVar 0) (aCons (eC (.int 2)) aNil)))) (eTup (aCons (eC (.str "is")) (aCons (eCall G__law_draw (aCons (eVar 0) (aCons (eOp ixF (eVar 1) (eC (.int 0))) aNil))) aNil))))) sNext)
  (sSeq (sIf (tVal (eOp (intF fun i j => .bl (decide (i < j))) (eVar 6) (eC (.int 5)))) (sRet (eIf (tVal (eOp (intF fun i j => .bl (decide (j < i))) (eCB lenF (aCons (eVar 5) aNil)) (eC (.int 0)))) (eTup (aCons (eC (.str "name")) (aCons (eCall G__law_pick (aCons (eVar 0) (aCons (eCB listF (aCons (eVar 5) aNil)) aNil))) aNil))) (eTup (aCons (eC (.str "isnt")) (aCons (eCall G__law_draw (aCons (eVar 0) (aCons (eOp ixF (eVar 1) (eC (.int 0))) aNil))) aNil))))) sNext)
  (sSeq (sIf (tVal (eOp (intF fun i j => .bl (decide (i < j))) (eVar 6) (eC (.int 8)))) (sRet (eTup (aCons (eOp ixF (eTup (aCons (eC (.str "both")) (aCons (eC (.str "either")) aNil))) (eCall G__law_draw (aCons (eVar 0) (aCons (eC (.int 2)) aNil)))) (aCons (eCall G__law_saying (aCons (eVar 0) (aCons (eVar 1) (aCons (eOp (intF fun i j => .int (i - j)) (eVar 2) (eC (.int 1))) (aCons (eVar 3) (aCons (eVar 4) (aCons (eVar 5) aNil))))))) (aCons (eCall G__law_saying (aCons (eVar 0) (aCons (eVar 1) (aCons (eOp (intF fun i j => .int (i - j)) (eVar 2) (eC (.int 1))) (aCons (eVar 3) (aCons (eVar 4) (aCons (eVar 5) aNil))))))) aNil))))) sNext)
  (sSeq (sIf (tVal (eOp (intF fun i j => .bl (decide (i < j))) (eVar 6) (eC (.int 11)))) (sRet (eTup (aCons (eOp ixF (eTup (aCons (eC (.str "some")) (aCons (eC (.str "all")) aNil))) (eCall G__law_draw (aCons (eVar 0) (aCons (eC (.int 2)) aNil)))) (aCons (eCall G__law_draw (aCons (eVar 0) (aCons (eOp ixF (eVar 1) (eC (.int 1))) aNil))) (aCons (eCall G__law_saying (aCons (eVar 0) (aCons (eVar 1) (aCons (eOp (intF fun i j => .int (i - j)) (eVar 2) (eC (.int 1))) (aCons (eVar 3) (aCons (eVar 4) (aCons (eVar 4) aNil))))))) aNil))))) sNext)
  (sSeq (sAsg (eCB lenF (aCons (eVar 3) aNil)) (gNm 7))
  (sSeq (sIf (tVal (eOp (intF fun i j => .bl (decide (j < i))) (eVar 7) (eC (.int 4)))) (sRet (eTup (aCons (eC (.str "is")) (aCons (eC (.int 0)) aNil)))) sNext)
  (sSeq (sDrop (eMt "list" appF (eVar 3) (aCons (eVar 7) aNil)))
  (sRet (eTup (aCons (eOp ixF (eTup (aCons (eC (.str "least")) (aCons (eC (.str "greatest")) aNil))) (eCall G__law_draw (aCons (eVar 0) (aCons (eC (.int 2)) aNil)))) (aCons (eVar 7) (aCons (eCall G__law_saying (aCons (eVar 0) (aCons (eVar 1) (aCons (eOp (intF fun i j => .int (i - j)) (eVar 2) (eC (.int 1))) (aCons (eVar 3) (aCons (eOp addF (eVar 4) (eTup (aCons (eVar 7) aNil))) (aCons (eVar 5) aNil))))))) aNil))))))))))))))
def F__law_saying : Nat → FnD
  | 0 => fun _ _ _ => False
  | k + 1 => fnD 6 8 (b__law_saying (F__law_saying k) F__law_draw F__law_pick)
/-! ### _law_world -/
def b__law_world (G__law_draw : FnD) : FS :=
  (sSeq (sAsg (eOp addF (eC (.int 1)) (eCall G__law_draw (aCons (eVar 0) (aCons (eVar 2) aNil)))) (gNm 3))
  (sSeq (sAsg (eCB tupleF (aCons (eLc (iRg1 (aCons (eOp ixF (eVar 1) (eC (.int 0))) aNil)) (gNm 8) tYesD (eCB tupleF (aCons (eLc (iRg1 (aCons (eVar 3) aNil)) (gNm 9) (tVal (eOp (eqF false) (eCall G__law_draw (aCons (eVar 0) (aCons (eC (.int 2)) aNil))) (eC (.int 0)))) (eVar 9) [9]) aNil)) [8]) aNil)) (gNm 4))
  (sSeq (sAsg (eOp addF (eC (.int 2)) (eCall G__law_draw (aCons (eVar 0) (aCons (eC (.int 2)) aNil)))) (gNm 5))
  (sSeq (sAsg (eTup aNil) (gNm 6))
  (sSeq (sFor (iRg1 (aCons (eOp ixF (eVar 1) (eC (.int 1))) aNil)) (gNm 7) (sAsg (eOp addF (eVar 6) (eTup (aCons (eCB tupleF (aCons (eLc (iRg1 (aCons (eVar 3) aNil)) (gNm 10) tYesD (eCB tupleF (aCons (eLc (iRg1 (aCons (eVar 3) aNil)) (gNm 9) (tVal (eOp (eqF false) (eCall G__law_draw (aCons (eVar 0) (aCons (eVar 5) aNil))) (eC (.int 0)))) (eVar 9) [9]) aNil)) [10]) aNil)) aNil))) (gNm 6)))
  (sRet (eTup (aCons (eVar 3) (aCons (eVar 4) (aCons (eVar 6) aNil))))))))))
def F__law_world : FnD := fnD 3 11 (b__law_world F__law_draw)

end PG
/-! SP1: the drawing helpers. -/
namespace PG
open PySem L2 SD
theorem spread_spec {c : Int} {S : Store} {Q : PD} (h : ∀ z : Int, Q (.int z) S) : F__law_spread [.int c] S Q := by
  refine r_fn rfl ?_
  unfold b__law_spread
  walk_at "s"
  refine r_rg (by decide) (by decide) ?_
  refine for_inv (fun _ σ S' => S' = S ∧ ∃ a b c d : Int, σ = [some (.int a), some (.int b), some (.int c), some (.int d)] ∨ σ = [some (.int a), some (.int b), some (.int c), none]) ⟨rfl, _, _, _, 0, .inr rfl⟩ ?_ ?_
  · rintro i x σ S1 R hx ⟨rfl, a, b, c, d, hσ⟩ hR
    have : ∃ j : Int, x = .int j := by
      unfold rngD at hx
      rw [List.getElem?_map] at hx
      cases e : (List.range (Int.toNat 4))[i]? with
      | none => rw [e] at hx; cases hx
      | some j => rw [e] at hx; cases hx; exact ⟨_, rfl⟩
    obtain ⟨j, rfl⟩ := this
    refine ⟨trivial, ?_⟩
    rcases hσ with rfl | rfl
    · walk_at "s"
      exact hR _ _ ⟨rfl, _, _, _, _, .inl rfl⟩
    · walk_at "s"
      exact hR _ _ ⟨rfl, _, _, _, _, .inl rfl⟩
  · rintro σ S1 ⟨rfl, a, b, c, d, rfl | rfl⟩
    · refine ⟨trivial, ?_⟩
      walk_at "s"
      exact h _
    · refine ⟨trivial, ?_⟩
      walk_at "s"
      exact h _
/-- a pool -/
structure Pool (p : Nat) (S : Store) (q : Nat) (xs : List Int) (a : Nat) (b c d : Int) : Prop where
  ne : q ≠ p
  at_ : S[p]? = some (.lst [.ref q, .int a, .int b, .int c, .int d])
  list : S[q]? = some (.lst (xs.map .int))
  few : xs.length ≤ 63
def PoolOk (p q : Nat) (S : Store) : Prop := ∃ xs a b c d, Pool p S q xs a b c d
theorem PoolOk.ext {p q : Nat} {S S' : Store} (h : PoolOk p q S) (e : Ext S S') : PoolOk p q S' := by
  obtain ⟨xs, a, b, c, d, h1, h2, h3, h4⟩ := h
  exact ⟨xs, a, b, c, d, h1, e _ _ h2, e _ _ h3, h4⟩
theorem PoolOk.lt {p q : Nat} {S : Store} (h : PoolOk p q S) : p < S.length := by
  obtain ⟨xs, a, b, c, d, h1, h2, h3, h4⟩ := h
  exact (List.getElem?_eq_some_iff.mp h2).1
theorem PoolOk.lt2 {p q : Nat} {S : Store} (h : PoolOk p q S) : q < S.length := by
  obtain ⟨xs, a, b, c, d, h1, h2, h3, h4⟩ := h
  exact (List.getElem?_eq_some_iff.mp h3).1
theorem PoolOk.extB {p q : Nat} {S S' : Store} {l : List Nat} (h : PoolOk p q S) (e : ExtB l S S') (h1 : p ∉ l) (h2 : q ∉ l) : PoolOk p q S' := by
  obtain ⟨xs, a, b, c, d, g1, g2, g3, g4⟩ := h
  exact ⟨xs, a, b, c, d, g1, e.2 _ h1 _ g2, e.2 _ h2 _ g3, g4⟩
theorem atI_int {xs : List Int} {k : Nat} (h : k < xs.length) : atI (xs.map D.int) (k : Int) = some (.int xs[k]) := by
  rw [atI_n, List.getElem?_map, List.getElem?_eq_getElem h]; rfl
theorem draw_spec {p q : Nat} {many : Int} {S : Store} {Q : PD} (P : PoolOk p q S) (h1 : 0 < many) (h2 : many < 1073741824) (h : ∀ S' (r : Nat), (r : Int) < many → PoolOk p q S' → Off p S S' → Q (.int (r : Nat)) S') : F__law_draw [.ref p, .int many] S Q := by
  obtain ⟨xs, a, b, c, d, p1, p2, p3, p4⟩ := P
  have h : ∀ S' (r : Int), 0 ≤ r → r < many → PoolOk p q S' → Off p S S' → Q (.int r) S' := fun S' r r0 r1 r2 r3 => by
    obtain ⟨r, rfl⟩ := Int.eq_ofNat_of_zero_le r0
    exact h S' r r1 r2 r3
  refine r_fn rfl ?_
  unfold b__law_draw
  refine r_cut (fun σ S' => ∃ a b c d s2 s3 s4, σ = [some (.ref p), some (.int many), s2, s3, s4] ∧ Pool p S' q xs a b c d ∧ Off p S S') ?_ fun T hT => ?_
  · rintro σ S0 ⟨a, b, c, d, s2, s3, s4, rfl, ⟨p1, p2, p3, p4⟩, o0⟩
    walk_at "s"
    refine r_setL1 p2 (by with_unfolding_all rfl) fun S1 q1 o1 => ?_
    clear p2
    have oo := o0.trans o1
    walk_at "s"
    refine ite_b (fun hb => ?_) (fun hb => ?_)
    · walk_at "s"
      refine r_intCF ⟨by decide, by decide⟩ ?_
      walk_at "s"
      refine r_intCF h1 ?_
      exact h _ _ (Int.emod_nonneg _ (by omega)) (Int.emod_lt_of_pos _ h1) ⟨xs, _, _, _, _, p1, q1, (o1.off q p1).trans p3, p4⟩ oo
    · walk_at "s"
      refine r_intCF h1 ?_
      walk_at "s"
      refine r_intCF ⟨h1, h2⟩ ?_
      walk_at "s"
      refine r_setL1 q1 (by with_unfolding_all rfl) fun S2 q2 o2 => ?_
      walk_at "s"
      exact h _ _ (Int.emod_nonneg _ (by omega)) (Int.emod_lt_of_pos _ h1) ⟨xs, _, _, _, _, p1, q2, ((o1.trans o2).off q p1).trans p3, p4⟩ (oo.trans o2)
  walk_at "s"
  refine ite_b (fun hb => ?_) (fun hb => ?_)
  · walk_at "s"
    refine r_len (by show seqC S[q]? = _; rw [p3]; rfl) ?_
    walk_at "s"
    refine ite_b (fun ha => ?_) (fun ha => ?_)
    · have ha : a < xs.length := by
        rw [List.length_map] at ha
        have := of_decide_eq_true ha
        omega
      walk_at "s"
      refine r_ixL p3 (atI_int ha) ?_
      walk_at "s"
      refine r_setL1 p2 (by with_unfolding_all rfl) fun S1 q1 o1 => ?_
      clear p2
      walk_at "s"
      refine r_setL1 q1 (by with_unfolding_all rfl) fun S2 q2 o2 => ?_
      clear q1
      walk_at "s"
      have o3 := o1.trans o2
      refine ite_b (fun hb => ?_) (fun hb => ?_)
      · walk_at "s"
        refine spread_spec fun z => ?_
        walk_at "s"
        refine r_setL1 q2 (by with_unfolding_all rfl) fun S3 q3 o3 => ?_
        have oo := (o1.trans o2).trans o3
        exact hT _ _ ⟨a + 1, _, _, _, _, _, _, rfl, ⟨p1, q3, (oo.off q p1).trans p3, p4⟩, oo⟩
      · walk_at "s"
        exact hT _ _ ⟨a + 1, _, _, _, _, _, _, rfl, ⟨p1, q2, (o3.off q p1).trans p3, p4⟩, o3⟩
    · walk_at "s"
      exact hT _ _ ⟨_, _, _, _, _, _, _, rfl, ⟨p1, p2, p3, p4⟩, rfl, fun _ _ => rfl⟩
  · walk_at "s"
    exact hT _ _ ⟨_, _, _, _, _, _, _, rfl, ⟨p1, p2, p3, p4⟩, rfl, fun _ _ => rfl⟩
theorem pool_spec {ns : List Int} {S : Store} {Q : PD} (hn : ns.length ≤ 63) (h : ∀ S' p q, PoolOk p q S' → Ext S S' → S.length ≤ p → S.length ≤ q → Q (.ref p) S') : F__law_pool [.frz (ns.map .int)] S Q := by
  refine r_fn rfl ?_
  unfold b__law_pool
  walk_at "s"
  refine r_iLst ?_
  have cut : ∀ o, ∃ ks : List Int, cutD (ns.map D.int) none o = ks.map .int := fun o => by
    unfold cutD
    exact ⟨(ns.drop _).take _, by rw [List.map_take, List.map_drop]⟩
  refine ⟨_, rfl, 63, rfl, .inr (.inl ⟨_, rfl, ?_⟩)⟩
  obtain ⟨ks, hk⟩ := cut (some 63)
  rw [hk]
  refine .inr ⟨_, _, rfl, new_at S _, ?_⟩
  refine for_inv (fun _ σ S' => S' = S ++ [.lst (ks.map .int)] ∧ ∃ (a : Int) (s : Option D), σ = [some (.frz (ns.map .int)), some (.int a), s]) ⟨rfl, _, _, rfl⟩ ?_ ?_
  · rintro i x σ S1 R hx ⟨rfl, a, s, rfl⟩ hR
    have : ∃ j : Int, x = .int j := by
      rw [List.getElem?_map] at hx
      cases e : ks[i]? with
      | none => rw [e] at hx; cases hx
      | some j => rw [e] at hx; cases hx; exact ⟨_, rfl⟩
    obtain ⟨j, rfl⟩ := this
    refine ⟨new_at S _, ?_⟩
    walk_at "s"
    exact hR _ _ ⟨rfl, _, _, rfl⟩
  · rintro σ S1 ⟨rfl, a, s, rfl⟩
    refine ⟨new_at S _, ?_⟩
    walk_at "s"
    refine r_list rfl ?_
    walk_at "s"
    refine h _ _ (S ++ [Cell.lst (ks.map D.int)]).length ⟨ns, 0, 0, 0, a, ?_, new_at _ _, ?_, hn⟩ (((Ext.app S _).trans (Ext.app _ _)).trans (Ext.app _ _)) ?_ ?_
    · simp
    · simp
    · simp
    · simp
theorem pick_spec {p q n : Nat} {xs : List D} {S : Store} {Q : PD} (P : PoolOk p q S) (hn : n ≠ p) (e : S[n]? = some (.lst xs)) (h1 : 0 < xs.length) (h2 : xs.length < 1000000) (h : ∀ S' d, d ∈ xs → PoolOk p q S' → Off p S S' → Q d S') : F__law_pick [.ref p, .ref n] S Q := by
  refine r_fn rfl ?_
  unfold b__law_pick
  walk_at "s"
  refine r_len (by show seqC S[n]? = _; rw [e]; rfl) ?_
  walk_at "s"
  refine draw_spec P (by omega) (by omega) fun S1 r h3 P1 o1 => ?_
  have : r < xs.length := by omega
  refine r_ixL (o1.ne hn e) (by rw [atI_n, List.getElem?_eq_getElem this]) ?_
  exact h _ _ (List.getElem_mem this) P1 o1
theorem land_spec {p q : Nat} {S : Store} {Q : PD} (P : PoolOk p q S) (h : ∀ S' (a b : Nat), 1 ≤ a → a ≤ 3 → 1 ≤ b → b ≤ 2 → PoolOk p q S' → Off p S S' → Q (.tup [.int (a : Nat), .int (b : Nat)]) S') : F__law_land [.ref p] S Q := by
  refine r_fn rfl ?_
  unfold b__law_land
  walk_at "s"
  refine draw_spec P (by decide) (by decide) fun S1 r h3 P1 o1 => ?_
  match r, h3 with
  | 0, _ => exact r_ixT rfl (h _ 1 1 (by decide) (by decide) (by decide) (by decide) P1 o1)
  | 1, _ => exact r_ixT rfl (h _ 2 1 (by decide) (by decide) (by decide) (by decide) P1 o1)
  | 2, _ => exact r_ixT rfl (h _ 1 2 (by decide) (by decide) (by decide) (by decide) P1 o1)
  | 3, _ => exact r_ixT rfl (h _ 3 1 (by decide) (by decide) (by decide) (by decide) P1 o1)
  | 4, _ => exact r_ixT rfl (h _ 2 2 (by decide) (by decide) (by decide) (by decide) P1 o1)
  | n + 5, h3 => omega
end PG
/-! SP2: comparing plain data. -/
namespace PG
open PySem L2 SD
inductive Pl : Nat → D → Prop
  | non (k : Nat) : Pl (k + 1) .non
  | bl (k : Nat) (b : Bool) : Pl (k + 1) (.bl b)
  | int (k : Nat) (i : Int) : Pl (k + 1) (.int i)
  | str (k : Nat) (s : Str) : Pl (k + 1) (.str s)
  | tup (k : Nat) (xs : List D) : xs.length ≤ 1000000 → (∀ x ∈ xs, Pl k x) → Pl (k + 1) (.tup xs)
def neAt (xs ys : List D) : D → Bool
  | .int i => !decide (xs[i.toNat]? = ys[i.toNat]?)
  | _ => true
theorem neAt_int {xs ys : List D} {i : Nat} (h1 : i < xs.length) (h2 : i < ys.length) : neAt xs ys (.int i) = !decide (xs[i] = ys[i]) := by
  unfold neAt
  simp only [Int.toNat_natCast]
  congr 1
  rw [decide_eq_decide, List.getElem?_eq_getElem h1, List.getElem?_eq_getElem h2, Option.some.injEq]
theorem filter_ne {xs ys : List D} (h : xs.length = ys.length) : (((rngD 0 ys.length).filter (neAt xs ys)).length = 0) ↔ xs = ys := by
  rw [List.length_eq_zero_iff, List.filter_eq_nil_iff]
  constructor
  · intro a
    refine List.ext_getElem? fun i => ?_
    by_cases hi : i < ys.length
    · have := a (.int (i : Nat)) (by rw [rng_map]; exact List.mem_map.mpr ⟨i, List.mem_range.mpr hi, rfl⟩)
      simpa [neAt] using this
    · rw [List.getElem?_eq_none (by omega), List.getElem?_eq_none (by omega)]
  · rintro rfl x hx
    obtain ⟨i, hi, rfl⟩ := mem_rng hx
    simp [neAt]
theorem same_spec : ∀ (k : Nat) (a b : D) (S : Store) (Q : PD), Pl k a → Pl k b → (∀ S', Ext S S' → Q (.bl (decide (a = b))) S') → F__law_same k [a, b] S Q
  | 0, a, b, S, Q, ha, _, _ => by cases ha
  | k + 1, a, b, S, Q, ha, hb, h => by
    have h0 := h S (.refl S)
    refine r_fn rfl ?_
    unfold b__law_same
    cases hb with
    | tup _ ys hl hy =>
      cases ha with
      | tup _ xs hl2 hx0 =>
        walk_at "s"
        refine r_len rfl ?_
        walk_at "s"
        refine r_len rfl ?_
        walk_at "s"
        refine ite_b (fun hne => ?_) (fun he => ?_)
        · walk_at "s"
          have : decide (D.tup xs = D.tup ys) = false := by
            rw [decide_eq_false_iff_not]
            intro e
            cases e
            simp at hne
          rw [this] at h0
          exact h0
        · have he : xs.length = ys.length := by
            have : ((xs.length : Nat) : Int) = (ys.length : Nat) := by simpa using he
            omega
          walk_at "s"
          refine r_len rfl ?_
          walk_at "s"
          refine r_rg (by omega) (by omega) fun few => ?_
          refine lc_filter (neAt xs ys) id few (fun _ _ => trivial) ?_ ?_ ?_
          · intro x hx S1 P e1 hP
            obtain ⟨i, hi, rfl⟩ := mem_rng hx
            rw [Int.toNat_natCast] at hi
            walk_at "s"
            refine r_ixT (v := xs[i]) (by rw [atI_n, List.getElem?_eq_getElem (by omega)]) ?_
            walk_at "s"
            refine r_ixT (v := ys[i]) (by rw [atI_n, List.getElem?_eq_getElem (by omega)]) ?_
            walk_at "s"
            refine same_spec k _ _ _ _ (hx0 _ (List.getElem_mem _)) (hy _ (List.getElem_mem _)) fun S2 e2 => ?_
            walk_at "s"
            have := hP S2 e2
            rw [neAt_int (by omega) hi] at this
            exact this
          · intro x hx S1 P e1 hP
            walk_at "s"
            exact hP S1 (.refl S1)
          · intro S1 e1 hS
            walk_at "s"
            refine r_len (by show seqC S1[S.length]? = _; rw [hS]; rfl) ?_
            walk_at "s"
            have := h S1 e1
            rw [List.map_id]
            have q : decide (D.tup xs = D.tup ys) = decide ((((rngD 0 ((ys.length : Nat) : Int).toNat).filter (neAt xs ys)).length : Int) = 0) := by
              rw [decide_eq_decide, Int.toNat_natCast, Int.natCast_eq_zero, filter_ne he]
              simp
            rw [q] at this
            exact this
      | _ =>
        walk_at "s"
        simpa using h0
    | _ =>
      cases ha <;> (walk_at "s"; simpa using h0)
end PG
/-! SP3: worlds and sayings, drawn. -/
namespace PG
open PySem L2 SD
inductive Fm where
  | yes | no | is (i : Nat) | isnt (i : Nat) | name (x : Nat) | both (a b : Fm) | either (a b : Fm) | some (j : Nat) (a : Fm) | all (j : Nat) (a : Fm) | least (x : Nat) (a : Fm) | greatest (x : Nat) (a : Fm)
deriving DecidableEq
def encP (xs : List Nat) : D := .tup (xs.map fun k : Nat => .int (k : Nat))
def encF : Fm → D
  | .yes => .tup [.str "yes"]
  | .no => .tup [.str "no"]
  | .is i => .tup [.str "is", .int (i : Nat)]
  | .isnt i => .tup [.str "isnt", .int (i : Nat)]
  | .name x => .tup [.str "name", .int (x : Nat)]
  | .both a b => .tup [.str "both", encF a, encF b]
  | .either a b => .tup [.str "either", encF a, encF b]
  | .some j a => .tup [.str "some", .int (j : Nat), encF a]
  | .all j a => .tup [.str "all", .int (j : Nat), encF a]
  | .least x a => .tup [.str "least", .int (x : Nat), encF a]
  | .greatest x a => .tup [.str "greatest", .int (x : Nat), encF a]
def Fm.dp : Fm → Nat
  | .both a b => max a.dp b.dp + 1
  | .either a b => max a.dp b.dp + 1
  | .some _ a => a.dp + 1
  | .all _ a => a.dp + 1
  | .least _ a => a.dp + 1
  | .greatest _ a => a.dp + 1
  | _ => 1
def Fm.bnds : Fm → List Nat
  | .both a b => a.bnds ++ b.bnds
  | .either a b => a.bnds ++ b.bnds
  | .some _ a => a.bnds
  | .all _ a => a.bnds
  | .least x a => x :: a.bnds
  | .greatest x a => x :: a.bnds
  | _ => []
/-- of a land, names known and names free to be said -/
def OkF (L0 L1 : Nat) : List Nat → List Nat → Fm → Prop
  | _, _, .yes => True
  | _, _, .no => True
  | _, _, .is i => i < L0
  | _, _, .isnt i => i < L0
  | _, fr, .name x => x ∈ fr
  | kn, fr, .both a b => OkF L0 L1 kn fr a ∧ OkF L0 L1 kn fr b
  | kn, fr, .either a b => OkF L0 L1 kn fr a ∧ OkF L0 L1 kn fr b
  | kn, _, .some j a => j < L1 ∧ OkF L0 L1 kn kn a
  | kn, _, .all j a => j < L1 ∧ OkF L0 L1 kn kn a
  | kn, fr, .least x a => OkF L0 L1 (kn ++ [x]) fr a
  | kn, fr, .greatest x a => OkF L0 L1 (kn ++ [x]) fr a
theorem saying_spec : ∀ (k : Nat) (deep : Int) (p q st L0 L1 : Nat) (kn fr : List Nat) (ys : List D) (S : Store) (Q : PD), deep.toNat < k → PoolOk p q S → 1 ≤ L0 → L0 ≤ 1000 → 1 ≤ L1 → L1 ≤ 1000 → st ≠ p → st ≠ q → S[st]? = Option.some (.lst ys) → ys.length ≤ 5 →
    kn.length + k ≤ 1000 → fr.length ≤ 1000 →
    (∀ S' f ys', OkF L0 L1 kn fr f → f.dp ≤ deep.toNat + 1 → ys.length ≤ ys'.length → ys'.length ≤ 5 → f.bnds = List.range' ys.length (ys'.length - ys.length) → PoolOk p q S' → S'[st]? = Option.some (.lst ys') → ExtB [p, st] S S' → Q (encF f) S') →
    F__law_saying k [.ref p, .tup [.int (L0 : Nat), .int (L1 : Nat)], .int deep, .ref st, encP kn, encP fr] S Q
  | 0, _, _, _, _, _, _, _, _, _, _, _, h, _, _, _, _, _, _, _, _, _, _, _, _ => absurd h (Nat.not_lt_zero _)
  | k + 1, deep, p, q, st, L0, L1, kn, fr, ys, S, Q, hd, P, l1, l2, m1, m2, sp, sq, hst, hys, hkn, hfr, h => by
    refine r_fn rfl ?_
    unfold b__law_saying
    refine r_cut (fun σ S' => ∃ r : Nat, σ = [Option.some (.ref p), Option.some (.tup [.int (L0 : Nat), .int (L1 : Nat)]), Option.some (.int deep), Option.some (.ref st), Option.some (encP kn), Option.some (encP fr), Option.some (.int (r : Nat)), none] ∧ r < 13 ∧ (deep ≤ 0 → r < 5) ∧ PoolOk p q S' ∧ Off p S S') ?_ fun T hT => ?_
    · rintro σ S0 ⟨r, rfl, hr, hr5, P0, o0⟩
      have hst0 := o0.ne sp hst
      have leaf : ∀ S' f, OkF L0 L1 kn fr f → f.dp ≤ 1 → f.bnds = [] → PoolOk p q S' → ExtB [p] S0 S' → Q (encF f) S' := fun S' f h1 h2 h3 h4 h5 =>
        h S' f ys h1 (by omega) (Nat.le_refl _) hys (by rw [h3]; simp) h4 (h5.2 st (by simpa using sp) _ hst0) ((o0.b (List.mem_cons_self)).trans (h5.mono (by simp)))
      have go : ∀ (kn' fr' : List Nat) (ys1 : List D) (S1 : Store) (R : PD), 0 < deep → PoolOk p q S1 → S1[st]? = Option.some (.lst ys1) → ys1.length ≤ 5 → kn'.length + k ≤ 1000 → fr'.length ≤ 1000 →
          (∀ S' f ys', OkF L0 L1 kn' fr' f → f.dp ≤ deep.toNat → ys1.length ≤ ys'.length → ys'.length ≤ 5 → f.bnds = List.range' ys1.length (ys'.length - ys1.length) → PoolOk p q S' → S'[st]? = Option.some (.lst ys') → ExtB [p, st] S1 S' → R (encF f) S') →
          F__law_saying k [.ref p, .tup [.int (L0 : Nat), .int (L1 : Nat)], .int (deep - 1), .ref st, encP kn', encP fr'] S1 R := fun kn' fr' ys1 S1 R h0 h1 h2 h3 h4 h5 h6 => by
        exact saying_spec k (deep - 1) p q st L0 L1 kn' fr' ys1 S1 R (by omega) h1 l1 l2 m1 m2 sp sq h2 h3 h4 h5 fun S' f ys' a1 a2 => h6 S' f ys' a1 (by omega)
      by_cases a2 : r < 2
      · match r, a2 with
        | 0, _ =>
          walk_at "s"
          refine draw_spec P0 (by omega) (by omega) fun S2 i hi P2 o2 => ?_
          walk_at "s"
          exact leaf S2 (.is i) (by show i < L0; omega) (Nat.le_refl _) rfl P2 (o2.b (by simp))
        | 1, _ =>
          walk_at "s"
          refine draw_spec P0 (by omega) (by omega) fun S2 i hi P2 o2 => ?_
          walk_at "s"
          exact leaf S2 (.isnt i) (by show i < L0; omega) (Nat.le_refl _) rfl P2 (o2.b (by simp))
      walk_at "s"
      refine r_ifF (decide_eq_false (by omega)) ?_
      walk_at "s"
      by_cases a3 : r = 3
      · subst a3
        walk_at "s"
        refine r_len rfl ?_
        walk_at "s"
        refine ite_b (fun hf => ?_) (fun hf => ?_)
        · walk_at "s"
          refine draw_spec P0 (by omega) (by omega) fun S2 i hi P2 o2 => ?_
          walk_at "s"
          exact leaf S2 (.is i) (by show i < L0; omega) (Nat.le_refl _) rfl P2 (o2.b (by simp))
        · walk_at "s"
          refine r_len rfl ?_
          walk_at "s"
          refine ite_b (fun hf => ?_) (fun hf => ?_)
          · walk_at "s"
            refine r_list rfl ?_
            walk_at "s"
            have hf : 0 < fr.length := by simpa using hf
            refine pick_spec (P0.ext (Ext.app S0 _)) (Nat.ne_of_gt P0.lt) (new_at S0 _) (by simpa using hf) (by simp; omega) fun S2 d hdm P2 o2 => ?_
            obtain ⟨x, hx, rfl⟩ := List.mem_map.mp hdm
            walk_at "s"
            exact leaf S2 (.name x) hx (Nat.le_refl _) rfl P2 (((Ext.app S0 _).b _).trans (o2.b (by simp)))
          · walk_at "s"
            refine draw_spec P0 (by omega) (by omega) fun S2 i hi P2 o2 => ?_
            walk_at "s"
            exact leaf S2 (.isnt i) (by show i < L0; omega) (Nat.le_refl _) rfl P2 (o2.b (by simp))
      by_cases a4 : r = 4
      · subst a4
        walk_at "s"
        refine r_len rfl ?_
        walk_at "s"
        refine ite_b (fun hf => ?_) (fun hf => ?_)
        · walk_at "s"
          refine r_list rfl ?_
          walk_at "s"
          have hf : 0 < fr.length := by simpa using hf
          refine pick_spec (P0.ext (Ext.app S0 _)) (Nat.ne_of_gt P0.lt) (new_at S0 _) (by simpa using hf) (by simp; omega) fun S2 d hdm P2 o2 => ?_
          obtain ⟨x, hx, rfl⟩ := List.mem_map.mp hdm
          walk_at "s"
          exact leaf S2 (.name x) hx (Nat.le_refl _) rfl P2 (((Ext.app S0 _).b _).trans (o2.b (by simp)))
        · walk_at "s"
          refine draw_spec P0 (by omega) (by omega) fun S2 i hi P2 o2 => ?_
          walk_at "s"
          exact leaf S2 (.isnt i) (by show i < L0; omega) (Nat.le_refl _) rfl P2 (o2.b (by simp))
      refine r_ifF (decide_eq_false (by omega)) ?_
      walk_at "s"
      by_cases a5 : r = 2
      · subst a5
        walk_at "s"
        refine draw_spec P0 (by decide) (by decide) fun S1 i hi P1 o1 => ?_
        walk_at "s"
        refine ite_b (fun hb => ?_) (fun hb => ?_)
        · walk_at "s"
          refine draw_spec P1 (by decide) (by decide) fun S2 i hi P2 o2 => ?_
          match i, hi with
          | 0, _ =>
            walk_at "s"
            exact leaf S2 .yes trivial (Nat.le_refl _) rfl P2 ((o1.trans o2).b (by simp))
          | 1, _ =>
            walk_at "s"
            exact leaf S2 .no trivial (Nat.le_refl _) rfl P2 ((o1.trans o2).b (by simp))
          | i + 2, hi => omega
        · walk_at "s"
          refine draw_spec P1 (by omega) (by omega) fun S2 i hi P2 o2 => ?_
          walk_at "s"
          exact leaf S2 (.is i) (by show i < L0; omega) (Nat.le_refl _) rfl P2 ((o1.trans o2).b (by simp))
      refine r_ifF (decide_eq_false (by omega)) ?_
      walk_at "s"
      refine r_ifF (decide_eq_false (by omega)) ?_
      walk_at "s"
      have d0 : 0 < deep := by omega
      have n1 : ∀ a b c : Nat, a ≤ b → b ≤ c → ∀ u v : List Nat, u = List.range' a (b - a) → v = List.range' b (c - b) → u ++ v = List.range' a (c - a) := fun a b c h1 h2 u v hu hv => by
        have e1 : c - a = (b - a) + (c - b) := by omega
        have e2 : List.range' b (c - b) = List.range' (a + 1 * (b - a)) (c - b) := by rw [show a + 1 * (b - a) = b from by omega]
        rw [hu, hv, e1, e2, List.range'_append]
      refine ite_b (fun hb => ?_) (fun hb => ?_)
      · walk_at "s"
        refine draw_spec P0 (by decide) (by decide) fun S1 i hi P1 o1 => ?_
        match i, hi with
        | 0, _ =>
          walk_at "s"
          refine go kn fr ys S1 _ d0 P1 (o1.ne sp hst0) hys (by omega) hfr fun S2 fa ys2 u1 u2 u3 u4 u5 u6 u7 u8 => ?_
          walk_at "s"
          refine go kn fr ys2 S2 _ d0 u6 u7 u4 (by omega) hfr fun S3 fb ys3 v1 v2 v3 v4 v5 v6 v7 v8 => ?_
          walk_at "s"
          exact h S3 (.both fa fb) ys3 ⟨u1, v1⟩ (by show max fa.dp fb.dp + 1 ≤ _; omega) (Nat.le_trans u3 v3) v4 (n1 _ _ _ u3 v3 _ _ u5 v5) v6 v7 (((((o0.trans o1).b (by simp)).trans u8)).trans v8)
        | 1, _ =>
          walk_at "s"
          refine go kn fr ys S1 _ d0 P1 (o1.ne sp hst0) hys (by omega) hfr fun S2 fa ys2 u1 u2 u3 u4 u5 u6 u7 u8 => ?_
          walk_at "s"
          refine go kn fr ys2 S2 _ d0 u6 u7 u4 (by omega) hfr fun S3 fb ys3 v1 v2 v3 v4 v5 v6 v7 v8 => ?_
          walk_at "s"
          exact h S3 (.either fa fb) ys3 ⟨u1, v1⟩ (by show max fa.dp fb.dp + 1 ≤ _; omega) (Nat.le_trans u3 v3) v4 (n1 _ _ _ u3 v3 _ _ u5 v5) v6 v7 (((((o0.trans o1).b (by simp)).trans u8)).trans v8)
        | i + 2, hi => omega
      walk_at "s"
      refine ite_b (fun hb => ?_) (fun hb => ?_)
      · walk_at "s"
        refine draw_spec P0 (by decide) (by decide) fun S1 i hi P1 o1 => ?_
        match i, hi with
        | 0, _ =>
          walk_at "s"
          refine draw_spec P1 (by omega) (by omega) fun S2 jj hj P2 o2 => ?_
          walk_at "s"
          refine go kn kn ys S2 _ d0 P2 (o2.ne sp (o1.ne sp hst0)) hys (by omega) (by omega) fun S3 fa ys2 u1 u2 u3 u4 u5 u6 u7 u8 => ?_
          walk_at "s"
          exact h S3 (.some jj fa) ys2 ⟨by omega, u1⟩ (by show fa.dp + 1 ≤ _; omega) u3 u4 u5 u6 u7 ((((o0.trans o1).trans o2).b (by simp)).trans u8)
        | 1, _ =>
          walk_at "s"
          refine draw_spec P1 (by omega) (by omega) fun S2 jj hj P2 o2 => ?_
          walk_at "s"
          refine go kn kn ys S2 _ d0 P2 (o2.ne sp (o1.ne sp hst0)) hys (by omega) (by omega) fun S3 fa ys2 u1 u2 u3 u4 u5 u6 u7 u8 => ?_
          walk_at "s"
          exact h S3 (.all jj fa) ys2 ⟨by omega, u1⟩ (by show fa.dp + 1 ≤ _; omega) u3 u4 u5 u6 u7 ((((o0.trans o1).trans o2).b (by simp)).trans u8)
        | i + 2, hi => omega
      walk_at "s"
      refine r_len (by show seqC S0[st]? = _; rw [hst0]; rfl) ?_
      walk_at "s"
      refine ite_b (fun hx => ?_) (fun hx => ?_)
      · walk_at "s"
        exact leaf S0 (.is 0) (by show 0 < L0; omega) (Nat.le_refl _) rfl P0 (.refl _ _)
      · have hx : ys.length ≤ 4 := by
          have := of_decide_eq_false hx
          omega
        walk_at "s"
        refine r_tyL hst0 ?_
        walk_at "s"
        refine r_app hst0 (by simp [sizeLine]; omega) fun S1 q1 o1 => ?_
        have P1 := P0.extB (o1.b (l := [st]) (by simp)) (by simpa using Ne.symm sp) (by simpa using Ne.symm sq)
        have ek : (kn.map fun k : Nat => D.int (k : Nat)) ++ [D.int (ys.length : Nat)] = (kn ++ [ys.length]).map fun k : Nat => D.int (k : Nat) := by simp
        walk_at "s"
        refine draw_spec P1 (by decide) (by decide) fun S2 i hi P2 o2 => ?_
        match i, hi with
        | 0, _ =>
          walk_at "s"
          refine r_addT (by simp [sizeLine]; omega) ?_
          rw [ek]
          walk_at "s"
          refine go (kn ++ [ys.length]) fr _ S2 _ d0 P2 (o2.ne sp q1) (by simp; omega) (by simp; omega) hfr fun S3 fa ys2 u1 u2 u3 u4 u5 u6 u7 u8 => ?_
          walk_at "s"
          refine h S3 (.least ys.length fa) ys2 u1 (by show fa.dp + 1 ≤ _; omega) (by simp at u3; omega) u4 ?_ u6 u7 (((o0.b (by simp)).trans (o1.b (by simp))).trans ((o2.b (by simp)).trans u8))
          show ys.length :: fa.bnds = _
          rw [u5]
          simp at u3 ⊢
          have e3 : ys2.length - ys.length = (ys2.length - (ys.length + 1)) + 1 := by omega
          rw [e3, List.range'_succ]
        | 1, _ =>
          walk_at "s"
          refine r_addT (by simp [sizeLine]; omega) ?_
          rw [ek]
          walk_at "s"
          refine go (kn ++ [ys.length]) fr _ S2 _ d0 P2 (o2.ne sp q1) (by simp; omega) (by simp; omega) hfr fun S3 fa ys2 u1 u2 u3 u4 u5 u6 u7 u8 => ?_
          walk_at "s"
          refine h S3 (.greatest ys.length fa) ys2 u1 (by show fa.dp + 1 ≤ _; omega) (by simp at u3; omega) u4 ?_ u6 u7 (((o0.b (by simp)).trans (o1.b (by simp))).trans ((o2.b (by simp)).trans u8))
          show ys.length :: fa.bnds = _
          rw [u5]
          simp at u3 ⊢
          have e3 : ys2.length - ys.length = (ys2.length - (ys.length + 1)) + 1 := by omega
          rw [e3, List.range'_succ]
        | i + 2, hi => omega
    · walk_at "s"
      refine ite_b (fun hb => ?_) (fun hb => ?_)
      · walk_at "s"
        refine draw_spec P (by decide) (by decide) fun S1 r hr P1 o1 => ?_
        walk_at "s"
        have hb := of_decide_eq_true hb
        exact hT _ _ ⟨r, rfl, by omega, by omega, P1, o1⟩
      · walk_at "s"
        refine draw_spec P (by decide) (by decide) fun S1 r hr P1 o1 => ?_
        walk_at "s"
        exact hT _ _ ⟨r, rfl, by omega, by omega, P1, o1⟩
end PG
/-! SP4: drawn worlds. -/
namespace PG
open PySem L2 SD
structure Wd where
  n : Nat
  marks : List (List Nat)
  ways : List (List (List Nat))
def encR (r : List (List Nat)) : D := .tup (r.map encP)
def encW (w : Wd) : D := .tup [.int (w.n : Nat), .tup (w.marks.map encP), .tup (w.ways.map encR)]
def OkSub (n : Nat) (ks : List Nat) : Prop := ks.Pairwise (· < ·) ∧ ∀ k ∈ ks, k < n
structure OkW (L0 L1 : Nat) (w : Wd) : Prop where
  pos : 1 ≤ w.n
  marks : w.marks.length = L0
  mark : ∀ m ∈ w.marks, OkSub w.n m
  ways : w.ways.length = L1
  rows : ∀ r ∈ w.ways, r.length = w.n
  row : ∀ r ∈ w.ways, ∀ ks ∈ r, OkSub w.n ks
theorem OkSub.le {n : Nat} {ks : List Nat} (h : OkSub n ks) : ks.length ≤ n := by
  have nd : ks.Nodup := h.1.imp fun a => Nat.ne_of_lt a
  have := subset_len (ls := List.range n) nd fun j hj => List.mem_range.mpr (h.2 j hj)
  simpa using this
/-- [k for k in range(n) if draw(m) == 0] -/
theorem sub_spec {σ : Slots} {n p q m pv iv : Nat} {em : FE} {S : Store} {R : Store → Prop} (hp : ∀ d : D, (σ.set iv (some d))[pv]? = some (some (.ref p))) (hv : ∀ d : D, (σ.set iv (some d))[iv]? = some (some d))
    (hem : ∀ (d : D) (S : Store) (Q : PD), Q (.int (m : Nat)) S → em (σ.set iv (some d)) S Q) (m0 : 0 < m) (m1 : m < 1000000) (hn : n ≤ 1000) (P : PoolOk p q S)
    (h : ∀ S' ks, OkSub n ks → PoolOk p q S' → ExtB [p] S S' → S'[S.length]? = some (.lst (ks.map fun k : Nat => .int (k : Nat))) → R S') :
    lcD Always (gNm iv) (tVal (eOp (eqF false) (eCall F__law_draw (aCons (eVar pv) (aCons em aNil))) (eC (.int 0)))) (eVar iv) S.length R σ (rngD 0 n) (S ++ [.lst []]) := by
  have hpl := P.lt
  refine lc_inv (fun i acc S' => PoolOk p q S' ∧ ExtB [p] S S' ∧ ∃ ks : List Nat, acc = ks.map (fun k : Nat => D.int (k : Nat)) ∧ OkSub i ks) (by rw [rng_len]; simp [sizeLine]; omega) (new_at S _) ⟨P.ext (Ext.app S _), (Ext.app S _).b _, [], rfl, .nil, by simp⟩ ?_ ?_
  · rintro i x acc S1 R1 hx h1 hl ⟨P1, e1, ks, rfl, hk1, hk2⟩ hR
    obtain ⟨hi, rfl⟩ := rng_at hx
    refine ⟨trivial, ?_⟩
    walk_at "s"
    refine r_var (hp _) ?_
    walk_at "s"
    refine hem _ _ _ ?_
    walk_at "s"
    refine draw_spec P1 (by omega) (by omega) fun S2 r hr P2 o2 => ?_
    have h1' := o2.ne (Nat.ne_of_gt hpl) h1
    walk_at "s"
    refine ite_b (fun hb => ?_) (fun hb => ?_)
    · refine r_var (hv _) ?_
      refine ⟨_, h1', by rw [List.length_map] at hl ⊢; simp [sizeLine]; omega, ?_⟩
      refine hR _ _ (set_at h1') (by simpa using hl) ⟨P2.extB ((Off.set S.length S2 _).b (l := [S.length]) (by simp)) (by simp; exact Nat.ne_of_lt hpl) (by simp; exact Nat.ne_of_lt P.lt2), (e1.trans (o2.b (by simp))).put (.inr (Nat.le_refl _)), ks ++ [i], by simp, ?_, ?_⟩
      · rw [List.pairwise_append]
        exact ⟨hk1, by simp, fun a ha b hb => by simp at hb; subst hb; exact hk2 a ha⟩
      · intro k hk
        simp at hk
        rcases hk with hk | rfl
        · have := hk2 k hk; omega
        · omega
    · refine hR _ _ h1' (by omega) ⟨P2, e1.trans (o2.b (by simp)), ks, rfl, hk1, fun k hk => by have := hk2 k hk; omega⟩
  · rintro acc S1 h1 hl ⟨P1, e1, ks, rfl, hk⟩
    rw [rng_len] at hk
    exact ⟨trivial, h S1 ks hk P1 e1 h1⟩
/-- [tuple([k for k in range(n) if draw(m) == 0]) for _ in range(c)] -/
theorem rows_spec {σ : Slots} {n p q m c pv iv nv ov : Nat} {em : FE} {S : Store} {R : Store → Prop} (hp : ∀ d e : D, ((wipeD (σ.set ov (some e)) [iv]).set iv (some d))[pv]? = some (some (.ref p))) (hv : ∀ d e : D, ((wipeD (σ.set ov (some e)) [iv]).set iv (some d))[iv]? = some (some d))
    (hn : ∀ e : D, (σ.set ov (some e))[nv]? = some (some (.int (n : Nat))))
    (hem : ∀ (d e : D) (S : Store) (Q : PD), Q (.int (m : Nat)) S → em ((wipeD (σ.set ov (some e)) [iv]).set iv (some d)) S Q) (m0 : 0 < m) (m1 : m < 1000000) (hn1 : n ≤ 1000) (hc : c ≤ 1000) (P : PoolOk p q S)
    (h : ∀ S' (rs : List (List Nat)), rs.length = c → (∀ r ∈ rs, OkSub n r) → PoolOk p q S' → ExtB [p] S S' → S'[S.length]? = some (.lst (rs.map encP)) → R S') :
    lcD Always (gNm ov) tYesD (eCB tupleF (aCons (eLc (iRg1 (aCons (eVar nv) aNil)) (gNm iv) (tVal (eOp (eqF false) (eCall F__law_draw (aCons (eVar pv) (aCons em aNil))) (eC (.int 0)))) (eVar iv) [iv]) aNil)) S.length R σ (rngD 0 c) (S ++ [.lst []]) := by
  have hpl := P.lt
  refine lc_inv (fun i acc S' => PoolOk p q S' ∧ ExtB [p] S S' ∧ ∃ rs : List (List Nat), acc = rs.map encP ∧ rs.length = i ∧ ∀ r ∈ rs, OkSub n r) (by rw [rng_len]; simp [sizeLine]; omega) (new_at S _) ⟨P.ext (Ext.app S _), (Ext.app S _).b _, [], rfl, rfl, by simp⟩ ?_ ?_
  · rintro i x acc S1 R1 hx h1 hl ⟨P1, e1, rs, rfl, hr1, hr2⟩ hR
    obtain ⟨hi, rfl⟩ := rng_at hx
    refine ⟨trivial, ?_⟩
    walk_at "s"
    refine r_var (hn _) ?_
    walk_at "s"
    refine r_rg (by omega) (by omega) fun few => ?_
    rw [Int.toNat_natCast]
    refine sub_spec (hp · _) (hv · _) (hem · _) m0 m1 hn1 P1 fun S2 ks hk P2 e2 h2 => ?_
    walk_at "s"
    refine r_tuple (by show seqC S2[S1.length]? = _; rw [h2]; rfl) ?_
    have h1' := e2.2 _ (by simp; exact Nat.ne_of_gt hpl) _ h1
    refine ⟨_, h1', by rw [List.length_map]; simp [sizeLine]; omega, ?_⟩
    refine hR _ _ (set_at h1') (by simpa using hl) ⟨P2.extB ((Off.set S.length S2 _).b (l := [S.length]) (by simp)) (by simp; exact Nat.ne_of_lt hpl) (by simp; exact Nat.ne_of_lt P.lt2), (e1.trans e2).put (.inr (Nat.le_refl _)), rs ++ [ks], by simp [encP], by simp [hr1], ?_⟩
    intro r hr
    simp at hr
    rcases hr with hr | rfl
    · exact hr2 r hr
    · exact hk
  · rintro acc S1 h1 hl ⟨P1, e1, rs, rfl, hr1, hr2⟩
    rw [rng_len] at hr1
    exact ⟨trivial, h S1 rs hr1 hr2 P1 e1 h1⟩
theorem world_spec {p q L0 L1 most : Nat} {S : Store} {Q : PD} (P : PoolOk p q S) (l0 : L0 ≤ 1000) (l1 : L1 ≤ 1000) (m0 : 1 ≤ most) (m1 : most ≤ 900)
    (h : ∀ S' w, OkW L0 L1 w → w.n ≤ most → PoolOk p q S' → ExtB [p] S S' → Q (encW w) S') : F__law_world [.ref p, .tup [.int (L0 : Nat), .int (L1 : Nat)], .int (most : Nat)] S Q := by
  refine r_fn rfl ?_
  unfold b__law_world
  walk_at "s"
  refine draw_spec P (by omega) (by omega) fun S1 n0 hn P1 o1 => ?_
  walk_at "s"
  have e : (1 : Int) + (n0 : Nat) = ((1 + n0 : Nat) : Int) := by omega
  rw [e]
  generalize hN : 1 + n0 = n
  refine r_rg (by omega) (by omega) fun few => ?_
  rw [Int.toNat_natCast]
  refine rows_spec (fun _ _ => rfl) (fun _ _ => rfl) (fun _ => rfl) (fun _ _ _ _ q => r_c q) (m := 2) (by decide) (by decide) (by omega) l0 P1 fun S2 ms hm1 hm2 P2 e2 h2 => ?_
  walk_at "s"
  refine r_tuple (by show seqC S2[S1.length]? = _; rw [h2]; rfl) ?_
  walk_at "s"
  refine draw_spec P2 (by omega) (by omega) fun S3 d0 hd P3 o3 => ?_
  walk_at "s"
  have e : (2 : Int) + (d0 : Nat) = ((2 + d0 : Nat) : Int) := by omega
  rw [e]
  refine r_rg (by omega) (by omega) ?_
  rw [Int.toNat_natCast]
  refine for_inv (fun i σ S' => PoolOk p q S' ∧ ExtB [p] S S' ∧ ∃ (ws : List (List (List Nat))) (s7 : Option D), ws.length = i ∧ (∀ r ∈ ws, r.length = n) ∧ (∀ r ∈ ws, ∀ ks ∈ r, OkSub n ks) ∧
    σ = [some (.ref p), some (.tup [.int (L0 : Nat), .int (L1 : Nat)]), some (.int (most : Nat)), some (.int (n : Nat)), some (.tup (ms.map encP)), some (.int ((2 + d0 : Nat) : Int)), some (.tup (ws.map encR)), s7, none, none, none]) ?_ ?_ ?_
  · exact ⟨P3, ((o1.b (by simp)).trans e2).trans (o3.b (by simp)), [], _, rfl, by simp, by simp, rfl⟩
  · rintro i x σ S4 R hx ⟨P4, e4, ws, s7, w1, w2, w3, rfl⟩ hR
    obtain ⟨hi, rfl⟩ := rng_at hx
    refine ⟨trivial, ?_⟩
    walk_at "s"
    refine r_rg (by omega) (by omega) fun few => ?_
    rw [Int.toNat_natCast]
    refine rows_spec (fun _ _ => rfl) (fun _ _ => rfl) (fun _ => rfl) (fun _ _ _ _ q => r_var rfl q) (m := 2 + d0) (by omega) (by omega) (by omega) (by omega) P4 fun S5 rs hr1 hr2 P5 e5 h5 => ?_
    walk_at "s"
    refine r_tuple (by show seqC S5[S4.length]? = _; rw [h5]; rfl) ?_
    walk_at "s"
    refine r_addT (by simp [sizeLine]; omega) ?_
    walk_at "s"
    refine hR _ _ ⟨P5, e4.trans e5, ws ++ [rs], _, by simp [w1], ?_, ?_, by simp [encR]; rfl⟩
    · intro r hr
      simp at hr
      rcases hr with hr | rfl
      · exact w2 r hr
      · exact hr1
    · intro r hr
      simp at hr
      rcases hr with hr | rfl
      · exact w3 r hr
      · exact hr2
  · rintro σ S4 ⟨P4, e4, ws, s7, w1, w2, w3, rfl⟩
    rw [rng_len] at w1
    refine ⟨trivial, ?_⟩
    walk_at "s"
    exact h S4 ⟨n, ms, ws⟩ ⟨by show 1 ≤ n; omega, hm1, hm2, w1, w2, w3⟩ (by show n ≤ most; omega) P4 e4
end PG
/-! SM1: what a saying says, in plain words. -/
namespace PG
theorem sub_ext {n : Nat} : ∀ {xs ys : List Nat}, xs.Pairwise (· < ·) → ys.Pairwise (· < ·) → (∀ j, j ∈ xs ↔ j ∈ ys) → xs = ys
  | [], [], _, _, _ => rfl
  | [], y :: ys, _, _, h => absurd ((h y).mpr List.mem_cons_self) (by simp)
  | x :: xs, [], _, _, h => absurd ((h x).mp List.mem_cons_self) (by simp)
  | x :: xs, y :: ys, hx, hy, h => by
    rw [List.pairwise_cons] at hx hy
    have e : x = y := by
      have h1 := (h x).mp List.mem_cons_self
      have h2 := (h y).mpr List.mem_cons_self
      rw [List.mem_cons] at h1 h2
      rcases h1 with h1 | h1
      · exact h1
      · rcases h2 with h2 | h2
        · exact h2.symm
        · have := hy.1 x h1
          have := hx.1 y h2
          omega
    subst e
    rw [sub_ext (n := n) hx.2 hy.2 fun j => ?_]
    have hj := h j
    rw [List.mem_cons, List.mem_cons] at hj
    constructor
    · intro q
      rcases hj.mp (.inr q) with e | e
      · have := hx.1 j q; omega
      · exact e
    · intro q
      rcases hj.mpr (.inr q) with e | e
      · have := hy.1 j q; omega
      · exact e
theorem OkSub.ext {n : Nat} {xs ys : List Nat} (hx : OkSub n xs) (hy : OkSub n ys) (h : ∀ j, j ∈ xs ↔ j ∈ ys) : xs = ys := sub_ext (n := n) hx.1 hy.1 h
theorem OkSub.nodup {n : Nat} {xs : List Nat} (h : OkSub n xs) : xs.Nodup := h.1.imp fun a => Nat.ne_of_lt a
/-- those below n of which p is so -/
def canon (n : Nat) (p : Nat → Bool) : List Nat := (List.range n).filter p
theorem mem_canon {n : Nat} {p : Nat → Bool} {k : Nat} : k ∈ canon n p ↔ k < n ∧ p k = true := by
  unfold canon; rw [List.mem_filter, List.mem_range]
theorem canon_ok (n : Nat) (p : Nat → Bool) : OkSub n (canon n p) := ⟨List.Pairwise.sublist List.filter_sublist List.pairwise_lt_range, fun k hk => (mem_canon.mp hk).1⟩
theorem range_ok (n : Nat) : OkSub n (List.range n) := ⟨List.pairwise_lt_range, fun k hk => List.mem_range.mp hk⟩
theorem nil_ok (n : Nat) : OkSub n [] := ⟨.nil, by simp⟩
def it {α : Type} (f : α → α) : Nat → α → α
  | 0, x => x
  | n + 1, x => f (it f n x)
theorem it_at {α : Type} {f : α → α} {x : α} {t : Nat} (h : it f (t + 1) x = it f t x) : ∀ m, t ≤ m → it f m x = it f t x := by
  intro m hm
  induction m with
  | zero => have : t = 0 := by omega
            subst this; rfl
  | succ m ih =>
    by_cases e : t = m + 1
    · rw [e]
    · show f (it f m x) = _
      rw [ih (by omega)]; exact h
/-- what grows at each step but so far comes to rest -/
theorem it_rest {α : Type} [DecidableEq α] {f : α → α} {x : α} (μ : α → Nat) {n : Nat} (hb : ∀ t, μ (it f t x) ≤ n) (hs : ∀ t, it f (t + 1) x ≠ it f t x → μ (it f t x) < μ (it f (t + 1) x)) : it f (n + 1) x = it f n x := by
  have key : ∀ t, (∃ s, s < t ∧ it f (s + 1) x = it f s x) ∨ t ≤ μ (it f t x) := by
    intro t
    induction t with
    | zero => exact .inr (Nat.zero_le _)
    | succ t ih =>
      rcases ih with ⟨s, h1, h2⟩ | h
      · exact .inl ⟨s, by omega, h2⟩
      · by_cases e : it f (t + 1) x = it f t x
        · exact .inl ⟨t, by omega, e⟩
        · have := hs t e
          exact .inr (by omega)
  rcases key (n + 1) with ⟨s, h1, h2⟩ | h
  · rw [it_at h2 (n + 1) (by omega), it_at h2 n (by omega)]
  · have := hb (n + 1)
    omega
def Sub (xs ys : List Nat) : Prop := ∀ k, k ∈ xs → k ∈ ys
abbrev Env := Nat → List Nat
def up (ρ : Env) (x : Nat) (X : List Nat) : Env := fun y => if y = x then X else ρ y
theorem up_self (ρ : Env) (x : Nat) (X : List Nat) : up ρ x X x = X := if_pos rfl
theorem up_ne (ρ : Env) {x y : Nat} (X : List Nat) (h : y ≠ x) : up ρ x X y = ρ y := if_neg h
def EnvOk (n : Nat) (ρ : Env) : Prop := ∀ x, OkSub n (ρ x)
theorem EnvOk.up {n : Nat} {ρ : Env} (h : EnvOk n ρ) {X : List Nat} (hX : OkSub n X) (x : Nat) : EnvOk n (up ρ x X) := fun y => by
  unfold PG.up; split
  · exact hX
  · exact h y
def Wd.way (w : Wd) (j k : Nat) : List Nat := (w.ways.getD j []).getD k []
def sem (w : Wd) : Fm → Env → List Nat
  | .yes, _ => List.range w.n
  | .no, _ => []
  | .is i, _ => canon w.n fun k => decide (k ∈ w.marks.getD i [])
  | .isnt i, _ => canon w.n fun k => !decide (k ∈ w.marks.getD i [])
  | .name x, ρ => ρ x
  | .both a b, ρ => canon w.n fun k => decide (k ∈ sem w a ρ) && decide (k ∈ sem w b ρ)
  | .either a b, ρ => canon w.n fun k => decide (k ∈ sem w a ρ) || decide (k ∈ sem w b ρ)
  | .some j a, ρ => canon w.n fun k => (w.way j k).any fun g => decide (g ∈ sem w a ρ)
  | .all j a, ρ => canon w.n fun k => (w.way j k).all fun g => decide (g ∈ sem w a ρ)
  | .least x a, ρ => it (fun X => sem w a (up ρ x X)) w.n []
  | .greatest x a, ρ => it (fun X => sem w a (up ρ x X)) w.n (List.range w.n)
theorem it_ok {n : Nat} {f : List Nat → List Nat} (hf : ∀ X, OkSub n X → OkSub n (f X)) {x : List Nat} (hx : OkSub n x) : ∀ t, OkSub n (it f t x)
  | 0 => hx
  | t + 1 => hf _ (it_ok hf hx t)
theorem sem_ok (w : Wd) : ∀ (f : Fm) (ρ : Env), EnvOk w.n ρ → OkSub w.n (sem w f ρ)
  | .yes, _, _ => range_ok _
  | .no, _, _ => nil_ok _
  | .is _, _, _ => canon_ok _ _
  | .isnt _, _, _ => canon_ok _ _
  | .name x, _, h => h x
  | .both _ _, _, _ => canon_ok _ _
  | .either _ _, _, _ => canon_ok _ _
  | .some _ _, _, _ => canon_ok _ _
  | .all _ _, _, _ => canon_ok _ _
  | .least x a, ρ, h => it_ok (fun X hX => sem_ok w a _ (h.up hX x)) (nil_ok _) _
  | .greatest x a, ρ, h => it_ok (fun X hX => sem_ok w a _ (h.up hX x)) (range_ok _) _
theorem it_mono {f g : List Nat → List Nat} (h : ∀ X Y, Sub X Y → Sub (f X) (g Y)) {x y : List Nat} (hx : Sub x y) : ∀ t, Sub (it f t x) (it g t y)
  | 0 => hx
  | t + 1 => h _ _ (it_mono h hx t)
theorem up_mono {ρ ρ' : Env} (h : ∀ x, Sub (ρ x) (ρ' x)) {X Y : List Nat} (hX : Sub X Y) (x y : Nat) : Sub (up ρ x X y) (up ρ' x Y y) := by
  unfold up; split
  · exact hX
  · exact h y
theorem sem_mono (w : Wd) : ∀ (f : Fm) (ρ ρ' : Env), (∀ x, Sub (ρ x) (ρ' x)) → Sub (sem w f ρ) (sem w f ρ')
  | .yes, _, _, _ => fun _ h => h
  | .no, _, _, _ => fun _ h => h
  | .is _, _, _, _ => fun _ h => h
  | .isnt _, _, _, _ => fun _ h => h
  | .name x, _, _, h => h x
  | .both a b, ρ, ρ', h => fun k hk => by
    have ha := sem_mono w a ρ ρ' h k
    have hb := sem_mono w b ρ ρ' h k
    simp only [sem, mem_canon, Bool.and_eq_true, decide_eq_true_eq] at hk ⊢
    exact ⟨hk.1, ha hk.2.1, hb hk.2.2⟩
  | .either a b, ρ, ρ', h => fun k hk => by
    have ha := sem_mono w a ρ ρ' h k
    have hb := sem_mono w b ρ ρ' h k
    simp only [sem, mem_canon, Bool.or_eq_true, decide_eq_true_eq] at hk ⊢
    exact ⟨hk.1, hk.2.imp ha hb⟩
  | .some j a, ρ, ρ', h => fun k hk => by
    have ha := sem_mono w a ρ ρ' h
    simp only [sem, mem_canon, List.any_eq_true, decide_eq_true_eq] at hk ⊢
    obtain ⟨h1, g, h2, h3⟩ := hk
    exact ⟨h1, g, h2, ha g h3⟩
  | .all j a, ρ, ρ', h => fun k hk => by
    have ha := sem_mono w a ρ ρ' h
    simp only [sem, mem_canon, List.all_eq_true, decide_eq_true_eq] at hk ⊢
    exact ⟨hk.1, fun g hg => ha g (hk.2 g hg)⟩
  | .least x a, ρ, ρ', h => it_mono (fun X Y hX => sem_mono w a _ _ (up_mono h hX x)) (fun _ h => h) _
  | .greatest x a, ρ, ρ', h => it_mono (fun X Y hX => sem_mono w a _ _ (up_mono h hX x)) (fun _ h => h) _
/-- one round of a fixed point -/
def rnd (w : Wd) (a : Fm) (ρ : Env) (x : Nat) (X : List Nat) : List Nat := sem w a (up ρ x X)
theorem rnd_mono (w : Wd) (a : Fm) (ρ : Env) (x : Nat) {X Y : List Nat} (h : Sub X Y) : Sub (rnd w a ρ x X) (rnd w a ρ x Y) := sem_mono w a _ _ (up_mono (fun _ _ h => h) h x)
theorem rnd_ok {w : Wd} {a : Fm} {ρ : Env} (hρ : EnvOk w.n ρ) (x : Nat) {X : List Nat} (h : OkSub w.n X) : OkSub w.n (rnd w a ρ x X) := sem_ok w a _ (hρ.up h x)
theorem Sub.len {n : Nat} {xs ys : List Nat} (hx : OkSub n xs) (h : Sub xs ys) : xs.length ≤ ys.length := SD.subset_len hx.nodup h
theorem Sub.eq {n : Nat} {xs ys : List Nat} (hx : OkSub n xs) (hy : OkSub n ys) (h : Sub xs ys) (l : ys.length ≤ xs.length) : xs = ys :=
  hx.ext hy fun j => ⟨h j, SD.subset_back hx.nodup h (Nat.le_antisymm (h.len hx) l) j⟩
section
variable {n : Nat} {f : List Nat → List Nat}
theorem it_up (hm : ∀ X Y, Sub X Y → Sub (f X) (f Y)) (t : Nat) : Sub (it f t []) (it f (t + 1) []) := by
  induction t with
  | zero => exact fun k hk => by cases hk
  | succ t ih => exact hm _ _ ih
theorem it_down (hm : ∀ X Y, Sub X Y → Sub (f X) (f Y)) (ho : ∀ X, OkSub n X → OkSub n (f X)) (t : Nat) : Sub (it f (t + 1) (List.range n)) (it f t (List.range n)) := by
  induction t with
  | zero => exact fun k hk => List.mem_range.mpr ((ho _ (range_ok n)).2 k hk)
  | succ t ih => exact hm _ _ ih
theorem up_rest (hm : ∀ X Y, Sub X Y → Sub (f X) (f Y)) (ho : ∀ X, OkSub n X → OkSub n (f X)) : it f (n + 1) [] = it f n [] := by
  refine it_rest List.length (fun t => (it_ok ho (nil_ok n) t).le) fun t h => ?_
  have a := it_ok ho (nil_ok n) t
  have b := it_ok ho (nil_ok n) (t + 1)
  have s := it_up hm t
  rcases Nat.lt_or_ge (it f t []).length (it f (t + 1) []).length with q | q
  · exact q
  · exact absurd (s.eq a b q).symm h
theorem down_rest (hm : ∀ X Y, Sub X Y → Sub (f X) (f Y)) (ho : ∀ X, OkSub n X → OkSub n (f X)) : it f (n + 1) (List.range n) = it f n (List.range n) := by
  refine it_rest (fun X => n - X.length) (fun t => Nat.sub_le _ _) fun t h => ?_
  have a := it_ok ho (range_ok n) t
  have b := it_ok ho (range_ok n) (t + 1)
  have s := it_down hm ho t
  have := a.le
  rcases Nat.lt_or_ge (it f (t + 1) (List.range n)).length (it f t (List.range n)).length with q | q
  · omega
  · exact absurd (s.eq b a q) h
/-- the least is below all that the round makes no greater -/
theorem it_least (hm : ∀ X Y, Sub X Y → Sub (f X) (f Y)) {X : List Nat} (h : Sub (f X) X) (t : Nat) : Sub (it f t []) X := by
  induction t with
  | zero => exact fun k hk => by cases hk
  | succ t ih => exact fun k hk => h k (hm _ _ ih k hk)
theorem it_great (hm : ∀ X Y, Sub X Y → Sub (f X) (f Y)) {X : List Nat} (hX : OkSub n X) (h : Sub X (f X)) (t : Nat) : Sub X (it f t (List.range n)) := by
  induction t with
  | zero => exact fun k hk => List.mem_range.mpr (hX.2 k hk)
  | succ t ih => exact fun k hk => hm _ _ ih k (h k hk)
end
/-- all names of a saying are in sc -/
def Sc (L0 L1 : Nat) : List Nat → Fm → Prop
  | _, .yes => True
  | _, .no => True
  | _, .is i => i < L0
  | _, .isnt i => i < L0
  | sc, .name x => x ∈ sc
  | sc, .both a b => Sc L0 L1 sc a ∧ Sc L0 L1 sc b
  | sc, .either a b => Sc L0 L1 sc a ∧ Sc L0 L1 sc b
  | sc, .some j a => j < L1 ∧ Sc L0 L1 sc a
  | sc, .all j a => j < L1 ∧ Sc L0 L1 sc a
  | sc, .least x a => Sc L0 L1 (x :: sc) a
  | sc, .greatest x a => Sc L0 L1 (x :: sc) a
theorem OkF.sc {L0 L1 : Nat} : ∀ (f : Fm) (kn fr sc : List Nat), OkF L0 L1 kn fr f → (∀ x ∈ kn, x ∈ sc) → (∀ x ∈ fr, x ∈ sc) → Sc L0 L1 sc f
  | .yes, _, _, _, _, _, _ => trivial
  | .no, _, _, _, _, _, _ => trivial
  | .is _, _, _, _, h, _, _ => h
  | .isnt _, _, _, _, h, _, _ => h
  | .name x, _, _, _, h, _, h2 => h2 x h
  | .both a b, kn, fr, sc, h, h1, h2 => ⟨OkF.sc a kn fr sc h.1 h1 h2, OkF.sc b kn fr sc h.2 h1 h2⟩
  | .either a b, kn, fr, sc, h, h1, h2 => ⟨OkF.sc a kn fr sc h.1 h1 h2, OkF.sc b kn fr sc h.2 h1 h2⟩
  | .some j a, kn, fr, sc, h, h1, h2 => ⟨h.1, OkF.sc a kn kn sc h.2 h1 h1⟩
  | .all j a, kn, fr, sc, h, h1, h2 => ⟨h.1, OkF.sc a kn kn sc h.2 h1 h1⟩
  | .least x a, kn, fr, sc, h, h1, h2 => OkF.sc a (kn ++ [x]) fr (x :: sc) h (fun y hy => by
      rw [List.mem_append, List.mem_singleton] at hy
      exact hy.elim (fun q => List.mem_cons_of_mem _ (h1 y q)) fun q => q ▸ List.mem_cons_self) fun y hy => List.mem_cons_of_mem _ (h2 y hy)
  | .greatest x a, kn, fr, sc, h, h1, h2 => OkF.sc a (kn ++ [x]) fr (x :: sc) h (fun y hy => by
      rw [List.mem_append, List.mem_singleton] at hy
      exact hy.elim (fun q => List.mem_cons_of_mem _ (h1 y q)) fun q => q ▸ List.mem_cons_self) fun y hy => List.mem_cons_of_mem _ (h2 y hy)
end PG
/-! SP5: found_places computes what a saying says. -/
namespace PG
open PySem L2 SD
theorem enc_at {xs : List Nat} {k : Nat} (h : k < xs.length) : atI (xs.map fun k : Nat => D.int (k : Nat)) (k : Int) = some (.int (xs[k] : Nat)) := by
  rw [atI_n, List.getElem?_map, List.getElem?_eq_getElem h]; rfl
theorem mark_at {L0 L1 : Nat} {w : Wd} (h : OkW L0 L1 w) {i : Nat} (hi : i < L0) : atI (w.marks.map encP) (i : Int) = some (encP (w.marks.getD i [])) ∧ OkSub w.n (w.marks.getD i []) := by
  have hl : i < w.marks.length := by rw [h.marks]; exact hi
  refine ⟨?_, ?_⟩
  · rw [atI_n, List.getElem?_map, List.getElem?_eq_getElem hl, List.getD_eq_getElem?_getD, List.getElem?_eq_getElem hl]; rfl
  · rw [List.getD_eq_getElem?_getD, List.getElem?_eq_getElem hl]; exact h.mark _ (List.getElem_mem hl)
theorem way_at {L0 L1 : Nat} {w : Wd} (h : OkW L0 L1 w) {j : Nat} (hj : j < L1) : ∃ r, atI (w.ways.map encR) (j : Int) = some (encR r) ∧ r.length = w.n ∧ ∀ k, k < w.n → atI (r.map encP) (k : Int) = some (encP (w.way j k)) ∧ OkSub w.n (w.way j k) := by
  have hl : j < w.ways.length := by rw [h.ways]; exact hj
  refine ⟨w.ways[j], ?_, h.rows _ (List.getElem_mem hl), fun k hk => ?_⟩
  · rw [atI_n, List.getElem?_map, List.getElem?_eq_getElem hl]; rfl
  · have hk' : k < w.ways[j].length := by rw [h.rows _ (List.getElem_mem hl)]; exact hk
    have e : w.way j k = w.ways[j][k] := by
      unfold Wd.way
      rw [List.getD_eq_getElem?_getD, List.getD_eq_getElem?_getD, List.getElem?_eq_getElem hl]
      show (w.ways[j][k]?).getD [] = _
      rw [List.getElem?_eq_getElem hk']; rfl
    rw [e, atI_n, List.getElem?_map, List.getElem?_eq_getElem hk']
    exact ⟨rfl, h.row _ (List.getElem_mem hl) _ (List.getElem_mem hk')⟩
theorem flat_nat (xs : List Nat) : (xs.map fun k : Nat => D.int (k : Nat)).all flatD = true := by
  rw [List.all_eq_true]
  intro x hx
  obtain ⟨k, _, rfl⟩ := List.mem_map.mp hx
  rfl
theorem mem_nat {xs : List Nat} {k : Nat} : decide (D.int (k : Nat) ∈ xs.map fun k : Nat => D.int (k : Nat)) = decide (k ∈ xs) := by
  rw [decide_eq_decide, List.mem_map]
  constructor
  · rintro ⟨j, hj, e⟩
    have : j = k := by injection e with e; omega
    exact this ▸ hj
  · exact fun h => ⟨k, h, rfl⟩
theorem dict_ext {S S' : Store} (e : Ext S S') {r : Nat} {kvs : List (D × D)} (h : dictD S (.ref r) = some kvs) : dictD S' (.ref r) = some kvs := by
  show dicC S'[r]? = _
  rcases dicC_or h with a | a <;> rw [e _ _ a] <;> rfl
/-- a set in the store -/
theorem setD_in {S : Store} {n : Nat} {ks : List Nat} (e : S[n]? = some (.dct (setD ks))) : dictD S (.ref n) = some (setD ks) := by
  show dicC S[n]? = _
  rw [e]; rfl
theorem leads_spec {gs ks : List Nat} {n : Nat} {b : Bool} {S : Store} {Q : PD} (hg : gs.length ≤ 100000) (e : S[n]? = some (.dct (setD ks))) (h : ∀ S', Ext S S' → Q (.bl (if b = true then gs.any fun g => decide (g ∈ ks) else gs.all fun g => decide (g ∈ ks))) S') :
    F_leads [encP gs, .ref n, .bl b] S Q := by
  refine r_fn rfl ?_
  unfold b_leads
  have lc : ∀ (R : Store → Prop), (∀ S', Ext S S' → S'[S.length]? = some (.lst (gs.map fun g => .bl (decide (g ∈ ks)))) → R S') → (gs.map fun k : Nat => D.int (k : Nat)).length ≤ sizeLine →
      lcD Always (gNm 3) tYesD (eOp (inF false) (eVar 3) (eVar 1)) S.length R [some (encP gs), some (.ref n), some (.bl b), none] (gs.map fun k : Nat => D.int (k : Nat)) (S ++ [.lst []]) := fun R hR few => by
    refine lc_map (fun x => match x with | .int i => .bl (decide (i.toNat ∈ ks)) | _ => .non) few (fun _ _ => trivial) ?_ ?_
    · intro x hx S1 P e1 hP
      obtain ⟨g, hg, rfl⟩ := List.mem_map.mp hx
      walk_at "s"
      refine r_inD (setD_in (e1 _ _ e)) rfl ?_
      rw [Bool.xor_false, setD_val]
      exact hP S1 (.refl _)
    · intro S1 e1 h1
      rw [List.map_map] at h1
      refine hR S1 e1 ?_
      exact h1
  walk_at "s"
  refine ite_b (fun hb => ?_) (fun hb => ?_)
  · subst hb
    walk_at "s"
    refine r_iTup ?_
    walk_at "s"
    refine ⟨_, rfl, ?_⟩
    intro few
    refine lc _ (fun S' e1 h1 => ?_) few
    walk_at "s"
    refine ⟨gs.map fun g => decide (g ∈ ks), by show seqC S'[S.length]? = _; rw [h1, List.map_map]; rfl, ⟨_, rfl⟩, ?_⟩
    have := h S' e1
    rw [if_pos rfl] at this
    rw [show (gs.any fun g => decide (g ∈ ks)) = (gs.map fun g => decide (g ∈ ks)).any id by rw [List.any_map]; rfl] at this
    exact this
  · subst hb
    walk_at "s"
    refine r_iTup ?_
    walk_at "s"
    refine ⟨_, rfl, ?_⟩
    intro few
    refine lc _ (fun S' e1 h1 => ?_) few
    walk_at "s"
    refine ⟨gs.map fun g => decide (g ∈ ks), by show seqC S'[S.length]? = _; rw [h1, List.map_map]; rfl, ⟨_, rfl⟩, ?_⟩
    have := h S' e1
    rw [if_neg (by decide)] at this
    rw [show (gs.all fun g => decide (g ∈ ks)) = (gs.map fun g => decide (g ∈ ks)).all id by rw [List.all_map]; rfl] at this
    exact this
/-- the names' places in a dict -/
def Names (kvs : List (D × D)) (sc : List Nat) (ρ : Env) : Prop := ∀ x ∈ sc, valD kvs (.int (x : Nat)) = some (encP (ρ x))
/-- the wish for a set -/
def Wish (S : Store) (X : List Nat) (Q : PD) : Prop := ∀ S' r ks, Ext S S' → S.length ≤ r → S'[r]? = some (.dct (setD ks)) → ks.Nodup → (∀ j, j ∈ ks ↔ j ∈ X) → Q (.ref r) S'
theorem ext_set2 {S S1 : Store} {n : Nat} {c : Cell} (e : Ext S S1) (h : S.length ≤ n) : Ext S (S1.set n c) := e.put h
theorem it_end {α : Type} {g : α → α} {x : α} {t n : Nat} (h : it g (t + 1) x = it g t x) (hr : it g (n + 1) x = it g n x) : it g n x = it g t x := by
  rcases Nat.le_total t n with q | q
  · exact it_at h n q
  · exact (it_at hr t q).symm
theorem fix_loop {n : Nat} {g : List Nat → List Nat} {X0 : List Nat} (ho : ∀ X, OkSub n X → OkSub n (g X)) (h0 : OkSub n X0) (hr : it g (n + 1) X0 = it g n X0) {F : FnD} {dw da dpl ds : D} {df : D} {x : Nat} (hdf : df = .tup [ds, .int (x : Nat), da])
    {kvs0 : List (D × D)} (KV : List (D × D) → Prop) (hK0 : KV kvs0) (hKp : ∀ kv X, KV kv → KV (putD kv (.int (x : Nat)) (encP X))) (hKl : ∀ kv, KV kv → kv.length < 10000)
    (hF : ∀ S kn kv X Q, OkSub n X → S[kn]? = some (.dct kv) → KV kv → valD kv (.int (x : Nat)) = some (encP X) → Wish S (g X) Q → F [dw, da, .ref kn] S Q)
    {S0 S : Store} {kn rn : Nat} {ks : List Nat} (e0 : Ext S0 S) (l1 : S0.length ≤ kn) (hk : S[kn]? = some (.dct kvs0)) (l2 : S0.length ≤ rn) (hr0 : S[rn]? = some (.dct (setD ks))) (ne : rn ≠ kn) (nd : ks.Nodup) (hks : ∀ j, j ∈ ks ↔ j ∈ X0) {Q : PD} (hQ : Wish S0 (it g n X0) Q) {E : EndsD} (hE : E.rt = Q) :
    sSeq (sWhile (tVal (eOp (eqF true) (eVar 8) (eVar 9))) (sSeq (sAsg (eVar 8) (gNm 9))
  (sSeq (sAsg (eCB tupleF (aCons (eCB sortedF (aCons (eCB listF (aCons (eVar 8) aNil)) aNil)) aNil)) (gSubD (eVar 7) (eOp ixF (eVar 1) (eC (.int 1)))))
  (sAsg (eCall F (aCons (eVar 0) (aCons (eOp ixF (eVar 1) (eC (.int 2))) (aCons (eVar 7) aNil)))) (gNm 8)))))
  (sRet (eVar 8)) E [some dw, some df, some dpl, some ds, none, none, none, some (.ref kn), some (.ref rn), some .non, none] S := by
  subst hdf hE
  refine r_seq ?_
  have key : ∀ σ S', (∃ rn ks b t, σ = [some dw, some (.tup [ds, .int (x : Nat), da]), some dpl, some ds, none, none, none, some (.ref kn), some (.ref rn), some b, none] ∧ Ext S0 S' ∧ S0.length ≤ rn ∧ S'[rn]? = some (.dct (setD ks)) ∧ ks.Nodup ∧ (∀ j, j ∈ ks ↔ j ∈ it g t X0) ∧ it g n X0 = it g t X0) → sRet (eVar 8) E σ S' := by
    rintro σ S' ⟨rn, ks, b, t, rfl, e1, l3, h1, h2, h3, h4⟩
    walk_at "s"
    refine hQ _ _ ks e1 l3 h1 h2 ?_
    rw [h4]; exact h3
  refine while_inv (fun k σ S' => ∃ t rn ks b kv, t + k = n + 2 ∧ σ = [some dw, some (.tup [ds, .int (x : Nat), da]), some dpl, some ds, none, none, none, some (.ref kn), some (.ref rn), some b, none] ∧ Ext S0 S' ∧ S0.length ≤ rn ∧ S'[rn]? = some (.dct (setD ks)) ∧ rn ≠ kn ∧ ks.Nodup ∧ (∀ j, j ∈ ks ↔ j ∈ it g t X0) ∧
    S'[kn]? = some (.dct kv) ∧ KV kv ∧ ((t = 0 ∧ b = .non) ∨ ∃ t' rb kb, t = t' + 1 ∧ b = .ref rb ∧ S'[rb]? = some (.dct (setD kb)) ∧ kb.Nodup ∧ ∀ j, j ∈ kb ↔ j ∈ it g t' X0)) (n + 2) ⟨0, rn, ks, .non, kvs0, by omega, rfl, e0, l2, hr0, ne, nd, hks, hk, hK0, .inl ⟨rfl, rfl⟩⟩ ?_
  rintro k σ S1 R ⟨t, rn, ks, b, kv, htk, rfl, e1, l3, h1, ne1, n1, i1, hk1, hkv, hb⟩ hR
  have body : 0 < k → (sSeq (sAsg (eVar 8) (gNm 9))
  (sSeq (sAsg (eCB tupleF (aCons (eCB sortedF (aCons (eCB listF (aCons (eVar 8) aNil)) aNil)) aNil)) (gSubD (eVar 7) (eOp ixF (eVar 1) (eC (.int 1)))))
  (sAsg (eCall F (aCons (eVar 0) (aCons (eOp ixF (eVar 1) (eC (.int 2))) (aCons (eVar 7) aNil)))) (gNm 8)))) { nx := R, rt := E.rt, bk := sRet (eVar 8) E, ct := R } [some dw, some (.tup [ds, .int (x : Nat), da]), some dpl, some ds, none, none, none, some (.ref kn), some (.ref rn), some b, none] S1 := by
    intro hk0
    walk_at "s"
    refine r_listD h1 ?_
    rw [setD_keys]
    walk_at "s"
    refine r_sorted (by show seqC (S1 ++ _)[S1.length]? = _; rw [new_at]; rfl) n1 fun ls s1 s2 => ?_
    have xe : ls = it g t X0 := by
      refine sub_ext (n := n) s1 (it_ok ho h0 t).1 fun j => ?_
      rw [s2, i1]
    subst xe
    walk_at "s"
    refine r_tuple (by show seqC ((S1 ++ _) ++ _)[(S1 ++ _).length]? = _; rw [new_at]; rfl) ?_
    walk_at "s"
    have e2 : Ext S1 ((S1 ++ [Cell.lst (ks.map fun k : Nat => D.int (k : Nat))]) ++ [Cell.lst ((it g t X0).map fun k : Nat => D.int (k : Nat))]) := (Ext.app _ _).trans (Ext.app _ _)
    refine r_setD1 (e2 _ _ hk1) rfl (by have := hKl kv hkv; simp [sizeLine]; omega) fun S2 q2 o2 => ?_
    walk_at "s"
    refine hF S2 kn _ (it g t X0) _ (it_ok ho h0 t) q2 (hKp kv _ hkv) (putD_self _ _ _) ?_
    intro S3 r3 k3 e3 l4 h3 n3 i3
    walk_at "s"
    have e4 : Ext S0 S2 := fun i c hi => by
      have : i < S0.length := (List.getElem?_eq_some_iff.mp hi).1
      rw [o2.off i (by omega)]
      exact e2 _ _ (e1 _ _ hi)
    have l5 : S1.length ≤ S2.length := by rw [o2.len]; exact e2.le
    have hkl : kn < S1.length := (List.getElem?_eq_some_iff.mp hk1).1
    have hrl : rn < S1.length := (List.getElem?_eq_some_iff.mp h1).1
    refine hR (k - 1) _ _ (by omega) ⟨t + 1, r3, k3, .ref rn, _, by omega, rfl, e4.trans e3, Nat.le_trans e4.le l4, h3, by omega, n3, i3, e3 _ _ q2, hKp kv _ hkv, .inr ⟨t, rn, ks, rfl, rfl, e3 _ _ ?_, n1, i1⟩⟩
    rw [o2.off rn ne1]
    exact e2 _ _ h1
  walk_at "s"
  rcases hb with ⟨rfl, rfl⟩ | ⟨t', rb, kb, rfl, rfl, h2, n2, i2⟩
  · refine r_neDN h1 ?_
    exact r_bl (r_ifT rfl (body (by omega)))
  · refine r_neDD h1 h2 (.inl fun p hp => ?_) ?_
    · rw [List.mem_append] at hp
      exact hp.elim (setD_hom _ p) (setD_hom _ p)
    walk_at "s"
    have same : sameD (setD ks) (setD kb) = true ↔ it g (t' + 1) X0 = it g t' X0 := by
      rw [setD_same n1 n2]
      constructor
      · intro h
        exact (it_ok ho h0 _).ext (it_ok ho h0 _) fun j => by rw [← i1, ← i2]; exact h j
      · intro h j
        rw [i1, i2, h]
    refine ite_b (fun hb => ?_) (fun hb => ?_)
    · refine body ?_
      by_cases hk : k = 0
      · subst hk
        have e1 := it_at hr (t' + 1) (by omega)
        have e2 := it_at hr t' (by omega)
        have := same.mpr (e1.trans e2.symm)
        rw [this] at hb
        cases hb
      · omega
    · have hb : sameD (setD ks) (setD kb) = true := by simpa using hb
      have := same.mp hb
      refine key _ _ ⟨rn, ks, _, t' + 1, rfl, e1, l3, h1, n1, i1, ?_⟩
      rw [it_end this hr, this]
theorem found_spec {L0 L1 : Nat} {w : Wd} (hw : OkW L0 L1 w) (hn : w.n ≤ 1000) : ∀ (k : Nat) (f : Fm) (sc : List Nat) (ρ : Env) (S : Store) (pl : Nat) (kvs : List (D × D)) (Q : PD), f.dp ≤ k → Sc L0 L1 sc f → EnvOk w.n ρ → dictD S (.ref pl) = some kvs → kvs.length + k ≤ 1000 → Names kvs sc ρ →
    Wish S (sem w f ρ) Q → F_found_places k [encW w, encF f, .ref pl] S Q
  | 0, f, _, _, _, _, _, _, hd, _, _, _, _, _, _ => by cases f <;> simp [Fm.dp] at hd
  | k + 1, f, sc, ρ, S, pl, kvs, Q, hd, hs, hρ, hpl, hk, hN, hQ => by
    refine r_fn rfl ?_
    unfold b_found_places
    cases f with
    | yes =>
      walk_at "s"
      refine r_rg (by omega) (by omega) fun few => ?_
      rw [rng_map']
      refine dc_set (List.range w.n) (fun _ => true) (by simp [sizeLine]; omega) (fun _ => rfl) (fun _ _ => trivial) (fun x hx S1 P e1 hP => ?_) fun S1 ks e1 h1 h2 h3 => ?_
      · walk_at "s"
        exact hP _ (.refl _)
      · walk_at "s"
        exact hQ S1 _ ks e1 (Nat.le_refl _) h1 h2 fun j => by rw [h3]; simp [sem]
    | no =>
      walk_at "s"
      refine r_rg (by omega) (by omega) fun few => ?_
      rw [rng_map']
      refine dc_set (List.range w.n) (fun _ => false) (by simp [sizeLine]; omega) (fun _ => rfl) (fun _ _ => trivial) (fun x hx S1 P e1 hP => ?_) fun S1 ks e1 h1 h2 h3 => ?_
      · walk_at "s"
        exact hP _ (.refl _)
      · walk_at "s"
        exact hQ S1 _ ks e1 (Nat.le_refl _) h1 h2 fun j => by rw [h3]; simp [sem]
    | is i =>
      obtain ⟨m1, m2⟩ := mark_at hw hs
      walk_at "s"
      refine r_rg (by omega) (by omega) fun few => ?_
      rw [rng_map']
      refine dc_set (List.range w.n) (fun k => decide (k ∈ w.marks.getD i [])) (by simp [sizeLine]; omega) (fun _ => rfl) (fun _ _ => trivial) (fun x hx S1 P e1 hP => ?_) fun S1 ks e1 h1 h2 h3 => ?_
      · walk_at "s"
        refine r_ixT m1 ?_
        refine r_inT rfl (flat_nat _) ?_
        rw [mem_nat]
        walk_at "s"
        have := hP S1 (.refl _)
        simpa using this
      · walk_at "s"
        exact hQ S1 _ ks e1 (Nat.le_refl _) h1 h2 fun j => by rw [h3]; simp [sem, mem_canon]
    | isnt i =>
      obtain ⟨m1, m2⟩ := mark_at hw hs
      walk_at "s"
      refine r_rg (by omega) (by omega) fun few => ?_
      rw [rng_map']
      refine dc_set (List.range w.n) (fun k => !decide (k ∈ w.marks.getD i [])) (by simp [sizeLine]; omega) (fun _ => rfl) (fun _ _ => trivial) (fun x hx S1 P e1 hP => ?_) fun S1 ks e1 h1 h2 h3 => ?_
      · walk_at "s"
        refine r_ixT m1 ?_
        refine r_inT rfl (flat_nat _) ?_
        rw [mem_nat]
        walk_at "s"
        have := hP S1 (.refl _)
        simpa [show (Str.ofString "isnt" = Str.ofString "is") = False from by simp; decide] using this
      · walk_at "s"
        exact hQ S1 _ ks e1 (Nat.le_refl _) h1 h2 fun j => by rw [h3]; simp [sem, mem_canon]
    | name x =>
      have hx := (hρ x).le
      walk_at "s"
      refine r_iTup ?_
      walk_at "s"
      refine r_ixD hpl rfl (hN x hs) ?_
      refine ⟨_, rfl, ?_⟩
      intro few
      refine dc_set (ρ x) (fun _ => true) (by simp [sizeLine]; omega) (fun _ => rfl) (fun _ _ => trivial) (fun x hx S1 P e1 hP => ?_) fun S1 ks e1 h1 h2 h3 => ?_
      · walk_at "s"
        exact hP _ (.refl _)
      · walk_at "s"
        exact hQ S1 _ ks e1 (Nat.le_refl _) h1 h2 fun j => by rw [h3]; simp [sem]
    | both a b =>
      have hd' : max a.dp b.dp + 1 ≤ k + 1 := hd
      walk_at "s"
      refine found_spec hw hn k a sc ρ S pl kvs _ (by omega) hs.1 hρ hpl (by omega) hN fun S1 r1 k1 e1 l1 h1 n1 i1 => ?_
      walk_at "s"
      refine found_spec hw hn k b sc ρ S1 pl kvs _ (by omega) hs.2 hρ (dict_ext e1 hpl) (by omega) hN fun S2 r2 k2 e2 l2 h2 n2 i2 => ?_
      walk_at "s"
      have h1' := e2 _ _ h1
      have ne : r1 ≠ r2 := fun e => by
        have := (List.getElem?_eq_some_iff.mp h1).1
        omega
      refine ⟨r1, _, rfl, h1', ?_⟩
      have sub1 : ∀ j ∈ k1, j < w.n := fun j hj => (sem_ok w a ρ hρ).2 j ((i1 j).mp hj)
      have hk1 : k1.length ≤ w.n := by
        have := subset_len (ls := List.range w.n) n1 fun j hj => List.mem_range.mpr (sub1 j hj)
        simpa using this
      refine ⟨r1, _, rfl, set_at h1', ?_⟩
      rw [setD_keys]
      intro few
      refine dc_set k1 (fun j => decide (j ∈ k2)) (by simp [sizeLine]; omega) (fun _ => rfl) (fun S3 e3 => e3 _ _ (set_at h1')) (fun x hx S3 P e3 hP => ?_) fun S3 ks e3 h3 n3 i3 => ?_
      · walk_at "s"
        have q : S3[r2]? = some (.dct (setD k2)) := e3 _ _ ((set_off ne).trans h2)
        refine r_inD (setD_in q) rfl ?_
        rw [Bool.xor_false, setD_val]
        walk_at "s"
        exact hP _ (.refl _)
      · have l3 : (S2.set r1 (.lck (setD k1))).length = S2.length := List.length_set
        refine ⟨e3 _ _ (set_at h1'), ?_⟩
        walk_at "s"
        have e4 : Ext S (S3.set r1 (.dct (setD k1))) := by
          refine Ext.put (fun i c hi => ?_) l1
          have hi' : i ≠ r1 := fun e => by
            have := (List.getElem?_eq_some_iff.mp hi).1
            omega
          exact e3 _ _ ((set_off (Ne.symm hi')).trans (e2 _ _ (e1 _ _ hi)))
        refine hQ _ _ ks e4 ?_ ?_ n3 fun j => ?_
        · rw [l3]; exact (e1.trans e2).le
        · rw [l3] at h3 ⊢
          have : r1 < S2.length := (List.getElem?_eq_some_iff.mp h1').1
          rw [set_off (by omega)]
          exact h3
        · rw [i3, i1]
          simp only [sem, mem_canon, Bool.and_eq_true, decide_eq_true_eq, i2]
          exact ⟨fun ⟨u, v⟩ => ⟨(sem_ok w a ρ hρ).2 j u, u, v⟩, fun ⟨_, u, v⟩ => ⟨u, v⟩⟩
    | either a b =>
      have hd' : max a.dp b.dp + 1 ≤ k + 1 := hd
      walk_at "s"
      refine found_spec hw hn k a sc ρ S pl kvs _ (by omega) hs.1 hρ hpl (by omega) hN fun S1 r1 k1 e1 l1 h1 n1 i1 => ?_
      walk_at "s"
      refine found_spec hw hn k b sc ρ S1 pl kvs _ (by omega) hs.2 hρ (dict_ext e1 hpl) (by omega) hN fun S2 r2 k2 e2 l2 h2 n2 i2 => ?_
      walk_at "s"
      have h1' := e2 _ _ h1
      have ne : r1 ≠ r2 := fun e => by
        have := (List.getElem?_eq_some_iff.mp h1).1
        omega
      refine r_tyDc h2 ?_
      walk_at "s"
      have hk1 : k1.length ≤ w.n := by
        have := subset_len (ls := List.range w.n) n1 fun j hj => List.mem_range.mpr ((sem_ok w a ρ hρ).2 j ((i1 j).mp hj))
        simpa using this
      have hk2 : k2.length ≤ w.n := by
        have := subset_len (ls := List.range w.n) n2 fun j hj => List.mem_range.mpr ((sem_ok w b ρ hρ).2 j ((i2 j).mp hj))
        simpa using this
      obtain ⟨ms, g1, g2, g3⟩ := setD_merge k2 k1
      refine ⟨r2, r1, _, _, rfl, rfl, Ne.symm ne, h2, setD_in h1', by rw [setD_length, setD_length]; simp [sizeLine]; omega, ?_⟩
      rw [g1]
      walk_at "s"
      refine hQ _ _ ms ((e1.trans e2).put (Nat.le_trans e1.le l2)) (Nat.le_trans e1.le l2) (set_at h2) (g2 n2) fun j => ?_
      rw [g3, i1, i2]
      simp only [sem, mem_canon, Bool.or_eq_true, decide_eq_true_eq]
      constructor
      · rintro (u | u)
        · exact ⟨(sem_ok w b ρ hρ).2 j u, .inr u⟩
        · exact ⟨(sem_ok w a ρ hρ).2 j u, .inl u⟩
      · rintro ⟨_, u | u⟩
        · exact .inr u
        · exact .inl u
    | some jj a =>
      obtain ⟨rr, m1, m2, m3⟩ := way_at hw hs.1
      have hd' : a.dp + 1 ≤ k + 1 := hd
      walk_at "s"
      refine found_spec hw hn k a sc ρ S pl kvs _ (by omega) hs.2 hρ hpl (by omega) hN fun S1 r1 k1 e1 l1 h1 n1 i1 => ?_
      walk_at "s"
      refine r_rg (by omega) (by omega) fun few => ?_
      rw [rng_map']
      refine dc_set (List.range w.n) (fun k => (w.way jj k).any fun g => decide (g ∈ sem w a ρ)) (by simp [sizeLine]; omega) (fun _ => rfl) (fun _ _ => trivial) (fun x hx S2 P e2 hP => ?_) fun S2 ks e2 h2 n2 i2 => ?_
      · have hx := List.mem_range.mp hx
        obtain ⟨m4, m5⟩ := m3 x hx
        walk_at "s"
        refine r_ixT m1 ?_
        walk_at "s"
        refine r_ixT m4 ?_
        walk_at "s"
        refine leads_spec (by have := m5.le; omega) (e2 _ _ h1) fun S3 e3 => ?_
        walk_at "s"
        have := hP S3 e3
        have q : (w.way jj x).any (fun g => decide (g ∈ k1)) = (w.way jj x).any fun g => decide (g ∈ sem w a ρ) := by
          congr 1
          funext g
          rw [decide_eq_decide]
          exact i1 g
        rw [if_pos (by decide)]
        rw [q]
        exact this
      · walk_at "s"
        refine hQ _ _ ks (e1.trans e2) e1.le h2 n2 fun j => ?_
        rw [i2]
        simp only [sem, mem_canon, List.mem_range]
    | all jj a =>
      obtain ⟨rr, m1, m2, m3⟩ := way_at hw hs.1
      have hd' : a.dp + 1 ≤ k + 1 := hd
      walk_at "s"
      refine found_spec hw hn k a sc ρ S pl kvs _ (by omega) hs.2 hρ hpl (by omega) hN fun S1 r1 k1 e1 l1 h1 n1 i1 => ?_
      walk_at "s"
      refine r_rg (by omega) (by omega) fun few => ?_
      rw [rng_map']
      refine dc_set (List.range w.n) (fun k => (w.way jj k).all fun g => decide (g ∈ sem w a ρ)) (by simp [sizeLine]; omega) (fun _ => rfl) (fun _ _ => trivial) (fun x hx S2 P e2 hP => ?_) fun S2 ks e2 h2 n2 i2 => ?_
      · have hx := List.mem_range.mp hx
        obtain ⟨m4, m5⟩ := m3 x hx
        walk_at "s"
        refine r_ixT m1 ?_
        walk_at "s"
        refine r_ixT m4 ?_
        walk_at "s"
        refine leads_spec (by have := m5.le; omega) (e2 _ _ h1) fun S3 e3 => ?_
        walk_at "s"
        have := hP S3 e3
        have q : (w.way jj x).all (fun g => decide (g ∈ k1)) = (w.way jj x).all fun g => decide (g ∈ sem w a ρ) := by
          congr 1
          funext g
          rw [decide_eq_decide]
          exact i1 g
        rw [if_neg (by decide)]
        rw [q]
        exact this
      · walk_at "s"
        refine hQ _ _ ks (e1.trans e2) e1.le h2 n2 fun j => ?_
        rw [i2]
        simp only [sem, mem_canon, List.mem_range]
    | least x a =>
      have hd' : a.dp + 1 ≤ k + 1 := hd
      have hm : ∀ X Y, Sub X Y → Sub (sem w a (up ρ x X)) (sem w a (up ρ x Y)) := fun X Y h => rnd_mono w a ρ x h
      have ho : ∀ X, OkSub w.n X → OkSub w.n (sem w a (up ρ x X)) := fun X h => rnd_ok hρ x h
      have hF : ∀ S kn kv X Q, OkSub w.n X → S[kn]? = some (.dct kv) → ((∀ y ∈ sc, y ≠ x → valD kv (.int (y : Nat)) = some (encP (ρ y))) ∧ (kv.length ≤ kvs.length ∨ ((valD kv (.int (x : Nat))).isSome = true ∧ kv.length ≤ kvs.length + 1))) → valD kv (.int (x : Nat)) = some (encP X) → Wish S (sem w a (up ρ x X)) Q → F_found_places k [encW w, encF a, .ref kn] S Q := fun S kn kv X Q h1 h2 h3 h4 h5 => by
        refine found_spec hw hn k a (x :: sc) (up ρ x X) S kn kv Q (by omega) hs (hρ.up h1 x) (by show dicC S[kn]? = _; rw [h2]; rfl) (by have := h3.2; omega) ?_ h5
        intro y hy
        by_cases e : y = x
        · subst e; rw [up_self]; exact h4
        · rw [up_ne _ _ e]
          rw [List.mem_cons] at hy
          exact h3.1 y (hy.resolve_left e) e
      have hKp : ∀ kv X, ((∀ y ∈ sc, y ≠ x → valD kv (.int (y : Nat)) = some (encP (ρ y))) ∧ (kv.length ≤ kvs.length ∨ ((valD kv (.int (x : Nat))).isSome = true ∧ kv.length ≤ kvs.length + 1))) → ((∀ y ∈ sc, y ≠ x → valD (putD kv (.int (x : Nat)) (encP X)) (.int (y : Nat)) = some (encP (ρ y))) ∧ ((putD kv (.int (x : Nat)) (encP X)).length ≤ kvs.length ∨ ((valD (putD kv (.int (x : Nat)) (encP X)) (.int (x : Nat))).isSome = true ∧ (putD kv (.int (x : Nat)) (encP X)).length ≤ kvs.length + 1))) := fun kv X h => by
        refine ⟨fun y hy e => ?_, .inr ⟨by rw [putD_self]; rfl, ?_⟩⟩
        · rw [putD_ne _ _ (by intro q; injection q with q; omega)]
          exact h.1 y hy e
        · rcases h.2 with q | ⟨q1, q2⟩
          · have := length_putD kv (.int (x : Nat)) (encP X); omega
          · rw [putD_len_in q1]; exact q2
      walk_at "s"
      refine r_dictF hpl ?_
      walk_at "s"
      have hr := up_rest hm ho
      refine fix_loop (ds := .str "least") (x := x) (da := encF a) ho (nil_ok _) hr rfl _ ⟨fun y hy _ => hN y hy, .inl (Nat.le_refl _)⟩ hKp (fun kv h => by have := h.2; omega) hF (e0 := (Ext.app S _).trans (Ext.app _ _)) (Nat.le_refl _) (Ext.app _ _ _ _ (new_at S _)) (by simp) (new_at _ (.dct (setD []))) (by simp) .nil (by simp) hQ rfl
    | greatest x a =>
      have hd' : a.dp + 1 ≤ k + 1 := hd
      have hm : ∀ X Y, Sub X Y → Sub (sem w a (up ρ x X)) (sem w a (up ρ x Y)) := fun X Y h => rnd_mono w a ρ x h
      have ho : ∀ X, OkSub w.n X → OkSub w.n (sem w a (up ρ x X)) := fun X h => rnd_ok hρ x h
      have hF : ∀ S kn kv X Q, OkSub w.n X → S[kn]? = some (.dct kv) → ((∀ y ∈ sc, y ≠ x → valD kv (.int (y : Nat)) = some (encP (ρ y))) ∧ (kv.length ≤ kvs.length ∨ ((valD kv (.int (x : Nat))).isSome = true ∧ kv.length ≤ kvs.length + 1))) → valD kv (.int (x : Nat)) = some (encP X) → Wish S (sem w a (up ρ x X)) Q → F_found_places k [encW w, encF a, .ref kn] S Q := fun S kn kv X Q h1 h2 h3 h4 h5 => by
        refine found_spec hw hn k a (x :: sc) (up ρ x X) S kn kv Q (by omega) hs (hρ.up h1 x) (by show dicC S[kn]? = _; rw [h2]; rfl) (by have := h3.2; omega) ?_ h5
        intro y hy
        by_cases e : y = x
        · subst e; rw [up_self]; exact h4
        · rw [up_ne _ _ e]
          rw [List.mem_cons] at hy
          exact h3.1 y (hy.resolve_left e) e
      have hKp : ∀ kv X, ((∀ y ∈ sc, y ≠ x → valD kv (.int (y : Nat)) = some (encP (ρ y))) ∧ (kv.length ≤ kvs.length ∨ ((valD kv (.int (x : Nat))).isSome = true ∧ kv.length ≤ kvs.length + 1))) → ((∀ y ∈ sc, y ≠ x → valD (putD kv (.int (x : Nat)) (encP X)) (.int (y : Nat)) = some (encP (ρ y))) ∧ ((putD kv (.int (x : Nat)) (encP X)).length ≤ kvs.length ∨ ((valD (putD kv (.int (x : Nat)) (encP X)) (.int (x : Nat))).isSome = true ∧ (putD kv (.int (x : Nat)) (encP X)).length ≤ kvs.length + 1))) := fun kv X h => by
        refine ⟨fun y hy e => ?_, .inr ⟨by rw [putD_self]; rfl, ?_⟩⟩
        · rw [putD_ne _ _ (by intro q; injection q with q; omega)]
          exact h.1 y hy e
        · rcases h.2 with q | ⟨q1, q2⟩
          · have := length_putD kv (.int (x : Nat)) (encP X); omega
          · rw [putD_len_in q1]; exact q2
      walk_at "s"
      refine r_dictF hpl ?_
      walk_at "s"
      refine r_rg (by omega) (by omega) fun few => ?_
      rw [rng_map']
      have hr := down_rest hm ho
      refine dc_set (List.range w.n) (fun _ => true) (by simp [sizeLine]; omega) (fun _ => rfl) (fun _ _ => trivial) (fun x hx S1 P e1 hP => ?_) fun S1 ks e1 h1 h2 h3 => ?_
      · walk_at "s"
        exact hP _ (.refl _)
      · walk_at "s"
        refine fix_loop (ds := .str "greatest") (x := x) (da := encF a) ho (range_ok _) hr rfl _ ⟨fun y hy _ => hN y hy, .inl (Nat.le_refl _)⟩ hKp (fun kv h => by have := h.2; omega) hF (e0 := (Ext.app S _).trans e1) (Nat.le_refl _) (e1 _ _ (new_at S _)) (by simp) h1 (by simp) h2 (fun j => by rw [h3]; simp) hQ rfl
end PG
/-! SP6: worth, places_where, round_places. -/
namespace PG
open PySem L2 SD
theorem worth_spec {L0 L1 : Nat} {w : Wd} (hw : OkW L0 L1 w) (hn : w.n ≤ 1000) {f : Fm} {sc : List Nat} {ρ : Env} {S : Store} {pl : Nat} {kvs : List (D × D)} {Q : PD} (hd : f.dp ≤ 24) (hs : Sc L0 L1 sc f) (hρ : EnvOk w.n ρ) (hpl : dictD S (.ref pl) = some kvs) (hk : kvs.length ≤ 900) (hN : Names kvs sc ρ)
    (hQ : ∀ S', Ext S S' → Q (encP (sem w f ρ)) S') : F_worth [encW w, encF f, .ref pl] S Q := by
  refine r_fn rfl ?_
  unfold b_worth
  walk_at "s"
  refine found_spec hw hn 24 f sc ρ S pl kvs _ hd hs hρ hpl (by omega) hN fun S1 r ks e1 l1 h1 n1 i1 => ?_
  walk_at "s"
  refine r_listD h1 ?_
  rw [setD_keys]
  walk_at "s"
  refine r_sorted (by show seqC (S1 ++ _)[S1.length]? = _; rw [new_at]; rfl) n1 fun ls s1 s2 => ?_
  have xe : ls = sem w f ρ := by
    refine sub_ext (n := w.n) s1 (sem_ok w f ρ hρ).1 fun j => ?_
    rw [s2, i1]
  subst xe
  walk_at "s"
  refine r_tuple (by show seqC ((S1 ++ _) ++ _)[(S1 ++ _).length]? = _; rw [new_at]; rfl) ?_
  walk_at "s"
  exact hQ _ ((e1.trans (Ext.app _ _)).trans (Ext.app _ _))
def ρ0 : Env := fun _ => []
theorem ρ0_ok (n : Nat) : EnvOk n ρ0 := fun _ => nil_ok n
theorem where_spec {L0 L1 : Nat} {w : Wd} (hw : OkW L0 L1 w) (hn : w.n ≤ 1000) {f : Fm} {S : Store} {Q : PD} (hd : f.dp ≤ 24) (hs : Sc L0 L1 [] f) (hQ : ∀ S', Ext S S' → Q (encP (sem w f ρ0)) S') : F_places_where [encW w, encF f] S Q := by
  refine r_fn rfl ?_
  unfold b_places_where
  walk_at "s"
  refine worth_spec hw hn hd hs (ρ0_ok _) (kvs := []) (by show dicC (S ++ _)[S.length]? = _; rw [new_at]; rfl) (by decide) (fun x hx => by cases hx) fun S' e => ?_
  exact hQ S' ((Ext.app _ _).trans e)
/-- {x: places} -/
theorem disp_spec {σ : Slots} {fk fv : FE} {x : Nat} {X : List Nat} {S : Store} {Q : PD} (hk : ∀ S P, P (.int (x : Nat)) S → fk σ S P) (hv : ∀ S1 P, Ext S S1 → P (encP X) S1 → fv σ S1 P)
    (h : ∀ S', Ext S S' → S'[S.length]? = some (.dct [(.int (x : Nat), encP X)]) → Q (.ref S.length) S') : eDispD [(fk, fv)] σ S Q := by
  show fk σ (S ++ [.dct []]) _
  refine hk _ _ ?_
  refine hv _ _ (Ext.app S _) ?_
  show _ ∧ _
  refine ⟨new_at S _, by simp, ?_, ?_⟩
  · intro p hp
    rw [List.mem_singleton] at hp
    subst hp; rfl
  · exact h _ ((Ext.app S _).put (Nat.le_refl _)) (set_at (new_at S _))
theorem one_name (x : Nat) (X : List Nat) : Names [(.int (x : Nat), encP X)] [x] (up ρ0 x X) := fun y hy => by
  rw [List.mem_singleton] at hy
  subst hy
  rw [up_self]
  unfold valD
  rw [List.find?_cons_of_pos (by simp)]; rfl
theorem worth1_spec {L0 L1 : Nat} {w : Wd} (hw : OkW L0 L1 w) (hn : w.n ≤ 1000) {f : Fm} {x : Nat} {X : List Nat} (hX : OkSub w.n X) {S : Store} {pl : Nat} {Q : PD} (hd : f.dp ≤ 24) (hs : Sc L0 L1 [x] f) (hpl : S[pl]? = some (.dct [(.int (x : Nat), encP X)]))
    (hQ : ∀ S', Ext S S' → Q (encP (rnd w f ρ0 x X)) S') : F_worth [encW w, encF f, .ref pl] S Q :=
  worth_spec hw hn hd hs ((ρ0_ok _).up hX x) (by show dicC S[pl]? = _; rw [hpl]; rfl) (by simp) (one_name x X) hQ
theorem depthAll_nats (xs : List Nat) : PyData.depthAll (toPys (xs.map fun k : Nat => D.int (k : Nat))) ≤ 1 := by
  induction xs with
  | nil => simp [toPys, PyData.depthAll]
  | cons x xs ih =>
    simp only [List.map_cons, toPys, toPy, PyData.depthAll, PyData.depth]
    omega
theorem okDs_nats (xs : List Nat) : okDs (xs.map fun k : Nat => D.int (k : Nat)) = true := by
  induction xs with
  | nil => rfl
  | cons x xs ih => rw [List.map_cons, okDs, okD, ih]; rfl
theorem plain_nats (xs : List Nat) : plainD (encP xs) = true := by
  unfold plainD encP
  rw [Bool.and_eq_true, decide_eq_true_eq]
  refine ⟨okDs_nats xs, ?_⟩
  have := depthAll_nats xs
  simp only [toPy, PyData.depth]
  omega
theorem pl_nats {xs : List Nat} (k : Nat) (h : xs.length ≤ 1000000) : Pl (k + 2) (encP xs) := .tup _ _ (by rw [List.length_map]; exact h) fun x hx => by
  obtain ⟨j, _, rfl⟩ := List.mem_map.mp hx
  exact .int _ _
theorem nats_inj : ∀ {xs ys : List Nat}, (xs.map fun k : Nat => D.int (k : Nat)) = (ys.map fun k : Nat => D.int (k : Nat)) → xs = ys
  | [], [], _ => rfl
  | [], _ :: _, h => by simp at h
  | _ :: _, [], h => by simp at h
  | x :: xs, y :: ys, h => by
    rw [List.map_cons, List.map_cons] at h
    injection h with h1 h2
    injection h1 with h1
    rw [nats_inj h2, Int.ofNat.inj h1]
theorem encP_eq {xs ys : List Nat} : decide (encP xs = encP ys) = decide (xs = ys) := by
  rw [decide_eq_decide]
  exact ⟨fun h => by unfold encP at h; injection h with h; exact nats_inj h, fun h => by rw [h]⟩
/-- [x for x in A if x not in B] -/
theorem notin_spec {σ : Slots} {bv iv : Nat} {A B : List Nat} {S : Store} {R : Store → Prop} (hb : ∀ d : D, (σ.set iv (some d))[bv]? = some (some (encP B))) (hi : ∀ d : D, (σ.set iv (some d))[iv]? = some (some d)) (hA : A.length ≤ 100000)
    (h : ∀ S', Ext S S' → S'[S.length]? = some (.lst ((A.filter fun x => !decide (x ∈ B)).map fun k : Nat => .int (k : Nat))) → R S') :
    lcD Always (gNm iv) (tVal (eOp (inF true) (eVar iv) (eVar bv))) (eVar iv) S.length R σ (A.map fun k : Nat => .int (k : Nat)) (S ++ [.lst []]) := by
  refine lc_filter (fun x => match x with | .int i => !decide (i.toNat ∈ B) | _ => false) id (by simp [sizeLine]; omega) (fun _ _ => trivial) ?_ ?_ ?_
  · intro x hx S1 P e1 hP
    obtain ⟨k, hk, rfl⟩ := List.mem_map.mp hx
    walk_at "s"
    refine r_var (hi _) ?_
    refine r_var (hb _) ?_
    refine r_ninT rfl (flat_nat _) ?_
    rw [mem_nat]
    walk_at "s"
    exact hP S1 (.refl _)
  · intro x hx S1 P e1 hP
    exact r_var (hi _) (hP S1 (.refl _))
  · intro S1 e1 h1
    refine h S1 e1 ?_
    rw [h1, List.map_id, List.filter_map]
    rfl
theorem diff_none {A B : List Nat} (h : Sub A B) : ((A.filter fun x => !decide (x ∈ B)).map fun k : Nat => D.int (k : Nat)).length = 0 := by
  rw [List.length_map, List.length_eq_zero_iff, List.filter_eq_nil_iff]
  intro x hx
  simpa using h x hx
theorem diff_sub {A B : List Nat} (h : ((A.filter fun x => !decide (x ∈ B)).map fun k : Nat => D.int (k : Nat)).length = 0) : Sub A B := by
  rw [List.length_map, List.length_eq_zero_iff, List.filter_eq_nil_iff] at h
  intro x hx
  simpa using h x hx
end PG
/-! SDk: what the module's top holds (tables, tuples, numbers), get, reversed slices, a list unpacked, in a list of plain data. -/
namespace SD
open PySem PySem.Spec PyProof.Rows L2

/-! ### a table of the top, text by text -/
structure KTab (K : PySem.W.Frag) (w : World) (d : Addr) (tab : List (Str × Str)) : Prop where
  ks : He.dicW K d = some (He.keysIn w.params (tab.map (·.1)))
  vs : ∀ a b, tab.lookup a = some b → ∃ t, PySem.W.nsIn K d a = some (some (.str b t))
theorem keys_vals {P : Params} : ∀ {l : List DictEntry} {ks : List Str}, l.map He.keyOf = He.keysIn P ks → Vals (ks.map V.str) (l.map (·.key))
  | [], [], _ => .nil
  | [], _ :: _, h => by cases h
  | _ :: _, [], h => by cases h
  | e :: r, k :: ks, h => by
    have h1 : He.keyOf e :: r.map He.keyOf = some (k, PyData.keyHash P k) :: He.keysIn P ks := h
    injection h1 with h2 h3
    refine .cons ?_ (keys_vals h3)
    unfold He.keyOf at h2
    split at h2
    · rename_i x t q
      have z := (Prod.mk.inj (Option.some.inj h2)).1
      exact ⟨t, by show e.key = _; rw [q, z]⟩
    · cases h2
/-- the walk over fixed values -/
def ItC (vs : List V) : It := ⟨fun i _ => i < vs.length, fun i H x H' => H' = H ∧ vs[i]? = some x, fun i _ => vs.length ≤ i⟩
theorem turn_kd {P : Program} {w : World} {K : PySem.W.Frag} {tg : Expr} {d it : Addr} {es : Array DictEntry} {n : Nat} {vs : List V} (lk : K.lookup d = some ⟨.type "dict", none, .dict es n, #[]⟩) (hv : Vals vs (es.toList.map (·.key))) :
    Turn P w K tg (ItC vs) [it] it fun i h => h.IsKeyIter it d i es.size n where
  mem := List.mem_cons_self
  obj := fun i h st b hb => by
    rw [List.mem_singleton] at hb
    subst hb
    obtain ⟨oi, e1, _, e2⟩ := st
    exact ⟨oi, e1, fun v z => Data.noConfusion (e2.symm.trans z)⟩
  keep := fun i h h' ⟨oi, e1, e2, e3⟩ k => ⟨oi, k it List.mem_cons_self oi e1, e2, e3⟩
  item := by
    intro X hP hw hK hc i pins s σ H E I hf st hg
    subst hP; subst hw; subst hK
    have hl : vs.length = es.size := by simpa using hv.length
    have hi : i < es.size := by rw [← hl]; exact hg
    have raw : s.heap.DictRaw d es n := ⟨_, I.kIn d _ lk, ⟨rfl, rfl, rfl⟩, rfl⟩
    obtain ⟨f0, f1, _, f3, f4, f5⟩ := hf it List.mem_cons_self
    refine wpAny_pyNext_keys_item_raw st raw hi fun h' st' sb => ?_
    have I' : Inv X pins σ H { s with heap := h', toks := s.toks } := I.turned (fun b ob hb e => (sb.2 b hb).trans e) f0 f1 f3 f4 f5
    obtain ⟨oi, e1, e2, e3⟩ := id st'
    have hx : vs[i]? = some vs[i] := List.getElem?_eq_getElem hg
    obtain ⟨u, hu, ru⟩ := hv.get hx
    have eu : es[i].key = u := by
      rw [List.getElem?_map, Array.getElem?_toList, Array.getElem?_eq_getElem hi] at hu
      exact Option.some.inj hu
    rw [← eu] at ru
    exact ⟨_, rfl, go_of (s := { s with heap := h' }) e1 e2 e3 (by decide) ⟨vs[i], H, I', ru, ⟨rfl, hx⟩, st', fun b hb => (hf b hb).1⟩⟩
  done := by
    intro X hP hw hK hc i pins s σ H E I hf st hg
    subst hP; subst hw; subst hK
    have hl : vs.length = es.size := by simpa using hv.length
    obtain ⟨f0, f1, _, f3, f4, f5⟩ := hf it List.mem_cons_self
    exact next_key_end (I.ok.hd hc) st (I.kIn d _ lk) rfl rfl (by rw [← hl]; exact hg) fun h' eb => ⟨rfl, I.turned (t' := s.toks) (fun b ob hb e => eb b ob hb e) f0 f1 f3 f4 f5⟩
  self := fun A i s Q E st h => wpAny_pyIter_keyiter st h
/-- the walk over the table's keys -/
def iConst (xs : List D) : FI := fun _ S R => R Always xs S
section
variable {X : Cx}
theorem wk_const {K : KW} {m : List Addr} {H : Hp} {ks : List Str} (few : ks.length ≤ sizeLine) : Wk K (ItC (ks.map V.str)) Always (ks.map D.str) m H := by
  refine ⟨by rw [List.length_map]; exact few, fun i m1 S1 H1 d g s1 _ hd => ?_, fun i m1 S1 H1 g s1 _ hi => ?_⟩
  · rw [List.getElem?_map] at hd
    have hi : i < ks.length := by
      cases e : ks[i]? with
      | none => rw [e] at hd; cases hd
      | some q => exact (List.getElem?_eq_some_iff.mp e).1
    rw [List.getElem?_eq_getElem hi] at hd
    cases hd
    refine ⟨by show i < (ks.map V.str).length; rw [List.length_map]; exact hi, fun x H2 ⟨e1, e2⟩ => ?_⟩
    subst e1
    rw [List.getElem?_map, List.getElem?_eq_getElem hi] at e2
    cases e2
    exact ⟨.refl _ _, s1, .str _⟩
  · show (ks.map V.str).length ≤ i
    rw [List.length_map] at hi ⊢
    exact hi
theorem ri_kd {tg : Expr} {x : Str} {pos : Pos} {d : Addr} {tab : List (Str × Str)} (T : KTab X.K X.w d tab) (hm : X.mg x = some (.ref d)) (hg : Gl X x := by rfl) (few : (tab.map (·.1)).length ≤ sizeLine := by decide) (hd : (x == ("__debug__" : Str)) = false := by decide) :
    RI X tg (.Name x pos) (iConst ((tab.map (·.1)).map D.str)) := by
  refine ⟨fun pins s σ H R I q => ?_⟩
  obtain ⟨es, n, kd⟩ := He.dicW_ok T.ks
  have hv : Vals ((tab.map (·.1)).map V.str) (es.toList.map (·.key)) := by
    refine keys_vals (P := X.w.params) ?_
    have := T.ks
    unfold He.dicW at this
    rw [kd.at_] at this
    dsimp only at this
    split at this
    · exact Option.some.inj this
    · cases this
  refine thn ((pe_glob (v := .ref d) (u := .ref d) hg hm rfl hd).run pins s σ H (fun v H1 => v = .ref d ∧ H1 = H) I ⟨rfl, rfl⟩) fun u s1 ⟨v, H1, I1, rv, ev, e1⟩ => ?_
  subst ev; subst e1
  cases rv
  obtain ⟨m, σd, S, P, s0, r, p, w⟩ := q
  have raw : s1.heap.DictRaw d es n := ⟨_, I1.kIn d _ kd.at_, ⟨rfl, rfl, rfl⟩, rfl⟩
  refine wpAny_pyIter_dict_raw kd.low raw (pi_one (tk := s1.toks) I1 _ (turn_kd kd.at_ hv) ⟨_, Heap.get?_push_size _ rfl, rfl, rfl⟩ ?_)
  exact w _ _ _ _ _ _ p (.refl _ _) s0 (wk_const few)
/-- table[e] -/
def eKix (tab : List (Str × Str)) (f : FE) : FE := fun σ S Q => f σ S fun k S1 => ∃ a b, k = .str a ∧ tab.lookup a = some b ∧ Q (.str b) S1
theorem ix_kd {d : Addr} {tab : List (Str × Str)} (T : KTab X.K X.w d tab) : IxR X fun x y H Q => ∃ a b, x = .ref d ∧ y = .str a ∧ tab.lookup a = some b ∧ Q (.str b) H := by
  intro value slice pins s σ H x y v u Q I rx ry h hs
  obtain ⟨a, b, rfl, rfl, e, q⟩ := h
  obtain ⟨es, n, kd⟩ := He.dicW_ok T.ks
  obtain ⟨t, et⟩ := T.vs a b e
  have fin := op_item_kd kd pins s σ H (.ref d) (.str a) v u (fun v H' => v = .str b ∧ Q (.str b) H') I rx ry ⟨a, _, .str b, rfl, rfl, et, ⟨t, rfl⟩, rfl, q⟩
  cases rx
  exact tail_any (kd_type kd I) PySem.slot_dict_getitem.lookup (wpAny_mono fin (fun _ _ ⟨v, H', I', r', ev, q'⟩ => ⟨v, H', I', r', by rw [ev]; exact q'⟩) fun _ _ z => z) hs
theorem re_kix {x : Str} {e : Expr} {p1 pos : Pos} {d : Addr} {tab : List (Str × Str)} {f : FE} (T : KTab X.K X.w d tab) (hm : X.mg x = some (.ref d)) (he : RE X e f) (hg : Gl X x := by rfl) (hd : (x == ("__debug__" : Str)) = false := by decide) (hs : PlainIx e := by intro _ _; rfl) :
    RE X (.Subscript (.Name x p1) e pos) (eKix tab f) := by
  refine pe_w (pe_ix (ix_kd T) (pe_glob (v := .ref d) (u := .ref d) hg hm rfl hd) he hs) fun σ H Q q => ?_
  obtain ⟨m, σd, S, P, s, r, p, w⟩ := q
  refine ⟨m, σd, S, _, s, r, p, fun k S1 m1 v H1 ⟨a, b, e1, e2, p1⟩ g1 s1 r1 => ?_⟩
  subst e1
  cases r1
  exact ⟨a, b, rfl, rfl, e2, w _ _ _ _ _ p1 g1 s1 (.str b)⟩
/-! ### tuples and numbers of the top -/
theorem re_gint {x : Str} {pos : Pos} {i : Int} {t : Tok} (hm : X.mg x = some (.int i t)) (hg : Gl X x := by rfl) (hd : (x == ("__debug__" : Str)) = false := by decide) : RE X (.Name x pos) (eC (.int i)) := by
  refine pe_w (pe_glob (v := .int i) hg hm ⟨t, rfl⟩ hd) fun σ H Q q => ?_
  obtain ⟨m, σd, S, P, s, r, p, w⟩ := q
  exact w _ _ _ _ _ p (.refl _ _) s (.int i)
structure KTup (K : PySem.W.Frag) (d : Addr) (ks : List Str) : Prop where
  ex : ∃ (o : Obj) (its : Array Value) (n : Nat), K.lookup d = some o ∧ o.cls = .type "tuple" ∧ o.data = .seq its n ∧ Vals (ks.map V.str) its.toList
theorem RDs.strs {K : KW} {m : List Addr} {H : Hp} : ∀ ks : List Str, RDs K m H (ks.map D.str) (ks.map V.str)
  | [] => .nil
  | k :: ks => .cons (.str k) (RDs.strs ks)
theorem re_gtup {x : Str} {pos : Pos} {d : Addr} {ks : List Str} (T : KTup X.K d ks) (hm : X.mg x = some (.ref d)) (hg : Gl X x := by rfl) (few : ks.length ≤ sizeLine := by decide) (hd : (x == ("__debug__" : Str)) = false := by decide) : RE X (.Name x pos) (eC (.tup (ks.map D.str))) := by
  obtain ⟨o, its, n, h1, h2, h3, h4⟩ := T.ex
  have hl : ks.length = its.size := by simpa using h4.length
  refine pe_w (pe_glob (v := .ref d) (u := .ref d) hg hm rfl hd) fun σ H Q q => ?_
  obtain ⟨m, σd, S, P, s, r, p, w⟩ := q
  exact w _ _ _ _ _ p (.refl _ _) s (.tup (.inr ⟨o, its, n, h1, h2, h3, by rw [← hl]; exact few, h4⟩) (by rw [List.length_map]; exact few) (RDs.strs ks))
theorem re_neg {e : Expr} {pos : Pos} {i : Int} (he : RE X e (eC (.int i))) : RE X (.UnaryOp .USub e pos) (eC (.int (-i))) := by
  refine pe_w (pe_un un_neg he) fun σ H Q q => ?_
  obtain ⟨m, σd, S, P, s, r, p, w⟩ := q
  have z : eC (.int i) σd S fun d S' => d = .int i ∧ S' = S := ⟨rfl, rfl⟩
  refine ⟨m, σd, S, _, s, r, z, fun d S1 m1 v H1 ⟨e1, e2⟩ g1 s1 r1 => ?_⟩
  subst e1; subst e2
  cases r1
  exact ⟨i, rfl, w _ _ _ _ _ p g1 s1 (.int (-i))⟩
end
end SD
/-! SDm: get, slices turned round, a list unpacked, in a list of plain data. -/
namespace SD
open PySem PySem.Spec PyProof.Rows L2
section
variable {X : Cx}
/-! ### d.get(k, z) -/
def eGet2 (fo fk fz : FE) : FE := fun σ S Q => fo σ S fun x S1 => (∃ kvs, dictD S1 x = some kvs) ∧ fk σ S1 fun k S2 => fz σ S2 fun z S3 => ∃ kvs, dictD S3 x = some kvs ∧ (toKey k).isSome = true ∧ Q ((valD kvs k).getD z) S3
theorem dict_rd {K : KW} {m : List Addr} {H : Hp} {S : Store} {x : D} {v : V} {kvs : List (D × D)} (s : Sim K m S H) (r : RD K m H x v) (h : dictD S x = some kvs) : ∃ p kw, v = .ref p ∧ Rd H p (.dK kw) ∧ RKV K m H kvs kw := by
  cases r with
  | @ref n p a =>
    have h : dicC S[n]? = some kvs := h
    rcases dicC_or h with e | e
    · have rc := s.cell n p _ a e
      generalize eo : H p = o at rc
      cases rc with
      | @dct _ kw z b => exact ⟨p, kw, rfl, .inl eo, b⟩
    · have rc := s.cell n p _ a e
      generalize eo : H p = o at rc
      cases rc with
      | @lck _ kw od z b => exact ⟨p, kw, rfl, .inr ⟨od, eo⟩, b⟩
  | _ => cases h
theorem re_get2 {o e f : Expr} {fo fk fz : FE} {apos cpos : Pos} (hu : X.A.units + 1 < cLine) (ho : RE X o fo) (hk : RE X e fk) (hz : RE X f fz) (m : M2 X o "get" apos e f cpos := by exact ⟨rfl, rfl, rfl, rfl⟩) :
    RE X (.Call (.Attribute o "get" apos) [e, f] [] cpos) (eGet2 fo fk fz) := by
  refine pe_w (pe_dget2 hu ho hk hz m) fun σ H Q q => ?_
  obtain ⟨m, σd, S, P, s, r, p, w⟩ := q
  refine ⟨m, σd, S, _, s, r, p, fun x S1 m1 v1 H1 ⟨⟨kvs, e1⟩, p1⟩ g1 s1 r1 => ?_⟩
  obtain ⟨a, kw, rfl, hr, b⟩ := dict_rd s1 r1 e1
  refine ⟨a, rfl, .inl ⟨kw, hr⟩, m1, σd, S1, _, s1, r.up g1, p1, fun k S2 m2 v2 H2 p2 g2 s2 r2 => ?_⟩
  refine ⟨m2, σd, S2, _, s2, r.up (g1.trans g2), p2, fun z S3 m3 v3 H3 ⟨kvs3, e3, hk3, p3⟩ g3 s3 r3 => ?_⟩
  obtain ⟨a', kw3, ea, hr3, b3⟩ := dict_rd s3 (r1.up (g2.trans g3)) e3
  cases ea
  obtain ⟨key, ek⟩ := Option.isSome_iff_exists.mp hk3
  have ek' := toKey_eq ek
  subst ek'
  have rk := (r2.up g3).key
  subst rk
  rcases b3.val key with ⟨d', v, h1, h2, h3⟩ | ⟨h1, h2⟩
  · exact ⟨some v, .inl ⟨kw3, key, hr3, rfl, by rw [h2]⟩, w _ _ _ _ _ p3 (g1.trans (g2.trans g3)) s3 (by rw [h1]; exact h3)⟩
  · exact ⟨none, .inl ⟨kw3, key, hr3, rfl, by rw [h2]⟩, w _ _ _ _ _ p3 (g1.trans (g2.trans g3)) s3 (by rw [h1]; exact r3)⟩
/-! ### xs[::-1], xs[-2::-1] of a list -/
theorem RDs.rev {K : KW} {m : List Addr} {H : Hp} : ∀ {xs : List D} {vs : List V}, RDs K m H xs vs → RDs K m H xs.reverse vs.reverse
  | _, _, .nil => .nil
  | _, _, .cons r t => by rw [List.reverse_cons, List.reverse_cons]; exact (RDs.rev t).append (.cons r .nil)
def eRev (f : FE) : FE := fun σ S Q => f σ S fun d S1 => ∃ n xs, d = .ref n ∧ S1[n]? = some (.lst xs) ∧ Q (.ref S1.length) (S1 ++ [.lst xs.reverse])
theorem re_rev {e : Expr} {f : FE} {k : Nat} {p1 p2 p3 pos : Pos} (he : RE X e f) : RE X (.Subscript e (.Slice none none (some (.UnaryOp .USub (.Constant (.int 1) k p1) p2)) p3) pos) (eRev f) := by
  refine pe_w (pe_revL he) fun σ H Q q => ?_
  obtain ⟨m, σd, S, P, s, r, p, w⟩ := q
  refine ⟨m, σd, S, _, s, r, p, fun d S1 m1 v H1 ⟨n, xs, e1, e2, p1⟩ g1 s1 r1 => ?_⟩
  subst e1
  obtain ⟨a, vs, rfl, ha, hv, b, hz⟩ := lst_at s1 r1 e2
  refine ⟨a, vs, rfl, SqL.of hv, fun a2 h2 => ?_⟩
  obtain ⟨g2, s2, r2⟩ := new_lst s1 h2 b.rev (by rw [List.length_reverse]; exact hz)
  exact w _ _ _ _ _ p1 (g1.trans g2) s2 r2
theorem turn2 (items : Array Value) (h : 1 ≤ items.size) : slicePick items (some (-2)) none (some (-1)) = items.toList.dropLast.reverse.toArray := by
  have hb : sliceBounds (some (-2)) none (some (-1)) items.size = (((items.size - 1 : Nat) : Int) - 1, -1, -1) := by
    unfold sliceBounds
    simp only [Option.getD_some]
    rw [if_neg (by decide), if_pos (by decide)]
    congr 1
    omega
  unfold slicePick
  rw [hb]
  show ((sliceRange (((items.size - 1 : Nat) : Int) - 1) (-1) (-1)).filterMap (items[·]?)).toArray = _
  rw [PySem.W.krv_sliceRange, PySem.W.krv_range, List.filterMap_reverse]
  have hp := PySem.pick_run items 0 (items.size - 1)
  have e0 : (List.range (items.size - 1)).map (0 + ·) = List.range (items.size - 1) := by
    conv => rhs; rw [← List.map_id (List.range (items.size - 1))]
    exact List.map_congr_left fun a _ => Nat.zero_add a
  rw [e0, List.drop_zero] at hp
  rw [hp, List.dropLast_eq_take, Array.length_toList]
def tRev2 (K : PySem.W.Frag) (te : TE) : TE := fun σ H Q => te σ H fun x H1 => ∃ a xs, x = .ref a ∧ SqL K H1 a xs ∧ 1 ≤ xs.length ∧ ∀ p, H1 p = none → Q (.ref p) (upd H1 p (.lst xs.dropLast.reverse))
theorem vals_take {xs : List V} {us : List Value} (r : Vals xs us) (n : Nat) : Vals (xs.take n) (us.take n) := by
  induction r generalizing n with
  | nil => rw [List.take_nil, List.take_nil]; exact .nil
  | cons a t ih =>
    cases n with
    | zero => exact .nil
    | succ n => exact .cons a (ih n)
theorem pe_rev2 {e : Expr} {te : TE} {k k2 : Nat} {p1 p2 p3 p4 p5 pos : Pos} (he : PE X e te) :
    PE X (.Subscript e (.Slice (some (.UnaryOp .USub (.Constant (.int 2) k2 p4) p5)) none (some (.UnaryOp .USub (.Constant (.int 1) k p1) p2)) p3) pos) (tRev2 X.K te) := by
  refine ⟨fun pins s σ H Q I h => ?_⟩
  refine Subscript_ (thn (he.run pins s σ H _ I h) fun v s1 ⟨x, H1, I1, r1, a, xs, ex, hx, hn, q⟩ => ?_)
  subst ex
  cases r1
  have step : PO X (some (.UnaryOp .USub (.Constant (.int 1) k p1) p2)) (tPart (tUn (rU fun i => .int (-i)) (tC (.int 1)))) := po_some (pe_un un_neg pe_int)
  have from_ : PO X (some (.UnaryOp .USub (.Constant (.int 2) k2 p4) p5)) (tPart (tUn (rU fun i => .int (-i)) (tC (.int 2)))) := po_some (pe_un un_neg pe_int)
  refine wpAny_Slice (thn (from_.run pins s1 σ H1 (fun o H2 => o = some (-2) ∧ H2 = H1) I1 ⟨2, rfl, -2, rfl, rfl, rfl⟩) fun vl s2 ⟨l, H2, I2, pl, el, e2⟩ => ?_)
  subst el; subst e2
  refine thn (po_none.run pins s2 σ H2 (fun o H3 => o = none ∧ H3 = H2) I2 ⟨rfl, rfl⟩) fun vu s3 ⟨u, H3, I3, pu, eu, e3⟩ => ?_
  subst eu; subst e3
  refine thn (step.run pins s3 σ H3 (fun o H4 => o = some (-1) ∧ H4 = H3) I3 ⟨1, rfl, -1, rfl, rfl, rfl⟩) fun vs s4 ⟨o, H4, I4, ps, eo, e4⟩ => ?_
  subst eo; subst e4
  have I5 : Inv X pins σ H4 { s4 with heap := s4.heap.push { cls := .type "slice", data := .fields #[vl, vu, vs] }, toks := s4.toks } := I4.kept fun b ob z => Heap.get?_push_of_some _ z
  obtain ⟨its, r, ht, hz⟩ := I5.list hx
  have hlen : xs.length = its.length := r.length
  refine tail_any (ops := [.ref a, .ref s4.heap.objs.size]) ht.isList.typeIs PySem.slot_list_getitem.lookup ?_ (by with_unfolding_all rfl)
  refine wpAny_getItem_list_slice ht.isList (Heap.IsSliceOf.new _ vl vu vs) pl pu ps (by decide) ?_ (by rw [List.size_toArray]; omega)
  rw [turn2 _ (by rw [List.size_toArray]; omega)]
  have hd : xs.dropLast.reverse.length ≤ sizeLine := by rw [List.length_reverse, List.length_dropLast]; omega
  refine ⟨.ref _, _, I5.laid (t' := s4.toks) (o := .lst xs.dropLast.reverse) (fun b ob z => Heap.get?_push_of_some _ z) (Nat.le_refl _) ?_, rfl, q _ (I5.hok.fresh (Nat.le_refl _))⟩
  refine ⟨hd, _, 0, Vals.reverse (xs := xs.dropLast) ?_, Heap.get?_push_size _ rfl⟩
  rw [List.dropLast_eq_take, List.dropLast_eq_take, hlen]
  exact vals_take r _
def eRev2 (f : FE) : FE := fun σ S Q => f σ S fun d S1 => ∃ n xs, d = .ref n ∧ S1[n]? = some (.lst xs) ∧ 1 ≤ xs.length ∧ Q (.ref S1.length) (S1 ++ [.lst xs.dropLast.reverse])
theorem re_rev2 {e : Expr} {f : FE} {k k2 : Nat} {p1 p2 p3 p4 p5 pos : Pos} (he : RE X e f) :
    RE X (.Subscript e (.Slice (some (.UnaryOp .USub (.Constant (.int 2) k2 p4) p5)) none (some (.UnaryOp .USub (.Constant (.int 1) k p1) p2)) p3) pos) (eRev2 f) := by
  refine pe_w (pe_rev2 he) fun σ H Q q => ?_
  obtain ⟨m, σd, S, P, s, r, p, w⟩ := q
  refine ⟨m, σd, S, _, s, r, p, fun d S1 m1 v H1 ⟨n, xs, e1, e2, hn, p1⟩ g1 s1 r1 => ?_⟩
  subst e1
  obtain ⟨a, vs, rfl, ha, hv, b, hz⟩ := lst_at s1 r1 e2
  have bl := b.length
  refine ⟨a, vs, rfl, SqL.of hv, by omega, fun a2 h2 => ?_⟩
  have bd : RDs (kW X) m1 H1 xs.dropLast.reverse vs.dropLast.reverse := by
    rw [List.dropLast_eq_take, List.dropLast_eq_take, bl]
    exact (b.take _).rev
  obtain ⟨g2, s2, r2⟩ := new_lst s1 h2 bd (by rw [List.length_reverse, List.length_dropLast]; omega)
  exact w _ _ _ _ _ p1 (g1.trans g2) s2 r2
/-! ### a, b = a list -/
def gUnD (n : Nat) (g : FGs) : FG := fun d σ S Q => ∃ k xs, d = .ref k ∧ S[k]? = some (.lst xs) ∧ xs.length = n ∧ g xs σ S Q
theorem rg_un {es : List Expr} {k : Nat} {pos : Pos} {g : FGs} {n : Nat} (hc : X.calm = true) (h : RGs X es g) (hn : (assignEach es X.env).length = n := by rfl) (hst : (assignEach es X.env).findIdx? (·.1) = none := by rfl) : RG X (.Tuple es k pos) (gUnD n g) := by
  refine pg_w (pg_unl hc h hn hst) fun v σ H Q q => ?_
  obtain ⟨m, σd, S, d, P, s, r, rd, ⟨j, xs, e1, e2, e3, p⟩, w⟩ := q
  subst e1
  obtain ⟨a, vs, rfl, ha, hv, b, hz⟩ := lst_at s rd e2
  exact ⟨a, vs, rfl, SqL.of hv, by rw [← b.length]; exact e3, m, σd, S, xs, P, s, r, b, p, w⟩
/-! ### x in xs, plain data -/
def inPF : F2 := fun x y S Q => ∃ n xs, y = .ref n ∧ S[n]? = some (.lst xs) ∧ plainD x = true ∧ plainDs xs = true ∧ Q (.bl (decide (x ∈ xs))) S
theorem any_mem {x : D} (hx : okD x = true) : ∀ xs : List D, okDs xs = true → ((toPys xs).any fun z => PyData.eqv z (toPy x)) = decide (x ∈ xs)
  | [], _ => rfl
  | y :: ys, h => by
    have hy := Bool.and_eq_true_iff.mp (show (okD y && okDs ys) = true from h)
    show (PyData.eqv (toPy y) (toPy x) || (toPys ys).any fun z => PyData.eqv z (toPy x)) = _
    rw [eqv_toPy y x hy.1 hx, any_mem hx ys hy.2, Bool.eq_iff_iff]
    simp only [Bool.or_eq_true, decide_eq_true_eq, List.mem_cons]
    exact ⟨fun q => q.imp Eq.symm id, fun q => q.imp Eq.symm id⟩
theorem od_inP (hu : X.A.units + 65 < cLine) : OpD X (compareOp .In) inPF := by
  refine ⟨_, op_inD hu, fun m S H x y v u P Q s rx ry h w => ?_⟩
  obtain ⟨n, xs, rfl, e, hx, hxs, p⟩ := h
  obtain ⟨a, vs, rfl, ha, hv, b, hz⟩ := lst_at s ry e
  have ox : okD x = true := (Bool.and_eq_true_iff.mp hx).1
  have oy : okDs xs = true := (Bool.and_eq_true_iff.mp hxs).1
  refine ⟨toPy x, toPys xs, dp_of x v ox rx, .lst (SqL.of hv) (dps_of xs vs oy b), shaped_of hx, ?_, ?_⟩
  · unfold SeqAt.shaped
    rw [PyData.canLay0, canLay_toPys xs oy]
    simpa using (Bool.and_eq_true_iff.mp hxs).2
  · rw [any_mem ox xs oy]
    exact w _ _ _ _ _ p (.refl _ _) s (.bl _)
/-! ### x = a dict comprehension -/
theorem sw_dc {kx vx : Expr} {gs : List Comprehension} {scope : Scope} {pos py : Pos} {y : Str} {l : Nat} {env : Env} (h1 : env.scope.kind = .function) (h2 : env.scope.names.lookup y = some .local) (h3 : (py.line == pos.line) = true)
    (h4 : (scope.names.any fun (n, k) => n == y && (k == .local || k == .cell)) = false) : swapsWith (.DictComp kx vx gs scope pos) (some (.Name y py)) l env = pure true := by
  have e1 : env.kindOf y = some .local := h2
  have e2 : env.blockKind = .function := by
    unfold Env.blockKind
    rw [h1]; rfl
  unfold swapsWith
  simp only [e2, e1, h4, Expr.pos, h3]; rfl
theorem rs_setDc {i : Nat} {y : Str} {py : Pos} {kx vx tg iter : Expr} {ifs : List Expr} {scope : Scope} {own : List (Str × Nat)} {pos spos : Pos} {f : FI} {g : TG} {gd : FG} {t : FT} {fk fv : FE} (hc : X.calm = true) (hN : X.N.Nodup) (hi : RI X tg iter f) (ok : BlkOk X.N X.env.scope scope own) (hgd : PGD (kW X) (own.map (·.2)) g gd)
    (hg : ∀ (s : Shared) (H : Hp) (C : Addr) (cl : List (Str × Addr)) (fp : List Addr), PG (X.blk s H scope (compEnvC scope cl C X.env) fp) tg g) (ht : ∀ (s : Shared) (H : Hp) (C : Addr) (cl : List (Str × Addr)) (fp : List Addr), RTs (X.blk s H scope (compEnvC scope cl C X.env) fp) ifs t)
    (hk : ∀ (s : Shared) (H : Hp) (C : Addr) (cl : List (Str × Addr)) (fp : List Addr), RE (X.blk s H scope (compEnvC scope cl C X.env) fp) kx fk)
    (he : ∀ (s : Shared) (H : Hp) (C : Addr) (cl : List (Str × Addr)) (fp : List Addr), RE (X.blk s H scope (compEnvC scope cl C X.env) fp) vx fv)
    (hsw : swapsWith (.DictComp kx vx [⟨tg, iter, ifs, 0⟩] scope pos) (some (.Name y py)) spos.line X.env = pure true) (hy : X.N[i]? = some y := by rfl) (hyl : X.env.scope.names.lookup y = some .local := by rfl) (hs : ∀ x, foldedSetIterable iter X.env x = pure x := by intro _; rfl) :
    RS X (.Assign [.Name y py] (.DictComp kx vx [⟨tg, iter, ifs, 0⟩] scope pos) spos) (sAsg (eDc f gd t fk fv (own.map (·.2))) (gNm i)) := by
  refine ⟨fun pins s σ H D I q => ?_⟩
  obtain ⟨m, σd, S, E, s0, r0, p0, w0⟩ := q
  have q : tDc (tOfI (kW X) f) g (tOfT (kW X) t) (tOf (kW X) fk) (tOf (kW X) fv) (own.map (·.2)) σ H (fun x H1 => gName i x σ H1 D.nx) :=
    tOf_dc hgd ⟨m, σd, S, _, s0, r0, p0, fun d S1 m1 v H1 p1 g1 s1 r1 => w0.nx _ _ _ _ _ p1 g1 s1 ((r0.up g1).set r1 i)⟩
  rw [exec_Assign_Name_used _ _ _ _ hsw]
  refine wpAny_bind (wpAny_standAt (wpAny_bind ?_))
  show wpAny _ X.A (do
    let _ ← comprehension (.DictComp kx vx [⟨tg, iter, ifs, 0⟩] scope pos) scope X.env (firstIterPos [⟨tg, iter, ifs, 0⟩] pos) newDict false (eval iter X.env) (some (assign (.Name y py) X.env))) _ _ s
  refine wpAny_bind (thn (dc_core (Qf := fun _ s1 => SP X pins D .next s1) hc hN I hi ok hg ht hk he hs q fun L C s1 m1 H1 I1 q1 hn ⟨f0, f1, f2, f3, f4, f5⟩ => ?_) fun _ s2 z => wpAny_pure (wpAny_pure z))
  show wpAny _ _ (assign (.Name y py) X.env (.ref L)) _ _ _
  refine wpAny_assign_Name (store_ok2 (v := V.ref L) I1 hN hy (.inl hyl) rfl (fun s2 I2 ⟨a, sb, ha⟩ => ?_) (.inr hyl))
  have off : C ≠ a := by
    rcases ha with z | z
    · subst z; exact f1
    · exact fun e => f4 y a z e.symm
  exact ⟨m1, hn.sameBut sb off, fun h3 sb3 => ⟨_, H1, I2.turned (t' := s2.toks) (fun b o hb e => (sb3.2 b hb).trans e) f0 f1 f3 f4 f5, q1⟩⟩
/-! ### the same by what is told of the top -/
theorem re_gintE {x : Str} {pos : Pos} {i : Int} (h : ∃ t, X.mg x = some (.int i t)) (hg : Gl X x := by rfl) (hd : (x == ("__debug__" : Str)) = false := by decide) : RE X (.Name x pos) (eC (.int i)) := by
  obtain ⟨t, h⟩ := h
  exact re_gint h hg hd
theorem re_gtupE {x : Str} {pos : Pos} {ks : List Str} (h : ∃ d, X.mg x = some (.ref d) ∧ KTup X.K d ks) (hg : Gl X x := by rfl) (few : ks.length ≤ sizeLine := by decide) (hd : (x == ("__debug__" : Str)) = false := by decide) : RE X (.Name x pos) (eC (.tup (ks.map D.str))) := by
  obtain ⟨d, h1, h2⟩ := h
  exact re_gtup h2 h1 hg few hd
theorem re_kixE {x : Str} {e : Expr} {p1 pos : Pos} {tab : List (Str × Str)} {f : FE} (h : ∃ d, X.mg x = some (.ref d) ∧ KTab X.K X.w d tab) (he : RE X e f) (hg : Gl X x := by rfl) (hd : (x == ("__debug__" : Str)) = false := by decide) (hs : PlainIx e := by intro _ _; rfl) :
    RE X (.Subscript (.Name x p1) e pos) (eKix tab f) := by
  obtain ⟨d, h1, h2⟩ := h
  exact re_kix h2 h1 he hg hd hs
theorem ri_kdE {tg : Expr} {x : Str} {pos : Pos} {tab : List (Str × Str)} (h : ∃ d, X.mg x = some (.ref d) ∧ KTab X.K X.w d tab) (hg : Gl X x := by rfl) (few : (tab.map (·.1)).length ≤ sizeLine := by decide) (hd : (x == ("__debug__" : Str)) = false := by decide) :
    RI X tg (.Name x pos) (iConst ((tab.map (·.1)).map D.str)) := by
  obtain ⟨d, h1, h2⟩ := h
  exact ri_kd h2 h1 hg few hd
theorem hu65 {k : Nat} {A : Around} (r : Room k A) : A.units + 65 < cLine := by have := r.un; omega
end
end SD
/-! PG2: more meanings shared by the laws (printed by gen.py). -/
namespace PG
open PySem L2 SD
def tab_TURNED : List (Str × Str) := [("yes", "no"), ("is", "isnt"), ("both", "either"), ("some", "all"), ("least", "greatest")]
/-! ### parts_of -/
def b_parts_of  : FS :=
  (sSeq (sIf (tVal (eOp (inF false) (eOp ixF (eVar 0) (eC (.int 0))) (eTup (aCons (eC (.str "both")) (aCons (eC (.str "either")) aNil))))) (sRet (eSl (eVar 0) (oSome (eC (.int 1))) oNo)) sNext)
  (sRet (eSl (eVar 0) (oSome (eC (.int 2))) oNo)))
def F_parts_of : FnD := fnD 1 1 (b_parts_of )
/-! ### all_parts -/
def b_all_parts (G_parts_of : FnD) : FS :=
  (sSeq (sAsg (eLst aNil) (gNm 1))
  (sSeq (sAsg (eLst (aCons (eVar 0) aNil)) (gNm 2))
  (sSeq (sWhile (tVal (eOp (intF fun i j => .bl (decide (j < i))) (eCB lenF (aCons (eVar 2) aNil)) (eC (.int 0)))) (sSeq (sAsg (eMt "list" popF (eVar 2) aNil) (gNm 3))
  (sSeq (sDrop (eMt "list" appF (eVar 1) (aCons (eVar 3) aNil)))
  (sDrop (eMt "list" extF (eVar 2) (aCons (eRev (eCB listF (aCons (eCall G_parts_of (aCons (eVar 3) aNil)) aNil))) aNil))))))
  (sRet (eVar 1)))))
def F_all_parts : FnD := fnD 1 4 (b_all_parts F_parts_of)
/-! ### with_parts -/
def b_with_parts  : FS :=
  (sSeq (sIf (tVal (eOp (inF false) (eOp ixF (eVar 0) (eC (.int 0))) (eTup (aCons (eC (.str "both")) (aCons (eC (.str "either")) aNil))))) (sRet (eOp addF (eTup (aCons (eOp ixF (eVar 0) (eC (.int 0))) aNil)) (eCB tupleF (aCons (eVar 1) aNil)))) sNext)
  (sRet (eOp addF (eSl (eVar 0) oNo (oSome (eC (.int 2)))) (eCB tupleF (aCons (eVar 1) aNil)))))
def F_with_parts : FnD := fnD 2 2 (b_with_parts )
/-! ### against -/
def b_against (G_with_parts : FnD) (G_parts_of : FnD) (G_against : FnD) : FS :=
  (sSeq (sAsg (eDc (iConst [.str "yes", .str "is", .str "both", .str "some", .str "least"]) (gNm 2) tYesD (eKix tab_TURNED (eVar 2)) (eVar 2) [2]) (gNm 1))
  (sSeq (sFor (iConst [.str "yes", .str "is", .str "both", .str "some", .str "least"]) (gNm 2) (sAsg (eKix tab_TURNED (eVar 2)) (gSubD (eVar 1) (eVar 2))))
  (sSeq (sAsg (eCall G_with_parts (aCons (eVar 0) (aCons (eLc (iSeqD (eCall G_parts_of (aCons (eVar 0) aNil))) (gNm 4) tYesD (eCall G_against (aCons (eVar 4) aNil)) [4]) aNil))) (gNm 3))
  (sRet (eOp addF (eTup (aCons (eGet2 (eVar 1) (eOp ixF (eVar 0) (eC (.int 0))) (eOp ixF (eVar 0) (eC (.int 0)))) aNil)) (eSl (eVar 3) (oSome (eC (.int 1))) oNo))))))
def F_against : Nat → FnD
  | 0 => fun _ _ _ => False
  | k + 1 => fnD 1 5 (b_against F_with_parts F_parts_of (F_against k))
/-! ### with_name -/
def b_with_name  : FS :=
  (sSeq (sAsg (eCB dictF (aCons (eVar 0) aNil)) (gNm 3))
  (sSeq (sAsg (eVar 2) (gSubD (eVar 3) (eVar 1)))
  (sRet (eVar 3))))
def F_with_name : FnD := fnD 3 4 (b_with_name )
/-! ### joined -/
def b_joined  : FS :=
  (sSeq (sIf (tVal (eOp (eqF false) (eCB lenF (aCons (eVar 1) aNil)) (eC (.int 0)))) (sRet (eVar 2)) sNext)
  (sSeq (sAsg (eOp ixF (eVar 1) (eC (.int (-1)))) (gNm 3))
  (sSeq (sFor (iSeqD (eRev2 (eVar 1))) (gNm 4) (sAsg (eTup (aCons (eVar 0) (aCons (eVar 4) (aCons (eVar 3) aNil)))) (gNm 3)))
  (sRet (eVar 3)))))
def F_joined : FnD := fnD 3 5 (b_joined )
/-! ### _law_drawn -/
def b__law_drawn (G__law_saying : FnD) (G__law_draw : FnD) : FS :=
  (sSeq (sAsg (eCall G__law_draw (aCons (eVar 0) (aCons (eC (.int 4)) aNil))) (gNm 3))
  (sSeq (sIf (tVal (eOp (eqF false) (eVar 3) (eC (.int 0)))) (sSeq (sAsg (eCall G__law_draw (aCons (eVar 0) (aCons (eC (.int 2)) aNil))) (gNm 4))
  (sSeq (sAsg (eCall G__law_saying (aCons (eVar 0) (aCons (eVar 1) (aCons (eOp (intF fun i j => .int (i - j)) (eVar 2) (eC (.int 2))) (aCons (eLst (aCons (eC (.int 0)) (aCons (eC (.int 1)) aNil))) (aCons (eTup (aCons (eC (.int 0)) (aCons (eC (.int 1)) aNil))) (aCons (eTup aNil) aNil))))))) (gNm 5))
  (sSeq (sAsg (eTup (aCons (eC (.str "either")) (aCons (eTup (aCons (eC (.str "both")) (aCons (eVar 5) (aCons (eTup (aCons (eC (.str "some")) (aCons (eCall G__law_draw (aCons (eVar 0) (aCons (eOp ixF (eVar 1) (eC (.int 1))) aNil))) (aCons (eTup (aCons (eC (.str "name")) (aCons (eC (.int 0)) aNil))) aNil)))) aNil)))) (aCons (eTup (aCons (eOp ixF (eTup (aCons (eC (.str "some")) (aCons (eC (.str "all")) aNil))) (eCall G__law_draw (aCons (eVar 0) (aCons (eC (.int 2)) aNil)))) (aCons (eC (.int 0)) (aCons (eTup (aCons (eC (.str "name")) (aCons (eC (.int 1)) aNil))) aNil)))) aNil)))) (gNm 6))
  (sRet (eTup (aCons (eOp ixF (eTup (aCons (eC (.str "greatest")) (aCons (eC (.str "least")) aNil))) (eVar 4)) (aCons (eC (.int 0)) (aCons (eTup (aCons (eOp ixF (eTup (aCons (eC (.str "least")) (aCons (eC (.str "greatest")) aNil))) (eVar 4)) (aCons (eC (.int 1)) (aCons (eVar 6) aNil)))) aNil)))))))) sNext)
  (sSeq (sIf (tVal (eOp (eqF false) (eVar 3) (eC (.int 1)))) (sRet (eTup (aCons (eOp ixF (eTup (aCons (eC (.str "least")) (aCons (eC (.str "greatest")) aNil))) (eCall G__law_draw (aCons (eVar 0) (aCons (eC (.int 2)) aNil)))) (aCons (eC (.int 0)) (aCons (eCall G__law_saying (aCons (eVar 0) (aCons (eVar 1) (aCons (eVar 2) (aCons (eLst (aCons (eC (.int 0)) aNil)) (aCons (eTup (aCons (eC (.int 0)) aNil)) (aCons (eTup aNil) aNil))))))) aNil))))) sNext)
  (sRet (eCall G__law_saying (aCons (eVar 0) (aCons (eVar 1) (aCons (eOp addF (eVar 2) (eC (.int 1))) (aCons (eLst aNil) (aCons (eTup aNil) (aCons (eTup aNil) aNil)))))))))))
def F__law_drawn : FnD := fnD 3 7 (b__law_drawn (F__law_saying 8) F__law_draw)
end PG
/-! SDq: steps for SDm's meanings. -/
namespace SD
open PySem L2
section
variable {σ : Slots} {S : Store} {Q : PD} {QO : Option Int → Store → Prop}
theorem r_sl {f : FE} {l h : FO} (q : f σ S fun d S1 => l σ S1 fun lo S2 => h σ S2 fun hi S3 => slF d lo hi S3 Q) : eSl f l h σ S Q := q
theorem r_oNo (q : QO none S) : oNo σ S QO := q
theorem r_oSome {f : FE} (q : f σ S fun d S1 => ∃ i, d = .int i ∧ QO (some i) S1) : oSome f σ S QO := q
theorem r_oInt {i : Int} {P : Int → Prop} (q : P i) : ∃ j, D.int i = .int j ∧ P j := ⟨i, rfl, q⟩
theorem r_slT {xs ys : List D} {lo hi : Option Int} (e : cutD xs lo hi = ys) (q : Q (.tup ys) S) : slF (.tup xs) lo hi S Q := .inl ⟨xs, rfl, by rw [e]; exact q⟩
theorem r_slL {n : Nat} {xs ys : List D} {lo hi : Option Int} (a : S[n]? = some (.lst xs)) (e : cutD xs lo hi = ys) (q : Q (.ref S.length) (S ++ [.lst ys])) : slF (.ref n) lo hi S Q := .inr (.inr ⟨n, xs, rfl, a, by rw [e]; exact q⟩)
theorem r_iConst {xs : List D} {QI : (Store → Prop) → List D → Store → Prop} (q : QI Always xs S) : iConst xs σ S QI := q
theorem r_rev {f : FE} (q : f σ S fun d S1 => ∃ n xs, d = .ref n ∧ S1[n]? = some (.lst xs) ∧ Q (.ref S1.length) (S1 ++ [.lst xs.reverse])) : eRev f σ S Q := q
theorem r_rev2 {f : FE} (q : f σ S fun d S1 => ∃ n xs, d = .ref n ∧ S1[n]? = some (.lst xs) ∧ 1 ≤ xs.length ∧ Q (.ref S1.length) (S1 ++ [.lst xs.dropLast.reverse])) : eRev2 f σ S Q := q
theorem r_get2 {fo fk fz : FE} (q : fo σ S fun x S1 => (∃ kvs, dictD S1 x = some kvs) ∧ fk σ S1 fun k S2 => fz σ S2 fun z S3 => ∃ kvs, dictD S3 x = some kvs ∧ (toKey k).isSome = true ∧ Q ((valD kvs k).getD z) S3) : eGet2 fo fk fz σ S Q := q
theorem r_kix {tab : List (Str × Str)} {f : FE} (q : f σ S fun k S1 => ∃ a b, k = .str a ∧ tab.lookup a = some b ∧ Q (.str b) S1) : eKix tab f σ S Q := q
theorem r_eNotN {f : FE} (q : f σ S fun d S1 => Q (.bl (!decide (d = .non))) S1) : eNotN f σ S Q := q
end
/-- [e for g in gs], each g by itself -/
theorem lc_each {α : Type} {ok : Store → Prop} {e : FE} {i : Nat} {Q : Store → Prop} {σ : Slots} {S : Store} (gs : List α) (enc out : α → D) (few : gs.length ≤ sizeLine) (hok : ∀ S1, Ext S S1 → ok S1)
    (he : ∀ g ∈ gs, ∀ S1 (P : PD), Ext S S1 → (∀ S2, Ext S1 S2 → P (out g) S2) → e (σ.set i (some (enc g))) S1 P)
    (hQ : ∀ S1, Ext S S1 → S1[S.length]? = some (.lst (gs.map out)) → Q S1) : lcD ok (gNm i) tYesD e S.length Q σ (gs.map enc) (S ++ [.lst []]) := by
  refine lc_inv (fun k acc S1 => Ext S S1 ∧ acc = (gs.take k).map out) (by rw [List.length_map]; exact few) (new_at S _) ⟨Ext.app S _, rfl⟩ ?_ ?_
  · rintro k x acc S1 R hx h1 hl ⟨e1, rfl⟩ hR
    rw [List.getElem?_map] at hx
    cases hg : gs[k]? with
    | none => rw [hg] at hx; cases hx
    | some g =>
      rw [hg] at hx
      cases hx
      have hk : k < gs.length := (List.getElem?_eq_some_iff.mp hg).1
      refine ⟨hok S1 e1, r_nm (r_yes (r_ifT rfl (he g (List.mem_of_getElem? hg) S1 _ e1 fun S2 e2 => ⟨_, e2 _ _ h1, by omega, ?_⟩)))⟩
      refine hR _ _ (set_at (e2 _ _ h1)) (by rw [List.length_append]; exact Nat.succ_le_succ hl) ⟨(e1.trans e2).put (Nat.le_refl _), ?_⟩
      rw [List.take_add_one, hg]
      simp
  · rintro acc S1 h1 hl ⟨e1, rfl⟩
    rw [List.length_map, List.take_length] at h1
    exact ⟨hok S1 e1, hQ S1 e1 h1⟩
end SD
local macro_rules | `(tactic| walk_at "s") => `(tactic| (repeat with_reducible first | refine SD.r_seq ?_ | refine SD.r_asg ?_ | refine SD.r_nm ?_ | refine SD.r_var (by with_unfolding_all rfl) ?_ | refine SD.r_c ?_ | refine SD.r_aCons ?_ | refine SD.r_aNil ?_ | refine SD.r_op ?_ | refine SD.r_call ?_ | refine SD.r_val ?_ | refine SD.r_bl ?_ | refine SD.r_if ?_ | refine SD.r_ret ?_ | refine SD.r_next ?_ | refine SD.r_ifT (by first | decide | (with_unfolding_all rfl)) ?_ | refine SD.r_ifF (by first | decide | (with_unfolding_all rfl)) ?_ | refine SD.r_tup ?_ | refine SD.r_lst ?_ | refine SD.r_le (Nat.le_of_ble_eq_true (by with_unfolding_all rfl)) ?_ | refine SD.r_cb ?_ | refine SD.r_and ?_ | refine SD.r_or ?_ | refine SD.r_not ?_ | refine SD.r_eIf ?_ | refine SD.r_eAnd ?_ | refine SD.r_eOr ?_ | refine SD.r_eNot ?_ | refine SD.r_isN ?_ | refine SD.r_mt ?_ | refine SD.r_iConst ?_ | refine SD.r_sl ?_ | refine SD.r_oSome ?_ | refine SD.r_oInt ?_ | refine SD.r_oNo ?_ | refine SD.r_rev ?_ | refine SD.r_rev2 ?_ | refine SD.r_get2 ?_ | refine SD.r_kix ?_ | refine SD.r_eNotN ?_ | refine SD.r_tr ?_ | refine SD.r_ss ?_ | refine SD.r_dict0 ?_ | refine SD.r_yes ?_ | refine SD.r_isi ?_ | refine SD.r_ty (by with_unfolding_all rfl) ?_ | refine SD.r_ixT (by with_unfolding_all rfl) ?_ | refine SD.r_ixE (by with_unfolding_all rfl) (by with_unfolding_all rfl) ?_ | refine SD.r_ixL (by assumption) (by with_unfolding_all rfl) ?_ | refine SD.r_addI ?_ | refine SD.r_intF ?_ | refine SD.r_intCF (by first | decide | exact SD.cmul_r (by decide) | exact SD.cmul_l (by decide)) ?_ | refine SD.r_eqI ?_ | refine SD.r_neI ?_ | refine SD.r_eqS ?_ | refine SD.r_neS ?_ | refine SD.r_eqB ?_ | refine SD.r_neB ?_ | refine SD.r_int ?_ | refine SD.r_drop ?_ | refine SD.r_sub ?_ | refine SD.r_gTp (by with_unfolding_all rfl) ?_ | refine SD.r_gsCons ?_ | refine SD.r_gsNil ?_ | refine SD.r_for ?_ | refine SD.r_lc ?_ | refine SD.r_dc ?_ | refine SD.r_iRg1 ?_ | refine SD.r_inT (by with_unfolding_all rfl) (by with_unfolding_all rfl) ?_))
local macro_rules | `(tactic| walk_at "n") => `(tactic| (repeat with_reducible first | refine SD.r_asg ?_ | refine SD.r_nm ?_ | refine SD.r_var (by with_unfolding_all rfl) ?_ | refine SD.r_c ?_ | refine SD.r_aCons ?_ | refine SD.r_aNil ?_ | refine SD.r_op ?_ | refine SD.r_call ?_ | refine SD.r_val ?_ | refine SD.r_bl ?_ | refine SD.r_if ?_ | refine SD.r_ret ?_ | refine SD.r_next ?_ | refine SD.r_ifT (by first | decide | (with_unfolding_all rfl)) ?_ | refine SD.r_ifF (by first | decide | (with_unfolding_all rfl)) ?_ | refine SD.r_tup ?_ | refine SD.r_lst ?_ | refine SD.r_le (Nat.le_of_ble_eq_true (by with_unfolding_all rfl)) ?_ | refine SD.r_cb ?_ | refine SD.r_and ?_ | refine SD.r_or ?_ | refine SD.r_not ?_ | refine SD.r_eIf ?_ | refine SD.r_eAnd ?_ | refine SD.r_eOr ?_ | refine SD.r_eNot ?_ | refine SD.r_isN ?_ | refine SD.r_mt ?_ | refine SD.r_iConst ?_ | refine SD.r_sl ?_ | refine SD.r_oSome ?_ | refine SD.r_oInt ?_ | refine SD.r_oNo ?_ | refine SD.r_rev ?_ | refine SD.r_rev2 ?_ | refine SD.r_get2 ?_ | refine SD.r_kix ?_ | refine SD.r_eNotN ?_ | refine SD.r_tr ?_ | refine SD.r_ss ?_ | refine SD.r_dict0 ?_ | refine SD.r_yes ?_ | refine SD.r_isi ?_ | refine SD.r_ty (by with_unfolding_all rfl) ?_ | refine SD.r_ixT (by with_unfolding_all rfl) ?_ | refine SD.r_ixE (by with_unfolding_all rfl) (by with_unfolding_all rfl) ?_ | refine SD.r_ixL (by assumption) (by with_unfolding_all rfl) ?_ | refine SD.r_addI ?_ | refine SD.r_intF ?_ | refine SD.r_intCF (by first | decide | exact SD.cmul_r (by decide) | exact SD.cmul_l (by decide)) ?_ | refine SD.r_eqI ?_ | refine SD.r_neI ?_ | refine SD.r_eqS ?_ | refine SD.r_neS ?_ | refine SD.r_eqB ?_ | refine SD.r_neB ?_ | refine SD.r_int ?_ | refine SD.r_drop ?_ | refine SD.r_sub ?_ | refine SD.r_gTp (by with_unfolding_all rfl) ?_ | refine SD.r_gsCons ?_ | refine SD.r_gsNil ?_ | refine SD.r_for ?_ | refine SD.r_lc ?_ | refine SD.r_dc ?_ | refine SD.r_iRg1 ?_ | refine SD.r_inT (by with_unfolding_all rfl) (by with_unfolding_all rfl) ?_))
/-! SP7: sayings taken apart and turned round. -/
namespace PG
open PySem L2 SD
def Fm.parts : Fm → List Fm
  | .both a b => [a, b]
  | .either a b => [a, b]
  | .some _ a => [a]
  | .all _ a => [a]
  | .least _ a => [a]
  | .greatest _ a => [a]
  | _ => []
theorem parts_spec {f : Fm} {S : Store} {Q : PD} (h : Q (.tup (f.parts.map encF)) S) : F_parts_of [encF f] S Q := by
  refine r_fn rfl ?_
  unfold b_parts_of
  cases f <;> (walk_at "s"; exact r_slT (by with_unfolding_all rfl) h)
/-- with other parts -/
def Fm.wp : Fm → List Fm → Fm
  | .both _ _, [a, b] => .both a b
  | .either _ _, [a, b] => .either a b
  | .some j _, [a] => .some j a
  | .all j _, [a] => .all j a
  | .least x _, [a] => .least x a
  | .greatest x _, [a] => .greatest x a
  | f, _ => f
theorem with_spec {f : Fm} {ps : List Fm} {n : Nat} {S : Store} {Q : PD} (hl : ps.length = f.parts.length) (e : S[n]? = some (.lst (ps.map encF))) (h : Q (encF (f.wp ps)) S) : F_with_parts [encF f, .ref n] S Q := by
  have sq : seqD S (.ref n) = some (ps.map encF) := by show seqC S[n]? = _; rw [e]; rfl
  refine r_fn rfl ?_
  unfold b_with_parts
  cases f with
  | both a b =>
    obtain ⟨a', b', rfl⟩ : ∃ a' b', ps = [a', b'] := by
      match ps, hl with
      | [a', b'], _ => exact ⟨_, _, rfl⟩
    walk_at "s"
    refine r_tuple sq ?_
    refine r_addT (Nat.le_of_ble_eq_true rfl) ?_
    exact h
  | either a b =>
    obtain ⟨a', b', rfl⟩ : ∃ a' b', ps = [a', b'] := by
      match ps, hl with
      | [a', b'], _ => exact ⟨_, _, rfl⟩
    walk_at "s"
    refine r_tuple sq ?_
    refine r_addT (Nat.le_of_ble_eq_true rfl) ?_
    exact h
  | some j a =>
    obtain ⟨a', rfl⟩ : ∃ a', ps = [a'] := by
      match ps, hl with
      | [a'], _ => exact ⟨_, rfl⟩
    walk_at "s"
    refine r_slT (ys := [.str "some", .int (j : Nat)]) (by with_unfolding_all rfl) ?_
    walk_at "s"
    refine r_tuple sq ?_
    exact r_addT (Nat.le_of_ble_eq_true rfl) h
  | all j a =>
    obtain ⟨a', rfl⟩ : ∃ a', ps = [a'] := by
      match ps, hl with
      | [a'], _ => exact ⟨_, rfl⟩
    walk_at "s"
    refine r_slT (ys := [.str "all", .int (j : Nat)]) (by with_unfolding_all rfl) ?_
    walk_at "s"
    refine r_tuple sq ?_
    exact r_addT (Nat.le_of_ble_eq_true rfl) h
  | least j a =>
    obtain ⟨a', rfl⟩ : ∃ a', ps = [a'] := by
      match ps, hl with
      | [a'], _ => exact ⟨_, rfl⟩
    walk_at "s"
    refine r_slT (ys := [.str "least", .int (j : Nat)]) (by with_unfolding_all rfl) ?_
    walk_at "s"
    refine r_tuple sq ?_
    exact r_addT (Nat.le_of_ble_eq_true rfl) h
  | greatest j a =>
    obtain ⟨a', rfl⟩ : ∃ a', ps = [a'] := by
      match ps, hl with
      | [a'], _ => exact ⟨_, rfl⟩
    walk_at "s"
    refine r_slT (ys := [.str "greatest", .int (j : Nat)]) (by with_unfolding_all rfl) ?_
    walk_at "s"
    refine r_tuple sq ?_
    exact r_addT (Nat.le_of_ble_eq_true rfl) h
  | yes =>
    obtain rfl : ps = [] := List.eq_nil_of_length_eq_zero hl
    walk_at "s"
    refine r_slT (ys := [.str "yes"]) (by with_unfolding_all rfl) ?_
    walk_at "s"
    refine r_tuple sq ?_
    exact r_addT (Nat.le_of_ble_eq_true rfl) h
  | no =>
    obtain rfl : ps = [] := List.eq_nil_of_length_eq_zero hl
    walk_at "s"
    refine r_slT (ys := [.str "no"]) (by with_unfolding_all rfl) ?_
    walk_at "s"
    refine r_tuple sq ?_
    exact r_addT (Nat.le_of_ble_eq_true rfl) h
  | is i =>
    obtain rfl : ps = [] := List.eq_nil_of_length_eq_zero hl
    walk_at "s"
    refine r_slT (ys := [.str "is", .int (i : Nat)]) (by with_unfolding_all rfl) ?_
    walk_at "s"
    refine r_tuple sq ?_
    exact r_addT (Nat.le_of_ble_eq_true rfl) h
  | isnt i =>
    obtain rfl : ps = [] := List.eq_nil_of_length_eq_zero hl
    walk_at "s"
    refine r_slT (ys := [.str "isnt", .int (i : Nat)]) (by with_unfolding_all rfl) ?_
    walk_at "s"
    refine r_tuple sq ?_
    exact r_addT (Nat.le_of_ble_eq_true rfl) h
  | name i =>
    obtain rfl : ps = [] := List.eq_nil_of_length_eq_zero hl
    walk_at "s"
    refine r_slT (ys := [.str "name", .int (i : Nat)]) (by with_unfolding_all rfl) ?_
    walk_at "s"
    refine r_tuple sq ?_
    exact r_addT (Nat.le_of_ble_eq_true rfl) h
/-- the saying turned round -/
def neg : Fm → Fm
  | .yes => .no
  | .no => .yes
  | .is i => .isnt i
  | .isnt i => .is i
  | .name x => .name x
  | .both a b => .either (neg a) (neg b)
  | .either a b => .both (neg a) (neg b)
  | .some j a => .all j (neg a)
  | .all j a => .some j (neg a)
  | .least x a => .greatest x (neg a)
  | .greatest x a => .least x (neg a)
theorem neg_neg : ∀ f : Fm, neg (neg f) = f
  | .yes | .no | .is _ | .isnt _ | .name _ => rfl
  | .both a b => by rw [neg, neg, neg_neg a, neg_neg b]
  | .either a b => by rw [neg, neg, neg_neg a, neg_neg b]
  | .some j a => by rw [neg, neg, neg_neg a]
  | .all j a => by rw [neg, neg, neg_neg a]
  | .least x a => by rw [neg, neg, neg_neg a]
  | .greatest x a => by rw [neg, neg, neg_neg a]
def backs : List (D × D) := [(.str "no", .str "yes"), (.str "isnt", .str "is"), (.str "either", .str "both"), (.str "all", .str "some"), (.str "greatest", .str "least")]
def forths : List (D × D) := [(.str "yes", .str "no"), (.str "is", .str "isnt"), (.str "both", .str "either"), (.str "some", .str "all"), (.str "least", .str "greatest")]
theorem parts_dp {f g : Fm} (h : g ∈ f.parts) : g.dp < f.dp := by
  cases f <;> simp only [Fm.parts, List.mem_cons, List.not_mem_nil, or_false] at h <;> simp only [Fm.dp]
  all_goals first | (subst h; omega) | (rcases h with rfl | rfl <;> omega)
theorem parts_few (f : Fm) : f.parts.length ≤ 2 := by cases f <;> simp [Fm.parts]
theorem against_spec : ∀ (k : Nat) (f : Fm) (S : Store) (Q : PD), f.dp ≤ k → (∀ S', Ext S S' → Q (encF (neg f)) S') → F_against k [encF f] S Q
  | 0, f, _, _, hd, _ => by cases f <;> simp [Fm.dp] at hd
  | k + 1, f, S, Q, hd, h => by
    refine r_fn rfl ?_
    unfold b_against
    walk_at "s"
    intro few
    refine dc_inv (fun i acc S1 => Ext S S1 ∧ acc = backs.take i) few (new_at S _) ⟨Ext.app S _, rfl⟩ ?_ ?_
    · rintro i x acc S1 R hx h1 hl ⟨e1, rfl⟩ hR
      have put : ∀ (a b : D) (j : Nat), (toKey a).isSome = true → putD (backs.take j) a b = backs.take (j + 1) → j < 5 → S1[S.length]? = some (.dct (backs.take j)) → (∀ acc' S', S'[S.length]? = some (.dct acc') → acc'.length ≤ j + 1 → (Ext S S' ∧ acc' = backs.take (j + 1)) → R S') → ∃ acc, (toKey a).isSome = true ∧ S1[S.length]? = some (.dct acc) ∧ acc.length < sizeLine ∧ R (S1.set S.length (.dct (putD acc a b))) := fun a b j q1 q2 q3 q4 q5 => by
        have hl : (backs.take j).length ≤ 5 := by rw [List.length_take]; exact Nat.min_le_right _ _
        refine ⟨_, q1, q4, by simp only [sizeLine]; omega, ?_⟩
        rw [q2]
        exact q5 _ _ (set_at q4) (by rw [List.length_take]; exact Nat.min_le_left _ _) ⟨e1.put (Nat.le_refl _), rfl⟩
      match i, hx with
      | 0, hx =>
        cases hx
        refine ⟨trivial, ?_⟩
        walk_at "s"
        refine ⟨_, _, rfl, rfl, ?_⟩
        walk_at "s"
        exact put _ _ 0 rfl (by decide) (by decide) h1 hR
      | 1, hx =>
        cases hx
        refine ⟨trivial, ?_⟩
        walk_at "s"
        refine ⟨_, _, rfl, rfl, ?_⟩
        walk_at "s"
        exact put _ _ 1 rfl (by decide) (by decide) h1 hR
      | 2, hx =>
        cases hx
        refine ⟨trivial, ?_⟩
        walk_at "s"
        refine ⟨_, _, rfl, rfl, ?_⟩
        walk_at "s"
        exact put _ _ 2 rfl (by decide) (by decide) h1 hR
      | 3, hx =>
        cases hx
        refine ⟨trivial, ?_⟩
        walk_at "s"
        refine ⟨_, _, rfl, rfl, ?_⟩
        walk_at "s"
        exact put _ _ 3 rfl (by decide) (by decide) h1 hR
      | 4, hx =>
        cases hx
        refine ⟨trivial, ?_⟩
        walk_at "s"
        refine ⟨_, _, rfl, rfl, ?_⟩
        walk_at "s"
        exact put _ _ 4 rfl (by decide) (by decide) h1 hR
      | i + 5, hx => simp at hx
    rintro acc S1 h1 hl ⟨e1, rfl⟩
    have h1 : S1[S.length]? = some (.dct backs) := h1
    refine ⟨trivial, ?_⟩
    walk_at "s"
    refine for_inv (fun i σ S' => Ext S S' ∧ S'[S.length]? = some (.dct (backs ++ forths.take i)) ∧ ∃ s2 : Option D, σ = [some (encF f), some (.ref S.length), s2, none, none]) ⟨e1, h1, _, rfl⟩ ?_ ?_
    · rintro i x σ S2 R hx ⟨e2, h2, s2, rfl⟩ hR
      have put : ∀ (a b : D) (j : Nat), (toKey a).isSome = true → putD (backs ++ forths.take j) a b = backs ++ forths.take (j + 1) → j < 5 → S2[S.length]? = some (.dct (backs ++ forths.take j)) →
          (∀ σ' S', (Ext S S' ∧ S'[S.length]? = some (.dct (backs ++ forths.take (j + 1))) ∧ ∃ s2 : Option D, σ' = [some (encF f), some (.ref S.length), s2, none, none]) → R σ' S') → setF (.ref S.length) a b S2 fun S3 => R [some (encF f), some (.ref S.length), some a, none, none] S3 := fun a b j q1 q2 q3 q4 q5 => by
        have hl : (backs ++ forths.take j).length ≤ 10 := by
          rw [List.length_append, List.length_take]
          have : backs.length = 5 := rfl
          have : forths.length = 5 := rfl
          omega
        refine r_setD q4 q1 (by simp only [sizeLine]; omega) ?_
        rw [q2]
        exact q5 _ _ ⟨e2.put (Nat.le_refl _), set_at q4, _, rfl⟩
      match i, hx with
      | 0, hx =>
        cases hx
        refine ⟨trivial, ?_⟩
        walk_at "s"
        refine ⟨_, _, rfl, rfl, ?_⟩
        walk_at "s"
        exact put _ _ 0 rfl (by decide) (by decide) h2 hR
      | 1, hx =>
        cases hx
        refine ⟨trivial, ?_⟩
        walk_at "s"
        refine ⟨_, _, rfl, rfl, ?_⟩
        walk_at "s"
        exact put _ _ 1 rfl (by decide) (by decide) h2 hR
      | 2, hx =>
        cases hx
        refine ⟨trivial, ?_⟩
        walk_at "s"
        refine ⟨_, _, rfl, rfl, ?_⟩
        walk_at "s"
        exact put _ _ 2 rfl (by decide) (by decide) h2 hR
      | 3, hx =>
        cases hx
        refine ⟨trivial, ?_⟩
        walk_at "s"
        refine ⟨_, _, rfl, rfl, ?_⟩
        walk_at "s"
        exact put _ _ 3 rfl (by decide) (by decide) h2 hR
      | 4, hx =>
        cases hx
        refine ⟨trivial, ?_⟩
        walk_at "s"
        refine ⟨_, _, rfl, rfl, ?_⟩
        walk_at "s"
        exact put _ _ 4 rfl (by decide) (by decide) h2 hR
      | i + 5, hx => simp at hx
    rintro σ S2 ⟨e2, h2, s2, rfl⟩
    refine ⟨trivial, ?_⟩
    walk_at "s"
    refine r_iTup ?_
    walk_at "s"
    refine parts_spec ?_
    refine ⟨_, rfl, ?_⟩
    intro few
    refine lc_each f.parts encF (fun g => encF (neg g)) (Nat.le_trans (parts_few f) (by decide)) (fun _ _ => trivial) (fun g hg S3 P e3 hP => ?_) fun S3 e3 h3 => ?_
    · walk_at "s"
      exact against_spec k g S3 P (by have := parts_dp hg; omega) hP
    walk_at "s"
    refine with_spec (ps := f.parts.map neg) (by rw [List.length_map]) (by rw [h3, List.map_map]; rfl) ?_
    walk_at "s"
    have h4 := e3 _ _ h2
    have hd4 : dictD S3 (.ref S.length) = some (backs ++ forths.take 5) := by show dicC S3[S.length]? = _; rw [h4]; rfl
    refine ⟨⟨_, hd4⟩, ?_⟩
    walk_at "s"
    have fin := h S3 (e2.trans e3)
    cases f <;> (walk_at "s"; refine ⟨_, hd4, rfl, ?_⟩; walk_at "s"; refine r_slT rfl ?_; walk_at "s"; exact r_addT (Nat.le_of_ble_eq_true rfl) fin)
end PG
/-! SP8: all parts of a saying. -/
namespace PG
open PySem L2 SD
def Fm.sz : Fm → Nat
  | .both a b => a.sz + b.sz + 1
  | .either a b => a.sz + b.sz + 1
  | .some _ a => a.sz + 1
  | .all _ a => a.sz + 1
  | .least _ a => a.sz + 1
  | .greatest _ a => a.sz + 1
  | _ => 1
def szs (ws : List Fm) : Nat := (ws.map Fm.sz).sum
theorem szs_app (a b : List Fm) : szs (a ++ b) = szs a + szs b := by unfold szs; rw [List.map_append, List.sum_append]
theorem szs_one (a : Fm) : szs [a] = a.sz := by simp [szs]
theorem parts_sz (f : Fm) : szs f.parts.reverse + 1 = f.sz := by cases f <;> simp [Fm.parts, szs, Fm.sz] <;> omega
theorem sz_pos (f : Fm) : 1 ≤ f.sz := by cases f <;> simp [Fm.sz]
theorem sz_dp : ∀ f : Fm, f.sz + 1 ≤ 2 ^ f.dp
  | .yes | .no | .is _ | .isnt _ | .name _ => by simp [Fm.sz, Fm.dp]
  | .both a b | .either a b => by
    have ha := sz_dp a
    have hb := sz_dp b
    have h1 : 2 ^ a.dp ≤ 2 ^ max a.dp b.dp := Nat.pow_le_pow_right (by decide) (Nat.le_max_left _ _)
    have h2 : 2 ^ b.dp ≤ 2 ^ max a.dp b.dp := Nat.pow_le_pow_right (by decide) (Nat.le_max_right _ _)
    simp only [Fm.sz, Fm.dp, Nat.pow_succ]
    omega
  | .some _ a | .all _ a | .least _ a | .greatest _ a => by
    have ha := sz_dp a
    have := sz_pos a
    simp only [Fm.sz, Fm.dp, Nat.pow_succ]
    omega
theorem sz_le {f : Fm} {k : Nat} (h : f.dp ≤ k) : f.sz ≤ 2 ^ k := Nat.le_trans (Nat.le_trans (Nat.le_succ _) (sz_dp f)) (Nat.pow_le_pow_right (by decide) h)
theorem szs_len (ws : List Fm) : ws.length ≤ szs ws := by
  induction ws with
  | nil => exact Nat.le_refl _
  | cons w ws ih =>
    have := sz_pos w
    have e : szs (w :: ws) = w.sz + szs ws := by simp [szs]
    rw [e, List.length_cons]
    omega
theorem all_parts_spec {f : Fm} {S : Store} {Q : PD} (hd : f.dp ≤ 16) (h : ∀ (S' : Store) (n : Nat) (gs : List Fm), Ext S S' → S.length ≤ n → S'[n]? = some (.lst (gs.map encF)) → gs.length ≤ f.sz → Q (.ref n) S') : F_all_parts [encF f] S Q := by
  have hz : f.sz ≤ 65536 := sz_le hd
  refine r_fn rfl ?_
  unfold b_all_parts
  walk_at "s"
  have x1 : (S ++ [Cell.lst []]).length = S.length + 1 := by simp
  refine while_inv (fun k σ S' => ∃ (fs ws : List Fm) (s3 : Option D), szs ws = k ∧ fs.length + szs ws = f.sz ∧ σ = [some (encF f), some (.ref S.length), some (.ref (S.length + 1)), s3] ∧ Ext S S' ∧ S'[S.length]? = some (.lst (fs.map encF)) ∧ S'[S.length + 1]? = some (.lst (ws.map encF))) f.sz ?_ ?_
  · refine ⟨[], [f], _, szs_one f, by rw [szs_one]; simp, by rw [← x1]; rfl, (Ext.app _ _).trans (Ext.app _ _), ?_, ?_⟩
    · exact Ext.app _ _ _ _ (new_at S _)
    · rw [← x1]; exact new_at _ _
  · rintro k σ S1 R ⟨fs, ws, s3, rfl, hsum, rfl, e1, h1, h2⟩ hR
    walk_at "s"
    refine r_len (by show seqC S1[S.length + 1]? = _; rw [h2]; rfl) ?_
    walk_at "s"
    refine ite_b (fun hb => ?_) (fun hb => ?_)
    · have hb : ws ≠ [] := fun e => by subst e; simp at hb
      obtain ⟨ws', g, rfl⟩ : ∃ ws' g, ws = ws' ++ [g] := ⟨ws.dropLast, ws.getLast hb, (List.dropLast_concat_getLast hb).symm⟩
      have hs : szs (ws' ++ [g]) = szs ws' + g.sz := by rw [szs_app, szs_one]
      have hg := sz_pos g
      have hl1 := szs_len ws'
      walk_at "s"
      refine r_tyL h2 ?_
      walk_at "s"
      refine ⟨_, _, encF g, rfl, rfl, h2, by simp, ?_⟩
      have o1 := Off.set (S.length + 1) S1 (.lst ((ws' ++ [g]).map encF).dropLast)
      have h2' : (S1.set (S.length + 1) (.lst ((ws' ++ [g]).map encF).dropLast))[S.length + 1]? = some (.lst (ws'.map encF)) := by
        rw [set_at h2]; simp
      generalize S1.set (S.length + 1) (.lst ((ws' ++ [g]).map encF).dropLast) = S2 at o1 h2' ⊢
      have h1' := o1.ne (by omega) h1
      walk_at "s"
      refine r_tyL h1' ?_
      walk_at "s"
      refine r_app h1' (by rw [List.length_map]; simp only [sizeLine]; omega) fun S3 q3 o3 => ?_
      have h2'' := o3.ne (by omega) h2'
      walk_at "s"
      refine r_tyL h2'' ?_
      walk_at "s"
      refine parts_spec ?_
      walk_at "s"
      refine r_list rfl ?_
      refine ⟨_, _, rfl, new_at S3 _, ?_⟩
      walk_at "s"
      have pf := parts_few g
      refine ⟨_, _, _, _, rfl, rfl, Ext.app _ _ _ _ (Ext.app _ _ _ _ h2''), new_at _ _, by simp only [List.length_map, List.length_reverse, sizeLine]; omega, ?_⟩
      have ps := parts_sz g
      have o4 : ∀ (c : Cell) (i : Nat), i < S.length + 1 → ((S3 ++ [Cell.lst (g.parts.map encF)] ++ [Cell.lst (g.parts.map encF).reverse]).set (S.length + 1) c)[i]? = S3[i]? := fun c i hi => by
        have : S.length + 1 < S3.length := (List.getElem?_eq_some_iff.mp h2'').1
        rw [set_off (by omega), List.getElem?_append_left (by simp; omega), List.getElem?_append_left (by omega)]
      refine hR (szs (ws' ++ g.parts.reverse)) _ _ (by rw [szs_app, hs]; omega) ⟨fs ++ [g], ws' ++ g.parts.reverse, _, rfl, by rw [szs_app, List.length_append, List.length_singleton]; rw [hs] at hsum; omega, rfl, ?_, ?_, ?_⟩
      · intro i c hi
        have : i < S.length := (List.getElem?_eq_some_iff.mp hi).1
        rw [o4 _ _ (by omega), o3.off i (by omega), o1.off i (by omega)]
        exact e1 i c hi
      · rw [o4 _ _ (by omega), q3]
        simp
      · rw [set_at (Ext.app _ _ _ _ (Ext.app _ _ _ _ h2''))]
        simp
    · have hb : ws = [] := by
        cases ws with
        | nil => rfl
        | cons w ws =>
          have := of_decide_eq_false hb
          simp at this <;> omega
      subst hb
      walk_at "s"
      refine h S1 _ fs e1 (Nat.le_refl _) h1 ?_
      have : szs [] = 0 := rfl
      omega
end PG
/-! SP9: closed sayings, drawn. -/
namespace PG
open PySem L2 SD
def drawnDp (deep : Int) : Nat := max (deep.toNat + 2) (max ((deep - 2).toNat + 1) 2 + 4)
theorem drawn_spec {p q L0 L1 : Nat} {deep : Int} {S : Store} {Q : PD} (P : PoolOk p q S) (l1 : 1 ≤ L0) (l2 : L0 ≤ 1000) (m1 : 1 ≤ L1) (m2 : L1 ≤ 1000) (hd : deep ≤ 5) (h0 : 0 ≤ deep)
    (h : ∀ S' f, OkF L0 L1 [] [] f → f.dp ≤ drawnDp deep → f.bnds.Nodup → (∀ x ∈ f.bnds, x < 5) → PoolOk p q S' → ExtB [p] S S' → Q (encF f) S') :
    F__law_drawn [.ref p, .tup [.int (L0 : Nat), .int (L1 : Nat)], .int deep] S Q := by
  have drop : ∀ {S0 S1 : Store} {st : Nat}, ExtB [p, st] S0 S1 → S.length ≤ st → ExtB [p] S S0 → ExtB [p] S S1 := fun e hs e0 => ⟨Nat.le_trans e0.1 e.1, fun i hi c hc => e.2 i (by
    have := (List.getElem?_eq_some_iff.mp hc).1
    simp at hi ⊢
    exact ⟨hi, by omega⟩) c (e0.2 i hi c hc)⟩
  have rn : ∀ a b : Nat, (List.range' a (b - a)).Nodup ∧ (∀ x ∈ List.range' a (b - a), a ≤ x ∧ x < max a b) := fun a b => by
    refine ⟨List.nodup_range', fun x hx => ?_⟩
    rw [List.mem_range'_1] at hx
    omega
  refine r_fn rfl ?_
  unfold b__law_drawn
  walk_at "s"
  refine draw_spec P (by decide) (by decide) fun S1 first hf P1 o1 => ?_
  have e1 : ExtB [p] S S1 := o1.b (by simp)
  by_cases c0 : first = 0
  · subst c0
    walk_at "s"
    refine draw_spec P1 (by decide) (by decide) fun S2 kind hk P2 o2 => ?_
    have e2 : ExtB [p] S S2 := e1.trans (o2.b (by simp))
    walk_at "s"
    have key := fun Q => saying_spec 8 (deep - 2) p q S2.length L0 L1 [0, 1] [] [.int 0, .int 1] (S2 ++ [.lst [.int 0, .int 1]]) Q (by omega) (P2.ext (Ext.app _ _)) l1 l2 m1 m2 (Nat.ne_of_gt P2.lt) (Nat.ne_of_gt P2.lt2) (new_at _ _) (by simp) (by simp) (by simp)
    rw [show encP [0, 1] = .tup [.int 0, .int 1] from rfl, show encP [] = .tup [] from rfl] at key
    refine key _ fun S3 f0 ys' f1 f2 f3 f4 f5 P3 _ e3 => ?_
    have f3 : 2 ≤ ys'.length := f3
    have f5 : f0.bnds = List.range' 2 (ys'.length - 2) := f5
    have e3 := drop e3 e2.1 (e2.trans ((Ext.app S2 _).b _))
    obtain ⟨r1, r2⟩ := rn 2 ys'.length
    walk_at "s"
    refine draw_spec P3 (by omega) (by omega) fun S4 j hj P4 o4 => ?_
    have e4 : ExtB [p] S S4 := e3.trans (o4.b (by simp))
    walk_at "s"
    refine draw_spec P4 (by omega) (by omega) fun S5 sa hsa P5 o5 => ?_
    have e5 : ExtB [p] S S5 := e4.trans (o5.b (by simp))
    have hj : j < L1 := by omega
    have nd : (0 :: 1 :: f0.bnds).Nodup := by
      rw [f5, List.nodup_cons, List.nodup_cons]
      refine ⟨fun z => ?_, fun z => ?_, r1⟩
      · rw [List.mem_cons] at z
        rcases z with z | z
        · omega
        · have := (r2 0 z).1; omega
      · have := (r2 1 z).1; omega
    have small : ∀ x ∈ (0 :: 1 :: f0.bnds), x < 5 := fun x hx => by
      rw [List.mem_cons, List.mem_cons, f5] at hx
      rcases hx with rfl | rfl | hx
      · omega
      · omega
      · have := (r2 x hx).2; omega
    match kind, hk, sa, hsa with
    | 0, _, 0, _ =>
      walk_at "s"
      exact h S5 (.greatest 0 (.least 1 (.either (.both f0 (.some j (.name 0))) (.some 0 (.name 1))))) ⟨⟨f1, hj, by simp [OkF]⟩, by omega, by simp [OkF]⟩ (by simp only [Fm.dp, drawnDp]; omega) (by simpa [Fm.bnds] using nd) (by simpa [Fm.bnds] using small) P5 e5
    | 0, _, 1, _ =>
      walk_at "s"
      exact h S5 (.greatest 0 (.least 1 (.either (.both f0 (.some j (.name 0))) (.all 0 (.name 1))))) ⟨⟨f1, hj, by simp [OkF]⟩, by omega, by simp [OkF]⟩ (by simp only [Fm.dp, drawnDp]; omega) (by simpa [Fm.bnds] using nd) (by simpa [Fm.bnds] using small) P5 e5
    | 1, _, 0, _ =>
      walk_at "s"
      exact h S5 (.least 0 (.greatest 1 (.either (.both f0 (.some j (.name 0))) (.some 0 (.name 1))))) ⟨⟨f1, hj, by simp [OkF]⟩, by omega, by simp [OkF]⟩ (by simp only [Fm.dp, drawnDp]; omega) (by simpa [Fm.bnds] using nd) (by simpa [Fm.bnds] using small) P5 e5
    | 1, _, 1, _ =>
      walk_at "s"
      exact h S5 (.least 0 (.greatest 1 (.either (.both f0 (.some j (.name 0))) (.all 0 (.name 1))))) ⟨⟨f1, hj, by simp [OkF]⟩, by omega, by simp [OkF]⟩ (by simp only [Fm.dp, drawnDp]; omega) (by simpa [Fm.bnds] using nd) (by simpa [Fm.bnds] using small) P5 e5
    | k + 2, hk, _, _ => omega
    | 0, _, s + 2, hs => omega
    | 1, _, s + 2, hs => omega
  walk_at "s"
  refine r_ifF (decide_eq_false (by omega)) ?_
  walk_at "s"
  by_cases c1 : first = 1
  · subst c1
    walk_at "s"
    refine draw_spec P1 (by decide) (by decide) fun S2 kind hk P2 o2 => ?_
    have e2 : ExtB [p] S S2 := e1.trans (o2.b (by simp))
    have key := fun Q => saying_spec 8 deep p q S2.length L0 L1 [0] [] [.int 0] (S2 ++ [.lst [.int 0]]) Q (by omega) (P2.ext (Ext.app _ _)) l1 l2 m1 m2 (Nat.ne_of_gt P2.lt) (Nat.ne_of_gt P2.lt2) (new_at _ _) (by simp) (by simp) (by simp)
    rw [show encP [0] = .tup [.int 0] from rfl, show encP [] = .tup [] from rfl] at key
    match kind, hk with
    | 0, _ =>
      walk_at "s"
      refine key _ fun S3 f0 ys' f1 f2 f3 f4 f5 P3 _ e3 => ?_
      obtain ⟨r1, r2⟩ := rn 1 ys'.length
      have f3 : 1 ≤ ys'.length := f3
      have f5 : f0.bnds = List.range' 1 (ys'.length - 1) := f5
      walk_at "s"
      exact h S3 (.least 0 f0) f1 (by simp only [Fm.dp, drawnDp]; omega) (by rw [Fm.bnds, f5, List.nodup_cons]; exact ⟨fun z => by have := (r2 0 z).1; omega, r1⟩) (fun x hx => by
        rw [Fm.bnds, f5, List.mem_cons] at hx
        rcases hx with rfl | hx
        · omega
        · have := (r2 x hx).2; omega) P3 (drop e3 e2.1 (e2.trans ((Ext.app S2 _).b _)))
    | 1, _ =>
      walk_at "s"
      refine key _ fun S3 f0 ys' f1 f2 f3 f4 f5 P3 _ e3 => ?_
      obtain ⟨r1, r2⟩ := rn 1 ys'.length
      have f3 : 1 ≤ ys'.length := f3
      have f5 : f0.bnds = List.range' 1 (ys'.length - 1) := f5
      walk_at "s"
      exact h S3 (.greatest 0 f0) f1 (by simp only [Fm.dp, drawnDp]; omega) (by rw [Fm.bnds, f5, List.nodup_cons]; exact ⟨fun z => by have := (r2 0 z).1; omega, r1⟩) (fun x hx => by
        rw [Fm.bnds, f5, List.mem_cons] at hx
        rcases hx with rfl | hx
        · omega
        · have := (r2 x hx).2; omega) P3 (drop e3 e2.1 (e2.trans ((Ext.app S2 _).b _)))
    | k + 2, hk => omega
  refine r_ifF (decide_eq_false (by omega)) ?_
  walk_at "s"
  have key := fun Q => saying_spec 8 (deep + 1) p q S1.length L0 L1 [] [] [] (S1 ++ [.lst []]) Q (by omega) (P1.ext (Ext.app _ _)) l1 l2 m1 m2 (Nat.ne_of_gt P1.lt) (Nat.ne_of_gt P1.lt2) (new_at _ _) (by simp) (by simp) (by simp)
  rw [show encP [] = .tup [] from rfl] at key
  refine key _ fun S3 f0 ys' f1 f2 f3 f4 f5 P3 _ e3 => ?_
  obtain ⟨r1, r2⟩ := rn 0 ys'.length
  have f5 : f0.bnds = List.range' 0 (ys'.length - 0) := f5
  exact h S3 f0 f1 (by simp only [drawnDp]; omega) (by rw [f5]; exact r1) (fun x hx => by rw [f5] at hx; have := (r2 x hx).2; omega) P3 (drop e3 e1.1 (e1.trans ((Ext.app S1 _).b _)))
end PG
/-! SM2: turned round is the rest; other names say the same. -/
namespace PG
theorem Wd.way_lt {L0 L1 : Nat} {w : Wd} (hw : OkW L0 L1 w) {j k g : Nat} (h : g ∈ w.way j k) : g < w.n := by
  unfold Wd.way at h
  rw [List.getD_eq_getElem?_getD, List.getD_eq_getElem?_getD] at h
  cases e : w.ways[j]? with
  | none => rw [e] at h; simp at h
  | some r =>
    rw [e, Option.getD_some] at h
    cases e2 : r[k]? with
    | none => rw [e2] at h; simp at h
    | some ks =>
      rw [e2, Option.getD_some] at h
      exact (hw.row r (List.mem_of_getElem? e) ks (List.mem_of_getElem? e2)).2 g h
def co (n : Nat) (X : List Nat) : List Nat := canon n fun k => !decide (k ∈ X)
theorem mem_co {n k : Nat} {X : List Nat} : k ∈ co n X ↔ k < n ∧ k ∉ X := by
  unfold co; rw [mem_canon]; simp
theorem co_ok (n : Nat) (X : List Nat) : OkSub n (co n X) := canon_ok _ _
theorem co_nil (n : Nat) : co n [] = List.range n := (co_ok n _).ext (range_ok n) fun j => by rw [mem_co]; simp
theorem co_range (n : Nat) : co n (List.range n) = [] := (co_ok n _).ext (nil_ok n) fun j => by rw [mem_co]; simp
theorem canon_congr {n : Nat} {p q : Nat → Bool} (h : ∀ k, k < n → p k = q k) : canon n p = canon n q := by
  refine (canon_ok n p).ext (canon_ok n q) fun j => ?_
  rw [mem_canon, mem_canon]
  constructor
  · exact fun ⟨a, b⟩ => ⟨a, (h j a) ▸ b⟩
  · exact fun ⟨a, b⟩ => ⟨a, (h j a) ▸ b⟩
def coE (n : Nat) (ρ : Env) : Env := fun x => co n (ρ x)
theorem coE_up (n : Nat) (ρ : Env) (x : Nat) (X : List Nat) : up (coE n ρ) x (co n X) = coE n (up ρ x X) := by
  funext y
  show (if y = x then co n X else co n (ρ y)) = co n (if y = x then X else ρ y)
  split <;> rfl
theorem it_co {n : Nat} {F G : List Nat → List Nat} (h : ∀ Y, OkSub n Y → G (co n Y) = co n (F Y)) (ho : ∀ Y, OkSub n Y → OkSub n (F Y)) {Y : List Nat} (hY : OkSub n Y) : ∀ t, it G t (co n Y) = co n (it F t Y)
  | 0 => rfl
  | t + 1 => by
    show G (it G t (co n Y)) = _
    rw [it_co h ho hY t, h _ (it_ok ho hY t)]
    rfl
theorem sem_neg {L0 L1 : Nat} {w : Wd} (hw : OkW L0 L1 w) : ∀ (f : Fm) (ρ : Env), EnvOk w.n ρ → sem w (neg f) (coE w.n ρ) = co w.n (sem w f ρ)
  | .yes, _, _ => by rw [neg, sem, sem, co_range]
  | .no, _, _ => by rw [neg, sem, sem, co_nil]
  | .is i, _, _ => by
    rw [neg, sem, sem]
    exact canon_congr fun k hk => by simp [mem_canon, hk]
  | .isnt i, _, _ => by
    rw [neg, sem, sem]
    exact canon_congr fun k hk => by simp [mem_canon, hk]
  | .name x, _, _ => rfl
  | .both a b, ρ, h => by
    rw [neg, sem, sem, sem_neg hw a ρ h, sem_neg hw b ρ h]
    exact canon_congr fun k hk => by by_cases p : k ∈ sem w a ρ <;> by_cases q : k ∈ sem w b ρ <;> simp [mem_canon, mem_co, hk, p, q]
  | .either a b, ρ, h => by
    rw [neg, sem, sem, sem_neg hw a ρ h, sem_neg hw b ρ h]
    exact canon_congr fun k hk => by by_cases p : k ∈ sem w a ρ <;> by_cases q : k ∈ sem w b ρ <;> simp [mem_canon, mem_co, hk, p, q]
  | .some j a, ρ, h => by
    rw [neg, sem, sem, sem_neg hw a ρ h]
    refine canon_congr fun k hk => ?_
    rw [Bool.eq_iff_iff]
    simp only [List.all_eq_true, decide_eq_true_eq, Bool.not_eq_true', decide_eq_false_iff_not, mem_canon, List.any_eq_true, mem_co]
    constructor
    · rintro q ⟨_, g, h1, h2⟩
      exact (q g h1).2 h2
    · exact fun q g hg => ⟨w.way_lt hw hg, fun h2 => q ⟨hk, g, hg, h2⟩⟩
  | .all j a, ρ, h => by
    rw [neg, sem, sem, sem_neg hw a ρ h]
    refine canon_congr fun k hk => ?_
    rw [Bool.eq_iff_iff]
    simp only [List.all_eq_true, decide_eq_true_eq, Bool.not_eq_true', decide_eq_false_iff_not, mem_canon, List.any_eq_true, mem_co]
    constructor
    · rintro ⟨g, h1, _, h2⟩ ⟨_, q⟩
      exact h2 (q g h1)
    · intro q
      refine Classical.byContradiction fun z => q ⟨hk, fun g hg => Classical.byContradiction fun h2 => z ⟨g, hg, w.way_lt hw hg, h2⟩⟩
  | .least x a, ρ, h => by
    rw [neg, sem, sem, ← co_nil]
    refine it_co (fun Y hY => ?_) (fun Y hY => sem_ok w a _ (h.up hY x)) (nil_ok _) _
    show sem w (neg a) (up (coE w.n ρ) x (co w.n Y)) = _
    rw [coE_up, sem_neg hw a _ (h.up hY x)]
  | .greatest x a, ρ, h => by
    rw [neg, sem, sem, ← co_range]
    refine it_co (fun Y hY => ?_) (fun Y hY => sem_ok w a _ (h.up hY x)) (range_ok _) _
    show sem w (neg a) (up (coE w.n ρ) x (co w.n Y)) = _
    rw [coE_up, sem_neg hw a _ (h.up hY x)]
theorem it_congr {F G : List Nat → List Nat} (h : ∀ X, F X = G X) (x : List Nat) (t : Nat) : it F t x = it G t x := by rw [show F = G from funext h]
/-- the same with other names: nm says the name that stands for each -/
def Ren : List Nat → (Nat → Nat) → Fm → Fm → Prop
  | _, nm, .name x, f' => f' = .name (nm x)
  | sc, nm, .both a b, f' => ∃ a' b', f' = .both a' b' ∧ Ren sc nm a a' ∧ Ren sc nm b b'
  | sc, nm, .either a b, f' => ∃ a' b', f' = .either a' b' ∧ Ren sc nm a a' ∧ Ren sc nm b b'
  | sc, nm, .some j a, f' => ∃ a', f' = .some j a' ∧ Ren sc nm a a'
  | sc, nm, .all j a, f' => ∃ a', f' = .all j a' ∧ Ren sc nm a a'
  | sc, nm, .least x a, f' => ∃ y a', f' = .least y a' ∧ (∀ z ∈ sc, z ≠ x → nm z ≠ y) ∧ Ren (x :: sc) (fun z => if z = x then y else nm z) a a'
  | sc, nm, .greatest x a, f' => ∃ y a', f' = .greatest y a' ∧ (∀ z ∈ sc, z ≠ x → nm z ≠ y) ∧ Ren (x :: sc) (fun z => if z = x then y else nm z) a a'
  | _, _, f, f' => f' = f
theorem ren_up {sc : List Nat} {nm : Nat → Nat} {ρ ρ' : Env} {x y : Nat} {X : List Nat} (hy : ∀ z ∈ sc, z ≠ x → nm z ≠ y) (h : ∀ z ∈ sc, ρ' (nm z) = ρ z) : ∀ z ∈ x :: sc, up ρ' y X (if z = x then y else nm z) = up ρ x X z := by
  intro z hz
  by_cases e : z = x
  · subst e; rw [if_pos rfl, up_self, up_self]
  · rw [if_neg e, up_ne _ _ e]
    rw [List.mem_cons] at hz
    have hz := hz.resolve_left e
    rw [up_ne _ _ (hy z hz e), h z hz]
theorem sem_ren (w : Wd) {L0 L1 : Nat} : ∀ (f f' : Fm) (sc : List Nat) (nm : Nat → Nat) (ρ ρ' : Env), Ren sc nm f f' → Sc L0 L1 sc f → (∀ z ∈ sc, ρ' (nm z) = ρ z) → sem w f' ρ' = sem w f ρ
  | .yes, _, _, _, _, _, h, _, _ => by cases (show _ = _ from h); rfl
  | .no, _, _, _, _, _, h, _, _ => by cases (show _ = _ from h); rfl
  | .is _, _, _, _, _, _, h, _, _ => by cases (show _ = _ from h); rfl
  | .isnt _, _, _, _, _, _, h, _, _ => by cases (show _ = _ from h); rfl
  | .name x, _, _, _, _, _, h, hs, he => by cases (show _ = _ from h); exact he x hs
  | .both a b, _, sc, nm, ρ, ρ', ⟨a', b', h0, h1, h2⟩, hs, he => by subst h0; rw [sem, sem, sem_ren w a a' sc nm ρ ρ' h1 hs.1 he, sem_ren w b b' sc nm ρ ρ' h2 hs.2 he]
  | .either a b, _, sc, nm, ρ, ρ', ⟨a', b', h0, h1, h2⟩, hs, he => by subst h0; rw [sem, sem, sem_ren w a a' sc nm ρ ρ' h1 hs.1 he, sem_ren w b b' sc nm ρ ρ' h2 hs.2 he]
  | .some j a, _, sc, nm, ρ, ρ', ⟨a', h0, h1⟩, hs, he => by subst h0; rw [sem, sem, sem_ren w a a' sc nm ρ ρ' h1 hs.2 he]
  | .all j a, _, sc, nm, ρ, ρ', ⟨a', h0, h1⟩, hs, he => by subst h0; rw [sem, sem, sem_ren w a a' sc nm ρ ρ' h1 hs.2 he]
  | .least x a, _, sc, nm, ρ, ρ', ⟨y, a', h0, h1, h2⟩, hs, he => by
    subst h0
    rw [sem, sem]
    exact it_congr (fun X => sem_ren w a a' _ _ _ _ h2 hs (ren_up h1 he)) _ _
  | .greatest x a, _, sc, nm, ρ, ρ', ⟨y, a', h0, h1, h2⟩, hs, he => by
    subst h0
    rw [sem, sem]
    exact it_congr (fun X => sem_ren w a a' _ _ _ _ h2 hs (ren_up h1 he)) _ _
theorem ren_dp : ∀ (f f' : Fm) (sc : List Nat) (nm : Nat → Nat), Ren sc nm f f' → f'.dp = f.dp
  | .yes, _, _, _, h => by cases (show _ = _ from h); rfl
  | .no, _, _, _, h => by cases (show _ = _ from h); rfl
  | .is _, _, _, _, h => by cases (show _ = _ from h); rfl
  | .isnt _, _, _, _, h => by cases (show _ = _ from h); rfl
  | .name x, _, _, _, h => by cases (show _ = _ from h); rfl
  | .both a b, _, sc, nm, ⟨a', b', h0, h1, h2⟩ => by subst h0; rw [Fm.dp, Fm.dp, ren_dp a a' sc nm h1, ren_dp b b' sc nm h2]
  | .either a b, _, sc, nm, ⟨a', b', h0, h1, h2⟩ => by subst h0; rw [Fm.dp, Fm.dp, ren_dp a a' sc nm h1, ren_dp b b' sc nm h2]
  | .some j a, _, sc, nm, ⟨a', h0, h1⟩ => by subst h0; rw [Fm.dp, Fm.dp, ren_dp a a' sc nm h1]
  | .all j a, _, sc, nm, ⟨a', h0, h1⟩ => by subst h0; rw [Fm.dp, Fm.dp, ren_dp a a' sc nm h1]
  | .least x a, _, sc, nm, ⟨y, a', h0, h1, h2⟩ => by subst h0; rw [Fm.dp, Fm.dp, ren_dp a a' _ _ h2]
  | .greatest x a, _, sc, nm, ⟨y, a', h0, h1, h2⟩ => by subst h0; rw [Fm.dp, Fm.dp, ren_dp a a' _ _ h2]
theorem Sc.mono {L0 L1 : Nat} : ∀ (f : Fm) (sc sc' : List Nat), Sc L0 L1 sc f → (∀ x ∈ sc, x ∈ sc') → Sc L0 L1 sc' f
  | .yes, _, _, _, _ => trivial
  | .no, _, _, _, _ => trivial
  | .is _, _, _, h, _ => h
  | .isnt _, _, _, h, _ => h
  | .name x, _, _, h, m => m x h
  | .both a b, sc, sc', h, m => ⟨Sc.mono a sc sc' h.1 m, Sc.mono b sc sc' h.2 m⟩
  | .either a b, sc, sc', h, m => ⟨Sc.mono a sc sc' h.1 m, Sc.mono b sc sc' h.2 m⟩
  | .some j a, sc, sc', h, m => ⟨h.1, Sc.mono a sc sc' h.2 m⟩
  | .all j a, sc, sc', h, m => ⟨h.1, Sc.mono a sc sc' h.2 m⟩
  | .least x a, sc, sc', h, m => Sc.mono a _ _ h fun y hy => by
    rw [List.mem_cons] at hy ⊢
    exact hy.imp id (m y)
  | .greatest x a, sc, sc', h, m => Sc.mono a _ _ h fun y hy => by
    rw [List.mem_cons] at hy ⊢
    exact hy.imp id (m y)
theorem ren_sc {L0 L1 : Nat} : ∀ (f f' : Fm) (sc : List Nat) (nm : Nat → Nat), Ren sc nm f f' → Sc L0 L1 sc f → Sc L0 L1 (sc.map nm) f'
  | .yes, _, _, _, h, _ => by cases (show _ = _ from h); trivial
  | .no, _, _, _, h, _ => by cases (show _ = _ from h); trivial
  | .is _, _, _, _, h, hs => by cases (show _ = _ from h); exact hs
  | .isnt _, _, _, _, h, hs => by cases (show _ = _ from h); exact hs
  | .name x, _, _, _, h, hs => by cases (show _ = _ from h); exact List.mem_map.mpr ⟨x, hs, rfl⟩
  | .both a b, _, sc, nm, ⟨a', b', h0, h1, h2⟩, hs => by subst h0; exact ⟨ren_sc a a' sc nm h1 hs.1, ren_sc b b' sc nm h2 hs.2⟩
  | .either a b, _, sc, nm, ⟨a', b', h0, h1, h2⟩, hs => by subst h0; exact ⟨ren_sc a a' sc nm h1 hs.1, ren_sc b b' sc nm h2 hs.2⟩
  | .some j a, _, sc, nm, ⟨a', h0, h1⟩, hs => by subst h0; exact ⟨hs.1, ren_sc a a' sc nm h1 hs.2⟩
  | .all j a, _, sc, nm, ⟨a', h0, h1⟩, hs => by subst h0; exact ⟨hs.1, ren_sc a a' sc nm h1 hs.2⟩
  | .least x a, _, sc, nm, ⟨y, a', h0, h1, h2⟩, hs => by
    subst h0
    refine Sc.mono a' _ _ (ren_sc a a' _ _ h2 hs) fun z hz => ?_
    obtain ⟨u, hu, rfl⟩ := List.mem_map.mp hz
    show (if u = x then y else nm u) ∈ _
    split
    · exact List.mem_cons_self
    · rename_i q
      rw [List.mem_cons] at hu
      exact List.mem_cons_of_mem _ (List.mem_map.mpr ⟨u, hu.resolve_left q, rfl⟩)
  | .greatest x a, _, sc, nm, ⟨y, a', h0, h1, h2⟩, hs => by
    subst h0
    refine Sc.mono a' _ _ (ren_sc a a' _ _ h2 hs) fun z hz => ?_
    obtain ⟨u, hu, rfl⟩ := List.mem_map.mp hz
    show (if u = x then y else nm u) ∈ _
    split
    · exact List.mem_cons_self
    · rename_i q
      rw [List.mem_cons] at hu
      exact List.mem_cons_of_mem _ (List.mem_map.mpr ⟨u, hu.resolve_left q, rfl⟩)
/-- what is said leans on the names in scope only -/
theorem sem_congr (w : Wd) {L0 L1 : Nat} : ∀ (f : Fm) (sc : List Nat) (ρ ρ' : Env), Sc L0 L1 sc f → (∀ z ∈ sc, ρ z = ρ' z) → sem w f ρ = sem w f ρ'
  | .yes, _, _, _, _, _ => rfl
  | .no, _, _, _, _, _ => rfl
  | .is _, _, _, _, _, _ => rfl
  | .isnt _, _, _, _, _, _ => rfl
  | .name x, _, _, _, hs, he => he x hs
  | .both a b, sc, ρ, ρ', hs, he => by rw [sem, sem, sem_congr w a sc ρ ρ' hs.1 he, sem_congr w b sc ρ ρ' hs.2 he]
  | .either a b, sc, ρ, ρ', hs, he => by rw [sem, sem, sem_congr w a sc ρ ρ' hs.1 he, sem_congr w b sc ρ ρ' hs.2 he]
  | .some j a, sc, ρ, ρ', hs, he => by rw [sem, sem, sem_congr w a sc ρ ρ' hs.2 he]
  | .all j a, sc, ρ, ρ', hs, he => by rw [sem, sem, sem_congr w a sc ρ ρ' hs.2 he]
  | .least x a, sc, ρ, ρ', hs, he => by
    rw [sem, sem]
    refine it_congr (fun X => sem_congr w a _ _ _ hs fun z hz => ?_) _ _
    unfold up
    split
    · rfl
    · rename_i q
      rw [List.mem_cons] at hz
      exact he z (hz.resolve_left q)
  | .greatest x a, sc, ρ, ρ', hs, he => by
    rw [sem, sem]
    refine it_congr (fun X => sem_congr w a _ _ _ hs fun z hz => ?_) _ _
    unfold up
    split
    · rfl
    · rename_i q
      rw [List.mem_cons] at hz
      exact he z (hz.resolve_left q)
theorem sem_closed (w : Wd) {L0 L1 : Nat} {f : Fm} (h : Sc L0 L1 [] f) (ρ : Env) : sem w f ρ = sem w f ρ0 := sem_congr w f [] ρ ρ0 h fun z hz => by cases hz
theorem neg_dp : ∀ f : Fm, (neg f).dp = f.dp
  | .yes | .no | .is _ | .isnt _ | .name _ => rfl
  | .both a b | .either a b => by rw [neg, Fm.dp, Fm.dp, neg_dp a, neg_dp b]
  | .some _ a | .all _ a | .least _ a | .greatest _ a => by rw [neg, Fm.dp, Fm.dp, neg_dp a]
theorem neg_sc {L0 L1 : Nat} : ∀ (f : Fm) (sc : List Nat), Sc L0 L1 sc f → Sc L0 L1 sc (neg f)
  | .yes, _, _ => trivial
  | .no, _, _ => trivial
  | .is _, _, h => h
  | .isnt _, _, h => h
  | .name x, _, h => h
  | .both a b, sc, h => ⟨neg_sc a sc h.1, neg_sc b sc h.2⟩
  | .either a b, sc, h => ⟨neg_sc a sc h.1, neg_sc b sc h.2⟩
  | .some j a, sc, h => ⟨h.1, neg_sc a sc h.2⟩
  | .all j a, sc, h => ⟨h.1, neg_sc a sc h.2⟩
  | .least x a, sc, h => neg_sc a _ h
  | .greatest x a, sc, h => neg_sc a _ h
/-- of a closed saying: turned round holds at all other places -/
theorem closed_neg {L0 L1 : Nat} {w : Wd} (hw : OkW L0 L1 w) {f : Fm} (h : Sc L0 L1 [] f) : sem w (neg f) ρ0 = co w.n (sem w f ρ0) := by
  rw [← sem_neg hw f ρ0 (ρ0_ok _), sem_closed w (neg_sc f [] h) (coE w.n ρ0)]
end PG
/-! SNa: dicts whose keys are tuples: what stands for what, and the bare rules. -/
namespace SD
open PySem PySem.Spec PyProof.Rows L2
/-! ### keys -/
mutual
def toNK : D → Option NestedKey
  | .non => some .none
  | .int i => some (.num i)
  | .str x => some (.text x)
  | .tup xs => (toNKs xs).map .tup
  | _ => none
def toNKs : List D → Option (List NestedKey)
  | [] => some []
  | x :: xs => (toNK x).bind fun k => (toNKs xs).map fun ks => k :: ks
end
mutual
theorem toNK_eq : ∀ (d : D) (k : NestedKey), toNK d = some k → d = keyN k
  | .non, k, h => by cases h; rfl
  | .int i, k, h => by cases h; rfl
  | .str x, k, h => by cases h; rfl
  | .tup xs, k, h => by
    rw [toNK] at h
    obtain ⟨ks, e, rfl⟩ := Option.map_eq_some_iff.mp h
    rw [keyN, toNKs_eq xs ks e]
  | .bl _, k, h => by simp [toNK] at h
  | .frz _, k, h => by simp [toNK] at h
  | .ref _, k, h => by simp [toNK] at h
theorem toNKs_eq : ∀ (ds : List D) (ks : List NestedKey), toNKs ds = some ks → ds = keyNs ks
  | [], ks, h => by cases h; rfl
  | d :: ds, ks, h => by
    rw [toNKs] at h
    obtain ⟨k, e, h⟩ := Option.bind_eq_some_iff.mp h
    obtain ⟨ks', e', rfl⟩ := Option.map_eq_some_iff.mp h
    rw [keyNs, toNK_eq d k e, toNKs_eq ds ks' e']
end
mutual
theorem keyN_inj : ∀ a b : NestedKey, keyN a = keyN b → a = b
  | .none, b, h => by cases b <;> first | rfl | (simp [keyN] at h)
  | .num i, b, h => by cases b <;> simp [keyN] at h; rw [h]
  | .text i, b, h => by cases b <;> simp [keyN] at h; rw [h]
  | .tup xs, b, h => by
    cases b with
    | tup ys =>
      simp only [keyN, D.tup.injEq] at h
      rw [keyNs_inj xs ys h]
    | none => simp [keyN] at h
    | num _ => simp [keyN] at h
    | text _ => simp [keyN] at h
theorem keyNs_inj : ∀ a b : List NestedKey, keyNs a = keyNs b → a = b
  | [], b, h => by cases b <;> first | rfl | (simp [keyNs] at h)
  | x :: xs, b, h => by
    cases b with
    | nil => simp [keyNs] at h
    | cons y ys =>
      simp only [keyNs, List.cons.injEq] at h
      rw [keyN_inj x y h.1, keyNs_inj xs ys h.2]
end
mutual
theorem toNK_keyN : ∀ k : NestedKey, toNK (keyN k) = some k
  | .none => rfl
  | .num _ => rfl
  | .text _ => rfl
  | .tup ks => by rw [keyN, toNK, toNKs_keyNs ks]; rfl
theorem toNKs_keyNs : ∀ ks : List NestedKey, toNKs (keyNs ks) = some ks
  | [] => rfl
  | k :: ks => by rw [keyNs, toNKs, toNK_keyN k, toNKs_keyNs ks]; rfl
end
/-- d may be a key of a dict by tuples -/
def tkD (d : D) : Bool := match d with
  | .tup _ => match toNK d with
    | some k => decide (k.depth ≤ 8)
    | none => false
  | _ => false
theorem tk_of {d : D} (h : tkD d = true) : ∃ k, d = keyN k ∧ k.depth ≤ 8 ∧ ∃ xs, d = .tup xs := by
  unfold tkD at h
  cases d with
  | tup xs =>
    simp only at h
    cases e : toNK (.tup xs) with
    | none => rw [e] at h; cases h
    | some k =>
      rw [e] at h
      exact ⟨k, toNK_eq _ _ e, of_decide_eq_true h, xs, rfl⟩
  | _ => cases h
theorem tk_ref {K : KW} {m : List Addr} {H : Hp} {d : D} {v : V} (r : RD K m H d v) (h : tkD d = true) : ∃ k b, v = .ref b ∧ d = keyN k ∧ k.depth ≤ 8 ∧ RD K m H (keyN k) (.ref b) := by
  obtain ⟨k, e, hd, xs, e2⟩ := tk_of h
  subst e2
  cases r with
  | tup a z b =>
    rename_i p vs
    exact ⟨k, p, rfl, e, hd, e ▸ RD.tup a z b⟩
section
variable {X : Cx} {pins : List (Addr × Obj)} {σ : L2.St} {H : Hp} {s : Shared} {m : List Addr}
mutual
theorem nis (I : Inv X pins σ H s) : ∀ (k : NestedKey) (v : V) (u : Value), RD (kW X) m H (keyN k) v → RelV v u → NestedIs s.heap k u
  | .none, _, _, r, q => by cases r; cases q; exact .none
  | .num i, _, _, r, q => by
    cases r
    obtain ⟨t, rfl⟩ := q
    exact .int i t
  | .text x, _, _, r, q => by
    cases r
    obtain ⟨t, rfl⟩ := q
    exact .text x t
  | .tup ks, _, _, r, q => by
    cases r with
    | tup a z b =>
      cases q
      obtain ⟨its, rv, ⟨o, h1, h2, n, h3⟩, _⟩ := I.tuple a
      exact .tup h1 h2 h3 (by simpa using niss I ks _ its b rv)
theorem niss (I : Inv X pins σ H s) : ∀ (ks : List NestedKey) (vs : List V) (us : List Value), RDs (kW X) m H (keyNs ks) vs → Vals vs us → NestedAll s.heap ks us
  | [], _, _, r, q => by cases r; cases q; exact .nil
  | k :: ks, _, _, r, q => by
    cases r with
    | cons r1 r2 =>
      cases q with
      | cons q1 q2 => exact .cons (nis I k _ _ r1 q1) (niss I ks _ _ r2 q2)
end
end
/-! ### entries -/
abbrev TE3 := NestedKey × Addr × V
def valT (es : List TE3) (k : NestedKey) : Option V := (es.find? fun e => decide (e.1 = k)).map (·.2.2)
def putT (es : List TE3) (k : NestedKey) (b : Addr) (v : V) : List TE3 := if es.any (fun e => decide (e.1 = k)) then es.map (fun e => if e.1 = k then (e.1, e.2.1, v) else e) else es ++ [(k, b, v)]
abbrev PT : List TE3 → List (NestedKey × Addr × Value) → Prop := Paired fun e x => e.1 = x.1 ∧ e.2.1 = x.2.1 ∧ RelV e.2.2 x.2.2
theorem PT.val {es : List TE3} {xs : List (NestedKey × Addr × Value)} (r : PT es xs) (k : NestedKey) : RelO (valT es k) ((atKey xs k).map (·.2)) := by
  induction r with
  | nil => exact True.intro
  | @cons e x es xs h t ih =>
    by_cases q : e.1 = k
    · have q' : x.1 = k := h.1 ▸ q
      have a : valT (e :: es) k = some e.2.2 := by unfold valT; rw [List.find?_cons_of_pos (by simpa using q)]; rfl
      have b : atKey (x :: xs) k = some x.2 := by unfold atKey; rw [List.find?_cons_of_pos (by simpa using q')]; rfl
      rw [a, b]
      exact h.2.2
    · have q' : ¬ x.1 = k := fun z => q (h.1.trans z)
      have a : valT (e :: es) k = valT es k := by unfold valT; rw [List.find?_cons_of_neg (by simpa using q)]
      have b : atKey (x :: xs) k = atKey xs k := by unfold atKey; rw [List.find?_cons_of_neg (by simpa using q')]
      rw [a, b]
      exact ih
theorem valT_any (es : List TE3) (k : NestedKey) : (valT es k).isSome = es.any fun e => decide (e.1 = k) := by
  unfold valT
  rw [Option.isSome_map, Bool.eq_iff_iff, List.find?_isSome, List.any_eq_true]
theorem PT.repl {es : List TE3} {xs : List (NestedKey × Addr × Value)} (r : PT es xs) (k : NestedKey) {v : V} {u : Value} (rv : RelV v u) : PT (es.map fun e => if e.1 = k then (e.1, e.2.1, v) else e) (xs.map (putAt k u)) := by
  induction r with
  | nil => exact .nil
  | @cons e x es xs h t ih =>
    rw [List.map_cons, List.map_cons]
    refine .cons ?_ ih
    unfold putAt
    by_cases q : e.1 = k
    · rw [if_pos q, if_pos (h.1 ▸ q)]; exact ⟨h.1, h.2.1, rv⟩
    · rw [if_neg q, if_neg fun z => q (h.1.trans z)]; exact h
theorem PT.snoc {es : List TE3} {xs : List (NestedKey × Addr × Value)} (r : PT es xs) (k : NestedKey) (b : Addr) {v : V} {u : Value} (rv : RelV v u) : PT (es ++ [(k, b, v)]) (xs ++ [(k, b, u)]) := by
  induction r with
  | nil => exact .cons ⟨rfl, rfl, rv⟩ .nil
  | cons h t ih => exact .cons h ih
theorem PT.put {es : List TE3} {xs : List (NestedKey × Addr × Value)} (r : PT es xs) (k : NestedKey) (b : Addr) {v : V} {u : Value} (rv : RelV v u) : PT (putT es k b v) (storedH xs k b u) := by
  have e : (es.any fun e => decide (e.1 = k)) = (atKey xs k).isSome := by
    rw [← valT_any, (r.val k).isSome_eq, Option.isSome_map]
  unfold putT storedH
  rw [e]
  split
  · exact r.repl k rv
  · exact r.snoc k b rv
theorem length_putT (es : List TE3) (k : NestedKey) (b : Addr) (v : V) : (putT es k b v).length ≤ es.length + 1 := by
  unfold putT; split <;> simp
/-- the tuples that are keys stand -/
def NKs (K : KW) (H : Hp) (es : List TE3) : Prop := ∀ e ∈ es, e.1.depth ≤ 8 ∧ ∃ m, RD K m H (keyN e.1) (.ref e.2.1)
def NK1 (K : KW) (H : Hp) (k : NestedKey) (b : Addr) : Prop := k.depth ≤ 8 ∧ ∃ m, RD K m H (keyN k) (.ref b)
section
variable {X : Cx} {pins : List (Addr × Obj)} {σ : L2.St} {H : Hp} {s : Shared} {p : Addr} {es : List TE3}
theorem NK1.is (I : Inv X pins σ H s) {k : NestedKey} {b : Addr} (h : NK1 (kW X) H k b) : (nestedKind X.prog X.w).is s.heap k b := by
  obtain ⟨hd, m, r⟩ := h
  exact ⟨nis I k _ _ r rfl, hd⟩
theorem PT.mem {es : List TE3} {xs : List (NestedKey × Addr × Value)} (r : PT es xs) : ∀ x ∈ xs, ∃ e ∈ es, e.1 = x.1 ∧ e.2.1 = x.2.1 := by
  induction r with
  | nil => intro x hx; cases hx
  | @cons e x es xs h t ih =>
    intro y hy
    rcases List.mem_cons.mp hy with rfl | hy
    · exact ⟨e, List.mem_cons_self, h.1, h.2.1⟩
    · obtain ⟨e', he, q⟩ := ih y hy
      exact ⟨e', List.mem_cons_of_mem _ he, q⟩
theorem td_rd (I : Inv X pins σ H s) (e : Rd H p (tdO X.w p es)) (hk : NKs (kW X) H es) : (p == sysModules) = false ∧ ∃ xs, PT es xs ∧ s.heap.DictOfH (nestedKind X.prog X.w) p xs := by
  obtain ⟨⟨hd, xs, r, o, des, ep, h1, h2, h3, h4, h5⟩, _, _⟩ := (show ObjOk X.prog X.w H s.heap p (tdO X.w p es) from e.ok I.hok)
  refine ⟨hd, xs, r, o, des, ep, h1, h2, h3, h4, fun x hx => ?_, h5⟩
  obtain ⟨e, he, e1, e2⟩ := PT.mem r x hx
  have := NK1.is I (show NK1 (kW X) H e.1 e.2.1 from hk e he)
  rw [e1, e2] at this
  exact this
theorem td_new {P : Program} {w : World} {H' : Hp} {h' : Heap} {xs : List (NestedKey × Addr × Value)} (hd : (p == sysModules) = false) (r : PT es xs) (dd : h'.DictOfH (nestedKind P w) p xs) : ObjOk P w H' h' p (tdO w p es) := by
  obtain ⟨o, des, ep, h1, h2, h3, h4, _, h5⟩ := dd
  refine ⟨⟨hd, xs, r, o, des, ep, h1, h2, h3, h4, h5⟩, ⟨o, h1⟩, ?_⟩
  rintro g1 g2 ⟨hd, xs, r, o, des, ep, k1, k2⟩ keep
  exact ⟨hd, xs, r, o, des, ep, keep _ k1, k2⟩
theorem td_empty {P : Program} {w : World} {H : Hp} (h : Heap) (hb : sysModules < h.objs.size) : ObjOk P w H (h.push { cls := .type "dict", data := .dict #[] }) h.objs.size (tdO w h.objs.size []) :=
  td_new (beq_eq_false_iff_ne.mpr (Ne.symm (Nat.ne_of_lt hb))) .nil (Heap.DictOfH.new h)
end
/-! ### the bare rules -/
theorem nk_room {A : Around} (h : A.units + 65 < cLine) {P : Program} {w : World} : (nestedKind P w).room A.in1 := by
  show A.in1.units + 8 < cLine
  rw [Around.in1_units]; omega
section
variable {X : Cx}
def rIxT (K : KW) : R2 := fun x y H Q => ∃ a b es k v, x = .ref a ∧ y = .ref b ∧ Rd H a (tdO K.w a es) ∧ NKs K H es ∧ NK1 K H k b ∧ valT es k = some v ∧ Q v H
theorem ix_tdc (hu : X.A.units + 65 < cLine) : IxR X (rIxT (kW X)) := by
  intro value slice pins s σ H x y v u Q I rx ry h hs
  obtain ⟨a, b, es, k, w, rfl, rfl, e, ne, nk, hv, q⟩ := h
  cases rx
  cases ry
  obtain ⟨hd, xs, pt, dd⟩ := td_rd I e ne
  obtain ⟨w', hw, rw'⟩ := RelO.some_of (v := w) (o := (atKey xs k).map (·.2)) (by rw [← hv]; exact pt.val k)
  obtain ⟨p, hp, hp2⟩ := Option.map_eq_some_iff.mp hw
  have hT := dd.typeIs
  unfold subscriptTail
  refine wpAny_bind ?_
  rw [getitemInPython_of_ne hT.not_modules]
  refine wpAny_bind (wpAny_specialOf hT PySem.F.slot_dict_getitem.lookup ?_)
  have fin : wpAny (model X.prog X.w) X.A (subscripted slice false (.ref a) (.ref b)) (fun r s₃ => wpAny (model X.prog X.w) X.A (letTemporaryGo value (.ref a) r >>= fun _ => pure r) (EP X pins σ Q) X.xe s₃) X.xe s := by
    rw [hs]
    refine wpAny_operating (wpAny_getItem_heap (nk_room hu) (NK1.is I nk) dd hp (wpAny_bind (wpAny_letTemporaryGo (wpAny_pure ⟨w, H, I.tok _, ?_, q⟩))))
    rw [hp2]; exact rw'
  first
    | exact wpAny_pure (wpAny_bind fin)
    | exact wpAny_bind (wpAny_pure (wpAny_bind fin))
    | exact wpAny_bind fin
def rInT (K : KW) (neg : Bool) : R2 := fun x y H Q => ∃ a b es k, y = .ref a ∧ x = .ref b ∧ Rd H a (tdO K.w a es) ∧ NKs K H es ∧ NK1 K H k b ∧ Q (.bl ((valT es k).isSome ^^ neg)) H
theorem op_in_t (hu : X.A.units + 65 < cLine) : OpR X (compareOp .In) (rInT (kW X) false) := by
  intro pins s σ H x y v u Q I rx ry h
  obtain ⟨a, b, es, k, rfl, rfl, e, ne, nk, q⟩ := h
  cases rx
  cases ry
  obtain ⟨hd, xs, pt, dd⟩ := td_rd I e ne
  refine wpAny_in_heap (nk_room hu) (NK1.is I nk) hd dd ⟨_, H, I.tok _, ?_, q⟩
  rw [Bool.xor_false]
  show Value.bool _ = Value.bool _
  rw [(pt.val k).isSome_eq, Option.isSome_map]
theorem op_notin_t (hu : X.A.units + 65 < cLine) : OpR X (compareOp .NotIn) (rInT (kW X) true) := by
  intro pins s σ H x y v u Q I rx ry h
  obtain ⟨a, b, es, k, rfl, rfl, e, ne, nk, q⟩ := h
  cases rx
  cases ry
  obtain ⟨hd, xs, pt, dd⟩ := td_rd I e ne
  refine wpAny_notIn_heap (nk_room hu) (NK1.is I nk) hd dd ⟨_, H, I.tok _, ?_, q⟩
  rw [Bool.xor_true]
  show Value.bool _ = Value.bool _
  rw [(pt.val k).isSome_eq, Option.isSome_map]
theorem td_write {pins : List (Addr × Obj)} {σ : L2.St} {H : Hp} {s : Shared} {a : Addr} {es es' : List TE3} {xs' : List (NestedKey × Addr × Value)} {h' : Heap} {t' : Nat} (I : Inv X pins σ H s) (e : H a = some (tdO X.w a es)) (hd : (a == sysModules) = false) (r : PT es' xs') (dd : h'.DictOfH (nestedKind X.prog X.w) a xs') (hs : Heap.SameBut a s.heap h') :
    Inv X pins σ (upd H a (tdO X.w a es')) { s with heap := h', toks := t' } := by
  have he : ∃ q, h'.get? a = some q := let ⟨q, _, _, hq, _⟩ := dd; ⟨q, hq⟩
  exact d_write I (by rw [e]; exact True.intro) hs he (td_new hd r dd)
def rSetT (K : KW) : TSet := fun o i v H Q => ∃ a b es k, o = .ref a ∧ i = .ref b ∧ H a = some (tdO K.w a es) ∧ NKs K H es ∧ NK1 K H k b ∧ es.length < sizeLine ∧ Q (upd H a (tdO K.w a (putT es k b v)))
theorem set_tdc (hu : X.A.units + 65 < cLine) : PSet X (rSetT (kW X)) := by
  intro pins s σ H o i v ov iv u Q I ro ri rv h
  obtain ⟨a, b, es, k, rfl, rfl, e, ne, nk, hz, q⟩ := h
  cases ro
  cases ri
  obtain ⟨hd, xs, pt, dd⟩ := td_rd I (.inl e) ne
  have hl : xs.length ≤ sizeLine := by rw [← Paired.length pt]; omega
  exact wpAny_setItem_heap (hsz := hl) (nk_room hu) (NK1.is I nk) dd fun h' dd' hs => ⟨_, td_write I e hd (pt.put k b rv) dd' hs, q⟩
def rGetT (K : KW) : V → List V → Hp → VK → Prop := fun x xs H Q => ∃ a b es k z, x = .ref a ∧ xs = [.ref b, z] ∧ Rd H a (tdO K.w a es) ∧ NKs K H es ∧ NK1 K H k b ∧ Q ((valT es k).getD z) H
theorem mt_get_t (hu : X.A.units + 65 < cLine) : MtR X "dict.get" (rGetT (kW X)) := by
  intro pins s σ H x xs v us Q I rx rs h
  obtain ⟨a, b, es, k, z, rfl, rfl, e, ne, nk, q⟩ := h
  cases rx
  cases rs with
  | @cons _ u1 _ us r1 rs =>
    cases rs with
    | @cons _ u2 _ us r2 rs =>
      cases rs
      cases r1
      obtain ⟨hd, xs, pt, dd⟩ := td_rd I e ne
      exact call_meetsIn PySem.F.slot_dict_get dd.typeIs PySem.F.entry_dict_get (PySem.F.args_dict_get_3 _ _ _) (meetsH_dict_get_default (nestedKind X.prog X.w) a b hd u2) ⟨nk_room hu, k, xs, NK1.is I nk, dd, _, H, I.tok _, (pt.val k).getD r2, q⟩
def rSdfT (K : KW) : V → List V → Hp → VK → Prop := fun x xs H Q => ∃ a b es k z, x = .ref a ∧ xs = [.ref b, z] ∧ H a = some (tdO K.w a es) ∧ NKs K H es ∧ NK1 K H k b ∧ es.length < sizeLine ∧
  (∀ v, valT es k = some v → Q v H) ∧ (valT es k = none → Q z (upd H a (tdO K.w a (putT es k b z))))
theorem mt_sdf_t (hu : X.A.units + 65 < cLine) : MtR X "dict.setdefault" (rSdfT (kW X)) := by
  intro pins s σ H x xs v us Q I rx rs h
  obtain ⟨a, b, es, k, z, rfl, rfl, e, ne, nk, hz, q1, q2⟩ := h
  cases rx
  cases rs with
  | @cons _ u1 _ us r1 rs =>
    cases rs with
    | @cons _ u2 _ us r2 rs =>
      cases rs
      cases r1
      obtain ⟨hd, xs, pt, dd⟩ := td_rd I (.inl e) ne
      have hl : xs.length ≤ sizeLine := by rw [← Paired.length pt]; omega
      have pv := pt.val k
      refine call_setdefault_heap (hsz := hl) (nk_room hu) (NK1.is I nk) hd dd (fun p hp => ?_) fun hn h' dd' hs => ?_
      · rw [hp] at pv
        cases ev : valT es k with
        | none => rw [ev] at pv; exact pv.elim
        | some w => rw [ev] at pv; exact ⟨w, H, I.tok _, pv, q1 w ev⟩
      · rw [hn] at pv
        cases ev : valT es k with
        | some w => rw [ev] at pv; exact pv.elim
        | none => exact ⟨z, _, td_write I e hd (pt.put k b r2) dd' hs, r2, q2 ev⟩
/-- one dict after another -/
def mergeT (es more : List TE3) : List TE3 := more.foldl (fun acc e => putT acc e.1 e.2.1 e.2.2) es
theorem PT.merge : ∀ {more : List TE3} {ys : List (NestedKey × Addr × Value)}, PT more ys → ∀ {es : List TE3} {xs : List (NestedKey × Addr × Value)}, PT es xs → PT (mergeT es more) (storedAllH xs ys)
  | _, _, .nil, _, _, r => r
  | (e :: more), (y :: ys), .cons h t, es, xs, r => by
    have q : PT (putT es e.1 e.2.1 e.2.2) (storedH xs y.1 y.2.1 y.2.2) := by
      have := r.put e.1 e.2.1 h.2.2
      rw [← h.1, ← h.2.1]
      exact this
    exact PT.merge t q
theorem PT.hashes (w : World) {es : List TE3} {xs : List (NestedKey × Addr × Value)} (r : PT es xs) : xs.map (fun x => x.1.hash w) = es.map fun e => e.1.hash w := by
  induction r with
  | nil => rfl
  | cons h t ih => rw [List.map_cons, List.map_cons, ih, h.1]
def rUpdT (K : KW) : V → List V → Hp → VK → Prop := fun x xs H Q => ∃ a b es more, x = .ref a ∧ xs = [.ref b] ∧ a ≠ b ∧ H a = some (tdO K.w a es) ∧ Rd H b (tdO K.w b more) ∧ NKs K H es ∧ NKs K H more ∧ es.length + more.length ≤ sizeLine ∧
  (es ≠ [] ∨ (more.map fun e => e.1.hash K.w).Nodup) ∧ Q .non (upd H a (tdO K.w a (mergeT es more)))
theorem mt_upd_t (hu : X.A.units + 65 < cLine) : MtR X "dict.update" (rUpdT (kW X)) := by
  intro pins s σ H x xs v us Q I rx rs h
  obtain ⟨a, b, es, more, rfl, rfl, ne, e, e2, n1, n2, hz, hh, q⟩ := h
  cases rx
  obtain ⟨u, rfl, ru⟩ := vals1 rs
  cases ru
  obtain ⟨hd, xs, pt, dd⟩ := td_rd I (.inl e) n1
  obtain ⟨hd2, ys, pt2, dd2⟩ := td_rd I e2 n2
  refine call_update_dictH (nk_room hu) ne hd2 dd dd2 ?_ (by rw [← Paired.length pt, ← Paired.length pt2]; exact hz) fun h' dd' _ hs => ⟨.non, _, td_write (t' := s.toks) I e hd (pt2.merge pt) dd' hs, rfl, q⟩
  rcases hh with z | z
  · exact .inl fun ee => by subst ee; cases pt; exact z rfl
  · refine .inr ⟨keyed_apart nestedKind_stays dd2, ?_⟩
    have := PT.hashes X.w pt2
    show (ys.map fun x => x.1.hash X.w).Nodup
    rw [this]; exact z
def rLenT (K : KW) : List V → Hp → VK → Prop := fun xs H Q => ∃ p es, xs = [.ref p] ∧ Rd H p (tdO K.w p es) ∧ NKs K H es ∧ es.length ≤ sizeLine ∧ Q (.int ((es.length : Nat) : Int)) H
theorem cr_len_t : CallR X (.builtin "len") (rLenT (kW X)) := by
  intro pins s σ H xs us Q I r h
  obtain ⟨p, es, rfl, hp, ne, z, q⟩ := h
  obtain ⟨u, rfl, rx⟩ := vals1 r
  cases rx
  obtain ⟨hd, ys, pt, dd⟩ := td_rd I hp ne
  have hl : es.length = ys.length := Paired.length pt
  refine call_len_dictH hd dd (by rw [← hl]; rw [sizeLine_eq] at z; omega) ?_
  rw [← hl]
  exact ⟨.int ((es.length : Nat) : Int), H, I.tok _, ⟨_, rfl⟩, q⟩
/-- {}, to be a dict by tuples -/
def tDNewN (K : KW) : TE := fun _ H Q => ∀ p, H p = none → Q (.ref p) (upd H p (tdO K.w p []))
theorem pe_dnewN {pos : Pos} : PE X (.Dict [] [] pos) (tDNewN (kW X)) := ⟨fun pins s σ H Q I h =>
  wpAny_Dict_empty ⟨.ref s.heap.objs.size, _, I.laid (a := s.heap.objs.size) (o := tdO X.w s.heap.objs.size []) (t' := s.toks) (fun _ _ q => Heap.get?_push_of_some _ q) (Nat.le_refl _) (td_empty s.heap I.big), rfl, h _ (I.hok.fresh (Nat.le_refl _))⟩⟩
end
end SD
/-! SNb: dicts whose keys are tuples, over D and store. -/
namespace SD
open PySem PySem.Spec PyProof.Rows L2
/-! ### list(d), list(d.values()) -/
section
variable {prog : Program} {w : World} {A : Around} {E : Value → Shared → Prop} {s : Shared}
theorem raw_of {d : Addr} {xs : List (NestedKey × Addr × Value)} {h : Heap} (hm : h.DictOfH (nestedKind prog w) d xs) : ∃ es ep, h.DictRaw d es ep ∧ es.size = xs.length ∧ ∀ (i : Nat) (hi : i < es.size), ∃ x, xs[i]? = some x ∧ es[i].key = .ref x.2.1 ∧ es[i].val = x.2.2 := by
  obtain ⟨o, es, ep, h1, h2, h3, h4, _, _⟩ := hm
  have hl : es.size = xs.length := size_of_entries h4
  refine ⟨es, ep, ⟨o, h1, h2, h3⟩, hl, fun i hi => ?_⟩
  have q := entry_at h4 i
  rw [Array.getElem?_eq_getElem hi] at q
  cases hx : xs[i]? with
  | none => rw [hx] at q; cases q
  | some x =>
    rw [hx] at q
    have q := Option.some.inj q
    exact ⟨x, rfl, by rw [q]; rfl, by rw [q]; rfl⟩
theorem items_list {es : Array DictEntry} {acc : Array Value} {n : Nat} {P : Nat → Value → Prop} {vs : List Value} (it : PySem.ItemsOf P acc n) (hl : vs.length = n) (h : ∀ i v, P i v → i < n → vs[i]? = some v) : acc.toList = vs := by
  refine List.ext_getElem? fun j => ?_
  have hs : acc.toList.length = n := by rw [Array.length_toList]; exact it.1
  by_cases hj : j < n
  · have e : acc.toList[j]? = some (acc.toList[j]'(by omega)) := List.getElem?_eq_getElem (by omega)
    rw [e]
    exact (h j _ (it.2 j _ (by rw [← Array.getElem?_toList]; exact e)) hj).symm
  · rw [List.getElem?_eq_none (by omega), List.getElem?_eq_none (by omega)]
end
theorem PT.refs {es : List TE3} {xs : List (NestedKey × Addr × Value)} (r : PT es xs) : Vals (es.map fun e => V.ref e.2.1) (xs.map fun x => Value.ref x.2.1) := by
  induction r with
  | nil => exact .nil
  | cons h t ih => exact .cons (by show Value.ref _ = Value.ref _; rw [h.2.1]) ih
theorem PT.vals {es : List TE3} {xs : List (NestedKey × Addr × Value)} (r : PT es xs) : Vals (es.map fun e => e.2.2) (xs.map fun x => x.2.2) := by
  induction r with
  | nil => exact .nil
  | cons h t ih => exact .cons h.2.2 ih
section
variable {X : Cx}
def rListN (K : KW) : List V → Hp → VK → Prop := fun xs H Q => ∃ d es, xs = [V.ref d] ∧ Rd H d (tdO K.w d es) ∧ NKs K H es ∧ es.length ≤ sizeLine ∧ ∀ p, H p = none → Q (.ref p) (upd H p (.lst (es.map fun e => V.ref e.2.1)))
theorem cr_listN (hc : X.calm = true) : CallR X (.type "list") (rListN (kW X)) := by
  intro pins s σ H xs us Q I r h
  obtain ⟨d, es, rfl, e, ne, hz, q⟩ := h
  obtain ⟨u, rfl, rx⟩ := vals1 r
  cases rx
  obtain ⟨hd, ys, pt, dd⟩ := td_rd I e ne
  obtain ⟨des, ep, raw, hl, ent⟩ := raw_of dd
  have hl2 := Paired.length pt
  refine PySem.W.kdl_call (PySem.KdlSrc.rawDict hd) (I.ok.hd hc) raw (by omega) fun h' tk acc c kp e2 it => ?_
  have ea : acc.toList = ys.map fun x => Value.ref x.2.1 := items_list (es := des) it (by rw [List.length_map, hl]) fun i v ⟨hi, hv⟩ _ => by
    obtain ⟨x, hx, k1, _⟩ := ent i hi
    rw [List.getElem?_map, hx, hv, k1]; rfl
  refine ⟨.ref s.heap.objs.size, _, I.laid (t' := tk) (o := .lst (es.map fun e => V.ref e.2.1)) kp (Nat.le_refl _) ⟨by rw [List.length_map]; exact hz, acc.toList, c, ?_, by rw [Array.toArray_toList]; exact e2⟩, rfl, q _ (I.hok.fresh (Nat.le_refl _))⟩
  rw [ea]; exact pt.refs
theorem meets_vals {prog : Program} {w : World} (d : Addr) (hd : (d == sysModules) = false) :
    MeetsIn prog w (Builtin.«dict.values» ⟨[.ref d], []⟩) (fun _ R s => s.TypeIs (.ref d) "dict" ∧ R (.ok (.ret (.ref s.heap.objs.size))) { s with heap := s.heap.push { cls := .type "dict_values", data := .fields #[.ref d] } }) :=
  .of_wp fun A R s ⟨hm, h⟩ => by
    refine wpAny_bind ?_
    unfold Builtin.Dict.noArgs
    refine wpAny_bind (wpAny_notOrdered_dict hm ?_)
    show wpAny _ _ (pure d) _ _ s
    refine wpAny_pure ?_
    show wpAny _ _ (Builtin.Dict.showsAll d >>= _) _ _ s
    unfold Builtin.Dict.showsAll
    rw [if_neg (by rw [hd]; exact fun z => by cases z)]
    exact wpAny_bind (wpAny_pure (wpAny_bind (wpAny_newObj_type (wpAny_pure ⟨_, rfl, h⟩))))
/-- list(d.values()) -/
def tListVals (K : KW) (td : TE) : TE := fun σ H Q => td σ H fun x H1 => ∃ d es, x = .ref d ∧ Rd H1 d (tdO K.w d es) ∧ NKs K H1 es ∧ es.length ≤ sizeLine ∧ ∀ p, H1 p = none → Q (.ref p) (upd H1 p (.lst (es.map fun e => e.2.2)))
theorem pe_listVals {x : Str} {p pos apos cpos : Pos} {e : Expr} {td : TE} (hc : X.calm = true) (hg : Gl X x) (hm : X.mg x = none) (hv : bootBuiltins x = some (.type "list")) (he : PE X e td) (hn : x ≠ "__name__" := by decide) (hdb : (x == ("__debug__" : Str)) = false := by decide)
    (hbase : attributeBase e "values" X.env (eval e X.env) = eval e X.env := by rfl) (hline : (apos.endLine == cpos.line) = true := by rfl)
    (hst : starEach [Expr.Call (.Attribute e "values" apos) [] [] cpos] X.env = (false, eval (.Call (.Attribute e "values" apos) [] [] cpos) X.env) :: starEach [] X.env := by rfl) :
    PE X (.Call (.Name x p) [.Call (.Attribute e "values" apos) [] [] cpos] [] pos) (tListVals (kW X) td) := by
  refine ⟨fun pins s σ H Q I h => ?_⟩
  refine wpAny_Call_Name_kw (ld_blt I hg hm hv ?_ hn hdb)
  refine PyProof.Rows.callWith_type1 ?_ hst rfl
  rw [hst]
  show wpAny _ _ _ _ _ s
  refine Calls.spliced_cons ?_
  refine wpAny_Call_method0_late hbase hline (thn (he.run pins s σ H _ I h) fun u s1 ⟨x, H1, I1, rx, d, es, ex, ed, ne, hz, q⟩ => ?_)
  subst ex
  cases rx
  obtain ⟨hd, ys, pt, dd⟩ := td_rd I1 ed ne
  obtain ⟨des, ep, raw, hl, ent⟩ := raw_of dd
  have hl2 := Paired.length pt
  refine ⟨"dict", "dict.values", PySem.F.plainAttrs_dict, PySem.F.slot_dict_values, PySem.F.type_dict_values, dd.typeIs, fun b z => ?_, ?_⟩
  · cases z
    obtain ⟨o, _, _, h1, h2, _⟩ := dd
    exact ⟨o, h1, h2.2.1⟩
  refine method_meetsIn PySem.F.slot_dict_values PySem.F.entry_dict_values rfl (PySem.evalArgs_none ⟨rfl, dd.typeIs, PySem.F.args_dict_values_1 _, _, meets_vals d hd, dd.typeIs, ?_⟩)
  refine Calls.spliced_nil ?_
  have I2 : Inv X pins σ H1 { s1 with heap := s1.heap.push { cls := .type "dict_values", data := .fields #[.ref d] } } := I1.kept (t' := s1.toks) fun b ob q => Heap.get?_push_of_some _ q
  refine PySem.W.kdl_call PySem.KdlSrc.rawValues (I2.ok.hd hc) ⟨⟨_, Heap.get?_push_size _ rfl, rfl, rfl⟩, raw.push _⟩ (by omega) fun h' tk acc c kp e2 it => ?_
  have ea : acc.toList = ys.map fun x => x.2.2 := items_list (es := des) it (by rw [List.length_map, hl]) fun i v ⟨hi, hv⟩ _ => by
    obtain ⟨x, hx, _, k2⟩ := ent i hi
    rw [List.getElem?_map, hx, hv, k2]; rfl
  refine ⟨.ref (s1.heap.push { cls := .type "dict_values", data := .fields #[.ref d] }).objs.size, _, I2.laid (t' := tk) (o := .lst (es.map fun e => e.2.2)) kp (Nat.le_refl _) ⟨by rw [List.length_map]; exact hz, acc.toList, c, ?_, by rw [Array.toArray_toList]; exact e2⟩, rfl, q _ (I2.hok.fresh (Nat.le_refl _))⟩
  rw [ea]; exact pt.vals
end
end SD
/-! SNc: dicts whose keys are tuples: rules over D and store. -/
namespace SD
open PySem PySem.Spec PyProof.Rows L2
def tdC : Option Cell → Option (List (D × D))
  | some (.tdc kvs) => some kvs
  | some (.tlk kvs) => some kvs
  | _ => none
def tdD (S : Store) : D → Option (List (D × D))
  | .ref n => tdC S[n]?
  | _ => none
section
variable {K : KW} {m : List Addr} {H : Hp} {S : Store}
theorem td_at (s : Sim K m S H) {d : D} {v : V} {kvs : List (D × D)} (r : RD K m H d v) (h : tdD S d = some kvs) : ∃ p es, v = .ref p ∧ Rd H p (tdO K.w p es) ∧ RKT K m H kvs es ∧ kvs.length ≤ sizeLine := by
  cases r with
  | @ref n p a =>
    have h : tdC S[n]? = some kvs := h
    cases e : S[n]? with
    | none => rw [e] at h; cases h
    | some c =>
      rw [e] at h
      have rc := s.cell n p c a e
      generalize eo : H p = o at rc
      cases rc with
      | lst z b => cases h
      | dct z b => cases h
      | lck z b => cases h
      | tdc z b => cases h; exact ⟨p, _, rfl, .inl eo, b, z⟩
      | tlk z b => cases h; exact ⟨p, _, rfl, .inr ⟨_, eo⟩, b, z⟩
  | _ => cases h
theorem tdc_at (s : Sim K m S H) {n : Nat} {v : V} {kvs : List (D × D)} (r : RD K m H (.ref n) v) (h : S[n]? = some (.tdc kvs)) : ∃ p es, v = .ref p ∧ m[n]? = some p ∧ H p = some (tdO K.w p es) ∧ RKT K m H kvs es ∧ kvs.length ≤ sizeLine := by
  cases r with
  | @ref n p a =>
    have rc := s.cell n p _ a h
    generalize eo : H p = o at rc
    cases rc with
    | tdc z b => exact ⟨p, _, rfl, a, eo, b, z⟩
theorem RKT.nks {kvs : List (D × D)} {es : List TE3} (r : RKT K m H kvs es) : NKs K H es := by
  induction r with
  | nil => intro e he; cases he
  | @cons p e _ _ h t ih =>
    intro e' he
    rcases List.mem_cons.mp he with rfl | he
    · exact ⟨h.2.1, m, h.1 ▸ h.2.2.1⟩
    · exact ih e' he
theorem RKT.val {kvs : List (D × D)} {es : List TE3} (r : RKT K m H kvs es) (k : NestedKey) : (∃ d v, valD kvs (keyN k) = some d ∧ valT es k = some v ∧ RD K m H d v) ∨ (valD kvs (keyN k) = none ∧ valT es k = none) := by
  induction r with
  | nil => exact .inr ⟨rfl, rfl⟩
  | @cons p e _ _ h t ih =>
    by_cases q : e.1 = k
    · refine .inl ⟨p.2, e.2.2, ?_, ?_, h.2.2.2⟩
      · unfold valD; rw [List.find?_cons_of_pos (by rw [h.1, q]; simp)]; rfl
      · unfold valT; rw [List.find?_cons_of_pos (by simpa using q)]; rfl
    · have q' : ¬ p.1 = keyN k := fun z => q (keyN_inj _ _ (h.1.symm.trans z))
      unfold valD valT at ih ⊢
      rw [List.find?_cons_of_neg (by simpa using q'), List.find?_cons_of_neg (by simpa using q)]
      exact ih
theorem RKT.any {kvs : List (D × D)} {es : List TE3} (r : RKT K m H kvs es) (k : NestedKey) : (kvs.any fun p => decide (p.1 = keyN k)) = es.any fun e => decide (e.1 = k) := by
  induction r with
  | nil => rfl
  | @cons p e _ _ h t ih =>
    rw [List.any_cons, List.any_cons, ih, h.1]
    congr 1
    exact decide_eq_decide.mpr ⟨fun z => keyN_inj _ _ z, fun z => by rw [z]⟩
theorem RKT.repl {kvs : List (D × D)} {es : List TE3} (r : RKT K m H kvs es) (k : NestedKey) {d : D} {v : V} (rd : RD K m H d v) : RKT K m H (kvs.map fun p => if p.1 = keyN k then (p.1, d) else p) (es.map fun e => if e.1 = k then (e.1, e.2.1, v) else e) := by
  induction r with
  | nil => exact .nil
  | @cons p e _ _ h t ih =>
    rw [List.map_cons, List.map_cons]
    refine .cons ?_ ih
    by_cases q : e.1 = k
    · rw [if_pos q, if_pos (by rw [h.1, q])]
      exact ⟨h.1, h.2.1, h.2.2.1, rd⟩
    · rw [if_neg q, if_neg fun z => q (keyN_inj _ _ (h.1.symm.trans z))]
      exact h
theorem RKT.snoc {kvs : List (D × D)} {es : List TE3} (r : RKT K m H kvs es) {k : NestedKey} {b : Addr} (hk : k.depth ≤ 8) (rk : RD K m H (keyN k) (.ref b)) {d : D} {v : V} (rd : RD K m H d v) : RKT K m H (kvs ++ [(keyN k, d)]) (es ++ [(k, b, v)]) := by
  induction r with
  | nil => exact .cons ⟨rfl, hk, rk, rd⟩ .nil
  | cons h t ih => exact .cons h ih
theorem RKT.put {kvs : List (D × D)} {es : List TE3} (r : RKT K m H kvs es) {k : NestedKey} {b : Addr} (hk : k.depth ≤ 8) (rk : RD K m H (keyN k) (.ref b)) {d : D} {v : V} (rd : RD K m H d v) : RKT K m H (putD kvs (keyN k) d) (putT es k b v) := by
  unfold putD putT
  rw [r.any k]
  split
  · exact r.repl k rd
  · exact r.snoc hk rk rd
theorem RKT.merge : ∀ {more : List (D × D)} {ms : List TE3}, RKT K m H more ms → ∀ {kvs : List (D × D)} {es : List TE3}, RKT K m H kvs es → RKT K m H (mergeD kvs more) (mergeT es ms)
  | _, _, .nil, _, _, r => r
  | (p :: more), (e :: ms), .cons h t, kvs, es, r => by
    have q : RKT K m H (putD kvs p.1 p.2) (putT es e.1 e.2.1 e.2.2) := by
      have := r.put h.2.1 (h.1 ▸ h.2.2.1) h.2.2.2
      rw [← h.1] at this
      exact this
    exact RKT.merge t q
theorem RKT.keysR {kvs : List (D × D)} {es : List TE3} (r : RKT K m H kvs es) : RDs K m H (kvs.map (·.1)) (es.map fun e => V.ref e.2.1) := by
  induction r with
  | nil => exact .nil
  | cons h t ih => exact .cons h.2.2.1 ih
theorem RKT.valsR {kvs : List (D × D)} {es : List TE3} (r : RKT K m H kvs es) : RDs K m H (kvs.map (·.2)) (es.map fun e => e.2.2) := by
  induction r with
  | nil => exact .nil
  | cons h t ih => exact .cons h.2.2.2 ih
theorem RKT.len {kvs : List (D × D)} {es : List TE3} (r : RKT K m H kvs es) : kvs.length = es.length := Paired.length r
/-- a new cell: a dict by tuples -/
theorem new_tdc (s : Sim K m S H) {p : Addr} (h : H p = none) {kvs : List (D × D)} {es : List TE3} (r : RKT K m H kvs es) (hz : kvs.length ≤ sizeLine) :
    Grow m H (m ++ [p]) (upd H p (tdO K.w p es)) ∧ Sim K (m ++ [p]) (S ++ [.tdc kvs]) (upd H p (tdO K.w p es)) ∧ RD K (m ++ [p]) (upd H p (tdO K.w p es)) (.ref S.length) (.ref p) := by
  have g : Grow m H (m ++ [p]) (upd H p (tdO K.w p es)) := Grow.new h _ (List.prefix_append _ _)
  refine ⟨g, s.alloc h (.tdc hz (r.up g)), .ref ?_⟩
  rw [← s.len, List.getElem?_append_right (Nat.le_refl _)]; simp
end
/-! ### operators -/
def ixTF : F2 := fun o i S Q => ∃ kvs v, tdD S o = some kvs ∧ tkD i = true ∧ valD kvs i = some v ∧ Q v S
def inTF (neg : Bool) : F2 := fun x y S Q => ∃ kvs, tdD S y = some kvs ∧ tkD x = true ∧ Q (.bl ((valD kvs x).isSome ^^ neg)) S
def setTF (o i v : D) (S : Store) (Q : Store → Prop) : Prop := ∃ n kvs, o = .ref n ∧ S[n]? = some (.tdc kvs) ∧ tkD i = true ∧ kvs.length < sizeLine ∧ Q (S.set n (.tdc (putD kvs i v)))
def gSubT (fo fi : FE) : FG := fun d σ S Q => fo σ S fun o S1 => fi σ S1 fun i S2 => setTF o i d S2 fun S3 => Q σ S3
section
variable {X : Cx} {pos : Pos}
theorem id_ixT (hu : X.A.units + 65 < cLine) : IxD X ixTF := by
  refine ⟨_, ix_tdc hu, fun m S H x y v u P Q s rx ry h w => ?_⟩
  obtain ⟨kvs, d, h1, h2, h3, p⟩ := h
  obtain ⟨a, es, rfl, ha, b, _⟩ := td_at s rx h1
  obtain ⟨k, c, rfl, ey, hk, rk⟩ := tk_ref ry h2
  subst ey
  rcases b.val k with ⟨d', v', q1, q2, rv⟩ | ⟨q1, _⟩
  · rw [h3] at q1; cases q1
    exact ⟨a, c, es, k, v', rfl, rfl, ha, b.nks, ⟨hk, m, rk⟩, q2, w _ _ _ _ _ p (.refl _ _) s rv⟩
  · rw [h3] at q1; cases q1
theorem in_R2T {neg : Bool} : R2R (kW X) (inTF neg) (rInT (kW X) neg) := by
  intro m S H x y v u P Q s rx ry h w
  obtain ⟨kvs, h1, h2, p⟩ := h
  obtain ⟨a, es, rfl, ha, b, _⟩ := td_at s ry h1
  obtain ⟨k, c, rfl, ey, hk, rk⟩ := tk_ref rx h2
  subst ey
  refine ⟨a, c, es, k, rfl, rfl, ha, b.nks, ⟨hk, m, rk⟩, ?_⟩
  have e : (valT es k).isSome = (valD kvs (keyN k)).isSome := by
    rcases b.val k with ⟨d', v', q1, q2, _⟩ | ⟨q1, q2⟩
    · rw [q1, q2]; rfl
    · rw [q1, q2]; rfl
  rw [e]
  exact w _ _ _ _ _ p (.refl _ _) s (.bl _)
theorem od_inT (hu : X.A.units + 65 < cLine) : OpD X (compareOp .In) (inTF false) := ⟨_, op_in_t hu, in_R2T⟩
theorem od_notinT (hu : X.A.units + 65 < cLine) : OpD X (compareOp .NotIn) (inTF true) := ⟨_, op_notin_t hu, in_R2T⟩
theorem rg_subT {o i : Expr} {fo fi : FE} (hu : X.A.units + 65 < cLine) (ho : RE X o fo) (hi : RE X i fi)
    (ha : ∀ v, assign (.Subscript o i pos) X.env v = (do
      let ov ← holding [v] (eval o X.env)
      let iv ← holding [v, ov] (eval i X.env)
      standAt pos
      holding [v, ov, iv] (setItem ov iv v)
      release [v, ov, iv] []) := by intro _; rfl) : RG X (.Subscript o i pos) (gSubT fo fi) := by
  refine pg_w (pg_sub (pos := pos) ho hi (set_tdc hu) ha) fun v σ H Q q => ?_
  obtain ⟨m, σd, S, d, P, s, r, rd, p, w⟩ := q
  refine ⟨m, σd, S, _, s, r, p, fun od S1 m1 vo H1 p1 g1 s1 r1 => ?_⟩
  refine ⟨m1, σd, S1, _, s1, r.up g1, p1, fun id S2 m2 vi H2 p2 g2 s2 r2 => ?_⟩
  obtain ⟨n, kvs, rfl, e, hk, hz, p2⟩ := p2
  obtain ⟨a, es, rfl, hm, ha, b, _⟩ := tdc_at s2 (r1.up g2) e
  obtain ⟨k, c, rfl, ey, hd, rk⟩ := tk_ref r2 hk
  subst ey
  have g := Grow.write s2 hm e rfl (tdO X.w a (putT es k c v))
  have gg := g1.trans (g2.trans g)
  refine ⟨a, c, es, k, rfl, rfl, ha, b.nks, ⟨hd, m2, rk⟩, by rw [← b.len]; exact hz, w _ _ _ _ _ p2 gg (s2.write hm e rfl (.tdc ?_ ((b.up g).put hd (rk.up g) (rd.up gg)))) (r.up gg)⟩
  have := length_putD kvs (keyN k) d
  omega
end
/-! ### methods -/
def tyT (S : Store) (d : D) : Prop := ∃ n kvs, d = .ref n ∧ S[n]? = some (.tdc kvs)
def eMtT (fr : FM) (fo : FE) (fa : FA) : FE := fun σ S Q => fo σ S fun x S1 => tyT S1 x ∧ fa σ S1 fun xs S2 => fr x xs S2 Q
def getTF : FM := fun x xs S Q => ∃ kvs k z, tdD S x = some kvs ∧ xs = [k, z] ∧ tkD k = true ∧ Q ((valD kvs k).getD z) S
def sdfTF : FM := fun x xs S Q => ∃ n kvs k z, x = .ref n ∧ xs = [k, z] ∧ S[n]? = some (.tdc kvs) ∧ tkD k = true ∧ kvs.length < sizeLine ∧ (∀ v, valD kvs k = some v → Q v S) ∧ (valD kvs k = none → Q z (S.set n (.tdc (putD kvs k z))))
/-- no two keys hash alike, whatever the world -/
def hashOk (kvs : List (D × D)) : Prop := ∀ w : World, (kvs.map fun p => ((toNK p.1).getD .none).hash w).Nodup
def updTF : FM := fun x xs S Q => ∃ n j kvs more, x = .ref n ∧ xs = [.ref j] ∧ n ≠ j ∧ S[n]? = some (.tdc kvs) ∧ tdD S (.ref j) = some more ∧ kvs.length + more.length ≤ sizeLine ∧ (kvs ≠ [] ∨ hashOk more) ∧ Q .non (S.set n (.tdc (mergeD kvs more)))
section
variable {X : Cx} {o e : Expr} {es : List Expr} {fo : FE} {fa : FA} {name : Str} {apos cpos : Pos} {id : String} {fr : FM}
theorem re_mtT (slot : Slot "dict" name id) (hty : typeOf (.builtin id) = pure (.type "method_descriptor")) (hm : MtD X id fr) (ho : RE X o fo) (ha : RA X (e :: es) fa)
    (hbase : attributeBase o name X.env (eval o X.env) = eval o X.env := by rfl)
    (hfew : ((backTo cpos (starEach (e :: es) X.env)).all (fun x => !x.1) && (backToKw cpos (keywordEach [] X.env)).all (fun x => x.1.isSome)
      && decide ((e :: es).length + ([] : List Keyword).length + (if ([] : List Keyword).isEmpty then 0 else 1) < 30)) = true := by rfl)
    (hline : (apos.endLine == cpos.line) = true := by rfl) (hs : starEach (e :: es) X.env = (false, eval e X.env) :: starEach es X.env := by rfl) (hplain : (backTo cpos (starEach es X.env)).any (·.1) = false := by rfl) :
    RE X (.Call (.Attribute o name apos) (e :: es) [] cpos) (eMtT fr fo fa) := by
  obtain ⟨r, h1, h2⟩ := hm
  refine ⟨fun pins s σ H Q I q => ?_⟩
  obtain ⟨m, σd, S, P, sm, rs, p, w⟩ := q
  refine wpAny_Call_method_late hbase hfew hline rfl (thn (ho.run pins s σ H (fun x H1 => ∃ m1 S1 d, Sim (kW X) m1 S1 H1 ∧ Grow m H m1 H1 ∧ RD (kW X) m1 H1 d x ∧ tyT S1 d ∧ fa σd S1 fun xs S2 => fr d xs S2 P) I ⟨m, σd, S, _, sm, rs, p, fun d S1 m1 v H1 p1 g1 s1 r1 => ⟨m1, S1, d, s1, g1, r1, p1.1, p1.2⟩⟩) fun v s1 ⟨x, H1, I1, r1, m1, S1, d, sm1, g1, rd, ty, p1⟩ => ?_)
  obtain ⟨n, kvs, rfl, en⟩ := ty
  obtain ⟨a, ts, rfl, hm, ha', b, _⟩ := tdc_at sm1 rd en
  cases r1
  obtain ⟨hd, ys, pt, dd⟩ := td_rd I1 (.inl ha') b.nks
  refine ⟨"dict", id, PySem.F.plainAttrs_dict, slot, hty, dd.typeIs, fun c z => ?_, ?_⟩
  · cases z
    obtain ⟨ob, _, _, k1, k2, _⟩ := dd
    exact ⟨ob, k1, k2.2.1⟩
  have hA := ha.run cpos pins s1 σ H1 (fun vs H2 => ∃ m2 S2 ds, Sim (kW X) m2 S2 H2 ∧ Grow m1 H1 m2 H2 ∧ RDs (kW X) m2 H2 ds vs ∧ fr (.ref n) ds S2 P) I1 ⟨m1, σd, S1, _, sm1, rs.up g1, p1, fun ds S2 m2 vs H2 p2 g2 s2 r2 => ⟨m2, S2, ds, s2, g2, r2, p2⟩⟩
  rw [hs] at hA ⊢
  refine Calls.callWith_builtin (by show (false || (backTo cpos (starEach es X.env)).any (·.1)) = false; rw [hplain] <;> rfl) (Calls.evalArgs_plain ?_)
  exact thn hA fun us s2 ⟨vs, H2, I2, r2, m2, S2, ds, sm2, g2, rds, p2⟩ => h1 pins s2 σ H2 (.ref a) vs (.ref a) us Q I2 rfl r2 (h2 m2 S2 H2 _ _ _ _ P Q sm2 (rd.up g2) rds p2 (w.up (g1.trans g2)))
theorem md_getT (hu : X.A.units + 65 < cLine) : MtD X "dict.get" getTF := by
  refine ⟨_, mt_get_t hu, fun m S H x v xs vs P Q s rx rs p w => ?_⟩
  obtain ⟨kvs, k, z, e, rfl, hk, p⟩ := p
  obtain ⟨a, ts, rfl, ha, b, _⟩ := td_at s rx e
  cases rs with
  | cons r1 rs =>
    cases rs with
    | cons r2 rs =>
      cases rs
      obtain ⟨k', c, rfl, ey, hd, rk⟩ := tk_ref r1 hk
      subst ey
      refine ⟨a, c, ts, k', _, rfl, rfl, ha, b.nks, ⟨hd, m, rk⟩, ?_⟩
      rcases b.val k' with ⟨d', v', q1, q2, rv⟩ | ⟨q1, q2⟩
      · rw [q2]
        rw [q1] at p
        exact w _ _ _ _ _ p (.refl _ _) s rv
      · rw [q2]
        rw [q1] at p
        exact w _ _ _ _ _ p (.refl _ _) s r2
theorem md_sdfT (hu : X.A.units + 65 < cLine) : MtD X "dict.setdefault" sdfTF := by
  refine ⟨_, mt_sdf_t hu, fun m S H x v xs vs P Q s rx rs p w => ?_⟩
  obtain ⟨n, kvs, k, z, rfl, rfl, e, hk, hz, p1, p2⟩ := p
  obtain ⟨a, ts, rfl, hm, ha, b, _⟩ := tdc_at s rx e
  cases rs with
  | cons r1 rs =>
    cases rs with
    | @cons _ vz _ _ r2 rs =>
      cases rs
      obtain ⟨k', c, rfl, ey, hd, rk⟩ := tk_ref r1 hk
      subst ey
      refine ⟨a, c, ts, k', _, rfl, rfl, ha, b.nks, ⟨hd, m, rk⟩, by rw [← b.len]; exact hz, fun v hv => ?_, fun hv => ?_⟩
      · rcases b.val k' with ⟨d', v', q1, q2, rv⟩ | ⟨q1, q2⟩
        · rw [q2] at hv; cases hv
          exact w _ _ _ _ _ (p1 d' q1) (.refl _ _) s rv
        · rw [q2] at hv; cases hv
      · have hn : valD kvs (keyN k') = none := by
          rcases b.val k' with ⟨d', v', q1, q2, rv⟩ | ⟨q1, q2⟩
          · rw [q2] at hv; cases hv
          · exact q1
        have g := Grow.write s hm e rfl (tdO X.w a (putT ts k' c vz))
        refine w _ _ _ _ _ (p2 hn) g (s.write hm e rfl (.tdc ?_ ((b.up g).put hd (rk.up g) (r2.up g)))) (r2.up g)
        have := length_putD kvs (keyN k') z
        omega
theorem hash_of {K : KW} {m : List Addr} {H : Hp} {kvs : List (D × D)} {es : List TE3} (r : RKT K m H kvs es) (w : World) : (es.map fun e => e.1.hash w) = kvs.map fun p => ((toNK p.1).getD .none).hash w := by
  induction r with
  | nil => rfl
  | cons h t ih => rw [List.map_cons, List.map_cons, ih, h.1, toNK_keyN]; rfl
theorem md_updT (hu : X.A.units + 65 < cLine) : MtD X "dict.update" updTF := by
  refine ⟨_, mt_upd_t hu, fun m S H x v xs vs P Q s rx rs p w => ?_⟩
  obtain ⟨n, j, kvs, more, rfl, rfl, ne, e, e2, hz, hh, p⟩ := p
  obtain ⟨vy, rfl, ry⟩ := rs.one rfl
  obtain ⟨a, ts, rfl, hm, ha, b, _⟩ := tdc_at s rx e
  obtain ⟨c, ms, rfl, hc, b2, _⟩ := td_at s ry e2
  have a2 : m[j]? = some c := by cases ry; assumption
  have neq : a ≠ c := fun h => ne (nd_ix s.nd hm (h ▸ a2))
  have g := Grow.write s hm e rfl (tdO X.w a (mergeT ts ms))
  refine ⟨a, c, ts, ms, rfl, rfl, neq, ha, hc, b.nks, b2.nks, by rw [← b.len, ← b2.len]; exact hz, ?_, w _ _ _ _ _ p g (s.write hm e rfl (.tdc (Nat.le_trans (length_mergeD more kvs) hz) (RKT.merge (b2.up g) (b.up g)))) .non⟩
  rcases hh with z | z
  · exact .inl fun q => by subst q; cases b; exact z rfl
  · refine .inr ?_
    rw [hash_of b2]
    exact z X.w
end
/-! ### len, list, values, {} -/
def lenTF : FN := fun xs S Q => match xs with
  | [d] => ∃ kvs, tdD S d = some kvs ∧ Q (.int (kvs.length : Nat)) S
  | _ => False
def listTF : FN := fun xs S Q => match xs with
  | [d] => ∃ kvs, tdD S d = some kvs ∧ Q (.ref S.length) (S ++ [.lst (kvs.map (·.1))])
  | _ => False
def eVals (f : FE) : FE := fun σ S Q => f σ S fun d S1 => ∃ kvs, tdD S1 d = some kvs ∧ Q (.ref S1.length) (S1 ++ [.lst (kvs.map (·.2))])
def eDictN : FE := fun _ S Q => Q (.ref S.length) (S ++ [.tdc []])
section
variable {X : Cx}
theorem cd_lenT : CallD X (.builtin "len") lenTF := by
  refine ⟨_, cr_len_t, fun m S H xs vs P Q s r p w => ?_⟩
  match xs, p with
  | [d], p =>
    obtain ⟨v, rfl, rd⟩ := r.one rfl
    obtain ⟨kvs, e, p⟩ := p
    obtain ⟨a, es, rfl, ha, b, hz⟩ := td_at s rd e
    refine ⟨a, es, rfl, ha, b.nks, by rw [← b.len]; exact hz, ?_⟩
    rw [← b.len]
    exact w _ _ _ _ _ p (.refl _ _) s (.int _)
theorem cd_listT (hc : X.calm = true) : CallD X (.type "list") listTF := by
  refine ⟨_, cr_listN hc, fun m S H xs vs P Q s r p w => ?_⟩
  match xs, p with
  | [d], p =>
    obtain ⟨v, rfl, rd⟩ := r.one rfl
    obtain ⟨kvs, e, p⟩ := p
    obtain ⟨a, es, rfl, ha, b, hz⟩ := td_at s rd e
    refine ⟨a, es, rfl, ha, b.nks, by rw [← b.len]; exact hz, fun q hq => ?_⟩
    obtain ⟨g, s2, r2⟩ := new_lst s hq b.keysR (by rw [List.length_map]; exact hz)
    exact w _ _ _ _ _ p g s2 r2
theorem re_vals {x : Str} {p pos apos cpos : Pos} {e : Expr} {f : FE} (hc : X.calm = true) (hg : Gl X x) (hm : X.mg x = none) (hv : bootBuiltins x = some (.type "list")) (he : RE X e f) (hn : x ≠ "__name__" := by decide) (hdb : (x == ("__debug__" : Str)) = false := by decide)
    (hbase : attributeBase e "values" X.env (eval e X.env) = eval e X.env := by rfl) (hline : (apos.endLine == cpos.line) = true := by rfl)
    (hst : starEach [Expr.Call (.Attribute e "values" apos) [] [] cpos] X.env = (false, eval (.Call (.Attribute e "values" apos) [] [] cpos) X.env) :: starEach [] X.env := by rfl) :
    RE X (.Call (.Name x p) [.Call (.Attribute e "values" apos) [] [] cpos] [] pos) (eVals f) := by
  refine pe_w (pe_listVals hc hg hm hv he hn hdb hbase hline hst) fun σ H Q q => ?_
  obtain ⟨m, σd, S, P, s, rs, p, w⟩ := q
  refine ⟨m, σd, S, _, s, rs, p, fun d S1 m1 v H1 ⟨kvs, e, p1⟩ g1 s1 r1 => ?_⟩
  obtain ⟨a, es, rfl, ha, b, hz⟩ := td_at s1 r1 e
  refine ⟨a, es, rfl, ha, b.nks, by rw [← b.len]; exact hz, fun q hq => ?_⟩
  obtain ⟨g, s2, r2⟩ := new_lst s1 hq b.valsR (by rw [List.length_map]; exact hz)
  exact w _ _ _ _ _ p1 (g1.trans g) s2 r2
theorem re_dictN {pos : Pos} : RE X (.Dict [] [] pos) eDictN := by
  refine pe_w pe_dnewN fun σ H Q q => ?_
  obtain ⟨m, σd, S, P, s, rs, p, w⟩ := q
  intro a ha
  obtain ⟨g, s2, r2⟩ := new_tdc s ha .nil (Nat.zero_le _)
  exact w _ _ _ _ _ p g s2 r2
end
end SD
/-! SNd: dict comprehensions whose keys are tuples. -/
namespace SD
open PySem PySem.Spec PyProof.Rows L2
theorem dictSetN {Y : Cx} {pins : List (Addr × Obj)} {σ : L2.St} {H : Hp} {s : Shared} {E : Value → Shared → Prop} {D b : Addr} {es : List TE3} {k : NestedKey} {v : V} {r : Value} {Q : Unit → Shared → Prop} (hu : Y.A.units + 65 < cLine) (I : Inv Y pins σ H s)
    (e : H D = some (tdO Y.w D es)) (ne : NKs (kW Y) H es) (nk : NK1 (kW Y) H k b) (hz : es.length < sizeLine) (rv : RelV v r) (h : ∀ s', Inv Y pins σ (upd H D (tdO Y.w D (putT es k b v))) s' → Q () s') :
    wpAny (model Y.prog Y.w) Y.A (dictSet D (.ref b) r) Q E s := by
  obtain ⟨hd, xs, pt, dd⟩ := td_rd I (.inl e) ne
  have room : (nestedKind Y.prog Y.w).room Y.A := by show Y.A.units + 8 < cLine; omega
  exact wpAny_dictSet_heap (hsz := by rw [← Paired.length pt]; omega) room (NK1.is I nk) dd fun h' dd' hs => h _ (td_write I e hd (pt.put k b rv) dd' hs)
/-- behind a turn: the block's own names forgotten, the iterator's things as they stood -/
theorem turn_back {Y : Cx} {P : Program} {w : World} {K : PySem.W.Frag} {σ σ8 : L2.St} {vs : List Nat} {fp : List Addr} {h7 : Heap} {H' : Hp} {s' : Shared} {tg : Expr} {J : It} {it : Addr} {tn : Nat → Heap → Prop} {i : Nat} (T : Turn P w K tg J fp it tn) (hw : wipe σ8 vs = wipe σ vs) (st : tn i h7)
    (I' : Inv Y ([] ++ pinsAt fp h7) σ8 H' s') : Inv Y [] (wipe σ vs) H' s' ∧ tn i s'.heap ∧ ∀ b ∈ fp, H' b = none := by
  have there : ∀ b ∈ fp, ∀ o, h7.get? b = some o → s'.heap.get? b = some o ∧ H' b = none := fun b hb o e => by
    have q := I'.pin (b, o) (List.mem_append.mpr (.inr (List.mem_append.mpr (.inr (mem_pinsAt hb e)))))
    exact ⟨q.1, q.2.1⟩
  refine ⟨Inv.weak (Inv.unpinned I') (by rw [← hw, wipe_length]) fun j v e => ?_, T.keep _ _ _ st fun b hb o e => (there b hb o e).1, fun b hb => ?_⟩
  · rw [← hw] at e
    exact (wipe_some e).1
  · obtain ⟨o, e, _⟩ := T.obj _ _ st b hb
    exact (there b hb o e).2
/-- {k: v for target in iter if ..}, keys tuples: D the new dict -/
def tDcN (K : KW) (wi : TI) (g : TG) (tt : TT) (tk tv : TE) (vs : List Nat) : TE := fun σ H Q => wi σ H fun J H1 => ∀ D, H1 D = none → ∃ W : Nat → Nat → Hp → Prop, (∃ m, W 0 m (upd H1 D (tdO K.w D []))) ∧ ∀ i m H, W i m H →
  (J.stop i H ∧ Q (.ref D) H) ∨ (J.go i H ∧ ∃ Nx : Hp → Prop, (∀ H', Nx H' → ∃ m', m' < m ∧ W (i + 1) m' H') ∧ ∀ x H', J.yld i H x H' → g x (wipe σ vs) H' fun σ2 H2 => wipe σ2 vs = wipe σ vs ∧ tt σ2 H2 fun b H3 =>
    if b = true then tk σ2 H3 fun y H4 => tv σ2 H4 fun z H5 => ∃ es k c, y = .ref c ∧ H5 D = some (tdO K.w D es) ∧ NKs K H5 es ∧ NK1 K H5 k c ∧ es.length < sizeLine ∧ Nx (upd H5 D (tdO K.w D (putT es k c z))) else Nx H3)
section
variable {X : Cx} {kx vx tg iter : Expr} {ifs : List Expr} {scope : Scope} {own : List (Str × Nat)} {pos : Pos} {g : TG} {tt : TT} {tk tv : TE}
abbrev blkC (X : Cx) (s : Shared) (H : Hp) (scope : Scope) (C : Addr) (cl : List (Str × Addr)) (fp : List Addr) : Cx := X.blk s H scope (compEnvC scope cl C X.env) fp
/-- the loop, in the block's context Y -/
theorem dcN_loop {Y : Cx} {P : Program} {w : World} {K : PySem.W.Frag} {R : Result → Shared → Prop} {J : It} {it D : Addr} {fp : List Addr} {tn : Nat → Heap → Prop} {σ : L2.St} {vs : List Nat} {W : Nat → Nat → Hp → Prop} {Z : Hp → Prop} (hP : Y.prog = P) (hw : Y.w = w) (hK : Y.K = K) (hcl : Y.calm = true) (hu : Y.A.units + 65 < cLine)
    (hxe : Y.xe = fun _ _ => False)
    (T : Turn P w K tg J fp it tn) (pg : PG Y tg g) (pt : PTs Y ifs tt) (pk : PE Y kx tk) (pv : PE Y vx tv)
    (stat : ∀ {σ' : L2.St} {H' : Hp} {s' : Shared}, Inv Y [] σ' H' s' → (∀ b ∈ fp, H' b = none) → ∀ b ∈ fp, FpOk Y [] H' b)
    (turn : ∀ i m H, W i m H → (J.stop i H ∧ Z H) ∨ (J.go i H ∧ ∃ Nx : Hp → Prop, (∀ H', Nx H' → ∃ m', m' < m ∧ W (i + 1) m' H') ∧ ∀ x H', J.yld i H x H' → g x (wipe σ vs) H' fun σ2 H2 => wipe σ2 vs = wipe σ vs ∧ tt σ2 H2 fun b H3 =>
      if b = true then tk σ2 H3 fun y H4 => tv σ2 H4 fun z H5 => ∃ es k c, y = .ref c ∧ H5 D = some (tdO w D es) ∧ NKs (kW Y) H5 es ∧ NK1 (kW Y) H5 k c ∧ es.length < sizeLine ∧ Nx (upd H5 D (tdO w D (putT es k c z))) else Nx H3))
    (hR : ∀ H' s', Inv Y [] (wipe σ vs) H' s' → Z H' → R (.ok .next) s') {s : Shared} {H : Hp} {m0 : Nat} (I : Inv Y [] (wipe σ vs) H s) (st : tn 0 s.heap) (nf : ∀ b ∈ fp, H b = none) (w0 : W 0 m0 H) :
    codeAny (model P w) Y.A (.compLoop (.DictComp kx vx [⟨tg, iter, ifs, 0⟩] scope pos) 0 (.ref it) (.ref D) Y.env) R s := by
  subst hP hw hK
  refine compLoop_anyD (fun n s' => ∃ i H', Inv Y [] (wipe σ vs) H' s' ∧ tn i s'.heap ∧ (∀ b ∈ fp, H' b = none) ∧ W i n H') (fun n s5 q => ?_) m0 ⟨0, H, I, st, nf, w0⟩
  obtain ⟨i, H5, I5, st5, n5, w5⟩ := q
  rcases turn i n H5 w5 with ⟨stop, z⟩ | ⟨go, Nx, hNx, step⟩
  · refine thnF (T.done Y rfl rfl rfl hcl i [] s5 _ H5 (fun _ _ => False) I5 (stat I5 n5) st5 stop) fun r s6 q => ?_
    obtain ⟨rfl, I6⟩ := q
    exact hR H5 s6 I6 z
  · refine thnF (T.item Y rfl rfl rfl hcl i [] s5 _ H5 (fun _ _ => False) I5 (stat I5 n5) st5 go) fun r s6 q => ?_
    obtain ⟨u, rfl, q⟩ := q
    refine thnF q fun _ s7 q => ?_
    obtain ⟨x, H7, I7, r7, y7, st7, n7⟩ := q
    have back : ∀ {σ8 : L2.St} {s' : Shared} {H' : Hp}, wipe σ8 vs = wipe σ vs → Inv Y ([] ++ pinsAt fp s7.heap) σ8 H' s' → Nx H' → ∃ m, m < n ∧ ∃ i H', Inv Y [] (wipe σ vs) H' s' ∧ tn i s'.heap ∧ (∀ b ∈ fp, H' b = none) ∧ W i m H' := fun hw8 I' nx => by
      obtain ⟨m', hm, w'⟩ := hNx _ nx
      obtain ⟨a, b, c⟩ := turn_back T hw8 st7 I'
      exact ⟨m', hm, i + 1, _, a, b, c, w'⟩
    have I7' := Inv.pinned I7 (stat I7 n7) (T.obj _ _ st7)
    have up : ∀ {α : Type} {t : Sem α} {Qa Qb : α → Shared → Prop} {s' : Shared}, wpAny (model Y.prog Y.w) Y.A t Qa Y.xe s' → (∀ a s, Qa a s → Qb a s) → wpAny (model Y.prog Y.w) Y.A t Qb (notedBy (model Y.prog Y.w) Y.A Y.env fun e s' => R (.error e) s') s' := fun h k => by
      rw [hxe] at h
      exact thnF h k
    refine up (pg.run _ s7 _ H7 x u _ I7' r7 (step x H7 y7)) fun _ s8 q => ?_
    obtain ⟨σ8, H8, I8, hw8, q8⟩ := q
    refine up (pt.run _ s8 σ8 H8 _ I8 q8) fun b s9 q => ?_
    obtain ⟨H9, I9, q9⟩ := q
    cases b with
    | false =>
      rw [if_neg (by decide)] at q9 ⊢
      exact back hw8 I9 q9
    | true =>
      rw [if_pos rfl] at q9 ⊢
      refine up (pk.run _ s9 σ8 H9 _ I9 q9) fun kv s10 q => ?_
      obtain ⟨yk, H10, I10, r10, q10⟩ := q
      refine up (pv.run _ s10 σ8 H10 _ I10 q10) fun vv s11 q => ?_
      obtain ⟨yv, H11, I11, r11, es, k, c, rfl, hD, ne, nk, hz, nx⟩ := q
      cases r10
      exact dictSetN hu I11 hD ne nk hz r11 fun s12 I12 => back hw8 I12 nx
/-- {k: v for ..}, its keys tuples, whatever becomes of it -/
theorem dcN_core {wi : TI} {pins : List (Addr × Obj)} {s : Shared} {σ : L2.St} {H : Hp} {Q : VK} {pos' : Pos} {use : Option (Value → Sem Unit)} {Qf : Value → Shared → Prop} (hc : X.calm = true) (hu : X.A.units + 65 < cLine) (hN : X.N.Nodup) (I : Inv X pins σ H s) (hi : PI X tg iter wi) (ok : BlkOk X.N X.env.scope scope own)
    (hg : ∀ s H C cl fp, PG (blkC X s H scope C cl fp) tg g) (ht : ∀ s H C cl fp, PTs (blkC X s H scope C cl fp) ifs tt) (hk : ∀ s H C cl fp, PE (blkC X s H scope C cl fp) kx tk) (he : ∀ s H C cl fp, PE (blkC X s H scope C cl fp) vx tv)
    (hs : ∀ x, foldedSetIterable iter X.env x = pure x) (h : tDcN (kW X) wi g tt tk tv (own.map (·.2)) σ H Q)
    (then_ : ∀ D C s' m H', Inv X pins σ H' s' → Q (.ref D) H' → s'.heap.Ns C m → FpOk X pins H' C → compPost (model X.prog X.w) X.A X.xe use Qf (.ref D) C (.ok .next) s') :
    wpAny (model X.prog X.w) X.A (comprehension (.DictComp kx vx [⟨tg, iter, ifs, 0⟩] scope pos) scope X.env pos' newDict false (eval iter X.env) use) Qf X.xe s := by
  refine wpAny_comprehension_free (use := use) rfl hs (closure_ok fun y hy e => (ok.free y hy e).elim (fun z => I.ok.has _ (.inl z)) fun z => I.ok.has _ (.inr z)) ok.kind (fun y hy e => by rw [ok.uniq y hy, e]) (thn (hi.run pins s σ H _ I h) fun xv s1 hx => thn hx fun itv s2 h2 => ?_)
  obtain ⟨it, fp, tn, J, H2, rfl, I2, T, st2, f2, q⟩ := h2
  refine wpAny_newObj_type (newEnv_comp ?_)
  have hDn : H2 s2.heap.objs.size = none := I2.hok.fresh (Nat.le_refl _)
  obtain ⟨W, ⟨m0, w0⟩, turn⟩ := q s2.heap.objs.size hDn
  have I3 : Inv X pins σ (upd H2 s2.heap.objs.size (tdO X.w s2.heap.objs.size [])) { s2 with heap := s2.heap.push { cls := .type "dict", data := .dict #[] } } :=
    I2.laid (t' := s2.toks) (fun _ _ e => Heap.get?_push_of_some _ e) (Nat.le_refl _) (td_empty s2.heap I2.big)
  have old : ∀ b ∈ fp, b < s2.heap.objs.size := fun b hb => by
    obtain ⟨o, e, _⟩ := T.obj _ _ st2 b hb
    exact Heap.lt_size e
  have f3 : ∀ b ∈ fp, FpOk X pins (upd H2 s2.heap.objs.size (tdO X.w s2.heap.objs.size [])) b ∧ b < (s2.heap.push { cls := .type "dict", data := .dict #[] }).objs.size := fun b hb => by
    have lt := old b hb
    refine ⟨⟨?_, (f2 b hb).2⟩, by rw [Heap.size_push]; exact Nat.lt_succ_of_lt lt⟩
    rw [upd_ne (Nat.ne_of_lt lt)]
    exact (f2 b hb).1
  have st3 : tn 0 (s2.heap.push { cls := .type "dict", data := .dict #[] }) := T.keep _ _ _ st2 fun b _ o e => Heap.get?_push_of_some _ e
  generalize hs3 : ({ s2 with heap := s2.heap.push { cls := .type "dict", data := .dict #[] } } : Shared) = s3 at I3
  have e3 : s2.heap.push { cls := .type "dict", data := .dict #[] } = s3.heap := by rw [← hs3]
  rw [e3] at f3 st3
  generalize hH3 : upd H2 s2.heap.objs.size (tdO X.w s2.heap.objs.size []) = H3 at I3 f3
  have w0 : W 0 m0 H3 := by rw [← hH3]; exact w0
  have I4 := block_start I3 ok hN f3
  have pg := hg s3 H3 s3.heap.objs.size (cellsFrom (s3.heap.objs.size + 1) scope.names (cloFrom X.env.cells scope.names [])) fp
  have pt := ht s3 H3 s3.heap.objs.size (cellsFrom (s3.heap.objs.size + 1) scope.names (cloFrom X.env.cells scope.names [])) fp
  have pk := hk s3 H3 s3.heap.objs.size (cellsFrom (s3.heap.objs.size + 1) scope.names (cloFrom X.env.cells scope.names [])) fp
  have pv := he s3 H3 s3.heap.objs.size (cellsFrom (s3.heap.objs.size + 1) scope.names (cloFrom X.env.cells scope.names [])) fp
  show codeAny _ _ (.compStart _ 0 (.ref it) (.ref s2.heap.objs.size) (compEnvC scope (cellsFrom (s3.heap.objs.size + 1) scope.names (cloFrom X.env.cells scope.names [])) s3.heap.objs.size X.env)) (compPost (model X.prog X.w) X.A X.xe use Qf (.ref s2.heap.objs.size) s3.heap.objs.size) _
  have cL : (compEnvC scope (cellsFrom (s3.heap.objs.size + 1) scope.names (cloFrom X.env.cells scope.names [])) s3.heap.objs.size X.env).locals = s3.heap.objs.size := rfl
  unfold blkC at pg pt pk pv
  generalize compEnvC scope (cellsFrom (s3.heap.objs.size + 1) scope.names (cloFrom X.env.cells scope.names [])) s3.heap.objs.size X.env = ce at I4 pg pt pk pv cL ⊢
  have st4 : tn 0 (pushCells (s3.heap.push { cls := .type "dict", data := .dict #[] }) scope.names) := T.keep _ _ _ st3 fun b _ o e => pushCells_keeps _ _ _ _ (Heap.get?_push_of_some _ e)
  generalize hs4 : ({ s3 with heap := pushCells (s3.heap.push { cls := .type "dict", data := .dict #[] }) scope.names } : Shared) = s4 at I4
  have st4 : tn 0 s4.heap := by rw [← hs4]; exact st4
  have loop := dcN_loop (kx := kx) (vx := vx) (iter := iter) (scope := scope) (pos := pos) (Y := X.blk s3 H3 scope ce fp) (D := s2.heap.objs.size) (R := compPost (model X.prog X.w) X.A X.xe use Qf (.ref s2.heap.objs.size) s3.heap.objs.size) rfl rfl rfl hc hu rfl T pg pt pk pv
    (fun {σ' H' s'} I' hn b hb => ⟨hn b hb, (I'.ok.exf b hb).1, I'.ok.exfs b hb, .inl hb, fun x c e => (I'.ok.exf b hb).2 x c e, fun p hp => by cases hp⟩) turn
    (fun H' s' I' z => by
      have I7 : Inv X pins σ H' s' := I3.call' (ch := fp) I'.os I'.base I'.hok I'.bare fun b hb => ⟨(f3 b hb).1.2.2.2.1, (f3 b hb).1.2.1, (f3 b hb).1.2.2.2.2.1, (f3 b hb).1.2.2.2.2.2⟩
      have nC : H' s3.heap.objs.size = none := by
        have q : H' ce.locals = none := I'.free
        rw [cL] at q; exact q
      obtain ⟨m, hn, _⟩ := I'.loc
      have hn : s'.heap.Ns s3.heap.objs.size m := by
        have q : s'.heap.Ns ce.locals m := hn
        rw [cL] at q; exact q
      exact then_ _ _ s' m H' I7 z hn (I3.fpOk (Nat.le_refl _) nC))
    I4 st4 (fun b hb => (f3 b hb).1.1) w0
  exact codeAny_compStart_dict loop (T.self X.A 0 _ _ _ st4 loop)
/-- as a value -/
theorem pe_dcN {wi : TI} (hc : X.calm = true) (hu : X.A.units + 65 < cLine) (hN : X.N.Nodup) (hi : PI X tg iter wi) (ok : BlkOk X.N X.env.scope scope own)
    (hg : ∀ s H C cl fp, PG (blkC X s H scope C cl fp) tg g) (ht : ∀ s H C cl fp, PTs (blkC X s H scope C cl fp) ifs tt) (hk : ∀ s H C cl fp, PE (blkC X s H scope C cl fp) kx tk) (he : ∀ s H C cl fp, PE (blkC X s H scope C cl fp) vx tv)
    (hs : ∀ x, foldedSetIterable iter X.env x = pure x := by intro _; rfl) : PE X (.DictComp kx vx [⟨tg, iter, ifs, 0⟩] scope pos) (tDcN (kW X) wi g tt tk tv (own.map (·.2))) := by
  refine ⟨fun pins s σ H Q I h => ?_⟩
  rw [arm_eval_DictComp]
  refine dcN_core hc hu hN I hi ok hg ht hk he hs h fun D C s' m H' I' q hn f => ?_
  obtain ⟨k0, k1, k2, k3, k4, k5⟩ := f
  exact ⟨m, hn, fun h'' sb => ⟨.ref D, H', I'.turned (t' := s'.toks) (fun b o hb e => (sb.2 b hb).trans e) k0 k1 k3 k4 k5, rfl, q⟩⟩
end
/-! ### over D -/
def dcT (ok : Store → Prop) (g : FG) (t : FT) (fk fv : FE) (n0 : Nat) (Q : Store → Prop) (σ : Slots) : List D → Store → Prop
  | [], S => ok S ∧ Q S
  | x :: xs, S => ok S ∧ g x σ S fun σ2 S2 => t σ2 S2 fun b S3 => if b = true then fk σ2 S3 fun k S4 => fv σ2 S4 fun v S5 => ∃ acc, tkD k = true ∧ S5[n0]? = some (.tdc acc) ∧ acc.length < sizeLine ∧ dcT ok g t fk fv n0 Q σ xs (S5.set n0 (.tdc (putD acc k v)))
      else dcT ok g t fk fv n0 Q σ xs S3
def eDcN (f : FI) (g : FG) (t : FT) (fk fv : FE) (vs : List Nat) : FE := fun σ S Q => f σ S fun ok xs S1 => xs.length ≤ sizeLine → dcT ok g t fk fv S1.length (fun S' => Q (.ref S1.length) S') (wipeD σ vs) xs (S1 ++ [.tdc []])
theorem tOf_dcN {K : KW} {g : TG} {gd : FG} {vs : List Nat} (hg : PGD K vs g gd) {f : FI} {t : FT} {fk fv : FE} {σ : L2.St} {H : Hp} {Q : VK} (h : tOf K (eDcN f gd t fk fv vs) σ H Q) : tDcN K (tOfI K f) g (tOfT K t) (tOf K fk) (tOf K fv) vs σ H Q := by
  obtain ⟨m, σd, S, P, s, r, p, w⟩ := h
  refine ⟨m, σd, S, _, s, r, p, fun ok xs S1 m1 H1 J p1 g1 s1 wk => fun D hD => ?_⟩
  have p1 := p1 wk.few
  obtain ⟨gN, sN, rN⟩ := new_tdc s1 hD .nil (Nat.zero_le _)
  have hm : (m1 ++ [D])[S1.length]? = some D := by rw [← s1.len]; simp
  refine ⟨fun i n H2 => n = xs.length - i ∧ i ≤ xs.length ∧ ∃ m2 S2, Sim K m2 S2 H2 ∧ Grow (m1 ++ [D]) (upd H1 D (tdO K.w D [])) m2 H2 ∧ dcT ok gd t fk fv S1.length (fun S' => P (.ref S1.length) S') (wipeD σd vs) (xs.drop i) S2, ⟨xs.length, by simp, Nat.zero_le _, _, _, sN, .refl _ _, p1⟩, ?_⟩
  rintro i n H2 ⟨rfl, hi, m2, S2, s2, g2, h2⟩
  by_cases hlt : i < xs.length
  · have ed : xs.drop i = xs[i] :: xs.drop (i + 1) := List.drop_eq_getElem_cons hlt
    rw [ed] at h2
    obtain ⟨hok, h2⟩ := h2
    obtain ⟨go, yl⟩ := wk.go i m2 S2 H2 xs[i] (gN.trans g2) s2 hok (by simp [hlt])
    refine .inr ⟨go, fun H' => ∃ m3 S3, Sim K m3 S3 H' ∧ Grow (m1 ++ [D]) (upd H1 D (tdO K.w D [])) m3 H' ∧ dcT ok gd t fk fv S1.length (fun S' => P (.ref S1.length) S') (wipeD σd vs) (xs.drop (i + 1)) S3, fun H' ⟨m3, S3, s3, g3, h3⟩ => ⟨xs.length - (i + 1), by omega, rfl, hlt, m3, S3, s3, g3, h3⟩, fun x H3 hy => ?_⟩
    obtain ⟨g3, s3, rx⟩ := yl x H3 hy
    refine hg m2 S2 H3 σ (wipeD σd vs) xs[i] x _ _ s3 ((r.wipe vs).up (g1.trans (gN.trans (g2.trans g3)))) rx h2 fun σd4 S4 m4 σ4 H4 p4 g4 s4 r4 hw => ⟨hw, ?_⟩
    refine ⟨m4, σd4, S4, _, s4, r4, p4, fun b S5 m5 H5 p5 g5 s5 => ?_⟩
    cases b with
    | false =>
      rw [if_neg (by decide)] at p5
      exact iteF ⟨m5, S5, s5, g2.trans (g3.trans (g4.trans g5)), p5⟩
    | true =>
      rw [if_pos rfl] at p5
      refine iteT ⟨m5, σd4, S5, _, s5, r4.up g5, p5, fun y S6 m6 vy H6 p6 g6 s6 r6 => ?_⟩
      refine ⟨m6, σd4, S6, _, s6, r4.up (g5.trans g6), p6, fun z S7 m7 vz H7 ⟨acc, hk, e7, hz, p7⟩ g7 s7 r7 => ?_⟩
      have gg := g2.trans (g3.trans (g4.trans (g5.trans (g6.trans g7))))
      have hm7 := gg.at hm
      have rc := s7.cell _ _ _ hm7 e7
      obtain ⟨k, c, rfl, ek, hd, rk⟩ := tk_ref r6 hk
      subst ek
      generalize eo : H7 D = o at rc
      cases rc with
      | @tdc _ es hz2 b =>
        have g8 := Grow.write s7 hm7 e7 rfl (tdO K.w D (putT es k c vz))
        refine ⟨es, k, c, rfl, eo, b.nks, ⟨hd, m7, rk.up g7⟩, by rw [← b.len]; exact hz, m7, _, s7.write hm7 e7 rfl (.tdc ?_ ((b.up g8).put hd (rk.up (g7.trans g8)) (r7.up g8))), gg.trans g8, p7⟩
        have := length_putD acc (keyN k) z
        omega
  · have ei : i = xs.length := by omega
    subst ei
    rw [List.drop_length] at h2
    exact .inl ⟨wk.stop _ m2 S2 H2 (gN.trans g2) s2 h2.1 (Nat.le_refl _), w _ _ _ _ _ h2.2 (g1.trans (gN.trans g2)) s2 (.ref (g2.at hm))⟩
section
variable {X : Cx} {kx vx tg iter : Expr} {ifs : List Expr} {scope : Scope} {own : List (Str × Nat)} {pos spos py : Pos} {g : TG} {gd : FG} {f : FI} {t : FT} {fk fv : FE} {i : Nat} {y : Str}
theorem re_dcN (hc : X.calm = true) (hu : X.A.units + 65 < cLine) (hN : X.N.Nodup) (hi : RI X tg iter f) (ok : BlkOk X.N X.env.scope scope own) (hgd : PGD (kW X) (own.map (·.2)) g gd)
    (hg : ∀ s H C cl fp, PG (blkC X s H scope C cl fp) tg g) (ht : ∀ s H C cl fp, RTs (blkC X s H scope C cl fp) ifs t) (hk : ∀ s H C cl fp, RE (blkC X s H scope C cl fp) kx fk) (he : ∀ s H C cl fp, RE (blkC X s H scope C cl fp) vx fv)
    (hs : ∀ x, foldedSetIterable iter X.env x = pure x := by intro _; rfl) : RE X (.DictComp kx vx [⟨tg, iter, ifs, 0⟩] scope pos) (eDcN f gd t fk fv (own.map (·.2))) :=
  pe_w (pe_dcN (tt := tOfT (kW X) t) (tk := tOf (kW X) fk) (tv := tOf (kW X) fv) hc hu hN hi ok hg ht hk he hs) fun _ _ _ q => tOf_dcN hgd q
theorem rs_setDcN (hc : X.calm = true) (hu : X.A.units + 65 < cLine) (hN : X.N.Nodup) (hi : RI X tg iter f) (ok : BlkOk X.N X.env.scope scope own) (hgd : PGD (kW X) (own.map (·.2)) g gd)
    (hg : ∀ s H C cl fp, PG (blkC X s H scope C cl fp) tg g) (ht : ∀ s H C cl fp, RTs (blkC X s H scope C cl fp) ifs t) (hk : ∀ s H C cl fp, RE (blkC X s H scope C cl fp) kx fk) (he : ∀ s H C cl fp, RE (blkC X s H scope C cl fp) vx fv)
    (hsw : swapsWith (.DictComp kx vx [⟨tg, iter, ifs, 0⟩] scope pos) (some (.Name y py)) spos.line X.env = pure true) (hy : X.N[i]? = some y := by rfl) (hyl : X.env.scope.names.lookup y = some .local := by rfl) (hs : ∀ x, foldedSetIterable iter X.env x = pure x := by intro _; rfl) :
    RS X (.Assign [.Name y py] (.DictComp kx vx [⟨tg, iter, ifs, 0⟩] scope pos) spos) (sAsg (eDcN f gd t fk fv (own.map (·.2))) (gNm i)) := by
  refine ⟨fun pins s σ H D I q => ?_⟩
  obtain ⟨m, σd, S, E, s0, r0, p0, w0⟩ := q
  have q : tDcN (kW X) (tOfI (kW X) f) g (tOfT (kW X) t) (tOf (kW X) fk) (tOf (kW X) fv) (own.map (·.2)) σ H (fun x H1 => gName i x σ H1 D.nx) :=
    tOf_dcN hgd ⟨m, σd, S, _, s0, r0, p0, fun d S1 m1 v H1 p1 g1 s1 r1 => w0.nx _ _ _ _ _ p1 g1 s1 ((r0.up g1).set r1 i)⟩
  rw [exec_Assign_Name_used _ _ _ _ hsw]
  refine wpAny_bind (wpAny_standAt (wpAny_bind ?_))
  show wpAny _ X.A (do
    let _ ← comprehension (.DictComp kx vx [⟨tg, iter, ifs, 0⟩] scope pos) scope X.env (firstIterPos [⟨tg, iter, ifs, 0⟩] pos) newDict false (eval iter X.env) (some (assign (.Name y py) X.env))) _ _ s
  refine wpAny_bind (thn (dcN_core (Qf := fun _ s1 => SP X pins D .next s1) hc hu hN I hi ok hg ht hk he hs q fun L C s1 m1 H1 I1 q1 hn ⟨f0, f1, f2, f3, f4, f5⟩ => ?_) fun _ s2 z => wpAny_pure (wpAny_pure z))
  show wpAny _ _ (assign (.Name y py) X.env (.ref L)) _ _ _
  refine wpAny_assign_Name (store_ok2 (v := V.ref L) I1 hN hy (.inl hyl) rfl (fun s2 I2 ⟨a, sb, ha⟩ => ?_) (.inr hyl))
  have off : C ≠ a := by
    rcases ha with z | z
    · subst z; exact f1
    · exact fun e => f4 y a z e.symm
  exact ⟨m1, hn.sameBut sb off, fun h3 sb3 => ⟨_, H1, I2.turned (t' := s2.toks) (fun b o hb e => (sb3.2 b hb).trans e) f0 f1 f3 f4 f5, q1⟩⟩
end
end SD
/-! SNe: a dict by tuples walked, locked meanwhile. -/
namespace SD
open PySem PySem.Spec PyProof.Rows L2
/-- the keys' tuples, in order -/
def ItN (w : World) (d : Addr) (od : Obj) (es : List TE3) : It :=
  ⟨fun i H => H d = some (.frz od (tdO w d es)) ∧ i < es.length, fun i H x H' => H' = H ∧ ∃ e, es[i]? = some e ∧ x = .ref e.2.1, fun i H => H d = some (.frz od (tdO w d es)) ∧ es.length ≤ i⟩
theorem frz_td {X : Cx} {pins : List (Addr × Obj)} {σ : L2.St} {H : Hp} {s : Shared} {d : Addr} {od : Obj} {es : List TE3} (I : Inv X pins σ H s) (h : H d = some (.frz od (tdO X.w d es))) :
    (d == sysModules) = false ∧ s.heap.get? d = some od ∧ od.ExactDict ∧ ∃ des ep, od.data = .dict des ep ∧ des.size = es.length ∧ ∀ (i : Nat) (e : TE3), es[i]? = some e → ∃ en : DictEntry, des[i]? = some en ∧ en.key = Value.ref e.2.1 := by
  obtain ⟨hg, ⟨hd, xs, pt, o, des, ep, h1, h2, h3, h4, _⟩, _, _⟩ := (show ObjOk X.prog X.w H s.heap d (.frz od (tdO X.w d es)) from I.hok d _ h)
  rw [hg] at h1
  cases h1
  have hl : des.size = xs.length := by
    have := congrArg List.length h4
    simpa using this
  refine ⟨hd, hg, h2, des, ep, h3, by rw [hl]; exact (Paired.length pt).symm, fun i e he => ?_⟩
  have hx : ∀ {es : List TE3} {xs : List (NestedKey × Addr × Value)}, PT es xs → ∀ (i : Nat) (e : TE3), es[i]? = some e → ∃ x : NestedKey × Addr × Value, xs[i]? = some x ∧ e.2.1 = x.2.1 := by
    intro es xs pt
    induction pt with
    | nil => intro i e z; simp at z
    | @cons a b _ _ h t ih =>
      intro i e z
      cases i with
      | zero => simp at z; subst z; exact ⟨b, rfl, h.2.1⟩
      | succ i => exact ih i e (by simpa using z)
  obtain ⟨x, q1, q2⟩ := hx pt i e he
  have q3 : des.toList[i]? = some (⟨x.1.hash X.w, .ref x.2.1, x.2.2⟩ : DictEntry) := by rw [h4, List.getElem?_map, q1]; rfl
  exact ⟨_, by rw [← Array.getElem?_toList]; exact q3, by rw [q2]⟩
theorem turn_N {P : Program} {w : World} {K : PySem.W.Frag} {tg : Expr} {d it : Addr} {od : Obj} {es : List TE3} {des : Array DictEntry} {ep : Nat} (hod : od.data = .dict des ep) : Turn P w K tg (ItN w d od es) [it] it (fun i h => h.IsKeyIter it d i es.length ep) where
  mem := List.mem_singleton.mpr rfl
  obj := fun i h st b hb => by
    obtain rfl : b = it := List.mem_singleton.mp hb
    obtain ⟨oi, e, c, dd⟩ := st
    exact ⟨oi, e, fun v z => by rw [dd] at z; exact nomatch z⟩
  keep := fun i h h' st k => st.at fun oi e => k it (List.mem_singleton.mpr rfl) oi e
  item := by
    intro X hP hw hK hc i pins s σ H E I hf st hg
    subst hP hw hK
    obtain ⟨hd, hi⟩ := hg
    obtain ⟨f0, f1, f2, f3, f4, f5⟩ := hf it (List.mem_singleton.mpr rfl)
    obtain ⟨_, hgd, _, des', ep', hdt, hsz, ent⟩ := frz_td I hd
    obtain ⟨rfl, rfl⟩ := dict_ep hod hdt
    obtain ⟨e, he⟩ : ∃ e, es[i]? = some e := ⟨es[i], List.getElem?_eq_getElem hi⟩
    obtain ⟨en, hen, hkey⟩ := ent i e he
    refine next_key_item st hgd hdt hsz hen fun h' st' sb => ⟨en.key, rfl, ?_⟩
    have J : Inv X pins σ H { s with heap := h' } := I.turned (t' := s.toks) (fun b ob hb q => (sb.2 b hb).trans q) f0 f1 f3 f4 f5
    obtain ⟨oi, k1, k2, k3⟩ := id st'
    exact go_of (s := { s with heap := h' }) k1 k2 k3 (by decide) ⟨.ref e.2.1, H, J, hkey, ⟨rfl, e, he, rfl⟩, st', fun b hb => (hf b hb).1⟩
  done := by
    intro X hP hw hK hc i pins s σ H E I hf st hg
    subst hP hw hK
    obtain ⟨hd, hi⟩ := hg
    obtain ⟨f0, f1, f2, f3, f4, f5⟩ := hf it (List.mem_singleton.mpr rfl)
    obtain ⟨_, hgd, _, des', ep', hdt, hsz, _⟩ := frz_td I hd
    obtain ⟨rfl, rfl⟩ := dict_ep hod hdt
    exact next_key_end (I.ok.hd hc) st hgd hdt hsz hi fun h' eb => ⟨rfl, I.turned (t' := s.toks) (fun b ob hb q => eb b ob hb q) f0 f1 f3 f4 f5⟩
  self := fun A i s Q E st h => wpAny_pyIter_keyiter st h
def iKeysN (K : KW) (td : TE) : TI := fun σ H R => td σ H fun x H1 => ∃ d od es, x = .ref d ∧ H1 d = some (.frz od (tdO K.w d es)) ∧ R (ItN K.w d od es) H1
theorem pi_keysN {X : Cx} {tg e : Expr} {td : TE} (he : PE X e td) : PI X tg e (iKeysN (kW X) td) := by
  refine ⟨fun pins s σ H R I h => ?_⟩
  refine thn (he.run pins s σ H _ I h) fun u s1 ⟨x, H1, I1, rx, d, od, es, ex, hd, q⟩ => ?_
  subst ex
  cases rx
  obtain ⟨hs, hgd, hx, des, ep, hdt, hsz, _⟩ := frz_td I1 hd
  refine iter_keys hs hgd hx hdt (pi_one (tk := s1.toks) I1 _ (turn_N hdt) ⟨_, Heap.get?_push_size _ rfl, rfl, ?_⟩ q)
  rw [hsz] <;> rfl
/-- for k in d, d the name in slot i, a dict by tuples -/
def iKeysT (i : Nat) : FI := fun σ S R => ∃ n kvs, σ[i]? = some (some (.ref n)) ∧ S[n]? = some (.tlk kvs) ∧ R (fun S => S[n]? = some (.tlk kvs)) (kvs.map (·.1)) S
section
variable {X : Cx} {tg : Expr}
theorem ri_keysT (i : Nat) {x : Str} {pos : Pos} (hN : X.N[i]? = some x := by rfl) (hv : Vis X.env.scope x := by first | exact Or.inl rfl | exact Or.inr (Or.inl rfl) | exact Or.inr (Or.inr rfl)) (hd : (x == ("__debug__" : Str)) = false := by decide)
    (hcd : (x == ("__classdict__" : Str)) = false := by decide) : RI X tg (.Name x pos) (iKeysT i) := by
  refine pi_w (pi_keysN (pe_var hN hv hd hcd)) fun σ H R q => ?_
  obtain ⟨m, σd, S, P, s, r, ⟨n, kvs, e1, e2, p⟩, w⟩ := q
  obtain ⟨v, e3, rv⟩ := r.val i _ e1
  refine ⟨v, e3, ?_⟩
  cases rv with
  | @ref _ d a =>
    have rc := s.cell _ _ _ a e2
    generalize eo : H d = o at rc
    cases rc with
    | @tlk _ es od z b =>
      refine ⟨d, od, es, rfl, eo, w _ _ _ _ _ _ p (.refl _ _) s ⟨by rw [List.length_map]; exact z, fun i m2 S2 H2 d2 g s2 ok hd => ?_, fun i m2 S2 H2 g s2 ok hi => ?_⟩⟩
      · obtain ⟨v', e8, rv⟩ := (b.keysR.up g).get hd
        rw [List.getElem?_map] at e8
        cases e5 : es[i]? with
        | none => rw [e5] at e8; cases e8
        | some e =>
          rw [e5] at e8
          cases e8
          refine ⟨⟨g.frzs _ _ _ eo, (List.getElem?_eq_some_iff.mp e5).1⟩, fun x H3 y => ?_⟩
          obtain ⟨rfl, e', e6, rfl⟩ := y
          rw [e5] at e6; cases e6
          exact ⟨.refl _ _, s2, rv⟩
      · exact ⟨g.frzs _ _ _ eo, by rw [← b.len]; rw [List.length_map] at hi; exact hi⟩
end
def eLockT (i : Nat) (f : FE) : FE := fun σ S Q => ∃ n kvs, σ[i]? = some (some (.ref n)) ∧ S[n]? = some (.tdc kvs) ∧ f σ (S.set n (.tlk kvs)) fun d S' => S'[n]? = some (.tlk kvs) ∧ Q d (S'.set n (.tdc kvs))
def sLockT (i : Nat) (f : FS) : FS := fun E σ S => ∃ n kvs, σ[i]? = some (some (.ref n)) ∧ S[n]? = some (.tdc kvs) ∧
  f ⟨fun σ' S' => S'[n]? = some (.tlk kvs) ∧ E.nx σ' (S'.set n (.tdc kvs)), fun d S' => S'[n]? = some (.tlk kvs) ∧ E.rt d (S'.set n (.tdc kvs)), fun σ' S' => S'[n]? = some (.tlk kvs) ∧ E.bk σ' (S'.set n (.tdc kvs)), fun σ' S' => S'[n]? = some (.tlk kvs) ∧ E.ct σ' (S'.set n (.tdc kvs))⟩ σ (S.set n (.tlk kvs))
section
variable {K : KW} {m m' : List Addr} {H H' : Hp} {S S' : Store} {n : Nat} {p : Addr} {kvs : List (D × D)} {es : List TE3} {od : Obj}
theorem lockT_sim (s : Sim K m S H) (hp : m[n]? = some p) (hS : S[n]? = some (.tdc kvs)) (b : RKT K m H kvs es) (hz : kvs.length ≤ sizeLine) : Sim K m (S.set n (.tlk kvs)) (upd H p (.frz od (tdO K.w p es))) ∧ Grow m H m (upd H p (.frz od (tdO K.w p es))) := by
  have g := Grow.write s hp hS rfl (.frz od (tdO K.w p es))
  exact ⟨s.write hp hS rfl (.tlk hz (b.up g)), g⟩
theorem unlockT0 (hp : H p = some (.frz od (tdO K.w p es))) : Grow0 m H m (upd H p (tdO K.w p es)) := by
  refine ⟨List.prefix_refl _, fun a xs e => ?_, fun a o u _ hu e => ?_⟩
  · rw [upd_ne (fun z => by subst z; rw [hp] at e; cases e)]
    exact e
  · rw [upd_ne (fun z => by subst z; rw [hp] at e; cases e; exact hu _ rfl)]
    exact e
/-- the lock is taken away -/
theorem unlockT (s : Sim K m' S' H') (g : Grow m (upd H p (.frz od (tdO K.w p es))) m' H') (hp : m[n]? = some p) (hH : H p = some (tdO K.w p es)) (b : RKT K m H kvs es) (hz : kvs.length ≤ sizeLine) (hS : S'[n]? = some (.tlk kvs)) :
    H' p = some (.frz od (tdO K.w p es)) ∧ Sim K m' (S'.set n (.tdc kvs)) (upd H' p (tdO K.w p es)) ∧ Grow m H m' (upd H' p (tdO K.w p es)) ∧ Grow0 m' H' m' (upd H' p (tdO K.w p es)) := by
  have e : H' p = some (.frz od (tdO K.w p es)) := g.frzs _ _ _ upd_same
  have g0 : Grow0 m' H' m' (upd H' p (tdO K.w p es)) := unlockT0 e
  have gr : Grow m H m' (upd H' p (tdO K.w p es)) := by
    refine ⟨g.pre, fun a xs q => ?_, fun a o u q => ?_⟩
    · have ne : a ≠ p := fun z => by subst z; rw [hH] at q; cases q
      rw [upd_ne ne]
      exact g.tups _ _ (by rw [upd_ne ne]; exact q)
    · have ne : a ≠ p := fun z => by subst z; rw [hH] at q; cases q
      rw [upd_ne ne]
      exact g.frzs _ _ _ (by rw [upd_ne ne]; exact q)
  have hp' : m'[n]? = some p := g.at hp
  refine ⟨e, ⟨by rw [List.length_set]; exact s.len, s.nd, fun i q c a h => ?_⟩, gr, g0⟩
  by_cases hi : i = n
  · subst hi
    rw [hp'] at a; cases a
    rw [List.getElem?_set_self (List.getElem?_eq_some_iff.mp hS).1] at h
    cases h
    rw [upd_same]
    exact .tdc hz (b.up gr)
  · rw [List.getElem?_set_ne (Ne.symm hi)] at h
    have ne : q ≠ p := fun z => hi (nd_ix s.nd a (z ▸ hp'))
    rw [upd_ne ne]
    exact (s.cell i q c a h).up0 g0
end
section
variable {X : Cx}
theorem re_lockT {e : Expr} {f : FE} (i : Nat) (h : RE X e f) : RE X e (eLockT i f) := by
  refine pe_w (pe_lock h) fun σ H Q q => ?_
  obtain ⟨m, σd, S, P, s, r, ⟨n, kvs, e1, e2, p⟩, w⟩ := q
  obtain ⟨v, e3, rv⟩ := r.val i _ e1
  obtain ⟨d, es, rfl, a, hd, b, hz⟩ := tdc_at s rv e2
  refine ⟨d, _, hd, trivial, fun od => ?_⟩
  obtain ⟨s1, g1⟩ := lockT_sim (od := od) s a e2 b hz
  refine ⟨m, σd, _, _, s1, r.up g1, p, fun x S' m' v H' ⟨h3, p3⟩ g3 s3 r3 => ?_⟩
  obtain ⟨u1, u2, u3, u4⟩ := unlockT s3 g3 a hd b hz h3
  exact ⟨u1, w _ _ _ _ _ p3 u3 u2 (RD.mono u4 _ _ r3)⟩
theorem rs_lockT {st : Stmt} {f : FS} (i : Nat) (h : RS X st f) : RS X st (sLockT i f) := by
  refine ps_w (ps_lock h) fun D σ H q => ?_
  obtain ⟨m, σd, S, E, s, r, ⟨n, kvs, e1, e2, p⟩, w⟩ := q
  obtain ⟨v, e3, rv⟩ := r.val i _ e1
  obtain ⟨d, es, rfl, a, hd, b, hz⟩ := tdc_at s rv e2
  refine ⟨d, _, hd, trivial, fun od => ?_⟩
  obtain ⟨s1, g1⟩ := lockT_sim (od := od) s a e2 b hz
  refine ⟨m, σd, _, _, s1, r.up g1, p, ⟨fun σ' S' m' v H' ⟨h3, p3⟩ g3 s3 r3 => ?_, fun x S' m' v H' ⟨h3, p3⟩ g3 s3 r3 => ?_, fun σ' S' m' v H' ⟨h3, p3⟩ g3 s3 r3 => ?_, fun σ' S' m' v H' ⟨h3, p3⟩ g3 s3 r3 => ?_⟩⟩
  all_goals obtain ⟨u1, u2, u3, u4⟩ := unlockT s3 g3 a hd b hz h3
  · exact ⟨u1, w.nx _ _ _ _ _ p3 u3 u2 (r3.up0 u4)⟩
  · exact ⟨u1, w.rt _ _ _ _ _ p3 u3 u2 (RD.mono u4 _ _ r3)⟩
  · exact ⟨u1, w.bk _ _ _ _ _ p3 u3 u2 (r3.up0 u4)⟩
  · exact ⟨u1, w.ct _ _ _ _ _ p3 u3 u2 (r3.up0 u4)⟩
end
end SD
/-! SNf: sets of tuples of numbers, nested: what the model's table does with them. -/
namespace SD
open PySem PySem.Spec PyProof.Rows L2
mutual
/-- numbers and tuples of these alone -/
def numK : NestedKey → Bool
  | .num _ => true
  | .tup ks => numKs ks
  | _ => false
def numKs : List NestedKey → Bool
  | [] => true
  | k :: ks => numK k && numKs ks
end
abbrev NL := List (Addr × NestedKey)
section
variable {P : Program} {w : World} {A : Around} {E : Value → Shared → Prop} {s : Shared}
/-! ### two small questions -/
def ClsNo (P : Program) (w : World) (n : Nat) (s : Shared) (v : Value) : Prop := ∀ (A : Around) (E : Value → Shared → Prop) (Q : Bool → Shared → Prop), Q false s → wpAny (model P w) A (ofAClassStatement n v) Q E s
def ByVal (P : Program) (w : World) (n : Nat) (s : Shared) (v : Value) : Prop := ∀ (A : Around) (E : Value → Shared → Prop) (Q : Bool → Shared → Prop), Q true s → wpAny (model P w) A (hashByValue n v) Q E s
theorem ClsNo.tuple {n : Nat} {a : Addr} {o : Obj} {vs : Array Value} {m : Nat} (ho : s.heap.get? a = some o) (hc : o.cls = .type "tuple") (hd : o.data = .seq vs m) (hq : ∀ v ∈ vs.toList, ClsNo P w n s v) : ClsNo P w (n + 1) s (.ref a) := fun A E Q h => by
  have hT : s.TypeIs (.ref a) "tuple" := ⟨o, ho, hc⟩
  unfold ofAClassStatement
  refine wpAny_bind (wpAny_typeOf hT ?_)
  dsimp only
  simp only [show (("tuple" : String) == "tuple") = true by decide, if_true, Bool.not_true, Bool.false_eq_true, if_false]
  refine wpAny_bind (wpAny_pure ?_)
  simp only [Bool.not_true, Bool.false_eq_true, if_false]
  refine wpAny_bind (wpAny_seqItems ho hd ?_)
  dsimp only
  refine wpAny_bind ?_
  rw [← Array.forIn_toList]
  refine wpAny_forIn_list _ (fun rest r s' => r.1 = none ∧ s' = s ∧ ∀ v ∈ rest, ClsNo P w n s v) _ (fun v rest r s' q => ?_) (fun r s' q => ?_) _ _ ⟨rfl, rfl, hq⟩
  · obtain ⟨_, rfl, all⟩ := q
    refine wpAny_bind (all v List.mem_cons_self _ _ _ ?_)
    simp only [Bool.false_eq_true, if_false]
    exact wpAny_pure ⟨rfl, rfl, fun u hu => all u (List.mem_cons_of_mem _ hu)⟩
  · obtain ⟨r1, r2⟩ := r
    obtain ⟨e, rfl, _⟩ := q
    simp only at e
    subst e
    exact wpAny_pure h
theorem ByVal.tuple {n : Nat} {a : Addr} {o : Obj} {vs : Array Value} {m : Nat} (ho : s.heap.get? a = some o) (hc : o.cls = .type "tuple") (hd : o.data = .seq vs m) (hq : ∀ v ∈ vs.toList, ByVal P w n s v) : ByVal P w (n + 1) s (.ref a) := fun A E Q h => by
  have hT : s.TypeIs (.ref a) "tuple" := ⟨o, ho, hc⟩
  unfold hashByValue
  refine wpAny_bind (wpAny_specialOf hT PySem.F.slot_tuple_hash.lookup ?_)
  show wpAny _ _ (seqItems? (.ref a) >>= _) _ _ s
  refine wpAny_bind (wpAny_seqItems ho hd (wpAny_bind ?_))
  show wpAny _ _ (forIn vs _ _) _ _ s
  rw [← Array.forIn_toList]
  refine wpAny_forIn_list _ (fun rest r s' => r.1 = none ∧ s' = s ∧ ∀ v ∈ rest, ByVal P w n s v) _ (fun v rest r s' q => ?_) (fun r s' q => ?_) _ _ ⟨rfl, rfl, hq⟩
  · obtain ⟨_, rfl, all⟩ := q
    refine wpAny_bind (all v List.mem_cons_self _ _ _ ?_)
    simp only [Bool.not_true, Bool.false_eq_true, if_false]
    exact wpAny_pure ⟨rfl, rfl, fun u hu => all u (List.mem_cons_of_mem _ hu)⟩
  · obtain ⟨r1, r2⟩ := r
    obtain ⟨e, rfl, _⟩ := q
    simp only at e
    subst e
    exact wpAny_pure h
mutual
theorem cls_key : ∀ (k : NestedKey) (v : Value) (n : Nat) (s : Shared), NestedIs s.heap k v → numK k = true → k.depth ≤ n → ClsNo P w n s v ∧ ByVal P w n s v
  | .none, _, _, _, _, h, _ => by cases h
  | .text _, _, _, _, _, h, _ => by cases h
  | .num i, _, n, s, x, _, _ => by
    cases x with
    | bool e => exact ⟨fun A E Q h => by cases n <;> exact wpAny_pure h, fun A E Q h => by cases n <;> exact wpAny_pure h⟩
    | int _ t => exact ⟨fun A E Q h => by cases n <;> exact wpAny_pure h, fun A E Q h => by cases n <;> exact wpAny_pure h⟩
  | .tup ks, _, n, s, x, hn, hd => by
    cases x with
    | tup h1 h2 h3 h4 =>
      simp only [NestedKey.depth] at hd
      cases n with
      | zero => omega
      | succ n =>
        have q := cls_keys ks _ n s h4 hn (by omega)
        exact ⟨.tuple h1 h2 h3 fun v hv => (q v hv).1, .tuple h1 h2 h3 fun v hv => (q v hv).2⟩
theorem cls_keys : ∀ (ks : List NestedKey) (vs : List Value) (n : Nat) (s : Shared), NestedAll s.heap ks vs → numKs ks = true → NestedKey.depthAll ks ≤ n → ∀ v ∈ vs, ClsNo P w n s v ∧ ByVal P w n s v
  | [], _, n, s, x, _, _, v, hv => by cases x; cases hv
  | k :: ks, _, n, s, x, hn, hd, v, hv => by
    cases x with
    | cons x1 x2 =>
      simp only [NestedKey.depthAll] at hd
      rw [numKs, Bool.and_eq_true] at hn
      rcases List.mem_cons.mp hv with rfl | hv
      · exact cls_key k _ n s x1 hn.1 (by omega)
      · exact cls_keys ks _ n s x2 hn.2 (by omega) v hv
end
/-- at b stands the key k, of numbers -/
structure IsN (h : Heap) (k : NestedKey) (b : Addr) : Prop where
  is : NestedIs h k (.ref b)
  dp : k.depth ≤ 8
  nm : numK k = true
theorem IsN.kind {h : Heap} {k : NestedKey} {b : Addr} (x : IsN h k b) : (nestedKind P w).is h k b := ⟨x.is, x.dp⟩
theorem IsN.keep {h h' : Heap} {k : NestedKey} {b : Addr} (x : IsN h k b) (hk : ∀ a o vs n, h.get? a = some o → o.data = .seq vs n → h'.get? a = some o) : IsN h' k b := ⟨NestedIs.at hk k _ x.is, x.dp, x.nm⟩
/-- a search among such keys shows nothing -/
theorem seen_N {k : NestedKey} {b : Addr} {Q : Bool → Shared → Prop} (hk : IsN s.heap k b) {ys : List Value} (hy : ∀ y ∈ ys, ∃ k' c, y = Value.ref c ∧ IsN s.heap k' c) (h : Q false s) : wpAny (model P w) A (searchCouldBeSeen (.ref b) ys) Q E s := by
  unfold searchCouldBeSeen
  refine wpAny_bind ?_
  refine wpAny_forIn_list _ (fun rest r s' => r.1 = none ∧ s' = s ∧ ∀ y ∈ rest, ∃ k' c, y = Value.ref c ∧ IsN s.heap k' c) _ (fun v rest r s' q => ?_) (fun r s' q => ?_) _ _ ⟨rfl, rfl, hy⟩
  · obtain ⟨_, rfl, all⟩ := q
    obtain ⟨k', c, rfl, hc⟩ := all v List.mem_cons_self
    have more : ∀ y ∈ rest, ∃ k' c, y = Value.ref c ∧ IsN s'.heap k' c := fun u hu => all u (List.mem_cons_of_mem _ hu)
    dsimp only
    by_cases hv : (b == c || (carriedByValue (.ref b) && carriedByValue (.ref c))) = true
    · exact wp_if_pos hv (wpAny_pure ⟨rfl, rfl, more⟩)
    · refine wp_if_neg hv ?_
      refine wpAny_bind ((nestedKind P w).quiet hk.kind ?_)
      simp only [Bool.not_true, Bool.false_eq_true, if_false]
      refine wpAny_bind ((nestedKind P w).quiet hc.kind ?_)
      simp only [Bool.not_true, Bool.false_eq_true, if_false]
      refine wpAny_bind ((cls_key k _ 8 s' hk.is hk.nm hk.dp).1 _ _ _ ?_)
      simp only [Bool.false_eq_true, if_false]
      refine wpAny_bind ((cls_key k' _ 8 s' hc.is hc.nm hc.dp).1 _ _ _ ?_)
      simp only [Bool.false_eq_true, if_false]
      exact wpAny_pure ⟨rfl, rfl, more⟩
  · obtain ⟨r1, r2⟩ := r
    obtain ⟨e, rfl, _⟩ := q
    simp only at e
    subst e
    exact wpAny_pure h
/-! ### the set -/
abbrev rowN (w : World) (p : Addr × NestedKey) : Int × Value := (p.2.hash w, Value.ref p.1)
abbrev hsN (w : World) (L : NL) : List Int := L.map fun p => p.2.hash w
structure SetN (w : World) (h : Heap) (a : Addr) (L : NL) (es : Array (Int × Value)) (ep : Nat) (t : SetTable) : Prop where
  ob : ∃ o, h.get? a = some o ∧ o.ExactSet ∧ o.data = .set es ep t
  rows : es.toList = L.map (rowN w)
  tab : TabOk t (hsN w L)
  nd : (L.map (·.2)).Nodup
  tup : ∀ p ∈ L, IsN h p.2 p.1
  plain : t.plain = true
  led : w.params.followText "set-order" = true ∨ t.led = true
  room : L.length * 5 < t.mask * 3
  few : L.length < 64
variable {a : Addr} {L : NL} {es : Array (Int × Value)} {ep : Nat} {t : SetTable}
theorem SetN.size (R : SetN w s.heap a L es ep t) : es.size = L.length := by
  rw [← Array.length_toList, R.rows, List.length_map]
theorem SetN.place (R : SetN w s.heap a L es ep t) : t.place.size = L.length := by
  have := R.tab.sz
  simpa using this
theorem SetN.fits (R : SetN w s.heap a L es ep t) : t.fits es.size = true := by
  have h1 := R.place
  have h2 := R.size
  have h3 := R.room
  unfold SetTable.fits SetTable.fill
  rw [R.tab.dm, Bool.and_eq_true, beq_iff_eq, decide_eq_true_eq]
  show t.place.size = es.size ∧ t.place.size + 0 ≤ t.mask
  omega
theorem SetN.entry (R : SetN w s.heap a L es ep t) {i : Nat} {p : Addr × NestedKey} (h : L[i]? = some p) : es[i]? = some (rowN w p) := by
  rw [← Array.getElem?_toList, R.rows, List.getElem?_map, h]; rfl
theorem SetN.gw (R : SetN w s.heap a L es ep t) : ¬ t.gaveWay = true := by
  unfold SetTable.gaveWay
  rw [mask_odd R.tab.mok]
  decide
/-- the probe's start for a key -/
abbrev pr0 (w : World) (t : SetTable) (k : NestedKey) : SetTable.Probe := runAt t.mask (SetTable.bits (k.hash w) % (t.mask + 1)) (SetTable.bits (k.hash w))
abbrev wayN (w : World) (t : SetTable) (k : NestedKey) (c : Nat) : Nat := way t.mask (k.hash w) c
theorem nth_dummy (m : Nat) : ∀ (n : Nat) (p : SetTable.Probe), p.dummy = none → (nth m p n).dummy = none
  | 0, _, h => h
  | n + 1, p, h => nth_dummy m n (adv m p) (by unfold adv; split <;> exact h)
/-- the search, from the c-th step of the way on -/
theorem searchN (R : SetN w s.heap a L es ep t) {x : Addr} {k : NestedKey} (hx : IsN s.heap k x) (hu : A.units + 8 < cLine) {K : Nat} (hKf : K < 10 * SetTable.turns t.mask) (hK : wayN w t k K ∉ t.place.toList) (hKb : ∀ c, c < K → wayN w t k c ∈ t.place.toList) {Q : SetFound → Shared → Prop}
    (hin : k ∈ L.map (·.2) → Q (.there none) s) (hout : k ∉ L.map (·.2) → Q (.free (wayN w t k K) false) s) : ∀ (f c : Nat) (stand : Option SetTable.Probe), stand.getD (t.probeStart (k.hash w)) = nth t.mask (pr0 w t k) c → c ≤ K → K - c < f →
      (∀ (i : Nat) p, L[i]? = some p → p.2 = k → ∃ c', c ≤ c' ∧ c' < K ∧ t.place.toList[i]? = some (wayN w t k c')) → wpAny (model P w) A (setSearchFrom a (.ref x) (k.hash w) true f stand) Q E s
  | 0, c, _, _, _, hf, _ => absurd hf (Nat.not_lt_zero _)
  | f + 1, c, stand, hst, hc, hf, ahead => by
    obtain ⟨o, ho, hex, hd⟩ := R.ob
    have step : ∀ q, nth t.mask (nth t.mask (pr0 w t k) c) q = nth t.mask (pr0 w t k) (c + q) := fun q => (nth_add t.mask c _ q).symm
    have stepj : ∀ q, (nth t.mask (nth t.mask (pr0 w t k) c) q).j = wayN w t k (c + q) := fun q => by rw [step]
    have hAt : ∀ (i : Nat) p, L[i]? = some p → (es[i]?.map (·.1)).getD 0 = p.2.hash w := fun i p hp => by rw [R.entry hp]; rfl
    have spec := go_spec t R.tab.ris R.tab.dm (fun i => (es[i]?.map (·.1)).getD 0) (k.hash w) (10 * SetTable.turns t.mask) (K - c) (nth t.mask (pr0 w t k) c) (nth_dummy _ _ _ rfl) (by omega)
      (fun q hq => by rw [stepj]; exact hKb _ (by omega)) (by rw [stepj, show c + (K - c) = K by omega]; exact hK)
    rw [setSearchFrom_succ]
    refine wpAny_bind (wpAny_setState_of ho hd R.fits ?_)
    dsimp only
    refine wp_if_neg R.gw ?_
    try refine wpAny_bind (wpAny_pure ?_)
    rcases spec with ⟨q, i, hq, hi, hh, hno, hpr⟩ | ⟨hno, hpr⟩
    · rw [stepj] at hi
      have met : t.probe (fun i => (es[i]?.map (·.1)).getD 0) (k.hash w) (stand.getD (t.probeStart (k.hash w))) = some (.candidate (wayN w t k (c + q)) i (nth t.mask (pr0 w t k) (c + (q + 1)))) := by
        rw [hst, ← stepj, ← step]; exact hpr
      rw [met]
      dsimp only
      have hil : i < L.length := by
        have h1 : i < t.place.toList.length := (List.getElem?_eq_some_iff.mp hi).1
        have h2 := R.place
        rw [Array.length_toList] at h1
        omega
      obtain ⟨p, hp⟩ : ∃ p, L[i]? = some p := ⟨_, List.getElem?_eq_getElem hil⟩
      have hmem : p ∈ L := List.mem_of_getElem? hp
      have live : t.slot (wayN w t k (c + q)) = .live i := slot_live R.tab.ris hi
      have rest : wpAny (model P w) A (searchRest a (.ref x) (k.hash w) true f es t (wayN w t k (c + q)) i (nth t.mask (pr0 w t k) (c + (q + 1)))) Q E s := by
        unfold searchRest
        rw [R.entry hp]
        dsimp only
        refine wpAny_bind (wpAny_holding ((nestedKind P w).eqBool hu (R.tup p hmem).kind hx.kind ?_))
        refine wpAny_bind (wpAny_setState_of ho hd R.fits ?_)
        dsimp only
        by_cases same : p.2 = k
        · exact wp_if_pos (by simp [same]) (wpAny_pure (hin (List.mem_map.mpr ⟨p, hmem, same⟩)))
        · refine wp_if_neg (by simp [same]) ?_
          try refine wpAny_bind (wpAny_pure ?_)
          rw [sameMem]
          dsimp only
          simp only [if_true, live, R.entry hp]
          refine wpAny_bind (wpAny_isSame_ref_self (wpAny_bind (wpAny_pure ?_)))
          simp only [if_true]
          refine wp_if_neg (by simp [same]) ?_
          refine searchN R hx hu hKf hK hKb hin hout f (c + (q + 1)) (some _) rfl (by omega) (by omega) fun i0 p0 h0 hk0 => ?_
          obtain ⟨c', a1, a2, a3⟩ := ahead i0 p0 h0 hk0
          refine ⟨c', ?_, a2, a3⟩
          rcases Nat.lt_trichotomy c' (c + q) with z | z | z
          · exact absurd ((hAt i0 p0 h0).trans (by rw [hk0])) (hno (c' - c) i0 (by omega) (by rw [stepj, show c + (c' - c) = c' by omega]; exact a3))
          · rw [z] at a3
            have l0 := slot_live R.tab.ris a3
            rw [live] at l0
            injection l0 with l0
            rw [← l0, hp] at h0
            cases h0
            exact absurd hk0 same
          · omega
      by_cases hl : t.led = true
      · refine wp_if_neg (by simp [hl]) ?_
        try refine wpAny_bind (wpAny_pure ?_)
        exact rest
      · refine wp_if_pos (by simp [hl]) ?_
        refine wpAny_bind (seen_N hx (fun y hy => ?_) ?_)
        · obtain ⟨e, he, rfl⟩ := List.mem_map.mp hy
          have he1 : e ∈ es ∧ e.1 = k.hash w := by simpa using he
          have he2 : e ∈ es.toList := by simpa using he1.1
          rw [R.rows] at he2
          obtain ⟨p2, hp2, rfl⟩ := List.mem_map.mp he2
          exact ⟨p2.2, p2.1, rfl, R.tup p2 hp2⟩
        · refine wp_if_neg (by decide) ?_
          try refine wpAny_bind (wpAny_pure ?_)
          exact rest
    · have met : t.probe (fun i => (es[i]?.map (·.1)).getD 0) (k.hash w) (stand.getD (t.probeStart (k.hash w))) = some (.empty (wayN w t k K) none) := by
        have e : wayN w t k K = (nth t.mask (nth t.mask (pr0 w t k) c) (K - c)).j := by rw [stepj, show c + (K - c) = K by omega]
        rw [hst, e]; exact hpr
      rw [met]
      dsimp only
      refine wpAny_pure (hout fun hm => ?_)
      obtain ⟨p0, h0, hk0⟩ := List.mem_map.mp hm
      obtain ⟨i0, h00⟩ := List.getElem?_of_mem h0
      obtain ⟨c', a1, a2, a3⟩ := ahead i0 p0 h00 hk0
      exact hno (c' - c) i0 (by omega) (by rw [stepj, show c + (c' - c) = c' by omega]; exact a3) ((hAt i0 p0 h00).trans (by rw [hk0]))
/-- the search that adding makes -/
theorem search_addN (R : SetN w s.heap a L es ep t) {x : Addr} {k : NestedKey} (hx : IsN s.heap k x) (hu : A.units + 8 < cLine) {Q : SetFound → Shared → Prop} (hin : k ∈ L.map (·.2) → Q (.there none) s)
    (hout : ∀ K, k ∉ L.map (·.2) → wayN w t k K ∉ t.place.toList → (∀ c, c < K → wayN w t k c ∈ t.place.toList) → Q (.free (wayN w t k K) false) s) : wpAny (model P w) A (setSearch a (.ref x) (k.hash w) true) Q E s := by
  have hr := R.room
  obtain ⟨K, hKf, hK, hKb⟩ := R.tab.first (by rw [List.length_map]; omega) (k.hash w)
  have small : K < 100000 := by
    unfold SetTable.turns at hKf
    rcases R.tab.mok with e | e | e <;> omega
  refine searchN R hx hu hKf hK hKb hin (fun hn => hout K hn hK hKb) 100000 0 none rfl (Nat.zero_le _) (by omega) fun i p hp hk => ?_
  have h1 : (hsN w L)[i]? = some (k.hash w) := by rw [List.getElem?_map, hp, ← hk]; rfl
  have hil : i < t.place.toList.length := by
    have := (List.getElem?_eq_some_iff.mp hp).1
    rw [Array.length_toList, R.place]; exact this
  obtain ⟨c, hc, e⟩ := R.tab.before hK h1 (List.getElem?_eq_getElem hil)
  exact ⟨c, Nat.zero_le _, hc, by rw [List.getElem?_eq_getElem hil]; exact congrArg some e.symm⟩
theorem seq_same {h h' : Heap} {o : Obj} (ho : h.get? a = some o) (hd : o.data = .set es ep t) (hs : Heap.SameBut a h h') : ∀ (b : Addr) (u : Obj) (vs : Array Value) (n : Nat), h.get? b = some u → u.data = .seq vs n → h'.get? b = some u := fun b u vs n hb hu => by
  refine (hs.2 b fun z => ?_).trans hb
  subst z
  rw [ho] at hb
  cases hb
  rw [hd] at hu
  cases hu
end
end SD
/-! SNg: set(a list of tuples of numbers, nested), and how many it holds. -/
namespace SD
open PySem PySem.Spec PyProof.Rows L2
open PySem.Calls
section
variable {P : Program} {w : World} {A : Around} {E : Value → Shared → Prop} {s : Shared} {a : Addr} {L : NL} {es : Array (Int × Value)} {ep : Nat} {t : SetTable}
theorem rows_order (L : NL) (es : Array (Int × Value)) (order : Array Nat) (hr : es.toList = L.map (rowN w)) (hp : order.toList.Perm (List.range L.length)) :
    ∃ L2 : NL, (order.filterMap (es[·]?)).toList = L2.map (rowN w) ∧ L2.Perm L ∧ hsN w L2 = order.toList.map fun i => (es.map (·.1)).getD i 0 := by
  have ent : ∀ i, es[i]? = L[i]?.map (rowN w) := fun i => by rw [← Array.getElem?_toList, hr, List.getElem?_map]
  have lt : ∀ i ∈ order.toList, i < L.length := fun i hi => List.mem_range.mp (hp.mem_iff.mp hi)
  refine ⟨order.toList.filterMap fun i => L[i]?, ?_, ?_, ?_⟩
  · have e : (order.filterMap (es[·]?)).toList = order.toList.filterMap fun i => es[i]? := by simp
    rw [e, List.map_filterMap]
    congr 1
    funext i
    exact ent i
  · have h1 : (order.toList.filterMap fun i => L[i]?).Perm ((List.range L.length).filterMap fun i => L[i]?) := hp.filterMap _
    have h2 : (List.range L.length).filterMap (fun i => L[i]?) = L := by
      refine List.ext_getElem? fun i => ?_
      have key : ∀ (n : Nat), n ≤ L.length → (List.range n).filterMap (fun i => L[i]?) = L.take n := by
        intro n
        induction n with
        | zero => intro _; rfl
        | succ n ih =>
          intro hn
          rw [List.range_succ, List.filterMap_append, ih (by omega), List.take_add_one, List.getElem?_eq_getElem (show n < L.length by omega)]
          simp [List.getElem?_eq_getElem (show n < L.length by omega)]
      rw [key L.length (Nat.le_refl _), List.take_length]
    rw [h2] at h1
    exact h1
  · have key : ∀ l : List Nat, (∀ i ∈ l, i < L.length) → hsN w (l.filterMap fun i => L[i]?) = l.map fun i => (es.map (·.1)).getD i 0 := by
      intro l
      induction l with
      | nil => intro _; rfl
      | cons i l ih =>
        intro hl
        have hi := hl i List.mem_cons_self
        have q2 := ih fun j hj => hl j (List.mem_cons_of_mem _ hj)
        unfold hsN at q2 ⊢
        rw [List.filterMap_cons_some (List.getElem?_eq_getElem hi), List.map_cons, List.map_cons, q2]
        have q := ent i
        rw [List.getElem?_eq_getElem hi] at q
        simp [Array.getD_eq_getD_getElem?, q]
    exact key _ lt
theorem IsN.same {h h' : Heap} {o : Obj} {k : NestedKey} {b : Addr} (x : IsN h k b) (ho : h.get? a = some o) (hd : o.data = .set es ep t) (hs : Heap.SameBut a h h') : IsN h' k b := x.keep (seq_same ho hd hs)
/-- the table laid anew -/
theorem relayN {o : Obj} (ho : s.heap.get? a = some o) (hex : o.ExactSet) (hd : o.data = .set es ep t) (hr : es.toList = L.map (rowN w)) (hsz : t.place.size = L.length) (hdm : t.dummies = #[]) (hfl : L.length ≤ t.mask) (nd : (L.map (·.2)).Nodup) (tup : ∀ p ∈ L, IsN s.heap p.2 p.1) (pl : t.plain = true)
    (ld : w.params.followText "set-order" = true ∨ t.led = true) (few : L.length < 64) {wanted M : Nat} (hw : SetTable.sizeAbove wanted - 1 = M) (hM : MaskOk M) (hw2 : SetTable.sizeAbove wanted ≤ 128) (hn : L.length * 5 < M * 3) {Q : Unit → Shared → Prop}
    (hQ : ∀ h' L' es' ep' t', Heap.SameBut a s.heap h' → SetN w h' a L' es' ep' t' → L'.Perm L → Q () { s with heap := h' }) : wpAny (model P w) A (setRelay a wanted) Q E s := by
  have hsl : es.size = L.length := by rw [← Array.length_toList, hr, List.length_map]
  have fits : t.fits es.size = true := by
    unfold SetTable.fits SetTable.fill
    rw [hdm, Bool.and_eq_true, beq_iff_eq, decide_eq_true_eq]
    show t.place.size = es.size ∧ t.place.size + 0 ≤ t.mask
    omega
  obtain ⟨t', order, e, hp, T, em, el, epl, _⟩ := relaid_ok t (hs := es.map (·.1)) (wanted := wanted) hw hM (by rw [Array.size_map, hsl]; omega)
  rw [Array.size_map, hsl] at hp
  obtain ⟨L2, r1, r2, r3⟩ := rows_order L es order hr hp
  rw [← r3] at T
  have hs2 : (order.filterMap (es[·]?)).size = es.size := by rw [← Array.length_toList, r1, List.length_map, r2.length_eq, hsl]
  rw [setRelay_eq]
  refine wpAny_bind (wpAny_setState_of ho hd fits ?_)
  dsimp only
  refine wp_if_neg (by rw [sizeLine_eq]; omega) ?_
  try refine wpAny_bind (wpAny_pure ?_)
  rw [e]
  dsimp only
  refine wpAny_bind (wp_if_neg (by rw [hs2]; simp) ?_)
  try refine wpAny_bind (wpAny_pure ?_)
  refine wpAny_pure ?_
  dsimp only
  refine wpAny_storeSet_of ho hd ?_ (by rw [hs2, hsl, sizeLine_eq]; omega)
  have sb : Heap.SameBut a s.heap (s.heap.update a (Obj.putSet (order.filterMap (es[·]?)) t')) := Heap.SameBut.update ..
  refine hQ _ L2 _ (ep + 1) t' sb ⟨⟨_, store_at ho hd, ⟨hex.1, hex.2.1, hex.2.2⟩, rfl⟩, r1, T, (r2.map (·.2)).nodup_iff.mpr nd, fun p hpm => (tup p (r2.mem_iff.mp hpm)).same ho hd sb, by rw [epl]; exact pl, by rw [el]; exact ld, ?_, by rw [r2.length_eq]; exact few⟩ r2
  rw [r2.length_eq, em]; exact hn
/-- one more -/
theorem addN (R : SetN w s.heap a L es ep t) {x : Addr} {k : NestedKey} (hx : IsN s.heap k x) (hu : A.units + 8 < cLine) (hfew : L.length + 1 < 64) {Q : Bool → Shared → Prop}
    (hQ : ∀ b h' L' es' ep' t', Heap.SameBut a s.heap h' → SetN w h' a L' es' ep' t' → (k ∈ L.map (·.2) → L' = L) → (k ∉ L.map (·.2) → L'.Perm ((x, k) :: L)) → Q b { s with heap := h' }) : wpAny (model P w) A (setAddHashed a (.ref x) (k.hash w)) Q E s := by
  obtain ⟨o, ho, hex, hd⟩ := R.ob
  have hsl := R.size
  have hroom := R.room
  have hplace := R.place
  unfold setAddHashed
  refine wpAny_holding ?_
  rw [show (100000 : Nat) = 99999 + 1 from rfl, setAddHashedIn_succ]
  refine wpAny_bind (wpAny_setState_of ho hd R.fits ?_)
  dsimp only
  refine wp_if_neg (by simp [byScan, Value.scannable]) ?_
  try refine wpAny_bind (wpAny_pure ?_)
  refine wpAny_bind (search_addN R hx hu (fun hm => ?_) fun K hm hK hb => ?_)
  · exact wpAny_pure (hQ false s.heap L es ep t (Heap.SameBut.refl a s.heap) R (fun _ => rfl) fun z => absurd hm z)
  · dsimp only
    refine wpAny_bind (wpAny_setState_of ho hd R.fits ?_)
    dsimp only
    obtain ⟨q1, q2, q3, q4, q5, q6, q7, q8, q9⟩ := R.tab.put hK hb
    have pl1 : (t.put (wayN w t k K)).1.plain = true := q6.trans R.plain
    have ins : (SetTable.insertAt es (SetTable.below t.place (wayN w t k K)) (k.hash w, Value.ref x)).toList = (L.take (SetTable.below t.place (wayN w t k K)) ++ (x, k) :: L.drop (SetTable.below t.place (wayN w t k K))).map (rowN w) := by
      rw [SetTable.toList_insertAt, R.rows, List.map_append, List.map_cons, List.map_take, List.map_drop]
    have hhs : hsN w (L.take (SetTable.below t.place (wayN w t k K)) ++ (x, k) :: L.drop (SetTable.below t.place (wayN w t k K))) = (hsN w L).take (SetTable.below t.place (wayN w t k K)) ++ k.hash w :: (hsN w L).drop (SetTable.below t.place (wayN w t k K)) := by
      unfold hsN
      rw [List.map_append, List.map_cons, List.map_take, List.map_drop]
    rw [← hhs] at q3
    have pm : (L.take (SetTable.below t.place (wayN w t k K)) ++ (x, k) :: L.drop (SetTable.below t.place (wayN w t k K))).Perm ((x, k) :: L) := by
      have z : (L.take (SetTable.below t.place (wayN w t k K)) ++ (x, k) :: L.drop (SetTable.below t.place (wayN w t k K))).Perm ((x, k) :: (L.take (SetTable.below t.place (wayN w t k K)) ++ L.drop (SetTable.below t.place (wayN w t k K)))) := List.perm_middle
      rwa [List.take_append_drop] at z
    generalize hL1 : L.take (SetTable.below t.place (wayN w t k K)) ++ (x, k) :: L.drop (SetTable.below t.place (wayN w t k K)) = L1 at pm q3 ins
    have len1 : L1.length = L.length + 1 := pm.length_eq
    rw [List.length_map] at q9
    have esz : (SetTable.insertAt es (SetTable.below t.place (wayN w t k K)) (k.hash w, Value.ref x)).size = L.length + 1 := by rw [← Array.length_toList, ins, List.length_map, len1]
    have nd1 : (L1.map (·.2)).Nodup := by
      refine (pm.map (·.2)).nodup_iff.mpr ?_
      rw [List.map_cons]
      exact List.nodup_cons.mpr ⟨hm, R.nd⟩
    generalize hpt : t.put (wayN w t k K) = pt at q1 q3 q4 q5 q6 q9 pl1
    obtain ⟨t1, p⟩ := pt
    dsimp only at q1 q3 q4 q5 q6 q9 pl1 ⊢
    subst q1
    first
      | (refine wpAny_bind ?_; refine wp_if_pos pl1 ?_; refine (cls_key k _ 8 s hx.is hx.nm hx.dp).2 _ _ _ ?_)
      | refine wp_if_pos pl1 (wpAny_bind ((cls_key k _ 8 s hx.is hx.nm hx.dp).2 _ _ _ ?_))
    simp only [if_true]
    generalize SetTable.insertAt es (SetTable.below t.place (wayN w t k K)) (k.hash w, Value.ref x) = es1 at ins esz ⊢
    refine wpAny_bind (wpAny_storeSet_of ho hd ?_ (by rw [esz, sizeLine_eq]; omega))
    have sb : Heap.SameBut a s.heap (s.heap.update a (Obj.putSet es1 t1)) := Heap.SameBut.update ..
    have at1 := store_at (es' := es1) (t' := t1) ho hd
    generalize s.heap.update a (Obj.putSet es1 t1) = g at sb at1 ⊢
    have tup1 : ∀ p ∈ L1, IsN g p.2 p.1 := fun p hp => by
      rcases List.mem_cons.mp (pm.mem_iff.mp hp) with e | hp
      · rw [e]; exact hx.same ho hd sb
      · exact (R.tup p hp).same ho hd sb
    have led1 : w.params.followText "set-order" = true ∨ t1.led = true := by rw [q5]; exact R.led
    have pl2 := q3.sz
    rw [List.length_map, len1] at pl2
    by_cases full : t1.tooFull = true
    · have over := full
      unfold SetTable.tooFull at over
      rw [decide_eq_true_eq, q9] at over
      first
        | (refine wpAny_bind ?_; refine wp_if_pos (by simp [full]) ?_)
        | (refine wp_if_pos (by simp [full]) ?_; refine wpAny_bind ?_)
      rw [hsl]
      have go : ∀ M, SetTable.sizeAbove (SetTable.grown (L.length + 1)) - 1 = M → MaskOk M → SetTable.sizeAbove (SetTable.grown (L.length + 1)) ≤ 128 → (L.length + 1) * 5 < M * 3 → L1.length ≤ t1.mask →
          wpAny (model P w) A (setRelay a (SetTable.grown (L.length + 1))) (fun _ s' => wpAny (model P w) A (pure true) Q E s') E { s with heap := g } := fun M c1 c2 c3 c4 c5 =>
        relayN (s := { s with heap := g }) at1 ⟨hex.1, hex.2.1, hex.2.2⟩ rfl ins (by rw [pl2, len1]) q3.dm c5 nd1 tup1 pl1 led1 (by rw [len1]; exact hfew) c1 c2 c3 (by rw [len1]; exact c4) fun h2 L2 es2 ep2 t2 sb2 R2 pm2 => wpAny_pure (hQ true h2 L2 es2 ep2 t2 (sb.trans sb2) R2 (fun z => absurd z hm) fun _ => pm2.trans pm)
      rcases R.tab.mok with m | m | m
      · rw [q4, m] at over
        rw [m] at hroom
        have four : L.length = 4 := by omega
        exact go 31 (by rw [four, size_20]) (.inr (.inl rfl)) (by rw [four, size_20]; decide) (by omega) (by rw [q4, m, len1]; omega)
      · rw [q4, m] at over
        rw [m] at hroom
        have n18 : L.length = 18 := by omega
        exact go 127 (by rw [n18, size_76]) (.inr (.inr rfl)) (by rw [n18, size_76]; decide) (by omega) (by rw [q4, m, len1]; omega)
      · rw [q4, m] at over
        exfalso; omega
    · have under := full
      unfold SetTable.tooFull at under
      rw [decide_eq_true_eq, q9] at under
      first
        | refine wp_if_neg (by simp [full]) ?_
        | (refine wpAny_bind ?_; refine wp_if_neg (by simp [full]) ?_; refine wpAny_pure ?_)
      exact wpAny_pure (hQ true g L1 es1 (ep + 1) t1 sb ⟨⟨_, at1, ⟨hex.1, hex.2.1, hex.2.2⟩, rfl⟩, ins, q3, nd1, tup1, pl1, led1, by rw [len1]; omega, by rw [len1]; exact hfew⟩ (fun z => absurd z hm) fun _ => pm)
/-- what the set has of the first i items -/
structure GotN (ks : NL) (i : Nat) (L : NL) : Prop where
  sub : ∀ p ∈ L, p ∈ ks.take i
  all : ∀ p ∈ ks.take i, p.2 ∈ L.map (·.2)
  len : L.length ≤ i
theorem GotN.next {ks L L' : NL} {i : Nat} {x : Addr × NestedKey} (g : GotN ks i L) (h : ks[i]? = some x) (c1 : x.2 ∈ L.map (·.2) → L' = L) (c2 : x.2 ∉ L.map (·.2) → L'.Perm (x :: L)) : GotN ks (i + 1) L' := by
  have tk : ks.take (i + 1) = ks.take i ++ [x] := by rw [List.take_add_one, h]; rfl
  by_cases c : x.2 ∈ L.map (·.2)
  · rw [c1 c]
    refine ⟨fun p hp => by rw [tk]; exact List.mem_append_left _ (g.sub p hp), fun p hp => ?_, Nat.le_succ_of_le g.len⟩
    rw [tk, List.mem_append, List.mem_singleton] at hp
    rcases hp with hp | rfl
    · exact g.all p hp
    · exact c
  · have pm := c2 c
    refine ⟨fun p hp => ?_, fun p hp => ?_, by rw [pm.length_eq]; exact Nat.succ_le_succ g.len⟩
    · rw [tk, List.mem_append, List.mem_singleton]
      rcases List.mem_cons.mp (pm.mem_iff.mp hp) with e | z
      · exact .inr e
      · exact .inl (g.sub p z)
    · rw [(pm.map (·.2)).mem_iff, List.map_cons, List.mem_cons]
      rw [tk, List.mem_append, List.mem_singleton] at hp
      rcases hp with hp | rfl
      · exact .inr (g.all p hp)
      · exact .inl rfl
end
end SD
/-! SNh: the calls set(xs), len(set(xs)). -/
namespace SD
open PySem PySem.Spec PyProof.Rows L2
open PySem.Calls
section
variable {P : Program} {w : World} {A : Around} {E : Value → Shared → Prop} {s : Shared}
theorem SetN.keep {h h' : Heap} {a : Addr} {L : NL} {es : Array (Int × Value)} {ep : Nat} {t : SetTable} (R : SetN w h a L es ep t) (ha : ∀ o, h.get? a = some o → h'.get? a = some o) (ht : ∀ p ∈ L, IsN h' p.2 p.1) : SetN w h' a L es ep t := by
  obtain ⟨o, ho, r⟩ := R.ob
  exact ⟨⟨o, ha o ho, r⟩, R.rows, R.tab, R.nd, ht, R.plain, R.led, R.room, R.few⟩
theorem setN_fresh {h : Heap} {a : Addr} (ho : h.get? a = some (newSet w)) : SetN w h a [] #[] 0 (.fresh 0 0 (!w.params.followText "set-order")) where
  ob := ⟨_, ho, ⟨rfl, rfl, rfl⟩, rfl⟩
  rows := rfl
  tab := ⟨.nil, rfl, rfl, .inl rfl, fun x hx => (by cases hx), fun i h j hi => (by simp at hi)⟩
  nd := .nil
  tup := fun p hp => by cases hp
  plain := rfl
  led := by
    show _ ∨ (!w.params.followText "set-order") = true
    cases w.params.followText "set-order" <;> simp
  room := by show 0 * 5 < 7 * 3; decide
  few := by show 0 < 64; decide
/-- the loop of set.update -/
theorem loopN {I : Addr} {fp wr : List Addr} {G : Array GenState → Array GenState → Prop} {n : Nat} {Pv : Nat → Value → Prop} {St : Nat → Shared → Prop} {R : Result → Shared → Prop} (W : WalksS P w A.in1 I fp wr G n Pv St) (S : Addr) (hSf : S ∉ fp) (ks : NL) (hn : n = ks.length) (hfew : ks.length < 64)
    (hval : ∀ i v, Pv i v → ∃ p, ks[i]? = some p ∧ v = .ref p.1) (h0 : Heap) (hk : ∀ p ∈ ks, IsN h0 p.2 p.1) (hS0 : h0.get? S = none) (hw0 : ∀ b ∈ wr, h0.get? b = none) (hu : A.in1.units + 8 < cLine) :
    ∀ (k i : Nat) (s : Shared), n - i = k → i ≤ n → St i s → (∀ b o, h0.get? b = some o → s.heap.get? b = some o) → (∃ L es ep t, SetN w s.heap S L es ep t ∧ GotN ks i L) →
      (∀ s' L es ep t, Moved (S :: wr) G s s' → SetN w s'.heap S L es ep t → GotN ks n L → (∀ b o, h0.get? b = some o → s'.heap.get? b = some o) → R (.ok (.ret .none)) s') →
      codeAny (model P w) A (.builtin "set.update.loop" ⟨[.ref S, .ref I], []⟩) R s := by
  have hSw : S ∉ wr := fun h => hSf (W.sub _ h)
  have wider : ∀ b ∈ wr, b ∈ S :: wr := fun b hb => List.mem_cons_of_mem _ hb
  have old : ∀ {s s' : Shared}, Moved wr G s s' → (∀ b o, h0.get? b = some o → s.heap.get? b = some o) → ∀ b o, h0.get? b = some o → s'.heap.get? b = some o := fun hm q b o e => hm.heap b o (fun hb => by rw [hw0 b hb] at e; cases e) (q b o e)
  have there : ∀ {h' : Heap} {p : Addr × NestedKey}, (∀ b o, h0.get? b = some o → h'.get? b = some o) → p ∈ ks → IsN h' p.2 p.1 := fun q hp => (hk _ hp).keep fun b o _ _ e _ => q b o e
  intro k
  induction k with
  | zero =>
    intro i s hk' hi hst hq ⟨L, es, ep, t, hS, g⟩ hR
    obtain rfl : i = n := by omega
    refine codeAny_builtin F.entry_set_update_loop ?_
    rw [Around.under_plainId F.plain_set_update_loop _]
    show wpAny _ A.in1 (pyNext (.ref I) >>= _) _ _ s
    refine wpAny_bind (W.done s _ _ hst fun s' hm => wpAny_pure (hR s' L es ep t (hm.mono wider) (hS.keep (fun o e => hm.heap S o hSw e) fun p hp => there (old hm hq) (List.mem_of_mem_take (g.sub p hp))) g (old hm hq)))
  | succ k ih =>
    intro i s hk' hi hst hq ⟨L, es, ep, t, hS, g⟩ hR
    refine codeAny_builtin F.entry_set_update_loop ?_
    rw [Around.under_plainId F.plain_set_update_loop _]
    show wpAny _ A.in1 (pyNext (.ref I) >>= _) _ _ s
    refine wpAny_bind (W.item i s _ _ (by omega) hst fun v s' hP hst' hm => ?_)
    obtain ⟨p, hp, rfl⟩ := hval i v hP
    have q' := old hm hq
    have hS' : SetN w s'.heap S L es ep t := hS.keep (fun o e => hm.heap S o hSw e) fun p hp => there q' (List.mem_of_mem_take (g.sub p hp))
    have hx : IsN s'.heap p.2 p.1 := there q' (List.mem_of_getElem? hp)
    show wpAny _ A.in1 (holding [Value.ref p.1] (setAdd S (.ref p.1)) >>= _) _ _ s'
    refine wpAny_bind (wpAny_holding ?_)
    unfold setAdd
    refine wpAny_holding (wpAny_bind ((nestedKind P w).pyHash hu hx.kind ?_))
    refine addN (s := { s' with toks := s'.toks + p.2.draws }) hS' hx hu (by have := g.len; omega) fun b h' L' es' ep' t' sb hS2 c1 c2 => ?_
    have q2 : ∀ b o, h0.get? b = some o → h'.get? b = some o := fun b o e => (sb.2 b (fun z => by rw [z, hS0] at e; cases e)).trans (q' b o e)
    refine wpAny_pure ⟨plainId_quiet F.plain_set_update_loop _, ih (i + 1) _ (by omega) (by omega) (W.frame _ s' _ _ hst' (Nat.le_add_right _ _) fun b hb o e => ?_) q2 ⟨L', es', ep', t', hS2, g.next hp c1 c2⟩ fun s'' L2 es2 ep2 t2 hm'' hS'' g'' q'' => ?_⟩
    · rw [sb.2 b (fun z : b = S => hSf (z ▸ hb))]; exact e
    · refine hR s'' L2 es2 ep2 t2 (Moved.trans W.gtrans ((hm.mono wider).then_heap (Nat.le_add_right _ _) fun b o hb e => ?_) hm'') hS'' g'' q''
      rw [sb.2 b (fun z : b = S => hb (z ▸ List.mem_cons_self))]; exact e
set_option maxHeartbeats 3200000 in
theorem set_of_N {l : Addr} {items : Array Value} (ks : NL) {Q : Value → Shared → Prop} (hh : A.handled = none) (hl : s.heap.IsList l items) (hit : items.toList = ks.map fun p => Value.ref p.1) (hk : ∀ p ∈ ks, IsN s.heap p.2 p.1) (hfew : ks.length < 64) (hu : A.units + 20 < cLine)
    (h : ∀ (h' : Heap) (tk : Nat) L es ep t, SetN w h' s.heap.objs.size L es ep t → GotN ks ks.length L → (∀ b o, s.heap.get? b = some o → h'.get? b = some o) → Q (.ref s.heap.objs.size) { s with heap := h', toks := tk }) :
    wpAny (model P w) A (call (.type "set") [.ref l]) Q E s := by
  have size : items.size = ks.length := by rw [← Array.length_toList, hit, List.length_map]
  generalize hn : s.heap.objs.size = a at h
  obtain ⟨c, tl, hmro⟩ := F.called_set.mro
  have e1 := F.called_set.made; have e2 := F.called_set.sub
  refine wpAny_call (codeAny_of_tree ?_)
  show wpAny _ _ (callAny (.type "set") _) _ _ _
  refine wpAny_pure ⟨Code.quiet_builtin _ (by decide +kernel), codeAny_builtin F.entry_type_call ?_⟩; rw [Around.under_plain (weight_type_call_type "set" [.ref l] []) rfl]
  have e3 := F.called_set.notType; have e4 := F.called_set.canCreate; have e5 := F.typeCall_set_1 (.ref l)
  repeat (any_goals (first | assumption | wp_step))
  refine codeAny_mono (code_set_led1 (.ref l) (E := E) (Q₁ := fun o s1 => o = .ref a ∧ s1 = { s with heap := s.heap.push (newSet w) }) (by rw [← hn]; exact ⟨rfl, rfl⟩)) fun r s1 hr => ?_
  cases r with
  | error e => exact hr
  | ok fl =>
    cases fl with
    | ret o =>
      obtain ⟨rfl, rfl⟩ := hr
      have at0 : (s.heap.push (newSet w)).get? a = some (newSet w) := by rw [← hn]; exact Heap.get?_push_size _ rfl
      have ty : Shared.TypeIs { s with heap := s.heap.push (newSet w) } (.ref a) "set" := ⟨_, at0, rfl⟩
      have e6 := F.called_set.init.lookup; have e7 := F.called_set.init.bind (.ref a)
      repeat (any_goals (first | assumption | wp_step))
      refine codeAny_mono (codeAny_call_builtin (R := wants (fun r s2 => r = .none ∧ ∃ h' tk L es ep t, s2 = { s with heap := h', toks := tk } ∧ SetN w h' a L es ep t ∧ GotN ks ks.length L ∧ (∀ b o, s.heap.get? b = some o → h'.get? b = some o)) E)
        F.called_set.init.plain F.entry_set_init (check_set_init_1 ty ?_)) fun r2 s2 hr2 => ?_
      · obtain ⟨⟨oc, od, ot, os⟩, hol, hcl, nl, hdl⟩ := hl
        simp only at hcl hdl
        subst hcl; subst hdl
        have hol1 : (s.heap.push (newSet w)).get? l = some { cls := .type "list", dict := od, data := .seq items nl, slots := os } := Heap.get?_push_of_some _ hol
        have e8 := F.sub_list_set; have e9 := F.sub_list_frozenset
        have e10 : (Value.type "list" == Value.type "dict") = false := by decide
        have hl1 : (s.heap.push (newSet w)).IsList l items := ⟨_, hol1, rfl, nl, rfl⟩
        have la : l < a := by rw [← hn]; exact Heap.lt_size hol
        have z1 : (s.heap.push (newSet w)).objs.size = a + 1 := by rw [Heap.size_push, hn]
        have none_at : ∀ b, a ≤ b → s.heap.get? b = none := fun b hb => by
          cases q : s.heap.get? b with
          | none => rfl
          | some o => have := Heap.lt_size q; rw [hn] at this; exact absurd (Nat.lt_of_lt_of_le this hb) (Nat.lt_irrefl _)
        unfold Builtin.«set.__init__» noKeywords Builtin.Frozenset.updateFrom
        generalize hPI : pyIter = PI
        wp_walk
        subst hPI
        refine wpAny_pyIter_list hl1 (wpAny_bind (wpAny_runValue ?_))
        have h3 : A.in1.in1.in1.handled = none := by simp [hh]
        have n1 : l ≠ (s.heap.push (newSet w)).objs.size := by rw [z1]; exact Nat.ne_of_lt (Nat.lt_succ_of_lt la)
        have n2 : a ∉ [(s.heap.push (newSet w)).objs.size, l] := by
          rw [z1]
          simp only [List.mem_cons, List.not_mem_nil, or_false, not_or]
          exact ⟨Nat.ne_of_lt (Nat.lt_succ_self _), Nat.ne_of_gt la⟩
        have vals : ∀ (i : Nat) (v : Value), items[i]? = some v → ∃ p, ks[i]? = some p ∧ v = .ref p.1 := fun i v hv => by
          have q : items.toList[i]? = some v := by rw [Array.getElem?_toList]; exact hv
          rw [hit, List.getElem?_map] at q
          obtain ⟨p, hp, e⟩ := Option.map_eq_some_iff.mp q
          exact ⟨p, hp, e.symm⟩
        refine loopN ((Walks.list h3 _ l n1 items).toS) a n2 ks size hfew vals s.heap hk (none_at a (Nat.le_refl _)) (fun b hb => none_at b (by rw [List.mem_singleton.mp hb, z1]; exact Nat.le_succ _)) (by simp only [Around.in1_units]; omega) (items.size - 0) 0 _ (by omega) (Nat.zero_le _) ⟨⟨_, Heap.get?_push_size _ rfl, rfl, rfl⟩, (hl1.push _)⟩
          (fun b o e => Heap.get?_push_of_some _ (Heap.get?_push_of_some _ e)) ⟨[], #[], 0, _, setN_fresh (Heap.get?_push_of_some _ at0), ⟨fun p h => (by cases h), fun p h => (by simp at h), Nat.le_refl _⟩⟩ fun s' L es ep t hm hS' hg hq => ?_
        obtain ⟨h', g2, d', tk', os'⟩ := s'
        obtain rfl : g2 = s.gens := hm.gens
        obtain rfl : d' = s.drawn := hm.drawn
        obtain rfl : os' = s.os := hm.os
        show wpAny _ _ _ _ _ _
        refine wpAny_pure ?_
        show wpAny _ _ (ret Value.none) _ _ _
        rw [size] at hg
        exact wpAny_pure ⟨rfl, h', tk', L, es, ep, t, rfl, hS', hg, hq⟩
      · cases r2 with
        | error e => exact hr2
        | ok fl =>
          cases fl with
          | ret r =>
            obtain ⟨rfl, h', tk, L, es, ep, t, rfl, q1, q2, q3⟩ := hr2
            repeat (any_goals (first | assumption | wp_step))
            exact h _ _ _ _ _ _ q1 q2 q3
          | _ => exact hr2.elim
    | _ => exact hr.elim
end
end SD
/-! SNi: len(set(xs)), sorted(xs) of tuples of numbers, sorted(set(xs)) of pairs. -/
namespace SD
open PySem PySem.Spec PyProof.Rows L2
/-! ### len(set(xs)) -/
def tnD (d : D) : Bool := match d with
  | .tup _ => match toNK d with
    | some k => decide (k.depth ≤ 8) && numK k
    | none => false
  | _ => false
theorem tn_ref {K : KW} {m : List Addr} {H : Hp} {d : D} {v : V} (r : RD K m H d v) (h : tnD d = true) : ∃ k b, v = .ref b ∧ d = keyN k ∧ k.depth ≤ 8 ∧ numK k = true ∧ RD K m H (keyN k) (.ref b) := by
  unfold tnD at h
  cases d with
  | tup xs =>
    simp only at h
    cases e : toNK (.tup xs) with
    | none => rw [e] at h; cases h
    | some k =>
      rw [e] at h
      simp only [Bool.and_eq_true, decide_eq_true_eq] at h
      have ek := toNK_eq _ _ e
      cases r with
      | tup a z b =>
        rename_i p vs
        exact ⟨k, p, rfl, ek, h.1, h.2, ek ▸ RD.tup a z b⟩
  | _ => cases h
theorem tn_list {K : KW} {m : List Addr} {H : Hp} : ∀ {xs : List D} {vs : List V}, RDs K m H xs vs → (∀ x ∈ xs, tnD x = true) → ∃ ks : NL, vs = ks.map (fun p => V.ref p.1) ∧ xs = ks.map (fun p => keyN p.2) ∧ ∀ p ∈ ks, p.2.depth ≤ 8 ∧ numK p.2 = true ∧ RD K m H (keyN p.2) (.ref p.1)
  | _, _, .nil, _ => ⟨[], rfl, rfl, fun p h => by cases h⟩
  | x :: xs, v :: vs, .cons r t, h => by
    obtain ⟨k, b, rfl, rfl, h1, h2, h3⟩ := tn_ref r (h x List.mem_cons_self)
    obtain ⟨ks, rfl, rfl, h4⟩ := tn_list t fun y hy => h y (List.mem_cons_of_mem _ hy)
    exact ⟨(b, k) :: ks, rfl, rfl, fun p hp => by
      rcases List.mem_cons.mp hp with rfl | hp
      · exact ⟨h1, h2, h3⟩
      · exact h4 p hp⟩
def tLenSetN (K : KW) (ta : TE) : TE := fun σ H Q => ta σ H fun x H1 => ∃ (l : Addr) (ks : NL), x = V.ref l ∧ SqL K H1 l (ks.map fun p => V.ref p.1) ∧ ks.length < 64 ∧ (∀ p ∈ ks, p.2.depth ≤ 8 ∧ numK p.2 = true ∧ ∃ m, RD K m H1 (keyN p.2) (.ref p.1)) ∧
  ∀ c : Nat, (∃ ys : List NestedKey, ys.Nodup ∧ (∀ y, y ∈ ys ↔ y ∈ ks.map (·.2)) ∧ ys.length = c) → Q (.int (c : Nat)) H1
section
variable {X : Cx}
theorem pe_lenSetN {a : Expr} {ta : TE} {p p2 q pos : Pos} (hc : X.calm = true) (hu : X.A.units + 65 < cLine) (hg : Gl X "len") (hm : X.mg "len" = none) (hg2 : Gl X "set") (hm2 : X.mg "set" = none) (ha : PE X a ta) (na : starEach [a] X.env = (false, eval a X.env) :: starEach [] X.env := by rfl) :
    PE X (.Call (.Name "len" p) [.Call (.Name "set" p2) [a] [] q] [] pos) (tLenSetN (kW X) ta) := by
  refine ⟨fun pins s σ H Q I h => ?_⟩
  refine Call_ (ld_blt I hg hm PySem.boot_len (PyProof.Rows.callWith_builtin1 (PyProof.Rows.args_cons ?_ rfl) rfl rfl))
  refine Call_ (ld_blt I hg2 hm2 PyProof.Rows.boot_set (PyProof.Rows.callWith_type1 (PyProof.Rows.args_cons (thn (ha.run pins s σ H _ I h) fun v s1 z => PyProof.Rows.args_nil ?_) na) na rfl))
  obtain ⟨x, H1, I1, r1, l, ks, rfl, hq, hf, hk, fin⟩ := z
  cases r1
  obtain ⟨its, r, pl, hz⟩ := I1.list hq
  have refs : ∀ {ks : NL} {us : List Value}, Vals (ks.map fun p => V.ref p.1) us → us = ks.map fun p => Value.ref p.1 := fun {ks} => by
    induction ks with
    | nil => intro us r; cases r; rfl
    | cons p ks ih =>
      intro us r
      cases r with
      | cons r t => cases r; rw [List.map_cons, ih t]
  refine set_of_N (P := X.prog) (w := X.w) ks (I1.ok.hd hc) pl.isList (by simpa using refs r) (fun p hp => ?_) hf (by omega) fun h' tk L es ep t hS g hkeep => ?_
  · obtain ⟨h1, h2, m, h3⟩ := hk p hp
    exact ⟨nis I1 p.2 _ _ h3 rfl, h1, h2⟩
  refine PyProof.Rows.args_nil ?_
  have I2 : Inv X pins σ H1 { s1 with heap := h', toks := tk } := I1.kept hkeep
  obtain ⟨o, ho, hex, hd⟩ := hS.ob
  have hsz := SetN.size (s := { s1 with heap := h', toks := tk }) hS
  refine call_len_set (s := { s1 with heap := h', toks := tk }) ho hex hd (SetN.fits (s := { s1 with heap := h', toks := tk }) hS) (by have := hS.few; rw [hsz]; omega) ⟨.int ((L.length : Nat) : Int), H1, I2.tok _, ⟨_, by rw [hsz]⟩, fin L.length ⟨L.map (·.2), hS.nd, fun y => ⟨fun hy => ?_, fun hy => ?_⟩, List.length_map ..⟩⟩
  · obtain ⟨p, hp, rfl⟩ := List.mem_map.mp hy
    exact List.mem_map.mpr ⟨p, List.mem_of_mem_take (g.sub p hp), rfl⟩
  · obtain ⟨p, hp, rfl⟩ := List.mem_map.mp hy
    exact g.all p (by rw [List.take_length]; exact hp)
/-- over D: c is how many different ones there are -/
def eLenSet (f : FE) : FE := fun σ S Q => f σ S fun d S1 => ∃ n xs, d = .ref n ∧ S1[n]? = some (.lst xs) ∧ xs.length < 64 ∧ (∀ x ∈ xs, tnD x = true) ∧ ∀ (c : Nat) (ys : List D), ys.Nodup → (∀ y, y ∈ ys ↔ y ∈ xs) → ys.length = c → Q (.int (c : Nat)) S1
theorem re_lenSet {e : Expr} {f : FE} {p p2 q pos : Pos} (hc : X.calm = true) (hu : X.A.units + 65 < cLine) (hm : X.mg "len" = none) (hm2 : X.mg "set" = none) (he : RE X e f) (hg : Gl X "len" := by rfl) (hg2 : Gl X "set" := by rfl) (na : starEach [e] X.env = (false, eval e X.env) :: starEach [] X.env := by rfl) :
    RE X (.Call (.Name "len" p) [.Call (.Name "set" p2) [e] [] q] [] pos) (eLenSet f) := by
  refine pe_w (pe_lenSetN hc hu hg hm hg2 hm2 he na) fun σ H Q q => ?_
  obtain ⟨m, σd, S, P, s, r, p, w⟩ := q
  refine ⟨m, σd, S, _, s, r, p, fun d S1 m1 v H1 ⟨n, xs, e, e1, hf, hx, p1⟩ g1 s1 r1 => ?_⟩
  subst e
  obtain ⟨l, vs, rfl, _, hl, b, _⟩ := lst_at s1 r1 e1
  obtain ⟨ks, rfl, rfl, hk⟩ := tn_list b hx
  rw [List.length_map] at hf
  refine ⟨l, ks, rfl, SqL.of hl, hf, fun p hp => ⟨(hk p hp).1, (hk p hp).2.1, m1, (hk p hp).2.2⟩, fun c ⟨ys, h1, h2, h3⟩ => w _ _ _ _ _ (p1 c (ys.map keyN) ?_ (fun y => ?_) (by rw [List.length_map]; exact h3)) g1 s1 (.int _)⟩
  · exact List.nodup_iff_pairwise_ne.mpr (List.pairwise_map.mpr ((List.nodup_iff_pairwise_ne.mp h1).imp fun a z => a (keyN_inj _ _ z)))
  · rw [List.mem_map, List.mem_map]
    constructor
    · rintro ⟨k, hk1, rfl⟩
      obtain ⟨p, hp, rfl⟩ := List.mem_map.mp ((h2 k).mp hk1)
      exact ⟨p, hp, rfl⟩
    · rintro ⟨p, hp, rfl⟩
      exact ⟨p.2, (h2 _).mpr (List.mem_map.mpr ⟨p, hp, rfl⟩), rfl⟩
/-! ### sorted(xs), xs a list of tuples of numbers, none empty -/
abbrev encRow (b : V × List Int) : PyData := .tuple (b.2.map .int)
noncomputable def sortRows (bs : List (V × List Int)) : List (V × List Int) := bs.mergeSort (PySem.W.dataLe false encRow)
def rSortRow (K : KW) : List V → Hp → VK → Prop := fun vs H Q => ∃ (a : Addr) (bs : List (V × List Int)), vs = [.ref a] ∧ SqL K H a (bs.map (·.1)) ∧ (∀ b ∈ bs, b.2 ≠ [] ∧ ∃ t, b.1 = .ref t ∧ SqT K H t (b.2.map V.int)) ∧ bs.length ≤ sizeLine ∧ ∀ p, H p = none → Q (.ref p) (upd H p (.lst ((sortRows bs).map (·.1))))
theorem dp_ints {K : PySem.W.Frag} {H : Hp} : ∀ ns : List Int, DpAll K H (ns.map V.int) (ns.map PyData.int)
  | [] => .nil
  | n :: ns => .cons (.int n) (dp_ints ns)
theorem each_vals {bs : List (V × List Int)} : ∀ {us : List Value}, Vals (bs.map (·.1)) us → PySem.W.EachIs (fun v b => L2.RelV b.1 v) us bs := by
  induction bs with
  | nil => intro us r; cases r; exact .nil
  | cons b bs ih =>
    intro us r
    cases r with
    | cons r t => exact .cons r (ih t)
theorem vals_each {bs : List (V × List Int)} : ∀ {us : List Value}, PySem.W.EachIs (fun v b => L2.RelV b.1 v) us bs → Vals (bs.map (·.1)) us := by
  induction bs with
  | nil => intro us r; cases r; exact .nil
  | cons b bs ih =>
    intro us r
    cases r with
    | cons r t => exact .cons r (ih t)
theorem cr_sortRow (hu : X.A.units + 65 < cLine) : CallR X (.builtin "sorted") (rSortRow (kW X)) := by
  intro pins s σ H xs us Q I r h
  obtain ⟨a, bs, rfl, hl, hb, hz, q⟩ := h
  obtain ⟨u, rfl, rx⟩ := vals1 r
  cases rx
  obtain ⟨its, rv, pl, hz2⟩ := I.list hl
  have er : PySem.W.EachIs (fun v b => ∃ as, Reads s.heap v (encRow b) as) its bs := by
    have key : ∀ {bs' : List (V × List Int)} {us : List Value}, (∀ b ∈ bs', b ∈ bs) → PySem.W.EachIs (fun v b => L2.RelV b.1 v) us bs' → PySem.W.EachIs (fun v b => ∃ as, Reads s.heap v (encRow b) as) us bs' := by
      intro bs'
      induction bs' with
      | nil => intro us _ r; cases r; exact .nil
      | cons b bs' ih =>
        intro us hs r
        cases r with
        | cons r t =>
          obtain ⟨_, t', e, sq⟩ := hb b (hs b List.mem_cons_self)
          exact .cons (Dp.reads I _ b.1 _ (by rw [e]; exact .tup sq (dp_ints _)) r) (ih (fun c hc => hs c (List.mem_cons_of_mem _ hc)) t)
    exact key (fun b h => h) (each_vals rv)
  have dep : ∀ b : V × List Int, (encRow b).depth ≤ 1 := fun b => by
    show PyData.depthAll _ + 1 ≤ 1
    rw [PySem.W.depth_ints]; exact Nat.le_refl _
  refine PySem.W.sorted_data (enc := encRow) pl.isList (each_vals rv) er (PySem.W.AllAlike.of fun b b' => by
      show PySem.W.alike (.tuple _) (.tuple _) = true
      rw [PySem.W.alike]; exact PySem.W.alike_ints _ _) (.inl fun d hd => ?_) hz (fun b _ => by have := dep b; omega) fun out h1 h2 => ?_
  · obtain ⟨b, hb2, rfl⟩ := List.mem_map.mp hd
    obtain ⟨ne, _⟩ := hb b hb2
    cases e : b.2 with
    | nil => exact absurd e ne
    | cons n ns => exact ⟨.int n, ns.map .int, by show PyData.tuple (b.2.map .int) = _; rw [e]; rfl⟩
  · obtain ⟨c, at1⟩ := sortedAll_at s.heap its out.toArray
    have hl2 : ((sortRows bs).map (·.1)).length ≤ sizeLine := by rw [List.length_map]; unfold sortRows; rw [List.length_mergeSort]; exact hz
    exact ⟨.ref (s.heap.objs.size + 1), _, I.laid (t' := s.toks) (o := .lst ((sortRows bs).map (·.1))) (fun b o e => sortedAll_old e) (Nat.le_succ _) ⟨hl2, out, c, vals_each h2, at1⟩, rfl, q _ (I.hok.fresh (Nat.le_succ _))⟩
theorem rows_le (a b : V × List Int) : PySem.W.dataLe false encRow a b = decide (a.2 ≤ b.2) := by
  show (!PySem.W.dataLt (.tuple (b.2.map .int)) (.tuple (a.2.map .int))) = _
  have e : PySem.W.dataLt (.tuple (b.2.map .int)) (.tuple (a.2.map .int)) = decide (b.2 < a.2) := (PySem.W.dataLt_tuple _ _).trans (PySem.W.dataLt_ints _ _)
  rw [e]
  by_cases h : b.2 < a.2
  · rw [decide_eq_true h, decide_eq_false (fun z => List.not_lt.mpr z h)]; rfl
  · rw [decide_eq_false h, decide_eq_true (List.not_lt.mp h)]; rfl
theorem sortRows_perm (bs : List (V × List Int)) : (sortRows bs).Perm bs := List.mergeSort_perm _ _
theorem sortRows_sorted (bs : List (V × List Int)) : (sortRows bs).Pairwise fun a b => a.2 ≤ b.2 := by
  refine (List.pairwise_mergeSort (le := PySem.W.dataLe false encRow) (fun a b c h1 h2 => ?_) (fun a b => ?_) bs).imp fun h => ?_
  · rw [rows_le, decide_eq_true_eq] at *
    exact List.le_trans h1 h2
  · rw [rows_le, rows_le, Bool.or_eq_true, decide_eq_true_eq, decide_eq_true_eq]
    exact List.le_total _ _
  · rw [rows_le, decide_eq_true_eq] at h
    exact h
def rowD (r : List Int) : D := .tup (r.map .int)
def sortRF : FN := fun xs S Q => match xs with
  | [d] => ∃ (n : Nat) (rows : List (List Int)), d = .ref n ∧ S[n]? = some (.lst (rows.map rowD)) ∧ (∀ r ∈ rows, r ≠ []) ∧ ∀ rows' : List (List Int), rows'.Perm rows → rows'.Pairwise (fun a b => a ≤ b) → Q (.ref S.length) (S ++ [.lst (rows'.map rowD)])
  | _ => False
theorem rows_list {K : KW} {m : List Addr} {H : Hp} : ∀ {rows : List (List Int)} {vs : List V}, RDs K m H (rows.map rowD) vs → ∃ bs : List (V × List Int), vs = bs.map (·.1) ∧ rows = bs.map (·.2) ∧ ∀ b ∈ bs, RD K m H (rowD b.2) b.1 ∧ ∃ t, b.1 = .ref t ∧ SqT K H t (b.2.map V.int)
  | [], _, h => by cases h; exact ⟨[], rfl, rfl, fun b h => by cases h⟩
  | r :: rows, _, h => by
    cases h with
    | cons h t =>
      obtain ⟨bs, rfl, rfl, hb⟩ := rows_list t
      rename_i v
      refine ⟨(v, r) :: bs, rfl, rfl, fun b hb2 => ?_⟩
      rcases List.mem_cons.mp hb2 with rfl | hb2
      · refine ⟨h, ?_⟩
        cases h with
        | tup a z q =>
          rename_i p vs
          exact ⟨p, rfl, by rw [← q.ints]; exact a⟩
      · exact hb b hb2
theorem cd_sortR (hu : X.A.units + 65 < cLine) : CallD X (.builtin "sorted") sortRF := by
  refine ⟨_, cr_sortRow hu, fun m S H xs vs P Q s r p w => ?_⟩
  match xs, p with
  | [d], p =>
    obtain ⟨v, rfl, rd⟩ := r.one rfl
    obtain ⟨n, rows, rfl, e, hne, p⟩ := p
    obtain ⟨a, us, rfl, _, ha, b, hz⟩ := lst_at s rd e
    obtain ⟨bs, rfl, rfl, hb⟩ := rows_list b
    rw [List.length_map, List.length_map] at hz
    refine ⟨a, bs, rfl, SqL.of ha, fun c hc => ⟨hne _ (List.mem_map.mpr ⟨c, hc, rfl⟩), (hb c hc).2⟩, hz, fun q hq => ?_⟩
    have rr : RDs (kW X) m H (((sortRows bs).map (·.2)).map rowD) ((sortRows bs).map (·.1)) := by
      have key : ∀ {l : List (V × List Int)}, (∀ c ∈ l, c ∈ bs) → RDs (kW X) m H ((l.map (·.2)).map rowD) (l.map (·.1)) := by
        intro l
        induction l with
        | nil => intro _; exact .nil
        | cons c l ih => intro hl; exact .cons (hb c (hl c List.mem_cons_self)).1 (ih fun d hd => hl d (List.mem_cons_of_mem _ hd))
      exact key fun c hc => (sortRows_perm bs).mem_iff.mp hc
    obtain ⟨g, s2, r2⟩ := new_lst s hq rr (by rw [List.length_map, List.length_map, (sortRows_perm bs).length_eq]; exact hz)
    refine w _ _ _ _ _ (p _ ((sortRows_perm bs).map _) ?_) g s2 r2
    rw [List.pairwise_map]
    exact sortRows_sorted bs
end
end SD
/-! SNj: sorted(set(xs)) of pairs of small numbers. -/
namespace SD
open PySem PySem.Spec PyProof.Rows L2
def small64 (r : List Int) : Prop := ∃ x y : Int, r = [x, y] ∧ 0 ≤ x ∧ x < 64 ∧ 0 ≤ y ∧ y < 64
def ssP (Q : PD) (d : D) (S1 : Store) : Prop := ∃ (n : Nat) (rows : List (List Int)), d = .ref n ∧ S1[n]? = some (.lst (rows.map rowD)) ∧ rows.length < 64 ∧ (∀ r ∈ rows, small64 r) ∧
  ∀ out : List (List Int), out.Nodup → out.Pairwise (fun a b => a ≤ b) → (∀ r, r ∈ out ↔ r ∈ rows) → Q (.ref S1.length) (S1 ++ [.lst (out.map rowD)])
def eSortSetP (f : FE) : FE := fun σ S Q => f σ S fun d S1 => ssP Q d S1
theorem pair_le {r q : List Int} (hr : small64 r) (hq : small64 q) (h : TS.code 64 r ≤ TS.code 64 q) : r ≤ q := by
  obtain ⟨x, y, rfl, a1, a2, a3, a4⟩ := hr
  obtain ⟨x', y', rfl, b1, b2, b3, b4⟩ := hq
  by_cases e : ([x, y] : List Int) = [x', y']
  · rw [e]; exact List.le_refl _
  · have := pair_lt h e ⟨a1, a2⟩ ⟨a3, a4⟩ ⟨b1, b2⟩ ⟨b3, b4⟩
    show ¬ ([x', y'] : List Int) < [x, y]
    rw [List.cons_lt_cons_iff, List.cons_lt_cons_iff]
    rintro (z | ⟨z, z2 | ⟨z2, z3⟩⟩)
    · omega
    · omega
    · exact absurd z3 (by simp)
theorem small_code {r : List Int} (h : small64 r) : r.length = 2 ∧ TS.Bd 64 r := by
  obtain ⟨x, y, rfl, a1, a2, a3, a4⟩ := h
  refine ⟨rfl, fun m hm => ?_⟩
  simp only [List.mem_cons, List.not_mem_nil, or_false] at hm
  rcases hm with rfl | rfl
  · exact ⟨a1, a2⟩
  · exact ⟨a3, a4⟩
theorem rows_refs {K : KW} {m : List Addr} {H : Hp} : ∀ {rows : List (List Int)} {vs : List V}, RDs K m H (rows.map rowD) vs → ∃ ks : List (Addr × List Int), vs = ks.map (fun p => V.ref p.1) ∧ rows = ks.map (·.2) ∧ ∀ p ∈ ks, RD K m H (rowD p.2) (.ref p.1) ∧ SqT K H p.1 (p.2.map V.int)
  | [], _, h => by cases h; exact ⟨[], rfl, rfl, fun b h => by cases h⟩
  | r :: rows, _, h => by
    cases h with
    | cons h t =>
      obtain ⟨ks, rfl, rfl, hk⟩ := rows_refs t
      have h2 := h
      cases h with
      | tup a z q =>
        rename_i p vs
        have e : (⟨p, r⟩ : Addr × List Int).1 = p := rfl
        refine ⟨(p, r) :: ks, rfl, rfl, fun c hc => ?_⟩
        rcases List.mem_cons.mp hc with rfl | hc
        · exact ⟨h2, by rw [← q.ints]; exact a⟩
        · exact hk c hc
section
variable {X : Cx}
theorem re_sortSetP {e : Expr} {f : FE} {p p2 pos pos2 : Pos} (hc : X.calm = true) (hu : X.A.units + 65 < cLine) (hm : X.mg "sorted" = none) (hm2 : X.mg "set" = none) (he : RE X e f) (hg : Gl X "sorted" := by rfl) (hg2 : Gl X "set" := by rfl) (n1 : starEach [e] X.env = (false, eval e X.env) :: starEach [] X.env := by rfl)
    (n2 : starEach [.Call (.Name "set" p2) [e] [] pos2] X.env = (false, eval (.Call (.Name "set" p2) [e] [] pos2) X.env) :: starEach [] X.env := by rfl) : RE X (.Call (.Name "sorted" p) [.Call (.Name "set" p2) [e] [] pos2] [] pos) (eSortSetP f) := by
  refine pe_w (pe_callB (cr_sortedT hc) hg hm (by decide +kernel) (pa_cons (pe_callTy (cr_setOfT hc (by omega)) hg2 hm2 (by decide +kernel) (pa_cons he pa_nil n1) (by decide) (by decide) n1 (by rfl)) pa_nil n2) (by decide) (by decide) n2 (by rfl)) fun σ H Q q => ?_
  obtain ⟨m, σd, S, P, s, r, p, w⟩ := q
  refine ⟨m, σd, S, _, s, r, p, fun d S1 m1 v H1 ⟨n, rows, e1, e2, h64, hsm, p1⟩ g1 s1 r1 => ?_⟩
  subst e1
  obtain ⟨l, vs, rfl, _, hl, b, hz⟩ := lst_at s1 r1 e2
  obtain ⟨ks, rfl, rfl, hk⟩ := rows_refs b
  rw [List.length_map] at h64
  refine ⟨l, ks, rfl, SqL.of hl, fun p hp => (hk p hp).2, h64, fun a L ha hL1 hL2 => ?_⟩
  have g2 : Grow m1 H1 m1 _ := Grow.new ha (SetTO X.prog X.w a L) (List.prefix_refl _)
  have s2 := s1.plus ha (SetTO X.prog X.w a L)
  have small : ∀ p ∈ L, small64 p.2 := fun p hp => hsm _ (List.mem_map.mpr ⟨p, hL1 p hp, rfl⟩)
  refine ⟨a, L, 2, 64, rfl, upd_same, fun p hp => ?_, by decide, fun p hp => small_code (small p hp), fun L' q pm nd few pw hq => ?_⟩
  · have := (hk p (hL1 p hp)).2
    rcases this with (h | ⟨o, h⟩) | h
    · exact .inl (.inl (by rw [upd_ne (fun z => by rw [z, ha] at h; cases h)]; exact h))
    · exact .inl (.inr ⟨o, by rw [upd_ne (fun z => by rw [z, ha] at h; cases h)]; exact h⟩)
    · exact .inr h
  · have rr : RDs (kW X) m1 (upd H1 a (SetTO X.prog X.w a L)) ((L'.map (·.2)).map rowD) (L'.map fun p => V.ref p.1) := by
      have key : ∀ {l : List (Addr × List Int)}, (∀ c ∈ l, c ∈ ks) → RDs (kW X) m1 (upd H1 a (SetTO X.prog X.w a L)) ((l.map (·.2)).map rowD) (l.map fun p => V.ref p.1) := by
        intro l
        induction l with
        | nil => intro _; exact .nil
        | cons c l ih => intro hl; exact .cons ((hk c (hl c List.mem_cons_self)).1.up g2) (ih fun d hd => hl d (List.mem_cons_of_mem _ hd))
      exact key fun c hc => hL1 c (pm.mem_iff.mp hc)
    obtain ⟨g3, s3, r3⟩ := new_lst s2 hq rr (by rw [List.length_map, List.length_map]; rw [sizeLine_eq]; omega)
    refine w _ _ _ _ _ (p1 _ nd ?_ fun r => ⟨fun hr => ?_, fun hr => ?_⟩) (g1.trans (g2.trans g3)) s3 r3
    · rw [List.pairwise_map]
      exact pw.imp_of_mem fun {a b} ha hb h => pair_le (small a (pm.mem_iff.mp ha)) (small b (pm.mem_iff.mp hb)) h
    · obtain ⟨p, hp, rfl⟩ := List.mem_map.mp hr
      exact List.mem_map.mpr ⟨p, hL1 p (pm.mem_iff.mp hp), rfl⟩
    · obtain ⟨p, hp, rfl⟩ := List.mem_map.mp hr
      obtain ⟨p2, hp2, e⟩ := List.mem_map.mp (hL2 p hp)
      rw [← e]
      exact List.mem_map.mpr ⟨p2, pm.mem_iff.mpr hp2, rfl⟩
end
end SD
/-! SNk: zip of two tuples. -/
namespace SD
open PySem PySem.Spec PyProof.Rows L2
def iZipD (fa : FA) : FI := fun σ S R => fa σ S fun ds S1 => ∃ xs ys, ds = [.tup xs, .tup ys] ∧ xs.length ≤ ys.length ∧ ys.length ≤ xs.length ∧ R Always ((xs.zip ys).map fun p => .tup [p.1, p.2]) S1
section
variable {X : Cx}
theorem ri_zip {e e2 : Expr} {fa : FA} {p pos tpos : Pos} {elts : List Expr} {kk : Nat} (hm : X.mg "zip" = none) (ha : RA X [e, e2] fa) (hg : Gl X "zip" := by rfl)
    (hs : starEach [e, e2] X.env = (false, eval e X.env) :: starEach [e2] X.env := by rfl) (hpl : (backTo pos (starEach [e2] X.env)).any (·.1) = false := by rfl) :
    RI X (.Tuple elts kk tpos) (.Call (.Name "zip" p) [e, e2] [] pos) (iZipD fa) := by
  refine pi_w (RZ.pi_zipA hg hm ha hs hpl) fun σ H R q => ?_
  obtain ⟨m, σd, S, P, s, r, p, w⟩ := q
  refine ⟨m, σd, S, _, s, r, p, fun ds S1 m1 vs H1 ⟨xs, ys, e, l1, l2, p1⟩ g1 s1 r1 => ?_⟩
  subst e
  have hl : xs.length = ys.length := Nat.le_antisymm l1 l2
  cases r1 with
  | cons ra rb =>
    cases rb with
    | cons rb rn =>
      cases rn
      cases ra with
      | @tup a _ us az zz b =>
        cases rb with
        | @tup a2 _ us2 az2 zz2 b2 =>
          refine ⟨a, a2, us, us2, rfl, .inr ⟨az, az2, w _ _ _ _ _ _ p1 g1 s1 ⟨?_, fun i m2 S2 H2 d g s2 _ hd => ?_, fun i m2 S2 H2 g s2 _ hi => ?_⟩⟩⟩
          · rw [List.length_map, List.length_zip, ← hl, Nat.min_self, b.length]; exact zz
          · rw [List.getElem?_map] at hd
            cases hz : (xs.zip ys)[i]? with
            | none => rw [hz] at hd; cases hd
            | some pr =>
              rw [hz] at hd
              cases hd
              obtain ⟨x, y⟩ := pr
              obtain ⟨hx, hy⟩ := List.getElem?_zip_eq_some.mp hz
              obtain ⟨v, e1, rv⟩ := (b.up g).get hx
              obtain ⟨v2, e2, rv2⟩ := (b2.up g).get hy
              refine ⟨⟨us, us2, v, v2, g.sqT az, g.sqT az2, e1, e2⟩, fun z H3 hy => ?_⟩
              obtain ⟨T, x', y', rfl, hT, rfl, h1, h2⟩ := hy
              have := h1 us (g.sqT az)
              rw [e1] at this
              cases this
              have := h2 us2 (g.sqT az2)
              rw [e2] at this
              cases this
              have g3 : Grow m2 H2 m2 (upd H2 T (.tup [v, v2])) := Grow.new hT _ (List.prefix_refl _)
              exact ⟨g3, s2.plus hT _, .tup (.inl (.inl upd_same)) (by show 2 ≤ sizeLine; decide) (.cons (rv.up g3) (.cons (rv2.up g3) .nil))⟩
          · rw [List.length_map, List.length_zip, ← hl, Nat.min_self] at hi
            exact ⟨us, us2, g.sqT az, g.sqT az2, .inl (by rw [← b.length]; exact hi)⟩
end
end SD
/-! SNl: steps and tools for dicts by tuples. -/
namespace SD
open PySem L2
section
variable {σ : Slots} {S : Store} {E : EndsD} {Q : PD} {QB : Bool → Store → Prop} {QA : List D → Store → Prop} {QG : Slots → Store → Prop} {QI : (Store → Prop) → List D → Store → Prop}
theorem r_mtT {fr : FM} {fo : FE} {fa : FA} (h : fo σ S fun x S1 => tyT S1 x ∧ fa σ S1 fun xs S2 => fr x xs S2 Q) : eMtT fr fo fa σ S Q := h
theorem r_tyT {n : Nat} {ys : List (D × D)} {P : Prop} (e : S[n]? = some (.tdc ys)) (h : P) : tyT S (.ref n) ∧ P := ⟨⟨n, ys, rfl, e⟩, h⟩
theorem tdD_at {n : Nat} {kvs : List (D × D)} (e : S[n]? = some (.tdc kvs)) : tdD S (.ref n) = some kvs := by show tdC S[n]? = _; rw [e]; rfl
theorem r_updT {n j : Nat} {kvs more : List (D × D)} (ne : n ≠ j) (a : S[n]? = some (.tdc kvs)) (b : tdD S (.ref j) = some more) (l : kvs.length + more.length ≤ sizeLine) (hh : kvs ≠ [] ∨ hashOk more) (h : ∀ S', S'[n]? = some (.tdc (mergeD kvs more)) → Off n S S' → Q .non S') : updTF (.ref n) [.ref j] S Q :=
  ⟨n, j, kvs, more, rfl, rfl, ne, a, b, l, hh, h _ (set_at a) (Off.set _ _ _)⟩
theorem r_getT {n : Nat} {kvs : List (D × D)} {k z : D} (a : tdD S (.ref n) = some kvs) (t : tkD k = true) (h : Q ((valD kvs k).getD z) S) : getTF (.ref n) [k, z] S Q := ⟨kvs, k, z, a, rfl, t, h⟩
theorem r_sdfT {n : Nat} {kvs : List (D × D)} {k z : D} (a : S[n]? = some (.tdc kvs)) (t : tkD k = true) (l : kvs.length < sizeLine) (h1 : ∀ v, valD kvs k = some v → Q v S) (h2 : valD kvs k = none → ∀ S', S'[n]? = some (.tdc (putD kvs k z)) → Off n S S' → Q z S') : sdfTF (.ref n) [k, z] S Q :=
  ⟨n, kvs, k, z, rfl, rfl, a, t, l, h1, fun e => h2 e _ (set_at a) (Off.set _ _ _)⟩
theorem r_subT {fo fi : FE} {d : D} (h : fo σ S fun o S1 => fi σ S1 fun i S2 => setTF o i d S2 fun S3 => QG σ S3) : gSubT fo fi d σ S QG := h
theorem r_setT {n : Nat} {kvs : List (D × D)} {i v : D} {R : Store → Prop} (a : S[n]? = some (.tdc kvs)) (t : tkD i = true) (l : kvs.length < sizeLine) (h : ∀ S', S'[n]? = some (.tdc (putD kvs i v)) → Off n S S' → R S') : setTF (.ref n) i v S R :=
  ⟨n, kvs, rfl, a, t, l, h _ (set_at a) (Off.set _ _ _)⟩
theorem r_lenT {d : D} {kvs : List (D × D)} (e : tdD S d = some kvs) (h : Q (.int (kvs.length : Nat)) S) : lenTF [d] S Q := ⟨kvs, e, h⟩
theorem r_listT {d : D} {kvs : List (D × D)} (e : tdD S d = some kvs) (h : Q (.ref S.length) (S ++ [.lst (kvs.map (·.1))])) : listTF [d] S Q := ⟨kvs, e, h⟩
theorem r_vals {f : FE} (h : f σ S fun d S1 => ∃ kvs, tdD S1 d = some kvs ∧ Q (.ref S1.length) (S1 ++ [.lst (kvs.map (·.2))])) : eVals f σ S Q := h
theorem r_dictN (h : Q (.ref S.length) (S ++ [.tdc []])) : eDictN σ S Q := h
theorem r_ixDT {o i v : D} {kvs : List (D × D)} (a : tdD S o = some kvs) (t : tkD i = true) (e : valD kvs i = some v) (h : Q v S) : ixTF o i S Q := ⟨kvs, v, a, t, e, h⟩
theorem r_inDT {neg : Bool} {x y : D} {kvs : List (D × D)} (a : tdD S y = some kvs) (t : tkD x = true) (h : Q (.bl ((valD kvs x).isSome ^^ neg)) S) : inTF neg x y S Q := ⟨kvs, a, t, h⟩
theorem r_dcN {f : FI} {g : FG} {t : FT} {fk fv : FE} {vs : List Nat} (h : f σ S fun ok xs S1 => xs.length ≤ sizeLine → dcT ok g t fk fv S1.length (fun S' => Q (.ref S1.length) S') (wipeD σ vs) xs (S1 ++ [.tdc []])) : eDcN f g t fk fv vs σ S Q := h
theorem r_zip {fa : FA} (h : fa σ S fun ds S1 => ∃ xs ys, ds = [.tup xs, .tup ys] ∧ xs.length ≤ ys.length ∧ ys.length ≤ xs.length ∧ QI Always ((xs.zip ys).map fun p => .tup [p.1, p.2]) S1) : iZipD fa σ S QI := h
theorem r_lenSet {f : FE} (h : f σ S fun d S1 => ∃ n xs, d = .ref n ∧ S1[n]? = some (.lst xs) ∧ xs.length < 64 ∧ (∀ x ∈ xs, tnD x = true) ∧ ∀ (c : Nat) (ys : List D), ys.Nodup → (∀ y, y ∈ ys ↔ y ∈ xs) → ys.length = c → Q (.int (c : Nat)) S1) : eLenSet f σ S Q := h
theorem r_ssP {f : FE} (h : f σ S fun d S1 => ssP Q d S1) : eSortSetP f σ S Q := h
/-- a dict by tuples, locked while e is worked out -/
theorem r_lockT {i n : Nat} {kvs : List (D × D)} {f : FE} (a : σ[i]? = some (some (.ref n))) (e : S[n]? = some (.tdc kvs)) (h : f σ (S.set n (.tlk kvs)) fun d S' => S'[n]? = some (.tlk kvs) ∧ Q d (S'.set n (.tdc kvs))) : eLockT i f σ S Q := ⟨n, kvs, a, e, h⟩
theorem r_sLockT {i n : Nat} {kvs : List (D × D)} {f : FS} (a : σ[i]? = some (some (.ref n))) (e : S[n]? = some (.tdc kvs))
    (h : f ⟨fun σ' S' => S'[n]? = some (.tlk kvs) ∧ E.nx σ' (S'.set n (.tdc kvs)), fun d S' => S'[n]? = some (.tlk kvs) ∧ E.rt d (S'.set n (.tdc kvs)), fun σ' S' => S'[n]? = some (.tlk kvs) ∧ E.bk σ' (S'.set n (.tdc kvs)), fun σ' S' => S'[n]? = some (.tlk kvs) ∧ E.ct σ' (S'.set n (.tdc kvs))⟩ σ (S.set n (.tlk kvs))) :
    sLockT i f E σ S := ⟨n, kvs, a, e, h⟩
theorem r_keysT {i n : Nat} {kvs : List (D × D)} (a : σ[i]? = some (some (.ref n))) (e : S[n]? = some (.tlk kvs)) (h : QI (fun S => S[n]? = some (.tlk kvs)) (kvs.map (·.1)) S) : iKeysT i σ S QI := ⟨n, kvs, a, e, h⟩
theorem unlock_ext {S S' : Store} {n : Nat} {c d : Cell} (h : S[n]? = some c) (e : Ext (S.set n d) S') : Ext S (S'.set n c) := fun i b q => by
  by_cases hi : n = i
  · subst hi
    rw [h] at q; cases q
    exact set_at (e _ _ (set_at h))
  · rw [set_off hi]
    exact e _ _ ((set_off hi).trans q)
theorem unlock_extB {l : List Nat} {S S' : Store} {n : Nat} {c d : Cell} (hn : n ∉ l) (h : S[n]? = some c) (e : ExtB l (S.set n d) S') : ExtB l S (S'.set n c) := ⟨by have := e.1; rw [List.length_set] at *; exact this, fun i hi b q => by
  by_cases hj : n = i
  · subst hj
    rw [h] at q; cases q
    exact set_at (e.2 _ hn _ (set_at h))
  · rw [set_off hj]
    exact e.2 _ hi _ ((set_off hj).trans q)⟩
/-- a comprehension of a dict by tuples, by an invariant -/
theorem dcN_inv {ok : Store → Prop} {g : FG} {t : FT} {fk fv : FE} {n0 : Nat} {R0 : Store → Prop} (I : Nat → List (D × D) → Store → Prop) {xs : List D} {S0 : Store} (few : xs.length ≤ sizeLine) (at0 : S0[n0]? = some (.tdc [])) (h0 : I 0 [] S0)
    (step : ∀ i x acc S (R : Store → Prop), xs[i]? = some x → S[n0]? = some (.tdc acc) → acc.length ≤ i → I i acc S → (∀ acc' S', S'[n0]? = some (.tdc acc') → acc'.length ≤ i + 1 → I (i + 1) acc' S' → R S') →
      ok S ∧ g x σ S fun σ2 S2 => t σ2 S2 fun b S3 => if b = true then fk σ2 S3 fun k S4 => fv σ2 S4 fun v S5 => ∃ acc, tkD k = true ∧ S5[n0]? = some (.tdc acc) ∧ acc.length < sizeLine ∧ R (S5.set n0 (.tdc (putD acc k v))) else R S3)
    (done : ∀ acc S, S[n0]? = some (.tdc acc) → acc.length ≤ xs.length → I xs.length acc S → ok S ∧ R0 S) : dcT ok g t fk fv n0 R0 σ xs S0 := by
  have go : ∀ (ys : List D) (i : Nat) (acc : List (D × D)) (S : Store), xs.drop i = ys → i ≤ xs.length → S[n0]? = some (.tdc acc) → acc.length ≤ i → I i acc S → dcT ok g t fk fv n0 R0 σ ys S := by
    intro ys
    induction ys with
    | nil =>
      intro i acc S hd hi h1 h2 h3
      have : i = xs.length := by
        have := congrArg List.length hd
        simp at this
        omega
      subst this
      exact done acc S h1 h2 h3
    | cons y ys ih =>
      intro i acc S hd hi h1 h2 h3
      have hlt : i < xs.length := by
        have := congrArg List.length hd
        simp at this
        omega
      have hx : xs[i]? = some y := by
        rw [← List.head?_drop, hd]; rfl
      have hd' : xs.drop (i + 1) = ys := by
        rw [← List.tail_drop, hd]; rfl
      exact step i y acc S _ hx h1 h2 h3 fun acc' S' q1 q2 q3 => ih (i + 1) acc' S' hd' hlt q1 q2 q3
  exact go xs 0 [] S0 rfl (Nat.zero_le _) at0 (Nat.le_refl _) h0
end
/-! ### sets as dicts, whatever the keys -/
section
variable {α : Type} [DecidableEq α] {enc : α → D}
def setG (enc : α → D) (ks : List α) : List (D × D) := ks.map fun k => (enc k, .bl true)
def insG (ks : List α) (k : α) : List α := if k ∈ ks then ks else ks ++ [k]
theorem mem_insG {ks : List α} {k j : α} : j ∈ insG ks k ↔ j ∈ ks ∨ j = k := by
  unfold insG
  split
  · constructor
    · exact .inl
    · rintro (h | rfl)
      · exact h
      · assumption
  · simp
theorem nodup_insG {ks : List α} {k : α} (h : ks.Nodup) : (insG ks k).Nodup := by
  unfold insG
  split
  · exact h
  · rw [List.nodup_append]
    exact ⟨h, by simp, fun a ha b hb => by rw [List.mem_singleton] at hb; rintro rfl; subst hb; contradiction⟩
theorem length_insG (ks : List α) (k : α) : (insG ks k).length ≤ ks.length + 1 := by
  unfold insG
  split <;> simp
theorem setG_any (inj : ∀ a b, enc a = enc b → a = b) (ks : List α) (k : α) : (setG enc ks).any (fun p => decide (p.1 = enc k)) = decide (k ∈ ks) := by
  induction ks with
  | nil => rfl
  | cons a ks ih =>
    unfold setG at ih ⊢
    rw [List.map_cons, List.any_cons, ih, Bool.eq_iff_iff, Bool.or_eq_true, decide_eq_true_eq, decide_eq_true_eq, decide_eq_true_eq, List.mem_cons]
    exact or_congr ⟨fun h => (inj _ _ h).symm, fun h => by rw [h]⟩ Iff.rfl
theorem setG_val (inj : ∀ a b, enc a = enc b → a = b) (ks : List α) (k : α) : (valD (setG enc ks) (enc k)).isSome = decide (k ∈ ks) := by
  rw [valD_any, setG_any inj]
theorem setG_put (inj : ∀ a b, enc a = enc b → a = b) (ks : List α) (k : α) : putD (setG enc ks) (enc k) (.bl true) = setG enc (insG ks k) := by
  unfold putD insG
  rw [setG_any inj]
  by_cases h : k ∈ ks
  · rw [if_pos (by simpa using h), if_pos h]
    unfold setG
    rw [List.map_map]
    refine List.map_congr_left fun x _ => ?_
    simp only [Function.comp]
    split <;> rfl
  · rw [if_neg (by simpa using h), if_neg h]
    unfold setG
    simp
theorem setG_keys (ks : List α) : (setG enc ks).map (·.1) = ks.map enc := by
  unfold setG; rw [List.map_map]; rfl
theorem setG_length (ks : List α) : (setG enc ks).length = ks.length := by unfold setG; rw [List.length_map]
theorem setG_nil (ks : List α) : setG enc ks = [] ↔ ks = [] := by unfold setG; rw [List.map_eq_nil_iff]
theorem setG_merge (inj : ∀ a b, enc a = enc b → a = b) (ks ls : List α) : ∃ ms, mergeD (setG enc ks) (setG enc ls) = setG enc ms ∧ (ks.Nodup → ms.Nodup) ∧ ∀ j, j ∈ ms ↔ j ∈ ks ∨ j ∈ ls := by
  induction ls generalizing ks with
  | nil => exact ⟨ks, rfl, fun h => h, fun j => by simp⟩
  | cons a ls ih =>
    obtain ⟨ms, h1, h2, h3⟩ := ih (insG ks a)
    refine ⟨ms, ?_, fun h => h2 (nodup_insG h), fun j => ?_⟩
    · show mergeD (putD (setG enc ks) (enc a) (.bl true)) (setG enc ls) = setG enc ms
      rw [setG_put inj]; exact h1
    · rw [h3, mem_insG, List.mem_cons]
      constructor
      · rintro ((h | h) | h)
        · exact .inl h
        · exact .inr (.inl h)
        · exact .inr (.inr h)
      · rintro (h | h | h)
        · exact .inl (.inl h)
        · exact .inl (.inr h)
        · exact .inr h
/-- {enc (f x): True for x in xs if p x}, the keys tuples -/
theorem dcN_set {β : Type} {ok : Store → Prop} {g : FG} {t : FT} {fk fv : FE} {σ : Slots} {S : Store} {R : Store → Prop} (inj : ∀ a b, enc a = enc b → a = b) (xs : List β) (encB : β → D) (f : β → α) (p : β → Bool) (few : xs.length < sizeLine) (hok : ∀ S1, Ext S S1 → ok S1)
    (tk : ∀ x ∈ xs, tkD (enc (f x)) = true)
    (hs : ∀ x ∈ xs, ∀ (S1 : Store) (R : Store → Prop) (RK : D → D → Store → Prop), Ext S S1 → (p x = false → ∀ S2, Ext S1 S2 → R S2) → (p x = true → ∀ S2, Ext S1 S2 → RK (enc (f x)) (.bl true) S2) → g (encB x) σ S1 fun σ2 S2 => t σ2 S2 fun b S3 => if b = true then fk σ2 S3 fun k S4 => fv σ2 S4 fun v S5 => RK k v S5 else R S3)
    (hQ : ∀ S1 ks, Ext S S1 → S1[S.length]? = some (.tdc (setG enc ks)) → ks.Nodup → (∀ j, j ∈ ks ↔ ∃ x ∈ xs, p x = true ∧ f x = j) → R S1) : dcT ok g t fk fv S.length R σ (xs.map encB) (S ++ [.tdc []]) := by
  refine dcN_inv (fun k acc S1 => Ext S S1 ∧ ∃ ks : List α, acc = setG enc ks ∧ ks.Nodup ∧ ∀ j, j ∈ ks ↔ ∃ x ∈ xs.take k, p x = true ∧ f x = j) (by rw [List.length_map]; omega) (new_at S _) ⟨Ext.app S _, [], rfl, .nil, by simp⟩ ?_ ?_
  · rintro k x acc S1 R1 hx h1 hl ⟨e1, ks, rfl, h2, h3⟩ hR
    rw [List.getElem?_map] at hx
    cases hxx : xs[k]? with
    | none => rw [hxx] at hx; cases hx
    | some x' =>
      rw [hxx] at hx
      cases hx
      have hkl : k < xs.length := (List.getElem?_eq_some_iff.mp hxx).1
      have tk' : xs.take (k + 1) = xs.take k ++ [x'] := by rw [List.take_add_one, hxx]; rfl
      have hm := List.mem_of_getElem? hxx
      refine ⟨hok S1 e1, hs x' hm S1 _ _ e1 (fun hp S2 e2 => ?_) (fun hp S2 e2 => ?_)⟩
      · refine hR _ S2 (e2 _ _ h1) (by omega) ⟨e1.trans e2, ks, rfl, h2, fun j => ?_⟩
        rw [h3, tk']
        constructor
        · rintro ⟨x, a, b⟩
          exact ⟨x, List.mem_append.mpr (.inl a), b⟩
        · rintro ⟨x, a, b, c⟩
          rcases List.mem_append.mp a with a | a
          · exact ⟨x, a, b, c⟩
          · rw [List.mem_singleton] at a
            rw [a, hp] at b; cases b
      · have h1' := e2 _ _ h1
        refine ⟨_, tk x' hm, h1', by omega, ?_⟩
        rw [setG_put inj]
        refine hR _ _ (set_at h1') ?_ ⟨(e1.trans e2).put (Nat.le_refl _), _, rfl, nodup_insG h2, fun j => ?_⟩
        · rw [setG_length] at hl ⊢
          have := length_insG ks (f x')
          omega
        · rw [mem_insG, h3, tk']
          constructor
          · rintro (⟨x, a, b⟩ | rfl)
            · exact ⟨x, List.mem_append.mpr (.inl a), b⟩
            · exact ⟨x', by simp, hp, rfl⟩
          · rintro ⟨x, a, b, c⟩
            rcases List.mem_append.mp a with a | a
            · exact .inl ⟨x, a, b, c⟩
            · rw [List.mem_singleton] at a
              exact .inr (by rw [← c, a])
  · rintro acc S1 h1 hl ⟨e1, ks, rfl, h2, h3⟩
    refine ⟨hok S1 e1, hQ S1 ks e1 h1 h2 fun j => ?_⟩
    rw [h3, List.length_map, List.take_length]
end
end SD
local macro_rules | `(tactic| walk_at "s") => `(tactic| (repeat with_reducible first | refine SD.r_seq ?_ | refine SD.r_asg ?_ | refine SD.r_nm ?_ | refine SD.r_var (by with_unfolding_all rfl) ?_ | refine SD.r_c ?_ | refine SD.r_aCons ?_ | refine SD.r_aNil ?_ | refine SD.r_op ?_ | refine SD.r_call ?_ | refine SD.r_val ?_ | refine SD.r_bl ?_ | refine SD.r_if ?_ | refine SD.r_ret ?_ | refine SD.r_next ?_ | refine SD.r_ifT (by first | decide | (with_unfolding_all rfl)) ?_ | refine SD.r_ifF (by first | decide | (with_unfolding_all rfl)) ?_ | refine SD.r_tup ?_ | refine SD.r_lst ?_ | refine SD.r_le (Nat.le_of_ble_eq_true (by with_unfolding_all rfl)) ?_ | refine SD.r_cb ?_ | refine SD.r_and ?_ | refine SD.r_or ?_ | refine SD.r_not ?_ | refine SD.r_eIf ?_ | refine SD.r_eAnd ?_ | refine SD.r_eOr ?_ | refine SD.r_eNot ?_ | refine SD.r_isN ?_ | refine SD.r_mt ?_ | refine SD.r_iConst ?_ | refine SD.r_sl ?_ | refine SD.r_oSome ?_ | refine SD.r_oInt ?_ | refine SD.r_oNo ?_ | refine SD.r_rev ?_ | refine SD.r_rev2 ?_ | refine SD.r_get2 ?_ | refine SD.r_kix ?_ | refine SD.r_eNotN ?_ | refine SD.r_tr ?_ | refine SD.r_ss ?_ | refine SD.r_dict0 ?_ | refine SD.r_yes ?_ | refine SD.r_isi ?_ | refine SD.r_ty (by with_unfolding_all rfl) ?_ | refine SD.r_ixT (by with_unfolding_all rfl) ?_ | refine SD.r_ixE (by with_unfolding_all rfl) (by with_unfolding_all rfl) ?_ | refine SD.r_ixL (by assumption) (by with_unfolding_all rfl) ?_ | refine SD.r_addI ?_ | refine SD.r_intF ?_ | refine SD.r_intCF (by first | decide | exact SD.cmul_r (by decide) | exact SD.cmul_l (by decide)) ?_ | refine SD.r_eqI ?_ | refine SD.r_neI ?_ | refine SD.r_eqS ?_ | refine SD.r_neS ?_ | refine SD.r_eqB ?_ | refine SD.r_neB ?_ | refine SD.r_int ?_ | refine SD.r_drop ?_ | refine SD.r_sub ?_ | refine SD.r_gTp (by with_unfolding_all rfl) ?_ | refine SD.r_gsCons ?_ | refine SD.r_gsNil ?_ | refine SD.r_for ?_ | refine SD.r_lc ?_ | refine SD.r_dc ?_ | refine SD.r_iRg1 ?_ | refine SD.r_inT (by with_unfolding_all rfl) (by with_unfolding_all rfl) ?_ | refine SD.r_mtT ?_ | refine SD.r_dictN ?_ | refine SD.r_dcN ?_ | refine SD.r_vals ?_ | refine SD.r_zip ?_ | refine SD.r_lenSet ?_ | refine SD.r_ssP ?_ | refine SD.r_subT ?_))
local macro_rules | `(tactic| walk_at "n") => `(tactic| (repeat with_reducible first | refine SD.r_asg ?_ | refine SD.r_nm ?_ | refine SD.r_var (by with_unfolding_all rfl) ?_ | refine SD.r_c ?_ | refine SD.r_aCons ?_ | refine SD.r_aNil ?_ | refine SD.r_op ?_ | refine SD.r_call ?_ | refine SD.r_val ?_ | refine SD.r_bl ?_ | refine SD.r_if ?_ | refine SD.r_ret ?_ | refine SD.r_next ?_ | refine SD.r_ifT (by first | decide | (with_unfolding_all rfl)) ?_ | refine SD.r_ifF (by first | decide | (with_unfolding_all rfl)) ?_ | refine SD.r_tup ?_ | refine SD.r_lst ?_ | refine SD.r_le (Nat.le_of_ble_eq_true (by with_unfolding_all rfl)) ?_ | refine SD.r_cb ?_ | refine SD.r_and ?_ | refine SD.r_or ?_ | refine SD.r_not ?_ | refine SD.r_eIf ?_ | refine SD.r_eAnd ?_ | refine SD.r_eOr ?_ | refine SD.r_eNot ?_ | refine SD.r_isN ?_ | refine SD.r_mt ?_ | refine SD.r_iConst ?_ | refine SD.r_sl ?_ | refine SD.r_oSome ?_ | refine SD.r_oInt ?_ | refine SD.r_oNo ?_ | refine SD.r_rev ?_ | refine SD.r_rev2 ?_ | refine SD.r_get2 ?_ | refine SD.r_kix ?_ | refine SD.r_eNotN ?_ | refine SD.r_tr ?_ | refine SD.r_ss ?_ | refine SD.r_dict0 ?_ | refine SD.r_yes ?_ | refine SD.r_isi ?_ | refine SD.r_ty (by with_unfolding_all rfl) ?_ | refine SD.r_ixT (by with_unfolding_all rfl) ?_ | refine SD.r_ixE (by with_unfolding_all rfl) (by with_unfolding_all rfl) ?_ | refine SD.r_ixL (by assumption) (by with_unfolding_all rfl) ?_ | refine SD.r_addI ?_ | refine SD.r_intF ?_ | refine SD.r_intCF (by first | decide | exact SD.cmul_r (by decide) | exact SD.cmul_l (by decide)) ?_ | refine SD.r_eqI ?_ | refine SD.r_neI ?_ | refine SD.r_eqS ?_ | refine SD.r_neS ?_ | refine SD.r_eqB ?_ | refine SD.r_neB ?_ | refine SD.r_int ?_ | refine SD.r_drop ?_ | refine SD.r_sub ?_ | refine SD.r_gTp (by with_unfolding_all rfl) ?_ | refine SD.r_gsCons ?_ | refine SD.r_gsNil ?_ | refine SD.r_for ?_ | refine SD.r_lc ?_ | refine SD.r_dc ?_ | refine SD.r_iRg1 ?_ | refine SD.r_inT (by with_unfolding_all rfl) (by with_unfolding_all rfl) ?_ | refine SD.r_mtT ?_ | refine SD.r_dictN ?_ | refine SD.r_dcN ?_ | refine SD.r_vals ?_ | refine SD.r_zip ?_ | refine SD.r_lenSet ?_ | refine SD.r_ssP ?_ | refine SD.r_subT ?_))
/-! SNm: pairs of small numbers as keys. -/
namespace SD
open PySem L2
abbrev Pr := Nat × Nat
abbrev pqD (p : Pr) : D := .tup [.int (p.1 : Nat), .int (p.2 : Nat)]
def pqK (p : Pr) : NestedKey := .tup [.num (p.1 : Nat), .num (p.2 : Nat)]
theorem pqD_inj (p q : Pr) (h : pqD p = pqD q) : p = q := by
  obtain ⟨a, b⟩ := p
  obtain ⟨c, d⟩ := q
  simp only [pqD, D.tup.injEq, List.cons.injEq, D.int.injEq, and_true] at h
  have h1 := h.1
  have h2 := h.2
  have e1 : a = c := by omega
  have e2 : b = d := by omega
  rw [e1, e2]
theorem pqD_tk (p : Pr) : tkD (pqD p) = true := rfl
theorem pqD_nk (p : Pr) : toNK (pqD p) = some (pqK p) := rfl
def pqH (p : Pr) : Int := reduceHash (Builtin.Tuple.tupleHashOf [hashInt (p.1 : Nat), hashInt (p.2 : Nat)])
theorem pqK_hash (w : World) (p : Pr) : (pqK p).hash w = pqH p := by
  simp only [pqK, NestedKey.hash, NestedKey.hashes, pqH]
def few8 : List Pr := (List.range 8).flatMap fun a => (List.range 8).map fun b => (a, b)
theorem mem_few8 {p : Pr} (h1 : p.1 < 8) (h2 : p.2 < 8) : p ∈ few8 := by
  obtain ⟨a, b⟩ := p
  exact List.mem_flatMap.mpr ⟨a, List.mem_range.mpr h1, List.mem_map.mpr ⟨b, List.mem_range.mpr h2, rfl⟩⟩
def prTab : List Int := [-8458139203682520985, -1950498447580522560, 7204814214171964562, -4734289103435588629, 1773351652666409796, -3119722376306286570, -1010439003188656273, -5903513032161352639, -5164621852614943976, 8389048192121911274, -3550055125485641917, -1440771752368011620, -6333845781340707986, 173794974761290439, -4719279054211405927, -2609995681093775630, 4685526799349444076, 6794810172467074373, 1901736143494378007, 8409376899596376432, 3516302870623680066, -8422800446983873125, -6313517073866242828, 7240152970870612422, 2248468952609198383, 8756109708711196808, 3863035679738500442, 5972319052856130739, 1079245023883434373, 7586885779985432798, -4352217537622120393, 4803095124130366729, -6348126469135965181, 159514286966033244, -9131917124991031250, -2624276368889032825, 3883364387212965600, -1009709641759730766, 1099573731357899531, -3793500297614796835, -3054609118068388172, 3453031638033610253, -5838399773923454241, 669240982178544184, -4223833046794152182, 2283807709307846243, -7007623702649218251, -499982946547219826, -5491666964808633865, 8062003079928221385, -3877100237679331806, 2630540518422666619, -6660890893534397875, -153250137432399450, -5046324166405095816, 1461316589696902609, 4358481687155754187, -7580621630451799004, 5973048414285056246, 8082331787402686543, 3189257758429990177, -8749845559177563014, -2242204803075564589, 6913107858676922533]
theorem pqH_tab : few8.map pqH = prTab := by decide +kernel
theorem prTab_nd : prTab.Nodup := by decide +kernel
theorem pqH_inj {p q : Pr} (h1 : p.1 < 8) (h2 : p.2 < 8) (h3 : q.1 < 8) (h4 : q.2 < 8) (h : pqH p = pqH q) : p = q := by
  have nd : (few8.map pqH).Nodup := by rw [pqH_tab]; exact prTab_nd
  have key : ∀ l : List Pr, (l.map pqH).Nodup → p ∈ l → q ∈ l → p = q := by
    intro l
    induction l with
    | nil => intro _ h; cases h
    | cons a l ih =>
      intro hn hp hq
      rw [List.map_cons, List.nodup_cons] at hn
      rcases List.mem_cons.mp hp with e1 | hp
      · rcases List.mem_cons.mp hq with e2 | hq
        · rw [e1, e2]
        · exact absurd (List.mem_map.mpr ⟨q, hq, by rw [← h, e1]⟩) hn.1
      · rcases List.mem_cons.mp hq with e2 | hq
        · exact absurd (List.mem_map.mpr ⟨p, hp, by rw [h, e2]⟩) hn.1
        · exact ih hn.2 hp hq
  exact key _ nd (mem_few8 h1 h2) (mem_few8 h3 h4)
theorem pr_hash (w : World) (p : Pr) : ((toNK (pqD p)).getD .none).hash w = pqH p := by
  rw [pqD_nk]; exact pqK_hash w p
theorem pr_hashes (w : World) : ∀ ks : List Pr, ((setG pqD ks).map fun p => ((toNK p.1).getD .none).hash w) = ks.map pqH
  | [] => rfl
  | k :: ks => by
    rw [List.map_cons, ← pr_hashes w ks]
    unfold setG
    rw [List.map_cons, List.map_cons]
    exact congrArg (fun z => z :: _) (pr_hash w k)
theorem pr_hashOk {ks : List Pr} (nd : ks.Nodup) (h : ∀ p ∈ ks, p.1 < 8 ∧ p.2 < 8) : hashOk (setG pqD ks) := by
  intro w
  rw [pr_hashes, List.nodup_iff_pairwise_ne, List.pairwise_map]
  exact (List.nodup_iff_pairwise_ne.mp nd).imp_of_mem fun {a b} ha hb ne e => ne (pqH_inj (h a ha).1 (h a ha).2 (h b hb).1 (h b hb).2 e)
def pqR (p : Pr) : List Int := [(p.1 : Nat), (p.2 : Nat)]
theorem pqD_row (p : Pr) : pqD p = rowD (pqR p) := rfl
theorem pqR_inj (p q : Pr) (h : pqR p = pqR q) : p = q := pqD_inj p q (by rw [pqD_row, pqD_row, h])
end SD
/-! PG3: meanings of the defs that hold worlds side by side and fold them (printed by gen.py). -/
namespace PG
open PySem L2 SD
/-! ### beside -/
def b_beside  : FS :=
  (sSeq (sAsg (eOp ixF (eVar 0) (eC (.int 0))) (gNm 2))
  (sSeq (sAsg (eLst aNil) (gNm 3))
  (sSeq (sFor (iZipD (aCons (eOp ixF (eVar 0) (eC (.int 1))) (aCons (eOp ixF (eVar 1) (eC (.int 1))) aNil))) (gTp 2 (gsCons (gNm 4) (gsCons (gNm 5) gsNil))) (sDrop (eMt "list" appF (eVar 3) (aCons (eOp addF (eVar 4) (eCB tupleF (aCons (eLc (iSeqD (eVar 5)) (gNm 7) tYesD (eOp addF (eVar 7) (eVar 2)) [7]) aNil))) aNil))))
  (sSeq (sAsg (eLst aNil) (gNm 6))
  (sSeq (sFor (iZipD (aCons (eOp ixF (eVar 0) (eC (.int 2))) (aCons (eOp ixF (eVar 1) (eC (.int 2))) aNil))) (gTp 2 (gsCons (gNm 4) (gsCons (gNm 5) gsNil))) (sDrop (eMt "list" appF (eVar 6) (aCons (eOp addF (eVar 4) (eCB tupleF (aCons (eLc (iSeqD (eVar 5)) (gNm 8) tYesD (eCB tupleF (aCons (eLc (iSeqD (eVar 8)) (gNm 7) tYesD (eOp addF (eVar 7) (eVar 2)) [7]) aNil)) [8]) aNil))) aNil))))
  (sRet (eTup (aCons (eOp addF (eVar 2) (eOp ixF (eVar 1) (eC (.int 0)))) (aCons (eCB tupleF (aCons (eVar 3) aNil)) (aCons (eCB tupleF (aCons (eVar 6) aNil)) aNil))))))))))
def F_beside : FnD := fnD 2 9 (b_beside )
/-! ### marks_at -/
def b_marks_at  : FS :=
  (sRet (eCB tupleF (aCons (eLc (iRg1 (aCons (eCB lenF (aCons (eOp ixF (eVar 0) (eC (.int 1))) aNil)) aNil)) (gNm 2) (tVal (eOp (inF false) (eVar 1) (eOp ixF (eOp ixF (eVar 0) (eC (.int 1))) (eVar 2)))) (eVar 2) [2]) aNil)))
def F_marks_at : FnD := fnD 2 3 (b_marks_at )
/-! ### rounds_of_classes -/
def b_rounds_of_classes (G_marks_at : FnD) : FS :=
  (sSeq (sAsg (eLst (aCons (eLc (iRg1 (aCons (eOp ixF (eVar 0) (eC (.int 0))) aNil)) (gNm 7) tYesD (eCall G_marks_at (aCons (eVar 0) (aCons (eVar 7) aNil))) [7]) aNil)) (gNm 1))
  (sSeq (sAsg (eC (.int 0)) (gNm 2))
  (sSeq (sWhile (tVal (eOp (intF fun i j => .bl (decide (j < i))) (eLenSet (eOp ixF (eVar 1) (eC (.int (-1))))) (eVar 2))) (sSeq (sAsg (eLenSet (eOp ixF (eVar 1) (eC (.int (-1))))) (gNm 2))
  (sSeq (sAsg eDictN (gNm 3))
  (sSeq (sFor (iSeqD (eOp ixF (eVar 1) (eC (.int (-1))))) (gNm 4) (sDrop (eMtT sdfTF (eVar 3) (aCons (eVar 4) (aCons (eCB lenTF (aCons (eVar 3) aNil)) aNil)))))
  (sSeq (sAsg (eLc (iSeqD (eOp ixF (eVar 1) (eC (.int (-1))))) (gNm 4) tYesD (eOp ixTF (eVar 3) (eVar 4)) [4]) (gNm 5))
  (sSeq (sAsg (eLst aNil) (gNm 6))
  (sSeq (sFor (iRg1 (aCons (eOp ixF (eVar 0) (eC (.int 0))) aNil)) (gNm 7) (sSeq (sAsg (eLc (iSeqD (eOp ixF (eVar 0) (eC (.int 2)))) (gNm 9) tYesD (eCB tupleF (aCons (eSortSet (eLc (iSeqD (eOp ixF (eVar 9) (eVar 7))) (gNm 10) tYesD (eOp ixF (eVar 5) (eVar 10)) [10])) aNil)) [9]) (gNm 8))
  (sDrop (eMt "list" appF (eVar 6) (aCons (eOp addF (eTup (aCons (eOp ixF (eVar 5) (eVar 7)) aNil)) (eCB tupleF (aCons (eVar 8) aNil))) aNil)))))
  (sDrop (eMt "list" appF (eVar 1) (aCons (eVar 6) aNil))))))))))
  (sRet (eVar 1)))))
def F_rounds_of_classes : FnD := fnD 1 11 (b_rounds_of_classes F_marks_at)
/-! ### alike_places -/
def b_alike_places (G_rounds_of_classes : FnD) : FS :=
  (sSeq (sAsg (eOp ixF (eCall G_rounds_of_classes (aCons (eVar 0) aNil)) (eC (.int (-1)))) (gNm 1))
  (sSeq (sAsg eDictN (gNm 2))
  (sSeq (sFor (iRg1 (aCons (eOp ixF (eVar 0) (eC (.int 0))) aNil)) (gNm 3) (sAsg (eOp addF (eMtT getTF (eVar 2) (aCons (eOp ixF (eVar 1) (eVar 3)) (aCons (eTup aNil) aNil))) (eTup (aCons (eVar 3) aNil))) (gSubT (eVar 2) (eOp ixF (eVar 1) (eVar 3)))))
  (sRet (eCB tupleF (aCons (eCB sortRF (aCons (eVals (eVar 2)) aNil)) aNil))))))
def F_alike_places : FnD := fnD 1 4 (b_alike_places F_rounds_of_classes)
/-! ### folded_world -/
def b_folded_world (G_alike_places : FnD) : FS :=
  (sSeq (sAsg (eCall G_alike_places (aCons (eVar 0) aNil)) (gNm 1))
  (sSeq (sAsg eDict0 (gNm 2))
  (sSeq (sFor (iRg1 (aCons (eCB lenF (aCons (eVar 1) aNil)) aNil)) (gNm 3) (sDrop (eMt "dict" updF (eVar 2) (aCons (eDc (iSeqD (eOp ixF (eVar 1) (eVar 3))) (gNm 8) tYesD (eVar 8) (eVar 3) [8]) aNil))))
  (sSeq (sAsg (eLst aNil) (gNm 4))
  (sSeq (sFor (iSeqD (eOp ixF (eVar 0) (eC (.int 1)))) (gNm 5) (sDrop (eMt "list" appF (eVar 4) (aCons (eCB tupleF (aCons (eLc (iRg1 (aCons (eCB lenF (aCons (eVar 1) aNil)) aNil)) (gNm 3) (tVal (eOp (inF false) (eOp ixF (eOp ixF (eVar 1) (eVar 3)) (eC (.int 0))) (eVar 5))) (eVar 3) [3]) aNil)) aNil))))
  (sSeq (sAsg (eLst aNil) (gNm 6))
  (sSeq (sFor (iSeqD (eOp ixF (eVar 0) (eC (.int 2)))) (gNm 7) (sDrop (eMt "list" appF (eVar 6) (aCons (eCB tupleF (aCons (eLc (iSeqD (eVar 1)) (gNm 9) tYesD (eCB tupleF (aCons (eSortSet (eLc (iSeqD (eOp ixF (eVar 7) (eOp ixF (eVar 9) (eC (.int 0))))) (gNm 10) tYesD (eOp ixF (eVar 2) (eVar 10)) [10])) aNil)) [9]) aNil)) aNil))))
  (sRet (eTup (aCons (eCB lenF (aCons (eVar 1) aNil)) (aCons (eCB tupleF (aCons (eVar 4) aNil)) (aCons (eCB tupleF (aCons (eVar 6) aNil)) aNil))))))))))))
def F_folded_world : FnD := fnD 1 11 (b_folded_world F_alike_places)
end PG
namespace K35
open PySem L2 SD PG
/-! ### after_pairs -/
def b_after_pairs  : FS :=
  (sSeq (sAsg eDictN (gNm 2))
  (sSeq (sLockT 0 (sFor (iKeysT 0) (gTp 2 (gsCons (gNm 3) (gsCons (gNm 4) gsNil))) (sDrop (eMtT updTF (eVar 2) (aCons (eLockT 1 (eDcN (iKeysT 1) (gTp 2 (gsCons (gNm 5) (gsCons (gNm 6) gsNil))) (tVal (eOp (eqF false) (eVar 5) (eVar 4))) (eTup (aCons (eVar 3) (aCons (eVar 6) aNil))) (eC (.bl true)) [5, 6])) aNil)))))
  (sRet (eVar 2))))
def F_after_pairs : FnD := fnD 2 7 (b_after_pairs )
/-! ### found_pairs -/
def b_found_pairs (G_after_pairs : FnD) (G_found_pairs : FnD) : FS :=
  (sSeq (sAsg (eOp ixF (eVar 1) (eC (.int 0))) (gNm 2))
  (sSeq (sIf (tVal (eOp (eqF false) (eVar 2) (eC (.str "ask")))) (sRet (eDcN (iSeqD (eOp ixF (eOp ixF (eVar 0) (eC (.int 1))) (eOp ixF (eVar 1) (eC (.int 1))))) (gNm 4) tYesD (eTup (aCons (eVar 4) (aCons (eVar 4) aNil))) (eC (.bl true)) [4])) sNext)
  (sSeq (sIf (tVal (eOp (eqF false) (eVar 2) (eC (.str "deed")))) (sSeq (sAsg eDictN (gNm 3))
  (sSeq (sFor (iRg1 (aCons (eOp ixF (eVar 0) (eC (.int 0))) aNil)) (gNm 4) (sDrop (eMtT updTF (eVar 3) (aCons (eDcN (iSeqD (eOp ixF (eOp ixF (eOp ixF (eVar 0) (eC (.int 2))) (eOp ixF (eVar 1) (eC (.int 1)))) (eVar 4))) (gNm 8) tYesD (eTup (aCons (eVar 4) (aCons (eVar 8) aNil))) (eC (.bl true)) [8]) aNil))))
  (sRet (eVar 3)))) sNext)
  (sSeq (sAsg (eCall G_found_pairs (aCons (eVar 0) (aCons (eOp ixF (eVar 1) (eC (.int 1))) aNil))) (gNm 5))
  (sSeq (sIf (tVal (eOp (eqF false) (eVar 2) (eC (.str "again")))) (sSeq (sAsg (eDcN (iRg1 (aCons (eOp ixF (eVar 0) (eC (.int 0))) aNil)) (gNm 4) tYesD (eTup (aCons (eVar 4) (aCons (eVar 4) aNil))) (eC (.bl true)) [4]) (gNm 3))
  (sSeq (sAsg (eC (.int 0)) (gNm 6))
  (sSeq (sWhile (tVal (eOp (intF fun i j => .bl (decide (j < i))) (eCB lenTF (aCons (eVar 3) aNil)) (eVar 6))) (sSeq (sAsg (eCB lenTF (aCons (eVar 3) aNil)) (gNm 6))
  (sDrop (eMtT updTF (eVar 3) (aCons (eCall G_after_pairs (aCons (eVar 3) (aCons (eVar 5) aNil))) aNil)))))
  (sRet (eVar 3))))) sNext)
  (sSeq (sAsg (eCall G_found_pairs (aCons (eVar 0) (aCons (eOp ixF (eVar 1) (eC (.int 2))) aNil))) (gNm 7))
  (sSeq (sIf (tVal (eOp (eqF false) (eVar 2) (eC (.str "row")))) (sRet (eCall G_after_pairs (aCons (eVar 5) (aCons (eVar 7) aNil)))) sNext)
  (sSeq (sDrop (eMtT updTF (eVar 7) (aCons (eVar 5) aNil)))
  (sRet (eVar 7))))))))))
def F_found_pairs : Nat → FnD
  | 0 => fun _ _ _ => False
  | k + 1 => fnD 2 9 (b_found_pairs F_after_pairs (F_found_pairs k))
/-! ### led_pairs -/
def b_led_pairs (G_found_pairs : FnD) : FS :=
  (sRet (eCB sortRF (aCons (eCB listTF (aCons (eCall G_found_pairs (aCons (eVar 0) (aCons (eVar 1) aNil))) aNil)) aNil)))
def F_led_pairs : FnD := fnD 2 2 (b_led_pairs (F_found_pairs 12))
/-! ### raw_after -/
def b_raw_after (G_raw_after : FnD) : FS :=
  (sSeq (sAsg (eOp ixF (eVar 0) (eC (.int 0))) (gNm 3))
  (sSeq (sIf (tVal (eOp (eqF false) (eVar 3) (eC (.str "deed")))) (sRet (eTup (aCons (eC (.str "some")) (aCons (eOp ixF (eVar 0) (eC (.int 1))) (aCons (eVar 1) aNil))))) sNext)
  (sSeq (sIf (tVal (eOp (eqF false) (eVar 3) (eC (.str "ask")))) (sRet (eTup (aCons (eC (.str "both")) (aCons (eTup (aCons (eC (.str "is")) (aCons (eOp ixF (eVar 0) (eC (.int 1))) aNil))) (aCons (eVar 1) aNil))))) sNext)
  (sSeq (sIf (tVal (eOp (eqF false) (eVar 3) (eC (.str "alt")))) (sRet (eTup (aCons (eC (.str "either")) (aCons (eCall G_raw_after (aCons (eOp ixF (eVar 0) (eC (.int 1))) (aCons (eVar 1) (aCons (eVar 2) aNil)))) (aCons (eCall G_raw_after (aCons (eOp ixF (eVar 0) (eC (.int 2))) (aCons (eVar 1) (aCons (eVar 2) aNil)))) aNil))))) sNext)
  (sSeq (sIf (tVal (eOp (eqF false) (eVar 3) (eC (.str "row")))) (sRet (eCall G_raw_after (aCons (eOp ixF (eVar 0) (eC (.int 1))) (aCons (eCall G_raw_after (aCons (eOp ixF (eVar 0) (eC (.int 2))) (aCons (eVar 1) (aCons (eVar 2) aNil)))) (aCons (eVar 2) aNil))))) sNext)
  (sSeq (sDrop (eMt "list" appF (eVar 2) (aCons (eOp addF (eC (.int 20)) (eCB lenF (aCons (eVar 2) aNil))) aNil)))
  (sSeq (sAsg (eOp ixF (eVar 2) (eC (.int (-1)))) (gNm 4))
  (sRet (eTup (aCons (eC (.str "least")) (aCons (eVar 4) (aCons (eTup (aCons (eC (.str "either")) (aCons (eVar 1) (aCons (eCall G_raw_after (aCons (eOp ixF (eVar 0) (eC (.int 1))) (aCons (eTup (aCons (eC (.str "name")) (aCons (eVar 4) aNil))) (aCons (eVar 2) aNil)))) aNil)))) aNil))))))))))))
def F_raw_after : Nat → FnD
  | 0 => fun _ _ _ => False
  | k + 1 => fnD 3 5 (b_raw_after (F_raw_after k))
/-! ### named_anew -/
def b_named_anew (G_with_parts : FnD) (G_parts_of : FnD) (G_named_anew : FnD) (G_with_name : FnD) : FS :=
  (sSeq (sIf (tVal (eOp (eqF false) (eOp ixF (eVar 0) (eC (.int 0))) (eC (.str "name")))) (sRet (eTup (aCons (eC (.str "name")) (aCons (eGet2 (eVar 1) (eOp ixF (eVar 0) (eC (.int 1))) (eOp ixF (eVar 0) (eC (.int 1)))) aNil)))) sNext)
  (sSeq (sIf (tVal (eOp (inF false) (eOp ixF (eVar 0) (eC (.int 0))) (eC (.tup [.str "least", .str "greatest"])))) (sSeq (sIf (tVal (eOp (eqF false) (eCB lenF (aCons (eVar 2) aNil)) (eC (.int 0)))) (sRet (eC .non)) sNext)
  (sSeq (sAsg (eMt "list" pop0F (eVar 2) (aCons (eC (.int 0)) aNil)) (gNm 3))
  (sSeq (sAsg (eCall G_named_anew (aCons (eOp ixF (eVar 0) (eC (.int 2))) (aCons (eCall G_with_name (aCons (eVar 1) (aCons (eOp ixF (eVar 0) (eC (.int 1))) (aCons (eVar 3) aNil)))) (aCons (eVar 2) aNil)))) (gNm 4))
  (sRet (eIf (tVal (eIsN (eVar 4))) (eC .non) (eTup (aCons (eOp ixF (eVar 0) (eC (.int 0))) (aCons (eVar 3) (aCons (eVar 4) aNil))))))))) sNext)
  (sSeq (sAsg (eLst aNil) (gNm 5))
  (sSeq (sFor (iSeqD (eCall G_parts_of (aCons (eVar 0) aNil))) (gNm 6) (sDrop (eMt "list" appF (eVar 5) (aCons (eCall G_named_anew (aCons (eVar 6) (aCons (eVar 1) (aCons (eVar 2) aNil)))) aNil))))
  (sRet (eIf (tVal (eOp inPF (eC .non) (eVar 5))) (eC .non) (eCall G_with_parts (aCons (eVar 0) (aCons (eVar 5) aNil)))))))))
def F_named_anew : Nat → FnD
  | 0 => fun _ _ _ => False
  | k + 1 => fnD 3 7 (b_named_anew F_with_parts F_parts_of (F_named_anew k) F_with_name)
/-! ### free_in -/
def b_free_in (G_parts_of : FnD) (G_free_in : FnD) : FS :=
  (sSeq (sIf (tVal (eOp (eqF false) (eOp ixF (eVar 0) (eC (.int 0))) (eC (.str "name")))) (sRet (eIf (tVal (eOp (inF false) (eOp ixF (eVar 0) (eC (.int 1))) (eVar 1))) eDict0 (eDispD (((eOp ixF (eVar 0) (eC (.int 1))), (eC (.bl true))) :: [])))) sNext)
  (sSeq (sAsg (eIf (tVal (eOp (inF false) (eOp ixF (eVar 0) (eC (.int 0))) (eC (.tup [.str "least", .str "greatest"])))) (eOp addF (eVar 1) (eTup (aCons (eOp ixF (eVar 0) (eC (.int 1))) aNil))) (eVar 1)) (gNm 2))
  (sSeq (sAsg eDict0 (gNm 3))
  (sSeq (sFor (iSeqD (eCall G_parts_of (aCons (eVar 0) aNil))) (gNm 4) (sDrop (eMt "dict" updF (eVar 3) (aCons (eCall G_free_in (aCons (eVar 4) (aCons (eVar 2) aNil))) aNil))))
  (sRet (eVar 3))))))
def F_free_in : Nat → FnD
  | 0 => fun _ _ _ => False
  | k + 1 => fnD 2 5 (b_free_in F_parts_of (F_free_in k))
/-! ### some_after -/
def b_some_after (G_named_anew : FnD) (G_free_in : FnD) (G_raw_after : FnD) : FS :=
  (sSeq (sAsg (eCall G_raw_after (aCons (eVar 0) (aCons (eVar 1) (aCons (eLst aNil) aNil)))) (gNm 2))
  (sSeq (sAsg (eCall G_free_in (aCons (eVar 1) (aCons (eTup aNil) aNil))) (gNm 3))
  (sRet (eCall G_named_anew (aCons (eVar 2) (aCons eDict0 (aCons (eLc (iRg1 (aCons (eC (.int 20)) aNil)) (gNm 4) (tVal (eOp (inF true) (eVar 4) (eVar 3))) (eVar 4) [4]) aNil)))))))
def F_some_after : FnD := fnD 2 5 (b_some_after (F_named_anew 24) (F_free_in 12) (F_raw_after 12))
/-! ### _law_term -/
def b__law_term (G__law_term : FnD) (G__law_draw : FnD) : FS :=
  (sSeq (sAsg (eIf (tVal (eOp (intF fun i j => .bl (decide (j < i))) (eVar 2) (eC (.int 0)))) (eCall G__law_draw (aCons (eVar 0) (aCons (eC (.int 8)) aNil))) (eCall G__law_draw (aCons (eVar 0) (aCons (eC (.int 3)) aNil)))) (gNm 3))
  (sSeq (sIf (tVal (eOp (intF fun i j => .bl (decide (i < j))) (eVar 3) (eC (.int 2)))) (sRet (eTup (aCons (eC (.str "deed")) (aCons (eCall G__law_draw (aCons (eVar 0) (aCons (eOp ixF (eVar 1) (eC (.int 1))) aNil))) aNil)))) sNext)
  (sSeq (sIf (tVal (eOp (eqF false) (eVar 3) (eC (.int 2)))) (sRet (eTup (aCons (eC (.str "ask")) (aCons (eCall G__law_draw (aCons (eVar 0) (aCons (eOp ixF (eVar 1) (eC (.int 0))) aNil))) aNil)))) sNext)
  (sSeq (sIf (tVal (eOp (intF fun i j => .bl (decide (i < j))) (eVar 3) (eC (.int 5)))) (sRet (eTup (aCons (eC (.str "alt")) (aCons (eCall G__law_term (aCons (eVar 0) (aCons (eVar 1) (aCons (eOp (intF fun i j => .int (i - j)) (eVar 2) (eC (.int 1))) aNil)))) (aCons (eCall G__law_term (aCons (eVar 0) (aCons (eVar 1) (aCons (eOp (intF fun i j => .int (i - j)) (eVar 2) (eC (.int 1))) aNil)))) aNil))))) sNext)
  (sSeq (sIf (tVal (eOp (intF fun i j => .bl (decide (i < j))) (eVar 3) (eC (.int 7)))) (sRet (eTup (aCons (eC (.str "row")) (aCons (eCall G__law_term (aCons (eVar 0) (aCons (eVar 1) (aCons (eOp (intF fun i j => .int (i - j)) (eVar 2) (eC (.int 1))) aNil)))) (aCons (eCall G__law_term (aCons (eVar 0) (aCons (eVar 1) (aCons (eOp (intF fun i j => .int (i - j)) (eVar 2) (eC (.int 1))) aNil)))) aNil))))) sNext)
  (sRet (eTup (aCons (eC (.str "again")) (aCons (eTup (aCons (eC (.str "row")) (aCons (eTup (aCons (eC (.str "deed")) (aCons (eCall G__law_draw (aCons (eVar 0) (aCons (eOp ixF (eVar 1) (eC (.int 1))) aNil))) aNil))) (aCons (eCall G__law_term (aCons (eVar 0) (aCons (eVar 1) (aCons (eOp (intF fun i j => .int (i - j)) (eVar 2) (eC (.int 1))) aNil)))) aNil)))) aNil)))))))))
def F__law_term : Nat → FnD
  | 0 => fun _ _ _ => False
  | k + 1 => fnD 3 4 (b__law_term (F__law_term k) F__law_draw)
/-! ### law -/
def b_law (G__law_same : FnD) (G_places_where : FnD) (G_led_pairs : FnD) (G_some_after : FnD) (G__law_drawn : FnD) (G_folded_world : FnD) (G_alike_places : FnD) (G_beside : FnD) (G__law_world : FnD) (G__law_term : FnD) (G__law_draw : FnD) (G__law_pool : FnD) : FS :=
  (sSeq (sAsg (eCall G__law_pool (aCons (eVar 0) aNil)) (gNm 1))
  (sSeq (sAsg (eOp ixF (eTup (aCons (eTup (aCons (eC (.int 1)) (aCons (eC (.int 1)) aNil))) (aCons (eTup (aCons (eC (.int 2)) (aCons (eC (.int 1)) aNil))) (aCons (eTup (aCons (eC (.int 1)) (aCons (eC (.int 2)) aNil))) aNil)))) (eCall G__law_draw (aCons (eVar 1) (aCons (eC (.int 3)) aNil)))) (gNm 2))
  (sSeq (sAsg (eCall G__law_term (aCons (eVar 1) (aCons (eVar 2) (aCons (eC (.int 2)) aNil)))) (gNm 3))
  (sSeq (sPar 4 5 (aCons (eCall G__law_world (aCons (eVar 1) (aCons (eVar 2) (aCons (eC (.int 4)) aNil)))) (aCons (eCall G__law_world (aCons (eVar 1) (aCons (eVar 2) (aCons (eC (.int 3)) aNil)))) aNil)))
  (sSeq (sAsg (eOp ixF (eVar 4) (eC (.int 0))) (gNm 6))
  (sSeq (sAsg (eCall G_beside (aCons (eVar 4) (aCons (eVar 5) aNil))) (gNm 7))
  (sSeq (sIf (tNotD (tVal (eCall G__law_same (aCons (eCall G_led_pairs (aCons (eVar 7) (aCons (eVar 3) aNil))) (aCons (eOp addF (eCall G_led_pairs (aCons (eVar 4) (aCons (eVar 3) aNil))) (eLc (iSeqD (eCall G_led_pairs (aCons (eVar 5) (aCons (eVar 3) aNil)))) (gTp 2 (gsCons (gNm 17) (gsCons (gNm 18) gsNil))) tYesD (eTup (aCons (eOp addF (eVar 6) (eVar 17)) (aCons (eOp addF (eVar 6) (eVar 18)) aNil))) [17, 18])) aNil))))) (sRet (eC (.bl false))) sNext)
  (sSeq (sAsg (eCall G_alike_places (aCons (eVar 7) aNil)) (gNm 8))
  (sSeq (sAsg eDict0 (gNm 9))
  (sSeq (sFor (iRg1 (aCons (eCB lenF (aCons (eVar 8) aNil)) aNil)) (gNm 10) (sFor (iSeqD (eOp ixF (eVar 8) (eVar 10))) (gNm 11) (sAsg (eVar 10) (gSubD (eVar 9) (eVar 11)))))
  (sSeq (sAsg (eCall G_folded_world (aCons (eVar 7) aNil)) (gNm 12))
  (sSeq (sIf (tNotD (tVal (eCall G__law_same (aCons (eCall G_led_pairs (aCons (eVar 12) (aCons (eVar 3) aNil))) (aCons (eSortSetP (eLc (iSeqD (eCall G_led_pairs (aCons (eVar 7) (aCons (eVar 3) aNil)))) (gTp 2 (gsCons (gNm 17) (gsCons (gNm 18) gsNil))) tYesD (eTup (aCons (eOp ixF (eVar 9) (eVar 17)) (aCons (eOp ixF (eVar 9) (eVar 18)) aNil))) [17, 18])) aNil))))) (sRet (eC (.bl false))) sNext)
  (sSeq (sAsg (eCall G__law_drawn (aCons (eVar 1) (aCons (eVar 2) (aCons (eC (.int 1)) aNil)))) (gNm 13))
  (sSeq (sAsg (eCall G_some_after (aCons (eVar 3) (aCons (eVar 13) aNil))) (gNm 14))
  (sSeq (sIf (tVal (eIsN (eVar 14))) (sRet (eC (.bl true))) sNext)
  (sSeq (sAsg (eCall G_places_where (aCons (eVar 7) (aCons (eVar 13) aNil))) (gNm 15))
  (sSeq (sAsg (eCB tupleF (aCons (eSortSet (eLc (iSeqD (eCall G_led_pairs (aCons (eVar 7) (aCons (eVar 3) aNil)))) (gTp 2 (gsCons (gNm 17) (gsCons (gNm 18) gsNil))) (tVal (eOp (inF false) (eVar 18) (eVar 15))) (eVar 17) [17, 18])) aNil)) (gNm 16))
  (sRet (eCall G__law_same (aCons (eLst (aCons (eCall G_places_where (aCons (eVar 7) (aCons (eVar 14) aNil))) (aCons (eCall G_places_where (aCons (eVar 12) (aCons (eVar 14) aNil))) aNil))) (aCons (eLst (aCons (eVar 16) (aCons (eCB tupleF (aCons (eSortSet (eLc (iSeqD (eVar 16)) (gNm 17) tYesD (eOp ixF (eVar 9) (eVar 17)) [17])) aNil)) aNil))) aNil)))))))))))))))))))))
def F_law : FnD := fnD 1 19 (b_law (F__law_same 4) F_places_where F_led_pairs F_some_after F__law_drawn F_folded_world F_alike_places F_beside F__law_world (F__law_term 12) F__law_draw F__law_pool)

end K35
/-! KS35a: terms, drawn; the pairs they lead over. -/
namespace K35
open PySem L2 SD PG
inductive Tm where
  | deed (j : Nat) | ask (i : Nat) | alt (a b : Tm) | row (a b : Tm) | again (a : Tm)
def encT : Tm → D
  | .deed j => .tup [.str "deed", .int (j : Nat)]
  | .ask i => .tup [.str "ask", .int (i : Nat)]
  | .alt a b => .tup [.str "alt", encT a, encT b]
  | .row a b => .tup [.str "row", encT a, encT b]
  | .again a => .tup [.str "again", encT a]
def Tm.dp : Tm → Nat
  | .alt a b => max a.dp b.dp + 1
  | .row a b => max a.dp b.dp + 1
  | .again a => a.dp + 1
  | _ => 1
/-- how much deeper a saying gets by the term -/
def Tm.gw : Tm → Nat
  | .alt a b => max a.gw b.gw + 1
  | .row a b => a.gw + b.gw
  | .again a => a.gw + 2
  | _ => 1
def OkT (L0 L1 : Nat) : Tm → Prop
  | .deed j => j < L1
  | .ask i => i < L0
  | .alt a b => OkT L0 L1 a ∧ OkT L0 L1 b
  | .row a b => OkT L0 L1 a ∧ OkT L0 L1 b
  | .again a => OkT L0 L1 a
def gwD : Nat → Nat
  | 0 => 1
  | d + 1 => max (2 * gwD d) (gwD d + 3)
theorem gwD_pos : ∀ d, 1 ≤ gwD d
  | 0 => Nat.le_refl _
  | d + 1 => by have := gwD_pos d; rw [gwD]; omega
theorem term_spec {L0 L1 : Nat} (l1 : 1 ≤ L0) (l2 : L0 ≤ 1000) (m1 : 1 ≤ L1) (m2 : L1 ≤ 1000) : ∀ (k d p q : Nat) (S : Store) (Q : PD), d < k → PoolOk p q S →
    (∀ S' t, OkT L0 L1 t → t.dp ≤ 2 * d + 1 → t.gw ≤ gwD d → PoolOk p q S' → ExtB [p] S S' → Q (encT t) S') →
    F__law_term k [.ref p, .tup [.int (L0 : Nat), .int (L1 : Nat)], .int (d : Nat)] S Q
  | 0, _, _, _, _, _, h, _, _ => absurd h (Nat.not_lt_zero _)
  | k + 1, d, p, q, S, Q, hd, P, h => by
    refine r_fn rfl ?_
    unfold b__law_term
    have one := gwD_pos d
    with_reducible refine r_cut (fun σ S' => ∃ r : Nat, (r < 3 ∨ (r < 8 ∧ 0 < d)) ∧ PoolOk p q S' ∧ ExtB [p] S S' ∧ σ = [some (.ref p), some (.tup [.int (L0 : Nat), .int (L1 : Nat)]), some (.int (d : Nat)), some (.int (r : Nat))]) ?_ fun T hT => ?_
    · rintro σ S1 ⟨r, hr, P1, e1, rfl⟩
      walk_at "s"
      by_cases c0 : r < 2
      · refine r_ifT (decide_eq_true (by omega)) ?_
        walk_at "s"
        refine draw_spec P1 (by omega) (by omega) fun S2 j hj P2 o2 => ?_
        walk_at "s"
        exact h S2 (.deed j) (by show j < L1; omega) (by show 1 ≤ _; omega) one P2 (e1.trans (o2.b (by simp)))
      refine r_ifF (decide_eq_false (by omega)) ?_
      walk_at "s"
      by_cases c1 : r = 2
      · refine r_ifT (decide_eq_true (by omega)) ?_
        walk_at "s"
        refine draw_spec P1 (by omega) (by omega) fun S2 j hj P2 o2 => ?_
        walk_at "s"
        exact h S2 (.ask j) (by show j < L0; omega) (by show 1 ≤ _; omega) one P2 (e1.trans (o2.b (by simp)))
      refine r_ifF (decide_eq_false (by omega)) ?_
      walk_at "s"
      obtain ⟨d', rfl⟩ : ∃ d', d = d' + 1 := ⟨d - 1, by omega⟩
      have ed : ((d' + 1 : Nat) : Int) - 1 = (d' : Nat) := by omega
      have eg : gwD (d' + 1) = max (2 * gwD d') (gwD d' + 3) := rfl
      have one' := gwD_pos d'
      by_cases c2 : r < 5
      · refine r_ifT (decide_eq_true (by omega)) ?_
        walk_at "s"
        rw [ed]
        refine term_spec l1 l2 m1 m2 k d' p q S1 _ (by omega) P1 fun S2 t1 a1 a2 a3 P2 e2 => ?_
        walk_at "s"
        rw [ed]
        refine term_spec l1 l2 m1 m2 k d' p q S2 _ (by omega) P2 fun S3 t2 b1 b2 b3 P3 e3 => ?_
        walk_at "s"
        exact h S3 (.alt t1 t2) ⟨a1, b1⟩ (by show max _ _ + 1 ≤ _; omega) (by show max _ _ + 1 ≤ _; omega) P3 ((e1.trans e2).trans e3)
      refine r_ifF (decide_eq_false (by omega)) ?_
      walk_at "s"
      by_cases c3 : r < 7
      · refine r_ifT (decide_eq_true (by omega)) ?_
        walk_at "s"
        rw [ed]
        refine term_spec l1 l2 m1 m2 k d' p q S1 _ (by omega) P1 fun S2 t1 a1 a2 a3 P2 e2 => ?_
        walk_at "s"
        rw [ed]
        refine term_spec l1 l2 m1 m2 k d' p q S2 _ (by omega) P2 fun S3 t2 b1 b2 b3 P3 e3 => ?_
        walk_at "s"
        exact h S3 (.row t1 t2) ⟨a1, b1⟩ (by show max _ _ + 1 ≤ _; omega) (by show _ + _ ≤ _; omega) P3 ((e1.trans e2).trans e3)
      refine r_ifF (decide_eq_false (by omega)) ?_
      walk_at "s"
      refine draw_spec P1 (by omega) (by omega) fun S2 j hj P2 o2 => ?_
      walk_at "s"
      rw [ed]
      refine term_spec l1 l2 m1 m2 k d' p q S2 _ (by omega) P2 fun S3 t2 b1 b2 b3 P3 e3 => ?_
      walk_at "s"
      exact h S3 (.again (.row (.deed j) t2)) ⟨by show j < L1; omega, b1⟩ (by show max 1 _ + 1 + 1 ≤ _; omega) (by show 1 + _ + 2 ≤ _; omega) P3 ((e1.trans (o2.b (by simp))).trans e3)
    · walk_at "s"
      refine ite_b (fun hb => ?_) (fun hb => ?_)
      · have hb := of_decide_eq_true hb
        walk_at "s"
        refine draw_spec P (by decide) (by decide) fun S1 r hr P1 o1 => ?_
        walk_at "s"
        exact hT _ _ ⟨r, .inr ⟨by omega, by omega⟩, P1, o1.b (by simp), rfl⟩
      · walk_at "s"
        refine draw_spec P (by decide) (by decide) fun S1 r hr P1 o1 => ?_
        walk_at "s"
        exact hT _ _ ⟨r, .inl (by omega), P1, o1.b (by simp), rfl⟩
end K35
/-! KS35b: the pairs a term leads over. -/
namespace K35
open PySem L2 SD PG
/-- the wish for pairs -/
def PWish (S : Store) (R : Nat → Nat → Prop) (Q : PD) : Prop := ∀ S' r ks, Ext S S' → S.length ≤ r → S'[r]? = some (.tdc (setG pqD ks)) → ks.Nodup → (∀ a b, (a, b) ∈ ks ↔ R a b) → Q (.ref r) S'
def Small (ks : List Pr) : Prop := ∀ p ∈ ks, p.1 < 8 ∧ p.2 < 8
theorem Small.len {ks : List Pr} (h : Small ks) (nd : ks.Nodup) : ks.length ≤ 64 := by
  have := subset_len (ls := few8) nd fun p hp => mem_few8 (h p hp).1 (h p hp).2
  exact Nat.le_trans this (by decide)
theorem merge_sz {a b : Nat} (h1 : a ≤ 64) (h2 : b ≤ 64) : a + b ≤ sizeLine := by simp only [sizeLine]; omega
theorem pr_eta {p : Pr} {a b : Nat} (h1 : a = p.1) (h2 : b = p.2) : (a, b) = p := by subst h1 h2; rfl
theorem after_pairs_spec {k1 k2 : List Pr} {r1 r2 : Nat} {S : Store} {Q : PD} (ne : r1 ≠ r2) (h1 : S[r1]? = some (.tdc (setG pqD k1))) (h2 : S[r2]? = some (.tdc (setG pqD k2))) (s1 : Small k1) (s2 : Small k2) (n1 : k1.Nodup) (n2 : k2.Nodup)
    (h : PWish S (fun a b => ∃ c, (a, c) ∈ k1 ∧ (c, b) ∈ k2) Q) : F_after_pairs [.ref r1, .ref r2] S Q := by
  refine r_fn rfl ?_
  unfold b_after_pairs
  have l1 : r1 < S.length := (List.getElem?_eq_some_iff.mp h1).1
  have l2 : r2 < S.length := (List.getElem?_eq_some_iff.mp h2).1
  walk_at "s"
  have g1 : (S ++ [Cell.tdc []])[r1]? = some (.tdc (setG pqD k1)) := Ext.app S _ _ _ h1
  have g2 : (S ++ [Cell.tdc []])[r2]? = some (.tdc (setG pqD k2)) := Ext.app S _ _ _ h2
  refine r_sLockT rfl g1 ?_
  generalize hB : (S ++ [Cell.tdc []]).set r1 (.tlk (setG pqD k1)) = B
  have b0 : B[S.length]? = some (.tdc (setG pqD [])) := by rw [← hB, set_off (by omega)]; exact new_at S _
  have b1 : B[r1]? = some (.tlk (setG pqD k1)) := by rw [← hB]; exact set_at g1
  have b2 : B[r2]? = some (.tdc (setG pqD k2)) := by rw [← hB, set_off ne]; exact g2
  have bl : B.length = S.length + 1 := by rw [← hB, List.length_set, List.length_append]; rfl
  walk_at "s"
  refine r_keysT rfl b1 ?_
  rw [setG_keys]
  refine for_inv (fun i σ S' => ∃ (s3 s4 : Option D) (ks : List Pr), σ = [some (.ref r1), some (.ref r2), some (.ref S.length), s3, s4, none, none] ∧ ExtB [S.length] B S' ∧ S'[S.length]? = some (.tdc (setG pqD ks)) ∧ ks.Nodup ∧ Small ks ∧ ∀ a b, (a, b) ∈ ks ↔ ∃ c, (a, c) ∈ k1.take i ∧ (c, b) ∈ k2) ?_ ?_ ?_
  · exact ⟨_, _, [], rfl, .refl _ _, b0, .nil, fun p hp => (by cases hp), fun a b => by simp⟩
  · rintro i x σ S1 R hx ⟨s3, s4, ks, rfl, e1, c0, nd, sm, mm⟩ hR
    refine ⟨e1.2 r1 (by simp; omega) _ b1, ?_⟩
    rw [List.getElem?_map] at hx
    cases hq : k1[i]? with
    | none => rw [hq] at hx; cases hx
    | some q =>
      rw [hq] at hx
      cases hx
      obtain ⟨u, v⟩ := q
      have hi : i < k1.length := (List.getElem?_eq_some_iff.mp hq).1
      have hm : (u, v) ∈ k1 := List.mem_of_getElem? hq
      have tk : k1.take (i + 1) = k1.take i ++ [(u, v)] := by rw [List.take_add_one, hq]; rfl
      have c2 := e1.2 r2 (by simp; omega) _ b2
      walk_at "s"
      refine r_tyT c0 ?_
      walk_at "s"
      refine r_lockT rfl c2 ?_
      walk_at "s"
      refine r_keysT rfl (set_at c2) ?_
      intro few
      rw [setG_keys]
      have ll := s2.len n2
      refine dcN_set pqD_inj k2 pqD (fun q => (u, q.2)) (fun q => decide (q.1 = v)) (by simp only [sizeLine]; omega) (fun S2 e2 => e2 _ _ (set_at c2)) (fun _ _ => rfl) ?_ ?_
      · rintro ⟨x, y⟩ hxy S2 R2 RK e2 hF hT
        walk_at "s"
        refine ite_b (fun hb => ?_) (fun hb => ?_)
        · have hb := of_decide_eq_true hb
          walk_at "s"
          exact hT (decide_eq_true (by show x = v; omega)) S2 (.refl _)
        · have hb := of_decide_eq_false hb
          exact hF (decide_eq_false (by show ¬ x = v; omega)) S2 (.refl _)
      · intro S2 ls e2 f2 nd2 mm2
        have sl : (S1.set r2 (.tlk (setG pqD k2))).length = S1.length := List.length_set
        rw [sl] at f2 ⊢
        have l3 : S1.length < S2.length := (List.getElem?_eq_some_iff.mp f2).1
        have l4 : S.length < S1.length := by have := e1.1; omega
        refine ⟨e2 _ _ (set_at c2), ?_⟩
        have e3 : Ext S1 (S2.set r2 (.tdc (setG pqD k2))) := unlock_ext c2 e2
        have f3 : (S2.set r2 (.tdc (setG pqD k2)))[S1.length]? = some (.tdc (setG pqD ls)) := by rw [set_off (by omega)]; exact f2
        generalize S2.set r2 (.tdc (setG pqD k2)) = S3 at e3 f3
        have sls : Small ls := fun p hp => by
          obtain ⟨q, hq, _, rfl⟩ := (mm2 p).mp hp
          exact ⟨(s1 _ hm).1, (s2 q hq).2⟩
        walk_at "s"
        refine r_updT (by omega) (e3 _ _ c0) (tdD_at f3) (by rw [setG_length, setG_length]; exact merge_sz (sm.len nd) (sls.len nd2)) (.inr (pr_hashOk nd2 sls)) fun S4 q4 o4 => ?_
        obtain ⟨ms, g1, g2, g3⟩ := setG_merge pqD_inj ks ls
        rw [g1] at q4
        walk_at "s"
        refine hR _ _ ⟨_, _, ms, rfl, (e1.trans (e3.b _)).trans (o4.b (by simp)), q4, g2 nd, fun p hp => ?_, fun a b => ?_⟩
        · rcases (g3 p).mp hp with z | z
          · exact sm p z
          · exact sls p z
        · rw [g3, mm, mm2, tk]
          constructor
          · rintro (⟨c, a1, a2⟩ | ⟨q, a1, a2, a3⟩)
            · exact ⟨c, List.mem_append.mpr (.inl a1), a2⟩
            · have a2 := of_decide_eq_true a2
              have e1 : u = a := congrArg Prod.fst a3
              have e2 : q.2 = b := congrArg Prod.snd a3
              subst e1 e2
              refine ⟨v, by simp, ?_⟩
              rw [← a2]; exact a1
          · rintro ⟨c, a1, a2⟩
            rcases List.mem_append.mp a1 with a1 | a1
            · exact .inl ⟨c, a1, a2⟩
            · rw [List.mem_singleton] at a1
              have e1 : a = u := congrArg Prod.fst a1
              have e2 : c = v := congrArg Prod.snd a1
              subst e1 e2
              exact .inr ⟨(c, b), a2, decide_eq_true rfl, rfl⟩
  · rintro σ S1 ⟨s3, s4, ks, rfl, e1, c0, nd, sm, mm⟩
    rw [List.length_map, List.take_length] at mm
    have c1 := e1.2 r1 (by simp; omega) _ b1
    refine ⟨c1, c1, ?_⟩
    have e4 : ExtB [S.length] (S ++ [Cell.tdc []]) (S1.set r1 (.tdc (setG pqD k1))) := by
      rw [← hB] at e1
      exact unlock_extB (by simp; omega) g1 e1
    have c3 : (S1.set r1 (.tdc (setG pqD k1)))[S.length]? = some (.tdc (setG pqD ks)) := by rw [set_off (by omega)]; exact c0
    walk_at "s"
    refine h _ S.length ks (fun j c hc => ?_) (Nat.le_refl _) c3 nd mm
    have : j < S.length := (List.getElem?_eq_some_iff.mp hc).1
    exact e4.2 j (by simp; omega) c (Ext.app S _ _ _ hc)
end K35
/-! KS35c: found_pairs, led_pairs. -/
namespace K35
open PySem L2 SD PG
inductive Star (R : Nat → Nat → Prop) (a : Nat) : Nat → Prop
  | refl : Star R a a
  | snoc {b c : Nat} : Star R a b → R b c → Star R a c
def rel (w : Wd) : Tm → Nat → Nat → Prop
  | .deed j, a, b => b ∈ w.way j a
  | .ask i, a, b => a = b ∧ a ∈ w.marks.getD i []
  | .alt s t, a, b => rel w s a b ∨ rel w t a b
  | .row s t, a, b => ∃ c, rel w s a c ∧ rel w t c b
  | .again s, a, b => a < w.n ∧ Star (rel w s) a b
theorem way_lt1 {L0 L1 : Nat} {w : Wd} (hw : OkW L0 L1 w) {j k g : Nat} (h : g ∈ w.way j k) : k < w.n := by
  unfold Wd.way at h
  rw [List.getD_eq_getElem?_getD, List.getD_eq_getElem?_getD] at h
  cases e : w.ways[j]? with
  | none => rw [e] at h; simp at h
  | some r =>
    rw [e, Option.getD_some] at h
    have hl := hw.rows r (List.mem_of_getElem? e)
    cases e2 : r[k]? with
    | none => rw [e2] at h; simp at h
    | some ks => rw [← hl]; exact (List.getElem?_eq_some_iff.mp e2).1
theorem mark_lt {L0 L1 : Nat} {w : Wd} (hw : OkW L0 L1 w) {i k : Nat} (h : k ∈ w.marks.getD i []) : k < w.n := by
  rw [List.getD_eq_getElem?_getD] at h
  cases e : w.marks[i]? with
  | none => rw [e] at h; simp at h
  | some m => rw [e, Option.getD_some] at h; exact (hw.mark m (List.mem_of_getElem? e)).2 k h
theorem rel_lt {L0 L1 : Nat} {w : Wd} (hw : OkW L0 L1 w) : ∀ (t : Tm) (a b : Nat), rel w t a b → a < w.n ∧ b < w.n
  | .deed j, a, b, h => ⟨way_lt1 hw h, w.way_lt hw h⟩
  | .ask i, a, b, h => ⟨mark_lt hw h.2, h.1 ▸ mark_lt hw h.2⟩
  | .alt s t, a, b, h => h.elim (rel_lt hw s a b) (rel_lt hw t a b)
  | .row s t, a, b, ⟨c, h1, h2⟩ => ⟨(rel_lt hw s a c h1).1, (rel_lt hw t c b h2).2⟩
  | .again s, a, b, ⟨h1, h2⟩ => ⟨h1, by
    induction h2 with
    | refl => exact h1
    | snoc _ h _ => exact (rel_lt hw s _ _ h).2⟩
theorem small_rel {L0 L1 : Nat} {w : Wd} (hw : OkW L0 L1 w) (hn : w.n ≤ 8) {t : Tm} {ks : List Pr} (h : ∀ a b, (a, b) ∈ ks ↔ rel w t a b) : Small ks := fun p hp => by
  have := rel_lt hw t p.1 p.2 ((h p.1 p.2).mp hp)
  omega
theorem found_pairs_spec {L0 L1 : Nat} {w : Wd} (hw : OkW L0 L1 w) (hn : w.n ≤ 8) : ∀ (k : Nat) (t : Tm) (S : Store) (Q : PD), t.dp ≤ k → OkT L0 L1 t → PWish S (rel w t) Q → F_found_pairs k [encW w, encT t] S Q
  | 0, t, _, _, hd, _, _ => by cases t <;> simp [Tm.dp] at hd
  | k + 1, t, S, Q, hd, ht, hQ => by
    refine r_fn rfl ?_
    unfold b_found_pairs
    cases t with
    | ask i =>
      obtain ⟨m1, m2⟩ := mark_at hw (show i < L0 from ht)
      have hl := m2.le
      walk_at "s"
      refine r_iTup ?_
      walk_at "s"
      refine r_ixT m1 ?_
      refine ⟨_, rfl, ?_⟩
      intro few
      refine dcN_set pqD_inj (w.marks.getD i []) (fun k : Nat => .int (k : Nat)) (fun k => (k, k)) (fun _ => true) (by simp only [sizeLine]; omega) (fun _ _ => trivial) (fun _ _ => rfl) ?_ ?_
      · intro x hx S1 R1 RK e1 hF hT
        walk_at "s"
        exact hT rfl _ (.refl _)
      · intro S1 ks e1 h1 nd mm
        refine hQ S1 _ ks e1 (Nat.le_refl _) h1 nd fun a b => ?_
        rw [mm]
        constructor
        · rintro ⟨x, h1, _, h3⟩
          have e1 : x = a := congrArg Prod.fst h3
          have e2 : x = b := congrArg Prod.snd h3
          subst e1 e2
          exact ⟨rfl, h1⟩
        · rintro ⟨rfl, h⟩
          exact ⟨a, h, rfl, rfl⟩
    | deed j =>
      obtain ⟨rr, m1, m2, m3⟩ := way_at hw (show j < L1 from ht)
      walk_at "s"
      refine r_rg (by omega) (by omega) ?_
      rw [rng_map']
      refine for_inv (fun i σ S' => ∃ (s4 : Option D) (ks : List Pr), σ = [some (encW w), some (encT (.deed j)), some (.str "deed"), some (.ref S.length), s4, none, none, none, none] ∧ Ext S S' ∧ S'[S.length]? = some (.tdc (setG pqD ks)) ∧ ks.Nodup ∧ ∀ a b, (a, b) ∈ ks ↔ a < i ∧ b ∈ w.way j a) ?_ ?_ ?_
      · exact ⟨_, [], rfl, Ext.app S _, new_at S _, .nil, fun a b => by simp⟩
      · rintro i x σ S1 R hx ⟨s4, ks, rfl, e1, c0, nd, mm⟩ hR
        refine ⟨trivial, ?_⟩
        rw [List.getElem?_map] at hx
        cases hq : (List.range w.n)[i]? with
        | none => rw [hq] at hx; cases hx
        | some q =>
          rw [hq] at hx
          cases hx
          have hi : i < w.n := by have := (List.getElem?_eq_some_iff.mp hq).1; simpa using this
          have : q = i := by rw [List.getElem?_range hi] at hq; cases hq; rfl
          subst this
          obtain ⟨m4, m5⟩ := m3 q hi
          have hl := m5.le
          have sm : Small ks := fun p hp => by
            have := (mm p.1 p.2).mp hp
            have := w.way_lt hw this.2
            omega
          walk_at "s"
          refine r_tyT c0 ?_
          walk_at "s"
          refine r_iTup ?_
          walk_at "s"
          refine r_ixT m1 ?_
          walk_at "s"
          refine r_ixT m4 ?_
          refine ⟨_, rfl, ?_⟩
          intro few
          refine dcN_set pqD_inj (w.way j q) (fun k : Nat => .int (k : Nat)) (fun k => (q, k)) (fun _ => true) (by simp only [sizeLine]; omega) (fun _ _ => trivial) (fun _ _ => rfl) ?_ ?_
          · intro x hx S2 R1 RK e1 hF hT
            walk_at "s"
            exact hT rfl _ (.refl _)
          · intro S2 ls e2 f2 nd2 mm2
            have l1 : S.length < S1.length := (List.getElem?_eq_some_iff.mp c0).1
            have sls : Small ls := fun p hp => by
              obtain ⟨x, hx, _, rfl⟩ := (mm2 p).mp hp
              have := w.way_lt hw hx
              show q < 8 ∧ x < 8
              omega
            walk_at "s"
            refine r_updT (by omega) (e2 _ _ c0) (tdD_at f2) (by rw [setG_length, setG_length]; exact merge_sz (sm.len nd) (sls.len nd2)) (.inr (pr_hashOk nd2 sls)) fun S4 q4 o4 => ?_
            obtain ⟨ms, g1, g2, g3⟩ := setG_merge pqD_inj ks ls
            rw [g1] at q4
            walk_at "s"
            refine hR _ _ ⟨_, ms, rfl, fun n c hc => ?_, q4, g2 nd, fun a b => ?_⟩
            · have : n < S.length := (List.getElem?_eq_some_iff.mp hc).1
              exact o4.ne (by omega) (e2 _ _ (e1 _ _ hc))
            · rw [g3, mm, mm2]
              constructor
              · rintro (⟨a1, a2⟩ | ⟨x, a1, _, a3⟩)
                · exact ⟨by omega, a2⟩
                · have e1 : q = a := congrArg Prod.fst a3
                  have e2 : x = b := congrArg Prod.snd a3
                  subst e1 e2
                  exact ⟨Nat.lt_succ_self _, a1⟩
              · rintro ⟨a1, a2⟩
                by_cases z : a = q
                · subst z
                  exact .inr ⟨b, a2, rfl, rfl⟩
                · exact .inl ⟨by omega, a2⟩
      · rintro σ S1 ⟨s4, ks, rfl, e1, c0, nd, mm⟩
        refine ⟨trivial, ?_⟩
        rw [List.length_map, List.length_range] at mm
        walk_at "s"
        refine hQ S1 _ ks e1 (Nat.le_refl _) c0 nd fun a b => ?_
        rw [mm]
        exact ⟨fun z => z.2, fun z => ⟨way_lt1 hw z, z⟩⟩
    | alt a b =>
      have hd' : max a.dp b.dp + 1 ≤ k + 1 := hd
      walk_at "s"
      refine found_pairs_spec hw hn k a S _ (by omega) ht.1 fun S1 r1 k1 e1 l1 h1 n1 i1 => ?_
      walk_at "s"
      refine found_pairs_spec hw hn k b S1 _ (by omega) ht.2 fun S2 r2 k2 e2 l2 h2 n2 i2 => ?_
      have h1' := e2 _ _ h1
      have lr1 : r1 < S1.length := (List.getElem?_eq_some_iff.mp h1).1
      have s1 := small_rel hw hn i1
      have s2 := small_rel hw hn i2
      walk_at "s"
      refine r_tyT h2 ?_
      walk_at "s"
      refine r_updT (by omega) h2 (tdD_at h1') (by rw [setG_length, setG_length]; exact merge_sz (s2.len n2) (s1.len n1)) (.inr (pr_hashOk n1 s1)) fun S4 q4 o4 => ?_
      obtain ⟨ms, g1, g2, g3⟩ := setG_merge pqD_inj k2 k1
      rw [g1] at q4
      walk_at "s"
      refine hQ S4 r2 ms (fun n c hc => ?_) (Nat.le_trans e1.le l2) q4 (g2 n2) fun x y => ?_
      · have := (List.getElem?_eq_some_iff.mp hc).1
        have := e1.le
        exact o4.ne (by omega) (e2 _ _ (e1 _ _ hc))
      · rw [g3, i1, i2]
        exact Or.comm
    | row a b =>
      have hd' : max a.dp b.dp + 1 ≤ k + 1 := hd
      walk_at "s"
      refine found_pairs_spec hw hn k a S _ (by omega) ht.1 fun S1 r1 k1 e1 l1 h1 n1 i1 => ?_
      walk_at "s"
      refine found_pairs_spec hw hn k b S1 _ (by omega) ht.2 fun S2 r2 k2 e2 l2 h2 n2 i2 => ?_
      have h1' := e2 _ _ h1
      have lr1 : r1 < S1.length := (List.getElem?_eq_some_iff.mp h1).1
      have s1 := small_rel hw hn i1
      have s2 := small_rel hw hn i2
      walk_at "s"
      refine after_pairs_spec (by omega) h1' h2 s1 s2 n1 n2 fun S3 r3 k3 e3 l3 h3 n3 i3 => ?_
      refine hQ S3 r3 k3 ((e1.trans e2).trans e3) (Nat.le_trans (e1.trans e2).le l3) h3 n3 fun x y => ?_
      rw [i3]
      constructor
      · rintro ⟨c, u, v⟩
        exact ⟨c, (i1 _ _).mp u, (i2 _ _).mp v⟩
      · rintro ⟨c, u, v⟩
        exact ⟨c, (i1 _ _).mpr u, (i2 _ _).mpr v⟩
    | again a =>
      have hd' : a.dp + 1 ≤ k + 1 := hd
      walk_at "s"
      refine found_pairs_spec hw hn k a S _ (by omega) ht fun S1 r1 k1 e1 l1 h1 n1 i1 => ?_
      have s1 := small_rel hw hn i1
      walk_at "s"
      refine r_rg (by omega) (by omega) fun few => ?_
      rw [rng_map']
      refine dcN_set pqD_inj (List.range w.n) (fun k : Nat => .int (k : Nat)) (fun k => (k, k)) (fun _ => true) (by simp only [sizeLine, List.length_range]; omega) (fun _ _ => trivial) (fun _ _ => rfl) ?_ ?_
      · intro x hx S2 R1 RK e1 hF hT
        walk_at "s"
        exact hT rfl _ (.refl _)
      intro S2 k2 e2 h2 n2 i2
      have lr1 : r1 < S1.length := (List.getElem?_eq_some_iff.mp h1).1
      walk_at "s"
      refine while_inv (fun m σ S' => ∃ (many : Nat) (ks prev : List Pr), σ = [some (encW w), some (encT (.again a)), some (.str "again"), some (.ref S1.length), none, some (.ref r1), some (.int (many : Nat)), none, none] ∧ ExtB [S1.length] S2 S' ∧ S'[S1.length]? = some (.tdc (setG pqD ks)) ∧ ks.Nodup ∧
        (∀ x, x < w.n → (x, x) ∈ ks) ∧ (∀ x y, (x, y) ∈ ks → rel w (.again a) x y) ∧ prev.Nodup ∧ (∀ p, p ∈ prev → p ∈ ks) ∧ prev.length = many ∧ (∀ x y z, (x, y) ∈ prev → (y, z) ∈ k1 → (x, z) ∈ ks) ∧ m = 65 - many) 65 ?_ ?_
      · refine ⟨0, k2, [], rfl, .refl _ _, h2, n2, fun x hx => (i2 _).mpr ⟨x, List.mem_range.mpr hx, rfl, rfl⟩, fun x y hxy => ?_, .nil, fun p hp => (by cases hp), rfl, fun x y z hx => (by cases hx), rfl⟩
        obtain ⟨c, hc, _, e⟩ := (i2 _).mp hxy
        have ea : c = x := congrArg Prod.fst e
        have eb : c = y := congrArg Prod.snd e
        subst ea eb
        exact ⟨List.mem_range.mp hc, .refl⟩
      · rintro m σ S3 R ⟨many, ks, prev, rfl, e3, c3, nd, hid, hrel, pnd, psub, plen, pcl, rfl⟩ hR
        have sm : Small ks := fun p hp => by
          have := rel_lt hw (.again a) p.1 p.2 (hrel p.1 p.2 hp)
          omega
        have lk := sm.len nd
        walk_at "s"
        refine r_lenT (tdD_at c3) ?_
        rw [setG_length]
        walk_at "s"
        refine ite_b (fun hb => ?_) (fun hb => ?_)
        · have hb := of_decide_eq_true hb
          walk_at "s"
          refine r_lenT (tdD_at c3) ?_
          rw [setG_length]
          walk_at "s"
          refine r_tyT c3 ?_
          walk_at "s"
          have c1 := e3.2 r1 (by simp; omega) _ (e2 _ _ h1)
          refine after_pairs_spec (by omega) c3 c1 sm s1 nd n1 fun S4 r4 ls e4 l4 h4 n4 i4 => ?_
          have l5 : S1.length < S3.length := (List.getElem?_eq_some_iff.mp c3).1
          have sls : Small ls := fun p hp => by
            obtain ⟨c, u, v⟩ := (i4 p.1 p.2).mp hp
            exact ⟨(sm _ u).1, (s1 _ v).2⟩
          walk_at "s"
          refine r_updT (by omega) (e4 _ _ c3) (tdD_at h4) (by rw [setG_length, setG_length]; exact merge_sz lk (sls.len n4)) (.inr (pr_hashOk n4 sls)) fun S5 q5 o5 => ?_
          obtain ⟨ms, g1, g2, g3⟩ := setG_merge pqD_inj ks ls
          rw [g1] at q5
          walk_at "s"
          refine hR (65 - ks.length) _ _ (by omega) ⟨ks.length, ms, ks, rfl, (e3.trans (e4.b _)).trans (o5.b (by simp)), q5, g2 nd, fun x hx => (g3 _).mpr (.inl (hid x hx)), fun x y hxy => ?_, nd, fun p hp => (g3 _).mpr (.inl hp), rfl, fun x y z hx hy => (g3 _).mpr (.inr ((i4 _ _).mpr ⟨y, hx, hy⟩)), rfl⟩
          rcases (g3 _).mp hxy with z | z
          · exact hrel x y z
          · obtain ⟨c, u, v⟩ := (i4 _ _).mp z
            have := hrel _ _ u
            exact ⟨this.1, .snoc this.2 ((i1 _ _).mp v)⟩
        · have hb := of_decide_eq_false hb
          walk_at "s"
          have back := subset_back pnd psub (Nat.le_antisymm (subset_len pnd psub) (by omega))
          refine hQ S3 _ ks (fun n c hc => ?_) e1.le c3 nd fun x y => ⟨hrel x y, ?_⟩
          · have := (List.getElem?_eq_some_iff.mp hc).1
            have := e1.le
            exact e3.2 n (by simp; omega) _ (e2 _ _ (e1 _ _ hc))
          · rintro ⟨hx, st⟩
            induction st with
            | refl => exact hid x hx
            | snoc _ hr ih => exact pcl _ _ _ (back _ ih) ((i1 _ _).mpr hr)
/-- pairs in order -/
def plt (p q : Pr) : Prop := p.1 < q.1 ∨ (p.1 = q.1 ∧ p.2 < q.2)
theorem plt_of {p q : Pr} (h : pqR p ≤ pqR q) (ne : p ≠ q) : plt p q := by
  obtain ⟨a, b⟩ := p
  obtain ⟨c, d⟩ := q
  have h : ¬ ([(c : Int), (d : Int)] < [(a : Int), (b : Int)]) := h
  rw [List.cons_lt_cons_iff, List.cons_lt_cons_iff] at h
  have ne : ¬ (a = c ∧ b = d) := fun z => ne (by rw [z.1, z.2])
  show a < c ∨ (a = c ∧ b < d)
  rcases Nat.lt_trichotomy a c with z | z | z
  · exact .inl z
  · subst z
    rcases Nat.lt_trichotomy b d with z | z | z
    · exact .inr ⟨rfl, z⟩
    · exact absurd ⟨rfl, z⟩ ne
    · exact absurd (.inr ⟨rfl, .inl (by omega)⟩) h
  · exact absurd (.inl (by omega)) h
theorem plt_uniq : ∀ {xs ys : List Pr}, xs.Pairwise plt → ys.Pairwise plt → (∀ p, p ∈ xs ↔ p ∈ ys) → xs = ys
  | [], [], _, _, _ => rfl
  | [], y :: ys, _, _, h => absurd ((h y).mpr List.mem_cons_self) (by simp)
  | x :: xs, [], _, _, h => absurd ((h x).mp List.mem_cons_self) (by simp)
  | x :: xs, y :: ys, hx, hy, h => by
    rw [List.pairwise_cons] at hx hy
    have asym : ∀ p q : Pr, plt p q → plt q p → False := fun p q a b => by unfold plt at a b; omega
    have irr : ∀ p : Pr, ¬ plt p p := fun p a => asym p p a a
    have e : x = y := by
      have h1 := (h x).mp List.mem_cons_self
      have h2 := (h y).mpr List.mem_cons_self
      rw [List.mem_cons] at h1 h2
      rcases h1 with h1 | h1
      · exact h1
      · rcases h2 with h2 | h2
        · exact h2.symm
        · exact absurd (hx.1 y h2) fun z => asym _ _ z (hy.1 x h1)
    subst e
    rw [plt_uniq hx.2 hy.2 fun j => ?_]
    have hj := h j
    rw [List.mem_cons, List.mem_cons] at hj
    constructor
    · intro q
      rcases hj.mp (.inr q) with e | e
      · subst e; exact absurd (hx.1 _ q) (irr _)
      · exact e
    · intro q
      rcases hj.mpr (.inr q) with e | e
      · subst e; exact absurd (hy.1 _ q) (irr _)
      · exact e
theorem rows_pr : ∀ {rows : List (List Int)}, (∀ r ∈ rows, ∃ p, r = pqR p) → ∃ ps : List Pr, rows = ps.map pqR
  | [], _ => ⟨[], rfl⟩
  | r :: rows, h => by
    obtain ⟨ps, rfl⟩ := rows_pr fun q hq => h q (List.mem_cons_of_mem _ hq)
    obtain ⟨p, rfl⟩ := h r List.mem_cons_self
    exact ⟨p :: ps, rfl⟩
theorem map_rowD (ps : List Pr) : (ps.map pqR).map rowD = ps.map pqD := by rw [List.map_map]; rfl
theorem sorted_pr {ps : List Pr} (h : (ps.map pqR).Pairwise fun a b => a ≤ b) (nd : ps.Nodup) : ps.Pairwise plt := by
  rw [List.pairwise_map] at h
  exact (h.and (List.nodup_iff_pairwise_ne.mp nd)).imp fun z => plt_of z.1 z.2
theorem led_spec {L0 L1 : Nat} {w : Wd} (hw : OkW L0 L1 w) (hn : w.n ≤ 8) {t : Tm} {S : Store} {Q : PD} (hd : t.dp ≤ 12) (ht : OkT L0 L1 t)
    (h : ∀ (S' : Store) (n : Nat) (ps : List Pr), Ext S S' → S.length ≤ n → S'[n]? = some (.lst (ps.map pqD)) → ps.Pairwise plt → ps.Nodup → (∀ a b, (a, b) ∈ ps ↔ rel w t a b) → Q (.ref n) S') : F_led_pairs [encW w, encT t] S Q := by
  refine r_fn rfl ?_
  unfold b_led_pairs
  walk_at "s"
  refine found_pairs_spec hw hn 12 t S _ hd ht fun S1 r1 k1 e1 l1 h1 n1 i1 => ?_
  walk_at "s"
  refine r_listT (tdD_at h1) ?_
  rw [setG_keys]
  walk_at "s"
  refine ⟨S1.length, k1.map pqR, rfl, by rw [map_rowD]; exact new_at S1 _, fun r hr => ?_, fun out hp hs => ?_⟩
  · obtain ⟨p, _, rfl⟩ := List.mem_map.mp hr
    simp [pqR]
  · obtain ⟨ps, rfl⟩ := rows_pr (rows := out) fun r hr => by
      obtain ⟨p, _, rfl⟩ := List.mem_map.mp (hp.mem_iff.mp hr)
      exact ⟨p, rfl⟩
    have nd : ps.Nodup := by
      have : (ps.map pqR).Nodup := hp.nodup_iff.mpr (by
        rw [List.nodup_iff_pairwise_ne, List.pairwise_map]
        exact (List.nodup_iff_pairwise_ne.mp n1).imp fun a z => a (pqR_inj _ _ z))
      rw [List.nodup_iff_pairwise_ne, List.pairwise_map] at this
      exact List.nodup_iff_pairwise_ne.mpr (this.imp fun a z => a (by rw [z]))
    rw [map_rowD]
    refine h _ _ ps ((e1.trans (Ext.app S1 _)).trans (Ext.app _ _)) (by have := e1.le; rw [List.length_append]; omega) (new_at _ _) (sorted_pr hs nd) nd fun a b => ?_
    rw [← i1]
    constructor
    · intro z
      obtain ⟨p, hp2, e⟩ := List.mem_map.mp (hp.mem_iff.mp (List.mem_map.mpr ⟨(a, b), z, rfl⟩))
      rw [← pqR_inj _ _ e]; exact hp2
    · intro z
      obtain ⟨p, hp2, e⟩ := List.mem_map.mp (hp.mem_iff.mpr (List.mem_map.mpr ⟨(a, b), z, rfl⟩))
      rw [← pqR_inj _ _ e]; exact hp2
end K35
/-! SP10: sayings as data; small steps. -/
namespace PG
open PySem L2 SD PG
theorem ok_fm : ∀ f : Fm, okD (encF f) = true
  | .yes | .no => by simp only [encF, okD, okDs, Bool.and_true]; decide +kernel
  | .is _ | .isnt _ | .name _ => by simp only [encF, okD, okDs, Bool.and_true]; decide +kernel
  | .both a b | .either a b => by
    simp only [encF, okD, okDs, Bool.and_true, ok_fm a, ok_fm b]; decide +kernel
  | .some _ a | .all _ a | .least _ a | .greatest _ a => by
    simp only [encF, okD, okDs, Bool.and_true, ok_fm a]; decide +kernel
theorem depth_fm : ∀ f : Fm, (toPy (encF f)).depth ≤ f.dp + 1
  | .yes | .no | .is _ | .isnt _ | .name _ => by simp [encF, toPy, toPys, PyData.depth, PyData.depthAll, Fm.dp]
  | .both a b | .either a b => by
    have := depth_fm a
    have := depth_fm b
    simp only [encF, toPy, toPys, PyData.depth, PyData.depthAll, Fm.dp]
    omega
  | .some _ a | .all _ a | .least _ a | .greatest _ a => by
    have := depth_fm a
    simp only [encF, toPy, toPys, PyData.depth, PyData.depthAll, Fm.dp]
    omega
theorem plain_fm {f : Fm} (h : f.dp ≤ 60) : plainD (encF f) = true := by
  unfold plainD
  rw [Bool.and_eq_true, decide_eq_true_eq]
  have := depth_fm f
  exact ⟨ok_fm f, by omega⟩
theorem with_name_spec {nr x y : Nat} {kvs : List (D × D)} {S : Store} {Q : PD} (e : dictD S (.ref nr) = some kvs) (hl : kvs.length ≤ 200000) (h : ∀ S', Ext S S' → S'[S.length]? = some (.dct (putD kvs (.int (x : Nat)) (.int (y : Nat)))) → Q (.ref S.length) S') : F_with_name [.ref nr, .int (x : Nat), .int (y : Nat)] S Q := by
  refine r_fn rfl ?_
  unfold b_with_name
  walk_at "s"
  refine r_dictF e ?_
  walk_at "s"
  refine r_setD (new_at S _) rfl (by simp only [sizeLine]; omega) ?_
  walk_at "s"
  exact h _ ((Ext.app S _).put (Nat.le_refl _)) (set_at (new_at S _))
theorem parts_szlt {f g : Fm} (h : g ∈ f.parts) : g.sz < f.sz := by
  cases f <;> simp only [Fm.parts, List.mem_cons, List.not_mem_nil, or_false] at h <;> simp only [Fm.sz]
  all_goals first | (subst h; omega) | (rcases h with rfl | rfl <;> omega)
theorem plains_of {rs : List D} (h : ∀ r ∈ rs, r = .non ∨ ∃ g' : Fm, r = encF g' ∧ g'.dp ≤ 50) : plainDs rs = true := by
  have key : okDs rs = true ∧ PyData.depthAll (toPys rs) ≤ 51 := by
    induction rs with
    | nil => exact ⟨rfl, by simp [toPys, PyData.depthAll]⟩
    | cons r rs ih =>
      obtain ⟨h1, h2⟩ := ih fun q hq => h q (List.mem_cons_of_mem _ hq)
      rcases h r List.mem_cons_self with rfl | ⟨g, rfl, hg⟩
      · exact ⟨by rw [okDs, h1]; rfl, by simp only [toPys, toPy, PyData.depthAll, PyData.depth]; omega⟩
      · have := depth_fm g
        exact ⟨by rw [okDs, h1, ok_fm]; rfl, by simp only [toPys, PyData.depthAll]; omega⟩
  unfold plainDs
  rw [Bool.and_eq_true, decide_eq_true_eq]
  refine ⟨key.1, ?_⟩
  simp only [PyData.depth]
  have := key.2
  omega
theorem all_enc {rs : List D} (h : ∀ r ∈ rs, ∃ g : Fm, r = encF g) : ∃ ps : List Fm, rs = ps.map encF := by
  induction rs with
  | nil => exact ⟨[], rfl⟩
  | cons r rs ih =>
    obtain ⟨ps, rfl⟩ := ih fun q hq => h q (List.mem_cons_of_mem _ hq)
    obtain ⟨g, rfl⟩ := h r List.mem_cons_self
    exact ⟨g :: ps, rfl⟩
def hdD : D → D
  | .tup (x :: _) => x
  | _ => .non
theorem enc_inj : ∀ f g : Fm, encF f = encF g → f = g := by
  intro f
  induction f with
  | yes => intro g h; cases g <;> first | rfl | (exact absurd (congrArg hdD h) (by show ¬ (D.str _ = D.str _); decide)) | (simp only [encF, D.tup.injEq, List.cons.injEq, and_true, true_and, D.int.injEq] at h; congr 1; omega)
  | no => intro g h; cases g <;> first | rfl | (exact absurd (congrArg hdD h) (by show ¬ (D.str _ = D.str _); decide)) | (simp only [encF, D.tup.injEq, List.cons.injEq, and_true, true_and, D.int.injEq] at h; congr 1; omega)
  | is i => intro g h; cases g <;> first | rfl | (exact absurd (congrArg hdD h) (by show ¬ (D.str _ = D.str _); decide)) | (simp only [encF, D.tup.injEq, List.cons.injEq, and_true, true_and, D.int.injEq] at h; congr 1; omega)
  | isnt i => intro g h; cases g <;> first | rfl | (exact absurd (congrArg hdD h) (by show ¬ (D.str _ = D.str _); decide)) | (simp only [encF, D.tup.injEq, List.cons.injEq, and_true, true_and, D.int.injEq] at h; congr 1; omega)
  | name i => intro g h; cases g <;> first | rfl | (exact absurd (congrArg hdD h) (by show ¬ (D.str _ = D.str _); decide)) | (simp only [encF, D.tup.injEq, List.cons.injEq, and_true, true_and, D.int.injEq] at h; congr 1; omega)
  | both a b iha ihb => intro g h; cases g <;> first | (exact absurd (congrArg hdD h) (by show ¬ (D.str _ = D.str _); decide)) | (simp only [encF, D.tup.injEq, List.cons.injEq, and_true, true_and] at h; rw [iha _ h.1, ihb _ h.2])
  | either a b iha ihb => intro g h; cases g <;> first | (exact absurd (congrArg hdD h) (by show ¬ (D.str _ = D.str _); decide)) | (simp only [encF, D.tup.injEq, List.cons.injEq, and_true, true_and] at h; rw [iha _ h.1, ihb _ h.2])
  | some j a iha => intro g h; cases g <;> first | (exact absurd (congrArg hdD h) (by show ¬ (D.str _ = D.str _); decide)) | (simp only [encF, D.tup.injEq, List.cons.injEq, and_true, true_and, D.int.injEq] at h; have h1 := h.1; have h2 := iha _ h.2; subst h2; congr 1; omega)
  | all j a iha => intro g h; cases g <;> first | (exact absurd (congrArg hdD h) (by show ¬ (D.str _ = D.str _); decide)) | (simp only [encF, D.tup.injEq, List.cons.injEq, and_true, true_and, D.int.injEq] at h; have h1 := h.1; have h2 := iha _ h.2; subst h2; congr 1; omega)
  | least j a iha => intro g h; cases g <;> first | (exact absurd (congrArg hdD h) (by show ¬ (D.str _ = D.str _); decide)) | (simp only [encF, D.tup.injEq, List.cons.injEq, and_true, true_and, D.int.injEq] at h; have h1 := h.1; have h2 := iha _ h.2; subst h2; congr 1; omega)
  | greatest j a iha => intro g h; cases g <;> first | (exact absurd (congrArg hdD h) (by show ¬ (D.str _ = D.str _); decide)) | (simp only [encF, D.tup.injEq, List.cons.injEq, and_true, true_and, D.int.injEq] at h; have h1 := h.1; have h2 := iha _ h.2; subst h2; congr 1; omega)
theorem r_neP {a b : List Nat} {S : Store} {Q : PD} (h : Q (.bl (!decide (a = b))) S) : eqF true (encP a) (encP b) S Q := r_neT (plain_nats a) (plain_nats b) (by show Q (.bl (!decide (encP a = encP b))) S; rw [encP_eq]; exact h)
theorem encP_range (n : Nat) : D.tup (rngD 0 (n : Int).toNat) = encP (List.range n) := by rw [rng_map']; rfl
theorem in_nat {k : Nat} {X : List Nat} {S : Store} {Q : PD} (h : Q (.bl (decide (k ∈ X))) S) : inF false (.int (k : Nat)) (encP X) S Q := by
  refine r_inT rfl (flat_nat _) ?_
  rw [mem_nat]; exact h
theorem nin_nat {k : Nat} {X : List Nat} {S : Store} {Q : PD} (h : Q (.bl (!decide (k ∈ X))) S) : inF true (.int (k : Nat)) (encP X) S Q := by
  refine r_ninT rfl (flat_nat _) ?_
  rw [mem_nat]; exact h
theorem r_par {i j : Nat} {f : FA} {E : EndsD} {σ : Slots} {S : Store} (h : f σ S fun ds S1 => ∃ a b, ds = [a, b] ∧ E.nx ((σ.set i (some a)).set j (some b)) S1) : sPar i j f E σ S := h
/-- [k for k in A if ..] -/
theorem lc_nats {σ : Slots} {iv : Nat} {t : FT} {A : List Nat} {S : Store} {R : Store → Prop} (p : Nat → Bool) (hi : ∀ d : D, (σ.set iv (some d))[iv]? = some (some d)) (hA : A.length ≤ 100000)
    (ht : ∀ k ∈ A, ∀ S1 (P : Bool → Store → Prop), Ext S S1 → (∀ S2, Ext S1 S2 → P (p k) S2) → t (σ.set iv (some (.int (k : Nat)))) S1 P)
    (h : ∀ S', Ext S S' → S'[S.length]? = some (.lst ((A.filter p).map fun k : Nat => .int (k : Nat))) → R S') :
    lcD Always (gNm iv) t (eVar iv) S.length R σ (A.map fun k : Nat => .int (k : Nat)) (S ++ [.lst []]) := by
  refine lc_filter (fun x => match x with | .int i => p i.toNat | _ => false) id (by simp [sizeLine]; omega) (fun _ _ => trivial) ?_ ?_ ?_
  · intro x hx S1 P e1 hP
    obtain ⟨k, hk, rfl⟩ := List.mem_map.mp hx
    exact ht k hk S1 P e1 hP
  · intro x hx S1 P e1 hP
    exact r_var (hi _) (hP S1 (.refl _))
  · intro S1 e1 h1
    refine h S1 e1 ?_
    rw [h1, List.map_id, List.filter_map]
    rfl
theorem depth_nats (xs : List Nat) : (toPy (encP xs)).depth ≤ 2 := by
  simp only [encP, toPy, PyData.depth]
  have := depthAll_nats xs
  omega
theorem r_pop0 {n : Nat} {y : D} {ys : List D} {S : Store} {Q : PD} (e : S[n]? = some (.lst (y :: ys))) (h : ∀ S', S'[n]? = some (.lst ys) → Off n S S' → Q y S') : pop0F (.ref n) [.int 0] S Q :=
  ⟨n, y, ys, rfl, rfl, e, h _ (set_at e) (Off.set _ _ _)⟩
theorem r_updD {n k : Nat} {ks ls : List (D × D)} {S : Store} {Q : PD} (ne : n ≠ k) (a : S[n]? = some (.dct ks)) (b : dictD S (.ref k) = some ls) (l : ks.length + ls.length ≤ sizeLine) (h : ∀ S', S'[n]? = some (.dct (mergeD ks ls)) → Off n S S' → Q .non S') : updF (.ref n) [.ref k] S Q :=
  ⟨n, k, ks, ls, rfl, rfl, ne, a, b, l, h _ (set_at a) (Off.set _ _ _)⟩
theorem dct_at {S : Store} {n : Nat} {ks : List (D × D)} (e : S[n]? = some (.dct ks)) : dictD S (.ref n) = some ks := by show dicC S[n]? = _; rw [e]; rfl
theorem lst_sq {S : Store} {n : Nat} {xs : List D} (e : S[n]? = some (.lst xs)) : seqD S (.ref n) = some xs := by show seqC S[n]? = _; rw [e]; rfl
end PG
/-! KS35d: some_after. -/
namespace K35
open PySem L2 SD PG
def raw : Tm → Fm → Nat → Fm × Nat
  | .deed j, f, c => (.some j f, c)
  | .ask i, f, c => (.both (.is i) f, c)
  | .alt a b, f, c => (.either (raw a f c).1 (raw b f (raw a f c).2).1, (raw b f (raw a f c).2).2)
  | .row a b, f, c => raw a (raw b f c).1 (raw b f c).2
  | .again a, f, c => (.least (20 + c) (.either f (raw a (.name (20 + c)) (c + 1)).1), (raw a (.name (20 + c)) (c + 1)).2)
theorem raw_many : ∀ (t : Tm) (f : Fm) (c : Nat), c ≤ (raw t f c).2 ∧ (raw t f c).2 + 1 ≤ c + 2 ^ t.dp
  | .deed j, f, c => ⟨Nat.le_refl _, by show c + 1 ≤ c + 2 ^ 1; omega⟩
  | .ask j, f, c => ⟨Nat.le_refl _, by show c + 1 ≤ c + 2 ^ 1; omega⟩
  | .alt a b, f, c => by
    obtain ⟨h1, h2⟩ := raw_many a f c
    obtain ⟨h3, h4⟩ := raw_many b f (raw a f c).2
    have p1 : 2 ^ a.dp ≤ 2 ^ (max a.dp b.dp) := Nat.pow_le_pow_right (by decide) (Nat.le_max_left _ _)
    have p2 : 2 ^ b.dp ≤ 2 ^ (max a.dp b.dp) := Nat.pow_le_pow_right (by decide) (Nat.le_max_right _ _)
    show c ≤ (raw b f (raw a f c).2).2 ∧ (raw b f (raw a f c).2).2 + 1 ≤ c + 2 ^ (max a.dp b.dp + 1)
    rw [Nat.pow_succ]
    omega
  | .row a b, f, c => by
    obtain ⟨h1, h2⟩ := raw_many b f c
    obtain ⟨h3, h4⟩ := raw_many a (raw b f c).1 (raw b f c).2
    have p1 : 2 ^ a.dp ≤ 2 ^ (max a.dp b.dp) := Nat.pow_le_pow_right (by decide) (Nat.le_max_left _ _)
    have p2 : 2 ^ b.dp ≤ 2 ^ (max a.dp b.dp) := Nat.pow_le_pow_right (by decide) (Nat.le_max_right _ _)
    show c ≤ (raw a (raw b f c).1 (raw b f c).2).2 ∧ (raw a (raw b f c).1 (raw b f c).2).2 + 1 ≤ c + 2 ^ (max a.dp b.dp + 1)
    rw [Nat.pow_succ]
    omega
  | .again a, f, c => by
    obtain ⟨h1, h2⟩ := raw_many a (.name (20 + c)) (c + 1)
    have p : 1 ≤ 2 ^ a.dp := Nat.one_le_two_pow
    show c ≤ (raw a (.name (20 + c)) (c + 1)).2 ∧ (raw a (.name (20 + c)) (c + 1)).2 + 1 ≤ c + 2 ^ (a.dp + 1)
    rw [Nat.pow_succ]
    omega
theorem raw_dp : ∀ (t : Tm) (f : Fm) (c : Nat), (raw t f c).1.dp ≤ f.dp + t.gw
  | .deed j, f, c => Nat.le_refl _
  | .ask j, f, c => by
    have : 1 ≤ f.dp := by cases f <;> simp [Fm.dp]
    show max 1 f.dp + 1 ≤ f.dp + 1
    omega
  | .alt a b, f, c => by
    have h1 := raw_dp a f c
    have h2 := raw_dp b f (raw a f c).2
    show max (raw a f c).1.dp (raw b f (raw a f c).2).1.dp + 1 ≤ f.dp + (max a.gw b.gw + 1)
    omega
  | .row a b, f, c => by
    have h1 := raw_dp b f c
    have h2 := raw_dp a (raw b f c).1 (raw b f c).2
    show (raw a (raw b f c).1 (raw b f c).2).1.dp ≤ f.dp + (a.gw + b.gw)
    omega
  | .again a, f, c => by
    have h1 := raw_dp a (.name (20 + c)) (c + 1)
    have : 1 ≤ f.dp := by cases f <;> simp [Fm.dp]
    have e : (Fm.name (20 + c)).dp = 1 := rfl
    show max f.dp (raw a (.name (20 + c)) (c + 1)).1.dp + 1 + 1 ≤ f.dp + (a.gw + 2)
    omega
theorem raw_sc {L0 L1 : Nat} : ∀ (t : Tm) (f : Fm) (c : Nat) (sc : List Nat), OkT L0 L1 t → Sc L0 L1 sc f → Sc L0 L1 sc (raw t f c).1
  | .deed j, f, c, sc, ht, hf => ⟨ht, hf⟩
  | .ask j, f, c, sc, ht, hf => ⟨ht, hf⟩
  | .alt a b, f, c, sc, ht, hf => ⟨raw_sc a f c sc ht.1 hf, raw_sc b f _ sc ht.2 hf⟩
  | .row a b, f, c, sc, ht, hf => raw_sc a _ _ sc ht.1 (raw_sc b f c sc ht.2 hf)
  | .again a, f, c, sc, ht, hf => ⟨Sc.mono f sc _ hf fun x hx => List.mem_cons_of_mem _ hx, raw_sc a (.name (20 + c)) (c + 1) _ ht List.mem_cons_self⟩
theorem raw_spec : ∀ (k : Nat) (t : Tm) (f : Fm) (c fr : Nat) (xs : List D) (S : Store) (Q : PD), t.dp ≤ k → S[fr]? = some (.lst xs) → xs.length = c → c + 2 ^ t.dp ≤ 100000 →
    (∀ S' xs', ExtB [fr] S S' → S'[fr]? = some (.lst xs') → xs'.length = (raw t f c).2 → Q (encF (raw t f c).1) S') → F_raw_after k [encT t, encF f, .ref fr] S Q
  | 0, t, _, _, _, _, _, _, hd, _, _, _, _ => by cases t <;> simp [Tm.dp] at hd
  | k + 1, t, f, c, fr, xs, S, Q, hd, hx, hl, hc, hQ => by
    refine r_fn rfl ?_
    unfold b_raw_after
    cases t with
    | deed j =>
      walk_at "s"
      exact hQ S xs (.refl _ _) hx hl
    | ask j =>
      walk_at "s"
      exact hQ S xs (.refl _ _) hx hl
    | alt a b =>
      have hd' : max a.dp b.dp + 1 ≤ k + 1 := hd
      have hc' : c + 2 ^ (max a.dp b.dp + 1) ≤ 100000 := hc
      rw [Nat.pow_succ] at hc'
      have p1 : 2 ^ a.dp ≤ 2 ^ (max a.dp b.dp) := Nat.pow_le_pow_right (by decide) (Nat.le_max_left _ _)
      have p2 : 2 ^ b.dp ≤ 2 ^ (max a.dp b.dp) := Nat.pow_le_pow_right (by decide) (Nat.le_max_right _ _)
      have q1 := raw_many a f c
      walk_at "s"
      refine raw_spec k a f c fr xs S _ (by omega) hx hl (by omega) fun S1 x1 e1 h1 l1 => ?_
      walk_at "s"
      refine raw_spec k b f _ fr x1 S1 _ (by omega) h1 l1 (by omega) fun S2 x2 e2 h2 l2 => ?_
      walk_at "s"
      exact hQ S2 x2 (e1.trans e2) h2 l2
    | row a b =>
      have hd' : max a.dp b.dp + 1 ≤ k + 1 := hd
      have hc' : c + 2 ^ (max a.dp b.dp + 1) ≤ 100000 := hc
      rw [Nat.pow_succ] at hc'
      have p1 : 2 ^ a.dp ≤ 2 ^ (max a.dp b.dp) := Nat.pow_le_pow_right (by decide) (Nat.le_max_left _ _)
      have p2 : 2 ^ b.dp ≤ 2 ^ (max a.dp b.dp) := Nat.pow_le_pow_right (by decide) (Nat.le_max_right _ _)
      have q1 := raw_many b f c
      walk_at "s"
      refine raw_spec k b f c fr xs S _ (by omega) hx hl (by omega) fun S1 x1 e1 h1 l1 => ?_
      walk_at "s"
      refine raw_spec k a _ _ fr x1 S1 _ (by omega) h1 l1 (by omega) fun S2 x2 e2 h2 l2 => ?_
      exact hQ S2 x2 (e1.trans e2) h2 l2
    | again a =>
      have hd' : a.dp + 1 ≤ k + 1 := hd
      have hc' : c + 2 ^ (a.dp + 1) ≤ 100000 := hc
      rw [Nat.pow_succ] at hc'
      have p : 1 ≤ 2 ^ a.dp := Nat.one_le_two_pow
      walk_at "s"
      refine r_tyL hx ?_
      walk_at "s"
      refine r_len (lst_sq hx) ?_
      rw [hl]
      walk_at "s"
      have e20 : (20 : Int) + (c : Nat) = ((20 + c : Nat) : Int) := by omega
      rw [e20]
      refine r_app hx (by simp only [sizeLine]; omega) fun S1 q1 o1 => ?_
      walk_at "s"
      refine r_ixL q1 (v := .int ((20 + c : Nat) : Int)) ?_ ?_
      · have hn : (xs ++ [D.int ((20 + c : Nat) : Int)]).length = c + 1 := by simp [hl]
        unfold atI ixN
        rw [hn, if_neg (by decide), if_pos (by omega)]
        show (xs ++ [D.int ((20 + c : Nat) : Int)])[(((c + 1 : Nat) : Int) + -1).toNat]? = _
        have : (((c + 1 : Nat) : Int) + -1).toNat = xs.length := by omega
        rw [this]; simp
      walk_at "s"
      refine raw_spec k a (.name (20 + c)) (c + 1) fr _ S1 _ (by omega) q1 (by simp [hl]) (by omega) fun S2 x2 e2 h2 l2 => ?_
      walk_at "s"
      exact hQ S2 x2 ((o1.b (by simp)).trans e2) h2 l2
def NWish (S : Store) (lf : Nat) (ls sc : List Nat) (nm : Nat → Nat) (f : Fm) (Q : PD) : Prop :=
  ∀ (S' : Store) (r : D) (ls' : List Nat), ExtB [lf] S S' → S'[lf]? = some (.lst (ls'.map fun k : Nat => D.int (k : Nat))) → (∀ y ∈ ls', y ∈ ls) → ls'.Nodup → (r = .non ∨ ∃ f', r = encF f' ∧ Ren sc nm f f') → Q r S'
theorem dict_extB {l : List Nat} {S S' : Store} (e : ExtB l S S') {r : Nat} (hr : r ∉ l) {kvs : List (D × D)} (h : dictD S (.ref r) = some kvs) : dictD S' (.ref r) = some kvs := by
  show dicC S'[r]? = _
  rcases dicC_or h with q | q <;> rw [e.2 r hr _ q] <;> rfl
theorem named_rest {f : Fm} {sc : List Nat} {nm : Nat → Nat} {S : Store} {nr lf : Nat} {ls : List Nat} {Q : PD} {G : FnD} (hd : f.dp ≤ 50) (hl : S[lf]? = some (.lst (ls.map fun k : Nat => D.int (k : Nat)))) (nd : ls.Nodup)
    (hR : ∀ ps : List Fm, ps.length = f.parts.length → (∀ (j : Nat) g g', f.parts[j]? = some g → ps[j]? = some g' → Ren sc nm g g') → Ren sc nm f (f.wp ps))
    (hG : ∀ g ∈ f.parts, ∀ (S' : Store) (ls' : List Nat) (P : PD), ExtB [lf] S S' → S'[lf]? = some (.lst (ls'.map fun k : Nat => D.int (k : Nat))) → (∀ y ∈ ls', y ∈ ls) → ls'.Nodup → NWish S' lf ls' sc nm g P → G [encF g, .ref nr, .ref lf] S' P)
    (hQ : NWish S lf ls sc nm f Q) {E : EndsD} (hE : E.rt = Q) :
    sSeq (sAsg (eLst aNil) (gNm 5)) (sSeq (sFor (iSeqD (eCall F_parts_of (aCons (eVar 0) aNil))) (gNm 6) (sDrop (eMt "list" appF (eVar 5) (aCons (eCall G (aCons (eVar 6) (aCons (eVar 1) (aCons (eVar 2) aNil)))) aNil))))
      (sRet (eIf (tVal (eOp inPF (eC .non) (eVar 5))) (eC .non) (eCall F_with_parts (aCons (eVar 0) (aCons (eVar 5) aNil)))))) E [some (encF f), some (.ref nr), some (.ref lf), none, none, none, none] S := by
  subst hE
  have al : lf < S.length := (List.getElem?_eq_some_iff.mp hl).1
  have pf := parts_few f
  walk_at "s"
  refine r_iTup ?_
  walk_at "s"
  refine parts_spec ?_
  refine ⟨_, rfl, ?_⟩
  refine for_inv (fun i σ S' => ∃ (s6 : Option D) (ls' : List Nat) (rs : List D), σ = [some (encF f), some (.ref nr), some (.ref lf), none, none, some (.ref S.length), s6] ∧ ExtB [lf] S S' ∧ S'[lf]? = some (.lst (ls'.map fun k : Nat => D.int (k : Nat))) ∧ (∀ y ∈ ls', y ∈ ls) ∧ ls'.Nodup ∧
    S'[S.length]? = some (.lst rs) ∧ rs.length = i ∧ ∀ (j : Nat) g, j < i → f.parts[j]? = some g → rs[j]? = some .non ∨ ∃ g', rs[j]? = some (encF g') ∧ Ren sc nm g g') ?_ ?_ ?_
  · exact ⟨_, ls, [], rfl, (Ext.app S _).b _, Ext.app S _ _ _ hl, fun _ h => h, nd, new_at S _, rfl, fun j g h => by omega⟩
  · rintro i x σ S1 R hx ⟨s6, ls', rs, rfl, e1, a1, b1, c1, r1, rl, hr⟩ hRR
    refine ⟨trivial, ?_⟩
    rw [List.getElem?_map] at hx
    cases hg : f.parts[i]? with
    | none => rw [hg] at hx; cases hx
    | some g =>
      rw [hg] at hx
      cases hx
      have hi : i < f.parts.length := (List.getElem?_eq_some_iff.mp hg).1
      walk_at "s"
      refine r_tyL r1 ?_
      walk_at "s"
      refine hG g (List.mem_of_getElem? hg) S1 ls' _ e1 a1 b1 c1 ?_
      intro S2 r ls2 e2 a2 b2 c2 hr2
      have r2 := e2.2 S.length (by simp; omega) _ r1
      walk_at "s"
      refine r_app r2 (by simp only [sizeLine]; omega) fun S3 q3 o3 => ?_
      walk_at "s"
      refine hRR _ _ ⟨_, ls2, rs ++ [r], rfl, ⟨by rw [o3.len]; exact (e1.trans e2).1, fun k hk c hc => ?_⟩, o3.ne (by omega) a2, fun y hy => b1 y (b2 y hy), c2, q3, by simp [rl], ?_⟩
      · have : k < S.length := (List.getElem?_eq_some_iff.mp hc).1
        rw [o3.off k (by omega)]
        exact (e1.trans e2).2 k hk c hc
      · intro j g2 hj hg2
        by_cases e : j = i
        · subst e
          rw [hg] at hg2
          cases hg2
          have er : (rs ++ [r])[j]? = some r := by rw [← rl]; simp
          rw [er]
          rcases hr2 with rfl | ⟨g', rfl, h'⟩
          · exact .inl rfl
          · exact .inr ⟨g', rfl, h'⟩
        · rw [List.getElem?_append_left (by omega)]
          exact hr j g2 (by omega) hg2
  · rintro σ S1 ⟨s6, ls', rs, rfl, e1, a1, b1, c1, r1, rl, hr⟩
    refine ⟨trivial, ?_⟩
    rw [List.length_map] at rl hr
    have each : ∀ r ∈ rs, r = .non ∨ ∃ g', r = encF g' ∧ g'.dp ≤ 50 := fun r hr2 => by
      obtain ⟨j, hj⟩ := List.getElem?_of_mem hr2
      have hjl : j < rs.length := (List.getElem?_eq_some_iff.mp hj).1
      have hg : f.parts[j]? = some (f.parts[j]'(by omega)) := List.getElem?_eq_getElem (by omega)
      rcases hr j _ (by omega) hg with q | ⟨g', q, h'⟩
      · rw [hj] at q; cases q; exact .inl rfl
      · rw [hj] at q; cases q
        have := ren_dp _ _ _ _ h'
        have := parts_dp (List.mem_of_getElem? hg)
        exact .inr ⟨g', rfl, by omega⟩
    walk_at "s"
    refine ⟨S.length, rs, rfl, r1, by decide +kernel, plains_of each, ?_⟩
    walk_at "s"
    refine ite_b (fun hb => ?_) (fun hb => ?_)
    · walk_at "s"
      exact hQ S1 _ ls' e1 a1 b1 c1 (.inl rfl)
    · have hb := of_decide_eq_false hb
      obtain ⟨ps, rfl⟩ : ∃ ps : List Fm, rs = ps.map encF := all_enc fun r hr2 => by
        rcases each r hr2 with rfl | ⟨g', rfl, _⟩
        · exact absurd hr2 hb
        · exact ⟨g', rfl⟩
      rw [List.length_map] at rl
      walk_at "s"
      refine with_spec rl r1 ?_
      refine hQ S1 _ ls' e1 a1 b1 c1 (.inr ⟨_, rfl, hR ps rl fun j g g' hg hg' => ?_⟩)
      have hj : j < f.parts.length := (List.getElem?_eq_some_iff.mp hg).1
      have e3 : (ps.map encF)[j]? = some (encF g') := by rw [List.getElem?_map, hg']; rfl
      rcases hr j g hj hg with q | ⟨g2, q, h'⟩
      · rw [e3] at q
        exact absurd (Option.some.inj q) (by cases g' <;> simp [encF])
      · rw [e3] at q
        have := enc_inj _ _ (Option.some.inj q)
        rw [this]; exact h'
theorem named_spec {L0 L1 : Nat} : ∀ (k : Nat) (f : Fm) (sc : List Nat) (nm : Nat → Nat) (S : Store) (nr : Nat) (kvs : List (D × D)) (lf : Nat) (ls : List Nat) (Q : PD), f.dp ≤ k → Sc L0 L1 sc f → dictD S (.ref nr) = some kvs → nr ≠ lf → kvs.length + f.dp ≤ 100000 →
    S[lf]? = some (.lst (ls.map fun k : Nat => D.int (k : Nat))) → ls.Nodup → (∀ y ∈ sc, valD kvs (.int (y : Nat)) = some (.int (nm y : Nat))) → (∀ y ∈ sc, nm y ∉ ls) → k ≤ 50 → NWish S lf ls sc nm f Q → F_named_anew k [encF f, .ref nr, .ref lf] S Q
  | 0, f, _, _, _, _, _, _, _, _, hd, _, _, _, _, _, _, _, _, _, _ => by cases f <;> simp [Fm.dp] at hd
  | k + 1, f, sc, nm, S, nr, kvs, lf, ls, Q, hd, hs, hnr, hne, hk, hl, nd, hN, hM, k50, hQ => by
    refine r_fn rfl ?_
    unfold b_named_anew
    have hG : (∀ g ∈ f.parts, Sc L0 L1 sc g) → ∀ g ∈ f.parts, ∀ (S' : Store) (ls' : List Nat) (P : PD), ExtB [lf] S S' → S'[lf]? = some (.lst (ls'.map fun k : Nat => D.int (k : Nat))) → (∀ y ∈ ls', y ∈ ls) → ls'.Nodup → NWish S' lf ls' sc nm g P → F_named_anew k [encF g, .ref nr, .ref lf] S' P := fun hsc g hg S' ls' P e1 a1 b1 c1 w1 => by
      have g1 := parts_dp hg
      exact named_spec k g sc nm S' nr kvs lf ls' P (by omega) (hsc g hg) (dict_extB e1 (by simpa using hne) hnr) hne (by omega) a1 c1 hN (fun y hy z => hM y hy (b1 _ z)) (by omega) w1
    cases f with
    | name x =>
      walk_at "s"
      refine ⟨⟨kvs, hnr⟩, ?_⟩
      walk_at "s"
      refine ⟨kvs, hnr, rfl, ?_⟩
      rw [hN x hs, Option.getD_some]
      walk_at "s"
      exact hQ S _ ls (.refl _ _) hl (fun _ h => h) nd (.inr ⟨.name (nm x), rfl, rfl⟩)
    | least x a0 =>
      have hd' : a0.dp + 1 ≤ k + 1 := hd
      have hk' : kvs.length + (a0.dp + 1) ≤ 100000 := hk
      with_reducible refine r_seq ?_
      walk_at "n"
      with_reducible refine r_seq ?_
      walk_at "s"
      refine r_len (lst_sq hl) ?_
      cases ls with
      | nil =>
        walk_at "s"
        exact hQ S _ [] (.refl _ _) hl (fun _ h => h) nd (.inl rfl)
      | cons y ls =>
        walk_at "s"
        refine r_tyL hl ?_
        walk_at "s"
        refine r_pop0 hl fun S1 q1 o1 => ?_
        have n1 : dictD S1 (.ref nr) = some kvs := dict_extB (o1.b (l := [lf]) (by simp)) (by simpa using hne) hnr
        walk_at "s"
        refine with_name_spec n1 (by omega) fun S2 e2 q2 => ?_
        walk_at "s"
        have lp := length_putD kvs (.int (x : Nat)) (.int (y : Nat))
        have al : lf < S1.length := (List.getElem?_eq_some_iff.mp q1).1
        rw [List.nodup_cons] at nd
        refine named_spec k a0 (x :: sc) (fun z => if z = x then y else nm z) S2 S1.length _ lf ls _ (by omega) hs (by show dicC S2[S1.length]? = _; rw [q2]; rfl) (by omega) (by omega) (e2 _ _ q1) nd.2 ?_ ?_ (by omega) ?_
        · intro z hz
          by_cases e : z = x
          · subst e; rw [putD_self, if_pos rfl]
          · rw [putD_ne _ _ (by intro q; injection q with q; omega), if_neg e]
            rw [List.mem_cons] at hz
            exact hN z (hz.resolve_left e)
        · intro z hz
          by_cases e : z = x
          · rw [if_pos e]; exact nd.1
          · rw [if_neg e]
            rw [List.mem_cons] at hz
            exact fun q => hM z (hz.resolve_left e) (List.mem_cons_of_mem _ q)
        · intro S3 r ls3 e3 a3 b3 c3 hr
          have e4 : ExtB [lf] S S3 := ((o1.b (by simp)).trans (e2.b _)).trans e3
          have b4 : ∀ z ∈ ls3, z ∈ y :: ls := fun z hz => List.mem_cons_of_mem _ (b3 z hz)
          rcases hr with rfl | ⟨f', rfl, hr⟩
          · walk_at "s"
            exact hQ S3 _ ls3 e4 a3 b4 c3 (.inl rfl)
          · walk_at "s"
            refine r_ifF (by cases f' <;> rfl) ?_
            walk_at "s"
            refine hQ S3 _ ls3 e4 a3 b4 c3 (.inr ⟨.least y f', rfl, y, f', rfl, fun z hz _ q => hM z hz (q ▸ List.mem_cons_self), hr⟩)
    | greatest x a0 =>
      have hd' : a0.dp + 1 ≤ k + 1 := hd
      have hk' : kvs.length + (a0.dp + 1) ≤ 100000 := hk
      with_reducible refine r_seq ?_
      walk_at "n"
      with_reducible refine r_seq ?_
      walk_at "s"
      refine r_len (lst_sq hl) ?_
      cases ls with
      | nil =>
        walk_at "s"
        exact hQ S _ [] (.refl _ _) hl (fun _ h => h) nd (.inl rfl)
      | cons y ls =>
        walk_at "s"
        refine r_tyL hl ?_
        walk_at "s"
        refine r_pop0 hl fun S1 q1 o1 => ?_
        have n1 : dictD S1 (.ref nr) = some kvs := dict_extB (o1.b (l := [lf]) (by simp)) (by simpa using hne) hnr
        walk_at "s"
        refine with_name_spec n1 (by omega) fun S2 e2 q2 => ?_
        walk_at "s"
        have lp := length_putD kvs (.int (x : Nat)) (.int (y : Nat))
        have al : lf < S1.length := (List.getElem?_eq_some_iff.mp q1).1
        rw [List.nodup_cons] at nd
        refine named_spec k a0 (x :: sc) (fun z => if z = x then y else nm z) S2 S1.length _ lf ls _ (by omega) hs (by show dicC S2[S1.length]? = _; rw [q2]; rfl) (by omega) (by omega) (e2 _ _ q1) nd.2 ?_ ?_ (by omega) ?_
        · intro z hz
          by_cases e : z = x
          · subst e; rw [putD_self, if_pos rfl]
          · rw [putD_ne _ _ (by intro q; injection q with q; omega), if_neg e]
            rw [List.mem_cons] at hz
            exact hN z (hz.resolve_left e)
        · intro z hz
          by_cases e : z = x
          · rw [if_pos e]; exact nd.1
          · rw [if_neg e]
            rw [List.mem_cons] at hz
            exact fun q => hM z (hz.resolve_left e) (List.mem_cons_of_mem _ q)
        · intro S3 r ls3 e3 a3 b3 c3 hr
          have e4 : ExtB [lf] S S3 := ((o1.b (by simp)).trans (e2.b _)).trans e3
          have b4 : ∀ z ∈ ls3, z ∈ y :: ls := fun z hz => List.mem_cons_of_mem _ (b3 z hz)
          rcases hr with rfl | ⟨f', rfl, hr⟩
          · walk_at "s"
            exact hQ S3 _ ls3 e4 a3 b4 c3 (.inl rfl)
          · walk_at "s"
            refine r_ifF (by cases f' <;> rfl) ?_
            walk_at "s"
            refine hQ S3 _ ls3 e4 a3 b4 c3 (.inr ⟨.greatest y f', rfl, y, f', rfl, fun z hz _ q => hM z hz (q ▸ List.mem_cons_self), hr⟩)
    | both f1 f2 =>
      with_reducible refine r_seq ?_
      walk_at "n"
      with_reducible refine r_seq ?_
      walk_at "n"
      exact named_rest (f := .both f1 f2) (by omega) hl nd (fun ps hl h => by
          match ps, hl with
          | [a', b'], _ => exact ⟨a', b', rfl, h 0 _ _ rfl rfl, h 1 _ _ rfl rfl⟩) (hG (fun g hg => by
          simp only [Fm.parts, List.mem_cons, List.not_mem_nil, or_false] at hg
          rcases hg with rfl | rfl
          · exact hs.1
          · exact hs.2)) hQ rfl
    | either f1 f2 =>
      with_reducible refine r_seq ?_
      walk_at "n"
      with_reducible refine r_seq ?_
      walk_at "n"
      exact named_rest (f := .either f1 f2) (by omega) hl nd (fun ps hl h => by
          match ps, hl with
          | [a', b'], _ => exact ⟨a', b', rfl, h 0 _ _ rfl rfl, h 1 _ _ rfl rfl⟩) (hG (fun g hg => by
          simp only [Fm.parts, List.mem_cons, List.not_mem_nil, or_false] at hg
          rcases hg with rfl | rfl
          · exact hs.1
          · exact hs.2)) hQ rfl
    | some j f1 =>
      with_reducible refine r_seq ?_
      walk_at "n"
      with_reducible refine r_seq ?_
      walk_at "n"
      exact named_rest (f := .some j f1) (by omega) hl nd (fun ps hl h => by
          match ps, hl with
          | [a'], _ => exact ⟨a', rfl, h 0 _ _ rfl rfl⟩) (hG (fun g hg => by
          simp only [Fm.parts, List.mem_cons, List.not_mem_nil, or_false] at hg
          subst hg; exact hs.2)) hQ rfl
    | all j f1 =>
      with_reducible refine r_seq ?_
      walk_at "n"
      with_reducible refine r_seq ?_
      walk_at "n"
      exact named_rest (f := .all j f1) (by omega) hl nd (fun ps hl h => by
          match ps, hl with
          | [a'], _ => exact ⟨a', rfl, h 0 _ _ rfl rfl⟩) (hG (fun g hg => by
          simp only [Fm.parts, List.mem_cons, List.not_mem_nil, or_false] at hg
          subst hg; exact hs.2)) hQ rfl
    | yes =>
      with_reducible refine r_seq ?_
      walk_at "n"
      with_reducible refine r_seq ?_
      walk_at "n"
      exact named_rest (f := .yes) (by omega) hl nd (fun ps hl h => by
          match ps, hl with
          | [], _ => exact rfl) (hG (fun g hg => by
          simp [Fm.parts] at hg)) hQ rfl
    | no =>
      with_reducible refine r_seq ?_
      walk_at "n"
      with_reducible refine r_seq ?_
      walk_at "n"
      exact named_rest (f := .no) (by omega) hl nd (fun ps hl h => by
          match ps, hl with
          | [], _ => exact rfl) (hG (fun g hg => by
          simp [Fm.parts] at hg)) hQ rfl
    | is i =>
      with_reducible refine r_seq ?_
      walk_at "n"
      with_reducible refine r_seq ?_
      walk_at "n"
      exact named_rest (f := .is i) (by omega) hl nd (fun ps hl h => by
          match ps, hl with
          | [], _ => exact rfl) (hG (fun g hg => by
          simp [Fm.parts] at hg)) hQ rfl
    | isnt i =>
      with_reducible refine r_seq ?_
      walk_at "n"
      with_reducible refine r_seq ?_
      walk_at "n"
      exact named_rest (f := .isnt i) (by omega) hl nd (fun ps hl h => by
          match ps, hl with
          | [], _ => exact rfl) (hG (fun g hg => by
          simp [Fm.parts] at hg)) hQ rfl
/-- all names of f are bound: none is free -/
theorem free_spec {L0 L1 : Nat} : ∀ (k : Nat) (f : Fm) (bs : List Nat) (S : Store) (Q : PD), f.dp ≤ k → Sc L0 L1 bs f → bs.length + f.dp ≤ 100000 → (∀ S' r, Ext S S' → S.length ≤ r → S'[r]? = some (.dct []) → Q (.ref r) S') → F_free_in k [encF f, encP bs] S Q
  | 0, f, _, _, _, hd, _, _, _ => by cases f <;> simp [Fm.dp] at hd
  | k + 1, f, bs, S, Q, hd, hs, hb, hQ => by
    refine r_fn rfl ?_
    unfold b_free_in
    have rest : ∀ (bs' : List Nat) (E : EndsD), E.rt = Q → (∀ g ∈ f.parts, Sc L0 L1 bs' g ∧ bs'.length + g.dp ≤ 100000) →
        sSeq (sAsg eDict0 (gNm 3)) (sSeq (sFor (iSeqD (eCall F_parts_of (aCons (eVar 0) aNil))) (gNm 4) (sDrop (eMt "dict" updF (eVar 3) (aCons (eCall (F_free_in k) (aCons (eVar 4) (aCons (eVar 2) aNil))) aNil)))) (sRet (eVar 3))) E [some (encF f), some (encP bs), some (encP bs'), none, none] S := by
      intro bs' E hE hg
      subst hE
      have pf := parts_few f
      walk_at "s"
      refine r_iTup ?_
      walk_at "s"
      refine parts_spec ?_
      refine ⟨_, rfl, ?_⟩
      refine for_inv (fun i σ S' => ∃ s4 : Option D, σ = [some (encF f), some (encP bs), some (encP bs'), some (.ref S.length), s4] ∧ Ext S S' ∧ S'[S.length]? = some (.dct [])) ⟨_, rfl, Ext.app S _, new_at S _⟩ ?_ ?_
      · rintro i x σ S1 R hx ⟨s4, rfl, e1, c1⟩ hR
        refine ⟨trivial, ?_⟩
        rw [List.getElem?_map] at hx
        cases hg2 : f.parts[i]? with
        | none => rw [hg2] at hx; cases hx
        | some g =>
          rw [hg2] at hx
          cases hx
          have hm := List.mem_of_getElem? hg2
          have := parts_dp hm
          have l1 : S.length < S1.length := (List.getElem?_eq_some_iff.mp c1).1
          walk_at "s"
          refine r_tyDc c1 ?_
          walk_at "s"
          refine free_spec k g bs' S1 _ (by omega) (hg g hm).1 (hg g hm).2 fun S2 r e2 l2 h2 => ?_
          walk_at "s"
          refine r_updD (by omega) (e2 _ _ c1) (dct_at h2) (by decide) fun S3 q3 o3 => ?_
          walk_at "s"
          refine hR _ _ ⟨_, rfl, fun n c hc => ?_, q3⟩
          have : n < S.length := (List.getElem?_eq_some_iff.mp hc).1
          exact o3.ne (by omega) (e2 _ _ (e1 _ _ hc))
      · rintro σ S1 ⟨s4, rfl, e1, c1⟩
        refine ⟨trivial, ?_⟩
        walk_at "s"
        exact hQ S1 _ e1 (Nat.le_refl _) c1
    have add : ∀ x : Nat, D.tup ((bs.map fun k : Nat => D.int (k : Nat)) ++ [D.int (x : Nat)]) = encP (bs ++ [x]) := fun x => by simp [encP]
    have scs : ∀ (x : Nat) (g : Fm), Sc L0 L1 (x :: bs) g → Sc L0 L1 (bs ++ [x]) g := fun x g h => Sc.mono g _ _ h fun z hz => by
      rw [List.mem_cons] at hz
      rw [List.mem_append, List.mem_singleton]
      exact hz.symm
    cases f with
    | name x =>
      walk_at "s"
      refine in_nat ?_
      rw [decide_eq_true (show x ∈ bs from hs)]
      walk_at "s"
      exact hQ _ _ (Ext.app S _) (Nat.le_refl _) (new_at S _)
    | least x a =>
      have hb' : bs.length + (a.dp + 1) ≤ 100000 := hb
      with_reducible refine r_seq ?_
      walk_at "n"
      with_reducible refine r_seq ?_
      walk_at "n"
      refine r_addT (by simp only [List.length_map, sizeLine]; simp only [List.length_cons, List.length_nil]; omega) ?_
      rw [add x]
      walk_at "n"
      exact rest (bs ++ [x]) _ rfl fun g hg => by
        simp only [Fm.parts, List.mem_cons, List.not_mem_nil, or_false] at hg
        subst hg
        exact ⟨scs x g hs, by rw [List.length_append]; show _ + 1 + _ ≤ _; omega⟩
    | greatest x a =>
      have hb' : bs.length + (a.dp + 1) ≤ 100000 := hb
      with_reducible refine r_seq ?_
      walk_at "n"
      with_reducible refine r_seq ?_
      walk_at "n"
      refine r_addT (by simp only [List.length_map, sizeLine]; simp only [List.length_cons, List.length_nil]; omega) ?_
      rw [add x]
      walk_at "n"
      exact rest (bs ++ [x]) _ rfl fun g hg => by
        simp only [Fm.parts, List.mem_cons, List.not_mem_nil, or_false] at hg
        subst hg
        exact ⟨scs x g hs, by rw [List.length_append]; show _ + 1 + _ ≤ _; omega⟩
    | both f1 f2 =>
      with_reducible refine r_seq ?_
      walk_at "n"
      with_reducible refine r_seq ?_
      walk_at "n"
      exact rest bs _ rfl fun g hg => by
        have := parts_dp hg
        simp only [Fm.parts, List.mem_cons, List.not_mem_nil, or_false] at hg
        rcases hg with rfl | rfl
        · exact ⟨hs.1, by omega⟩
        · exact ⟨hs.2, by omega⟩
    | either f1 f2 =>
      with_reducible refine r_seq ?_
      walk_at "n"
      with_reducible refine r_seq ?_
      walk_at "n"
      exact rest bs _ rfl fun g hg => by
        have := parts_dp hg
        simp only [Fm.parts, List.mem_cons, List.not_mem_nil, or_false] at hg
        rcases hg with rfl | rfl
        · exact ⟨hs.1, by omega⟩
        · exact ⟨hs.2, by omega⟩
    | some j f1 =>
      with_reducible refine r_seq ?_
      walk_at "n"
      with_reducible refine r_seq ?_
      walk_at "n"
      exact rest bs _ rfl fun g hg => by
        have := parts_dp hg
        simp only [Fm.parts, List.mem_cons, List.not_mem_nil, or_false] at hg
        subst hg; exact ⟨hs.2, by omega⟩
    | all j f1 =>
      with_reducible refine r_seq ?_
      walk_at "n"
      with_reducible refine r_seq ?_
      walk_at "n"
      exact rest bs _ rfl fun g hg => by
        have := parts_dp hg
        simp only [Fm.parts, List.mem_cons, List.not_mem_nil, or_false] at hg
        subst hg; exact ⟨hs.2, by omega⟩
    | yes =>
      with_reducible refine r_seq ?_
      walk_at "n"
      with_reducible refine r_seq ?_
      walk_at "n"
      exact rest bs _ rfl fun g hg => by simp [Fm.parts] at hg
    | no =>
      with_reducible refine r_seq ?_
      walk_at "n"
      with_reducible refine r_seq ?_
      walk_at "n"
      exact rest bs _ rfl fun g hg => by simp [Fm.parts] at hg
    | is i =>
      with_reducible refine r_seq ?_
      walk_at "n"
      with_reducible refine r_seq ?_
      walk_at "n"
      exact rest bs _ rfl fun g hg => by simp [Fm.parts] at hg
    | isnt i =>
      with_reducible refine r_seq ?_
      walk_at "n"
      with_reducible refine r_seq ?_
      walk_at "n"
      exact rest bs _ rfl fun g hg => by simp [Fm.parts] at hg
theorem some_after_spec {L0 L1 : Nat} {t : Tm} {f : Fm} {S : Store} {Q : PD} (ht : OkT L0 L1 t) (hf : Sc L0 L1 [] f) (hd : t.dp ≤ 12) (hd2 : f.dp ≤ 12) (hd3 : f.dp + t.gw ≤ 24)
    (h : ∀ S' r, Ext S S' → (r = .non ∨ ∃ F, r = encF F ∧ ∃ nm, Ren [] nm (raw t f 0).1 F) → Q r S') : F_some_after [encT t, encF f] S Q := by
  refine r_fn rfl ?_
  unfold b_some_after
  walk_at "s"
  have p : 2 ^ t.dp ≤ 2 ^ 12 := Nat.pow_le_pow_right (by decide) hd
  refine raw_spec 12 t f 0 S.length [] _ _ hd (new_at S _) rfl (by omega) fun S1 x1 e1 h1 l1 => ?_
  have e1' : Ext S S1 := fun n c hc => by
    have : n < S.length := (List.getElem?_eq_some_iff.mp hc).1
    exact e1.2 n (by simp; omega) c (Ext.app S _ _ _ hc)
  walk_at "s"
  refine free_spec 12 f [] S1 _ hd2 hf (by show 0 + _ ≤ _; omega) fun S2 r e2 l2 h2 => ?_
  walk_at "s"
  refine r_rg (by decide) (by decide) fun few => ?_
  rw [show (20 : Int) = ((20 : Nat) : Int) from rfl, rng_map']
  refine lc_nats (fun k => true) (fun _ => rfl) (by decide) (fun k hk S3 P e3 hP => ?_) fun S3 e3 h3 => ?_
  · have q := e3 _ _ (Ext.app S2 _ _ _ h2)
    walk_at "s"
    refine r_inD (dct_at q) rfl ?_
    walk_at "s"
    exact hP S3 (.refl _)
  · walk_at "s"
    have n2 := e3 _ _ (new_at S2 (Cell.dct []))
    refine named_spec 24 (raw t f 0).1 [] (fun z => z) S3 S2.length [] _ _ _ ?_ (raw_sc t f 0 [] ht hf) (dct_at n2) (by simp) ?_ h3 ?_ (fun y hy => by cases hy) (fun y hy => by cases hy) (by decide) ?_
    · have := raw_dp t f 0
      omega
    · have := raw_dp t f 0
      show 0 + _ ≤ _
      omega
    · exact List.Pairwise.filter _ List.nodup_range
    · intro S4 r ls' e4 _ _ _ hr
      refine h S4 r (fun n c hc => ?_) (hr.imp id fun ⟨F, a, b⟩ => ⟨F, a, _, b⟩)
      have : n < S.length := (List.getElem?_eq_some_iff.mp hc).1
      have l1 := e1'.le
      have l2 := e2.le
      exact e4.2 n (by simp; omega) c (e3 _ _ (Ext.app S2 _ _ _ (e2 _ _ (e1' _ _ hc))))
end K35
/-! SM3: places alike, classes, folded worlds, in plain words. -/
namespace PG
section
variable {w : Wd} {L0 L1 : Nat}
/-- alike for k rounds -/
def ap (w : Wd) (L0 L1 : Nat) : Nat → Nat → Nat → Prop
  | 0, p, q => ∀ i, i < L0 → (p ∈ w.marks.getD i [] ↔ q ∈ w.marks.getD i [])
  | k + 1, p, q => ap w L0 L1 k p q ∧ ∀ j, j < L1 → (∀ g, g ∈ w.way j p → ∃ h, h ∈ w.way j q ∧ ap w L0 L1 k g h) ∧ (∀ h, h ∈ w.way j q → ∃ g, g ∈ w.way j p ∧ ap w L0 L1 k g h)
theorem ap_refl : ∀ k p, ap w L0 L1 k p p
  | 0, p => fun i _ => Iff.rfl
  | k + 1, p => ⟨ap_refl k p, fun j _ => ⟨fun g hg => ⟨g, hg, ap_refl k g⟩, fun g hg => ⟨g, hg, ap_refl k g⟩⟩⟩
theorem ap_symm : ∀ {k p q}, ap w L0 L1 k p q → ap w L0 L1 k q p
  | 0, p, q, h => fun i hi => (h i hi).symm
  | k + 1, p, q, h => ⟨ap_symm h.1, fun j hj => ⟨fun g hg => by
      obtain ⟨x, a, b⟩ := (h.2 j hj).2 g hg
      exact ⟨x, a, ap_symm b⟩, fun g hg => by
      obtain ⟨x, a, b⟩ := (h.2 j hj).1 g hg
      exact ⟨x, a, ap_symm b⟩⟩⟩
theorem ap_trans : ∀ {k p q r}, ap w L0 L1 k p q → ap w L0 L1 k q r → ap w L0 L1 k p r
  | 0, p, q, r, h1, h2 => fun i hi => (h1 i hi).trans (h2 i hi)
  | k + 1, p, q, r, h1, h2 => ⟨ap_trans h1.1 h2.1, fun j hj => ⟨fun g hg => by
      obtain ⟨x, a, b⟩ := (h1.2 j hj).1 g hg
      obtain ⟨y, c, d⟩ := (h2.2 j hj).1 x a
      exact ⟨y, c, ap_trans b d⟩, fun g hg => by
      obtain ⟨x, a, b⟩ := (h2.2 j hj).2 g hg
      obtain ⟨y, c, d⟩ := (h1.2 j hj).2 x a
      exact ⟨y, c, ap_trans d b⟩⟩⟩
theorem ap_le : ∀ {k} (d : Nat) {p q}, ap w L0 L1 (k + d) p q → ap w L0 L1 k p q
  | k, 0, p, q, h => h
  | k, d + 1, p, q, h => ap_le d h.1
def bis (w : Wd) (L0 L1 p q : Nat) : Prop := ∀ k, ap w L0 L1 k p q
theorem bis_refl (p : Nat) : bis w L0 L1 p p := fun k => ap_refl k p
theorem bis_symm {p q : Nat} (h : bis w L0 L1 p q) : bis w L0 L1 q p := fun k => ap_symm (h k)
theorem bis_trans {p q r : Nat} (h : bis w L0 L1 p q) (h2 : bis w L0 L1 q r) : bis w L0 L1 p r := fun k => ap_trans (h k) (h2 k)
theorem ap_stay (hw : OkW L0 L1 w) {i : Nat} (h : ∀ p q, p < w.n → q < w.n → ap w L0 L1 i p q → ap w L0 L1 (i + 1) p q) : ∀ d p q, p < w.n → q < w.n → ap w L0 L1 i p q → ap w L0 L1 (i + d) p q
  | 0, p, q, _, _, a => a
  | d + 1, p, q, hp, hq, a => by
    refine ⟨ap_stay hw h d p q hp hq a, fun j hj => ⟨fun g hg => ?_, fun g hg => ?_⟩⟩
    · obtain ⟨x, b, c⟩ := ((h p q hp hq a).2 j hj).1 g hg
      exact ⟨x, b, ap_stay hw h d g x (w.way_lt hw hg) (w.way_lt hw b) c⟩
    · obtain ⟨x, b, c⟩ := ((h p q hp hq a).2 j hj).2 g hg
      exact ⟨x, b, ap_stay hw h d x g (w.way_lt hw b) (w.way_lt hw hg) c⟩
theorem bis_of (hw : OkW L0 L1 w) {i : Nat} (h : ∀ p q, p < w.n → q < w.n → ap w L0 L1 i p q → ap w L0 L1 (i + 1) p q) {p q : Nat} (hp : p < w.n) (hq : q < w.n) (a : ap w L0 L1 i p q) : bis w L0 L1 p q := fun k => by
  have := ap_stay hw h k p q hp hq a
  rw [Nat.add_comm] at this
  exact ap_le i this
abbrev intsL (c : List Nat) : List Int := c.map fun k : Nat => (k : Int)
structure IsCl (w : Wd) (L0 L1 : Nat) (L : List (List Nat)) : Prop where
  st : ∃ i, ∀ p q, p < w.n → q < w.n → ap w L0 L1 i p q → bis w L0 L1 p q
  ok : ∀ c ∈ L, OkSub w.n c ∧ c ≠ []
  all : ∀ p, p < w.n → ∃ c ∈ L, p ∈ c
  cl : ∀ c ∈ L, ∀ p ∈ c, ∀ q, q ∈ c ↔ q < w.n ∧ bis w L0 L1 p q
  nd : L.Nodup
  srt : L.Pairwise fun a b => intsL a ≤ intsL b
variable {L L' : List (List Nat)}
theorem IsCl.one (C : IsCl w L0 L1 L) (C' : IsCl w L0 L1 L') {c c' : List Nat} (h : c ∈ L) (h' : c' ∈ L') {p q : Nat} (hp : p ∈ c) (hq : q ∈ c') (b : bis w L0 L1 p q) : c = c' := by
  refine ((C.ok c h).1).ext (C'.ok c' h').1 fun j => ?_
  rw [C.cl c h p hp, C'.cl c' h' q hq]
  exact ⟨fun z => ⟨z.1, bis_trans (bis_symm b) z.2⟩, fun z => ⟨z.1, bis_trans b z.2⟩⟩
theorem IsCl.sub (C : IsCl w L0 L1 L) (C' : IsCl w L0 L1 L') {c : List Nat} (h : c ∈ L) : c ∈ L' := by
  obtain ⟨ok, ne⟩ := C.ok c h
  cases c with
  | nil => exact absurd rfl ne
  | cons p r =>
    obtain ⟨c', h', hp⟩ := C'.all p (ok.2 p List.mem_cons_self)
    rw [C.one C' h h' List.mem_cons_self hp (bis_refl p)]
    exact h'
theorem intsL_inj {a b : List Nat} (h : intsL a = intsL b) : a = b := by
  induction a generalizing b with
  | nil => cases b with
    | nil => rfl
    | cons => cases h
  | cons x a ih => cases b with
    | nil => cases h
    | cons y b =>
      simp only [intsL, List.map_cons, List.cons.injEq] at h
      rw [ih h.2]
      have := h.1
      rw [show x = y by omega]
theorem IsCl.uniq (C : IsCl w L0 L1 L) (C' : IsCl w L0 L1 L') : L = L' := by
  have p : L.Perm L' := (List.perm_ext_iff_of_nodup C.nd C'.nd).mpr fun c => ⟨C.sub C', C'.sub C⟩
  exact List.Perm.eq_of_pairwise (le := fun a b => intsL a ≤ intsL b) (fun a b _ _ h1 h2 => intsL_inj (List.le_antisymm h1 h2)) C.srt C'.srt p
def ownL (L : List (List Nat)) (p : Nat) : Nat := L.findIdx fun c => decide (p ∈ c)
theorem IsCl.own (C : IsCl w L0 L1 L) {p : Nat} (hp : p < w.n) : ∃ h : ownL L p < L.length, p ∈ L[ownL L p] := by
  obtain ⟨c, h, hc⟩ := C.all p hp
  have lt : ownL L p < L.length := List.findIdx_lt_length_of_exists ⟨c, h, by simpa using hc⟩
  refine ⟨lt, ?_⟩
  have := List.findIdx_getElem (xs := L) (p := fun c => decide (p ∈ c)) (w := lt)
  exact of_decide_eq_true this
theorem IsCl.own_eq (C : IsCl w L0 L1 L) {p k : Nat} (hk : k < L.length) (h : p ∈ L[k]) : ownL L p = k := by
  have hp := ((C.ok _ (List.getElem_mem hk)).1).2 p h
  obtain ⟨lt, hm⟩ := C.own hp
  have := C.one C (List.getElem_mem lt) (List.getElem_mem hk) hm h (bis_refl p)
  exact (List.getElem_inj C.nd).mp this
theorem IsCl.own_iff (C : IsCl w L0 L1 L) {p q : Nat} (hp : p < w.n) (hq : q < w.n) : ownL L p = ownL L q ↔ bis w L0 L1 p q := by
  obtain ⟨l1, h1⟩ := C.own hp
  obtain ⟨l2, h2⟩ := C.own hq
  constructor
  · intro e
    have : q ∈ L[ownL L p] := by
      have : L[ownL L p] = L[ownL L q] := by congr 1
      rw [this]; exact h2
    exact ((C.cl _ (List.getElem_mem l1) p h1 q).mp this).2
  · intro b
    have := C.one C (List.getElem_mem l1) (List.getElem_mem l2) h1 h2 b
    exact (List.getElem_inj C.nd).mp this
/-- the first place of a class -/
def hd (c : List Nat) : Nat := c.headD 0
theorem hd_mem {c : List Nat} (h : c ≠ []) : hd c ∈ c := by
  cases c with
  | nil => exact absurd rfl h
  | cons a b => exact List.mem_cons_self
def fold (w : Wd) (L : List (List Nat)) : Wd :=
  ⟨L.length, w.marks.map fun m => canon L.length fun k => decide (hd (L.getD k []) ∈ m), w.ways.map fun r => L.map fun c => canon L.length fun k => (r.getD (hd c) []).any fun g => decide (ownL L g = k)⟩
theorem fold_ok (hw : OkW L0 L1 w) (C : IsCl w L0 L1 L) : OkW L0 L1 (fold w L) where
  pos := by
    obtain ⟨c, h, _⟩ := C.all 0 hw.pos
    exact List.length_pos_of_mem h
  marks := by show (w.marks.map _).length = _; rw [List.length_map]; exact hw.marks
  mark := fun m hm => by
    obtain ⟨x, _, rfl⟩ := List.mem_map.mp hm
    exact canon_ok _ _
  ways := by show (w.ways.map _).length = _; rw [List.length_map]; exact hw.ways
  rows := fun r hr => by
    obtain ⟨x, _, rfl⟩ := List.mem_map.mp hr
    rw [List.length_map]; rfl
  row := fun r hr ks hk => by
    obtain ⟨x, _, rfl⟩ := List.mem_map.mp hr
    obtain ⟨c, _, rfl⟩ := List.mem_map.mp hk
    exact canon_ok _ _
/-- v is w, folded by o -/
structure Fold (w v : Wd) (L0 L1 : Nat) (o : Nat → Nat) : Prop where
  lt : ∀ p, p < w.n → o p < v.n
  on : ∀ c, c < v.n → ∃ p, p < w.n ∧ o p = c
  marks : ∀ i, i < L0 → ∀ p, p < w.n → (p ∈ w.marks.getD i [] ↔ o p ∈ v.marks.getD i [])
  forth : ∀ j, j < L1 → ∀ p g, g ∈ w.way j p → o g ∈ v.way j (o p)
  back : ∀ j, j < L1 → ∀ p, p < w.n → ∀ c, c ∈ v.way j (o p) → ∃ g, g ∈ w.way j p ∧ o g = c
theorem way_lt1 (hw : OkW L0 L1 w) {j k g : Nat} (h : g ∈ w.way j k) : k < w.n := by
  unfold Wd.way at h
  rw [List.getD_eq_getElem?_getD, List.getD_eq_getElem?_getD] at h
  cases e : w.ways[j]? with
  | none => rw [e] at h; simp at h
  | some r =>
    rw [e, Option.getD_some] at h
    have hl := hw.rows r (List.mem_of_getElem? e)
    cases e2 : r[k]? with
    | none => rw [e2] at h; simp at h
    | some ks => rw [← hl]; exact (List.getElem?_eq_some_iff.mp e2).1
theorem fold_way (hw : OkW L0 L1 w) {j k : Nat} (hj : j < L1) (hk : k < L.length) : (fold w L).way j k = canon L.length fun c => (w.way j (hd L[k])).any fun g => decide (ownL L g = c) := by
  have hl : j < w.ways.length := by rw [hw.ways]; exact hj
  unfold Wd.way fold
  simp only [List.getD_eq_getElem?_getD, List.getElem?_map, List.getElem?_eq_getElem hl, List.getElem?_eq_getElem hk, Option.map_some, Option.getD_some]
theorem IsCl.step (hw : OkW L0 L1 w) (C : IsCl w L0 L1 L) {p q j g : Nat} (b : bis w L0 L1 p q) (hj : j < L1) (hg : g ∈ w.way j p) : ∃ h, h ∈ w.way j q ∧ bis w L0 L1 g h := by
  obtain ⟨i, st⟩ := C.st
  obtain ⟨h, h1, h2⟩ := ((b (i + 1)).2 j hj).1 g hg
  exact ⟨h, h1, st g h (w.way_lt hw hg) (w.way_lt hw h1) h2⟩
theorem fold_is (hw : OkW L0 L1 w) (C : IsCl w L0 L1 L) : Fold w (fold w L) L0 L1 (ownL L) where
  lt := fun p hp => (C.own hp).1
  on := fun c hc => by
    have hc : c < L.length := hc
    obtain ⟨ok, ne⟩ := C.ok _ (List.getElem_mem hc)
    exact ⟨hd L[c], ok.2 _ (hd_mem ne), C.own_eq hc (hd_mem ne)⟩
  marks := fun i hi p hp => by
    have hl : i < w.marks.length := by rw [hw.marks]; exact hi
    obtain ⟨lt, hm⟩ := C.own hp
    have ne := (C.ok _ (List.getElem_mem lt)).2
    have b := ((C.cl _ (List.getElem_mem lt) p hm (hd L[ownL L p])).mp (hd_mem ne)).2 0 i hi
    have e : (fold w L).marks.getD i [] = canon L.length fun k => decide (hd (L.getD k []) ∈ w.marks.getD i []) := by
      unfold fold
      simp only [List.getD_eq_getElem?_getD, List.getElem?_map, List.getElem?_eq_getElem hl, Option.map_some, Option.getD_some]
    rw [e, mem_canon, decide_eq_true_eq, List.getD_eq_getElem?_getD (l := L), List.getElem?_eq_getElem lt, Option.getD_some]
    exact ⟨fun z => ⟨lt, b.mp z⟩, fun z => b.mpr z.2⟩
  forth := fun j hj p g hg => by
    have hp := way_lt1 hw hg
    obtain ⟨lt, hm⟩ := C.own hp
    have ne := (C.ok _ (List.getElem_mem lt)).2
    have b := ((C.cl _ (List.getElem_mem lt) p hm (hd L[ownL L p])).mp (hd_mem ne)).2
    obtain ⟨h, h1, h2⟩ := C.step hw b hj hg
    rw [fold_way hw hj lt, mem_canon, List.any_eq_true]
    exact ⟨(C.own (w.way_lt hw hg)).1, h, h1, decide_eq_true ((C.own_iff (w.way_lt hw h1) (w.way_lt hw hg)).mpr (bis_symm h2))⟩
  back := fun j hj p hp c hc => by
    obtain ⟨lt, hm⟩ := C.own hp
    have ne := (C.ok _ (List.getElem_mem lt)).2
    have b := ((C.cl _ (List.getElem_mem lt) p hm (hd L[ownL L p])).mp (hd_mem ne)).2
    rw [fold_way hw hj lt, mem_canon, List.any_eq_true] at hc
    obtain ⟨h1, g, h2, h3⟩ := hc
    obtain ⟨h, h4, h5⟩ := C.step hw (bis_symm b) hj h2
    refine ⟨h, h4, ?_⟩
    rw [← of_decide_eq_true h3]
    exact (C.own_iff (w.way_lt hw h4) (w.way_lt hw h2)).mpr (bis_symm h5)
/-- what a folded world says -/
theorem sem_fold {v : Wd} {o : Nat → Nat} (hw : OkW L0 L1 w) (hv : OkW L0 L1 v) (F : Fold w v L0 L1 o) : ∀ (f : Fm) (sc : List Nat) (ρ ρ' : Env), Sc L0 L1 sc f → EnvOk w.n ρ → EnvOk v.n ρ' → (∀ x p, p < w.n → (p ∈ ρ x ↔ o p ∈ ρ' x)) → ∀ p, p < w.n → (p ∈ sem w f ρ ↔ o p ∈ sem v f ρ')
  | .yes, _, _, _, _, _, _, _, p, hp => by simp only [sem, List.mem_range]; exact ⟨fun _ => F.lt p hp, fun _ => hp⟩
  | .no, _, _, _, _, _, _, _, p, hp => by simp only [sem]; simp
  | .is i, _, _, _, hs, _, _, _, p, hp => by
    simp only [sem, mem_canon, decide_eq_true_eq, F.marks i hs p hp]
    exact ⟨fun z => ⟨F.lt p hp, z.2⟩, fun z => ⟨hp, z.2⟩⟩
  | .isnt i, _, _, _, hs, _, _, _, p, hp => by
    simp only [sem, mem_canon, Bool.not_eq_true', decide_eq_false_iff_not, F.marks i hs p hp]
    exact ⟨fun z => ⟨F.lt p hp, z.2⟩, fun z => ⟨hp, z.2⟩⟩
  | .name x, _, _, _, _, _, _, h, p, hp => h x p hp
  | .both a b, sc, ρ, ρ', hs, h1, h2, h, p, hp => by
    simp only [sem, mem_canon, Bool.and_eq_true, decide_eq_true_eq, sem_fold hw hv F a sc ρ ρ' hs.1 h1 h2 h p hp, sem_fold hw hv F b sc ρ ρ' hs.2 h1 h2 h p hp]
    exact ⟨fun z => ⟨F.lt p hp, z.2⟩, fun z => ⟨hp, z.2⟩⟩
  | .either a b, sc, ρ, ρ', hs, h1, h2, h, p, hp => by
    simp only [sem, mem_canon, Bool.or_eq_true, decide_eq_true_eq, sem_fold hw hv F a sc ρ ρ' hs.1 h1 h2 h p hp, sem_fold hw hv F b sc ρ ρ' hs.2 h1 h2 h p hp]
    exact ⟨fun z => ⟨F.lt p hp, z.2⟩, fun z => ⟨hp, z.2⟩⟩
  | .some j a, sc, ρ, ρ', hs, h1, h2, h, p, hp => by
    have ih := sem_fold hw hv F a sc ρ ρ' hs.2 h1 h2 h
    simp only [sem, mem_canon, List.any_eq_true, decide_eq_true_eq]
    constructor
    · rintro ⟨_, g, a1, a2⟩
      exact ⟨F.lt p hp, o g, F.forth j hs.1 p g a1, (ih g (w.way_lt hw a1)).mp a2⟩
    · rintro ⟨_, c, a1, a2⟩
      obtain ⟨g, a3, rfl⟩ := F.back j hs.1 p hp c a1
      exact ⟨hp, g, a3, (ih g (w.way_lt hw a3)).mpr a2⟩
  | .all j a, sc, ρ, ρ', hs, h1, h2, h, p, hp => by
    have ih := sem_fold hw hv F a sc ρ ρ' hs.2 h1 h2 h
    simp only [sem, mem_canon, List.all_eq_true, decide_eq_true_eq]
    constructor
    · rintro ⟨_, a1⟩
      refine ⟨F.lt p hp, fun c hc => ?_⟩
      obtain ⟨g, a3, rfl⟩ := F.back j hs.1 p hp c hc
      exact (ih g (w.way_lt hw a3)).mp (a1 g a3)
    · rintro ⟨_, a1⟩
      exact ⟨hp, fun g hg => (ih g (w.way_lt hw hg)).mpr (a1 _ (F.forth j hs.1 p g hg))⟩
  | .least x a, sc, ρ, ρ', hs, h1, h2, h, p, hp => by
    have ih := fun X Y (hX : OkSub w.n X) (hY : OkSub v.n Y) (e : ∀ p, p < w.n → (p ∈ X ↔ o p ∈ Y)) => sem_fold hw hv F a (x :: sc) (up ρ x X) (up ρ' x Y) hs (h1.up hX x) (h2.up hY x) (fun y q hq => by
      unfold up
      split
      · exact e q hq
      · exact h y q hq)
    have o1 := fun X (hX : OkSub w.n X) => sem_ok w a (up ρ x X) (h1.up hX x)
    have o2 := fun X (hX : OkSub v.n X) => sem_ok v a (up ρ' x X) (h2.up hX x)
    have m1 := fun X Y (hX : Sub X Y) => sem_mono w a _ _ (up_mono (fun y => (fun _ z => z : Sub (ρ y) (ρ y))) hX x)
    have m2 := fun X Y (hX : Sub X Y) => sem_mono v a _ _ (up_mono (fun y => (fun _ z => z : Sub (ρ' y) (ρ' y))) hX x)
    have key : ∀ t p, p < w.n → (p ∈ it (fun X => sem w a (up ρ x X)) t [] ↔ o p ∈ it (fun X => sem v a (up ρ' x X)) t []) := by
      intro t
      induction t with
      | zero => intro p _; simp [it]
      | succ t iht => exact fun p hp => ih _ _ (it_ok o1 (nil_ok _) t) (it_ok o2 (nil_ok _) t) iht p hp
    have r1 := it_at (up_rest m1 o1) (max w.n v.n) (Nat.le_max_left _ _)
    have r2 := it_at (up_rest m2 o2) (max w.n v.n) (Nat.le_max_right _ _)
    simp only [sem]
    rw [← r1, ← r2]
    exact key _ p hp
  | .greatest x a, sc, ρ, ρ', hs, h1, h2, h, p, hp => by
    have ih := fun X Y (hX : OkSub w.n X) (hY : OkSub v.n Y) (e : ∀ p, p < w.n → (p ∈ X ↔ o p ∈ Y)) => sem_fold hw hv F a (x :: sc) (up ρ x X) (up ρ' x Y) hs (h1.up hX x) (h2.up hY x) (fun y q hq => by
      unfold up
      split
      · exact e q hq
      · exact h y q hq)
    have o1 := fun X (hX : OkSub w.n X) => sem_ok w a (up ρ x X) (h1.up hX x)
    have o2 := fun X (hX : OkSub v.n X) => sem_ok v a (up ρ' x X) (h2.up hX x)
    have m1 := fun X Y (hX : Sub X Y) => sem_mono w a _ _ (up_mono (fun y => (fun _ z => z : Sub (ρ y) (ρ y))) hX x)
    have m2 := fun X Y (hX : Sub X Y) => sem_mono v a _ _ (up_mono (fun y => (fun _ z => z : Sub (ρ' y) (ρ' y))) hX x)
    have key : ∀ t p, p < w.n → (p ∈ it (fun X => sem w a (up ρ x X)) t (List.range w.n) ↔ o p ∈ it (fun X => sem v a (up ρ' x X)) t (List.range v.n)) := by
      intro t
      induction t with
      | zero => intro p hp; simp only [it, List.mem_range]; exact ⟨fun _ => F.lt p hp, fun _ => hp⟩
      | succ t iht => exact fun p hp => ih _ _ (it_ok o1 (range_ok _) t) (it_ok o2 (range_ok _) t) iht p hp
    have r1 := it_at (down_rest m1 o1) (max w.n v.n) (Nat.le_max_left _ _)
    have r2 := it_at (down_rest m2 o2) (max w.n v.n) (Nat.le_max_right _ _)
    simp only [sem]
    rw [← r1, ← r2]
    exact key _ p hp
end
end PG
/-! SPb: worlds side by side; marks at a place; keys of classes. -/
namespace PG
open PySem L2 SD
def bes (a b : Wd) : Wd := ⟨a.n + b.n, (a.marks.zip b.marks).map fun p => p.1 ++ p.2.map (· + a.n), (a.ways.zip b.ways).map fun p => p.1 ++ p.2.map fun r => r.map (· + a.n)⟩
theorem zip_enc {α : Type} (enc : α → D) (xs ys : List α) : ((xs.map enc).zip (ys.map enc)).map (fun p => D.tup [p.1, p.2]) = (xs.zip ys).map fun p => D.tup [enc p.1, enc p.2] := by
  rw [List.zip_map, List.map_map]; rfl
theorem shift_map (n : Nat) (ks : List Nat) : (ks.map fun k : Nat => D.int ((k : Int) + (n : Nat))) = (ks.map (· + n)).map fun k : Nat => D.int (k : Nat) := by
  rw [List.map_map]
  exact List.map_congr_left fun k _ => by show D.int ((k : Int) + (n : Nat)) = D.int ((k + n : Nat) : Int); rw [Int.natCast_add]
theorem beside_spec {L0 L1 : Nat} {a b : Wd} (ha : OkW L0 L1 a) (hb : OkW L0 L1 b) (an : a.n ≤ 1000) (bn : b.n ≤ 1000) (l0 : L0 ≤ 1000) (l1 : L1 ≤ 1000) {S : Store} {Q : PD} (h : ∀ S', Ext S S' → Q (encW (bes a b)) S') : F_beside [encW a, encW b] S Q := by
  refine r_fn rfl ?_
  unfold b_beside
  have z1 : a.marks.length = b.marks.length := ha.marks.trans hb.marks.symm
  have z2 : a.ways.length = b.ways.length := ha.ways.trans hb.ways.symm
  have q1 : (a.marks.zip b.marks).length = L0 := by rw [List.length_zip, ha.marks, hb.marks, Nat.min_self]
  have q2 : (a.ways.zip b.ways).length = L1 := by rw [List.length_zip, ha.ways, hb.ways, Nat.min_self]
  walk_at "s"
  refine ⟨_, _, rfl, by rw [List.length_map, List.length_map, z1]; exact Nat.le_refl _, by rw [List.length_map, List.length_map, z1]; exact Nat.le_refl _, ?_⟩
  rw [zip_enc]
  refine for_inv (fun i σ S' => ∃ s4 s5 : Option D, σ = [some (encW a), some (encW b), some (.int (a.n : Nat)), some (.ref S.length), s4, s5, none, none, none] ∧ Ext S S' ∧ S'[S.length]? = some (.lst (((a.marks.zip b.marks).take i).map fun p => encP (p.1 ++ p.2.map (· + a.n))))) ?_ ?_ ?_
  · exact ⟨_, _, rfl, Ext.app S _, new_at S _⟩
  · rintro i x σ S1 R hx ⟨s4, s5, rfl, e1, c1⟩ hR
    refine ⟨trivial, ?_⟩
    rw [List.getElem?_map] at hx
    cases hq : (a.marks.zip b.marks)[i]? with
    | none => rw [hq] at hx; cases hx
    | some p =>
      rw [hq] at hx
      cases hx
      obtain ⟨u, v⟩ := p
      have hm := List.of_mem_zip (List.mem_of_getElem? hq)
      have lu := (ha.mark u hm.1).le
      have lv := (hb.mark v hm.2).le
      have li : i < L0 := by rw [← q1]; exact (List.getElem?_eq_some_iff.mp hq).1
      walk_at "s"
      refine r_tyL c1 ?_
      walk_at "s"
      refine r_iTup ?_
      walk_at "s"
      refine ⟨_, rfl, ?_⟩
      intro few
      refine lc_each v (fun k : Nat => .int (k : Nat)) (fun k : Nat => .int ((k : Int) + (a.n : Nat))) (by simp only [sizeLine]; omega) (fun _ _ => trivial) (fun g hg S2 P e2 hP => ?_) fun S2 e2 h2 => ?_
      · walk_at "s"
        exact hP S2 (.refl _)
      · rw [shift_map] at h2
        have c2 := e2 _ _ c1
        walk_at "s"
        refine r_tuple (lst_sq h2) ?_
        refine r_addT (by simp only [List.length_map, sizeLine]; omega) ?_
        walk_at "s"
        refine r_app c2 (by simp only [List.length_map, List.length_take, sizeLine]; omega) fun S3 q3 o3 => ?_
        walk_at "s"
        refine hR _ _ ⟨_, _, rfl, fun n c hc => ?_, ?_⟩
        · have : n < S.length := (List.getElem?_eq_some_iff.mp hc).1
          exact o3.ne (by omega) (e2 _ _ (e1 _ _ hc))
        · rw [q3, List.take_add_one, hq, List.map_append]
          simp [encP]
  rintro σ S1 ⟨s4, s5, rfl, e1, c1⟩
  refine ⟨trivial, ?_⟩
  rw [List.length_map, List.take_length] at c1
  walk_at "s"
  refine ⟨_, _, rfl, by rw [List.length_map, List.length_map, z2]; exact Nat.le_refl _, by rw [List.length_map, List.length_map, z2]; exact Nat.le_refl _, ?_⟩
  rw [zip_enc]
  refine for_inv (fun i σ S' => ∃ s4 s5 : Option D, σ = [some (encW a), some (encW b), some (.int (a.n : Nat)), some (.ref S.length), s4, s5, some (.ref S1.length), none, none] ∧ Ext S1 S' ∧ S'[S1.length]? = some (.lst (((a.ways.zip b.ways).take i).map fun p => encR (p.1 ++ p.2.map fun r => r.map (· + a.n))))) ?_ ?_ ?_
  · exact ⟨_, _, rfl, Ext.app S1 _, new_at S1 _⟩
  · rintro i x σ S2 R hx ⟨s4, s5, rfl, e2, c2⟩ hR
    refine ⟨trivial, ?_⟩
    rw [List.getElem?_map] at hx
    cases hq : (a.ways.zip b.ways)[i]? with
    | none => rw [hq] at hx; cases hx
    | some p =>
      rw [hq] at hx
      cases hx
      obtain ⟨u, v⟩ := p
      have hm := List.of_mem_zip (List.mem_of_getElem? hq)
      have lu := ha.rows u hm.1
      have lv := hb.rows v hm.2
      have li : i < L1 := by rw [← q2]; exact (List.getElem?_eq_some_iff.mp hq).1
      walk_at "s"
      refine r_tyL c2 ?_
      walk_at "s"
      refine r_iTup ?_
      walk_at "s"
      refine ⟨_, rfl, ?_⟩
      intro few
      refine lc_each v encP (fun r : List Nat => encP (r.map (· + a.n))) (by simp only [sizeLine]; omega) (fun _ _ => trivial) (fun r hr S3 P e3 hP => ?_) fun S3 e3 h3 => ?_
      · have lr := (hb.row v hm.2 r hr).le
        walk_at "s"
        refine r_iTup ?_
        walk_at "s"
        refine ⟨_, rfl, ?_⟩
        intro few
        refine lc_each r (fun k : Nat => .int (k : Nat)) (fun k : Nat => .int ((k : Int) + (a.n : Nat))) (by simp only [sizeLine]; omega) (fun _ _ => trivial) (fun g hg S4 P4 e4 hP4 => ?_) fun S4 e4 h4 => ?_
        · walk_at "s"
          exact hP4 S4 (.refl _)
        · rw [shift_map] at h4
          walk_at "s"
          exact r_tuple (lst_sq h4) (hP S4 e4)
      · have c3 := e3 _ _ c2
        walk_at "s"
        refine r_tuple (lst_sq h3) ?_
        refine r_addT (xs := u.map encP) (by simp only [List.length_map, sizeLine]; omega) ?_
        walk_at "s"
        refine r_app c3 (by simp only [List.length_map, List.length_take, sizeLine]; omega) fun S4 q4 o4 => ?_
        walk_at "s"
        refine hR _ _ ⟨_, _, rfl, fun n c hc => ?_, ?_⟩
        · have : n < S1.length := (List.getElem?_eq_some_iff.mp hc).1
          exact o4.ne (by omega) (e3 _ _ (e2 _ _ hc))
        · rw [q4, List.take_add_one, hq, List.map_append]
          simp [encR]
  rintro σ S2 ⟨s4, s5, rfl, e2, c2⟩
  refine ⟨trivial, ?_⟩
  rw [List.length_map, List.take_length] at c2
  walk_at "s"
  refine r_tuple (lst_sq (e2 _ _ c1)) ?_
  walk_at "s"
  refine r_tuple (lst_sq c2) ?_
  walk_at "s"
  have fin := h S2 (e1.trans e2)
  have en : encW (bes a b) = .tup [.int ((a.n : Int) + (b.n : Nat)), .tup ((a.marks.zip b.marks).map fun p => encP (p.1 ++ p.2.map (· + a.n))), .tup ((a.ways.zip b.ways).map fun p => encR (p.1 ++ p.2.map fun r => r.map (· + a.n)))] := by
    unfold encW bes
    rw [List.map_map, List.map_map]
    simp only [Int.natCast_add]
    rfl
  rw [en] at fin
  exact fin
theorem OkSub.shift {n m : Nat} {x y : List Nat} (hx : OkSub n x) (hy : OkSub m y) : OkSub (n + m) (x ++ y.map (· + n)) := by
  refine ⟨?_, fun k hk => ?_⟩
  · rw [List.pairwise_append]
    refine ⟨hx.1, ?_, fun a ha b hb => ?_⟩
    · rw [List.pairwise_map]
      exact hy.1.imp fun z => by omega
    · obtain ⟨c, _, rfl⟩ := List.mem_map.mp hb
      have := hx.2 a ha
      omega
  · rcases List.mem_append.mp hk with hk | hk
    · have := hx.2 k hk; omega
    · obtain ⟨c, hc, rfl⟩ := List.mem_map.mp hk
      have := hy.2 c hc
      omega
theorem OkSub.shift1 {n m : Nat} {y : List Nat} (hy : OkSub m y) : OkSub (n + m) (y.map (· + n)) := by
  have := (nil_ok n).shift hy
  simpa using this
theorem bes_ok {L0 L1 : Nat} {a b : Wd} (ha : OkW L0 L1 a) (hb : OkW L0 L1 b) : OkW L0 L1 (bes a b) where
  pos := by have := ha.pos; show 1 ≤ a.n + b.n; omega
  marks := by show (List.map _ _).length = _; rw [List.length_map, List.length_zip, ha.marks, hb.marks, Nat.min_self]
  mark := fun m hm => by
    obtain ⟨p, hp, rfl⟩ := List.mem_map.mp hm
    have h := List.of_mem_zip hp
    exact (ha.mark _ h.1).shift (hb.mark _ h.2)
  ways := by show (List.map _ _).length = _; rw [List.length_map, List.length_zip, ha.ways, hb.ways, Nat.min_self]
  rows := fun r hr => by
    obtain ⟨p, hp, rfl⟩ := List.mem_map.mp hr
    have h := List.of_mem_zip hp
    rw [List.length_append, List.length_map, ha.rows _ h.1, hb.rows _ h.2]; rfl
  row := fun r hr ks hk => by
    obtain ⟨p, hp, rfl⟩ := List.mem_map.mp hr
    have h := List.of_mem_zip hp
    rcases List.mem_append.mp hk with hk | hk
    · have := ha.row _ h.1 ks hk
      exact ⟨this.1, fun k hk => by have := this.2 k hk; show k < a.n + b.n; omega⟩
    · obtain ⟨c, hc, rfl⟩ := List.mem_map.mp hk
      exact (hb.row _ h.2 c hc).shift1
theorem getD_zip {α : Type} {f : α × α → α} {xs ys : List α} {d : α} {j : Nat} (hx : j < xs.length) (hy : j < ys.length) : ((xs.zip ys).map f).getD j d = f (xs.getD j d, ys.getD j d) := by
  rw [List.getD_eq_getElem?_getD, List.getElem?_map, List.getD_eq_getElem?_getD, List.getD_eq_getElem?_getD, List.getElem?_eq_getElem hx, List.getElem?_eq_getElem hy, List.getElem?_eq_getElem (by rw [List.length_zip]; omega), List.getElem_zip]; rfl
theorem bes_mark {L0 L1 : Nat} {a b : Wd} (ha : OkW L0 L1 a) (hb : OkW L0 L1 b) {i : Nat} (hi : i < L0) : (bes a b).marks.getD i [] = a.marks.getD i [] ++ (b.marks.getD i []).map (· + a.n) :=
  getD_zip (by rw [ha.marks]; exact hi) (by rw [hb.marks]; exact hi)
theorem bes_way1 {L0 L1 : Nat} {a b : Wd} (ha : OkW L0 L1 a) (hb : OkW L0 L1 b) {j k : Nat} (hj : j < L1) (hk : k < a.n) : (bes a b).way j k = a.way j k := by
  have hl : j < a.ways.length := by rw [ha.ways]; exact hj
  have e : (bes a b).ways.getD j [] = a.ways.getD j [] ++ (b.ways.getD j []).map fun r => r.map (· + a.n) := getD_zip hl (by rw [hb.ways]; exact hj)
  have hr : (a.ways.getD j []).length = a.n := by
    rw [List.getD_eq_getElem?_getD, List.getElem?_eq_getElem hl, Option.getD_some]
    exact ha.rows _ (List.getElem_mem hl)
  unfold Wd.way
  rw [e, List.getD_eq_getElem?_getD, List.getElem?_append_left (by rw [hr]; exact hk), ← List.getD_eq_getElem?_getD]
theorem bes_way2 {L0 L1 : Nat} {a b : Wd} (ha : OkW L0 L1 a) (hb : OkW L0 L1 b) {j k : Nat} (hj : j < L1) : (bes a b).way j (k + a.n) = (b.way j k).map (· + a.n) := by
  have hl : j < a.ways.length := by rw [ha.ways]; exact hj
  have e : (bes a b).ways.getD j [] = a.ways.getD j [] ++ (b.ways.getD j []).map fun r => r.map (· + a.n) := getD_zip hl (by rw [hb.ways]; exact hj)
  have hr : (a.ways.getD j []).length = a.n := by
    rw [List.getD_eq_getElem?_getD, List.getElem?_eq_getElem hl, Option.getD_some]
    exact ha.rows _ (List.getElem_mem hl)
  unfold Wd.way
  rw [e, List.getD_eq_getElem?_getD, List.getElem?_append_right (by rw [hr]; omega), hr, Nat.add_sub_cancel, List.getElem?_map]
  cases q : (b.ways.getD j [])[k]? with
  | none => rw [List.getD_eq_getElem?_getD, q]; rfl
  | some r => rw [List.getD_eq_getElem?_getD, q]; rfl
/-! ### marks at a place -/
def mks (w : Wd) (p : Nat) : List Nat := canon w.marks.length fun i => decide (p ∈ w.marks.getD i [])
theorem marks_at_spec {L0 L1 : Nat} {w : Wd} (hw : OkW L0 L1 w) (l0 : L0 ≤ 1000) (hn : w.n ≤ 1000) {p : Nat} {S : Store} {Q : PD} (h : ∀ S', Ext S S' → Q (encP (mks w p)) S') : F_marks_at [encW w, .int (p : Nat)] S Q := by
  refine r_fn rfl ?_
  unfold b_marks_at
  have hl : (w.marks.map encP).length = L0 := by rw [List.length_map]; exact hw.marks
  walk_at "s"
  refine r_len rfl ?_
  rw [hl]
  walk_at "s"
  refine r_rg (by omega) (by omega) fun few => ?_
  rw [rng_map']
  refine lc_nats (fun i => decide (p ∈ w.marks.getD i [])) (fun _ => rfl) (by rw [List.length_range]; omega) (fun i hi S1 P e1 hP => ?_) fun S1 e1 h1 => ?_
  · obtain ⟨m1, m2⟩ := mark_at hw (List.mem_range.mp hi)
    walk_at "s"
    refine r_ixT m1 ?_
    refine in_nat ?_
    walk_at "s"
    exact hP S1 (.refl _)
  · walk_at "s"
    refine r_tuple (lst_sq h1) ?_
    have := h S1 e1
    unfold mks canon at this
    rw [hw.marks] at this
    exact this
theorem mks_eq {L0 L1 : Nat} {w : Wd} (hw : OkW L0 L1 w) {p q : Nat} : mks w p = mks w q ↔ ap w L0 L1 0 p q := by
  constructor
  · intro e i hi
    have : i ∈ mks w p ↔ i ∈ mks w q := by rw [e]
    unfold mks at this
    rw [mem_canon, mem_canon, decide_eq_true_eq, decide_eq_true_eq, hw.marks] at this
    exact ⟨fun z => (this.mp ⟨hi, z⟩).2, fun z => (this.mpr ⟨hi, z⟩).2⟩
  · intro h
    refine (canon_ok _ _).ext (canon_ok _ _) fun i => ?_
    unfold mks
    rw [mem_canon, mem_canon, decide_eq_true_eq, decide_eq_true_eq, hw.marks]
    exact ⟨fun z => ⟨z.1, (h i z.1).mp z.2⟩, fun z => ⟨z.1, (h i z.1).mpr z.2⟩⟩
/-! ### keys of classes -/
theorem nks_nats : ∀ xs : List Nat, toNKs (xs.map fun k : Nat => D.int (k : Nat)) = some (xs.map fun k : Nat => NestedKey.num (k : Nat))
  | [] => rfl
  | x :: xs => by rw [List.map_cons, toNKs, nks_nats xs]; rfl
theorem dep_nats : ∀ xs : List Nat, NestedKey.depthAll (xs.map fun k : Nat => NestedKey.num (k : Nat)) = 0
  | [] => rfl
  | x :: xs => by rw [List.map_cons, NestedKey.depthAll, dep_nats xs]; rfl
theorem num_nats : ∀ xs : List Nat, numKs (xs.map fun k : Nat => NestedKey.num (k : Nat)) = true
  | [] => rfl
  | x :: xs => by rw [List.map_cons, numKs, num_nats xs]; rfl
theorem nk_encP (xs : List Nat) : toNK (encP xs) = some (.tup (xs.map fun k : Nat => NestedKey.num (k : Nat))) := by
  unfold encP
  rw [toNK, nks_nats]; rfl
theorem tn_encP (xs : List Nat) : tnD (encP xs) = true := by
  have e := nk_encP xs
  unfold tnD encP at *
  rw [e]
  simp only [Bool.and_eq_true, decide_eq_true_eq]
  refine ⟨?_, ?_⟩
  · rw [NestedKey.depth, dep_nats]; decide
  · rw [numK]; exact num_nats xs
theorem nks_rows : ∀ gs : List (List Nat), ∃ ks, toNKs (gs.map encP) = some ks ∧ NestedKey.depthAll ks ≤ 1 ∧ numKs ks = true
  | [] => ⟨[], rfl, Nat.zero_le _, rfl⟩
  | g :: gs => by
    obtain ⟨ks, h1, h2, h3⟩ := nks_rows gs
    refine ⟨.tup (g.map fun k : Nat => NestedKey.num (k : Nat)) :: ks, by rw [List.map_cons, toNKs, nk_encP, h1]; rfl, ?_, ?_⟩
    · rw [NestedKey.depthAll, NestedKey.depth, dep_nats]; omega
    · rw [numKs, numK, num_nats, h3]; rfl
def keyD (o : Nat) (gs : List (List Nat)) : D := .tup (.int (o : Nat) :: gs.map encP)
theorem tn_key (o : Nat) (gs : List (List Nat)) : tnD (keyD o gs) = true := by
  obtain ⟨ks, h1, h2, h3⟩ := nks_rows gs
  have e : toNK (keyD o gs) = some (.tup (.num (o : Nat) :: ks)) := by
    unfold keyD
    rw [toNK, toNKs, h1]; rfl
  unfold tnD keyD at *
  rw [e]
  simp only [Bool.and_eq_true, decide_eq_true_eq]
  refine ⟨?_, ?_⟩
  · rw [NestedKey.depth, NestedKey.depthAll, NestedKey.depth]; omega
  · rw [numK, numKs, numK, h3]; rfl
theorem tn_tk {d : D} (h : tnD d = true) : tkD d = true := by
  unfold tnD at h
  unfold tkD
  cases d with
  | tup xs =>
    simp only at h ⊢
    cases e : toNK (.tup xs) with
    | none => rw [e] at h; cases h
    | some k =>
      rw [e] at h
      simp only [Bool.and_eq_true] at h
      exact h.1
  | _ => cases h
theorem encP_inj {xs ys : List Nat} (h : encP xs = encP ys) : xs = ys := by
  injection h with h
  exact nats_inj h
theorem key_inj {o o' : Nat} {gs gs' : List (List Nat)} (h : keyD o gs = keyD o' gs') : o = o' ∧ gs = gs' := by
  injection h with h
  injection h with h1 h2
  injection h1 with h1
  refine ⟨by omega, ?_⟩
  clear h1
  induction gs generalizing gs' with
  | nil => cases gs' with
    | nil => rfl
    | cons => cases h2
  | cons g gs ih => cases gs' with
    | nil => cases h2
    | cons g' gs' =>
      rw [List.map_cons, List.map_cons] at h2
      injection h2 with h3 h4
      rw [encP_inj h3, ih h4]
end PG
/-! SPc: rounds of classes. -/
namespace PG
open PySem L2 SD
/-- each of us with its place -/
def nums (us : List D) : List (D × D) := us.zipIdx.map fun p => (p.1, .int (p.2 : Nat))
theorem nums_snoc (us : List D) (u : D) : nums (us ++ [u]) = nums us ++ [(u, .int (us.length : Nat))] := by
  unfold nums
  rw [List.zipIdx_append, List.map_append]
  simp
theorem nums_len (us : List D) : (nums us).length = us.length := by unfold nums; simp
theorem nums_keys (us : List D) : (nums us).map (·.1) = us := by
  unfold nums
  rw [List.map_map]
  exact List.zipIdx_map_fst 0 us
theorem nums_any (us : List D) (u : D) : ((nums us).any fun p => decide (p.1 = u)) = decide (u ∈ us) := by
  have : ((nums us).any fun p => decide (p.1 = u)) = ((nums us).map (·.1)).any fun x => decide (x = u) := by rw [List.any_map]; rfl
  rw [this, nums_keys, Bool.eq_iff_iff, List.any_eq_true, decide_eq_true_eq]
  exact ⟨fun ⟨x, h, e⟩ => by rw [← of_decide_eq_true e]; exact h, fun h => ⟨u, h, decide_eq_true rfl⟩⟩
theorem nums_put {us : List D} {u : D} (h : u ∉ us) : putD (nums us) u (.int (us.length : Nat)) = nums (us ++ [u]) := by
  unfold putD
  rw [nums_any, if_neg (by simpa using h), nums_snoc]
theorem nums_valN : ∀ (n : Nat) (us : List D) (u : D), us.length = n → u ∈ us → us.Nodup → ∃ k, valD (nums us) u = some (.int (k : Nat)) ∧ us[k]? = some u := by
  intro n
  induction n with
  | zero => intro us u hl h; rw [List.eq_nil_of_length_eq_zero hl] at h; cases h
  | succ n ih0 =>
    intro us0 u hl h nd
    have ne : us0 ≠ [] := fun z => by rw [z] at hl; cases hl
    obtain ⟨us, v, rfl⟩ : ∃ us v, us0 = us ++ [v] := ⟨_, _, (List.dropLast_concat_getLast ne).symm⟩
    have ih := fun u => ih0 us u (by rw [List.length_append] at hl; exact Nat.succ.inj hl)
    rw [List.nodup_append] at nd
    rw [nums_snoc]
    unfold valD
    rw [List.find?_append]
    by_cases hu : u ∈ us
    · obtain ⟨k, h1, h2⟩ := ih u hu nd.1
      refine ⟨k, ?_, by rw [List.getElem?_append_left (List.getElem?_eq_some_iff.mp h2).1]; exact h2⟩
      unfold valD at h1
      cases e : (nums us).find? (fun p => decide (p.1 = u)) with
      | none => rw [e] at h1; cases h1
      | some q => rw [e] at h1; exact h1
    · rw [List.mem_append, List.mem_singleton] at h
      have e := h.resolve_left hu
      subst e
      have : (nums us).find? (fun p => decide (p.1 = u)) = none := by
        have q := nums_any us u
        rw [decide_eq_false hu] at q
        rw [List.find?_eq_none]
        intro x hx e
        rw [List.any_eq_false] at q
        exact q x hx e
      rw [this]
      exact ⟨us.length, by simp, by simp⟩
theorem nums_val (us : List D) (u : D) : u ∈ us → us.Nodup → ∃ k, valD (nums us) u = some (.int (k : Nat)) ∧ us[k]? = some u := nums_valN us.length us u rfl
/-- the keys tell who is alike for i rounds -/
structure Keys (w : Wd) (L0 L1 i : Nat) (ks : List D) : Prop where
  len : ks.length = w.n
  tn : ∀ d ∈ ks, tnD d = true
  eq : ∀ p q, p < w.n → q < w.n → (ks[p]? = ks[q]? ↔ ap w L0 L1 i p q)
theorem nodup_back {α : Type} [DecidableEq α] : ∀ {ys zs : List α}, ys.Nodup → (∀ y, y ∈ ys → y ∈ zs) → zs.length ≤ ys.length → zs.Nodup
  | [], zs, _, _, l => by
    have : zs = [] := List.eq_nil_of_length_eq_zero (Nat.le_zero.mp l)
    subst this; exact .nil
  | y :: ys, zs, nd, h, l => by
    have hy := h y List.mem_cons_self
    rw [List.nodup_cons] at nd
    have l2 := List.length_erase_of_mem hy
    have pos := List.length_pos_of_mem hy
    rw [List.length_cons] at l
    have sub : ∀ z, z ∈ ys → z ∈ zs.erase y := fun z hz => (List.mem_erase_of_ne (fun (e : z = y) => nd.1 (e ▸ hz))).mpr (h z (List.mem_cons_of_mem _ hz))
    have ih := nodup_back nd.2 sub (by omega)
    have no : y ∉ zs.erase y := fun z => by
      have := subset_len (ks := y :: ys) (ls := zs.erase y) (List.nodup_cons.mpr nd) fun j hj => by
        rcases List.mem_cons.mp hj with rfl | hj
        · exact z
        · exact sub j hj
      rw [List.length_cons] at this
      omega
    exact (List.perm_cons_erase hy).nodup_iff.mpr (List.nodup_cons.mpr ⟨no, ih⟩)
/-- if the finer rows have no more classes, they are the same -/
theorem same_classes {n : Nat} {ks ks' ys ys' : List D} (l : ks.length = n) (l' : ks'.length = n) (ref : ∀ p q, p < n → q < n → ks'[p]? = ks'[q]? → ks[p]? = ks[q]?) (nd : ys.Nodup) (nd' : ys'.Nodup) (m : ∀ y, y ∈ ys ↔ y ∈ ks) (m' : ∀ y, y ∈ ys' ↔ y ∈ ks') (le : ys'.length ≤ ys.length) :
    ∀ p q, p < n → q < n → ks[p]? = ks[q]? → ks'[p]? = ks'[q]? := by
  let g : D → D := fun y => (ks[ks'.idxOf y]?).getD .non
  have gk : ∀ p, p < n → some (g (ks'[p]?.getD .non)) = ks[p]? := fun p hp => by
    have hp' : p < ks'.length := by omega
    have e : ks'[p]?.getD .non = ks'[p] := by rw [List.getElem?_eq_getElem hp', Option.getD_some]
    have hm : ks'[p] ∈ ks' := List.getElem_mem hp'
    have hi : ks'.idxOf ks'[p] < n := by rw [← l']; exact List.idxOf_lt_length_iff.mpr hm
    have e2 : ks'[ks'.idxOf ks'[p]]? = ks'[p]? := by
      rw [List.getElem?_eq_getElem (by omega), List.getElem?_eq_getElem hp']
      exact congrArg some (List.getElem_idxOf (by omega))
    have := ref _ _ hi hp e2
    rw [e]
    show some ((ks[ks'.idxOf ks'[p]]?).getD .non) = _
    rw [this, List.getElem?_eq_getElem (by omega), Option.getD_some]
  have cov : ∀ y, y ∈ ys → y ∈ ys'.map g := fun y hy => by
    obtain ⟨p, hp, e⟩ := List.getElem_of_mem ((m y).mp hy)
    have hp' : p < ks'.length := by omega
    refine List.mem_map.mpr ⟨ks'[p], (m' _).mpr (List.getElem_mem hp'), ?_⟩
    have := gk p (by omega)
    rw [List.getElem?_eq_getElem hp', Option.getD_some, List.getElem?_eq_getElem hp, e] at this
    exact Option.some.inj this
  have ndg : (ys'.map g).Nodup := nodup_back nd cov (by rw [List.length_map]; exact le)
  have inj : ∀ a b, a ∈ ys' → b ∈ ys' → g a = g b → a = b := by
    rw [List.nodup_iff_pairwise_ne, List.pairwise_map] at ndg
    intro a b ha hb e
    obtain ⟨i, hi, rfl⟩ := List.getElem_of_mem ha
    obtain ⟨j, hj, rfl⟩ := List.getElem_of_mem hb
    rw [List.pairwise_iff_getElem] at ndg
    rcases Nat.lt_trichotomy i j with z | z | z
    · exact absurd e (ndg i j hi hj z)
    · subst z; rfl
    · exact absurd e.symm (ndg j i hj hi z)
  intro p q hp hq e
  have hp' : p < ks'.length := by omega
  have hq' : q < ks'.length := by omega
  have e1 := gk p hp
  have e2 := gk q hq
  rw [← e1, ← e2, List.getElem?_eq_getElem hp', List.getElem?_eq_getElem hq', Option.getD_some, Option.getD_some] at e
  have := inj _ _ ((m' _).mpr (List.getElem_mem hp')) ((m' _).mpr (List.getElem_mem hq')) (Option.some.inj e)
  rw [List.getElem?_eq_getElem hp', List.getElem?_eq_getElem hq', this]
/-- the next row -/
theorem keys_next {L0 L1 i : Nat} {w : Wd} (hw : OkW L0 L1 w) {ks : List D} (K : Keys w L0 L1 i ks) {o : Nat → Nat} (ho : ∀ p q, p < w.n → q < w.n → (o p = o q ↔ ks[p]? = ks[q]?)) {gs : Nat → List (List Nat)} (hl : ∀ p, p < w.n → (gs p).length = L1)
    (hg : ∀ p, p < w.n → ∀ j, j < L1 → ((gs p).getD j []).Pairwise (· < ·) ∧ ∀ k, k ∈ (gs p).getD j [] ↔ ∃ g, g ∈ w.way j p ∧ o g = k) : Keys w L0 L1 (i + 1) ((List.range w.n).map fun p => keyD (o p) (gs p)) where
  len := by rw [List.length_map, List.length_range]
  tn := fun d hd => by
    obtain ⟨p, _, rfl⟩ := List.mem_map.mp hd
    exact tn_key _ _
  eq := fun p q hp hq => by
    rw [List.getElem?_map, List.getElem?_map, List.getElem?_range hp, List.getElem?_range hq, Option.map_some, Option.map_some, Option.some.injEq]
    have oap : ∀ a b, a < w.n → b < w.n → (o a = o b ↔ ap w L0 L1 i a b) := fun a b ha hb => (ho a b ha hb).trans (K.eq a b ha hb)
    constructor
    · intro e
      obtain ⟨e1, e2⟩ := key_inj e
      refine ⟨(oap p q hp hq).mp e1, fun j hj => ⟨fun g hgm => ?_, fun g hgm => ?_⟩⟩
      · have : o g ∈ (gs p).getD j [] := ((hg p hp j hj).2 _).mpr ⟨g, hgm, rfl⟩
        rw [e2] at this
        obtain ⟨h, h1, h2⟩ := ((hg q hq j hj).2 _).mp this
        exact ⟨h, h1, (oap g h (w.way_lt hw hgm) (w.way_lt hw h1)).mp h2.symm⟩
      · have : o g ∈ (gs q).getD j [] := ((hg q hq j hj).2 _).mpr ⟨g, hgm, rfl⟩
        rw [← e2] at this
        obtain ⟨h, h1, h2⟩ := ((hg p hp j hj).2 _).mp this
        exact ⟨h, h1, (oap h g (w.way_lt hw h1) (w.way_lt hw hgm)).mp h2⟩
    · rintro ⟨a, b⟩
      have e1 := (oap p q hp hq).mpr a
      have e2 : gs p = gs q := by
        refine List.ext_getElem ((hl p hp).trans (hl q hq).symm) fun j h1 h2 => ?_
        have hj : j < L1 := by rw [← hl p hp]; exact h1
        have a1 : (gs p).getD j [] = (gs p)[j] := by rw [List.getD_eq_getElem?_getD, List.getElem?_eq_getElem h1]; rfl
        have a2 : (gs q).getD j [] = (gs q)[j] := by rw [List.getD_eq_getElem?_getD, List.getElem?_eq_getElem h2]; rfl
        rw [← a1, ← a2]
        refine sub_ext (n := 0) (hg p hp j hj).1 (hg q hq j hj).1 fun k => ?_
        rw [(hg p hp j hj).2, (hg q hq j hj).2]
        constructor
        · rintro ⟨g, g1, g2⟩
          obtain ⟨h, h1, h2⟩ := (b j hj).1 g g1
          exact ⟨h, h1, ((oap g h (w.way_lt hw g1) (w.way_lt hw h1)).mpr h2).symm.trans g2⟩
        · rintro ⟨g, g1, g2⟩
          obtain ⟨h, h1, h2⟩ := (b j hj).2 g g1
          exact ⟨h, h1, ((oap h g (w.way_lt hw h1) (w.way_lt hw g1)).mpr h2).trans g2⟩
      rw [e1, e2]
/-- own = [names[mark] for mark in rows[-1]], as numbers -/
theorem own_list {n : Nat} {ks us : List D} (l : ks.length = n) (nd : us.Nodup) (m : ∀ u, u ∈ us ↔ u ∈ ks) : ∃ o : Nat → Nat, (∀ p q, p < n → q < n → (o p = o q ↔ ks[p]? = ks[q]?)) ∧ (∀ p, p < n → o p < n) ∧ ∀ p u, ks[p]? = some u → valD (nums us) u = some (.int (o p : Nat)) := by
  have ex : ∀ p, ∃ k : Nat, p < n → ∃ u, ks[p]? = some u ∧ valD (nums us) u = some (.int (k : Nat)) ∧ us[k]? = some u := fun p => by
    by_cases hp : p < n
    · have hu := (m _).mpr (List.getElem_mem (show p < ks.length by omega))
      obtain ⟨k, h1, h2⟩ := nums_val us _ hu nd
      exact ⟨k, fun _ => ⟨_, List.getElem?_eq_getElem (by omega), h1, h2⟩⟩
    · exact ⟨0, fun z => absurd z hp⟩
  have hul : us.length ≤ n := by rw [← l]; exact subset_len nd fun u hu => (m u).mp hu
  refine ⟨fun p => (ex p).choose, fun p q hp hq => ?_, fun p hp => ?_, fun p u hu => ?_⟩
  · obtain ⟨u, a1, a2, a3⟩ := (ex p).choose_spec hp
    obtain ⟨v, b1, b2, b3⟩ := (ex q).choose_spec hq
    constructor
    · intro e
      have e : (ex p).choose = (ex q).choose := e
      rw [e, b3] at a3
      rw [a1, b1, a3]
    · intro e
      rw [a1, b1] at e
      cases e
      rw [a2] at b2
      have b2 := Option.some.inj b2
      injection b2 with b2
      show (ex p).choose = (ex q).choose
      omega
  · obtain ⟨u, a1, a2, a3⟩ := (ex p).choose_spec hp
    have := (List.getElem?_eq_some_iff.mp a3).1
    show (ex p).choose < n
    omega
  · have hp : p < n := by rw [← l]; exact (List.getElem?_eq_some_iff.mp hu).1
    obtain ⟨v, a1, a2, a3⟩ := (ex p).choose_spec hp
    rw [hu] at a1
    cases a1
    exact a2
end PG
/-! SPd: rounds_of_classes. -/
namespace PG
open PySem L2 SD
theorem at_last (rs : List D) (x : D) : atI (rs ++ [x]) (-1) = some x := by
  unfold atI ixN
  have e : (rs ++ [x]).length = rs.length + 1 := by simp
  rw [e, if_neg (by decide), if_pos (by omega)]
  show (rs ++ [x])[(((rs.length + 1 : Nat) : Int) + -1).toNat]? = _
  have : (((rs.length + 1 : Nat) : Int) + -1).toNat = rs.length := by omega
  rw [this]; simp
def gsO (w : Wd) (o : Nat → Nat) (p : Nat) : List (List Nat) := w.ways.map fun r => canon w.n fun k => (r.getD p []).any fun g => decide (o g = k)
theorem gsO_at {L0 L1 : Nat} {w : Wd} (hw : OkW L0 L1 w) {o : Nat → Nat} (ho : ∀ p, p < w.n → o p < w.n) {p j : Nat} (hj : j < L1) : ((gsO w o p).getD j []).Pairwise (· < ·) ∧ ∀ k, k ∈ (gsO w o p).getD j [] ↔ ∃ g, g ∈ w.way j p ∧ o g = k := by
  have hl : j < w.ways.length := by rw [hw.ways]; exact hj
  have e : (gsO w o p).getD j [] = canon w.n fun k => (w.way j p).any fun g => decide (o g = k) := by
    unfold gsO Wd.way
    rw [List.getD_eq_getElem?_getD, List.getElem?_map, List.getElem?_eq_getElem hl, List.getD_eq_getElem?_getD (l := w.ways), List.getElem?_eq_getElem hl]; rfl
  rw [e]
  refine ⟨(canon_ok _ _).1, fun k => ?_⟩
  rw [mem_canon, List.any_eq_true]
  constructor
  · rintro ⟨_, g, h1, h2⟩
    exact ⟨g, h1, of_decide_eq_true h2⟩
  · rintro ⟨g, h1, rfl⟩
    exact ⟨ho g (w.way_lt hw h1), g, h1, decide_eq_true rfl⟩
theorem rounds_spec {L0 L1 : Nat} {w : Wd} (hw : OkW L0 L1 w) (hn : w.n ≤ 60) (l0 : L0 ≤ 1000) (l1 : L1 ≤ 1000) {S : Store} {Q : PD}
    (h : ∀ (S' : Store) (r l i : Nat) (rs ks : List D), Ext S S' → S'[r]? = some (.lst (rs ++ [.ref l])) → S'[l]? = some (.lst ks) → Keys w L0 L1 i ks → (∀ p q, p < w.n → q < w.n → ap w L0 L1 i p q → bis w L0 L1 p q) → Q (.ref r) S') : F_rounds_of_classes [encW w] S Q := by
  refine r_fn rfl ?_
  unfold b_rounds_of_classes
  walk_at "s"
  refine r_rg (by omega) (by omega) fun few => ?_
  rw [rng_map']
  refine lc_each (List.range w.n) (fun k : Nat => .int (k : Nat)) (fun p : Nat => encP (mks w p)) (by simp only [sizeLine, List.length_range]; omega) (fun _ _ => trivial) (fun p hp S1 P e1 hP => ?_) fun S1 e1 h1 => ?_
  · walk_at "s"
    exact marks_at_spec hw l0 (by omega) hP
  have k0 : Keys w L0 L1 0 ((List.range w.n).map fun p : Nat => encP (mks w p)) := by
    refine ⟨by rw [List.length_map, List.length_range], fun d hd => ?_, fun p q hp hq => ?_⟩
    · obtain ⟨p, _, rfl⟩ := List.mem_map.mp hd
      exact tn_encP _
    · rw [List.getElem?_map, List.getElem?_map, List.getElem?_range hp, List.getElem?_range hq, Option.map_some, Option.map_some, Option.some.injEq]
      exact ⟨fun z => (mks_eq hw).mp (encP_inj z), fun z => by rw [(mks_eq hw).mpr z]⟩
  walk_at "s"
  have lS : S.length < S1.length := (List.getElem?_eq_some_iff.mp h1).1
  refine while_inv (fun m σ S' => ∃ (many i l : Nat) (rs ks : List D) (s3 s4 s5 s6 s7 s8 s9 s10 : Option D), σ = [some (encW w), some (.ref S1.length), some (.int (many : Nat)), s3, s4, s5, s6, s7, s8, s9, s10] ∧ Ext S S' ∧ S'[S1.length]? = some (.lst (rs ++ [.ref l])) ∧ S'[l]? = some (.lst ks) ∧ l ≠ S1.length ∧
    rs.length + m ≤ 65 ∧ m + many = 65 ∧ Keys w L0 L1 i ks ∧ (many = 0 ∨ ∃ (i' : Nat) (kp ys : List D), i = i' + 1 ∧ Keys w L0 L1 i' kp ∧ ys.Nodup ∧ (∀ y, y ∈ ys ↔ y ∈ kp) ∧ ys.length = many)) 65 ?_ ?_
  · exact ⟨0, 0, S.length, [], _, _, _, _, _, _, _, _, _, rfl, e1.trans (Ext.app S1 _), new_at S1 _, Ext.app S1 _ _ _ h1, by omega, Nat.le_refl _, rfl, k0, .inl rfl⟩
  rintro m σ S2 R ⟨many, i, l, rs, ks, s3, s4, s5, s6, s7, s8, s9, s10, rfl, e2, c2, d2, nl, rl, hm, K, prev⟩ hR
  have kl : ks.length < 64 := by have := K.len; omega
  walk_at "s"
  refine r_ixL c2 (at_last rs _) ?_
  refine ⟨l, ks, rfl, d2, kl, K.tn, fun c ys nd my hc => ?_⟩
  walk_at "s"
  refine ite_b (fun hb => ?_) (fun hb => ?_)
  · have hb := of_decide_eq_true hb
    walk_at "s"
    refine r_ixL c2 (at_last rs _) ?_
    refine ⟨l, ks, rfl, d2, kl, K.tn, fun c' ys' nd' my' hc' => ?_⟩
    have ce : c' = c := by
      rw [← hc, ← hc']
      exact ((List.perm_ext_iff_of_nodup nd' nd).mpr fun y => (my' y).trans (my y).symm).length_eq
    subst ce
    have cn : c' ≤ w.n := by
      rw [← hc, ← K.len]
      exact subset_len nd fun y hy => (my y).mp hy
    walk_at "s"
    refine r_iLst ?_
    walk_at "s"
    have c3 := Ext.app S2 [Cell.tdc []] _ _ c2
    have d3 := Ext.app S2 [Cell.tdc []] _ _ d2
    refine r_ixL c3 (at_last rs _) ?_
    refine .inr ⟨l, ks, rfl, d3, ?_⟩
    refine for_inv (fun k σ S' => ∃ (t4 : Option D) (us : List D), σ = [some (encW w), some (.ref S1.length), some (.int (c' : Nat)), some (.ref S2.length), t4, s5, s6, s7, s8, s9, s10] ∧ Ext S2 S' ∧ S'[S2.length]? = some (.tdc (nums us)) ∧ us.Nodup ∧ ∀ u, u ∈ us ↔ u ∈ ks.take k) ⟨_, [], rfl, Ext.app S2 _, new_at S2 _, .nil, fun u => by simp⟩ ?_ ?_
    · rintro k u σ S3 R3 hu ⟨t4, us, rfl, e3, q3, ndu, mu⟩ hR3
      refine ⟨e3 _ _ d2, ?_⟩
      have tn : tkD u = true := tn_tk (K.tn u (List.mem_of_getElem? hu))
      have ul : us.length ≤ 64 := by
        have := subset_len (ls := ks) ndu fun y hy => List.mem_of_mem_take ((mu y).mp hy)
        omega
      have tk : ks.take (k + 1) = ks.take k ++ [u] := by rw [List.take_add_one, hu]; rfl
      walk_at "s"
      refine r_tyT q3 ?_
      walk_at "s"
      refine r_lenT (tdD_at q3) ?_
      rw [nums_len]
      walk_at "s"
      refine r_sdfT q3 tn (by rw [nums_len]; simp only [sizeLine]; omega) (fun v hv => ?_) (fun hv S4 q4 o4 => ?_)
      · walk_at "s"
        refine hR3 _ _ ⟨_, us, rfl, e3, q3, ndu, fun y => ?_⟩
        rw [mu, tk, List.mem_append, List.mem_singleton]
        refine ⟨.inl, ?_⟩
        rintro (z | rfl)
        · exact z
        · refine (mu _).mp ?_
          have := valD_any (kvs := nums us) (k := y)
          rw [hv, nums_any] at this
          exact of_decide_eq_true this.symm
      · have nin : u ∉ us := fun z => by
          have := valD_any (kvs := nums us) (k := u)
          rw [hv, nums_any, decide_eq_true z] at this
          cases this
        rw [nums_put nin] at q4
        walk_at "s"
        refine hR3 _ _ ⟨_, us ++ [u], rfl, fun n cc hcc => ?_, q4, ?_, fun y => ?_⟩
        · have : n < S2.length := (List.getElem?_eq_some_iff.mp hcc).1
          exact o4.ne (by omega) (e3 _ _ hcc)
        · rw [List.nodup_append]
          exact ⟨ndu, by simp, fun a ha b hb => by rw [List.mem_singleton] at hb; rintro rfl; subst hb; exact nin ha⟩
        · rw [tk, List.mem_append, List.mem_append, mu]
    rintro σ S3 ⟨t4, us, rfl, e3, q3, ndu, mu⟩
    refine ⟨e3 _ _ d2, ?_⟩
    rw [List.take_length] at mu
    obtain ⟨o, ho, olt, oval⟩ := own_list K.len ndu mu
    walk_at "s"
    refine r_iLst ?_
    walk_at "s"
    refine r_ixL (e3 _ _ c2) (at_last rs _) ?_
    refine .inr ⟨l, ks, rfl, e3 _ _ d2, ?_⟩
    intro few3
    refine lc_map (fun u => (valD (nums us) u).getD .non) few3 (fun S4 e4 => e4 _ _ (e3 _ _ d2)) (fun u hu S4 P e4 hP => ?_) fun S4 e4 q4 => ?_
    · obtain ⟨p, hp⟩ := List.getElem?_of_mem hu
      have ov := oval p u hp
      walk_at "s"
      refine r_ixDT (tdD_at (e4 _ _ q3)) (tn_tk (K.tn u hu)) ov ?_
      have := hP S4 (.refl _)
      rw [ov] at this
      exact this
    have q4' : S4[S3.length]? = some (.lst ((List.range w.n).map fun p => D.int (o p : Nat))) := by
      rw [q4]
      congr 2
      refine List.ext_getElem? fun p => ?_
      rw [List.getElem?_map, List.getElem?_map]
      by_cases hp : p < w.n
      · rw [List.getElem?_range hp, List.getElem?_eq_getElem (by rw [K.len]; exact hp), Option.map_some, Option.map_some]
        rw [oval p _ (List.getElem?_eq_getElem (by rw [K.len]; exact hp))]; rfl
      · rw [List.getElem?_eq_none (by rw [K.len]; omega), List.getElem?_eq_none (by rw [List.length_range]; omega)]; rfl
    have e5 : Ext S2 S4 := e3.trans e4
    clear q4 q3 mu oval
    walk_at "s"
    refine r_rg (by omega) (by omega) ?_
    rw [rng_map']
    refine for_inv (fun k σ S' => ∃ (t7 t8 : Option D), σ = [some (encW w), some (.ref S1.length), some (.int (c' : Nat)), some (.ref S2.length), t4, some (.ref S3.length), some (.ref S4.length), t7, t8, s9, s10] ∧ Ext S4 S' ∧ S'[S4.length]? = some (.lst ((List.range k).map fun p => keyD (o p) (gsO w o p)))) ⟨_, _, rfl, Ext.app S4 _, new_at S4 _⟩ ?_ ?_
    · rintro k x σ S5 R5 hx ⟨t7, t8, rfl, e6, q5⟩ hR5
      refine ⟨trivial, ?_⟩
      rw [List.getElem?_map] at hx
      cases hq : (List.range w.n)[k]? with
      | none => rw [hq] at hx; cases hx
      | some q =>
        rw [hq] at hx
        cases hx
        have hk : k < w.n := by have := (List.getElem?_eq_some_iff.mp hq).1; simpa using this
        have : q = k := by rw [List.getElem?_range hk] at hq; cases hq; rfl
        subst this
        have ol := e6 _ _ q4'
        have own_at : ∀ g, g < w.n → atI ((List.range w.n).map fun p => D.int (o p : Nat)) (g : Int) = some (.int (o g : Nat)) := fun g hg => by
          rw [atI_n, List.getElem?_map, List.getElem?_range hg]; rfl
        walk_at "s"
        refine r_iTup ?_
        walk_at "s"
        refine ⟨_, rfl, ?_⟩
        intro few5
        refine lc_each w.ways encR (fun r => encP (canon w.n fun k => (r.getD q []).any fun g => decide (o g = k))) (by rw [hw.ways]; simp only [sizeLine]; omega) (fun _ _ => trivial) (fun r hr S6 P6 e7 hP6 => ?_) fun S6 e7 q6 => ?_
        · have hrl := hw.rows r hr
          have hql : q < r.length := by omega
          have okq := hw.row r hr _ (List.getElem_mem hql)
          have rq : r.getD q [] = r[q] := by rw [List.getD_eq_getElem?_getD, List.getElem?_eq_getElem hql]; rfl
          have lq := okq.le
          walk_at "s"
          refine r_iTup ?_
          walk_at "s"
          refine r_ixT (xs := r.map encP) (v := encP r[q]) (by rw [atI_n, List.getElem?_map, List.getElem?_eq_getElem hql]; rfl) ?_
          refine ⟨_, rfl, ?_⟩
          intro few6
          refine lc_each r[q] (fun k : Nat => .int (k : Nat)) (fun g : Nat => .int (o g : Nat)) (by simp only [sizeLine]; omega) (fun _ _ => trivial) (fun g hg S7 P7 e8 hP7 => ?_) fun S7 e8 q7 => ?_
          · have ol7 := e8 _ _ (e7 _ _ ol)
            walk_at "s"
            refine r_ixL ol7 (own_at g (okq.2 g hg)) ?_
            exact hP7 S7 (.refl _)
          · walk_at "s"
            refine r_sortSet (ks := r[q].map o) (by rw [lst_sq q7, List.map_map]; rfl) (by rw [List.length_map]; omega) fun ls hs hm => ?_
            walk_at "s"
            refine r_tuple (lst_sq (new_at S7 _)) ?_
            have le : ls = canon w.n fun k => (r.getD q []).any fun g => decide (o g = k) := by
              refine sub_ext (n := 0) hs (canon_ok _ _).1 fun j => ?_
              rw [hm, mem_canon, rq, List.mem_map, List.any_eq_true]
              constructor
              · rintro ⟨g, h1, rfl⟩
                exact ⟨olt g (okq.2 g h1), g, h1, decide_eq_true rfl⟩
              · rintro ⟨_, g, h1, h2⟩
                exact ⟨g, h1, of_decide_eq_true h2⟩
            rw [show D.tup (ls.map fun k : Nat => D.int (k : Nat)) = encP ls from rfl, le]
            exact hP6 _ (e8.trans (Ext.app S7 _))
        · have ol6 := e7 _ _ ol
          have q56 := e7 _ _ q5
          walk_at "s"
          refine r_tyL q56 ?_
          walk_at "s"
          refine r_ixL ol6 (own_at q hk) ?_
          walk_at "s"
          refine r_tuple (lst_sq q6) ?_
          refine r_addT (by rw [List.length_map, hw.ways]; simp only [List.length_cons, List.length_nil, sizeLine]; omega) ?_
          walk_at "s"
          refine r_app q56 (by rw [List.length_map, List.length_range]; simp only [sizeLine]; omega) fun S7 q7 o7 => ?_
          walk_at "s"
          refine hR5 _ _ ⟨_, _, rfl, fun n cc hcc => ?_, ?_⟩
          · have : n < S4.length := (List.getElem?_eq_some_iff.mp hcc).1
            exact o7.ne (by omega) (e7 _ _ (e6 _ _ hcc))
          · rw [q7, List.range_succ, List.map_append]
            simp [keyD, gsO]
    rintro σ S5 ⟨t7, t8, rfl, e6, q5⟩
    refine ⟨trivial, ?_⟩
    rw [List.length_map, List.length_range] at q5
    have lr : S1.length < S2.length := (List.getElem?_eq_some_iff.mp c2).1
    have l24 : S2.length ≤ S4.length := e5.le
    have c5 := e6 _ _ (e5 _ _ c2)
    walk_at "s"
    refine r_tyL c5 ?_
    walk_at "s"
    refine r_app c5 (by rw [List.length_append]; simp only [List.length_cons, List.length_nil, sizeLine]; omega) fun S6 q6 o6 => ?_
    walk_at "s"
    refine hR (65 - c') _ _ (by omega) ⟨c', i + 1, S4.length, rs ++ [.ref l], _, _, _, _, _, _, _, _, _, rfl, fun n cc hcc => ?_, q6, o6.ne (by omega) q5, by omega, by rw [List.length_append]; simp only [List.length_cons, List.length_nil]; omega, by omega, keys_next hw K ho (fun p _ => by unfold gsO; rw [List.length_map]; exact hw.ways) (fun p _ j hj => gsO_at hw olt hj), .inr ⟨i, ks, ys', rfl, K, nd', my', hc'⟩⟩
    have : n < S.length := (List.getElem?_eq_some_iff.mp hcc).1
    exact o6.ne (by omega) (e6 _ _ (e5 _ _ (e2 _ _ hcc)))
  · have hb := of_decide_eq_false hb
    walk_at "s"
    have pos : 1 ≤ c := by
      rcases Nat.eq_zero_or_pos c with z | z
      · have e0 : ys = [] := List.eq_nil_of_length_eq_zero (hc.trans z)
        have hp := hw.pos
        have hk0 : 0 < ks.length := by rw [K.len]; omega
        have := (my _).mpr (List.getElem_mem hk0)
        rw [e0] at this
        cases this
      · exact z
    rcases prev with rfl | ⟨i', kp, yp, rfl, Kp, ndp, myp, lenp⟩
    · omega
    · have st := same_classes Kp.len K.len (fun p q hp hq z => (Kp.eq p q hp hq).mpr ((K.eq p q hp hq).mp z).1) ndp nd myp my (by omega)
      have stay : ∀ p q, p < w.n → q < w.n → ap w L0 L1 i' p q → ap w L0 L1 (i' + 1) p q := fun p q hp hq z => (K.eq p q hp hq).mp (st p q hp hq ((Kp.eq p q hp hq).mpr z))
      exact h S2 S1.length l (i' + 1) rs ks e2 c2 d2 K fun p q hp hq z => bis_of hw stay hp hq z.1
end PG
/-! SPe: alike_places, folded_world. -/
namespace PG
open PySem L2 SD
/-- the places below i with the key u -/
def cl (ks : List D) (i : Nat) (u : D) : List Nat := (List.range i).filter fun p => decide (ks[p]? = some u)
theorem mem_cl {ks : List D} {i p : Nat} {u : D} : p ∈ cl ks i u ↔ p < i ∧ ks[p]? = some u := by
  unfold cl; rw [List.mem_filter, List.mem_range, decide_eq_true_eq]
theorem cl_self {ks : List D} {i : Nat} {u : D} (h : ks[i]? = some u) : cl ks (i + 1) u = cl ks i u ++ [i] := by
  unfold cl
  rw [List.range_succ, List.filter_append, List.filter_cons_of_pos (by simpa using h)]; rfl
theorem cl_ne {ks : List D} {i : Nat} {u v : D} (h : ks[i]? = some u) (ne : v ≠ u) : cl ks (i + 1) v = cl ks i v := by
  unfold cl
  rw [List.range_succ, List.filter_append, List.filter_cons_of_neg (by rw [h]; simpa using Ne.symm ne)]; simp
def clD (ks us : List D) (i : Nat) : List (D × D) := us.map fun u => (u, encP (cl ks i u))
theorem clD_val {ks us : List D} {i : Nat} {u : D} : valD (clD ks us i) u = if u ∈ us then some (encP (cl ks i u)) else none := by
  unfold clD valD
  induction us with
  | nil => rfl
  | cons v us ih =>
    rw [List.map_cons]
    by_cases e : v = u
    · subst e
      rw [List.find?_cons_of_pos (by simp), if_pos List.mem_cons_self]; rfl
    · rw [List.find?_cons_of_neg (by simpa using e), ih]
      by_cases hu : u ∈ us
      · rw [if_pos hu, if_pos (List.mem_cons_of_mem _ hu)]
      · rw [if_neg hu, if_neg (fun z => (List.mem_cons.mp z).elim (fun q => e q.symm) hu)]
theorem clD_put {ks us : List D} {i : Nat} {u : D} (h : ks[i]? = some u) (m : ∀ v, v ∈ us ↔ v ∈ ks.take i) : putD (clD ks us i) u (encP (cl ks i u ++ [i])) = clD ks (insG us u) (i + 1) := by
  unfold putD insG
  have any : ((clD ks us i).any fun p => decide (p.1 = u)) = decide (u ∈ us) := by
    unfold clD
    rw [List.any_map, Bool.eq_iff_iff, List.any_eq_true, decide_eq_true_eq]
    exact ⟨fun ⟨x, a, b⟩ => by rw [← (of_decide_eq_true b : x = u)]; exact a, fun a => ⟨u, a, decide_eq_true rfl⟩⟩
  rw [any]
  by_cases hu : u ∈ us
  · rw [if_pos (decide_eq_true hu), if_pos hu]
    unfold clD
    rw [List.map_map]
    refine List.map_congr_left fun v hv => ?_
    show (if v = u then (v, encP (cl ks i u ++ [i])) else (v, encP (cl ks i v))) = _
    by_cases e : v = u
    · rw [if_pos e, e, cl_self h]
    · rw [if_neg e, cl_ne h e]
  · rw [if_neg (by simpa using hu), if_neg hu]
    unfold clD
    rw [List.map_append]
    congr 1
    · refine List.map_congr_left fun v hv => ?_
      have e : v ≠ u := fun e => hu (e ▸ hv)
      rw [cl_ne h e]
    · rw [List.map_cons, List.map_nil, cl_self h]
theorem rowD_ints (c : List Nat) : rowD (intsL c) = encP c := by
  unfold rowD intsL encP
  rw [List.map_map]; rfl
theorem rows_ints : ∀ {rows : List (List Int)}, (∀ r ∈ rows, ∃ c, r = intsL c) → ∃ L : List (List Nat), rows = L.map intsL
  | [], _ => ⟨[], rfl⟩
  | r :: rows, h => by
    obtain ⟨L, rfl⟩ := rows_ints fun q hq => h q (List.mem_cons_of_mem _ hq)
    obtain ⟨c, rfl⟩ := h r List.mem_cons_self
    exact ⟨c :: L, rfl⟩
theorem map_rowD_ints (L : List (List Nat)) : (L.map intsL).map rowD = L.map encP := by
  rw [List.map_map]
  exact List.map_congr_left fun c _ => rowD_ints c
theorem nodup_map_of {α β : Type} {f : α → β} {l : List α} (inj : ∀ a ∈ l, ∀ b ∈ l, f a = f b → a = b) (h : l.Nodup) : (l.map f).Nodup := by
  rw [List.nodup_iff_pairwise_ne, List.pairwise_map]
  exact (List.nodup_iff_pairwise_ne.mp h).imp_of_mem fun {a b} ha hb ne e => ne (inj a ha b hb e)
theorem nodup_of_map {α β : Type} {f : α → β} {l : List α} (h : (l.map f).Nodup) : l.Nodup := by
  rw [List.nodup_iff_pairwise_ne, List.pairwise_map] at h
  exact List.nodup_iff_pairwise_ne.mpr (h.imp fun z e => z (by rw [e]))
theorem alike_spec {L0 L1 : Nat} {w : Wd} (hw : OkW L0 L1 w) (hn : w.n ≤ 60) (l0 : L0 ≤ 1000) (l1 : L1 ≤ 1000) {S : Store} {Q : PD} (h : ∀ S' L, Ext S S' → IsCl w L0 L1 L → Q (.tup (L.map encP)) S') : F_alike_places [encW w] S Q := by
  refine r_fn rfl ?_
  unfold b_alike_places
  walk_at "s"
  refine rounds_spec hw hn l0 l1 fun S1 r l i rs ks e1 c1 d1 K st => ?_
  walk_at "s"
  refine r_ixL c1 (at_last rs _) ?_
  walk_at "s"
  refine r_rg (by omega) (by omega) ?_
  rw [rng_map']
  refine for_inv (fun k σ S' => ∃ (s3 : Option D) (us : List D), σ = [some (encW w), some (.ref l), some (.ref S1.length), s3] ∧ Ext S1 S' ∧ S'[S1.length]? = some (.tdc (clD ks us k)) ∧ us.Nodup ∧ ∀ u, u ∈ us ↔ u ∈ ks.take k) ⟨_, [], rfl, Ext.app S1 _, new_at S1 _, .nil, fun u => by simp⟩ ?_ ?_
  · rintro k x σ S2 R hx ⟨s3, us, rfl, e2, q2, nd, mu⟩ hR
    refine ⟨trivial, ?_⟩
    rw [List.getElem?_map] at hx
    cases hq : (List.range w.n)[k]? with
    | none => rw [hq] at hx; cases hx
    | some q =>
      rw [hq] at hx
      cases hx
      have hk : k < w.n := by have := (List.getElem?_eq_some_iff.mp hq).1; simpa using this
      have : q = k := by rw [List.getElem?_range hk] at hq; cases hq; rfl
      subst this
      have d2 := e2 _ _ d1
      have hku : ks[q]? = some (ks[q]'(by rw [K.len]; exact hk)) := List.getElem?_eq_getElem _
      generalize (ks[q]'(by rw [K.len]; exact hk)) = u at hku
      have tk : tkD u = true := tn_tk (K.tn u (List.mem_of_getElem? hku))
      have hat : atI ks (q : Int) = some u := by rw [atI_n]; exact hku
      have ul : us.length ≤ 60 := by
        have := subset_len (ls := ks) nd fun y hy => List.mem_of_mem_take ((mu y).mp hy)
        have := K.len
        omega
      have cll : (cl ks q u).length ≤ q := by
        have := (List.length_filter_le (fun p => decide (ks[p]? = some u)) (List.range q))
        rw [List.length_range] at this
        exact this
      have get : (valD (clD ks us q) u).getD (.tup []) = encP (cl ks q u) := by
        rw [clD_val]
        by_cases hu : u ∈ us
        · rw [if_pos hu]; rfl
        · rw [if_neg hu]
          have : cl ks q u = [] := by
            rw [List.eq_nil_iff_forall_not_mem]
            intro p hp
            rw [mem_cl] at hp
            refine hu ((mu u).mpr (List.mem_of_getElem? (i := p) ?_))
            rw [List.getElem?_take_of_lt hp.1]; exact hp.2
          rw [this]; rfl
      walk_at "s"
      refine r_tyT q2 ?_
      walk_at "s"
      refine r_ixL d2 hat ?_
      walk_at "s"
      refine r_getT (tdD_at q2) tk ?_
      rw [get]
      walk_at "s"
      refine r_addT (by rw [List.length_map]; simp only [List.length_cons, List.length_nil, sizeLine]; omega) ?_
      walk_at "s"
      refine r_ixL d2 hat ?_
      rw [show D.tup ((cl ks q u).map (fun k : Nat => D.int (k : Nat)) ++ [D.int (q : Nat)]) = encP (cl ks q u ++ [q]) from by simp [encP]]
      refine r_setT q2 tk (by unfold clD; rw [List.length_map]; simp only [sizeLine]; omega) fun S3 q3 o3 => ?_
      rw [clD_put hku mu] at q3
      refine hR _ _ ⟨_, _, rfl, fun n cc hcc => ?_, q3, nodup_insG nd, fun v => ?_⟩
      · have : n < S1.length := (List.getElem?_eq_some_iff.mp hcc).1
        exact o3.ne (by omega) (e2 _ _ hcc)
      · rw [mem_insG, mu, List.take_add_one, hku, List.mem_append]
        simp
  rintro σ S2 ⟨s3, us, rfl, e2, q2, nd, mu⟩
  refine ⟨trivial, ?_⟩
  rw [List.length_map, List.length_range] at q2 mu
  rw [← K.len, List.take_length] at mu
  walk_at "s"
  refine ⟨_, tdD_at q2, ?_⟩
  walk_at "s"
  have key : ∀ u ∈ us, ∃ p, p ∈ cl ks w.n u := fun u hu => by
    obtain ⟨p, hp⟩ := List.getElem?_of_mem ((mu u).mp hu)
    exact ⟨p, mem_cl.mpr ⟨by rw [← K.len]; exact (List.getElem?_eq_some_iff.mp hp).1, hp⟩⟩
  refine ⟨S2.length, us.map fun u => intsL (cl ks w.n u), rfl, ?_, fun r hr => ?_, fun out hp hs => ?_⟩
  · rw [new_at]
    congr 2
    unfold clD
    rw [List.map_map, List.map_map]
    exact List.map_congr_left fun u _ => (rowD_ints _).symm
  · obtain ⟨u, hu, rfl⟩ := List.mem_map.mp hr
    obtain ⟨p, hp⟩ := key u hu
    intro e
    unfold intsL at e
    rw [List.map_eq_nil_iff] at e
    rw [e] at hp
    cases hp
  obtain ⟨L, rfl⟩ := rows_ints (rows := out) fun r hr => by
    obtain ⟨u, _, rfl⟩ := List.mem_map.mp (hp.mem_iff.mp hr)
    exact ⟨_, rfl⟩
  rw [map_rowD_ints]
  walk_at "s"
  refine r_tuple (lst_sq (new_at _ _)) ?_
  have memL : ∀ c, c ∈ L ↔ ∃ u ∈ us, cl ks w.n u = c := fun c => by
    constructor
    · intro hc
      obtain ⟨u, hu, e⟩ := List.mem_map.mp (hp.mem_iff.mp (List.mem_map.mpr ⟨c, hc, rfl⟩))
      exact ⟨u, hu, intsL_inj e⟩
    · rintro ⟨u, hu, rfl⟩
      obtain ⟨c, hc, e⟩ := List.mem_map.mp (hp.mem_iff.mpr (List.mem_map.mpr ⟨u, hu, rfl⟩))
      rw [← intsL_inj e]; exact hc
  refine h _ L ((e1.trans e2).trans ((Ext.app S2 _).trans (Ext.app _ _))) ⟨⟨i, st⟩, fun c hc => ?_, fun p hp => ?_, fun c hc p hpc q => ?_, ?_, ?_⟩
  · obtain ⟨u, hu, rfl⟩ := (memL c).mp hc
    obtain ⟨p, hp⟩ := key u hu
    exact ⟨⟨List.Pairwise.sublist List.filter_sublist List.pairwise_lt_range, fun k hk => (mem_cl.mp hk).1⟩, fun e => by rw [e] at hp; cases hp⟩
  · have hpk : p < ks.length := by rw [K.len]; exact hp
    exact ⟨_, (memL _).mpr ⟨ks[p], (mu _).mpr (List.getElem_mem hpk), rfl⟩, mem_cl.mpr ⟨hp, List.getElem?_eq_getElem hpk⟩⟩
  · obtain ⟨u, hu, rfl⟩ := (memL c).mp hc
    obtain ⟨h1, h2⟩ := mem_cl.mp hpc
    rw [mem_cl]
    constructor
    · rintro ⟨h3, h4⟩
      exact ⟨h3, st p q h1 h3 ((K.eq p q h1 h3).mp (h2.trans h4.symm))⟩
    · rintro ⟨h3, h4⟩
      exact ⟨h3, ((K.eq p q h1 h3).mpr (h4 i)).symm.trans h2⟩
  · refine nodup_of_map (f := intsL) (hp.nodup_iff.mpr (nodup_map_of (fun a ha b hb e => ?_) nd))
    obtain ⟨p, hp⟩ := key a ha
    have hp2 := hp
    rw [intsL_inj e] at hp2
    have := (mem_cl.mp hp).2
    rw [(mem_cl.mp hp2).2] at this
    exact (Option.some.inj this).symm
  · rw [List.pairwise_map] at hs
    exact hs
theorem IsCl.len {L0 L1 : Nat} {w : Wd} {L : List (List Nat)} (C : IsCl w L0 L1 L) : L.length ≤ w.n := by
  have nd : (L.map hd).Nodup := nodup_map_of (fun a ha b hb e => by
    have na := hd_mem (C.ok a ha).2
    have nb := hd_mem (C.ok b hb).2
    rw [← e] at nb
    exact C.one C ha hb na nb (bis_refl _)) C.nd
  have := subset_len (ls := List.range w.n) nd fun j hj => by
    obtain ⟨c, hc, rfl⟩ := List.mem_map.mp hj
    exact List.mem_range.mpr ((C.ok c hc).1.2 _ (hd_mem (C.ok c hc).2))
  rw [List.length_map, List.length_range] at this
  exact this
theorem merge_one {v x : D} : ∀ (more kvs : List (D × D)), (∀ e ∈ more, e.2 = v) → valD (mergeD kvs more) x = if (more.any fun e => decide (e.1 = x)) then some v else valD kvs x
  | [], kvs, _ => rfl
  | e :: more, kvs, h => by
    show valD (mergeD (putD kvs e.1 e.2) more) x = _
    rw [merge_one more _ fun y hy => h y (List.mem_cons_of_mem _ hy), List.any_cons]
    by_cases q : (more.any fun e => decide (e.1 = x)) = true
    · rw [if_pos q, if_pos (by rw [q, Bool.or_true])]
    · rw [if_neg q]
      by_cases z : e.1 = x
      · rw [← z, putD_self, if_pos (by simp), h e List.mem_cons_self]
      · rw [putD_ne _ _ (Ne.symm z), if_neg (by simp only [Bool.or_eq_true, decide_eq_true_eq, not_or]; exact ⟨z, q⟩)]
/-- own, as far as the first i classes go -/
def OwnTo (L : List (List Nat)) (i : Nat) (kvs : List (D × D)) : Prop := ∀ k, k < i → ∀ c, L[k]? = some c → ∀ p ∈ c, valD kvs (.int (p : Nat)) = some (.int (k : Nat))
theorem OwnTo.at {L0 L1 : Nat} {w : Wd} {L : List (List Nat)} (C : IsCl w L0 L1 L) {kvs : List (D × D)} (h : OwnTo L L.length kvs) {p : Nat} (hp : p < w.n) : valD kvs (.int (p : Nat)) = some (.int (ownL L p : Nat)) := by
  obtain ⟨lt, hm⟩ := C.own hp
  exact h _ lt _ (List.getElem?_eq_getElem lt) p hm
theorem folded_spec {L0 L1 : Nat} {w : Wd} (hw : OkW L0 L1 w) (hn : w.n ≤ 60) (l0 : L0 ≤ 1000) (l1 : L1 ≤ 1000) {S : Store} {Q : PD} (h : ∀ S' L, Ext S S' → IsCl w L0 L1 L → Q (encW (fold w L)) S') : F_folded_world [encW w] S Q := by
  refine r_fn rfl ?_
  unfold b_folded_world
  walk_at "s"
  refine alike_spec hw hn l0 l1 fun S1 L e1 C => ?_
  have ll := C.len
  have rowAt : ∀ k, (hk : k < L.length) → atI (L.map encP) (k : Int) = some (encP L[k]) := fun k hk => by
    rw [atI_n, List.getElem?_map, List.getElem?_eq_getElem hk]; rfl
  have hdAt : ∀ c : List Nat, c ≠ [] → atI (c.map fun k : Nat => D.int (k : Nat)) 0 = some (.int (hd c : Nat)) := fun c ne => by
    cases c with
    | nil => exact absurd rfl ne
    | cons a b => exact atI_n (xs := D.int (a : Nat) :: b.map fun k : Nat => D.int (k : Nat)) 0
  walk_at "s"
  refine r_len rfl ?_
  rw [List.length_map]
  walk_at "s"
  refine r_rg (by omega) (by omega) ?_
  rw [rng_map']
  refine for_inv (fun i σ S' => ∃ (s3 : Option D) (kvs : List (D × D)), σ = [some (encW w), some (.tup (L.map encP)), some (.ref S1.length), s3, none, none, none, none, none, none, none] ∧ Ext S1 S' ∧ S'[S1.length]? = some (.dct kvs) ∧ kvs.length ≤ 60 * i ∧ OwnTo L i kvs) ⟨_, [], rfl, Ext.app S1 _, new_at S1 _, Nat.zero_le _, fun k hk => absurd hk (Nat.not_lt_zero _)⟩ ?_ ?_
  · rintro i x σ S2 R hx ⟨s3, kvs, rfl, e2, q2, len, own⟩ hR
    refine ⟨trivial, ?_⟩
    rw [List.getElem?_map] at hx
    cases hq : (List.range L.length)[i]? with
    | none => rw [hq] at hx; cases hx
    | some q =>
      rw [hq] at hx
      cases hx
      have hi : i < L.length := by have := (List.getElem?_eq_some_iff.mp hq).1; simpa using this
      have : q = i := by rw [List.getElem?_range hi] at hq; cases hq; rfl
      subst this
      have cok := (C.ok _ (List.getElem_mem hi)).1
      have clen := cok.le
      walk_at "s"
      refine r_tyDc q2 ?_
      walk_at "s"
      refine r_iTup ?_
      walk_at "s"
      refine r_ixT (rowAt q hi) ?_
      refine ⟨_, rfl, ?_⟩
      intro few2
      refine dc_inv (fun k acc S' => Ext S2 S' ∧ (∀ e ∈ acc, e.2 = .int (q : Nat)) ∧ (∀ e ∈ acc, ∃ p ∈ L[q], e.1 = .int (p : Nat)) ∧ ∀ p ∈ L[q].take k, (acc.any fun e => decide (e.1 = .int (p : Nat))) = true) few2 (new_at S2 _) ⟨Ext.app S2 _, fun e he => (by cases he), fun e he => (by cases he), fun p hp => (by simp at hp)⟩ ?_ ?_
      · rintro k x acc S3 R3 hx3 h3 l3 ⟨a1, a2, a3, a4⟩ hR3
        refine ⟨trivial, ?_⟩
        rw [List.getElem?_map] at hx3
        cases hq3 : L[q][k]? with
        | none => rw [hq3] at hx3; cases hx3
        | some p =>
          rw [hq3] at hx3
          cases hx3
          have hk : k < L[q].length := (List.getElem?_eq_some_iff.mp hq3).1
          walk_at "s"
          refine ⟨acc, rfl, h3, by simp only [sizeLine]; omega, ?_⟩
          refine hR3 _ _ (set_at h3) (Nat.le_trans (length_putD _ _ _) (by omega)) ⟨a1.put (Nat.le_refl _), fun e he => ?_, fun e he => ?_, fun p' hp' => ?_⟩
          · unfold putD at he
            split at he
            · obtain ⟨y, hy, rfl⟩ := List.mem_map.mp he
              split
              · rfl
              · exact a2 y hy
            · rcases List.mem_append.mp he with he | he
              · exact a2 e he
              · rw [List.mem_singleton] at he; rw [he]
          · unfold putD at he
            split at he
            · obtain ⟨y, hy, rfl⟩ := List.mem_map.mp he
              split
              · exact a3 y hy
              · exact a3 y hy
            · rcases List.mem_append.mp he with he | he
              · exact a3 e he
              · rw [List.mem_singleton] at he; rw [he]; exact ⟨p, List.mem_of_getElem? hq3, rfl⟩
          · rw [← valD_any]
            by_cases z : p' = p
            · subst z; rw [putD_self]; rfl
            · rw [putD_ne _ _ (by intro y; injection y with y; omega), valD_any]
              rw [List.take_add_one, hq3, List.mem_append] at hp'
              refine a4 p' (hp'.resolve_right fun y => z ?_)
              simpa using y
      · rintro acc S3 h3 l3 ⟨a1, a2, a3, a4⟩
        refine ⟨trivial, ?_⟩
        rw [List.length_map] at l3 a4
        rw [List.take_length] at a4
        have l12 : S1.length < S2.length := (List.getElem?_eq_some_iff.mp q2).1
        walk_at "s"
        refine r_updD (by omega) (a1 _ _ q2) (dct_at h3) (by simp only [sizeLine]; omega) fun S4 q4 o4 => ?_
        walk_at "s"
        refine hR _ _ ⟨_, _, rfl, fun n cc hcc => ?_, q4, ?_, fun k hk c hc p hp => ?_⟩
        · have : n < S1.length := (List.getElem?_eq_some_iff.mp hcc).1
          exact o4.ne (by omega) (a1 _ _ (e2 _ _ hcc))
        · have := length_mergeD acc kvs
          omega
        · rw [merge_one acc kvs a2]
          by_cases z : k = q
          · subst z
            have : L[k] = c := by rw [List.getElem?_eq_getElem hi] at hc; exact Option.some.inj hc
            rw [← this] at hp
            rw [if_pos (a4 p hp)]
          · rw [if_neg ?_]
            · exact own k (by omega) c hc p hp
            · intro y
              obtain ⟨e, he, ee⟩ := List.any_eq_true.mp y
              obtain ⟨p', hp', e'⟩ := a3 e he
              rw [of_decide_eq_true ee] at e'
              injection e' with e'
              have : p = p' := by omega
              subst this
              have hk2 := (List.getElem?_eq_some_iff.mp hc).1
              have e1 := C.own_eq hi hp'
              have e2 := C.own_eq hk2 (by rw [List.getElem?_eq_getElem hk2] at hc; rw [Option.some.inj hc]; exact hp)
              omega
  rintro σ S2 ⟨s3, kvs, rfl, e2, q2, len, own⟩
  refine ⟨trivial, ?_⟩
  rw [List.length_map, List.length_range] at own
  walk_at "s"
  refine r_iTup ?_
  walk_at "s"
  refine ⟨_, rfl, ?_⟩
  refine for_inv (fun i σ S' => ∃ (t3 s5 : Option D), σ = [some (encW w), some (.tup (L.map encP)), some (.ref S1.length), t3, some (.ref S2.length), s5, none, none, none, none, none] ∧ Ext S2 S' ∧ S'[S2.length]? = some (.lst ((w.marks.take i).map fun m => encP (canon L.length fun k => decide (hd (L.getD k []) ∈ m))))) ⟨_, _, rfl, Ext.app S2 _, new_at S2 _⟩ ?_ ?_
  · rintro i x σ S3 R hx ⟨t3, s5, rfl, e3, q3⟩ hR
    refine ⟨trivial, ?_⟩
    rw [List.getElem?_map] at hx
    cases hq : w.marks[i]? with
    | none => rw [hq] at hx; cases hx
    | some m =>
      rw [hq] at hx
      cases hx
      have hi : i < w.marks.length := (List.getElem?_eq_some_iff.mp hq).1
      have hwm := hw.marks
      walk_at "s"
      refine r_tyL q3 ?_
      walk_at "s"
      refine r_len rfl ?_
      rw [List.length_map]
      walk_at "s"
      refine r_rg (by omega) (by omega) fun few => ?_
      rw [rng_map']
      refine lc_nats (fun k => decide (hd (L.getD k []) ∈ m)) (fun _ => rfl) (by rw [List.length_range]; omega) (fun k hk S4 P e4 hP => ?_) fun S4 e4 h4 => ?_
      · have hk := List.mem_range.mp hk
        have gd : L.getD k [] = L[k] := by rw [List.getD_eq_getElem?_getD, List.getElem?_eq_getElem hk]; rfl
        have ne := (C.ok _ (List.getElem_mem hk)).2
        walk_at "s"
        refine r_ixT (rowAt k hk) ?_
        walk_at "s"
        refine r_ixT (xs := L[k].map fun k : Nat => D.int (k : Nat)) (hdAt _ ne) ?_
        walk_at "s"
        refine in_nat ?_
        walk_at "s"
        rw [← gd]
        exact hP S4 (.refl _)
      · walk_at "s"
        refine r_tuple (lst_sq h4) ?_
        walk_at "s"
        refine r_app (e4 _ _ q3) (by rw [List.length_map, List.length_take]; simp only [sizeLine]; omega) fun S5 q5 o5 => ?_
        walk_at "s"
        refine hR _ _ ⟨_, _, rfl, fun n cc hcc => ?_, ?_⟩
        · have : n < S2.length := (List.getElem?_eq_some_iff.mp hcc).1
          exact o5.ne (by omega) (e4 _ _ (e3 _ _ hcc))
        · rw [q5, List.take_add_one, hq, List.map_append]
          rfl
  rintro σ S3 ⟨t3, s5, rfl, e3, q3⟩
  refine ⟨trivial, ?_⟩
  rw [List.length_map, List.take_length] at q3
  have ow : S3[S1.length]? = some (.dct kvs) := e3 _ _ q2
  walk_at "s"
  refine r_iTup ?_
  walk_at "s"
  refine ⟨_, rfl, ?_⟩
  refine for_inv (fun i σ S' => ∃ (t3 s7 : Option D), σ = [some (encW w), some (.tup (L.map encP)), some (.ref S1.length), t3, some (.ref S2.length), s5, some (.ref S3.length), s7, none, none, none] ∧ Ext S3 S' ∧ S'[S3.length]? = some (.lst ((w.ways.take i).map fun r => encR (L.map fun c => canon L.length fun k => (r.getD (hd c) []).any fun g => decide (ownL L g = k))))) ⟨_, _, rfl, Ext.app S3 _, new_at S3 _⟩ ?_ ?_
  · rintro i x σ S4 R hx ⟨t3, s7, rfl, e4, q4⟩ hR
    refine ⟨trivial, ?_⟩
    rw [List.getElem?_map] at hx
    cases hq : w.ways[i]? with
    | none => rw [hq] at hx; cases hx
    | some r =>
      rw [hq] at hx
      cases hx
      have hi : i < w.ways.length := (List.getElem?_eq_some_iff.mp hq).1
      have hww := hw.ways
      have hr := List.mem_of_getElem? hq
      have hrl := hw.rows r hr
      have ow4 := e4 _ _ ow
      walk_at "s"
      refine r_tyL q4 ?_
      walk_at "s"
      refine r_iTup ?_
      walk_at "s"
      refine ⟨_, rfl, ?_⟩
      intro few4
      refine lc_each L encP (fun c => encP (canon L.length fun k => (r.getD (hd c) []).any fun g => decide (ownL L g = k))) (by simp only [sizeLine]; omega) (fun _ _ => trivial) (fun c hc S5 P5 e5 hP5 => ?_) fun S5 e5 h5 => ?_
      · obtain ⟨cok, ne⟩ := C.ok c hc
        have hh := cok.2 _ (hd_mem ne)
        have hql : hd c < r.length := by omega
        have okq := hw.row r hr _ (List.getElem_mem hql)
        have rq : r.getD (hd c) [] = r[hd c] := by rw [List.getD_eq_getElem?_getD, List.getElem?_eq_getElem hql]; rfl
        have lq := okq.le
        walk_at "s"
        refine r_iTup ?_
        walk_at "s"
        refine r_ixT (xs := c.map fun k : Nat => D.int (k : Nat)) (hdAt _ ne) ?_
        refine r_ixT (xs := r.map encP) (v := encP r[hd c]) (by rw [atI_n, List.getElem?_map, List.getElem?_eq_getElem hql]; rfl) ?_
        refine ⟨_, rfl, ?_⟩
        intro few6
        refine lc_each r[hd c] (fun k : Nat => .int (k : Nat)) (fun g : Nat => .int (ownL L g : Nat)) (by simp only [sizeLine]; omega) (fun _ _ => trivial) (fun g hg S7 P7 e8 hP7 => ?_) fun S7 e8 q7 => ?_
        · have ol7 := e8 _ _ (e5 _ _ ow4)
          walk_at "s"
          refine r_ixD (dct_at ol7) rfl (own.at C (okq.2 g hg)) ?_
          exact hP7 S7 (.refl _)
        · walk_at "s"
          refine r_sortSet (ks := r[hd c].map (ownL L)) (by rw [lst_sq q7, List.map_map]; rfl) (by rw [List.length_map]; omega) fun ls hs hm => ?_
          walk_at "s"
          refine r_tuple (lst_sq (new_at S7 _)) ?_
          have le : ls = canon L.length fun k => (r.getD (hd c) []).any fun g => decide (ownL L g = k) := by
            refine sub_ext (n := 0) hs (canon_ok _ _).1 fun j => ?_
            rw [hm, mem_canon, rq, List.mem_map, List.any_eq_true]
            constructor
            · rintro ⟨g, h1, rfl⟩
              exact ⟨(C.own (okq.2 g h1)).1, g, h1, decide_eq_true rfl⟩
            · rintro ⟨_, g, h1, h2⟩
              exact ⟨g, h1, of_decide_eq_true h2⟩
          rw [show D.tup (ls.map fun k : Nat => D.int (k : Nat)) = encP ls from rfl, le]
          exact hP5 _ (e8.trans (Ext.app S7 _))
      · have q45 := e5 _ _ q4
        walk_at "s"
        refine r_tuple (lst_sq h5) ?_
        walk_at "s"
        refine r_app q45 (by rw [List.length_map, List.length_take]; simp only [sizeLine]; omega) fun S6 q6 o6 => ?_
        walk_at "s"
        refine hR _ _ ⟨_, _, rfl, fun n cc hcc => ?_, ?_⟩
        · have : n < S3.length := (List.getElem?_eq_some_iff.mp hcc).1
          exact o6.ne (by omega) (e5 _ _ (e4 _ _ hcc))
        · rw [q6, List.take_add_one, hq, List.map_append]
          simp [encR]
  rintro σ S4 ⟨t3, s7, rfl, e4, q4⟩
  refine ⟨trivial, ?_⟩
  rw [List.length_map, List.take_length] at q4
  walk_at "s"
  refine r_len rfl ?_
  rw [List.length_map]
  walk_at "s"
  refine r_tuple (lst_sq (e4 _ _ q3)) ?_
  walk_at "s"
  refine r_tuple (lst_sq q4) ?_
  walk_at "s"
  have fin := h S4 L (((e1.trans e2).trans e3).trans e4) C
  have en : encW (fold w L) = .tup [.int (L.length : Nat), .tup (w.marks.map fun m => encP (canon L.length fun k => decide (hd (L.getD k []) ∈ m))), .tup (w.ways.map fun r => encR (L.map fun c => canon L.length fun k => (r.getD (hd c) []).any fun g => decide (ownL L g = k)))] := by
    unfold encW fold
    rw [List.map_map, List.map_map]
    rfl
  rw [en] at fin
  exact fin
end PG
/-! SM35: terms in worlds, in plain words. -/
namespace K35
open PG
theorem Star.head {R : Nat → Nat → Prop} {a b c : Nat} (h : R a b) (s : Star R b c) : Star R a c := by
  induction s with
  | refl => exact .snoc .refl h
  | snoc _ r ih => exact .snoc ih r
section
variable {L0 L1 : Nat}
theorem raw_sem {w : Wd} (hw : OkW L0 L1 w) : ∀ (t : Tm) (f : Fm) (c : Nat) (sc : List Nat) (ρ : Env), OkT L0 L1 t → Sc L0 L1 sc f → (∀ x ∈ sc, x < 20 + c) → EnvOk w.n ρ → ∀ a, a ∈ sem w (raw t f c).1 ρ ↔ ∃ b, rel w t a b ∧ b ∈ sem w f ρ
  | .deed j, f, c, sc, ρ, ht, hf, hx, hρ, a => by
    show a ∈ sem w (.some j f) ρ ↔ _
    simp only [sem, mem_canon, List.any_eq_true, decide_eq_true_eq]
    exact ⟨fun z => z.2, fun ⟨b, h1, h2⟩ => ⟨PG.way_lt1 hw h1, b, h1, h2⟩⟩
  | .ask i, f, c, sc, ρ, ht, hf, hx, hρ, a => by
    show a ∈ sem w (.both (.is i) f) ρ ↔ _
    simp only [sem, mem_canon, Bool.and_eq_true, decide_eq_true_eq]
    constructor
    · rintro ⟨_, ⟨_, h1⟩, h2⟩
      exact ⟨a, ⟨rfl, h1⟩, h2⟩
    · rintro ⟨b, ⟨rfl, h1⟩, h2⟩
      exact ⟨mark_lt hw h1, ⟨mark_lt hw h1, h1⟩, h2⟩
  | .alt s t, f, c, sc, ρ, ht, hf, hx, hρ, a => by
    have h1 := raw_sem hw s f c sc ρ ht.1 hf hx hρ a
    have h2 := raw_sem hw t f (raw s f c).2 sc ρ ht.2 hf (fun x hxx => by have := hx x hxx; have := (raw_many s f c).1; omega) hρ a
    show a ∈ sem w (.either (raw s f c).1 (raw t f (raw s f c).2).1) ρ ↔ _
    simp only [sem, mem_canon, Bool.or_eq_true, decide_eq_true_eq, h1, h2]
    constructor
    · rintro ⟨_, ⟨b, u, v⟩ | ⟨b, u, v⟩⟩
      · exact ⟨b, .inl u, v⟩
      · exact ⟨b, .inr u, v⟩
    · rintro ⟨b, u | u, v⟩
      · exact ⟨(rel_lt hw s a b u).1, .inl ⟨b, u, v⟩⟩
      · exact ⟨(rel_lt hw t a b u).1, .inr ⟨b, u, v⟩⟩
  | .row s t, f, c, sc, ρ, ht, hf, hx, hρ, a => by
    show a ∈ sem w (raw s (raw t f c).1 (raw t f c).2).1 ρ ↔ _
    rw [raw_sem hw s _ _ sc ρ ht.1 (raw_sc t f c sc ht.2 hf) (fun x hxx => by have := hx x hxx; have := (raw_many t f c).1; omega) hρ a]
    constructor
    · rintro ⟨m, u, v⟩
      obtain ⟨b, v1, v2⟩ := (raw_sem hw t f c sc ρ ht.2 hf hx hρ m).mp v
      exact ⟨b, ⟨m, u, v1⟩, v2⟩
    · rintro ⟨b, ⟨m, u, v1⟩, v2⟩
      exact ⟨m, u, (raw_sem hw t f c sc ρ ht.2 hf hx hρ m).mpr ⟨b, v1, v2⟩⟩
  | .again s, f, c, sc, ρ, ht, hf, hx, hρ, a => by
    show a ∈ sem w (.least (20 + c) (.either f (raw s (.name (20 + c)) (c + 1)).1)) ρ ↔ _
    have step : ∀ X, OkSub w.n X → ∀ k, k ∈ sem w (.either f (raw s (.name (20 + c)) (c + 1)).1) (up ρ (20 + c) X) ↔ k < w.n ∧ (k ∈ sem w f ρ ∨ ∃ b, rel w s k b ∧ b ∈ X) := fun X hX k => by
      have h1 := raw_sem hw s (.name (20 + c)) (c + 1) [20 + c] (up ρ (20 + c) X) ht List.mem_cons_self (fun x hxx => by rw [List.mem_singleton] at hxx; omega) (hρ.up hX _) k
      have h2 : sem w f (up ρ (20 + c) X) = sem w f ρ := sem_congr w f sc _ _ hf fun z hz => by
        have := hx z hz
        rw [up_ne _ _ (by omega)]
      simp only [sem, mem_canon, Bool.or_eq_true, decide_eq_true_eq, h1, h2, up_self]
    have hm := fun X Y (hX : Sub X Y) => sem_mono w (.either f (raw s (.name (20 + c)) (c + 1)).1) _ _ (up_mono (fun y => (fun _ z => z : Sub (ρ y) (ρ y))) hX (20 + c))
    have ho := fun X (hX : OkSub w.n X) => sem_ok w (.either f (raw s (.name (20 + c)) (c + 1)).1) (up ρ (20 + c) X) (hρ.up hX (20 + c))
    have fix := up_rest hm ho
    have okP := it_ok ho (nil_ok w.n) w.n
    rw [sem]
    constructor
    · intro ha
      classical
      have T : Sub (it (fun X => sem w (.either f (raw s (.name (20 + c)) (c + 1)).1) (up ρ (20 + c) X)) w.n []) (canon w.n fun k => decide (∃ b, Star (rel w s) k b ∧ b ∈ sem w f ρ)) := by
        refine it_least hm (fun k hk => ?_) _
        rw [step _ (canon_ok _ _)] at hk
        rw [mem_canon, decide_eq_true_eq]
        refine ⟨hk.1, ?_⟩
        rcases hk.2 with h | ⟨b, h1, h2⟩
        · exact ⟨k, .refl, h⟩
        · rw [mem_canon, decide_eq_true_eq] at h2
          obtain ⟨_, y, h3, h4⟩ := h2
          exact ⟨y, Star.head h1 h3, h4⟩
      have := T a ha
      rw [mem_canon, decide_eq_true_eq] at this
      obtain ⟨h1, b, h2, h3⟩ := this
      exact ⟨b, ⟨h1, h2⟩, h3⟩
    · rintro ⟨b, ⟨ha, hs⟩, hb⟩
      generalize hP : it (fun X => sem w (.either f (raw s (.name (20 + c)) (c + 1)).1) (up ρ (20 + c) X)) w.n [] = P at okP ⊢
      have fix : sem w (.either f (raw s (.name (20 + c)) (c + 1)).1) (up ρ (20 + c) P) = P := by rw [← hP]; exact fix
      have memP : ∀ k, k ∈ P ↔ k < w.n ∧ (k ∈ sem w f ρ ∨ ∃ b, rel w s k b ∧ b ∈ P) := fun k => by
        have := step P okP k
        rw [fix] at this
        exact this
      have back : ∀ y, Star (rel w s) a y → y ∈ P → a ∈ P := by
        intro y hy
        induction hy with
        | refl => exact fun z => z
        | snoc _ r ih => exact fun z => ih ((memP _).mpr ⟨(rel_lt hw s _ _ r).1, .inr ⟨_, r, z⟩⟩)
      exact back b hs ((memP b).mpr ⟨(sem_ok w f ρ hρ).2 b hb, .inl hb⟩)
/-! ### side by side -/
variable {u v : Wd}
theorem rel_bes (hu : OkW L0 L1 u) (hv : OkW L0 L1 v) : ∀ (t : Tm), OkT L0 L1 t → (∀ a b, a < u.n → (rel (bes u v) t a b ↔ rel u t a b)) ∧ (∀ a b, rel (bes u v) t (a + u.n) b ↔ ∃ b', b = b' + u.n ∧ rel v t a b')
  | .deed j, ht => ⟨fun a b ha => by show b ∈ (bes u v).way j a ↔ _; rw [bes_way1 hu hv ht ha]; exact Iff.rfl, fun a b => by
      show b ∈ (bes u v).way j (a + u.n) ↔ _
      rw [bes_way2 hu hv ht, List.mem_map]
      exact ⟨fun ⟨x, h1, h2⟩ => ⟨x, h2.symm, h1⟩, fun ⟨x, h1, h2⟩ => ⟨x, h2, h1.symm⟩⟩⟩
  | .ask i, ht => by
    have e := bes_mark hu hv (show i < L0 from ht)
    refine ⟨fun a b ha => ?_, fun a b => ?_⟩
    · show (a = b ∧ a ∈ (bes u v).marks.getD i []) ↔ (a = b ∧ a ∈ u.marks.getD i [])
      rw [e, List.mem_append, List.mem_map]
      refine and_congr Iff.rfl ⟨fun z => z.resolve_right fun ⟨x, _, h⟩ => by omega, .inl⟩
    · show (a + u.n = b ∧ a + u.n ∈ (bes u v).marks.getD i []) ↔ ∃ b', b = b' + u.n ∧ (a = b' ∧ a ∈ v.marks.getD i [])
      rw [e, List.mem_append, List.mem_map]
      constructor
      · rintro ⟨rfl, h | ⟨x, h1, h2⟩⟩
        · have := mark_lt hu h; omega
        · have : x = a := by omega
          subst this
          exact ⟨x, rfl, rfl, h1⟩
      · rintro ⟨b', rfl, rfl, h⟩
        exact ⟨rfl, .inr ⟨a, h, rfl⟩⟩
  | .alt s t, ht => by
    obtain ⟨s1, s2⟩ := rel_bes hu hv s ht.1
    obtain ⟨t1, t2⟩ := rel_bes hu hv t ht.2
    refine ⟨fun a b ha => or_congr (s1 a b ha) (t1 a b ha), fun a b => ?_⟩
    show (rel (bes u v) s (a + u.n) b ∨ rel (bes u v) t (a + u.n) b) ↔ ∃ b', b = b' + u.n ∧ (rel v s a b' ∨ rel v t a b')
    rw [s2, t2]
    constructor
    · rintro (⟨b', h1, h2⟩ | ⟨b', h1, h2⟩)
      · exact ⟨b', h1, .inl h2⟩
      · exact ⟨b', h1, .inr h2⟩
    · rintro ⟨b', h1, h2 | h2⟩
      · exact .inl ⟨b', h1, h2⟩
      · exact .inr ⟨b', h1, h2⟩
  | .row s t, ht => by
    obtain ⟨s1, s2⟩ := rel_bes hu hv s ht.1
    obtain ⟨t1, t2⟩ := rel_bes hu hv t ht.2
    refine ⟨fun a b ha => ⟨?_, ?_⟩, fun a b => ⟨?_, ?_⟩⟩
    · rintro ⟨c, h1, h2⟩
      have h1 := (s1 a c ha).mp h1
      exact ⟨c, h1, (t1 c b (rel_lt hu s a c h1).2).mp h2⟩
    · rintro ⟨c, h1, h2⟩
      exact ⟨c, (s1 a c ha).mpr h1, (t1 c b (rel_lt hu s a c h1).2).mpr h2⟩
    · rintro ⟨c, h1, h2⟩
      obtain ⟨c', rfl, h3⟩ := (s2 a c).mp h1
      obtain ⟨b', rfl, h4⟩ := (t2 c' b).mp h2
      exact ⟨b', rfl, c', h3, h4⟩
    · rintro ⟨b', rfl, c', h3, h4⟩
      exact ⟨c' + u.n, (s2 a _).mpr ⟨c', rfl, h3⟩, (t2 c' _).mpr ⟨b', rfl, h4⟩⟩
  | .again s, ht => by
    obtain ⟨s1, s2⟩ := rel_bes hu hv s ht
    have f1 : ∀ a b, a < u.n → Star (rel (bes u v) s) a b → Star (rel u s) a b ∧ b < u.n := fun a b ha h => by
      induction h with
      | refl => exact ⟨.refl, ha⟩
      | snoc _ r ih =>
        have r := (s1 _ _ ih.2).mp r
        exact ⟨.snoc ih.1 r, (rel_lt hu s _ _ r).2⟩
    have g1 : ∀ a b, a < u.n → Star (rel u s) a b → Star (rel (bes u v) s) a b ∧ b < u.n := fun a b ha h => by
      induction h with
      | refl => exact ⟨.refl, ha⟩
      | snoc _ r ih => exact ⟨.snoc ih.1 ((s1 _ _ ih.2).mpr r), (rel_lt hu s _ _ r).2⟩
    have f2 : ∀ a b, Star (rel (bes u v) s) (a + u.n) b → ∃ b', b = b' + u.n ∧ Star (rel v s) a b' := fun a b h => by
      induction h with
      | refl => exact ⟨a, rfl, .refl⟩
      | snoc _ r ih =>
        obtain ⟨c', rfl, h3⟩ := ih
        obtain ⟨b', rfl, h4⟩ := (s2 _ _).mp r
        exact ⟨b', rfl, .snoc h3 h4⟩
    have g2 : ∀ a b, Star (rel v s) a b → Star (rel (bes u v) s) (a + u.n) (b + u.n) := fun a b h => by
      induction h with
      | refl => exact .refl
      | snoc _ r ih => exact .snoc ih ((s2 _ _).mpr ⟨_, rfl, r⟩)
    refine ⟨fun a b ha => ⟨fun z => ⟨ha, (f1 a b ha z.2).1⟩, fun z => ⟨by show a < u.n + v.n; omega, (g1 a b ha z.2).1⟩⟩, fun a b => ⟨fun z => ?_, ?_⟩⟩
    · obtain ⟨b', h1, h2⟩ := f2 a b z.2
      have := z.1
      exact ⟨b', h1, by have : a + u.n < u.n + v.n := z.1; omega, h2⟩
    · rintro ⟨b', rfl, h1, h2⟩
      exact ⟨by show a + u.n < u.n + v.n; omega, g2 a b' h2⟩
theorem led_bes (hu : OkW L0 L1 u) (hv : OkW L0 L1 v) {t : Tm} (ht : OkT L0 L1 t) {ps qs rs : List SD.Pr} (h1 : ps.Pairwise plt) (h2 : qs.Pairwise plt) (h3 : rs.Pairwise plt) (m1 : ∀ a b, (a, b) ∈ ps ↔ rel (bes u v) t a b) (m2 : ∀ a b, (a, b) ∈ qs ↔ rel u t a b) (m3 : ∀ a b, (a, b) ∈ rs ↔ rel v t a b) :
    ps = qs ++ rs.map fun p => (p.1 + u.n, p.2 + u.n) := by
  obtain ⟨r1, r2⟩ := rel_bes hu hv t ht
  refine plt_uniq h1 ?_ fun p => ?_
  · rw [List.pairwise_append]
    refine ⟨h2, ?_, fun a ha b hb => ?_⟩
    · rw [List.pairwise_map]
      exact h3.imp fun z => by unfold plt at z ⊢; simp only; omega
    · obtain ⟨c, _, rfl⟩ := List.mem_map.mp hb
      have := (rel_lt hu t _ _ ((m2 a.1 a.2).mp ha)).1
      left
      show a.1 < c.1 + u.n
      omega
  · obtain ⟨a, b⟩ := p
    rw [List.mem_append, List.mem_map, m1, m2]
    constructor
    · intro h
      by_cases ha : a < u.n
      · exact .inl ((r1 a b ha).mp h)
      · obtain ⟨a', rfl⟩ : ∃ a', a = a' + u.n := ⟨a - u.n, by omega⟩
        obtain ⟨b', rfl, h2⟩ := (r2 a' b).mp h
        exact .inr ⟨(a', b'), (m3 _ _).mpr h2, rfl⟩
    · rintro (h | ⟨c, hc, e⟩)
      · exact (r1 a b (rel_lt hu t _ _ h).1).mpr h
      · have e1 : c.1 + u.n = a := congrArg Prod.fst e
        have e2 : c.2 + u.n = b := congrArg Prod.snd e
        subst e1 e2
        exact (r2 _ _).mpr ⟨_, rfl, (m3 c.1 c.2).mp hc⟩
/-! ### folded -/
theorem rel_fold {w v : Wd} {o : Nat → Nat} (hw : OkW L0 L1 w) (hv : OkW L0 L1 v) (F : Fold w v L0 L1 o) : ∀ (t : Tm), OkT L0 L1 t → (∀ a b, rel w t a b → rel v t (o a) (o b)) ∧ (∀ a d, a < w.n → rel v t (o a) d → ∃ b, rel w t a b ∧ o b = d)
  | .deed j, ht => ⟨fun a b h => F.forth j ht a b h, fun a d ha h => F.back j ht a ha d h⟩
  | .ask i, ht => ⟨fun a b h => ⟨by rw [h.1], (F.marks i ht a (mark_lt hw h.2)).mp h.2⟩, fun a d ha h => ⟨a, ⟨rfl, (F.marks i ht a ha).mpr h.2⟩, h.1⟩⟩
  | .alt s t, ht => by
    obtain ⟨s1, s2⟩ := rel_fold hw hv F s ht.1
    obtain ⟨t1, t2⟩ := rel_fold hw hv F t ht.2
    refine ⟨fun a b h => h.imp (s1 a b) (t1 a b), fun a d ha h => ?_⟩
    rcases h with h | h
    · obtain ⟨b, h1, h2⟩ := s2 a d ha h
      exact ⟨b, .inl h1, h2⟩
    · obtain ⟨b, h1, h2⟩ := t2 a d ha h
      exact ⟨b, .inr h1, h2⟩
  | .row s t, ht => by
    obtain ⟨s1, s2⟩ := rel_fold hw hv F s ht.1
    obtain ⟨t1, t2⟩ := rel_fold hw hv F t ht.2
    refine ⟨fun a b ⟨c, h1, h2⟩ => ⟨o c, s1 a c h1, t1 c b h2⟩, fun a d ha ⟨c, h1, h2⟩ => ?_⟩
    obtain ⟨b, h3, rfl⟩ := s2 a c ha h1
    obtain ⟨e, h4, rfl⟩ := t2 b d (rel_lt hw s a b h3).2 h2
    exact ⟨e, ⟨b, h3, h4⟩, rfl⟩
  | .again s, ht => by
    obtain ⟨s1, s2⟩ := rel_fold hw hv F s ht
    refine ⟨fun a b z => ⟨F.lt a z.1, ?_⟩, fun a d ha z => ?_⟩
    · have h := z.2
      clear z
      induction h with
      | refl => exact .refl
      | snoc _ r ih => exact .snoc ih (s1 _ _ r)
    · have h := z.2
      clear z
      induction h with
      | refl => exact ⟨a, ⟨ha, .refl⟩, rfl⟩
      | snoc _ r ih =>
        obtain ⟨b, h1, rfl⟩ := ih
        obtain ⟨e, h4, rfl⟩ := s2 b _ (rel_lt hw (.again s) a b h1).2 r
        exact ⟨e, ⟨ha, .snoc h1.2 h4⟩, rfl⟩
theorem rel_small {w v : Wd} {o : Nat → Nat} (hw : OkW L0 L1 w) (hv : OkW L0 L1 v) (F : Fold w v L0 L1 o) {t : Tm} (ht : OkT L0 L1 t) (c d : Nat) : rel v t c d ↔ ∃ a b, rel w t a b ∧ o a = c ∧ o b = d := by
  obtain ⟨h1, h2⟩ := rel_fold hw hv F t ht
  constructor
  · intro h
    obtain ⟨a, ha, rfl⟩ := F.on c (rel_lt hv t c d h).1
    obtain ⟨b, h3, h4⟩ := h2 a d ha h
    exact ⟨a, b, h3, rfl, h4⟩
  · rintro ⟨a, b, h, rfl, rfl⟩
    exact h1 a b h
end
end K35
/-! KL35: the plain law of K35. -/
namespace K35
open PySem L2 SD PG
/-- two lists, held against one another -/
theorem same_list_spec {k n m : Nat} {xs ys : List D} {S : Store} {Q : PD} (hx : S[n]? = some (.lst xs)) (hy : S[m]? = some (.lst ys)) (lx : xs.length ≤ 1000000) (ly : ys.length ≤ 1000000) (px : ∀ x ∈ xs, Pl k x) (py : ∀ y ∈ ys, Pl k y) (h : ∀ S', Ext S S' → Q (.bl (decide (xs = ys))) S') : F__law_same (k + 1) [.ref n, .ref m] S Q := by
  have h0 := h S (.refl S)
  refine r_fn rfl ?_
  unfold b__law_same
  have tx : tyName S (.ref n) = some "list" := by show (match S[n]? with | some (.lst _) => _ | some (.dct _) => _ | some (.lck _) => _ | _ => _) = _; rw [hx]
  have ty : tyName S (.ref m) = some "list" := by show (match S[m]? with | some (.lst _) => _ | some (.dct _) => _ | some (.lck _) => _ | _ => _) = _; rw [hy]
  walk_at "s"
  refine r_ty ty ?_
  walk_at "s"
  refine r_ty ty ?_
  walk_at "s"
  refine r_ty ty ?_
  walk_at "s"
  refine r_ty tx ?_
  walk_at "s"
  refine r_ty ty ?_
  walk_at "s"
  refine r_ty tx ?_
  walk_at "s"
  refine r_len (lst_sq hx) ?_
  walk_at "s"
  refine r_len (lst_sq hy) ?_
  walk_at "s"
  refine ite_b (fun hne => ?_) (fun he => ?_)
  · walk_at "s"
    have : decide (xs = ys) = false := by
      rw [decide_eq_false_iff_not]
      intro e
      subst e
      simp at hne
    rw [this] at h0
    exact h0
  · have he : xs.length = ys.length := by
      have : ((xs.length : Nat) : Int) = (ys.length : Nat) := by simpa using he
      omega
    walk_at "s"
    refine r_len (lst_sq hy) ?_
    walk_at "s"
    refine r_rg (by omega) (by omega) fun few => ?_
    refine lc_filter (neAt xs ys) id few (fun _ _ => trivial) ?_ ?_ ?_
    · intro x hxx S1 P e1 hP
      obtain ⟨i, hi, rfl⟩ := mem_rng hxx
      rw [Int.toNat_natCast] at hi
      walk_at "s"
      refine r_ixL (e1 _ _ hx) (v := xs[i]) (by rw [atI_n, List.getElem?_eq_getElem (by omega)]) ?_
      walk_at "s"
      refine r_ixL (e1 _ _ hy) (v := ys[i]) (by rw [atI_n, List.getElem?_eq_getElem (by omega)]) ?_
      walk_at "s"
      refine same_spec k _ _ _ _ (px _ (List.getElem_mem _)) (py _ (List.getElem_mem _)) fun S2 e2 => ?_
      walk_at "s"
      have := hP S2 e2
      rw [neAt_int (by omega) hi] at this
      exact this
    · intro x hx S1 P e1 hP
      walk_at "s"
      exact hP S1 (.refl S1)
    · intro S1 e1 hS
      walk_at "s"
      refine r_len (lst_sq hS) ?_
      walk_at "s"
      have := h S1 e1
      rw [List.map_id]
      have q : decide (xs = ys) = decide ((((rngD 0 ((ys.length : Nat) : Int).toNat).filter (neAt xs ys)).length : Int) = 0) := by
        rw [decide_eq_decide, Int.toNat_natCast, Int.natCast_eq_zero, filter_ne he]
      rw [q] at this
      exact this
theorem pl_pr (k : Nat) (p : SD.Pr) : Pl (k + 2) (pqD p)   := .tup _ _ (by show 2 ≤ 1000000; decide) fun x hx => by
  simp only [List.mem_cons, List.not_mem_nil, or_false] at hx
  rcases hx with rfl | rfl <;> exact .int _ _
theorem pq_inj {xs ys : List SD.Pr} : decide (xs.map pqD = ys.map pqD) = decide (xs = ys) := by
  rw [decide_eq_decide]
  constructor
  · intro h
    induction xs generalizing ys with
    | nil => cases ys with
      | nil => rfl
      | cons => cases h
    | cons x xs ih => cases ys with
      | nil => cases h
      | cons y ys =>
        rw [List.map_cons, List.map_cons] at h
        injection h with h1 h2
        rw [pqD_inj _ _ h1, ih h2]
  · rintro rfl; rfl
/-- [e for a, b in pairs if t] -/
theorem lc_pr {ok : Store → Prop} {i j : Nat} {t : FT} {e : FE} {R : Store → Prop} {σ : Slots} {S : Store} (ps : List SD.Pr) (p : SD.Pr → Bool) (out : SD.Pr → D) (few : ps.length ≤ 100000) (hok : ∀ S1, Ext S S1 → ok S1)
    (ht : ∀ x ∈ ps, ∀ S1 (P : Bool → Store → Prop), Ext S S1 → (∀ S2, Ext S1 S2 → P (p x) S2) → t ((σ.set i (some (.int (x.1 : Nat)))).set j (some (.int (x.2 : Nat)))) S1 P)
    (he : ∀ x ∈ ps, ∀ S1 (P : PD), Ext S S1 → (∀ S2, Ext S1 S2 → P (out x) S2) → e ((σ.set i (some (.int (x.1 : Nat)))).set j (some (.int (x.2 : Nat)))) S1 P)
    (hQ : ∀ S1, Ext S S1 → S1[S.length]? = some (.lst ((ps.filter p).map out)) → R S1) :
    lcD ok (gTp 2 (gsCons (gNm i) (gsCons (gNm j) gsNil))) t e S.length R σ (ps.map pqD) (S ++ [.lst []]) := by
  refine lc_inv (fun k acc S1 => Ext S S1 ∧ acc = ((ps.take k).filter p).map out) (by rw [List.length_map]; simp only [sizeLine]; omega) (new_at S _) ⟨Ext.app S _, rfl⟩ ?_ ?_
  · rintro k x acc S1 R1 hx h1 hl ⟨e1, rfl⟩ hR
    rw [List.getElem?_map] at hx
    cases hg : ps[k]? with
    | none => rw [hg] at hx; cases hx
    | some q =>
      rw [hg] at hx
      cases hx
      have hm := List.mem_of_getElem? hg
      have hk : k < ps.length := (List.getElem?_eq_some_iff.mp hg).1
      have tk : ps.take (k + 1) = ps.take k ++ [q] := by rw [List.take_add_one, hg]; rfl
      refine ⟨hok S1 e1, r_gTp rfl (r_gsCons (r_nm (r_gsCons (r_nm (r_gsNil (ht q hm S1 _ e1 fun S2 e2 => ?_))))))⟩
      cases hp : p q with
      | false =>
        rw [if_neg (by decide)]
        refine hR _ _ (e2 _ _ h1) (by omega) ⟨e1.trans e2, ?_⟩
        rw [tk, List.filter_append, List.filter_cons_of_neg (by simp [hp])]; simp
      | true =>
        rw [if_pos rfl]
        refine he q hm S2 _ (e1.trans e2) fun S3 e3 => ⟨_, e3 _ _ (e2 _ _ h1), by simp only [sizeLine]; omega, ?_⟩
        refine hR _ _ (set_at (e3 _ _ (e2 _ _ h1))) (by rw [List.length_append]; exact Nat.succ_le_succ hl) ⟨((e1.trans e2).trans e3).put (Nat.le_refl _), ?_⟩
        rw [tk, List.filter_append, List.filter_cons_of_pos (by simp [hp])]; simp
  · rintro acc S1 h1 hl ⟨e1, rfl⟩
    rw [List.length_map, List.take_length] at h1
    exact ⟨hok S1 e1, hQ S1 e1 h1⟩
def few7 : List SD.Pr := (List.range 7).flatMap fun a => (List.range 7).map fun b => (a, b)
theorem few_pairs {ps : List SD.Pr} (nd : ps.Nodup) (h : ∀ p ∈ ps, p.1 < 7 ∧ p.2 < 7) : ps.length ≤ 49 := by
  have := subset_len (ls := few7) nd fun p hp => by
    obtain ⟨a, b⟩ := p
    exact List.mem_flatMap.mpr ⟨a, List.mem_range.mpr (h _ hp).1, List.mem_map.mpr ⟨b, List.mem_range.mpr (h _ hp).2, rfl⟩⟩
  exact Nat.le_trans this (by decide)
theorem main (ns : List Int) (h : ns.length ≤ 63) : F_law [.frz (ns.map .int)] [] (fun d _ => d = .bl true) := by
  refine r_fn rfl ?_
  unfold b_law
  walk_at "s"
  refine pool_spec h fun S1 p q P1 _ _ _ => ?_
  walk_at "s"
  refine draw_spec P1 (by decide) (by decide) fun S2 r hr P2 o2 => ?_
  have lands : ∃ L0 L1 : Nat, atI [D.tup [.int 1, .int 1], .tup [.int 2, .int 1], .tup [.int 1, .int 2]] (r : Int) = some (.tup [.int (L0 : Nat), .int (L1 : Nat)]) ∧ 1 ≤ L0 ∧ L0 ≤ 2 ∧ 1 ≤ L1 ∧ L1 ≤ 2 := by
    match r, hr with
    | 0, _ => exact ⟨1, 1, by with_unfolding_all rfl, by decide, by decide, by decide, by decide⟩
    | 1, _ => exact ⟨2, 1, by with_unfolding_all rfl, by decide, by decide, by decide, by decide⟩
    | 2, _ => exact ⟨1, 2, by with_unfolding_all rfl, by decide, by decide, by decide, by decide⟩
    | r + 3, hr => omega
  obtain ⟨L0, L1, hl, l1, l2, m1, m2⟩ := lands
  refine r_ixT hl ?_
  walk_at "s"
  refine term_spec l1 (by omega) m1 (by omega) 12 2 p q S2 _ (by decide) P2 fun S3 t ht td tg P3 e3 => ?_
  have tg : t.gw ≤ 8 := tg
  walk_at "s"
  refine r_par ?_
  walk_at "s"
  refine world_spec P3 (by omega) (by omega) (by decide) (by decide) (most := 4) fun S4 u hu hu4 P4 e4 => ?_
  walk_at "s"
  refine world_spec P4 (by omega) (by omega) (by decide) (by decide) (most := 3) fun S5 v hv hv3 P5 e5 => ?_
  refine ⟨_, _, rfl, ?_⟩
  walk_at "s"
  refine beside_spec hu hv (by omega) (by omega) (by omega) (by omega) fun S6 e6 => ?_
  have P6 := P5.ext e6
  have hb := bes_ok hu hv
  have bn : (bes u v).n ≤ 7 := by show u.n + v.n ≤ 7; omega
  have bpos := hb.pos
  walk_at "s"
  refine led_spec hb (by omega) (by omega) ht fun S7 n1 ps e7 _ h7 s7 nd7 mm7 => ?_
  walk_at "s"
  refine led_spec hu (by omega) (by omega) ht fun S8 n2 qs e8 _ h8 s8 nd8 mm8 => ?_
  walk_at "s"
  refine r_iLst ?_
  walk_at "s"
  refine led_spec hv (by omega) (by omega) ht fun S9 n3 rs e9 _ h9 s9 nd9 mm9 => ?_
  refine .inr ⟨n3, _, rfl, h9, ?_⟩
  intro few
  have pl7 : ∀ {w : Wd} {xs : List SD.Pr}, OkW L0 L1 w → w.n ≤ 7 → xs.Nodup → (∀ a b, (a, b) ∈ xs ↔ rel w t a b) → xs.length ≤ 49 := fun hw hn nd mm => few_pairs nd fun p hp => by
    have := rel_lt hw t p.1 p.2 ((mm p.1 p.2).mp hp)
    omega
  have lps := pl7 hb bn nd7 mm7
  have lqs := pl7 hu (by omega) nd8 mm8
  have lrs := pl7 hv (by omega) nd9 mm9
  refine lc_pr rs (fun _ => true) (fun p => .tup [.int ((u.n : Int) + (p.1 : Nat)), .int ((u.n : Int) + (p.2 : Nat))]) (by omega) (fun S' e' => e' _ _ h9) (fun x hx S' P e' hP => ?_) (fun x hx S' P e' hP => ?_) fun S10 e10 h10 => ?_
  · walk_at "s"
    exact hP S' (.refl _)
  · walk_at "s"
    exact hP S' (.refl _)
  have h10' : S10[S9.length]? = some (.lst ((rs.map fun p => (p.1 + u.n, p.2 + u.n)).map pqD)) := by
    rw [h10, List.map_map]
    congr 2
    rw [List.filter_eq_self.mpr fun _ _ => rfl]
    exact List.map_congr_left fun p _ => by
      show D.tup [.int ((u.n : Int) + (p.1 : Nat)), .int ((u.n : Int) + (p.2 : Nat))] = D.tup [.int ((p.1 + u.n : Nat) : Int), .int ((p.2 + u.n : Nat) : Int)]
      rw [Int.natCast_add, Int.natCast_add, Int.add_comm, Int.add_comm (u.n : Int) (p.2 : Int)]
  refine r_addL (e10 _ _ (e9 _ _ h8)) h10' (by rw [List.length_map, List.length_map, List.length_map]; simp only [sizeLine]; omega) ?_
  rw [← List.map_append, ← led_bes hu hv ht s7 s8 s9 mm7 mm8 mm9]
  have eA : Ext S7 (S10 ++ [Cell.lst (ps.map pqD)]) := ((e8.trans e9).trans e10).trans (Ext.app _ _)
  have hA := new_at S10 (Cell.lst (ps.map pqD))
  generalize S10 ++ [Cell.lst (ps.map pqD)] = S11 at eA hA ⊢
  walk_at "s"
  refine same_list_spec (eA _ _ h7) hA (by rw [List.length_map]; omega) (by rw [List.length_map]; omega) (fun x hx => by obtain ⟨p, _, rfl⟩ := List.mem_map.mp hx; exact pl_pr 1 p) (fun x hx => by obtain ⟨p, _, rfl⟩ := List.mem_map.mp hx; exact pl_pr 1 p) fun S12 e12 => ?_
  rw [decide_eq_true rfl]
  have P12 := P6.ext ((e7.trans eA).trans e12)
  walk_at "s"
  refine alike_spec hb (by omega) (by omega) (by omega) fun S13 L e13 C => ?_
  have P13 := P12.ext e13
  have ll := C.len
  have rowAt : ∀ k, (hk : k < L.length) → atI (L.map encP) (k : Int) = some (encP L[k]) := fun k hk => by
    rw [atI_n, List.getElem?_map, List.getElem?_eq_getElem hk]; rfl
  clear h10 h10' hA eA e8 e9 e10 h7 h8 h9
  walk_at "s"
  refine r_len rfl ?_
  rw [List.length_map]
  walk_at "s"
  refine r_rg (by omega) (by omega) ?_
  rw [rng_map']
  refine for_inv (fun i σ S' => ∃ (s10 s11 : Option D) (kvs : List (D × D)), σ = [some (.frz (ns.map .int)), some (.ref p), some (.tup [.int (L0 : Nat), .int (L1 : Nat)]), some (encT t), some (encW u), some (encW v), some (.int (u.n : Nat)), some (encW (bes u v)), some (.tup (L.map encP)), some (.ref S13.length), s10, s11, none, none, none, none, none, none, none] ∧ Ext S13 S' ∧ S'[S13.length]? = some (.dct kvs) ∧ kvs.length ≤ 60 * i ∧ OwnTo L i kvs) ⟨_, _, [], rfl, Ext.app S13 _, new_at S13 _, Nat.zero_le _, fun k hk => absurd hk (Nat.not_lt_zero _)⟩ ?_ ?_
  · rintro i x σ S14 R hx ⟨s10, s11, kvs, rfl, e14, q14, len, own⟩ hR
    refine ⟨trivial, ?_⟩
    rw [List.getElem?_map] at hx
    cases hq : (List.range L.length)[i]? with
    | none => rw [hq] at hx; cases hx
    | some j =>
      rw [hq] at hx
      cases hx
      have hi : i < L.length := by have := (List.getElem?_eq_some_iff.mp hq).1; simpa using this
      have : j = i := by rw [List.getElem?_range hi] at hq; cases hq; rfl
      subst this
      have cok := (C.ok _ (List.getElem_mem hi)).1
      have clen := cok.le
      walk_at "s"
      refine r_iTup ?_
      walk_at "s"
      refine r_ixT (rowAt j hi) ?_
      refine ⟨_, rfl, ?_⟩
      refine for_inv (fun m σ S' => ∃ (s11 : Option D) (kv2 : List (D × D)), σ = [some (.frz (ns.map .int)), some (.ref p), some (.tup [.int (L0 : Nat), .int (L1 : Nat)]), some (encT t), some (encW u), some (encW v), some (.int (u.n : Nat)), some (encW (bes u v)), some (.tup (L.map encP)), some (.ref S13.length), some (.int (j : Nat)), s11, none, none, none, none, none, none, none] ∧ Ext S13 S' ∧ S'[S13.length]? = some (.dct kv2) ∧ kv2.length ≤ 60 * j + m ∧ OwnTo L j kv2 ∧ ∀ x ∈ L[j].take m, valD kv2 (.int (x : Nat)) = some (.int (j : Nat))) ⟨_, kvs, rfl, e14, q14, len, own, fun x hx => by simp at hx⟩ ?_ ?_
      · rintro m y σ S15 R2 hy ⟨s11, kv2, rfl, e15, q15, len2, own2, mine⟩ hR2
        refine ⟨trivial, ?_⟩
        rw [List.getElem?_map] at hy
        cases hq2 : L[j][m]? with
        | none => rw [hq2] at hy; cases hy
        | some z =>
          rw [hq2] at hy
          cases hy
          have hm : m < L[j].length := (List.getElem?_eq_some_iff.mp hq2).1
          have hz : z ∈ L[j] := List.mem_of_getElem? hq2
          walk_at "s"
          refine r_setD1 q15 rfl (by simp only [sizeLine]; omega) fun S16 q16 o16 => ?_
          refine hR2 _ _ ⟨_, _, rfl, fun n cc hcc => ?_, q16, Nat.le_trans (length_putD _ _ _) (by omega), fun k hk c hc x hx => ?_, fun x hx => ?_⟩
          · have : n < S13.length := (List.getElem?_eq_some_iff.mp hcc).1
            exact o16.ne (by omega) (e15 _ _ hcc)
          · rw [putD_ne _ _ (fun e => ?_)]
            · exact own2 k hk c hc x hx
            · injection e with e
              have e : x = z := by omega
              subst e
              have hk2 := (List.getElem?_eq_some_iff.mp hc).1
              have a1 := C.own_eq hi hz
              have a2 := C.own_eq hk2 (by rw [List.getElem?_eq_getElem hk2] at hc; rw [Option.some.inj hc]; exact hx)
              omega
          · by_cases e : x = z
            · subst e; rw [putD_self]
            · rw [putD_ne _ _ (by intro y; injection y with y; omega)]
              rw [List.take_add_one, hq2, List.mem_append] at hx
              exact mine x (hx.resolve_right fun y => e (by simpa using y))
      · rintro σ S15 ⟨s11, kv2, rfl, e15, q15, len2, own2, mine⟩
        refine ⟨trivial, ?_⟩
        rw [List.length_map] at len2 mine
        rw [List.take_length] at mine
        refine hR _ _ ⟨_, _, kv2, rfl, e15, q15, by omega, fun k hk c hc x hx => ?_⟩
        by_cases e : k = j
        · subst e
          have : L[k] = c := by rw [List.getElem?_eq_getElem hi] at hc; exact Option.some.inj hc
          exact mine x (this ▸ hx)
        · exact own2 k (by omega) c hc x hx
  rintro σ S14 ⟨s10, s11, kvs, rfl, e14, q14, len, own⟩
  refine ⟨trivial, ?_⟩
  rw [List.length_map, List.length_range] at own
  have P14 := P13.ext e14
  walk_at "s"
  refine folded_spec hb (by omega) (by omega) (by omega) fun S15 L' e15 C' => ?_
  have eL := C'.uniq C
  subst eL
  have F := fold_is hb C
  have hs := fold_ok hb C
  have P15 := P14.ext e15
  have sn : (fold (bes u v) L').n ≤ 7 := by show L'.length ≤ 7; omega
  generalize fold (bes u v) L' = sm at F hs sn
  have q15 := e15 _ _ q14
  walk_at "s"
  refine led_spec hs (by omega) (by omega) ht fun S16 n4 ps2 e16 _ h16 s16 nd16 mm16 => ?_
  walk_at "s"
  refine r_iLst ?_
  walk_at "s"
  refine led_spec hb (by omega) (by omega) ht fun S17 n5 ps3 e17 _ h17 s17 nd17 mm17 => ?_
  refine .inr ⟨n5, _, rfl, h17, ?_⟩
  intro few
  have lps3 := pl7 hb bn nd17 mm17
  have lps2 := pl7 hs sn nd16 mm16
  refine lc_pr ps3 (fun _ => true) (fun p => pqD (ownL L' p.1, ownL L' p.2)) (by omega) (fun S' e' => e' _ _ h17) (fun x hx S' P e' hP => ?_) (fun x hx S' P e' hP => ?_) fun S18 e18 h18 => ?_
  · walk_at "s"
    exact hP S' (.refl _)
  · have hx := rel_lt hb t x.1 x.2 ((mm17 x.1 x.2).mp hx)
    have q' := e' _ _ (e17 _ _ (e16 _ _ q15))
    walk_at "s"
    refine r_ixD (dct_at q') rfl (own.at C hx.1) ?_
    walk_at "s"
    refine r_ixD (dct_at q') rfl (own.at C hx.2) ?_
    walk_at "s"
    exact hP S' (.refl _)
  rw [List.filter_eq_self.mpr fun _ _ => rfl] at h18
  refine ⟨_, ps3.map fun p => pqR (ownL L' p.1, ownL L' p.2), rfl, by rw [h18, List.map_map]; rfl, by rw [List.length_map]; omega, fun r hr => ?_, fun out nd18 srt18 mem18 => ?_⟩
  · obtain ⟨x, hx, rfl⟩ := List.mem_map.mp hr
    have hx := rel_lt hb t x.1 x.2 ((mm17 x.1 x.2).mp hx)
    have a1 := (C.own hx.1).1
    have a2 := (C.own hx.2).1
    exact ⟨_, _, rfl, by omega, by omega, by omega, by omega⟩
  obtain ⟨qs2, rfl⟩ := rows_pr (rows := out) fun r hr => by
    obtain ⟨x, _, rfl⟩ := List.mem_map.mp ((mem18 r).mp hr)
    exact ⟨_, rfl⟩
  rw [map_rowD]
  have ndq := PG.nodup_of_map nd18
  have srtq := sorted_pr srt18 ndq
  have eq2 : ps2 = qs2 := plt_uniq s16 srtq fun x => by
    obtain ⟨c, d⟩ := x
    rw [mm16, rel_small hb hs F ht]
    constructor
    · rintro ⟨a, b, h1, rfl, rfl⟩
      obtain ⟨y, hy, e⟩ := List.mem_map.mp ((mem18 _).mpr (List.mem_map.mpr ⟨(a, b), (mm17 a b).mpr h1, rfl⟩))
      rw [← pqR_inj _ _ e]; exact hy
    · intro hx
      obtain ⟨y, hy, e⟩ := List.mem_map.mp ((mem18 _).mp (List.mem_map.mpr ⟨(c, d), hx, rfl⟩))
      have e := pqR_inj _ _ e
      exact ⟨y.1, y.2, (mm17 y.1 y.2).mp hy, congrArg Prod.fst e, congrArg Prod.snd e⟩
  subst eq2
  have eB : Ext S16 (S18 ++ [Cell.lst (ps2.map pqD)]) := (e17.trans e18).trans (Ext.app _ _)
  have hB := new_at S18 (Cell.lst (ps2.map pqD))
  generalize S18 ++ [Cell.lst (ps2.map pqD)] = S19 at eB hB ⊢
  walk_at "s"
  refine same_list_spec (eB _ _ h16) hB (by rw [List.length_map]; omega) (by rw [List.length_map]; omega) (fun x hx => by obtain ⟨p, _, rfl⟩ := List.mem_map.mp hx; exact pl_pr 1 p) (fun x hx => by obtain ⟨p, _, rfl⟩ := List.mem_map.mp hx; exact pl_pr 1 p) fun S20 e20 => ?_
  rw [decide_eq_true rfl]
  have e15' : Ext S15 S20 := (e16.trans eB).trans e20
  have P20 := P15.ext e15'
  have q20 := e15' _ _ q15
  clear h18 hB eB e16 e17 e18 h16 h17
  walk_at "s"
  refine drawn_spec P20 l1 (by omega) m1 (by omega) (by decide) (by decide) fun S21 f f1 f2 _ _ P21 e21 => ?_
  have d6 : drawnDp 1 = 6 := by decide
  rw [d6] at f2
  have sf : Sc L0 L1 [] f := f1.sc f [] [] [] (fun _ h => h) (fun _ h => h)
  have hpl := P20.lt
  have q21 : S21[S13.length]? = some (.dct kvs) := by
    refine e21.2 _ ?_ _ q20
    have := P13.lt
    simp
    omega
  walk_at "s"
  refine some_after_spec ht sf (by omega) (by omega) (by omega) fun S22 r e22 hr => ?_
  rcases hr with rfl | ⟨told, rfl, nm, hren⟩
  · walk_at "s"
    rfl
  have dt : told.dp ≤ 24 := by
    rw [ren_dp _ _ _ _ hren]
    have := raw_dp t f 0
    omega
  have st : Sc L0 L1 [] told := ren_sc _ _ _ _ hren (raw_sc t f 0 [] ht sf)
  have semT : ∀ a, a ∈ sem (bes u v) told ρ0 ↔ ∃ b, rel (bes u v) t a b ∧ b ∈ sem (bes u v) f ρ0 := fun a => by
    rw [sem_ren (bes u v) _ _ _ _ ρ0 ρ0 hren (raw_sc t f 0 [] ht sf) (fun z hz => by cases hz)]
    exact raw_sem hb t f 0 [] ρ0 ht sf (fun z hz => by cases hz) (ρ0_ok _) a
  have semS := sem_fold hb hs F told [] ρ0 ρ0 st (ρ0_ok _) (ρ0_ok _) fun x p hp => by simp [ρ0]
  have okB := sem_ok (bes u v) told ρ0 (ρ0_ok _)
  have okS := sem_ok sm told ρ0 (ρ0_ok _)
  have q22 := e22 _ _ q21
  walk_at "s"
  refine r_ifF (by cases told <;> rfl) ?_
  walk_at "s"
  refine where_spec hb (by omega) (by omega) sf fun S23 e23 => ?_
  walk_at "s"
  refine r_iLst ?_
  walk_at "s"
  refine led_spec hb (by omega) (by omega) ht fun S24 n6 ps4 e24 _ h24 s24 nd24 mm24 => ?_
  refine .inr ⟨n6, _, rfl, h24, ?_⟩
  intro few
  have lps4 := pl7 hb bn nd24 mm24
  refine lc_pr ps4 (fun x => decide (x.2 ∈ sem (bes u v) f ρ0)) (fun x => .int (x.1 : Nat)) (by omega) (fun S' e' => e' _ _ h24) (fun x hx S' P e' hP => ?_) (fun x hx S' P e' hP => ?_) fun S25 e25 h25 => ?_
  · walk_at "s"
    refine in_nat ?_
    walk_at "s"
    exact hP S' (.refl _)
  · walk_at "s"
    exact hP S' (.refl _)
  have lf := List.length_filter_le (fun x : SD.Pr => decide (x.2 ∈ sem (bes u v) f ρ0)) ps4
  refine r_sortSet (ks := (ps4.filter fun x => decide (x.2 ∈ sem (bes u v) f ρ0)).map (·.1)) (by rw [lst_sq h25, List.map_map]; rfl) (by rw [List.length_map]; omega) fun ls hls mls => ?_
  walk_at "s"
  refine r_tuple (lst_sq (new_at S25 _)) ?_
  have eD : ls = sem (bes u v) told ρ0 := sub_ext (n := 0) hls okB.1 fun a => by
    rw [mls, semT, List.mem_map]
    constructor
    · rintro ⟨x, hx, rfl⟩
      rw [List.mem_filter, decide_eq_true_eq] at hx
      exact ⟨x.2, (mm24 x.1 x.2).mp hx.1, hx.2⟩
    · rintro ⟨b, h1, h2⟩
      exact ⟨(a, b), List.mem_filter.mpr ⟨(mm24 a b).mpr h1, decide_eq_true h2⟩, rfl⟩
  subst eD
  have lB := okB.le
  have lS := okS.le
  walk_at "s"
  refine where_spec hb (by omega) dt st fun S26 e26 => ?_
  walk_at "s"
  refine where_spec hs (by omega) dt st fun S27 e27 => ?_
  walk_at "s"
  refine r_iTup ?_
  walk_at "s"
  refine ⟨_, rfl, ?_⟩
  intro few
  have q27 := e27 _ _ (e26 _ _ (Ext.app S25 _ _ _ (e25 _ _ (e24 _ _ (e23 _ _ q22)))))
  refine lc_each (sem (bes u v) told ρ0) (fun k : Nat => .int (k : Nat)) (fun a : Nat => .int (ownL L' a : Nat)) (by simp only [sizeLine]; omega) (fun _ _ => trivial) (fun a ha S28 P e28 hP => ?_) fun S28 e28 h28 => ?_
  · have q28 := e28 _ _ (Ext.app S27 [Cell.lst _] _ _ q27)
    walk_at "s"
    refine r_ixD (dct_at q28) rfl (own.at C (okB.2 a ha)) ?_
    exact hP S28 (.refl _)
  · walk_at "s"
    refine r_sortSet (ks := (sem (bes u v) told ρ0).map (ownL L')) (by rw [lst_sq h28, List.map_map]; rfl) (by rw [List.length_map]; omega) fun ls2 hls2 mls2 => ?_
    walk_at "s"
    refine r_tuple (lst_sq (new_at S28 _)) ?_
    have eE : ls2 = sem sm told ρ0 := sub_ext (n := 0) hls2 okS.1 fun c => by
      rw [mls2, List.mem_map]
      constructor
      · rintro ⟨a, h1, rfl⟩
        exact (semS a (okB.2 a h1)).mp h1
      · intro hc
        obtain ⟨a, ha, rfl⟩ := F.on c (okS.2 c hc)
        exact ⟨a, (semS a ha).mpr hc, rfl⟩
    subst eE
    walk_at "s"
    have hX := Ext.app (S28 ++ [Cell.lst (List.map (fun k : Nat => D.int (k : Nat)) (sem sm told ρ0))]) [Cell.lst [encP (sem (bes u v) told ρ0), encP (sem sm told ρ0)]] _ _ (Ext.app S28 [Cell.lst (List.map (fun k : Nat => D.int (k : Nat)) (sem sm told ρ0))] _ _ (e28 _ _ (new_at S27 _)))
    have hY := new_at (S28 ++ [Cell.lst (List.map (fun k : Nat => D.int (k : Nat)) (sem sm told ρ0))]) (Cell.lst [encP (sem (bes u v) told ρ0), encP (sem sm told ρ0)])
    have pl : ∀ x ∈ [encP (sem (bes u v) told ρ0), encP (sem sm told ρ0)], Pl 3 x := fun x hx => by
      simp only [List.mem_cons, List.not_mem_nil, or_false] at hx
      rcases hx with rfl | rfl
      · exact pl_nats 1 (by omega)
      · exact pl_nats 1 (by omega)
    refine same_list_spec (k := 3) hX hY (by show 2 ≤ 1000000; decide) (by show 2 ≤ 1000000; decide) pl pl fun S30 _ => ?_
    rw [decide_eq_true rfl]
end K35
namespace K35
open PySem L2 SD PG
/-! ### the text by places -/
def top (i : Nat) : Stmt := PySem.Challenge.pw_sayingsdown_k35_whole_terms_in_worlds.main.body.getD i (.Pass ⟨0, 0, 0, 0⟩)
abbrev s_parts_of : Stmt := top 3
abbrev s_with_parts : Stmt := top 4
abbrev s_with_name : Stmt := top 5
abbrev s_after_pairs : Stmt := top 7
abbrev s_found_pairs : Stmt := top 8
abbrev s_led_pairs : Stmt := top 9
abbrev s_raw_after : Stmt := top 10
abbrev s_named_anew : Stmt := top 11
abbrev s_free_in : Stmt := top 12
abbrev s_some_after : Stmt := top 13
abbrev s_leads : Stmt := top 15
abbrev s_found_places : Stmt := top 16
abbrev s_worth : Stmt := top 17
abbrev s_places_where : Stmt := top 18
abbrev s_beside : Stmt := top 20
abbrev s_marks_at : Stmt := top 21
abbrev s_rounds_of_classes : Stmt := top 22
abbrev s_alike_places : Stmt := top 23
abbrev s_folded_world : Stmt := top 24
abbrev s__law_same : Stmt := top 26
abbrev s__law_pool : Stmt := top 27
abbrev s__law_spread : Stmt := top 28
abbrev s__law_draw : Stmt := top 29
abbrev s__law_pick : Stmt := top 30
abbrev s__law_saying : Stmt := top 31
abbrev s__law_drawn : Stmt := top 32
abbrev s__law_world : Stmt := top 33
abbrev s__law_term : Stmt := top 34
abbrev s_law : Stmt := top 35
structure Txt (K : PySem.W.Frag) (w : World) (mg : Str → Option Value) : Prop where
  all : mg "all" = none
  any : mg "any" = none
  bool : mg "bool" = none
  dict : mg "dict" = none
  int : mg "int" = none
  isinstance : mg "isinstance" = none
  len : mg "len" = none
  list : mg "list" = none
  range : mg "range" = none
  set_ : mg "set" = none
  sorted : mg "sorted" = none
  str : mg "str" = none
  tuple : mg "tuple" = none
  zip : mg "zip" = none
  MOST_NAMES : ∃ t, mg "MOST_NAMES" = some (.int 20 t)
  BINDERS : ∃ d, mg "BINDERS" = some (.ref d) ∧ KTup K d ["least", "greatest"]
structure Got (K : PySem.W.Frag) (mg : Str → Option Value) (x : Str) (st : Stmt) (ps : List Str) : Prop where
  ex : ∃ f fd, Fun K x x st f fd ∧ mg x = some (.ref f) ∧ Binds K fd ps []
theorem sc_parts_of : FnScope ["saying"] ["saying"] (defScope s_parts_of) := ⟨rfl, rfl, rfl, by decide +kernel, rfl, by decide +kernel, by decide +kernel⟩
theorem sc_with_parts : FnScope ["saying", "parts"] ["saying", "parts"] (defScope s_with_parts) := ⟨rfl, rfl, rfl, by decide +kernel, rfl, by decide +kernel, by decide +kernel⟩
theorem sc_with_name : FnScope ["names", "x", "y", "found"] ["names", "x", "y"] (defScope s_with_name) := ⟨rfl, rfl, rfl, by decide +kernel, rfl, by decide +kernel, by decide +kernel⟩
theorem sc_after_pairs : FnScope ["one", "two", "found", "first", "middle", "start", "last"] ["one", "two"] (defScope s_after_pairs) := ⟨rfl, rfl, rfl, by decide +kernel, rfl, by decide +kernel, by decide +kernel⟩
theorem sc_found_pairs : FnScope ["world", "term", "name", "found", "place", "one", "many", "two", "goal"] ["world", "term"] (defScope s_found_pairs) := ⟨rfl, rfl, rfl, by decide +kernel, rfl, by decide +kernel, by decide +kernel⟩
theorem sc_led_pairs : FnScope ["world", "term"] ["world", "term"] (defScope s_led_pairs) := ⟨rfl, rfl, rfl, by decide +kernel, rfl, by decide +kernel, by decide +kernel⟩
theorem sc_raw_after : FnScope ["term", "f", "fresh", "name", "x"] ["term", "f", "fresh"] (defScope s_raw_after) := ⟨rfl, rfl, rfl, by decide +kernel, rfl, by decide +kernel, by decide +kernel⟩
theorem sc_named_anew : FnScope ["saying", "names", "left", "x", "inner", "found", "part"] ["saying", "names", "left"] (defScope s_named_anew) := ⟨rfl, rfl, rfl, by decide +kernel, rfl, by decide +kernel, by decide +kernel⟩
theorem sc_free_in : FnScope ["saying", "bound", "inner", "found", "part"] ["saying", "bound"] (defScope s_free_in) := ⟨rfl, rfl, rfl, by decide +kernel, rfl, by decide +kernel, by decide +kernel⟩
theorem sc_some_after : FnScope ["term", "f", "found", "free", "x"] ["term", "f"] (defScope s_some_after) := ⟨rfl, rfl, rfl, by decide +kernel, rfl, by decide +kernel, by decide +kernel⟩
theorem sc_leads : FnScope ["goals", "inner", "some", "goal"] ["goals", "inner", "some"] (defScope s_leads) := ⟨rfl, rfl, rfl, by decide +kernel, rfl, by decide +kernel, by decide +kernel⟩
theorem sc_found_places : FnScope ["world", "saying", "places", "name", "one", "two", "inner", "known", "now", "before", "k"] ["world", "saying", "places"] (defScope s_found_places) := ⟨rfl, rfl, rfl, by decide +kernel, rfl, by decide +kernel, by decide +kernel⟩
theorem sc_worth : FnScope ["world", "saying", "places"] ["world", "saying", "places"] (defScope s_worth) := ⟨rfl, rfl, rfl, by decide +kernel, rfl, by decide +kernel, by decide +kernel⟩
theorem sc_places_where : FnScope ["world", "saying"] ["world", "saying"] (defScope s_places_where) := ⟨rfl, rfl, rfl, by decide +kernel, rfl, by decide +kernel, by decide +kernel⟩
theorem sc_beside : FnScope ["one", "two", "many", "marks", "first", "second", "ways", "place", "row"] ["one", "two"] (defScope s_beside) := ⟨rfl, rfl, rfl, by decide +kernel, rfl, by decide +kernel, by decide +kernel⟩
theorem sc_marks_at : FnScope ["world", "place", "i"] ["world", "place"] (defScope s_marks_at) := ⟨rfl, rfl, rfl, by decide +kernel, rfl, by decide +kernel, by decide +kernel⟩
theorem sc_rounds_of_classes : FnScope ["world", "rows", "many", "names", "mark", "own", "fresh", "place", "goals", "ways", "goal"] ["world"] (defScope s_rounds_of_classes) := ⟨rfl, rfl, rfl, by decide +kernel, rfl, by decide +kernel, by decide +kernel⟩
theorem sc_alike_places : FnScope ["world", "last", "found", "place"] ["world"] (defScope s_alike_places) := ⟨rfl, rfl, rfl, by decide +kernel, rfl, by decide +kernel, by decide +kernel⟩
theorem sc_folded_world : FnScope ["world", "rows", "own", "k", "marks", "mark", "ways", "way", "place", "row", "goal"] ["world"] (defScope s_folded_world) := ⟨rfl, rfl, rfl, by decide +kernel, rfl, by decide +kernel, by decide +kernel⟩
theorem sc__law_same : FnScope ["actual", "due", "k"] ["actual", "due"] (defScope s__law_same) := ⟨rfl, rfl, rfl, by decide +kernel, rfl, by decide +kernel, by decide +kernel⟩
theorem sc__law_pool : FnScope ["script", "salt", "cell"] ["script"] (defScope s__law_pool) := ⟨rfl, rfl, rfl, by decide +kernel, rfl, by decide +kernel, by decide +kernel⟩
theorem sc__law_spread : FnScope ["cell", "mixed", "total", "k"] ["cell"] (defScope s__law_spread) := ⟨rfl, rfl, rfl, by decide +kernel, rfl, by decide +kernel, by decide +kernel⟩
theorem sc__law_draw : FnScope ["pool", "many", "cell", "mixed", "value"] ["pool", "many"] (defScope s__law_draw) := ⟨rfl, rfl, rfl, by decide +kernel, rfl, by decide +kernel, by decide +kernel⟩
theorem sc__law_pick : FnScope ["pool", "items"] ["pool", "items"] (defScope s__law_pick) := ⟨rfl, rfl, rfl, by decide +kernel, rfl, by decide +kernel, by decide +kernel⟩
theorem sc__law_saying : FnScope ["pool", "land", "deep", "state", "known", "free", "turn", "x"] ["pool", "land", "deep", "state", "known", "free"] (defScope s__law_saying) := ⟨rfl, rfl, rfl, by decide +kernel, rfl, by decide +kernel, by decide +kernel⟩
theorem sc__law_drawn : FnScope ["pool", "land", "deep", "first", "kind", "f", "body"] ["pool", "land", "deep"] (defScope s__law_drawn) := ⟨rfl, rfl, rfl, by decide +kernel, rfl, by decide +kernel, by decide +kernel⟩
theorem sc__law_world : FnScope ["pool", "land", "most", "n", "marks", "dense", "ways", "j", "i", "k", "place"] ["pool", "land", "most"] (defScope s__law_world) := ⟨rfl, rfl, rfl, by decide +kernel, rfl, by decide +kernel, by decide +kernel⟩
theorem sc__law_term : FnScope ["pool", "land", "deep", "turn"] ["pool", "land", "deep"] (defScope s__law_term) := ⟨rfl, rfl, rfl, by decide +kernel, rfl, by decide +kernel, by decide +kernel⟩
theorem sc_law : FnScope ["script", "pool", "land", "term", "one", "two", "n", "both", "lots", "own", "k", "place", "small", "f", "told", "here", "due", "a", "b"] ["script"] (defScope s_law) := ⟨rfl, rfl, rfl, by decide +kernel, rfl, by decide +kernel, by decide +kernel⟩
section
variable {P : Program} {w : World} {K : PySem.W.Frag} {mg : Str → Option Value} {base : Heap}
set_option maxHeartbeats 4000000 in
theorem ok_parts_of (T : Txt K w mg) (g : Got K mg "parts_of" s_parts_of ["saying"])  : DefOk P w K mg base 1 "parts_of" F_parts_of := by
  obtain ⟨f, fd, F, h1, h2⟩ := g.ex
  exact ⟨f, fd, ["saying"], fn_ok (k := 0) F sc_parts_of fun cdv A outer s H E hr =>
  (rs_cons (rs_if (rt_cmp (od_in (hu_of hr)) (re_ix (id_ix (hu_of hr)) (re_var 0) re_int) (re_tup (ra_cons re_str (ra_cons re_str ra_nil))) (by rfl)) (rs_one (rs_ret (re_sl (re_var 0) (ro_some re_int) ro_none))) rs_nil)
  (rs_one (rs_ret (re_sl (re_var 0) (ro_some re_int) ro_none)))), h1, F.kp, h2⟩
set_option maxHeartbeats 4000000 in
theorem ok_with_parts (T : Txt K w mg) (g : Got K mg "with_parts" s_with_parts ["saying", "parts"])  : DefOk P w K mg base 1 "with_parts" F_with_parts := by
  obtain ⟨f, fd, F, h1, h2⟩ := g.ex
  exact ⟨f, fd, ["saying", "parts"], fn_ok (k := 0) F sc_with_parts fun cdv A outer s H E hr =>
  (rs_cons (rs_if (rt_cmp (od_in (hu_of hr)) (re_ix (id_ix (hu_of hr)) (re_var 0) re_int) (re_tup (ra_cons re_str (ra_cons re_str ra_nil))) (by rfl)) (rs_one (rs_ret (re_op od_add (re_tup (ra_cons (re_ix (id_ix (hu_of hr)) (re_var 0) re_int) ra_nil)) (re_callTy cd_tuple (by rfl) T.tuple bt_tuple (ra_cons (re_var 1) ra_nil))))) rs_nil)
  (rs_one (rs_ret (re_op od_add (re_sl (re_var 0) ro_none (ro_some re_int)) (re_callTy cd_tuple (by rfl) T.tuple bt_tuple (ra_cons (re_var 1) ra_nil)))))), h1, F.kp, h2⟩
set_option maxHeartbeats 4000000 in
theorem ok_with_name (T : Txt K w mg) (g : Got K mg "with_name" s_with_name ["names", "x", "y"])  : DefOk P w K mg base 1 "with_name" F_with_name := by
  obtain ⟨f, fd, F, h1, h2⟩ := g.ex
  exact ⟨f, fd, ["names", "x", "y"], fn_ok (k := 0) F sc_with_name fun cdv A outer s H E hr =>
  (rs_cons (rs_set (i := 3) sc_with_name.nd (re_callTy cd_dict (by rfl) T.dict bt_dict (ra_cons (re_var 0) ra_nil)))
  (rs_cons (rs_asg (re_var 2) (rg_sub (hu_of hr) (re_var 3) (re_var 1)))
  (rs_one (rs_ret (re_var 3))))), h1, F.kp, h2⟩
set_option maxHeartbeats 4000000 in
theorem ok_after_pairs (T : Txt K w mg) (g : Got K mg "after_pairs" s_after_pairs ["one", "two"])  : DefOk P w K mg base 1 "after_pairs" F_after_pairs := by
  obtain ⟨f, fd, F, h1, h2⟩ := g.ex
  exact ⟨f, fd, ["one", "two"], fn_ok (k := 0) F sc_after_pairs fun cdv A outer s H E hr =>
  (rs_cons (rs_set (i := 2) sc_after_pairs.nd re_dictN)
  (rs_cons (rs_lockT 0 (rs_for PassesOwn.never rfl (ri_keysT 0) (rg_tup rfl (rgs_cons (rg_name sc_after_pairs.nd (i := 3)) (rgs_cons (rg_name sc_after_pairs.nd (i := 4)) rgs_nil))) (rs_one (rs_expr (re_mtT PySem.F.slot_dict_update PySem.F.type_dict_update (md_updT (hu65 hr)) (re_var 2) (ra_cons (re_lockT 1 (re_dcN (own := [("start", 5), ("last", 6)]) rfl (hu65 hr) sc_after_pairs.nd (ri_keysT 1) (blkOk_by (by kernel_rfl)) (pgd_two 5 6 (by decide)) (fun _ _ _ _ _ => (pg_tup rfl (pgs_cons (pg_name (i := 5) sc_after_pairs.nd rfl (Or.inl rfl)) (pgs_cons (pg_name (i := 6) sc_after_pairs.nd rfl (Or.inl rfl)) pgs_nil)))) (fun _ _ _ _ _ => (rts_one (rt_cmp (od_eq hr.units) (re_var 5) (re_var 4) (nomark _)))) (fun _ _ _ _ _ => (re_tup (ra_cons (re_var 3) (ra_cons (re_var 6) ra_nil)))) (fun _ _ _ _ _ => re_bl))) ra_nil))))))
  (rs_one (rs_ret (re_var 2))))), h1, F.kp, h2⟩
set_option maxHeartbeats 4000000 in
theorem ok_found_pairs (T : Txt K w mg) (g : Got K mg "found_pairs" s_found_pairs ["world", "term"]) (h_after_pairs : DefOk P w K mg base 1 "after_pairs" F_after_pairs) : ∀ k, DefOk P w K mg base (1 + k) "found_pairs" (F_found_pairs k)
  | 0 => by
    obtain ⟨f, fd, F, h1, h2⟩ := g.ex
    exact ⟨f, fd, _, fn_none, h1, F.kp, h2⟩
  | k + 1 => by
    have h_found_pairs := ok_found_pairs T g h_after_pairs k
    obtain ⟨f, fd, F, h1, h2⟩ := g.ex
    exact ⟨f, fd, ["world", "term"], fn_ok (k := 1 + k) F sc_found_pairs fun cdv A outer s H E hr =>
  (rs_cons (rs_set (i := 2) sc_found_pairs.nd (re_ix (id_ix (hu_of hr)) (re_var 1) re_int))
  (rs_cons (rs_if (rt_cmp (od_eq hr.units) (re_var 2) re_str (nomark _)) (rs_one (rs_ret (re_dcN (own := [("place", 4)]) rfl (hu65 hr) sc_found_pairs.nd (ri_seq (re_ix (id_ix (hu_of hr)) (re_ix (id_ix (hu_of hr)) (re_var 0) re_int) (re_ix (id_ix (hu_of hr)) (re_var 1) re_int))) (blkOk_by (by kernel_rfl)) (pgd_name 4) (fun _ _ _ _ _ => (pg_name sc_found_pairs.nd rfl (Or.inl rfl))) (fun _ _ _ _ _ => rts_nil) (fun _ _ _ _ _ => (re_tup (ra_cons (re_var 4) (ra_cons (re_var 4) ra_nil)))) (fun _ _ _ _ _ => re_bl)))) rs_nil)
  (rs_cons (rs_if (rt_cmp (od_eq hr.units) (re_var 2) re_str (nomark _)) (rs_cons (rs_set (i := 3) sc_found_pairs.nd re_dictN)
  (rs_cons (rs_for PassesOwn.never rfl (ri_range1 T.range (ra_cons (re_ix (id_ix (hu_of hr)) (re_var 0) re_int) ra_nil)) (rg_name sc_found_pairs.nd (i := 4)) (rs_one (rs_expr (re_mtT PySem.F.slot_dict_update PySem.F.type_dict_update (md_updT (hu65 hr)) (re_var 3) (ra_cons (re_dcN (own := [("goal", 8)]) rfl (hu65 hr) sc_found_pairs.nd (ri_seq (re_ix (id_ix (hu_of hr)) (re_ix (id_ix (hu_of hr)) (re_ix (id_ix (hu_of hr)) (re_var 0) re_int) (re_ix (id_ix (hu_of hr)) (re_var 1) re_int)) (re_var 4))) (blkOk_by (by kernel_rfl)) (pgd_name 8) (fun _ _ _ _ _ => (pg_name sc_found_pairs.nd rfl (Or.inl rfl))) (fun _ _ _ _ _ => rts_nil) (fun _ _ _ _ _ => (re_tup (ra_cons (re_var 4) (ra_cons (re_var 8) ra_nil)))) (fun _ _ _ _ _ => re_bl)) ra_nil)))))
  (rs_one (rs_ret (re_var 3))))) rs_nil)
  (rs_cons (rs_set (i := 5) sc_found_pairs.nd (re_call h_found_pairs hr (ra_cons (re_var 0) (ra_cons (re_ix (id_ix (hu_of hr)) (re_var 1) re_int) ra_nil))))
  (rs_cons (rs_if (rt_cmp (od_eq hr.units) (re_var 2) re_str (nomark _)) (rs_cons (rs_setDcN (i := 3) (own := [("place", 4)]) rfl (hu65 hr) sc_found_pairs.nd (ri_range1 T.range (ra_cons (re_ix (id_ix (hu_of hr)) (re_var 0) re_int) ra_nil)) (blkOk_by (by kernel_rfl)) (pgd_name 4) (fun _ _ _ _ _ => (pg_name sc_found_pairs.nd rfl (Or.inl rfl))) (fun _ _ _ _ _ => rts_nil) (fun _ _ _ _ _ => (re_tup (ra_cons (re_var 4) (ra_cons (re_var 4) ra_nil)))) (fun _ _ _ _ _ => re_bl) (sw_dc rfl rfl rfl (by decide +kernel)))
  (rs_cons (rs_set (i := 6) sc_found_pairs.nd re_int)
  (rs_cons (rs_while PassesOwn.never (rt_cmp od_gt (re_callB cd_lenT (by rfl) T.len bt_len (ra_cons (re_var 3) ra_nil)) (re_var 6) (nomark _)) (rs_cons (rs_set (i := 6) sc_found_pairs.nd (re_callB cd_lenT (by rfl) T.len bt_len (ra_cons (re_var 3) ra_nil)))
  (rs_one (rs_expr (re_mtT PySem.F.slot_dict_update PySem.F.type_dict_update (md_updT (hu65 hr)) (re_var 3) (ra_cons (re_call h_after_pairs hr (ra_cons (re_var 3) (ra_cons (re_var 5) ra_nil))) ra_nil))))))
  (rs_one (rs_ret (re_var 3)))))) rs_nil)
  (rs_cons (rs_set (i := 7) sc_found_pairs.nd (re_call h_found_pairs hr (ra_cons (re_var 0) (ra_cons (re_ix (id_ix (hu_of hr)) (re_var 1) re_int) ra_nil))))
  (rs_cons (rs_if (rt_cmp (od_eq hr.units) (re_var 2) re_str (nomark _)) (rs_one (rs_ret (re_call h_after_pairs hr (ra_cons (re_var 5) (ra_cons (re_var 7) ra_nil))))) rs_nil)
  (rs_cons (rs_expr (re_mtT PySem.F.slot_dict_update PySem.F.type_dict_update (md_updT (hu65 hr)) (re_var 7) (ra_cons (re_var 5) ra_nil)))
  (rs_one (rs_ret (re_var 7))))))))))), h1, F.kp, h2⟩
set_option maxHeartbeats 4000000 in
theorem ok_led_pairs (T : Txt K w mg) (g : Got K mg "led_pairs" s_led_pairs ["world", "term"]) (h_found_pairs : DefOk P w K mg base 13 "found_pairs" (F_found_pairs 12)) : DefOk P w K mg base 14 "led_pairs" F_led_pairs := by
  obtain ⟨f, fd, F, h1, h2⟩ := g.ex
  exact ⟨f, fd, ["world", "term"], fn_ok (k := 13) F sc_led_pairs fun cdv A outer s H E hr =>
  (rs_one (rs_ret (re_callB (cd_sortR (hu65 hr)) (by rfl) T.sorted bt_sorted (ra_cons (re_callTy (cd_listT rfl) (by rfl) T.list bt_list (ra_cons (re_call h_found_pairs hr (ra_cons (re_var 0) (ra_cons (re_var 1) ra_nil))) ra_nil)) ra_nil)))), h1, F.kp, h2⟩
set_option maxHeartbeats 4000000 in
theorem ok_raw_after (T : Txt K w mg) (g : Got K mg "raw_after" s_raw_after ["term", "f", "fresh"])  : ∀ k, DefOk P w K mg base (0 + k) "raw_after" (F_raw_after k)
  | 0 => by
    obtain ⟨f, fd, F, h1, h2⟩ := g.ex
    exact ⟨f, fd, _, fn_none, h1, F.kp, h2⟩
  | k + 1 => by
    have h_raw_after := ok_raw_after T g  k
    obtain ⟨f, fd, F, h1, h2⟩ := g.ex
    exact ⟨f, fd, ["term", "f", "fresh"], fn_ok (k := 0 + k) F sc_raw_after fun cdv A outer s H E hr =>
  (rs_cons (rs_set (i := 3) sc_raw_after.nd (re_ix (id_ix (hu_of hr)) (re_var 0) re_int))
  (rs_cons (rs_if (rt_cmp (od_eq hr.units) (re_var 3) re_str (nomark _)) (rs_one (rs_ret (re_tup (ra_cons re_str (ra_cons (re_ix (id_ix (hu_of hr)) (re_var 0) re_int) (ra_cons (re_var 1) ra_nil)))))) rs_nil)
  (rs_cons (rs_if (rt_cmp (od_eq hr.units) (re_var 3) re_str (nomark _)) (rs_one (rs_ret (re_tup (ra_cons re_str (ra_cons (re_tup (ra_cons re_str (ra_cons (re_ix (id_ix (hu_of hr)) (re_var 0) re_int) ra_nil))) (ra_cons (re_var 1) ra_nil)))))) rs_nil)
  (rs_cons (rs_if (rt_cmp (od_eq hr.units) (re_var 3) re_str (nomark _)) (rs_one (rs_ret (re_tup (ra_cons re_str (ra_cons (re_call h_raw_after hr (ra_cons (re_ix (id_ix (hu_of hr)) (re_var 0) re_int) (ra_cons (re_var 1) (ra_cons (re_var 2) ra_nil)))) (ra_cons (re_call h_raw_after hr (ra_cons (re_ix (id_ix (hu_of hr)) (re_var 0) re_int) (ra_cons (re_var 1) (ra_cons (re_var 2) ra_nil)))) ra_nil)))))) rs_nil)
  (rs_cons (rs_if (rt_cmp (od_eq hr.units) (re_var 3) re_str (nomark _)) (rs_one (rs_ret (re_call h_raw_after hr (ra_cons (re_ix (id_ix (hu_of hr)) (re_var 0) re_int) (ra_cons (re_call h_raw_after hr (ra_cons (re_ix (id_ix (hu_of hr)) (re_var 0) re_int) (ra_cons (re_var 1) (ra_cons (re_var 2) ra_nil)))) (ra_cons (re_var 2) ra_nil)))))) rs_nil)
  (rs_cons (rs_expr (re_mt PySem.F.plainAttrs_list PySem.F.slot_list_append PySem.F.type_list_append md_append (re_var 2) (ra_cons (re_op od_add (re_gintE (x := "MOST_NAMES") (i := 20) T.MOST_NAMES) (re_callB cd_len (by rfl) T.len bt_len (ra_cons (re_var 2) ra_nil))) ra_nil)))
  (rs_cons (rs_set (i := 4) sc_raw_after.nd (re_ix (id_ix (hu_of hr)) (re_var 2) (re_neg re_int)))
  (rs_one (rs_ret (re_tup (ra_cons re_str (ra_cons (re_var 4) (ra_cons (re_tup (ra_cons re_str (ra_cons (re_var 1) (ra_cons (re_call h_raw_after hr (ra_cons (re_ix (id_ix (hu_of hr)) (re_var 0) re_int) (ra_cons (re_tup (ra_cons re_str (ra_cons (re_var 4) ra_nil))) (ra_cons (re_var 2) ra_nil)))) ra_nil)))) ra_nil))))))))))))), h1, F.kp, h2⟩
set_option maxHeartbeats 4000000 in
theorem ok_named_anew (T : Txt K w mg) (g : Got K mg "named_anew" s_named_anew ["saying", "names", "left"]) (h_with_parts : DefOk P w K mg base 1 "with_parts" F_with_parts) (h_parts_of : DefOk P w K mg base 1 "parts_of" F_parts_of) (h_with_name : DefOk P w K mg base 1 "with_name" F_with_name) : ∀ k, DefOk P w K mg base (1 + k) "named_anew" (F_named_anew k)
  | 0 => by
    obtain ⟨f, fd, F, h1, h2⟩ := g.ex
    exact ⟨f, fd, _, fn_none, h1, F.kp, h2⟩
  | k + 1 => by
    have h_named_anew := ok_named_anew T g h_with_parts h_parts_of h_with_name k
    obtain ⟨f, fd, F, h1, h2⟩ := g.ex
    exact ⟨f, fd, ["saying", "names", "left"], fn_ok (k := 1 + k) F sc_named_anew fun cdv A outer s H E hr =>
  (rs_cons (rs_if (rt_cmp (od_eq hr.units) (re_ix (id_ix (hu_of hr)) (re_var 0) re_int) re_str (nomark _)) (rs_one (rs_ret (re_tup (ra_cons re_str (ra_cons (re_get2 (hu_of hr) (re_var 1) (re_ix (id_ix (hu_of hr)) (re_var 0) re_int) (re_ix (id_ix (hu_of hr)) (re_var 0) re_int)) ra_nil))))) rs_nil)
  (rs_cons (rs_if (rt_cmp (od_in (hu_of hr)) (re_ix (id_ix (hu_of hr)) (re_var 0) re_int) (re_gtupE (x := "BINDERS") (ks := ["least", "greatest"]) T.BINDERS) (by rfl)) (rs_cons (rs_if (rt_cmp (od_eq hr.units) (re_callB cd_len (by rfl) T.len bt_len (ra_cons (re_var 2) ra_nil)) re_int (nomark _)) (rs_one (rs_ret re_non)) rs_nil)
  (rs_cons (rs_set (i := 3) sc_named_anew.nd (re_mt PySem.F.plainAttrs_list PySem.F.slot_list_pop PySem.F.type_list_pop md_pop0 (re_var 2) (ra_cons re_int ra_nil)))
  (rs_cons (rs_set (i := 4) sc_named_anew.nd (re_call h_named_anew hr (ra_cons (re_ix (id_ix (hu_of hr)) (re_var 0) re_int) (ra_cons (re_call h_with_name hr (ra_cons (re_var 1) (ra_cons (re_ix (id_ix (hu_of hr)) (re_var 0) re_int) (ra_cons (re_var 3) ra_nil)))) (ra_cons (re_var 2) ra_nil)))))
  (rs_one (rs_ret (re_if (rt_isN (re_var 4)) re_non (re_tup (ra_cons (re_ix (id_ix (hu_of hr)) (re_var 0) re_int) (ra_cons (re_var 3) (ra_cons (re_var 4) ra_nil)))))))))) rs_nil)
  (rs_cons (rs_set (i := 5) sc_named_anew.nd (re_lst ra_nil))
  (rs_cons (rs_for PassesOwn.never rfl (ri_seq (re_call h_parts_of hr (ra_cons (re_var 0) ra_nil))) (rg_name sc_named_anew.nd (i := 6)) (rs_one (rs_expr (re_mt PySem.F.plainAttrs_list PySem.F.slot_list_append PySem.F.type_list_append md_append (re_var 5) (ra_cons (re_call h_named_anew hr (ra_cons (re_var 6) (ra_cons (re_var 1) (ra_cons (re_var 2) ra_nil)))) ra_nil)))))
  (rs_one (rs_ret (re_if (rt_cmp (od_inP (hu65 hr)) re_non (re_var 5) (by rfl)) re_non (re_call h_with_parts hr (ra_cons (re_var 0) (ra_cons (re_var 5) ra_nil)))))))))), h1, F.kp, h2⟩
set_option maxHeartbeats 4000000 in
theorem ok_free_in (T : Txt K w mg) (g : Got K mg "free_in" s_free_in ["saying", "bound"]) (h_parts_of : DefOk P w K mg base 1 "parts_of" F_parts_of) : ∀ k, DefOk P w K mg base (1 + k) "free_in" (F_free_in k)
  | 0 => by
    obtain ⟨f, fd, F, h1, h2⟩ := g.ex
    exact ⟨f, fd, _, fn_none, h1, F.kp, h2⟩
  | k + 1 => by
    have h_free_in := ok_free_in T g h_parts_of k
    obtain ⟨f, fd, F, h1, h2⟩ := g.ex
    exact ⟨f, fd, ["saying", "bound"], fn_ok (k := 1 + k) F sc_free_in fun cdv A outer s H E hr =>
  (rs_cons (rs_if (rt_cmp (od_eq hr.units) (re_ix (id_ix (hu_of hr)) (re_var 0) re_int) re_str (nomark _)) (rs_one (rs_ret (re_if (rt_cmp (od_in (hu_of hr)) (re_ix (id_ix (hu_of hr)) (re_var 0) re_int) (re_var 1) (by rfl)) re_dict0 (re_disp (rps_cons (re_ix (id_ix (hu_of hr)) (re_var 0) re_int) re_bl rps_nil))))) rs_nil)
  (rs_cons (rs_set (i := 2) sc_free_in.nd (re_if (rt_cmp (od_in (hu_of hr)) (re_ix (id_ix (hu_of hr)) (re_var 0) re_int) (re_gtupE (x := "BINDERS") (ks := ["least", "greatest"]) T.BINDERS) (by rfl)) (re_op od_add (re_var 1) (re_tup (ra_cons (re_ix (id_ix (hu_of hr)) (re_var 0) re_int) ra_nil))) (re_var 1)))
  (rs_cons (rs_set (i := 3) sc_free_in.nd re_dict0)
  (rs_cons (rs_for PassesOwn.never rfl (ri_seq (re_call h_parts_of hr (ra_cons (re_var 0) ra_nil))) (rg_name sc_free_in.nd (i := 4)) (rs_one (rs_expr (re_mt PySem.F.plainAttrs_dict PySem.F.slot_dict_update PySem.F.type_dict_update md_update (re_var 3) (ra_cons (re_call h_free_in hr (ra_cons (re_var 4) (ra_cons (re_var 2) ra_nil))) ra_nil)))))
  (rs_one (rs_ret (re_var 3))))))), h1, F.kp, h2⟩
set_option maxHeartbeats 4000000 in
theorem ok_some_after (T : Txt K w mg) (g : Got K mg "some_after" s_some_after ["term", "f"]) (h_named_anew : DefOk P w K mg base 25 "named_anew" (F_named_anew 24)) (h_free_in : DefOk P w K mg base 13 "free_in" (F_free_in 12)) (h_raw_after : DefOk P w K mg base 12 "raw_after" (F_raw_after 12)) : DefOk P w K mg base 26 "some_after" F_some_after := by
  obtain ⟨f, fd, F, h1, h2⟩ := g.ex
  exact ⟨f, fd, ["term", "f"], fn_ok (k := 25) F sc_some_after fun cdv A outer s H E hr =>
  (rs_cons (rs_set (i := 2) sc_some_after.nd (re_call h_raw_after hr (ra_cons (re_var 0) (ra_cons (re_var 1) (ra_cons (re_lst ra_nil) ra_nil)))))
  (rs_cons (rs_set (i := 3) sc_some_after.nd (re_call h_free_in hr (ra_cons (re_var 1) (ra_cons (re_tup ra_nil) ra_nil))))
  (rs_one (rs_ret (re_call h_named_anew hr (ra_cons (re_var 2) (ra_cons re_dict0 (ra_cons (re_lc (own := [("x", 4)]) rfl sc_some_after.nd (ri_range1 T.range (ra_cons (re_gintE (x := "MOST_NAMES") (i := 20) T.MOST_NAMES) ra_nil)) (blkOk_by (by kernel_rfl)) (pgd_name 4) (fun _ _ _ _ _ => (pg_name sc_some_after.nd rfl (Or.inl rfl))) (fun _ _ _ _ _ => (rts_one (rt_cmp (od_notin (hu_of hr)) (re_var 4) (re_var 3) (by rfl)))) (fun _ _ _ _ _ => (re_var 4))) ra_nil)))))))), h1, F.kp, h2⟩
set_option maxHeartbeats 4000000 in
theorem ok_leads (T : Txt K w mg) (g : Got K mg "leads" s_leads ["goals", "inner", "some"])  : DefOk P w K mg base 1 "leads" F_leads := by
  obtain ⟨f, fd, F, h1, h2⟩ := g.ex
  exact ⟨f, fd, ["goals", "inner", "some"], fn_ok (k := 0) F sc_leads fun cdv A outer s H E hr =>
  (rs_cons (rs_if (rt_val (re_var 2)) (rs_one (rs_ret (re_callB (cd_any rfl) (by rfl) T.any bt_any (ra_cons (re_lc (own := [("goal", 3)]) rfl sc_leads.nd (ri_seq (re_var 0)) (blkOk_by (by kernel_rfl)) (pgd_name 3) (fun _ _ _ _ _ => (pg_name sc_leads.nd rfl (Or.inl rfl))) (fun _ _ _ _ _ => rts_nil) (fun _ _ _ _ _ => (re_cmp (od_in (hu_of hr)) (re_var 3) (re_var 1) (by rfl)))) ra_nil)))) rs_nil)
  (rs_one (rs_ret (re_callB (cd_all rfl) (by rfl) T.all bt_all (ra_cons (re_lc (own := [("goal", 3)]) rfl sc_leads.nd (ri_seq (re_var 0)) (blkOk_by (by kernel_rfl)) (pgd_name 3) (fun _ _ _ _ _ => (pg_name sc_leads.nd rfl (Or.inl rfl))) (fun _ _ _ _ _ => rts_nil) (fun _ _ _ _ _ => (re_cmp (od_in (hu_of hr)) (re_var 3) (re_var 1) (by rfl)))) ra_nil))))), h1, F.kp, h2⟩
set_option maxHeartbeats 4000000 in
theorem ok_found_places (T : Txt K w mg) (g : Got K mg "found_places" s_found_places ["world", "saying", "places"]) (h_leads : DefOk P w K mg base 1 "leads" F_leads) : ∀ k, DefOk P w K mg base (1 + k) "found_places" (F_found_places k)
  | 0 => by
    obtain ⟨f, fd, F, h1, h2⟩ := g.ex
    exact ⟨f, fd, _, fn_none, h1, F.kp, h2⟩
  | k + 1 => by
    have h_found_places := ok_found_places T g h_leads k
    obtain ⟨f, fd, F, h1, h2⟩ := g.ex
    exact ⟨f, fd, ["world", "saying", "places"], fn_ok (k := 1 + k) F sc_found_places fun cdv A outer s H E hr =>
  (rs_cons (rs_set (i := 3) sc_found_places.nd (re_ix (id_ix (hu_of hr)) (re_var 1) re_int))
  (rs_cons (rs_if (rt_cmp (od_in (hu_of hr)) (re_var 3) (re_tup (ra_cons re_str (ra_cons re_str ra_nil))) (by rfl)) (rs_one (rs_ret (re_dc (own := [("k", 10)]) rfl sc_found_places.nd (ri_range1 T.range (ra_cons (re_ix (id_ix (hu_of hr)) (re_var 0) re_int) ra_nil)) (blkOk_by (by kernel_rfl)) (pgd_name 10) (fun _ _ _ _ _ => (pg_name sc_found_places.nd rfl (Or.inl rfl))) (fun _ _ _ _ _ => (rts_one (rt_cmp (od_eq hr.units) (re_var 3) re_str (nomark _)))) (fun _ _ _ _ _ => (re_var 10)) (fun _ _ _ _ _ => re_bl)))) rs_nil)
  (rs_cons (rs_if (rt_cmp (od_in (hu_of hr)) (re_var 3) (re_tup (ra_cons re_str (ra_cons re_str ra_nil))) (by rfl)) (rs_one (rs_ret (re_dc (own := [("k", 10)]) rfl sc_found_places.nd (ri_range1 T.range (ra_cons (re_ix (id_ix (hu_of hr)) (re_var 0) re_int) ra_nil)) (blkOk_by (by kernel_rfl)) (pgd_name 10) (fun _ _ _ _ _ => (pg_name sc_found_places.nd rfl (Or.inl rfl))) (fun _ _ _ _ _ => (rts_one (rt_cmp (od_eq hr.units) (re_cmp (od_in (hu_of hr)) (re_var 10) (re_ix (id_ix (hu_of hr)) (re_ix (id_ix (hu_of hr)) (re_var 0) re_int) (re_ix (id_ix (hu_of hr)) (re_var 1) re_int)) (by rfl)) (re_cmp (od_eq hr.units) (re_var 3) re_str (nomark _)) (nomark _)))) (fun _ _ _ _ _ => (re_var 10)) (fun _ _ _ _ _ => re_bl)))) rs_nil)
  (rs_cons (rs_if (rt_cmp (od_eq hr.units) (re_var 3) re_str (nomark _)) (rs_one (rs_ret (re_dc (own := [("k", 10)]) rfl sc_found_places.nd (ri_seq (re_ix (id_ix (hu_of hr)) (re_var 2) (re_ix (id_ix (hu_of hr)) (re_var 1) re_int))) (blkOk_by (by kernel_rfl)) (pgd_name 10) (fun _ _ _ _ _ => (pg_name sc_found_places.nd rfl (Or.inl rfl))) (fun _ _ _ _ _ => rts_nil) (fun _ _ _ _ _ => (re_var 10)) (fun _ _ _ _ _ => re_bl)))) rs_nil)
  (rs_cons (rs_if (rt_cmp (od_in (hu_of hr)) (re_var 3) (re_tup (ra_cons re_str (ra_cons re_str ra_nil))) (by rfl)) (rs_cons (rs_asg (re_tup (ra_cons (re_call h_found_places hr (ra_cons (re_var 0) (ra_cons (re_ix (id_ix (hu_of hr)) (re_var 1) re_int) (ra_cons (re_var 2) ra_nil)))) (ra_cons (re_call h_found_places hr (ra_cons (re_var 0) (ra_cons (re_ix (id_ix (hu_of hr)) (re_var 1) re_int) (ra_cons (re_var 2) ra_nil)))) ra_nil))) (rg_tup rfl (rgs_cons (rg_name sc_found_places.nd (i := 4)) (rgs_cons (rg_name sc_found_places.nd (i := 5)) rgs_nil))))
  (rs_cons (rs_if (rt_cmp (od_eq hr.units) (re_var 3) re_str (nomark _)) (rs_one (rs_ret (re_lock 4 (re_dc (own := [("k", 10)]) rfl sc_found_places.nd (ri_keys 4) (blkOk_by (by kernel_rfl)) (pgd_name 10) (fun _ _ _ _ _ => (pg_name sc_found_places.nd rfl (Or.inl rfl))) (fun _ _ _ _ _ => (rts_one (rt_cmp (od_in (hu_of hr)) (re_var 10) (re_var 5) (by rfl)))) (fun _ _ _ _ _ => (re_var 10)) (fun _ _ _ _ _ => re_bl))))) rs_nil)
  (rs_cons (rs_expr (re_mt PySem.F.plainAttrs_dict PySem.F.slot_dict_update PySem.F.type_dict_update md_update (re_var 5) (ra_cons (re_var 4) ra_nil)))
  (rs_one (rs_ret (re_var 5)))))) rs_nil)
  (rs_cons (rs_if (rt_cmp (od_in (hu_of hr)) (re_var 3) (re_tup (ra_cons re_str (ra_cons re_str ra_nil))) (by rfl)) (rs_cons (rs_set (i := 6) sc_found_places.nd (re_call h_found_places hr (ra_cons (re_var 0) (ra_cons (re_ix (id_ix (hu_of hr)) (re_var 1) re_int) (ra_cons (re_var 2) ra_nil)))))
  (rs_one (rs_ret (re_dc (own := [("k", 10)]) rfl sc_found_places.nd (ri_range1 T.range (ra_cons (re_ix (id_ix (hu_of hr)) (re_var 0) re_int) ra_nil)) (blkOk_by (by kernel_rfl)) (pgd_name 10) (fun _ _ _ _ _ => (pg_name sc_found_places.nd rfl (Or.inl rfl))) (fun _ _ _ _ _ => (rts_one (rt_val (re_call h_leads hr (ra_cons (re_ix (id_ix (hu_of hr)) (re_ix (id_ix (hu_of hr)) (re_ix (id_ix (hu_of hr)) (re_var 0) re_int) (re_ix (id_ix (hu_of hr)) (re_var 1) re_int)) (re_var 10)) (ra_cons (re_var 6) (ra_cons (re_cmp (od_eq hr.units) (re_var 3) re_str (nomark _)) ra_nil))))))) (fun _ _ _ _ _ => (re_var 10)) (fun _ _ _ _ _ => re_bl))))) rs_nil)
  (rs_cons (rs_set (i := 7) sc_found_places.nd (re_callTy cd_dict (by rfl) T.dict bt_dict (ra_cons (re_var 2) ra_nil)))
  (rs_cons (rs_set (i := 8) sc_found_places.nd (re_if (rt_cmp (od_eq hr.units) (re_var 3) re_str (nomark _)) re_dict0 (re_dc (own := [("k", 10)]) rfl sc_found_places.nd (ri_range1 T.range (ra_cons (re_ix (id_ix (hu_of hr)) (re_var 0) re_int) ra_nil)) (blkOk_by (by kernel_rfl)) (pgd_name 10) (fun _ _ _ _ _ => (pg_name sc_found_places.nd rfl (Or.inl rfl))) (fun _ _ _ _ _ => rts_nil) (fun _ _ _ _ _ => (re_var 10)) (fun _ _ _ _ _ => re_bl))))
  (rs_cons (rs_set (i := 9) sc_found_places.nd re_non)
  (rs_cons (rs_while PassesOwn.never (rt_cmp (od_ne hr.units) (re_var 8) (re_var 9) (nomark _)) (rs_cons (rs_set (i := 9) sc_found_places.nd (re_var 8))
  (rs_cons (rs_asg (re_callTy cd_tuple (by rfl) T.tuple bt_tuple (ra_cons (re_callB cd_sorted (by rfl) T.sorted bt_sorted (ra_cons (re_callTy (cd_list rfl) (by rfl) T.list bt_list (ra_cons (re_var 8) ra_nil)) ra_nil)) ra_nil)) (rg_sub (hu_of hr) (re_var 7) (re_ix (id_ix (hu_of hr)) (re_var 1) re_int)))
  (rs_one (rs_set (i := 8) sc_found_places.nd (re_call h_found_places hr (ra_cons (re_var 0) (ra_cons (re_ix (id_ix (hu_of hr)) (re_var 1) re_int) (ra_cons (re_var 7) ra_nil)))))))))
  (rs_one (rs_ret (re_var 8))))))))))))), h1, F.kp, h2⟩
set_option maxHeartbeats 4000000 in
theorem ok_worth (T : Txt K w mg) (g : Got K mg "worth" s_worth ["world", "saying", "places"]) (h_found_places : DefOk P w K mg base 25 "found_places" (F_found_places 24)) : DefOk P w K mg base 26 "worth" F_worth := by
  obtain ⟨f, fd, F, h1, h2⟩ := g.ex
  exact ⟨f, fd, ["world", "saying", "places"], fn_ok (k := 25) F sc_worth fun cdv A outer s H E hr =>
  (rs_one (rs_ret (re_callTy cd_tuple (by rfl) T.tuple bt_tuple (ra_cons (re_callB cd_sorted (by rfl) T.sorted bt_sorted (ra_cons (re_callTy (cd_list rfl) (by rfl) T.list bt_list (ra_cons (re_call h_found_places hr (ra_cons (re_var 0) (ra_cons (re_var 1) (ra_cons (re_var 2) ra_nil)))) ra_nil)) ra_nil)) ra_nil)))), h1, F.kp, h2⟩
set_option maxHeartbeats 4000000 in
theorem ok_places_where (T : Txt K w mg) (g : Got K mg "places_where" s_places_where ["world", "saying"]) (h_worth : DefOk P w K mg base 26 "worth" F_worth) : DefOk P w K mg base 27 "places_where" F_places_where := by
  obtain ⟨f, fd, F, h1, h2⟩ := g.ex
  exact ⟨f, fd, ["world", "saying"], fn_ok (k := 26) F sc_places_where fun cdv A outer s H E hr =>
  (rs_one (rs_ret (re_call h_worth hr (ra_cons (re_var 0) (ra_cons (re_var 1) (ra_cons re_dict0 ra_nil)))))), h1, F.kp, h2⟩
set_option maxHeartbeats 4000000 in
theorem ok_beside (T : Txt K w mg) (g : Got K mg "beside" s_beside ["one", "two"])  : DefOk P w K mg base 1 "beside" F_beside := by
  obtain ⟨f, fd, F, h1, h2⟩ := g.ex
  exact ⟨f, fd, ["one", "two"], fn_ok (k := 0) F sc_beside fun cdv A outer s H E hr =>
  (rs_cons (rs_set (i := 2) sc_beside.nd (re_ix (id_ix (hu_of hr)) (re_var 0) re_int))
  (rs_cons (rs_set (i := 3) sc_beside.nd (re_lst ra_nil))
  (rs_cons (rs_for PassesOwn.never rfl (ri_zip T.zip (ra_cons (re_ix (id_ix (hu_of hr)) (re_var 0) re_int) (ra_cons (re_ix (id_ix (hu_of hr)) (re_var 1) re_int) ra_nil))) (rg_tup rfl (rgs_cons (rg_name sc_beside.nd (i := 4)) (rgs_cons (rg_name sc_beside.nd (i := 5)) rgs_nil))) (rs_one (rs_expr (re_mt PySem.F.plainAttrs_list PySem.F.slot_list_append PySem.F.type_list_append md_append (re_var 3) (ra_cons (re_op od_add (re_var 4) (re_callTy cd_tuple (by rfl) T.tuple bt_tuple (ra_cons (re_lc (own := [("place", 7)]) rfl sc_beside.nd (ri_seq (re_var 5)) (blkOk_by (by kernel_rfl)) (pgd_name 7) (fun _ _ _ _ _ => (pg_name sc_beside.nd rfl (Or.inl rfl))) (fun _ _ _ _ _ => rts_nil) (fun _ _ _ _ _ => (re_op od_add (re_var 7) (re_var 2)))) ra_nil))) ra_nil)))))
  (rs_cons (rs_set (i := 6) sc_beside.nd (re_lst ra_nil))
  (rs_cons (rs_for PassesOwn.never rfl (ri_zip T.zip (ra_cons (re_ix (id_ix (hu_of hr)) (re_var 0) re_int) (ra_cons (re_ix (id_ix (hu_of hr)) (re_var 1) re_int) ra_nil))) (rg_tup rfl (rgs_cons (rg_name sc_beside.nd (i := 4)) (rgs_cons (rg_name sc_beside.nd (i := 5)) rgs_nil))) (rs_one (rs_expr (re_mt PySem.F.plainAttrs_list PySem.F.slot_list_append PySem.F.type_list_append md_append (re_var 6) (ra_cons (re_op od_add (re_var 4) (re_callTy cd_tuple (by rfl) T.tuple bt_tuple (ra_cons (re_lc (own := [("row", 8)]) rfl sc_beside.nd (ri_seq (re_var 5)) (blkOk_by (by kernel_rfl)) (pgd_name 8) (fun _ _ _ _ _ => (pg_name sc_beside.nd rfl (Or.inl rfl))) (fun _ _ _ _ _ => rts_nil) (fun _ _ _ _ _ => (re_callTy cd_tuple (by rfl) T.tuple bt_tuple (ra_cons (re_lc (own := [("place", 7)]) rfl sc_beside.nd (ri_seq (re_var 8)) (blkOk_by (by kernel_rfl)) (pgd_name 7) (fun _ _ _ _ _ => (pg_name sc_beside.nd rfl (Or.inl rfl))) (fun _ _ _ _ _ => rts_nil) (fun _ _ _ _ _ => (re_op od_add (re_var 7) (re_var 2)))) ra_nil)))) ra_nil))) ra_nil)))))
  (rs_one (rs_ret (re_tup (ra_cons (re_op od_add (re_var 2) (re_ix (id_ix (hu_of hr)) (re_var 1) re_int)) (ra_cons (re_callTy cd_tuple (by rfl) T.tuple bt_tuple (ra_cons (re_var 3) ra_nil)) (ra_cons (re_callTy cd_tuple (by rfl) T.tuple bt_tuple (ra_cons (re_var 6) ra_nil)) ra_nil))))))))))), h1, F.kp, h2⟩
set_option maxHeartbeats 4000000 in
theorem ok_marks_at (T : Txt K w mg) (g : Got K mg "marks_at" s_marks_at ["world", "place"])  : DefOk P w K mg base 1 "marks_at" F_marks_at := by
  obtain ⟨f, fd, F, h1, h2⟩ := g.ex
  exact ⟨f, fd, ["world", "place"], fn_ok (k := 0) F sc_marks_at fun cdv A outer s H E hr =>
  (rs_one (rs_ret (re_callTy cd_tuple (by rfl) T.tuple bt_tuple (ra_cons (re_lc (own := [("i", 2)]) rfl sc_marks_at.nd (ri_range1 T.range (ra_cons (re_callB cd_len (by rfl) T.len bt_len (ra_cons (re_ix (id_ix (hu_of hr)) (re_var 0) re_int) ra_nil)) ra_nil)) (blkOk_by (by kernel_rfl)) (pgd_name 2) (fun _ _ _ _ _ => (pg_name sc_marks_at.nd rfl (Or.inl rfl))) (fun _ _ _ _ _ => (rts_one (rt_cmp (od_in (hu_of hr)) (re_var 1) (re_ix (id_ix (hu_of hr)) (re_ix (id_ix (hu_of hr)) (re_var 0) re_int) (re_var 2)) (by rfl)))) (fun _ _ _ _ _ => (re_var 2))) ra_nil)))), h1, F.kp, h2⟩
set_option maxHeartbeats 4000000 in
theorem ok_rounds_of_classes (T : Txt K w mg) (g : Got K mg "rounds_of_classes" s_rounds_of_classes ["world"]) (h_marks_at : DefOk P w K mg base 1 "marks_at" F_marks_at) : DefOk P w K mg base 2 "rounds_of_classes" F_rounds_of_classes := by
  obtain ⟨f, fd, F, h1, h2⟩ := g.ex
  exact ⟨f, fd, ["world"], fn_ok (k := 1) F sc_rounds_of_classes fun cdv A outer s H E hr =>
  (rs_cons (rs_set (i := 1) sc_rounds_of_classes.nd (re_lst (ra_cons (re_lc (own := [("place", 7)]) rfl sc_rounds_of_classes.nd (ri_range1 T.range (ra_cons (re_ix (id_ix (hu_of hr)) (re_var 0) re_int) ra_nil)) (blkOk_by (by kernel_rfl)) (pgd_name 7) (fun _ _ _ _ _ => (pg_name sc_rounds_of_classes.nd rfl (Or.inl rfl))) (fun _ _ _ _ _ => rts_nil) (fun _ _ _ _ _ => (re_call h_marks_at hr (ra_cons (re_var 0) (ra_cons (re_var 7) ra_nil))))) ra_nil)))
  (rs_cons (rs_set (i := 2) sc_rounds_of_classes.nd re_int)
  (rs_cons (rs_while PassesOwn.never (rt_cmp od_gt (re_lenSet rfl (hu65 hr) T.len T.set_ (re_ix (id_ix (hu_of hr)) (re_var 1) (re_neg re_int))) (re_var 2) (nomark _)) (rs_cons (rs_set (i := 2) sc_rounds_of_classes.nd (re_lenSet rfl (hu65 hr) T.len T.set_ (re_ix (id_ix (hu_of hr)) (re_var 1) (re_neg re_int))))
  (rs_cons (rs_set (i := 3) sc_rounds_of_classes.nd re_dictN)
  (rs_cons (rs_for PassesOwn.never rfl (ri_seq (re_ix (id_ix (hu_of hr)) (re_var 1) (re_neg re_int))) (rg_name sc_rounds_of_classes.nd (i := 4)) (rs_one (rs_expr (re_mtT PySem.F.slot_dict_setdefault PySem.F.type_dict_setdefault (md_sdfT (hu65 hr)) (re_var 3) (ra_cons (re_var 4) (ra_cons (re_callB cd_lenT (by rfl) T.len bt_len (ra_cons (re_var 3) ra_nil)) ra_nil))))))
  (rs_cons (rs_set (i := 5) sc_rounds_of_classes.nd (re_lc (own := [("mark", 4)]) rfl sc_rounds_of_classes.nd (ri_seq (re_ix (id_ix (hu_of hr)) (re_var 1) (re_neg re_int))) (blkOk_by (by kernel_rfl)) (pgd_name 4) (fun _ _ _ _ _ => (pg_name sc_rounds_of_classes.nd rfl (Or.inl rfl))) (fun _ _ _ _ _ => rts_nil) (fun _ _ _ _ _ => (re_ix (id_ixT (hu65 hr)) (re_var 3) (re_var 4)))))
  (rs_cons (rs_set (i := 6) sc_rounds_of_classes.nd (re_lst ra_nil))
  (rs_cons (rs_for PassesOwn.never rfl (ri_range1 T.range (ra_cons (re_ix (id_ix (hu_of hr)) (re_var 0) re_int) ra_nil)) (rg_name sc_rounds_of_classes.nd (i := 7)) (rs_cons (rs_setLc (i := 8) (own := [("ways", 9)]) rfl sc_rounds_of_classes.nd (ri_seq (re_ix (id_ix (hu_of hr)) (re_var 0) re_int)) (blkOk_by (by kernel_rfl)) (pgd_name 9) (fun _ _ _ _ _ => (pg_name sc_rounds_of_classes.nd rfl (Or.inl rfl))) (fun _ _ _ _ _ => rts_nil) (fun _ _ _ _ _ => (re_callTy cd_tuple (by rfl) T.tuple bt_tuple (ra_cons (re_sortSet rfl T.sorted T.set_ (re_lc (own := [("goal", 10)]) rfl sc_rounds_of_classes.nd (ri_seq (re_ix (id_ix (hu_of hr)) (re_var 9) (re_var 7))) (blkOk_by (by kernel_rfl)) (pgd_name 10) (fun _ _ _ _ _ => (pg_name sc_rounds_of_classes.nd rfl (Or.inl rfl))) (fun _ _ _ _ _ => rts_nil) (fun _ _ _ _ _ => (re_ix (id_ix (hu_of hr)) (re_var 5) (re_var 10))))) ra_nil))) (sw_true rfl rfl rfl (by decide +kernel)))
  (rs_one (rs_expr (re_mt PySem.F.plainAttrs_list PySem.F.slot_list_append PySem.F.type_list_append md_append (re_var 6) (ra_cons (re_op od_add (re_tup (ra_cons (re_ix (id_ix (hu_of hr)) (re_var 5) (re_var 7)) ra_nil)) (re_callTy cd_tuple (by rfl) T.tuple bt_tuple (ra_cons (re_var 8) ra_nil))) ra_nil))))))
  (rs_one (rs_expr (re_mt PySem.F.plainAttrs_list PySem.F.slot_list_append PySem.F.type_list_append md_append (re_var 1) (ra_cons (re_var 6) ra_nil)))))))))))
  (rs_one (rs_ret (re_var 1)))))), h1, F.kp, h2⟩
set_option maxHeartbeats 4000000 in
theorem ok_alike_places (T : Txt K w mg) (g : Got K mg "alike_places" s_alike_places ["world"]) (h_rounds_of_classes : DefOk P w K mg base 2 "rounds_of_classes" F_rounds_of_classes) : DefOk P w K mg base 3 "alike_places" F_alike_places := by
  obtain ⟨f, fd, F, h1, h2⟩ := g.ex
  exact ⟨f, fd, ["world"], fn_ok (k := 2) F sc_alike_places fun cdv A outer s H E hr =>
  (rs_cons (rs_set (i := 1) sc_alike_places.nd (re_ix (id_ix (hu_of hr)) (re_call h_rounds_of_classes hr (ra_cons (re_var 0) ra_nil)) (re_neg re_int)))
  (rs_cons (rs_set (i := 2) sc_alike_places.nd re_dictN)
  (rs_cons (rs_for PassesOwn.never rfl (ri_range1 T.range (ra_cons (re_ix (id_ix (hu_of hr)) (re_var 0) re_int) ra_nil)) (rg_name sc_alike_places.nd (i := 3)) (rs_one (rs_asg (re_op od_add (re_mtT PySem.F.slot_dict_get PySem.F.type_dict_get (md_getT (hu65 hr)) (re_var 2) (ra_cons (re_ix (id_ix (hu_of hr)) (re_var 1) (re_var 3)) (ra_cons (re_tup ra_nil) ra_nil))) (re_tup (ra_cons (re_var 3) ra_nil))) (rg_subT (hu65 hr) (re_var 2) (re_ix (id_ix (hu_of hr)) (re_var 1) (re_var 3))))))
  (rs_one (rs_ret (re_callTy cd_tuple (by rfl) T.tuple bt_tuple (ra_cons (re_callB (cd_sortR (hu65 hr)) (by rfl) T.sorted bt_sorted (ra_cons (re_vals rfl rfl T.list bt_list (re_var 2)) ra_nil)) ra_nil))))))), h1, F.kp, h2⟩
set_option maxHeartbeats 4000000 in
theorem ok_folded_world (T : Txt K w mg) (g : Got K mg "folded_world" s_folded_world ["world"]) (h_alike_places : DefOk P w K mg base 3 "alike_places" F_alike_places) : DefOk P w K mg base 4 "folded_world" F_folded_world := by
  obtain ⟨f, fd, F, h1, h2⟩ := g.ex
  exact ⟨f, fd, ["world"], fn_ok (k := 3) F sc_folded_world fun cdv A outer s H E hr =>
  (rs_cons (rs_set (i := 1) sc_folded_world.nd (re_call h_alike_places hr (ra_cons (re_var 0) ra_nil)))
  (rs_cons (rs_set (i := 2) sc_folded_world.nd re_dict0)
  (rs_cons (rs_for PassesOwn.never rfl (ri_range1 T.range (ra_cons (re_callB cd_len (by rfl) T.len bt_len (ra_cons (re_var 1) ra_nil)) ra_nil)) (rg_name sc_folded_world.nd (i := 3)) (rs_one (rs_expr (re_mt PySem.F.plainAttrs_dict PySem.F.slot_dict_update PySem.F.type_dict_update md_update (re_var 2) (ra_cons (re_dc (own := [("place", 8)]) rfl sc_folded_world.nd (ri_seq (re_ix (id_ix (hu_of hr)) (re_var 1) (re_var 3))) (blkOk_by (by kernel_rfl)) (pgd_name 8) (fun _ _ _ _ _ => (pg_name sc_folded_world.nd rfl (Or.inl rfl))) (fun _ _ _ _ _ => rts_nil) (fun _ _ _ _ _ => (re_var 8)) (fun _ _ _ _ _ => (re_var 3))) ra_nil)))))
  (rs_cons (rs_set (i := 4) sc_folded_world.nd (re_lst ra_nil))
  (rs_cons (rs_for PassesOwn.never rfl (ri_seq (re_ix (id_ix (hu_of hr)) (re_var 0) re_int)) (rg_name sc_folded_world.nd (i := 5)) (rs_one (rs_expr (re_mt PySem.F.plainAttrs_list PySem.F.slot_list_append PySem.F.type_list_append md_append (re_var 4) (ra_cons (re_callTy cd_tuple (by rfl) T.tuple bt_tuple (ra_cons (re_lc (own := [("k", 3)]) rfl sc_folded_world.nd (ri_range1 T.range (ra_cons (re_callB cd_len (by rfl) T.len bt_len (ra_cons (re_var 1) ra_nil)) ra_nil)) (blkOk_by (by kernel_rfl)) (pgd_name 3) (fun _ _ _ _ _ => (pg_name sc_folded_world.nd rfl (Or.inl rfl))) (fun _ _ _ _ _ => (rts_one (rt_cmp (od_in (hu_of hr)) (re_ix (id_ix (hu_of hr)) (re_ix (id_ix (hu_of hr)) (re_var 1) (re_var 3)) re_int) (re_var 5) (by rfl)))) (fun _ _ _ _ _ => (re_var 3))) ra_nil)) ra_nil)))))
  (rs_cons (rs_set (i := 6) sc_folded_world.nd (re_lst ra_nil))
  (rs_cons (rs_for PassesOwn.never rfl (ri_seq (re_ix (id_ix (hu_of hr)) (re_var 0) re_int)) (rg_name sc_folded_world.nd (i := 7)) (rs_one (rs_expr (re_mt PySem.F.plainAttrs_list PySem.F.slot_list_append PySem.F.type_list_append md_append (re_var 6) (ra_cons (re_callTy cd_tuple (by rfl) T.tuple bt_tuple (ra_cons (re_lc (own := [("row", 9)]) rfl sc_folded_world.nd (ri_seq (re_var 1)) (blkOk_by (by kernel_rfl)) (pgd_name 9) (fun _ _ _ _ _ => (pg_name sc_folded_world.nd rfl (Or.inl rfl))) (fun _ _ _ _ _ => rts_nil) (fun _ _ _ _ _ => (re_callTy cd_tuple (by rfl) T.tuple bt_tuple (ra_cons (re_sortSet rfl T.sorted T.set_ (re_lc (own := [("goal", 10)]) rfl sc_folded_world.nd (ri_seq (re_ix (id_ix (hu_of hr)) (re_var 7) (re_ix (id_ix (hu_of hr)) (re_var 9) re_int))) (blkOk_by (by kernel_rfl)) (pgd_name 10) (fun _ _ _ _ _ => (pg_name sc_folded_world.nd rfl (Or.inl rfl))) (fun _ _ _ _ _ => rts_nil) (fun _ _ _ _ _ => (re_ix (id_ix (hu_of hr)) (re_var 2) (re_var 10))))) ra_nil)))) ra_nil)) ra_nil)))))
  (rs_one (rs_ret (re_tup (ra_cons (re_callB cd_len (by rfl) T.len bt_len (ra_cons (re_var 1) ra_nil)) (ra_cons (re_callTy cd_tuple (by rfl) T.tuple bt_tuple (ra_cons (re_var 4) ra_nil)) (ra_cons (re_callTy cd_tuple (by rfl) T.tuple bt_tuple (ra_cons (re_var 6) ra_nil)) ra_nil))))))))))))), h1, F.kp, h2⟩
set_option maxHeartbeats 4000000 in
theorem ok__law_same (T : Txt K w mg) (g : Got K mg "_law_same" s__law_same ["actual", "due"])  : ∀ k, DefOk P w K mg base (0 + k) "_law_same" (F__law_same k)
  | 0 => by
    obtain ⟨f, fd, F, h1, h2⟩ := g.ex
    exact ⟨f, fd, _, fn_none, h1, F.kp, h2⟩
  | k + 1 => by
    have h__law_same := ok__law_same T g  k
    obtain ⟨f, fd, F, h1, h2⟩ := g.ex
    exact ⟨f, fd, ["actual", "due"], fn_ok (k := 0 + k) F sc__law_same fun cdv A outer s H E hr =>
  (rs_cons (rs_if (rt_w (rw_or (rt_val (re_isi (T := "tuple") (by decide) rfl bt_tuple T.isinstance T.tuple (re_var 1))) (rw_or1 (rt_val (re_isi (T := "list") (by decide) rfl bt_list T.isinstance T.list (re_var 1)))))) (rs_cons (rs_if (rt_w (rw_or (rt_cmp (od_ne hr.units) (re_isi (T := "tuple") (by decide) rfl bt_tuple T.isinstance T.tuple (re_var 1)) (re_isi (T := "tuple") (by decide) rfl bt_tuple T.isinstance T.tuple (re_var 0)) (nomark _)) (rw_or (rt_cmp (od_ne hr.units) (re_isi (T := "list") (by decide) rfl bt_list T.isinstance T.list (re_var 1)) (re_isi (T := "list") (by decide) rfl bt_list T.isinstance T.list (re_var 0)) (nomark _)) (rw_or1 (rt_cmp (od_ne hr.units) (re_callB cd_len (by rfl) T.len bt_len (ra_cons (re_var 0) ra_nil)) (re_callB cd_len (by rfl) T.len bt_len (ra_cons (re_var 1) ra_nil)) (nomark _)))))) (rs_one (rs_ret re_bl)) rs_nil)
  (rs_one (rs_ret (re_cmp (od_eq hr.units) (re_callB cd_len (by rfl) T.len bt_len (ra_cons (re_lc (own := [("k", 2)]) rfl sc__law_same.nd (ri_range1 T.range (ra_cons (re_callB cd_len (by rfl) T.len bt_len (ra_cons (re_var 1) ra_nil)) ra_nil)) (blkOk_by (by kernel_rfl)) (pgd_name 2) (fun _ _ _ _ _ => (pg_name sc__law_same.nd rfl (Or.inl rfl))) (fun _ _ _ _ _ => (rts_one (rt_not (rt_val (re_call h__law_same hr (ra_cons (re_ix (id_ix (hu_of hr)) (re_var 0) (re_var 2)) (ra_cons (re_ix (id_ix (hu_of hr)) (re_var 1) (re_var 2)) ra_nil))))))) (fun _ _ _ _ _ => (re_var 2))) ra_nil)) re_int (nomark _))))) rs_nil)
  (rs_cons (rs_if (rt_isN (re_var 1)) (rs_one (rs_ret (re_isN (re_var 0)))) rs_nil)
  (rs_cons (rs_if (rt_w (rw_or (rt_val (re_isi (T := "bool") (by decide) rfl bt_bool T.isinstance T.bool (re_var 1))) (rw_or1 (rt_val (re_isi (T := "bool") (by decide) rfl bt_bool T.isinstance T.bool (re_var 0)))))) (rs_one (rs_ret (re_and (re_isi (T := "bool") (by decide) rfl bt_bool T.isinstance T.bool (re_var 1)) (re_and (re_isi (T := "bool") (by decide) rfl bt_bool T.isinstance T.bool (re_var 0)) (re_one (re_cmp (od_eq hr.units) (re_var 0) (re_var 1) (nomark _))))))) rs_nil)
  (rs_cons (rs_if (rt_val (re_isi (T := "int") (by decide) rfl bt_int T.isinstance T.int (re_var 1))) (rs_one (rs_ret (re_and (re_isi (T := "int") (by decide) rfl bt_int T.isinstance T.int (re_var 0)) (re_one (re_cmp (od_eq hr.units) (re_var 0) (re_var 1) (nomark _)))))) rs_nil)
  (rs_one (rs_ret (re_and (re_isi (T := "str") (by decide) rfl bt_str T.isinstance T.str (re_var 0)) (re_one (re_cmp (od_eq hr.units) (re_var 0) (re_var 1) (nomark _)))))))))), h1, F.kp, h2⟩
set_option maxHeartbeats 4000000 in
theorem ok__law_pool (T : Txt K w mg) (g : Got K mg "_law_pool" s__law_pool ["script"])  : DefOk P w K mg base 1 "_law_pool" F__law_pool := by
  obtain ⟨f, fd, F, h1, h2⟩ := g.ex
  exact ⟨f, fd, ["script"], fn_ok (k := 0) F sc__law_pool fun cdv A outer s H E hr =>
  (rs_cons (rs_set (i := 1) sc__law_pool.nd re_int)
  (rs_cons (rs_for PassesOwn.never rfl (ri_seq (re_sl (re_var 0) ro_none (ro_some re_int))) (rg_name sc__law_pool.nd (i := 2)) (rs_one (rs_set (i := 1) sc__law_pool.nd (re_op od_mod (re_callTy cd_int (by rfl) T.int bt_int (ra_cons (re_op od_add (re_op od_mul (re_var 1) re_int) (re_var 2)) ra_nil)) re_int))))
  (rs_one (rs_ret (re_lst (ra_cons (re_callTy (cd_list rfl) (by rfl) T.list bt_list (ra_cons (re_var 0) ra_nil)) (ra_cons re_int (ra_cons re_int (ra_cons re_int (ra_cons (re_var 1) ra_nil)))))))))), h1, F.kp, h2⟩
set_option maxHeartbeats 4000000 in
theorem ok__law_spread (T : Txt K w mg) (g : Got K mg "_law_spread" s__law_spread ["cell"])  : DefOk P w K mg base 1 "_law_spread" F__law_spread := by
  obtain ⟨f, fd, F, h1, h2⟩ := g.ex
  exact ⟨f, fd, ["cell"], fn_ok (k := 0) F sc__law_spread fun cdv A outer s H E hr =>
  (rs_cons (rs_set (i := 1) sc__law_spread.nd (re_op od_mod (re_callTy cd_int (by rfl) T.int bt_int (ra_cons (re_var 0) ra_nil)) re_int))
  (rs_cons (rs_set (i := 2) sc__law_spread.nd re_int)
  (rs_cons (rs_for PassesOwn.never rfl (ri_range1 T.range (ra_cons re_int ra_nil)) (rg_name sc__law_spread.nd (i := 3)) (rs_cons (rs_set (i := 1) sc__law_spread.nd (re_op od_mod (re_callTy cd_int (by rfl) T.int bt_int (ra_cons (re_op od_add (re_op od_add (re_op od_mul (re_var 1) re_int) re_int) (re_var 3)) ra_nil)) re_int))
  (rs_one (rs_set (i := 2) sc__law_spread.nd (re_op od_add (re_op od_mul (re_var 2) re_int) (re_var 1))))))
  (rs_one (rs_ret (re_var 2)))))), h1, F.kp, h2⟩
set_option maxHeartbeats 4000000 in
theorem ok__law_draw (T : Txt K w mg) (g : Got K mg "_law_draw" s__law_draw ["pool", "many"]) (h__law_spread : DefOk P w K mg base 1 "_law_spread" F__law_spread) : DefOk P w K mg base 2 "_law_draw" F__law_draw := by
  obtain ⟨f, fd, F, h1, h2⟩ := g.ex
  exact ⟨f, fd, ["pool", "many"], fn_ok (k := 1) F sc__law_draw fun cdv A outer s H E hr =>
  (rs_cons (rs_if (rt_w (rw_and (rt_cmp od_le (re_ix (id_ix (hu_of hr)) (re_var 0) re_int) re_int (nomark _)) (rw_and1 (rt_cmp od_lt (re_ix (id_ix (hu_of hr)) (re_var 0) re_int) (re_callB cd_len (by rfl) T.len bt_len (ra_cons (re_ix (id_ix (hu_of hr)) (re_var 0) re_int) ra_nil)) (nomark _))))) (rs_cons (rs_set (i := 2) sc__law_draw.nd (re_ix (id_ix (hu_of hr)) (re_ix (id_ix (hu_of hr)) (re_var 0) re_int) (re_ix (id_ix (hu_of hr)) (re_var 0) re_int)))
  (rs_cons (rs_asg (re_op od_add (re_ix (id_ix (hu_of hr)) (re_var 0) re_int) re_int) (rg_sub (hu_of hr) (re_var 0) re_int))
  (rs_cons (rs_asg (re_var 2) (rg_sub (hu_of hr) (re_var 0) re_int))
  (rs_one (rs_if (rt_cmp od_lt (re_var 2) re_int (nomark _)) (rs_one (rs_asg (re_call h__law_spread hr (ra_cons (re_var 2) ra_nil)) (rg_sub (hu_of hr) (re_var 0) re_int))) rs_nil))))) rs_nil)
  (rs_cons (rs_asg (re_op od_add (re_ix (id_ix (hu_of hr)) (re_var 0) re_int) re_int) (rg_sub (hu_of hr) (re_var 0) re_int))
  (rs_cons (rs_if (rt_cmp od_le (re_ix (id_ix (hu_of hr)) (re_var 0) re_int) re_int (nomark _)) (rs_cons (rs_set (i := 3) sc__law_draw.nd (re_op od_mod (re_callTy cd_int (by rfl) T.int bt_int (ra_cons (re_op od_add (re_op od_add (re_op od_mul (re_ix (id_ix (hu_of hr)) (re_var 0) re_int) re_int) (re_op od_mul (re_ix (id_ix (hu_of hr)) (re_var 0) re_int) re_int)) re_int) ra_nil)) re_int))
  (rs_cons (rs_set (i := 3) sc__law_draw.nd (re_op od_mod (re_callTy cd_int (by rfl) T.int bt_int (ra_cons (re_op od_add (re_op od_mul (re_var 3) re_int) (re_ix (id_ix (hu_of hr)) (re_var 0) re_int)) ra_nil)) re_int))
  (rs_one (rs_ret (re_op od_mod (re_op od_fdiv (re_var 3) re_int) (re_var 1)))))) rs_nil)
  (rs_cons (rs_set (i := 4) sc__law_draw.nd (re_op od_mod (re_callTy cd_int (by rfl) T.int bt_int (ra_cons (re_ix (id_ix (hu_of hr)) (re_var 0) re_int) ra_nil)) (re_var 1)))
  (rs_cons (rs_asg (re_op od_fdiv (re_ix (id_ix (hu_of hr)) (re_var 0) re_int) (re_var 1)) (rg_sub (hu_of hr) (re_var 0) re_int))
  (rs_one (rs_ret (re_var 4)))))))), h1, F.kp, h2⟩
set_option maxHeartbeats 4000000 in
theorem ok__law_pick (T : Txt K w mg) (g : Got K mg "_law_pick" s__law_pick ["pool", "items"]) (h__law_draw : DefOk P w K mg base 2 "_law_draw" F__law_draw) : DefOk P w K mg base 3 "_law_pick" F__law_pick := by
  obtain ⟨f, fd, F, h1, h2⟩ := g.ex
  exact ⟨f, fd, ["pool", "items"], fn_ok (k := 2) F sc__law_pick fun cdv A outer s H E hr =>
  (rs_one (rs_ret (re_ix (id_ix (hu_of hr)) (re_var 1) (re_call h__law_draw hr (ra_cons (re_var 0) (ra_cons (re_callB cd_len (by rfl) T.len bt_len (ra_cons (re_var 1) ra_nil)) ra_nil)))))), h1, F.kp, h2⟩
set_option maxHeartbeats 4000000 in
theorem ok__law_saying (T : Txt K w mg) (g : Got K mg "_law_saying" s__law_saying ["pool", "land", "deep", "state", "known", "free"]) (h__law_draw : DefOk P w K mg base 2 "_law_draw" F__law_draw) (h__law_pick : DefOk P w K mg base 3 "_law_pick" F__law_pick) : ∀ k, DefOk P w K mg base (3 + k) "_law_saying" (F__law_saying k)
  | 0 => by
    obtain ⟨f, fd, F, h1, h2⟩ := g.ex
    exact ⟨f, fd, _, fn_none, h1, F.kp, h2⟩
  | k + 1 => by
    have h__law_saying := ok__law_saying T g h__law_draw h__law_pick k
    obtain ⟨f, fd, F, h1, h2⟩ := g.ex
    exact ⟨f, fd, ["pool", "land", "deep", "state", "known", "free"], fn_ok (k := 3 + k) F sc__law_saying fun cdv A outer s H E hr =>
  (rs_cons (rs_set (i := 6) sc__law_saying.nd (re_if (rt_cmp od_gt (re_var 2) re_int (nomark _)) (re_call h__law_draw hr (ra_cons (re_var 0) (ra_cons re_int ra_nil))) (re_call h__law_draw hr (ra_cons (re_var 0) (ra_cons re_int ra_nil)))))
  (rs_cons (rs_if (rt_w (rw_or (rt_cmp od_lt (re_var 6) re_int (nomark _)) (rw_or1 (rt_w (rw_and (rt_cmp (od_eq hr.units) (re_var 6) re_int (nomark _)) (rw_and1 (rt_cmp (od_eq hr.units) (re_callB cd_len (by rfl) T.len bt_len (ra_cons (re_var 5) ra_nil)) re_int (nomark _)))))))) (rs_one (rs_ret (re_tup (ra_cons (re_ix (id_ix (hu_of hr)) (re_tup (ra_cons re_str (ra_cons re_str ra_nil))) (re_if (rt_cmp od_lt (re_var 6) re_int (nomark _)) (re_op od_mod (re_var 6) re_int) re_int)) (ra_cons (re_call h__law_draw hr (ra_cons (re_var 0) (ra_cons (re_ix (id_ix (hu_of hr)) (re_var 1) re_int) ra_nil))) ra_nil))))) rs_nil)
  (rs_cons (rs_if (rt_cmp (od_eq hr.units) (re_var 6) re_int (nomark _)) (rs_one (rs_ret (re_if (rt_cmp (od_eq hr.units) (re_call h__law_draw hr (ra_cons (re_var 0) (ra_cons re_int ra_nil))) re_int (nomark _)) (re_ix (id_ix (hu_of hr)) (re_tup (ra_cons (re_tup (ra_cons re_str ra_nil)) (ra_cons (re_tup (ra_cons re_str ra_nil)) ra_nil))) (re_call h__law_draw hr (ra_cons (re_var 0) (ra_cons re_int ra_nil)))) (re_tup (ra_cons re_str (ra_cons (re_call h__law_draw hr (ra_cons (re_var 0) (ra_cons (re_ix (id_ix (hu_of hr)) (re_var 1) re_int) ra_nil))) ra_nil)))))) rs_nil)
  (rs_cons (rs_if (rt_cmp od_lt (re_var 6) re_int (nomark _)) (rs_one (rs_ret (re_if (rt_cmp od_gt (re_callB cd_len (by rfl) T.len bt_len (ra_cons (re_var 5) ra_nil)) re_int (nomark _)) (re_tup (ra_cons re_str (ra_cons (re_call h__law_pick hr (ra_cons (re_var 0) (ra_cons (re_callTy (cd_list rfl) (by rfl) T.list bt_list (ra_cons (re_var 5) ra_nil)) ra_nil))) ra_nil))) (re_tup (ra_cons re_str (ra_cons (re_call h__law_draw hr (ra_cons (re_var 0) (ra_cons (re_ix (id_ix (hu_of hr)) (re_var 1) re_int) ra_nil))) ra_nil)))))) rs_nil)
  (rs_cons (rs_if (rt_cmp od_lt (re_var 6) re_int (nomark _)) (rs_one (rs_ret (re_tup (ra_cons (re_ix (id_ix (hu_of hr)) (re_tup (ra_cons re_str (ra_cons re_str ra_nil))) (re_call h__law_draw hr (ra_cons (re_var 0) (ra_cons re_int ra_nil)))) (ra_cons (re_call h__law_saying hr (ra_cons (re_var 0) (ra_cons (re_var 1) (ra_cons (re_op od_sub (re_var 2) re_int) (ra_cons (re_var 3) (ra_cons (re_var 4) (ra_cons (re_var 5) ra_nil))))))) (ra_cons (re_call h__law_saying hr (ra_cons (re_var 0) (ra_cons (re_var 1) (ra_cons (re_op od_sub (re_var 2) re_int) (ra_cons (re_var 3) (ra_cons (re_var 4) (ra_cons (re_var 5) ra_nil))))))) ra_nil)))))) rs_nil)
  (rs_cons (rs_if (rt_cmp od_lt (re_var 6) re_int (nomark _)) (rs_one (rs_ret (re_tup (ra_cons (re_ix (id_ix (hu_of hr)) (re_tup (ra_cons re_str (ra_cons re_str ra_nil))) (re_call h__law_draw hr (ra_cons (re_var 0) (ra_cons re_int ra_nil)))) (ra_cons (re_call h__law_draw hr (ra_cons (re_var 0) (ra_cons (re_ix (id_ix (hu_of hr)) (re_var 1) re_int) ra_nil))) (ra_cons (re_call h__law_saying hr (ra_cons (re_var 0) (ra_cons (re_var 1) (ra_cons (re_op od_sub (re_var 2) re_int) (ra_cons (re_var 3) (ra_cons (re_var 4) (ra_cons (re_var 4) ra_nil))))))) ra_nil)))))) rs_nil)
  (rs_cons (rs_set (i := 7) sc__law_saying.nd (re_callB cd_len (by rfl) T.len bt_len (ra_cons (re_var 3) ra_nil)))
  (rs_cons (rs_if (rt_cmp od_gt (re_var 7) re_int (nomark _)) (rs_one (rs_ret (re_tup (ra_cons re_str (ra_cons re_int ra_nil))))) rs_nil)
  (rs_cons (rs_expr (re_mt PySem.F.plainAttrs_list PySem.F.slot_list_append PySem.F.type_list_append md_append (re_var 3) (ra_cons (re_var 7) ra_nil)))
  (rs_one (rs_ret (re_tup (ra_cons (re_ix (id_ix (hu_of hr)) (re_tup (ra_cons re_str (ra_cons re_str ra_nil))) (re_call h__law_draw hr (ra_cons (re_var 0) (ra_cons re_int ra_nil)))) (ra_cons (re_var 7) (ra_cons (re_call h__law_saying hr (ra_cons (re_var 0) (ra_cons (re_var 1) (ra_cons (re_op od_sub (re_var 2) re_int) (ra_cons (re_var 3) (ra_cons (re_op od_add (re_var 4) (re_tup (ra_cons (re_var 7) ra_nil))) (ra_cons (re_var 5) ra_nil))))))) ra_nil))))))))))))))), h1, F.kp, h2⟩
set_option maxHeartbeats 4000000 in
theorem ok__law_drawn (T : Txt K w mg) (g : Got K mg "_law_drawn" s__law_drawn ["pool", "land", "deep"]) (h__law_saying : DefOk P w K mg base 11 "_law_saying" (F__law_saying 8)) (h__law_draw : DefOk P w K mg base 2 "_law_draw" F__law_draw) : DefOk P w K mg base 12 "_law_drawn" F__law_drawn := by
  obtain ⟨f, fd, F, h1, h2⟩ := g.ex
  exact ⟨f, fd, ["pool", "land", "deep"], fn_ok (k := 11) F sc__law_drawn fun cdv A outer s H E hr =>
  (rs_cons (rs_set (i := 3) sc__law_drawn.nd (re_call h__law_draw hr (ra_cons (re_var 0) (ra_cons re_int ra_nil))))
  (rs_cons (rs_if (rt_cmp (od_eq hr.units) (re_var 3) re_int (nomark _)) (rs_cons (rs_set (i := 4) sc__law_drawn.nd (re_call h__law_draw hr (ra_cons (re_var 0) (ra_cons re_int ra_nil))))
  (rs_cons (rs_set (i := 5) sc__law_drawn.nd (re_call h__law_saying hr (ra_cons (re_var 0) (ra_cons (re_var 1) (ra_cons (re_op od_sub (re_var 2) re_int) (ra_cons (re_lst (ra_cons re_int (ra_cons re_int ra_nil))) (ra_cons (re_tup (ra_cons re_int (ra_cons re_int ra_nil))) (ra_cons (re_tup ra_nil) ra_nil))))))))
  (rs_cons (rs_set (i := 6) sc__law_drawn.nd (re_tup (ra_cons re_str (ra_cons (re_tup (ra_cons re_str (ra_cons (re_var 5) (ra_cons (re_tup (ra_cons re_str (ra_cons (re_call h__law_draw hr (ra_cons (re_var 0) (ra_cons (re_ix (id_ix (hu_of hr)) (re_var 1) re_int) ra_nil))) (ra_cons (re_tup (ra_cons re_str (ra_cons re_int ra_nil))) ra_nil)))) ra_nil)))) (ra_cons (re_tup (ra_cons (re_ix (id_ix (hu_of hr)) (re_tup (ra_cons re_str (ra_cons re_str ra_nil))) (re_call h__law_draw hr (ra_cons (re_var 0) (ra_cons re_int ra_nil)))) (ra_cons re_int (ra_cons (re_tup (ra_cons re_str (ra_cons re_int ra_nil))) ra_nil)))) ra_nil)))))
  (rs_one (rs_ret (re_tup (ra_cons (re_ix (id_ix (hu_of hr)) (re_tup (ra_cons re_str (ra_cons re_str ra_nil))) (re_var 4)) (ra_cons re_int (ra_cons (re_tup (ra_cons (re_ix (id_ix (hu_of hr)) (re_tup (ra_cons re_str (ra_cons re_str ra_nil))) (re_var 4)) (ra_cons re_int (ra_cons (re_var 6) ra_nil)))) ra_nil))))))))) rs_nil)
  (rs_cons (rs_if (rt_cmp (od_eq hr.units) (re_var 3) re_int (nomark _)) (rs_one (rs_ret (re_tup (ra_cons (re_ix (id_ix (hu_of hr)) (re_tup (ra_cons re_str (ra_cons re_str ra_nil))) (re_call h__law_draw hr (ra_cons (re_var 0) (ra_cons re_int ra_nil)))) (ra_cons re_int (ra_cons (re_call h__law_saying hr (ra_cons (re_var 0) (ra_cons (re_var 1) (ra_cons (re_var 2) (ra_cons (re_lst (ra_cons re_int ra_nil)) (ra_cons (re_tup (ra_cons re_int ra_nil)) (ra_cons (re_tup ra_nil) ra_nil))))))) ra_nil)))))) rs_nil)
  (rs_one (rs_ret (re_call h__law_saying hr (ra_cons (re_var 0) (ra_cons (re_var 1) (ra_cons (re_op od_add (re_var 2) re_int) (ra_cons (re_lst ra_nil) (ra_cons (re_tup ra_nil) (ra_cons (re_tup ra_nil) ra_nil)))))))))))), h1, F.kp, h2⟩
set_option maxHeartbeats 4000000 in
theorem ok__law_world (T : Txt K w mg) (g : Got K mg "_law_world" s__law_world ["pool", "land", "most"]) (h__law_draw : DefOk P w K mg base 2 "_law_draw" F__law_draw) : DefOk P w K mg base 3 "_law_world" F__law_world := by
  obtain ⟨f, fd, F, h1, h2⟩ := g.ex
  exact ⟨f, fd, ["pool", "land", "most"], fn_ok (k := 2) F sc__law_world fun cdv A outer s H E hr =>
  (rs_cons (rs_set (i := 3) sc__law_world.nd (re_op od_add re_int (re_call h__law_draw hr (ra_cons (re_var 0) (ra_cons (re_var 2) ra_nil)))))
  (rs_cons (rs_set (i := 4) sc__law_world.nd (re_callTy cd_tuple (by rfl) T.tuple bt_tuple (ra_cons (re_lc (own := [("i", 8)]) rfl sc__law_world.nd (ri_range1 T.range (ra_cons (re_ix (id_ix (hu_of hr)) (re_var 1) re_int) ra_nil)) (blkOk_by (by kernel_rfl)) (pgd_name 8) (fun _ _ _ _ _ => (pg_name sc__law_world.nd rfl (Or.inl rfl))) (fun _ _ _ _ _ => rts_nil) (fun _ _ _ _ _ => (re_callTy cd_tuple (by rfl) T.tuple bt_tuple (ra_cons (re_lc (own := [("k", 9)]) rfl sc__law_world.nd (ri_range1 T.range (ra_cons (re_var 3) ra_nil)) (blkOk_by (by kernel_rfl)) (pgd_name 9) (fun _ _ _ _ _ => (pg_name sc__law_world.nd rfl (Or.inl rfl))) (fun _ _ _ _ _ => (rts_one (rt_cmp (od_eq hr.units) (re_call h__law_draw hr (ra_cons (re_var 0) (ra_cons re_int ra_nil))) re_int (nomark _)))) (fun _ _ _ _ _ => (re_var 9))) ra_nil)))) ra_nil)))
  (rs_cons (rs_set (i := 5) sc__law_world.nd (re_op od_add re_int (re_call h__law_draw hr (ra_cons (re_var 0) (ra_cons re_int ra_nil)))))
  (rs_cons (rs_set (i := 6) sc__law_world.nd (re_tup ra_nil))
  (rs_cons (rs_for PassesOwn.never rfl (ri_range1 T.range (ra_cons (re_ix (id_ix (hu_of hr)) (re_var 1) re_int) ra_nil)) (rg_name sc__law_world.nd (i := 7)) (rs_one (rs_set (i := 6) sc__law_world.nd (re_op od_add (re_var 6) (re_tup (ra_cons (re_callTy cd_tuple (by rfl) T.tuple bt_tuple (ra_cons (re_lc (own := [("place", 10)]) rfl sc__law_world.nd (ri_range1 T.range (ra_cons (re_var 3) ra_nil)) (blkOk_by (by kernel_rfl)) (pgd_name 10) (fun _ _ _ _ _ => (pg_name sc__law_world.nd rfl (Or.inl rfl))) (fun _ _ _ _ _ => rts_nil) (fun _ _ _ _ _ => (re_callTy cd_tuple (by rfl) T.tuple bt_tuple (ra_cons (re_lc (own := [("k", 9)]) rfl sc__law_world.nd (ri_range1 T.range (ra_cons (re_var 3) ra_nil)) (blkOk_by (by kernel_rfl)) (pgd_name 9) (fun _ _ _ _ _ => (pg_name sc__law_world.nd rfl (Or.inl rfl))) (fun _ _ _ _ _ => (rts_one (rt_cmp (od_eq hr.units) (re_call h__law_draw hr (ra_cons (re_var 0) (ra_cons (re_var 5) ra_nil))) re_int (nomark _)))) (fun _ _ _ _ _ => (re_var 9))) ra_nil)))) ra_nil)) ra_nil))))))
  (rs_one (rs_ret (re_tup (ra_cons (re_var 3) (ra_cons (re_var 4) (ra_cons (re_var 6) ra_nil))))))))))), h1, F.kp, h2⟩
set_option maxHeartbeats 4000000 in
theorem ok__law_term (T : Txt K w mg) (g : Got K mg "_law_term" s__law_term ["pool", "land", "deep"]) (h__law_draw : DefOk P w K mg base 2 "_law_draw" F__law_draw) : ∀ k, DefOk P w K mg base (2 + k) "_law_term" (F__law_term k)
  | 0 => by
    obtain ⟨f, fd, F, h1, h2⟩ := g.ex
    exact ⟨f, fd, _, fn_none, h1, F.kp, h2⟩
  | k + 1 => by
    have h__law_term := ok__law_term T g h__law_draw k
    obtain ⟨f, fd, F, h1, h2⟩ := g.ex
    exact ⟨f, fd, ["pool", "land", "deep"], fn_ok (k := 2 + k) F sc__law_term fun cdv A outer s H E hr =>
  (rs_cons (rs_set (i := 3) sc__law_term.nd (re_if (rt_cmp od_gt (re_var 2) re_int (nomark _)) (re_call h__law_draw hr (ra_cons (re_var 0) (ra_cons re_int ra_nil))) (re_call h__law_draw hr (ra_cons (re_var 0) (ra_cons re_int ra_nil)))))
  (rs_cons (rs_if (rt_cmp od_lt (re_var 3) re_int (nomark _)) (rs_one (rs_ret (re_tup (ra_cons re_str (ra_cons (re_call h__law_draw hr (ra_cons (re_var 0) (ra_cons (re_ix (id_ix (hu_of hr)) (re_var 1) re_int) ra_nil))) ra_nil))))) rs_nil)
  (rs_cons (rs_if (rt_cmp (od_eq hr.units) (re_var 3) re_int (nomark _)) (rs_one (rs_ret (re_tup (ra_cons re_str (ra_cons (re_call h__law_draw hr (ra_cons (re_var 0) (ra_cons (re_ix (id_ix (hu_of hr)) (re_var 1) re_int) ra_nil))) ra_nil))))) rs_nil)
  (rs_cons (rs_if (rt_cmp od_lt (re_var 3) re_int (nomark _)) (rs_one (rs_ret (re_tup (ra_cons re_str (ra_cons (re_call h__law_term hr (ra_cons (re_var 0) (ra_cons (re_var 1) (ra_cons (re_op od_sub (re_var 2) re_int) ra_nil)))) (ra_cons (re_call h__law_term hr (ra_cons (re_var 0) (ra_cons (re_var 1) (ra_cons (re_op od_sub (re_var 2) re_int) ra_nil)))) ra_nil)))))) rs_nil)
  (rs_cons (rs_if (rt_cmp od_lt (re_var 3) re_int (nomark _)) (rs_one (rs_ret (re_tup (ra_cons re_str (ra_cons (re_call h__law_term hr (ra_cons (re_var 0) (ra_cons (re_var 1) (ra_cons (re_op od_sub (re_var 2) re_int) ra_nil)))) (ra_cons (re_call h__law_term hr (ra_cons (re_var 0) (ra_cons (re_var 1) (ra_cons (re_op od_sub (re_var 2) re_int) ra_nil)))) ra_nil)))))) rs_nil)
  (rs_one (rs_ret (re_tup (ra_cons re_str (ra_cons (re_tup (ra_cons re_str (ra_cons (re_tup (ra_cons re_str (ra_cons (re_call h__law_draw hr (ra_cons (re_var 0) (ra_cons (re_ix (id_ix (hu_of hr)) (re_var 1) re_int) ra_nil))) ra_nil))) (ra_cons (re_call h__law_term hr (ra_cons (re_var 0) (ra_cons (re_var 1) (ra_cons (re_op od_sub (re_var 2) re_int) ra_nil)))) ra_nil)))) ra_nil)))))))))), h1, F.kp, h2⟩
set_option maxHeartbeats 4000000 in
theorem ok_law_fn (T : Txt K w mg) {f : Addr} {fd : FuncData} (F : Fun K "law" "law" s_law f fd) (h__law_same : DefOk P w K mg base 4 "_law_same" (F__law_same 4)) (h_places_where : DefOk P w K mg base 27 "places_where" F_places_where) (h_led_pairs : DefOk P w K mg base 14 "led_pairs" F_led_pairs) (h_some_after : DefOk P w K mg base 26 "some_after" F_some_after) (h__law_drawn : DefOk P w K mg base 12 "_law_drawn" F__law_drawn) (h_folded_world : DefOk P w K mg base 4 "folded_world" F_folded_world) (h_alike_places : DefOk P w K mg base 3 "alike_places" F_alike_places) (h_beside : DefOk P w K mg base 1 "beside" F_beside) (h__law_world : DefOk P w K mg base 3 "_law_world" F__law_world) (h__law_term : DefOk P w K mg base 14 "_law_term" (F__law_term 12)) (h__law_draw : DefOk P w K mg base 2 "_law_draw" F__law_draw) (h__law_pool : DefOk P w K mg base 1 "_law_pool" F__law_pool) : FnOk P w K mg base CX0 28 f fd ["script"] (spD ⟨K, w⟩ F_law) :=
  fn_ok (k := 27) F sc_law fun cdv A outer s H E hr =>
  (rs_cons (rs_set (i := 1) sc_law.nd (re_call h__law_pool hr (ra_cons (re_var 0) ra_nil)))
  (rs_cons (rs_set (i := 2) sc_law.nd (re_ix (id_ix (hu_of hr)) (re_tup (ra_cons (re_tup (ra_cons re_int (ra_cons re_int ra_nil))) (ra_cons (re_tup (ra_cons re_int (ra_cons re_int ra_nil))) (ra_cons (re_tup (ra_cons re_int (ra_cons re_int ra_nil))) ra_nil)))) (re_call h__law_draw hr (ra_cons (re_var 1) (ra_cons re_int ra_nil)))))
  (rs_cons (rs_set (i := 3) sc_law.nd (re_call h__law_term hr (ra_cons (re_var 1) (ra_cons (re_var 2) (ra_cons re_int ra_nil)))))
  (rs_cons (rs_par (i := 4) (j := 5) rfl sc_law.nd (ra_cons (re_call h__law_world hr (ra_cons (re_var 1) (ra_cons (re_var 2) (ra_cons re_int ra_nil)))) (ra_cons (re_call h__law_world hr (ra_cons (re_var 1) (ra_cons (re_var 2) (ra_cons re_int ra_nil)))) ra_nil)))
  (rs_cons (rs_set (i := 6) sc_law.nd (re_ix (id_ix (hu_of hr)) (re_var 4) re_int))
  (rs_cons (rs_set (i := 7) sc_law.nd (re_call h_beside hr (ra_cons (re_var 4) (ra_cons (re_var 5) ra_nil))))
  (rs_cons (rs_if (rt_not (rt_val (re_call h__law_same hr (ra_cons (re_call h_led_pairs hr (ra_cons (re_var 7) (ra_cons (re_var 3) ra_nil))) (ra_cons (re_op od_add (re_call h_led_pairs hr (ra_cons (re_var 4) (ra_cons (re_var 3) ra_nil))) (re_lc (own := [("a", 17), ("b", 18)]) rfl sc_law.nd (ri_seq (re_call h_led_pairs hr (ra_cons (re_var 5) (ra_cons (re_var 3) ra_nil)))) (blkOk_by (by kernel_rfl)) (pgd_two 17 18 (by decide)) (fun _ _ _ _ _ => (pg_tup rfl (pgs_cons (pg_name (i := 17) sc_law.nd rfl (Or.inl rfl)) (pgs_cons (pg_name (i := 18) sc_law.nd rfl (Or.inl rfl)) pgs_nil)))) (fun _ _ _ _ _ => rts_nil) (fun _ _ _ _ _ => (re_tup (ra_cons (re_op od_add (re_var 6) (re_var 17)) (ra_cons (re_op od_add (re_var 6) (re_var 18)) ra_nil)))))) ra_nil))))) (rs_one (rs_ret re_bl)) rs_nil)
  (rs_cons (rs_set (i := 8) sc_law.nd (re_call h_alike_places hr (ra_cons (re_var 7) ra_nil)))
  (rs_cons (rs_set (i := 9) sc_law.nd re_dict0)
  (rs_cons (rs_for PassesOwn.never rfl (ri_range1 T.range (ra_cons (re_callB cd_len (by rfl) T.len bt_len (ra_cons (re_var 8) ra_nil)) ra_nil)) (rg_name sc_law.nd (i := 10)) (rs_one (rs_for PassesOwn.never rfl (ri_seq (re_ix (id_ix (hu_of hr)) (re_var 8) (re_var 10))) (rg_name sc_law.nd (i := 11)) (rs_one (rs_asg (re_var 10) (rg_sub (hu_of hr) (re_var 9) (re_var 11)))))))
  (rs_cons (rs_set (i := 12) sc_law.nd (re_call h_folded_world hr (ra_cons (re_var 7) ra_nil)))
  (rs_cons (rs_if (rt_not (rt_val (re_call h__law_same hr (ra_cons (re_call h_led_pairs hr (ra_cons (re_var 12) (ra_cons (re_var 3) ra_nil))) (ra_cons (re_sortSetP rfl (hu65 hr) T.sorted T.set_ (re_lc (own := [("a", 17), ("b", 18)]) rfl sc_law.nd (ri_seq (re_call h_led_pairs hr (ra_cons (re_var 7) (ra_cons (re_var 3) ra_nil)))) (blkOk_by (by kernel_rfl)) (pgd_two 17 18 (by decide)) (fun _ _ _ _ _ => (pg_tup rfl (pgs_cons (pg_name (i := 17) sc_law.nd rfl (Or.inl rfl)) (pgs_cons (pg_name (i := 18) sc_law.nd rfl (Or.inl rfl)) pgs_nil)))) (fun _ _ _ _ _ => rts_nil) (fun _ _ _ _ _ => (re_tup (ra_cons (re_ix (id_ix (hu_of hr)) (re_var 9) (re_var 17)) (ra_cons (re_ix (id_ix (hu_of hr)) (re_var 9) (re_var 18)) ra_nil)))))) ra_nil))))) (rs_one (rs_ret re_bl)) rs_nil)
  (rs_cons (rs_set (i := 13) sc_law.nd (re_call h__law_drawn hr (ra_cons (re_var 1) (ra_cons (re_var 2) (ra_cons re_int ra_nil)))))
  (rs_cons (rs_set (i := 14) sc_law.nd (re_call h_some_after hr (ra_cons (re_var 3) (ra_cons (re_var 13) ra_nil))))
  (rs_cons (rs_if (rt_isN (re_var 14)) (rs_one (rs_ret re_bl)) rs_nil)
  (rs_cons (rs_set (i := 15) sc_law.nd (re_call h_places_where hr (ra_cons (re_var 7) (ra_cons (re_var 13) ra_nil))))
  (rs_cons (rs_set (i := 16) sc_law.nd (re_callTy cd_tuple (by rfl) T.tuple bt_tuple (ra_cons (re_sortSet rfl T.sorted T.set_ (re_lc (own := [("a", 17), ("b", 18)]) rfl sc_law.nd (ri_seq (re_call h_led_pairs hr (ra_cons (re_var 7) (ra_cons (re_var 3) ra_nil)))) (blkOk_by (by kernel_rfl)) (pgd_two 17 18 (by decide)) (fun _ _ _ _ _ => (pg_tup rfl (pgs_cons (pg_name (i := 17) sc_law.nd rfl (Or.inl rfl)) (pgs_cons (pg_name (i := 18) sc_law.nd rfl (Or.inl rfl)) pgs_nil)))) (fun _ _ _ _ _ => (rts_one (rt_cmp (od_in (hu_of hr)) (re_var 18) (re_var 15) (by rfl)))) (fun _ _ _ _ _ => (re_var 17)))) ra_nil)))
  (rs_one (rs_ret (re_call h__law_same hr (ra_cons (re_lst (ra_cons (re_call h_places_where hr (ra_cons (re_var 7) (ra_cons (re_var 14) ra_nil))) (ra_cons (re_call h_places_where hr (ra_cons (re_var 12) (ra_cons (re_var 14) ra_nil))) ra_nil))) (ra_cons (re_lst (ra_cons (re_var 16) (ra_cons (re_callTy cd_tuple (by rfl) T.tuple bt_tuple (ra_cons (re_sortSet rfl T.sorted T.set_ (re_lc (own := [("a", 17)]) rfl sc_law.nd (ri_seq (re_var 16)) (blkOk_by (by kernel_rfl)) (pgd_name 17) (fun _ _ _ _ _ => (pg_name sc_law.nd rfl (Or.inl rfl))) (fun _ _ _ _ _ => rts_nil) (fun _ _ _ _ _ => (re_ix (id_ix (hu_of hr)) (re_var 9) (re_var 17))))) ra_nil)) ra_nil))) ra_nil))))))))))))))))))))))
end

end K35
namespace K35
open PySem L2 SD PG
theorem vs_of {K : PySem.W.Frag} {d : Addr} {tab : List (Str × Str)} (h : ∀ p ∈ tab, ∃ t, PySem.W.nsIn K d p.1 = some (some (.str p.2 t))) : ∀ a b, tab.lookup a = some b → ∃ t, PySem.W.nsIn K d a = some (some (.str b t)) := by
  intro a b e
  induction tab with
  | nil => cases e
  | cons q tab ih =>
    obtain ⟨x, y⟩ := q
    rw [List.lookup_cons] at e
    split at e
    · rename_i c
      cases e
      have : a = x := by simpa using c
      subst this
      exact h _ List.mem_cons_self
    · exact ih (fun p hp => h p (List.mem_cons_of_mem _ hp)) e
theorem got_mk {K : PySem.W.Frag} {mg : Str → Option Value} {h : Heap} {x : Str} {st : Stmt} {ps : List Str} {f : Addr} {oc : Value} {od an : Option Addr} {sl : Array (Option Value)} {kV dc pm cd ct : Value} (X : K.In h) (G : h.Ns mainGlobals mg) (a : PySem.W.nsIn K mainGlobals x = some (some (.ref f)))
    (l : K.lookup f = some ⟨oc, od, .func (PySem.W.fnOf x x (defArgs st) (defBody st) (defScope st) .none kV dc pm an cd ct), sl⟩) (c : PySem.W.codeIn K cd x = true) (k : PySem.W.keepIn K (.ref f) = true)
    (hb : ∀ (kV doc pm : Value) (an : Option Addr) (cdv ct : Value) (us : List Value), us.length = ps.length → bindArgs (PySem.W.fnOf x x (defArgs st) (defBody st) (defScope st) .none kV doc pm an cdv ct) ⟨us, []⟩ = pure (ps.zip us)) : Got K mg x st ps := by
  have F := fun_mk (st := st) l c k
  exact ⟨f, _, F, PySem.W.mg_of X G a, F.binds hb⟩
theorem all_mk {l : PySem.W.OpenLaw} {w : World} {K : PySem.W.Frag} {h : Heap} {mg : Str → Option Value} {fa : Addr} (X : K.In h) (G : h.Ns mainGlobals mg) (hfa : mg "law" = some (.ref fa))
  {f0 f1 f2 f3 f4 f5 f6 f7 f8 f9 f10 f11 f12 f13 f14 f15 f16 f17 f18 f19 f20 f21 f22 f23 f24 f25 f26 f27 f28 : Addr}
  {od0 an0 od1 an1 od2 an2 od3 an3 od4 an4 od5 an5 od6 an6 od7 an7 od8 an8 od9 an9 od10 an10 od11 an11 od12 an12 od13 an13 od14 an14 od15 an15 od16 an16 od17 an17 od18 an18 od19 an19 od20 an20 od21 an21 od22 an22 od23 an23 od24 an24 od25 an25 od26 an26 od27 an27 od28 an28 : Option Addr} {sl0 sl1 sl2 sl3 sl4 sl5 sl6 sl7 sl8 sl9 sl10 sl11 sl12 sl13 sl14 sl15 sl16 sl17 sl18 sl19 sl20 sl21 sl22 sl23 sl24 sl25 sl26 sl27 sl28 : Array (Option Value)}
  {oc0 kV0 dc0 pm0 cd0 ct0 oc1 kV1 dc1 pm1 cd1 ct1 oc2 kV2 dc2 pm2 cd2 ct2 oc3 kV3 dc3 pm3 cd3 ct3 oc4 kV4 dc4 pm4 cd4 ct4 oc5 kV5 dc5 pm5 cd5 ct5 oc6 kV6 dc6 pm6 cd6 ct6 oc7 kV7 dc7 pm7 cd7 ct7 oc8 kV8 dc8 pm8 cd8 ct8 oc9 kV9 dc9 pm9 cd9 ct9 oc10 kV10 dc10 pm10 cd10 ct10 oc11 kV11 dc11 pm11 cd11 ct11 oc12 kV12 dc12 pm12 cd12 ct12 oc13 kV13 dc13 pm13 cd13 ct13 oc14 kV14 dc14 pm14 cd14 ct14 oc15 kV15 dc15 pm15 cd15 ct15 oc16 kV16 dc16 pm16 cd16 ct16 oc17 kV17 dc17 pm17 cd17 ct17 oc18 kV18 dc18 pm18 cd18 ct18 oc19 kV19 dc19 pm19 cd19 ct19 oc20 kV20 dc20 pm20 cd20 ct20 oc21 kV21 dc21 pm21 cd21 ct21 oc22 kV22 dc22 pm22 cd22 ct22 oc23 kV23 dc23 pm23 cd23 ct23 oc24 kV24 dc24 pm24 cd24 ct24 oc25 kV25 dc25 pm25 cd25 ct25 oc26 kV26 dc26 pm26 cd26 ct26 oc27 kV27 dc27 pm27 cd27 ct27 oc28 kV28 dc28 pm28 cd28 ct28 : Value}
  {tk_MOST_NAMES : Tok}
  {d_BINDERS : Addr} {n_BINDERS : Nat} {od_BINDERS : Option Addr} {sl_BINDERS : Array (Option Value)} {tk_BINDERS_0 tk_BINDERS_1 : Tok}
  (a0 : PySem.W.nsIn K mainGlobals "parts_of" = some (some (.ref f0)))
  (l0 : K.lookup f0 = some ⟨oc0, od0, .func (PySem.W.fnOf "parts_of" "parts_of" (defArgs s_parts_of) (defBody s_parts_of) (defScope s_parts_of) .none kV0 dc0 pm0 an0 cd0 ct0), sl0⟩)
  (c0 : PySem.W.codeIn K cd0 "parts_of" = true) (k0 : PySem.W.keepIn K (.ref f0) = true)
  (a1 : PySem.W.nsIn K mainGlobals "with_parts" = some (some (.ref f1)))
  (l1 : K.lookup f1 = some ⟨oc1, od1, .func (PySem.W.fnOf "with_parts" "with_parts" (defArgs s_with_parts) (defBody s_with_parts) (defScope s_with_parts) .none kV1 dc1 pm1 an1 cd1 ct1), sl1⟩)
  (c1 : PySem.W.codeIn K cd1 "with_parts" = true) (k1 : PySem.W.keepIn K (.ref f1) = true)
  (a2 : PySem.W.nsIn K mainGlobals "with_name" = some (some (.ref f2)))
  (l2 : K.lookup f2 = some ⟨oc2, od2, .func (PySem.W.fnOf "with_name" "with_name" (defArgs s_with_name) (defBody s_with_name) (defScope s_with_name) .none kV2 dc2 pm2 an2 cd2 ct2), sl2⟩)
  (c2 : PySem.W.codeIn K cd2 "with_name" = true) (k2 : PySem.W.keepIn K (.ref f2) = true)
  (a3 : PySem.W.nsIn K mainGlobals "after_pairs" = some (some (.ref f3)))
  (l3 : K.lookup f3 = some ⟨oc3, od3, .func (PySem.W.fnOf "after_pairs" "after_pairs" (defArgs s_after_pairs) (defBody s_after_pairs) (defScope s_after_pairs) .none kV3 dc3 pm3 an3 cd3 ct3), sl3⟩)
  (c3 : PySem.W.codeIn K cd3 "after_pairs" = true) (k3 : PySem.W.keepIn K (.ref f3) = true)
  (a4 : PySem.W.nsIn K mainGlobals "found_pairs" = some (some (.ref f4)))
  (l4 : K.lookup f4 = some ⟨oc4, od4, .func (PySem.W.fnOf "found_pairs" "found_pairs" (defArgs s_found_pairs) (defBody s_found_pairs) (defScope s_found_pairs) .none kV4 dc4 pm4 an4 cd4 ct4), sl4⟩)
  (c4 : PySem.W.codeIn K cd4 "found_pairs" = true) (k4 : PySem.W.keepIn K (.ref f4) = true)
  (a5 : PySem.W.nsIn K mainGlobals "led_pairs" = some (some (.ref f5)))
  (l5 : K.lookup f5 = some ⟨oc5, od5, .func (PySem.W.fnOf "led_pairs" "led_pairs" (defArgs s_led_pairs) (defBody s_led_pairs) (defScope s_led_pairs) .none kV5 dc5 pm5 an5 cd5 ct5), sl5⟩)
  (c5 : PySem.W.codeIn K cd5 "led_pairs" = true) (k5 : PySem.W.keepIn K (.ref f5) = true)
  (a6 : PySem.W.nsIn K mainGlobals "raw_after" = some (some (.ref f6)))
  (l6 : K.lookup f6 = some ⟨oc6, od6, .func (PySem.W.fnOf "raw_after" "raw_after" (defArgs s_raw_after) (defBody s_raw_after) (defScope s_raw_after) .none kV6 dc6 pm6 an6 cd6 ct6), sl6⟩)
  (c6 : PySem.W.codeIn K cd6 "raw_after" = true) (k6 : PySem.W.keepIn K (.ref f6) = true)
  (a7 : PySem.W.nsIn K mainGlobals "named_anew" = some (some (.ref f7)))
  (l7 : K.lookup f7 = some ⟨oc7, od7, .func (PySem.W.fnOf "named_anew" "named_anew" (defArgs s_named_anew) (defBody s_named_anew) (defScope s_named_anew) .none kV7 dc7 pm7 an7 cd7 ct7), sl7⟩)
  (c7 : PySem.W.codeIn K cd7 "named_anew" = true) (k7 : PySem.W.keepIn K (.ref f7) = true)
  (a8 : PySem.W.nsIn K mainGlobals "free_in" = some (some (.ref f8)))
  (l8 : K.lookup f8 = some ⟨oc8, od8, .func (PySem.W.fnOf "free_in" "free_in" (defArgs s_free_in) (defBody s_free_in) (defScope s_free_in) .none kV8 dc8 pm8 an8 cd8 ct8), sl8⟩)
  (c8 : PySem.W.codeIn K cd8 "free_in" = true) (k8 : PySem.W.keepIn K (.ref f8) = true)
  (a9 : PySem.W.nsIn K mainGlobals "some_after" = some (some (.ref f9)))
  (l9 : K.lookup f9 = some ⟨oc9, od9, .func (PySem.W.fnOf "some_after" "some_after" (defArgs s_some_after) (defBody s_some_after) (defScope s_some_after) .none kV9 dc9 pm9 an9 cd9 ct9), sl9⟩)
  (c9 : PySem.W.codeIn K cd9 "some_after" = true) (k9 : PySem.W.keepIn K (.ref f9) = true)
  (a10 : PySem.W.nsIn K mainGlobals "leads" = some (some (.ref f10)))
  (l10 : K.lookup f10 = some ⟨oc10, od10, .func (PySem.W.fnOf "leads" "leads" (defArgs s_leads) (defBody s_leads) (defScope s_leads) .none kV10 dc10 pm10 an10 cd10 ct10), sl10⟩)
  (c10 : PySem.W.codeIn K cd10 "leads" = true) (k10 : PySem.W.keepIn K (.ref f10) = true)
  (a11 : PySem.W.nsIn K mainGlobals "found_places" = some (some (.ref f11)))
  (l11 : K.lookup f11 = some ⟨oc11, od11, .func (PySem.W.fnOf "found_places" "found_places" (defArgs s_found_places) (defBody s_found_places) (defScope s_found_places) .none kV11 dc11 pm11 an11 cd11 ct11), sl11⟩)
  (c11 : PySem.W.codeIn K cd11 "found_places" = true) (k11 : PySem.W.keepIn K (.ref f11) = true)
  (a12 : PySem.W.nsIn K mainGlobals "worth" = some (some (.ref f12)))
  (l12 : K.lookup f12 = some ⟨oc12, od12, .func (PySem.W.fnOf "worth" "worth" (defArgs s_worth) (defBody s_worth) (defScope s_worth) .none kV12 dc12 pm12 an12 cd12 ct12), sl12⟩)
  (c12 : PySem.W.codeIn K cd12 "worth" = true) (k12 : PySem.W.keepIn K (.ref f12) = true)
  (a13 : PySem.W.nsIn K mainGlobals "places_where" = some (some (.ref f13)))
  (l13 : K.lookup f13 = some ⟨oc13, od13, .func (PySem.W.fnOf "places_where" "places_where" (defArgs s_places_where) (defBody s_places_where) (defScope s_places_where) .none kV13 dc13 pm13 an13 cd13 ct13), sl13⟩)
  (c13 : PySem.W.codeIn K cd13 "places_where" = true) (k13 : PySem.W.keepIn K (.ref f13) = true)
  (a14 : PySem.W.nsIn K mainGlobals "beside" = some (some (.ref f14)))
  (l14 : K.lookup f14 = some ⟨oc14, od14, .func (PySem.W.fnOf "beside" "beside" (defArgs s_beside) (defBody s_beside) (defScope s_beside) .none kV14 dc14 pm14 an14 cd14 ct14), sl14⟩)
  (c14 : PySem.W.codeIn K cd14 "beside" = true) (k14 : PySem.W.keepIn K (.ref f14) = true)
  (a15 : PySem.W.nsIn K mainGlobals "marks_at" = some (some (.ref f15)))
  (l15 : K.lookup f15 = some ⟨oc15, od15, .func (PySem.W.fnOf "marks_at" "marks_at" (defArgs s_marks_at) (defBody s_marks_at) (defScope s_marks_at) .none kV15 dc15 pm15 an15 cd15 ct15), sl15⟩)
  (c15 : PySem.W.codeIn K cd15 "marks_at" = true) (k15 : PySem.W.keepIn K (.ref f15) = true)
  (a16 : PySem.W.nsIn K mainGlobals "rounds_of_classes" = some (some (.ref f16)))
  (l16 : K.lookup f16 = some ⟨oc16, od16, .func (PySem.W.fnOf "rounds_of_classes" "rounds_of_classes" (defArgs s_rounds_of_classes) (defBody s_rounds_of_classes) (defScope s_rounds_of_classes) .none kV16 dc16 pm16 an16 cd16 ct16), sl16⟩)
  (c16 : PySem.W.codeIn K cd16 "rounds_of_classes" = true) (k16 : PySem.W.keepIn K (.ref f16) = true)
  (a17 : PySem.W.nsIn K mainGlobals "alike_places" = some (some (.ref f17)))
  (l17 : K.lookup f17 = some ⟨oc17, od17, .func (PySem.W.fnOf "alike_places" "alike_places" (defArgs s_alike_places) (defBody s_alike_places) (defScope s_alike_places) .none kV17 dc17 pm17 an17 cd17 ct17), sl17⟩)
  (c17 : PySem.W.codeIn K cd17 "alike_places" = true) (k17 : PySem.W.keepIn K (.ref f17) = true)
  (a18 : PySem.W.nsIn K mainGlobals "folded_world" = some (some (.ref f18)))
  (l18 : K.lookup f18 = some ⟨oc18, od18, .func (PySem.W.fnOf "folded_world" "folded_world" (defArgs s_folded_world) (defBody s_folded_world) (defScope s_folded_world) .none kV18 dc18 pm18 an18 cd18 ct18), sl18⟩)
  (c18 : PySem.W.codeIn K cd18 "folded_world" = true) (k18 : PySem.W.keepIn K (.ref f18) = true)
  (a19 : PySem.W.nsIn K mainGlobals "_law_same" = some (some (.ref f19)))
  (l19 : K.lookup f19 = some ⟨oc19, od19, .func (PySem.W.fnOf "_law_same" "_law_same" (defArgs s__law_same) (defBody s__law_same) (defScope s__law_same) .none kV19 dc19 pm19 an19 cd19 ct19), sl19⟩)
  (c19 : PySem.W.codeIn K cd19 "_law_same" = true) (k19 : PySem.W.keepIn K (.ref f19) = true)
  (a20 : PySem.W.nsIn K mainGlobals "_law_pool" = some (some (.ref f20)))
  (l20 : K.lookup f20 = some ⟨oc20, od20, .func (PySem.W.fnOf "_law_pool" "_law_pool" (defArgs s__law_pool) (defBody s__law_pool) (defScope s__law_pool) .none kV20 dc20 pm20 an20 cd20 ct20), sl20⟩)
  (c20 : PySem.W.codeIn K cd20 "_law_pool" = true) (k20 : PySem.W.keepIn K (.ref f20) = true)
  (a21 : PySem.W.nsIn K mainGlobals "_law_spread" = some (some (.ref f21)))
  (l21 : K.lookup f21 = some ⟨oc21, od21, .func (PySem.W.fnOf "_law_spread" "_law_spread" (defArgs s__law_spread) (defBody s__law_spread) (defScope s__law_spread) .none kV21 dc21 pm21 an21 cd21 ct21), sl21⟩)
  (c21 : PySem.W.codeIn K cd21 "_law_spread" = true) (k21 : PySem.W.keepIn K (.ref f21) = true)
  (a22 : PySem.W.nsIn K mainGlobals "_law_draw" = some (some (.ref f22)))
  (l22 : K.lookup f22 = some ⟨oc22, od22, .func (PySem.W.fnOf "_law_draw" "_law_draw" (defArgs s__law_draw) (defBody s__law_draw) (defScope s__law_draw) .none kV22 dc22 pm22 an22 cd22 ct22), sl22⟩)
  (c22 : PySem.W.codeIn K cd22 "_law_draw" = true) (k22 : PySem.W.keepIn K (.ref f22) = true)
  (a23 : PySem.W.nsIn K mainGlobals "_law_pick" = some (some (.ref f23)))
  (l23 : K.lookup f23 = some ⟨oc23, od23, .func (PySem.W.fnOf "_law_pick" "_law_pick" (defArgs s__law_pick) (defBody s__law_pick) (defScope s__law_pick) .none kV23 dc23 pm23 an23 cd23 ct23), sl23⟩)
  (c23 : PySem.W.codeIn K cd23 "_law_pick" = true) (k23 : PySem.W.keepIn K (.ref f23) = true)
  (a24 : PySem.W.nsIn K mainGlobals "_law_saying" = some (some (.ref f24)))
  (l24 : K.lookup f24 = some ⟨oc24, od24, .func (PySem.W.fnOf "_law_saying" "_law_saying" (defArgs s__law_saying) (defBody s__law_saying) (defScope s__law_saying) .none kV24 dc24 pm24 an24 cd24 ct24), sl24⟩)
  (c24 : PySem.W.codeIn K cd24 "_law_saying" = true) (k24 : PySem.W.keepIn K (.ref f24) = true)
  (a25 : PySem.W.nsIn K mainGlobals "_law_drawn" = some (some (.ref f25)))
  (l25 : K.lookup f25 = some ⟨oc25, od25, .func (PySem.W.fnOf "_law_drawn" "_law_drawn" (defArgs s__law_drawn) (defBody s__law_drawn) (defScope s__law_drawn) .none kV25 dc25 pm25 an25 cd25 ct25), sl25⟩)
  (c25 : PySem.W.codeIn K cd25 "_law_drawn" = true) (k25 : PySem.W.keepIn K (.ref f25) = true)
  (a26 : PySem.W.nsIn K mainGlobals "_law_world" = some (some (.ref f26)))
  (l26 : K.lookup f26 = some ⟨oc26, od26, .func (PySem.W.fnOf "_law_world" "_law_world" (defArgs s__law_world) (defBody s__law_world) (defScope s__law_world) .none kV26 dc26 pm26 an26 cd26 ct26), sl26⟩)
  (c26 : PySem.W.codeIn K cd26 "_law_world" = true) (k26 : PySem.W.keepIn K (.ref f26) = true)
  (a27 : PySem.W.nsIn K mainGlobals "_law_term" = some (some (.ref f27)))
  (l27 : K.lookup f27 = some ⟨oc27, od27, .func (PySem.W.fnOf "_law_term" "_law_term" (defArgs s__law_term) (defBody s__law_term) (defScope s__law_term) .none kV27 dc27 pm27 an27 cd27 ct27), sl27⟩)
  (c27 : PySem.W.codeIn K cd27 "_law_term" = true) (k27 : PySem.W.keepIn K (.ref f27) = true)
  (a28 : PySem.W.nsIn K mainGlobals "law" = some (some (.ref f28)))
  (l28 : K.lookup f28 = some ⟨oc28, od28, .func (PySem.W.fnOf "law" "law" (defArgs s_law) (defBody s_law) (defScope s_law) .none kV28 dc28 pm28 an28 cd28 ct28), sl28⟩)
  (c28 : PySem.W.codeIn K cd28 "law" = true) (k28 : PySem.W.keepIn K (.ref f28) = true)
  (z_all : PySem.W.nsIn K mainGlobals "all" = some none)
  (z_any : PySem.W.nsIn K mainGlobals "any" = some none)
  (z_bool : PySem.W.nsIn K mainGlobals "bool" = some none)
  (z_dict : PySem.W.nsIn K mainGlobals "dict" = some none)
  (z_int : PySem.W.nsIn K mainGlobals "int" = some none)
  (z_isinstance : PySem.W.nsIn K mainGlobals "isinstance" = some none)
  (z_len : PySem.W.nsIn K mainGlobals "len" = some none)
  (z_list : PySem.W.nsIn K mainGlobals "list" = some none)
  (z_range : PySem.W.nsIn K mainGlobals "range" = some none)
  (z_set : PySem.W.nsIn K mainGlobals "set" = some none)
  (z_sorted : PySem.W.nsIn K mainGlobals "sorted" = some none)
  (z_str : PySem.W.nsIn K mainGlobals "str" = some none)
  (z_tuple : PySem.W.nsIn K mainGlobals "tuple" = some none)
  (z_zip : PySem.W.nsIn K mainGlobals "zip" = some none)
  (q_MOST_NAMES : PySem.W.nsIn K mainGlobals "MOST_NAMES" = some (some (.int 20 tk_MOST_NAMES)))
  (q_BINDERS : PySem.W.nsIn K mainGlobals "BINDERS" = some (some (.ref d_BINDERS)))
  (l_BINDERS : K.lookup d_BINDERS = some ⟨.type "tuple", od_BINDERS, .seq #[.str "least" tk_BINDERS_0, .str "greatest" tk_BINDERS_1] n_BINDERS, sl_BINDERS⟩) :
    ∃ fd : FuncData, (∀ (s : Shared) (v : Value), BindsTo s fd ⟨[v], []⟩ [("script", v)]) ∧ ∀ base : Heap, K.In base → base.Ns mainGlobals mg → FnOk l.prog w K mg base CX0 28 fa fd ["script"] (spD ⟨K, w⟩ F_law) := by
  have e := hfa.symm.trans (PySem.W.mg_of X G a28)
  cases e
  have T : Txt K w mg := ⟨PySem.W.mg_none_of X G z_all, PySem.W.mg_none_of X G z_any, PySem.W.mg_none_of X G z_bool, PySem.W.mg_none_of X G z_dict, PySem.W.mg_none_of X G z_int, PySem.W.mg_none_of X G z_isinstance, PySem.W.mg_none_of X G z_len, PySem.W.mg_none_of X G z_list, PySem.W.mg_none_of X G z_range, PySem.W.mg_none_of X G z_set, PySem.W.mg_none_of X G z_sorted, PySem.W.mg_none_of X G z_str, PySem.W.mg_none_of X G z_tuple, PySem.W.mg_none_of X G z_zip, ⟨_, PySem.W.mg_of X G q_MOST_NAMES⟩, ⟨_, PySem.W.mg_of X G q_BINDERS, ⟨_, _, _, l_BINDERS, rfl, rfl, .cons ⟨_, rfl⟩ (.cons ⟨_, rfl⟩ (.nil))⟩⟩⟩
  have g_parts_of : Got K mg "parts_of" s_parts_of ["saying"] := got_mk X G a0 l0 c0 k0 fun _ _ _ _ _ _ us hl => match us, hl with | [_], _ => rfl
  have g_with_parts : Got K mg "with_parts" s_with_parts ["saying", "parts"] := got_mk X G a1 l1 c1 k1 fun _ _ _ _ _ _ us hl => match us, hl with | [_, _], _ => rfl
  have g_with_name : Got K mg "with_name" s_with_name ["names", "x", "y"] := got_mk X G a2 l2 c2 k2 fun _ _ _ _ _ _ us hl => match us, hl with | [_, _, _], _ => rfl
  have g_after_pairs : Got K mg "after_pairs" s_after_pairs ["one", "two"] := got_mk X G a3 l3 c3 k3 fun _ _ _ _ _ _ us hl => match us, hl with | [_, _], _ => rfl
  have g_found_pairs : Got K mg "found_pairs" s_found_pairs ["world", "term"] := got_mk X G a4 l4 c4 k4 fun _ _ _ _ _ _ us hl => match us, hl with | [_, _], _ => rfl
  have g_led_pairs : Got K mg "led_pairs" s_led_pairs ["world", "term"] := got_mk X G a5 l5 c5 k5 fun _ _ _ _ _ _ us hl => match us, hl with | [_, _], _ => rfl
  have g_raw_after : Got K mg "raw_after" s_raw_after ["term", "f", "fresh"] := got_mk X G a6 l6 c6 k6 fun _ _ _ _ _ _ us hl => match us, hl with | [_, _, _], _ => rfl
  have g_named_anew : Got K mg "named_anew" s_named_anew ["saying", "names", "left"] := got_mk X G a7 l7 c7 k7 fun _ _ _ _ _ _ us hl => match us, hl with | [_, _, _], _ => rfl
  have g_free_in : Got K mg "free_in" s_free_in ["saying", "bound"] := got_mk X G a8 l8 c8 k8 fun _ _ _ _ _ _ us hl => match us, hl with | [_, _], _ => rfl
  have g_some_after : Got K mg "some_after" s_some_after ["term", "f"] := got_mk X G a9 l9 c9 k9 fun _ _ _ _ _ _ us hl => match us, hl with | [_, _], _ => rfl
  have g_leads : Got K mg "leads" s_leads ["goals", "inner", "some"] := got_mk X G a10 l10 c10 k10 fun _ _ _ _ _ _ us hl => match us, hl with | [_, _, _], _ => rfl
  have g_found_places : Got K mg "found_places" s_found_places ["world", "saying", "places"] := got_mk X G a11 l11 c11 k11 fun _ _ _ _ _ _ us hl => match us, hl with | [_, _, _], _ => rfl
  have g_worth : Got K mg "worth" s_worth ["world", "saying", "places"] := got_mk X G a12 l12 c12 k12 fun _ _ _ _ _ _ us hl => match us, hl with | [_, _, _], _ => rfl
  have g_places_where : Got K mg "places_where" s_places_where ["world", "saying"] := got_mk X G a13 l13 c13 k13 fun _ _ _ _ _ _ us hl => match us, hl with | [_, _], _ => rfl
  have g_beside : Got K mg "beside" s_beside ["one", "two"] := got_mk X G a14 l14 c14 k14 fun _ _ _ _ _ _ us hl => match us, hl with | [_, _], _ => rfl
  have g_marks_at : Got K mg "marks_at" s_marks_at ["world", "place"] := got_mk X G a15 l15 c15 k15 fun _ _ _ _ _ _ us hl => match us, hl with | [_, _], _ => rfl
  have g_rounds_of_classes : Got K mg "rounds_of_classes" s_rounds_of_classes ["world"] := got_mk X G a16 l16 c16 k16 fun _ _ _ _ _ _ us hl => match us, hl with | [_], _ => rfl
  have g_alike_places : Got K mg "alike_places" s_alike_places ["world"] := got_mk X G a17 l17 c17 k17 fun _ _ _ _ _ _ us hl => match us, hl with | [_], _ => rfl
  have g_folded_world : Got K mg "folded_world" s_folded_world ["world"] := got_mk X G a18 l18 c18 k18 fun _ _ _ _ _ _ us hl => match us, hl with | [_], _ => rfl
  have g__law_same : Got K mg "_law_same" s__law_same ["actual", "due"] := got_mk X G a19 l19 c19 k19 fun _ _ _ _ _ _ us hl => match us, hl with | [_, _], _ => rfl
  have g__law_pool : Got K mg "_law_pool" s__law_pool ["script"] := got_mk X G a20 l20 c20 k20 fun _ _ _ _ _ _ us hl => match us, hl with | [_], _ => rfl
  have g__law_spread : Got K mg "_law_spread" s__law_spread ["cell"] := got_mk X G a21 l21 c21 k21 fun _ _ _ _ _ _ us hl => match us, hl with | [_], _ => rfl
  have g__law_draw : Got K mg "_law_draw" s__law_draw ["pool", "many"] := got_mk X G a22 l22 c22 k22 fun _ _ _ _ _ _ us hl => match us, hl with | [_, _], _ => rfl
  have g__law_pick : Got K mg "_law_pick" s__law_pick ["pool", "items"] := got_mk X G a23 l23 c23 k23 fun _ _ _ _ _ _ us hl => match us, hl with | [_, _], _ => rfl
  have g__law_saying : Got K mg "_law_saying" s__law_saying ["pool", "land", "deep", "state", "known", "free"] := got_mk X G a24 l24 c24 k24 fun _ _ _ _ _ _ us hl => match us, hl with | [_, _, _, _, _, _], _ => rfl
  have g__law_drawn : Got K mg "_law_drawn" s__law_drawn ["pool", "land", "deep"] := got_mk X G a25 l25 c25 k25 fun _ _ _ _ _ _ us hl => match us, hl with | [_, _, _], _ => rfl
  have g__law_world : Got K mg "_law_world" s__law_world ["pool", "land", "most"] := got_mk X G a26 l26 c26 k26 fun _ _ _ _ _ _ us hl => match us, hl with | [_, _, _], _ => rfl
  have g__law_term : Got K mg "_law_term" s__law_term ["pool", "land", "deep"] := got_mk X G a27 l27 c27 k27 fun _ _ _ _ _ _ us hl => match us, hl with | [_, _, _], _ => rfl
  have g_law : Got K mg "law" s_law ["script"] := got_mk X G a28 l28 c28 k28 fun _ _ _ _ _ _ us hl => match us, hl with | [_], _ => rfl
  have F28 := fun_mk (st := s_law) l28 c28 k28
  refine ⟨PySem.W.fnOf "law" "law" (defArgs s_law) (defBody s_law) (defScope s_law) .none kV28 dc28 pm28 an28 cd28 ct28, fun s v => .of_eq rfl, fun base _ _ => ?_⟩
  have h__law_same := ok__law_same (P := l.prog) (w := w) (base := base) T  g__law_same  4
  have h_leads := ok_leads (P := l.prog) (w := w) (base := base) T  g_leads 
  have h_found_places := ok_found_places (P := l.prog) (w := w) (base := base) T  g_found_places h_leads 24
  have h_worth := ok_worth (P := l.prog) (w := w) (base := base) T  g_worth h_found_places
  have h_places_where := ok_places_where (P := l.prog) (w := w) (base := base) T  g_places_where h_worth
  have h_after_pairs := ok_after_pairs (P := l.prog) (w := w) (base := base) T  g_after_pairs 
  have h_found_pairs := ok_found_pairs (P := l.prog) (w := w) (base := base) T  g_found_pairs h_after_pairs 12
  have h_led_pairs := ok_led_pairs (P := l.prog) (w := w) (base := base) T  g_led_pairs h_found_pairs
  have h_with_parts := ok_with_parts (P := l.prog) (w := w) (base := base) T  g_with_parts 
  have h_parts_of := ok_parts_of (P := l.prog) (w := w) (base := base) T  g_parts_of 
  have h_with_name := ok_with_name (P := l.prog) (w := w) (base := base) T  g_with_name 
  have h_named_anew := ok_named_anew (P := l.prog) (w := w) (base := base) T  g_named_anew h_with_parts h_parts_of h_with_name 24
  have h_free_in := ok_free_in (P := l.prog) (w := w) (base := base) T  g_free_in h_parts_of 12
  have h_raw_after := ok_raw_after (P := l.prog) (w := w) (base := base) T  g_raw_after  12
  have h_some_after := ok_some_after (P := l.prog) (w := w) (base := base) T  g_some_after h_named_anew h_free_in h_raw_after
  have h__law_spread := ok__law_spread (P := l.prog) (w := w) (base := base) T  g__law_spread 
  have h__law_draw := ok__law_draw (P := l.prog) (w := w) (base := base) T  g__law_draw h__law_spread
  have h__law_pick := ok__law_pick (P := l.prog) (w := w) (base := base) T  g__law_pick h__law_draw
  have h__law_saying := ok__law_saying (P := l.prog) (w := w) (base := base) T  g__law_saying h__law_draw h__law_pick 8
  have h__law_drawn := ok__law_drawn (P := l.prog) (w := w) (base := base) T  g__law_drawn h__law_saying h__law_draw
  have h_marks_at := ok_marks_at (P := l.prog) (w := w) (base := base) T  g_marks_at 
  have h_rounds_of_classes := ok_rounds_of_classes (P := l.prog) (w := w) (base := base) T  g_rounds_of_classes h_marks_at
  have h_alike_places := ok_alike_places (P := l.prog) (w := w) (base := base) T  g_alike_places h_rounds_of_classes
  have h_folded_world := ok_folded_world (P := l.prog) (w := w) (base := base) T  g_folded_world h_alike_places
  have h_beside := ok_beside (P := l.prog) (w := w) (base := base) T  g_beside 
  have h__law_world := ok__law_world (P := l.prog) (w := w) (base := base) T  g__law_world h__law_draw
  have h__law_term := ok__law_term (P := l.prog) (w := w) (base := base) T  g__law_term h__law_draw 12
  have h__law_pool := ok__law_pool (P := l.prog) (w := w) (base := base) T  g__law_pool 
  exact ok_law_fn (P := l.prog) (w := w) (base := base) T  F28 h__law_same h_places_where h_led_pairs h_some_after h__law_drawn h_folded_world h_alike_places h_beside h__law_world h__law_term h__law_draw h__law_pool
theorem only_frz {K : KW} {H : Hp} {a : Addr} {xs : List V} (hO : Only H) (h : SqL K H a xs) : FzL K H a xs := by
  rcases h with (h | ⟨o, h⟩) | h
  · rcases hO a with e | ⟨o, ys, e⟩ <;> rw [h] at e <;> cases e
  · exact .inl ⟨o, h⟩
  · exact .inr fun H' => .inr h
theorem walk {l : PySem.W.OpenLaw} {q : Program} {loose : List Str} {XP : (Str → Option Value) → Heap → Prop} {YP : World → Heap → Prop} {d : DefRec} {K : Params → PySem.W.Frag} (hn : l.most = some 63) (hdf : d.params.defaults = [])
    (hY : ∀ (w : World) (h : Heap), YP w h → (K w.params).In h)
    (F : ∀ (w : World) (mg : Str → Option Value) (fa : Addr) (h : Heap), (K w.params).In h → h.Ns mainGlobals mg → mg d.name = some (.ref fa) →
      ∃ fd : FuncData, (∀ (s : Shared) (u : Value), BindsTo s fd ⟨[u], []⟩ [("script", u)]) ∧ ∀ base : Heap, (K w.params).In base → base.Ns mainGlobals mg → FnOk l.prog w (K w.params) mg base CX0 28 fa fd ["script"] (spD ⟨K w.params, w⟩ F_law)) :
    PySem.W.WalkO q loose XP YP l.row.toRowW d [] (fun f vs => PySem.call f vs) :=
  L2.walk_of (n := 63) (k := 28) (x := "script") (CX := fun _ => CX0) (sp := fun w => spD ⟨K w.params, w⟩ F_law) hn (by decide) hdf ⟨rfl, by decide, by decide⟩ hY F (fun w H a ns hl hO hS => by
    refine ⟨[], [.frz (ns.map D.int)], [], fun d _ => d = .bl true, ⟨rfl, .nil, fun i p c h => by simp at h⟩, .cons (.frz (only_frz hO hS) (by rw [List.length_map, sizeLine_eq]; omega) (RDs.of_ints ns)) .nil, main ns hl, fun d S' m' v H' e g s r => ?_⟩
    subst e; cases r; rfl) fun _ _ _ _ _ z => z
end K35
open PySem PySem.W PyProof.Rows in
set_option maxRecDepth 100000 in
set_option maxHeartbeats 0 in
theorem PySem.Challenge.cw_sayingsdown_k35_whole_terms_in_worlds_holds : PySem.Challenge.rw_sayingsdown_k35_whole_terms_in_worlds.Holds := by
  w_on; o_law; k_head; (case hw => w_witness2)
  k_fill
  refine K35.walk (l := PySem.Challenge.rw_sayingsdown_k35_whole_terms_in_worlds) rfl rfl (fun w h Y => PySem.W.kIn_of Y) ?F
  case F =>
    intro w mg fa h KX G hmg
    refine' K35.all_mk KX G hmg ?a0 ?l0 ?c0 ?k0 ?a1 ?l1 ?c1 ?k1 ?a2 ?l2 ?c2 ?k2 ?a3 ?l3 ?c3 ?k3 ?a4 ?l4 ?c4 ?k4 ?a5 ?l5 ?c5 ?k5 ?a6 ?l6 ?c6 ?k6 ?a7 ?l7 ?c7 ?k7 ?a8 ?l8 ?c8 ?k8 ?a9 ?l9 ?c9 ?k9 ?a10 ?l10 ?c10 ?k10 ?a11 ?l11 ?c11 ?k11 ?a12 ?l12 ?c12 ?k12 ?a13 ?l13 ?c13 ?k13 ?a14 ?l14 ?c14 ?k14 ?a15 ?l15 ?c15 ?k15 ?a16 ?l16 ?c16 ?k16 ?a17 ?l17 ?c17 ?k17 ?a18 ?l18 ?c18 ?k18 ?a19 ?l19 ?c19 ?k19 ?a20 ?l20 ?c20 ?k20 ?a21 ?l21 ?c21 ?k21 ?a22 ?l22 ?c22 ?k22 ?a23 ?l23 ?c23 ?k23 ?a24 ?l24 ?c24 ?k24 ?a25 ?l25 ?c25 ?k25 ?a26 ?l26 ?c26 ?k26 ?a27 ?l27 ?c27 ?k27 ?a28 ?l28 ?c28 ?k28 ?z_all ?z_any ?z_bool ?z_dict ?z_int ?z_isinstance ?z_len ?z_list ?z_range ?z_set ?z_sorted ?z_str ?z_tuple ?z_zip ?q_MOST_NAMES ?q_BINDERS ?l_BINDERS
    (case a0 => k_is)
    (case l0 => k_is)
    (case c0 => k_is)
    (case k0 => k_is)
    (case a1 => k_is)
    (case l1 => k_is)
    (case c1 => k_is)
    (case k1 => k_is)
    (case a2 => k_is)
    (case l2 => k_is)
    (case c2 => k_is)
    (case k2 => k_is)
    (case a3 => k_is)
    (case l3 => k_is)
    (case c3 => k_is)
    (case k3 => k_is)
    (case a4 => k_is)
    (case l4 => k_is)
    (case c4 => k_is)
    (case k4 => k_is)
    (case a5 => k_is)
    (case l5 => k_is)
    (case c5 => k_is)
    (case k5 => k_is)
    (case a6 => k_is)
    (case l6 => k_is)
    (case c6 => k_is)
    (case k6 => k_is)
    (case a7 => k_is)
    (case l7 => k_is)
    (case c7 => k_is)
    (case k7 => k_is)
    (case a8 => k_is)
    (case l8 => k_is)
    (case c8 => k_is)
    (case k8 => k_is)
    (case a9 => k_is)
    (case l9 => k_is)
    (case c9 => k_is)
    (case k9 => k_is)
    (case a10 => k_is)
    (case l10 => k_is)
    (case c10 => k_is)
    (case k10 => k_is)
    (case a11 => k_is)
    (case l11 => k_is)
    (case c11 => k_is)
    (case k11 => k_is)
    (case a12 => k_is)
    (case l12 => k_is)
    (case c12 => k_is)
    (case k12 => k_is)
    (case a13 => k_is)
    (case l13 => k_is)
    (case c13 => k_is)
    (case k13 => k_is)
    (case a14 => k_is)
    (case l14 => k_is)
    (case c14 => k_is)
    (case k14 => k_is)
    (case a15 => k_is)
    (case l15 => k_is)
    (case c15 => k_is)
    (case k15 => k_is)
    (case a16 => k_is)
    (case l16 => k_is)
    (case c16 => k_is)
    (case k16 => k_is)
    (case a17 => k_is)
    (case l17 => k_is)
    (case c17 => k_is)
    (case k17 => k_is)
    (case a18 => k_is)
    (case l18 => k_is)
    (case c18 => k_is)
    (case k18 => k_is)
    (case a19 => k_is)
    (case l19 => k_is)
    (case c19 => k_is)
    (case k19 => k_is)
    (case a20 => k_is)
    (case l20 => k_is)
    (case c20 => k_is)
    (case k20 => k_is)
    (case a21 => k_is)
    (case l21 => k_is)
    (case c21 => k_is)
    (case k21 => k_is)
    (case a22 => k_is)
    (case l22 => k_is)
    (case c22 => k_is)
    (case k22 => k_is)
    (case a23 => k_is)
    (case l23 => k_is)
    (case c23 => k_is)
    (case k23 => k_is)
    (case a24 => k_is)
    (case l24 => k_is)
    (case c24 => k_is)
    (case k24 => k_is)
    (case a25 => k_is)
    (case l25 => k_is)
    (case c25 => k_is)
    (case k25 => k_is)
    (case a26 => k_is)
    (case l26 => k_is)
    (case c26 => k_is)
    (case k26 => k_is)
    (case a27 => k_is)
    (case l27 => k_is)
    (case c27 => k_is)
    (case k27 => k_is)
    (case a28 => k_is)
    (case l28 => k_is)
    (case c28 => k_is)
    (case k28 => k_is)
    (case z_all => k_is)
    (case z_any => k_is)
    (case z_bool => k_is)
    (case z_dict => k_is)
    (case z_int => k_is)
    (case z_isinstance => k_is)
    (case z_len => k_is)
    (case z_list => k_is)
    (case z_range => k_is)
    (case z_set => k_is)
    (case z_sorted => k_is)
    (case z_str => k_is)
    (case z_tuple => k_is)
    (case z_zip => k_is)
    (case q_MOST_NAMES => k_is)
    (case q_BINDERS => k_is)
    (case l_BINDERS => k_is)
