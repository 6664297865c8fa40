import PyProof.Rows.All
import Wide.All
import OpenK.AllK
import Wide.FinOn
import HandS.ForMost
import HandS.Flow
import HandS.Conv
import HandS.DictComp
import HandS.TupAny
import HandS.IsInst
import HandS.SortInts
import HandS.SetFor
import HandS.Strs
import KE.KeyNested
import KE.KDictWalk
import HandS.HeadHook3
import HandS.Style
import HandS.Deep
import HandS.NoneIn
import PyProof.Rows.TupTab
import PyProof.DictMoreH
import KE.KDictKeyed
import HandS.TupLen
import KE.KDictCopyH
import HandS.TupSets
import KE.SortData
import HandS.Zip
import KE.LtSeq
import KE.KDictSum
import PySem.Challenge.RW_sayingsdown_k29_whole_games_turned_about
set_option Elab.async false
set_option linter.all false
set_option maxRecDepth 100000
/-! SD1: values as trees, objects in a store; what stands for what. -/
namespace SD
open PySem PySem.Spec PyProof.Rows L2

/-- the written part that stays, and the world -/
structure KW where
  F : PySem.W.Frag
  w : World
instance : Coe KW PySem.W.Frag := ⟨KW.F⟩
abbrev kW (X : Cx) : KW := ⟨X.K, X.w⟩
/-- values: tuples are trees, what can change is a number of the store -/
inductive D where
  | non | bl (b : Bool) | int (i : Int) | str (s : Str) | tup (xs : List D) | frz (xs : List D) | ref (n : Nat)

mutual
def D.beq : D → D → Bool
  | .non, .non => true
  | .bl a, .bl b => a == b
  | .int a, .int b => a == b
  | .str a, .str b => decide (a = b)
  | .tup a, .tup b => D.beqs a b
  | .frz a, .frz b => D.beqs a b
  | .ref a, .ref b => a == b
  | _, _ => false
def D.beqs : List D → List D → Bool
  | [], [] => true
  | a :: as, b :: bs => D.beq a b && D.beqs as bs
  | _, _ => false
end
mutual
theorem D.beq_self : ∀ a : D, D.beq a a = true
  | .non => rfl
  | .bl a => by simp [D.beq]
  | .int a => by simp [D.beq]
  | .str a => by simp [D.beq]
  | .tup a => by rw [D.beq]; exact D.beqs_self a
  | .frz a => by rw [D.beq]; exact D.beqs_self a
  | .ref a => by simp [D.beq]
theorem D.beqs_self : ∀ a : List D, D.beqs a a = true
  | [] => rfl
  | a :: as => by rw [D.beqs, D.beq_self a, D.beqs_self as]; rfl
end
mutual
theorem D.eq_of_beq : ∀ a b : D, D.beq a b = true → a = b
  | .non, b, h => by cases b <;> first | rfl | (simp [D.beq] at h)
  | .bl a, b, h => by cases b <;> first | (simp [D.beq] at h; done) | (simp only [D.beq, beq_iff_eq] at h; rw [h])
  | .int a, b, h => by cases b <;> first | (simp [D.beq] at h; done) | (simp only [D.beq, beq_iff_eq] at h; rw [h])
  | .str a, b, h => by cases b <;> first | (simp [D.beq] at h; done) | (simp only [D.beq, decide_eq_true_eq] at h; rw [h])
  | .ref a, b, h => by cases b <;> first | (simp [D.beq] at h; done) | (simp only [D.beq, beq_iff_eq] at h; rw [h])
  | .tup a, b, h => by
    cases b <;> first | (simp [D.beq] at h; done) | skip
    rename_i b
    simp only [D.beq] at h
    rw [D.eqs_of_beqs a b h]
  | .frz a, b, h => by
    cases b <;> first | (simp [D.beq] at h; done) | skip
    rename_i b
    simp only [D.beq] at h
    rw [D.eqs_of_beqs a b h]
theorem D.eqs_of_beqs : ∀ a b : List D, D.beqs a b = true → a = b
  | [], b, h => by cases b <;> first | rfl | (simp [D.beqs] at h)
  | a :: as, b, h => by
    cases b with
    | nil => simp [D.beqs] at h
    | cons b bs =>
      simp only [D.beqs, Bool.and_eq_true] at h
      rw [D.eq_of_beq a b h.1, D.eqs_of_beqs as bs h.2]
end
instance : DecidableEq D := fun a b => if h : D.beq a b = true then .isTrue (D.eq_of_beq a b h) else .isFalse fun e => h (by rw [e]; exact D.beq_self b)

/-- a list; a dict by ints and texts; one that is walked; a dict by tuples; one that is walked -/
inductive Cell where
  | lst (xs : List D) | dct (kvs : List (D × D)) | lck (kvs : List (D × D)) | tdc (kvs : List (D × D)) | tlk (kvs : List (D × D))
def Cell.mut : Cell → Bool
  | .lst _ | .dct _ | .tdc _ => true
  | _ => false
abbrev Slots := List (Option D)
abbrev Store := List Cell
def keyD : Key → D
  | .inl i => .int i
  | .inr s => .str s
theorem keyD_inj {a b : Key} (h : keyD a = keyD b) : a = b := by
  cases a <;> cases b <;> simp_all [keyD]

/-- a list that is never written: the script, a list of the written part -/
def FzL (K : KW) (H : Hp) (a : Addr) (xs : List V) : Prop :=
  (∃ o, H a = some (.frz o (.lst xs))) ∨ ((∀ H' : Hp, SqL K H' a xs))
theorem FzL.sq {K : KW} {H : Hp} {a : Addr} {xs : List V} (h : FzL K H a xs) : SqL K H a xs := by
  rcases h with ⟨o, h⟩ | h
  · exact .inl (.inr ⟨o, h⟩)
  · exact h H

mutual
inductive RD (K : KW) (m : List Addr) (H : Hp) : D → V → Prop
  | non : RD K m H .non .non
  | bl (b : Bool) : RD K m H (.bl b) (.bl b)
  | int (i : Int) : RD K m H (.int i) (.int i)
  | str (x : Str) : RD K m H (.str x) (.str x)
  | tup {p : Addr} {xs : List D} {vs : List V} : SqT K H p vs → vs.length ≤ sizeLine → RDs K m H xs vs → RD K m H (.tup xs) (.ref p)
  | frz {p : Addr} {xs : List D} {vs : List V} : FzL K H p vs → vs.length ≤ sizeLine → RDs K m H xs vs → RD K m H (.frz xs) (.ref p)
  | ref {n : Nat} {p : Addr} : m[n]? = some p → RD K m H (.ref n) (.ref p)
inductive RDs (K : KW) (m : List Addr) (H : Hp) : List D → List V → Prop
  | nil : RDs K m H [] []
  | cons {d : D} {v : V} {ds : List D} {vs : List V} : RD K m H d v → RDs K m H ds vs → RDs K m H (d :: ds) (v :: vs)
end

/-- from one state to a later one -/
structure Grow (m : List Addr) (H : Hp) (m' : List Addr) (H' : Hp) : Prop where
  pre : m <+: m'
  tups : ∀ a xs, H a = some (.tup xs) → H' a = some (.tup xs)
  frzs : ∀ a o u, H a = some (.frz o u) → H' a = some (.frz o u)
theorem Grow.refl (m : List Addr) (H : Hp) : Grow m H m H := ⟨List.prefix_refl m, fun _ _ h => h, fun _ _ _ h => h⟩
theorem Grow.trans {m1 m2 m3 : List Addr} {H1 H2 H3 : Hp} (a : Grow m1 H1 m2 H2) (b : Grow m2 H2 m3 H3) : Grow m1 H1 m3 H3 :=
  ⟨a.pre.trans b.pre, fun c xs h => b.tups c xs (a.tups c xs h), fun c o u h => b.frzs c o u (a.frzs c o u h)⟩
theorem Grow.sqT {K : KW} {m m' : List Addr} {H H' : Hp} (g : Grow m H m' H') {a : Addr} {xs : List V} (h : SqT K H a xs) : SqT K H' a xs := by
  rcases h with (h | ⟨o, h⟩) | h
  · exact .inl (.inl (g.tups _ _ h))
  · exact .inl (.inr ⟨o, g.frzs _ _ _ h⟩)
  · exact .inr h
theorem Grow.fzL {K : KW} {m m' : List Addr} {H H' : Hp} (g : Grow m H m' H') {a : Addr} {xs : List V} (h : FzL K H a xs) : FzL K H' a xs := by
  rcases h with ⟨o, h⟩ | h
  · exact .inl ⟨o, g.frzs _ _ _ h⟩
  · exact .inr h
theorem Grow.at {m m' : List Addr} {H H' : Hp} (g : Grow m H m' H') {n : Nat} {p : Addr} (h : m[n]? = some p) : m'[n]? = some p := by
  obtain ⟨t, rfl⟩ := g.pre
  rw [List.getElem?_append_left (List.getElem?_eq_some_iff.mp h).1]
  exact h
/-- .. but for dicts that were locked -/
structure Grow0 (m : List Addr) (H : Hp) (m' : List Addr) (H' : Hp) : Prop where
  pre : m <+: m'
  tups : ∀ a xs, H a = some (.tup xs) → H' a = some (.tup xs)
  frzs : ∀ a o u, (∀ kw, u ≠ .dK kw) → (∀ φ, u ≠ .ext φ) → H a = some (.frz o u) → H' a = some (.frz o u)
theorem Grow.weak {m m' : List Addr} {H H' : Hp} (g : Grow m H m' H') : Grow0 m H m' H' := ⟨g.pre, g.tups, fun a o u _ _ h => g.frzs a o u h⟩
theorem Grow0.sqT {K : KW} {m m' : List Addr} {H H' : Hp} (g : Grow0 m H m' H') {a : Addr} {xs : List V} (h : SqT K H a xs) : SqT K H' a xs := by
  rcases h with (h | ⟨o, h⟩) | h
  · exact .inl (.inl (g.tups _ _ h))
  · exact .inl (.inr ⟨o, g.frzs _ _ _ (fun _ z => by cases z) (fun _ z => by cases z) h⟩)
  · exact .inr h
theorem Grow0.fzL {K : KW} {m m' : List Addr} {H H' : Hp} (g : Grow0 m H m' H') {a : Addr} {xs : List V} (h : FzL K H a xs) : FzL K H' a xs := by
  rcases h with ⟨o, h⟩ | h
  · exact .inl ⟨o, g.frzs _ _ _ (fun _ z => by cases z) (fun _ z => by cases z) h⟩
  · exact .inr h
theorem Grow0.at {m m' : List Addr} {H H' : Hp} (g : Grow0 m H m' H') {n : Nat} {p : Addr} (h : m[n]? = some p) : m'[n]? = some p := by
  obtain ⟨t, rfl⟩ := g.pre
  rw [List.getElem?_append_left (List.getElem?_eq_some_iff.mp h).1]
  exact h
section
variable {K : KW} {m m' : List Addr} {H H' : Hp}
mutual
theorem RD.mono (g : Grow0 m H m' H') : ∀ (d : D) (v : V), RD K m H d v → RD K m' H' d v
  | .non, _, h => by cases h; exact .non
  | .bl b, _, h => by cases h; exact .bl b
  | .int b, _, h => by cases h; exact .int b
  | .str b, _, h => by cases h; exact .str b
  | .tup xs, _, h => by
    cases h with
    | tup a z b => exact .tup (g.sqT a) z (RDs.mono g xs _ b)
  | .frz xs, _, h => by
    cases h with
    | frz a z b => exact .frz (g.fzL a) z (RDs.mono g xs _ b)
  | .ref n, _, h => by
    cases h with
    | ref a => exact .ref (g.at a)
theorem RDs.mono (g : Grow0 m H m' H') : ∀ (d : List D) (v : List V), RDs K m H d v → RDs K m' H' d v
  | [], _, h => by cases h; exact .nil
  | d :: ds, _, h => by
    cases h with
    | cons a b => exact .cons (RD.mono g d _ a) (RDs.mono g ds _ b)
end
theorem RD.up {d : D} {v : V} (r : RD K m H d v) (g : Grow m H m' H') : RD K m' H' d v := RD.mono g.weak d v r
theorem RDs.up {d : List D} {v : List V} (r : RDs K m H d v) (g : Grow m H m' H') : RDs K m' H' d v := RDs.mono g.weak d v r
theorem RDs.length : ∀ {xs : List D} {vs : List V}, RDs K m H xs vs → xs.length = vs.length
  | _, _, .nil => rfl
  | _, _, .cons _ t => congrArg (· + 1) (RDs.length t)
theorem RDs.get : ∀ {xs : List D} {vs : List V} {i : Nat} {d : D}, RDs K m H xs vs → xs[i]? = some d → ∃ v, vs[i]? = some v ∧ RD K m H d v
  | _, _, _, _, .nil, e => by simp at e
  | _, _, 0, _, .cons r _, e => by simp at e; subst e; exact ⟨_, rfl, r⟩
  | _, _, i + 1, d, .cons _ t, e => by
    obtain ⟨v, h1, h2⟩ := RDs.get (i := i) (d := d) t (by simpa using e)
    exact ⟨v, by simpa using h1, h2⟩
theorem RDs.get' : ∀ {xs : List D} {vs : List V} {i : Nat} {v : V}, RDs K m H xs vs → vs[i]? = some v → ∃ d, xs[i]? = some d ∧ RD K m H d v
  | _, _, _, _, .nil, e => by simp at e
  | _, _, 0, _, .cons r _, e => by simp at e; subst e; exact ⟨_, rfl, r⟩
  | _, _, i + 1, d, .cons _ t, e => by
    obtain ⟨v, h1, h2⟩ := RDs.get' (i := i) (v := d) t (by simpa using e)
    exact ⟨v, by simpa using h1, h2⟩
theorem RDs.append : ∀ {xs ys : List D} {vs ws : List V}, RDs K m H xs vs → RDs K m H ys ws → RDs K m H (xs ++ ys) (vs ++ ws)
  | _, _, _, _, .nil, s => s
  | _, _, _, _, .cons r t, s => .cons r (RDs.append t s)
theorem RDs.take : ∀ {xs : List D} {vs : List V} (n : Nat), RDs K m H xs vs → RDs K m H (xs.take n) (vs.take n)
  | _, _, 0, _ => by simpa using RDs.nil
  | _, _, n + 1, .nil => .nil
  | _, _, n + 1, .cons r t => .cons r (RDs.take n t)
theorem RDs.drop : ∀ {xs : List D} {vs : List V} (n : Nat), RDs K m H xs vs → RDs K m H (xs.drop n) (vs.drop n)
  | _, _, 0, r => r
  | _, _, n + 1, .nil => .nil
  | _, _, n + 1, .cons r t => RDs.drop n t
theorem RDs.set {d : D} {v : V} (r : RD K m H d v) : ∀ {xs : List D} {vs : List V} (n : Nat), RDs K m H xs vs → RDs K m H (xs.set n d) (vs.set n v)
  | _, _, _, .nil => .nil
  | _, _, 0, .cons _ t => .cons r t
  | _, _, n + 1, .cons q t => .cons q (RDs.set r n t)
theorem RDs.ints : ∀ {ns : List Int} {vs : List V}, RDs K m H (ns.map D.int) vs → vs = ns.map V.int
  | [], _, h => by cases h; rfl
  | n :: ns, _, h => by
    cases h with
    | cons a b => cases a; rw [RDs.ints b]; rfl
theorem RDs.of_ints : ∀ (ns : List Int), RDs K m H (ns.map D.int) (ns.map V.int)
  | [] => .nil
  | n :: ns => .cons (.int n) (RDs.of_ints ns)
theorem RDs.of_get : ∀ {xs : List D} {vs : List V}, xs.length = vs.length → (∀ (i : Nat) d v, xs[i]? = some d → vs[i]? = some v → RD K m H d v) → RDs K m H xs vs
  | [], [], _, _ => .nil
  | [], _ :: _, h, _ => by simp at h
  | _ :: _, [], h, _ => by simp at h
  | x :: xs, v :: vs, h, f => .cons (f 0 x v rfl rfl) (RDs.of_get (by simpa using h) fun i d w a b => f (i + 1) d w (by simpa using a) (by simpa using b))
end

/- a key of tuples -/
mutual
def keyN : NestedKey → D
  | .none => .non
  | .num i => .int i
  | .text x => .str x
  | .tup ks => .tup (keyNs ks)
def keyNs : List NestedKey → List D
  | [] => []
  | k :: ks => keyN k :: keyNs ks
end
/-- at p stands a dict whose keys are tuples; where the tuples themselves stand is told beside it -/
def tdOk (w : World) (p : Addr) (es : List (NestedKey × Addr × V)) (h : Heap) : Prop :=
  (p == sysModules) = false ∧ ∃ xs : List (NestedKey × Addr × Value), Paired (fun e x => e.1 = x.1 ∧ e.2.1 = x.2.1 ∧ RelV e.2.2 x.2.2) es xs ∧
    ∃ o des ep, h.get? p = some o ∧ o.ExactDict ∧ o.data = .dict des ep ∧ des.toList = xs.map (fun x => (⟨x.1.hash w, .ref x.2.1, x.2.2⟩ : DictEntry)) ∧ (xs.map (·.1)).Nodup
abbrev tdO (w : World) (p : Addr) (es : List (NestedKey × Addr × V)) : HO := .ext (tdOk w p es)
abbrev RKT (K : KW) (m : List Addr) (H : Hp) : List (D × D) → List (NestedKey × Addr × V) → Prop := Paired fun p e => p.1 = keyN e.1 ∧ e.1.depth ≤ 8 ∧ RD K m H p.1 (.ref e.2.1) ∧ RD K m H p.2 e.2.2
/-- the pairs of a dict -/
abbrev RKV (K : KW) (m : List Addr) (H : Hp) : List (D × D) → List (Key × V) → Prop := Paired fun p q => p.1 = keyD q.1 ∧ RD K m H p.2 q.2
inductive RCell (K : KW) (m : List Addr) (H : Hp) (p : Addr) : Cell → Option HO → Prop
  | lst {xs : List D} {vs : List V} : xs.length ≤ sizeLine → RDs K m H xs vs → RCell K m H p (.lst xs) (some (.lst vs))
  | dct {kvs : List (D × D)} {kw : List (Key × V)} : kvs.length ≤ sizeLine → RKV K m H kvs kw → RCell K m H p (.dct kvs) (some (.dK kw))
  | lck {kvs : List (D × D)} {kw : List (Key × V)} {o : Obj} : kvs.length ≤ sizeLine → RKV K m H kvs kw → RCell K m H p (.lck kvs) (some (.frz o (.dK kw)))
  | tdc {kvs : List (D × D)} {es : List (NestedKey × Addr × V)} : kvs.length ≤ sizeLine → RKT K m H kvs es → RCell K m H p (.tdc kvs) (some (tdO K.w p es))
  | tlk {kvs : List (D × D)} {es : List (NestedKey × Addr × V)} {o : Obj} : kvs.length ≤ sizeLine → RKT K m H kvs es → RCell K m H p (.tlk kvs) (some (.frz o (tdO K.w p es)))
theorem RKV.up {K : KW} {m m' : List Addr} {H H' : Hp} {a : List (D × D)} {b : List (Key × V)} (r : RKV K m H a b) (g : Grow m H m' H') : RKV K m' H' a b :=
  Paired.mapP r fun _ _ h => ⟨h.1, h.2.up g⟩
theorem RKT.up {K : KW} {m m' : List Addr} {H H' : Hp} {a : List (D × D)} {b : List (NestedKey × Addr × V)} (r : RKT K m H a b) (g : Grow m H m' H') : RKT K m' H' a b :=
  Paired.mapP r fun _ _ h => ⟨h.1, h.2.1, h.2.2.1.up g, h.2.2.2.up g⟩
theorem RCell.up {K : KW} {m m' : List Addr} {H H' : Hp} {p : Addr} {c : Cell} {o : Option HO} (r : RCell K m H p c o) (g : Grow m H m' H') : RCell K m' H' p c o := by
  cases r with
  | lst z a => exact .lst z (a.up g)
  | dct z a => exact .dct z (a.up g)
  | lck z a => exact .lck z (a.up g)
  | tdc z a => exact .tdc z (a.up g)
  | tlk z a => exact .tlk z (a.up g)

theorem RCell.up0 {K : KW} {m m' : List Addr} {H H' : Hp} {p : Addr} {c : Cell} {o : Option HO} (r : RCell K m H p c o) (g : Grow0 m H m' H') : RCell K m' H' p c o := by
  cases r with
  | lst z a => exact .lst z (RDs.mono g _ _ a)
  | dct z a => exact .dct z (Paired.mapP a fun _ _ h => ⟨h.1, RD.mono g _ _ h.2⟩)
  | lck z a => exact .lck z (Paired.mapP a fun _ _ h => ⟨h.1, RD.mono g _ _ h.2⟩)
  | tdc z a => exact .tdc z (Paired.mapP a fun _ _ h => ⟨h.1, h.2.1, RD.mono g _ _ h.2.2.1, RD.mono g _ _ h.2.2.2⟩)
  | tlk z a => exact .tlk z (Paired.mapP a fun _ _ h => ⟨h.1, h.2.1, RD.mono g _ _ h.2.2.1, RD.mono g _ _ h.2.2.2⟩)
structure Sim (K : KW) (m : List Addr) (S : Store) (H : Hp) : Prop where
  len : m.length = S.length
  nd : m.Nodup
  cell : ∀ (i : Nat) p c, m[i]? = some p → S[i]? = some c → RCell K m H p c (H p)
section
variable {K : KW} {m m' : List Addr} {H H' : Hp} {S : Store}
theorem RCell.some {p : Addr} {c : Cell} {o : Option HO} (r : RCell K m H p c o) : ∃ u, o = Option.some u ∧ (∀ xs, u ≠ .tup xs) := by
  cases r <;> exact ⟨_, rfl, fun _ h => by cases h⟩
theorem Sim.at (s : Sim K m S H) {n : Nat} {c : Cell} (h : S[n]? = some c) : ∃ p, m[n]? = some p ∧ RCell K m H p c (H p) := by
  have hl : n < m.length := by rw [s.len]; exact (List.getElem?_eq_some_iff.mp h).1
  exact ⟨m[n], by simp [hl], s.cell n m[n] c (by simp [hl]) h⟩
theorem Sim.has (s : Sim K m S H) {p : Addr} (h : p ∈ m) : ∃ u, H p = some u := by
  obtain ⟨i, hi⟩ := List.getElem?_of_mem h
  have hl : i < S.length := by rw [← s.len]; exact (List.getElem?_eq_some_iff.mp hi).1
  obtain ⟨u, e, _⟩ := (s.cell i p S[i] hi (by simp [hl])).some
  exact ⟨u, e⟩
theorem Grow.new {p : Addr} (h : H p = none) (o : HO) (hm : m <+: m') : Grow m H m' (upd H p o) :=
  ⟨hm, fun a xs e => by rw [upd_ne (ne_of_none e h)]; exact e, fun a q u e => by rw [upd_ne (ne_of_none e h)]; exact e⟩
/-- a new object that is not in the store (a tuple) -/
theorem Sim.plus (s : Sim K m S H) {p : Addr} (h : H p = none) (o : HO) : Sim K m S (upd H p o) := by
  refine ⟨s.len, s.nd, fun i q c a b => ?_⟩
  obtain ⟨u, e⟩ := s.has (List.mem_of_getElem? a)
  rw [upd_ne (ne_of_none e h)]
  exact (s.cell i q c a b).up (Grow.new h o (List.prefix_refl m))
/-- a new cell -/
theorem Sim.alloc (s : Sim K m S H) {p : Addr} (h : H p = none) {o : HO} {c : Cell} (r : RCell K (m ++ [p]) (upd H p o) p c (some o)) : Sim K (m ++ [p]) (S ++ [c]) (upd H p o) := by
  have g : Grow m H (m ++ [p]) (upd H p o) := Grow.new h o (List.prefix_append _ _)
  have nin : p ∉ m := fun hm => by
    obtain ⟨u, e⟩ := s.has hm
    rw [h] at e; cases e
  refine ⟨by simp [s.len], ?_, fun i q d a b => ?_⟩
  · rw [List.nodup_append]
    exact ⟨s.nd, by simp, fun x hx y hy => by rw [List.mem_singleton] at hy; rw [hy]; exact fun e => nin (e ▸ hx)⟩
  · by_cases hi : i < m.length
    · rw [List.getElem?_append_left hi] at a
      rw [List.getElem?_append_left (by rw [← s.len]; exact hi)] at b
      obtain ⟨u, e⟩ := s.has (List.mem_of_getElem? a)
      rw [upd_ne (ne_of_none e h)]
      exact (s.cell i q d a b).up g
    · have hi' : i = m.length := by
        have := (List.getElem?_eq_some_iff.mp a).1
        simp at this
        omega
      subst hi'
      rw [List.getElem?_append_right (Nat.le_refl _)] at a
      rw [List.getElem?_append_right (by rw [s.len]; exact Nat.le_refl _)] at b
      simp [s.len] at a b
      subst a b
      rw [upd_same]
      exact r
theorem Grow.write {n : Nat} {p : Addr} {c : Cell} (s : Sim K m S H) (hp : m[n]? = some p) (hc : S[n]? = some c) (hl : c.mut = true) (o : HO) : Grow m H m (upd H p o) := by
  have r := s.cell n p c hp hc
  refine ⟨List.prefix_refl m, fun a xs e => ?_, fun a q u e => ?_⟩
  · have ne : a ≠ p := fun z => by
      subst z
      rw [e] at r; cases r
    rw [upd_ne ne]; exact e
  · have ne : a ≠ p := fun z => by
      subst z
      rw [e] at r
      cases r with
      | lck _ _ => cases hl
      | tlk _ _ => cases hl
    rw [upd_ne ne]; exact e
theorem Sim.write {n : Nat} {p : Addr} {c c' : Cell} {o : HO} (s : Sim K m S H) (hp : m[n]? = some p) (hc : S[n]? = some c) (hl : c.mut = true) (r : RCell K m (upd H p o) p c' (some o)) : Sim K m (S.set n c') (upd H p o) := by
  have g := Grow.write s hp hc hl o
  refine ⟨by simp [s.len], s.nd, fun i q d a b => ?_⟩
  by_cases hi : i = n
  · subst hi
    rw [hp] at a; cases a
    have : i < S.length := (List.getElem?_eq_some_iff.mp hc).1
    rw [List.getElem?_set_self this] at b
    cases b
    rw [upd_same]
    exact r
  · rw [List.getElem?_set_ne (Ne.symm hi)] at b
    have ne : q ≠ p := fun e => hi (nd_ix s.nd a (e ▸ hp))
    rw [upd_ne ne]
    exact (s.cell i q d a b).up g
end

/-- the slots -/
structure RSl (K : KW) (m : List Addr) (H : Hp) (σ : L2.St) (σd : Slots) : Prop where
  len : σ.length = σd.length
  val : ∀ (i : Nat) d, σd[i]? = some (some d) → ∃ v, σ[i]? = some (some v) ∧ RD K m H d v
section
variable {K : KW} {m m' : List Addr} {H H' : Hp} {σ : L2.St} {σd : Slots}
theorem RSl.up (r : RSl K m H σ σd) (g : Grow m H m' H') : RSl K m' H' σ σd := ⟨r.len, fun i d h => let ⟨v, a, b⟩ := r.val i d h; ⟨v, a, b.up g⟩⟩
theorem RSl.set (r : RSl K m H σ σd) {d : D} {v : V} (q : RD K m H d v) (i : Nat) : RSl K m H (σ.set i (some v)) (σd.set i (some d)) := by
  refine ⟨by simp [r.len], fun j e h => ?_⟩
  by_cases hj : i = j
  · subst hj
    have hl : i < σd.length := by
      have := (List.getElem?_eq_some_iff.mp h).1
      simpa using this
    rw [List.getElem?_set_self hl] at h
    cases h
    exact ⟨v, List.getElem?_set_self (by rw [r.len]; exact hl), q⟩
  · rw [List.getElem?_set_ne hj] at h ⊢
    exact r.val j e h
theorem RSl.unset (r : RSl K m H σ σd) (i : Nat) : RSl K m H (σ.set i none) (σd.set i none) := by
  refine ⟨by simp [r.len], fun j e h => ?_⟩
  by_cases hj : i = j
  · subst hj
    have hl : i < σd.length := by
      have := (List.getElem?_eq_some_iff.mp h).1
      simpa using this
    rw [List.getElem?_set_self hl] at h
    cases h
  · rw [List.getElem?_set_ne hj] at h ⊢
    exact r.val j e h
end
def wipeD (σ : Slots) : List Nat → Slots
  | [] => σ
  | v :: vs => (wipeD σ vs).set v none
theorem RSl.wipe {K : KW} {m : List Addr} {H : Hp} {σ : L2.St} {σd : Slots} (r : RSl K m H σ σd) : ∀ vs : List Nat, RSl K m H (wipe σ vs) (wipeD σd vs)
  | [] => r
  | v :: vs => (RSl.wipe r vs).unset v

/-! ### readings over D -/
abbrev PD := D → Store → Prop
abbrev FE := Slots → Store → PD → Prop
abbrev FT := Slots → Store → (Bool → Store → Prop) → Prop
abbrev FA := Slots → Store → (List D → Store → Prop) → Prop
structure EndsD where
  nx : Slots → Store → Prop
  rt : PD
  bk : Slots → Store → Prop := fun _ _ => False
  ct : Slots → Store → Prop := fun _ _ => False
abbrev FS := EndsD → Slots → Store → Prop

/-- from here on a wish over D is as good as one over V -/
def WD (K : KW) (m : List Addr) (H : Hp) (P : PD) (Q : VK) : Prop := ∀ d S' m' v H', P d S' → Grow m H m' H' → Sim K m' S' H' → RD K m' H' d v → Q v H'
def WL (K : KW) (m : List Addr) (H : Hp) (P : List D → Store → Prop) (Q : List V → Hp → Prop) : Prop := ∀ d S' m' v H', P d S' → Grow m H m' H' → Sim K m' S' H' → RDs K m' H' d v → Q v H'
def WB (K : KW) (m : List Addr) (H : Hp) (P : Bool → Store → Prop) (Q : Bool → Hp → Prop) : Prop := ∀ b S' m' H', P b S' → Grow m H m' H' → Sim K m' S' H' → Q b H'
def WS (K : KW) (m : List Addr) (H : Hp) (P : Slots → Store → Prop) (Q : L2.St → Hp → Prop) : Prop := ∀ σd S' m' σ H', P σd S' → Grow m H m' H' → Sim K m' S' H' → RSl K m' H' σ σd → Q σ H'
structure WE (K : KW) (m : List Addr) (H : Hp) (E : EndsD) (D : Ends) : Prop where
  nx : WS K m H E.nx D.nx
  rt : WD K m H E.rt D.rt
  bk : WS K m H E.bk D.bk
  ct : WS K m H E.ct D.ct
section
variable {K : KW} {m m' : List Addr} {H H' : Hp}
theorem WD.up {P : PD} {Q : VK} (w : WD K m H P Q) (g : Grow m H m' H') : WD K m' H' P Q := fun d S' m2 v H2 h g2 s r => w d S' m2 v H2 h (g.trans g2) s r
theorem WL.up {P : List D → Store → Prop} {Q : List V → Hp → Prop} (w : WL K m H P Q) (g : Grow m H m' H') : WL K m' H' P Q := fun d S' m2 v H2 h g2 s r => w d S' m2 v H2 h (g.trans g2) s r
theorem WB.up {P : Bool → Store → Prop} {Q : Bool → Hp → Prop} (w : WB K m H P Q) (g : Grow m H m' H') : WB K m' H' P Q := fun b S' m2 H2 h g2 s => w b S' m2 H2 h (g.trans g2) s
theorem WS.up {P : Slots → Store → Prop} {Q : L2.St → Hp → Prop} (w : WS K m H P Q) (g : Grow m H m' H') : WS K m' H' P Q := fun d S' m2 v H2 h g2 s r => w d S' m2 v H2 h (g.trans g2) s r
theorem WE.up {E : EndsD} {D : Ends} (w : WE K m H E D) (g : Grow m H m' H') : WE K m' H' E D := ⟨w.nx.up g, w.rt.up g, w.bk.up g, w.ct.up g⟩
end
section
variable (K : KW)
def tOf (f : FE) : TE := fun σ H Q => ∃ m σd S P, Sim K m S H ∧ RSl K m H σ σd ∧ f σd S P ∧ WD K m H P Q
def tOfT (f : FT) : TT := fun σ H Q => ∃ m σd S P, Sim K m S H ∧ RSl K m H σ σd ∧ f σd S P ∧ WB K m H P Q
def tOfA (f : FA) : TA := fun σ H Q => ∃ m σd S P, Sim K m S H ∧ RSl K m H σ σd ∧ f σd S P ∧ WL K m H P Q
def tOfS (f : FS) : TS := fun D σ H => ∃ m σd S E, Sim K m S H ∧ RSl K m H σ σd ∧ f E σd S ∧ WE K m H E D
end
abbrev RE (X : Cx) (e : Expr) (f : FE) : Prop := PE X e (tOf (kW X) f)
abbrev RT (X : Cx) (e : Expr) (f : FT) : Prop := PT X e (tOfT (kW X) f)
abbrev RW (X : Cx) (e : Expr) (f : FT) : Prop := PW X e (tOfT (kW X) f)
abbrev RA (X : Cx) (es : List Expr) (f : FA) : Prop := PA X es (tOfA (kW X) f)
abbrev RS (X : Cx) (st : Stmt) (f : FS) : Prop := PS X st (tOfS (kW X) f)
abbrev RSs (X : Cx) (st : List Stmt) (f : FS) : Prop := PSs X st (tOfS (kW X) f)
section
variable {X : Cx}
theorem pe_w {e : Expr} {t t' : TE} (h : PE X e t) (w : ∀ σ H Q, t' σ H Q → t σ H Q) : PE X e t' := ⟨fun pins s σ H Q I q => h.run pins s σ H Q I (w σ H Q q)⟩
theorem pt_w {e : Expr} {t t' : TT} (h : PT X e t) (w : ∀ σ H Q, t' σ H Q → t σ H Q) : PT X e t' := ⟨fun pins s σ H Q I q => h.run pins s σ H Q I (w σ H Q q)⟩
theorem pw_w {e : Expr} {t t' : TT} (h : PW X e t) (w : ∀ σ H Q, t' σ H Q → t σ H Q) : PW X e t' := ⟨fun wh pins s σ H Q I q => h.run wh pins s σ H Q I (w σ H Q q)⟩
theorem pa_w {e : List Expr} {t t' : TA} (h : PA X e t) (w : ∀ σ H Q, t' σ H Q → t σ H Q) : PA X e t' := ⟨fun pos pins s σ H Q I q => h.run pos pins s σ H Q I (w σ H Q q)⟩
theorem ps_w {e : Stmt} {t t' : TS} (h : PS X e t) (w : ∀ D σ H, t' D σ H → t D σ H) : PS X e t' := ⟨fun pins s σ H D I q => h.run pins s σ H D I (w D σ H q)⟩
theorem pss_w {e : List Stmt} {t t' : TS} (h : PSs X e t) (w : ∀ D σ H, t' D σ H → t D σ H) : PSs X e t' := ⟨fun pins s σ H D I q => h.run pins s σ H D I (w D σ H q)⟩
end
end SD
/-! SD2: the rules of expressions over D. -/
namespace SD
open PySem PySem.Spec PyProof.Rows L2

/-! ### names, constants, displays -/
def eVar (i : Nat) : FE := fun σ S Q => ∃ d, σ[i]? = some (some d) ∧ Q d S
def eC (d : D) : FE := fun _ S Q => Q d S
def aNil : FA := fun _ S Q => Q [] S
def aCons (f : FE) (g : FA) : FA := fun σ S Q => f σ S fun d S1 => g σ S1 fun ds S2 => Q (d :: ds) S2
def eTup (f : FA) : FE := fun σ S Q => f σ S fun ds S1 => ds.length ≤ sizeLine ∧ Q (.tup ds) S1
def eLst (f : FA) : FE := fun σ S Q => f σ S fun ds S1 => ds.length ≤ sizeLine ∧ Q (.ref S1.length) (S1 ++ [.lst ds])
section
variable {X : Cx}
theorem re_var (i : Nat) {x : Str} {pos : Pos} (hN : X.N[i]? = some x := by rfl) (hv : Vis X.env.scope x := by first | exact Or.inl rfl | exact Or.inr (Or.inl rfl) | exact Or.inr (Or.inr rfl)) (hd : (x == ("__debug__" : Str)) = false := by decide)
    (hcd : (x == ("__classdict__" : Str)) = false := by decide) : RE X (.Name x pos) (eVar i) := by
  refine pe_w (pe_var hN hv hd hcd) fun σ H Q h => ?_
  obtain ⟨m, σd, S, P, s, r, ⟨d, e, p⟩, w⟩ := h
  obtain ⟨v, e1, r1⟩ := r.val i d e
  exact ⟨v, e1, w d S m v H p (.refl _ _) s r1⟩
theorem re_const {e : Expr} {v : V} {d : D} (h : PE X e (tC v)) (hd : ∀ m H, RD (kW X) m H d v) : RE X e (eC d) := by
  refine pe_w h fun σ H Q q => ?_
  obtain ⟨m, σd, S, P, s, r, p, w⟩ := q
  exact w d S m v H p (.refl _ _) s (hd m H)
theorem re_int {i j pos} : RE X (.Constant (.int i) j pos) (eC (.int i)) := re_const pe_int fun _ _ => .int i
theorem re_bl {b j pos} : RE X (.Constant (.bool b) j pos) (eC (.bl b)) := re_const pe_bl fun _ _ => .bl b
theorem re_non {j pos} : RE X (.Constant .none j pos) (eC .non) := re_const pe_non fun _ _ => .non
theorem re_str {x j pos} : RE X (.Constant (.str x) j pos) (eC (.str x)) := re_const pe_str fun _ _ => .str x
theorem ra_nil : RA X [] aNil := by
  refine pa_w pa_nil fun σ H Q q => ?_
  obtain ⟨m, σd, S, P, s, r, p, w⟩ := q
  exact w [] S m [] H p (.refl _ _) s .nil
theorem ra_cons {e : Expr} {es : List Expr} {f : FE} {g : FA} (ha : RE X e f) (hr : RA X es g) (hs : starEach (e :: es) X.env = (false, eval e X.env) :: starEach es X.env := by rfl) : RA X (e :: es) (aCons f g) := by
  refine pa_w (pa_cons ha hr hs) fun σ H Q q => ?_
  obtain ⟨m, σd, S, P, s, r, p, w⟩ := q
  refine ⟨m, σd, S, _, s, r, p, fun d S1 m1 v H1 p1 g1 s1 r1 => ?_⟩
  exact ⟨m1, σd, S1, _, s1, r.up g1, p1, fun ds S2 m2 vs H2 p2 g2 s2 r2 => w (d :: ds) S2 m2 (v :: vs) H2 p2 (g1.trans g2) s2 (.cons (r1.up g2) r2)⟩
theorem re_tup {es : List Expr} {pos : Pos} {x1} {f : FA} (h : RA X es f) : RE X (.Tuple es x1 pos) (eTup f) := by
  refine pe_w (pe_tup h) fun σ H Q q => ?_
  obtain ⟨m, σd, S, P, s, r, p, w⟩ := q
  refine ⟨m, σd, S, _, s, r, p, fun ds S1 m1 vs H1 ⟨z, p1⟩ g1 s1 r1 => ⟨by rw [← r1.length]; exact z, fun a ha => ?_⟩⟩
  have g2 : Grow m1 H1 m1 (upd H1 a (.tup vs)) := Grow.new ha _ (List.prefix_refl _)
  exact w (.tup ds) S1 m1 (.ref a) _ p1 (g1.trans g2) (s1.plus ha _) (.tup (SqT.of upd_same) (by rw [← r1.length]; exact z) (r1.up g2))
/-- a new list -/
theorem new_lst {K : KW} {m : List Addr} {S : Store} {H : Hp} {ds : List D} {vs : List V} {a : Addr} (s : Sim K m S H) (ha : H a = none) (r : RDs K m H ds vs) (z : ds.length ≤ sizeLine) :
    Grow m H (m ++ [a]) (upd H a (.lst vs)) ∧ Sim K (m ++ [a]) (S ++ [.lst ds]) (upd H a (.lst vs)) ∧ RD K (m ++ [a]) (upd H a (.lst vs)) (.ref S.length) (.ref a) := by
  have g2 : Grow m H (m ++ [a]) (upd H a (.lst vs)) := Grow.new ha _ (List.prefix_append _ _)
  exact ⟨g2, s.alloc ha (.lst z (r.up g2)), .ref (by rw [← s.len]; simp)⟩
theorem re_lst {es : List Expr} {pos : Pos} {f : FA} (h : RA X es f) : RE X (.List es pos) (eLst f) := by
  refine pe_w (pe_lst h) fun σ H Q q => ?_
  obtain ⟨m, σd, S, P, s, r, p, w⟩ := q
  refine ⟨m, σd, S, _, s, r, p, fun ds S1 m1 vs H1 ⟨z, p1⟩ g1 s1 r1 => ⟨by rw [← r1.length]; exact z, fun a ha => ?_⟩⟩
  obtain ⟨g2, s2, r2⟩ := new_lst s1 ha r1 z
  exact w _ _ _ _ _ p1 (g1.trans g2) s2 r2
end

/-! ### two values -/
abbrev F2 := D → D → Store → PD → Prop
abbrev FN := List D → Store → PD → Prop
def eOp (r : F2) (f g : FE) : FE := fun σ S Q => f σ S fun x S1 => g σ S1 fun y S2 => r x y S2 Q
def eCB (r : FN) (f : FA) : FE := fun σ S Q => f σ S fun xs S1 => r xs S1 Q
def R2R (K : KW) (fr : F2) (r : R2) : Prop := ∀ m S H x y v u P Q, Sim K m S H → RD K m H x v → RD K m H y u → fr x y S P → WD K m H P Q → r v u H Q
def RNR (K : KW) (fr : FN) (r : List V → Hp → VK → Prop) : Prop := ∀ m S H xs vs P Q, Sim K m S H → RDs K m H xs vs → fr xs S P → WD K m H P Q → r vs H Q
def OpD (X : Cx) (f : Value → Value → Sem Value) (fr : F2) : Prop := ∃ r, OpR X f r ∧ R2R (kW X) fr r
def IxD (X : Cx) (fr : F2) : Prop := ∃ r, IxR X r ∧ R2R (kW X) fr r
def CallD (X : Cx) (f : Value) (fr : FN) : Prop := ∃ r, CallR X f r ∧ RNR (kW X) fr r
theorem tOf_op {K : KW} {fr : F2} {r : R2} {f g : FE} (hr : R2R K fr r) {σ : L2.St} {H : Hp} {Q : VK} (h : tOf K (eOp fr f g) σ H Q) : tOp r (tOf K f) (tOf K g) σ H Q := by
  obtain ⟨m, σd, S, P, s, rs, p, w⟩ := h
  refine ⟨m, σd, S, _, s, rs, p, fun d S1 m1 v H1 p1 g1 s1 r1 => ?_⟩
  exact ⟨m1, σd, S1, _, s1, rs.up g1, p1, fun e S2 m2 u H2 p2 g2 s2 r2 => hr m2 S2 H2 d e v u P Q s2 (r1.up g2) r2 p2 (w.up (g1.trans g2))⟩
section
variable {X : Cx} {a b : Expr} {f g : FE} {pos : Pos}
theorem re_op {op : Operator} {fr : F2} (h : OpD X (binaryOp op) fr) (ha : RE X a f) (hb : RE X b g) : RE X (.BinOp a op b pos) (eOp fr f g) := by
  obtain ⟨r, h1, h2⟩ := h
  exact pe_w (pe_op h1 ha hb) fun _ _ _ q => tOf_op h2 q
theorem re_cmp {op : CmpOp} {fr : F2} (h : OpD X (compareOp op) fr) (ha : RE X a f) (hb : RE X b g) (hm : behindInMarks op b = false) : RE X (.Compare a [op] [b] pos) (eOp fr f g) := by
  obtain ⟨r, h1, h2⟩ := h
  exact pe_w (pe_cmpR h1 ha hb hm) fun _ _ _ q => tOf_op h2 q
theorem re_ix {fr : F2} (h : IxD X fr) (ha : RE X a f) (hb : RE X b g) (hs : PlainIx b := by intro _ _; rfl) : RE X (.Subscript a b pos) (eOp fr f g) := by
  obtain ⟨r, h1, h2⟩ := h
  exact pe_w (pe_ix h1 ha hb hs) fun _ _ _ q => tOf_op h2 q
theorem tOf_cb {K : KW} {fr : FN} {r : List V → Hp → VK → Prop} {f : FA} (hr : RNR K fr r) {σ : L2.St} {H : Hp} {Q : VK} (h : tOf K (eCB fr f) σ H Q) : tCB r (tOfA K f) σ H Q := by
  obtain ⟨m, σd, S, P, s, rs, p, w⟩ := h
  exact ⟨m, σd, S, _, s, rs, p, fun d S1 m1 v H1 p1 g1 s1 r1 => hr m1 S1 H1 d v P Q s1 r1 p1 (w.up g1)⟩
theorem re_callB {x : Str} {p : Pos} {e : Expr} {es : List Expr} {fa : FA} {id : String} {fr : FN} (h : CallD X (.builtin id) fr) (hg : Gl X x) (hm : X.mg x = none) (hv : bootBuiltins x = some (.builtin id)) (ha : RA X (e :: es) fa) (hn : x ≠ "__name__" := by decide) (hdb : (x == ("__debug__" : Str)) = false := by decide)
    (he : starEach (e :: es) X.env = (false, eval e X.env) :: starEach es X.env := by rfl) (hpl : (backTo pos (starEach es X.env)).any (·.1) = false := by rfl) : RE X (.Call (.Name x p) (e :: es) [] pos) (eCB fr fa) := by
  obtain ⟨r, h1, h2⟩ := h
  exact pe_w (pe_callB h1 hg hm hv ha hn hdb he hpl) fun _ _ _ q => tOf_cb h2 q
theorem re_callTy {x : Str} {p : Pos} {e : Expr} {es : List Expr} {fa : FA} {T : String} {fr : FN} (h : CallD X (.type T) fr) (hg : Gl X x) (hm : X.mg x = none) (hv : bootBuiltins x = some (.type T)) (ha : RA X (e :: es) fa) (hn : x ≠ "__name__" := by decide) (hdb : (x == ("__debug__" : Str)) = false := by decide)
    (he : starEach (e :: es) X.env = (false, eval e X.env) :: starEach es X.env := by rfl) (hpl : (backTo pos (starEach es X.env)).any (·.1) = false := by rfl) : RE X (.Call (.Name x p) (e :: es) [] pos) (eCB fr fa) := by
  obtain ⟨r, h1, h2⟩ := h
  exact pe_w (pe_callTy h1 hg hm hv ha hn hdb he hpl) fun _ _ _ q => tOf_cb h2 q
end
/-- a type's name as a value -/
def eTy : FE := fun _ S Q => Q .non S

/-! ### defs -/
abbrev FnD := List D → Store → PD → Prop
def spD (K : KW) (F : FnD) : Sp := fun vs H Q _ => ∃ m ds S P, Sim K m S H ∧ RDs K m H ds vs ∧ F ds S P ∧ WD K m H P Q
/-- a def of n parameters and l slots, by its body -/
def fnD (n l : Nat) (b : FS) : FnD := fun ds S P => ds.length = n ∧ b { nx := fun _ S' => P .non S', rt := P } (ds.map some ++ List.replicate (l - n) none) S
structure DefOk (P : Program) (w : World) (K : PySem.W.Frag) (mg : Str → Option Value) (base : Heap) (k : Nat) (x : Str) (F : FnD) : Prop where
  ex : ∃ f fd ps, FnOk P w K mg base CX0 k f fd ps (spD ⟨K, w⟩ F) ∧ mg x = some (.ref f) ∧ PySem.W.keepIn K (.ref f) = true ∧ Binds K fd ps []
def eCall (F : FnD) (f : FA) : FE := fun σ S Q => f σ S fun ds S1 => F ds S1 Q
section
variable {X : Cx} {pos : Pos}
theorem re_call {x : Str} {p : Pos} {e : Expr} {es : List Expr} {fa : FA} {F : FnD} {k k' : Nat} (h : DefOk X.prog X.w X.K X.mg X.base k x F) (hr : Room k' X.A) (ha : RA X (e :: es) fa) (hg : Gl X x := by rfl) (hk : k ≤ k' := by first | exact Nat.le_refl _ | decide | omega) (hdb : (x == ("__debug__" : Str)) = false := by decide)
    (he : starEach (e :: es) X.env = (false, eval e X.env) :: starEach es X.env := by rfl) (hpl : (backTo pos (starEach es X.env)).any (·.1) = false := by rfl) : RE X (.Call (.Name x p) (e :: es) [] pos) (eCall F fa) := by
  obtain ⟨f, fd, ps, h1, h2, h3, h4⟩ := h.ex
  refine pe_w (pe_call h1 (hr.mono hk) hg h2 h3 h4 .nil pass0 ha hdb he hpl) fun σ H Q q => ?_
  obtain ⟨m, σd, S, P, s, rs, p, w⟩ := q
  refine ⟨m, σd, S, _, s, rs, p, fun ds S1 m1 vs H1 p1 g1 s1 r1 => ?_⟩
  exact ⟨m1, ds, S1, P, s1, by rw [List.append_nil]; exact r1, p1, w.up g1⟩
end
theorem RSl.start {K : KW} {m : List Addr} {H : Hp} {ds : List D} {vs : List V} (r : RDs K m H ds vs) (N : List Str) : RSl K m H (L2.start N vs) (ds.map some ++ List.replicate (N.length - ds.length) none) := by
  refine ⟨by simp [L2.start, r.length], fun i d e => ?_⟩
  unfold L2.start
  by_cases hi : i < ds.length
  · rw [List.getElem?_append_left (by simpa using hi), List.getElem?_map] at e
    rw [List.getElem?_append_left (by simp [← r.length]; exact hi), List.getElem?_map]
    cases q : ds[i]? with
    | none => rw [q] at e; cases e
    | some d' =>
      rw [q] at e
      cases e
      obtain ⟨v, e1, r1⟩ := r.get q
      exact ⟨v, by rw [e1]; rfl, r1⟩
  · rw [List.getElem?_append_right (by simpa using hi), List.getElem?_replicate] at e
    split at e <;> cases e
theorem fn_ok {P : Program} {w : World} {K : PySem.W.Frag} {mg : Str → Option Value} {base : Heap} {x qual : Str} {st : Stmt} {f : Addr} {fd : FuncData} {N ps : List Str} {k : Nat} {b : FS} (F : Fun K x qual st f fd) (S : FnScope N ps (defScope st))
    (hb : ∀ (cdv : Value) (A : Around) (outer : List Env) (s : Shared) (H : Hp) (E : XK), Room k (A.deeper (envOfC qual (defScope st) s.heap.objs.size f cdv)) → RSs (cxOf CX0 P w K mg base N qual (defScope st) f cdv A outer s H E).nox (defBody st) b) :
    FnOk P w K mg base CX0 (k + 1) f fd ps (spD ⟨K, w⟩ (fnD ps.length N.length b)) := by
  refine F.ok S (fun vs H Q E h => ?_) (fun cdv A outer s H vs Q E hr h => ?_)
  · obtain ⟨m, ds, T, p, _, r, ⟨e, _⟩, _⟩ := h
    rw [← r.length]; exact e
  · obtain ⟨m, ds, T, p, s1, r, ⟨e, hf⟩, wd⟩ := h
    rw [← e] at hf
    exact ⟨_, hb cdv A outer s H E hr, m, _, T, _, s1, RSl.start r N, hf, ⟨fun σd S' m' σ H' h g s r => wd _ _ _ _ _ h g s .non, wd, fun _ _ _ _ _ h => False.elim h, fun _ _ _ _ _ h => False.elim h⟩⟩
theorem fn_none {P : Program} {w : World} {K : PySem.W.Frag} {mg : Str → Option Value} {base : Heap} {f : Addr} {fd : FuncData} {ps : List Str} {k : Nat} : FnOk P w K mg base CX0 k f fd ps (spD ⟨K, w⟩ fun _ _ _ => False) := by
  have no : ∀ vs H Q E, ¬ spD ⟨K, w⟩ (fun _ _ _ => False) vs H Q E := fun vs H Q E h => by
    obtain ⟨m, ds, T, p, _, r, z, _⟩ := h
    exact z
  exact ⟨fun vs H Q E h => absurd h (no vs H Q E), fun A outer s H args us vs Q E _ _ _ _ h => absurd h (no vs H Q E)⟩

/-! ### tests -/
def tVal (f : FE) : FT := fun σ S Q => f σ S fun d S1 => ∃ b, d = .bl b ∧ Q b S1
def tAndD (t u : FT) : FT := fun σ S Q => t σ S fun c S1 => if c = true then u σ S1 Q else Q false S1
def tOrD (t u : FT) : FT := fun σ S Q => t σ S fun c S1 => if c = true then Q true S1 else u σ S1 Q
def tNotD (t : FT) : FT := fun σ S Q => t σ S fun c S1 => Q (!c) S1
section
variable {X : Cx} {a b : Expr} {f g : FE} {t u : FT} {rest : List Expr} {pos : Pos}
theorem WB.of {K : KW} {m : List Addr} {H : Hp} {P : Bool → Store → Prop} {Q : Bool → Hp → Prop} (w : WB K m H P Q) : WD K m H (fun d S => ∃ b, d = .bl b ∧ P b S) (fun x H' => ∃ k, x = .bl k ∧ Q k H') := by
  intro d S' m' v H' ⟨b, e, p⟩ g s r
  subst e
  cases r
  exact ⟨b, rfl, w b S' m' H' p g s⟩
theorem rt_cmp {op : CmpOp} {fr : F2} (h : OpD X (compareOp op) fr) (ha : RE X a f) (hb : RE X b g) (hm : behindInMarks op b = false) : RT X (.Compare a [op] [b] pos) (tVal (eOp fr f g)) := by
  obtain ⟨r, h1, h2⟩ := h
  refine pt_w (pt_cmpR h1 ha hb hm) fun σ H Q q => ?_
  obtain ⟨m, σd, S, P, s, rs, p, w⟩ := q
  exact tOf_op h2 ⟨m, σd, S, _, s, rs, p, w.of⟩
theorem rt_val {e : Expr} (h : RE X e f) (he : ∀ whole, isTrue e X.env whole = (do let v ← whole; standAt e.pos; holding [v] (truthy v)) := by intro _; rfl) : RT X e (tVal f) := by
  refine pt_w (pt_val h he) fun σ H Q q => ?_
  obtain ⟨m, σd, S, P, s, rs, p, w⟩ := q
  exact ⟨m, σd, S, _, s, rs, p, w.of⟩
theorem rw_and1 (ha : RT X a t) : RW X (.BoolOp .And [a] pos) t := pw_and1 ha
theorem rw_or1 (ha : RT X a t) : RW X (.BoolOp .Or [a] pos) t := pw_or1 ha
theorem rw_and (ha : RT X a t) (hb : RW X (.BoolOp .And (b :: rest) pos) u) : RW X (.BoolOp .And (a :: b :: rest) pos) (tAndD t u) := by
  refine pw_w (pw_and ha hb) fun σ H Q q => ?_
  obtain ⟨m, σd, S, P, s, rs, p, w⟩ := q
  refine ⟨m, σd, S, _, s, rs, p, fun c S1 m1 H1 p1 g1 s1 => ?_⟩
  cases c with
  | true => exact iteT ⟨m1, σd, S1, P, s1, rs.up g1, by rw [if_pos rfl] at p1; exact p1, w.up g1⟩
  | false => exact iteF (w _ _ _ _ (by rw [if_neg (by decide)] at p1; exact p1) g1 s1)
theorem rw_or (ha : RT X a t) (hb : RW X (.BoolOp .Or (b :: rest) pos) u) : RW X (.BoolOp .Or (a :: b :: rest) pos) (tOrD t u) := by
  refine pw_w (pw_or ha hb) fun σ H Q q => ?_
  obtain ⟨m, σd, S, P, s, rs, p, w⟩ := q
  refine ⟨m, σd, S, _, s, rs, p, fun c S1 m1 H1 p1 g1 s1 => ?_⟩
  cases c with
  | false => exact iteF ⟨m1, σd, S1, P, s1, rs.up g1, by rw [if_neg (by decide)] at p1; exact p1, w.up g1⟩
  | true => exact iteT (w _ _ _ _ (by rw [if_pos rfl] at p1; exact p1) g1 s1)
theorem rt_w (h : RW X a t) : RT X a t := h.pt
theorem rt_not (ha : RT X a t) : RT X (.UnaryOp .Not a pos) (tNotD t) := by
  refine pt_w (pt_not ha) fun σ H Q q => ?_
  obtain ⟨m, σd, S, P, s, rs, p, w⟩ := q
  exact ⟨m, σd, S, _, s, rs, p, fun c S1 m1 H1 p1 g1 s1 => w _ _ _ _ p1 g1 s1⟩
/-- .. as values -/
def eAnd (f g : FE) : FE := fun σ S Q => f σ S fun d S1 => ∃ c, d = .bl c ∧ if c = true then g σ S1 Q else Q (.bl false) S1
def eOr (f g : FE) : FE := fun σ S Q => f σ S fun d S1 => ∃ c, d = .bl c ∧ if c = true then Q (.bl true) S1 else g σ S1 Q
def eNot (f : FE) : FE := fun σ S Q => f σ S fun d S1 => ∃ c, d = .bl c ∧ Q (.bl (!c)) S1
def eIf (t : FT) (f g : FE) : FE := fun σ S Q => t σ S fun c S1 => if c = true then f σ S1 Q else g σ S1 Q
theorem re_one {op} (h : RE X a f) : RE X (.BoolOp op [a] pos) f := pe_one h
theorem re_and (ha : RE X a f) (hb : RE X (.BoolOp .And (b :: rest) pos) g) : RE X (.BoolOp .And (a :: b :: rest) pos) (eAnd f g) := by
  refine pe_w (pe_and ha hb) fun σ H Q q => ?_
  obtain ⟨m, σd, S, P, s, rs, p, w⟩ := q
  refine ⟨m, σd, S, _, s, rs, p, fun d S1 m1 v H1 ⟨c, e, p1⟩ g1 s1 r1 => ?_⟩
  subst e
  cases r1
  refine ⟨c, rfl, ?_⟩
  cases c with
  | true => exact iteT ⟨m1, σd, S1, P, s1, rs.up g1, by rw [if_pos rfl] at p1; exact p1, w.up g1⟩
  | false => exact iteF (w _ _ _ _ _ (by rw [if_neg (by decide)] at p1; exact p1) g1 s1 (.bl _))
theorem re_or (ha : RE X a f) (hb : RE X (.BoolOp .Or (b :: rest) pos) g) : RE X (.BoolOp .Or (a :: b :: rest) pos) (eOr f g) := by
  refine pe_w (pe_or ha hb) fun σ H Q q => ?_
  obtain ⟨m, σd, S, P, s, rs, p, w⟩ := q
  refine ⟨m, σd, S, _, s, rs, p, fun d S1 m1 v H1 ⟨c, e, p1⟩ g1 s1 r1 => ?_⟩
  subst e
  cases r1
  refine ⟨c, rfl, ?_⟩
  cases c with
  | false => exact iteF ⟨m1, σd, S1, P, s1, rs.up g1, by rw [if_neg (by decide)] at p1; exact p1, w.up g1⟩
  | true => exact iteT (w _ _ _ _ _ (by rw [if_pos rfl] at p1; exact p1) g1 s1 (.bl _))
theorem re_not (ha : RE X a f) : RE X (.UnaryOp .Not a pos) (eNot f) := by
  refine pe_w (pe_not ha) fun σ H Q q => ?_
  obtain ⟨m, σd, S, P, s, rs, p, w⟩ := q
  refine ⟨m, σd, S, _, s, rs, p, fun d S1 m1 v H1 ⟨c, e, p1⟩ g1 s1 r1 => ?_⟩
  subst e
  cases r1
  exact ⟨c, rfl, w _ _ _ _ _ p1 g1 s1 (.bl _)⟩
theorem re_if {c : Expr} (hc : RT X c t) (ha : RE X a f) (hb : RE X b g) : RE X (.IfExp c a b pos) (eIf t f g) := by
  refine pe_w (pe_ifExp hc ha hb) fun σ H Q q => ?_
  obtain ⟨m, σd, S, P, s, rs, p, w⟩ := q
  refine ⟨m, σd, S, _, s, rs, p, fun c S1 m1 H1 p1 g1 s1 => ?_⟩
  cases c with
  | true => exact iteT ⟨m1, σd, S1, P, s1, rs.up g1, by rw [if_pos rfl] at p1; exact p1, w.up g1⟩
  | false => exact iteF ⟨m1, σd, S1, P, s1, rs.up g1, by rw [if_neg (by decide)] at p1; exact p1, w.up g1⟩
/-- is None -/
def eIsN (f : FE) : FE := fun σ S Q => f σ S fun d S1 => Q (.bl (decide (d = .non))) S1
def eNotN (f : FE) : FE := fun σ S Q => f σ S fun d S1 => Q (.bl (!decide (d = .non))) S1
theorem RD.non_iff {K : KW} {m : List Addr} {H : Hp} {d : D} {v : V} (r : RD K m H d v) : decide (v = V.non) = decide (d = D.non) := by
  cases r <;> simp
theorem re_isN {j pos'} (ha : RE X a f) : RE X (.Compare a [.Is] [.Constant .none j pos'] pos) (eIsN f) := by
  refine pe_w (pe_cmp (pc_isN ha) rfl) fun σ H Q q => ?_
  obtain ⟨m, σd, S, P, s, rs, p, w⟩ := q
  exact ⟨m, σd, S, _, s, rs, p, fun d S1 m1 v H1 p1 g1 s1 r1 => by show Q (V.bl (decide (v = V.non))) H1; rw [r1.non_iff]; exact w _ _ _ _ _ p1 g1 s1 (.bl _)⟩
theorem re_notN {j pos'} (ha : RE X a f) : RE X (.Compare a [.IsNot] [.Constant .none j pos'] pos) (eNotN f) := by
  refine pe_w (pe_cmp (pc_notN ha) rfl) fun σ H Q q => ?_
  obtain ⟨m, σd, S, P, s, rs, p, w⟩ := q
  exact ⟨m, σd, S, _, s, rs, p, fun d S1 m1 v H1 p1 g1 s1 r1 => by show Q (V.bl (!decide (v = V.non))) H1; rw [r1.non_iff]; exact w _ _ _ _ _ p1 g1 s1 (.bl _)⟩
end

/-! ### statements -/
def sNext : FS := fun E σ S => E.nx σ S
def sSeq (f g : FS) : FS := fun E σ S => f { E with nx := g E } σ S
def sDrop (f : FE) : FS := fun E σ S => f σ S fun _ S1 => E.nx σ S1
def sRet (f : FE) : FS := fun E σ S => f σ S E.rt
def sRetN : FS := fun E _ S => E.rt .non S
def sIf (t : FT) (f g : FS) : FS := fun E σ S => t σ S fun b S1 => if b = true then f E σ S1 else g E σ S1
def sBreak : FS := fun E σ S => E.bk σ S
def sCont : FS := fun E σ S => E.ct σ S
def sNever : FS := fun _ _ _ => False
section
variable {X : Cx} {st : Stmt} {rest : List Stmt} {f g : FS} {e : Expr} {fe : FE} {pos : Pos}
theorem rs_nil : RSs X [] sNext := by
  refine pss_w pss_nil fun D σ H q => ?_
  obtain ⟨m, σd, S, E, s, r, p, w⟩ := q
  exact w.nx _ _ _ _ _ p (.refl _ _) s r
theorem rs_cons (h1 : RS X st f) (h2 : RSs X rest g) : RSs X (st :: rest) (sSeq f g) := by
  refine pss_w (pss_cons h1 h2) fun D σ H q => ?_
  obtain ⟨m, σd, S, E, s, r, p, w⟩ := q
  exact ⟨m, σd, S, _, s, r, p, ⟨fun σd' S' m' σ' H' q g1 s1 r1 => ⟨m', σd', S', E, s1, r1, q, w.up g1⟩, w.rt, w.bk, w.ct⟩⟩
theorem rs_one (h1 : RS X st f) : RSs X [st] f := pss_one h1
theorem rs_pass : RS X (.Pass pos) sNext := by
  refine ps_w ps_pass fun D σ H q => ?_
  obtain ⟨m, σd, S, E, s, r, p, w⟩ := q
  exact w.nx _ _ _ _ _ p (.refl _ _) s r
theorem rs_break : RS X (.Break pos) sBreak := by
  refine ps_w ps_break fun D σ H q => ?_
  obtain ⟨m, σd, S, E, s, r, p, w⟩ := q
  exact w.bk _ _ _ _ _ p (.refl _ _) s r
theorem rs_continue : RS X (.Continue pos) sCont := by
  refine ps_w ps_continue fun D σ H q => ?_
  obtain ⟨m, σd, S, E, s, r, p, w⟩ := q
  exact w.ct _ _ _ _ _ p (.refl _ _) s r
theorem rs_expr (he : RE X e fe) (hs : swapsWith e none pos.line X.env = pure false := by rfl) : RS X (.Expr e pos) (sDrop fe) := by
  refine ps_w (ps_expr he hs) fun D σ H q => ?_
  obtain ⟨m, σd, S, E, s, r, p, w⟩ := q
  exact ⟨m, σd, S, _, s, r, p, fun d S1 m1 v H1 p1 g1 s1 r1 => w.nx _ _ _ _ _ p1 g1 s1 (r.up g1)⟩
theorem rs_ret (he : RE X e fe) : RS X (.Return (some e) pos) (sRet fe) := by
  refine ps_w (ps_ret he) fun D σ H q => ?_
  obtain ⟨m, σd, S, E, s, r, p, w⟩ := q
  exact ⟨m, σd, S, _, s, r, p, w.rt⟩
theorem rs_retN : RS X (.Return none pos) sRetN := by
  refine ps_w ps_retN fun D σ H q => ?_
  obtain ⟨m, σd, S, E, s, r, p, w⟩ := q
  exact w.rt _ _ _ _ _ p (.refl _ _) s .non
theorem rs_if {c : Expr} {a b : List Stmt} {t : FT} (hc : RT X c t) (ha : RSs X a f) (hb : RSs X b g) : RS X (.If c a b pos) (sIf t f g) := by
  refine ps_w (ps_if hc ha hb) fun D σ H q => ?_
  obtain ⟨m, σd, S, E, s, r, p, w⟩ := q
  refine ⟨m, σd, S, _, s, r, p, fun c S1 m1 H1 p1 g1 s1 => ?_⟩
  cases c with
  | true => exact iteT ⟨m1, σd, S1, E, s1, r.up g1, by rw [if_pos rfl] at p1; exact p1, w.up g1⟩
  | false => exact iteF ⟨m1, σd, S1, E, s1, r.up g1, by rw [if_neg (by decide)] at p1; exact p1, w.up g1⟩
theorem rs_never : RS X st sNever := by
  refine ps_w ps_never fun D σ H q => ?_
  obtain ⟨m, σd, S, E, s, r, p, w⟩ := q
  exact p
theorem rss_never {sts : List Stmt} : RSs X sts sNever := by
  refine pss_w pss_never fun D σ H q => ?_
  obtain ⟨m, σd, S, E, s, r, p, w⟩ := q
  exact p
end

/-! ### targets, assignments -/
abbrev FG := D → Slots → Store → (Slots → Store → Prop) → Prop
abbrev FGs := List D → Slots → Store → (Slots → Store → Prop) → Prop
def tOfG (K : KW) (g : FG) : TG := fun v σ H Q => ∃ m σd S d P, Sim K m S H ∧ RSl K m H σ σd ∧ RD K m H d v ∧ g d σd S P ∧ WS K m H P Q
def tOfGs (K : KW) (g : FGs) : TGs := fun v σ H Q => ∃ m σd S d P, Sim K m S H ∧ RSl K m H σ σd ∧ RDs K m H d v ∧ g d σd S P ∧ WS K m H P Q
abbrev RG (X : Cx) (e : Expr) (g : FG) : Prop := PG X e (tOfG (kW X) g)
abbrev RGs (X : Cx) (e : List Expr) (g : FGs) : Prop := PGs X e (tOfGs (kW X) g)
def gNm (i : Nat) : FG := fun d σ S Q => Q (σ.set i (some d)) S
def gsNil : FGs := fun ds σ S Q => ds = [] ∧ Q σ S
def gsCons (g : FG) (h : FGs) : FGs := fun ds σ S Q => ∃ d r, ds = d :: r ∧ g d σ S fun σ1 S1 => h r σ1 S1 Q
def gTp (n : Nat) (g : FGs) : FG := fun d σ S Q => ∃ xs, d = .tup xs ∧ xs.length = n ∧ g xs σ S Q
def sAsg (f : FE) (g : FG) : FS := fun E σ S => f σ S fun d S1 => g d σ S1 E.nx
def sPar (i j : Nat) (f : FA) : FS := fun E σ S => f σ S fun ds S1 => ∃ a b, ds = [a, b] ∧ E.nx ((σ.set i (some a)).set j (some b)) S1
section
variable {X : Cx} {pos : Pos}
theorem pg_w {e : Expr} {t t' : TG} (h : PG X e t) (w : ∀ v σ H Q, t' v σ H Q → t v σ H Q) : PG X e t' := ⟨fun pins s σ H v u Q I r q => h.run pins s σ H v u Q I r (w v σ H Q q)⟩
theorem pgs_w {e : List Expr} {t t' : TGs} (h : PGs X e t) (w : ∀ v σ H Q, t' v σ H Q → t v σ H Q) : PGs X e t' := ⟨fun pins s σ H v u Q I r q => h.run pins s σ H v u Q I r (w v σ H Q q)⟩
theorem rg_name {i : Nat} {x : Str} (hN : X.N.Nodup) (hi : X.N[i]? = some x := by rfl) (hx : Loc X.env.scope x := by first | exact Or.inl rfl | exact Or.inr rfl) (hf : X.fn x = true ∨ X.env.scope.names.lookup x = some .local := by first | exact .inl rfl | exact .inr rfl | assumption) : RG X (.Name x pos) (gNm i) := by
  refine pg_w (pg_name (pos := pos) hN hi hx hf) fun v σ H Q q => ?_
  obtain ⟨m, σd, S, d, P, s, r, rd, p, w⟩ := q
  exact w _ _ _ _ _ p (.refl _ _) s (r.set rd i)
theorem rgs_nil : RGs X [] gsNil := by
  refine pgs_w pgs_nil fun v σ H Q q => ?_
  obtain ⟨m, σd, S, d, P, s, r, rd, ⟨e, p⟩, w⟩ := q
  subst e
  cases rd
  exact ⟨rfl, w _ _ _ _ _ p (.refl _ _) s r⟩
theorem rgs_cons {e : Expr} {es : List Expr} {g : FG} {h : FGs} (h1 : RG X e g) (h2 : RGs X es h)
    (hs : (assignEach (e :: es) X.env).map (·.2) = assign e X.env :: (assignEach es X.env).map (·.2) := by rfl) : RGs X (e :: es) (gsCons g h) := by
  refine pgs_w (pgs_cons h1 h2 hs) fun v σ H Q q => ?_
  obtain ⟨m, σd, S, ds, P, s, r, rd, ⟨d, dr, e, p⟩, w⟩ := q
  subst e
  cases rd with
  | cons ra rb =>
    exact ⟨_, _, rfl, m, σd, S, d, _, s, r, ra, p, fun σd1 S1 m1 σ1 H1 p1 g1 s1 r1 => ⟨m1, σd1, S1, dr, P, s1, r1, rb.up g1, p1, w.up g1⟩⟩
theorem rg_tup {es : List Expr} {k : Nat} {g : FGs} {n : Nat} (hc : X.calm = true) (h : RGs X es g)
    (hn : (assignEach es X.env).length = n := by rfl) (hst : (assignEach es X.env).findIdx? (·.1) = none := by rfl) : RG X (.Tuple es k pos) (gTp n g) := by
  refine pg_w (pg_tup (pos := pos) hc h hn hst) fun v σ H Q q => ?_
  obtain ⟨m, σd, S, d, P, s, r, rd, ⟨xs, e, hl, p⟩, w⟩ := q
  subst e
  cases rd with
  | tup a z b => exact ⟨_, _, rfl, a, by rw [← b.length]; exact hl, m, σd, S, xs, P, s, r, b, p, w⟩
theorem rs_asg {tg e : Expr} {f : FE} {g : FG} (he : RE X e f) (hg : RG X tg g) (hs : swapsWithSole [tg] e pos.line X.env = pure false := by rfl) (hw : swappedStores [tg] e X.env = pure none := by rfl)
    (h1 : (assignEach [tg] X.env).map (·.2) = [assign tg X.env] := by rfl) : RS X (.Assign [tg] e pos) (sAsg f g) := by
  refine ps_w (ps_asg he hg hs hw h1) fun D σ H q => ?_
  obtain ⟨m, σd, S, E, s, r, p, w⟩ := q
  exact ⟨m, σd, S, _, s, r, p, fun d S1 m1 v H1 p1 g1 s1 r1 => ⟨m1, σd, S1, d, _, s1, r.up g1, r1, p1, w.nx.up g1⟩⟩
theorem rs_set {i : Nat} {x : Str} {e : Expr} {f : FE} {pos' : Pos} (hN : X.N.Nodup) (he : RE X e f) (hi : X.N[i]? = some x := by rfl) (hx : Loc X.env.scope x := by first | exact Or.inl rfl | exact Or.inr rfl) (hs : swapsWith e (some (.Name x pos')) pos.line X.env = pure false := by rfl)
    (hf : X.fn x = true ∨ X.env.scope.names.lookup x = some .local := by first | exact .inl rfl | exact .inr rfl | assumption) : RS X (.Assign [.Name x pos'] e pos) (sAsg f (gNm i)) := by
  refine ps_w (ps_set hN hi hx he hs hf) fun D σ H q => ?_
  obtain ⟨m, σd, S, E, s, r, p, w⟩ := q
  exact ⟨m, σd, S, _, s, r, p, fun d S1 m1 v H1 p1 g1 s1 r1 => w.nx _ _ _ _ _ p1 g1 s1 ((r.up g1).set r1 i)⟩
theorem rs_par {i j : Nat} {x y : Str} {a b : Expr} {f : FA} {px py pt : Pos} {kt k2 pt2} (hc : X.calm = true) (hN : X.N.Nodup) (ha : RA X [a, b] f) (hi : X.N[i]? = some x := by rfl) (hj : X.N[j]? = some y := by rfl) (hij : i ≠ j := by decide)
    (hx : X.env.scope.names.lookup x = some .local := by rfl) (hy : X.env.scope.names.lookup y = some .local := by rfl)
    (hw : swappedStores [.Tuple [.Name x px, .Name y py] kt pt] (.Tuple [a, b] k2 pt2) X.env = pure (some [x, y]) := by rfl)
    (hs : swapsWithSole [.Tuple [.Name x px, .Name y py] kt pt] (.Tuple [a, b] k2 pt2) pos.line X.env = pure false := by rfl) :
    RS X (.Assign [.Tuple [.Name x px, .Name y py] kt pt] (.Tuple [a, b] k2 pt2) pos) (sPar i j f) := by
  refine ps_w (ps_par hc hN hi hj hij hx hy ha hw hs) fun D σ H q => ?_
  obtain ⟨m, σd, S, E, s, r, p, w⟩ := q
  refine ⟨m, σd, S, _, s, r, p, fun d S1 m1 v H1 ⟨a, b, e, p1⟩ g1 s1 r1 => ?_⟩
  subst e
  cases r1 with
  | cons ra rb =>
    cases rb with
    | cons rb rn =>
      cases rn
      exact ⟨_, _, rfl, w.nx _ _ _ _ _ p1 g1 s1 (((r.up g1).set ra i).set rb j)⟩
end
end SD
/-! SD3: operators and built-ins over D. -/
namespace SD
open PySem PySem.Spec PyProof.Rows L2

/-! ### dicts by value keys -/
def toKey : D → Option Key
  | .int i => some (.inl i)
  | .str s => some (.inr s)
  | _ => none
theorem toKey_eq {d : D} {k : Key} (h : toKey d = some k) : d = keyD k := by
  cases d <;> simp [toKey] at h <;> subst h <;> rfl
theorem toKey_keyD (k : Key) : toKey (keyD k) = some k := by cases k <;> rfl
def valD (kvs : List (D × D)) (k : D) : Option D := (kvs.find? fun p => decide (p.1 = k)).map (·.2)
def putD (kvs : List (D × D)) (k v : D) : List (D × D) := if kvs.any (fun p => decide (p.1 = k)) then kvs.map fun p => if p.1 = k then (p.1, v) else p else kvs ++ [(k, v)]
theorem RD.key {K : KW} {m : List Addr} {H : Hp} {k : Key} {v : V} (r : RD K m H (keyD k) v) : v = kV k := by
  cases k <;> cases r <;> rfl
theorem RD.ofKey {K : KW} {m : List Addr} {H : Hp} (k : Key) : RD K m H (keyD k) (kV k) := by
  cases k
  · exact .int _
  · exact .str _
section
variable {K : KW} {m : List Addr} {H : Hp}
theorem RKV.val : ∀ {kvs : List (D × D)} {kw : List (Key × V)} (r : RKV K m H kvs kw) (k : Key), (∃ d v, valD kvs (keyD k) = some d ∧ valV kw k = some v ∧ RD K m H d v) ∨ (valD kvs (keyD k) = none ∧ valV kw k = none)
  | _, _, .nil, k => .inr ⟨rfl, rfl⟩
  | (p :: kvs), (q :: kw), .cons h t, k => by
    by_cases e : q.1 = k
    · refine .inl ⟨p.2, q.2, ?_, valV_pos e, h.2⟩
      unfold valD
      rw [List.find?_cons_of_pos (by rw [h.1, e]; exact decide_eq_true rfl)]
      rfl
    · have e' : ¬ p.1 = keyD k := fun z => e (keyD_inj (h.1.symm.trans z))
      have := RKV.val t k
      rw [valV_neg e]
      unfold valD at this ⊢
      rw [List.find?_cons_of_neg (by simpa using e')]
      exact this
theorem RKV.length {kvs : List (D × D)} {kw : List (Key × V)} (r : RKV K m H kvs kw) : kvs.length = kw.length := Paired.length r
theorem RKV.any {kvs : List (D × D)} {kw : List (Key × V)} (r : RKV K m H kvs kw) (k : Key) : (kvs.any fun p => decide (p.1 = keyD k)) = kw.any fun p => decide (p.1 = k) := by
  induction r with
  | nil => rfl
  | @cons p q _ _ h t ih =>
    rw [List.any_cons, List.any_cons, ih, h.1]
    by_cases e : q.1 = k
    · rw [e]; simp
    · rw [decide_eq_false e, decide_eq_false fun z => e (keyD_inj z)]
theorem RKV.repl (k : Key) {d : D} {v : V} (rd : RD K m H d v) : ∀ {kvs : List (D × D)} {kw : List (Key × V)}, RKV K m H kvs kw → RKV K m H (kvs.map fun p => if p.1 = keyD k then (p.1, d) else p) (kw.map fun kv => if kv.1 = k then (kv.1, v) else kv)
  | _, _, .nil => .nil
  | (p :: _), (q :: _), .cons h t => by
    rw [List.map_cons, List.map_cons]
    refine .cons ?_ (RKV.repl k rd t)
    by_cases e : q.1 = k
    · rw [if_pos e, if_pos (by rw [h.1, e])]
      exact ⟨h.1, rd⟩
    · rw [if_neg e, if_neg (by rw [h.1]; exact fun z => e (keyD_inj z))]
      exact h
theorem RKV.snoc (k : Key) {d : D} {v : V} (rd : RD K m H d v) : ∀ {kvs : List (D × D)} {kw : List (Key × V)}, RKV K m H kvs kw → RKV K m H (kvs ++ [(keyD k, d)]) (kw ++ [(k, v)])
  | _, _, .nil => .cons ⟨rfl, rd⟩ .nil
  | _, _, .cons h t => .cons h (RKV.snoc k rd t)
theorem RKV.put {kvs : List (D × D)} {kw : List (Key × V)} (r : RKV K m H kvs kw) (k : Key) {d : D} {v : V} (rd : RD K m H d v) : RKV K m H (putD kvs (keyD k) d) (putK kw k v) := by
  unfold putD putK
  rw [r.any k]
  split
  · exact RKV.repl k rd r
  · exact RKV.snoc k rd r
theorem length_putD (kvs : List (D × D)) (k v : D) : (putD kvs k v).length ≤ kvs.length + 1 := by
  unfold putD
  split <;> simp
end

/-! ### reading -/
def ixF : F2 := fun o i S Q => match o, i with
  | .tup xs, .int k => ∃ v, atI xs k = some v ∧ Q v S
  | .frz xs, .int k => ∃ v, atI xs k = some v ∧ Q v S
  | .ref n, i => (match S[n]? with
    | some (.lst xs) => ∃ k v, i = .int k ∧ atI xs k = some v ∧ Q v S
    | some (.dct kvs) => ∃ k v, toKey i = some k ∧ valD kvs i = some v ∧ Q v S
    | some (.lck kvs) => ∃ k v, toKey i = some k ∧ valD kvs i = some v ∧ Q v S
    | _ => False)
  | _, _ => False
section
variable {K : KW} {m : List Addr} {H : Hp}
theorem RDs.atI {xs : List D} {vs : List V} (r : RDs K m H xs vs) {k : Int} {d : D} (h : L2.atI xs k = some d) : ∃ v, L2.atI vs k = some v ∧ RD K m H d v := by
  unfold L2.atI at h ⊢
  rw [← r.length]
  cases e : ixN xs.length k with
  | none => rw [e] at h; cases h
  | some j =>
    rw [e] at h
    exact r.get h
theorem dget_of {kvs : List (D × D)} {kw : List (Key × V)} {p : Addr} {d dk : D} {k : Key} {y : V} (r : RKV K m H kvs kw) (hp : Rd H p (.dK kw)) (hk : toKey dk = some k) (ry : RD K m H dk y) (h : valD kvs dk = some d) : ∃ v, DGet H p y (some v) ∧ RD K m H d v := by
  have e := toKey_eq hk
  subst e
  have ey := ry.key
  subst ey
  rcases r.val k with ⟨d', v, h1, h2, h3⟩ | ⟨h1, _⟩
  · rw [h] at h1; cases h1
    exact ⟨v, .inl ⟨kw, k, hp, rfl, by rw [h2]⟩, h3⟩
  · rw [h] at h1; cases h1
end
section
variable {X : Cx}
def rIxD : R2 := fun x y H Q => ∃ a v, x = .ref a ∧ DGet H a y (some v) ∧ Q v H
theorem ix_dict (hu : X.A.units + 1 < cLine) : IxR X rIxD := by
  intro value slice pins s σ H x y v u Q I rx ry h hs
  obtain ⟨a, w, rfl, g, q⟩ := h
  cases rx
  have hT := dict_typeIs I g
  unfold subscriptTail
  refine wpAny_bind ?_
  rw [getitemInPython_of_ne hT.not_modules]
  refine wpAny_bind (wpAny_specialOf hT PySem.F.slot_dict_getitem.lookup ?_)
  have fin : wpAny (model X.prog X.w) X.A (subscripted slice false (.ref a) u) (fun r s₃ => wpAny (model X.prog X.w) X.A (letTemporaryGo value (.ref a) r >>= fun _ => pure r) (EP X pins σ Q) X.xe s₃) X.xe s := by
    rw [hs]
    exact wpAny_operating (d_getItem hu I g ry fun w' s' I' r' => wpAny_bind (wpAny_letTemporaryGo (wpAny_pure ⟨w, H, I', r', q⟩)))
  first
    | exact wpAny_pure (wpAny_bind fin)
    | exact wpAny_bind (wpAny_pure (wpAny_bind fin))
    | exact wpAny_bind fin
theorem id_ix (hu : X.A.units + 1 < cLine) : IxD X ixF := by
  refine ⟨_, ix_list.or (ix_tup.or (ix_dict hu)), fun m S H x y v u P Q s rx ry h w => ?_⟩
  cases rx with
  | @tup p xs vs a z b =>
    cases ry <;> try exact False.elim h
    obtain ⟨d, h1, h2⟩ := h
    obtain ⟨v, e1, e2⟩ := b.atI h1
    exact .inr (.inl ⟨p, vs, _, v, rfl, rfl, a, e1, w _ _ _ _ _ h2 (.refl _ _) s e2⟩)
  | @frz p xs vs a z b =>
    cases ry <;> try exact False.elim h
    obtain ⟨d, h1, h2⟩ := h
    obtain ⟨v, e1, e2⟩ := b.atI h1
    exact .inl ⟨p, vs, _, v, rfl, rfl, a.sq, e1, w _ _ _ _ _ h2 (.refl _ _) s e2⟩
  | @ref n p a =>
    have h : (match S[n]? with
      | some (.lst xs) => ∃ k v, y = .int k ∧ L2.atI xs k = some v ∧ P v S
      | some (.dct kvs) => ∃ k v, toKey y = some k ∧ valD kvs y = some v ∧ P v S
      | some (.lck kvs) => ∃ k v, toKey y = some k ∧ valD kvs y = some v ∧ P v S
      | _ => False) := h
    cases e : S[n]? with
    | none => rw [e] at h; exact h.elim
    | some c =>
      rw [e] at h
      have r := s.cell n p c a e
      cases c with
      | lst xs =>
        obtain ⟨k, d, rfl, h1, h2⟩ := h
        cases ry
        generalize eo : H p = o at r
        cases r with
        | lst z b =>
          obtain ⟨v, e1, e2⟩ := b.atI h1
          exact .inl ⟨p, _, _, v, rfl, rfl, SqL.of eo, e1, w _ _ _ _ _ h2 (.refl _ _) s e2⟩
      | dct kvs =>
        obtain ⟨k, d, h0, h1, h2⟩ := h
        generalize eo : H p = o at r
        cases r with
        | dct z b =>
          obtain ⟨v, e1, e2⟩ := dget_of b (.inl eo) h0 ry h1
          exact .inr (.inr ⟨p, v, rfl, e1, w _ _ _ _ _ h2 (.refl _ _) s e2⟩)
      | lck kvs =>
        obtain ⟨k, d, h0, h1, h2⟩ := h
        generalize eo : H p = o at r
        cases r with
        | lck z b =>
          obtain ⟨v, e1, e2⟩ := dget_of b (.inr ⟨_, eo⟩) h0 ry h1
          exact .inr (.inr ⟨p, v, rfl, e1, w _ _ _ _ _ h2 (.refl _ _) s e2⟩)
      | tdc kvs => exact h.elim
      | tlk kvs => exact h.elim
  | _ => exact False.elim h
end

/-! ### arithmetic -/
def addF : F2 := fun x y S Q => match x, y with
  | .int i, .int j => Q (.int (i + j)) S
  | .tup xs, .tup ys => xs.length + ys.length ≤ sizeLine ∧ Q (.tup (xs ++ ys)) S
  | .ref n, .ref k => ∃ xs ys, S[n]? = some (.lst xs) ∧ S[k]? = some (.lst ys) ∧ xs.length + ys.length ≤ sizeLine ∧ Q (.ref S.length) (S ++ [.lst (xs ++ ys)])
  | .str a, .str b => a.length + b.length ≤ sizeLine ∧ Q (.str (a ++ b)) S
  | _, _ => False
def intF (f : Int → Int → D) : F2 := fun x y S Q => match x, y with
  | .int i, .int j => Q (f i j) S
  | _, _ => False
def intCF (C : Int → Int → Prop) (f : Int → Int → D) : F2 := fun x y S Q => match x, y with
  | .int i, .int j => C i j ∧ Q (f i j) S
  | _, _ => False
section
variable {X : Cx}
theorem R2R.I0 {K : KW} {g : Int → Int → V} {f : Int → Int → D} (h : ∀ m H i j, RD K m H (f i j) (g i j)) : R2R K (intF f) (rI0 g) := by
  intro m S H x y v u P Q s rx ry p w
  cases rx <;> cases ry <;> first | exact False.elim p | skip
  exact ⟨_, _, rfl, rfl, w _ _ _ _ _ p (.refl _ _) s (h _ _ _ _)⟩
theorem R2R.I {K : KW} {C : Int → Int → Prop} {g : Int → Int → V} {f : Int → Int → D} (h : ∀ m H i j, RD K m H (f i j) (g i j)) : R2R K (intCF C f) (rI C g) := by
  intro m S H x y v u P Q s rx ry p w
  cases rx <;> cases ry <;> first | exact False.elim p | skip
  exact ⟨_, _, rfl, rfl, p.1, w _ _ _ _ _ p.2 (.refl _ _) s (h _ _ _ _)⟩
theorem od_sub : OpD X (binaryOp .Sub) (intF fun i j => .int (i - j)) := ⟨_, op_sub, R2R.I0 fun _ _ _ _ => .int _⟩
theorem od_mul : OpD X (binaryOp .Mult) (intCF CMul fun i j => .int (i * j)) := ⟨_, op_mul, R2R.I fun _ _ _ _ => .int _⟩
theorem od_mod : OpD X (binaryOp .Mod) (intCF (fun _ j => 0 < j) fun i j => .int (i % j)) := ⟨_, op_mod, R2R.I fun _ _ _ _ => .int _⟩
theorem od_fdiv : OpD X (binaryOp .FloorDiv) (intCF CDiv fun i j => .int (i / j)) := ⟨_, op_fdiv, R2R.I fun _ _ _ _ => .int _⟩
theorem od_lt : OpD X (compareOp .Lt) (intF fun i j => .bl (decide (i < j))) := ⟨_, op_lt, R2R.I0 fun _ _ _ _ => .bl _⟩
theorem od_le : OpD X (compareOp .LtE) (intF fun i j => .bl (decide (i ≤ j))) := ⟨_, op_le, R2R.I0 fun _ _ _ _ => .bl _⟩
theorem od_gt : OpD X (compareOp .Gt) (intF fun i j => .bl (decide (j < i))) := ⟨_, op_gt, R2R.I0 fun _ _ _ _ => .bl _⟩
theorem od_ge : OpD X (compareOp .GtE) (intF fun i j => .bl (decide (j ≤ i))) := ⟨_, op_ge, R2R.I0 fun _ _ _ _ => .bl _⟩
theorem RDs.nil_iff {K : KW} {m : List Addr} {H : Hp} {xs : List D} {vs : List V} (r : RDs K m H xs vs) : vs = [] ↔ xs = [] := by
  cases r <;> simp
theorem od_add : OpD X (binaryOp .Add) addF := by
  refine ⟨_, op_add.or (op_catA.or (op_cat.or op_add_str)), fun m S H x y v u P Q s rx ry p w => ?_⟩
  cases rx <;> cases ry <;> first | exact False.elim p | skip
  case int.int i j => exact .inl ⟨_, _, rfl, rfl, w _ _ _ _ _ p (.refl _ _) s (.int _)⟩
  case str.str a b => exact .inr (.inr (.inr ⟨_, _, rfl, rfl, p.1, w _ _ _ _ _ p.2 (.refl _ _) s (.str _)⟩))
  case tup.tup p1 xs vs h1 z1 r1 p2 ys us h2 z2 r2 =>
    obtain ⟨hz, hp⟩ := p
    refine .inr (.inl ⟨p1, p2, vs, us, rfl, rfl, h1, h2, by rw [← r1.length, ← r2.length]; exact hz, fun e => ?_, fun e1 e2 => ?_, fun e1 e2 a ha => ?_⟩)
    · rw [r1.nil_iff.mp e] at hp
      exact w _ _ _ _ _ hp (.refl _ _) s (.tup h2 z2 r2)
    · rw [r2.nil_iff.mp e2, List.append_nil] at hp
      exact w _ _ _ _ _ hp (.refl _ _) s (.tup h1 z1 r1)
    · have g2 : Grow m H m (upd H a (.tup (vs ++ us))) := Grow.new ha _ (List.prefix_refl _)
      refine w _ _ _ _ _ hp g2 (s.plus ha _) (.tup (SqT.of upd_same) ?_ ((r1.up g2).append (r2.up g2)))
      rw [List.length_append, ← r1.length, ← r2.length]; exact hz
  case ref.ref n p1 h1 k p2 h2 =>
    obtain ⟨xs, ys, e1, e2, hz, hp⟩ := p
    have c1 := s.cell n p1 _ h1 e1
    have c2 := s.cell k p2 _ h2 e2
    generalize q1 : H p1 = o1 at c1
    generalize q2 : H p2 = o2 at c2
    cases c1 with
    | lst z1 r1 =>
      cases c2 with
      | lst z2 r2 =>
        refine .inr (.inr (.inl ⟨p1, p2, _, _, rfl, rfl, q1, q2, by rw [← r1.length, ← r2.length]; exact hz, fun a ha => ?_⟩))
        obtain ⟨g2, s2, r⟩ := new_lst s ha (r1.append r2) (by rw [List.length_append]; exact hz)
        exact w _ _ _ _ _ hp g2 s2 r
end

/-! ### == of plain data -/
mutual
def okD : D → Bool
  | .non | .int _ => true
  | .str x => PyData.canLay0 (.str x)
  | .tup xs => okDs xs
  | _ => false
def okDs : List D → Bool
  | [] => true
  | x :: xs => okD x && okDs xs
end
mutual
def toPy : D → PyData
  | .non => .none
  | .bl b => .bool b
  | .int i => .int i
  | .str s => .str s
  | .tup xs => .tuple (toPys xs)
  | .frz xs => .list (toPys xs)
  | .ref _ => .none
def toPys : List D → List PyData
  | [] => []
  | x :: xs => toPy x :: toPys xs
end
def plainD (d : D) : Bool := okD d && decide ((toPy d).depth ≤ 64)
def plainDs (ds : List D) : Bool := okDs ds && decide ((PyData.list (toPys ds)).depth ≤ 64)
mutual
theorem canLay_toPy : ∀ d : D, okD d = true → (toPy d).canLay0 = true
  | .non, _ => rfl
  | .int _, _ => rfl
  | .str x, h => h
  | .tup xs, h => by
    rw [okD] at h
    rw [toPy, PyData.canLay0]
    exact canLay_toPys xs h
  | .bl _, h => by simp [okD] at h
  | .frz _, h => by simp [okD] at h
  | .ref _, h => by simp [okD] at h
theorem canLay_toPys : ∀ ds : List D, okDs ds = true → PyData.canLayAll0 (toPys ds) = true
  | [], _ => rfl
  | x :: xs, h => by
    rw [okDs, Bool.and_eq_true] at h
    rw [toPys, PyData.canLayAll0, canLay_toPy x h.1, canLay_toPys xs h.2]
    rfl
end
theorem shaped_of {d : D} (h : plainD d = true) : SeqAt.shaped (toPy d) = true := by
  unfold plainD at h
  rw [Bool.and_eq_true] at h
  unfold SeqAt.shaped
  rw [canLay_toPy d h.1]
  simpa using h.2
mutual
theorem eqv_toPy : ∀ a b : D, okD a = true → okD b = true → PyData.eqv (toPy a) (toPy b) = decide (a = b)
  | .non, b, _, h => by cases b <;> simp [okD] at h <;> simp [toPy, PyData.eqv]
  | .int a, b, _, h => by
    cases b <;> simp [okD] at h <;> simp [toPy, PyData.eqv]
    rename_i b
    by_cases e : a = b <;> simp [e]
  | .str a, b, _, h => by
    cases b <;> simp [okD] at h <;> simp [toPy, PyData.eqv]
    rename_i b
    by_cases e : a = b <;> simp [e]
  | .tup a, b, ha, h => by
    cases b with
    | tup b =>
      rw [okD] at ha h
      simp only [toPy, PyData.eqv]
      rw [eqv_toPys a b ha h]
      by_cases e : a = b <;> simp [e]
    | non => simp [toPy, PyData.eqv]
    | int _ => simp [toPy, PyData.eqv]
    | str _ => simp [toPy, PyData.eqv]
    | _ => simp [okD] at h
  | .bl _, _, h, _ => by simp [okD] at h
  | .frz _, _, h, _ => by simp [okD] at h
  | .ref _, _, h, _ => by simp [okD] at h
theorem eqv_toPys : ∀ a b : List D, okDs a = true → okDs b = true → PyData.eqvAll (toPys a) (toPys b) = decide (a = b)
  | [], [], _, _ => by simp [toPys, PyData.eqvAll]
  | [], _ :: _, _, _ => by simp [toPys, PyData.eqvAll]
  | _ :: _, [], _, _ => by simp [toPys, PyData.eqvAll]
  | a :: as, b :: bs, ha, hb => by
    rw [okDs, Bool.and_eq_true] at ha hb
    simp only [toPys, PyData.eqvAll]
    rw [eqv_toPy a b ha.1 hb.1, eqv_toPys as bs ha.2 hb.2]
    by_cases e1 : a = b <;> by_cases e2 : as = bs <;> simp [e1, e2]
end
section
variable {K : KW} {m : List Addr} {H : Hp}
mutual
theorem dp_of : ∀ (d : D) (v : V), okD d = true → RD K m H d v → Dp K H v (toPy d)
  | .non, _, _, h => by cases h; exact .non
  | .int i, _, _, h => by cases h; exact .int i
  | .str i, _, _, h => by cases h; exact .str i
  | .tup xs, _, ok, h => by
    rw [okD] at ok
    cases h with
    | tup a z b => exact .tup a (dps_of xs _ ok b)
  | .bl _, _, h, _ => by simp [okD] at h
  | .frz _, _, h, _ => by simp [okD] at h
  | .ref _, _, h, _ => by simp [okD] at h
theorem dps_of : ∀ (d : List D) (v : List V), okDs d = true → RDs K m H d v → DpAll K H v (toPys d)
  | [], _, _, h => by cases h; exact .nil
  | d :: ds, _, ok, h => by
    rw [okDs, Bool.and_eq_true] at ok
    cases h with
    | cons a b => exact .cons (dp_of d _ ok.1 a) (dps_of ds _ ok.2 b)
end
end
/-- dicts alike -/
def sameD (ks ls : List (D × D)) : Bool := ks.length == ls.length && ks.all fun p => decide (valD ls p.1 = some p.2)
def flatI : D → Bool
  | .int _ => true
  | _ => false
def homD (kvs : List (D × D)) : Prop := (∀ p ∈ kvs, p.2 = .bl true) ∨ (∀ p ∈ kvs, flatI p.2 = true)
def eqF (neg : Bool) : F2 := fun x y S Q => match x, y with
  | .int i, .int j => Q (.bl (decide (i = j) ^^ neg)) S
  | .str i, .str j => Q (.bl (decide (i = j) ^^ neg)) S
  | .bl i, .bl j => Q (.bl (decide (i = j) ^^ neg)) S
  | .ref n, .non => neg = true ∧ (∃ kvs, S[n]? = some (.dct kvs)) ∧ Q (.bl true) S
  | .ref n, .ref k => (∃ ks ls, S[n]? = some (.dct ks) ∧ S[k]? = some (.dct ls) ∧ homD (ks ++ ls) ∧ Q (.bl (sameD ks ls ^^ neg)) S) ∨
      (∃ xs ys, S[n]? = some (.lst xs) ∧ S[k]? = some (.lst ys) ∧ plainDs xs = true ∧ plainDs ys = true ∧ Q (.bl (decide (xs = ys) ^^ neg)) S)
  | x, y => plainD x = true ∧ plainD y = true ∧ Q (.bl (decide (x = y) ^^ neg)) S
def rDN (k : Bool) : R2 := fun x y H Q => ∃ a kvs, x = .ref a ∧ y = .non ∧ H a = some (.dK kvs) ∧ Q (.bl k) H
section
variable {X : Cx}
theorem dict_ne_none {d : Addr} {s : Shared} {Q : Value → Shared → Prop} (hT : s.TypeIs (.ref d) "dict") (h : Q .notImplemented s) : wpAny (model X.prog X.w) X.A (call (.builtin "dict.__ne__") [.ref d, .none]) Q X.xe s := by
  refine wpAny_call_entry PySem.F.slot_dict_ne hT PySem.F.entry_dict_ne ?_ (PySem.F.args_dict_ne_2 _ _)
  show wpAny _ _ (Builtin.Dict.dictSlotArgs "__ne__" ⟨[.ref d, .none], []⟩ >>= _) _ _ s
  refine wpAny_bind ?_
  unfold Builtin.Dict.dictSlotArgs
  refine wpAny_bind (wpAny_notOrdered_dict hT ?_)
  show wpAny _ _ (pure (Value.ref d, Value.none)) _ _ s
  refine wpAny_pure ?_
  refine wpAny_bind (wpAny_isInstance (T := "NoneType") (s := s) rfl PySem.F.sub_NoneType_dict ?_)
  simp only [Bool.not_false, if_true]
  exact wpAny_bind (wpAny_rule (wpAny_pure ⟨_, rfl, h⟩))
theorem op_ne_none (hu : X.A.units < cLine) : OpR X (compareOp .NotEq) (rDN true) := by
  intro pins s σ H x y v u Q I rx ry h
  obtain ⟨a, kvs, rfl, rfl, ea, q⟩ := h
  cases rx
  cases ry
  obtain ⟨_, ya, va, ra, da⟩ := (show ObjOk X.prog X.w H s.heap a (.dK kvs) from I.hok a _ ea)
  exact SeqAt.rc_ne_decline_or (k := false) da.typeIs rfl (by decide) PySem.F.sub_NoneType_dict PySem.F.slot_dict_ne PySem.F.slot_NoneType_ne_refl
    (fun _ hq => dict_ne_none da.typeIs hq)
    (fun _ hq => _root_.PySem.call_gives PySem.F.slot_NoneType_ne_refl rfl PySem.F.entry_NoneType_ne (PySem.F.args_NoneType_ne_2 _ _) (SeqAt.NoneType___ne___none_ref_0 a) hq)
    (fun _ hq => wpAny_of_eq (rfl : isSame (.ref a) .none = pure false) hq) (.inr hu) (fin_bl I q rfl)
end
end SD
/-! SD4: ==, in, len, list, tuple, sorted, any, all, isinstance over D. -/
namespace SD
open PySem PySem.Spec PyProof.Rows L2

/-! ### dicts compared -/
section
variable {X : Cx}
def sameV (ks ls : List (Key × V)) : Bool := ks.length == ls.length && ks.all fun p => match valV ls p.1 with
  | none => false
  | some y => eqV p.2 y
def rDD (neg : Bool) : R2 := fun x y H Q => ∃ a b ks ls, x = .ref a ∧ y = .ref b ∧ H a = some (.dK ks) ∧ H b = some (.dK ls) ∧ (∀ p ∈ ks, flatV p.2 = true) ∧ (∀ p ∈ ls, flatV p.2 = true) ∧ Q (.bl (sameV ks ls ^^ neg)) H
theorem valV_mem {ls : List (Key × V)} {k : Key} {v : V} (h : valV ls k = some v) : ∃ p ∈ ls, p.2 = v := by
  unfold valV at h
  cases e : ls.find? fun kv => decide (kv.1 = k) with
  | none => rw [e] at h; cases h
  | some p =>
    rw [e] at h
    cases h
    exact ⟨p, List.mem_of_find?_eq_some e, rfl⟩
theorem hits_of {A : Around} {s : Shared} {ls : List (Key × V)} {vl : List (Key × Value)} (rl : KV ls vl) (fl : ∀ p ∈ ls, flatV p.2 = true) :
    ∀ {ks : List (Key × V)} {vk : List (Key × Value)}, KV ks vk → (∀ p ∈ ks, flatV p.2 = true) → PySem.W.KeqHits A s vl vk (ks.all fun p => match valV ls p.1 with
      | none => false
      | some y => eqV p.2 y)
  | _, _, .nil, _ => .nil
  | (p :: ks), (q :: vk), .cons h t, f => by
    rw [List.all_cons]
    obtain ⟨k, v⟩ := q
    have ek : p.1 = k := h.1
    have rv : RelV p.2 v := h.2
    have rr := rl.val p.1
    rw [ek] at rr ⊢
    cases e : valV ls k with
    | none =>
      rw [e] at rr
      cases e2 : valueAt vl k with
      | none => exact .miss e2
      | some _ => rw [e2] at rr; exact rr.elim
    | some y =>
      rw [e] at rr
      cases e2 : valueAt vl k with
      | none => rw [e2] at rr; exact rr.elim
      | some u =>
        rw [e2] at rr
        obtain ⟨z, hz, ez⟩ := valV_mem e
        exact .hit e2 (eqAt_V rv rr (f p List.mem_cons_self) (by rw [← ez]; exact fl z hz)) (hits_of rl fl t fun p hp => f p (List.mem_cons_of_mem _ hp))
theorem op_dd_eq (hu : X.A.units < cLine) : OpR X (compareOp .Eq) (rDD false) := by
  intro pins s σ H x y v u Q I rx ry h
  obtain ⟨a, b, ks, ls, rfl, rfl, ea, eb, fk, fl, q⟩ := h
  cases rx
  cases ry
  obtain ⟨_, ya, va, ra, da⟩ := (show ObjOk X.prog X.w H s.heap a (.dK ks) from I.hok a _ ea)
  obtain ⟨_, yb, vb, rb, db⟩ := (show ObjOk X.prog X.w H s.heap b (.dK ls) from I.hok b _ eb)
  exact PySem.W.keq_eq (knd := mixKind X.prog X.w) ya yb da db hu (fun _ => hits_of rb fl ra fk) (fin_bl I q (by unfold sameV; rw [Bool.xor_false, ra.length, rb.length]))
theorem op_dd_ne (hu : X.A.units < cLine) : OpR X (compareOp .NotEq) (rDD true) := by
  intro pins s σ H x y v u Q I rx ry h
  obtain ⟨a, b, ks, ls, rfl, rfl, ea, eb, fk, fl, q⟩ := h
  cases rx
  cases ry
  obtain ⟨_, ya, va, ra, da⟩ := (show ObjOk X.prog X.w H s.heap a (.dK ks) from I.hok a _ ea)
  obtain ⟨_, yb, vb, rb, db⟩ := (show ObjOk X.prog X.w H s.heap b (.dK ls) from I.hok b _ eb)
  exact PySem.W.keq_ne (knd := mixKind X.prog X.w) ya yb da db hu (fun _ => hits_of rb fl ra fk) (fin_bl I q (by unfold sameV; rw [Bool.xor_true, ra.length, rb.length]))
end
section
variable {K : KW} {m : List Addr} {H : Hp}
theorem flat_of {d : D} {v : V} (r : RD K m H d v) (h : d = .bl true ∨ flatI d = true) : flatV v = true := by
  rcases h with h | h
  · subst h; cases r; rfl
  · cases r <;> first | rfl | (simp [flatI] at h)
theorem RKV.mem_r : ∀ {kvs : List (D × D)} {kw : List (Key × V)}, RKV K m H kvs kw → ∀ q ∈ kw, ∃ p ∈ kvs, p.1 = keyD q.1 ∧ RD K m H p.2 q.2
  | _, _, .nil, _, h => by cases h
  | _, _, .cons h t, q, hq => by
    rcases List.mem_cons.mp hq with rfl | hq
    · exact ⟨_, List.mem_cons_self, h⟩
    · obtain ⟨p, a, b⟩ := RKV.mem_r t q hq
      exact ⟨p, List.mem_cons_of_mem _ a, b⟩
theorem hom_flat {ks : List (D × D)} {kw : List (Key × V)} (r : RKV K m H ks kw) (h : homD ks) : ∀ p ∈ kw, flatV p.2 = true := by
  intro q hq
  obtain ⟨p, hp, _, rd⟩ := r.mem_r q hq
  rcases h with h | h
  · exact flat_of rd (.inl (h p hp))
  · exact flat_of rd (.inr (h p hp))
theorem homD.left {a b : List (D × D)} (h : homD (a ++ b)) : homD a := h.imp (fun h p hp => h p (List.mem_append_left _ hp)) fun h p hp => h p (List.mem_append_left _ hp)
theorem homD.right {a b : List (D × D)} (h : homD (a ++ b)) : homD b := h.imp (fun h p hp => h p (List.mem_append_right _ hp)) fun h p hp => h p (List.mem_append_right _ hp)
theorem eqV_hom {d e : D} {v w : V} (rd : RD K m H d v) (re : RD K m H e w) (h : (d = .bl true ∧ e = .bl true) ∨ (flatI d = true ∧ flatI e = true)) : eqV v w = decide (e = d) := by
  rcases h with ⟨rfl, rfl⟩ | ⟨h1, h2⟩
  · cases rd; cases re; rfl
  · cases rd <;> first | (simp [flatI] at h1; done) | skip
    cases re <;> first | (simp [flatI] at h2; done) | skip
    rename_i i j
    simp only [eqV, D.int.injEq]
    by_cases q : i = j
    · subst q; simp
    · rw [decide_eq_false (fun z => q z.symm)]
      simpa using q
theorem sameV_eq {ks ls : List (D × D)} {kw lw : List (Key × V)} (rk : RKV K m H ks kw) (rl : RKV K m H ls lw) (h : homD (ks ++ ls)) : sameV kw lw = sameD ks ls := by
  unfold sameV sameD
  rw [rk.length, rl.length]
  congr 1
  have hm : ∀ p ∈ ks, ∀ q ∈ ls, (p.2 = .bl true ∧ q.2 = .bl true) ∨ (flatI p.2 = true ∧ flatI q.2 = true) := fun p hp q hq =>
    h.imp (fun h => ⟨h p (List.mem_append_left _ hp), h q (List.mem_append_right _ hq)⟩) fun h => ⟨h p (List.mem_append_left _ hp), h q (List.mem_append_right _ hq)⟩
  clear h
  induction rk with
  | nil => rfl
  | @cons p q ks kw hd t ih =>
    rw [List.all_cons, List.all_cons, ih fun p hp => hm p (List.mem_cons_of_mem _ hp)]
    congr 1
    rw [hd.1]
    rcases rl.val q.1 with ⟨d, v, e1, e2, r⟩ | ⟨e1, e2⟩
    · rw [e1, e2]
      have hmem : ∃ z ∈ ls, z.2 = d := by
        unfold valD at e1
        cases e : ls.find? fun kv => decide (kv.1 = keyD q.1) with
        | none => rw [e] at e1; cases e1
        | some z =>
          rw [e] at e1
          cases e1
          exact ⟨z, List.mem_of_find?_eq_some e, rfl⟩
      obtain ⟨z, hz, rfl⟩ := hmem
      show eqV q.2 v = _
      rw [eqV_hom hd.2 r (hm p List.mem_cons_self z hz)]
      simp
    · rw [e1, e2]
      simp
end

/-! ### == and != -/
section
variable {X : Cx}
theorem eq_dp {K : KW} {m : List Addr} {H : Hp} {x y : D} {v u : V} (rx : RD K m H x v) (ry : RD K m H y u) (hx : plainD x = true) (hy : plainD y = true) :
    ∃ d e, Dp K H v d ∧ Dp K H u e ∧ SeqAt.shaped d = true ∧ SeqAt.shaped e = true ∧ PyData.eqv d e = decide (x = y) := by
  have ox : okD x = true := (Bool.and_eq_true_iff.mp hx).1
  have oy : okD y = true := (Bool.and_eq_true_iff.mp hy).1
  exact ⟨_, _, dp_of x v ox rx, dp_of y u oy ry, shaped_of hx, shaped_of hy, eqv_toPy x y ox oy⟩
theorem eq_dps {K : KW} {m : List Addr} {H : Hp} {xs ys : List D} {vs us : List V} {a b : Addr} (rx : RDs K m H xs vs) (ry : RDs K m H ys us) (ha : H a = some (.lst vs)) (hb : H b = some (.lst us)) (hx : plainDs xs = true) (hy : plainDs ys = true) :
    ∃ d e, Dp K H (.ref a) d ∧ Dp K H (.ref b) e ∧ SeqAt.shaped d = true ∧ SeqAt.shaped e = true ∧ PyData.eqv d e = decide (xs = ys) := by
  have ox : okDs xs = true := (Bool.and_eq_true_iff.mp hx).1
  have oy : okDs ys = true := (Bool.and_eq_true_iff.mp hy).1
  refine ⟨.list (toPys xs), .list (toPys ys), .lst (SqL.of ha) (dps_of xs vs ox rx), .lst (SqL.of hb) (dps_of ys us oy ry), ?_, ?_, by rw [PyData.eqv]; exact eqv_toPys xs ys ox oy⟩
  · unfold SeqAt.shaped
    rw [PyData.canLay0, canLay_toPys xs ox]
    simpa using (Bool.and_eq_true_iff.mp hx).2
  · unfold SeqAt.shaped
    rw [PyData.canLay0, canLay_toPys ys oy]
    simpa using (Bool.and_eq_true_iff.mp hy).2
theorem eqF_plain {x y : D} {S : Store} {P : PD} {neg : Bool} (h : eqF neg x y S P) (hx : ∀ n, x ≠ .ref n) : (∃ i j, x = .int i ∧ y = .int j ∧ P (.bl (decide (i = j) ^^ neg)) S) ∨ (∃ i j, x = .str i ∧ y = .str j ∧ P (.bl (decide (i = j) ^^ neg)) S) ∨
    (∃ i j, x = .bl i ∧ y = .bl j ∧ P (.bl (decide (i = j) ^^ neg)) S) ∨ (plainD x = true ∧ plainD y = true ∧ P (.bl (decide (x = y) ^^ neg)) S) := by
  cases x with
  | ref n => exact absurd rfl (hx n)
  | int i => cases y <;> first | exact .inl ⟨_, _, rfl, rfl, h⟩ | exact .inr (.inr (.inr h))
  | str i => cases y <;> first | exact .inr (.inl ⟨_, _, rfl, rfl, h⟩) | exact .inr (.inr (.inr h))
  | bl i => cases y <;> first | exact .inr (.inr (.inl ⟨_, _, rfl, rfl, h⟩)) | exact .inr (.inr (.inr h))
  | _ => exact .inr (.inr (.inr h))
theorem eqF_ref {n : Nat} {y : D} {S : Store} {P : PD} {neg : Bool} (h : eqF neg (.ref n) y S P) : (y = .non ∧ neg = true ∧ (∃ kvs, S[n]? = some (.dct kvs)) ∧ P (.bl true) S) ∨
    (∃ k ks ls, y = .ref k ∧ S[n]? = some (.dct ks) ∧ S[k]? = some (.dct ls) ∧ homD (ks ++ ls) ∧ P (.bl (sameD ks ls ^^ neg)) S) ∨
    (∃ k xs ys, y = .ref k ∧ S[n]? = some (.lst xs) ∧ S[k]? = some (.lst ys) ∧ plainDs xs = true ∧ plainDs ys = true ∧ P (.bl (decide (xs = ys) ^^ neg)) S) := by
  have no : ¬ plainD (.ref n) = true := by simp [plainD, okD]
  cases y with
  | non => exact .inl ⟨rfl, h.1, h.2.1, h.2.2⟩
  | ref k =>
    rcases h with ⟨ks, ls, a⟩ | ⟨xs, ys, a⟩
    · exact .inr (.inl ⟨k, ks, ls, rfl, a⟩)
    · exact .inr (.inr ⟨k, xs, ys, rfl, a⟩)
  | _ => exact absurd h.1 no
theorem od_eq (hu : X.A.units + 64 < cLine) : OpD X (compareOp .Eq) (eqF false) := by
  refine ⟨_, op_eq.or ((op_eqD hu).or (op_dd_eq (by omega))), fun m S H x y v u P Q s rx ry p w => ?_⟩
  by_cases hx : ∃ n, x = .ref n
  · obtain ⟨n, rfl⟩ := hx
    cases rx with
    | @ref _ pa ha =>
      rcases eqF_ref p with ⟨_, z, _⟩ | ⟨k, ks, ls, rfl, e1, e2, hh, p⟩ | ⟨k, xs, ys, rfl, e1, e2, h1, h2, p⟩
      · cases z
      · cases ry with
        | @ref _ pb hb =>
        have r1 := s.cell _ _ _ ha e1
        have r2 := s.cell _ _ _ hb e2
        generalize q1 : H pa = o1 at r1
        generalize q2 : H pb = o2 at r2
        cases r1 with
        | dct z1 r1 =>
          cases r2 with
          | dct z2 r2 =>
            refine .inr (.inr ⟨pa, pb, _, _, rfl, rfl, q1, q2, hom_flat r1 hh.left, hom_flat r2 hh.right, ?_⟩)
            rw [sameV_eq r1 r2 hh]
            exact w _ _ _ _ _ p (.refl _ _) s (.bl _)
      · cases ry with
        | @ref _ pb hb =>
        have r1 := s.cell _ _ _ ha e1
        have r2 := s.cell _ _ _ hb e2
        generalize q1 : H pa = o1 at r1
        generalize q2 : H pb = o2 at r2
        cases r1 with
        | lst z1 r1 =>
          cases r2 with
          | lst z2 r2 =>
            obtain ⟨d, e, a1, a2, a3, a4, a5⟩ := eq_dps r1 r2 q1 q2 h1 h2
            refine .inr (.inl ⟨d, e, a1, a2, a3, a4, ?_⟩)
            rw [a5]
            rw [Bool.xor_false] at p
            exact w _ _ _ _ _ p (.refl _ _) s (.bl _)
  · rcases eqF_plain p fun n e => hx ⟨n, e⟩ with ⟨i, j, rfl, rfl, p'⟩ | ⟨i, j, rfl, rfl, p'⟩ | ⟨i, j, rfl, rfl, p'⟩ | ⟨h1, h2, p'⟩
    · cases rx; cases ry
      rw [Bool.xor_false] at p'
      exact .inl ⟨rfl, w _ _ _ _ _ p' (.refl _ _) s (by rw [dec_int, Bool.beq_eq_decide_eq]; exact .bl _)⟩
    · cases rx; cases ry
      rw [Bool.xor_false] at p'
      exact .inl ⟨rfl, w _ _ _ _ _ p' (.refl _ _) s (by rw [dec_str, Bool.beq_eq_decide_eq]; exact .bl _)⟩
    · cases rx; cases ry
      rw [Bool.xor_false] at p'
      exact .inl ⟨rfl, w _ _ _ _ _ p' (.refl _ _) s (by rw [dec_bl, Bool.beq_eq_decide_eq]; exact .bl _)⟩
    · obtain ⟨d, e, a1, a2, a3, a4, a5⟩ := eq_dp rx ry h1 h2
      refine .inr (.inl ⟨d, e, a1, a2, a3, a4, ?_⟩)
      rw [a5]
      rw [Bool.xor_false] at p'
      exact w _ _ _ _ _ p' (.refl _ _) s (.bl _)
theorem od_ne (hu : X.A.units + 64 < cLine) : OpD X (compareOp .NotEq) (eqF true) := by
  refine ⟨_, op_ne.or ((op_neD hu).or ((op_dd_ne (by omega)).or (op_ne_none (by omega)))), fun m S H x y v u P Q s rx ry p w => ?_⟩
  by_cases hx : ∃ n, x = .ref n
  · obtain ⟨n, rfl⟩ := hx
    cases rx with
    | @ref _ pa ha =>
      rcases eqF_ref p with ⟨rfl, z, ⟨kvs, e1⟩, p⟩ | ⟨k, ks, ls, rfl, e1, e2, hh, p⟩ | ⟨k, xs, ys, rfl, e1, e2, h1, h2, p⟩
      · cases ry
        have r1 := s.cell _ _ _ ha e1
        generalize q1 : H pa = o1 at r1
        cases r1 with
        | dct z1 r1 => exact .inr (.inr (.inr ⟨pa, _, rfl, rfl, q1, w _ _ _ _ _ p (.refl _ _) s (.bl _)⟩))
      · cases ry with
        | @ref _ pb hb =>
        have r1 := s.cell _ _ _ ha e1
        have r2 := s.cell _ _ _ hb e2
        generalize q1 : H pa = o1 at r1
        generalize q2 : H pb = o2 at r2
        cases r1 with
        | dct z1 r1 =>
          cases r2 with
          | dct z2 r2 =>
            refine .inr (.inr (.inl ⟨pa, pb, _, _, rfl, rfl, q1, q2, hom_flat r1 hh.left, hom_flat r2 hh.right, ?_⟩))
            rw [sameV_eq r1 r2 hh]
            exact w _ _ _ _ _ p (.refl _ _) s (.bl _)
      · cases ry with
        | @ref _ pb hb =>
        have r1 := s.cell _ _ _ ha e1
        have r2 := s.cell _ _ _ hb e2
        generalize q1 : H pa = o1 at r1
        generalize q2 : H pb = o2 at r2
        cases r1 with
        | lst z1 r1 =>
          cases r2 with
          | lst z2 r2 =>
            obtain ⟨d, e, a1, a2, a3, a4, a5⟩ := eq_dps r1 r2 q1 q2 h1 h2
            refine .inr (.inl ⟨d, e, a1, a2, a3, a4, ?_⟩)
            rw [a5]
            rw [Bool.xor_true] at p
            exact w _ _ _ _ _ p (.refl _ _) s (.bl _)
  · rcases eqF_plain p fun n e => hx ⟨n, e⟩ with ⟨i, j, rfl, rfl, p'⟩ | ⟨i, j, rfl, rfl, p'⟩ | ⟨i, j, rfl, rfl, p'⟩ | ⟨h1, h2, p'⟩
    · cases rx; cases ry
      rw [Bool.xor_true] at p'
      exact .inl ⟨rfl, w _ _ _ _ _ p' (.refl _ _) s (by rw [dec_int, Bool.beq_eq_decide_eq]; exact .bl _)⟩
    · cases rx; cases ry
      rw [Bool.xor_true] at p'
      exact .inl ⟨rfl, w _ _ _ _ _ p' (.refl _ _) s (by rw [dec_str, Bool.beq_eq_decide_eq]; exact .bl _)⟩
    · cases rx; cases ry
      rw [Bool.xor_true] at p'
      exact .inl ⟨rfl, w _ _ _ _ _ p' (.refl _ _) s (by rw [dec_bl, Bool.beq_eq_decide_eq]; exact .bl _)⟩
    · obtain ⟨d, e, a1, a2, a3, a4, a5⟩ := eq_dp rx ry h1 h2
      refine .inr (.inl ⟨d, e, a1, a2, a3, a4, ?_⟩)
      rw [a5]
      rw [Bool.xor_true] at p'
      exact w _ _ _ _ _ p' (.refl _ _) s (.bl _)
end
end SD
/-! SD5: in, len, list, tuple, sorted, any, all, isinstance, slices, stores, methods over D. -/
namespace SD
open PySem PySem.Spec PyProof.Rows L2

/-! ### what a sequence is -/
def seqC : Option Cell → Option (List D)
  | some (.lst xs) => some xs
  | _ => none
def dicC : Option Cell → Option (List (D × D))
  | some (.dct kvs) => some kvs
  | some (.lck kvs) => some kvs
  | _ => none
/-- the items of a list or tuple -/
def seqD (S : Store) : D → Option (List D)
  | .tup xs => some xs
  | .frz xs => some xs
  | .ref n => seqC S[n]?
  | _ => none
def dictD (S : Store) : D → Option (List (D × D))
  | .ref n => dicC S[n]?
  | _ => none
section
variable {K : KW} {m : List Addr} {H : Hp} {S : Store}
theorem seq_at (s : Sim K m S H) {d : D} {v : V} {xs : List D} (r : RD K m H d v) (h : seqD S d = some xs) : ∃ p vs, v = .ref p ∧ (SqL K H p vs ∨ SqT K H p vs) ∧ RDs K m H xs vs ∧ vs.length ≤ sizeLine := by
  cases r with
  | @tup p ys vs a z b => cases h; exact ⟨p, vs, rfl, .inr a, b, z⟩
  | @frz p ys vs a z b => cases h; exact ⟨p, vs, rfl, .inl a.sq, b, z⟩
  | @ref n p a =>
    have h : seqC S[n]? = some xs := h
    cases e : S[n]? with
    | none => rw [e] at h; cases h
    | some c =>
      rw [e] at h
      have rc := s.cell n p c a e
      cases c with
      | lst ys =>
        cases h
        generalize eo : H p = o at rc
        cases rc with
        | lst z b => exact ⟨p, _, rfl, .inl (SqL.of eo), b, by rw [← b.length]; exact z⟩
      | dct _ => cases h
      | lck _ => cases h
      | tdc _ => cases h
      | tlk _ => cases h
  | _ => cases h
theorem dict_at (s : Sim K m S H) {d : D} {v : V} {kvs : List (D × D)} (r : RD K m H d v) (h : dictD S d = some kvs) : ∃ p kw, v = .ref p ∧ Rd H p (.dK kw) ∧ RKV K m H kvs kw ∧ kvs.length ≤ sizeLine := by
  cases r with
  | @ref n p a =>
    have h : dicC S[n]? = some kvs := h
    cases e : S[n]? with
    | none => rw [e] at h; cases h
    | some c =>
      rw [e] at h
      have rc := s.cell n p c a e
      cases c with
      | lst ys => cases h
      | dct ks =>
        cases h
        generalize eo : H p = o at rc
        cases rc with
        | dct z b => exact ⟨p, _, rfl, .inl eo, b, z⟩
      | lck ks =>
        cases h
        generalize eo : H p = o at rc
        cases rc with
        | lck z b => exact ⟨p, _, rfl, .inr ⟨_, eo⟩, b, z⟩
      | tdc ks => cases h
      | tlk ks => cases h
  | _ => cases h
theorem lst_at (s : Sim K m S H) {n : Nat} {v : V} {xs : List D} (r : RD K m H (.ref n) v) (h : S[n]? = some (.lst xs)) : ∃ p vs, v = .ref p ∧ m[n]? = some p ∧ H p = some (.lst vs) ∧ RDs K m H xs vs ∧ xs.length ≤ sizeLine := by
  cases r with
  | @ref n p a =>
    have rc := s.cell n p _ a h
    generalize eo : H p = o at rc
    cases rc with
    | lst z b => exact ⟨p, _, rfl, a, eo, b, z⟩
theorem dct_at (s : Sim K m S H) {n : Nat} {v : V} {kvs : List (D × D)} (r : RD K m H (.ref n) v) (h : S[n]? = some (.dct kvs)) : ∃ p kw, v = .ref p ∧ m[n]? = some p ∧ H p = some (.dK kw) ∧ RKV K m H kvs kw ∧ kvs.length ≤ sizeLine := by
  cases r with
  | @ref n p a =>
    have rc := s.cell n p _ a h
    generalize eo : H p = o at rc
    cases rc with
    | dct z b => exact ⟨p, _, rfl, a, eo, b, z⟩
end

/-! ### in -/
def flatD : D → Bool
  | .non => true
  | .int _ => true
  | .str _ => true
  | _ => false
def inF (neg : Bool) : F2 := fun x y S Q => match y with
  | .tup xs => flatD x = true ∧ xs.all flatD = true ∧ Q (.bl (decide (x ∈ xs) ^^ neg)) S
  | .ref n => (match S[n]? with
    | some (.lst xs) => flatD x = true ∧ xs.all flatD = true ∧ Q (.bl (decide (x ∈ xs) ^^ neg)) S
    | some (.dct kvs) => ∃ k, toKey x = some k ∧ Q (.bl ((valD kvs x).isSome ^^ neg)) S
    | some (.lck kvs) => ∃ k, toKey x = some k ∧ Q (.bl ((valD kvs x).isSome ^^ neg)) S
    | _ => False)
  | _ => False
section
variable {K : KW} {m : List Addr} {H : Hp}
theorem flatV_of {d : D} {v : V} (r : RD K m H d v) (h : flatD d = true) : flatV v = true := by
  cases r <;> first | rfl | (simp [flatD] at h)
theorem eqV_of {d e : D} {v w : V} (r : RD K m H d v) (q : RD K m H e w) (h : flatD d = true) (h' : flatD e = true) : eqV w v = decide (d = e) := by
  cases r <;> first | (simp [flatD] at h; done) | skip
  all_goals cases q <;> first | (simp [flatD] at h'; done) | skip
  all_goals first | rfl | skip
  · rename_i a b
    simp only [eqV, D.int.injEq]
    by_cases e : a = b
    · subst e; simp
    · rw [decide_eq_false e]
      simpa using fun z : b = a => e z.symm
  · rename_i a b
    simp only [eqV, D.str.injEq]
    by_cases e : a = b
    · subst e; simp
    · rw [decide_eq_false e]
      simpa using fun z : b = a => e z.symm
theorem flats_of : ∀ {ds : List D} {vs : List V}, RDs K m H ds vs → ds.all flatD = true → vs.all flatV = true
  | _, _, .nil, _ => rfl
  | _, _, .cons r t, h => by
    rw [List.all_cons, Bool.and_eq_true] at h ⊢
    exact ⟨flatV_of r h.1, flats_of t h.2⟩
theorem inV_of {d : D} {v : V} (rd : RD K m H d v) (hd : flatD d = true) : ∀ {ds : List D} {vs : List V}, RDs K m H ds vs → ds.all flatD = true → inV v vs = decide (d ∈ ds)
  | _, _, .nil, _ => by simp [inV]
  | _, _, .cons r t, h => by
    rw [List.all_cons, Bool.and_eq_true] at h
    unfold inV
    rw [List.any_cons, eqV_of rd r hd h.1]
    have := inV_of rd hd t h.2
    unfold inV at this
    rw [this]
    simp
end
section
variable {X : Cx}
def rInD (neg : Bool) : R2 := fun x y H Q => ∃ a o, y = .ref a ∧ DGet H a x o ∧ Q (.bl (o.isSome ^^ neg)) H
theorem op_in_d (hu : X.A.units + 1 < cLine) : OpR X (compareOp .In) (rInD false) := by
  intro pins s σ H x y v u Q I rx ry h
  obtain ⟨a, o, rfl, g, q⟩ := h
  cases ry
  exact d_in hu I g rx fun s' I' => ⟨.bl _, H, I', rfl, by rw [Bool.xor_false] at q; exact q⟩
theorem op_notin_d (hu : X.A.units + 1 < cLine) : OpR X (compareOp .NotIn) (rInD true) := by
  intro pins s σ H x y v u Q I rx ry h
  obtain ⟨a, o, rfl, g, q⟩ := h
  cases ry
  exact d_notIn hu I g rx fun s' I' => ⟨.bl _, H, I', rfl, by rw [Bool.xor_true] at q; exact q⟩
theorem dget_any {K : KW} {m : List Addr} {H : Hp} {kvs : List (D × D)} {kw : List (Key × V)} {p : Addr} {dk : D} {k : Key} {y : V} (r : RKV K m H kvs kw) (hp : Rd H p (.dK kw)) (hk : toKey dk = some k) (ry : RD K m H dk y) :
    ∃ o, DGet H p y o ∧ o.isSome = (valD kvs dk).isSome := by
  have e := toKey_eq hk
  subst e
  have ey := ry.key
  subst ey
  refine ⟨_, .inl ⟨kw, k, hp, rfl, rfl⟩, ?_⟩
  rcases r.val k with ⟨d', v, h1, h2, h3⟩ | ⟨h1, h2⟩
  · rw [h1, h2]; rfl
  · rw [h1, h2]; rfl
theorem in_R2R {K : KW} {neg : Bool} {r : R2} (hr : ∀ x y H Q, rIn K neg x y H Q ∨ rInD neg x y H Q → r x y H Q) : R2R K (inF neg) r := by
  intro m S H x y v u P Q s rx ry p w
  refine hr v u H Q ?_
  have seq : ∀ {q : Addr} {xs : List D} {vs : List V}, (SqL K H q vs ∨ SqT K H q vs) → RDs K m H xs vs → flatD x = true → xs.all flatD = true → P (.bl (decide (x ∈ xs) ^^ neg)) S → rIn K neg v (.ref q) H Q := fun {q xs vs} hq b f1 f2 p => by
    refine ⟨q, vs, rfl, hq, flatV_of rx f1, flats_of b f2, ?_⟩
    rw [inV_of rx f1 b f2]
    have e : (if neg = true then !decide (x ∈ xs) else decide (x ∈ xs)) = (decide (x ∈ xs) ^^ neg) := by cases neg <;> simp
    rw [e]
    exact w _ _ _ _ _ p (.refl _ _) s (.bl _)
  have dic : ∀ {q : Addr} {kvs : List (D × D)} {kw : List (Key × V)}, Rd H q (.dK kw) → RKV K m H kvs kw → (∃ k, toKey x = some k ∧ P (.bl ((valD kvs x).isSome ^^ neg)) S) → rInD neg v (.ref q) H Q := fun {q kvs kw} hq b ⟨k, hk, p⟩ => by
    obtain ⟨o, g, e⟩ := dget_any b hq hk rx
    exact ⟨q, o, rfl, g, by rw [e]; exact w _ _ _ _ _ p (.refl _ _) s (.bl _)⟩
  cases ry with
  | @tup q xs vs a z b => exact .inl (seq (.inr a) b p.1 p.2.1 p.2.2)
  | @ref n q a =>
    have p : (match S[n]? with
      | some (.lst xs) => flatD x = true ∧ xs.all flatD = true ∧ P (.bl (decide (x ∈ xs) ^^ neg)) S
      | some (.dct kvs) => ∃ k, toKey x = some k ∧ P (.bl ((valD kvs x).isSome ^^ neg)) S
      | some (.lck kvs) => ∃ k, toKey x = some k ∧ P (.bl ((valD kvs x).isSome ^^ neg)) S
      | _ => False) := p
    cases e : S[n]? with
    | none => rw [e] at p; exact p.elim
    | some c =>
      rw [e] at p
      have rc := s.cell n q c a e
      generalize eo : H q = o at rc
      cases rc with
      | lst z b => exact .inl (seq (.inl (SqL.of eo)) b p.1 p.2.1 p.2.2)
      | dct z b => exact .inr (dic (.inl eo) b p)
      | lck z b => exact .inr (dic (.inr ⟨_, eo⟩) b p)
      | tdc z b => exact p.elim
      | tlk z b => exact p.elim
  | _ => exact False.elim p
theorem od_in (hu : X.A.units + 1 < cLine) : OpD X (compareOp .In) (inF false) := ⟨_, op_in_seq.or (op_in_d hu), in_R2R fun _ _ _ _ h => h⟩
theorem od_notin (hu : X.A.units + 1 < cLine) : OpD X (compareOp .NotIn) (inF true) := ⟨_, op_notIn_seq.or (op_notin_d hu), in_R2R fun _ _ _ _ h => h⟩
end

/-! ### len, list, tuple, sorted, any, all, int -/
def lenF : FN := fun xs S Q => match xs with
  | [d] => ∃ n : Nat, ((∃ ys, seqD S d = some ys ∧ n = ys.length) ∨ (∃ kvs, dictD S d = some kvs ∧ n = kvs.length) ∨ (∃ z, d = .str z ∧ z.length ≤ sizeLine ∧ n = z.length)) ∧ Q (.int n) S
  | _ => False
def listF : FN := fun xs S Q => match xs with
  | [d] => (∃ ys, seqD S d = some ys ∧ Q (.ref S.length) (S ++ [.lst ys])) ∨ (∃ n kvs, d = .ref n ∧ S[n]? = some (.dct kvs) ∧ Q (.ref S.length) (S ++ [.lst (kvs.map (·.1))]))
  | _ => False
def tupleF : FN := fun xs S Q => match xs with
  | [d] => ∃ ys, seqD S d = some ys ∧ Q (.tup ys) S
  | _ => False
/-- sorted of ints -/
def sortedF : FN := fun xs S Q => match xs with
  | [d] => ∃ ns : List Int, seqD S d = some (ns.map D.int) ∧ (∃ n, d = .ref n) ∧ ∀ ns' : List Int, ns'.Perm ns → ns'.Pairwise (· ≤ ·) → Q (.ref S.length) (S ++ [.lst (ns'.map D.int)])
  | _ => False
def boolsF (f : List Bool → Bool) : FN := fun xs S Q => match xs with
  | [d] => ∃ bs : List Bool, seqD S d = some (bs.map D.bl) ∧ (∃ n, d = .ref n) ∧ Q (.bl (f bs)) S
  | _ => False
section
variable {K : KW} {m : List Addr} {H : Hp} {S : Store}
theorem RDs.one {xs : List D} {vs : List V} {d : D} (r : RDs K m H xs vs) (h : xs = [d]) : ∃ v, vs = [v] ∧ RD K m H d v := by
  subst h
  cases r with
  | cons a b => cases b; exact ⟨_, rfl, a⟩
theorem RDs.bls : ∀ {ns : List Bool} {vs : List V}, RDs K m H (ns.map D.bl) vs → vs = ns.map V.bl
  | [], _, h => by cases h; rfl
  | n :: ns, _, h => by
    cases h with
    | cons a b => cases a; rw [RDs.bls b]; rfl
theorem RKV.keysR {kvs : List (D × D)} {kw : List (Key × V)} (r : RKV K m H kvs kw) : RDs K m H (kvs.map (·.1)) (kw.map fun kv => kV kv.1) := by
  induction r with
  | nil => exact .nil
  | @cons p q _ _ h t ih =>
    refine .cons ?_ ih
    show RD K m H p.1 (kV q.1)
    rw [h.1]
    exact RD.ofKey _
end
section
variable {X : Cx}
theorem call_len_dict : CallR X (.builtin "len") (fun xs H Q => ∃ p kvs, xs = [.ref p] ∧ Rd H p (.dK kvs) ∧ Q (.int kvs.length) H) := by
  intro pins s σ H xs us Q I r h
  obtain ⟨p, kvs, rfl, hp, q⟩ := h
  obtain ⟨u, rfl, rx⟩ := vals1 r
  cases rx
  exact d_len I hp fun t s' I' => ⟨.int kvs.length, H, I', ⟨_, rfl⟩, q⟩
theorem cd_len : CallD X (.builtin "len") lenF := by
  refine ⟨_, call_len_seq.or (call_len_dict.or call_len_str), fun m S H xs vs P Q s r p w => ?_⟩
  match xs, p with
  | [d], p =>
    obtain ⟨v, rfl, rd⟩ := r.one rfl
    obtain ⟨n, h, p⟩ := p
    rcases h with ⟨ys, e, rfl⟩ | ⟨kvs, e, rfl⟩ | ⟨z, rfl, hz, rfl⟩
    · obtain ⟨q, ws, rfl, hq, b, hz⟩ := seq_at s rd e
      exact .inl ⟨q, ws, rfl, hq, by rw [← b.length]; exact w _ _ _ _ _ p (.refl _ _) s (.int _)⟩
    · obtain ⟨q, kw, rfl, hq, b, hz⟩ := dict_at s rd e
      exact .inr (.inl ⟨q, kw, rfl, hq, by rw [← b.length]; exact w _ _ _ _ _ p (.refl _ _) s (.int _)⟩)
    · cases rd
      exact .inr (.inr ⟨z, rfl, hz, w _ _ _ _ _ p (.refl _ _) s (.int _)⟩)
theorem cd_list (hc : X.calm = true) : CallD X (.type "list") listF := by
  refine ⟨_, call_list_of.or (call_list_dK hc), fun m S H xs vs P Q s r p w => ?_⟩
  match xs, p with
  | [d], p =>
    obtain ⟨v, rfl, rd⟩ := r.one rfl
    rcases p with ⟨ys, e, p⟩ | ⟨n, kvs, rfl, e, p⟩
    · obtain ⟨q, ws, rfl, hq, b, hz⟩ := seq_at s rd e
      refine .inl ⟨q, ws, rfl, hq, fun a ha => ?_⟩
      obtain ⟨g2, s2, r2⟩ := new_lst s ha b (by rw [b.length]; exact hz)
      exact w _ _ _ _ _ p g2 s2 r2
    · obtain ⟨q, kw, rfl, _, hq, b, hz⟩ := dct_at s rd e
      refine .inr ⟨q, kw, rfl, hq, fun a ha => ?_⟩
      obtain ⟨g2, s2, r2⟩ := new_lst s ha b.keysR (by rw [List.length_map]; exact hz)
      exact w _ _ _ _ _ p g2 s2 r2
theorem cd_tuple : CallD X (.type "tuple") tupleF := by
  refine ⟨_, call_tuple_of, fun m S H xs vs P Q s r p w => ?_⟩
  match xs, p with
  | [d], p =>
    obtain ⟨v, rfl, rd⟩ := r.one rfl
    obtain ⟨ys, e, p⟩ := p
    obtain ⟨q, ws, rfl, hq, b, hz⟩ := seq_at s rd e
    refine ⟨q, ws, rfl, ?_⟩
    rcases hq with hq | hq
    · refine .inl ⟨hq, fun a ha => ?_⟩
      have g2 : Grow m H m (upd H a (.tup ws)) := Grow.new ha _ (List.prefix_refl _)
      exact w _ _ _ _ _ p g2 (s.plus ha _) (.tup (SqT.of upd_same) hz (b.up g2))
    · exact .inr ⟨hq, w _ _ _ _ _ p (.refl _ _) s (.tup hq hz b)⟩
theorem seq_ref {K : KW} {m : List Addr} {H : Hp} {S : Store} (s : Sim K m S H) {n : Nat} {v : V} {xs : List D} (r : RD K m H (.ref n) v) (h : seqD S (.ref n) = some xs) : ∃ p vs, v = .ref p ∧ H p = some (.lst vs) ∧ RDs K m H xs vs ∧ vs.length ≤ sizeLine := by
  have h : seqC S[n]? = some xs := h
  cases e : S[n]? with
  | none => rw [e] at h; cases h
  | some c =>
    rw [e] at h
    cases c with
    | lst ys =>
      cases h
      obtain ⟨p, vs, rfl, _, hp, b, z⟩ := lst_at s r e
      exact ⟨p, vs, rfl, hp, b, by rw [← b.length]; exact z⟩
    | dct _ => cases h
    | lck _ => cases h
    | tdc _ => cases h
    | tlk _ => cases h
theorem cd_sorted : CallD X (.builtin "sorted") sortedF := by
  refine ⟨_, cr_sortedI, fun m S H xs vs P Q s r p w => ?_⟩
  match xs, p with
  | [d], p =>
    obtain ⟨v, rfl, rd⟩ := r.one rfl
    obtain ⟨ns, e, ⟨n, rfl⟩, p⟩ := p
    obtain ⟨q, ws, rfl, hq, b, hz⟩ := seq_ref s rd e
    have e2 := b.ints
    subst e2
    refine ⟨q, ns, rfl, SqL.of hq, fun ns' a h1 h2 ha => ?_⟩
    obtain ⟨g2, s2, r2⟩ := new_lst s ha (RDs.of_ints ns') (by rw [List.length_map, h1.length_eq]; simpa using hz)
    exact w _ _ _ _ _ (p ns' h1 h2) g2 s2 r2
theorem cd_any (hc : X.calm = true) : CallD X (.builtin "any") (boolsF fun bs => bs.any id) := by
  refine ⟨_, cr_any hc, fun m S H xs vs P Q s r p w => ?_⟩
  match xs, p with
  | [d], p =>
    obtain ⟨v, rfl, rd⟩ := r.one rfl
    obtain ⟨bs, e, ⟨n, rfl⟩, p⟩ := p
    obtain ⟨q, ws, rfl, hq, b, hz⟩ := seq_ref s rd e
    have e2 := b.bls
    subst e2
    exact ⟨q, bs, rfl, SqL.of hq, w _ _ _ _ _ p (.refl _ _) s (.bl _)⟩
theorem cd_all (hc : X.calm = true) : CallD X (.builtin "all") (boolsF fun bs => bs.all id) := by
  refine ⟨_, cr_all hc, fun m S H xs vs P Q s r p w => ?_⟩
  match xs, p with
  | [d], p =>
    obtain ⟨v, rfl, rd⟩ := r.one rfl
    obtain ⟨bs, e, ⟨n, rfl⟩, p⟩ := p
    obtain ⟨q, ws, rfl, hq, b, hz⟩ := seq_ref s rd e
    have e2 := b.bls
    subst e2
    exact ⟨q, bs, rfl, SqL.of hq, w _ _ _ _ _ p (.refl _ _) s (.bl _)⟩
/-- int(n) -/
def intF1 : FN := fun xs S Q => match xs with
  | [.int i] => Q (.int i) S
  | _ => False
theorem cd_int : CallD X (.type "int") intF1 := by
  refine ⟨_, call_int1, fun m S H xs vs P Q s r p w => ?_⟩
  match xs, p with
  | [.int i], p =>
    obtain ⟨v, rfl, rd⟩ := r.one rfl
    cases rd
    exact .inl ⟨_, rfl, w _ _ _ _ _ p (.refl _ _) s (.int _)⟩
/-- dict(d) -/
def dictF : FN := fun xs S Q => match xs with
  | [d] => ∃ kvs, dictD S d = some kvs ∧ Q (.ref S.length) (S ++ [.dct kvs])
  | _ => False
theorem new_dct {K : KW} {m : List Addr} {S : Store} {H : Hp} {kvs : List (D × D)} {kw : List (Key × V)} {a : Addr} (s : Sim K m S H) (ha : H a = none) (r : RKV K m H kvs kw) (z : kvs.length ≤ sizeLine) :
    Grow m H (m ++ [a]) (upd H a (.dK kw)) ∧ Sim K (m ++ [a]) (S ++ [.dct kvs]) (upd H a (.dK kw)) ∧ RD K (m ++ [a]) (upd H a (.dK kw)) (.ref S.length) (.ref a) := by
  have g2 : Grow m H (m ++ [a]) (upd H a (.dK kw)) := Grow.new ha _ (List.prefix_append _ _)
  exact ⟨g2, s.alloc ha (.dct z (r.up g2)), .ref (by rw [← s.len]; simp)⟩
theorem cd_dict : CallD X (.type "dict") dictF := by
  refine ⟨_, call_dictD, fun m S H xs vs P Q s r p w => ?_⟩
  match xs, p with
  | [d], p =>
    obtain ⟨v, rfl, rd⟩ := r.one rfl
    obtain ⟨kvs, e, p⟩ := p
    obtain ⟨q, kw, rfl, hq, b, hz⟩ := dict_at s rd e
    refine ⟨q, kw, rfl, hq, fun a ha => ?_⟩
    obtain ⟨g2, s2, r2⟩ := new_dct s ha b hz
    exact w _ _ _ _ _ p g2 s2 r2
/-- {} -/
def eDict0 : FE := fun _ S Q => Q (.ref S.length) (S ++ [.dct []])
theorem re_dict0 {pos : Pos} : RE X (.Dict [] [] pos) eDict0 := by
  refine pe_w pe_dnewK fun σ H Q q => ?_
  obtain ⟨m, σd, S, P, s, r, p, w⟩ := q
  intro a ha
  obtain ⟨g2, s2, r2⟩ := new_dct s ha .nil (Nat.zero_le _)
  exact w _ _ _ _ _ p g2 s2 r2
end
end SD
/-! SD6: stores, methods, displays, loops, comprehensions over D. -/
namespace SD
open PySem PySem.Spec PyProof.Rows L2

/-! ### o[i] = v -/
def setF (o i v : D) (S : Store) (Q : Store → Prop) : Prop := match o with
  | .ref n => (match S[n]? with
    | some (.lst xs) => ∃ k j, i = .int k ∧ ixN xs.length k = some j ∧ Q (S.set n (.lst (xs.set j v)))
    | some (.dct kvs) => (toKey i).isSome = true ∧ kvs.length < sizeLine ∧ Q (S.set n (.dct (putD kvs i v)))
    | _ => False)
  | _ => False
def gSubD (fo fi : FE) : FG := fun d σ S Q => fo σ S fun o S1 => fi σ S1 fun i S2 => setF o i d S2 fun S3 => Q σ S3
section
variable {X : Cx} {pos : Pos}
def rSetK : TSet := fun o i v H Q => ∃ a H', o = .ref a ∧ DPut H a i v H' ∧ Q H'
theorem set_dictK (hu : X.A.units + 1 < cLine) : PSet X rSetK := by
  intro pins s σ H o i v ov iv u Q I ro ri rv h
  obtain ⟨a, H', rfl, g, q⟩ := h
  cases ro
  exact d_setItem hu I g ri rv fun s' I' => ⟨H', I', q⟩
theorem PSet.or {r r' : TSet} (h : PSet X r) (h' : PSet X r') : PSet X (fun o i v H Q => r o i v H Q ∨ r' o i v H Q) := by
  intro pins s σ H o i v ov iv u Q I ro ri rv q
  rcases q with q | q
  · exact h pins s σ H o i v ov iv u Q I ro ri rv q
  · exact h' pins s σ H o i v ov iv u Q I ro ri rv q
theorem setF_R {K : KW} {m : List Addr} {S : Store} {H : Hp} {o i d : D} {vo vi v : V} {P : Store → Prop} {Q : Hp → Prop} (s : Sim K m S H) (ro : RD K m H o vo) (ri : RD K m H i vi) (rd : RD K m H d v) (h : setF o i d S P)
    (w : ∀ S' H', P S' → Grow m H m H' → Sim K m S' H' → Q H') : rSetL vo vi v H Q ∨ rSetK vo vi v H Q := by
  cases ro with
  | @ref n p a =>
    have h : (match S[n]? with
      | some (.lst xs) => ∃ k j, i = .int k ∧ ixN xs.length k = some j ∧ P (S.set n (.lst (xs.set j d)))
      | some (.dct kvs) => (toKey i).isSome = true ∧ kvs.length < sizeLine ∧ P (S.set n (.dct (putD kvs i d)))
      | _ => False) := h
    cases e : S[n]? with
    | none => rw [e] at h; exact h.elim
    | some c =>
      rw [e] at h
      have rc := s.cell n p c a e
      generalize eo : H p = q at rc
      cases rc with
      | @lst xs vs z b =>
        obtain ⟨k, j, rfl, hj, hp⟩ := h
        cases ri
        have g := Grow.write s a e rfl (.lst (vs.set j v))
        refine .inl ⟨p, vs, k, j, rfl, rfl, eo, by rw [← b.length]; exact hj, w _ _ hp g (s.write a e rfl (.lst (by rw [List.length_set]; exact z) (RDs.set (rd.up g) j (b.up g))))⟩
      | @dct kvs kw z b =>
        obtain ⟨hk, hz, hp⟩ := h
        obtain ⟨k, hk⟩ := Option.isSome_iff_exists.mp hk
        have ek := toKey_eq hk
        subst ek
        have ev := ri.key
        subst ev
        have g := Grow.write s a e rfl (.dK (putK kw k v))
        refine .inr ⟨p, _, rfl, DPut.k eo (by rw [← b.length]; exact hz), w _ _ hp g (s.write a e rfl (.dct ?_ (RKV.put (b.up g) k (rd.up g))))⟩
        have := length_putD kvs (keyD k) d
        omega
      | lck z b => exact h.elim
      | tdc z b => exact h.elim
      | tlk z b => exact h.elim
  | _ => exact False.elim h
theorem rg_sub {o i : Expr} {fo fi : FE} (hu : X.A.units + 1 < cLine) (ho : RE X o fo) (hi : RE X i fi)
    (ha : ∀ v, assign (.Subscript o i pos) X.env v = (do
      let ov ← holding [v] (eval o X.env)
      let iv ← holding [v, ov] (eval i X.env)
      standAt pos
      holding [v, ov, iv] (setItem ov iv v)
      release [v, ov, iv] []) := by intro _; rfl) : RG X (.Subscript o i pos) (gSubD fo fi) := by
  refine pg_w (pg_sub (pos := pos) ho hi (PSet.or set_list (set_dictK hu)) ha) fun v σ H Q q => ?_
  obtain ⟨m, σd, S, d, P, s, r, rd, p, w⟩ := q
  refine ⟨m, σd, S, _, s, r, p, fun od S1 m1 vo H1 p1 g1 s1 r1 => ?_⟩
  refine ⟨m1, σd, S1, _, s1, r.up g1, p1, fun id S2 m2 vi H2 p2 g2 s2 r2 => ?_⟩
  exact setF_R s2 (r1.up g2) r2 (rd.up (g1.trans g2)) p2 fun S' H' hp g s' => w _ _ _ _ _ hp (g1.trans (g2.trans g)) s' (r.up (g1.trans (g2.trans g)))
end

/-! ### op= -/
def IpD (X : Cx) (op : Operator) (fr : F2) : Prop := ∃ r, PIp X op r ∧ R2R (kW X) fr r
def sAug (i : Nat) (f : FE) (fr : F2) : FS := fun E σ S => ∃ x, σ[i]? = some (some x) ∧ f σ S fun y S1 => fr x y S1 fun z S2 => E.nx (σ.set i (some z)) S2
def sAugS (fo fi f : FE) (fr : F2) : FS := fun E σ S => fo σ S fun o S1 => fi σ S1 fun i S2 => ixF o i S2 fun x S3 => f σ S3 fun y S4 => fr x y S4 fun z S5 => setF o i z S5 fun S6 => E.nx σ S6
section
variable {X : Cx} {pos : Pos}
theorem ipd_add : IpD X .Add (intF fun i j => .int (i + j)) := ⟨_, ip_add, R2R.I0 fun _ _ _ _ => .int _⟩
theorem ipd_sub : IpD X .Sub (intF fun i j => .int (i - j)) := ⟨_, ip_sub, R2R.I0 fun _ _ _ _ => .int _⟩
theorem rs_aug {i : Nat} {x : Str} {e : Expr} {f : FE} {op : Operator} {fr : F2} {pos' : Pos} (hN : X.N.Nodup) (ho : IpD X op fr) (he : RE X e f) (hi : X.N[i]? = some x := by rfl) (hx : Loc X.env.scope x := by first | exact Or.inl rfl | exact Or.inr rfl)
    (hf : X.fn x = true ∨ X.env.scope.names.lookup x = some .local := by first | exact .inl rfl | exact .inr rfl | assumption) : RS X (.AugAssign (.Name x pos') op e pos) (sAug i f fr) := by
  obtain ⟨r, h1, h2⟩ := ho
  refine ps_w (ps_aug hN hi hx he h1 hf) fun D σ H q => ?_
  obtain ⟨m, σd, S, E, s, rs, ⟨d, e1, p⟩, w⟩ := q
  obtain ⟨v, e2, rd⟩ := rs.val i d e1
  refine ⟨v, e2, m, σd, S, _, s, rs, p, fun y S1 m1 vy H1 p1 g1 s1 r1 => ?_⟩
  exact h2 m1 S1 H1 d y v vy _ _ s1 (rd.up g1) r1 p1 fun z S2 m2 vz H2 p2 g2 s2 r2 => w.nx _ _ _ _ _ p2 (g1.trans g2) s2 ((rs.up (g1.trans g2)).set r2 i)
def rGet (K : KW) : V → V → Hp → VK → Prop := rIxD
theorem get_dict (hu : X.A.units + 1 < cLine) : PGet X rIxD := by
  intro pins s σ H o i ov iv Q I ro ri h
  obtain ⟨a, v, rfl, g, q⟩ := h
  cases ro
  exact d_getItem hu I g ri fun w' s' I' r' => ⟨v, H, I', r', q⟩
/-- d[k] op= e, d a dict -/
def sAugD (fo fi f : FE) (fr : F2) : FS := fun E σ S => fo σ S fun o S1 => fi σ S1 fun i S2 => ∃ kvs x, dictD S2 o = some kvs ∧ (toKey i).isSome = true ∧ valD kvs i = some x ∧ f σ S2 fun y S4 => fr x y S4 fun z S5 => setF o i z S5 fun S6 => E.nx σ S6
theorem rs_augD {o i e : Expr} {fo fi f : FE} {op : Operator} {fr : F2} {tpos : Pos} (hu : X.A.units + 1 < cLine) (ho : IpD X op fr) (h1 : RE X o fo) (h2 : RE X i fi) (he : RE X e f)
    (ha : ∀ ov iv new, augStore i ov iv new = (do holding [new, ov, iv] (setItem ov iv new); release [new, ov, iv] []; pure .next) := by intros; rfl) : RS X (.AugAssign (.Subscript o i tpos) op e pos) (sAugD fo fi f fr) := by
  obtain ⟨r, hr1, hr2⟩ := ho
  refine ps_w (ps_augS h1 h2 (get_dict hu) he hr1 (PSet.or set_list (set_dictK hu)) ha) fun D σ H q => ?_
  obtain ⟨m, σd, S, E, s, rs, p, w⟩ := q
  refine ⟨m, σd, S, _, s, rs, p, fun od S1 m1 vo H1 p1 g1 s1 r1 => ?_⟩
  refine ⟨m1, σd, S1, _, s1, rs.up g1, p1, fun id S2 m2 vi H2 ⟨kvs, x, d1, d2, d3, p2⟩ g2 s2 r2 => ?_⟩
  obtain ⟨q, kw, e, hq, b, hz⟩ := dict_at s2 (r1.up g2) d1
  obtain ⟨k, hk⟩ := Option.isSome_iff_exists.mp d2
  obtain ⟨v, g, rv⟩ := dget_of b hq hk r2 d3
  refine ⟨q, v, e, g, ?_⟩
  refine ⟨m2, σd, S2, _, s2, rs.up (g1.trans g2), p2, fun y S4 m4 vy H4 p4 g4 s4 r4 => ?_⟩
  refine hr2 m4 S4 H4 x y v vy _ _ s4 (rv.up g4) r4 p4 fun z S5 m5 vz H5 p5 g5 s5 r5 => ?_
  exact setF_R s5 (r1.up (g2.trans (g4.trans g5))) (r2.up (g4.trans g5)) r5 p5 fun S' H' hp g' s' => w.nx _ _ _ _ _ hp (g1.trans (g2.trans (g4.trans (g5.trans g')))) s' (rs.up (g1.trans (g2.trans (g4.trans (g5.trans g')))))
end

/-! ### methods -/
abbrev FM := D → List D → Store → PD → Prop
def tyD (T : String) (S : Store) (d : D) : Prop := (T = "list" ∧ ∃ n ys, d = .ref n ∧ S[n]? = some (.lst ys)) ∨ (T = "dict" ∧ ∃ n ys, d = .ref n ∧ S[n]? = some (.dct ys))
def eMt (T : String) (fr : FM) (fo : FE) (fa : FA) : FE := fun σ S Q => fo σ S fun x S1 => tyD T S1 x ∧ fa σ S1 fun xs S2 => fr x xs S2 Q
def RMR (K : KW) (fr : FM) (r : V → List V → Hp → VK → Prop) : Prop := ∀ m S H x v xs vs P Q, Sim K m S H → RD K m H x v → RDs K m H xs vs → fr x xs S P → WD K m H P Q → r v vs H Q
def MtD (X : Cx) (id : String) (fr : FM) : Prop := ∃ r, MtR X id r ∧ RMR (kW X) fr r
section
variable {X : Cx} {o e : Expr} {es : List Expr} {fo : FE} {fa : FA} {name : Str} {apos cpos : Pos} {T id : String} {fr : FM}
theorem tyD_V {K : KW} {m : List Addr} {S : Store} {H : Hp} {d : D} {v : V} (s : Sim K m S H) (r : RD K m H d v) (h : tyD T S d) : tyV K T v H := by
  rcases h with ⟨rfl, n, ys, rfl, e⟩ | ⟨rfl, n, ys, rfl, e⟩
  · obtain ⟨p, vs, rfl, _, hp, _, _⟩ := lst_at s r e
    exact .inl ⟨rfl, _, SqL.of hp⟩
  · obtain ⟨p, kw, rfl, _, hp, _, _⟩ := dct_at s r e
    exact .inr (.inr (.inl ⟨rfl, .inl ⟨_, hp⟩⟩))
theorem re_mt (pa : PlainAttrs T) (slot : Slot T name id) (hty : typeOf (.builtin id) = pure (.type "method_descriptor")) (hm : MtD X id fr) (ho : RE X o fo) (ha : RA X (e :: es) fa)
    (hbase : attributeBase o name X.env (eval o X.env) = eval o X.env := by rfl)
    (hfew : ((backTo cpos (starEach (e :: es) X.env)).all (fun x => !x.1) && (backToKw cpos (keywordEach [] X.env)).all (fun x => x.1.isSome)
      && decide ((e :: es).length + ([] : List Keyword).length + (if ([] : List Keyword).isEmpty then 0 else 1) < 30)) = true := by rfl)
    (hline : (apos.endLine == cpos.line) = true := by rfl) (hs : starEach (e :: es) X.env = (false, eval e X.env) :: starEach es X.env := by rfl) (hplain : (backTo cpos (starEach es X.env)).any (·.1) = false := by rfl) :
    RE X (.Call (.Attribute o name apos) (e :: es) [] cpos) (eMt T fr fo fa) := by
  obtain ⟨r, h1, h2⟩ := hm
  refine pe_w (pe_bm pa slot hty h1 ho ha hbase hfew hline hs hplain) fun σ H Q q => ?_
  obtain ⟨m, σd, S, P, s, rs, p, w⟩ := q
  refine ⟨m, σd, S, _, s, rs, p, fun d S1 m1 v H1 ⟨ty, p1⟩ g1 s1 r1 => ⟨tyD_V s1 r1 ty, ?_⟩⟩
  exact ⟨m1, σd, S1, _, s1, rs.up g1, p1, fun xs S2 m2 vs H2 p2 g2 s2 r2 => h2 m2 S2 H2 d v xs vs P Q s2 (r1.up g2) r2 p2 (w.up (g1.trans g2))⟩
theorem re_mt0 (pa : PlainAttrs T) (slot : Slot T name id) (hty : typeOf (.builtin id) = pure (.type "method_descriptor")) (hm : MtD X id fr) (ho : RE X o fo)
    (hbase : attributeBase o name X.env (eval o X.env) = eval o X.env := by rfl) (hline : (apos.endLine == cpos.line) = true := by rfl) : RE X (.Call (.Attribute o name apos) [] [] cpos) (eMt T fr fo aNil) := by
  obtain ⟨r, h1, h2⟩ := hm
  refine pe_w (pe_bm0 pa slot hty h1 ho hbase hline) fun σ H Q q => ?_
  obtain ⟨m, σd, S, P, s, rs, p, w⟩ := q
  exact ⟨m, σd, S, _, s, rs, p, fun d S1 m1 v H1 ⟨ty, p1⟩ g1 s1 r1 => ⟨tyD_V s1 r1 ty, h2 m1 S1 H1 d v [] [] P Q s1 r1 .nil p1 (w.up g1)⟩⟩
end
/-- xs.append(y) -/
def appF : FM := fun x xs S Q => ∃ n ys y, x = .ref n ∧ xs = [y] ∧ S[n]? = some (.lst ys) ∧ ys.length < sizeLine ∧ Q .non (S.set n (.lst (ys ++ [y])))
def popF : FM := fun x xs S Q => ∃ n ys y, x = .ref n ∧ xs = [] ∧ S[n]? = some (.lst ys) ∧ ys[ys.length - 1]? = some y ∧ Q y (S.set n (.lst ys.dropLast))
def pop0F : FM := fun x xs S Q => ∃ n y ys, x = .ref n ∧ xs = [.int 0] ∧ S[n]? = some (.lst (y :: ys)) ∧ Q y (S.set n (.lst ys))
def extF : FM := fun x xs S Q => ∃ n k ys zs, x = .ref n ∧ xs = [.ref k] ∧ S[n]? = some (.lst ys) ∧ S[k]? = some (.lst zs) ∧ ys.length + zs.length ≤ sizeLine ∧ Q .non (S.set n (.lst (ys ++ zs)))
def mergeD (kvs more : List (D × D)) : List (D × D) := more.foldl (fun acc p => putD acc p.1 p.2) kvs
def updF : FM := fun x xs S Q => ∃ n k ks ls, x = .ref n ∧ xs = [.ref k] ∧ n ≠ k ∧ S[n]? = some (.dct ks) ∧ dictD S (.ref k) = some ls ∧ ks.length + ls.length ≤ sizeLine ∧ Q .non (S.set n (.dct (mergeD ks ls)))
theorem RDs.dropLast {K : KW} {m : List Addr} {H : Hp} {xs : List D} {vs : List V} (r : RDs K m H xs vs) : RDs K m H xs.dropLast vs.dropLast := by
  rw [List.dropLast_eq_take, List.dropLast_eq_take, r.length]
  exact r.take _
theorem RKV.merge {K : KW} {m : List Addr} {H : Hp} : ∀ {more : List (D × D)} {mw : List (Key × V)}, RKV K m H more mw → ∀ {kvs : List (D × D)} {kw : List (Key × V)}, RKV K m H kvs kw → RKV K m H (mergeD kvs more) (mergeK kw mw)
  | _, _, .nil, _, _, r => r
  | (p :: _), (q :: _), .cons h t, kvs, kw, r => by
    have e : RKV K m H (putD kvs p.1 p.2) (putK kw q.1 q.2) := by rw [h.1]; exact r.put q.1 h.2
    exact RKV.merge t e
theorem length_mergeD : ∀ (more kvs : List (D × D)), (mergeD kvs more).length ≤ kvs.length + more.length
  | [], kvs => Nat.le_refl _
  | p :: r, kvs => by
    have h1 := length_mergeD r (putD kvs p.1 p.2)
    have h2 := length_putD kvs p.1 p.2
    show (mergeD (putD kvs p.1 p.2) r).length ≤ _
    rw [List.length_cons]; omega
section
variable {X : Cx}
theorem md_append : MtD X "list.append" appF := by
  refine ⟨_, mt_append, fun m S H x v xs vs P Q s rx rs p w => ?_⟩
  obtain ⟨n, ys, y, rfl, rfl, e, hz, p⟩ := p
  obtain ⟨vy, rfl, ry⟩ := rs.one rfl
  obtain ⟨q, ws, rfl, a, hq, b, _⟩ := lst_at s rx e
  have g := Grow.write s a e rfl (.lst (ws ++ [vy]))
  refine ⟨q, ws, vy, rfl, rfl, hq, by rw [← b.length]; exact hz, w _ _ _ _ _ p g (s.write a e rfl (.lst ?_ ((b.up g).append (.cons (ry.up g) .nil)))) .non⟩
  rw [List.length_append]; exact hz
theorem md_pop : MtD X "list.pop" popF := by
  refine ⟨_, mt_pop, fun m S H x v xs vs P Q s rx rs p w => ?_⟩
  obtain ⟨n, ys, y, rfl, rfl, e, hy, p⟩ := p
  cases rs
  obtain ⟨q, ws, rfl, a, hq, b, hz⟩ := lst_at s rx e
  obtain ⟨vy, e1, ry⟩ := b.get hy
  have g := Grow.write s a e rfl (.lst ws.dropLast)
  refine ⟨q, ws, vy, rfl, rfl, hq, by rw [← b.length]; exact e1, w _ _ _ _ _ p g (s.write a e rfl (.lst ?_ (b.up g).dropLast)) (ry.up g)⟩
  rw [List.length_dropLast]; omega
theorem md_pop0 : MtD X "list.pop" pop0F := by
  refine ⟨_, mt_popAt, fun m S H x v xs vs P Q s rx rs p w => ?_⟩
  obtain ⟨n, y, ys, rfl, rfl, e, p⟩ := p
  obtain ⟨vi, rfl, ri⟩ := rs.one rfl
  cases ri
  obtain ⟨q, ws, rfl, a, hq, b, hz⟩ := lst_at s rx e
  cases b with
  | @cons _ vy _ ws ry b =>
    have g := Grow.write s a e rfl (.lst ws)
    refine ⟨q, vy :: ws, 0, 0, vy, rfl, rfl, hq, by decide, by decide, ?_, rfl, w _ _ _ _ _ p g (s.write a e rfl (.lst ?_ (b.up g))) (ry.up g)⟩
    · unfold seqIndex?
      simp
    · rw [List.length_cons] at hz; omega
theorem md_extend : MtD X "list.extend" extF := by
  refine ⟨_, mt_extend, fun m S H x v xs vs P Q s rx rs p w => ?_⟩
  obtain ⟨n, k, ys, zs, rfl, rfl, e, e2, hz, p⟩ := p
  obtain ⟨vy, rfl, ry⟩ := rs.one rfl
  obtain ⟨q, ws, rfl, a, hq, b, _⟩ := lst_at s rx e
  obtain ⟨q2, ws2, rfl, a2, hq2, b2, _⟩ := lst_at s ry e2
  have g := Grow.write s a e rfl (.lst (ws ++ ws2))
  refine ⟨q, q2, ws, ws2, rfl, rfl, hq, hq2, by rw [← b.length, ← b2.length]; exact hz, w _ _ _ _ _ p g (s.write a e rfl (.lst ?_ ((b.up g).append (b2.up g)))) .non⟩
  rw [List.length_append]; exact hz
def rUpd : V → List V → Hp → VK → Prop := fun x xs H Q => ∃ a b ks ls, x = .ref a ∧ xs = [.ref b] ∧ a ≠ b ∧ H a = some (.dK ks) ∧ Rd H b (.dK ls) ∧ ks.length + ls.length ≤ sizeLine ∧ Q .non (upd H a (.dK (mergeK ks ls)))
theorem mt_update : MtR X "dict.update" rUpd := by
  intro pins s σ H x xs v us Q I rx rs h
  obtain ⟨a, b, ks, ls, rfl, rfl, ne, ha, hb, hz, q⟩ := h
  cases rx
  obtain ⟨u, rfl, ru⟩ := vals1 rs
  cases ru
  obtain ⟨z1, d1, va, ra, da⟩ := dk_of I.hok ha
  obtain ⟨z2, d2, vb, rb, db⟩ := dk_rd I.hok hb
  refine call_meetsIn PySem.F.slot_dict_update da.typeIs PySem.F.entry_dict_update (PySem.F.args_dict_update_2 _ _) (meets_dict_update (mixKind X.prog X.w) a b ne d2) ⟨va, vb, da, db, by rw [← ra.length, ← rb.length]; exact hz, fun h' dd' _ hs => ?_⟩
  have he : ∃ q, h'.get? a = some q := let ⟨q, _, _, hq, _⟩ := dd'; ⟨q, hq⟩
  have hl : (mergeK ks ls).length ≤ sizeLine := Nat.le_trans (length_mergeK ls ks) hz
  exact ⟨.non, _, d_write (t' := s.toks) I (by rw [ha]; exact True.intro) hs he (dk_new hl d1 (rb.merge ra) dd'), rfl, q⟩
theorem md_update : MtD X "dict.update" updF := by
  refine ⟨_, mt_update, fun m S H x v xs vs P Q s rx rs p w => ?_⟩
  obtain ⟨n, k, ks, ls, rfl, rfl, ne, e, e2, hz, p⟩ := p
  obtain ⟨vy, rfl, ry⟩ := rs.one rfl
  obtain ⟨q, kw, rfl, a, hq, b, _⟩ := dct_at s rx e
  obtain ⟨q2, lw, rfl, hq2, b2, _⟩ := dict_at s ry e2
  have a2 : m[k]? = some q2 := by cases ry; assumption
  have neq : q ≠ q2 := fun h => ne (nd_ix s.nd a (h ▸ a2))
  have g := Grow.write s a e rfl (.dK (mergeK kw lw))
  refine ⟨q, q2, kw, lw, rfl, rfl, neq, hq, hq2, by rw [← b.length, ← b2.length]; exact hz, w _ _ _ _ _ p g (s.write a e rfl (.dct ?_ (RKV.merge (b2.up g) (b.up g)))) .non⟩
  exact Nat.le_trans (length_mergeD ls ks) hz
end

/-! ### {k: v, ..} -/
def dispD : List (FE × FE) → Slots → Store → (List (D × D) → Store → Prop) → Prop
  | [], _, S, Q => Q [] S
  | (fk, fv) :: r, σ, S, Q => fk σ S fun k S1 => fv σ S1 fun v S2 => dispD r σ S2 fun ps S3 => Q ((k, v) :: ps) S3
section
variable {X : Cx} {pos : Pos}
structure RPs (X : Cx) (pos : Pos) (keys : List (Option Expr)) (values : List Expr) (prs : List (FE × FE)) : Prop where
  run : PPs X pos keys values (prs.map fun p => (tOf (kW X) p.1, tOf (kW X) p.2))
theorem rps_nil : RPs X pos [] [] [] := ⟨pps_nil⟩
theorem rps_cons {k v : Expr} {ks : List (Option Expr)} {vs : List Expr} {fk fv : FE} {prs : List (FE × FE)} (hk : RE X k fk) (hv : RE X v fv) (hr : RPs X pos ks vs prs) : RPs X pos (some k :: ks) (v :: vs) ((fk, fv) :: prs) := ⟨pps_cons hk hv hr.run⟩
abbrev RPr (K : KW) (m : List Addr) (H : Hp) : List (D × D) → List (V × V) → Prop := Paired fun p q => RD K m H p.1 q.1 ∧ RD K m H p.2 q.2
theorem RPr.up {K : KW} {m m' : List Addr} {H H' : Hp} {a : List (D × D)} {b : List (V × V)} (r : RPr K m H a b) (g : Grow m H m' H') : RPr K m' H' a b := Paired.mapP r fun _ _ h => ⟨h.1.up g, h.2.up g⟩
theorem disp_run {K : KW} : ∀ (prs : List (FE × FE)) {m : List Addr} {σ : L2.St} {σd : Slots} {S : Store} {H : Hp} {P : List (D × D) → Store → Prop} {Q : List (V × V) → Hp → Prop}, Sim K m S H → RSl K m H σ σd → dispD prs σd S P →
    (∀ ps S' m' qs H', P ps S' → Grow m H m' H' → Sim K m' S' H' → RPr K m' H' ps qs → Q qs H') → tPairs (prs.map fun p => (tOf K p.1, tOf K p.2)) σ H Q
  | [], m, σ, σd, S, H, P, Q, s, r, h, w => w _ _ _ _ _ h (.refl _ _) s .nil
  | (fk, fv) :: prs, m, σ, σd, S, H, P, Q, s, r, h, w => by
    refine ⟨m, σd, S, _, s, r, h, fun k S1 m1 vk H1 p1 g1 s1 r1 => ?_⟩
    refine ⟨m1, σd, S1, _, s1, r.up g1, p1, fun v S2 m2 vv H2 p2 g2 s2 r2 => ?_⟩
    exact disp_run prs s2 (r.up (g1.trans g2)) p2 fun ps S3 m3 qs H3 p3 g3 s3 r3 => w _ _ _ _ _ p3 (g1.trans (g2.trans g3)) s3 (.cons ⟨r1.up (g2.trans g3), r2.up g3⟩ r3)
theorem RPr.kv {K : KW} {m : List Addr} {H : Hp} : ∀ {ps : List (D × D)} {qs : List (V × V)}, RPr K m H ps qs → (∀ p ∈ ps, (toKey p.1).isSome = true) → ∃ kw : List (Key × V), qs = kw.map (fun kv => (kV kv.1, kv.2)) ∧ RKV K m H ps kw
  | _, _, .nil, _ => ⟨[], rfl, .nil⟩
  | (p :: ps), (q :: qs), .cons h t, hk => by
    obtain ⟨k, e⟩ := Option.isSome_iff_exists.mp (hk p List.mem_cons_self)
    obtain ⟨kw, e2, r⟩ := RPr.kv t fun p hp => hk p (List.mem_cons_of_mem _ hp)
    have e1 := toKey_eq e
    refine ⟨(k, q.2) :: kw, ?_, .cons ⟨e1, h.2⟩ r⟩
    have h1 := h.1
    rw [e1] at h1
    rw [List.map_cons, ← e2, ← h1.key]
def eDispD (prs : List (FE × FE)) : FE := fun σ S Q => dispD prs σ (S ++ [.dct []]) fun ps S2 => S2[S.length]? = some (.dct []) ∧ ps.length ≤ 15 ∧ (∀ p ∈ ps, (toKey p.1).isSome = true) ∧ Q (.ref S.length) (S2.set S.length (.dct (mergeD [] ps)))
theorem disp_len : ∀ (prs : List (FE × FE)) {σ : Slots} {S : Store} {P : List (D × D) → Store → Prop}, dispD prs σ S P → True := fun _ _ _ _ _ => trivial
theorem re_disp {keys : List (Option Expr)} {values : List Expr} {prs : List (FE × FE)} (h : RPs X pos keys values prs) (hall : keys.all (·.isSome) = true := by rfl) (hl : keys.length = values.length := by rfl) (h0 : keys ≠ [] := by intro h; cases h)
    (h15 : keys.length ≤ 15 := by decide) : RE X (.Dict keys values pos) (eDispD prs) := by
  refine pe_w (pe_disp h.run hall hl h0 h15) fun σ H Q q => ?_
  obtain ⟨m, σd, S, P, s, r, p, w⟩ := q
  intro a ha
  obtain ⟨g, s1, r1⟩ := new_dct s ha .nil (Nat.zero_le _)
  refine disp_run prs s1 (r.up g) p fun ps S2 m2 qs H2 ⟨e, hl, hk, p2⟩ g2 s2 r2 => ?_
  have hm : m2[S.length]? = some a := by
    cases r1 with
    | ref z => exact g2.at z
  have rc := s2.cell _ _ _ hm e
  generalize eo : H2 a = o at rc
  cases rc with
  | dct z b =>
    cases b
    obtain ⟨kw, ek, rk⟩ := RPr.kv r2 hk
    have g3 := Grow.write s2 hm e rfl (.dK (mergeK [] kw))
    refine ⟨rfl, kw, ek, by rw [← rk.length]; exact hl, ?_⟩
    refine w _ _ _ _ _ p2 (g.trans (g2.trans g3)) (s2.write hm e rfl (.dct ?_ (RKV.merge (rk.up g3) .nil))) (.ref hm)
    have := length_mergeD ps []
    rw [List.length_nil] at this
    rw [sizeLine_eq]; omega
end
end SD
/-! SD7: for, while, comprehensions over D. -/
namespace SD
open PySem PySem.Spec PyProof.Rows L2

/-! ### what is walked -/
abbrev FI := Slots → Store → ((Store → Prop) → List D → Store → Prop) → Prop
/-- J walks the items xs while ok -/
structure Wk (K : KW) (J : It) (ok : Store → Prop) (xs : List D) (m : List Addr) (H : Hp) : Prop where
  few : xs.length ≤ sizeLine
  go : ∀ (i : Nat) m1 S1 H1 d, Grow m H m1 H1 → Sim K m1 S1 H1 → ok S1 → xs[i]? = some d → J.go i H1 ∧ ∀ x H2, J.yld i H1 x H2 → Grow m1 H1 m1 H2 ∧ Sim K m1 S1 H2 ∧ RD K m1 H2 d x
  stop : ∀ (i : Nat) m1 S1 H1, Grow m H m1 H1 → Sim K m1 S1 H1 → ok S1 → xs.length ≤ i → J.stop i H1
theorem Wk.up {K : KW} {J : It} {ok : Store → Prop} {xs : List D} {m m' : List Addr} {H H' : Hp} (w : Wk K J ok xs m H) (g : Grow m H m' H') : Wk K J ok xs m' H' :=
  ⟨w.few, fun i m1 S1 H1 d g1 => w.go i m1 S1 H1 d (g.trans g1), fun i m1 S1 H1 g1 => w.stop i m1 S1 H1 (g.trans g1)⟩
def tOfI (K : KW) (f : FI) : TI := fun σ H R => ∃ m σd S P, Sim K m S H ∧ RSl K m H σ σd ∧ f σd S P ∧ ∀ ok xs S' m' H' J, P ok xs S' → Grow m H m' H' → Sim K m' S' H' → Wk K J ok xs m' H' → R J H'
abbrev RI (X : Cx) (tg e : Expr) (f : FI) : Prop := PI X tg e (tOfI (kW X) f)
def Always : Store → Prop := fun _ => True
/-- a list, a tuple -/
def iSeq (f : FE) : FI := fun σ S R => f σ S fun d S1 => (∃ xs, d = .tup xs ∧ R Always xs S1) ∨ (∃ n xs, d = .ref n ∧ S1[n]? = some (.lst xs) ∧ R (fun S => S[n]? = some (.lst xs)) xs S1)
def iTupD (f : FE) : FI := fun σ S R => f σ S fun d S1 => ∃ xs, d = .tup xs ∧ R Always xs S1
def iLstD (f : FE) : FI := fun σ S R => f σ S fun d S1 => (∃ xs, d = .frz xs ∧ R Always xs S1) ∨ ∃ n xs, d = .ref n ∧ S1[n]? = some (.lst xs) ∧ R (fun S => S[n]? = some (.lst xs)) xs S1
def rngD (lo : Int) (n : Nat) : List D := (List.range n).map fun i => .int (lo + (i : Nat))
def iRg1 (f : FA) : FI := fun σ S R => f σ S fun ds S1 => ∃ j : Int, ds = [.int j] ∧ -1000 ≤ j ∧ j ≤ 16777216 ∧ R Always (rngD 0 j.toNat) S1
def iRg2 (f : FA) : FI := fun σ S R => f σ S fun ds S1 => ∃ i j : Int, ds = [.int i, .int j] ∧ -1000 ≤ i ∧ i ≤ 16777216 ∧ -1000 ≤ j ∧ j ≤ 16776000 ∧ R Always (rngD i (j - i).toNat) S1
section
variable {X : Cx} {tg : Expr}
theorem pi_w {e : Expr} {t t' : TI} (h : PI X tg e t) (w : ∀ σ H Q, t' σ H Q → t σ H Q) : PI X tg e t' := ⟨fun pins s σ H Q I q => h.run pins s σ H Q I (w σ H Q q)⟩
theorem ri_tup {e : Expr} {f : FE} (h : RE X e f) : RI X tg e (iTupD f) := by
  refine pi_w (pi_tup h) fun σ H R q => ?_
  obtain ⟨m, σd, S, P, s, r, p, w⟩ := q
  refine ⟨m, σd, S, _, s, r, p, fun d S1 m1 v H1 ⟨xs, e, p1⟩ g1 s1 r1 => ?_⟩
  subst e
  cases r1 with
  | @tup p xs vs a z b =>
    refine ⟨p, rfl, ⟨vs, a⟩, w _ _ _ _ _ _ p1 g1 s1 ⟨by rw [b.length]; exact z, fun i m2 S2 H2 d g s2 _ hd => ?_, fun i m2 S2 H2 g s2 _ hi => ⟨vs, g.sqT a, by rw [← b.length]; exact hi⟩⟩⟩
    obtain ⟨v, e1, rv⟩ := (b.up g).get hd
    refine ⟨⟨vs, v, g.sqT a, e1⟩, fun x H3 ⟨e2, y⟩ => ?_⟩
    subst e2
    have := y vs (g.sqT a)
    rw [e1] at this
    cases this
    exact ⟨.refl _ _, s2, rv⟩
theorem ri_list {e : Expr} {f : FE} (h : RE X e f) : RI X tg e (iLstD f) := by
  refine pi_w (pi_list h) fun σ H R q => ?_
  obtain ⟨m, σd, S, P, s, r, p, w⟩ := q
  refine ⟨m, σd, S, _, s, r, p, fun d S1 m1 v H1 q1 g1 s1 r1 => ?_⟩
  rcases q1 with ⟨xs, e, p1⟩ | ⟨n, xs, e, e1, p1⟩
  · subst e
    cases r1 with
    | @frz p xs vs a z b =>
      have un : ∀ {m2 : List Addr} {H2 : Hp}, Grow m1 H1 m2 H2 → ∀ ys, SqL X.K H2 p ys → FzL (kW X) H2 p vs → True := fun _ _ _ _ => trivial
      refine ⟨p, rfl, ⟨vs, a.sq⟩, w _ _ _ _ _ _ p1 g1 s1 ⟨by rw [b.length]; exact z, fun i m2 S2 H2 d g s2 _ hd => ?_, fun i m2 S2 H2 g s2 _ hi => ⟨vs, (g.fzL a).sq, by rw [← b.length]; exact hi⟩⟩⟩
      obtain ⟨v, e1, rv⟩ := (b.up g).get hd
      refine ⟨⟨vs, v, (g.fzL a).sq, e1⟩, fun x H3 ⟨e2, y⟩ => ?_⟩
      subst e2
      have := y vs (g.fzL a).sq
      rw [e1] at this
      cases this
      exact ⟨.refl _ _, s2, rv⟩
  · subst e
    obtain ⟨p, vs, rfl, a, hp, b, hz⟩ := lst_at s1 r1 e1
    refine ⟨p, rfl, ⟨vs, SqL.of hp⟩, w _ _ _ _ _ _ p1 g1 s1 ⟨hz, fun i m2 S2 H2 d g s2 ok hd => ?_, fun i m2 S2 H2 g s2 ok hi => ?_⟩⟩
    · obtain ⟨p', ws, e2, a2, hp2, b2, _⟩ := lst_at s2 (.ref (g.at a)) ok
      cases e2
      obtain ⟨v, e1, rv⟩ := b2.get hd
      refine ⟨⟨ws, v, SqL.of hp2, e1⟩, fun x H3 ⟨e2, y⟩ => ?_⟩
      subst e2
      have := y ws (SqL.of hp2)
      rw [e1] at this
      cases this
      exact ⟨.refl _ _, s2, rv⟩
    · obtain ⟨p', ws, e2, a2, hp2, b2, _⟩ := lst_at s2 (.ref (g.at a)) ok
      cases e2
      exact ⟨ws, SqL.of hp2, by rw [← b2.length]; exact hi⟩
theorem wk_range {K : KW} {lo : Int} {n : Nat} {m : List Addr} {H : Hp} (hn : n ≤ sizeLine) : Wk K (Itr lo n) Always (rngD lo n) m H := by
  refine ⟨by unfold rngD; rw [List.length_map, List.length_range]; exact hn, fun i m2 S2 H2 d g s2 _ hd => ?_, fun i m2 S2 H2 g s2 _ hi => ?_⟩
  · unfold rngD at hd
    rw [List.getElem?_map] at hd
    cases e : (List.range n)[i]? with
    | none => rw [e] at hd; cases hd
    | some j =>
      rw [e] at hd
      cases hd
      obtain ⟨h1, h2⟩ := List.getElem?_eq_some_iff.mp e
      rw [List.length_range] at h1
      rw [List.getElem_range] at h2
      subst h2
      exact ⟨h1, fun x H3 ⟨e1, e2⟩ => by subst e1 e2; exact ⟨.refl _ _, s2, .int _⟩⟩
  · unfold rngD at hi
    rw [List.length_map, List.length_range] at hi
    exact hi
theorem ri_range1 {a : Expr} {fa : FA} {p pos : Pos} (hm : X.mg "range" = none) (ha : RA X [a] fa) (hg : Gl X "range" := by rfl) (hs : starEach [a] X.env = [(false, eval a X.env)] := by rfl) : RI X tg (.Call (.Name "range" p) [a] [] pos) (iRg1 fa) := by
  refine pi_w (pi_range1 hg hm ha hs) fun σ H R q => ?_
  obtain ⟨m, σd, S, P, s, r, p, w⟩ := q
  refine ⟨m, σd, S, _, s, r, p, fun ds S1 m1 vs H1 ⟨j, e, h0, h1, p1⟩ g1 s1 r1 => ?_⟩
  obtain ⟨v, rfl, rv⟩ := r1.one e
  cases rv
  exact ⟨j, rfl, by omega, by omega, w _ _ _ _ _ _ p1 g1 s1 (wk_range (by rw [sizeLine_eq]; omega))⟩
theorem ri_range2 {a b : Expr} {fa : FA} {p pos : Pos} (hm : X.mg "range" = none) (ha : RA X [a, b] fa) (hg : Gl X "range" := by rfl) (hs : starEach [a, b] X.env = [(false, eval a X.env), (false, eval b X.env)] := by rfl) (hs2 : starEach [b] X.env = [(false, eval b X.env)] := by rfl) :
    RI X tg (.Call (.Name "range" p) [a, b] [] pos) (iRg2 fa) := by
  refine pi_w (pi_range2 hg hm ha hs hs2) fun σ H R q => ?_
  obtain ⟨m, σd, S, P, s, r, p, w⟩ := q
  refine ⟨m, σd, S, _, s, r, p, fun ds S1 m1 vs H1 ⟨i, j, e, h0, h1, h2, h3, p1⟩ g1 s1 r1 => ?_⟩
  subst e
  cases r1 with
  | cons ra rb =>
    cases rb with
    | cons rb rn =>
      cases rn
      cases ra
      cases rb
      exact ⟨i, j, rfl, ⟨by omega, by omega, by omega, by omega⟩, w _ _ _ _ _ _ p1 g1 s1 (wk_range (by rw [sizeLine_eq]; omega))⟩
end

/-! ### for -/
def forD (ok : Store → Prop) (g : FG) (b : FS) (E : EndsD) : List D → Slots → Store → Prop
  | [], σ, S => ok S ∧ E.nx σ S
  | x :: xs, σ, S => ok S ∧ g x σ S fun σ1 S1 => b { E with nx := forD ok g b E xs, ct := forD ok g b E xs, bk := E.nx } σ1 S1
def sFor (f : FI) (g : FG) (b : FS) : FS := fun E σ S => f σ S fun ok xs S1 => forD ok g b E xs σ S1
theorem forD_ok {ok : Store → Prop} {g : FG} {b : FS} {E : EndsD} : ∀ {xs : List D} {σ : Slots} {S : Store}, forD ok g b E xs σ S → ok S
  | [], _, _, h => h.1
  | _ :: _, _, _, h => h.1
section
variable {X : Cx} {pos : Pos}
theorem rs_for {tg iter : Expr} {body : List Stmt} {f : FI} {g : FG} {b : FS} (hp : PassesOwn (model X.prog X.w) X.A X.env X.xe) (hc : X.calm = true) (hi : RI X tg iter f) (hg : RG X tg g) (hb : RSs X body b)
    (hs : ∀ x, foldedSetIterable iter X.env x = pure x := by intro _; rfl) : RS X (.For tg iter body [] pos) (sFor f g b) := by
  refine ps_w (ps_for hp hc hi hg hb hs) fun D σ H q => ?_
  obtain ⟨m, σd, S, E, s, r, p, w⟩ := q
  refine ⟨m, σd, S, _, s, r, p, fun ok xs S1 m1 H1 J p1 g1 s1 wk => ?_⟩
  refine ⟨fun i n σ2 H2 => n = xs.length - i ∧ i ≤ xs.length ∧ ∃ m2 σd2 S2, Sim (kW X) m2 S2 H2 ∧ RSl (kW X) m2 H2 σ2 σd2 ∧ Grow m1 H1 m2 H2 ∧ forD ok g b E (xs.drop i) σd2 S2, ⟨xs.length, by simp, Nat.zero_le _, m1, σd, S1, s1, r.up g1, .refl _ _, p1⟩, ?_⟩
  rintro i n σ2 H2 ⟨rfl, hi, m2, σd2, S2, s2, r2, g2, h2⟩
  by_cases hlt : i < xs.length
  · have e : xs.drop i = xs[i] :: xs.drop (i + 1) := List.drop_eq_getElem_cons hlt
    rw [e] at h2
    obtain ⟨hok, h2⟩ := h2
    obtain ⟨go, yl⟩ := wk.go i m2 S2 H2 xs[i] g2 s2 hok (by simp [hlt])
    refine .inr ⟨go, fun σ' H' => ∃ m3 σd3 S3, Sim (kW X) m3 S3 H' ∧ RSl (kW X) m3 H' σ' σd3 ∧ Grow m1 H1 m3 H' ∧ forD ok g b E (xs.drop (i + 1)) σd3 S3, fun σ' H' ⟨m3, σd3, S3, s3, r3, g3, h3⟩ => ⟨xs.length - (i + 1), by omega, rfl, hlt, m3, σd3, S3, s3, r3, g3, h3⟩, fun x H3 hy => ?_⟩
    obtain ⟨g3, s3, rx⟩ := yl x H3 hy
    refine ⟨m2, σd2, S2, xs[i], _, s3, r2.up g3, rx, h2, fun σd4 S4 m4 σ4 H4 p4 g4 s4 r4 => ?_⟩
    have gg := g2.trans (g3.trans g4)
    have ww := w.up (g1.trans gg)
    exact ⟨m4, σd4, S4, _, s4, r4, p4, ⟨fun σd5 S5 m5 σ5 H5 p5 g5 s5 r5 => ⟨m5, σd5, S5, s5, r5, gg.trans g5, p5⟩, ww.rt, ww.nx, fun σd5 S5 m5 σ5 H5 p5 g5 s5 r5 => ⟨m5, σd5, S5, s5, r5, gg.trans g5, p5⟩⟩⟩
  · have e : i = xs.length := by omega
    subst e
    rw [List.drop_length] at h2
    exact .inl ⟨wk.stop _ m2 S2 H2 g2 s2 h2.1 (Nat.le_refl _), w.nx _ _ _ _ _ h2.2 (g1.trans g2) s2 r2⟩
/-! ### while -/
end
def whileD (c : FT) (b : FS) (E : EndsD) : Nat → Slots → Store → Prop
  | 0, _, _ => False
  | n + 1, σ, S => c σ S fun t S1 => if t = true then b { E with nx := whileD c b E n, ct := whileD c b E n, bk := E.nx } σ S1 else E.nx σ S1
def sWhile (c : FT) (b : FS) : FS := fun E σ S => ∃ n, whileD c b E n σ S
section
variable {X : Cx} {pos : Pos}
theorem rs_while {c : Expr} {body : List Stmt} {t : FT} {b : FS} (hp : PassesOwn (model X.prog X.w) X.A X.env X.xe) (hc : RT X c t) (hb : RSs X body b) : RS X (.While c body [] pos) (sWhile t b) := by
  refine ps_w (ps_while hp hc hb) fun D σ H q => ?_
  obtain ⟨m, σd, S, E, s, r, ⟨n0, p⟩, w⟩ := q
  refine ⟨fun n σ2 H2 => ∃ m2 σd2 S2, Sim (kW X) m2 S2 H2 ∧ RSl (kW X) m2 H2 σ2 σd2 ∧ Grow m H m2 H2 ∧ whileD t b E n σd2 S2, ⟨n0, m, σd, S, s, r, .refl _ _, p⟩, ?_⟩
  rintro n σ2 H2 ⟨m2, σd2, S2, s2, r2, g2, h2⟩
  cases n with
  | zero => exact False.elim h2
  | succ n =>
    refine ⟨m2, σd2, S2, _, s2, r2, h2, fun k S3 m3 H3 p3 g3 s3 => ?_⟩
    have ww := w.up (g2.trans g3)
    cases k with
    | true =>
      rw [if_pos rfl] at p3
      refine iteT ⟨fun σ' H' => ∃ m4 σd4 S4, Sim (kW X) m4 S4 H' ∧ RSl (kW X) m4 H' σ' σd4 ∧ Grow m H m4 H' ∧ whileD t b E n σd4 S4, fun σ' H' h => ⟨n, Nat.lt_succ_self n, h⟩, ?_⟩
      exact ⟨m3, σd2, S3, _, s3, r2.up g3, p3, ⟨fun σd5 S5 m5 σ5 H5 p5 g5 s5 r5 => ⟨m5, σd5, S5, s5, r5, (g2.trans g3).trans g5, p5⟩, ww.rt, ww.nx, fun σd5 S5 m5 σ5 H5 p5 g5 s5 r5 => ⟨m5, σd5, S5, s5, r5, (g2.trans g3).trans g5, p5⟩⟩⟩
    | false =>
      rw [if_neg (by decide)] at p3
      exact iteF (ww.nx _ _ _ _ _ p3 (.refl _ _) s3 (r2.up g3))
end

/-! ### comprehensions -/
def tYesD : FT := fun _ S Q => Q true S
def PGD (K : KW) (vs : List Nat) (g : TG) (gd : FG) : Prop := ∀ m S H σ σd d v P Q, Sim K m S H → RSl K m H (wipe σ vs) σd → RD K m H d v → gd d σd S P →
  (∀ σd2 S2 m2 σ2 H2, P σd2 S2 → Grow m H m2 H2 → Sim K m2 S2 H2 → RSl K m2 H2 σ2 σd2 → wipe σ2 vs = wipe σ vs → Q σ2 H2) → g v (wipe σ vs) H Q
theorem pgd_name {K : KW} (i : Nat) : PGD K [i] (gName i) (gNm i) := by
  intro m S H σ σd d v P Q s r rd p w
  exact w _ _ _ _ _ p (.refl _ _) s (r.set rd i) (by simp [wipe, List.set_set])
theorem pgd_two {K : KW} (i j : Nat) (hij : i ≠ j) : PGD K [i, j] (gTup K 2 (gCons (gName i) (gCons (gName j) gNil))) (gTp 2 (gsCons (gNm i) (gsCons (gNm j) gsNil))) := by
  intro m S H σ σd d v P Q s r rd p w
  obtain ⟨xs, rfl, hl, x, r1, rfl, y, r2, e2, e3, p⟩ := p
  subst e2
  subst e3
  cases rd with
  | tup a z b =>
    cases b with
    | cons ra b =>
      cases b with
      | cons rb b =>
        cases b
        refine ⟨_, _, rfl, a, rfl, _, _, rfl, _, _, rfl, rfl, ?_⟩
        refine w _ _ _ _ _ p (.refl _ _) s ((r.set ra i).set rb j) ?_
        simp only [wipe]
        rw [List.set_set]
        apply List.ext_getElem?
        intro n
        simp only [List.getElem?_set, List.length_set]
        split <;> split <;> simp_all
def lcD (ok : Store → Prop) (g : FG) (t : FT) (e : FE) (n0 : Nat) (Q : Store → Prop) (σ : Slots) : List D → Store → Prop
  | [], S => ok S ∧ Q S
  | x :: xs, S => ok S ∧ g x σ S fun σ2 S2 => t σ2 S2 fun b S3 => if b = true then e σ2 S3 fun y S4 => ∃ acc, S4[n0]? = some (.lst acc) ∧ acc.length < sizeLine ∧ lcD ok g t e n0 Q σ xs (S4.set n0 (.lst (acc ++ [y])))
      else lcD ok g t e n0 Q σ xs S3
def eLc (f : FI) (g : FG) (t : FT) (e : FE) (vs : List Nat) : FE := fun σ S Q => f σ S fun ok xs S1 => xs.length ≤ sizeLine → lcD ok g t e S1.length (fun S' => Q (.ref S1.length) S') (wipeD σ vs) xs (S1 ++ [.lst []])
def dcD (ok : Store → Prop) (g : FG) (t : FT) (fk fv : FE) (n0 : Nat) (Q : Store → Prop) (σ : Slots) : List D → Store → Prop
  | [], S => ok S ∧ Q S
  | x :: xs, S => ok S ∧ g x σ S fun σ2 S2 => t σ2 S2 fun b S3 => if b = true then fk σ2 S3 fun k S4 => fv σ2 S4 fun v S5 => ∃ acc, (toKey k).isSome = true ∧ S5[n0]? = some (.dct acc) ∧ acc.length < sizeLine ∧ dcD ok g t fk fv n0 Q σ xs (S5.set n0 (.dct (putD acc k v)))
      else dcD ok g t fk fv n0 Q σ xs S3
def eDc (f : FI) (g : FG) (t : FT) (fk fv : FE) (vs : List Nat) : FE := fun σ S Q => f σ S fun ok xs S1 => xs.length ≤ sizeLine → dcD ok g t fk fv S1.length (fun S' => Q (.ref S1.length) S') (wipeD σ vs) xs (S1 ++ [.dct []])
/-- a clause's tests -/
abbrev RTs (X : Cx) (ifs : List Expr) (f : FT) : Prop := PTs X ifs (tOfT (kW X) f)
theorem pts_w {X : Cx} {e : List Expr} {t t' : TT} (h : PTs X e t) (w : ∀ σ H Q, t' σ H Q → t σ H Q) : PTs X e t' := ⟨fun pins s σ H Q I q => h.run pins s σ H Q I (w σ H Q q)⟩
theorem rts_nil {X : Cx} : RTs X [] tYesD := by
  refine pts_w pts_nil fun σ H Q q => ?_
  obtain ⟨m, σd, S, P, s, r, p, w⟩ := q
  exact w _ _ _ _ p (.refl _ _) s
theorem rts_one {X : Cx} {c : Expr} {t : FT} (h : RT X c t) : RTs X [c] t := pts_one h
section
variable {K : KW}
theorem wipe_len (σ : L2.St) (vs : List Nat) : (wipe σ vs).length = σ.length := wipe_length σ vs
theorem tOf_lc {g : TG} {gd : FG} {vs : List Nat} (hg : PGD K vs g gd) {f : FI} {t : FT} {e : FE} {σ : L2.St} {H : Hp} {Q : VK} (h : tOf K (eLc f gd t e vs) σ H Q) : tLc (tOfI K f) g (tOfT K t) (tOf K e) vs σ H Q := by
  obtain ⟨m, σd, S, P, s, r, p, w⟩ := h
  refine ⟨m, σd, S, _, s, r, p, fun ok xs S1 m1 H1 J p1 g1 s1 wk => fun D hD => ?_⟩
  have p1 := p1 wk.few
  obtain ⟨gN, sN, rN⟩ := new_lst s1 hD .nil (Nat.zero_le _)
  have hm : (m1 ++ [D])[S1.length]? = some D := by rw [← s1.len]; simp
  refine ⟨fun i n H2 => n = xs.length - i ∧ i ≤ xs.length ∧ ∃ m2 S2, Sim K m2 S2 H2 ∧ Grow (m1 ++ [D]) (upd H1 D (.lst [])) m2 H2 ∧ lcD ok gd t e S1.length (fun S' => P (.ref S1.length) S') (wipeD σd vs) (xs.drop i) S2, ⟨xs.length, by simp, Nat.zero_le _, _, _, sN, .refl _ _, p1⟩, ?_⟩
  rintro i n H2 ⟨rfl, hi, m2, S2, s2, g2, h2⟩
  by_cases hlt : i < xs.length
  · have ed : xs.drop i = xs[i] :: xs.drop (i + 1) := List.drop_eq_getElem_cons hlt
    rw [ed] at h2
    obtain ⟨hok, h2⟩ := h2
    obtain ⟨go, yl⟩ := wk.go i m2 S2 H2 xs[i] (gN.trans g2) s2 hok (by simp [hlt])
    refine .inr ⟨go, fun H' => ∃ m3 S3, Sim K m3 S3 H' ∧ Grow (m1 ++ [D]) (upd H1 D (.lst [])) m3 H' ∧ lcD ok gd t e S1.length (fun S' => P (.ref S1.length) S') (wipeD σd vs) (xs.drop (i + 1)) S3, fun H' ⟨m3, S3, s3, g3, h3⟩ => ⟨xs.length - (i + 1), by omega, rfl, hlt, m3, S3, s3, g3, h3⟩, fun x H3 hy => ?_⟩
    obtain ⟨g3, s3, rx⟩ := yl x H3 hy
    refine hg m2 S2 H3 σ (wipeD σd vs) xs[i] x _ _ s3 ((r.wipe vs).up (g1.trans (gN.trans (g2.trans g3)))) rx h2 fun σd4 S4 m4 σ4 H4 p4 g4 s4 r4 hw => ⟨hw, ?_⟩
    refine ⟨m4, σd4, S4, _, s4, r4, p4, fun b S5 m5 H5 p5 g5 s5 => ?_⟩
    cases b with
    | false =>
      rw [if_neg (by decide)] at p5
      exact iteF ⟨m5, S5, s5, g2.trans (g3.trans (g4.trans g5)), p5⟩
    | true =>
      rw [if_pos rfl] at p5
      refine iteT ⟨m5, σd4, S5, _, s5, r4.up g5, p5, fun y S6 m6 vy H6 ⟨acc, e6, hz, p6⟩ g6 s6 r6 => ?_⟩
      have gg := g2.trans (g3.trans (g4.trans (g5.trans g6)))
      have hm6 := gg.at hm
      have rc := s6.cell _ _ _ hm6 e6
      generalize eo : H6 D = o at rc
      cases rc with
      | @lst _ va z b =>
        have g7 := Grow.write s6 hm6 e6 rfl (.lst (va ++ [vy]))
        refine ⟨va, eo, by rw [← b.length]; exact hz, m6, _, s6.write hm6 e6 rfl (.lst ?_ ((b.up g7).append (.cons (r6.up g7) .nil))), gg.trans g7, p6⟩
        rw [List.length_append]; exact hz
  · have ei : i = xs.length := by omega
    subst ei
    rw [List.drop_length] at h2
    exact .inl ⟨wk.stop _ m2 S2 H2 (gN.trans g2) s2 h2.1 (Nat.le_refl _), w _ _ _ _ _ h2.2 (g1.trans (gN.trans g2)) s2 (.ref (g2.at hm))⟩
theorem tOf_dc {g : TG} {gd : FG} {vs : List Nat} (hg : PGD K vs g gd) {f : FI} {t : FT} {fk fv : FE} {σ : L2.St} {H : Hp} {Q : VK} (h : tOf K (eDc f gd t fk fv vs) σ H Q) : tDc (tOfI K f) g (tOfT K t) (tOf K fk) (tOf K fv) vs σ H Q := by
  obtain ⟨m, σd, S, P, s, r, p, w⟩ := h
  refine ⟨m, σd, S, _, s, r, p, fun ok xs S1 m1 H1 J p1 g1 s1 wk => fun D hD => ?_⟩
  have p1 := p1 wk.few
  obtain ⟨gN, sN, rN⟩ := new_dct s1 hD .nil (Nat.zero_le _)
  have hm : (m1 ++ [D])[S1.length]? = some D := by rw [← s1.len]; simp
  refine ⟨fun i n H2 => n = xs.length - i ∧ i ≤ xs.length ∧ ∃ m2 S2, Sim K m2 S2 H2 ∧ Grow (m1 ++ [D]) (upd H1 D (.dK [])) m2 H2 ∧ dcD ok gd t fk fv S1.length (fun S' => P (.ref S1.length) S') (wipeD σd vs) (xs.drop i) S2, ⟨xs.length, by simp, Nat.zero_le _, _, _, sN, .refl _ _, p1⟩, ?_⟩
  rintro i n H2 ⟨rfl, hi, m2, S2, s2, g2, h2⟩
  by_cases hlt : i < xs.length
  · have ed : xs.drop i = xs[i] :: xs.drop (i + 1) := List.drop_eq_getElem_cons hlt
    rw [ed] at h2
    obtain ⟨hok, h2⟩ := h2
    obtain ⟨go, yl⟩ := wk.go i m2 S2 H2 xs[i] (gN.trans g2) s2 hok (by simp [hlt])
    refine .inr ⟨go, fun H' => ∃ m3 S3, Sim K m3 S3 H' ∧ Grow (m1 ++ [D]) (upd H1 D (.dK [])) m3 H' ∧ dcD ok gd t fk fv S1.length (fun S' => P (.ref S1.length) S') (wipeD σd vs) (xs.drop (i + 1)) S3, fun H' ⟨m3, S3, s3, g3, h3⟩ => ⟨xs.length - (i + 1), by omega, rfl, hlt, m3, S3, s3, g3, h3⟩, fun x H3 hy => ?_⟩
    obtain ⟨g3, s3, rx⟩ := yl x H3 hy
    refine hg m2 S2 H3 σ (wipeD σd vs) xs[i] x _ _ s3 ((r.wipe vs).up (g1.trans (gN.trans (g2.trans g3)))) rx h2 fun σd4 S4 m4 σ4 H4 p4 g4 s4 r4 hw => ⟨hw, ?_⟩
    refine ⟨m4, σd4, S4, _, s4, r4, p4, fun b S5 m5 H5 p5 g5 s5 => ?_⟩
    cases b with
    | false =>
      rw [if_neg (by decide)] at p5
      exact iteF ⟨m5, S5, s5, g2.trans (g3.trans (g4.trans g5)), p5⟩
    | true =>
      rw [if_pos rfl] at p5
      refine iteT ⟨m5, σd4, S5, _, s5, r4.up g5, p5, fun y S6 m6 vy H6 p6 g6 s6 r6 => ?_⟩
      refine ⟨m6, σd4, S6, _, s6, r4.up (g5.trans g6), p6, fun z S7 m7 vz H7 ⟨acc, hk, e7, hz, p7⟩ g7 s7 r7 => ?_⟩
      have gg := g2.trans (g3.trans (g4.trans (g5.trans (g6.trans g7))))
      have hm7 := gg.at hm
      have rc := s7.cell _ _ _ hm7 e7
      obtain ⟨k, hk⟩ := Option.isSome_iff_exists.mp hk
      have ek := toKey_eq hk
      subst ek
      have ev := r6.key
      generalize eo : H7 D = o at rc
      cases rc with
      | @dct _ va z b =>
        have g8 := Grow.write s7 hm7 e7 rfl (.dK (putK va k vz))
        refine ⟨va, k, ev, eo, by rw [← b.length]; exact hz, m7, _, s7.write hm7 e7 rfl (.dct ?_ ((b.up g8).put k (r7.up g8))), gg.trans g8, p7⟩
        have := length_putD acc (keyD k) (by assumption)
        have hz2 := hz
        omega
  · have ei : i = xs.length := by omega
    subst ei
    rw [List.drop_length] at h2
    exact .inl ⟨wk.stop _ m2 S2 H2 (gN.trans g2) s2 h2.1 (Nat.le_refl _), w _ _ _ _ _ h2.2 (g1.trans (gN.trans g2)) s2 (.ref (g2.at hm))⟩
end
end SD
/-! SD8: comprehensions as expressions and stored, dicts walked, isinstance, tuple(range), slices, get. -/
namespace SD
open PySem PySem.Spec PyProof.Rows L2

section
variable {X : Cx}
theorem re_lc {elt tg iter : Expr} {ifs : List Expr} {scope : Scope} {own : List (Str × Nat)} {pos : Pos} {f : FI} {g : TG} {gd : FG} {t : FT} {e : FE} (hc : X.calm = true) (hN : X.N.Nodup) (hi : RI X tg iter f) (ok : BlkOk X.N X.env.scope scope own) (hgd : PGD (kW X) (own.map (·.2)) g gd)
    (hg : ∀ (s : Shared) (H : Hp) (C : Addr) (cl : List (Str × Addr)) (fp : List Addr), PG (X.blk s H scope (compEnvC scope cl C X.env) fp) tg g) (ht : ∀ (s : Shared) (H : Hp) (C : Addr) (cl : List (Str × Addr)) (fp : List Addr), RTs (X.blk s H scope (compEnvC scope cl C X.env) fp) ifs t)
    (he : ∀ (s : Shared) (H : Hp) (C : Addr) (cl : List (Str × Addr)) (fp : List Addr), RE (X.blk s H scope (compEnvC scope cl C X.env) fp) elt e) (hs : ∀ x, foldedSetIterable iter X.env x = pure x := by intro _; rfl) :
    RE X (.ListComp elt [⟨tg, iter, ifs, 0⟩] scope pos) (eLc f gd t e (own.map (·.2))) :=
  pe_w (pe_lc (tt := tOfT (kW X) t) (te := tOf (kW X) e) hc hN hi ok hg ht he hs) fun _ _ _ q => tOf_lc hgd q
theorem rs_setLc {i : Nat} {y : Str} {py : Pos} {elt tg iter : Expr} {ifs : List Expr} {scope : Scope} {own : List (Str × Nat)} {pos spos : Pos} {f : FI} {g : TG} {gd : FG} {t : FT} {e : FE} (hc : X.calm = true) (hN : X.N.Nodup) (hi : RI X tg iter f) (ok : BlkOk X.N X.env.scope scope own) (hgd : PGD (kW X) (own.map (·.2)) g gd)
    (hg : ∀ (s : Shared) (H : Hp) (C : Addr) (cl : List (Str × Addr)) (fp : List Addr), PG (X.blk s H scope (compEnvC scope cl C X.env) fp) tg g) (ht : ∀ (s : Shared) (H : Hp) (C : Addr) (cl : List (Str × Addr)) (fp : List Addr), RTs (X.blk s H scope (compEnvC scope cl C X.env) fp) ifs t)
    (he : ∀ (s : Shared) (H : Hp) (C : Addr) (cl : List (Str × Addr)) (fp : List Addr), RE (X.blk s H scope (compEnvC scope cl C X.env) fp) elt e)
    (hsw : swapsWith (.ListComp elt [⟨tg, iter, ifs, 0⟩] scope pos) (some (.Name y py)) spos.line X.env = pure true) (hy : X.N[i]? = some y := by rfl) (hyl : X.env.scope.names.lookup y = some .local := by rfl) (hs : ∀ x, foldedSetIterable iter X.env x = pure x := by intro _; rfl) :
    RS X (.Assign [.Name y py] (.ListComp elt [⟨tg, iter, ifs, 0⟩] scope pos) spos) (sAsg (eLc f gd t e (own.map (·.2))) (gNm i)) := by
  refine ps_w (ps_setLc (tt := tOfT (kW X) t) (te := tOf (kW X) e) hc hN hy hyl hsw hi ok hg ht he hs) fun D σ H q => ?_
  obtain ⟨m, σd, S, E, s, r, p, w⟩ := q
  exact tOf_lc hgd ⟨m, σd, S, _, s, r, p, fun d S1 m1 v H1 p1 g1 s1 r1 => w.nx _ _ _ _ _ p1 g1 s1 ((r.up g1).set r1 i)⟩
theorem re_dc {kx vx tg iter : Expr} {ifs : List Expr} {scope : Scope} {own : List (Str × Nat)} {pos : Pos} {f : FI} {g : TG} {gd : FG} {t : FT} {fk fv : FE} (hc : X.calm = true) (hN : X.N.Nodup) (hi : RI X tg iter f) (ok : BlkOk X.N X.env.scope scope own) (hgd : PGD (kW X) (own.map (·.2)) g gd)
    (hg : ∀ (s : Shared) (H : Hp) (C : Addr) (cl : List (Str × Addr)) (fp : List Addr), PG (X.blk s H scope (compEnvC scope cl C X.env) fp) tg g) (ht : ∀ (s : Shared) (H : Hp) (C : Addr) (cl : List (Str × Addr)) (fp : List Addr), RTs (X.blk s H scope (compEnvC scope cl C X.env) fp) ifs t)
    (hk : ∀ (s : Shared) (H : Hp) (C : Addr) (cl : List (Str × Addr)) (fp : List Addr), RE (X.blk s H scope (compEnvC scope cl C X.env) fp) kx fk)
    (he : ∀ (s : Shared) (H : Hp) (C : Addr) (cl : List (Str × Addr)) (fp : List Addr), RE (X.blk s H scope (compEnvC scope cl C X.env) fp) vx fv) (hs : ∀ x, foldedSetIterable iter X.env x = pure x := by intro _; rfl) :
    RE X (.DictComp kx vx [⟨tg, iter, ifs, 0⟩] scope pos) (eDc f gd t fk fv (own.map (·.2))) :=
  pe_w (pe_dc (tt := tOfT (kW X) t) (tk := tOf (kW X) fk) (tv := tOf (kW X) fv) hc hN hi ok hg ht hk he hs) fun _ _ _ q => tOf_dc hgd q

/-! ### a dict walked: locked meanwhile -/
/-- for k in d, d the name in slot i -/
def iKeysD (i : Nat) : FI := fun σ S R => ∃ n kvs, σ[i]? = some (some (.ref n)) ∧ S[n]? = some (.lck kvs) ∧ R (fun S => S[n]? = some (.lck kvs)) (kvs.map (·.1)) S
theorem ri_keys {tg : Expr} (i : Nat) {x : Str} {pos : Pos} (hN : X.N[i]? = some x := by rfl) (hv : Vis X.env.scope x := by first | exact Or.inl rfl | exact Or.inr (Or.inl rfl) | exact Or.inr (Or.inr rfl)) (hd : (x == ("__debug__" : Str)) = false := by decide)
    (hcd : (x == ("__classdict__" : Str)) = false := by decide) : RI X tg (.Name x pos) (iKeysD i) := by
  refine pi_w (pi_keys (pe_var hN hv hd hcd)) fun σ H R q => ?_
  obtain ⟨m, σd, S, P, s, r, ⟨n, kvs, e1, e2, p⟩, w⟩ := q
  obtain ⟨v, e3, rv⟩ := r.val i _ e1
  refine ⟨v, e3, ?_⟩
  cases rv with
  | @ref _ d a =>
    have rc := s.cell _ _ _ a e2
    generalize eo : H d = o at rc
    cases rc with
    | @lck _ kw od z b =>
      refine ⟨d, od, rfl, .inl ⟨kw, eo, w _ _ _ _ _ _ p (.refl _ _) s ⟨by rw [List.length_map]; exact z, fun i m2 S2 H2 d2 g s2 ok hd => ?_, fun i m2 S2 H2 g s2 ok hi => ?_⟩⟩⟩
      · have e4 := g.frzs _ _ _ eo
        rw [List.getElem?_map] at hd
        have hlt : i < kvs.length := by
          cases e5 : kvs[i]? with
          | none => rw [e5] at hd; cases hd
          | some q => exact (List.getElem?_eq_some_iff.mp e5).1
        refine ⟨⟨e4, by rw [← b.length]; exact hlt⟩, fun x H3 ⟨e5, k, v, e6, e7⟩ => ?_⟩
        subst e5
        refine ⟨.refl _ _, s2, ?_⟩
        have rk : RDs (kW X) m H (kvs.map (·.1)) (kw.map fun kv => kV kv.1) := b.keysR
        obtain ⟨v', e8, rv⟩ := (rk.up g).get (i := i) (d := d2) (by rw [List.getElem?_map]; exact hd)
        rw [List.getElem?_map, e6] at e8
        cases e8
        rw [e7]
        exact rv
      · exact ⟨g.frzs _ _ _ eo, by rw [← b.length]; rw [List.length_map] at hi; exact hi⟩
def eLock (i : Nat) (f : FE) : FE := fun σ S Q => ∃ n kvs, σ[i]? = some (some (.ref n)) ∧ S[n]? = some (.dct kvs) ∧ f σ (S.set n (.lck kvs)) fun d S' => S'[n]? = some (.lck kvs) ∧ Q d (S'.set n (.dct kvs))
def sLock (i : Nat) (f : FS) : FS := fun E σ S => ∃ n kvs, σ[i]? = some (some (.ref n)) ∧ S[n]? = some (.dct kvs) ∧
  f ⟨fun σ' S' => S'[n]? = some (.lck kvs) ∧ E.nx σ' (S'.set n (.dct kvs)), fun d S' => S'[n]? = some (.lck kvs) ∧ E.rt d (S'.set n (.dct kvs)), fun σ' S' => S'[n]? = some (.lck kvs) ∧ E.bk σ' (S'.set n (.dct kvs)), fun σ' S' => S'[n]? = some (.lck kvs) ∧ E.ct σ' (S'.set n (.dct kvs))⟩ σ (S.set n (.lck kvs))
end
section
variable {K : KW} {m m' : List Addr} {H H' : Hp} {S S' : Store} {n : Nat} {p : Addr} {kvs : List (D × D)} {kw : List (Key × V)} {od : Obj}
theorem lock_sim (s : Sim K m S H) (hp : m[n]? = some p) (hS : S[n]? = some (.dct kvs)) (b : RKV K m H kvs kw) (hz : kvs.length ≤ sizeLine) : Sim K m (S.set n (.lck kvs)) (upd H p (.frz od (.dK kw))) ∧ Grow m H m (upd H p (.frz od (.dK kw))) := by
  have g := Grow.write s hp hS rfl (.frz od (.dK kw))
  exact ⟨s.write hp hS rfl (.lck hz (b.up g)), g⟩
theorem unlock0 (hp : H p = some (.frz od (.dK kw))) : Grow0 m H m (upd H p (.dK kw)) := by
  refine ⟨List.prefix_refl _, fun a xs e => ?_, fun a o u hu _ e => ?_⟩
  · rw [upd_ne (fun z => by subst z; rw [hp] at e; cases e)]
    exact e
  · rw [upd_ne (fun z => by subst z; rw [hp] at e; cases e; exact hu _ rfl)]
    exact e
/-- the lock is taken away -/
theorem unlock (s : Sim K m' S' H') (g : Grow m (upd H p (.frz od (.dK kw))) m' H') (hp : m[n]? = some p) (hH : H p = some (.dK kw)) (b : RKV K m H kvs kw) (hz : kvs.length ≤ sizeLine) (hS : S'[n]? = some (.lck kvs)) :
    H' p = some (.frz od (.dK kw)) ∧ Sim K m' (S'.set n (.dct kvs)) (upd H' p (.dK kw)) ∧ Grow m H m' (upd H' p (.dK kw)) ∧ Grow0 m' H' m' (upd H' p (.dK kw)) := by
  have e : H' p = some (.frz od (.dK kw)) := g.frzs _ _ _ upd_same
  have g0 : Grow0 m' H' m' (upd H' p (.dK kw)) := unlock0 e
  have gr : Grow m H m' (upd H' p (.dK kw)) := by
    refine ⟨g.pre, fun a xs q => ?_, fun a o u q => ?_⟩
    · have ne : a ≠ p := fun z => by subst z; rw [hH] at q; cases q
      rw [upd_ne ne]
      exact g.tups _ _ (by rw [upd_ne ne]; exact q)
    · have ne : a ≠ p := fun z => by subst z; rw [hH] at q; cases q
      rw [upd_ne ne]
      exact g.frzs _ _ _ (by rw [upd_ne ne]; exact q)
  have hp' : m'[n]? = some p := g.at hp
  refine ⟨e, ⟨by rw [List.length_set]; exact s.len, s.nd, fun i q c a h => ?_⟩, gr, g0⟩
  by_cases hi : i = n
  · subst hi
    rw [hp'] at a; cases a
    rw [List.getElem?_set_self (List.getElem?_eq_some_iff.mp hS).1] at h
    cases h
    rw [upd_same]
    exact .dct hz (b.up gr)
  · rw [List.getElem?_set_ne (Ne.symm hi)] at h
    have ne : q ≠ p := fun z => hi (nd_ix s.nd a (z ▸ hp'))
    rw [upd_ne ne]
    exact (s.cell i q c a h).up0 g0
end
section
variable {X : Cx}
theorem re_lock {e : Expr} {f : FE} (i : Nat) (h : RE X e f) : RE X e (eLock i f) := by
  refine pe_w (pe_lock h) fun σ H Q q => ?_
  obtain ⟨m, σd, S, P, s, r, ⟨n, kvs, e1, e2, p⟩, w⟩ := q
  obtain ⟨v, e3, rv⟩ := r.val i _ e1
  obtain ⟨d, kw, rfl, a, hd, b, hz⟩ := dct_at s rv e2
  refine ⟨d, .dK kw, hd, trivial, fun od => ?_⟩
  obtain ⟨s1, g1⟩ := lock_sim (od := od) s a e2 b hz
  refine ⟨m, σd, _, _, s1, r.up g1, p, fun x S' m' v H' ⟨h3, p3⟩ g3 s3 r3 => ?_⟩
  obtain ⟨u1, u2, u3, u4⟩ := unlock s3 g3 a hd b hz h3
  exact ⟨u1, w _ _ _ _ _ p3 u3 u2 (RD.mono u4 _ _ r3)⟩
theorem RSl.up0 {K : KW} {m m' : List Addr} {H H' : Hp} {σ : L2.St} {σd : Slots} (r : RSl K m H σ σd) (g : Grow0 m H m' H') : RSl K m' H' σ σd := ⟨r.len, fun i d h => let ⟨v, a, b⟩ := r.val i d h; ⟨v, a, RD.mono g _ _ b⟩⟩
theorem rs_lock {st : Stmt} {f : FS} (i : Nat) (h : RS X st f) : RS X st (sLock i f) := by
  refine ps_w (ps_lock h) fun D σ H q => ?_
  obtain ⟨m, σd, S, E, s, r, ⟨n, kvs, e1, e2, p⟩, w⟩ := q
  obtain ⟨v, e3, rv⟩ := r.val i _ e1
  obtain ⟨d, kw, rfl, a, hd, b, hz⟩ := dct_at s rv e2
  refine ⟨d, .dK kw, hd, trivial, fun od => ?_⟩
  obtain ⟨s1, g1⟩ := lock_sim (od := od) s a e2 b hz
  refine ⟨m, σd, _, _, s1, r.up g1, p, ⟨fun σ' S' m' v H' ⟨h3, p3⟩ g3 s3 r3 => ?_, fun x S' m' v H' ⟨h3, p3⟩ g3 s3 r3 => ?_, fun σ' S' m' v H' ⟨h3, p3⟩ g3 s3 r3 => ?_, fun σ' S' m' v H' ⟨h3, p3⟩ g3 s3 r3 => ?_⟩⟩
  all_goals obtain ⟨u1, u2, u3, u4⟩ := unlock s3 g3 a hd b hz h3
  · exact ⟨u1, w.nx _ _ _ _ _ p3 u3 u2 (r3.up0 u4)⟩
  · exact ⟨u1, w.rt _ _ _ _ _ p3 u3 u2 (RD.mono u4 _ _ r3)⟩
  · exact ⟨u1, w.bk _ _ _ _ _ p3 u3 u2 (r3.up0 u4)⟩
  · exact ⟨u1, w.ct _ _ _ _ _ p3 u3 u2 (r3.up0 u4)⟩
end

/-! ### isinstance(x, T) -/
def tyName (S : Store) : D → Option String
  | .non => some "NoneType"
  | .bl _ => some "bool"
  | .int _ => some "int"
  | .str _ => some "str"
  | .tup _ => some "tuple"
  | .frz _ => some "list"
  | .ref n => match S[n]? with
    | some (.lst _) => some "list"
    | some (.dct _) => some "dict"
    | some (.lck _) => some "dict"
    | _ => none
def isiB (t T : String) : Bool := t == T || (t == "bool" && T == "int")
def eIsi (T : String) (f : FE) : FE := fun σ S Q => f σ S fun d S1 => ∃ t, tyName S1 d = some t ∧ Q (.bl (isiB t T)) S1
theorem kit_isi {t T : String} (ht : t ∈ ["NoneType", "bool", "int", "str", "tuple", "list", "dict"]) (hT : T ∈ ["tuple", "list", "bool", "int", "str"]) : kitB t T = some (isiB t T) := by
  simp only [List.mem_cons, List.not_mem_nil, or_false] at ht hT
  rcases ht with rfl | rfl | rfl | rfl | rfl | rfl | rfl <;> rcases hT with rfl | rfl | rfl | rfl | rfl <;> decide +kernel
section
variable {X : Cx}
theorem ty_of {K : KW} {m : List Addr} {S : Store} {H : Hp} {d : D} {v : V} {t : String} (s : Sim K m S H) (r : RD K m H d v) (h : tyName S d = some t) : TyX K H v (.type t) ∧ t ∈ ["NoneType", "bool", "int", "str", "tuple", "list", "dict"] := by
  cases r with
  | non => cases h; exact ⟨.base .non, by simp⟩
  | bl b => cases h; exact ⟨.base (.bl _), by simp⟩
  | int b => cases h; exact ⟨.base (.int _), by simp⟩
  | str b => cases h; exact ⟨.base (.str _), by simp⟩
  | tup a z b =>
    cases h
    rcases a with (a | ⟨o, a⟩) | ⟨o, its, n, k1, k2, _⟩
    · exact ⟨.base (.tup a), by simp⟩
    · exact ⟨.fTuple a, by simp⟩
    · exact ⟨.kTuple k1 k2, by simp⟩
  | frz a z b =>
    cases h
    rcases a with ⟨o, a⟩ | a
    · exact ⟨.base (.frz a), by simp⟩
    · rcases a (fun _ => none) with (a | ⟨o, a⟩) | ⟨o, its, n, k1, k2, _⟩
      · cases a
      · cases a
      · exact ⟨.kList k1 k2, by simp⟩
  | @ref n p a =>
    have h : (match S[n]? with
      | some (.lst _) => some "list"
      | some (.dct _) => some "dict"
      | some (.lck _) => some "dict"
      | _ => none) = some t := h
    cases e : S[n]? with
    | none => rw [e] at h; cases h
    | some c =>
      rw [e] at h
      have rc := s.cell n p c a e
      generalize eo : H p = o at rc
      cases rc with
      | lst z b => cases h; exact ⟨.base (.lst eo), by simp⟩
      | dct z b => cases h; exact ⟨.base (.dK eo), by simp⟩
      | lck z b => cases h; exact ⟨.fDict eo, by simp⟩
      | tdc z b => cases h
      | tlk z b => cases h
theorem re_isi {T : String} {x : Str} {p p2 pos : Pos} {e : Expr} {f : FE} (hT : T ∈ ["tuple", "list", "bool", "int", "str"]) (hx : x = Str.ofString T) (hv2 : bootBuiltins x = some (.type T)) (hm : X.mg "isinstance" = none) (hm2 : X.mg x = none) (he : RE X e f) (hg : Gl X "isinstance" := by rfl) (hg2 : Gl X x := by rfl) (hn : x ≠ "__name__" := by decide) (hdb : (x == ("__debug__" : Str)) = false := by decide)
    (hs1 : starEach [.Name x p2] X.env = (false, eval (.Name x p2) X.env) :: starEach [] X.env := by rfl)
    (hs : starEach [e, .Name x p2] X.env = (false, eval e X.env) :: starEach [.Name x p2] X.env := by rfl) (hpl : (backTo pos (starEach [.Name x p2] X.env)).any (·.1) = false := by rfl) : RE X (.Call (.Name "isinstance" p) [e, .Name x p2] [] pos) (eIsi T f) := by
  refine pe_w (pe_callB call_isi hg hm (by decide +kernel) (pa_cons he (pa_cons (pe_bltn (v := .ty T) hg2 hm2 hv2 rfl hn hdb) pa_nil hs1) hs) (by decide) (by decide) hs hpl) fun σ H Q q => ?_
  obtain ⟨m, σd, S, P, s, r, p, w⟩ := q
  refine ⟨m, σd, S, _, s, r, p, fun d S1 m1 v H1 ⟨t, ht, p1⟩ g1 s1 r1 => ?_⟩
  obtain ⟨ty, hm⟩ := ty_of s1 r1 ht
  exact ⟨v, .ty T, .type t, .type T, isiB t T, rfl, .ty T, ty, kit_ty (kit_isi hm hT), w _ _ _ _ _ p1 g1 s1 (.bl _)⟩
end

/-! ### tuple(range(..)), list(range(..)) -/
def eTupRg1 (f : FE) : FE := fun σ S Q => f σ S fun d S1 => ∃ n : Int, d = .int n ∧ 0 ≤ n ∧ n ≤ 16777216 ∧ Q (.tup (rngD 0 n.toNat)) S1
theorem rg_vals {K : KW} {m : List Addr} {H : Hp} (a : Int) (k : Nat) : RDs K m H (rngD a k) ((List.range k).map fun i => V.int (a + (i : Nat))) := by
  unfold rngD
  refine RDs.of_get (by simp) fun i d v h1 h2 => ?_
  rw [List.getElem?_map] at h1 h2
  cases e : (List.range k)[i]? with
  | none => rw [e] at h1; cases h1
  | some j =>
    rw [e] at h1 h2
    cases h1; cases h2
    exact .int _
section
variable {X : Cx}
theorem re_tupRg1 {e : Expr} {f : FE} {p p2 pos pos2 : Pos} (hc : X.calm = true) (hm : X.mg "tuple" = none) (hm2 : X.mg "range" = none) (he : RE X e f) (hg : Gl X "tuple" := by rfl) (hg2 : Gl X "range" := by rfl) (na2 : starEach [e] X.env = (false, eval e X.env) :: starEach [] X.env := by rfl)
    (na : starEach [.Call (.Name "range" p2) [e] [] pos2] X.env = (false, eval (.Call (.Name "range" p2) [e] [] pos2) X.env) :: starEach [] X.env := by rfl) : RE X (.Call (.Name "tuple" p) [.Call (.Name "range" p2) [e] [] pos2] [] pos) (eTupRg1 f) := by
  refine pe_w (pe_tupRg hc hg hm (prg_1 hg2 hm2 he na2) na) fun σ H Q q => ?_
  obtain ⟨m, σd, S, P, s, r, p, w⟩ := q
  refine ⟨m, σd, S, _, s, r, p, fun d S1 m1 v H1 ⟨n, e, h0, h1, p1⟩ g1 s1 r1 => ?_⟩
  subst e
  cases r1
  refine ⟨n, rfl, .of_le (by omega) h1 (by omega) h0, fun a ha => ?_⟩
  have g2 : Grow m1 H1 m1 (upd H1 a (.tup (rgV 0 n))) := Grow.new ha _ (List.prefix_refl _)
  refine w _ _ _ _ _ p1 (g1.trans g2) (s1.plus ha _) (.tup (SqT.of upd_same) (by rw [rgV_length, sizeLine_eq]; omega) ?_)
  unfold rgV
  rw [Int.sub_zero]
  exact rg_vals 0 n.toNat
end
end SD
/-! SD9: slices, dict.get, a walk of a tuple or list, names of built-ins. -/
namespace SD
open PySem PySem.Spec PyProof.Rows L2

theorem bt_len : bootBuiltins "len" = some (.builtin "len") := by decide +kernel
theorem bt_any : bootBuiltins "any" = some (.builtin "any") := by decide +kernel
theorem bt_all : bootBuiltins "all" = some (.builtin "all") := by decide +kernel
theorem bt_sorted : bootBuiltins "sorted" = some (.builtin "sorted") := by decide +kernel
theorem bt_list : bootBuiltins "list" = some (.type "list") := by decide +kernel
theorem bt_tuple : bootBuiltins "tuple" = some (.type "tuple") := by decide +kernel
theorem bt_dict : bootBuiltins "dict" = some (.type "dict") := by decide +kernel
theorem bt_int : bootBuiltins "int" = some (.type "int") := by decide +kernel
theorem bt_str : bootBuiltins "str" = some (.type "str") := by decide +kernel
theorem bt_bool : bootBuiltins "bool" = some (.type "bool") := by decide +kernel
theorem bt_set : bootBuiltins "set" = some (.type "set") := by decide +kernel

section
variable {X : Cx} {tg : Expr}
theorem PI.or {e : Expr} {t t' : TI} (h : PI X tg e t) (h' : PI X tg e t') : PI X tg e fun σ H R => t σ H R ∨ t' σ H R := ⟨fun pins s σ H R I q => q.elim (h.run pins s σ H R I) (h'.run pins s σ H R I)⟩
def iSeqD (f : FE) : FI := fun σ S R => iTupD f σ S R ∨ iLstD f σ S R
theorem ri_seq {e : Expr} {f : FE} (h : RE X e f) : RI X tg e (iSeqD f) := by
  refine pi_w (PI.or (ri_tup h) (ri_list h)) fun σ H R q => ?_
  obtain ⟨m, σd, S, P, s, r, p | p, w⟩ := q
  · exact .inl ⟨m, σd, S, P, s, r, p, w⟩
  · exact .inr ⟨m, σd, S, P, s, r, p, w⟩
end

/-! ### slices -/
abbrev FO := Slots → Store → (Option Int → Store → Prop) → Prop
def oNo : FO := fun _ S Q => Q none S
def oSome (f : FE) : FO := fun σ S Q => f σ S fun d S1 => ∃ i, d = .int i ∧ Q (some i) S1
def cutD (xs : List D) (lo hi : Option Int) : List D := (xs.drop (HT.sIx xs.length 0 lo)).take (HT.sIx xs.length xs.length hi - HT.sIx xs.length 0 lo)
def slF (d : D) (lo hi : Option Int) (S : Store) (Q : PD) : Prop := (∃ xs, d = .tup xs ∧ Q (.tup (cutD xs lo hi)) S) ∨ (∃ xs, d = .frz xs ∧ Q (.ref S.length) (S ++ [.lst (cutD xs lo hi)])) ∨ ∃ n xs, d = .ref n ∧ S[n]? = some (.lst xs) ∧ Q (.ref S.length) (S ++ [.lst (cutD xs lo hi)])
def eSl (f : FE) (l h : FO) : FE := fun σ S Q => f σ S fun d S1 => l σ S1 fun lo S2 => h σ S2 fun hi S3 => slF d lo hi S3 Q
def tOfO (K : KW) (f : FO) : TO := fun σ H Q => ∃ m σd S P, Sim K m S H ∧ RSl K m H σ σd ∧ f σd S P ∧ ∀ o S' m' H', P o S' → Grow m H m' H' → Sim K m' S' H' → Q o H'
abbrev RO (X : Cx) (e : Option Expr) (f : FO) : Prop := PO X e (tOfO (kW X) f)
section
variable {X : Cx}
theorem po_w {e : Option Expr} {t t' : TO} (h : PO X e t) (w : ∀ σ H Q, t' σ H Q → t σ H Q) : PO X e t' := by
  obtain ⟨r⟩ := h
  exact ⟨fun pins s σ H Q I q => r pins s σ H Q I (w σ H Q q)⟩
theorem ro_none : RO X none oNo := by
  refine po_w po_none fun σ H Q q => ?_
  obtain ⟨m, σd, S, P, s, r, p, w⟩ := q
  exact w _ _ _ _ p (.refl _ _) s
theorem ro_some {e : Expr} {f : FE} (h : RE X e f) : RO X (some e) (oSome f) := by
  refine po_w (po_some h) fun σ H Q q => ?_
  obtain ⟨m, σd, S, P, s, r, p, w⟩ := q
  refine ⟨m, σd, S, _, s, r, p, fun d S1 m1 v H1 ⟨i, e, p1⟩ g1 s1 r1 => ?_⟩
  subst e
  cases r1
  exact ⟨i, rfl, w _ _ _ _ p1 g1 s1⟩
theorem RDs.cut {K : KW} {m : List Addr} {H : Hp} {xs : List D} {vs : List V} (r : RDs K m H xs vs) (lo hi : Option Int) : RDs K m H (cutD xs lo hi) (cutV vs lo hi) := by
  unfold cutD cutV
  rw [r.length]
  exact (r.drop _).take _
theorem cutD_le (xs : List D) (lo hi : Option Int) : (cutD xs lo hi).length ≤ xs.length := by
  unfold cutD
  simp only [List.length_take, List.length_drop]
  omega
theorem cutD_all (xs : List D) (lo hi : Option Int) (h : HT.sIx xs.length 0 lo = 0 ∧ HT.sIx xs.length xs.length hi = xs.length) : cutD xs lo hi = xs := by
  unfold cutD
  rw [h.1, h.2]
  simp
theorem re_sl {a : Expr} {lo hi : Option Expr} {f : FE} {l h : FO} {p2 pos : Pos} (ha : RE X a f) (hl : RO X lo l) (hh : RO X hi h) : RE X (.Subscript a (.Slice lo hi none p2) pos) (eSl f l h) := by
  refine pe_w (pe_slice (SlR.or sl_tupA sl_list) ha hl hh) fun σ H Q q => ?_
  obtain ⟨m, σd, S, P, s, r, p, w⟩ := q
  refine ⟨m, σd, S, _, s, r, p, fun d S1 m1 v H1 p1 g1 s1 r1 => ?_⟩
  refine ⟨m1, σd, S1, _, s1, r.up g1, p1, fun o S2 m2 H2 p2 g2 s2 => ?_⟩
  refine ⟨m2, σd, S2, _, s2, r.up (g1.trans g2), p2, fun o2 S3 m3 H3 p3 g3 s3 => ?_⟩
  have ww := w.up (g1.trans (g2.trans g3))
  have r3 := r1.up (g2.trans g3)
  rcases p3 with ⟨xs, e, p3⟩ | ⟨xs, e, p3⟩ | ⟨n, xs, e, e2, p3⟩
  · subst e
    cases r3 with
    | @tup q _ vs a z b =>
      refine .inl ⟨q, vs, rfl, a, fun hw => ?_, fun hw t ht => ?_⟩
      · rw [cutD_all xs o o2 (by rw [b.length]; exact hw)] at p3
        exact ww _ _ _ _ _ p3 (.refl _ _) s3 (.tup a z b)
      · have g4 : Grow m3 H3 m3 (upd H3 t (.tup (cutV vs o o2))) := Grow.new ht _ (List.prefix_refl _)
        have hz := cutV_length vs o o2
        exact ww _ _ _ _ _ p3 g4 (s3.plus ht _) (.tup (SqT.of upd_same) (by omega) ((b.up g4).cut o o2))
  · subst e
    cases r3 with
    | @frz q _ vs a z b =>
      refine .inr ⟨q, vs, rfl, a.sq, fun t ht => ?_⟩
      obtain ⟨g4, s4, r4⟩ := new_lst s3 ht (b.cut o o2) (by have := cutD_le xs o o2; rw [b.length] at this; omega)
      exact ww _ _ _ _ _ p3 g4 s4 r4
  · subst e
    obtain ⟨q, vs, rfl, _, hq, b, hz⟩ := lst_at s3 r3 e2
    refine .inr ⟨q, vs, rfl, SqL.of hq, fun t ht => ?_⟩
    obtain ⟨g4, s4, r4⟩ := new_lst s3 ht (b.cut o o2) (by have := cutD_le xs o o2; omega)
    exact ww _ _ _ _ _ p3 g4 s4 r4
end
section
variable {X : Cx} {a : Expr} {f : FE} {pos : Pos}
theorem rt_isN {j pos'} (ha : RE X a f) : RT X (.Compare a [.Is] [.Constant .none j pos'] pos) (tVal (eIsN f)) := by
  refine pt_w (pt_cmp (pc_isN ha) rfl) fun σ H Q q => ?_
  obtain ⟨m, σd, S, P, s, rs, p, w⟩ := q
  refine ⟨m, σd, S, _, s, rs, p, fun d S1 m1 v H1 p1 g1 s1 r1 => ?_⟩
  obtain ⟨b, e, p1⟩ := p1
  cases e
  exact ⟨_, rfl, by rw [r1.non_iff]; exact w _ _ _ _ p1 g1 s1⟩
theorem rt_notN {j pos'} (ha : RE X a f) : RT X (.Compare a [.IsNot] [.Constant .none j pos'] pos) (tVal (eNotN f)) := by
  refine pt_w (pt_cmp (pc_notN ha) rfl) fun σ H Q q => ?_
  obtain ⟨m, σd, S, P, s, rs, p, w⟩ := q
  refine ⟨m, σd, S, _, s, rs, p, fun d S1 m1 v H1 p1 g1 s1 r1 => ?_⟩
  obtain ⟨b, e, p1⟩ := p1
  cases e
  exact ⟨_, rfl, by rw [r1.non_iff]; exact w _ _ _ _ p1 g1 s1⟩
end
end SD
/-! SDset: set(a list of ints), sorted of it. -/
namespace SD
open PySem PySem.Spec PyProof.Rows L2
open PySem.Calls
section
variable {P : Program} {w : World} {A : Around} {E : Value → Shared → Prop} {s : Shared}
/-- the set as set.__new__ lays it -/
abbrev newSet (w : World) : Obj := { cls := .type "set", dict := none, data := .set #[] 0 (.fresh 0 0 (!w.params.followText "set-order")) }
set_option maxHeartbeats 3200000 in
theorem set_of_list {l : Addr} {items : Array Value} (ns : List Int) {Q : Value → Shared → Prop} (hh : A.handled = none) (hl : s.heap.IsList l items) (hit : IntsAre items.toList ns) (hb : ns.length + 1 < scanBound)
    (h : ∀ (h' : Heap) (tk c : Nat), SetR w h' s.heap.objs.size (fun j => decide (j ∈ ns)) c → c ≤ ns.length → (∀ b o, s.heap.get? b = some o → h'.get? b = some o) → Q (.ref s.heap.objs.size) { s with heap := h', toks := tk }) :
    wpAny (model P w) A (call (.type "set") [.ref l]) Q E s := by
  have size : items.size = ns.length := by have q := IntsAre.length hit; rw [Array.length_toList] at q; exact q
  generalize hn : s.heap.objs.size = a at h
  obtain ⟨c, tl, hmro⟩ := F.called_set.mro
  have e1 := F.called_set.made; have e2 := F.called_set.sub
  refine wpAny_call (codeAny_of_tree ?_)
  show wpAny _ _ (callAny (.type "set") _) _ _ _
  refine wpAny_pure ⟨Code.quiet_builtin _ (by decide +kernel), codeAny_builtin F.entry_type_call ?_⟩; rw [Around.under_plain (weight_type_call_type "set" [.ref l] []) rfl]
  have e3 := F.called_set.notType; have e4 := F.called_set.canCreate; have e5 := F.typeCall_set_1 (.ref l)
  repeat (any_goals (first | assumption | wp_step))
  refine codeAny_mono (code_set_led1 (.ref l) (E := E) (Q₁ := fun o s1 => o = .ref a ∧ s1 = { s with heap := s.heap.push (newSet w) }) (by rw [← hn]; exact ⟨rfl, rfl⟩)) fun r s1 hr => ?_
  cases r with
  | error e => exact hr
  | ok fl =>
    cases fl with
    | ret o =>
      obtain ⟨rfl, rfl⟩ := hr
      have at0 : (s.heap.push (newSet w)).get? a = some (newSet w) := by rw [← hn]; exact Heap.get?_push_size _ rfl
      have ty : Shared.TypeIs { s with heap := s.heap.push (newSet w) } (.ref a) "set" := ⟨_, at0, rfl⟩
      have e6 := F.called_set.init.lookup; have e7 := F.called_set.init.bind (.ref a)
      repeat (any_goals (first | assumption | wp_step))
      refine codeAny_mono (codeAny_call_builtin (R := wants (fun r s2 => r = .none ∧ ∃ h' tk c, s2 = { s with heap := h', toks := tk } ∧ SetR w h' a (fun j => decide (j ∈ ns)) c ∧ c ≤ ns.length ∧ (∀ b o, s.heap.get? b = some o → h'.get? b = some o)) E)
        F.called_set.init.plain F.entry_set_init (check_set_init_1 ty ?_)) fun r2 s2 hr2 => ?_
      · obtain ⟨⟨oc, od, ot, os⟩, hol, hcl, nl, hdl⟩ := hl
        simp only at hcl hdl
        subst hcl; subst hdl
        have hol1 : (s.heap.push (newSet w)).get? l = some { cls := .type "list", dict := od, data := .seq items nl, slots := os } := Heap.get?_push_of_some _ hol
        have e8 := F.sub_list_set; have e9 := F.sub_list_frozenset
        have e10 : (Value.type "list" == Value.type "dict") = false := by decide
        have hl1 : (s.heap.push (newSet w)).IsList l items := ⟨_, hol1, rfl, nl, rfl⟩
        have la : l < a := by rw [← hn]; exact Heap.lt_size hol
        have z1 : (s.heap.push (newSet w)).objs.size = a + 1 := by rw [Heap.size_push, hn]
        unfold Builtin.«set.__init__» noKeywords Builtin.Frozenset.updateFrom
        generalize hPI : pyIter = PI
        wp_walk
        subst hPI
        refine wpAny_pyIter_list hl1 (wpAny_bind (wpAny_runValue ?_))
        have h3 : A.in1.in1.in1.handled = none := by simp [hh]
        have n1 : l ≠ (s.heap.push (newSet w)).objs.size := by rw [z1]; exact Nat.ne_of_lt (Nat.lt_succ_of_lt la)
        have n2 : a ∉ [(s.heap.push (newSet w)).objs.size, l] := by
          rw [z1]
          simp only [List.mem_cons, List.not_mem_nil, or_false, not_or]
          exact ⟨Nat.ne_of_lt (Nat.lt_succ_self _), Nat.ne_of_gt la⟩
        have vals : ∀ (i : Nat) (v : Value), items[i]? = some v → ∃ k t, ns[i]? = some k ∧ v = .int k t := fun i v hv => by
          have hi : i < ns.length := by rw [← size]; exact (Array.getElem?_eq_some_iff.mp hv).1
          obtain ⟨t, e⟩ := IntsAre.int_at hit i v (by rw [Array.getElem?_toList]; exact hv)
          exact ⟨ns[i], t, List.getElem?_eq_getElem hi, by rw [e, List.getD_eq_getElem?_getD, List.getElem?_eq_getElem hi]; rfl⟩
        refine set_update_ints ((Walks.list h3 _ l n1 items).toS) a n2 ns size hb vals (items.size - 0) 0 _ (by omega) (Nat.zero_le _) ⟨⟨_, Heap.get?_push_size _ rfl, rfl, rfl⟩, (hl1.push _)⟩
          ⟨0, Nat.le_refl 0, setR_new_at (Heap.get?_push_of_some _ at0)⟩ fun s' c' hm hc' hS' => ?_
        obtain ⟨h', g2, d', tk', os'⟩ := s'
        obtain rfl : g2 = s.gens := hm.gens
        obtain rfl : d' = s.drawn := hm.drawn
        obtain rfl : os' = s.os := hm.os
        show wpAny _ _ _ _ _ _
        refine wpAny_pure ?_
        show wpAny _ _ (ret Value.none) _ _ _
        rw [size] at hc'
        refine wpAny_pure ⟨rfl, h', tk', c', rfl, hS', hc', fun b o e => ?_⟩
        have hb0 : b < a := by rw [← hn]; exact Heap.lt_size e
        exact hm.heap b o (by rw [z1]; simp only [List.mem_cons, List.not_mem_nil, or_false, not_or]; exact ⟨Nat.ne_of_lt hb0, Nat.ne_of_lt (Nat.lt_succ_of_lt hb0)⟩) (Heap.get?_push_of_some _ (Heap.get?_push_of_some _ e))
      · cases r2 with
        | error e => exact hr2
        | ok fl =>
          cases fl with
          | ret r =>
            obtain ⟨rfl, h', tk, c, rfl, q1, q2, q3⟩ := hr2
            repeat (any_goals (first | assumption | wp_step))
            exact h _ _ _ q1 q2 q3
          | _ => exact hr2.elim
    | _ => exact hr.elim
end
section
variable {X : Cx}
/-- set(l), l a list of ints -/
def rSetL' (w : World) (K : KW) : List V → Hp → VK → Prop := fun xs H Q => ∃ (l : Addr) (ns : List Int), xs = [.ref l] ∧ (SqL K H l (ns.map V.int) ∨ SqT K H l (ns.map V.int)) ∧ ns.length + 1 < scanBound ∧ ∀ a c, H a = none → c ≤ ns.length → Q (.ref a) (upd H a (SetO w a (fun j => decide (j ∈ ns)) c))
theorem cr_setL (hc : X.calm = true) : CallR X (.type "set") (rSetL' X.w (kW X)) := by
  intro pins s σ H xs us Q I r h
  obtain ⟨l, ns, rfl, hq, hb, q⟩ := h
  obtain ⟨u, rfl, rx⟩ := vals1 r
  cases rx
  have fin : ∀ (h' : Heap) (tk c : Nat), SetR X.w h' s.heap.objs.size (fun j => decide (j ∈ ns)) c → c ≤ ns.length → (∀ b o, s.heap.get? b = some o → h'.get? b = some o) → EP X pins σ Q (.ref s.heap.objs.size) { s with heap := h', toks := tk } := fun h' tk c R hc k =>
    ⟨.ref s.heap.objs.size, _, I.laid (t' := tk) k (Nat.le_refl _) (setO_new R), rfl, q _ c (I.hok.fresh (Nat.le_refl _)) hc⟩
  rcases hq with hq | hq
  · obtain ⟨its, rv, pl, _⟩ := I.list hq
    exact set_of_list ns (I.ok.hd hc) pl.isList (by simpa using rv.ints) hb fin
  · obtain ⟨its, rv, pl, _⟩ := I.tuple hq
    exact call_set_tupI ns (I.ok.hd hc) pl (by simpa using rv.ints) hb fin
def eSortSet (f : FE) : FE := fun σ S Q => f σ S fun d S1 => ∃ ns : List Int, seqD S1 d = some (ns.map D.int) ∧ ns.length < 64 ∧ ∀ ys : List Int, ys.Pairwise (· < ·) → (∀ k, k ∈ ys ↔ k ∈ ns) → ys.length ≤ ns.length → Q (.ref S1.length) (S1 ++ [.lst (ys.map D.int)])
/-- sorted(set(e)) -/
theorem re_sortSet {e : Expr} {f : FE} {p p2 pos pos2 : Pos} (hc : X.calm = true) (hm : X.mg "sorted" = none) (hm2 : X.mg "set" = none) (he : RE X e f) (hg : Gl X "sorted" := by rfl) (hg2 : Gl X "set" := by rfl) (n1 : starEach [e] X.env = (false, eval e X.env) :: starEach [] X.env := by rfl)
    (n2 : starEach [.Call (.Name "set" p2) [e] [] pos2] X.env = (false, eval (.Call (.Name "set" p2) [e] [] pos2) X.env) :: starEach [] X.env := by rfl) : RE X (.Call (.Name "sorted" p) [.Call (.Name "set" p2) [e] [] pos2] [] pos) (eSortSet f) := by
  refine pe_w (pe_callB (cr_sortedSet hc) hg hm (by decide +kernel) (pa_cons (pe_callTy (cr_setL hc) hg2 hm2 (by decide +kernel) (pa_cons he pa_nil n1) (by decide) (by decide) n1 (by rfl)) pa_nil n2) (by decide) (by decide) n2 (by rfl)) fun σ H Q q => ?_
  obtain ⟨m, σd, S, P, s, r, p, w⟩ := q
  refine ⟨m, σd, S, _, s, r, p, fun d S1 m1 v H1 ⟨ns, e1, h64, p1⟩ g1 s1 r1 => ?_⟩
  obtain ⟨l, vs, rfl, hq, b, hz⟩ := seq_at s1 r1 e1
  have e2 := b.ints
  subst e2
  refine ⟨l, ns, rfl, hq, by unfold scanBound; omega, fun a c ha hc2 => ?_⟩
  refine ⟨a, _, c, rfl, upd_same, by omega, fun ys p2 h1 h2 h3 hp => ?_⟩
  have s2 := s1.plus ha (SetO X.w a (fun j => decide (j ∈ ns)) c)
  have g2 : Grow m1 H1 m1 _ := Grow.new ha (SetO X.w a (fun j => decide (j ∈ ns)) c) (List.prefix_refl _)
  have hl : ys.length ≤ ns.length := by omega
  obtain ⟨g3, s3, r3⟩ := new_lst s2 hp (RDs.of_ints ys) (by rw [List.length_map, sizeLine_eq]; omega)
  exact w _ _ _ _ _ (p1 ys h1 (fun k => by rw [h2 k]; simp) hl) (g1.trans (g2.trans g3)) s3 r3
end
end SD
/-! SDw: tools for the meanings over D: stores that grow, comprehensions and loops by an invariant. -/
namespace SD
open PySem L2

/-- all that was stands as it was -/
def Ext (S S' : Store) : Prop := ∀ (i : Nat) (c : Cell), S[i]? = some c → S'[i]? = some c
theorem Ext.refl (S : Store) : Ext S S := fun _ _ h => h
theorem Ext.trans {S S1 S2 : Store} (a : Ext S S1) (b : Ext S1 S2) : Ext S S2 := fun i c h => b i c (a i c h)
theorem Ext.app (S T : Store) : Ext S (S ++ T) := fun i c h => by rw [List.getElem?_append_left (List.getElem?_eq_some_iff.mp h).1]; exact h
theorem Ext.le {S S' : Store} (e : Ext S S') : S.length ≤ S'.length := by
  rcases Nat.eq_zero_or_pos S.length with h | h
  · omega
  · have q := e (S.length - 1) S[S.length - 1] (by simp)
    have := (List.getElem?_eq_some_iff.mp q).1
    omega
theorem Ext.set {S : Store} {n : Nat} {c : Cell} (h : S[n]? = none) : Ext S (S.set n c) := fun i d e => by
  by_cases hi : n = i
  · subst hi; rw [h] at e; cases e
  · rw [List.getElem?_set_ne hi]; exact e
theorem Ext.put {S S' : Store} {n : Nat} {c : Cell} (e : Ext S S') (h : S.length ≤ n) : Ext S (S'.set n c) := fun i d q => by
  have := (List.getElem?_eq_some_iff.mp q).1
  rw [List.getElem?_set_ne (by omega)]
  exact e i d q
theorem new_at (S : Store) (c : Cell) : (S ++ [c])[S.length]? = some c := by simp
theorem set_at {S : Store} {n : Nat} {c d : Cell} (h : S[n]? = some c) : (S.set n d)[n]? = some d := List.getElem?_set_self (List.getElem?_eq_some_iff.mp h).1
theorem set_off {S : Store} {n k : Nat} {d : Cell} (h : n ≠ k) : (S.set n d)[k]? = S[k]? := List.getElem?_set_ne h
/-- all but the cells in l -/
def ExtB (l : List Nat) (S S' : Store) : Prop := S.length ≤ S'.length ∧ ∀ (i : Nat), i ∉ l → ∀ (c : Cell), S[i]? = some c → S'[i]? = some c
theorem ExtB.refl (l : List Nat) (S : Store) : ExtB l S S := ⟨Nat.le_refl _, fun _ _ _ h => h⟩
theorem ExtB.trans {l : List Nat} {S S1 S2 : Store} (a : ExtB l S S1) (b : ExtB l S1 S2) : ExtB l S S2 := ⟨Nat.le_trans a.1 b.1, fun i hi c h => b.2 i hi c (a.2 i hi c h)⟩
theorem Ext.b {S S' : Store} (e : Ext S S') (l : List Nat) : ExtB l S S' := ⟨e.le, fun i _ c h => e i c h⟩
theorem ExtB.mono {l l' : List Nat} {S S' : Store} (e : ExtB l S S') (h : ∀ i ∈ l, i ∈ l') : ExtB l' S S' := ⟨e.1, fun i hi c q => e.2 i (fun z => hi (h i z)) c q⟩
theorem ExtB.put {l : List Nat} {S S' : Store} {n : Nat} {c : Cell} (e : ExtB l S S') (h : n ∈ l ∨ S.length ≤ n) : ExtB l S (S'.set n c) := ⟨by rw [List.length_set]; exact e.1, fun i hi d q => by
  have := (List.getElem?_eq_some_iff.mp q).1
  rw [List.getElem?_set_ne (by rintro rfl; rcases h with h | h; exact hi h; omega)]
  exact e.2 i hi d q⟩

theorem ite_t' {A B : Prop} (a : A) : if true = true then A else B := by rw [if_pos rfl]; exact a
/-! ### comprehensions -/
/-- a list comprehension by an invariant; R is what is reached -/
theorem lc_inv {ok : Store → Prop} {g : FG} {t : FT} {e : FE} {n0 : Nat} {Q : Store → Prop} {σ : Slots} (I : Nat → List D → Store → Prop) {xs : List D} {S0 : Store} (few : xs.length ≤ sizeLine) (at0 : S0[n0]? = some (.lst [])) (h0 : I 0 [] S0)
    (step : ∀ i x acc S (R : Store → Prop), xs[i]? = some x → S[n0]? = some (.lst acc) → acc.length ≤ i → I i acc S → (∀ acc' S', S'[n0]? = some (.lst acc') → acc'.length ≤ i + 1 → I (i + 1) acc' S' → R S') →
      ok S ∧ g x σ S fun σ2 S2 => t σ2 S2 fun b S3 => if b = true then e σ2 S3 fun y S4 => ∃ acc, S4[n0]? = some (.lst acc) ∧ acc.length < sizeLine ∧ R (S4.set n0 (.lst (acc ++ [y]))) else R S3)
    (done : ∀ acc S, S[n0]? = some (.lst acc) → acc.length ≤ xs.length → I xs.length acc S → ok S ∧ Q S) : lcD ok g t e n0 Q σ xs S0 := by
  have go : ∀ (ys : List D) (i : Nat) (acc : List D) (S : Store), xs.drop i = ys → i ≤ xs.length → S[n0]? = some (.lst acc) → acc.length ≤ i → I i acc S → lcD ok g t e n0 Q σ ys S := by
    intro ys
    induction ys with
    | nil =>
      intro i acc S hd hi h1 h2 h3
      have : i = xs.length := by
        have := congrArg List.length hd
        simp at this
        omega
      subst this
      exact done acc S h1 h2 h3
    | cons y ys ih =>
      intro i acc S hd hi h1 h2 h3
      have hlt : i < xs.length := by
        have := congrArg List.length hd
        simp at this
        omega
      have hx : xs[i]? = some y := by
        rw [← List.head?_drop, hd]; rfl
      have hd' : xs.drop (i + 1) = ys := by
        rw [← List.tail_drop, hd]; rfl
      exact step i y acc S _ hx h1 h2 h3 fun acc' S' q1 q2 q3 => ih (i + 1) acc' S' hd' hlt q1 q2 q3
  exact go xs 0 [] S0 rfl (Nat.zero_le _) at0 (Nat.le_refl _) h0
/-- a pure one, without a test -/
theorem lc_map {ok : Store → Prop} {e : FE} {i : Nat} {Q : Store → Prop} {σ : Slots} {xs : List D} {S : Store} (f : D → D) (few : xs.length ≤ sizeLine) (hok : ∀ S1, Ext S S1 → ok S1)
    (he : ∀ x ∈ xs, ∀ S1 (P : PD), Ext S S1 → (∀ S2, Ext S1 S2 → P (f x) S2) → e (σ.set i (some x)) S1 P)
    (hQ : ∀ S1, Ext S S1 → S1[S.length]? = some (.lst (xs.map f)) → Q S1) : lcD ok (gNm i) tYesD e S.length Q σ xs (S ++ [.lst []]) := by
  refine lc_inv (fun k acc S1 => Ext S S1 ∧ acc = (xs.take k).map f) few (new_at S _) ⟨Ext.app S _, rfl⟩ (fun k x acc S1 R hx h1 h2 ⟨h3, h4⟩ hR => ⟨hok S1 h3, ?_⟩) (fun acc S1 h1 h2 ⟨h3, h4⟩ => ⟨hok S1 h3, hQ S1 h3 (by rw [h1, h4, List.take_length])⟩)
  have z : e (σ.set i (some x)) S1 fun y S4 => ∃ acc, S4[S.length]? = some (.lst acc) ∧ acc.length < sizeLine ∧ R (S4.set S.length (.lst (acc ++ [y]))) := ?_
  · show (if true = true then e (σ.set i (some x)) S1 fun y S4 => ∃ acc, S4[S.length]? = some (.lst acc) ∧ acc.length < sizeLine ∧ R (S4.set S.length (.lst (acc ++ [y]))) else R S1)
    exact ite_t' z
  refine he x (List.mem_of_getElem? hx) S1 _ h3 fun S2 h5 => ?_
  refine ⟨acc, h5 _ _ h1, ?_, ?_⟩
  · have := (List.getElem?_eq_some_iff.mp hx).1
    omega
  · refine hR (acc ++ [f x]) _ (set_at (h5 _ _ h1)) (by simp; omega) ⟨(h3.trans h5).put (Nat.le_refl _), ?_⟩
    rw [h4, List.take_add_one, hx]
    simp
/-- a pure one with a test -/
theorem lc_filter {ok : Store → Prop} {t : FT} {e : FE} {i : Nat} {Q : Store → Prop} {σ : Slots} {xs : List D} {S : Store} (p : D → Bool) (f : D → D) (few : xs.length ≤ sizeLine) (hok : ∀ S1, Ext S S1 → ok S1)
    (ht : ∀ x ∈ xs, ∀ S1 (P : Bool → Store → Prop), Ext S S1 → (∀ S2, Ext S1 S2 → P (p x) S2) → t (σ.set i (some x)) S1 P)
    (he : ∀ x ∈ xs, ∀ S1 (P : PD), Ext S S1 → (∀ S2, Ext S1 S2 → P (f x) S2) → e (σ.set i (some x)) S1 P)
    (hQ : ∀ S1, Ext S S1 → S1[S.length]? = some (.lst ((xs.filter p).map f)) → Q S1) : lcD ok (gNm i) t e S.length Q σ xs (S ++ [.lst []]) := by
  refine lc_inv (fun k acc S1 => Ext S S1 ∧ acc = ((xs.take k).filter p).map f) few (new_at S _) ⟨Ext.app S _, rfl⟩ (fun k x acc S1 R hx h1 h2 ⟨h3, h4⟩ hR => ⟨hok S1 h3, ?_⟩) (fun acc S1 h1 h2 ⟨h3, h4⟩ => ⟨hok S1 h3, hQ S1 h3 (by rw [h1, h4, List.take_length])⟩)
  refine ht x (List.mem_of_getElem? hx) S1 _ h3 fun S2 h5 => ?_
  have tk : xs.take (k + 1) = xs.take k ++ [x] := by rw [List.take_add_one, hx]; rfl
  cases hp : p x with
  | false =>
    rw [if_neg (by decide)]
    refine hR acc S2 (h5 _ _ h1) (by omega) ⟨h3.trans h5, ?_⟩
    rw [h4, tk, List.filter_append, List.filter_cons_of_neg (by simp [hp])]
    simp
  | true =>
    rw [if_pos rfl]
    refine he x (List.mem_of_getElem? hx) S2 _ (h3.trans h5) fun S3 h6 => ⟨acc, h6 _ _ (h5 _ _ h1), ?_, ?_⟩
    · have := (List.getElem?_eq_some_iff.mp hx).1
      omega
    · refine hR (acc ++ [f x]) _ (set_at (h6 _ _ (h5 _ _ h1))) (by simp; omega) ⟨((h3.trans h5).trans h6).put (Nat.le_refl _), ?_⟩
      rw [h4, tk, List.filter_append, List.filter_cons_of_pos hp]
      simp
/-- {x: True for x in xs if p x} -/
theorem dc_inv {ok : Store → Prop} {g : FG} {t : FT} {fk fv : FE} {n0 : Nat} {Q : Store → Prop} {σ : Slots} (I : Nat → List (D × D) → Store → Prop) {xs : List D} {S0 : Store} (few : xs.length ≤ sizeLine) (at0 : S0[n0]? = some (.dct [])) (h0 : I 0 [] S0)
    (step : ∀ i x acc S (R : Store → Prop), xs[i]? = some x → S[n0]? = some (.dct acc) → acc.length ≤ i → I i acc S → (∀ acc' S', S'[n0]? = some (.dct acc') → acc'.length ≤ i + 1 → I (i + 1) acc' S' → R S') →
      ok S ∧ g x σ S fun σ2 S2 => t σ2 S2 fun b S3 => if b = true then fk σ2 S3 fun k S4 => fv σ2 S4 fun v S5 => ∃ acc, (toKey k).isSome = true ∧ S5[n0]? = some (.dct acc) ∧ acc.length < sizeLine ∧ R (S5.set n0 (.dct (putD acc k v))) else R S3)
    (done : ∀ acc S, S[n0]? = some (.dct acc) → acc.length ≤ xs.length → I xs.length acc S → ok S ∧ Q S) : dcD ok g t fk fv n0 Q σ xs S0 := by
  have go : ∀ (ys : List D) (i : Nat) (acc : List (D × D)) (S : Store), xs.drop i = ys → i ≤ xs.length → S[n0]? = some (.dct acc) → acc.length ≤ i → I i acc S → dcD ok g t fk fv n0 Q σ ys S := by
    intro ys
    induction ys with
    | nil =>
      intro i acc S hd hi h1 h2 h3
      have : i = xs.length := by
        have := congrArg List.length hd
        simp at this
        omega
      subst this
      exact done acc S h1 h2 h3
    | cons y ys ih =>
      intro i acc S hd hi h1 h2 h3
      have hlt : i < xs.length := by
        have := congrArg List.length hd
        simp at this
        omega
      have hx : xs[i]? = some y := by
        rw [← List.head?_drop, hd]; rfl
      have hd' : xs.drop (i + 1) = ys := by
        rw [← List.tail_drop, hd]; rfl
      exact step i y acc S _ hx h1 h2 h3 fun acc' S' q1 q2 q3 => ih (i + 1) acc' S' hd' hlt q1 q2 q3
  exact go xs 0 [] S0 rfl (Nat.zero_le _) at0 (Nat.le_refl _) h0

/-! ### sets of numbers as dicts -/
def setD (ks : List Nat) : List (D × D) := ks.map fun k => (.int (k : Nat), .bl true)
def insK (ks : List Nat) (k : Nat) : List Nat := if k ∈ ks then ks else ks ++ [k]
theorem setD_val (ks : List Nat) (k : Nat) : (valD (setD ks) (.int k)).isSome = decide (k ∈ ks) := by
  induction ks with
  | nil => rfl
  | cons a ks ih =>
    unfold setD valD at ih ⊢
    rw [List.map_cons]
    by_cases h : a = k
    · subst h
      rw [List.find?_cons_of_pos (by simp)]
      simp
    · rw [List.find?_cons_of_neg (by simp; omega), ih]
      simp [Ne.symm h]
theorem setD_any (ks : List Nat) (k : Nat) : (setD ks).any (fun p => decide (p.1 = D.int k)) = decide (k ∈ ks) := by
  induction ks with
  | nil => rfl
  | cons a ks ih =>
    unfold setD at ih ⊢
    rw [List.map_cons, List.any_cons, ih]
    by_cases h : a = k
    · subst h; simp
    · simp [h, Ne.symm h]; omega
theorem setD_put (ks : List Nat) (k : Nat) : putD (setD ks) (.int k) (.bl true) = setD (insK ks k) := by
  unfold putD insK
  rw [setD_any]
  by_cases h : k ∈ ks
  · rw [if_pos (by simpa using h), if_pos h]
    unfold setD
    rw [List.map_map]
    refine List.map_congr_left fun x _ => ?_
    simp only [Function.comp]
    split <;> rfl
  · rw [if_neg (by simpa using h), if_neg h]
    unfold setD
    simp
theorem mem_insK {ks : List Nat} {k j : Nat} : j ∈ insK ks k ↔ j ∈ ks ∨ j = k := by
  unfold insK
  split
  · constructor
    · exact .inl
    · rintro (h | rfl)
      · exact h
      · assumption
  · simp
theorem nodup_insK {ks : List Nat} {k : Nat} (h : ks.Nodup) : (insK ks k).Nodup := by
  unfold insK
  split
  · exact h
  · rw [List.nodup_append]
    exact ⟨h, by simp, fun a ha b hb => by rw [List.mem_singleton] at hb; rintro rfl; subst hb; contradiction⟩
theorem length_insK (ks : List Nat) (k : Nat) : (insK ks k).length ≤ ks.length + 1 := by
  unfold insK
  split <;> simp
theorem setD_keys (ks : List Nat) : (setD ks).map (·.1) = ks.map fun k => D.int (k : Nat) := by
  unfold setD; rw [List.map_map]; rfl
theorem setD_length (ks : List Nat) : (setD ks).length = ks.length := by unfold setD; rw [List.length_map]
theorem setD_merge (ks ls : List Nat) : ∃ ms, mergeD (setD ks) (setD ls) = setD ms ∧ (ks.Nodup → ms.Nodup) ∧ ∀ j, j ∈ ms ↔ j ∈ ks ∨ j ∈ ls := by
  induction ls generalizing ks with
  | nil => exact ⟨ks, rfl, fun h => h, fun j => by simp⟩
  | cons a ls ih =>
    obtain ⟨ms, h1, h2, h3⟩ := ih (insK ks a)
    refine ⟨ms, ?_, fun h => h2 (nodup_insK h), fun j => ?_⟩
    · show mergeD (putD (setD ks) (.int a) (.bl true)) (setD ls) = setD ms
      rw [setD_put]; exact h1
    · rw [h3, mem_insK, List.mem_cons]
      constructor
      · rintro ((h | h) | h)
        · exact .inl h
        · exact .inr (.inl h)
        · exact .inr (.inr h)
      · rintro (h | h | h)
        · exact .inl (.inl h)
        · exact .inl (.inr h)
        · exact .inr h
theorem setD_hom (ks : List Nat) : ∀ p ∈ setD ks, p.2 = .bl true := by
  intro p hp
  obtain ⟨k, _, rfl⟩ := List.mem_map.mp hp
  rfl
theorem subset_len {α : Type} [DecidableEq α] : ∀ {ks ls : List α}, ks.Nodup → (∀ j, j ∈ ks → j ∈ ls) → ks.length ≤ ls.length
  | [], _, _, _ => Nat.zero_le _
  | k :: ks, ls, hn, h => by
    rw [List.nodup_cons] at hn
    have hk := h k List.mem_cons_self
    have ih := subset_len (ls := ls.erase k) hn.2 fun j hj => (List.mem_erase_of_ne (fun (e : j = k) => hn.1 (e ▸ hj))).mpr (h j (List.mem_cons_of_mem _ hj))
    rw [List.length_erase_of_mem hk] at ih
    have : 0 < ls.length := List.length_pos_of_mem hk
    rw [List.length_cons]
    omega
theorem subset_back {α : Type} [DecidableEq α] {ks ls : List α} (hn : ks.Nodup) (h : ∀ j, j ∈ ks → j ∈ ls) (hl : ks.length = ls.length) (j : α) (hj : j ∈ ls) : j ∈ ks := by
  by_cases q : j ∈ ks
  · exact q
  · have := subset_len (ls := ls.erase j) hn fun i hi => (List.mem_erase_of_ne (fun (e : i = j) => q (e ▸ hi))).mpr (h i hi)
    rw [List.length_erase_of_mem hj] at this
    have := List.length_pos_of_mem hj
    omega
theorem setD_same {ks ls : List Nat} (hk : ks.Nodup) (hl : ls.Nodup) : sameD (setD ks) (setD ls) = true ↔ ∀ j, j ∈ ks ↔ j ∈ ls := by
  have vv : ∀ (ls : List Nat) (j : Nat), valD (setD ls) (.int j) = some (.bl true) ↔ j ∈ ls := fun ls j => by
    have q := setD_val ls j
    constructor
    · intro h
      rw [h] at q
      simpa using q.symm
    · intro h
      rw [decide_eq_true h] at q
      obtain ⟨v, hv⟩ := Option.isSome_iff_exists.mp q
      rw [hv]
      unfold valD at hv
      cases e : (setD ls).find? fun p => decide (p.1 = D.int j) with
      | none => rw [e] at hv; cases hv
      | some z =>
        rw [e] at hv
        cases hv
        show some z.2 = _
        rw [setD_hom ls z (List.mem_of_find?_eq_some e)]
  unfold sameD
  rw [setD_length, setD_length, Bool.and_eq_true, List.all_eq_true, beq_iff_eq]
  constructor
  · rintro ⟨h1, h2⟩
    have sub : ∀ j, j ∈ ks → j ∈ ls := fun j hj => by
      have := h2 (.int j, .bl true) (List.mem_map.mpr ⟨j, hj, rfl⟩)
      exact (vv ls j).mp (by simpa using this)
    refine fun j => ⟨sub j, fun hj => ?_⟩
    exact subset_back hk sub h1 j hj
  · intro h
    refine ⟨((List.perm_ext_iff_of_nodup hk hl).mpr h).length_eq, fun p hp => ?_⟩
    obtain ⟨k, hk, rfl⟩ := List.mem_map.mp hp
    simpa using (vv ls k).mpr ((h k).mp hk)

/-! ### tests known -/
theorem ite_t {c : Prop} [Decidable c] {A B : Prop} (h : c) (a : A) : if c then A else B := by rw [if_pos h]; exact a
theorem ite_f {c : Prop} [Decidable c] {A B : Prop} (h : ¬ c) (b : B) : if c then A else B := by rw [if_neg h]; exact b
theorem ite_b {b : Bool} {A B : Prop} (h1 : b = true → A) (h2 : b = false → B) : if b = true then A else B := by cases b <;> simp_all
theorem atI_n {α : Type} {xs : List α} (k : Nat) : L2.atI xs (k : Int) = xs[k]? := by
  by_cases h : k < xs.length
  · rw [L2.atI_nat (v := xs[k]) (by simp [h])]; simp [h]
  · unfold L2.atI L2.ixN
    rw [if_pos (by omega), if_neg (by omega)]
    simp [h]
end SD
/-! PG1: the defs' meanings over D (printed by gen.py). -/
namespace PG
open PySem L2 SD
/-! ### leads -/
def b_leads  : FS :=
  (sSeq (sIf (tVal (eVar 2)) (sRet (eCB (boolsF fun bs => bs.any id) (aCons (eLc (iSeqD (eVar 0)) (gNm 3) tYesD (eOp (inF false) (eVar 3) (eVar 1)) [3]) aNil))) sNext)
  (sRet (eCB (boolsF fun bs => bs.all id) (aCons (eLc (iSeqD (eVar 0)) (gNm 3) tYesD (eOp (inF false) (eVar 3) (eVar 1)) [3]) aNil))))
def F_leads : FnD := fnD 3 4 (b_leads )
/-! ### found_places -/
def b_found_places (G_found_places : FnD) (G_leads : FnD) : FS :=
  (sSeq (sAsg (eOp ixF (eVar 1) (eC (.int 0))) (gNm 3))
  (sSeq (sIf (tVal (eOp (inF false) (eVar 3) (eTup (aCons (eC (.str "yes")) (aCons (eC (.str "no")) aNil))))) (sRet (eDc (iRg1 (aCons (eOp ixF (eVar 0) (eC (.int 0))) aNil)) (gNm 10) (tVal (eOp (eqF false) (eVar 3) (eC (.str "yes")))) (eVar 10) (eC (.bl true)) [10])) sNext)
  (sSeq (sIf (tVal (eOp (inF false) (eVar 3) (eTup (aCons (eC (.str "is")) (aCons (eC (.str "isnt")) aNil))))) (sRet (eDc (iRg1 (aCons (eOp ixF (eVar 0) (eC (.int 0))) aNil)) (gNm 10) (tVal (eOp (eqF false) (eOp (inF false) (eVar 10) (eOp ixF (eOp ixF (eVar 0) (eC (.int 1))) (eOp ixF (eVar 1) (eC (.int 1))))) (eOp (eqF false) (eVar 3) (eC (.str "is"))))) (eVar 10) (eC (.bl true)) [10])) sNext)
  (sSeq (sIf (tVal (eOp (eqF false) (eVar 3) (eC (.str "name")))) (sRet (eDc (iSeqD (eOp ixF (eVar 2) (eOp ixF (eVar 1) (eC (.int 1))))) (gNm 10) tYesD (eVar 10) (eC (.bl true)) [10])) sNext)
  (sSeq (sIf (tVal (eOp (inF false) (eVar 3) (eTup (aCons (eC (.str "both")) (aCons (eC (.str "either")) aNil))))) (sSeq (sAsg (eTup (aCons (eCall G_found_places (aCons (eVar 0) (aCons (eOp ixF (eVar 1) (eC (.int 1))) (aCons (eVar 2) aNil)))) (aCons (eCall G_found_places (aCons (eVar 0) (aCons (eOp ixF (eVar 1) (eC (.int 2))) (aCons (eVar 2) aNil)))) aNil))) (gTp 2 (gsCons (gNm 4) (gsCons (gNm 5) gsNil))))
  (sSeq (sIf (tVal (eOp (eqF false) (eVar 3) (eC (.str "both")))) (sRet (eLock 4 (eDc (iKeysD 4) (gNm 10) (tVal (eOp (inF false) (eVar 10) (eVar 5))) (eVar 10) (eC (.bl true)) [10]))) sNext)
  (sSeq (sDrop (eMt "dict" updF (eVar 5) (aCons (eVar 4) aNil)))
  (sRet (eVar 5))))) sNext)
  (sSeq (sIf (tVal (eOp (inF false) (eVar 3) (eTup (aCons (eC (.str "some")) (aCons (eC (.str "all")) aNil))))) (sSeq (sAsg (eCall G_found_places (aCons (eVar 0) (aCons (eOp ixF (eVar 1) (eC (.int 2))) (aCons (eVar 2) aNil)))) (gNm 6))
  (sRet (eDc (iRg1 (aCons (eOp ixF (eVar 0) (eC (.int 0))) aNil)) (gNm 10) (tVal (eCall G_leads (aCons (eOp ixF (eOp ixF (eOp ixF (eVar 0) (eC (.int 2))) (eOp ixF (eVar 1) (eC (.int 1)))) (eVar 10)) (aCons (eVar 6) (aCons (eOp (eqF false) (eVar 3) (eC (.str "some"))) aNil))))) (eVar 10) (eC (.bl true)) [10]))) sNext)
  (sSeq (sAsg (eCB dictF (aCons (eVar 2) aNil)) (gNm 7))
  (sSeq (sAsg (eIf (tVal (eOp (eqF false) (eVar 3) (eC (.str "least")))) eDict0 (eDc (iRg1 (aCons (eOp ixF (eVar 0) (eC (.int 0))) aNil)) (gNm 10) tYesD (eVar 10) (eC (.bl true)) [10])) (gNm 8))
  (sSeq (sAsg (eC .non) (gNm 9))
  (sSeq (sWhile (tVal (eOp (eqF true) (eVar 8) (eVar 9))) (sSeq (sAsg (eVar 8) (gNm 9))
  (sSeq (sAsg (eCB tupleF (aCons (eCB sortedF (aCons (eCB listF (aCons (eVar 8) aNil)) aNil)) aNil)) (gSubD (eVar 7) (eOp ixF (eVar 1) (eC (.int 1)))))
  (sAsg (eCall G_found_places (aCons (eVar 0) (aCons (eOp ixF (eVar 1) (eC (.int 2))) (aCons (eVar 7) aNil)))) (gNm 8)))))
  (sRet (eVar 8))))))))))))
def F_found_places : Nat → FnD
  | 0 => fun _ _ _ => False
  | k + 1 => fnD 3 11 (b_found_places (F_found_places k) F_leads)
/-! ### worth -/
def b_worth (G_found_places : FnD) : FS :=
  (sRet (eCB tupleF (aCons (eCB sortedF (aCons (eCB listF (aCons (eCall G_found_places (aCons (eVar 0) (aCons (eVar 1) (aCons (eVar 2) aNil)))) aNil)) aNil)) aNil)))
def F_worth : FnD := fnD 3 3 (b_worth (F_found_places 24))
/-! ### places_where -/
def b_places_where (G_worth : FnD) : FS :=
  (sRet (eCall G_worth (aCons (eVar 0) (aCons (eVar 1) (aCons eDict0 aNil)))))
def F_places_where : FnD := fnD 2 2 (b_places_where F_worth)
/-! ### round_places -/
def b_round_places (G_worth : FnD) : FS :=
  (sSeq (sAsg (eIf (tVal (eOp (eqF false) (eOp ixF (eVar 1) (eC (.int 0))) (eC (.str "least")))) (eTup aNil) (eTupRg1 (eOp ixF (eVar 0) (eC (.int 0))))) (gNm 3))
  (sSeq (sFor (iRg1 (aCons (eVar 2) aNil)) (gNm 4) (sAsg (eCall G_worth (aCons (eVar 0) (aCons (eOp ixF (eVar 1) (eC (.int 2))) (aCons (eDispD (((eOp ixF (eVar 1) (eC (.int 1))), (eVar 3)) :: [])) aNil)))) (gNm 3)))
  (sRet (eVar 3))))
def F_round_places : FnD := fnD 3 5 (b_round_places F_worth)
/-! ### _law_same -/
def b__law_same (G__law_same : FnD) : FS :=
  (sSeq (sIf (tOrD (tVal (eIsi "tuple" (eVar 1))) (tVal (eIsi "list" (eVar 1)))) (sSeq (sIf (tOrD (tVal (eOp (eqF true) (eIsi "tuple" (eVar 1)) (eIsi "tuple" (eVar 0)))) (tOrD (tVal (eOp (eqF true) (eIsi "list" (eVar 1)) (eIsi "list" (eVar 0)))) (tVal (eOp (eqF true) (eCB lenF (aCons (eVar 0) aNil)) (eCB lenF (aCons (eVar 1) aNil)))))) (sRet (eC (.bl false))) sNext)
  (sRet (eOp (eqF false) (eCB lenF (aCons (eLc (iRg1 (aCons (eCB lenF (aCons (eVar 1) aNil)) aNil)) (gNm 2) (tNotD (tVal (eCall G__law_same (aCons (eOp ixF (eVar 0) (eVar 2)) (aCons (eOp ixF (eVar 1) (eVar 2)) aNil))))) (eVar 2) [2]) aNil)) (eC (.int 0))))) sNext)
  (sSeq (sIf (tVal (eIsN (eVar 1))) (sRet (eIsN (eVar 0))) sNext)
  (sSeq (sIf (tOrD (tVal (eIsi "bool" (eVar 1))) (tVal (eIsi "bool" (eVar 0)))) (sRet (eAnd (eIsi "bool" (eVar 1)) (eAnd (eIsi "bool" (eVar 0)) (eOp (eqF false) (eVar 0) (eVar 1))))) sNext)
  (sSeq (sIf (tVal (eIsi "int" (eVar 1))) (sRet (eAnd (eIsi "int" (eVar 0)) (eOp (eqF false) (eVar 0) (eVar 1)))) sNext)
  (sRet (eAnd (eIsi "str" (eVar 0)) (eOp (eqF false) (eVar 0) (eVar 1))))))))
def F__law_same : Nat → FnD
  | 0 => fun _ _ _ => False
  | k + 1 => fnD 2 3 (b__law_same (F__law_same k))
/-! ### _law_pool -/
def b__law_pool  : FS :=
  (sSeq (sAsg (eC (.int 7)) (gNm 1))
  (sSeq (sFor (iSeqD (eSl (eVar 0) oNo (oSome (eC (.int 63))))) (gNm 2) (sAsg (eOp (intCF (fun _ j => 0 < j) fun i j => .int (i % j)) (eCB intF1 (aCons (eOp addF (eOp (intCF CMul fun i j => .int (i * j)) (eVar 1) (eC (.int 31))) (eVar 2)) aNil)) (eC (.int 1000003))) (gNm 1)))
  (sRet (eLst (aCons (eCB listF (aCons (eVar 0) aNil)) (aCons (eC (.int 0)) (aCons (eC (.int 0)) (aCons (eC (.int 0)) (aCons (eVar 1) aNil)))))))))
def F__law_pool : FnD := fnD 1 3 (b__law_pool )
/-! ### _law_spread -/
def b__law_spread  : FS :=
  (sSeq (sAsg (eOp (intCF (fun _ j => 0 < j) fun i j => .int (i % j)) (eCB intF1 (aCons (eVar 0) aNil)) (eC (.int 2147483647))) (gNm 1))
  (sSeq (sAsg (eC (.int 1)) (gNm 2))
  (sSeq (sFor (iRg1 (aCons (eC (.int 4)) aNil)) (gNm 3) (sSeq (sAsg (eOp (intCF (fun _ j => 0 < j) fun i j => .int (i % j)) (eCB intF1 (aCons (eOp addF (eOp addF (eOp (intCF CMul fun i j => .int (i * j)) (eVar 1) (eC (.int 48271))) (eC (.int 12345))) (eVar 3)) aNil)) (eC (.int 2147483647))) (gNm 1))
  (sAsg (eOp addF (eOp (intCF CMul fun i j => .int (i * j)) (eVar 2) (eC (.int 2147483647))) (eVar 1)) (gNm 2))))
  (sRet (eVar 2)))))
def F__law_spread : FnD := fnD 1 4 (b__law_spread )
/-! ### _law_draw -/
def b__law_draw (G__law_spread : FnD) : FS :=
  (sSeq (sIf (tAndD (tVal (eOp (intF fun i j => .bl (decide (i ≤ j))) (eOp ixF (eVar 0) (eC (.int 2))) (eC (.int 0)))) (tVal (eOp (intF fun i j => .bl (decide (i < j))) (eOp ixF (eVar 0) (eC (.int 1))) (eCB lenF (aCons (eOp ixF (eVar 0) (eC (.int 0))) aNil))))) (sSeq (sAsg (eOp ixF (eOp ixF (eVar 0) (eC (.int 0))) (eOp ixF (eVar 0) (eC (.int 1)))) (gNm 2))
  (sSeq (sAsg (eOp addF (eOp ixF (eVar 0) (eC (.int 1))) (eC (.int 1))) (gSubD (eVar 0) (eC (.int 1))))
  (sSeq (sAsg (eVar 2) (gSubD (eVar 0) (eC (.int 2))))
  (sIf (tVal (eOp (intF fun i j => .bl (decide (i < j))) (eVar 2) (eC (.int 1000000000000000000)))) (sAsg (eCall G__law_spread (aCons (eVar 2) aNil)) (gSubD (eVar 0) (eC (.int 2)))) sNext)))) sNext)
  (sSeq (sAsg (eOp addF (eOp ixF (eVar 0) (eC (.int 3))) (eC (.int 1))) (gSubD (eVar 0) (eC (.int 3))))
  (sSeq (sIf (tVal (eOp (intF fun i j => .bl (decide (i ≤ j))) (eOp ixF (eVar 0) (eC (.int 2))) (eC (.int 0)))) (sSeq (sAsg (eOp (intCF (fun _ j => 0 < j) fun i j => .int (i % j)) (eCB intF1 (aCons (eOp addF (eOp addF (eOp (intCF CMul fun i j => .int (i * j)) (eOp ixF (eVar 0) (eC (.int 4))) (eC (.int 48271))) (eOp (intCF CMul fun i j => .int (i * j)) (eOp ixF (eVar 0) (eC (.int 3))) (eC (.int 69621)))) (eC (.int 1))) aNil)) (eC (.int 2147483647))) (gNm 3))
  (sSeq (sAsg (eOp (intCF (fun _ j => 0 < j) fun i j => .int (i % j)) (eCB intF1 (aCons (eOp addF (eOp (intCF CMul fun i j => .int (i * j)) (eVar 3) (eC (.int 16807))) (eOp ixF (eVar 0) (eC (.int 3)))) aNil)) (eC (.int 2147483629))) (gNm 3))
  (sRet (eOp (intCF (fun _ j => 0 < j) fun i j => .int (i % j)) (eOp (intCF CDiv fun i j => .int (i / j)) (eVar 3) (eC (.int 5))) (eVar 1))))) sNext)
  (sSeq (sAsg (eOp (intCF (fun _ j => 0 < j) fun i j => .int (i % j)) (eCB intF1 (aCons (eOp ixF (eVar 0) (eC (.int 2))) aNil)) (eVar 1)) (gNm 4))
  (sSeq (sAsg (eOp (intCF CDiv fun i j => .int (i / j)) (eOp ixF (eVar 0) (eC (.int 2))) (eVar 1)) (gSubD (eVar 0) (eC (.int 2))))
  (sRet (eVar 4)))))))
def F__law_draw : FnD := fnD 2 5 (b__law_draw F__law_spread)
/-! ### _law_pick -/
def b__law_pick (G__law_draw : FnD) : FS :=
  (sRet (eOp ixF (eVar 1) (eCall G__law_draw (aCons (eVar 0) (aCons (eCB lenF (aCons (eVar 1) aNil)) aNil)))))
def F__law_pick : FnD := fnD 2 2 (b__law_pick F__law_draw)
/-! ### _law_land -/
def b__law_land (G__law_draw : FnD) : FS :=
  (sRet (eOp ixF (eTup (aCons (eTup (aCons (eC (.int 1)) (aCons (eC (.int 1)) aNil))) (aCons (eTup (aCons (eC (.int 2)) (aCons (eC (.int 1)) aNil))) (aCons (eTup (aCons (eC (.int 1)) (aCons (eC (.int 2)) aNil))) (aCons (eTup (aCons (eC (.int 3)) (aCons (eC (.int 1)) aNil))) (aCons (eTup (aCons (eC (.int 2)) (aCons (eC (.int 2)) aNil))) aNil)))))) (eCall G__law_draw (aCons (eVar 0) (aCons (eC (.int 5)) aNil)))))
def F__law_land : FnD := fnD 1 1 (b__law_land F__law_draw)
/-! ### _law_saying -/
def b__law_saying (G__law_saying : FnD) (G__law_draw : FnD) (G__law_pick : FnD) : FS :=
  (sSeq (sAsg (eIf (tVal (eOp (intF fun i j => .bl (decide (j < i))) (eVar 2) (eC (.int 0)))) (eCall G__law_draw (aCons (eVar 0) (aCons (eC (.int 13)) aNil))) (eCall G__law_draw (aCons (eVar 0) (aCons (eC (.int 5)) aNil)))) (gNm 6))
  (sSeq (sIf (tOrD (tVal (eOp (intF fun i j => .bl (decide (i < j))) (eVar 6) (eC (.int 2)))) (tAndD (tVal (eOp (eqF false) (eVar 6) (eC (.int 3)))) (tVal (eOp (eqF false) (eCB lenF (aCons (eVar 5) aNil)) (eC (.int 0)))))) (sRet (eTup (aCons (eOp ixF (eTup (aCons (eC (.str "is")) (aCons (eC (.str "isnt")) aNil))) (eIf (tVal (eOp (intF fun i j => .bl (decide (i < j))) (eVar 6) (eC (.int 2)))) (eOp (intCF (fun _ j => 0 < j) fun i j => .int (i % j)) (eVar 6) (eC (.int 2))) (eC (.int 0)))) (aCons (eCall G__law_draw (aCons (eVar 0) (aCons (eOp ixF (eVar 1) (eC (.int 0))) aNil))) aNil)))) sNext)
  (sSeq (sIf (tVal (eOp (eqF false) (eVar 6) (eC (.int 2)))) (sRet (eIf (tVal (eOp (eqF false) (eCall G__law_draw (aCons (eVar 0) (aCons (eC (.int 3)) aNil))) (eC (.int 0)))) (eOp ixF (eTup (aCons (eTup (aCons (eC (.str "yes")) aNil)) (aCons (eTup (aCons (eC (.str "no")) aNil)) aNil))) (eCall G__law_draw (aCons (eVar 0) (aCons (eC (.int 2)) aNil)))) (eTup (aCons (eC (.str "is")) (aCons (eCall G__law_draw (aCons (eVar 0) (aCons (eOp ixF (eVar 1) (eC (.int 0))) aNil))) aNil))))) sNext)
  (sSeq (sIf (tVal (eOp (intF fun i j => .bl (decide (i < j))) (eVar 6) (eC (.int 5)))) (sRet (eIf (tVal (eOp (intF fun i j => .bl (decide (j < i))) (eCB lenF (aCons (eVar 5) aNil)) (eC (.int 0)))) (eTup (aCons (eC (.str "name")) (aCons (eCall G__law_pick (aCons (eVar 0) (aCons (eCB listF (aCons (eVar 5) aNil)) aNil))) aNil))) (eTup (aCons (eC (.str "isnt")) (aCons (eCall G__law_draw (aCons (eVar 0) (aCons (eOp ixF (eVar 1) (eC (.int 0))) aNil))) aNil))))) sNext)
  (sSeq (sIf (tVal (eOp (intF fun i j => .bl (decide (i < j))) (eVar 6) (eC (.int 8)))) (sRet (eTup (aCons (eOp ixF (eTup (aCons (eC (.str "both")) (aCons (eC (.str "either")) aNil))) (eCall G__law_draw (aCons (eVar 0) (aCons (eC (.int 2)) aNil)))) (aCons (eCall G__law_saying (aCons (eVar 0) (aCons (eVar 1) (aCons (eOp (intF fun i j => .int (i - j)) (eVar 2) (eC (.int 1))) (aCons (eVar 3) (aCons (eVar 4) (aCons (eVar 5) aNil))))))) (aCons (eCall G__law_saying (aCons (eVar 0) (aCons (eVar 1) (aCons (eOp (intF fun i j => .int (i - j)) (eVar 2) (eC (.int 1))) (aCons (eVar 3) (aCons (eVar 4) (aCons (eVar 5) aNil))))))) aNil))))) sNext)
  (sSeq (sIf (tVal (eOp (intF fun i j => .bl (decide (i < j))) (eVar 6) (eC (.int 11)))) (sRet (eTup (aCons (eOp ixF (eTup (aCons (eC (.str "some")) (aCons (eC (.str "all")) aNil))) (eCall G__law_draw (aCons (eVar 0) (aCons (eC (.int 2)) aNil)))) (aCons (eCall G__law_draw (aCons (eVar 0) (aCons (eOp ixF (eVar 1) (eC (.int 1))) aNil))) (aCons (eCall G__law_saying (aCons (eVar 0) (aCons (eVar 1) (aCons (eOp (intF fun i j => .int (i - j)) (eVar 2) (eC (.int 1))) (aCons (eVar 3) (aCons (eVar 4) (aCons (eVar 4) aNil))))))) aNil))))) sNext)
  (sSeq (sAsg (eCB lenF (aCons (eVar 3) aNil)) (gNm 7))
  (sSeq (sIf (tVal (eOp (intF fun i j => .bl (decide (j < i))) (eVar 7) (eC (.int 4)))) (sRet (eTup (aCons (eC (.str "is")) (aCons (eC (.int 0)) aNil)))) sNext)
  (sSeq (sDrop (eMt "list" appF (eVar 3) (aCons (eVar 7) aNil)))
  (sRet (eTup (aCons (eOp ixF (eTup (aCons (eC (.str "least")) (aCons (eC (.str "greatest")) aNil))) (eCall G__law_draw (aCons (eVar 0) (aCons (eC (.int 2)) aNil)))) (aCons (eVar 7) (aCons (eCall G__law_saying (aCons (eVar 0) (aCons (eVar 1) (aCons (eOp (intF fun i j => .int (i - j)) (eVar 2) (eC (.int 1))) (aCons (eVar 3) (aCons (eOp addF (eVar 4) (eTup (aCons (eVar 7) aNil))) (aCons (eVar 5) aNil))))))) aNil))))))))))))))
def F__law_saying : Nat → FnD
  | 0 => fun _ _ _ => False
  | k + 1 => fnD 6 8 (b__law_saying (F__law_saying k) F__law_draw F__law_pick)
/-! ### _law_world -/
def b__law_world (G__law_draw : FnD) : FS :=
  (sSeq (sAsg (eOp addF (eC (.int 1)) (eCall G__law_draw (aCons (eVar 0) (aCons (eVar 2) aNil)))) (gNm 3))
  (sSeq (sAsg (eCB tupleF (aCons (eLc (iRg1 (aCons (eOp ixF (eVar 1) (eC (.int 0))) aNil)) (gNm 8) tYesD (eCB tupleF (aCons (eLc (iRg1 (aCons (eVar 3) aNil)) (gNm 9) (tVal (eOp (eqF false) (eCall G__law_draw (aCons (eVar 0) (aCons (eC (.int 2)) aNil))) (eC (.int 0)))) (eVar 9) [9]) aNil)) [8]) aNil)) (gNm 4))
  (sSeq (sAsg (eOp addF (eC (.int 2)) (eCall G__law_draw (aCons (eVar 0) (aCons (eC (.int 2)) aNil)))) (gNm 5))
  (sSeq (sAsg (eTup aNil) (gNm 6))
  (sSeq (sFor (iRg1 (aCons (eOp ixF (eVar 1) (eC (.int 1))) aNil)) (gNm 7) (sAsg (eOp addF (eVar 6) (eTup (aCons (eCB tupleF (aCons (eLc (iRg1 (aCons (eVar 3) aNil)) (gNm 10) tYesD (eCB tupleF (aCons (eLc (iRg1 (aCons (eVar 3) aNil)) (gNm 9) (tVal (eOp (eqF false) (eCall G__law_draw (aCons (eVar 0) (aCons (eVar 5) aNil))) (eC (.int 0)))) (eVar 9) [9]) aNil)) [10]) aNil)) aNil))) (gNm 6)))
  (sRet (eTup (aCons (eVar 3) (aCons (eVar 4) (aCons (eVar 6) aNil))))))))))
def F__law_world : FnD := fnD 3 11 (b__law_world F__law_draw)

end PG
/-! SDr: one step of a meaning at a time. -/
namespace SD
open PySem L2
theorem dicC_or {o : Option Cell} {kvs : List (D × D)} (h : dicC o = some kvs) : o = some (.dct kvs) ∨ o = some (.lck kvs) := by
  cases o with
  | none => simp [dicC] at h
  | some c =>
    cases c with
    | lst xs => simp [dicC] at h
    | dct ks => simp only [dicC, Option.some.injEq] at h; rw [h]; exact .inl rfl
    | lck ks => simp only [dicC, Option.some.injEq] at h; rw [h]; exact .inr rfl
    | tdc ks => simp [dicC] at h
    | tlk ks => simp [dicC] at h
section
variable {σ : Slots} {S : Store} {E : EndsD} {Q : PD} {QB : Bool → Store → Prop} {QA : List D → Store → Prop} {QG : Slots → Store → Prop} {QI : (Store → Prop) → List D → Store → Prop}
theorem r_seq {f g : FS} (h : f { E with nx := g E } σ S) : sSeq f g E σ S := h
theorem r_cut {f g : FS} (I : Slots → Store → Prop) (h2 : ∀ σ S, I σ S → g E σ S) (h : ∀ T : Slots → Store → Prop, (∀ σ S, I σ S → T σ S) → f { E with nx := T } σ S) : sSeq f g E σ S := h _ h2
theorem r_asg {f : FE} {g : FG} (h : f σ S fun d S1 => g d σ S1 E.nx) : sAsg f g E σ S := h
theorem r_if {t : FT} {f g : FS} (h : t σ S fun b S1 => if b = true then f E σ S1 else g E σ S1) : sIf t f g E σ S := h
theorem r_ret {f : FE} (h : f σ S E.rt) : sRet f E σ S := h
theorem r_drop {f : FE} (h : f σ S fun _ S1 => E.nx σ S1) : sDrop f E σ S := h
theorem r_next (h : E.nx σ S) : sNext E σ S := h
theorem r_nm {d : D} {i : Nat} (h : QG (σ.set i (some d)) S) : gNm i d σ S QG := h
theorem r_var {i : Nat} {d : D} (e : σ[i]? = some (some d)) (h : Q d S) : eVar i σ S Q := ⟨d, e, h⟩
theorem r_c {d : D} (h : Q d S) : eC d σ S Q := h
theorem r_aNil (h : QA [] S) : aNil σ S QA := h
theorem r_aCons {f : FE} {g : FA} (h : f σ S fun d S1 => g σ S1 fun ds S2 => QA (d :: ds) S2) : aCons f g σ S QA := h
theorem r_tup {f : FA} (h : f σ S fun ds S1 => ds.length ≤ sizeLine ∧ Q (.tup ds) S1) : eTup f σ S Q := h
theorem r_lst {f : FA} (h : f σ S fun ds S1 => ds.length ≤ sizeLine ∧ Q (.ref S1.length) (S1 ++ [.lst ds])) : eLst f σ S Q := h
theorem r_op {r : F2} {f g : FE} (h : f σ S fun x S1 => g σ S1 fun y S2 => r x y S2 Q) : eOp r f g σ S Q := h
theorem r_cb {r : FN} {f : FA} (h : f σ S fun xs S1 => r xs S1 Q) : eCB r f σ S Q := h
theorem r_call {F : FnD} {f : FA} (h : f σ S fun xs S1 => F xs S1 Q) : eCall F f σ S Q := h
theorem r_val {f : FE} (h : f σ S fun d S1 => ∃ b, d = .bl b ∧ QB b S1) : tVal f σ S QB := h
theorem r_and {t u : FT} (h : t σ S fun c S1 => if c = true then u σ S1 QB else QB false S1) : tAndD t u σ S QB := h
theorem r_or {t u : FT} (h : t σ S fun c S1 => if c = true then QB true S1 else u σ S1 QB) : tOrD t u σ S QB := h
theorem r_not {t : FT} (h : t σ S fun c S1 => QB (!c) S1) : tNotD t σ S QB := h
theorem r_eAnd {f g : FE} (h : f σ S fun d S1 => ∃ c, d = .bl c ∧ if c = true then g σ S1 Q else Q (.bl false) S1) : eAnd f g σ S Q := h
theorem r_eOr {f g : FE} (h : f σ S fun d S1 => ∃ c, d = .bl c ∧ if c = true then Q (.bl true) S1 else g σ S1 Q) : eOr f g σ S Q := h
theorem r_eNot {f : FE} (h : f σ S fun d S1 => ∃ c, d = .bl c ∧ Q (.bl (!c)) S1) : eNot f σ S Q := h
theorem r_eIf {t : FT} {f g : FE} (h : t σ S fun c S1 => if c = true then f σ S1 Q else g σ S1 Q) : eIf t f g σ S Q := h
theorem r_isN {f : FE} (h : f σ S fun d S1 => Q (.bl (decide (d = .non))) S1) : eIsN f σ S Q := h
theorem cmul_r {i j : Int} (h : -(2 ^ 64) < j ∧ j < 2 ^ 64) : CMul i j := .inr h
theorem cmul_l {i j : Int} (h : -(2 ^ 64) < i ∧ i < 2 ^ 64) : CMul i j := .inl h
theorem r_isi {T : String} {f : FE} (h : f σ S fun d S1 => ∃ t, tyName S1 d = some t ∧ Q (.bl (isiB t T)) S1) : eIsi T f σ S Q := h
theorem r_ty {t : String} {d : D} {P : String → Prop} (e : tyName S d = some t) (h : P t) : ∃ t, tyName S d = some t ∧ P t := ⟨t, e, h⟩
theorem r_yes (h : QB true S) : tYesD σ S QB := h
theorem r_dict0 (h : Q (.ref S.length) (S ++ [.dct []])) : eDict0 σ S Q := h
theorem r_dictF {d : D} {kvs : List (D × D)} (e : dictD S d = some kvs) (h : Q (.ref S.length) (S ++ [.dct kvs])) : dictF [d] S Q := ⟨kvs, e, h⟩
def ssD (Q : PD) (d : D) (S1 : Store) : Prop := ∃ ns : List Int, seqD S1 d = some (ns.map D.int) ∧ ns.length < 64 ∧ ∀ ys : List Int, ys.Pairwise (· < ·) → (∀ k, k ∈ ys ↔ k ∈ ns) → ys.length ≤ ns.length → Q (.ref S1.length) (S1 ++ [.lst (ys.map D.int)])
theorem r_ss {f : FE} (h : f σ S fun d S1 => ssD Q d S1) : eSortSet f σ S Q := h
theorem r_tr {f : FE} (h : f σ S fun d S1 => ∃ n : Int, d = .int n ∧ 0 ≤ n ∧ n ≤ 16777216 ∧ Q (.tup (rngD 0 n.toNat)) S1) : eTupRg1 f σ S Q := h
theorem r_mt {T : String} {fr : FM} {fo : FE} {fa : FA} (h : fo σ S fun x S1 => tyD T S1 x ∧ fa σ S1 fun xs S2 => fr x xs S2 Q) : eMt T fr fo fa σ S Q := h
theorem r_tyL {n : Nat} {ys : List D} {P : Prop} (e : S[n]? = some (.lst ys)) (h : P) : tyD "list" S (.ref n) ∧ P := ⟨.inl ⟨rfl, n, ys, rfl, e⟩, h⟩
theorem r_tyDc {n : Nat} {ys : List (D × D)} {P : Prop} (e : S[n]? = some (.dct ys)) (h : P) : tyD "dict" S (.ref n) ∧ P := ⟨.inr ⟨rfl, n, ys, rfl, e⟩, h⟩
theorem r_le {n : Nat} {P : Prop} (a : n ≤ sizeLine) (h : P) : n ≤ sizeLine ∧ P := ⟨a, h⟩
theorem r_bl {c : Bool} {P : Bool → Prop} (h : P c) : ∃ b, D.bl c = .bl b ∧ P b := ⟨c, rfl, h⟩
theorem r_ifT {c : Bool} {A B : Prop} (e : c = true) (h : A) : if c = true then A else B := by rw [if_pos e]; exact h
theorem r_ifF {c : Bool} {A B : Prop} (e : c = false) (h : B) : if c = true then A else B := by rw [if_neg (by rw [e]; decide)]; exact h
theorem r_ixT {xs : List D} {k : Int} {v : D} (e : atI xs k = some v) (h : Q v S) : ixF (.tup xs) (.int k) S Q := ⟨v, e, h⟩
theorem r_ixE {o : D} {xs : List D} {k : Int} {v : D} (e0 : o = .tup xs) (e : atI xs k = some v) (h : Q v S) : ixF o (.int k) S Q := by subst e0; exact ⟨v, e, h⟩
theorem r_ixZ {xs : List D} {k : Int} {v : D} (e : atI xs k = some v) (h : Q v S) : ixF (.frz xs) (.int k) S Q := ⟨v, e, h⟩
theorem r_ixL {n : Nat} {xs : List D} {k : Int} {v : D} (a : S[n]? = some (.lst xs)) (e : atI xs k = some v) (h : Q v S) : ixF (.ref n) (.int k) S Q := by
  dsimp only [ixF]; rw [a]; exact ⟨k, v, rfl, e, h⟩
theorem r_ixD {n : Nat} {kvs : List (D × D)} {i v : D} {k : Key} (a : dictD S (.ref n) = some kvs) (e : toKey i = some k) (e2 : valD kvs i = some v) (h : Q v S) : ixF (.ref n) i S Q := by
  dsimp only [ixF]
  rcases dicC_or a with a | a <;> rw [a] <;> exact ⟨k, v, e, e2, h⟩
theorem r_addI {i j : Int} (h : Q (.int (i + j)) S) : addF (.int i) (.int j) S Q := h
theorem r_addT {xs ys : List D} (l : xs.length + ys.length ≤ sizeLine) (h : Q (.tup (xs ++ ys)) S) : addF (.tup xs) (.tup ys) S Q := ⟨l, h⟩
theorem r_addL {n k : Nat} {xs ys : List D} (a : S[n]? = some (.lst xs)) (b : S[k]? = some (.lst ys)) (l : xs.length + ys.length ≤ sizeLine) (h : Q (.ref S.length) (S ++ [.lst (xs ++ ys)])) : addF (.ref n) (.ref k) S Q := ⟨xs, ys, a, b, l, h⟩
theorem r_intF {f : Int → Int → D} {i j : Int} (h : Q (f i j) S) : intF f (.int i) (.int j) S Q := h
theorem r_intCF {C : Int → Int → Prop} {f : Int → Int → D} {i j : Int} (c : C i j) (h : Q (f i j) S) : intCF C f (.int i) (.int j) S Q := ⟨c, h⟩
theorem r_eqI {i j : Int} (h : Q (.bl (decide (i = j))) S) : eqF false (.int i) (.int j) S Q := by show Q _ S; rw [Bool.xor_false]; exact h
theorem r_neI {i j : Int} (h : Q (.bl (!decide (i = j))) S) : eqF true (.int i) (.int j) S Q := by show Q _ S; rw [Bool.xor_true]; exact h
theorem r_eqS {i j : Str} (h : Q (.bl (decide (i = j))) S) : eqF false (.str i) (.str j) S Q := by show Q _ S; rw [Bool.xor_false]; exact h
theorem r_neS {i j : Str} (h : Q (.bl (!decide (i = j))) S) : eqF true (.str i) (.str j) S Q := by show Q _ S; rw [Bool.xor_true]; exact h
theorem r_eqB {i j : Bool} (h : Q (.bl (decide (i = j))) S) : eqF false (.bl i) (.bl j) S Q := by show Q _ S; rw [Bool.xor_false]; exact h
theorem r_neDN {n : Nat} {kvs : List (D × D)} (e : S[n]? = some (.dct kvs)) (h : Q (.bl true) S) : eqF true (.ref n) .non S Q := ⟨rfl, ⟨kvs, e⟩, h⟩
theorem r_neDD {n k : Nat} {ks ls : List (D × D)} (e : S[n]? = some (.dct ks)) (e2 : S[k]? = some (.dct ls)) (hh : homD (ks ++ ls)) (h : Q (.bl (!sameD ks ls)) S) : eqF true (.ref n) (.ref k) S Q := .inl ⟨ks, ls, e, e2, hh, by rw [Bool.xor_true]; exact h⟩
theorem r_eqT {xs ys : List D} (a : plainD (.tup xs) = true) (b : plainD (.tup ys) = true) (h : Q (.bl (decide (D.tup xs = D.tup ys))) S) : eqF false (.tup xs) (.tup ys) S Q := ⟨a, b, by rw [Bool.xor_false]; exact h⟩
theorem r_neT {xs ys : List D} (a : plainD (.tup xs) = true) (b : plainD (.tup ys) = true) (h : Q (.bl (!decide (D.tup xs = D.tup ys))) S) : eqF true (.tup xs) (.tup ys) S Q := ⟨a, b, by rw [Bool.xor_true]; exact h⟩
theorem r_neB {i j : Bool} (h : Q (.bl (!decide (i = j))) S) : eqF true (.bl i) (.bl j) S Q := by show Q _ S; rw [Bool.xor_true]; exact h
theorem r_inT {x : D} {xs : List D} (a : flatD x = true) (b : xs.all flatD = true) (h : Q (.bl (decide (x ∈ xs))) S) : inF false x (.tup xs) S Q := ⟨a, b, by rw [Bool.xor_false]; exact h⟩
theorem r_ninT {x : D} {xs : List D} (a : flatD x = true) (b : xs.all flatD = true) (h : Q (.bl (!decide (x ∈ xs))) S) : inF true x (.tup xs) S Q := ⟨a, b, by rw [Bool.xor_true]; exact h⟩
theorem r_inD {neg : Bool} {n : Nat} {kvs : List (D × D)} {i : D} {k : Key} (a : dictD S (.ref n) = some kvs) (e : toKey i = some k) (h : Q (.bl ((valD kvs i).isSome ^^ neg)) S) : inF neg i (.ref n) S Q := by
  dsimp only [inF]
  rcases dicC_or a with a | a <;> rw [a] <;> exact ⟨k, e, h⟩
theorem r_len {d : D} {ys : List D} (e : seqD S d = some ys) (h : Q (.int (ys.length : Nat)) S) : lenF [d] S Q := ⟨ys.length, .inl ⟨ys, e, rfl⟩, h⟩
theorem r_lenD {d : D} {ys : List (D × D)} (e : dictD S d = some ys) (h : Q (.int (ys.length : Nat)) S) : lenF [d] S Q := ⟨ys.length, .inr (.inl ⟨ys, e, rfl⟩), h⟩
theorem r_list {d : D} {ys : List D} (e : seqD S d = some ys) (h : Q (.ref S.length) (S ++ [.lst ys])) : listF [d] S Q := .inl ⟨ys, e, h⟩
theorem r_listD {n : Nat} {kvs : List (D × D)} (e : S[n]? = some (.dct kvs)) (h : Q (.ref S.length) (S ++ [.lst (kvs.map (·.1))])) : listF [.ref n] S Q := .inr ⟨n, kvs, rfl, e, h⟩
theorem r_tuple {d : D} {ys : List D} (e : seqD S d = some ys) (h : Q (.tup ys) S) : tupleF [d] S Q := ⟨ys, e, h⟩
theorem r_int {i : Int} (h : Q (.int i) S) : intF1 [.int i] S Q := h
theorem r_sub {fo fi : FE} {d : D} (h : fo σ S fun o S1 => fi σ S1 fun i S2 => setF o i d S2 fun S3 => QG σ S3) : gSubD fo fi d σ S QG := h
theorem r_setL {n : Nat} {xs : List D} {k : Int} {j : Nat} {v : D} {R : Store → Prop} (a : S[n]? = some (.lst xs)) (e : ixN xs.length k = some j) (h : R (S.set n (.lst (xs.set j v)))) : setF (.ref n) (.int k) v S R := by
  dsimp only [setF]; rw [a]; exact ⟨k, j, rfl, e, h⟩
theorem r_setD {n : Nat} {kvs : List (D × D)} {i v : D} {R : Store → Prop} (a : S[n]? = some (.dct kvs)) (e : (toKey i).isSome = true) (l : kvs.length < sizeLine) (h : R (S.set n (.dct (putD kvs i v)))) : setF (.ref n) i v S R := by
  dsimp only [setF]; rw [a]; exact ⟨e, l, h⟩
/-- only the cell n has changed -/
structure Off (n : Nat) (S S' : Store) : Prop where
  len : S'.length = S.length
  off : ∀ i, i ≠ n → S'[i]? = S[i]?
theorem Off.set (n : Nat) (S : Store) (c : Cell) : Off n S (S.set n c) := ⟨List.length_set, fun i hi => set_off (Ne.symm hi)⟩
theorem Off.trans {n : Nat} {S S1 S2 : Store} (a : Off n S S1) (b : Off n S1 S2) : Off n S S2 := ⟨b.len.trans a.len, fun i hi => (b.off i hi).trans (a.off i hi)⟩
theorem Off.ne {n k : Nat} {S S' : Store} (o : Off n S S') (h : k ≠ n) {c : Cell} (e : S[k]? = some c) : S'[k]? = some c := (o.off k h).trans e
theorem Off.b {n : Nat} {S S' : Store} (a : Off n S S') {l : List Nat} (h : n ∈ l) : ExtB l S S' := ⟨Nat.le_of_eq a.len.symm, fun i hi c e => (a.off i fun z => hi (z ▸ h)).trans e⟩
theorem r_setL1 {n : Nat} {xs : List D} {k : Int} {j : Nat} {v : D} {R : Store → Prop} (a : S[n]? = some (.lst xs)) (e : ixN xs.length k = some j) (h : ∀ S', S'[n]? = some (.lst (xs.set j v)) → Off n S S' → R S') : setF (.ref n) (.int k) v S R :=
  r_setL a e (h _ (set_at a) (Off.set _ _ _))
theorem r_setD1 {n : Nat} {kvs : List (D × D)} {i v : D} {R : Store → Prop} (a : S[n]? = some (.dct kvs)) (e : (toKey i).isSome = true) (l : kvs.length < sizeLine) (h : ∀ S', S'[n]? = some (.dct (putD kvs i v)) → Off n S S' → R S') : setF (.ref n) i v S R :=
  r_setD a e l (h _ (set_at a) (Off.set _ _ _))
theorem r_app {n : Nat} {ys : List D} {y : D} (e : S[n]? = some (.lst ys)) (l : ys.length < sizeLine) (h : ∀ S', S'[n]? = some (.lst (ys ++ [y])) → Off n S S' → Q .non S') : appF (.ref n) [y] S Q :=
  ⟨n, ys, y, rfl, rfl, e, l, h _ (set_at e) (Off.set _ _ _)⟩
theorem r_iTup {f : FE} (h : f σ S fun d S1 => ∃ xs, d = .tup xs ∧ QI Always xs S1) : iSeqD f σ S QI := .inl h
theorem r_iLst {f : FE} (h : f σ S fun d S1 => (∃ xs, d = .frz xs ∧ QI Always xs S1) ∨ ∃ n xs, d = .ref n ∧ S1[n]? = some (.lst xs) ∧ QI (fun S => S[n]? = some (.lst xs)) xs S1) : iSeqD f σ S QI := .inr h
theorem r_iRg1 {f : FA} (h : f σ S fun ds S1 => ∃ j : Int, ds = [.int j] ∧ -1000 ≤ j ∧ j ≤ 16777216 ∧ QI Always (rngD 0 j.toNat) S1) : iRg1 f σ S QI := h
theorem r_rg {j : Int} {P : Int → Prop} (a : -1000 ≤ j) (b : j ≤ 16777216) (h : P j) : ∃ i : Int, [D.int j] = [.int i] ∧ -1000 ≤ i ∧ i ≤ 16777216 ∧ P i := ⟨j, rfl, a, b, h⟩
theorem r_xs {xs : List D} {P : List D → Prop} (h : P xs) : ∃ ys, D.tup xs = .tup ys ∧ P ys := ⟨xs, rfl, h⟩
theorem r_for {f : FI} {g : FG} {b : FS} (h : f σ S fun ok xs S1 => forD ok g b E xs σ S1) : sFor f g b E σ S := h
theorem r_lc {f : FI} {g : FG} {t : FT} {e : FE} {vs : List Nat} (h : f σ S fun ok xs S1 => xs.length ≤ sizeLine → lcD ok g t e S1.length (fun S' => Q (.ref S1.length) S') (wipeD σ vs) xs (S1 ++ [.lst []])) : eLc f g t e vs σ S Q := h
theorem r_dc {f : FI} {g : FG} {t : FT} {fk fv : FE} {vs : List Nat} (h : f σ S fun ok xs S1 => xs.length ≤ sizeLine → dcD ok g t fk fv S1.length (fun S' => Q (.ref S1.length) S') (wipeD σ vs) xs (S1 ++ [.dct []])) : eDc f g t fk fv vs σ S Q := h
theorem r_fn {n l : Nat} {b : FS} {ds : List D} (e : ds.length = n) (h : b { nx := fun _ S' => Q .non S', rt := Q } (ds.map some ++ List.replicate (l - n) none) S) : fnD n l b ds S Q := ⟨e, h⟩
theorem r_gTp {n : Nat} {g : FGs} {xs : List D} (e : xs.length = n) (h : g xs σ S QG) : gTp n g (.tup xs) σ S QG := ⟨xs, rfl, e, h⟩
theorem r_gsCons {g : FG} {k : FGs} {d : D} {r : List D} (h : g d σ S fun σ1 S1 => k r σ1 S1 QG) : gsCons g k (d :: r) σ S QG := ⟨d, r, rfl, h⟩
theorem r_gsNil (h : QG σ S) : gsNil [] σ S QG := ⟨rfl, h⟩
theorem mem_rng {n : Nat} {x : D} (h : x ∈ rngD 0 n) : ∃ i, i < n ∧ x = .int (i : Nat) := by
  unfold rngD at h
  obtain ⟨i, h1, rfl⟩ := List.mem_map.mp h
  exact ⟨i, List.mem_range.mp h1, by show D.int (0 + (i : Int)) = _; rw [Int.zero_add]⟩
theorem rng_at {n i : Nat} {x : D} (h : (rngD 0 n)[i]? = some x) : i < n ∧ x = .int (i : Nat) := by
  unfold rngD at h
  rw [List.getElem?_map] at h
  by_cases hi : i < n
  · rw [List.getElem?_range hi] at h
    cases h
    exact ⟨hi, by show D.int (0 + (i : Int)) = _; rw [Int.zero_add]⟩
  · rw [List.getElem?_eq_none (by simp; omega)] at h
    cases h
theorem rng_map (n : Nat) : rngD 0 n = (List.range n).map fun i : Nat => D.int (i : Nat) := by
  unfold rngD
  exact List.map_congr_left fun i _ => by show D.int (0 + (i : Int)) = _; rw [Int.zero_add]
theorem rng_len (n : Nat) : (rngD 0 n).length = n := by unfold rngD; simp
theorem putD_keys {kvs : List (D × D)} {k v : D} (h : kvs.any (fun p => decide (p.1 = k)) = true) : (putD kvs k v).map (·.1) = kvs.map (·.1) := by
  unfold putD
  rw [if_pos h, List.map_map]
  refine List.map_congr_left fun p _ => ?_
  simp only [Function.comp]
  split <;> rfl
theorem valD_any {kvs : List (D × D)} {k : D} : (valD kvs k).isSome = kvs.any fun p => decide (p.1 = k) := by
  unfold valD
  rw [Option.isSome_map, Bool.eq_iff_iff, List.find?_isSome, List.any_eq_true]
theorem putD_ne (kvs : List (D × D)) {k j : D} (v : D) (h : j ≠ k) : valD (putD kvs k v) j = valD kvs j := by
  unfold putD
  split
  · unfold valD
    induction kvs with
    | nil => rfl
    | cons p kvs ih =>
      rw [List.map_cons]
      by_cases hp : p.1 = k
      · rw [if_pos hp]
        rw [List.find?_cons_of_neg (by simp [hp, Ne.symm h]), List.find?_cons_of_neg (by simp [hp, Ne.symm h])]
        by_cases hk : kvs.any (fun p => decide (p.1 = k)) = true
        · exact ih hk
        · have : (kvs.map fun p => if p.1 = k then (p.1, v) else p) = kvs := by
            conv => rhs; rw [← List.map_id kvs]
            refine List.map_congr_left fun q hq => ?_
            rw [if_neg fun e => hk (List.any_eq_true.mpr ⟨q, hq, by simpa using e⟩)]; rfl
          rw [this]
      · rw [if_neg hp]
        by_cases hj : p.1 = j
        · rw [List.find?_cons_of_pos (by simpa using hj), List.find?_cons_of_pos (by simpa using hj)]
        · rw [List.find?_cons_of_neg (by simpa using hj), List.find?_cons_of_neg (by simpa using hj)]
          refine ih ?_
          rename_i hk
          simpa [hp] using hk
  · unfold valD
    rw [List.find?_append]
    cases hf : kvs.find? (fun p => decide (p.1 = j)) with
    | some q => rfl
    | none =>
      rw [Option.none_or, List.find?_cons_of_neg (by simpa using Ne.symm h)]; rfl
theorem putD_self (kvs : List (D × D)) (k v : D) : valD (putD kvs k v) k = some v := by
  unfold putD
  split
  · rename_i hk
    unfold valD
    induction kvs with
    | nil => simp at hk
    | cons p kvs ih =>
      rw [List.map_cons]
      by_cases hp : p.1 = k
      · rw [if_pos hp, List.find?_cons_of_pos (by simpa using hp)]; rfl
      · rw [if_neg hp, List.find?_cons_of_neg (by simpa using hp)]
        exact ih (by simpa [hp] using hk)
  · rename_i hk
    unfold valD
    rw [List.find?_append, List.find?_eq_none.mpr fun p hp e => hk (List.any_eq_true.mpr ⟨p, hp, by simpa using e⟩), Option.none_or, List.find?_cons_of_pos (by simp)]
    rfl
theorem putD_len_in {kvs : List (D × D)} {k v : D} (h : (valD kvs k).isSome = true) : (putD kvs k v).length = kvs.length := by
  rw [valD_any] at h
  have := congrArg List.length (putD_keys (v := v) h)
  simpa using this
/-- {x: True for x in xs if p x} -/
theorem dc_set {ok : Store → Prop} {t : FT} {i : Nat} {R : Store → Prop} (xs : List Nat) (p : Nat → Bool) (few : xs.length < sizeLine) (hi : ∀ d : D, (σ.set i (some d))[i]? = some (some d)) (hok : ∀ S1, Ext S S1 → ok S1)
    (ht : ∀ x ∈ xs, ∀ S1 (P : Bool → Store → Prop), Ext S S1 → (∀ S2, Ext S1 S2 → P (p x) S2) → t (σ.set i (some (.int (x : Nat)))) S1 P)
    (hQ : ∀ S1 ks, Ext S S1 → S1[S.length]? = some (.dct (setD ks)) → ks.Nodup → (∀ j, j ∈ ks ↔ j ∈ xs ∧ p j = true) → R S1) : dcD ok (gNm i) t (eVar i) (eC (.bl true)) S.length R σ (xs.map fun k : Nat => .int (k : Nat)) (S ++ [.dct []]) := by
  refine dc_inv (fun k acc S1 => Ext S S1 ∧ ∃ ks : List Nat, acc = setD ks ∧ ks.Nodup ∧ ∀ j, j ∈ ks ↔ j ∈ xs.take k ∧ p j = true) (by simp; omega) (new_at S _) ⟨Ext.app S _, [], rfl, .nil, by simp⟩ ?_ ?_
  · rintro k x acc S1 R1 hx h1 hl ⟨e1, ks, rfl, h2, h3⟩ hR
    rw [List.getElem?_map] at hx
    cases hxx : xs[k]? with
    | none => rw [hxx] at hx; cases hx
    | some x' =>
      rw [hxx] at hx
      cases hx
      have hkl : k < xs.length := (List.getElem?_eq_some_iff.mp hxx).1
      have tk : xs.take (k + 1) = xs.take k ++ [x'] := by rw [List.take_add_one, hxx]; rfl
      refine ⟨hok S1 e1, ht x' (List.mem_of_getElem? hxx) S1 _ e1 fun S2 e2 => ?_⟩
      have h1' := e2 _ _ h1
      cases hp : p x' with
      | false =>
        rw [if_neg (by decide)]
        refine hR _ S2 h1' (by omega) ⟨e1.trans e2, ks, rfl, h2, fun j => ?_⟩
        rw [h3, tk, List.mem_append, List.mem_singleton]
        constructor
        · exact fun ⟨a, b⟩ => ⟨.inl a, b⟩
        · rintro ⟨a | rfl, b⟩
          · exact ⟨a, b⟩
          · rw [hp] at b; cases b
      | true =>
        rw [if_pos rfl]
        refine ⟨_, hi _, ?_⟩
        refine ⟨setD ks, rfl, h1', by omega, ?_⟩
        refine hR _ _ (set_at h1') (Nat.le_trans (length_putD _ _ _) (by omega)) ⟨(e1.trans e2).put (Nat.le_refl _), insK ks x', setD_put ks x', nodup_insK h2, fun j => ?_⟩
        rw [mem_insK, h3, tk, List.mem_append, List.mem_singleton]
        constructor
        · rintro (⟨a, b⟩ | rfl)
          · exact ⟨.inl a, b⟩
          · exact ⟨.inr rfl, hp⟩
        · rintro ⟨a | rfl, b⟩
          · exact .inl ⟨a, b⟩
          · exact .inr rfl
  · rintro acc S1 h1 hl ⟨e1, ks, rfl, h2, h3⟩
    refine ⟨hok S1 e1, hQ S1 ks e1 h1 h2 fun j => ?_⟩
    rw [h3, List.length_map, List.take_length]
theorem rng_map' (n : Nat) : rngD 0 (n : Int).toNat = (List.range n).map fun i : Nat => D.int (i : Nat) := by rw [Int.toNat_natCast, rng_map]
/-- sorted of a list of numbers, each once -/
theorem r_sorted {n : Nat} {ks : List Nat} (e : seqD S (.ref n) = some (ks.map fun k : Nat => .int (k : Nat))) (nd : ks.Nodup) (h : ∀ ls : List Nat, ls.Pairwise (· < ·) → (∀ j, j ∈ ls ↔ j ∈ ks) → Q (.ref S.length) (S ++ [.lst (ls.map fun k : Nat => .int (k : Nat))])) : sortedF [.ref n] S Q := by
  refine ⟨ks.map fun k : Nat => (k : Int), by rw [e, List.map_map]; rfl, ⟨n, rfl⟩, fun ns hp hs => ?_⟩
  have hn : ∀ z ∈ ns, ∃ k : Nat, z = (k : Int) := fun z hz => by
    obtain ⟨k, _, rfl⟩ := List.mem_map.mp (hp.mem_iff.mp hz)
    exact ⟨k, rfl⟩
  have em : ns = (ns.map Int.toNat).map fun k : Nat => (k : Int) := by
    rw [List.map_map]
    conv => lhs; rw [← List.map_id ns]
    refine List.map_congr_left fun z hz => ?_
    obtain ⟨k, rfl⟩ := hn z hz
    rfl
  have nd' : ns.Nodup := hp.nodup_iff.mpr (by
    rw [List.nodup_iff_pairwise_ne, List.pairwise_map]
    exact nd.imp fun a b => a (by omega))
  have := h (ns.map Int.toNat) ?_ ?_
  · rw [List.map_map] at this
    have e2 : (ns.map D.int) = ns.map ((fun k : Nat => D.int (k : Nat)) ∘ Int.toNat) := by
      refine List.map_congr_left fun z hz => ?_
      obtain ⟨k, rfl⟩ := hn z hz
      rfl
    rw [e2]
    exact this
  · rw [List.pairwise_map]
    refine (hs.and (List.nodup_iff_pairwise_ne.mp nd')).imp_of_mem fun {a b} ha hb hab => ?_
    obtain ⟨k, rfl⟩ := hn a ha
    obtain ⟨l, rfl⟩ := hn b hb
    have := hab.1
    have := hab.2
    simp only [Int.toNat_natCast]
    have : k ≠ l := fun e => hab.2 (by rw [e])
    omega
  · intro j
    rw [List.mem_map]
    constructor
    · rintro ⟨z, hz, rfl⟩
      obtain ⟨k, rfl⟩ := hn z hz
      obtain ⟨k', hk', e⟩ := List.mem_map.mp (hp.mem_iff.mp hz)
      have : k' = k := Int.ofNat.inj e
      rw [← this]; simpa using hk'
    · intro hj
      exact ⟨(j : Int), hp.mem_iff.mpr (List.mem_map.mpr ⟨j, hj, rfl⟩), by simp⟩
theorem r_sortSet {d : D} {ks : List Nat} (e : seqD S d = some (ks.map fun k : Nat => .int (k : Nat))) (l : ks.length < 64) (h : ∀ ls : List Nat, ls.Pairwise (· < ·) → (∀ j, j ∈ ls ↔ j ∈ ks) → Q (.ref S.length) (S ++ [.lst (ls.map fun k : Nat => .int (k : Nat))])) :
    ssD Q d S := by
  refine ⟨ks.map fun k : Nat => (k : Int), by rw [e, List.map_map]; rfl, by simpa using l, fun ns hs hp _ => ?_⟩
  have hn : ∀ z ∈ ns, ∃ k : Nat, z = (k : Int) := fun z hz => by
    obtain ⟨k, _, rfl⟩ := List.mem_map.mp ((hp z).mp hz)
    exact ⟨k, rfl⟩
  have := h (ns.map Int.toNat) ?_ ?_
  · rw [List.map_map] at this
    have e2 : (ns.map D.int) = ns.map ((fun k : Nat => D.int (k : Nat)) ∘ Int.toNat) := by
      refine List.map_congr_left fun z hz => ?_
      obtain ⟨k, rfl⟩ := hn z hz
      rfl
    rw [e2]
    exact this
  · rw [List.pairwise_map]
    refine hs.imp_of_mem fun {a b} ha hb hab => ?_
    obtain ⟨k, rfl⟩ := hn a ha
    obtain ⟨l, rfl⟩ := hn b hb
    simp only [Int.toNat_natCast]
    omega
  · intro j
    rw [List.mem_map]
    constructor
    · rintro ⟨z, hz, rfl⟩
      obtain ⟨k, rfl⟩ := hn z hz
      obtain ⟨k', hk', e⟩ := List.mem_map.mp ((hp _).mp hz)
      have : k' = k := Int.ofNat.inj e
      rw [← this]; simpa using hk'
    · intro hj
      exact ⟨(j : Int), (hp _).mpr (List.mem_map.mpr ⟨j, hj, rfl⟩), by simp⟩
/-- a for by an invariant -/
theorem for_inv {ok : Store → Prop} {g : FG} {b : FS} {xs : List D} (I : Nat → Slots → Store → Prop) (h0 : I 0 σ S)
    (step : ∀ i x σ S (R : Slots → Store → Prop), xs[i]? = some x → I i σ S → (∀ σ' S', I (i + 1) σ' S' → R σ' S') → ok S ∧ g x σ S fun σ1 S1 => b { E with nx := R, ct := R, bk := E.nx } σ1 S1)
    (done : ∀ σ S, I xs.length σ S → ok S ∧ E.nx σ S) : forD ok g b E xs σ S := by
  have go : ∀ (ys : List D) (i : Nat) (σ : Slots) (S : Store), xs.drop i = ys → i ≤ xs.length → I i σ S → forD ok g b E ys σ S := by
    intro ys
    induction ys with
    | nil =>
      intro i σ S hd hi h
      have : i = xs.length := by
        have := congrArg List.length hd
        simp at this
        omega
      subst this
      exact done σ S h
    | cons y ys ih =>
      intro i σ S hd hi h
      have hlt : i < xs.length := by
        have := congrArg List.length hd
        simp at this
        omega
      have hx : xs[i]? = some y := by rw [← List.head?_drop, hd]; rfl
      have hd' : xs.drop (i + 1) = ys := by rw [← List.tail_drop, hd]; rfl
      exact step i y σ S _ hx h fun σ' S' h' => ih (i + 1) σ' S' hd' hlt h'
  exact go xs 0 σ S rfl (Nat.zero_le _) h0
/-- a while by an invariant that counts down -/
theorem while_inv {c : FT} {b : FS} (I : Nat → Slots → Store → Prop) (k0 : Nat) (h0 : I k0 σ S)
    (step : ∀ k σ S (R : Slots → Store → Prop), I k σ S → (∀ k' σ' S', k' < k → I k' σ' S' → R σ' S') → c σ S fun t S1 => if t = true then b { E with nx := R, ct := R, bk := E.nx } σ S1 else E.nx σ S1) : sWhile c b E σ S := by
  have up : ∀ (n : Nat) (k : Nat) (σ : Slots) (S : Store), k < n → I k σ S → whileD c b E n σ S := by
    intro n
    induction n with
    | zero => intro k σ S h; omega
    | succ n ih =>
      intro k σ S hk h
      exact step k σ S _ h fun k' σ' S' hk' h' => ih k' σ' S' (by omega) h'
  exact ⟨k0 + 1, up (k0 + 1) k0 σ S (Nat.lt_succ_self _) h0⟩
end
end SD
local macro_rules | `(tactic| walk_at "s") => `(tactic| (repeat with_reducible first | refine SD.r_seq ?_ | refine SD.r_asg ?_ | refine SD.r_nm ?_ | refine SD.r_var (by with_unfolding_all rfl) ?_ | refine SD.r_c ?_ | refine SD.r_aCons ?_ | refine SD.r_aNil ?_ | refine SD.r_op ?_ | refine SD.r_call ?_ | refine SD.r_val ?_ | refine SD.r_bl ?_ | refine SD.r_if ?_ | refine SD.r_ret ?_ | refine SD.r_next ?_ | refine SD.r_ifT (by first | decide | (with_unfolding_all rfl)) ?_ | refine SD.r_ifF (by first | decide | (with_unfolding_all rfl)) ?_ | refine SD.r_tup ?_ | refine SD.r_lst ?_ | refine SD.r_le (Nat.le_of_ble_eq_true (by with_unfolding_all rfl)) ?_ | refine SD.r_cb ?_ | refine SD.r_and ?_ | refine SD.r_or ?_ | refine SD.r_not ?_ | refine SD.r_eIf ?_ | refine SD.r_eAnd ?_ | refine SD.r_eOr ?_ | refine SD.r_eNot ?_ | refine SD.r_isN ?_ | refine SD.r_mt ?_ | refine SD.r_tr ?_ | refine SD.r_ss ?_ | refine SD.r_dict0 ?_ | refine SD.r_yes ?_ | refine SD.r_isi ?_ | refine SD.r_ty (by with_unfolding_all rfl) ?_ | refine SD.r_ixT (by with_unfolding_all rfl) ?_ | refine SD.r_ixE (by with_unfolding_all rfl) (by with_unfolding_all rfl) ?_ | refine SD.r_ixL (by assumption) (by with_unfolding_all rfl) ?_ | refine SD.r_addI ?_ | refine SD.r_intF ?_ | refine SD.r_intCF (by first | decide | exact SD.cmul_r (by decide) | exact SD.cmul_l (by decide)) ?_ | refine SD.r_eqI ?_ | refine SD.r_neI ?_ | refine SD.r_eqS ?_ | refine SD.r_neS ?_ | refine SD.r_eqB ?_ | refine SD.r_neB ?_ | refine SD.r_int ?_ | refine SD.r_drop ?_ | refine SD.r_sub ?_ | refine SD.r_gTp (by with_unfolding_all rfl) ?_ | refine SD.r_gsCons ?_ | refine SD.r_gsNil ?_ | refine SD.r_for ?_ | refine SD.r_lc ?_ | refine SD.r_dc ?_ | refine SD.r_iRg1 ?_ | refine SD.r_inT (by with_unfolding_all rfl) (by with_unfolding_all rfl) ?_))
local macro_rules | `(tactic| walk_at "n") => `(tactic| (repeat with_reducible first | refine SD.r_asg ?_ | refine SD.r_nm ?_ | refine SD.r_var (by with_unfolding_all rfl) ?_ | refine SD.r_c ?_ | refine SD.r_aCons ?_ | refine SD.r_aNil ?_ | refine SD.r_op ?_ | refine SD.r_call ?_ | refine SD.r_val ?_ | refine SD.r_bl ?_ | refine SD.r_if ?_ | refine SD.r_ret ?_ | refine SD.r_next ?_ | refine SD.r_ifT (by first | decide | (with_unfolding_all rfl)) ?_ | refine SD.r_ifF (by first | decide | (with_unfolding_all rfl)) ?_ | refine SD.r_tup ?_ | refine SD.r_lst ?_ | refine SD.r_le (Nat.le_of_ble_eq_true (by with_unfolding_all rfl)) ?_ | refine SD.r_cb ?_ | refine SD.r_and ?_ | refine SD.r_or ?_ | refine SD.r_not ?_ | refine SD.r_eIf ?_ | refine SD.r_eAnd ?_ | refine SD.r_eOr ?_ | refine SD.r_eNot ?_ | refine SD.r_isN ?_ | refine SD.r_mt ?_ | refine SD.r_tr ?_ | refine SD.r_ss ?_ | refine SD.r_dict0 ?_ | refine SD.r_yes ?_ | refine SD.r_isi ?_ | refine SD.r_ty (by with_unfolding_all rfl) ?_ | refine SD.r_ixT (by with_unfolding_all rfl) ?_ | refine SD.r_ixE (by with_unfolding_all rfl) (by with_unfolding_all rfl) ?_ | refine SD.r_ixL (by assumption) (by with_unfolding_all rfl) ?_ | refine SD.r_addI ?_ | refine SD.r_intF ?_ | refine SD.r_intCF (by first | decide | exact SD.cmul_r (by decide) | exact SD.cmul_l (by decide)) ?_ | refine SD.r_eqI ?_ | refine SD.r_neI ?_ | refine SD.r_eqS ?_ | refine SD.r_neS ?_ | refine SD.r_eqB ?_ | refine SD.r_neB ?_ | refine SD.r_int ?_ | refine SD.r_drop ?_ | refine SD.r_sub ?_ | refine SD.r_gTp (by with_unfolding_all rfl) ?_ | refine SD.r_gsCons ?_ | refine SD.r_gsNil ?_ | refine SD.r_for ?_ | refine SD.r_lc ?_ | refine SD.r_dc ?_ | refine SD.r_iRg1 ?_ | refine SD.r_inT (by with_unfolding_all rfl) (by with_unfolding_all rfl) ?_))
/-! SDk: what the module's top holds (tables, tuples, numbers), get, reversed slices, a list unpacked, in a list of plain data. -/
namespace SD
open PySem PySem.Spec PyProof.Rows L2

/-! ### a table of the top, text by text -/
structure KTab (K : PySem.W.Frag) (w : World) (d : Addr) (tab : List (Str × Str)) : Prop where
  ks : He.dicW K d = some (He.keysIn w.params (tab.map (·.1)))
  vs : ∀ a b, tab.lookup a = some b → ∃ t, PySem.W.nsIn K d a = some (some (.str b t))
theorem keys_vals {P : Params} : ∀ {l : List DictEntry} {ks : List Str}, l.map He.keyOf = He.keysIn P ks → Vals (ks.map V.str) (l.map (·.key))
  | [], [], _ => .nil
  | [], _ :: _, h => by cases h
  | _ :: _, [], h => by cases h
  | e :: r, k :: ks, h => by
    have h1 : He.keyOf e :: r.map He.keyOf = some (k, PyData.keyHash P k) :: He.keysIn P ks := h
    injection h1 with h2 h3
    refine .cons ?_ (keys_vals h3)
    unfold He.keyOf at h2
    split at h2
    · rename_i x t q
      have z := (Prod.mk.inj (Option.some.inj h2)).1
      exact ⟨t, by show e.key = _; rw [q, z]⟩
    · cases h2
/-- the walk over fixed values -/
def ItC (vs : List V) : It := ⟨fun i _ => i < vs.length, fun i H x H' => H' = H ∧ vs[i]? = some x, fun i _ => vs.length ≤ i⟩
theorem turn_kd {P : Program} {w : World} {K : PySem.W.Frag} {tg : Expr} {d it : Addr} {es : Array DictEntry} {n : Nat} {vs : List V} (lk : K.lookup d = some ⟨.type "dict", none, .dict es n, #[]⟩) (hv : Vals vs (es.toList.map (·.key))) :
    Turn P w K tg (ItC vs) [it] it fun i h => h.IsKeyIter it d i es.size n where
  mem := List.mem_cons_self
  obj := fun i h st b hb => by
    rw [List.mem_singleton] at hb
    subst hb
    obtain ⟨oi, e1, _, e2⟩ := st
    exact ⟨oi, e1, fun v z => Data.noConfusion (e2.symm.trans z)⟩
  keep := fun i h h' ⟨oi, e1, e2, e3⟩ k => ⟨oi, k it List.mem_cons_self oi e1, e2, e3⟩
  item := by
    intro X hP hw hK hc i pins s σ H E I hf st hg
    subst hP; subst hw; subst hK
    have hl : vs.length = es.size := by simpa using hv.length
    have hi : i < es.size := by rw [← hl]; exact hg
    have raw : s.heap.DictRaw d es n := ⟨_, I.kIn d _ lk, ⟨rfl, rfl, rfl⟩, rfl⟩
    obtain ⟨f0, f1, _, f3, f4, f5⟩ := hf it List.mem_cons_self
    refine wpAny_pyNext_keys_item_raw st raw hi fun h' st' sb => ?_
    have I' : Inv X pins σ H { s with heap := h', toks := s.toks } := I.turned (fun b ob hb e => (sb.2 b hb).trans e) f0 f1 f3 f4 f5
    obtain ⟨oi, e1, e2, e3⟩ := id st'
    have hx : vs[i]? = some vs[i] := List.getElem?_eq_getElem hg
    obtain ⟨u, hu, ru⟩ := hv.get hx
    have eu : es[i].key = u := by
      rw [List.getElem?_map, Array.getElem?_toList, Array.getElem?_eq_getElem hi] at hu
      exact Option.some.inj hu
    rw [← eu] at ru
    exact ⟨_, rfl, go_of (s := { s with heap := h' }) e1 e2 e3 (by decide) ⟨vs[i], H, I', ru, ⟨rfl, hx⟩, st', fun b hb => (hf b hb).1⟩⟩
  done := by
    intro X hP hw hK hc i pins s σ H E I hf st hg
    subst hP; subst hw; subst hK
    have hl : vs.length = es.size := by simpa using hv.length
    obtain ⟨f0, f1, _, f3, f4, f5⟩ := hf it List.mem_cons_self
    exact next_key_end (I.ok.hd hc) st (I.kIn d _ lk) rfl rfl (by rw [← hl]; exact hg) fun h' eb => ⟨rfl, I.turned (t' := s.toks) (fun b ob hb e => eb b ob hb e) f0 f1 f3 f4 f5⟩
  self := fun A i s Q E st h => wpAny_pyIter_keyiter st h
/-- the walk over the table's keys -/
def iConst (xs : List D) : FI := fun _ S R => R Always xs S
section
variable {X : Cx}
theorem wk_const {K : KW} {m : List Addr} {H : Hp} {ks : List Str} (few : ks.length ≤ sizeLine) : Wk K (ItC (ks.map V.str)) Always (ks.map D.str) m H := by
  refine ⟨by rw [List.length_map]; exact few, fun i m1 S1 H1 d g s1 _ hd => ?_, fun i m1 S1 H1 g s1 _ hi => ?_⟩
  · rw [List.getElem?_map] at hd
    have hi : i < ks.length := by
      cases e : ks[i]? with
      | none => rw [e] at hd; cases hd
      | some q => exact (List.getElem?_eq_some_iff.mp e).1
    rw [List.getElem?_eq_getElem hi] at hd
    cases hd
    refine ⟨by show i < (ks.map V.str).length; rw [List.length_map]; exact hi, fun x H2 ⟨e1, e2⟩ => ?_⟩
    subst e1
    rw [List.getElem?_map, List.getElem?_eq_getElem hi] at e2
    cases e2
    exact ⟨.refl _ _, s1, .str _⟩
  · show (ks.map V.str).length ≤ i
    rw [List.length_map] at hi ⊢
    exact hi
theorem ri_kd {tg : Expr} {x : Str} {pos : Pos} {d : Addr} {tab : List (Str × Str)} (T : KTab X.K X.w d tab) (hm : X.mg x = some (.ref d)) (hg : Gl X x := by rfl) (few : (tab.map (·.1)).length ≤ sizeLine := by decide) (hd : (x == ("__debug__" : Str)) = false := by decide) :
    RI X tg (.Name x pos) (iConst ((tab.map (·.1)).map D.str)) := by
  refine ⟨fun pins s σ H R I q => ?_⟩
  obtain ⟨es, n, kd⟩ := He.dicW_ok T.ks
  have hv : Vals ((tab.map (·.1)).map V.str) (es.toList.map (·.key)) := by
    refine keys_vals (P := X.w.params) ?_
    have := T.ks
    unfold He.dicW at this
    rw [kd.at_] at this
    dsimp only at this
    split at this
    · exact Option.some.inj this
    · cases this
  refine thn ((pe_glob (v := .ref d) (u := .ref d) hg hm rfl hd).run pins s σ H (fun v H1 => v = .ref d ∧ H1 = H) I ⟨rfl, rfl⟩) fun u s1 ⟨v, H1, I1, rv, ev, e1⟩ => ?_
  subst ev; subst e1
  cases rv
  obtain ⟨m, σd, S, P, s0, r, p, w⟩ := q
  have raw : s1.heap.DictRaw d es n := ⟨_, I1.kIn d _ kd.at_, ⟨rfl, rfl, rfl⟩, rfl⟩
  refine wpAny_pyIter_dict_raw kd.low raw (pi_one (tk := s1.toks) I1 _ (turn_kd kd.at_ hv) ⟨_, Heap.get?_push_size _ rfl, rfl, rfl⟩ ?_)
  exact w _ _ _ _ _ _ p (.refl _ _) s0 (wk_const few)
/-- table[e] -/
def eKix (tab : List (Str × Str)) (f : FE) : FE := fun σ S Q => f σ S fun k S1 => ∃ a b, k = .str a ∧ tab.lookup a = some b ∧ Q (.str b) S1
theorem ix_kd {d : Addr} {tab : List (Str × Str)} (T : KTab X.K X.w d tab) : IxR X fun x y H Q => ∃ a b, x = .ref d ∧ y = .str a ∧ tab.lookup a = some b ∧ Q (.str b) H := by
  intro value slice pins s σ H x y v u Q I rx ry h hs
  obtain ⟨a, b, rfl, rfl, e, q⟩ := h
  obtain ⟨es, n, kd⟩ := He.dicW_ok T.ks
  obtain ⟨t, et⟩ := T.vs a b e
  have fin := op_item_kd kd pins s σ H (.ref d) (.str a) v u (fun v H' => v = .str b ∧ Q (.str b) H') I rx ry ⟨a, _, .str b, rfl, rfl, et, ⟨t, rfl⟩, rfl, q⟩
  cases rx
  exact tail_any (kd_type kd I) PySem.slot_dict_getitem.lookup (wpAny_mono fin (fun _ _ ⟨v, H', I', r', ev, q'⟩ => ⟨v, H', I', r', by rw [ev]; exact q'⟩) fun _ _ z => z) hs
theorem re_kix {x : Str} {e : Expr} {p1 pos : Pos} {d : Addr} {tab : List (Str × Str)} {f : FE} (T : KTab X.K X.w d tab) (hm : X.mg x = some (.ref d)) (he : RE X e f) (hg : Gl X x := by rfl) (hd : (x == ("__debug__" : Str)) = false := by decide) (hs : PlainIx e := by intro _ _; rfl) :
    RE X (.Subscript (.Name x p1) e pos) (eKix tab f) := by
  refine pe_w (pe_ix (ix_kd T) (pe_glob (v := .ref d) (u := .ref d) hg hm rfl hd) he hs) fun σ H Q q => ?_
  obtain ⟨m, σd, S, P, s, r, p, w⟩ := q
  refine ⟨m, σd, S, _, s, r, p, fun k S1 m1 v H1 ⟨a, b, e1, e2, p1⟩ g1 s1 r1 => ?_⟩
  subst e1
  cases r1
  exact ⟨a, b, rfl, rfl, e2, w _ _ _ _ _ p1 g1 s1 (.str b)⟩
/-! ### tuples and numbers of the top -/
theorem re_gint {x : Str} {pos : Pos} {i : Int} {t : Tok} (hm : X.mg x = some (.int i t)) (hg : Gl X x := by rfl) (hd : (x == ("__debug__" : Str)) = false := by decide) : RE X (.Name x pos) (eC (.int i)) := by
  refine pe_w (pe_glob (v := .int i) hg hm ⟨t, rfl⟩ hd) fun σ H Q q => ?_
  obtain ⟨m, σd, S, P, s, r, p, w⟩ := q
  exact w _ _ _ _ _ p (.refl _ _) s (.int i)
structure KTup (K : PySem.W.Frag) (d : Addr) (ks : List Str) : Prop where
  ex : ∃ (o : Obj) (its : Array Value) (n : Nat), K.lookup d = some o ∧ o.cls = .type "tuple" ∧ o.data = .seq its n ∧ Vals (ks.map V.str) its.toList
theorem RDs.strs {K : KW} {m : List Addr} {H : Hp} : ∀ ks : List Str, RDs K m H (ks.map D.str) (ks.map V.str)
  | [] => .nil
  | k :: ks => .cons (.str k) (RDs.strs ks)
theorem re_gtup {x : Str} {pos : Pos} {d : Addr} {ks : List Str} (T : KTup X.K d ks) (hm : X.mg x = some (.ref d)) (hg : Gl X x := by rfl) (few : ks.length ≤ sizeLine := by decide) (hd : (x == ("__debug__" : Str)) = false := by decide) : RE X (.Name x pos) (eC (.tup (ks.map D.str))) := by
  obtain ⟨o, its, n, h1, h2, h3, h4⟩ := T.ex
  have hl : ks.length = its.size := by simpa using h4.length
  refine pe_w (pe_glob (v := .ref d) (u := .ref d) hg hm rfl hd) fun σ H Q q => ?_
  obtain ⟨m, σd, S, P, s, r, p, w⟩ := q
  exact w _ _ _ _ _ p (.refl _ _) s (.tup (.inr ⟨o, its, n, h1, h2, h3, by rw [← hl]; exact few, h4⟩) (by rw [List.length_map]; exact few) (RDs.strs ks))
theorem re_neg {e : Expr} {pos : Pos} {i : Int} (he : RE X e (eC (.int i))) : RE X (.UnaryOp .USub e pos) (eC (.int (-i))) := by
  refine pe_w (pe_un un_neg he) fun σ H Q q => ?_
  obtain ⟨m, σd, S, P, s, r, p, w⟩ := q
  have z : eC (.int i) σd S fun d S' => d = .int i ∧ S' = S := ⟨rfl, rfl⟩
  refine ⟨m, σd, S, _, s, r, z, fun d S1 m1 v H1 ⟨e1, e2⟩ g1 s1 r1 => ?_⟩
  subst e1; subst e2
  cases r1
  exact ⟨i, rfl, w _ _ _ _ _ p g1 s1 (.int (-i))⟩
end
end SD
/-! SDm: get, slices turned round, a list unpacked, in a list of plain data. -/
namespace SD
open PySem PySem.Spec PyProof.Rows L2
section
variable {X : Cx}
/-! ### d.get(k, z) -/
def eGet2 (fo fk fz : FE) : FE := fun σ S Q => fo σ S fun x S1 => (∃ kvs, dictD S1 x = some kvs) ∧ fk σ S1 fun k S2 => fz σ S2 fun z S3 => ∃ kvs, dictD S3 x = some kvs ∧ (toKey k).isSome = true ∧ Q ((valD kvs k).getD z) S3
theorem dict_rd {K : KW} {m : List Addr} {H : Hp} {S : Store} {x : D} {v : V} {kvs : List (D × D)} (s : Sim K m S H) (r : RD K m H x v) (h : dictD S x = some kvs) : ∃ p kw, v = .ref p ∧ Rd H p (.dK kw) ∧ RKV K m H kvs kw := by
  cases r with
  | @ref n p a =>
    have h : dicC S[n]? = some kvs := h
    rcases dicC_or h with e | e
    · have rc := s.cell n p _ a e
      generalize eo : H p = o at rc
      cases rc with
      | @dct _ kw z b => exact ⟨p, kw, rfl, .inl eo, b⟩
    · have rc := s.cell n p _ a e
      generalize eo : H p = o at rc
      cases rc with
      | @lck _ kw od z b => exact ⟨p, kw, rfl, .inr ⟨od, eo⟩, b⟩
  | _ => cases h
theorem re_get2 {o e f : Expr} {fo fk fz : FE} {apos cpos : Pos} (hu : X.A.units + 1 < cLine) (ho : RE X o fo) (hk : RE X e fk) (hz : RE X f fz) (m : M2 X o "get" apos e f cpos := by exact ⟨rfl, rfl, rfl, rfl⟩) :
    RE X (.Call (.Attribute o "get" apos) [e, f] [] cpos) (eGet2 fo fk fz) := by
  refine pe_w (pe_dget2 hu ho hk hz m) fun σ H Q q => ?_
  obtain ⟨m, σd, S, P, s, r, p, w⟩ := q
  refine ⟨m, σd, S, _, s, r, p, fun x S1 m1 v1 H1 ⟨⟨kvs, e1⟩, p1⟩ g1 s1 r1 => ?_⟩
  obtain ⟨a, kw, rfl, hr, b⟩ := dict_rd s1 r1 e1
  refine ⟨a, rfl, .inl ⟨kw, hr⟩, m1, σd, S1, _, s1, r.up g1, p1, fun k S2 m2 v2 H2 p2 g2 s2 r2 => ?_⟩
  refine ⟨m2, σd, S2, _, s2, r.up (g1.trans g2), p2, fun z S3 m3 v3 H3 ⟨kvs3, e3, hk3, p3⟩ g3 s3 r3 => ?_⟩
  obtain ⟨a', kw3, ea, hr3, b3⟩ := dict_rd s3 (r1.up (g2.trans g3)) e3
  cases ea
  obtain ⟨key, ek⟩ := Option.isSome_iff_exists.mp hk3
  have ek' := toKey_eq ek
  subst ek'
  have rk := (r2.up g3).key
  subst rk
  rcases b3.val key with ⟨d', v, h1, h2, h3⟩ | ⟨h1, h2⟩
  · exact ⟨some v, .inl ⟨kw3, key, hr3, rfl, by rw [h2]⟩, w _ _ _ _ _ p3 (g1.trans (g2.trans g3)) s3 (by rw [h1]; exact h3)⟩
  · exact ⟨none, .inl ⟨kw3, key, hr3, rfl, by rw [h2]⟩, w _ _ _ _ _ p3 (g1.trans (g2.trans g3)) s3 (by rw [h1]; exact r3)⟩
/-! ### xs[::-1], xs[-2::-1] of a list -/
theorem RDs.rev {K : KW} {m : List Addr} {H : Hp} : ∀ {xs : List D} {vs : List V}, RDs K m H xs vs → RDs K m H xs.reverse vs.reverse
  | _, _, .nil => .nil
  | _, _, .cons r t => by rw [List.reverse_cons, List.reverse_cons]; exact (RDs.rev t).append (.cons r .nil)
def eRev (f : FE) : FE := fun σ S Q => f σ S fun d S1 => ∃ n xs, d = .ref n ∧ S1[n]? = some (.lst xs) ∧ Q (.ref S1.length) (S1 ++ [.lst xs.reverse])
theorem re_rev {e : Expr} {f : FE} {k : Nat} {p1 p2 p3 pos : Pos} (he : RE X e f) : RE X (.Subscript e (.Slice none none (some (.UnaryOp .USub (.Constant (.int 1) k p1) p2)) p3) pos) (eRev f) := by
  refine pe_w (pe_revL he) fun σ H Q q => ?_
  obtain ⟨m, σd, S, P, s, r, p, w⟩ := q
  refine ⟨m, σd, S, _, s, r, p, fun d S1 m1 v H1 ⟨n, xs, e1, e2, p1⟩ g1 s1 r1 => ?_⟩
  subst e1
  obtain ⟨a, vs, rfl, ha, hv, b, hz⟩ := lst_at s1 r1 e2
  refine ⟨a, vs, rfl, SqL.of hv, fun a2 h2 => ?_⟩
  obtain ⟨g2, s2, r2⟩ := new_lst s1 h2 b.rev (by rw [List.length_reverse]; exact hz)
  exact w _ _ _ _ _ p1 (g1.trans g2) s2 r2
theorem turn2 (items : Array Value) (h : 1 ≤ items.size) : slicePick items (some (-2)) none (some (-1)) = items.toList.dropLast.reverse.toArray := by
  have hb : sliceBounds (some (-2)) none (some (-1)) items.size = (((items.size - 1 : Nat) : Int) - 1, -1, -1) := by
    unfold sliceBounds
    simp only [Option.getD_some]
    rw [if_neg (by decide), if_pos (by decide)]
    congr 1
    omega
  unfold slicePick
  rw [hb]
  show ((sliceRange (((items.size - 1 : Nat) : Int) - 1) (-1) (-1)).filterMap (items[·]?)).toArray = _
  rw [PySem.W.krv_sliceRange, PySem.W.krv_range, List.filterMap_reverse]
  have hp := PySem.pick_run items 0 (items.size - 1)
  have e0 : (List.range (items.size - 1)).map (0 + ·) = List.range (items.size - 1) := by
    conv => rhs; rw [← List.map_id (List.range (items.size - 1))]
    exact List.map_congr_left fun a _ => Nat.zero_add a
  rw [e0, List.drop_zero] at hp
  rw [hp, List.dropLast_eq_take, Array.length_toList]
def tRev2 (K : PySem.W.Frag) (te : TE) : TE := fun σ H Q => te σ H fun x H1 => ∃ a xs, x = .ref a ∧ SqL K H1 a xs ∧ 1 ≤ xs.length ∧ ∀ p, H1 p = none → Q (.ref p) (upd H1 p (.lst xs.dropLast.reverse))
theorem vals_take {xs : List V} {us : List Value} (r : Vals xs us) (n : Nat) : Vals (xs.take n) (us.take n) := by
  induction r generalizing n with
  | nil => rw [List.take_nil, List.take_nil]; exact .nil
  | cons a t ih =>
    cases n with
    | zero => exact .nil
    | succ n => exact .cons a (ih n)
theorem pe_rev2 {e : Expr} {te : TE} {k k2 : Nat} {p1 p2 p3 p4 p5 pos : Pos} (he : PE X e te) :
    PE X (.Subscript e (.Slice (some (.UnaryOp .USub (.Constant (.int 2) k2 p4) p5)) none (some (.UnaryOp .USub (.Constant (.int 1) k p1) p2)) p3) pos) (tRev2 X.K te) := by
  refine ⟨fun pins s σ H Q I h => ?_⟩
  refine Subscript_ (thn (he.run pins s σ H _ I h) fun v s1 ⟨x, H1, I1, r1, a, xs, ex, hx, hn, q⟩ => ?_)
  subst ex
  cases r1
  have step : PO X (some (.UnaryOp .USub (.Constant (.int 1) k p1) p2)) (tPart (tUn (rU fun i => .int (-i)) (tC (.int 1)))) := po_some (pe_un un_neg pe_int)
  have from_ : PO X (some (.UnaryOp .USub (.Constant (.int 2) k2 p4) p5)) (tPart (tUn (rU fun i => .int (-i)) (tC (.int 2)))) := po_some (pe_un un_neg pe_int)
  refine wpAny_Slice (thn (from_.run pins s1 σ H1 (fun o H2 => o = some (-2) ∧ H2 = H1) I1 ⟨2, rfl, -2, rfl, rfl, rfl⟩) fun vl s2 ⟨l, H2, I2, pl, el, e2⟩ => ?_)
  subst el; subst e2
  refine thn (po_none.run pins s2 σ H2 (fun o H3 => o = none ∧ H3 = H2) I2 ⟨rfl, rfl⟩) fun vu s3 ⟨u, H3, I3, pu, eu, e3⟩ => ?_
  subst eu; subst e3
  refine thn (step.run pins s3 σ H3 (fun o H4 => o = some (-1) ∧ H4 = H3) I3 ⟨1, rfl, -1, rfl, rfl, rfl⟩) fun vs s4 ⟨o, H4, I4, ps, eo, e4⟩ => ?_
  subst eo; subst e4
  have I5 : Inv X pins σ H4 { s4 with heap := s4.heap.push { cls := .type "slice", data := .fields #[vl, vu, vs] }, toks := s4.toks } := I4.kept fun b ob z => Heap.get?_push_of_some _ z
  obtain ⟨its, r, ht, hz⟩ := I5.list hx
  have hlen : xs.length = its.length := r.length
  refine tail_any (ops := [.ref a, .ref s4.heap.objs.size]) ht.isList.typeIs PySem.slot_list_getitem.lookup ?_ (by with_unfolding_all rfl)
  refine wpAny_getItem_list_slice ht.isList (Heap.IsSliceOf.new _ vl vu vs) pl pu ps (by decide) ?_ (by rw [List.size_toArray]; omega)
  rw [turn2 _ (by rw [List.size_toArray]; omega)]
  have hd : xs.dropLast.reverse.length ≤ sizeLine := by rw [List.length_reverse, List.length_dropLast]; omega
  refine ⟨.ref _, _, I5.laid (t' := s4.toks) (o := .lst xs.dropLast.reverse) (fun b ob z => Heap.get?_push_of_some _ z) (Nat.le_refl _) ?_, rfl, q _ (I5.hok.fresh (Nat.le_refl _))⟩
  refine ⟨hd, _, 0, Vals.reverse (xs := xs.dropLast) ?_, Heap.get?_push_size _ rfl⟩
  rw [List.dropLast_eq_take, List.dropLast_eq_take, hlen]
  exact vals_take r _
def eRev2 (f : FE) : FE := fun σ S Q => f σ S fun d S1 => ∃ n xs, d = .ref n ∧ S1[n]? = some (.lst xs) ∧ 1 ≤ xs.length ∧ Q (.ref S1.length) (S1 ++ [.lst xs.dropLast.reverse])
theorem re_rev2 {e : Expr} {f : FE} {k k2 : Nat} {p1 p2 p3 p4 p5 pos : Pos} (he : RE X e f) :
    RE X (.Subscript e (.Slice (some (.UnaryOp .USub (.Constant (.int 2) k2 p4) p5)) none (some (.UnaryOp .USub (.Constant (.int 1) k p1) p2)) p3) pos) (eRev2 f) := by
  refine pe_w (pe_rev2 he) fun σ H Q q => ?_
  obtain ⟨m, σd, S, P, s, r, p, w⟩ := q
  refine ⟨m, σd, S, _, s, r, p, fun d S1 m1 v H1 ⟨n, xs, e1, e2, hn, p1⟩ g1 s1 r1 => ?_⟩
  subst e1
  obtain ⟨a, vs, rfl, ha, hv, b, hz⟩ := lst_at s1 r1 e2
  have bl := b.length
  refine ⟨a, vs, rfl, SqL.of hv, by omega, fun a2 h2 => ?_⟩
  have bd : RDs (kW X) m1 H1 xs.dropLast.reverse vs.dropLast.reverse := by
    rw [List.dropLast_eq_take, List.dropLast_eq_take, bl]
    exact (b.take _).rev
  obtain ⟨g2, s2, r2⟩ := new_lst s1 h2 bd (by rw [List.length_reverse, List.length_dropLast]; omega)
  exact w _ _ _ _ _ p1 (g1.trans g2) s2 r2
/-! ### a, b = a list -/
def gUnD (n : Nat) (g : FGs) : FG := fun d σ S Q => ∃ k xs, d = .ref k ∧ S[k]? = some (.lst xs) ∧ xs.length = n ∧ g xs σ S Q
theorem rg_un {es : List Expr} {k : Nat} {pos : Pos} {g : FGs} {n : Nat} (hc : X.calm = true) (h : RGs X es g) (hn : (assignEach es X.env).length = n := by rfl) (hst : (assignEach es X.env).findIdx? (·.1) = none := by rfl) : RG X (.Tuple es k pos) (gUnD n g) := by
  refine pg_w (pg_unl hc h hn hst) fun v σ H Q q => ?_
  obtain ⟨m, σd, S, d, P, s, r, rd, ⟨j, xs, e1, e2, e3, p⟩, w⟩ := q
  subst e1
  obtain ⟨a, vs, rfl, ha, hv, b, hz⟩ := lst_at s rd e2
  exact ⟨a, vs, rfl, SqL.of hv, by rw [← b.length]; exact e3, m, σd, S, xs, P, s, r, b, p, w⟩
/-! ### x in xs, plain data -/
def inPF : F2 := fun x y S Q => ∃ n xs, y = .ref n ∧ S[n]? = some (.lst xs) ∧ plainD x = true ∧ plainDs xs = true ∧ Q (.bl (decide (x ∈ xs))) S
theorem any_mem {x : D} (hx : okD x = true) : ∀ xs : List D, okDs xs = true → ((toPys xs).any fun z => PyData.eqv z (toPy x)) = decide (x ∈ xs)
  | [], _ => rfl
  | y :: ys, h => by
    have hy := Bool.and_eq_true_iff.mp (show (okD y && okDs ys) = true from h)
    show (PyData.eqv (toPy y) (toPy x) || (toPys ys).any fun z => PyData.eqv z (toPy x)) = _
    rw [eqv_toPy y x hy.1 hx, any_mem hx ys hy.2, Bool.eq_iff_iff]
    simp only [Bool.or_eq_true, decide_eq_true_eq, List.mem_cons]
    exact ⟨fun q => q.imp Eq.symm id, fun q => q.imp Eq.symm id⟩
theorem od_inP (hu : X.A.units + 65 < cLine) : OpD X (compareOp .In) inPF := by
  refine ⟨_, op_inD hu, fun m S H x y v u P Q s rx ry h w => ?_⟩
  obtain ⟨n, xs, rfl, e, hx, hxs, p⟩ := h
  obtain ⟨a, vs, rfl, ha, hv, b, hz⟩ := lst_at s ry e
  have ox : okD x = true := (Bool.and_eq_true_iff.mp hx).1
  have oy : okDs xs = true := (Bool.and_eq_true_iff.mp hxs).1
  refine ⟨toPy x, toPys xs, dp_of x v ox rx, .lst (SqL.of hv) (dps_of xs vs oy b), shaped_of hx, ?_, ?_⟩
  · unfold SeqAt.shaped
    rw [PyData.canLay0, canLay_toPys xs oy]
    simpa using (Bool.and_eq_true_iff.mp hxs).2
  · rw [any_mem ox xs oy]
    exact w _ _ _ _ _ p (.refl _ _) s (.bl _)
/-! ### x = a dict comprehension -/
theorem sw_dc {kx vx : Expr} {gs : List Comprehension} {scope : Scope} {pos py : Pos} {y : Str} {l : Nat} {env : Env} (h1 : env.scope.kind = .function) (h2 : env.scope.names.lookup y = some .local) (h3 : (py.line == pos.line) = true)
    (h4 : (scope.names.any fun (n, k) => n == y && (k == .local || k == .cell)) = false) : swapsWith (.DictComp kx vx gs scope pos) (some (.Name y py)) l env = pure true := by
  have e1 : env.kindOf y = some .local := h2
  have e2 : env.blockKind = .function := by
    unfold Env.blockKind
    rw [h1]; rfl
  unfold swapsWith
  simp only [e2, e1, h4, Expr.pos, h3]; rfl
theorem rs_setDc {i : Nat} {y : Str} {py : Pos} {kx vx tg iter : Expr} {ifs : List Expr} {scope : Scope} {own : List (Str × Nat)} {pos spos : Pos} {f : FI} {g : TG} {gd : FG} {t : FT} {fk fv : FE} (hc : X.calm = true) (hN : X.N.Nodup) (hi : RI X tg iter f) (ok : BlkOk X.N X.env.scope scope own) (hgd : PGD (kW X) (own.map (·.2)) g gd)
    (hg : ∀ (s : Shared) (H : Hp) (C : Addr) (cl : List (Str × Addr)) (fp : List Addr), PG (X.blk s H scope (compEnvC scope cl C X.env) fp) tg g) (ht : ∀ (s : Shared) (H : Hp) (C : Addr) (cl : List (Str × Addr)) (fp : List Addr), RTs (X.blk s H scope (compEnvC scope cl C X.env) fp) ifs t)
    (hk : ∀ (s : Shared) (H : Hp) (C : Addr) (cl : List (Str × Addr)) (fp : List Addr), RE (X.blk s H scope (compEnvC scope cl C X.env) fp) kx fk)
    (he : ∀ (s : Shared) (H : Hp) (C : Addr) (cl : List (Str × Addr)) (fp : List Addr), RE (X.blk s H scope (compEnvC scope cl C X.env) fp) vx fv)
    (hsw : swapsWith (.DictComp kx vx [⟨tg, iter, ifs, 0⟩] scope pos) (some (.Name y py)) spos.line X.env = pure true) (hy : X.N[i]? = some y := by rfl) (hyl : X.env.scope.names.lookup y = some .local := by rfl) (hs : ∀ x, foldedSetIterable iter X.env x = pure x := by intro _; rfl) :
    RS X (.Assign [.Name y py] (.DictComp kx vx [⟨tg, iter, ifs, 0⟩] scope pos) spos) (sAsg (eDc f gd t fk fv (own.map (·.2))) (gNm i)) := by
  refine ⟨fun pins s σ H D I q => ?_⟩
  obtain ⟨m, σd, S, E, s0, r0, p0, w0⟩ := q
  have q : tDc (tOfI (kW X) f) g (tOfT (kW X) t) (tOf (kW X) fk) (tOf (kW X) fv) (own.map (·.2)) σ H (fun x H1 => gName i x σ H1 D.nx) :=
    tOf_dc hgd ⟨m, σd, S, _, s0, r0, p0, fun d S1 m1 v H1 p1 g1 s1 r1 => w0.nx _ _ _ _ _ p1 g1 s1 ((r0.up g1).set r1 i)⟩
  rw [exec_Assign_Name_used _ _ _ _ hsw]
  refine wpAny_bind (wpAny_standAt (wpAny_bind ?_))
  show wpAny _ X.A (do
    let _ ← comprehension (.DictComp kx vx [⟨tg, iter, ifs, 0⟩] scope pos) scope X.env (firstIterPos [⟨tg, iter, ifs, 0⟩] pos) newDict false (eval iter X.env) (some (assign (.Name y py) X.env))) _ _ s
  refine wpAny_bind (thn (dc_core (Qf := fun _ s1 => SP X pins D .next s1) hc hN I hi ok hg ht hk he hs q fun L C s1 m1 H1 I1 q1 hn ⟨f0, f1, f2, f3, f4, f5⟩ => ?_) fun _ s2 z => wpAny_pure (wpAny_pure z))
  show wpAny _ _ (assign (.Name y py) X.env (.ref L)) _ _ _
  refine wpAny_assign_Name (store_ok2 (v := V.ref L) I1 hN hy (.inl hyl) rfl (fun s2 I2 ⟨a, sb, ha⟩ => ?_) (.inr hyl))
  have off : C ≠ a := by
    rcases ha with z | z
    · subst z; exact f1
    · exact fun e => f4 y a z e.symm
  exact ⟨m1, hn.sameBut sb off, fun h3 sb3 => ⟨_, H1, I2.turned (t' := s2.toks) (fun b o hb e => (sb3.2 b hb).trans e) f0 f1 f3 f4 f5, q1⟩⟩
/-! ### the same by what is told of the top -/
theorem re_gintE {x : Str} {pos : Pos} {i : Int} (h : ∃ t, X.mg x = some (.int i t)) (hg : Gl X x := by rfl) (hd : (x == ("__debug__" : Str)) = false := by decide) : RE X (.Name x pos) (eC (.int i)) := by
  obtain ⟨t, h⟩ := h
  exact re_gint h hg hd
theorem re_gtupE {x : Str} {pos : Pos} {ks : List Str} (h : ∃ d, X.mg x = some (.ref d) ∧ KTup X.K d ks) (hg : Gl X x := by rfl) (few : ks.length ≤ sizeLine := by decide) (hd : (x == ("__debug__" : Str)) = false := by decide) : RE X (.Name x pos) (eC (.tup (ks.map D.str))) := by
  obtain ⟨d, h1, h2⟩ := h
  exact re_gtup h2 h1 hg few hd
theorem re_kixE {x : Str} {e : Expr} {p1 pos : Pos} {tab : List (Str × Str)} {f : FE} (h : ∃ d, X.mg x = some (.ref d) ∧ KTab X.K X.w d tab) (he : RE X e f) (hg : Gl X x := by rfl) (hd : (x == ("__debug__" : Str)) = false := by decide) (hs : PlainIx e := by intro _ _; rfl) :
    RE X (.Subscript (.Name x p1) e pos) (eKix tab f) := by
  obtain ⟨d, h1, h2⟩ := h
  exact re_kix h2 h1 he hg hd hs
theorem ri_kdE {tg : Expr} {x : Str} {pos : Pos} {tab : List (Str × Str)} (h : ∃ d, X.mg x = some (.ref d) ∧ KTab X.K X.w d tab) (hg : Gl X x := by rfl) (few : (tab.map (·.1)).length ≤ sizeLine := by decide) (hd : (x == ("__debug__" : Str)) = false := by decide) :
    RI X tg (.Name x pos) (iConst ((tab.map (·.1)).map D.str)) := by
  obtain ⟨d, h1, h2⟩ := h
  exact ri_kd h2 h1 hg few hd
theorem hu65 {k : Nat} {A : Around} (r : Room k A) : A.units + 65 < cLine := by have := r.un; omega
end
end SD
/-! PG2: more meanings shared by the laws (printed by gen.py). -/
namespace PG
open PySem L2 SD
def tab_TURNED : List (Str × Str) := [("yes", "no"), ("is", "isnt"), ("both", "either"), ("some", "all"), ("least", "greatest")]
/-! ### parts_of -/
def b_parts_of  : FS :=
  (sSeq (sIf (tVal (eOp (inF false) (eOp ixF (eVar 0) (eC (.int 0))) (eTup (aCons (eC (.str "both")) (aCons (eC (.str "either")) aNil))))) (sRet (eSl (eVar 0) (oSome (eC (.int 1))) oNo)) sNext)
  (sRet (eSl (eVar 0) (oSome (eC (.int 2))) oNo)))
def F_parts_of : FnD := fnD 1 1 (b_parts_of )
/-! ### all_parts -/
def b_all_parts (G_parts_of : FnD) : FS :=
  (sSeq (sAsg (eLst aNil) (gNm 1))
  (sSeq (sAsg (eLst (aCons (eVar 0) aNil)) (gNm 2))
  (sSeq (sWhile (tVal (eOp (intF fun i j => .bl (decide (j < i))) (eCB lenF (aCons (eVar 2) aNil)) (eC (.int 0)))) (sSeq (sAsg (eMt "list" popF (eVar 2) aNil) (gNm 3))
  (sSeq (sDrop (eMt "list" appF (eVar 1) (aCons (eVar 3) aNil)))
  (sDrop (eMt "list" extF (eVar 2) (aCons (eRev (eCB listF (aCons (eCall G_parts_of (aCons (eVar 3) aNil)) aNil))) aNil))))))
  (sRet (eVar 1)))))
def F_all_parts : FnD := fnD 1 4 (b_all_parts F_parts_of)
/-! ### with_parts -/
def b_with_parts  : FS :=
  (sSeq (sIf (tVal (eOp (inF false) (eOp ixF (eVar 0) (eC (.int 0))) (eTup (aCons (eC (.str "both")) (aCons (eC (.str "either")) aNil))))) (sRet (eOp addF (eTup (aCons (eOp ixF (eVar 0) (eC (.int 0))) aNil)) (eCB tupleF (aCons (eVar 1) aNil)))) sNext)
  (sRet (eOp addF (eSl (eVar 0) oNo (oSome (eC (.int 2)))) (eCB tupleF (aCons (eVar 1) aNil)))))
def F_with_parts : FnD := fnD 2 2 (b_with_parts )
/-! ### against -/
def b_against (G_with_parts : FnD) (G_parts_of : FnD) (G_against : FnD) : FS :=
  (sSeq (sAsg (eDc (iConst [.str "yes", .str "is", .str "both", .str "some", .str "least"]) (gNm 2) tYesD (eKix tab_TURNED (eVar 2)) (eVar 2) [2]) (gNm 1))
  (sSeq (sFor (iConst [.str "yes", .str "is", .str "both", .str "some", .str "least"]) (gNm 2) (sAsg (eKix tab_TURNED (eVar 2)) (gSubD (eVar 1) (eVar 2))))
  (sSeq (sAsg (eCall G_with_parts (aCons (eVar 0) (aCons (eLc (iSeqD (eCall G_parts_of (aCons (eVar 0) aNil))) (gNm 4) tYesD (eCall G_against (aCons (eVar 4) aNil)) [4]) aNil))) (gNm 3))
  (sRet (eOp addF (eTup (aCons (eGet2 (eVar 1) (eOp ixF (eVar 0) (eC (.int 0))) (eOp ixF (eVar 0) (eC (.int 0)))) aNil)) (eSl (eVar 3) (oSome (eC (.int 1))) oNo))))))
def F_against : Nat → FnD
  | 0 => fun _ _ _ => False
  | k + 1 => fnD 1 5 (b_against F_with_parts F_parts_of (F_against k))
/-! ### with_name -/
def b_with_name  : FS :=
  (sSeq (sAsg (eCB dictF (aCons (eVar 0) aNil)) (gNm 3))
  (sSeq (sAsg (eVar 2) (gSubD (eVar 3) (eVar 1)))
  (sRet (eVar 3))))
def F_with_name : FnD := fnD 3 4 (b_with_name )
/-! ### joined -/
def b_joined  : FS :=
  (sSeq (sIf (tVal (eOp (eqF false) (eCB lenF (aCons (eVar 1) aNil)) (eC (.int 0)))) (sRet (eVar 2)) sNext)
  (sSeq (sAsg (eOp ixF (eVar 1) (eC (.int (-1)))) (gNm 3))
  (sSeq (sFor (iSeqD (eRev2 (eVar 1))) (gNm 4) (sAsg (eTup (aCons (eVar 0) (aCons (eVar 4) (aCons (eVar 3) aNil)))) (gNm 3)))
  (sRet (eVar 3)))))
def F_joined : FnD := fnD 3 5 (b_joined )
/-! ### _law_drawn -/
def b__law_drawn (G__law_saying : FnD) (G__law_draw : FnD) : FS :=
  (sSeq (sAsg (eCall G__law_draw (aCons (eVar 0) (aCons (eC (.int 4)) aNil))) (gNm 3))
  (sSeq (sIf (tVal (eOp (eqF false) (eVar 3) (eC (.int 0)))) (sSeq (sAsg (eCall G__law_draw (aCons (eVar 0) (aCons (eC (.int 2)) aNil))) (gNm 4))
  (sSeq (sAsg (eCall G__law_saying (aCons (eVar 0) (aCons (eVar 1) (aCons (eOp (intF fun i j => .int (i - j)) (eVar 2) (eC (.int 2))) (aCons (eLst (aCons (eC (.int 0)) (aCons (eC (.int 1)) aNil))) (aCons (eTup (aCons (eC (.int 0)) (aCons (eC (.int 1)) aNil))) (aCons (eTup aNil) aNil))))))) (gNm 5))
  (sSeq (sAsg (eTup (aCons (eC (.str "either")) (aCons (eTup (aCons (eC (.str "both")) (aCons (eVar 5) (aCons (eTup (aCons (eC (.str "some")) (aCons (eCall G__law_draw (aCons (eVar 0) (aCons (eOp ixF (eVar 1) (eC (.int 1))) aNil))) (aCons (eTup (aCons (eC (.str "name")) (aCons (eC (.int 0)) aNil))) aNil)))) aNil)))) (aCons (eTup (aCons (eOp ixF (eTup (aCons (eC (.str "some")) (aCons (eC (.str "all")) aNil))) (eCall G__law_draw (aCons (eVar 0) (aCons (eC (.int 2)) aNil)))) (aCons (eC (.int 0)) (aCons (eTup (aCons (eC (.str "name")) (aCons (eC (.int 1)) aNil))) aNil)))) aNil)))) (gNm 6))
  (sRet (eTup (aCons (eOp ixF (eTup (aCons (eC (.str "greatest")) (aCons (eC (.str "least")) aNil))) (eVar 4)) (aCons (eC (.int 0)) (aCons (eTup (aCons (eOp ixF (eTup (aCons (eC (.str "least")) (aCons (eC (.str "greatest")) aNil))) (eVar 4)) (aCons (eC (.int 1)) (aCons (eVar 6) aNil)))) aNil)))))))) sNext)
  (sSeq (sIf (tVal (eOp (eqF false) (eVar 3) (eC (.int 1)))) (sRet (eTup (aCons (eOp ixF (eTup (aCons (eC (.str "least")) (aCons (eC (.str "greatest")) aNil))) (eCall G__law_draw (aCons (eVar 0) (aCons (eC (.int 2)) aNil)))) (aCons (eC (.int 0)) (aCons (eCall G__law_saying (aCons (eVar 0) (aCons (eVar 1) (aCons (eVar 2) (aCons (eLst (aCons (eC (.int 0)) aNil)) (aCons (eTup (aCons (eC (.int 0)) aNil)) (aCons (eTup aNil) aNil))))))) aNil))))) sNext)
  (sRet (eCall G__law_saying (aCons (eVar 0) (aCons (eVar 1) (aCons (eOp addF (eVar 2) (eC (.int 1))) (aCons (eLst aNil) (aCons (eTup aNil) (aCons (eTup aNil) aNil)))))))))))
def F__law_drawn : FnD := fnD 3 7 (b__law_drawn (F__law_saying 8) F__law_draw)
end PG
/-! SDq: steps for SDm's meanings. -/
namespace SD
open PySem L2
section
variable {σ : Slots} {S : Store} {Q : PD} {QO : Option Int → Store → Prop}
theorem r_sl {f : FE} {l h : FO} (q : f σ S fun d S1 => l σ S1 fun lo S2 => h σ S2 fun hi S3 => slF d lo hi S3 Q) : eSl f l h σ S Q := q
theorem r_oNo (q : QO none S) : oNo σ S QO := q
theorem r_oSome {f : FE} (q : f σ S fun d S1 => ∃ i, d = .int i ∧ QO (some i) S1) : oSome f σ S QO := q
theorem r_oInt {i : Int} {P : Int → Prop} (q : P i) : ∃ j, D.int i = .int j ∧ P j := ⟨i, rfl, q⟩
theorem r_slT {xs ys : List D} {lo hi : Option Int} (e : cutD xs lo hi = ys) (q : Q (.tup ys) S) : slF (.tup xs) lo hi S Q := .inl ⟨xs, rfl, by rw [e]; exact q⟩
theorem r_slL {n : Nat} {xs ys : List D} {lo hi : Option Int} (a : S[n]? = some (.lst xs)) (e : cutD xs lo hi = ys) (q : Q (.ref S.length) (S ++ [.lst ys])) : slF (.ref n) lo hi S Q := .inr (.inr ⟨n, xs, rfl, a, by rw [e]; exact q⟩)
theorem r_iConst {xs : List D} {QI : (Store → Prop) → List D → Store → Prop} (q : QI Always xs S) : iConst xs σ S QI := q
theorem r_rev {f : FE} (q : f σ S fun d S1 => ∃ n xs, d = .ref n ∧ S1[n]? = some (.lst xs) ∧ Q (.ref S1.length) (S1 ++ [.lst xs.reverse])) : eRev f σ S Q := q
theorem r_rev2 {f : FE} (q : f σ S fun d S1 => ∃ n xs, d = .ref n ∧ S1[n]? = some (.lst xs) ∧ 1 ≤ xs.length ∧ Q (.ref S1.length) (S1 ++ [.lst xs.dropLast.reverse])) : eRev2 f σ S Q := q
theorem r_get2 {fo fk fz : FE} (q : fo σ S fun x S1 => (∃ kvs, dictD S1 x = some kvs) ∧ fk σ S1 fun k S2 => fz σ S2 fun z S3 => ∃ kvs, dictD S3 x = some kvs ∧ (toKey k).isSome = true ∧ Q ((valD kvs k).getD z) S3) : eGet2 fo fk fz σ S Q := q
theorem r_kix {tab : List (Str × Str)} {f : FE} (q : f σ S fun k S1 => ∃ a b, k = .str a ∧ tab.lookup a = some b ∧ Q (.str b) S1) : eKix tab f σ S Q := q
theorem r_eNotN {f : FE} (q : f σ S fun d S1 => Q (.bl (!decide (d = .non))) S1) : eNotN f σ S Q := q
end
/-- [e for g in gs], each g by itself -/
theorem lc_each {α : Type} {ok : Store → Prop} {e : FE} {i : Nat} {Q : Store → Prop} {σ : Slots} {S : Store} (gs : List α) (enc out : α → D) (few : gs.length ≤ sizeLine) (hok : ∀ S1, Ext S S1 → ok S1)
    (he : ∀ g ∈ gs, ∀ S1 (P : PD), Ext S S1 → (∀ S2, Ext S1 S2 → P (out g) S2) → e (σ.set i (some (enc g))) S1 P)
    (hQ : ∀ S1, Ext S S1 → S1[S.length]? = some (.lst (gs.map out)) → Q S1) : lcD ok (gNm i) tYesD e S.length Q σ (gs.map enc) (S ++ [.lst []]) := by
  refine lc_inv (fun k acc S1 => Ext S S1 ∧ acc = (gs.take k).map out) (by rw [List.length_map]; exact few) (new_at S _) ⟨Ext.app S _, rfl⟩ ?_ ?_
  · rintro k x acc S1 R hx h1 hl ⟨e1, rfl⟩ hR
    rw [List.getElem?_map] at hx
    cases hg : gs[k]? with
    | none => rw [hg] at hx; cases hx
    | some g =>
      rw [hg] at hx
      cases hx
      have hk : k < gs.length := (List.getElem?_eq_some_iff.mp hg).1
      refine ⟨hok S1 e1, r_nm (r_yes (r_ifT rfl (he g (List.mem_of_getElem? hg) S1 _ e1 fun S2 e2 => ⟨_, e2 _ _ h1, by omega, ?_⟩)))⟩
      refine hR _ _ (set_at (e2 _ _ h1)) (by rw [List.length_append]; exact Nat.succ_le_succ hl) ⟨(e1.trans e2).put (Nat.le_refl _), ?_⟩
      rw [List.take_add_one, hg]
      simp
  · rintro acc S1 h1 hl ⟨e1, rfl⟩
    rw [List.length_map, List.take_length] at h1
    exact ⟨hok S1 e1, hQ S1 e1 h1⟩
end SD
local macro_rules | `(tactic| walk_at "s") => `(tactic| (repeat with_reducible first | refine SD.r_seq ?_ | refine SD.r_asg ?_ | refine SD.r_nm ?_ | refine SD.r_var (by with_unfolding_all rfl) ?_ | refine SD.r_c ?_ | refine SD.r_aCons ?_ | refine SD.r_aNil ?_ | refine SD.r_op ?_ | refine SD.r_call ?_ | refine SD.r_val ?_ | refine SD.r_bl ?_ | refine SD.r_if ?_ | refine SD.r_ret ?_ | refine SD.r_next ?_ | refine SD.r_ifT (by first | decide | (with_unfolding_all rfl)) ?_ | refine SD.r_ifF (by first | decide | (with_unfolding_all rfl)) ?_ | refine SD.r_tup ?_ | refine SD.r_lst ?_ | refine SD.r_le (Nat.le_of_ble_eq_true (by with_unfolding_all rfl)) ?_ | refine SD.r_cb ?_ | refine SD.r_and ?_ | refine SD.r_or ?_ | refine SD.r_not ?_ | refine SD.r_eIf ?_ | refine SD.r_eAnd ?_ | refine SD.r_eOr ?_ | refine SD.r_eNot ?_ | refine SD.r_isN ?_ | refine SD.r_mt ?_ | refine SD.r_iConst ?_ | refine SD.r_sl ?_ | refine SD.r_oSome ?_ | refine SD.r_oInt ?_ | refine SD.r_oNo ?_ | refine SD.r_rev ?_ | refine SD.r_rev2 ?_ | refine SD.r_get2 ?_ | refine SD.r_kix ?_ | refine SD.r_eNotN ?_ | refine SD.r_tr ?_ | refine SD.r_ss ?_ | refine SD.r_dict0 ?_ | refine SD.r_yes ?_ | refine SD.r_isi ?_ | refine SD.r_ty (by with_unfolding_all rfl) ?_ | refine SD.r_ixT (by with_unfolding_all rfl) ?_ | refine SD.r_ixE (by with_unfolding_all rfl) (by with_unfolding_all rfl) ?_ | refine SD.r_ixL (by assumption) (by with_unfolding_all rfl) ?_ | refine SD.r_addI ?_ | refine SD.r_intF ?_ | refine SD.r_intCF (by first | decide | exact SD.cmul_r (by decide) | exact SD.cmul_l (by decide)) ?_ | refine SD.r_eqI ?_ | refine SD.r_neI ?_ | refine SD.r_eqS ?_ | refine SD.r_neS ?_ | refine SD.r_eqB ?_ | refine SD.r_neB ?_ | refine SD.r_int ?_ | refine SD.r_drop ?_ | refine SD.r_sub ?_ | refine SD.r_gTp (by with_unfolding_all rfl) ?_ | refine SD.r_gsCons ?_ | refine SD.r_gsNil ?_ | refine SD.r_for ?_ | refine SD.r_lc ?_ | refine SD.r_dc ?_ | refine SD.r_iRg1 ?_ | refine SD.r_inT (by with_unfolding_all rfl) (by with_unfolding_all rfl) ?_))
local macro_rules | `(tactic| walk_at "n") => `(tactic| (repeat with_reducible first | refine SD.r_asg ?_ | refine SD.r_nm ?_ | refine SD.r_var (by with_unfolding_all rfl) ?_ | refine SD.r_c ?_ | refine SD.r_aCons ?_ | refine SD.r_aNil ?_ | refine SD.r_op ?_ | refine SD.r_call ?_ | refine SD.r_val ?_ | refine SD.r_bl ?_ | refine SD.r_if ?_ | refine SD.r_ret ?_ | refine SD.r_next ?_ | refine SD.r_ifT (by first | decide | (with_unfolding_all rfl)) ?_ | refine SD.r_ifF (by first | decide | (with_unfolding_all rfl)) ?_ | refine SD.r_tup ?_ | refine SD.r_lst ?_ | refine SD.r_le (Nat.le_of_ble_eq_true (by with_unfolding_all rfl)) ?_ | refine SD.r_cb ?_ | refine SD.r_and ?_ | refine SD.r_or ?_ | refine SD.r_not ?_ | refine SD.r_eIf ?_ | refine SD.r_eAnd ?_ | refine SD.r_eOr ?_ | refine SD.r_eNot ?_ | refine SD.r_isN ?_ | refine SD.r_mt ?_ | refine SD.r_iConst ?_ | refine SD.r_sl ?_ | refine SD.r_oSome ?_ | refine SD.r_oInt ?_ | refine SD.r_oNo ?_ | refine SD.r_rev ?_ | refine SD.r_rev2 ?_ | refine SD.r_get2 ?_ | refine SD.r_kix ?_ | refine SD.r_eNotN ?_ | refine SD.r_tr ?_ | refine SD.r_ss ?_ | refine SD.r_dict0 ?_ | refine SD.r_yes ?_ | refine SD.r_isi ?_ | refine SD.r_ty (by with_unfolding_all rfl) ?_ | refine SD.r_ixT (by with_unfolding_all rfl) ?_ | refine SD.r_ixE (by with_unfolding_all rfl) (by with_unfolding_all rfl) ?_ | refine SD.r_ixL (by assumption) (by with_unfolding_all rfl) ?_ | refine SD.r_addI ?_ | refine SD.r_intF ?_ | refine SD.r_intCF (by first | decide | exact SD.cmul_r (by decide) | exact SD.cmul_l (by decide)) ?_ | refine SD.r_eqI ?_ | refine SD.r_neI ?_ | refine SD.r_eqS ?_ | refine SD.r_neS ?_ | refine SD.r_eqB ?_ | refine SD.r_neB ?_ | refine SD.r_int ?_ | refine SD.r_drop ?_ | refine SD.r_sub ?_ | refine SD.r_gTp (by with_unfolding_all rfl) ?_ | refine SD.r_gsCons ?_ | refine SD.r_gsNil ?_ | refine SD.r_for ?_ | refine SD.r_lc ?_ | refine SD.r_dc ?_ | refine SD.r_iRg1 ?_ | refine SD.r_inT (by with_unfolding_all rfl) (by with_unfolding_all rfl) ?_))
/-! SNa: dicts whose keys are tuples: what stands for what, and the bare rules. -/
namespace SD
open PySem PySem.Spec PyProof.Rows L2
/-! ### keys -/
mutual
def toNK : D → Option NestedKey
  | .non => some .none
  | .int i => some (.num i)
  | .str x => some (.text x)
  | .tup xs => (toNKs xs).map .tup
  | _ => none
def toNKs : List D → Option (List NestedKey)
  | [] => some []
  | x :: xs => (toNK x).bind fun k => (toNKs xs).map fun ks => k :: ks
end
mutual
theorem toNK_eq : ∀ (d : D) (k : NestedKey), toNK d = some k → d = keyN k
  | .non, k, h => by cases h; rfl
  | .int i, k, h => by cases h; rfl
  | .str x, k, h => by cases h; rfl
  | .tup xs, k, h => by
    rw [toNK] at h
    obtain ⟨ks, e, rfl⟩ := Option.map_eq_some_iff.mp h
    rw [keyN, toNKs_eq xs ks e]
  | .bl _, k, h => by simp [toNK] at h
  | .frz _, k, h => by simp [toNK] at h
  | .ref _, k, h => by simp [toNK] at h
theorem toNKs_eq : ∀ (ds : List D) (ks : List NestedKey), toNKs ds = some ks → ds = keyNs ks
  | [], ks, h => by cases h; rfl
  | d :: ds, ks, h => by
    rw [toNKs] at h
    obtain ⟨k, e, h⟩ := Option.bind_eq_some_iff.mp h
    obtain ⟨ks', e', rfl⟩ := Option.map_eq_some_iff.mp h
    rw [keyNs, toNK_eq d k e, toNKs_eq ds ks' e']
end
mutual
theorem keyN_inj : ∀ a b : NestedKey, keyN a = keyN b → a = b
  | .none, b, h => by cases b <;> first | rfl | (simp [keyN] at h)
  | .num i, b, h => by cases b <;> simp [keyN] at h; rw [h]
  | .text i, b, h => by cases b <;> simp [keyN] at h; rw [h]
  | .tup xs, b, h => by
    cases b with
    | tup ys =>
      simp only [keyN, D.tup.injEq] at h
      rw [keyNs_inj xs ys h]
    | none => simp [keyN] at h
    | num _ => simp [keyN] at h
    | text _ => simp [keyN] at h
theorem keyNs_inj : ∀ a b : List NestedKey, keyNs a = keyNs b → a = b
  | [], b, h => by cases b <;> first | rfl | (simp [keyNs] at h)
  | x :: xs, b, h => by
    cases b with
    | nil => simp [keyNs] at h
    | cons y ys =>
      simp only [keyNs, List.cons.injEq] at h
      rw [keyN_inj x y h.1, keyNs_inj xs ys h.2]
end
mutual
theorem toNK_keyN : ∀ k : NestedKey, toNK (keyN k) = some k
  | .none => rfl
  | .num _ => rfl
  | .text _ => rfl
  | .tup ks => by rw [keyN, toNK, toNKs_keyNs ks]; rfl
theorem toNKs_keyNs : ∀ ks : List NestedKey, toNKs (keyNs ks) = some ks
  | [] => rfl
  | k :: ks => by rw [keyNs, toNKs, toNK_keyN k, toNKs_keyNs ks]; rfl
end
/-- d may be a key of a dict by tuples -/
def tkD (d : D) : Bool := match d with
  | .tup _ => match toNK d with
    | some k => decide (k.depth ≤ 8)
    | none => false
  | _ => false
theorem tk_of {d : D} (h : tkD d = true) : ∃ k, d = keyN k ∧ k.depth ≤ 8 ∧ ∃ xs, d = .tup xs := by
  unfold tkD at h
  cases d with
  | tup xs =>
    simp only at h
    cases e : toNK (.tup xs) with
    | none => rw [e] at h; cases h
    | some k =>
      rw [e] at h
      exact ⟨k, toNK_eq _ _ e, of_decide_eq_true h, xs, rfl⟩
  | _ => cases h
theorem tk_ref {K : KW} {m : List Addr} {H : Hp} {d : D} {v : V} (r : RD K m H d v) (h : tkD d = true) : ∃ k b, v = .ref b ∧ d = keyN k ∧ k.depth ≤ 8 ∧ RD K m H (keyN k) (.ref b) := by
  obtain ⟨k, e, hd, xs, e2⟩ := tk_of h
  subst e2
  cases r with
  | tup a z b =>
    rename_i p vs
    exact ⟨k, p, rfl, e, hd, e ▸ RD.tup a z b⟩
section
variable {X : Cx} {pins : List (Addr × Obj)} {σ : L2.St} {H : Hp} {s : Shared} {m : List Addr}
mutual
theorem nis (I : Inv X pins σ H s) : ∀ (k : NestedKey) (v : V) (u : Value), RD (kW X) m H (keyN k) v → RelV v u → NestedIs s.heap k u
  | .none, _, _, r, q => by cases r; cases q; exact .none
  | .num i, _, _, r, q => by
    cases r
    obtain ⟨t, rfl⟩ := q
    exact .int i t
  | .text x, _, _, r, q => by
    cases r
    obtain ⟨t, rfl⟩ := q
    exact .text x t
  | .tup ks, _, _, r, q => by
    cases r with
    | tup a z b =>
      cases q
      obtain ⟨its, rv, ⟨o, h1, h2, n, h3⟩, _⟩ := I.tuple a
      exact .tup h1 h2 h3 (by simpa using niss I ks _ its b rv)
theorem niss (I : Inv X pins σ H s) : ∀ (ks : List NestedKey) (vs : List V) (us : List Value), RDs (kW X) m H (keyNs ks) vs → Vals vs us → NestedAll s.heap ks us
  | [], _, _, r, q => by cases r; cases q; exact .nil
  | k :: ks, _, _, r, q => by
    cases r with
    | cons r1 r2 =>
      cases q with
      | cons q1 q2 => exact .cons (nis I k _ _ r1 q1) (niss I ks _ _ r2 q2)
end
end
/-! ### entries -/
abbrev TE3 := NestedKey × Addr × V
def valT (es : List TE3) (k : NestedKey) : Option V := (es.find? fun e => decide (e.1 = k)).map (·.2.2)
def putT (es : List TE3) (k : NestedKey) (b : Addr) (v : V) : List TE3 := if es.any (fun e => decide (e.1 = k)) then es.map (fun e => if e.1 = k then (e.1, e.2.1, v) else e) else es ++ [(k, b, v)]
abbrev PT : List TE3 → List (NestedKey × Addr × Value) → Prop := Paired fun e x => e.1 = x.1 ∧ e.2.1 = x.2.1 ∧ RelV e.2.2 x.2.2
theorem PT.val {es : List TE3} {xs : List (NestedKey × Addr × Value)} (r : PT es xs) (k : NestedKey) : RelO (valT es k) ((atKey xs k).map (·.2)) := by
  induction r with
  | nil => exact True.intro
  | @cons e x es xs h t ih =>
    by_cases q : e.1 = k
    · have q' : x.1 = k := h.1 ▸ q
      have a : valT (e :: es) k = some e.2.2 := by unfold valT; rw [List.find?_cons_of_pos (by simpa using q)]; rfl
      have b : atKey (x :: xs) k = some x.2 := by unfold atKey; rw [List.find?_cons_of_pos (by simpa using q')]; rfl
      rw [a, b]
      exact h.2.2
    · have q' : ¬ x.1 = k := fun z => q (h.1.trans z)
      have a : valT (e :: es) k = valT es k := by unfold valT; rw [List.find?_cons_of_neg (by simpa using q)]
      have b : atKey (x :: xs) k = atKey xs k := by unfold atKey; rw [List.find?_cons_of_neg (by simpa using q')]
      rw [a, b]
      exact ih
theorem valT_any (es : List TE3) (k : NestedKey) : (valT es k).isSome = es.any fun e => decide (e.1 = k) := by
  unfold valT
  rw [Option.isSome_map, Bool.eq_iff_iff, List.find?_isSome, List.any_eq_true]
theorem PT.repl {es : List TE3} {xs : List (NestedKey × Addr × Value)} (r : PT es xs) (k : NestedKey) {v : V} {u : Value} (rv : RelV v u) : PT (es.map fun e => if e.1 = k then (e.1, e.2.1, v) else e) (xs.map (putAt k u)) := by
  induction r with
  | nil => exact .nil
  | @cons e x es xs h t ih =>
    rw [List.map_cons, List.map_cons]
    refine .cons ?_ ih
    unfold putAt
    by_cases q : e.1 = k
    · rw [if_pos q, if_pos (h.1 ▸ q)]; exact ⟨h.1, h.2.1, rv⟩
    · rw [if_neg q, if_neg fun z => q (h.1.trans z)]; exact h
theorem PT.snoc {es : List TE3} {xs : List (NestedKey × Addr × Value)} (r : PT es xs) (k : NestedKey) (b : Addr) {v : V} {u : Value} (rv : RelV v u) : PT (es ++ [(k, b, v)]) (xs ++ [(k, b, u)]) := by
  induction r with
  | nil => exact .cons ⟨rfl, rfl, rv⟩ .nil
  | cons h t ih => exact .cons h ih
theorem PT.put {es : List TE3} {xs : List (NestedKey × Addr × Value)} (r : PT es xs) (k : NestedKey) (b : Addr) {v : V} {u : Value} (rv : RelV v u) : PT (putT es k b v) (storedH xs k b u) := by
  have e : (es.any fun e => decide (e.1 = k)) = (atKey xs k).isSome := by
    rw [← valT_any, (r.val k).isSome_eq, Option.isSome_map]
  unfold putT storedH
  rw [e]
  split
  · exact r.repl k rv
  · exact r.snoc k b rv
theorem length_putT (es : List TE3) (k : NestedKey) (b : Addr) (v : V) : (putT es k b v).length ≤ es.length + 1 := by
  unfold putT; split <;> simp
/-- the tuples that are keys stand -/
def NKs (K : KW) (H : Hp) (es : List TE3) : Prop := ∀ e ∈ es, e.1.depth ≤ 8 ∧ ∃ m, RD K m H (keyN e.1) (.ref e.2.1)
def NK1 (K : KW) (H : Hp) (k : NestedKey) (b : Addr) : Prop := k.depth ≤ 8 ∧ ∃ m, RD K m H (keyN k) (.ref b)
section
variable {X : Cx} {pins : List (Addr × Obj)} {σ : L2.St} {H : Hp} {s : Shared} {p : Addr} {es : List TE3}
theorem NK1.is (I : Inv X pins σ H s) {k : NestedKey} {b : Addr} (h : NK1 (kW X) H k b) : (nestedKind X.prog X.w).is s.heap k b := by
  obtain ⟨hd, m, r⟩ := h
  exact ⟨nis I k _ _ r rfl, hd⟩
theorem PT.mem {es : List TE3} {xs : List (NestedKey × Addr × Value)} (r : PT es xs) : ∀ x ∈ xs, ∃ e ∈ es, e.1 = x.1 ∧ e.2.1 = x.2.1 := by
  induction r with
  | nil => intro x hx; cases hx
  | @cons e x es xs h t ih =>
    intro y hy
    rcases List.mem_cons.mp hy with rfl | hy
    · exact ⟨e, List.mem_cons_self, h.1, h.2.1⟩
    · obtain ⟨e', he, q⟩ := ih y hy
      exact ⟨e', List.mem_cons_of_mem _ he, q⟩
theorem td_rd (I : Inv X pins σ H s) (e : Rd H p (tdO X.w p es)) (hk : NKs (kW X) H es) : (p == sysModules) = false ∧ ∃ xs, PT es xs ∧ s.heap.DictOfH (nestedKind X.prog X.w) p xs := by
  obtain ⟨⟨hd, xs, r, o, des, ep, h1, h2, h3, h4, h5⟩, _, _⟩ := (show ObjOk X.prog X.w H s.heap p (tdO X.w p es) from e.ok I.hok)
  refine ⟨hd, xs, r, o, des, ep, h1, h2, h3, h4, fun x hx => ?_, h5⟩
  obtain ⟨e, he, e1, e2⟩ := PT.mem r x hx
  have := NK1.is I (show NK1 (kW X) H e.1 e.2.1 from hk e he)
  rw [e1, e2] at this
  exact this
theorem td_new {P : Program} {w : World} {H' : Hp} {h' : Heap} {xs : List (NestedKey × Addr × Value)} (hd : (p == sysModules) = false) (r : PT es xs) (dd : h'.DictOfH (nestedKind P w) p xs) : ObjOk P w H' h' p (tdO w p es) := by
  obtain ⟨o, des, ep, h1, h2, h3, h4, _, h5⟩ := dd
  refine ⟨⟨hd, xs, r, o, des, ep, h1, h2, h3, h4, h5⟩, ⟨o, h1⟩, ?_⟩
  rintro g1 g2 ⟨hd, xs, r, o, des, ep, k1, k2⟩ keep
  exact ⟨hd, xs, r, o, des, ep, keep _ k1, k2⟩
theorem td_empty {P : Program} {w : World} {H : Hp} (h : Heap) (hb : sysModules < h.objs.size) : ObjOk P w H (h.push { cls := .type "dict", data := .dict #[] }) h.objs.size (tdO w h.objs.size []) :=
  td_new (beq_eq_false_iff_ne.mpr (Ne.symm (Nat.ne_of_lt hb))) .nil (Heap.DictOfH.new h)
end
/-! ### the bare rules -/
theorem nk_room {A : Around} (h : A.units + 65 < cLine) {P : Program} {w : World} : (nestedKind P w).room A.in1 := by
  show A.in1.units + 8 < cLine
  rw [Around.in1_units]; omega
section
variable {X : Cx}
def rIxT (K : KW) : R2 := fun x y H Q => ∃ a b es k v, x = .ref a ∧ y = .ref b ∧ Rd H a (tdO K.w a es) ∧ NKs K H es ∧ NK1 K H k b ∧ valT es k = some v ∧ Q v H
theorem ix_tdc (hu : X.A.units + 65 < cLine) : IxR X (rIxT (kW X)) := by
  intro value slice pins s σ H x y v u Q I rx ry h hs
  obtain ⟨a, b, es, k, w, rfl, rfl, e, ne, nk, hv, q⟩ := h
  cases rx
  cases ry
  obtain ⟨hd, xs, pt, dd⟩ := td_rd I e ne
  obtain ⟨w', hw, rw'⟩ := RelO.some_of (v := w) (o := (atKey xs k).map (·.2)) (by rw [← hv]; exact pt.val k)
  obtain ⟨p, hp, hp2⟩ := Option.map_eq_some_iff.mp hw
  have hT := dd.typeIs
  unfold subscriptTail
  refine wpAny_bind ?_
  rw [getitemInPython_of_ne hT.not_modules]
  refine wpAny_bind (wpAny_specialOf hT PySem.F.slot_dict_getitem.lookup ?_)
  have fin : wpAny (model X.prog X.w) X.A (subscripted slice false (.ref a) (.ref b)) (fun r s₃ => wpAny (model X.prog X.w) X.A (letTemporaryGo value (.ref a) r >>= fun _ => pure r) (EP X pins σ Q) X.xe s₃) X.xe s := by
    rw [hs]
    refine wpAny_operating (wpAny_getItem_heap (nk_room hu) (NK1.is I nk) dd hp (wpAny_bind (wpAny_letTemporaryGo (wpAny_pure ⟨w, H, I.tok _, ?_, q⟩))))
    rw [hp2]; exact rw'
  first
    | exact wpAny_pure (wpAny_bind fin)
    | exact wpAny_bind (wpAny_pure (wpAny_bind fin))
    | exact wpAny_bind fin
def rInT (K : KW) (neg : Bool) : R2 := fun x y H Q => ∃ a b es k, y = .ref a ∧ x = .ref b ∧ Rd H a (tdO K.w a es) ∧ NKs K H es ∧ NK1 K H k b ∧ Q (.bl ((valT es k).isSome ^^ neg)) H
theorem op_in_t (hu : X.A.units + 65 < cLine) : OpR X (compareOp .In) (rInT (kW X) false) := by
  intro pins s σ H x y v u Q I rx ry h
  obtain ⟨a, b, es, k, rfl, rfl, e, ne, nk, q⟩ := h
  cases rx
  cases ry
  obtain ⟨hd, xs, pt, dd⟩ := td_rd I e ne
  refine wpAny_in_heap (nk_room hu) (NK1.is I nk) hd dd ⟨_, H, I.tok _, ?_, q⟩
  rw [Bool.xor_false]
  show Value.bool _ = Value.bool _
  rw [(pt.val k).isSome_eq, Option.isSome_map]
theorem op_notin_t (hu : X.A.units + 65 < cLine) : OpR X (compareOp .NotIn) (rInT (kW X) true) := by
  intro pins s σ H x y v u Q I rx ry h
  obtain ⟨a, b, es, k, rfl, rfl, e, ne, nk, q⟩ := h
  cases rx
  cases ry
  obtain ⟨hd, xs, pt, dd⟩ := td_rd I e ne
  refine wpAny_notIn_heap (nk_room hu) (NK1.is I nk) hd dd ⟨_, H, I.tok _, ?_, q⟩
  rw [Bool.xor_true]
  show Value.bool _ = Value.bool _
  rw [(pt.val k).isSome_eq, Option.isSome_map]
theorem td_write {pins : List (Addr × Obj)} {σ : L2.St} {H : Hp} {s : Shared} {a : Addr} {es es' : List TE3} {xs' : List (NestedKey × Addr × Value)} {h' : Heap} {t' : Nat} (I : Inv X pins σ H s) (e : H a = some (tdO X.w a es)) (hd : (a == sysModules) = false) (r : PT es' xs') (dd : h'.DictOfH (nestedKind X.prog X.w) a xs') (hs : Heap.SameBut a s.heap h') :
    Inv X pins σ (upd H a (tdO X.w a es')) { s with heap := h', toks := t' } := by
  have he : ∃ q, h'.get? a = some q := let ⟨q, _, _, hq, _⟩ := dd; ⟨q, hq⟩
  exact d_write I (by rw [e]; exact True.intro) hs he (td_new hd r dd)
def rSetT (K : KW) : TSet := fun o i v H Q => ∃ a b es k, o = .ref a ∧ i = .ref b ∧ H a = some (tdO K.w a es) ∧ NKs K H es ∧ NK1 K H k b ∧ es.length < sizeLine ∧ Q (upd H a (tdO K.w a (putT es k b v)))
theorem set_tdc (hu : X.A.units + 65 < cLine) : PSet X (rSetT (kW X)) := by
  intro pins s σ H o i v ov iv u Q I ro ri rv h
  obtain ⟨a, b, es, k, rfl, rfl, e, ne, nk, hz, q⟩ := h
  cases ro
  cases ri
  obtain ⟨hd, xs, pt, dd⟩ := td_rd I (.inl e) ne
  have hl : xs.length ≤ sizeLine := by rw [← Paired.length pt]; omega
  exact wpAny_setItem_heap (hsz := hl) (nk_room hu) (NK1.is I nk) dd fun h' dd' hs => ⟨_, td_write I e hd (pt.put k b rv) dd' hs, q⟩
def rGetT (K : KW) : V → List V → Hp → VK → Prop := fun x xs H Q => ∃ a b es k z, x = .ref a ∧ xs = [.ref b, z] ∧ Rd H a (tdO K.w a es) ∧ NKs K H es ∧ NK1 K H k b ∧ Q ((valT es k).getD z) H
theorem mt_get_t (hu : X.A.units + 65 < cLine) : MtR X "dict.get" (rGetT (kW X)) := by
  intro pins s σ H x xs v us Q I rx rs h
  obtain ⟨a, b, es, k, z, rfl, rfl, e, ne, nk, q⟩ := h
  cases rx
  cases rs with
  | @cons _ u1 _ us r1 rs =>
    cases rs with
    | @cons _ u2 _ us r2 rs =>
      cases rs
      cases r1
      obtain ⟨hd, xs, pt, dd⟩ := td_rd I e ne
      exact call_meetsIn PySem.F.slot_dict_get dd.typeIs PySem.F.entry_dict_get (PySem.F.args_dict_get_3 _ _ _) (meetsH_dict_get_default (nestedKind X.prog X.w) a b hd u2) ⟨nk_room hu, k, xs, NK1.is I nk, dd, _, H, I.tok _, (pt.val k).getD r2, q⟩
def rSdfT (K : KW) : V → List V → Hp → VK → Prop := fun x xs H Q => ∃ a b es k z, x = .ref a ∧ xs = [.ref b, z] ∧ H a = some (tdO K.w a es) ∧ NKs K H es ∧ NK1 K H k b ∧ es.length < sizeLine ∧
  (∀ v, valT es k = some v → Q v H) ∧ (valT es k = none → Q z (upd H a (tdO K.w a (putT es k b z))))
theorem mt_sdf_t (hu : X.A.units + 65 < cLine) : MtR X "dict.setdefault" (rSdfT (kW X)) := by
  intro pins s σ H x xs v us Q I rx rs h
  obtain ⟨a, b, es, k, z, rfl, rfl, e, ne, nk, hz, q1, q2⟩ := h
  cases rx
  cases rs with
  | @cons _ u1 _ us r1 rs =>
    cases rs with
    | @cons _ u2 _ us r2 rs =>
      cases rs
      cases r1
      obtain ⟨hd, xs, pt, dd⟩ := td_rd I (.inl e) ne
      have hl : xs.length ≤ sizeLine := by rw [← Paired.length pt]; omega
      have pv := pt.val k
      refine call_setdefault_heap (hsz := hl) (nk_room hu) (NK1.is I nk) hd dd (fun p hp => ?_) fun hn h' dd' hs => ?_
      · rw [hp] at pv
        cases ev : valT es k with
        | none => rw [ev] at pv; exact pv.elim
        | some w => rw [ev] at pv; exact ⟨w, H, I.tok _, pv, q1 w ev⟩
      · rw [hn] at pv
        cases ev : valT es k with
        | some w => rw [ev] at pv; exact pv.elim
        | none => exact ⟨z, _, td_write I e hd (pt.put k b r2) dd' hs, r2, q2 ev⟩
/-- one dict after another -/
def mergeT (es more : List TE3) : List TE3 := more.foldl (fun acc e => putT acc e.1 e.2.1 e.2.2) es
theorem PT.merge : ∀ {more : List TE3} {ys : List (NestedKey × Addr × Value)}, PT more ys → ∀ {es : List TE3} {xs : List (NestedKey × Addr × Value)}, PT es xs → PT (mergeT es more) (storedAllH xs ys)
  | _, _, .nil, _, _, r => r
  | (e :: more), (y :: ys), .cons h t, es, xs, r => by
    have q : PT (putT es e.1 e.2.1 e.2.2) (storedH xs y.1 y.2.1 y.2.2) := by
      have := r.put e.1 e.2.1 h.2.2
      rw [← h.1, ← h.2.1]
      exact this
    exact PT.merge t q
theorem PT.hashes (w : World) {es : List TE3} {xs : List (NestedKey × Addr × Value)} (r : PT es xs) : xs.map (fun x => x.1.hash w) = es.map fun e => e.1.hash w := by
  induction r with
  | nil => rfl
  | cons h t ih => rw [List.map_cons, List.map_cons, ih, h.1]
def rUpdT (K : KW) : V → List V → Hp → VK → Prop := fun x xs H Q => ∃ a b es more, x = .ref a ∧ xs = [.ref b] ∧ a ≠ b ∧ H a = some (tdO K.w a es) ∧ Rd H b (tdO K.w b more) ∧ NKs K H es ∧ NKs K H more ∧ es.length + more.length ≤ sizeLine ∧
  (es ≠ [] ∨ (more.map fun e => e.1.hash K.w).Nodup) ∧ Q .non (upd H a (tdO K.w a (mergeT es more)))
theorem mt_upd_t (hu : X.A.units + 65 < cLine) : MtR X "dict.update" (rUpdT (kW X)) := by
  intro pins s σ H x xs v us Q I rx rs h
  obtain ⟨a, b, es, more, rfl, rfl, ne, e, e2, n1, n2, hz, hh, q⟩ := h
  cases rx
  obtain ⟨u, rfl, ru⟩ := vals1 rs
  cases ru
  obtain ⟨hd, xs, pt, dd⟩ := td_rd I (.inl e) n1
  obtain ⟨hd2, ys, pt2, dd2⟩ := td_rd I e2 n2
  refine call_update_dictH (nk_room hu) ne hd2 dd dd2 ?_ (by rw [← Paired.length pt, ← Paired.length pt2]; exact hz) fun h' dd' _ hs => ⟨.non, _, td_write (t' := s.toks) I e hd (pt2.merge pt) dd' hs, rfl, q⟩
  rcases hh with z | z
  · exact .inl fun ee => by subst ee; cases pt; exact z rfl
  · refine .inr ⟨keyed_apart nestedKind_stays dd2, ?_⟩
    have := PT.hashes X.w pt2
    show (ys.map fun x => x.1.hash X.w).Nodup
    rw [this]; exact z
def rLenT (K : KW) : List V → Hp → VK → Prop := fun xs H Q => ∃ p es, xs = [.ref p] ∧ Rd H p (tdO K.w p es) ∧ NKs K H es ∧ es.length ≤ sizeLine ∧ Q (.int ((es.length : Nat) : Int)) H
theorem cr_len_t : CallR X (.builtin "len") (rLenT (kW X)) := by
  intro pins s σ H xs us Q I r h
  obtain ⟨p, es, rfl, hp, ne, z, q⟩ := h
  obtain ⟨u, rfl, rx⟩ := vals1 r
  cases rx
  obtain ⟨hd, ys, pt, dd⟩ := td_rd I hp ne
  have hl : es.length = ys.length := Paired.length pt
  refine call_len_dictH hd dd (by rw [← hl]; rw [sizeLine_eq] at z; omega) ?_
  rw [← hl]
  exact ⟨.int ((es.length : Nat) : Int), H, I.tok _, ⟨_, rfl⟩, q⟩
/-- {}, to be a dict by tuples -/
def tDNewN (K : KW) : TE := fun _ H Q => ∀ p, H p = none → Q (.ref p) (upd H p (tdO K.w p []))
theorem pe_dnewN {pos : Pos} : PE X (.Dict [] [] pos) (tDNewN (kW X)) := ⟨fun pins s σ H Q I h =>
  wpAny_Dict_empty ⟨.ref s.heap.objs.size, _, I.laid (a := s.heap.objs.size) (o := tdO X.w s.heap.objs.size []) (t' := s.toks) (fun _ _ q => Heap.get?_push_of_some _ q) (Nat.le_refl _) (td_empty s.heap I.big), rfl, h _ (I.hok.fresh (Nat.le_refl _))⟩⟩
end
end SD
/-! SNb: dicts whose keys are tuples, over D and store. -/
namespace SD
open PySem PySem.Spec PyProof.Rows L2
/-! ### list(d), list(d.values()) -/
section
variable {prog : Program} {w : World} {A : Around} {E : Value → Shared → Prop} {s : Shared}
theorem raw_of {d : Addr} {xs : List (NestedKey × Addr × Value)} {h : Heap} (hm : h.DictOfH (nestedKind prog w) d xs) : ∃ es ep, h.DictRaw d es ep ∧ es.size = xs.length ∧ ∀ (i : Nat) (hi : i < es.size), ∃ x, xs[i]? = some x ∧ es[i].key = .ref x.2.1 ∧ es[i].val = x.2.2 := by
  obtain ⟨o, es, ep, h1, h2, h3, h4, _, _⟩ := hm
  have hl : es.size = xs.length := size_of_entries h4
  refine ⟨es, ep, ⟨o, h1, h2, h3⟩, hl, fun i hi => ?_⟩
  have q := entry_at h4 i
  rw [Array.getElem?_eq_getElem hi] at q
  cases hx : xs[i]? with
  | none => rw [hx] at q; cases q
  | some x =>
    rw [hx] at q
    have q := Option.some.inj q
    exact ⟨x, rfl, by rw [q]; rfl, by rw [q]; rfl⟩
theorem items_list {es : Array DictEntry} {acc : Array Value} {n : Nat} {P : Nat → Value → Prop} {vs : List Value} (it : PySem.ItemsOf P acc n) (hl : vs.length = n) (h : ∀ i v, P i v → i < n → vs[i]? = some v) : acc.toList = vs := by
  refine List.ext_getElem? fun j => ?_
  have hs : acc.toList.length = n := by rw [Array.length_toList]; exact it.1
  by_cases hj : j < n
  · have e : acc.toList[j]? = some (acc.toList[j]'(by omega)) := List.getElem?_eq_getElem (by omega)
    rw [e]
    exact (h j _ (it.2 j _ (by rw [← Array.getElem?_toList]; exact e)) hj).symm
  · rw [List.getElem?_eq_none (by omega), List.getElem?_eq_none (by omega)]
end
theorem PT.refs {es : List TE3} {xs : List (NestedKey × Addr × Value)} (r : PT es xs) : Vals (es.map fun e => V.ref e.2.1) (xs.map fun x => Value.ref x.2.1) := by
  induction r with
  | nil => exact .nil
  | cons h t ih => exact .cons (by show Value.ref _ = Value.ref _; rw [h.2.1]) ih
theorem PT.vals {es : List TE3} {xs : List (NestedKey × Addr × Value)} (r : PT es xs) : Vals (es.map fun e => e.2.2) (xs.map fun x => x.2.2) := by
  induction r with
  | nil => exact .nil
  | cons h t ih => exact .cons h.2.2 ih
section
variable {X : Cx}
def rListN (K : KW) : List V → Hp → VK → Prop := fun xs H Q => ∃ d es, xs = [V.ref d] ∧ Rd H d (tdO K.w d es) ∧ NKs K H es ∧ es.length ≤ sizeLine ∧ ∀ p, H p = none → Q (.ref p) (upd H p (.lst (es.map fun e => V.ref e.2.1)))
theorem cr_listN (hc : X.calm = true) : CallR X (.type "list") (rListN (kW X)) := by
  intro pins s σ H xs us Q I r h
  obtain ⟨d, es, rfl, e, ne, hz, q⟩ := h
  obtain ⟨u, rfl, rx⟩ := vals1 r
  cases rx
  obtain ⟨hd, ys, pt, dd⟩ := td_rd I e ne
  obtain ⟨des, ep, raw, hl, ent⟩ := raw_of dd
  have hl2 := Paired.length pt
  refine PySem.W.kdl_call (PySem.KdlSrc.rawDict hd) (I.ok.hd hc) raw (by omega) fun h' tk acc c kp e2 it => ?_
  have ea : acc.toList = ys.map fun x => Value.ref x.2.1 := items_list (es := des) it (by rw [List.length_map, hl]) fun i v ⟨hi, hv⟩ _ => by
    obtain ⟨x, hx, k1, _⟩ := ent i hi
    rw [List.getElem?_map, hx, hv, k1]; rfl
  refine ⟨.ref s.heap.objs.size, _, I.laid (t' := tk) (o := .lst (es.map fun e => V.ref e.2.1)) kp (Nat.le_refl _) ⟨by rw [List.length_map]; exact hz, acc.toList, c, ?_, by rw [Array.toArray_toList]; exact e2⟩, rfl, q _ (I.hok.fresh (Nat.le_refl _))⟩
  rw [ea]; exact pt.refs
theorem meets_vals {prog : Program} {w : World} (d : Addr) (hd : (d == sysModules) = false) :
    MeetsIn prog w (Builtin.«dict.values» ⟨[.ref d], []⟩) (fun _ R s => s.TypeIs (.ref d) "dict" ∧ R (.ok (.ret (.ref s.heap.objs.size))) { s with heap := s.heap.push { cls := .type "dict_values", data := .fields #[.ref d] } }) :=
  .of_wp fun A R s ⟨hm, h⟩ => by
    refine wpAny_bind ?_
    unfold Builtin.Dict.noArgs
    refine wpAny_bind (wpAny_notOrdered_dict hm ?_)
    show wpAny _ _ (pure d) _ _ s
    refine wpAny_pure ?_
    show wpAny _ _ (Builtin.Dict.showsAll d >>= _) _ _ s
    unfold Builtin.Dict.showsAll
    rw [if_neg (by rw [hd]; exact fun z => by cases z)]
    exact wpAny_bind (wpAny_pure (wpAny_bind (wpAny_newObj_type (wpAny_pure ⟨_, rfl, h⟩))))
/-- list(d.values()) -/
def tListVals (K : KW) (td : TE) : TE := fun σ H Q => td σ H fun x H1 => ∃ d es, x = .ref d ∧ Rd H1 d (tdO K.w d es) ∧ NKs K H1 es ∧ es.length ≤ sizeLine ∧ ∀ p, H1 p = none → Q (.ref p) (upd H1 p (.lst (es.map fun e => e.2.2)))
theorem pe_listVals {x : Str} {p pos apos cpos : Pos} {e : Expr} {td : TE} (hc : X.calm = true) (hg : Gl X x) (hm : X.mg x = none) (hv : bootBuiltins x = some (.type "list")) (he : PE X e td) (hn : x ≠ "__name__" := by decide) (hdb : (x == ("__debug__" : Str)) = false := by decide)
    (hbase : attributeBase e "values" X.env (eval e X.env) = eval e X.env := by rfl) (hline : (apos.endLine == cpos.line) = true := by rfl)
    (hst : starEach [Expr.Call (.Attribute e "values" apos) [] [] cpos] X.env = (false, eval (.Call (.Attribute e "values" apos) [] [] cpos) X.env) :: starEach [] X.env := by rfl) :
    PE X (.Call (.Name x p) [.Call (.Attribute e "values" apos) [] [] cpos] [] pos) (tListVals (kW X) td) := by
  refine ⟨fun pins s σ H Q I h => ?_⟩
  refine wpAny_Call_Name_kw (ld_blt I hg hm hv ?_ hn hdb)
  refine PyProof.Rows.callWith_type1 ?_ hst rfl
  rw [hst]
  show wpAny _ _ _ _ _ s
  refine Calls.spliced_cons ?_
  refine wpAny_Call_method0_late hbase hline (thn (he.run pins s σ H _ I h) fun u s1 ⟨x, H1, I1, rx, d, es, ex, ed, ne, hz, q⟩ => ?_)
  subst ex
  cases rx
  obtain ⟨hd, ys, pt, dd⟩ := td_rd I1 ed ne
  obtain ⟨des, ep, raw, hl, ent⟩ := raw_of dd
  have hl2 := Paired.length pt
  refine ⟨"dict", "dict.values", PySem.F.plainAttrs_dict, PySem.F.slot_dict_values, PySem.F.type_dict_values, dd.typeIs, fun b z => ?_, ?_⟩
  · cases z
    obtain ⟨o, _, _, h1, h2, _⟩ := dd
    exact ⟨o, h1, h2.2.1⟩
  refine method_meetsIn PySem.F.slot_dict_values PySem.F.entry_dict_values rfl (PySem.evalArgs_none ⟨rfl, dd.typeIs, PySem.F.args_dict_values_1 _, _, meets_vals d hd, dd.typeIs, ?_⟩)
  refine Calls.spliced_nil ?_
  have I2 : Inv X pins σ H1 { s1 with heap := s1.heap.push { cls := .type "dict_values", data := .fields #[.ref d] } } := I1.kept (t' := s1.toks) fun b ob q => Heap.get?_push_of_some _ q
  refine PySem.W.kdl_call PySem.KdlSrc.rawValues (I2.ok.hd hc) ⟨⟨_, Heap.get?_push_size _ rfl, rfl, rfl⟩, raw.push _⟩ (by omega) fun h' tk acc c kp e2 it => ?_
  have ea : acc.toList = ys.map fun x => x.2.2 := items_list (es := des) it (by rw [List.length_map, hl]) fun i v ⟨hi, hv⟩ _ => by
    obtain ⟨x, hx, _, k2⟩ := ent i hi
    rw [List.getElem?_map, hx, hv, k2]; rfl
  refine ⟨.ref (s1.heap.push { cls := .type "dict_values", data := .fields #[.ref d] }).objs.size, _, I2.laid (t' := tk) (o := .lst (es.map fun e => e.2.2)) kp (Nat.le_refl _) ⟨by rw [List.length_map]; exact hz, acc.toList, c, ?_, by rw [Array.toArray_toList]; exact e2⟩, rfl, q _ (I2.hok.fresh (Nat.le_refl _))⟩
  rw [ea]; exact pt.vals
end
end SD
/-! SNc: dicts whose keys are tuples: rules over D and store. -/
namespace SD
open PySem PySem.Spec PyProof.Rows L2
def tdC : Option Cell → Option (List (D × D))
  | some (.tdc kvs) => some kvs
  | some (.tlk kvs) => some kvs
  | _ => none
def tdD (S : Store) : D → Option (List (D × D))
  | .ref n => tdC S[n]?
  | _ => none
section
variable {K : KW} {m : List Addr} {H : Hp} {S : Store}
theorem td_at (s : Sim K m S H) {d : D} {v : V} {kvs : List (D × D)} (r : RD K m H d v) (h : tdD S d = some kvs) : ∃ p es, v = .ref p ∧ Rd H p (tdO K.w p es) ∧ RKT K m H kvs es ∧ kvs.length ≤ sizeLine := by
  cases r with
  | @ref n p a =>
    have h : tdC S[n]? = some kvs := h
    cases e : S[n]? with
    | none => rw [e] at h; cases h
    | some c =>
      rw [e] at h
      have rc := s.cell n p c a e
      generalize eo : H p = o at rc
      cases rc with
      | lst z b => cases h
      | dct z b => cases h
      | lck z b => cases h
      | tdc z b => cases h; exact ⟨p, _, rfl, .inl eo, b, z⟩
      | tlk z b => cases h; exact ⟨p, _, rfl, .inr ⟨_, eo⟩, b, z⟩
  | _ => cases h
theorem tdc_at (s : Sim K m S H) {n : Nat} {v : V} {kvs : List (D × D)} (r : RD K m H (.ref n) v) (h : S[n]? = some (.tdc kvs)) : ∃ p es, v = .ref p ∧ m[n]? = some p ∧ H p = some (tdO K.w p es) ∧ RKT K m H kvs es ∧ kvs.length ≤ sizeLine := by
  cases r with
  | @ref n p a =>
    have rc := s.cell n p _ a h
    generalize eo : H p = o at rc
    cases rc with
    | tdc z b => exact ⟨p, _, rfl, a, eo, b, z⟩
theorem RKT.nks {kvs : List (D × D)} {es : List TE3} (r : RKT K m H kvs es) : NKs K H es := by
  induction r with
  | nil => intro e he; cases he
  | @cons p e _ _ h t ih =>
    intro e' he
    rcases List.mem_cons.mp he with rfl | he
    · exact ⟨h.2.1, m, h.1 ▸ h.2.2.1⟩
    · exact ih e' he
theorem RKT.val {kvs : List (D × D)} {es : List TE3} (r : RKT K m H kvs es) (k : NestedKey) : (∃ d v, valD kvs (keyN k) = some d ∧ valT es k = some v ∧ RD K m H d v) ∨ (valD kvs (keyN k) = none ∧ valT es k = none) := by
  induction r with
  | nil => exact .inr ⟨rfl, rfl⟩
  | @cons p e _ _ h t ih =>
    by_cases q : e.1 = k
    · refine .inl ⟨p.2, e.2.2, ?_, ?_, h.2.2.2⟩
      · unfold valD; rw [List.find?_cons_of_pos (by rw [h.1, q]; simp)]; rfl
      · unfold valT; rw [List.find?_cons_of_pos (by simpa using q)]; rfl
    · have q' : ¬ p.1 = keyN k := fun z => q (keyN_inj _ _ (h.1.symm.trans z))
      unfold valD valT at ih ⊢
      rw [List.find?_cons_of_neg (by simpa using q'), List.find?_cons_of_neg (by simpa using q)]
      exact ih
theorem RKT.any {kvs : List (D × D)} {es : List TE3} (r : RKT K m H kvs es) (k : NestedKey) : (kvs.any fun p => decide (p.1 = keyN k)) = es.any fun e => decide (e.1 = k) := by
  induction r with
  | nil => rfl
  | @cons p e _ _ h t ih =>
    rw [List.any_cons, List.any_cons, ih, h.1]
    congr 1
    exact decide_eq_decide.mpr ⟨fun z => keyN_inj _ _ z, fun z => by rw [z]⟩
theorem RKT.repl {kvs : List (D × D)} {es : List TE3} (r : RKT K m H kvs es) (k : NestedKey) {d : D} {v : V} (rd : RD K m H d v) : RKT K m H (kvs.map fun p => if p.1 = keyN k then (p.1, d) else p) (es.map fun e => if e.1 = k then (e.1, e.2.1, v) else e) := by
  induction r with
  | nil => exact .nil
  | @cons p e _ _ h t ih =>
    rw [List.map_cons, List.map_cons]
    refine .cons ?_ ih
    by_cases q : e.1 = k
    · rw [if_pos q, if_pos (by rw [h.1, q])]
      exact ⟨h.1, h.2.1, h.2.2.1, rd⟩
    · rw [if_neg q, if_neg fun z => q (keyN_inj _ _ (h.1.symm.trans z))]
      exact h
theorem RKT.snoc {kvs : List (D × D)} {es : List TE3} (r : RKT K m H kvs es) {k : NestedKey} {b : Addr} (hk : k.depth ≤ 8) (rk : RD K m H (keyN k) (.ref b)) {d : D} {v : V} (rd : RD K m H d v) : RKT K m H (kvs ++ [(keyN k, d)]) (es ++ [(k, b, v)]) := by
  induction r with
  | nil => exact .cons ⟨rfl, hk, rk, rd⟩ .nil
  | cons h t ih => exact .cons h ih
theorem RKT.put {kvs : List (D × D)} {es : List TE3} (r : RKT K m H kvs es) {k : NestedKey} {b : Addr} (hk : k.depth ≤ 8) (rk : RD K m H (keyN k) (.ref b)) {d : D} {v : V} (rd : RD K m H d v) : RKT K m H (putD kvs (keyN k) d) (putT es k b v) := by
  unfold putD putT
  rw [r.any k]
  split
  · exact r.repl k rd
  · exact r.snoc hk rk rd
theorem RKT.merge : ∀ {more : List (D × D)} {ms : List TE3}, RKT K m H more ms → ∀ {kvs : List (D × D)} {es : List TE3}, RKT K m H kvs es → RKT K m H (mergeD kvs more) (mergeT es ms)
  | _, _, .nil, _, _, r => r
  | (p :: more), (e :: ms), .cons h t, kvs, es, r => by
    have q : RKT K m H (putD kvs p.1 p.2) (putT es e.1 e.2.1 e.2.2) := by
      have := r.put h.2.1 (h.1 ▸ h.2.2.1) h.2.2.2
      rw [← h.1] at this
      exact this
    exact RKT.merge t q
theorem RKT.keysR {kvs : List (D × D)} {es : List TE3} (r : RKT K m H kvs es) : RDs K m H (kvs.map (·.1)) (es.map fun e => V.ref e.2.1) := by
  induction r with
  | nil => exact .nil
  | cons h t ih => exact .cons h.2.2.1 ih
theorem RKT.valsR {kvs : List (D × D)} {es : List TE3} (r : RKT K m H kvs es) : RDs K m H (kvs.map (·.2)) (es.map fun e => e.2.2) := by
  induction r with
  | nil => exact .nil
  | cons h t ih => exact .cons h.2.2.2 ih
theorem RKT.len {kvs : List (D × D)} {es : List TE3} (r : RKT K m H kvs es) : kvs.length = es.length := Paired.length r
/-- a new cell: a dict by tuples -/
theorem new_tdc (s : Sim K m S H) {p : Addr} (h : H p = none) {kvs : List (D × D)} {es : List TE3} (r : RKT K m H kvs es) (hz : kvs.length ≤ sizeLine) :
    Grow m H (m ++ [p]) (upd H p (tdO K.w p es)) ∧ Sim K (m ++ [p]) (S ++ [.tdc kvs]) (upd H p (tdO K.w p es)) ∧ RD K (m ++ [p]) (upd H p (tdO K.w p es)) (.ref S.length) (.ref p) := by
  have g : Grow m H (m ++ [p]) (upd H p (tdO K.w p es)) := Grow.new h _ (List.prefix_append _ _)
  refine ⟨g, s.alloc h (.tdc hz (r.up g)), .ref ?_⟩
  rw [← s.len, List.getElem?_append_right (Nat.le_refl _)]; simp
end
/-! ### operators -/
def ixTF : F2 := fun o i S Q => ∃ kvs v, tdD S o = some kvs ∧ tkD i = true ∧ valD kvs i = some v ∧ Q v S
def inTF (neg : Bool) : F2 := fun x y S Q => ∃ kvs, tdD S y = some kvs ∧ tkD x = true ∧ Q (.bl ((valD kvs x).isSome ^^ neg)) S
def setTF (o i v : D) (S : Store) (Q : Store → Prop) : Prop := ∃ n kvs, o = .ref n ∧ S[n]? = some (.tdc kvs) ∧ tkD i = true ∧ kvs.length < sizeLine ∧ Q (S.set n (.tdc (putD kvs i v)))
def gSubT (fo fi : FE) : FG := fun d σ S Q => fo σ S fun o S1 => fi σ S1 fun i S2 => setTF o i d S2 fun S3 => Q σ S3
section
variable {X : Cx} {pos : Pos}
theorem id_ixT (hu : X.A.units + 65 < cLine) : IxD X ixTF := by
  refine ⟨_, ix_tdc hu, fun m S H x y v u P Q s rx ry h w => ?_⟩
  obtain ⟨kvs, d, h1, h2, h3, p⟩ := h
  obtain ⟨a, es, rfl, ha, b, _⟩ := td_at s rx h1
  obtain ⟨k, c, rfl, ey, hk, rk⟩ := tk_ref ry h2
  subst ey
  rcases b.val k with ⟨d', v', q1, q2, rv⟩ | ⟨q1, _⟩
  · rw [h3] at q1; cases q1
    exact ⟨a, c, es, k, v', rfl, rfl, ha, b.nks, ⟨hk, m, rk⟩, q2, w _ _ _ _ _ p (.refl _ _) s rv⟩
  · rw [h3] at q1; cases q1
theorem in_R2T {neg : Bool} : R2R (kW X) (inTF neg) (rInT (kW X) neg) := by
  intro m S H x y v u P Q s rx ry h w
  obtain ⟨kvs, h1, h2, p⟩ := h
  obtain ⟨a, es, rfl, ha, b, _⟩ := td_at s ry h1
  obtain ⟨k, c, rfl, ey, hk, rk⟩ := tk_ref rx h2
  subst ey
  refine ⟨a, c, es, k, rfl, rfl, ha, b.nks, ⟨hk, m, rk⟩, ?_⟩
  have e : (valT es k).isSome = (valD kvs (keyN k)).isSome := by
    rcases b.val k with ⟨d', v', q1, q2, _⟩ | ⟨q1, q2⟩
    · rw [q1, q2]; rfl
    · rw [q1, q2]; rfl
  rw [e]
  exact w _ _ _ _ _ p (.refl _ _) s (.bl _)
theorem od_inT (hu : X.A.units + 65 < cLine) : OpD X (compareOp .In) (inTF false) := ⟨_, op_in_t hu, in_R2T⟩
theorem od_notinT (hu : X.A.units + 65 < cLine) : OpD X (compareOp .NotIn) (inTF true) := ⟨_, op_notin_t hu, in_R2T⟩
theorem rg_subT {o i : Expr} {fo fi : FE} (hu : X.A.units + 65 < cLine) (ho : RE X o fo) (hi : RE X i fi)
    (ha : ∀ v, assign (.Subscript o i pos) X.env v = (do
      let ov ← holding [v] (eval o X.env)
      let iv ← holding [v, ov] (eval i X.env)
      standAt pos
      holding [v, ov, iv] (setItem ov iv v)
      release [v, ov, iv] []) := by intro _; rfl) : RG X (.Subscript o i pos) (gSubT fo fi) := by
  refine pg_w (pg_sub (pos := pos) ho hi (set_tdc hu) ha) fun v σ H Q q => ?_
  obtain ⟨m, σd, S, d, P, s, r, rd, p, w⟩ := q
  refine ⟨m, σd, S, _, s, r, p, fun od S1 m1 vo H1 p1 g1 s1 r1 => ?_⟩
  refine ⟨m1, σd, S1, _, s1, r.up g1, p1, fun id S2 m2 vi H2 p2 g2 s2 r2 => ?_⟩
  obtain ⟨n, kvs, rfl, e, hk, hz, p2⟩ := p2
  obtain ⟨a, es, rfl, hm, ha, b, _⟩ := tdc_at s2 (r1.up g2) e
  obtain ⟨k, c, rfl, ey, hd, rk⟩ := tk_ref r2 hk
  subst ey
  have g := Grow.write s2 hm e rfl (tdO X.w a (putT es k c v))
  have gg := g1.trans (g2.trans g)
  refine ⟨a, c, es, k, rfl, rfl, ha, b.nks, ⟨hd, m2, rk⟩, by rw [← b.len]; exact hz, w _ _ _ _ _ p2 gg (s2.write hm e rfl (.tdc ?_ ((b.up g).put hd (rk.up g) (rd.up gg)))) (r.up gg)⟩
  have := length_putD kvs (keyN k) d
  omega
end
/-! ### methods -/
def tyT (S : Store) (d : D) : Prop := ∃ n kvs, d = .ref n ∧ S[n]? = some (.tdc kvs)
def eMtT (fr : FM) (fo : FE) (fa : FA) : FE := fun σ S Q => fo σ S fun x S1 => tyT S1 x ∧ fa σ S1 fun xs S2 => fr x xs S2 Q
def getTF : FM := fun x xs S Q => ∃ kvs k z, tdD S x = some kvs ∧ xs = [k, z] ∧ tkD k = true ∧ Q ((valD kvs k).getD z) S
def sdfTF : FM := fun x xs S Q => ∃ n kvs k z, x = .ref n ∧ xs = [k, z] ∧ S[n]? = some (.tdc kvs) ∧ tkD k = true ∧ kvs.length < sizeLine ∧ (∀ v, valD kvs k = some v → Q v S) ∧ (valD kvs k = none → Q z (S.set n (.tdc (putD kvs k z))))
/-- no two keys hash alike, whatever the world -/
def hashOk (kvs : List (D × D)) : Prop := ∀ w : World, (kvs.map fun p => ((toNK p.1).getD .none).hash w).Nodup
def updTF : FM := fun x xs S Q => ∃ n j kvs more, x = .ref n ∧ xs = [.ref j] ∧ n ≠ j ∧ S[n]? = some (.tdc kvs) ∧ tdD S (.ref j) = some more ∧ kvs.length + more.length ≤ sizeLine ∧ (kvs ≠ [] ∨ hashOk more) ∧ Q .non (S.set n (.tdc (mergeD kvs more)))
section
variable {X : Cx} {o e : Expr} {es : List Expr} {fo : FE} {fa : FA} {name : Str} {apos cpos : Pos} {id : String} {fr : FM}
theorem re_mtT (slot : Slot "dict" name id) (hty : typeOf (.builtin id) = pure (.type "method_descriptor")) (hm : MtD X id fr) (ho : RE X o fo) (ha : RA X (e :: es) fa)
    (hbase : attributeBase o name X.env (eval o X.env) = eval o X.env := by rfl)
    (hfew : ((backTo cpos (starEach (e :: es) X.env)).all (fun x => !x.1) && (backToKw cpos (keywordEach [] X.env)).all (fun x => x.1.isSome)
      && decide ((e :: es).length + ([] : List Keyword).length + (if ([] : List Keyword).isEmpty then 0 else 1) < 30)) = true := by rfl)
    (hline : (apos.endLine == cpos.line) = true := by rfl) (hs : starEach (e :: es) X.env = (false, eval e X.env) :: starEach es X.env := by rfl) (hplain : (backTo cpos (starEach es X.env)).any (·.1) = false := by rfl) :
    RE X (.Call (.Attribute o name apos) (e :: es) [] cpos) (eMtT fr fo fa) := by
  obtain ⟨r, h1, h2⟩ := hm
  refine ⟨fun pins s σ H Q I q => ?_⟩
  obtain ⟨m, σd, S, P, sm, rs, p, w⟩ := q
  refine wpAny_Call_method_late hbase hfew hline rfl (thn (ho.run pins s σ H (fun x H1 => ∃ m1 S1 d, Sim (kW X) m1 S1 H1 ∧ Grow m H m1 H1 ∧ RD (kW X) m1 H1 d x ∧ tyT S1 d ∧ fa σd S1 fun xs S2 => fr d xs S2 P) I ⟨m, σd, S, _, sm, rs, p, fun d S1 m1 v H1 p1 g1 s1 r1 => ⟨m1, S1, d, s1, g1, r1, p1.1, p1.2⟩⟩) fun v s1 ⟨x, H1, I1, r1, m1, S1, d, sm1, g1, rd, ty, p1⟩ => ?_)
  obtain ⟨n, kvs, rfl, en⟩ := ty
  obtain ⟨a, ts, rfl, hm, ha', b, _⟩ := tdc_at sm1 rd en
  cases r1
  obtain ⟨hd, ys, pt, dd⟩ := td_rd I1 (.inl ha') b.nks
  refine ⟨"dict", id, PySem.F.plainAttrs_dict, slot, hty, dd.typeIs, fun c z => ?_, ?_⟩
  · cases z
    obtain ⟨ob, _, _, k1, k2, _⟩ := dd
    exact ⟨ob, k1, k2.2.1⟩
  have hA := ha.run cpos pins s1 σ H1 (fun vs H2 => ∃ m2 S2 ds, Sim (kW X) m2 S2 H2 ∧ Grow m1 H1 m2 H2 ∧ RDs (kW X) m2 H2 ds vs ∧ fr (.ref n) ds S2 P) I1 ⟨m1, σd, S1, _, sm1, rs.up g1, p1, fun ds S2 m2 vs H2 p2 g2 s2 r2 => ⟨m2, S2, ds, s2, g2, r2, p2⟩⟩
  rw [hs] at hA ⊢
  refine Calls.callWith_builtin (by show (false || (backTo cpos (starEach es X.env)).any (·.1)) = false; rw [hplain] <;> rfl) (Calls.evalArgs_plain ?_)
  exact thn hA fun us s2 ⟨vs, H2, I2, r2, m2, S2, ds, sm2, g2, rds, p2⟩ => h1 pins s2 σ H2 (.ref a) vs (.ref a) us Q I2 rfl r2 (h2 m2 S2 H2 _ _ _ _ P Q sm2 (rd.up g2) rds p2 (w.up (g1.trans g2)))
theorem md_getT (hu : X.A.units + 65 < cLine) : MtD X "dict.get" getTF := by
  refine ⟨_, mt_get_t hu, fun m S H x v xs vs P Q s rx rs p w => ?_⟩
  obtain ⟨kvs, k, z, e, rfl, hk, p⟩ := p
  obtain ⟨a, ts, rfl, ha, b, _⟩ := td_at s rx e
  cases rs with
  | cons r1 rs =>
    cases rs with
    | cons r2 rs =>
      cases rs
      obtain ⟨k', c, rfl, ey, hd, rk⟩ := tk_ref r1 hk
      subst ey
      refine ⟨a, c, ts, k', _, rfl, rfl, ha, b.nks, ⟨hd, m, rk⟩, ?_⟩
      rcases b.val k' with ⟨d', v', q1, q2, rv⟩ | ⟨q1, q2⟩
      · rw [q2]
        rw [q1] at p
        exact w _ _ _ _ _ p (.refl _ _) s rv
      · rw [q2]
        rw [q1] at p
        exact w _ _ _ _ _ p (.refl _ _) s r2
theorem md_sdfT (hu : X.A.units + 65 < cLine) : MtD X "dict.setdefault" sdfTF := by
  refine ⟨_, mt_sdf_t hu, fun m S H x v xs vs P Q s rx rs p w => ?_⟩
  obtain ⟨n, kvs, k, z, rfl, rfl, e, hk, hz, p1, p2⟩ := p
  obtain ⟨a, ts, rfl, hm, ha, b, _⟩ := tdc_at s rx e
  cases rs with
  | cons r1 rs =>
    cases rs with
    | @cons _ vz _ _ r2 rs =>
      cases rs
      obtain ⟨k', c, rfl, ey, hd, rk⟩ := tk_ref r1 hk
      subst ey
      refine ⟨a, c, ts, k', _, rfl, rfl, ha, b.nks, ⟨hd, m, rk⟩, by rw [← b.len]; exact hz, fun v hv => ?_, fun hv => ?_⟩
      · rcases b.val k' with ⟨d', v', q1, q2, rv⟩ | ⟨q1, q2⟩
        · rw [q2] at hv; cases hv
          exact w _ _ _ _ _ (p1 d' q1) (.refl _ _) s rv
        · rw [q2] at hv; cases hv
      · have hn : valD kvs (keyN k') = none := by
          rcases b.val k' with ⟨d', v', q1, q2, rv⟩ | ⟨q1, q2⟩
          · rw [q2] at hv; cases hv
          · exact q1
        have g := Grow.write s hm e rfl (tdO X.w a (putT ts k' c vz))
        refine w _ _ _ _ _ (p2 hn) g (s.write hm e rfl (.tdc ?_ ((b.up g).put hd (rk.up g) (r2.up g)))) (r2.up g)
        have := length_putD kvs (keyN k') z
        omega
theorem hash_of {K : KW} {m : List Addr} {H : Hp} {kvs : List (D × D)} {es : List TE3} (r : RKT K m H kvs es) (w : World) : (es.map fun e => e.1.hash w) = kvs.map fun p => ((toNK p.1).getD .none).hash w := by
  induction r with
  | nil => rfl
  | cons h t ih => rw [List.map_cons, List.map_cons, ih, h.1, toNK_keyN]; rfl
theorem md_updT (hu : X.A.units + 65 < cLine) : MtD X "dict.update" updTF := by
  refine ⟨_, mt_upd_t hu, fun m S H x v xs vs P Q s rx rs p w => ?_⟩
  obtain ⟨n, j, kvs, more, rfl, rfl, ne, e, e2, hz, hh, p⟩ := p
  obtain ⟨vy, rfl, ry⟩ := rs.one rfl
  obtain ⟨a, ts, rfl, hm, ha, b, _⟩ := tdc_at s rx e
  obtain ⟨c, ms, rfl, hc, b2, _⟩ := td_at s ry e2
  have a2 : m[j]? = some c := by cases ry; assumption
  have neq : a ≠ c := fun h => ne (nd_ix s.nd hm (h ▸ a2))
  have g := Grow.write s hm e rfl (tdO X.w a (mergeT ts ms))
  refine ⟨a, c, ts, ms, rfl, rfl, neq, ha, hc, b.nks, b2.nks, by rw [← b.len, ← b2.len]; exact hz, ?_, w _ _ _ _ _ p g (s.write hm e rfl (.tdc (Nat.le_trans (length_mergeD more kvs) hz) (RKT.merge (b2.up g) (b.up g)))) .non⟩
  rcases hh with z | z
  · exact .inl fun q => by subst q; cases b; exact z rfl
  · refine .inr ?_
    rw [hash_of b2]
    exact z X.w
end
/-! ### len, list, values, {} -/
def lenTF : FN := fun xs S Q => match xs with
  | [d] => ∃ kvs, tdD S d = some kvs ∧ Q (.int (kvs.length : Nat)) S
  | _ => False
def listTF : FN := fun xs S Q => match xs with
  | [d] => ∃ kvs, tdD S d = some kvs ∧ Q (.ref S.length) (S ++ [.lst (kvs.map (·.1))])
  | _ => False
def eVals (f : FE) : FE := fun σ S Q => f σ S fun d S1 => ∃ kvs, tdD S1 d = some kvs ∧ Q (.ref S1.length) (S1 ++ [.lst (kvs.map (·.2))])
def eDictN : FE := fun _ S Q => Q (.ref S.length) (S ++ [.tdc []])
section
variable {X : Cx}
theorem cd_lenT : CallD X (.builtin "len") lenTF := by
  refine ⟨_, cr_len_t, fun m S H xs vs P Q s r p w => ?_⟩
  match xs, p with
  | [d], p =>
    obtain ⟨v, rfl, rd⟩ := r.one rfl
    obtain ⟨kvs, e, p⟩ := p
    obtain ⟨a, es, rfl, ha, b, hz⟩ := td_at s rd e
    refine ⟨a, es, rfl, ha, b.nks, by rw [← b.len]; exact hz, ?_⟩
    rw [← b.len]
    exact w _ _ _ _ _ p (.refl _ _) s (.int _)
theorem cd_listT (hc : X.calm = true) : CallD X (.type "list") listTF := by
  refine ⟨_, cr_listN hc, fun m S H xs vs P Q s r p w => ?_⟩
  match xs, p with
  | [d], p =>
    obtain ⟨v, rfl, rd⟩ := r.one rfl
    obtain ⟨kvs, e, p⟩ := p
    obtain ⟨a, es, rfl, ha, b, hz⟩ := td_at s rd e
    refine ⟨a, es, rfl, ha, b.nks, by rw [← b.len]; exact hz, fun q hq => ?_⟩
    obtain ⟨g, s2, r2⟩ := new_lst s hq b.keysR (by rw [List.length_map]; exact hz)
    exact w _ _ _ _ _ p g s2 r2
theorem re_vals {x : Str} {p pos apos cpos : Pos} {e : Expr} {f : FE} (hc : X.calm = true) (hg : Gl X x) (hm : X.mg x = none) (hv : bootBuiltins x = some (.type "list")) (he : RE X e f) (hn : x ≠ "__name__" := by decide) (hdb : (x == ("__debug__" : Str)) = false := by decide)
    (hbase : attributeBase e "values" X.env (eval e X.env) = eval e X.env := by rfl) (hline : (apos.endLine == cpos.line) = true := by rfl)
    (hst : starEach [Expr.Call (.Attribute e "values" apos) [] [] cpos] X.env = (false, eval (.Call (.Attribute e "values" apos) [] [] cpos) X.env) :: starEach [] X.env := by rfl) :
    RE X (.Call (.Name x p) [.Call (.Attribute e "values" apos) [] [] cpos] [] pos) (eVals f) := by
  refine pe_w (pe_listVals hc hg hm hv he hn hdb hbase hline hst) fun σ H Q q => ?_
  obtain ⟨m, σd, S, P, s, rs, p, w⟩ := q
  refine ⟨m, σd, S, _, s, rs, p, fun d S1 m1 v H1 ⟨kvs, e, p1⟩ g1 s1 r1 => ?_⟩
  obtain ⟨a, es, rfl, ha, b, hz⟩ := td_at s1 r1 e
  refine ⟨a, es, rfl, ha, b.nks, by rw [← b.len]; exact hz, fun q hq => ?_⟩
  obtain ⟨g, s2, r2⟩ := new_lst s1 hq b.valsR (by rw [List.length_map]; exact hz)
  exact w _ _ _ _ _ p1 (g1.trans g) s2 r2
theorem re_dictN {pos : Pos} : RE X (.Dict [] [] pos) eDictN := by
  refine pe_w pe_dnewN fun σ H Q q => ?_
  obtain ⟨m, σd, S, P, s, rs, p, w⟩ := q
  intro a ha
  obtain ⟨g, s2, r2⟩ := new_tdc s ha .nil (Nat.zero_le _)
  exact w _ _ _ _ _ p g s2 r2
end
end SD
/-! SNd: dict comprehensions whose keys are tuples. -/
namespace SD
open PySem PySem.Spec PyProof.Rows L2
theorem dictSetN {Y : Cx} {pins : List (Addr × Obj)} {σ : L2.St} {H : Hp} {s : Shared} {E : Value → Shared → Prop} {D b : Addr} {es : List TE3} {k : NestedKey} {v : V} {r : Value} {Q : Unit → Shared → Prop} (hu : Y.A.units + 65 < cLine) (I : Inv Y pins σ H s)
    (e : H D = some (tdO Y.w D es)) (ne : NKs (kW Y) H es) (nk : NK1 (kW Y) H k b) (hz : es.length < sizeLine) (rv : RelV v r) (h : ∀ s', Inv Y pins σ (upd H D (tdO Y.w D (putT es k b v))) s' → Q () s') :
    wpAny (model Y.prog Y.w) Y.A (dictSet D (.ref b) r) Q E s := by
  obtain ⟨hd, xs, pt, dd⟩ := td_rd I (.inl e) ne
  have room : (nestedKind Y.prog Y.w).room Y.A := by show Y.A.units + 8 < cLine; omega
  exact wpAny_dictSet_heap (hsz := by rw [← Paired.length pt]; omega) room (NK1.is I nk) dd fun h' dd' hs => h _ (td_write I e hd (pt.put k b rv) dd' hs)
/-- behind a turn: the block's own names forgotten, the iterator's things as they stood -/
theorem turn_back {Y : Cx} {P : Program} {w : World} {K : PySem.W.Frag} {σ σ8 : L2.St} {vs : List Nat} {fp : List Addr} {h7 : Heap} {H' : Hp} {s' : Shared} {tg : Expr} {J : It} {it : Addr} {tn : Nat → Heap → Prop} {i : Nat} (T : Turn P w K tg J fp it tn) (hw : wipe σ8 vs = wipe σ vs) (st : tn i h7)
    (I' : Inv Y ([] ++ pinsAt fp h7) σ8 H' s') : Inv Y [] (wipe σ vs) H' s' ∧ tn i s'.heap ∧ ∀ b ∈ fp, H' b = none := by
  have there : ∀ b ∈ fp, ∀ o, h7.get? b = some o → s'.heap.get? b = some o ∧ H' b = none := fun b hb o e => by
    have q := I'.pin (b, o) (List.mem_append.mpr (.inr (List.mem_append.mpr (.inr (mem_pinsAt hb e)))))
    exact ⟨q.1, q.2.1⟩
  refine ⟨Inv.weak (Inv.unpinned I') (by rw [← hw, wipe_length]) fun j v e => ?_, T.keep _ _ _ st fun b hb o e => (there b hb o e).1, fun b hb => ?_⟩
  · rw [← hw] at e
    exact (wipe_some e).1
  · obtain ⟨o, e, _⟩ := T.obj _ _ st b hb
    exact (there b hb o e).2
/-- {k: v for target in iter if ..}, keys tuples: D the new dict -/
def tDcN (K : KW) (wi : TI) (g : TG) (tt : TT) (tk tv : TE) (vs : List Nat) : TE := fun σ H Q => wi σ H fun J H1 => ∀ D, H1 D = none → ∃ W : Nat → Nat → Hp → Prop, (∃ m, W 0 m (upd H1 D (tdO K.w D []))) ∧ ∀ i m H, W i m H →
  (J.stop i H ∧ Q (.ref D) H) ∨ (J.go i H ∧ ∃ Nx : Hp → Prop, (∀ H', Nx H' → ∃ m', m' < m ∧ W (i + 1) m' H') ∧ ∀ x H', J.yld i H x H' → g x (wipe σ vs) H' fun σ2 H2 => wipe σ2 vs = wipe σ vs ∧ tt σ2 H2 fun b H3 =>
    if b = true then tk σ2 H3 fun y H4 => tv σ2 H4 fun z H5 => ∃ es k c, y = .ref c ∧ H5 D = some (tdO K.w D es) ∧ NKs K H5 es ∧ NK1 K H5 k c ∧ es.length < sizeLine ∧ Nx (upd H5 D (tdO K.w D (putT es k c z))) else Nx H3)
section
variable {X : Cx} {kx vx tg iter : Expr} {ifs : List Expr} {scope : Scope} {own : List (Str × Nat)} {pos : Pos} {g : TG} {tt : TT} {tk tv : TE}
abbrev blkC (X : Cx) (s : Shared) (H : Hp) (scope : Scope) (C : Addr) (cl : List (Str × Addr)) (fp : List Addr) : Cx := X.blk s H scope (compEnvC scope cl C X.env) fp
/-- the loop, in the block's context Y -/
theorem dcN_loop {Y : Cx} {P : Program} {w : World} {K : PySem.W.Frag} {R : Result → Shared → Prop} {J : It} {it D : Addr} {fp : List Addr} {tn : Nat → Heap → Prop} {σ : L2.St} {vs : List Nat} {W : Nat → Nat → Hp → Prop} {Z : Hp → Prop} (hP : Y.prog = P) (hw : Y.w = w) (hK : Y.K = K) (hcl : Y.calm = true) (hu : Y.A.units + 65 < cLine)
    (hxe : Y.xe = fun _ _ => False)
    (T : Turn P w K tg J fp it tn) (pg : PG Y tg g) (pt : PTs Y ifs tt) (pk : PE Y kx tk) (pv : PE Y vx tv)
    (stat : ∀ {σ' : L2.St} {H' : Hp} {s' : Shared}, Inv Y [] σ' H' s' → (∀ b ∈ fp, H' b = none) → ∀ b ∈ fp, FpOk Y [] H' b)
    (turn : ∀ i m H, W i m H → (J.stop i H ∧ Z H) ∨ (J.go i H ∧ ∃ Nx : Hp → Prop, (∀ H', Nx H' → ∃ m', m' < m ∧ W (i + 1) m' H') ∧ ∀ x H', J.yld i H x H' → g x (wipe σ vs) H' fun σ2 H2 => wipe σ2 vs = wipe σ vs ∧ tt σ2 H2 fun b H3 =>
      if b = true then tk σ2 H3 fun y H4 => tv σ2 H4 fun z H5 => ∃ es k c, y = .ref c ∧ H5 D = some (tdO w D es) ∧ NKs (kW Y) H5 es ∧ NK1 (kW Y) H5 k c ∧ es.length < sizeLine ∧ Nx (upd H5 D (tdO w D (putT es k c z))) else Nx H3))
    (hR : ∀ H' s', Inv Y [] (wipe σ vs) H' s' → Z H' → R (.ok .next) s') {s : Shared} {H : Hp} {m0 : Nat} (I : Inv Y [] (wipe σ vs) H s) (st : tn 0 s.heap) (nf : ∀ b ∈ fp, H b = none) (w0 : W 0 m0 H) :
    codeAny (model P w) Y.A (.compLoop (.DictComp kx vx [⟨tg, iter, ifs, 0⟩] scope pos) 0 (.ref it) (.ref D) Y.env) R s := by
  subst hP hw hK
  refine compLoop_anyD (fun n s' => ∃ i H', Inv Y [] (wipe σ vs) H' s' ∧ tn i s'.heap ∧ (∀ b ∈ fp, H' b = none) ∧ W i n H') (fun n s5 q => ?_) m0 ⟨0, H, I, st, nf, w0⟩
  obtain ⟨i, H5, I5, st5, n5, w5⟩ := q
  rcases turn i n H5 w5 with ⟨stop, z⟩ | ⟨go, Nx, hNx, step⟩
  · refine thnF (T.done Y rfl rfl rfl hcl i [] s5 _ H5 (fun _ _ => False) I5 (stat I5 n5) st5 stop) fun r s6 q => ?_
    obtain ⟨rfl, I6⟩ := q
    exact hR H5 s6 I6 z
  · refine thnF (T.item Y rfl rfl rfl hcl i [] s5 _ H5 (fun _ _ => False) I5 (stat I5 n5) st5 go) fun r s6 q => ?_
    obtain ⟨u, rfl, q⟩ := q
    refine thnF q fun _ s7 q => ?_
    obtain ⟨x, H7, I7, r7, y7, st7, n7⟩ := q
    have back : ∀ {σ8 : L2.St} {s' : Shared} {H' : Hp}, wipe σ8 vs = wipe σ vs → Inv Y ([] ++ pinsAt fp s7.heap) σ8 H' s' → Nx H' → ∃ m, m < n ∧ ∃ i H', Inv Y [] (wipe σ vs) H' s' ∧ tn i s'.heap ∧ (∀ b ∈ fp, H' b = none) ∧ W i m H' := fun hw8 I' nx => by
      obtain ⟨m', hm, w'⟩ := hNx _ nx
      obtain ⟨a, b, c⟩ := turn_back T hw8 st7 I'
      exact ⟨m', hm, i + 1, _, a, b, c, w'⟩
    have I7' := Inv.pinned I7 (stat I7 n7) (T.obj _ _ st7)
    have up : ∀ {α : Type} {t : Sem α} {Qa Qb : α → Shared → Prop} {s' : Shared}, wpAny (model Y.prog Y.w) Y.A t Qa Y.xe s' → (∀ a s, Qa a s → Qb a s) → wpAny (model Y.prog Y.w) Y.A t Qb (notedBy (model Y.prog Y.w) Y.A Y.env fun e s' => R (.error e) s') s' := fun h k => by
      rw [hxe] at h
      exact thnF h k
    refine up (pg.run _ s7 _ H7 x u _ I7' r7 (step x H7 y7)) fun _ s8 q => ?_
    obtain ⟨σ8, H8, I8, hw8, q8⟩ := q
    refine up (pt.run _ s8 σ8 H8 _ I8 q8) fun b s9 q => ?_
    obtain ⟨H9, I9, q9⟩ := q
    cases b with
    | false =>
      rw [if_neg (by decide)] at q9 ⊢
      exact back hw8 I9 q9
    | true =>
      rw [if_pos rfl] at q9 ⊢
      refine up (pk.run _ s9 σ8 H9 _ I9 q9) fun kv s10 q => ?_
      obtain ⟨yk, H10, I10, r10, q10⟩ := q
      refine up (pv.run _ s10 σ8 H10 _ I10 q10) fun vv s11 q => ?_
      obtain ⟨yv, H11, I11, r11, es, k, c, rfl, hD, ne, nk, hz, nx⟩ := q
      cases r10
      exact dictSetN hu I11 hD ne nk hz r11 fun s12 I12 => back hw8 I12 nx
/-- {k: v for ..}, its keys tuples, whatever becomes of it -/
theorem dcN_core {wi : TI} {pins : List (Addr × Obj)} {s : Shared} {σ : L2.St} {H : Hp} {Q : VK} {pos' : Pos} {use : Option (Value → Sem Unit)} {Qf : Value → Shared → Prop} (hc : X.calm = true) (hu : X.A.units + 65 < cLine) (hN : X.N.Nodup) (I : Inv X pins σ H s) (hi : PI X tg iter wi) (ok : BlkOk X.N X.env.scope scope own)
    (hg : ∀ s H C cl fp, PG (blkC X s H scope C cl fp) tg g) (ht : ∀ s H C cl fp, PTs (blkC X s H scope C cl fp) ifs tt) (hk : ∀ s H C cl fp, PE (blkC X s H scope C cl fp) kx tk) (he : ∀ s H C cl fp, PE (blkC X s H scope C cl fp) vx tv)
    (hs : ∀ x, foldedSetIterable iter X.env x = pure x) (h : tDcN (kW X) wi g tt tk tv (own.map (·.2)) σ H Q)
    (then_ : ∀ D C s' m H', Inv X pins σ H' s' → Q (.ref D) H' → s'.heap.Ns C m → FpOk X pins H' C → compPost (model X.prog X.w) X.A X.xe use Qf (.ref D) C (.ok .next) s') :
    wpAny (model X.prog X.w) X.A (comprehension (.DictComp kx vx [⟨tg, iter, ifs, 0⟩] scope pos) scope X.env pos' newDict false (eval iter X.env) use) Qf X.xe s := by
  refine wpAny_comprehension_free (use := use) rfl hs (closure_ok fun y hy e => (ok.free y hy e).elim (fun z => I.ok.has _ (.inl z)) fun z => I.ok.has _ (.inr z)) ok.kind (fun y hy e => by rw [ok.uniq y hy, e]) (thn (hi.run pins s σ H _ I h) fun xv s1 hx => thn hx fun itv s2 h2 => ?_)
  obtain ⟨it, fp, tn, J, H2, rfl, I2, T, st2, f2, q⟩ := h2
  refine wpAny_newObj_type (newEnv_comp ?_)
  have hDn : H2 s2.heap.objs.size = none := I2.hok.fresh (Nat.le_refl _)
  obtain ⟨W, ⟨m0, w0⟩, turn⟩ := q s2.heap.objs.size hDn
  have I3 : Inv X pins σ (upd H2 s2.heap.objs.size (tdO X.w s2.heap.objs.size [])) { s2 with heap := s2.heap.push { cls := .type "dict", data := .dict #[] } } :=
    I2.laid (t' := s2.toks) (fun _ _ e => Heap.get?_push_of_some _ e) (Nat.le_refl _) (td_empty s2.heap I2.big)
  have old : ∀ b ∈ fp, b < s2.heap.objs.size := fun b hb => by
    obtain ⟨o, e, _⟩ := T.obj _ _ st2 b hb
    exact Heap.lt_size e
  have f3 : ∀ b ∈ fp, FpOk X pins (upd H2 s2.heap.objs.size (tdO X.w s2.heap.objs.size [])) b ∧ b < (s2.heap.push { cls := .type "dict", data := .dict #[] }).objs.size := fun b hb => by
    have lt := old b hb
    refine ⟨⟨?_, (f2 b hb).2⟩, by rw [Heap.size_push]; exact Nat.lt_succ_of_lt lt⟩
    rw [upd_ne (Nat.ne_of_lt lt)]
    exact (f2 b hb).1
  have st3 : tn 0 (s2.heap.push { cls := .type "dict", data := .dict #[] }) := T.keep _ _ _ st2 fun b _ o e => Heap.get?_push_of_some _ e
  generalize hs3 : ({ s2 with heap := s2.heap.push { cls := .type "dict", data := .dict #[] } } : Shared) = s3 at I3
  have e3 : s2.heap.push { cls := .type "dict", data := .dict #[] } = s3.heap := by rw [← hs3]
  rw [e3] at f3 st3
  generalize hH3 : upd H2 s2.heap.objs.size (tdO X.w s2.heap.objs.size []) = H3 at I3 f3
  have w0 : W 0 m0 H3 := by rw [← hH3]; exact w0
  have I4 := block_start I3 ok hN f3
  have pg := hg s3 H3 s3.heap.objs.size (cellsFrom (s3.heap.objs.size + 1) scope.names (cloFrom X.env.cells scope.names [])) fp
  have pt := ht s3 H3 s3.heap.objs.size (cellsFrom (s3.heap.objs.size + 1) scope.names (cloFrom X.env.cells scope.names [])) fp
  have pk := hk s3 H3 s3.heap.objs.size (cellsFrom (s3.heap.objs.size + 1) scope.names (cloFrom X.env.cells scope.names [])) fp
  have pv := he s3 H3 s3.heap.objs.size (cellsFrom (s3.heap.objs.size + 1) scope.names (cloFrom X.env.cells scope.names [])) fp
  show codeAny _ _ (.compStart _ 0 (.ref it) (.ref s2.heap.objs.size) (compEnvC scope (cellsFrom (s3.heap.objs.size + 1) scope.names (cloFrom X.env.cells scope.names [])) s3.heap.objs.size X.env)) (compPost (model X.prog X.w) X.A X.xe use Qf (.ref s2.heap.objs.size) s3.heap.objs.size) _
  have cL : (compEnvC scope (cellsFrom (s3.heap.objs.size + 1) scope.names (cloFrom X.env.cells scope.names [])) s3.heap.objs.size X.env).locals = s3.heap.objs.size := rfl
  unfold blkC at pg pt pk pv
  generalize compEnvC scope (cellsFrom (s3.heap.objs.size + 1) scope.names (cloFrom X.env.cells scope.names [])) s3.heap.objs.size X.env = ce at I4 pg pt pk pv cL ⊢
  have st4 : tn 0 (pushCells (s3.heap.push { cls := .type "dict", data := .dict #[] }) scope.names) := T.keep _ _ _ st3 fun b _ o e => pushCells_keeps _ _ _ _ (Heap.get?_push_of_some _ e)
  generalize hs4 : ({ s3 with heap := pushCells (s3.heap.push { cls := .type "dict", data := .dict #[] }) scope.names } : Shared) = s4 at I4
  have st4 : tn 0 s4.heap := by rw [← hs4]; exact st4
  have loop := dcN_loop (kx := kx) (vx := vx) (iter := iter) (scope := scope) (pos := pos) (Y := X.blk s3 H3 scope ce fp) (D := s2.heap.objs.size) (R := compPost (model X.prog X.w) X.A X.xe use Qf (.ref s2.heap.objs.size) s3.heap.objs.size) rfl rfl rfl hc hu rfl T pg pt pk pv
    (fun {σ' H' s'} I' hn b hb => ⟨hn b hb, (I'.ok.exf b hb).1, I'.ok.exfs b hb, .inl hb, fun x c e => (I'.ok.exf b hb).2 x c e, fun p hp => by cases hp⟩) turn
    (fun H' s' I' z => by
      have I7 : Inv X pins σ H' s' := I3.call' (ch := fp) I'.os I'.base I'.hok I'.bare fun b hb => ⟨(f3 b hb).1.2.2.2.1, (f3 b hb).1.2.1, (f3 b hb).1.2.2.2.2.1, (f3 b hb).1.2.2.2.2.2⟩
      have nC : H' s3.heap.objs.size = none := by
        have q : H' ce.locals = none := I'.free
        rw [cL] at q; exact q
      obtain ⟨m, hn, _⟩ := I'.loc
      have hn : s'.heap.Ns s3.heap.objs.size m := by
        have q : s'.heap.Ns ce.locals m := hn
        rw [cL] at q; exact q
      exact then_ _ _ s' m H' I7 z hn (I3.fpOk (Nat.le_refl _) nC))
    I4 st4 (fun b hb => (f3 b hb).1.1) w0
  exact codeAny_compStart_dict loop (T.self X.A 0 _ _ _ st4 loop)
/-- as a value -/
theorem pe_dcN {wi : TI} (hc : X.calm = true) (hu : X.A.units + 65 < cLine) (hN : X.N.Nodup) (hi : PI X tg iter wi) (ok : BlkOk X.N X.env.scope scope own)
    (hg : ∀ s H C cl fp, PG (blkC X s H scope C cl fp) tg g) (ht : ∀ s H C cl fp, PTs (blkC X s H scope C cl fp) ifs tt) (hk : ∀ s H C cl fp, PE (blkC X s H scope C cl fp) kx tk) (he : ∀ s H C cl fp, PE (blkC X s H scope C cl fp) vx tv)
    (hs : ∀ x, foldedSetIterable iter X.env x = pure x := by intro _; rfl) : PE X (.DictComp kx vx [⟨tg, iter, ifs, 0⟩] scope pos) (tDcN (kW X) wi g tt tk tv (own.map (·.2))) := by
  refine ⟨fun pins s σ H Q I h => ?_⟩
  rw [arm_eval_DictComp]
  refine dcN_core hc hu hN I hi ok hg ht hk he hs h fun D C s' m H' I' q hn f => ?_
  obtain ⟨k0, k1, k2, k3, k4, k5⟩ := f
  exact ⟨m, hn, fun h'' sb => ⟨.ref D, H', I'.turned (t' := s'.toks) (fun b o hb e => (sb.2 b hb).trans e) k0 k1 k3 k4 k5, rfl, q⟩⟩
end
/-! ### over D -/
def dcT (ok : Store → Prop) (g : FG) (t : FT) (fk fv : FE) (n0 : Nat) (Q : Store → Prop) (σ : Slots) : List D → Store → Prop
  | [], S => ok S ∧ Q S
  | x :: xs, S => ok S ∧ g x σ S fun σ2 S2 => t σ2 S2 fun b S3 => if b = true then fk σ2 S3 fun k S4 => fv σ2 S4 fun v S5 => ∃ acc, tkD k = true ∧ S5[n0]? = some (.tdc acc) ∧ acc.length < sizeLine ∧ dcT ok g t fk fv n0 Q σ xs (S5.set n0 (.tdc (putD acc k v)))
      else dcT ok g t fk fv n0 Q σ xs S3
def eDcN (f : FI) (g : FG) (t : FT) (fk fv : FE) (vs : List Nat) : FE := fun σ S Q => f σ S fun ok xs S1 => xs.length ≤ sizeLine → dcT ok g t fk fv S1.length (fun S' => Q (.ref S1.length) S') (wipeD σ vs) xs (S1 ++ [.tdc []])
theorem tOf_dcN {K : KW} {g : TG} {gd : FG} {vs : List Nat} (hg : PGD K vs g gd) {f : FI} {t : FT} {fk fv : FE} {σ : L2.St} {H : Hp} {Q : VK} (h : tOf K (eDcN f gd t fk fv vs) σ H Q) : tDcN K (tOfI K f) g (tOfT K t) (tOf K fk) (tOf K fv) vs σ H Q := by
  obtain ⟨m, σd, S, P, s, r, p, w⟩ := h
  refine ⟨m, σd, S, _, s, r, p, fun ok xs S1 m1 H1 J p1 g1 s1 wk => fun D hD => ?_⟩
  have p1 := p1 wk.few
  obtain ⟨gN, sN, rN⟩ := new_tdc s1 hD .nil (Nat.zero_le _)
  have hm : (m1 ++ [D])[S1.length]? = some D := by rw [← s1.len]; simp
  refine ⟨fun i n H2 => n = xs.length - i ∧ i ≤ xs.length ∧ ∃ m2 S2, Sim K m2 S2 H2 ∧ Grow (m1 ++ [D]) (upd H1 D (tdO K.w D [])) m2 H2 ∧ dcT ok gd t fk fv S1.length (fun S' => P (.ref S1.length) S') (wipeD σd vs) (xs.drop i) S2, ⟨xs.length, by simp, Nat.zero_le _, _, _, sN, .refl _ _, p1⟩, ?_⟩
  rintro i n H2 ⟨rfl, hi, m2, S2, s2, g2, h2⟩
  by_cases hlt : i < xs.length
  · have ed : xs.drop i = xs[i] :: xs.drop (i + 1) := List.drop_eq_getElem_cons hlt
    rw [ed] at h2
    obtain ⟨hok, h2⟩ := h2
    obtain ⟨go, yl⟩ := wk.go i m2 S2 H2 xs[i] (gN.trans g2) s2 hok (by simp [hlt])
    refine .inr ⟨go, fun H' => ∃ m3 S3, Sim K m3 S3 H' ∧ Grow (m1 ++ [D]) (upd H1 D (tdO K.w D [])) m3 H' ∧ dcT ok gd t fk fv S1.length (fun S' => P (.ref S1.length) S') (wipeD σd vs) (xs.drop (i + 1)) S3, fun H' ⟨m3, S3, s3, g3, h3⟩ => ⟨xs.length - (i + 1), by omega, rfl, hlt, m3, S3, s3, g3, h3⟩, fun x H3 hy => ?_⟩
    obtain ⟨g3, s3, rx⟩ := yl x H3 hy
    refine hg m2 S2 H3 σ (wipeD σd vs) xs[i] x _ _ s3 ((r.wipe vs).up (g1.trans (gN.trans (g2.trans g3)))) rx h2 fun σd4 S4 m4 σ4 H4 p4 g4 s4 r4 hw => ⟨hw, ?_⟩
    refine ⟨m4, σd4, S4, _, s4, r4, p4, fun b S5 m5 H5 p5 g5 s5 => ?_⟩
    cases b with
    | false =>
      rw [if_neg (by decide)] at p5
      exact iteF ⟨m5, S5, s5, g2.trans (g3.trans (g4.trans g5)), p5⟩
    | true =>
      rw [if_pos rfl] at p5
      refine iteT ⟨m5, σd4, S5, _, s5, r4.up g5, p5, fun y S6 m6 vy H6 p6 g6 s6 r6 => ?_⟩
      refine ⟨m6, σd4, S6, _, s6, r4.up (g5.trans g6), p6, fun z S7 m7 vz H7 ⟨acc, hk, e7, hz, p7⟩ g7 s7 r7 => ?_⟩
      have gg := g2.trans (g3.trans (g4.trans (g5.trans (g6.trans g7))))
      have hm7 := gg.at hm
      have rc := s7.cell _ _ _ hm7 e7
      obtain ⟨k, c, rfl, ek, hd, rk⟩ := tk_ref r6 hk
      subst ek
      generalize eo : H7 D = o at rc
      cases rc with
      | @tdc _ es hz2 b =>
        have g8 := Grow.write s7 hm7 e7 rfl (tdO K.w D (putT es k c vz))
        refine ⟨es, k, c, rfl, eo, b.nks, ⟨hd, m7, rk.up g7⟩, by rw [← b.len]; exact hz, m7, _, s7.write hm7 e7 rfl (.tdc ?_ ((b.up g8).put hd (rk.up (g7.trans g8)) (r7.up g8))), gg.trans g8, p7⟩
        have := length_putD acc (keyN k) z
        omega
  · have ei : i = xs.length := by omega
    subst ei
    rw [List.drop_length] at h2
    exact .inl ⟨wk.stop _ m2 S2 H2 (gN.trans g2) s2 h2.1 (Nat.le_refl _), w _ _ _ _ _ h2.2 (g1.trans (gN.trans g2)) s2 (.ref (g2.at hm))⟩
section
variable {X : Cx} {kx vx tg iter : Expr} {ifs : List Expr} {scope : Scope} {own : List (Str × Nat)} {pos spos py : Pos} {g : TG} {gd : FG} {f : FI} {t : FT} {fk fv : FE} {i : Nat} {y : Str}
theorem re_dcN (hc : X.calm = true) (hu : X.A.units + 65 < cLine) (hN : X.N.Nodup) (hi : RI X tg iter f) (ok : BlkOk X.N X.env.scope scope own) (hgd : PGD (kW X) (own.map (·.2)) g gd)
    (hg : ∀ s H C cl fp, PG (blkC X s H scope C cl fp) tg g) (ht : ∀ s H C cl fp, RTs (blkC X s H scope C cl fp) ifs t) (hk : ∀ s H C cl fp, RE (blkC X s H scope C cl fp) kx fk) (he : ∀ s H C cl fp, RE (blkC X s H scope C cl fp) vx fv)
    (hs : ∀ x, foldedSetIterable iter X.env x = pure x := by intro _; rfl) : RE X (.DictComp kx vx [⟨tg, iter, ifs, 0⟩] scope pos) (eDcN f gd t fk fv (own.map (·.2))) :=
  pe_w (pe_dcN (tt := tOfT (kW X) t) (tk := tOf (kW X) fk) (tv := tOf (kW X) fv) hc hu hN hi ok hg ht hk he hs) fun _ _ _ q => tOf_dcN hgd q
theorem rs_setDcN (hc : X.calm = true) (hu : X.A.units + 65 < cLine) (hN : X.N.Nodup) (hi : RI X tg iter f) (ok : BlkOk X.N X.env.scope scope own) (hgd : PGD (kW X) (own.map (·.2)) g gd)
    (hg : ∀ s H C cl fp, PG (blkC X s H scope C cl fp) tg g) (ht : ∀ s H C cl fp, RTs (blkC X s H scope C cl fp) ifs t) (hk : ∀ s H C cl fp, RE (blkC X s H scope C cl fp) kx fk) (he : ∀ s H C cl fp, RE (blkC X s H scope C cl fp) vx fv)
    (hsw : swapsWith (.DictComp kx vx [⟨tg, iter, ifs, 0⟩] scope pos) (some (.Name y py)) spos.line X.env = pure true) (hy : X.N[i]? = some y := by rfl) (hyl : X.env.scope.names.lookup y = some .local := by rfl) (hs : ∀ x, foldedSetIterable iter X.env x = pure x := by intro _; rfl) :
    RS X (.Assign [.Name y py] (.DictComp kx vx [⟨tg, iter, ifs, 0⟩] scope pos) spos) (sAsg (eDcN f gd t fk fv (own.map (·.2))) (gNm i)) := by
  refine ⟨fun pins s σ H D I q => ?_⟩
  obtain ⟨m, σd, S, E, s0, r0, p0, w0⟩ := q
  have q : tDcN (kW X) (tOfI (kW X) f) g (tOfT (kW X) t) (tOf (kW X) fk) (tOf (kW X) fv) (own.map (·.2)) σ H (fun x H1 => gName i x σ H1 D.nx) :=
    tOf_dcN hgd ⟨m, σd, S, _, s0, r0, p0, fun d S1 m1 v H1 p1 g1 s1 r1 => w0.nx _ _ _ _ _ p1 g1 s1 ((r0.up g1).set r1 i)⟩
  rw [exec_Assign_Name_used _ _ _ _ hsw]
  refine wpAny_bind (wpAny_standAt (wpAny_bind ?_))
  show wpAny _ X.A (do
    let _ ← comprehension (.DictComp kx vx [⟨tg, iter, ifs, 0⟩] scope pos) scope X.env (firstIterPos [⟨tg, iter, ifs, 0⟩] pos) newDict false (eval iter X.env) (some (assign (.Name y py) X.env))) _ _ s
  refine wpAny_bind (thn (dcN_core (Qf := fun _ s1 => SP X pins D .next s1) hc hu hN I hi ok hg ht hk he hs q fun L C s1 m1 H1 I1 q1 hn ⟨f0, f1, f2, f3, f4, f5⟩ => ?_) fun _ s2 z => wpAny_pure (wpAny_pure z))
  show wpAny _ _ (assign (.Name y py) X.env (.ref L)) _ _ _
  refine wpAny_assign_Name (store_ok2 (v := V.ref L) I1 hN hy (.inl hyl) rfl (fun s2 I2 ⟨a, sb, ha⟩ => ?_) (.inr hyl))
  have off : C ≠ a := by
    rcases ha with z | z
    · subst z; exact f1
    · exact fun e => f4 y a z e.symm
  exact ⟨m1, hn.sameBut sb off, fun h3 sb3 => ⟨_, H1, I2.turned (t' := s2.toks) (fun b o hb e => (sb3.2 b hb).trans e) f0 f1 f3 f4 f5, q1⟩⟩
end
end SD
/-! SNe: a dict by tuples walked, locked meanwhile. -/
namespace SD
open PySem PySem.Spec PyProof.Rows L2
/-- the keys' tuples, in order -/
def ItN (w : World) (d : Addr) (od : Obj) (es : List TE3) : It :=
  ⟨fun i H => H d = some (.frz od (tdO w d es)) ∧ i < es.length, fun i H x H' => H' = H ∧ ∃ e, es[i]? = some e ∧ x = .ref e.2.1, fun i H => H d = some (.frz od (tdO w d es)) ∧ es.length ≤ i⟩
theorem frz_td {X : Cx} {pins : List (Addr × Obj)} {σ : L2.St} {H : Hp} {s : Shared} {d : Addr} {od : Obj} {es : List TE3} (I : Inv X pins σ H s) (h : H d = some (.frz od (tdO X.w d es))) :
    (d == sysModules) = false ∧ s.heap.get? d = some od ∧ od.ExactDict ∧ ∃ des ep, od.data = .dict des ep ∧ des.size = es.length ∧ ∀ (i : Nat) (e : TE3), es[i]? = some e → ∃ en : DictEntry, des[i]? = some en ∧ en.key = Value.ref e.2.1 := by
  obtain ⟨hg, ⟨hd, xs, pt, o, des, ep, h1, h2, h3, h4, _⟩, _, _⟩ := (show ObjOk X.prog X.w H s.heap d (.frz od (tdO X.w d es)) from I.hok d _ h)
  rw [hg] at h1
  cases h1
  have hl : des.size = xs.length := by
    have := congrArg List.length h4
    simpa using this
  refine ⟨hd, hg, h2, des, ep, h3, by rw [hl]; exact (Paired.length pt).symm, fun i e he => ?_⟩
  have hx : ∀ {es : List TE3} {xs : List (NestedKey × Addr × Value)}, PT es xs → ∀ (i : Nat) (e : TE3), es[i]? = some e → ∃ x : NestedKey × Addr × Value, xs[i]? = some x ∧ e.2.1 = x.2.1 := by
    intro es xs pt
    induction pt with
    | nil => intro i e z; simp at z
    | @cons a b _ _ h t ih =>
      intro i e z
      cases i with
      | zero => simp at z; subst z; exact ⟨b, rfl, h.2.1⟩
      | succ i => exact ih i e (by simpa using z)
  obtain ⟨x, q1, q2⟩ := hx pt i e he
  have q3 : des.toList[i]? = some (⟨x.1.hash X.w, .ref x.2.1, x.2.2⟩ : DictEntry) := by rw [h4, List.getElem?_map, q1]; rfl
  exact ⟨_, by rw [← Array.getElem?_toList]; exact q3, by rw [q2]⟩
theorem turn_N {P : Program} {w : World} {K : PySem.W.Frag} {tg : Expr} {d it : Addr} {od : Obj} {es : List TE3} {des : Array DictEntry} {ep : Nat} (hod : od.data = .dict des ep) : Turn P w K tg (ItN w d od es) [it] it (fun i h => h.IsKeyIter it d i es.length ep) where
  mem := List.mem_singleton.mpr rfl
  obj := fun i h st b hb => by
    obtain rfl : b = it := List.mem_singleton.mp hb
    obtain ⟨oi, e, c, dd⟩ := st
    exact ⟨oi, e, fun v z => by rw [dd] at z; exact nomatch z⟩
  keep := fun i h h' st k => st.at fun oi e => k it (List.mem_singleton.mpr rfl) oi e
  item := by
    intro X hP hw hK hc i pins s σ H E I hf st hg
    subst hP hw hK
    obtain ⟨hd, hi⟩ := hg
    obtain ⟨f0, f1, f2, f3, f4, f5⟩ := hf it (List.mem_singleton.mpr rfl)
    obtain ⟨_, hgd, _, des', ep', hdt, hsz, ent⟩ := frz_td I hd
    obtain ⟨rfl, rfl⟩ := dict_ep hod hdt
    obtain ⟨e, he⟩ : ∃ e, es[i]? = some e := ⟨es[i], List.getElem?_eq_getElem hi⟩
    obtain ⟨en, hen, hkey⟩ := ent i e he
    refine next_key_item st hgd hdt hsz hen fun h' st' sb => ⟨en.key, rfl, ?_⟩
    have J : Inv X pins σ H { s with heap := h' } := I.turned (t' := s.toks) (fun b ob hb q => (sb.2 b hb).trans q) f0 f1 f3 f4 f5
    obtain ⟨oi, k1, k2, k3⟩ := id st'
    exact go_of (s := { s with heap := h' }) k1 k2 k3 (by decide) ⟨.ref e.2.1, H, J, hkey, ⟨rfl, e, he, rfl⟩, st', fun b hb => (hf b hb).1⟩
  done := by
    intro X hP hw hK hc i pins s σ H E I hf st hg
    subst hP hw hK
    obtain ⟨hd, hi⟩ := hg
    obtain ⟨f0, f1, f2, f3, f4, f5⟩ := hf it (List.mem_singleton.mpr rfl)
    obtain ⟨_, hgd, _, des', ep', hdt, hsz, _⟩ := frz_td I hd
    obtain ⟨rfl, rfl⟩ := dict_ep hod hdt
    exact next_key_end (I.ok.hd hc) st hgd hdt hsz hi fun h' eb => ⟨rfl, I.turned (t' := s.toks) (fun b ob hb q => eb b ob hb q) f0 f1 f3 f4 f5⟩
  self := fun A i s Q E st h => wpAny_pyIter_keyiter st h
def iKeysN (K : KW) (td : TE) : TI := fun σ H R => td σ H fun x H1 => ∃ d od es, x = .ref d ∧ H1 d = some (.frz od (tdO K.w d es)) ∧ R (ItN K.w d od es) H1
theorem pi_keysN {X : Cx} {tg e : Expr} {td : TE} (he : PE X e td) : PI X tg e (iKeysN (kW X) td) := by
  refine ⟨fun pins s σ H R I h => ?_⟩
  refine thn (he.run pins s σ H _ I h) fun u s1 ⟨x, H1, I1, rx, d, od, es, ex, hd, q⟩ => ?_
  subst ex
  cases rx
  obtain ⟨hs, hgd, hx, des, ep, hdt, hsz, _⟩ := frz_td I1 hd
  refine iter_keys hs hgd hx hdt (pi_one (tk := s1.toks) I1 _ (turn_N hdt) ⟨_, Heap.get?_push_size _ rfl, rfl, ?_⟩ q)
  rw [hsz] <;> rfl
/-- for k in d, d the name in slot i, a dict by tuples -/
def iKeysT (i : Nat) : FI := fun σ S R => ∃ n kvs, σ[i]? = some (some (.ref n)) ∧ S[n]? = some (.tlk kvs) ∧ R (fun S => S[n]? = some (.tlk kvs)) (kvs.map (·.1)) S
section
variable {X : Cx} {tg : Expr}
theorem ri_keysT (i : Nat) {x : Str} {pos : Pos} (hN : X.N[i]? = some x := by rfl) (hv : Vis X.env.scope x := by first | exact Or.inl rfl | exact Or.inr (Or.inl rfl) | exact Or.inr (Or.inr rfl)) (hd : (x == ("__debug__" : Str)) = false := by decide)
    (hcd : (x == ("__classdict__" : Str)) = false := by decide) : RI X tg (.Name x pos) (iKeysT i) := by
  refine pi_w (pi_keysN (pe_var hN hv hd hcd)) fun σ H R q => ?_
  obtain ⟨m, σd, S, P, s, r, ⟨n, kvs, e1, e2, p⟩, w⟩ := q
  obtain ⟨v, e3, rv⟩ := r.val i _ e1
  refine ⟨v, e3, ?_⟩
  cases rv with
  | @ref _ d a =>
    have rc := s.cell _ _ _ a e2
    generalize eo : H d = o at rc
    cases rc with
    | @tlk _ es od z b =>
      refine ⟨d, od, es, rfl, eo, w _ _ _ _ _ _ p (.refl _ _) s ⟨by rw [List.length_map]; exact z, fun i m2 S2 H2 d2 g s2 ok hd => ?_, fun i m2 S2 H2 g s2 ok hi => ?_⟩⟩
      · obtain ⟨v', e8, rv⟩ := (b.keysR.up g).get hd
        rw [List.getElem?_map] at e8
        cases e5 : es[i]? with
        | none => rw [e5] at e8; cases e8
        | some e =>
          rw [e5] at e8
          cases e8
          refine ⟨⟨g.frzs _ _ _ eo, (List.getElem?_eq_some_iff.mp e5).1⟩, fun x H3 y => ?_⟩
          obtain ⟨rfl, e', e6, rfl⟩ := y
          rw [e5] at e6; cases e6
          exact ⟨.refl _ _, s2, rv⟩
      · exact ⟨g.frzs _ _ _ eo, by rw [← b.len]; rw [List.length_map] at hi; exact hi⟩
end
def eLockT (i : Nat) (f : FE) : FE := fun σ S Q => ∃ n kvs, σ[i]? = some (some (.ref n)) ∧ S[n]? = some (.tdc kvs) ∧ f σ (S.set n (.tlk kvs)) fun d S' => S'[n]? = some (.tlk kvs) ∧ Q d (S'.set n (.tdc kvs))
def sLockT (i : Nat) (f : FS) : FS := fun E σ S => ∃ n kvs, σ[i]? = some (some (.ref n)) ∧ S[n]? = some (.tdc kvs) ∧
  f ⟨fun σ' S' => S'[n]? = some (.tlk kvs) ∧ E.nx σ' (S'.set n (.tdc kvs)), fun d S' => S'[n]? = some (.tlk kvs) ∧ E.rt d (S'.set n (.tdc kvs)), fun σ' S' => S'[n]? = some (.tlk kvs) ∧ E.bk σ' (S'.set n (.tdc kvs)), fun σ' S' => S'[n]? = some (.tlk kvs) ∧ E.ct σ' (S'.set n (.tdc kvs))⟩ σ (S.set n (.tlk kvs))
section
variable {K : KW} {m m' : List Addr} {H H' : Hp} {S S' : Store} {n : Nat} {p : Addr} {kvs : List (D × D)} {es : List TE3} {od : Obj}
theorem lockT_sim (s : Sim K m S H) (hp : m[n]? = some p) (hS : S[n]? = some (.tdc kvs)) (b : RKT K m H kvs es) (hz : kvs.length ≤ sizeLine) : Sim K m (S.set n (.tlk kvs)) (upd H p (.frz od (tdO K.w p es))) ∧ Grow m H m (upd H p (.frz od (tdO K.w p es))) := by
  have g := Grow.write s hp hS rfl (.frz od (tdO K.w p es))
  exact ⟨s.write hp hS rfl (.tlk hz (b.up g)), g⟩
theorem unlockT0 (hp : H p = some (.frz od (tdO K.w p es))) : Grow0 m H m (upd H p (tdO K.w p es)) := by
  refine ⟨List.prefix_refl _, fun a xs e => ?_, fun a o u _ hu e => ?_⟩
  · rw [upd_ne (fun z => by subst z; rw [hp] at e; cases e)]
    exact e
  · rw [upd_ne (fun z => by subst z; rw [hp] at e; cases e; exact hu _ rfl)]
    exact e
/-- the lock is taken away -/
theorem unlockT (s : Sim K m' S' H') (g : Grow m (upd H p (.frz od (tdO K.w p es))) m' H') (hp : m[n]? = some p) (hH : H p = some (tdO K.w p es)) (b : RKT K m H kvs es) (hz : kvs.length ≤ sizeLine) (hS : S'[n]? = some (.tlk kvs)) :
    H' p = some (.frz od (tdO K.w p es)) ∧ Sim K m' (S'.set n (.tdc kvs)) (upd H' p (tdO K.w p es)) ∧ Grow m H m' (upd H' p (tdO K.w p es)) ∧ Grow0 m' H' m' (upd H' p (tdO K.w p es)) := by
  have e : H' p = some (.frz od (tdO K.w p es)) := g.frzs _ _ _ upd_same
  have g0 : Grow0 m' H' m' (upd H' p (tdO K.w p es)) := unlockT0 e
  have gr : Grow m H m' (upd H' p (tdO K.w p es)) := by
    refine ⟨g.pre, fun a xs q => ?_, fun a o u q => ?_⟩
    · have ne : a ≠ p := fun z => by subst z; rw [hH] at q; cases q
      rw [upd_ne ne]
      exact g.tups _ _ (by rw [upd_ne ne]; exact q)
    · have ne : a ≠ p := fun z => by subst z; rw [hH] at q; cases q
      rw [upd_ne ne]
      exact g.frzs _ _ _ (by rw [upd_ne ne]; exact q)
  have hp' : m'[n]? = some p := g.at hp
  refine ⟨e, ⟨by rw [List.length_set]; exact s.len, s.nd, fun i q c a h => ?_⟩, gr, g0⟩
  by_cases hi : i = n
  · subst hi
    rw [hp'] at a; cases a
    rw [List.getElem?_set_self (List.getElem?_eq_some_iff.mp hS).1] at h
    cases h
    rw [upd_same]
    exact .tdc hz (b.up gr)
  · rw [List.getElem?_set_ne (Ne.symm hi)] at h
    have ne : q ≠ p := fun z => hi (nd_ix s.nd a (z ▸ hp'))
    rw [upd_ne ne]
    exact (s.cell i q c a h).up0 g0
end
section
variable {X : Cx}
theorem re_lockT {e : Expr} {f : FE} (i : Nat) (h : RE X e f) : RE X e (eLockT i f) := by
  refine pe_w (pe_lock h) fun σ H Q q => ?_
  obtain ⟨m, σd, S, P, s, r, ⟨n, kvs, e1, e2, p⟩, w⟩ := q
  obtain ⟨v, e3, rv⟩ := r.val i _ e1
  obtain ⟨d, es, rfl, a, hd, b, hz⟩ := tdc_at s rv e2
  refine ⟨d, _, hd, trivial, fun od => ?_⟩
  obtain ⟨s1, g1⟩ := lockT_sim (od := od) s a e2 b hz
  refine ⟨m, σd, _, _, s1, r.up g1, p, fun x S' m' v H' ⟨h3, p3⟩ g3 s3 r3 => ?_⟩
  obtain ⟨u1, u2, u3, u4⟩ := unlockT s3 g3 a hd b hz h3
  exact ⟨u1, w _ _ _ _ _ p3 u3 u2 (RD.mono u4 _ _ r3)⟩
theorem rs_lockT {st : Stmt} {f : FS} (i : Nat) (h : RS X st f) : RS X st (sLockT i f) := by
  refine ps_w (ps_lock h) fun D σ H q => ?_
  obtain ⟨m, σd, S, E, s, r, ⟨n, kvs, e1, e2, p⟩, w⟩ := q
  obtain ⟨v, e3, rv⟩ := r.val i _ e1
  obtain ⟨d, es, rfl, a, hd, b, hz⟩ := tdc_at s rv e2
  refine ⟨d, _, hd, trivial, fun od => ?_⟩
  obtain ⟨s1, g1⟩ := lockT_sim (od := od) s a e2 b hz
  refine ⟨m, σd, _, _, s1, r.up g1, p, ⟨fun σ' S' m' v H' ⟨h3, p3⟩ g3 s3 r3 => ?_, fun x S' m' v H' ⟨h3, p3⟩ g3 s3 r3 => ?_, fun σ' S' m' v H' ⟨h3, p3⟩ g3 s3 r3 => ?_, fun σ' S' m' v H' ⟨h3, p3⟩ g3 s3 r3 => ?_⟩⟩
  all_goals obtain ⟨u1, u2, u3, u4⟩ := unlockT s3 g3 a hd b hz h3
  · exact ⟨u1, w.nx _ _ _ _ _ p3 u3 u2 (r3.up0 u4)⟩
  · exact ⟨u1, w.rt _ _ _ _ _ p3 u3 u2 (RD.mono u4 _ _ r3)⟩
  · exact ⟨u1, w.bk _ _ _ _ _ p3 u3 u2 (r3.up0 u4)⟩
  · exact ⟨u1, w.ct _ _ _ _ _ p3 u3 u2 (r3.up0 u4)⟩
end
end SD
/-! SNf: sets of tuples of numbers, nested: what the model's table does with them. -/
namespace SD
open PySem PySem.Spec PyProof.Rows L2
mutual
/-- numbers and tuples of these alone -/
def numK : NestedKey → Bool
  | .num _ => true
  | .tup ks => numKs ks
  | _ => false
def numKs : List NestedKey → Bool
  | [] => true
  | k :: ks => numK k && numKs ks
end
abbrev NL := List (Addr × NestedKey)
section
variable {P : Program} {w : World} {A : Around} {E : Value → Shared → Prop} {s : Shared}
/-! ### two small questions -/
def ClsNo (P : Program) (w : World) (n : Nat) (s : Shared) (v : Value) : Prop := ∀ (A : Around) (E : Value → Shared → Prop) (Q : Bool → Shared → Prop), Q false s → wpAny (model P w) A (ofAClassStatement n v) Q E s
def ByVal (P : Program) (w : World) (n : Nat) (s : Shared) (v : Value) : Prop := ∀ (A : Around) (E : Value → Shared → Prop) (Q : Bool → Shared → Prop), Q true s → wpAny (model P w) A (hashByValue n v) Q E s
theorem ClsNo.tuple {n : Nat} {a : Addr} {o : Obj} {vs : Array Value} {m : Nat} (ho : s.heap.get? a = some o) (hc : o.cls = .type "tuple") (hd : o.data = .seq vs m) (hq : ∀ v ∈ vs.toList, ClsNo P w n s v) : ClsNo P w (n + 1) s (.ref a) := fun A E Q h => by
  have hT : s.TypeIs (.ref a) "tuple" := ⟨o, ho, hc⟩
  unfold ofAClassStatement
  refine wpAny_bind (wpAny_typeOf hT ?_)
  dsimp only
  simp only [show (("tuple" : String) == "tuple") = true by decide, if_true, Bool.not_true, Bool.false_eq_true, if_false]
  refine wpAny_bind (wpAny_pure ?_)
  simp only [Bool.not_true, Bool.false_eq_true, if_false]
  refine wpAny_bind (wpAny_seqItems ho hd ?_)
  dsimp only
  refine wpAny_bind ?_
  rw [← Array.forIn_toList]
  refine wpAny_forIn_list _ (fun rest r s' => r.1 = none ∧ s' = s ∧ ∀ v ∈ rest, ClsNo P w n s v) _ (fun v rest r s' q => ?_) (fun r s' q => ?_) _ _ ⟨rfl, rfl, hq⟩
  · obtain ⟨_, rfl, all⟩ := q
    refine wpAny_bind (all v List.mem_cons_self _ _ _ ?_)
    simp only [Bool.false_eq_true, if_false]
    exact wpAny_pure ⟨rfl, rfl, fun u hu => all u (List.mem_cons_of_mem _ hu)⟩
  · obtain ⟨r1, r2⟩ := r
    obtain ⟨e, rfl, _⟩ := q
    simp only at e
    subst e
    exact wpAny_pure h
theorem ByVal.tuple {n : Nat} {a : Addr} {o : Obj} {vs : Array Value} {m : Nat} (ho : s.heap.get? a = some o) (hc : o.cls = .type "tuple") (hd : o.data = .seq vs m) (hq : ∀ v ∈ vs.toList, ByVal P w n s v) : ByVal P w (n + 1) s (.ref a) := fun A E Q h => by
  have hT : s.TypeIs (.ref a) "tuple" := ⟨o, ho, hc⟩
  unfold hashByValue
  refine wpAny_bind (wpAny_specialOf hT PySem.F.slot_tuple_hash.lookup ?_)
  show wpAny _ _ (seqItems? (.ref a) >>= _) _ _ s
  refine wpAny_bind (wpAny_seqItems ho hd (wpAny_bind ?_))
  show wpAny _ _ (forIn vs _ _) _ _ s
  rw [← Array.forIn_toList]
  refine wpAny_forIn_list _ (fun rest r s' => r.1 = none ∧ s' = s ∧ ∀ v ∈ rest, ByVal P w n s v) _ (fun v rest r s' q => ?_) (fun r s' q => ?_) _ _ ⟨rfl, rfl, hq⟩
  · obtain ⟨_, rfl, all⟩ := q
    refine wpAny_bind (all v List.mem_cons_self _ _ _ ?_)
    simp only [Bool.not_true, Bool.false_eq_true, if_false]
    exact wpAny_pure ⟨rfl, rfl, fun u hu => all u (List.mem_cons_of_mem _ hu)⟩
  · obtain ⟨r1, r2⟩ := r
    obtain ⟨e, rfl, _⟩ := q
    simp only at e
    subst e
    exact wpAny_pure h
mutual
theorem cls_key : ∀ (k : NestedKey) (v : Value) (n : Nat) (s : Shared), NestedIs s.heap k v → numK k = true → k.depth ≤ n → ClsNo P w n s v ∧ ByVal P w n s v
  | .none, _, _, _, _, h, _ => by cases h
  | .text _, _, _, _, _, h, _ => by cases h
  | .num i, _, n, s, x, _, _ => by
    cases x with
    | bool e => exact ⟨fun A E Q h => by cases n <;> exact wpAny_pure h, fun A E Q h => by cases n <;> exact wpAny_pure h⟩
    | int _ t => exact ⟨fun A E Q h => by cases n <;> exact wpAny_pure h, fun A E Q h => by cases n <;> exact wpAny_pure h⟩
  | .tup ks, _, n, s, x, hn, hd => by
    cases x with
    | tup h1 h2 h3 h4 =>
      simp only [NestedKey.depth] at hd
      cases n with
      | zero => omega
      | succ n =>
        have q := cls_keys ks _ n s h4 hn (by omega)
        exact ⟨.tuple h1 h2 h3 fun v hv => (q v hv).1, .tuple h1 h2 h3 fun v hv => (q v hv).2⟩
theorem cls_keys : ∀ (ks : List NestedKey) (vs : List Value) (n : Nat) (s : Shared), NestedAll s.heap ks vs → numKs ks = true → NestedKey.depthAll ks ≤ n → ∀ v ∈ vs, ClsNo P w n s v ∧ ByVal P w n s v
  | [], _, n, s, x, _, _, v, hv => by cases x; cases hv
  | k :: ks, _, n, s, x, hn, hd, v, hv => by
    cases x with
    | cons x1 x2 =>
      simp only [NestedKey.depthAll] at hd
      rw [numKs, Bool.and_eq_true] at hn
      rcases List.mem_cons.mp hv with rfl | hv
      · exact cls_key k _ n s x1 hn.1 (by omega)
      · exact cls_keys ks _ n s x2 hn.2 (by omega) v hv
end
/-- at b stands the key k, of numbers -/
structure IsN (h : Heap) (k : NestedKey) (b : Addr) : Prop where
  is : NestedIs h k (.ref b)
  dp : k.depth ≤ 8
  nm : numK k = true
theorem IsN.kind {h : Heap} {k : NestedKey} {b : Addr} (x : IsN h k b) : (nestedKind P w).is h k b := ⟨x.is, x.dp⟩
theorem IsN.keep {h h' : Heap} {k : NestedKey} {b : Addr} (x : IsN h k b) (hk : ∀ a o vs n, h.get? a = some o → o.data = .seq vs n → h'.get? a = some o) : IsN h' k b := ⟨NestedIs.at hk k _ x.is, x.dp, x.nm⟩
/-- a search among such keys shows nothing -/
theorem seen_N {k : NestedKey} {b : Addr} {Q : Bool → Shared → Prop} (hk : IsN s.heap k b) {ys : List Value} (hy : ∀ y ∈ ys, ∃ k' c, y = Value.ref c ∧ IsN s.heap k' c) (h : Q false s) : wpAny (model P w) A (searchCouldBeSeen (.ref b) ys) Q E s := by
  unfold searchCouldBeSeen
  refine wpAny_bind ?_
  refine wpAny_forIn_list _ (fun rest r s' => r.1 = none ∧ s' = s ∧ ∀ y ∈ rest, ∃ k' c, y = Value.ref c ∧ IsN s.heap k' c) _ (fun v rest r s' q => ?_) (fun r s' q => ?_) _ _ ⟨rfl, rfl, hy⟩
  · obtain ⟨_, rfl, all⟩ := q
    obtain ⟨k', c, rfl, hc⟩ := all v List.mem_cons_self
    have more : ∀ y ∈ rest, ∃ k' c, y = Value.ref c ∧ IsN s'.heap k' c := fun u hu => all u (List.mem_cons_of_mem _ hu)
    dsimp only
    by_cases hv : (b == c || (carriedByValue (.ref b) && carriedByValue (.ref c))) = true
    · exact wp_if_pos hv (wpAny_pure ⟨rfl, rfl, more⟩)
    · refine wp_if_neg hv ?_
      refine wpAny_bind ((nestedKind P w).quiet hk.kind ?_)
      simp only [Bool.not_true, Bool.false_eq_true, if_false]
      refine wpAny_bind ((nestedKind P w).quiet hc.kind ?_)
      simp only [Bool.not_true, Bool.false_eq_true, if_false]
      refine wpAny_bind ((cls_key k _ 8 s' hk.is hk.nm hk.dp).1 _ _ _ ?_)
      simp only [Bool.false_eq_true, if_false]
      refine wpAny_bind ((cls_key k' _ 8 s' hc.is hc.nm hc.dp).1 _ _ _ ?_)
      simp only [Bool.false_eq_true, if_false]
      exact wpAny_pure ⟨rfl, rfl, more⟩
  · obtain ⟨r1, r2⟩ := r
    obtain ⟨e, rfl, _⟩ := q
    simp only at e
    subst e
    exact wpAny_pure h
/-! ### the set -/
abbrev rowN (w : World) (p : Addr × NestedKey) : Int × Value := (p.2.hash w, Value.ref p.1)
abbrev hsN (w : World) (L : NL) : List Int := L.map fun p => p.2.hash w
structure SetN (w : World) (h : Heap) (a : Addr) (L : NL) (es : Array (Int × Value)) (ep : Nat) (t : SetTable) : Prop where
  ob : ∃ o, h.get? a = some o ∧ o.ExactSet ∧ o.data = .set es ep t
  rows : es.toList = L.map (rowN w)
  tab : TabOk t (hsN w L)
  nd : (L.map (·.2)).Nodup
  tup : ∀ p ∈ L, IsN h p.2 p.1
  plain : t.plain = true
  led : w.params.followText "set-order" = true ∨ t.led = true
  room : L.length * 5 < t.mask * 3
  few : L.length < 64
variable {a : Addr} {L : NL} {es : Array (Int × Value)} {ep : Nat} {t : SetTable}
theorem SetN.size (R : SetN w s.heap a L es ep t) : es.size = L.length := by
  rw [← Array.length_toList, R.rows, List.length_map]
theorem SetN.place (R : SetN w s.heap a L es ep t) : t.place.size = L.length := by
  have := R.tab.sz
  simpa using this
theorem SetN.fits (R : SetN w s.heap a L es ep t) : t.fits es.size = true := by
  have h1 := R.place
  have h2 := R.size
  have h3 := R.room
  unfold SetTable.fits SetTable.fill
  rw [R.tab.dm, Bool.and_eq_true, beq_iff_eq, decide_eq_true_eq]
  show t.place.size = es.size ∧ t.place.size + 0 ≤ t.mask
  omega
theorem SetN.entry (R : SetN w s.heap a L es ep t) {i : Nat} {p : Addr × NestedKey} (h : L[i]? = some p) : es[i]? = some (rowN w p) := by
  rw [← Array.getElem?_toList, R.rows, List.getElem?_map, h]; rfl
theorem SetN.gw (R : SetN w s.heap a L es ep t) : ¬ t.gaveWay = true := by
  unfold SetTable.gaveWay
  rw [mask_odd R.tab.mok]
  decide
/-- the probe's start for a key -/
abbrev pr0 (w : World) (t : SetTable) (k : NestedKey) : SetTable.Probe := runAt t.mask (SetTable.bits (k.hash w) % (t.mask + 1)) (SetTable.bits (k.hash w))
abbrev wayN (w : World) (t : SetTable) (k : NestedKey) (c : Nat) : Nat := way t.mask (k.hash w) c
theorem nth_dummy (m : Nat) : ∀ (n : Nat) (p : SetTable.Probe), p.dummy = none → (nth m p n).dummy = none
  | 0, _, h => h
  | n + 1, p, h => nth_dummy m n (adv m p) (by unfold adv; split <;> exact h)
/-- the search, from the c-th step of the way on -/
theorem searchN (R : SetN w s.heap a L es ep t) {x : Addr} {k : NestedKey} (hx : IsN s.heap k x) (hu : A.units + 8 < cLine) {K : Nat} (hKf : K < 10 * SetTable.turns t.mask) (hK : wayN w t k K ∉ t.place.toList) (hKb : ∀ c, c < K → wayN w t k c ∈ t.place.toList) {Q : SetFound → Shared → Prop}
    (hin : k ∈ L.map (·.2) → Q (.there none) s) (hout : k ∉ L.map (·.2) → Q (.free (wayN w t k K) false) s) : ∀ (f c : Nat) (stand : Option SetTable.Probe), stand.getD (t.probeStart (k.hash w)) = nth t.mask (pr0 w t k) c → c ≤ K → K - c < f →
      (∀ (i : Nat) p, L[i]? = some p → p.2 = k → ∃ c', c ≤ c' ∧ c' < K ∧ t.place.toList[i]? = some (wayN w t k c')) → wpAny (model P w) A (setSearchFrom a (.ref x) (k.hash w) true f stand) Q E s
  | 0, c, _, _, _, hf, _ => absurd hf (Nat.not_lt_zero _)
  | f + 1, c, stand, hst, hc, hf, ahead => by
    obtain ⟨o, ho, hex, hd⟩ := R.ob
    have step : ∀ q, nth t.mask (nth t.mask (pr0 w t k) c) q = nth t.mask (pr0 w t k) (c + q) := fun q => (nth_add t.mask c _ q).symm
    have stepj : ∀ q, (nth t.mask (nth t.mask (pr0 w t k) c) q).j = wayN w t k (c + q) := fun q => by rw [step]
    have hAt : ∀ (i : Nat) p, L[i]? = some p → (es[i]?.map (·.1)).getD 0 = p.2.hash w := fun i p hp => by rw [R.entry hp]; rfl
    have spec := go_spec t R.tab.ris R.tab.dm (fun i => (es[i]?.map (·.1)).getD 0) (k.hash w) (10 * SetTable.turns t.mask) (K - c) (nth t.mask (pr0 w t k) c) (nth_dummy _ _ _ rfl) (by omega)
      (fun q hq => by rw [stepj]; exact hKb _ (by omega)) (by rw [stepj, show c + (K - c) = K by omega]; exact hK)
    rw [setSearchFrom_succ]
    refine wpAny_bind (wpAny_setState_of ho hd R.fits ?_)
    dsimp only
    refine wp_if_neg R.gw ?_
    try refine wpAny_bind (wpAny_pure ?_)
    rcases spec with ⟨q, i, hq, hi, hh, hno, hpr⟩ | ⟨hno, hpr⟩
    · rw [stepj] at hi
      have met : t.probe (fun i => (es[i]?.map (·.1)).getD 0) (k.hash w) (stand.getD (t.probeStart (k.hash w))) = some (.candidate (wayN w t k (c + q)) i (nth t.mask (pr0 w t k) (c + (q + 1)))) := by
        rw [hst, ← stepj, ← step]; exact hpr
      rw [met]
      dsimp only
      have hil : i < L.length := by
        have h1 : i < t.place.toList.length := (List.getElem?_eq_some_iff.mp hi).1
        have h2 := R.place
        rw [Array.length_toList] at h1
        omega
      obtain ⟨p, hp⟩ : ∃ p, L[i]? = some p := ⟨_, List.getElem?_eq_getElem hil⟩
      have hmem : p ∈ L := List.mem_of_getElem? hp
      have live : t.slot (wayN w t k (c + q)) = .live i := slot_live R.tab.ris hi
      have rest : wpAny (model P w) A (searchRest a (.ref x) (k.hash w) true f es t (wayN w t k (c + q)) i (nth t.mask (pr0 w t k) (c + (q + 1)))) Q E s := by
        unfold searchRest
        rw [R.entry hp]
        dsimp only
        refine wpAny_bind (wpAny_holding ((nestedKind P w).eqBool hu (R.tup p hmem).kind hx.kind ?_))
        refine wpAny_bind (wpAny_setState_of ho hd R.fits ?_)
        dsimp only
        by_cases same : p.2 = k
        · exact wp_if_pos (by simp [same]) (wpAny_pure (hin (List.mem_map.mpr ⟨p, hmem, same⟩)))
        · refine wp_if_neg (by simp [same]) ?_
          try refine wpAny_bind (wpAny_pure ?_)
          rw [sameMem]
          dsimp only
          simp only [if_true, live, R.entry hp]
          refine wpAny_bind (wpAny_isSame_ref_self (wpAny_bind (wpAny_pure ?_)))
          simp only [if_true]
          refine wp_if_neg (by simp [same]) ?_
          refine searchN R hx hu hKf hK hKb hin hout f (c + (q + 1)) (some _) rfl (by omega) (by omega) fun i0 p0 h0 hk0 => ?_
          obtain ⟨c', a1, a2, a3⟩ := ahead i0 p0 h0 hk0
          refine ⟨c', ?_, a2, a3⟩
          rcases Nat.lt_trichotomy c' (c + q) with z | z | z
          · exact absurd ((hAt i0 p0 h0).trans (by rw [hk0])) (hno (c' - c) i0 (by omega) (by rw [stepj, show c + (c' - c) = c' by omega]; exact a3))
          · rw [z] at a3
            have l0 := slot_live R.tab.ris a3
            rw [live] at l0
            injection l0 with l0
            rw [← l0, hp] at h0
            cases h0
            exact absurd hk0 same
          · omega
      by_cases hl : t.led = true
      · refine wp_if_neg (by simp [hl]) ?_
        try refine wpAny_bind (wpAny_pure ?_)
        exact rest
      · refine wp_if_pos (by simp [hl]) ?_
        refine wpAny_bind (seen_N hx (fun y hy => ?_) ?_)
        · obtain ⟨e, he, rfl⟩ := List.mem_map.mp hy
          have he1 : e ∈ es ∧ e.1 = k.hash w := by simpa using he
          have he2 : e ∈ es.toList := by simpa using he1.1
          rw [R.rows] at he2
          obtain ⟨p2, hp2, rfl⟩ := List.mem_map.mp he2
          exact ⟨p2.2, p2.1, rfl, R.tup p2 hp2⟩
        · refine wp_if_neg (by decide) ?_
          try refine wpAny_bind (wpAny_pure ?_)
          exact rest
    · have met : t.probe (fun i => (es[i]?.map (·.1)).getD 0) (k.hash w) (stand.getD (t.probeStart (k.hash w))) = some (.empty (wayN w t k K) none) := by
        have e : wayN w t k K = (nth t.mask (nth t.mask (pr0 w t k) c) (K - c)).j := by rw [stepj, show c + (K - c) = K by omega]
        rw [hst, e]; exact hpr
      rw [met]
      dsimp only
      refine wpAny_pure (hout fun hm => ?_)
      obtain ⟨p0, h0, hk0⟩ := List.mem_map.mp hm
      obtain ⟨i0, h00⟩ := List.getElem?_of_mem h0
      obtain ⟨c', a1, a2, a3⟩ := ahead i0 p0 h00 hk0
      exact hno (c' - c) i0 (by omega) (by rw [stepj, show c + (c' - c) = c' by omega]; exact a3) ((hAt i0 p0 h00).trans (by rw [hk0]))
/-- the search that adding makes -/
theorem search_addN (R : SetN w s.heap a L es ep t) {x : Addr} {k : NestedKey} (hx : IsN s.heap k x) (hu : A.units + 8 < cLine) {Q : SetFound → Shared → Prop} (hin : k ∈ L.map (·.2) → Q (.there none) s)
    (hout : ∀ K, k ∉ L.map (·.2) → wayN w t k K ∉ t.place.toList → (∀ c, c < K → wayN w t k c ∈ t.place.toList) → Q (.free (wayN w t k K) false) s) : wpAny (model P w) A (setSearch a (.ref x) (k.hash w) true) Q E s := by
  have hr := R.room
  obtain ⟨K, hKf, hK, hKb⟩ := R.tab.first (by rw [List.length_map]; omega) (k.hash w)
  have small : K < 100000 := by
    unfold SetTable.turns at hKf
    rcases R.tab.mok with e | e | e <;> omega
  refine searchN R hx hu hKf hK hKb hin (fun hn => hout K hn hK hKb) 100000 0 none rfl (Nat.zero_le _) (by omega) fun i p hp hk => ?_
  have h1 : (hsN w L)[i]? = some (k.hash w) := by rw [List.getElem?_map, hp, ← hk]; rfl
  have hil : i < t.place.toList.length := by
    have := (List.getElem?_eq_some_iff.mp hp).1
    rw [Array.length_toList, R.place]; exact this
  obtain ⟨c, hc, e⟩ := R.tab.before hK h1 (List.getElem?_eq_getElem hil)
  exact ⟨c, Nat.zero_le _, hc, by rw [List.getElem?_eq_getElem hil]; exact congrArg some e.symm⟩
theorem seq_same {h h' : Heap} {o : Obj} (ho : h.get? a = some o) (hd : o.data = .set es ep t) (hs : Heap.SameBut a h h') : ∀ (b : Addr) (u : Obj) (vs : Array Value) (n : Nat), h.get? b = some u → u.data = .seq vs n → h'.get? b = some u := fun b u vs n hb hu => by
  refine (hs.2 b fun z => ?_).trans hb
  subst z
  rw [ho] at hb
  cases hb
  rw [hd] at hu
  cases hu
end
end SD
/-! SNg: set(a list of tuples of numbers, nested), and how many it holds. -/
namespace SD
open PySem PySem.Spec PyProof.Rows L2
open PySem.Calls
section
variable {P : Program} {w : World} {A : Around} {E : Value → Shared → Prop} {s : Shared} {a : Addr} {L : NL} {es : Array (Int × Value)} {ep : Nat} {t : SetTable}
theorem rows_order (L : NL) (es : Array (Int × Value)) (order : Array Nat) (hr : es.toList = L.map (rowN w)) (hp : order.toList.Perm (List.range L.length)) :
    ∃ L2 : NL, (order.filterMap (es[·]?)).toList = L2.map (rowN w) ∧ L2.Perm L ∧ hsN w L2 = order.toList.map fun i => (es.map (·.1)).getD i 0 := by
  have ent : ∀ i, es[i]? = L[i]?.map (rowN w) := fun i => by rw [← Array.getElem?_toList, hr, List.getElem?_map]
  have lt : ∀ i ∈ order.toList, i < L.length := fun i hi => List.mem_range.mp (hp.mem_iff.mp hi)
  refine ⟨order.toList.filterMap fun i => L[i]?, ?_, ?_, ?_⟩
  · have e : (order.filterMap (es[·]?)).toList = order.toList.filterMap fun i => es[i]? := by simp
    rw [e, List.map_filterMap]
    congr 1
    funext i
    exact ent i
  · have h1 : (order.toList.filterMap fun i => L[i]?).Perm ((List.range L.length).filterMap fun i => L[i]?) := hp.filterMap _
    have h2 : (List.range L.length).filterMap (fun i => L[i]?) = L := by
      refine List.ext_getElem? fun i => ?_
      have key : ∀ (n : Nat), n ≤ L.length → (List.range n).filterMap (fun i => L[i]?) = L.take n := by
        intro n
        induction n with
        | zero => intro _; rfl
        | succ n ih =>
          intro hn
          rw [List.range_succ, List.filterMap_append, ih (by omega), List.take_add_one, List.getElem?_eq_getElem (show n < L.length by omega)]
          simp [List.getElem?_eq_getElem (show n < L.length by omega)]
      rw [key L.length (Nat.le_refl _), List.take_length]
    rw [h2] at h1
    exact h1
  · have key : ∀ l : List Nat, (∀ i ∈ l, i < L.length) → hsN w (l.filterMap fun i => L[i]?) = l.map fun i => (es.map (·.1)).getD i 0 := by
      intro l
      induction l with
      | nil => intro _; rfl
      | cons i l ih =>
        intro hl
        have hi := hl i List.mem_cons_self
        have q2 := ih fun j hj => hl j (List.mem_cons_of_mem _ hj)
        unfold hsN at q2 ⊢
        rw [List.filterMap_cons_some (List.getElem?_eq_getElem hi), List.map_cons, List.map_cons, q2]
        have q := ent i
        rw [List.getElem?_eq_getElem hi] at q
        simp [Array.getD_eq_getD_getElem?, q]
    exact key _ lt
theorem IsN.same {h h' : Heap} {o : Obj} {k : NestedKey} {b : Addr} (x : IsN h k b) (ho : h.get? a = some o) (hd : o.data = .set es ep t) (hs : Heap.SameBut a h h') : IsN h' k b := x.keep (seq_same ho hd hs)
/-- the table laid anew -/
theorem relayN {o : Obj} (ho : s.heap.get? a = some o) (hex : o.ExactSet) (hd : o.data = .set es ep t) (hr : es.toList = L.map (rowN w)) (hsz : t.place.size = L.length) (hdm : t.dummies = #[]) (hfl : L.length ≤ t.mask) (nd : (L.map (·.2)).Nodup) (tup : ∀ p ∈ L, IsN s.heap p.2 p.1) (pl : t.plain = true)
    (ld : w.params.followText "set-order" = true ∨ t.led = true) (few : L.length < 64) {wanted M : Nat} (hw : SetTable.sizeAbove wanted - 1 = M) (hM : MaskOk M) (hw2 : SetTable.sizeAbove wanted ≤ 128) (hn : L.length * 5 < M * 3) {Q : Unit → Shared → Prop}
    (hQ : ∀ h' L' es' ep' t', Heap.SameBut a s.heap h' → SetN w h' a L' es' ep' t' → L'.Perm L → Q () { s with heap := h' }) : wpAny (model P w) A (setRelay a wanted) Q E s := by
  have hsl : es.size = L.length := by rw [← Array.length_toList, hr, List.length_map]
  have fits : t.fits es.size = true := by
    unfold SetTable.fits SetTable.fill
    rw [hdm, Bool.and_eq_true, beq_iff_eq, decide_eq_true_eq]
    show t.place.size = es.size ∧ t.place.size + 0 ≤ t.mask
    omega
  obtain ⟨t', order, e, hp, T, em, el, epl, _⟩ := relaid_ok t (hs := es.map (·.1)) (wanted := wanted) hw hM (by rw [Array.size_map, hsl]; omega)
  rw [Array.size_map, hsl] at hp
  obtain ⟨L2, r1, r2, r3⟩ := rows_order L es order hr hp
  rw [← r3] at T
  have hs2 : (order.filterMap (es[·]?)).size = es.size := by rw [← Array.length_toList, r1, List.length_map, r2.length_eq, hsl]
  rw [setRelay_eq]
  refine wpAny_bind (wpAny_setState_of ho hd fits ?_)
  dsimp only
  refine wp_if_neg (by rw [sizeLine_eq]; omega) ?_
  try refine wpAny_bind (wpAny_pure ?_)
  rw [e]
  dsimp only
  refine wpAny_bind (wp_if_neg (by rw [hs2]; simp) ?_)
  try refine wpAny_bind (wpAny_pure ?_)
  refine wpAny_pure ?_
  dsimp only
  refine wpAny_storeSet_of ho hd ?_ (by rw [hs2, hsl, sizeLine_eq]; omega)
  have sb : Heap.SameBut a s.heap (s.heap.update a (Obj.putSet (order.filterMap (es[·]?)) t')) := Heap.SameBut.update ..
  refine hQ _ L2 _ (ep + 1) t' sb ⟨⟨_, store_at ho hd, ⟨hex.1, hex.2.1, hex.2.2⟩, rfl⟩, r1, T, (r2.map (·.2)).nodup_iff.mpr nd, fun p hpm => (tup p (r2.mem_iff.mp hpm)).same ho hd sb, by rw [epl]; exact pl, by rw [el]; exact ld, ?_, by rw [r2.length_eq]; exact few⟩ r2
  rw [r2.length_eq, em]; exact hn
/-- one more -/
theorem addN (R : SetN w s.heap a L es ep t) {x : Addr} {k : NestedKey} (hx : IsN s.heap k x) (hu : A.units + 8 < cLine) (hfew : L.length + 1 < 64) {Q : Bool → Shared → Prop}
    (hQ : ∀ b h' L' es' ep' t', Heap.SameBut a s.heap h' → SetN w h' a L' es' ep' t' → (k ∈ L.map (·.2) → L' = L) → (k ∉ L.map (·.2) → L'.Perm ((x, k) :: L)) → Q b { s with heap := h' }) : wpAny (model P w) A (setAddHashed a (.ref x) (k.hash w)) Q E s := by
  obtain ⟨o, ho, hex, hd⟩ := R.ob
  have hsl := R.size
  have hroom := R.room
  have hplace := R.place
  unfold setAddHashed
  refine wpAny_holding ?_
  rw [show (100000 : Nat) = 99999 + 1 from rfl, setAddHashedIn_succ]
  refine wpAny_bind (wpAny_setState_of ho hd R.fits ?_)
  dsimp only
  refine wp_if_neg (by simp [byScan, Value.scannable]) ?_
  try refine wpAny_bind (wpAny_pure ?_)
  refine wpAny_bind (search_addN R hx hu (fun hm => ?_) fun K hm hK hb => ?_)
  · exact wpAny_pure (hQ false s.heap L es ep t (Heap.SameBut.refl a s.heap) R (fun _ => rfl) fun z => absurd hm z)
  · dsimp only
    refine wpAny_bind (wpAny_setState_of ho hd R.fits ?_)
    dsimp only
    obtain ⟨q1, q2, q3, q4, q5, q6, q7, q8, q9⟩ := R.tab.put hK hb
    have pl1 : (t.put (wayN w t k K)).1.plain = true := q6.trans R.plain
    have ins : (SetTable.insertAt es (SetTable.below t.place (wayN w t k K)) (k.hash w, Value.ref x)).toList = (L.take (SetTable.below t.place (wayN w t k K)) ++ (x, k) :: L.drop (SetTable.below t.place (wayN w t k K))).map (rowN w) := by
      rw [SetTable.toList_insertAt, R.rows, List.map_append, List.map_cons, List.map_take, List.map_drop]
    have hhs : hsN w (L.take (SetTable.below t.place (wayN w t k K)) ++ (x, k) :: L.drop (SetTable.below t.place (wayN w t k K))) = (hsN w L).take (SetTable.below t.place (wayN w t k K)) ++ k.hash w :: (hsN w L).drop (SetTable.below t.place (wayN w t k K)) := by
      unfold hsN
      rw [List.map_append, List.map_cons, List.map_take, List.map_drop]
    rw [← hhs] at q3
    have pm : (L.take (SetTable.below t.place (wayN w t k K)) ++ (x, k) :: L.drop (SetTable.below t.place (wayN w t k K))).Perm ((x, k) :: L) := by
      have z : (L.take (SetTable.below t.place (wayN w t k K)) ++ (x, k) :: L.drop (SetTable.below t.place (wayN w t k K))).Perm ((x, k) :: (L.take (SetTable.below t.place (wayN w t k K)) ++ L.drop (SetTable.below t.place (wayN w t k K)))) := List.perm_middle
      rwa [List.take_append_drop] at z
    generalize hL1 : L.take (SetTable.below t.place (wayN w t k K)) ++ (x, k) :: L.drop (SetTable.below t.place (wayN w t k K)) = L1 at pm q3 ins
    have len1 : L1.length = L.length + 1 := pm.length_eq
    rw [List.length_map] at q9
    have esz : (SetTable.insertAt es (SetTable.below t.place (wayN w t k K)) (k.hash w, Value.ref x)).size = L.length + 1 := by rw [← Array.length_toList, ins, List.length_map, len1]
    have nd1 : (L1.map (·.2)).Nodup := by
      refine (pm.map (·.2)).nodup_iff.mpr ?_
      rw [List.map_cons]
      exact List.nodup_cons.mpr ⟨hm, R.nd⟩
    generalize hpt : t.put (wayN w t k K) = pt at q1 q3 q4 q5 q6 q9 pl1
    obtain ⟨t1, p⟩ := pt
    dsimp only at q1 q3 q4 q5 q6 q9 pl1 ⊢
    subst q1
    first
      | (refine wpAny_bind ?_; refine wp_if_pos pl1 ?_; refine (cls_key k _ 8 s hx.is hx.nm hx.dp).2 _ _ _ ?_)
      | refine wp_if_pos pl1 (wpAny_bind ((cls_key k _ 8 s hx.is hx.nm hx.dp).2 _ _ _ ?_))
    simp only [if_true]
    generalize SetTable.insertAt es (SetTable.below t.place (wayN w t k K)) (k.hash w, Value.ref x) = es1 at ins esz ⊢
    refine wpAny_bind (wpAny_storeSet_of ho hd ?_ (by rw [esz, sizeLine_eq]; omega))
    have sb : Heap.SameBut a s.heap (s.heap.update a (Obj.putSet es1 t1)) := Heap.SameBut.update ..
    have at1 := store_at (es' := es1) (t' := t1) ho hd
    generalize s.heap.update a (Obj.putSet es1 t1) = g at sb at1 ⊢
    have tup1 : ∀ p ∈ L1, IsN g p.2 p.1 := fun p hp => by
      rcases List.mem_cons.mp (pm.mem_iff.mp hp) with e | hp
      · rw [e]; exact hx.same ho hd sb
      · exact (R.tup p hp).same ho hd sb
    have led1 : w.params.followText "set-order" = true ∨ t1.led = true := by rw [q5]; exact R.led
    have pl2 := q3.sz
    rw [List.length_map, len1] at pl2
    by_cases full : t1.tooFull = true
    · have over := full
      unfold SetTable.tooFull at over
      rw [decide_eq_true_eq, q9] at over
      first
        | (refine wpAny_bind ?_; refine wp_if_pos (by simp [full]) ?_)
        | (refine wp_if_pos (by simp [full]) ?_; refine wpAny_bind ?_)
      rw [hsl]
      have go : ∀ M, SetTable.sizeAbove (SetTable.grown (L.length + 1)) - 1 = M → MaskOk M → SetTable.sizeAbove (SetTable.grown (L.length + 1)) ≤ 128 → (L.length + 1) * 5 < M * 3 → L1.length ≤ t1.mask →
          wpAny (model P w) A (setRelay a (SetTable.grown (L.length + 1))) (fun _ s' => wpAny (model P w) A (pure true) Q E s') E { s with heap := g } := fun M c1 c2 c3 c4 c5 =>
        relayN (s := { s with heap := g }) at1 ⟨hex.1, hex.2.1, hex.2.2⟩ rfl ins (by rw [pl2, len1]) q3.dm c5 nd1 tup1 pl1 led1 (by rw [len1]; exact hfew) c1 c2 c3 (by rw [len1]; exact c4) fun h2 L2 es2 ep2 t2 sb2 R2 pm2 => wpAny_pure (hQ true h2 L2 es2 ep2 t2 (sb.trans sb2) R2 (fun z => absurd z hm) fun _ => pm2.trans pm)
      rcases R.tab.mok with m | m | m
      · rw [q4, m] at over
        rw [m] at hroom
        have four : L.length = 4 := by omega
        exact go 31 (by rw [four, size_20]) (.inr (.inl rfl)) (by rw [four, size_20]; decide) (by omega) (by rw [q4, m, len1]; omega)
      · rw [q4, m] at over
        rw [m] at hroom
        have n18 : L.length = 18 := by omega
        exact go 127 (by rw [n18, size_76]) (.inr (.inr rfl)) (by rw [n18, size_76]; decide) (by omega) (by rw [q4, m, len1]; omega)
      · rw [q4, m] at over
        exfalso; omega
    · have under := full
      unfold SetTable.tooFull at under
      rw [decide_eq_true_eq, q9] at under
      first
        | refine wp_if_neg (by simp [full]) ?_
        | (refine wpAny_bind ?_; refine wp_if_neg (by simp [full]) ?_; refine wpAny_pure ?_)
      exact wpAny_pure (hQ true g L1 es1 (ep + 1) t1 sb ⟨⟨_, at1, ⟨hex.1, hex.2.1, hex.2.2⟩, rfl⟩, ins, q3, nd1, tup1, pl1, led1, by rw [len1]; omega, by rw [len1]; exact hfew⟩ (fun z => absurd z hm) fun _ => pm)
/-- what the set has of the first i items -/
structure GotN (ks : NL) (i : Nat) (L : NL) : Prop where
  sub : ∀ p ∈ L, p ∈ ks.take i
  all : ∀ p ∈ ks.take i, p.2 ∈ L.map (·.2)
  len : L.length ≤ i
theorem GotN.next {ks L L' : NL} {i : Nat} {x : Addr × NestedKey} (g : GotN ks i L) (h : ks[i]? = some x) (c1 : x.2 ∈ L.map (·.2) → L' = L) (c2 : x.2 ∉ L.map (·.2) → L'.Perm (x :: L)) : GotN ks (i + 1) L' := by
  have tk : ks.take (i + 1) = ks.take i ++ [x] := by rw [List.take_add_one, h]; rfl
  by_cases c : x.2 ∈ L.map (·.2)
  · rw [c1 c]
    refine ⟨fun p hp => by rw [tk]; exact List.mem_append_left _ (g.sub p hp), fun p hp => ?_, Nat.le_succ_of_le g.len⟩
    rw [tk, List.mem_append, List.mem_singleton] at hp
    rcases hp with hp | rfl
    · exact g.all p hp
    · exact c
  · have pm := c2 c
    refine ⟨fun p hp => ?_, fun p hp => ?_, by rw [pm.length_eq]; exact Nat.succ_le_succ g.len⟩
    · rw [tk, List.mem_append, List.mem_singleton]
      rcases List.mem_cons.mp (pm.mem_iff.mp hp) with e | z
      · exact .inr e
      · exact .inl (g.sub p z)
    · rw [(pm.map (·.2)).mem_iff, List.map_cons, List.mem_cons]
      rw [tk, List.mem_append, List.mem_singleton] at hp
      rcases hp with hp | rfl
      · exact .inr (g.all p hp)
      · exact .inl rfl
end
end SD
/-! SNh: the calls set(xs), len(set(xs)). -/
namespace SD
open PySem PySem.Spec PyProof.Rows L2
open PySem.Calls
section
variable {P : Program} {w : World} {A : Around} {E : Value → Shared → Prop} {s : Shared}
theorem SetN.keep {h h' : Heap} {a : Addr} {L : NL} {es : Array (Int × Value)} {ep : Nat} {t : SetTable} (R : SetN w h a L es ep t) (ha : ∀ o, h.get? a = some o → h'.get? a = some o) (ht : ∀ p ∈ L, IsN h' p.2 p.1) : SetN w h' a L es ep t := by
  obtain ⟨o, ho, r⟩ := R.ob
  exact ⟨⟨o, ha o ho, r⟩, R.rows, R.tab, R.nd, ht, R.plain, R.led, R.room, R.few⟩
theorem setN_fresh {h : Heap} {a : Addr} (ho : h.get? a = some (newSet w)) : SetN w h a [] #[] 0 (.fresh 0 0 (!w.params.followText "set-order")) where
  ob := ⟨_, ho, ⟨rfl, rfl, rfl⟩, rfl⟩
  rows := rfl
  tab := ⟨.nil, rfl, rfl, .inl rfl, fun x hx => (by cases hx), fun i h j hi => (by simp at hi)⟩
  nd := .nil
  tup := fun p hp => by cases hp
  plain := rfl
  led := by
    show _ ∨ (!w.params.followText "set-order") = true
    cases w.params.followText "set-order" <;> simp
  room := by show 0 * 5 < 7 * 3; decide
  few := by show 0 < 64; decide
/-- the loop of set.update -/
theorem loopN {I : Addr} {fp wr : List Addr} {G : Array GenState → Array GenState → Prop} {n : Nat} {Pv : Nat → Value → Prop} {St : Nat → Shared → Prop} {R : Result → Shared → Prop} (W : WalksS P w A.in1 I fp wr G n Pv St) (S : Addr) (hSf : S ∉ fp) (ks : NL) (hn : n = ks.length) (hfew : ks.length < 64)
    (hval : ∀ i v, Pv i v → ∃ p, ks[i]? = some p ∧ v = .ref p.1) (h0 : Heap) (hk : ∀ p ∈ ks, IsN h0 p.2 p.1) (hS0 : h0.get? S = none) (hw0 : ∀ b ∈ wr, h0.get? b = none) (hu : A.in1.units + 8 < cLine) :
    ∀ (k i : Nat) (s : Shared), n - i = k → i ≤ n → St i s → (∀ b o, h0.get? b = some o → s.heap.get? b = some o) → (∃ L es ep t, SetN w s.heap S L es ep t ∧ GotN ks i L) →
      (∀ s' L es ep t, Moved (S :: wr) G s s' → SetN w s'.heap S L es ep t → GotN ks n L → (∀ b o, h0.get? b = some o → s'.heap.get? b = some o) → R (.ok (.ret .none)) s') →
      codeAny (model P w) A (.builtin "set.update.loop" ⟨[.ref S, .ref I], []⟩) R s := by
  have hSw : S ∉ wr := fun h => hSf (W.sub _ h)
  have wider : ∀ b ∈ wr, b ∈ S :: wr := fun b hb => List.mem_cons_of_mem _ hb
  have old : ∀ {s s' : Shared}, Moved wr G s s' → (∀ b o, h0.get? b = some o → s.heap.get? b = some o) → ∀ b o, h0.get? b = some o → s'.heap.get? b = some o := fun hm q b o e => hm.heap b o (fun hb => by rw [hw0 b hb] at e; cases e) (q b o e)
  have there : ∀ {h' : Heap} {p : Addr × NestedKey}, (∀ b o, h0.get? b = some o → h'.get? b = some o) → p ∈ ks → IsN h' p.2 p.1 := fun q hp => (hk _ hp).keep fun b o _ _ e _ => q b o e
  intro k
  induction k with
  | zero =>
    intro i s hk' hi hst hq ⟨L, es, ep, t, hS, g⟩ hR
    obtain rfl : i = n := by omega
    refine codeAny_builtin F.entry_set_update_loop ?_
    rw [Around.under_plainId F.plain_set_update_loop _]
    show wpAny _ A.in1 (pyNext (.ref I) >>= _) _ _ s
    refine wpAny_bind (W.done s _ _ hst fun s' hm => wpAny_pure (hR s' L es ep t (hm.mono wider) (hS.keep (fun o e => hm.heap S o hSw e) fun p hp => there (old hm hq) (List.mem_of_mem_take (g.sub p hp))) g (old hm hq)))
  | succ k ih =>
    intro i s hk' hi hst hq ⟨L, es, ep, t, hS, g⟩ hR
    refine codeAny_builtin F.entry_set_update_loop ?_
    rw [Around.under_plainId F.plain_set_update_loop _]
    show wpAny _ A.in1 (pyNext (.ref I) >>= _) _ _ s
    refine wpAny_bind (W.item i s _ _ (by omega) hst fun v s' hP hst' hm => ?_)
    obtain ⟨p, hp, rfl⟩ := hval i v hP
    have q' := old hm hq
    have hS' : SetN w s'.heap S L es ep t := hS.keep (fun o e => hm.heap S o hSw e) fun p hp => there q' (List.mem_of_mem_take (g.sub p hp))
    have hx : IsN s'.heap p.2 p.1 := there q' (List.mem_of_getElem? hp)
    show wpAny _ A.in1 (holding [Value.ref p.1] (setAdd S (.ref p.1)) >>= _) _ _ s'
    refine wpAny_bind (wpAny_holding ?_)
    unfold setAdd
    refine wpAny_holding (wpAny_bind ((nestedKind P w).pyHash hu hx.kind ?_))
    refine addN (s := { s' with toks := s'.toks + p.2.draws }) hS' hx hu (by have := g.len; omega) fun b h' L' es' ep' t' sb hS2 c1 c2 => ?_
    have q2 : ∀ b o, h0.get? b = some o → h'.get? b = some o := fun b o e => (sb.2 b (fun z => by rw [z, hS0] at e; cases e)).trans (q' b o e)
    refine wpAny_pure ⟨plainId_quiet F.plain_set_update_loop _, ih (i + 1) _ (by omega) (by omega) (W.frame _ s' _ _ hst' (Nat.le_add_right _ _) fun b hb o e => ?_) q2 ⟨L', es', ep', t', hS2, g.next hp c1 c2⟩ fun s'' L2 es2 ep2 t2 hm'' hS'' g'' q'' => ?_⟩
    · rw [sb.2 b (fun z : b = S => hSf (z ▸ hb))]; exact e
    · refine hR s'' L2 es2 ep2 t2 (Moved.trans W.gtrans ((hm.mono wider).then_heap (Nat.le_add_right _ _) fun b o hb e => ?_) hm'') hS'' g'' q''
      rw [sb.2 b (fun z : b = S => hb (z ▸ List.mem_cons_self))]; exact e
set_option maxHeartbeats 3200000 in
theorem set_of_N {l : Addr} {items : Array Value} (ks : NL) {Q : Value → Shared → Prop} (hh : A.handled = none) (hl : s.heap.IsList l items) (hit : items.toList = ks.map fun p => Value.ref p.1) (hk : ∀ p ∈ ks, IsN s.heap p.2 p.1) (hfew : ks.length < 64) (hu : A.units + 20 < cLine)
    (h : ∀ (h' : Heap) (tk : Nat) L es ep t, SetN w h' s.heap.objs.size L es ep t → GotN ks ks.length L → (∀ b o, s.heap.get? b = some o → h'.get? b = some o) → Q (.ref s.heap.objs.size) { s with heap := h', toks := tk }) :
    wpAny (model P w) A (call (.type "set") [.ref l]) Q E s := by
  have size : items.size = ks.length := by rw [← Array.length_toList, hit, List.length_map]
  generalize hn : s.heap.objs.size = a at h
  obtain ⟨c, tl, hmro⟩ := F.called_set.mro
  have e1 := F.called_set.made; have e2 := F.called_set.sub
  refine wpAny_call (codeAny_of_tree ?_)
  show wpAny _ _ (callAny (.type "set") _) _ _ _
  refine wpAny_pure ⟨Code.quiet_builtin _ (by decide +kernel), codeAny_builtin F.entry_type_call ?_⟩; rw [Around.under_plain (weight_type_call_type "set" [.ref l] []) rfl]
  have e3 := F.called_set.notType; have e4 := F.called_set.canCreate; have e5 := F.typeCall_set_1 (.ref l)
  repeat (any_goals (first | assumption | wp_step))
  refine codeAny_mono (code_set_led1 (.ref l) (E := E) (Q₁ := fun o s1 => o = .ref a ∧ s1 = { s with heap := s.heap.push (newSet w) }) (by rw [← hn]; exact ⟨rfl, rfl⟩)) fun r s1 hr => ?_
  cases r with
  | error e => exact hr
  | ok fl =>
    cases fl with
    | ret o =>
      obtain ⟨rfl, rfl⟩ := hr
      have at0 : (s.heap.push (newSet w)).get? a = some (newSet w) := by rw [← hn]; exact Heap.get?_push_size _ rfl
      have ty : Shared.TypeIs { s with heap := s.heap.push (newSet w) } (.ref a) "set" := ⟨_, at0, rfl⟩
      have e6 := F.called_set.init.lookup; have e7 := F.called_set.init.bind (.ref a)
      repeat (any_goals (first | assumption | wp_step))
      refine codeAny_mono (codeAny_call_builtin (R := wants (fun r s2 => r = .none ∧ ∃ h' tk L es ep t, s2 = { s with heap := h', toks := tk } ∧ SetN w h' a L es ep t ∧ GotN ks ks.length L ∧ (∀ b o, s.heap.get? b = some o → h'.get? b = some o)) E)
        F.called_set.init.plain F.entry_set_init (check_set_init_1 ty ?_)) fun r2 s2 hr2 => ?_
      · obtain ⟨⟨oc, od, ot, os⟩, hol, hcl, nl, hdl⟩ := hl
        simp only at hcl hdl
        subst hcl; subst hdl
        have hol1 : (s.heap.push (newSet w)).get? l = some { cls := .type "list", dict := od, data := .seq items nl, slots := os } := Heap.get?_push_of_some _ hol
        have e8 := F.sub_list_set; have e9 := F.sub_list_frozenset
        have e10 : (Value.type "list" == Value.type "dict") = false := by decide
        have hl1 : (s.heap.push (newSet w)).IsList l items := ⟨_, hol1, rfl, nl, rfl⟩
        have la : l < a := by rw [← hn]; exact Heap.lt_size hol
        have z1 : (s.heap.push (newSet w)).objs.size = a + 1 := by rw [Heap.size_push, hn]
        have none_at : ∀ b, a ≤ b → s.heap.get? b = none := fun b hb => by
          cases q : s.heap.get? b with
          | none => rfl
          | some o => have := Heap.lt_size q; rw [hn] at this; exact absurd (Nat.lt_of_lt_of_le this hb) (Nat.lt_irrefl _)
        unfold Builtin.«set.__init__» noKeywords Builtin.Frozenset.updateFrom
        generalize hPI : pyIter = PI
        wp_walk
        subst hPI
        refine wpAny_pyIter_list hl1 (wpAny_bind (wpAny_runValue ?_))
        have h3 : A.in1.in1.in1.handled = none := by simp [hh]
        have n1 : l ≠ (s.heap.push (newSet w)).objs.size := by rw [z1]; exact Nat.ne_of_lt (Nat.lt_succ_of_lt la)
        have n2 : a ∉ [(s.heap.push (newSet w)).objs.size, l] := by
          rw [z1]
          simp only [List.mem_cons, List.not_mem_nil, or_false, not_or]
          exact ⟨Nat.ne_of_lt (Nat.lt_succ_self _), Nat.ne_of_gt la⟩
        have vals : ∀ (i : Nat) (v : Value), items[i]? = some v → ∃ p, ks[i]? = some p ∧ v = .ref p.1 := fun i v hv => by
          have q : items.toList[i]? = some v := by rw [Array.getElem?_toList]; exact hv
          rw [hit, List.getElem?_map] at q
          obtain ⟨p, hp, e⟩ := Option.map_eq_some_iff.mp q
          exact ⟨p, hp, e.symm⟩
        refine loopN ((Walks.list h3 _ l n1 items).toS) a n2 ks size hfew vals s.heap hk (none_at a (Nat.le_refl _)) (fun b hb => none_at b (by rw [List.mem_singleton.mp hb, z1]; exact Nat.le_succ _)) (by simp only [Around.in1_units]; omega) (items.size - 0) 0 _ (by omega) (Nat.zero_le _) ⟨⟨_, Heap.get?_push_size _ rfl, rfl, rfl⟩, (hl1.push _)⟩
          (fun b o e => Heap.get?_push_of_some _ (Heap.get?_push_of_some _ e)) ⟨[], #[], 0, _, setN_fresh (Heap.get?_push_of_some _ at0), ⟨fun p h => (by cases h), fun p h => (by simp at h), Nat.le_refl _⟩⟩ fun s' L es ep t hm hS' hg hq => ?_
        obtain ⟨h', g2, d', tk', os'⟩ := s'
        obtain rfl : g2 = s.gens := hm.gens
        obtain rfl : d' = s.drawn := hm.drawn
        obtain rfl : os' = s.os := hm.os
        show wpAny _ _ _ _ _ _
        refine wpAny_pure ?_
        show wpAny _ _ (ret Value.none) _ _ _
        rw [size] at hg
        exact wpAny_pure ⟨rfl, h', tk', L, es, ep, t, rfl, hS', hg, hq⟩
      · cases r2 with
        | error e => exact hr2
        | ok fl =>
          cases fl with
          | ret r =>
            obtain ⟨rfl, h', tk, L, es, ep, t, rfl, q1, q2, q3⟩ := hr2
            repeat (any_goals (first | assumption | wp_step))
            exact h _ _ _ _ _ _ q1 q2 q3
          | _ => exact hr2.elim
    | _ => exact hr.elim
end
end SD
/-! SNi: len(set(xs)), sorted(xs) of tuples of numbers, sorted(set(xs)) of pairs. -/
namespace SD
open PySem PySem.Spec PyProof.Rows L2
/-! ### len(set(xs)) -/
def tnD (d : D) : Bool := match d with
  | .tup _ => match toNK d with
    | some k => decide (k.depth ≤ 8) && numK k
    | none => false
  | _ => false
theorem tn_ref {K : KW} {m : List Addr} {H : Hp} {d : D} {v : V} (r : RD K m H d v) (h : tnD d = true) : ∃ k b, v = .ref b ∧ d = keyN k ∧ k.depth ≤ 8 ∧ numK k = true ∧ RD K m H (keyN k) (.ref b) := by
  unfold tnD at h
  cases d with
  | tup xs =>
    simp only at h
    cases e : toNK (.tup xs) with
    | none => rw [e] at h; cases h
    | some k =>
      rw [e] at h
      simp only [Bool.and_eq_true, decide_eq_true_eq] at h
      have ek := toNK_eq _ _ e
      cases r with
      | tup a z b =>
        rename_i p vs
        exact ⟨k, p, rfl, ek, h.1, h.2, ek ▸ RD.tup a z b⟩
  | _ => cases h
theorem tn_list {K : KW} {m : List Addr} {H : Hp} : ∀ {xs : List D} {vs : List V}, RDs K m H xs vs → (∀ x ∈ xs, tnD x = true) → ∃ ks : NL, vs = ks.map (fun p => V.ref p.1) ∧ xs = ks.map (fun p => keyN p.2) ∧ ∀ p ∈ ks, p.2.depth ≤ 8 ∧ numK p.2 = true ∧ RD K m H (keyN p.2) (.ref p.1)
  | _, _, .nil, _ => ⟨[], rfl, rfl, fun p h => by cases h⟩
  | x :: xs, v :: vs, .cons r t, h => by
    obtain ⟨k, b, rfl, rfl, h1, h2, h3⟩ := tn_ref r (h x List.mem_cons_self)
    obtain ⟨ks, rfl, rfl, h4⟩ := tn_list t fun y hy => h y (List.mem_cons_of_mem _ hy)
    exact ⟨(b, k) :: ks, rfl, rfl, fun p hp => by
      rcases List.mem_cons.mp hp with rfl | hp
      · exact ⟨h1, h2, h3⟩
      · exact h4 p hp⟩
def tLenSetN (K : KW) (ta : TE) : TE := fun σ H Q => ta σ H fun x H1 => ∃ (l : Addr) (ks : NL), x = V.ref l ∧ SqL K H1 l (ks.map fun p => V.ref p.1) ∧ ks.length < 64 ∧ (∀ p ∈ ks, p.2.depth ≤ 8 ∧ numK p.2 = true ∧ ∃ m, RD K m H1 (keyN p.2) (.ref p.1)) ∧
  ∀ c : Nat, (∃ ys : List NestedKey, ys.Nodup ∧ (∀ y, y ∈ ys ↔ y ∈ ks.map (·.2)) ∧ ys.length = c) → Q (.int (c : Nat)) H1
section
variable {X : Cx}
theorem pe_lenSetN {a : Expr} {ta : TE} {p p2 q pos : Pos} (hc : X.calm = true) (hu : X.A.units + 65 < cLine) (hg : Gl X "len") (hm : X.mg "len" = none) (hg2 : Gl X "set") (hm2 : X.mg "set" = none) (ha : PE X a ta) (na : starEach [a] X.env = (false, eval a X.env) :: starEach [] X.env := by rfl) :
    PE X (.Call (.Name "len" p) [.Call (.Name "set" p2) [a] [] q] [] pos) (tLenSetN (kW X) ta) := by
  refine ⟨fun pins s σ H Q I h => ?_⟩
  refine Call_ (ld_blt I hg hm PySem.boot_len (PyProof.Rows.callWith_builtin1 (PyProof.Rows.args_cons ?_ rfl) rfl rfl))
  refine Call_ (ld_blt I hg2 hm2 PyProof.Rows.boot_set (PyProof.Rows.callWith_type1 (PyProof.Rows.args_cons (thn (ha.run pins s σ H _ I h) fun v s1 z => PyProof.Rows.args_nil ?_) na) na rfl))
  obtain ⟨x, H1, I1, r1, l, ks, rfl, hq, hf, hk, fin⟩ := z
  cases r1
  obtain ⟨its, r, pl, hz⟩ := I1.list hq
  have refs : ∀ {ks : NL} {us : List Value}, Vals (ks.map fun p => V.ref p.1) us → us = ks.map fun p => Value.ref p.1 := fun {ks} => by
    induction ks with
    | nil => intro us r; cases r; rfl
    | cons p ks ih =>
      intro us r
      cases r with
      | cons r t => cases r; rw [List.map_cons, ih t]
  refine set_of_N (P := X.prog) (w := X.w) ks (I1.ok.hd hc) pl.isList (by simpa using refs r) (fun p hp => ?_) hf (by omega) fun h' tk L es ep t hS g hkeep => ?_
  · obtain ⟨h1, h2, m, h3⟩ := hk p hp
    exact ⟨nis I1 p.2 _ _ h3 rfl, h1, h2⟩
  refine PyProof.Rows.args_nil ?_
  have I2 : Inv X pins σ H1 { s1 with heap := h', toks := tk } := I1.kept hkeep
  obtain ⟨o, ho, hex, hd⟩ := hS.ob
  have hsz := SetN.size (s := { s1 with heap := h', toks := tk }) hS
  refine call_len_set (s := { s1 with heap := h', toks := tk }) ho hex hd (SetN.fits (s := { s1 with heap := h', toks := tk }) hS) (by have := hS.few; rw [hsz]; omega) ⟨.int ((L.length : Nat) : Int), H1, I2.tok _, ⟨_, by rw [hsz]⟩, fin L.length ⟨L.map (·.2), hS.nd, fun y => ⟨fun hy => ?_, fun hy => ?_⟩, List.length_map ..⟩⟩
  · obtain ⟨p, hp, rfl⟩ := List.mem_map.mp hy
    exact List.mem_map.mpr ⟨p, List.mem_of_mem_take (g.sub p hp), rfl⟩
  · obtain ⟨p, hp, rfl⟩ := List.mem_map.mp hy
    exact g.all p (by rw [List.take_length]; exact hp)
/-- over D: c is how many different ones there are -/
def eLenSet (f : FE) : FE := fun σ S Q => f σ S fun d S1 => ∃ n xs, d = .ref n ∧ S1[n]? = some (.lst xs) ∧ xs.length < 64 ∧ (∀ x ∈ xs, tnD x = true) ∧ ∀ (c : Nat) (ys : List D), ys.Nodup → (∀ y, y ∈ ys ↔ y ∈ xs) → ys.length = c → Q (.int (c : Nat)) S1
theorem re_lenSet {e : Expr} {f : FE} {p p2 q pos : Pos} (hc : X.calm = true) (hu : X.A.units + 65 < cLine) (hm : X.mg "len" = none) (hm2 : X.mg "set" = none) (he : RE X e f) (hg : Gl X "len" := by rfl) (hg2 : Gl X "set" := by rfl) (na : starEach [e] X.env = (false, eval e X.env) :: starEach [] X.env := by rfl) :
    RE X (.Call (.Name "len" p) [.Call (.Name "set" p2) [e] [] q] [] pos) (eLenSet f) := by
  refine pe_w (pe_lenSetN hc hu hg hm hg2 hm2 he na) fun σ H Q q => ?_
  obtain ⟨m, σd, S, P, s, r, p, w⟩ := q
  refine ⟨m, σd, S, _, s, r, p, fun d S1 m1 v H1 ⟨n, xs, e, e1, hf, hx, p1⟩ g1 s1 r1 => ?_⟩
  subst e
  obtain ⟨l, vs, rfl, _, hl, b, _⟩ := lst_at s1 r1 e1
  obtain ⟨ks, rfl, rfl, hk⟩ := tn_list b hx
  rw [List.length_map] at hf
  refine ⟨l, ks, rfl, SqL.of hl, hf, fun p hp => ⟨(hk p hp).1, (hk p hp).2.1, m1, (hk p hp).2.2⟩, fun c ⟨ys, h1, h2, h3⟩ => w _ _ _ _ _ (p1 c (ys.map keyN) ?_ (fun y => ?_) (by rw [List.length_map]; exact h3)) g1 s1 (.int _)⟩
  · exact List.nodup_iff_pairwise_ne.mpr (List.pairwise_map.mpr ((List.nodup_iff_pairwise_ne.mp h1).imp fun a z => a (keyN_inj _ _ z)))
  · rw [List.mem_map, List.mem_map]
    constructor
    · rintro ⟨k, hk1, rfl⟩
      obtain ⟨p, hp, rfl⟩ := List.mem_map.mp ((h2 k).mp hk1)
      exact ⟨p, hp, rfl⟩
    · rintro ⟨p, hp, rfl⟩
      exact ⟨p.2, (h2 _).mpr (List.mem_map.mpr ⟨p, hp, rfl⟩), rfl⟩
/-! ### sorted(xs), xs a list of tuples of numbers, none empty -/
abbrev encRow (b : V × List Int) : PyData := .tuple (b.2.map .int)
noncomputable def sortRows (bs : List (V × List Int)) : List (V × List Int) := bs.mergeSort (PySem.W.dataLe false encRow)
def rSortRow (K : KW) : List V → Hp → VK → Prop := fun vs H Q => ∃ (a : Addr) (bs : List (V × List Int)), vs = [.ref a] ∧ SqL K H a (bs.map (·.1)) ∧ (∀ b ∈ bs, b.2 ≠ [] ∧ ∃ t, b.1 = .ref t ∧ SqT K H t (b.2.map V.int)) ∧ bs.length ≤ sizeLine ∧ ∀ p, H p = none → Q (.ref p) (upd H p (.lst ((sortRows bs).map (·.1))))
theorem dp_ints {K : PySem.W.Frag} {H : Hp} : ∀ ns : List Int, DpAll K H (ns.map V.int) (ns.map PyData.int)
  | [] => .nil
  | n :: ns => .cons (.int n) (dp_ints ns)
theorem each_vals {bs : List (V × List Int)} : ∀ {us : List Value}, Vals (bs.map (·.1)) us → PySem.W.EachIs (fun v b => L2.RelV b.1 v) us bs := by
  induction bs with
  | nil => intro us r; cases r; exact .nil
  | cons b bs ih =>
    intro us r
    cases r with
    | cons r t => exact .cons r (ih t)
theorem vals_each {bs : List (V × List Int)} : ∀ {us : List Value}, PySem.W.EachIs (fun v b => L2.RelV b.1 v) us bs → Vals (bs.map (·.1)) us := by
  induction bs with
  | nil => intro us r; cases r; exact .nil
  | cons b bs ih =>
    intro us r
    cases r with
    | cons r t => exact .cons r (ih t)
theorem cr_sortRow (hu : X.A.units + 65 < cLine) : CallR X (.builtin "sorted") (rSortRow (kW X)) := by
  intro pins s σ H xs us Q I r h
  obtain ⟨a, bs, rfl, hl, hb, hz, q⟩ := h
  obtain ⟨u, rfl, rx⟩ := vals1 r
  cases rx
  obtain ⟨its, rv, pl, hz2⟩ := I.list hl
  have er : PySem.W.EachIs (fun v b => ∃ as, Reads s.heap v (encRow b) as) its bs := by
    have key : ∀ {bs' : List (V × List Int)} {us : List Value}, (∀ b ∈ bs', b ∈ bs) → PySem.W.EachIs (fun v b => L2.RelV b.1 v) us bs' → PySem.W.EachIs (fun v b => ∃ as, Reads s.heap v (encRow b) as) us bs' := by
      intro bs'
      induction bs' with
      | nil => intro us _ r; cases r; exact .nil
      | cons b bs' ih =>
        intro us hs r
        cases r with
        | cons r t =>
          obtain ⟨_, t', e, sq⟩ := hb b (hs b List.mem_cons_self)
          exact .cons (Dp.reads I _ b.1 _ (by rw [e]; exact .tup sq (dp_ints _)) r) (ih (fun c hc => hs c (List.mem_cons_of_mem _ hc)) t)
    exact key (fun b h => h) (each_vals rv)
  have dep : ∀ b : V × List Int, (encRow b).depth ≤ 1 := fun b => by
    show PyData.depthAll _ + 1 ≤ 1
    rw [PySem.W.depth_ints]; exact Nat.le_refl _
  refine PySem.W.sorted_data (enc := encRow) pl.isList (each_vals rv) er (PySem.W.AllAlike.of fun b b' => by
      show PySem.W.alike (.tuple _) (.tuple _) = true
      rw [PySem.W.alike]; exact PySem.W.alike_ints _ _) (.inl fun d hd => ?_) hz (fun b _ => by have := dep b; omega) fun out h1 h2 => ?_
  · obtain ⟨b, hb2, rfl⟩ := List.mem_map.mp hd
    obtain ⟨ne, _⟩ := hb b hb2
    cases e : b.2 with
    | nil => exact absurd e ne
    | cons n ns => exact ⟨.int n, ns.map .int, by show PyData.tuple (b.2.map .int) = _; rw [e]; rfl⟩
  · obtain ⟨c, at1⟩ := sortedAll_at s.heap its out.toArray
    have hl2 : ((sortRows bs).map (·.1)).length ≤ sizeLine := by rw [List.length_map]; unfold sortRows; rw [List.length_mergeSort]; exact hz
    exact ⟨.ref (s.heap.objs.size + 1), _, I.laid (t' := s.toks) (o := .lst ((sortRows bs).map (·.1))) (fun b o e => sortedAll_old e) (Nat.le_succ _) ⟨hl2, out, c, vals_each h2, at1⟩, rfl, q _ (I.hok.fresh (Nat.le_succ _))⟩
theorem rows_le (a b : V × List Int) : PySem.W.dataLe false encRow a b = decide (a.2 ≤ b.2) := by
  show (!PySem.W.dataLt (.tuple (b.2.map .int)) (.tuple (a.2.map .int))) = _
  have e : PySem.W.dataLt (.tuple (b.2.map .int)) (.tuple (a.2.map .int)) = decide (b.2 < a.2) := (PySem.W.dataLt_tuple _ _).trans (PySem.W.dataLt_ints _ _)
  rw [e]
  by_cases h : b.2 < a.2
  · rw [decide_eq_true h, decide_eq_false (fun z => List.not_lt.mpr z h)]; rfl
  · rw [decide_eq_false h, decide_eq_true (List.not_lt.mp h)]; rfl
theorem sortRows_perm (bs : List (V × List Int)) : (sortRows bs).Perm bs := List.mergeSort_perm _ _
theorem sortRows_sorted (bs : List (V × List Int)) : (sortRows bs).Pairwise fun a b => a.2 ≤ b.2 := by
  refine (List.pairwise_mergeSort (le := PySem.W.dataLe false encRow) (fun a b c h1 h2 => ?_) (fun a b => ?_) bs).imp fun h => ?_
  · rw [rows_le, decide_eq_true_eq] at *
    exact List.le_trans h1 h2
  · rw [rows_le, rows_le, Bool.or_eq_true, decide_eq_true_eq, decide_eq_true_eq]
    exact List.le_total _ _
  · rw [rows_le, decide_eq_true_eq] at h
    exact h
def rowD (r : List Int) : D := .tup (r.map .int)
def sortRF : FN := fun xs S Q => match xs with
  | [d] => ∃ (n : Nat) (rows : List (List Int)), d = .ref n ∧ S[n]? = some (.lst (rows.map rowD)) ∧ (∀ r ∈ rows, r ≠ []) ∧ ∀ rows' : List (List Int), rows'.Perm rows → rows'.Pairwise (fun a b => a ≤ b) → Q (.ref S.length) (S ++ [.lst (rows'.map rowD)])
  | _ => False
theorem rows_list {K : KW} {m : List Addr} {H : Hp} : ∀ {rows : List (List Int)} {vs : List V}, RDs K m H (rows.map rowD) vs → ∃ bs : List (V × List Int), vs = bs.map (·.1) ∧ rows = bs.map (·.2) ∧ ∀ b ∈ bs, RD K m H (rowD b.2) b.1 ∧ ∃ t, b.1 = .ref t ∧ SqT K H t (b.2.map V.int)
  | [], _, h => by cases h; exact ⟨[], rfl, rfl, fun b h => by cases h⟩
  | r :: rows, _, h => by
    cases h with
    | cons h t =>
      obtain ⟨bs, rfl, rfl, hb⟩ := rows_list t
      rename_i v
      refine ⟨(v, r) :: bs, rfl, rfl, fun b hb2 => ?_⟩
      rcases List.mem_cons.mp hb2 with rfl | hb2
      · refine ⟨h, ?_⟩
        cases h with
        | tup a z q =>
          rename_i p vs
          exact ⟨p, rfl, by rw [← q.ints]; exact a⟩
      · exact hb b hb2
theorem cd_sortR (hu : X.A.units + 65 < cLine) : CallD X (.builtin "sorted") sortRF := by
  refine ⟨_, cr_sortRow hu, fun m S H xs vs P Q s r p w => ?_⟩
  match xs, p with
  | [d], p =>
    obtain ⟨v, rfl, rd⟩ := r.one rfl
    obtain ⟨n, rows, rfl, e, hne, p⟩ := p
    obtain ⟨a, us, rfl, _, ha, b, hz⟩ := lst_at s rd e
    obtain ⟨bs, rfl, rfl, hb⟩ := rows_list b
    rw [List.length_map, List.length_map] at hz
    refine ⟨a, bs, rfl, SqL.of ha, fun c hc => ⟨hne _ (List.mem_map.mpr ⟨c, hc, rfl⟩), (hb c hc).2⟩, hz, fun q hq => ?_⟩
    have rr : RDs (kW X) m H (((sortRows bs).map (·.2)).map rowD) ((sortRows bs).map (·.1)) := by
      have key : ∀ {l : List (V × List Int)}, (∀ c ∈ l, c ∈ bs) → RDs (kW X) m H ((l.map (·.2)).map rowD) (l.map (·.1)) := by
        intro l
        induction l with
        | nil => intro _; exact .nil
        | cons c l ih => intro hl; exact .cons (hb c (hl c List.mem_cons_self)).1 (ih fun d hd => hl d (List.mem_cons_of_mem _ hd))
      exact key fun c hc => (sortRows_perm bs).mem_iff.mp hc
    obtain ⟨g, s2, r2⟩ := new_lst s hq rr (by rw [List.length_map, List.length_map, (sortRows_perm bs).length_eq]; exact hz)
    refine w _ _ _ _ _ (p _ ((sortRows_perm bs).map _) ?_) g s2 r2
    rw [List.pairwise_map]
    exact sortRows_sorted bs
end
end SD
/-! SNj: sorted(set(xs)) of pairs of small numbers. -/
namespace SD
open PySem PySem.Spec PyProof.Rows L2
def small64 (r : List Int) : Prop := ∃ x y : Int, r = [x, y] ∧ 0 ≤ x ∧ x < 64 ∧ 0 ≤ y ∧ y < 64
def ssP (Q : PD) (d : D) (S1 : Store) : Prop := ∃ (n : Nat) (rows : List (List Int)), d = .ref n ∧ S1[n]? = some (.lst (rows.map rowD)) ∧ rows.length < 64 ∧ (∀ r ∈ rows, small64 r) ∧
  ∀ out : List (List Int), out.Nodup → out.Pairwise (fun a b => a ≤ b) → (∀ r, r ∈ out ↔ r ∈ rows) → Q (.ref S1.length) (S1 ++ [.lst (out.map rowD)])
def eSortSetP (f : FE) : FE := fun σ S Q => f σ S fun d S1 => ssP Q d S1
theorem pair_le {r q : List Int} (hr : small64 r) (hq : small64 q) (h : TS.code 64 r ≤ TS.code 64 q) : r ≤ q := by
  obtain ⟨x, y, rfl, a1, a2, a3, a4⟩ := hr
  obtain ⟨x', y', rfl, b1, b2, b3, b4⟩ := hq
  by_cases e : ([x, y] : List Int) = [x', y']
  · rw [e]; exact List.le_refl _
  · have := pair_lt h e ⟨a1, a2⟩ ⟨a3, a4⟩ ⟨b1, b2⟩ ⟨b3, b4⟩
    show ¬ ([x', y'] : List Int) < [x, y]
    rw [List.cons_lt_cons_iff, List.cons_lt_cons_iff]
    rintro (z | ⟨z, z2 | ⟨z2, z3⟩⟩)
    · omega
    · omega
    · exact absurd z3 (by simp)
theorem small_code {r : List Int} (h : small64 r) : r.length = 2 ∧ TS.Bd 64 r := by
  obtain ⟨x, y, rfl, a1, a2, a3, a4⟩ := h
  refine ⟨rfl, fun m hm => ?_⟩
  simp only [List.mem_cons, List.not_mem_nil, or_false] at hm
  rcases hm with rfl | rfl
  · exact ⟨a1, a2⟩
  · exact ⟨a3, a4⟩
theorem rows_refs {K : KW} {m : List Addr} {H : Hp} : ∀ {rows : List (List Int)} {vs : List V}, RDs K m H (rows.map rowD) vs → ∃ ks : List (Addr × List Int), vs = ks.map (fun p => V.ref p.1) ∧ rows = ks.map (·.2) ∧ ∀ p ∈ ks, RD K m H (rowD p.2) (.ref p.1) ∧ SqT K H p.1 (p.2.map V.int)
  | [], _, h => by cases h; exact ⟨[], rfl, rfl, fun b h => by cases h⟩
  | r :: rows, _, h => by
    cases h with
    | cons h t =>
      obtain ⟨ks, rfl, rfl, hk⟩ := rows_refs t
      have h2 := h
      cases h with
      | tup a z q =>
        rename_i p vs
        have e : (⟨p, r⟩ : Addr × List Int).1 = p := rfl
        refine ⟨(p, r) :: ks, rfl, rfl, fun c hc => ?_⟩
        rcases List.mem_cons.mp hc with rfl | hc
        · exact ⟨h2, by rw [← q.ints]; exact a⟩
        · exact hk c hc
section
variable {X : Cx}
theorem re_sortSetP {e : Expr} {f : FE} {p p2 pos pos2 : Pos} (hc : X.calm = true) (hu : X.A.units + 65 < cLine) (hm : X.mg "sorted" = none) (hm2 : X.mg "set" = none) (he : RE X e f) (hg : Gl X "sorted" := by rfl) (hg2 : Gl X "set" := by rfl) (n1 : starEach [e] X.env = (false, eval e X.env) :: starEach [] X.env := by rfl)
    (n2 : starEach [.Call (.Name "set" p2) [e] [] pos2] X.env = (false, eval (.Call (.Name "set" p2) [e] [] pos2) X.env) :: starEach [] X.env := by rfl) : RE X (.Call (.Name "sorted" p) [.Call (.Name "set" p2) [e] [] pos2] [] pos) (eSortSetP f) := by
  refine pe_w (pe_callB (cr_sortedT hc) hg hm (by decide +kernel) (pa_cons (pe_callTy (cr_setOfT hc (by omega)) hg2 hm2 (by decide +kernel) (pa_cons he pa_nil n1) (by decide) (by decide) n1 (by rfl)) pa_nil n2) (by decide) (by decide) n2 (by rfl)) fun σ H Q q => ?_
  obtain ⟨m, σd, S, P, s, r, p, w⟩ := q
  refine ⟨m, σd, S, _, s, r, p, fun d S1 m1 v H1 ⟨n, rows, e1, e2, h64, hsm, p1⟩ g1 s1 r1 => ?_⟩
  subst e1
  obtain ⟨l, vs, rfl, _, hl, b, hz⟩ := lst_at s1 r1 e2
  obtain ⟨ks, rfl, rfl, hk⟩ := rows_refs b
  rw [List.length_map] at h64
  refine ⟨l, ks, rfl, SqL.of hl, fun p hp => (hk p hp).2, h64, fun a L ha hL1 hL2 => ?_⟩
  have g2 : Grow m1 H1 m1 _ := Grow.new ha (SetTO X.prog X.w a L) (List.prefix_refl _)
  have s2 := s1.plus ha (SetTO X.prog X.w a L)
  have small : ∀ p ∈ L, small64 p.2 := fun p hp => hsm _ (List.mem_map.mpr ⟨p, hL1 p hp, rfl⟩)
  refine ⟨a, L, 2, 64, rfl, upd_same, fun p hp => ?_, by decide, fun p hp => small_code (small p hp), fun L' q pm nd few pw hq => ?_⟩
  · have := (hk p (hL1 p hp)).2
    rcases this with (h | ⟨o, h⟩) | h
    · exact .inl (.inl (by rw [upd_ne (fun z => by rw [z, ha] at h; cases h)]; exact h))
    · exact .inl (.inr ⟨o, by rw [upd_ne (fun z => by rw [z, ha] at h; cases h)]; exact h⟩)
    · exact .inr h
  · have rr : RDs (kW X) m1 (upd H1 a (SetTO X.prog X.w a L)) ((L'.map (·.2)).map rowD) (L'.map fun p => V.ref p.1) := by
      have key : ∀ {l : List (Addr × List Int)}, (∀ c ∈ l, c ∈ ks) → RDs (kW X) m1 (upd H1 a (SetTO X.prog X.w a L)) ((l.map (·.2)).map rowD) (l.map fun p => V.ref p.1) := by
        intro l
        induction l with
        | nil => intro _; exact .nil
        | cons c l ih => intro hl; exact .cons ((hk c (hl c List.mem_cons_self)).1.up g2) (ih fun d hd => hl d (List.mem_cons_of_mem _ hd))
      exact key fun c hc => hL1 c (pm.mem_iff.mp hc)
    obtain ⟨g3, s3, r3⟩ := new_lst s2 hq rr (by rw [List.length_map, List.length_map]; rw [sizeLine_eq]; omega)
    refine w _ _ _ _ _ (p1 _ nd ?_ fun r => ⟨fun hr => ?_, fun hr => ?_⟩) (g1.trans (g2.trans g3)) s3 r3
    · rw [List.pairwise_map]
      exact pw.imp_of_mem fun {a b} ha hb h => pair_le (small a (pm.mem_iff.mp ha)) (small b (pm.mem_iff.mp hb)) h
    · obtain ⟨p, hp, rfl⟩ := List.mem_map.mp hr
      exact List.mem_map.mpr ⟨p, hL1 p (pm.mem_iff.mp hp), rfl⟩
    · obtain ⟨p, hp, rfl⟩ := List.mem_map.mp hr
      obtain ⟨p2, hp2, e⟩ := List.mem_map.mp (hL2 p hp)
      rw [← e]
      exact List.mem_map.mpr ⟨p2, pm.mem_iff.mpr hp2, rfl⟩
end
end SD
/-! SNk: zip of two tuples. -/
namespace SD
open PySem PySem.Spec PyProof.Rows L2
def iZipD (fa : FA) : FI := fun σ S R => fa σ S fun ds S1 => ∃ xs ys, ds = [.tup xs, .tup ys] ∧ xs.length ≤ ys.length ∧ ys.length ≤ xs.length ∧ R Always ((xs.zip ys).map fun p => .tup [p.1, p.2]) S1
section
variable {X : Cx}
theorem ri_zip {e e2 : Expr} {fa : FA} {p pos tpos : Pos} {elts : List Expr} {kk : Nat} (hm : X.mg "zip" = none) (ha : RA X [e, e2] fa) (hg : Gl X "zip" := by rfl)
    (hs : starEach [e, e2] X.env = (false, eval e X.env) :: starEach [e2] X.env := by rfl) (hpl : (backTo pos (starEach [e2] X.env)).any (·.1) = false := by rfl) :
    RI X (.Tuple elts kk tpos) (.Call (.Name "zip" p) [e, e2] [] pos) (iZipD fa) := by
  refine pi_w (RZ.pi_zipA hg hm ha hs hpl) fun σ H R q => ?_
  obtain ⟨m, σd, S, P, s, r, p, w⟩ := q
  refine ⟨m, σd, S, _, s, r, p, fun ds S1 m1 vs H1 ⟨xs, ys, e, l1, l2, p1⟩ g1 s1 r1 => ?_⟩
  subst e
  have hl : xs.length = ys.length := Nat.le_antisymm l1 l2
  cases r1 with
  | cons ra rb =>
    cases rb with
    | cons rb rn =>
      cases rn
      cases ra with
      | @tup a _ us az zz b =>
        cases rb with
        | @tup a2 _ us2 az2 zz2 b2 =>
          refine ⟨a, a2, us, us2, rfl, .inr ⟨az, az2, w _ _ _ _ _ _ p1 g1 s1 ⟨?_, fun i m2 S2 H2 d g s2 _ hd => ?_, fun i m2 S2 H2 g s2 _ hi => ?_⟩⟩⟩
          · rw [List.length_map, List.length_zip, ← hl, Nat.min_self, b.length]; exact zz
          · rw [List.getElem?_map] at hd
            cases hz : (xs.zip ys)[i]? with
            | none => rw [hz] at hd; cases hd
            | some pr =>
              rw [hz] at hd
              cases hd
              obtain ⟨x, y⟩ := pr
              obtain ⟨hx, hy⟩ := List.getElem?_zip_eq_some.mp hz
              obtain ⟨v, e1, rv⟩ := (b.up g).get hx
              obtain ⟨v2, e2, rv2⟩ := (b2.up g).get hy
              refine ⟨⟨us, us2, v, v2, g.sqT az, g.sqT az2, e1, e2⟩, fun z H3 hy => ?_⟩
              obtain ⟨T, x', y', rfl, hT, rfl, h1, h2⟩ := hy
              have := h1 us (g.sqT az)
              rw [e1] at this
              cases this
              have := h2 us2 (g.sqT az2)
              rw [e2] at this
              cases this
              have g3 : Grow m2 H2 m2 (upd H2 T (.tup [v, v2])) := Grow.new hT _ (List.prefix_refl _)
              exact ⟨g3, s2.plus hT _, .tup (.inl (.inl upd_same)) (by show 2 ≤ sizeLine; decide) (.cons (rv.up g3) (.cons (rv2.up g3) .nil))⟩
          · rw [List.length_map, List.length_zip, ← hl, Nat.min_self] at hi
            exact ⟨us, us2, g.sqT az, g.sqT az2, .inl (by rw [← b.length]; exact hi)⟩
end
end SD
/-! SNl: steps and tools for dicts by tuples. -/
namespace SD
open PySem L2
section
variable {σ : Slots} {S : Store} {E : EndsD} {Q : PD} {QB : Bool → Store → Prop} {QA : List D → Store → Prop} {QG : Slots → Store → Prop} {QI : (Store → Prop) → List D → Store → Prop}
theorem r_mtT {fr : FM} {fo : FE} {fa : FA} (h : fo σ S fun x S1 => tyT S1 x ∧ fa σ S1 fun xs S2 => fr x xs S2 Q) : eMtT fr fo fa σ S Q := h
theorem r_tyT {n : Nat} {ys : List (D × D)} {P : Prop} (e : S[n]? = some (.tdc ys)) (h : P) : tyT S (.ref n) ∧ P := ⟨⟨n, ys, rfl, e⟩, h⟩
theorem tdD_at {n : Nat} {kvs : List (D × D)} (e : S[n]? = some (.tdc kvs)) : tdD S (.ref n) = some kvs := by show tdC S[n]? = _; rw [e]; rfl
theorem r_updT {n j : Nat} {kvs more : List (D × D)} (ne : n ≠ j) (a : S[n]? = some (.tdc kvs)) (b : tdD S (.ref j) = some more) (l : kvs.length + more.length ≤ sizeLine) (hh : kvs ≠ [] ∨ hashOk more) (h : ∀ S', S'[n]? = some (.tdc (mergeD kvs more)) → Off n S S' → Q .non S') : updTF (.ref n) [.ref j] S Q :=
  ⟨n, j, kvs, more, rfl, rfl, ne, a, b, l, hh, h _ (set_at a) (Off.set _ _ _)⟩
theorem r_getT {n : Nat} {kvs : List (D × D)} {k z : D} (a : tdD S (.ref n) = some kvs) (t : tkD k = true) (h : Q ((valD kvs k).getD z) S) : getTF (.ref n) [k, z] S Q := ⟨kvs, k, z, a, rfl, t, h⟩
theorem r_sdfT {n : Nat} {kvs : List (D × D)} {k z : D} (a : S[n]? = some (.tdc kvs)) (t : tkD k = true) (l : kvs.length < sizeLine) (h1 : ∀ v, valD kvs k = some v → Q v S) (h2 : valD kvs k = none → ∀ S', S'[n]? = some (.tdc (putD kvs k z)) → Off n S S' → Q z S') : sdfTF (.ref n) [k, z] S Q :=
  ⟨n, kvs, k, z, rfl, rfl, a, t, l, h1, fun e => h2 e _ (set_at a) (Off.set _ _ _)⟩
theorem r_subT {fo fi : FE} {d : D} (h : fo σ S fun o S1 => fi σ S1 fun i S2 => setTF o i d S2 fun S3 => QG σ S3) : gSubT fo fi d σ S QG := h
theorem r_setT {n : Nat} {kvs : List (D × D)} {i v : D} {R : Store → Prop} (a : S[n]? = some (.tdc kvs)) (t : tkD i = true) (l : kvs.length < sizeLine) (h : ∀ S', S'[n]? = some (.tdc (putD kvs i v)) → Off n S S' → R S') : setTF (.ref n) i v S R :=
  ⟨n, kvs, rfl, a, t, l, h _ (set_at a) (Off.set _ _ _)⟩
theorem r_lenT {d : D} {kvs : List (D × D)} (e : tdD S d = some kvs) (h : Q (.int (kvs.length : Nat)) S) : lenTF [d] S Q := ⟨kvs, e, h⟩
theorem r_listT {d : D} {kvs : List (D × D)} (e : tdD S d = some kvs) (h : Q (.ref S.length) (S ++ [.lst (kvs.map (·.1))])) : listTF [d] S Q := ⟨kvs, e, h⟩
theorem r_vals {f : FE} (h : f σ S fun d S1 => ∃ kvs, tdD S1 d = some kvs ∧ Q (.ref S1.length) (S1 ++ [.lst (kvs.map (·.2))])) : eVals f σ S Q := h
theorem r_dictN (h : Q (.ref S.length) (S ++ [.tdc []])) : eDictN σ S Q := h
theorem r_ixDT {o i v : D} {kvs : List (D × D)} (a : tdD S o = some kvs) (t : tkD i = true) (e : valD kvs i = some v) (h : Q v S) : ixTF o i S Q := ⟨kvs, v, a, t, e, h⟩
theorem r_inDT {neg : Bool} {x y : D} {kvs : List (D × D)} (a : tdD S y = some kvs) (t : tkD x = true) (h : Q (.bl ((valD kvs x).isSome ^^ neg)) S) : inTF neg x y S Q := ⟨kvs, a, t, h⟩
theorem r_dcN {f : FI} {g : FG} {t : FT} {fk fv : FE} {vs : List Nat} (h : f σ S fun ok xs S1 => xs.length ≤ sizeLine → dcT ok g t fk fv S1.length (fun S' => Q (.ref S1.length) S') (wipeD σ vs) xs (S1 ++ [.tdc []])) : eDcN f g t fk fv vs σ S Q := h
theorem r_zip {fa : FA} (h : fa σ S fun ds S1 => ∃ xs ys, ds = [.tup xs, .tup ys] ∧ xs.length ≤ ys.length ∧ ys.length ≤ xs.length ∧ QI Always ((xs.zip ys).map fun p => .tup [p.1, p.2]) S1) : iZipD fa σ S QI := h
theorem r_lenSet {f : FE} (h : f σ S fun d S1 => ∃ n xs, d = .ref n ∧ S1[n]? = some (.lst xs) ∧ xs.length < 64 ∧ (∀ x ∈ xs, tnD x = true) ∧ ∀ (c : Nat) (ys : List D), ys.Nodup → (∀ y, y ∈ ys ↔ y ∈ xs) → ys.length = c → Q (.int (c : Nat)) S1) : eLenSet f σ S Q := h
theorem r_ssP {f : FE} (h : f σ S fun d S1 => ssP Q d S1) : eSortSetP f σ S Q := h
/-- a dict by tuples, locked while e is worked out -/
theorem r_lockT {i n : Nat} {kvs : List (D × D)} {f : FE} (a : σ[i]? = some (some (.ref n))) (e : S[n]? = some (.tdc kvs)) (h : f σ (S.set n (.tlk kvs)) fun d S' => S'[n]? = some (.tlk kvs) ∧ Q d (S'.set n (.tdc kvs))) : eLockT i f σ S Q := ⟨n, kvs, a, e, h⟩
theorem r_sLockT {i n : Nat} {kvs : List (D × D)} {f : FS} (a : σ[i]? = some (some (.ref n))) (e : S[n]? = some (.tdc kvs))
    (h : f ⟨fun σ' S' => S'[n]? = some (.tlk kvs) ∧ E.nx σ' (S'.set n (.tdc kvs)), fun d S' => S'[n]? = some (.tlk kvs) ∧ E.rt d (S'.set n (.tdc kvs)), fun σ' S' => S'[n]? = some (.tlk kvs) ∧ E.bk σ' (S'.set n (.tdc kvs)), fun σ' S' => S'[n]? = some (.tlk kvs) ∧ E.ct σ' (S'.set n (.tdc kvs))⟩ σ (S.set n (.tlk kvs))) :
    sLockT i f E σ S := ⟨n, kvs, a, e, h⟩
theorem r_keysT {i n : Nat} {kvs : List (D × D)} (a : σ[i]? = some (some (.ref n))) (e : S[n]? = some (.tlk kvs)) (h : QI (fun S => S[n]? = some (.tlk kvs)) (kvs.map (·.1)) S) : iKeysT i σ S QI := ⟨n, kvs, a, e, h⟩
theorem unlock_ext {S S' : Store} {n : Nat} {c d : Cell} (h : S[n]? = some c) (e : Ext (S.set n d) S') : Ext S (S'.set n c) := fun i b q => by
  by_cases hi : n = i
  · subst hi
    rw [h] at q; cases q
    exact set_at (e _ _ (set_at h))
  · rw [set_off hi]
    exact e _ _ ((set_off hi).trans q)
theorem unlock_extB {l : List Nat} {S S' : Store} {n : Nat} {c d : Cell} (hn : n ∉ l) (h : S[n]? = some c) (e : ExtB l (S.set n d) S') : ExtB l S (S'.set n c) := ⟨by have := e.1; rw [List.length_set] at *; exact this, fun i hi b q => by
  by_cases hj : n = i
  · subst hj
    rw [h] at q; cases q
    exact set_at (e.2 _ hn _ (set_at h))
  · rw [set_off hj]
    exact e.2 _ hi _ ((set_off hj).trans q)⟩
/-- a comprehension of a dict by tuples, by an invariant -/
theorem dcN_inv {ok : Store → Prop} {g : FG} {t : FT} {fk fv : FE} {n0 : Nat} {R0 : Store → Prop} (I : Nat → List (D × D) → Store → Prop) {xs : List D} {S0 : Store} (few : xs.length ≤ sizeLine) (at0 : S0[n0]? = some (.tdc [])) (h0 : I 0 [] S0)
    (step : ∀ i x acc S (R : Store → Prop), xs[i]? = some x → S[n0]? = some (.tdc acc) → acc.length ≤ i → I i acc S → (∀ acc' S', S'[n0]? = some (.tdc acc') → acc'.length ≤ i + 1 → I (i + 1) acc' S' → R S') →
      ok S ∧ g x σ S fun σ2 S2 => t σ2 S2 fun b S3 => if b = true then fk σ2 S3 fun k S4 => fv σ2 S4 fun v S5 => ∃ acc, tkD k = true ∧ S5[n0]? = some (.tdc acc) ∧ acc.length < sizeLine ∧ R (S5.set n0 (.tdc (putD acc k v))) else R S3)
    (done : ∀ acc S, S[n0]? = some (.tdc acc) → acc.length ≤ xs.length → I xs.length acc S → ok S ∧ R0 S) : dcT ok g t fk fv n0 R0 σ xs S0 := by
  have go : ∀ (ys : List D) (i : Nat) (acc : List (D × D)) (S : Store), xs.drop i = ys → i ≤ xs.length → S[n0]? = some (.tdc acc) → acc.length ≤ i → I i acc S → dcT ok g t fk fv n0 R0 σ ys S := by
    intro ys
    induction ys with
    | nil =>
      intro i acc S hd hi h1 h2 h3
      have : i = xs.length := by
        have := congrArg List.length hd
        simp at this
        omega
      subst this
      exact done acc S h1 h2 h3
    | cons y ys ih =>
      intro i acc S hd hi h1 h2 h3
      have hlt : i < xs.length := by
        have := congrArg List.length hd
        simp at this
        omega
      have hx : xs[i]? = some y := by
        rw [← List.head?_drop, hd]; rfl
      have hd' : xs.drop (i + 1) = ys := by
        rw [← List.tail_drop, hd]; rfl
      exact step i y acc S _ hx h1 h2 h3 fun acc' S' q1 q2 q3 => ih (i + 1) acc' S' hd' hlt q1 q2 q3
  exact go xs 0 [] S0 rfl (Nat.zero_le _) at0 (Nat.le_refl _) h0
end
/-! ### sets as dicts, whatever the keys -/
section
variable {α : Type} [DecidableEq α] {enc : α → D}
def setG (enc : α → D) (ks : List α) : List (D × D) := ks.map fun k => (enc k, .bl true)
def insG (ks : List α) (k : α) : List α := if k ∈ ks then ks else ks ++ [k]
theorem mem_insG {ks : List α} {k j : α} : j ∈ insG ks k ↔ j ∈ ks ∨ j = k := by
  unfold insG
  split
  · constructor
    · exact .inl
    · rintro (h | rfl)
      · exact h
      · assumption
  · simp
theorem nodup_insG {ks : List α} {k : α} (h : ks.Nodup) : (insG ks k).Nodup := by
  unfold insG
  split
  · exact h
  · rw [List.nodup_append]
    exact ⟨h, by simp, fun a ha b hb => by rw [List.mem_singleton] at hb; rintro rfl; subst hb; contradiction⟩
theorem length_insG (ks : List α) (k : α) : (insG ks k).length ≤ ks.length + 1 := by
  unfold insG
  split <;> simp
theorem setG_any (inj : ∀ a b, enc a = enc b → a = b) (ks : List α) (k : α) : (setG enc ks).any (fun p => decide (p.1 = enc k)) = decide (k ∈ ks) := by
  induction ks with
  | nil => rfl
  | cons a ks ih =>
    unfold setG at ih ⊢
    rw [List.map_cons, List.any_cons, ih, Bool.eq_iff_iff, Bool.or_eq_true, decide_eq_true_eq, decide_eq_true_eq, decide_eq_true_eq, List.mem_cons]
    exact or_congr ⟨fun h => (inj _ _ h).symm, fun h => by rw [h]⟩ Iff.rfl
theorem setG_val (inj : ∀ a b, enc a = enc b → a = b) (ks : List α) (k : α) : (valD (setG enc ks) (enc k)).isSome = decide (k ∈ ks) := by
  rw [valD_any, setG_any inj]
theorem setG_put (inj : ∀ a b, enc a = enc b → a = b) (ks : List α) (k : α) : putD (setG enc ks) (enc k) (.bl true) = setG enc (insG ks k) := by
  unfold putD insG
  rw [setG_any inj]
  by_cases h : k ∈ ks
  · rw [if_pos (by simpa using h), if_pos h]
    unfold setG
    rw [List.map_map]
    refine List.map_congr_left fun x _ => ?_
    simp only [Function.comp]
    split <;> rfl
  · rw [if_neg (by simpa using h), if_neg h]
    unfold setG
    simp
theorem setG_keys (ks : List α) : (setG enc ks).map (·.1) = ks.map enc := by
  unfold setG; rw [List.map_map]; rfl
theorem setG_length (ks : List α) : (setG enc ks).length = ks.length := by unfold setG; rw [List.length_map]
theorem setG_nil (ks : List α) : setG enc ks = [] ↔ ks = [] := by unfold setG; rw [List.map_eq_nil_iff]
theorem setG_merge (inj : ∀ a b, enc a = enc b → a = b) (ks ls : List α) : ∃ ms, mergeD (setG enc ks) (setG enc ls) = setG enc ms ∧ (ks.Nodup → ms.Nodup) ∧ ∀ j, j ∈ ms ↔ j ∈ ks ∨ j ∈ ls := by
  induction ls generalizing ks with
  | nil => exact ⟨ks, rfl, fun h => h, fun j => by simp⟩
  | cons a ls ih =>
    obtain ⟨ms, h1, h2, h3⟩ := ih (insG ks a)
    refine ⟨ms, ?_, fun h => h2 (nodup_insG h), fun j => ?_⟩
    · show mergeD (putD (setG enc ks) (enc a) (.bl true)) (setG enc ls) = setG enc ms
      rw [setG_put inj]; exact h1
    · rw [h3, mem_insG, List.mem_cons]
      constructor
      · rintro ((h | h) | h)
        · exact .inl h
        · exact .inr (.inl h)
        · exact .inr (.inr h)
      · rintro (h | h | h)
        · exact .inl (.inl h)
        · exact .inl (.inr h)
        · exact .inr h
/-- {enc (f x): True for x in xs if p x}, the keys tuples -/
theorem dcN_set {β : Type} {ok : Store → Prop} {g : FG} {t : FT} {fk fv : FE} {σ : Slots} {S : Store} {R : Store → Prop} (inj : ∀ a b, enc a = enc b → a = b) (xs : List β) (encB : β → D) (f : β → α) (p : β → Bool) (few : xs.length < sizeLine) (hok : ∀ S1, Ext S S1 → ok S1)
    (tk : ∀ x ∈ xs, tkD (enc (f x)) = true)
    (hs : ∀ x ∈ xs, ∀ (S1 : Store) (R : Store → Prop) (RK : D → D → Store → Prop), Ext S S1 → (p x = false → ∀ S2, Ext S1 S2 → R S2) → (p x = true → ∀ S2, Ext S1 S2 → RK (enc (f x)) (.bl true) S2) → g (encB x) σ S1 fun σ2 S2 => t σ2 S2 fun b S3 => if b = true then fk σ2 S3 fun k S4 => fv σ2 S4 fun v S5 => RK k v S5 else R S3)
    (hQ : ∀ S1 ks, Ext S S1 → S1[S.length]? = some (.tdc (setG enc ks)) → ks.Nodup → (∀ j, j ∈ ks ↔ ∃ x ∈ xs, p x = true ∧ f x = j) → R S1) : dcT ok g t fk fv S.length R σ (xs.map encB) (S ++ [.tdc []]) := by
  refine dcN_inv (fun k acc S1 => Ext S S1 ∧ ∃ ks : List α, acc = setG enc ks ∧ ks.Nodup ∧ ∀ j, j ∈ ks ↔ ∃ x ∈ xs.take k, p x = true ∧ f x = j) (by rw [List.length_map]; omega) (new_at S _) ⟨Ext.app S _, [], rfl, .nil, by simp⟩ ?_ ?_
  · rintro k x acc S1 R1 hx h1 hl ⟨e1, ks, rfl, h2, h3⟩ hR
    rw [List.getElem?_map] at hx
    cases hxx : xs[k]? with
    | none => rw [hxx] at hx; cases hx
    | some x' =>
      rw [hxx] at hx
      cases hx
      have hkl : k < xs.length := (List.getElem?_eq_some_iff.mp hxx).1
      have tk' : xs.take (k + 1) = xs.take k ++ [x'] := by rw [List.take_add_one, hxx]; rfl
      have hm := List.mem_of_getElem? hxx
      refine ⟨hok S1 e1, hs x' hm S1 _ _ e1 (fun hp S2 e2 => ?_) (fun hp S2 e2 => ?_)⟩
      · refine hR _ S2 (e2 _ _ h1) (by omega) ⟨e1.trans e2, ks, rfl, h2, fun j => ?_⟩
        rw [h3, tk']
        constructor
        · rintro ⟨x, a, b⟩
          exact ⟨x, List.mem_append.mpr (.inl a), b⟩
        · rintro ⟨x, a, b, c⟩
          rcases List.mem_append.mp a with a | a
          · exact ⟨x, a, b, c⟩
          · rw [List.mem_singleton] at a
            rw [a, hp] at b; cases b
      · have h1' := e2 _ _ h1
        refine ⟨_, tk x' hm, h1', by omega, ?_⟩
        rw [setG_put inj]
        refine hR _ _ (set_at h1') ?_ ⟨(e1.trans e2).put (Nat.le_refl _), _, rfl, nodup_insG h2, fun j => ?_⟩
        · rw [setG_length] at hl ⊢
          have := length_insG ks (f x')
          omega
        · rw [mem_insG, h3, tk']
          constructor
          · rintro (⟨x, a, b⟩ | rfl)
            · exact ⟨x, List.mem_append.mpr (.inl a), b⟩
            · exact ⟨x', by simp, hp, rfl⟩
          · rintro ⟨x, a, b, c⟩
            rcases List.mem_append.mp a with a | a
            · exact .inl ⟨x, a, b, c⟩
            · rw [List.mem_singleton] at a
              exact .inr (by rw [← c, a])
  · rintro acc S1 h1 hl ⟨e1, ks, rfl, h2, h3⟩
    refine ⟨hok S1 e1, hQ S1 ks e1 h1 h2 fun j => ?_⟩
    rw [h3, List.length_map, List.take_length]
end
end SD
local macro_rules | `(tactic| walk_at "s") => `(tactic| (repeat with_reducible first | refine SD.r_seq ?_ | refine SD.r_asg ?_ | refine SD.r_nm ?_ | refine SD.r_var (by with_unfolding_all rfl) ?_ | refine SD.r_c ?_ | refine SD.r_aCons ?_ | refine SD.r_aNil ?_ | refine SD.r_op ?_ | refine SD.r_call ?_ | refine SD.r_val ?_ | refine SD.r_bl ?_ | refine SD.r_if ?_ | refine SD.r_ret ?_ | refine SD.r_next ?_ | refine SD.r_ifT (by first | decide | (with_unfolding_all rfl)) ?_ | refine SD.r_ifF (by first | decide | (with_unfolding_all rfl)) ?_ | refine SD.r_tup ?_ | refine SD.r_lst ?_ | refine SD.r_le (Nat.le_of_ble_eq_true (by with_unfolding_all rfl)) ?_ | refine SD.r_cb ?_ | refine SD.r_and ?_ | refine SD.r_or ?_ | refine SD.r_not ?_ | refine SD.r_eIf ?_ | refine SD.r_eAnd ?_ | refine SD.r_eOr ?_ | refine SD.r_eNot ?_ | refine SD.r_isN ?_ | refine SD.r_mt ?_ | refine SD.r_iConst ?_ | refine SD.r_sl ?_ | refine SD.r_oSome ?_ | refine SD.r_oInt ?_ | refine SD.r_oNo ?_ | refine SD.r_rev ?_ | refine SD.r_rev2 ?_ | refine SD.r_get2 ?_ | refine SD.r_kix ?_ | refine SD.r_eNotN ?_ | refine SD.r_tr ?_ | refine SD.r_ss ?_ | refine SD.r_dict0 ?_ | refine SD.r_yes ?_ | refine SD.r_isi ?_ | refine SD.r_ty (by with_unfolding_all rfl) ?_ | refine SD.r_ixT (by with_unfolding_all rfl) ?_ | refine SD.r_ixE (by with_unfolding_all rfl) (by with_unfolding_all rfl) ?_ | refine SD.r_ixL (by assumption) (by with_unfolding_all rfl) ?_ | refine SD.r_addI ?_ | refine SD.r_intF ?_ | refine SD.r_intCF (by first | decide | exact SD.cmul_r (by decide) | exact SD.cmul_l (by decide)) ?_ | refine SD.r_eqI ?_ | refine SD.r_neI ?_ | refine SD.r_eqS ?_ | refine SD.r_neS ?_ | refine SD.r_eqB ?_ | refine SD.r_neB ?_ | refine SD.r_int ?_ | refine SD.r_drop ?_ | refine SD.r_sub ?_ | refine SD.r_gTp (by with_unfolding_all rfl) ?_ | refine SD.r_gsCons ?_ | refine SD.r_gsNil ?_ | refine SD.r_for ?_ | refine SD.r_lc ?_ | refine SD.r_dc ?_ | refine SD.r_iRg1 ?_ | refine SD.r_inT (by with_unfolding_all rfl) (by with_unfolding_all rfl) ?_ | refine SD.r_mtT ?_ | refine SD.r_dictN ?_ | refine SD.r_dcN ?_ | refine SD.r_vals ?_ | refine SD.r_zip ?_ | refine SD.r_lenSet ?_ | refine SD.r_ssP ?_ | refine SD.r_subT ?_))
local macro_rules | `(tactic| walk_at "n") => `(tactic| (repeat with_reducible first | refine SD.r_asg ?_ | refine SD.r_nm ?_ | refine SD.r_var (by with_unfolding_all rfl) ?_ | refine SD.r_c ?_ | refine SD.r_aCons ?_ | refine SD.r_aNil ?_ | refine SD.r_op ?_ | refine SD.r_call ?_ | refine SD.r_val ?_ | refine SD.r_bl ?_ | refine SD.r_if ?_ | refine SD.r_ret ?_ | refine SD.r_next ?_ | refine SD.r_ifT (by first | decide | (with_unfolding_all rfl)) ?_ | refine SD.r_ifF (by first | decide | (with_unfolding_all rfl)) ?_ | refine SD.r_tup ?_ | refine SD.r_lst ?_ | refine SD.r_le (Nat.le_of_ble_eq_true (by with_unfolding_all rfl)) ?_ | refine SD.r_cb ?_ | refine SD.r_and ?_ | refine SD.r_or ?_ | refine SD.r_not ?_ | refine SD.r_eIf ?_ | refine SD.r_eAnd ?_ | refine SD.r_eOr ?_ | refine SD.r_eNot ?_ | refine SD.r_isN ?_ | refine SD.r_mt ?_ | refine SD.r_iConst ?_ | refine SD.r_sl ?_ | refine SD.r_oSome ?_ | refine SD.r_oInt ?_ | refine SD.r_oNo ?_ | refine SD.r_rev ?_ | refine SD.r_rev2 ?_ | refine SD.r_get2 ?_ | refine SD.r_kix ?_ | refine SD.r_eNotN ?_ | refine SD.r_tr ?_ | refine SD.r_ss ?_ | refine SD.r_dict0 ?_ | refine SD.r_yes ?_ | refine SD.r_isi ?_ | refine SD.r_ty (by with_unfolding_all rfl) ?_ | refine SD.r_ixT (by with_unfolding_all rfl) ?_ | refine SD.r_ixE (by with_unfolding_all rfl) (by with_unfolding_all rfl) ?_ | refine SD.r_ixL (by assumption) (by with_unfolding_all rfl) ?_ | refine SD.r_addI ?_ | refine SD.r_intF ?_ | refine SD.r_intCF (by first | decide | exact SD.cmul_r (by decide) | exact SD.cmul_l (by decide)) ?_ | refine SD.r_eqI ?_ | refine SD.r_neI ?_ | refine SD.r_eqS ?_ | refine SD.r_neS ?_ | refine SD.r_eqB ?_ | refine SD.r_neB ?_ | refine SD.r_int ?_ | refine SD.r_drop ?_ | refine SD.r_sub ?_ | refine SD.r_gTp (by with_unfolding_all rfl) ?_ | refine SD.r_gsCons ?_ | refine SD.r_gsNil ?_ | refine SD.r_for ?_ | refine SD.r_lc ?_ | refine SD.r_dc ?_ | refine SD.r_iRg1 ?_ | refine SD.r_inT (by with_unfolding_all rfl) (by with_unfolding_all rfl) ?_ | refine SD.r_mtT ?_ | refine SD.r_dictN ?_ | refine SD.r_dcN ?_ | refine SD.r_vals ?_ | refine SD.r_zip ?_ | refine SD.r_lenSet ?_ | refine SD.r_ssP ?_ | refine SD.r_subT ?_))
/-! SNm: pairs of small numbers as keys. -/
namespace SD
open PySem L2
abbrev Pr := Nat × Nat
abbrev pqD (p : Pr) : D := .tup [.int (p.1 : Nat), .int (p.2 : Nat)]
def pqK (p : Pr) : NestedKey := .tup [.num (p.1 : Nat), .num (p.2 : Nat)]
theorem pqD_inj (p q : Pr) (h : pqD p = pqD q) : p = q := by
  obtain ⟨a, b⟩ := p
  obtain ⟨c, d⟩ := q
  simp only [pqD, D.tup.injEq, List.cons.injEq, D.int.injEq, and_true] at h
  have h1 := h.1
  have h2 := h.2
  have e1 : a = c := by omega
  have e2 : b = d := by omega
  rw [e1, e2]
theorem pqD_tk (p : Pr) : tkD (pqD p) = true := rfl
theorem pqD_nk (p : Pr) : toNK (pqD p) = some (pqK p) := rfl
def pqH (p : Pr) : Int := reduceHash (Builtin.Tuple.tupleHashOf [hashInt (p.1 : Nat), hashInt (p.2 : Nat)])
theorem pqK_hash (w : World) (p : Pr) : (pqK p).hash w = pqH p := by
  simp only [pqK, NestedKey.hash, NestedKey.hashes, pqH]
def few8 : List Pr := (List.range 8).flatMap fun a => (List.range 8).map fun b => (a, b)
theorem mem_few8 {p : Pr} (h1 : p.1 < 8) (h2 : p.2 < 8) : p ∈ few8 := by
  obtain ⟨a, b⟩ := p
  exact List.mem_flatMap.mpr ⟨a, List.mem_range.mpr h1, List.mem_map.mpr ⟨b, List.mem_range.mpr h2, rfl⟩⟩
def prTab : List Int := [-8458139203682520985, -1950498447580522560, 7204814214171964562, -4734289103435588629, 1773351652666409796, -3119722376306286570, -1010439003188656273, -5903513032161352639, -5164621852614943976, 8389048192121911274, -3550055125485641917, -1440771752368011620, -6333845781340707986, 173794974761290439, -4719279054211405927, -2609995681093775630, 4685526799349444076, 6794810172467074373, 1901736143494378007, 8409376899596376432, 3516302870623680066, -8422800446983873125, -6313517073866242828, 7240152970870612422, 2248468952609198383, 8756109708711196808, 3863035679738500442, 5972319052856130739, 1079245023883434373, 7586885779985432798, -4352217537622120393, 4803095124130366729, -6348126469135965181, 159514286966033244, -9131917124991031250, -2624276368889032825, 3883364387212965600, -1009709641759730766, 1099573731357899531, -3793500297614796835, -3054609118068388172, 3453031638033610253, -5838399773923454241, 669240982178544184, -4223833046794152182, 2283807709307846243, -7007623702649218251, -499982946547219826, -5491666964808633865, 8062003079928221385, -3877100237679331806, 2630540518422666619, -6660890893534397875, -153250137432399450, -5046324166405095816, 1461316589696902609, 4358481687155754187, -7580621630451799004, 5973048414285056246, 8082331787402686543, 3189257758429990177, -8749845559177563014, -2242204803075564589, 6913107858676922533]
theorem pqH_tab : few8.map pqH = prTab := by decide +kernel
theorem prTab_nd : prTab.Nodup := by decide +kernel
theorem pqH_inj {p q : Pr} (h1 : p.1 < 8) (h2 : p.2 < 8) (h3 : q.1 < 8) (h4 : q.2 < 8) (h : pqH p = pqH q) : p = q := by
  have nd : (few8.map pqH).Nodup := by rw [pqH_tab]; exact prTab_nd
  have key : ∀ l : List Pr, (l.map pqH).Nodup → p ∈ l → q ∈ l → p = q := by
    intro l
    induction l with
    | nil => intro _ h; cases h
    | cons a l ih =>
      intro hn hp hq
      rw [List.map_cons, List.nodup_cons] at hn
      rcases List.mem_cons.mp hp with e1 | hp
      · rcases List.mem_cons.mp hq with e2 | hq
        · rw [e1, e2]
        · exact absurd (List.mem_map.mpr ⟨q, hq, by rw [← h, e1]⟩) hn.1
      · rcases List.mem_cons.mp hq with e2 | hq
        · exact absurd (List.mem_map.mpr ⟨p, hp, by rw [h, e2]⟩) hn.1
        · exact ih hn.2 hp hq
  exact key _ nd (mem_few8 h1 h2) (mem_few8 h3 h4)
theorem pr_hash (w : World) (p : Pr) : ((toNK (pqD p)).getD .none).hash w = pqH p := by
  rw [pqD_nk]; exact pqK_hash w p
theorem pr_hashes (w : World) : ∀ ks : List Pr, ((setG pqD ks).map fun p => ((toNK p.1).getD .none).hash w) = ks.map pqH
  | [] => rfl
  | k :: ks => by
    rw [List.map_cons, ← pr_hashes w ks]
    unfold setG
    rw [List.map_cons, List.map_cons]
    exact congrArg (fun z => z :: _) (pr_hash w k)
theorem pr_hashOk {ks : List Pr} (nd : ks.Nodup) (h : ∀ p ∈ ks, p.1 < 8 ∧ p.2 < 8) : hashOk (setG pqD ks) := by
  intro w
  rw [pr_hashes, List.nodup_iff_pairwise_ne, List.pairwise_map]
  exact (List.nodup_iff_pairwise_ne.mp nd).imp_of_mem fun {a b} ha hb ne e => ne (pqH_inj (h a ha).1 (h a ha).2 (h b hb).1 (h b hb).2 e)
def pqR (p : Pr) : List Int := [(p.1 : Nat), (p.2 : Nat)]
theorem pqD_row (p : Pr) : pqD p = rowD (pqR p) := rfl
theorem pqR_inj (p q : Pr) (h : pqR p = pqR q) : p = q := pqD_inj p q (by rw [pqD_row, pqD_row, h])
end SD
/-! SOa: nested keys (numbers, texts, tuples of these) in order: comparable up to the first place that differs. -/
namespace SO
open PySem PySem.Calls PySem.SeqAt PyProof.Rows PySem.W
open AutoSeq1 (wpAny_loadPart')
open MeetsSeq MeetsSeq2 MeetsSeq3 SeqRoads2
/-- pair after pair: the first that differs decides, by its own < -/
inductive LexAt (A : Around) (s : Shared) (fin res : Bool) : List (Value × Value) → Prop
  | done : fin = res → LexAt A s fin res []
  | same {p q : Value} {r : List (Value × Value)} : EqAt A s p q true → LexAt A s fin res r → LexAt A s fin res ((p, q) :: r)
  | diff {p q : Value} {r : List (Value × Value)} : EqAt A s p q false → RcLt A s p q res → LexAt A s fin res ((p, q) :: r)
section
theorem tuple_lt_lex (a b : Addr) (xs ys : Array Value) (n m : Nat) (da db : Option Addr) (sa sb : Array (Option Value)) (res : Bool) :
    Meets (Builtin.«tuple.__lt__» ⟨[.ref a, .ref b], []⟩)
      (fun A R s => s.heap.get? a = some { cls := .type "tuple", dict := da, data := .seq xs n, slots := sa } ∧ s.heap.get? b = some { cls := .type "tuple", dict := db, data := .seq ys m, slots := sb } ∧
        LexAt A.in1 s (decide (xs.size < ys.size)) res (xs.toList.zip ys.toList) ∧ R (.ok (.ret (.bool res))) s) :=
  .of_wp fun prog w A R s ⟨ha, hb, hlex, hR⟩ => by
    obtain ⟨hp, g, d, tk, os⟩ := s
    have sub := AutoSeq1.sub_tuple_tuple
    wp_walk using wpAny_loadPart' ha, wpAny_loadPart' hb, wpAny_forIn_list _ (fun rest st s' => st.1 = none ∧ s' = ⟨hp, g, d, tk, os⟩ ∧ LexAt A.in1 ⟨hp, g, d, tk, os⟩ (decide (xs.size < ys.size)) res rest) _
    case turn =>
      rintro ⟨p, q⟩ rest st s' ⟨_, rfl, hl⟩
      cases hl with
      | same e1 e2 =>
        refine wpAny_bind (e1 prog w _ _ ?_)
        wp_walk
        exact ⟨rfl, rfl, e2⟩
      | diff e1 e2 =>
        refine wpAny_bind (e1 prog w _ _ ?_)
        unfold RcLt at e2
        generalize PySem.richCompare = rc at e2 ⊢
        wp_walk
        refine e2 prog w _ _ ?_
        wp_walk
        exact ⟨_, rfl, hR⟩
    case fin =>
      rintro ⟨b1, b2⟩ s' ⟨e0, rfl, hl⟩
      simp only at e0
      subst e0
      cases hl with
      | done e =>
        wp_walk
        exact ⟨_, rfl, by simpa [Builtin.Tuple.tupleCompareSizes, e] using hR⟩
    case h => exact ⟨rfl, rfl, hlex⟩
end
theorem RcLt.lex {A : Around} {s : Shared} {a b : Addr} {xs ys : Array Value} {res : Bool} (ha : s.heap.IsTuple a xs) (hb : s.heap.IsTuple b ys) (hu : A.units < cLine) (h : LexAt A.in1 s (decide (xs.size < ys.size)) res (xs.toList.zip ys.toList)) : RcLt A s (.ref a) (.ref b) res := fun prog w E Q hq => by
  obtain ⟨⟨ca, da, ta, sa⟩, oa, k1, n, k2⟩ := id ha
  obtain ⟨⟨cb, db, tb, sb⟩, ob, k3, m, k4⟩ := id hb
  simp only at k1 k2 k3 k4
  subst k1 k2 k3 k4
  exact richCompare_meets_room (op := .Lt) ⟨_, oa, rfl⟩ ⟨_, ob, rfl⟩ F.slot_tuple_lt F.entry_tuple_lt (F.args_tuple_lt_2 _ _) (tuple_lt_lex a b xs ys n m da db sa sb res)
    ⟨oa, ob, h, show Value.bool res ≠ Value.notImplemented ∧ Q (.bool res) s from ⟨(fun z => nomatch z), hq⟩⟩ hu
end SO
/-! SOb: sorted(xs), xs of nested keys, any two of them comparable. -/
namespace SO
open PySem PySem.Calls PySem.SeqAt PyProof.Rows PySem.W
/-! ### the order, as tokens -/
mutual
def toks : NestedKey → List (Int ⊕ List Nat)
  | .none => [.inl 0]
  | .num i => [.inl i]
  | .text x => [.inr x.cps.toList]
  | .tup ks => toksA ks
def toksA : List NestedKey → List (Int ⊕ List Nat)
  | [] => [.inl 0]
  | k :: ks => .inl 1 :: (toks k ++ toksA ks)
end
mutual
/-- numbers with numbers, texts with texts, tuples up to the first place that differs -/
def cmpN : NestedKey → NestedKey → Bool
  | .num _, .num _ => true
  | .text _, .text _ => true
  | .tup xs, .tup ys => cmpA xs ys
  | _, _ => false
def cmpA : List NestedKey → List NestedKey → Bool
  | x :: xs, y :: ys => if NestedKey.beq x y = true then cmpA xs ys else cmpN x y
  | _, _ => true
end
def ltN (x y : NestedKey) : Bool := PyProof.Rows.lexLt itemOrd (toks x) (toks y)
theorem toksA_cons (x : NestedKey) (xs : List NestedKey) : toksA (x :: xs) = .inl 1 :: (toks x ++ toksA xs) := by rw [toksA]
theorem cmpA_same {x y : NestedKey} {xs ys : List NestedKey} (h : cmpA (x :: xs) (y :: ys) = true) (e : NestedKey.beq x y = true) : cmpA xs ys = true := by
  rw [cmpA, if_pos e] at h; exact h
theorem cmpA_diff {x y : NestedKey} {xs ys : List NestedKey} (h : cmpA (x :: xs) (y :: ys) = true) (e : NestedKey.beq x y = false) : cmpN x y = true := by
  rw [cmpA, if_neg (by rw [e]; exact Bool.false_ne_true)] at h; exact h
mutual
theorem toks_diff : ∀ (x y : NestedKey), cmpN x y = true → NestedKey.beq x y = false → ∀ l m, PyProof.Rows.lexLt itemOrd (toks x ++ l) (toks y ++ m) = ltN x y
  | .num a, .num b, _, e, l, m => by
    have ne : a ≠ b := by simpa [NestedKey.beq] using e
    simp only [ltN, toks, List.cons_append, List.nil_append]
    exact lex_atom (fun q => ne (Sum.inl.inj q)) l m
  | .text a, .text b, _, e, l, m => by
    have ne : a ≠ b := by simpa [NestedKey.beq] using e
    simp only [ltN, toks, List.cons_append, List.nil_append]
    exact lex_atom (fun q => ne (str_of_cps (Sum.inr.inj q))) l m
  | .tup xs, .tup ys, h, e, l, m => by
    simp only [ltN, toks]
    exact toksA_diff xs ys (by simpa [cmpN] using h) (by simpa [NestedKey.beq] using e) l m
  | .none, y, h, _, _, _ => absurd h (by cases y <;> simp [cmpN])
  | .num _, .none, h, _, _, _ => absurd h (by simp [cmpN])
  | .num _, .text _, h, _, _, _ => absurd h (by simp [cmpN])
  | .num _, .tup _, h, _, _, _ => absurd h (by simp [cmpN])
  | .text _, .none, h, _, _, _ => absurd h (by simp [cmpN])
  | .text _, .num _, h, _, _, _ => absurd h (by simp [cmpN])
  | .text _, .tup _, h, _, _, _ => absurd h (by simp [cmpN])
  | .tup _, .none, h, _, _, _ => absurd h (by simp [cmpN])
  | .tup _, .num _, h, _, _, _ => absurd h (by simp [cmpN])
  | .tup _, .text _, h, _, _, _ => absurd h (by simp [cmpN])
theorem toksA_diff : ∀ (xs ys : List NestedKey), cmpA xs ys = true → NestedKey.beqAll xs ys = false → ∀ l m, PyProof.Rows.lexLt itemOrd (toksA xs ++ l) (toksA ys ++ m) = PyProof.Rows.lexLt itemOrd (toksA xs) (toksA ys)
  | [], [], _, e, _, _ => absurd e (by simp [NestedKey.beqAll])
  | [], y :: ys, _, _, l, m => by
    simp only [toksA, List.cons_append, List.nil_append]
    exact (lex_atom (by simp) _ _).trans (lex_atom (by simp) _ _).symm
  | x :: xs, [], _, _, l, m => by
    simp only [toksA, List.cons_append, List.nil_append]
    exact (lex_atom (by simp) _ _).trans (lex_atom (by simp) _ _).symm
  | x :: xs, y :: ys, h, e, l, m => by
    rw [toksA_cons, toksA_cons]
    simp only [List.cons_append, List.append_assoc]
    rw [lex_self (O := itemOrd), lex_self (O := itemOrd)]
    cases q : NestedKey.beq x y with
    | true =>
      rw [NestedKey.beqAll, q, Bool.true_and] at e
      rw [NestedKey.eq_of_beq x y q, lex_pre, lex_pre]
      exact toksA_diff xs ys (cmpA_same h q) e l m
    | false => rw [toks_diff x y (cmpA_diff h q) q, toks_diff x y (cmpA_diff h q) q]
end
theorem ltA_same {x y : NestedKey} {xs ys : List NestedKey} (e : NestedKey.beq x y = true) : PyProof.Rows.lexLt itemOrd (toksA (x :: xs)) (toksA (y :: ys)) = PyProof.Rows.lexLt itemOrd (toksA xs) (toksA ys) := by
  rw [toksA_cons, toksA_cons, NestedKey.eq_of_beq x y e, lex_self (O := itemOrd), lex_pre]
theorem ltA_diff {x y : NestedKey} {xs ys : List NestedKey} (h : cmpN x y = true) (e : NestedKey.beq x y = false) : PyProof.Rows.lexLt itemOrd (toksA (x :: xs)) (toksA (y :: ys)) = ltN x y := by
  rw [toksA_cons, toksA_cons, lex_self (O := itemOrd), toks_diff x y h e]
theorem ltA_short (y : NestedKey) (ys : List NestedKey) : PyProof.Rows.lexLt itemOrd (toksA []) (toksA (y :: ys)) = true := by
  rw [toksA_cons, toksA, lex_diff (O := itemOrd) (by simp)]; simp [itemLt]
theorem ltA_long (x : NestedKey) (xs : List NestedKey) : PyProof.Rows.lexLt itemOrd (toksA (x :: xs)) (toksA []) = false := by
  rw [toksA_cons, toksA, lex_diff (O := itemOrd) (by simp)]; simp [itemLt]
/-- what is neither less nor more is the same -/
theorem ltN_total {x y : NestedKey} (c : cmpN x y = true) (h1 : ltN x y = false) (h2 : ltN y x = false) : x = y := by
  have e : toks x = toks y := lex_total _ _ h1 h2
  cases q : NestedKey.beq x y with
  | true => exact NestedKey.eq_of_beq x y q
  | false =>
    exfalso
    have a := toks_diff x y c q [.inl 0] [.inl 1]
    have b := toks_diff x y c q [.inl 1] [.inl 0]
    rw [e, lex_pre] at a b
    rw [← b] at a
    exact absurd a (by decide)
/-! ### values that are keys: whole numbers, texts, tuples -/
mutual
inductive KIs (h : Heap) : NestedKey → Value → Prop
  | int (i t) : KIs h (.num i) (.int i t)
  | text (x t) : KIs h (.text x) (.str x t)
  | tup {a o vs n ks} : h.get? a = some o → o.cls = .type "tuple" → o.data = .seq vs n → KAll h ks vs.toList → KIs h (.tup ks) (.ref a)
inductive KAll (h : Heap) : List NestedKey → List Value → Prop
  | nil : KAll h [] []
  | cons {k v ks vs} : KIs h k v → KAll h ks vs → KAll h (k :: ks) (v :: vs)
end
mutual
theorem KIs.nested {h : Heap} : ∀ (k : NestedKey) (v : Value), KIs h k v → NestedIs h k v
  | .none, _, r => by cases r
  | .num i, _, r => by cases r; exact .int _ _
  | .text x, _, r => by cases r; exact .text _ _
  | .tup ks, _, r => by
    cases r with
    | tup h1 h2 h3 h4 => exact .tup h1 h2 h3 (KAll.nested ks _ h4)
theorem KAll.nested {h : Heap} : ∀ (ks : List NestedKey) (vs : List Value), KAll h ks vs → NestedAll h ks vs
  | [], _, r => by cases r; exact .nil
  | k :: ks, _, r => by
    cases r with
    | cons h1 h2 => exact .cons (KIs.nested k _ h1) (KAll.nested ks _ h2)
end
mutual
theorem KIs.up {h h' : Heap} (hk : ∀ a o, h.get? a = some o → h'.get? a = some o) : ∀ (k : NestedKey) (v : Value), KIs h k v → KIs h' k v
  | .none, _, r => by cases r
  | .num i, _, r => by cases r; exact .int _ _
  | .text x, _, r => by cases r; exact .text _ _
  | .tup ks, _, r => by
    cases r with
    | tup h1 h2 h3 h4 => exact .tup (hk _ _ h1) h2 h3 (KAll.up hk ks _ h4)
theorem KAll.up {h h' : Heap} (hk : ∀ a o, h.get? a = some o → h'.get? a = some o) : ∀ (ks : List NestedKey) (vs : List Value), KAll h ks vs → KAll h' ks vs
  | [], _, r => by cases r; exact .nil
  | k :: ks, _, r => by
    cases r with
    | cons h1 h2 => exact .cons (KIs.up hk k _ h1) (KAll.up hk ks _ h2)
end
theorem KAll.length {h : Heap} {ks : List NestedKey} {vs : List Value} (r : KAll h ks vs) : vs.length = ks.length := NestedAll.length ks vs (KAll.nested ks vs r)
mutual
theorem rcLt_key : ∀ (x y : NestedKey) (A : Around) (s : Shared) (a b : Value), KIs s.heap x a → KIs s.heap y b → cmpN x y = true → A.units + min x.depth y.depth < cLine → RcLt A s a b (ltN x y)
  | .num i, .num j, A, s, _, _, ra, rb, _, _ => by
    cases ra; cases rb
    intro prog w E Q hq
    have e : ltN (.num i) (.num j) = decide (i < j) := by
      simp only [ltN, toks]
      rw [lex_one]; rfl
    rw [e] at hq
    exact P.lt_int hq
  | .text i, .text j, A, s, _, _, ra, rb, _, _ => by
    cases ra; cases rb
    intro prog w E Q hq
    have e : ltN (.text i) (.text j) = decide (i.cps.toList < j.cps.toList) := by
      simp only [ltN, toks]
      rw [lex_one]; rfl
    rw [e] at hq
    exact P.lt_str hq
  | .tup xs, .tup ys, A, s, _, _, ra, rb, hc, hu => by
    cases ra with
    | @tup l o vs n _ h1 h2 h3 h4 =>
      cases rb with
      | @tup l' o' ws m _ k1 k2 k3 k4 =>
        refine RcLt.lex ⟨_, h1, h2, _, h3⟩ ⟨_, k1, k2, _, k3⟩ (room_here hu) ?_
        have n1 : vs.size = xs.length := by simpa using h4.length
        have n2 : ws.size = ys.length := by simpa using k4.length
        rw [n1, n2]
        have := rcLt_keys xs ys A.in1 s _ _ h4 k4 (by simpa [cmpN] using hc) (room_in hu)
        simp only [ltN, toks]
        exact this
  | .none, y, _, _, _, _, _, _, h, _ => absurd h (by cases y <;> simp [cmpN])
  | .num _, .none, _, _, _, _, _, _, h, _ => absurd h (by simp [cmpN])
  | .num _, .text _, _, _, _, _, _, _, h, _ => absurd h (by simp [cmpN])
  | .num _, .tup _, _, _, _, _, _, _, h, _ => absurd h (by simp [cmpN])
  | .text _, .none, _, _, _, _, _, _, h, _ => absurd h (by simp [cmpN])
  | .text _, .num _, _, _, _, _, _, _, h, _ => absurd h (by simp [cmpN])
  | .text _, .tup _, _, _, _, _, _, _, h, _ => absurd h (by simp [cmpN])
  | .tup _, .none, _, _, _, _, _, _, h, _ => absurd h (by simp [cmpN])
  | .tup _, .num _, _, _, _, _, _, _, h, _ => absurd h (by simp [cmpN])
  | .tup _, .text _, _, _, _, _, _, _, h, _ => absurd h (by simp [cmpN])
theorem rcLt_keys : ∀ (xs ys : List NestedKey) (A : Around) (s : Shared) (vs ws : List Value), KAll s.heap xs vs → KAll s.heap ys ws → cmpA xs ys = true → A.units + min (NestedKey.depthAll xs) (NestedKey.depthAll ys) < cLine →
    LexAt A s (decide (xs.length < ys.length)) (PyProof.Rows.lexLt itemOrd (toksA xs) (toksA ys)) (vs.zip ws)
  | [], [], _, _, _, _, ra, rb, _, _ => by
    cases ra; cases rb
    exact .done (by rw [lex_irrefl]; rfl)
  | [], y :: ys, _, _, _, _, ra, rb, _, _ => by
    cases ra
    rw [List.zip_nil_left]
    exact .done (by rw [ltA_short]; simp)
  | x :: xs, [], _, _, _, _, ra, rb, _, _ => by
    cases rb
    rw [List.zip_nil_right]
    exact .done (by rw [ltA_long]; simp)
  | x :: xs, y :: ys, A, s, _, _, ra, rb, hc, hu => by
    cases ra with
    | cons r rs =>
      cases rb with
      | cons r' rs' =>
        rw [List.zip_cons_cons]
        have e := eqAt_key x y A s _ _ (KIs.nested x _ r) (KIs.nested y _ r') (room_head hu)
        cases q : NestedKey.beq x y with
        | true =>
          rw [q] at e
          refine .same e ?_
          rw [ltA_same q]
          have := rcLt_keys xs ys A s _ _ rs rs' (cmpA_same hc q) (room_tail hu)
          simpa using this
        | false =>
          rw [q] at e
          refine .diff e ?_
          rw [ltA_diff (cmpA_diff hc q) q]
          exact rcLt_key x y A s _ _ r r' (cmpA_diff hc q) (room_head hu)
end
/-! ### as sorting compares -/
section
variable {prog : Program} {w : World} {A : Around} {E : Value → Shared → Prop} {s : Shared}
theorem oneLt_key {f : Bool} {x y : NestedKey} {a b : Value} {Q : Bool → Shared → Prop} (hf : f = true → ∀ ks, x ≠ .tup ks) (ra : KIs s.heap x a) (rb : KIs s.heap y b) (h : cmpN x y = true) (hu : A.units + min x.depth y.depth < cLine) (hq : Q (ltN x y) s) : wpAny (model prog w) A (oneLt' f a b) Q E s := by
  cases f with
  | false =>
    rw [oneLt'_eq]
    simp only [Bool.false_eq_true, if_false]
    exact wpAny_bind (rcLt_key x y A s a b ra rb h hu prog w E _ (wpAny_truthy_bool hq))
  | true =>
    cases ra with
    | int i t =>
      cases rb with
      | int j u =>
        have e : ltN (.num i) (.num j) = decide (i < j) := by
          simp only [ltN, toks]
          rw [lex_one]; rfl
        rw [e] at hq
        exact oneLt_int hq
      | text _ _ => exact absurd h (by simp [cmpN])
      | tup _ _ _ _ => exact absurd h (by simp [cmpN])
    | text i t =>
      cases rb with
      | text j u =>
        have e : ltN (.text i) (.text j) = decide (i.cps.toList < j.cps.toList) := by
          simp only [ltN, toks]
          rw [lex_one]; rfl
        rw [e] at hq
        exact oneLt_str hq
      | int _ _ => exact absurd h (by simp [cmpN])
      | tup _ _ _ _ => exact absurd h (by simp [cmpN])
    | tup _ _ _ _ => exact absurd rfl (hf rfl _)
theorem katLex_key {b fin : Bool} {Q : Bool → Shared → Prop} : ∀ (xs ys : List NestedKey) (i : Nat) (vs ws : List Value), KAll s.heap xs vs → KAll s.heap ys ws → cmpA xs ys = true → A.units + min (NestedKey.depthAll xs) (NestedKey.depthAll ys) < cLine →
    (b = true → i = 0 → ∀ x r t, xs = x :: r → x ≠ .tup t) → fin = decide (xs.length < ys.length) → Q (PyProof.Rows.lexLt itemOrd (toksA xs) (toksA ys)) s → KatLex prog w A b fin Q (vs.zip ws) i s
  | [], [], i, _, _, ra, rb, _, _, _, hf, hq => by
    cases ra; cases rb
    have e : fin = false := by rw [hf]; rfl
    rw [lex_irrefl] at hq
    rw [e]
    exact kat_nil hq
  | [], y :: ys, i, _, _, ra, rb, _, _, _, hf, hq => by
    cases ra
    have e : fin = true := by rw [hf]; simp
    rw [ltA_short] at hq
    rw [List.zip_nil_left, e]
    exact kat_nil hq
  | x :: xs, [], i, _, _, ra, rb, _, _, _, hf, hq => by
    cases rb
    have e : fin = false := by rw [hf]; simp
    rw [ltA_long] at hq
    rw [List.zip_nil_right, e]
    exact kat_nil hq
  | x :: xs, y :: ys, i, _, _, ra, rb, hc, hu, hb, hf, hq => by
    cases ra with
    | cons r rs =>
      cases rb with
      | cons r' rs' =>
        rw [List.zip_cons_cons]
        refine kat_cons (eqAt_key x y A s _ _ (KIs.nested x _ r) (KIs.nested y _ r') (room_head hu) prog w _ _ ?_)
        cases q : NestedKey.beq x y with
        | true =>
          rw [ltA_same q] at hq
          exact kat_yes (katLex_key xs ys (i + 1) _ _ rs rs' (cmpA_same hc q) (room_tail hu) (fun _ z => absurd z (Nat.succ_ne_zero i)) (by rw [hf]; simp) hq)
        | false =>
          rw [ltA_diff (cmpA_diff hc q) q] at hq
          refine kat_no (oneLt_key (fun hbi t => ?_) r r' (cmpA_diff hc q) (room_head hu) hq)
          rw [Bool.and_eq_true] at hbi
          exact hb hbi.1 (by simpa using hbi.2) x xs t rfl
/-- the kind of keys that the nested keys ks make in the heap h -/
noncomputable def nkKind (h : Heap) (ks : List NestedKey) : PyProof.Rows.KeyKind where
  toKeyOrd := listOrd itemOrd
  keyOf v := open Classical in if q : ∃ k, k ∈ ks ∧ KIs h k v then some (toks q.choose) else none
  dflt := ([] : List (Int ⊕ List Nat))
theorem nkKind_some {h : Heap} {ks : List NestedKey} {v : Value} {k : NestedKey} (hk : k ∈ ks) (r : KIs h k v) : (nkKind h ks).keyOf v = some (toks k) := by
  have q : ∃ k, k ∈ ks ∧ KIs h k v := ⟨k, hk, r⟩
  have e : (nkKind h ks).keyOf v = some (toks q.choose) := by
    show (open Classical in if q : ∃ k, k ∈ ks ∧ KIs h k v then some (toks q.choose) else none) = _
    rw [dif_pos q]
  rw [e, NestedIs.inj _ _ v (KIs.nested _ _ q.choose_spec.2) (KIs.nested _ _ r)]
theorem nkKind_inv {h : Heap} {ks : List NestedKey} {v : Value} {t : List (Int ⊕ List Nat)} (e : (nkKind h ks).keyOf v = some t) : ∃ k, k ∈ ks ∧ KIs h k v ∧ t = toks k := by
  by_cases q : ∃ k, k ∈ ks ∧ KIs h k v
  · have e' : (nkKind h ks).keyOf v = some (toks q.choose) := by
      show (open Classical in if q : ∃ k, k ∈ ks ∧ KIs h k v then some (toks q.choose) else none) = _
      rw [dif_pos q]
    rw [e'] at e
    exact ⟨_, q.choose_spec.1, q.choose_spec.2, (Option.some.inj e).symm⟩
  · have e' : (nkKind h ks).keyOf v = none := by
      show (open Classical in if q : ∃ k, k ∈ ks ∧ KIs h k v then some (toks q.choose) else none) = _
      rw [dif_neg q]; rfl
    rw [e'] at e
    exact absurd e (by simp)
def kTy : NestedKey → Value
  | .none => .type "NoneType"
  | .num _ => .type "int"
  | .text _ => .type "str"
  | .tup _ => .type "tuple"
theorem looks_key {M : Model} {h : Heap} {k : NestedKey} {v : Value} (r : KIs h k v) : Looks M h (typeOf v) (kTy k) := by
  cases r with
  | int _ _ => exact Looks.of_pure rfl
  | text _ _ => exact Looks.of_pure rfl
  | tup h1 h2 h3 h4 =>
    show Looks M h (typeOf (Value.ref _)) (Value.type "tuple")
    exact h2 ▸ (Looks.ld h1).andThen .now
/-- tuples, none empty, their first items all of one kind -/
def Firsts (T : Value) (ks : List NestedKey) : Prop := ∀ k ∈ ks, ∃ x r, k = .tup (x :: r) ∧ kTy x = T
theorem kat_firsts {h : Heap} {T : Value} : ∀ {vs : List Value} {ks : List NestedKey}, EachIs (fun v k => KIs h k v) vs ks → Firsts T ks → ∃ fs, KatTups h vs fs ∧ fs.length = vs.length ∧ ∀ f ∈ fs, ∃ x, KIs h x f ∧ kTy x = T
  | _, _, .nil, _ => ⟨[], KatTups.nil, rfl, fun f hf => by cases hf⟩
  | _, _, .cons (b := k) r t, hT => by
    obtain ⟨fs, h1, h2, h3⟩ := kat_firsts t fun k hk => hT k (List.mem_cons_of_mem _ hk)
    obtain ⟨x, rest, rfl, ex⟩ := hT k List.mem_cons_self
    cases r with
    | @tup a o xs n _ ho hc hd hr =>
      cases q : xs.toList with
      | nil => rw [q] at hr; cases hr
      | cons f fr =>
        rw [q] at hr
        cases hr with
        | cons r1 r2 =>
          have hf : xs[0]? = some f := by rw [← Array.getElem?_toList, q]; rfl
          refine ⟨f :: fs, KatTups.cons ho hc hd hf h1, by rw [List.length_cons, List.length_cons, h2], fun g hg => ?_⟩
          rcases List.mem_cons.mp hg with rfl | hg
          · exact ⟨x, r1, ex⟩
          · exact h3 g hg
theorem sortsAt_key {T : Value} {vs : List Value} {ks : List NestedKey} (e : EachIs (fun v k => KIs s.heap k v) vs ks) (hc : ∀ a ∈ ks, ∀ b ∈ ks, cmpN a b = true) (hT : Firsts T ks) (hu : ∀ k ∈ ks, A.units + k.depth < cLine) : SortsAt prog w A s (nkKind s.heap ks) vs := by
  refine ⟨fun v hv => ?_, ?_⟩
  · obtain ⟨k, hk, r⟩ := e.left v hv
    exact ⟨_, nkKind_some hk r⟩
  · refine ⟨tuples' (T != Value.type "tuple"), ?_, fun h2 E Q hq => ?_⟩
    · intro E x y a b Q ha hb hq
      obtain ⟨k, hk, ra, rfl⟩ := nkKind_inv ha
      obtain ⟨k', hk', rb, rfl⟩ := nkKind_inv hb
      obtain ⟨x1, r1, rfl, e1⟩ := hT k hk
      obtain ⟨x2, r2, rfl, e2⟩ := hT k' hk'
      have hcc := hc _ hk _ hk'
      have hroom : A.units + min (NestedKey.tup (x1 :: r1)).depth (NestedKey.tup (x2 :: r2)).depth < cLine := Nat.lt_of_le_of_lt (Nat.add_le_add_left (Nat.min_le_left _ _) _) (hu _ hk)
      have hq' : Q (PyProof.Rows.lexLt itemOrd (toks (.tup (x1 :: r1))) (toks (.tup (x2 :: r2)))) s := hq
      simp only [toks] at hq'
      cases ra with
      | @tup l o xs n _ h1 h2 h3 h4 =>
        cases rb with
        | @tup l' o' xs' n' _ k1 k2 k3 k4 =>
          have n1 : xs.size = (x1 :: r1).length := by simpa using h4.length
          have n2 : xs'.size = (x2 :: r2).length := by simpa using k4.length
          refine kat_lt h1 h3 k1 k3 (katLex_key (x1 :: r1) (x2 :: r2) 0 _ _ h4 k4 (by simpa [cmpN] using hcc) ?_ (fun hb _ x r t ex => ?_) (by rw [n1, n2]) hq')
          · have q := room_in hroom
            omega
          · obtain ⟨rfl, rfl⟩ := List.cons.inj ex
            rintro rfl
            rw [← e1] at hb
            exact absurd hb (by show ¬ (Value.type "tuple" != Value.type "tuple") = true; decide)
    · obtain ⟨fs, t1, t2, t3⟩ := kat_firsts e hT
      refine kat_kind (T := T) t1 (by omega) (fun f hf => ?_) ?_ hq
      · obtain ⟨x, r, ex⟩ := t3 f hf
        rw [← ex]
        exact looks_key r
      · cases vs with
        | nil => simp at h2
        | cons v vs =>
          cases e with
          | cons r t =>
            obtain ⟨x, _, _, ex⟩ := hT _ List.mem_cons_self
            rw [← ex]
            cases x <;> rfl
def leN (x y : NestedKey) : Bool := !ltN y x
/-- sorted(xs): R is whatever the items are known to stand for -/
theorem sorted_keys {β : Type} {R : Value → β → Prop} {T : Value} {vs : List Value} {bs : List β} {kof : β → NestedKey} {l : Addr} {Q : Value → Shared → Prop} (hl : s.heap.IsList l vs.toArray) (e : EachIs R vs bs) (er : EachIs (fun v b => KIs s.heap (kof b) v) vs bs)
    (hc : ∀ a ∈ bs, ∀ b ∈ bs, cmpN (kof a) (kof b) = true) (hT : Firsts T (bs.map kof)) (hL : bs.length ≤ sizeLine) (hu : ∀ b ∈ bs, A.units + 2 + (kof b).depth < cLine)
    (h : ∀ out, out.length = bs.length → EachIs R out (bs.mergeSort fun a b => leN (kof a) (kof b)) → Q (.ref (s.heap.objs.size + 1)) { s with heap := sortedAll s.heap vs (List.toArray out) }) : wpAny (model prog w) A (call (.builtin "sorted") [.ref l]) Q E s := by
  let h2 := sortingHeap (copyHeap s.heap vs) (s.heap.objs.size + 1) vs
  have er' : EachIs (fun v b => KIs h2 (kof b) v) vs bs := er.mono fun v b r => KIs.up (fun _ _ => sorting_copy_old) _ _ r
  have em : EachIs (fun v k => KIs h2 k v) vs (bs.map kof) := by
    have key : ∀ {vs : List Value} {bs : List β}, EachIs (fun v b => KIs h2 (kof b) v) vs bs → EachIs (fun v k => KIs h2 k v) vs (bs.map kof) := by
      intro vs bs r
      induction r with
      | nil => exact .nil
      | cons r t ih => exact .cons r ih
    exact key er'
  refine sorted_vals hl (sortsAt_key (s := { s with heap := h2 }) em (fun a ha b hb => ?_) hT fun k hk => ?_) (by rw [e.length]; exact hL) (h _ (by rw [sortVals_length false rfl]; exact e.length) ?_)
  · obtain ⟨x, hx, rfl⟩ := List.mem_map.mp ha
    obtain ⟨y, hy, rfl⟩ := List.mem_map.mp hb
    exact hc x hx y hy
  · obtain ⟨x, hx, rfl⟩ := List.mem_map.mp hk
    exact hu x hx
  · refine sortVals_each (κ := nkKind h2 (bs.map kof)) (rev := false) (fun b => toks (kof b)) e ((each_mem er').mono fun v b ⟨r, hb⟩ => nkKind_some (List.mem_map.mpr ⟨b, hb, rfl⟩) r)
end
end SO
/-! SOc: sorted of nested keys, of a dict's numbers, of texts; max; len(set of numbers); a dict walked that only just came; index, not in. -/
namespace SD
open PySem PySem.Spec PyProof.Rows L2 SO
section
variable {X : Cx} {pins : List (Addr × Obj)} {σ : L2.St} {H : Hp} {s : Shared} {m : List Addr}
mutual
/-- numbers, texts, tuples of these -/
def txN : NestedKey → Bool
  | .num _ => true
  | .text _ => true
  | .tup ks => txNs ks
  | .none => false
def txNs : List NestedKey → Bool
  | [] => true
  | k :: ks => txN k && txNs ks
end
mutual
theorem kis (I : Inv X pins σ H s) : ∀ (k : NestedKey) (v : V) (u : Value), txN k = true → RD (kW X) m H (keyN k) v → RelV v u → KIs s.heap k u
  | .none, _, _, h, _, _ => by simp [txN] at h
  | .num i, _, _, _, r, q => by
    cases r
    obtain ⟨t, rfl⟩ := q
    exact .int i t
  | .text x, _, _, _, r, q => by
    cases r
    obtain ⟨t, rfl⟩ := q
    exact .text x t
  | .tup ks, _, _, h, r, q => by
    cases r with
    | tup a z b =>
      cases q
      obtain ⟨its, rv, ⟨o, h1, h2, n, h3⟩, _⟩ := I.tuple a
      exact .tup h1 h2 h3 (by simpa using kiss I ks _ its (by simpa [txN] using h) b rv)
theorem kiss (I : Inv X pins σ H s) : ∀ (ks : List NestedKey) (vs : List V) (us : List Value), txNs ks = true → RDs (kW X) m H (keyNs ks) vs → Vals vs us → KAll s.heap ks us
  | [], _, _, _, r, q => by cases r; cases q; exact .nil
  | k :: ks, _, _, h, r, q => by
    rw [txNs, Bool.and_eq_true] at h
    cases r with
    | cons r1 r2 =>
      cases q with
      | cons q1 q2 => exact .cons (kis I k _ _ h.1 r1 q1) (kiss I ks _ _ h.2 r2 q2)
end
end
/-! ### sorted(xs), xs of nested keys -/
abbrev BK := V × NestedKey
noncomputable def sortBK (bs : List BK) : List BK := bs.mergeSort fun a b => leN a.2 b.2
def rSortNK (K : KW) : List V → Hp → VK → Prop := fun vs H Q => ∃ (a : Addr) (bs : List BK) (m : List Addr), vs = [.ref a] ∧ SqL K H a (bs.map (·.1)) ∧ (∀ b ∈ bs, txN b.2 = true ∧ b.2.depth ≤ 60 ∧ RD K m H (keyN b.2) b.1) ∧ (∀ a ∈ bs, ∀ b ∈ bs, cmpN a.2 b.2 = true) ∧ (∃ T, Firsts T (bs.map (·.2))) ∧ bs.length ≤ sizeLine ∧
  ∀ p, H p = none → Q (.ref p) (upd H p (.lst ((sortBK bs).map (·.1))))
section
variable {X : Cx}
theorem each_bk : ∀ {bs : List BK} {us : List Value}, Vals (bs.map (·.1)) us → PySem.W.EachIs (fun v b => L2.RelV b.1 v) us bs := by
  intro bs
  induction bs with
  | nil => intro us r; cases r; exact .nil
  | cons b bs ih =>
    intro us r
    cases r with
    | cons r t => exact .cons r (ih t)
theorem bk_each : ∀ {bs : List BK} {us : List Value}, PySem.W.EachIs (fun v b => L2.RelV b.1 v) us bs → Vals (bs.map (·.1)) us := by
  intro bs
  induction bs with
  | nil => intro us r; cases r; exact .nil
  | cons b bs ih =>
    intro us r
    cases r with
    | cons r t => exact .cons r (ih t)
theorem cr_sortNK (hu : X.A.units + 65 < cLine) : CallR X (.builtin "sorted") (rSortNK (kW X)) := by
  intro pins s σ H xs us Q I r h
  obtain ⟨a, bs, m, rfl, hl, hb, hc, ⟨T, hT⟩, hz, q⟩ := h
  obtain ⟨u, rfl, rx⟩ := vals1 r
  cases rx
  obtain ⟨its, rv, pl, _⟩ := I.list hl
  have er : PySem.W.EachIs (fun v (b : BK) => KIs s.heap b.2 v) its bs := by
    have key : ∀ {bs' : List BK} {us : List Value}, (∀ b ∈ bs', b ∈ bs) → PySem.W.EachIs (fun v b => L2.RelV b.1 v) us bs' → PySem.W.EachIs (fun v (b : BK) => KIs s.heap b.2 v) us bs' := by
      intro bs'
      induction bs' with
      | nil => intro us _ r; cases r; exact .nil
      | cons b bs' ih =>
        intro us hs r
        cases r with
        | cons r t =>
          obtain ⟨h1, _, h2⟩ := hb b (hs b List.mem_cons_self)
          exact .cons (kis I b.2 b.1 _ h1 h2 r) (ih (fun c hc => hs c (List.mem_cons_of_mem _ hc)) t)
    exact key (fun b h => h) (each_bk rv)
  refine sorted_keys (kof := fun b : BK => b.2) pl.isList (each_bk rv) er hc hT hz (fun b hb2 => by have := (hb b hb2).2.1; omega) fun out h1 h2 => ?_
  obtain ⟨c, at1⟩ := sortedAll_at s.heap its out.toArray
  have hl2 : ((sortBK bs).map (·.1)).length ≤ sizeLine := by rw [List.length_map]; unfold sortBK; rw [List.length_mergeSort]; exact hz
  exact ⟨.ref (s.heap.objs.size + 1), _, I.laid (t' := s.toks) (o := .lst ((sortBK bs).map (·.1))) (fun b o e => sortedAll_old e) (Nat.le_succ _) ⟨hl2, out, c, bk_each h2, at1⟩, rfl, q _ (I.hok.fresh (Nat.le_succ _))⟩
theorem leN_trans (a b c : NestedKey) (h1 : leN a b = true) (h2 : leN b c = true) : leN a c = true := by
  unfold leN at *
  simp only [Bool.not_eq_true'] at *
  cases q : ltN c a with
  | false => rfl
  | true =>
    rcases lex_negTrans _ (toks b) _ q with z | z
    · rw [show ltN c b = true from z] at h2; cases h2
    · rw [show ltN b a = true from z] at h1; cases h1
theorem leN_total (a b : NestedKey) : (leN a b || leN b a) = true := by
  unfold leN
  cases q : ltN b a with
  | false => rfl
  | true =>
    cases q2 : ltN a b with
    | false => rfl
    | true =>
      have := lex_trans _ _ _ q q2
      rw [lex_irrefl] at this
      cases this
def sortNF : FN := fun xs S Q => match xs with
  | [d] => ∃ (n : Nat) (ks : List NestedKey), d = .ref n ∧ S[n]? = some (.lst (ks.map keyN)) ∧ (∀ k ∈ ks, txN k = true ∧ k.depth ≤ 60) ∧ (∀ a ∈ ks, ∀ b ∈ ks, cmpN a b = true) ∧ (∃ T, Firsts T ks) ∧
    ∀ ks' : List NestedKey, ks'.Perm ks → ks'.Pairwise (fun a b => ltN b a = false) → Q (.ref S.length) (S ++ [.lst (ks'.map keyN)])
  | _ => False
theorem keys_bk {K : KW} {m : List Addr} {H : Hp} : ∀ {ks : List NestedKey} {vs : List V}, RDs K m H (ks.map keyN) vs → ∃ bs : List BK, vs = bs.map (·.1) ∧ ks = bs.map (·.2) ∧ ∀ b ∈ bs, RD K m H (keyN b.2) b.1
  | [], _, h => by cases h; exact ⟨[], rfl, rfl, fun b h => by cases h⟩
  | k :: ks, _, h => by
    cases h with
    | cons h t =>
      obtain ⟨bs, rfl, rfl, hb⟩ := keys_bk t
      rename_i v
      refine ⟨(v, k) :: bs, rfl, rfl, fun b hb2 => ?_⟩
      rcases List.mem_cons.mp hb2 with rfl | hb2
      · exact h
      · exact hb b hb2
theorem sortBK_perm (bs : List BK) : (sortBK bs).Perm bs := List.mergeSort_perm _ _
theorem cd_sortN (hu : X.A.units + 65 < cLine) : CallD X (.builtin "sorted") sortNF := by
  refine ⟨_, cr_sortNK hu, fun m S H xs vs P Q s r p w => ?_⟩
  match xs, p with
  | [d], p =>
    obtain ⟨v, rfl, rd⟩ := r.one rfl
    obtain ⟨n, ks, rfl, e, htx, hc, hT, p⟩ := p
    obtain ⟨a, us, rfl, _, ha, b, hz⟩ := lst_at s rd e
    obtain ⟨bs, rfl, rfl, hb⟩ := keys_bk b
    rw [List.length_map, List.length_map] at hz
    refine ⟨a, bs, m, rfl, SqL.of ha, fun c hc => ⟨(htx _ (List.mem_map.mpr ⟨c, hc, rfl⟩)).1, (htx _ (List.mem_map.mpr ⟨c, hc, rfl⟩)).2, hb c hc⟩, fun x hx y hy => hc _ (List.mem_map.mpr ⟨x, hx, rfl⟩) _ (List.mem_map.mpr ⟨y, hy, rfl⟩), hT, hz, fun q hq => ?_⟩
    have rr : RDs (kW X) m H (((sortBK bs).map (·.2)).map keyN) ((sortBK bs).map (·.1)) := by
      have key : ∀ {l : List BK}, (∀ c ∈ l, c ∈ bs) → RDs (kW X) m H ((l.map (·.2)).map keyN) (l.map (·.1)) := by
        intro l
        induction l with
        | nil => intro _; exact .nil
        | cons c l ih => intro hl; exact .cons (hb c (hl c List.mem_cons_self)) (ih fun d hd => hl d (List.mem_cons_of_mem _ hd))
      exact key fun c hc => (sortBK_perm bs).mem_iff.mp hc
    obtain ⟨g, s2, r2⟩ := new_lst s hq rr (by rw [List.length_map, List.length_map, (sortBK_perm bs).length_eq]; exact hz)
    refine w _ _ _ _ _ (p _ ((sortBK_perm bs).map _) ?_) g s2 r2
    rw [List.pairwise_map]
    refine (List.pairwise_mergeSort (le := fun a b : BK => leN a.2 b.2) (fun a b c => leN_trans a.2 b.2 c.2) (fun a b => leN_total a.2 b.2) bs).imp fun h => ?_
    unfold leN at h
    simpa using h
/-! ### max, len(set(..)) of numbers -/
def maxF : FN := fun xs S Q => match xs with
  | [d] => ∃ (n : Nat) (ns : List Int), d = .ref n ∧ S[n]? = some (.lst (ns.map D.int)) ∧ 0 < ns.length ∧ ∀ m, m ∈ ns → (∀ y, y ∈ ns → y ≤ m) → Q (.int m) S
  | _ => False
theorem cd_max (hc : X.calm = true) : CallD X (.builtin "max") maxF := by
  refine ⟨_, cr_max hc, fun m S H xs vs P Q s r p w => ?_⟩
  match xs, p with
  | [d], p =>
    obtain ⟨v, rfl, rd⟩ := r.one rfl
    obtain ⟨n, ns, rfl, e, h0, p⟩ := p
    obtain ⟨a, us, rfl, _, ha, b, hz⟩ := lst_at s rd e
    have e2 := b.ints
    subst e2
    exact ⟨a, ns, rfl, SqL.of ha, h0, fun k h1 h2 => w _ _ _ _ _ (p k h1 h2) (.refl _ _) s (.int _)⟩
theorem bt_max : bootBuiltins "max" = some (.builtin "max") := by decide +kernel
def tLenSetZ (K : KW) (ta : TE) : TE := fun σ H Q => ta σ H fun x H1 => ∃ (l : Addr) (ns : List Int), x = .ref l ∧ SqL K H1 l (ns.map V.int) ∧ ns.length < 64 ∧ ∀ c : Nat, (∃ ys : List Int, ys.Nodup ∧ (∀ y, y ∈ ys ↔ y ∈ ns) ∧ ys.length = c) → Q (.int (c : Nat)) H1
theorem pe_lenSetZ {a : Expr} {ta : TE} {p p2 q pos : Pos} (hc : X.calm = true) (hg : Gl X "len") (hm : X.mg "len" = none) (hg2 : Gl X "set") (hm2 : X.mg "set" = none) (ha : PE X a ta)
    (na : starEach [a] X.env = (false, eval a X.env) :: starEach [] X.env := by rfl) : PE X (.Call (.Name "len" p) [.Call (.Name "set" p2) [a] [] q] [] pos) (tLenSetZ (kW X) ta) := by
  refine ⟨fun pins s σ H Q I h => ?_⟩
  refine Call_ (ld_blt I hg hm PySem.boot_len (PyProof.Rows.callWith_builtin1 (PyProof.Rows.args_cons ?_ rfl) rfl rfl))
  refine Call_ (ld_blt I hg2 hm2 PyProof.Rows.boot_set (PyProof.Rows.callWith_type1 (PyProof.Rows.args_cons (thn (ha.run pins s σ H _ I h) fun v s1 z => PyProof.Rows.args_nil ?_) na) na rfl))
  obtain ⟨x, H1, I1, r1, l, ns, rfl, hq, hf, fin⟩ := z
  cases r1
  obtain ⟨its, rv, pl, hz⟩ := I1.list hq
  refine set_of_list ns (I1.ok.hd hc) pl.isList (by simpa using rv.ints) (by unfold scanBound; omega) fun h' tk c R hcl k => ?_
  refine PyProof.Rows.args_nil ?_
  obtain ⟨o, es, ep, t, ho, hex, hd, hgood, hnd, hmem, hsc, hfit, hsz, _⟩ := R
  have I2 : Inv X pins σ H1 { s1 with heap := h', toks := tk } := I1.kept k
  refine call_len_set (s := { s1 with heap := h', toks := tk }) ho hex hd hfit (by unfold scanBound at hsc; omega) ⟨.int ((c : Nat) : Int), H1, I2.tok _, ⟨_, by rw [← hsz]⟩, fin c ⟨es.toList.map keyOf, hnd, fun y => ?_, ?_⟩⟩
  · rw [← hmem y]; simp
  · rw [List.length_map, Array.length_toList, hsz]
def eLenSetI (f : FE) : FE := fun σ S Q => f σ S fun d S1 => ∃ (n : Nat) (ns : List Int), d = .ref n ∧ S1[n]? = some (.lst (ns.map D.int)) ∧ ns.length < 64 ∧ ∀ (c : Nat) (ys : List Int), ys.Nodup → (∀ y, y ∈ ys ↔ y ∈ ns) → ys.length = c → Q (.int (c : Nat)) S1
theorem re_lenSetI {e : Expr} {f : FE} {p p2 q pos : Pos} (hc : X.calm = true) (hm : X.mg "len" = none) (hm2 : X.mg "set" = none) (he : RE X e f) (hg : Gl X "len" := by rfl) (hg2 : Gl X "set" := by rfl) (na : starEach [e] X.env = (false, eval e X.env) :: starEach [] X.env := by rfl) :
    RE X (.Call (.Name "len" p) [.Call (.Name "set" p2) [e] [] q] [] pos) (eLenSetI f) := by
  refine pe_w (pe_lenSetZ hc hg hm hg2 hm2 he na) fun σ H Q q => ?_
  obtain ⟨m, σd, S, P, s, r, p, w⟩ := q
  refine ⟨m, σd, S, _, s, r, p, fun d S1 m1 v H1 ⟨n, ns, e, e1, hf, p1⟩ g1 s1 r1 => ?_⟩
  subst e
  obtain ⟨l, vs, rfl, _, hl, b, _⟩ := lst_at s1 r1 e1
  have e2 := b.ints
  subst e2
  exact ⟨l, ns, rfl, SqL.of hl, hf, fun c ⟨ys, h1, h2, h3⟩ => w _ _ _ _ _ (p1 c ys h1 h2 h3) g1 s1 (.int _)⟩
/-! ### x not in l, l.index(x) -/
def ninPF : F2 := fun x y S Q => ∃ n xs, y = .ref n ∧ S[n]? = some (.lst xs) ∧ plainD x = true ∧ plainDs xs = true ∧ Q (.bl (!decide (x ∈ xs))) S
theorem od_ninP (hu : X.A.units + 65 < cLine) : OpD X (compareOp .NotIn) ninPF := by
  refine ⟨_, op_notInD hu, fun m S H x y v u P Q s rx ry h w => ?_⟩
  obtain ⟨n, xs, rfl, e, hx, hxs, p⟩ := h
  obtain ⟨a, vs, rfl, ha, hv, b, hz⟩ := lst_at s ry e
  have ox : okD x = true := (Bool.and_eq_true_iff.mp hx).1
  have oy : okDs xs = true := (Bool.and_eq_true_iff.mp hxs).1
  refine ⟨toPy x, toPys xs, dp_of x v ox rx, .lst (SqL.of hv) (dps_of xs vs oy b), shaped_of hx, ?_, ?_⟩
  · unfold SeqAt.shaped
    rw [PyData.canLay0, canLay_toPys xs oy]
    simpa using (Bool.and_eq_true_iff.mp hxs).2
  · rw [any_mem ox xs oy]
    exact w _ _ _ _ _ p (.refl _ _) s (.bl _)
def indexF : FM := fun x as S Q => ∃ (n : Nat) (xs : List D) (d : D) (j : Nat), x = .ref n ∧ as = [d] ∧ S[n]? = some (.lst xs) ∧ plainD d = true ∧ plainDs xs = true ∧ xs[j]? = some d ∧ (∀ i, i < j → xs[i]? ≠ some d) ∧ Q (.int (j : Nat)) S
theorem toPys_at : ∀ (xs : List D) (j : Nat), (toPys xs)[j]? = (xs[j]?).map toPy
  | [], _ => rfl
  | x :: xs, 0 => rfl
  | x :: xs, j + 1 => toPys_at xs j
theorem okDs_mem : ∀ {xs : List D}, okDs xs = true → ∀ x ∈ xs, okD x = true
  | [], _, x, h => by cases h
  | y :: ys, e, x, h => by
    rw [okDs, Bool.and_eq_true] at e
    rcases List.mem_cons.mp h with rfl | h
    · exact e.1
    · exact okDs_mem e.2 x h
theorem md_index (hu : X.A.units + 65 < cLine) : MtD X "list.index" indexF := by
  refine ⟨_, mt_indexD hu, fun m S H x v xs vs P Q s rx rs p w => ?_⟩
  obtain ⟨n, ys, d, j, rfl, rfl, e, hd, hy, hj, hno, p⟩ := p
  obtain ⟨vy, rfl, ry⟩ := rs.one rfl
  obtain ⟨a, us, rfl, ha, hv, b, hz⟩ := lst_at s rx e
  have od : okD d = true := (Bool.and_eq_true_iff.mp hd).1
  have oy : okDs ys = true := (Bool.and_eq_true_iff.mp hy).1
  refine ⟨a, vy, toPy d, toPys ys, j, toPy d, rfl, rfl, .lst (SqL.of hv) (dps_of ys us oy b), dp_of d vy od ry, ?_, shaped_of hd, by rw [toPys_at, hj]; rfl, by rw [eqv_toPy d d od od]; exact decide_eq_true rfl, fun i z hi hz => ?_, w _ _ _ _ _ p (.refl _ _) s (.int _)⟩
  · unfold SeqAt.shaped
    rw [PyData.canLay0, canLay_toPys ys oy]
    simpa using (Bool.and_eq_true_iff.mp hy).2
  · rw [toPys_at] at hz
    cases q : ys[i]? with
    | none => rw [q] at hz; cases hz
    | some y =>
      rw [q] at hz
      cases hz
      rw [eqv_toPy y d (okDs_mem oy y (List.mem_of_getElem? q)) od]
      exact decide_eq_false fun z => hno i hi (by rw [q, z])
/-! ### for k in e, e a dict that only just came -/
def tKeysE (td : TE) : TI := fun σ H R => td σ H fun x H1 => ∃ d kvs, x = .ref d ∧ H1 d = some (.dK kvs) ∧ ∀ od, R (Itk d od kvs) (upd H1 d (.frz od (.dK kvs)))
theorem pi_keysE {tg e : Expr} {td : TE} (he : PE X e td) : PI X tg e (tKeysE td) := by
  refine ⟨fun pins s σ H R I h => ?_⟩
  refine thn (he.run pins s σ H _ I h) fun u s1 ⟨x, H1, I1, rx, d, kvs, ex, hd, q⟩ => ?_
  subst ex
  obtain rfl : u = Value.ref d := rx
  obtain ⟨od, I2⟩ := I1.lock hd True.intro
  obtain ⟨hs, hgd, hx, es, ep, vs, hdt, hsz, kv, hm⟩ := I2.frzK upd_same
  refine iter_keys hs hgd hx hdt (pi_one (tk := s1.toks) I2 _ (turn_keys _ hdt) ⟨_, Heap.get?_push_size _ rfl, rfl, ?_⟩ (q od))
  rw [hsz] <;> rfl
def iKeysE (f : FE) : FI := fun σ S R => f σ S fun d S1 => ∃ n kvs, d = .ref n ∧ S1[n]? = some (.dct kvs) ∧ R (fun S => S[n]? = some (.lck kvs)) (kvs.map (·.1)) (S1.set n (.lck kvs))
theorem ri_keysE {tg e : Expr} {f : FE} (he : RE X e f) : RI X tg e (iKeysE f) := by
  refine pi_w (pi_keysE he) fun σ H R q => ?_
  obtain ⟨m, σd, S, P, s, r, p, w⟩ := q
  refine ⟨m, σd, S, _, s, r, p, fun d S1 m1 v H1 ⟨n, kvs, e1, e2, p1⟩ g1 s1 r1 => ?_⟩
  subst e1
  obtain ⟨a, kw, rfl, hm, ha, b, hz⟩ := dct_at s1 r1 e2
  refine ⟨a, kw, rfl, ha, fun od => ?_⟩
  obtain ⟨s2, g2⟩ := lock_sim (od := od) s1 hm e2 b hz
  refine w _ _ _ _ _ _ p1 (g1.trans g2) s2 ⟨by rw [List.length_map]; exact hz, fun i m3 S3 H3 d2 g s3 ok hd => ?_, fun i m3 S3 H3 g s3 ok hi => ?_⟩
  · have e4 := g.frzs _ _ _ upd_same
    rw [List.getElem?_map] at hd
    have hlt : i < kvs.length := by
      cases e5 : kvs[i]? with
      | none => rw [e5] at hd; cases hd
      | some q => exact (List.getElem?_eq_some_iff.mp e5).1
    refine ⟨⟨e4, by rw [← b.length]; exact hlt⟩, fun x H4 ⟨e5, k, v, e6, e7⟩ => ?_⟩
    subst e5
    refine ⟨.refl _ _, s3, ?_⟩
    have rk : RDs (kW X) m1 H1 (kvs.map (·.1)) (kw.map fun kv => kV kv.1) := b.keysR
    obtain ⟨v', e8, rv⟩ := (rk.up (g2.trans g)).get (i := i) (d := d2) (by rw [List.getElem?_map]; exact hd)
    rw [List.getElem?_map, e6] at e8
    cases e8
    rw [e7]
    exact rv
  · exact ⟨g.frzs _ _ _ upd_same, by rw [← b.length]; rw [List.length_map] at hi; exact hi⟩
/-! ### sorted(d), the keys numbers -/
def rSortDK : List V → Hp → VK → Prop := fun vs H Q => ∃ (d : Addr) (kvs : List (Key × V)) (ns : List Int), vs = [.ref d] ∧ H d = some (.dK kvs) ∧ (kvs.map fun kv => kV kv.1) = ns.map V.int ∧
  ∀ (ns' : List Int) (p : Addr), ns'.Perm ns → ns'.Pairwise (· ≤ ·) → H p = none → Q (.ref p) (upd H p (.lst (ns'.map V.int)))
theorem each_nums {h : Heap} : ∀ {us : List Value} {ns : List Int}, IntsAre us ns → PySem.W.EachIs (fun v (n : Int) => ∃ t, v = .int n t) us ns
  | _, _, .nil => .nil
  | _, _, .cons n k t => .cons ⟨k, rfl⟩ (each_nums (h := h) t)
theorem nums_are : ∀ {us : List Value} {ns : List Int}, PySem.W.EachIs (fun v (n : Int) => ∃ t, v = .int n t) us ns → Vals (ns.map V.int) us
  | _, _, .nil => .nil
  | _, _, .cons h t => .cons h (nums_are t)
theorem cr_sortDK (hc : X.calm = true) (hu : X.A.units + 65 < cLine) : CallR X (.builtin "sorted") rSortDK := by
  intro pins s σ H vs us Q I r h
  obtain ⟨d, kvs, ns, rfl, hk, hns, q⟩ := h
  obtain ⟨u, rfl, rx⟩ := vals1 r
  cases rx
  obtain ⟨z, lo, vs, rk, hd⟩ := (show ObjOk X.prog X.w H s.heap d (.dK kvs) from I.hok d _ hk)
  obtain ⟨ep, hat⟩ := hd.dictAt
  have hl : kvs.length = vs.length := Paired.length rk
  refine PySem.Calls.call_function_entry kind_sorted plain_sorted entry_sorted (args_sorted1 _) ?_
  unfold Builtin.«sorted»
  refine wpAny_bind (m := checkCount "sorted" 1 1 _) (wpAny_pure ?_)
  refine wpAny_bind (PySem.W.kdu_collect (A := X.A.in1) (PySem.W.kdl_dict (knd := mixKind X.prog X.w) (kvs := vs) (ep := ep) lo) (by simpa using I.ok.hd hc) hat (by rw [← hl]; exact z) fun h' tk acc hkeep hacc => ?_)
  have rv : Vals (ns.map V.int) acc.toList := by
    have el : acc.toList.length = acc.size := by simp
    refine vals_of_at (by rw [← hns, List.length_map, el, hacc.1, hl]) fun j x w h1 h2 => ?_
    obtain ⟨k, y, hky, hi⟩ := hacc.2 j w (by rw [← Array.getElem?_toList]; exact h2)
    have e1 : (kvs.map (·.1))[j]? = some k := by
      rw [KV.keys rk, List.getElem?_map, hky] <;> rfl
    have e2 : (kvs.map fun kv => kV kv.1)[j]? = some (kV k) := by
      have e3 : (kvs.map fun kv => kV kv.1) = (kvs.map (·.1)).map kV := by rw [List.map_map] <;> rfl
      rw [e3, List.getElem?_map, e1] <;> rfl
    rw [← hns, e2] at h1
    cases h1
    exact keyIs_rel hi
  have hnl : ns.length ≤ sizeLine := by
    have := congrArg List.length hns
    rw [List.length_map, List.length_map] at this
    rw [← this]; exact z
  have hal : acc.toList.length = ns.length := by have := rv.length; rw [List.length_map] at this; exact this.symm
  refine wpAny_bind (wpAny_newList ?_ (by rw [hal]; exact hnl))
  have at0 : (h'.push { cls := .type "list", data := .seq acc.toList.toArray }).get? h'.objs.size = some (seqObj "list" acc.toList.toArray 0) := Heap.get?_push_size _ rfl
  have en := each_nums (h := h') rv.ints
  refine wpAny_bind (wpAny_holding (PySem.W.list_sort_data (A := X.A.in1) (enc := fun n : Int => PyData.int n) (bs := ns) (s := { s with heap := h'.push { cls := .type "list", data := .seq acc.toList.toArray }, toks := tk }) at0 en (en.mono fun v n ⟨t, e⟩ => ⟨[], by rw [e]; exact .int _ _, by simp⟩) (PySem.W.AllAlike.of fun _ _ => rfl) (PySem.W.Sortable.others fun b => ⟨by simp, by simp⟩) hnl (fun b _ => by
    show X.A.in1.units + 1 + 0 < cLine
    rw [Around.in1_units]; omega) fun out hol eo => ?_))
  have I1 : Inv X pins σ H { s with heap := h', toks := tk } := I.kept hkeep
  have hfr : H h'.objs.size = none := I1.hok.fresh (Nat.le_refl _)
  obtain ⟨c, at1⟩ := sortedHeap_at (out := out.toArray) at0
  have pm : out.length = ns.length := hol
  have old : ∀ b u, h'.get? b = some u → (sortedHeap (h'.push { cls := .type "list", data := .seq acc.toList.toArray }) h'.objs.size acc.toList out.toArray).get? b = some u := fun b u e => by
    have hb := Heap.lt_size e
    rw [sortedHeap_old (Nat.ne_of_lt hb) (by rw [Heap.size_push]; exact Nat.lt_succ_of_lt hb)]
    exact Heap.get?_push_of_some _ e
  have hp : (ns.mergeSort (PySem.W.dataLe false fun n : Int => PyData.int n)).Perm ns := List.mergeSort_perm _ _
  have J := I1.laid (t' := tk) (a := h'.objs.size) (o := .lst ((ns.mergeSort (PySem.W.dataLe false fun n : Int => PyData.int n)).map V.int)) old (Nat.le_refl _) ⟨by rw [List.length_map, hp.length_eq]; exact hnl, out, c, nums_are eo, by simpa using at1⟩
  refine wpAny_pure ⟨_, rfl, .ref h'.objs.size, _, J, rfl, q _ _ hp ?_ hfr⟩
  refine (List.pairwise_mergeSort (le := PySem.W.dataLe false fun n : Int => PyData.int n) (fun a b c h1 h2 => ?_) (fun a b => ?_) ns).imp fun h => ?_
  · rw [PySem.W.dataLe_int] at *
    simp only [decide_eq_true_eq] at *
    omega
  · rw [PySem.W.dataLe_int]
    simp only [Bool.or_eq_true, decide_eq_true_eq]
    omega
  · rw [PySem.W.dataLe_int] at h
    simpa using h
def sortKF : FN := fun xs S Q => match xs with
  | [d] => ∃ (n : Nat) (kvs : List (D × D)) (ns : List Int), d = .ref n ∧ S[n]? = some (.dct kvs) ∧ kvs.map (·.1) = ns.map D.int ∧ ∀ ns' : List Int, ns'.Perm ns → ns'.Pairwise (· ≤ ·) → Q (.ref S.length) (S ++ [.lst (ns'.map D.int)])
  | _ => False
theorem cd_sortK (hc : X.calm = true) (hu : X.A.units + 65 < cLine) : CallD X (.builtin "sorted") sortKF := by
  refine ⟨_, cr_sortDK hc hu, fun m S H xs vs P Q s r p w => ?_⟩
  match xs, p with
  | [d], p =>
    obtain ⟨v, rfl, rd⟩ := r.one rfl
    obtain ⟨n, kvs, ns, rfl, e, hk, p⟩ := p
    obtain ⟨a, kw, rfl, _, ha, b, hz⟩ := dct_at s rd e
    have rk := b.keysR
    rw [hk] at rk
    refine ⟨a, kw, ns, rfl, ha, rk.ints, fun ns' q h1 h2 hq => ?_⟩
    obtain ⟨g2, s2, r2⟩ := new_lst s hq (RDs.of_ints ns') (by
      have := congrArg List.length hk
      rw [List.length_map, List.length_map] at this
      rw [List.length_map, h1.length_eq, ← this]; exact hz)
    exact w _ _ _ _ _ (p ns' h1 h2) g2 s2 r2
/-! ### sorted of texts -/
def sortSF : FN := fun xs S Q => match xs with
  | [d] => ∃ (n : Nat) (zs : List Str), d = .ref n ∧ S[n]? = some (.lst (zs.map D.str)) ∧ zs.length < 64 ∧ ∀ ys : List Str, ys.Perm zs → sortedS ys = true → Q (.ref S.length) (S ++ [.lst (ys.map D.str)])
  | _ => False
theorem RDs.strs1 {K : KW} {m : List Addr} {H : Hp} : ∀ {zs : List Str} {vs : List V}, RDs K m H (zs.map D.str) vs → vs = zs.map V.str
  | [], _, h => by cases h; rfl
  | z :: zs, _, h => by
    cases h with
    | cons h t =>
      cases h
      rw [RDs.strs1 t]; rfl
theorem RDs.of_strs1 {K : KW} {m : List Addr} {H : Hp} : ∀ zs : List Str, RDs K m H (zs.map D.str) (zs.map V.str)
  | [] => .nil
  | z :: zs => .cons (.str z) (RDs.of_strs1 zs)
theorem cd_sortS : CallD X (.builtin "sorted") sortSF := by
  refine ⟨_, cr_sortedS, fun m S H xs vs P Q s r p w => ?_⟩
  match xs, p with
  | [d], p =>
    obtain ⟨v, rfl, rd⟩ := r.one rfl
    obtain ⟨n, zs, rfl, e, h64, p⟩ := p
    obtain ⟨a, us, rfl, _, ha, b, hz⟩ := lst_at s rd e
    have e2 := RDs.strs1 b
    subst e2
    refine ⟨a, zs, rfl, SqL.of ha, h64, fun ys q h1 h2 hq => ?_⟩
    obtain ⟨g2, s2, r2⟩ := new_lst s hq (RDs.of_strs1 ys) (by rw [List.length_map, h1.length_eq, sizeLine_eq]; omega)
    exact w _ _ _ _ _ (p ys h1 h2) g2 s2 r2
end
end SD
/-! PG4: meanings of the defs of games (printed by gen.py). -/
namespace PG
open PySem L2 SD
/-! ### binders_in -/
def b_binders_in (G_all_parts : FnD) : FS :=
  (sRet (eDc (iSeqD (eCall G_all_parts (aCons (eVar 0) aNil))) (gNm 1) (tVal (eOp (inF false) (eOp ixF (eVar 1) (eC (.int 0))) (eC (.tup [.str "least", .str "greatest"])))) (eOp ixF (eVar 1) (eC (.int 1))) (eVar 1) [1]))
def F_binders_in : FnD := fnD 1 2 (b_binders_in F_all_parts)
/-! ### levels_of -/
def b_levels_of (G_all_parts : FnD) : FS :=
  (sSeq (sAsg eDict0 (gNm 1))
  (sSeq (sFor (iSeqD (eRev (eCall G_all_parts (aCons (eVar 0) aNil)))) (gNm 2) (sIf (tVal (eOp (inF false) (eOp ixF (eVar 2) (eC (.int 0))) (eC (.tup [.str "least", .str "greatest"])))) (sSeq (sAsg (eLc (iSeqD (eCall G_all_parts (aCons (eOp ixF (eVar 2) (eC (.int 2))) aNil))) (gNm 5) (tVal (eOp (inF false) (eOp ixF (eVar 5) (eC (.int 0))) (eC (.tup [.str "least", .str "greatest"])))) (eOp ixF (eVar 1) (eOp ixF (eVar 5) (eC (.int 1)))) [5]) (gNm 3))
  (sSeq (sAsg (eCB maxF (aCons (eOp addF (eVar 3) (eLst (aCons (eIf (tVal (eOp (eqF false) (eOp ixF (eVar 2) (eC (.int 0))) (eC (.str "least")))) (eC (.int 1)) (eC (.int 2))) aNil))) aNil)) (gNm 4))
  (sAsg (eIf (tVal (eOp (eqF false) (eOp (eqF false) (eOp (intCF (fun _ j => 0 < j) fun i j => .int (i % j)) (eVar 4) (eC (.int 2))) (eC (.int 1))) (eOp (eqF false) (eOp ixF (eVar 2) (eC (.int 0))) (eC (.str "least"))))) (eVar 4) (eOp addF (eVar 4) (eC (.int 1)))) (gSubD (eVar 1) (eOp ixF (eVar 2) (eC (.int 1))))))) sNext))
  (sRet (eVar 1))))
def F_levels_of : FnD := fnD 1 6 (b_levels_of F_all_parts)
/-! ### before_spots -/
def b_before_spots  : FS :=
  (sSeq (sAsg (eLc (iSeqD (eVar 0)) (gNm 4) tYesD (eLst aNil) [4]) (gNm 1))
  (sSeq (sFor (iRg1 (aCons (eCB lenF (aCons (eVar 0) aNil)) aNil)) (gNm 2) (sFor (iSeqD (eSortSet (eOp ixF (eOp ixF (eVar 0) (eVar 2)) (eC (.int 2))))) (gNm 3) (sDrop (eMt "list" appF (eOp ixF (eVar 1) (eVar 3)) (aCons (eVar 2) aNil)))))
  (sRet (eVar 1))))
def F_before_spots : FnD := fnD 1 5 (b_before_spots )
/-! ### drawn -/
def b_drawn  : FS :=
  (sSeq (sAsg (eCB dictF (aCons (eVar 4) aNil)) (gNm 6))
  (sSeq (sAsg (eCB listF (aCons (eVar 4) aNil)) (gNm 7))
  (sSeq (sLock 2 (sAsg (eDc (iKeysD 2) (gNm 10) tYesD (eVar 10) (eLenSetI (eLc (iSeqD (eOp ixF (eOp ixF (eVar 0) (eVar 10)) (eC (.int 2)))) (gNm 9) (tVal (eOp (inF false) (eVar 9) (eVar 2))) (eVar 9) [9])) [10]) (gNm 8)))
  (sSeq (sWhile (tVal (eOp (intF fun i j => .bl (decide (j < i))) (eCB lenF (aCons (eVar 7) aNil)) (eC (.int 0)))) (sSeq (sAsg (eMt "list" popF (eVar 7) aNil) (gNm 9))
  (sFor (iSeqD (eOp ixF (eVar 1) (eVar 9))) (gNm 10) (sIf (tAndD (tVal (eOp (inF false) (eVar 10) (eVar 2))) (tVal (eOp (inF true) (eVar 10) (eVar 6)))) (sSeq (sAugD (eVar 8) (eVar 10) (eC (.int 1)) (intF fun i j => .int (i - j)))
  (sSeq (sIf (tVal (eOp (eqF false) (eOp ixF (eOp ixF (eVar 0) (eVar 10)) (eC (.int 0))) (eVar 3))) (sAsg (eVar 9) (gSubD (eVar 5) (eVar 10))) sNext)
  (sIf (tOrD (tVal (eOp (eqF false) (eOp ixF (eOp ixF (eVar 0) (eVar 10)) (eC (.int 0))) (eVar 3))) (tVal (eOp (intF fun i j => .bl (decide (i ≤ j))) (eOp ixF (eVar 8) (eVar 10)) (eC (.int 0))))) (sSeq (sAsg (eC (.bl true)) (gSubD (eVar 6) (eVar 10)))
  (sDrop (eMt "list" appF (eVar 7) (aCons (eVar 10) aNil)))) sNext))) sNext))))
  (sRet (eVar 6))))))
def F_drawn : FnD := fnD 6 11 (b_drawn )
/-! ### won_parts -/
def b_won_parts (G_drawn : FnD) (G_won_parts : FnD) : FS :=
  (sSeq (sAsg (eLst (aCons eDict0 (aCons eDict0 aNil))) (gNm 3))
  (sSeq (sAsg eDict0 (gNm 4))
  (sSeq (sAsg (eVar 2) (gNm 5))
  (sSeq (sWhile (tVal (eOp (intF fun i j => .bl (decide (j < i))) (eCB lenF (aCons (eVar 5) aNil)) (eC (.int 0)))) (sSeq (sAsg (eCB maxF (aCons (eLock 5 (eLc (iKeysD 5) (gNm 13) tYesD (eOp ixF (eOp ixF (eVar 0) (eVar 13)) (eC (.int 1))) [13])) aNil)) (gNm 6))
  (sSeq (sAsg (eOp (intCF (fun _ j => 0 < j) fun i j => .int (i % j)) (eVar 6) (eC (.int 2))) (gNm 7))
  (sSeq (sAsg eDict0 (gNm 8))
  (sSeq (sLock 5 (sAsg (eDc (iKeysD 5) (gNm 13) (tVal (eOp (eqF false) (eOp ixF (eOp ixF (eVar 0) (eVar 13)) (eC (.int 1))) (eVar 6))) (eVar 13) (eC (.bl true)) [13]) (gNm 9)))
  (sSeq (sAsg (eCall G_drawn (aCons (eVar 0) (aCons (eVar 1) (aCons (eVar 5) (aCons (eVar 7) (aCons (eVar 9) (aCons (eVar 8) aNil))))))) (gNm 10))
  (sSeq (sAsg (eCall G_won_parts (aCons (eVar 0) (aCons (eVar 1) (aCons (eLock 5 (eDc (iKeysD 5) (gNm 13) (tVal (eOp (inF true) (eVar 13) (eVar 10))) (eVar 13) (eC (.bl true)) [13])) aNil)))) (gTp 2 (gsCons (gNm 11) (gsCons (gNm 12) gsNil))))
  (sIf (tVal (eOp (eqF false) (eCB lenF (aCons (eOp ixF (eVar 11) (eOp (intF fun i j => .int (i - j)) (eC (.int 1)) (eVar 7))) aNil)) (eC (.int 0)))) (sSeq (sDrop (eMt "dict" updF (eOp ixF (eVar 3) (eVar 7)) (aCons (eVar 5) aNil)))
  (sSeq (sDrop (eMt "dict" updF (eVar 4) (aCons (eVar 12) aNil)))
  (sSeq (sDrop (eMt "dict" updF (eVar 4) (aCons (eVar 8) aNil)))
  (sSeq (sLock 9 (sFor (iKeysD 9) (gNm 13) (sIf (tVal (eOp (eqF false) (eOp ixF (eOp ixF (eVar 0) (eVar 13)) (eC (.int 0))) (eVar 7))) (sAsg (eOp ixF (eLc (iSeqD (eOp ixF (eOp ixF (eVar 0) (eVar 13)) (eC (.int 2)))) (gNm 16) (tVal (eOp (inF false) (eVar 16) (eVar 5))) (eVar 16) [16]) (eC (.int 0))) (gSubD (eVar 4) (eVar 13))) sNext)))
  (sAsg eDict0 (gNm 5)))))) (sSeq (sAsg eDict0 (gNm 14))
  (sSeq (sAsg (eCall G_drawn (aCons (eVar 0) (aCons (eVar 1) (aCons (eVar 5) (aCons (eOp (intF fun i j => .int (i - j)) (eC (.int 1)) (eVar 7)) (aCons (eOp ixF (eVar 11) (eOp (intF fun i j => .int (i - j)) (eC (.int 1)) (eVar 7))) (aCons (eVar 14) aNil))))))) (gNm 15))
  (sSeq (sDrop (eMt "dict" updF (eOp ixF (eVar 3) (eOp (intF fun i j => .int (i - j)) (eC (.int 1)) (eVar 7))) (aCons (eVar 15) aNil)))
  (sSeq (sDrop (eMt "dict" updF (eVar 4) (aCons (eVar 14) aNil)))
  (sSeq (sDrop (eMt "dict" updF (eVar 4) (aCons (eLock 12 (eDc (iKeysD 12) (gNm 13) (tVal (eOp (inF false) (eVar 13) (eOp ixF (eVar 11) (eOp (intF fun i j => .int (i - j)) (eC (.int 1)) (eVar 7))))) (eVar 13) (eOp ixF (eVar 12) (eVar 13)) [13])) aNil)))
  (sAsg (eLock 5 (eDc (iKeysD 5) (gNm 13) (tVal (eOp (inF true) (eVar 13) (eVar 15))) (eVar 13) (eC (.bl true)) [13])) (gNm 5)))))))))))))))
  (sRet (eTup (aCons (eVar 3) (aCons (eVar 4) aNil))))))))
def F_won_parts : Nat → FnD
  | 0 => fun _ _ _ => False
  | k + 1 => fnD 3 17 (b_won_parts F_drawn (F_won_parts k))
/-! ### solved_game -/
def b_solved_game (G_won_parts : FnD) (G_before_spots : FnD) : FS :=
  (sSeq (sAsg (eCall G_won_parts (aCons (eVar 0) (aCons (eCall G_before_spots (aCons (eVar 0) aNil)) (aCons (eDc (iRg1 (aCons (eCB lenF (aCons (eVar 0) aNil)) aNil)) (gNm 5) tYesD (eVar 5) (eC (.bl true)) [5]) aNil)))) (gTp 2 (gsCons (gNm 1) (gsCons (gNm 2) gsNil))))
  (sSeq (sAsg (eCB tupleF (aCons (eLc (iRg1 (aCons (eCB lenF (aCons (eVar 0) aNil)) aNil)) (gNm 5) tYesD (eIf (tVal (eOp (inF false) (eVar 5) (eOp ixF (eVar 1) (eC (.int 0))))) (eC (.int 0)) (eC (.int 1))) [5]) aNil)) (gNm 3))
  (sSeq (sAsg (eLst aNil) (gNm 4))
  (sSeq (sFor (iRg1 (aCons (eCB lenF (aCons (eVar 0) aNil)) aNil)) (gNm 5) (sDrop (eMt "list" appF (eVar 4) (aCons (eIf (tVal (eOp (eqF false) (eOp ixF (eOp ixF (eVar 0) (eVar 5)) (eC (.int 0))) (eOp ixF (eVar 3) (eVar 5)))) (eOp ixF (eVar 2) (eVar 5)) (eC .non)) aNil))))
  (sRet (eTup (aCons (eVar 3) (aCons (eCB tupleF (aCons (eVar 4) aNil)) aNil))))))))
def F_solved_game : FnD := fnD 1 6 (b_solved_game (F_won_parts 16) F_before_spots)
/-! ### steps_from -/
def b_steps_from  : FS :=
  (sSeq (sAsg (eVar 2) (gTp 2 (gsCons (gNm 3) (gsCons (gNm 4) gsNil))))
  (sSeq (sAsg (eOp ixF (eVar 4) (eC (.int 0))) (gNm 5))
  (sSeq (sIf (tVal (eOp (inF false) (eVar 5) (eTup (aCons (eC (.str "both")) (aCons (eC (.str "either")) aNil))))) (sRet (eLc (iSeqD (eSl (eVar 4) (oSome (eC (.int 1))) oNo)) (gNm 6) tYesD (eTup (aCons (eVar 3) (aCons (eVar 6) aNil))) [6])) sNext)
  (sSeq (sIf (tVal (eOp (inF false) (eVar 5) (eTup (aCons (eC (.str "some")) (aCons (eC (.str "all")) aNil))))) (sRet (eLc (iSeqD (eOp ixF (eOp ixF (eOp ixF (eVar 0) (eC (.int 2))) (eOp ixF (eVar 4) (eC (.int 1)))) (eVar 3))) (gNm 7) tYesD (eTup (aCons (eVar 7) (aCons (eOp ixF (eVar 4) (eC (.int 2))) aNil))) [7])) sNext)
  (sSeq (sIf (tVal (eOp (inF false) (eVar 5) (eC (.tup [.str "least", .str "greatest"])))) (sRet (eLst (aCons (eTup (aCons (eVar 3) (aCons (eOp ixF (eVar 4) (eC (.int 2))) aNil))) aNil))) sNext)
  (sRet (eIf (tVal (eOp (eqF false) (eVar 5) (eC (.str "name")))) (eLst (aCons (eTup (aCons (eVar 3) (aCons (eOp ixF (eOp ixF (eVar 1) (eOp ixF (eVar 4) (eC (.int 1)))) (eC (.int 2))) aNil))) aNil)) (eLst aNil))))))))
def F_steps_from : FnD := fnD 3 8 (b_steps_from )
/-! ### spots_of -/
def b_spots_of (G_steps_from : FnD) (G_binders_in : FnD) : FS :=
  (sSeq (sAsg (eCall G_binders_in (aCons (eVar 1) aNil)) (gNm 2))
  (sSeq (sAsg (eLc (iRg1 (aCons (eOp ixF (eVar 0) (eC (.int 0))) aNil)) (gNm 6) tYesD (eTup (aCons (eVar 6) (aCons (eVar 1) aNil))) [6]) (gNm 3))
  (sSeq (sAsg (eDcN (iSeqD (eVar 3)) (gNm 5) tYesD (eVar 5) (eC (.bl true)) [5]) (gNm 4))
  (sSeq (sWhile (tVal (eOp (intF fun i j => .bl (decide (j < i))) (eCB lenF (aCons (eVar 3) aNil)) (eC (.int 0)))) (sFor (iSeqD (eCall G_steps_from (aCons (eVar 0) (aCons (eVar 2) (aCons (eMt "list" popF (eVar 3) aNil) aNil))))) (gNm 5) (sIf (tVal (eOp (inTF true) (eVar 5) (eVar 4))) (sSeq (sAsg (eC (.bl true)) (gSubT (eVar 4) (eVar 5)))
  (sDrop (eMt "list" appF (eVar 3) (aCons (eVar 5) aNil)))) sNext)))
  (sRet (eCB sortNF (aCons (eCB listTF (aCons (eVar 4) aNil)) aNil)))))))
def F_spots_of : FnD := fnD 2 7 (b_spots_of F_steps_from F_binders_in)
/-! ### is_won_end -/
def b_is_won_end  : FS :=
  (sSeq (sAsg (eVar 1) (gTp 2 (gsCons (gNm 2) (gsCons (gNm 3) gsNil))))
  (sSeq (sIf (tVal (eOp (inF false) (eOp ixF (eVar 3) (eC (.int 0))) (eTup (aCons (eC (.str "is")) (aCons (eC (.str "isnt")) aNil))))) (sRet (eOp (eqF false) (eOp (inF false) (eVar 2) (eOp ixF (eOp ixF (eVar 0) (eC (.int 1))) (eOp ixF (eVar 3) (eC (.int 1))))) (eOp (eqF false) (eOp ixF (eVar 3) (eC (.int 0))) (eC (.str "is"))))) sNext)
  (sRet (eOp (inF false) (eOp ixF (eVar 3) (eC (.int 0))) (eTup (aCons (eC (.str "yes")) (aCons (eC (.str "all")) aNil)))))))
def F_is_won_end : FnD := fnD 2 4 (b_is_won_end )
/-! ### game_of -/
def b_game_of (G_is_won_end : FnD) (G_steps_from : FnD) (G_levels_of : FnD) (G_binders_in : FnD) (G_spots_of : FnD) : FS :=
  (sSeq (sAsg (eCall G_spots_of (aCons (eVar 0) (aCons (eVar 1) aNil))) (gNm 2))
  (sSeq (sAsg (eDcN (iRg1 (aCons (eCB lenF (aCons (eVar 2) aNil)) aNil)) (gNm 10) tYesD (eOp ixF (eVar 2) (eVar 10)) (eVar 10) [10]) (gNm 3))
  (sSeq (sPar 4 5 (aCons (eCall G_binders_in (aCons (eVar 1) aNil)) (aCons (eCall G_levels_of (aCons (eVar 1) aNil)) aNil)))
  (sSeq (sAsg (eLst aNil) (gNm 6))
  (sSeq (sFor (iSeqD (eVar 2)) (gNm 7) (sSeq (sAsg (eLc (iSeqD (eCall G_steps_from (aCons (eVar 0) (aCons (eVar 4) (aCons (eVar 7) aNil))))) (gNm 11) tYesD (eOp ixTF (eVar 3) (eVar 11)) [11]) (gNm 8))
  (sSeq (sAsg (eIf (tVal (eOp (eqF false) (eOp ixF (eOp ixF (eVar 7) (eC (.int 1))) (eC (.int 0))) (eC (.str "name")))) (eOp ixF (eVar 5) (eOp ixF (eOp ixF (eVar 7) (eC (.int 1))) (eC (.int 1)))) (eC (.int 0))) (gNm 9))
  (sSeq (sIf (tVal (eOp (eqF false) (eCB lenF (aCons (eVar 8) aNil)) (eC (.int 0)))) (sPar 8 9 (aCons (eLst (aCons (eOp ixTF (eVar 3) (eVar 7)) aNil)) (aCons (eIf (tVal (eCall G_is_won_end (aCons (eVar 0) (aCons (eVar 7) aNil)))) (eC (.int 2)) (eC (.int 1))) aNil))) sNext)
  (sDrop (eMt "list" appF (eVar 6) (aCons (eTup (aCons (eIf (tVal (eOp (inF false) (eOp ixF (eOp ixF (eVar 7) (eC (.int 1))) (eC (.int 0))) (eTup (aCons (eC (.str "either")) (aCons (eC (.str "some")) aNil))))) (eC (.int 0)) (eC (.int 1))) (aCons (eVar 9) (aCons (eCB tupleF (aCons (eVar 8) aNil)) aNil)))) aNil)))))))
  (sRet (eCB tupleF (aCons (eVar 6) aNil))))))))
def F_game_of : FnD := fnD 2 12 (b_game_of F_is_won_end F_steps_from F_levels_of F_binders_in F_spots_of)
/-! ### come_to -/
def b_come_to  : FS :=
  (sSeq (sAsg (eDispD (((eVar 3), (eC (.bl true))) :: [])) (gNm 4))
  (sSeq (sAsg (eLst (aCons (eVar 3) aNil)) (gNm 5))
  (sSeq (sWhile (tVal (eOp (intF fun i j => .bl (decide (j < i))) (eCB lenF (aCons (eVar 5) aNil)) (eC (.int 0)))) (sSeq (sAsg (eMt "list" popF (eVar 5) aNil) (gNm 6))
  (sSeq (sIf (tVal (eOp (eqF false) (eOp ixF (eOp ixF (eVar 0) (eVar 6)) (eC (.int 0))) (eVar 1))) (sSeq (sIf (tOrD (tVal (eOp (inF true) (eVar 6) (eVar 2))) (tVal (eOp (inF true) (eOp ixF (eVar 2) (eVar 6)) (eOp ixF (eOp ixF (eVar 0) (eVar 6)) (eC (.int 2)))))) (sRet (eC .non)) sNext)
  (sAsg (eLst (aCons (eOp ixF (eVar 2) (eVar 6)) aNil)) (gNm 8))) (sAsg (eOp ixF (eOp ixF (eVar 0) (eVar 6)) (eC (.int 2))) (gNm 8)))
  (sFor (iSeqD (eVar 8)) (gNm 7) (sIf (tVal (eOp (inF true) (eVar 7) (eVar 4))) (sSeq (sAsg (eC (.bl true)) (gSubD (eVar 4) (eVar 7)))
  (sDrop (eMt "list" appF (eVar 5) (aCons (eVar 7) aNil)))) sNext)))))
  (sRet (eVar 4)))))
def F_come_to : FnD := fnD 4 9 (b_come_to )
/-! ### holding_paper -/
def b_holding_paper (G_come_to : FnD) (G_solved_game : FnD) (G_spots_of : FnD) (G_game_of : FnD) : FS :=
  (sSeq (sAsg (eTup (aCons (eCall G_game_of (aCons (eVar 0) (aCons (eVar 1) aNil))) (aCons (eCall G_spots_of (aCons (eVar 0) (aCons (eVar 1) aNil))) aNil))) (gTp 2 (gsCons (gNm 3) (gsCons (gNm 4) gsNil))))
  (sSeq (sAsg (eCall G_solved_game (aCons (eVar 3) aNil)) (gTp 2 (gsCons (gNm 5) (gsCons (gNm 6) gsNil))))
  (sSeq (sAsg (eMt "list" indexF (eVar 4) (aCons (eTup (aCons (eVar 2) (aCons (eVar 1) aNil))) aNil)) (gNm 7))
  (sSeq (sAsg (eOp ixF (eVar 5) (eVar 7)) (gNm 8))
  (sSeq (sAsg (eDc (iRg1 (aCons (eCB lenF (aCons (eVar 3) aNil)) aNil)) (gNm 11) (tAndD (tVal (eOp (eqF false) (eOp ixF (eOp ixF (eVar 3) (eVar 11)) (eC (.int 0))) (eVar 8))) (tVal (eNotN (eOp ixF (eVar 6) (eVar 11))))) (eVar 11) (eOp ixF (eVar 6) (eVar 11)) [11]) (gNm 9))
  (sSeq (sAsg (eLc (iKeysE (eCall G_come_to (aCons (eVar 3) (aCons (eVar 8) (aCons (eVar 9) (aCons (eVar 7) aNil)))))) (gNm 11) (tVal (eOp (eqF false) (eOp ixF (eOp ixF (eVar 3) (eVar 11)) (eC (.int 0))) (eVar 8))) (eTup (aCons (eOp ixF (eVar 4) (eVar 11)) (aCons (eOp ixF (eVar 4) (eOp ixF (eVar 9) (eVar 11))) aNil))) [11]) (gNm 10))
  (sRet (eTup (aCons (eIf (tVal (eOp (eqF false) (eVar 8) (eC (.int 0)))) (eC (.str "holds")) (eC (.str "fails"))) (aCons (eCB tupleF (aCons (eCB sortNF (aCons (eVar 10) aNil)) aNil)) aNil))))))))))
def F_holding_paper : FnD := fnD 3 12 (b_holding_paper F_come_to F_solved_game F_spots_of F_game_of)
end PG
namespace K29
open PySem L2 SD PG
/-! ### law -/
def b_law (G_holding_paper : FnD) (G__law_draw : FnD) (G_against : FnD) (G_levels_of : FnD) (G_solved_game : FnD) (G_game_of : FnD) (G_spots_of : FnD) (G__law_world : FnD) (G__law_drawn : FnD) (G__law_land : FnD) (G__law_same : FnD) (G__law_pool : FnD) : FS :=
  (sSeq (sAsg (eCall G__law_pool (aCons (eVar 0) aNil)) (gNm 1))
  (sSeq (sAsg (eOp addF (eC (.int 1)) (eCall G__law_draw (aCons (eVar 1) (aCons (eC (.int 7)) aNil)))) (gNm 2))
  (sSeq (sAsg (eCB tupleF (aCons (eLc (iRg1 (aCons (eVar 2) aNil)) (gNm 15) tYesD (eTup (aCons (eCall G__law_draw (aCons (eVar 1) (aCons (eC (.int 2)) aNil))) (aCons (eCall G__law_draw (aCons (eVar 1) (aCons (eC (.int 4)) aNil))) (aCons (eCB tupleF (aCons (eLc (iRg1 (aCons (eOp addF (eC (.int 1)) (eCall G__law_draw (aCons (eVar 1) (aCons (eC (.int 3)) aNil)))) aNil)) (gNm 18) tYesD (eCall G__law_draw (aCons (eVar 1) (aCons (eVar 2) aNil))) [18]) aNil)) aNil)))) [15]) aNil)) (gNm 3))
  (sSeq (sAsg (eOp ixF (eCall G_solved_game (aCons (eVar 3) aNil)) (eC (.int 0))) (gNm 4))
  (sSeq (sAsg (eCB tupleF (aCons (eLc (iSeqD (eVar 3)) (gNm 19) tYesD (eTup (aCons (eOp (intF fun i j => .int (i - j)) (eC (.int 1)) (eOp ixF (eVar 19) (eC (.int 0)))) (aCons (eOp addF (eOp ixF (eVar 19) (eC (.int 1))) (eC (.int 1))) (aCons (eOp ixF (eVar 19) (eC (.int 2))) aNil)))) [19]) aNil)) (gNm 5))
  (sSeq (sIf (tNotD (tVal (eCall G__law_same (aCons (eOp ixF (eCall G_solved_game (aCons (eVar 5) aNil)) (eC (.int 0))) (aCons (eCB tupleF (aCons (eLc (iSeqD (eVar 4)) (gNm 20) tYesD (eOp (intF fun i j => .int (i - j)) (eC (.int 1)) (eVar 20)) [20]) aNil)) aNil))))) (sRet (eC (.bl false))) sNext)
  (sSeq (sAsg (eCB tupleF (aCons (eLc (iSeqD (eVar 3)) (gNm 19) tYesD (eTup (aCons (eOp ixF (eVar 19) (eC (.int 0))) (aCons (eOp addF (eOp ixF (eVar 19) (eC (.int 1))) (eC (.int 2))) (aCons (eOp ixF (eVar 19) (eC (.int 2))) aNil)))) [19]) aNil)) (gNm 6))
  (sSeq (sIf (tNotD (tVal (eCall G__law_same (aCons (eOp ixF (eCall G_solved_game (aCons (eVar 6) aNil)) (eC (.int 0))) (aCons (eVar 4) aNil))))) (sRet (eC (.bl false))) sNext)
  (sSeq (sAsg (eCall G__law_land (aCons (eVar 1) aNil)) (gNm 7))
  (sSeq (sAsg (eCall G__law_drawn (aCons (eVar 1) (aCons (eVar 7) (aCons (eC (.int 2)) aNil)))) (gNm 8))
  (sSeq (sAsg (eCall G__law_world (aCons (eVar 1) (aCons (eVar 7) (aCons (eC (.int 3)) aNil)))) (gNm 9))
  (sSeq (sAsg (eCall G_against (aCons (eVar 8) aNil)) (gNm 10))
  (sSeq (sPar 11 12 (aCons (eCall G_spots_of (aCons (eVar 9) (aCons (eVar 8) aNil))) (aCons (eCall G_spots_of (aCons (eVar 9) (aCons (eVar 10) aNil))) aNil)))
  (sSeq (sPar 13 14 (aCons (eOp ixF (eCall G_solved_game (aCons (eCall G_game_of (aCons (eVar 9) (aCons (eVar 8) aNil))) aNil)) (eC (.int 0))) (aCons (eOp ixF (eCall G_solved_game (aCons (eCall G_game_of (aCons (eVar 9) (aCons (eVar 10) aNil))) aNil)) (eC (.int 0))) aNil)))
  (sSeq (sIf (tOrD (tVal (eOp (eqF true) (eCB lenF (aCons (eVar 11) aNil)) (eCB lenF (aCons (eVar 12) aNil)))) (tVal (eOp (eqF true) (eCB sortKF (aCons (eCall G_levels_of (aCons (eVar 8) aNil)) aNil)) (eCB sortKF (aCons (eCall G_levels_of (aCons (eVar 10) aNil)) aNil))))) (sRet (eC (.bl false))) sNext)
  (sSeq (sFor (iRg1 (aCons (eCB lenF (aCons (eVar 11) aNil)) aNil)) (gNm 15) (sSeq (sAsg (eOp ixF (eVar 11) (eVar 15)) (gTp 2 (gsCons (gNm 16) (gsCons (gNm 17) gsNil))))
  (sIf (tOrD (tVal (eOp ninPF (eTup (aCons (eVar 16) (aCons (eCall G_against (aCons (eVar 17) aNil)) aNil))) (eVar 12))) (tVal (eOp (eqF true) (eOp ixF (eVar 14) (eMt "list" indexF (eVar 12) (aCons (eTup (aCons (eVar 16) (aCons (eCall G_against (aCons (eVar 17) aNil)) aNil))) aNil))) (eOp (intF fun i j => .int (i - j)) (eC (.int 1)) (eOp ixF (eVar 13) (eVar 15)))))) (sRet (eC (.bl false))) sNext)))
  (sSeq (sAsg (eCall G__law_draw (aCons (eVar 1) (aCons (eOp ixF (eVar 9) (eC (.int 0))) aNil))) (gNm 16))
  (sRet (eOp (eqF false) (eCB sortSF (aCons (eLst (aCons (eOp ixF (eCall G_holding_paper (aCons (eVar 9) (aCons (eVar 8) (aCons (eVar 16) aNil)))) (eC (.int 0))) (aCons (eOp ixF (eCall G_holding_paper (aCons (eVar 9) (aCons (eVar 10) (aCons (eVar 16) aNil)))) (eC (.int 0))) aNil))) aNil)) (eLst (aCons (eC (.str "fails")) (aCons (eC (.str "holds")) aNil))))))))))))))))))))))
def F_law : FnD := fnD 1 21 (b_law F_holding_paper F__law_draw (F_against 12) F_levels_of F_solved_game F_game_of F_spots_of F__law_world F__law_drawn F__law_land (F__law_same 4) F__law_pool)

end K29
/-! SP1: the drawing helpers. -/
namespace PG
open PySem L2 SD
theorem spread_spec {c : Int} {S : Store} {Q : PD} (h : ∀ z : Int, Q (.int z) S) : F__law_spread [.int c] S Q := by
  refine r_fn rfl ?_
  unfold b__law_spread
  walk_at "s"
  refine r_rg (by decide) (by decide) ?_
  refine for_inv (fun _ σ S' => S' = S ∧ ∃ a b c d : Int, σ = [some (.int a), some (.int b), some (.int c), some (.int d)] ∨ σ = [some (.int a), some (.int b), some (.int c), none]) ⟨rfl, _, _, _, 0, .inr rfl⟩ ?_ ?_
  · rintro i x σ S1 R hx ⟨rfl, a, b, c, d, hσ⟩ hR
    have : ∃ j : Int, x = .int j := by
      unfold rngD at hx
      rw [List.getElem?_map] at hx
      cases e : (List.range (Int.toNat 4))[i]? with
      | none => rw [e] at hx; cases hx
      | some j => rw [e] at hx; cases hx; exact ⟨_, rfl⟩
    obtain ⟨j, rfl⟩ := this
    refine ⟨trivial, ?_⟩
    rcases hσ with rfl | rfl
    · walk_at "s"
      exact hR _ _ ⟨rfl, _, _, _, _, .inl rfl⟩
    · walk_at "s"
      exact hR _ _ ⟨rfl, _, _, _, _, .inl rfl⟩
  · rintro σ S1 ⟨rfl, a, b, c, d, rfl | rfl⟩
    · refine ⟨trivial, ?_⟩
      walk_at "s"
      exact h _
    · refine ⟨trivial, ?_⟩
      walk_at "s"
      exact h _
/-- a pool -/
structure Pool (p : Nat) (S : Store) (q : Nat) (xs : List Int) (a : Nat) (b c d : Int) : Prop where
  ne : q ≠ p
  at_ : S[p]? = some (.lst [.ref q, .int a, .int b, .int c, .int d])
  list : S[q]? = some (.lst (xs.map .int))
  few : xs.length ≤ 63
def PoolOk (p q : Nat) (S : Store) : Prop := ∃ xs a b c d, Pool p S q xs a b c d
theorem PoolOk.ext {p q : Nat} {S S' : Store} (h : PoolOk p q S) (e : Ext S S') : PoolOk p q S' := by
  obtain ⟨xs, a, b, c, d, h1, h2, h3, h4⟩ := h
  exact ⟨xs, a, b, c, d, h1, e _ _ h2, e _ _ h3, h4⟩
theorem PoolOk.lt {p q : Nat} {S : Store} (h : PoolOk p q S) : p < S.length := by
  obtain ⟨xs, a, b, c, d, h1, h2, h3, h4⟩ := h
  exact (List.getElem?_eq_some_iff.mp h2).1
theorem PoolOk.lt2 {p q : Nat} {S : Store} (h : PoolOk p q S) : q < S.length := by
  obtain ⟨xs, a, b, c, d, h1, h2, h3, h4⟩ := h
  exact (List.getElem?_eq_some_iff.mp h3).1
theorem PoolOk.extB {p q : Nat} {S S' : Store} {l : List Nat} (h : PoolOk p q S) (e : ExtB l S S') (h1 : p ∉ l) (h2 : q ∉ l) : PoolOk p q S' := by
  obtain ⟨xs, a, b, c, d, g1, g2, g3, g4⟩ := h
  exact ⟨xs, a, b, c, d, g1, e.2 _ h1 _ g2, e.2 _ h2 _ g3, g4⟩
theorem atI_int {xs : List Int} {k : Nat} (h : k < xs.length) : atI (xs.map D.int) (k : Int) = some (.int xs[k]) := by
  rw [atI_n, List.getElem?_map, List.getElem?_eq_getElem h]; rfl
theorem draw_spec {p q : Nat} {many : Int} {S : Store} {Q : PD} (P : PoolOk p q S) (h1 : 0 < many) (h2 : many < 1073741824) (h : ∀ S' (r : Nat), (r : Int) < many → PoolOk p q S' → Off p S S' → Q (.int (r : Nat)) S') : F__law_draw [.ref p, .int many] S Q := by
  obtain ⟨xs, a, b, c, d, p1, p2, p3, p4⟩ := P
  have h : ∀ S' (r : Int), 0 ≤ r → r < many → PoolOk p q S' → Off p S S' → Q (.int r) S' := fun S' r r0 r1 r2 r3 => by
    obtain ⟨r, rfl⟩ := Int.eq_ofNat_of_zero_le r0
    exact h S' r r1 r2 r3
  refine r_fn rfl ?_
  unfold b__law_draw
  refine r_cut (fun σ S' => ∃ a b c d s2 s3 s4, σ = [some (.ref p), some (.int many), s2, s3, s4] ∧ Pool p S' q xs a b c d ∧ Off p S S') ?_ fun T hT => ?_
  · rintro σ S0 ⟨a, b, c, d, s2, s3, s4, rfl, ⟨p1, p2, p3, p4⟩, o0⟩
    walk_at "s"
    refine r_setL1 p2 (by with_unfolding_all rfl) fun S1 q1 o1 => ?_
    clear p2
    have oo := o0.trans o1
    walk_at "s"
    refine ite_b (fun hb => ?_) (fun hb => ?_)
    · walk_at "s"
      refine r_intCF ⟨by decide, by decide⟩ ?_
      walk_at "s"
      refine r_intCF h1 ?_
      exact h _ _ (Int.emod_nonneg _ (by omega)) (Int.emod_lt_of_pos _ h1) ⟨xs, _, _, _, _, p1, q1, (o1.off q p1).trans p3, p4⟩ oo
    · walk_at "s"
      refine r_intCF h1 ?_
      walk_at "s"
      refine r_intCF ⟨h1, h2⟩ ?_
      walk_at "s"
      refine r_setL1 q1 (by with_unfolding_all rfl) fun S2 q2 o2 => ?_
      walk_at "s"
      exact h _ _ (Int.emod_nonneg _ (by omega)) (Int.emod_lt_of_pos _ h1) ⟨xs, _, _, _, _, p1, q2, ((o1.trans o2).off q p1).trans p3, p4⟩ (oo.trans o2)
  walk_at "s"
  refine ite_b (fun hb => ?_) (fun hb => ?_)
  · walk_at "s"
    refine r_len (by show seqC S[q]? = _; rw [p3]; rfl) ?_
    walk_at "s"
    refine ite_b (fun ha => ?_) (fun ha => ?_)
    · have ha : a < xs.length := by
        rw [List.length_map] at ha
        have := of_decide_eq_true ha
        omega
      walk_at "s"
      refine r_ixL p3 (atI_int ha) ?_
      walk_at "s"
      refine r_setL1 p2 (by with_unfolding_all rfl) fun S1 q1 o1 => ?_
      clear p2
      walk_at "s"
      refine r_setL1 q1 (by with_unfolding_all rfl) fun S2 q2 o2 => ?_
      clear q1
      walk_at "s"
      have o3 := o1.trans o2
      refine ite_b (fun hb => ?_) (fun hb => ?_)
      · walk_at "s"
        refine spread_spec fun z => ?_
        walk_at "s"
        refine r_setL1 q2 (by with_unfolding_all rfl) fun S3 q3 o3 => ?_
        have oo := (o1.trans o2).trans o3
        exact hT _ _ ⟨a + 1, _, _, _, _, _, _, rfl, ⟨p1, q3, (oo.off q p1).trans p3, p4⟩, oo⟩
      · walk_at "s"
        exact hT _ _ ⟨a + 1, _, _, _, _, _, _, rfl, ⟨p1, q2, (o3.off q p1).trans p3, p4⟩, o3⟩
    · walk_at "s"
      exact hT _ _ ⟨_, _, _, _, _, _, _, rfl, ⟨p1, p2, p3, p4⟩, rfl, fun _ _ => rfl⟩
  · walk_at "s"
    exact hT _ _ ⟨_, _, _, _, _, _, _, rfl, ⟨p1, p2, p3, p4⟩, rfl, fun _ _ => rfl⟩
theorem pool_spec {ns : List Int} {S : Store} {Q : PD} (hn : ns.length ≤ 63) (h : ∀ S' p q, PoolOk p q S' → Ext S S' → S.length ≤ p → S.length ≤ q → Q (.ref p) S') : F__law_pool [.frz (ns.map .int)] S Q := by
  refine r_fn rfl ?_
  unfold b__law_pool
  walk_at "s"
  refine r_iLst ?_
  have cut : ∀ o, ∃ ks : List Int, cutD (ns.map D.int) none o = ks.map .int := fun o => by
    unfold cutD
    exact ⟨(ns.drop _).take _, by rw [List.map_take, List.map_drop]⟩
  refine ⟨_, rfl, 63, rfl, .inr (.inl ⟨_, rfl, ?_⟩)⟩
  obtain ⟨ks, hk⟩ := cut (some 63)
  rw [hk]
  refine .inr ⟨_, _, rfl, new_at S _, ?_⟩
  refine for_inv (fun _ σ S' => S' = S ++ [.lst (ks.map .int)] ∧ ∃ (a : Int) (s : Option D), σ = [some (.frz (ns.map .int)), some (.int a), s]) ⟨rfl, _, _, rfl⟩ ?_ ?_
  · rintro i x σ S1 R hx ⟨rfl, a, s, rfl⟩ hR
    have : ∃ j : Int, x = .int j := by
      rw [List.getElem?_map] at hx
      cases e : ks[i]? with
      | none => rw [e] at hx; cases hx
      | some j => rw [e] at hx; cases hx; exact ⟨_, rfl⟩
    obtain ⟨j, rfl⟩ := this
    refine ⟨new_at S _, ?_⟩
    walk_at "s"
    exact hR _ _ ⟨rfl, _, _, rfl⟩
  · rintro σ S1 ⟨rfl, a, s, rfl⟩
    refine ⟨new_at S _, ?_⟩
    walk_at "s"
    refine r_list rfl ?_
    walk_at "s"
    refine h _ _ (S ++ [Cell.lst (ks.map D.int)]).length ⟨ns, 0, 0, 0, a, ?_, new_at _ _, ?_, hn⟩ (((Ext.app S _).trans (Ext.app _ _)).trans (Ext.app _ _)) ?_ ?_
    · simp
    · simp
    · simp
    · simp
theorem pick_spec {p q n : Nat} {xs : List D} {S : Store} {Q : PD} (P : PoolOk p q S) (hn : n ≠ p) (e : S[n]? = some (.lst xs)) (h1 : 0 < xs.length) (h2 : xs.length < 1000000) (h : ∀ S' d, d ∈ xs → PoolOk p q S' → Off p S S' → Q d S') : F__law_pick [.ref p, .ref n] S Q := by
  refine r_fn rfl ?_
  unfold b__law_pick
  walk_at "s"
  refine r_len (by show seqC S[n]? = _; rw [e]; rfl) ?_
  walk_at "s"
  refine draw_spec P (by omega) (by omega) fun S1 r h3 P1 o1 => ?_
  have : r < xs.length := by omega
  refine r_ixL (o1.ne hn e) (by rw [atI_n, List.getElem?_eq_getElem this]) ?_
  exact h _ _ (List.getElem_mem this) P1 o1
theorem land_spec {p q : Nat} {S : Store} {Q : PD} (P : PoolOk p q S) (h : ∀ S' (a b : Nat), 1 ≤ a → a ≤ 3 → 1 ≤ b → b ≤ 2 → PoolOk p q S' → Off p S S' → Q (.tup [.int (a : Nat), .int (b : Nat)]) S') : F__law_land [.ref p] S Q := by
  refine r_fn rfl ?_
  unfold b__law_land
  walk_at "s"
  refine draw_spec P (by decide) (by decide) fun S1 r h3 P1 o1 => ?_
  match r, h3 with
  | 0, _ => exact r_ixT rfl (h _ 1 1 (by decide) (by decide) (by decide) (by decide) P1 o1)
  | 1, _ => exact r_ixT rfl (h _ 2 1 (by decide) (by decide) (by decide) (by decide) P1 o1)
  | 2, _ => exact r_ixT rfl (h _ 1 2 (by decide) (by decide) (by decide) (by decide) P1 o1)
  | 3, _ => exact r_ixT rfl (h _ 3 1 (by decide) (by decide) (by decide) (by decide) P1 o1)
  | 4, _ => exact r_ixT rfl (h _ 2 2 (by decide) (by decide) (by decide) (by decide) P1 o1)
  | n + 5, h3 => omega
end PG
/-! SP2: comparing plain data. -/
namespace PG
open PySem L2 SD
inductive Pl : Nat → D → Prop
  | non (k : Nat) : Pl (k + 1) .non
  | bl (k : Nat) (b : Bool) : Pl (k + 1) (.bl b)
  | int (k : Nat) (i : Int) : Pl (k + 1) (.int i)
  | str (k : Nat) (s : Str) : Pl (k + 1) (.str s)
  | tup (k : Nat) (xs : List D) : xs.length ≤ 1000000 → (∀ x ∈ xs, Pl k x) → Pl (k + 1) (.tup xs)
def neAt (xs ys : List D) : D → Bool
  | .int i => !decide (xs[i.toNat]? = ys[i.toNat]?)
  | _ => true
theorem neAt_int {xs ys : List D} {i : Nat} (h1 : i < xs.length) (h2 : i < ys.length) : neAt xs ys (.int i) = !decide (xs[i] = ys[i]) := by
  unfold neAt
  simp only [Int.toNat_natCast]
  congr 1
  rw [decide_eq_decide, List.getElem?_eq_getElem h1, List.getElem?_eq_getElem h2, Option.some.injEq]
theorem filter_ne {xs ys : List D} (h : xs.length = ys.length) : (((rngD 0 ys.length).filter (neAt xs ys)).length = 0) ↔ xs = ys := by
  rw [List.length_eq_zero_iff, List.filter_eq_nil_iff]
  constructor
  · intro a
    refine List.ext_getElem? fun i => ?_
    by_cases hi : i < ys.length
    · have := a (.int (i : Nat)) (by rw [rng_map]; exact List.mem_map.mpr ⟨i, List.mem_range.mpr hi, rfl⟩)
      simpa [neAt] using this
    · rw [List.getElem?_eq_none (by omega), List.getElem?_eq_none (by omega)]
  · rintro rfl x hx
    obtain ⟨i, hi, rfl⟩ := mem_rng hx
    simp [neAt]
theorem same_spec : ∀ (k : Nat) (a b : D) (S : Store) (Q : PD), Pl k a → Pl k b → (∀ S', Ext S S' → Q (.bl (decide (a = b))) S') → F__law_same k [a, b] S Q
  | 0, a, b, S, Q, ha, _, _ => by cases ha
  | k + 1, a, b, S, Q, ha, hb, h => by
    have h0 := h S (.refl S)
    refine r_fn rfl ?_
    unfold b__law_same
    cases hb with
    | tup _ ys hl hy =>
      cases ha with
      | tup _ xs hl2 hx0 =>
        walk_at "s"
        refine r_len rfl ?_
        walk_at "s"
        refine r_len rfl ?_
        walk_at "s"
        refine ite_b (fun hne => ?_) (fun he => ?_)
        · walk_at "s"
          have : decide (D.tup xs = D.tup ys) = false := by
            rw [decide_eq_false_iff_not]
            intro e
            cases e
            simp at hne
          rw [this] at h0
          exact h0
        · have he : xs.length = ys.length := by
            have : ((xs.length : Nat) : Int) = (ys.length : Nat) := by simpa using he
            omega
          walk_at "s"
          refine r_len rfl ?_
          walk_at "s"
          refine r_rg (by omega) (by omega) fun few => ?_
          refine lc_filter (neAt xs ys) id few (fun _ _ => trivial) ?_ ?_ ?_
          · intro x hx S1 P e1 hP
            obtain ⟨i, hi, rfl⟩ := mem_rng hx
            rw [Int.toNat_natCast] at hi
            walk_at "s"
            refine r_ixT (v := xs[i]) (by rw [atI_n, List.getElem?_eq_getElem (by omega)]) ?_
            walk_at "s"
            refine r_ixT (v := ys[i]) (by rw [atI_n, List.getElem?_eq_getElem (by omega)]) ?_
            walk_at "s"
            refine same_spec k _ _ _ _ (hx0 _ (List.getElem_mem _)) (hy _ (List.getElem_mem _)) fun S2 e2 => ?_
            walk_at "s"
            have := hP S2 e2
            rw [neAt_int (by omega) hi] at this
            exact this
          · intro x hx S1 P e1 hP
            walk_at "s"
            exact hP S1 (.refl S1)
          · intro S1 e1 hS
            walk_at "s"
            refine r_len (by show seqC S1[S.length]? = _; rw [hS]; rfl) ?_
            walk_at "s"
            have := h S1 e1
            rw [List.map_id]
            have q : decide (D.tup xs = D.tup ys) = decide ((((rngD 0 ((ys.length : Nat) : Int).toNat).filter (neAt xs ys)).length : Int) = 0) := by
              rw [decide_eq_decide, Int.toNat_natCast, Int.natCast_eq_zero, filter_ne he]
              simp
            rw [q] at this
            exact this
      | _ =>
        walk_at "s"
        simpa using h0
    | _ =>
      cases ha <;> (walk_at "s"; simpa using h0)
end PG
/-! SP3: worlds and sayings, drawn. -/
namespace PG
open PySem L2 SD
inductive Fm where
  | yes | no | is (i : Nat) | isnt (i : Nat) | name (x : Nat) | both (a b : Fm) | either (a b : Fm) | some (j : Nat) (a : Fm) | all (j : Nat) (a : Fm) | least (x : Nat) (a : Fm) | greatest (x : Nat) (a : Fm)
deriving DecidableEq
def encP (xs : List Nat) : D := .tup (xs.map fun k : Nat => .int (k : Nat))
def encF : Fm → D
  | .yes => .tup [.str "yes"]
  | .no => .tup [.str "no"]
  | .is i => .tup [.str "is", .int (i : Nat)]
  | .isnt i => .tup [.str "isnt", .int (i : Nat)]
  | .name x => .tup [.str "name", .int (x : Nat)]
  | .both a b => .tup [.str "both", encF a, encF b]
  | .either a b => .tup [.str "either", encF a, encF b]
  | .some j a => .tup [.str "some", .int (j : Nat), encF a]
  | .all j a => .tup [.str "all", .int (j : Nat), encF a]
  | .least x a => .tup [.str "least", .int (x : Nat), encF a]
  | .greatest x a => .tup [.str "greatest", .int (x : Nat), encF a]
def Fm.dp : Fm → Nat
  | .both a b => max a.dp b.dp + 1
  | .either a b => max a.dp b.dp + 1
  | .some _ a => a.dp + 1
  | .all _ a => a.dp + 1
  | .least _ a => a.dp + 1
  | .greatest _ a => a.dp + 1
  | _ => 1
def Fm.bnds : Fm → List Nat
  | .both a b => a.bnds ++ b.bnds
  | .either a b => a.bnds ++ b.bnds
  | .some _ a => a.bnds
  | .all _ a => a.bnds
  | .least x a => x :: a.bnds
  | .greatest x a => x :: a.bnds
  | _ => []
/-- of a land, names known and names free to be said -/
def OkF (L0 L1 : Nat) : List Nat → List Nat → Fm → Prop
  | _, _, .yes => True
  | _, _, .no => True
  | _, _, .is i => i < L0
  | _, _, .isnt i => i < L0
  | _, fr, .name x => x ∈ fr
  | kn, fr, .both a b => OkF L0 L1 kn fr a ∧ OkF L0 L1 kn fr b
  | kn, fr, .either a b => OkF L0 L1 kn fr a ∧ OkF L0 L1 kn fr b
  | kn, _, .some j a => j < L1 ∧ OkF L0 L1 kn kn a
  | kn, _, .all j a => j < L1 ∧ OkF L0 L1 kn kn a
  | kn, fr, .least x a => OkF L0 L1 (kn ++ [x]) fr a
  | kn, fr, .greatest x a => OkF L0 L1 (kn ++ [x]) fr a
theorem saying_spec : ∀ (k : Nat) (deep : Int) (p q st L0 L1 : Nat) (kn fr : List Nat) (ys : List D) (S : Store) (Q : PD), deep.toNat < k → PoolOk p q S → 1 ≤ L0 → L0 ≤ 1000 → 1 ≤ L1 → L1 ≤ 1000 → st ≠ p → st ≠ q → S[st]? = Option.some (.lst ys) → ys.length ≤ 5 →
    kn.length + k ≤ 1000 → fr.length ≤ 1000 →
    (∀ S' f ys', OkF L0 L1 kn fr f → f.dp ≤ deep.toNat + 1 → ys.length ≤ ys'.length → ys'.length ≤ 5 → f.bnds = List.range' ys.length (ys'.length - ys.length) → PoolOk p q S' → S'[st]? = Option.some (.lst ys') → ExtB [p, st] S S' → Q (encF f) S') →
    F__law_saying k [.ref p, .tup [.int (L0 : Nat), .int (L1 : Nat)], .int deep, .ref st, encP kn, encP fr] S Q
  | 0, _, _, _, _, _, _, _, _, _, _, _, h, _, _, _, _, _, _, _, _, _, _, _, _ => absurd h (Nat.not_lt_zero _)
  | k + 1, deep, p, q, st, L0, L1, kn, fr, ys, S, Q, hd, P, l1, l2, m1, m2, sp, sq, hst, hys, hkn, hfr, h => by
    refine r_fn rfl ?_
    unfold b__law_saying
    refine r_cut (fun σ S' => ∃ r : Nat, σ = [Option.some (.ref p), Option.some (.tup [.int (L0 : Nat), .int (L1 : Nat)]), Option.some (.int deep), Option.some (.ref st), Option.some (encP kn), Option.some (encP fr), Option.some (.int (r : Nat)), none] ∧ r < 13 ∧ (deep ≤ 0 → r < 5) ∧ PoolOk p q S' ∧ Off p S S') ?_ fun T hT => ?_
    · rintro σ S0 ⟨r, rfl, hr, hr5, P0, o0⟩
      have hst0 := o0.ne sp hst
      have leaf : ∀ S' f, OkF L0 L1 kn fr f → f.dp ≤ 1 → f.bnds = [] → PoolOk p q S' → ExtB [p] S0 S' → Q (encF f) S' := fun S' f h1 h2 h3 h4 h5 =>
        h S' f ys h1 (by omega) (Nat.le_refl _) hys (by rw [h3]; simp) h4 (h5.2 st (by simpa using sp) _ hst0) ((o0.b (List.mem_cons_self)).trans (h5.mono (by simp)))
      have go : ∀ (kn' fr' : List Nat) (ys1 : List D) (S1 : Store) (R : PD), 0 < deep → PoolOk p q S1 → S1[st]? = Option.some (.lst ys1) → ys1.length ≤ 5 → kn'.length + k ≤ 1000 → fr'.length ≤ 1000 →
          (∀ S' f ys', OkF L0 L1 kn' fr' f → f.dp ≤ deep.toNat → ys1.length ≤ ys'.length → ys'.length ≤ 5 → f.bnds = List.range' ys1.length (ys'.length - ys1.length) → PoolOk p q S' → S'[st]? = Option.some (.lst ys') → ExtB [p, st] S1 S' → R (encF f) S') →
          F__law_saying k [.ref p, .tup [.int (L0 : Nat), .int (L1 : Nat)], .int (deep - 1), .ref st, encP kn', encP fr'] S1 R := fun kn' fr' ys1 S1 R h0 h1 h2 h3 h4 h5 h6 => by
        exact saying_spec k (deep - 1) p q st L0 L1 kn' fr' ys1 S1 R (by omega) h1 l1 l2 m1 m2 sp sq h2 h3 h4 h5 fun S' f ys' a1 a2 => h6 S' f ys' a1 (by omega)
      by_cases a2 : r < 2
      · match r, a2 with
        | 0, _ =>
          walk_at "s"
          refine draw_spec P0 (by omega) (by omega) fun S2 i hi P2 o2 => ?_
          walk_at "s"
          exact leaf S2 (.is i) (by show i < L0; omega) (Nat.le_refl _) rfl P2 (o2.b (by simp))
        | 1, _ =>
          walk_at "s"
          refine draw_spec P0 (by omega) (by omega) fun S2 i hi P2 o2 => ?_
          walk_at "s"
          exact leaf S2 (.isnt i) (by show i < L0; omega) (Nat.le_refl _) rfl P2 (o2.b (by simp))
      walk_at "s"
      refine r_ifF (decide_eq_false (by omega)) ?_
      walk_at "s"
      by_cases a3 : r = 3
      · subst a3
        walk_at "s"
        refine r_len rfl ?_
        walk_at "s"
        refine ite_b (fun hf => ?_) (fun hf => ?_)
        · walk_at "s"
          refine draw_spec P0 (by omega) (by omega) fun S2 i hi P2 o2 => ?_
          walk_at "s"
          exact leaf S2 (.is i) (by show i < L0; omega) (Nat.le_refl _) rfl P2 (o2.b (by simp))
        · walk_at "s"
          refine r_len rfl ?_
          walk_at "s"
          refine ite_b (fun hf => ?_) (fun hf => ?_)
          · walk_at "s"
            refine r_list rfl ?_
            walk_at "s"
            have hf : 0 < fr.length := by simpa using hf
            refine pick_spec (P0.ext (Ext.app S0 _)) (Nat.ne_of_gt P0.lt) (new_at S0 _) (by simpa using hf) (by simp; omega) fun S2 d hdm P2 o2 => ?_
            obtain ⟨x, hx, rfl⟩ := List.mem_map.mp hdm
            walk_at "s"
            exact leaf S2 (.name x) hx (Nat.le_refl _) rfl P2 (((Ext.app S0 _).b _).trans (o2.b (by simp)))
          · walk_at "s"
            refine draw_spec P0 (by omega) (by omega) fun S2 i hi P2 o2 => ?_
            walk_at "s"
            exact leaf S2 (.isnt i) (by show i < L0; omega) (Nat.le_refl _) rfl P2 (o2.b (by simp))
      by_cases a4 : r = 4
      · subst a4
        walk_at "s"
        refine r_len rfl ?_
        walk_at "s"
        refine ite_b (fun hf => ?_) (fun hf => ?_)
        · walk_at "s"
          refine r_list rfl ?_
          walk_at "s"
          have hf : 0 < fr.length := by simpa using hf
          refine pick_spec (P0.ext (Ext.app S0 _)) (Nat.ne_of_gt P0.lt) (new_at S0 _) (by simpa using hf) (by simp; omega) fun S2 d hdm P2 o2 => ?_
          obtain ⟨x, hx, rfl⟩ := List.mem_map.mp hdm
          walk_at "s"
          exact leaf S2 (.name x) hx (Nat.le_refl _) rfl P2 (((Ext.app S0 _).b _).trans (o2.b (by simp)))
        · walk_at "s"
          refine draw_spec P0 (by omega) (by omega) fun S2 i hi P2 o2 => ?_
          walk_at "s"
          exact leaf S2 (.isnt i) (by show i < L0; omega) (Nat.le_refl _) rfl P2 (o2.b (by simp))
      refine r_ifF (decide_eq_false (by omega)) ?_
      walk_at "s"
      by_cases a5 : r = 2
      · subst a5
        walk_at "s"
        refine draw_spec P0 (by decide) (by decide) fun S1 i hi P1 o1 => ?_
        walk_at "s"
        refine ite_b (fun hb => ?_) (fun hb => ?_)
        · walk_at "s"
          refine draw_spec P1 (by decide) (by decide) fun S2 i hi P2 o2 => ?_
          match i, hi with
          | 0, _ =>
            walk_at "s"
            exact leaf S2 .yes trivial (Nat.le_refl _) rfl P2 ((o1.trans o2).b (by simp))
          | 1, _ =>
            walk_at "s"
            exact leaf S2 .no trivial (Nat.le_refl _) rfl P2 ((o1.trans o2).b (by simp))
          | i + 2, hi => omega
        · walk_at "s"
          refine draw_spec P1 (by omega) (by omega) fun S2 i hi P2 o2 => ?_
          walk_at "s"
          exact leaf S2 (.is i) (by show i < L0; omega) (Nat.le_refl _) rfl P2 ((o1.trans o2).b (by simp))
      refine r_ifF (decide_eq_false (by omega)) ?_
      walk_at "s"
      refine r_ifF (decide_eq_false (by omega)) ?_
      walk_at "s"
      have d0 : 0 < deep := by omega
      have n1 : ∀ a b c : Nat, a ≤ b → b ≤ c → ∀ u v : List Nat, u = List.range' a (b - a) → v = List.range' b (c - b) → u ++ v = List.range' a (c - a) := fun a b c h1 h2 u v hu hv => by
        have e1 : c - a = (b - a) + (c - b) := by omega
        have e2 : List.range' b (c - b) = List.range' (a + 1 * (b - a)) (c - b) := by rw [show a + 1 * (b - a) = b from by omega]
        rw [hu, hv, e1, e2, List.range'_append]
      refine ite_b (fun hb => ?_) (fun hb => ?_)
      · walk_at "s"
        refine draw_spec P0 (by decide) (by decide) fun S1 i hi P1 o1 => ?_
        match i, hi with
        | 0, _ =>
          walk_at "s"
          refine go kn fr ys S1 _ d0 P1 (o1.ne sp hst0) hys (by omega) hfr fun S2 fa ys2 u1 u2 u3 u4 u5 u6 u7 u8 => ?_
          walk_at "s"
          refine go kn fr ys2 S2 _ d0 u6 u7 u4 (by omega) hfr fun S3 fb ys3 v1 v2 v3 v4 v5 v6 v7 v8 => ?_
          walk_at "s"
          exact h S3 (.both fa fb) ys3 ⟨u1, v1⟩ (by show max fa.dp fb.dp + 1 ≤ _; omega) (Nat.le_trans u3 v3) v4 (n1 _ _ _ u3 v3 _ _ u5 v5) v6 v7 (((((o0.trans o1).b (by simp)).trans u8)).trans v8)
        | 1, _ =>
          walk_at "s"
          refine go kn fr ys S1 _ d0 P1 (o1.ne sp hst0) hys (by omega) hfr fun S2 fa ys2 u1 u2 u3 u4 u5 u6 u7 u8 => ?_
          walk_at "s"
          refine go kn fr ys2 S2 _ d0 u6 u7 u4 (by omega) hfr fun S3 fb ys3 v1 v2 v3 v4 v5 v6 v7 v8 => ?_
          walk_at "s"
          exact h S3 (.either fa fb) ys3 ⟨u1, v1⟩ (by show max fa.dp fb.dp + 1 ≤ _; omega) (Nat.le_trans u3 v3) v4 (n1 _ _ _ u3 v3 _ _ u5 v5) v6 v7 (((((o0.trans o1).b (by simp)).trans u8)).trans v8)
        | i + 2, hi => omega
      walk_at "s"
      refine ite_b (fun hb => ?_) (fun hb => ?_)
      · walk_at "s"
        refine draw_spec P0 (by decide) (by decide) fun S1 i hi P1 o1 => ?_
        match i, hi with
        | 0, _ =>
          walk_at "s"
          refine draw_spec P1 (by omega) (by omega) fun S2 jj hj P2 o2 => ?_
          walk_at "s"
          refine go kn kn ys S2 _ d0 P2 (o2.ne sp (o1.ne sp hst0)) hys (by omega) (by omega) fun S3 fa ys2 u1 u2 u3 u4 u5 u6 u7 u8 => ?_
          walk_at "s"
          exact h S3 (.some jj fa) ys2 ⟨by omega, u1⟩ (by show fa.dp + 1 ≤ _; omega) u3 u4 u5 u6 u7 ((((o0.trans o1).trans o2).b (by simp)).trans u8)
        | 1, _ =>
          walk_at "s"
          refine draw_spec P1 (by omega) (by omega) fun S2 jj hj P2 o2 => ?_
          walk_at "s"
          refine go kn kn ys S2 _ d0 P2 (o2.ne sp (o1.ne sp hst0)) hys (by omega) (by omega) fun S3 fa ys2 u1 u2 u3 u4 u5 u6 u7 u8 => ?_
          walk_at "s"
          exact h S3 (.all jj fa) ys2 ⟨by omega, u1⟩ (by show fa.dp + 1 ≤ _; omega) u3 u4 u5 u6 u7 ((((o0.trans o1).trans o2).b (by simp)).trans u8)
        | i + 2, hi => omega
      walk_at "s"
      refine r_len (by show seqC S0[st]? = _; rw [hst0]; rfl) ?_
      walk_at "s"
      refine ite_b (fun hx => ?_) (fun hx => ?_)
      · walk_at "s"
        exact leaf S0 (.is 0) (by show 0 < L0; omega) (Nat.le_refl _) rfl P0 (.refl _ _)
      · have hx : ys.length ≤ 4 := by
          have := of_decide_eq_false hx
          omega
        walk_at "s"
        refine r_tyL hst0 ?_
        walk_at "s"
        refine r_app hst0 (by simp [sizeLine]; omega) fun S1 q1 o1 => ?_
        have P1 := P0.extB (o1.b (l := [st]) (by simp)) (by simpa using Ne.symm sp) (by simpa using Ne.symm sq)
        have ek : (kn.map fun k : Nat => D.int (k : Nat)) ++ [D.int (ys.length : Nat)] = (kn ++ [ys.length]).map fun k : Nat => D.int (k : Nat) := by simp
        walk_at "s"
        refine draw_spec P1 (by decide) (by decide) fun S2 i hi P2 o2 => ?_
        match i, hi with
        | 0, _ =>
          walk_at "s"
          refine r_addT (by simp [sizeLine]; omega) ?_
          rw [ek]
          walk_at "s"
          refine go (kn ++ [ys.length]) fr _ S2 _ d0 P2 (o2.ne sp q1) (by simp; omega) (by simp; omega) hfr fun S3 fa ys2 u1 u2 u3 u4 u5 u6 u7 u8 => ?_
          walk_at "s"
          refine h S3 (.least ys.length fa) ys2 u1 (by show fa.dp + 1 ≤ _; omega) (by simp at u3; omega) u4 ?_ u6 u7 (((o0.b (by simp)).trans (o1.b (by simp))).trans ((o2.b (by simp)).trans u8))
          show ys.length :: fa.bnds = _
          rw [u5]
          simp at u3 ⊢
          have e3 : ys2.length - ys.length = (ys2.length - (ys.length + 1)) + 1 := by omega
          rw [e3, List.range'_succ]
        | 1, _ =>
          walk_at "s"
          refine r_addT (by simp [sizeLine]; omega) ?_
          rw [ek]
          walk_at "s"
          refine go (kn ++ [ys.length]) fr _ S2 _ d0 P2 (o2.ne sp q1) (by simp; omega) (by simp; omega) hfr fun S3 fa ys2 u1 u2 u3 u4 u5 u6 u7 u8 => ?_
          walk_at "s"
          refine h S3 (.greatest ys.length fa) ys2 u1 (by show fa.dp + 1 ≤ _; omega) (by simp at u3; omega) u4 ?_ u6 u7 (((o0.b (by simp)).trans (o1.b (by simp))).trans ((o2.b (by simp)).trans u8))
          show ys.length :: fa.bnds = _
          rw [u5]
          simp at u3 ⊢
          have e3 : ys2.length - ys.length = (ys2.length - (ys.length + 1)) + 1 := by omega
          rw [e3, List.range'_succ]
        | i + 2, hi => omega
    · walk_at "s"
      refine ite_b (fun hb => ?_) (fun hb => ?_)
      · walk_at "s"
        refine draw_spec P (by decide) (by decide) fun S1 r hr P1 o1 => ?_
        walk_at "s"
        have hb := of_decide_eq_true hb
        exact hT _ _ ⟨r, rfl, by omega, by omega, P1, o1⟩
      · walk_at "s"
        refine draw_spec P (by decide) (by decide) fun S1 r hr P1 o1 => ?_
        walk_at "s"
        exact hT _ _ ⟨r, rfl, by omega, by omega, P1, o1⟩
end PG
/-! SP4: drawn worlds. -/
namespace PG
open PySem L2 SD
structure Wd where
  n : Nat
  marks : List (List Nat)
  ways : List (List (List Nat))
def encR (r : List (List Nat)) : D := .tup (r.map encP)
def encW (w : Wd) : D := .tup [.int (w.n : Nat), .tup (w.marks.map encP), .tup (w.ways.map encR)]
def OkSub (n : Nat) (ks : List Nat) : Prop := ks.Pairwise (· < ·) ∧ ∀ k ∈ ks, k < n
structure OkW (L0 L1 : Nat) (w : Wd) : Prop where
  pos : 1 ≤ w.n
  marks : w.marks.length = L0
  mark : ∀ m ∈ w.marks, OkSub w.n m
  ways : w.ways.length = L1
  rows : ∀ r ∈ w.ways, r.length = w.n
  row : ∀ r ∈ w.ways, ∀ ks ∈ r, OkSub w.n ks
theorem OkSub.le {n : Nat} {ks : List Nat} (h : OkSub n ks) : ks.length ≤ n := by
  have nd : ks.Nodup := h.1.imp fun a => Nat.ne_of_lt a
  have := subset_len (ls := List.range n) nd fun j hj => List.mem_range.mpr (h.2 j hj)
  simpa using this
/-- [k for k in range(n) if draw(m) == 0] -/
theorem sub_spec {σ : Slots} {n p q m pv iv : Nat} {em : FE} {S : Store} {R : Store → Prop} (hp : ∀ d : D, (σ.set iv (some d))[pv]? = some (some (.ref p))) (hv : ∀ d : D, (σ.set iv (some d))[iv]? = some (some d))
    (hem : ∀ (d : D) (S : Store) (Q : PD), Q (.int (m : Nat)) S → em (σ.set iv (some d)) S Q) (m0 : 0 < m) (m1 : m < 1000000) (hn : n ≤ 1000) (P : PoolOk p q S)
    (h : ∀ S' ks, OkSub n ks → PoolOk p q S' → ExtB [p] S S' → S'[S.length]? = some (.lst (ks.map fun k : Nat => .int (k : Nat))) → R S') :
    lcD Always (gNm iv) (tVal (eOp (eqF false) (eCall F__law_draw (aCons (eVar pv) (aCons em aNil))) (eC (.int 0)))) (eVar iv) S.length R σ (rngD 0 n) (S ++ [.lst []]) := by
  have hpl := P.lt
  refine lc_inv (fun i acc S' => PoolOk p q S' ∧ ExtB [p] S S' ∧ ∃ ks : List Nat, acc = ks.map (fun k : Nat => D.int (k : Nat)) ∧ OkSub i ks) (by rw [rng_len]; simp [sizeLine]; omega) (new_at S _) ⟨P.ext (Ext.app S _), (Ext.app S _).b _, [], rfl, .nil, by simp⟩ ?_ ?_
  · rintro i x acc S1 R1 hx h1 hl ⟨P1, e1, ks, rfl, hk1, hk2⟩ hR
    obtain ⟨hi, rfl⟩ := rng_at hx
    refine ⟨trivial, ?_⟩
    walk_at "s"
    refine r_var (hp _) ?_
    walk_at "s"
    refine hem _ _ _ ?_
    walk_at "s"
    refine draw_spec P1 (by omega) (by omega) fun S2 r hr P2 o2 => ?_
    have h1' := o2.ne (Nat.ne_of_gt hpl) h1
    walk_at "s"
    refine ite_b (fun hb => ?_) (fun hb => ?_)
    · refine r_var (hv _) ?_
      refine ⟨_, h1', by rw [List.length_map] at hl ⊢; simp [sizeLine]; omega, ?_⟩
      refine hR _ _ (set_at h1') (by simpa using hl) ⟨P2.extB ((Off.set S.length S2 _).b (l := [S.length]) (by simp)) (by simp; exact Nat.ne_of_lt hpl) (by simp; exact Nat.ne_of_lt P.lt2), (e1.trans (o2.b (by simp))).put (.inr (Nat.le_refl _)), ks ++ [i], by simp, ?_, ?_⟩
      · rw [List.pairwise_append]
        exact ⟨hk1, by simp, fun a ha b hb => by simp at hb; subst hb; exact hk2 a ha⟩
      · intro k hk
        simp at hk
        rcases hk with hk | rfl
        · have := hk2 k hk; omega
        · omega
    · refine hR _ _ h1' (by omega) ⟨P2, e1.trans (o2.b (by simp)), ks, rfl, hk1, fun k hk => by have := hk2 k hk; omega⟩
  · rintro acc S1 h1 hl ⟨P1, e1, ks, rfl, hk⟩
    rw [rng_len] at hk
    exact ⟨trivial, h S1 ks hk P1 e1 h1⟩
/-- [tuple([k for k in range(n) if draw(m) == 0]) for _ in range(c)] -/
theorem rows_spec {σ : Slots} {n p q m c pv iv nv ov : Nat} {em : FE} {S : Store} {R : Store → Prop} (hp : ∀ d e : D, ((wipeD (σ.set ov (some e)) [iv]).set iv (some d))[pv]? = some (some (.ref p))) (hv : ∀ d e : D, ((wipeD (σ.set ov (some e)) [iv]).set iv (some d))[iv]? = some (some d))
    (hn : ∀ e : D, (σ.set ov (some e))[nv]? = some (some (.int (n : Nat))))
    (hem : ∀ (d e : D) (S : Store) (Q : PD), Q (.int (m : Nat)) S → em ((wipeD (σ.set ov (some e)) [iv]).set iv (some d)) S Q) (m0 : 0 < m) (m1 : m < 1000000) (hn1 : n ≤ 1000) (hc : c ≤ 1000) (P : PoolOk p q S)
    (h : ∀ S' (rs : List (List Nat)), rs.length = c → (∀ r ∈ rs, OkSub n r) → PoolOk p q S' → ExtB [p] S S' → S'[S.length]? = some (.lst (rs.map encP)) → R S') :
    lcD Always (gNm ov) tYesD (eCB tupleF (aCons (eLc (iRg1 (aCons (eVar nv) aNil)) (gNm iv) (tVal (eOp (eqF false) (eCall F__law_draw (aCons (eVar pv) (aCons em aNil))) (eC (.int 0)))) (eVar iv) [iv]) aNil)) S.length R σ (rngD 0 c) (S ++ [.lst []]) := by
  have hpl := P.lt
  refine lc_inv (fun i acc S' => PoolOk p q S' ∧ ExtB [p] S S' ∧ ∃ rs : List (List Nat), acc = rs.map encP ∧ rs.length = i ∧ ∀ r ∈ rs, OkSub n r) (by rw [rng_len]; simp [sizeLine]; omega) (new_at S _) ⟨P.ext (Ext.app S _), (Ext.app S _).b _, [], rfl, rfl, by simp⟩ ?_ ?_
  · rintro i x acc S1 R1 hx h1 hl ⟨P1, e1, rs, rfl, hr1, hr2⟩ hR
    obtain ⟨hi, rfl⟩ := rng_at hx
    refine ⟨trivial, ?_⟩
    walk_at "s"
    refine r_var (hn _) ?_
    walk_at "s"
    refine r_rg (by omega) (by omega) fun few => ?_
    rw [Int.toNat_natCast]
    refine sub_spec (hp · _) (hv · _) (hem · _) m0 m1 hn1 P1 fun S2 ks hk P2 e2 h2 => ?_
    walk_at "s"
    refine r_tuple (by show seqC S2[S1.length]? = _; rw [h2]; rfl) ?_
    have h1' := e2.2 _ (by simp; exact Nat.ne_of_gt hpl) _ h1
    refine ⟨_, h1', by rw [List.length_map]; simp [sizeLine]; omega, ?_⟩
    refine hR _ _ (set_at h1') (by simpa using hl) ⟨P2.extB ((Off.set S.length S2 _).b (l := [S.length]) (by simp)) (by simp; exact Nat.ne_of_lt hpl) (by simp; exact Nat.ne_of_lt P.lt2), (e1.trans e2).put (.inr (Nat.le_refl _)), rs ++ [ks], by simp [encP], by simp [hr1], ?_⟩
    intro r hr
    simp at hr
    rcases hr with hr | rfl
    · exact hr2 r hr
    · exact hk
  · rintro acc S1 h1 hl ⟨P1, e1, rs, rfl, hr1, hr2⟩
    rw [rng_len] at hr1
    exact ⟨trivial, h S1 rs hr1 hr2 P1 e1 h1⟩
theorem world_spec {p q L0 L1 most : Nat} {S : Store} {Q : PD} (P : PoolOk p q S) (l0 : L0 ≤ 1000) (l1 : L1 ≤ 1000) (m0 : 1 ≤ most) (m1 : most ≤ 900)
    (h : ∀ S' w, OkW L0 L1 w → w.n ≤ most → PoolOk p q S' → ExtB [p] S S' → Q (encW w) S') : F__law_world [.ref p, .tup [.int (L0 : Nat), .int (L1 : Nat)], .int (most : Nat)] S Q := by
  refine r_fn rfl ?_
  unfold b__law_world
  walk_at "s"
  refine draw_spec P (by omega) (by omega) fun S1 n0 hn P1 o1 => ?_
  walk_at "s"
  have e : (1 : Int) + (n0 : Nat) = ((1 + n0 : Nat) : Int) := by omega
  rw [e]
  generalize hN : 1 + n0 = n
  refine r_rg (by omega) (by omega) fun few => ?_
  rw [Int.toNat_natCast]
  refine rows_spec (fun _ _ => rfl) (fun _ _ => rfl) (fun _ => rfl) (fun _ _ _ _ q => r_c q) (m := 2) (by decide) (by decide) (by omega) l0 P1 fun S2 ms hm1 hm2 P2 e2 h2 => ?_
  walk_at "s"
  refine r_tuple (by show seqC S2[S1.length]? = _; rw [h2]; rfl) ?_
  walk_at "s"
  refine draw_spec P2 (by omega) (by omega) fun S3 d0 hd P3 o3 => ?_
  walk_at "s"
  have e : (2 : Int) + (d0 : Nat) = ((2 + d0 : Nat) : Int) := by omega
  rw [e]
  refine r_rg (by omega) (by omega) ?_
  rw [Int.toNat_natCast]
  refine for_inv (fun i σ S' => PoolOk p q S' ∧ ExtB [p] S S' ∧ ∃ (ws : List (List (List Nat))) (s7 : Option D), ws.length = i ∧ (∀ r ∈ ws, r.length = n) ∧ (∀ r ∈ ws, ∀ ks ∈ r, OkSub n ks) ∧
    σ = [some (.ref p), some (.tup [.int (L0 : Nat), .int (L1 : Nat)]), some (.int (most : Nat)), some (.int (n : Nat)), some (.tup (ms.map encP)), some (.int ((2 + d0 : Nat) : Int)), some (.tup (ws.map encR)), s7, none, none, none]) ?_ ?_ ?_
  · exact ⟨P3, ((o1.b (by simp)).trans e2).trans (o3.b (by simp)), [], _, rfl, by simp, by simp, rfl⟩
  · rintro i x σ S4 R hx ⟨P4, e4, ws, s7, w1, w2, w3, rfl⟩ hR
    obtain ⟨hi, rfl⟩ := rng_at hx
    refine ⟨trivial, ?_⟩
    walk_at "s"
    refine r_rg (by omega) (by omega) fun few => ?_
    rw [Int.toNat_natCast]
    refine rows_spec (fun _ _ => rfl) (fun _ _ => rfl) (fun _ => rfl) (fun _ _ _ _ q => r_var rfl q) (m := 2 + d0) (by omega) (by omega) (by omega) (by omega) P4 fun S5 rs hr1 hr2 P5 e5 h5 => ?_
    walk_at "s"
    refine r_tuple (by show seqC S5[S4.length]? = _; rw [h5]; rfl) ?_
    walk_at "s"
    refine r_addT (by simp [sizeLine]; omega) ?_
    walk_at "s"
    refine hR _ _ ⟨P5, e4.trans e5, ws ++ [rs], _, by simp [w1], ?_, ?_, by simp [encR]; rfl⟩
    · intro r hr
      simp at hr
      rcases hr with hr | rfl
      · exact w2 r hr
      · exact hr1
    · intro r hr
      simp at hr
      rcases hr with hr | rfl
      · exact w3 r hr
      · exact hr2
  · rintro σ S4 ⟨P4, e4, ws, s7, w1, w2, w3, rfl⟩
    rw [rng_len] at w1
    refine ⟨trivial, ?_⟩
    walk_at "s"
    exact h S4 ⟨n, ms, ws⟩ ⟨by show 1 ≤ n; omega, hm1, hm2, w1, w2, w3⟩ (by show n ≤ most; omega) P4 e4
end PG
/-! SM1: what a saying says, in plain words. -/
namespace PG
theorem sub_ext {n : Nat} : ∀ {xs ys : List Nat}, xs.Pairwise (· < ·) → ys.Pairwise (· < ·) → (∀ j, j ∈ xs ↔ j ∈ ys) → xs = ys
  | [], [], _, _, _ => rfl
  | [], y :: ys, _, _, h => absurd ((h y).mpr List.mem_cons_self) (by simp)
  | x :: xs, [], _, _, h => absurd ((h x).mp List.mem_cons_self) (by simp)
  | x :: xs, y :: ys, hx, hy, h => by
    rw [List.pairwise_cons] at hx hy
    have e : x = y := by
      have h1 := (h x).mp List.mem_cons_self
      have h2 := (h y).mpr List.mem_cons_self
      rw [List.mem_cons] at h1 h2
      rcases h1 with h1 | h1
      · exact h1
      · rcases h2 with h2 | h2
        · exact h2.symm
        · have := hy.1 x h1
          have := hx.1 y h2
          omega
    subst e
    rw [sub_ext (n := n) hx.2 hy.2 fun j => ?_]
    have hj := h j
    rw [List.mem_cons, List.mem_cons] at hj
    constructor
    · intro q
      rcases hj.mp (.inr q) with e | e
      · have := hx.1 j q; omega
      · exact e
    · intro q
      rcases hj.mpr (.inr q) with e | e
      · have := hy.1 j q; omega
      · exact e
theorem OkSub.ext {n : Nat} {xs ys : List Nat} (hx : OkSub n xs) (hy : OkSub n ys) (h : ∀ j, j ∈ xs ↔ j ∈ ys) : xs = ys := sub_ext (n := n) hx.1 hy.1 h
theorem OkSub.nodup {n : Nat} {xs : List Nat} (h : OkSub n xs) : xs.Nodup := h.1.imp fun a => Nat.ne_of_lt a
/-- those below n of which p is so -/
def canon (n : Nat) (p : Nat → Bool) : List Nat := (List.range n).filter p
theorem mem_canon {n : Nat} {p : Nat → Bool} {k : Nat} : k ∈ canon n p ↔ k < n ∧ p k = true := by
  unfold canon; rw [List.mem_filter, List.mem_range]
theorem canon_ok (n : Nat) (p : Nat → Bool) : OkSub n (canon n p) := ⟨List.Pairwise.sublist List.filter_sublist List.pairwise_lt_range, fun k hk => (mem_canon.mp hk).1⟩
theorem range_ok (n : Nat) : OkSub n (List.range n) := ⟨List.pairwise_lt_range, fun k hk => List.mem_range.mp hk⟩
theorem nil_ok (n : Nat) : OkSub n [] := ⟨.nil, by simp⟩
def it {α : Type} (f : α → α) : Nat → α → α
  | 0, x => x
  | n + 1, x => f (it f n x)
theorem it_at {α : Type} {f : α → α} {x : α} {t : Nat} (h : it f (t + 1) x = it f t x) : ∀ m, t ≤ m → it f m x = it f t x := by
  intro m hm
  induction m with
  | zero => have : t = 0 := by omega
            subst this; rfl
  | succ m ih =>
    by_cases e : t = m + 1
    · rw [e]
    · show f (it f m x) = _
      rw [ih (by omega)]; exact h
/-- what grows at each step but so far comes to rest -/
theorem it_rest {α : Type} [DecidableEq α] {f : α → α} {x : α} (μ : α → Nat) {n : Nat} (hb : ∀ t, μ (it f t x) ≤ n) (hs : ∀ t, it f (t + 1) x ≠ it f t x → μ (it f t x) < μ (it f (t + 1) x)) : it f (n + 1) x = it f n x := by
  have key : ∀ t, (∃ s, s < t ∧ it f (s + 1) x = it f s x) ∨ t ≤ μ (it f t x) := by
    intro t
    induction t with
    | zero => exact .inr (Nat.zero_le _)
    | succ t ih =>
      rcases ih with ⟨s, h1, h2⟩ | h
      · exact .inl ⟨s, by omega, h2⟩
      · by_cases e : it f (t + 1) x = it f t x
        · exact .inl ⟨t, by omega, e⟩
        · have := hs t e
          exact .inr (by omega)
  rcases key (n + 1) with ⟨s, h1, h2⟩ | h
  · rw [it_at h2 (n + 1) (by omega), it_at h2 n (by omega)]
  · have := hb (n + 1)
    omega
def Sub (xs ys : List Nat) : Prop := ∀ k, k ∈ xs → k ∈ ys
abbrev Env := Nat → List Nat
def up (ρ : Env) (x : Nat) (X : List Nat) : Env := fun y => if y = x then X else ρ y
theorem up_self (ρ : Env) (x : Nat) (X : List Nat) : up ρ x X x = X := if_pos rfl
theorem up_ne (ρ : Env) {x y : Nat} (X : List Nat) (h : y ≠ x) : up ρ x X y = ρ y := if_neg h
def EnvOk (n : Nat) (ρ : Env) : Prop := ∀ x, OkSub n (ρ x)
theorem EnvOk.up {n : Nat} {ρ : Env} (h : EnvOk n ρ) {X : List Nat} (hX : OkSub n X) (x : Nat) : EnvOk n (up ρ x X) := fun y => by
  unfold PG.up; split
  · exact hX
  · exact h y
def Wd.way (w : Wd) (j k : Nat) : List Nat := (w.ways.getD j []).getD k []
def sem (w : Wd) : Fm → Env → List Nat
  | .yes, _ => List.range w.n
  | .no, _ => []
  | .is i, _ => canon w.n fun k => decide (k ∈ w.marks.getD i [])
  | .isnt i, _ => canon w.n fun k => !decide (k ∈ w.marks.getD i [])
  | .name x, ρ => ρ x
  | .both a b, ρ => canon w.n fun k => decide (k ∈ sem w a ρ) && decide (k ∈ sem w b ρ)
  | .either a b, ρ => canon w.n fun k => decide (k ∈ sem w a ρ) || decide (k ∈ sem w b ρ)
  | .some j a, ρ => canon w.n fun k => (w.way j k).any fun g => decide (g ∈ sem w a ρ)
  | .all j a, ρ => canon w.n fun k => (w.way j k).all fun g => decide (g ∈ sem w a ρ)
  | .least x a, ρ => it (fun X => sem w a (up ρ x X)) w.n []
  | .greatest x a, ρ => it (fun X => sem w a (up ρ x X)) w.n (List.range w.n)
theorem it_ok {n : Nat} {f : List Nat → List Nat} (hf : ∀ X, OkSub n X → OkSub n (f X)) {x : List Nat} (hx : OkSub n x) : ∀ t, OkSub n (it f t x)
  | 0 => hx
  | t + 1 => hf _ (it_ok hf hx t)
theorem sem_ok (w : Wd) : ∀ (f : Fm) (ρ : Env), EnvOk w.n ρ → OkSub w.n (sem w f ρ)
  | .yes, _, _ => range_ok _
  | .no, _, _ => nil_ok _
  | .is _, _, _ => canon_ok _ _
  | .isnt _, _, _ => canon_ok _ _
  | .name x, _, h => h x
  | .both _ _, _, _ => canon_ok _ _
  | .either _ _, _, _ => canon_ok _ _
  | .some _ _, _, _ => canon_ok _ _
  | .all _ _, _, _ => canon_ok _ _
  | .least x a, ρ, h => it_ok (fun X hX => sem_ok w a _ (h.up hX x)) (nil_ok _) _
  | .greatest x a, ρ, h => it_ok (fun X hX => sem_ok w a _ (h.up hX x)) (range_ok _) _
theorem it_mono {f g : List Nat → List Nat} (h : ∀ X Y, Sub X Y → Sub (f X) (g Y)) {x y : List Nat} (hx : Sub x y) : ∀ t, Sub (it f t x) (it g t y)
  | 0 => hx
  | t + 1 => h _ _ (it_mono h hx t)
theorem up_mono {ρ ρ' : Env} (h : ∀ x, Sub (ρ x) (ρ' x)) {X Y : List Nat} (hX : Sub X Y) (x y : Nat) : Sub (up ρ x X y) (up ρ' x Y y) := by
  unfold up; split
  · exact hX
  · exact h y
theorem sem_mono (w : Wd) : ∀ (f : Fm) (ρ ρ' : Env), (∀ x, Sub (ρ x) (ρ' x)) → Sub (sem w f ρ) (sem w f ρ')
  | .yes, _, _, _ => fun _ h => h
  | .no, _, _, _ => fun _ h => h
  | .is _, _, _, _ => fun _ h => h
  | .isnt _, _, _, _ => fun _ h => h
  | .name x, _, _, h => h x
  | .both a b, ρ, ρ', h => fun k hk => by
    have ha := sem_mono w a ρ ρ' h k
    have hb := sem_mono w b ρ ρ' h k
    simp only [sem, mem_canon, Bool.and_eq_true, decide_eq_true_eq] at hk ⊢
    exact ⟨hk.1, ha hk.2.1, hb hk.2.2⟩
  | .either a b, ρ, ρ', h => fun k hk => by
    have ha := sem_mono w a ρ ρ' h k
    have hb := sem_mono w b ρ ρ' h k
    simp only [sem, mem_canon, Bool.or_eq_true, decide_eq_true_eq] at hk ⊢
    exact ⟨hk.1, hk.2.imp ha hb⟩
  | .some j a, ρ, ρ', h => fun k hk => by
    have ha := sem_mono w a ρ ρ' h
    simp only [sem, mem_canon, List.any_eq_true, decide_eq_true_eq] at hk ⊢
    obtain ⟨h1, g, h2, h3⟩ := hk
    exact ⟨h1, g, h2, ha g h3⟩
  | .all j a, ρ, ρ', h => fun k hk => by
    have ha := sem_mono w a ρ ρ' h
    simp only [sem, mem_canon, List.all_eq_true, decide_eq_true_eq] at hk ⊢
    exact ⟨hk.1, fun g hg => ha g (hk.2 g hg)⟩
  | .least x a, ρ, ρ', h => it_mono (fun X Y hX => sem_mono w a _ _ (up_mono h hX x)) (fun _ h => h) _
  | .greatest x a, ρ, ρ', h => it_mono (fun X Y hX => sem_mono w a _ _ (up_mono h hX x)) (fun _ h => h) _
/-- one round of a fixed point -/
def rnd (w : Wd) (a : Fm) (ρ : Env) (x : Nat) (X : List Nat) : List Nat := sem w a (up ρ x X)
theorem rnd_mono (w : Wd) (a : Fm) (ρ : Env) (x : Nat) {X Y : List Nat} (h : Sub X Y) : Sub (rnd w a ρ x X) (rnd w a ρ x Y) := sem_mono w a _ _ (up_mono (fun _ _ h => h) h x)
theorem rnd_ok {w : Wd} {a : Fm} {ρ : Env} (hρ : EnvOk w.n ρ) (x : Nat) {X : List Nat} (h : OkSub w.n X) : OkSub w.n (rnd w a ρ x X) := sem_ok w a _ (hρ.up h x)
theorem Sub.len {n : Nat} {xs ys : List Nat} (hx : OkSub n xs) (h : Sub xs ys) : xs.length ≤ ys.length := SD.subset_len hx.nodup h
theorem Sub.eq {n : Nat} {xs ys : List Nat} (hx : OkSub n xs) (hy : OkSub n ys) (h : Sub xs ys) (l : ys.length ≤ xs.length) : xs = ys :=
  hx.ext hy fun j => ⟨h j, SD.subset_back hx.nodup h (Nat.le_antisymm (h.len hx) l) j⟩
section
variable {n : Nat} {f : List Nat → List Nat}
theorem it_up (hm : ∀ X Y, Sub X Y → Sub (f X) (f Y)) (t : Nat) : Sub (it f t []) (it f (t + 1) []) := by
  induction t with
  | zero => exact fun k hk => by cases hk
  | succ t ih => exact hm _ _ ih
theorem it_down (hm : ∀ X Y, Sub X Y → Sub (f X) (f Y)) (ho : ∀ X, OkSub n X → OkSub n (f X)) (t : Nat) : Sub (it f (t + 1) (List.range n)) (it f t (List.range n)) := by
  induction t with
  | zero => exact fun k hk => List.mem_range.mpr ((ho _ (range_ok n)).2 k hk)
  | succ t ih => exact hm _ _ ih
theorem up_rest (hm : ∀ X Y, Sub X Y → Sub (f X) (f Y)) (ho : ∀ X, OkSub n X → OkSub n (f X)) : it f (n + 1) [] = it f n [] := by
  refine it_rest List.length (fun t => (it_ok ho (nil_ok n) t).le) fun t h => ?_
  have a := it_ok ho (nil_ok n) t
  have b := it_ok ho (nil_ok n) (t + 1)
  have s := it_up hm t
  rcases Nat.lt_or_ge (it f t []).length (it f (t + 1) []).length with q | q
  · exact q
  · exact absurd (s.eq a b q).symm h
theorem down_rest (hm : ∀ X Y, Sub X Y → Sub (f X) (f Y)) (ho : ∀ X, OkSub n X → OkSub n (f X)) : it f (n + 1) (List.range n) = it f n (List.range n) := by
  refine it_rest (fun X => n - X.length) (fun t => Nat.sub_le _ _) fun t h => ?_
  have a := it_ok ho (range_ok n) t
  have b := it_ok ho (range_ok n) (t + 1)
  have s := it_down hm ho t
  have := a.le
  rcases Nat.lt_or_ge (it f (t + 1) (List.range n)).length (it f t (List.range n)).length with q | q
  · omega
  · exact absurd (s.eq b a q) h
/-- the least is below all that the round makes no greater -/
theorem it_least (hm : ∀ X Y, Sub X Y → Sub (f X) (f Y)) {X : List Nat} (h : Sub (f X) X) (t : Nat) : Sub (it f t []) X := by
  induction t with
  | zero => exact fun k hk => by cases hk
  | succ t ih => exact fun k hk => h k (hm _ _ ih k hk)
theorem it_great (hm : ∀ X Y, Sub X Y → Sub (f X) (f Y)) {X : List Nat} (hX : OkSub n X) (h : Sub X (f X)) (t : Nat) : Sub X (it f t (List.range n)) := by
  induction t with
  | zero => exact fun k hk => List.mem_range.mpr (hX.2 k hk)
  | succ t ih => exact fun k hk => hm _ _ ih k (h k hk)
end
/-- all names of a saying are in sc -/
def Sc (L0 L1 : Nat) : List Nat → Fm → Prop
  | _, .yes => True
  | _, .no => True
  | _, .is i => i < L0
  | _, .isnt i => i < L0
  | sc, .name x => x ∈ sc
  | sc, .both a b => Sc L0 L1 sc a ∧ Sc L0 L1 sc b
  | sc, .either a b => Sc L0 L1 sc a ∧ Sc L0 L1 sc b
  | sc, .some j a => j < L1 ∧ Sc L0 L1 sc a
  | sc, .all j a => j < L1 ∧ Sc L0 L1 sc a
  | sc, .least x a => Sc L0 L1 (x :: sc) a
  | sc, .greatest x a => Sc L0 L1 (x :: sc) a
theorem OkF.sc {L0 L1 : Nat} : ∀ (f : Fm) (kn fr sc : List Nat), OkF L0 L1 kn fr f → (∀ x ∈ kn, x ∈ sc) → (∀ x ∈ fr, x ∈ sc) → Sc L0 L1 sc f
  | .yes, _, _, _, _, _, _ => trivial
  | .no, _, _, _, _, _, _ => trivial
  | .is _, _, _, _, h, _, _ => h
  | .isnt _, _, _, _, h, _, _ => h
  | .name x, _, _, _, h, _, h2 => h2 x h
  | .both a b, kn, fr, sc, h, h1, h2 => ⟨OkF.sc a kn fr sc h.1 h1 h2, OkF.sc b kn fr sc h.2 h1 h2⟩
  | .either a b, kn, fr, sc, h, h1, h2 => ⟨OkF.sc a kn fr sc h.1 h1 h2, OkF.sc b kn fr sc h.2 h1 h2⟩
  | .some j a, kn, fr, sc, h, h1, h2 => ⟨h.1, OkF.sc a kn kn sc h.2 h1 h1⟩
  | .all j a, kn, fr, sc, h, h1, h2 => ⟨h.1, OkF.sc a kn kn sc h.2 h1 h1⟩
  | .least x a, kn, fr, sc, h, h1, h2 => OkF.sc a (kn ++ [x]) fr (x :: sc) h (fun y hy => by
      rw [List.mem_append, List.mem_singleton] at hy
      exact hy.elim (fun q => List.mem_cons_of_mem _ (h1 y q)) fun q => q ▸ List.mem_cons_self) fun y hy => List.mem_cons_of_mem _ (h2 y hy)
  | .greatest x a, kn, fr, sc, h, h1, h2 => OkF.sc a (kn ++ [x]) fr (x :: sc) h (fun y hy => by
      rw [List.mem_append, List.mem_singleton] at hy
      exact hy.elim (fun q => List.mem_cons_of_mem _ (h1 y q)) fun q => q ▸ List.mem_cons_self) fun y hy => List.mem_cons_of_mem _ (h2 y hy)
end PG
/-! SP5: found_places computes what a saying says. -/
namespace PG
open PySem L2 SD
theorem enc_at {xs : List Nat} {k : Nat} (h : k < xs.length) : atI (xs.map fun k : Nat => D.int (k : Nat)) (k : Int) = some (.int (xs[k] : Nat)) := by
  rw [atI_n, List.getElem?_map, List.getElem?_eq_getElem h]; rfl
theorem mark_at {L0 L1 : Nat} {w : Wd} (h : OkW L0 L1 w) {i : Nat} (hi : i < L0) : atI (w.marks.map encP) (i : Int) = some (encP (w.marks.getD i [])) ∧ OkSub w.n (w.marks.getD i []) := by
  have hl : i < w.marks.length := by rw [h.marks]; exact hi
  refine ⟨?_, ?_⟩
  · rw [atI_n, List.getElem?_map, List.getElem?_eq_getElem hl, List.getD_eq_getElem?_getD, List.getElem?_eq_getElem hl]; rfl
  · rw [List.getD_eq_getElem?_getD, List.getElem?_eq_getElem hl]; exact h.mark _ (List.getElem_mem hl)
theorem way_at {L0 L1 : Nat} {w : Wd} (h : OkW L0 L1 w) {j : Nat} (hj : j < L1) : ∃ r, atI (w.ways.map encR) (j : Int) = some (encR r) ∧ r.length = w.n ∧ ∀ k, k < w.n → atI (r.map encP) (k : Int) = some (encP (w.way j k)) ∧ OkSub w.n (w.way j k) := by
  have hl : j < w.ways.length := by rw [h.ways]; exact hj
  refine ⟨w.ways[j], ?_, h.rows _ (List.getElem_mem hl), fun k hk => ?_⟩
  · rw [atI_n, List.getElem?_map, List.getElem?_eq_getElem hl]; rfl
  · have hk' : k < w.ways[j].length := by rw [h.rows _ (List.getElem_mem hl)]; exact hk
    have e : w.way j k = w.ways[j][k] := by
      unfold Wd.way
      rw [List.getD_eq_getElem?_getD, List.getD_eq_getElem?_getD, List.getElem?_eq_getElem hl]
      show (w.ways[j][k]?).getD [] = _
      rw [List.getElem?_eq_getElem hk']; rfl
    rw [e, atI_n, List.getElem?_map, List.getElem?_eq_getElem hk']
    exact ⟨rfl, h.row _ (List.getElem_mem hl) _ (List.getElem_mem hk')⟩
theorem flat_nat (xs : List Nat) : (xs.map fun k : Nat => D.int (k : Nat)).all flatD = true := by
  rw [List.all_eq_true]
  intro x hx
  obtain ⟨k, _, rfl⟩ := List.mem_map.mp hx
  rfl
theorem mem_nat {xs : List Nat} {k : Nat} : decide (D.int (k : Nat) ∈ xs.map fun k : Nat => D.int (k : Nat)) = decide (k ∈ xs) := by
  rw [decide_eq_decide, List.mem_map]
  constructor
  · rintro ⟨j, hj, e⟩
    have : j = k := by injection e with e; omega
    exact this ▸ hj
  · exact fun h => ⟨k, h, rfl⟩
theorem dict_ext {S S' : Store} (e : Ext S S') {r : Nat} {kvs : List (D × D)} (h : dictD S (.ref r) = some kvs) : dictD S' (.ref r) = some kvs := by
  show dicC S'[r]? = _
  rcases dicC_or h with a | a <;> rw [e _ _ a] <;> rfl
/-- a set in the store -/
theorem setD_in {S : Store} {n : Nat} {ks : List Nat} (e : S[n]? = some (.dct (setD ks))) : dictD S (.ref n) = some (setD ks) := by
  show dicC S[n]? = _
  rw [e]; rfl
theorem leads_spec {gs ks : List Nat} {n : Nat} {b : Bool} {S : Store} {Q : PD} (hg : gs.length ≤ 100000) (e : S[n]? = some (.dct (setD ks))) (h : ∀ S', Ext S S' → Q (.bl (if b = true then gs.any fun g => decide (g ∈ ks) else gs.all fun g => decide (g ∈ ks))) S') :
    F_leads [encP gs, .ref n, .bl b] S Q := by
  refine r_fn rfl ?_
  unfold b_leads
  have lc : ∀ (R : Store → Prop), (∀ S', Ext S S' → S'[S.length]? = some (.lst (gs.map fun g => .bl (decide (g ∈ ks)))) → R S') → (gs.map fun k : Nat => D.int (k : Nat)).length ≤ sizeLine →
      lcD Always (gNm 3) tYesD (eOp (inF false) (eVar 3) (eVar 1)) S.length R [some (encP gs), some (.ref n), some (.bl b), none] (gs.map fun k : Nat => D.int (k : Nat)) (S ++ [.lst []]) := fun R hR few => by
    refine lc_map (fun x => match x with | .int i => .bl (decide (i.toNat ∈ ks)) | _ => .non) few (fun _ _ => trivial) ?_ ?_
    · intro x hx S1 P e1 hP
      obtain ⟨g, hg, rfl⟩ := List.mem_map.mp hx
      walk_at "s"
      refine r_inD (setD_in (e1 _ _ e)) rfl ?_
      rw [Bool.xor_false, setD_val]
      exact hP S1 (.refl _)
    · intro S1 e1 h1
      rw [List.map_map] at h1
      refine hR S1 e1 ?_
      exact h1
  walk_at "s"
  refine ite_b (fun hb => ?_) (fun hb => ?_)
  · subst hb
    walk_at "s"
    refine r_iTup ?_
    walk_at "s"
    refine ⟨_, rfl, ?_⟩
    intro few
    refine lc _ (fun S' e1 h1 => ?_) few
    walk_at "s"
    refine ⟨gs.map fun g => decide (g ∈ ks), by show seqC S'[S.length]? = _; rw [h1, List.map_map]; rfl, ⟨_, rfl⟩, ?_⟩
    have := h S' e1
    rw [if_pos rfl] at this
    rw [show (gs.any fun g => decide (g ∈ ks)) = (gs.map fun g => decide (g ∈ ks)).any id by rw [List.any_map]; rfl] at this
    exact this
  · subst hb
    walk_at "s"
    refine r_iTup ?_
    walk_at "s"
    refine ⟨_, rfl, ?_⟩
    intro few
    refine lc _ (fun S' e1 h1 => ?_) few
    walk_at "s"
    refine ⟨gs.map fun g => decide (g ∈ ks), by show seqC S'[S.length]? = _; rw [h1, List.map_map]; rfl, ⟨_, rfl⟩, ?_⟩
    have := h S' e1
    rw [if_neg (by decide)] at this
    rw [show (gs.all fun g => decide (g ∈ ks)) = (gs.map fun g => decide (g ∈ ks)).all id by rw [List.all_map]; rfl] at this
    exact this
/-- the names' places in a dict -/
def Names (kvs : List (D × D)) (sc : List Nat) (ρ : Env) : Prop := ∀ x ∈ sc, valD kvs (.int (x : Nat)) = some (encP (ρ x))
/-- the wish for a set -/
def Wish (S : Store) (X : List Nat) (Q : PD) : Prop := ∀ S' r ks, Ext S S' → S.length ≤ r → S'[r]? = some (.dct (setD ks)) → ks.Nodup → (∀ j, j ∈ ks ↔ j ∈ X) → Q (.ref r) S'
theorem ext_set2 {S S1 : Store} {n : Nat} {c : Cell} (e : Ext S S1) (h : S.length ≤ n) : Ext S (S1.set n c) := e.put h
theorem it_end {α : Type} {g : α → α} {x : α} {t n : Nat} (h : it g (t + 1) x = it g t x) (hr : it g (n + 1) x = it g n x) : it g n x = it g t x := by
  rcases Nat.le_total t n with q | q
  · exact it_at h n q
  · exact (it_at hr t q).symm
theorem fix_loop {n : Nat} {g : List Nat → List Nat} {X0 : List Nat} (ho : ∀ X, OkSub n X → OkSub n (g X)) (h0 : OkSub n X0) (hr : it g (n + 1) X0 = it g n X0) {F : FnD} {dw da dpl ds : D} {df : D} {x : Nat} (hdf : df = .tup [ds, .int (x : Nat), da])
    {kvs0 : List (D × D)} (KV : List (D × D) → Prop) (hK0 : KV kvs0) (hKp : ∀ kv X, KV kv → KV (putD kv (.int (x : Nat)) (encP X))) (hKl : ∀ kv, KV kv → kv.length < 10000)
    (hF : ∀ S kn kv X Q, OkSub n X → S[kn]? = some (.dct kv) → KV kv → valD kv (.int (x : Nat)) = some (encP X) → Wish S (g X) Q → F [dw, da, .ref kn] S Q)
    {S0 S : Store} {kn rn : Nat} {ks : List Nat} (e0 : Ext S0 S) (l1 : S0.length ≤ kn) (hk : S[kn]? = some (.dct kvs0)) (l2 : S0.length ≤ rn) (hr0 : S[rn]? = some (.dct (setD ks))) (ne : rn ≠ kn) (nd : ks.Nodup) (hks : ∀ j, j ∈ ks ↔ j ∈ X0) {Q : PD} (hQ : Wish S0 (it g n X0) Q) {E : EndsD} (hE : E.rt = Q) :
    sSeq (sWhile (tVal (eOp (eqF true) (eVar 8) (eVar 9))) (sSeq (sAsg (eVar 8) (gNm 9))
  (sSeq (sAsg (eCB tupleF (aCons (eCB sortedF (aCons (eCB listF (aCons (eVar 8) aNil)) aNil)) aNil)) (gSubD (eVar 7) (eOp ixF (eVar 1) (eC (.int 1)))))
  (sAsg (eCall F (aCons (eVar 0) (aCons (eOp ixF (eVar 1) (eC (.int 2))) (aCons (eVar 7) aNil)))) (gNm 8)))))
  (sRet (eVar 8)) E [some dw, some df, some dpl, some ds, none, none, none, some (.ref kn), some (.ref rn), some .non, none] S := by
  subst hdf hE
  refine r_seq ?_
  have key : ∀ σ S', (∃ rn ks b t, σ = [some dw, some (.tup [ds, .int (x : Nat), da]), some dpl, some ds, none, none, none, some (.ref kn), some (.ref rn), some b, none] ∧ Ext S0 S' ∧ S0.length ≤ rn ∧ S'[rn]? = some (.dct (setD ks)) ∧ ks.Nodup ∧ (∀ j, j ∈ ks ↔ j ∈ it g t X0) ∧ it g n X0 = it g t X0) → sRet (eVar 8) E σ S' := by
    rintro σ S' ⟨rn, ks, b, t, rfl, e1, l3, h1, h2, h3, h4⟩
    walk_at "s"
    refine hQ _ _ ks e1 l3 h1 h2 ?_
    rw [h4]; exact h3
  refine while_inv (fun k σ S' => ∃ t rn ks b kv, t + k = n + 2 ∧ σ = [some dw, some (.tup [ds, .int (x : Nat), da]), some dpl, some ds, none, none, none, some (.ref kn), some (.ref rn), some b, none] ∧ Ext S0 S' ∧ S0.length ≤ rn ∧ S'[rn]? = some (.dct (setD ks)) ∧ rn ≠ kn ∧ ks.Nodup ∧ (∀ j, j ∈ ks ↔ j ∈ it g t X0) ∧
    S'[kn]? = some (.dct kv) ∧ KV kv ∧ ((t = 0 ∧ b = .non) ∨ ∃ t' rb kb, t = t' + 1 ∧ b = .ref rb ∧ S'[rb]? = some (.dct (setD kb)) ∧ kb.Nodup ∧ ∀ j, j ∈ kb ↔ j ∈ it g t' X0)) (n + 2) ⟨0, rn, ks, .non, kvs0, by omega, rfl, e0, l2, hr0, ne, nd, hks, hk, hK0, .inl ⟨rfl, rfl⟩⟩ ?_
  rintro k σ S1 R ⟨t, rn, ks, b, kv, htk, rfl, e1, l3, h1, ne1, n1, i1, hk1, hkv, hb⟩ hR
  have body : 0 < k → (sSeq (sAsg (eVar 8) (gNm 9))
  (sSeq (sAsg (eCB tupleF (aCons (eCB sortedF (aCons (eCB listF (aCons (eVar 8) aNil)) aNil)) aNil)) (gSubD (eVar 7) (eOp ixF (eVar 1) (eC (.int 1)))))
  (sAsg (eCall F (aCons (eVar 0) (aCons (eOp ixF (eVar 1) (eC (.int 2))) (aCons (eVar 7) aNil)))) (gNm 8)))) { nx := R, rt := E.rt, bk := sRet (eVar 8) E, ct := R } [some dw, some (.tup [ds, .int (x : Nat), da]), some dpl, some ds, none, none, none, some (.ref kn), some (.ref rn), some b, none] S1 := by
    intro hk0
    walk_at "s"
    refine r_listD h1 ?_
    rw [setD_keys]
    walk_at "s"
    refine r_sorted (by show seqC (S1 ++ _)[S1.length]? = _; rw [new_at]; rfl) n1 fun ls s1 s2 => ?_
    have xe : ls = it g t X0 := by
      refine sub_ext (n := n) s1 (it_ok ho h0 t).1 fun j => ?_
      rw [s2, i1]
    subst xe
    walk_at "s"
    refine r_tuple (by show seqC ((S1 ++ _) ++ _)[(S1 ++ _).length]? = _; rw [new_at]; rfl) ?_
    walk_at "s"
    have e2 : Ext S1 ((S1 ++ [Cell.lst (ks.map fun k : Nat => D.int (k : Nat))]) ++ [Cell.lst ((it g t X0).map fun k : Nat => D.int (k : Nat))]) := (Ext.app _ _).trans (Ext.app _ _)
    refine r_setD1 (e2 _ _ hk1) rfl (by have := hKl kv hkv; simp [sizeLine]; omega) fun S2 q2 o2 => ?_
    walk_at "s"
    refine hF S2 kn _ (it g t X0) _ (it_ok ho h0 t) q2 (hKp kv _ hkv) (putD_self _ _ _) ?_
    intro S3 r3 k3 e3 l4 h3 n3 i3
    walk_at "s"
    have e4 : Ext S0 S2 := fun i c hi => by
      have : i < S0.length := (List.getElem?_eq_some_iff.mp hi).1
      rw [o2.off i (by omega)]
      exact e2 _ _ (e1 _ _ hi)
    have l5 : S1.length ≤ S2.length := by rw [o2.len]; exact e2.le
    have hkl : kn < S1.length := (List.getElem?_eq_some_iff.mp hk1).1
    have hrl : rn < S1.length := (List.getElem?_eq_some_iff.mp h1).1
    refine hR (k - 1) _ _ (by omega) ⟨t + 1, r3, k3, .ref rn, _, by omega, rfl, e4.trans e3, Nat.le_trans e4.le l4, h3, by omega, n3, i3, e3 _ _ q2, hKp kv _ hkv, .inr ⟨t, rn, ks, rfl, rfl, e3 _ _ ?_, n1, i1⟩⟩
    rw [o2.off rn ne1]
    exact e2 _ _ h1
  walk_at "s"
  rcases hb with ⟨rfl, rfl⟩ | ⟨t', rb, kb, rfl, rfl, h2, n2, i2⟩
  · refine r_neDN h1 ?_
    exact r_bl (r_ifT rfl (body (by omega)))
  · refine r_neDD h1 h2 (.inl fun p hp => ?_) ?_
    · rw [List.mem_append] at hp
      exact hp.elim (setD_hom _ p) (setD_hom _ p)
    walk_at "s"
    have same : sameD (setD ks) (setD kb) = true ↔ it g (t' + 1) X0 = it g t' X0 := by
      rw [setD_same n1 n2]
      constructor
      · intro h
        exact (it_ok ho h0 _).ext (it_ok ho h0 _) fun j => by rw [← i1, ← i2]; exact h j
      · intro h j
        rw [i1, i2, h]
    refine ite_b (fun hb => ?_) (fun hb => ?_)
    · refine body ?_
      by_cases hk : k = 0
      · subst hk
        have e1 := it_at hr (t' + 1) (by omega)
        have e2 := it_at hr t' (by omega)
        have := same.mpr (e1.trans e2.symm)
        rw [this] at hb
        cases hb
      · omega
    · have hb : sameD (setD ks) (setD kb) = true := by simpa using hb
      have := same.mp hb
      refine key _ _ ⟨rn, ks, _, t' + 1, rfl, e1, l3, h1, n1, i1, ?_⟩
      rw [it_end this hr, this]
theorem found_spec {L0 L1 : Nat} {w : Wd} (hw : OkW L0 L1 w) (hn : w.n ≤ 1000) : ∀ (k : Nat) (f : Fm) (sc : List Nat) (ρ : Env) (S : Store) (pl : Nat) (kvs : List (D × D)) (Q : PD), f.dp ≤ k → Sc L0 L1 sc f → EnvOk w.n ρ → dictD S (.ref pl) = some kvs → kvs.length + k ≤ 1000 → Names kvs sc ρ →
    Wish S (sem w f ρ) Q → F_found_places k [encW w, encF f, .ref pl] S Q
  | 0, f, _, _, _, _, _, _, hd, _, _, _, _, _, _ => by cases f <;> simp [Fm.dp] at hd
  | k + 1, f, sc, ρ, S, pl, kvs, Q, hd, hs, hρ, hpl, hk, hN, hQ => by
    refine r_fn rfl ?_
    unfold b_found_places
    cases f with
    | yes =>
      walk_at "s"
      refine r_rg (by omega) (by omega) fun few => ?_
      rw [rng_map']
      refine dc_set (List.range w.n) (fun _ => true) (by simp [sizeLine]; omega) (fun _ => rfl) (fun _ _ => trivial) (fun x hx S1 P e1 hP => ?_) fun S1 ks e1 h1 h2 h3 => ?_
      · walk_at "s"
        exact hP _ (.refl _)
      · walk_at "s"
        exact hQ S1 _ ks e1 (Nat.le_refl _) h1 h2 fun j => by rw [h3]; simp [sem]
    | no =>
      walk_at "s"
      refine r_rg (by omega) (by omega) fun few => ?_
      rw [rng_map']
      refine dc_set (List.range w.n) (fun _ => false) (by simp [sizeLine]; omega) (fun _ => rfl) (fun _ _ => trivial) (fun x hx S1 P e1 hP => ?_) fun S1 ks e1 h1 h2 h3 => ?_
      · walk_at "s"
        exact hP _ (.refl _)
      · walk_at "s"
        exact hQ S1 _ ks e1 (Nat.le_refl _) h1 h2 fun j => by rw [h3]; simp [sem]
    | is i =>
      obtain ⟨m1, m2⟩ := mark_at hw hs
      walk_at "s"
      refine r_rg (by omega) (by omega) fun few => ?_
      rw [rng_map']
      refine dc_set (List.range w.n) (fun k => decide (k ∈ w.marks.getD i [])) (by simp [sizeLine]; omega) (fun _ => rfl) (fun _ _ => trivial) (fun x hx S1 P e1 hP => ?_) fun S1 ks e1 h1 h2 h3 => ?_
      · walk_at "s"
        refine r_ixT m1 ?_
        refine r_inT rfl (flat_nat _) ?_
        rw [mem_nat]
        walk_at "s"
        have := hP S1 (.refl _)
        simpa using this
      · walk_at "s"
        exact hQ S1 _ ks e1 (Nat.le_refl _) h1 h2 fun j => by rw [h3]; simp [sem, mem_canon]
    | isnt i =>
      obtain ⟨m1, m2⟩ := mark_at hw hs
      walk_at "s"
      refine r_rg (by omega) (by omega) fun few => ?_
      rw [rng_map']
      refine dc_set (List.range w.n) (fun k => !decide (k ∈ w.marks.getD i [])) (by simp [sizeLine]; omega) (fun _ => rfl) (fun _ _ => trivial) (fun x hx S1 P e1 hP => ?_) fun S1 ks e1 h1 h2 h3 => ?_
      · walk_at "s"
        refine r_ixT m1 ?_
        refine r_inT rfl (flat_nat _) ?_
        rw [mem_nat]
        walk_at "s"
        have := hP S1 (.refl _)
        simpa [show (Str.ofString "isnt" = Str.ofString "is") = False from by simp; decide] using this
      · walk_at "s"
        exact hQ S1 _ ks e1 (Nat.le_refl _) h1 h2 fun j => by rw [h3]; simp [sem, mem_canon]
    | name x =>
      have hx := (hρ x).le
      walk_at "s"
      refine r_iTup ?_
      walk_at "s"
      refine r_ixD hpl rfl (hN x hs) ?_
      refine ⟨_, rfl, ?_⟩
      intro few
      refine dc_set (ρ x) (fun _ => true) (by simp [sizeLine]; omega) (fun _ => rfl) (fun _ _ => trivial) (fun x hx S1 P e1 hP => ?_) fun S1 ks e1 h1 h2 h3 => ?_
      · walk_at "s"
        exact hP _ (.refl _)
      · walk_at "s"
        exact hQ S1 _ ks e1 (Nat.le_refl _) h1 h2 fun j => by rw [h3]; simp [sem]
    | both a b =>
      have hd' : max a.dp b.dp + 1 ≤ k + 1 := hd
      walk_at "s"
      refine found_spec hw hn k a sc ρ S pl kvs _ (by omega) hs.1 hρ hpl (by omega) hN fun S1 r1 k1 e1 l1 h1 n1 i1 => ?_
      walk_at "s"
      refine found_spec hw hn k b sc ρ S1 pl kvs _ (by omega) hs.2 hρ (dict_ext e1 hpl) (by omega) hN fun S2 r2 k2 e2 l2 h2 n2 i2 => ?_
      walk_at "s"
      have h1' := e2 _ _ h1
      have ne : r1 ≠ r2 := fun e => by
        have := (List.getElem?_eq_some_iff.mp h1).1
        omega
      refine ⟨r1, _, rfl, h1', ?_⟩
      have sub1 : ∀ j ∈ k1, j < w.n := fun j hj => (sem_ok w a ρ hρ).2 j ((i1 j).mp hj)
      have hk1 : k1.length ≤ w.n := by
        have := subset_len (ls := List.range w.n) n1 fun j hj => List.mem_range.mpr (sub1 j hj)
        simpa using this
      refine ⟨r1, _, rfl, set_at h1', ?_⟩
      rw [setD_keys]
      intro few
      refine dc_set k1 (fun j => decide (j ∈ k2)) (by simp [sizeLine]; omega) (fun _ => rfl) (fun S3 e3 => e3 _ _ (set_at h1')) (fun x hx S3 P e3 hP => ?_) fun S3 ks e3 h3 n3 i3 => ?_
      · walk_at "s"
        have q : S3[r2]? = some (.dct (setD k2)) := e3 _ _ ((set_off ne).trans h2)
        refine r_inD (setD_in q) rfl ?_
        rw [Bool.xor_false, setD_val]
        walk_at "s"
        exact hP _ (.refl _)
      · have l3 : (S2.set r1 (.lck (setD k1))).length = S2.length := List.length_set
        refine ⟨e3 _ _ (set_at h1'), ?_⟩
        walk_at "s"
        have e4 : Ext S (S3.set r1 (.dct (setD k1))) := by
          refine Ext.put (fun i c hi => ?_) l1
          have hi' : i ≠ r1 := fun e => by
            have := (List.getElem?_eq_some_iff.mp hi).1
            omega
          exact e3 _ _ ((set_off (Ne.symm hi')).trans (e2 _ _ (e1 _ _ hi)))
        refine hQ _ _ ks e4 ?_ ?_ n3 fun j => ?_
        · rw [l3]; exact (e1.trans e2).le
        · rw [l3] at h3 ⊢
          have : r1 < S2.length := (List.getElem?_eq_some_iff.mp h1').1
          rw [set_off (by omega)]
          exact h3
        · rw [i3, i1]
          simp only [sem, mem_canon, Bool.and_eq_true, decide_eq_true_eq, i2]
          exact ⟨fun ⟨u, v⟩ => ⟨(sem_ok w a ρ hρ).2 j u, u, v⟩, fun ⟨_, u, v⟩ => ⟨u, v⟩⟩
    | either a b =>
      have hd' : max a.dp b.dp + 1 ≤ k + 1 := hd
      walk_at "s"
      refine found_spec hw hn k a sc ρ S pl kvs _ (by omega) hs.1 hρ hpl (by omega) hN fun S1 r1 k1 e1 l1 h1 n1 i1 => ?_
      walk_at "s"
      refine found_spec hw hn k b sc ρ S1 pl kvs _ (by omega) hs.2 hρ (dict_ext e1 hpl) (by omega) hN fun S2 r2 k2 e2 l2 h2 n2 i2 => ?_
      walk_at "s"
      have h1' := e2 _ _ h1
      have ne : r1 ≠ r2 := fun e => by
        have := (List.getElem?_eq_some_iff.mp h1).1
        omega
      refine r_tyDc h2 ?_
      walk_at "s"
      have hk1 : k1.length ≤ w.n := by
        have := subset_len (ls := List.range w.n) n1 fun j hj => List.mem_range.mpr ((sem_ok w a ρ hρ).2 j ((i1 j).mp hj))
        simpa using this
      have hk2 : k2.length ≤ w.n := by
        have := subset_len (ls := List.range w.n) n2 fun j hj => List.mem_range.mpr ((sem_ok w b ρ hρ).2 j ((i2 j).mp hj))
        simpa using this
      obtain ⟨ms, g1, g2, g3⟩ := setD_merge k2 k1
      refine ⟨r2, r1, _, _, rfl, rfl, Ne.symm ne, h2, setD_in h1', by rw [setD_length, setD_length]; simp [sizeLine]; omega, ?_⟩
      rw [g1]
      walk_at "s"
      refine hQ _ _ ms ((e1.trans e2).put (Nat.le_trans e1.le l2)) (Nat.le_trans e1.le l2) (set_at h2) (g2 n2) fun j => ?_
      rw [g3, i1, i2]
      simp only [sem, mem_canon, Bool.or_eq_true, decide_eq_true_eq]
      constructor
      · rintro (u | u)
        · exact ⟨(sem_ok w b ρ hρ).2 j u, .inr u⟩
        · exact ⟨(sem_ok w a ρ hρ).2 j u, .inl u⟩
      · rintro ⟨_, u | u⟩
        · exact .inr u
        · exact .inl u
    | some jj a =>
      obtain ⟨rr, m1, m2, m3⟩ := way_at hw hs.1
      have hd' : a.dp + 1 ≤ k + 1 := hd
      walk_at "s"
      refine found_spec hw hn k a sc ρ S pl kvs _ (by omega) hs.2 hρ hpl (by omega) hN fun S1 r1 k1 e1 l1 h1 n1 i1 => ?_
      walk_at "s"
      refine r_rg (by omega) (by omega) fun few => ?_
      rw [rng_map']
      refine dc_set (List.range w.n) (fun k => (w.way jj k).any fun g => decide (g ∈ sem w a ρ)) (by simp [sizeLine]; omega) (fun _ => rfl) (fun _ _ => trivial) (fun x hx S2 P e2 hP => ?_) fun S2 ks e2 h2 n2 i2 => ?_
      · have hx := List.mem_range.mp hx
        obtain ⟨m4, m5⟩ := m3 x hx
        walk_at "s"
        refine r_ixT m1 ?_
        walk_at "s"
        refine r_ixT m4 ?_
        walk_at "s"
        refine leads_spec (by have := m5.le; omega) (e2 _ _ h1) fun S3 e3 => ?_
        walk_at "s"
        have := hP S3 e3
        have q : (w.way jj x).any (fun g => decide (g ∈ k1)) = (w.way jj x).any fun g => decide (g ∈ sem w a ρ) := by
          congr 1
          funext g
          rw [decide_eq_decide]
          exact i1 g
        rw [if_pos (by decide)]
        rw [q]
        exact this
      · walk_at "s"
        refine hQ _ _ ks (e1.trans e2) e1.le h2 n2 fun j => ?_
        rw [i2]
        simp only [sem, mem_canon, List.mem_range]
    | all jj a =>
      obtain ⟨rr, m1, m2, m3⟩ := way_at hw hs.1
      have hd' : a.dp + 1 ≤ k + 1 := hd
      walk_at "s"
      refine found_spec hw hn k a sc ρ S pl kvs _ (by omega) hs.2 hρ hpl (by omega) hN fun S1 r1 k1 e1 l1 h1 n1 i1 => ?_
      walk_at "s"
      refine r_rg (by omega) (by omega) fun few => ?_
      rw [rng_map']
      refine dc_set (List.range w.n) (fun k => (w.way jj k).all fun g => decide (g ∈ sem w a ρ)) (by simp [sizeLine]; omega) (fun _ => rfl) (fun _ _ => trivial) (fun x hx S2 P e2 hP => ?_) fun S2 ks e2 h2 n2 i2 => ?_
      · have hx := List.mem_range.mp hx
        obtain ⟨m4, m5⟩ := m3 x hx
        walk_at "s"
        refine r_ixT m1 ?_
        walk_at "s"
        refine r_ixT m4 ?_
        walk_at "s"
        refine leads_spec (by have := m5.le; omega) (e2 _ _ h1) fun S3 e3 => ?_
        walk_at "s"
        have := hP S3 e3
        have q : (w.way jj x).all (fun g => decide (g ∈ k1)) = (w.way jj x).all fun g => decide (g ∈ sem w a ρ) := by
          congr 1
          funext g
          rw [decide_eq_decide]
          exact i1 g
        rw [if_neg (by decide)]
        rw [q]
        exact this
      · walk_at "s"
        refine hQ _ _ ks (e1.trans e2) e1.le h2 n2 fun j => ?_
        rw [i2]
        simp only [sem, mem_canon, List.mem_range]
    | least x a =>
      have hd' : a.dp + 1 ≤ k + 1 := hd
      have hm : ∀ X Y, Sub X Y → Sub (sem w a (up ρ x X)) (sem w a (up ρ x Y)) := fun X Y h => rnd_mono w a ρ x h
      have ho : ∀ X, OkSub w.n X → OkSub w.n (sem w a (up ρ x X)) := fun X h => rnd_ok hρ x h
      have hF : ∀ S kn kv X Q, OkSub w.n X → S[kn]? = some (.dct kv) → ((∀ y ∈ sc, y ≠ x → valD kv (.int (y : Nat)) = some (encP (ρ y))) ∧ (kv.length ≤ kvs.length ∨ ((valD kv (.int (x : Nat))).isSome = true ∧ kv.length ≤ kvs.length + 1))) → valD kv (.int (x : Nat)) = some (encP X) → Wish S (sem w a (up ρ x X)) Q → F_found_places k [encW w, encF a, .ref kn] S Q := fun S kn kv X Q h1 h2 h3 h4 h5 => by
        refine found_spec hw hn k a (x :: sc) (up ρ x X) S kn kv Q (by omega) hs (hρ.up h1 x) (by show dicC S[kn]? = _; rw [h2]; rfl) (by have := h3.2; omega) ?_ h5
        intro y hy
        by_cases e : y = x
        · subst e; rw [up_self]; exact h4
        · rw [up_ne _ _ e]
          rw [List.mem_cons] at hy
          exact h3.1 y (hy.resolve_left e) e
      have hKp : ∀ kv X, ((∀ y ∈ sc, y ≠ x → valD kv (.int (y : Nat)) = some (encP (ρ y))) ∧ (kv.length ≤ kvs.length ∨ ((valD kv (.int (x : Nat))).isSome = true ∧ kv.length ≤ kvs.length + 1))) → ((∀ y ∈ sc, y ≠ x → valD (putD kv (.int (x : Nat)) (encP X)) (.int (y : Nat)) = some (encP (ρ y))) ∧ ((putD kv (.int (x : Nat)) (encP X)).length ≤ kvs.length ∨ ((valD (putD kv (.int (x : Nat)) (encP X)) (.int (x : Nat))).isSome = true ∧ (putD kv (.int (x : Nat)) (encP X)).length ≤ kvs.length + 1))) := fun kv X h => by
        refine ⟨fun y hy e => ?_, .inr ⟨by rw [putD_self]; rfl, ?_⟩⟩
        · rw [putD_ne _ _ (by intro q; injection q with q; omega)]
          exact h.1 y hy e
        · rcases h.2 with q | ⟨q1, q2⟩
          · have := length_putD kv (.int (x : Nat)) (encP X); omega
          · rw [putD_len_in q1]; exact q2
      walk_at "s"
      refine r_dictF hpl ?_
      walk_at "s"
      have hr := up_rest hm ho
      refine fix_loop (ds := .str "least") (x := x) (da := encF a) ho (nil_ok _) hr rfl _ ⟨fun y hy _ => hN y hy, .inl (Nat.le_refl _)⟩ hKp (fun kv h => by have := h.2; omega) hF (e0 := (Ext.app S _).trans (Ext.app _ _)) (Nat.le_refl _) (Ext.app _ _ _ _ (new_at S _)) (by simp) (new_at _ (.dct (setD []))) (by simp) .nil (by simp) hQ rfl
    | greatest x a =>
      have hd' : a.dp + 1 ≤ k + 1 := hd
      have hm : ∀ X Y, Sub X Y → Sub (sem w a (up ρ x X)) (sem w a (up ρ x Y)) := fun X Y h => rnd_mono w a ρ x h
      have ho : ∀ X, OkSub w.n X → OkSub w.n (sem w a (up ρ x X)) := fun X h => rnd_ok hρ x h
      have hF : ∀ S kn kv X Q, OkSub w.n X → S[kn]? = some (.dct kv) → ((∀ y ∈ sc, y ≠ x → valD kv (.int (y : Nat)) = some (encP (ρ y))) ∧ (kv.length ≤ kvs.length ∨ ((valD kv (.int (x : Nat))).isSome = true ∧ kv.length ≤ kvs.length + 1))) → valD kv (.int (x : Nat)) = some (encP X) → Wish S (sem w a (up ρ x X)) Q → F_found_places k [encW w, encF a, .ref kn] S Q := fun S kn kv X Q h1 h2 h3 h4 h5 => by
        refine found_spec hw hn k a (x :: sc) (up ρ x X) S kn kv Q (by omega) hs (hρ.up h1 x) (by show dicC S[kn]? = _; rw [h2]; rfl) (by have := h3.2; omega) ?_ h5
        intro y hy
        by_cases e : y = x
        · subst e; rw [up_self]; exact h4
        · rw [up_ne _ _ e]
          rw [List.mem_cons] at hy
          exact h3.1 y (hy.resolve_left e) e
      have hKp : ∀ kv X, ((∀ y ∈ sc, y ≠ x → valD kv (.int (y : Nat)) = some (encP (ρ y))) ∧ (kv.length ≤ kvs.length ∨ ((valD kv (.int (x : Nat))).isSome = true ∧ kv.length ≤ kvs.length + 1))) → ((∀ y ∈ sc, y ≠ x → valD (putD kv (.int (x : Nat)) (encP X)) (.int (y : Nat)) = some (encP (ρ y))) ∧ ((putD kv (.int (x : Nat)) (encP X)).length ≤ kvs.length ∨ ((valD (putD kv (.int (x : Nat)) (encP X)) (.int (x : Nat))).isSome = true ∧ (putD kv (.int (x : Nat)) (encP X)).length ≤ kvs.length + 1))) := fun kv X h => by
        refine ⟨fun y hy e => ?_, .inr ⟨by rw [putD_self]; rfl, ?_⟩⟩
        · rw [putD_ne _ _ (by intro q; injection q with q; omega)]
          exact h.1 y hy e
        · rcases h.2 with q | ⟨q1, q2⟩
          · have := length_putD kv (.int (x : Nat)) (encP X); omega
          · rw [putD_len_in q1]; exact q2
      walk_at "s"
      refine r_dictF hpl ?_
      walk_at "s"
      refine r_rg (by omega) (by omega) fun few => ?_
      rw [rng_map']
      have hr := down_rest hm ho
      refine dc_set (List.range w.n) (fun _ => true) (by simp [sizeLine]; omega) (fun _ => rfl) (fun _ _ => trivial) (fun x hx S1 P e1 hP => ?_) fun S1 ks e1 h1 h2 h3 => ?_
      · walk_at "s"
        exact hP _ (.refl _)
      · walk_at "s"
        refine fix_loop (ds := .str "greatest") (x := x) (da := encF a) ho (range_ok _) hr rfl _ ⟨fun y hy _ => hN y hy, .inl (Nat.le_refl _)⟩ hKp (fun kv h => by have := h.2; omega) hF (e0 := (Ext.app S _).trans e1) (Nat.le_refl _) (e1 _ _ (new_at S _)) (by simp) h1 (by simp) h2 (fun j => by rw [h3]; simp) hQ rfl
end PG
/-! SP6: worth, places_where, round_places. -/
namespace PG
open PySem L2 SD
theorem worth_spec {L0 L1 : Nat} {w : Wd} (hw : OkW L0 L1 w) (hn : w.n ≤ 1000) {f : Fm} {sc : List Nat} {ρ : Env} {S : Store} {pl : Nat} {kvs : List (D × D)} {Q : PD} (hd : f.dp ≤ 24) (hs : Sc L0 L1 sc f) (hρ : EnvOk w.n ρ) (hpl : dictD S (.ref pl) = some kvs) (hk : kvs.length ≤ 900) (hN : Names kvs sc ρ)
    (hQ : ∀ S', Ext S S' → Q (encP (sem w f ρ)) S') : F_worth [encW w, encF f, .ref pl] S Q := by
  refine r_fn rfl ?_
  unfold b_worth
  walk_at "s"
  refine found_spec hw hn 24 f sc ρ S pl kvs _ hd hs hρ hpl (by omega) hN fun S1 r ks e1 l1 h1 n1 i1 => ?_
  walk_at "s"
  refine r_listD h1 ?_
  rw [setD_keys]
  walk_at "s"
  refine r_sorted (by show seqC (S1 ++ _)[S1.length]? = _; rw [new_at]; rfl) n1 fun ls s1 s2 => ?_
  have xe : ls = sem w f ρ := by
    refine sub_ext (n := w.n) s1 (sem_ok w f ρ hρ).1 fun j => ?_
    rw [s2, i1]
  subst xe
  walk_at "s"
  refine r_tuple (by show seqC ((S1 ++ _) ++ _)[(S1 ++ _).length]? = _; rw [new_at]; rfl) ?_
  walk_at "s"
  exact hQ _ ((e1.trans (Ext.app _ _)).trans (Ext.app _ _))
def ρ0 : Env := fun _ => []
theorem ρ0_ok (n : Nat) : EnvOk n ρ0 := fun _ => nil_ok n
theorem where_spec {L0 L1 : Nat} {w : Wd} (hw : OkW L0 L1 w) (hn : w.n ≤ 1000) {f : Fm} {S : Store} {Q : PD} (hd : f.dp ≤ 24) (hs : Sc L0 L1 [] f) (hQ : ∀ S', Ext S S' → Q (encP (sem w f ρ0)) S') : F_places_where [encW w, encF f] S Q := by
  refine r_fn rfl ?_
  unfold b_places_where
  walk_at "s"
  refine worth_spec hw hn hd hs (ρ0_ok _) (kvs := []) (by show dicC (S ++ _)[S.length]? = _; rw [new_at]; rfl) (by decide) (fun x hx => by cases hx) fun S' e => ?_
  exact hQ S' ((Ext.app _ _).trans e)
/-- {x: places} -/
theorem disp_spec {σ : Slots} {fk fv : FE} {x : Nat} {X : List Nat} {S : Store} {Q : PD} (hk : ∀ S P, P (.int (x : Nat)) S → fk σ S P) (hv : ∀ S1 P, Ext S S1 → P (encP X) S1 → fv σ S1 P)
    (h : ∀ S', Ext S S' → S'[S.length]? = some (.dct [(.int (x : Nat), encP X)]) → Q (.ref S.length) S') : eDispD [(fk, fv)] σ S Q := by
  show fk σ (S ++ [.dct []]) _
  refine hk _ _ ?_
  refine hv _ _ (Ext.app S _) ?_
  show _ ∧ _
  refine ⟨new_at S _, by simp, ?_, ?_⟩
  · intro p hp
    rw [List.mem_singleton] at hp
    subst hp; rfl
  · exact h _ ((Ext.app S _).put (Nat.le_refl _)) (set_at (new_at S _))
theorem one_name (x : Nat) (X : List Nat) : Names [(.int (x : Nat), encP X)] [x] (up ρ0 x X) := fun y hy => by
  rw [List.mem_singleton] at hy
  subst hy
  rw [up_self]
  unfold valD
  rw [List.find?_cons_of_pos (by simp)]; rfl
theorem worth1_spec {L0 L1 : Nat} {w : Wd} (hw : OkW L0 L1 w) (hn : w.n ≤ 1000) {f : Fm} {x : Nat} {X : List Nat} (hX : OkSub w.n X) {S : Store} {pl : Nat} {Q : PD} (hd : f.dp ≤ 24) (hs : Sc L0 L1 [x] f) (hpl : S[pl]? = some (.dct [(.int (x : Nat), encP X)]))
    (hQ : ∀ S', Ext S S' → Q (encP (rnd w f ρ0 x X)) S') : F_worth [encW w, encF f, .ref pl] S Q :=
  worth_spec hw hn hd hs ((ρ0_ok _).up hX x) (by show dicC S[pl]? = _; rw [hpl]; rfl) (by simp) (one_name x X) hQ
theorem depthAll_nats (xs : List Nat) : PyData.depthAll (toPys (xs.map fun k : Nat => D.int (k : Nat))) ≤ 1 := by
  induction xs with
  | nil => simp [toPys, PyData.depthAll]
  | cons x xs ih =>
    simp only [List.map_cons, toPys, toPy, PyData.depthAll, PyData.depth]
    omega
theorem okDs_nats (xs : List Nat) : okDs (xs.map fun k : Nat => D.int (k : Nat)) = true := by
  induction xs with
  | nil => rfl
  | cons x xs ih => rw [List.map_cons, okDs, okD, ih]; rfl
theorem plain_nats (xs : List Nat) : plainD (encP xs) = true := by
  unfold plainD encP
  rw [Bool.and_eq_true, decide_eq_true_eq]
  refine ⟨okDs_nats xs, ?_⟩
  have := depthAll_nats xs
  simp only [toPy, PyData.depth]
  omega
theorem pl_nats {xs : List Nat} (k : Nat) (h : xs.length ≤ 1000000) : Pl (k + 2) (encP xs) := .tup _ _ (by rw [List.length_map]; exact h) fun x hx => by
  obtain ⟨j, _, rfl⟩ := List.mem_map.mp hx
  exact .int _ _
theorem nats_inj : ∀ {xs ys : List Nat}, (xs.map fun k : Nat => D.int (k : Nat)) = (ys.map fun k : Nat => D.int (k : Nat)) → xs = ys
  | [], [], _ => rfl
  | [], _ :: _, h => by simp at h
  | _ :: _, [], h => by simp at h
  | x :: xs, y :: ys, h => by
    rw [List.map_cons, List.map_cons] at h
    injection h with h1 h2
    injection h1 with h1
    rw [nats_inj h2, Int.ofNat.inj h1]
theorem encP_eq {xs ys : List Nat} : decide (encP xs = encP ys) = decide (xs = ys) := by
  rw [decide_eq_decide]
  exact ⟨fun h => by unfold encP at h; injection h with h; exact nats_inj h, fun h => by rw [h]⟩
/-- [x for x in A if x not in B] -/
theorem notin_spec {σ : Slots} {bv iv : Nat} {A B : List Nat} {S : Store} {R : Store → Prop} (hb : ∀ d : D, (σ.set iv (some d))[bv]? = some (some (encP B))) (hi : ∀ d : D, (σ.set iv (some d))[iv]? = some (some d)) (hA : A.length ≤ 100000)
    (h : ∀ S', Ext S S' → S'[S.length]? = some (.lst ((A.filter fun x => !decide (x ∈ B)).map fun k : Nat => .int (k : Nat))) → R S') :
    lcD Always (gNm iv) (tVal (eOp (inF true) (eVar iv) (eVar bv))) (eVar iv) S.length R σ (A.map fun k : Nat => .int (k : Nat)) (S ++ [.lst []]) := by
  refine lc_filter (fun x => match x with | .int i => !decide (i.toNat ∈ B) | _ => false) id (by simp [sizeLine]; omega) (fun _ _ => trivial) ?_ ?_ ?_
  · intro x hx S1 P e1 hP
    obtain ⟨k, hk, rfl⟩ := List.mem_map.mp hx
    walk_at "s"
    refine r_var (hi _) ?_
    refine r_var (hb _) ?_
    refine r_ninT rfl (flat_nat _) ?_
    rw [mem_nat]
    walk_at "s"
    exact hP S1 (.refl _)
  · intro x hx S1 P e1 hP
    exact r_var (hi _) (hP S1 (.refl _))
  · intro S1 e1 h1
    refine h S1 e1 ?_
    rw [h1, List.map_id, List.filter_map]
    rfl
theorem diff_none {A B : List Nat} (h : Sub A B) : ((A.filter fun x => !decide (x ∈ B)).map fun k : Nat => D.int (k : Nat)).length = 0 := by
  rw [List.length_map, List.length_eq_zero_iff, List.filter_eq_nil_iff]
  intro x hx
  simpa using h x hx
theorem diff_sub {A B : List Nat} (h : ((A.filter fun x => !decide (x ∈ B)).map fun k : Nat => D.int (k : Nat)).length = 0) : Sub A B := by
  rw [List.length_map, List.length_eq_zero_iff, List.filter_eq_nil_iff] at h
  intro x hx
  simpa using h x hx
end PG
/-! SP7: sayings taken apart and turned round. -/
namespace PG
open PySem L2 SD
def Fm.parts : Fm → List Fm
  | .both a b => [a, b]
  | .either a b => [a, b]
  | .some _ a => [a]
  | .all _ a => [a]
  | .least _ a => [a]
  | .greatest _ a => [a]
  | _ => []
theorem parts_spec {f : Fm} {S : Store} {Q : PD} (h : Q (.tup (f.parts.map encF)) S) : F_parts_of [encF f] S Q := by
  refine r_fn rfl ?_
  unfold b_parts_of
  cases f <;> (walk_at "s"; exact r_slT (by with_unfolding_all rfl) h)
/-- with other parts -/
def Fm.wp : Fm → List Fm → Fm
  | .both _ _, [a, b] => .both a b
  | .either _ _, [a, b] => .either a b
  | .some j _, [a] => .some j a
  | .all j _, [a] => .all j a
  | .least x _, [a] => .least x a
  | .greatest x _, [a] => .greatest x a
  | f, _ => f
theorem with_spec {f : Fm} {ps : List Fm} {n : Nat} {S : Store} {Q : PD} (hl : ps.length = f.parts.length) (e : S[n]? = some (.lst (ps.map encF))) (h : Q (encF (f.wp ps)) S) : F_with_parts [encF f, .ref n] S Q := by
  have sq : seqD S (.ref n) = some (ps.map encF) := by show seqC S[n]? = _; rw [e]; rfl
  refine r_fn rfl ?_
  unfold b_with_parts
  cases f with
  | both a b =>
    obtain ⟨a', b', rfl⟩ : ∃ a' b', ps = [a', b'] := by
      match ps, hl with
      | [a', b'], _ => exact ⟨_, _, rfl⟩
    walk_at "s"
    refine r_tuple sq ?_
    refine r_addT (Nat.le_of_ble_eq_true rfl) ?_
    exact h
  | either a b =>
    obtain ⟨a', b', rfl⟩ : ∃ a' b', ps = [a', b'] := by
      match ps, hl with
      | [a', b'], _ => exact ⟨_, _, rfl⟩
    walk_at "s"
    refine r_tuple sq ?_
    refine r_addT (Nat.le_of_ble_eq_true rfl) ?_
    exact h
  | some j a =>
    obtain ⟨a', rfl⟩ : ∃ a', ps = [a'] := by
      match ps, hl with
      | [a'], _ => exact ⟨_, rfl⟩
    walk_at "s"
    refine r_slT (ys := [.str "some", .int (j : Nat)]) (by with_unfolding_all rfl) ?_
    walk_at "s"
    refine r_tuple sq ?_
    exact r_addT (Nat.le_of_ble_eq_true rfl) h
  | all j a =>
    obtain ⟨a', rfl⟩ : ∃ a', ps = [a'] := by
      match ps, hl with
      | [a'], _ => exact ⟨_, rfl⟩
    walk_at "s"
    refine r_slT (ys := [.str "all", .int (j : Nat)]) (by with_unfolding_all rfl) ?_
    walk_at "s"
    refine r_tuple sq ?_
    exact r_addT (Nat.le_of_ble_eq_true rfl) h
  | least j a =>
    obtain ⟨a', rfl⟩ : ∃ a', ps = [a'] := by
      match ps, hl with
      | [a'], _ => exact ⟨_, rfl⟩
    walk_at "s"
    refine r_slT (ys := [.str "least", .int (j : Nat)]) (by with_unfolding_all rfl) ?_
    walk_at "s"
    refine r_tuple sq ?_
    exact r_addT (Nat.le_of_ble_eq_true rfl) h
  | greatest j a =>
    obtain ⟨a', rfl⟩ : ∃ a', ps = [a'] := by
      match ps, hl with
      | [a'], _ => exact ⟨_, rfl⟩
    walk_at "s"
    refine r_slT (ys := [.str "greatest", .int (j : Nat)]) (by with_unfolding_all rfl) ?_
    walk_at "s"
    refine r_tuple sq ?_
    exact r_addT (Nat.le_of_ble_eq_true rfl) h
  | yes =>
    obtain rfl : ps = [] := List.eq_nil_of_length_eq_zero hl
    walk_at "s"
    refine r_slT (ys := [.str "yes"]) (by with_unfolding_all rfl) ?_
    walk_at "s"
    refine r_tuple sq ?_
    exact r_addT (Nat.le_of_ble_eq_true rfl) h
  | no =>
    obtain rfl : ps = [] := List.eq_nil_of_length_eq_zero hl
    walk_at "s"
    refine r_slT (ys := [.str "no"]) (by with_unfolding_all rfl) ?_
    walk_at "s"
    refine r_tuple sq ?_
    exact r_addT (Nat.le_of_ble_eq_true rfl) h
  | is i =>
    obtain rfl : ps = [] := List.eq_nil_of_length_eq_zero hl
    walk_at "s"
    refine r_slT (ys := [.str "is", .int (i : Nat)]) (by with_unfolding_all rfl) ?_
    walk_at "s"
    refine r_tuple sq ?_
    exact r_addT (Nat.le_of_ble_eq_true rfl) h
  | isnt i =>
    obtain rfl : ps = [] := List.eq_nil_of_length_eq_zero hl
    walk_at "s"
    refine r_slT (ys := [.str "isnt", .int (i : Nat)]) (by with_unfolding_all rfl) ?_
    walk_at "s"
    refine r_tuple sq ?_
    exact r_addT (Nat.le_of_ble_eq_true rfl) h
  | name i =>
    obtain rfl : ps = [] := List.eq_nil_of_length_eq_zero hl
    walk_at "s"
    refine r_slT (ys := [.str "name", .int (i : Nat)]) (by with_unfolding_all rfl) ?_
    walk_at "s"
    refine r_tuple sq ?_
    exact r_addT (Nat.le_of_ble_eq_true rfl) h
/-- the saying turned round -/
def neg : Fm → Fm
  | .yes => .no
  | .no => .yes
  | .is i => .isnt i
  | .isnt i => .is i
  | .name x => .name x
  | .both a b => .either (neg a) (neg b)
  | .either a b => .both (neg a) (neg b)
  | .some j a => .all j (neg a)
  | .all j a => .some j (neg a)
  | .least x a => .greatest x (neg a)
  | .greatest x a => .least x (neg a)
theorem neg_neg : ∀ f : Fm, neg (neg f) = f
  | .yes | .no | .is _ | .isnt _ | .name _ => rfl
  | .both a b => by rw [neg, neg, neg_neg a, neg_neg b]
  | .either a b => by rw [neg, neg, neg_neg a, neg_neg b]
  | .some j a => by rw [neg, neg, neg_neg a]
  | .all j a => by rw [neg, neg, neg_neg a]
  | .least x a => by rw [neg, neg, neg_neg a]
  | .greatest x a => by rw [neg, neg, neg_neg a]
def backs : List (D × D) := [(.str "no", .str "yes"), (.str "isnt", .str "is"), (.str "either", .str "both"), (.str "all", .str "some"), (.str "greatest", .str "least")]
def forths : List (D × D) := [(.str "yes", .str "no"), (.str "is", .str "isnt"), (.str "both", .str "either"), (.str "some", .str "all"), (.str "least", .str "greatest")]
theorem parts_dp {f g : Fm} (h : g ∈ f.parts) : g.dp < f.dp := by
  cases f <;> simp only [Fm.parts, List.mem_cons, List.not_mem_nil, or_false] at h <;> simp only [Fm.dp]
  all_goals first | (subst h; omega) | (rcases h with rfl | rfl <;> omega)
theorem parts_few (f : Fm) : f.parts.length ≤ 2 := by cases f <;> simp [Fm.parts]
theorem against_spec : ∀ (k : Nat) (f : Fm) (S : Store) (Q : PD), f.dp ≤ k → (∀ S', Ext S S' → Q (encF (neg f)) S') → F_against k [encF f] S Q
  | 0, f, _, _, hd, _ => by cases f <;> simp [Fm.dp] at hd
  | k + 1, f, S, Q, hd, h => by
    refine r_fn rfl ?_
    unfold b_against
    walk_at "s"
    intro few
    refine dc_inv (fun i acc S1 => Ext S S1 ∧ acc = backs.take i) few (new_at S _) ⟨Ext.app S _, rfl⟩ ?_ ?_
    · rintro i x acc S1 R hx h1 hl ⟨e1, rfl⟩ hR
      have put : ∀ (a b : D) (j : Nat), (toKey a).isSome = true → putD (backs.take j) a b = backs.take (j + 1) → j < 5 → S1[S.length]? = some (.dct (backs.take j)) → (∀ acc' S', S'[S.length]? = some (.dct acc') → acc'.length ≤ j + 1 → (Ext S S' ∧ acc' = backs.take (j + 1)) → R S') → ∃ acc, (toKey a).isSome = true ∧ S1[S.length]? = some (.dct acc) ∧ acc.length < sizeLine ∧ R (S1.set S.length (.dct (putD acc a b))) := fun a b j q1 q2 q3 q4 q5 => by
        have hl : (backs.take j).length ≤ 5 := by rw [List.length_take]; exact Nat.min_le_right _ _
        refine ⟨_, q1, q4, by simp only [sizeLine]; omega, ?_⟩
        rw [q2]
        exact q5 _ _ (set_at q4) (by rw [List.length_take]; exact Nat.min_le_left _ _) ⟨e1.put (Nat.le_refl _), rfl⟩
      match i, hx with
      | 0, hx =>
        cases hx
        refine ⟨trivial, ?_⟩
        walk_at "s"
        refine ⟨_, _, rfl, rfl, ?_⟩
        walk_at "s"
        exact put _ _ 0 rfl (by decide) (by decide) h1 hR
      | 1, hx =>
        cases hx
        refine ⟨trivial, ?_⟩
        walk_at "s"
        refine ⟨_, _, rfl, rfl, ?_⟩
        walk_at "s"
        exact put _ _ 1 rfl (by decide) (by decide) h1 hR
      | 2, hx =>
        cases hx
        refine ⟨trivial, ?_⟩
        walk_at "s"
        refine ⟨_, _, rfl, rfl, ?_⟩
        walk_at "s"
        exact put _ _ 2 rfl (by decide) (by decide) h1 hR
      | 3, hx =>
        cases hx
        refine ⟨trivial, ?_⟩
        walk_at "s"
        refine ⟨_, _, rfl, rfl, ?_⟩
        walk_at "s"
        exact put _ _ 3 rfl (by decide) (by decide) h1 hR
      | 4, hx =>
        cases hx
        refine ⟨trivial, ?_⟩
        walk_at "s"
        refine ⟨_, _, rfl, rfl, ?_⟩
        walk_at "s"
        exact put _ _ 4 rfl (by decide) (by decide) h1 hR
      | i + 5, hx => simp at hx
    rintro acc S1 h1 hl ⟨e1, rfl⟩
    have h1 : S1[S.length]? = some (.dct backs) := h1
    refine ⟨trivial, ?_⟩
    walk_at "s"
    refine for_inv (fun i σ S' => Ext S S' ∧ S'[S.length]? = some (.dct (backs ++ forths.take i)) ∧ ∃ s2 : Option D, σ = [some (encF f), some (.ref S.length), s2, none, none]) ⟨e1, h1, _, rfl⟩ ?_ ?_
    · rintro i x σ S2 R hx ⟨e2, h2, s2, rfl⟩ hR
      have put : ∀ (a b : D) (j : Nat), (toKey a).isSome = true → putD (backs ++ forths.take j) a b = backs ++ forths.take (j + 1) → j < 5 → S2[S.length]? = some (.dct (backs ++ forths.take j)) →
          (∀ σ' S', (Ext S S' ∧ S'[S.length]? = some (.dct (backs ++ forths.take (j + 1))) ∧ ∃ s2 : Option D, σ' = [some (encF f), some (.ref S.length), s2, none, none]) → R σ' S') → setF (.ref S.length) a b S2 fun S3 => R [some (encF f), some (.ref S.length), some a, none, none] S3 := fun a b j q1 q2 q3 q4 q5 => by
        have hl : (backs ++ forths.take j).length ≤ 10 := by
          rw [List.length_append, List.length_take]
          have : backs.length = 5 := rfl
          have : forths.length = 5 := rfl
          omega
        refine r_setD q4 q1 (by simp only [sizeLine]; omega) ?_
        rw [q2]
        exact q5 _ _ ⟨e2.put (Nat.le_refl _), set_at q4, _, rfl⟩
      match i, hx with
      | 0, hx =>
        cases hx
        refine ⟨trivial, ?_⟩
        walk_at "s"
        refine ⟨_, _, rfl, rfl, ?_⟩
        walk_at "s"
        exact put _ _ 0 rfl (by decide) (by decide) h2 hR
      | 1, hx =>
        cases hx
        refine ⟨trivial, ?_⟩
        walk_at "s"
        refine ⟨_, _, rfl, rfl, ?_⟩
        walk_at "s"
        exact put _ _ 1 rfl (by decide) (by decide) h2 hR
      | 2, hx =>
        cases hx
        refine ⟨trivial, ?_⟩
        walk_at "s"
        refine ⟨_, _, rfl, rfl, ?_⟩
        walk_at "s"
        exact put _ _ 2 rfl (by decide) (by decide) h2 hR
      | 3, hx =>
        cases hx
        refine ⟨trivial, ?_⟩
        walk_at "s"
        refine ⟨_, _, rfl, rfl, ?_⟩
        walk_at "s"
        exact put _ _ 3 rfl (by decide) (by decide) h2 hR
      | 4, hx =>
        cases hx
        refine ⟨trivial, ?_⟩
        walk_at "s"
        refine ⟨_, _, rfl, rfl, ?_⟩
        walk_at "s"
        exact put _ _ 4 rfl (by decide) (by decide) h2 hR
      | i + 5, hx => simp at hx
    rintro σ S2 ⟨e2, h2, s2, rfl⟩
    refine ⟨trivial, ?_⟩
    walk_at "s"
    refine r_iTup ?_
    walk_at "s"
    refine parts_spec ?_
    refine ⟨_, rfl, ?_⟩
    intro few
    refine lc_each f.parts encF (fun g => encF (neg g)) (Nat.le_trans (parts_few f) (by decide)) (fun _ _ => trivial) (fun g hg S3 P e3 hP => ?_) fun S3 e3 h3 => ?_
    · walk_at "s"
      exact against_spec k g S3 P (by have := parts_dp hg; omega) hP
    walk_at "s"
    refine with_spec (ps := f.parts.map neg) (by rw [List.length_map]) (by rw [h3, List.map_map]; rfl) ?_
    walk_at "s"
    have h4 := e3 _ _ h2
    have hd4 : dictD S3 (.ref S.length) = some (backs ++ forths.take 5) := by show dicC S3[S.length]? = _; rw [h4]; rfl
    refine ⟨⟨_, hd4⟩, ?_⟩
    walk_at "s"
    have fin := h S3 (e2.trans e3)
    cases f <;> (walk_at "s"; refine ⟨_, hd4, rfl, ?_⟩; walk_at "s"; refine r_slT rfl ?_; walk_at "s"; exact r_addT (Nat.le_of_ble_eq_true rfl) fin)
end PG
/-! SP8: all parts of a saying. -/
namespace PG
open PySem L2 SD
def Fm.sz : Fm → Nat
  | .both a b => a.sz + b.sz + 1
  | .either a b => a.sz + b.sz + 1
  | .some _ a => a.sz + 1
  | .all _ a => a.sz + 1
  | .least _ a => a.sz + 1
  | .greatest _ a => a.sz + 1
  | _ => 1
def szs (ws : List Fm) : Nat := (ws.map Fm.sz).sum
theorem szs_app (a b : List Fm) : szs (a ++ b) = szs a + szs b := by unfold szs; rw [List.map_append, List.sum_append]
theorem szs_one (a : Fm) : szs [a] = a.sz := by simp [szs]
theorem parts_sz (f : Fm) : szs f.parts.reverse + 1 = f.sz := by cases f <;> simp [Fm.parts, szs, Fm.sz] <;> omega
theorem sz_pos (f : Fm) : 1 ≤ f.sz := by cases f <;> simp [Fm.sz]
theorem sz_dp : ∀ f : Fm, f.sz + 1 ≤ 2 ^ f.dp
  | .yes | .no | .is _ | .isnt _ | .name _ => by simp [Fm.sz, Fm.dp]
  | .both a b | .either a b => by
    have ha := sz_dp a
    have hb := sz_dp b
    have h1 : 2 ^ a.dp ≤ 2 ^ max a.dp b.dp := Nat.pow_le_pow_right (by decide) (Nat.le_max_left _ _)
    have h2 : 2 ^ b.dp ≤ 2 ^ max a.dp b.dp := Nat.pow_le_pow_right (by decide) (Nat.le_max_right _ _)
    simp only [Fm.sz, Fm.dp, Nat.pow_succ]
    omega
  | .some _ a | .all _ a | .least _ a | .greatest _ a => by
    have ha := sz_dp a
    have := sz_pos a
    simp only [Fm.sz, Fm.dp, Nat.pow_succ]
    omega
theorem sz_le {f : Fm} {k : Nat} (h : f.dp ≤ k) : f.sz ≤ 2 ^ k := Nat.le_trans (Nat.le_trans (Nat.le_succ _) (sz_dp f)) (Nat.pow_le_pow_right (by decide) h)
theorem szs_len (ws : List Fm) : ws.length ≤ szs ws := by
  induction ws with
  | nil => exact Nat.le_refl _
  | cons w ws ih =>
    have := sz_pos w
    have e : szs (w :: ws) = w.sz + szs ws := by simp [szs]
    rw [e, List.length_cons]
    omega
theorem all_parts_spec {f : Fm} {S : Store} {Q : PD} (hd : f.dp ≤ 16) (h : ∀ (S' : Store) (n : Nat) (gs : List Fm), Ext S S' → S.length ≤ n → S'[n]? = some (.lst (gs.map encF)) → gs.length ≤ f.sz → Q (.ref n) S') : F_all_parts [encF f] S Q := by
  have hz : f.sz ≤ 65536 := sz_le hd
  refine r_fn rfl ?_
  unfold b_all_parts
  walk_at "s"
  have x1 : (S ++ [Cell.lst []]).length = S.length + 1 := by simp
  refine while_inv (fun k σ S' => ∃ (fs ws : List Fm) (s3 : Option D), szs ws = k ∧ fs.length + szs ws = f.sz ∧ σ = [some (encF f), some (.ref S.length), some (.ref (S.length + 1)), s3] ∧ Ext S S' ∧ S'[S.length]? = some (.lst (fs.map encF)) ∧ S'[S.length + 1]? = some (.lst (ws.map encF))) f.sz ?_ ?_
  · refine ⟨[], [f], _, szs_one f, by rw [szs_one]; simp, by rw [← x1]; rfl, (Ext.app _ _).trans (Ext.app _ _), ?_, ?_⟩
    · exact Ext.app _ _ _ _ (new_at S _)
    · rw [← x1]; exact new_at _ _
  · rintro k σ S1 R ⟨fs, ws, s3, rfl, hsum, rfl, e1, h1, h2⟩ hR
    walk_at "s"
    refine r_len (by show seqC S1[S.length + 1]? = _; rw [h2]; rfl) ?_
    walk_at "s"
    refine ite_b (fun hb => ?_) (fun hb => ?_)
    · have hb : ws ≠ [] := fun e => by subst e; simp at hb
      obtain ⟨ws', g, rfl⟩ : ∃ ws' g, ws = ws' ++ [g] := ⟨ws.dropLast, ws.getLast hb, (List.dropLast_concat_getLast hb).symm⟩
      have hs : szs (ws' ++ [g]) = szs ws' + g.sz := by rw [szs_app, szs_one]
      have hg := sz_pos g
      have hl1 := szs_len ws'
      walk_at "s"
      refine r_tyL h2 ?_
      walk_at "s"
      refine ⟨_, _, encF g, rfl, rfl, h2, by simp, ?_⟩
      have o1 := Off.set (S.length + 1) S1 (.lst ((ws' ++ [g]).map encF).dropLast)
      have h2' : (S1.set (S.length + 1) (.lst ((ws' ++ [g]).map encF).dropLast))[S.length + 1]? = some (.lst (ws'.map encF)) := by
        rw [set_at h2]; simp
      generalize S1.set (S.length + 1) (.lst ((ws' ++ [g]).map encF).dropLast) = S2 at o1 h2' ⊢
      have h1' := o1.ne (by omega) h1
      walk_at "s"
      refine r_tyL h1' ?_
      walk_at "s"
      refine r_app h1' (by rw [List.length_map]; simp only [sizeLine]; omega) fun S3 q3 o3 => ?_
      have h2'' := o3.ne (by omega) h2'
      walk_at "s"
      refine r_tyL h2'' ?_
      walk_at "s"
      refine parts_spec ?_
      walk_at "s"
      refine r_list rfl ?_
      refine ⟨_, _, rfl, new_at S3 _, ?_⟩
      walk_at "s"
      have pf := parts_few g
      refine ⟨_, _, _, _, rfl, rfl, Ext.app _ _ _ _ (Ext.app _ _ _ _ h2''), new_at _ _, by simp only [List.length_map, List.length_reverse, sizeLine]; omega, ?_⟩
      have ps := parts_sz g
      have o4 : ∀ (c : Cell) (i : Nat), i < S.length + 1 → ((S3 ++ [Cell.lst (g.parts.map encF)] ++ [Cell.lst (g.parts.map encF).reverse]).set (S.length + 1) c)[i]? = S3[i]? := fun c i hi => by
        have : S.length + 1 < S3.length := (List.getElem?_eq_some_iff.mp h2'').1
        rw [set_off (by omega), List.getElem?_append_left (by simp; omega), List.getElem?_append_left (by omega)]
      refine hR (szs (ws' ++ g.parts.reverse)) _ _ (by rw [szs_app, hs]; omega) ⟨fs ++ [g], ws' ++ g.parts.reverse, _, rfl, by rw [szs_app, List.length_append, List.length_singleton]; rw [hs] at hsum; omega, rfl, ?_, ?_, ?_⟩
      · intro i c hi
        have : i < S.length := (List.getElem?_eq_some_iff.mp hi).1
        rw [o4 _ _ (by omega), o3.off i (by omega), o1.off i (by omega)]
        exact e1 i c hi
      · rw [o4 _ _ (by omega), q3]
        simp
      · rw [set_at (Ext.app _ _ _ _ (Ext.app _ _ _ _ h2''))]
        simp
    · have hb : ws = [] := by
        cases ws with
        | nil => rfl
        | cons w ws =>
          have := of_decide_eq_false hb
          simp at this <;> omega
      subst hb
      walk_at "s"
      refine h S1 _ fs e1 (Nat.le_refl _) h1 ?_
      have : szs [] = 0 := rfl
      omega
end PG
/-! SP9: closed sayings, drawn. -/
namespace PG
open PySem L2 SD
def drawnDp (deep : Int) : Nat := max (deep.toNat + 2) (max ((deep - 2).toNat + 1) 2 + 4)
theorem drawn_spec {p q L0 L1 : Nat} {deep : Int} {S : Store} {Q : PD} (P : PoolOk p q S) (l1 : 1 ≤ L0) (l2 : L0 ≤ 1000) (m1 : 1 ≤ L1) (m2 : L1 ≤ 1000) (hd : deep ≤ 5) (h0 : 0 ≤ deep)
    (h : ∀ S' f, OkF L0 L1 [] [] f → f.dp ≤ drawnDp deep → f.bnds.Nodup → (∀ x ∈ f.bnds, x < 5) → PoolOk p q S' → ExtB [p] S S' → Q (encF f) S') :
    F__law_drawn [.ref p, .tup [.int (L0 : Nat), .int (L1 : Nat)], .int deep] S Q := by
  have drop : ∀ {S0 S1 : Store} {st : Nat}, ExtB [p, st] S0 S1 → S.length ≤ st → ExtB [p] S S0 → ExtB [p] S S1 := fun e hs e0 => ⟨Nat.le_trans e0.1 e.1, fun i hi c hc => e.2 i (by
    have := (List.getElem?_eq_some_iff.mp hc).1
    simp at hi ⊢
    exact ⟨hi, by omega⟩) c (e0.2 i hi c hc)⟩
  have rn : ∀ a b : Nat, (List.range' a (b - a)).Nodup ∧ (∀ x ∈ List.range' a (b - a), a ≤ x ∧ x < max a b) := fun a b => by
    refine ⟨List.nodup_range', fun x hx => ?_⟩
    rw [List.mem_range'_1] at hx
    omega
  refine r_fn rfl ?_
  unfold b__law_drawn
  walk_at "s"
  refine draw_spec P (by decide) (by decide) fun S1 first hf P1 o1 => ?_
  have e1 : ExtB [p] S S1 := o1.b (by simp)
  by_cases c0 : first = 0
  · subst c0
    walk_at "s"
    refine draw_spec P1 (by decide) (by decide) fun S2 kind hk P2 o2 => ?_
    have e2 : ExtB [p] S S2 := e1.trans (o2.b (by simp))
    walk_at "s"
    have key := fun Q => saying_spec 8 (deep - 2) p q S2.length L0 L1 [0, 1] [] [.int 0, .int 1] (S2 ++ [.lst [.int 0, .int 1]]) Q (by omega) (P2.ext (Ext.app _ _)) l1 l2 m1 m2 (Nat.ne_of_gt P2.lt) (Nat.ne_of_gt P2.lt2) (new_at _ _) (by simp) (by simp) (by simp)
    rw [show encP [0, 1] = .tup [.int 0, .int 1] from rfl, show encP [] = .tup [] from rfl] at key
    refine key _ fun S3 f0 ys' f1 f2 f3 f4 f5 P3 _ e3 => ?_
    have f3 : 2 ≤ ys'.length := f3
    have f5 : f0.bnds = List.range' 2 (ys'.length - 2) := f5
    have e3 := drop e3 e2.1 (e2.trans ((Ext.app S2 _).b _))
    obtain ⟨r1, r2⟩ := rn 2 ys'.length
    walk_at "s"
    refine draw_spec P3 (by omega) (by omega) fun S4 j hj P4 o4 => ?_
    have e4 : ExtB [p] S S4 := e3.trans (o4.b (by simp))
    walk_at "s"
    refine draw_spec P4 (by omega) (by omega) fun S5 sa hsa P5 o5 => ?_
    have e5 : ExtB [p] S S5 := e4.trans (o5.b (by simp))
    have hj : j < L1 := by omega
    have nd : (0 :: 1 :: f0.bnds).Nodup := by
      rw [f5, List.nodup_cons, List.nodup_cons]
      refine ⟨fun z => ?_, fun z => ?_, r1⟩
      · rw [List.mem_cons] at z
        rcases z with z | z
        · omega
        · have := (r2 0 z).1; omega
      · have := (r2 1 z).1; omega
    have small : ∀ x ∈ (0 :: 1 :: f0.bnds), x < 5 := fun x hx => by
      rw [List.mem_cons, List.mem_cons, f5] at hx
      rcases hx with rfl | rfl | hx
      · omega
      · omega
      · have := (r2 x hx).2; omega
    match kind, hk, sa, hsa with
    | 0, _, 0, _ =>
      walk_at "s"
      exact h S5 (.greatest 0 (.least 1 (.either (.both f0 (.some j (.name 0))) (.some 0 (.name 1))))) ⟨⟨f1, hj, by simp [OkF]⟩, by omega, by simp [OkF]⟩ (by simp only [Fm.dp, drawnDp]; omega) (by simpa [Fm.bnds] using nd) (by simpa [Fm.bnds] using small) P5 e5
    | 0, _, 1, _ =>
      walk_at "s"
      exact h S5 (.greatest 0 (.least 1 (.either (.both f0 (.some j (.name 0))) (.all 0 (.name 1))))) ⟨⟨f1, hj, by simp [OkF]⟩, by omega, by simp [OkF]⟩ (by simp only [Fm.dp, drawnDp]; omega) (by simpa [Fm.bnds] using nd) (by simpa [Fm.bnds] using small) P5 e5
    | 1, _, 0, _ =>
      walk_at "s"
      exact h S5 (.least 0 (.greatest 1 (.either (.both f0 (.some j (.name 0))) (.some 0 (.name 1))))) ⟨⟨f1, hj, by simp [OkF]⟩, by omega, by simp [OkF]⟩ (by simp only [Fm.dp, drawnDp]; omega) (by simpa [Fm.bnds] using nd) (by simpa [Fm.bnds] using small) P5 e5
    | 1, _, 1, _ =>
      walk_at "s"
      exact h S5 (.least 0 (.greatest 1 (.either (.both f0 (.some j (.name 0))) (.all 0 (.name 1))))) ⟨⟨f1, hj, by simp [OkF]⟩, by omega, by simp [OkF]⟩ (by simp only [Fm.dp, drawnDp]; omega) (by simpa [Fm.bnds] using nd) (by simpa [Fm.bnds] using small) P5 e5
    | k + 2, hk, _, _ => omega
    | 0, _, s + 2, hs => omega
    | 1, _, s + 2, hs => omega
  walk_at "s"
  refine r_ifF (decide_eq_false (by omega)) ?_
  walk_at "s"
  by_cases c1 : first = 1
  · subst c1
    walk_at "s"
    refine draw_spec P1 (by decide) (by decide) fun S2 kind hk P2 o2 => ?_
    have e2 : ExtB [p] S S2 := e1.trans (o2.b (by simp))
    have key := fun Q => saying_spec 8 deep p q S2.length L0 L1 [0] [] [.int 0] (S2 ++ [.lst [.int 0]]) Q (by omega) (P2.ext (Ext.app _ _)) l1 l2 m1 m2 (Nat.ne_of_gt P2.lt) (Nat.ne_of_gt P2.lt2) (new_at _ _) (by simp) (by simp) (by simp)
    rw [show encP [0] = .tup [.int 0] from rfl, show encP [] = .tup [] from rfl] at key
    match kind, hk with
    | 0, _ =>
      walk_at "s"
      refine key _ fun S3 f0 ys' f1 f2 f3 f4 f5 P3 _ e3 => ?_
      obtain ⟨r1, r2⟩ := rn 1 ys'.length
      have f3 : 1 ≤ ys'.length := f3
      have f5 : f0.bnds = List.range' 1 (ys'.length - 1) := f5
      walk_at "s"
      exact h S3 (.least 0 f0) f1 (by simp only [Fm.dp, drawnDp]; omega) (by rw [Fm.bnds, f5, List.nodup_cons]; exact ⟨fun z => by have := (r2 0 z).1; omega, r1⟩) (fun x hx => by
        rw [Fm.bnds, f5, List.mem_cons] at hx
        rcases hx with rfl | hx
        · omega
        · have := (r2 x hx).2; omega) P3 (drop e3 e2.1 (e2.trans ((Ext.app S2 _).b _)))
    | 1, _ =>
      walk_at "s"
      refine key _ fun S3 f0 ys' f1 f2 f3 f4 f5 P3 _ e3 => ?_
      obtain ⟨r1, r2⟩ := rn 1 ys'.length
      have f3 : 1 ≤ ys'.length := f3
      have f5 : f0.bnds = List.range' 1 (ys'.length - 1) := f5
      walk_at "s"
      exact h S3 (.greatest 0 f0) f1 (by simp only [Fm.dp, drawnDp]; omega) (by rw [Fm.bnds, f5, List.nodup_cons]; exact ⟨fun z => by have := (r2 0 z).1; omega, r1⟩) (fun x hx => by
        rw [Fm.bnds, f5, List.mem_cons] at hx
        rcases hx with rfl | hx
        · omega
        · have := (r2 x hx).2; omega) P3 (drop e3 e2.1 (e2.trans ((Ext.app S2 _).b _)))
    | k + 2, hk => omega
  refine r_ifF (decide_eq_false (by omega)) ?_
  walk_at "s"
  have key := fun Q => saying_spec 8 (deep + 1) p q S1.length L0 L1 [] [] [] (S1 ++ [.lst []]) Q (by omega) (P1.ext (Ext.app _ _)) l1 l2 m1 m2 (Nat.ne_of_gt P1.lt) (Nat.ne_of_gt P1.lt2) (new_at _ _) (by simp) (by simp) (by simp)
  rw [show encP [] = .tup [] from rfl] at key
  refine key _ fun S3 f0 ys' f1 f2 f3 f4 f5 P3 _ e3 => ?_
  obtain ⟨r1, r2⟩ := rn 0 ys'.length
  have f5 : f0.bnds = List.range' 0 (ys'.length - 0) := f5
  exact h S3 f0 f1 (by simp only [drawnDp]; omega) (by rw [f5]; exact r1) (fun x hx => by rw [f5] at hx; have := (r2 x hx).2; omega) P3 (drop e3 e1.1 (e1.trans ((Ext.app S1 _).b _)))
end PG
/-! SM2: turned round is the rest; other names say the same. -/
namespace PG
theorem Wd.way_lt {L0 L1 : Nat} {w : Wd} (hw : OkW L0 L1 w) {j k g : Nat} (h : g ∈ w.way j k) : g < w.n := by
  unfold Wd.way at h
  rw [List.getD_eq_getElem?_getD, List.getD_eq_getElem?_getD] at h
  cases e : w.ways[j]? with
  | none => rw [e] at h; simp at h
  | some r =>
    rw [e, Option.getD_some] at h
    cases e2 : r[k]? with
    | none => rw [e2] at h; simp at h
    | some ks =>
      rw [e2, Option.getD_some] at h
      exact (hw.row r (List.mem_of_getElem? e) ks (List.mem_of_getElem? e2)).2 g h
def co (n : Nat) (X : List Nat) : List Nat := canon n fun k => !decide (k ∈ X)
theorem mem_co {n k : Nat} {X : List Nat} : k ∈ co n X ↔ k < n ∧ k ∉ X := by
  unfold co; rw [mem_canon]; simp
theorem co_ok (n : Nat) (X : List Nat) : OkSub n (co n X) := canon_ok _ _
theorem co_nil (n : Nat) : co n [] = List.range n := (co_ok n _).ext (range_ok n) fun j => by rw [mem_co]; simp
theorem co_range (n : Nat) : co n (List.range n) = [] := (co_ok n _).ext (nil_ok n) fun j => by rw [mem_co]; simp
theorem canon_congr {n : Nat} {p q : Nat → Bool} (h : ∀ k, k < n → p k = q k) : canon n p = canon n q := by
  refine (canon_ok n p).ext (canon_ok n q) fun j => ?_
  rw [mem_canon, mem_canon]
  constructor
  · exact fun ⟨a, b⟩ => ⟨a, (h j a) ▸ b⟩
  · exact fun ⟨a, b⟩ => ⟨a, (h j a) ▸ b⟩
def coE (n : Nat) (ρ : Env) : Env := fun x => co n (ρ x)
theorem coE_up (n : Nat) (ρ : Env) (x : Nat) (X : List Nat) : up (coE n ρ) x (co n X) = coE n (up ρ x X) := by
  funext y
  show (if y = x then co n X else co n (ρ y)) = co n (if y = x then X else ρ y)
  split <;> rfl
theorem it_co {n : Nat} {F G : List Nat → List Nat} (h : ∀ Y, OkSub n Y → G (co n Y) = co n (F Y)) (ho : ∀ Y, OkSub n Y → OkSub n (F Y)) {Y : List Nat} (hY : OkSub n Y) : ∀ t, it G t (co n Y) = co n (it F t Y)
  | 0 => rfl
  | t + 1 => by
    show G (it G t (co n Y)) = _
    rw [it_co h ho hY t, h _ (it_ok ho hY t)]
    rfl
theorem sem_neg {L0 L1 : Nat} {w : Wd} (hw : OkW L0 L1 w) : ∀ (f : Fm) (ρ : Env), EnvOk w.n ρ → sem w (neg f) (coE w.n ρ) = co w.n (sem w f ρ)
  | .yes, _, _ => by rw [neg, sem, sem, co_range]
  | .no, _, _ => by rw [neg, sem, sem, co_nil]
  | .is i, _, _ => by
    rw [neg, sem, sem]
    exact canon_congr fun k hk => by simp [mem_canon, hk]
  | .isnt i, _, _ => by
    rw [neg, sem, sem]
    exact canon_congr fun k hk => by simp [mem_canon, hk]
  | .name x, _, _ => rfl
  | .both a b, ρ, h => by
    rw [neg, sem, sem, sem_neg hw a ρ h, sem_neg hw b ρ h]
    exact canon_congr fun k hk => by by_cases p : k ∈ sem w a ρ <;> by_cases q : k ∈ sem w b ρ <;> simp [mem_canon, mem_co, hk, p, q]
  | .either a b, ρ, h => by
    rw [neg, sem, sem, sem_neg hw a ρ h, sem_neg hw b ρ h]
    exact canon_congr fun k hk => by by_cases p : k ∈ sem w a ρ <;> by_cases q : k ∈ sem w b ρ <;> simp [mem_canon, mem_co, hk, p, q]
  | .some j a, ρ, h => by
    rw [neg, sem, sem, sem_neg hw a ρ h]
    refine canon_congr fun k hk => ?_
    rw [Bool.eq_iff_iff]
    simp only [List.all_eq_true, decide_eq_true_eq, Bool.not_eq_true', decide_eq_false_iff_not, mem_canon, List.any_eq_true, mem_co]
    constructor
    · rintro q ⟨_, g, h1, h2⟩
      exact (q g h1).2 h2
    · exact fun q g hg => ⟨w.way_lt hw hg, fun h2 => q ⟨hk, g, hg, h2⟩⟩
  | .all j a, ρ, h => by
    rw [neg, sem, sem, sem_neg hw a ρ h]
    refine canon_congr fun k hk => ?_
    rw [Bool.eq_iff_iff]
    simp only [List.all_eq_true, decide_eq_true_eq, Bool.not_eq_true', decide_eq_false_iff_not, mem_canon, List.any_eq_true, mem_co]
    constructor
    · rintro ⟨g, h1, _, h2⟩ ⟨_, q⟩
      exact h2 (q g h1)
    · intro q
      refine Classical.byContradiction fun z => q ⟨hk, fun g hg => Classical.byContradiction fun h2 => z ⟨g, hg, w.way_lt hw hg, h2⟩⟩
  | .least x a, ρ, h => by
    rw [neg, sem, sem, ← co_nil]
    refine it_co (fun Y hY => ?_) (fun Y hY => sem_ok w a _ (h.up hY x)) (nil_ok _) _
    show sem w (neg a) (up (coE w.n ρ) x (co w.n Y)) = _
    rw [coE_up, sem_neg hw a _ (h.up hY x)]
  | .greatest x a, ρ, h => by
    rw [neg, sem, sem, ← co_range]
    refine it_co (fun Y hY => ?_) (fun Y hY => sem_ok w a _ (h.up hY x)) (range_ok _) _
    show sem w (neg a) (up (coE w.n ρ) x (co w.n Y)) = _
    rw [coE_up, sem_neg hw a _ (h.up hY x)]
theorem it_congr {F G : List Nat → List Nat} (h : ∀ X, F X = G X) (x : List Nat) (t : Nat) : it F t x = it G t x := by rw [show F = G from funext h]
/-- the same with other names: nm says the name that stands for each -/
def Ren : List Nat → (Nat → Nat) → Fm → Fm → Prop
  | _, nm, .name x, f' => f' = .name (nm x)
  | sc, nm, .both a b, f' => ∃ a' b', f' = .both a' b' ∧ Ren sc nm a a' ∧ Ren sc nm b b'
  | sc, nm, .either a b, f' => ∃ a' b', f' = .either a' b' ∧ Ren sc nm a a' ∧ Ren sc nm b b'
  | sc, nm, .some j a, f' => ∃ a', f' = .some j a' ∧ Ren sc nm a a'
  | sc, nm, .all j a, f' => ∃ a', f' = .all j a' ∧ Ren sc nm a a'
  | sc, nm, .least x a, f' => ∃ y a', f' = .least y a' ∧ (∀ z ∈ sc, z ≠ x → nm z ≠ y) ∧ Ren (x :: sc) (fun z => if z = x then y else nm z) a a'
  | sc, nm, .greatest x a, f' => ∃ y a', f' = .greatest y a' ∧ (∀ z ∈ sc, z ≠ x → nm z ≠ y) ∧ Ren (x :: sc) (fun z => if z = x then y else nm z) a a'
  | _, _, f, f' => f' = f
theorem ren_up {sc : List Nat} {nm : Nat → Nat} {ρ ρ' : Env} {x y : Nat} {X : List Nat} (hy : ∀ z ∈ sc, z ≠ x → nm z ≠ y) (h : ∀ z ∈ sc, ρ' (nm z) = ρ z) : ∀ z ∈ x :: sc, up ρ' y X (if z = x then y else nm z) = up ρ x X z := by
  intro z hz
  by_cases e : z = x
  · subst e; rw [if_pos rfl, up_self, up_self]
  · rw [if_neg e, up_ne _ _ e]
    rw [List.mem_cons] at hz
    have hz := hz.resolve_left e
    rw [up_ne _ _ (hy z hz e), h z hz]
theorem sem_ren (w : Wd) {L0 L1 : Nat} : ∀ (f f' : Fm) (sc : List Nat) (nm : Nat → Nat) (ρ ρ' : Env), Ren sc nm f f' → Sc L0 L1 sc f → (∀ z ∈ sc, ρ' (nm z) = ρ z) → sem w f' ρ' = sem w f ρ
  | .yes, _, _, _, _, _, h, _, _ => by cases (show _ = _ from h); rfl
  | .no, _, _, _, _, _, h, _, _ => by cases (show _ = _ from h); rfl
  | .is _, _, _, _, _, _, h, _, _ => by cases (show _ = _ from h); rfl
  | .isnt _, _, _, _, _, _, h, _, _ => by cases (show _ = _ from h); rfl
  | .name x, _, _, _, _, _, h, hs, he => by cases (show _ = _ from h); exact he x hs
  | .both a b, _, sc, nm, ρ, ρ', ⟨a', b', h0, h1, h2⟩, hs, he => by subst h0; rw [sem, sem, sem_ren w a a' sc nm ρ ρ' h1 hs.1 he, sem_ren w b b' sc nm ρ ρ' h2 hs.2 he]
  | .either a b, _, sc, nm, ρ, ρ', ⟨a', b', h0, h1, h2⟩, hs, he => by subst h0; rw [sem, sem, sem_ren w a a' sc nm ρ ρ' h1 hs.1 he, sem_ren w b b' sc nm ρ ρ' h2 hs.2 he]
  | .some j a, _, sc, nm, ρ, ρ', ⟨a', h0, h1⟩, hs, he => by subst h0; rw [sem, sem, sem_ren w a a' sc nm ρ ρ' h1 hs.2 he]
  | .all j a, _, sc, nm, ρ, ρ', ⟨a', h0, h1⟩, hs, he => by subst h0; rw [sem, sem, sem_ren w a a' sc nm ρ ρ' h1 hs.2 he]
  | .least x a, _, sc, nm, ρ, ρ', ⟨y, a', h0, h1, h2⟩, hs, he => by
    subst h0
    rw [sem, sem]
    exact it_congr (fun X => sem_ren w a a' _ _ _ _ h2 hs (ren_up h1 he)) _ _
  | .greatest x a, _, sc, nm, ρ, ρ', ⟨y, a', h0, h1, h2⟩, hs, he => by
    subst h0
    rw [sem, sem]
    exact it_congr (fun X => sem_ren w a a' _ _ _ _ h2 hs (ren_up h1 he)) _ _
theorem ren_dp : ∀ (f f' : Fm) (sc : List Nat) (nm : Nat → Nat), Ren sc nm f f' → f'.dp = f.dp
  | .yes, _, _, _, h => by cases (show _ = _ from h); rfl
  | .no, _, _, _, h => by cases (show _ = _ from h); rfl
  | .is _, _, _, _, h => by cases (show _ = _ from h); rfl
  | .isnt _, _, _, _, h => by cases (show _ = _ from h); rfl
  | .name x, _, _, _, h => by cases (show _ = _ from h); rfl
  | .both a b, _, sc, nm, ⟨a', b', h0, h1, h2⟩ => by subst h0; rw [Fm.dp, Fm.dp, ren_dp a a' sc nm h1, ren_dp b b' sc nm h2]
  | .either a b, _, sc, nm, ⟨a', b', h0, h1, h2⟩ => by subst h0; rw [Fm.dp, Fm.dp, ren_dp a a' sc nm h1, ren_dp b b' sc nm h2]
  | .some j a, _, sc, nm, ⟨a', h0, h1⟩ => by subst h0; rw [Fm.dp, Fm.dp, ren_dp a a' sc nm h1]
  | .all j a, _, sc, nm, ⟨a', h0, h1⟩ => by subst h0; rw [Fm.dp, Fm.dp, ren_dp a a' sc nm h1]
  | .least x a, _, sc, nm, ⟨y, a', h0, h1, h2⟩ => by subst h0; rw [Fm.dp, Fm.dp, ren_dp a a' _ _ h2]
  | .greatest x a, _, sc, nm, ⟨y, a', h0, h1, h2⟩ => by subst h0; rw [Fm.dp, Fm.dp, ren_dp a a' _ _ h2]
theorem Sc.mono {L0 L1 : Nat} : ∀ (f : Fm) (sc sc' : List Nat), Sc L0 L1 sc f → (∀ x ∈ sc, x ∈ sc') → Sc L0 L1 sc' f
  | .yes, _, _, _, _ => trivial
  | .no, _, _, _, _ => trivial
  | .is _, _, _, h, _ => h
  | .isnt _, _, _, h, _ => h
  | .name x, _, _, h, m => m x h
  | .both a b, sc, sc', h, m => ⟨Sc.mono a sc sc' h.1 m, Sc.mono b sc sc' h.2 m⟩
  | .either a b, sc, sc', h, m => ⟨Sc.mono a sc sc' h.1 m, Sc.mono b sc sc' h.2 m⟩
  | .some j a, sc, sc', h, m => ⟨h.1, Sc.mono a sc sc' h.2 m⟩
  | .all j a, sc, sc', h, m => ⟨h.1, Sc.mono a sc sc' h.2 m⟩
  | .least x a, sc, sc', h, m => Sc.mono a _ _ h fun y hy => by
    rw [List.mem_cons] at hy ⊢
    exact hy.imp id (m y)
  | .greatest x a, sc, sc', h, m => Sc.mono a _ _ h fun y hy => by
    rw [List.mem_cons] at hy ⊢
    exact hy.imp id (m y)
theorem ren_sc {L0 L1 : Nat} : ∀ (f f' : Fm) (sc : List Nat) (nm : Nat → Nat), Ren sc nm f f' → Sc L0 L1 sc f → Sc L0 L1 (sc.map nm) f'
  | .yes, _, _, _, h, _ => by cases (show _ = _ from h); trivial
  | .no, _, _, _, h, _ => by cases (show _ = _ from h); trivial
  | .is _, _, _, _, h, hs => by cases (show _ = _ from h); exact hs
  | .isnt _, _, _, _, h, hs => by cases (show _ = _ from h); exact hs
  | .name x, _, _, _, h, hs => by cases (show _ = _ from h); exact List.mem_map.mpr ⟨x, hs, rfl⟩
  | .both a b, _, sc, nm, ⟨a', b', h0, h1, h2⟩, hs => by subst h0; exact ⟨ren_sc a a' sc nm h1 hs.1, ren_sc b b' sc nm h2 hs.2⟩
  | .either a b, _, sc, nm, ⟨a', b', h0, h1, h2⟩, hs => by subst h0; exact ⟨ren_sc a a' sc nm h1 hs.1, ren_sc b b' sc nm h2 hs.2⟩
  | .some j a, _, sc, nm, ⟨a', h0, h1⟩, hs => by subst h0; exact ⟨hs.1, ren_sc a a' sc nm h1 hs.2⟩
  | .all j a, _, sc, nm, ⟨a', h0, h1⟩, hs => by subst h0; exact ⟨hs.1, ren_sc a a' sc nm h1 hs.2⟩
  | .least x a, _, sc, nm, ⟨y, a', h0, h1, h2⟩, hs => by
    subst h0
    refine Sc.mono a' _ _ (ren_sc a a' _ _ h2 hs) fun z hz => ?_
    obtain ⟨u, hu, rfl⟩ := List.mem_map.mp hz
    show (if u = x then y else nm u) ∈ _
    split
    · exact List.mem_cons_self
    · rename_i q
      rw [List.mem_cons] at hu
      exact List.mem_cons_of_mem _ (List.mem_map.mpr ⟨u, hu.resolve_left q, rfl⟩)
  | .greatest x a, _, sc, nm, ⟨y, a', h0, h1, h2⟩, hs => by
    subst h0
    refine Sc.mono a' _ _ (ren_sc a a' _ _ h2 hs) fun z hz => ?_
    obtain ⟨u, hu, rfl⟩ := List.mem_map.mp hz
    show (if u = x then y else nm u) ∈ _
    split
    · exact List.mem_cons_self
    · rename_i q
      rw [List.mem_cons] at hu
      exact List.mem_cons_of_mem _ (List.mem_map.mpr ⟨u, hu.resolve_left q, rfl⟩)
/-- what is said leans on the names in scope only -/
theorem sem_congr (w : Wd) {L0 L1 : Nat} : ∀ (f : Fm) (sc : List Nat) (ρ ρ' : Env), Sc L0 L1 sc f → (∀ z ∈ sc, ρ z = ρ' z) → sem w f ρ = sem w f ρ'
  | .yes, _, _, _, _, _ => rfl
  | .no, _, _, _, _, _ => rfl
  | .is _, _, _, _, _, _ => rfl
  | .isnt _, _, _, _, _, _ => rfl
  | .name x, _, _, _, hs, he => he x hs
  | .both a b, sc, ρ, ρ', hs, he => by rw [sem, sem, sem_congr w a sc ρ ρ' hs.1 he, sem_congr w b sc ρ ρ' hs.2 he]
  | .either a b, sc, ρ, ρ', hs, he => by rw [sem, sem, sem_congr w a sc ρ ρ' hs.1 he, sem_congr w b sc ρ ρ' hs.2 he]
  | .some j a, sc, ρ, ρ', hs, he => by rw [sem, sem, sem_congr w a sc ρ ρ' hs.2 he]
  | .all j a, sc, ρ, ρ', hs, he => by rw [sem, sem, sem_congr w a sc ρ ρ' hs.2 he]
  | .least x a, sc, ρ, ρ', hs, he => by
    rw [sem, sem]
    refine it_congr (fun X => sem_congr w a _ _ _ hs fun z hz => ?_) _ _
    unfold up
    split
    · rfl
    · rename_i q
      rw [List.mem_cons] at hz
      exact he z (hz.resolve_left q)
  | .greatest x a, sc, ρ, ρ', hs, he => by
    rw [sem, sem]
    refine it_congr (fun X => sem_congr w a _ _ _ hs fun z hz => ?_) _ _
    unfold up
    split
    · rfl
    · rename_i q
      rw [List.mem_cons] at hz
      exact he z (hz.resolve_left q)
theorem sem_closed (w : Wd) {L0 L1 : Nat} {f : Fm} (h : Sc L0 L1 [] f) (ρ : Env) : sem w f ρ = sem w f ρ0 := sem_congr w f [] ρ ρ0 h fun z hz => by cases hz
theorem neg_dp : ∀ f : Fm, (neg f).dp = f.dp
  | .yes | .no | .is _ | .isnt _ | .name _ => rfl
  | .both a b | .either a b => by rw [neg, Fm.dp, Fm.dp, neg_dp a, neg_dp b]
  | .some _ a | .all _ a | .least _ a | .greatest _ a => by rw [neg, Fm.dp, Fm.dp, neg_dp a]
theorem neg_sc {L0 L1 : Nat} : ∀ (f : Fm) (sc : List Nat), Sc L0 L1 sc f → Sc L0 L1 sc (neg f)
  | .yes, _, _ => trivial
  | .no, _, _ => trivial
  | .is _, _, h => h
  | .isnt _, _, h => h
  | .name x, _, h => h
  | .both a b, sc, h => ⟨neg_sc a sc h.1, neg_sc b sc h.2⟩
  | .either a b, sc, h => ⟨neg_sc a sc h.1, neg_sc b sc h.2⟩
  | .some j a, sc, h => ⟨h.1, neg_sc a sc h.2⟩
  | .all j a, sc, h => ⟨h.1, neg_sc a sc h.2⟩
  | .least x a, sc, h => neg_sc a _ h
  | .greatest x a, sc, h => neg_sc a _ h
/-- of a closed saying: turned round holds at all other places -/
theorem closed_neg {L0 L1 : Nat} {w : Wd} (hw : OkW L0 L1 w) {f : Fm} (h : Sc L0 L1 [] f) : sem w (neg f) ρ0 = co w.n (sem w f ρ0) := by
  rw [← sem_neg hw f ρ0 (ρ0_ok _), sem_closed w (neg_sc f [] h) (coE w.n ρ0)]
end PG
/-! SM4: games on finitely many spots, in plain words. -/
namespace PG
structure Spt where
  o : Nat
  lv : Nat
  gs : List Nat
deriving DecidableEq, Inhabited
def ow (G : List Spt) (k : Nat) : Nat := (G.getD k ⟨0, 0, []⟩).o
def lv (G : List Spt) (k : Nat) : Nat := (G.getD k ⟨0, 0, []⟩).lv
def gl (G : List Spt) (k : Nat) : List Nat := (G.getD k ⟨0, 0, []⟩).gs
/-- a walk of at least one step; M the highest level of a spot that is left -/
inductive Run (E : Nat → Nat → Prop) (lev : Nat → Nat) : Nat → Nat → Nat → Prop
  | one {a b : Nat} : E a b → Run E lev a b (lev a)
  | cons {a b c M : Nat} : E a b → Run E lev b c M → Run E lev a c (max (lev a) M)
section
variable {E E' : Nat → Nat → Prop} {lev : Nat → Nat} {a b M : Nat}
theorem Run.mono (h : Run E lev a b M) (w : ∀ x y, E x y → E' x y) : Run E' lev a b M := by
  induction h with
  | one e => exact .one (w _ _ e)
  | cons e _ ih => exact .cons (w _ _ e) ih
/-- what is closed is not left -/
theorem Run.inside {P : Nat → Prop} (hc : ∀ x y, P x → E x y → P y) (h : Run E lev a b M) (ha : P a) : Run (fun x y => E x y ∧ P x ∧ P y) lev a b M ∧ P b := by
  induction h with
  | one e => exact ⟨.one ⟨e, ha, hc _ _ ha e⟩, hc _ _ ha e⟩
  | cons e _ ih =>
    have hb := hc _ _ ha e
    exact ⟨.cons ⟨e, ha, hb⟩ (ih hb).1, (ih hb).2⟩
/-- and was never entered, if the end is without -/
theorem Run.outside {P : Nat → Prop} (hc : ∀ x y, P x → E x y → P y) (h : Run E lev a b M) (hb : ¬ P b) : Run (fun x y => E x y ∧ ¬ P x ∧ ¬ P y) lev a b M ∧ ¬ P a := by
  induction h with
  | one e => exact ⟨.one ⟨e, fun z => hb (hc _ _ z e), hb⟩, fun z => hb (hc _ _ z e)⟩
  | cons e _ ih =>
    have i := ih hb
    have na := fun z => i.2 (hc _ _ z e)
    exact ⟨.cons ⟨e, na, i.2⟩ i.1, na⟩
theorem Run.le (h : Run E lev a b M) {top : Nat} (w : ∀ x y, E x y → lev x ≤ top) : M ≤ top := by
  induction h with
  | one e => exact w _ _ e
  | cons e _ ih => exact Nat.max_le.mpr ⟨w _ _ e, ih⟩
/-- a spot of T is left, or none is -/
theorem Run.meets (h : Run E lev a b M) (T : Nat → Prop) {top : Nat} (w : ∀ x, T x → top ≤ lev x) : top ≤ M ∨ Run (fun x y => E x y ∧ ¬ T x) lev a b M := by
  classical
  induction h with
  | @one a b e =>
    by_cases t : T a
    · exact .inl (w a t)
    · exact .inr (.one ⟨e, t⟩)
  | @cons a b c M e _ ih =>
    by_cases t : T a
    · exact .inl (Nat.le_trans (w a t) (Nat.le_max_left _ _))
    · rcases ih with h | h
      · exact .inl (Nat.le_trans h (Nat.le_max_right _ _))
      · exact .inr (.cons ⟨e, t⟩ h)
theorem Run.falls {P : Nat → Prop} {rank : Nat → Nat} (hc : ∀ x y, P x → E x y → P y ∧ rank y < rank x) (h : Run E lev a b M) (ha : P a) : P b ∧ rank b < rank a := by
  induction h with
  | one e => exact hc _ _ ha e
  | cons e _ ih =>
    have h1 := hc _ _ ha e
    have h2 := ih h1.1
    exact ⟨h2.1, Nat.lt_trans h2.2 h1.2⟩
end
/-- the steps that p leaves open in W, with the moves m -/
def Steps (G : List Spt) (p : Nat) (W : Nat → Prop) (m : Nat → Option Nat) (a b : Nat) : Prop := W a ∧ W b ∧ b ∈ gl G a ∧ (ow G a = p → m a = some b)
/-- in the part X p wins all of W by the moves m -/
structure Win (G : List Spt) (X : Nat → Prop) (p : Nat) (W : Nat → Prop) (m : Nat → Option Nat) : Prop where
  sub : ∀ k, W k → X k
  mine : ∀ k, W k → ow G k = p → ∃ g, m k = some g ∧ g ∈ gl G k ∧ W g
  other : ∀ k, W k → ow G k ≠ p → ∀ g, g ∈ gl G k → X g → W g
  cyc : ∀ a M, W a → Run (Steps G p W m) (lv G) a a M → M % 2 = p
/-- F is what p draws to T within X -/
structure Att (G : List Spt) (X : Nat → Prop) (p : Nat) (T F : Nat → Prop) (m : Nat → Option Nat) : Prop where
  sub : ∀ k, F k → X k
  tgt : ∀ k, T k → F k
  rk : ∃ rank : Nat → Nat, ∀ k, F k → ¬ T k → (ow G k = p → ∃ g, m k = some g ∧ g ∈ gl G k ∧ F g ∧ rank g < rank k) ∧ (ow G k ≠ p → ∀ g, g ∈ gl G k → X g → F g ∧ rank g < rank k)
  out : ∀ k, X k → ¬ F k → (ow G k = p → ∀ g, g ∈ gl G k → ¬ F g) ∧ (ow G k ≠ p → ∃ g, g ∈ gl G k ∧ X g ∧ ¬ F g)
section
variable {G : List Spt} {X : Nat → Prop} {p : Nat} {W N : Nat → Prop} {m m' : Nat → Option Nat}
/-- closed: p's moves and the other's steps stay -/
theorem Win.closed (h : Win G X p W m) {k g : Nat} (hk : W k) (hg : g ∈ gl G k) (hx : X g) (hm : ow G k = p → m k = some g) : W g := by
  by_cases o : ow G k = p
  · obtain ⟨g', e, _, w⟩ := h.mine k hk o
    rw [hm o] at e
    cases e
    exact w
  · exact h.other k hk o g hg hx
/-- a layer N is laid beneath W: N's own walk is won, and out of N leads nothing but into N or W -/
theorem Win.layer (h : Win G X p W m) (hm : ∀ k, W k → m' k = m k) (hN : ∀ k, N k → X k) (mine : ∀ k, N k → ow G k = p → ∃ g, m' k = some g ∧ g ∈ gl G k ∧ N g)
    (other : ∀ k, N k → ow G k ≠ p → ∀ g, g ∈ gl G k → X g → N g ∨ W g) (cyc : ∀ a M, N a → Run (Steps G p N m') (lv G) a a M → M % 2 = p) : Win G X p (fun k => W k ∨ N k) m' where
  sub := fun k z => z.elim (h.sub k) (hN k)
  mine := fun k z o => by
    rcases z with z | z
    · obtain ⟨g, e, a, b⟩ := h.mine k z o
      exact ⟨g, by rw [hm k z]; exact e, a, .inl b⟩
    · obtain ⟨g, e, a, b⟩ := mine k z o
      exact ⟨g, e, a, .inr b⟩
  other := fun k z o g hg hx => by
    rcases z with z | z
    · exact .inl (h.other k z o g hg hx)
    · exact (other k z o g hg hx).symm
  cyc := fun a M ha r => by
    classical
    have cl : ∀ x y, W x → Steps G p (fun k => W k ∨ N k) m' x y → W y := fun x y hx ⟨_, hy, hg, hs⟩ => h.closed hx hg (hy.elim (h.sub y) (hN y)) fun o => by rw [← hm x hx]; exact hs o
    by_cases wa : W a
    · refine h.cyc a M wa (((r.inside cl wa).1).mono ?_)
      rintro x y ⟨⟨_, _, hg, hs⟩, wx, wy⟩
      exact ⟨wx, wy, hg, fun o => by rw [← hm x wx]; exact hs o⟩
    · refine cyc a M (ha.resolve_left wa) (((r.outside cl wa).1).mono ?_)
      rintro x y ⟨⟨hx, hy, hg, hs⟩, nx, ny⟩
      exact ⟨hx.resolve_left nx, hy.resolve_left ny, hg, hs⟩
/-- all that is left, N, is p's, if what it does not draw to the tops is -/
theorem Win.all {T F : Nat → Prop} {own steps : Nat → Option Nat} {top : Nat} (h : Win G X p W m) (hm : ∀ k, W k → m' k = m k) (hN : ∀ k, N k → X k)
    (trap : ∀ k, N k → ow G k ≠ p → ∀ g, g ∈ gl G k → X g → N g ∨ W g) (tp : top % 2 = p) (ht : ∀ k, N k → lv G k ≤ top) (hT : ∀ k, T k → N k ∧ lv G k = top) (A : Att G N p T F own) (I : Win G (fun k => N k ∧ ¬ F k) p (fun k => N k ∧ ¬ F k) steps)
    (m1 : ∀ k, N k → ¬ F k → ow G k = p → m' k = steps k) (m2 : ∀ k, F k → ¬ T k → ow G k = p → m' k = own k) (m3 : ∀ k, T k → ow G k = p → ∃ g, m' k = some g ∧ g ∈ gl G k ∧ N g) : Win G X p (fun k => W k ∨ N k) m' := by
  classical
  refine h.layer hm hN (fun k hk o => ?_) trap fun a M ha r => ?_
  · by_cases f : F k
    · by_cases t : T k
      · exact m3 k t o
      · obtain ⟨rank, rk⟩ := A.rk
        obtain ⟨g, e, a, b, _⟩ := (rk k f t).1 o
        exact ⟨g, by rw [m2 k f t o]; exact e, a, A.sub g b⟩
    · obtain ⟨g, e, a, b⟩ := I.mine k ⟨hk, f⟩ o
      exact ⟨g, by rw [m1 k hk f o]; exact e, a, b.1⟩
  · have le : M ≤ top := r.le fun x y s => ht x s.1
    rcases r.meets T (top := top) (fun x t => Nat.le_of_eq (hT x t).2.symm) with ge | r
    · rw [Nat.le_antisymm le ge]; exact tp
    · obtain ⟨rank, rk⟩ := A.rk
      have falls : ∀ x y, F x → (Steps G p N m' x y ∧ ¬ T x) → F y ∧ rank y < rank x := fun x y f ⟨⟨_, ny, hg, hs⟩, t⟩ => by
        by_cases o : ow G x = p
        · obtain ⟨g, e, _, b, c⟩ := (rk x f t).1 o
          have := hs o
          rw [m2 x f t o, e] at this
          cases this
          exact ⟨b, c⟩
        · exact (rk x f t).2 o y hg ny
      have nf : ¬ F a := fun f => Nat.lt_irrefl _ (r.falls falls f).2
      refine I.cyc a M ⟨ha, nf⟩ (((r.outside (P := F) (fun x y f s => (falls x y f s).1) nf).1).mono ?_)
      rintro x y ⟨⟨⟨nx, ny, hg, hs⟩, _⟩, fx, fy⟩
      exact ⟨⟨nx, fx⟩, ⟨ny, fy⟩, hg, fun o => by rw [← m1 x nx fx o]; exact hs o⟩
/-- what q draws to what it wins beside p's tops -/
theorem Win.far {q : Nat} {Fp F : Nat → Prop} {J : Nat → Prop} {lost steps : Nat → Option Nat} (h : Win G X q W m) (hm : ∀ k, W k → m' k = m k) (hN : ∀ k, N k → X k)
    (trap : ∀ k, N k → ow G k ≠ q → ∀ g, g ∈ gl G k → X g → N g ∨ W g) (apart : ∀ k, N k → ¬ Fp k → ow G k ≠ q → ∀ g, g ∈ gl G k → ¬ Fp g) (I : Win G (fun k => N k ∧ ¬ Fp k) q J steps) (A : Att G N q J F lost)
    (m1 : ∀ k, J k → ow G k = q → m' k = steps k) (m2 : ∀ k, F k → ¬ J k → ow G k = q → m' k = lost k) : Win G X q (fun k => W k ∨ F k) m' := by
  classical
  refine h.layer hm (fun k f => hN k (A.sub k f)) (fun k f o => ?_) (fun k f o g hg hx => ?_) fun a M ha r => ?_
  · by_cases j : J k
    · obtain ⟨g, e, a, b⟩ := I.mine k j o
      exact ⟨g, by rw [m1 k j o]; exact e, a, A.tgt g b⟩
    · obtain ⟨rank, rk⟩ := A.rk
      obtain ⟨g, e, a, b, _⟩ := (rk k f j).1 o
      exact ⟨g, by rw [m2 k f j o]; exact e, a, b⟩
  · rcases trap k (A.sub k f) o g hg hx with ng | wg
    · by_cases j : J k
      · have := I.sub k j
        exact .inl (A.tgt g (I.other k j o g hg ⟨ng, apart k this.1 this.2 o g hg⟩))
      · obtain ⟨rank, rk⟩ := A.rk
        exact .inl ((rk k f j).2 o g hg ng).1
    · exact .inr wg
  · obtain ⟨rank, rk⟩ := A.rk
    have cl : ∀ x y, J x → Steps G q F m' x y → J y := fun x y j ⟨_, fy, hg, hs⟩ => by
      have nj := I.sub x j
      by_cases o : ow G x = q
      · obtain ⟨g, e, _, b⟩ := I.mine x j o
        have := hs o
        rw [m1 x j o, e] at this
        cases this
        exact b
      · exact I.other x j o y hg ⟨A.sub y fy, apart x nj.1 nj.2 o y hg⟩
    by_cases j : J a
    · refine I.cyc a M j (((r.inside cl j).1).mono ?_)
      rintro x y ⟨⟨_, _, hg, hs⟩, jx, jy⟩
      exact ⟨jx, jy, hg, fun o => by rw [← m1 x jx o]; exact hs o⟩
    · have r2 := (r.outside cl j).1
      have falls : ∀ x y, (F x ∧ ¬ J x) → (Steps G q F m' x y ∧ ¬ J x ∧ ¬ J y) → (F y ∧ ¬ J y) ∧ rank y < rank x := fun x y ⟨f, jx⟩ ⟨⟨_, fy, hg, hs⟩, _, jy⟩ => by
        by_cases o : ow G x = q
        · obtain ⟨g, e, _, b, c⟩ := (rk x f jx).1 o
          have := hs o
          rw [m2 x f jx o, e] at this
          cases this
          exact ⟨⟨fy, jy⟩, c⟩
        · exact ⟨⟨fy, jy⟩, ((rk x f jx).2 o y hg (A.sub y fy)).2⟩
      exact absurd (r2.falls falls ⟨ha, j⟩).2 (Nat.lt_irrefl _)
end
/-- nobody wins what the other wins -/
theorem Win.apart {G : List Spt} {n : Nat} {W0 W1 : Nat → Prop} {m0 m1 : Nat → Option Nat} (hg : ∀ k g, k < n → g ∈ gl G k → g < n) (ho : ∀ k, k < n → ow G k ≤ 1) (h0 : Win G (fun k => k < n) 0 W0 m0) (h1 : Win G (fun k => k < n) 1 W1 m1) (k : Nat) (k0 : W0 k) (k1 : W1 k) : False := by
  let nx : Nat → Nat := fun k => if ow G k = 0 then (m0 k).getD 0 else (m1 k).getD 0
  by_cases all : ∀ k, W0 k → W1 k → ow G k = 0 ∨ ow G k = 1
  · have st : ∀ x, W0 x → W1 x → W0 (nx x) ∧ W1 (nx x) ∧ Steps G 0 W0 m0 x (nx x) ∧ Steps G 1 W1 m1 x (nx x) := fun x a b => by
      have hx := h0.sub x a
      rcases all x a b with o | o
      · obtain ⟨g, e, c, d⟩ := h0.mine x a o
        have en : nx x = g := by show (if ow G x = 0 then _ else _) = g; rw [if_pos o, e]; rfl
        have w1 := h1.other x b (by rw [o]; decide) g c (hg x g hx c)
        rw [en]
        exact ⟨d, w1, ⟨a, d, c, fun _ => e⟩, b, w1, c, fun z => by rw [o] at z; cases z⟩
      · obtain ⟨g, e, c, d⟩ := h1.mine x b o
        have en : nx x = g := by show (if ow G x = 0 then _ else _) = g; rw [if_neg (by rw [o]; decide), e]; rfl
        have w0 := h0.other x a (by rw [o]; decide) g c (hg x g hx c)
        rw [en]
        exact ⟨w0, d, ⟨a, w0, c, fun z => by rw [o] at z; cases z⟩, b, d, c, fun _ => e⟩
    have its : ∀ t, W0 (it nx t k) ∧ W1 (it nx t k) := fun t => by
      induction t with
      | zero => exact ⟨k0, k1⟩
      | succ t ih => exact ⟨(st _ ih.1 ih.2).1, (st _ ih.1 ih.2).2.1⟩
    have runs : ∀ i d, ∃ M, Run (Steps G 0 W0 m0) (lv G) (it nx i k) (it nx (i + d + 1) k) M ∧ Run (Steps G 1 W1 m1) (lv G) (it nx i k) (it nx (i + d + 1) k) M := fun i d => by
      induction d generalizing i with
      | zero =>
        have s := st _ (its i).1 (its i).2
        exact ⟨_, .one s.2.2.1, .one s.2.2.2⟩
      | succ d ih =>
        obtain ⟨M, r0, r1⟩ := ih (i + 1)
        have s := st _ (its i).1 (its i).2
        have e : i + 1 + d + 1 = i + (d + 1) + 1 := by omega
        rw [e] at r0 r1
        exact ⟨_, .cons s.2.2.1 r0, .cons s.2.2.2 r1⟩
    have pig : ∃ i j, i < j ∧ it nx i k = it nx j k := by
      classical
      refine Classical.byContradiction fun no => ?_
      have nd : ((List.range (n + 1)).map fun t => it nx t k).Nodup := by
        rw [List.nodup_iff_pairwise_ne, List.pairwise_map]
        exact List.pairwise_lt_range.imp fun {a b} h e => no ⟨a, b, h, e⟩
      have := SD.subset_len (ls := List.range n) nd fun x hx => by
        obtain ⟨t, _, rfl⟩ := List.mem_map.mp hx
        exact List.mem_range.mpr (h0.sub _ (its t).1)
      rw [List.length_map, List.length_range, List.length_range] at this
      omega
    obtain ⟨i, j, hij, e⟩ := pig
    obtain ⟨M, r0, r1⟩ := runs i (j - i - 1)
    have ej : i + (j - i - 1) + 1 = j := by omega
    rw [ej, ← e] at r0 r1
    have a := h0.cyc _ M (its i).1 r0
    have b := h1.cyc _ M (its i).2 r1
    omega
  · exact all fun x a b => by
      have := ho x (h0.sub x a)
      omega
theorem Run.shift {E : Nat → Nat → Prop} {lev lev' : Nat → Nat} {c a b M : Nat} (h : Run E lev' a b M) (w : ∀ x y, E x y → lev' x = lev x + c) : ∃ M', M = M' + c ∧ Run E lev a b M' := by
  induction h with
  | one e => exact ⟨_, w _ _ e, .one e⟩
  | cons e _ ih =>
    obtain ⟨M', rfl, r⟩ := ih
    exact ⟨_, by rw [w _ _ e]; omega, .cons e r⟩
/-- the same spots, all levels higher by c, and the sides the same or changed -/
theorem Win.shift {G G' : List Spt} {X : Nat → Prop} {p p' c : Nat} {W : Nat → Prop} {m : Nat → Option Nat} (h : Win G X p W m) (hp : (p + c) % 2 = p') (ho : ∀ k, X k → (ow G' k = p' ↔ ow G k = p)) (hg : ∀ k, X k → gl G' k = gl G k) (hl : ∀ k, X k → lv G' k = lv G k + c) : Win G' X p' W m where
  sub := h.sub
  mine := fun k z o => by
    obtain ⟨g, e, a, b⟩ := h.mine k z ((ho k (h.sub k z)).mp o)
    exact ⟨g, e, by rw [hg k (h.sub k z)]; exact a, b⟩
  other := fun k z o g a hx => h.other k z (fun q => o ((ho k (h.sub k z)).mpr q)) g (by rw [← hg k (h.sub k z)]; exact a) hx
  cyc := fun a M ha r => by
    obtain ⟨M', eM, r2⟩ := r.shift (lev := lv G) (c := c) fun x y s => hl x (h.sub x s.1)
    have := h.cyc a M' ha (r2.mono fun x y ⟨hx, hy, hgm, hs⟩ => ⟨hx, hy, by rw [← hg x (h.sub x hx)]; exact hgm, fun o => hs ((ho x (h.sub x hx)).mpr o)⟩)
    omega
end PG
/-! SM5: parts of a saying, their names and levels, in plain words. -/
namespace PG
/-- all parts, outer ones first -/
def Fm.pre : Fm → List Fm
  | .both a b => .both a b :: (a.pre ++ b.pre)
  | .either a b => .either a b :: (a.pre ++ b.pre)
  | .some j a => .some j a :: a.pre
  | .all j a => .all j a :: a.pre
  | .least x a => .least x a :: a.pre
  | .greatest x a => .greatest x a :: a.pre
  | .yes => [.yes]
  | .no => [.no]
  | .is i => [.is i]
  | .isnt i => [.isnt i]
  | .name x => [.name x]
theorem pre_parts (f : Fm) : f.pre = f :: f.parts.flatMap Fm.pre := by
  cases f <;> simp [Fm.pre, Fm.parts]
theorem pre_self (f : Fm) : f ∈ f.pre := by rw [pre_parts]; exact List.mem_cons_self
theorem pre_sub {f g h : Fm} (hg : g ∈ f.parts) (hh : h ∈ g.pre) : h ∈ f.pre := by
  rw [pre_parts]; exact List.mem_cons_of_mem _ (List.mem_flatMap.mpr ⟨g, hg, hh⟩)
theorem pre_cases {f h : Fm} (hh : h ∈ f.pre) : h = f ∨ ∃ g, g ∈ f.parts ∧ h ∈ g.pre := by
  rw [pre_parts] at hh
  rcases List.mem_cons.mp hh with e | e
  · exact .inl e
  · obtain ⟨g, a, b⟩ := List.mem_flatMap.mp e
    exact .inr ⟨g, a, b⟩
theorem pre_trans : ∀ {f g h : Fm}, g ∈ f.pre → h ∈ g.pre → h ∈ f.pre := by
  intro f
  have key : ∀ (n : Nat) (f g h : Fm), f.sz ≤ n → g ∈ f.pre → h ∈ g.pre → h ∈ f.pre := by
    intro n
    induction n with
    | zero => intro f g h hn; have := sz_pos f; omega
    | succ n ih =>
      intro f g h hn hg hh
      rcases pre_cases hg with rfl | ⟨k, hk, hg⟩
      · exact hh
      · refine pre_sub hk (ih k g h ?_ hg hh)
        have : k.sz < f.sz := by
          cases f <;> simp only [Fm.parts, List.mem_cons, List.not_mem_nil, or_false] at hk <;> simp only [Fm.sz]
          all_goals first | (subst hk; omega) | (rcases hk with rfl | rfl <;> omega)
        omega
  exact fun {g h} => key f.sz f g h (Nat.le_refl _)
theorem part_sz {f g : Fm} (h : g ∈ f.parts) : g.sz < f.sz := by
  cases f <;> simp only [Fm.parts, List.mem_cons, List.not_mem_nil, or_false] at h <;> simp only [Fm.sz]
  all_goals first | (subst h; omega) | (rcases h with rfl | rfl <;> omega)
theorem pre_sz : ∀ {f g : Fm}, g ∈ f.pre → g.sz ≤ f.sz := by
  have key : ∀ (n : Nat) (f g : Fm), f.sz ≤ n → g ∈ f.pre → g.sz ≤ f.sz := by
    intro n
    induction n with
    | zero => intro f g hn; have := sz_pos f; omega
    | succ n ih =>
      intro f g hn hg
      rcases pre_cases hg with rfl | ⟨k, hk, hg⟩
      · exact Nat.le_refl _
      · have := part_sz hk
        have := ih k g (by omega) hg
        omega
  exact fun {f g} => key f.sz f g (Nat.le_refl _)
theorem pre_dp : ∀ {f g : Fm}, g ∈ f.pre → g.dp ≤ f.dp := by
  have key : ∀ (n : Nat) (f g : Fm), f.sz ≤ n → g ∈ f.pre → g.dp ≤ f.dp := by
    intro n
    induction n with
    | zero => intro f g hn; have := sz_pos f; omega
    | succ n ih =>
      intro f g hn hg
      rcases pre_cases hg with rfl | ⟨k, hk, hg⟩
      · exact Nat.le_refl _
      · have := part_sz hk
        have := ih k g (by omega) hg
        have := parts_dp hk
        omega
  exact fun {f g} => key f.sz f g (Nat.le_refl _)
/-- what stands behind a part's own parts -/
theorem pre_after : ∀ (n : Nat) (f : Fm) (l1 : List Fm) (B : Fm) (l2 : List Fm), f.sz ≤ n → f.pre = l1 ++ B :: l2 → ∀ g, g ∈ B.parts → ∀ C, C ∈ g.pre → C ∈ l2 := by
  intro n
  induction n with
  | zero => intro f l1 B l2 hn; have := sz_pos f; omega
  | succ n ih =>
    intro f l1 B l2 hn e g hg C hC
    rw [pre_parts] at e
    cases l1 with
    | nil =>
      rw [List.nil_append] at e
      injection e with e1 e2
      subst e1
      rw [← e2]
      exact List.mem_flatMap.mpr ⟨g, hg, hC⟩
    | cons x l1 =>
      rw [List.cons_append] at e
      injection e with _ e
      have key : ∀ (ps : List Fm) (l1 l2 : List Fm), (∀ p ∈ ps, p.sz ≤ n) → ps.flatMap Fm.pre = l1 ++ B :: l2 → C ∈ l2 := by
        intro ps
        induction ps with
        | nil => intro l1 l2 _ e; simp at e
        | cons p ps ih2 =>
          intro l1 l2 hp e
          rw [List.flatMap_cons] at e
          rcases List.append_eq_append_iff.mp e with ⟨m, e1, e2⟩ | ⟨m, e1, e2⟩
          · exact ih2 m l2 (fun q hq => hp q (List.mem_cons_of_mem _ hq)) e2
          · cases m with
            | nil =>
              rw [List.nil_append] at e2
              rw [List.append_nil] at e1
              refine ih2 [] l2 (fun q hq => hp q (List.mem_cons_of_mem _ hq)) e2.symm
            | cons y m =>
              rw [List.cons_append] at e2
              injection e2 with e3 e4
              subst e3
              rw [e4]
              exact List.mem_append.mpr (.inl (ih p l1 B m (hp p List.mem_cons_self) e1 g hg C hC))
      exact key f.parts l1 l2 (fun p hp => by have := part_sz hp; omega) e
/-- a binder's name and what it stands before -/
def Fm.bd : Fm → Option (Nat × Fm)
  | .least x a => Option.some (x, a)
  | .greatest x a => Option.some (x, a)
  | _ => Option.none
theorem bnds_pre : ∀ f : Fm, f.bnds = f.pre.filterMap fun g => g.bd.map (·.1)
  | .yes | .no | .is _ | .isnt _ | .name _ => rfl
  | .both a b | .either a b => by
    rw [Fm.bnds, Fm.pre, List.filterMap_cons]
    show _ = (a.pre ++ b.pre).filterMap _
    rw [List.filterMap_append, bnds_pre a, bnds_pre b]
  | .some _ a | .all _ a => by
    rw [Fm.bnds, Fm.pre, List.filterMap_cons]
    exact bnds_pre a
  | .least x a | .greatest x a => by
    rw [Fm.bnds, Fm.pre, List.filterMap_cons]
    show _ = x :: a.pre.filterMap _
    rw [bnds_pre a]
theorem filterMap_one {α β : Type} {g : α → Option β} : ∀ {l : List α}, (l.filterMap g).Nodup → ∀ {a b : α} {x : β}, a ∈ l → b ∈ l → g a = Option.some x → g b = Option.some x → a = b
  | [], _, a, b, x, h, _, _, _ => by cases h
  | c :: l, nd, a, b, x, ha, hb, ea, eb => by
    rw [List.filterMap_cons] at nd
    have mem : ∀ {d : α}, d ∈ l → g d = Option.some x → x ∈ l.filterMap g := fun h e => List.mem_filterMap.mpr ⟨_, h, e⟩
    cases e : g c with
    | none =>
      rw [e] at nd
      rcases List.mem_cons.mp ha with rfl | ha
      · rw [e] at ea; cases ea
      · rcases List.mem_cons.mp hb with rfl | hb
        · rw [e] at eb; cases eb
        · exact filterMap_one nd ha hb ea eb
    | some y =>
      rw [e] at nd
      rw [List.nodup_cons] at nd
      rcases List.mem_cons.mp ha with rfl | ha
      · rcases List.mem_cons.mp hb with rfl | hb
        · rfl
        · rw [e] at ea; cases ea
          exact absurd (mem hb eb) nd.1
      · rcases List.mem_cons.mp hb with e2 | hb
        · rw [e2, e] at eb; cases eb
          exact absurd (mem ha ea) nd.1
        · exact filterMap_one nd.2 ha hb ea eb
theorem bd_one {f B C : Fm} (nd : f.bnds.Nodup) {x : Nat} {a b : Fm} (hB : B ∈ f.pre) (hC : C ∈ f.pre) (eB : B.bd = Option.some (x, a)) (eC : C.bd = Option.some (x, b)) : B = C := by
  rw [bnds_pre] at nd
  exact filterMap_one nd hB hC (by rw [eB]; rfl) (by rw [eC]; rfl)
/-- the level of the outermost binder -/
def mx : Fm → Nat
  | .both a b => max (mx a) (mx b)
  | .either a b => max (mx a) (mx b)
  | .some _ a => mx a
  | .all _ a => mx a
  | .least _ a => if max (mx a) 1 % 2 = 1 then max (mx a) 1 else max (mx a) 1 + 1
  | .greatest _ a => if max (mx a) 2 % 2 = 0 then max (mx a) 2 else max (mx a) 2 + 1
  | _ => 0
theorem mx_part {f g : Fm} (h : g ∈ f.parts) : mx g ≤ mx f := by
  cases f <;> simp only [Fm.parts, List.mem_cons, List.not_mem_nil, or_false] at h <;> simp only [mx]
  all_goals first | (subst h; exact Nat.le_refl _) | (subst h; split <;> omega) | (rcases h with rfl | rfl <;> omega)
theorem mx_pre : ∀ {f g : Fm}, g ∈ f.pre → mx g ≤ mx f := by
  have key : ∀ (n : Nat) (f g : Fm), f.sz ≤ n → g ∈ f.pre → mx g ≤ mx f := by
    intro n
    induction n with
    | zero => intro f g hn; have := sz_pos f; omega
    | succ n ih =>
      intro f g hn hg
      rcases pre_cases hg with rfl | ⟨k, hk, hg⟩
      · exact Nat.le_refl _
      · have := part_sz hk
        exact Nat.le_trans (ih k g (by omega) hg) (mx_part hk)
  exact fun {f g} => key f.sz f g (Nat.le_refl _)
theorem mx_is : ∀ f : Fm, mx f = 0 ∨ ∃ B, B ∈ f.pre ∧ B.bd ≠ Option.none ∧ mx B = mx f
  | .yes | .no | .is _ | .isnt _ | .name _ => .inl rfl
  | .both a b | .either a b => by
    simp only [mx]
    by_cases h : mx b ≤ mx a
    · rw [Nat.max_eq_left h]
      rcases mx_is a with e | ⟨B, h1, h2, h3⟩
      · exact .inl e
      · exact .inr ⟨B, pre_sub (by simp [Fm.parts]) h1, h2, h3⟩
    · rw [Nat.max_eq_right (by omega)]
      rcases mx_is b with e | ⟨B, h1, h2, h3⟩
      · exact .inl e
      · exact .inr ⟨B, pre_sub (g := b) (by simp [Fm.parts]) h1, h2, h3⟩
  | .some _ a | .all _ a => by
    simp only [mx]
    rcases mx_is a with e | ⟨B, h1, h2, h3⟩
    · exact .inl e
    · exact .inr ⟨B, pre_sub (g := a) (by simp [Fm.parts]) h1, h2, h3⟩
  | .least x a => .inr ⟨_, pre_self _, by simp [Fm.bd], rfl⟩
  | .greatest x a => .inr ⟨_, pre_self _, by simp [Fm.bd], rfl⟩
theorem mx_dp : ∀ f : Fm, mx f ≤ f.dp + 1
  | .yes | .no | .is _ | .isnt _ | .name _ => by simp [mx]
  | .both a b | .either a b => by
    have := mx_dp a
    have := mx_dp b
    simp only [mx, Fm.dp]; omega
  | .some _ a | .all _ a => by
    have := mx_dp a
    simp only [mx, Fm.dp]; omega
  | .least _ a | .greatest _ a => by
    have := mx_dp a
    have : 1 ≤ a.dp := by cases a <;> simp [Fm.dp]
    simp only [mx, Fm.dp]; split <;> omega
theorem mx_least (x : Nat) (a : Fm) : mx (.least x a) % 2 = 1 := by simp only [mx]; split <;> omega
theorem mx_greatest (x : Nat) (a : Fm) : mx (.greatest x a) % 2 = 0 := by simp only [mx]; split <;> omega
/-! ### names and their binders -/
theorem sc_name {L0 L1 : Nat} : ∀ (f : Fm) (sc : List Nat), Sc L0 L1 sc f → ∀ y, Fm.name y ∈ f.pre → y ∈ sc ∨ ∃ B a, B ∈ f.pre ∧ B.bd = Option.some (y, a) ∧ Fm.name y ∈ a.pre
  | .yes, _, _, y, h => by simp [Fm.pre] at h
  | .no, _, _, y, h => by simp [Fm.pre] at h
  | .is _, _, _, y, h => by simp [Fm.pre] at h
  | .isnt _, _, _, y, h => by simp [Fm.pre] at h
  | .name x, sc, hs, y, h => by
    simp [Fm.pre] at h
    subst h
    exact .inl hs
  | .both a b, sc, hs, y, h => by
    rcases pre_cases h with e | ⟨g, hg, hh⟩
    · cases e
    · simp only [Fm.parts, List.mem_cons, List.not_mem_nil, or_false] at hg
      rcases hg with e | e
      · rw [e] at hh
        exact (sc_name a sc hs.1 y hh).imp id fun ⟨B, c, h1, h2⟩ => ⟨B, c, pre_sub (g := a) (by simp [Fm.parts]) h1, h2⟩
      · rw [e] at hh
        exact (sc_name b sc hs.2 y hh).imp id fun ⟨B, c, h1, h2⟩ => ⟨B, c, pre_sub (g := b) (by simp [Fm.parts]) h1, h2⟩
  | .either a b, sc, hs, y, h => by
    rcases pre_cases h with e | ⟨g, hg, hh⟩
    · cases e
    · simp only [Fm.parts, List.mem_cons, List.not_mem_nil, or_false] at hg
      rcases hg with e | e
      · rw [e] at hh
        exact (sc_name a sc hs.1 y hh).imp id fun ⟨B, c, h1, h2⟩ => ⟨B, c, pre_sub (g := a) (by simp [Fm.parts]) h1, h2⟩
      · rw [e] at hh
        exact (sc_name b sc hs.2 y hh).imp id fun ⟨B, c, h1, h2⟩ => ⟨B, c, pre_sub (g := b) (by simp [Fm.parts]) h1, h2⟩
  | .some j a, sc, hs, y, h => by
    rcases pre_cases h with e | ⟨g, hg, hh⟩
    · cases e
    · simp only [Fm.parts, List.mem_cons, List.not_mem_nil, or_false] at hg
      rw [hg] at hh
      exact (sc_name a sc hs.2 y hh).imp id fun ⟨B, c, h1, h2⟩ => ⟨B, c, pre_sub (g := a) (by simp [Fm.parts]) h1, h2⟩
  | .all j a, sc, hs, y, h => by
    rcases pre_cases h with e | ⟨g, hg, hh⟩
    · cases e
    · simp only [Fm.parts, List.mem_cons, List.not_mem_nil, or_false] at hg
      rw [hg] at hh
      exact (sc_name a sc hs.2 y hh).imp id fun ⟨B, c, h1, h2⟩ => ⟨B, c, pre_sub (g := a) (by simp [Fm.parts]) h1, h2⟩
  | .least x a, sc, hs, y, h => by
    rcases pre_cases h with e | ⟨g, hg, hh⟩
    · cases e
    · simp only [Fm.parts, List.mem_cons, List.not_mem_nil, or_false] at hg
      rw [hg] at hh
      rcases sc_name a (x :: sc) hs y hh with z | ⟨B, c, h1, h2⟩
      · rcases List.mem_cons.mp z with e | z
        · rw [e] at hh ⊢
          exact .inr ⟨_, a, pre_self _, rfl, hh⟩
        · exact .inl z
      · exact .inr ⟨B, c, pre_sub (g := a) (by simp [Fm.parts]) h1, h2⟩
  | .greatest x a, sc, hs, y, h => by
    rcases pre_cases h with e | ⟨g, hg, hh⟩
    · cases e
    · simp only [Fm.parts, List.mem_cons, List.not_mem_nil, or_false] at hg
      rw [hg] at hh
      rcases sc_name a (x :: sc) hs y hh with z | ⟨B, c, h1, h2⟩
      · rcases List.mem_cons.mp z with e | z
        · rw [e] at hh ⊢
          exact .inr ⟨_, a, pre_self _, rfl, hh⟩
        · exact .inl z
      · exact .inr ⟨B, c, pre_sub (g := a) (by simp [Fm.parts]) h1, h2⟩
end PG
/-! SM6: walks round a saying's parts. -/
namespace PG
theorem bd_part {B c : Fm} {x : Nat} (h : B.bd = Option.some (x, c)) : c ∈ B.parts ∧ ∀ g ∈ B.parts, g = c := by
  cases B <;> simp [Fm.bd] at h
  all_goals (obtain ⟨_, rfl⟩ := h; simp [Fm.parts])
theorem bd_pre {B c h : Fm} {x : Nat} (e : B.bd = Option.some (x, c)) (hh : h ∈ B.pre) : h = B ∨ h ∈ c.pre := by
  rcases pre_cases hh with r | ⟨g, hg, hh⟩
  · exact .inl r
  · rw [(bd_part e).2 g hg] at hh
    exact .inr hh
/-- where a name in a part is bound -/
theorem scope {L0 L1 : Nat} : ∀ (n : Nat) (f : Fm) (sc : List Nat), f.sz ≤ n → Sc L0 L1 sc f → ∀ h, h ∈ f.pre → ∀ y, Fm.name y ∈ h.pre → (∃ B c, B ∈ h.pre ∧ B.bd = Option.some (y, c)) ∨ y ∈ sc ∨ ∃ B c, B ∈ f.pre ∧ B.bd = Option.some (y, c) ∧ h ∈ c.pre := by
  intro n
  induction n with
  | zero => intro f sc hn; have := sz_pos f; omega
  | succ n ih =>
    intro f sc hn hs h hh y hy
    rcases pre_cases hh with rfl | ⟨g, hg, hh2⟩
    · rcases sc_name h sc hs y hy with z | ⟨B, c, h1, h2, _⟩
      · exact .inr (.inl z)
      · exact .inl ⟨B, c, h1, h2⟩
    · have hz := part_sz hg
      have lift : ∀ sc', Sc L0 L1 sc' g → (y ∈ sc' → y ∈ sc ∨ ∃ B c, B ∈ f.pre ∧ B.bd = Option.some (y, c) ∧ h ∈ c.pre) → (∃ B c, B ∈ h.pre ∧ B.bd = Option.some (y, c)) ∨ y ∈ sc ∨ ∃ B c, B ∈ f.pre ∧ B.bd = Option.some (y, c) ∧ h ∈ c.pre := fun sc' hs' w => by
        rcases ih g sc' (by omega) hs' h hh2 y hy with z | z | ⟨B, c, h1, h2, h3⟩
        · exact .inl z
        · exact .inr (w z)
        · exact .inr (.inr ⟨B, c, pre_sub hg h1, h2, h3⟩)
      cases f with
      | both a b =>
        simp only [Fm.parts, List.mem_cons, List.not_mem_nil, or_false] at hg
        rcases hg with rfl | rfl
        · exact lift sc hs.1 .inl
        · exact lift sc hs.2 .inl
      | either a b =>
        simp only [Fm.parts, List.mem_cons, List.not_mem_nil, or_false] at hg
        rcases hg with rfl | rfl
        · exact lift sc hs.1 .inl
        · exact lift sc hs.2 .inl
      | some j a =>
        simp only [Fm.parts, List.mem_cons, List.not_mem_nil, or_false] at hg
        subst hg
        exact lift sc hs.2 .inl
      | all j a =>
        simp only [Fm.parts, List.mem_cons, List.not_mem_nil, or_false] at hg
        subst hg
        exact lift sc hs.2 .inl
      | least x a =>
        simp only [Fm.parts, List.mem_cons, List.not_mem_nil, or_false] at hg
        subst hg
        refine lift (x :: sc) hs fun z => ?_
        rcases List.mem_cons.mp z with rfl | z
        · exact .inr ⟨_, g, pre_self _, rfl, hh2⟩
        · exact .inl z
      | greatest x a =>
        simp only [Fm.parts, List.mem_cons, List.not_mem_nil, or_false] at hg
        subst hg
        refine lift (x :: sc) hs fun z => ?_
        rcases List.mem_cons.mp z with rfl | z
        · exact .inr ⟨_, g, pre_self _, rfl, hh2⟩
        · exact .inl z
      | yes => simp [Fm.parts] at hg
      | no => simp [Fm.parts] at hg
      | is i => simp [Fm.parts] at hg
      | isnt i => simp [Fm.parts] at hg
      | name i => simp [Fm.parts] at hg
/-- from part to part -/
def PStep (f g h : Fm) : Prop := h ∈ g.parts ∨ ∃ x B, g = .name x ∧ B ∈ f.pre ∧ B.bd = Option.some (x, h)
inductive Walk (E : Nat → Nat → Prop) : Nat → Nat → List Nat → Prop
  | one {a b : Nat} : E a b → Walk E a b [a]
  | cons {a b c : Nat} {vs : List Nat} : E a b → Walk E b c vs → Walk E a c (a :: vs)
section
variable {E : Nat → Nat → Prop} {lev : Nat → Nat} {a b M : Nat} {vs : List Nat}
theorem Run.walk (h : Run E lev a b M) : ∃ vs, Walk E a b vs ∧ (∀ v ∈ vs, lev v ≤ M) ∧ ∃ v ∈ vs, lev v = M := by
  induction h with
  | one e => exact ⟨_, .one e, fun v hv => by rw [List.mem_singleton] at hv; rw [hv]; exact Nat.le_refl _, _, List.mem_singleton.mpr rfl, rfl⟩
  | @cons a b c M e _ ih =>
    obtain ⟨vs, w, le, v, hv, ev⟩ := ih
    refine ⟨a :: vs, .cons e w, fun u hu => ?_, ?_⟩
    · rcases List.mem_cons.mp hu with rfl | hu
      · exact Nat.le_max_left _ _
      · exact Nat.le_trans (le u hu) (Nat.le_max_right _ _)
    · by_cases z : lev a ≤ M
      · exact ⟨v, List.mem_cons_of_mem _ hv, by rw [ev, Nat.max_eq_right z]⟩
      · exact ⟨a, List.mem_cons_self, by rw [Nat.max_eq_left (by omega)]⟩
theorem Walk.run (h : Walk E a b vs) (lev : Nat → Nat) : ∃ M, Run E lev a b M ∧ (∀ v ∈ vs, lev v ≤ M) ∧ ∃ v ∈ vs, lev v = M := by
  induction h with
  | one e => exact ⟨_, .one e, fun v hv => by rw [List.mem_singleton] at hv; rw [hv]; exact Nat.le_refl _, _, List.mem_singleton.mpr rfl, rfl⟩
  | @cons a b c vs e _ ih =>
    obtain ⟨M, r, le, v, hv, ev⟩ := ih
    refine ⟨_, .cons e r, fun u hu => ?_, ?_⟩
    · rcases List.mem_cons.mp hu with rfl | hu
      · exact Nat.le_max_left _ _
      · exact Nat.le_trans (le u hu) (Nat.le_max_right _ _)
    · by_cases z : lev a ≤ M
      · exact ⟨v, List.mem_cons_of_mem _ hv, by rw [ev, Nat.max_eq_right z]⟩
      · exact ⟨a, List.mem_cons_self, by rw [Nat.max_eq_left (by omega)]⟩
theorem Walk.mono {E' : Nat → Nat → Prop} (h : Walk E a b vs) (w : ∀ x y, E x y → E' x y) : Walk E' a b vs := by
  induction h with
  | one e => exact .one (w _ _ e)
  | cons e _ ih => exact .cons (w _ _ e) ih
/-- every spot left has a step -/
theorem Walk.step (h : Walk E a b vs) : ∀ v ∈ vs, ∃ u, E v u := by
  induction h with
  | one e => exact fun v hv => by rw [List.mem_singleton] at hv; rw [hv]; exact ⟨_, e⟩
  | cons e _ ih =>
    intro v hv
    rcases List.mem_cons.mp hv with rfl | hv
    · exact ⟨_, e⟩
    · exact ih v hv
/-- from a spot on, what is closed along the walk holds to the end -/
theorem Walk.from {P : Nat → Prop} (h : Walk E a b vs) (ha : P a) (hc : ∀ x y, x ∈ vs → P x → E x y → P y) : (∀ v ∈ vs, P v) ∧ P b := by
  induction h with
  | one e => exact ⟨fun v hv => by rw [List.mem_singleton] at hv; rw [hv]; exact ha, hc _ _ List.mem_cons_self ha e⟩
  | cons e _ ih =>
    have hb := hc _ _ List.mem_cons_self ha e
    obtain ⟨h1, h2⟩ := ih hb fun x y hx => hc x y (List.mem_cons_of_mem _ hx)
    exact ⟨fun v hv => by
      rcases List.mem_cons.mp hv with rfl | hv
      · exact ha
      · exact h1 v hv, h2⟩
/-- after v0 comes what P holds of: so P holds at the end -/
theorem Walk.after {P : Nat → Prop} (h : Walk E a b vs) {v0 : Nat} (h0 : v0 ∈ vs) (hs : ∀ y, E v0 y → P y) (hc : ∀ x y, x ∈ vs → P x → E x y → P y) : P b := by
  induction h with
  | one e => rw [List.mem_singleton] at h0; subst h0; exact hs _ e
  | cons e w ih =>
    rcases List.mem_cons.mp h0 with rfl | h0
    · exact (w.from (hs _ e) fun x y hx => hc x y (List.mem_cons_of_mem _ hx)).2
    · exact ih h0 fun x y hx => hc x y (List.mem_cons_of_mem _ hx)
theorem Walk.less {rank : Nat → Nat} (h : Walk E a b vs) (w : ∀ x y, x ∈ vs → E x y → rank y < rank x) : rank b < rank a := by
  induction h with
  | one e => exact w _ _ List.mem_cons_self e
  | cons e _ ih =>
    have h1 := w _ _ List.mem_cons_self e
    have h2 := ih fun x y hx => w x y (List.mem_cons_of_mem _ hx)
    omega
end
theorem most {α : Type} (m : α → Nat) : ∀ {l : List α}, l ≠ [] → ∃ x, x ∈ l ∧ ∀ y, y ∈ l → m y ≤ m x
  | [], h => absurd rfl h
  | [a], _ => ⟨a, List.mem_cons_self, fun y hy => by rw [List.mem_singleton] at hy; rw [hy]; exact Nat.le_refl _⟩
  | a :: b :: l, _ => by
    obtain ⟨x, h1, h2⟩ := most m (l := b :: l) (by simp)
    by_cases z : m x ≤ m a
    · refine ⟨a, List.mem_cons_self, fun y hy => ?_⟩
      rcases List.mem_cons.mp hy with rfl | hy
      · exact Nat.le_refl _
      · exact Nat.le_trans (h2 y hy) z
    · refine ⟨x, List.mem_cons_of_mem _ h1, fun y hy => ?_⟩
      rcases List.mem_cons.mp hy with rfl | hy
      · omega
      · exact h2 y hy
/-- a walk that comes back passes a name; the outermost of its names binds all the others' binders -/
theorem walk_top {L0 L1 : Nat} {f : Fm} (hs : Sc L0 L1 [] f) (nd : f.bnds.Nodup) {E : Nat → Nat → Prop} {π : Nat → Fm} {a : Nat} {vs : List Nat} (hst : ∀ x y, E x y → PStep f (π x) (π y)) (hin : ∀ x, x ∈ vs → π x ∈ f.pre) (w : Walk E a a vs) :
    ∃ B x c v, B ∈ f.pre ∧ B.bd = Option.some (x, c) ∧ v ∈ vs ∧ π v = .name x ∧ ∀ u, u ∈ vs → ∀ y C d, π u = .name y → C ∈ f.pre → C.bd = Option.some (y, d) → C ∈ B.pre := by
  classical
  -- binders of the names that are passed
  have nm : ∃ u, u ∈ vs ∧ ∃ y, π u = .name y := by
    refine Classical.byContradiction fun no => ?_
    have := w.less (rank := fun v => (π v).sz) fun x y hx e => by
      rcases hst x y e with h | ⟨z, B, h1, _⟩
      · exact part_sz h
      · exact absurd ⟨x, hx, z, h1⟩ no
    exact Nat.lt_irrefl _ this
  have bnd : ∀ u, u ∈ vs → ∀ y, π u = .name y → ∃ B c, B ∈ f.pre ∧ B.bd = Option.some (y, c) := fun u hu y e => by
    rcases sc_name f [] hs y (by rw [← e]; exact hin u hu) with z | ⟨B, c, h1, h2, _⟩
    · cases z
    · exact ⟨B, c, h1, h2⟩
  let key : Nat → Nat := fun u => if h : ∃ B, ∃ y c, π u = .name y ∧ B ∈ f.pre ∧ B.bd = Option.some (y, c) then h.choose.sz else 0
  have kof : ∀ u y C d, π u = .name y → C ∈ f.pre → C.bd = Option.some (y, d) → key u = C.sz := fun u y C d e1 e2 e3 => by
    have h : ∃ B, ∃ y c, π u = .name y ∧ B ∈ f.pre ∧ B.bd = Option.some (y, c) := ⟨C, y, d, e1, e2, e3⟩
    have ek : key u = h.choose.sz := dif_pos h
    obtain ⟨y', c', g1, g2, g3⟩ := h.choose_spec
    rw [e1] at g1
    cases g1
    rw [ek, bd_one nd g2 e2 g3 e3]
  obtain ⟨u0, hu0, y0, eu0⟩ := nm
  obtain ⟨v, hv, hmax⟩ := most key (l := vs.filter fun u => decide (∃ y, π u = .name y)) (fun e => by
    have : u0 ∈ vs.filter fun u => decide (∃ y, π u = .name y) := List.mem_filter.mpr ⟨hu0, decide_eq_true ⟨y0, eu0⟩⟩
    rw [e] at this; cases this)
  obtain ⟨hv1, hv2⟩ := List.mem_filter.mp hv
  obtain ⟨x, ex⟩ := of_decide_eq_true hv2
  obtain ⟨B, c, hB, eB⟩ := bnd v hv1 x ex
  have kB := kof v x B c ex hB eB
  have inner : ∀ u, u ∈ vs → ∀ y, π u = .name y → Fm.name y ∈ c.pre → ∀ C d, C ∈ f.pre → C.bd = Option.some (y, d) → C ∈ B.pre := fun u hu y e hy C d hC eC => by
    have hy2 : Fm.name y ∈ B.pre := pre_sub (bd_part eB).1 hy
    rcases scope f.sz f [] (Nat.le_refl _) hs B hB y hy2 with ⟨C', d', h1, h2⟩ | z | ⟨C', d', h1, h2, h3⟩
    · rw [bd_one nd hC (pre_trans hB h1) eC h2]; exact h1
    · cases z
    · exfalso
      have k2 := kof u y C' d' e h1 h2
      have := hmax u (List.mem_filter.mpr ⟨hu, decide_eq_true ⟨y, e⟩⟩)
      have s1 := pre_sz h3
      have s2 := part_sz (bd_part h2).1
      omega
  have closed : ∀ p q, p ∈ vs → π p ∈ c.pre → E p q → π q ∈ c.pre := fun p q hp hpc e => by
    rcases hst p q e with h | ⟨y, C, e1, e2, e3⟩
    · exact pre_trans hpc (pre_sub h (pre_self _))
    · have hC := inner p hp y e1 (by rw [← e1]; exact hpc) C _ e2 e3
      have hd := pre_sub (bd_part e3).1 (pre_self (π q))
      rcases bd_pre eB hC with rfl | hC
      · rw [eB] at e3
        cases e3
        exact pre_self _
      · exact pre_trans hC hd
  have start : ∀ y, E v y → π y ∈ c.pre := fun y e => by
    rcases hst v y e with h | ⟨z, C, e1, e2, e3⟩
    · rw [ex] at h; simp [Fm.parts] at h
    · rw [ex] at e1
      cases e1
      have := bd_one nd hB e2 eB e3
      subst this
      rw [eB] at e3
      cases e3
      exact pre_self _
  have ha := w.after hv1 start closed
  have all := (w.from ha closed).1
  exact ⟨B, x, c, v, hB, eB, hv1, ex, fun u hu y C d e hC eC => inner u hu y e (by rw [← e]; exact all u hu) C d hC eC⟩
end PG
/-! SM7: the game of a saying in a world, and of its opposite, in plain words. -/
namespace PG
open SD (Ext)
/-! ### parts of the opposite -/
theorem neg_pre : ∀ f : Fm, (neg f).pre = f.pre.map neg
  | .yes | .no | .is _ | .isnt _ | .name _ => rfl
  | .both a b | .either a b => by simp only [neg, Fm.pre, List.map_cons, List.map_append, neg_pre a, neg_pre b]
  | .some _ a | .all _ a | .least _ a | .greatest _ a => by simp only [neg, Fm.pre, List.map_cons, neg_pre a]
theorem neg_bd (g : Fm) : (neg g).bd = g.bd.map fun p => (p.1, neg p.2) := by cases g <;> rfl
theorem neg_bnds (f : Fm) : (neg f).bnds = f.bnds := by
  rw [bnds_pre, bnds_pre, neg_pre, List.filterMap_map]
  congr 1
  funext g
  simp only [Function.comp, neg_bd]
  cases g.bd <;> rfl
/-- binders by name, outer ones first -/
def bds (f : Fm) : List (Nat × Fm) := f.pre.filterMap fun g => g.bd.map fun p => (p.1, g)
theorem bds_keys (f : Fm) : (bds f).map (·.1) = f.bnds := by
  rw [bnds_pre]
  unfold bds
  rw [List.map_filterMap]
  congr 1
  funext g
  cases g.bd <;> rfl
theorem mem_bds {f B : Fm} {x : Nat} : (x, B) ∈ bds f ↔ B ∈ f.pre ∧ ∃ c, B.bd = Option.some (x, c) := by
  unfold bds
  rw [List.mem_filterMap]
  constructor
  · rintro ⟨g, hg, e⟩
    cases q : g.bd with
    | none => rw [q] at e; cases e
    | some p =>
      rw [q] at e
      cases e
      exact ⟨hg, p.2, q⟩
  · rintro ⟨h, c, e⟩
    exact ⟨B, h, by rw [e]; rfl⟩
theorem look_of {α : Type} : ∀ {l : List (Nat × α)} {x : Nat} {a : α}, (l.map (·.1)).Nodup → (x, a) ∈ l → l.lookup x = Option.some a
  | [], _, _, _, h => by cases h
  | (y, b) :: l, x, a, nd, h => by
    rw [List.map_cons, List.nodup_cons] at nd
    rcases List.mem_cons.mp h with e | h
    · cases e
      simp [List.lookup_cons]
    · have : x ≠ y := fun e => nd.1 (List.mem_map.mpr ⟨(x, a), h, e⟩)
      rw [List.lookup_cons, show (x == y) = false by simpa using this]
      exact look_of nd.2 h
/-- a name's binder, and what a binder stands before -/
def bdF (f : Fm) (x : Nat) : Fm := ((bds f).lookup x).getD .yes
def ch : Fm → Fm
  | .least _ a => a
  | .greatest _ a => a
  | g => g
theorem look_bds {f B c : Fm} {x : Nat} (nd : f.bnds.Nodup) (h : B ∈ f.pre) (e : B.bd = Option.some (x, c)) : (bds f).lookup x = Option.some B := look_of (by rw [bds_keys]; exact nd) (mem_bds.mpr ⟨h, c, e⟩)
theorem bdF_is {f B c : Fm} {x : Nat} (nd : f.bnds.Nodup) (h : B ∈ f.pre) (e : B.bd = Option.some (x, c)) : bdF f x = B := by unfold bdF; rw [look_bds nd h e]; rfl
theorem ch_is {B c : Fm} {x : Nat} (e : B.bd = Option.some (x, c)) : ch B = c := by
  cases B <;> simp [Fm.bd] at e
  all_goals exact e.2
structure OkP (L0 L1 : Nat) (f : Fm) : Prop where
  sc : Sc L0 L1 [] f
  nd : f.bnds.Nodup
theorem OkP.neg {L0 L1 : Nat} {f : Fm} (h : OkP L0 L1 f) : OkP L0 L1 (neg f) := ⟨neg_sc f [] h.sc, by rw [neg_bnds]; exact h.nd⟩
theorem OkP.bound {L0 L1 : Nat} {f : Fm} (h : OkP L0 L1 f) {x : Nat} (hx : Fm.name x ∈ f.pre) : ∃ B c, B ∈ f.pre ∧ B.bd = Option.some (x, c) := by
  rcases sc_name f [] h.sc x hx with z | ⟨B, c, h1, h2, _⟩
  · cases z
  · exact ⟨B, c, h1, h2⟩
/-! ### spots and steps -/
abbrev Sp := Nat × Fm
def stp (w : Wd) (f : Fm) : Sp → List Sp
  | (p, .both a b) => [(p, a), (p, b)]
  | (p, .either a b) => [(p, a), (p, b)]
  | (p, .some j a) => (w.way j p).map fun g => (g, a)
  | (p, .all j a) => (w.way j p).map fun g => (g, a)
  | (p, .least _ a) => [(p, a)]
  | (p, .greatest _ a) => [(p, a)]
  | (p, .name x) => [(p, ch (bdF f x))]
  | _ => []
inductive Rch (w : Wd) (f : Fm) : Sp → Prop
  | start {p : Nat} : p < w.n → Rch w f (p, f)
  | step {s t : Sp} : Rch w f s → t ∈ stp w f s → Rch w f t
def tn (s : Sp) : Sp := (s.1, PG.neg s.2)
theorem tn_tn (s : Sp) : tn (tn s) = s := by unfold tn; rw [neg_neg]
section
variable {L0 L1 : Nat} {w : Wd} {f : Fm}
theorem way_ok (hw : OkW L0 L1 w) {j p : Nat} (hj : j < L1) (hp : p < w.n) : OkSub w.n (w.way j p) := by
  have hj' : j < w.ways.length := by rw [hw.ways]; exact hj
  have e1 : w.ways.getD j [] = w.ways[j] := by rw [List.getD_eq_getElem?_getD, List.getElem?_eq_getElem hj']; rfl
  have m1 := List.getElem_mem hj'
  have hp' : p < w.ways[j].length := by rw [hw.rows _ m1]; exact hp
  have e2 : w.way j p = w.ways[j][p] := by unfold Wd.way; rw [e1, List.getD_eq_getElem?_getD, List.getElem?_eq_getElem hp']; rfl
  rw [e2]
  exact hw.row _ m1 _ (List.getElem_mem hp')
theorem sc_way : ∀ {g : Fm} {sc : List Nat}, Sc L0 L1 sc g → ∀ {h : Fm}, h ∈ g.pre → ∀ {j : Nat} {a : Fm}, (h = .some j a ∨ h = .all j a) → j < L1 := by
  have key : ∀ (n : Nat) (g : Fm) (sc : List Nat), g.sz ≤ n → Sc L0 L1 sc g → ∀ (h : Fm), h ∈ g.pre → ∀ (j : Nat) (a : Fm), (h = .some j a ∨ h = .all j a) → j < L1 := by
    intro n
    induction n with
    | zero => intro g sc hn; have := sz_pos g; omega
    | succ n ih =>
      intro g sc hn hs h hh j a e
      rcases pre_cases hh with rfl | ⟨k, hk, hh2⟩
      · rcases e with rfl | rfl
        · exact hs.1
        · exact hs.1
      · have hz := part_sz hk
        have hs' : ∃ sc', Sc L0 L1 sc' k := by
          cases g <;> simp only [Fm.parts, List.mem_cons, List.not_mem_nil, or_false] at hk
          · rcases hk with rfl | rfl
            · exact ⟨_, hs.1⟩
            · exact ⟨_, hs.2⟩
          · rcases hk with rfl | rfl
            · exact ⟨_, hs.1⟩
            · exact ⟨_, hs.2⟩
          · subst hk; exact ⟨_, hs.2⟩
          · subst hk; exact ⟨_, hs.2⟩
          · subst hk; exact ⟨_, hs⟩
          · subst hk; exact ⟨_, hs⟩
        obtain ⟨sc', hs'⟩ := hs'
        exact ih k sc' (by omega) hs' h hh2 j a e
  exact fun {g sc} hs {h} hh {j a} e => key g.sz g sc (Nat.le_refl _) hs h hh j a e
theorem stp_ok (hw : OkW L0 L1 w) (hf : OkP L0 L1 f) {s t : Sp} (h1 : s.1 < w.n) (h2 : s.2 ∈ f.pre) (ht : t ∈ stp w f s) : t.1 < w.n ∧ t.2 ∈ f.pre ∧ PStep f s.2 t.2 := by
  obtain ⟨p, g⟩ := s
  have of : ∀ {a : Fm}, a ∈ g.parts → a ∈ f.pre ∧ PStep f g a := fun h => ⟨pre_trans h2 (pre_sub h (pre_self _)), .inl h⟩
  cases g with
  | both a b =>
    simp only [stp, List.mem_cons, List.not_mem_nil, or_false] at ht
    rcases ht with rfl | rfl
    · exact ⟨h1, of (by simp [Fm.parts])⟩
    · exact ⟨h1, of (by simp [Fm.parts])⟩
  | either a b =>
    simp only [stp, List.mem_cons, List.not_mem_nil, or_false] at ht
    rcases ht with rfl | rfl
    · exact ⟨h1, of (by simp [Fm.parts])⟩
    · exact ⟨h1, of (by simp [Fm.parts])⟩
  | some j a =>
    simp only [stp, List.mem_map] at ht
    obtain ⟨k, hk, rfl⟩ := ht
    exact ⟨(way_ok hw (sc_way hf.sc h2 (.inl rfl)) h1).2 k hk, of (by simp [Fm.parts])⟩
  | all j a =>
    simp only [stp, List.mem_map] at ht
    obtain ⟨k, hk, rfl⟩ := ht
    exact ⟨(way_ok hw (sc_way hf.sc h2 (.inr rfl)) h1).2 k hk, of (by simp [Fm.parts])⟩
  | least x a =>
    simp only [stp, List.mem_cons, List.not_mem_nil, or_false] at ht
    subst ht
    exact ⟨h1, of (by simp [Fm.parts])⟩
  | greatest x a =>
    simp only [stp, List.mem_cons, List.not_mem_nil, or_false] at ht
    subst ht
    exact ⟨h1, of (by simp [Fm.parts])⟩
  | name x =>
    simp only [stp, List.mem_cons, List.not_mem_nil, or_false] at ht
    subst ht
    obtain ⟨B, c, hB, e⟩ := hf.bound h2
    have e2 : ch (bdF f x) = c := by rw [bdF_is hf.nd hB e, ch_is e]
    simp only [e2]
    exact ⟨h1, pre_trans hB (pre_sub (bd_part e).1 (pre_self _)), .inr ⟨x, B, rfl, hB, e⟩⟩
  | yes => cases ht
  | no => cases ht
  | is i => cases ht
  | isnt i => cases ht
theorem Rch.ok (hw : OkW L0 L1 w) (hf : OkP L0 L1 f) {s : Sp} (h : Rch w f s) : s.1 < w.n ∧ s.2 ∈ f.pre := by
  induction h with
  | start h => exact ⟨h, pre_self _⟩
  | step _ ht ih =>
    have := stp_ok hw hf ih.1 ih.2 ht
    exact ⟨this.1, this.2.1⟩
theorem bdF_neg (hf : OkP L0 L1 f) {x : Nat} (hx : Fm.name x ∈ f.pre) : bdF (neg f) x = neg (bdF f x) := by
  obtain ⟨B, c, hB, e⟩ := hf.bound hx
  rw [bdF_is hf.nd hB e]
  exact bdF_is hf.neg.nd (c := neg c) (by rw [neg_pre]; exact List.mem_map.mpr ⟨B, hB, rfl⟩) (by rw [neg_bd, e]; rfl)
theorem ch_neg (g : Fm) : ch (neg g) = neg (ch g) := by cases g <;> rfl
theorem stp_neg (hf : OkP L0 L1 f) {s : Sp} (h2 : s.2 ∈ f.pre) : stp w (neg f) (tn s) = (stp w f s).map tn := by
  obtain ⟨p, g⟩ := s
  cases g with
  | name x =>
    simp only [tn, PG.neg, stp, List.map_cons, List.map_nil, bdF_neg hf h2, ch_neg]
  | some j a => simp only [tn, PG.neg, stp, List.map_map]; rfl
  | all j a => simp only [tn, PG.neg, stp, List.map_map]; rfl
  | _ => rfl
theorem Rch.neg (hw : OkW L0 L1 w) (hf : OkP L0 L1 f) {s : Sp} (h : Rch w f s) : Rch w (PG.neg f) (tn s) := by
  induction h with
  | start h => exact .start h
  | @step s t hs ht ih => exact .step ih (by rw [stp_neg hf (hs.ok hw hf).2]; exact List.mem_map.mpr ⟨t, ht, rfl⟩)
theorem Rch.neg_iff (hw : OkW L0 L1 w) (hf : OkP L0 L1 f) {s : Sp} : Rch w (PG.neg f) s ↔ Rch w f (tn s) := by
  constructor
  · intro h
    have := h.neg hw hf.neg
    rw [neg_neg] at this
    exact this
  · intro h
    have := h.neg hw hf
    rw [tn_tn] at this
    exact this
end
/-! ### the game -/
def ownF : Fm → Nat
  | .either _ _ => 0
  | .some _ _ => 0
  | _ => 1
def levF (f : Fm) : Fm → Nat
  | .name x => mx (bdF f x)
  | _ => 0
def endW (w : Wd) : Sp → Bool
  | (p, .is i) => decide (p ∈ w.marks.getD i [])
  | (p, .isnt i) => !decide (p ∈ w.marks.getD i [])
  | (_, .yes) => true
  | (_, .all _ _) => true
  | _ => false
def sptOf (w : Wd) (f : Fm) (L : List Sp) (s : Sp) : Spt :=
  if stp w f s = [] then ⟨ownF s.2, if endW w s = true then 2 else 1, [L.idxOf s]⟩ else ⟨ownF s.2, levF f s.2, (stp w f s).map L.idxOf⟩
def gameOf (w : Wd) (f : Fm) (L : List Sp) : List Spt := L.map (sptOf w f L)
structure IsSp (w : Wd) (f : Fm) (L : List Sp) : Prop where
  nd : L.Nodup
  mem : ∀ s, s ∈ L ↔ Rch w f s
theorem idx_at {α : Type} [BEq α] [LawfulBEq α] {L : List α} {s : α} (h : s ∈ L) : L[L.idxOf s]? = Option.some s := by
  rw [List.getElem?_eq_getElem (List.idxOf_lt_length_iff.mpr h)]
  exact congrArg Option.some (List.getElem_idxOf (List.idxOf_lt_length_iff.mpr h))
theorem idx_of {α : Type} [BEq α] [LawfulBEq α] {L : List α} (nd : L.Nodup) {k : Nat} {s : α} (h : L[k]? = Option.some s) : L.idxOf s = k := by
  obtain ⟨hk, e⟩ := List.getElem?_eq_some_iff.mp h
  subst e
  exact nd.idxOf_getElem k hk
theorem idx_inj {α : Type} [BEq α] [LawfulBEq α] {L : List α} {s t : α} (h1 : s ∈ L) (h2 : t ∈ L) (e : L.idxOf s = L.idxOf t) : s = t := by
  have a := idx_at h1
  rw [e, idx_at h2] at a
  exact (Option.some.inj a).symm
section
variable {L0 L1 : Nat} {w : Wd} {f : Fm} {L : List Sp}
theorem game_len : (gameOf w f L).length = L.length := by unfold gameOf; rw [List.length_map]
theorem game_at {s : Sp} (h : s ∈ L) : (gameOf w f L).getD (L.idxOf s) ⟨0, 0, []⟩ = sptOf w f L s := by
  unfold gameOf
  rw [List.getD_eq_getElem?_getD, List.getElem?_map, idx_at h]; rfl
theorem game_ow {s : Sp} (h : s ∈ L) : ow (gameOf w f L) (L.idxOf s) = ownF s.2 := by
  unfold ow; rw [game_at h]; unfold sptOf; split <;> rfl
theorem game_lv {s : Sp} (h : s ∈ L) : lv (gameOf w f L) (L.idxOf s) = if stp w f s = [] then (if endW w s = true then 2 else 1) else levF f s.2 := by
  unfold lv; rw [game_at h]; unfold sptOf; split <;> rfl
theorem game_gl {s : Sp} (h : s ∈ L) : gl (gameOf w f L) (L.idxOf s) = if stp w f s = [] then [L.idxOf s] else (stp w f s).map L.idxOf := by
  unfold gl; rw [game_at h]; unfold sptOf; split <;> rfl
theorem each_at {k : Nat} (h : k < L.length) (nd : L.Nodup) : ∃ s, s ∈ L ∧ k = L.idxOf s := ⟨L[k], List.getElem_mem h, (nd.idxOf_getElem k h).symm⟩
theorem IsSp.step (H : IsSp w f L) {s t : Sp} (h : s ∈ L) (ht : t ∈ stp w f s) : t ∈ L := (H.mem t).mpr (.step ((H.mem s).mp h) ht)
theorem IsSp.lt (H : IsSp w f L) {k g : Nat} (hk : k < L.length) (hg : g ∈ gl (gameOf w f L) k) : g < L.length := by
  obtain ⟨s, hs, rfl⟩ := each_at hk H.nd
  rw [game_gl hs] at hg
  split at hg
  · rw [List.mem_singleton] at hg; rw [hg]; exact hk
  · obtain ⟨t, ht, rfl⟩ := List.mem_map.mp hg
    exact List.idxOf_lt_length_iff.mpr (H.step hs ht)
theorem IsSp.neg (hw : OkW L0 L1 w) (hf : OkP L0 L1 f) (H : IsSp w f L) : IsSp w (neg f) (L.map tn) := ⟨by
    rw [List.nodup_iff_pairwise_ne, List.pairwise_map]
    exact (List.nodup_iff_pairwise_ne.mp H.nd).imp fun {a b} ne e => ne (by rw [← tn_tn a, e, tn_tn]), fun s => by
    rw [Rch.neg_iff hw hf, ← H.mem, List.mem_map]
    constructor
    · rintro ⟨t, ht, rfl⟩
      rw [tn_tn]; exact ht
    · exact fun h => ⟨_, h, tn_tn s⟩⟩
end
theorem stp_few {L0 L1 : Nat} {w : Wd} {f : Fm} (hw : OkW L0 L1 w) (hf : OkP L0 L1 f) {s : Sp} (h1 : s.1 < w.n) (h2 : s.2 ∈ f.pre) : (stp w f s).length ≤ max 2 w.n := by
  obtain ⟨p, g⟩ := s
  cases g with
  | some j a =>
    have := (way_ok hw (sc_way hf.sc h2 (.inl rfl)) h1).le
    simp only [stp, List.length_map]; exact Nat.le_trans this (Nat.le_max_right _ _)
  | all j a =>
    have := (way_ok hw (sc_way hf.sc h2 (.inr rfl)) h1).le
    simp only [stp, List.length_map]; exact Nat.le_trans this (Nat.le_max_right _ _)
  | _ => simp only [stp, List.length_cons, List.length_nil]; omega
end PG
/-! SP10: sayings as data; small steps. -/
namespace PG
open PySem L2 SD PG
theorem ok_fm : ∀ f : Fm, okD (encF f) = true
  | .yes | .no => by simp only [encF, okD, okDs, Bool.and_true]; decide +kernel
  | .is _ | .isnt _ | .name _ => by simp only [encF, okD, okDs, Bool.and_true]; decide +kernel
  | .both a b | .either a b => by
    simp only [encF, okD, okDs, Bool.and_true, ok_fm a, ok_fm b]; decide +kernel
  | .some _ a | .all _ a | .least _ a | .greatest _ a => by
    simp only [encF, okD, okDs, Bool.and_true, ok_fm a]; decide +kernel
theorem depth_fm : ∀ f : Fm, (toPy (encF f)).depth ≤ f.dp + 1
  | .yes | .no | .is _ | .isnt _ | .name _ => by simp [encF, toPy, toPys, PyData.depth, PyData.depthAll, Fm.dp]
  | .both a b | .either a b => by
    have := depth_fm a
    have := depth_fm b
    simp only [encF, toPy, toPys, PyData.depth, PyData.depthAll, Fm.dp]
    omega
  | .some _ a | .all _ a | .least _ a | .greatest _ a => by
    have := depth_fm a
    simp only [encF, toPy, toPys, PyData.depth, PyData.depthAll, Fm.dp]
    omega
theorem plain_fm {f : Fm} (h : f.dp ≤ 60) : plainD (encF f) = true := by
  unfold plainD
  rw [Bool.and_eq_true, decide_eq_true_eq]
  have := depth_fm f
  exact ⟨ok_fm f, by omega⟩
theorem with_name_spec {nr x y : Nat} {kvs : List (D × D)} {S : Store} {Q : PD} (e : dictD S (.ref nr) = some kvs) (hl : kvs.length ≤ 200000) (h : ∀ S', Ext S S' → S'[S.length]? = some (.dct (putD kvs (.int (x : Nat)) (.int (y : Nat)))) → Q (.ref S.length) S') : F_with_name [.ref nr, .int (x : Nat), .int (y : Nat)] S Q := by
  refine r_fn rfl ?_
  unfold b_with_name
  walk_at "s"
  refine r_dictF e ?_
  walk_at "s"
  refine r_setD (new_at S _) rfl (by simp only [sizeLine]; omega) ?_
  walk_at "s"
  exact h _ ((Ext.app S _).put (Nat.le_refl _)) (set_at (new_at S _))
theorem parts_szlt {f g : Fm} (h : g ∈ f.parts) : g.sz < f.sz := by
  cases f <;> simp only [Fm.parts, List.mem_cons, List.not_mem_nil, or_false] at h <;> simp only [Fm.sz]
  all_goals first | (subst h; omega) | (rcases h with rfl | rfl <;> omega)
theorem plains_of {rs : List D} (h : ∀ r ∈ rs, r = .non ∨ ∃ g' : Fm, r = encF g' ∧ g'.dp ≤ 50) : plainDs rs = true := by
  have key : okDs rs = true ∧ PyData.depthAll (toPys rs) ≤ 51 := by
    induction rs with
    | nil => exact ⟨rfl, by simp [toPys, PyData.depthAll]⟩
    | cons r rs ih =>
      obtain ⟨h1, h2⟩ := ih fun q hq => h q (List.mem_cons_of_mem _ hq)
      rcases h r List.mem_cons_self with rfl | ⟨g, rfl, hg⟩
      · exact ⟨by rw [okDs, h1]; rfl, by simp only [toPys, toPy, PyData.depthAll, PyData.depth]; omega⟩
      · have := depth_fm g
        exact ⟨by rw [okDs, h1, ok_fm]; rfl, by simp only [toPys, PyData.depthAll]; omega⟩
  unfold plainDs
  rw [Bool.and_eq_true, decide_eq_true_eq]
  refine ⟨key.1, ?_⟩
  simp only [PyData.depth]
  have := key.2
  omega
theorem all_enc {rs : List D} (h : ∀ r ∈ rs, ∃ g : Fm, r = encF g) : ∃ ps : List Fm, rs = ps.map encF := by
  induction rs with
  | nil => exact ⟨[], rfl⟩
  | cons r rs ih =>
    obtain ⟨ps, rfl⟩ := ih fun q hq => h q (List.mem_cons_of_mem _ hq)
    obtain ⟨g, rfl⟩ := h r List.mem_cons_self
    exact ⟨g :: ps, rfl⟩
def hdD : D → D
  | .tup (x :: _) => x
  | _ => .non
theorem enc_inj : ∀ f g : Fm, encF f = encF g → f = g := by
  intro f
  induction f with
  | yes => intro g h; cases g <;> first | rfl | (exact absurd (congrArg hdD h) (by show ¬ (D.str _ = D.str _); decide)) | (simp only [encF, D.tup.injEq, List.cons.injEq, and_true, true_and, D.int.injEq] at h; congr 1; omega)
  | no => intro g h; cases g <;> first | rfl | (exact absurd (congrArg hdD h) (by show ¬ (D.str _ = D.str _); decide)) | (simp only [encF, D.tup.injEq, List.cons.injEq, and_true, true_and, D.int.injEq] at h; congr 1; omega)
  | is i => intro g h; cases g <;> first | rfl | (exact absurd (congrArg hdD h) (by show ¬ (D.str _ = D.str _); decide)) | (simp only [encF, D.tup.injEq, List.cons.injEq, and_true, true_and, D.int.injEq] at h; congr 1; omega)
  | isnt i => intro g h; cases g <;> first | rfl | (exact absurd (congrArg hdD h) (by show ¬ (D.str _ = D.str _); decide)) | (simp only [encF, D.tup.injEq, List.cons.injEq, and_true, true_and, D.int.injEq] at h; congr 1; omega)
  | name i => intro g h; cases g <;> first | rfl | (exact absurd (congrArg hdD h) (by show ¬ (D.str _ = D.str _); decide)) | (simp only [encF, D.tup.injEq, List.cons.injEq, and_true, true_and, D.int.injEq] at h; congr 1; omega)
  | both a b iha ihb => intro g h; cases g <;> first | (exact absurd (congrArg hdD h) (by show ¬ (D.str _ = D.str _); decide)) | (simp only [encF, D.tup.injEq, List.cons.injEq, and_true, true_and] at h; rw [iha _ h.1, ihb _ h.2])
  | either a b iha ihb => intro g h; cases g <;> first | (exact absurd (congrArg hdD h) (by show ¬ (D.str _ = D.str _); decide)) | (simp only [encF, D.tup.injEq, List.cons.injEq, and_true, true_and] at h; rw [iha _ h.1, ihb _ h.2])
  | some j a iha => intro g h; cases g <;> first | (exact absurd (congrArg hdD h) (by show ¬ (D.str _ = D.str _); decide)) | (simp only [encF, D.tup.injEq, List.cons.injEq, and_true, true_and, D.int.injEq] at h; have h1 := h.1; have h2 := iha _ h.2; subst h2; congr 1; omega)
  | all j a iha => intro g h; cases g <;> first | (exact absurd (congrArg hdD h) (by show ¬ (D.str _ = D.str _); decide)) | (simp only [encF, D.tup.injEq, List.cons.injEq, and_true, true_and, D.int.injEq] at h; have h1 := h.1; have h2 := iha _ h.2; subst h2; congr 1; omega)
  | least j a iha => intro g h; cases g <;> first | (exact absurd (congrArg hdD h) (by show ¬ (D.str _ = D.str _); decide)) | (simp only [encF, D.tup.injEq, List.cons.injEq, and_true, true_and, D.int.injEq] at h; have h1 := h.1; have h2 := iha _ h.2; subst h2; congr 1; omega)
  | greatest j a iha => intro g h; cases g <;> first | (exact absurd (congrArg hdD h) (by show ¬ (D.str _ = D.str _); decide)) | (simp only [encF, D.tup.injEq, List.cons.injEq, and_true, true_and, D.int.injEq] at h; have h1 := h.1; have h2 := iha _ h.2; subst h2; congr 1; omega)
theorem r_neP {a b : List Nat} {S : Store} {Q : PD} (h : Q (.bl (!decide (a = b))) S) : eqF true (encP a) (encP b) S Q := r_neT (plain_nats a) (plain_nats b) (by show Q (.bl (!decide (encP a = encP b))) S; rw [encP_eq]; exact h)
theorem encP_range (n : Nat) : D.tup (rngD 0 (n : Int).toNat) = encP (List.range n) := by rw [rng_map']; rfl
theorem in_nat {k : Nat} {X : List Nat} {S : Store} {Q : PD} (h : Q (.bl (decide (k ∈ X))) S) : inF false (.int (k : Nat)) (encP X) S Q := by
  refine r_inT rfl (flat_nat _) ?_
  rw [mem_nat]; exact h
theorem nin_nat {k : Nat} {X : List Nat} {S : Store} {Q : PD} (h : Q (.bl (!decide (k ∈ X))) S) : inF true (.int (k : Nat)) (encP X) S Q := by
  refine r_ninT rfl (flat_nat _) ?_
  rw [mem_nat]; exact h
theorem r_par {i j : Nat} {f : FA} {E : EndsD} {σ : Slots} {S : Store} (h : f σ S fun ds S1 => ∃ a b, ds = [a, b] ∧ E.nx ((σ.set i (some a)).set j (some b)) S1) : sPar i j f E σ S := h
/-- [k for k in A if ..] -/
theorem lc_nats {σ : Slots} {iv : Nat} {t : FT} {A : List Nat} {S : Store} {R : Store → Prop} (p : Nat → Bool) (hi : ∀ d : D, (σ.set iv (some d))[iv]? = some (some d)) (hA : A.length ≤ 100000)
    (ht : ∀ k ∈ A, ∀ S1 (P : Bool → Store → Prop), Ext S S1 → (∀ S2, Ext S1 S2 → P (p k) S2) → t (σ.set iv (some (.int (k : Nat)))) S1 P)
    (h : ∀ S', Ext S S' → S'[S.length]? = some (.lst ((A.filter p).map fun k : Nat => .int (k : Nat))) → R S') :
    lcD Always (gNm iv) t (eVar iv) S.length R σ (A.map fun k : Nat => .int (k : Nat)) (S ++ [.lst []]) := by
  refine lc_filter (fun x => match x with | .int i => p i.toNat | _ => false) id (by simp [sizeLine]; omega) (fun _ _ => trivial) ?_ ?_ ?_
  · intro x hx S1 P e1 hP
    obtain ⟨k, hk, rfl⟩ := List.mem_map.mp hx
    exact ht k hk S1 P e1 hP
  · intro x hx S1 P e1 hP
    exact r_var (hi _) (hP S1 (.refl _))
  · intro S1 e1 h1
    refine h S1 e1 ?_
    rw [h1, List.map_id, List.filter_map]
    rfl
theorem depth_nats (xs : List Nat) : (toPy (encP xs)).depth ≤ 2 := by
  simp only [encP, toPy, PyData.depth]
  have := depthAll_nats xs
  omega
theorem r_pop0 {n : Nat} {y : D} {ys : List D} {S : Store} {Q : PD} (e : S[n]? = some (.lst (y :: ys))) (h : ∀ S', S'[n]? = some (.lst ys) → Off n S S' → Q y S') : pop0F (.ref n) [.int 0] S Q :=
  ⟨n, y, ys, rfl, rfl, e, h _ (set_at e) (Off.set _ _ _)⟩
theorem r_updD {n k : Nat} {ks ls : List (D × D)} {S : Store} {Q : PD} (ne : n ≠ k) (a : S[n]? = some (.dct ks)) (b : dictD S (.ref k) = some ls) (l : ks.length + ls.length ≤ sizeLine) (h : ∀ S', S'[n]? = some (.dct (mergeD ks ls)) → Off n S S' → Q .non S') : updF (.ref n) [.ref k] S Q :=
  ⟨n, k, ks, ls, rfl, rfl, ne, a, b, l, h _ (set_at a) (Off.set _ _ _)⟩
theorem dct_at {S : Store} {n : Nat} {ks : List (D × D)} (e : S[n]? = some (.dct ks)) : dictD S (.ref n) = some ks := by show dicC S[n]? = _; rw [e]; rfl
theorem lst_sq {S : Store} {n : Nat} {xs : List D} (e : S[n]? = some (.lst xs)) : seqD S (.ref n) = some xs := by show seqC S[n]? = _; rw [e]; rfl
end PG
/-! SPf: games as data; before_spots. -/
namespace PG
open PySem L2 SD
def encS (s : Spt) : D := .tup [.int (s.o : Nat), .int (s.lv : Nat), encP s.gs]
def encG (G : List Spt) : D := .tup (G.map encS)
structure OkG (G : List Spt) : Prop where
  size : G.length ≤ 1000
  own : ∀ k, k < G.length → ow G k ≤ 1
  ne : ∀ k, k < G.length → gl G k ≠ []
  lt : ∀ k g, k < G.length → g ∈ gl G k → g < G.length
  few : ∀ k, k < G.length → (gl G k).length < 64
theorem g_at {G : List Spt} {k : Nat} (h : k < G.length) : atI (G.map encS) (k : Int) = some (.tup [.int (ow G k : Nat), .int (lv G k : Nat), encP (gl G k)]) := by
  rw [atI_n, List.getElem?_map, List.getElem?_eq_getElem h]
  unfold ow lv gl
  rw [List.getD_eq_getElem?_getD, List.getElem?_eq_getElem h]; rfl
theorem lck_at {S : Store} {n : Nat} {ks : List (D × D)} (e : S[n]? = some (.lck ks)) : dictD S (.ref n) = some ks := by show dicC S[n]? = _; rw [e]; rfl
/-! ### moves as dicts -/
def mapM (ms : List (Nat × Nat)) : List (D × D) := ms.map fun p => (.int (p.1 : Nat), .int (p.2 : Nat))
def getM (ms : List (Nat × Nat)) (k : Nat) : Option Nat := (ms.find? fun p => decide (p.1 = k)).map (·.2)
def insM (ms : List (Nat × Nat)) (k g : Nat) : List (Nat × Nat) := if ms.any (fun p => decide (p.1 = k)) then ms.map (fun p => if p.1 = k then (p.1, g) else p) else ms ++ [(k, g)]
theorem mapM_val (ms : List (Nat × Nat)) (k : Nat) : valD (mapM ms) (.int (k : Nat)) = (getM ms k).map fun g : Nat => D.int (g : Nat) := by
  unfold valD getM mapM
  induction ms with
  | nil => rfl
  | cons p ms ih =>
    rw [List.map_cons]
    by_cases e : p.1 = k
    · rw [List.find?_cons_of_pos (by simp [e]), List.find?_cons_of_pos (by simp [e])]; rfl
    · rw [List.find?_cons_of_neg (by simp; omega), List.find?_cons_of_neg (by simp [e])]
      exact ih
theorem mapM_any (ms : List (Nat × Nat)) (k : Nat) : (mapM ms).any (fun p => decide (p.1 = D.int (k : Nat))) = ms.any fun p => decide (p.1 = k) := by
  unfold mapM
  rw [List.any_map]
  congr 1
  funext p
  simp only [Function.comp, D.int.injEq]
  rw [decide_eq_decide]
  omega
theorem mapM_put (ms : List (Nat × Nat)) (k g : Nat) : putD (mapM ms) (.int (k : Nat)) (.int (g : Nat)) = mapM (insM ms k g) := by
  unfold putD insM
  rw [mapM_any]
  split
  · unfold mapM
    rw [List.map_map, List.map_map]
    refine List.map_congr_left fun p _ => ?_
    simp only [Function.comp]
    by_cases e : p.1 = k
    · rw [if_pos e, if_pos (by rw [e])]
    · rw [if_neg e, if_neg (by intro z; injection z with z; omega)]
  · unfold mapM
    rw [List.map_append]; rfl
theorem getM_ins (ms : List (Nat × Nat)) (k g j : Nat) : getM (insM ms k g) j = if j = k then some g else getM ms j := by
  have h1 := mapM_val (insM ms k g) j
  rw [← mapM_put] at h1
  by_cases e : j = k
  · subst e
    rw [putD_self] at h1
    rw [if_pos rfl]
    cases q : getM (insM ms j g) j with
    | none => rw [q] at h1; cases h1
    | some x =>
      rw [q] at h1
      have := Option.some.inj h1
      injection this with this
      congr 1
      omega
  · rw [putD_ne _ _ (by intro z; injection z with z; omega), mapM_val] at h1
    rw [if_neg e]
    cases q : getM (insM ms k g) j with
    | none =>
      rw [q] at h1
      cases q2 : getM ms j with
      | none => rfl
      | some y => rw [q2] at h1; cases h1
    | some x =>
      rw [q] at h1
      cases q2 : getM ms j with
      | none => rw [q2] at h1; cases h1
      | some y =>
        rw [q2] at h1
        have := Option.some.inj h1
        injection this with this
        congr 1
        omega
theorem keys_ins (ms : List (Nat × Nat)) (k g : Nat) : (insM ms k g).map (·.1) = insK (ms.map (·.1)) k := by
  unfold insM insK
  have e : (ms.any fun p => decide (p.1 = k)) = decide (k ∈ ms.map (·.1)) := by
    rw [Bool.eq_iff_iff, List.any_eq_true, decide_eq_true_eq, List.mem_map]
    exact ⟨fun ⟨x, a, b⟩ => ⟨x, a, of_decide_eq_true b⟩, fun ⟨x, a, b⟩ => ⟨x, a, decide_eq_true b⟩⟩
  rw [e]
  by_cases h : k ∈ ms.map (·.1)
  · rw [if_pos (decide_eq_true h), if_pos h, List.map_map]
    refine List.map_congr_left fun p _ => ?_
    simp only [Function.comp]
    split <;> rfl
  · rw [if_neg (by simpa using h), if_neg h, List.map_append]; rfl
/-- moves for spots below n, each once -/
structure OkM (n : Nat) (ms : List (Nat × Nat)) : Prop where
  nd : (ms.map (·.1)).Nodup
  lt : ∀ p ∈ ms, p.1 < n
theorem OkM.nil (n : Nat) : OkM n [] := ⟨.nil, fun p h => by cases h⟩
theorem OkM.ins {n : Nat} {ms : List (Nat × Nat)} (h : OkM n ms) {k : Nat} (hk : k < n) (g : Nat) : OkM n (insM ms k g) := by
  refine ⟨by rw [keys_ins]; exact nodup_insK h.nd, fun p hp => ?_⟩
  have : p.1 ∈ (insM ms k g).map (·.1) := List.mem_map.mpr ⟨p, hp, rfl⟩
  rw [keys_ins, mem_insK] at this
  rcases this with z | z
  · obtain ⟨q, hq, e⟩ := List.mem_map.mp z
    rw [← e]; exact h.lt q hq
  · rw [z]; exact hk
theorem OkM.len {n : Nat} {ms : List (Nat × Nat)} (h : OkM n ms) : ms.length ≤ n := by
  have := subset_len (ls := List.range n) h.nd fun j hj => by
    obtain ⟨p, hp, rfl⟩ := List.mem_map.mp hj
    exact List.mem_range.mpr (h.lt p hp)
  rw [List.length_map, List.length_range] at this
  exact this
theorem mapM_len (ms : List (Nat × Nat)) : (mapM ms).length = ms.length := by unfold mapM; rw [List.length_map]
def mrgM (ms ns : List (Nat × Nat)) : List (Nat × Nat) := ns.foldl (fun a p => insM a p.1 p.2) ms
theorem mapM_mrg : ∀ (ns ms : List (Nat × Nat)), mergeD (mapM ms) (mapM ns) = mapM (mrgM ms ns)
  | [], _ => rfl
  | p :: ns, ms => by
    show mergeD (putD (mapM ms) (.int (p.1 : Nat)) (.int (p.2 : Nat))) (mapM ns) = mapM (mrgM (insM ms p.1 p.2) ns)
    rw [mapM_put]; exact mapM_mrg ns _
theorem getM_none {ms : List (Nat × Nat)} {k : Nat} (h : k ∉ ms.map (·.1)) : getM ms k = none := by
  unfold getM
  rw [List.find?_eq_none.mpr]; rfl
  intro p hp e
  exact h (List.mem_map.mpr ⟨p, hp, of_decide_eq_true e⟩)
theorem getM_mem {ms : List (Nat × Nat)} {k g : Nat} (h : getM ms k = some g) : k ∈ ms.map (·.1) := by
  refine Classical.byContradiction fun z => ?_
  rw [getM_none z] at h
  cases h
theorem getM_some {ms : List (Nat × Nat)} {k : Nat} (h : k ∈ ms.map (·.1)) : ∃ g, getM ms k = some g := by
  obtain ⟨p, hp, rfl⟩ := List.mem_map.mp h
  unfold getM
  cases e : ms.find? fun q => decide (q.1 = p.1) with
  | none => exact absurd (decide_eq_true rfl) (List.find?_eq_none.mp e p hp)
  | some q => exact ⟨q.2, rfl⟩
theorem getM_mrg : ∀ (ns ms : List (Nat × Nat)) (k : Nat), (ns.map (·.1)).Nodup → getM (mrgM ms ns) k = (getM ns k).or (getM ms k)
  | [], ms, k, _ => rfl
  | p :: ns, ms, k, nd => by
    rw [List.map_cons, List.nodup_cons] at nd
    show getM (mrgM (insM ms p.1 p.2) ns) k = _
    rw [getM_mrg ns _ k nd.2, getM_ins]
    by_cases e : k = p.1
    · subst e
      have a : getM ns p.1 = none := getM_none nd.1
      have b : getM (p :: ns) p.1 = some p.2 := by unfold getM; rw [List.find?_cons_of_pos (by simp)]; rfl
      rw [a, b, if_pos rfl]; rfl
    · have b : getM (p :: ns) k = getM ns k := by unfold getM; rw [List.find?_cons_of_neg (by simp; omega)]
      rw [b, if_neg e]
theorem OkM.mrg {n : Nat} : ∀ {ns ms : List (Nat × Nat)}, OkM n ms → OkM n ns → OkM n (mrgM ms ns)
  | [], _, h, _ => h
  | p :: ns, ms, h, h2 => OkM.mrg (ns := ns) (ms := insM ms p.1 p.2) (h.ins (h2.lt p List.mem_cons_self) _) ⟨(List.nodup_cons.mp h2.nd).2, fun q hq => h2.lt q (List.mem_cons_of_mem _ hq)⟩
/-! ### before_spots -/
/-- B is the list of the lists of those that lead to a spot; all of it lies below b0 -/
def Bef (G : List Spt) (S : Store) (B b0 : Nat) : Prop := B < b0 ∧ ∃ refs : List Nat, S[B]? = some (.lst (refs.map D.ref)) ∧ refs.length = G.length ∧
  ∀ g r, refs[g]? = some r → r < b0 ∧ ∃ ks : List Nat, S[r]? = some (.lst (ks.map fun k : Nat => D.int (k : Nat))) ∧ ks.Nodup ∧ ∀ k, k ∈ ks ↔ k < G.length ∧ g ∈ gl G k
theorem Bef.up {G : List Spt} {S S' : Store} {B b0 : Nat} (h : Bef G S B b0) {l : List Nat} (e : ExtB l S S') (hl : ∀ i ∈ l, b0 ≤ i) : Bef G S' B b0 := by
  obtain ⟨h1, refs, h2, h3, h4⟩ := h
  refine ⟨h1, refs, e.2 B (fun z => by have := hl B z; omega) _ h2, h3, fun g r hr => ?_⟩
  obtain ⟨a, ks, b, c, d⟩ := h4 g r hr
  exact ⟨a, ks, e.2 r (fun z => by have := hl r z; omega) _ b, c, d⟩
theorem before_spec {G : List Spt} (hG : OkG G) {S : Store} {Q : PD} (h : ∀ S' B, Ext S S' → Bef G S' B S'.length → Q (.ref B) S') : F_before_spots [encG G] S Q := by
  refine r_fn rfl ?_
  unfold b_before_spots
  have hs := hG.size
  walk_at "s"
  refine r_iTup ?_
  walk_at "s"
  refine ⟨_, rfl, ?_⟩
  intro few
  refine lc_inv (fun i acc S' => Ext S S' ∧ ∃ refs : List Nat, acc = refs.map D.ref ∧ refs.length = i ∧ refs.Nodup ∧ ∀ r ∈ refs, r ≠ S.length ∧ S.length ≤ r ∧ S'[r]? = some (.lst [])) few (new_at S _) ⟨Ext.app S _, [], rfl, rfl, .nil, fun r hr => by cases hr⟩ ?_ ?_
  · rintro i x acc S1 R hx h1 hl ⟨e1, refs, rfl, len, nd, hr⟩ hR
    refine ⟨trivial, ?_⟩
    have ls : S.length < S1.length := (List.getElem?_eq_some_iff.mp h1).1
    walk_at "s"
    refine ⟨_, Ext.app S1 _ _ _ h1, by rw [List.length_map] at hl ⊢; simp only [sizeLine] at few ⊢; rw [List.length_map] at few; have := (List.getElem?_eq_some_iff.mp hx).1; rw [List.length_map] at this; omega, ?_⟩
    refine hR _ _ (set_at (Ext.app S1 _ _ _ h1)) (by rw [List.length_append]; exact Nat.succ_le_succ hl) ⟨(e1.trans (Ext.app S1 _)).put (Nat.le_refl _), refs ++ [S1.length], by simp, by simp [len], ?_, fun r hr2 => ?_⟩
    · rw [List.nodup_append]
      exact ⟨nd, by simp, fun a ha b hb => by
        rw [List.mem_singleton] at hb
        rintro rfl
        have := (List.getElem?_eq_some_iff.mp (hr a ha).2.2).1
        omega⟩
    · rcases List.mem_append.mp hr2 with hr2 | hr2
      · obtain ⟨a, b, c⟩ := hr r hr2
        exact ⟨a, b, (set_off (Ne.symm a)).trans (Ext.app S1 _ _ _ c)⟩
      · rw [List.mem_singleton] at hr2
        subst hr2
        exact ⟨by omega, by omega, (set_off (by omega)).trans (new_at S1 _)⟩
  rintro acc S1 h1 hl ⟨e1, refs, rfl, len, nd, hr⟩
  rw [List.length_map] at len
  refine ⟨trivial, ?_⟩
  have ls : S.length < S1.length := (List.getElem?_eq_some_iff.mp h1).1
  walk_at "s"
  refine r_len rfl ?_
  rw [List.length_map]
  walk_at "s"
  refine r_rg (by omega) (by omega) ?_
  rw [rng_map']
  have gok : ∀ g, g < G.length → ∃ r, refs[g]? = some r ∧ r ∈ refs := fun g hg => ⟨_, List.getElem?_eq_getElem (by omega), List.getElem_mem _⟩
  refine for_inv (fun i σ S' => ∃ s2 s3 : Option D, σ = [some (encG G), some (.ref S.length), s2, s3, none] ∧ Ext S S' ∧ S1.length ≤ S'.length ∧ S'[S.length]? = some (.lst (refs.map D.ref)) ∧ ∀ g r, refs[g]? = some r → ∃ ks : List Nat, S'[r]? = some (.lst (ks.map fun k : Nat => D.int (k : Nat))) ∧ ks.Nodup ∧ ks.length ≤ i ∧ ∀ k, k ∈ ks ↔ k < i ∧ g ∈ gl G k) ?_ ?_ ?_
  · exact ⟨_, _, rfl, e1, Nat.le_refl _, h1, fun g r hg => ⟨[], (hr r (List.mem_of_getElem? hg)).2.2, .nil, Nat.zero_le _, fun k => by simp⟩⟩
  · rintro i x σ S2 R hx ⟨s2, s3, rfl, e2, l2, c2, cells⟩ hR
    refine ⟨trivial, ?_⟩
    rw [List.getElem?_map] at hx
    cases hq : (List.range G.length)[i]? with
    | none => rw [hq] at hx; cases hx
    | some q =>
      rw [hq] at hx
      cases hx
      have hi : i < G.length := by have := (List.getElem?_eq_some_iff.mp hq).1; simpa using this
      have : q = i := by rw [List.getElem?_range hi] at hq; cases hq; rfl
      subst this
      walk_at "s"
      refine r_iLst ?_
      walk_at "s"
      refine r_ixT (g_at hi) ?_
      walk_at "s"
      refine r_sortSet (ks := gl G q) rfl (hG.few q hi) fun ls hls mls => ?_
      refine .inr ⟨_, _, rfl, new_at S2 _, ?_⟩
      refine for_inv (fun m σ S' => ∃ s3 : Option D, σ = [some (encG G), some (.ref S.length), some (.int (q : Nat)), s3, none] ∧ Ext S S' ∧ S1.length ≤ S'.length ∧ S'[S2.length]? = some (.lst (ls.map fun k : Nat => D.int (k : Nat))) ∧ S'[S.length]? = some (.lst (refs.map D.ref)) ∧ ∀ g r, refs[g]? = some r → ∃ ks : List Nat, S'[r]? = some (.lst (ks.map fun k : Nat => D.int (k : Nat))) ∧ ks.Nodup ∧ ks.length ≤ q + (if g ∈ ls.take m then 1 else 0) ∧ ∀ k, k ∈ ks ↔ (k < q ∧ g ∈ gl G k) ∨ (k = q ∧ g ∈ ls.take m)) ?_ ?_ ?_
      · refine ⟨_, rfl, e2.trans (Ext.app S2 _), by simp; omega, new_at S2 _, Ext.app S2 _ _ _ c2, fun g r hg => ?_⟩
        obtain ⟨ks, a, b, c, d⟩ := cells g r hg
        exact ⟨ks, Ext.app S2 _ _ _ a, b, by simpa using c, fun k => by rw [d]; simp⟩
      · rintro m y σ S3 R3 hy ⟨s3, rfl, e3, l3, l3c, c3, cells3⟩ hR3
        refine ⟨l3c, ?_⟩
        rw [List.getElem?_map] at hy
        cases hz : ls[m]? with
        | none => rw [hz] at hy; cases hy
        | some z =>
          rw [hz] at hy
          cases hy
          have hzl : z ∈ ls := List.mem_of_getElem? hz
          have zg : z ∈ gl G q := (mls z).mp hzl
          have zn := hG.lt q z hi zg
          obtain ⟨r, hr1, hr2⟩ := gok z zn
          obtain ⟨ks, a, b, c, d⟩ := cells3 z r hr1
          have tk : ls.take (m + 1) = ls.take m ++ [z] := by rw [List.take_add_one, hz]; rfl
          have rl := (List.getElem?_eq_some_iff.mp (hr r hr2).2.2).1
          have nin : z ∉ ls.take m := fun hh => by
            obtain ⟨i1, hi1, e⟩ := List.getElem_of_mem hh
            rw [List.length_take] at hi1
            rw [List.getElem_take] at e
            obtain ⟨hm, e2⟩ := List.getElem?_eq_some_iff.mp hz
            have := List.pairwise_iff_getElem.mp hls i1 m (by omega) hm (by omega)
            omega
          rw [if_neg nin] at c
          walk_at "s"
          refine r_ixL c3 (v := .ref r) (by rw [atI_n, List.getElem?_map, hr1]; rfl) ?_
          refine r_tyL a ?_
          walk_at "s"
          refine r_app a (by rw [List.length_map]; simp only [sizeLine]; omega) fun S4 q4 o4 => ?_
          walk_at "s"
          refine hR3 _ _ ⟨_, rfl, fun n cc hcc => ?_, by rw [o4.len]; exact l3, o4.ne (by omega) l3c, o4.ne (Ne.symm (hr r hr2).1) c3, fun g r' hg => ?_⟩
          · have : n < S.length := (List.getElem?_eq_some_iff.mp hcc).1
            have := (hr r hr2).2.1
            exact o4.ne (by omega) (e3 _ _ hcc)
          · by_cases eg : g = z
            · subst eg
              rw [hr1] at hg
              cases hg
              refine ⟨ks ++ [q], by rw [q4, List.map_append]; rfl, ?_, by rw [List.length_append, tk, if_pos (by simp)]; simp only [List.length_cons, List.length_nil]; omega, fun k => ?_⟩
              · rw [List.nodup_append]
                refine ⟨b, by simp, fun u hu v hv => ?_⟩
                rw [List.mem_singleton] at hv
                rintro rfl
                rcases (d u).mp hu with w | w
                · omega
                · exact nin w.2
              · rw [List.mem_append, d, List.mem_singleton, tk]
                constructor
                · rintro ((w | w) | w)
                  · exact .inl w
                  · exact absurd w.2 nin
                  · exact .inr ⟨w, by simp⟩
                · rintro (w | w)
                  · exact .inl (.inl w)
                  · exact .inr w.1
            · obtain ⟨ks', a', b', c', d'⟩ := cells3 g r' hg
              have rne : r' ≠ r := fun e => by
                subst e
                obtain ⟨h1, e1⟩ := List.getElem?_eq_some_iff.mp hg
                obtain ⟨h2, e2⟩ := List.getElem?_eq_some_iff.mp hr1
                exact eg ((List.getElem_inj nd).mp (e1.trans e2.symm))
              have mem : g ∈ ls.take (m + 1) ↔ g ∈ ls.take m := by rw [tk, List.mem_append, List.mem_singleton]; exact ⟨fun z => z.resolve_right eg, .inl⟩
              refine ⟨ks', o4.ne rne a', b', ?_, fun k => by rw [d', mem]⟩
              by_cases hh : g ∈ ls.take m
              · rw [if_pos hh] at c'
                rw [if_pos (mem.mpr hh)]; exact c'
              · rw [if_neg hh] at c'
                rw [if_neg (fun w => hh (mem.mp w))]; exact c'
      · rintro σ S3 ⟨s3, rfl, e3, l3, l3c, c3, cells3⟩
        refine ⟨l3c, ?_⟩
        rw [List.length_map, List.take_length] at cells3
        refine hR _ _ ⟨_, _, rfl, e3, l3, c3, fun g r hg => ?_⟩
        obtain ⟨ks, a, b, c, d⟩ := cells3 g r hg
        refine ⟨ks, a, b, by split at c <;> omega, fun k => ?_⟩
        rw [d, mls]
        constructor
        · rintro (w | w)
          · exact ⟨by omega, w.2⟩
          · exact ⟨by omega, by rw [w.1]; exact w.2⟩
        · rintro ⟨w1, w2⟩
          by_cases e : k = q
          · exact .inr ⟨e, by rw [← e]; exact w2⟩
          · exact .inl ⟨by omega, w2⟩
  · rintro σ S2 ⟨s2, s3, rfl, e2, l2, c2, cells⟩
    refine ⟨trivial, ?_⟩
    rw [List.length_map, List.length_range] at cells
    walk_at "s"
    refine h S2 S.length e2 ⟨by omega, refs, c2, len, fun g r hg => ?_⟩
    obtain ⟨ks, a, b, c, d⟩ := cells g r hg
    exact ⟨(List.getElem?_eq_some_iff.mp a).1, ks, a, b, d⟩
end PG
/-! SPg: drawn. -/
namespace PG
open PySem L2 SD
section
variable {G : List Spt} {sps : List Nat}
/-- how many of k's goals in sps are not in P -/
def cnt (G : List Spt) (sps : List Nat) (k : Nat) (P : List Nat) : Nat := (canon G.length fun g => decide (g ∈ gl G k) && decide (g ∈ sps) && !decide (g ∈ P)).length
theorem cnt_dec {k g0 : Nat} {P : List Nat} (h1 : g0 ∈ gl G k) (h2 : g0 ∈ sps) (h3 : g0 ∉ P) (h4 : g0 < G.length) : cnt G sps k P = cnt G sps k (g0 :: P) + 1 := by
  unfold cnt
  have a := canon_ok G.length fun g => decide (g ∈ gl G k) && decide (g ∈ sps) && !decide (g ∈ P)
  have b := canon_ok G.length fun g => decide (g ∈ gl G k) && decide (g ∈ sps) && !decide (g ∈ g0 :: P)
  have p : (canon G.length fun g => decide (g ∈ gl G k) && decide (g ∈ sps) && !decide (g ∈ P)).Perm (g0 :: canon G.length fun g => decide (g ∈ gl G k) && decide (g ∈ sps) && !decide (g ∈ g0 :: P)) := by
    refine (List.perm_ext_iff_of_nodup a.nodup (List.nodup_cons.mpr ⟨fun z => ?_, b.nodup⟩)).mpr fun x => ?_
    · rw [mem_canon] at z
      simp at z
    · rw [List.mem_cons, mem_canon, mem_canon]
      simp only [Bool.and_eq_true, decide_eq_true_eq, Bool.not_eq_true', decide_eq_false_iff_not, List.mem_cons, not_or]
      constructor
      · rintro ⟨u, ⟨v, w⟩, z⟩
        by_cases e : x = g0
        · exact .inl e
        · exact .inr ⟨u, ⟨v, w⟩, e, z⟩
      · rintro (e | ⟨u, ⟨v, w⟩, e, z⟩)
        · subst e; exact ⟨h4, ⟨h1, h2⟩, h3⟩
        · exact ⟨u, ⟨v, w⟩, z⟩
  rw [p.length_eq, List.length_cons]
theorem cnt_same {k g0 : Nat} {P : List Nat} (h1 : g0 ∉ gl G k) : cnt G sps k (g0 :: P) = cnt G sps k P := by
  unfold cnt
  congr 1
  refine (canon_ok _ _).ext (canon_ok _ _) fun x => ?_
  rw [mem_canon, mem_canon]
  simp only [Bool.and_eq_true, decide_eq_true_eq, Bool.not_eq_true', decide_eq_false_iff_not, List.mem_cons, not_or]
  constructor
  · rintro ⟨u, ⟨v, w⟩, e, z⟩
    exact ⟨u, ⟨v, w⟩, z⟩
  · rintro ⟨u, ⟨v, w⟩, z⟩
    exact ⟨u, ⟨v, w⟩, fun e => h1 (e ▸ v), z⟩
theorem cnt_zero {k : Nat} {P : List Nat} (h : cnt G sps k P = 0) {g : Nat} (h1 : g ∈ gl G k) (h2 : g ∈ sps) (h4 : g < G.length) : g ∈ P := by
  refine Classical.byContradiction fun z => ?_
  have : g ∈ canon G.length fun g => decide (g ∈ gl G k) && decide (g ∈ sps) && !decide (g ∈ P) := by
    rw [mem_canon]; simp [h1, h2, h4, z]
  unfold cnt at h
  rw [List.eq_nil_of_length_eq_zero h] at this
  cases this
theorem cnt_pos {k : Nat} {P : List Nat} (h : 0 < cnt G sps k P) : ∃ g, g ∈ gl G k ∧ g ∈ sps ∧ g ∉ P := by
  unfold cnt at h
  cases e : canon G.length fun g => decide (g ∈ gl G k) && decide (g ∈ sps) && !decide (g ∈ P) with
  | nil => rw [e] at h; exact absurd h (Nat.lt_irrefl _)
  | cons g r =>
    have : g ∈ canon G.length fun g => decide (g ∈ gl G k) && decide (g ∈ sps) && !decide (g ∈ P) := by rw [e]; exact List.mem_cons_self
    rw [mem_canon] at this
    simp only [Bool.and_eq_true, decide_eq_true_eq, Bool.not_eq_true', decide_eq_false_iff_not] at this
    exact ⟨g, this.2.1.1, this.2.1.2, this.2.2⟩
theorem cnt_has {k : Nat} {P : List Nat} {g : Nat} (h1 : g ∈ gl G k) (h2 : g ∈ sps) (h3 : g ∉ P) (h4 : g < G.length) : 0 < cnt G sps k P := by
  unfold cnt
  refine List.length_pos_of_mem (a := g) ?_
  rw [mem_canon]; simp [h1, h2, h3, h4]
theorem cnt_of {k : Nat} (hl : ∀ g, g ∈ gl G k → g < G.length) {c : Nat} {ys : List Int} (nd : ys.Nodup) (m : ∀ y, y ∈ ys ↔ y ∈ ((gl G k).filter fun g => decide (g ∈ sps)).map fun g : Nat => (g : Int)) (l : ys.length = c) : c = cnt G sps k [] := by
  have p : ys.Perm ((canon G.length fun g => decide (g ∈ gl G k) && decide (g ∈ sps) && !decide (g ∈ ([] : List Nat))).map fun g : Nat => (g : Int)) := by
    refine (List.perm_ext_iff_of_nodup nd ?_).mpr fun y => ?_
    · rw [List.nodup_iff_pairwise_ne, List.pairwise_map]
      exact (canon_ok G.length fun g => decide (g ∈ gl G k) && decide (g ∈ sps) && !decide (g ∈ ([] : List Nat))).1.imp fun {a b} h => by omega
    · rw [m, List.mem_map, List.mem_map]
      constructor
      · rintro ⟨g, hg, rfl⟩
        rw [List.mem_filter, decide_eq_true_eq] at hg
        exact ⟨g, mem_canon.mpr ⟨hl g hg.1, by simp [hg.1, hg.2]⟩, rfl⟩
      · rintro ⟨g, hg, rfl⟩
        rw [mem_canon] at hg
        simp only [Bool.and_eq_true, decide_eq_true_eq] at hg
        exact ⟨g, List.mem_filter.mpr ⟨hg.2.1.1, decide_eq_true hg.2.1.2⟩, rfl⟩
  rw [← l, p.length_eq, List.length_map]; rfl
/-- drawn so far: fs, by the moves m -/
structure Dr (G : List Spt) (sps gls : List Nat) (pl : Nat) (m0 : Nat → Option Nat) (fs : List Nat) (m : Nat → Option Nat) : Prop where
  nd : fs.Nodup
  sub : ∀ k ∈ fs, k ∈ sps
  tgt : ∀ k ∈ gls, k ∈ fs
  good : ∀ l1 k l2, fs = l1 ++ k :: l2 → k ∉ gls → (ow G k = pl → ∃ g, m k = some g ∧ g ∈ gl G k ∧ g ∈ l1) ∧ (ow G k ≠ pl → ∀ g, g ∈ gl G k → g ∈ sps → g ∈ l1)
  keep : ∀ k, (k ∉ fs ∨ k ∈ gls ∨ ow G k ≠ pl) → m k = m0 k
variable {gls fs : List Nat} {pl : Nat} {m0 m m' : Nat → Option Nat}
theorem Dr.add (D : Dr G sps gls pl m0 fs m) {k : Nat} (h1 : k ∈ sps) (h2 : k ∉ fs) (hm : ∀ j, j ≠ k → m' j = m j) (ho : ow G k = pl → ∃ g, m' k = some g ∧ g ∈ gl G k ∧ g ∈ fs) (hn : ow G k ≠ pl → m' k = m k ∧ ∀ g, g ∈ gl G k → g ∈ sps → g ∈ fs) : Dr G sps gls pl m0 (fs ++ [k]) m' where
  nd := by
    rw [List.nodup_append]
    exact ⟨D.nd, by simp, fun a ha b hb => by rw [List.mem_singleton] at hb; rintro rfl; exact h2 (hb ▸ ha)⟩
  sub := fun j hj => by
    rcases List.mem_append.mp hj with hj | hj
    · exact D.sub j hj
    · rw [List.mem_singleton] at hj; rw [hj]; exact h1
  tgt := fun j hj => List.mem_append.mpr (.inl (D.tgt j hj))
  good := fun l1 j l2 e nj => by
    rcases List.eq_nil_or_concat l2 with rfl | ⟨l3, b, rfl⟩
    · have e2 := List.append_inj' e rfl
      have ej : k = j := by simpa using e2.2
      have el : fs = l1 := e2.1
      subst ej el
      exact ⟨ho, fun o => (hn o).2⟩
    · rw [List.concat_eq_append, ← List.cons_append, ← List.append_assoc] at e
      have e2 := List.append_inj' e rfl
      have hj : j ∈ fs := by rw [e2.1]; simp
      have ne : j ≠ k := fun z => h2 (z ▸ hj)
      rw [hm j ne]
      exact D.good l1 j l3 e2.1 nj
  keep := fun j hj => by
    by_cases e : j = k
    · subst e
      by_cases o : ow G j = pl
      · exfalso
        rcases hj with z | z | z
        · exact z (by simp)
        · exact h2 (D.tgt j z)
        · exact z o
      · rw [(hn o).1]; exact D.keep j (.inl h2)
    · rw [hm j e]
      refine D.keep j (hj.imp (fun z y => z (List.mem_append.mpr (.inl y))) id)
theorem Dr.att (D : Dr G sps gls pl m0 fs m) (hn : ∀ k ∈ sps, k ∉ fs → (ow G k = pl → ∀ g, g ∈ gl G k → g ∉ fs) ∧ (ow G k ≠ pl → ∃ g, g ∈ gl G k ∧ g ∈ sps ∧ g ∉ fs)) : Att G (fun k => k ∈ sps) pl (fun k => k ∈ gls) (fun k => k ∈ fs) m where
  sub := D.sub
  tgt := D.tgt
  rk := by
    refine ⟨fun k => fs.idxOf k, fun k hk nk => ?_⟩
    obtain ⟨l1, l2, e⟩ := List.append_of_mem hk
    obtain ⟨g1, g2⟩ := D.good l1 k l2 e nk
    have nd := D.nd
    rw [e, List.nodup_append] at nd
    have nk1 : k ∉ l1 := fun z => nd.2.2 k z k List.mem_cons_self rfl
    have rkk : fs.idxOf k = l1.length := by rw [e, List.idxOf_append, if_neg nk1, List.idxOf_cons_self]; omega
    have less : ∀ g, g ∈ l1 → g ∈ fs ∧ fs.idxOf g < fs.idxOf k := fun g hg => by
      refine ⟨by rw [e]; simp [hg], ?_⟩
      rw [rkk, e, List.idxOf_append, if_pos hg]
      exact List.idxOf_lt_length_iff.mpr hg
    refine ⟨fun o => ?_, fun o g hg hs => less g (g2 o g hg hs)⟩
    obtain ⟨g, a, b, c⟩ := g1 o
    exact ⟨g, a, b, less g c⟩
  out := hn
end
theorem r_pop {n : Nat} {y : D} {ys : List D} {S : Store} {Q : PD} (e : S[n]? = some (.lst (ys ++ [y]))) (h : ∀ S', S'[n]? = some (.lst ys) → Off n S S' → Q y S') : popF (.ref n) [] S Q :=
  ⟨n, ys ++ [y], y, rfl, rfl, e, by simp, h _ (by rw [List.dropLast_concat]; exact set_at e) (Off.set _ _ _)⟩
theorem r_augD {fo fi f : FE} {fr : F2} {E : EndsD} {σ : Slots} {S : Store} (h : fo σ S fun o S1 => fi σ S1 fun i S2 => ∃ kvs x, dictD S2 o = some kvs ∧ (toKey i).isSome = true ∧ valD kvs i = some x ∧ f σ S2 fun y S4 => fr x y S4 fun z S5 => setF o i z S5 fun S6 => E.nx σ S6) : sAugD fo fi f fr E σ S := h
theorem extB_off {l : List Nat} {S S1 S2 : Store} {n : Nat} (e : ExtB l S S1) (o : Off n S1 S2) (h : n ∈ l ∨ S.length ≤ n) : ExtB l S S2 := ⟨by rw [o.len]; exact e.1, fun i hi c hc => by
  have := (List.getElem?_eq_some_iff.mp hc).1
  rw [o.off i (by rintro rfl; rcases h with h | h; exact hi h; omega)]
  exact e.2 i hi c hc⟩
theorem drawnG_spec {G : List Spt} (hG : OkG G) {S : Store} {B b0 sp gr mv pl : Nat} {sps gls : List Nat} {ms : List (Nat × Nat)} {Q : PD} (hB : Bef G S B b0) (hsp : S[sp]? = some (.dct (setD sps))) (hgr : S[gr]? = some (.dct (setD gls))) (hmv : S[mv]? = some (.dct (mapM ms)))
    (bm : b0 ≤ mv) (nsp : mv ≠ sp) (ngr : mv ≠ gr) (nds : sps.Nodup) (lts : ∀ k ∈ sps, k < G.length) (ndg : gls.Nodup) (sub : ∀ k ∈ gls, k ∈ sps) (succ : ∀ k ∈ sps, ∃ g, g ∈ gl G k ∧ g ∈ sps) (hm : OkM G.length ms)
    (h : ∀ (S' : Store) (r : Nat) (fs : List Nat) (ms' : List (Nat × Nat)), ExtB [mv] S S' → S.length ≤ r → S'[r]? = some (.dct (setD fs)) → S'[mv]? = some (.dct (mapM ms')) → OkM G.length ms' → fs.Nodup → Att G (fun k => k ∈ sps) pl (fun k => k ∈ gls) (fun k => k ∈ fs) (getM ms') →
      (∀ k, (k ∉ fs ∨ k ∈ gls ∨ ow G k ≠ pl) → getM ms' k = getM ms k) → Q (.ref r) S') : F_drawn [encG G, .ref B, .ref sp, .int (pl : Nat), .ref gr, .ref mv] S Q := by
  refine r_fn rfl ?_
  unfold b_drawn
  have hs := hG.size
  have spl : sps.length ≤ G.length := by
    have := subset_len (ls := List.range G.length) nds fun j hj => List.mem_range.mpr (lts j hj)
    rwa [List.length_range] at this
  have lsp : sp < S.length := (List.getElem?_eq_some_iff.mp hsp).1
  have lmv : mv < S.length := (List.getElem?_eq_some_iff.mp hmv).1
  walk_at "s"
  refine r_dictF (dct_at hgr) ?_
  walk_at "s"
  refine r_listD (Ext.app S _ _ _ hgr) ?_
  rw [setD_keys]
  walk_at "s"
  have eA : Ext S (S ++ [Cell.dct (setD gls)] ++ [Cell.lst (gls.map fun k : Nat => D.int (k : Nat))]) := (Ext.app S _).trans (Ext.app _ _)
  have fA : (S ++ [Cell.dct (setD gls)] ++ [Cell.lst (gls.map fun k : Nat => D.int (k : Nat))])[S.length]? = some (.dct (setD gls)) := Ext.app _ _ _ _ (new_at S _)
  have wA : (S ++ [Cell.dct (setD gls)] ++ [Cell.lst (gls.map fun k : Nat => D.int (k : Nat))])[S.length + 1]? = some (.lst (gls.map fun k : Nat => D.int (k : Nat))) := by
    have := new_at (S ++ [Cell.dct (setD gls)]) (Cell.lst (gls.map fun k : Nat => D.int (k : Nat)))
    rw [List.length_append] at this
    exact this
  have lA : (S ++ [Cell.dct (setD gls)] ++ [Cell.lst (gls.map fun k : Nat => D.int (k : Nat))]).length = S.length + 2 := by simp
  rw [show (S ++ [Cell.dct (setD gls)]).length = S.length + 1 by simp]
  generalize S ++ [Cell.dct (setD gls)] ++ [Cell.lst (gls.map fun k : Nat => D.int (k : Nat))] = SA at eA fA wA lA ⊢
  refine ⟨sp, setD sps, rfl, eA _ _ hsp, ?_⟩
  walk_at "s"
  have spA := eA _ _ hsp
  have lk0 : (SA.set sp (.lck (setD sps)))[sp]? = some (.lck (setD sps)) := set_at spA
  refine ⟨sp, setD sps, rfl, lk0, ?_⟩
  rw [setD_keys]
  have lL : (SA.set sp (.lck (setD sps))).length = S.length + 2 := by rw [List.length_set]; exact lA
  intro few
  refine dc_inv (fun i acc S' => Ext (SA.set sp (.lck (setD sps))) S' ∧ ∀ k ∈ sps.take i, valD acc (.int (k : Nat)) = some (.int (cnt G sps k [] : Nat))) few (new_at _ _) ⟨Ext.app _ _, fun k hk => by simp at hk⟩ ?_ ?_
  · rintro i x acc S1 R hx h1 hl ⟨e1, val⟩ hR
    refine ⟨e1 _ _ lk0, ?_⟩
    rw [List.getElem?_map] at hx
    cases hq : sps[i]? with
    | none => rw [hq] at hx; cases hx
    | some k =>
      rw [hq] at hx
      cases hx
      have hk := List.mem_of_getElem? hq
      have hkn := lts k hk
      have hi : i < sps.length := (List.getElem?_eq_some_iff.mp hq).1
      have tk : sps.take (i + 1) = sps.take i ++ [k] := by rw [List.take_add_one, hq]; rfl
      walk_at "s"
      refine r_iTup ?_
      walk_at "s"
      refine r_ixT (g_at hkn) ?_
      walk_at "s"
      refine ⟨_, rfl, ?_⟩
      intro few2
      have fewk := hG.few k hkn
      refine lc_nats (fun g => decide (g ∈ sps)) (fun _ => rfl) (by omega) (fun g hg S2 P e2 hP => ?_) fun S2 e2 h2 => ?_
      · have q := e2 _ _ (e1 _ _ lk0)
        walk_at "s"
        refine r_inD (lck_at q) rfl ?_
        rw [Bool.xor_false, setD_val]
        walk_at "s"
        exact hP S2 (.refl _)
      · have fl := List.length_filter_le (fun g => decide (g ∈ sps)) (gl G k)
        refine ⟨_, ((gl G k).filter fun g => decide (g ∈ sps)).map fun g : Nat => (g : Int), rfl, by rw [h2, List.map_map]; rfl, by rw [List.length_map]; omega, fun c ys nd my hc => ?_⟩
        rw [cnt_of (fun g hg => hG.lt k g hkn hg) nd my hc]
        have h1' := e2 _ _ h1
        refine ⟨acc, rfl, h1', by rw [List.length_map] at few; simp only [sizeLine]; omega, ?_⟩
        refine hR _ _ (set_at h1') (Nat.le_trans (length_putD _ _ _) (by omega)) ⟨(e1.trans e2).put (Nat.le_refl _), fun j hj => ?_⟩
        by_cases e : j = k
        · subst e; rw [putD_self]
        · rw [putD_ne _ _ (by intro z; injection z with z; omega)]
          rw [tk, List.mem_append, List.mem_singleton] at hj
          exact val j (hj.resolve_right e)
  rintro lf S1 h1 hl ⟨e1, val⟩
  refine ⟨e1 _ _ lk0, ?_⟩
  walk_at "s"
  rw [List.length_map] at hl val
  rw [List.take_length] at val
  refine ⟨e1 _ _ lk0, ?_⟩
  rw [lL] at h1 ⊢
  have e2 : Ext SA (S1.set sp (.dct (setD sps))) := unlock_ext spA e1
  have h2 : (S1.set sp (.dct (setD sps)))[S.length + 2]? = some (.dct lf) := by rw [set_off (by omega)]; exact h1
  generalize S1.set sp (.dct (setD sps)) = S2 at e2 h2
  clear h1 e1 S1 lk0
  walk_at "s"
  have eB : ExtB [mv] S S2 := (eA.trans e2).b _
  have wt0 : (gls.map fun k : Nat => D.int (k : Nat)).length = gls.length := List.length_map _
  refine while_inv (fun w σ S' => ∃ (fs po wt : List Nat) (ks : List (D × D)) (mm : List (Nat × Nat)) (s9 s10 : Option D), σ = [some (encG G), some (.ref B), some (.ref sp), some (.int (pl : Nat)), some (.ref gr), some (.ref mv), some (.ref S.length), some (.ref (S.length + 1)), some (.ref (S.length + 2)), s9, s10] ∧
    ExtB [mv] S S' ∧ S'[S.length]? = some (.dct (setD fs)) ∧ S'[S.length + 1]? = some (.lst (wt.map fun k : Nat => D.int (k : Nat))) ∧ S'[S.length + 2]? = some (.dct ks) ∧ S'[mv]? = some (.dct (mapM mm)) ∧ OkM G.length mm ∧ ks.length ≤ sps.length ∧
    Dr G sps gls pl (getM ms) fs (getM mm) ∧ (po ++ wt).Perm fs ∧ (∀ k ∈ sps, k ∉ fs → valD ks (.int (k : Nat)) = some (.int (cnt G sps k po : Nat)) ∧ (ow G k = pl → ∀ g, g ∈ gl G k → g ∉ po) ∧ (ow G k ≠ pl → 0 < cnt G sps k po)) ∧ w = 2 * (G.length + 1 - fs.length) + wt.length) (2 * (G.length + 1 - gls.length) + gls.length) ?_ ?_
  · refine ⟨gls, [], gls, lf, ms, _, _, rfl, eB, e2 _ _ fA, e2 _ _ wA, h2, (eA.trans e2) _ _ hmv, hm, hl, ⟨ndg, sub, fun k hk => hk, fun l1 k l2 e nk => absurd (by rw [e]; simp) nk, fun k _ => rfl⟩, by simp, fun k hk nk => ⟨val k hk, fun _ g _ => List.not_mem_nil, fun o => ?_⟩, rfl⟩
    obtain ⟨g, a, b⟩ := succ k hk
    exact cnt_has a b (by simp) (lts g b)
  · rintro w σ S3 R ⟨fs, po, wt, lk, mm, s9, s10, rfl, e3, f3, w3, l3, m3, okm, kl, DD, pm, out, rfl⟩ hR
    have spS : ∀ {S' : Store}, ExtB [mv] S S' → S'[sp]? = some (.dct (setD sps)) := fun e => e.2 sp (by simpa using Ne.symm nsp) _ hsp
    have fsl : ∀ {fs : List Nat} {m : Nat → Option Nat}, Dr G sps gls pl (getM ms) fs m → fs.length ≤ G.length := fun D => by
      have := subset_len D.nd D.sub
      omega
    have fl := fsl DD
    walk_at "s"
    refine r_len (lst_sq w3) ?_
    rw [List.length_map]
    walk_at "s"
    refine ite_b (fun hb => ?_) (fun hb => ?_)
    · have hb := of_decide_eq_true hb
      obtain ⟨wt1, g0, rfl⟩ : ∃ wt1 g0, wt = wt1 ++ [g0] := by
        rcases List.eq_nil_or_concat wt with e | ⟨l, b, e⟩
        · rw [e] at hb; simp at hb
        · exact ⟨l, b, by rw [e, List.concat_eq_append]⟩
      have g0f : g0 ∈ fs := pm.mem_iff.mp (by simp)
      have g0s := DD.sub g0 g0f
      have g0n := lts g0 g0s
      have ndp : (po ++ (wt1 ++ [g0])).Nodup := pm.nodup_iff.mpr DD.nd
      have g0p : g0 ∉ po := fun z => by
        rw [List.nodup_append] at ndp
        exact ndp.2.2 g0 z g0 (by simp) rfl
      have pm1 : (g0 :: po ++ wt1).Perm fs := by
        refine List.Perm.trans ?_ pm
        rw [← List.append_assoc, List.cons_append]
        exact (List.perm_append_singleton g0 (po ++ wt1)).symm
      have pof : ∀ g, g ∈ g0 :: po → g ∈ fs := fun g hg => pm1.mem_iff.mp (List.mem_append.mpr (.inl hg))
      rw [List.map_append] at w3
      walk_at "s"
      refine r_tyL w3 ?_
      walk_at "s"
      refine r_pop w3 fun S4 q4 o4 => ?_
      have e4 := extB_off e3 o4 (.inr (by omega))
      have bef : ∀ {S' : Store}, ExtB [mv] S S' → Bef G S' B b0 := fun e => hB.up e fun i hi => by rw [List.mem_singleton] at hi; rw [hi]; exact bm
      walk_at "s"
      refine r_iLst ?_
      walk_at "s"
      obtain ⟨_, refs, b2, b3, b4⟩ := hB
      obtain ⟨r, hr⟩ : ∃ r, refs[g0]? = some r := ⟨_, List.getElem?_eq_getElem (by omega)⟩
      obtain ⟨rb, kb, c1, c2, c3⟩ := b4 g0 r hr
      have Bc : B ≠ mv := fun z => by have := (bef (ExtB.refl [mv] S)).1; omega
      refine r_ixL (e4.2 B (by simpa using Bc) _ b2) (v := .ref r) (by rw [atI_n, List.getElem?_map, hr]; rfl) ?_
      have rc : ∀ {S' : Store}, ExtB [mv] S S' → S'[r]? = some (.lst (kb.map fun k : Nat => D.int (k : Nat))) := fun e => e.2 r (by simp; omega) _ c1
      refine .inr ⟨r, _, rfl, rc e4, ?_⟩
      refine for_inv (fun i σ S' => ∃ (fi wt' : List Nat) (lk : List (D × D)) (mm : List (Nat × Nat)) (s10 : Option D), σ = [some (encG G), some (.ref B), some (.ref sp), some (.int (pl : Nat)), some (.ref gr), some (.ref mv), some (.ref S.length), some (.ref (S.length + 1)), some (.ref (S.length + 2)), some (.int (g0 : Nat)), s10] ∧
        ExtB [mv] S S' ∧ S'[S.length]? = some (.dct (setD fi)) ∧ S'[S.length + 1]? = some (.lst (wt'.map fun k : Nat => D.int (k : Nat))) ∧ S'[S.length + 2]? = some (.dct lk) ∧ S'[mv]? = some (.dct (mapM mm)) ∧ OkM G.length mm ∧ lk.length ≤ sps.length ∧
        Dr G sps gls pl (getM ms) fi (getM mm) ∧ (g0 :: po ++ wt').Perm fi ∧ (∀ k ∈ sps, k ∉ fi → (∀ P, P = (if k ∈ kb.drop i then po else g0 :: po) → valD lk (.int (k : Nat)) = some (.int (cnt G sps k P : Nat)) ∧ (ow G k = pl → ∀ g, g ∈ gl G k → g ∉ P) ∧ (ow G k ≠ pl → 0 < cnt G sps k P))) ∧
        2 * (G.length + 1 - fi.length) + wt'.length < 2 * (G.length + 1 - fs.length) + (wt1 ++ [g0]).length) ?_ ?_ ?_
      · refine ⟨fs, wt1, lk, mm, _, rfl, e4, o4.ne (by omega) f3, q4, o4.ne (by omega) l3, o4.ne (by omega) m3, okm, kl, DD, pm1, fun k hk nk P hP => ?_, by rw [List.length_append]; simp only [List.length_cons, List.length_nil]; omega⟩
        obtain ⟨a, b, c⟩ := out k hk nk
        rw [List.drop_zero] at hP
        by_cases hkb : k ∈ kb
        · rw [if_pos hkb] at hP
          subst hP
          exact ⟨a, b, c⟩
        · rw [if_neg hkb] at hP
          subst hP
          have no : g0 ∉ gl G k := fun z => hkb ((c3 k).mpr ⟨lts k hk, z⟩)
          rw [cnt_same no]
          refine ⟨a, fun o g hg z => ?_, c⟩
          rcases List.mem_cons.mp z with z | z
          · subst z; exact no hg
          · exact b o g hg z
      · rintro i x σ S5 R5 hx ⟨fi, wt', lk5, mm5, s10, rfl, e5, f5, w5, l5, m5, okm5, kl5, D5, pm5, out5, ms5⟩ hR5
        refine ⟨rc e5, ?_⟩
        rw [List.getElem?_map] at hx
        cases hq : kb[i]? with
        | none => rw [hq] at hx; cases hx
        | some k =>
          rw [hq] at hx
          cases hx
          have hkb := List.mem_of_getElem? hq
          obtain ⟨hkn, hkg⟩ := (c3 k).mp hkb
          have hi : i < kb.length := (List.getElem?_eq_some_iff.mp hq).1
          have dr : kb.drop i = k :: kb.drop (i + 1) := by
            rw [List.drop_eq_getElem_cons hi]
            rw [List.getElem?_eq_getElem hi] at hq
            cases hq; rfl
          have ndr : k ∉ kb.drop (i + 1) := by
            have nd := c2.sublist (List.drop_sublist i kb)
            rw [dr, List.nodup_cons] at nd
            exact nd.1
          have other : ∀ j, j ≠ k → (if j ∈ kb.drop (i + 1) then po else g0 :: po) = (if j ∈ kb.drop i then po else g0 :: po) := fun j ne => by
            have : j ∈ kb.drop i ↔ j ∈ kb.drop (i + 1) := by
              rw [dr, List.mem_cons]
              exact ⟨fun z => z.resolve_left ne, .inr⟩
            simp only [this]
          walk_at "s"
          refine r_inD (dct_at (spS e5)) rfl ?_
          rw [Bool.xor_false, setD_val]
          walk_at "s"
          by_cases hks : k ∈ sps
          · rw [decide_eq_true hks]
            walk_at "s"
            refine r_inD (dct_at f5) rfl ?_
            rw [Bool.xor_true, setD_val]
            walk_at "s"
            by_cases hkf : k ∈ fi
            · rw [decide_eq_true hkf]
              walk_at "s"
              refine hR5 _ _ ⟨fi, wt', lk5, mm5, _, rfl, e5, f5, w5, l5, m5, okm5, kl5, D5, pm5, fun j hj nj P hP => ?_, ms5⟩
              have ne : j ≠ k := fun z => nj (z ▸ hkf)
              rw [other j ne] at hP
              exact out5 j hj nj P hP
            · rw [decide_eq_false hkf]
              have fil := fsl D5
              obtain ⟨val, o1, o2⟩ := out5 k hks hkf po (by rw [dr, if_pos List.mem_cons_self])
              have dec := cnt_dec (P := po) hkg g0s g0p g0n
              walk_at "s"
              refine r_augD ?_
              walk_at "s"
              refine ⟨lk5, _, dct_at l5, rfl, val, ?_⟩
              walk_at "s"
              have ec : ((cnt G sps k po : Nat) : Int) - 1 = (cnt G sps k (g0 :: po) : Nat) := by omega
              rw [ec]
              refine r_setD1 l5 rfl (by simp only [sizeLine]; omega) fun S6 q6 o6 => ?_
              have e6 := extB_off e5 o6 (.inr (by omega))
              have f6 := o6.ne (k := S.length) (by omega) f5
              have w6 := o6.ne (k := S.length + 1) (by omega) w5
              have m6 := o6.ne (k := mv) (by omega) m5
              have kl6 : (putD lk5 (.int (k : Nat)) (.int (cnt G sps k (g0 :: po) : Nat))).length ≤ sps.length := by
                rw [putD_len_in (by rw [val]; rfl)]; exact kl5
              have lkne : ∀ j, j ≠ k → valD (putD lk5 (.int (k : Nat)) (.int (cnt G sps k (g0 :: po) : Nat))) (.int (j : Nat)) = valD lk5 (.int (j : Nat)) := fun j ne => putD_ne _ _ (by intro z; injection z with z; omega)
              have added : ∀ (E : EndsD) (S7 : Store) (mm7 : List (Nat × Nat)), E.nx = R5 → ExtB [mv] S S7 → S7[S.length]? = some (.dct (setD fi)) → S7[S.length + 1]? = some (.lst (wt'.map fun k : Nat => D.int (k : Nat))) → S7[S.length + 2]? = some (.dct (putD lk5 (.int (k : Nat)) (.int (cnt G sps k (g0 :: po) : Nat)))) → S7[mv]? = some (.dct (mapM mm7)) → OkM G.length mm7 →
                  Dr G sps gls pl (getM ms) (fi ++ [k]) (getM mm7) → (sSeq (sAsg (eC (.bl true)) (gSubD (eVar 6) (eVar 10))) (sDrop (eMt "list" appF (eVar 7) (aCons (eVar 10) aNil)))) E [some (encG G), some (.ref B), some (.ref sp), some (.int (pl : Nat)), some (.ref gr), some (.ref mv), some (.ref S.length), some (.ref (S.length + 1)), some (.ref (S.length + 2)), some (.int (g0 : Nat)), some (.int (k : Nat))] S7 := by
                intro E S7 mm7 hE e7 f7 w7 l7 m7 okm7 D7
                have fil7 := fsl D7
                rw [List.length_append] at fil7
                simp only [List.length_cons, List.length_nil] at fil7
                walk_at "s"
                refine r_setD1 f7 rfl (by rw [setD_length]; simp only [sizeLine]; omega) fun S8 q8 o8 => ?_
                rw [setD_put] at q8
                have ik : insK fi k = fi ++ [k] := by unfold insK; rw [if_neg hkf]
                rw [ik] at q8
                have w8 := o8.ne (k := S.length + 1) (by omega) w7
                have wl : wt'.length ≤ fi.length := by
                  have := pm5.length_eq
                  simp only [List.length_append, List.length_cons] at this
                  omega
                walk_at "s"
                refine r_tyL w8 ?_
                walk_at "s"
                refine r_app w8 (by rw [List.length_map]; simp only [sizeLine]; omega) fun S9 q9 o9 => ?_
                walk_at "s"
                rw [hE]
                refine hR5 _ _ ⟨fi ++ [k], wt' ++ [k], _, mm7, _, rfl, extB_off (extB_off e7 o8 (.inr (Nat.le_refl _))) o9 (.inr (by omega)), o9.ne (by omega) q8, by rw [q9, List.map_append]; rfl, o9.ne (by omega) (o8.ne (by omega) l7), o9.ne (by omega) (o8.ne (by omega) m7), okm7, kl6, D7, ?_, fun j hj nj P hP => ?_, ?_⟩
                · rw [← List.append_assoc]
                  exact pm5.append_right [k]
                · have ne : j ≠ k := fun z => nj (by rw [z]; simp)
                  rw [other j ne] at hP
                  rw [lkne j ne]
                  exact out5 j hj (fun z => nj (List.mem_append.mpr (.inl z))) P hP
                · simp only [List.length_append, List.length_cons, List.length_nil] at ms5 ⊢
                  omega
              have g0fi : g0 ∈ fi := pm5.mem_iff.mp (by simp)
              walk_at "s"
              refine r_ixT (g_at hkn) ?_
              walk_at "s"
              by_cases o : ow G k = pl
              · refine r_ifT (decide_eq_true (by omega)) ?_
                walk_at "s"
                refine r_setD1 m6 rfl (by rw [mapM_len]; have := okm5.len; simp only [sizeLine]; omega) fun S7 q7 o7 => ?_
                rw [mapM_put] at q7
                walk_at "s"
                refine r_ixT (g_at hkn) ?_
                walk_at "s"
                refine r_ifT (decide_eq_true (by omega)) ?_
                refine r_ifT rfl ?_
                exact added _ S7 _ rfl (extB_off e6 o7 (.inl (by simp))) (o7.ne (by omega) f6) (o7.ne (by omega) w6) (o7.ne (by omega) q6) q7 (okm5.ins hkn g0) (D5.add hks hkf (fun j ne => by rw [getM_ins, if_neg ne]) (fun _ => ⟨g0, by rw [getM_ins, if_pos rfl], hkg, g0fi⟩) fun no => absurd o no)
              · refine r_ifF (decide_eq_false (by omega)) ?_
                walk_at "s"
                refine r_ixT (g_at hkn) ?_
                walk_at "s"
                refine r_ifF (decide_eq_false (by omega)) ?_
                walk_at "s"
                refine r_ixD (dct_at q6) rfl (putD_self _ _ _) ?_
                walk_at "s"
                by_cases z : cnt G sps k (g0 :: po) = 0
                · refine r_ifT (decide_eq_true (by omega)) ?_
                  exact added _ S6 mm5 rfl e6 f6 w6 q6 m6 okm5 (D5.add hks hkf (fun _ _ => rfl) (fun y => absurd y o) fun _ => ⟨rfl, fun g hg hs => pm5.mem_iff.mp (List.mem_append.mpr (.inl (cnt_zero z hg hs (lts g hs))))⟩)
                · refine r_ifF (decide_eq_false (by omega)) ?_
                  walk_at "s"
                  refine hR5 _ _ ⟨fi, wt', _, mm5, _, rfl, e6, f6, w6, q6, m6, okm5, kl6, D5, pm5, fun j hj nj P hP => ?_, ms5⟩
                  by_cases e : j = k
                  · subst e
                    rw [if_neg ndr] at hP
                    subst hP
                    exact ⟨putD_self _ _ _, fun y => absurd y o, fun _ => by omega⟩
                  · rw [other j e] at hP
                    rw [lkne j e]
                    exact out5 j hj nj P hP
          · rw [decide_eq_false hks]
            walk_at "s"
            refine hR5 _ _ ⟨fi, wt', lk5, mm5, _, rfl, e5, f5, w5, l5, m5, okm5, kl5, D5, pm5, fun j hj nj P hP => ?_, ms5⟩
            have ne : j ≠ k := fun z => hks (z ▸ hj)
            rw [other j ne] at hP
            exact out5 j hj nj P hP
      · rintro σ S5 ⟨fs1, wt', lk1, mm1, s10, rfl, e5, f5, w5, l5, m5, okm5, kl5, D5, pm5, out5, ms5⟩
        rw [List.length_map] at out5
        refine ⟨rc e5, ?_⟩
        refine hR _ _ _ ?_ ⟨fs1, g0 :: po, wt', lk1, mm1, _, _, rfl, e5, f5, w5, l5, m5, okm5, kl5, D5, pm5, fun k hk nk => ?_, rfl⟩
        · exact ms5
        · exact out5 k hk nk _ (by rw [List.drop_length, if_neg (by simp)])
    · have hb := of_decide_eq_false hb
      have e0 : wt = [] := List.eq_nil_of_length_eq_zero (by omega)
      subst e0
      rw [List.append_nil] at pm
      walk_at "s"
      refine h S3 S.length fs mm e3 (Nat.le_refl _) f3 m3 okm DD.nd (DD.att fun k hk nk => ?_) DD.keep
      obtain ⟨_, b, c⟩ := out k hk nk
      refine ⟨fun o g hg z => b o g hg (pm.mem_iff.mpr z), fun o => ?_⟩
      obtain ⟨g, g1, g2, g3⟩ := cnt_pos (c o)
      exact ⟨g, g1, g2, fun z => g3 (pm.mem_iff.mpr z)⟩
end PG
/-! SPh: small things for won_parts. -/
namespace PG
open PySem L2 SD
/-- {k: True for k in d if t}, d a set by the name in slot i -/
theorem lock_dc {σ : Slots} {i n iv : Nat} {ks : List Nat} {t : FT} {S : Store} {Q : PD} (hi : σ[i]? = some (some (.ref n))) (hS : S[n]? = some (.dct (setD ks))) (few : ks.length < 100000) (hw : (wipeD σ [iv])[i]? = some (some (.ref n)) ∨ True) (hv : ∀ d : D, ((wipeD σ [iv]).set iv (some d))[iv]? = some (some d)) (p : Nat → Bool)
    (ht : ∀ x ∈ ks, ∀ S1 (P : Bool → Store → Prop), Ext (S.set n (.lck (setD ks))) S1 → (∀ S2, Ext S1 S2 → P (p x) S2) → t ((wipeD σ [iv]).set iv (some (.int (x : Nat)))) S1 P)
    (h : ∀ (S' : Store) (ls : List Nat), Ext S S' → S'[S.length]? = some (.dct (setD ls)) → ls.Nodup → (∀ j, j ∈ ls ↔ j ∈ ks ∧ p j = true) → Q (.ref S.length) S') :
    eDc (iKeysD i) (gNm iv) t (eVar iv) (eC (.bl true)) [iv] σ (S.set n (.lck (setD ks))) fun d S' => S'[n]? = some (.lck (setD ks)) ∧ Q d (S'.set n (.dct (setD ks))) := by
  have nl : n < S.length := (List.getElem?_eq_some_iff.mp hS).1
  have len : (S.set n (.lck (setD ks))).length = S.length := List.length_set
  refine r_dc ⟨n, setD ks, hi, set_at hS, ?_⟩
  rw [setD_keys]
  intro _
  refine dc_set ks p (by simp only [sizeLine]; omega) hv (fun S1 e1 => e1 _ _ (set_at hS)) ht fun S1 ls e1 h1 nd mm => ?_
  rw [len] at h1 ⊢
  exact ⟨e1 _ _ (set_at hS), h _ ls (unlock_ext hS e1) (by rw [set_off (by omega)]; exact h1) nd mm⟩
theorem lock_set {σ : Slots} {i n iv : Nat} {ks : List Nat} {t : FT} {S : Store} {Q : PD} (hi : σ[i]? = some (some (.ref n))) (hS : S[n]? = some (.dct (setD ks))) (few : ks.length < 100000) (hv : ∀ d : D, ((wipeD σ [iv]).set iv (some d))[iv]? = some (some d)) (p : Nat → Bool)
    (ht : ∀ x ∈ ks, ∀ S1 (P : Bool → Store → Prop), Ext (S.set n (.lck (setD ks))) S1 → (∀ S2, Ext S1 S2 → P (p x) S2) → t ((wipeD σ [iv]).set iv (some (.int (x : Nat)))) S1 P)
    (h : ∀ (S' : Store) (ls : List Nat), Ext S S' → S'[S.length]? = some (.dct (setD ls)) → ls.Nodup → (∀ j, j ∈ ls ↔ j ∈ ks ∧ p j = true) → Q (.ref S.length) S') :
    eLock i (eDc (iKeysD i) (gNm iv) t (eVar iv) (eC (.bl true)) [iv]) σ S Q := ⟨n, setD ks, hi, hS, lock_dc hi hS few (.inr trivial) hv p ht h⟩
theorem lock_setS {σ : Slots} {i j n iv : Nat} {ks : List Nat} {t : FT} {S : Store} {E : EndsD} (hi : σ[i]? = some (some (.ref n))) (hS : S[n]? = some (.dct (setD ks))) (few : ks.length < 100000) (hv : ∀ d : D, ((wipeD σ [iv]).set iv (some d))[iv]? = some (some d)) (p : Nat → Bool)
    (ht : ∀ x ∈ ks, ∀ S1 (P : Bool → Store → Prop), Ext (S.set n (.lck (setD ks))) S1 → (∀ S2, Ext S1 S2 → P (p x) S2) → t ((wipeD σ [iv]).set iv (some (.int (x : Nat)))) S1 P)
    (h : ∀ (S' : Store) (ls : List Nat), Ext S S' → S'[S.length]? = some (.dct (setD ls)) → ls.Nodup → (∀ j, j ∈ ls ↔ j ∈ ks ∧ p j = true) → E.nx (σ.set j (some (.ref S.length))) S') :
    sLock i (sAsg (eDc (iKeysD i) (gNm iv) t (eVar iv) (eC (.bl true)) [iv]) (gNm j)) E σ S := ⟨n, setD ks, hi, hS, r_asg (lock_dc (Q := fun d S' => E.nx (σ.set j (some d)) S') hi hS few (.inr trivial) hv p ht h)⟩
/-- {k: d[k] for k in d if k in ..}, d a dict of moves -/
theorem lock_moves {σ : Slots} {i n iv : Nat} {ms : List (Nat × Nat)} {t : FT} {fv : FE} {S : Store} {Q : PD} (hi : σ[i]? = some (some (.ref n))) (hS : S[n]? = some (.dct (mapM ms))) (nd : (ms.map (·.1)).Nodup) (few : ms.length < 100000) (hv : ∀ d : D, ((wipeD σ [iv]).set iv (some d))[iv]? = some (some d)) (p : Nat → Bool)
    (ht : ∀ x ∈ ms, ∀ S1 (P : Bool → Store → Prop), Ext (S.set n (.lck (mapM ms))) S1 → (∀ S2, Ext S1 S2 → P (p x.1) S2) → t ((wipeD σ [iv]).set iv (some (.int (x.1 : Nat)))) S1 P)
    (hf : ∀ x ∈ ms, ∀ S1 (P : PD), Ext (S.set n (.lck (mapM ms))) S1 → (∀ S2, Ext S1 S2 → P (.int (x.2 : Nat)) S2) → fv ((wipeD σ [iv]).set iv (some (.int (x.1 : Nat)))) S1 P)
    (h : ∀ (S' : Store), Ext S S' → S'[S.length]? = some (.dct (mapM (ms.filter fun x => p x.1))) → Q (.ref S.length) S') :
    eLock i (eDc (iKeysD i) (gNm iv) t (eVar iv) fv [iv]) σ S Q := by
  have nl : n < S.length := (List.getElem?_eq_some_iff.mp hS).1
  have len : (S.set n (.lck (mapM ms))).length = S.length := List.length_set
  refine ⟨n, mapM ms, hi, hS, r_dc ⟨n, mapM ms, hi, set_at hS, ?_⟩⟩
  have ek : (mapM ms).map (·.1) = ms.map fun x => D.int (x.1 : Nat) := by unfold mapM; rw [List.map_map]; rfl
  rw [ek]
  intro few2
  refine dc_inv (fun k acc S' => Ext (S.set n (.lck (mapM ms))) S' ∧ acc = mapM ((ms.take k).filter fun x => p x.1)) few2 (new_at _ _) ⟨Ext.app _ _, rfl⟩ ?_ ?_
  · rintro k x acc S1 R hx h1 hl ⟨e1, rfl⟩ hR
    refine ⟨e1 _ _ (set_at hS), ?_⟩
    rw [List.getElem?_map] at hx
    cases hq : ms[k]? with
    | none => rw [hq] at hx; cases hx
    | some y =>
      rw [hq] at hx
      cases hx
      have hm := List.mem_of_getElem? hq
      have hk : k < ms.length := (List.getElem?_eq_some_iff.mp hq).1
      have tk : ms.take (k + 1) = ms.take k ++ [y] := by rw [List.take_add_one, hq]; rfl
      refine r_nm (ht y hm S1 _ e1 fun S2 e2 => ?_)
      have h2 := e2 _ _ h1
      cases hp : p y.1 with
      | false =>
        rw [if_neg (by decide)]
        refine hR _ _ h2 (by omega) ⟨e1.trans e2, ?_⟩
        rw [tk, List.filter_append, List.filter_cons_of_neg (by simp [hp])]; simp
      | true =>
        rw [if_pos rfl]
        refine r_var (hv _) (hf y hm S2 _ (e1.trans e2) fun S3 e3 => ⟨_, rfl, e3 _ _ h2, by rw [mapM_len]; have := List.length_filter_le (fun x : Nat × Nat => p x.1) (ms.take k); rw [List.length_take] at this; simp only [sizeLine]; omega, ?_⟩)
        refine hR _ _ (set_at (e3 _ _ h2)) (Nat.le_trans (length_putD _ _ _) (by omega)) ⟨((e1.trans e2).trans e3).put (Nat.le_refl _), ?_⟩
        rw [mapM_put, tk, List.filter_append, List.filter_cons_of_pos (by simp [hp])]
        congr 1
        unfold insM
        rw [if_neg ?_]
        · rfl
        · intro z
          obtain ⟨q, hq1, hq2⟩ := List.any_eq_true.mp z
          have hq2 := of_decide_eq_true hq2
          have hq3 := (List.mem_filter.mp hq1).1
          obtain ⟨i1, hi1, e1⟩ := List.getElem_of_mem hq3
          rw [List.length_take] at hi1
          rw [List.getElem_take] at e1
          obtain ⟨hk2, e2⟩ := List.getElem?_eq_some_iff.mp hq
          rw [List.nodup_iff_pairwise_ne, List.pairwise_map, List.pairwise_iff_getElem] at nd
          exact nd i1 k (by omega) hk2 (by omega) (by rw [e1, e2, hq2])
  · rintro acc S1 h1 hl ⟨e1, rfl⟩
    rw [List.length_map, List.take_length] at h1
    rw [len] at h1 ⊢
    exact ⟨e1 _ _ (set_at hS), e1 _ _ (set_at hS), h _ (unlock_ext hS e1) (by rw [set_off (by omega)]; exact h1)⟩
theorem getM_filter (ms : List (Nat × Nat)) (p : Nat → Bool) (k : Nat) : getM (ms.filter fun x => p x.1) k = if p k = true then getM ms k else none := by
  unfold getM
  induction ms with
  | nil => simp
  | cons y ms ih =>
    cases hp : p y.1 with
    | false =>
      rw [List.filter_cons_of_neg (by simp [hp]), ih]
      by_cases e : y.1 = k
      · subst e
        rw [if_neg (by simp [hp]), if_neg (by simp [hp])]
      · rw [List.find?_cons_of_neg (by simp [e])]
    | true =>
      rw [List.filter_cons_of_pos (by simp [hp])]
      by_cases e : y.1 = k
      · subst e
        rw [List.find?_cons_of_pos (by simp), List.find?_cons_of_pos (by simp), if_pos hp]
      · rw [List.find?_cons_of_neg (by simp [e]), List.find?_cons_of_neg (by simp [e]), ih]
theorem OkM.filter {n : Nat} {ms : List (Nat × Nat)} (h : OkM n ms) (p : Nat → Bool) : OkM n (ms.filter fun x => p x.1) :=
  ⟨h.nd.sublist (List.Sublist.map _ List.filter_sublist), fun q hq => h.lt q (List.mem_filter.mp hq).1⟩
theorem getM_at {ms : List (Nat × Nat)} (nd : (ms.map (·.1)).Nodup) {x : Nat × Nat} (h : x ∈ ms) : getM ms x.1 = some x.2 := by
  unfold getM
  induction ms with
  | nil => cases h
  | cons y ms ih =>
    rw [List.map_cons, List.nodup_cons] at nd
    rcases List.mem_cons.mp h with rfl | h
    · rw [List.find?_cons_of_pos (by simp)]; rfl
    · have ne : y.1 ≠ x.1 := fun z => nd.1 (by rw [z]; exact List.mem_map.mpr ⟨x, h, rfl⟩)
      rw [List.find?_cons_of_neg (by simpa using ne)]
      exact ih nd.2 h
section
variable {G : List Spt} {X X' W W' : Nat → Prop} {p : Nat} {m m' : Nat → Option Nat}
theorem Win.congr (h : Win G X p W m) (hx : ∀ k, X k ↔ X' k) (hw : ∀ k, W k ↔ W' k) (hm : ∀ k, W k → m' k = m k) : Win G X' p W' m' := by
  have e1 : X = X' := funext fun k => propext (hx k)
  have e2 : W = W' := funext fun k => propext (hw k)
  subst e1 e2
  refine ⟨h.sub, fun k z o => ?_, h.other, fun a M ha r => h.cyc a M ha (r.mono fun x y ⟨hx, hy, hg, hs⟩ => ⟨hx, hy, hg, fun o => by rw [← hm x hx]; exact hs o⟩)⟩
  obtain ⟨g, e, a, b⟩ := h.mine k z o
  exact ⟨g, by rw [hm k z]; exact e, a, b⟩
theorem Win.none (G : List Spt) (X : Nat → Prop) (p : Nat) (m : Nat → Option Nat) : Win G X p (fun k => k ∈ ([] : List Nat)) m :=
  ⟨fun k h => (by cases h), fun k h => (by cases h), fun k h => (by cases h), fun a M h => (by cases h)⟩
end
end PG
/-! SPi: won_parts. -/
namespace PG
open PySem L2 SD
/-- the wish for a part of the game -/
def WonWish (G : List Spt) (S : Store) (sps : List Nat) (Q : PD) : Prop :=
  ∀ (S' : Store) (wl mv w0 w1 : Nat) (W : Nat → List Nat) (ms : List (Nat × Nat)), Ext S S' → S.length ≤ wl → S.length ≤ mv → S.length ≤ w0 → S.length ≤ w1 → S'[wl]? = some (.lst [.ref w0, .ref w1]) → S'[w0]? = some (.dct (setD (W 0))) → S'[w1]? = some (.dct (setD (W 1))) → S'[mv]? = some (.dct (mapM ms)) → OkM G.length ms →
    (∀ p, p < 2 → (W p).Nodup ∧ Win G (fun k => k ∈ sps) p (fun k => k ∈ W p) (getM ms)) → (∀ k ∈ sps, k ∈ W 0 ∨ k ∈ W 1) → (∀ k, getM ms k ≠ none → k ∈ sps) → Q (.tup [.ref wl, .ref mv]) S'
def selW (P : Nat) (U : List Nat) (W : Nat → List Nat) (p : Nat) : List Nat := if p = P then U else W p
theorem selW_eq {P p : Nat} {U : List Nat} {W : Nat → List Nat} (h : p = P) : selW P U W p = U := if_pos h
theorem selW_ne {P p : Nat} {U : List Nat} {W : Nat → List Nat} (h : p ≠ P) : selW P U W p = W p := if_neg h
theorem two {p : Nat} (h : p < 2) : p = 0 ∨ p = 1 := by omega
set_option maxHeartbeats 8000000 in
theorem won_spec {G : List Spt} (hG : OkG G) {B b0 : Nat} : ∀ (k : Nat) (S : Store) (sp : Nat) (sps : List Nat) (Q : PD), Bef G S B b0 → b0 ≤ S.length → S[sp]? = some (.dct (setD sps)) → sps.Nodup → (∀ x ∈ sps, x < G.length) → (∀ x ∈ sps, ∃ g, g ∈ gl G x ∧ g ∈ sps) → (∀ x ∈ sps, lv G x + 2 ≤ k) → 1 ≤ k →
    WonWish G S sps Q → F_won_parts k [encG G, .ref B, .ref sp] S Q
  | 0, _, _, _, _, _, _, _, _, _, _, _, h, _ => absurd h (by decide)
  | k + 1, S, sp, sps, Q, hB, hb0, hsp, nds, lts, succ, lev, _, hQ => by
    refine r_fn rfl ?_
    unfold b_won_parts
    have hs := hG.size
    have lsp : sp < S.length := (List.getElem?_eq_some_iff.mp hsp).1
    have few : ∀ {xs : List Nat}, xs.Nodup → (∀ x ∈ xs, x ∈ sps) → xs.length ≤ G.length := fun nd sb => by
      have := subset_len (ls := List.range G.length) nd fun j hj => List.mem_range.mpr (lts j (sb j hj))
      rwa [List.length_range] at this
    walk_at "s"
    have eA : Ext S (S ++ [Cell.dct []] ++ [Cell.dct []] ++ [Cell.lst [.ref S.length, .ref (S ++ [Cell.dct []]).length]] ++ [Cell.dct []]) := (((Ext.app S _).trans (Ext.app _ _)).trans (Ext.app _ _)).trans (Ext.app _ _)
    have a0 : (S ++ [Cell.dct []] ++ [Cell.dct []] ++ [Cell.lst [.ref S.length, .ref (S ++ [Cell.dct []]).length]] ++ [Cell.dct []])[S.length]? = some (.dct (setD [])) := Ext.app _ _ _ _ (Ext.app _ _ _ _ (Ext.app _ _ _ _ (new_at S _)))
    have a1 : (S ++ [Cell.dct []] ++ [Cell.dct []] ++ [Cell.lst [.ref S.length, .ref (S ++ [Cell.dct []]).length]] ++ [Cell.dct []])[S.length + 1]? = some (.dct (setD [])) := by
      have := new_at (S ++ [Cell.dct []]) (Cell.dct [])
      rw [List.length_append] at this
      exact Ext.app _ _ _ _ (Ext.app _ _ _ _ this)
    have a2 : (S ++ [Cell.dct []] ++ [Cell.dct []] ++ [Cell.lst [.ref S.length, .ref (S ++ [Cell.dct []]).length]] ++ [Cell.dct []])[S.length + 2]? = some (.lst [.ref S.length, .ref (S.length + 1)]) := by
      have := new_at (S ++ [Cell.dct []] ++ [Cell.dct []]) (Cell.lst [.ref S.length, .ref (S ++ [Cell.dct []]).length])
      rw [show (S ++ [Cell.dct []] ++ [Cell.dct []]).length = S.length + 2 by simp, show (S ++ [Cell.dct []]).length = S.length + 1 by simp] at this
      rw [show (S ++ [Cell.dct []]).length = S.length + 1 by simp]
      exact Ext.app _ _ _ _ this
    have a3 : (S ++ [Cell.dct []] ++ [Cell.dct []] ++ [Cell.lst [.ref S.length, .ref (S ++ [Cell.dct []]).length]] ++ [Cell.dct []])[S.length + 3]? = some (.dct (mapM [])) := by
      have := new_at (S ++ [Cell.dct []] ++ [Cell.dct []] ++ [Cell.lst [.ref S.length, .ref (S ++ [Cell.dct []]).length]]) (Cell.dct [])
      rw [show (S ++ [Cell.dct []] ++ [Cell.dct []] ++ [Cell.lst [.ref S.length, .ref (S ++ [Cell.dct []]).length]]).length = S.length + 3 by simp] at this
      exact this
    rw [show (S ++ [Cell.dct []] ++ [Cell.dct []] ++ [Cell.lst [.ref S.length, .ref (S ++ [Cell.dct []]).length]]).length = S.length + 3 by simp, show (S ++ [Cell.dct []] ++ [Cell.dct []]).length = S.length + 2 by simp]
    generalize S ++ [Cell.dct []] ++ [Cell.dct []] ++ [Cell.lst [.ref S.length, .ref (S ++ [Cell.dct []]).length]] ++ [Cell.dct []] = SA at eA a0 a1 a2 a3 ⊢
    refine while_inv (fun w σ S' => ∃ (nr : Nat) (now : List Nat) (W : Nat → List Nat) (ms : List (Nat × Nat)) (t6 t7 t8 t9 t10 t11 t12 t13 t14 t15 t16 : Option D), σ = [some (encG G), some (.ref B), some (.ref sp), some (.ref (S.length + 2)), some (.ref (S.length + 3)), some (.ref nr), t6, t7, t8, t9, t10, t11, t12, t13, t14, t15, t16] ∧ Ext S S' ∧ S'[S.length + 2]? = some (.lst [.ref S.length, .ref (S.length + 1)]) ∧
      (∀ p, p < 2 → S'[S.length + p]? = some (.dct (setD (W p))) ∧ (W p).Nodup ∧ Win G (fun x => x ∈ sps) p (fun x => x ∈ W p) (getM ms) ∧ (∀ x ∈ now, x ∉ W p) ∧ ∀ x ∈ now, ow G x = p → ∀ g, g ∈ gl G x → g ∉ W p) ∧ S'[S.length + 3]? = some (.dct (mapM ms)) ∧ OkM G.length ms ∧ S'[nr]? = some (.dct (setD now)) ∧ (nr < S.length ∨ S.length + 4 ≤ nr) ∧ now.Nodup ∧ (∀ x ∈ now, x ∈ sps) ∧
      (∀ x ∈ now, ∃ g, g ∈ gl G x ∧ g ∈ now) ∧ (∀ x ∈ sps, x ∈ now ∨ x ∈ W 0 ∨ x ∈ W 1) ∧ (∀ x, getM ms x ≠ none → x ∈ sps ∧ x ∉ now) ∧ w = now.length) sps.length ?_ ?_
    · refine ⟨sp, sps, fun _ => [], [], none, none, none, none, none, none, none, none, none, none, none, rfl, eA, a2, fun p hp => ⟨?_, .nil, Win.none _ _ _ _, fun _ _ => List.not_mem_nil, fun _ _ _ _ _ => List.not_mem_nil⟩, a3, OkM.nil _, eA _ _ hsp, .inl lsp, nds, fun x h => h, succ, fun x h => .inl h, fun x h => absurd rfl h, rfl⟩
      rcases two hp with rfl | rfl
      · exact a0
      · exact a1
    · rintro w σ S1 R ⟨nr, now, W, ms, t6, t7, t8, t9, t10, t11, t12, t13, t14, t15, t16, rfl, e1, c2, wins, c3, okm, cn, nrn, ndn, nsub, nsucc, cover, mkeys, rfl⟩ hR
      have nl := few ndn nsub
      walk_at "s"
      refine r_lenD (dct_at cn) ?_
      rw [setD_length]
      walk_at "s"
      refine ite_b (fun hb => ?_) (fun hb => ?_)
      · have hb := of_decide_eq_true hb
        walk_at "s"
        refine ⟨nr, setD now, rfl, cn, ?_⟩
        walk_at "s"
        refine ⟨nr, setD now, rfl, set_at cn, ?_⟩
        rw [setD_keys]
        intro few1
        have nrl : nr < S1.length := (List.getElem?_eq_some_iff.mp cn).1
        have c3l : S.length + 3 < S1.length := (List.getElem?_eq_some_iff.mp c3).1
        refine lc_each now (fun x : Nat => .int (x : Nat)) (fun x : Nat => .int (lv G x : Nat)) (by simp only [sizeLine]; omega) (fun S' e' => e' _ _ (set_at cn)) (fun x hx S2 P e2 hP => ?_) fun S2 e2 h2 => ?_
        · walk_at "s"
          refine r_ixT (g_at (lts x (nsub x hx))) ?_
          walk_at "s"
          exact hP S2 (.refl _)
        refine ⟨e2 _ _ (set_at cn), ?_⟩
        have u3 : Ext S1 (S2.set nr (.dct (setD now))) := unlock_ext cn e2
        rw [List.length_set] at h2 ⊢
        have h3 : (S2.set nr (.dct (setD now)))[S1.length]? = some (.lst (now.map fun x : Nat => D.int (lv G x : Nat))) := by rw [set_off (by omega)]; exact h2
        generalize S2.set nr (.dct (setD now)) = S3 at u3 h3
        clear h2 e2 S2
        walk_at "s"
        refine ⟨S1.length, now.map fun x : Nat => ((lv G x : Nat) : Int), rfl, by rw [h3, List.map_map]; rfl, by rw [List.length_map]; omega, fun m hm hle => ?_⟩
        obtain ⟨k0, hk0, rfl⟩ := List.mem_map.mp hm
        have htop : ∀ x ∈ now, lv G x ≤ lv G k0 := fun x hx => by
          have := hle _ (List.mem_map.mpr ⟨x, hx, rfl⟩)
          omega
        have tlev := lev k0 (nsub k0 hk0)
        generalize lv G k0 = top at htop tlev ⊢
        walk_at "s"
        rw [show ((top : Nat) : Int) % 2 = ((top % 2 : Nat) : Int) by omega]
        obtain ⟨P, eP⟩ : ∃ P, P = top % 2 := ⟨_, rfl⟩
        have P2 : P < 2 := by omega
        rw [← eP]
        have n3 : (S3 ++ [Cell.dct []])[nr]? = some (.dct (setD now)) := Ext.app S3 _ _ _ (u3 _ _ cn)
        have o3 : (S3 ++ [Cell.dct []])[S3.length]? = some (.dct (mapM [])) := new_at S3 _
        have l13 := u3.le
        refine lock_setS rfl n3 (by omega) (fun _ => rfl) (fun x => decide (lv G x = top)) (fun x hx S2 Pk e2 hP => ?_) fun S4 tps e4 h4 nd4 m4 => ?_
        · walk_at "s"
          refine r_ixT (g_at (lts x (nsub x hx))) ?_
          walk_at "s"
          rw [show decide (((lv G x : Nat) : Int) = (top : Nat)) = decide (lv G x = top) from decide_eq_decide.mpr (by omega)]
          exact hP S2 (.refl _)
        have e14 : Ext S1 S4 := (u3.trans (Ext.app S3 _)).trans e4
        have l34 : S3.length + 1 < S4.length := by have := (List.getElem?_eq_some_iff.mp h4).1; rw [List.length_append] at this; exact this
        rw [show (S3 ++ [Cell.dct []]).length = S3.length + 1 by simp] at h4
        have o4 := e4 _ _ o3
        have n4 := e4 _ _ n3
        have bef : ∀ {S' : Store}, Ext S S' → Bef G S' B b0 := fun e => hB.up (e.b []) fun i hi => by cases hi
        walk_at "s"
        rw [show (S3 ++ [Cell.dct []]).length = S3.length + 1 by simp]
        refine drawnG_spec hG (b0 := b0) (ms := []) (bef (e1.trans e14)) n4 h4 o4 (by have := e1.le; omega) (by omega) (by omega) ndn (fun x hx => lts x (nsub x hx)) nd4 (fun x hx => ((m4 x).mp hx).1) nsucc (OkM.nil _) fun S5 r5 fs own x5 l5 f5 w5 okw ndf att keep5 => ?_
        have e15 : Ext S1 S5 := fun i c hc => by
          have := (List.getElem?_eq_some_iff.mp hc).1
          exact x5.2 i (by simp; omega) c (e14 _ _ hc)
        have n5 := e15 _ _ cn
        have t5 : S5[S3.length + 1]? = some (.dct (setD tps)) := x5.2 _ (by simp) _ h4
        have r5l : r5 < S5.length := (List.getElem?_eq_some_iff.mp f5).1
        have l45 := x5.1
        walk_at "s"
        refine lock_set rfl n5 (by omega) (fun _ => rfl) (fun x => !decide (x ∈ fs)) (fun x hx S2 Pk e2 hP => ?_) fun S6 sb e6 h6 nd6 m6 => ?_
        · walk_at "s"
          refine r_inD (dct_at (e2 _ _ ((set_off (by omega)).trans f5))) rfl ?_
          rw [Bool.xor_true, setD_val]
          walk_at "s"
          exact hP S2 (.refl _)
        have m6 : ∀ x, x ∈ sb ↔ x ∈ now ∧ x ∉ fs := fun x => by rw [m6]; simp
        have tin : ∀ x, x ∈ tps ↔ x ∈ now ∧ lv G x = top := fun x => by rw [m4]; simp
        have e16 := e15.trans e6
        walk_at "s"
        refine won_spec hG k S6 S5.length sb _ (bef (e1.trans e16)) (by have := (e1.trans e16).le; omega) h6 nd6 (fun x hx => lts x (nsub x ((m6 x).mp hx).1)) (fun x hx => ?_) (fun x hx => ?_) (by omega) ?_
        · obtain ⟨hx1, hx2⟩ := (m6 x).mp hx
          obtain ⟨a, b⟩ := att.out x hx1 hx2
          by_cases o : ow G x = P
          · obtain ⟨g, g1, g2⟩ := nsucc x hx1
            exact ⟨g, g1, (m6 g).mpr ⟨g2, a o g g1⟩⟩
          · obtain ⟨g, g1, g2, g3⟩ := b o
            exact ⟨g, g1, (m6 g).mpr ⟨g2, g3⟩⟩
        · obtain ⟨hx1, hx2⟩ := (m6 x).mp hx
          have h1 := htop x hx1
          have h2 : lv G x ≠ top := fun z => hx2 (att.tgt x ((tin x).mpr ⟨hx1, z⟩))
          omega
        intro S7 il iv i0 i1 IW st e7 l1 l2 l3 l4 d1 d2 d3 d4 oks iw icov ikeys
        have e17 := e16.trans e7
        obtain ⟨ir, eir⟩ : ∃ ir : Nat → Nat, ir = fun p => if p = 0 then i0 else i1 := ⟨_, rfl⟩
        have irc : ∀ p : Nat, p < 2 → S7[ir p]? = some (.dct (setD (IW p))) ∧ S6.length ≤ ir p := fun p hp => by
          rcases two hp with rfl | rfl <;> rw [eir]
          · exact ⟨d2, l3⟩
          · exact ⟨d3, l4⟩
        have ira : ∀ p : Nat, p < 2 → atI [D.ref i0, .ref i1] (p : Int) = some (.ref (ir p)) := fun p hp => by
          rcases two hp with rfl | rfl <;> rw [eir] <;> rfl
        have wra : ∀ p : Nat, p < 2 → atI [D.ref S.length, .ref (S.length + 1)] (p : Int) = some (.ref (S.length + p)) := fun p hp => by
          rcases two hp with rfl | rfl <;> rfl
        have Q2 : 1 - P < 2 := by omega
        have subA : ∀ x, x ∈ sb → x ∈ now := fun x hx => ((m6 x).mp hx).1
        have owp : ∀ x, x ∈ sps → (ow G x ≠ P ↔ ow G x = 1 - P) := fun x hx => by have := hG.own x (lts x hx); omega
        walk_at "s"
        rw [show (1 : Int) - (P : Nat) = ((1 - P : Nat) : Int) by omega]
        refine r_ixL d1 (ira _ Q2) ?_
        walk_at "s"
        refine r_lenD (dct_at (irc _ Q2).1) ?_
        rw [setD_length]
        walk_at "s"
        refine ite_b (fun hz => ?_) (fun hz => ?_)
        · have hz : IW (1 - P) = [] := List.eq_nil_of_length_eq_zero (by have := of_decide_eq_true hz; omega)
          walk_at "s"
          have c27 := e17 _ _ c2
          have cW := e17 _ _ (wins P P2).1
          have cN := e17 _ _ cn
          have l17 := e17.le
          have l56 := e6.le
          have l67 := e7.le
          refine r_ixL c27 (wra P P2) ?_
          refine r_tyDc cW ?_
          walk_at "s"
          have lW := few (wins P P2).2.1 fun x hx => (wins P P2).2.2.1.sub x hx
          refine r_updD (by omega) cW (dct_at cN) (by rw [setD_length, setD_length]; simp only [sizeLine]; omega) fun S8 q8 o8 => ?_
          obtain ⟨U, gU1, gU2, gU3⟩ := setD_merge (W P) now
          rw [gU1] at q8
          have m8 := o8.ne (k := S.length + 3) (by omega) (e17 _ _ c3)
          have s8 := o8.ne (k := iv) (by omega) d4
          have w8 : S8[S3.length]? = some (.dct (mapM own)) := o8.ne (by omega) (e7 _ _ (e6 _ _ w5))
          have t8 : S8[S3.length + 1]? = some (.dct (setD tps)) := o8.ne (by omega) (e7 _ _ (e6 _ _ t5))
          have n8 := o8.ne (k := nr) (by omega) cN
          have lms := okm.len
          have lst := oks.len
          have low := okw.len
          walk_at "s"
          refine r_tyDc m8 ?_
          walk_at "s"
          refine r_updD (by omega) m8 (dct_at s8) (by rw [mapM_len, mapM_len]; simp only [sizeLine]; omega) fun S9 q9 o9 => ?_
          rw [mapM_mrg] at q9
          have okA := okm.mrg oks
          have lA := okA.len
          have w9 := o9.ne (k := S3.length) (by omega) w8
          have t9 := o9.ne (k := S3.length + 1) (by omega) t8
          walk_at "s"
          refine r_tyDc q9 ?_
          walk_at "s"
          refine r_updD (by omega) q9 (dct_at w9) (by rw [mapM_len, mapM_len]; simp only [sizeLine]; omega) fun S10 q10 o10 => ?_
          rw [mapM_mrg] at q10
          have okB := okA.mrg okw
          have t10 := o10.ne (k := S3.length + 1) (by omega) t9
          have n10 : S10[nr]? = some (.dct (setD now)) := o10.ne (by omega) (o9.ne (by omega) n8)
          have gB : ∀ x, getM (mrgM (mrgM ms st) own) x = (getM own x).or ((getM st x).or (getM ms x)) := fun x => by rw [getM_mrg _ _ _ okw.nd, getM_mrg _ _ _ oks.nd]
          generalize mrgM (mrgM ms st) own = mb at q10 okB gB
          walk_at "s"
          refine ⟨S3.length + 1, setD tps, rfl, t10, ?_⟩
          walk_at "s"
          refine ⟨S3.length + 1, setD tps, rfl, set_at t10, ?_⟩
          rw [setD_keys]
          have lk10 : (S10.set (S3.length + 1) (.lck (setD tps)))[S3.length + 1]? = some (.lck (setD tps)) := set_at t10
          have q10' : (S10.set (S3.length + 1) (.lck (setD tps)))[S.length + 3]? = some (.dct (mapM mb)) := (set_off (by omega)).trans q10
          have n10' : (S10.set (S3.length + 1) (.lck (setD tps)))[nr]? = some (.dct (setD now)) := (set_off (by omega)).trans n10
          have ln10 : (S10.set (S3.length + 1) (.lck (setD tps))).length = S7.length := by rw [List.length_set, o10.len, o9.len, o8.len]
          generalize hT0 : S10.set (S3.length + 1) (.lck (setD tps)) = T0 at lk10 q10' n10' ln10
          refine for_inv (fun i σ S' => ∃ (s13 s16 : Option D) (mm : List (Nat × Nat)), σ = [some (encG G), some (.ref B), some (.ref sp), some (.ref (S.length + 2)), some (.ref (S.length + 3)), some (.ref nr), some (.int (top : Nat)), some (.int (P : Nat)), some (.ref S3.length), some (.ref (S3.length + 1)), some (.ref r5), some (.ref il), some (.ref iv), s13, t14, t15, s16] ∧ ExtB [S.length + 3] T0 S' ∧ S'[S.length + 3]? = some (.dct (mapM mm)) ∧ OkM G.length mm ∧
            (∀ x, (x ∉ tps.take i ∨ ow G x ≠ P) → getM mm x = getM mb x) ∧ (∀ x ∈ tps.take i, ow G x = P → ∃ g, getM mm x = some g ∧ g ∈ gl G x ∧ g ∈ now)) ⟨_, _, mb, rfl, ExtB.refl _ _, q10', okB, fun _ _ => rfl, fun x hx => by simp at hx⟩ ?_ ?_
          · rintro i x σ S11 R2 hx ⟨s13, s16, mm, rfl, e11, q11, okm11, k11, g11⟩ hR2
            refine ⟨e11.2 _ (by simp; omega) _ lk10, ?_⟩
            rw [List.getElem?_map] at hx
            cases hq : tps[i]? with
            | none => rw [hq] at hx; cases hx
            | some y =>
              rw [hq] at hx
              cases hx
              have hy := (tin y).mp (List.mem_of_getElem? hq)
              have hyn := lts y (nsub y hy.1)
              have tk : tps.take (i + 1) = tps.take i ++ [y] := by rw [List.take_add_one, hq]; rfl
              walk_at "s"
              refine r_ixT (g_at hyn) ?_
              walk_at "s"
              by_cases o : ow G y = P
              · refine r_ifT (decide_eq_true (by omega)) ?_
                walk_at "s"
                refine r_iTup ?_
                walk_at "s"
                refine r_ixT (g_at hyn) ?_
                walk_at "s"
                refine ⟨_, rfl, ?_⟩
                intro few2
                have n11 : S11[nr]? = some (.dct (setD now)) := e11.2 _ (by simp; omega) _ n10'
                have fy := hG.few y hyn
                refine lc_nats (fun g => decide (g ∈ now)) (fun _ => rfl) (by omega) (fun g hg S12 P12 e12 hP => ?_) fun S12 e12 h12 => ?_
                · walk_at "s"
                  refine r_inD (dct_at (e12 _ _ n11)) rfl ?_
                  rw [Bool.xor_false, setD_val]
                  walk_at "s"
                  exact hP S12 (.refl _)
                · obtain ⟨g0, gg1, gg2⟩ := nsucc y hy.1
                  have hg0 : g0 ∈ (gl G y).filter fun g => decide (g ∈ now) := List.mem_filter.mpr ⟨gg1, decide_eq_true gg2⟩
                  cases hF : (gl G y).filter fun g => decide (g ∈ now) with
                  | nil => rw [hF] at hg0; cases hg0
                  | cons g1 rest =>
                    rw [hF] at h12
                    have hg1 : g1 ∈ (gl G y).filter fun g => decide (g ∈ now) := by rw [hF]; exact List.mem_cons_self
                    obtain ⟨hg1a, hg1b⟩ := List.mem_filter.mp hg1
                    have hg1b := of_decide_eq_true hg1b
                    walk_at "s"
                    refine r_ixL h12 (v := .int (g1 : Nat)) (atI_n (xs := D.int (g1 : Nat) :: rest.map fun k : Nat => D.int (k : Nat)) 0) ?_
                    walk_at "s"
                    have q12 := e12 _ _ q11
                    refine r_setD1 q12 rfl (by rw [mapM_len]; have := okm11.len; simp only [sizeLine]; omega) fun S13 q13 o13 => ?_
                    rw [mapM_put] at q13
                    refine hR2 _ _ ⟨_, _, insM mm y g1, rfl, extB_off (e11.trans (e12.b _)) o13 (.inl (by simp)), q13, okm11.ins hyn g1, fun x hx => ?_, fun x hx ox => ?_⟩
                    · rw [getM_ins]
                      have ne : x ≠ y := by
                        rintro rfl
                        rcases hx with z | z
                        · exact z (by rw [tk]; simp)
                        · exact z o
                      rw [if_neg ne]
                      exact k11 x (hx.imp (fun z w => z (by rw [tk]; exact List.mem_append.mpr (.inl w))) id)
                    · rw [getM_ins]
                      by_cases e : x = y
                      · subst e
                        exact ⟨g1, by rw [if_pos rfl], hg1a, hg1b⟩
                      · rw [if_neg e]
                        rw [tk, List.mem_append, List.mem_singleton] at hx
                        exact g11 x (hx.resolve_right e) ox
              · refine r_ifF (decide_eq_false (by omega)) ?_
                walk_at "s"
                refine hR2 _ _ ⟨_, _, mm, rfl, e11, q11, okm11, fun x hx => ?_, fun x hx ox => ?_⟩
                · by_cases e : x = y
                  · subst e; exact k11 x (.inr o)
                  · refine k11 x (hx.imp (fun z w => z (by rw [tk]; exact List.mem_append.mpr (.inl w))) id)
                · rw [tk, List.mem_append, List.mem_singleton] at hx
                  exact g11 x (hx.resolve_right fun e => o (e ▸ ox)) ox
          rintro σ S11 ⟨s13, s16, mm, rfl, e11, q11, okm11, k11, g11⟩
          refine ⟨e11.2 _ (by simp; omega) _ lk10, e11.2 _ (by simp; omega) _ lk10, ?_⟩
          rw [List.length_map, List.take_length] at k11 g11
          have old : ∀ i c, S7[i]? = some c → i ≠ S.length + P → i ≠ S.length + 3 → i ≠ S3.length + 1 → (S11.set (S3.length + 1) (.dct (setD tps)))[i]? = some c := fun i c hc a b d => by
            rw [set_off (Ne.symm d)]
            refine e11.2 i (by simp; omega) c ?_
            rw [← hT0, set_off (Ne.symm d)]
            exact o10.ne b (o9.ne b (o8.ne a hc))
          have qU : (S11.set (S3.length + 1) (.dct (setD tps)))[S.length + P]? = some (.dct (setD U)) := by
            rw [set_off (by omega)]
            refine e11.2 _ (by simp; omega) _ ?_
            rw [← hT0, set_off (by omega)]
            exact o10.ne (by omega) (o9.ne (by omega) q8)
          have qM : (S11.set (S3.length + 1) (.dct (setD tps)))[S.length + 3]? = some (.dct (mapM mm)) := by
            rw [set_off (by omega)]; exact q11
          have l11 : S7.length ≤ (S11.set (S3.length + 1) (.dct (setD tps))).length := by rw [List.length_set, ← ln10]; exact e11.1
          generalize S11.set (S3.length + 1) (.dct (setD tps)) = S12 at old qU qM l11
          walk_at "s"
          have nowW : ∀ p, p < 2 → ∀ x, x ∈ W p → getM mm x = getM ms x := fun p hp x hx => by
            have nn : x ∉ now := fun z => (wins p hp).2.2.2.1 x z hx
            have a : getM st x = none := Classical.byContradiction fun z => nn (subA x (ikeys x z))
            have b : getM own x = none := keep5 x (.inl fun z => nn (att.sub x z))
            rw [k11 x (.inl fun z => nn ((tin x).mp z).1), gB, a, b]; rfl
          have bigP : Win G (fun x => x ∈ sps) P (fun x => x ∈ W P ∨ x ∈ now) (getM mm) := by
            refine Win.all (top := top) (T := fun x => x ∈ tps) (F := fun x => x ∈ fs) (own := getM own) (steps := getM st) (wins P P2).2.2.1 (nowW P P2) nsub (fun x hx o g hg hsg => ?_) eP.symm htop (fun x hx => (tin x).mp hx) att ?_ (fun x hx hxf o => ?_) (fun x hx nt o => ?_) (fun x hx o => g11 x hx o)
            · have oq := (owp x (nsub x hx)).mp o
              have := (wins (1 - P) Q2).2.2.2.2 x hx oq g hg
              rcases cover g hsg with z | z | z
              · exact .inl z
              · rcases two P2 with e | e
                · rw [e]; exact .inr z
                · rw [e] at this; exact absurd z this
              · rcases two P2 with e | e
                · rw [e] at this; exact absurd z this
                · rw [e]; exact .inr z
            · refine (iw P P2).2.congr m6 (fun x => ⟨fun z => (m6 x).mp ((iw P P2).2.sub x z), fun z => ?_⟩) fun _ _ => rfl
              have := icov x ((m6 x).mpr z)
              rcases two P2 with e | e
              · rw [e] at hz ⊢
                rw [hz] at this
                exact this.resolve_right (by simp)
              · rw [e] at hz ⊢
                rw [hz] at this
                exact this.resolve_left (by simp)
            · have nt : x ∉ tps := fun z => hxf (att.tgt x z)
              rw [k11 x (.inl nt), gB, keep5 x (.inl hxf)]
              obtain ⟨g, e, _⟩ := (iw P P2).2.mine x (by
                have := icov x ((m6 x).mpr ⟨hx, hxf⟩)
                rcases two P2 with e | e
                · rw [e] at hz ⊢
                  rw [hz] at this
                  exact this.resolve_right (by simp)
                · rw [e] at hz ⊢
                  rw [hz] at this
                  exact this.resolve_left (by simp)) o
              rw [e]; rfl
            · obtain ⟨rank, rk⟩ := att.rk
              obtain ⟨g, e, _⟩ := (rk x hx nt).1 o
              rw [k11 x (.inl nt), gB, e]; rfl
          refine hR 0 _ _ (by omega) ⟨S12.length, [], selW P U W, mm, _, _, _, _, _, _, _, _, _, _, _, rfl, fun i c hc => Ext.app S12 _ _ _ ?_, Ext.app S12 _ _ _ (old _ _ c27 (by omega) (by omega) (by omega)), fun p hp => ⟨Ext.app S12 _ _ _ ?_, ?_, ?_, fun _ h => (by cases h), fun _ h => (by cases h)⟩, Ext.app S12 _ _ _ qM, okm11, new_at S12 _, .inr (by omega), .nil, fun _ h => (by cases h), fun _ h => (by cases h), fun x hx => .inr ?_, fun x hx => ⟨?_, by simp⟩, rfl⟩
          · have := (List.getElem?_eq_some_iff.mp hc).1
            exact old i c (e17 _ _ (e1 _ _ hc)) (by omega) (by omega) (by have := e1.le; omega)
          · by_cases e : p = P
            · subst e; rw [selW_eq rfl]; exact qU
            · rw [selW_ne e]; exact old _ _ (e17 _ _ (wins p hp).1) (by omega) (by omega) (by omega)
          · by_cases e : p = P
            · rw [selW_eq e]; exact gU2 (wins P P2).2.1
            · rw [selW_ne e]; exact (wins p hp).2.1
          · by_cases e : p = P
            · subst e
              rw [selW_eq rfl]
              exact bigP.congr (fun _ => Iff.rfl) (fun x => (gU3 x).symm) fun _ _ => rfl
            · rw [selW_ne e]
              exact (wins p hp).2.2.1.congr (fun _ => Iff.rfl) (fun _ => Iff.rfl) (nowW p hp)
          · have : x ∈ U ∨ x ∈ W (1 - P) := by
              rcases cover x hx with z | z | z
              · exact .inl ((gU3 x).mpr (.inr z))
              · rcases two P2 with e | e
                · rw [e] at gU3; exact .inl ((gU3 x).mpr (.inl z))
                · rw [e]; exact .inr z
              · rcases two P2 with e | e
                · rw [e]; exact .inr z
                · rw [e] at gU3; exact .inl ((gU3 x).mpr (.inl z))
            rcases two P2 with e | e
            · rw [selW_eq e.symm, selW_ne (by omega)]
              rw [e] at this; exact this
            · rw [selW_ne (by omega), selW_eq e.symm]
              rw [e] at this; exact this.symm
          · by_cases hx2 : x ∈ now
            · exact nsub x hx2
            · have a : getM st x = none := Classical.byContradiction fun z => hx2 (subA x (ikeys x z))
              have b : getM own x = none := keep5 x (.inl fun z => hx2 (att.sub x z))
              rw [k11 x (.inl fun z => hx2 ((tin x).mp z).1), gB, a, b] at hx
              exact (mkeys x hx).1
        · have hz : IW (1 - P) ≠ [] := fun z => by rw [z] at hz; simp at hz
          walk_at "s"
          have l17 := e17.le
          have l56 := e6.le
          have l67 := e7.le
          have i8 : ∀ i c, S7[i]? = some c → (S7 ++ [Cell.dct []])[i]? = some c := fun i c h => Ext.app S7 _ _ _ h
          have nil : iv < S7.length := (List.getElem?_eq_some_iff.mp d4).1
          have nir : ir (1 - P) < S7.length := (List.getElem?_eq_some_iff.mp (irc _ Q2).1).1
          have nq : ir (1 - P) ≠ iv := fun z => by
            have h1 := (irc _ Q2).1
            rw [z, d4] at h1
            cases hI : IW (1 - P) with
            | nil => exact hz hI
            | cons a l =>
              rw [hI] at h1
              cases st with
              | nil => simp [mapM, setD] at h1
              | cons b m => simp [mapM, setD] at h1
          have nli : il ≠ iv := fun z => by
            rw [z, d4] at d1
            cases d1
          rw [show (1 : Int) - (P : Nat) = ((1 - P : Nat) : Int) by omega]
          refine r_ixL (i8 _ _ d1) (ira _ Q2) ?_
          walk_at "s"
          refine drawnG_spec hG (b0 := b0) (ms := []) (bef ((e1.trans e17).trans (Ext.app S7 _))) (i8 _ _ (e17 _ _ cn)) (i8 _ _ (irc _ Q2).1) (new_at S7 _) (by have := (e1.trans e17).le; omega) (by omega) (by omega) ndn (fun x hx => lts x (nsub x hx)) (iw _ Q2).1 (fun x hx => subA x ((iw _ Q2).2.sub x hx)) nsucc (OkM.nil _) fun S9 r9 far lost x9 l9 f9 w9 okl ndfar att2 keep9 => ?_
          have old9 : ∀ i c, S7[i]? = some c → S9[i]? = some c := fun i c h => x9.2 i (by have := (List.getElem?_eq_some_iff.mp h).1; simp; omega) c (i8 _ _ h)
          rw [List.length_append] at l9
          simp only [List.length_cons, List.length_nil] at l9
          have wQ := wins (1 - P) Q2
          have c29 := old9 _ _ (e17 _ _ c2)
          have cW := old9 _ _ (e17 _ _ wQ.1)
          have lW := few wQ.2.1 fun x hx => wQ.2.2.1.sub x hx
          have lF := few ndfar fun x hx => nsub x (att2.sub x hx)
          walk_at "s"
          rw [show (1 : Int) - (P : Nat) = ((1 - P : Nat) : Int) by omega]
          refine r_ixL c29 (wra _ Q2) ?_
          refine r_tyDc cW ?_
          walk_at "s"
          refine r_updD (by omega) cW (dct_at f9) (by rw [setD_length, setD_length]; simp only [sizeLine]; omega) fun S10 q10 o10 => ?_
          obtain ⟨U, gU1, gU2, gU3⟩ := setD_merge (W (1 - P)) far
          rw [gU1] at q10
          have m10 := o10.ne (k := S.length + 3) (by omega) (old9 _ _ (e17 _ _ c3))
          have w10 : S10[S7.length]? = some (.dct (mapM lost)) := o10.ne (by omega) w9
          have lms := okm.len
          have llo := okl.len
          have lst := oks.len
          walk_at "s"
          refine r_tyDc m10 ?_
          walk_at "s"
          refine r_updD (by omega) m10 (dct_at w10) (by rw [mapM_len, mapM_len]; simp only [sizeLine]; omega) fun S11 q11 o11 => ?_
          rw [mapM_mrg] at q11
          have okA := okm.mrg okl
          have lA := okA.len
          have old11 : ∀ i c, S7[i]? = some c → i ≠ S.length + (1 - P) → i ≠ S.length + 3 → S11[i]? = some c := fun i c h a b => o11.ne b (o10.ne a (old9 i c h))
          have d411 := old11 _ _ d4 (by omega) (by omega)
          have d111 := old11 _ _ d1 (by omega) (by omega)
          have di11 := old11 _ _ (irc _ Q2).1 (by have := (irc _ Q2).2; omega) (by have := (irc _ Q2).2; omega)
          have len911 : S11.length = S9.length := by rw [o11.len, o10.len]
          have len9 : S7.length + 1 ≤ S9.length := by have := x9.1; rw [List.length_append] at this; exact this
          walk_at "s"
          refine r_tyDc q11 ?_
          walk_at "s"
          refine lock_moves rfl d411 oks.nd (by omega) (fun _ => rfl) (fun x => decide (x ∈ IW (1 - P))) (fun x hx S2 Pk e2 hP => ?_) (fun x hx S2 Pk e2 hP => ?_) fun S12 e12 h12 => ?_
          · walk_at "s"
            rw [show (1 : Int) - (P : Nat) = ((1 - P : Nat) : Int) by omega]
            refine r_ixL (e2 _ _ ((set_off (Ne.symm nli)).trans d111)) (ira _ Q2) ?_
            refine r_inD (dct_at (e2 _ _ ((set_off (Ne.symm nq)).trans di11))) rfl ?_
            rw [Bool.xor_false, setD_val]
            walk_at "s"
            exact hP S2 (.refl _)
          · walk_at "s"
            refine r_ixD (lck_at (e2 _ _ (set_at d411))) rfl (v := .int (x.2 : Nat)) ?_ ?_
            · rw [mapM_val, getM_at oks.nd hx]; rfl
            · exact hP S2 (.refl _)
          have q12 := e12 _ _ q11
          have okF := oks.filter fun x => decide (x ∈ IW (1 - P))
          have lFi := okF.len
          walk_at "s"
          refine r_updD (by omega) q12 (dct_at h12) (by rw [mapM_len, mapM_len]; simp only [sizeLine]; omega) fun S13 q13 o13 => ?_
          rw [mapM_mrg] at q13
          have okB := okA.mrg okF
          have gB : ∀ x, getM (mrgM (mrgM ms lost) (st.filter fun x => decide (x.1 ∈ IW (1 - P)))) x = (if x ∈ IW (1 - P) then getM st x else none).or ((getM lost x).or (getM ms x)) := fun x => by
            rw [getM_mrg _ _ _ okF.nd, getM_mrg _ _ _ okl.nd, getM_filter st (fun x => decide (x ∈ IW (1 - P))) x]
            simp only [decide_eq_true_eq]
          generalize mrgM (mrgM ms lost) (st.filter fun x => decide (x.1 ∈ IW (1 - P))) = mb at q13 okB gB
          have old13 : ∀ i c, S7[i]? = some c → i ≠ S.length + (1 - P) → i ≠ S.length + 3 → S13[i]? = some c := fun i c h a b => o13.ne b (e12 _ _ (old11 i c h a b))
          have n13 := old13 _ _ (e17 _ _ cn) (by omega) (by omega)
          have f13 : S13[r9]? = some (.dct (setD far)) := o13.ne (by omega) (e12 _ _ (o11.ne (by omega) (o10.ne (by omega) f9)))
          walk_at "s"
          refine lock_set rfl n13 (by omega) (fun _ => rfl) (fun x => !decide (x ∈ far)) (fun x hx S2 Pk e2 hP => ?_) fun S14 nw e14 h14 nd14 m14 => ?_
          · walk_at "s"
            refine r_inD (dct_at (e2 _ _ ((set_off (by omega)).trans f13))) rfl ?_
            rw [Bool.xor_true, setD_val]
            walk_at "s"
            exact hP S2 (.refl _)
          have m14 : ∀ x, x ∈ nw ↔ x ∈ now ∧ x ∉ far := fun x => by rw [m14]; simp
          have l714 : S7.length ≤ S13.length := by have := e12.le; rw [o13.len]; omega
          have qU : S14[S.length + (1 - P)]? = some (.dct (setD U)) := e14 _ _ (o13.ne (by omega) (e12 _ _ (o11.ne (by omega) q10)))
          have inowQ : ∀ x, x ∈ IW (1 - P) → x ∈ far := fun x hx => att2.tgt x hx
          have nowW : ∀ p, p < 2 → ∀ x, x ∈ W p → getM mb x = getM ms x := fun p hp x hx => by
            have nn : x ∉ now := fun z => (wins p hp).2.2.2.1 x z hx
            have nf : x ∉ far := fun z => nn (att2.sub x z)
            rw [gB, if_neg fun z => nf (inowQ x z), keep9 x (.inl nf)]; rfl
          have toP : ∀ x, x ∈ sps → (ow G x ≠ 1 - P ↔ ow G x = P) := fun x hx => by have := hG.own x (lts x hx); omega
          have trapQ : ∀ x, x ∈ now → ow G x ≠ 1 - P → ∀ g, g ∈ gl G x → g ∈ sps → g ∈ now ∨ g ∈ W (1 - P) := fun x hx o g hg hsg => by
            have := (wins P P2).2.2.2.2 x hx ((toP x (nsub x hx)).mp o) g hg
            rcases cover g hsg with z | z | z
            · exact .inl z
            · rcases two P2 with e | e
              · rw [e] at this; exact absurd z this
              · rw [e]; exact .inr z
            · rcases two P2 with e | e
              · rw [e]; exact .inr z
              · rw [e] at this; exact absurd z this
          have bigQ : Win G (fun x => x ∈ sps) (1 - P) (fun x => x ∈ W (1 - P) ∨ x ∈ far) (getM mb) := by
            refine Win.far (Fp := fun x => x ∈ fs) (J := fun x => x ∈ IW (1 - P)) (lost := getM lost) (steps := getM st) wQ.2.2.1 (nowW _ Q2) nsub trapQ (fun x hx hxf o => (att.out x hx hxf).1 ((toP x (nsub x hx)).mp o)) ((iw _ Q2).2.congr m6 (fun _ => Iff.rfl) fun _ _ => rfl) att2 (fun x hx o => ?_) fun x hx nx o => ?_
            · obtain ⟨g, e, _⟩ := (iw _ Q2).2.mine x hx o
              rw [gB, if_pos hx, e]; rfl
            · obtain ⟨rank, rk⟩ := att2.rk
              obtain ⟨g, e, _⟩ := (rk x hx nx).1 o
              rw [gB, if_neg nx, e]; rfl
          refine hR nw.length _ _ ?_ ⟨S13.length, nw, selW (1 - P) U W, mb, _, _, _, _, _, _, _, _, _, _, _, rfl, fun i c hc => e14 _ _ ?_, e14 _ _ (old13 _ _ (e17 _ _ c2) (by omega) (by omega)), fun p hp => ⟨?_, ?_, ?_, fun x hx => ?_, fun x hx o g hg => ?_⟩, e14 _ _ q13, okB, h14, .inr (by omega), nd14, fun x hx => nsub x ((m14 x).mp hx).1, fun x hx => ?_, fun x hx => ?_, fun x hx => ?_, rfl⟩
          · obtain ⟨x0, hx0⟩ : ∃ x0, x0 ∈ IW (1 - P) := by
              cases hI : IW (1 - P) with
              | nil => exact absurd hI hz
              | cons a l => exact ⟨a, List.mem_cons_self⟩
            have hf0 := inowQ x0 hx0
            have h0 := att2.sub x0 hf0
            have := subset_len (ls := now.erase x0) nd14 fun x hx => (List.mem_erase_of_ne (fun (e : x = x0) => ((m14 x).mp hx).2 (e ▸ hf0))).mpr ((m14 x).mp hx).1
            rw [List.length_erase_of_mem h0] at this
            have := List.length_pos_of_mem h0
            omega
          · have := (List.getElem?_eq_some_iff.mp hc).1
            exact old13 i c (e17 _ _ (e1 _ _ hc)) (by omega) (by omega)
          · by_cases e : p = 1 - P
            · subst e; rw [selW_eq rfl]; exact qU
            · rw [selW_ne e]; exact e14 _ _ (old13 _ _ (e17 _ _ (wins p hp).1) (by omega) (by omega))
          · by_cases e : p = 1 - P
            · rw [selW_eq e]; exact gU2 wQ.2.1
            · rw [selW_ne e]; exact (wins p hp).2.1
          · by_cases e : p = 1 - P
            · subst e
              rw [selW_eq rfl]
              exact bigQ.congr (fun _ => Iff.rfl) (fun x => (gU3 x).symm) fun _ _ => rfl
            · rw [selW_ne e]
              exact (wins p hp).2.2.1.congr (fun _ => Iff.rfl) (fun _ => Iff.rfl) (nowW p hp)
          · obtain ⟨h1, h2⟩ := (m14 x).mp hx
            by_cases e : p = 1 - P
            · rw [selW_eq e, gU3]
              exact fun z => z.elim (wQ.2.2.2.1 x h1) h2
            · rw [selW_ne e]; exact (wins p hp).2.2.2.1 x h1
          · obtain ⟨h1, h2⟩ := (m14 x).mp hx
            by_cases e : p = 1 - P
            · subst e
              rw [selW_eq rfl, gU3]
              exact fun z => z.elim (wQ.2.2.2.2 x h1 o g hg) ((att2.out x h1 h2).1 o g hg)
            · rw [selW_ne e]; exact (wins p hp).2.2.2.2 x h1 o g hg
          · obtain ⟨h1, h2⟩ := (m14 x).mp hx
            obtain ⟨a, b⟩ := att2.out x h1 h2
            by_cases o : ow G x = 1 - P
            · obtain ⟨g, g1, g2⟩ := nsucc x h1
              exact ⟨g, g1, (m14 g).mpr ⟨g2, a o g g1⟩⟩
            · obtain ⟨g, g1, g2, g3⟩ := b o
              exact ⟨g, g1, (m14 g).mpr ⟨g2, g3⟩⟩
          · have : x ∈ nw ∨ x ∈ U ∨ x ∈ W P := by
              rcases cover x hx with z | z | z
              · by_cases zf : x ∈ far
                · exact .inr (.inl ((gU3 x).mpr (.inr zf)))
                · exact .inl ((m14 x).mpr ⟨z, zf⟩)
              · rcases two P2 with e | e
                · rw [e]; exact .inr (.inr z)
                · rw [e] at gU3; exact .inr (.inl ((gU3 x).mpr (.inl z)))
              · rcases two P2 with e | e
                · rw [e] at gU3; exact .inr (.inl ((gU3 x).mpr (.inl z)))
                · rw [e]; exact .inr (.inr z)
            rcases this with z | z | z
            · exact .inl z
            · rcases two P2 with e | e
              · exact .inr (.inr (by rw [selW_eq (by omega)]; exact z))
              · exact .inr (.inl (by rw [selW_eq (by omega)]; exact z))
            · rcases two P2 with e | e
              · rw [e] at z
                exact .inr (.inl (by rw [selW_ne (by omega)]; exact z))
              · rw [e] at z
                exact .inr (.inr (by rw [selW_ne (by omega)]; exact z))
          · by_cases hx2 : x ∈ now
            · refine ⟨nsub x hx2, fun z => ?_⟩
              have nf := ((m14 x).mp z).2
              rw [gB, if_neg fun w => nf (inowQ x w), keep9 x (.inl nf)] at hx
              exact (mkeys x hx).2 hx2
            · have nf : x ∉ far := fun w => hx2 (att2.sub x w)
              rw [gB, if_neg fun w => nf (inowQ x w), keep9 x (.inl nf)] at hx
              exact ⟨(mkeys x hx).1, fun w => hx2 ((m14 x).mp w).1⟩
      · have hb := of_decide_eq_false hb
        have n0 : now = [] := List.eq_nil_of_length_eq_zero (by omega)
        subst n0
        walk_at "s"
        refine hQ S1 (S.length + 2) (S.length + 3) S.length (S.length + 1) W ms e1 (by omega) (by omega) (Nat.le_refl _) (by omega) c2 (wins 0 (by decide)).1 (wins 1 (by decide)).1 c3 okm (fun p hp => ⟨(wins p hp).2.1, (wins p hp).2.2.1⟩) (fun x hx => (cover x hx).resolve_left (by simp)) fun x hx => (mkeys x hx).1
end PG
/-! SPj: solved_game. -/
namespace PG
open PySem L2 SD
def mvD : Option Nat → D
  | some g => .int (g : Nat)
  | none => .non
/-- w tells who wins where, m how -/
structure Solved (G : List Spt) (w : Nat → Nat) (m : Nat → Option Nat) : Prop where
  two : ∀ k, k < G.length → w k < 2
  win : ∀ p, p < 2 → Win G (fun k => k < G.length) p (fun k => k < G.length ∧ w k = p) m
/-- who wins is one thing -/
theorem Solved.only {G : List Spt} (hG : OkG G) {w : Nat → Nat} {m : Nat → Option Nat} (h : Solved G w m) {p : Nat} (hp : p < 2) {W : Nat → Prop} {m' : Nat → Option Nat} (h' : Win G (fun k => k < G.length) p W m') {k : Nat} (hk : W k) : w k = p := by
  have kn := h'.sub k hk
  have := h.two k kn
  refine Classical.byContradiction fun ne => ?_
  rcases PG.two hp with rfl | rfl
  · exact Win.apart hG.lt hG.own h' (h.win 1 (by decide)) k hk ⟨kn, by omega⟩
  · exact Win.apart hG.lt hG.own (h.win 0 (by decide)) h' k ⟨kn, by omega⟩ hk
def rowsM (G : List Spt) (w : Nat → Nat) (m : Nat → Option Nat) : List D := (List.range G.length).map fun k => if ow G k = w k then mvD (m k) else .non
theorem solved_spec {G : List Spt} (hG : OkG G) (lev : ∀ k, k < G.length → lv G k ≤ 14) {S : Store} {Q : PD} (h : ∀ S' w m, Ext S S' → Solved G w m → Q (.tup [encP ((List.range G.length).map w), .tup (rowsM G w m)]) S') : F_solved_game [encG G] S Q := by
  refine r_fn rfl ?_
  unfold b_solved_game
  have hs := hG.size
  walk_at "s"
  refine before_spec hG fun S1 B e1 hB => ?_
  walk_at "s"
  refine r_len rfl ?_
  rw [List.length_map]
  walk_at "s"
  refine r_rg (by omega) (by omega) fun few => ?_
  rw [rng_map']
  refine dc_set (List.range G.length) (fun _ => true) (by rw [List.length_range]; simp only [sizeLine]; omega) (fun _ => rfl) (fun _ _ => trivial) (fun x hx S2 P e2 hP => ?_) fun S2 ks e2 h2 nd2 m2 => ?_
  · walk_at "s"
    exact hP S2 (.refl _)
  have m2 : ∀ x, x ∈ ks ↔ x < G.length := fun x => by rw [m2]; simp
  walk_at "s"
  refine won_spec hG 16 S2 S1.length ks _ (hB.up (e2.b []) fun i hi => by cases hi) e2.le h2 nd2 (fun x hx => (m2 x).mp hx) (fun x hx => ?_) (fun x hx => by have := lev x ((m2 x).mp hx); omega) (by decide) ?_
  · have hx := (m2 x).mp hx
    cases hg : gl G x with
    | nil => exact absurd hg (hG.ne x hx)
    | cons g r => exact ⟨g, List.mem_cons_self, (m2 g).mpr (hG.lt x g hx (by rw [hg]; exact List.mem_cons_self))⟩
  intro S3 wl mv w0 w1 W ms e3 _ _ _ _ c1 c2 c3 c4 okm wins cover keys
  have win : ∀ p, p < 2 → Win G (fun k => k < G.length) p (fun k => k ∈ W p) (getM ms) := fun p hp => (wins p hp).2.congr m2 (fun _ => Iff.rfl) fun _ _ => rfl
  have apart : ∀ k, k ∈ W 0 → k ∈ W 1 → False := Win.apart hG.lt hG.own (win 0 (by decide)) (win 1 (by decide))
  have sol : Solved G (fun k => if k ∈ W 0 then 0 else 1) (getM ms) := by
    refine ⟨fun k _ => by show (if k ∈ W 0 then 0 else 1) < 2; split <;> decide, fun p hp => ?_⟩
    rcases PG.two hp with rfl | rfl
    · refine (win 0 (by decide)).congr (fun _ => Iff.rfl) (fun k => ⟨fun z => ⟨(win 0 (by decide)).sub k z, if_pos z⟩, fun z => ?_⟩) fun _ _ => rfl
      refine Classical.byContradiction fun n => ?_
      have := z.2
      simp only [if_neg n] at this
      cases this
    · refine (win 1 (by decide)).congr (fun _ => Iff.rfl) (fun k => ⟨fun z => ⟨(win 1 (by decide)).sub k z, if_neg fun n => apart k n z⟩, fun z => ?_⟩) fun _ _ => rfl
      have n : k ∉ W 0 := fun n => by
        have := z.2
        simp only [if_pos n] at this
        cases this
      exact (cover k ((m2 k).mpr z.1)).resolve_left n
  have eA : Ext S S3 := (e1.trans e2).trans e3
  generalize hw : (fun k => if k ∈ W 0 then 0 else 1) = w at sol
  walk_at "s"
  refine r_len rfl ?_
  rw [List.length_map]
  walk_at "s"
  refine r_rg (by omega) (by omega) fun few => ?_
  rw [rng_map']
  refine lc_each (List.range G.length) (fun k : Nat => .int (k : Nat)) (fun k : Nat => .int (w k : Nat)) (by simp only [sizeLine, List.length_range]; omega) (fun _ _ => trivial) (fun k hk S4 P e4 hP => ?_) fun S4 e4 h4 => ?_
  · walk_at "s"
    refine r_ixL (e4 _ _ c1) (v := .ref w0) rfl ?_
    refine r_inD (dct_at (e4 _ _ c2)) rfl ?_
    rw [Bool.xor_false, setD_val]
    walk_at "s"
    have := hP S4 (.refl _)
    rw [← hw] at this
    by_cases z : k ∈ W 0
    · rw [decide_eq_true z]
      simp only [if_pos z] at this
      walk_at "s"
      exact this
    · rw [decide_eq_false z]
      simp only [if_neg z] at this
      walk_at "s"
      exact this
  walk_at "s"
  refine r_tuple (lst_sq h4) ?_
  walk_at "s"
  refine r_len rfl ?_
  rw [List.length_map]
  walk_at "s"
  refine r_rg (by omega) (by omega) ?_
  rw [rng_map']
  have c44 := e4 _ _ c4
  have ew : ∀ k, k < G.length → atI ((List.range G.length).map fun k : Nat => D.int (w k : Nat)) (k : Int) = some (.int (w k : Nat)) := fun k hk => by rw [atI_n, List.getElem?_map, List.getElem?_range hk]; rfl
  refine for_inv (fun i σ S' => ∃ s5 : Option D, σ = [some (encG G), some (.ref wl), some (.ref mv), some (.tup ((List.range G.length).map fun k : Nat => D.int (w k : Nat))), some (.ref S4.length), s5] ∧ Ext S4 S' ∧ S'[S4.length]? = some (.lst ((List.range i).map fun k => if ow G k = w k then mvD (getM ms k) else .non))) ⟨_, rfl, Ext.app S4 _, new_at S4 _⟩ ?_ ?_
  · rintro i x σ S5 R hx ⟨s5, rfl, e5, q5⟩ hR
    refine ⟨trivial, ?_⟩
    rw [List.getElem?_map] at hx
    cases hq : (List.range G.length)[i]? with
    | none => rw [hq] at hx; cases hx
    | some q =>
      rw [hq] at hx
      cases hx
      have hi : i < G.length := by have := (List.getElem?_eq_some_iff.mp hq).1; simpa using this
      have : q = i := by rw [List.getElem?_range hi] at hq; cases hq; rfl
      subst this
      have fin : ∀ (E : EndsD) (d : D) (σ : Slots) , E.nx = R → σ = [some (encG G), some (.ref wl), some (.ref mv), some (.tup ((List.range G.length).map fun k : Nat => D.int (w k : Nat))), some (.ref S4.length), some (.int (q : Nat))] → d = (if ow G q = w q then mvD (getM ms q) else .non) → appF (.ref S4.length) [d] S5 fun _ S6 => E.nx σ S6 := by
        intro E d σ hE hσ hd
        refine r_app q5 (by rw [List.length_map, List.length_range]; simp only [sizeLine]; omega) fun S6 q6 o6 => ?_
        rw [hE]
        refine hR _ _ ⟨_, hσ, fun n c hc => ?_, ?_⟩
        · have : n < S4.length := (List.getElem?_eq_some_iff.mp hc).1
          exact o6.ne (by omega) (e5 _ _ hc)
        · rw [q6, List.range_succ, List.map_append, hd]; rfl
      walk_at "s"
      refine r_tyL q5 ?_
      walk_at "s"
      refine r_ixT (g_at hi) ?_
      walk_at "s"
      refine r_ixT (ew q hi) ?_
      walk_at "s"
      by_cases o : ow G q = w q
      · refine r_ifT (decide_eq_true (by omega)) ?_
        obtain ⟨g, eg, _⟩ := (sol.win (w q) (sol.two q hi)).mine q ⟨hi, rfl⟩ o
        walk_at "s"
        refine r_ixD (dct_at (e5 _ _ c44)) rfl (v := .int (g : Nat)) (by rw [mapM_val, eg]; rfl) ?_
        walk_at "s"
        exact fin _ _ _ rfl rfl (by rw [if_pos o, eg]; rfl)
      · refine r_ifF (decide_eq_false (by omega)) ?_
        walk_at "s"
        exact fin _ _ _ rfl rfl (by rw [if_neg o])
  · rintro σ S5 ⟨s5, rfl, e5, q5⟩
    refine ⟨trivial, ?_⟩
    rw [List.length_map, List.length_range] at q5
    walk_at "s"
    refine r_tuple (lst_sq q5) ?_
    walk_at "s"
    have := h S5 w (getM ms) ((eA.trans e4).trans e5) sol
    unfold rowsM at this
    rw [show encP ((List.range G.length).map w) = D.tup ((List.range G.length).map fun k : Nat => D.int (w k : Nat)) from by unfold encP; rw [List.map_map]; rfl] at this
    exact this
end PG
/-! SM8: who wins a saying's game loses its opposite's. -/
namespace PG
abbrev d0 : Sp := (0, .yes)
theorem Walk.inn {E : Nat → Nat → Prop} {a b : Nat} {vs : List Nat} (h : Walk E a b vs) : Walk (fun x y => E x y ∧ x ∈ vs) a b vs := by
  induction h with
  | one e => exact .one ⟨e, List.mem_cons_self⟩
  | cons e _ ih => exact .cons ⟨e, List.mem_cons_self⟩ (ih.mono fun x y h => ⟨h.1, List.mem_cons_of_mem _ h.2⟩)
/-- p's win here is q's there -/
theorem Win.turn {G G' : List Spt} {n p q : Nat} {φ ψ : Nat → Nat} (hψ : ∀ k, k < n → ψ (φ k) = k) (hn : ∀ k, k < n → φ k < n) (hg : ∀ k, k < n → gl G' (φ k) = (gl G k).map φ) (hl : ∀ k g, k < n → g ∈ gl G k → g < n)
    (ho : ∀ k, k < n → (ow G k = p ↔ ow G' (φ k) = q) ∨ ∃ g, gl G k = [g])
    (hc : ∀ a vs M M', (∀ v ∈ vs, v < n) → Walk (fun x y => x < n ∧ y ∈ gl G x) a a vs → (∀ v ∈ vs, lv G v ≤ M) → (∃ v ∈ vs, lv G v = M) → (∀ v ∈ vs, lv G' (φ v) ≤ M') → (∃ v ∈ vs, lv G' (φ v) = M') → M % 2 = p → M' % 2 = q)
    {W : Nat → Prop} {m : Nat → Option Nat} (h : Win G (fun k => k < n) p W m) : ∃ m', Win G' (fun k => k < n) q (fun k' => ∃ k, W k ∧ φ k = k') m' := by
  have inj : ∀ a b, a < n → b < n → φ a = φ b → a = b := fun a b ha hb e => by rw [← hψ a ha, e, hψ b hb]
  let m' : Nat → Option Nat := fun k' => match gl G' k' with
    | [g] => some g
    | _ => (m (ψ k')).map φ
  have next : ∀ k, W k → ∀ g, gl G k = [g] → W g := fun k hk g e => by
    have kn := h.sub k hk
    by_cases o : ow G k = p
    · obtain ⟨g', _, a, b⟩ := h.mine k hk o
      rw [e, List.mem_singleton] at a
      rw [← a]; exact b
    · have : g ∈ gl G k := by rw [e]; exact List.mem_singleton.mpr rfl
      exact h.other k hk o g this (hl k g kn this)
  have m1 : ∀ k, k < n → ∀ g, gl G k = [g] → m' (φ k) = some (φ g) := fun k hk g e => by
    have e2 : gl G' (φ k) = [φ g] := by rw [hg k hk, e]; rfl
    show (match gl G' (φ k) with | [g] => some g | _ => (m (ψ (φ k))).map φ) = some (φ g)
    rw [e2]
  have m2 : ∀ k, k < n → ∀ g, m k = some g → g ∈ gl G k → m' (φ k) = some (φ g) := fun k hk g e hgm => by
    match q : gl G k with
    | [] => rw [q] at hgm; cases hgm
    | [x] =>
      rw [q, List.mem_singleton] at hgm
      rw [hgm]
      exact m1 k hk x q
    | x :: y :: r =>
      have e2 : gl G' (φ k) = φ x :: φ y :: r.map φ := by rw [hg k hk, q]; rfl
      show (match gl G' (φ k) with | [g] => some g | _ => (m (ψ (φ k))).map φ) = some (φ g)
      rw [e2, hψ k hk, e]
      rfl
  refine ⟨m', ⟨?_, ?_, ?_, ?_⟩⟩
  · rintro _ ⟨k, hk, rfl⟩
    exact hn k (h.sub k hk)
  · rintro _ ⟨k, hk, rfl⟩ o
    have kn := h.sub k hk
    rcases ho k kn with f | ⟨g, e⟩
    · obtain ⟨g, a, b, c⟩ := h.mine k hk (f.mpr o)
      exact ⟨φ g, m2 k kn g a b, by rw [hg k kn]; exact List.mem_map.mpr ⟨g, b, rfl⟩, g, c, rfl⟩
    · exact ⟨φ g, m1 k kn g e, by rw [hg k kn, e]; exact List.mem_cons_self, g, next k hk g e, rfl⟩
  · rintro _ ⟨k, hk, rfl⟩ o g' hg' hx
    have kn := h.sub k hk
    rw [hg k kn] at hg'
    obtain ⟨g, hgm, rfl⟩ := List.mem_map.mp hg'
    rcases ho k kn with f | ⟨x, e⟩
    · exact ⟨g, h.other k hk (fun z => o (f.mp z)) g hgm (hl k g kn hgm), rfl⟩
    · rw [e, List.mem_singleton] at hgm
      exact ⟨g, by rw [hgm]; exact next k hk x e, rfl⟩
  · rintro _ M' ⟨a, ha, rfl⟩ r
    obtain ⟨vs', wk', le', ex'⟩ := r.walk
    have back : ∀ {x' y' : Nat} {vs' : List Nat}, Walk (Steps G' q (fun k' => ∃ k, W k ∧ φ k = k') m') x' y' vs' → ∀ x, x < n → φ x = x' → ∃ y vs, y < n ∧ φ y = y' ∧ Walk (Steps G p W m) x y vs ∧ vs' = vs.map φ := by
      intro x' y' vs' wk
      have one : ∀ x' b', Steps G' q (fun k' => ∃ k, W k ∧ φ k = k') m' x' b' → ∀ x, x < n → φ x = x' → ∃ b, b < n ∧ φ b = b' ∧ Steps G p W m x b := by
        rintro _ b' ⟨⟨k, wk, e1⟩, ⟨b, wb, rfl⟩, hgm, hs⟩ x xn rfl
        have kx := inj k x (h.sub k wk) xn e1
        subst kx
        have bn := h.sub b wb
        rw [hg k xn] at hgm
        obtain ⟨b2, hb2, e2⟩ := List.mem_map.mp hgm
        have := inj b2 b (hl k b2 xn hb2) bn e2
        subst this
        refine ⟨b2, bn, rfl, wk, wb, hb2, fun o => ?_⟩
        obtain ⟨g, a1, a2, a3⟩ := h.mine k wk o
        rcases ho k xn with f | ⟨z, e⟩
        · have := hs (f.mp o)
          rw [m2 k xn g a1 a2] at this
          rw [a1, inj g b2 (h.sub g a3) bn (Option.some.inj this)]
        · rw [e, List.mem_singleton] at a2 hb2
          rw [a1, a2, hb2]
      induction wk with
      | one e =>
        intro x xn ex
        obtain ⟨b, bn, eb, s⟩ := one _ _ e x xn ex
        exact ⟨b, [x], bn, eb, .one s, by rw [← ex]; rfl⟩
      | cons e _ ih =>
        intro x xn ex
        obtain ⟨b, bn, eb, s⟩ := one _ _ e x xn ex
        obtain ⟨y, vs, yn, ey, wk2, ev⟩ := ih b bn eb
        exact ⟨y, x :: vs, yn, ey, .cons s wk2, by rw [ev, ← ex]; rfl⟩
    obtain ⟨y, vs, yn, ey, wk, rfl⟩ := back wk' a (h.sub a ha) rfl
    have := inj y a yn (h.sub a ha) ey
    subst this
    obtain ⟨M, run, le, ex⟩ := wk.run (lv G)
    have hv : ∀ v ∈ vs, v < n := fun v hv => by
      obtain ⟨u, s⟩ := wk.step v hv
      exact h.sub v s.1
    refine hc y vs M M' hv (wk.mono fun x y s => ⟨h.sub x s.1, s.2.2.1⟩) le ex (fun v hv => le' _ (List.mem_map.mpr ⟨v, hv, rfl⟩)) ?_ (h.cyc y M ha run)
    obtain ⟨v', hv', e⟩ := ex'
    obtain ⟨v, hv2, rfl⟩ := List.mem_map.mp hv'
    exact ⟨v, hv2, e⟩
section
variable {L0 L1 : Nat} {w : Wd} {f : Fm} {L L' : List Sp}
theorem own_neg {w : Wd} {s : Sp} : ownF (neg s.2) = 1 - ownF s.2 ∨ stp w f s = [] ∨ ∃ t, stp w f s = [t] := by
  obtain ⟨p, g⟩ := s
  cases g with
  | both a b => exact .inl rfl
  | either a b => exact .inl rfl
  | some j a => exact .inl rfl
  | all j a => exact .inl rfl
  | least x a => exact .inr (.inr ⟨_, rfl⟩)
  | greatest x a => exact .inr (.inr ⟨_, rfl⟩)
  | name x => exact .inr (.inr ⟨_, rfl⟩)
  | _ => exact .inr (.inl rfl)
theorem own_le (g : Fm) : ownF g ≤ 1 := by cases g <;> simp [ownF]
theorem end_neg {s : Sp} (h : stp w f s = []) : endW w (tn s) = !endW w s := by
  obtain ⟨p, g⟩ := s
  cases g with
  | isnt i => simp [tn, neg, endW]
  | both a b => simp [stp] at h
  | either a b => simp [stp] at h
  | least x a => simp [stp] at h
  | greatest x a => simp [stp] at h
  | name x => simp [stp] at h
  | _ => rfl
theorem stp_name {s : Sp} {x : Nat} (h : s.2 = .name x) : stp w f s ≠ [] := by
  obtain ⟨p, g⟩ := s
  simp only at h
  subst h
  simp [stp]
/-- the levels on a walk round: which of the two is even changes -/
theorem turn_cyc (hw : OkW L0 L1 w) (hf : OkP L0 L1 f) (H : IsSp w f L) (H' : IsSp w (neg f) L') {a : Nat} {vs : List Nat} {M M' : Nat} (hv : ∀ v ∈ vs, v < L.length) (wk : Walk (fun x y => x < L.length ∧ y ∈ gl (gameOf w f L) x) a a vs)
    {φ : Nat → Nat} (hφ : ∀ s, s ∈ L → φ (L.idxOf s) = L'.idxOf (tn s)) (le : ∀ v ∈ vs, lv (gameOf w f L) v ≤ M) (ex : ∃ v ∈ vs, lv (gameOf w f L) v = M) (le' : ∀ v ∈ vs, lv (gameOf w (neg f) L') (φ v) ≤ M') (ex' : ∃ v ∈ vs, lv (gameOf w (neg f) L') (φ v) = M') : M' % 2 = 1 - M % 2 := by
  classical
  have mem' : ∀ s, s ∈ L → tn s ∈ L' := fun s hs => (H'.mem _).mpr (((H.mem s).mp hs).neg hw hf)
  have okp : ∀ s, s ∈ L → s.1 < w.n ∧ s.2 ∈ f.pre := fun s hs => ((H.mem s).mp hs).ok hw hf
  have stn : ∀ s, s ∈ L → stp w (neg f) (tn s) = (stp w f s).map tn := fun s hs => stp_neg hf (okp s hs).2
  by_cases dead : ∃ v ∈ vs, ∃ s, s ∈ L ∧ v = L.idxOf s ∧ stp w f s = []
  · obtain ⟨v, hvs, s, hs, rfl, e⟩ := dead
    have st : ∀ y, (L.idxOf s < L.length ∧ y ∈ gl (gameOf w f L) (L.idxOf s)) → y = L.idxOf s := fun y ⟨_, h⟩ => by
      rw [game_gl hs, if_pos e, List.mem_singleton] at h
      exact h
    have ha : a = L.idxOf s := wk.after (P := fun y => y = L.idxOf s) hvs st fun x y _ hx hy => by subst hx; exact st y hy
    have all := (wk.from (P := fun y => y = L.idxOf s) ha fun x y _ hx hy => by subst hx; exact st y hy).1
    obtain ⟨u, hu, eu⟩ := ex
    obtain ⟨u', hu', eu'⟩ := ex'
    rw [all u hu, game_lv hs, if_pos e] at eu
    rw [all u' hu', hφ s hs, game_lv (mem' s hs), if_pos (by rw [stn s hs, e]; rfl), end_neg e] at eu'
    rw [← eu, ← eu']
    cases endW w s <;> rfl
  · have live : ∀ v ∈ vs, ∀ s, s ∈ L → v = L.idxOf s → stp w f s ≠ [] := fun v hv s hs e z => dead ⟨v, hv, s, hs, e, z⟩
    have wk2 : Walk (fun x y => PStep f (L.getD x d0).2 (L.getD y d0).2) a a vs := wk.inn.mono fun x y ⟨⟨xn, hg⟩, xv⟩ => by
      obtain ⟨s, hs, rfl⟩ := each_at xn H.nd
      rw [game_gl hs, if_neg (live _ xv s hs rfl)] at hg
      obtain ⟨t, ht, rfl⟩ := List.mem_map.mp hg
      have tL := H.step hs ht
      rw [List.getD_eq_getElem?_getD, List.getD_eq_getElem?_getD, idx_at hs, idx_at tL]
      exact (stp_ok hw hf (okp s hs).1 (okp s hs).2 ht).2.2
    have pin : ∀ x, x ∈ vs → (L.getD x d0).2 ∈ f.pre := fun x hx => by
      obtain ⟨s, hs, rfl⟩ := each_at (hv x hx) H.nd
      rw [List.getD_eq_getElem?_getD, idx_at hs]
      exact (okp s hs).2
    obtain ⟨B, x, c, v, hB, eB, hvs, ev, top⟩ := walk_top hf.sc hf.nd (π := fun x => (L.getD x d0).2) (fun _ _ h => h) pin wk2
    have lvs : ∀ u, u ∈ vs → ∃ s, s ∈ L ∧ u = L.idxOf s ∧ (L.getD u d0).2 = s.2 ∧ lv (gameOf w f L) u = levF f s.2 ∧ lv (gameOf w (neg f) L') (φ u) = levF (neg f) (neg s.2) := fun u hu => by
      obtain ⟨s, hs, rfl⟩ := each_at (hv u hu) H.nd
      have ne := live _ hu s hs rfl
      refine ⟨s, hs, rfl, by rw [List.getD_eq_getElem?_getD, idx_at hs]; rfl, by rw [game_lv hs, if_neg ne], ?_⟩
      rw [hφ s hs, game_lv (mem' s hs), if_neg (by rw [stn s hs]; exact fun z => ne (List.map_eq_nil_iff.mp z))]
      rfl
    have nameL : ∀ s, s ∈ L → ∀ y, s.2 = .name y → ∃ C d, C ∈ f.pre ∧ C.bd = some (y, d) ∧ levF f s.2 = mx C ∧ levF (neg f) (neg s.2) = mx (neg C) := fun s hs y e => by
      have hy : Fm.name y ∈ f.pre := by rw [← e]; exact (okp s hs).2
      obtain ⟨C, d, hC, eC⟩ := hf.bound hy
      refine ⟨C, d, hC, eC, ?_, ?_⟩
      · rw [e]
        show mx (bdF f y) = mx C
        rw [bdF_is hf.nd hC eC]
      · rw [e]
        show mx (bdF (neg f) y) = mx (neg C)
        rw [bdF_neg hf hy, bdF_is hf.nd hC eC]
    have below : ∀ u, u ∈ vs → lv (gameOf w f L) u ≤ mx B ∧ lv (gameOf w (neg f) L') (φ u) ≤ mx (neg B) := fun u hu => by
      obtain ⟨s, hs, _, es, l1, l2⟩ := lvs u hu
      rw [l1, l2]
      by_cases nm : ∃ y, s.2 = .name y
      · obtain ⟨y, e⟩ := nm
        obtain ⟨C, d, hC, eC, k1, k2⟩ := nameL s hs y e
        have := top u hu y C d (by rw [← e]; exact es) hC eC
        rw [k1, k2]
        exact ⟨mx_pre this, mx_pre (by rw [neg_pre]; exact List.mem_map.mpr ⟨C, this, rfl⟩)⟩
      · have z1 : levF f s.2 = 0 := by
          cases q : s.2 <;> first | rfl | exact absurd ⟨_, q⟩ nm
        have z2 : levF (neg f) (neg s.2) = 0 := by
          cases q : s.2 <;> first | rfl | exact absurd ⟨_, q⟩ nm
        rw [z1, z2]
        exact ⟨Nat.zero_le _, Nat.zero_le _⟩
    obtain ⟨s, hs, _, es, l1, l2⟩ := lvs v hvs
    obtain ⟨C, d, hC, eC, k1, k2⟩ := nameL s hs x (by rw [← es]; exact ev)
    have := bd_one hf.nd hC hB eC eB
    subst this
    have t1 : M = mx C := by
      obtain ⟨u, hu, eu⟩ := ex
      have a1 := (below u hu).1
      have a2 := le v hvs
      rw [eu] at a1
      rw [l1, k1] at a2
      omega
    have t2 : M' = mx (neg C) := by
      obtain ⟨u, hu, eu⟩ := ex'
      have a1 := (below u hu).2
      have a2 := le' v hvs
      rw [eu] at a1
      rw [l2, k2] at a2
      omega
    rw [t1, t2]
    cases C with
    | least y a =>
      have e1 := mx_least y a
      have e2 := mx_greatest y (neg a)
      show mx (.greatest y (neg a)) % 2 = _
      omega
    | greatest y a =>
      have e1 := mx_greatest y a
      have e2 := mx_least y (neg a)
      show mx (.least y (neg a)) % 2 = _
      omega
    | _ => cases eB
theorem game_ok (hw : OkW L0 L1 w) (hf : OkP L0 L1 f) (H : IsSp w f L) (hn : w.n ≤ 60) (hl : L.length ≤ 1000) : OkG (gameOf w f L) := by
  have okp : ∀ s, s ∈ L → s.1 < w.n ∧ s.2 ∈ f.pre := fun s hs => ((H.mem s).mp hs).ok hw hf
  refine ⟨by rw [game_len]; exact hl, fun k hk => ?_, fun k hk => ?_, fun k g hk hg => ?_, fun k hk => ?_⟩
  all_goals rw [game_len] at hk
  · obtain ⟨s, hs, rfl⟩ := each_at hk H.nd
    rw [game_ow hs]; exact own_le _
  · obtain ⟨s, hs, rfl⟩ := each_at hk H.nd
    rw [game_gl hs]
    split
    · simp
    · rename_i ne
      exact fun z => ne (List.map_eq_nil_iff.mp z)
  · rw [game_len]; exact H.lt hk hg
  · obtain ⟨s, hs, rfl⟩ := each_at hk H.nd
    rw [game_gl hs]
    split
    · simp
    · rw [List.length_map]
      have := stp_few hw hf (okp s hs).1 (okp s hs).2
      omega
theorem game_lev (hf : OkP L0 L1 f) (H : IsSp w f L) (hd : f.dp ≤ 12) {k : Nat} (hk : k < L.length) : lv (gameOf w f L) k ≤ 14 := by
  obtain ⟨s, hs, rfl⟩ := each_at hk H.nd
  rw [game_lv hs]
  split
  · split <;> omega
  · have key : ∀ x, mx (bdF f x) ≤ 14 := fun x => by
      unfold bdF
      cases q : (bds f).lookup x with
      | none => simp [mx]
      | some B =>
        have : (x, B) ∈ bds f := by
          have : ∀ {l : List (Nat × Fm)}, l.lookup x = some B → (x, B) ∈ l := by
            intro l
            induction l with
            | nil => intro h; cases h
            | cons p l ih =>
              intro h
              rw [List.lookup_cons] at h
              split at h
              · rename_i e
                have e : x = p.1 := by simpa using e
                cases h
                rw [e]; exact List.mem_cons_self
              · exact List.mem_cons_of_mem _ (ih h)
          exact this q
        have h2 := (mem_bds.mp this).1
        have := mx_pre h2
        have := mx_dp f
        show mx B ≤ 14
        omega
    cases q : s.2 with
    | name x => exact key x
    | _ => exact Nat.zero_le _
/-- who wins at a spot loses at the turned one -/
theorem turned (hw : OkW L0 L1 w) (hf : OkP L0 L1 f) (H : IsSp w f L) (H' : IsSp w (neg f) L') (hn : w.n ≤ 60) (hl : L.length ≤ 1000) {W W' : Nat → Nat} {m m' : Nat → Option Nat} (s1 : Solved (gameOf w f L) W m) (s2 : Solved (gameOf w (neg f) L') W' m')
    {s : Sp} (hs : s ∈ L) : tn s ∈ L' ∧ L'.length = L.length ∧ W' (L'.idxOf (tn s)) = 1 - W (L.idxOf s) := by
  have okp : ∀ s, s ∈ L → s.1 < w.n ∧ s.2 ∈ f.pre := fun s hs => ((H.mem s).mp hs).ok hw hf
  have mem' : ∀ s, s ∈ L → tn s ∈ L' := fun s hs => (H'.mem _).mpr (((H.mem s).mp hs).neg hw hf)
  have Hn := H.neg hw hf
  have len : L'.length = L.length := by
    have a := SD.subset_len (ls := L') Hn.nd fun x hx => (H'.mem x).mpr ((Hn.mem x).mp hx)
    have b := SD.subset_len (ls := L.map tn) H'.nd fun x hx => (Hn.mem x).mpr ((H'.mem x).mp hx)
    rw [List.length_map] at a b
    omega
  refine ⟨mem' s hs, len, ?_⟩
  have hk : L.idxOf s < L.length := List.idxOf_lt_length_iff.mpr hs
  have w2 := s1.two (L.idxOf s) (by rw [game_len]; exact hk)
  let φ : Nat → Nat := fun k => L'.idxOf (tn (L.getD k d0))
  let ψ : Nat → Nat := fun k => L.idxOf (tn (L'.getD k d0))
  have hφ : ∀ s, s ∈ L → φ (L.idxOf s) = L'.idxOf (tn s) := fun s hs => by
    show L'.idxOf (tn (L.getD (L.idxOf s) d0)) = _
    rw [List.getD_eq_getElem?_getD, idx_at hs]; rfl
  have win := s1.win (W (L.idxOf s)) w2
  rw [game_len] at win
  obtain ⟨m2, w3⟩ := Win.turn (G' := gameOf w (neg f) L') (q := 1 - W (L.idxOf s)) (φ := φ) (ψ := ψ) (n := L.length) (fun k hk => by
      obtain ⟨t, ht, rfl⟩ := each_at hk H.nd
      show L.idxOf (tn (L'.getD (φ (L.idxOf t)) d0)) = _
      rw [hφ t ht, List.getD_eq_getElem?_getD, idx_at (mem' t ht)]
      show L.idxOf (tn (tn t)) = _
      rw [tn_tn]) (fun k hk => by
      obtain ⟨t, ht, rfl⟩ := each_at hk H.nd
      rw [hφ t ht, ← len]
      exact List.idxOf_lt_length_iff.mpr (mem' t ht)) (fun k hk => by
      obtain ⟨t, ht, rfl⟩ := each_at hk H.nd
      rw [hφ t ht, game_gl (mem' t ht), game_gl ht, stp_neg hf (okp t ht).2]
      by_cases e : stp w f t = []
      · rw [if_pos (by rw [e]; rfl), if_pos e, List.map_cons, hφ t ht]; rfl
      · rw [if_neg (fun z => e (List.map_eq_nil_iff.mp z)), if_neg e, List.map_map, List.map_map]
        exact List.map_congr_left fun u hu => (hφ u (H.step ht hu)).symm) (fun k g hk hg => H.lt hk hg) (fun k hk => by
      obtain ⟨t, ht, rfl⟩ := each_at hk H.nd
      rw [hφ t ht, game_ow ht, game_ow (mem' t ht), game_gl ht]
      rcases own_neg (f := f) (w := w) (s := t) with e | e | ⟨u, e⟩
      · left
        show _ ↔ ownF (neg t.2) = _
        rw [e]
        have := own_le t.2
        omega
      · right; rw [if_pos e]; exact ⟨_, rfl⟩
      · right; rw [if_neg (by rw [e]; simp), e]; exact ⟨_, rfl⟩) (fun a vs M M' hv wk le ex le' ex' hp => by
      have := turn_cyc hw hf H H' hv wk hφ le ex le' ex'
      omega) win
  have okg : OkG (gameOf w (neg f) L') := game_ok hw hf.neg H' hn (by rw [len]; exact hl)
  have w4 : Win (gameOf w (neg f) L') (fun k => k < (gameOf w (neg f) L').length) (1 - W (L.idxOf s)) (fun k' => ∃ k, (k < L.length ∧ W k = W (L.idxOf s)) ∧ φ k = k') m2 := by rw [game_len, len]; exact w3
  exact s2.only okg (p := 1 - W (L.idxOf s)) (by omega) w4 ⟨L.idxOf s, ⟨hk, rfl⟩, hφ s hs⟩
end
end PG
/-! SPk: binders_in, levels_of, steps_from, is_won_end. -/
namespace PG
open PySem L2 SD
section
variable {ok : Store → Prop} {g : FG} {t : FT} {e fk fv : FE} {Q : Store → Prop} {σ : Slots} {S : Store}
theorem lc_pick {α β : Type} (gs : List α) (enc : α → D) (sel : α → Option β) (out : β → D) (few : gs.length ≤ sizeLine) (hok : ∀ S1, Ext S S1 → ok S1)
    (hs : ∀ a ∈ gs, ∀ (S1 : Store) (R : Store → Prop) (RK : PD), Ext S S1 → (sel a = none → ∀ S2, Ext S1 S2 → R S2) → (∀ b, sel a = some b → ∀ S2, Ext S1 S2 → RK (out b) S2) → g (enc a) σ S1 fun σ2 S2 => t σ2 S2 fun c S3 => if c = true then e σ2 S3 RK else R S3)
    (hQ : ∀ S1, Ext S S1 → S1[S.length]? = some (.lst ((gs.filterMap sel).map out)) → Q S1) : lcD ok g t e S.length Q σ (gs.map enc) (S ++ [.lst []]) := by
  refine lc_inv (fun k acc S1 => Ext S S1 ∧ acc = ((gs.take k).filterMap sel).map out) (by rw [List.length_map]; exact few) (new_at S _) ⟨Ext.app S _, rfl⟩ ?_ ?_
  · rintro k x acc S1 R hx h1 hl ⟨e1, rfl⟩ hR
    rw [List.getElem?_map] at hx
    cases hg : gs[k]? with
    | none => rw [hg] at hx; cases hx
    | some a =>
      rw [hg] at hx
      cases hx
      have hk : k < gs.length := (List.getElem?_eq_some_iff.mp hg).1
      have tk : gs.take (k + 1) = gs.take k ++ [a] := by rw [List.take_add_one, hg]; rfl
      refine ⟨hok S1 e1, hs a (List.mem_of_getElem? hg) S1 _ _ e1 (fun hn S2 e2 => ?_) fun b hb S2 e2 => ⟨_, e2 _ _ h1, by omega, ?_⟩⟩
      · refine hR _ S2 (e2 _ _ h1) (by omega) ⟨e1.trans e2, ?_⟩
        rw [tk, List.filterMap_append]
        simp [hn]
      · refine hR _ _ (set_at (e2 _ _ h1)) (by rw [List.length_append]; exact Nat.succ_le_succ hl) ⟨(e1.trans e2).put (Nat.le_refl _), ?_⟩
        rw [tk, List.filterMap_append]
        simp [hb]
  · rintro acc S1 h1 hl ⟨e1, rfl⟩
    rw [List.length_map, List.take_length] at h1
    exact ⟨hok S1 e1, hQ S1 e1 h1⟩
end
/-! ### dicts by whole numbers -/
def natD {α : Type} (e : α → D) (l : List (Nat × α)) : List (D × D) := l.map fun p => (.int (p.1 : Nat), e p.2)
theorem natD_val {α : Type} (e : α → D) (l : List (Nat × α)) (k : Nat) : valD (natD e l) (.int (k : Nat)) = (l.lookup k).map e := by
  unfold valD natD
  induction l with
  | nil => rfl
  | cons p l ih =>
    rw [List.map_cons, List.lookup_cons]
    by_cases z : k = p.1
    · rw [List.find?_cons_of_pos (by simp [z]), show (k == p.1) = true by simpa using z]; rfl
    · rw [List.find?_cons_of_neg (by simp; omega), show (k == p.1) = false by simpa using z]
      exact ih
theorem natD_put {α : Type} (e : α → D) (l : List (Nat × α)) (k : Nat) (a : α) (h : k ∉ l.map (·.1)) : putD (natD e l) (.int (k : Nat)) (e a) = natD e (l ++ [(k, a)]) := by
  unfold putD
  rw [if_neg]
  · unfold natD; rw [List.map_append]; rfl
  · unfold natD
    rw [List.any_map, List.any_eq_true]
    rintro ⟨p, hp, z⟩
    simp only [Function.comp, decide_eq_true_eq, D.int.injEq] at z
    exact h (List.mem_map.mpr ⟨p, hp, by omega⟩)
theorem natD_len {α : Type} (e : α → D) (l : List (Nat × α)) : (natD e l).length = l.length := by unfold natD; rw [List.length_map]
theorem natD_keys {α : Type} (e : α → D) (l : List (Nat × α)) : (natD e l).map (·.1) = (l.map fun p => ((p.1 : Nat) : Int)).map D.int := by unfold natD; rw [List.map_map, List.map_map]; rfl
/-! ### all parts, in their order -/
theorem flatMap_pre (f : Fm) : f.pre = f :: f.parts.flatMap Fm.pre := pre_parts f
theorem pre_len : ∀ f : Fm, f.pre.length = f.sz
  | .yes | .no | .is _ | .isnt _ | .name _ => rfl
  | .both a b | .either a b => by simp only [Fm.pre, Fm.sz, List.length_cons, List.length_append, pre_len a, pre_len b]
  | .some _ a | .all _ a | .least _ a | .greatest _ a => by simp only [Fm.pre, Fm.sz, List.length_cons, pre_len a]
theorem all_pre_spec {f : Fm} {S : Store} {Q : PD} (hd : f.dp ≤ 16) (h : ∀ (S' : Store) (n : Nat), Ext S S' → S.length ≤ n → S'[n]? = some (.lst (f.pre.map encF)) → Q (.ref n) S') : F_all_parts [encF f] S Q := by
  have hz : f.sz ≤ 65536 := sz_le hd
  refine r_fn rfl ?_
  unfold b_all_parts
  walk_at "s"
  have x1 : (S ++ [Cell.lst []]).length = S.length + 1 := by simp
  refine while_inv (fun k σ S' => ∃ (fs ws : List Fm) (s3 : Option D), szs ws = k ∧ fs.length + szs ws = f.sz ∧ fs ++ ws.reverse.flatMap Fm.pre = f.pre ∧ σ = [some (encF f), some (.ref S.length), some (.ref (S.length + 1)), s3] ∧ Ext S S' ∧ S'[S.length]? = some (.lst (fs.map encF)) ∧ S'[S.length + 1]? = some (.lst (ws.map encF))) f.sz ?_ ?_
  · refine ⟨[], [f], _, szs_one f, by rw [szs_one]; simp, by simp, by rw [← x1]; rfl, (Ext.app _ _).trans (Ext.app _ _), ?_, ?_⟩
    · exact Ext.app _ _ _ _ (new_at S _)
    · rw [← x1]; exact new_at _ _
  · rintro k σ S1 R ⟨fs, ws, s3, rfl, hsum, hpre, rfl, e1, h1, h2⟩ hR
    walk_at "s"
    refine r_len (by show seqC S1[S.length + 1]? = _; rw [h2]; rfl) ?_
    walk_at "s"
    refine ite_b (fun hb => ?_) (fun hb => ?_)
    · have hb : ws ≠ [] := fun e => by subst e; simp at hb
      obtain ⟨ws', g, rfl⟩ : ∃ ws' g, ws = ws' ++ [g] := ⟨ws.dropLast, ws.getLast hb, (List.dropLast_concat_getLast hb).symm⟩
      have hs : szs (ws' ++ [g]) = szs ws' + g.sz := by rw [szs_app, szs_one]
      have hg := sz_pos g
      have hl1 := szs_len ws'
      walk_at "s"
      refine r_tyL h2 ?_
      walk_at "s"
      refine ⟨_, _, encF g, rfl, rfl, h2, by simp, ?_⟩
      have o1 := Off.set (S.length + 1) S1 (.lst ((ws' ++ [g]).map encF).dropLast)
      have h2' : (S1.set (S.length + 1) (.lst ((ws' ++ [g]).map encF).dropLast))[S.length + 1]? = some (.lst (ws'.map encF)) := by
        rw [set_at h2]; simp
      generalize S1.set (S.length + 1) (.lst ((ws' ++ [g]).map encF).dropLast) = S2 at o1 h2' ⊢
      have h1' := o1.ne (by omega) h1
      walk_at "s"
      refine r_tyL h1' ?_
      walk_at "s"
      refine r_app h1' (by rw [List.length_map]; simp only [sizeLine]; omega) fun S3 q3 o3 => ?_
      have h2'' := o3.ne (by omega) h2'
      walk_at "s"
      refine r_tyL h2'' ?_
      walk_at "s"
      refine parts_spec ?_
      walk_at "s"
      refine r_list rfl ?_
      refine ⟨_, _, rfl, new_at S3 _, ?_⟩
      walk_at "s"
      have pf := parts_few g
      refine ⟨_, _, _, _, rfl, rfl, Ext.app _ _ _ _ (Ext.app _ _ _ _ h2''), new_at _ _, by simp only [List.length_map, List.length_reverse, sizeLine]; omega, ?_⟩
      have ps := parts_sz g
      have o4 : ∀ (c : Cell) (i : Nat), i < S.length + 1 → ((S3 ++ [Cell.lst (g.parts.map encF)] ++ [Cell.lst (g.parts.map encF).reverse]).set (S.length + 1) c)[i]? = S3[i]? := fun c i hi => by
        have : S.length + 1 < S3.length := (List.getElem?_eq_some_iff.mp h2'').1
        rw [set_off (by omega), List.getElem?_append_left (by simp; omega), List.getElem?_append_left (by omega)]
      refine hR (szs (ws' ++ g.parts.reverse)) _ _ (by rw [szs_app, hs]; omega) ⟨fs ++ [g], ws' ++ g.parts.reverse, _, rfl, by rw [szs_app, List.length_append, List.length_singleton]; rw [hs] at hsum; omega, ?_, rfl, ?_, ?_, ?_⟩
      · rw [← hpre, List.reverse_append, List.reverse_append, List.reverse_reverse, List.reverse_singleton, List.flatMap_append, List.flatMap_append, List.append_assoc, List.flatMap_singleton, flatMap_pre g]
        simp
      · intro i c hi
        have : i < S.length := (List.getElem?_eq_some_iff.mp hi).1
        rw [o4 _ _ (by omega), o3.off i (by omega), o1.off i (by omega)]
        exact e1 i c hi
      · rw [o4 _ _ (by omega), q3]
        simp
      · rw [set_at (Ext.app _ _ _ _ (Ext.app _ _ _ _ h2''))]
        simp
    · have hb : ws = [] := by
        cases ws with
        | nil => rfl
        | cons w ws =>
          have := of_decide_eq_false hb
          simp at this <;> omega
      subst hb
      walk_at "s"
      have hpre : fs = f.pre := by simpa using hpre
      rw [hpre] at h1
      exact h S1 _ e1 (Nat.le_refl _) h1

def bdx (g : Fm) : Option (Nat × Fm) := g.bd.map fun p => (p.1, g)
theorem bds_eq (f : Fm) : bds f = f.pre.filterMap bdx := rfl
theorem bdx_new {l l1 l2 : List Fm} {B : Fm} {x : Nat} {c : Fm} (nd : ((l.filterMap bdx).map (·.1)).Nodup) (e : l = l1 ++ B :: l2) (eB : B.bd = some (x, c)) : x ∉ (l1.filterMap bdx).map (·.1) := by
  intro h
  rw [e, List.filterMap_append, List.map_append, List.nodup_append] at nd
  refine nd.2.2 x h x ?_ rfl
  refine List.mem_map.mpr ⟨(x, B), List.mem_filterMap.mpr ⟨B, List.mem_cons_self, ?_⟩, rfl⟩
  unfold bdx
  rw [eB]; rfl
theorem at_split {α : Type} {l : List α} {i : Nat} {a : α} (h : l[i]? = some a) : l = l.take i ++ a :: l.drop (i + 1) := by
  obtain ⟨hi, e⟩ := List.getElem?_eq_some_iff.mp h
  rw [← e, List.getElem_cons_drop, List.take_append_drop]
theorem bds_nd {f : Fm} (nd : f.bnds.Nodup) : ((f.pre.filterMap bdx).map (·.1)).Nodup := by rw [← bds_eq, bds_keys]; exact nd
theorem bds_few {f : Fm} (hd : f.dp ≤ 16) : f.pre.length ≤ 65536 := by rw [pre_len]; exact sz_le hd
theorem binders_spec {f : Fm} {S : Store} {Q : PD} (hd : f.dp ≤ 16) (nd : f.bnds.Nodup) (h : ∀ (S' : Store) (n : Nat), Ext S S' → S.length ≤ n → S'[n]? = some (.dct (natD encF (bds f))) → Q (.ref n) S') : F_binders_in [encF f] S Q := by
  have few := bds_few hd
  refine r_fn rfl ?_
  unfold b_binders_in
  walk_at "s"
  refine r_iLst ?_
  walk_at "s"
  refine all_pre_spec hd fun S1 n e1 hn h1 => .inr ⟨n, _, rfl, h1, fun few2 => ?_⟩
  refine dc_inv (fun i acc S2 => Ext S1 S2 ∧ acc = natD encF ((f.pre.take i).filterMap bdx)) (by rw [List.length_map]; simp only [sizeLine]; omega) (new_at S1 _) ⟨Ext.app S1 _, rfl⟩ ?_ ?_
  · rintro i x acc S2 R hx h2 hl ⟨e2, rfl⟩ hR
    rw [List.getElem?_map] at hx
    cases hg : f.pre[i]? with
    | none => rw [hg] at hx; cases hx
    | some g =>
      rw [hg] at hx
      cases hx
      have hk : i < f.pre.length := (List.getElem?_eq_some_iff.mp hg).1
      have tk : f.pre.take (i + 1) = f.pre.take i ++ [g] := by rw [List.take_add_one, hg]; rfl
      refine ⟨e2 _ _ h1, ?_⟩
      have skip : g.bd = none → R S2 := fun e => hR _ S2 h2 (by omega) ⟨e2, by rw [tk, List.filterMap_append]; simp [bdx, e]⟩
      have put : ∀ x c, g.bd = some (x, c) → ∃ acc, (toKey (.int (x : Nat))).isSome = true ∧ S2[S1.length]? = some (.dct acc) ∧ acc.length < sizeLine ∧ R (S2.set S1.length (.dct (putD acc (.int (x : Nat)) (encF g)))) := fun x c e => by
        refine ⟨_, rfl, h2, by simp only [sizeLine]; omega, ?_⟩
        rw [natD_put _ _ _ _ (bdx_new (bds_nd nd) (at_split hg) e)]
        refine hR _ _ (set_at h2) ?_ ⟨e2.put (Nat.le_refl _), ?_⟩
        · rw [natD_len] at *; rw [List.length_append]; exact Nat.succ_le_succ hl
        · rw [tk, List.filterMap_append]
          simp [bdx, e]
      cases g with
      | least x c =>
        walk_at "s"
        exact put x c rfl
      | greatest x c =>
        walk_at "s"
        exact put x c rfl
      | yes =>
        walk_at "s"
        exact skip rfl
      | no =>
        walk_at "s"
        exact skip rfl
      | is j =>
        walk_at "s"
        exact skip rfl
      | isnt j =>
        walk_at "s"
        exact skip rfl
      | name j =>
        walk_at "s"
        exact skip rfl
      | both a b =>
        walk_at "s"
        exact skip rfl
      | either a b =>
        walk_at "s"
        exact skip rfl
      | some j a =>
        walk_at "s"
        exact skip rfl
      | all j a =>
        walk_at "s"
        exact skip rfl
  · rintro acc S2 h2 hl ⟨e2, rfl⟩
    rw [List.length_map, List.take_length] at h2
    exact ⟨e2 _ _ h1, h S2 _ (e1.trans e2) e1.le h2⟩
/-! ### levels -/
theorem str_gl : decide (("greatest" : Str) = "least") = false := by decide
theorem str_ll : decide (("least" : Str) = "least") = true := by decide
def lvs (l : List (Nat × Fm)) : List (D × D) := natD (fun B => .int (mx B : Nat)) l
theorem pick_bd {l : List Fm} {C : Fm} : C ∈ l.filterMap (fun g => g.bd.map fun _ => g) ↔ C ∈ l ∧ C.bd ≠ none := by
  rw [List.mem_filterMap]
  constructor
  · rintro ⟨g, hg, e⟩
    cases q : g.bd with
    | none => rw [q] at e; cases e
    | some p =>
      rw [q] at e; cases e
      exact ⟨hg, by rw [q]; simp⟩
  · rintro ⟨h, e⟩
    cases q : C.bd with
    | none => exact absurd q e
    | some p => exact ⟨C, h, by rw [q]; rfl⟩
theorem max_at {a : Fm} {b : Nat} {m : Int} (h1 : m ∈ ((a.pre.filterMap fun g => g.bd.map fun _ => g).map fun C => ((mx C : Nat) : Int)) ++ [(b : Int)]) (h2 : ∀ y, y ∈ ((a.pre.filterMap fun g => g.bd.map fun _ => g).map fun C => ((mx C : Nat) : Int)) ++ [(b : Int)] → y ≤ m) : m = ((max (mx a) b : Nat) : Int) := by
  have hb := h2 b (by simp)
  have ha : ((mx a : Nat) : Int) ≤ m := by
    rcases mx_is a with e | ⟨B, k1, k2, k3⟩
    · rw [e]; omega
    · rw [← k3]
      exact h2 _ (List.mem_append.mpr (.inl (List.mem_map.mpr ⟨B, pick_bd.mpr ⟨k1, k2⟩, rfl⟩)))
  rcases List.mem_append.mp h1 with z | z
  · obtain ⟨C, hC, rfl⟩ := List.mem_map.mp z
    have := mx_pre (pick_bd.mp hC).1
    omega
  · rw [List.mem_singleton] at z
    omega
theorem rev_split {α : Type} {l : List α} {i : Nat} {a : α} (h : l.reverse[i]? = some a) : ∃ l1, l = l1 ++ a :: (l.reverse.take i).reverse := by
  have := at_split h
  refine ⟨(l.reverse.drop (i + 1)).reverse, ?_⟩
  have e := congrArg List.reverse this
  rw [List.reverse_reverse, List.reverse_append, List.reverse_cons] at e
  simpa using e
theorem levels_spec {f : Fm} {S : Store} {Q : PD} (hd : f.dp ≤ 16) (nd : f.bnds.Nodup) (h : ∀ (S' : Store) (n : Nat), Ext S S' → S.length ≤ n → S'[n]? = some (.dct (lvs (f.pre.reverse.filterMap bdx))) → Q (.ref n) S') : F_levels_of [encF f] S Q := by
  have few := bds_few hd
  refine r_fn rfl ?_
  unfold b_levels_of
  walk_at "s"
  refine r_iLst ?_
  walk_at "s"
  refine all_pre_spec hd fun S1 n e1 hn h1 => ?_
  have hS : S.length < S1.length := by have := e1.le; rw [List.length_append, List.length_singleton] at this; omega
  refine ⟨n, _, rfl, h1, .inr ⟨_, _, rfl, new_at S1 _, ?_⟩⟩
  rw [← List.map_reverse]
  have d1 := e1 _ _ (new_at S (.dct []))
  have ndr : ((f.pre.reverse.filterMap bdx).map (·.1)).Nodup := by
    rw [List.filterMap_reverse, List.map_reverse, List.nodup_iff_pairwise_ne, List.pairwise_reverse]; exact (List.nodup_iff_pairwise_ne.mp (bds_nd nd)).imp Ne.symm
  refine for_inv (fun i σ S2 => ∃ s2 s3 s4 s5 : Option D, σ = [some (encF f), some (.ref S.length), s2, s3, s4, s5] ∧ ExtB [S.length] (S1 ++ [.lst (f.pre.reverse.map encF)]) S2 ∧ S2[S.length]? = some (.dct (lvs ((f.pre.reverse.take i).filterMap bdx)))) ⟨_, _, _, _, rfl, .refl _ _, Ext.app _ _ _ _ d1⟩ ?_ ?_
  · rintro i x σ S2 R hx ⟨s2, s3, s4, s5, rfl, e2, h2⟩ hR
    rw [List.getElem?_map] at hx
    cases hg : f.pre.reverse[i]? with
    | none => rw [hg] at hx; cases hx
    | some g =>
      rw [hg] at hx
      cases hx
      have hk : i < f.pre.length := by have := (List.getElem?_eq_some_iff.mp hg).1; simpa using this
      have tk : f.pre.reverse.take (i + 1) = f.pre.reverse.take i ++ [g] := by rw [List.take_add_one, hg]; rfl
      have gin : g ∈ f.pre := by have := List.mem_of_getElem? hg; simpa using this
      refine ⟨e2.2 S1.length (by simp; omega) _ (new_at S1 _), ?_⟩
      have skip : ∀ σ, g.bd = none → (∃ s2 s3 s4 s5 : Option D, σ = [some (encF f), some (.ref S.length), s2, s3, s4, s5]) → R σ S2 := fun σ e ⟨s2, s3, s4, s5, es⟩ => hR _ _ ⟨s2, s3, s4, s5, es, e2, by rw [tk, List.filterMap_append]; simpa [bdx, e] using h2⟩
      have gl : (lvs ((f.pre.reverse.take i).filterMap bdx)).length ≤ 65536 := by
        unfold lvs
        rw [natD_len]
        refine Nat.le_trans (List.length_filterMap_le _ _) ?_
        rw [List.length_take]; omega
      have keys : ∀ y c, g.bd = some (y, c) → ∀ C, C ∈ c.pre → ∀ z d, C.bd = some (z, d) → valD (lvs ((f.pre.reverse.take i).filterMap bdx)) (.int (z : Nat)) = some (.int (mx C : Nat)) := fun y c e C hC z d eC => by
        obtain ⟨l1, el⟩ := rev_split hg
        have hin := pre_after f.sz f l1 g _ (Nat.le_refl _) el c (bd_part e).1 C hC
        rw [List.mem_reverse] at hin
        unfold lvs
        rw [natD_val, look_of (a := C) ?_ ?_]
        · rfl
        · refine List.Nodup.sublist ?_ ndr
          exact ((List.take_sublist _ _).filterMap _).map _
        · exact List.mem_filterMap.mpr ⟨C, hin, by unfold bdx; rw [eC]; rfl⟩
      have fin : ∀ (y : Nat) (c : Fm) (M : Int) (σ : Slots) (S3 : Store), M = ((mx g : Nat) : Int) → g.bd = some (y, c) → (∃ s2 s3 s4 s5 : Option D, σ = [some (encF f), some (.ref S.length), s2, s3, s4, s5]) → ExtB [S.length] S2 S3 → S3[S.length]? = some (.dct (lvs ((f.pre.reverse.take i).filterMap bdx))) → setF (.ref S.length) (.int (y : Nat)) (.int M) S3 fun S4 => R σ S4 := fun y c M σ S3 eM eg es e3 h3 => by
        rw [eM]
        refine r_setD1 h3 rfl (by simp only [sizeLine]; omega) fun S4 q4 o4 => ?_
        unfold lvs at q4
        rw [natD_put (fun B => .int (mx B : Nat)) _ _ g (bdx_new ndr (at_split hg) eg)] at q4
        obtain ⟨s2, s3, s4, s5, es⟩ := es
        refine hR _ _ ⟨s2, s3, s4, s5, es, (e2.trans e3).trans (o4.b (by simp)), ?_⟩
        rw [q4, tk, List.filterMap_append]
        simp [bdx, eg, lvs]
      cases g with
      | least y c =>
        have cd : c.dp ≤ 16 := by have := pre_dp gin; simp only [Fm.dp] at this; omega
        walk_at "s"
        refine r_iLst ?_
        walk_at "s"
        refine all_pre_spec cd fun S3 n3 e3 hn3 h3 => .inr ⟨n3, _, rfl, h3, fun few3 => ?_⟩
        refine lc_pick c.pre encF (fun C => C.bd.map fun _ => C) (fun C => .int (mx C : Nat)) (by rw [List.length_map] at few3; exact few3) (fun S4 e4 => e4 _ _ h3) ?_ fun S4 e4 h4 => ?_
        · intro C hC S4 R4 RK e4 hN hS
          have h24 := e4 _ _ (e3 _ _ h2)
          cases C with
          | least z d =>
            walk_at "s"
            refine r_ixD (dct_at h24) rfl (keys y c rfl _ hC z d rfl) ?_
            exact hS _ rfl S4 (.refl _)
          | greatest z d =>
            walk_at "s"
            refine r_ixD (dct_at h24) rfl (keys y c rfl _ hC z d rfl) ?_
            exact hS _ rfl S4 (.refl _)
          | yes =>
            walk_at "s"
            exact hN rfl S4 (.refl _)
          | no =>
            walk_at "s"
            exact hN rfl S4 (.refl _)
          | is j =>
            walk_at "s"
            exact hN rfl S4 (.refl _)
          | isnt j =>
            walk_at "s"
            exact hN rfl S4 (.refl _)
          | name j =>
            walk_at "s"
            exact hN rfl S4 (.refl _)
          | both a b =>
            walk_at "s"
            exact hN rfl S4 (.refl _)
          | either a b =>
            walk_at "s"
            exact hN rfl S4 (.refl _)
          | some j a =>
            walk_at "s"
            exact hN rfl S4 (.refl _)
          | all j a =>
            walk_at "s"
            exact hN rfl S4 (.refl _)
        have fl : ((c.pre.filterMap fun C => C.bd.map fun _ => C).map fun C : Fm => D.int (mx C : Nat)).length ≤ 65536 := by
          rw [List.length_map]
          exact Nat.le_trans (List.length_filterMap_le _ _) (bds_few cd)
        walk_at "s"
        refine r_addL (Ext.app _ _ _ _ h4) (new_at S4 _) (by simp only [sizeLine, List.length_cons, List.length_nil]; omega) ?_
        walk_at "s"
        refine ⟨_, ((c.pre.filterMap fun C => C.bd.map fun _ => C).map fun C => ((mx C : Nat) : Int)) ++ [((1 : Nat) : Int)], rfl, ?_, by simp, fun m hm1 hm2 => ?_⟩
        · rw [new_at, List.map_append, List.map_map]; rfl
        have em := max_at hm1 hm2
        subst em
        have x5 : ∀ (T : Store), Ext S2 T → ExtB [S.length] S2 T := fun T e => e.b _
        have e5 : Ext S2 (S4 ++ [.lst [.int 1]] ++ [.lst (((c.pre.filterMap fun C => C.bd.map fun _ => C).map fun C : Fm => D.int (mx C : Nat)) ++ [.int 1])]) := ((e3.trans e4).trans (Ext.app _ _)).trans (Ext.app _ _)
        generalize S4 ++ [.lst [.int 1]] ++ [.lst (((c.pre.filterMap fun C => C.bd.map fun _ => C).map fun C : Fm => D.int (mx C : Nat)) ++ [.int 1])] = S5 at e5 ⊢
        walk_at "s"
        have emod : (((max (mx c) 1 : Nat) : Int) % 2) = (((max (mx c) 1) % 2 : Nat) : Int) := by omega
        refine ite_b (fun hb => ?_) fun hb => ?_
        · have : mx (.least y c) = max (mx c) 1 := by
            have hb := of_decide_eq_true hb
            simp only [mx]
            rw [if_pos]
            rw [str_ll] at hb; simp at hb; omega
          walk_at "s"
          exact fin y c _ _ S5 (by rw [this]) rfl ⟨_, _, _, _, rfl⟩ (e5.b _) (e5 _ _ h2)
        · have : mx (.least y c) = max (mx c) 1 + 1 := by
            have hb := of_decide_eq_false hb
            simp only [mx]
            rw [if_neg]
            rw [str_ll] at hb; simp at hb; omega
          walk_at "s"
          exact fin y c _ _ S5 (by rw [this]; omega) rfl ⟨_, _, _, _, rfl⟩ (e5.b _) (e5 _ _ h2)
      | greatest y c =>
        have cd : c.dp ≤ 16 := by have := pre_dp gin; simp only [Fm.dp] at this; omega
        walk_at "s"
        refine r_iLst ?_
        walk_at "s"
        refine all_pre_spec cd fun S3 n3 e3 hn3 h3 => .inr ⟨n3, _, rfl, h3, fun few3 => ?_⟩
        refine lc_pick c.pre encF (fun C => C.bd.map fun _ => C) (fun C => .int (mx C : Nat)) (by rw [List.length_map] at few3; exact few3) (fun S4 e4 => e4 _ _ h3) ?_ fun S4 e4 h4 => ?_
        · intro C hC S4 R4 RK e4 hN hS
          have h24 := e4 _ _ (e3 _ _ h2)
          cases C with
          | least z d =>
            walk_at "s"
            refine r_ixD (dct_at h24) rfl (keys y c rfl _ hC z d rfl) ?_
            exact hS _ rfl S4 (.refl _)
          | greatest z d =>
            walk_at "s"
            refine r_ixD (dct_at h24) rfl (keys y c rfl _ hC z d rfl) ?_
            exact hS _ rfl S4 (.refl _)
          | yes =>
            walk_at "s"
            exact hN rfl S4 (.refl _)
          | no =>
            walk_at "s"
            exact hN rfl S4 (.refl _)
          | is j =>
            walk_at "s"
            exact hN rfl S4 (.refl _)
          | isnt j =>
            walk_at "s"
            exact hN rfl S4 (.refl _)
          | name j =>
            walk_at "s"
            exact hN rfl S4 (.refl _)
          | both a b =>
            walk_at "s"
            exact hN rfl S4 (.refl _)
          | either a b =>
            walk_at "s"
            exact hN rfl S4 (.refl _)
          | some j a =>
            walk_at "s"
            exact hN rfl S4 (.refl _)
          | all j a =>
            walk_at "s"
            exact hN rfl S4 (.refl _)
        have fl : ((c.pre.filterMap fun C => C.bd.map fun _ => C).map fun C : Fm => D.int (mx C : Nat)).length ≤ 65536 := by
          rw [List.length_map]
          exact Nat.le_trans (List.length_filterMap_le _ _) (bds_few cd)
        walk_at "s"
        refine r_addL (Ext.app _ _ _ _ h4) (new_at S4 _) (by simp only [sizeLine, List.length_cons, List.length_nil]; omega) ?_
        walk_at "s"
        refine ⟨_, ((c.pre.filterMap fun C => C.bd.map fun _ => C).map fun C => ((mx C : Nat) : Int)) ++ [((2 : Nat) : Int)], rfl, ?_, by simp, fun m hm1 hm2 => ?_⟩
        · rw [new_at, List.map_append, List.map_map]; rfl
        have em := max_at hm1 hm2
        subst em
        have x5 : ∀ (T : Store), Ext S2 T → ExtB [S.length] S2 T := fun T e => e.b _
        have e5 : Ext S2 (S4 ++ [.lst [.int 2]] ++ [.lst (((c.pre.filterMap fun C => C.bd.map fun _ => C).map fun C : Fm => D.int (mx C : Nat)) ++ [.int 2])]) := ((e3.trans e4).trans (Ext.app _ _)).trans (Ext.app _ _)
        generalize S4 ++ [.lst [.int 2]] ++ [.lst (((c.pre.filterMap fun C => C.bd.map fun _ => C).map fun C : Fm => D.int (mx C : Nat)) ++ [.int 2])] = S5 at e5 ⊢
        walk_at "s"
        have emod : (((max (mx c) 2 : Nat) : Int) % 2) = (((max (mx c) 2) % 2 : Nat) : Int) := by omega
        refine ite_b (fun hb => ?_) fun hb => ?_
        · have : mx (.greatest y c) = max (mx c) 2 := by
            have hb := of_decide_eq_true hb
            simp only [mx]
            rw [if_pos]
            rw [str_gl] at hb; simp at hb; omega
          walk_at "s"
          exact fin y c _ _ S5 (by rw [this]) rfl ⟨_, _, _, _, rfl⟩ (e5.b _) (e5 _ _ h2)
        · have : mx (.greatest y c) = max (mx c) 2 + 1 := by
            have hb := of_decide_eq_false hb
            simp only [mx]
            rw [if_neg]
            rw [str_gl] at hb; simp at hb; omega
          walk_at "s"
          exact fin y c _ _ S5 (by rw [this]; omega) rfl ⟨_, _, _, _, rfl⟩ (e5.b _) (e5 _ _ h2)
      | yes =>
        walk_at "s"
        exact skip _ rfl ⟨_, _, _, _, rfl⟩
      | no =>
        walk_at "s"
        exact skip _ rfl ⟨_, _, _, _, rfl⟩
      | is j =>
        walk_at "s"
        exact skip _ rfl ⟨_, _, _, _, rfl⟩
      | isnt j =>
        walk_at "s"
        exact skip _ rfl ⟨_, _, _, _, rfl⟩
      | name j =>
        walk_at "s"
        exact skip _ rfl ⟨_, _, _, _, rfl⟩
      | both a b =>
        walk_at "s"
        exact skip _ rfl ⟨_, _, _, _, rfl⟩
      | either a b =>
        walk_at "s"
        exact skip _ rfl ⟨_, _, _, _, rfl⟩
      | some j a =>
        walk_at "s"
        exact skip _ rfl ⟨_, _, _, _, rfl⟩
      | all j a =>
        walk_at "s"
        exact skip _ rfl ⟨_, _, _, _, rfl⟩
  · rintro σ S2 ⟨s2, s3, s4, s5, rfl, e2, h2⟩
    rw [List.length_map, List.take_length] at h2
    refine ⟨e2.2 S1.length (by simp; omega) _ (new_at S1 _), ?_⟩
    walk_at "s"
    refine h S2 _ (fun j c hc => ?_) (Nat.le_refl _) h2
    have : j < S.length := (List.getElem?_eq_some_iff.mp hc).1
    exact e2.2 j (by simp; omega) c (Ext.app _ _ _ _ (e1 _ _ (Ext.app S _ _ _ hc)))
/-! ### steps -/
def encSp (s : Sp) : D := .tup [.int (s.1 : Nat), encF s.2]
theorem sc_sub {L0 L1 : Nat} : ∀ {g : Fm} {sc : List Nat}, Sc L0 L1 sc g → ∀ {h : Fm}, h ∈ g.pre → ∃ sc', Sc L0 L1 sc' h := by
  have key : ∀ (n : Nat) (g : Fm) (sc : List Nat), g.sz ≤ n → Sc L0 L1 sc g → ∀ (h : Fm), h ∈ g.pre → ∃ sc', Sc L0 L1 sc' h := by
    intro n
    induction n with
    | zero => intro g sc hn; have := sz_pos g; omega
    | succ n ih =>
      intro g sc hn hs h hh
      rcases pre_cases hh with rfl | ⟨k, hk, hh2⟩
      · exact ⟨_, hs⟩
      · have hz := part_sz hk
        have hs' : ∃ sc', Sc L0 L1 sc' k := by
          cases g <;> simp only [Fm.parts, List.mem_cons, List.not_mem_nil, or_false] at hk
          · rcases hk with rfl | rfl
            · exact ⟨_, hs.1⟩
            · exact ⟨_, hs.2⟩
          · rcases hk with rfl | rfl
            · exact ⟨_, hs.1⟩
            · exact ⟨_, hs.2⟩
          · subst hk; exact ⟨_, hs.2⟩
          · subst hk; exact ⟨_, hs.2⟩
          · subst hk; exact ⟨_, hs⟩
          · subst hk; exact ⟨_, hs⟩
        obtain ⟨sc', hs'⟩ := hs'
        exact ih k sc' (by omega) hs' h hh2
  exact fun {g sc} hs {h} hh => key g.sz g sc (Nat.le_refl _) hs h hh
section
variable {L0 L1 : Nat} {w : Wd} {f : Fm}
theorem steps_spec (hw : OkW L0 L1 w) (hf : OkP L0 L1 f) (hn : w.n ≤ 1000) {s : Sp} (h1 : s.1 < w.n) (h2 : s.2 ∈ f.pre) {b : Nat} {S : Store} {Q : PD} (hb : S[b]? = some (.dct (natD encF (bds f))))
    (h : ∀ (S' : Store) (n : Nat), Ext S S' → S.length ≤ n → S'[n]? = some (.lst ((stp w f s).map encSp)) → Q (.ref n) S') : F_steps_from [encW w, .ref b, encSp s] S Q := by
  obtain ⟨p, g⟩ := s
  simp only at h1 h2
  change F_steps_from [encW w, .ref b, .tup [.int ((p : Nat) : Int), encF g]] S Q
  refine r_fn rfl ?_
  unfold b_steps_from
  cases g with
  | both a c =>
    walk_at "s"
    refine r_iTup ?_
    walk_at "s"
    refine r_slT rfl ?_
    refine r_xs fun few => ?_
    refine lc_each [a, c] encF (fun x => encSp (p, x)) (by show 2 ≤ sizeLine; decide) (fun _ _ => trivial) (fun x hx S1 P e1 hP => ?_) fun S1 e1 h3 => ?_
    · walk_at "s"
      exact hP S1 (.refl _)
    · exact h S1 _ e1 (Nat.le_refl _) h3
  | either a c =>
    walk_at "s"
    refine r_iTup ?_
    walk_at "s"
    refine r_slT rfl ?_
    refine r_xs fun few => ?_
    refine lc_each [a, c] encF (fun x => encSp (p, x)) (by show 2 ≤ sizeLine; decide) (fun _ _ => trivial) (fun x hx S1 P e1 hP => ?_) fun S1 e1 h3 => ?_
    · walk_at "s"
      exact hP S1 (.refl _)
    · exact h S1 _ e1 (Nat.le_refl _) h3
  | some j a =>
    obtain ⟨r, k1, k2, k3⟩ := way_at hw (sc_way hf.sc h2 (.inl rfl))
    obtain ⟨k4, k5⟩ := k3 p h1
    have kl := k5.le
    walk_at "s"
    refine r_iTup ?_
    walk_at "s"
    refine r_ixT k1 ?_
    walk_at "s"
    refine ⟨_, k4, ?_⟩
    refine r_xs fun few => ?_
    refine lc_each (w.way j p) (fun x : Nat => .int (x : Nat)) (fun x : Nat => encSp (x, a)) (by simp only [sizeLine]; omega) (fun _ _ => trivial) (fun x hx S1 P e1 hP => ?_) fun S1 e1 h3 => ?_
    · walk_at "s"
      exact hP S1 (.refl _)
    · refine h S1 _ e1 (Nat.le_refl _) ?_
      rw [h3]
      show _ = some (Cell.lst (((w.way j p).map fun g => (g, a)).map encSp))
      rw [List.map_map]; rfl
  | all j a =>
    obtain ⟨r, k1, k2, k3⟩ := way_at hw (sc_way hf.sc h2 (.inr rfl))
    obtain ⟨k4, k5⟩ := k3 p h1
    have kl := k5.le
    walk_at "s"
    refine r_iTup ?_
    walk_at "s"
    refine r_ixT k1 ?_
    walk_at "s"
    refine ⟨_, k4, ?_⟩
    refine r_xs fun few => ?_
    refine lc_each (w.way j p) (fun x : Nat => .int (x : Nat)) (fun x : Nat => encSp (x, a)) (by simp only [sizeLine]; omega) (fun _ _ => trivial) (fun x hx S1 P e1 hP => ?_) fun S1 e1 h3 => ?_
    · walk_at "s"
      exact hP S1 (.refl _)
    · refine h S1 _ e1 (Nat.le_refl _) ?_
      rw [h3]
      show _ = some (Cell.lst (((w.way j p).map fun g => (g, a)).map encSp))
      rw [List.map_map]; rfl
  | least x a =>
    walk_at "s"
    exact h _ _ (Ext.app S _) (Nat.le_refl _) (new_at S _)
  | greatest x a =>
    walk_at "s"
    exact h _ _ (Ext.app S _) (Nat.le_refl _) (new_at S _)
  | name x =>
    obtain ⟨B, c, hB, e⟩ := hf.bound h2
    have eb : stp w f (p, .name x) = [(p, c)] := by
      show [(p, ch (bdF f x))] = _
      rw [bdF_is hf.nd hB e, ch_is e]
    rw [eb] at h
    walk_at "s"
    refine r_ixD (dct_at hb) rfl (by rw [natD_val, look_bds hf.nd hB e]; rfl) ?_
    have eB : ∃ hd, encF B = .tup [hd, .int (x : Nat), encF c] := by
      cases B <;> simp [Fm.bd] at e
      all_goals (obtain ⟨rfl, rfl⟩ := e; exact ⟨_, rfl⟩)
    obtain ⟨hd, eB⟩ := eB
    rw [eB]
    walk_at "s"
    exact h _ _ (Ext.app S _) (Nat.le_refl _) (new_at S _)
  | yes =>
    walk_at "s"
    exact h _ _ (Ext.app S _) (Nat.le_refl _) (new_at S _)
  | no =>
    walk_at "s"
    exact h _ _ (Ext.app S _) (Nat.le_refl _) (new_at S _)
  | is j =>
    walk_at "s"
    exact h _ _ (Ext.app S _) (Nat.le_refl _) (new_at S _)
  | isnt j =>
    walk_at "s"
    exact h _ _ (Ext.app S _) (Nat.le_refl _) (new_at S _)
theorem end_spec (hw : OkW L0 L1 w) (hf : OkP L0 L1 f) {s : Sp} (h2 : s.2 ∈ f.pre) {S : Store} {Q : PD} (h : Q (.bl (endW w s)) S) : F_is_won_end [encW w, encSp s] S Q := by
  obtain ⟨p, g⟩ := s
  simp only at h2
  obtain ⟨sc', hs⟩ := sc_sub hf.sc h2
  change F_is_won_end [encW w, .tup [.int ((p : Nat) : Int), encF g]] S Q
  refine r_fn rfl ?_
  unfold b_is_won_end
  cases g with
  | is j =>
    have k := mark_at hw (i := j) hs
    walk_at "s"
    refine r_ixT k.1 ?_
    refine in_nat ?_
    walk_at "s"
    have : decide (decide (p ∈ w.marks.getD j []) = decide (("is" : Str) = "is")) = endW w (p, .is j) := by
      show _ = decide (p ∈ w.marks.getD j [])
      simp
    rw [this]
    exact h
  | isnt j =>
    have k := mark_at hw (i := j) hs
    walk_at "s"
    refine r_ixT k.1 ?_
    refine in_nat ?_
    walk_at "s"
    have : decide (decide (p ∈ w.marks.getD j []) = decide (("isnt" : Str) = "is")) = endW w (p, .isnt j) := by
      show _ = !decide (p ∈ w.marks.getD j [])
      cases decide (p ∈ w.marks.getD j []) <;> rfl
    rw [this]
    exact h
  | yes =>
    walk_at "s"
    exact h
  | no =>
    walk_at "s"
    exact h
  | name j =>
    walk_at "s"
    exact h
  | both a b =>
    walk_at "s"
    exact h
  | either a b =>
    walk_at "s"
    exact h
  | some j a =>
    walk_at "s"
    exact h
  | all j a =>
    walk_at "s"
    exact h
  | least x a =>
    walk_at "s"
    exact h
  | greatest x a =>
    walk_at "s"
    exact h
end
end PG
/-! SPl: spots_of. -/
namespace PG
open PySem L2 SD SO
/-! ### sayings and spots as nested keys -/
def kF : Fm → NestedKey
  | .yes => .tup [.text "yes"]
  | .no => .tup [.text "no"]
  | .is i => .tup [.text "is", .num (i : Nat)]
  | .isnt i => .tup [.text "isnt", .num (i : Nat)]
  | .name x => .tup [.text "name", .num (x : Nat)]
  | .both a b => .tup [.text "both", kF a, kF b]
  | .either a b => .tup [.text "either", kF a, kF b]
  | .some j a => .tup [.text "some", .num (j : Nat), kF a]
  | .all j a => .tup [.text "all", .num (j : Nat), kF a]
  | .least x a => .tup [.text "least", .num (x : Nat), kF a]
  | .greatest x a => .tup [.text "greatest", .num (x : Nat), kF a]
theorem keyN_kF : ∀ f : Fm, keyN (kF f) = encF f
  | .yes | .no | .is _ | .isnt _ | .name _ => by simp only [kF, keyN, keyNs, encF]
  | .both a b | .either a b => by simp only [kF, keyN, keyNs, encF, keyN_kF a, keyN_kF b]
  | .some _ a | .all _ a | .least _ a | .greatest _ a => by simp only [kF, keyN, keyNs, encF, keyN_kF a]
theorem kF_tx : ∀ f : Fm, txN (kF f) = true
  | .yes | .no | .is _ | .isnt _ | .name _ => by simp [kF, txN, txNs]
  | .both a b | .either a b => by simp [kF, txN, txNs, kF_tx a, kF_tx b]
  | .some _ a | .all _ a | .least _ a | .greatest _ a => by simp [kF, txN, txNs, kF_tx a]
theorem kF_depth : ∀ f : Fm, (kF f).depth ≤ f.dp
  | .yes | .no | .is _ | .isnt _ | .name _ => by simp [kF, NestedKey.depth, NestedKey.depthAll, Fm.dp]
  | .both a b | .either a b => by
    have := kF_depth a
    have := kF_depth b
    simp only [kF, NestedKey.depth, NestedKey.depthAll, Fm.dp]; omega
  | .some _ a | .all _ a | .least _ a | .greatest _ a => by
    have := kF_depth a
    simp only [kF, NestedKey.depth, NestedKey.depthAll, Fm.dp]; omega
theorem cmpA_cons {x y : NestedKey} {xs ys : List NestedKey} (h1 : cmpN x y = true) (h2 : cmpA xs ys = true) : cmpA (x :: xs) (y :: ys) = true := by
  rw [cmpA]; split
  · exact h2
  · exact h1
theorem cmpA_ne {x y : NestedKey} {xs ys : List NestedKey} (h1 : cmpN x y = true) (h2 : NestedKey.beq x y = false) : cmpA (x :: xs) (y :: ys) = true := by
  rw [cmpA, if_neg (by rw [h2]; exact Bool.false_ne_true)]; exact h1
theorem cmp_num (i j : Int) : cmpN (.num i) (.num j) = true := by simp [cmpN]
theorem cmp_text (i j : Str) : cmpN (.text i) (.text j) = true := by simp [cmpN]
theorem cmp_tup {xs ys : List NestedKey} (h : cmpA xs ys = true) : cmpN (.tup xs) (.tup ys) = true := by rw [cmpN]; exact h
theorem cmpA_nil : cmpA [] [] = true := by simp [cmpA]
theorem ne_text {a b : Str} (h : decide (a = b) = false) : NestedKey.beq (.text a) (.text b) = false := by
  rw [NestedKey.beq]
  have := of_decide_eq_false h
  simpa using this
theorem kF_cmp : ∀ f g : Fm, cmpN (kF f) (kF g) = true := by
  intro f
  induction f with
  | both a b iha ihb => intro g; cases g <;> first | exact cmp_tup (cmpA_ne (cmp_text _ _) (ne_text (by decide))) | exact cmp_tup (cmpA_cons (cmp_text _ _) (cmpA_cons (iha _) (cmpA_cons (ihb _) cmpA_nil)))
  | either a b iha ihb => intro g; cases g <;> first | exact cmp_tup (cmpA_ne (cmp_text _ _) (ne_text (by decide))) | exact cmp_tup (cmpA_cons (cmp_text _ _) (cmpA_cons (iha _) (cmpA_cons (ihb _) cmpA_nil)))
  | some j a iha => intro g; cases g <;> first | exact cmp_tup (cmpA_ne (cmp_text _ _) (ne_text (by decide))) | exact cmp_tup (cmpA_cons (cmp_text _ _) (cmpA_cons (cmp_num _ _) (cmpA_cons (iha _) cmpA_nil)))
  | all j a iha => intro g; cases g <;> first | exact cmp_tup (cmpA_ne (cmp_text _ _) (ne_text (by decide))) | exact cmp_tup (cmpA_cons (cmp_text _ _) (cmpA_cons (cmp_num _ _) (cmpA_cons (iha _) cmpA_nil)))
  | least j a iha => intro g; cases g <;> first | exact cmp_tup (cmpA_ne (cmp_text _ _) (ne_text (by decide))) | exact cmp_tup (cmpA_cons (cmp_text _ _) (cmpA_cons (cmp_num _ _) (cmpA_cons (iha _) cmpA_nil)))
  | greatest j a iha => intro g; cases g <;> first | exact cmp_tup (cmpA_ne (cmp_text _ _) (ne_text (by decide))) | exact cmp_tup (cmpA_cons (cmp_text _ _) (cmpA_cons (cmp_num _ _) (cmpA_cons (iha _) cmpA_nil)))
  | is j => intro g; cases g <;> first | exact cmp_tup (cmpA_ne (cmp_text _ _) (ne_text (by decide))) | exact cmp_tup (cmpA_cons (cmp_text _ _) (cmpA_cons (cmp_num _ _) cmpA_nil))
  | isnt j => intro g; cases g <;> first | exact cmp_tup (cmpA_ne (cmp_text _ _) (ne_text (by decide))) | exact cmp_tup (cmpA_cons (cmp_text _ _) (cmpA_cons (cmp_num _ _) cmpA_nil))
  | name j => intro g; cases g <;> first | exact cmp_tup (cmpA_ne (cmp_text _ _) (ne_text (by decide))) | exact cmp_tup (cmpA_cons (cmp_text _ _) (cmpA_cons (cmp_num _ _) cmpA_nil))
  | yes => intro g; cases g <;> first | exact cmp_tup (cmpA_ne (cmp_text _ _) (ne_text (by decide))) | exact cmp_tup (cmpA_cons (cmp_text _ _) cmpA_nil)
  | no => intro g; cases g <;> first | exact cmp_tup (cmpA_ne (cmp_text _ _) (ne_text (by decide))) | exact cmp_tup (cmpA_cons (cmp_text _ _) cmpA_nil)
def kS (s : Sp) : NestedKey := .tup [.num (s.1 : Nat), kF s.2]
theorem keyN_kS (s : Sp) : keyN (kS s) = encSp s := by unfold kS encSp; simp only [keyN, keyNs, keyN_kF]
theorem kS_cmp (s t : Sp) : cmpN (kS s) (kS t) = true := cmp_tup (cmpA_cons (cmp_num _ _) (cmpA_cons (kF_cmp _ _) cmpA_nil))
theorem kS_tx (s : Sp) : txN (kS s) = true := by simp [kS, txN, txNs, kF_tx]
theorem kS_depth (s : Sp) : (kS s).depth ≤ s.2.dp + 1 := by
  have := kF_depth s.2
  have : 1 ≤ s.2.dp := by cases s.2 <;> simp [Fm.dp]
  simp only [kS, NestedKey.depth, NestedKey.depthAll]; omega
theorem encSp_inj (s t : Sp) (h : encSp s = encSp t) : s = t := by
  obtain ⟨p, f⟩ := s
  obtain ⟨q, g⟩ := t
  simp only [encSp, D.tup.injEq, List.cons.injEq, D.int.injEq, and_true] at h
  have h1 : p = q := by omega
  rw [h1, enc_inj f g h.2]
theorem encSp_tk {s : Sp} (h : s.2.dp ≤ 7) : tkD (encSp s) = true := by
  have := kS_depth s
  rw [← keyN_kS]
  unfold tkD
  rw [toNK_keyN]
  show decide ((kS s).depth ≤ 8) = true
  exact decide_eq_true (by omega)
theorem kS_inj {s t : Sp} (h : kS s = kS t) : s = t := encSp_inj s t (by rw [← keyN_kS, ← keyN_kS, h])
/-- in the order of sorted -/
def Srt (L : List Sp) : Prop := L.Pairwise fun s t => ltN (kS t) (kS s) = false
theorem srt_uniq : ∀ {L M : List Sp}, (∀ s, s ∈ L ↔ s ∈ M) → L.Nodup → M.Nodup → Srt L → Srt M → L = M
  | [], [], _, _, _, _, _ => rfl
  | [], t :: M, h, _, _, _, _ => absurd ((h t).mpr List.mem_cons_self) (by simp)
  | s :: L, [], h, _, _, _, _ => absurd ((h s).mp List.mem_cons_self) (by simp)
  | s :: L, t :: M, h, n1, n2, s1, s2 => by
    rw [List.nodup_cons] at n1 n2
    have s1' := List.pairwise_cons.mp s1
    have s2' := List.pairwise_cons.mp s2
    have e : s = t := by
      rcases List.mem_cons.mp ((h s).mp List.mem_cons_self) with e | a
      · exact e
      · rcases List.mem_cons.mp ((h t).mpr List.mem_cons_self) with e | b
        · exact e.symm
        · exact kS_inj (ltN_total (kS_cmp s t) (s2'.1 s a) (s1'.1 t b))
    subst e
    rw [srt_uniq (L := L) (M := M) (fun u => ?_) n1.2 n2.2 s1'.2 s2'.2]
    constructor
    · intro hu
      rcases List.mem_cons.mp ((h u).mp (List.mem_cons_of_mem _ hu)) with e | z
      · subst e; exact absurd hu n1.1
      · exact z
    · intro hu
      rcases List.mem_cons.mp ((h u).mpr (List.mem_cons_of_mem _ hu)) with e | z
      · subst e; exact absurd hu n2.1
      · exact z
theorem perm_pull {α β : Type} {g : α → β} {m l : List β} (h : m.Perm l) : ∀ ks : List α, m = ks.map g → ∃ L : List α, l = L.map g ∧ L.Perm ks := by
  induction h with
  | nil =>
    intro ks e
    exact ⟨ks, e, .refl _⟩
  | cons x _ ih =>
    intro ks e
    cases ks with
    | nil => cases e
    | cons a ks =>
      rw [List.map_cons] at e
      injection e with e1 e2
      obtain ⟨L, e3, p⟩ := ih ks e2
      exact ⟨a :: L, by rw [e1, e3]; rfl, p.cons a⟩
  | swap x y l =>
    intro ks e
    match ks, e with
    | a :: b :: ks, e =>
      rw [List.map_cons, List.map_cons] at e
      injection e with e1 e2
      injection e2 with e2 e3
      exact ⟨b :: a :: ks, by rw [e1, e2, e3]; rfl, .swap a b ks⟩
  | trans _ _ ih1 ih2 =>
    intro ks e
    obtain ⟨L1, e1, p1⟩ := ih1 ks e
    obtain ⟨L2, e2, p2⟩ := ih2 L1 e1
    exact ⟨L2, e2, p2.trans p1⟩
section
variable {L0 L1 : Nat} {w : Wd} {f : Fm}
def allSp (w : Wd) (f : Fm) : List Sp := (List.range w.n).flatMap fun p => f.pre.map fun g => (p, g)
theorem allSp_len (w : Wd) (f : Fm) : (allSp w f).length = w.n * f.pre.length := by
  unfold allSp
  rw [List.length_flatMap]
  simp only [List.length_map]
  rw [List.map_const', List.sum_replicate_nat, List.length_range]
theorem mem_allSp {s : Sp} : s ∈ allSp w f ↔ s.1 < w.n ∧ s.2 ∈ f.pre := by
  unfold allSp
  rw [List.mem_flatMap]
  constructor
  · rintro ⟨p, hp, h⟩
    obtain ⟨g, hg, rfl⟩ := List.mem_map.mp h
    exact ⟨List.mem_range.mp hp, hg⟩
  · exact fun h => ⟨s.1, List.mem_range.mpr h.1, List.mem_map.mpr ⟨s.2, h.2, rfl⟩⟩
theorem IsSp.len {L : List Sp} (hw : OkW L0 L1 w) (hf : OkP L0 L1 f) (H : IsSp w f L) : L.length ≤ w.n * f.pre.length := by
  rw [← allSp_len]
  exact subset_len H.nd fun s hs => mem_allSp.mpr (((H.mem s).mp hs).ok hw hf)
theorem spots_spec (hw : OkW L0 L1 w) (hf : OkP L0 L1 f) (hn : w.n ≤ 60) (hd : f.dp ≤ 7) {S : Store} {Q : PD}
    (h : ∀ (S' : Store) (n : Nat) (L : List Sp), Ext S S' → S.length ≤ n → IsSp w f L → Srt L → S'[n]? = some (.lst (L.map encSp)) → Q (.ref n) S') : F_spots_of [encW w, encF f] S Q := by
  have plen : f.pre.length ≤ 128 := by rw [pre_len]; exact sz_le hd
  have nle : w.n * f.pre.length ≤ 7680 := Nat.le_trans (Nat.mul_le_mul hn plen) (by decide)
  refine r_fn rfl ?_
  unfold b_spots_of
  have okd : ∀ {s : Sp}, Rch w f s → tkD (encSp s) = true := fun {s} r => encSp_tk (by have := pre_dp (r.ok hw hf).2; omega)
  walk_at "s"
  refine binders_spec (by omega) hf.nd fun S1 b e1 hb1 b1 => ?_
  walk_at "s"
  refine r_rg (by omega) (by omega) fun few => ?_
  rw [rng_map']
  refine lc_each (List.range w.n) (fun p : Nat => .int (p : Nat)) (fun p : Nat => encSp (p, f)) (by simp only [sizeLine, List.length_range]; omega) (fun _ _ => trivial) (fun p hp S2 P e2 hP => ?_) fun S2 e2 h2 => ?_
  · walk_at "s"
    exact hP S2 (.refl _)
  have e2m : (List.range w.n).map (fun p : Nat => encSp (p, f)) = ((List.range w.n).map fun p => ((p, f) : Sp)).map encSp := by rw [List.map_map]; rfl
  rw [e2m] at h2
  walk_at "s"
  refine r_iLst ?_
  walk_at "s"
  refine .inr ⟨_, _, rfl, h2, fun few2 => ?_⟩
  refine dcN_set encSp_inj ((List.range w.n).map fun p => ((p, f) : Sp)) encSp id (fun _ => true) (by simp only [sizeLine, List.length_map, List.length_range]; omega) (fun S3 e3 => e3 _ _ h2) (fun s hs => ?_) ?_ ?_
  · obtain ⟨p, hp, rfl⟩ := List.mem_map.mp hs
    exact okd (.start (List.mem_range.mp hp))
  · intro s hs S3 R RK e3 hF hT
    walk_at "s"
    exact hT rfl S3 (.refl _)
  intro S3 ks0 e3 h3 nd3 m3
  have m3 : ∀ s, s ∈ ks0 ↔ ∃ p, p < w.n ∧ s = (p, f) := fun s => by
    rw [m3]
    constructor
    · rintro ⟨x, hx, _, rfl⟩
      obtain ⟨p, hp, rfl⟩ := List.mem_map.mp hx
      exact ⟨p, List.mem_range.mp hp, rfl⟩
    · rintro ⟨p, hp, rfl⟩
      exact ⟨_, List.mem_map.mpr ⟨p, List.mem_range.mpr hp, rfl⟩, rfl, rfl⟩
  have hne : S1.length ≠ S2.length := by have := (List.getElem?_eq_some_iff.mp h2).1; omega
  have bl : b < S1.length := (List.getElem?_eq_some_iff.mp b1).1
  have s2l : S1.length < S2.length := (List.getElem?_eq_some_iff.mp h2).1
  have c1 := e3 _ _ (e2 _ _ b1)
  have c2 := e3 _ _ h2
  walk_at "s"
  generalize hwa : S1.length = wa at *
  generalize hfo : S2.length = fo at *
  refine while_inv (fun k σ S' => ∃ (s5 s6 : Option D) (ks ws : List Sp), k = 2 * (w.n * f.pre.length - ks.length) + ws.length ∧ k ≤ 20000 ∧ σ = [some (encW w), some (encF f), some (.ref b), some (.ref wa), some (.ref fo), s5, s6] ∧ ExtB [wa, fo] S3 S' ∧ S'[wa]? = some (.lst (ws.map encSp)) ∧ S'[fo]? = some (.tdc (setG encSp ks)) ∧ ks.Nodup ∧ (∀ s ∈ ks, Rch w f s) ∧ (∀ s ∈ ws, s ∈ ks) ∧ (∀ p, p < w.n → (p, f) ∈ ks) ∧ ∀ s ∈ ks, s ∉ ws → ∀ t ∈ stp w f s, t ∈ ks) _ ⟨_, _, ks0, _, rfl, by rw [List.length_map, List.length_range]; omega, rfl, .refl _ _, c2, h3, nd3, ?_, ?_, ?_, ?_⟩ ?_
  · intro s hs
    obtain ⟨p, hp, rfl⟩ := (m3 s).mp hs
    exact .start hp
  · intro s hs
    obtain ⟨p, hp, rfl⟩ := List.mem_map.mp hs
    exact (m3 _).mpr ⟨p, List.mem_range.mp hp, rfl⟩
  · exact fun p hp => (m3 _).mpr ⟨p, hp, rfl⟩
  · intro s hs no
    obtain ⟨p, hp, rfl⟩ := (m3 s).mp hs
    exact absurd (List.mem_map.mpr ⟨p, List.mem_range.mpr hp, rfl⟩) no
  rintro k σ S4 R ⟨s5, s6, ks, ws, rfl, k20, rfl, e4, d1, d2, nd4, i1, i2, i3, i4⟩ hR
  have few4 : ∀ {ks : List Sp}, ks.Nodup → (∀ s ∈ ks, Rch w f s) → ks.length ≤ w.n * f.pre.length := fun {ks} nd i => by
    rw [← allSp_len]
    exact subset_len nd fun s hs => mem_allSp.mpr ((i s hs).ok hw hf)
  walk_at "s"
  refine r_len (lst_sq d1) ?_
  walk_at "s"
  refine ite_b (fun hb => ?_) fun hb => ?_
  · have hb : ws ≠ [] := fun e => by subst e; simp at hb
    obtain ⟨ws', s, rfl⟩ : ∃ ws' s, ws = ws' ++ [s] := ⟨ws.dropLast, ws.getLast hb, (List.dropLast_concat_getLast hb).symm⟩
    have sk : s ∈ ks := i2 s (by simp)
    have sr := i1 s sk
    rw [List.map_append, List.map_singleton] at d1
    walk_at "s"
    refine r_iLst ?_
    walk_at "s"
    refine r_tyL d1 ?_
    walk_at "s"
    refine r_pop d1 fun S5 q5 o5 => ?_
    have e5 : ExtB [wa, fo] S3 S5 := e4.trans (o5.b (by simp))
    have d25 := o5.ne (by omega) d2
    walk_at "s"
    refine steps_spec hw hf (by omega) (sr.ok hw hf).1 (sr.ok hw hf).2 (e5.2 b (by simp; omega) _ c1) fun S6 n6 e6 hn6 h6 => ?_
    refine .inr ⟨n6, _, rfl, h6, ?_⟩
    have s3l : S3.length ≤ S5.length := e5.1
    have fol : fo < S3.length := (List.getElem?_eq_some_iff.mp h3).1
    have d16 := e6 _ _ q5
    have d26 := e6 _ _ d25
    refine for_inv (fun i σ S' => ∃ (s5 s6 : Option D) (ks' ws'' : List Sp), 2 * (w.n * f.pre.length - ks'.length) + ws''.length ≤ 2 * (w.n * f.pre.length - ks.length) + ws'.length ∧ σ = [some (encW w), some (encF f), some (.ref b), some (.ref wa), some (.ref fo), s5, s6] ∧ ExtB [wa, fo] S6 S' ∧ S'[wa]? = some (.lst (ws''.map encSp)) ∧ S'[fo]? = some (.tdc (setG encSp ks')) ∧ ks'.Nodup ∧ (∀ s ∈ ks', Rch w f s) ∧ (∀ s ∈ ws'', s ∈ ks') ∧ (∀ s ∈ ks, s ∈ ks') ∧ (∀ s ∈ ws', s ∈ ws'') ∧ (∀ s ∈ ks', s ∉ ks → s ∈ ws'') ∧ ∀ t ∈ (stp w f s).take i, t ∈ ks') ⟨_, _, ks, ws', Nat.le_refl _, rfl, .refl _ _, d16, d26, nd4, i1, fun t ht => i2 t (by simp [ht]), fun _ h => h, fun _ h => h, fun t h1 h2 => absurd h1 h2, fun t ht => by simp at ht⟩ ?_ ?_
    · rintro i x σ S7 R7 hx ⟨s5, s6, ks', ws'', sz, rfl, e7, g1, g2, nd7, j1, j2, j3, j4, j5, j6⟩ hR7
      refine ⟨e7.2 n6 (by simp; omega) _ h6, ?_⟩
      rw [List.getElem?_map] at hx
      cases hq : (stp w f s)[i]? with
      | none => rw [hq] at hx; cases hx
      | some t =>
        rw [hq] at hx
        cases hx
        have tm := List.mem_of_getElem? hq
        have tk : (stp w f s).take (i + 1) = (stp w f s).take i ++ [t] := by rw [List.take_add_one, hq]; rfl
        have tr : Rch w f t := .step sr tm
        walk_at "s"
        refine r_inDT (tdD_at g2) (okd tr) ?_
        rw [setG_val encSp_inj, Bool.xor_true]
        walk_at "s"
        refine ite_b (fun hb => ?_) fun hb => ?_
        · have hb : t ∉ ks' := by simpa using hb
          have ndn : (ks' ++ [t]).Nodup := by
            rw [List.nodup_append]
            exact ⟨nd7, by simp, fun a ha c hc => by rw [List.mem_singleton] at hc; rintro rfl; subst hc; exact hb ha⟩
          have rn : ∀ s ∈ ks' ++ [t], Rch w f s := fun u hu => by
            rcases List.mem_append.mp hu with z | z
            · exact j1 u z
            · rw [List.mem_singleton] at z; rw [z]; exact tr
          have l1 := few4 ndn rn
          rw [List.length_append, List.length_singleton] at l1
          walk_at "s"
          refine r_setT g2 (okd tr) (by rw [setG_length]; simp only [sizeLine]; omega) fun S8 q8 o8 => ?_
          rw [setG_put encSp_inj, insG, if_neg hb] at q8
          have g18 := o8.ne (by omega) g1
          have l2 : ws''.length ≤ 100000 := by rw [List.length_append, List.length_singleton] at k20; omega
          walk_at "s"
          refine r_tyL g18 ?_
          walk_at "s"
          refine r_app g18 (by rw [List.length_map]; simp only [sizeLine]; omega) fun S9 q9 o9 => ?_
          have q89 := o9.ne (by omega) q8
          refine hR7 _ _ ⟨_, _, ks' ++ [t], ws'' ++ [t], ?_, rfl, (e7.trans (o8.b (by simp))).trans (o9.b (by simp)), ?_, q89, ndn, rn, ?_, ?_, ?_, ?_, ?_⟩
          · rw [List.length_append, List.length_append, List.length_singleton]
            omega
          · rw [q9, List.map_append]; rfl
          · intro u hu
            rcases List.mem_append.mp hu with z | z
            · exact List.mem_append.mpr (.inl (j2 u z))
            · exact List.mem_append.mpr (.inr z)
          · exact fun u hu => List.mem_append.mpr (.inl (j3 u hu))
          · exact fun u hu => List.mem_append.mpr (.inl (j4 u hu))
          · intro u hu no
            rcases List.mem_append.mp hu with z | z
            · exact List.mem_append.mpr (.inl (j5 u z no))
            · exact List.mem_append.mpr (.inr z)
          · intro u hu
            rw [tk] at hu
            rcases List.mem_append.mp hu with z | z
            · exact List.mem_append.mpr (.inl (j6 u z))
            · exact List.mem_append.mpr (.inr z)
        · have hb : t ∈ ks' := by simpa using hb
          walk_at "s"
          refine hR7 _ _ ⟨_, _, ks', ws'', sz, rfl, e7, g1, g2, nd7, j1, j2, j3, j4, j5, fun u hu => ?_⟩
          rw [tk] at hu
          rcases List.mem_append.mp hu with z | z
          · exact j6 u z
          · rw [List.mem_singleton] at z; rw [z]; exact hb
    · rintro σ S7 ⟨s5, s6, ks', ws'', sz, rfl, e7, g1, g2, nd7, j1, j2, j3, j4, j5, j6⟩
      rw [List.length_map, List.take_length] at j6
      refine ⟨e7.2 n6 (by simp; omega) _ h6, ?_⟩
      refine hR _ _ _ ?_ ⟨_, _, ks', ws'', rfl, by rw [List.length_append, List.length_singleton] at k20; omega, rfl, (e5.trans (e6.b _)).trans e7, g1, g2, nd7, j1, j2, fun p hp => j3 _ (i3 p hp), fun u hu no t ht => ?_⟩
      · rw [List.length_append, List.length_singleton]; omega
      · by_cases uk : u ∈ ks
        · by_cases us : u = s
          · subst us; exact j6 t ht
          · refine j3 t (i4 u uk (fun z => ?_) t ht)
            rcases List.mem_append.mp z with z | z
            · exact no (j4 u z)
            · exact us (List.mem_singleton.mp z)
        · exact absurd (j5 u hu uk) no
  · have hb : ws = [] := by
      cases ws with
      | nil => rfl
      | cons w ws =>
        have := of_decide_eq_false hb
        simp at this <;> omega
    subst hb
    have lk := few4 nd4 i1
    walk_at "s"
    refine r_listT (tdD_at d2) ?_
    rw [setG_keys]
    have ek : ks.map encSp = (ks.map kS).map keyN := by rw [List.map_map]; exact List.map_congr_left fun s _ => (keyN_kS s).symm
    walk_at "s"
    refine ⟨_, ks.map kS, rfl, by rw [new_at, ek], fun q hq => ?_, fun a ha c hc => ?_, ⟨.type "int", fun q hq => ?_⟩, fun ks' pm sr => ?_⟩
    · obtain ⟨s, hs, rfl⟩ := List.mem_map.mp hq
      have := kS_depth s
      have := pre_dp ((i1 s hs).ok hw hf).2
      exact ⟨kS_tx s, by omega⟩
    · obtain ⟨s, _, rfl⟩ := List.mem_map.mp ha
      obtain ⟨t, _, rfl⟩ := List.mem_map.mp hc
      exact kS_cmp s t
    · obtain ⟨s, hs, rfl⟩ := List.mem_map.mp hq
      exact ⟨_, _, rfl, rfl⟩
    · obtain ⟨L, rfl, pL⟩ := perm_pull pm.symm ks rfl
      have H : IsSp w f L := by
        refine ⟨pL.nodup_iff.mpr nd4, fun s => ?_⟩
        rw [pL.mem_iff]
        refine ⟨i1 s, fun r => ?_⟩
        induction r with
        | start hp => exact i3 _ hp
        | step _ ht ih => exact i4 _ ih (by simp) _ ht
      have eL : (L.map kS).map keyN = L.map encSp := by rw [List.map_map]; exact List.map_congr_left fun s _ => keyN_kS s
      rw [eL]
      refine h _ _ L ?_ ?_ H (List.pairwise_map.mp sr) (new_at _ _)
      · refine Ext.trans (fun j c hc => ?_) ((Ext.app S4 _).trans (Ext.app _ _))
        have : j < S.length := (List.getElem?_eq_some_iff.mp hc).1
        have := e1.le
        exact e4.2 j (by simp; omega) c (e3 _ _ (e2 _ _ (e1 _ _ hc)))
      · have := e1.le; have := e2.le; have := e3.le; have := e4.1
        simp; omega
end
end PG
/-! SPm: game_of (printed by gk_spm.py). -/
namespace PG
open PySem L2 SD SO
section
variable {L0 L1 : Nat} {w : Wd} {f : Fm}
theorem lvs_at (hf : OkP L0 L1 f) {x : Nat} (hx : Fm.name x ∈ f.pre) : valD (lvs (f.pre.reverse.filterMap bdx)) (.int (x : Nat)) = some (.int (mx (bdF f x) : Nat)) := by
  obtain ⟨B, c, hB, e⟩ := hf.bound hx
  unfold lvs
  rw [natD_val, bdF_is hf.nd hB e, look_of (a := B) ?_ ?_]
  · rfl
  · rw [List.filterMap_reverse, List.map_reverse, List.nodup_iff_pairwise_ne, List.pairwise_reverse]
    exact (List.nodup_iff_pairwise_ne.mp (bds_nd hf.nd)).imp Ne.symm
  · exact List.mem_filterMap.mpr ⟨B, List.mem_reverse.mpr hB, by unfold bdx; rw [e]; rfl⟩
set_option maxHeartbeats 8000000 in
theorem game_spec (hw : OkW L0 L1 w) (hf : OkP L0 L1 f) (hn : w.n ≤ 60) (hd : f.dp ≤ 7) {S : Store} {Q : PD}
    (h : ∀ (S' : Store) (L : List Sp), Ext S S' → IsSp w f L → Srt L → Q (encG (gameOf w f L)) S') : F_game_of [encW w, encF f] S Q := by
  have plen : f.pre.length ≤ 128 := by rw [pre_len]; exact sz_le hd
  have nle : w.n * f.pre.length ≤ 7680 := Nat.le_trans (Nat.mul_le_mul hn plen) (by decide)
  refine r_fn rfl ?_
  unfold b_game_of
  walk_at "s"
  refine spots_spec hw hf hn hd fun S1 n1 L e1 hn1 H srt h1 => ?_
  have ll := H.len hw hf
  have okr : ∀ {s : Sp}, s ∈ L → s.1 < w.n ∧ s.2 ∈ f.pre := fun {s} hs => ((H.mem s).mp hs).ok hw hf
  have okd : ∀ {s : Sp}, s ∈ L → tkD (encSp s) = true := fun {s} r => encSp_tk (by have := pre_dp (okr r).2; omega)
  walk_at "s"
  refine r_len (lst_sq h1) ?_
  rw [List.length_map]
  walk_at "s"
  refine r_rg (by omega) (by omega) fun few => ?_
  rw [rng_map']
  refine dcN_inv (fun i acc S2 => Ext S1 S2 ∧ ∀ s ∈ L.take i, valD acc (encSp s) = some (.int (L.idxOf s : Nat))) (by rw [List.length_map, List.length_range]; simp only [sizeLine]; omega) (new_at S1 _) ⟨Ext.app S1 _, fun s hs => by simp at hs⟩ ?_ ?_
  · rintro i x acc S2 R hx h2 hl ⟨e2, hv⟩ hR
    rw [List.getElem?_map] at hx
    cases hq : (List.range L.length)[i]? with
    | none => rw [hq] at hx; cases hx
    | some q =>
      rw [hq] at hx
      cases hx
      have hi : i < L.length := by have := (List.getElem?_eq_some_iff.mp hq).1; simpa using this
      have : q = i := by rw [List.getElem?_range hi] at hq; cases hq; rfl
      subst this
      have hs : L[q]? = some L[q] := List.getElem?_eq_getElem hi
      have ms := List.getElem_mem hi
      have tk : L.take (q + 1) = L.take q ++ [L[q]] := by rw [List.take_add_one, hs]; rfl
      refine ⟨trivial, ?_⟩
      walk_at "s"
      refine r_ixL (e2 _ _ h1) (v := encSp L[q]) (by rw [atI_n, List.getElem?_map, hs]; rfl) ?_
      walk_at "s"
      refine ⟨_, okd ms, h2, by simp only [sizeLine]; omega, ?_⟩
      refine hR _ _ (set_at h2) ?_ ⟨e2.put (Nat.le_refl _), fun s hs2 => ?_⟩
      · unfold putD
        split
        · rw [List.length_map]; omega
        · rw [List.length_append, List.length_singleton]; omega
      · rw [tk] at hs2
        by_cases z : s = L[q]
        · rw [z, putD_self, H.nd.idxOf_getElem q hi]
        · rw [putD_ne _ _ fun e => z (encSp_inj _ _ e)]
          rcases List.mem_append.mp hs2 with a | a
          · exact hv s a
          · exact absurd (List.mem_singleton.mp a) z
  rintro acc S2 h2 hl ⟨e2, hv⟩
  rw [List.length_map, List.length_range, List.take_length] at hv
  refine ⟨trivial, ?_⟩
  walk_at "s"
  refine r_par ?_
  walk_at "s"
  refine binders_spec (by omega) hf.nd fun S3 b e3 hb3 h3 => ?_
  walk_at "s"
  refine levels_spec (by omega) hf.nd fun S4 lr e4 hl4 h4 => ?_
  walk_at "s"
  refine ⟨_, _, rfl, ?_⟩
  walk_at "s"
  refine r_iLst ?_
  walk_at "s"
  have f1 : (S4 ++ [Cell.lst []])[n1]? = some (.lst (L.map encSp)) := Ext.app _ _ _ _ (e4 _ _ (e3 _ _ (e2 _ _ h1)))
  have f2 : (S4 ++ [Cell.lst []])[S1.length]? = some (.tdc acc) := Ext.app _ _ _ _ (e4 _ _ (e3 _ _ h2))
  have f3 : (S4 ++ [Cell.lst []])[b]? = some (.dct (natD encF (bds f))) := Ext.app _ _ _ _ (e4 _ _ h3)
  have f4 : (S4 ++ [Cell.lst []])[lr]? = some (.dct (lvs (f.pre.reverse.filterMap bdx))) := Ext.app _ _ _ _ h4
  have f5 : (S4 ++ [Cell.lst []])[S4.length]? = some (.lst []) := new_at S4 _
  have g1 : n1 < S4.length := by have := (List.getElem?_eq_some_iff.mp (e4 _ _ (e3 _ _ (e2 _ _ h1)))).1; exact this
  have g2 : S1.length < S4.length := (List.getElem?_eq_some_iff.mp (e4 _ _ (e3 _ _ h2))).1
  have g3 : b < S4.length := (List.getElem?_eq_some_iff.mp (e4 _ _ h3)).1
  have g4 : lr < S4.length := (List.getElem?_eq_some_iff.mp h4).1
  have eS : Ext S (S4 ++ [Cell.lst []]) := (((e1.trans e2).trans e3).trans e4).trans (Ext.app _ _)
  generalize S4 ++ [Cell.lst []] = B at f1 f2 f3 f4 f5 eS ⊢
  refine .inr ⟨_, _, rfl, f1, ?_⟩
  refine for_inv (fun i σ S' => ∃ s7 s8 s9 : Option D, σ = [some (encW w), some (encF f), some (.ref n1), some (.ref S1.length), some (.ref b), some (.ref lr), some (.ref S4.length), s7, s8, s9, none, none] ∧ ExtB [S4.length] B S' ∧ S'[S4.length]? = some (.lst ((L.take i).map fun s => encS (sptOf w f L s)))) ⟨_, _, _, rfl, .refl _ _, f5⟩ ?_ ?_
  · rintro i x σ S5 R hx ⟨s7, s8, s9, rfl, e5, q5⟩ hR
    rw [List.getElem?_map] at hx
    cases hq : L[i]? with
    | none => rw [hq] at hx; cases hx
    | some s =>
      rw [hq] at hx
      cases hx
      have hs := List.mem_of_getElem? hq
      have hi : i < L.length := (List.getElem?_eq_some_iff.mp hq).1
      have tk : L.take (i + 1) = L.take i ++ [s] := by rw [List.take_add_one, hq]; rfl
      have j1 := e5.2 n1 (by simp; omega) _ f1
      have j2 := e5.2 S1.length (by simp; omega) _ f2
      have j3 := e5.2 b (by simp; omega) _ f3
      have j4 := e5.2 lr (by simp; omega) _ f4
      refine ⟨j1, ?_⟩
      walk_at "s"
      refine r_iLst ?_
      walk_at "s"
      refine steps_spec hw hf (by omega) (okr hs).1 (okr hs).2 j3 fun S6 n6 e6 hn6 h6 => ?_
      refine .inr ⟨n6, _, rfl, h6, fun few6 => ?_⟩
      rw [List.length_map] at few6
      refine lc_each (stp w f s) encSp (fun t => .int (L.idxOf t : Nat)) few6 (fun S7 e7 => e7 _ _ h6) (fun t ht S7 P e7 hP => ?_) fun S7 e7 h7 => ?_
      · have tL := H.step hs ht
        walk_at "s"
        refine r_ixDT (tdD_at (e7 _ _ (e6 _ _ j2))) (okd tL) (hv t tL) ?_
        exact hP S7 (.refl _)
      have x7 := e6.trans e7
      have k2 := x7 _ _ j2
      have k4 := x7 _ _ j4
      have k5 := x7 _ _ q5
      have fin : ∀ (σ : Slots) (S9 : Store) (o lv : Int) (gs : List Nat), o = ((ownF s.2 : Nat) : Int) → (∃ s7 s8 s9 : Option D, σ = [some (encW w), some (encF f), some (.ref n1), some (.ref S1.length), some (.ref b), some (.ref lr), some (.ref S4.length), s7, s8, s9, none, none]) → Ext S7 S9 → sptOf w f L s = ⟨ownF s.2, lv.toNat, gs⟩ → 0 ≤ lv →
          appF (.ref S4.length) [.tup [.int o, .int lv, .tup (gs.map fun k : Nat => .int (k : Nat))]] S9 fun _ S' => R σ S' := by
        rintro σ S9 o lv gs eo ⟨s7, s8, s9, es⟩ e9 ep hl
        refine r_app (e9 _ _ k5) (by rw [List.length_map, List.length_take]; simp only [sizeLine]; omega) fun S10 q10 o10 => ?_
        refine hR _ _ ⟨s7, s8, s9, es, (e5.trans ((x7.trans e9).b _)).trans (o10.b (by simp)), ?_⟩
        rw [q10, tk, List.map_append, eo]
        show _ = some (Cell.lst (_ ++ [encS (sptOf w f L s)]))
        rw [ep]
        have : ((lv.toNat : Nat) : Int) = lv := Int.toNat_of_nonneg hl
        simp only [encS, encP, this]
      have es7 : (stp w f s).map (fun t => D.int (L.idxOf t : Nat)) = ((stp w f s).map L.idxOf).map fun k : Nat => D.int (k : Nat) := by rw [List.map_map]; rfl
      rw [es7] at h7
      have okrs := okr hs
      have sp1 : stp w f s ≠ [] → sptOf w f L s = ⟨ownF s.2, levF f s.2, (stp w f s).map L.idxOf⟩ := fun e => if_neg e
      have sp2 : stp w f s = [] → sptOf w f L s = ⟨ownF s.2, if endW w s = true then 2 else 1, [L.idxOf s]⟩ := fun e => if_pos e
      have hvs := hv s hs
      have okds := okd hs
      obtain ⟨p, g⟩ := s
      simp only at okrs fin sp1 sp2
      have eSp : encSp (p, g) = .tup [.int (p : Nat), encF g] := rfl
      cases g with
      | yes =>
        rw [eSp]
        walk_at "s"
        refine r_len (lst_sq h7) ?_
        walk_at "s"
        have hb : stp w f (p, .yes) = [] := rfl
        refine r_par ?_
        walk_at "s"
        refine r_ixDT (tdD_at k2) okds hvs ?_
        walk_at "s"
        refine end_spec hw hf (s := (p, _)) okrs.2 ?_
        generalize he : endW w (p, .yes) = eb
        cases eb
        rotate_left
        · walk_at "s"
          refine ⟨_, _, rfl, ?_⟩
          walk_at "s"
          refine r_tyL (Ext.app _ _ _ _ k5) ?_
          walk_at "s"
          refine r_tuple (lst_sq (new_at _ _)) ?_
          walk_at "s"
          exact fin _ _ _ _ [L.idxOf (p, _)] rfl ⟨_, _, _, rfl⟩ (Ext.app _ _) (by rw [sp2 hb, if_pos he]; rfl) (by decide)
        · walk_at "s"
          refine ⟨_, _, rfl, ?_⟩
          walk_at "s"
          refine r_tyL (Ext.app _ _ _ _ k5) ?_
          walk_at "s"
          refine r_tuple (lst_sq (new_at _ _)) ?_
          walk_at "s"
          exact fin _ _ _ _ [L.idxOf (p, _)] rfl ⟨_, _, _, rfl⟩ (Ext.app _ _) (by rw [sp2 hb, if_neg (by rw [he]; decide)]; rfl) (by decide)
      | no =>
        rw [eSp]
        walk_at "s"
        refine r_len (lst_sq h7) ?_
        walk_at "s"
        have hb : stp w f (p, .no) = [] := rfl
        refine r_par ?_
        walk_at "s"
        refine r_ixDT (tdD_at k2) okds hvs ?_
        walk_at "s"
        refine end_spec hw hf (s := (p, _)) okrs.2 ?_
        generalize he : endW w (p, .no) = eb
        cases eb
        rotate_left
        · walk_at "s"
          refine ⟨_, _, rfl, ?_⟩
          walk_at "s"
          refine r_tyL (Ext.app _ _ _ _ k5) ?_
          walk_at "s"
          refine r_tuple (lst_sq (new_at _ _)) ?_
          walk_at "s"
          exact fin _ _ _ _ [L.idxOf (p, _)] rfl ⟨_, _, _, rfl⟩ (Ext.app _ _) (by rw [sp2 hb, if_pos he]; rfl) (by decide)
        · walk_at "s"
          refine ⟨_, _, rfl, ?_⟩
          walk_at "s"
          refine r_tyL (Ext.app _ _ _ _ k5) ?_
          walk_at "s"
          refine r_tuple (lst_sq (new_at _ _)) ?_
          walk_at "s"
          exact fin _ _ _ _ [L.idxOf (p, _)] rfl ⟨_, _, _, rfl⟩ (Ext.app _ _) (by rw [sp2 hb, if_neg (by rw [he]; decide)]; rfl) (by decide)
      | is j =>
        rw [eSp]
        walk_at "s"
        refine r_len (lst_sq h7) ?_
        walk_at "s"
        have hb : stp w f (p, .is j) = [] := rfl
        refine r_par ?_
        walk_at "s"
        refine r_ixDT (tdD_at k2) okds hvs ?_
        walk_at "s"
        refine end_spec hw hf (s := (p, _)) okrs.2 ?_
        generalize he : endW w (p, .is j) = eb
        cases eb
        rotate_left
        · walk_at "s"
          refine ⟨_, _, rfl, ?_⟩
          walk_at "s"
          refine r_tyL (Ext.app _ _ _ _ k5) ?_
          walk_at "s"
          refine r_tuple (lst_sq (new_at _ _)) ?_
          walk_at "s"
          exact fin _ _ _ _ [L.idxOf (p, _)] rfl ⟨_, _, _, rfl⟩ (Ext.app _ _) (by rw [sp2 hb, if_pos he]; rfl) (by decide)
        · walk_at "s"
          refine ⟨_, _, rfl, ?_⟩
          walk_at "s"
          refine r_tyL (Ext.app _ _ _ _ k5) ?_
          walk_at "s"
          refine r_tuple (lst_sq (new_at _ _)) ?_
          walk_at "s"
          exact fin _ _ _ _ [L.idxOf (p, _)] rfl ⟨_, _, _, rfl⟩ (Ext.app _ _) (by rw [sp2 hb, if_neg (by rw [he]; decide)]; rfl) (by decide)
      | isnt j =>
        rw [eSp]
        walk_at "s"
        refine r_len (lst_sq h7) ?_
        walk_at "s"
        have hb : stp w f (p, .isnt j) = [] := rfl
        refine r_par ?_
        walk_at "s"
        refine r_ixDT (tdD_at k2) okds hvs ?_
        walk_at "s"
        refine end_spec hw hf (s := (p, _)) okrs.2 ?_
        generalize he : endW w (p, .isnt j) = eb
        cases eb
        rotate_left
        · walk_at "s"
          refine ⟨_, _, rfl, ?_⟩
          walk_at "s"
          refine r_tyL (Ext.app _ _ _ _ k5) ?_
          walk_at "s"
          refine r_tuple (lst_sq (new_at _ _)) ?_
          walk_at "s"
          exact fin _ _ _ _ [L.idxOf (p, _)] rfl ⟨_, _, _, rfl⟩ (Ext.app _ _) (by rw [sp2 hb, if_pos he]; rfl) (by decide)
        · walk_at "s"
          refine ⟨_, _, rfl, ?_⟩
          walk_at "s"
          refine r_tyL (Ext.app _ _ _ _ k5) ?_
          walk_at "s"
          refine r_tuple (lst_sq (new_at _ _)) ?_
          walk_at "s"
          exact fin _ _ _ _ [L.idxOf (p, _)] rfl ⟨_, _, _, rfl⟩ (Ext.app _ _) (by rw [sp2 hb, if_neg (by rw [he]; decide)]; rfl) (by decide)
      | name x =>
        rw [eSp]
        walk_at "s"
        refine r_ixD (dct_at k4) rfl (lvs_at hf okrs.2) ?_
        walk_at "s"
        refine r_len (lst_sq h7) ?_
        walk_at "s"
        have hb : stp w f (p, .name x) ≠ [] := by simp [stp]
        refine r_tyL k5 ?_
        walk_at "s"
        refine r_tuple (lst_sq h7) ?_
        walk_at "s"
        exact fin _ _ _ _ _ rfl ⟨_, _, _, rfl⟩ (.refl _) (by rw [sp1 hb]; rfl) (by first | decide | exact Int.natCast_nonneg _)
      | both a c =>
        rw [eSp]
        walk_at "s"
        refine r_len (lst_sq h7) ?_
        walk_at "s"
        have hb : stp w f (p, .both a c) ≠ [] := by simp [stp]
        refine r_tyL k5 ?_
        walk_at "s"
        refine r_tuple (lst_sq h7) ?_
        walk_at "s"
        exact fin _ _ _ _ _ rfl ⟨_, _, _, rfl⟩ (.refl _) (by rw [sp1 hb]; rfl) (by first | decide | exact Int.natCast_nonneg _)
      | either a c =>
        rw [eSp]
        walk_at "s"
        refine r_len (lst_sq h7) ?_
        walk_at "s"
        have hb : stp w f (p, .either a c) ≠ [] := by simp [stp]
        refine r_tyL k5 ?_
        walk_at "s"
        refine r_tuple (lst_sq h7) ?_
        walk_at "s"
        exact fin _ _ _ _ _ rfl ⟨_, _, _, rfl⟩ (.refl _) (by rw [sp1 hb]; rfl) (by first | decide | exact Int.natCast_nonneg _)
      | some j a =>
        rw [eSp]
        walk_at "s"
        refine r_len (lst_sq h7) ?_
        walk_at "s"
        refine ite_b (fun hb => ?_) fun hb => ?_
        · have hb : stp w f (p, .some j a) = [] := by
            have hb := of_decide_eq_true hb
            simp only [List.length_map] at hb
            exact List.eq_nil_of_length_eq_zero (by omega)
          walk_at "s"
          refine r_par ?_
          walk_at "s"
          refine r_ixDT (tdD_at k2) okds hvs ?_
          walk_at "s"
          refine end_spec hw hf (s := (p, _)) okrs.2 ?_
          generalize he : endW w (p, .some j a) = eb
          cases eb
          rotate_left
          · walk_at "s"
            refine ⟨_, _, rfl, ?_⟩
            walk_at "s"
            refine r_tyL (Ext.app _ _ _ _ k5) ?_
            walk_at "s"
            refine r_tuple (lst_sq (new_at _ _)) ?_
            walk_at "s"
            exact fin _ _ _ _ [L.idxOf (p, _)] rfl ⟨_, _, _, rfl⟩ (Ext.app _ _) (by rw [sp2 hb, if_pos he]; rfl) (by decide)
          · walk_at "s"
            refine ⟨_, _, rfl, ?_⟩
            walk_at "s"
            refine r_tyL (Ext.app _ _ _ _ k5) ?_
            walk_at "s"
            refine r_tuple (lst_sq (new_at _ _)) ?_
            walk_at "s"
            exact fin _ _ _ _ [L.idxOf (p, _)] rfl ⟨_, _, _, rfl⟩ (Ext.app _ _) (by rw [sp2 hb, if_neg (by rw [he]; decide)]; rfl) (by decide)
        · have hb : stp w f (p, .some j a) ≠ [] := fun e => by
            have hb := of_decide_eq_false hb
            simp only [List.length_map, e] at hb
            exact hb rfl
          walk_at "s"
          refine r_tyL k5 ?_
          walk_at "s"
          refine r_tuple (lst_sq h7) ?_
          walk_at "s"
          exact fin _ _ _ _ _ rfl ⟨_, _, _, rfl⟩ (.refl _) (by rw [sp1 hb]; rfl) (by first | decide | exact Int.natCast_nonneg _)
      | all j a =>
        rw [eSp]
        walk_at "s"
        refine r_len (lst_sq h7) ?_
        walk_at "s"
        refine ite_b (fun hb => ?_) fun hb => ?_
        · have hb : stp w f (p, .all j a) = [] := by
            have hb := of_decide_eq_true hb
            simp only [List.length_map] at hb
            exact List.eq_nil_of_length_eq_zero (by omega)
          walk_at "s"
          refine r_par ?_
          walk_at "s"
          refine r_ixDT (tdD_at k2) okds hvs ?_
          walk_at "s"
          refine end_spec hw hf (s := (p, _)) okrs.2 ?_
          generalize he : endW w (p, .all j a) = eb
          cases eb
          rotate_left
          · walk_at "s"
            refine ⟨_, _, rfl, ?_⟩
            walk_at "s"
            refine r_tyL (Ext.app _ _ _ _ k5) ?_
            walk_at "s"
            refine r_tuple (lst_sq (new_at _ _)) ?_
            walk_at "s"
            exact fin _ _ _ _ [L.idxOf (p, _)] rfl ⟨_, _, _, rfl⟩ (Ext.app _ _) (by rw [sp2 hb, if_pos he]; rfl) (by decide)
          · walk_at "s"
            refine ⟨_, _, rfl, ?_⟩
            walk_at "s"
            refine r_tyL (Ext.app _ _ _ _ k5) ?_
            walk_at "s"
            refine r_tuple (lst_sq (new_at _ _)) ?_
            walk_at "s"
            exact fin _ _ _ _ [L.idxOf (p, _)] rfl ⟨_, _, _, rfl⟩ (Ext.app _ _) (by rw [sp2 hb, if_neg (by rw [he]; decide)]; rfl) (by decide)
        · have hb : stp w f (p, .all j a) ≠ [] := fun e => by
            have hb := of_decide_eq_false hb
            simp only [List.length_map, e] at hb
            exact hb rfl
          walk_at "s"
          refine r_tyL k5 ?_
          walk_at "s"
          refine r_tuple (lst_sq h7) ?_
          walk_at "s"
          exact fin _ _ _ _ _ rfl ⟨_, _, _, rfl⟩ (.refl _) (by rw [sp1 hb]; rfl) (by first | decide | exact Int.natCast_nonneg _)
      | least x a =>
        rw [eSp]
        walk_at "s"
        refine r_len (lst_sq h7) ?_
        walk_at "s"
        have hb : stp w f (p, .least x a) ≠ [] := by simp [stp]
        refine r_tyL k5 ?_
        walk_at "s"
        refine r_tuple (lst_sq h7) ?_
        walk_at "s"
        exact fin _ _ _ _ _ rfl ⟨_, _, _, rfl⟩ (.refl _) (by rw [sp1 hb]; rfl) (by first | decide | exact Int.natCast_nonneg _)
      | greatest x a =>
        rw [eSp]
        walk_at "s"
        refine r_len (lst_sq h7) ?_
        walk_at "s"
        have hb : stp w f (p, .greatest x a) ≠ [] := by simp [stp]
        refine r_tyL k5 ?_
        walk_at "s"
        refine r_tuple (lst_sq h7) ?_
        walk_at "s"
        exact fin _ _ _ _ _ rfl ⟨_, _, _, rfl⟩ (.refl _) (by rw [sp1 hb]; rfl) (by first | decide | exact Int.natCast_nonneg _)
  · rintro σ S5 ⟨s7, s8, s9, rfl, e5, q5⟩
    rw [List.length_map, List.take_length] at q5
    refine ⟨e5.2 n1 (by simp; omega) _ f1, ?_⟩
    walk_at "s"
    refine r_tuple (lst_sq q5) ?_
    have : encG (gameOf w f L) = .tup (L.map fun s => encS (sptOf w f L s)) := by unfold encG gameOf; rw [List.map_map]; rfl
    rw [← this]
    refine h S5 L (fun j c hc => ?_) H srt
    have : j < S.length := (List.getElem?_eq_some_iff.mp hc).1
    have := e1.le; have := e2.le; have := e3.le; have := e4.le
    exact e5.2 j (by simp; omega) c (eS _ _ hc)
end
end PG
/-! SPn: come_to. -/
namespace PG
open PySem L2 SD SO
section
variable {G : List Spt} {o mv s0 : Nat} {ms : List (Nat × Nat)} {W : Nat → Prop}
theorem come_spec (hG : OkG G) (hW : ∀ k, W k → k < G.length) (mine : ∀ k, W k → ow G k = o → ∃ g, getM ms k = some g ∧ g ∈ gl G k ∧ W g) (other : ∀ k, W k → ow G k ≠ o → ∀ g, g ∈ gl G k → W g) (hs : W s0) {S : Store} {Q : PD}
    (hm : S[mv]? = some (.dct (mapM ms))) (h : ∀ (S' : Store) (n : Nat) (ks : List Nat), Ext S S' → S.length ≤ n → S'[n]? = some (.dct (setD ks)) → ks.Nodup → (∀ k ∈ ks, W k) → Q (.ref n) S') : F_come_to [encG G, .int (o : Nat), .ref mv, .int (s0 : Nat)] S Q := by
  have hz := hG.size
  have ml : mv < S.length := (List.getElem?_eq_some_iff.mp hm).1
  refine r_fn rfl ?_
  unfold b_come_to
  have few : ∀ {ks : List Nat}, ks.Nodup → (∀ k ∈ ks, W k) → ks.length ≤ G.length := fun {ks} nd i => by
    have := subset_len (ls := List.range G.length) nd fun k hk => List.mem_range.mpr (hW k (i k hk))
    simpa using this
  walk_at "n"
  refine r_seq ?_
  refine r_asg ?_
  simp only [eDispD, dispD]
  walk_at "s"
  refine ⟨new_at S _, by simp, fun p hp => by rw [List.mem_singleton] at hp; subst hp; rfl, ?_⟩
  have e1 : Ext S ((S ++ [Cell.dct []]).set S.length (.dct (setD [s0]))) := (Ext.app S _).put (Nat.le_refl _)
  have c1 : ((S ++ [Cell.dct []]).set S.length (.dct (setD [s0])))[S.length]? = some (.dct (setD [s0])) := set_at (new_at S _)
  have l1 : ((S ++ [Cell.dct []]).set S.length (.dct (setD [s0]))).length = S.length + 1 := by simp
  change sSeq _ _ _ _ ((S ++ [Cell.dct []]).set S.length (.dct (setD [s0])))
  generalize (S ++ [Cell.dct []]).set S.length (.dct (setD [s0])) = S1 at e1 c1 l1 ⊢
  walk_at "s"
  have e2 : Ext S (S1 ++ [.lst [.int (s0 : Nat)]]) := e1.trans (Ext.app _ _)
  have c2 := Ext.app S1 [.lst [.int (s0 : Nat)]] _ _ c1
  have c3 := new_at S1 (.lst [.int (s0 : Nat)])
  have l2 : (S1 ++ [Cell.lst [.int (s0 : Nat)]]).length = S.length + 2 := by simp [l1]
  rw [l1] at c3 ⊢
  generalize S1 ++ [.lst [.int (s0 : Nat)]] = S2 at e2 c2 c3 l2 ⊢
  refine while_inv (fun k σ S' => ∃ (s6 s7 s8 : Option D) (ks ws : List Nat), k = 2 * (G.length - ks.length) + ws.length ∧ k ≤ 4000 ∧ σ = [some (encG G), some (.int (o : Nat)), some (.ref mv), some (.int (s0 : Nat)), some (.ref S.length), some (.ref (S.length + 1)), s6, s7, s8] ∧ ExtB [S.length, S.length + 1] S2 S' ∧ S'[S.length]? = some (.dct (setD ks)) ∧ S'[S.length + 1]? = some (.lst (ws.map fun k : Nat => .int (k : Nat))) ∧ ks.Nodup ∧ (∀ k ∈ ks, W k) ∧ ∀ k ∈ ws, k ∈ ks) _ ⟨_, _, _, [s0], [s0], rfl, by simp; omega, rfl, .refl _ _, c2, c3, by simp, fun k hk => (by rw [List.mem_singleton] at hk; rw [hk]; exact hs), fun k hk => hk⟩ ?_
  rintro k σ S3 R ⟨s6, s7, s8, ks, ws, rfl, k4, rfl, e3, d1, d2, nd, i1, i2⟩ hR
  walk_at "s"
  refine r_len (lst_sq d2) ?_
  walk_at "s"
  refine ite_b (fun hb => ?_) fun hb => ?_
  · have hb : ws ≠ [] := fun e => by subst e; simp at hb
    obtain ⟨ws', s, rfl⟩ : ∃ ws' s, ws = ws' ++ [s] := ⟨ws.dropLast, ws.getLast hb, (List.dropLast_concat_getLast hb).symm⟩
    have sW := i1 s (i2 s (by simp))
    have sn := hW s sW
    rw [List.map_append, List.map_singleton] at d2
    rw [List.length_append, List.length_singleton] at k4
    walk_at "s"
    refine r_tyL d2 ?_
    walk_at "s"
    refine r_pop d2 fun S4 q4 o4 => ?_
    have e4 := e3.trans (o4.b (l := [S.length, S.length + 1]) (by simp))
    have d14 := o4.ne (by omega) d1
    have m4 := e4.2 mv (by simp; omega) _ (e2 _ _ hm)
    have nl := hG.few s sn
    -- what goes on over the steps gs
    have loop : ∀ (gs : List Nat) (ok : Store → Prop) (S5 : Store) (σ : Slots) (xs : List D), xs = gs.map (fun k : Nat => D.int (k : Nat)) → (∀ S', ExtB [S.length, S.length + 1] S5 S' → ok S') → ExtB [S.length, S.length + 1] S4 S5 → S5[S.length]? = some (.dct (setD ks)) → S5[S.length + 1]? = some (.lst (ws'.map fun k : Nat => .int (k : Nat))) → (∀ g ∈ gs, W g) →
        (∃ s6 s7 s8 : Option D, σ = [some (encG G), some (.int (o : Nat)), some (.ref mv), some (.int (s0 : Nat)), some (.ref S.length), some (.ref (S.length + 1)), s6, s7, s8]) → ∀ E : EndsD, E.nx = R → forD ok (gNm 7) (sIf (tVal (eOp (inF true) (eVar 7) (eVar 4))) (sSeq (sAsg (eC (.bl true)) (gSubD (eVar 4) (eVar 7))) (sDrop (eMt "list" appF (eVar 5) (aCons (eVar 7) aNil)))) sNext) E xs σ S5 := by
      rintro gs ok S5 σ xs rfl hok e5 f1 f2 gW ⟨s6, s7, s8, rfl⟩ E hE
      refine for_inv (fun i σ S' => ∃ (s6 s7 s8 : Option D) (ks' ws'' : List Nat), 2 * (G.length - ks'.length) + ws''.length ≤ 2 * (G.length - ks.length) + ws'.length ∧ σ = [some (encG G), some (.int (o : Nat)), some (.ref mv), some (.int (s0 : Nat)), some (.ref S.length), some (.ref (S.length + 1)), s6, s7, s8] ∧ ExtB [S.length, S.length + 1] S5 S' ∧ S'[S.length]? = some (.dct (setD ks')) ∧ S'[S.length + 1]? = some (.lst (ws''.map fun k : Nat => .int (k : Nat))) ∧ ks'.Nodup ∧ (∀ k ∈ ks', W k) ∧ ∀ k ∈ ws'', k ∈ ks') ⟨_, _, _, ks, ws', Nat.le_refl _, rfl, .refl _ _, f1, f2, nd, i1, fun k hk => i2 k (by simp [hk])⟩ ?_ ?_
      · rintro i x σ S6 R6 hx ⟨s6, s7, s8, ks', ws'', sz, rfl, e6, g1, g2, nd6, j1, j2⟩ hR6
        refine ⟨hok S6 e6, ?_⟩
        rw [List.getElem?_map] at hx
        cases hq : gs[i]? with
        | none => rw [hq] at hx; cases hx
        | some t =>
          rw [hq] at hx
          cases hx
          have tW := gW t (List.mem_of_getElem? hq)
          walk_at "s"
          refine r_inD (dct_at g1) rfl ?_
          rw [setD_val, Bool.xor_true]
          walk_at "s"
          refine ite_b (fun hb => ?_) fun hb => ?_
          · have hb : t ∉ ks' := by simpa using hb
            have ndn : (insK ks' t).Nodup := nodup_insK nd6
            have rn : ∀ k ∈ insK ks' t, W k := fun u hu => by
              rcases mem_insK.mp hu with z | z
              · exact j1 u z
              · rw [z]; exact tW
            have ll := few ndn rn
            have il : (insK ks' t).length = ks'.length + 1 := by rw [insK, if_neg hb, List.length_append]; rfl
            walk_at "s"
            refine r_setD1 g1 rfl (by unfold setD; rw [List.length_map]; simp only [sizeLine]; omega) fun S7 q7 o7 => ?_
            rw [setD_put] at q7
            have g27 := o7.ne (by omega) g2
            walk_at "s"
            refine r_tyL g27 ?_
            walk_at "s"
            refine r_app g27 (by rw [List.length_map]; simp only [sizeLine]; omega) fun S8 q8 o8 => ?_
            have q78 := o8.ne (by omega) q7
            refine hR6 _ _ ⟨_, _, _, insK ks' t, ws'' ++ [t], by rw [il, List.length_append, List.length_singleton]; omega, rfl, (e6.trans (o7.b (by simp))).trans (o8.b (by simp)), q78, by rw [q8, List.map_append]; rfl, ndn, rn, fun u hu => ?_⟩
            rcases List.mem_append.mp hu with z | z
            · exact mem_insK.mpr (.inl (j2 u z))
            · exact mem_insK.mpr (.inr (List.mem_singleton.mp z))
          · walk_at "s"
            exact hR6 _ _ ⟨_, _, _, ks', ws'', sz, rfl, e6, g1, g2, nd6, j1, j2⟩
      · rintro σ S6 ⟨s6, s7, s8, ks', ws'', sz, rfl, e6, g1, g2, nd6, j1, j2⟩
        refine ⟨hok S6 e6, ?_⟩
        rw [hE]
        refine hR _ _ _ ?_ ⟨_, _, _, ks', ws'', rfl, by omega, rfl, (e4.trans e5).trans e6, g1, g2, nd6, j1, j2⟩
        rw [List.length_append, List.length_singleton]; omega
    walk_at "s"
    refine r_ixT (g_at sn) ?_
    walk_at "s"
    refine ite_b (fun ho => ?_) fun ho => ?_
    · have ho : ow G s = o := by have := of_decide_eq_true ho; omega
      obtain ⟨g, m1, m2, m3⟩ := mine s sW ho
      walk_at "s"
      refine r_inD (dct_at m4) rfl ?_
      rw [mapM_val, m1, Bool.xor_true]
      walk_at "s"
      refine r_ixD (dct_at m4) rfl (by rw [mapM_val, m1]; rfl) ?_
      walk_at "s"
      refine r_ixT (g_at sn) ?_
      walk_at "s"
      refine nin_nat ?_
      rw [decide_eq_true m2]
      walk_at "s"
      refine r_ixD (dct_at m4) rfl (by rw [mapM_val, m1]; rfl) ?_
      walk_at "s"
      refine r_iLst ?_
      walk_at "s"
      refine .inr ⟨_, _, rfl, new_at S4 _, ?_⟩
      exact loop [g] _ _ _ _ rfl (fun S' e => e.2 S4.length (by have := (List.getElem?_eq_some_iff.mp q4).1; simp; omega) _ (new_at S4 _)) ((Ext.app S4 _).b _) (Ext.app _ _ _ _ d14) (Ext.app _ _ _ _ q4) (fun u hu => by rw [List.mem_singleton] at hu; rw [hu]; exact m3) ⟨_, _, _, rfl⟩ _ rfl
    · have ho : ow G s ≠ o := by have := of_decide_eq_false ho; omega
      walk_at "s"
      refine r_ixT (g_at sn) ?_
      walk_at "s"
      refine r_iTup ?_
      walk_at "s"
      refine ⟨_, rfl, ?_⟩
      exact loop (gl G s) _ _ _ _ rfl (fun S' e => trivial) (.refl _ _) d14 q4 (other s sW ho) ⟨_, _, _, rfl⟩ _ rfl
  · walk_at "s"
    exact h _ _ ks (fun j c hc => by
      have : j < S.length := (List.getElem?_eq_some_iff.mp hc).1
      exact e3.2 j (by simp; omega) c (e2 _ _ hc)) (Nat.le_refl _) d1 nd i1
end
end PG
/-! SPo: holding_paper. -/
namespace PG
open PySem L2 SD SO
theorem plainDs_of {k : Nat} {rs : List D} (hk : k ≤ 62) (h : ∀ r ∈ rs, okD r = true ∧ (toPy r).depth ≤ k) : plainDs rs = true := by
  have key : okDs rs = true ∧ PyData.depthAll (toPys rs) ≤ k := by
    induction rs with
    | nil => exact ⟨rfl, by simp [toPys, PyData.depthAll]⟩
    | cons r rs ih =>
      obtain ⟨h1, h2⟩ := ih fun q hq => h q (List.mem_cons_of_mem _ hq)
      obtain ⟨a, b⟩ := h r List.mem_cons_self
      exact ⟨by rw [okDs, h1, a]; rfl, by simp only [toPys, PyData.depthAll]; omega⟩
  unfold plainDs
  rw [Bool.and_eq_true, decide_eq_true_eq]
  refine ⟨key.1, ?_⟩
  simp only [PyData.depth]
  have := key.2
  omega
theorem ok_sp (s : Sp) : okD (encSp s) = true ∧ (toPy (encSp s)).depth ≤ s.2.dp + 2 := by
  constructor
  · simp only [encSp, okD, okDs, ok_fm, Bool.and_true]
  · have := depth_fm s.2
    simp only [encSp, toPy, toPys, PyData.depth, PyData.depthAll]
    omega
theorem plain_sp {s : Sp} (h : s.2.dp ≤ 50) : plainD (encSp s) = true := by
  have := ok_sp s
  unfold plainD
  rw [Bool.and_eq_true, decide_eq_true_eq]
  exact ⟨this.1, by omega⟩
theorem plain_spots {L0 L1 : Nat} {w : Wd} {f : Fm} (hw : OkW L0 L1 w) (hf : OkP L0 L1 f) {L : List Sp} (H : IsSp w f L) (hd : f.dp ≤ 50) : plainDs (L.map encSp) = true := by
  refine plainDs_of (k := 52) (by decide) fun r hr => ?_
  obtain ⟨s, hs, rfl⟩ := List.mem_map.mp hr
  have := ok_sp s
  have := pre_dp (((H.mem s).mp hs).ok hw hf).2
  exact ⟨(ok_sp s).1, by omega⟩
theorem spot_at {L : List Sp} {s : Sp} (h : s ∈ L) : (L.map encSp)[L.idxOf s]? = some (encSp s) := by rw [List.getElem?_map, idx_at h]; rfl
theorem spot_first {L : List Sp} (nd : L.Nodup) {s : Sp} (h : s ∈ L) (i : Nat) (hi : i < L.idxOf s) : (L.map encSp)[i]? ≠ some (encSp s) := by
  rw [List.getElem?_map]
  intro e
  cases q : L[i]? with
  | none => rw [q] at e; cases e
  | some t =>
    rw [q] at e
    have : t = s := encSp_inj t s (Option.some.inj e)
    rw [this] at q
    have := idx_of nd q
    omega
theorem wins_at {n : Nat} {W : Nat → Nat} {k : Nat} (h : k < n) : atI (((List.range n).map W).map fun k : Nat => D.int (k : Nat)) (k : Int) = some (.int (W k : Nat)) := by
  rw [atI_n, List.getElem?_map, List.getElem?_map, List.getElem?_range h]; rfl
theorem rows_at {G : List Spt} {W : Nat → Nat} {m : Nat → Option Nat} {k : Nat} (h : k < G.length) : atI (rowsM G W m) (k : Int) = some (if ow G k = W k then mvD (m k) else .non) := by
  unfold rowsM
  rw [atI_n, List.getElem?_map, List.getElem?_range h]; rfl
theorem r_keysE {f : FE} {σ : Slots} {S : Store} {R : (Store → Prop) → List D → Store → Prop} (h : f σ S fun d S1 => ∃ n kvs, d = .ref n ∧ S1[n]? = some (.dct kvs) ∧ R (fun S => S[n]? = some (.lck kvs)) (kvs.map (·.1)) (S1.set n (.lck kvs))) : iKeysE f σ S R := h
section
variable {L0 L1 : Nat} {w : Wd} {f : Fm}
def kR (r : Sp × Sp) : NestedKey := .tup [kS r.1, kS r.2]
theorem keyN_kR (r : Sp × Sp) : keyN (kR r) = .tup [encSp r.1, encSp r.2] := by unfold kR; simp only [keyN, keyNs, keyN_kS]
set_option maxHeartbeats 8000000 in
theorem holding_spec (hw : OkW L0 L1 w) (hf : OkP L0 L1 f) (hn : w.n ≤ 60) (hd : f.dp ≤ 7) (small : w.n * f.pre.length ≤ 1000) {p : Nat} (hp : p < w.n) {S : Store} {Q : PD}
    (h : ∀ (S' : Store) (L : List Sp) (W : Nat → Nat) (m : Nat → Option Nat) (rs : List D), Ext S S' → IsSp w f L → Solved (gameOf w f L) W m → Q (.tup [if W (L.idxOf (p, f)) = 0 then .str "holds" else .str "fails", .tup rs]) S') : F_holding_paper [encW w, encF f, .int (p : Nat)] S Q := by
  refine r_fn rfl ?_
  unfold b_holding_paper
  walk_at "s"
  refine game_spec hw hf hn hd fun S1 L e1 H srt => ?_
  walk_at "s"
  refine spots_spec hw hf hn hd fun S2 n2 L' e2 hn2 H' srt' h2 => ?_
  have : L' = L := srt_uniq (fun s => by rw [H'.mem, H.mem]) H'.nd H.nd srt' srt
  subst this
  have ll := Nat.le_trans (H.len hw hf) small
  have okg := game_ok hw hf H hn ll
  have okr : ∀ {s : Sp}, s ∈ L' → s.1 < w.n ∧ s.2 ∈ f.pre := fun {s} hs => ((H.mem s).mp hs).ok hw hf
  have s0 : ((p, f) : Sp) ∈ L' := (H.mem _).mpr (.start hp)
  have k0 : L'.idxOf (p, f) < L'.length := List.idxOf_lt_length_iff.mpr s0
  have gln : (gameOf w f L').length = L'.length := game_len
  walk_at "s"
  refine solved_spec okg (fun k hk => game_lev hf H (by omega) (by rw [← gln]; exact hk)) fun S3 W m e3 sol => ?_
  walk_at "s"
  have h3 := e3 _ _ h2
  refine r_tyL h3 ?_
  walk_at "s"
  refine ⟨n2, _, encSp (p, f), L'.idxOf (p, f), rfl, rfl, h3, plain_sp (by show f.dp ≤ 50; omega), plain_spots hw hf H (by omega), spot_at s0, spot_first H.nd s0, ?_⟩
  generalize hst : L'.idxOf (p, f) = st at *
  walk_at "s"
  refine r_ixE rfl (wins_at (by rw [gln]; exact k0)) ?_
  have w2 := sol.two st (by rw [gln]; exact k0)
  generalize hG : gameOf w f L' = G at *
  walk_at "s"
  refine r_len rfl ?_
  rw [List.length_map]
  walk_at "s"
  refine r_rg (by omega) (by omega) fun few => ?_
  rw [rng_map']
  let sel : Nat → Option (Nat × Nat) := fun k => if ow G k = W st ∧ W k = W st then (m k).map fun g => (k, g) else none
  have selk : ∀ {k : Nat} {x : Nat × Nat}, sel k = some x → x.1 = k := fun {k x} e => by
    simp only [sel] at e
    split at e
    · cases q : m k with
      | none => rw [q] at e; cases e
      | some g => rw [q] at e; cases e; rfl
    · cases e
  have keyr : ∀ n, (((List.range n).filterMap sel).map (·.1)) = (List.range n).filter fun k => (sel k).isSome := fun n => by
    generalize List.range n = l
    induction l with
    | nil => rfl
    | cons a l ih =>
      cases q : sel a with
      | none => rw [List.filterMap_cons_none q, List.filter_cons_of_neg (by rw [q]; decide)]; exact ih
      | some x => rw [List.filterMap_cons_some q, List.filter_cons_of_pos (by rw [q]; rfl), List.map_cons, ih, selk q]
  refine dc_inv (fun i acc S4 => Ext S3 S4 ∧ acc = mapM ((List.range i).filterMap sel)) (by rw [List.length_map, List.length_range]; simp only [sizeLine]; omega) (new_at S3 _) ⟨Ext.app S3 _, rfl⟩ ?_ ?_
  · rintro i x acc S4 R hx h4 hl ⟨e4, rfl⟩ hR
    rw [List.getElem?_map] at hx
    cases hq : (List.range G.length)[i]? with
    | none => rw [hq] at hx; cases hx
    | some q =>
      rw [hq] at hx
      cases hx
      have hi : i < G.length := by have := (List.getElem?_eq_some_iff.mp hq).1; simpa using this
      have : q = i := by rw [List.getElem?_range hi] at hq; cases hq; rfl
      subst this
      have skip : sel q = none → R S4 := fun e => hR _ S4 h4 (by omega) ⟨e4, by rw [List.range_succ, List.filterMap_append]; simp [e]⟩
      refine ⟨trivial, ?_⟩
      walk_at "s"
      refine r_ixT (g_at hi) ?_
      walk_at "s"
      refine ite_b (fun ho => ?_) fun ho => ?_
      · have ho : ow G q = W st := by have := of_decide_eq_true ho; omega
        walk_at "s"
        refine r_ixT (rows_at hi) ?_
        by_cases hw2 : ow G q = W q
        · rw [if_pos hw2]
          have hwq : W q = W st := by omega
          cases hm : m q with
          | none =>
            simp only [mvD]
            walk_at "s"
            exact skip (by simp only [sel]; rw [if_pos ⟨ho, hwq⟩, hm]; rfl)
          | some g =>
            simp only [mvD]
            walk_at "s"
            refine r_ixT (rows_at hi) ?_
            rw [if_pos hw2, hm]
            refine ⟨_, rfl, h4, by simp only [sizeLine]; omega, ?_⟩
            have hnew : q ∉ ((List.range q).filterMap sel).map (·.1) := by
              rw [keyr]
              intro z
              have := List.mem_range.mp (List.mem_filter.mp z).1
              omega
            have ep : putD (mapM ((List.range q).filterMap sel)) (.int (q : Nat)) (mvD (some g)) = mapM ((List.range (q + 1)).filterMap sel) := by
              rw [List.range_succ, List.filterMap_append]
              have e1 : sel q = some (q, g) := by simp only [sel]; rw [if_pos ⟨ho, hwq⟩, hm]; rfl
              rw [List.filterMap_cons_some e1, List.filterMap_nil]
              exact natD_put (fun g : Nat => .int (g : Nat)) _ q g hnew
            rw [ep]
            refine hR _ _ (set_at h4) ?_ ⟨e4.put (Nat.le_refl _), rfl⟩
            rw [mapM_len]
            exact Nat.le_trans (List.length_filterMap_le _ _) (by rw [List.length_range]; exact Nat.le_refl _)
        · rw [if_neg hw2]
          walk_at "s"
          exact skip (by simp only [sel]; rw [if_neg (fun z => hw2 (by omega))])
      · have ho : ow G q ≠ W st := by have := of_decide_eq_false ho; omega
        walk_at "s"
        exact skip (by simp only [sel]; rw [if_neg (fun z => ho z.1)])
  rintro acc S4 h4 hl ⟨e4, rfl⟩
  rw [List.length_map, List.length_range] at h4
  refine ⟨trivial, ?_⟩
  generalize hms : (List.range G.length).filterMap sel = ms at h4
  have getMs : ∀ k, k < G.length → ow G k = W st → W k = W st → ∀ g, m k = some g → getM ms k = some g := fun k hk ho hwk g hm => by
    have hin : (k, g) ∈ ms := by
      rw [← hms]
      exact List.mem_filterMap.mpr ⟨k, List.mem_range.mpr hk, by simp only [sel]; rw [if_pos ⟨ho, hwk⟩, hm]; rfl⟩
    exact getM_at (by rw [← hms, keyr]; exact (List.nodup_range).filter _) hin
  have win := sol.win (W st) w2
  have n3 : S3.length < S4.length := (List.getElem?_eq_some_iff.mp h4).1
  walk_at "s"
  refine r_keysE ?_
  walk_at "s"
  refine come_spec okg (o := W st) (s0 := st) (W := fun k => k < G.length ∧ W k = W st) (fun k hk => hk.1) (fun k hk ho => ?_) (fun k hk ho g hg => ?_) ⟨by rw [gln]; exact k0, rfl⟩ h4 fun S5 n5 ks e5 hn5 h5 nd5 i5 => ?_
  · obtain ⟨g, a, b, c⟩ := win.mine k hk ho
    exact ⟨g, getMs k hk.1 ho hk.2 g a, b, c⟩
  · exact win.other k hk ho g hg (okg.lt k g hk.1 hg)
  refine ⟨n5, _, rfl, h5, fun few5 => ?_⟩
  have ek : (setD ks).map (·.1) = ks.map fun k : Nat => D.int (k : Nat) := by unfold setD; rw [List.map_map]; rfl
  rw [ek] at few5 ⊢
  have f3 : (S5.set n5 (.lck (setD ks)))[n2]? = some (.lst (L'.map encSp)) := by
    have : n2 < S4.length := (List.getElem?_eq_some_iff.mp (e4 _ _ h3)).1
    rw [set_off (by omega)]; exact e5 _ _ (e4 _ _ h3)
  have f4 : (S5.set n5 (.lck (setD ks)))[S3.length]? = some (.dct (mapM ms)) := by
    rw [set_off (by omega)]; exact e5 _ _ h4
  have f5 : (S5.set n5 (.lck (setD ks)))[n5]? = some (.lck (setD ks)) := set_at h5
  have e6 : Ext S4 (S5.set n5 (.lck (setD ks))) := e5.put hn5
  generalize S5.set n5 (.lck (setD ks)) = S6 at f3 f4 f5 e6 ⊢
  have lk : ks.length ≤ 1000 := by
    have := subset_len (ls := List.range G.length) nd5 fun k hk => List.mem_range.mpr (i5 k hk).1
    rw [List.length_range, gln] at this
    omega
  have nth : ∀ k, k < G.length → atI (L'.map encSp) (k : Int) = some (encSp (L'.getD k d0)) ∧ L'.getD k d0 ∈ L' := fun k hk => by
    rw [gln] at hk
    rw [List.getD_eq_getElem?_getD, List.getElem?_eq_getElem hk]
    refine ⟨?_, List.getElem_mem hk⟩
    rw [atI_n, List.getElem?_map, List.getElem?_eq_getElem hk]; rfl
  refine lc_pick ks (fun k : Nat => .int (k : Nat)) (fun k => if ow G k = W st then (m k).map fun g => (L'.getD k d0, L'.getD g d0) else none) (fun r => .tup [encSp r.1, encSp r.2]) (by simp only [sizeLine]; omega) (fun S7 e7 => e7 _ _ f5) (fun k hk S7 R RK e7 hN hS => ?_) fun S7 e7 h7 => ?_
  · have kk := i5 k hk
    walk_at "s"
    refine r_ixT (g_at kk.1) ?_
    walk_at "s"
    refine ite_b (fun ho => ?_) fun ho => ?_
    · have ho : ow G k = W st := by have := of_decide_eq_true ho; omega
      obtain ⟨g, a, b, c⟩ := win.mine k kk ho
      walk_at "s"
      refine r_ixL (e7 _ _ f3) (nth k kk.1).1 ?_
      walk_at "s"
      refine r_ixD (dct_at (e7 _ _ f4)) rfl (by rw [mapM_val, getMs k kk.1 ho kk.2 g a]; rfl) ?_
      refine r_ixL (e7 _ _ f3) (nth g c.1).1 ?_
      walk_at "s"
      exact hS (L'.getD k d0, L'.getD g d0) (by rw [if_pos ho, a]; rfl) S7 (.refl _)
    · have ho : ow G k ≠ W st := by have := of_decide_eq_false ho; omega
      exact hN (by rw [if_neg ho]) S7 (.refl _)
  have rin : ∀ r ∈ ks.filterMap (fun k => if ow G k = W st then (m k).map fun g => (L'.getD k d0, L'.getD g d0) else none), r.1 ∈ L' ∧ r.2 ∈ L' := fun r hr => by
    obtain ⟨k, hk, e⟩ := List.mem_filterMap.mp hr
    have kk := i5 k hk
    split at e
    · rename_i ho
      obtain ⟨g, a, b, c⟩ := win.mine k kk ho
      rw [a] at e
      cases e
      exact ⟨(nth k kk.1).2, (nth g c.1).2⟩
    · cases e
  generalize hrs : ks.filterMap (fun k => if ow G k = W st then (m k).map fun g => (L'.getD k d0, L'.getD g d0) else none) = rs at h7 rin
  have er : rs.map (fun r => D.tup [encSp r.1, encSp r.2]) = (rs.map kR).map keyN := by rw [List.map_map]; exact List.map_congr_left fun r _ => (keyN_kR r).symm
  rw [er] at h7
  have eS : Ext S S7 := ((((e1.trans e2).trans e3).trans e4).trans e6).trans e7
  have last : ∀ (S8 : Store) (xs : List D) (v : D), Ext S S8 → (v = if W st = 0 then .str "holds" else .str "fails") → Q (.tup [v, .tup xs]) S8 := fun S8 xs v e8 ev => by
    rw [ev, ← hst]
    exact h S8 L' W m xs e8 H (by rw [hG]; exact sol)
  have srt2 : ∀ Q3 : PD, (∀ n xs S8, Ext S S8 → S8[n]? = some (.lst xs) → Q3 (.ref n) S8) → sortNF [.ref S6.length] S7 Q3 := fun Q3 hQ3 => by
    refine ⟨_, rs.map kR, rfl, h7, fun q hq => ?_, fun a ha c hc => ?_, ⟨.type "tuple", fun q hq => ?_⟩, fun ks' pm sr => ?_⟩
    · obtain ⟨r, hr, rfl⟩ := List.mem_map.mp hq
      have d1 := kS_depth r.1
      have d2 := kS_depth r.2
      have := pre_dp (okr (rin r hr).1).2
      have := pre_dp (okr (rin r hr).2).2
      refine ⟨by simp [kR, txN, txNs, kS_tx], ?_⟩
      simp only [kR, NestedKey.depth, NestedKey.depthAll]; omega
    · obtain ⟨r, _, rfl⟩ := List.mem_map.mp ha
      obtain ⟨t, _, rfl⟩ := List.mem_map.mp hc
      exact cmp_tup (cmpA_cons (kS_cmp _ _) (cmpA_cons (kS_cmp _ _) cmpA_nil))
    · obtain ⟨r, hr, rfl⟩ := List.mem_map.mp hq
      exact ⟨_, _, rfl, rfl⟩
    · exact hQ3 _ _ _ (eS.trans (Ext.app _ _)) (new_at S7 _)
  walk_at "s"
  refine ite_b (fun hb => ?_) fun hb => ?_
  · have hb : W st = 0 := by have := of_decide_eq_true hb; omega
    walk_at "n"
    refine srt2 _ fun n8 xs S8 e8 h8 => ?_
    walk_at "n"
    refine r_tuple (lst_sq h8) ?_
    walk_at "n"
    exact last S8 xs _ e8 (by rw [if_pos hb])
  · have hb : W st ≠ 0 := by have := of_decide_eq_false hb; omega
    walk_at "n"
    refine srt2 _ fun n8 xs S8 e8 h8 => ?_
    walk_at "n"
    refine r_tuple (lst_sq h8) ?_
    walk_at "n"
    exact last S8 xs _ e8 (by rw [if_neg hb])
end
end PG
/-! KL29: the plain law of K29. -/
namespace K29
open PySem L2 SD PG SO PyProof.Rows PySem.Spec
/-- levels moved up by c, owners turned about with them: winners are turned about too -/
theorem Solved.moved {G G' : List Spt} {W W' : Nat → Nat} {m m' : Nat → Option Nat} (c : Nat) (hG' : OkG G') (hl : G'.length = G.length) (ho : ∀ k, k < G.length → ∀ p, p < 2 → (ow G' k = (p + c) % 2 ↔ ow G k = p)) (hg : ∀ k, k < G.length → gl G' k = gl G k) (hv : ∀ k, k < G.length → lv G' k = lv G k + c)
    (s : Solved G W m) (s' : Solved G' W' m') {k : Nat} (hk : k < G.length) : W' k = (W k + c) % 2 := by
  have w2 := s.two k hk
  have h1 : Win G' (fun k => k < G.length) ((W k + c) % 2) (fun j => j < G.length ∧ W j = W k) m := Win.shift (c := c) (s.win (W k) w2) rfl (fun j hj => ho j hj (W k) w2) (fun j hj => hg j hj) (fun j hj => hv j hj)
  rw [← hl] at h1
  exact s'.only hG' (Nat.mod_lt _ (by decide)) h1 ⟨by rw [hl]; exact hk, rfl⟩
def movG (a : Nat → Nat) (c : Nat) (G : List Spt) : List Spt := G.map fun s => ⟨a s.o, s.lv + c, s.gs⟩
theorem mov_at {a : Nat → Nat} {c : Nat} {G : List Spt} {k : Nat} (h : k < G.length) : ow (movG a c G) k = a (ow G k) ∧ lv (movG a c G) k = lv G k + c ∧ gl (movG a c G) k = gl G k := by
  unfold ow lv gl movG
  simp only [List.getD_eq_getElem?_getD, List.getElem?_map, List.getElem?_eq_getElem h]
  exact ⟨rfl, rfl, rfl⟩
theorem mov_len {a : Nat → Nat} {c : Nat} {G : List Spt} : (movG a c G).length = G.length := by unfold movG; rw [List.length_map]
theorem mov_ok {a : Nat → Nat} {c : Nat} {G : List Spt} (ha : ∀ x, x ≤ 1 → a x ≤ 1) (h : OkG G) : OkG (movG a c G) := by
  refine ⟨by rw [mov_len]; exact h.size, fun k hk => ?_, fun k hk => ?_, fun k g hk hg => ?_, fun k hk => ?_⟩
  all_goals rw [mov_len] at *
  · rw [(mov_at hk).1]; exact ha _ (h.own k hk)
  · rw [(mov_at hk).2.2]; exact h.ne k hk
  · rw [(mov_at hk).2.2] at hg; exact h.lt k g hk hg
  · rw [(mov_at hk).2.2]; exact h.few k hk
/-- spots as they are drawn -/
def DrSp (n : Nat) (s : Spt) : Prop := s.o ≤ 1 ∧ s.lv ≤ 3 ∧ s.gs ≠ [] ∧ s.gs.length ≤ 3 ∧ ∀ g ∈ s.gs, g < n
theorem dr_at {n : Nat} {G : List Spt} (h : ∀ s ∈ G, DrSp n s) {k : Nat} (hk : k < G.length) : ow G k ≤ 1 ∧ lv G k ≤ 3 ∧ gl G k ≠ [] ∧ (gl G k).length ≤ 3 ∧ ∀ g ∈ gl G k, g < n := by
  have := h _ (List.getElem_mem hk)
  unfold ow lv gl
  simp only [List.getD_eq_getElem?_getD, List.getElem?_eq_getElem hk]
  exact this
theorem dr_ok {n : Nat} {G : List Spt} (h : ∀ s ∈ G, DrSp n s) (hl : G.length = n) (hn : n ≤ 7) : OkG G :=
  ⟨by omega, fun k hk => (dr_at h hk).1, fun k hk => (dr_at h hk).2.2.1, fun k g hk hg => by rw [hl]; exact (dr_at h hk).2.2.2.2 g hg, fun k hk => by have := (dr_at h hk).2.2.2.1; omega⟩
theorem few_l {n : Nat} (h : n ≤ 1000) : n ≤ sizeLine := by simp only [sizeLine]; omega
/-- [draw(n) for j in range(c)] -/
theorem goals_spec {σ : Slots} {n p q c pv iv nv : Nat} {S : Store} {R : Store → Prop} (hp : ∀ d : D, (σ.set iv (some d))[pv]? = some (some (.ref p))) (hv : ∀ d : D, (σ.set iv (some d))[nv]? = some (some (.int (n : Nat)))) (n0 : 0 < n) (n1 : n ≤ 1000) (hc : c ≤ 1000) (P : PoolOk p q S)
    (h : ∀ S' (gs : List Nat), gs.length = c → (∀ g ∈ gs, g < n) → PoolOk p q S' → ExtB [p] S S' → S'[S.length]? = some (.lst (gs.map fun k : Nat => .int (k : Nat))) → R S') :
    lcD Always (gNm iv) tYesD (eCall F__law_draw (aCons (eVar pv) (aCons (eVar nv) aNil))) S.length R σ (rngD 0 c) (S ++ [.lst []]) := by
  have hpl := P.lt
  refine lc_inv (fun i acc S' => PoolOk p q S' ∧ ExtB [p] S S' ∧ ∃ gs : List Nat, acc = gs.map (fun k : Nat => D.int (k : Nat)) ∧ gs.length = i ∧ ∀ g ∈ gs, g < n) (by rw [rng_len]; exact few_l hc) (new_at S _) ⟨P.ext (Ext.app S _), (Ext.app S _).b _, [], rfl, rfl, by simp⟩ ?_ ?_
  · rintro i x acc S1 R1 hx h1 hl ⟨P1, e1, gs, rfl, g1, g2⟩ hR
    refine ⟨trivial, ?_⟩
    walk_at "s"
    refine r_var (hp _) ?_
    walk_at "s"
    refine r_var (hv _) ?_
    walk_at "s"
    refine draw_spec P1 (by omega) (by omega) fun S2 g hg P2 o2 => ?_
    have h1' := o2.ne (Nat.ne_of_gt hpl) h1
    refine ⟨_, h1', by rw [List.length_map]; simp only [sizeLine]; have := (List.getElem?_eq_some_iff.mp hx).1; rw [rng_len] at this; omega, ?_⟩
    refine hR _ _ (set_at h1') (by simpa using hl) ⟨P2.extB ((Off.set S.length S2 _).b (l := [S.length]) (by simp)) (by simp; exact Nat.ne_of_lt hpl) (by simp; exact Nat.ne_of_lt P.lt2), (e1.trans (o2.b (by simp))).put (.inr (Nat.le_refl _)), gs ++ [g], by simp, by simp [g1], fun k hk => ?_⟩
    simp at hk
    rcases hk with hk | rfl
    · exact g2 k hk
    · omega
  · rintro acc S1 h1 hl ⟨P1, e1, gs, rfl, g1, g2⟩
    rw [rng_len] at g1
    exact ⟨trivial, h S1 gs g1 g2 P1 e1 h1⟩
/-- the keys of levels_of -/
theorem keys_are (g : Fm) : (lvs (g.pre.reverse.filterMap bdx)).map (·.1) = (g.bnds.reverse.map fun x : Nat => ((x : Nat) : Int)).map D.int := by
  unfold lvs
  rw [natD_keys, ← bds_keys, bds_eq, List.filterMap_reverse, ← List.map_reverse, List.map_map, List.map_map, List.map_map]
  rfl
theorem sorted_one {a b c : List Int} (h1 : a.Perm c) (h2 : b.Perm c) (s1 : a.Pairwise (· ≤ ·)) (s2 : b.Pairwise (· ≤ ·)) : a = b :=
  List.Perm.eq_of_pairwise (fun x y _ _ h h' => by omega) s1 s2 (h1.trans h2.symm)
theorem plain_ints (xs : List Int) : plainDs (xs.map D.int) = true := plainDs_of (k := 1) (by decide) fun r hr => by
  obtain ⟨x, _, rfl⟩ := List.mem_map.mp hr
  exact ⟨rfl, by simp [toPy, PyData.depth]⟩
theorem plain_words : plainDs [D.str "fails", D.str "holds"] = true := by
  have h : ∀ x : Str, x = "fails" ∨ x = "holds" → okD (.str x) = true := fun x hx => by
    rcases hx with rfl | rfl <;> decide +kernel
  exact plainDs_of (k := 1) (by decide) fun r hr => by
    simp only [List.mem_cons, List.not_mem_nil, or_false] at hr
    rcases hr with rfl | rfl
    · exact ⟨h _ (.inl rfl), by simp [toPy, PyData.depth]⟩
    · exact ⟨h _ (.inr rfl), by simp [toPy, PyData.depth]⟩
theorem two_words {ys : List Str} (h : ys.Perm [("holds" : Str), "fails"] ∨ ys.Perm [("fails" : Str), "holds"]) (s : sortedS ys = true) : ys = [("fails" : Str), "holds"] := by
  have h : ys.Perm [("fails" : Str), "holds"] := h.elim (fun h => h.trans (.swap _ _ _)) id
  have l := h.length_eq
  match ys, l with
  | [a, b], _ =>
    have ha : a ∈ [("fails" : Str), "holds"] := h.mem_iff.mp (by simp)
    have hb : b ∈ [("fails" : Str), "holds"] := h.mem_iff.mp (by simp)
    have h1 : ("fails" : Str) ∈ [a, b] := h.mem_iff.mpr (by simp)
    have h2 : ("holds" : Str) ∈ [a, b] := h.mem_iff.mpr (by simp)
    simp only [List.mem_cons, List.not_mem_nil, or_false] at ha hb h1 h2
    rcases ha with rfl | rfl <;> rcases hb with rfl | rfl
    · exact absurd h2 (by decide)
    · rfl
    · exact absurd s (by decide)
    · exact absurd h1 (by decide)
set_option maxHeartbeats 16000000 in
theorem main (ns : List Int) (h : ns.length ≤ 63) : F_law [.frz (ns.map .int)] [] (fun d _ => d = .bl true) := by
  refine r_fn rfl ?_
  unfold b_law
  walk_at "s"
  refine pool_spec h fun S1 p q P1 _ _ _ => ?_
  walk_at "s"
  refine draw_spec P1 (by decide) (by decide) fun S2 r hr P2 o2 => ?_
  walk_at "s"
  rw [show (1 : Int) + (r : Nat) = ((1 + r : Nat) : Int) by omega]
  have n1 : 0 < 1 + r := by omega
  have n7 : 1 + r ≤ 7 := by omega
  generalize 1 + r = n at n1 n7 ⊢
  refine r_rg (by omega) (by omega) fun few => ?_
  rw [Int.toNat_natCast]
  have hpl := P2.lt
  refine lc_inv (fun i acc S' => PoolOk p q S' ∧ ExtB [p] S2 S' ∧ ∃ G : List Spt, acc = G.map encS ∧ G.length = i ∧ ∀ s ∈ G, DrSp n s) (by rw [rng_len]; exact few_l (by omega)) (new_at S2 _) ⟨P2.ext (Ext.app S2 _), (Ext.app S2 _).b _, [], rfl, rfl, by simp⟩ ?_ ?_
  · rintro i x acc S3 R hx h3 hl ⟨P3, e3, G, rfl, g1, g2⟩ hR
    refine ⟨trivial, ?_⟩
    walk_at "s"
    refine draw_spec P3 (by decide) (by decide) fun S4 o ho P4 o4 => ?_
    walk_at "s"
    refine draw_spec P4 (by decide) (by decide) fun S5 l hl5 P5 o5 => ?_
    walk_at "s"
    refine draw_spec P5 (by decide) (by decide) fun S6 c hc P6 o6 => ?_
    walk_at "s"
    rw [show (1 : Int) + (c : Nat) = ((1 + c : Nat) : Int) by omega]
    refine r_rg (by omega) (by omega) fun few => ?_
    rw [Int.toNat_natCast]
    refine goals_spec (fun _ => rfl) (fun _ => rfl) n1 (by omega) (by omega) P6 fun S7 gs k1 k2 P7 e7 h7 => ?_
    walk_at "s"
    refine r_tuple (lst_sq h7) ?_
    walk_at "s"
    have h3' : S7[S2.length]? = some (.lst (G.map encS)) := e7.2 _ (by simp; exact Nat.ne_of_gt hpl) _ (o6.ne (Nat.ne_of_gt hpl) (o5.ne (Nat.ne_of_gt hpl) (o4.ne (Nat.ne_of_gt hpl) h3)))
    refine ⟨_, h3', by have := (List.getElem?_eq_some_iff.mp hx).1; rw [rng_len] at this; simp only [sizeLine]; omega, ?_⟩
    refine hR _ _ (set_at h3') (by simpa using hl) ⟨P7.extB ((Off.set S2.length S7 _).b (l := [S2.length]) (by simp)) (by simp; exact Nat.ne_of_lt hpl) (by simp; exact Nat.ne_of_lt P2.lt2), ((((e3.trans (o4.b (by simp))).trans (o5.b (by simp))).trans (o6.b (by simp))).trans e7).put (.inr (Nat.le_refl _)), G ++ [⟨o, l, gs⟩], by simp [encS, encP], by simp [g1], fun s hs => ?_⟩
    rcases List.mem_append.mp hs with hs | hs
    · exact g2 s hs
    · rw [List.mem_singleton] at hs
      subst hs
      exact ⟨by show o ≤ 1; omega, by show l ≤ 3; omega, fun z => by have z : gs = [] := z; rw [z] at k1; simp at k1; omega, by show gs.length ≤ 3; omega, k2⟩
  rintro acc S3 h3 hl ⟨P3, e3, G, rfl, g1, g2⟩
  rw [rng_len] at g1
  refine ⟨trivial, ?_⟩
  have okG := dr_ok g2 g1 n7
  walk_at "s"
  refine r_tuple (lst_sq h3) ?_
  walk_at "s"
  refine solved_spec okG (fun k hk => by have := (dr_at g2 hk).2.1; omega) fun S4 W m e4 sol => ?_
  walk_at "s"
  refine r_iTup ?_
  walk_at "s"
  refine ⟨_, rfl, fun few => ?_⟩
  refine lc_each G encS (fun s => encS ⟨1 - s.o, s.lv + 1, s.gs⟩) (few_l (by omega)) (fun _ _ => trivial) (fun s hs S5 P e5 hP => ?_) fun S5 e5 h5 => ?_
  · walk_at "s"
    have so := (g2 s hs).1
    rw [show (1 : Int) - (s.o : Nat) = ((1 - s.o : Nat) : Int) by omega, show ((s.lv : Nat) : Int) + 1 = ((s.lv + 1 : Nat) : Int) by omega]
    exact hP S5 (.refl _)
  walk_at "s"
  refine r_tuple (lst_sq h5) ?_
  walk_at "s"
  have ok1 : OkG (movG (1 - ·) 1 G) := mov_ok (fun x _ => by omega) okG
  have eo : G.map (fun s => encS ⟨1 - s.o, s.lv + 1, s.gs⟩) = (movG (1 - ·) 1 G).map encS := by unfold movG; rw [List.map_map]; rfl
  rw [eo]
  refine solved_spec ok1 (fun k hk => by rw [mov_len] at hk; rw [(mov_at hk).2.1]; have := (dr_at g2 hk).2.1; omega) fun S6 W1 m1 e6 sol1 => ?_
  walk_at "s"
  refine r_iTup ?_
  walk_at "s"
  refine ⟨_, rfl, fun few => ?_⟩
  refine lc_each ((List.range G.length).map W) (fun k : Nat => .int (k : Nat)) (fun k => .int ((1 - k : Nat) : Nat)) (few_l (by rw [List.length_map, List.length_range]; omega)) (fun _ _ => trivial) (fun x hx S7 P e7 hP => ?_) fun S7 e7 h7 => ?_
  · walk_at "s"
    obtain ⟨k, hk, rfl⟩ := List.mem_map.mp hx
    have := sol.two k (List.mem_range.mp hk)
    rw [show (1 : Int) - (W k : Nat) = ((1 - W k : Nat) : Int) by omega]
    exact hP S7 (.refl _)
  walk_at "s"
  refine r_tuple (lst_sq h7) ?_
  walk_at "s"
  have ea : encP ((List.range (movG (1 - ·) 1 G).length).map W1) = D.tup (((List.range G.length).map W).map fun k : Nat => D.int ((1 - k : Nat) : Nat)) := by
    unfold encP
    rw [mov_len, List.map_map, List.map_map]
    refine congrArg D.tup (List.map_congr_left fun k hk => ?_)
    have hk := List.mem_range.mp hk
    have w2 := sol.two k hk
    have := Solved.moved (m := m) (m' := m1) 1 ok1 mov_len (fun k hk p hp => by rw [(mov_at hk).1]; have := okG.own k hk; omega) (fun k hk => (mov_at hk).2.2) (fun k hk => (mov_at hk).2.1) sol sol1 hk
    show D.int (W1 k : Nat) = D.int ((1 - W k : Nat) : Nat)
    rw [this]
    congr 2
    omega
  refine same_spec 4 _ _ _ _ (pl_nats 2 (by rw [List.length_map, List.length_range, mov_len]; omega)) (ea ▸ pl_nats 2 (by rw [List.length_map, List.length_range, mov_len]; omega)) fun S8 e8 => ?_
  rw [decide_eq_true ea]
  walk_at "s"
  refine r_iTup ?_
  walk_at "s"
  refine ⟨_, rfl, fun few => ?_⟩
  refine lc_each G encS (fun s => encS ⟨s.o, s.lv + 2, s.gs⟩) (few_l (by omega)) (fun _ _ => trivial) (fun s hs S9 P e9 hP => ?_) fun S9 e9 h9 => ?_
  · walk_at "s"
    rw [show ((s.lv : Nat) : Int) + 2 = ((s.lv + 2 : Nat) : Int) by omega]
    exact hP S9 (.refl _)
  walk_at "s"
  refine r_tuple (lst_sq h9) ?_
  walk_at "s"
  have ok2 : OkG (movG id 2 G) := mov_ok (fun x h => h) okG
  have eo2 : G.map (fun s => encS ⟨s.o, s.lv + 2, s.gs⟩) = (movG id 2 G).map encS := by unfold movG; rw [List.map_map]; rfl
  rw [eo2]
  refine solved_spec ok2 (fun k hk => by rw [mov_len] at hk; rw [(mov_at hk).2.1]; have := (dr_at g2 hk).2.1; omega) fun S10 W2 m2 e10 sol2 => ?_
  walk_at "s"
  have eb : encP ((List.range (movG id 2 G).length).map W2) = encP ((List.range G.length).map W) := by
    rw [mov_len]
    refine congrArg encP (List.map_congr_left fun k hk => ?_)
    have hk := List.mem_range.mp hk
    have w2 := sol.two k hk
    have := Solved.moved (m := m) (m' := m2) 2 ok2 mov_len (fun k hk p hp => by rw [(mov_at hk).1]; have := okG.own k hk; show id _ = _ ↔ _; simp only [id]; omega) (fun k hk => (mov_at hk).2.2) (fun k hk => (mov_at hk).2.1) sol sol2 hk
    omega
  refine same_spec 4 _ _ _ _ (pl_nats 2 (by rw [List.length_map, List.length_range, mov_len]; omega)) (pl_nats 2 (by rw [List.length_map, List.length_range]; omega)) fun S11 e11 => ?_
  rw [decide_eq_true eb]
  have P11 : PoolOk p q S11 := P3.ext (((((((e4.trans e5).trans e6).trans e7).trans e8).trans e9).trans e10).trans e11)
  walk_at "s"
  refine land_spec P11 fun S12 L0 L1 l1 l2 m1 m2 P12 _ => ?_
  walk_at "s"
  have d6 : drawnDp 2 = 6 := by decide
  refine drawn_spec P12 l1 (by omega) m1 (by omega) (by decide) (by decide) fun S13 f f1 f2 f3 _ P13 _ => ?_
  rw [d6] at f2
  have hf : OkP L0 L1 f := ⟨f1.sc f [] [] [] (fun _ h => h) (fun _ h => h), f3⟩
  have hsz : f.pre.length ≤ 64 := by rw [pre_len]; exact sz_le f2
  walk_at "s"
  refine world_spec P13 (by omega) (by omega) (by decide) (by decide) (most := 3) fun S14 w hw hw3 P14 _ => ?_
  walk_at "s"
  refine against_spec 12 f _ _ (by omega) fun S15 e15 => ?_
  have P15 := P14.ext e15
  have f2' : (neg f).dp ≤ 6 := by rw [neg_dp]; exact f2
  have hsz' : (neg f).pre.length ≤ 64 := by rw [pre_len]; exact sz_le f2'
  have small : w.n * f.pre.length ≤ 1000 := Nat.le_trans (Nat.mul_le_mul hw3 hsz) (by decide)
  have small' : w.n * (neg f).pre.length ≤ 1000 := Nat.le_trans (Nat.mul_le_mul hw3 hsz') (by decide)
  walk_at "s"
  refine r_par ?_
  walk_at "s"
  refine spots_spec hw hf (by omega) (by omega) fun S16 a1 L e16 b16 H srt h16 => ?_
  walk_at "s"
  refine spots_spec hw hf.neg (by omega) (by omega) fun S17 a2 L' e17 b17 H' srt' h17 => ?_
  refine ⟨_, _, rfl, ?_⟩
  have ll := Nat.le_trans (H.len hw hf) small
  have ll' := Nat.le_trans (H'.len hw hf.neg) small'
  walk_at "s"
  refine r_par ?_
  walk_at "s"
  refine game_spec hw hf (by omega) (by omega) fun S18 M e18 HM srtM => ?_
  have : M = L := srt_uniq (fun s => by rw [HM.mem, H.mem]) HM.nd H.nd srtM srt
  subst this
  walk_at "s"
  refine solved_spec (game_ok hw hf H (by omega) ll) (fun k hk => game_lev hf H (by omega) (by rw [← game_len (w := w) (f := f)]; exact hk)) fun S19 V v e19 solV => ?_
  walk_at "s"
  refine game_spec hw hf.neg (by omega) (by omega) fun S20 M' e20 HM' srtM' => ?_
  have : M' = L' := srt_uniq (fun s => by rw [HM'.mem, H'.mem]) HM'.nd H'.nd srtM' srt'
  subst this
  walk_at "s"
  refine solved_spec (game_ok hw hf.neg H' (by omega) ll') (fun k hk => game_lev hf.neg H' (by omega) (by rw [← game_len (w := w) (f := neg f)]; exact hk)) fun S21 V' v' e21 solV' => ?_
  walk_at "s"
  refine ⟨_, _, rfl, ?_⟩
  have tu : ∀ {s : PG.Sp}, s ∈ M → tn s ∈ M' ∧ M'.length = M.length ∧ V' (M'.idxOf (tn s)) = 1 - V (M.idxOf s) := fun {s} hs => turned hw hf H H' (by omega) ll solV solV' hs
  have wpos : 0 < w.n := hw.pos
  have sM : ((0, f) : PG.Sp) ∈ M := (H.mem _).mpr (.start wpos)
  have hlen : M'.length = M.length := (tu sM).2.1
  have q16 := (((((e17.trans e18).trans e19).trans e20).trans e21)) _ _ h16
  have q17 := (((e18.trans e19).trans e20).trans e21) _ _ h17
  have P21 := P15.ext (((((e16.trans e17).trans e18).trans e19).trans e20).trans e21)
  walk_at "s"
  refine r_len (lst_sq q16) ?_
  walk_at "s"
  refine r_len (lst_sq q17) ?_
  walk_at "s"
  rw [List.length_map, List.length_map, hlen]
  refine r_ifF (by simp) ?_
  walk_at "s"
  refine levels_spec (by omega) hf.nd fun S22 k1 e22 _ h22 => ?_
  walk_at "s"
  have keys : ∀ g : Fm, (lvs (g.pre.reverse.filterMap bdx)).map (·.1) = (g.bnds.reverse.map fun x : Nat => ((x : Nat) : Int)).map D.int := keys_are
  refine ⟨k1, _, _, rfl, h22, keys f, fun ns1 p1 s1 => ?_⟩
  walk_at "s"
  refine levels_spec (by omega) hf.neg.nd fun S23 k2 e23 _ h23 => ?_
  walk_at "s"
  refine ⟨k2, _, _, rfl, h23, keys (neg f), fun ns2 p2 s2 => ?_⟩
  rw [neg_bnds] at p2
  have : ns1 = ns2 := sorted_one p1 p2 s1 s2
  subst this
  have q22 : (S23 ++ [Cell.lst (ns1.map D.int)])[S22.length]? = some (.lst (ns1.map D.int)) := Ext.app _ _ _ _ (e23 _ _ (new_at S22 _))
  have q23 := new_at S23 (Cell.lst (ns1.map D.int))
  have eA : Ext S21 (S23 ++ [Cell.lst (ns1.map D.int)]) := ((e22.trans (Ext.app _ _)).trans e23).trans (Ext.app _ _)
  generalize S23 ++ [Cell.lst (ns1.map D.int)] = S24 at q22 q23 eA ⊢
  refine .inr ⟨_, _, q22, q23, plain_ints _, plain_ints _, ?_⟩
  rw [decide_eq_true rfl]
  walk_at "s"
  have q16 := eA _ _ q16
  have q17 := eA _ _ q17
  have P24 := P21.ext eA
  refine r_len (lst_sq q16) ?_
  rw [List.length_map]
  walk_at "s"
  refine r_rg (by omega) (by omega) ?_
  rw [rng_map']
  refine for_inv (fun i σ S' => ∃ s15 s16 s17 : Option D, σ = [some (.frz (ns.map .int)), some (.ref p), some (.int (n : Nat)), some (encG G), some (encP ((List.range G.length).map W)), some (encG (movG (1 - ·) 1 G)), some (encG (movG id 2 G)), some (.tup [.int (L0 : Nat), .int (L1 : Nat)]), some (encF f), some (encW w), some (encF (neg f)), some (.ref a1), some (.ref a2), some (encP ((List.range (gameOf w f M).length).map V)), some (encP ((List.range (gameOf w (neg f) M').length).map V')), s15, s16, s17, none, none, none] ∧ Ext S24 S') ⟨_, _, _, rfl, .refl _⟩ ?_ ?_
  · rintro i x σ S25 R hx ⟨s15, s16, s17, rfl, e25⟩ hR
    refine ⟨trivial, ?_⟩
    rw [List.getElem?_map] at hx
    cases hq : (List.range M.length)[i]? with
    | none => rw [hq] at hx; cases hx
    | some j =>
      rw [hq] at hx
      cases hx
      have hi : i < M.length := by have := (List.getElem?_eq_some_iff.mp hq).1; simpa using this
      have : j = i := by rw [List.getElem?_range hi] at hq; cases hq; rfl
      subst this
      obtain ⟨s, hs, rfl⟩ := each_at hi H.nd
      have c16 := e25 _ _ q16
      have c17 := e25 _ _ q17
      have okp := ((H.mem s).mp hs).ok hw hf
      have dps := pre_dp okp.2
      obtain ⟨t1, _, t3⟩ := tu hs
      walk_at "s"
      refine r_ixL c16 (by rw [atI_n]; exact spot_at hs) ?_
      refine r_gTp (xs := [.int (s.1 : Nat), encF s.2]) rfl ?_
      walk_at "s"
      refine against_spec 12 s.2 _ _ (by omega) fun S26 e26 => ?_
      have c16 := e26 _ _ c16
      have c17 := e26 _ _ c17
      have pl : plainD (encSp (tn s)) = true := plain_sp (by show (neg s.2).dp ≤ 50; rw [neg_dp]; omega)
      have pls : plainDs (M'.map encSp) = true := plain_spots hw hf.neg H' (by omega)
      walk_at "s"
      refine ⟨a2, _, rfl, c17, pl, pls, ?_⟩
      have hin : encSp (tn s) ∈ M'.map encSp := List.mem_map.mpr ⟨_, t1, rfl⟩
      refine r_bl ?_
      refine r_ifF (by show (!decide (encSp (tn s) ∈ M'.map encSp)) = false; rw [decide_eq_true hin]; rfl) ?_
      walk_at "s"
      refine r_tyL c17 ?_
      walk_at "s"
      refine against_spec 12 s.2 _ _ (by omega) fun S27 e27 => ?_
      have c17 := e27 _ _ c17
      walk_at "s"
      refine ⟨a2, _, encSp (tn s), M'.idxOf (tn s), rfl, rfl, c17, pl, pls, spot_at t1, spot_first H'.nd t1, ?_⟩
      refine r_ixE rfl (wins_at (by rw [game_len]; exact List.idxOf_lt_length_iff.mpr t1)) ?_
      walk_at "s"
      refine r_ixE rfl (wins_at (by rw [game_len]; exact List.idxOf_lt_length_iff.mpr hs)) ?_
      walk_at "s"
      have v2 := solV.two (M.idxOf s) (by rw [game_len]; exact List.idxOf_lt_length_iff.mpr hs)
      refine r_ifF (by rw [t3]; simp; omega) ?_
      walk_at "s"
      exact hR _ _ ⟨_, _, _, rfl, (e25.trans e26).trans e27⟩
  rintro σ S25 ⟨s15, s16, s17, rfl, e25⟩
  refine ⟨trivial, ?_⟩
  have P25 := P24.ext e25
  walk_at "s"
  refine draw_spec P25 (by omega) (by omega) fun S26 pl hpl26 P26 _ => ?_
  have hpl26 : pl < w.n := by omega
  walk_at "s"
  refine holding_spec hw hf (by omega) (by omega) small hpl26 fun S27 L1' V1 v1 r1 e27 H1 sol1' => ?_
  walk_at "s"
  refine holding_spec hw hf.neg (by omega) (by omega) small' hpl26 fun S28 L2' V2 v2 r2 e28 H2 sol2' => ?_
  walk_at "s"
  have sp1 : ((pl, f) : PG.Sp) ∈ L1' := (H1.mem _).mpr (.start hpl26)
  have ll1 := Nat.le_trans (H1.len hw hf) small
  have t3 : V2 (L2'.idxOf (pl, neg f)) = 1 - V1 (L1'.idxOf (pl, f)) := (turned hw hf H1 H2 (by omega) ll1 sol1' sol2' sp1).2.2
  have v2' := sol1'.two (L1'.idxOf (pl, f)) (by rw [game_len]; exact List.idxOf_lt_length_iff.mpr sp1)
  have words : ∃ x y : Str, (if V1 (L1'.idxOf (pl, f)) = 0 then D.str "holds" else .str "fails") = .str x ∧ (if V2 (L2'.idxOf (pl, neg f)) = 0 then D.str "holds" else .str "fails") = .str y ∧ ((x = "holds" ∧ y = "fails") ∨ (x = "fails" ∧ y = "holds")) := by
    by_cases z : V1 (L1'.idxOf (pl, f)) = 0
    · exact ⟨"holds", "fails", by rw [if_pos z], by rw [if_neg (by omega)], .inl ⟨rfl, rfl⟩⟩
    · exact ⟨"fails", "holds", by rw [if_neg z], by rw [if_pos (by omega)], .inr ⟨rfl, rfl⟩⟩
  obtain ⟨x, y, ex, ey, hxy⟩ := words
  rw [ex, ey]
  refine ⟨_, [x, y], rfl, new_at S28 _, by show 2 < 64; decide, fun ys py sy => ?_⟩
  have ey2 := two_words (by rcases hxy with ⟨rfl, rfl⟩ | ⟨rfl, rfl⟩; exact .inl py; exact .inr py) sy
  subst ey2
  walk_at "s"
  refine .inr ⟨_, _, Ext.app _ _ _ _ (new_at _ _), new_at _ _, plain_words, plain_words, ?_⟩
  rfl
end K29
namespace K29
open PySem L2 SD PG
/-! ### the text by places -/
def top (i : Nat) : Stmt := PySem.Challenge.pw_sayingsdown_k29_whole_games_turned_about.main.body.getD i (.Pass ⟨0, 0, 0, 0⟩)
abbrev s_parts_of : Stmt := top 3
abbrev s_all_parts : Stmt := top 4
abbrev s_with_parts : Stmt := top 5
abbrev s_against : Stmt := top 6
abbrev s_binders_in : Stmt := top 7
abbrev s_levels_of : Stmt := top 8
abbrev s_before_spots : Stmt := top 10
abbrev s_drawn : Stmt := top 11
abbrev s_won_parts : Stmt := top 12
abbrev s_solved_game : Stmt := top 13
abbrev s_steps_from : Stmt := top 14
abbrev s_spots_of : Stmt := top 15
abbrev s_is_won_end : Stmt := top 16
abbrev s_game_of : Stmt := top 17
abbrev s_come_to : Stmt := top 19
abbrev s_holding_paper : Stmt := top 20
abbrev s__law_same : Stmt := top 22
abbrev s__law_pool : Stmt := top 23
abbrev s__law_spread : Stmt := top 24
abbrev s__law_draw : Stmt := top 25
abbrev s__law_pick : Stmt := top 26
abbrev s__law_land : Stmt := top 27
abbrev s__law_saying : Stmt := top 28
abbrev s__law_drawn : Stmt := top 29
abbrev s__law_world : Stmt := top 30
abbrev s_law : Stmt := top 31
structure Txt (K : PySem.W.Frag) (w : World) (mg : Str → Option Value) : Prop where
  bool : mg "bool" = none
  dict : mg "dict" = none
  int : mg "int" = none
  isinstance : mg "isinstance" = none
  len : mg "len" = none
  list : mg "list" = none
  max : mg "max" = none
  range : mg "range" = none
  set_ : mg "set" = none
  sorted : mg "sorted" = none
  str : mg "str" = none
  tuple : mg "tuple" = none
  TURNED : ∃ d, mg "TURNED" = some (.ref d) ∧ KTab K w d tab_TURNED
  BINDERS : ∃ d, mg "BINDERS" = some (.ref d) ∧ KTup K d ["least", "greatest"]
structure Got (K : PySem.W.Frag) (mg : Str → Option Value) (x : Str) (st : Stmt) (ps : List Str) : Prop where
  ex : ∃ f fd, Fun K x x st f fd ∧ mg x = some (.ref f) ∧ Binds K fd ps []
theorem sc_parts_of : FnScope ["saying"] ["saying"] (defScope s_parts_of) := ⟨rfl, rfl, rfl, by decide +kernel, rfl, by decide +kernel, by decide +kernel⟩
theorem sc_all_parts : FnScope ["saying", "found", "waiting", "part"] ["saying"] (defScope s_all_parts) := ⟨rfl, rfl, rfl, by decide +kernel, rfl, by decide +kernel, by decide +kernel⟩
theorem sc_with_parts : FnScope ["saying", "parts"] ["saying", "parts"] (defScope s_with_parts) := ⟨rfl, rfl, rfl, by decide +kernel, rfl, by decide +kernel, by decide +kernel⟩
theorem sc_against : FnScope ["saying", "back", "key", "found", "part"] ["saying"] (defScope s_against) := ⟨rfl, rfl, rfl, by decide +kernel, rfl, by decide +kernel, by decide +kernel⟩
theorem sc_binders_in : FnScope ["saying", "part"] ["saying"] (defScope s_binders_in) := ⟨rfl, rfl, rfl, by decide +kernel, rfl, by decide +kernel, by decide +kernel⟩
theorem sc_levels_of : FnScope ["saying", "found", "part", "inner", "level", "one"] ["saying"] (defScope s_levels_of) := ⟨rfl, rfl, rfl, by decide +kernel, rfl, by decide +kernel, by decide +kernel⟩
theorem sc_before_spots : FnScope ["game", "found", "k", "goal", "_"] ["game"] (defScope s_before_spots) := ⟨rfl, rfl, rfl, by decide +kernel, rfl, by decide +kernel, by decide +kernel⟩
theorem sc_drawn : FnScope ["game", "before", "spots", "player", "goals", "moves", "found", "waiting", "left", "goal", "k"] ["game", "before", "spots", "player", "goals", "moves"] (defScope s_drawn) := ⟨rfl, rfl, rfl, by decide +kernel, rfl, by decide +kernel, by decide +kernel⟩
theorem sc_won_parts : FnScope ["game", "before", "spots", "won", "moves", "now", "top", "player", "own", "tops", "near", "inner", "steps", "k", "lost", "far", "goal"] ["game", "before", "spots"] (defScope s_won_parts) := ⟨rfl, rfl, rfl, by decide +kernel, rfl, by decide +kernel, by decide +kernel⟩
theorem sc_solved_game : FnScope ["game", "won", "moves", "winners", "rows", "k"] ["game"] (defScope s_solved_game) := ⟨rfl, rfl, rfl, by decide +kernel, rfl, by decide +kernel, by decide +kernel⟩
theorem sc_steps_from : FnScope ["world", "binders", "spot", "place", "part", "name", "one", "goal"] ["world", "binders", "spot"] (defScope s_steps_from) := ⟨rfl, rfl, rfl, by decide +kernel, rfl, by decide +kernel, by decide +kernel⟩
theorem sc_spots_of : FnScope ["world", "saying", "binders", "waiting", "found", "spot", "place"] ["world", "saying"] (defScope s_spots_of) := ⟨rfl, rfl, rfl, by decide +kernel, rfl, by decide +kernel, by decide +kernel⟩
theorem sc_is_won_end : FnScope ["world", "spot", "place", "part"] ["world", "spot"] (defScope s_is_won_end) := ⟨rfl, rfl, rfl, by decide +kernel, rfl, by decide +kernel, by decide +kernel⟩
theorem sc_game_of : FnScope ["world", "saying", "spots", "places", "binders", "levels", "found", "spot", "steps", "level", "k", "goal"] ["world", "saying"] (defScope s_game_of) := ⟨rfl, rfl, rfl, by decide +kernel, rfl, by decide +kernel, by decide +kernel⟩
theorem sc_come_to : FnScope ["game", "owner", "moves", "start", "found", "waiting", "spot", "goal", "steps"] ["game", "owner", "moves", "start"] (defScope s_come_to) := ⟨rfl, rfl, rfl, by decide +kernel, rfl, by decide +kernel, by decide +kernel⟩
theorem sc_holding_paper : FnScope ["world", "saying", "place", "game", "spots", "winners", "moves", "start", "owner", "told", "rows", "k"] ["world", "saying", "place"] (defScope s_holding_paper) := ⟨rfl, rfl, rfl, by decide +kernel, rfl, by decide +kernel, by decide +kernel⟩
theorem sc__law_same : FnScope ["actual", "due", "k"] ["actual", "due"] (defScope s__law_same) := ⟨rfl, rfl, rfl, by decide +kernel, rfl, by decide +kernel, by decide +kernel⟩
theorem sc__law_pool : FnScope ["script", "salt", "cell"] ["script"] (defScope s__law_pool) := ⟨rfl, rfl, rfl, by decide +kernel, rfl, by decide +kernel, by decide +kernel⟩
theorem sc__law_spread : FnScope ["cell", "mixed", "total", "k"] ["cell"] (defScope s__law_spread) := ⟨rfl, rfl, rfl, by decide +kernel, rfl, by decide +kernel, by decide +kernel⟩
theorem sc__law_draw : FnScope ["pool", "many", "cell", "mixed", "value"] ["pool", "many"] (defScope s__law_draw) := ⟨rfl, rfl, rfl, by decide +kernel, rfl, by decide +kernel, by decide +kernel⟩
theorem sc__law_pick : FnScope ["pool", "items"] ["pool", "items"] (defScope s__law_pick) := ⟨rfl, rfl, rfl, by decide +kernel, rfl, by decide +kernel, by decide +kernel⟩
theorem sc__law_land : FnScope ["pool"] ["pool"] (defScope s__law_land) := ⟨rfl, rfl, rfl, by decide +kernel, rfl, by decide +kernel, by decide +kernel⟩
theorem sc__law_saying : FnScope ["pool", "land", "deep", "state", "known", "free", "turn", "x"] ["pool", "land", "deep", "state", "known", "free"] (defScope s__law_saying) := ⟨rfl, rfl, rfl, by decide +kernel, rfl, by decide +kernel, by decide +kernel⟩
theorem sc__law_drawn : FnScope ["pool", "land", "deep", "first", "kind", "f", "body"] ["pool", "land", "deep"] (defScope s__law_drawn) := ⟨rfl, rfl, rfl, by decide +kernel, rfl, by decide +kernel, by decide +kernel⟩
theorem sc__law_world : FnScope ["pool", "land", "most", "n", "marks", "dense", "ways", "j", "i", "k", "place"] ["pool", "land", "most"] (defScope s__law_world) := ⟨rfl, rfl, rfl, by decide +kernel, rfl, by decide +kernel, by decide +kernel⟩
theorem sc_law : FnScope ["script", "pool", "n", "game", "winners", "other", "far", "land", "f", "world", "g", "spots", "turned", "won", "lost", "k", "place", "part", "j", "spot", "owner"] ["script"] (defScope s_law) := ⟨rfl, rfl, rfl, by decide +kernel, rfl, by decide +kernel, by decide +kernel⟩
section
variable {P : Program} {w : World} {K : PySem.W.Frag} {mg : Str → Option Value} {base : Heap}
set_option maxHeartbeats 4000000 in
theorem ok_parts_of (T : Txt K w mg) (g : Got K mg "parts_of" s_parts_of ["saying"])  : DefOk P w K mg base 1 "parts_of" F_parts_of := by
  obtain ⟨f, fd, F, h1, h2⟩ := g.ex
  exact ⟨f, fd, ["saying"], fn_ok (k := 0) F sc_parts_of fun cdv A outer s H E hr =>
  (rs_cons (rs_if (rt_cmp (od_in (hu_of hr)) (re_ix (id_ix (hu_of hr)) (re_var 0) re_int) (re_tup (ra_cons re_str (ra_cons re_str ra_nil))) (by rfl)) (rs_one (rs_ret (re_sl (re_var 0) (ro_some re_int) ro_none))) rs_nil)
  (rs_one (rs_ret (re_sl (re_var 0) (ro_some re_int) ro_none)))), h1, F.kp, h2⟩
set_option maxHeartbeats 4000000 in
theorem ok_all_parts (T : Txt K w mg) (g : Got K mg "all_parts" s_all_parts ["saying"]) (h_parts_of : DefOk P w K mg base 1 "parts_of" F_parts_of) : DefOk P w K mg base 2 "all_parts" F_all_parts := by
  obtain ⟨f, fd, F, h1, h2⟩ := g.ex
  exact ⟨f, fd, ["saying"], fn_ok (k := 1) F sc_all_parts fun cdv A outer s H E hr =>
  (rs_cons (rs_set (i := 1) sc_all_parts.nd (re_lst ra_nil))
  (rs_cons (rs_set (i := 2) sc_all_parts.nd (re_lst (ra_cons (re_var 0) ra_nil)))
  (rs_cons (rs_while PassesOwn.never (rt_cmp od_gt (re_callB cd_len (by rfl) T.len bt_len (ra_cons (re_var 2) ra_nil)) re_int (nomark _)) (rs_cons (rs_set (i := 3) sc_all_parts.nd (re_mt0 PySem.F.plainAttrs_list PySem.F.slot_list_pop PySem.F.type_list_pop md_pop (re_var 2)))
  (rs_cons (rs_expr (re_mt PySem.F.plainAttrs_list PySem.F.slot_list_append PySem.F.type_list_append md_append (re_var 1) (ra_cons (re_var 3) ra_nil)))
  (rs_one (rs_expr (re_mt PySem.F.plainAttrs_list PySem.F.slot_list_extend PySem.F.type_list_extend md_extend (re_var 2) (ra_cons (re_rev (re_callTy (cd_list rfl) (by rfl) T.list bt_list (ra_cons (re_call h_parts_of hr (ra_cons (re_var 3) ra_nil)) ra_nil))) ra_nil)))))))
  (rs_one (rs_ret (re_var 1)))))), h1, F.kp, h2⟩
set_option maxHeartbeats 4000000 in
theorem ok_with_parts (T : Txt K w mg) (g : Got K mg "with_parts" s_with_parts ["saying", "parts"])  : DefOk P w K mg base 1 "with_parts" F_with_parts := by
  obtain ⟨f, fd, F, h1, h2⟩ := g.ex
  exact ⟨f, fd, ["saying", "parts"], fn_ok (k := 0) F sc_with_parts fun cdv A outer s H E hr =>
  (rs_cons (rs_if (rt_cmp (od_in (hu_of hr)) (re_ix (id_ix (hu_of hr)) (re_var 0) re_int) (re_tup (ra_cons re_str (ra_cons re_str ra_nil))) (by rfl)) (rs_one (rs_ret (re_op od_add (re_tup (ra_cons (re_ix (id_ix (hu_of hr)) (re_var 0) re_int) ra_nil)) (re_callTy cd_tuple (by rfl) T.tuple bt_tuple (ra_cons (re_var 1) ra_nil))))) rs_nil)
  (rs_one (rs_ret (re_op od_add (re_sl (re_var 0) ro_none (ro_some re_int)) (re_callTy cd_tuple (by rfl) T.tuple bt_tuple (ra_cons (re_var 1) ra_nil)))))), h1, F.kp, h2⟩
set_option maxHeartbeats 4000000 in
theorem ok_against (T : Txt K w mg) (g : Got K mg "against" s_against ["saying"]) (h_with_parts : DefOk P w K mg base 1 "with_parts" F_with_parts) (h_parts_of : DefOk P w K mg base 1 "parts_of" F_parts_of) : ∀ k, DefOk P w K mg base (1 + k) "against" (F_against k)
  | 0 => by
    obtain ⟨f, fd, F, h1, h2⟩ := g.ex
    exact ⟨f, fd, _, fn_none, h1, F.kp, h2⟩
  | k + 1 => by
    have h_against := ok_against T g h_with_parts h_parts_of k
    obtain ⟨f, fd, F, h1, h2⟩ := g.ex
    exact ⟨f, fd, ["saying"], fn_ok (k := 1 + k) F sc_against fun cdv A outer s H E hr =>
  (rs_cons (rs_setDc (i := 1) (own := [("key", 2)]) rfl sc_against.nd (ri_kdE (x := "TURNED") (tab := tab_TURNED) T.TURNED) (blkOk_by (by kernel_rfl)) (pgd_name 2) (fun _ _ _ _ _ => (pg_name sc_against.nd rfl (Or.inl rfl))) (fun _ _ _ _ _ => rts_nil) (fun _ _ _ _ _ => (re_kixE (x := "TURNED") (tab := tab_TURNED) T.TURNED (re_var 2))) (fun _ _ _ _ _ => (re_var 2)) (sw_dc rfl rfl rfl (by decide +kernel)))
  (rs_cons (rs_for PassesOwn.never rfl (ri_kdE (x := "TURNED") (tab := tab_TURNED) T.TURNED) (rg_name sc_against.nd (i := 2)) (rs_one (rs_asg (re_kixE (x := "TURNED") (tab := tab_TURNED) T.TURNED (re_var 2)) (rg_sub (hu_of hr) (re_var 1) (re_var 2)))))
  (rs_cons (rs_set (i := 3) sc_against.nd (re_call h_with_parts hr (ra_cons (re_var 0) (ra_cons (re_lc (own := [("part", 4)]) rfl sc_against.nd (ri_seq (re_call h_parts_of hr (ra_cons (re_var 0) ra_nil))) (blkOk_by (by kernel_rfl)) (pgd_name 4) (fun _ _ _ _ _ => (pg_name sc_against.nd rfl (Or.inl rfl))) (fun _ _ _ _ _ => rts_nil) (fun _ _ _ _ _ => (re_call h_against hr (ra_cons (re_var 4) ra_nil)))) ra_nil))))
  (rs_one (rs_ret (re_op od_add (re_tup (ra_cons (re_get2 (hu_of hr) (re_var 1) (re_ix (id_ix (hu_of hr)) (re_var 0) re_int) (re_ix (id_ix (hu_of hr)) (re_var 0) re_int)) ra_nil)) (re_sl (re_var 3) (ro_some re_int) ro_none))))))), h1, F.kp, h2⟩
set_option maxHeartbeats 4000000 in
theorem ok_binders_in (T : Txt K w mg) (g : Got K mg "binders_in" s_binders_in ["saying"]) (h_all_parts : DefOk P w K mg base 2 "all_parts" F_all_parts) : DefOk P w K mg base 3 "binders_in" F_binders_in := by
  obtain ⟨f, fd, F, h1, h2⟩ := g.ex
  exact ⟨f, fd, ["saying"], fn_ok (k := 2) F sc_binders_in fun cdv A outer s H E hr =>
  (rs_one (rs_ret (re_dc (own := [("part", 1)]) rfl sc_binders_in.nd (ri_seq (re_call h_all_parts hr (ra_cons (re_var 0) ra_nil))) (blkOk_by (by kernel_rfl)) (pgd_name 1) (fun _ _ _ _ _ => (pg_name sc_binders_in.nd rfl (Or.inl rfl))) (fun _ _ _ _ _ => (rts_one (rt_cmp (od_in (hu_of hr)) (re_ix (id_ix (hu_of hr)) (re_var 1) re_int) (re_gtupE (x := "BINDERS") (ks := ["least", "greatest"]) T.BINDERS) (by rfl)))) (fun _ _ _ _ _ => (re_ix (id_ix (hu_of hr)) (re_var 1) re_int)) (fun _ _ _ _ _ => (re_var 1))))), h1, F.kp, h2⟩
set_option maxHeartbeats 4000000 in
theorem ok_levels_of (T : Txt K w mg) (g : Got K mg "levels_of" s_levels_of ["saying"]) (h_all_parts : DefOk P w K mg base 2 "all_parts" F_all_parts) : DefOk P w K mg base 3 "levels_of" F_levels_of := by
  obtain ⟨f, fd, F, h1, h2⟩ := g.ex
  exact ⟨f, fd, ["saying"], fn_ok (k := 2) F sc_levels_of fun cdv A outer s H E hr =>
  (rs_cons (rs_set (i := 1) sc_levels_of.nd re_dict0)
  (rs_cons (rs_for PassesOwn.never rfl (ri_seq (re_rev (re_call h_all_parts hr (ra_cons (re_var 0) ra_nil)))) (rg_name sc_levels_of.nd (i := 2)) (rs_one (rs_if (rt_cmp (od_in (hu_of hr)) (re_ix (id_ix (hu_of hr)) (re_var 2) re_int) (re_gtupE (x := "BINDERS") (ks := ["least", "greatest"]) T.BINDERS) (by rfl)) (rs_cons (rs_setLc (i := 3) (own := [("one", 5)]) rfl sc_levels_of.nd (ri_seq (re_call h_all_parts hr (ra_cons (re_ix (id_ix (hu_of hr)) (re_var 2) re_int) ra_nil))) (blkOk_by (by kernel_rfl)) (pgd_name 5) (fun _ _ _ _ _ => (pg_name sc_levels_of.nd rfl (Or.inl rfl))) (fun _ _ _ _ _ => (rts_one (rt_cmp (od_in (hu_of hr)) (re_ix (id_ix (hu_of hr)) (re_var 5) re_int) (re_gtupE (x := "BINDERS") (ks := ["least", "greatest"]) T.BINDERS) (by rfl)))) (fun _ _ _ _ _ => (re_ix (id_ix (hu_of hr)) (re_var 1) (re_ix (id_ix (hu_of hr)) (re_var 5) re_int))) (sw_true rfl rfl rfl (by decide +kernel)))
  (rs_cons (rs_set (i := 4) sc_levels_of.nd (re_callB (cd_max rfl) (by rfl) T.max bt_max (ra_cons (re_op od_add (re_var 3) (re_lst (ra_cons (re_if (rt_cmp (od_eq hr.units) (re_ix (id_ix (hu_of hr)) (re_var 2) re_int) re_str (nomark _)) re_int re_int) ra_nil))) ra_nil)))
  (rs_one (rs_asg (re_if (rt_cmp (od_eq hr.units) (re_cmp (od_eq hr.units) (re_op od_mod (re_var 4) re_int) re_int (nomark _)) (re_cmp (od_eq hr.units) (re_ix (id_ix (hu_of hr)) (re_var 2) re_int) re_str (nomark _)) (nomark _)) (re_var 4) (re_op od_add (re_var 4) re_int)) (rg_sub (hu_of hr) (re_var 1) (re_ix (id_ix (hu_of hr)) (re_var 2) re_int)))))) rs_nil)))
  (rs_one (rs_ret (re_var 1))))), h1, F.kp, h2⟩
set_option maxHeartbeats 4000000 in
theorem ok_before_spots (T : Txt K w mg) (g : Got K mg "before_spots" s_before_spots ["game"])  : DefOk P w K mg base 1 "before_spots" F_before_spots := by
  obtain ⟨f, fd, F, h1, h2⟩ := g.ex
  exact ⟨f, fd, ["game"], fn_ok (k := 0) F sc_before_spots fun cdv A outer s H E hr =>
  (rs_cons (rs_setLc (i := 1) (own := [("_", 4)]) rfl sc_before_spots.nd (ri_seq (re_var 0)) (blkOk_by (by kernel_rfl)) (pgd_name 4) (fun _ _ _ _ _ => (pg_name sc_before_spots.nd rfl (Or.inl rfl))) (fun _ _ _ _ _ => rts_nil) (fun _ _ _ _ _ => (re_lst ra_nil)) (sw_true rfl rfl rfl (by decide +kernel)))
  (rs_cons (rs_for PassesOwn.never rfl (ri_range1 T.range (ra_cons (re_callB cd_len (by rfl) T.len bt_len (ra_cons (re_var 0) ra_nil)) ra_nil)) (rg_name sc_before_spots.nd (i := 2)) (rs_one (rs_for PassesOwn.never rfl (ri_seq (re_sortSet rfl T.sorted T.set_ (re_ix (id_ix (hu_of hr)) (re_ix (id_ix (hu_of hr)) (re_var 0) (re_var 2)) re_int))) (rg_name sc_before_spots.nd (i := 3)) (rs_one (rs_expr (re_mt PySem.F.plainAttrs_list PySem.F.slot_list_append PySem.F.type_list_append md_append (re_ix (id_ix (hu_of hr)) (re_var 1) (re_var 3)) (ra_cons (re_var 2) ra_nil)))))))
  (rs_one (rs_ret (re_var 1))))), h1, F.kp, h2⟩
set_option maxHeartbeats 4000000 in
theorem ok_drawn (T : Txt K w mg) (g : Got K mg "drawn" s_drawn ["game", "before", "spots", "player", "goals", "moves"])  : DefOk P w K mg base 1 "drawn" F_drawn := by
  obtain ⟨f, fd, F, h1, h2⟩ := g.ex
  exact ⟨f, fd, ["game", "before", "spots", "player", "goals", "moves"], fn_ok (k := 0) F sc_drawn fun cdv A outer s H E hr =>
  (rs_cons (rs_set (i := 6) sc_drawn.nd (re_callTy cd_dict (by rfl) T.dict bt_dict (ra_cons (re_var 4) ra_nil)))
  (rs_cons (rs_set (i := 7) sc_drawn.nd (re_callTy (cd_list rfl) (by rfl) T.list bt_list (ra_cons (re_var 4) ra_nil)))
  (rs_cons (rs_lock 2 (rs_setDc (i := 8) (own := [("k", 10)]) rfl sc_drawn.nd (ri_keys 2) (blkOk_by (by kernel_rfl)) (pgd_name 10) (fun _ _ _ _ _ => (pg_name sc_drawn.nd rfl (Or.inl rfl))) (fun _ _ _ _ _ => rts_nil) (fun _ _ _ _ _ => (re_var 10)) (fun _ _ _ _ _ => (re_lenSetI rfl T.len T.set_ (re_lc (own := [("goal", 9)]) rfl sc_drawn.nd (ri_seq (re_ix (id_ix (hu_of hr)) (re_ix (id_ix (hu_of hr)) (re_var 0) (re_var 10)) re_int)) (blkOk_by (by kernel_rfl)) (pgd_name 9) (fun _ _ _ _ _ => (pg_name sc_drawn.nd rfl (Or.inl rfl))) (fun _ _ _ _ _ => (rts_one (rt_cmp (od_in (hu_of hr)) (re_var 9) (re_var 2) (by rfl)))) (fun _ _ _ _ _ => (re_var 9))))) (sw_dc rfl rfl rfl (by decide +kernel))))
  (rs_cons (rs_while PassesOwn.never (rt_cmp od_gt (re_callB cd_len (by rfl) T.len bt_len (ra_cons (re_var 7) ra_nil)) re_int (nomark _)) (rs_cons (rs_set (i := 9) sc_drawn.nd (re_mt0 PySem.F.plainAttrs_list PySem.F.slot_list_pop PySem.F.type_list_pop md_pop (re_var 7)))
  (rs_one (rs_for PassesOwn.never rfl (ri_seq (re_ix (id_ix (hu_of hr)) (re_var 1) (re_var 9))) (rg_name sc_drawn.nd (i := 10)) (rs_one (rs_if (rt_w (rw_and (rt_cmp (od_in (hu_of hr)) (re_var 10) (re_var 2) (by rfl)) (rw_and1 (rt_cmp (od_notin (hu_of hr)) (re_var 10) (re_var 6) (by rfl))))) (rs_cons (rs_augD (hu_of hr) ipd_sub (re_var 8) (re_var 10) re_int)
  (rs_cons (rs_if (rt_cmp (od_eq hr.units) (re_ix (id_ix (hu_of hr)) (re_ix (id_ix (hu_of hr)) (re_var 0) (re_var 10)) re_int) (re_var 3) (nomark _)) (rs_one (rs_asg (re_var 9) (rg_sub (hu_of hr) (re_var 5) (re_var 10)))) rs_nil)
  (rs_one (rs_if (rt_w (rw_or (rt_cmp (od_eq hr.units) (re_ix (id_ix (hu_of hr)) (re_ix (id_ix (hu_of hr)) (re_var 0) (re_var 10)) re_int) (re_var 3) (nomark _)) (rw_or1 (rt_cmp od_le (re_ix (id_ix (hu_of hr)) (re_var 8) (re_var 10)) re_int (nomark _))))) (rs_cons (rs_asg re_bl (rg_sub (hu_of hr) (re_var 6) (re_var 10)))
  (rs_one (rs_expr (re_mt PySem.F.plainAttrs_list PySem.F.slot_list_append PySem.F.type_list_append md_append (re_var 7) (ra_cons (re_var 10) ra_nil))))) rs_nil)))) rs_nil))))))
  (rs_one (rs_ret (re_var 6))))))), h1, F.kp, h2⟩
set_option maxHeartbeats 4000000 in
theorem ok_won_parts (T : Txt K w mg) (g : Got K mg "won_parts" s_won_parts ["game", "before", "spots"]) (h_drawn : DefOk P w K mg base 1 "drawn" F_drawn) : ∀ k, DefOk P w K mg base (1 + k) "won_parts" (F_won_parts k)
  | 0 => by
    obtain ⟨f, fd, F, h1, h2⟩ := g.ex
    exact ⟨f, fd, _, fn_none, h1, F.kp, h2⟩
  | k + 1 => by
    have h_won_parts := ok_won_parts T g h_drawn k
    obtain ⟨f, fd, F, h1, h2⟩ := g.ex
    exact ⟨f, fd, ["game", "before", "spots"], fn_ok (k := 1 + k) F sc_won_parts fun cdv A outer s H E hr =>
  (rs_cons (rs_set (i := 3) sc_won_parts.nd (re_lst (ra_cons re_dict0 (ra_cons re_dict0 ra_nil))))
  (rs_cons (rs_set (i := 4) sc_won_parts.nd re_dict0)
  (rs_cons (rs_set (i := 5) sc_won_parts.nd (re_var 2))
  (rs_cons (rs_while PassesOwn.never (rt_cmp od_gt (re_callB cd_len (by rfl) T.len bt_len (ra_cons (re_var 5) ra_nil)) re_int (nomark _)) (rs_cons (rs_set (i := 6) sc_won_parts.nd (re_callB (cd_max rfl) (by rfl) T.max bt_max (ra_cons (re_lock 5 (re_lc (own := [("k", 13)]) rfl sc_won_parts.nd (ri_keys 5) (blkOk_by (by kernel_rfl)) (pgd_name 13) (fun _ _ _ _ _ => (pg_name sc_won_parts.nd rfl (Or.inl rfl))) (fun _ _ _ _ _ => rts_nil) (fun _ _ _ _ _ => (re_ix (id_ix (hu_of hr)) (re_ix (id_ix (hu_of hr)) (re_var 0) (re_var 13)) re_int)))) ra_nil)))
  (rs_cons (rs_set (i := 7) sc_won_parts.nd (re_op od_mod (re_var 6) re_int))
  (rs_cons (rs_set (i := 8) sc_won_parts.nd re_dict0)
  (rs_cons (rs_lock 5 (rs_setDc (i := 9) (own := [("k", 13)]) rfl sc_won_parts.nd (ri_keys 5) (blkOk_by (by kernel_rfl)) (pgd_name 13) (fun _ _ _ _ _ => (pg_name sc_won_parts.nd rfl (Or.inl rfl))) (fun _ _ _ _ _ => (rts_one (rt_cmp (od_eq hr.units) (re_ix (id_ix (hu_of hr)) (re_ix (id_ix (hu_of hr)) (re_var 0) (re_var 13)) re_int) (re_var 6) (nomark _)))) (fun _ _ _ _ _ => (re_var 13)) (fun _ _ _ _ _ => re_bl) (sw_dc rfl rfl rfl (by decide +kernel))))
  (rs_cons (rs_set (i := 10) sc_won_parts.nd (re_call h_drawn hr (ra_cons (re_var 0) (ra_cons (re_var 1) (ra_cons (re_var 5) (ra_cons (re_var 7) (ra_cons (re_var 9) (ra_cons (re_var 8) ra_nil))))))))
  (rs_cons (rs_asg (re_call h_won_parts hr (ra_cons (re_var 0) (ra_cons (re_var 1) (ra_cons (re_lock 5 (re_dc (own := [("k", 13)]) rfl sc_won_parts.nd (ri_keys 5) (blkOk_by (by kernel_rfl)) (pgd_name 13) (fun _ _ _ _ _ => (pg_name sc_won_parts.nd rfl (Or.inl rfl))) (fun _ _ _ _ _ => (rts_one (rt_cmp (od_notin (hu_of hr)) (re_var 13) (re_var 10) (by rfl)))) (fun _ _ _ _ _ => (re_var 13)) (fun _ _ _ _ _ => re_bl))) ra_nil)))) (rg_tup rfl (rgs_cons (rg_name sc_won_parts.nd (i := 11)) (rgs_cons (rg_name sc_won_parts.nd (i := 12)) rgs_nil))))
  (rs_one (rs_if (rt_cmp (od_eq hr.units) (re_callB cd_len (by rfl) T.len bt_len (ra_cons (re_ix (id_ix (hu_of hr)) (re_var 11) (re_op od_sub re_int (re_var 7))) ra_nil)) re_int (nomark _)) (rs_cons (rs_expr (re_mt PySem.F.plainAttrs_dict PySem.F.slot_dict_update PySem.F.type_dict_update md_update (re_ix (id_ix (hu_of hr)) (re_var 3) (re_var 7)) (ra_cons (re_var 5) ra_nil)))
  (rs_cons (rs_expr (re_mt PySem.F.plainAttrs_dict PySem.F.slot_dict_update PySem.F.type_dict_update md_update (re_var 4) (ra_cons (re_var 12) ra_nil)))
  (rs_cons (rs_expr (re_mt PySem.F.plainAttrs_dict PySem.F.slot_dict_update PySem.F.type_dict_update md_update (re_var 4) (ra_cons (re_var 8) ra_nil)))
  (rs_cons (rs_lock 9 (rs_for PassesOwn.never rfl (ri_keys 9) (rg_name sc_won_parts.nd (i := 13)) (rs_one (rs_if (rt_cmp (od_eq hr.units) (re_ix (id_ix (hu_of hr)) (re_ix (id_ix (hu_of hr)) (re_var 0) (re_var 13)) re_int) (re_var 7) (nomark _)) (rs_one (rs_asg (re_ix (id_ix (hu_of hr)) (re_lc (own := [("goal", 16)]) rfl sc_won_parts.nd (ri_seq (re_ix (id_ix (hu_of hr)) (re_ix (id_ix (hu_of hr)) (re_var 0) (re_var 13)) re_int)) (blkOk_by (by kernel_rfl)) (pgd_name 16) (fun _ _ _ _ _ => (pg_name sc_won_parts.nd rfl (Or.inl rfl))) (fun _ _ _ _ _ => (rts_one (rt_cmp (od_in (hu_of hr)) (re_var 16) (re_var 5) (by rfl)))) (fun _ _ _ _ _ => (re_var 16))) re_int) (rg_sub (hu_of hr) (re_var 4) (re_var 13)))) rs_nil))))
  (rs_one (rs_set (i := 5) sc_won_parts.nd re_dict0)))))) (rs_cons (rs_set (i := 14) sc_won_parts.nd re_dict0)
  (rs_cons (rs_set (i := 15) sc_won_parts.nd (re_call h_drawn hr (ra_cons (re_var 0) (ra_cons (re_var 1) (ra_cons (re_var 5) (ra_cons (re_op od_sub re_int (re_var 7)) (ra_cons (re_ix (id_ix (hu_of hr)) (re_var 11) (re_op od_sub re_int (re_var 7))) (ra_cons (re_var 14) ra_nil))))))))
  (rs_cons (rs_expr (re_mt PySem.F.plainAttrs_dict PySem.F.slot_dict_update PySem.F.type_dict_update md_update (re_ix (id_ix (hu_of hr)) (re_var 3) (re_op od_sub re_int (re_var 7))) (ra_cons (re_var 15) ra_nil)))
  (rs_cons (rs_expr (re_mt PySem.F.plainAttrs_dict PySem.F.slot_dict_update PySem.F.type_dict_update md_update (re_var 4) (ra_cons (re_var 14) ra_nil)))
  (rs_cons (rs_expr (re_mt PySem.F.plainAttrs_dict PySem.F.slot_dict_update PySem.F.type_dict_update md_update (re_var 4) (ra_cons (re_lock 12 (re_dc (own := [("k", 13)]) rfl sc_won_parts.nd (ri_keys 12) (blkOk_by (by kernel_rfl)) (pgd_name 13) (fun _ _ _ _ _ => (pg_name sc_won_parts.nd rfl (Or.inl rfl))) (fun _ _ _ _ _ => (rts_one (rt_cmp (od_in (hu_of hr)) (re_var 13) (re_ix (id_ix (hu_of hr)) (re_var 11) (re_op od_sub re_int (re_var 7))) (by rfl)))) (fun _ _ _ _ _ => (re_var 13)) (fun _ _ _ _ _ => (re_ix (id_ix (hu_of hr)) (re_var 12) (re_var 13))))) ra_nil)))
  (rs_one (rs_set (i := 5) sc_won_parts.nd (re_lock 5 (re_dc (own := [("k", 13)]) rfl sc_won_parts.nd (ri_keys 5) (blkOk_by (by kernel_rfl)) (pgd_name 13) (fun _ _ _ _ _ => (pg_name sc_won_parts.nd rfl (Or.inl rfl))) (fun _ _ _ _ _ => (rts_one (rt_cmp (od_notin (hu_of hr)) (re_var 13) (re_var 15) (by rfl)))) (fun _ _ _ _ _ => (re_var 13)) (fun _ _ _ _ _ => re_bl)))))))))))))))))))
  (rs_one (rs_ret (re_tup (ra_cons (re_var 3) (ra_cons (re_var 4) ra_nil))))))))), h1, F.kp, h2⟩
set_option maxHeartbeats 4000000 in
theorem ok_solved_game (T : Txt K w mg) (g : Got K mg "solved_game" s_solved_game ["game"]) (h_won_parts : DefOk P w K mg base 17 "won_parts" (F_won_parts 16)) (h_before_spots : DefOk P w K mg base 1 "before_spots" F_before_spots) : DefOk P w K mg base 18 "solved_game" F_solved_game := by
  obtain ⟨f, fd, F, h1, h2⟩ := g.ex
  exact ⟨f, fd, ["game"], fn_ok (k := 17) F sc_solved_game fun cdv A outer s H E hr =>
  (rs_cons (rs_asg (re_call h_won_parts hr (ra_cons (re_var 0) (ra_cons (re_call h_before_spots hr (ra_cons (re_var 0) ra_nil)) (ra_cons (re_dc (own := [("k", 5)]) rfl sc_solved_game.nd (ri_range1 T.range (ra_cons (re_callB cd_len (by rfl) T.len bt_len (ra_cons (re_var 0) ra_nil)) ra_nil)) (blkOk_by (by kernel_rfl)) (pgd_name 5) (fun _ _ _ _ _ => (pg_name sc_solved_game.nd rfl (Or.inl rfl))) (fun _ _ _ _ _ => rts_nil) (fun _ _ _ _ _ => (re_var 5)) (fun _ _ _ _ _ => re_bl)) ra_nil)))) (rg_tup rfl (rgs_cons (rg_name sc_solved_game.nd (i := 1)) (rgs_cons (rg_name sc_solved_game.nd (i := 2)) rgs_nil))))
  (rs_cons (rs_set (i := 3) sc_solved_game.nd (re_callTy cd_tuple (by rfl) T.tuple bt_tuple (ra_cons (re_lc (own := [("k", 5)]) rfl sc_solved_game.nd (ri_range1 T.range (ra_cons (re_callB cd_len (by rfl) T.len bt_len (ra_cons (re_var 0) ra_nil)) ra_nil)) (blkOk_by (by kernel_rfl)) (pgd_name 5) (fun _ _ _ _ _ => (pg_name sc_solved_game.nd rfl (Or.inl rfl))) (fun _ _ _ _ _ => rts_nil) (fun _ _ _ _ _ => (re_if (rt_cmp (od_in (hu_of hr)) (re_var 5) (re_ix (id_ix (hu_of hr)) (re_var 1) re_int) (by rfl)) re_int re_int))) ra_nil)))
  (rs_cons (rs_set (i := 4) sc_solved_game.nd (re_lst ra_nil))
  (rs_cons (rs_for PassesOwn.never rfl (ri_range1 T.range (ra_cons (re_callB cd_len (by rfl) T.len bt_len (ra_cons (re_var 0) ra_nil)) ra_nil)) (rg_name sc_solved_game.nd (i := 5)) (rs_one (rs_expr (re_mt PySem.F.plainAttrs_list PySem.F.slot_list_append PySem.F.type_list_append md_append (re_var 4) (ra_cons (re_if (rt_cmp (od_eq hr.units) (re_ix (id_ix (hu_of hr)) (re_ix (id_ix (hu_of hr)) (re_var 0) (re_var 5)) re_int) (re_ix (id_ix (hu_of hr)) (re_var 3) (re_var 5)) (nomark _)) (re_ix (id_ix (hu_of hr)) (re_var 2) (re_var 5)) re_non) ra_nil)))))
  (rs_one (rs_ret (re_tup (ra_cons (re_var 3) (ra_cons (re_callTy cd_tuple (by rfl) T.tuple bt_tuple (ra_cons (re_var 4) ra_nil)) ra_nil))))))))), h1, F.kp, h2⟩
set_option maxHeartbeats 4000000 in
theorem ok_steps_from (T : Txt K w mg) (g : Got K mg "steps_from" s_steps_from ["world", "binders", "spot"])  : DefOk P w K mg base 1 "steps_from" F_steps_from := by
  obtain ⟨f, fd, F, h1, h2⟩ := g.ex
  exact ⟨f, fd, ["world", "binders", "spot"], fn_ok (k := 0) F sc_steps_from fun cdv A outer s H E hr =>
  (rs_cons (rs_asg (re_var 2) (rg_tup rfl (rgs_cons (rg_name sc_steps_from.nd (i := 3)) (rgs_cons (rg_name sc_steps_from.nd (i := 4)) rgs_nil))))
  (rs_cons (rs_set (i := 5) sc_steps_from.nd (re_ix (id_ix (hu_of hr)) (re_var 4) re_int))
  (rs_cons (rs_if (rt_cmp (od_in (hu_of hr)) (re_var 5) (re_tup (ra_cons re_str (ra_cons re_str ra_nil))) (by rfl)) (rs_one (rs_ret (re_lc (own := [("one", 6)]) rfl sc_steps_from.nd (ri_seq (re_sl (re_var 4) (ro_some re_int) ro_none)) (blkOk_by (by kernel_rfl)) (pgd_name 6) (fun _ _ _ _ _ => (pg_name sc_steps_from.nd rfl (Or.inl rfl))) (fun _ _ _ _ _ => rts_nil) (fun _ _ _ _ _ => (re_tup (ra_cons (re_var 3) (ra_cons (re_var 6) ra_nil))))))) rs_nil)
  (rs_cons (rs_if (rt_cmp (od_in (hu_of hr)) (re_var 5) (re_tup (ra_cons re_str (ra_cons re_str ra_nil))) (by rfl)) (rs_one (rs_ret (re_lc (own := [("goal", 7)]) rfl sc_steps_from.nd (ri_seq (re_ix (id_ix (hu_of hr)) (re_ix (id_ix (hu_of hr)) (re_ix (id_ix (hu_of hr)) (re_var 0) re_int) (re_ix (id_ix (hu_of hr)) (re_var 4) re_int)) (re_var 3))) (blkOk_by (by kernel_rfl)) (pgd_name 7) (fun _ _ _ _ _ => (pg_name sc_steps_from.nd rfl (Or.inl rfl))) (fun _ _ _ _ _ => rts_nil) (fun _ _ _ _ _ => (re_tup (ra_cons (re_var 7) (ra_cons (re_ix (id_ix (hu_of hr)) (re_var 4) re_int) ra_nil))))))) rs_nil)
  (rs_cons (rs_if (rt_cmp (od_in (hu_of hr)) (re_var 5) (re_gtupE (x := "BINDERS") (ks := ["least", "greatest"]) T.BINDERS) (by rfl)) (rs_one (rs_ret (re_lst (ra_cons (re_tup (ra_cons (re_var 3) (ra_cons (re_ix (id_ix (hu_of hr)) (re_var 4) re_int) ra_nil))) ra_nil)))) rs_nil)
  (rs_one (rs_ret (re_if (rt_cmp (od_eq hr.units) (re_var 5) re_str (nomark _)) (re_lst (ra_cons (re_tup (ra_cons (re_var 3) (ra_cons (re_ix (id_ix (hu_of hr)) (re_ix (id_ix (hu_of hr)) (re_var 1) (re_ix (id_ix (hu_of hr)) (re_var 4) re_int)) re_int) ra_nil))) ra_nil)) (re_lst ra_nil))))))))), h1, F.kp, h2⟩
set_option maxHeartbeats 4000000 in
theorem ok_spots_of (T : Txt K w mg) (g : Got K mg "spots_of" s_spots_of ["world", "saying"]) (h_steps_from : DefOk P w K mg base 1 "steps_from" F_steps_from) (h_binders_in : DefOk P w K mg base 3 "binders_in" F_binders_in) : DefOk P w K mg base 4 "spots_of" F_spots_of := by
  obtain ⟨f, fd, F, h1, h2⟩ := g.ex
  exact ⟨f, fd, ["world", "saying"], fn_ok (k := 3) F sc_spots_of fun cdv A outer s H E hr =>
  (rs_cons (rs_set (i := 2) sc_spots_of.nd (re_call h_binders_in hr (ra_cons (re_var 1) ra_nil)))
  (rs_cons (rs_setLc (i := 3) (own := [("place", 6)]) rfl sc_spots_of.nd (ri_range1 T.range (ra_cons (re_ix (id_ix (hu_of hr)) (re_var 0) re_int) ra_nil)) (blkOk_by (by kernel_rfl)) (pgd_name 6) (fun _ _ _ _ _ => (pg_name sc_spots_of.nd rfl (Or.inl rfl))) (fun _ _ _ _ _ => rts_nil) (fun _ _ _ _ _ => (re_tup (ra_cons (re_var 6) (ra_cons (re_var 1) ra_nil)))) (sw_true rfl rfl rfl (by decide +kernel)))
  (rs_cons (rs_setDcN (i := 4) (own := [("spot", 5)]) rfl (hu65 hr) sc_spots_of.nd (ri_seq (re_var 3)) (blkOk_by (by kernel_rfl)) (pgd_name 5) (fun _ _ _ _ _ => (pg_name sc_spots_of.nd rfl (Or.inl rfl))) (fun _ _ _ _ _ => rts_nil) (fun _ _ _ _ _ => (re_var 5)) (fun _ _ _ _ _ => re_bl) (sw_dc rfl rfl rfl (by decide +kernel)))
  (rs_cons (rs_while PassesOwn.never (rt_cmp od_gt (re_callB cd_len (by rfl) T.len bt_len (ra_cons (re_var 3) ra_nil)) re_int (nomark _)) (rs_one (rs_for PassesOwn.never rfl (ri_seq (re_call h_steps_from hr (ra_cons (re_var 0) (ra_cons (re_var 2) (ra_cons (re_mt0 PySem.F.plainAttrs_list PySem.F.slot_list_pop PySem.F.type_list_pop md_pop (re_var 3)) ra_nil))))) (rg_name sc_spots_of.nd (i := 5)) (rs_one (rs_if (rt_cmp (od_notinT (hu65 hr)) (re_var 5) (re_var 4) (by rfl)) (rs_cons (rs_asg re_bl (rg_subT (hu65 hr) (re_var 4) (re_var 5)))
  (rs_one (rs_expr (re_mt PySem.F.plainAttrs_list PySem.F.slot_list_append PySem.F.type_list_append md_append (re_var 3) (ra_cons (re_var 5) ra_nil))))) rs_nil)))))
  (rs_one (rs_ret (re_callB (cd_sortN (hu65 hr)) (by rfl) T.sorted bt_sorted (ra_cons (re_callTy (cd_listT rfl) (by rfl) T.list bt_list (ra_cons (re_var 4) ra_nil)) ra_nil)))))))), h1, F.kp, h2⟩
set_option maxHeartbeats 4000000 in
theorem ok_is_won_end (T : Txt K w mg) (g : Got K mg "is_won_end" s_is_won_end ["world", "spot"])  : DefOk P w K mg base 1 "is_won_end" F_is_won_end := by
  obtain ⟨f, fd, F, h1, h2⟩ := g.ex
  exact ⟨f, fd, ["world", "spot"], fn_ok (k := 0) F sc_is_won_end fun cdv A outer s H E hr =>
  (rs_cons (rs_asg (re_var 1) (rg_tup rfl (rgs_cons (rg_name sc_is_won_end.nd (i := 2)) (rgs_cons (rg_name sc_is_won_end.nd (i := 3)) rgs_nil))))
  (rs_cons (rs_if (rt_cmp (od_in (hu_of hr)) (re_ix (id_ix (hu_of hr)) (re_var 3) re_int) (re_tup (ra_cons re_str (ra_cons re_str ra_nil))) (by rfl)) (rs_one (rs_ret (re_cmp (od_eq hr.units) (re_cmp (od_in (hu_of hr)) (re_var 2) (re_ix (id_ix (hu_of hr)) (re_ix (id_ix (hu_of hr)) (re_var 0) re_int) (re_ix (id_ix (hu_of hr)) (re_var 3) re_int)) (by rfl)) (re_cmp (od_eq hr.units) (re_ix (id_ix (hu_of hr)) (re_var 3) re_int) re_str (nomark _)) (nomark _)))) rs_nil)
  (rs_one (rs_ret (re_cmp (od_in (hu_of hr)) (re_ix (id_ix (hu_of hr)) (re_var 3) re_int) (re_tup (ra_cons re_str (ra_cons re_str ra_nil))) (by rfl)))))), h1, F.kp, h2⟩
set_option maxHeartbeats 4000000 in
theorem ok_game_of (T : Txt K w mg) (g : Got K mg "game_of" s_game_of ["world", "saying"]) (h_is_won_end : DefOk P w K mg base 1 "is_won_end" F_is_won_end) (h_steps_from : DefOk P w K mg base 1 "steps_from" F_steps_from) (h_levels_of : DefOk P w K mg base 3 "levels_of" F_levels_of) (h_binders_in : DefOk P w K mg base 3 "binders_in" F_binders_in) (h_spots_of : DefOk P w K mg base 4 "spots_of" F_spots_of) : DefOk P w K mg base 5 "game_of" F_game_of := by
  obtain ⟨f, fd, F, h1, h2⟩ := g.ex
  exact ⟨f, fd, ["world", "saying"], fn_ok (k := 4) F sc_game_of fun cdv A outer s H E hr =>
  (rs_cons (rs_set (i := 2) sc_game_of.nd (re_call h_spots_of hr (ra_cons (re_var 0) (ra_cons (re_var 1) ra_nil))))
  (rs_cons (rs_set (i := 3) sc_game_of.nd (re_dcN (own := [("k", 10)]) rfl (hu65 hr) sc_game_of.nd (ri_range1 T.range (ra_cons (re_callB cd_len (by rfl) T.len bt_len (ra_cons (re_var 2) ra_nil)) ra_nil)) (blkOk_by (by kernel_rfl)) (pgd_name 10) (fun _ _ _ _ _ => (pg_name sc_game_of.nd rfl (Or.inl rfl))) (fun _ _ _ _ _ => rts_nil) (fun _ _ _ _ _ => (re_ix (id_ix (hu_of hr)) (re_var 2) (re_var 10))) (fun _ _ _ _ _ => (re_var 10))))
  (rs_cons (rs_par (i := 4) (j := 5) rfl sc_game_of.nd (ra_cons (re_call h_binders_in hr (ra_cons (re_var 1) ra_nil)) (ra_cons (re_call h_levels_of hr (ra_cons (re_var 1) ra_nil)) ra_nil)))
  (rs_cons (rs_set (i := 6) sc_game_of.nd (re_lst ra_nil))
  (rs_cons (rs_for PassesOwn.never rfl (ri_seq (re_var 2)) (rg_name sc_game_of.nd (i := 7)) (rs_cons (rs_setLc (i := 8) (own := [("goal", 11)]) rfl sc_game_of.nd (ri_seq (re_call h_steps_from hr (ra_cons (re_var 0) (ra_cons (re_var 4) (ra_cons (re_var 7) ra_nil))))) (blkOk_by (by kernel_rfl)) (pgd_name 11) (fun _ _ _ _ _ => (pg_name sc_game_of.nd rfl (Or.inl rfl))) (fun _ _ _ _ _ => rts_nil) (fun _ _ _ _ _ => (re_ix (id_ixT (hu65 hr)) (re_var 3) (re_var 11))) (sw_true rfl rfl rfl (by decide +kernel)))
  (rs_cons (rs_set (i := 9) sc_game_of.nd (re_if (rt_cmp (od_eq hr.units) (re_ix (id_ix (hu_of hr)) (re_ix (id_ix (hu_of hr)) (re_var 7) re_int) re_int) re_str (nomark _)) (re_ix (id_ix (hu_of hr)) (re_var 5) (re_ix (id_ix (hu_of hr)) (re_ix (id_ix (hu_of hr)) (re_var 7) re_int) re_int)) re_int))
  (rs_cons (rs_if (rt_cmp (od_eq hr.units) (re_callB cd_len (by rfl) T.len bt_len (ra_cons (re_var 8) ra_nil)) re_int (nomark _)) (rs_one (rs_par (i := 8) (j := 9) rfl sc_game_of.nd (ra_cons (re_lst (ra_cons (re_ix (id_ixT (hu65 hr)) (re_var 3) (re_var 7)) ra_nil)) (ra_cons (re_if (rt_val (re_call h_is_won_end hr (ra_cons (re_var 0) (ra_cons (re_var 7) ra_nil)))) re_int re_int) ra_nil)))) rs_nil)
  (rs_one (rs_expr (re_mt PySem.F.plainAttrs_list PySem.F.slot_list_append PySem.F.type_list_append md_append (re_var 6) (ra_cons (re_tup (ra_cons (re_if (rt_cmp (od_in (hu_of hr)) (re_ix (id_ix (hu_of hr)) (re_ix (id_ix (hu_of hr)) (re_var 7) re_int) re_int) (re_tup (ra_cons re_str (ra_cons re_str ra_nil))) (by rfl)) re_int re_int) (ra_cons (re_var 9) (ra_cons (re_callTy cd_tuple (by rfl) T.tuple bt_tuple (ra_cons (re_var 8) ra_nil)) ra_nil)))) ra_nil))))))))
  (rs_one (rs_ret (re_callTy cd_tuple (by rfl) T.tuple bt_tuple (ra_cons (re_var 6) ra_nil))))))))), h1, F.kp, h2⟩
set_option maxHeartbeats 4000000 in
theorem ok_come_to (T : Txt K w mg) (g : Got K mg "come_to" s_come_to ["game", "owner", "moves", "start"])  : DefOk P w K mg base 1 "come_to" F_come_to := by
  obtain ⟨f, fd, F, h1, h2⟩ := g.ex
  exact ⟨f, fd, ["game", "owner", "moves", "start"], fn_ok (k := 0) F sc_come_to fun cdv A outer s H E hr =>
  (rs_cons (rs_set (i := 4) sc_come_to.nd (re_disp (rps_cons (re_var 3) re_bl rps_nil)))
  (rs_cons (rs_set (i := 5) sc_come_to.nd (re_lst (ra_cons (re_var 3) ra_nil)))
  (rs_cons (rs_while PassesOwn.never (rt_cmp od_gt (re_callB cd_len (by rfl) T.len bt_len (ra_cons (re_var 5) ra_nil)) re_int (nomark _)) (rs_cons (rs_set (i := 6) sc_come_to.nd (re_mt0 PySem.F.plainAttrs_list PySem.F.slot_list_pop PySem.F.type_list_pop md_pop (re_var 5)))
  (rs_cons (rs_if (rt_cmp (od_eq hr.units) (re_ix (id_ix (hu_of hr)) (re_ix (id_ix (hu_of hr)) (re_var 0) (re_var 6)) re_int) (re_var 1) (nomark _)) (rs_cons (rs_if (rt_w (rw_or (rt_cmp (od_notin (hu_of hr)) (re_var 6) (re_var 2) (by rfl)) (rw_or1 (rt_cmp (od_notin (hu_of hr)) (re_ix (id_ix (hu_of hr)) (re_var 2) (re_var 6)) (re_ix (id_ix (hu_of hr)) (re_ix (id_ix (hu_of hr)) (re_var 0) (re_var 6)) re_int) (by rfl))))) (rs_one (rs_ret re_non)) rs_nil)
  (rs_one (rs_set (i := 8) sc_come_to.nd (re_lst (ra_cons (re_ix (id_ix (hu_of hr)) (re_var 2) (re_var 6)) ra_nil))))) (rs_one (rs_set (i := 8) sc_come_to.nd (re_ix (id_ix (hu_of hr)) (re_ix (id_ix (hu_of hr)) (re_var 0) (re_var 6)) re_int))))
  (rs_one (rs_for PassesOwn.never rfl (ri_seq (re_var 8)) (rg_name sc_come_to.nd (i := 7)) (rs_one (rs_if (rt_cmp (od_notin (hu_of hr)) (re_var 7) (re_var 4) (by rfl)) (rs_cons (rs_asg re_bl (rg_sub (hu_of hr) (re_var 4) (re_var 7)))
  (rs_one (rs_expr (re_mt PySem.F.plainAttrs_list PySem.F.slot_list_append PySem.F.type_list_append md_append (re_var 5) (ra_cons (re_var 7) ra_nil))))) rs_nil)))))))
  (rs_one (rs_ret (re_var 4)))))), h1, F.kp, h2⟩
set_option maxHeartbeats 4000000 in
theorem ok_holding_paper (T : Txt K w mg) (g : Got K mg "holding_paper" s_holding_paper ["world", "saying", "place"]) (h_come_to : DefOk P w K mg base 1 "come_to" F_come_to) (h_solved_game : DefOk P w K mg base 18 "solved_game" F_solved_game) (h_spots_of : DefOk P w K mg base 4 "spots_of" F_spots_of) (h_game_of : DefOk P w K mg base 5 "game_of" F_game_of) : DefOk P w K mg base 19 "holding_paper" F_holding_paper := by
  obtain ⟨f, fd, F, h1, h2⟩ := g.ex
  exact ⟨f, fd, ["world", "saying", "place"], fn_ok (k := 18) F sc_holding_paper fun cdv A outer s H E hr =>
  (rs_cons (rs_asg (re_tup (ra_cons (re_call h_game_of hr (ra_cons (re_var 0) (ra_cons (re_var 1) ra_nil))) (ra_cons (re_call h_spots_of hr (ra_cons (re_var 0) (ra_cons (re_var 1) ra_nil))) ra_nil))) (rg_tup rfl (rgs_cons (rg_name sc_holding_paper.nd (i := 3)) (rgs_cons (rg_name sc_holding_paper.nd (i := 4)) rgs_nil))))
  (rs_cons (rs_asg (re_call h_solved_game hr (ra_cons (re_var 3) ra_nil)) (rg_tup rfl (rgs_cons (rg_name sc_holding_paper.nd (i := 5)) (rgs_cons (rg_name sc_holding_paper.nd (i := 6)) rgs_nil))))
  (rs_cons (rs_set (i := 7) sc_holding_paper.nd (re_mt PySem.F.plainAttrs_list PySem.F.slot_list_index PySem.F.type_list_index (md_index (hu65 hr)) (re_var 4) (ra_cons (re_tup (ra_cons (re_var 2) (ra_cons (re_var 1) ra_nil))) ra_nil)))
  (rs_cons (rs_set (i := 8) sc_holding_paper.nd (re_ix (id_ix (hu_of hr)) (re_var 5) (re_var 7)))
  (rs_cons (rs_set (i := 9) sc_holding_paper.nd (re_dc (own := [("k", 11)]) rfl sc_holding_paper.nd (ri_range1 T.range (ra_cons (re_callB cd_len (by rfl) T.len bt_len (ra_cons (re_var 3) ra_nil)) ra_nil)) (blkOk_by (by kernel_rfl)) (pgd_name 11) (fun _ _ _ _ _ => (pg_name sc_holding_paper.nd rfl (Or.inl rfl))) (fun _ _ _ _ _ => (rts_one (rt_w (rw_and (rt_cmp (od_eq hr.units) (re_ix (id_ix (hu_of hr)) (re_ix (id_ix (hu_of hr)) (re_var 3) (re_var 11)) re_int) (re_var 8) (nomark _)) (rw_and1 (rt_notN (re_ix (id_ix (hu_of hr)) (re_var 6) (re_var 11)))))))) (fun _ _ _ _ _ => (re_var 11)) (fun _ _ _ _ _ => (re_ix (id_ix (hu_of hr)) (re_var 6) (re_var 11)))))
  (rs_cons (rs_setLc (i := 10) (own := [("k", 11)]) rfl sc_holding_paper.nd (ri_keysE (re_call h_come_to hr (ra_cons (re_var 3) (ra_cons (re_var 8) (ra_cons (re_var 9) (ra_cons (re_var 7) ra_nil)))))) (blkOk_by (by kernel_rfl)) (pgd_name 11) (fun _ _ _ _ _ => (pg_name sc_holding_paper.nd rfl (Or.inl rfl))) (fun _ _ _ _ _ => (rts_one (rt_cmp (od_eq hr.units) (re_ix (id_ix (hu_of hr)) (re_ix (id_ix (hu_of hr)) (re_var 3) (re_var 11)) re_int) (re_var 8) (nomark _)))) (fun _ _ _ _ _ => (re_tup (ra_cons (re_ix (id_ix (hu_of hr)) (re_var 4) (re_var 11)) (ra_cons (re_ix (id_ix (hu_of hr)) (re_var 4) (re_ix (id_ix (hu_of hr)) (re_var 9) (re_var 11))) ra_nil)))) (sw_true rfl rfl rfl (by decide +kernel)))
  (rs_one (rs_ret (re_tup (ra_cons (re_if (rt_cmp (od_eq hr.units) (re_var 8) re_int (nomark _)) re_str re_str) (ra_cons (re_callTy cd_tuple (by rfl) T.tuple bt_tuple (ra_cons (re_callB (cd_sortN (hu65 hr)) (by rfl) T.sorted bt_sorted (ra_cons (re_var 10) ra_nil)) ra_nil)) ra_nil))))))))))), h1, F.kp, h2⟩
set_option maxHeartbeats 4000000 in
theorem ok__law_same (T : Txt K w mg) (g : Got K mg "_law_same" s__law_same ["actual", "due"])  : ∀ k, DefOk P w K mg base (0 + k) "_law_same" (F__law_same k)
  | 0 => by
    obtain ⟨f, fd, F, h1, h2⟩ := g.ex
    exact ⟨f, fd, _, fn_none, h1, F.kp, h2⟩
  | k + 1 => by
    have h__law_same := ok__law_same T g  k
    obtain ⟨f, fd, F, h1, h2⟩ := g.ex
    exact ⟨f, fd, ["actual", "due"], fn_ok (k := 0 + k) F sc__law_same fun cdv A outer s H E hr =>
  (rs_cons (rs_if (rt_w (rw_or (rt_val (re_isi (T := "tuple") (by decide) rfl bt_tuple T.isinstance T.tuple (re_var 1))) (rw_or1 (rt_val (re_isi (T := "list") (by decide) rfl bt_list T.isinstance T.list (re_var 1)))))) (rs_cons (rs_if (rt_w (rw_or (rt_cmp (od_ne hr.units) (re_isi (T := "tuple") (by decide) rfl bt_tuple T.isinstance T.tuple (re_var 1)) (re_isi (T := "tuple") (by decide) rfl bt_tuple T.isinstance T.tuple (re_var 0)) (nomark _)) (rw_or (rt_cmp (od_ne hr.units) (re_isi (T := "list") (by decide) rfl bt_list T.isinstance T.list (re_var 1)) (re_isi (T := "list") (by decide) rfl bt_list T.isinstance T.list (re_var 0)) (nomark _)) (rw_or1 (rt_cmp (od_ne hr.units) (re_callB cd_len (by rfl) T.len bt_len (ra_cons (re_var 0) ra_nil)) (re_callB cd_len (by rfl) T.len bt_len (ra_cons (re_var 1) ra_nil)) (nomark _)))))) (rs_one (rs_ret re_bl)) rs_nil)
  (rs_one (rs_ret (re_cmp (od_eq hr.units) (re_callB cd_len (by rfl) T.len bt_len (ra_cons (re_lc (own := [("k", 2)]) rfl sc__law_same.nd (ri_range1 T.range (ra_cons (re_callB cd_len (by rfl) T.len bt_len (ra_cons (re_var 1) ra_nil)) ra_nil)) (blkOk_by (by kernel_rfl)) (pgd_name 2) (fun _ _ _ _ _ => (pg_name sc__law_same.nd rfl (Or.inl rfl))) (fun _ _ _ _ _ => (rts_one (rt_not (rt_val (re_call h__law_same hr (ra_cons (re_ix (id_ix (hu_of hr)) (re_var 0) (re_var 2)) (ra_cons (re_ix (id_ix (hu_of hr)) (re_var 1) (re_var 2)) ra_nil))))))) (fun _ _ _ _ _ => (re_var 2))) ra_nil)) re_int (nomark _))))) rs_nil)
  (rs_cons (rs_if (rt_isN (re_var 1)) (rs_one (rs_ret (re_isN (re_var 0)))) rs_nil)
  (rs_cons (rs_if (rt_w (rw_or (rt_val (re_isi (T := "bool") (by decide) rfl bt_bool T.isinstance T.bool (re_var 1))) (rw_or1 (rt_val (re_isi (T := "bool") (by decide) rfl bt_bool T.isinstance T.bool (re_var 0)))))) (rs_one (rs_ret (re_and (re_isi (T := "bool") (by decide) rfl bt_bool T.isinstance T.bool (re_var 1)) (re_and (re_isi (T := "bool") (by decide) rfl bt_bool T.isinstance T.bool (re_var 0)) (re_one (re_cmp (od_eq hr.units) (re_var 0) (re_var 1) (nomark _))))))) rs_nil)
  (rs_cons (rs_if (rt_val (re_isi (T := "int") (by decide) rfl bt_int T.isinstance T.int (re_var 1))) (rs_one (rs_ret (re_and (re_isi (T := "int") (by decide) rfl bt_int T.isinstance T.int (re_var 0)) (re_one (re_cmp (od_eq hr.units) (re_var 0) (re_var 1) (nomark _)))))) rs_nil)
  (rs_one (rs_ret (re_and (re_isi (T := "str") (by decide) rfl bt_str T.isinstance T.str (re_var 0)) (re_one (re_cmp (od_eq hr.units) (re_var 0) (re_var 1) (nomark _)))))))))), h1, F.kp, h2⟩
set_option maxHeartbeats 4000000 in
theorem ok__law_pool (T : Txt K w mg) (g : Got K mg "_law_pool" s__law_pool ["script"])  : DefOk P w K mg base 1 "_law_pool" F__law_pool := by
  obtain ⟨f, fd, F, h1, h2⟩ := g.ex
  exact ⟨f, fd, ["script"], fn_ok (k := 0) F sc__law_pool fun cdv A outer s H E hr =>
  (rs_cons (rs_set (i := 1) sc__law_pool.nd re_int)
  (rs_cons (rs_for PassesOwn.never rfl (ri_seq (re_sl (re_var 0) ro_none (ro_some re_int))) (rg_name sc__law_pool.nd (i := 2)) (rs_one (rs_set (i := 1) sc__law_pool.nd (re_op od_mod (re_callTy cd_int (by rfl) T.int bt_int (ra_cons (re_op od_add (re_op od_mul (re_var 1) re_int) (re_var 2)) ra_nil)) re_int))))
  (rs_one (rs_ret (re_lst (ra_cons (re_callTy (cd_list rfl) (by rfl) T.list bt_list (ra_cons (re_var 0) ra_nil)) (ra_cons re_int (ra_cons re_int (ra_cons re_int (ra_cons (re_var 1) ra_nil)))))))))), h1, F.kp, h2⟩
set_option maxHeartbeats 4000000 in
theorem ok__law_spread (T : Txt K w mg) (g : Got K mg "_law_spread" s__law_spread ["cell"])  : DefOk P w K mg base 1 "_law_spread" F__law_spread := by
  obtain ⟨f, fd, F, h1, h2⟩ := g.ex
  exact ⟨f, fd, ["cell"], fn_ok (k := 0) F sc__law_spread fun cdv A outer s H E hr =>
  (rs_cons (rs_set (i := 1) sc__law_spread.nd (re_op od_mod (re_callTy cd_int (by rfl) T.int bt_int (ra_cons (re_var 0) ra_nil)) re_int))
  (rs_cons (rs_set (i := 2) sc__law_spread.nd re_int)
  (rs_cons (rs_for PassesOwn.never rfl (ri_range1 T.range (ra_cons re_int ra_nil)) (rg_name sc__law_spread.nd (i := 3)) (rs_cons (rs_set (i := 1) sc__law_spread.nd (re_op od_mod (re_callTy cd_int (by rfl) T.int bt_int (ra_cons (re_op od_add (re_op od_add (re_op od_mul (re_var 1) re_int) re_int) (re_var 3)) ra_nil)) re_int))
  (rs_one (rs_set (i := 2) sc__law_spread.nd (re_op od_add (re_op od_mul (re_var 2) re_int) (re_var 1))))))
  (rs_one (rs_ret (re_var 2)))))), h1, F.kp, h2⟩
set_option maxHeartbeats 4000000 in
theorem ok__law_draw (T : Txt K w mg) (g : Got K mg "_law_draw" s__law_draw ["pool", "many"]) (h__law_spread : DefOk P w K mg base 1 "_law_spread" F__law_spread) : DefOk P w K mg base 2 "_law_draw" F__law_draw := by
  obtain ⟨f, fd, F, h1, h2⟩ := g.ex
  exact ⟨f, fd, ["pool", "many"], fn_ok (k := 1) F sc__law_draw fun cdv A outer s H E hr =>
  (rs_cons (rs_if (rt_w (rw_and (rt_cmp od_le (re_ix (id_ix (hu_of hr)) (re_var 0) re_int) re_int (nomark _)) (rw_and1 (rt_cmp od_lt (re_ix (id_ix (hu_of hr)) (re_var 0) re_int) (re_callB cd_len (by rfl) T.len bt_len (ra_cons (re_ix (id_ix (hu_of hr)) (re_var 0) re_int) ra_nil)) (nomark _))))) (rs_cons (rs_set (i := 2) sc__law_draw.nd (re_ix (id_ix (hu_of hr)) (re_ix (id_ix (hu_of hr)) (re_var 0) re_int) (re_ix (id_ix (hu_of hr)) (re_var 0) re_int)))
  (rs_cons (rs_asg (re_op od_add (re_ix (id_ix (hu_of hr)) (re_var 0) re_int) re_int) (rg_sub (hu_of hr) (re_var 0) re_int))
  (rs_cons (rs_asg (re_var 2) (rg_sub (hu_of hr) (re_var 0) re_int))
  (rs_one (rs_if (rt_cmp od_lt (re_var 2) re_int (nomark _)) (rs_one (rs_asg (re_call h__law_spread hr (ra_cons (re_var 2) ra_nil)) (rg_sub (hu_of hr) (re_var 0) re_int))) rs_nil))))) rs_nil)
  (rs_cons (rs_asg (re_op od_add (re_ix (id_ix (hu_of hr)) (re_var 0) re_int) re_int) (rg_sub (hu_of hr) (re_var 0) re_int))
  (rs_cons (rs_if (rt_cmp od_le (re_ix (id_ix (hu_of hr)) (re_var 0) re_int) re_int (nomark _)) (rs_cons (rs_set (i := 3) sc__law_draw.nd (re_op od_mod (re_callTy cd_int (by rfl) T.int bt_int (ra_cons (re_op od_add (re_op od_add (re_op od_mul (re_ix (id_ix (hu_of hr)) (re_var 0) re_int) re_int) (re_op od_mul (re_ix (id_ix (hu_of hr)) (re_var 0) re_int) re_int)) re_int) ra_nil)) re_int))
  (rs_cons (rs_set (i := 3) sc__law_draw.nd (re_op od_mod (re_callTy cd_int (by rfl) T.int bt_int (ra_cons (re_op od_add (re_op od_mul (re_var 3) re_int) (re_ix (id_ix (hu_of hr)) (re_var 0) re_int)) ra_nil)) re_int))
  (rs_one (rs_ret (re_op od_mod (re_op od_fdiv (re_var 3) re_int) (re_var 1)))))) rs_nil)
  (rs_cons (rs_set (i := 4) sc__law_draw.nd (re_op od_mod (re_callTy cd_int (by rfl) T.int bt_int (ra_cons (re_ix (id_ix (hu_of hr)) (re_var 0) re_int) ra_nil)) (re_var 1)))
  (rs_cons (rs_asg (re_op od_fdiv (re_ix (id_ix (hu_of hr)) (re_var 0) re_int) (re_var 1)) (rg_sub (hu_of hr) (re_var 0) re_int))
  (rs_one (rs_ret (re_var 4)))))))), h1, F.kp, h2⟩
set_option maxHeartbeats 4000000 in
theorem ok__law_pick (T : Txt K w mg) (g : Got K mg "_law_pick" s__law_pick ["pool", "items"]) (h__law_draw : DefOk P w K mg base 2 "_law_draw" F__law_draw) : DefOk P w K mg base 3 "_law_pick" F__law_pick := by
  obtain ⟨f, fd, F, h1, h2⟩ := g.ex
  exact ⟨f, fd, ["pool", "items"], fn_ok (k := 2) F sc__law_pick fun cdv A outer s H E hr =>
  (rs_one (rs_ret (re_ix (id_ix (hu_of hr)) (re_var 1) (re_call h__law_draw hr (ra_cons (re_var 0) (ra_cons (re_callB cd_len (by rfl) T.len bt_len (ra_cons (re_var 1) ra_nil)) ra_nil)))))), h1, F.kp, h2⟩
set_option maxHeartbeats 4000000 in
theorem ok__law_land (T : Txt K w mg) (g : Got K mg "_law_land" s__law_land ["pool"]) (h__law_draw : DefOk P w K mg base 2 "_law_draw" F__law_draw) : DefOk P w K mg base 3 "_law_land" F__law_land := by
  obtain ⟨f, fd, F, h1, h2⟩ := g.ex
  exact ⟨f, fd, ["pool"], fn_ok (k := 2) F sc__law_land fun cdv A outer s H E hr =>
  (rs_one (rs_ret (re_ix (id_ix (hu_of hr)) (re_tup (ra_cons (re_tup (ra_cons re_int (ra_cons re_int ra_nil))) (ra_cons (re_tup (ra_cons re_int (ra_cons re_int ra_nil))) (ra_cons (re_tup (ra_cons re_int (ra_cons re_int ra_nil))) (ra_cons (re_tup (ra_cons re_int (ra_cons re_int ra_nil))) (ra_cons (re_tup (ra_cons re_int (ra_cons re_int ra_nil))) ra_nil)))))) (re_call h__law_draw hr (ra_cons (re_var 0) (ra_cons re_int ra_nil)))))), h1, F.kp, h2⟩
set_option maxHeartbeats 4000000 in
theorem ok__law_saying (T : Txt K w mg) (g : Got K mg "_law_saying" s__law_saying ["pool", "land", "deep", "state", "known", "free"]) (h__law_draw : DefOk P w K mg base 2 "_law_draw" F__law_draw) (h__law_pick : DefOk P w K mg base 3 "_law_pick" F__law_pick) : ∀ k, DefOk P w K mg base (3 + k) "_law_saying" (F__law_saying k)
  | 0 => by
    obtain ⟨f, fd, F, h1, h2⟩ := g.ex
    exact ⟨f, fd, _, fn_none, h1, F.kp, h2⟩
  | k + 1 => by
    have h__law_saying := ok__law_saying T g h__law_draw h__law_pick k
    obtain ⟨f, fd, F, h1, h2⟩ := g.ex
    exact ⟨f, fd, ["pool", "land", "deep", "state", "known", "free"], fn_ok (k := 3 + k) F sc__law_saying fun cdv A outer s H E hr =>
  (rs_cons (rs_set (i := 6) sc__law_saying.nd (re_if (rt_cmp od_gt (re_var 2) re_int (nomark _)) (re_call h__law_draw hr (ra_cons (re_var 0) (ra_cons re_int ra_nil))) (re_call h__law_draw hr (ra_cons (re_var 0) (ra_cons re_int ra_nil)))))
  (rs_cons (rs_if (rt_w (rw_or (rt_cmp od_lt (re_var 6) re_int (nomark _)) (rw_or1 (rt_w (rw_and (rt_cmp (od_eq hr.units) (re_var 6) re_int (nomark _)) (rw_and1 (rt_cmp (od_eq hr.units) (re_callB cd_len (by rfl) T.len bt_len (ra_cons (re_var 5) ra_nil)) re_int (nomark _)))))))) (rs_one (rs_ret (re_tup (ra_cons (re_ix (id_ix (hu_of hr)) (re_tup (ra_cons re_str (ra_cons re_str ra_nil))) (re_if (rt_cmp od_lt (re_var 6) re_int (nomark _)) (re_op od_mod (re_var 6) re_int) re_int)) (ra_cons (re_call h__law_draw hr (ra_cons (re_var 0) (ra_cons (re_ix (id_ix (hu_of hr)) (re_var 1) re_int) ra_nil))) ra_nil))))) rs_nil)
  (rs_cons (rs_if (rt_cmp (od_eq hr.units) (re_var 6) re_int (nomark _)) (rs_one (rs_ret (re_if (rt_cmp (od_eq hr.units) (re_call h__law_draw hr (ra_cons (re_var 0) (ra_cons re_int ra_nil))) re_int (nomark _)) (re_ix (id_ix (hu_of hr)) (re_tup (ra_cons (re_tup (ra_cons re_str ra_nil)) (ra_cons (re_tup (ra_cons re_str ra_nil)) ra_nil))) (re_call h__law_draw hr (ra_cons (re_var 0) (ra_cons re_int ra_nil)))) (re_tup (ra_cons re_str (ra_cons (re_call h__law_draw hr (ra_cons (re_var 0) (ra_cons (re_ix (id_ix (hu_of hr)) (re_var 1) re_int) ra_nil))) ra_nil)))))) rs_nil)
  (rs_cons (rs_if (rt_cmp od_lt (re_var 6) re_int (nomark _)) (rs_one (rs_ret (re_if (rt_cmp od_gt (re_callB cd_len (by rfl) T.len bt_len (ra_cons (re_var 5) ra_nil)) re_int (nomark _)) (re_tup (ra_cons re_str (ra_cons (re_call h__law_pick hr (ra_cons (re_var 0) (ra_cons (re_callTy (cd_list rfl) (by rfl) T.list bt_list (ra_cons (re_var 5) ra_nil)) ra_nil))) ra_nil))) (re_tup (ra_cons re_str (ra_cons (re_call h__law_draw hr (ra_cons (re_var 0) (ra_cons (re_ix (id_ix (hu_of hr)) (re_var 1) re_int) ra_nil))) ra_nil)))))) rs_nil)
  (rs_cons (rs_if (rt_cmp od_lt (re_var 6) re_int (nomark _)) (rs_one (rs_ret (re_tup (ra_cons (re_ix (id_ix (hu_of hr)) (re_tup (ra_cons re_str (ra_cons re_str ra_nil))) (re_call h__law_draw hr (ra_cons (re_var 0) (ra_cons re_int ra_nil)))) (ra_cons (re_call h__law_saying hr (ra_cons (re_var 0) (ra_cons (re_var 1) (ra_cons (re_op od_sub (re_var 2) re_int) (ra_cons (re_var 3) (ra_cons (re_var 4) (ra_cons (re_var 5) ra_nil))))))) (ra_cons (re_call h__law_saying hr (ra_cons (re_var 0) (ra_cons (re_var 1) (ra_cons (re_op od_sub (re_var 2) re_int) (ra_cons (re_var 3) (ra_cons (re_var 4) (ra_cons (re_var 5) ra_nil))))))) ra_nil)))))) rs_nil)
  (rs_cons (rs_if (rt_cmp od_lt (re_var 6) re_int (nomark _)) (rs_one (rs_ret (re_tup (ra_cons (re_ix (id_ix (hu_of hr)) (re_tup (ra_cons re_str (ra_cons re_str ra_nil))) (re_call h__law_draw hr (ra_cons (re_var 0) (ra_cons re_int ra_nil)))) (ra_cons (re_call h__law_draw hr (ra_cons (re_var 0) (ra_cons (re_ix (id_ix (hu_of hr)) (re_var 1) re_int) ra_nil))) (ra_cons (re_call h__law_saying hr (ra_cons (re_var 0) (ra_cons (re_var 1) (ra_cons (re_op od_sub (re_var 2) re_int) (ra_cons (re_var 3) (ra_cons (re_var 4) (ra_cons (re_var 4) ra_nil))))))) ra_nil)))))) rs_nil)
  (rs_cons (rs_set (i := 7) sc__law_saying.nd (re_callB cd_len (by rfl) T.len bt_len (ra_cons (re_var 3) ra_nil)))
  (rs_cons (rs_if (rt_cmp od_gt (re_var 7) re_int (nomark _)) (rs_one (rs_ret (re_tup (ra_cons re_str (ra_cons re_int ra_nil))))) rs_nil)
  (rs_cons (rs_expr (re_mt PySem.F.plainAttrs_list PySem.F.slot_list_append PySem.F.type_list_append md_append (re_var 3) (ra_cons (re_var 7) ra_nil)))
  (rs_one (rs_ret (re_tup (ra_cons (re_ix (id_ix (hu_of hr)) (re_tup (ra_cons re_str (ra_cons re_str ra_nil))) (re_call h__law_draw hr (ra_cons (re_var 0) (ra_cons re_int ra_nil)))) (ra_cons (re_var 7) (ra_cons (re_call h__law_saying hr (ra_cons (re_var 0) (ra_cons (re_var 1) (ra_cons (re_op od_sub (re_var 2) re_int) (ra_cons (re_var 3) (ra_cons (re_op od_add (re_var 4) (re_tup (ra_cons (re_var 7) ra_nil))) (ra_cons (re_var 5) ra_nil))))))) ra_nil))))))))))))))), h1, F.kp, h2⟩
set_option maxHeartbeats 4000000 in
theorem ok__law_drawn (T : Txt K w mg) (g : Got K mg "_law_drawn" s__law_drawn ["pool", "land", "deep"]) (h__law_saying : DefOk P w K mg base 11 "_law_saying" (F__law_saying 8)) (h__law_draw : DefOk P w K mg base 2 "_law_draw" F__law_draw) : DefOk P w K mg base 12 "_law_drawn" F__law_drawn := by
  obtain ⟨f, fd, F, h1, h2⟩ := g.ex
  exact ⟨f, fd, ["pool", "land", "deep"], fn_ok (k := 11) F sc__law_drawn fun cdv A outer s H E hr =>
  (rs_cons (rs_set (i := 3) sc__law_drawn.nd (re_call h__law_draw hr (ra_cons (re_var 0) (ra_cons re_int ra_nil))))
  (rs_cons (rs_if (rt_cmp (od_eq hr.units) (re_var 3) re_int (nomark _)) (rs_cons (rs_set (i := 4) sc__law_drawn.nd (re_call h__law_draw hr (ra_cons (re_var 0) (ra_cons re_int ra_nil))))
  (rs_cons (rs_set (i := 5) sc__law_drawn.nd (re_call h__law_saying hr (ra_cons (re_var 0) (ra_cons (re_var 1) (ra_cons (re_op od_sub (re_var 2) re_int) (ra_cons (re_lst (ra_cons re_int (ra_cons re_int ra_nil))) (ra_cons (re_tup (ra_cons re_int (ra_cons re_int ra_nil))) (ra_cons (re_tup ra_nil) ra_nil))))))))
  (rs_cons (rs_set (i := 6) sc__law_drawn.nd (re_tup (ra_cons re_str (ra_cons (re_tup (ra_cons re_str (ra_cons (re_var 5) (ra_cons (re_tup (ra_cons re_str (ra_cons (re_call h__law_draw hr (ra_cons (re_var 0) (ra_cons (re_ix (id_ix (hu_of hr)) (re_var 1) re_int) ra_nil))) (ra_cons (re_tup (ra_cons re_str (ra_cons re_int ra_nil))) ra_nil)))) ra_nil)))) (ra_cons (re_tup (ra_cons (re_ix (id_ix (hu_of hr)) (re_tup (ra_cons re_str (ra_cons re_str ra_nil))) (re_call h__law_draw hr (ra_cons (re_var 0) (ra_cons re_int ra_nil)))) (ra_cons re_int (ra_cons (re_tup (ra_cons re_str (ra_cons re_int ra_nil))) ra_nil)))) ra_nil)))))
  (rs_one (rs_ret (re_tup (ra_cons (re_ix (id_ix (hu_of hr)) (re_tup (ra_cons re_str (ra_cons re_str ra_nil))) (re_var 4)) (ra_cons re_int (ra_cons (re_tup (ra_cons (re_ix (id_ix (hu_of hr)) (re_tup (ra_cons re_str (ra_cons re_str ra_nil))) (re_var 4)) (ra_cons re_int (ra_cons (re_var 6) ra_nil)))) ra_nil))))))))) rs_nil)
  (rs_cons (rs_if (rt_cmp (od_eq hr.units) (re_var 3) re_int (nomark _)) (rs_one (rs_ret (re_tup (ra_cons (re_ix (id_ix (hu_of hr)) (re_tup (ra_cons re_str (ra_cons re_str ra_nil))) (re_call h__law_draw hr (ra_cons (re_var 0) (ra_cons re_int ra_nil)))) (ra_cons re_int (ra_cons (re_call h__law_saying hr (ra_cons (re_var 0) (ra_cons (re_var 1) (ra_cons (re_var 2) (ra_cons (re_lst (ra_cons re_int ra_nil)) (ra_cons (re_tup (ra_cons re_int ra_nil)) (ra_cons (re_tup ra_nil) ra_nil))))))) ra_nil)))))) rs_nil)
  (rs_one (rs_ret (re_call h__law_saying hr (ra_cons (re_var 0) (ra_cons (re_var 1) (ra_cons (re_op od_add (re_var 2) re_int) (ra_cons (re_lst ra_nil) (ra_cons (re_tup ra_nil) (ra_cons (re_tup ra_nil) ra_nil)))))))))))), h1, F.kp, h2⟩
set_option maxHeartbeats 4000000 in
theorem ok__law_world (T : Txt K w mg) (g : Got K mg "_law_world" s__law_world ["pool", "land", "most"]) (h__law_draw : DefOk P w K mg base 2 "_law_draw" F__law_draw) : DefOk P w K mg base 3 "_law_world" F__law_world := by
  obtain ⟨f, fd, F, h1, h2⟩ := g.ex
  exact ⟨f, fd, ["pool", "land", "most"], fn_ok (k := 2) F sc__law_world fun cdv A outer s H E hr =>
  (rs_cons (rs_set (i := 3) sc__law_world.nd (re_op od_add re_int (re_call h__law_draw hr (ra_cons (re_var 0) (ra_cons (re_var 2) ra_nil)))))
  (rs_cons (rs_set (i := 4) sc__law_world.nd (re_callTy cd_tuple (by rfl) T.tuple bt_tuple (ra_cons (re_lc (own := [("i", 8)]) rfl sc__law_world.nd (ri_range1 T.range (ra_cons (re_ix (id_ix (hu_of hr)) (re_var 1) re_int) ra_nil)) (blkOk_by (by kernel_rfl)) (pgd_name 8) (fun _ _ _ _ _ => (pg_name sc__law_world.nd rfl (Or.inl rfl))) (fun _ _ _ _ _ => rts_nil) (fun _ _ _ _ _ => (re_callTy cd_tuple (by rfl) T.tuple bt_tuple (ra_cons (re_lc (own := [("k", 9)]) rfl sc__law_world.nd (ri_range1 T.range (ra_cons (re_var 3) ra_nil)) (blkOk_by (by kernel_rfl)) (pgd_name 9) (fun _ _ _ _ _ => (pg_name sc__law_world.nd rfl (Or.inl rfl))) (fun _ _ _ _ _ => (rts_one (rt_cmp (od_eq hr.units) (re_call h__law_draw hr (ra_cons (re_var 0) (ra_cons re_int ra_nil))) re_int (nomark _)))) (fun _ _ _ _ _ => (re_var 9))) ra_nil)))) ra_nil)))
  (rs_cons (rs_set (i := 5) sc__law_world.nd (re_op od_add re_int (re_call h__law_draw hr (ra_cons (re_var 0) (ra_cons re_int ra_nil)))))
  (rs_cons (rs_set (i := 6) sc__law_world.nd (re_tup ra_nil))
  (rs_cons (rs_for PassesOwn.never rfl (ri_range1 T.range (ra_cons (re_ix (id_ix (hu_of hr)) (re_var 1) re_int) ra_nil)) (rg_name sc__law_world.nd (i := 7)) (rs_one (rs_set (i := 6) sc__law_world.nd (re_op od_add (re_var 6) (re_tup (ra_cons (re_callTy cd_tuple (by rfl) T.tuple bt_tuple (ra_cons (re_lc (own := [("place", 10)]) rfl sc__law_world.nd (ri_range1 T.range (ra_cons (re_var 3) ra_nil)) (blkOk_by (by kernel_rfl)) (pgd_name 10) (fun _ _ _ _ _ => (pg_name sc__law_world.nd rfl (Or.inl rfl))) (fun _ _ _ _ _ => rts_nil) (fun _ _ _ _ _ => (re_callTy cd_tuple (by rfl) T.tuple bt_tuple (ra_cons (re_lc (own := [("k", 9)]) rfl sc__law_world.nd (ri_range1 T.range (ra_cons (re_var 3) ra_nil)) (blkOk_by (by kernel_rfl)) (pgd_name 9) (fun _ _ _ _ _ => (pg_name sc__law_world.nd rfl (Or.inl rfl))) (fun _ _ _ _ _ => (rts_one (rt_cmp (od_eq hr.units) (re_call h__law_draw hr (ra_cons (re_var 0) (ra_cons (re_var 5) ra_nil))) re_int (nomark _)))) (fun _ _ _ _ _ => (re_var 9))) ra_nil)))) ra_nil)) ra_nil))))))
  (rs_one (rs_ret (re_tup (ra_cons (re_var 3) (ra_cons (re_var 4) (ra_cons (re_var 6) ra_nil))))))))))), h1, F.kp, h2⟩
set_option maxHeartbeats 4000000 in
theorem ok_law_fn (T : Txt K w mg) {f : Addr} {fd : FuncData} (F : Fun K "law" "law" s_law f fd) (h_holding_paper : DefOk P w K mg base 19 "holding_paper" F_holding_paper) (h__law_draw : DefOk P w K mg base 2 "_law_draw" F__law_draw) (h_against : DefOk P w K mg base 13 "against" (F_against 12)) (h_levels_of : DefOk P w K mg base 3 "levels_of" F_levels_of) (h_solved_game : DefOk P w K mg base 18 "solved_game" F_solved_game) (h_game_of : DefOk P w K mg base 5 "game_of" F_game_of) (h_spots_of : DefOk P w K mg base 4 "spots_of" F_spots_of) (h__law_world : DefOk P w K mg base 3 "_law_world" F__law_world) (h__law_drawn : DefOk P w K mg base 12 "_law_drawn" F__law_drawn) (h__law_land : DefOk P w K mg base 3 "_law_land" F__law_land) (h__law_same : DefOk P w K mg base 4 "_law_same" (F__law_same 4)) (h__law_pool : DefOk P w K mg base 1 "_law_pool" F__law_pool) : FnOk P w K mg base CX0 20 f fd ["script"] (spD ⟨K, w⟩ F_law) :=
  fn_ok (k := 19) F sc_law fun cdv A outer s H E hr =>
  (rs_cons (rs_set (i := 1) sc_law.nd (re_call h__law_pool hr (ra_cons (re_var 0) ra_nil)))
  (rs_cons (rs_set (i := 2) sc_law.nd (re_op od_add re_int (re_call h__law_draw hr (ra_cons (re_var 1) (ra_cons re_int ra_nil)))))
  (rs_cons (rs_set (i := 3) sc_law.nd (re_callTy cd_tuple (by rfl) T.tuple bt_tuple (ra_cons (re_lc (own := [("k", 15)]) rfl sc_law.nd (ri_range1 T.range (ra_cons (re_var 2) ra_nil)) (blkOk_by (by kernel_rfl)) (pgd_name 15) (fun _ _ _ _ _ => (pg_name sc_law.nd rfl (Or.inl rfl))) (fun _ _ _ _ _ => rts_nil) (fun _ _ _ _ _ => (re_tup (ra_cons (re_call h__law_draw hr (ra_cons (re_var 1) (ra_cons re_int ra_nil))) (ra_cons (re_call h__law_draw hr (ra_cons (re_var 1) (ra_cons re_int ra_nil))) (ra_cons (re_callTy cd_tuple (by rfl) T.tuple bt_tuple (ra_cons (re_lc (own := [("j", 18)]) rfl sc_law.nd (ri_range1 T.range (ra_cons (re_op od_add re_int (re_call h__law_draw hr (ra_cons (re_var 1) (ra_cons re_int ra_nil)))) ra_nil)) (blkOk_by (by kernel_rfl)) (pgd_name 18) (fun _ _ _ _ _ => (pg_name sc_law.nd rfl (Or.inl rfl))) (fun _ _ _ _ _ => rts_nil) (fun _ _ _ _ _ => (re_call h__law_draw hr (ra_cons (re_var 1) (ra_cons (re_var 2) ra_nil))))) ra_nil)) ra_nil)))))) ra_nil)))
  (rs_cons (rs_set (i := 4) sc_law.nd (re_ix (id_ix (hu_of hr)) (re_call h_solved_game hr (ra_cons (re_var 3) ra_nil)) re_int))
  (rs_cons (rs_set (i := 5) sc_law.nd (re_callTy cd_tuple (by rfl) T.tuple bt_tuple (ra_cons (re_lc (own := [("spot", 19)]) rfl sc_law.nd (ri_seq (re_var 3)) (blkOk_by (by kernel_rfl)) (pgd_name 19) (fun _ _ _ _ _ => (pg_name sc_law.nd rfl (Or.inl rfl))) (fun _ _ _ _ _ => rts_nil) (fun _ _ _ _ _ => (re_tup (ra_cons (re_op od_sub re_int (re_ix (id_ix (hu_of hr)) (re_var 19) re_int)) (ra_cons (re_op od_add (re_ix (id_ix (hu_of hr)) (re_var 19) re_int) re_int) (ra_cons (re_ix (id_ix (hu_of hr)) (re_var 19) re_int) ra_nil)))))) ra_nil)))
  (rs_cons (rs_if (rt_not (rt_val (re_call h__law_same hr (ra_cons (re_ix (id_ix (hu_of hr)) (re_call h_solved_game hr (ra_cons (re_var 5) ra_nil)) re_int) (ra_cons (re_callTy cd_tuple (by rfl) T.tuple bt_tuple (ra_cons (re_lc (own := [("owner", 20)]) rfl sc_law.nd (ri_seq (re_var 4)) (blkOk_by (by kernel_rfl)) (pgd_name 20) (fun _ _ _ _ _ => (pg_name sc_law.nd rfl (Or.inl rfl))) (fun _ _ _ _ _ => rts_nil) (fun _ _ _ _ _ => (re_op od_sub re_int (re_var 20)))) ra_nil)) ra_nil))))) (rs_one (rs_ret re_bl)) rs_nil)
  (rs_cons (rs_set (i := 6) sc_law.nd (re_callTy cd_tuple (by rfl) T.tuple bt_tuple (ra_cons (re_lc (own := [("spot", 19)]) rfl sc_law.nd (ri_seq (re_var 3)) (blkOk_by (by kernel_rfl)) (pgd_name 19) (fun _ _ _ _ _ => (pg_name sc_law.nd rfl (Or.inl rfl))) (fun _ _ _ _ _ => rts_nil) (fun _ _ _ _ _ => (re_tup (ra_cons (re_ix (id_ix (hu_of hr)) (re_var 19) re_int) (ra_cons (re_op od_add (re_ix (id_ix (hu_of hr)) (re_var 19) re_int) re_int) (ra_cons (re_ix (id_ix (hu_of hr)) (re_var 19) re_int) ra_nil)))))) ra_nil)))
  (rs_cons (rs_if (rt_not (rt_val (re_call h__law_same hr (ra_cons (re_ix (id_ix (hu_of hr)) (re_call h_solved_game hr (ra_cons (re_var 6) ra_nil)) re_int) (ra_cons (re_var 4) ra_nil))))) (rs_one (rs_ret re_bl)) rs_nil)
  (rs_cons (rs_set (i := 7) sc_law.nd (re_call h__law_land hr (ra_cons (re_var 1) ra_nil)))
  (rs_cons (rs_set (i := 8) sc_law.nd (re_call h__law_drawn hr (ra_cons (re_var 1) (ra_cons (re_var 7) (ra_cons re_int ra_nil)))))
  (rs_cons (rs_set (i := 9) sc_law.nd (re_call h__law_world hr (ra_cons (re_var 1) (ra_cons (re_var 7) (ra_cons re_int ra_nil)))))
  (rs_cons (rs_set (i := 10) sc_law.nd (re_call h_against hr (ra_cons (re_var 8) ra_nil)))
  (rs_cons (rs_par (i := 11) (j := 12) rfl sc_law.nd (ra_cons (re_call h_spots_of hr (ra_cons (re_var 9) (ra_cons (re_var 8) ra_nil))) (ra_cons (re_call h_spots_of hr (ra_cons (re_var 9) (ra_cons (re_var 10) ra_nil))) ra_nil)))
  (rs_cons (rs_par (i := 13) (j := 14) rfl sc_law.nd (ra_cons (re_ix (id_ix (hu_of hr)) (re_call h_solved_game hr (ra_cons (re_call h_game_of hr (ra_cons (re_var 9) (ra_cons (re_var 8) ra_nil))) ra_nil)) re_int) (ra_cons (re_ix (id_ix (hu_of hr)) (re_call h_solved_game hr (ra_cons (re_call h_game_of hr (ra_cons (re_var 9) (ra_cons (re_var 10) ra_nil))) ra_nil)) re_int) ra_nil)))
  (rs_cons (rs_if (rt_w (rw_or (rt_cmp (od_ne hr.units) (re_callB cd_len (by rfl) T.len bt_len (ra_cons (re_var 11) ra_nil)) (re_callB cd_len (by rfl) T.len bt_len (ra_cons (re_var 12) ra_nil)) (nomark _)) (rw_or1 (rt_cmp (od_ne hr.units) (re_callB (cd_sortK rfl (hu65 hr)) (by rfl) T.sorted bt_sorted (ra_cons (re_call h_levels_of hr (ra_cons (re_var 8) ra_nil)) ra_nil)) (re_callB (cd_sortK rfl (hu65 hr)) (by rfl) T.sorted bt_sorted (ra_cons (re_call h_levels_of hr (ra_cons (re_var 10) ra_nil)) ra_nil)) (nomark _))))) (rs_one (rs_ret re_bl)) rs_nil)
  (rs_cons (rs_for PassesOwn.never rfl (ri_range1 T.range (ra_cons (re_callB cd_len (by rfl) T.len bt_len (ra_cons (re_var 11) ra_nil)) ra_nil)) (rg_name sc_law.nd (i := 15)) (rs_cons (rs_asg (re_ix (id_ix (hu_of hr)) (re_var 11) (re_var 15)) (rg_tup rfl (rgs_cons (rg_name sc_law.nd (i := 16)) (rgs_cons (rg_name sc_law.nd (i := 17)) rgs_nil))))
  (rs_one (rs_if (rt_w (rw_or (rt_cmp (od_ninP (hu65 hr)) (re_tup (ra_cons (re_var 16) (ra_cons (re_call h_against hr (ra_cons (re_var 17) ra_nil)) ra_nil))) (re_var 12) (by rfl)) (rw_or1 (rt_cmp (od_ne hr.units) (re_ix (id_ix (hu_of hr)) (re_var 14) (re_mt PySem.F.plainAttrs_list PySem.F.slot_list_index PySem.F.type_list_index (md_index (hu65 hr)) (re_var 12) (ra_cons (re_tup (ra_cons (re_var 16) (ra_cons (re_call h_against hr (ra_cons (re_var 17) ra_nil)) ra_nil))) ra_nil))) (re_op od_sub re_int (re_ix (id_ix (hu_of hr)) (re_var 13) (re_var 15))) (nomark _))))) (rs_one (rs_ret re_bl)) rs_nil))))
  (rs_cons (rs_set (i := 16) sc_law.nd (re_call h__law_draw hr (ra_cons (re_var 1) (ra_cons (re_ix (id_ix (hu_of hr)) (re_var 9) re_int) ra_nil))))
  (rs_one (rs_ret (re_cmp (od_eq hr.units) (re_callB cd_sortS (by rfl) T.sorted bt_sorted (ra_cons (re_lst (ra_cons (re_ix (id_ix (hu_of hr)) (re_call h_holding_paper hr (ra_cons (re_var 9) (ra_cons (re_var 8) (ra_cons (re_var 16) ra_nil)))) re_int) (ra_cons (re_ix (id_ix (hu_of hr)) (re_call h_holding_paper hr (ra_cons (re_var 9) (ra_cons (re_var 10) (ra_cons (re_var 16) ra_nil)))) re_int) ra_nil))) ra_nil)) (re_lst (ra_cons re_str (ra_cons re_str ra_nil))) (nomark _)))))))))))))))))))))
end

end K29
namespace K29
open PySem L2 SD PG
theorem vs_of {K : PySem.W.Frag} {d : Addr} {tab : List (Str × Str)} (h : ∀ p ∈ tab, ∃ t, PySem.W.nsIn K d p.1 = some (some (.str p.2 t))) : ∀ a b, tab.lookup a = some b → ∃ t, PySem.W.nsIn K d a = some (some (.str b t)) := by
  intro a b e
  induction tab with
  | nil => cases e
  | cons q tab ih =>
    obtain ⟨x, y⟩ := q
    rw [List.lookup_cons] at e
    split at e
    · rename_i c
      cases e
      have : a = x := by simpa using c
      subst this
      exact h _ List.mem_cons_self
    · exact ih (fun p hp => h p (List.mem_cons_of_mem _ hp)) e
theorem got_mk {K : PySem.W.Frag} {mg : Str → Option Value} {h : Heap} {x : Str} {st : Stmt} {ps : List Str} {f : Addr} {oc : Value} {od an : Option Addr} {sl : Array (Option Value)} {kV dc pm cd ct : Value} (X : K.In h) (G : h.Ns mainGlobals mg) (a : PySem.W.nsIn K mainGlobals x = some (some (.ref f)))
    (l : K.lookup f = some ⟨oc, od, .func (PySem.W.fnOf x x (defArgs st) (defBody st) (defScope st) .none kV dc pm an cd ct), sl⟩) (c : PySem.W.codeIn K cd x = true) (k : PySem.W.keepIn K (.ref f) = true)
    (hb : ∀ (kV doc pm : Value) (an : Option Addr) (cdv ct : Value) (us : List Value), us.length = ps.length → bindArgs (PySem.W.fnOf x x (defArgs st) (defBody st) (defScope st) .none kV doc pm an cdv ct) ⟨us, []⟩ = pure (ps.zip us)) : Got K mg x st ps := by
  have F := fun_mk (st := st) l c k
  exact ⟨f, _, F, PySem.W.mg_of X G a, F.binds hb⟩
theorem all_mk {l : PySem.W.OpenLaw} {w : World} {K : PySem.W.Frag} {h : Heap} {mg : Str → Option Value} {fa : Addr} (X : K.In h) (G : h.Ns mainGlobals mg) (hfa : mg "law" = some (.ref fa))
  {f0 f1 f2 f3 f4 f5 f6 f7 f8 f9 f10 f11 f12 f13 f14 f15 f16 f17 f18 f19 f20 f21 f22 f23 f24 f25 : Addr}
  {od0 an0 od1 an1 od2 an2 od3 an3 od4 an4 od5 an5 od6 an6 od7 an7 od8 an8 od9 an9 od10 an10 od11 an11 od12 an12 od13 an13 od14 an14 od15 an15 od16 an16 od17 an17 od18 an18 od19 an19 od20 an20 od21 an21 od22 an22 od23 an23 od24 an24 od25 an25 : Option Addr} {sl0 sl1 sl2 sl3 sl4 sl5 sl6 sl7 sl8 sl9 sl10 sl11 sl12 sl13 sl14 sl15 sl16 sl17 sl18 sl19 sl20 sl21 sl22 sl23 sl24 sl25 : Array (Option Value)}
  {oc0 kV0 dc0 pm0 cd0 ct0 oc1 kV1 dc1 pm1 cd1 ct1 oc2 kV2 dc2 pm2 cd2 ct2 oc3 kV3 dc3 pm3 cd3 ct3 oc4 kV4 dc4 pm4 cd4 ct4 oc5 kV5 dc5 pm5 cd5 ct5 oc6 kV6 dc6 pm6 cd6 ct6 oc7 kV7 dc7 pm7 cd7 ct7 oc8 kV8 dc8 pm8 cd8 ct8 oc9 kV9 dc9 pm9 cd9 ct9 oc10 kV10 dc10 pm10 cd10 ct10 oc11 kV11 dc11 pm11 cd11 ct11 oc12 kV12 dc12 pm12 cd12 ct12 oc13 kV13 dc13 pm13 cd13 ct13 oc14 kV14 dc14 pm14 cd14 ct14 oc15 kV15 dc15 pm15 cd15 ct15 oc16 kV16 dc16 pm16 cd16 ct16 oc17 kV17 dc17 pm17 cd17 ct17 oc18 kV18 dc18 pm18 cd18 ct18 oc19 kV19 dc19 pm19 cd19 ct19 oc20 kV20 dc20 pm20 cd20 ct20 oc21 kV21 dc21 pm21 cd21 ct21 oc22 kV22 dc22 pm22 cd22 ct22 oc23 kV23 dc23 pm23 cd23 ct23 oc24 kV24 dc24 pm24 cd24 ct24 oc25 kV25 dc25 pm25 cd25 ct25 : Value}
  {d_TURNED : Addr} {tk_TURNED_0 tk_TURNED_1 tk_TURNED_2 tk_TURNED_3 tk_TURNED_4 : Tok}
  {d_BINDERS : Addr} {n_BINDERS : Nat} {od_BINDERS : Option Addr} {sl_BINDERS : Array (Option Value)} {tk_BINDERS_0 tk_BINDERS_1 : Tok}
  (a0 : PySem.W.nsIn K mainGlobals "parts_of" = some (some (.ref f0)))
  (l0 : K.lookup f0 = some ⟨oc0, od0, .func (PySem.W.fnOf "parts_of" "parts_of" (defArgs s_parts_of) (defBody s_parts_of) (defScope s_parts_of) .none kV0 dc0 pm0 an0 cd0 ct0), sl0⟩)
  (c0 : PySem.W.codeIn K cd0 "parts_of" = true) (k0 : PySem.W.keepIn K (.ref f0) = true)
  (a1 : PySem.W.nsIn K mainGlobals "all_parts" = some (some (.ref f1)))
  (l1 : K.lookup f1 = some ⟨oc1, od1, .func (PySem.W.fnOf "all_parts" "all_parts" (defArgs s_all_parts) (defBody s_all_parts) (defScope s_all_parts) .none kV1 dc1 pm1 an1 cd1 ct1), sl1⟩)
  (c1 : PySem.W.codeIn K cd1 "all_parts" = true) (k1 : PySem.W.keepIn K (.ref f1) = true)
  (a2 : PySem.W.nsIn K mainGlobals "with_parts" = some (some (.ref f2)))
  (l2 : K.lookup f2 = some ⟨oc2, od2, .func (PySem.W.fnOf "with_parts" "with_parts" (defArgs s_with_parts) (defBody s_with_parts) (defScope s_with_parts) .none kV2 dc2 pm2 an2 cd2 ct2), sl2⟩)
  (c2 : PySem.W.codeIn K cd2 "with_parts" = true) (k2 : PySem.W.keepIn K (.ref f2) = true)
  (a3 : PySem.W.nsIn K mainGlobals "against" = some (some (.ref f3)))
  (l3 : K.lookup f3 = some ⟨oc3, od3, .func (PySem.W.fnOf "against" "against" (defArgs s_against) (defBody s_against) (defScope s_against) .none kV3 dc3 pm3 an3 cd3 ct3), sl3⟩)
  (c3 : PySem.W.codeIn K cd3 "against" = true) (k3 : PySem.W.keepIn K (.ref f3) = true)
  (a4 : PySem.W.nsIn K mainGlobals "binders_in" = some (some (.ref f4)))
  (l4 : K.lookup f4 = some ⟨oc4, od4, .func (PySem.W.fnOf "binders_in" "binders_in" (defArgs s_binders_in) (defBody s_binders_in) (defScope s_binders_in) .none kV4 dc4 pm4 an4 cd4 ct4), sl4⟩)
  (c4 : PySem.W.codeIn K cd4 "binders_in" = true) (k4 : PySem.W.keepIn K (.ref f4) = true)
  (a5 : PySem.W.nsIn K mainGlobals "levels_of" = some (some (.ref f5)))
  (l5 : K.lookup f5 = some ⟨oc5, od5, .func (PySem.W.fnOf "levels_of" "levels_of" (defArgs s_levels_of) (defBody s_levels_of) (defScope s_levels_of) .none kV5 dc5 pm5 an5 cd5 ct5), sl5⟩)
  (c5 : PySem.W.codeIn K cd5 "levels_of" = true) (k5 : PySem.W.keepIn K (.ref f5) = true)
  (a6 : PySem.W.nsIn K mainGlobals "before_spots" = some (some (.ref f6)))
  (l6 : K.lookup f6 = some ⟨oc6, od6, .func (PySem.W.fnOf "before_spots" "before_spots" (defArgs s_before_spots) (defBody s_before_spots) (defScope s_before_spots) .none kV6 dc6 pm6 an6 cd6 ct6), sl6⟩)
  (c6 : PySem.W.codeIn K cd6 "before_spots" = true) (k6 : PySem.W.keepIn K (.ref f6) = true)
  (a7 : PySem.W.nsIn K mainGlobals "drawn" = some (some (.ref f7)))
  (l7 : K.lookup f7 = some ⟨oc7, od7, .func (PySem.W.fnOf "drawn" "drawn" (defArgs s_drawn) (defBody s_drawn) (defScope s_drawn) .none kV7 dc7 pm7 an7 cd7 ct7), sl7⟩)
  (c7 : PySem.W.codeIn K cd7 "drawn" = true) (k7 : PySem.W.keepIn K (.ref f7) = true)
  (a8 : PySem.W.nsIn K mainGlobals "won_parts" = some (some (.ref f8)))
  (l8 : K.lookup f8 = some ⟨oc8, od8, .func (PySem.W.fnOf "won_parts" "won_parts" (defArgs s_won_parts) (defBody s_won_parts) (defScope s_won_parts) .none kV8 dc8 pm8 an8 cd8 ct8), sl8⟩)
  (c8 : PySem.W.codeIn K cd8 "won_parts" = true) (k8 : PySem.W.keepIn K (.ref f8) = true)
  (a9 : PySem.W.nsIn K mainGlobals "solved_game" = some (some (.ref f9)))
  (l9 : K.lookup f9 = some ⟨oc9, od9, .func (PySem.W.fnOf "solved_game" "solved_game" (defArgs s_solved_game) (defBody s_solved_game) (defScope s_solved_game) .none kV9 dc9 pm9 an9 cd9 ct9), sl9⟩)
  (c9 : PySem.W.codeIn K cd9 "solved_game" = true) (k9 : PySem.W.keepIn K (.ref f9) = true)
  (a10 : PySem.W.nsIn K mainGlobals "steps_from" = some (some (.ref f10)))
  (l10 : K.lookup f10 = some ⟨oc10, od10, .func (PySem.W.fnOf "steps_from" "steps_from" (defArgs s_steps_from) (defBody s_steps_from) (defScope s_steps_from) .none kV10 dc10 pm10 an10 cd10 ct10), sl10⟩)
  (c10 : PySem.W.codeIn K cd10 "steps_from" = true) (k10 : PySem.W.keepIn K (.ref f10) = true)
  (a11 : PySem.W.nsIn K mainGlobals "spots_of" = some (some (.ref f11)))
  (l11 : K.lookup f11 = some ⟨oc11, od11, .func (PySem.W.fnOf "spots_of" "spots_of" (defArgs s_spots_of) (defBody s_spots_of) (defScope s_spots_of) .none kV11 dc11 pm11 an11 cd11 ct11), sl11⟩)
  (c11 : PySem.W.codeIn K cd11 "spots_of" = true) (k11 : PySem.W.keepIn K (.ref f11) = true)
  (a12 : PySem.W.nsIn K mainGlobals "is_won_end" = some (some (.ref f12)))
  (l12 : K.lookup f12 = some ⟨oc12, od12, .func (PySem.W.fnOf "is_won_end" "is_won_end" (defArgs s_is_won_end) (defBody s_is_won_end) (defScope s_is_won_end) .none kV12 dc12 pm12 an12 cd12 ct12), sl12⟩)
  (c12 : PySem.W.codeIn K cd12 "is_won_end" = true) (k12 : PySem.W.keepIn K (.ref f12) = true)
  (a13 : PySem.W.nsIn K mainGlobals "game_of" = some (some (.ref f13)))
  (l13 : K.lookup f13 = some ⟨oc13, od13, .func (PySem.W.fnOf "game_of" "game_of" (defArgs s_game_of) (defBody s_game_of) (defScope s_game_of) .none kV13 dc13 pm13 an13 cd13 ct13), sl13⟩)
  (c13 : PySem.W.codeIn K cd13 "game_of" = true) (k13 : PySem.W.keepIn K (.ref f13) = true)
  (a14 : PySem.W.nsIn K mainGlobals "come_to" = some (some (.ref f14)))
  (l14 : K.lookup f14 = some ⟨oc14, od14, .func (PySem.W.fnOf "come_to" "come_to" (defArgs s_come_to) (defBody s_come_to) (defScope s_come_to) .none kV14 dc14 pm14 an14 cd14 ct14), sl14⟩)
  (c14 : PySem.W.codeIn K cd14 "come_to" = true) (k14 : PySem.W.keepIn K (.ref f14) = true)
  (a15 : PySem.W.nsIn K mainGlobals "holding_paper" = some (some (.ref f15)))
  (l15 : K.lookup f15 = some ⟨oc15, od15, .func (PySem.W.fnOf "holding_paper" "holding_paper" (defArgs s_holding_paper) (defBody s_holding_paper) (defScope s_holding_paper) .none kV15 dc15 pm15 an15 cd15 ct15), sl15⟩)
  (c15 : PySem.W.codeIn K cd15 "holding_paper" = true) (k15 : PySem.W.keepIn K (.ref f15) = true)
  (a16 : PySem.W.nsIn K mainGlobals "_law_same" = some (some (.ref f16)))
  (l16 : K.lookup f16 = some ⟨oc16, od16, .func (PySem.W.fnOf "_law_same" "_law_same" (defArgs s__law_same) (defBody s__law_same) (defScope s__law_same) .none kV16 dc16 pm16 an16 cd16 ct16), sl16⟩)
  (c16 : PySem.W.codeIn K cd16 "_law_same" = true) (k16 : PySem.W.keepIn K (.ref f16) = true)
  (a17 : PySem.W.nsIn K mainGlobals "_law_pool" = some (some (.ref f17)))
  (l17 : K.lookup f17 = some ⟨oc17, od17, .func (PySem.W.fnOf "_law_pool" "_law_pool" (defArgs s__law_pool) (defBody s__law_pool) (defScope s__law_pool) .none kV17 dc17 pm17 an17 cd17 ct17), sl17⟩)
  (c17 : PySem.W.codeIn K cd17 "_law_pool" = true) (k17 : PySem.W.keepIn K (.ref f17) = true)
  (a18 : PySem.W.nsIn K mainGlobals "_law_spread" = some (some (.ref f18)))
  (l18 : K.lookup f18 = some ⟨oc18, od18, .func (PySem.W.fnOf "_law_spread" "_law_spread" (defArgs s__law_spread) (defBody s__law_spread) (defScope s__law_spread) .none kV18 dc18 pm18 an18 cd18 ct18), sl18⟩)
  (c18 : PySem.W.codeIn K cd18 "_law_spread" = true) (k18 : PySem.W.keepIn K (.ref f18) = true)
  (a19 : PySem.W.nsIn K mainGlobals "_law_draw" = some (some (.ref f19)))
  (l19 : K.lookup f19 = some ⟨oc19, od19, .func (PySem.W.fnOf "_law_draw" "_law_draw" (defArgs s__law_draw) (defBody s__law_draw) (defScope s__law_draw) .none kV19 dc19 pm19 an19 cd19 ct19), sl19⟩)
  (c19 : PySem.W.codeIn K cd19 "_law_draw" = true) (k19 : PySem.W.keepIn K (.ref f19) = true)
  (a20 : PySem.W.nsIn K mainGlobals "_law_pick" = some (some (.ref f20)))
  (l20 : K.lookup f20 = some ⟨oc20, od20, .func (PySem.W.fnOf "_law_pick" "_law_pick" (defArgs s__law_pick) (defBody s__law_pick) (defScope s__law_pick) .none kV20 dc20 pm20 an20 cd20 ct20), sl20⟩)
  (c20 : PySem.W.codeIn K cd20 "_law_pick" = true) (k20 : PySem.W.keepIn K (.ref f20) = true)
  (a21 : PySem.W.nsIn K mainGlobals "_law_land" = some (some (.ref f21)))
  (l21 : K.lookup f21 = some ⟨oc21, od21, .func (PySem.W.fnOf "_law_land" "_law_land" (defArgs s__law_land) (defBody s__law_land) (defScope s__law_land) .none kV21 dc21 pm21 an21 cd21 ct21), sl21⟩)
  (c21 : PySem.W.codeIn K cd21 "_law_land" = true) (k21 : PySem.W.keepIn K (.ref f21) = true)
  (a22 : PySem.W.nsIn K mainGlobals "_law_saying" = some (some (.ref f22)))
  (l22 : K.lookup f22 = some ⟨oc22, od22, .func (PySem.W.fnOf "_law_saying" "_law_saying" (defArgs s__law_saying) (defBody s__law_saying) (defScope s__law_saying) .none kV22 dc22 pm22 an22 cd22 ct22), sl22⟩)
  (c22 : PySem.W.codeIn K cd22 "_law_saying" = true) (k22 : PySem.W.keepIn K (.ref f22) = true)
  (a23 : PySem.W.nsIn K mainGlobals "_law_drawn" = some (some (.ref f23)))
  (l23 : K.lookup f23 = some ⟨oc23, od23, .func (PySem.W.fnOf "_law_drawn" "_law_drawn" (defArgs s__law_drawn) (defBody s__law_drawn) (defScope s__law_drawn) .none kV23 dc23 pm23 an23 cd23 ct23), sl23⟩)
  (c23 : PySem.W.codeIn K cd23 "_law_drawn" = true) (k23 : PySem.W.keepIn K (.ref f23) = true)
  (a24 : PySem.W.nsIn K mainGlobals "_law_world" = some (some (.ref f24)))
  (l24 : K.lookup f24 = some ⟨oc24, od24, .func (PySem.W.fnOf "_law_world" "_law_world" (defArgs s__law_world) (defBody s__law_world) (defScope s__law_world) .none kV24 dc24 pm24 an24 cd24 ct24), sl24⟩)
  (c24 : PySem.W.codeIn K cd24 "_law_world" = true) (k24 : PySem.W.keepIn K (.ref f24) = true)
  (a25 : PySem.W.nsIn K mainGlobals "law" = some (some (.ref f25)))
  (l25 : K.lookup f25 = some ⟨oc25, od25, .func (PySem.W.fnOf "law" "law" (defArgs s_law) (defBody s_law) (defScope s_law) .none kV25 dc25 pm25 an25 cd25 ct25), sl25⟩)
  (c25 : PySem.W.codeIn K cd25 "law" = true) (k25 : PySem.W.keepIn K (.ref f25) = true)
  (z_bool : PySem.W.nsIn K mainGlobals "bool" = some none)
  (z_dict : PySem.W.nsIn K mainGlobals "dict" = some none)
  (z_int : PySem.W.nsIn K mainGlobals "int" = some none)
  (z_isinstance : PySem.W.nsIn K mainGlobals "isinstance" = some none)
  (z_len : PySem.W.nsIn K mainGlobals "len" = some none)
  (z_list : PySem.W.nsIn K mainGlobals "list" = some none)
  (z_max : PySem.W.nsIn K mainGlobals "max" = some none)
  (z_range : PySem.W.nsIn K mainGlobals "range" = some none)
  (z_set : PySem.W.nsIn K mainGlobals "set" = some none)
  (z_sorted : PySem.W.nsIn K mainGlobals "sorted" = some none)
  (z_str : PySem.W.nsIn K mainGlobals "str" = some none)
  (z_tuple : PySem.W.nsIn K mainGlobals "tuple" = some none)
  (q_TURNED : PySem.W.nsIn K mainGlobals "TURNED" = some (some (.ref d_TURNED)))
  (k_TURNED : He.dicW K d_TURNED = some (He.keysIn w.params ["yes", "is", "both", "some", "least"]))
  (v_TURNED_0 : PySem.W.nsIn K d_TURNED "yes" = some (some (.str "no" tk_TURNED_0)))
  (v_TURNED_1 : PySem.W.nsIn K d_TURNED "is" = some (some (.str "isnt" tk_TURNED_1)))
  (v_TURNED_2 : PySem.W.nsIn K d_TURNED "both" = some (some (.str "either" tk_TURNED_2)))
  (v_TURNED_3 : PySem.W.nsIn K d_TURNED "some" = some (some (.str "all" tk_TURNED_3)))
  (v_TURNED_4 : PySem.W.nsIn K d_TURNED "least" = some (some (.str "greatest" tk_TURNED_4)))
  (q_BINDERS : PySem.W.nsIn K mainGlobals "BINDERS" = some (some (.ref d_BINDERS)))
  (l_BINDERS : K.lookup d_BINDERS = some ⟨.type "tuple", od_BINDERS, .seq #[.str "least" tk_BINDERS_0, .str "greatest" tk_BINDERS_1] n_BINDERS, sl_BINDERS⟩) :
    ∃ fd : FuncData, (∀ (s : Shared) (v : Value), BindsTo s fd ⟨[v], []⟩ [("script", v)]) ∧ ∀ base : Heap, K.In base → base.Ns mainGlobals mg → FnOk l.prog w K mg base CX0 20 fa fd ["script"] (spD ⟨K, w⟩ F_law) := by
  have e := hfa.symm.trans (PySem.W.mg_of X G a25)
  cases e
  have vs_TURNED : ∀ p ∈ tab_TURNED, ∃ t, PySem.W.nsIn K d_TURNED p.1 = some (some (.str p.2 t)) := by
    intro p hp
    simp only [tab_TURNED, List.mem_cons, List.not_mem_nil, or_false] at hp
    rcases hp with rfl | rfl | rfl | rfl | rfl
    · exact ⟨_, v_TURNED_0⟩
    · exact ⟨_, v_TURNED_1⟩
    · exact ⟨_, v_TURNED_2⟩
    · exact ⟨_, v_TURNED_3⟩
    · exact ⟨_, v_TURNED_4⟩
  have T : Txt K w mg := ⟨PySem.W.mg_none_of X G z_bool, PySem.W.mg_none_of X G z_dict, PySem.W.mg_none_of X G z_int, PySem.W.mg_none_of X G z_isinstance, PySem.W.mg_none_of X G z_len, PySem.W.mg_none_of X G z_list, PySem.W.mg_none_of X G z_max, PySem.W.mg_none_of X G z_range, PySem.W.mg_none_of X G z_set, PySem.W.mg_none_of X G z_sorted, PySem.W.mg_none_of X G z_str, PySem.W.mg_none_of X G z_tuple, ⟨_, PySem.W.mg_of X G q_TURNED, ⟨k_TURNED, vs_of vs_TURNED⟩⟩, ⟨_, PySem.W.mg_of X G q_BINDERS, ⟨_, _, _, l_BINDERS, rfl, rfl, .cons ⟨_, rfl⟩ (.cons ⟨_, rfl⟩ (.nil))⟩⟩⟩
  have g_parts_of : Got K mg "parts_of" s_parts_of ["saying"] := got_mk X G a0 l0 c0 k0 fun _ _ _ _ _ _ us hl => match us, hl with | [_], _ => rfl
  have g_all_parts : Got K mg "all_parts" s_all_parts ["saying"] := got_mk X G a1 l1 c1 k1 fun _ _ _ _ _ _ us hl => match us, hl with | [_], _ => rfl
  have g_with_parts : Got K mg "with_parts" s_with_parts ["saying", "parts"] := got_mk X G a2 l2 c2 k2 fun _ _ _ _ _ _ us hl => match us, hl with | [_, _], _ => rfl
  have g_against : Got K mg "against" s_against ["saying"] := got_mk X G a3 l3 c3 k3 fun _ _ _ _ _ _ us hl => match us, hl with | [_], _ => rfl
  have g_binders_in : Got K mg "binders_in" s_binders_in ["saying"] := got_mk X G a4 l4 c4 k4 fun _ _ _ _ _ _ us hl => match us, hl with | [_], _ => rfl
  have g_levels_of : Got K mg "levels_of" s_levels_of ["saying"] := got_mk X G a5 l5 c5 k5 fun _ _ _ _ _ _ us hl => match us, hl with | [_], _ => rfl
  have g_before_spots : Got K mg "before_spots" s_before_spots ["game"] := got_mk X G a6 l6 c6 k6 fun _ _ _ _ _ _ us hl => match us, hl with | [_], _ => rfl
  have g_drawn : Got K mg "drawn" s_drawn ["game", "before", "spots", "player", "goals", "moves"] := got_mk X G a7 l7 c7 k7 fun _ _ _ _ _ _ us hl => match us, hl with | [_, _, _, _, _, _], _ => rfl
  have g_won_parts : Got K mg "won_parts" s_won_parts ["game", "before", "spots"] := got_mk X G a8 l8 c8 k8 fun _ _ _ _ _ _ us hl => match us, hl with | [_, _, _], _ => rfl
  have g_solved_game : Got K mg "solved_game" s_solved_game ["game"] := got_mk X G a9 l9 c9 k9 fun _ _ _ _ _ _ us hl => match us, hl with | [_], _ => rfl
  have g_steps_from : Got K mg "steps_from" s_steps_from ["world", "binders", "spot"] := got_mk X G a10 l10 c10 k10 fun _ _ _ _ _ _ us hl => match us, hl with | [_, _, _], _ => rfl
  have g_spots_of : Got K mg "spots_of" s_spots_of ["world", "saying"] := got_mk X G a11 l11 c11 k11 fun _ _ _ _ _ _ us hl => match us, hl with | [_, _], _ => rfl
  have g_is_won_end : Got K mg "is_won_end" s_is_won_end ["world", "spot"] := got_mk X G a12 l12 c12 k12 fun _ _ _ _ _ _ us hl => match us, hl with | [_, _], _ => rfl
  have g_game_of : Got K mg "game_of" s_game_of ["world", "saying"] := got_mk X G a13 l13 c13 k13 fun _ _ _ _ _ _ us hl => match us, hl with | [_, _], _ => rfl
  have g_come_to : Got K mg "come_to" s_come_to ["game", "owner", "moves", "start"] := got_mk X G a14 l14 c14 k14 fun _ _ _ _ _ _ us hl => match us, hl with | [_, _, _, _], _ => rfl
  have g_holding_paper : Got K mg "holding_paper" s_holding_paper ["world", "saying", "place"] := got_mk X G a15 l15 c15 k15 fun _ _ _ _ _ _ us hl => match us, hl with | [_, _, _], _ => rfl
  have g__law_same : Got K mg "_law_same" s__law_same ["actual", "due"] := got_mk X G a16 l16 c16 k16 fun _ _ _ _ _ _ us hl => match us, hl with | [_, _], _ => rfl
  have g__law_pool : Got K mg "_law_pool" s__law_pool ["script"] := got_mk X G a17 l17 c17 k17 fun _ _ _ _ _ _ us hl => match us, hl with | [_], _ => rfl
  have g__law_spread : Got K mg "_law_spread" s__law_spread ["cell"] := got_mk X G a18 l18 c18 k18 fun _ _ _ _ _ _ us hl => match us, hl with | [_], _ => rfl
  have g__law_draw : Got K mg "_law_draw" s__law_draw ["pool", "many"] := got_mk X G a19 l19 c19 k19 fun _ _ _ _ _ _ us hl => match us, hl with | [_, _], _ => rfl
  have g__law_pick : Got K mg "_law_pick" s__law_pick ["pool", "items"] := got_mk X G a20 l20 c20 k20 fun _ _ _ _ _ _ us hl => match us, hl with | [_, _], _ => rfl
  have g__law_land : Got K mg "_law_land" s__law_land ["pool"] := got_mk X G a21 l21 c21 k21 fun _ _ _ _ _ _ us hl => match us, hl with | [_], _ => rfl
  have g__law_saying : Got K mg "_law_saying" s__law_saying ["pool", "land", "deep", "state", "known", "free"] := got_mk X G a22 l22 c22 k22 fun _ _ _ _ _ _ us hl => match us, hl with | [_, _, _, _, _, _], _ => rfl
  have g__law_drawn : Got K mg "_law_drawn" s__law_drawn ["pool", "land", "deep"] := got_mk X G a23 l23 c23 k23 fun _ _ _ _ _ _ us hl => match us, hl with | [_, _, _], _ => rfl
  have g__law_world : Got K mg "_law_world" s__law_world ["pool", "land", "most"] := got_mk X G a24 l24 c24 k24 fun _ _ _ _ _ _ us hl => match us, hl with | [_, _, _], _ => rfl
  have g_law : Got K mg "law" s_law ["script"] := got_mk X G a25 l25 c25 k25 fun _ _ _ _ _ _ us hl => match us, hl with | [_], _ => rfl
  have F25 := fun_mk (st := s_law) l25 c25 k25
  refine ⟨PySem.W.fnOf "law" "law" (defArgs s_law) (defBody s_law) (defScope s_law) .none kV25 dc25 pm25 an25 cd25 ct25, fun s v => .of_eq rfl, fun base _ _ => ?_⟩
  have h_come_to := ok_come_to (P := l.prog) (w := w) (base := base) T  g_come_to 
  have h_drawn := ok_drawn (P := l.prog) (w := w) (base := base) T  g_drawn 
  have h_won_parts := ok_won_parts (P := l.prog) (w := w) (base := base) T  g_won_parts h_drawn 16
  have h_before_spots := ok_before_spots (P := l.prog) (w := w) (base := base) T  g_before_spots 
  have h_solved_game := ok_solved_game (P := l.prog) (w := w) (base := base) T  g_solved_game h_won_parts h_before_spots
  have h_steps_from := ok_steps_from (P := l.prog) (w := w) (base := base) T  g_steps_from 
  have h_parts_of := ok_parts_of (P := l.prog) (w := w) (base := base) T  g_parts_of 
  have h_all_parts := ok_all_parts (P := l.prog) (w := w) (base := base) T  g_all_parts h_parts_of
  have h_binders_in := ok_binders_in (P := l.prog) (w := w) (base := base) T  g_binders_in h_all_parts
  have h_spots_of := ok_spots_of (P := l.prog) (w := w) (base := base) T  g_spots_of h_steps_from h_binders_in
  have h_is_won_end := ok_is_won_end (P := l.prog) (w := w) (base := base) T  g_is_won_end 
  have h_levels_of := ok_levels_of (P := l.prog) (w := w) (base := base) T  g_levels_of h_all_parts
  have h_game_of := ok_game_of (P := l.prog) (w := w) (base := base) T  g_game_of h_is_won_end h_steps_from h_levels_of h_binders_in h_spots_of
  have h_holding_paper := ok_holding_paper (P := l.prog) (w := w) (base := base) T  g_holding_paper h_come_to h_solved_game h_spots_of h_game_of
  have h__law_spread := ok__law_spread (P := l.prog) (w := w) (base := base) T  g__law_spread 
  have h__law_draw := ok__law_draw (P := l.prog) (w := w) (base := base) T  g__law_draw h__law_spread
  have h_with_parts := ok_with_parts (P := l.prog) (w := w) (base := base) T  g_with_parts 
  have h_against := ok_against (P := l.prog) (w := w) (base := base) T  g_against h_with_parts h_parts_of 12
  have h__law_world := ok__law_world (P := l.prog) (w := w) (base := base) T  g__law_world h__law_draw
  have h__law_pick := ok__law_pick (P := l.prog) (w := w) (base := base) T  g__law_pick h__law_draw
  have h__law_saying := ok__law_saying (P := l.prog) (w := w) (base := base) T  g__law_saying h__law_draw h__law_pick 8
  have h__law_drawn := ok__law_drawn (P := l.prog) (w := w) (base := base) T  g__law_drawn h__law_saying h__law_draw
  have h__law_land := ok__law_land (P := l.prog) (w := w) (base := base) T  g__law_land h__law_draw
  have h__law_same := ok__law_same (P := l.prog) (w := w) (base := base) T  g__law_same  4
  have h__law_pool := ok__law_pool (P := l.prog) (w := w) (base := base) T  g__law_pool 
  exact ok_law_fn (P := l.prog) (w := w) (base := base) T  F25 h_holding_paper h__law_draw h_against h_levels_of h_solved_game h_game_of h_spots_of h__law_world h__law_drawn h__law_land h__law_same h__law_pool
theorem only_frz {K : KW} {H : Hp} {a : Addr} {xs : List V} (hO : Only H) (h : SqL K H a xs) : FzL K H a xs := by
  rcases h with (h | ⟨o, h⟩) | h
  · rcases hO a with e | ⟨o, ys, e⟩ <;> rw [h] at e <;> cases e
  · exact .inl ⟨o, h⟩
  · exact .inr fun H' => .inr h
theorem walk {l : PySem.W.OpenLaw} {q : Program} {loose : List Str} {XP : (Str → Option Value) → Heap → Prop} {YP : World → Heap → Prop} {d : DefRec} {K : Params → PySem.W.Frag} (hn : l.most = some 63) (hdf : d.params.defaults = [])
    (hY : ∀ (w : World) (h : Heap), YP w h → (K w.params).In h)
    (F : ∀ (w : World) (mg : Str → Option Value) (fa : Addr) (h : Heap), (K w.params).In h → h.Ns mainGlobals mg → mg d.name = some (.ref fa) →
      ∃ fd : FuncData, (∀ (s : Shared) (u : Value), BindsTo s fd ⟨[u], []⟩ [("script", u)]) ∧ ∀ base : Heap, (K w.params).In base → base.Ns mainGlobals mg → FnOk l.prog w (K w.params) mg base CX0 20 fa fd ["script"] (spD ⟨K w.params, w⟩ F_law)) :
    PySem.W.WalkO q loose XP YP l.row.toRowW d [] (fun f vs => PySem.call f vs) :=
  L2.walk_of (n := 63) (k := 20) (x := "script") (CX := fun _ => CX0) (sp := fun w => spD ⟨K w.params, w⟩ F_law) hn (by decide) hdf ⟨rfl, by decide, by decide⟩ hY F (fun w H a ns hl hO hS => by
    refine ⟨[], [.frz (ns.map D.int)], [], fun d _ => d = .bl true, ⟨rfl, .nil, fun i p c h => by simp at h⟩, .cons (.frz (only_frz hO hS) (by rw [List.length_map, sizeLine_eq]; omega) (RDs.of_ints ns)) .nil, main ns hl, fun d S' m' v H' e g s r => ?_⟩
    subst e; cases r; rfl) fun _ _ _ _ _ z => z
end K29
open PySem PySem.W PyProof.Rows in
set_option maxRecDepth 100000 in
set_option maxHeartbeats 0 in
theorem PySem.Challenge.cw_sayingsdown_k29_whole_games_turned_about_holds : PySem.Challenge.rw_sayingsdown_k29_whole_games_turned_about.Holds := by
  w_on; o_law; k_head; (case hw => w_witness2)
  k_fill
  refine K29.walk (l := PySem.Challenge.rw_sayingsdown_k29_whole_games_turned_about) rfl rfl (fun w h Y => PySem.W.kIn_of Y) ?F
  case F =>
    intro w mg fa h KX G hmg
    refine' K29.all_mk KX G hmg ?a0 ?l0 ?c0 ?k0 ?a1 ?l1 ?c1 ?k1 ?a2 ?l2 ?c2 ?k2 ?a3 ?l3 ?c3 ?k3 ?a4 ?l4 ?c4 ?k4 ?a5 ?l5 ?c5 ?k5 ?a6 ?l6 ?c6 ?k6 ?a7 ?l7 ?c7 ?k7 ?a8 ?l8 ?c8 ?k8 ?a9 ?l9 ?c9 ?k9 ?a10 ?l10 ?c10 ?k10 ?a11 ?l11 ?c11 ?k11 ?a12 ?l12 ?c12 ?k12 ?a13 ?l13 ?c13 ?k13 ?a14 ?l14 ?c14 ?k14 ?a15 ?l15 ?c15 ?k15 ?a16 ?l16 ?c16 ?k16 ?a17 ?l17 ?c17 ?k17 ?a18 ?l18 ?c18 ?k18 ?a19 ?l19 ?c19 ?k19 ?a20 ?l20 ?c20 ?k20 ?a21 ?l21 ?c21 ?k21 ?a22 ?l22 ?c22 ?k22 ?a23 ?l23 ?c23 ?k23 ?a24 ?l24 ?c24 ?k24 ?a25 ?l25 ?c25 ?k25 ?z_bool ?z_dict ?z_int ?z_isinstance ?z_len ?z_list ?z_max ?z_range ?z_set ?z_sorted ?z_str ?z_tuple ?q_TURNED ?k_TURNED ?v_TURNED_0 ?v_TURNED_1 ?v_TURNED_2 ?v_TURNED_3 ?v_TURNED_4 ?q_BINDERS ?l_BINDERS
    (case a0 => k_is)
    (case l0 => k_is)
    (case c0 => k_is)
    (case k0 => k_is)
    (case a1 => k_is)
    (case l1 => k_is)
    (case c1 => k_is)
    (case k1 => k_is)
    (case a2 => k_is)
    (case l2 => k_is)
    (case c2 => k_is)
    (case k2 => k_is)
    (case a3 => k_is)
    (case l3 => k_is)
    (case c3 => k_is)
    (case k3 => k_is)
    (case a4 => k_is)
    (case l4 => k_is)
    (case c4 => k_is)
    (case k4 => k_is)
    (case a5 => k_is)
    (case l5 => k_is)
    (case c5 => k_is)
    (case k5 => k_is)
    (case a6 => k_is)
    (case l6 => k_is)
    (case c6 => k_is)
    (case k6 => k_is)
    (case a7 => k_is)
    (case l7 => k_is)
    (case c7 => k_is)
    (case k7 => k_is)
    (case a8 => k_is)
    (case l8 => k_is)
    (case c8 => k_is)
    (case k8 => k_is)
    (case a9 => k_is)
    (case l9 => k_is)
    (case c9 => k_is)
    (case k9 => k_is)
    (case a10 => k_is)
    (case l10 => k_is)
    (case c10 => k_is)
    (case k10 => k_is)
    (case a11 => k_is)
    (case l11 => k_is)
    (case c11 => k_is)
    (case k11 => k_is)
    (case a12 => k_is)
    (case l12 => k_is)
    (case c12 => k_is)
    (case k12 => k_is)
    (case a13 => k_is)
    (case l13 => k_is)
    (case c13 => k_is)
    (case k13 => k_is)
    (case a14 => k_is)
    (case l14 => k_is)
    (case c14 => k_is)
    (case k14 => k_is)
    (case a15 => k_is)
    (case l15 => k_is)
    (case c15 => k_is)
    (case k15 => k_is)
    (case a16 => k_is)
    (case l16 => k_is)
    (case c16 => k_is)
    (case k16 => k_is)
    (case a17 => k_is)
    (case l17 => k_is)
    (case c17 => k_is)
    (case k17 => k_is)
    (case a18 => k_is)
    (case l18 => k_is)
    (case c18 => k_is)
    (case k18 => k_is)
    (case a19 => k_is)
    (case l19 => k_is)
    (case c19 => k_is)
    (case k19 => k_is)
    (case a20 => k_is)
    (case l20 => k_is)
    (case c20 => k_is)
    (case k20 => k_is)
    (case a21 => k_is)
    (case l21 => k_is)
    (case c21 => k_is)
    (case k21 => k_is)
    (case a22 => k_is)
    (case l22 => k_is)
    (case c22 => k_is)
    (case k22 => k_is)
    (case a23 => k_is)
    (case l23 => k_is)
    (case c23 => k_is)
    (case k23 => k_is)
    (case a24 => k_is)
    (case l24 => k_is)
    (case c24 => k_is)
    (case k24 => k_is)
    (case a25 => k_is)
    (case l25 => k_is)
    (case c25 => k_is)
    (case k25 => k_is)
    (case z_bool => k_is)
    (case z_dict => k_is)
    (case z_int => k_is)
    (case z_isinstance => k_is)
    (case z_len => k_is)
    (case z_list => k_is)
    (case z_max => k_is)
    (case z_range => k_is)
    (case z_set => k_is)
    (case z_sorted => k_is)
    (case z_str => k_is)
    (case z_tuple => k_is)
    (case q_TURNED => k_is)
    (case k_TURNED => first | rfl | kernel_rfl | decide +kernel)
    (case v_TURNED_0 => k_is)
    (case v_TURNED_1 => k_is)
    (case v_TURNED_2 => k_is)
    (case v_TURNED_3 => k_is)
    (case v_TURNED_4 => k_is)
    (case q_BINDERS => k_is)
    (case l_BINDERS => k_is)
