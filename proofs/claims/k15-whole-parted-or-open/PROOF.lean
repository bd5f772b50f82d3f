import PyProof.Rows.All
import Wide.All
import OpenK.AllK
import Wide.FinOn
import HandS.ForMost
import HandS.Deep
import HandS.IsInst
import HandS.Zip
import HandS.NoneIn
import HandS.Wide
import HandS.Strs
import HandS.Evl
import HandS.Defaults
import KE.KDictCopyH
import HandS.HeadEnd
import HandS.HeadHook1
import HandS.HeadHook2
import HandS.Dict
import PyProof.Rows.TupTab
import HandS.Head0
import HandS.Head1
import HandS.Head2
import KE.KStateDown
import PySem.Challenge.RW_arrowfind_k15_whole_parted_or_open
set_option Elab.async false
set_option linter.all false
set_option maxRecDepth 100000
set_option maxHeartbeats 0
/-! Nets as lists of arrows: what is reached along arrows, walks, roads, and that a walk that is open can be made a road that is open. No program in sight. -/
namespace Am
variable {α : Type} [DecidableEq α]

/-- along arrows, from a to b -/
inductive Reach (ar : List (α × α)) : α → α → Prop
  | refl (a : α) : Reach ar a a
  | step {a b c : α} : Reach ar a b → (b, c) ∈ ar → Reach ar a c

theorem Reach.trans {ar : List (α × α)} {a b c : α} (h : Reach ar a b) (g : Reach ar b c) : Reach ar a c := by
  induction g with
  | refl => exact h
  | step _ e ih => exact ih.step e
theorem Reach.one {ar : List (α × α)} {a b : α} (h : (a, b) ∈ ar) : Reach ar a b := (Reach.refl a).step h
theorem Reach.head {ar : List (α × α)} {a b : α} (h : Reach ar a b) : a = b ∨ ∃ c, (a, c) ∈ ar ∧ Reach ar c b := by
  induction h with
  | refl => exact .inl rfl
  | @step b c _ e ih =>
    rcases ih with rfl | ⟨d, h1, h2⟩
    · exact .inr ⟨c, e, .refl c⟩
    · exact .inr ⟨d, h1, h2.step e⟩
/-- the arrows turned round -/
def flip (ar : List (α × α)) : List (α × α) := ar.map fun p => (p.2, p.1)
theorem mem_flip {ar : List (α × α)} {a b : α} : (a, b) ∈ flip ar ↔ (b, a) ∈ ar := by
  unfold flip
  rw [List.mem_map]
  constructor
  · rintro ⟨⟨x, y⟩, h, e⟩
    cases e
    exact h
  · intro h
    exact ⟨(b, a), h, rfl⟩
theorem reach_flip {ar : List (α × α)} {a b : α} : Reach (flip ar) a b ↔ Reach ar b a := by
  constructor
  · intro h
    induction h with
    | refl => exact .refl _
    | step _ e ih => exact (Reach.one (mem_flip.mp e)).trans ih
  · intro h
    induction h with
    | refl => exact .refl _
    | step _ e ih => exact (Reach.one (mem_flip.mpr e)).trans ih

/-- a net: unlike names, arrows among them, that go upward in some rank -/
structure Net (ns : List α) (ar : List (α × α)) : Prop where
  nd : ns.Nodup
  mem : ∀ a b, (a, b) ∈ ar → a ∈ ns ∧ b ∈ ns
  up : ∃ rk : α → Int, ∀ a b, (a, b) ∈ ar → rk a < rk b
theorem Net.anti {ns : List α} {ar : List (α × α)} (N : Net ns ar) {a b : α} (h : (a, b) ∈ ar) : (b, a) ∉ ar := by
  obtain ⟨rk, u⟩ := N.up
  intro g
  have h1 := u a b h
  have h2 := u b a g
  omega
theorem Net.irr {ns : List α} {ar : List (α × α)} (N : Net ns ar) {a : α} : (a, a) ∉ ar := fun h => N.anti h h
theorem Net.reachMem {ns : List α} {ar : List (α × α)} (N : Net ns ar) {a b : α} (h : Reach ar a b) (ha : a ∈ ns) : b ∈ ns := by
  induction h with
  | refl => exact ha
  | step _ e _ => exact (N.mem _ _ e).2

def Tied (ar : List (α × α)) (a b : α) : Prop := (a, b) ∈ ar ∨ (b, a) ∈ ar
instance (ar : List (α × α)) (a b : α) : Decidable (Tied ar a b) := by unfold Tied; exact inferInstance
theorem Tied.symm {ar : List (α × α)} {a b : α} (h : Tied ar a b) : Tied ar b a := h.elim .inr .inl
/-- a held one is below -/
def Ready (ar : List (α × α)) (held : List α) (a : α) : Prop := ∃ h, h ∈ held ∧ Reach ar a h
theorem Ready.up {ar : List (α × α)} {held : List α} {a b : α} (h : (a, b) ∈ ar) (r : Ready ar held b) : Ready ar held a := by
  obtain ⟨x, hx, r⟩ := r
  exact ⟨x, hx, (Reach.one h).trans r⟩
/-- the inner name b between a and c -/
def OkAt (ar : List (α × α)) (held : List α) (a b c : α) : Prop := ((a, b) ∈ ar ∧ (c, b) ∈ ar → Ready ar held b) ∧ (¬ ((a, b) ∈ ar ∧ (c, b) ∈ ar) → b ∉ held)
theorem OkAt.symm {ar : List (α × α)} {held : List α} {a b c : α} (h : OkAt ar held a b c) : OkAt ar held c b a :=
  ⟨fun q => h.1 ⟨q.2, q.1⟩, fun q => h.2 fun z => q ⟨z.2, z.1⟩⟩
/-- each two neighbours tied -/
def Chain (ar : List (α × α)) : List α → Prop
  | a :: b :: r => Tied ar a b ∧ Chain ar (b :: r)
  | _ => True
/-- each inner name is as it must be -/
def Open (ar : List (α × α)) (held : List α) : List α → Prop
  | a :: b :: c :: r => OkAt ar held a b c ∧ Open ar held (b :: c :: r)
  | _ => True
/-- a walk -/
def Act (ar : List (α × α)) (held : List α) (w : List α) : Prop := Chain ar w ∧ Open ar held w

section lists
variable {ar : List (α × α)} {held : List α}
theorem chain_tail {a : α} {w : List α} (h : Chain ar (a :: w)) : Chain ar w := by
  cases w with
  | nil => trivial
  | cons b r => exact h.2
theorem open_tail {a : α} {w : List α} (h : Open ar held (a :: w)) : Open ar held w := by
  match w, h with
  | [], _ => trivial
  | [_], _ => trivial
  | b :: c :: r, h => exact h.2
theorem chain_right {p w : List α} (h : Chain ar (p ++ w)) : Chain ar w := by
  induction p with
  | nil => exact h
  | cons a p ih => exact ih (chain_tail h)
theorem open_right {p w : List α} (h : Open ar held (p ++ w)) : Open ar held w := by
  induction p with
  | nil => exact h
  | cons a p ih => exact ih (open_tail h)
theorem chain_left : ∀ {p w : List α}, Chain ar (p ++ w) → Chain ar p
  | [], _, _ => trivial
  | [_], _, _ => trivial
  | a :: b :: p, w, h => ⟨h.1, chain_left (p := b :: p) (w := w) h.2⟩
theorem open_left : ∀ {p w : List α}, Open ar held (p ++ w) → Open ar held p
  | [], _, _ => trivial
  | [_], _, _ => trivial
  | [_, _], _, _ => trivial
  | a :: b :: c :: p, w, h => ⟨h.1, open_left (p := b :: c :: p) (w := w) h.2⟩
theorem open_mid {p r : List α} {a b c : α} (h : Open ar held (p ++ a :: b :: c :: r)) : OkAt ar held a b c := (open_right (p := p) h).1
theorem chain_mid {p r : List α} {a b : α} (h : Chain ar (p ++ a :: b :: r)) : Tied ar a b := (chain_right (p := p) h).1
/-- two glued at a name -/
theorem chain_glue : ∀ {p r : List α} {v : α}, Chain ar (p ++ [v]) → Chain ar (v :: r) → Chain ar (p ++ v :: r)
  | [], _, _, _, h => h
  | [a], _, _, g, h => ⟨g.1, h⟩
  | a :: b :: p, r, v, g, h => ⟨g.1, chain_glue (p := b :: p) (r := r) (v := v) g.2 h⟩
theorem open_glue : ∀ {p r : List α} {v : α}, Open ar held (p ++ [v]) → Open ar held (v :: r) → (∀ p' a c r', p = p' ++ [a] → r = c :: r' → OkAt ar held a v c) → Open ar held (p ++ v :: r)
  | [], _, _, _, h, _ => h
  | [a], [], v, g, h, _ => trivial
  | [a], c :: r, v, g, h, k => ⟨k [] a c r rfl rfl, h⟩
  | [a, b], [], v, g, h, k => g
  | [a, b], c :: r, v, g, h, k => ⟨g.1, k [a] b c r rfl rfl, h⟩
  | a :: b :: c :: p, r, v, g, h, k => ⟨g.1, open_glue (p := b :: c :: p) (r := r) (v := v) g.2 h fun p' x y r' e1 e2 => k (a :: p') x y r' (by rw [e1]; rfl) e2⟩
/-- along a walk that begins by an arrow: a held one is below its beginning, or its last arrow goes on too -/
theorem follow (ns : List α) (N : Net ns ar) : ∀ {w : List α} {x y : α}, Act ar held (x :: y :: w) → (x, y) ∈ ar → Ready ar held x ∨ ∃ p s t, x :: y :: w = p ++ [s, t] ∧ (s, t) ∈ ar
  | [], x, y, _, h => .inr ⟨[], x, y, rfl, h⟩
  | z :: w, x, y, ⟨hc, ho⟩, h => by
    have t : Tied ar y z := hc.2.1
    rcases t with t | t
    · rcases follow ns N (w := w) (x := y) (y := z) ⟨hc.2, ho.2⟩ t with r | ⟨p, s, u, e, q⟩
      · exact .inl (r.up h)
      · exact .inr ⟨x :: p, s, u, by rw [e]; rfl, q⟩
    · exact .inl ((ho.1.1 ⟨h, t⟩).up h)
/-- what stands between two visits to a name is left out -/
theorem cut {ns : List α} (N : Net ns ar) {p q r : List α} {v : α} (h : Act ar held (p ++ v :: (q ++ v :: r))) : Act ar held (p ++ v :: r) := by
  obtain ⟨hc, ho⟩ := h
  have e1 : p ++ v :: (q ++ v :: r) = (p ++ [v]) ++ (q ++ v :: r) := by simp
  have e2 : p ++ v :: (q ++ v :: r) = (p ++ v :: q) ++ v :: r := by simp
  refine ⟨chain_glue (chain_left (w := q ++ v :: r) (by rw [← e1]; exact hc)) (chain_right (p := p ++ v :: q) (by rw [← e2]; exact hc)),
    open_glue (open_left (w := q ++ v :: r) (by rw [← e1]; exact ho)) (open_right (p := p ++ v :: q) (by rw [← e2]; exact ho)) fun p' a d r' ep er => ?_⟩
  subst ep er
  -- q isn't empty
  cases q with
  | nil =>
    have t : Tied ar v v := chain_mid (p := p' ++ [a]) (r := d :: r') hc
    exact absurd (t.elim id id) N.irr
  | cons b q0 =>
    obtain ⟨q1, c, eq⟩ : ∃ q1 c, b :: q0 = q1 ++ [c] := ⟨(b :: q0).dropLast, (b :: q0).getLast (by simp), (List.dropLast_concat_getLast (by simp)).symm⟩
    have o1 : OkAt ar held a v b := open_mid (p := p') (r := q0 ++ v :: d :: r') (by simpa using ho)
    have o2 : OkAt ar held c v d := by
      refine open_mid (p := p' ++ a :: v :: q1) (r := r') ?_
      rw [eq] at ho
      simpa using ho
    refine ⟨fun ⟨m1, m2⟩ => ?_, fun m => ?_⟩
    · have tb : Tied ar v b := chain_mid (p := p' ++ [a]) (r := q0 ++ v :: d :: r') (by simpa using hc)
      have tc : Tied ar c v := by
        refine chain_mid (p := p' ++ a :: v :: q1) (r := d :: r') ?_
        rw [eq] at hc
        simpa using hc
      rcases tb with tb | tb
      · rcases tc with tc | tc
        · exact o2.1 ⟨tc, m2⟩
        · -- v goes to b and to c
          have seg : Act ar held (v :: b :: (q0 ++ [v])) := by
            constructor
            · have e3 : p' ++ [a] ++ v :: (b :: q0 ++ v :: d :: r') = (p' ++ [a]) ++ ((v :: b :: (q0 ++ [v])) ++ (d :: r')) := by simp
              rw [e3] at hc
              exact chain_left (chain_right hc)
            · have e3 : p' ++ [a] ++ v :: (b :: q0 ++ v :: d :: r') = (p' ++ [a]) ++ ((v :: b :: (q0 ++ [v])) ++ (d :: r')) := by simp
              rw [e3] at ho
              exact open_left (open_right ho)
          rcases follow ns N seg tb with z | ⟨z, s, t, e, m⟩
          · exact z
          · exfalso
            have e4 : v :: b :: (q0 ++ [v]) = (v :: q1) ++ [c, v] := by
              have : v :: b :: (q0 ++ [v]) = v :: ((b :: q0) ++ [v]) := rfl
              rw [this, eq]
              simp
            rw [e4] at e
            have e5 := congrArg List.reverse e
            simp at e5
            obtain ⟨e6, e7, _⟩ := e5
            subst e6 e7
            exact N.anti tc m
      · exact o1.1 ⟨m1, tb⟩
    · by_cases ma : (a, v) ∈ ar
      · exact o2.2 fun z => m ⟨ma, z.2⟩
      · exact o1.2 fun z => ma z.1
/-- a list with a name twice -/
theorem twice_of : ∀ {w : List α}, ¬ w.Nodup → ∃ p v q r, w = p ++ v :: (q ++ v :: r)
  | [], h => absurd List.nodup_nil h
  | a :: w, h => by
    by_cases m : a ∈ w
    · obtain ⟨q, r, e⟩ := List.append_of_mem m
      exact ⟨[], a, q, r, by rw [e]; rfl⟩
    · have h' : ¬ w.Nodup := fun z => h (List.nodup_cons.mpr ⟨m, z⟩)
      obtain ⟨p, v, q, r, e⟩ := twice_of h'
      exact ⟨a :: p, v, q, r, by rw [e]; rfl⟩
/-- a walk between two names has a road beside it -/
theorem to_road {ns : List α} (N : Net ns ar) : ∀ (n : Nat) (w : List α), w.length ≤ n → Act ar held w → ∃ u : List α, u.Nodup ∧ Act ar held u ∧ u.head? = w.head? ∧ u.getLast? = w.getLast?
  | 0, w, hl, h => ⟨w, by
      have : w = [] := List.length_eq_zero_iff.mp (by omega)
      subst this
      exact List.nodup_nil, h, rfl, rfl⟩
  | n + 1, w, hl, h => by
    by_cases nd : w.Nodup
    · exact ⟨w, nd, h, rfl, rfl⟩
    · obtain ⟨p, v, q, r, e⟩ := twice_of nd
      subst e
      have h2 := cut N h
      have hl2 : (p ++ v :: r).length ≤ n := by
        simp only [List.length_append, List.length_cons] at hl ⊢
        omega
      obtain ⟨u, u1, u2, u3, u4⟩ := to_road N n _ hl2 h2
      refine ⟨u, u1, u2, ?_, ?_⟩
      · rw [u3]
        cases p <;> rfl
      · rw [u4]
        have x1 : p ++ v :: (q ++ v :: r) = (p ++ v :: q) ++ v :: r := by simp
        rw [x1, List.getLast?_append, List.getLast?_append]
        cases hr : (v :: r).getLast? with
        | none => simp at hr
        | some z => rfl
end lists

/-! ### spots -/
/-- the spots to which one comes from a name -/
inductive Spot (ar : List (α × α)) (held : List α) (one : α) : α → Bool → Prop
  | heir0 {h : α} : (one, h) ∈ ar → Spot ar held one h true
  | elder0 {e : α} : (e, one) ∈ ar → Spot ar held one e false
  | heir {n h : α} {b : Bool} : Spot ar held one n b → n ∉ held → (n, h) ∈ ar → Spot ar held one h true
  | elder {n e : α} {b : Bool} : Spot ar held one n b → (b = true ∧ Ready ar held n ∨ b = false ∧ n ∉ held) → (e, n) ∈ ar → Spot ar held one e false

section spots
variable {ns : List α} {ar : List (α × α)} {held : List α} {one : α}
/-- a spot is the end of a walk -/
theorem Spot.walk (N : Net ns ar) {n : α} {b : Bool} (h : Spot ar held one n b) : ∃ m r, Act ar held (n :: m :: r) ∧ (m :: r).getLast? = some one ∧ (b = true → (m, n) ∈ ar) ∧ (b = false → (n, m) ∈ ar) := by
  induction h with
  | @heir0 h e => exact ⟨one, [], ⟨⟨.inr e, trivial⟩, trivial⟩, rfl, fun _ => e, fun z => nomatch z⟩
  | @elder0 x e => exact ⟨one, [], ⟨⟨.inl e, trivial⟩, trivial⟩, rfl, (fun z => nomatch z), fun _ => e⟩
  | @heir n h b _ nh e ih =>
    obtain ⟨m, r, ⟨hc, ho⟩, hl, h1, h2⟩ := ih
    exact ⟨n, m :: r, ⟨⟨.inr e, hc⟩, ⟨fun z => absurd z.1 (N.anti e), fun _ => nh⟩, ho⟩, by rw [List.getLast?_cons_cons]; exact hl, fun _ => e, fun z => nomatch z⟩
  | @elder n x b _ c e ih =>
    obtain ⟨m, r, ⟨hc, ho⟩, hl, h1, h2⟩ := ih
    refine ⟨n, m :: r, ⟨⟨.inl e, hc⟩, ⟨fun z => ?_, fun z => ?_⟩, ho⟩, by rw [List.getLast?_cons_cons]; exact hl, (fun z => nomatch z), fun _ => e⟩
    · rcases c with ⟨_, c⟩ | ⟨c, _⟩
      · exact c
      · exact absurd z.2 (N.anti (h2 c))
    · rcases c with ⟨c, _⟩ | ⟨_, c⟩
      · exact absurd ⟨e, h1 c⟩ z
      · exact c
/-- the end of a walk is a spot -/
theorem spot_of (N : Net ns ar) : ∀ {r : List α} {n m : α}, Act ar held (n :: m :: r) → (m :: r).getLast? = some one → ((m, n) ∈ ar → Spot ar held one n true) ∧ ((n, m) ∈ ar → Spot ar held one n false)
  | [], n, m, h, hl => by
    have e : m = one := Option.some.inj hl
    subst e
    exact ⟨fun z => .heir0 z, fun z => .elder0 z⟩
  | k :: r, n, m, ⟨hc, ho⟩, hl => by
    have ih := spot_of N (r := r) (n := m) (m := k) ⟨hc.2, ho.2⟩ (by rw [List.getLast?_cons_cons] at hl; exact hl)
    have t : Tied ar m k := hc.2.1
    constructor
    · intro e
      have nh : m ∉ held := ho.1.2 fun z => N.anti e z.1
      rcases t with t | t
      · exact .heir (ih.2 t) nh e
      · exact .heir (ih.1 t) nh e
    · intro e
      rcases t with t | t
      · exact .elder (ih.2 t) (.inr ⟨rfl, ho.1.2 fun z => N.anti t z.2⟩) e
      · exact .elder (ih.1 t) (.inl ⟨rfl, ho.1.1 ⟨e, t⟩⟩) e
end spots

/-! ### roads -/
/-- a road from one name to another one -/
structure Road (ar : List (α × α)) (one other : α) (r : List α) : Prop where
  nd : r.Nodup
  ch : Chain ar r
  hd : r.head? = some one
  ls : r.getLast? = some other
theorem chain_snoc {ar : List (α × α)} : ∀ {r : List α} {a b : α}, Chain ar (r ++ [a]) → Tied ar a b → Chain ar (r ++ [a, b])
  | [], a, b, _, t => ⟨t, trivial⟩
  | [x], a, b, h, t => ⟨h.1, t, trivial⟩
  | x :: y :: r, a, b, h, t => ⟨h.1, chain_snoc (r := y :: r) h.2 t⟩
theorem chain_rev {ar : List (α × α)} : ∀ {r : List α}, Chain ar r → Chain ar r.reverse
  | [], _ => trivial
  | [a], _ => trivial
  | a :: b :: r, h => by
    have ih := chain_rev (r := b :: r) h.2
    rw [List.reverse_cons] at ih ⊢
    rw [List.reverse_cons]
    have e : r.reverse ++ [b] ++ [a] = r.reverse ++ [b, a] := by simp
    rw [e]
    exact chain_snoc ih h.1.symm
theorem open_snoc {ar : List (α × α)} {held : List α} : ∀ {r : List α} {a b c : α}, Open ar held (r ++ [a, b]) → OkAt ar held a b c → Open ar held (r ++ [a, b, c])
  | [], a, b, c, _, t => ⟨t, trivial⟩
  | [x], a, b, c, h, t => ⟨h.1, t, trivial⟩
  | [x, y], a, b, c, h, t => ⟨h.1, h.2.1, t, trivial⟩
  | x :: y :: z :: r, a, b, c, h, t => ⟨h.1, open_snoc (r := y :: z :: r) h.2 t⟩
theorem open_rev {ar : List (α × α)} {held : List α} : ∀ {r : List α}, Open ar held r → Open ar held r.reverse
  | [], _ => trivial
  | [a], _ => trivial
  | [a, b], _ => trivial
  | a :: b :: c :: r, h => by
    have ih := open_rev (r := b :: c :: r) h.2
    have e1 : (b :: c :: r).reverse = r.reverse ++ [c, b] := by simp
    have e2 : (a :: b :: c :: r).reverse = r.reverse ++ [c, b, a] := by simp
    rw [e1] at ih
    rw [e2]
    exact open_snoc ih h.1.symm
theorem Road.rev {ar : List (α × α)} {one other : α} {r : List α} (h : Road ar one other r) : Road ar other one r.reverse :=
  ⟨List.pairwise_reverse.mpr (h.nd.imp fun z => Ne.symm z), chain_rev h.ch, by rw [List.head?_reverse]; exact h.ls, by rw [List.getLast?_reverse]; exact h.hd⟩

/-- THE LAW BEHIND THE PROGRAM: a spot of another name is reached just where a road to it is open -/
theorem spot_iff {ns : List α} {ar : List (α × α)} {held : List α} {one other : α} (N : Net ns ar) (hne : one ≠ other) :
    (∃ b, Spot ar held one other b) ↔ ∃ r, Road ar one other r ∧ Open ar held r := by
  constructor
  · rintro ⟨b, h⟩
    obtain ⟨m, r, ha, hl, _⟩ := h.walk N
    obtain ⟨u, u1, ⟨u2, u3⟩, u4, u5⟩ := to_road N _ _ (Nat.le_refl _) ha
    have hr : Road ar other one u := ⟨u1, u2, u4, by rw [u5, List.getLast?_cons_cons]; exact hl⟩
    exact ⟨u.reverse, hr.rev, open_rev u3⟩
  · rintro ⟨r, hr, ho⟩
    have h := hr.rev
    have ho2 := open_rev ho
    generalize r.reverse = u at h ho2
    match u, h, ho2 with
    | [], h, _ => exact absurd h.hd (by simp)
    | [a], h, _ =>
      have e1 : a = other := Option.some.inj h.hd
      have e2 : a = one := Option.some.inj h.ls
      exact absurd (e2.symm.trans e1) hne
    | a :: b :: w, h, ho2 =>
      have e1 : a = other := Option.some.inj h.hd
      subst e1
      have q := spot_of N (held := held) (one := one) (r := w) (n := a) (m := b) ⟨h.ch, ho2⟩ (by have := h.ls; rw [List.getLast?_cons_cons] at this; exact this)
      rcases h.ch.1 with t | t
      · exact ⟨false, q.2 t⟩
      · exact ⟨true, q.1 t⟩
theorem spot_swap {ns : List α} {ar : List (α × α)} {held : List α} {one other : α} (N : Net ns ar) (hne : one ≠ other) : (∃ b, Spot ar held one other b) ↔ ∃ b, Spot ar held other one b := by
  rw [spot_iff N hne, spot_iff N (Ne.symm hne)]
  constructor
  · rintro ⟨r, h, o⟩
    exact ⟨r.reverse, h.rev, open_rev o⟩
  · rintro ⟨r, h, o⟩
    exact ⟨r.reverse, h.rev, open_rev o⟩
end Am
/-! Roads told in two ways (depth first, by length), and openness by places. -/
namespace Am
variable {α : Type} [DecidableEq α]
theorem open_iff {ar : List (α × α)} {held : List α} : ∀ {r : List α}, Open ar held r ↔ ∀ (i : Nat) (a b c : α), r[i]? = some a → r[i + 1]? = some b → r[i + 2]? = some c → OkAt ar held a b c
  | [] => ⟨fun _ i a b c h => by simp at h, fun _ => trivial⟩
  | [_] => ⟨fun _ i a b c h h2 => by simp at h2, fun _ => trivial⟩
  | [_, _] => ⟨fun _ i a b c h h2 h3 => by simp at h3, fun _ => trivial⟩
  | x :: y :: z :: r => by
    have ih := open_iff (ar := ar) (held := held) (r := y :: z :: r)
    constructor
    · rintro ⟨h1, h2⟩ i a b c ha hb hc
      cases i with
      | zero =>
        simp at ha hb hc
        subst ha hb hc
        exact h1
      | succ i => exact ih.mp h2 i a b c (by simpa using ha) (by simpa using hb) (by simpa using hc)
    · intro h
      exact ⟨h 0 x y z rfl rfl rfl, ih.mpr fun i a b c ha hb hc => h (i + 1) a b c (by simpa using ha) (by simpa using hb) (by simpa using hc)⟩
theorem chain_iff {ar : List (α × α)} : ∀ {r : List α}, Chain ar r ↔ ∀ (i : Nat) (a b : α), r[i]? = some a → r[i + 1]? = some b → Tied ar a b
  | [] => ⟨fun _ i a b h => by simp at h, fun _ => trivial⟩
  | [_] => ⟨fun _ i a b h h2 => by simp at h2, fun _ => trivial⟩
  | x :: y :: r => by
    have ih := chain_iff (ar := ar) (r := y :: r)
    constructor
    · rintro ⟨h1, h2⟩ i a b ha hb
      cases i with
      | zero =>
        simp at ha hb
        subst ha hb
        exact h1
      | succ i => exact ih.mp h2 i a b (by simpa using ha) (by simpa using hb)
    · intro h
      exact ⟨h 0 x y rfl rfl, ih.mpr fun i a b ha hb => h (i + 1) a b (by simpa using ha) (by simpa using hb)⟩
theorem chain_push {ar : List (α × α)} {r : List α} {l x : α} (h : Chain ar r) (hl : r.getLast? = some l) (t : Tied ar l x) : Chain ar (r ++ [x]) := by
  obtain ⟨q, e⟩ := List.getLast?_eq_some_iff.mp hl
  subst e
  have := chain_snoc h t
  simpa using this
theorem chain_in {ar : List (α × α)} {ns : List α} (N : Net ns ar) : ∀ {r : List α}, Chain ar r → (∀ a, r.head? = some a → a ∈ ns) → ∀ x ∈ r, x ∈ ns
  | [], _, _, x, h => by cases h
  | [a], _, hh, x, h => by
    have e : x = a := by simpa using h
    subst e
    exact hh x rfl
  | a :: b :: r, hc, hh, x, h => by
    rcases List.mem_cons.mp h with rfl | h
    · exact hh x rfl
    · refine chain_in N (r := b :: r) hc.2 (fun c hc' => ?_) x h
      have e : b = c := by simpa using hc'
      subst e
      rcases hc.1 with t | t
      · exact (N.mem _ _ t).2
      · exact (N.mem _ _ t).1

/-- all roads that begin with a road and end at a name, depth first -/
def roadsOn (nr : α → List α) (other : α) : Nat → List α → List (List α)
  | 0, _ => []
  | n + 1, road => match road.getLast? with
    | none => []
    | some l => if l = other then [road] else ((nr l).filter fun x => decide (x ∉ road)).flatMap fun x => roadsOn nr other n (road ++ [x])
theorem roadsOn_at {nr : α → List α} {other : α} {n : Nat} {road : List α} {l : α} (hl : road.getLast? = some l) :
    roadsOn nr other (n + 1) road = if l = other then [road] else ((nr l).filter fun x => decide (x ∉ road)).flatMap fun x => roadsOn nr other n (road ++ [x]) := by
  show (match road.getLast? with
    | none => []
    | some l => if l = other then [road] else ((nr l).filter fun x => decide (x ∉ road)).flatMap fun x => roadsOn nr other n (road ++ [x])) = _
  rw [hl]
theorem flatMap_le {β : Type} {f : α → List β} {m : Nat} : ∀ {l : List α}, (∀ a ∈ l, (f a).length ≤ m) → (l.flatMap f).length ≤ l.length * m
  | [], _ => by simp
  | a :: l, h => by
    have ih := flatMap_le (l := l) fun b hb => h b (List.mem_cons_of_mem _ hb)
    have h1 := h a List.mem_cons_self
    rw [List.flatMap_cons, List.length_append, List.length_cons, Nat.add_mul, Nat.one_mul]
    omega
theorem roadsOn_le {nr : α → List α} {other : α} {k : Nat} (hk : ∀ x, (nr x).length ≤ k) (hk1 : 1 ≤ k) : ∀ (n : Nat) (road : List α), (roadsOn nr other n road).length ≤ k ^ n
  | 0, _ => by simp [roadsOn]
  | n + 1, road => by
    cases hl : road.getLast? with
    | none => simp [roadsOn, hl]
    | some l =>
      rw [roadsOn_at hl]
      by_cases e : l = other
      · rw [if_pos e]
        exact Nat.one_le_pow _ _ hk1
      · rw [if_neg e]
        refine Nat.le_trans (flatMap_le fun a _ => roadsOn_le hk hk1 n (road ++ [a])) ?_
        rw [Nat.pow_succ, Nat.mul_comm]
        refine Nat.mul_le_mul_left _ (Nat.le_trans (List.length_filter_le _ _) (hk l))
/-- a road that goes on from a begun one -/
structure Onto (ar : List (α × α)) (other : α) (road r : List α) : Prop where
  nd : r.Nodup
  ch : Chain ar r
  ls : r.getLast? = some other
  pre : road <+: r
theorem mem_roadsOn {ns : List α} {ar : List (α × α)} (N : Net ns ar) {nr : α → List α} (hnr : ∀ x y, y ∈ nr x ↔ y ∈ ns ∧ Tied ar x y) {other : α} : ∀ (n : Nat) (road : List α) (l : α), road.getLast? = some l → road.Nodup → Chain ar road → (∀ x ∈ road, x ∈ ns) →
    other ∉ road.dropLast → ns.length + 1 ≤ n + road.length → ∀ r, r ∈ roadsOn nr other n road ↔ Onto ar other road r
  | 0, road, l, hl, nd, ch, hin, ho, hf => by
    have := nd.length_le_of_subset hin
    omega
  | n + 1, road, l, hl, nd, ch, hin, ho, hf => by
    intro r
    rw [roadsOn_at hl]
    obtain ⟨q, eq⟩ := List.getLast?_eq_some_iff.mp hl
    by_cases e : l = other
    · subst e
      rw [if_pos rfl]
      constructor
      · intro h
        have er : r = road := by simpa using h
        subst er
        exact ⟨nd, ch, hl, List.prefix_refl _⟩
      · rintro ⟨h1, h2, h3, s, hs⟩
        subst hs
        cases s with
        | nil => simp
        | cons x s =>
          exfalso
          have hm : l ∈ x :: s := by
            rw [List.getLast?_append] at h3
            cases hz : (x :: s).getLast? with
            | none => simp at hz
            | some z =>
              rw [hz] at h3
              have e : z = l := by simpa using h3
              subst e
              exact List.mem_of_getLast? hz
          rw [eq] at h1
          exact (List.nodup_append.mp h1).2.2 l (by simp) l hm rfl
    · rw [if_neg e, List.mem_flatMap]
      have ho2 : other ∉ road := by
        rw [eq] at ho ⊢
        simp at ho ⊢
        exact ⟨ho, fun z => e z.symm⟩
      constructor
      · rintro ⟨x, hx, hr⟩
        obtain ⟨hx1, hx2⟩ := List.mem_filter.mp hx
        have hx2 : x ∉ road := of_decide_eq_true hx2
        obtain ⟨hx3, hx4⟩ := (hnr l x).mp hx1
        have ih := (mem_roadsOn N hnr n (road ++ [x]) x (by simp) (List.nodup_append.mpr ⟨nd, by simp, fun a ha b hb => by
          have eb : b = x := by simpa using hb
          subst eb
          exact fun z => hx2 (z ▸ ha)⟩) (chain_push ch hl hx4) (fun y hy => by
            rcases List.mem_append.mp hy with m | m
            · exact hin y m
            · have ey : y = x := by simpa using m
              subst ey
              exact hx3) (by simpa using ho2) (by simp; omega) r).mp hr
        exact ⟨ih.nd, ih.ch, ih.ls, (List.prefix_append road [x]).trans ih.pre⟩
      · rintro ⟨h1, h2, h3, s, hs⟩
        subst hs
        cases s with
        | nil =>
          exfalso
          rw [List.append_nil, hl] at h3
          exact e (Option.some.inj h3)
        | cons x s =>
          have ap : road ++ x :: s = (road ++ [x]) ++ s := by simp
          have hx2 : x ∉ road := fun m => (List.nodup_append.mp h1).2.2 x m x (by simp) rfl
          have t : Tied ar l x := by
            rw [eq] at h2
            have : q ++ [l] ++ x :: s = q ++ l :: x :: s := by simp
            rw [this] at h2
            exact chain_mid h2
          have hx3 : x ∈ ns := by
            rcases t with t | t
            · exact (N.mem _ _ t).2
            · exact (N.mem _ _ t).1
          refine ⟨x, List.mem_filter.mpr ⟨(hnr l x).mpr ⟨hx3, t⟩, decide_eq_true hx2⟩, ?_⟩
          refine (mem_roadsOn N hnr n (road ++ [x]) x (by simp) (List.nodup_append.mpr ⟨nd, by simp, fun a ha b hb => by
            have eb : b = x := by simpa using hb
            subst eb
            exact fun z => hx2 (z ▸ ha)⟩) (chain_push ch hl t) (fun y hy => by
              rcases List.mem_append.mp hy with m | m
              · exact hin y m
              · have ey : y = x := by simpa using m
                subst ey
                exact hx3) (by simpa using ho2) (by simp; omega) _).mpr ⟨h1, h2, h3, ap ▸ List.prefix_append _ _⟩
theorem nodup_roadsOn {nr : α → List α} (hn : ∀ x, (nr x).Nodup) {other : α} : ∀ (n : Nat) (road : List α), (roadsOn nr other n road).Nodup ∧ ∀ r ∈ roadsOn nr other n road, road <+: r
  | 0, road => ⟨List.nodup_nil, fun r h => by cases h⟩
  | n + 1, road => by
    cases hl : road.getLast? with
    | none => simp [roadsOn, hl]
    | some l =>
      rw [roadsOn_at hl]
      by_cases e : l = other
      · rw [if_pos e]
        exact ⟨by simp, fun r h => by
          have er : r = road := by simpa using h
          subst er
          exact List.prefix_refl _⟩
      · rw [if_neg e]
        refine ⟨List.pairwise_flatMap.mpr ⟨fun x _ => (nodup_roadsOn hn n (road ++ [x])).1, ?_⟩, fun r h => ?_⟩
        · refine ((hn l).sublist List.filter_sublist).imp fun {a b} hab x hx y hy z => ?_
          subst z
          have p1 := (nodup_roadsOn hn n (road ++ [a])).2 x hx
          have p2 := (nodup_roadsOn hn n (road ++ [b])).2 x hy
          obtain ⟨s1, e1⟩ := p1
          obtain ⟨s2, e2⟩ := p2
          rw [← e2] at e1
          simp at e1
          exact hab e1.1
        · obtain ⟨x, _, hr⟩ := List.mem_flatMap.mp h
          exact (List.prefix_append road [x]).trans ((nodup_roadsOn hn n (road ++ [x])).2 r hr)

/-! ### by length -/
def lastTied (ar : List (α × α)) (r : List α) (x : α) : Prop := ∃ l, r.getLast? = some l ∧ Tied ar l x
instance (ar : List (α × α)) (r : List α) (x : α) : Decidable (lastTied ar r x) := by
  unfold lastTied
  cases h : r.getLast? with
  | none => exact isFalse fun ⟨_, z, _⟩ => by cases z
  | some l => exact if t : Tied ar l x then isTrue ⟨l, rfl, t⟩ else isFalse fun ⟨_, z, q⟩ => t (by cases z; exact q)
/-- what one grown road gives: an end, longer ones -/
def ends1 (ns : List α) (ar : List (α × α)) (other : α) (r : List α) : List (List α) := (ns.filter fun x => decide (x = other ∧ lastTied ar r x)).map fun x => r ++ [x]
def grow1 (ns : List α) (ar : List (α × α)) (other : α) (r : List α) : List (List α) := (ns.filter fun x => decide (x ∉ r ∧ x ≠ other ∧ lastTied ar r x)).map fun x => r ++ [x]
/-- due and grown behind so many turns -/
def byLen (ns : List α) (ar : List (α × α)) (one other : α) : Nat → List (List α) × List (List α)
  | 0 => ([], [[one]])
  | k + 1 => ((byLen ns ar one other k).1 ++ (byLen ns ar one other k).2.flatMap (ends1 ns ar other), (byLen ns ar one other k).2.flatMap (grow1 ns ar other))
structure Grown (ar : List (α × α)) (one other : α) (k : Nat) (r : List α) : Prop where
  nd : r.Nodup
  ch : Chain ar r
  hd : r.head? = some one
  no : other ∉ r
  ln : r.length = k + 1
theorem head_app {r : List α} {x a : α} (h : r.head? = some a) : (r ++ [x]).head? = some a := by
  cases r with
  | nil => cases h
  | cons b r => exact h
theorem byLen_ok {ns : List α} {ar : List (α × α)} (N : Net ns ar) {one other : α} (hne : one ≠ other) (ho : other ∈ ns) : ∀ k : Nat,
    ((byLen ns ar one other k).2.Nodup ∧ ∀ r, r ∈ (byLen ns ar one other k).2 ↔ Grown ar one other k r) ∧ ((byLen ns ar one other k).1.Nodup ∧ ∀ r, r ∈ (byLen ns ar one other k).1 ↔ Road ar one other r ∧ r.length ≤ k + 1)
  | 0 => by
    refine ⟨⟨by simp [byLen], fun r => ⟨fun h => ?_, fun h => ?_⟩⟩, ⟨by simp [byLen], fun r => ⟨fun h => (by simp [byLen] at h), fun h => ?_⟩⟩⟩
    · have e : r = [one] := by simpa [byLen] using h
      subst e
      exact ⟨by simp, trivial, rfl, by simpa using Ne.symm hne, rfl⟩
    · obtain ⟨_, _, h1, _, h2⟩ := h
      match r, h1, h2 with
      | [a], h1, _ =>
        have e : a = one := by simpa using h1
        subst e
        simp [byLen]
    · obtain ⟨⟨h0, _, h1, h2⟩, h3⟩ := h
      match r, h1, h2, h3 with
      | [a], h1, h2, _ =>
        have e1 : a = one := by simpa using h1
        have e2 : a = other := by simpa using h2
        exact absurd (e1.symm.trans e2) hne
  | k + 1 => by
    obtain ⟨⟨g1, g2⟩, ⟨d1, d2⟩⟩ := byLen_ok N hne ho k
    have pre1 : ∀ {f : α → Prop} [DecidablePred f] (r : List α), ((ns.filter fun x => decide (f x)).map fun x => r ++ [x]).Nodup := fun r =>
      List.pairwise_map.mpr ((N.nd.sublist List.filter_sublist).imp fun {a b} hab z => hab (by simpa using z))
    have pre2 : ∀ (f g : List α → α → Prop) [∀ r, DecidablePred (f r)] [∀ r, DecidablePred (g r)] (a b : List α), a ≠ b → ∀ x ∈ (ns.filter fun x => decide (f a x)).map (fun x => a ++ [x]), ∀ y ∈ (ns.filter fun x => decide (g b x)).map (fun x => b ++ [x]), x ≠ y := by
      intro f g _ _ a b hab x hx y hy z
      obtain ⟨u, _, rfl⟩ := List.mem_map.mp hx
      obtain ⟨v, _, e⟩ := List.mem_map.mp hy
      rw [← e] at z
      have := List.append_inj' z rfl
      exact hab this.1
    refine ⟨⟨List.pairwise_flatMap.mpr ⟨fun r _ => pre1 r, g1.imp fun {a b} hab => pre2 (fun r x => x ∉ r ∧ x ≠ other ∧ lastTied ar r x) (fun r x => x ∉ r ∧ x ≠ other ∧ lastTied ar r x) a b hab⟩, fun r => ?_⟩, ⟨?_, fun r => ?_⟩⟩
    · show r ∈ (byLen ns ar one other k).2.flatMap (grow1 ns ar other) ↔ _
      rw [List.mem_flatMap]
      constructor
      · rintro ⟨q, hq, hr⟩
        obtain ⟨x, hx, rfl⟩ := List.mem_map.mp hr
        obtain ⟨hx1, hx2⟩ := List.mem_filter.mp hx
        obtain ⟨h1, h2, l, h3, h4⟩ := of_decide_eq_true hx2
        obtain ⟨n1, n2, n3, n4, n5⟩ := (g2 q).mp hq
        exact ⟨List.nodup_append.mpr ⟨n1, by simp, fun a ha b hb => by
          have eb : b = x := by simpa using hb
          subst eb
          exact fun z => h1 (z ▸ ha)⟩, chain_push n2 h3 h4, head_app n3, by simp [n4]; exact fun z => h2 z.symm, by simp [n5]⟩
      · rintro ⟨n1, n2, n3, n4, n5⟩
        have hne' : r ≠ [] := by rintro rfl; simp at n5
        obtain ⟨q, x, rfl⟩ : ∃ q x, r = q ++ [x] := ⟨r.dropLast, r.getLast hne', (List.dropLast_concat_getLast hne').symm⟩
        have hq : q ≠ [] := by rintro rfl; simp at n5
        obtain ⟨q', l, rfl⟩ : ∃ q' l, q = q' ++ [l] := ⟨q.dropLast, q.getLast hq, (List.dropLast_concat_getLast hq).symm⟩
        have t : Tied ar l x := by
          have : q' ++ [l] ++ [x] = q' ++ l :: x :: [] := by simp
          rw [this] at n2
          exact chain_mid n2
        have hx3 : x ∈ ns := by
          rcases t with t | t
          · exact (N.mem _ _ t).2
          · exact (N.mem _ _ t).1
        refine ⟨q' ++ [l], (g2 _).mpr ⟨(List.nodup_append.mp n1).1, chain_left n2, ?_, fun z => n4 (List.mem_append_left _ z), by simp at n5 ⊢; omega⟩, List.mem_map.mpr ⟨x, List.mem_filter.mpr ⟨hx3, decide_eq_true ⟨fun m => (List.nodup_append.mp n1).2.2 x m x (by simp) rfl, fun z => n4 (by simp [z]), l, by simp, t⟩⟩, rfl⟩⟩
        cases q' with
        | nil => simpa using n3
        | cons b q' => simpa using n3
    · show ((byLen ns ar one other k).1 ++ (byLen ns ar one other k).2.flatMap (ends1 ns ar other)).Nodup
      refine List.nodup_append.mpr ⟨d1, List.pairwise_flatMap.mpr ⟨fun r _ => pre1 r, g1.imp fun {a b} hab => pre2 (fun r x => x = other ∧ lastTied ar r x) (fun r x => x = other ∧ lastTied ar r x) a b hab⟩, fun a ha b hb z => ?_⟩
      subst z
      have h1 := ((d2 a).mp ha).2
      obtain ⟨q, hq, hr⟩ := List.mem_flatMap.mp hb
      obtain ⟨x, hx, rfl⟩ := List.mem_map.mp hr
      have := ((g2 q).mp hq).ln
      simp at h1
      omega
    · show r ∈ (byLen ns ar one other k).1 ++ (byLen ns ar one other k).2.flatMap (ends1 ns ar other) ↔ _
      rw [List.mem_append, d2, List.mem_flatMap]
      constructor
      · rintro (⟨h1, h2⟩ | ⟨q, hq, hr⟩)
        · exact ⟨h1, by omega⟩
        · obtain ⟨x, hx, rfl⟩ := List.mem_map.mp hr
          obtain ⟨hx1, hx2⟩ := List.mem_filter.mp hx
          obtain ⟨rfl, l, h3, h4⟩ := of_decide_eq_true hx2
          obtain ⟨n1, n2, n3, n4, n5⟩ := (g2 q).mp hq
          exact ⟨⟨List.nodup_append.mpr ⟨n1, by simp, fun a ha b hb => by
            have eb : b = x := by simpa using hb
            subst eb
            exact fun z => n4 (z ▸ ha)⟩, chain_push n2 h3 h4, head_app n3, by simp⟩, by simp [n5]⟩
      · rintro ⟨⟨n1, n2, n3, n4⟩, n5⟩
        by_cases hlen : r.length ≤ k + 1
        · exact .inl ⟨⟨n1, n2, n3, n4⟩, hlen⟩
        · right
          have hne' : r ≠ [] := by rintro rfl; simp at n4
          obtain ⟨q, x, rfl⟩ : ∃ q x, r = q ++ [x] := ⟨r.dropLast, r.getLast hne', (List.dropLast_concat_getLast hne').symm⟩
          have ex : x = other := by simpa using n4
          subst ex
          have hq : q ≠ [] := by
            rintro rfl
            have : x = one := by simpa using n3
            exact hne this.symm
          obtain ⟨q', l, rfl⟩ : ∃ q' l, q = q' ++ [l] := ⟨q.dropLast, q.getLast hq, (List.dropLast_concat_getLast hq).symm⟩
          have t : Tied ar l x := by
            have : q' ++ [l] ++ [x] = q' ++ l :: x :: [] := by simp
            rw [this] at n2
            exact chain_mid n2
          refine ⟨q' ++ [l], (g2 _).mpr ⟨(List.nodup_append.mp n1).1, chain_left n2, ?_, fun m => (List.nodup_append.mp n1).2.2 x m x (by simp) rfl, by simp at n5 hlen ⊢; omega⟩, List.mem_map.mpr ⟨x, List.mem_filter.mpr ⟨ho, decide_eq_true ⟨rfl, l, by simp, t⟩⟩, rfl⟩⟩
          cases q' with
          | nil => simpa using n3
          | cons b q' => simpa using n3
theorem road_short {ns : List α} {ar : List (α × α)} (N : Net ns ar) {one other : α} (h1 : one ∈ ns) {r : List α} (h : Road ar one other r) : r.length ≤ ns.length :=
  h.nd.length_le_of_subset fun x hx => chain_in N h.ch (fun a ha => by
    rw [h.hd] at ha
    cases ha
    exact h1) x hx
/-- both tell the same number -/
theorem same_number {ns : List α} {ar : List (α × α)} (N : Net ns ar) {nr : α → List α} (hnr : ∀ x y, y ∈ nr x ↔ y ∈ ns ∧ Tied ar x y) (hnd : ∀ x, (nr x).Nodup) {one other : α} (hne : one ≠ other) (h1 : one ∈ ns) (ho : other ∈ ns) {n : Nat} (hn : ns.length ≤ n) :
    (roadsOn nr other n [one]).length = (byLen ns ar one other ns.length).1.length ∧ ∀ r, r ∈ (byLen ns ar one other ns.length).1 ↔ Road ar one other r := by
  obtain ⟨_, ⟨d1, d2⟩⟩ := byLen_ok N hne ho ns.length
  have d3 : ∀ r, r ∈ (byLen ns ar one other ns.length).1 ↔ Road ar one other r := fun r => by
    rw [d2]
    exact ⟨fun h => h.1, fun h => ⟨h, Nat.le_succ_of_le (road_short N h1 h)⟩⟩
  refine ⟨((List.perm_ext_iff_of_nodup (nodup_roadsOn hnd n [one]).1 d1).mpr fun r => ?_).length_eq, d3⟩
  rw [d3, mem_roadsOn N hnr n [one] one rfl (by simp) trivial (by simpa using h1) (by simp) (by simp; omega)]
  constructor
  · rintro ⟨a1, a2, a3, s, rfl⟩
    exact ⟨a1, a2, rfl, a3⟩
  · rintro ⟨a1, a2, a3, a4⟩
    refine ⟨a1, a2, a4, ?_⟩
    cases r with
    | nil => cases a3
    | cons b r =>
      have e : b = one := by simpa using a3
      subst e
      exact ⟨r, rfl⟩
end Am
/-! Openness as it is looked at: by names that meet, by places. -/
namespace Am
variable {α : Type} [DecidableEq α]
/-- both arrows come in at the place behind i -/
def meetsAt (ar : List (α × α)) (r : List α) (i : Nat) : Bool := match r[i]?, r[i + 1]?, r[i + 2]? with
  | some a, some b, some c => decide ((a, b) ∈ ar) && decide ((c, b) ∈ ar)
  | _, _, _ => false
theorem meetsAt_of {ar : List (α × α)} {r : List α} {i : Nat} {a b c : α} (h1 : r[i]? = some a) (h2 : r[i + 1]? = some b) (h3 : r[i + 2]? = some c) : meetsAt ar r i = (decide ((a, b) ∈ ar) && decide ((c, b) ∈ ar)) := by
  unfold meetsAt
  rw [h1, h2, h3]
def meetsL (ar : List (α × α)) (d : α) (r : List α) : List α := ((List.range (r.length - 2)).filter (meetsAt ar r)).map fun i => r.getD (i + 1) d
theorem three {r : List α} {i : Nat} (h : i < r.length - 2) : ∃ a b c, r[i]? = some a ∧ r[i + 1]? = some b ∧ r[i + 2]? = some c :=
  ⟨r[i], r[i + 1], r[i + 2], List.getElem?_eq_getElem (by omega), List.getElem?_eq_getElem (by omega), List.getElem?_eq_getElem (by omega)⟩
theorem nd_at {r : List α} (h : r.Nodup) {i j : Nat} {x : α} (hi : r[i]? = some x) (hj : r[j]? = some x) : i = j := by
  obtain ⟨h1, e1⟩ := List.getElem?_eq_some_iff.mp hi
  obtain ⟨h2, e2⟩ := List.getElem?_eq_some_iff.mp hj
  exact (List.getElem_inj h).mp (e1.trans e2.symm)
theorem mem_meetsL {ar : List (α × α)} {d : α} {r : List α} (hn : r.Nodup) {i : Nat} {x : α} (hi : i < r.length - 2) (hx : r[i + 1]? = some x) : x ∈ meetsL ar d r ↔ meetsAt ar r i = true := by
  unfold meetsL
  rw [List.mem_map]
  constructor
  · rintro ⟨j, hj, e⟩
    obtain ⟨h1, h2⟩ := List.mem_filter.mp hj
    have hj' : j < r.length - 2 := List.mem_range.mp h1
    have h3 : r[j + 1]? = some x := by
      rw [List.getD_eq_getElem?_getD] at e
      rw [← e, List.getElem?_eq_getElem (by omega)]
      rfl
    have := nd_at hn h3 hx
    have e2 : j = i := by omega
    subst e2
    exact h2
  · intro h
    refine ⟨i, List.mem_filter.mpr ⟨List.mem_range.mpr hi, h⟩, ?_⟩
    rw [List.getD_eq_getElem?_getD, hx]
    rfl
theorem meetsL_sub {ar : List (α × α)} {d : α} {r : List α} {x : α} (h : x ∈ meetsL ar d r) : x ∈ r := by
  obtain ⟨j, hj, e⟩ := List.mem_map.mp h
  have hj' : j < r.length - 2 := List.mem_range.mp (List.mem_filter.mp hj).1
  rw [List.getD_eq_getElem?_getD, List.getElem?_eq_getElem (by omega)] at e
  rw [← e]
  exact List.getElem_mem _
def inner (r : List α) : List α := (r.drop 1).take (r.length - 2)
theorem inner_at {r : List α} {i : Nat} (h : i < r.length - 2) : (inner r)[i]? = r[i + 1]? := by
  unfold inner
  rw [List.getElem?_take, if_pos h, List.getElem?_drop, Nat.add_comm]
theorem inner_len (r : List α) : (inner r).length = r.length - 2 := by
  unfold inner
  rw [List.length_take, List.length_drop]
  omega
/-- what is wrong at an inner name -/
def viol (ar : List (α × α)) (d : α) (r : List α) (rd : α → Bool) (held : List α) (x : α) : Bool := if x ∈ meetsL ar d r then !rd x else decide (x ∈ held)
theorem okAt_iff {ar : List (α × α)} {held : List α} {rd : α → Bool} {a b c : α} (hrd : rd b = true ↔ Ready ar held b) : OkAt ar held a b c ↔ (if (decide ((a, b) ∈ ar) && decide ((c, b) ∈ ar)) = true then rd b = true else b ∉ held) := by
  unfold OkAt
  by_cases h : (a, b) ∈ ar ∧ (c, b) ∈ ar
  · have e : (decide ((a, b) ∈ ar) && decide ((c, b) ∈ ar)) = true := by simp [h.1, h.2]
    rw [if_pos e]
    constructor
    · rintro ⟨h1, _⟩
      exact hrd.mpr (h1 h)
    · intro h1
      exact ⟨fun _ => hrd.mp h1, fun z => absurd h z⟩
  · have e : ¬ (decide ((a, b) ∈ ar) && decide ((c, b) ∈ ar)) = true := fun z => h (by simpa using z)
    rw [if_neg e]
    constructor
    · rintro ⟨_, h1⟩
      exact h1 h
    · intro h1
      exact ⟨fun z => absurd z h, fun _ => h1⟩
/-- place by place -/
theorem open_places {ar : List (α × α)} {held : List α} {rd : α → Bool} {r : List α} (hrd : ∀ x ∈ r, (rd x = true ↔ Ready ar held x)) :
    Open ar held r ↔ ∀ i, i < r.length - 2 → ∀ x, r[i + 1]? = some x → (if meetsAt ar r i = true then rd x = true else x ∉ held) := by
  rw [open_iff]
  constructor
  · intro h i hi x hx
    obtain ⟨a, b, c, h1, h2, h3⟩ := three hi
    rw [hx] at h2
    cases h2
    rw [meetsAt_of h1 hx h3]
    exact (okAt_iff (hrd x (List.mem_of_getElem? hx))).mp (h i a x c h1 hx h3)
  · intro h i a b c h1 h2 h3
    have hi : i < r.length - 2 := by
      obtain ⟨z, _⟩ := List.getElem?_eq_some_iff.mp h3
      omega
    have := h i hi b h2
    rw [meetsAt_of h1 h2 h3] at this
    exact (okAt_iff (hrd b (List.mem_of_getElem? h2))).mpr this
theorem open_viol {ar : List (α × α)} {d : α} {held : List α} {rd : α → Bool} {r : List α} (hn : r.Nodup) (hrd : ∀ x ∈ r, (rd x = true ↔ Ready ar held x)) : Open ar held r ↔ ∀ x ∈ inner r, viol ar d r rd held x = false := by
  rw [open_places hrd]
  constructor
  · intro h x hx
    obtain ⟨i, hi⟩ := List.mem_iff_getElem?.mp hx
    have hl : i < r.length - 2 := by
      obtain ⟨z, _⟩ := List.getElem?_eq_some_iff.mp hi
      rw [inner_len] at z
      exact z
    rw [inner_at hl] at hi
    have q := h i hl x hi
    unfold viol
    by_cases m : meetsAt ar r i = true
    · rw [if_pos m] at q
      rw [if_pos ((mem_meetsL hn hl hi).mpr m), q]
      rfl
    · rw [if_neg m] at q
      rw [if_neg (fun z => m ((mem_meetsL hn hl hi).mp z))]
      exact decide_eq_false q
  · intro h i hl x hi
    have hx : x ∈ inner r := List.mem_iff_getElem?.mpr ⟨i, by rw [inner_at hl]; exact hi⟩
    have q := h x hx
    unfold viol at q
    by_cases m : meetsAt ar r i = true
    · rw [if_pos ((mem_meetsL hn hl hi).mpr m)] at q
      rw [if_pos m]
      simpa using q
    · rw [if_neg (fun z => m ((mem_meetsL hn hl hi).mp z))] at q
      rw [if_neg m]
      exact of_decide_eq_false q
noncomputable def openB (ar : List (α × α)) (held : List α) (r : List α) : Bool := @decide (Open ar held r) (Classical.propDecidable _)
theorem openB_iff {ar : List (α × α)} {held : List α} {r : List α} : openB ar held r = true ↔ Open ar held r := by
  unfold openB
  exact @decide_eq_true_iff _ (Classical.propDecidable _)
theorem openB_t {ar : List (α × α)} {held : List α} {r : List α} (h : Open ar held r) : openB ar held r = true := openB_iff.mpr h
theorem openB_f {ar : List (α × α)} {held : List α} {r : List α} (h : ¬ Open ar held r) : openB ar held r = false := by
  cases e : openB ar held r with
  | false => rfl
  | true => exact absurd (openB_iff.mp e) h
end Am
/-! Open roads gone on with; ways down. -/
namespace Am
variable {α : Type} [DecidableEq α]
/-- whether a road may go on to a name -/
def goB (ar : List (α × α)) (rd : α → Bool) (held : List α) (road : List α) (x : α) : Bool := match road.reverse with
  | h :: p :: _ => if (decide ((p, h) ∈ ar) && decide ((x, h) ∈ ar)) = true then rd h else !decide (h ∈ held)
  | _ => true
theorem goB_two {ar : List (α × α)} {rd : α → Bool} {held : List α} {q : List α} {p h x : α} : goB ar rd held (q ++ [p, h]) x = if (decide ((p, h) ∈ ar) && decide ((x, h) ∈ ar)) = true then rd h else !decide (h ∈ held) := by
  unfold goB
  have e : (q ++ [p, h]).reverse = h :: p :: q.reverse := by simp
  rw [e]
theorem goB_one {ar : List (α × α)} {rd : α → Bool} {held : List α} {h x : α} : goB ar rd held [h] x = true := rfl
theorem two_of {r : List α} (h : 2 ≤ r.length) : ∃ q p l, r = q ++ [p, l] := by
  have h1 : r ≠ [] := by rintro rfl; simp at h
  obtain ⟨q1, l, rfl⟩ : ∃ q l, r = q ++ [l] := ⟨r.dropLast, r.getLast h1, (List.dropLast_concat_getLast h1).symm⟩
  have h2 : q1 ≠ [] := by rintro rfl; simp at h
  obtain ⟨q, p, rfl⟩ : ∃ q p, q1 = q ++ [p] := ⟨q1.dropLast, q1.getLast h2, (List.dropLast_concat_getLast h2).symm⟩
  exact ⟨q, p, l, by simp⟩
theorem open_more {ar : List (α × α)} {held : List α} {rd : α → Bool} {road : List α} (hne : road ≠ []) (hrd : ∀ x ∈ road, (rd x = true ↔ Ready ar held x)) (x : α) : Open ar held (road ++ [x]) ↔ Open ar held road ∧ goB ar rd held road x = true := by
  by_cases hl : 2 ≤ road.length
  · obtain ⟨q, p, h, rfl⟩ := two_of hl
    rw [goB_two]
    have hh := hrd h (by simp)
    have ok : ∀ {z}, OkAt ar held p h z ↔ (if (decide ((p, h) ∈ ar) && decide ((z, h) ∈ ar)) = true then rd h else !decide (h ∈ held)) = true := by
      intro z
      rw [okAt_iff hh]
      by_cases c : (decide ((p, h) ∈ ar) && decide ((z, h) ∈ ar)) = true
      · rw [if_pos c, if_pos c]
      · rw [if_neg c, if_neg c]
        simp
    have e : q ++ [p, h] ++ [x] = q ++ [p, h, x] := by simp
    constructor
    · intro o
      refine ⟨open_left (w := [x]) (by rw [e] at o; rw [e]; exact o), ok.mp ?_⟩
      rw [e] at o
      exact open_mid (p := q) (r := []) o
    · rintro ⟨o, g⟩
      rw [e]
      exact open_snoc o (ok.mpr g)
  · cases road with
    | nil => exact absurd rfl hne
    | cons a r =>
      cases r with
      | nil => exact ⟨fun _ => ⟨trivial, rfl⟩, fun _ => trivial⟩
      | cons b r => simp at hl
theorem Onto.next {ar : List (α × α)} {other : α} {road s : List α} {l : α} (hl : road.getLast? = some l) (hlo : l ≠ other) (h : Onto ar other road s) : ∃ x, Onto ar other (road ++ [x]) s ∧ x ∉ road ∧ Tied ar l x := by
  obtain ⟨q, eq⟩ := List.getLast?_eq_some_iff.mp hl
  obtain ⟨h1, h2, h3, t, rfl⟩ := h
  cases t with
  | nil =>
    rw [List.append_nil, hl] at h3
    exact absurd (Option.some.inj h3) hlo
  | cons x t =>
    have ap : road ++ x :: t = (road ++ [x]) ++ t := by simp
    refine ⟨x, ⟨h1, h2, h3, ap ▸ List.prefix_append _ _⟩, fun m => (List.nodup_append.mp h1).2.2 x m x (by simp) rfl, ?_⟩
    rw [eq] at h2
    have e2 : q ++ [l] ++ x :: t = q ++ l :: x :: t := by simp
    rw [e2] at h2
    exact chain_mid h2
theorem Onto.open_pre {ar : List (α × α)} {held : List α} {other : α} {road s : List α} (h : Onto ar other road s) (o : Open ar held s) : Open ar held road := by
  obtain ⟨t, rfl⟩ := h.pre
  exact open_left o
theorem Onto.back {ar : List (α × α)} {other : α} {road s : List α} {x : α} (h : Onto ar other (road ++ [x]) s) : Onto ar other road s := ⟨h.nd, h.ch, h.ls, (List.prefix_append road [x]).trans h.pre⟩
theorem Onto.self {ar : List (α × α)} {other : α} {road s : List α} (hl : road.getLast? = some other) (h : Onto ar other road s) : s = road := by
  obtain ⟨h1, h2, h3, t, rfl⟩ := h
  cases t with
  | nil => simp
  | cons x t =>
    exfalso
    rw [List.getLast?_append] at h3
    cases hz : (x :: t).getLast? with
    | none => simp at hz
    | some z =>
      rw [hz] at h3
      have e : z = other := by simpa using h3
      subst e
      exact (List.nodup_append.mp h1).2.2 z (List.mem_of_getLast? hl) z (List.mem_of_getLast? hz) rfl
theorem onto_one {ar : List (α × α)} {one other : α} {s : List α} : Onto ar other [one] s ↔ Road ar one other s := by
  constructor
  · rintro ⟨a1, a2, a3, t, rfl⟩
    exact ⟨a1, a2, rfl, a3⟩
  · rintro ⟨a1, a2, a3, a4⟩
    refine ⟨a1, a2, a4, ?_⟩
    cases s with
    | nil => cases a3
    | cons b r =>
      have e : b = one := by simpa using a3
      subst e
      exact ⟨r, rfl⟩
/-! ### ways down -/
/-- each name the elder of the next -/
def Arrs (ar : List (α × α)) : List α → Prop
  | a :: b :: r => (a, b) ∈ ar ∧ Arrs ar (b :: r)
  | _ => True
theorem arrs_snoc {ar : List (α × α)} : ∀ {r : List α} {a b : α}, Arrs ar (r ++ [a]) → (a, b) ∈ ar → Arrs ar (r ++ [a, b])
  | [], a, b, _, t => ⟨t, trivial⟩
  | [x], a, b, h, t => ⟨h.1, t, trivial⟩
  | x :: y :: r, a, b, h, t => ⟨h.1, arrs_snoc (r := y :: r) h.2 t⟩
theorem arrs_push {ar : List (α × α)} {r : List α} {l x : α} (h : Arrs ar r) (hl : r.getLast? = some l) (t : (l, x) ∈ ar) : Arrs ar (r ++ [x]) := by
  obtain ⟨q, e⟩ := List.getLast?_eq_some_iff.mp hl
  subst e
  have := arrs_snoc h t
  simpa using this
theorem arrs_iff {ar : List (α × α)} : ∀ {r : List α}, Arrs ar r ↔ ∀ (i : Nat) (a b : α), r[i]? = some a → r[i + 1]? = some b → (a, b) ∈ ar
  | [] => ⟨fun _ i a b h => by simp at h, fun _ => trivial⟩
  | [_] => ⟨fun _ i a b h h2 => by simp at h2, fun _ => trivial⟩
  | x :: y :: r => by
    have ih := arrs_iff (ar := ar) (r := y :: r)
    constructor
    · rintro ⟨h1, h2⟩ i a b ha hb
      cases i with
      | zero =>
        simp at ha hb
        subst ha hb
        exact h1
      | succ i => exact ih.mp h2 i a b (by simpa using ha) (by simpa using hb)
    · intro h
      exact ⟨h 0 x y rfl rfl, ih.mpr fun i a b ha hb => h (i + 1) a b (by simpa using ha) (by simpa using hb)⟩
theorem arrs_up {ar : List (α × α)} {rk : α → Int} (u : ∀ a b, (a, b) ∈ ar → rk a < rk b) : ∀ {r : List α}, Arrs ar r → r.Pairwise fun a b => rk a < rk b
  | [], _ => .nil
  | [_], _ => by simp
  | a :: b :: r, h => by
    have ih := arrs_up u (r := b :: r) h.2
    refine List.pairwise_cons.mpr ⟨fun c hc => ?_, ih⟩
    have h1 := u a b h.1
    rcases List.mem_cons.mp hc with rfl | hc
    · exact h1
    · have h2 := (List.pairwise_cons.mp ih).1 c hc
      omega
theorem arrs_nodup {ns : List α} {ar : List (α × α)} (N : Net ns ar) {r : List α} (h : Arrs ar r) : r.Nodup := by
  obtain ⟨rk, u⟩ := N.up
  exact (arrs_up u h).imp fun {a b} hab z => by subst z; omega
theorem arrs_in {ns : List α} {ar : List (α × α)} (N : Net ns ar) : ∀ {r : List α}, Arrs ar r → (∀ a, r.head? = some a → a ∈ ns) → ∀ x ∈ r, x ∈ ns
  | [], _, _, x, h => by cases h
  | [a], _, hh, x, h => by
    have e : x = a := by simpa using h
    subst e
    exact hh x rfl
  | a :: b :: r, hc, hh, x, h => by
    rcases List.mem_cons.mp h with rfl | h
    · exact hh x rfl
    · refine arrs_in N (r := b :: r) hc.2 (fun c hc' => ?_) x h
      have e : b = c := by simpa using hc'
      subst e
      exact (N.mem _ _ hc.1).2
structure Way (ns : List α) (ar : List (α × α)) (name : α) (r : List α) : Prop where
  hd : r.head? = some name
  ar : Arrs ar r
theorem Way.le {ns : List α} {ar : List (α × α)} (N : Net ns ar) {name : α} (hn : name ∈ ns) {r : List α} (h : Way ns ar name r) : r.length ≤ ns.length :=
  (arrs_nodup N h.ar).length_le_of_subset (arrs_in N h.ar fun a ha => by
    rw [h.hd] at ha
    cases ha
    exact hn)
theorem Way.push {ns : List α} {ar : List (α × α)} {name : α} {r : List α} {l x : α} (h : Way ns ar name r) (hl : r.getLast? = some l) (t : (l, x) ∈ ar) : Way ns ar name (r ++ [x]) := ⟨head_app h.hd, arrs_push h.ar hl t⟩
/-- what is told of a way down from a meeting -/
structure Down (ns : List α) (ar : List (α × α)) (held : List α) (name : α) (r : List α) : Prop where
  way : Way ns ar name r
  ls : ∃ z, r.getLast? = some z ∧ z ∈ held
  self : name ∈ held → r = [name]
/-- how much is still to be gone -/
def wts (ways : List (List α)) : Nat := (ways.map fun w => 6 ^ (6 - w.length)).sum
theorem wts_cons (w : List α) (ws : List (List α)) : wts (w :: ws) = 6 ^ (6 - w.length) + wts ws := by unfold wts; simp
theorem wts_app (a b : List (List α)) : wts (a ++ b) = wts a + wts b := by unfold wts; simp
theorem wts_ge : ∀ ws : List (List α), ws.length ≤ wts ws
  | [] => Nat.le_refl _
  | w :: ws => by
    have ih := wts_ge ws
    have := Nat.one_le_pow (6 - w.length) 6 (by decide)
    rw [wts_cons, List.length_cons]
    omega
theorem wts_new {w : List α} : ∀ hs : List α, wts (hs.map fun h => w ++ [h]) = hs.length * 6 ^ (6 - (w.length + 1))
  | [] => by simp [wts]
  | h :: hs => by
    rw [List.map_cons, wts_cons, wts_new hs, List.length_cons, List.length_append, List.length_singleton, Nat.add_mul, Nat.one_mul]
    omega
theorem wts_fall {w : List α} {hs : List α} (h5 : hs.length ≤ 5) (hw : hs ≠ [] → w.length + 1 ≤ 6) : wts (hs.map fun h => w ++ [h]) < 6 ^ (6 - w.length) := by
  rw [wts_new]
  by_cases e : hs = []
  · subst e
    simp
    exact Nat.one_le_pow _ _ (by decide)
  · have h := hw e
    have e2 : 6 - w.length = (6 - (w.length + 1)) + 1 := by omega
    rw [e2, Nat.pow_succ]
    have p := Nat.one_le_pow (6 - (w.length + 1)) 6 (by decide)
    have : hs.length * 6 ^ (6 - (w.length + 1)) ≤ 5 * 6 ^ (6 - (w.length + 1)) := Nat.mul_le_mul_right _ h5
    omega
end Am
/-! Values told by Lean data (Rep), what a reading evaluates to by such a telling (Ew, Ewn), and the statements over it. -/
namespace Am
open PySem PySem.Spec PyProof.Rows L2 Evl

abbrev VP := V → Hp → Prop
abbrev Rep (α : Type) := α → VP
/-- kept when the heap grows -/
class Kp (P : VP) : Prop where
  kp : ∀ {v : V} {H H' : Hp}, Ex H H' → P v H → P v H'
/-- does not look at the heap -/
class Fl (P : VP) : Prop where
  fl : ∀ {v : V} {H H' : Hp}, P v H → P v H'
/-- the heap without the object at D -/
def hid (D : Addr) (H : Hp) : Hp := fun a => if a = D then none else H a
theorem hid_at {D : Addr} {H : Hp} : hid D H D = none := by unfold hid; rw [if_pos rfl]
theorem hid_ne {D a : Addr} {H : Hp} (h : a ≠ D) : hid D H a = H a := by unfold hid; rw [if_neg h]
theorem hid_ex {D : Addr} {H : Hp} : Ex (hid D H) H := fun a o e => by
  unfold hid at e
  by_cases h : a = D
  · rw [if_pos h] at e; cases e
  · rw [if_neg h] at e; exact e
theorem hid_mono {D : Addr} {H H' : Hp} (x : Ex H H') : Ex (hid D H) (hid D H') := fun a o e => by
  unfold hid at e ⊢
  by_cases h : a = D
  · rw [if_pos h] at e; cases e
  · rw [if_neg h] at e ⊢; exact x a o e
theorem hid_upd {D : Addr} {H : Hp} {o : HO} : hid D (upd H D o) = hid D H := by
  funext a
  unfold hid
  by_cases h : a = D
  · rw [if_pos h, if_pos h]
  · rw [if_neg h, if_neg h, upd_ne h]
theorem hid_upd_ne {D a : Addr} {H : Hp} {o : HO} (h : a ≠ D) : hid D (upd H a o) = upd (hid D H) a o := by
  funext b
  unfold hid upd
  by_cases h1 : b = D
  · have h3 : ¬ b = a := fun z => h (z.symm.trans h1)
    simp [h1, h3]
    intro z
    exact absurd z.symm h
  · by_cases h2 : b = a
    · simp [h2, h]
    · simp [h1, h2]
/-- what was there ahead of D is there without it -/
theorem ex_hid {D : Addr} {H H' : Hp} (e : Ex H H') (n : H D = none) : Ex H (hid D H') := fun a o h => by
  rw [hid_ne (ne_of_none h n)]
  exact e a o h
theorem ex_upd {H H' : Hp} {p : Addr} {o : HO} (e : Ex H H') : Ex (upd H p o) (upd H' p o) := fun a u h => by
  by_cases q : a = p
  · subst q; rw [upd_same] at h ⊢; exact h
  · rw [upd_ne q] at h ⊢; exact e a u h
theorem ex_hupd {D : Addr} {H G : Hp} {o : HO} (e : Ex G (hid D H)) : Ex G (hid D (upd H D o)) := by rw [hid_upd]; exact e

/-- a list object stands at D: what is told without looking into it is told without it -/
def LstAt (H : Hp) (D : Addr) : Prop := (∃ xs, H D = some (.lst xs)) ∨ (∃ kvs, H D = some (.dK kvs)) ∨ ∃ φ, H D = some (.ext φ)
theorem lst_tup {H : Hp} {D : Addr} {xs : List V} (hD : LstAt H D) (h2 : H D = some (.tup xs)) : False := by
  rcases hD with ⟨_, h⟩ | ⟨_, h⟩ | ⟨_, h⟩
  · rw [h2] at h
    cases h
  · rw [h2] at h
    cases h
  · rw [h2] at h
    cases h
/-- tellings that stand without a list (dict) that is being made -/
class Sh0 (P : VP) : Prop where
  sh : ∀ {v : V} {H : Hp} {D : Addr}, P v H → LstAt H D → P v (hid D H)
class Sh1 (P : VP) : Prop where
  sh : ∀ {v : V} {H : Hp} {D : Addr}, P v H → v ≠ .ref D → P v (hid D H)

section reps
variable {α β : Type}
abbrev SOk (x : Str) : Prop := PyData.strOk x = true
def rStr : Rep Str := fun x v _ => v = .str x ∧ SOk x
def rInt : Rep Int := fun x v _ => v = .int x
def rBool : Rep Bool := fun x v _ => v = .bl x
def rNone : Rep Unit := fun _ v _ => v = .non
abbrev Al (R : Rep α) (as : List α) (xs : List V) (H : Hp) : Prop := Paired (fun a x => R a x H) as xs
def rL (R : Rep α) : Rep (List α) := fun as v H => ∃ p xs, v = .ref p ∧ H p = some (.lst xs) ∧ Al R as xs H
def rT (R : Rep α) : Rep (List α) := fun as v H => ∃ p xs, v = .ref p ∧ H p = some (.tup xs) ∧ Al R as xs H
def rP (R : Rep α) (S : Rep β) : Rep (α × β) := fun ab v H => ∃ p x y, v = .ref p ∧ H p = some (.tup [x, y]) ∧ R ab.1 x H ∧ S ab.2 y H
abbrev rPair : Rep (Str × Str) := rP rStr rStr
abbrev rNet : Rep (List Str × List (Str × Str)) := rP (rT rStr) (rT rPair)

instance {a : Str} : Fl (rStr a) := ⟨fun h => h⟩
instance {a : Int} : Fl (rInt a) := ⟨fun h => h⟩
instance {a : Bool} : Fl (rBool a) := ⟨fun h => h⟩
instance {a : Unit} : Fl (rNone a) := ⟨fun h => h⟩
instance (priority := low) {P : VP} [h : Fl P] : Kp P := ⟨fun _ q => h.fl q⟩
instance (priority := low) {P : VP} [h : Fl P] : Sh0 P := ⟨fun q _ => h.fl q⟩
instance (priority := low) {P : VP} [h : Fl P] : Sh1 P := ⟨fun q _ => h.fl q⟩
variable {R : Rep α} {S : Rep β} {H H' : Hp}
theorem Al.kp [k : ∀ a, Kp (R a)] (e : Ex H H') {as : List α} {xs : List V} (h : Al R as xs H) : Al R as xs H' := Paired.mapP h fun a _ q => (k a).kp e q
theorem Al.fl [k : ∀ a, Fl (R a)] {as : List α} {xs : List V} (h : Al R as xs H) : Al R as xs H' := Paired.mapP h fun a _ q => (k a).fl q
instance [k : ∀ a, Kp (R a)] {as : List α} : Kp (rL R as) := ⟨fun e ⟨p, xs, h1, h2, h3⟩ => ⟨p, xs, h1, e p _ h2, h3.kp e⟩⟩
instance [k : ∀ a, Kp (R a)] {as : List α} : Kp (rT R as) := ⟨fun e ⟨p, xs, h1, h2, h3⟩ => ⟨p, xs, h1, e p _ h2, h3.kp e⟩⟩
instance [k : ∀ a, Kp (R a)] [k2 : ∀ b, Kp (S b)] {ab : α × β} : Kp (rP R S ab) := ⟨fun e ⟨p, x, y, h1, h2, h3, h4⟩ => ⟨p, x, y, h1, e p _ h2, (k _).kp e h3, (k2 _).kp e h4⟩⟩
instance [k : ∀ a, Fl (R a)] [k2 : ∀ b, Fl (S b)] {ab : α × β} : Sh0 (rP R S ab) := ⟨fun ⟨p, x, y, h1, h2, h3, h4⟩ hD => ⟨p, x, y, h1, by
  rw [hid_ne]
  · exact h2
  · rintro rfl
    exact lst_tup hD h2, (k _).fl h3, (k2 _).fl h4⟩⟩
instance [k : ∀ a, Fl (R a)] {as : List α} : Sh0 (rT R as) := ⟨fun ⟨p, xs, h1, h2, h3⟩ hD => ⟨p, xs, h1, by
  rw [hid_ne]
  · exact h2
  · rintro rfl
    exact lst_tup hD h2, h3.fl⟩⟩
instance [k : ∀ a, Fl (R a)] {as : List α} : Sh1 (rL R as) := ⟨fun ⟨p, xs, h1, h2, h3⟩ hD => ⟨p, xs, h1, by
  rw [hid_ne]
  · exact h2
  · rintro rfl
    exact hD h1, h3.fl⟩⟩
/-- a list of what stands without a list stands without another list -/
theorem Al.sh [k : ∀ a, Sh0 (R a)] {D : Addr} (hD : LstAt H D) {as : List α} {xs : List V} (h : Al R as xs H) : Al R as xs (hid D H) := Paired.mapP h fun a _ q => (k a).sh q hD
theorem al_str : ∀ {as : List Str} {xs : List V}, Al rStr as xs H → xs = as.map V.str
  | [], _, .nil => rfl
  | _ :: _, _, .cons h t => by rw [h.1, al_str t]; rfl
theorem al_ok : ∀ {as : List Str} {xs : List V}, Al rStr as xs H → ∀ a ∈ as, SOk a
  | _, _, .nil => fun _ h => nomatch h
  | _ :: _, _, .cons h t => fun a m => by
    rcases List.mem_cons.mp m with z | z
    · subst z
      exact h.2
    · exact al_ok t a z
theorem al_int : ∀ {as : List Int} {xs : List V}, Al rInt as xs H → xs = as.map V.int
  | [], _, .nil => rfl
  | _ :: _, _, .cons h t => by rw [h, al_int t]; rfl
theorem al_bl : ∀ {as : List Bool} {xs : List V}, Al rBool as xs H → xs = as.map V.bl
  | [], _, .nil => rfl
  | _ :: _, _, .cons h t => by rw [h, al_bl t]; rfl
theorem al_strs : ∀ (as : List Str), (∀ a ∈ as, SOk a) → Al rStr as (as.map V.str) H
  | [], _ => .nil
  | _ :: r, h => .cons ⟨rfl, h _ List.mem_cons_self⟩ (al_strs r fun a m => h a (List.mem_cons_of_mem _ m))
theorem al_ints : ∀ (as : List Int), Al rInt as (as.map V.int) H
  | [] => .nil
  | _ :: r => .cons rfl (al_ints r)
theorem al_bls : ∀ (as : List Bool), Al rBool as (as.map V.bl) H
  | [] => .nil
  | _ :: r => .cons rfl (al_bls r)
theorem Al.len {as : List α} {xs : List V} (h : Al R as xs H) : as.length = xs.length := Paired.length h
theorem Al.app : ∀ {as bs : List α} {xs ys : List V}, Al R as xs H → Al R bs ys H → Al R (as ++ bs) (xs ++ ys) H
  | [], _, _, _, .nil, g => g
  | _ :: _, _, _, _, .cons h t, g => .cons h (Al.app t g)
theorem Al.snoc {as : List α} {a : α} {xs : List V} {x : V} (h : Al R as xs H) (g : R a x H) : Al R (as ++ [a]) (xs ++ [x]) H := h.app (.cons g .nil)
theorem Al.take : ∀ (n : Nat) {as : List α} {xs : List V}, Al R as xs H → Al R (as.take n) (xs.take n) H
  | 0, _, _, _ => .nil
  | _ + 1, _, _, .nil => .nil
  | n + 1, _, _, .cons h t => .cons h (Al.take n t)
theorem Al.drop : ∀ (n : Nat) {as : List α} {xs : List V}, Al R as xs H → Al R (as.drop n) (xs.drop n) H
  | 0, _, _, h => h
  | _ + 1, _, _, .nil => .nil
  | n + 1, _, _, .cons _ t => Al.drop n t
theorem Al.get : ∀ {i : Nat} {as : List α} {xs : List V} {a : α}, Al R as xs H → as[i]? = some a → ∃ x, xs[i]? = some x ∧ R a x H
  | _, _, _, _, .nil, e => by simp at e
  | 0, _, _, _, .cons h _, e => by
    have e1 := Option.some.inj e
    subst e1
    exact ⟨_, rfl, h⟩
  | i + 1, _, _, _, .cons _ t, e => Al.get (i := i) t e
theorem Al.getV : ∀ {i : Nat} {as : List α} {xs : List V} {x : V}, Al R as xs H → xs[i]? = some x → ∃ a, as[i]? = some a ∧ R a x H
  | _, _, _, _, .nil, e => by simp at e
  | 0, _, _, _, .cons h _, e => by
    have e1 := Option.some.inj e
    subst e1
    exact ⟨_, rfl, h⟩
  | i + 1, _, _, _, .cons _ t, e => Al.getV (i := i) t e
theorem Al.atI {i : Int} {as : List α} {xs : List V} {a : α} (h : Al R as xs H) (e : L2.atI as i = some a) : ∃ x, L2.atI xs i = some x ∧ R a x H := by
  unfold L2.atI at e ⊢
  rw [← h.len]
  cases q : ixN as.length i with
  | none => rw [q] at e; cases e
  | some j =>
    rw [q] at e
    exact h.get e
theorem Al.dropLast {as : List α} {xs : List V} (h : Al R as xs H) : Al R as.dropLast xs.dropLast H := by
  rw [List.dropLast_eq_take, List.dropLast_eq_take, h.len]
  exact h.take _
theorem Al.eraseIdx : ∀ (n : Nat) {as : List α} {xs : List V}, Al R as xs H → Al R (as.eraseIdx n) (xs.eraseIdx n) H
  | _, _, _, .nil => .nil
  | 0, _, _, .cons _ t => t
  | n + 1, _, _, .cons h t => .cons h (Al.eraseIdx n t)
theorem Al.reverse {as : List α} {xs : List V} (h : Al R as xs H) : Al R as.reverse xs.reverse H := by
  induction h with
  | nil => exact .nil
  | cons h t ih =>
    rw [List.reverse_cons, List.reverse_cons]
    exact ih.snoc h
theorem rL_new {p : Addr} {xs : List V} {as : List α} [k : ∀ a, Kp (R a)] (hp : H p = none) (h : Al R as xs H) : rL R as (.ref p) (upd H p (.lst xs)) := ⟨p, xs, rfl, upd_same, h.kp (Ex.new hp)⟩
theorem atI_last {as : List α} {a : α} (h : as.getLast? = some a) : L2.atI as (-1) = some a := by
  have e : as = as.dropLast ++ [a] := by
    obtain ⟨q, e⟩ := List.getLast?_eq_some_iff.mp h
    rw [e]
    simp
  unfold L2.atI ixN
  have hl : 0 < as.length := by rw [e]; simp
  rw [if_neg (by omega), if_pos (by omega)]
  have e2 : ((-1 : Int) + (as.length : Int)).toNat = as.length - 1 := by omega
  show as[((-1 : Int) + (as.length : Int)).toNat]? = some a
  rw [e2, ← List.getLast?_eq_getElem?]
  exact h
theorem atI_of {as : List α} {a : α} {j : Nat} (h : as[j]? = some a) : L2.atI as (j : Int) = some a := atI_nat h
end reps

/-! ### in -/
theorem inV_str (x : Str) : ∀ as : List Str, inV (.str x) (as.map V.str) = decide (x ∈ as)
  | [] => rfl
  | a :: r => by
    have ih := inV_str x r
    unfold inV at ih ⊢
    rw [List.map_cons, List.any_cons, ih]
    show ((a == x) || decide (x ∈ r)) = decide (x ∈ a :: r)
    by_cases h : a = x
    · subst h
      simp
    · have : (a == x) = false := beq_eq_false_iff_ne.mpr h
      rw [this, Bool.false_or]
      by_cases m : x ∈ r
      · rw [decide_eq_true m, decide_eq_true (List.mem_cons_of_mem _ m)]
      · rw [decide_eq_false m, decide_eq_false]
        intro z
        rcases List.mem_cons.mp z with z | z
        · exact h z.symm
        · exact m z
theorem flat_strs (as : List Str) : (as.map V.str).all flatV = true := by
  rw [List.all_eq_true]
  intro x hx
  obtain ⟨a, _, rfl⟩ := List.mem_map.mp hx
  rfl
theorem inV_int (x : Int) : ∀ as : List Int, inV (.int x) (as.map V.int) = decide (x ∈ as)
  | [] => rfl
  | a :: r => by
    have ih := inV_int x r
    unfold inV at ih ⊢
    rw [List.map_cons, List.any_cons, ih]
    show ((a == x) || decide (x ∈ r)) = decide (x ∈ a :: r)
    by_cases h : a = x
    · subst h
      simp
    · have : (a == x) = false := beq_eq_false_iff_ne.mpr h
      rw [this, Bool.false_or]
      by_cases m : x ∈ r
      · rw [decide_eq_true m, decide_eq_true (List.mem_cons_of_mem _ m)]
      · rw [decide_eq_false m, decide_eq_false]
        intro z
        rcases List.mem_cons.mp z with z | z
        · exact h z.symm
        · exact m z
theorem flat_ints (as : List Int) : (as.map V.int).all flatV = true := by
  rw [List.all_eq_true]
  intro x hx
  obtain ⟨a, _, rfl⟩ := List.mem_map.mp hx
  rfl
theorem inV_bl (x : Bool) : ∀ as : List Bool, inV (.bl x) (as.map V.bl) = decide (x ∈ as)
  | [] => rfl
  | a :: r => by
    have ih := inV_bl x r
    unfold inV at ih ⊢
    rw [List.map_cons, List.any_cons, ih]
    show ((a == x) || decide (x ∈ r)) = decide (x ∈ a :: r)
    by_cases h : a = x
    · subst h
      simp
    · have : (a == x) = false := beq_eq_false_iff_ne.mpr h
      rw [this, Bool.false_or]
      by_cases m : x ∈ r
      · rw [decide_eq_true m, decide_eq_true (List.mem_cons_of_mem _ m)]
      · rw [decide_eq_false m, decide_eq_false]
        intro z
        rcases List.mem_cons.mp z with z | z
        · exact h z.symm
        · exact m z
theorem flat_bls (as : List Bool) : (as.map V.bl).all flatV = true := by
  rw [List.all_eq_true]
  intro x hx
  obtain ⟨a, _, rfl⟩ := List.mem_map.mp hx
  rfl
/-- a pair of texts in a tuple of such -/
def prS (z : Str × Str) : PyData := .tuple [.str z.1, .str z.2]
theorem prS_lay {z : Str × Str} (h1 : SOk z.1) (h2 : SOk z.2) : (prS z).canLay0 = true := by simp [prS, PyData.canLay0, PyData.canLayAll0, h1, h2]
theorem prS_depth (z : Str × Str) : (prS z).depth = 1 := by simp [prS, PyData.depth, PyData.depthAll]
theorem pair_ok {z : Str × Str} {v : V} {H : Hp} (h : rPair z v H) : SOk z.1 ∧ SOk z.2 := by
  obtain ⟨_, _, _, _, _, h1, h2⟩ := h
  exact ⟨h1.2, h2.2⟩
theorem prSs_lay {H : Hp} : ∀ {zs : List (Str × Str)} {xs : List V}, Al rPair zs xs H → PyData.canLayAll0 (zs.map prS) = true
  | [], _, _ => by simp [PyData.canLayAll0]
  | z :: zs, _, .cons h t => by simp [PyData.canLayAll0, prS_lay (pair_ok h).1 (pair_ok h).2, prSs_lay t]
theorem prS_eqv (z w : Str × Str) : PyData.eqv (prS z) (prS w) = decide (z = w) := by
  obtain ⟨a, b⟩ := z
  obtain ⟨a', b'⟩ := w
  have e : PyData.eqv (prS (a, b)) (prS (a', b')) = ((a == a') && ((b == b') && true)) := by simp only [prS, PyData.eqv, PyData.eqvAll]
  rw [e, Bool.and_true]
  by_cases h1 : a = a'
  · by_cases h2 : b = b'
    · subst h1 h2
      simp
    · have q : (b == b') = false := beq_eq_false_iff_ne.mpr h2
      rw [q, Bool.and_false, decide_eq_false]
      intro z
      cases z
      exact h2 rfl
  · have q : (a == a') = false := beq_eq_false_iff_ne.mpr h1
    rw [q, Bool.false_and, decide_eq_false]
    intro z
    cases z
    exact h1 rfl
theorem prS_any (w : Str × Str) : ∀ zs : List (Str × Str), ((zs.map prS).any fun y => PyData.eqv y (prS w)) = decide (w ∈ zs)
  | [] => rfl
  | z :: r => by
    rw [List.map_cons, List.any_cons, prS_any w r, prS_eqv]
    by_cases h : z = w
    · subst h
      simp
    · rw [decide_eq_false h, Bool.false_or]
      by_cases m : w ∈ r
      · rw [decide_eq_true m, decide_eq_true (List.mem_cons_of_mem _ m)]
      · rw [decide_eq_false m, decide_eq_false]
        intro z
        rcases List.mem_cons.mp z with z | z
        · exact h z.symm
        · exact m z
theorem dp_pair {K : PySem.W.Frag} {H : Hp} {z : Str × Str} {v : V} (h : rPair z v H) : Dp K H v (prS z) := by
  obtain ⟨p, x, y, rfl, h2, h3, h4⟩ := h
  have e3 : x = .str z.1 := h3.1
  have e4 : y = .str z.2 := h4.1
  subst e3 e4
  exact .tup (SqT.of h2) (.cons (.str _) (.cons (.str _) .nil))
theorem dp_pairs {K : PySem.W.Frag} {H : Hp} : ∀ {zs : List (Str × Str)} {xs : List V}, Al rPair zs xs H → DpAll K H xs (zs.map prS)
  | [], _, .nil => .nil
  | _ :: _, _, .cons h t => .cons (dp_pair h) (dp_pairs t)
/-- (a, b) in a tuple of pairs of texts -/
def rInP (neg : Bool) : R2 := fun x y H Q => ∃ (z : Str × Str) (zs : List (Str × Str)), rPair z x H ∧ rT rPair zs y H ∧ Q (.bl (if neg then !decide (z ∈ zs) else decide (z ∈ zs))) H
section
variable {X : Cx}
theorem op_inP (hu : X.A.units + 65 < cLine) : OpR X (compareOp .In) (rInP false) := by
  intro pins s σ H x y v u Q I rx ry h
  obtain ⟨z, zs, hz, hs, q⟩ := h
  obtain ⟨p, xs, rfl, h2, h3⟩ := hs
  obtain ⟨as, r1⟩ := Dp.reads I (prS z) x v (dp_pair hz) rx
  obtain ⟨bs, r2⟩ := Dp.reads I (.tuple (zs.map prS)) (.ref p) u (.tup (SqT.of h2) (dp_pairs h3)) ry
  refine SeqAt.in_tuple_reads r2 r1 (prSs_lay h3) (prS_lay (pair_ok hz).1 (pair_ok hz).2) ?_ ⟨.bl _, H, I, rfl, ?_⟩
  · rw [prS_depth]
    have := Nat.min_le_right (PyData.depthAll (zs.map prS)) 1
    omega
  · rw [prS_any]
    exact q
theorem op_notInP (hu : X.A.units + 65 < cLine) : OpR X (compareOp .NotIn) (rInP true) := by
  intro pins s σ H x y v u Q I rx ry h
  obtain ⟨z, zs, hz, hs, q⟩ := h
  obtain ⟨p, xs, rfl, h2, h3⟩ := hs
  obtain ⟨as, r1⟩ := Dp.reads I (prS z) x v (dp_pair hz) rx
  obtain ⟨bs, r2⟩ := Dp.reads I (.tuple (zs.map prS)) (.ref p) u (.tup (SqT.of h2) (dp_pairs h3)) ry
  refine SeqAt.notIn_tuple_reads r2 r1 (prSs_lay h3) (prS_lay (pair_ok hz).1 (pair_ok hz).2) ?_ ⟨.bl _, H, I, rfl, ?_⟩
  · rw [prS_depth]
    have := Nat.min_le_right (PyData.depthAll (zs.map prS)) 1
    omega
  · rw [prS_any]
    exact q
end
end Am
/-! What a reading evaluates to, by tellings. -/
namespace Am
open PySem PySem.Spec PyProof.Rows L2 Evl

def Ew (te : TE) (σ : L2.St) (H : Hp) (P : VP) : Prop := ∀ H1, Ex H H1 → ∀ Q : VK, (∀ v H2, Ex H1 H2 → P v H2 → Q v H2) → te σ H1 Q
/-- .. to a new object -/
def Ewn (te : TE) (σ : L2.St) (H : Hp) (P : VP) : Prop := ∀ H1, Ex H H1 → ∀ Q : VK, (∀ p H2, H1 p = none → Ex H1 H2 → P (.ref p) H2 → Q (.ref p) H2) → te σ H1 Q
def EwA (ta : TA) (σ : L2.St) (H : Hp) (P : List V → Hp → Prop) : Prop := ∀ H1, Ex H H1 → ∀ Q : List V → Hp → Prop, (∀ vs H2, Ex H1 H2 → P vs H2 → Q vs H2) → ta σ H1 Q
abbrev pA0 : List V → Hp → Prop := fun vs _ => vs = []
abbrev pAc (P : VP) (Pr : List V → Hp → Prop) : List V → Hp → Prop := fun vs H => ∃ v r, vs = v :: r ∧ P v H ∧ Pr r H

section
variable {α β : Type} {R : Rep α} {S : Rep β} {K : PySem.W.Frag} {σ : L2.St} {H H' : Hp} {ta tb te tl : TE} {t u : TT} {P P' : VP} {v : V}
theorem Ewn.ew (h : Ewn te σ H P) : Ew te σ H P := fun H1 e Q q => h H1 e Q fun p H2 _ e2 hp => q _ H2 e2 hp
theorem Ew.up (e : Ex H H') (h : Ew te σ H P) : Ew te σ H' P := fun H1 e1 Q q => h H1 (e.trans e1) Q q
theorem Ewn.up (e : Ex H H') (h : Ewn te σ H P) : Ewn te σ H' P := fun H1 e1 Q q => h H1 (e.trans e1) Q q
theorem Ew.imp (h : Ew te σ H P) (i : ∀ v H', Ex H H' → P v H' → P' v H') : Ew te σ H P' := fun H1 e Q q => h H1 e Q fun v H2 e2 hp => q v H2 e2 (i v H2 (e.trans e2) hp)
theorem Ewn.imp (h : Ewn te σ H P) (i : ∀ v H', Ex H H' → P v H' → P' v H') : Ewn te σ H P' := fun H1 e Q q => h H1 e Q fun p H2 hp e2 h2 => q p H2 hp e2 (i _ H2 (e.trans e2) h2)
theorem ew_var {i : Nat} [k : Kp P] (h : σ[i]? = some (some v)) (hp : P v H) : Ew (tVar i) σ H P := fun H1 e Q q => ⟨v, h, q v H1 (Ex.refl H1) (k.kp e hp)⟩
theorem ew_c [k : Kp P] (hp : P v H) : Ew (tC v) σ H P := fun H1 e Q q => q v H1 (Ex.refl H1) (k.kp e hp)
theorem ew_i {i : Int} : Ew (tC (.int i)) σ H (rInt i) := ew_c rfl
theorem ew_b {b : Bool} : Ew (tC (.bl b)) σ H (rBool b) := ew_c rfl
/-- as Evl has it -/
theorem ew_ev (h : Ev te σ H v) : Ew te σ H (fun x _ => x = v) := fun H1 e Q q => h H1 e Q fun H2 e2 => q v H2 e2 rfl
theorem ev_int {i : Int} (h : Ew te σ H (rInt i)) : Ev te σ H (.int i) := fun H1 e Q q => h H1 e Q fun v H2 e2 hp => by
  have hv : v = .int i := hp
  subst hv
  exact q H2 e2
theorem ev_bool {b : Bool} (h : Ew te σ H (rBool b)) : Ev te σ H (.bl b) := fun H1 e Q q => h H1 e Q fun v H2 e2 hp => by
  have hv : v = .bl b := hp
  subst hv
  exact q H2 e2
theorem ev_str {x : Str} (h : Ew te σ H (rStr x)) : Ev te σ H (.str x) := fun H1 e Q q => h H1 e Q fun v H2 e2 hp => by
  have hv : v = .str x := hp.1
  subst hv
  exact q H2 e2
theorem ew_int {i : Int} (h : Ev te σ H (.int i)) : Ew te σ H (rInt i) := fun H1 e Q q => h H1 e Q fun H2 e2 => q _ H2 e2 rfl
theorem ew_bool {b : Bool} (h : Ev te σ H (.bl b)) : Ew te σ H (rBool b) := fun H1 e Q q => h H1 e Q fun H2 e2 => q _ H2 e2 rfl
theorem Ew.toI {i j : Int} (h : Ew te σ H (rInt i)) (e : i = j) : Ew te σ H (rInt j) := e ▸ h
theorem Ew.toB {a b : Bool} (h : Ew te σ H (rBool a)) (e : a = b) : Ew te σ H (rBool b) := e ▸ h
theorem Ew.toS {a b : Str} (h : Ew te σ H (rStr a)) (e : a = b) : Ew te σ H (rStr b) := e ▸ h
theorem Ewn.toL {a b : List α} (h : Ewn te σ H (rL R a)) (e : a = b) : Ewn te σ H (rL R b) := e ▸ h
theorem Ew.toL {a b : List α} (h : Ew te σ H (rL R a)) (e : a = b) : Ew te σ H (rL R b) := e ▸ h
theorem _root_.Evl.EvT.to {a b : Bool} (h : EvT t σ H a) (e : a = b) : EvT t σ H b := e ▸ h
/-- an operation, by its two values -/
theorem ew_op {r : R2} {P1 P2 P3 : VP} [k : Kp P1] (ha : Ew ta σ H P1) (hb : Ew tb σ H P2) (hr : ∀ x y H1, Ex H H1 → P1 x H1 → P2 y H1 → ∀ Q : VK, (∀ z H2, Ex H1 H2 → P3 z H2 → Q z H2) → r x y H1 Q) : Ew (tOp r ta tb) σ H P3 := fun H1 e Q q =>
  ha H1 e _ fun x H2 e2 hx => hb H2 (e.trans e2) _ fun y H3 e3 hy => hr x y H3 ((e.trans e2).trans e3) (k.kp e3 hx) hy Q fun z H4 e4 hz => q z H4 ((e2.trans e3).trans e4) hz
theorem ewn_op {r : R2} {P1 P2 P3 : VP} [k : Kp P1] (ha : Ew ta σ H P1) (hb : Ew tb σ H P2) (hr : ∀ x y H1, Ex H H1 → P1 x H1 → P2 y H1 → ∀ Q : VK, (∀ p H2, H1 p = none → Ex H1 H2 → P3 (.ref p) H2 → Q (.ref p) H2) → r x y H1 Q) : Ewn (tOp r ta tb) σ H P3 := fun H1 e Q q =>
  ha H1 e _ fun x H2 e2 hx => hb H2 (e.trans e2) _ fun y H3 e3 hy => hr x y H3 ((e.trans e2).trans e3) (k.kp e3 hx) hy Q fun p H4 hp e4 hz => q p H4 (fresh_back (e2.trans e3) hp) ((e2.trans e3).trans e4) hz
theorem ew_I0 {g : Int → Int → Int} {i j : Int} (ha : Ew ta σ H (rInt i)) (hb : Ew tb σ H (rInt j)) : Ew (tOp (rI0 fun i j => .int (g i j)) ta tb) σ H (rInt (g i j)) :=
  ew_op ha hb fun x y H1 _ hx hy Q q => ⟨i, j, hx, hy, q _ H1 (Ex.refl H1) rfl⟩
theorem ew_I0b {g : Int → Int → Bool} {i j : Int} (ha : Ew ta σ H (rInt i)) (hb : Ew tb σ H (rInt j)) : Ew (tOp (rI0 fun i j => .bl (g i j)) ta tb) σ H (rBool (g i j)) :=
  ew_op ha hb fun x y H1 _ hx hy Q q => ⟨i, j, hx, hy, q _ H1 (Ex.refl H1) rfl⟩
theorem ew_I {C : Int → Int → Prop} {g : Int → Int → Int} {i j : Int} (ha : Ew ta σ H (rInt i)) (hb : Ew tb σ H (rInt j)) (hc : C i j) : Ew (tOp (rI C fun i j => .int (g i j)) ta tb) σ H (rInt (g i j)) :=
  ew_op ha hb fun x y H1 _ hx hy Q q => ⟨i, j, hx, hy, hc, q _ H1 (Ex.refl H1) rfl⟩
theorem ew_neg {i : Int} (ha : Ew ta σ H (rInt i)) : Ew (tUn (rU fun i => .int (-i)) ta) σ H (rInt (-i)) := fun H1 e Q q => ha H1 e _ fun x H2 e2 hx => ⟨i, hx, q _ H2 e2 rfl⟩
/-! comparisons -/
theorem ew_eqS {x y : Str} (ha : Ew ta σ H (rStr x)) (hb : Ew tb σ H (rStr y)) : Ew (tOp rEq ta tb) σ H (rBool (decide (x = y))) :=
  ew_op ha hb fun v w H1 _ hx hy Q q => by
    rw [hx.1, hy.1]
    refine ⟨rfl, q _ H1 (Ex.refl H1) ?_⟩
    show V.bl (decide (V.str x = V.str y)) = V.bl (decide (x = y))
    by_cases h : x = y
    · subst h
      rw [decide_eq_true rfl, decide_eq_true rfl]
    · rw [decide_eq_false h, decide_eq_false fun z => h (V.str.inj z)]
theorem ew_neS {x y : Str} (ha : Ew ta σ H (rStr x)) (hb : Ew tb σ H (rStr y)) : Ew (tOp rNe ta tb) σ H (rBool (!decide (x = y))) :=
  ew_op ha hb fun v w H1 _ hx hy Q q => by
    rw [hx.1, hy.1]
    refine ⟨rfl, q _ H1 (Ex.refl H1) ?_⟩
    show V.bl (!decide (V.str x = V.str y)) = V.bl (!decide (x = y))
    by_cases h : x = y
    · subst h
      rw [decide_eq_true rfl, decide_eq_true rfl]
    · rw [decide_eq_false h, decide_eq_false fun z => h (V.str.inj z)]
theorem dec_vint {x y : Int} : decide (V.int x = V.int y) = decide (x = y) := by
  by_cases h : x = y
  · subst h
    rw [decide_eq_true rfl, decide_eq_true rfl]
  · rw [decide_eq_false h, decide_eq_false fun z => h (V.int.inj z)]
theorem dec_vbl {x y : Bool} : decide (V.bl x = V.bl y) = decide (x = y) := by
  by_cases h : x = y
  · subst h
    rw [decide_eq_true rfl, decide_eq_true rfl]
  · rw [decide_eq_false h, decide_eq_false fun z => h (V.bl.inj z)]
theorem ew_eqI {x y : Int} (ha : Ew ta σ H (rInt x)) (hb : Ew tb σ H (rInt y)) : Ew (tOp rEq ta tb) σ H (rBool (decide (x = y))) :=
  ew_op ha hb fun v w H1 _ hx hy Q q => by
    have h1 : v = .int x := hx
    have h2 : w = .int y := hy
    rw [h1, h2]
    exact ⟨rfl, q _ H1 (Ex.refl H1) (by rw [dec_vint]; rfl)⟩
theorem ew_neI {x y : Int} (ha : Ew ta σ H (rInt x)) (hb : Ew tb σ H (rInt y)) : Ew (tOp rNe ta tb) σ H (rBool (!decide (x = y))) :=
  ew_op ha hb fun v w H1 _ hx hy Q q => by
    have h1 : v = .int x := hx
    have h2 : w = .int y := hy
    rw [h1, h2]
    exact ⟨rfl, q _ H1 (Ex.refl H1) (by rw [dec_vint]; rfl)⟩
theorem ew_neB {x y : Bool} (ha : Ew ta σ H (rBool x)) (hb : Ew tb σ H (rBool y)) : Ew (tOp rNe ta tb) σ H (rBool (!decide (x = y))) :=
  ew_op ha hb fun v w H1 _ hx hy Q q => by
    have h1 : v = .bl x := hx
    have h2 : w = .bl y := hy
    rw [h1, h2]
    exact ⟨rfl, q _ H1 (Ex.refl H1) (by rw [dec_vbl]; rfl)⟩
theorem ew_inL {x : Str} {as : List Str} (ha : Ew ta σ H (rStr x)) (hb : Ew tb σ H (rL rStr as)) : Ew (tOp (rIn K false) ta tb) σ H (rBool (decide (x ∈ as))) :=
  ew_op ha hb fun v w H1 _ hx ⟨p, xs, h1, h2, h3⟩ Q q => by
    rw [hx.1]
    refine ⟨p, xs, h1, .inl (SqL.of h2), rfl, ?_, q _ H1 (Ex.refl H1) ?_⟩
    · rw [al_str h3]; exact flat_strs as
    · rw [al_str h3]
      show V.bl (inV (.str x) (as.map V.str)) = V.bl (decide (x ∈ as))
      rw [inV_str]
theorem ew_niL {x : Str} {as : List Str} (ha : Ew ta σ H (rStr x)) (hb : Ew tb σ H (rL rStr as)) : Ew (tOp (rIn K true) ta tb) σ H (rBool (!decide (x ∈ as))) :=
  ew_op ha hb fun v w H1 _ hx ⟨p, xs, h1, h2, h3⟩ Q q => by
    rw [hx.1]
    refine ⟨p, xs, h1, .inl (SqL.of h2), rfl, ?_, q _ H1 (Ex.refl H1) ?_⟩
    · rw [al_str h3]; exact flat_strs as
    · rw [al_str h3]
      show V.bl (!inV (.str x) (as.map V.str)) = V.bl (!decide (x ∈ as))
      rw [inV_str]
theorem ew_inT {x : Str} {as : List Str} (ha : Ew ta σ H (rStr x)) (hb : Ew tb σ H (rT rStr as)) : Ew (tOp (rIn K false) ta tb) σ H (rBool (decide (x ∈ as))) :=
  ew_op ha hb fun v w H1 _ hx ⟨p, xs, h1, h2, h3⟩ Q q => by
    rw [hx.1]
    refine ⟨p, xs, h1, .inr (SqT.of h2), rfl, ?_, q _ H1 (Ex.refl H1) ?_⟩
    · rw [al_str h3]; exact flat_strs as
    · rw [al_str h3]
      show V.bl (inV (.str x) (as.map V.str)) = V.bl (decide (x ∈ as))
      rw [inV_str]
theorem ew_niT {x : Str} {as : List Str} (ha : Ew ta σ H (rStr x)) (hb : Ew tb σ H (rT rStr as)) : Ew (tOp (rIn K true) ta tb) σ H (rBool (!decide (x ∈ as))) :=
  ew_op ha hb fun v w H1 _ hx ⟨p, xs, h1, h2, h3⟩ Q q => by
    rw [hx.1]
    refine ⟨p, xs, h1, .inr (SqT.of h2), rfl, ?_, q _ H1 (Ex.refl H1) ?_⟩
    · rw [al_str h3]; exact flat_strs as
    · rw [al_str h3]
      show V.bl (!inV (.str x) (as.map V.str)) = V.bl (!decide (x ∈ as))
      rw [inV_str]
theorem ew_niLi {x : Int} {as : List Int} (ha : Ew ta σ H (rInt x)) (hb : Ew tb σ H (rL rInt as)) : Ew (tOp (rIn K true) ta tb) σ H (rBool (!decide (x ∈ as))) :=
  ew_op ha hb fun v w H1 _ hx ⟨p, xs, h1, h2, h3⟩ Q q => by
    have h0 : v = .int x := hx
    rw [h0]
    refine ⟨p, xs, h1, .inl (SqL.of h2), rfl, ?_, q _ H1 (Ex.refl H1) ?_⟩
    · rw [al_int h3]; exact flat_ints as
    · rw [al_int h3]
      show V.bl (!inV (.int x) (as.map V.int)) = V.bl (!decide (x ∈ as))
      rw [inV_int]
theorem ew_niLb {x : Bool} {as : List Bool} (ha : Ew ta σ H (rBool x)) (hb : Ew tb σ H (rL rBool as)) : Ew (tOp (rIn K true) ta tb) σ H (rBool (!decide (x ∈ as))) :=
  ew_op ha hb fun v w H1 _ hx ⟨p, xs, h1, h2, h3⟩ Q q => by
    have h0 : v = .bl x := hx
    rw [h0]
    refine ⟨p, xs, h1, .inl (SqL.of h2), rfl, ?_, q _ H1 (Ex.refl H1) ?_⟩
    · rw [al_bl h3]; exact flat_bls as
    · rw [al_bl h3]
      show V.bl (!inV (.bl x) (as.map V.bl)) = V.bl (!decide (x ∈ as))
      rw [inV_bl]
theorem ew_inP {z : Str × Str} {zs : List (Str × Str)} (ha : Ew ta σ H (rPair z)) (hb : Ew tb σ H (rT rPair zs)) : Ew (tOp (rInP false) ta tb) σ H (rBool (decide (z ∈ zs))) :=
  ew_op ha hb fun v w H1 _ hx hy Q q => ⟨z, zs, hx, hy, q _ H1 (Ex.refl H1) rfl⟩
theorem ew_niP {z : Str × Str} {zs : List (Str × Str)} (ha : Ew ta σ H (rPair z)) (hb : Ew tb σ H (rT rPair zs)) : Ew (tOp (rInP true) ta tb) σ H (rBool (!decide (z ∈ zs))) :=
  ew_op ha hb fun v w H1 _ hx hy Q q => ⟨z, zs, hx, hy, q _ H1 (Ex.refl H1) rfl⟩
/-! items -/
theorem ew_p0 {ab : α × β} (ha : Ew ta σ H (rP R S ab)) : Ew (tOp (rIxT K) ta (tC (.int 0))) σ H (R ab.1) := fun H1 e Q q =>
  ha H1 e _ fun x H2 e2 ⟨p, a, b, h1, h2, h3, h4⟩ => ⟨p, [a, b], 0, a, h1, rfl, SqT.of h2, rfl, q a H2 e2 h3⟩
theorem ew_p1 {ab : α × β} (ha : Ew ta σ H (rP R S ab)) : Ew (tOp (rIxT K) ta (tC (.int 1))) σ H (S ab.2) := fun H1 e Q q =>
  ha H1 e _ fun x H2 e2 ⟨p, a, b, h1, h2, h3, h4⟩ => ⟨p, [a, b], 1, b, h1, rfl, SqT.of h2, rfl, q b H2 e2 h4⟩
theorem ew_ixL [k : ∀ a, Kp (R a)] {as : List α} {i : Int} {a : α} (ha : Ew ta σ H (rL R as)) (hb : Ew tb σ H (rInt i)) (hi : atI as i = some a) : Ew (tOp (rIxL K) ta tb) σ H (R a) :=
  ew_op ha hb fun x y H1 _ ⟨p, xs, h1, h2, h3⟩ hy Q q => by
    obtain ⟨z, hz, hr⟩ := h3.atI hi
    exact ⟨p, xs, i, z, h1, hy, SqL.of h2, hz, q z H1 (Ex.refl H1) hr⟩
theorem ew_ixS {z : Str} {i : Int} {c : Nat} (ha : Ew ta σ H (rStr z)) (hb : Ew tb σ H (rInt i)) (hl : z.length ≤ 1000) (hi : atI z.cps.toList i = some c) (ho : SOk ⟨#[c]⟩) : Ew (tOp rIxS ta tb) σ H (rStr ⟨#[c]⟩) :=
  ew_op ha hb fun x y H1 _ hx hy Q q => ⟨z, i, c, hx.1, hy, Nat.le_trans hl (by decide), hi, q _ H1 (Ex.refl H1) ⟨rfl, ho⟩⟩
/-! new things -/
theorem ewa_nil : EwA tNil σ H pA0 := fun H1 _ Q q => q [] H1 (Ex.refl H1) rfl
theorem ewa_cons {Pr : List V → Hp → Prop} {tr : TA} [k : Kp P] (h : Ew te σ H P) (hr : EwA tr σ H Pr) : EwA (tCons te tr) σ H (pAc P Pr) := fun H1 e Q q =>
  h H1 e _ fun v H2 e2 hv => hr H2 (e.trans e2) _ fun vs H3 e3 hvs => q _ H3 (e2.trans e3) ⟨v, vs, rfl, k.kp e3 hv, hvs⟩
theorem ewn_tup2 [k : ∀ a, Kp (R a)] [k2 : ∀ b, Kp (S b)] {a : α} {b : β} (ha : Ew ta σ H (R a)) (hb : Ew tb σ H (S b)) : Ewn (tTup (tCons ta (tCons tb tNil))) σ H (rP R S (a, b)) := fun H1 e Q q =>
  ewa_cons ha (ewa_cons hb ewa_nil) H1 e _ fun vs H2 e2 ⟨x, r, h1, hx, y, r2, h2, hy, h3⟩ => by
    have h3' : r2 = [] := h3
    subst h1 h2 h3'
    exact ⟨by show 2 ≤ sizeLine; decide, fun p hp => q p _ (fresh_back e2 hp) (e2.trans (Ex.new hp)) ⟨p, x, y, rfl, upd_same, (k a).kp (Ex.new hp) hx, (k2 b).kp (Ex.new hp) hy⟩⟩
theorem ewn_lst0 : Ewn (tLst tNil) σ H (rL R []) := fun H1 e Q q =>
  ⟨Nat.zero_le _, fun p hp => q p _ hp (Ex.new hp) ⟨p, [], rfl, upd_same, .nil⟩⟩
theorem ewn_lst1 [k : ∀ a, Kp (R a)] {a : α} (ha : Ew ta σ H (R a)) : Ewn (tLst (tCons ta tNil)) σ H (rL R [a]) := fun H1 e Q q =>
  ewa_cons ha ewa_nil H1 e _ fun vs H2 e2 ⟨x, r, h1, hx, h3⟩ => by
    have h3' : r = [] := h3
    subst h1 h3'
    exact ⟨by show 1 ≤ sizeLine; decide, fun p hp => q p _ (fresh_back e2 hp) (e2.trans (Ex.new hp)) ⟨p, [x], rfl, upd_same, .cons ((k a).kp (Ex.new hp) hx) .nil⟩⟩
theorem ewn_lst2 [k : ∀ a, Kp (R a)] {a b : α} (ha : Ew ta σ H (R a)) (hb : Ew tb σ H (R b)) : Ewn (tLst (tCons ta (tCons tb tNil))) σ H (rL R [a, b]) := fun H1 e Q q =>
  ewa_cons ha (ewa_cons hb ewa_nil) H1 e _ fun vs H2 e2 ⟨x, r, h1, hx, y, r2, h2, hy, h3⟩ => by
    have h3' : r2 = [] := h3
    subst h1 h2 h3'
    exact ⟨by show 2 ≤ sizeLine; decide, fun p hp => q p _ (fresh_back e2 hp) (e2.trans (Ex.new hp)) ⟨p, [x, y], rfl, upd_same, .cons ((k a).kp (Ex.new hp) hx) (.cons ((k b).kp (Ex.new hp) hy) .nil)⟩⟩
theorem ewn_list [k : ∀ a, Kp (R a)] {as : List α} (ha : Ew ta σ H (rL R as)) : Ewn (tCB (rListS K) (tCons ta tNil)) σ H (rL R as) := fun H1 e Q q =>
  ha H1 e _ fun x H2 e2 ⟨p, xs, h1, h2, h3⟩ => ⟨p, xs, by rw [h1], .inl (SqL.of h2), fun l hl => q l _ (fresh_back e2 hl) (e2.trans (Ex.new hl)) ⟨l, xs, rfl, upd_same, h3.kp (Ex.new hl)⟩⟩
theorem ewn_listT [k : ∀ a, Kp (R a)] {as : List α} (ha : Ew ta σ H (rT R as)) : Ewn (tCB (rListS K) (tCons ta tNil)) σ H (rL R as) := fun H1 e Q q =>
  ha H1 e _ fun x H2 e2 ⟨p, xs, h1, h2, h3⟩ => ⟨p, xs, by rw [h1], .inr (SqT.of h2), fun l hl => q l _ (fresh_back e2 hl) (e2.trans (Ex.new hl)) ⟨l, xs, rfl, upd_same, h3.kp (Ex.new hl)⟩⟩
def rTupS (K : PySem.W.Frag) : List V → Hp → VK → Prop := fun xs H Q => ∃ p ys, xs = [.ref p] ∧ ((SqL K H p ys ∧ ∀ l, H l = none → Q (.ref l) (upd H l (.tup ys))) ∨ (SqT K H p ys ∧ Q (.ref p) H))
theorem ewn_tuple [k : ∀ a, Kp (R a)] {as : List α} (ha : Ew ta σ H (rL R as)) : Ewn (tCB (rTupS K) (tCons ta tNil)) σ H (rT R as) := fun H1 e Q q =>
  ha H1 e _ fun x H2 e2 ⟨p, xs, h1, h2, h3⟩ => ⟨p, xs, by rw [h1], .inl ⟨SqL.of h2, fun l hl => q l _ (fresh_back e2 hl) (e2.trans (Ex.new hl)) ⟨l, xs, rfl, upd_same, h3.kp (Ex.new hl)⟩⟩⟩
theorem ewn_cat [k : ∀ a, Kp (R a)] {as bs : List α} (ha : Ew ta σ H (rL R as)) (hb : Ew tb σ H (rL R bs)) (hz : as.length + bs.length ≤ 1000000) : Ewn (tOp rCat ta tb) σ H (rL R (as ++ bs)) :=
  ewn_op ha hb fun x y H1 _ ⟨p, xs, h1, h2, h3⟩ ⟨q', ys, h4, h5, h6⟩ Q q => ⟨p, q', xs, ys, h1, h4, h2, h5, by rw [← h3.len, ← h6.len]; exact Nat.le_trans hz (by decide), fun l hl => q l _ hl (Ex.new hl) ⟨l, xs ++ ys, rfl, upd_same, (h3.app h6).kp (Ex.new hl)⟩⟩
theorem ew_lenL {as : List α} (ha : Ew ta σ H (rL R as)) : Ew (tCB (rLenS K) (tCons ta tNil)) σ H (rInt (as.length : Int)) := fun H1 e Q q =>
  ha H1 e _ fun x H2 e2 ⟨p, xs, h1, h2, h3⟩ => ⟨p, xs, by rw [h1], .inl (SqL.of h2), q _ H2 e2 (by rw [h3.len]; rfl)⟩
theorem ew_lenT {as : List α} (ha : Ew ta σ H (rT R as)) : Ew (tCB (rLenS K) (tCons ta tNil)) σ H (rInt (as.length : Int)) := fun H1 e Q q =>
  ha H1 e _ fun x H2 e2 ⟨p, xs, h1, h2, h3⟩ => ⟨p, xs, by rw [h1], .inr (SqT.of h2), q _ H2 e2 (by rw [h3.len]; rfl)⟩
theorem ew_lenP {ab : α × β} (ha : Ew ta σ H (rP R S ab)) : Ew (tCB (rLenS K) (tCons ta tNil)) σ H (rInt 2) := fun H1 e Q q =>
  ha H1 e _ fun x H2 e2 ⟨p, a, b, h1, h2, h3, h4⟩ => ⟨p, [a, b], by rw [h1], .inr (SqT.of h2), q _ H2 e2 rfl⟩
/-- xs[lo:hi] -/
def cutA (xs : List α) (lo hi : Option Int) : List α := (xs.drop (HT.sIx xs.length 0 lo)).take (HT.sIx xs.length xs.length hi - HT.sIx xs.length 0 lo)
theorem ewn_sl [k : ∀ a, Kp (R a)] {as : List α} {t1 t2 : TO} {lo hi : Option Int} (ha : Ew ta σ H (rL R as)) (h1 : EvO t1 σ H lo) (h2 : EvO t2 σ H hi) : Ewn (tSl (rSlL K) ta t1 t2) σ H (rL R (cutA as lo hi)) := fun H1 e Q q =>
  ha H1 e _ fun x H2 e2 hx => h1 H2 (e.trans e2) _ fun H3 e3 => h2 H3 ((e.trans e2).trans e3) _ fun H4 e4 => by
    obtain ⟨p, xs, g1, g2, g3⟩ := Kp.kp (P := rL R as) (e3.trans e4) hx
    refine ⟨p, xs, g1, SqL.of g2, fun l hl => q l _ (fresh_back ((e2.trans e3).trans e4) hl) (((e2.trans e3).trans e4).trans (Ex.new hl)) ⟨l, _, rfl, upd_same, ?_⟩⟩
    have e5 : cutV xs lo hi = (xs.drop (HT.sIx as.length 0 lo)).take (HT.sIx as.length as.length hi - HT.sIx as.length 0 lo) := by unfold cutV; rw [g3.len]
    rw [e5]
    exact ((g3.drop _).take _).kp (Ex.new hl)
theorem eo_int {i : Int} (h : Ew te σ H (rInt i)) : EvO (tPart te) σ H (some i) := eo_some (ev_int h)
/-! tests -/
theorem et_t {b : Bool} (h : Ew te σ H (rBool b)) : EvT (tTest te) σ H b := et_test (ev_bool h)
theorem et_v {b : Bool} (h : Ew te σ H (rBool b)) : EvT (tB te) σ H b := et_B (ev_bool h)
/-! values by and, or, not -/
theorem ew_andV {a b : Bool} (h1 : Ew ta σ H (rBool a)) (h2 : a = true → Ew tb σ H (rBool b)) : Ew (tAndV ta tb) σ H (rBool (a && b)) := ew_bool (ev_andV (ev_bool h1) fun z => ev_bool (h2 z))
theorem ew_orV {a b : Bool} (h1 : Ew ta σ H (rBool a)) (h2 : a = false → Ew tb σ H (rBool b)) : Ew (tOrV ta tb) σ H (rBool (a || b)) := ew_bool (ev_orV (ev_bool h1) fun z => ev_bool (h2 z))
theorem ew_notV {a : Bool} (h1 : Ew ta σ H (rBool a)) : Ew (tNotV ta) σ H (rBool (!a)) := ew_bool (ev_notV (ev_bool h1))
/-! calls -/
/-- what a promise gives: a value told by P, all else kept -/
def Gives (sp : Sp) (vs : List V) (H : Hp) (P : VP) : Prop := ∀ Q : VK, (∀ v H2, Ex H H2 → P v H2 → Q v H2) → ∀ E : XK, sp vs H Q E
def GivesN (sp : Sp) (vs : List V) (H : Hp) (P : VP) : Prop := ∀ Q : VK, (∀ p H2, H p = none → Ex H H2 → P (.ref p) H2 → Q (.ref p) H2) → ∀ E : XK, sp vs H Q E
theorem ew_call {sp : Sp} {E : XK} {tr : TA} {Pa : List V → Hp → Prop} (h : EwA tr σ H Pa) (hs : ∀ vs H1, Ex H H1 → Pa vs H1 → Gives sp vs H1 P) : Ew (tCall sp [] E tr) σ H P := fun H1 e Q q =>
  h H1 e _ fun vs H2 e2 hp => by
    rw [List.append_nil]
    exact hs vs H2 (e.trans e2) hp Q (fun v H3 e3 hv => q v H3 (e2.trans e3) hv) E
theorem ewn_call {sp : Sp} {E : XK} {tr : TA} {Pa : List V → Hp → Prop} (h : EwA tr σ H Pa) (hs : ∀ vs H1, Ex H H1 → Pa vs H1 → GivesN sp vs H1 P) : Ewn (tCall sp [] E tr) σ H P := fun H1 e Q q =>
  h H1 e _ fun vs H2 e2 hp => by
    rw [List.append_nil]
    exact hs vs H2 (e.trans e2) hp Q (fun p H3 hn e3 hv => q p H3 (fresh_back e2 hn) (e2.trans e3) hv) E

theorem sz_lt6 {n : Nat} (h : n < 1000000) : n < sizeLine := Nat.lt_of_lt_of_le h (by decide)
/-! ### statements -/
variable {D : Ends} {tu tw tz : TS} {g : TG}
theorem w_asg {i : Nat} (h : Ew te σ H P) (k : ∀ v H1, Ex H H1 → P v H1 → D.nx (σ.set i (some v)) H1) : tAsg te (gName i) D σ H := h H (Ex.refl H) _ k
theorem w_asgN {i : Nat} (h : Ewn te σ H P) (k : ∀ p H1, H p = none → Ex H H1 → P (.ref p) H1 → D.nx (σ.set i (some (.ref p))) H1) : tAsg te (gName i) D σ H := h H (Ex.refl H) _ k
theorem q_asgW {i : Nat} (h : Ew te σ H P) (k : ∀ v H1, Ex H H1 → P v H1 → tz D (σ.set i (some v)) H1) : tSeq (tAsg te (gName i)) tz D σ H := w_asg (D := { D with nx := tz D }) h k
theorem q_asgN {i : Nat} (h : Ewn te σ H P) (k : ∀ p H1, H p = none → Ex H H1 → P (.ref p) H1 → tz D (σ.set i (some (.ref p))) H1) : tSeq (tAsg te (gName i)) tz D σ H := w_asgN (D := { D with nx := tz D }) h k
theorem w_drop (h : Ew te σ H P) (k : ∀ v H1, Ex H H1 → P v H1 → D.nx σ H1) : tDrop te D σ H := h H (Ex.refl H) _ k
theorem q_dropW (h : Ew te σ H P) (k : ∀ v H1, Ex H H1 → P v H1 → tz D σ H1) : tSeq (tDrop te) tz D σ H := w_drop (D := { D with nx := tz D }) h k
theorem w_ret (h : Ew te σ H P) (k : ∀ v H1, Ex H H1 → P v H1 → D.rt v H1) : tRet te D σ H := h H (Ex.refl H) _ k
theorem w_retN (h : Ewn te σ H P) (k : ∀ p H1, H p = none → Ex H H1 → P (.ref p) H1 → D.rt (.ref p) H1) : tRet te D σ H := h H (Ex.refl H) _ k
/-- xs.append(e), the list at l -/
theorem w_app {l : Addr} {xs : List V} (hl : H l = some (.lst xs)) (ha : Ev ta σ H (.ref l)) (h : Ew te σ H P) (hz : xs.length < 1000000) (k : ∀ v H1, Ex H H1 → P v H1 → D.nx σ (upd H1 l (.lst (xs ++ [v])))) :
    tDrop (tBM K "list" rAppend ta (tCons te tNil)) D σ H := ha H (Ex.refl H) _ fun H1 e1 =>
  ⟨Or.inl ⟨rfl, xs, sq_of (e1 l _ hl)⟩, h H1 e1 _ fun v H2 e2 hv => ⟨l, xs, v, rfl, rfl, e2 l _ (e1 l _ hl), sz_lt6 hz, k v H2 (e1.trans e2) hv⟩⟩
theorem w_appN {l : Addr} {xs : List V} (hl : H l = some (.lst xs)) (ha : Ev ta σ H (.ref l)) (h : Ewn te σ H P) (hz : xs.length < 1000000) (k : ∀ p H1, H p = none → Ex H H1 → P (.ref p) H1 → D.nx σ (upd H1 l (.lst (xs ++ [.ref p])))) :
    tDrop (tBM K "list" rAppend ta (tCons te tNil)) D σ H := ha H (Ex.refl H) _ fun H1 e1 =>
  ⟨Or.inl ⟨rfl, xs, sq_of (e1 l _ hl)⟩, h H1 e1 _ fun p H2 hn e2 hv => ⟨l, xs, .ref p, rfl, rfl, e2 l _ (e1 l _ hl), sz_lt6 hz, k p H2 (fresh_back e1 hn) (e1.trans e2) hv⟩⟩
theorem q_app' {l : Addr} {xs : List V} (hl : H l = some (.lst xs)) (ha : Ev ta σ H (.ref l)) (h : Ew te σ H P) (hz : xs.length < 1000000) (k : ∀ v H1, Ex H H1 → P v H1 → tz D σ (upd H1 l (.lst (xs ++ [v])))) :
    tSeq (tDrop (tBM K "list" rAppend ta (tCons te tNil))) tz D σ H := w_app (D := { D with nx := tz D }) hl ha h hz k

/-! ### targets -/
/-- the slots behind a store of what is told by R a: to a name; of a pair to two names -/
def sN (j : Nat) (R : Rep α) : α → L2.St → L2.St → Hp → Prop := fun a σ σ' H => ∃ x, R a x H ∧ σ' = σ.set j (some x)
def sP (i j : Nat) (R : Rep α) (S : Rep β) : α × β → L2.St → L2.St → Hp → Prop := fun ab σ σ' H => ∃ x y, R ab.1 x H ∧ S ab.2 y H ∧ σ' = (σ.set i (some x)).set j (some y)
/-- a target that stores so -/
def Tg (g : TG) (R : Rep α) (T : α → L2.St → L2.St → Hp → Prop) : Prop := ∀ a x σ H, R a x H → ∃ σ', T a σ σ' H ∧ ∀ H' (Q : L2.St → Hp → Prop), Ex H H' → Q σ' H' → g x σ H' Q
theorem tgN {j : Nat} : Tg (gName j) R (sN j R) := fun a x σ H h => ⟨_, ⟨x, h, rfl⟩, fun _ _ _ q => q⟩
theorem tgP {i j : Nat} : Tg (gTup K 2 (gCons (gName i) (gCons (gName j) gNil))) (rP R S) (sP i j R S) := fun a v σ H ⟨p, x, y, h1, h2, h3, h4⟩ =>
  ⟨_, ⟨x, y, h3, h4, rfl⟩, fun H' Q e q => ⟨p, [x, y], h1, SqT.of (e p _ h2), rfl, x, [y], rfl, y, [], rfl, rfl, q⟩⟩
def gLstU (K : PySem.W.Frag) (n : Nat) (t : TGs) : TG := fun v σ H Q => ∃ a xs, v = .ref a ∧ SqL K H a xs ∧ xs.length = n ∧ t xs σ H Q

/-! ### loops over what is told -/
theorem w_forT {T : α → L2.St → L2.St → Hp → Prop} [k : ∀ a, Kp (R a)] {as : List α} (hg : Tg g R T) (h : Ew tl σ H (rT R as))
    (go : ∀ v H1, Ex H H1 → rT R as v H1 → ∃ (Hs : Hp) (W : List α → List α → L2.St → Hp → Prop), rT R as v Hs ∧ W [] as σ H1 ∧ (∀ d t σ' H', W d t σ' H' → Ex Hs H') ∧
      (∀ d a t σ' σ2 H', d ++ a :: t = as → W d (a :: t) σ' H' → T a σ' σ2 H' → tu { D with nx := W (d ++ [a]) t, ct := W (d ++ [a]) t, bk := D.nx } σ2 H') ∧ ∀ σ' H', W as [] σ' H' → D.nx σ' H') : tFor (iTup K tl) g tu D σ H :=
  h H (Ex.refl H) _ fun v H1 e1 hv => by
    obtain ⟨p, xs0, hp0, _, _⟩ := id hv
    obtain ⟨Hs, W, hs, w0, wk, ws, wd⟩ := go v H1 e1 hv
    obtain ⟨p', xs, hp, h2, h3⟩ := hs
    subst hp0
    have ep : p = p' := V.ref.inj hp
    subst ep
    have hl := h3.len
    obtain ⟨q, ys, q1, q2, q3⟩ := hv
    cases q1
    refine ⟨p, rfl, ⟨ys, SqT.of q2⟩, for_tup (xs := xs) (fun i σ' H' => W (as.take i) (as.drop i) σ' H') ?_ (fun i σ' H' hi w => SqT.of (wk _ _ _ _ w p _ h2)) (fun i x σ' H' hx w => ?_) fun σ' H' w => ?_⟩
    · rw [List.take_zero, List.drop_zero]
      exact w0
    · obtain ⟨a, ha, hr⟩ := h3.getV hx
      obtain ⟨hi, ea⟩ := List.getElem?_eq_some_iff.mp ha
      have ed : as.drop i = a :: as.drop (i + 1) := by rw [List.drop_eq_getElem_cons hi, ea]
      have et : as.take (i + 1) = as.take i ++ [a] := by rw [List.take_add_one, ha]; rfl
      rw [ed] at w
      obtain ⟨σ2, hT, hgo⟩ := hg a x σ' H' ((k a).kp (wk _ _ _ _ w) hr)
      refine hgo H' _ (Ex.refl H') ?_
      rw [et]
      exact ws (as.take i) a (as.drop (i + 1)) σ' σ2 H' (by rw [← ed]; exact List.take_append_drop i as) w hT
    · rw [← hl, List.take_length, List.drop_length] at w
      exact wd σ' H' w
theorem w_forL {T : α → L2.St → L2.St → Hp → Prop} [k : ∀ a, Kp (R a)] {as : List α} (hg : Tg g R T) (h : Ew tl σ H (rL R as))
    (go : ∀ v H1, Ex H H1 → rL R as v H1 → ∃ (Hs : Hp) (W : List α → List α → L2.St → Hp → Prop), rL R as v Hs ∧ W [] as σ H1 ∧ (∀ d t σ' H', W d t σ' H' → Ex Hs H') ∧
      (∀ d a t σ' σ2 H', d ++ a :: t = as → W d (a :: t) σ' H' → T a σ' σ2 H' → tu { D with nx := W (d ++ [a]) t, ct := W (d ++ [a]) t, bk := D.nx } σ2 H') ∧ ∀ σ' H', W as [] σ' H' → D.nx σ' H') : tFor (iList K tl) g tu D σ H :=
  h H (Ex.refl H) _ fun v H1 e1 hv => by
    obtain ⟨p, xs0, hp0, _, _⟩ := id hv
    obtain ⟨Hs, W, hs, w0, wk, ws, wd⟩ := go v H1 e1 hv
    obtain ⟨p', xs, hp, h2, h3⟩ := hs
    subst hp0
    have ep : p = p' := V.ref.inj hp
    subst ep
    have hl := h3.len
    obtain ⟨q, ys, q1, q2, q3⟩ := hv
    cases q1
    refine ⟨p, rfl, ⟨ys, SqL.of q2⟩, for_list (xs := xs) (fun i σ' H' => W (as.take i) (as.drop i) σ' H') ?_ (fun i σ' H' hi w => SqL.of (wk _ _ _ _ w p _ h2)) (fun i x σ' H' hx w => ?_) fun σ' H' w => ?_⟩
    · rw [List.take_zero, List.drop_zero]
      exact w0
    · obtain ⟨a, ha, hr⟩ := h3.getV hx
      obtain ⟨hi, ea⟩ := List.getElem?_eq_some_iff.mp ha
      have ed : as.drop i = a :: as.drop (i + 1) := by rw [List.drop_eq_getElem_cons hi, ea]
      have et : as.take (i + 1) = as.take i ++ [a] := by rw [List.take_add_one, ha]; rfl
      rw [ed] at w
      obtain ⟨σ2, hT, hgo⟩ := hg a x σ' H' ((k a).kp (wk _ _ _ _ w) hr)
      refine hgo H' _ (Ex.refl H') ?_
      rw [et]
      exact ws (as.take i) a (as.drop (i + 1)) σ' σ2 H' (by rw [← ed]; exact List.take_append_drop i as) w hT
    · rw [← hl, List.take_length, List.drop_length] at w
      exact wd σ' H' w
theorem q_forTW {T : α → L2.St → L2.St → Hp → Prop} [k : ∀ a, Kp (R a)] {as : List α} (hg : Tg g R T) (h : Ew tl σ H (rT R as))
    (go : ∀ v H1, Ex H H1 → rT R as v H1 → ∃ (Hs : Hp) (W : List α → List α → L2.St → Hp → Prop), rT R as v Hs ∧ W [] as σ H1 ∧ (∀ d t σ' H', W d t σ' H' → Ex Hs H') ∧
      (∀ d a t σ' σ2 H', d ++ a :: t = as → W d (a :: t) σ' H' → T a σ' σ2 H' → tu { D with nx := W (d ++ [a]) t, ct := W (d ++ [a]) t, bk := tz D } σ2 H') ∧ ∀ σ' H', W as [] σ' H' → tz D σ' H') : tSeq (tFor (iTup K tl) g tu) tz D σ H :=
  w_forT (D := { D with nx := tz D }) hg h go
theorem q_forLW {T : α → L2.St → L2.St → Hp → Prop} [k : ∀ a, Kp (R a)] {as : List α} (hg : Tg g R T) (h : Ew tl σ H (rL R as))
    (go : ∀ v H1, Ex H H1 → rL R as v H1 → ∃ (Hs : Hp) (W : List α → List α → L2.St → Hp → Prop), rL R as v Hs ∧ W [] as σ H1 ∧ (∀ d t σ' H', W d t σ' H' → Ex Hs H') ∧
      (∀ d a t σ' σ2 H', d ++ a :: t = as → W d (a :: t) σ' H' → T a σ' σ2 H' → tu { D with nx := W (d ++ [a]) t, ct := W (d ++ [a]) t, bk := tz D } σ2 H') ∧ ∀ σ' H', W as [] σ' H' → tz D σ' H') : tSeq (tFor (iList K tl) g tu) tz D σ H :=
  w_forL (D := { D with nx := tz D }) hg h go

/-! ### comprehensions -/
/-- one turn of a comprehension: what it has made so far -/
def Cm (S : Rep β) (H1 : Hp) (Dl : Addr) (bs : List β) (H' : Hp) : Prop := H1 Dl = none ∧ Ex H1 (hid Dl H') ∧ ∃ xs, H' Dl = some (.lst xs) ∧ Al S bs xs (hid Dl H')
theorem cm_turn [k : ∀ b, Kp (S b)] [sh : ∀ b, Sh0 (S b)] {tt : TT} {H1 H' : Hp} {Dl : Addr} {bs : List β} {σ2 : L2.St} {f : Bool} {b : β} {N : Hp → Prop} (c : Cm S H1 Dl bs H') (hl : bs.length < 10000) (ht : EvT tt σ2 H1 f) (he : f = true → Ew te σ2 H1 (S b))
    (n1 : f = true → ∀ H', Cm S H1 Dl (bs ++ [b]) H' → N H') (n2 : f = false → ∀ H', Cm S H1 Dl bs H' → N H') :
    tt σ2 H' fun c H3 => if c = true then te σ2 H3 fun y H4 => ∃ acc, H4 Dl = some (.lst acc) ∧ acc.length < sizeLine ∧ N (upd H4 Dl (.lst (acc ++ [y]))) else N H3 := by
  obtain ⟨c1, c2, xs, c3, c4⟩ := c
  have e1 : Ex H1 H' := c2.trans hid_ex
  refine ht H' e1 _ fun H3 e3 => ?_
  cases hf : f with
  | true =>
    show te σ2 H3 fun y H4 => ∃ acc, H4 Dl = some (.lst acc) ∧ acc.length < sizeLine ∧ N (upd H4 Dl (.lst (acc ++ [y])))
    refine he hf H3 (e1.trans e3) _ fun y H4 e4 hy => ?_
    have q := e4 Dl _ (e3 Dl _ c3)
    refine ⟨xs, q, by rw [← c4.len]; exact Nat.lt_of_lt_of_le hl (by decide), n1 hf _ ⟨c1, ?_, xs ++ [y], upd_same, ?_⟩⟩
    · exact ex_hid (Ex.mut ((e1.trans e3).trans e4) c1) c1
    · rw [hid_upd]
      exact (c4.kp (hid_mono (e3.trans e4))).snoc ((sh b).sh hy (.inl ⟨xs, q⟩))
  | false =>
    show N H3
    exact n2 hf _ ⟨c1, ex_hid (e1.trans e3) c1, xs, e3 Dl _ c3, c4.kp (hid_mono e3)⟩
theorem filter_snoc_yes {f : α → Bool} {d : List α} {a : α} {gm : α → β} (h : f a = true) : ((d ++ [a]).filter f).map gm = (d.filter f).map gm ++ [gm a] := by
  rw [List.filter_append, List.map_append, List.filter_cons, if_pos h] <;> rfl
theorem filter_snoc_no {f : α → Bool} {d : List α} {a : α} {gm : α → β} (h : f a = false) : ((d ++ [a]).filter f).map gm = (d.filter f).map gm := by
  rw [List.filter_append, List.map_append, List.filter_cons, if_neg (by rw [h]; decide)]
  show _ ++ [] = _
  rw [List.append_nil]
theorem cm_end [k : ∀ b, Kp (S b)] {H1 H' : Hp} {Dl : Addr} {bs : List β} (c : Cm S H1 Dl bs H') : Ex H1 H' ∧ rL S bs (.ref Dl) H' := by
  obtain ⟨c1, c2, xs, c3, c4⟩ := c
  exact ⟨c2.trans hid_ex, Dl, xs, rfl, c3, c4.kp hid_ex⟩
theorem ewn_lcT {T : α → L2.St → L2.St → Hp → Prop} [kr : ∀ a, Kp (R a)] [k : ∀ b, Kp (S b)] [sh : ∀ b, Sh0 (S b)] {tt : TT} {vs : List Nat} {as : List α} (f : α → Bool) (gm : α → β) (hg : Tg g R T) (h : Ew tl σ H (rT R as)) (hz : as.length < 10000)
    (hw : ∀ a σ' H', T a (wipe σ vs) σ' H' → wipe σ' vs = wipe σ vs) (ht : ∀ a ∈ as, ∀ σ' H1, Ex H H1 → T a (wipe σ vs) σ' H1 → EvT tt σ' H1 (f a))
    (he : ∀ a ∈ as, f a = true → ∀ σ' H1, Ex H H1 → T a (wipe σ vs) σ' H1 → Ew te σ' H1 (S (gm a))) :
    Ewn (tLc (iTup K tl) g tt te vs) σ H (rL S ((as.filter f).map gm)) := fun H0 e Q q => h H0 e _ fun v H1 e1 ⟨p, xs, h1, h2, h3⟩ => ⟨p, h1, ⟨xs, SqT.of h2⟩, fun Dl hD =>
  lc_tup (xs := xs) (fun i H' => Cm S H1 Dl (((as.take i).filter f).map gm) H') ⟨hD, ex_hid (Ex.new hD) hD, [], upd_same, by rw [List.take_zero]; exact .nil⟩
    (fun i H' hi c => SqT.of ((c.2.1.trans hid_ex) p _ h2))
    (fun i x H' hx c => by
      obtain ⟨a, ha, hr⟩ := h3.getV hx
      have hm : a ∈ as := List.mem_of_getElem? ha
      have et : as.take (i + 1) = as.take i ++ [a] := by rw [List.take_add_one, ha]; rfl
      obtain ⟨σ2, hT, hgo⟩ := hg a x (wipe σ vs) H1 hr
      refine hgo H' _ (c.2.1.trans hid_ex) ⟨hw a σ2 H1 hT, cm_turn c ?_ (ht a hm σ2 H1 (e.trans e1) hT) (fun hf => he a hm hf σ2 H1 (e.trans e1) hT) (fun hf H2 c2 => ?_) fun hf H2 c2 => ?_⟩
      · rw [List.length_map]
        have l1 := List.length_filter_le f (as.take i)
        have l2 : (as.take i).length ≤ as.length := by rw [List.length_take]; exact Nat.min_le_right _ _
        omega
      · rw [et, filter_snoc_yes hf]
        exact c2
      · rw [et, filter_snoc_no hf]
        exact c2)
    (fun H' c => by
      rw [← h3.len, List.take_length] at c
      obtain ⟨z1, z2⟩ := cm_end c
      exact q Dl H' (fresh_back e1 hD) (e1.trans z1) z2)⟩
end
end Am
/-! The text: where each def stands, what a def's promise is. Printed by gentxt.py. -/
namespace Am
open PySem PySem.Spec PyProof.Rows L2 Evl
def top (i : Nat) : Stmt := PySem.Challenge.pw_arrowfind_k15_whole_parted_or_open.main.body.getD i (.Pass ⟨0, 0, 0, 0⟩)
/-- the def st stands at the name x -/
structure At (K : PySem.W.Frag) (mg : Str → Option Value) (x : Str) (st : Stmt) (ps : List Str) : Prop where
  ex : ∃ fd, FunD K x x (defArgs st) (defBody st) (defScope st) [] [] (He.ga K x) fd ∧ Binds K fd ps []
  g : mg x = some (.ref (He.ga K x))
/-- the def at the name x keeps the promise sp -/
def OkD (P : Program) (w : World) (K : PySem.W.Frag) (mg : Str → Option Value) (base : Heap) (k : Nat) (x : Str) (ps : List Str) (sp : Sp) : Prop :=
  ∃ fd, FnOk P w K mg base CX0 k (He.ga K x) fd ps sp ∧ mg x = some (.ref (He.ga K x)) ∧ PySem.W.keepIn K (.ref (He.ga K x)) = true ∧ Binds K fd ps []
section
variable {P : Program} {w : World} {K : PySem.W.Frag} {mg : Str → Option Value} {base : Heap} {x : Str} {st : Stmt} {N ps : List Str} {k : Nat} {sp : Sp}
theorem At.ok (A : At K mg x st ps) (S : FnScope N ps (defScope st)) (len : ∀ vs H Q E, sp vs H Q E → vs.length = ps.length)
    (hbody : ∀ (cdv : Value) (A : Around) (outer : List Env) (s : Shared) (H : Hp) (vs : List V) (Q : VK) (E : XK), Room k (A.deeper (envOfC x (defScope st) s.heap.objs.size (He.ga K x) cdv)) → sp vs H Q E →
      ∃ t, PSs (cxOf CX0 P w K mg base N x (defScope st) (He.ga K x) cdv A outer s H E).nox (defBody st) t ∧ t { nx := fun _ H' => Q .non H', rt := Q } (start N vs) H) : OkD P w K mg base (k + 1) x ps sp := by
  obtain ⟨fd, F, b⟩ := A.ex
  refine ⟨fd, F.ok (CX := CX0) S len fun cdv A outer s H vs Q E hr h => ?_, A.g, F.kp, b⟩
  obtain ⟨t, h1, h2⟩ := hbody cdv A outer s H vs Q E hr h
  exact ⟨t, h1.nox, h2⟩
theorem OkD.mono {j : Nat} (G : OkD P w K mg base k x ps sp) (h : k ≤ j) : OkD P w K mg base j x ps sp := by
  obtain ⟨fd, F, g, kp, b⟩ := G
  exact ⟨fd, F.mono h, g, kp, b⟩
end
theorem pe_callD {X : Cx} {x : Str} {ps : List Str} {sp : Sp} {k j : Nat} {e : Expr} {es : List Expr} {t : TA} {p pos : Pos} (G : OkD X.prog X.w X.K X.mg X.base k x ps sp) (hr : Room j X.A) (ha : PA X (e :: es) t) (hj : k ≤ j := by decide) (hg : Gl X x := by rfl) (hp : Passes CX0 X (fun _ _ _ => False) := by exact pass0)
    (hdb : (x == ("__debug__" : Str)) = false := by decide) (he : starEach (e :: es) X.env = (false, eval e X.env) :: starEach es X.env := by rfl) (hpl : (backTo pos (starEach es X.env)).any (·.1) = false := by rfl) : PE X (.Call (.Name x p) (e :: es) [] pos) (tCall sp [] (fun _ _ _ => False) t) := by
  obtain ⟨fd, F, g, kp, b⟩ := G
  exact pe_call F (hr.mono hj) hg g kp b .nil hp ha hdb he hpl
/-- all defs of the text, the built-in names -/
structure Txt (K : PySem.W.Frag) (mg : Str → Option Value) : Prop where
  d_look_for : At K mg "look_for" (top 5) ["names", "some"]
  d_look_once : At K mg "look_once" (top 6) ["some"]
  d_in_order : At K mg "in_order" (top 7) ["names", "some"]
  d_elders_of : At K mg "elders_of" (top 8) ["net", "name"]
  d_heirs_of : At K mg "heirs_of" (top 9) ["net", "name"]
  d_spread_along : At K mg "spread_along" (top 10) ["arrows", "name"]
  d_names_below : At K mg "names_below" (top 11) ["net", "name"]
  d_names_above : At K mg "names_above" (top 12) ["net", "name"]
  d_look_at_asked : At K mg "look_at_asked" (top 14) ["names", "one", "other", "held"]
  d_ties_at : At K mg "ties_at" (top 15) ["net"]
  d_roads_on : At K mg "roads_on" (top 16) ["near", "road", "other"]
  d_all_roads : At K mg "all_roads" (top 17) ["net", "one", "other"]
  d_meetings_of : At K mg "meetings_of" (top 18) ["net", "road"]
  d_has_below : At K mg "has_below" (top 19) ["net", "name", "held"]
  d_is_open : At K mg "is_open" (top 20) ["net", "road", "held"]
  d_above_all : At K mg "above_all" (top 22) ["net", "held"]
  d_next_spots : At K mg "next_spots" (top 23) ["net", "ready", "held", "spot"]
  d_spots_met : At K mg "spots_met" (top 24) ["net", "one", "held"]
  d_reach_of : At K mg "reach_of" (top 25) ["net", "one", "held"]
  d_are_parted : At K mg "are_parted" (top 26) ["net", "one", "other", "held"]
  d_may_go_on : At K mg "may_go_on" (top 27) ["net", "ready", "held", "road", "name"]
  d_open_on : At K mg "open_on" (top 28) ["net", "asked", "road"]
  d_down_from : At K mg "down_from" (top 29) ["net", "name", "held"]
  d_open_road : At K mg "open_road" (top 30) ["net", "one", "other", "held"]
  d__law_draws : At K mg "_law_draws" (top 32) ["_law_script"]
  d__law_words : At K mg "_law_words" (top 33) ["_law_cell", "_law_many"]
  d__law_names : At K mg "_law_names" (top 34) ["_law_draws_here", "_law_many"]
  d__law_ranks : At K mg "_law_ranks" (top 35) ["_law_draw", "_law_many"]
  d__law_net : At K mg "_law_net" (top 36) ["_law_draws_here", "_law_least", "_law_most"]
  d__law_asked : At K mg "_law_asked" (top 37) ["_law_net_here", "_law_draw"]
  d__law_tied : At K mg "_law_tied" (top 38) ["_law_net_here", "_law_one", "_law_other"]
  d__law_roads : At K mg "_law_roads" (top 39) ["_law_net_here", "_law_one", "_law_other"]
  d__law_spread : At K mg "_law_spread" (top 40) ["_law_arrows", "_law_name"]
  d__law_below : At K mg "_law_below" (top 41) ["_law_net_here", "_law_name"]
  d__law_meets : At K mg "_law_meets" (top 42) ["_law_net_here", "_law_road_here", "_law_k"]
  d__law_is_open : At K mg "_law_is_open" (top 43) ["_law_net_here", "_law_road_here", "_law_held"]
  d__law_down : At K mg "_law_down" (top 44) ["_law_net_here", "_law_down_here", "_law_first", "_law_held"]
  d__law_road : At K mg "_law_road" (top 45) ["_law_net_here", "_law_road_here", "_law_one", "_law_other"]
  d__law_open_told : At K mg "_law_open_told" (top 46) ["_law_net_here", "_law_found", "_law_one", "_law_other", "_law_held"]
  d__law_reached : At K mg "_law_reached" (top 47) ["_law_net_here", "_law_one", "_law_other", "_law_held"]
  d__law_told : At K mg "_law_told" (top 48) ["_law_net_here", "_law_one", "_law_other", "_law_held", "_law_way"]
  d__law_holds : At K mg "_law_holds" (top 49) ["_law_net_here", "_law_one", "_law_other", "_law_held", "_law_way"]
  d__law_question : At K mg "_law_question" (top 50) ["_law_net_here", "_law_draw"]
  d_law : At K mg "law" (top 51) ["_law_script"]
  b_bool : mg "bool" = none
  b_enumerate : mg "enumerate" = none
  b_int : mg "int" = none
  b_isinstance : mg "isinstance" = none
  b_len : mg "len" = none
  b_list : mg "list" = none
  b_max : mg "max" = none
  b_min : mg "min" = none
  b_range : mg "range" = none
  b_set : mg "set" = none
  b_str : mg "str" = none
  b_tuple : mg "tuple" = none
  b_zip : mg "zip" = none
end Am
/-! Rules by short names, calls by their arguments, promises. -/
namespace Am
open PySem PySem.Spec PyProof.Rows L2 Evl
theorem _root_.L2.Room.u65 {k : Nat} {A : Around} (r : Room k A) : A.units + 65 < cLine := by have := r.un; omega
section
variable {X : Cx}
theorem cl_len : CallR X (.builtin "len") (rLenS X.K) := call_len_seq
theorem cl_list : CallR X (.type "list") (rListS X.K) := call_list_of
theorem cl_tuple : CallR X (.type "tuple") (rTupS X.K) := call_tuple_of
end
section
variable {X : Cx}
theorem kx_list (K : PySem.W.Frag) (h : X.K = K := by rfl) : IxR X (rIxL K) := by subst h; exact ix_list
theorem kx_tup (K : PySem.W.Frag) (h : X.K = K := by rfl) : IxR X (rIxT K) := by subst h; exact ix_tup
theorem k_in (K : PySem.W.Frag) (h : X.K = K := by rfl) : OpR X (compareOp .In) (rIn K false) := by subst h; exact op_in_seq
theorem k_notIn (K : PySem.W.Frag) (h : X.K = K := by rfl) : OpR X (compareOp .NotIn) (rIn K true) := by subst h; exact op_notIn_seq
theorem k_sl (K : PySem.W.Frag) (h : X.K = K := by rfl) : SlR X (rSlL K) := by subst h; exact sl_list
theorem k_len (K : PySem.W.Frag) (h : X.K = K := by rfl) : CallR X (.builtin "len") (rLenS K) := by subst h; exact call_len_seq
theorem k_list (K : PySem.W.Frag) (h : X.K = K := by rfl) : CallR X (.type "list") (rListS K) := by subst h; exact call_list_of
theorem k_tuple (K : PySem.W.Frag) (h : X.K = K := by rfl) : CallR X (.type "tuple") (rTupS K) := by subst h; exact call_tuple_of
theorem k_isi (K : PySem.W.Frag) (h : X.K = K := by rfl) : CallR X (.builtin "isinstance") (rIsi K) := by subst h; exact call_isi
theorem kg_tup (K : PySem.W.Frag) (n : Nat) {es : List Expr} {k : Nat} {t : TGs} {pos : Pos} (hc : X.calm = true) (h : PGs X es t) (hK : X.K = K := by rfl)
    (hn : (assignEach es X.env).length = n := by rfl) (hst : (assignEach es X.env).findIdx? (·.1) = none := by rfl) : PG X (.Tuple es k pos) (gTup K n t) := by subst hK; exact pg_tup hc h hn hst
theorem kp_list (K : PySem.W.Frag) {tg l : Expr} {tl : TE} (hl : PE X l tl) (h : X.K = K := by rfl) : PI X tg l (iList K tl) := by subst h; exact pi_list hl
theorem kp_tup (K : PySem.W.Frag) {tg l : Expr} {tl : TE} (hl : PE X l tl) (h : X.K = K := by rfl) : PI X tg l (iTup K tl) := by subst h; exact pi_tup hl
end
/-- a promise's ways out -/
abbrev Ret (P : VP) (H : Hp) (Q : VK) : Prop := ∀ v H', Ex H H' → P v H' → Q v H'
abbrev RetN (P : VP) (H : Hp) (Q : VK) : Prop := ∀ p H', H p = none → Ex H H' → P (.ref p) H' → Q (.ref p) H'
section
variable {α β : Type} {R : Rep α} {S : Rep β} {K : PySem.W.Frag} {σ : L2.St} {H H' : Hp} {t0 t1 t2 t3 t4 ta tb te : TE} {P P0 P1 P2 P3 P4 : VP} {sp : Sp} {E : XK}
theorem ew_call1 [Kp P0] (h0 : Ew t0 σ H P0) (hs : ∀ v0 H1, Ex H H1 → P0 v0 H1 → Gives sp [v0] H1 P) : Ew (tCall sp [] E (tCons t0 tNil)) σ H P :=
  ew_call (ewa_cons h0 ewa_nil) fun vs H1 e ⟨v0, r, e0, p0, er⟩ => by
    have er' : r = [] := er
    subst e0 er'
    exact hs v0 H1 e p0
theorem ew_call2 [Kp P0] [Kp P1] (h0 : Ew t0 σ H P0) (h1 : Ew t1 σ H P1) (hs : ∀ v0 v1 H1, Ex H H1 → P0 v0 H1 → P1 v1 H1 → Gives sp [v0, v1] H1 P) : Ew (tCall sp [] E (tCons t0 (tCons t1 tNil))) σ H P :=
  ew_call (ewa_cons h0 (ewa_cons h1 ewa_nil)) fun vs H1 e ⟨v0, r, e0, p0, v1, r1, e1, p1, er⟩ => by
    have er' : r1 = [] := er
    subst e0 e1 er'
    exact hs v0 v1 H1 e p0 p1
theorem ew_call3 [Kp P0] [Kp P1] [Kp P2] (h0 : Ew t0 σ H P0) (h1 : Ew t1 σ H P1) (h2 : Ew t2 σ H P2) (hs : ∀ v0 v1 v2 H1, Ex H H1 → P0 v0 H1 → P1 v1 H1 → P2 v2 H1 → Gives sp [v0, v1, v2] H1 P) :
    Ew (tCall sp [] E (tCons t0 (tCons t1 (tCons t2 tNil)))) σ H P :=
  ew_call (ewa_cons h0 (ewa_cons h1 (ewa_cons h2 ewa_nil))) fun vs H1 e ⟨v0, r, e0, p0, v1, r1, e1, p1, v2, r2, e2, p2, er⟩ => by
    have er' : r2 = [] := er
    subst e0 e1 e2 er'
    exact hs v0 v1 v2 H1 e p0 p1 p2
theorem ew_call4 [Kp P0] [Kp P1] [Kp P2] [Kp P3] (h0 : Ew t0 σ H P0) (h1 : Ew t1 σ H P1) (h2 : Ew t2 σ H P2) (h3 : Ew t3 σ H P3) (hs : ∀ v0 v1 v2 v3 H1, Ex H H1 → P0 v0 H1 → P1 v1 H1 → P2 v2 H1 → P3 v3 H1 → Gives sp [v0, v1, v2, v3] H1 P) :
    Ew (tCall sp [] E (tCons t0 (tCons t1 (tCons t2 (tCons t3 tNil))))) σ H P :=
  ew_call (ewa_cons h0 (ewa_cons h1 (ewa_cons h2 (ewa_cons h3 ewa_nil)))) fun vs H1 e ⟨v0, r, e0, p0, v1, r1, e1, p1, v2, r2, e2, p2, v3, r3, e3, p3, er⟩ => by
    have er' : r3 = [] := er
    subst e0 e1 e2 e3 er'
    exact hs v0 v1 v2 v3 H1 e p0 p1 p2 p3
theorem ew_call5 [Kp P0] [Kp P1] [Kp P2] [Kp P3] [Kp P4] (h0 : Ew t0 σ H P0) (h1 : Ew t1 σ H P1) (h2 : Ew t2 σ H P2) (h3 : Ew t3 σ H P3) (h4 : Ew t4 σ H P4) (hs : ∀ v0 v1 v2 v3 v4 H1, Ex H H1 → P0 v0 H1 → P1 v1 H1 → P2 v2 H1 → P3 v3 H1 → P4 v4 H1 → Gives sp [v0, v1, v2, v3, v4] H1 P) :
    Ew (tCall sp [] E (tCons t0 (tCons t1 (tCons t2 (tCons t3 (tCons t4 tNil)))))) σ H P :=
  ew_call (ewa_cons h0 (ewa_cons h1 (ewa_cons h2 (ewa_cons h3 (ewa_cons h4 ewa_nil))))) fun vs H1 e ⟨v0, r, e0, p0, v1, r1, e1, p1, v2, r2, e2, p2, v3, r3, e3, p3, v4, r4, e4, p4, er⟩ => by
    have er' : r4 = [] := er
    subst e0 e1 e2 e3 e4 er'
    exact hs v0 v1 v2 v3 v4 H1 e p0 p1 p2 p3 p4
theorem ewn_call2 [Kp P0] [Kp P1] (h0 : Ew t0 σ H P0) (h1 : Ew t1 σ H P1) (hs : ∀ v0 v1 H1, Ex H H1 → P0 v0 H1 → P1 v1 H1 → GivesN sp [v0, v1] H1 P) : Ewn (tCall sp [] E (tCons t0 (tCons t1 tNil))) σ H P :=
  ewn_call (ewa_cons h0 (ewa_cons h1 ewa_nil)) fun vs H1 e ⟨v0, r, e0, p0, v1, r1, e1, p1, er⟩ => by
    have er' : r1 = [] := er
    subst e0 e1 er'
    exact hs v0 v1 H1 e p0 p1
theorem ewn_call3 [Kp P0] [Kp P1] [Kp P2] (h0 : Ew t0 σ H P0) (h1 : Ew t1 σ H P1) (h2 : Ew t2 σ H P2) (hs : ∀ v0 v1 v2 H1, Ex H H1 → P0 v0 H1 → P1 v1 H1 → P2 v2 H1 → GivesN sp [v0, v1, v2] H1 P) :
    Ewn (tCall sp [] E (tCons t0 (tCons t1 (tCons t2 tNil)))) σ H P :=
  ewn_call (ewa_cons h0 (ewa_cons h1 (ewa_cons h2 ewa_nil))) fun vs H1 e ⟨v0, r, e0, p0, v1, r1, e1, p1, v2, r2, e2, p2, er⟩ => by
    have er' : r2 = [] := er
    subst e0 e1 e2 er'
    exact hs v0 v1 v2 H1 e p0 p1 p2
end
end Am
/-! Loops over enumerate, zip, range; ranges in comprehensions; dicts of texts. -/
namespace Am
open PySem PySem.Spec PyProof.Rows L2 Evl
section
variable {α β : Type} {R : Rep α} {S : Rep β} {K : PySem.W.Frag} {σ : L2.St} {H H' : Hp} {ta tb te tl : TE} {t u : TT} {P P' : VP} {v : V} {D : Ends} {tu tw tz : TS} {g : TG}
/-- a name whose telling does not look at the heap -/
theorem ew_vF {i : Nat} {H0 : Hp} [f : Fl P] (h : σ[i]? = some (some v)) (hp : P v H0) : Ew (tVar i) σ H P := fun H1 e Q q => ⟨v, h, q v H1 (Ex.refl H1) (f.fl hp)⟩
/-- some a with C a, told by R -/
def rSome (C : α → Prop) (R : Rep α) : VP := fun v H => ∃ a, C a ∧ R a v H
instance {C : α → Prop} {R : Rep α} [k : ∀ a, Kp (R a)] : Kp (rSome C R) := ⟨fun e ⟨a, c, h⟩ => ⟨a, c, (k a).kp e h⟩⟩
instance {C : α → Prop} {R : Rep α} [k : ∀ a, Sh1 (R a)] : Sh1 (rSome C R) := ⟨fun ⟨a, c, h⟩ n => ⟨a, c, (k a).sh h n⟩⟩
/-- for i, x in enumerate(xs) -/
theorem w_enum [k : ∀ a, Kp (R a)] {as : List α} {i j : Nat} (h : Ew tl σ H (rL R as)) 
    (go : ∀ v H1, Ex H H1 → rL R as v H1 → ∃ (Hs : Hp) (W : List α → List α → L2.St → Hp → Prop), rL R as v Hs ∧ W [] as σ H1 ∧ (∀ d t σ' H', W d t σ' H' → Ex Hs H') ∧
      (∀ d a t σ' H' x H2, d ++ a :: t = as → W d (a :: t) σ' H' → Ex H' H2 → R a x H2 → tu { D with nx := W (d ++ [a]) t, ct := W (d ++ [a]) t, bk := D.nx } ((σ'.set i (some (.int (d.length : Int)))).set j (some x)) H2) ∧ ∀ σ' H', W as [] σ' H' → D.nx σ' H') :
    tFor (iEnum K (tCons tl tNil)) (gTup K 2 (gCons (gName i) (gCons (gName j) gNil))) tu D σ H :=
  h H (Ex.refl H) _ fun v H1 e1 hv => by
    obtain ⟨p, xs0, hp0, h20, h30⟩ := id hv
    obtain ⟨Hs, W, hs, w0, wk, ws, wd⟩ := go v H1 e1 hv
    obtain ⟨p', xs, hp, h2, h3⟩ := hs
    subst hp0
    have ep : p = p' := V.ref.inj hp
    subst ep
    have hl := h3.len
    refine ⟨p, xs0, rfl, SqL.of h20, fun i' m σ' H' => m = as.length - i' ∧ i' ≤ as.length ∧ W (as.take i') (as.drop i') σ' H', ⟨as.length, by simp, Nat.zero_le _, ?_⟩, ?_⟩
    · rw [List.take_zero, List.drop_zero]
      exact w0
    · rintro i' m σ' H' ⟨rfl, hi, w'⟩
      have q := SqL.of (K := K) (wk _ _ _ _ w' p _ h2)
      by_cases hlt : i' < as.length
      · have hlt2 : i' < xs.length := by omega
        refine .inr ⟨⟨xs, xs[i'], q, by simp [hlt2]⟩, fun σ2 H2 => W (as.take (i' + 1)) (as.drop (i' + 1)) σ2 H2, fun σ2 H2 w2 => ⟨as.length - (i' + 1), by omega, rfl, hlt, w2⟩, fun v' H2 y => ?_⟩
        obtain ⟨T, x, rfl, hT, rfl, f1⟩ := y
        obtain ⟨a, ha, hr⟩ := h3.getV (f1 xs q)
        obtain ⟨hi2, ea⟩ := List.getElem?_eq_some_iff.mp ha
        have ed : as.drop i' = a :: as.drop (i' + 1) := by rw [List.drop_eq_getElem_cons hi2, ea]
        have et : as.take (i' + 1) = as.take i' ++ [a] := by rw [List.take_add_one, ha]; rfl
        rw [ed] at w'
        have el : (as.take i').length = i' := by rw [List.length_take]; exact Nat.min_eq_left hi
        have z := ws (as.take i') a (as.drop (i' + 1)) σ' H' x (upd H' T (.tup [.int (i' : Int), x])) (by rw [← ed]; exact List.take_append_drop i' as) w' (Ex.new hT) ((k a).kp ((wk _ _ _ _ w').trans (Ex.new hT)) hr)
        rw [el] at z
        refine ⟨T, _, rfl, SqT.of upd_same, rfl, _, _, rfl, _, _, rfl, rfl, ?_⟩
        rw [et]
        exact z
      · have e : i' = as.length := by omega
        subst e
        refine .inl ⟨⟨xs, q, by omega⟩, ?_⟩
        rw [List.take_length, List.drop_length] at w'
        exact wd σ' H' w'
/-- what is known between two statements -/
theorem q_cutK (M : L2.St → Hp → Prop) (k : ∀ σ' H', M σ' H' → tz D σ' H') (h : (∀ σ' H', M σ' H' → tz D σ' H') → tSeq tu tz D σ H) : tSeq tu tz D σ H := h k
/-! ### what stands beside objects that change -/
def hds (ps : List Addr) (H : Hp) : Hp := fun a => if a ∈ ps then none else H a
theorem hds_ex {ps : List Addr} {H : Hp} : Ex (hds ps H) H := fun a o e => by
  unfold hds at e
  by_cases h : a ∈ ps
  · rw [if_pos h] at e; cases e
  · rw [if_neg h] at e; exact e
theorem hds_mono {ps : List Addr} {H H' : Hp} (x : Ex H H') : Ex (hds ps H) (hds ps H') := fun a o e => by
  unfold hds at e ⊢
  by_cases h : a ∈ ps
  · rw [if_pos h] at e; cases e
  · rw [if_neg h] at e ⊢; exact x a o e
theorem hds_upd {ps : List Addr} {a : Addr} {H : Hp} {o : HO} (h : a ∈ ps) : hds ps (upd H a o) = hds ps H := by
  funext b
  unfold hds
  by_cases g : b ∈ ps
  · rw [if_pos g, if_pos g]
  · rw [if_neg g, if_neg g, upd_ne (fun z => g (by rw [z]; exact h))]
theorem ex_hds {ps : List Addr} {H H' : Hp} (e : Ex H H') (n : ∀ a ∈ ps, H a = none) : Ex H (hds ps H') := fun a o h => by
  unfold hds
  rw [if_neg (fun z => by rw [n a z] at h; cases h)]
  exact e a o h
theorem hds_at {ps : List Addr} {a : Addr} {H : Hp} (h : a ∈ ps) : hds ps H a = none := by unfold hds; rw [if_pos h]
theorem hds_ne {ps : List Addr} {a : Addr} {H : Hp} (h : a ∉ ps) : hds ps H a = H a := by unfold hds; rw [if_neg h]
/-- one step: the heap grows, objects at ps may change -/
abbrev Stp (ps : List Addr) (H H' : Hp) : Prop := Ex (hds ps H) (hds ps H')
theorem stp_ex {ps : List Addr} {H H' : Hp} (e : Ex H H') : Stp ps H H' := hds_mono e
theorem stp_upd {ps : List Addr} {a : Addr} {H : Hp} {o : HO} (h : a ∈ ps) : Stp ps H (upd H a o) := by
  show Ex (hds ps H) (hds ps (upd H a o))
  rw [hds_upd h]
  exact Ex.refl _
/-- x = xs.pop() -/
theorem q_pop {l : Addr} {xs : List V} {y : V} {i : Nat} (hl : H l = some (.lst (xs ++ [y]))) (ha : Ev ta σ H (.ref l)) (go : ∀ H1, Ex H H1 → tz D (σ.set i (some y)) (upd H1 l (.lst xs))) :
    tSeq (tAsg (tBM0 K "list" rPop ta) (gName i)) tz D σ H := ha H (Ex.refl H) _ fun H1 e1 =>
  ⟨Or.inl ⟨rfl, _, sq_of (e1 l _ hl)⟩, l, xs ++ [y], y, rfl, rfl, e1 l _ hl, by simp, by
    rw [List.dropLast_concat]
    exact go H1 e1⟩
/-- over a new list, with what else is known of it -/
theorem w_forLp {T : α → L2.St → L2.St → Hp → Prop} [k : ∀ a, Kp (R a)] {as : List α} {P' : VP} (hg : Tg g R T) (h : Ew tl σ H P') (hi : ∀ v H, P' v H → rL R as v H)
    (go : ∀ v H1, Ex H H1 → P' v H1 → ∃ (Hs : Hp) (W : List α → List α → L2.St → Hp → Prop), rL R as v Hs ∧ W [] as σ H1 ∧ (∀ d t σ' H', W d t σ' H' → Ex Hs H') ∧
      (∀ d a t σ' σ2 H', d ++ a :: t = as → W d (a :: t) σ' H' → T a σ' σ2 H' → tu { D with nx := W (d ++ [a]) t, ct := W (d ++ [a]) t, bk := D.nx } σ2 H') ∧ ∀ σ' H', W as [] σ' H' → D.nx σ' H') : tFor (iList K tl) g tu D σ H :=
  h H (Ex.refl H) _ fun v H1 e1 hv => by
    obtain ⟨Hs, W, hs, w0, wk, ws, wd⟩ := go v H1 e1 hv
    obtain ⟨p, xs, hp, h2, h3⟩ := hs
    subst hp
    have hl := h3.len
    refine ⟨p, rfl, ⟨xs, SqL.of (wk _ _ _ _ w0 p _ h2)⟩, for_list (xs := xs) (fun i σ' H' => W (as.take i) (as.drop i) σ' H') ?_ (fun i σ' H' hi w => SqL.of (wk _ _ _ _ w p _ h2)) (fun i x σ' H' hx w => ?_) fun σ' H' w => ?_⟩
    · rw [List.take_zero, List.drop_zero]
      exact w0
    · obtain ⟨a, ha, hr⟩ := h3.getV hx
      obtain ⟨hi, ea⟩ := List.getElem?_eq_some_iff.mp ha
      have ed : as.drop i = a :: as.drop (i + 1) := by rw [List.drop_eq_getElem_cons hi, ea]
      have et : as.take (i + 1) = as.take i ++ [a] := by rw [List.take_add_one, ha]; rfl
      rw [ed] at w
      obtain ⟨σ2, hT, hgo⟩ := hg a x σ' H' ((k a).kp (wk _ _ _ _ w) hr)
      refine hgo H' _ (Ex.refl H') ?_
      rw [et]
      exact ws (as.take i) a (as.drop (i + 1)) σ' σ2 H' (by rw [← ed]; exact List.take_append_drop i as) w hT
    · rw [← hl, List.take_length, List.drop_length] at w
      exact wd σ' H' w
theorem w_forTv {T : α → L2.St → L2.St → Hp → Prop} [k : ∀ a, Kp (R a)] {as : List α} {v : V} {Hs : Hp} (hg : Tg g R T) (h : Ev tl σ H v) (hs : rT R as v Hs) (W : List α → List α → L2.St → Hp → Prop) (w0 : ∀ H1, Ex H H1 → W [] as σ H1) (wk : ∀ d t σ' H', W d t σ' H' → Ex Hs H')
    (ws : ∀ d a t σ' σ2 H', d ++ a :: t = as → W d (a :: t) σ' H' → T a σ' σ2 H' → tu { D with nx := W (d ++ [a]) t, ct := W (d ++ [a]) t, bk := D.nx } σ2 H') (wd : ∀ σ' H', W as [] σ' H' → D.nx σ' H') : tFor (iTup K tl) g tu D σ H :=
  h H (Ex.refl H) _ fun H1 e1 => by
    obtain ⟨p, xs, hp, h2, h3⟩ := hs
    subst hp
    have hl := h3.len
    refine ⟨p, rfl, ⟨xs, SqT.of (wk _ _ _ _ (w0 H1 e1) p _ h2)⟩, for_tup (xs := xs) (fun i σ' H' => W (as.take i) (as.drop i) σ' H') ?_ (fun i σ' H' hi w => SqT.of (wk _ _ _ _ w p _ h2)) (fun i x σ' H' hx w => ?_) fun σ' H' w => ?_⟩
    · rw [List.take_zero, List.drop_zero]
      exact w0 H1 e1
    · obtain ⟨a, ha, hr⟩ := h3.getV hx
      obtain ⟨hi, ea⟩ := List.getElem?_eq_some_iff.mp ha
      have ed : as.drop i = a :: as.drop (i + 1) := by rw [List.drop_eq_getElem_cons hi, ea]
      have et : as.take (i + 1) = as.take i ++ [a] := by rw [List.take_add_one, ha]; rfl
      rw [ed] at w
      obtain ⟨σ2, hT, hgo⟩ := hg a x σ' H' ((k a).kp (wk _ _ _ _ w) hr)
      refine hgo H' _ (Ex.refl H') ?_
      rw [et]
      exact ws (as.take i) a (as.drop (i + 1)) σ' σ2 H' (by rw [← ed]; exact List.take_append_drop i as) w hT
    · rw [← hl, List.take_length, List.drop_length] at w
      exact wd σ' H' w
theorem w_forLv {T : α → L2.St → L2.St → Hp → Prop} [k : ∀ a, Kp (R a)] {as : List α} {v : V} {Hs : Hp} (hg : Tg g R T) (h : Ev tl σ H v) (hs : rL R as v Hs) (W : List α → List α → L2.St → Hp → Prop) (w0 : ∀ H1, Ex H H1 → W [] as σ H1) (wk : ∀ d t σ' H', W d t σ' H' → Ex Hs H')
    (ws : ∀ d a t σ' σ2 H', d ++ a :: t = as → W d (a :: t) σ' H' → T a σ' σ2 H' → tu { D with nx := W (d ++ [a]) t, ct := W (d ++ [a]) t, bk := D.nx } σ2 H') (wd : ∀ σ' H', W as [] σ' H' → D.nx σ' H') : tFor (iList K tl) g tu D σ H :=
  h H (Ex.refl H) _ fun H1 e1 => by
    obtain ⟨p, xs, hp, h2, h3⟩ := hs
    subst hp
    have hl := h3.len
    refine ⟨p, rfl, ⟨xs, SqL.of (wk _ _ _ _ (w0 H1 e1) p _ h2)⟩, for_list (xs := xs) (fun i σ' H' => W (as.take i) (as.drop i) σ' H') ?_ (fun i σ' H' hi w => SqL.of (wk _ _ _ _ w p _ h2)) (fun i x σ' H' hx w => ?_) fun σ' H' w => ?_⟩
    · rw [List.take_zero, List.drop_zero]
      exact w0 H1 e1
    · obtain ⟨a, ha, hr⟩ := h3.getV hx
      obtain ⟨hi, ea⟩ := List.getElem?_eq_some_iff.mp ha
      have ed : as.drop i = a :: as.drop (i + 1) := by rw [List.drop_eq_getElem_cons hi, ea]
      have et : as.take (i + 1) = as.take i ++ [a] := by rw [List.take_add_one, ha]; rfl
      rw [ed] at w
      obtain ⟨σ2, hT, hgo⟩ := hg a x σ' H' ((k a).kp (wk _ _ _ _ w) hr)
      refine hgo H' _ (Ex.refl H') ?_
      rw [et]
      exact ws (as.take i) a (as.drop (i + 1)) σ' σ2 H' (by rw [← ed]; exact List.take_append_drop i as) w hT
    · rw [← hl, List.take_length, List.drop_length] at w
      exact wd σ' H' w
theorem q_forTv {T : α → L2.St → L2.St → Hp → Prop} [k : ∀ a, Kp (R a)] {as : List α} {v : V} {Hs : Hp} (hg : Tg g R T) (h : Ev tl σ H v) (hs : rT R as v Hs) (W : List α → List α → L2.St → Hp → Prop) (w0 : ∀ H1, Ex H H1 → W [] as σ H1) (wk : ∀ d t σ' H', W d t σ' H' → Ex Hs H')
    (ws : ∀ d a t σ' σ2 H', d ++ a :: t = as → W d (a :: t) σ' H' → T a σ' σ2 H' → tu { D with nx := W (d ++ [a]) t, ct := W (d ++ [a]) t, bk := tz D } σ2 H') (wd : ∀ σ' H', W as [] σ' H' → tz D σ' H') : tSeq (tFor (iTup K tl) g tu) tz D σ H :=
  w_forTv (D := { D with nx := tz D }) hg h hs W w0 wk ws wd
theorem q_forLv {T : α → L2.St → L2.St → Hp → Prop} [k : ∀ a, Kp (R a)] {as : List α} {v : V} {Hs : Hp} (hg : Tg g R T) (h : Ev tl σ H v) (hs : rL R as v Hs) (W : List α → List α → L2.St → Hp → Prop) (w0 : ∀ H1, Ex H H1 → W [] as σ H1) (wk : ∀ d t σ' H', W d t σ' H' → Ex Hs H')
    (ws : ∀ d a t σ' σ2 H', d ++ a :: t = as → W d (a :: t) σ' H' → T a σ' σ2 H' → tu { D with nx := W (d ++ [a]) t, ct := W (d ++ [a]) t, bk := tz D } σ2 H') (wd : ∀ σ' H', W as [] σ' H' → tz D σ' H') : tSeq (tFor (iList K tl) g tu) tz D σ H :=
  w_forLv (D := { D with nx := tz D }) hg h hs W w0 wk ws wd
theorem hds_cons {p : Addr} {ps : List Addr} {H : Hp} : hds (p :: ps) H = hid p (hds ps H) := by
  funext a
  unfold hds hid
  by_cases h : a = p
  · rw [if_pos (by simp [h]), if_pos h]
  · rw [if_neg h]
    by_cases g : a ∈ ps
    · rw [if_pos (by simp [g])]
      exact (if_pos g).symm
    · rw [if_neg (by simp [h, g])]
      exact (if_neg g).symm
theorem LstAt.hds {ps : List Addr} {H : Hp} {a : Addr} (h : LstAt H a) (n : a ∉ ps) : LstAt (Am.hds ps H) a := by
  rcases h with ⟨x, h⟩ | ⟨x, h⟩ | ⟨x, h⟩
  · exact .inl ⟨x, by rw [hds_ne n]; exact h⟩
  · exact .inr (.inl ⟨x, by rw [hds_ne n]; exact h⟩)
  · exact .inr (.inr ⟨x, by rw [hds_ne n]; exact h⟩)
theorem sh0_hds {P : VP} [s : Sh0 P] {v : V} {H : Hp} : ∀ {ps : List Addr}, P v H → (∀ a ∈ ps, LstAt H a) → ps.Nodup → P v (hds ps H)
  | [], h, _, _ => by
    have : hds [] H = H := by funext a; unfold hds; rw [if_neg (by simp)]
    rw [this]
    exact h
  | p :: ps, h, hl, hn => by
    rw [hds_cons]
    have hn' := List.nodup_cons.mp hn
    exact s.sh (sh0_hds h (fun a ha => hl a (List.mem_cons_of_mem _ ha)) hn'.2) ((hl p List.mem_cons_self).hds hn'.1)
theorem sh1_hds {P : VP} [s : Sh1 P] {v : V} {H : Hp} : ∀ {ps : List Addr}, P v H → (∀ a ∈ ps, v ≠ .ref a) → P v (hds ps H)
  | [], h, _ => by
    have : hds [] H = H := by funext a; unfold hds; rw [if_neg (by simp)]
    rw [this]
    exact h
  | p :: ps, h, hl => by
    rw [hds_cons]
    exact s.sh (sh1_hds h fun a ha => hl a (List.mem_cons_of_mem _ ha)) (hl p List.mem_cons_self)
theorem Al.hds [k : ∀ a, Sh0 (R a)] {ps : List Addr} (hl : ∀ a ∈ ps, LstAt H a) (hn : ps.Nodup) {as : List α} {xs : List V} (h : Al R as xs H) : Al R as xs (Am.hds ps H) := Paired.mapP h fun a _ q => sh0_hds q hl hn
theorem Al.unsnoc : ∀ {as : List α} {a : α} {xs : List V}, Al R (as ++ [a]) xs H → ∃ ys y, xs = ys ++ [y] ∧ Al R as ys H ∧ R a y H
  | [], _, _, .cons h .nil => ⟨[], _, rfl, .nil, h⟩
  | _ :: _, _, _, .cons h t => by
    obtain ⟨ys, y, rfl, h1, h2⟩ := Al.unsnoc t
    exact ⟨_ :: ys, y, rfl, .cons h h1, h2⟩
/-- xs.extend(ys) -/
theorem w_extend {l : Addr} {xs : List V} {as : List α} [k' : ∀ a, Kp (R a)] (hl : H l = some (.lst xs)) (ha : Ev ta σ H (.ref l)) (h : Ew te σ H (rL R as)) (hz : xs.length + as.length < 100000) (k : ∀ zs H1, Ex H H1 → Al R as zs H1 → D.nx σ (upd H1 l (.lst (xs ++ zs)))) :
    tDrop (tBM K "list" rExtend ta (tCons te tNil)) D σ H := ha H (Ex.refl H) _ fun H1 e1 =>
  ⟨Or.inl ⟨rfl, xs, sq_of (e1 l _ hl)⟩, h H1 e1 _ fun v H2 e2 ⟨b, zs, h1, h2, h3⟩ => ⟨l, b, xs, zs, rfl, by rw [h1], e2 l _ (e1 l _ hl), h2, by rw [← h3.len]; exact Nat.le_of_lt (Nat.lt_trans hz (by decide)), k zs H2 (e1.trans e2) h3⟩⟩
/-- x = xs.pop(j) -/
theorem q_popAt {l : Addr} {xs : List V} {y : V} {i j : Nat} (hl : H l = some (.lst xs)) (hj : xs[j]? = some y) (hz : xs.length < 100000) (ha : Ev ta σ H (.ref l)) (hi : Ew tb σ H (rInt (j : Int))) (go : ∀ H1, Ex H H1 → tz D (σ.set i (some y)) (upd H1 l (.lst (xs.eraseIdx j)))) :
    tSeq (tAsg (tBM K "list" rPopAt ta (tCons tb tNil)) (gName i)) tz D σ H := ha H (Ex.refl H) _ fun H1 e1 => ⟨Or.inl ⟨rfl, _, sq_of (e1 l _ hl)⟩, ev_int hi H1 e1 _ fun H2 e2 => by
    have hlt : j < xs.length := (List.getElem?_eq_some_iff.mp hj).1
    refine ⟨l, xs, (j : Int), j, y, rfl, rfl, (e1.trans e2) l _ hl, by omega, by omega, ?_, hj, go H2 (e1.trans e2)⟩
    rw [seqIndex_of (by omega) (by omega), Int.toNat_natCast]⟩
/-- x = [[e]] -/
theorem q_asgLL {i : Nat} (h : Ewn te σ H P) (k : ∀ q l H1, H q = none → Ex H H1 → P (.ref q) H1 → H1 l = none → tz D (σ.set i (some (.ref l))) (upd H1 l (.lst [.ref q]))) : tSeq (tAsg (tLst (tCons te tNil)) (gName i)) tz D σ H :=
  h H (Ex.refl H) _ fun q H1 nq e hp => ⟨by show 1 ≤ sizeLine; decide, fun l hl => k q l H1 nq e hp hl⟩
theorem ewn_tup4 {P0 P1 P2 P3 : VP} {t0 t1 t2 t3 : TE} [k0 : Kp P0] [k1 : Kp P1] [k2 : Kp P2] [k3 : Kp P3] (h0 : Ew t0 σ H P0) (h1 : Ew t1 σ H P1) (h2 : Ew t2 σ H P2) (h3 : Ew t3 σ H P3) :
    Ewn (tTup (tCons t0 (tCons t1 (tCons t2 (tCons t3 tNil))))) σ H (fun v H => ∃ p a b c d, v = .ref p ∧ H p = some (.tup [a, b, c, d]) ∧ P0 a H ∧ P1 b H ∧ P2 c H ∧ P3 d H) := fun H1 e Q q =>
  ewa_cons h0 (ewa_cons h1 (ewa_cons h2 (ewa_cons h3 ewa_nil))) H1 e _ fun vs H2 e2 ⟨a, r, q1, ha, b, r1, q2, hb, c, r2, q3, hc, d, r3, q4, hd, q5⟩ => by
    have q5' : r3 = [] := q5
    subst q1 q2 q3 q4 q5'
    exact ⟨by show 4 ≤ sizeLine; decide, fun p hp => q p _ (fresh_back e2 hp) (e2.trans (Ex.new hp)) ⟨p, a, b, c, d, rfl, upd_same, k0.kp (Ex.new hp) ha, k1.kp (Ex.new hp) hb, k2.kp (Ex.new hp) hc, k3.kp (Ex.new hp) hd⟩⟩
/-- told by R, and not there in H0 -/
def rFr (H0 : Hp) (R : Rep α) : Rep α := fun a v H => R a v H ∧ ∃ q, v = .ref q ∧ H0 q = none
instance {H0 : Hp} {R : Rep α} {a : α} [k : Kp (R a)] : Kp (rFr H0 R a) := ⟨fun e ⟨h, z⟩ => ⟨k.kp e h, z⟩⟩
instance {H0 : Hp} {R : Rep α} {a : α} [k : Sh1 (R a)] : Sh1 (rFr H0 R a) := ⟨fun ⟨h, z⟩ n => ⟨k.sh h n, z⟩⟩
theorem _root_.Am.Ewn.fr {H0 : Hp} {a : α} (e : Ex H0 H) (h : Ewn te σ H (R a)) : Ewn te σ H (rFr H0 R a) := fun H1 e1 Q q => h H1 e1 Q fun p H2 hp e2 h2 => q p H2 hp e2 ⟨h2, p, rfl, fresh_back (e.trans e1) hp⟩
/-- one turn of a comprehension whose items are new -/
theorem cm_turnN [k : ∀ b, Kp (S b)] [sh : ∀ b, Sh1 (S b)] {tt : TT} {H1 H' : Hp} {Dl : Addr} {bs : List β} {σ2 : L2.St} {f : Bool} {b : β} {N : Hp → Prop} (c : Cm S H1 Dl bs H') (hl : bs.length < 10000) (ht : EvT tt σ2 H1 f) (he : f = true → Ewn te σ2 H1 (S b))
    (n1 : f = true → ∀ H', Cm S H1 Dl (bs ++ [b]) H' → N H') (n2 : f = false → ∀ H', Cm S H1 Dl bs H' → N H') :
    tt σ2 H' fun c H3 => if c = true then te σ2 H3 fun y H4 => ∃ acc, H4 Dl = some (.lst acc) ∧ acc.length < sizeLine ∧ N (upd H4 Dl (.lst (acc ++ [y]))) else N H3 := by
  obtain ⟨c1, c2, xs, c3, c4⟩ := c
  have e1 : Ex H1 H' := c2.trans hid_ex
  refine ht H' e1 _ fun H3 e3 => ?_
  cases hf : f with
  | true =>
    show te σ2 H3 fun y H4 => ∃ acc, H4 Dl = some (.lst acc) ∧ acc.length < sizeLine ∧ N (upd H4 Dl (.lst (acc ++ [y])))
    refine he hf H3 (e1.trans e3) _ fun y H4 ny e4 hy => ?_
    have q := e4 Dl _ (e3 Dl _ c3)
    have hne : V.ref y ≠ .ref Dl := fun z => by
      have z' : y = Dl := V.ref.inj z
      subst z'
      rw [e3 y _ c3] at ny
      cases ny
    refine ⟨xs, q, by rw [← c4.len]; exact Nat.lt_of_lt_of_le hl (by decide), n1 hf _ ⟨c1, ?_, xs ++ [.ref y], upd_same, ?_⟩⟩
    · exact ex_hid (Ex.mut ((e1.trans e3).trans e4) c1) c1
    · rw [hid_upd]
      exact (c4.kp (hid_mono (e3.trans e4))).snoc ((sh b).sh hy hne)
  | false =>
    show N H3
    exact n2 hf _ ⟨c1, ex_hid (e1.trans e3) c1, xs, e3 Dl _ c3, c4.kp (hid_mono e3)⟩
theorem ewn_lcLN {T : α → L2.St → L2.St → Hp → Prop} [kr : ∀ a, Kp (R a)] [k : ∀ b, Kp (S b)] [sh : ∀ b, Sh1 (S b)] {tt : TT} {vs : List Nat} {as : List α} (f : α → Bool) (gm : α → β) (hg : Tg g R T) (h : Ew tl σ H (rL R as)) (hz : as.length < 10000)
    (hw : ∀ a σ' H', T a (wipe σ vs) σ' H' → wipe σ' vs = wipe σ vs) (ht : ∀ a ∈ as, ∀ σ' H1, Ex H H1 → T a (wipe σ vs) σ' H1 → EvT tt σ' H1 (f a))
    (he : ∀ a ∈ as, f a = true → ∀ σ' H1, Ex H H1 → T a (wipe σ vs) σ' H1 → Ewn te σ' H1 (S (gm a))) :
    Ewn (tLc (iList K tl) g tt te vs) σ H (rL S ((as.filter f).map gm)) := fun H0 e Q q => h H0 e _ fun v H1 e1 ⟨p, xs, h1, h2, h3⟩ => ⟨p, h1, ⟨xs, SqL.of h2⟩, fun Dl hD =>
  lc_list (xs := xs) (fun i H' => Cm S H1 Dl (((as.take i).filter f).map gm) H') ⟨hD, ex_hid (Ex.new hD) hD, [], upd_same, by rw [List.take_zero]; exact .nil⟩
    (fun i H' hi c => SqL.of ((c.2.1.trans hid_ex) p _ h2))
    (fun i x H' hx c => by
      obtain ⟨a, ha, hr⟩ := h3.getV hx
      have hm : a ∈ as := List.mem_of_getElem? ha
      have et : as.take (i + 1) = as.take i ++ [a] := by rw [List.take_add_one, ha]; rfl
      obtain ⟨σ2, hT, hgo⟩ := hg a x (wipe σ vs) H1 hr
      refine hgo H' _ (c.2.1.trans hid_ex) ⟨hw a σ2 H1 hT, cm_turnN c ?_ (ht a hm σ2 H1 (e.trans e1) hT) (fun hf => he a hm hf σ2 H1 (e.trans e1) hT) (fun hf H2 c2 => ?_) fun hf H2 c2 => ?_⟩
      · rw [List.length_map]
        have l1 := List.length_filter_le f (as.take i)
        have l2 : (as.take i).length ≤ as.length := by rw [List.length_take]; exact Nat.min_le_right _ _
        omega
      · rw [et, filter_snoc_yes hf]
        exact c2
      · rw [et, filter_snoc_no hf]
        exact c2)
    (fun H' c => by
      rw [← h3.len, List.take_length] at c
      obtain ⟨z1, z2⟩ := cm_end c
      exact q Dl H' (fresh_back e1 hD) (e1.trans z1) z2)⟩
/-! ### dicts of texts -/
/-- a dict whose keys are the texts of which f is true -/
def rSet : Rep (Str → Bool) := fun f v H => ∃ p kvs, v = .ref p ∧ H p = some (.dK kvs) ∧ ∀ x, (valV kvs (Sum.inr x : Key)).isSome = f x
/-- a dict that has a list of texts for each of some texts -/
def rNear (ns : List Str) : Rep (Str → List Str) := fun f v H => ∃ p kvs, v = .ref p ∧ H p = some (.dK kvs) ∧ ∀ x ∈ ns, ∃ y, valV kvs (Sum.inr x : Key) = some y ∧ rL rStr (f x) y H
instance {f : Str → Bool} : Kp (rSet f) := ⟨fun e ⟨p, kvs, h1, h2, h3⟩ => ⟨p, kvs, h1, e p _ h2, h3⟩⟩
instance {ns : List Str} {f : Str → List Str} : Kp (rNear ns f) := ⟨fun e ⟨p, kvs, h1, h2, h3⟩ => ⟨p, kvs, h1, e p _ h2, fun x hx => by
  obtain ⟨y, hy, hr⟩ := h3 x hx
  exact ⟨y, hy, Kp.kp e hr⟩⟩⟩
theorem ew_inD {x : Str} {f : Str → Bool} (ha : Ew ta σ H (rStr x)) (hb : Ew tb σ H (rSet f)) : Ew (tDIn ta tb) σ H (rBool (f x)) := fun H1 e Q q =>
  ha H1 e _ fun y H2 e2 hy => hb H2 (e.trans e2) _ fun d H3 e3 ⟨p, kvs, h1, h2, h3⟩ => ⟨p, valV kvs (Sum.inr x : Key), h1, by rw [hy.1]; exact DGet.k (k := (Sum.inr x : Key)) h2, q _ H3 (e2.trans e3) (by rw [h3]; rfl)⟩
theorem ew_niD {x : Str} {f : Str → Bool} (ha : Ew ta σ H (rStr x)) (hb : Ew tb σ H (rSet f)) : Ew (tDNotIn ta tb) σ H (rBool (!f x)) := fun H1 e Q q =>
  ha H1 e _ fun y H2 e2 hy => hb H2 (e.trans e2) _ fun d H3 e3 ⟨p, kvs, h1, h2, h3⟩ => ⟨p, valV kvs (Sum.inr x : Key), h1, by rw [hy.1]; exact DGet.k (k := (Sum.inr x : Key)) h2, q _ H3 (e2.trans e3) (by rw [h3]; rfl)⟩
theorem ew_getN {ns : List Str} {x : Str} {f : Str → List Str} (ha : Ew ta σ H (rNear ns f)) (hb : Ew tb σ H (rStr x)) (hx : x ∈ ns) : Ew (tDGet ta tb) σ H (rL rStr (f x)) := fun H1 e Q q =>
  ha H1 e _ fun d H2 e2 hd => hb H2 (e.trans e2) _ fun y H3 e3 hy => by
    obtain ⟨p, kvs, h1, h2, h3⟩ := Kp.kp (P := rNear ns f) e3 hd
    obtain ⟨z, hz, hr⟩ := h3 x hx
    refine ⟨p, z, h1, ?_, q z H3 (e2.trans e3) hr⟩
    rw [hy.1]
    have g := DGet.k (k := (Sum.inr x : Key)) h2
    rw [hz] at g
    exact g
/-- d[x] = v, the dict at p -/
theorem w_dput {p : Addr} {kvs : List (Key × V)} {x : Str} (hp : H p = some (.dK kvs)) (hv : Ew te σ H P) (hd : Ev ta σ H (.ref p)) (hx : Ew tb σ H (rStr x)) (hz : kvs.length < 100000) [k : Kp P]
    (go : ∀ v H1, Ex H H1 → P v H1 → D.nx σ (upd H1 p (.dK (putK kvs (Sum.inr x : Key) v)))) : sDPut ta tb te D σ H :=
  hv H (Ex.refl H) _ fun v H1 e1 h1 => hd H1 e1 _ fun H2 e2 => hx H2 (e1.trans e2) _ fun y H3 e3 hy => ⟨p, _, rfl, by
    rw [hy.1]
    exact DPut.k (k := (Sum.inr x : Key)) (((e1.trans e2).trans e3) p _ hp) (sz_lt hz), go v H3 ((e1.trans e2).trans e3) (k.kp (e2.trans e3) h1)⟩
theorem q_dput {p : Addr} {kvs : List (Key × V)} {x : Str} (hp : H p = some (.dK kvs)) (hv : Ew te σ H P) (hd : Ev ta σ H (.ref p)) (hx : Ew tb σ H (rStr x)) (hz : kvs.length < 100000) [k : Kp P]
    (go : ∀ v H1, Ex H H1 → P v H1 → tz D σ (upd H1 p (.dK (putK kvs (Sum.inr x : Key) v)))) : tSeq (sDPut ta tb te) tz D σ H := w_dput (D := { D with nx := tz D }) hp hv hd hx hz go
theorem put_isSome (kvs : List (Key × V)) (x y : Str) (v : V) : (valV (putK kvs (Sum.inr x : Key) v) (Sum.inr y : Key)).isSome = (decide (y = x) || (valV kvs (Sum.inr y : Key)).isSome) := by
  rw [valV_put]
  by_cases h : y = x
  · subst h
    rw [if_pos rfl, decide_eq_true rfl]
    rfl
  · rw [if_neg (fun z => h (Sum.inr.inj z)), decide_eq_false h]
    rfl
theorem hds_one {p : Addr} {H : Hp} : hds [p] H = hid p H := by
  funext a
  unfold hds hid
  by_cases h : a = p
  · rw [if_pos (by simp [h]), if_pos h]
  · rw [if_neg (by simpa using h), if_neg h]
instance {P : VP} [k : Kp P] {c : V} : Kp (fun v H => P v H ∧ v ≠ c) := ⟨fun e ⟨h1, h2⟩ => ⟨k.kp e h1, h2⟩⟩
/-- what is new stands apart from what stood -/
theorem _root_.Am.Ewn.apart {p : Addr} {o : HO} (hp : H p = some o) (h : Ewn te σ H P) : Ew te σ H (fun v H => P v H ∧ v ≠ .ref p) := fun H1 e Q q => h H1 e Q fun p' H2 hp' e2 h2 => q _ H2 e2 ⟨h2, fun z => by
  cases z
  rw [e p _ hp] at hp'
  cases hp'⟩
theorem ev_p0 {n : Addr} {a b : V} (h : Ev ta σ H (.ref n)) (hn : H n = some (.tup [a, b])) : Ev (tOp (rIxT K) ta (tC (.int 0))) σ H a := fun H1 e Q q =>
  h H1 e _ fun H2 e2 => ⟨n, [a, b], 0, a, rfl, rfl, SqT.of ((e.trans e2) n _ hn), rfl, q H2 e2⟩
theorem ev_p1 {n : Addr} {a b : V} (h : Ev ta σ H (.ref n)) (hn : H n = some (.tup [a, b])) : Ev (tOp (rIxT K) ta (tC (.int 1))) σ H b := fun H1 e Q q =>
  h H1 e _ fun H2 e2 => ⟨n, [a, b], 1, b, rfl, rfl, SqT.of ((e.trans e2) n _ hn), rfl, q H2 e2⟩
/-! ### comprehensions over ranges -/
theorem ewn_lcR1 [k : ∀ b, Kp (S b)] [sh : ∀ b, Sh0 (S b)] {tt : TT} {vs : List Nat} {j n : Nat} (f : Nat → Bool) (gm : Nat → β) (h : Ew ta σ H (rInt (n : Int))) (hz : n < 10000)
    (hw : ∀ x, wipe ((wipe σ vs).set j (some x)) vs = wipe σ vs) (ht : ∀ i, i < n → ∀ H1, Ex H H1 → EvT tt ((wipe σ vs).set j (some (.int (i : Int)))) H1 (f i))
    (he : ∀ i, i < n → f i = true → ∀ H1, Ex H H1 → Ew te ((wipe σ vs).set j (some (.int (i : Int)))) H1 (S (gm i))) :
    Ewn (tLc (iRng1 (tCons ta tNil)) (gName j) tt te vs) σ H (rL S (((List.range n).filter f).map gm)) := fun H0 e Q q => ev_int h H0 e _ fun H1 e1 => ⟨(n : Int), rfl, by omega, by omega, fun Dl hD =>
  lc_range (lo := 0) (n := (n : Int).toNat) (fun i H' => Cm S H1 Dl (((List.range i).filter f).map gm) H') ⟨hD, ex_hid (Ex.new hD) hD, [], upd_same, .nil⟩
    (fun i H' hi c => by
      have hi' : i < n := by omega
      have e0 : (0 : Int) + (i : Int) = (i : Int) := Int.zero_add _
      show wipe ((wipe σ vs).set j (some (.int ((0 : Int) + (i : Int))))) vs = wipe σ vs ∧ tt ((wipe σ vs).set j (some (.int ((0 : Int) + (i : Int))))) H' fun b H3 => if b = true then te ((wipe σ vs).set j (some (.int ((0 : Int) + (i : Int))))) H3 fun y H4 => ∃ acc, H4 Dl = some (.lst acc) ∧ acc.length < sizeLine ∧ Cm S H1 Dl (((List.range (i + 1)).filter f).map gm) (upd H4 Dl (.lst (acc ++ [y]))) else Cm S H1 Dl (((List.range (i + 1)).filter f).map gm) H3
      rw [e0]
      refine ⟨hw _, cm_turn c ?_ (ht i hi' H1 (e.trans e1)) (fun hf => he i hi' hf H1 (e.trans e1)) (fun hf H2 c2 => ?_) fun hf H2 c2 => ?_⟩
      · rw [List.length_map]
        have l1 := List.length_filter_le f (List.range i)
        rw [List.length_range] at l1
        omega
      · rw [List.range_succ, filter_snoc_yes hf]
        exact c2
      · rw [List.range_succ, filter_snoc_no hf]
        exact c2)
    (fun H' c => by
      rw [Int.toNat_natCast] at c
      obtain ⟨z1, z2⟩ := cm_end c
      exact q Dl H' (fresh_back e1 hD) (e1.trans z1) z2)⟩
/-- range(1, n - 1) and its like: lo ≤ i < lo + n -/
theorem ewn_lcR2 [k : ∀ b, Kp (S b)] [sh : ∀ b, Sh0 (S b)] {tt : TT} {vs : List Nat} {j n : Nat} {lo hi : Int} (f : Nat → Bool) (gm : Nat → β) (h1' : Ew ta σ H (rInt lo)) (h2' : Ew tb σ H (rInt hi)) (hn : (hi - lo).toNat = n) (hz : n < 10000) (hlo : 0 ≤ lo ∧ lo < 10000) (hhi : -10000 < hi ∧ hi < 10000)
    (hw : ∀ x, wipe ((wipe σ vs).set j (some x)) vs = wipe σ vs) (ht : ∀ i, i < n → ∀ H1, Ex H H1 → EvT tt ((wipe σ vs).set j (some (.int (lo + (i : Int))))) H1 (f i))
    (he : ∀ i, i < n → f i = true → ∀ H1, Ex H H1 → Ew te ((wipe σ vs).set j (some (.int (lo + (i : Int))))) H1 (S (gm i))) :
    Ewn (tLc (iRng2 (tCons ta (tCons tb tNil))) (gName j) tt te vs) σ H (rL S (((List.range n).filter f).map gm)) := fun H0 e Q q => ev_int h1' H0 e _ fun H1 e1 => ev_int h2' H1 (e.trans e1) _ fun H2 e2 => ⟨lo, hi, rfl, ⟨by omega, by omega, by omega, by omega⟩, fun Dl hD =>
  lc_range (lo := lo) (n := (hi - lo).toNat) (fun i H' => Cm S H2 Dl (((List.range i).filter f).map gm) H') ⟨hD, ex_hid (Ex.new hD) hD, [], upd_same, .nil⟩
    (fun i H' hi c => by
      have hi' : i < n := by omega
      refine ⟨hw _, cm_turn c ?_ (ht i hi' H2 ((e.trans e1).trans e2)) (fun hf => he i hi' hf H2 ((e.trans e1).trans e2)) (fun hf H2 c2 => ?_) fun hf H2 c2 => ?_⟩
      · rw [List.length_map]
        have l1 := List.length_filter_le f (List.range i)
        rw [List.length_range] at l1
        omega
      · rw [List.range_succ, filter_snoc_yes hf]
        exact c2
      · rw [List.range_succ, filter_snoc_no hf]
        exact c2)
    (fun H' c => by
      rw [hn] at c
      obtain ⟨z1, z2⟩ := cm_end c
      exact q Dl H' (fresh_back (e1.trans e2) hD) ((e1.trans e2).trans z1) z2)⟩
/-- a comprehension over a list -/
theorem ewn_lcL {T : α → L2.St → L2.St → Hp → Prop} [kr : ∀ a, Kp (R a)] [k : ∀ b, Kp (S b)] [sh : ∀ b, Sh0 (S b)] {tt : TT} {vs : List Nat} {as : List α} (f : α → Bool) (gm : α → β) (hg : Tg g R T) (h : Ew tl σ H (rL R as)) (hz : as.length < 10000)
    (hw : ∀ a σ' H', T a (wipe σ vs) σ' H' → wipe σ' vs = wipe σ vs) (ht : ∀ a ∈ as, ∀ σ' H1, Ex H H1 → T a (wipe σ vs) σ' H1 → EvT tt σ' H1 (f a))
    (he : ∀ a ∈ as, f a = true → ∀ σ' H1, Ex H H1 → T a (wipe σ vs) σ' H1 → Ew te σ' H1 (S (gm a))) :
    Ewn (tLc (iList K tl) g tt te vs) σ H (rL S ((as.filter f).map gm)) := fun H0 e Q q => h H0 e _ fun v H1 e1 ⟨p, xs, h1, h2, h3⟩ => ⟨p, h1, ⟨xs, SqL.of h2⟩, fun Dl hD =>
  lc_list (xs := xs) (fun i H' => Cm S H1 Dl (((as.take i).filter f).map gm) H') ⟨hD, ex_hid (Ex.new hD) hD, [], upd_same, by rw [List.take_zero]; exact .nil⟩
    (fun i H' hi c => SqL.of ((c.2.1.trans hid_ex) p _ h2))
    (fun i x H' hx c => by
      obtain ⟨a, ha, hr⟩ := h3.getV hx
      have hm : a ∈ as := List.mem_of_getElem? ha
      have et : as.take (i + 1) = as.take i ++ [a] := by rw [List.take_add_one, ha]; rfl
      obtain ⟨σ2, hT, hgo⟩ := hg a x (wipe σ vs) H1 hr
      refine hgo H' _ (c.2.1.trans hid_ex) ⟨hw a σ2 H1 hT, cm_turn c ?_ (ht a hm σ2 H1 (e.trans e1) hT) (fun hf => he a hm hf σ2 H1 (e.trans e1) hT) (fun hf H2 c2 => ?_) fun hf H2 c2 => ?_⟩
      · rw [List.length_map]
        have l1 := List.length_filter_le f (as.take i)
        have l2 : (as.take i).length ≤ as.length := by rw [List.length_take]; exact Nat.min_le_right _ _
        omega
      · rw [et, filter_snoc_yes hf]
        exact c2
      · rw [et, filter_snoc_no hf]
        exact c2)
    (fun H' c => by
      rw [← h3.len, List.take_length] at c
      obtain ⟨z1, z2⟩ := cm_end c
      exact q Dl H' (fresh_back e1 hD) (e1.trans z1) z2)⟩
end
end Am
/-! A dict whose keys are pairs (text, bool): the hand layer's dicts with tuple keys have ints and texts alone in their keys. -/
namespace Am
open PySem PySem.Spec PyProof.Rows L2 Evl
abbrev Spt := Str × Bool
def skey (s : Spt) : List Leaf := [.text s.1, .num (if s.2 = true then 1 else 0)]
theorem skey_inj {s t : Spt} (h : skey s = skey t) : s = t := by
  obtain ⟨a, b⟩ := s
  obtain ⟨c, d⟩ := t
  unfold skey at h
  injection h with h1 h2
  injection h1 with h1
  injection h2 with h2 _
  injection h2 with h2
  subst h1
  cases b <;> cases d <;> first | rfl | (simp at h2)
abbrev sxs (ss : List (Spt × Addr)) : List (List Leaf × Addr × Value) := ss.map fun s => (skey s.1, s.2, Value.bool true)
theorem sxs_keys (ss : List (Spt × Addr)) : (sxs ss).map (·.1) = (ss.map (·.1)).map skey := by
  unfold sxs
  rw [List.map_map, List.map_map]
  rfl
theorem skeys_nodup : ∀ {ks : List Spt}, ks.Nodup → (ks.map skey).Nodup := fun h => List.pairwise_map.mpr (h.imp fun hab z => hab (skey_inj z))
theorem at_skey (s : Spt) : ∀ ss : List (Spt × Addr), (atKey (sxs ss) (skey s)).isSome = decide (s ∈ ss.map (·.1))
  | [] => rfl
  | t :: r => by
    have ih := at_skey s r
    unfold atKey at ih ⊢
    rw [Option.isSome_map] at ih ⊢
    show (List.find? (fun x => decide (x.1 = skey s)) ((skey t.1, t.2, Value.bool true) :: sxs r)).isSome = _
    rw [List.find?_cons]
    by_cases h : skey t.1 = skey s
    · have e := skey_inj h
      have : decide (((skey t.1, t.2, Value.bool true) : List Leaf × Addr × Value).1 = skey s) = true := decide_eq_true h
      rw [this]
      simp [e]
    · have : decide (((skey t.1, t.2, Value.bool true) : List Leaf × Addr × Value).1 = skey s) = false := decide_eq_false h
      rw [this]
      simp only
      rw [ih]
      have hne : ¬ s = t.1 := fun z => h (by rw [z])
      simp [hne]
/-- such a dict at d -/
def SpO (P : Program) (w : World) (d : Addr) (ss : List (Spt × Addr)) : HO := .ext fun h =>
  (∃ o es ep, h.get? d = some o ∧ o.ExactDict ∧ o.data = .dict es ep ∧ es.toList = (sxs ss).map (entryOfKey (tupleKind (leafKind P w)))) ∧ (ss.map (·.1)).Nodup ∧ ss.length ≤ sizeLine ∧ (d == sysModules) = false
/-- its keys' tuples -/
def KS (H : Hp) (ss : List (Spt × Addr)) : Prop := ∀ s ∈ ss, H s.2 = some (.tup [.str s.1.1, .bl s.1.2])
section
variable {P : Program} {w : World} {H : Hp} {h : Heap} {a b : Addr} {ss : List (Spt × Addr)} {s : Spt}
theorem skey_of (ok : HOk P w H h) (e : H a = some (.tup [.str s.1, .bl s.2])) : (tupleKind (leafKind P w)).is h (skey s) a := by
  obtain ⟨_, its, r, o, h1, h2, n, h3⟩ := (show ObjOk P w H h a (.tup [.str s.1, .bl s.2]) from ok a _ e)
  refine ⟨o, its.toArray, n, h1, h2, h3, ?_⟩
  cases r with
  | cons r1 r =>
    cases r with
    | cons r2 r =>
      cases r
      obtain ⟨t, rfl⟩ := r1
      cases (show _ = Value.bool s.2 from r2)
      refine .cons (by show (leafKind P w).is (.text s.1) (.str s.1 t) = true; exact (by show (s.1 == s.1) = true; simp)) (.cons ?_ .nil)
      show Leaf.isOf (.num (if s.2 = true then 1 else 0)) (.bool s.2) = true
      exact decide_eq_true rfl
theorem sp_of (ok : HOk P w H h) (e : H a = some (SpO P w a ss)) (ks : KS H ss) : (a == sysModules) = false ∧ (ss.map (·.1)).Nodup ∧ ss.length ≤ sizeLine ∧ h.DictOfH (tupleKind (leafKind P w)) a (sxs ss) := by
  obtain ⟨⟨⟨o, es, ep, h1, h2, h3, h4⟩, h5, h6, h7⟩, _, _⟩ := (show ObjOk P w H h a (SpO P w a ss) from ok a _ e)
  refine ⟨h7, h5, h6, o, es, ep, h1, h2, h3, h4, fun x hx => ?_, by rw [sxs_keys]; exact skeys_nodup h5⟩
  obtain ⟨s, hs, rfl⟩ := List.mem_map.mp hx
  exact skey_of ok (ks s hs)
theorem sp_ok {H' : Hp} (hd : (a == sysModules) = false) (hn : (ss.map (·.1)).Nodup) (hl : ss.length ≤ sizeLine) (q : ∃ o es ep, h.get? a = some o ∧ o.ExactDict ∧ o.data = .dict es ep ∧ es.toList = (sxs ss).map (entryOfKey (tupleKind (leafKind P w)))) : ObjOk P w H' h a (SpO P w a ss) := by
  refine ⟨⟨q, hn, hl, hd⟩, ?_, fun h1 h2 ⟨⟨o, es, ep, g1, g2, g3, g4⟩, z⟩ k => ⟨⟨o, es, ep, k _ g1, g2, g3, g4⟩, z⟩⟩
  obtain ⟨o, _, _, h1, _⟩ := q
  exact ⟨o, h1⟩
end
/-- {} -/
def tDNewS (P : Program) (w : World) : TE := fun _ H Q => ∀ p, H p = none → Q (.ref p) (upd H p (SpO P w p []))
/-- y in d, y not in d -/
def tSIn (P : Program) (w : World) (neg : Bool) (ty td : TE) : TE := fun σ H Q => ty σ H fun y H1 => td σ H1 fun x H2 => ∃ a ss s b, x = .ref a ∧ H2 a = some (SpO P w a ss) ∧ KS H2 ss ∧ y = .ref b ∧ H2 b = some (.tup [.str s.1, .bl s.2]) ∧
  Q (.bl (if neg then !decide (s ∈ ss.map (·.1)) else decide (s ∈ ss.map (·.1)))) H2
/-- d[y] = True, y not there -/
def sSPut (P : Program) (w : World) (td ty tv : TE) : TS := fun D σ H => tv σ H fun v H1 => td σ H1 fun x H2 => ty σ H2 fun y H3 => ∃ a ss s b, v = .bl true ∧ x = .ref a ∧ H3 a = some (SpO P w a ss) ∧ KS H3 ss ∧ y = .ref b ∧ H3 b = some (.tup [.str s.1, .bl s.2]) ∧
  s ∉ ss.map (·.1) ∧ ss.length < sizeLine ∧ D.nx σ (upd H3 a (SpO P w a (ss ++ [(s, b)])))
section
variable {X : Cx} {o i value : Expr} {pos pos' : Pos} {td ty tv : TE}
theorem pe_dnewS : PE X (.Dict [] [] pos) (tDNewS X.prog X.w) := ⟨fun pins s σ H Q I h =>
  wpAny_Dict_empty ⟨.ref s.heap.objs.size, _, I.laid (a := s.heap.objs.size) (o := SpO X.prog X.w s.heap.objs.size []) (t' := s.toks) (fun _ _ q => Heap.get?_push_of_some _ q) (Nat.le_refl _)
    (sp_ok (beq_eq_false_iff_ne.mpr (Ne.symm (Nat.ne_of_lt I.big))) List.nodup_nil (Nat.zero_le _) ⟨_, #[], 0, Heap.get?_push_size _ rfl, ⟨rfl, rfl, rfl⟩, rfl, rfl⟩), rfl, h _ (I.hok.fresh (Nat.le_refl _))⟩⟩
theorem k_dnewS (P : Program) (w : World) (hP : X.prog = P := by rfl) (hw : X.w = w := by rfl) : PE X (.Dict [] [] pos) (tDNewS P w) := by subst hP hw; exact pe_dnewS
theorem pc_sin (P : Program) (w : World) (hu : X.A.units + 1 < cLine) (hi : PE X i ty) (ho : PE X o td) (hP : X.prog = P := by rfl) (hw : X.w = w := by rfl) : PC X .In i o (tSIn P w false ty td) := by
  subst hP hw
  refine ⟨fun pins s σ H Q I h => ?_⟩
  refine thn (hi.run pins s σ H _ I h) fun iv s1 ⟨y, H1, I1, ry, q1⟩ => thn (ho.run pins s1 σ H1 _ I1 q1) fun u s2 ⟨x, H2, I2, rx, a, ss, sp, b, ex, h2, ks, ey, hb, q2⟩ => ?_
  subst ex ey
  obtain rfl : u = Value.ref a := rx
  obtain rfl : iv = Value.ref b := ry
  obtain ⟨hd, hn, hl, dd⟩ := sp_of I2.hok h2 ks
  refine wpAny_in_heap (tupleKind_room_in1 hu) (skey_of I2.hok hb) hd dd ?_
  rw [at_skey]
  exact ⟨.bl _, H2, I2.tok _, rfl, q2⟩
theorem pc_snotin (P : Program) (w : World) (hu : X.A.units + 1 < cLine) (hi : PE X i ty) (ho : PE X o td) (hP : X.prog = P := by rfl) (hw : X.w = w := by rfl) : PC X .NotIn i o (tSIn P w true ty td) := by
  subst hP hw
  refine ⟨fun pins s σ H Q I h => ?_⟩
  refine thn (hi.run pins s σ H _ I h) fun iv s1 ⟨y, H1, I1, ry, q1⟩ => thn (ho.run pins s1 σ H1 _ I1 q1) fun u s2 ⟨x, H2, I2, rx, a, ss, sp, b, ex, h2, ks, ey, hb, q2⟩ => ?_
  subst ex ey
  obtain rfl : u = Value.ref a := rx
  obtain rfl : iv = Value.ref b := ry
  obtain ⟨hd, hn, hl, dd⟩ := sp_of I2.hok h2 ks
  refine wpAny_notIn_heap (tupleKind_room_in1 hu) (skey_of I2.hok hb) hd dd ?_
  rw [at_skey]
  exact ⟨.bl _, H2, I2.tok _, rfl, q2⟩
theorem ps_sput (P : Program) (w : World) (hu : X.A.units + 1 < cLine) (ho : PE X o td) (hi : PE X i ty) (hv : PE X value tv) (hs : swapsWith value (some (.Subscript o i pos')) pos.line X.env = pure false) (hP : X.prog = P := by rfl) (hw : X.w = w := by rfl) :
    PS X (.Assign [.Subscript o i pos'] value pos) (sSPut P w td ty tv) := by
  subst hP hw
  refine ⟨fun pins s σ H D I h => ?_⟩
  refine wpAny_Assign_Subscript (thn (hv.run pins s σ H _ I h) fun r s1 ⟨v, H1, I1, rv, q1⟩ => thn (ho.run pins s1 σ H1 _ I1 q1) fun u s2 ⟨x, H2, I2, rx, q2⟩ => thn (hi.run pins s2 σ H2 _ I2 q2) fun iv s3 ⟨y, H3, I3, ry, a, ss, sp, b, ev, ex, h2, ks, ey, hb, hno, hl, q3⟩ => ?_) hs
  subst ev ex ey
  obtain rfl : u = Value.ref a := rx
  obtain rfl : iv = Value.ref b := ry
  obtain rfl : r = Value.bool true := rv
  obtain ⟨hd, hn, hz, dd⟩ := sp_of I3.hok h2 ks
  have hat : atKey (sxs ss) (skey sp) = none := by
    have := at_skey sp ss
    rw [decide_eq_false hno] at this
    cases e : atKey (sxs ss) (skey sp) with
    | none => rfl
    | some z => rw [e] at this; cases this
  refine wpAny_setItem_heap (hsz := by rw [List.length_map]; exact hz) (tupleKind_room_in1 hu) (skey_of I3.hok hb) dd fun h' dd' hs' => ?_
  rw [storedH_new hat] at dd'
  obtain ⟨q, es, ep, hq, g2, g3, g4, _, _⟩ := dd'
  have e5 : sxs ss ++ [(skey sp, b, Value.bool true)] = sxs (ss ++ [(sp, b)]) := by unfold sxs; rw [List.map_append]; rfl
  rw [e5] at g4
  refine ⟨σ, _, d_write I3 (ob := SpO X.prog X.w a (ss ++ [(sp, b)])) (by rw [h2]; exact True.intro) hs' ⟨q, hq⟩ (sp_ok hd ?_ (by rw [List.length_append]; exact hl) ⟨q, es, ep, hq, g2, g3, g4⟩), q3⟩
  rw [List.map_append]
  exact List.nodup_append.mpr ⟨hn, by simp, fun x hx y hy => by
    have ey : y = sp := by simpa using hy
    subst ey
    exact fun z => hno (z ▸ hx)⟩
end
/-- the spots of which f is true -/
def rSpots (P : Program) (w : World) : Rep (Spt → Bool) := fun f v H => ∃ d ss, v = .ref d ∧ H d = some (SpO P w d ss) ∧ KS H ss ∧ ∀ s, f s = decide (s ∈ ss.map (·.1))
instance {P : Program} {w : World} {f : Spt → Bool} : Kp (rSpots P w f) := ⟨fun e ⟨d, ss, h1, h2, h3, h4⟩ => ⟨d, ss, h1, e d _ h2, fun s hs => e _ _ (h3 s hs), h4⟩⟩
abbrev rSpot : Rep Spt := rP rStr rBool
section
variable {P : Program} {w : World} {σ : L2.St} {H : Hp} {ta tb : TE}
theorem ew_sin {f : Spt → Bool} {s : Spt} (ha : Ew ta σ H (rSpot s)) (hb : Ew tb σ H (rSpots P w f)) : Ew (tSIn P w false ta tb) σ H (rBool (f s)) := fun H1 e Q q =>
  ha H1 e _ fun y H2 e2 ⟨b, x1, x2, g1, g2, g3, g4⟩ => hb H2 (e.trans e2) _ fun x H3 e3 ⟨d, ss, h1, h2, h3, h4⟩ => ⟨d, ss, s, b, h1, h2, h3, g1, by
    have e4 : x1 = .str s.1 := g3.1
    have e5 : x2 = .bl s.2 := g4
    subst e4 e5
    exact e3 _ _ g2, q _ H3 (e2.trans e3) (by rw [h4]; rfl)⟩
theorem ew_snin {f : Spt → Bool} {s : Spt} (ha : Ew ta σ H (rSpot s)) (hb : Ew tb σ H (rSpots P w f)) : Ew (tSIn P w true ta tb) σ H (rBool (!f s)) := fun H1 e Q q =>
  ha H1 e _ fun y H2 e2 ⟨b, x1, x2, g1, g2, g3, g4⟩ => hb H2 (e.trans e2) _ fun x H3 e3 ⟨d, ss, h1, h2, h3, h4⟩ => ⟨d, ss, s, b, h1, h2, h3, g1, by
    have e4 : x1 = .str s.1 := g3.1
    have e5 : x2 = .bl s.2 := g4
    subst e4 e5
    exact e3 _ _ g2, q _ H3 (e2.trans e3) (by rw [h4]; rfl)⟩
end
end Am
/-! The defs of nets. -/
namespace Am
open PySem PySem.Spec PyProof.Rows L2 Evl
/-- what a law's net is -/
structure NetOk (N : List Str × List (Str × Str)) : Prop where
  net : Net N.1 N.2
  few : N.1.length ≤ 6
  fewA : N.2.length ≤ 1000
noncomputable def reachB (ar : List (Str × Str)) (x y : Str) : Bool := @decide (Reach ar x y) (Classical.propDecidable _)
theorem reachB_iff {ar : List (Str × Str)} {x y : Str} : reachB ar x y = true ↔ Reach ar x y := by
  unfold reachB
  exact @decide_eq_true_iff _ (Classical.propDecidable _)
theorem reachB_of {ar : List (Str × Str)} {x y : Str} {b : Bool} (h : b = true ↔ Reach ar x y) : b = reachB ar x y := by
  rw [Bool.eq_iff_iff, h, reachB_iff]
section
variable {P : Program} {w : World} {K : PySem.W.Frag} {mg : Str → Option Value} {base : Heap}

/-! ### look_for -/
def spLookFor : Sp := fun vs H Q _ => ∃ ns xs v0 v1, vs = [v0, v1] ∧ rT rStr ns v0 H ∧ rL rStr xs v1 H ∧ (∀ x ∈ xs, x ∈ ns) ∧ Ret (rNone ()) H Q
theorem use_look_for {ns xs : List Str} {v0 v1 : V} {H : Hp} (h0 : rT rStr ns v0 H) (h1 : rL rStr xs v1 H) (hm : ∀ x ∈ xs, x ∈ ns) : Gives spLookFor [v0, v1] H (rNone ()) := fun Q k E => ⟨ns, xs, v0, v1, rfl, h0, h1, hm, k⟩
theorem sc_look_for : FnScope ["names", "some", "name"] ["names", "some"] (defScope (top 5)) := ⟨rfl, rfl, rfl, by decide +kernel, rfl, by decide +kernel, by decide +kernel⟩
theorem ok_look_for (T : Txt K mg) : OkD P w K mg base 1 "look_for" ["names", "some"] spLookFor := by
  refine T.d_look_for.ok sc_look_for (fun vs H Q E h => ?_) (fun cdv A outer s H vs Q E hr h => ?_)
  · obtain ⟨_, _, _, _, rfl, _⟩ := h
    rfl
  obtain ⟨ns, xs, v0, v1, rfl, h0, h1, hm, q⟩ := h
  refine ⟨_, (pss_one (ps_for PassesOwn.never rfl (kp_list K (pv 1)) (pg_name (i := 2) sc_look_for.nd rfl (Or.inl rfl))
      (pss_one (ps_if (pt_cmpR (k_notIn K) (pv 2) (pv 0) (by rfl))
      (pss_one ps_never) pss_nil)))), ?_⟩
  refine w_forL tgN (ew_var rfl h1) fun v H1 e1 hv => ⟨H1, fun d t σ' H' => Ex H1 H' ∧ ∃ y, σ' = [some v0, some v1, y], hv, ⟨Ex.refl _, _, rfl⟩, fun d t σ' H' w => w.1, fun d a t σ' σ2 H' ed w hT => ?_, fun σ' H' w => ?_⟩
  · obtain ⟨e, y, rfl⟩ := w
    obtain ⟨x, hx, rfl⟩ := hT
    have ha : a ∈ xs := by rw [← ed]; simp
    refine s_if (et_t (ew_niT (ew_var rfl hx) (ew_var rfl (Kp.kp (e1.trans e) h0)))) (fun hb H2 e2 => ?_) (fun hb H2 e2 => ?_)
    · have := hm a ha
      simp [this] at hb
    · exact ⟨e.trans e2, _, rfl⟩
  · exact q .non H' (e1.trans w.1) rfl

/-! ### look_once -/
def spLookOnce : Sp := fun vs H Q _ => ∃ xs v0, vs = [v0] ∧ rL rStr xs v0 H ∧ xs.Nodup ∧ xs.length ≤ 1000 ∧ Ret (rNone ()) H Q
theorem use_look_once {xs : List Str} {v0 : V} {H : Hp} (h0 : rL rStr xs v0 H) (hm : xs.Nodup) (hl : xs.length ≤ 1000) : Gives spLookOnce [v0] H (rNone ()) := fun Q k E => ⟨xs, v0, rfl, h0, hm, hl, k⟩
theorem sc_look_once : FnScope ["some", "at", "name"] ["some"] (defScope (top 6)) := ⟨rfl, rfl, rfl, by decide +kernel, rfl, by decide +kernel, by decide +kernel⟩
theorem cut_to {α : Type} {as : List α} {i : Nat} (h : i ≤ as.length) : cutA as none (some (i : Int)) = as.take i := by
  unfold cutA
  rw [HT.sIx_none, HT.sIx_nat, List.drop_zero, Nat.sub_zero, Nat.min_eq_left h]
theorem ok_look_once (T : Txt K mg) : OkD P w K mg base 1 "look_once" ["some"] spLookOnce := by
  refine T.d_look_once.ok sc_look_once (fun vs H Q E h => ?_) (fun cdv A outer s H vs Q E hr h => ?_)
  · obtain ⟨_, _, rfl, _⟩ := h
    rfl
  obtain ⟨xs, v0, rfl, h0, hm, hl, q⟩ := h
  refine ⟨_, (pss_one (ps_for PassesOwn.never rfl (pi_enum (by rfl) T.b_enumerate (pa_cons (pv 0) pa_nil)) (kg_tup K 2 (by rfl) (pgs_cons (pg_name (i := 1) sc_look_once.nd rfl (Or.inl rfl)) (pgs_cons (pg_name (i := 2) sc_look_once.nd rfl (Or.inl rfl)) pgs_nil)))
      (pss_one (ps_if (pt_cmpR (k_in K) (pv 2) (pe_slice (k_sl K) (pv 0) po_none (po_some (pv 1))) (by rfl))
      (pss_one ps_never) pss_nil)))), ?_⟩
  refine w_enum (ew_var rfl h0) fun v H1 e1 hv => ⟨H1, fun d t σ' H' => Ex H1 H' ∧ ∃ y z, σ' = [some v0, y, z], hv, ⟨Ex.refl _, _, _, rfl⟩, fun d t σ' H' w => w.1, fun d a t σ' H' x H2 ed w e2 hx => ?_, fun σ' H' w => ?_⟩
  · obtain ⟨e, y, z, rfl⟩ := w
    have hd : d.length ≤ xs.length := by rw [← ed]; simp
    have ec : cutA xs none (some (d.length : Int)) = d := by
      rw [cut_to hd, ← ed]
      simp
    refine s_if (et_t (ew_inL (ew_var rfl hx) ((ewn_sl (ew_var rfl (Kp.kp ((e1.trans e).trans e2) h0)) eo_none (eo_int (ew_var rfl (rfl : rInt _ _ _)))).toL ec).ew)) (fun hb H3 e3 => ?_) (fun hb H3 e3 => ?_)
    · exfalso
      have hda : a ∈ d := of_decide_eq_true hb
      rw [← ed] at hm
      have := (List.nodup_append.mp hm).2.2 a hda a List.mem_cons_self
      exact this rfl
    · exact ⟨(e.trans e2).trans e3, _, _, rfl⟩
  · exact q .non H' (e1.trans w.1) rfl

/-! ### in_order -/
def spInOrder : Sp := fun vs H Q _ => ∃ ns v0 v1, vs = [v0, v1] ∧ rT rStr ns v0 H ∧ ns.length ≤ 1000 ∧
  ((∃ xs, rL rStr xs v1 H ∧ RetN (rL rStr (ns.filter fun x => decide (x ∈ xs))) H Q) ∨ (∃ f, rSet f v1 H ∧ RetN (rL rStr (ns.filter f)) H Q))
theorem use_in_order {ns xs : List Str} {v0 v1 : V} {H : Hp} (h0 : rT rStr ns v0 H) (hl : ns.length ≤ 1000) (h1 : rL rStr xs v1 H) : GivesN spInOrder [v0, v1] H (rL rStr (ns.filter fun x => decide (x ∈ xs))) := fun Q k E => ⟨ns, v0, v1, rfl, h0, hl, .inl ⟨xs, h1, k⟩⟩
theorem use_in_orderD {ns : List Str} {f : Str → Bool} {v0 v1 : V} {H : Hp} (h0 : rT rStr ns v0 H) (hl : ns.length ≤ 1000) (h1 : rSet f v1 H) : GivesN spInOrder [v0, v1] H (rL rStr (ns.filter f)) := fun Q k E => ⟨ns, v0, v1, rfl, h0, hl, .inr ⟨f, h1, k⟩⟩
theorem sc_in_order : FnScope ["names", "some", "name"] ["names", "some"] (defScope (top 7)) := ⟨rfl, rfl, rfl, by decide +kernel, rfl, by decide +kernel, by decide +kernel⟩
theorem ok_in_order (T : Txt K mg) : OkD P w K mg base 1 "in_order" ["names", "some"] spInOrder := by
  refine T.d_in_order.ok sc_in_order (fun vs H Q E h => ?_) (fun cdv A outer s H vs Q E hr h => ?_)
  · obtain ⟨_, _, _, rfl, _⟩ := h
    rfl
  obtain ⟨ns, v0, v1, rfl, h0, hl, ⟨xs, h1, q⟩ | ⟨f, h1, q⟩⟩ := h
  · refine ⟨_, (pss_one (ps_ret (pe_lc (own := [("name", 2)]) rfl sc_in_order.nd (kp_tup K (pv 0)) (blkOk_by (own := [("name", 2)]) (N := ["names", "some", "name"]) (sc := defScope (top 7)) (by decide +kernel)) (fun _ _ _ _ _ => (pg_name (i := 2) sc_in_order.nd rfl (Or.inl rfl))) (fun _ _ _ _ _ => (pts_one (pt_cmpR (k_in K) (pv 2) (pv 1) (by rfl)))) (fun _ _ _ _ _ => (pv 2))))), ?_⟩
    refine w_retN ((ewn_lcT (T := sN 2 rStr) (fun x => decide (x ∈ xs)) (fun x => x) tgN (ew_var rfl h0) (by omega) (fun a σ' H' hT => ?_) (fun a ha σ' H1 e1 hT => ?_) (fun a ha hf σ' H1 e1 hT => ?_)).toL (List.map_id' _)) q
    · obtain ⟨x, hx, rfl⟩ := hT
      rfl
    · obtain ⟨x, hx, rfl⟩ := hT
      exact et_t (ew_inL (ew_var rfl hx) (ew_var rfl (Kp.kp e1 h1)))
    · obtain ⟨x, hx, rfl⟩ := hT
      exact ew_var rfl hx
  · refine ⟨_, (pss_one (ps_ret (pe_lc (own := [("name", 2)]) rfl sc_in_order.nd (kp_tup K (pv 0)) (blkOk_by (own := [("name", 2)]) (N := ["names", "some", "name"]) (sc := defScope (top 7)) (by decide +kernel)) (fun _ _ _ _ _ => (pg_name (i := 2) sc_in_order.nd rfl (Or.inl rfl))) (fun _ _ _ _ _ => (pts_one (pt_cmp (pc_din (hu_of hr) (pv 2) (pv 1))))) (fun _ _ _ _ _ => (pv 2))))), ?_⟩
    refine w_retN ((ewn_lcT (T := sN 2 rStr) f (fun x => x) tgN (ew_var rfl h0) (by omega) (fun a σ' H' hT => ?_) (fun a ha σ' H1 e1 hT => ?_) (fun a ha hf σ' H1 e1 hT => ?_)).toL (List.map_id' _)) q
    · obtain ⟨x, hx, rfl⟩ := hT
      rfl
    · obtain ⟨x, hx, rfl⟩ := hT
      exact et_v (ew_inD (ew_var rfl hx) (ew_var rfl (Kp.kp e1 h1)))
    · obtain ⟨x, hx, rfl⟩ := hT
      exact ew_var rfl hx

/-! ### elders_of, heirs_of -/
def eldersL (N : List Str × List (Str × Str)) (x : Str) : List Str := N.1.filter fun t => decide ((t, x) ∈ N.2)
def heirsL (N : List Str × List (Str × Str)) (x : Str) : List Str := N.1.filter fun t => decide ((x, t) ∈ N.2)
theorem eldersL_eq (N : List Str × List (Str × Str)) (x : Str) : (N.1.filter fun t => decide (t ∈ (N.2.filter fun p => decide (p.2 = x)).map (·.1))) = eldersL N x := by
  unfold eldersL
  refine List.filter_congr fun t _ => ?_
  rw [Bool.eq_iff_iff, decide_eq_true_iff, decide_eq_true_iff, List.mem_map]
  constructor
  · rintro ⟨⟨a, b⟩, h, rfl⟩
    obtain ⟨h1, h2⟩ := List.mem_filter.mp h
    have e : b = x := of_decide_eq_true h2
    subst e
    exact h1
  · intro h
    exact ⟨(t, x), List.mem_filter.mpr ⟨h, decide_eq_true rfl⟩, rfl⟩
theorem heirsL_eq (N : List Str × List (Str × Str)) (x : Str) : (N.1.filter fun t => decide (t ∈ (N.2.filter fun p => decide (p.1 = x)).map (·.2))) = heirsL N x := by
  unfold heirsL
  refine List.filter_congr fun t _ => ?_
  rw [Bool.eq_iff_iff, decide_eq_true_iff, decide_eq_true_iff, List.mem_map]
  constructor
  · rintro ⟨⟨a, b⟩, h, rfl⟩
    obtain ⟨h1, h2⟩ := List.mem_filter.mp h
    have e : a = x := of_decide_eq_true h2
    subst e
    exact h1
  · intro h
    exact ⟨(x, t), List.mem_filter.mpr ⟨h, decide_eq_true rfl⟩, rfl⟩
def spElders : Sp := fun vs H Q _ => ∃ N x v0 v1, vs = [v0, v1] ∧ rNet N v0 H ∧ NetOk N ∧ rStr x v1 H ∧ x ∈ N.1 ∧ Ret (rT rStr (eldersL N x)) H Q
def spHeirs : Sp := fun vs H Q _ => ∃ N x v0 v1, vs = [v0, v1] ∧ rNet N v0 H ∧ NetOk N ∧ rStr x v1 H ∧ x ∈ N.1 ∧ Ret (rT rStr (heirsL N x)) H Q
theorem use_elders {N : List Str × List (Str × Str)} {x : Str} {v0 v1 : V} {H : Hp} (h0 : rNet N v0 H) (ho : NetOk N) (h1 : rStr x v1 H) (hx : x ∈ N.1) : Gives spElders [v0, v1] H (rT rStr (eldersL N x)) := fun Q k E => ⟨N, x, v0, v1, rfl, h0, ho, h1, hx, k⟩
theorem use_heirs {N : List Str × List (Str × Str)} {x : Str} {v0 v1 : V} {H : Hp} (h0 : rNet N v0 H) (ho : NetOk N) (h1 : rStr x v1 H) (hx : x ∈ N.1) : Gives spHeirs [v0, v1] H (rT rStr (heirsL N x)) := fun Q k E => ⟨N, x, v0, v1, rfl, h0, ho, h1, hx, k⟩
theorem sc_elders_of : FnScope ["net", "name", "tails", "tail", "head"] ["net", "name"] (defScope (top 8)) := ⟨rfl, rfl, rfl, by decide +kernel, rfl, by decide +kernel, by decide +kernel⟩
theorem sc_heirs_of : FnScope ["net", "name", "heads", "tail", "head"] ["net", "name"] (defScope (top 9)) := ⟨rfl, rfl, rfl, by decide +kernel, rfl, by decide +kernel, by decide +kernel⟩
theorem ok_elders_of (T : Txt K mg) : OkD P w K mg base 2 "elders_of" ["net", "name"] spElders := by
  have G_look_for := ok_look_for (P := P) (w := w) (base := base) T
  have G_in_order := ok_in_order (P := P) (w := w) (base := base) T
  refine T.d_elders_of.ok sc_elders_of (fun vs H Q E h => ?_) (fun cdv A outer s H vs Q E hr h => ?_)
  · obtain ⟨_, _, _, _, rfl, _⟩ := h
    rfl
  obtain ⟨N, x, v0, v1, rfl, h0, ho, h1, hx, q⟩ := h
  have hN := ho.few
  have hA := ho.fewA
  refine ⟨_, (pss_cons (ps_expr (pe_callD G_look_for hr (pa_cons (pe_ix (kx_tup K) (pv 0) pe_int (fun _ _ => rfl)) (pa_cons (pe_lst (pa_cons (pv 1) pa_nil)) pa_nil))))
      (pss_cons (ps_setLc (i := 2) (own := [("tail", 3), ("head", 4)]) rfl sc_elders_of.nd rfl rfl (sw_true rfl rfl rfl (by decide +kernel)) (kp_tup K (pe_ix (kx_tup K) (pv 0) pe_int (fun _ _ => rfl))) (blkOk_by (own := [("tail", 3), ("head", 4)]) (N := ["net", "name", "tails", "tail", "head"]) (sc := defScope (top 8)) (by decide +kernel)) (fun _ _ _ _ _ => (kg_tup K 2 (by rfl) (pgs_cons (pg_name (i := 3) sc_elders_of.nd rfl (Or.inl rfl)) (pgs_cons (pg_name (i := 4) sc_elders_of.nd rfl (Or.inl rfl)) pgs_nil)))) (fun _ _ _ _ _ => (pts_one (pt_cmpR op_eq (pv 4) (pv 1) (nomark _)))) (fun _ _ _ _ _ => (pv 3)))
      (pss_one (ps_ret (pe_callTy (k_tuple K) (by rfl) T.b_tuple (by decide +kernel) (pa_cons (pe_callD G_in_order hr (pa_cons (pe_ix (kx_tup K) (pv 0) pe_int (fun _ _ => rfl)) (pa_cons (pv 2) pa_nil))) pa_nil)))))), ?_⟩
  refine q_dropW (ew_call2 (ew_p0 (ew_var rfl h0)) (ewn_lst1 (ew_var rfl h1)).ew fun a b H1 e1 p0 p1 => use_look_for p0 p1 (by simpa using hx)) fun _ H1 e1 _ => ?_
  replace h0 := Kp.kp e1 h0
  replace h1 := Kp.kp e1 h1
  refine q_asgW ((ewn_lcT (S := rStr) (T := sP 3 4 rStr rStr) (fun p => decide (p.2 = x)) (·.1) tgP (ew_p1 (ew_var rfl h0)) (by omega) (fun a σ' H' hT => ?_) (fun a ha σ' H2 e2 hT => ?_) (fun a ha hf σ' H2 e2 hT => ?_)).ew) fun v2 H2 e2 h2 => ?_
  · obtain ⟨y, z, hy, hz, rfl⟩ := hT
    rfl
  · obtain ⟨y, z, hy, hz, rfl⟩ := hT
    exact et_t (ew_eqS (ew_var rfl hz) (ew_var rfl (Kp.kp e2 h1)))
  · obtain ⟨y, z, hy, hz, rfl⟩ := hT
    exact ew_var rfl hy
  replace h0 := Kp.kp e2 h0
  refine w_ret (ewn_tuple (ewn_call2 (ew_p0 (ew_var rfl h0)) (ew_var rfl h2) fun a b H3 e3 p0 p1 => use_in_order p0 (by omega) p1).ew).ew fun v H3 e3 hv => q v H3 ((e1.trans e2).trans e3) ?_
  rw [eldersL_eq] at hv
  exact hv
theorem ok_heirs_of (T : Txt K mg) : OkD P w K mg base 2 "heirs_of" ["net", "name"] spHeirs := by
  have G_look_for := ok_look_for (P := P) (w := w) (base := base) T
  have G_in_order := ok_in_order (P := P) (w := w) (base := base) T
  refine T.d_heirs_of.ok sc_heirs_of (fun vs H Q E h => ?_) (fun cdv A outer s H vs Q E hr h => ?_)
  · obtain ⟨_, _, _, _, rfl, _⟩ := h
    rfl
  obtain ⟨N, x, v0, v1, rfl, h0, ho, h1, hx, q⟩ := h
  have hN := ho.few
  have hA := ho.fewA
  refine ⟨_, (pss_cons (ps_expr (pe_callD G_look_for hr (pa_cons (pe_ix (kx_tup K) (pv 0) pe_int (fun _ _ => rfl)) (pa_cons (pe_lst (pa_cons (pv 1) pa_nil)) pa_nil))))
      (pss_cons (ps_setLc (i := 2) (own := [("tail", 3), ("head", 4)]) rfl sc_heirs_of.nd rfl rfl (sw_true rfl rfl rfl (by decide +kernel)) (kp_tup K (pe_ix (kx_tup K) (pv 0) pe_int (fun _ _ => rfl))) (blkOk_by (own := [("tail", 3), ("head", 4)]) (N := ["net", "name", "heads", "tail", "head"]) (sc := defScope (top 9)) (by decide +kernel)) (fun _ _ _ _ _ => (kg_tup K 2 (by rfl) (pgs_cons (pg_name (i := 3) sc_heirs_of.nd rfl (Or.inl rfl)) (pgs_cons (pg_name (i := 4) sc_heirs_of.nd rfl (Or.inl rfl)) pgs_nil)))) (fun _ _ _ _ _ => (pts_one (pt_cmpR op_eq (pv 3) (pv 1) (nomark _)))) (fun _ _ _ _ _ => (pv 4)))
      (pss_one (ps_ret (pe_callTy (k_tuple K) (by rfl) T.b_tuple (by decide +kernel) (pa_cons (pe_callD G_in_order hr (pa_cons (pe_ix (kx_tup K) (pv 0) pe_int (fun _ _ => rfl)) (pa_cons (pv 2) pa_nil))) pa_nil)))))), ?_⟩
  refine q_dropW (ew_call2 (ew_p0 (ew_var rfl h0)) (ewn_lst1 (ew_var rfl h1)).ew fun a b H1 e1 p0 p1 => use_look_for p0 p1 (by simpa using hx)) fun _ H1 e1 _ => ?_
  replace h0 := Kp.kp e1 h0
  replace h1 := Kp.kp e1 h1
  refine q_asgW ((ewn_lcT (S := rStr) (T := sP 3 4 rStr rStr) (fun p => decide (p.1 = x)) (·.2) tgP (ew_p1 (ew_var rfl h0)) (by omega) (fun a σ' H' hT => ?_) (fun a ha σ' H2 e2 hT => ?_) (fun a ha hf σ' H2 e2 hT => ?_)).ew) fun v2 H2 e2 h2 => ?_
  · obtain ⟨y, z, hy, hz, rfl⟩ := hT
    rfl
  · obtain ⟨y, z, hy, hz, rfl⟩ := hT
    exact et_t (ew_eqS (ew_var rfl hy) (ew_var rfl (Kp.kp e2 h1)))
  · obtain ⟨y, z, hy, hz, rfl⟩ := hT
    exact ew_var rfl hz
  replace h0 := Kp.kp e2 h0
  refine w_ret (ewn_tuple (ewn_call2 (ew_p0 (ew_var rfl h0)) (ew_var rfl h2) fun a b H3 e3 p0 p1 => use_in_order p0 (by omega) p1).ew).ew fun v H3 e3 hv => q v H3 ((e1.trans e2).trans e3) ?_
  rw [heirsL_eq] at hv
  exact hv
end
end Am
/-! spread_along, names_below, names_above, look_at_asked, ties_at. -/
namespace Am
open PySem PySem.Spec PyProof.Rows L2 Evl
/-! ### spread_along: the plain part -/
def unm (ar : List (Str × Str)) (f : Str → Bool) : Nat := ar.countP fun a => !f a.2
def addF (f : Str → Bool) (z : Str) : Str → Bool := fun y => decide (y = z) || f y
theorem addF_same (f : Str → Bool) (z : Str) : addF f z z = true := by simp [addF]
theorem addF_up {f : Str → Bool} {z y : Str} (h : f y = true) : addF f z y = true := by simp [addF, h]
theorem unm_le (ar : List (Str × Str)) (f : Str → Bool) : unm ar f ≤ ar.length := List.countP_le_length
theorem unm_mono (f : Str → Bool) (z : Str) : ∀ ar : List (Str × Str), unm ar (addF f z) ≤ unm ar f
  | [] => Nat.le_refl _
  | a :: r => by
    have ih := unm_mono f z r
    unfold unm at ih ⊢
    rw [List.countP_cons, List.countP_cons]
    have : (if (!addF f z a.2) = true then 1 else 0) ≤ (if (!f a.2) = true then 1 else 0) := by
      by_cases h : f a.2 = true
      · rw [addF_up h, h]
        simp
      · simp only [Bool.not_eq_true] at h
        rw [h]
        split <;> simp
    omega
theorem unm_lt {f : Str → Bool} {z t : Str} (hz : f z = false) : ∀ {ar : List (Str × Str)}, (t, z) ∈ ar → unm ar (addF f z) + 1 ≤ unm ar f
  | [], h => by cases h
  | a :: r, h => by
    unfold unm
    rw [List.countP_cons, List.countP_cons]
    rcases List.mem_cons.mp h with e | h
    · subst e
      have ih := unm_mono f z r
      unfold unm at ih
      rw [addF_same, hz]
      simp
      omega
    · have ih := unm_lt hz h
      unfold unm at ih
      have : (if (!addF f z a.2) = true then 1 else 0) ≤ (if (!f a.2) = true then 1 else 0) := by
        by_cases h : f a.2 = true
        · rw [addF_up h, h]
          simp
        · simp only [Bool.not_eq_true] at h
          rw [h]
          split <;> simp
      omega
/-- what holds between two turns: f tells what is met, ws what waits, xc what is being handled -/
structure SpI (ar : List (Str × Str)) (x : Str) (f : Str → Bool) (ws : List Str) (xc : Str → Prop) : Prop where
  here : f x = true
  sound : ∀ y, f y = true → Reach ar x y
  wait : ∀ y ∈ ws, f y = true
  ok : ∀ y ∈ ws, SOk y
  closed : ∀ y, f y = true → y ∉ ws → ¬ xc y → ∀ z, (y, z) ∈ ar → f z = true
theorem SpI.start {ar : List (Str × Str)} {x : Str} (h : SOk x) : SpI ar x (addF (fun _ => false) x) [x] fun _ => False where
  here := addF_same _ _
  sound := fun y hy => by
    have e : y = x := by simpa [addF] using hy
    subst e
    exact .refl _
  wait := fun y hy => by
    have e : y = x := by simpa using hy
    subst e
    exact addF_same _ _
  ok := fun y hy => by
    have e : y = x := by simpa using hy
    subst e
    exact h
  closed := fun y hy hn => by
    have e : y = x := by simpa [addF] using hy
    subst e
    simp at hn
theorem SpI.pop {ar : List (Str × Str)} {x : Str} {f : Str → Bool} {ws : List Str} {y : Str} (h : SpI ar x f (ws ++ [y]) fun _ => False) : SpI ar x f ws (· = y) where
  here := h.here
  sound := h.sound
  wait := fun z hz => h.wait z (by simp [hz])
  ok := fun z hz => h.ok z (by simp [hz])
  closed := fun z hz hn hx => h.closed z hz (by simp [hn]; exact hx) id
theorem SpI.push {ar : List (Str × Str)} {x : Str} {f : Str → Bool} {ws : List Str} {y z : Str} (h : SpI ar x f ws (· = y)) (hy : f y = true) (ha : (y, z) ∈ ar) (hz : SOk z) : SpI ar x (addF f z) (ws ++ [z]) (· = y) where
  here := addF_up h.here
  sound := fun u hu => by
    by_cases e : u = z
    · subst e
      exact (h.sound y hy).step ha
    · exact h.sound u (by simpa [addF, e] using hu)
  wait := fun u hu => by
    rcases List.mem_append.mp hu with m | m
    · exact addF_up (h.wait u m)
    · have e : u = z := by simpa using m
      subst e
      exact addF_same _ _
  ok := fun u hu => by
    rcases List.mem_append.mp hu with m | m
    · exact h.ok u m
    · have e : u = z := by simpa using m
      subst e
      exact hz
  closed := fun u hu hn hx v hv => by
    have e : ¬ u = z := fun e => hn (by simp [e])
    have hu' : f u = true := by simpa [addF, e] using hu
    exact addF_up (h.closed u hu' (fun m => hn (by simp [m])) hx v hv)
theorem SpI.done {ar : List (Str × Str)} {x : Str} {f : Str → Bool} {ws : List Str} {y : Str} (h : SpI ar x f ws (· = y)) (c : ∀ z, (y, z) ∈ ar → f z = true) : SpI ar x f ws fun _ => False where
  here := h.here
  sound := h.sound
  wait := h.wait
  ok := h.ok
  closed := fun u hu hn _ => by
    by_cases e : u = y
    · subst e
      exact c
    · exact h.closed u hu hn e
theorem SpI.fin {ar : List (Str × Str)} {x : Str} {f : Str → Bool} (h : SpI ar x f [] fun _ => False) (y : Str) : f y = reachB ar x y := by
  refine reachB_of ⟨h.sound y, fun r => ?_⟩
  induction r with
  | refl => exact h.here
  | step _ e ih => exact h.closed _ ih (by simp) id _ e
section
variable {P : Program} {w : World} {K : PySem.W.Frag} {mg : Str → Option Value} {base : Heap}
def spSpread : Sp := fun vs H Q _ => ∃ ar x v0 v1, vs = [v0, v1] ∧ (rT rPair ar v0 H ∨ rL rPair ar v0 H) ∧ ar.length ≤ 1000 ∧ rStr x v1 H ∧ Ret (rSet (reachB ar x)) H Q
theorem use_spread {ar : List (Str × Str)} {x : Str} {v0 v1 : V} {H : Hp} (h0 : rT rPair ar v0 H) (hl : ar.length ≤ 1000) (h1 : rStr x v1 H) : Gives spSpread [v0, v1] H (rSet (reachB ar x)) := fun Q k E => ⟨ar, x, v0, v1, rfl, .inl h0, hl, h1, k⟩
theorem use_spreadL {ar : List (Str × Str)} {x : Str} {v0 v1 : V} {H : Hp} (h0 : rL rPair ar v0 H) (hl : ar.length ≤ 1000) (h1 : rStr x v1 H) : Gives spSpread [v0, v1] H (rSet (reachB ar x)) := fun Q k E => ⟨ar, x, v0, v1, rfl, .inr h0, hl, h1, k⟩
theorem sc_spread_along : FnScope ["arrows", "name", "met", "waiting", "here", "tail", "head"] ["arrows", "name"] (defScope (top 10)) := ⟨rfl, rfl, rfl, by decide +kernel, rfl, by decide +kernel, by decide +kernel⟩
theorem ok_spread_along (T : Txt K mg) : OkD P w K mg base 1 "spread_along" ["arrows", "name"] spSpread := by
  refine T.d_spread_along.ok sc_spread_along (fun vs H Q E h => ?_) (fun cdv A outer s H vs Q E hr h => ?_)
  · obtain ⟨_, _, _, _, rfl, _⟩ := h
    rfl
  obtain ⟨ar, x, v0, v1, rfl, h0, hl, h1, q⟩ := h
  rcases h0 with h0 | h0
  · refine ⟨_, (pss_cons (ps_set (i := 2) sc_spread_along.nd rfl (Or.inl rfl) (pe_disp (pps_cons (pv 1) pe_bl pps_nil) (by rfl) (by rfl) (fun z => by cases z) (by decide)))
      (pss_cons (ps_set (i := 3) sc_spread_along.nd rfl (Or.inl rfl) (pe_lst (pa_cons (pv 1) pa_nil)))
      (pss_cons (ps_while PassesOwn.never (pt_cmpR op_gt (pe_callB (k_len K) (by rfl) T.b_len PySem.boot_len (pa_cons (pv 3) pa_nil)) pe_int (nomark _))
      (pss_cons (ps_set (i := 4) sc_spread_along.nd rfl (Or.inl rfl) (pe_bm0 PySem.F.plainAttrs_list PySem.F.slot_list_pop PySem.F.type_list_pop mt_pop (pv 3)))
      (pss_one (ps_for PassesOwn.never rfl (kp_tup K (pv 0)) (kg_tup K 2 (by rfl) (pgs_cons (pg_name (i := 5) sc_spread_along.nd rfl (Or.inl rfl)) (pgs_cons (pg_name (i := 6) sc_spread_along.nd rfl (Or.inl rfl)) pgs_nil)))
      (pss_one (ps_if (PW.pt (pw_and (pt_cmpR op_eq (pv 5) (pv 4) (nomark _)) (pw_and1 (pt_cmp (pc_dnotin (hu_of hr) (pv 6) (pv 2))))))
      (pss_cons (ps_dput (hu_of hr) (pv 2) (pv 6) pe_bl rfl)
      (pss_one (ps_expr (pe_bm PySem.F.plainAttrs_list PySem.F.slot_list_append PySem.F.type_list_append mt_append (pv 3) (pa_cons (pv 6) pa_nil))))) pss_nil))))))
      (pss_one (ps_ret (pv 2)))))), ?_⟩
    obtain ⟨rfl, hxo⟩ := h1
    -- met = {name: True}
    refine fun p hp => ⟨_, rfl, ⟨upd_same, [((Sum.inr x : Key), V.bl true)], rfl, (by show 1 ≤ 15; decide), ?_⟩⟩
    rw [upd_upd]
    have e0 : mergeK [] [((Sum.inr x : Key), V.bl true)] = [((Sum.inr x : Key), V.bl true)] := rfl
    rw [e0]
    -- waiting = [name]
    refine q_asgN (ewn_lst1 (ew_var (P := rStr x) rfl ⟨rfl, hxo⟩)) fun l H1 hl0 e1 h2 => ?_
    obtain ⟨l', xs, el, h2, h3⟩ := h2
    cases el
    rw [al_str h3] at h2
    have hp1 : H1 p = some (.dK [((Sum.inr x : Key), V.bl true)]) := e1 p _ upd_same
    have npl : p ≠ l := ne_of_none upd_same hl0
    have hlH : H l = none := by rw [upd_ne npl.symm] at hl0; exact hl0
    have hin : ∀ a ∈ [p, l], H a = none := by
      intro a ha
      simp at ha
      rcases ha with rfl | rfl
      · exact hp
      · exact hlH
    -- while
    refine q_while (fun m σ' H' => ∃ f kvs ws y4 y5 y6, σ' = [some v0, some (.str x), some (.ref p), some (.ref l), y4, y5, y6] ∧ Ex H (hds [p, l] H') ∧ H' p = some (.dK kvs) ∧ H' l = some (.lst (ws.map V.str)) ∧
        (∀ y, (valV kvs (Sum.inr y : Key)).isSome = f y) ∧ kvs.length + unm ar f ≤ 1 + ar.length ∧ SpI ar x f ws (fun _ => False) ∧ ws.length + unm ar f ≤ 1 + ar.length ∧ m = ws.length + unm ar f) _
      ⟨addF (fun _ => false) x, _, [x], _, _, _, rfl, ex_hds ((Ex.new hp).trans e1) hin, hp1, h2, fun y => ?_, ?_, .start hxo, ?_, rfl⟩ fun m σ' H' hw => ?_
    · by_cases e : y = x
      · subst e
        rw [addF_same, valV_pos rfl]
        rfl
      · rw [valV_neg (fun z => e (Sum.inr.inj z).symm)]
        simp [addF, e, valV_nil]
    · have := unm_le ar (addF (fun _ => false) x)
      simp
      omega
    · have := unm_le ar (addF (fun _ => false) x)
      simp
      omega
    obtain ⟨f0, kvs0, ws, y4, y5, y6, rfl, B, hp', hl', hf, hk, I, hu, rfl⟩ := hw
    have npl' : p ≠ l := npl
    refine ⟨_, et_t (ew_I0b (ew_lenL (R := rStr) (as := ws) (ew_var rfl ⟨l, _, rfl, hl', al_strs ws I.ok⟩)) ew_i), fun hb H2 e2 => ?_, fun hb H2 e2 => ?_⟩
    · have hne : ws ≠ [] := by
        rintro rfl
        simp at hb
      obtain ⟨ws', y, rfl⟩ : ∃ ws' y, ws = ws' ++ [y] := ⟨ws.dropLast, ws.getLast hne, (List.dropLast_concat_getLast hne).symm⟩
      refine ⟨fun σ2 H2 => ∃ m', m' < (ws' ++ [y]).length + unm ar f0 ∧ ∃ f kvs ws y4 y5 y6, σ2 = [some v0, some (.str x), some (.ref p), some (.ref l), y4, y5, y6] ∧ Ex H (hds [p, l] H2) ∧ H2 p = some (.dK kvs) ∧ H2 l = some (.lst (ws.map V.str)) ∧
        (∀ y, (valV kvs (Sum.inr y : Key)).isSome = f y) ∧ kvs.length + unm ar f ≤ 1 + ar.length ∧ SpI ar x f ws (fun _ => False) ∧ ws.length + unm ar f ≤ 1 + ar.length ∧ m' = ws.length + unm ar f, fun σ2 H2 h => h, ?_⟩
      have hl2 : H2 l = some (.lst (ws'.map V.str ++ [.str y])) := by
        rw [e2 l _ hl']
        simp
      refine q_pop hl2 (ev_var rfl) fun H3 e3 => ?_
      have yok : SOk y := I.ok y (by simp)
      have hy : f0 y = true := I.wait y (by simp)
      have B3 : Ex H (hds [p, l] (upd H3 l (.lst (ws'.map V.str)))) := B.trans ((stp_ex (e2.trans e3)).trans (stp_upd (by simp)))
      have hp3 : upd H3 l (.lst (ws'.map V.str)) p = some (.dK kvs0) := by rw [upd_ne npl]; exact (e2.trans e3) p _ hp'
      refine w_forTv tgP (ev_var rfl) h0 (fun d t σ' H' => ∃ f kvs ws y5 y6, σ' = [some v0, some (.str x), some (.ref p), some (.ref l), some (.str y), y5, y6] ∧ Ex H (hds [p, l] H') ∧ H' p = some (.dK kvs) ∧ H' l = some (.lst (ws.map V.str)) ∧
        (∀ y, (valV kvs (Sum.inr y : Key)).isSome = f y) ∧ kvs.length + unm ar f ≤ 1 + ar.length ∧ SpI ar x f ws (· = y) ∧ ws.length + unm ar f < (ws' ++ [y]).length + unm ar f0 ∧ f y = true ∧ ∀ z, (y, z) ∈ d → f z = true)
        (fun H4 e4 => ⟨f0, kvs0, ws', _, _, rfl, B3.trans (stp_ex e4), e4 p _ hp3, e4 l _ upd_same, hf, hk, I.pop, by simp, hy, fun z hz => by cases hz⟩) (fun d t σ' H' h => ?_) (fun d a t σ' σ2 H' ed hw hT => ?_) fun σ' H' hw => ?_
      · obtain ⟨_, _, _, _, _, _, h, _⟩ := h
        exact h.trans hds_ex
      · obtain ⟨f, kvs, ws, y5, y6, rfl, B, hp', hl', hf, hk, I, hm, hy, hd⟩ := hw
        obtain ⟨c1, c2, ht, hh, rfl⟩ := hT
        have hmem : a ∈ ar := by rw [← ed]; simp
        have hD : Ew (tVar 2) ([some v0, some (.str x), some (.ref p), some (.ref l), some (.str y), some c1, some c2] : L2.St) H' (rSet f) := ew_var rfl ⟨p, kvs, rfl, hp', hf⟩
        refine s_if (et_and (et_t (ew_eqS (ew_var rfl ht) (ew_var (P := rStr y) rfl ⟨rfl, yok⟩))) fun _ => et_v (ew_niD (ew_var rfl hh) hD)) (fun hb H5 e5 => ?_) (fun hb H5 e5 => ?_)
        · rw [Bool.and_eq_true] at hb
          obtain ⟨hb1, hb2⟩ := hb
          have et : a.1 = y := of_decide_eq_true hb1
          have hz0 : f a.2 = false := by simpa using hb2
          have ha : (y, a.2) ∈ ar := by rw [← et]; exact hmem
          have hlt := unm_lt hz0 ha
          have u0 := unm_le ar f
          refine q_dput (e5 p _ hp') (ew_b (b := true)) (ev_var rfl) (ew_var rfl hh) (by omega) fun v H6 e6 hv => ?_
          have ev : v = .bl true := hv
          subst ev
          have hl6 : upd H6 p (.dK (putK kvs (Sum.inr a.2 : Key) (.bl true))) l = some (.lst (ws.map V.str)) := by rw [upd_ne npl.symm]; exact (e5.trans e6) l _ hl'
          refine w_app hl6 (ev_var rfl) (ew_var (P := rStr a.2) rfl hh) (by rw [List.length_map]; omega) fun v H7 e7 hv => ?_
          have ev : v = .str a.2 := hv.1
          subst ev
          refine ⟨addF f a.2, putK kvs (Sum.inr a.2 : Key) (.bl true), ws ++ [a.2], _, _, rfl, ?_, ?_, ?_, fun u => ?_, ?_, I.push hy ha hh.2, ?_, addF_up hy, fun z hz => ?_⟩
          · exact B.trans ((stp_ex (e5.trans e6)).trans ((stp_upd (by simp)).trans ((stp_ex e7).trans (stp_upd (by simp)))))
          · rw [upd_ne npl]
            exact e7 p _ upd_same
          · rw [upd_same, List.map_append]
            rfl
          · rw [put_isSome, hf]
            rfl
          · have := length_putK kvs (Sum.inr a.2 : Key) (.bl true)
            omega
          · rw [List.length_append, List.length_singleton]
            omega
          · rcases List.mem_append.mp hz with m | m
            · exact addF_up (hd z m)
            · have e : (y, z) = a := by simpa using m
              rw [← e]
              exact addF_same _ _
        · refine ⟨f, kvs, ws, _, _, rfl, B.trans (stp_ex e5), e5 p _ hp', e5 l _ hl', hf, hk, I, hm, hy, fun z hz => ?_⟩
          rcases List.mem_append.mp hz with m | m
          · exact hd z m
          · have e : (y, z) = a := by simpa using m
            rw [← e] at hb
            simpa using hb
      · obtain ⟨f, kvs, ws, y5, y6, rfl, B, hp', hl', hf, hk, I, hm, hy, hd⟩ := hw
        exact ⟨_, hm, f, kvs, ws, _, _, _, rfl, B, hp', hl', hf, hk, I.done hd, by omega, rfl⟩
    · have e : ws = [] := by
        cases ws with
        | nil => rfl
        | cons a r => simp at hb
      subst e
      refine w_ret (ew_var (P := rSet (reachB ar x)) rfl ⟨p, kvs0, rfl, e2 p _ hp', fun y => by rw [hf]; exact I.fin y⟩) fun v H3 e3 hv => q v H3 ((B.trans hds_ex).trans (e2.trans e3)) hv
  · refine ⟨_, (pss_cons (ps_set (i := 2) sc_spread_along.nd rfl (Or.inl rfl) (pe_disp (pps_cons (pv 1) pe_bl pps_nil) (by rfl) (by rfl) (fun z => by cases z) (by decide)))
      (pss_cons (ps_set (i := 3) sc_spread_along.nd rfl (Or.inl rfl) (pe_lst (pa_cons (pv 1) pa_nil)))
      (pss_cons (ps_while PassesOwn.never (pt_cmpR op_gt (pe_callB (k_len K) (by rfl) T.b_len PySem.boot_len (pa_cons (pv 3) pa_nil)) pe_int (nomark _))
      (pss_cons (ps_set (i := 4) sc_spread_along.nd rfl (Or.inl rfl) (pe_bm0 PySem.F.plainAttrs_list PySem.F.slot_list_pop PySem.F.type_list_pop mt_pop (pv 3)))
      (pss_one (ps_for PassesOwn.never rfl (kp_list K (pv 0)) (kg_tup K 2 (by rfl) (pgs_cons (pg_name (i := 5) sc_spread_along.nd rfl (Or.inl rfl)) (pgs_cons (pg_name (i := 6) sc_spread_along.nd rfl (Or.inl rfl)) pgs_nil)))
      (pss_one (ps_if (PW.pt (pw_and (pt_cmpR op_eq (pv 5) (pv 4) (nomark _)) (pw_and1 (pt_cmp (pc_dnotin (hu_of hr) (pv 6) (pv 2))))))
      (pss_cons (ps_dput (hu_of hr) (pv 2) (pv 6) pe_bl rfl)
      (pss_one (ps_expr (pe_bm PySem.F.plainAttrs_list PySem.F.slot_list_append PySem.F.type_list_append mt_append (pv 3) (pa_cons (pv 6) pa_nil))))) pss_nil))))))
      (pss_one (ps_ret (pv 2)))))), ?_⟩
    obtain ⟨rfl, hxo⟩ := h1
    -- met = {name: True}
    refine fun p hp => ⟨_, rfl, ⟨upd_same, [((Sum.inr x : Key), V.bl true)], rfl, (by show 1 ≤ 15; decide), ?_⟩⟩
    rw [upd_upd]
    have e0 : mergeK [] [((Sum.inr x : Key), V.bl true)] = [((Sum.inr x : Key), V.bl true)] := rfl
    rw [e0]
    -- waiting = [name]
    refine q_asgN (ewn_lst1 (ew_var (P := rStr x) rfl ⟨rfl, hxo⟩)) fun l H1 hl0 e1 h2 => ?_
    obtain ⟨l', xs, el, h2, h3⟩ := h2
    cases el
    rw [al_str h3] at h2
    have hp1 : H1 p = some (.dK [((Sum.inr x : Key), V.bl true)]) := e1 p _ upd_same
    have npl : p ≠ l := ne_of_none upd_same hl0
    have hlH : H l = none := by rw [upd_ne npl.symm] at hl0; exact hl0
    have hin : ∀ a ∈ [p, l], H a = none := by
      intro a ha
      simp at ha
      rcases ha with rfl | rfl
      · exact hp
      · exact hlH
    -- while
    refine q_while (fun m σ' H' => ∃ f kvs ws y4 y5 y6, σ' = [some v0, some (.str x), some (.ref p), some (.ref l), y4, y5, y6] ∧ Ex H (hds [p, l] H') ∧ H' p = some (.dK kvs) ∧ H' l = some (.lst (ws.map V.str)) ∧
        (∀ y, (valV kvs (Sum.inr y : Key)).isSome = f y) ∧ kvs.length + unm ar f ≤ 1 + ar.length ∧ SpI ar x f ws (fun _ => False) ∧ ws.length + unm ar f ≤ 1 + ar.length ∧ m = ws.length + unm ar f) _
      ⟨addF (fun _ => false) x, _, [x], _, _, _, rfl, ex_hds ((Ex.new hp).trans e1) hin, hp1, h2, fun y => ?_, ?_, .start hxo, ?_, rfl⟩ fun m σ' H' hw => ?_
    · by_cases e : y = x
      · subst e
        rw [addF_same, valV_pos rfl]
        rfl
      · rw [valV_neg (fun z => e (Sum.inr.inj z).symm)]
        simp [addF, e, valV_nil]
    · have := unm_le ar (addF (fun _ => false) x)
      simp
      omega
    · have := unm_le ar (addF (fun _ => false) x)
      simp
      omega
    obtain ⟨f0, kvs0, ws, y4, y5, y6, rfl, B, hp', hl', hf, hk, I, hu, rfl⟩ := hw
    have npl' : p ≠ l := npl
    refine ⟨_, et_t (ew_I0b (ew_lenL (R := rStr) (as := ws) (ew_var rfl ⟨l, _, rfl, hl', al_strs ws I.ok⟩)) ew_i), fun hb H2 e2 => ?_, fun hb H2 e2 => ?_⟩
    · have hne : ws ≠ [] := by
        rintro rfl
        simp at hb
      obtain ⟨ws', y, rfl⟩ : ∃ ws' y, ws = ws' ++ [y] := ⟨ws.dropLast, ws.getLast hne, (List.dropLast_concat_getLast hne).symm⟩
      refine ⟨fun σ2 H2 => ∃ m', m' < (ws' ++ [y]).length + unm ar f0 ∧ ∃ f kvs ws y4 y5 y6, σ2 = [some v0, some (.str x), some (.ref p), some (.ref l), y4, y5, y6] ∧ Ex H (hds [p, l] H2) ∧ H2 p = some (.dK kvs) ∧ H2 l = some (.lst (ws.map V.str)) ∧
        (∀ y, (valV kvs (Sum.inr y : Key)).isSome = f y) ∧ kvs.length + unm ar f ≤ 1 + ar.length ∧ SpI ar x f ws (fun _ => False) ∧ ws.length + unm ar f ≤ 1 + ar.length ∧ m' = ws.length + unm ar f, fun σ2 H2 h => h, ?_⟩
      have hl2 : H2 l = some (.lst (ws'.map V.str ++ [.str y])) := by
        rw [e2 l _ hl']
        simp
      refine q_pop hl2 (ev_var rfl) fun H3 e3 => ?_
      have yok : SOk y := I.ok y (by simp)
      have hy : f0 y = true := I.wait y (by simp)
      have B3 : Ex H (hds [p, l] (upd H3 l (.lst (ws'.map V.str)))) := B.trans ((stp_ex (e2.trans e3)).trans (stp_upd (by simp)))
      have hp3 : upd H3 l (.lst (ws'.map V.str)) p = some (.dK kvs0) := by rw [upd_ne npl]; exact (e2.trans e3) p _ hp'
      refine w_forLv tgP (ev_var rfl) h0 (fun d t σ' H' => ∃ f kvs ws y5 y6, σ' = [some v0, some (.str x), some (.ref p), some (.ref l), some (.str y), y5, y6] ∧ Ex H (hds [p, l] H') ∧ H' p = some (.dK kvs) ∧ H' l = some (.lst (ws.map V.str)) ∧
        (∀ y, (valV kvs (Sum.inr y : Key)).isSome = f y) ∧ kvs.length + unm ar f ≤ 1 + ar.length ∧ SpI ar x f ws (· = y) ∧ ws.length + unm ar f < (ws' ++ [y]).length + unm ar f0 ∧ f y = true ∧ ∀ z, (y, z) ∈ d → f z = true)
        (fun H4 e4 => ⟨f0, kvs0, ws', _, _, rfl, B3.trans (stp_ex e4), e4 p _ hp3, e4 l _ upd_same, hf, hk, I.pop, by simp, hy, fun z hz => by cases hz⟩) (fun d t σ' H' h => ?_) (fun d a t σ' σ2 H' ed hw hT => ?_) fun σ' H' hw => ?_
      · obtain ⟨_, _, _, _, _, _, h, _⟩ := h
        exact h.trans hds_ex
      · obtain ⟨f, kvs, ws, y5, y6, rfl, B, hp', hl', hf, hk, I, hm, hy, hd⟩ := hw
        obtain ⟨c1, c2, ht, hh, rfl⟩ := hT
        have hmem : a ∈ ar := by rw [← ed]; simp
        have hD : Ew (tVar 2) ([some v0, some (.str x), some (.ref p), some (.ref l), some (.str y), some c1, some c2] : L2.St) H' (rSet f) := ew_var rfl ⟨p, kvs, rfl, hp', hf⟩
        refine s_if (et_and (et_t (ew_eqS (ew_var rfl ht) (ew_var (P := rStr y) rfl ⟨rfl, yok⟩))) fun _ => et_v (ew_niD (ew_var rfl hh) hD)) (fun hb H5 e5 => ?_) (fun hb H5 e5 => ?_)
        · rw [Bool.and_eq_true] at hb
          obtain ⟨hb1, hb2⟩ := hb
          have et : a.1 = y := of_decide_eq_true hb1
          have hz0 : f a.2 = false := by simpa using hb2
          have ha : (y, a.2) ∈ ar := by rw [← et]; exact hmem
          have hlt := unm_lt hz0 ha
          have u0 := unm_le ar f
          refine q_dput (e5 p _ hp') (ew_b (b := true)) (ev_var rfl) (ew_var rfl hh) (by omega) fun v H6 e6 hv => ?_
          have ev : v = .bl true := hv
          subst ev
          have hl6 : upd H6 p (.dK (putK kvs (Sum.inr a.2 : Key) (.bl true))) l = some (.lst (ws.map V.str)) := by rw [upd_ne npl.symm]; exact (e5.trans e6) l _ hl'
          refine w_app hl6 (ev_var rfl) (ew_var (P := rStr a.2) rfl hh) (by rw [List.length_map]; omega) fun v H7 e7 hv => ?_
          have ev : v = .str a.2 := hv.1
          subst ev
          refine ⟨addF f a.2, putK kvs (Sum.inr a.2 : Key) (.bl true), ws ++ [a.2], _, _, rfl, ?_, ?_, ?_, fun u => ?_, ?_, I.push hy ha hh.2, ?_, addF_up hy, fun z hz => ?_⟩
          · exact B.trans ((stp_ex (e5.trans e6)).trans ((stp_upd (by simp)).trans ((stp_ex e7).trans (stp_upd (by simp)))))
          · rw [upd_ne npl]
            exact e7 p _ upd_same
          · rw [upd_same, List.map_append]
            rfl
          · rw [put_isSome, hf]
            rfl
          · have := length_putK kvs (Sum.inr a.2 : Key) (.bl true)
            omega
          · rw [List.length_append, List.length_singleton]
            omega
          · rcases List.mem_append.mp hz with m | m
            · exact addF_up (hd z m)
            · have e : (y, z) = a := by simpa using m
              rw [← e]
              exact addF_same _ _
        · refine ⟨f, kvs, ws, _, _, rfl, B.trans (stp_ex e5), e5 p _ hp', e5 l _ hl', hf, hk, I, hm, hy, fun z hz => ?_⟩
          rcases List.mem_append.mp hz with m | m
          · exact hd z m
          · have e : (y, z) = a := by simpa using m
            rw [← e] at hb
            simpa using hb
      · obtain ⟨f, kvs, ws, y5, y6, rfl, B, hp', hl', hf, hk, I, hm, hy, hd⟩ := hw
        exact ⟨_, hm, f, kvs, ws, _, _, _, rfl, B, hp', hl', hf, hk, I.done hd, by omega, rfl⟩
    · have e : ws = [] := by
        cases ws with
        | nil => rfl
        | cons a r => simp at hb
      subst e
      refine w_ret (ew_var (P := rSet (reachB ar x)) rfl ⟨p, kvs0, rfl, e2 p _ hp', fun y => by rw [hf]; exact I.fin y⟩) fun v H3 e3 hv => q v H3 ((B.trans hds_ex).trans (e2.trans e3)) hv
end
end Am
/-! names_below, names_above, look_at_asked, ties_at. -/
namespace Am
open PySem PySem.Spec PyProof.Rows L2 Evl
noncomputable def belowL (N : List Str × List (Str × Str)) (x : Str) : List Str := N.1.filter (reachB N.2 x)
noncomputable def aboveL (N : List Str × List (Str × Str)) (x : Str) : List Str := N.1.filter fun y => reachB N.2 y x
def nearL (N : List Str × List (Str × Str)) (x : Str) : List Str := N.1.filter fun y => decide (Tied N.2 x y)
theorem mem_belowL {N : List Str × List (Str × Str)} {x y : Str} : y ∈ belowL N x ↔ y ∈ N.1 ∧ Reach N.2 x y := by unfold belowL; rw [List.mem_filter, reachB_iff]
theorem mem_aboveL {N : List Str × List (Str × Str)} {x y : Str} : y ∈ aboveL N x ↔ y ∈ N.1 ∧ Reach N.2 y x := by unfold aboveL; rw [List.mem_filter, reachB_iff]
theorem mem_nearL {N : List Str × List (Str × Str)} {x y : Str} : y ∈ nearL N x ↔ y ∈ N.1 ∧ Tied N.2 x y := by unfold nearL; rw [List.mem_filter, decide_eq_true_iff]
theorem mem_eldersL {N : List Str × List (Str × Str)} {x y : Str} : y ∈ eldersL N x ↔ y ∈ N.1 ∧ (y, x) ∈ N.2 := by unfold eldersL; rw [List.mem_filter, decide_eq_true_iff]
theorem mem_heirsL {N : List Str × List (Str × Str)} {x y : Str} : y ∈ heirsL N x ↔ y ∈ N.1 ∧ (x, y) ∈ N.2 := by unfold heirsL; rw [List.mem_filter, decide_eq_true_iff]
theorem reachB_flip {ar : List (Str × Str)} {x y : Str} : reachB (flip ar) x y = reachB ar y x := by rw [Bool.eq_iff_iff, reachB_iff, reachB_iff, reach_flip]
section
variable {P : Program} {w : World} {K : PySem.W.Frag} {mg : Str → Option Value} {base : Heap}
def spBelow : Sp := fun vs H Q _ => ∃ N x v0 v1, vs = [v0, v1] ∧ rNet N v0 H ∧ NetOk N ∧ rStr x v1 H ∧ x ∈ N.1 ∧ RetN (rL rStr (belowL N x)) H Q
def spAbove : Sp := fun vs H Q _ => ∃ N x v0 v1, vs = [v0, v1] ∧ rNet N v0 H ∧ NetOk N ∧ rStr x v1 H ∧ x ∈ N.1 ∧ RetN (rL rStr (aboveL N x)) H Q
theorem use_below {N : List Str × List (Str × Str)} {x : Str} {v0 v1 : V} {H : Hp} (h0 : rNet N v0 H) (ho : NetOk N) (h1 : rStr x v1 H) (hx : x ∈ N.1) : GivesN spBelow [v0, v1] H (rL rStr (belowL N x)) := fun Q k E => ⟨N, x, v0, v1, rfl, h0, ho, h1, hx, k⟩
theorem use_above {N : List Str × List (Str × Str)} {x : Str} {v0 v1 : V} {H : Hp} (h0 : rNet N v0 H) (ho : NetOk N) (h1 : rStr x v1 H) (hx : x ∈ N.1) : GivesN spAbove [v0, v1] H (rL rStr (aboveL N x)) := fun Q k E => ⟨N, x, v0, v1, rfl, h0, ho, h1, hx, k⟩
theorem sc_names_below : FnScope ["net", "name"] ["net", "name"] (defScope (top 11)) := ⟨rfl, rfl, rfl, by decide +kernel, rfl, by decide +kernel, by decide +kernel⟩
theorem sc_names_above : FnScope ["net", "name", "turned", "tail", "head"] ["net", "name"] (defScope (top 12)) := ⟨rfl, rfl, rfl, by decide +kernel, rfl, by decide +kernel, by decide +kernel⟩
theorem ok_names_below (T : Txt K mg) : OkD P w K mg base 2 "names_below" ["net", "name"] spBelow := by
  have G_look_for := ok_look_for (P := P) (w := w) (base := base) T
  have G_in_order := ok_in_order (P := P) (w := w) (base := base) T
  have G_spread_along := ok_spread_along (P := P) (w := w) (base := base) T
  refine T.d_names_below.ok sc_names_below (fun vs H Q E h => ?_) (fun cdv A outer s H vs Q E hr h => ?_)
  · obtain ⟨_, _, _, _, rfl, _⟩ := h
    rfl
  obtain ⟨N, x, v0, v1, rfl, h0, ho, h1, hx, q⟩ := h
  have hN := ho.few
  refine ⟨_, (pss_cons (ps_expr (pe_callD G_look_for hr (pa_cons (pe_ix (kx_tup K) (pv 0) pe_int (fun _ _ => rfl)) (pa_cons (pe_lst (pa_cons (pv 1) pa_nil)) pa_nil))))
      (pss_one (ps_ret (pe_callD G_in_order hr (pa_cons (pe_ix (kx_tup K) (pv 0) pe_int (fun _ _ => rfl)) (pa_cons (pe_callD G_spread_along hr (pa_cons (pe_ix (kx_tup K) (pv 0) pe_int (fun _ _ => rfl)) (pa_cons (pv 1) pa_nil))) pa_nil)))))), ?_⟩
  refine q_dropW (ew_call2 (ew_p0 (ew_var rfl h0)) (ewn_lst1 (ew_var rfl h1)).ew fun a b H1 e1 p0 p1 => use_look_for p0 p1 (by simpa using hx)) fun _ H1 e1 _ => ?_
  replace h0 := Kp.kp e1 h0
  replace h1 := Kp.kp e1 h1
  exact w_retN (ewn_call2 (ew_p0 (ew_var rfl h0)) (ew_call2 (ew_p1 (ew_var rfl h0)) (ew_var rfl h1) fun a b H2 e2 p0 p1 => use_spread p0 ho.fewA p1) fun a b H3 e3 p0 p1 => use_in_orderD p0 (by omega) p1) fun v H3 n3 e3 hv => q v H3 (fresh_back e1 n3) (e1.trans e3) hv
theorem ok_names_above (T : Txt K mg) : OkD P w K mg base 2 "names_above" ["net", "name"] spAbove := by
  have G_look_for := ok_look_for (P := P) (w := w) (base := base) T
  have G_in_order := ok_in_order (P := P) (w := w) (base := base) T
  have G_spread_along := ok_spread_along (P := P) (w := w) (base := base) T
  refine T.d_names_above.ok sc_names_above (fun vs H Q E h => ?_) (fun cdv A outer s H vs Q E hr h => ?_)
  · obtain ⟨_, _, _, _, rfl, _⟩ := h
    rfl
  obtain ⟨N, x, v0, v1, rfl, h0, ho, h1, hx, q⟩ := h
  have hN := ho.few
  have hA := ho.fewA
  refine ⟨_, (pss_cons (ps_expr (pe_callD G_look_for hr (pa_cons (pe_ix (kx_tup K) (pv 0) pe_int (fun _ _ => rfl)) (pa_cons (pe_lst (pa_cons (pv 1) pa_nil)) pa_nil))))
      (pss_cons (ps_setLc (i := 2) (own := [("tail", 3), ("head", 4)]) rfl sc_names_above.nd rfl rfl (sw_true rfl rfl rfl (by decide +kernel)) (kp_tup K (pe_ix (kx_tup K) (pv 0) pe_int (fun _ _ => rfl))) (blkOk_by (own := [("tail", 3), ("head", 4)]) (N := ["net", "name", "turned", "tail", "head"]) (sc := defScope (top 12)) (by decide +kernel)) (fun _ _ _ _ _ => (kg_tup K 2 (by rfl) (pgs_cons (pg_name (i := 3) sc_names_above.nd rfl (Or.inl rfl)) (pgs_cons (pg_name (i := 4) sc_names_above.nd rfl (Or.inl rfl)) pgs_nil)))) (fun _ _ _ _ _ => pts_nil) (fun _ _ _ _ _ => (pe_tup (pa_cons (pv 4) (pa_cons (pv 3) pa_nil)))))
      (pss_one (ps_ret (pe_callD G_in_order hr (pa_cons (pe_ix (kx_tup K) (pv 0) pe_int (fun _ _ => rfl)) (pa_cons (pe_callD G_spread_along hr (pa_cons (pv 2) (pa_cons (pv 1) pa_nil))) pa_nil))))))), ?_⟩
  refine q_dropW (ew_call2 (ew_p0 (ew_var rfl h0)) (ewn_lst1 (ew_var rfl h1)).ew fun a b H1 e1 p0 p1 => use_look_for p0 p1 (by simpa using hx)) fun _ H1 e1 _ => ?_
  replace h0 := Kp.kp e1 h0
  replace h1 := Kp.kp e1 h1
  refine q_asgW ((ewn_lcT (S := rPair) (T := sP 3 4 rStr rStr) (fun _ => true) (fun p => (p.2, p.1)) tgP (ew_p1 (ew_var rfl h0)) (by omega) (fun a σ' H' hT => ?_) (fun a ha σ' H2 e2 hT => ?_) (fun a ha hf σ' H2 e2 hT => ?_)).ew) fun v2 H2 e2 h2 => ?_
  · obtain ⟨y, z, hy, hz, rfl⟩ := hT
    rfl
  · exact fun H1 e Q q => q H1 (Ex.refl H1)
  · obtain ⟨y, z, hy, hz, rfl⟩ := hT
    exact (ewn_tup2 (ew_var rfl hz) (ew_var rfl hy)).ew
  replace h0 := Kp.kp e2 h0
  replace h1 := Kp.kp e2 h1
  have ef : (N.2.filter fun _ => true).map (fun p : Str × Str => (p.2, p.1)) = flip N.2 := by
    unfold flip
    rw [List.filter_eq_self.mpr fun _ _ => rfl]
  have el : (flip N.2).length = N.2.length := by unfold flip; rw [List.length_map]
  rw [ef] at h2
  refine w_retN (ewn_call2 (ew_p0 (ew_var rfl h0)) (ew_call2 (ew_var rfl h2) (ew_var rfl h1) fun a b H2 e2 p0 p1 => use_spreadL p0 (by omega) p1) fun a b H3 e3 p0 p1 => use_in_orderD p0 (by omega) p1) fun v H3 n3 e3 hv => q v H3 (fresh_back (e1.trans e2) n3) ((e1.trans e2).trans e3) ?_
  have e9 : N.1.filter (reachB (flip N.2) x) = aboveL N x := List.filter_congr fun y _ => reachB_flip
  rw [e9] at hv
  exact hv
/-! ### look_at_asked -/
def spAsked : Sp := fun vs H Q _ => ∃ ns one other held v0 v1 v2 v3, vs = [v0, v1, v2, v3] ∧ rT rStr ns v0 H ∧ rStr one v1 H ∧ rStr other v2 H ∧ rL rStr held v3 H ∧ (∀ x ∈ one :: other :: held, x ∈ ns) ∧ (one :: other :: held).Nodup ∧ held.length ≤ 100 ∧ Ret (rNone ()) H Q
theorem use_asked {ns held : List Str} {one other : Str} {v0 v1 v2 v3 : V} {H : Hp} (h0 : rT rStr ns v0 H) (h1 : rStr one v1 H) (h2 : rStr other v2 H) (h3 : rL rStr held v3 H) (hm : ∀ x ∈ one :: other :: held, x ∈ ns) (hn : (one :: other :: held).Nodup) (hl : held.length ≤ 100) :
    Gives spAsked [v0, v1, v2, v3] H (rNone ()) := fun Q k E => ⟨ns, one, other, held, v0, v1, v2, v3, rfl, h0, h1, h2, h3, hm, hn, hl, k⟩
theorem sc_look_at_asked : FnScope ["names", "one", "other", "held", "some"] ["names", "one", "other", "held"] (defScope (top 14)) := ⟨rfl, rfl, rfl, by decide +kernel, rfl, by decide +kernel, by decide +kernel⟩
theorem ok_look_at_asked (T : Txt K mg) : OkD P w K mg base 2 "look_at_asked" ["names", "one", "other", "held"] spAsked := by
  have G_look_for := ok_look_for (P := P) (w := w) (base := base) T
  have G_look_once := ok_look_once (P := P) (w := w) (base := base) T
  refine T.d_look_at_asked.ok sc_look_at_asked (fun vs H Q E h => ?_) (fun cdv A outer s H vs Q E hr h => ?_)
  · obtain ⟨_, _, _, _, _, _, _, _, rfl, _⟩ := h
    rfl
  obtain ⟨ns, one, other, held, v0, v1, v2, v3, rfl, h0, h1, h2, h3, hm, hn, hl, q⟩ := h
  refine ⟨_, (pss_cons (ps_set (i := 4) sc_look_at_asked.nd rfl (Or.inl rfl) (pe_op op_cat (pe_lst (pa_cons (pv 1) (pa_cons (pv 2) pa_nil))) (pe_callTy (k_list K) (by rfl) T.b_list (by decide +kernel) (pa_cons (pv 3) pa_nil))))
      (pss_cons (ps_expr (pe_callD G_look_for hr (pa_cons (pv 0) (pa_cons (pv 4) pa_nil))))
      (pss_one (ps_expr (pe_callD G_look_once hr (pa_cons (pv 4) pa_nil)))))), ?_⟩
  refine q_asgW (ewn_cat (ewn_lst2 (ew_var rfl h1) (ew_var rfl h2)).ew (ewn_list (ew_var rfl h3)).ew (by simp; omega)).ew fun v4 H1 e1 h4 => ?_
  refine q_dropW (ew_call2 (ew_var rfl (Kp.kp e1 h0)) (ew_var rfl h4) fun a b H2 e2 p0 p1 => use_look_for p0 p1 (by simpa using hm)) fun _ H2 e2 _ => ?_
  exact w_drop (ew_call1 (ew_var rfl (Kp.kp e2 h4)) fun a H3 e3 p0 => use_look_once p0 (by simpa using hn) (by simp; omega)) fun _ H3 e3 _ => q .non H3 ((e1.trans e2).trans e3) rfl
/-! ### ties_at -/
def spTies : Sp := fun vs H Q _ => ∃ N v0, vs = [v0] ∧ rNet N v0 H ∧ NetOk N ∧ Ret (rNear N.1 (nearL N)) H Q
theorem use_ties {N : List Str × List (Str × Str)} {v0 : V} {H : Hp} (h0 : rNet N v0 H) (ho : NetOk N) : Gives spTies [v0] H (rNear N.1 (nearL N)) := fun Q k E => ⟨N, v0, rfl, h0, ho, k⟩
theorem nearL_eq (N : List Str × List (Str × Str)) (x : Str) : (N.1.filter fun t => decide (t ∈ (N.2.filter fun p => decide (p.2 = x)).map (·.1) ++ (N.2.filter fun p => decide (p.1 = x)).map (·.2))) = nearL N x := by
  unfold nearL
  refine List.filter_congr fun t _ => ?_
  rw [Bool.eq_iff_iff, decide_eq_true_iff, decide_eq_true_iff, List.mem_append, List.mem_map, List.mem_map]
  constructor
  · rintro (⟨⟨a, b⟩, h, rfl⟩ | ⟨⟨a, b⟩, h, rfl⟩)
    · obtain ⟨h1, h2⟩ := List.mem_filter.mp h
      have e : b = x := of_decide_eq_true h2
      subst e
      exact .inr h1
    · obtain ⟨h1, h2⟩ := List.mem_filter.mp h
      have e : a = x := of_decide_eq_true h2
      subst e
      exact .inl h1
  · rintro (h | h)
    · exact .inr ⟨(x, t), List.mem_filter.mpr ⟨h, decide_eq_true rfl⟩, rfl⟩
    · exact .inl ⟨(t, x), List.mem_filter.mpr ⟨h, decide_eq_true rfl⟩, rfl⟩
theorem sc_ties_at : FnScope ["net", "near", "name", "tails", "heads", "tail", "head"] ["net"] (defScope (top 15)) := ⟨rfl, rfl, rfl, by decide +kernel, rfl, by decide +kernel, by decide +kernel⟩
theorem ok_ties_at (T : Txt K mg) : OkD P w K mg base 2 "ties_at" ["net"] spTies := by
  have G_in_order := ok_in_order (P := P) (w := w) (base := base) T
  refine T.d_ties_at.ok sc_ties_at (fun vs H Q E h => ?_) (fun cdv A outer s H vs Q E hr h => ?_)
  · obtain ⟨_, _, rfl, _⟩ := h
    rfl
  obtain ⟨N, v0, rfl, h0, ho, q⟩ := h
  have hN := ho.few
  have hA := ho.fewA
  refine ⟨_, (pss_cons (ps_set (i := 1) sc_ties_at.nd rfl (Or.inl rfl) pe_dnewK)
      (pss_cons (ps_for PassesOwn.never rfl (kp_tup K (pe_ix (kx_tup K) (pv 0) pe_int (fun _ _ => rfl))) (pg_name (i := 2) sc_ties_at.nd rfl (Or.inr rfl))
      (pss_cons (ps_setLc (i := 3) (own := [("tail", 5), ("head", 6)]) rfl sc_ties_at.nd rfl rfl (sw_true rfl rfl rfl (by decide +kernel)) (kp_tup K (pe_ix (kx_tup K) (pv 0) pe_int (fun _ _ => rfl))) (blkOk_by (own := [("tail", 5), ("head", 6)]) (N := ["net", "near", "name", "tails", "heads", "tail", "head"]) (sc := defScope (top 15)) (by decide +kernel)) (fun _ _ _ _ _ => (kg_tup K 2 (by rfl) (pgs_cons (pg_name (i := 5) sc_ties_at.nd rfl (Or.inl rfl)) (pgs_cons (pg_name (i := 6) sc_ties_at.nd rfl (Or.inl rfl)) pgs_nil)))) (fun _ _ _ _ _ => (pts_one (pt_cmpR op_eq (pv 6) (pv 2) (nomark _)))) (fun _ _ _ _ _ => (pv 5)))
      (pss_cons (ps_setLc (i := 4) (own := [("tail", 5), ("head", 6)]) rfl sc_ties_at.nd rfl rfl (sw_true rfl rfl rfl (by decide +kernel)) (kp_tup K (pe_ix (kx_tup K) (pv 0) pe_int (fun _ _ => rfl))) (blkOk_by (own := [("tail", 5), ("head", 6)]) (N := ["net", "near", "name", "tails", "heads", "tail", "head"]) (sc := defScope (top 15)) (by decide +kernel)) (fun _ _ _ _ _ => (kg_tup K 2 (by rfl) (pgs_cons (pg_name (i := 5) sc_ties_at.nd rfl (Or.inl rfl)) (pgs_cons (pg_name (i := 6) sc_ties_at.nd rfl (Or.inl rfl)) pgs_nil)))) (fun _ _ _ _ _ => (pts_one (pt_cmpR op_eq (pv 5) (pv 2) (nomark _)))) (fun _ _ _ _ _ => (pv 6)))
      (pss_one (ps_dput (hu_of hr) (pv 1) (pv 2) (pe_callD G_in_order hr (pa_cons (pe_ix (kx_tup K) (pv 0) pe_int (fun _ _ => rfl)) (pa_cons (pe_op op_cat (pv 3) (pv 4)) pa_nil))) rfl)))))
      (pss_one (ps_ret (pv 1))))), ?_⟩
  refine fun p hp => ?_
  have hin : ∀ a ∈ [p], H a = none := by simpa using hp
  obtain ⟨n, a0, b0, rfl, hn, hns, har⟩ := id h0
  refine q_forTv (R := rStr) (as := N.1) (Hs := H) tgN (ev_p0 (ev_var rfl) ((Ex.new hp) n _ hn)) hns (fun d t σ' H' => ∃ kvs y2 y3 y4 y5 y6, σ' = [some (.ref n), some (.ref p), y2, y3, y4, y5, y6] ∧ Ex H (hds [p] H') ∧ H' p = some (.dK kvs) ∧ kvs.length ≤ d.length ∧
    ∀ x ∈ d, ∃ y, valV kvs (Sum.inr x : Key) = some y ∧ rL rStr (nearL N x) y (hds [p] H')) (fun H1 e1 => ⟨[], _, _, _, _, _, rfl, ex_hds ((Ex.new hp).trans e1) hin, e1 p _ upd_same, Nat.le_refl _, fun x hx => by cases hx⟩) (fun d t σ' H' hw => ?_) (fun d a t σ' σ2 H' ed hw hT => ?_) fun σ' H' hw => ?_
  · obtain ⟨_, _, _, _, _, _, _, h, _⟩ := hw
    exact h.trans hds_ex
  · obtain ⟨kvs, y2, y3, y4, y5, y6, rfl, B, hp', hk, hd⟩ := hw
    obtain ⟨c1, h1, rfl⟩ := hT
    have ham : a ∈ N.1 := by rw [← ed]; simp
    have hdl : d.length ≤ N.1.length := by rw [← ed]; simp
    have h0' := Kp.kp (P := rNet N) (B.trans hds_ex) h0
    refine q_asgW ((ewn_lcT (S := rStr) (T := sP 5 6 rStr rStr) (fun p => decide (p.2 = a)) (·.1) tgP (ew_p1 (ew_var rfl h0')) (by omega) (fun a σ' H' hT => ?_) (fun a' ha σ' H2 e2 hT => ?_) (fun a ha hf σ' H2 e2 hT => ?_)).ew) fun v2 H2 e2 h2 => ?_
    · obtain ⟨y, z, hy, hz, rfl⟩ := hT
      rfl
    · obtain ⟨y, z, hy, hz, rfl⟩ := hT
      exact et_t (ew_eqS (ew_var rfl hz) (ew_var (P := rStr a) rfl h1))
    · obtain ⟨y, z, hy, hz, rfl⟩ := hT
      exact ew_var rfl hy
    refine q_asgW ((ewn_lcT (S := rStr) (T := sP 5 6 rStr rStr) (fun p => decide (p.1 = a)) (·.2) tgP (ew_p1 (ew_var rfl (Kp.kp e2 h0'))) (by omega) (fun a σ' H' hT => ?_) (fun a' ha σ' H2 e2 hT => ?_) (fun a ha hf σ' H2 e2 hT => ?_)).ew) fun v3 H3 e3 h3 => ?_
    · obtain ⟨y, z, hy, hz, rfl⟩ := hT
      rfl
    · obtain ⟨y, z, hy, hz, rfl⟩ := hT
      exact et_t (ew_eqS (ew_var rfl hy) (ew_var (P := rStr a) rfl h1))
    · obtain ⟨y, z, hy, hz, rfl⟩ := hT
      exact ew_var rfl hz
    have hp3 := (e2.trans e3) p _ hp'
    refine w_dput hp3 ((ewn_call2 (P := rL rStr (nearL N a)) (ew_p0 (ew_var rfl (Kp.kp (e2.trans e3) h0'))) (ewn_cat (ew_var rfl (Kp.kp e3 h2)) (ew_var rfl h3) ?_).ew fun x y H4 e4 p0 p1 => ?_).apart hp3) (ev_var rfl) (ew_var (P := rStr a) rfl h1) (by omega) fun v H4 e4 hv => ?_
    · rw [List.length_map, List.length_map]
      have l1 := List.length_filter_le (fun p : Str × Str => decide (p.2 = a)) N.2
      have l2 := List.length_filter_le (fun p : Str × Str => decide (p.1 = a)) N.2
      omega
    · have z := use_in_order p0 (by omega) p1
      rw [nearL_eq] at z
      exact z
    · have st : Stp [p] H' (upd H4 p (.dK (putK kvs (Sum.inr a : Key) v))) := (stp_ex ((e2.trans e3).trans e4)).trans (stp_upd (by simp))
      refine ⟨_, _, _, _, _, _, rfl, B.trans st, upd_same, ?_, fun x hx => ?_⟩
      · have := length_putK kvs (Sum.inr a : Key) v
        rw [List.length_append, List.length_singleton]
        omega
      · rw [valV_put]
        by_cases hxa : x = a
        · subst hxa
          rw [if_pos rfl]
          refine ⟨v, rfl, ?_⟩
          rw [hds_upd (by simp), hds_one]
          exact Sh1.sh hv.1 hv.2
        · rw [if_neg fun z => hxa (Sum.inr.inj z)]
          have hxd : x ∈ d := by
            rcases List.mem_append.mp hx with m | m
            · exact m
            · exact absurd (by simpa using m) hxa
          obtain ⟨y, hy, hr⟩ := hd x hxd
          exact ⟨y, hy, Kp.kp st hr⟩
  · obtain ⟨kvs, y2, y3, y4, y5, y6, rfl, B, hp', hk, hd⟩ := hw
    refine w_ret (ew_var (P := rNear N.1 (nearL N)) rfl ⟨p, kvs, rfl, hp', fun x hx => ?_⟩) fun v H2 e2 hv => q v H2 ((B.trans hds_ex).trans e2) hv
    obtain ⟨y, hy, hr⟩ := hd x hx
    exact ⟨y, hy, Kp.kp hds_ex hr⟩
end
end Am
/-! roads_on, all_roads, meetings_of, has_below, is_open. -/
namespace Am
open PySem PySem.Spec PyProof.Rows L2 Evl
theorem none_neg {i : Int} : (-i) = -i := rfl
section
variable {P : Program} {w : World} {K : PySem.W.Frag} {mg : Str → Option Value} {base : Heap}
/-! ### roads_on -/
def spRoadsOn (n : Nat) : Sp := fun vs H Q _ => ∃ ns f road other v0 v1 v2, vs = [v0, v1, v2] ∧ rNear ns f v0 H ∧ (∀ x, ∀ y ∈ f x, y ∈ ns) ∧ (∀ x, (f x).length ≤ 6) ∧ ns.length ≤ 6 ∧ n ≤ 6 ∧ rL rStr road v1 H ∧ road ≠ [] ∧ road.Nodup ∧ (∀ x ∈ road, x ∈ ns) ∧ ns.length + 1 ≤ n + road.length ∧ rStr other v2 H ∧
  Ret (rL (rL rStr) (roadsOn f other n road)) H Q
theorem use_roads_on {n : Nat} {ns : List Str} {f : Str → List Str} {road : List Str} {other : Str} {v0 v1 v2 : V} {H : Hp} (h0 : rNear ns f v0 H) (h1 : ∀ x, ∀ y ∈ f x, y ∈ ns) (h2 : ∀ x, (f x).length ≤ 6) (h3 : ns.length ≤ 6) (h4 : n ≤ 6) (h5 : rL rStr road v1 H) (h6 : road ≠ []) (h7 : road.Nodup) (h8 : ∀ x ∈ road, x ∈ ns)
    (h9 : ns.length + 1 ≤ n + road.length) (h10 : rStr other v2 H) : Gives (spRoadsOn n) [v0, v1, v2] H (rL (rL rStr) (roadsOn f other n road)) := fun Q k E => ⟨ns, f, road, other, v0, v1, v2, rfl, h0, h1, h2, h3, h4, h5, h6, h7, h8, h9, h10, k⟩
theorem sc_roads_on : FnScope ["near", "road", "other", "found", "name"] ["near", "road", "other"] (defScope (top 16)) := ⟨rfl, rfl, rfl, by decide +kernel, rfl, by decide +kernel, by decide +kernel⟩
theorem ok_roads_on_S (T : Txt K mg) {n : Nat} (G_roads_on : OkD P w K mg base n "roads_on" ["near", "road", "other"] (spRoadsOn n)) : OkD P w K mg base (n + 1) "roads_on" ["near", "road", "other"] (spRoadsOn (n + 1)) := by
  refine T.d_roads_on.ok sc_roads_on (fun vs H Q E h => ?_) (fun cdv A outer s H vs Q E hr h => ?_)
  · obtain ⟨_, _, _, _, _, _, _, rfl, _⟩ := h
    rfl
  obtain ⟨ns, f, road, other, v0, v1, v2, rfl, h0, hf, hf6, hns, hn6, h1, hne, hnd, hin, hfu, h2, q⟩ := h
  refine ⟨_, (pss_cons (ps_if (pt_cmpR op_eq (pe_ix (kx_list K) (pv 1) (pe_un un_neg pe_int) (fun _ _ => rfl)) (pv 2) (nomark _))
      (pss_one (ps_ret (pe_lst (pa_cons (pv 1) pa_nil)))) pss_nil)
      (pss_cons (ps_set (i := 3) sc_roads_on.nd rfl (Or.inl rfl) (pe_lst pa_nil))
      (pss_cons (ps_for PassesOwn.never rfl (kp_list K (pe_dget (hu_of hr) (pv 0) (pe_ix (kx_list K) (pv 1) (pe_un un_neg pe_int) (fun _ _ => rfl)) (fun _ _ => rfl))) (pg_name (i := 4) sc_roads_on.nd rfl (Or.inl rfl))
      (pss_one (ps_if (pt_cmpR (k_notIn K) (pv 4) (pv 1) (by rfl))
      (pss_one (ps_set (i := 3) sc_roads_on.nd rfl (Or.inl rfl) (pe_op op_cat (pv 3) (pe_callD (hj := Nat.le_refl _) G_roads_on hr (pa_cons (pv 0) (pa_cons (pe_op op_cat (pv 1) (pe_lst (pa_cons (pv 4) pa_nil))) (pa_cons (pv 2) pa_nil))))))) pss_nil)))
      (pss_one (ps_ret (pv 3)))))), ?_⟩
  obtain ⟨l, hl⟩ : ∃ l, road.getLast? = some l := ⟨road.getLast hne, List.getLast?_eq_some_getLast hne⟩
  have hlin : l ∈ ns := hin l (List.mem_of_getLast? hl)
  have ev := roadsOn_at (nr := f) (other := other) (n := n) hl
  have eL : ∀ {H' : Hp} {σ : L2.St}, σ[1]? = some (some v1) → Ex H H' → Ew (tOp (rIxL K) (tVar 1) (tUn (rU fun i => .int (-i)) (tC (.int 1)))) σ H' (rStr l) := fun hσ e => ew_ixL (ew_var hσ (Kp.kp e h1)) (ew_neg ew_i) (atI_last hl)
  refine q_when (et_t (ew_eqS (eL rfl (Ex.refl H)) (ew_var rfl h2))) (fun hb H1 e1 => ?_) (fun hb H1 e1 => ?_)
  · have hlo : l = other := of_decide_eq_true hb
    rw [if_pos hlo] at ev
    refine w_ret (ewn_lst1 (ew_var rfl (Kp.kp e1 h1))).ew fun v H2 e2 hv => q v H2 (e1.trans e2) ?_
    rw [ev]
    exact hv
  · have hlo : ¬ l = other := of_decide_eq_false hb
    rw [if_neg hlo] at ev
    refine q_asgW (ewn_lst0 (R := rL rStr)).ew fun v3 H2 e2 h3 => ?_
    have e12 := e1.trans e2
    refine q_forLW (R := rStr) tgN (ew_getN (ew_var rfl (Kp.kp e12 h0)) (eL rfl e12) hlin) fun v H3 e3 hv => ⟨H3, fun d t σ' H' => Ex H3 H' ∧ ∃ v3 y, σ' = [some v0, some v1, some v2, some v3, y] ∧ rL (rL rStr) ((d.filter fun x => decide (x ∉ road)).flatMap fun x => roadsOn f other n (road ++ [x])) v3 H', hv,
      ⟨Ex.refl _, _, _, rfl, Kp.kp e3 h3⟩, fun d t σ' H' w => w.1, fun d a t σ' σ2 H' ed w hT => ?_, fun σ' H' w => ?_⟩
    · obtain ⟨e, v3, y, rfl, h3⟩ := w
      obtain ⟨x, hx, rfl⟩ := hT
      have ham : a ∈ f l := by rw [← ed]; simp
      have e4 := (e12.trans e3).trans e
      refine s_when (et_t (ew_niL (ew_var rfl hx) (ew_var rfl (Kp.kp e4 h1)))) (fun hb H5 e5 => ?_) (fun hb H5 e5 => ?_)
      · have har : a ∉ road := by simpa using hb
        have e45 := e4.trans e5
        have hx5 : rStr a x H5 := hx
        have bound : ((d.filter fun x => decide (x ∉ road)).flatMap fun x => roadsOn f other n (road ++ [x])).length + (roadsOn f other n (road ++ [a])).length ≤ 1000000 := by
          have b1 := roadsOn_le hf6 (by decide : 1 ≤ 6) (other := other) n (road ++ [a])
          have b2 : ((d.filter fun x => decide (x ∉ road)).flatMap fun x => roadsOn f other n (road ++ [x])).length ≤ (d.filter fun x => decide (x ∉ road)).length * 6 ^ n := flatMap_le fun y _ => roadsOn_le hf6 (by decide) n (road ++ [y])
          have b3 : (d.filter fun x => decide (x ∉ road)).length ≤ 6 := by
            have l1 := List.length_filter_le (fun x => decide (x ∉ road)) d
            have l2 : d.length ≤ (f l).length := by rw [← ed]; simp
            have l3 := hf6 l
            omega
          have b4 : 6 ^ n ≤ 6 ^ 6 := Nat.pow_le_pow_right (by decide) (by omega)
          have b5 : (d.filter fun x => decide (x ∉ road)).length * 6 ^ n ≤ 6 * 6 ^ 6 := Nat.mul_le_mul b3 b4
          have b6 : (6 : Nat) * 6 ^ 6 = 279936 := by decide
          have b7 : (6 : Nat) ^ 6 = 46656 := by decide
          omega
        refine w_asg (ewn_cat (ew_var rfl (Kp.kp e5 h3)) (ew_call3 (ew_var rfl (Kp.kp e45 h0)) (ewn_cat (ew_var rfl (Kp.kp e45 h1)) (ewn_lst1 (ew_var rfl hx5)).ew ?_).ew (ew_var (P := rStr other) rfl h2) fun a0 a1 a2 H6 e6 p0 p1 p2 => use_roads_on p0 hf hf6 hns (by omega) p1 (by simp) ?_ ?_ ?_ p2) bound).ew fun v H6 e6 hv => ?_
        · have := hnd.length_le_of_subset hin
          simp
          omega
        · exact List.nodup_append.mpr ⟨hnd, by simp, fun u hu b hb => by
            have eb : b = a := by simpa using hb
            subst eb
            exact fun z => har (z ▸ hu)⟩
        · intro u hu
          rcases List.mem_append.mp hu with m | m
          · exact hin u m
          · have eu : u = a := by simpa using m
            subst eu
            exact hf l u ham
        · simp
          omega
        · refine ⟨e.trans (e5.trans e6), _, _, rfl, ?_⟩
          rw [List.filter_append, List.flatMap_append]
          have e7 : [a].filter (fun x => decide (x ∉ road)) = [a] := by simp [har]
          rw [e7]
          simpa using hv
      · refine ⟨e.trans e5, _, _, rfl, ?_⟩
        have har : a ∈ road := by simpa using hb
        have e7 : [a].filter (fun x => decide (x ∉ road)) = [] := by simp [har]
        rw [List.filter_append, e7, List.append_nil]
        exact Kp.kp e5 h3
    · obtain ⟨e, v3, y, rfl, h3⟩ := w
      refine w_ret (ew_var rfl h3) fun v H4 e4 hv => q v H4 (((e12.trans e3).trans e).trans e4) ?_
      rw [ev]
      exact hv
theorem ok_roads_on (T : Txt K mg) : ∀ n : Nat, OkD P w K mg base n "roads_on" ["near", "road", "other"] (spRoadsOn n)
  | 0 => by
    obtain ⟨fd, F, b⟩ := T.d_roads_on.ex
    have no : ∀ vs H Q E, ¬ spRoadsOn 0 vs H Q E := fun vs H Q E h => by
      obtain ⟨ns, f, road, other, v0, v1, v2, rfl, h0, hf, hf6, hns, hn6, h1, hne, hnd, hin, hfu, h2, q⟩ := h
      have := hnd.length_le_of_subset hin
      omega
    exact ⟨fd, ⟨fun vs H Q E h => absurd h (no vs H Q E), fun A outer s H args us vs Q E _ _ _ _ h => absurd h (no vs H Q E)⟩, T.d_roads_on.g, F.kp, b⟩
  | n + 1 => ok_roads_on_S T (ok_roads_on T n)
/-! ### all_roads -/
theorem nearL_in (N : List Str × List (Str × Str)) : ∀ x, ∀ y ∈ nearL N x, y ∈ N.1 := fun x y h => (mem_nearL.mp h).1
theorem nearL_le (N : List Str × List (Str × Str)) (x : Str) : (nearL N x).length ≤ N.1.length := List.length_filter_le _ _
def spAllRoads : Sp := fun vs H Q _ => ∃ N one other v0 v1 v2, vs = [v0, v1, v2] ∧ rNet N v0 H ∧ NetOk N ∧ rStr one v1 H ∧ rStr other v2 H ∧ one ∈ N.1 ∧ other ∈ N.1 ∧ one ≠ other ∧ Ret (rL (rL rStr) (roadsOn (nearL N) other 6 [one])) H Q
theorem use_all_roads {N : List Str × List (Str × Str)} {one other : Str} {v0 v1 v2 : V} {H : Hp} (h0 : rNet N v0 H) (ho : NetOk N) (h1 : rStr one v1 H) (h2 : rStr other v2 H) (m1 : one ∈ N.1) (m2 : other ∈ N.1) (hne : one ≠ other) :
    Gives spAllRoads [v0, v1, v2] H (rL (rL rStr) (roadsOn (nearL N) other 6 [one])) := fun Q k E => ⟨N, one, other, v0, v1, v2, rfl, h0, ho, h1, h2, m1, m2, hne, k⟩
theorem sc_all_roads : FnScope ["net", "one", "other"] ["net", "one", "other"] (defScope (top 17)) := ⟨rfl, rfl, rfl, by decide +kernel, rfl, by decide +kernel, by decide +kernel⟩
theorem ok_all_roads (T : Txt K mg) : OkD P w K mg base 7 "all_roads" ["net", "one", "other"] spAllRoads := by
  have G_look_at_asked := ok_look_at_asked (P := P) (w := w) (base := base) T
  have G_ties_at := ok_ties_at (P := P) (w := w) (base := base) T
  have G_roads_on := ok_roads_on (P := P) (w := w) (base := base) T 6
  refine T.d_all_roads.ok sc_all_roads (fun vs H Q E h => ?_) (fun cdv A outer s H vs Q E hr h => ?_)
  · obtain ⟨_, _, _, _, _, _, rfl, _⟩ := h
    rfl
  obtain ⟨N, one, other, v0, v1, v2, rfl, h0, ho, h1, h2, m1, m2, hne, q⟩ := h
  have hN := ho.few
  refine ⟨_, (pss_cons (ps_expr (pe_callD G_look_at_asked hr (pa_cons (pe_ix (kx_tup K) (pv 0) pe_int (fun _ _ => rfl)) (pa_cons (pv 1) (pa_cons (pv 2) (pa_cons (pe_lst pa_nil) pa_nil))))))
      (pss_one (ps_ret (pe_callD G_roads_on hr (pa_cons (pe_callD G_ties_at hr (pa_cons (pv 0) pa_nil)) (pa_cons (pe_lst (pa_cons (pv 1) pa_nil)) (pa_cons (pv 2) pa_nil))))))), ?_⟩
  refine q_dropW (ew_call4 (ew_p0 (ew_var rfl h0)) (ew_var rfl h1) (ew_var rfl h2) (ewn_lst0 (R := rStr)).ew fun a b c d H1 e1 p0 p1 p2 p3 => use_asked p0 p1 p2 p3 ?_ ?_ (by simp)) fun _ H1 e1 _ => ?_
  · intro x hx
    simp at hx
    rcases hx with rfl | rfl
    · exact m1
    · exact m2
  · simpa using hne
  replace h0 := Kp.kp e1 h0
  exact w_ret (ew_call3 (ew_call1 (ew_var rfl h0) fun a H2 e2 p0 => use_ties p0 ho) (ewn_lst1 (R := rStr) (H := H1) (ew_var (P := rStr one) rfl h1)).ew (ew_var (P := rStr other) rfl h2) fun a b c H2 e2 p0 p1 p2 =>
    use_roads_on p0 (nearL_in N) (fun x => Nat.le_trans (nearL_le N x) hN) hN (Nat.le_refl 6) p1 (by simp) (by simp) (by simpa using m1) (by simp; omega) p2) fun v H2 e2 hv => q v H2 (e1.trans e2) hv
end
end Am
/-! meetings_of, has_below, is_open. -/
namespace Am
open PySem PySem.Spec PyProof.Rows L2 Evl
noncomputable def readyB (N : List Str × List (Str × Str)) (held : List Str) (x : Str) : Bool := (belowL N x).any fun y => decide (y ∈ held)
theorem readyB_iff {N : List Str × List (Str × Str)} (ho : NetOk N) {held : List Str} {x : Str} (hx : x ∈ N.1) : readyB N held x = true ↔ Ready N.2 held x := by
  unfold readyB
  rw [List.any_eq_true]
  constructor
  · rintro ⟨y, hy, hd⟩
    exact ⟨y, of_decide_eq_true hd, (mem_belowL.mp hy).2⟩
  · rintro ⟨y, hy, hr⟩
    exact ⟨y, mem_belowL.mpr ⟨ho.net.reachMem hr hx, hr⟩, decide_eq_true hy⟩
theorem cut_inner {α : Type} (as : List α) : cutA as (some 1) (some (-1)) = inner as := by
  unfold cutA inner
  rw [show HT.sIx as.length 0 (some 1) = min 1 as.length from HT.sIx_nat as.length 0 1]
  have e : HT.sIx as.length as.length (some (-1)) = as.length - 1 := by
    show (if (-1 : Int) < 0 then ((-1 : Int) + (as.length : Int)).toNat else min (-1 : Int).toNat as.length) = as.length - 1
    rw [if_pos (by decide)]
    omega
  rw [e]
  cases as with
  | nil => rfl
  | cons a r =>
    have : min 1 (a :: r).length = 1 := by simp
    rw [this]
    have e2 : (a :: r).length - 1 - 1 = (a :: r).length - 2 := by omega
    rw [e2]
section
variable {P : Program} {w : World} {K : PySem.W.Frag} {mg : Str → Option Value} {base : Heap}
/-! ### meetings_of -/
abbrev meetsS (N : List Str × List (Str × Str)) (road : List Str) : List Str := meetsL N.2 Str.empty road
def spMeetings : Sp := fun vs H Q _ => ∃ N road v0 v1, vs = [v0, v1] ∧ rNet N v0 H ∧ rL rStr road v1 H ∧ road.length ≤ 100 ∧ Ret (rL rStr (meetsS N road)) H Q
theorem use_meetings {N : List Str × List (Str × Str)} {road : List Str} {v0 v1 : V} {H : Hp} (h0 : rNet N v0 H) (h1 : rL rStr road v1 H) (hl : road.length ≤ 100) : Gives spMeetings [v0, v1] H (rL rStr (meetsS N road)) := fun Q k E => ⟨N, road, v0, v1, rfl, h0, h1, hl, k⟩
theorem sc_meetings_of : FnScope ["net", "road", "told", "at"] ["net", "road"] (defScope (top 18)) := ⟨rfl, rfl, rfl, by decide +kernel, rfl, by decide +kernel, by decide +kernel⟩
theorem ok_meetings_of (T : Txt K mg) : OkD P w K mg base 1 "meetings_of" ["net", "road"] spMeetings := by
  refine T.d_meetings_of.ok sc_meetings_of (fun vs H Q E h => ?_) (fun cdv A outer s H vs Q E hr h => ?_)
  · obtain ⟨_, _, _, _, rfl, _⟩ := h
    rfl
  obtain ⟨N, road, v0, v1, rfl, h0, h1, hl, q⟩ := h
  refine ⟨_, (pss_cons (ps_set (i := 2) sc_meetings_of.nd rfl (Or.inl rfl) (pe_lst pa_nil))
      (pss_cons (ps_for PassesOwn.never rfl (pi_range2 (by rfl) T.b_range (pa_cons pe_int (pa_cons (pe_op op_sub (pe_callB (k_len K) (by rfl) T.b_len PySem.boot_len (pa_cons (pv 1) pa_nil)) pe_int) pa_nil))) (pg_name (i := 3) sc_meetings_of.nd rfl (Or.inl rfl))
      (pss_one (ps_if (PW.pt (pw_and (pt_cmpR (op_inP hr.u65) (pe_tup (pa_cons (pe_ix (kx_list K) (pv 1) (pe_op op_sub (pv 3) pe_int) (fun _ _ => rfl)) (pa_cons (pe_ix (kx_list K) (pv 1) (pv 3) (fun _ _ => rfl)) pa_nil))) (pe_ix (kx_tup K) (pv 0) pe_int (fun _ _ => rfl)) (by rfl)) (pw_and1 (pt_cmpR (op_inP hr.u65) (pe_tup (pa_cons (pe_ix (kx_list K) (pv 1) (pe_op op_add (pv 3) pe_int) (fun _ _ => rfl)) (pa_cons (pe_ix (kx_list K) (pv 1) (pv 3) (fun _ _ => rfl)) pa_nil))) (pe_ix (kx_tup K) (pv 0) pe_int (fun _ _ => rfl)) (by rfl)))))
      (pss_one (ps_expr (pe_bm PySem.F.plainAttrs_list PySem.F.slot_list_append PySem.F.type_list_append mt_append (pv 2) (pa_cons (pe_ix (kx_list K) (pv 1) (pv 3) (fun _ _ => rfl)) pa_nil)))) pss_nil)))
      (pss_one (ps_ret (pv 2))))), ?_⟩
  have okr : ∀ x ∈ road, SOk x := by
    obtain ⟨_, _, _, _, h3⟩ := h1
    exact al_ok h3
  let g : Nat → Str := fun i => road.getD (i + 1) Str.empty
  refine q_asgN (ewn_lst0 (R := rStr)) fun l H1 hl0 e1 h2 => ?_
  obtain ⟨l', xs, el, h2, h3⟩ := h2
  cases el
  cases h3
  have hin : ∀ a ∈ [l], H a = none := by simpa using hl0
  refine q_forR2 (lo := 1) (n := (road.length : Int) - 1) (ea_cons (ev_int ew_i) (ea_cons (ev_int (ew_I0 (ew_lenL (ew_var rfl (Kp.kp e1 h1))) ew_i)) ea_nil)) (by omega)
    (fun i σ' H' => ∃ y, σ' = [some v0, some v1, some (.ref l), y] ∧ Ex H (hds [l] H') ∧ H' l = some (.lst ((((List.range i).filter (meetsAt N.2 road)).map g).map V.str)))
    (fun H2 e2 => ⟨_, rfl, ex_hds (e1.trans e2) hin, e2 l _ h2⟩) (fun i σ' H' hi hw => ?_) fun σ' H' hw => ?_
  · obtain ⟨y, rfl, B, hl'⟩ := hw
    have hi' : i < road.length - 2 := by omega
    obtain ⟨a, b, c, g1, g2, g3⟩ := three hi'
    have E' := B.trans hds_ex
    have eb : g i = b := by
      show road.getD (i + 1) Str.empty = b
      rw [List.getD_eq_getElem?_getD, g2]
      rfl
    have ia : atI road ((1 + (i : Int)) - 1) = some a := by
      have : (1 + (i : Int)) - 1 = ((i : Nat) : Int) := by omega
      rw [this]
      exact atI_of g1
    have ib : atI road (1 + (i : Int)) = some b := by
      have : (1 + (i : Int)) = ((i + 1 : Nat) : Int) := by omega
      rw [this]
      exact atI_of g2
    have ic : atI road ((1 + (i : Int)) + 1) = some c := by
      have : (1 + (i : Int)) + 1 = ((i + 2 : Nat) : Int) := by omega
      rw [this]
      exact atI_of g3
    have eI : ∀ {H5 : Hp}, Ew (tVar 3) ([some v0, some v1, some (.ref l), some (.int (1 + (i : Int)))] : L2.St) H5 (rInt (1 + (i : Int))) := ew_var rfl rfl
    have eN : ∀ {H5 : Hp}, Ex H' H5 → Ew (tOp (rIxT K) (tVar 0) (tC (.int 1))) ([some v0, some v1, some (.ref l), some (.int (1 + (i : Int)))] : L2.St) H5 (rT rPair N.2) := fun e => ew_p1 (ew_var (P := rNet N) rfl (Kp.kp (E'.trans e) h0))
    have eR : ∀ {H5 : Hp}, Ex H' H5 → Ew (tVar 1) ([some v0, some v1, some (.ref l), some (.int (1 + (i : Int)))] : L2.St) H5 (rL rStr road) := fun e => ew_var rfl (Kp.kp (E'.trans e) h1)
    refine s_when (et_and (et_t (ew_inP (ewn_tup2 (ew_ixL (eR (Ex.refl _)) (ew_I0 eI ew_i) ia) (ew_ixL (eR (Ex.refl _)) eI ib)).ew (eN (Ex.refl _)))) fun _ => et_t (ew_inP (ewn_tup2 (ew_ixL (eR (Ex.refl _)) (ew_I0 eI ew_i) ic) (ew_ixL (eR (Ex.refl _)) eI ib)).ew (eN (Ex.refl _)))) (fun hb H2 e2 => ?_) (fun hb H2 e2 => ?_)
    · have hm : meetsAt N.2 road i = true := by rw [meetsAt_of g1 g2 g3]; exact hb
      refine w_app (e2 l _ hl') (ev_var rfl) (ew_ixL (eR e2) eI ib) (by
        rw [List.length_map, List.length_map]
        have l1 := List.length_filter_le (meetsAt N.2 road) (List.range i)
        rw [List.length_range] at l1
        omega) fun v H3 e3 hv => ?_
      have ev : v = .str b := hv.1
      subst ev
      refine ⟨_, rfl, B.trans ((stp_ex (e2.trans e3)).trans (stp_upd (by simp))), ?_⟩
      rw [upd_same, List.range_succ, filter_snoc_yes hm, List.map_append, eb]
      rfl
    · have hm : meetsAt N.2 road i = false := by rw [meetsAt_of g1 g2 g3]; exact hb
      refine ⟨_, rfl, B.trans (stp_ex e2), ?_⟩
      rw [List.range_succ, filter_snoc_no hm]
      exact e2 l _ hl'
  · obtain ⟨y, rfl, B, hl'⟩ := hw
    have en : ((road.length : Int) - 1 - 1).toNat = road.length - 2 := by omega
    rw [en] at hl'
    refine w_ret (ew_var (P := rL rStr (meetsS N road)) rfl ⟨l, _, rfl, hl', al_strs _ fun x hx => okr x (meetsL_sub hx)⟩) fun v H2 e2 hv => q v H2 ((B.trans hds_ex).trans e2) hv
/-! ### has_below -/
def spHasBelow : Sp := fun vs H Q _ => ∃ N x held v0 v1 v2, vs = [v0, v1, v2] ∧ rNet N v0 H ∧ NetOk N ∧ rStr x v1 H ∧ x ∈ N.1 ∧ rL rStr held v2 H ∧ Ret (rBool (readyB N held x)) H Q
theorem use_has_below {N : List Str × List (Str × Str)} {x : Str} {held : List Str} {v0 v1 v2 : V} {H : Hp} (h0 : rNet N v0 H) (ho : NetOk N) (h1 : rStr x v1 H) (hx : x ∈ N.1) (h2 : rL rStr held v2 H) : Gives spHasBelow [v0, v1, v2] H (rBool (readyB N held x)) := fun Q k E => ⟨N, x, held, v0, v1, v2, rfl, h0, ho, h1, hx, h2, k⟩
theorem sc_has_below : FnScope ["net", "name", "held", "one"] ["net", "name", "held"] (defScope (top 19)) := ⟨rfl, rfl, rfl, by decide +kernel, rfl, by decide +kernel, by decide +kernel⟩
theorem ok_has_below (T : Txt K mg) : OkD P w K mg base 3 "has_below" ["net", "name", "held"] spHasBelow := by
  have G_names_below := ok_names_below (P := P) (w := w) (base := base) T
  refine T.d_has_below.ok sc_has_below (fun vs H Q E h => ?_) (fun cdv A outer s H vs Q E hr h => ?_)
  · obtain ⟨_, _, _, _, _, _, rfl, _⟩ := h
    rfl
  obtain ⟨N, x, held, v0, v1, v2, rfl, h0, ho, h1, hx, h2, q⟩ := h
  refine ⟨_, (pss_cons (ps_for PassesOwn.never rfl (kp_list K (pe_callD G_names_below hr (pa_cons (pv 0) (pa_cons (pv 1) pa_nil)))) (pg_name (i := 3) sc_has_below.nd rfl (Or.inl rfl))
      (pss_one (ps_if (pt_cmpR (k_in K) (pv 3) (pv 2) (by rfl))
      (pss_one (ps_ret pe_bl)) pss_nil)))
      (pss_one (ps_ret pe_bl))), ?_⟩
  refine q_forLW (R := rStr) tgN (ewn_call2 (ew_var rfl h0) (ew_var rfl h1) fun a b H1 e1 p0 p1 => use_below p0 ho p1 hx).ew fun v H1 e1 hv => ⟨H1, fun d t σ' H' => Ex H1 H' ∧ (∀ y ∈ d, y ∉ held) ∧ ∃ y, σ' = [some v0, some v1, some v2, y], hv, ⟨Ex.refl _, by simp, _, rfl⟩, fun d t σ' H' w => w.1, fun d a t σ' σ2 H' ed w hT => ?_, fun σ' H' w => ?_⟩
  · obtain ⟨e, hd, y, rfl⟩ := w
    obtain ⟨c, hc, rfl⟩ := hT
    refine s_when (et_t (ew_inL (ew_var rfl hc) (ew_var rfl (Kp.kp (e1.trans e) h2)))) (fun hb H2 e2 => ?_) (fun hb H2 e2 => ?_)
    · refine w_ret (ew_b (b := true)) fun v H3 e3 hv => q v H3 (((e1.trans e).trans e2).trans e3) ?_
      have er : readyB N held x = true := by
        unfold readyB
        rw [List.any_eq_true]
        exact ⟨a, by rw [← ed]; simp, hb⟩
      rw [er]
      exact hv
    · refine ⟨e.trans e2, fun y hy => ?_, _, rfl⟩
      rcases List.mem_append.mp hy with m | m
      · exact hd y m
      · have ey : y = a := by simpa using m
        subst ey
        exact of_decide_eq_false hb
  · obtain ⟨e, hd, y, rfl⟩ := w
    refine w_ret (ew_b (b := false)) fun v H3 e3 hv => q v H3 ((e1.trans e).trans e3) ?_
    have er : readyB N held x = false := by
      unfold readyB
      rw [List.any_eq_false]
      intro y hy
      simpa using hd y hy
    rw [er]
    exact hv
/-! ### is_open -/
structure AskOk (N : List Str × List (Str × Str)) (one other : Str) (held : List Str) : Prop where
  mem : ∀ x ∈ one :: other :: held, x ∈ N.1
  nd : (one :: other :: held).Nodup
theorem AskOk.le {N : List Str × List (Str × Str)} {one other : Str} {held : List Str} (h : AskOk N one other held) (hN : N.1.length ≤ 6) : held.length ≤ 100 := by
  have := h.nd.length_le_of_subset h.mem
  simp at this
  omega
def spIsOpen : Sp := fun vs H Q _ => ∃ N road held one other v0 v1 v2, vs = [v0, v1, v2] ∧ rNet N v0 H ∧ NetOk N ∧ rL rStr road v1 H ∧ road.Nodup ∧ road.head? = some one ∧ road.getLast? = some other ∧ (∀ x ∈ road, x ∈ N.1) ∧ rL rStr held v2 H ∧ AskOk N one other held ∧ Ret (rBool (openB N.2 held road)) H Q
theorem use_is_open {N : List Str × List (Str × Str)} {road held : List Str} {one other : Str} {v0 v1 v2 : V} {H : Hp} (h0 : rNet N v0 H) (ho : NetOk N) (h1 : rL rStr road v1 H) (hn : road.Nodup) (hh : road.head? = some one) (hl : road.getLast? = some other) (hm : ∀ x ∈ road, x ∈ N.1) (h2 : rL rStr held v2 H) (ha : AskOk N one other held) :
    Gives spIsOpen [v0, v1, v2] H (rBool (openB N.2 held road)) := fun Q k E => ⟨N, road, held, one, other, v0, v1, v2, rfl, h0, ho, h1, hn, hh, hl, hm, h2, ha, k⟩
theorem sc_is_open : FnScope ["net", "road", "held", "met", "name"] ["net", "road", "held"] (defScope (top 20)) := ⟨rfl, rfl, rfl, by decide +kernel, rfl, by decide +kernel, by decide +kernel⟩
theorem ok_is_open (T : Txt K mg) : OkD P w K mg base 4 "is_open" ["net", "road", "held"] spIsOpen := by
  have G_look_at_asked := ok_look_at_asked (P := P) (w := w) (base := base) T
  have G_meetings_of := ok_meetings_of (P := P) (w := w) (base := base) T
  have G_has_below := ok_has_below (P := P) (w := w) (base := base) T
  refine T.d_is_open.ok sc_is_open (fun vs H Q E h => ?_) (fun cdv A outer s H vs Q E hr h => ?_)
  · obtain ⟨_, _, _, _, _, _, _, _, rfl, _⟩ := h
    rfl
  obtain ⟨N, road, held, one, other, v0, v1, v2, rfl, h0, ho, h1, hnd, hh, hl, hm, h2, ha, q⟩ := h
  have hN := ho.few
  have hlen : road.length ≤ 6 := Nat.le_trans (hnd.length_le_of_subset hm) hN
  refine ⟨_, (pss_cons (ps_expr (pe_callD G_look_at_asked hr (pa_cons (pe_ix (kx_tup K) (pv 0) pe_int (fun _ _ => rfl)) (pa_cons (pe_ix (kx_list K) (pv 1) pe_int (fun _ _ => rfl)) (pa_cons (pe_ix (kx_list K) (pv 1) (pe_un un_neg pe_int) (fun _ _ => rfl)) (pa_cons (pv 2) pa_nil))))))
      (pss_cons (ps_set (i := 3) sc_is_open.nd rfl (Or.inl rfl) (pe_callD G_meetings_of hr (pa_cons (pv 0) (pa_cons (pv 1) pa_nil))))
      (pss_cons (ps_for PassesOwn.never rfl (kp_list K (pe_slice (k_sl K) (pv 1) (po_some pe_int) (po_some (pe_un un_neg pe_int)))) (pg_name (i := 4) sc_is_open.nd rfl (Or.inl rfl))
      (pss_one (ps_if (pt_cmpR (k_in K) (pv 4) (pv 3) (by rfl))
      (pss_one (ps_if (pt_not (pt_val (pe_callD G_has_below hr (pa_cons (pv 0) (pa_cons (pv 4) (pa_cons (pv 2) pa_nil))))))
      (pss_one (ps_ret pe_bl)) pss_nil)) (pss_one (ps_if (pt_cmpR (k_in K) (pv 4) (pv 2) (by rfl))
      (pss_one (ps_ret pe_bl)) pss_nil)))))
      (pss_one (ps_ret pe_bl))))), ?_⟩
  have i0 : atI road 0 = some one := by
    have : road[0]? = some one := by rw [← List.head?_eq_getElem?]; exact hh
    exact atI_of (j := 0) this
  refine q_dropW (ew_call4 (ew_p0 (ew_var rfl h0)) (ew_ixL (ew_var rfl h1) ew_i i0) (ew_ixL (ew_var rfl h1) (ew_neg ew_i) (atI_last hl)) (ew_var rfl h2) fun a b c d H1 e1 p0 p1 p2 p3 => use_asked p0 p1 p2 p3 ha.mem ha.nd (ha.le hN)) fun _ H1 e1 _ => ?_
  replace h0 := Kp.kp e1 h0
  replace h1 := Kp.kp e1 h1
  replace h2 := Kp.kp e1 h2
  refine q_asgW (ew_call2 (ew_var rfl h0) (ew_var rfl h1) fun a b H2 e2 p0 p1 => use_meetings p0 p1 (by omega)) fun v3 H2 e2 h3 => ?_
  replace h0 := Kp.kp e2 h0
  replace h1 := Kp.kp e2 h1
  replace h2 := Kp.kp e2 h2
  have hrd : ∀ x ∈ road, (readyB N held x = true ↔ Ready N.2 held x) := fun x hx => readyB_iff ho (hm x hx)
  have inm : ∀ x ∈ inner road, x ∈ road := fun x hx => List.mem_of_mem_drop (List.mem_of_mem_take hx)
  have bad : ∀ x ∈ inner road, viol N.2 Str.empty road (readyB N held) held x = true → openB N.2 held road = false := fun x hx hv => openB_f fun z => by
    have := (open_viol (d := Str.empty) hnd hrd).mp z x hx
    rw [hv] at this
    cases this
  refine q_forLW (R := rStr) tgN ((ewn_sl (ew_var rfl h1) (eo_int ew_i) (eo_int (ew_neg ew_i))).toL (cut_inner road)).ew fun v H3 e3 hv => ⟨H3, fun d t σ' H' => Ex H3 H' ∧ (∀ y ∈ d, viol N.2 Str.empty road (readyB N held) held y = false) ∧ ∃ y, σ' = [some v0, some v1, some v2, some v3, y], hv, ⟨Ex.refl _, by simp, _, rfl⟩, fun d t σ' H' w => w.1, fun d a t σ' σ2 H' ed w hT => ?_, fun σ' H' w => ?_⟩
  · obtain ⟨e, hd, y, rfl⟩ := w
    obtain ⟨c, hc, rfl⟩ := hT
    have ain : a ∈ inner road := by rw [← ed]; simp
    have E4 := e3.trans e
    have next : ∀ {H5 : Hp}, Ex H' H5 → viol N.2 Str.empty road (readyB N held) held a = false → (Ex H3 H5 ∧ (∀ y ∈ d ++ [a], viol N.2 Str.empty road (readyB N held) held y = false) ∧ ∃ y, ([some v0, some v1, some v2, some v3, some c] : L2.St) = [some v0, some v1, some v2, some v3, y]) := fun e5 ha => ⟨e.trans e5, fun y hy => by
      rcases List.mem_append.mp hy with m | m
      · exact hd y m
      · have ey : y = a := by simpa using m
        subst ey
        exact ha, _, rfl⟩
    refine s_if (et_t (ew_inL (ew_var rfl hc) (ew_var rfl (Kp.kp E4 h3)))) (fun hb H5 e5 => ?_) (fun hb H5 e5 => ?_)
    · have E5 := E4.trans e5
      have am : a ∈ meetsS N road := of_decide_eq_true hb
      refine s_when (et_not (et_v (ew_call3 (ew_var rfl (Kp.kp E5 h0)) (ew_var (P := rStr a) rfl hc) (ew_var rfl (Kp.kp E5 h2)) fun x0 x1 x2 H6 e6 p0 p1 p2 => use_has_below p0 ho p1 (hm a (inm a ain)) p2))) (fun hb H6 e6 => ?_) (fun hb H6 e6 => ?_)
      · refine w_ret (ew_b (b := false)) fun v H7 e7 hv => q v H7 (((e1.trans e2).trans E5).trans (e6.trans e7)) ?_
        rw [bad a ain (by unfold viol; rw [if_pos am]; exact hb)]
        exact hv
      · exact next (e5.trans e6) (by unfold viol; rw [if_pos am]; exact hb)
    · have am : a ∉ meetsS N road := of_decide_eq_false hb
      have E5 := E4.trans e5
      refine s_when (et_t (ew_inL (ew_var (P := rStr a) rfl hc) (ew_var rfl (Kp.kp E5 h2)))) (fun hb H6 e6 => ?_) (fun hb H6 e6 => ?_)
      · refine w_ret (ew_b (b := false)) fun v H7 e7 hv => q v H7 (((e1.trans e2).trans E5).trans (e6.trans e7)) ?_
        rw [bad a ain (by unfold viol; rw [if_neg am]; exact hb)]
        exact hv
      · exact next (e5.trans e6) (by unfold viol; rw [if_neg am]; exact hb)
  · obtain ⟨e, hd, y, rfl⟩ := w
    refine w_ret (ew_b (b := true)) fun v H7 e7 hv => q v H7 (((e1.trans e2).trans e3).trans (e.trans e7)) ?_
    rw [openB_t ((open_viol hnd hrd).mpr hd)]
    exact hv
end
end Am
/-! above_all, next_spots. -/
namespace Am
open PySem PySem.Spec PyProof.Rows L2 Evl
/-- the names that have a held one below -/
noncomputable def readyN (N : List Str × List (Str × Str)) (held : List Str) (y : Str) : Bool := held.any fun x => decide (y ∈ aboveL N x)
theorem readyN_iff {N : List Str × List (Str × Str)} {held : List Str} {y : Str} (hy : y ∈ N.1) : readyN N held y = true ↔ Ready N.2 held y := by
  unfold readyN
  rw [List.any_eq_true]
  constructor
  · rintro ⟨x, hx, h⟩
    exact ⟨x, hx, (mem_aboveL.mp (of_decide_eq_true h)).2⟩
  · rintro ⟨x, hx, h⟩
    exact ⟨x, hx, decide_eq_true (mem_aboveL.mpr ⟨hy, h⟩)⟩
def nextL (N : List Str × List (Str × Str)) (rd : Str → Bool) (held : List Str) (s : Spt) : List Spt :=
  (if s.1 ∉ held then (heirsL N s.1).map fun h => (h, true) else []) ++ (if ((s.2 && rd s.1) || (!s.2 && !decide (s.1 ∈ held))) = true then (eldersL N s.1).map fun e => (e, false) else [])
section
variable {P : Program} {w : World} {K : PySem.W.Frag} {mg : Str → Option Value} {base : Heap}
/-! ### above_all -/
def spAboveAll : Sp := fun vs H Q _ => ∃ N held v0 v1, vs = [v0, v1] ∧ rNet N v0 H ∧ NetOk N ∧ rL rStr held v1 H ∧ (∀ x ∈ held, x ∈ N.1) ∧ held.length ≤ 100 ∧ Ret (rSet (readyN N held)) H Q
theorem use_above_all {N : List Str × List (Str × Str)} {held : List Str} {v0 v1 : V} {H : Hp} (h0 : rNet N v0 H) (ho : NetOk N) (h1 : rL rStr held v1 H) (hm : ∀ x ∈ held, x ∈ N.1) (hl : held.length ≤ 100) : Gives spAboveAll [v0, v1] H (rSet (readyN N held)) := fun Q k E => ⟨N, held, v0, v1, rfl, h0, ho, h1, hm, hl, k⟩
theorem sc_above_all : FnScope ["net", "held", "met", "name", "one"] ["net", "held"] (defScope (top 22)) := ⟨rfl, rfl, rfl, by decide +kernel, rfl, by decide +kernel, by decide +kernel⟩
theorem ok_above_all (T : Txt K mg) : OkD P w K mg base 3 "above_all" ["net", "held"] spAboveAll := by
  have G_names_above := ok_names_above (P := P) (w := w) (base := base) T
  refine T.d_above_all.ok sc_above_all (fun vs H Q E h => ?_) (fun cdv A outer s H vs Q E hr h => ?_)
  · obtain ⟨_, _, _, _, rfl, _⟩ := h
    rfl
  obtain ⟨N, held, v0, v1, rfl, h0, ho, h1, hm, hl, q⟩ := h
  have hN := ho.few
  refine ⟨_, (pss_cons (ps_set (i := 2) sc_above_all.nd rfl (Or.inl rfl) pe_dnewK)
      (pss_cons (ps_for PassesOwn.never rfl (kp_list K (pv 1)) (pg_name (i := 3) sc_above_all.nd rfl (Or.inl rfl))
      (pss_one (ps_for PassesOwn.never rfl (kp_list K (pe_callD G_names_above hr (pa_cons (pv 0) (pa_cons (pv 3) pa_nil)))) (pg_name (i := 4) sc_above_all.nd rfl (Or.inl rfl))
      (pss_one (ps_dput (hu_of hr) (pv 2) (pv 4) pe_bl rfl)))))
      (pss_one (ps_ret (pv 2))))), ?_⟩
  refine fun p hp => ?_
  have hin : ∀ a ∈ [p], H a = none := by simpa using hp
  refine q_forLv (R := rStr) (as := held) (Hs := H) tgN (ev_var rfl) h1 (fun d t σ' H' => ∃ kvs y3 y4, σ' = [some v0, some v1, some (.ref p), y3, y4] ∧ Ex H (hds [p] H') ∧ H' p = some (.dK kvs) ∧ kvs.length ≤ d.length * 6 ∧ ∀ y, (valV kvs (Sum.inr y : Key)).isSome = d.any fun x => decide (y ∈ aboveL N x))
    (fun H1 e1 => ⟨[], _, _, rfl, ex_hds ((Ex.new hp).trans e1) hin, e1 p _ upd_same, Nat.zero_le _, fun y => rfl⟩) (fun d t σ' H' hw => ?_) (fun d a t σ' σ2 H' ed hw hT => ?_) fun σ' H' hw => ?_
  · obtain ⟨_, _, _, _, h, _⟩ := hw
    exact h.trans hds_ex
  · obtain ⟨kvs, y3, y4, rfl, B, hp', hk, hf⟩ := hw
    obtain ⟨c, hc, rfl⟩ := hT
    have ham : a ∈ N.1 := hm a (by rw [← ed]; simp)
    have hdl : d.length ≤ held.length := by rw [← ed]; simp
    have al : (aboveL N a).length ≤ 6 := Nat.le_trans (List.length_filter_le _ _) hN
    refine w_forLp (R := rStr) (as := aboveL N a) tgN ((ewn_call2 (P := rL rStr (aboveL N a)) (ew_var rfl (Kp.kp (B.trans hds_ex) h0)) (ew_var rfl hc) fun x y H2 e2 p0 p1 => use_above p0 ho p1 ham).apart hp') (fun v H h => h.1) fun v H1 e1 hv => ⟨hds [p] H1, fun d2 t2 σ' H' => ∃ kvs y4, σ' = [some v0, some v1, some (.ref p), some c, y4] ∧ Ex (hds [p] H1) (hds [p] H') ∧ H' p = some (.dK kvs) ∧ kvs.length ≤ d.length * 6 + d2.length ∧
        ∀ y, (valV kvs (Sum.inr y : Key)).isSome = ((d.any fun x => decide (y ∈ aboveL N x)) || decide (y ∈ d2)), ?_, ⟨kvs, _, rfl, Ex.refl _, e1 p _ hp', by simpa using hk, fun y => by rw [hf]; simp⟩, fun d2 t2 σ' H' hw => ?_, fun d2 a2 t2 σ' σ2 H' ed2 hw hT => ?_, fun σ' H' hw => ?_⟩
    · rw [hds_one]
      exact Sh1.sh hv.1 hv.2
    · obtain ⟨_, _, _, h, _⟩ := hw
      exact h.trans hds_ex
    · obtain ⟨kvs2, y5, rfl, B2, hp2, hk2, hf2⟩ := hw
      obtain ⟨c2, hc2, rfl⟩ := hT
      have l2 : d2.length ≤ (aboveL N a).length := by rw [← ed2]; simp
      refine w_dput hp2 (ew_b (b := true)) (ev_var rfl) (ew_var (P := rStr a2) rfl hc2) (by omega) fun v3 H3 e3 hv3 => ?_
      refine ⟨_, _, rfl, B2.trans ((stp_ex e3).trans (stp_upd (by simp))), upd_same, ?_, fun y => ?_⟩
      · have := length_putK kvs2 (Sum.inr a2 : Key) v3
        rw [List.length_append, List.length_singleton]
        omega
      · rw [put_isSome, hf2, Bool.eq_iff_iff]
        simp
        constructor
        · rintro (h | h | h)
          · exact .inr (.inr h)
          · exact .inl h
          · exact .inr (.inl h)
        · rintro (h | h | h)
          · exact .inr (.inl h)
          · exact .inr (.inr h)
          · exact .inl h
    · obtain ⟨kvs2, y5, rfl, B2, hp2, hk2, hf2⟩ := hw
      refine ⟨kvs2, _, _, rfl, B.trans ((stp_ex e1).trans B2), hp2, ?_, fun y => ?_⟩
      · rw [List.length_append, List.length_singleton]
        omega
      · rw [hf2, List.any_append]
        simp
  · obtain ⟨kvs, y3, y4, rfl, B, hp', hk, hf⟩ := hw
    exact w_ret (ew_var (P := rSet (readyN N held)) rfl ⟨p, kvs, rfl, hp', hf⟩) fun v H2 e2 hv => q v H2 ((B.trans hds_ex).trans e2) hv
/-! ### next_spots -/
def spNext : Sp := fun vs H Q _ => ∃ N rd held s v0 v1 v2 v3, vs = [v0, v1, v2, v3] ∧ rNet N v0 H ∧ NetOk N ∧ rSet rd v1 H ∧ rL rStr held v2 H ∧ rSpot s v3 H ∧ s.1 ∈ N.1 ∧ Ret (rL rSpot (nextL N rd held s)) H Q
theorem use_next {N : List Str × List (Str × Str)} {rd : Str → Bool} {held : List Str} {s : Spt} {v0 v1 v2 v3 : V} {H : Hp} (h0 : rNet N v0 H) (ho : NetOk N) (h1 : rSet rd v1 H) (h2 : rL rStr held v2 H) (h3 : rSpot s v3 H) (hm : s.1 ∈ N.1) : Gives spNext [v0, v1, v2, v3] H (rL rSpot (nextL N rd held s)) := fun Q k E => ⟨N, rd, held, s, v0, v1, v2, v3, rfl, h0, ho, h1, h2, h3, hm, k⟩
theorem et_yes {σ : L2.St} {H : Hp} : EvT tYes σ H true := fun H1 e Q q => q H1 (Ex.refl H1)
theorem map_all {α β : Type} (l : List α) (f : α → β) : (l.filter fun _ => true).map f = l.map f := by rw [List.filter_eq_self.mpr fun _ _ => rfl]
theorem sc_next_spots : FnScope ["net", "ready", "held", "spot", "name", "into", "told", "heir", "elder"] ["net", "ready", "held", "spot"] (defScope (top 23)) := ⟨rfl, rfl, rfl, by decide +kernel, rfl, by decide +kernel, by decide +kernel⟩
theorem ok_next_spots (T : Txt K mg) : OkD P w K mg base 3 "next_spots" ["net", "ready", "held", "spot"] spNext := by
  have G_heirs_of := ok_heirs_of (P := P) (w := w) (base := base) T
  have G_elders_of := ok_elders_of (P := P) (w := w) (base := base) T
  refine T.d_next_spots.ok sc_next_spots (fun vs H Q E h => ?_) (fun cdv A outer s H vs Q E hr h => ?_)
  · obtain ⟨_, _, _, _, _, _, _, _, rfl, _⟩ := h
    rfl
  obtain ⟨N, rd, held, s, v0, v1, v2, v3, rfl, h0, ho, h1, h2, h3, hm, q⟩ := h
  have hN := ho.few
  have el : (eldersL N s.1).length ≤ 6 := Nat.le_trans (List.length_filter_le _ _) hN
  have hel : (heirsL N s.1).length ≤ 6 := Nat.le_trans (List.length_filter_le _ _) hN
  refine ⟨_, (pss_cons (ps_asg (pv 3) (kg_tup K 2 (by rfl) (pgs_cons (pg_name (i := 4) sc_next_spots.nd rfl (Or.inl rfl)) (pgs_cons (pg_name (i := 5) sc_next_spots.nd rfl (Or.inl rfl)) pgs_nil))))
      (pss_cons (ps_set (i := 6) sc_next_spots.nd rfl (Or.inl rfl) (pe_lst pa_nil))
      (pss_cons (ps_if (pt_cmpR (k_notIn K) (pv 4) (pv 2) (by rfl))
      (pss_one (ps_setLc (i := 6) (own := [("heir", 7)]) rfl sc_next_spots.nd rfl rfl (sw_true rfl rfl rfl (by decide +kernel)) (kp_tup K (pe_callD G_heirs_of hr (pa_cons (pv 0) (pa_cons (pv 4) pa_nil)))) (blkOk_by (own := [("heir", 7)]) (N := ["net", "ready", "held", "spot", "name", "into", "told", "heir", "elder"]) (sc := defScope (top 23)) (by decide +kernel)) (fun _ _ _ _ _ => (pg_name (i := 7) sc_next_spots.nd rfl (Or.inl rfl))) (fun _ _ _ _ _ => pts_nil) (fun _ _ _ _ _ => (pe_tup (pa_cons (pv 7) (pa_cons pe_bl pa_nil)))))) pss_nil)
      (pss_cons (ps_if (PW.pt (pw_or (PW.pt (pw_and (pt_val (pv 5)) (pw_and1 (pt_cmp (pc_din (hu_of hr) (pv 4) (pv 1)))))) (pw_or1 (PW.pt (pw_and (pt_not (pt_val (pv 5))) (pw_and1 (pt_cmpR (k_notIn K) (pv 4) (pv 2) (by rfl))))))))
      (pss_one (ps_set (i := 6) sc_next_spots.nd rfl (Or.inl rfl) (pe_op op_cat (pv 6) (pe_lc (own := [("elder", 8)]) rfl sc_next_spots.nd (kp_tup K (pe_callD G_elders_of hr (pa_cons (pv 0) (pa_cons (pv 4) pa_nil)))) (blkOk_by (own := [("elder", 8)]) (N := ["net", "ready", "held", "spot", "name", "into", "told", "heir", "elder"]) (sc := defScope (top 23)) (by decide +kernel)) (fun _ _ _ _ _ => (pg_name (i := 8) sc_next_spots.nd rfl (Or.inl rfl))) (fun _ _ _ _ _ => pts_nil) (fun _ _ _ _ _ => (pe_tup (pa_cons (pv 8) (pa_cons pe_bl pa_nil)))))))) pss_nil)
      (pss_one (ps_ret (pv 6))))))), ?_⟩
  obtain ⟨p, x1, x2, rfl, hp, hx1, hx2⟩ := id h3
  refine ⟨_, rfl, p, [x1, x2], rfl, SqT.of hp, rfl, x1, [x2], rfl, x2, [], rfl, rfl, ?_⟩
  have eX1 : ∀ {H5 : Hp} {σ : L2.St}, σ[4]? = some (some x1) → Ew (tVar 4) σ H5 (rStr s.1) := fun hs => ew_var hs hx1
  have eX2 : ∀ {H5 : Hp} {σ : L2.St}, σ[5]? = some (some x2) → Ew (tVar 5) σ H5 (rBool s.2) := fun hs => ew_var hs hx2
  refine q_asgW (ewn_lst0 (R := rSpot)).ew fun v6 H1 e1 h6 => ?_
  replace h0 := Kp.kp e1 h0
  replace h1 := Kp.kp e1 h1
  replace h2 := Kp.kp e1 h2
  refine q_cutK (fun σ' H' => ∃ v6 y7 y8, σ' = [some v0, some v1, some v2, some (.ref p), some x1, some x2, some v6, y7, y8] ∧ Ex H1 H' ∧ rL rSpot (if s.1 ∉ held then (heirsL N s.1).map fun h => (h, true) else []) v6 H') (fun σ' H2 hw => ?_) fun cont => ?_
  · obtain ⟨v6, y7, y8, rfl, e2, h6⟩ := hw
    replace h0 := Kp.kp e2 h0
    replace h1 := Kp.kp e2 h1
    replace h2 := Kp.kp e2 h2
    refine q_when (et_or (et_and (et_v (eX2 rfl)) fun _ => et_v (ew_inD (eX1 rfl) (ew_var rfl h1))) fun _ => et_and (et_not (et_v (eX2 rfl))) fun _ => et_t (ew_niL (eX1 rfl) (ew_var rfl h2))) (fun hb H3 e3 => ?_) (fun hb H3 e3 => ?_)
    · refine w_asg (ewn_cat (ew_var rfl (Kp.kp e3 h6)) (ewn_lcT (S := rSpot) (T := sN 8 rStr) (fun _ => true) (fun e => (e, false)) tgN (ew_call2 (ew_var rfl (Kp.kp e3 h0)) (eX1 rfl) fun a b H3 e3 p0 p1 => use_elders p0 ho p1 hm) (by omega) (fun a σ' H' hT => ?_) (fun a ha σ' H3 e3 hT => et_yes) (fun a ha hf σ' H3 e3 hT => ?_)).ew ?_).ew fun v H4 e4 hv => ?_
      · obtain ⟨x, hx, rfl⟩ := hT
        rfl
      · obtain ⟨x, hx, rfl⟩ := hT
        exact (ewn_tup2 (ew_var rfl hx) ew_b).ew
      · rw [map_all, List.length_map]
        split
        · rw [List.length_map]
          omega
        · simp
          omega
      · refine w_ret (ew_var rfl hv) fun v H5 e5 hv => q v H5 ((e1.trans e2).trans ((e3.trans e4).trans e5)) ?_
        have ee : nextL N rd held s = (if s.1 ∉ held then (heirsL N s.1).map fun h => (h, true) else []) ++ (eldersL N s.1).map fun e => (e, false) := by
          unfold nextL
          rw [if_pos hb]
        rw [ee, ← map_all (eldersL N s.1)]
        exact hv
    · refine w_ret (ew_var rfl (Kp.kp e3 h6)) fun v H5 e5 hv => q v H5 ((e1.trans e2).trans (e3.trans e5)) ?_
      have ee : nextL N rd held s = (if s.1 ∉ held then (heirsL N s.1).map fun h => (h, true) else []) := by
        unfold nextL
        have hb' : ¬ ((s.2 && rd s.1) || (!s.2 && !decide (s.1 ∈ held))) = true := by rw [hb]; exact Bool.false_ne_true
        rw [if_neg hb', List.append_nil]
      rw [ee]
      exact hv
  · refine q_when (et_t (ew_niL (eX1 rfl) (ew_var rfl h2))) (fun hb H2 e2 => ?_) (fun hb H2 e2 => ?_)
    · have hn : s.1 ∉ held := by simpa using hb
      refine w_asg (ewn_lcT (S := rSpot) (T := sN 7 rStr) (fun _ => true) (fun h => (h, true)) tgN (ew_call2 (ew_var rfl (Kp.kp e2 h0)) (eX1 rfl) fun a b H3 e3 p0 p1 => use_heirs p0 ho p1 hm) (by omega) (fun a σ' H' hT => ?_) (fun a ha σ' H3 e3 hT => et_yes) (fun a ha hf σ' H3 e3 hT => ?_)).ew fun v H3 e3 hv => ?_
      · obtain ⟨x, hx, rfl⟩ := hT
        rfl
      · obtain ⟨x, hx, rfl⟩ := hT
        exact (ewn_tup2 (ew_var rfl hx) ew_b).ew
      · refine cont _ _ ⟨v, _, _, rfl, e2.trans e3, ?_⟩
        rw [if_pos hn]
        rw [map_all] at hv
        exact hv
    · have hn : s.1 ∈ held := by simpa using hb
      refine cont _ _ ⟨v6, _, _, rfl, e2, ?_⟩
      rw [if_neg (fun z => z hn)]
      exact Kp.kp e2 h6
end
end Am
/-! spots_met, reach_of, are_parted. -/
namespace Am
open PySem PySem.Spec PyProof.Rows L2 Evl
/-! ### the plain part -/
theorem countP_mono {α : Type} {p q : α → Bool} (h : ∀ x, p x = true → q x = true) : ∀ l : List α, l.countP p ≤ l.countP q
  | [] => Nat.le_refl _
  | a :: r => by
    have ih := countP_mono h r
    rw [List.countP_cons, List.countP_cons]
    have : (if p a = true then 1 else 0) ≤ (if q a = true then 1 else 0) := by
      by_cases hp : p a = true
      · rw [if_pos hp, if_pos (h a hp)]
        exact Nat.le_refl _
      · rw [if_neg hp]
        exact Nat.zero_le _
    omega
theorem countP_lt {α : Type} {p q : α → Bool} (h : ∀ x, p x = true → q x = true) {s : α} (hq : q s = true) (hp : p s = false) : ∀ {l : List α}, s ∈ l → l.countP p + 1 ≤ l.countP q
  | [], m => by cases m
  | a :: r, m => by
    rw [List.countP_cons, List.countP_cons]
    rcases List.mem_cons.mp m with e | m
    · subst e
      have ih := countP_mono h r
      rw [hq, hp]
      simp
      omega
    · have ih := countP_lt h hq hp m
      have : (if p a = true then 1 else 0) ≤ (if q a = true then 1 else 0) := by
        by_cases hp : p a = true
        · rw [if_pos hp, if_pos (h a hp)]
          exact Nat.le_refl _
        · rw [if_neg hp]
          exact Nat.zero_le _
      omega
abbrev NetD := List Str × List (Str × Str)
def allSp (N : NetD) : List Spt := N.1.flatMap fun x => [(x, false), (x, true)]
theorem mem_allSp {N : NetD} {s : Spt} : s ∈ allSp N ↔ s.1 ∈ N.1 := by
  obtain ⟨x, b⟩ := s
  unfold allSp
  rw [List.mem_flatMap]
  constructor
  · rintro ⟨y, hy, h⟩
    simp at h
    rcases h with ⟨rfl, _⟩ | ⟨rfl, _⟩ <;> exact hy
  · intro h
    refine ⟨x, h, ?_⟩
    cases b <;> simp
theorem allSp_le {N : NetD} (h : N.1.length ≤ 6) : (allSp N).length ≤ 12 := by
  have : (allSp N).length ≤ N.1.length * 2 := flatMap_le fun x _ => by simp
  omega
def unmet (N : NetD) (M : List Spt) : Nat := (allSp N).countP fun s => decide (s ∉ M)
theorem unmet_le {N : NetD} (h : N.1.length ≤ 6) (M : List Spt) : unmet N M ≤ 12 := Nat.le_trans List.countP_le_length (allSp_le h)
theorem unmet_lt {N : NetD} {M : List Spt} {s : Spt} (hs : s.1 ∈ N.1) (hn : s ∉ M) : unmet N (M ++ [s]) + 1 ≤ unmet N M :=
  countP_lt (s := s) (fun x hx => by
    have : x ∉ M ++ [s] := of_decide_eq_true hx
    exact decide_eq_true fun z => this (List.mem_append_left _ z)) (decide_eq_true hn) (decide_eq_false (by simp)) (mem_allSp.mpr hs)
theorem mem_nextL {N : NetD} {rd : Str → Bool} {held : List Str} {s t : Spt} : t ∈ nextL N rd held s ↔
    (t.2 = true ∧ s.1 ∉ held ∧ t.1 ∈ N.1 ∧ (s.1, t.1) ∈ N.2) ∨ (t.2 = false ∧ (s.2 = true ∧ rd s.1 = true ∨ s.2 = false ∧ s.1 ∉ held) ∧ t.1 ∈ N.1 ∧ (t.1, s.1) ∈ N.2) := by
  obtain ⟨x, b⟩ := t
  unfold nextL
  rw [List.mem_append]
  constructor
  · rintro (h | h)
    · by_cases c : s.1 ∉ held
      · rw [if_pos c] at h
        obtain ⟨y, hy, e⟩ := List.mem_map.mp h
        cases e
        exact .inl ⟨rfl, c, (mem_heirsL.mp hy).1, (mem_heirsL.mp hy).2⟩
      · rw [if_neg c] at h
        cases h
    · by_cases c : ((s.2 && rd s.1) || (!s.2 && !decide (s.1 ∈ held))) = true
      · rw [if_pos c] at h
        obtain ⟨y, hy, e⟩ := List.mem_map.mp h
        cases e
        refine .inr ⟨rfl, ?_, (mem_eldersL.mp hy).1, (mem_eldersL.mp hy).2⟩
        simpa using c
      · rw [if_neg c] at h
        cases h
  · rintro (⟨h1, h2, h3, h4⟩ | ⟨h1, h2, h3, h4⟩)
    · left
      have hb : b = true := h1
      subst hb
      rw [if_pos h2]
      exact List.mem_map.mpr ⟨x, mem_heirsL.mpr ⟨h3, h4⟩, rfl⟩
    · right
      have hb : b = false := h1
      subst hb
      rw [if_pos (by simpa using h2)]
      exact List.mem_map.mpr ⟨x, mem_eldersL.mpr ⟨h3, h4⟩, rfl⟩
theorem nextL_le {N : NetD} (h : N.1.length ≤ 6) (rd : Str → Bool) (held : List Str) (s : Spt) : (nextL N rd held s).length ≤ 12 := by
  have l1 : (heirsL N s.1).length ≤ 6 := Nat.le_trans (List.length_filter_le _ _) h
  have l2 : (eldersL N s.1).length ≤ 6 := Nat.le_trans (List.length_filter_le _ _) h
  unfold nextL
  rw [List.length_append]
  have a1 : (if s.1 ∉ held then (heirsL N s.1).map fun h => (h, true) else []).length ≤ 6 := by
    split
    · rw [List.length_map]; exact l1
    · simp
  have a2 : (if ((s.2 && rd s.1) || (!s.2 && !decide (s.1 ∈ held))) = true then (eldersL N s.1).map fun e => (e, false) else []).length ≤ 6 := by
    split
    · rw [List.length_map]; exact l2
    · simp
  omega
def startL (N : NetD) (one : Str) : List Spt := ((heirsL N one).map fun h => (h, true)) ++ (eldersL N one).map fun e => (e, false)
theorem mem_startL {N : NetD} {one : Str} {t : Spt} : t ∈ startL N one ↔ (t.2 = true ∧ t.1 ∈ N.1 ∧ (one, t.1) ∈ N.2) ∨ (t.2 = false ∧ t.1 ∈ N.1 ∧ (t.1, one) ∈ N.2) := by
  obtain ⟨x, b⟩ := t
  unfold startL
  rw [List.mem_append, List.mem_map, List.mem_map]
  constructor
  · rintro (⟨y, hy, e⟩ | ⟨y, hy, e⟩)
    · cases e
      exact .inl ⟨rfl, (mem_heirsL.mp hy).1, (mem_heirsL.mp hy).2⟩
    · cases e
      exact .inr ⟨rfl, (mem_eldersL.mp hy).1, (mem_eldersL.mp hy).2⟩
  · rintro (⟨h1, h2, h3⟩ | ⟨h1, h2, h3⟩)
    · have hb : b = true := h1
      subst hb
      exact .inl ⟨x, mem_heirsL.mpr ⟨h2, h3⟩, rfl⟩
    · have hb : b = false := h1
      subst hb
      exact .inr ⟨x, mem_eldersL.mpr ⟨h2, h3⟩, rfl⟩
theorem startL_le {N : NetD} (h : N.1.length ≤ 6) (one : Str) : (startL N one).length ≤ 12 := by
  have l1 : (heirsL N one).length ≤ 6 := Nat.le_trans (List.length_filter_le _ _) h
  have l2 : (eldersL N one).length ≤ 6 := Nat.le_trans (List.length_filter_le _ _) h
  unfold startL
  rw [List.length_append, List.length_map, List.length_map]
  omega
noncomputable def spotB (N : NetD) (held : List Str) (one : Str) (s : Spt) : Bool := @decide (Spot N.2 held one s.1 s.2) (Classical.propDecidable _)
theorem spotB_iff {N : NetD} {held : List Str} {one : Str} {s : Spt} : spotB N held one s = true ↔ Spot N.2 held one s.1 s.2 := by
  unfold spotB
  exact @decide_eq_true_iff _ (Classical.propDecidable _)
theorem Spot.mem {N : NetD} (ho : NetOk N) {held : List Str} {one x : Str} {b : Bool} (h : Spot N.2 held one x b) : x ∈ N.1 := by
  cases h with
  | heir0 e => exact (ho.net.mem _ _ e).2
  | elder0 e => exact (ho.net.mem _ _ e).1
  | heir _ _ e => exact (ho.net.mem _ _ e).2
  | elder _ _ e => exact (ho.net.mem _ _ e).1
structure SmI (N : NetD) (held : List Str) (one : Str) (rd : Str → Bool) (M ws : List Spt) : Prop where
  sM : ∀ s ∈ M, Spot N.2 held one s.1 s.2
  sW : ∀ s ∈ ws, Spot N.2 held one s.1 s.2
  st : ∀ s ∈ startL N one, s ∈ M ∨ s ∈ ws
  cl : ∀ s ∈ M, ∀ t ∈ nextL N rd held s, t ∈ M ∨ t ∈ ws
section
variable {N : NetD} {held : List Str} {one : Str} {rd : Str → Bool} {M ws : List Spt} {s : Spt}
theorem SmI.start : SmI N held one rd [] (startL N one) where
  sM := fun s h => by cases h
  sW := fun s h => by
    rcases mem_startL.mp h with ⟨h1, _, h2⟩ | ⟨h1, _, h2⟩
    · rw [h1]
      exact .heir0 h2
    · rw [h1]
      exact .elder0 h2
  st := fun s h => .inr h
  cl := fun s h => by cases h
theorem SmI.old (I : SmI N held one rd M (ws ++ [s])) (h : s ∈ M) : SmI N held one rd M ws where
  sM := I.sM
  sW := fun t ht => I.sW t (by simp [ht])
  st := fun t ht => by
    rcases I.st t ht with m | m
    · exact .inl m
    · rcases List.mem_append.mp m with m | m
      · exact .inr m
      · have e : t = s := by simpa using m
        subst e
        exact .inl h
  cl := fun u hu t ht => by
    rcases I.cl u hu t ht with m | m
    · exact .inl m
    · rcases List.mem_append.mp m with m | m
      · exact .inr m
      · have e : t = s := by simpa using m
        subst e
        exact .inl h
theorem SmI.new (ho : NetOk N) (hrd : ∀ y ∈ N.1, (rd y = true ↔ Ready N.2 held y)) (I : SmI N held one rd M (ws ++ [s])) : SmI N held one rd (M ++ [s]) (ws ++ nextL N rd held s) where
  sM := fun t ht => by
    rcases List.mem_append.mp ht with m | m
    · exact I.sM t m
    · have e : t = s := by simpa using m
      subst e
      exact I.sW t (by simp)
  sW := fun t ht => by
    have hs := I.sW s (by simp)
    rcases List.mem_append.mp ht with m | m
    · exact I.sW t (by simp [m])
    · rcases mem_nextL.mp m with ⟨h1, h2, _, h3⟩ | ⟨h1, h2, _, h3⟩
      · rw [h1]
        exact .heir hs h2 h3
      · rw [h1]
        refine .elder hs ?_ h3
        rcases h2 with ⟨a, b⟩ | h
        · exact .inl ⟨a, (hrd s.1 (Spot.mem ho hs)).mp b⟩
        · exact .inr h
  st := fun t ht => by
    rcases I.st t ht with m | m
    · exact .inl (by simp [m])
    · rcases List.mem_append.mp m with m | m
      · exact .inr (by simp [m])
      · exact .inl (by simp at m; simp [m])
  cl := fun u hu t ht => by
    rcases List.mem_append.mp hu with m | m
    · rcases I.cl u m t ht with m | m
      · exact .inl (by simp [m])
      · rcases List.mem_append.mp m with m | m
        · exact .inr (by simp [m])
        · exact .inl (by simp at m; simp [m])
    · have e : u = s := by simpa using m
      subst e
      exact .inr (by simp [ht])
theorem SmI.fin (ho : NetOk N) (hrd : ∀ y ∈ N.1, (rd y = true ↔ Ready N.2 held y)) (I : SmI N held one rd M []) (t : Spt) : decide (t ∈ M) = spotB N held one t := by
  rw [Bool.eq_iff_iff, decide_eq_true_iff, spotB_iff]
  refine ⟨I.sM t, fun h => ?_⟩
  obtain ⟨x, b⟩ := t
  have h' : Spot N.2 held one x b := h
  clear h
  induction h' with
  | @heir0 h e =>
    have := I.st (h, true) (mem_startL.mpr (.inl ⟨rfl, (ho.net.mem _ _ e).2, e⟩))
    simpa using this
  | @elder0 h e =>
    have := I.st (h, false) (mem_startL.mpr (.inr ⟨rfl, (ho.net.mem _ _ e).1, e⟩))
    simpa using this
  | @heir n h b _ nh e ih =>
    have := I.cl (n, b) ih (h, true) (mem_nextL.mpr (.inl ⟨rfl, nh, (ho.net.mem _ _ e).2, e⟩))
    simpa using this
  | @elder n h b _ c e ih =>
    have := I.cl (n, b) ih (h, false) (mem_nextL.mpr (.inr ⟨rfl, ?_, (ho.net.mem _ _ e).1, e⟩))
    · simpa using this
    · rcases c with ⟨a, c⟩ | c
      · exact .inl ⟨a, (hrd n (ho.net.mem _ _ e).2).mpr c⟩
      · exact .inr c
end
section
variable {P : Program} {w : World} {K : PySem.W.Frag} {mg : Str → Option Value} {base : Heap}
/-! ### spots_met -/
def spSpots (P : Program) (w : World) : Sp := fun vs H Q _ => ∃ N one held v0 v1 v2, vs = [v0, v1, v2] ∧ rNet N v0 H ∧ NetOk N ∧ rStr one v1 H ∧ one ∈ N.1 ∧ rL rStr held v2 H ∧ (∀ x ∈ held, x ∈ N.1) ∧ held.length ≤ 100 ∧ Ret (rSpots P w (spotB N held one)) H Q
theorem use_spots {N : NetD} {one : Str} {held : List Str} {v0 v1 v2 : V} {H : Hp} (h0 : rNet N v0 H) (ho : NetOk N) (h1 : rStr one v1 H) (hx : one ∈ N.1) (h2 : rL rStr held v2 H) (hm : ∀ x ∈ held, x ∈ N.1) (hl : held.length ≤ 100) : Gives (spSpots P w) [v0, v1, v2] H (rSpots P w (spotB N held one)) := fun Q k E => ⟨N, one, held, v0, v1, v2, rfl, h0, ho, h1, hx, h2, hm, hl, k⟩
theorem sc_spots_met : FnScope ["net", "one", "held", "ready", "waiting", "met", "spot", "heir", "elder"] ["net", "one", "held"] (defScope (top 24)) := ⟨rfl, rfl, rfl, by decide +kernel, rfl, by decide +kernel, by decide +kernel⟩
theorem ok_spots_met (T : Txt K mg) : OkD P w K mg base 4 "spots_met" ["net", "one", "held"] (spSpots P w) := by
  have G_heirs_of := ok_heirs_of (P := P) (w := w) (base := base) T
  have G_elders_of := ok_elders_of (P := P) (w := w) (base := base) T
  have G_above_all := ok_above_all (P := P) (w := w) (base := base) T
  have G_next_spots := ok_next_spots (P := P) (w := w) (base := base) T
  refine T.d_spots_met.ok sc_spots_met (fun vs H Q E h => ?_) (fun cdv A outer s H vs Q E hr h => ?_)
  · obtain ⟨_, _, _, _, _, _, rfl, _⟩ := h
    rfl
  obtain ⟨N, one, held, v0, v1, v2, rfl, h0, ho, h1, hx, h2, hm, hl, q⟩ := h
  have hN := ho.few
  have el : (eldersL N one).length ≤ 6 := Nat.le_trans (List.length_filter_le _ _) hN
  have hel : (heirsL N one).length ≤ 6 := Nat.le_trans (List.length_filter_le _ _) hN
  have hrd : ∀ y ∈ N.1, (readyN N held y = true ↔ Ready N.2 held y) := fun y hy => readyN_iff hy
  refine ⟨_, (pss_cons (ps_set (i := 3) sc_spots_met.nd rfl (Or.inl rfl) (pe_callD G_above_all hr (pa_cons (pv 0) (pa_cons (pv 2) pa_nil))))
      (pss_cons (ps_setLc (i := 4) (own := [("heir", 7)]) rfl sc_spots_met.nd rfl rfl (sw_true rfl rfl rfl (by decide +kernel)) (kp_tup K (pe_callD G_heirs_of hr (pa_cons (pv 0) (pa_cons (pv 1) pa_nil)))) (blkOk_by (own := [("heir", 7)]) (N := ["net", "one", "held", "ready", "waiting", "met", "spot", "heir", "elder"]) (sc := defScope (top 24)) (by decide +kernel)) (fun _ _ _ _ _ => (pg_name (i := 7) sc_spots_met.nd rfl (Or.inl rfl))) (fun _ _ _ _ _ => pts_nil) (fun _ _ _ _ _ => (pe_tup (pa_cons (pv 7) (pa_cons pe_bl pa_nil)))))
      (pss_cons (ps_set (i := 4) sc_spots_met.nd rfl (Or.inl rfl) (pe_op op_cat (pv 4) (pe_lc (own := [("elder", 8)]) rfl sc_spots_met.nd (kp_tup K (pe_callD G_elders_of hr (pa_cons (pv 0) (pa_cons (pv 1) pa_nil)))) (blkOk_by (own := [("elder", 8)]) (N := ["net", "one", "held", "ready", "waiting", "met", "spot", "heir", "elder"]) (sc := defScope (top 24)) (by decide +kernel)) (fun _ _ _ _ _ => (pg_name (i := 8) sc_spots_met.nd rfl (Or.inl rfl))) (fun _ _ _ _ _ => pts_nil) (fun _ _ _ _ _ => (pe_tup (pa_cons (pv 8) (pa_cons pe_bl pa_nil)))))))
      (pss_cons (ps_set (i := 5) sc_spots_met.nd rfl (Or.inl rfl) (k_dnewS P w))
      (pss_cons (ps_while PassesOwn.never (pt_cmpR op_gt (pe_callB (k_len K) (by rfl) T.b_len PySem.boot_len (pa_cons (pv 4) pa_nil)) pe_int (nomark _))
      (pss_cons (ps_set (i := 6) sc_spots_met.nd rfl (Or.inl rfl) (pe_bm0 PySem.F.plainAttrs_list PySem.F.slot_list_pop PySem.F.type_list_pop mt_pop (pv 4)))
      (pss_one (ps_if (pt_cmp (pc_snotin P w (hu_of hr) (pv 6) (pv 5)))
      (pss_cons (ps_sput P w (hu_of hr) (pv 5) (pv 6) pe_bl rfl)
      (pss_one (ps_expr (pe_bm PySem.F.plainAttrs_list PySem.F.slot_list_extend PySem.F.type_list_extend mt_extend (pv 4) (pa_cons (pe_callD G_next_spots hr (pa_cons (pv 0) (pa_cons (pv 3) (pa_cons (pv 2) (pa_cons (pv 6) pa_nil))))) pa_nil))))) pss_nil))))
      (pss_one (ps_ret (pv 5)))))))), ?_⟩
  refine q_asgW (ew_call2 (ew_var rfl h0) (ew_var rfl h2) fun a b H1 e1 p0 p1 => use_above_all p0 ho p1 hm hl) fun v3 H1 e1 h3 => ?_
  replace h0 := Kp.kp e1 h0
  replace h1 := Kp.kp e1 h1
  replace h2 := Kp.kp e1 h2
  refine q_asgW (ewn_lcT (S := rSpot) (T := sN 7 rStr) (fun _ => true) (fun h => (h, true)) tgN (ew_call2 (ew_var rfl h0) (ew_var rfl h1) fun a b H3 e3 p0 p1 => use_heirs p0 ho p1 hx) (by omega) (fun a σ' H' hT => ?_) (fun a ha σ' H3 e3 hT => et_yes) (fun a ha hf σ' H3 e3 hT => ?_)).ew fun v4 H2 e2 h4 => ?_
  · obtain ⟨x, hx, rfl⟩ := hT
    rfl
  · obtain ⟨x, hx, rfl⟩ := hT
    exact (ewn_tup2 (ew_var rfl hx) ew_b).ew
  refine q_asgN (ewn_cat (ew_var rfl h4) (ewn_lcT (S := rSpot) (T := sN 8 rStr) (fun _ => true) (fun h => (h, false)) tgN (ew_call2 (ew_var rfl (Kp.kp e2 h0)) (ew_var rfl (Kp.kp e2 h1)) fun a b H3 e3 p0 p1 => use_elders p0 ho p1 hx) (by omega) (fun a σ' H' hT => ?_) (fun a ha σ' H3 e3 hT => et_yes) (fun a ha hf σ' H3 e3 hT => ?_)).ew ?_) fun l H3 nl e3 h5 => ?_
  · obtain ⟨x, hx, rfl⟩ := hT
    rfl
  · obtain ⟨x, hx, rfl⟩ := hT
    exact (ewn_tup2 (ew_var rfl hx) ew_b).ew
  · rw [map_all, map_all, List.length_map, List.length_map]
    omega
  rw [map_all, map_all] at h5
  have es : (heirsL N one).map (fun h => (h, true)) ++ (eldersL N one).map (fun h => (h, false)) = startL N one := rfl
  rw [es] at h5
  obtain ⟨l', xs, el', hl3, hxs⟩ := h5
  cases el'
  refine fun p hp => ?_
  have npl : l ≠ p := ne_of_none hl3 hp
  have e13 := e2.trans e3
  have hin : ∀ a ∈ [l, p], H1 a = none := by
    intro a ha
    simp at ha
    rcases ha with rfl | rfl
    · exact fresh_back e2 nl
    · exact fresh_back e13 hp
  have G0 : Ex (hid l H3) (hds [l, p] (upd H3 p (SpO P w p []))) := ex_hds (hid_ex.trans (Ex.new hp)) (by
    intro a ha
    simp at ha
    rcases ha with rfl | rfl
    · exact hid_at
    · rw [hid_ne npl.symm]
      exact hp)
  have sl := startL_le hN one
  refine q_while (fun m σ' H' => ∃ ss ws xs y6 y7 y8, σ' = [some v0, some v1, some v2, some v3, some (.ref l), some (.ref p), y6, y7, y8] ∧ Ex H1 (hds [l, p] H') ∧ H' p = some (SpO P w p ss) ∧ KS (hds [l, p] H') ss ∧ H' l = some (.lst xs) ∧ Al rSpot ws xs (hds [l, p] H') ∧
      SmI N held one (readyN N held) (ss.map (·.1)) ws ∧ ss.length + unmet N (ss.map (·.1)) ≤ 12 ∧ ws.length + 13 * unmet N (ss.map (·.1)) ≤ 200 ∧ m = ws.length + 13 * unmet N (ss.map (·.1))) _
    ⟨[], startL N one, xs, _, _, _, rfl, ex_hds (e13.trans (Ex.new hp)) hin, upd_same, (fun s hs => by cases hs), (by rw [upd_ne npl]; exact hl3), (Al.sh (.inl ⟨_, hl3⟩) hxs).kp G0, .start, ?_, ?_, rfl⟩ fun m σ' H' hw => ?_
  · have := unmet_le hN ([] : List Spt)
    simpa using this
  · have := unmet_le hN ([] : List Spt)
    simp
    omega
  obtain ⟨ss, ws, xs, y6, y7, y8, rfl, B, hp', ks, hl', hal, I, hk, hu, rfl⟩ := hw
  have hal' : Al rSpot ws xs H' := hal.kp hds_ex
  refine ⟨_, et_t (ew_I0b (ew_lenL (ew_var rfl ⟨l, xs, rfl, hl', hal'⟩)) ew_i), fun hb H4 e4 => ?_, fun hb H4 e4 => ?_⟩
  · have hne : ws ≠ [] := by
      rintro rfl
      simp at hb
    obtain ⟨ws', s, rfl⟩ : ∃ ws' y, ws = ws' ++ [y] := ⟨ws.dropLast, ws.getLast hne, (List.dropLast_concat_getLast hne).symm⟩
    obtain ⟨xs', y, rfl, ha1, ha2⟩ := Al.unsnoc hal
    have hsN : s.1 ∈ N.1 := Spot.mem ho (I.sW s (by simp))
    refine ⟨fun σ2 H2 => ∃ m', m' < (ws' ++ [s]).length + 13 * unmet N (ss.map (·.1)) ∧ ∃ ss ws xs y6 y7 y8, σ2 = [some v0, some v1, some v2, some v3, some (.ref l), some (.ref p), y6, y7, y8] ∧ Ex H1 (hds [l, p] H2) ∧ H2 p = some (SpO P w p ss) ∧ KS (hds [l, p] H2) ss ∧ H2 l = some (.lst xs) ∧ Al rSpot ws xs (hds [l, p] H2) ∧
      SmI N held one (readyN N held) (ss.map (·.1)) ws ∧ ss.length + unmet N (ss.map (·.1)) ≤ 12 ∧ ws.length + 13 * unmet N (ss.map (·.1)) ≤ 200 ∧ m' = ws.length + 13 * unmet N (ss.map (·.1)), fun σ2 H2 h => h, ?_⟩
    have hu' := hu
    rw [List.length_append, List.length_singleton] at hu'
    refine q_pop (e4 l _ hl') (ev_var rfl) fun H5 e5 => ?_
    have st : Stp [l, p] H' (upd H5 l (.lst xs')) := (stp_ex (e4.trans e5)).trans (stp_upd (by simp))
    have hp5 : upd H5 l (.lst xs') p = some (SpO P w p ss) := by rw [upd_ne npl.symm]; exact (e4.trans e5) p _ hp'
    have ks5 : KS (hds [l, p] (upd H5 l (.lst xs'))) ss := fun u hu => st _ _ (ks u hu)
    have hs5 : rSpot s y (hds [l, p] (upd H5 l (.lst xs'))) := Kp.kp st ha2
    refine s_when (et_v (ew_snin (ew_var rfl (Kp.kp hds_ex hs5)) (ew_var (P := rSpots P w fun s => decide (s ∈ ss.map (·.1))) rfl ⟨p, ss, rfl, hp5, fun u hu => hds_ex _ _ (ks5 u hu), fun _ => rfl⟩))) (fun hb H6 e6 => ?_) (fun hb H6 e6 => ?_)
    · have hno : s ∉ ss.map (·.1) := by simpa using hb
      have hlt := unmet_lt hsN hno
      obtain ⟨b, x1, x2, rfl, hbt, hx1, hx2⟩ := Kp.kp (P := rSpot s) (stp_ex e6) hs5
      have ex1 : x1 = .str s.1 := hx1.1
      have ex2 : x2 = .bl s.2 := hx2
      subst ex1 ex2
      have ks6 : KS (hds [l, p] H6) ss := fun u hu => stp_ex e6 _ _ (ks5 u hu)
      refine ⟨_, rfl, _, rfl, p, ss, s, b, rfl, rfl, e6 p _ hp5, fun u hu => hds_ex _ _ (ks6 u hu), rfl, hds_ex _ _ hbt, hno, by have := (show ss.length ≤ 12 by omega); exact Nat.lt_of_le_of_lt this (by decide), ?_⟩
      have st7 : Stp [l, p] H6 (upd H6 p (SpO P w p (ss ++ [(s, b)]))) := stp_upd (by simp)
      have l7 : upd H6 p (SpO P w p (ss ++ [(s, b)])) l = some (.lst xs') := by rw [upd_ne npl]; exact e6 l _ upd_same
      have B7 := B.trans (st.trans ((stp_ex e6).trans st7))
      have E7 := B7.trans hds_ex
      have nl := nextL_le hN (readyN N held) held s
      refine w_extend (R := rSpot) (as := nextL N (readyN N held) held s) l7 (ev_var rfl) (ew_call4 (ew_var rfl (Kp.kp E7 h0)) (ew_var rfl (Kp.kp E7 h3)) (ew_var rfl (Kp.kp E7 h2)) (ew_var (P := rSpot s) rfl ⟨b, _, _, rfl, hds_ex _ _ (st7 _ _ hbt), hx1, hx2⟩) fun a0 a1 a2 a3 H8 e8 p0 p1 p2 p3 => use_next p0 ho p1 p2 p3 hsN) (by rw [← ha1.len]; omega) fun zs H8 e8 hz => ?_
      have st8 : Stp [l, p] (upd H6 p (SpO P w p (ss ++ [(s, b)]))) (upd H8 l (.lst (xs' ++ zs))) := (stp_ex e8).trans (stp_upd (by simp))
      have hp8 : H8 p = some (SpO P w p (ss ++ [(s, b)])) := e8 p _ upd_same
      have em : (ss ++ [(s, b)]).map (·.1) = ss.map (·.1) ++ [s] := by rw [List.map_append]; rfl
      refine ⟨(ws' ++ nextL N (readyN N held) held s).length + 13 * unmet N (ss.map (·.1) ++ [s]), ?_, ss ++ [(s, b)], ws' ++ nextL N (readyN N held) held s, xs' ++ zs, _, _, _, rfl, B7.trans st8, ?_, fun u hu => ?_, upd_same, ?_, ?_, ?_, ?_, ?_⟩
      · rw [List.length_append, List.length_append, List.length_singleton]
        omega
      · rw [upd_ne npl.symm]
        exact hp8
      · rcases List.mem_append.mp hu with m | m
        · exact (st7.trans st8) _ _ (ks6 u m)
        · have eu : u = (s, b) := by simpa using m
          subst eu
          exact (st7.trans st8) _ _ hbt
      · refine (ha1.kp (st.trans ((stp_ex e6).trans (st7.trans st8)))).app ?_
        rw [hds_upd (by simp)]
        exact Al.hds (by
          intro a ha
          simp at ha
          rcases ha with rfl | rfl
          · exact .inl ⟨_, e8 _ _ l7⟩
          · exact .inr (.inr ⟨_, hp8⟩)) (by simpa using npl) hz
      · rw [em]
        exact I.new ho hrd
      · rw [em, List.length_append, List.length_singleton]
        omega
      · rw [em, List.length_append]
        omega
      · rw [em]
    · have hin : s ∈ ss.map (·.1) := by simpa using hb
      exact ⟨ws'.length + 13 * unmet N (ss.map (·.1)), by simp, ss, ws', xs', _, _, _, rfl, B.trans (st.trans (stp_ex e6)), e6 p _ hp5, fun u hu => stp_ex e6 _ _ (ks5 u hu), e6 l _ upd_same, ha1.kp (st.trans (stp_ex e6)), I.old hin, hk, by omega, rfl⟩
  · have e : ws = [] := by
      cases ws with
      | nil => rfl
      | cons a r => simp at hb
    subst e
    refine w_ret (ew_var (P := rSpots P w (spotB N held one)) rfl ⟨p, ss, rfl, e4 p _ hp', fun u hu => e4 _ _ (hds_ex _ _ (ks u hu)), fun t => (I.fin ho hrd t).symm⟩) fun v H5 e5 hv => q v H5 ((e1.trans (B.trans hds_ex)).trans (e4.trans e5)) hv
end
end Am
/-! reach_of, are_parted. -/
namespace Am
open PySem PySem.Spec PyProof.Rows L2 Evl
noncomputable def partB (N : NetD) (held : List Str) (one other : Str) : Bool := !spotB N held one (other, false) && !spotB N held one (other, true)
theorem partB_iff {N : NetD} {held : List Str} {one other : Str} : partB N held one other = true ↔ ¬ ∃ b, Spot N.2 held one other b := by
  unfold partB
  rw [Bool.and_eq_true, Bool.not_eq_true', Bool.not_eq_true']
  constructor
  · rintro ⟨h1, h2⟩ ⟨b, h⟩
    cases b with
    | false => rw [spotB_iff.mpr h] at h1; cases h1
    | true => rw [spotB_iff.mpr h] at h2; cases h2
  · intro h
    constructor
    · cases e : spotB N held one (other, false) with
      | false => rfl
      | true => exact absurd ⟨_, spotB_iff.mp e⟩ h
    · cases e : spotB N held one (other, true) with
      | false => rfl
      | true => exact absurd ⟨_, spotB_iff.mp e⟩ h
section
variable {P : Program} {w : World} {K : PySem.W.Frag} {mg : Str → Option Value} {base : Heap}
/-! ### are_parted -/
def spParted : Sp := fun vs H Q _ => ∃ N one other held v0 v1 v2 v3, vs = [v0, v1, v2, v3] ∧ rNet N v0 H ∧ NetOk N ∧ rStr one v1 H ∧ rStr other v2 H ∧ rL rStr held v3 H ∧ AskOk N one other held ∧ Ret (rBool (partB N held one other)) H Q
theorem use_parted {N : NetD} {one other : Str} {held : List Str} {v0 v1 v2 v3 : V} {H : Hp} (h0 : rNet N v0 H) (ho : NetOk N) (h1 : rStr one v1 H) (h2 : rStr other v2 H) (h3 : rL rStr held v3 H) (ha : AskOk N one other held) : Gives spParted [v0, v1, v2, v3] H (rBool (partB N held one other)) := fun Q k E => ⟨N, one, other, held, v0, v1, v2, v3, rfl, h0, ho, h1, h2, h3, ha, k⟩
theorem sc_are_parted : FnScope ["net", "one", "other", "held", "met"] ["net", "one", "other", "held"] (defScope (top 26)) := ⟨rfl, rfl, rfl, by decide +kernel, rfl, by decide +kernel, by decide +kernel⟩
theorem ok_are_parted (T : Txt K mg) : OkD P w K mg base 5 "are_parted" ["net", "one", "other", "held"] spParted := by
  have G_look_at_asked := ok_look_at_asked (P := P) (w := w) (base := base) T
  have G_spots_met := ok_spots_met (P := P) (w := w) (base := base) T
  refine T.d_are_parted.ok sc_are_parted (fun vs H Q E h => ?_) (fun cdv A outer s H vs Q E hr h => ?_)
  · obtain ⟨_, _, _, _, _, _, _, _, rfl, _⟩ := h
    rfl
  obtain ⟨N, one, other, held, v0, v1, v2, v3, rfl, h0, ho, h1, h2, h3, ha, q⟩ := h
  have hN := ho.few
  refine ⟨_, (pss_cons (ps_expr (pe_callD G_look_at_asked hr (pa_cons (pe_ix (kx_tup K) (pv 0) pe_int (fun _ _ => rfl)) (pa_cons (pv 1) (pa_cons (pv 2) (pa_cons (pv 3) pa_nil))))))
      (pss_cons (ps_set (i := 4) sc_are_parted.nd rfl (Or.inl rfl) (pe_callD G_spots_met hr (pa_cons (pv 0) (pa_cons (pv 1) (pa_cons (pv 3) pa_nil)))))
      (pss_one (ps_ret (pe_and (pe_cmp (pc_snotin P w (hu_of hr) (pe_tup (pa_cons (pv 2) (pa_cons pe_bl pa_nil))) (pv 4)) rfl) (pe_one (pe_cmp (pc_snotin P w (hu_of hr) (pe_tup (pa_cons (pv 2) (pa_cons pe_bl pa_nil))) (pv 4)) rfl))))))), ?_⟩
  refine q_dropW (ew_call4 (ew_p0 (ew_var rfl h0)) (ew_var rfl h1) (ew_var rfl h2) (ew_var rfl h3) fun a b c d H1 e1 p0 p1 p2 p3 => use_asked p0 p1 p2 p3 ha.mem ha.nd (ha.le hN)) fun _ H1 e1 _ => ?_
  refine q_asgW (ew_call3 (P := rSpots P w (spotB N held one)) (ew_var rfl (Kp.kp e1 h0)) (ew_var (P := rStr one) rfl h1) (ew_var rfl (Kp.kp e1 h3)) fun a b c H2 e2 p0 p1 p2 => use_spots p0 ho p1 (ha.mem one (by simp)) p2 (fun x hx => ha.mem x (by simp [hx])) (ha.le hN)) fun v4 H2 e2 h4 => ?_
  exact w_ret (ew_andV (ew_snin (ewn_tup2 (R := rStr) (S := rBool) (ew_vF (P := rStr other) rfl h2) ew_b).ew (ew_var rfl h4)) fun _ => ew_snin (ewn_tup2 (R := rStr) (S := rBool) (ew_vF (P := rStr other) rfl h2) ew_b).ew (ew_var rfl h4)) fun v H3 e3 hv => q v H3 ((e1.trans e2).trans e3) hv
/-! ### reach_of -/
def spReach : Sp := fun vs H Q _ => ∃ N one held v0 v1 v2, vs = [v0, v1, v2] ∧ rNet N v0 H ∧ NetOk N ∧ rStr one v1 H ∧ rL rStr held v2 H ∧ (∀ x ∈ one :: held, x ∈ N.1) ∧ (one :: held).Nodup ∧ held.length ≤ 100 ∧ Ret (rL rSpot ((allSp N).filter (spotB N held one))) H Q
theorem use_reach {N : NetD} {one : Str} {held : List Str} {v0 v1 v2 : V} {H : Hp} (h0 : rNet N v0 H) (ho : NetOk N) (h1 : rStr one v1 H) (h2 : rL rStr held v2 H) (hm : ∀ x ∈ one :: held, x ∈ N.1) (hn : (one :: held).Nodup) (hl : held.length ≤ 100) : Gives spReach [v0, v1, v2] H (rL rSpot ((allSp N).filter (spotB N held one))) := fun Q k E => ⟨N, one, held, v0, v1, v2, rfl, h0, ho, h1, h2, hm, hn, hl, k⟩
theorem sc_reach_of : FnScope ["net", "one", "held", "met", "told", "name", "into"] ["net", "one", "held"] (defScope (top 25)) := ⟨rfl, rfl, rfl, by decide +kernel, rfl, by decide +kernel, by decide +kernel⟩
theorem ok_reach_of (T : Txt K mg) : OkD P w K mg base 5 "reach_of" ["net", "one", "held"] spReach := by
  have G_look_for := ok_look_for (P := P) (w := w) (base := base) T
  have G_look_once := ok_look_once (P := P) (w := w) (base := base) T
  have G_spots_met := ok_spots_met (P := P) (w := w) (base := base) T
  refine T.d_reach_of.ok sc_reach_of (fun vs H Q E h => ?_) (fun cdv A outer s H vs Q E hr h => ?_)
  · obtain ⟨_, _, _, _, _, _, rfl, _⟩ := h
    rfl
  obtain ⟨N, one, held, v0, v1, v2, rfl, h0, ho, h1, h2, hm, hn, hl, q⟩ := h
  have hN := ho.few
  refine ⟨_, (pss_cons (ps_expr (pe_callD G_look_for hr (pa_cons (pe_ix (kx_tup K) (pv 0) pe_int (fun _ _ => rfl)) (pa_cons (pe_op op_cat (pe_lst (pa_cons (pv 1) pa_nil)) (pe_callTy (k_list K) (by rfl) T.b_list (by decide +kernel) (pa_cons (pv 2) pa_nil))) pa_nil))))
      (pss_cons (ps_expr (pe_callD G_look_once hr (pa_cons (pe_op op_cat (pe_lst (pa_cons (pv 1) pa_nil)) (pe_callTy (k_list K) (by rfl) T.b_list (by decide +kernel) (pa_cons (pv 2) pa_nil))) pa_nil)))
      (pss_cons (ps_set (i := 3) sc_reach_of.nd rfl (Or.inl rfl) (pe_callD G_spots_met hr (pa_cons (pv 0) (pa_cons (pv 1) (pa_cons (pv 2) pa_nil)))))
      (pss_cons (ps_set (i := 4) sc_reach_of.nd rfl (Or.inl rfl) (pe_lst pa_nil))
      (pss_cons (ps_for PassesOwn.never rfl (kp_tup K (pe_ix (kx_tup K) (pv 0) pe_int (fun _ _ => rfl))) (pg_name (i := 5) sc_reach_of.nd rfl (Or.inl rfl))
      (pss_one (ps_for PassesOwn.never rfl (kp_list K (pe_lst (pa_cons pe_bl (pa_cons pe_bl pa_nil)))) (pg_name (i := 6) sc_reach_of.nd rfl (Or.inl rfl))
      (pss_one (ps_if (pt_cmp (pc_sin P w (hu_of hr) (pe_tup (pa_cons (pv 5) (pa_cons (pv 6) pa_nil))) (pv 3)))
      (pss_one (ps_expr (pe_bm PySem.F.plainAttrs_list PySem.F.slot_list_append PySem.F.type_list_append mt_append (pv 4) (pa_cons (pe_tup (pa_cons (pv 5) (pa_cons (pv 6) pa_nil))) pa_nil)))) pss_nil)))))
      (pss_one (ps_ret (pv 4)))))))), ?_⟩
  refine q_dropW (ew_call2 (ew_p0 (ew_var rfl h0)) (ewn_cat (ewn_lst1 (ew_var rfl h1)).ew (ewn_list (ew_var rfl h2)).ew (by simp; omega)).ew fun a b H1 e1 p0 p1 => use_look_for p0 p1 (by simpa using hm)) fun _ H1 e1 _ => ?_
  replace h0 := Kp.kp e1 h0
  replace h1 := Kp.kp e1 h1
  replace h2 := Kp.kp e1 h2
  refine q_dropW (ew_call1 (ewn_cat (ewn_lst1 (ew_var rfl h1)).ew (ewn_list (ew_var rfl h2)).ew (by simp; omega)).ew fun a H2 e2 p0 => use_look_once p0 (by simpa using hn) (by simp; omega)) fun _ H2 e2 _ => ?_
  replace h0 := Kp.kp e2 h0
  replace h1 := Kp.kp e2 h1
  replace h2 := Kp.kp e2 h2
  refine q_asgW (ew_call3 (P := rSpots P w (spotB N held one)) (ew_var rfl h0) (ew_var rfl h1) (ew_var rfl h2) fun a b c H2 e2 p0 p1 p2 => use_spots p0 ho p1 (hm one (by simp)) p2 (fun x hx => hm x (by simp [hx])) hl) fun v3 H3 e3 h3 => ?_
  replace h0 := Kp.kp e3 h0
  refine q_asgN (ewn_lst0 (R := rSpot)) fun l H4 nl e4 h4 => ?_
  obtain ⟨l', xs, el, hl4, hxs⟩ := h4
  cases el
  cases hxs
  obtain ⟨n, a0, b0, rfl, hnn, hns, har⟩ := id h0
  have hin : ∀ a ∈ [l], H3 a = none := by simpa using nl
  have flen : ∀ d : List Str, d.length ≤ 6 → ((d.flatMap fun x => [(x, false), (x, true)]).filter (spotB N held one)).length ≤ 12 := fun d hd => by
    have l1 := List.length_filter_le (spotB N held one) (d.flatMap fun x => [(x, false), (x, true)])
    have l2 : (d.flatMap fun x => [(x, false), (x, true)]).length ≤ d.length * 2 := flatMap_le fun x _ => by simp
    omega
  refine q_forTv (R := rStr) (as := N.1) (Hs := H3) tgN (ev_p0 (ev_var rfl) (e4 n _ hnn)) hns (fun d t σ' H' => ∃ xs y5 y6, σ' = [some (.ref n), some v1, some v2, some v3, some (.ref l), y5, y6] ∧ Ex H3 (hds [l] H') ∧ H' l = some (.lst xs) ∧ Al rSpot ((d.flatMap fun x => [(x, false), (x, true)]).filter (spotB N held one)) xs (hds [l] H'))
    (fun H5 e5 => ⟨[], _, _, rfl, ex_hds (e4.trans e5) hin, e5 l _ hl4, .nil⟩) (fun d t σ' H' hw => ?_) (fun d a t σ' σ2 H' ed hw hT => ?_) fun σ' H' hw => ?_
  · obtain ⟨_, _, _, _, h, _⟩ := hw
    exact h.trans hds_ex
  · obtain ⟨xs, y5, y6, rfl, B, hl', hal⟩ := hw
    obtain ⟨c, hc, rfl⟩ := hT
    have hdl : d.length + 1 ≤ 6 := by
      have : d.length + 1 ≤ N.1.length := by rw [← ed]; simp
      omega
    refine w_forLp (R := rBool) (as := [false, true]) tgN ((ewn_lst2 (R := rBool) ew_b ew_b).apart hl') (fun v H h => h.1) fun v H5 e5 hv => ⟨hds [l] H5, fun d2 t2 σ' H' => ∃ xs y6, σ' = [some (.ref n), some v1, some v2, some v3, some (.ref l), some c, y6] ∧ Ex (hds [l] H5) (hds [l] H') ∧ H' l = some (.lst xs) ∧
        Al rSpot (((d.flatMap fun x => [(x, false), (x, true)]) ++ d2.map fun b => (a, b)).filter (spotB N held one)) xs (hds [l] H'), ?_, ⟨xs, _, rfl, Ex.refl _, e5 l _ hl', by simpa using hal.kp (stp_ex e5)⟩, fun d2 t2 σ' H' hw => ?_, fun d2 b t2 σ' σ2 H' ed2 hw hT => ?_, fun σ' H' hw => ?_⟩
    · rw [hds_one]
      exact Sh1.sh hv.1 hv.2
    · obtain ⟨_, _, _, h, _⟩ := hw
      exact h.trans hds_ex
    · obtain ⟨xs2, y6, rfl, B2, hl2, hal2⟩ := hw
      obtain ⟨c2, hc2, rfl⟩ := hT
      have E6 : Ex H3 H' := (B.trans ((stp_ex e5).trans B2)).trans hds_ex
      have len2 : xs2.length ≤ 12 := by
        rw [← hal2.len]
        have l1 := List.length_filter_le (spotB N held one) ((d.flatMap fun x => [(x, false), (x, true)]) ++ d2.map fun b => (a, b))
        have l2 : (d.flatMap fun x => [(x, false), (x, true)]).length ≤ d.length * 2 := flatMap_le fun x _ => by simp
        have l3 : d2.length ≤ 2 := by
          have : d2.length ≤ [false, true].length := by rw [← ed2]; simp
          simpa using this
        rw [List.length_append, List.length_map] at l1
        omega
      refine s_when (et_v (ew_sin (s := (a, b)) (ewn_tup2 (R := rStr) (S := rBool) (ew_vF (P := rStr a) rfl hc) (ew_vF (P := rBool b) rfl hc2)).ew (ew_var rfl (Kp.kp E6 h3)))) (fun hb H6 e6 => ?_) (fun hb H6 e6 => ?_)
      · refine w_app (e6 l _ hl2) (ev_var rfl) (ewn_tup2 (R := rStr) (S := rBool) (a := a) (b := b) (ew_vF (P := rStr a) rfl hc) (ew_vF (P := rBool b) rfl hc2)).ew (by omega) fun v H7 e7 hv => ?_
        have st : Stp [l] H' (upd H7 l (.lst (xs2 ++ [v]))) := (stp_ex (e6.trans e7)).trans (stp_upd (by simp))
        refine ⟨_, _, rfl, B2.trans st, upd_same, ?_⟩
        rw [List.map_append, ← List.append_assoc, List.filter_append]
        have e8 : ([b].map fun b => (a, b)).filter (spotB N held one) = [(a, b)] := by simp [hb]
        rw [e8]
        refine (hal2.kp st).snoc ?_
        rw [hds_upd (by simp), hds_one]
        exact Sh0.sh hv (.inl ⟨_, (e6.trans e7) l _ hl2⟩)
      · refine ⟨xs2, _, rfl, B2.trans (stp_ex e6), e6 l _ hl2, ?_⟩
        rw [List.map_append, ← List.append_assoc, List.filter_append]
        have e8 : ([b].map fun b => (a, b)).filter (spotB N held one) = [] := by simp [hb]
        rw [e8, List.append_nil]
        exact hal2.kp (stp_ex e6)
    · obtain ⟨xs2, y6, rfl, B2, hl2, hal2⟩ := hw
      refine ⟨xs2, _, _, rfl, B.trans ((stp_ex e5).trans B2), hl2, ?_⟩
      rw [List.flatMap_append]
      simpa using hal2
  · obtain ⟨xs, y5, y6, rfl, B, hl', hal⟩ := hw
    exact w_ret (ew_var (P := rL rSpot ((allSp N).filter (spotB N held one))) rfl ⟨l, xs, rfl, hl', hal.kp hds_ex⟩) fun v H5 e5 hv => q v H5 (((e1.trans e2).trans e3).trans ((B.trans hds_ex).trans e5)) hv
end
end Am
/-! may_go_on, open_on. -/
namespace Am
open PySem PySem.Spec PyProof.Rows L2 Evl
theorem atI_two {α : Type} {q : List α} {p l : α} : atI (q ++ [p, l]) (-2) = some p := by
  unfold atI ixN
  have hl : (q ++ [p, l]).length = q.length + 2 := by simp
  rw [hl, if_neg (by omega), if_pos (by omega)]
  have e2 : ((-2 : Int) + ((q.length + 2 : Nat) : Int)).toNat = q.length := by omega
  show (q ++ [p, l])[((-2 : Int) + ((q.length + 2 : Nat) : Int)).toNat]? = some p
  rw [e2]
  simp
theorem atI_one {α : Type} {q : List α} {p l : α} : atI (q ++ [p, l]) (-1) = some l := atI_last (by simp)
section
variable {P : Program} {w : World} {K : PySem.W.Frag} {mg : Str → Option Value} {base : Heap}
/-! ### may_go_on -/
def spMayGo : Sp := fun vs H Q _ => ∃ N rd held road x v0 v1 v2 v3 v4, vs = [v0, v1, v2, v3, v4] ∧ rNet N v0 H ∧ rSet rd v1 H ∧ rL rStr held v2 H ∧ rL rStr road v3 H ∧ road ≠ [] ∧ rStr x v4 H ∧ Ret (rBool (goB N.2 rd held road x)) H Q
theorem use_may_go {N : NetD} {rd : Str → Bool} {held road : List Str} {x : Str} {v0 v1 v2 v3 v4 : V} {H : Hp} (h0 : rNet N v0 H) (h1 : rSet rd v1 H) (h2 : rL rStr held v2 H) (h3 : rL rStr road v3 H) (hne : road ≠ []) (h4 : rStr x v4 H) : Gives spMayGo [v0, v1, v2, v3, v4] H (rBool (goB N.2 rd held road x)) := fun Q k E => ⟨N, rd, held, road, x, v0, v1, v2, v3, v4, rfl, h0, h1, h2, h3, hne, h4, k⟩
theorem sc_may_go_on : FnScope ["net", "ready", "held", "road", "name", "here"] ["net", "ready", "held", "road", "name"] (defScope (top 27)) := ⟨rfl, rfl, rfl, by decide +kernel, rfl, by decide +kernel, by decide +kernel⟩
theorem ok_may_go_on (T : Txt K mg) : OkD P w K mg base 1 "may_go_on" ["net", "ready", "held", "road", "name"] spMayGo := by
  refine T.d_may_go_on.ok sc_may_go_on (fun vs H Q E h => ?_) (fun cdv A outer s H vs Q E hr h => ?_)
  · obtain ⟨_, _, _, _, _, _, _, _, _, _, rfl, _⟩ := h
    rfl
  obtain ⟨N, rd, held, road, x, v0, v1, v2, v3, v4, rfl, h0, h1, h2, h3, hne, h4, q⟩ := h
  refine ⟨_, (pss_cons (ps_if (pt_cmpR op_lt (pe_callB (k_len K) (by rfl) T.b_len PySem.boot_len (pa_cons (pv 3) pa_nil)) pe_int (nomark _))
      (pss_one (ps_ret pe_bl)) pss_nil)
      (pss_cons (ps_set (i := 5) sc_may_go_on.nd rfl (Or.inl rfl) (pe_ix (kx_list K) (pv 3) (pe_un un_neg pe_int) (fun _ _ => rfl)))
      (pss_cons (ps_if (PW.pt (pw_and (pt_cmpR (op_inP hr.u65) (pe_tup (pa_cons (pe_ix (kx_list K) (pv 3) (pe_un un_neg pe_int) (fun _ _ => rfl)) (pa_cons (pv 5) pa_nil))) (pe_ix (kx_tup K) (pv 0) pe_int (fun _ _ => rfl)) (by rfl)) (pw_and1 (pt_cmpR (op_inP hr.u65) (pe_tup (pa_cons (pv 4) (pa_cons (pv 5) pa_nil))) (pe_ix (kx_tup K) (pv 0) pe_int (fun _ _ => rfl)) (by rfl)))))
      (pss_one (ps_ret (pe_cmp (pc_din (hu_of hr) (pv 5) (pv 1)) rfl))) pss_nil)
      (pss_one (ps_ret (pe_cmpR (k_notIn K) (pv 5) (pv 2) (by rfl))))))), ?_⟩
  refine q_when (et_t (ew_I0b (ew_lenL (ew_var rfl h3)) ew_i)) (fun hb H1 e1 => ?_) (fun hb H1 e1 => ?_)
  · have hl : road.length < 2 := by
      have := of_decide_eq_true hb
      omega
    refine w_ret ew_b fun v H2 e2 hv => q v H2 (e1.trans e2) ?_
    cases road with
    | nil => exact absurd rfl hne
    | cons a r =>
      cases r with
      | nil => exact hv
      | cons b r => exact absurd hl (by simp)
  · have hl : 2 ≤ road.length := by
      have := of_decide_eq_false hb
      omega
    obtain ⟨qq, p, l, rfl⟩ := two_of hl
    replace h0 := Kp.kp e1 h0
    replace h1 := Kp.kp e1 h1
    replace h2 := Kp.kp e1 h2
    replace h3 := Kp.kp e1 h3
    refine q_asgW (ew_ixL (ew_var rfl h3) (ew_neg ew_i) atI_one) fun v5 H2 e2 h5 => ?_
    replace h0 := Kp.kp e2 h0
    replace h1 := Kp.kp e2 h1
    replace h2 := Kp.kp e2 h2
    replace h3 := Kp.kp e2 h3
    refine q_when (et_and (et_t (ew_inP (ewn_tup2 (ew_ixL (ew_var rfl h3) (ew_neg ew_i) atI_two) (ew_var rfl h5)).ew (ew_p1 (ew_var rfl h0)))) fun _ => et_t (ew_inP (ewn_tup2 (ew_vF (P := rStr x) rfl h4) (ew_var rfl h5)).ew (ew_p1 (ew_var rfl h0)))) (fun hb H3 e3 => ?_) (fun hb H3 e3 => ?_)
    · refine w_ret (ew_inD (ew_vF (P := rStr l) rfl h5) (ew_var rfl (Kp.kp e3 h1))) fun v H4 e4 hv => q v H4 ((e1.trans e2).trans (e3.trans e4)) ?_
      rw [goB_two, if_pos hb]
      exact hv
    · refine w_ret (ew_niL (ew_vF (P := rStr l) rfl h5) (ew_var rfl (Kp.kp e3 h2))) fun v H4 e4 hv => q v H4 ((e1.trans e2).trans (e3.trans e4)) ?_
      have hb' : ¬ (decide ((p, l) ∈ N.2) && decide ((x, l) ∈ N.2)) = true := by rw [hb]; exact Bool.false_ne_true
      rw [goB_two, if_neg hb']
      exact hv
/-! ### open_on -/
def rAsked (N : NetD) (rd : Str → Bool) (held : List Str) (other : Str) : VP := fun v H => ∃ p a b c d, v = .ref p ∧ H p = some (.tup [a, b, c, d]) ∧ rNear N.1 (nearL N) a H ∧ rSet rd b H ∧ rL rStr held c H ∧ rStr other d H
instance {N : NetD} {rd : Str → Bool} {held : List Str} {other : Str} : Kp (rAsked N rd held other) := ⟨fun e ⟨p, a, b, c, d, h1, h2, h3, h4, h5, h6⟩ => ⟨p, a, b, c, d, h1, e p _ h2, Kp.kp e h3, Kp.kp e h4, Kp.kp e h5, h6⟩⟩
/-- what open_on tells: an open road, or nothing where there is none -/
def OpenRes (N : NetD) (held : List Str) (other : Str) (road r : List Str) : Prop := (r ≠ [] ∧ Onto N.2 other road r ∧ Open N.2 held r) ∨ (r = [] ∧ ∀ s, Onto N.2 other road s → ¬ Open N.2 held s)
structure OnPre (N : NetD) (rd : Str → Bool) (held : List Str) (other : Str) (n : Nat) (road : List Str) : Prop where
  ok : NetOk N
  rd : ∀ y ∈ N.1, (rd y = true ↔ Ready N.2 held y)
  ne : road ≠ []
  nd : road.Nodup
  mem : ∀ x ∈ road, x ∈ N.1
  ch : Chain N.2 road
  op : Open N.2 held road
  fuel : N.1.length + 1 ≤ n + road.length
def spOpenOn (n : Nat) : Sp := fun vs H Q _ => ∃ N rd held other road v0 v1 v2, vs = [v0, v1, v2] ∧ rNet N v0 H ∧ rAsked N rd held other v1 H ∧ rL rStr road v2 H ∧ OnPre N rd held other n road ∧ Ret (rSome (OpenRes N held other road) (rL rStr)) H Q
theorem use_open_on {n : Nat} {N : NetD} {rd : Str → Bool} {held : List Str} {other : Str} {road : List Str} {v0 v1 v2 : V} {H : Hp} (h0 : rNet N v0 H) (h1 : rAsked N rd held other v1 H) (h2 : rL rStr road v2 H) (pre : OnPre N rd held other n road) :
    Gives (spOpenOn n) [v0, v1, v2] H (rSome (OpenRes N held other road) (rL rStr)) := fun Q k E => ⟨N, rd, held, other, road, v0, v1, v2, rfl, h0, h1, h2, pre, k⟩
theorem sc_open_on : FnScope ["net", "asked", "road", "near", "ready", "held", "other", "name", "found"] ["net", "asked", "road"] (defScope (top 28)) := ⟨rfl, rfl, rfl, by decide +kernel, rfl, by decide +kernel, by decide +kernel⟩
theorem ok_open_on_S (T : Txt K mg) {n : Nat} (G_open_on : OkD P w K mg base (n + 1) "open_on" ["net", "asked", "road"] (spOpenOn n)) : OkD P w K mg base (n + 2) "open_on" ["net", "asked", "road"] (spOpenOn (n + 1)) := by
  have G_may_go_on := ok_may_go_on (P := P) (w := w) (base := base) T
  refine T.d_open_on.ok sc_open_on (fun vs H Q E h => ?_) (fun cdv A outer s H vs Q E hr h => ?_)
  · obtain ⟨_, _, _, _, _, _, _, _, rfl, _⟩ := h
    rfl
  obtain ⟨N, rd, held, other, road, v0, v1, v2, rfl, h0, h1, h2, pre, q⟩ := h
  obtain ⟨ho, hrd, hne, hnd, hin, hch, hop, hfu⟩ := pre
  refine ⟨_, (pss_cons (ps_asg (pv 1) (kg_tup K 4 (by rfl) (pgs_cons (pg_name (i := 3) sc_open_on.nd rfl (Or.inl rfl)) (pgs_cons (pg_name (i := 4) sc_open_on.nd rfl (Or.inl rfl)) (pgs_cons (pg_name (i := 5) sc_open_on.nd rfl (Or.inl rfl)) (pgs_cons (pg_name (i := 6) sc_open_on.nd rfl (Or.inl rfl)) pgs_nil))))))
      (pss_cons (ps_if (pt_cmpR op_eq (pe_ix (kx_list K) (pv 2) (pe_un un_neg pe_int) (fun _ _ => rfl)) (pv 6) (nomark _))
      (pss_one (ps_ret (pv 2))) pss_nil)
      (pss_cons (ps_for PassesOwn.never rfl (kp_list K (pe_dget (hu_of hr) (pv 3) (pe_ix (kx_list K) (pv 2) (pe_un un_neg pe_int) (fun _ _ => rfl)) (fun _ _ => rfl))) (pg_name (i := 7) sc_open_on.nd rfl (Or.inl rfl))
      (pss_one (ps_if (PW.pt (pw_and (pt_cmpR (k_notIn K) (pv 7) (pv 2) (by rfl)) (pw_and1 (pt_val (pe_callD (hj := Nat.succ_le_succ (Nat.zero_le _)) G_may_go_on hr (pa_cons (pv 0) (pa_cons (pv 4) (pa_cons (pv 5) (pa_cons (pv 2) (pa_cons (pv 7) pa_nil))))))))))
      (pss_cons (ps_set (i := 8) sc_open_on.nd rfl (Or.inl rfl) (pe_callD (hj := Nat.le_refl _) G_open_on hr (pa_cons (pv 0) (pa_cons (pv 1) (pa_cons (pe_op op_cat (pv 2) (pe_lst (pa_cons (pv 7) pa_nil))) pa_nil)))))
      (pss_one (ps_if (pt_cmpR op_gt (pe_callB (k_len K) (by rfl) T.b_len PySem.boot_len (pa_cons (pv 8) pa_nil)) pe_int (nomark _))
      (pss_one (ps_ret (pv 8))) pss_nil))) pss_nil)))
      (pss_one (ps_ret (pe_lst pa_nil)))))), ?_⟩
  obtain ⟨l, hl⟩ : ∃ l, road.getLast? = some l := ⟨road.getLast hne, List.getLast?_eq_some_getLast hne⟩
  have hlin : l ∈ N.1 := hin l (List.mem_of_getLast? hl)
  have hrdr : ∀ x ∈ road, (rd x = true ↔ Ready N.2 held x) := fun x hx => hrd x (hin x hx)
  obtain ⟨p, a, b, c, d, rfl, hp, ha, hb, hc, hd⟩ := id h1
  refine ⟨_, rfl, p, [a, b, c, d], rfl, SqT.of hp, rfl, a, _, rfl, b, _, rfl, c, _, rfl, d, _, rfl, rfl, ?_⟩
  have eL : ∀ {H' : Hp} {σ : L2.St}, σ[2]? = some (some v2) → Ex H H' → Ew (tOp (rIxL K) (tVar 2) (tUn (rU fun i => .int (-i)) (tC (.int 1)))) σ H' (rStr l) := fun hσ e => ew_ixL (ew_var hσ (Kp.kp e h2)) (ew_neg ew_i) (atI_last hl)
  refine q_when (et_t (ew_eqS (eL rfl (Ex.refl H)) (ew_vF (P := rStr other) rfl hd))) (fun hbb H1 e1 => ?_) (fun hbb H1 e1 => ?_)
  · have hlo : l = other := of_decide_eq_true hbb
    subst hlo
    exact w_ret (ew_var rfl (Kp.kp e1 h2)) fun v H2 e2 hv => q v H2 (e1.trans e2) ⟨road, .inl ⟨hne, ⟨hnd, hch, hl, List.prefix_refl _⟩, hop⟩, hv⟩
  · have hlo : ¬ l = other := of_decide_eq_false hbb
    refine q_forLW (R := rStr) tgN (ew_getN (ew_var rfl (Kp.kp e1 ha)) (eL rfl e1) hlin) fun v H3 e3 hv => ⟨H3, fun d1 t σ' H' => Ex H3 H' ∧ (∃ y7 y8, σ' = [some v0, some (.ref p), some v2, some a, some b, some c, some d, y7, y8]) ∧ ∀ x ∈ d1, ∀ s, Onto N.2 other (road ++ [x]) s → ¬ Open N.2 held s, hv,
      ⟨Ex.refl _, ⟨_, _, rfl⟩, fun x hx => by cases hx⟩, fun d t σ' H' w => w.1, fun d1 x t σ' σ2 H' ed w hT => ?_, fun σ' H' w => ?_⟩
    · obtain ⟨e, ⟨y7, y8, rfl⟩, hd1⟩ := w
      obtain ⟨vx, hx, rfl⟩ := hT
      have hxn : x ∈ nearL N l := by rw [← ed]; simp
      obtain ⟨hxN, hxt⟩ := mem_nearL.mp hxn
      have E4 : Ex H H' := (e1.trans e3).trans e
      have next : ∀ {H5 : Hp} {y7 y8 : Option V}, Ex H' H5 → (∀ s, Onto N.2 other (road ++ [x]) s → ¬ Open N.2 held s) → (Ex H3 H5 ∧ (∃ y7' y8', ([some v0, some (.ref p), some v2, some a, some b, some c, some d, y7, y8] : L2.St) = [some v0, some (.ref p), some v2, some a, some b, some c, some d, y7', y8']) ∧ ∀ y ∈ d1 ++ [x], ∀ s, Onto N.2 other (road ++ [y]) s → ¬ Open N.2 held s) := fun e5 hno => ⟨e.trans e5, ⟨_, _, rfl⟩, fun y hy => by
        rcases List.mem_append.mp hy with m | m
        · exact hd1 y m
        · have ey : y = x := by simpa using m
          subst ey
          exact hno⟩
      refine s_when (et_and (et_t (ew_niL (ew_vF (P := rStr x) rfl hx) (ew_var rfl (Kp.kp E4 h2)))) fun _ => et_v (ew_call5 (ew_var rfl (Kp.kp E4 h0)) (ew_var rfl (Kp.kp E4 hb)) (ew_var rfl (Kp.kp E4 hc)) (ew_var rfl (Kp.kp E4 h2)) (ew_vF (P := rStr x) rfl hx) fun a0 a1 a2 a3 a4 H5 e5 p0 p1 p2 p3 p4 => use_may_go p0 p1 p2 p3 hne p4)) (fun hbb H5 e5 => ?_) (fun hbb H5 e5 => ?_)
      · rw [Bool.and_eq_true] at hbb
        obtain ⟨b1, b2⟩ := hbb
        have hxr : x ∉ road := by simpa using b1
        have E5 := E4.trans e5
        refine q_asgW (ew_call3 (ew_var rfl (Kp.kp E5 h0)) (ew_var rfl (Kp.kp E5 h1)) (ewn_cat (ew_var rfl (Kp.kp E5 h2)) (ewn_lst1 (R := rStr) (ew_vF (P := rStr x) rfl hx)).ew ?_).ew fun a0 a1 a2 H6 e6 p0 p1 p2 => use_open_on p0 p1 p2 ⟨ho, hrd, by simp, ?_, ?_, chain_push hch hl hxt, (open_more hne hrdr x).mpr ⟨hop, b2⟩, ?_⟩) fun v8 H6 e6 h8 => ?_
        · have l1 := hnd.length_le_of_subset hin
          have l2 := ho.few
          simp
          omega
        · exact List.nodup_append.mpr ⟨hnd, by simp, fun u hu z hz => by
            have ez : z = x := by simpa using hz
            subst ez
            exact fun e => hxr (e ▸ hu)⟩
        · intro u hu
          rcases List.mem_append.mp hu with m | m
          · exact hin u m
          · have eu : u = x := by simpa using m
            subst eu
            exact hxN
        · simp
          omega
        · obtain ⟨r, hr8, hv8⟩ := h8
          refine s_when (et_t (ew_I0b (ew_lenL (ew_var rfl hv8)) ew_i)) (fun hbb H7 e7 => ?_) (fun hbb H7 e7 => ?_)
          · have hrne : r ≠ [] := by
              rintro rfl
              simp at hbb
            refine w_ret (ew_var rfl (Kp.kp e7 hv8)) fun v H8 e8 hv => q v H8 (E5.trans (e6.trans (e7.trans e8))) ⟨r, ?_, hv⟩
            rcases hr8 with ⟨_, h, o⟩ | ⟨h, _⟩
            · exact .inl ⟨hrne, h.back, o⟩
            · exact absurd h hrne
          · have hre : r = [] := by
              cases r with
              | nil => rfl
              | cons z r => simp at hbb
            subst hre
            refine next (e5.trans (e6.trans e7)) ?_
            rcases hr8 with ⟨h, _⟩ | ⟨_, h⟩
            · exact absurd rfl h
            · exact h
      · refine next e5 fun s hs o => ?_
        have o2 := hs.open_pre o
        rw [open_more hne hrdr] at o2
        have hxr : x ∉ road := fun m => by
          have := (hs.nd.sublist hs.pre.sublist)
          exact (List.nodup_append.mp this).2.2 x m x (by simp) rfl
        rw [o2.2] at hbb
        simp [hxr] at hbb
    · obtain ⟨e, ⟨y7, y8, rfl⟩, hd1⟩ := w
      refine w_ret (ewn_lst0 (R := rStr)).ew fun v H4 e4 hv => q v H4 (((e1.trans e3).trans e).trans e4) ⟨[], .inr ⟨rfl, fun s hs o => ?_⟩, hv⟩
      obtain ⟨x, h1, h2, h3⟩ := hs.next hl hlo
      have hx : x ∈ nearL N l := mem_nearL.mpr ⟨h3.elim (fun t => (ho.net.mem _ _ t).2) fun t => (ho.net.mem _ _ t).1, h3⟩
      exact hd1 x hx s h1 o
theorem ok_open_on (T : Txt K mg) : ∀ n : Nat, OkD P w K mg base (n + 1) "open_on" ["net", "asked", "road"] (spOpenOn n)
  | 0 => by
    obtain ⟨fd, F, b⟩ := T.d_open_on.ex
    have no : ∀ vs H Q E, ¬ spOpenOn 0 vs H Q E := fun vs H Q E h => by
      obtain ⟨N, rd, held, other, road, v0, v1, v2, rfl, h0, h1, h2, pre, q⟩ := h
      have := pre.nd.length_le_of_subset pre.mem
      have := pre.fuel
      omega
    exact ⟨fd, ⟨fun vs H Q E h => absurd h (no vs H Q E), fun A outer s H args us vs Q E _ _ _ _ h => absurd h (no vs H Q E)⟩, T.d_open_on.g, F.kp, b⟩
  | n + 1 => ok_open_on_S T (ok_open_on T n)
end
end Am
/-! down_from, open_road. -/
namespace Am
open PySem PySem.Spec PyProof.Rows L2 Evl
/-! ### the plain part of down_from -/
structure WyI (N : NetD) (held : List Str) (name : Str) (ws : List (List Str)) : Prop where
  way : ∀ w ∈ ws, Way N.1 N.2 name w
  ex : ∃ w ∈ ws, ∃ z, w.getLast? = some z ∧ Ready N.2 held z
  self : name ∈ held → ws = [[name]]
  few : wts ws ≤ 7776
theorem Way.last {N : NetD} {name : Str} {w : List Str} (h : Way N.1 N.2 name w) : ∃ z, w.getLast? = some z := by
  cases w with
  | nil => cases h.hd
  | cons a r => exact ⟨_, List.getLast?_eq_some_getLast (by simp)⟩
theorem Way.mem {N : NetD} (ho : NetOk N) {name : Str} (hn : name ∈ N.1) {w : List Str} (h : Way N.1 N.2 name w) : ∀ x ∈ w, x ∈ N.1 := arrs_in ho.net h.ar fun a ha => by
  rw [h.hd] at ha
  cases ha
  exact hn
theorem heirs_five {N : NetD} (ho : NetOk N) {x : Str} (hx : x ∈ N.1) : (heirsL N x).length ≤ 5 := by
  have nd : (x :: heirsL N x).Nodup := List.nodup_cons.mpr ⟨fun m => ho.net.irr (mem_heirsL.mp m).2, ho.net.nd.sublist List.filter_sublist⟩
  have := nd.length_le_of_subset (l₂ := N.1) fun y hy => by
    rcases List.mem_cons.mp hy with rfl | m
    · exact hx
    · exact (mem_heirsL.mp m).1
  have := ho.few
  simp at *
  omega
theorem WyI.start {N : NetD} {held : List Str} {name : Str} (hr : Ready N.2 held name) : WyI N held name [[name]] where
  way := fun w hw => by
    have e : w = [name] := by simpa using hw
    subst e
    exact ⟨rfl, trivial⟩
  ex := ⟨[name], by simp, name, rfl, hr⟩
  self := fun _ => rfl
  few := by
    show (([[name]] : List (List Str)).map fun w => 6 ^ (6 - w.length)).sum ≤ 7776
    simp
theorem WyI.fall {N : NetD} (ho : NetOk N) {held : List Str} {name : Str} (hn : name ∈ N.1) {w : List Str} {ws : List (List Str)} {z : Str} (I : WyI N held name (w :: ws)) (hz : w.getLast? = some z) : wts (ws ++ (heirsL N z).map fun h => w ++ [h]) < wts (w :: ws) := by
  have hw := I.way w (by simp)
  have hzN := hw.mem ho hn z (List.mem_of_getLast? hz)
  rw [wts_app, wts_cons]
  have := wts_fall (w := w) (heirs_five ho hzN) fun hne => by
    obtain ⟨x, hx⟩ : ∃ x, x ∈ heirsL N z := List.exists_mem_of_ne_nil _ hne
    have hp : Way N.1 N.2 name (w ++ [x]) := hw.push hz (mem_heirsL.mp hx).2
    have := hp.le ho.net hn
    have := ho.few
    simp at *
    omega
  omega
theorem WyI.turn {N : NetD} (ho : NetOk N) {held : List Str} {name : Str} (hn : name ∈ N.1) {w : List Str} {ws : List (List Str)} {z : Str} (I : WyI N held name (w :: ws)) (hz : w.getLast? = some z) (hh : z ∉ held) : WyI N held name (ws ++ (heirsL N z).map fun h => w ++ [h]) where
  way := fun u hu => by
    rcases List.mem_append.mp hu with m | m
    · exact I.way u (by simp [m])
    · obtain ⟨x, hx, rfl⟩ := List.mem_map.mp m
      exact (I.way w (by simp)).push hz (mem_heirsL.mp hx).2
  ex := by
    obtain ⟨u, hu, y, hy, hr⟩ := I.ex
    rcases List.mem_cons.mp hu with e | m
    · subst e
      rw [hz] at hy
      have ey : z = y := Option.some.inj hy
      subst ey
      obtain ⟨h, hh2, hr⟩ := hr
      rcases hr.head with e | ⟨c, h1, h2⟩
      · subst e
        exact absurd hh2 hh
      · exact ⟨u ++ [c], by simp; exact .inr (mem_heirsL.mpr ⟨(ho.net.mem _ _ h1).2, h1⟩), c, by simp, h, hh2, h2⟩
    · exact ⟨u, by simp [m], y, hy, hr⟩
  self := fun h => by
    exfalso
    have e := I.self h
    cases e
    have ez : name = z := Option.some.inj hz
    subst ez
    exact hh h
  few := Nat.le_trans (Nat.le_of_lt (I.fall ho hn hz)) I.few
section
variable {P : Program} {w : World} {K : PySem.W.Frag} {mg : Str → Option Value} {base : Heap}
/-- a way down from a meeting -/
def rDown (N : NetD) (held : List Str) : Rep Str := fun x => rSome (Down N.1 N.2 held x) (rL rStr)
instance {N : NetD} {held : List Str} {x : Str} : Kp (rDown N held x) := by unfold rDown; exact inferInstance
instance {N : NetD} {held : List Str} {x : Str} : Sh1 (rDown N held x) := by unfold rDown; exact inferInstance
def spDownFrom : Sp := fun vs H Q _ => ∃ N name held v0 v1 v2, vs = [v0, v1, v2] ∧ rNet N v0 H ∧ NetOk N ∧ rStr name v1 H ∧ name ∈ N.1 ∧ rL rStr held v2 H ∧ Ready N.2 held name ∧ RetN (rDown N held name) H Q
theorem use_down_from {N : NetD} {name : Str} {held : List Str} {v0 v1 v2 : V} {H : Hp} (h0 : rNet N v0 H) (ho : NetOk N) (h1 : rStr name v1 H) (hn : name ∈ N.1) (h2 : rL rStr held v2 H) (hr : Ready N.2 held name) : GivesN spDownFrom [v0, v1, v2] H (rDown N held name) := fun Q k E => ⟨N, name, held, v0, v1, v2, rfl, h0, ho, h1, hn, h2, hr, k⟩
theorem sc_down_from : FnScope ["net", "name", "held", "ways", "way", "heir"] ["net", "name", "held"] (defScope (top 29)) := ⟨rfl, rfl, rfl, by decide +kernel, rfl, by decide +kernel, by decide +kernel⟩
theorem ok_down_from (T : Txt K mg) : OkD P w K mg base 3 "down_from" ["net", "name", "held"] spDownFrom := by
  have G_heirs_of := ok_heirs_of (P := P) (w := w) (base := base) T
  refine T.d_down_from.ok sc_down_from (fun vs H Q E h => ?_) (fun cdv A outer s H vs Q E hr h => ?_)
  · obtain ⟨_, _, _, _, _, _, rfl, _⟩ := h
    rfl
  obtain ⟨N, name, held, v0, v1, v2, rfl, h0, ho, h1, hn, h2, hrd, q⟩ := h
  have hN := ho.few
  refine ⟨_, (pss_cons (ps_set (i := 3) sc_down_from.nd rfl (Or.inl rfl) (pe_lst (pa_cons (pe_lst (pa_cons (pv 1) pa_nil)) pa_nil)))
      (pss_cons (ps_while PassesOwn.never (pt_cmpR (k_notIn K) (pe_ix (kx_list K) (pe_ix (kx_list K) (pv 3) pe_int (fun _ _ => rfl)) (pe_un un_neg pe_int) (fun _ _ => rfl)) (pv 2) (by rfl))
      (pss_cons (ps_set (i := 4) sc_down_from.nd rfl (Or.inl rfl) (pe_bm PySem.F.plainAttrs_list PySem.F.slot_list_pop PySem.F.type_list_pop mt_popAt (pv 3) (pa_cons pe_int pa_nil)))
      (pss_one (ps_for PassesOwn.never rfl (kp_tup K (pe_callD G_heirs_of hr (pa_cons (pv 0) (pa_cons (pe_ix (kx_list K) (pv 4) (pe_un un_neg pe_int) (fun _ _ => rfl)) pa_nil)))) (pg_name (i := 5) sc_down_from.nd rfl (Or.inl rfl))
      (pss_one (ps_expr (pe_bm PySem.F.plainAttrs_list PySem.F.slot_list_append PySem.F.type_list_append mt_append (pv 3) (pa_cons (pe_op op_cat (pv 4) (pe_lst (pa_cons (pv 5) pa_nil))) pa_nil))))))))
      (pss_one (ps_ret (pe_ix (kx_list K) (pv 3) pe_int (fun _ _ => rfl)))))), ?_⟩
  refine q_asgLL (Am.Ewn.imp (ewn_lst1 (R := rStr) (ew_var rfl h1)) fun v H' _ h => h) fun p l H1 np e1 hp hl => ?_
  have npl : p ≠ l := by
    obtain ⟨p', xs, ep, hp', _⟩ := hp
    cases ep
    exact ne_of_none hp' hl
  have hin : ∀ a ∈ [l], H a = none := by simpa using fresh_back e1 hl
  have fresh_l : ∀ {r : List Str} {v : V} {H' : Hp}, rFr H (rL rStr) r v H' → True := fun _ => trivial
  refine q_while (fun m σ' H' => ∃ ws xs y4 y5, σ' = [some v0, some v1, some v2, some (.ref l), y4, y5] ∧ Ex H (hds [l] H') ∧ H' l = some (.lst xs) ∧ Al (rFr H (rL rStr)) ws xs (hds [l] H') ∧ WyI N held name ws ∧ m = wts ws) _
    ⟨[[name]], [.ref p], _, _, rfl, ex_hds (e1.trans (Ex.new hl)) hin, upd_same, .cons ⟨?_, p, rfl, np⟩ .nil, .start hrd, rfl⟩ fun m σ' H' hw => ?_
  · rw [hds_upd (by simp), hds_one]
    exact Sh1.sh hp fun z => npl (V.ref.inj z)
  obtain ⟨ws, xs, y4, y5, rfl, B, hl', hal, I, rfl⟩ := hw
  cases hal with
  | nil =>
    obtain ⟨_, h, _⟩ := I.ex
    cases h
  | @cons u x us xs' hx hal' =>
    replace hal' : Al (rFr H (rL rStr)) us xs' (hds [l] H') := hal'
    obtain ⟨z, hz⟩ := (I.way u (by simp)).last
    have hzN : z ∈ N.1 := (I.way u (by simp)).mem ho hn z (List.mem_of_getLast? hz)
    have hxH : rL rStr u x H' := Kp.kp hds_ex hx.1
    have hwl : (u :: us).length ≤ 7776 := Nat.le_trans (wts_ge _) I.few
    have ulen : u.length ≤ 6 := Nat.le_trans ((I.way u (by simp)).le ho.net hn) hN
    have all : rL (rFr H (rL rStr)) (u :: us) (.ref l) H' := ⟨l, x :: xs', rfl, hl', .cons (Kp.kp hds_ex hx) (hal'.kp hds_ex)⟩
    have i0 : atI (u :: us) 0 = some u := atI_of (j := 0) rfl
    have eW : ∀ {H5 : Hp} {σ : L2.St}, σ[3]? = some (some (.ref l)) → Ex H' H5 → Ew (tOp (rIxL K) (tVar 3) (tC (.int 0))) σ H5 (rFr H (rL rStr) u) := fun hs e => ew_ixL (ew_var hs (Kp.kp e all)) ew_i i0
    refine ⟨_, et_t (ew_niL (ew_ixL ((eW rfl (Ex.refl _)).imp fun v H' _ h => h.1) (ew_neg ew_i) (atI_last hz)) (ew_var rfl (Kp.kp (B.trans hds_ex) h2))), fun hb H2 e2 => ?_, fun hb H2 e2 => ?_⟩
    · have hzh : z ∉ held := by simpa using hb
      refine ⟨fun σ2 H2 => ∃ m', m' < wts (u :: us) ∧ ∃ ws xs y4 y5, σ2 = [some v0, some v1, some v2, some (.ref l), y4, y5] ∧ Ex H (hds [l] H2) ∧ H2 l = some (.lst xs) ∧ Al (rFr H (rL rStr)) ws xs (hds [l] H2) ∧ WyI N held name ws ∧ m' = wts ws, fun σ2 H2 h => h, ?_⟩
      have hxs : (x :: xs').length < 100000 := by
        have := hal'.len
        simp at hwl ⊢
        omega
      refine q_popAt (j := 0) (y := x) (e2 l _ hl') rfl hxs (ev_var rfl) ew_i fun H3 e3 => ?_
      have st : Stp [l] H' (upd H3 l (.lst ((x :: xs').eraseIdx 0))) := (stp_ex (e2.trans e3)).trans (stp_upd (by simp))
      have B3 := B.trans st
      have hx3 := Kp.kp (P := rL rStr u) st hx.1
      have hl3 : upd H3 l (.lst ((x :: xs').eraseIdx 0)) l = some (.lst xs') := upd_same
      refine w_forT (R := rStr) (as := heirsL N z) tgN (ew_call2 (ew_var rfl (Kp.kp (B3.trans hds_ex) h0)) (ew_ixL (ew_var rfl (Kp.kp hds_ex hx3)) (ew_neg ew_i) (atI_last hz)) fun a b H4 e4 p0 p1 => use_heirs p0 ho p1 hzN) fun v H4 e4 hv => ⟨hds [l] H4, fun d t σ' H' => ∃ ys y5, σ' = [some v0, some v1, some v2, some (.ref l), some x, y5] ∧ Ex (hds [l] H4) (hds [l] H') ∧ H' l = some (.lst ys) ∧ Al (rFr H (rL rStr)) (us ++ d.map fun h => u ++ [h]) ys (hds [l] H'), ?_,
        ⟨xs', _, rfl, Ex.refl _, e4 l _ hl3, by simpa using hal'.kp (st.trans (stp_ex e4))⟩, fun d t σ' H' w => ?_, fun d a t σ' σ2 H' ed hw hT => ?_, fun σ' H' hw => ?_⟩
      · rw [hds_one]
        exact Sh0.sh hv (.inl ⟨_, e4 l _ hl3⟩)
      · obtain ⟨_, _, _, h, _⟩ := w
        exact h.trans hds_ex
      · obtain ⟨ys, y5', rfl, B5, hl5, hal5⟩ := hw
        obtain ⟨c, hc, rfl⟩ := hT
        have E5 : Ex H H' := (B3.trans ((stp_ex e4).trans B5)).trans hds_ex
        have hx5 : rL rStr u x H' := Kp.kp (((stp_ex e4).trans B5).trans hds_ex) hx3
        have dl : d.length ≤ 5 := by
          have h5 := heirs_five ho hzN
          have : d.length ≤ (heirsL N z).length := by rw [← ed]; simp
          omega
        have yl : ys.length < 1000000 := by
          rw [← hal5.len, List.length_append, List.length_map]
          simp at hwl
          omega
        refine w_appN hl5 (ev_var rfl) (ewn_cat (R := rStr) (ew_var rfl hx5) (ewn_lst1 (ew_vF (P := rStr a) rfl hc)).ew (by simp; omega)) yl fun p6 H6 n6 e6 h6 => ?_
        have st6 : Stp [l] H' (upd H6 l (.lst (ys ++ [.ref p6]))) := (stp_ex e6).trans (stp_upd (by simp))
        have np6 : p6 ≠ l := (ne_of_none hl5 n6).symm
        refine ⟨_, _, rfl, B5.trans st6, upd_same, ?_⟩
        rw [List.map_append, ← List.append_assoc]
        refine (hal5.kp st6).snoc ⟨?_, p6, rfl, fresh_back E5 n6⟩
        rw [hds_upd (by simp), hds_one]
        exact Sh1.sh h6 fun z => np6 (V.ref.inj z)
      · obtain ⟨ys, y5', rfl, B5, hl5, hal5⟩ := hw
        exact ⟨_, I.fall ho hn hz, _, ys, _, _, rfl, B3.trans ((stp_ex e4).trans B5), hl5, hal5, I.turn ho hn hz hzh, rfl⟩
    · have hzh : z ∈ held := by simpa using hb
      refine w_ret (eW rfl e2) fun v H3 e3 hv => ?_
      obtain ⟨hv1, p9, rfl, n9⟩ := hv
      refine q p9 H3 n9 ((B.trans hds_ex).trans (e2.trans e3)) ⟨u, ⟨I.way u (by simp), ⟨z, hz, hzh⟩, fun h => ?_⟩, hv1⟩
      have := I.self h
      injection this
/-! ### open_road -/
/-- what open_road tells -/
def rOpenRoad (N : NetD) (held : List Str) (one other : Str) : VP := fun v H => (v = .non ∧ ¬ ∃ r, Road N.2 one other r ∧ Open N.2 held r) ∨ (∃ r, Road N.2 one other r ∧ Open N.2 held r ∧ rP (rL rStr) (rL (rDown N held)) (r, meetsS N r) v H)
instance {N : NetD} {held : List Str} {one other : Str} : Kp (rOpenRoad N held one other) := ⟨fun e h => by
  rcases h with h | ⟨r, h1, h2, h3⟩
  · exact .inl h
  · exact .inr ⟨r, h1, h2, Kp.kp e h3⟩⟩
def spOpenRoad : Sp := fun vs H Q _ => ∃ N one other held v0 v1 v2 v3, vs = [v0, v1, v2, v3] ∧ rNet N v0 H ∧ NetOk N ∧ rStr one v1 H ∧ rStr other v2 H ∧ rL rStr held v3 H ∧ AskOk N one other held ∧ Ret (rOpenRoad N held one other) H Q
theorem use_open_road {N : NetD} {one other : Str} {held : List Str} {v0 v1 v2 v3 : V} {H : Hp} (h0 : rNet N v0 H) (ho : NetOk N) (h1 : rStr one v1 H) (h2 : rStr other v2 H) (h3 : rL rStr held v3 H) (ha : AskOk N one other held) : Gives spOpenRoad [v0, v1, v2, v3] H (rOpenRoad N held one other) := fun Q k E => ⟨N, one, other, held, v0, v1, v2, v3, rfl, h0, ho, h1, h2, h3, ha, k⟩
theorem meets_ready {N : NetD} {held : List Str} {r : List Str} (ho : Open N.2 held r) {x : Str} (hx : x ∈ meetsS N r) : Ready N.2 held x := by
  obtain ⟨i, hi, e⟩ := List.mem_map.mp hx
  obtain ⟨h1, h2⟩ := List.mem_filter.mp hi
  obtain ⟨a, b, c, g1, g2, g3⟩ := three (List.mem_range.mp h1)
  rw [List.getD_eq_getElem?_getD, g2] at e
  have eb : b = x := e
  subst eb
  rw [meetsAt_of g1 g2 g3] at h2
  have := open_iff.mp ho i a b c g1 g2 g3
  exact this.1 (by simpa using h2)
theorem sc_open_road : FnScope ["net", "one", "other", "held", "asked", "road", "name"] ["net", "one", "other", "held"] (defScope (top 30)) := ⟨rfl, rfl, rfl, by decide +kernel, rfl, by decide +kernel, by decide +kernel⟩
theorem ok_open_road (T : Txt K mg) : OkD P w K mg base 8 "open_road" ["net", "one", "other", "held"] spOpenRoad := by
  have G_look_at_asked := ok_look_at_asked (P := P) (w := w) (base := base) T
  have G_ties_at := ok_ties_at (P := P) (w := w) (base := base) T
  have G_above_all := ok_above_all (P := P) (w := w) (base := base) T
  have G_open_on := ok_open_on (P := P) (w := w) (base := base) T 6
  have G_meetings_of := ok_meetings_of (P := P) (w := w) (base := base) T
  have G_down_from := ok_down_from (P := P) (w := w) (base := base) T
  refine T.d_open_road.ok sc_open_road (fun vs H Q E h => ?_) (fun cdv A outer s H vs Q E hr h => ?_)
  · obtain ⟨_, _, _, _, _, _, _, _, rfl, _⟩ := h
    rfl
  obtain ⟨N, one, other, held, v0, v1, v2, v3, rfl, h0, ho, h1, h2, h3, ha, q⟩ := h
  have hN := ho.few
  have hm1 : one ∈ N.1 := ha.mem one (by simp)
  refine ⟨_, (pss_cons (ps_expr (pe_callD G_look_at_asked hr (pa_cons (pe_ix (kx_tup K) (pv 0) pe_int (fun _ _ => rfl)) (pa_cons (pv 1) (pa_cons (pv 2) (pa_cons (pv 3) pa_nil))))))
      (pss_cons (ps_set (i := 4) sc_open_road.nd rfl (Or.inl rfl) (pe_tup (pa_cons (pe_callD G_ties_at hr (pa_cons (pv 0) pa_nil)) (pa_cons (pe_callD G_above_all hr (pa_cons (pv 0) (pa_cons (pv 3) pa_nil))) (pa_cons (pv 3) (pa_cons (pv 2) pa_nil))))))
      (pss_cons (ps_set (i := 5) sc_open_road.nd rfl (Or.inl rfl) (pe_callD G_open_on hr (pa_cons (pv 0) (pa_cons (pv 4) (pa_cons (pe_lst (pa_cons (pv 1) pa_nil)) pa_nil)))))
      (pss_cons (ps_if (pt_cmpR op_eq (pe_callB (k_len K) (by rfl) T.b_len PySem.boot_len (pa_cons (pv 5) pa_nil)) pe_int (nomark _))
      (pss_one (ps_ret pe_non)) pss_nil)
      (pss_one (ps_ret (pe_tup (pa_cons (pv 5) (pa_cons (pe_lc (own := [("name", 6)]) rfl sc_open_road.nd (kp_list K (pe_callD G_meetings_of hr (pa_cons (pv 0) (pa_cons (pv 5) pa_nil)))) (blkOk_by (own := [("name", 6)]) (N := ["net", "one", "other", "held", "asked", "road", "name"]) (sc := defScope (top 30)) (by decide +kernel)) (fun _ _ _ _ _ => (pg_name (i := 6) sc_open_road.nd rfl (Or.inl rfl))) (fun _ _ _ _ _ => pts_nil) (fun _ _ _ _ _ => (pe_callD G_down_from hr (pa_cons (pv 0) (pa_cons (pv 6) (pa_cons (pv 3) pa_nil)))))) pa_nil))))))))), ?_⟩
  refine q_dropW (ew_call4 (ew_p0 (ew_var rfl h0)) (ew_var rfl h1) (ew_var rfl h2) (ew_var rfl h3) fun a b c d H1 e1 p0 p1 p2 p3 => use_asked p0 p1 p2 p3 ha.mem ha.nd (ha.le hN)) fun _ H1 e1 _ => ?_
  replace h0 := Kp.kp e1 h0
  replace h1 := Kp.kp e1 h1
  replace h2 := Kp.kp e1 h2
  replace h3 := Kp.kp e1 h3
  refine q_asgW (P := rAsked N (readyN N held) held other) (ewn_tup4 (ew_call1 (ew_var rfl h0) fun a H2 e2 p0 => use_ties p0 ho) (ew_call2 (ew_var rfl h0) (ew_var rfl h3) fun a b H2 e2 p0 p1 => use_above_all p0 ho p1 (fun x hx => ha.mem x (by simp [hx])) (ha.le hN)) (ew_var rfl h3) (ew_var rfl h2)).ew fun v4 H2 e2 h4 => ?_
  replace h0 := Kp.kp e2 h0
  replace h1 := Kp.kp e2 h1
  replace h3 := Kp.kp e2 h3
  refine q_asgW (ew_call3 (ew_var rfl h0) (ew_var rfl h4) (ewn_lst1 (R := rStr) (ew_var rfl h1)).ew fun a b c H3 e3 p0 p1 p2 => use_open_on p0 p1 p2 ⟨ho, fun y hy => readyN_iff hy, by simp, by simp, by simpa using hm1, trivial, trivial, by simp; omega⟩) fun v5 H3 e3 h5 => ?_
  obtain ⟨r, hres, h5⟩ := h5
  replace h0 := Kp.kp e3 h0
  replace h3 := Kp.kp e3 h3
  have E3 := (e1.trans e2).trans e3
  refine q_when (et_t (ew_eqI (ew_lenL (ew_var rfl h5)) ew_i)) (fun hb H4 e4 => ?_) (fun hb H4 e4 => ?_)
  · have hre : r = [] := by
      cases r with
      | nil => rfl
      | cons z r =>
        have := of_decide_eq_true hb
        simp at this
        omega
    refine w_ret (ew_c (P := rNone ()) (v := .non) rfl) fun v H5 e5 hv => q v H5 (E3.trans (e4.trans e5)) (.inl ⟨hv, ?_⟩)
    rintro ⟨r', h1, h2⟩
    rcases hres with ⟨h, _⟩ | ⟨_, h⟩
    · exact h hre
    · exact h r' (onto_one.mpr h1) h2
  · have hrne : r ≠ [] := by
      rintro rfl
      have := of_decide_eq_false hb
      simp at this
    obtain ⟨hro, hop⟩ : Onto N.2 other [one] r ∧ Open N.2 held r := by
      rcases hres with ⟨_, h, o⟩ | ⟨h, _⟩
      · exact ⟨h, o⟩
      · exact absurd h hrne
    have hroad := onto_one.mp hro
    have hmem : ∀ x ∈ r, x ∈ N.1 := chain_in ho.net hroad.ch fun a ha' => by
      rw [hroad.hd] at ha'
      cases ha'
      exact hm1
    have hlen := road_short ho.net hm1 hroad
    replace h0 := Kp.kp e4 h0
    replace h3 := Kp.kp e4 h3
    replace h5 := Kp.kp e4 h5
    have ml : (meetsS N r).length ≤ 6 := by
      have l1 := List.length_filter_le (meetsAt N.2 r) (List.range (r.length - 2))
      rw [List.length_range] at l1
      show ((List.range (r.length - 2)).filter (meetsAt N.2 r) |>.map fun i => r.getD (i + 1) Str.empty).length ≤ 6
      rw [List.length_map]
      omega
    refine w_ret (ewn_tup2 (R := rL rStr) (S := rL (rDown N held)) (ew_var rfl h5) ((ewn_lcLN (S := rDown N held) (R := rStr) (T := sN 6 rStr) (as := meetsS N r) (fun _ => true) (fun x => x) tgN (ew_call2 (ew_var rfl h0) (ew_var rfl h5) fun a b H6 e6 p0 p1 => use_meetings p0 p1 (by omega)) (by omega) (fun a σ' H' hT => ?_) (fun a ha σ' H5 e5 hT => et_yes) (fun a ham hf σ' H5 e5 hT => ?_)).toL ((map_all _ _).trans (List.map_id' _))).ew).ew fun v H5 e5 hv => q v H5 (E3.trans (e4.trans e5)) (.inr ⟨r, hroad, hop, hv⟩)
    · obtain ⟨x, hx, rfl⟩ := hT
      rfl
    · obtain ⟨x, hx, rfl⟩ := hT
      exact ewn_call3 (ew_var rfl (Kp.kp e5 h0)) (ew_vF (P := rStr a) rfl hx) (ew_var rfl (Kp.kp e5 h3)) fun a0 a1 a2 H6 e6 p0 p1 p2 => use_down_from p0 ho p1 (hmem a (meetsL_sub ham)) p2 (meets_ready hop ham)
end
end Am
/-! The law's own walks: _law_tied, _law_spread, _law_below, _law_meets, _law_is_open. -/
namespace Am
open PySem PySem.Spec PyProof.Rows L2 Evl
section
variable {P : Program} {w : World} {K : PySem.W.Frag} {mg : Str → Option Value} {base : Heap}
/-! ### _law_tied -/
def spTied : Sp := fun vs H Q _ => ∃ N a b v0 v1 v2, vs = [v0, v1, v2] ∧ rNet N v0 H ∧ rStr a v1 H ∧ rStr b v2 H ∧ Ret (rBool (decide (Tied N.2 a b))) H Q
theorem use_tied {N : NetD} {a b : Str} {v0 v1 v2 : V} {H : Hp} (h0 : rNet N v0 H) (h1 : rStr a v1 H) (h2 : rStr b v2 H) : Gives spTied [v0, v1, v2] H (rBool (decide (Tied N.2 a b))) := fun Q k E => ⟨N, a, b, v0, v1, v2, rfl, h0, h1, h2, k⟩
theorem sc__law_tied : FnScope ["_law_net_here", "_law_one", "_law_other"] ["_law_net_here", "_law_one", "_law_other"] (defScope (top 38)) := ⟨rfl, rfl, rfl, by decide +kernel, rfl, by decide +kernel, by decide +kernel⟩
theorem ok_tied (T : Txt K mg) : OkD P w K mg base 1 "_law_tied" ["_law_net_here", "_law_one", "_law_other"] spTied := by
  refine T.d__law_tied.ok sc__law_tied (fun vs H Q E h => ?_) (fun cdv A outer s H vs Q E hr h => ?_)
  · obtain ⟨_, _, _, _, _, _, rfl, _⟩ := h
    rfl
  obtain ⟨N, a, b, v0, v1, v2, rfl, h0, h1, h2, q⟩ := h
  refine ⟨_, (pss_one (ps_ret (pe_or (pe_cmpR (op_inP hr.u65) (pe_tup (pa_cons (pv 1) (pa_cons (pv 2) pa_nil))) (pe_ix (kx_tup K) (pv 0) pe_int (fun _ _ => rfl)) (by rfl)) (pe_one (pe_cmpR (op_inP hr.u65) (pe_tup (pa_cons (pv 2) (pa_cons (pv 1) pa_nil))) (pe_ix (kx_tup K) (pv 0) pe_int (fun _ _ => rfl)) (by rfl)))))), ?_⟩
  refine w_ret (ew_orV (ew_inP (ewn_tup2 (ew_var rfl h1) (ew_var rfl h2)).ew (ew_p1 (ew_var rfl h0))) fun _ => ew_inP (ewn_tup2 (ew_var rfl h2) (ew_var rfl h1)).ew (ew_p1 (ew_var rfl h0))) fun v H1 e1 hv => q v H1 e1 ?_
  have e : decide (Tied N.2 a b) = (decide ((a, b) ∈ N.2) || decide ((b, a) ∈ N.2)) := by
    rw [Bool.eq_iff_iff, Bool.or_eq_true, decide_eq_true_iff, decide_eq_true_iff, decide_eq_true_iff]
    exact Iff.rfl
  rw [e]
  exact hv
/-! ### _law_meets -/
def spMeets : Sp := fun vs H Q _ => ∃ N road, ∃ i : Nat, ∃ v0 v1, vs = [v0, v1, .int (1 + (i : Int))] ∧ rNet N v0 H ∧ rL rStr road v1 H ∧ i < road.length - 2 ∧ Ret (rBool (meetsAt N.2 road i)) H Q
theorem use_meets {N : NetD} {road : List Str} {i : Nat} {v0 v1 v2 : V} {H : Hp} (h0 : rNet N v0 H) (h1 : rL rStr road v1 H) (h2 : rInt (1 + (i : Int)) v2 H) (hi : i < road.length - 2) : Gives spMeets [v0, v1, v2] H (rBool (meetsAt N.2 road i)) := fun Q k E => by
  have e : v2 = .int (1 + (i : Int)) := h2
  subst e
  exact ⟨N, road, i, v0, v1, rfl, h0, h1, hi, k⟩
theorem sc__law_meets : FnScope ["_law_net_here", "_law_road_here", "_law_k"] ["_law_net_here", "_law_road_here", "_law_k"] (defScope (top 42)) := ⟨rfl, rfl, rfl, by decide +kernel, rfl, by decide +kernel, by decide +kernel⟩
theorem idx3 {road : List Str} {i : Nat} (hi : i < road.length - 2) : ∃ a b c, road[i]? = some a ∧ road[i + 1]? = some b ∧ road[i + 2]? = some c ∧ atI road ((1 + (i : Int)) - 1) = some a ∧ atI road (1 + (i : Int)) = some b ∧ atI road ((1 + (i : Int)) + 1) = some c := by
  obtain ⟨a, b, c, g1, g2, g3⟩ := three hi
  refine ⟨a, b, c, g1, g2, g3, ?_, ?_, ?_⟩
  · have : (1 + (i : Int)) - 1 = ((i : Nat) : Int) := by omega
    rw [this]
    exact atI_of g1
  · have : (1 + (i : Int)) = ((i + 1 : Nat) : Int) := by omega
    rw [this]
    exact atI_of g2
  · have : (1 + (i : Int)) + 1 = ((i + 2 : Nat) : Int) := by omega
    rw [this]
    exact atI_of g3
theorem ok_meets (T : Txt K mg) : OkD P w K mg base 1 "_law_meets" ["_law_net_here", "_law_road_here", "_law_k"] spMeets := by
  refine T.d__law_meets.ok sc__law_meets (fun vs H Q E h => ?_) (fun cdv A outer s H vs Q E hr h => ?_)
  · obtain ⟨_, _, _, _, _, rfl, _⟩ := h
    rfl
  obtain ⟨N, road, i, v0, v1, rfl, h0, h1, hi, q⟩ := h
  refine ⟨_, (pss_one (ps_ret (pe_and (pe_cmpR (op_inP hr.u65) (pe_tup (pa_cons (pe_ix (kx_list K) (pv 1) (pe_op op_sub (pv 2) pe_int) (fun _ _ => rfl)) (pa_cons (pe_ix (kx_list K) (pv 1) (pv 2) (fun _ _ => rfl)) pa_nil))) (pe_ix (kx_tup K) (pv 0) pe_int (fun _ _ => rfl)) (by rfl)) (pe_one (pe_cmpR (op_inP hr.u65) (pe_tup (pa_cons (pe_ix (kx_list K) (pv 1) (pe_op op_add (pv 2) pe_int) (fun _ _ => rfl)) (pa_cons (pe_ix (kx_list K) (pv 1) (pv 2) (fun _ _ => rfl)) pa_nil))) (pe_ix (kx_tup K) (pv 0) pe_int (fun _ _ => rfl)) (by rfl)))))), ?_⟩
  obtain ⟨a, b, c, g1, g2, g3, ia, ib, ic⟩ := idx3 hi
  have eI : ∀ {H5 : Hp}, Ew (tVar 2) (L2.start ["_law_net_here", "_law_road_here", "_law_k"] [v0, v1, V.int (1 + (i : Int))]) H5 (rInt (1 + (i : Int))) := ew_var rfl rfl
  refine w_ret (ew_andV (ew_inP (ewn_tup2 (ew_ixL (ew_var rfl h1) (ew_I0 eI ew_i) ia) (ew_ixL (ew_var rfl h1) eI ib)).ew (ew_p1 (ew_var rfl h0))) fun _ => ew_inP (ewn_tup2 (ew_ixL (ew_var rfl h1) (ew_I0 eI ew_i) ic) (ew_ixL (ew_var rfl h1) eI ib)).ew (ew_p1 (ew_var rfl h0))) fun v H1 e1 hv => q v H1 e1 ?_
  rw [meetsAt_of g1 g2 g3]
  exact hv
/-! ### _law_spread -/
/-- the names met in turn k -/
structure LsI (N : NetD) (x : Str) (k : Nat) (ms : List Str) : Prop where
  here : x ∈ ms
  nd : ms.Nodup
  sound : ∀ y ∈ ms, Reach N.2 x y
  prog : (∀ a b, (a, b) ∈ N.2 → a ∈ ms → b ∈ ms) ∨ k + 1 ≤ ms.length
structure LsJ (N : NetD) (x : Str) (m0 d : List Str) (da : List (Str × Str)) (ms : List Str) : Prop where
  here : x ∈ ms
  nd : ms.Nodup
  sound : ∀ y ∈ ms, Reach N.2 x y
  cl : (∀ a b, (a, b) ∈ N.2 → a ∈ m0 → b ∈ m0) → ms = m0
  grow : (ms = m0 ∧ ∀ p ∈ da, p.1 ∈ m0 → p.2 ∈ m0) ∨ m0.length + 1 ≤ ms.length
theorem LsI.le {N : NetD} (ho : NetOk N) {x : Str} (hx : x ∈ N.1) {k : Nat} {ms : List Str} (I : LsI N x k ms) : ms.length ≤ 6 :=
  Nat.le_trans (I.nd.length_le_of_subset fun y hy => ho.net.reachMem (I.sound y hy) hx) ho.few
theorem LsJ.le {N : NetD} (ho : NetOk N) {x : Str} (hx : x ∈ N.1) {m0 d : List Str} {da : List (Str × Str)} {ms : List Str} (I : LsJ N x m0 d da ms) : ms.length ≤ 6 :=
  Nat.le_trans (I.nd.length_le_of_subset fun y hy => ho.net.reachMem (I.sound y hy) hx) ho.few
theorem LsI.fin {N : NetD} (ho : NetOk N) {x : Str} (hx : x ∈ N.1) {ms : List Str} (I : LsI N x 7 ms) (y : Str) : y ∈ ms ↔ Reach N.2 x y := by
  refine ⟨I.sound y, fun r => ?_⟩
  have hl := I.le ho hx
  rcases I.prog with h | h
  · induction r with
    | refl => exact I.here
    | step _ e ih => exact h _ _ e ih
  · omega
theorem LsI.go {N : NetD} {x : Str} {k : Nat} {ms : List Str} (I : LsI N x k ms) : LsJ N x ms [] [] ms := ⟨I.here, I.nd, I.sound, fun _ => rfl, .inl ⟨rfl, fun p hp => by cases hp⟩⟩
theorem LsJ.stay {N : NetD} {x : Str} {m0 d : List Str} {da : List (Str × Str)} {ms : List Str} (J : LsJ N x m0 d da ms) {p : Str × Str} (h : p.1 ∈ ms → p.2 ∈ ms) : LsJ N x m0 d (da ++ [p]) ms := ⟨J.here, J.nd, J.sound, J.cl, by
  rcases J.grow with ⟨e, g⟩ | g
  · subst e
    refine .inl ⟨rfl, fun u hu => ?_⟩
    rcases List.mem_append.mp hu with m | m
    · exact g u m
    · have eu : u = p := by simpa using m
      subst eu
      exact h
  · exact .inr g⟩
theorem LsJ.add {N : NetD} {x : Str} {m0 d : List Str} {da : List (Str × Str)} {ms : List Str} (J : LsJ N x m0 d da ms) {p : Str × Str} (hp : p ∈ N.2) (h1 : p.1 ∈ ms) (h2 : p.2 ∉ ms) : LsJ N x m0 d (da ++ [p]) (ms ++ [p.2]) := ⟨by simp [J.here], List.nodup_append.mpr ⟨J.nd, by simp, fun a ha b hb => by
    have eb : b = p.2 := by simpa using hb
    subst eb
    exact fun z => h2 (z ▸ ha)⟩, fun y hy => by
    rcases List.mem_append.mp hy with m | m
    · exact J.sound y m
    · have ey : y = p.2 := by simpa using m
      subst ey
      exact (J.sound _ h1).step hp, fun c => by
    have e := J.cl c
    subst e
    exact absurd (c p.1 p.2 hp h1) h2, .inr (by
    rcases J.grow with ⟨e, _⟩ | g
    · subst e
      simp
    · simp
      omega)⟩
theorem LsJ.done {N : NetD} {x : Str} {k : Nat} {m0 d ms : List Str} (I : LsI N x k m0) (J : LsJ N x m0 d N.2 ms) : LsI N x (k + 1) ms := ⟨J.here, J.nd, J.sound, by
  rcases J.grow with ⟨e, g⟩ | g
  · subst e
    exact .inl fun a b h => g (a, b) h
  · rcases I.prog with h | h
    · have e := J.cl h
      subst e
      exact .inl h
    · exact .inr (by omega)⟩
def rMet (N : NetD) (x : Str) : VP := rSome (fun ms : List Str => ∀ y, y ∈ ms ↔ Reach N.2 x y) (rL rStr)
instance {N : NetD} {x : Str} : Kp (rMet N x) := by
  unfold rMet
  exact inferInstance
def spLSpread : Sp := fun vs H Q _ => ∃ N x v0 v1, vs = [v0, v1] ∧ rT rPair N.2 v0 H ∧ NetOk N ∧ rStr x v1 H ∧ x ∈ N.1 ∧ Ret (rMet N x) H Q
theorem use_lspread {N : NetD} {x : Str} {v0 v1 : V} {H : Hp} (h0 : rT rPair N.2 v0 H) (ho : NetOk N) (h1 : rStr x v1 H) (hx : x ∈ N.1) : Gives spLSpread [v0, v1] H (rMet N x) := fun Q k E => ⟨N, x, v0, v1, rfl, h0, ho, h1, hx, k⟩
theorem sc__law_spread : FnScope ["_law_arrows", "_law_name", "_law_met", "_law_turn", "_law_tail", "_law_head"] ["_law_arrows", "_law_name"] (defScope (top 40)) := ⟨rfl, rfl, rfl, by decide +kernel, rfl, by decide +kernel, by decide +kernel⟩
theorem ok_lspread (T : Txt K mg) : OkD P w K mg base 1 "_law_spread" ["_law_arrows", "_law_name"] spLSpread := by
  refine T.d__law_spread.ok sc__law_spread (fun vs H Q E h => ?_) (fun cdv A outer s H vs Q E hr h => ?_)
  · obtain ⟨_, _, _, _, rfl, _⟩ := h
    rfl
  obtain ⟨N, x, v0, v1, rfl, h0, ho, h1, hx, q⟩ := h
  refine ⟨_, (pss_cons (ps_set (i := 2) sc__law_spread.nd rfl (Or.inl rfl) (pe_lst (pa_cons (pv 1) pa_nil)))
      (pss_cons (ps_for PassesOwn.never rfl (pi_range1 (by rfl) T.b_range (pa_cons pe_int pa_nil)) (pg_name (i := 3) sc__law_spread.nd rfl (Or.inl rfl))
      (pss_one (ps_for PassesOwn.never rfl (kp_tup K (pv 0)) (kg_tup K 2 (by rfl) (pgs_cons (pg_name (i := 4) sc__law_spread.nd rfl (Or.inl rfl)) (pgs_cons (pg_name (i := 5) sc__law_spread.nd rfl (Or.inl rfl)) pgs_nil)))
      (pss_one (ps_if (PW.pt (pw_and (pt_cmpR (k_in K) (pv 4) (pv 2) (by rfl)) (pw_and1 (pt_cmpR (k_notIn K) (pv 5) (pv 2) (by rfl)))))
      (pss_one (ps_expr (pe_bm PySem.F.plainAttrs_list PySem.F.slot_list_append PySem.F.type_list_append mt_append (pv 2) (pa_cons (pv 5) pa_nil)))) pss_nil)))))
      (pss_one (ps_ret (pv 2))))), ?_⟩
  have okx : SOk x := h1.2
  refine q_asgN (ewn_lst1 (ew_var rfl h1)) fun l H1 nl e1 h2 => ?_
  obtain ⟨l', xs, el, h2, h3⟩ := h2
  cases el
  have hin : ∀ a ∈ [l], H a = none := by simpa using nl
  refine q_forR1 (n := 7) (ea_cons (ev_int ew_i) ea_nil) (by decide) (fun k σ' H' => ∃ ms xs y3 y4 y5, σ' = [some v0, some v1, some (.ref l), y3, y4, y5] ∧ Ex H (hds [l] H') ∧ H' l = some (.lst xs) ∧ Al rStr ms xs H' ∧ LsI N x k ms)
    (fun H2 e2 => ⟨[x], xs, _, _, _, rfl, ex_hds (e1.trans e2) hin, e2 l _ h2, h3.kp e2, ⟨by simp, by simp, fun y hy => by
      have e : y = x := by simpa using hy
      subst e
      exact .refl _, .inr (by simp)⟩⟩) (fun k σ' H' hk hw => ?_) fun σ' H' hw => ?_
  · obtain ⟨ms, xs, y3, y4, y5, rfl, B, hl', hal, I⟩ := hw
    refine w_forTv (R := rPair) (as := N.2) (Hs := H) tgP (ev_var rfl) h0 (fun d t σ' H' => ∃ ms2 xs y4 y5, σ' = [some v0, some v1, some (.ref l), some (.int (k : Int)), y4, y5] ∧ Ex H (hds [l] H') ∧ H' l = some (.lst xs) ∧ Al rStr ms2 xs H' ∧ LsJ N x ms [] d ms2)
      (fun H2 e2 => ⟨ms, xs, _, _, rfl, B.trans (stp_ex e2), e2 l _ hl', hal.kp e2, I.go⟩) (fun d t σ' H' hw => ?_) (fun d a t σ' σ2 H' ed hw hT => ?_) fun σ' H' hw => ?_
    · obtain ⟨_, _, _, _, _, h, _⟩ := hw
      exact h.trans hds_ex
    · obtain ⟨ms2, xs2, y4, y5, rfl, B2, hl2, hal2, J⟩ := hw
      obtain ⟨c1, c2, ht, hh, rfl⟩ := hT
      have ham : a ∈ N.2 := by rw [← ed]; simp
      have hM : rL rStr ms2 (.ref l) H' := ⟨l, xs2, rfl, hl2, hal2⟩
      have hle := J.le ho hx
      refine s_when (et_and (et_t (ew_inL (ew_var rfl ht) (ew_var rfl hM))) fun _ => et_t (ew_niL (ew_var rfl hh) (ew_var rfl hM))) (fun hb H3 e3 => ?_) (fun hb H3 e3 => ?_)
      · rw [Bool.and_eq_true] at hb
        have b1 : a.1 ∈ ms2 := of_decide_eq_true hb.1
        have b2 : a.2 ∉ ms2 := by simpa using hb.2
        refine w_app (e3 l _ hl2) (ev_var rfl) (ew_vF (P := rStr a.2) rfl hh) (by rw [← hal2.len]; omega) fun v H4 e4 hv => ?_
        exact ⟨ms2 ++ [a.2], xs2 ++ [v], _, _, rfl, B2.trans ((stp_ex (e3.trans e4)).trans (stp_upd (by simp))), upd_same, (Al.fl hal2).snoc (Fl.fl hv), J.add ham b1 b2⟩
      · refine ⟨ms2, xs2, _, _, rfl, B2.trans (stp_ex e3), e3 l _ hl2, hal2.kp e3, J.stay fun h => ?_⟩
        rw [decide_eq_true h] at hb
        simpa using hb
    · obtain ⟨ms2, xs2, y4, y5, rfl, B2, hl2, hal2, J⟩ := hw
      exact ⟨ms2, xs2, _, _, _, rfl, B2, hl2, hal2, J.done I⟩
  · obtain ⟨ms, xs, y3, y4, y5, rfl, B, hl', hal, I⟩ := hw
    exact w_ret (ew_var (P := rMet N x) rfl ⟨ms, I.fin ho hx, l, xs, rfl, hl', hal⟩) fun v H2 e2 hv => q v H2 ((B.trans hds_ex).trans e2) hv
/-! ### _law_below -/
def spLBelow : Sp := fun vs H Q _ => ∃ N x v0 v1, vs = [v0, v1] ∧ rNet N v0 H ∧ NetOk N ∧ rStr x v1 H ∧ x ∈ N.1 ∧ Ret (rL rStr (belowL N x)) H Q
theorem use_lbelow {N : NetD} {x : Str} {v0 v1 : V} {H : Hp} (h0 : rNet N v0 H) (ho : NetOk N) (h1 : rStr x v1 H) (hx : x ∈ N.1) : Gives spLBelow [v0, v1] H (rL rStr (belowL N x)) := fun Q k E => ⟨N, x, v0, v1, rfl, h0, ho, h1, hx, k⟩
theorem sc__law_below : FnScope ["_law_net_here", "_law_name", "_law_met", "_law_one"] ["_law_net_here", "_law_name"] (defScope (top 41)) := ⟨rfl, rfl, rfl, by decide +kernel, rfl, by decide +kernel, by decide +kernel⟩
theorem ok_lbelow (T : Txt K mg) : OkD P w K mg base 2 "_law_below" ["_law_net_here", "_law_name"] spLBelow := by
  have G__law_spread := ok_lspread (P := P) (w := w) (base := base) T
  refine T.d__law_below.ok sc__law_below (fun vs H Q E h => ?_) (fun cdv A outer s H vs Q E hr h => ?_)
  · obtain ⟨_, _, _, _, rfl, _⟩ := h
    rfl
  obtain ⟨N, x, v0, v1, rfl, h0, ho, h1, hx, q⟩ := h
  have hN := ho.few
  refine ⟨_, (pss_cons (ps_set (i := 2) sc__law_below.nd rfl (Or.inr rfl) (pe_callD G__law_spread hr (pa_cons (pe_ix (kx_tup K) (pv 0) pe_int (fun _ _ => rfl)) (pa_cons (pv 1) pa_nil))))
      (pss_one (ps_ret (pe_lc (own := [("_law_one", 3)]) rfl sc__law_below.nd (kp_tup K (pe_ix (kx_tup K) (pv 0) pe_int (fun _ _ => rfl))) (blkOk_by (own := [("_law_one", 3)]) (N := ["_law_net_here", "_law_name", "_law_met", "_law_one"]) (sc := defScope (top 41)) (by decide +kernel)) (fun _ _ _ _ _ => (pg_name (i := 3) sc__law_below.nd rfl (Or.inl rfl))) (fun _ _ _ _ _ => (pts_one (pt_cmpR (k_in K) (pv 3) (pv 2) (by rfl)))) (fun _ _ _ _ _ => (pv 3)))))), ?_⟩
  refine q_asgW (ew_call2 (ew_p1 (ew_var rfl h0)) (ew_var rfl h1) fun a b H1 e1 p0 p1 => use_lspread p0 ho p1 hx) fun v2 H1 e1 h2 => ?_
  obtain ⟨ms, hms, h2⟩ := h2
  have ef : (N.1.filter fun y => decide (y ∈ ms)).map (fun y => y) = belowL N x := by
    rw [List.map_id']
    exact List.filter_congr fun y _ => by rw [Bool.eq_iff_iff, decide_eq_true_iff, hms, reachB_iff]
  refine w_ret ((ewn_lcT (S := rStr) (T := sN 3 rStr) (fun y => decide (y ∈ ms)) (fun y => y) tgN (ew_p0 (ew_var rfl (Kp.kp e1 h0))) (by omega) (fun a σ' H' hT => ?_) (fun a ha σ' H2 e2 hT => ?_) (fun a ha hf σ' H2 e2 hT => ?_)).toL ef).ew fun v H2 e2 hv => q v H2 (e1.trans e2) hv
  · obtain ⟨y, hy, rfl⟩ := hT
    rfl
  · obtain ⟨y, hy, rfl⟩ := hT
    exact et_t (ew_inL (ew_var rfl hy) (ew_var rfl (Kp.kp e2 h2)))
  · obtain ⟨y, hy, rfl⟩ := hT
    exact ew_var rfl hy
/-! ### _law_is_open -/
def spLIsOpen : Sp := fun vs H Q _ => ∃ N road held v0 v1 v2, vs = [v0, v1, v2] ∧ rNet N v0 H ∧ NetOk N ∧ rL rStr road v1 H ∧ (∀ x ∈ road, x ∈ N.1) ∧ road.length ≤ 100 ∧ rL rStr held v2 H ∧ Ret (rBool (openB N.2 held road)) H Q
theorem use_lis_open {N : NetD} {road held : List Str} {v0 v1 v2 : V} {H : Hp} (h0 : rNet N v0 H) (ho : NetOk N) (h1 : rL rStr road v1 H) (hm : ∀ x ∈ road, x ∈ N.1) (hl : road.length ≤ 100) (h2 : rL rStr held v2 H) : Gives spLIsOpen [v0, v1, v2] H (rBool (openB N.2 held road)) := fun Q k E => ⟨N, road, held, v0, v1, v2, rfl, h0, ho, h1, hm, hl, h2, k⟩
theorem sc__law_is_open : FnScope ["_law_net_here", "_law_road_here", "_law_held", "_law_k", "_law_name"] ["_law_net_here", "_law_road_here", "_law_held"] (defScope (top 43)) := ⟨rfl, rfl, rfl, by decide +kernel, rfl, by decide +kernel, by decide +kernel⟩
theorem ok_lis_open (T : Txt K mg) : OkD P w K mg base 3 "_law_is_open" ["_law_net_here", "_law_road_here", "_law_held"] spLIsOpen := by
  have G__law_meets := ok_meets (P := P) (w := w) (base := base) T
  have G__law_below := ok_lbelow (P := P) (w := w) (base := base) T
  refine T.d__law_is_open.ok sc__law_is_open (fun vs H Q E h => ?_) (fun cdv A outer s H vs Q E hr h => ?_)
  · obtain ⟨_, _, _, _, _, _, rfl, _⟩ := h
    rfl
  obtain ⟨N, road, held, v0, v1, v2, rfl, h0, ho, h1, hm, hl, h2, q⟩ := h
  have hN := ho.few
  refine ⟨_, (pss_cons (ps_for PassesOwn.never rfl (pi_range2 (by rfl) T.b_range (pa_cons pe_int (pa_cons (pe_op op_sub (pe_callB (k_len K) (by rfl) T.b_len PySem.boot_len (pa_cons (pv 1) pa_nil)) pe_int) pa_nil))) (pg_name (i := 3) sc__law_is_open.nd rfl (Or.inl rfl))
      (pss_one (ps_if (pt_val (pe_callD G__law_meets hr (pa_cons (pv 0) (pa_cons (pv 1) (pa_cons (pv 3) pa_nil)))))
      (pss_one (ps_if (pt_cmpR op_eq (pe_callB (k_len K) (by rfl) T.b_len PySem.boot_len (pa_cons (pe_lc (own := [("_law_name", 4)]) rfl sc__law_is_open.nd (kp_list K (pe_callD G__law_below hr (pa_cons (pv 0) (pa_cons (pe_ix (kx_list K) (pv 1) (pv 3) (fun _ _ => rfl)) pa_nil)))) (blkOk_by (own := [("_law_name", 4)]) (N := ["_law_net_here", "_law_road_here", "_law_held", "_law_k", "_law_name"]) (sc := defScope (top 43)) (by decide +kernel)) (fun _ _ _ _ _ => (pg_name (i := 4) sc__law_is_open.nd rfl (Or.inl rfl))) (fun _ _ _ _ _ => (pts_one (pt_cmpR (k_in K) (pv 4) (pv 2) (by rfl)))) (fun _ _ _ _ _ => (pv 4))) pa_nil)) pe_int (nomark _))
      (pss_one (ps_ret pe_bl)) pss_nil)) (pss_one (ps_if (pt_cmpR (k_in K) (pe_ix (kx_list K) (pv 1) (pv 3) (fun _ _ => rfl)) (pv 2) (by rfl))
      (pss_one (ps_ret pe_bl)) pss_nil)))))
      (pss_one (ps_ret pe_bl))), ?_⟩
  have hrd : ∀ x ∈ road, (readyB N held x = true ↔ Ready N.2 held x) := fun x hx => readyB_iff ho (hm x hx)
  have op := open_places (ar := N.2) (held := held) (rd := readyB N held) (r := road) hrd
  refine q_forR2 (lo := 1) (n := (road.length : Int) - 1) (ea_cons (ev_int ew_i) (ea_cons (ev_int (ew_I0 (ew_lenL (ew_var rfl h1)) ew_i)) ea_nil)) (by omega)
    (fun i σ' H' => Ex H H' ∧ (∃ y3 y4, σ' = [some v0, some v1, some v2, y3, y4]) ∧ ∀ j, j < i → ∀ x, road[j + 1]? = some x → (if meetsAt N.2 road j = true then readyB N held x = true else x ∉ held))
    (fun H1 e1 => ⟨e1, ⟨_, _, rfl⟩, fun j hj => by omega⟩) (fun i σ' H' hi hw => ?_) fun σ' H' hw => ?_
  · obtain ⟨e1, ⟨y3, y4, rfl⟩, hd⟩ := hw
    have hi' : i < road.length - 2 := by omega
    obtain ⟨a, b, c, g1, g2, g3, ia, ib, ic⟩ := idx3 hi'
    have hb1 : b ∈ road := List.mem_of_getElem? g2
    have eI : ∀ {H5 : Hp} {y4 : Option V}, Ew (tVar 3) ([some v0, some v1, some v2, some (.int (1 + (i : Int))), y4] : L2.St) H5 (rInt (1 + (i : Int))) := ew_var rfl rfl
    have next : ∀ {H5 : Hp} {y4 : Option V}, Ex H' H5 → (if meetsAt N.2 road i = true then readyB N held b = true else b ∉ held) → (Ex H H5 ∧ (∃ y3 y4', ([some v0, some v1, some v2, some (.int (1 + (i : Int))), y4] : L2.St) = [some v0, some v1, some v2, y3, y4']) ∧ ∀ j, j < i + 1 → ∀ x, road[j + 1]? = some x → (if meetsAt N.2 road j = true then readyB N held x = true else x ∉ held)) := fun e5 hg => ⟨e1.trans e5, ⟨_, _, rfl⟩, fun j hj x hx => by
      by_cases e : j = i
      · subst e
        rw [g2] at hx
        cases hx
        exact hg
      · exact hd j (by omega) x hx⟩
    have bad : ¬ (if meetsAt N.2 road i = true then readyB N held b = true else b ∉ held) → openB N.2 held road = false := fun hn => openB_f fun z => hn (op.mp z i hi' b g2)
    refine s_if (et_v (ew_call3 (ew_var rfl (Kp.kp e1 h0)) (ew_var rfl (Kp.kp e1 h1)) eI fun x0 x1 x2 H2 e2 p0 p1 p2 => use_meets p0 p1 p2 hi')) (fun hb H2 e2 => ?_) (fun hb H2 e2 => ?_)
    · have E2 := e1.trans e2
      refine s_when (et_t (ew_eqI (ew_lenL (ewn_lcL (S := rStr) (R := rStr) (T := sN 4 rStr) (fun y => decide (y ∈ held)) (fun y => y) tgN (ew_call2 (ew_var rfl (Kp.kp E2 h0)) (ew_ixL (ew_var rfl (Kp.kp E2 h1)) eI ib) fun x0 x1 H3 e3 p0 p1 => use_lbelow p0 ho p1 (hm b hb1)) (Nat.lt_of_le_of_lt (List.length_filter_le _ _) (by omega)) (fun a σ' H' hT => ?_) (fun a ha σ' H2 e2 hT => ?_) (fun a ha hf σ' H2 e2 hT => ?_)).ew) ew_i)) (fun hz H3 e3 => ?_) (fun hz H3 e3 => ?_)
      · obtain ⟨y, hy, rfl⟩ := hT
        rfl
      · obtain ⟨y, hy, rfl⟩ := hT
        exact et_t (ew_inL (ew_var rfl hy) (ew_var rfl (Kp.kp (E2.trans e2) h2)))
      · obtain ⟨y, hy, rfl⟩ := hT
        exact ew_var rfl hy
      · refine w_ret (ew_b (b := false)) fun v H4 e4 hv => q v H4 (E2.trans (e3.trans e4)) ?_
        have h0' : (((belowL N b).filter fun y => decide (y ∈ held)).map fun y => y).length = 0 := by
          have := of_decide_eq_true hz
          omega
        rw [bad]
        · exact hv
        · rw [if_pos hb]
          intro hy
          unfold readyB at hy
          obtain ⟨y, hy1, hy2⟩ := List.any_eq_true.mp hy
          have : y ∈ (belowL N b).filter fun y => decide (y ∈ held) := List.mem_filter.mpr ⟨hy1, hy2⟩
          rw [List.length_map, List.length_eq_zero_iff] at h0'
          rw [h0'] at this
          cases this
      · refine next (e2.trans e3) ?_
        rw [if_pos hb]
        have h0' : ¬ (((belowL N b).filter fun y => decide (y ∈ held)).map fun y => y).length = 0 := by
          have := of_decide_eq_false hz
          omega
        rw [List.length_map, List.length_eq_zero_iff] at h0'
        obtain ⟨y, hy⟩ := List.exists_mem_of_ne_nil _ h0'
        obtain ⟨hy1, hy2⟩ := List.mem_filter.mp hy
        exact List.any_eq_true.mpr ⟨y, hy1, hy2⟩
    · have E2 := e1.trans e2
      have hb' : ¬ meetsAt N.2 road i = true := by rw [hb]; exact Bool.false_ne_true
      refine s_when (et_t (ew_inL (ew_ixL (ew_var rfl (Kp.kp E2 h1)) eI ib) (ew_var rfl (Kp.kp E2 h2)))) (fun hz H3 e3 => ?_) (fun hz H3 e3 => ?_)
      · refine w_ret (ew_b (b := false)) fun v H4 e4 hv => q v H4 (E2.trans (e3.trans e4)) ?_
        rw [bad]
        · exact hv
        · rw [if_neg hb']
          exact fun h => h (of_decide_eq_true hz)
      · refine next (e2.trans e3) ?_
        rw [if_neg hb']
        exact of_decide_eq_false hz
  · obtain ⟨e1, ⟨y3, y4, rfl⟩, hd⟩ := hw
    have en : ((road.length : Int) - 1 - 1).toNat = road.length - 2 := by omega
    rw [en] at hd
    refine w_ret (ew_b (b := true)) fun v H4 e4 hv => q v H4 (e1.trans e4) ?_
    rw [openB_t (op.mpr hd)]
    exact hv
end
end Am
/-! _law_roads. -/
namespace Am
open PySem PySem.Spec PyProof.Rows L2 Evl
theorem ends1_le {N : NetD} (hN : N.1.length ≤ 6) (other : Str) (r : List Str) : (ends1 N.1 N.2 other r).length ≤ 6 := by
  unfold ends1
  rw [List.length_map]
  exact Nat.le_trans (List.length_filter_le _ _) hN
theorem grow1_le {N : NetD} (hN : N.1.length ≤ 6) (other : Str) (r : List Str) : (grow1 N.1 N.2 other r).length ≤ 6 := by
  unfold grow1
  rw [List.length_map]
  exact Nat.le_trans (List.length_filter_le _ _) hN
theorem byLen_le {N : NetD} (hN : N.1.length ≤ 6) (one other : Str) : ∀ k, k ≤ 6 → (byLen N.1 N.2 one other k).2.length ≤ 6 ^ k ∧ (byLen N.1 N.2 one other k).1.length ≤ k * 46656
  | 0, _ => by simp [byLen]
  | k + 1, hk => by
    obtain ⟨h1, h2⟩ := byLen_le hN one other k (by omega)
    have h3 : 6 ^ k * 6 ≤ 46656 := by
      have := Nat.pow_le_pow_right (n := 6) (by decide) hk
      rw [Nat.pow_succ] at this
      exact this
    refine ⟨?_, ?_⟩
    · show ((byLen N.1 N.2 one other k).2.flatMap (grow1 N.1 N.2 other)).length ≤ _
      rw [Nat.pow_succ]
      exact Nat.le_trans (flatMap_le fun r _ => grow1_le hN other r) (Nat.mul_le_mul_right 6 h1)
    · show ((byLen N.1 N.2 one other k).1 ++ (byLen N.1 N.2 one other k).2.flatMap (ends1 N.1 N.2 other)).length ≤ _
      rw [List.length_append]
      have h4 := flatMap_le (l := (byLen N.1 N.2 one other k).2) fun r _ => ends1_le (N := N) hN other r
      have h5 := Nat.mul_le_mul_right 6 h1
      omega
theorem lastTied_of {ar : List (Str × Str)} {r : List Str} {l x : Str} (h : r.getLast? = some l) : lastTied ar r x ↔ Tied ar l x := by
  unfold lastTied
  rw [h]
  exact ⟨fun ⟨_, e, t⟩ => by cases e; exact t, fun t => ⟨l, rfl, t⟩⟩
theorem hds_sub {ps qs : List Addr} {H : Hp} (h : ∀ a ∈ ps, a ∈ qs) : Ex (hds qs H) (hds ps H) := fun a o e => by
  unfold hds at e ⊢
  by_cases g : a ∈ qs
  · rw [if_pos g] at e; cases e
  · rw [if_neg g] at e
    rw [if_neg fun z => g (h a z)]
    exact e
/-- told by R, and apart from some objects -/
def rAp {α : Type} (ps : List Addr) (R : Rep α) : Rep α := fun a v H => R a v H ∧ ∀ p ∈ ps, v ≠ .ref p
instance {α : Type} {ps : List Addr} {R : Rep α} {a : α} [k : Kp (R a)] : Kp (rAp ps R a) := ⟨fun e ⟨h, z⟩ => ⟨k.kp e h, z⟩⟩
/-- what one name adds to the ends, to the longer ones -/
def endF (N : NetD) (other : Str) (r : List Str) (x : Str) : Bool := decide (x = other ∧ lastTied N.2 r x)
def growF (N : NetD) (other : Str) (r : List Str) (x : Str) : Bool := decide (x ∉ r ∧ x ≠ other ∧ lastTied N.2 r x)
section
variable {P : Program} {w : World} {K : PySem.W.Frag} {mg : Str → Option Value} {base : Heap}
def spLRoads : Sp := fun vs H Q _ => ∃ N one other v0 v1 v2, vs = [v0, v1, v2] ∧ rNet N v0 H ∧ NetOk N ∧ rStr one v1 H ∧ rStr other v2 H ∧ one ∈ N.1 ∧ other ∈ N.1 ∧ one ≠ other ∧ Ret (rL (rL rStr) (byLen N.1 N.2 one other N.1.length).1) H Q
theorem use_lroads {N : NetD} {one other : Str} {v0 v1 v2 : V} {H : Hp} (h0 : rNet N v0 H) (ho : NetOk N) (h1 : rStr one v1 H) (h2 : rStr other v2 H) (m1 : one ∈ N.1) (m2 : other ∈ N.1) (hne : one ≠ other) : Gives spLRoads [v0, v1, v2] H (rL (rL rStr) (byLen N.1 N.2 one other N.1.length).1) := fun Q k E => ⟨N, one, other, v0, v1, v2, rfl, h0, ho, h1, h2, m1, m2, hne, k⟩
theorem sc__law_roads : FnScope ["_law_net_here", "_law_one", "_law_other", "_law_due", "_law_grown", "_law_turn", "_law_longer", "_law_road_here", "_law_name"] ["_law_net_here", "_law_one", "_law_other"] (defScope (top 39)) := ⟨rfl, rfl, rfl, by decide +kernel, rfl, by decide +kernel, by decide +kernel⟩
theorem ok_lroads (T : Txt K mg) : OkD P w K mg base 2 "_law_roads" ["_law_net_here", "_law_one", "_law_other"] spLRoads := by
  have G__law_tied := ok_tied (P := P) (w := w) (base := base) T
  refine T.d__law_roads.ok sc__law_roads (fun vs H Q E h => ?_) (fun cdv A outer s H vs Q E hr h => ?_)
  · obtain ⟨_, _, _, _, _, _, rfl, _⟩ := h
    rfl
  obtain ⟨N, one, other, v0, v1, v2, rfl, h0, ho, h1, h2, m1, m2, hne, q⟩ := h
  have hN := ho.few
  refine ⟨_, (pss_cons (ps_set (i := 3) sc__law_roads.nd rfl (Or.inl rfl) (pe_lst pa_nil))
      (pss_cons (ps_set (i := 4) sc__law_roads.nd rfl (Or.inl rfl) (pe_lst (pa_cons (pe_lst (pa_cons (pv 1) pa_nil)) pa_nil)))
      (pss_cons (ps_for PassesOwn.never rfl (pi_range1 (by rfl) T.b_range (pa_cons (pe_callB (k_len K) (by rfl) T.b_len PySem.boot_len (pa_cons (pe_ix (kx_tup K) (pv 0) pe_int (fun _ _ => rfl)) pa_nil)) pa_nil)) (pg_name (i := 5) sc__law_roads.nd rfl (Or.inl rfl))
      (pss_cons (ps_set (i := 6) sc__law_roads.nd rfl (Or.inl rfl) (pe_lst pa_nil))
      (pss_cons (ps_for PassesOwn.never rfl (kp_list K (pv 4)) (pg_name (i := 7) sc__law_roads.nd rfl (Or.inl rfl))
      (pss_one (ps_for PassesOwn.never rfl (kp_tup K (pe_ix (kx_tup K) (pv 0) pe_int (fun _ _ => rfl))) (pg_name (i := 8) sc__law_roads.nd rfl (Or.inl rfl))
      (pss_one (ps_if (PW.pt (pw_and (pt_cmpR op_eq (pv 8) (pv 2) (nomark _)) (pw_and1 (pt_val (pe_callD G__law_tied hr (pa_cons (pv 0) (pa_cons (pe_ix (kx_list K) (pv 7) (pe_un un_neg pe_int) (fun _ _ => rfl)) (pa_cons (pv 8) pa_nil))))))))
      (pss_one (ps_expr (pe_bm PySem.F.plainAttrs_list PySem.F.slot_list_append PySem.F.type_list_append mt_append (pv 3) (pa_cons (pe_op op_cat (pv 7) (pe_lst (pa_cons (pv 8) pa_nil))) pa_nil)))) (pss_one (ps_if (PW.pt (pw_and (pt_cmpR (k_notIn K) (pv 8) (pv 7) (by rfl)) (pw_and (pt_cmpR op_ne (pv 8) (pv 2) (nomark _)) (pw_and1 (pt_val (pe_callD G__law_tied hr (pa_cons (pv 0) (pa_cons (pe_ix (kx_list K) (pv 7) (pe_un un_neg pe_int) (fun _ _ => rfl)) (pa_cons (pv 8) pa_nil)))))))))
      (pss_one (ps_expr (pe_bm PySem.F.plainAttrs_list PySem.F.slot_list_append PySem.F.type_list_append mt_append (pv 6) (pa_cons (pe_op op_cat (pv 7) (pe_lst (pa_cons (pv 8) pa_nil))) pa_nil)))) pss_nil)))))))
      (pss_one (ps_set (i := 4) sc__law_roads.nd rfl (Or.inl rfl) (pv 6))))))
      (pss_one (ps_ret (pv 3)))))), ?_⟩
  refine q_asgN (ewn_lst0 (R := rL rStr)) fun D H1 nD e1 hD => ?_
  obtain ⟨D', xs0, eD, hD, hx0⟩ := hD
  cases eD
  have hin : ∀ a ∈ [D], H a = none := by simpa using nD
  refine q_asgLL (Am.Ewn.imp (ewn_lst1 (R := rStr) (ew_var rfl (Kp.kp e1 h1))) fun v H' _ h => h) fun p G H2 np e2 hp nG => ?_
  have npD : p ≠ D := (ne_of_none hD np).symm
  have nGD : G ≠ D := (ne_of_none (e2 D _ hD) nG).symm
  refine q_forR1 (n := (N.1.length : Int)) (ea_cons (ev_int (ew_lenT (ew_p0 (ew_var rfl (Kp.kp ((e1.trans e2).trans (Ex.new nG)) h0))))) ea_nil) (by omega) (fun k σ' H' => ∃ xs G y5 y6 y7 y8, σ' = [some v0, some v1, some v2, some (.ref D), some (.ref G), y5, y6, y7, y8] ∧ Ex H (hds [D] H') ∧ H' D = some (.lst xs) ∧ Al (rL rStr) (byLen N.1 N.2 one other k).1 xs (hds [D] H') ∧ rL (rL rStr) (byLen N.1 N.2 one other k).2 (.ref G) (hds [D] H'))
    (fun H3 e3 => ⟨xs0, G, _, _, _, _, rfl, ex_hds ((e1.trans e2).trans ((Ex.new nG).trans e3)) hin, e3 D _ (by rw [upd_ne nGD.symm]; exact e2 D _ hD), by cases hx0; exact .nil, G, [.ref p], rfl, by rw [hds_ne (by simpa using nGD)]; exact e3 G _ upd_same, .cons (sh1_hds (Kp.kp ((Ex.new nG).trans e3) hp) fun a ha z => by
      have ea : a = D := by simpa using ha
      subst ea
      exact npD (V.ref.inj z)) .nil⟩) (fun k σ' H' hk hw => ?_) fun σ' H' hw => ?_
  · obtain ⟨xs, G, y5, y6, y7, y8, rfl, B, hD', hal, hG⟩ := hw
    obtain ⟨ln2, ln1⟩ := byLen_le (N := N) hN one other k (by omega)
    have hp6 : 6 ^ k ≤ 7776 := Nat.pow_le_pow_right (n := 6) (j := 5) (by decide) (by omega)
    have gr := ((byLen_ok ho.net hne m2 k).1).2
    refine q_asgN (ewn_lst0 (R := rL rStr)) fun L H4 nL e4 hL => ?_
    obtain ⟨L', ys0, eL, hL, hy0⟩ := hL
    cases eL
    cases hy0
    have nLD : L ≠ D := (ne_of_none hD' nL).symm
    have hin4 : ∀ a ∈ [D, L], (hds [D] H') a = none := fun a ha => by
      rcases List.mem_cons.mp ha with e | m
      · exact hds_at (by simp [e])
      · have e : a = L := by simpa using m
        subst e
        rw [hds_ne (by simpa using nLD)]
        exact nL
    have hG2 : rL (rAp [D, L] (rL rStr)) (byLen N.1 N.2 one other k).2 (.ref G) (hds [D] H') := by
      obtain ⟨G', gs, eG, hG1, hG2⟩ := hG
      refine ⟨G', gs, eG, hG1, Paired.mapP hG2 fun r v hr => ⟨hr, fun a ha z => ?_⟩⟩
      obtain ⟨b, _, eb, hb, _⟩ := hr
      subst z
      cases eb
      rw [hin4 a ha] at hb
      cases hb
    refine q_forLv (R := rAp [D, L] (rL rStr)) (as := (byLen N.1 N.2 one other k).2) (Hs := hds [D] H') tgN (ev_var rfl) hG2 (fun d t σ' H5 => ∃ xs ys y7 y8, σ' = [some v0, some v1, some v2, some (.ref D), some (.ref G), some (.int (k : Int)), some (.ref L), y7, y8] ∧ Ex (hds [D] H') (hds [D, L] H5) ∧ H5 D = some (.lst xs) ∧ H5 L = some (.lst ys) ∧ Al (rL rStr) ((byLen N.1 N.2 one other k).1 ++ d.flatMap (ends1 N.1 N.2 other)) xs (hds [D, L] H5) ∧ Al (rL rStr) (d.flatMap (grow1 N.1 N.2 other)) ys (hds [D, L] H5))
      (fun H5 e5 => ⟨xs, [], _, _, rfl, ex_hds (hds_ex.trans (e4.trans e5)) hin4, (e4.trans e5) D _ hD', e5 L _ hL, by
        rw [List.flatMap_nil, List.append_nil]
        exact hal.kp (ex_hds (hds_ex.trans (e4.trans e5)) hin4), .nil⟩) (fun d t σ' H5 hw => ?_) (fun d r t σ' σ2 H5 ed hw hT => ?_) fun σ' H5 hw => ?_
    · obtain ⟨_, _, _, _, _, h, _⟩ := hw
      exact h.trans hds_ex
    · obtain ⟨xs, ys, y7, y8, rfl, B5, hD5, hL5, al1, al2⟩ := hw
      obtain ⟨c, hc, rfl⟩ := hT
      have hrm : r ∈ (byLen N.1 N.2 one other k).2 := by rw [← ed]; simp
      have hr := (gr r).mp hrm
      obtain ⟨z, hz⟩ : ∃ z, r.getLast? = some z := by
        cases hq : r.getLast? with
        | some z => exact ⟨z, rfl⟩
        | none =>
          have := hr.ln
          rw [List.getLast?_eq_none_iff.mp hq] at this
          simp at this
      have dl : d.length < (byLen N.1 N.2 one other k).2.length := by rw [← ed]; simp
      have dl6 : d.length < 7776 := by omega
      have fe := flatMap_le (l := d) fun r _ => ends1_le (N := N) hN other r
      have fg := flatMap_le (l := d) fun r _ => grow1_le (N := N) hN other r
      have lstD : LstAt H5 D := .inl ⟨_, hD5⟩
      have lstL : LstAt H5 L := .inl ⟨_, hL5⟩
      refine w_forT (R := rStr) (as := N.1) tgN (ew_p0 (ew_var rfl (Kp.kp ((B.trans B5).trans hds_ex) h0))) fun v H6 e6 hv => ⟨hds [D, L] H6, fun d3 t3 σ' H7 => ∃ xs ys y8, σ' = [some v0, some v1, some v2, some (.ref D), some (.ref G), some (.int (k : Int)), some (.ref L), some c, y8] ∧ Ex (hds [D, L] H6) (hds [D, L] H7) ∧ H7 D = some (.lst xs) ∧ H7 L = some (.lst ys) ∧ Al (rL rStr) (((byLen N.1 N.2 one other k).1 ++ d.flatMap (ends1 N.1 N.2 other)) ++ (d3.filter (endF N other r)).map fun x => r ++ [x]) xs (hds [D, L] H7) ∧ Al (rL rStr) (d.flatMap (grow1 N.1 N.2 other) ++ (d3.filter (growF N other r)).map fun x => r ++ [x]) ys (hds [D, L] H7),
        sh0_hds hv (fun a ha => ?_) (by simpa using nLD.symm), ⟨xs, ys, _, rfl, Ex.refl _, e6 D _ hD5, e6 L _ hL5, ?_, ?_⟩, fun d3 t3 σ' H7 w => ?_, fun d3 x t3 σ' σ2 H7 ed3 hw hT => ?_, fun σ' H7 hw => ?_⟩
      · rcases List.mem_cons.mp ha with e | m
        · subst e
          exact .inl ⟨_, e6 a _ hD5⟩
        · have e : a = L := by simpa using m
          subst e
          exact .inl ⟨_, e6 a _ hL5⟩
      · rw [List.filter_nil, List.map_nil, List.append_nil]
        exact al1.kp (stp_ex e6)
      · rw [List.filter_nil, List.map_nil, List.append_nil]
        exact al2.kp (stp_ex e6)
      · obtain ⟨_, _, _, _, h, _⟩ := w
        exact h.trans hds_ex
      · obtain ⟨xs, ys, y8, rfl, B7, hD7, hL7, al3, al4⟩ := hw
        obtain ⟨b, hb, rfl⟩ := hT
        have E57 : Ex (hds [D, L] H5) H7 := ((stp_ex e6).trans B7).trans hds_ex
        have E07 : Ex H H7 := (B.trans B5).trans E57
        have hr7 : rL rStr r c H7 := Kp.kp E57 (sh1_hds hc.1 hc.2)
        have d3l : d3.length ≤ 6 := by
          have : d3.length ≤ N.1.length := by rw [← ed3]; simp
          omega
        have fl1 : ((d3.filter (endF N other r)).map fun x => r ++ [x]).length ≤ 6 := by
          rw [List.length_map]
          exact Nat.le_trans (List.length_filter_le _ _) d3l
        have fl2 : ((d3.filter (growF N other r)).map fun x => r ++ [x]).length ≤ 6 := by
          rw [List.length_map]
          exact Nat.le_trans (List.length_filter_le _ _) d3l
        have xl : xs.length < 1000000 := by
          rw [← al3.len, List.length_append, List.length_append]
          omega
        have yl : ys.length < 1000000 := by
          rw [← al4.len, List.length_append]
          omega
        have rl := hr.ln
        have stay : ∀ {H9 : Hp}, Ex H7 H9 → endF N other r x = false → growF N other r x = false → (∃ xs ys y8, ([some v0, some v1, some v2, some (.ref D), some (.ref G), some (.int (k : Int)), some (.ref L), some c, some b] : L2.St) = [some v0, some v1, some v2, some (.ref D), some (.ref G), some (.int (k : Int)), some (.ref L), some c, y8] ∧ Ex (hds [D, L] H6) (hds [D, L] H9) ∧ H9 D = some (.lst xs) ∧ H9 L = some (.lst ys) ∧ Al (rL rStr) (((byLen N.1 N.2 one other k).1 ++ d.flatMap (ends1 N.1 N.2 other)) ++ ((d3 ++ [x]).filter (endF N other r)).map fun x => r ++ [x]) xs (hds [D, L] H9) ∧ Al (rL rStr) (d.flatMap (grow1 N.1 N.2 other) ++ ((d3 ++ [x]).filter (growF N other r)).map fun x => r ++ [x]) ys (hds [D, L] H9)) := fun e9 f1 f2 => by
          rw [filter_snoc_no f1, filter_snoc_no f2]
          exact ⟨xs, ys, _, rfl, B7.trans (stp_ex e9), e9 D _ hD7, e9 L _ hL7, al3.kp (stp_ex e9), al4.kp (stp_ex e9)⟩
        refine s_if (et_and (et_t (ew_eqS (ew_vF (P := rStr x) rfl hb) (ew_var rfl (Kp.kp E07 h2)))) fun _ => et_v (ew_call3 (ew_var rfl (Kp.kp E07 h0)) (ew_ixL (ew_var rfl hr7) (ew_neg ew_i) (atI_last hz)) (ew_vF (P := rStr x) rfl hb) fun a0 a1 a2 H9 e9 p0 p1 p2 => use_tied p0 p1 p2)) (fun hbb H8 e8 => ?_) (fun hbb H8 e8 => ?_)
        · have f1 : endF N other r x = true := by
            rw [Bool.and_eq_true, decide_eq_true_iff, decide_eq_true_iff] at hbb
            exact decide_eq_true ⟨hbb.1, (lastTied_of hz).mpr hbb.2⟩
          have f2 : growF N other r x = false := decide_eq_false fun h => h.2.1 (of_decide_eq_true f1).1
          refine w_appN (e8 D _ hD7) (ev_var rfl) (ewn_cat (R := rStr) (ew_var rfl (Kp.kp e8 hr7)) (ewn_lst1 (ew_vF (P := rStr x) rfl hb)).ew (by simp; omega)) xl fun p H9 n9 e9 h9 => ?_
          have pD : p ≠ D := (ne_of_none (e8 D _ hD7) n9).symm
          have pL : p ≠ L := (ne_of_none (e8 L _ hL7) n9).symm
          have st : Stp [D, L] H7 (upd H9 D (.lst (xs ++ [.ref p]))) := (stp_ex (e8.trans e9)).trans (stp_upd (by simp))
          refine ⟨_, ys, _, rfl, B7.trans st, upd_same, (by rw [upd_ne nLD]; exact (e8.trans e9) L _ hL7), ?_, ?_⟩
          · rw [filter_snoc_yes f1, ← List.append_assoc]
            refine (al3.kp st).snoc ?_
            rw [hds_upd (by simp)]
            exact sh1_hds h9 fun a ha z => by
              have ea := V.ref.inj z
              subst ea
              rcases List.mem_cons.mp ha with e | m
              · exact pD e
              · exact pL (by simpa using m)
          · rw [filter_snoc_no f2]
            exact al4.kp st
        · have f1 : endF N other r x = false := by
            refine decide_eq_false fun h => ?_
            rw [decide_eq_true h.1, decide_eq_true ((lastTied_of hz).mp h.2)] at hbb
            cases hbb
          have E08 := E07.trans e8
          refine s_when (et_and (et_t (ew_niL (ew_vF (P := rStr x) rfl hb) (ew_var rfl (Kp.kp e8 hr7)))) fun _ => et_and (et_t (ew_neS (ew_vF (P := rStr x) rfl hb) (ew_var rfl (Kp.kp E08 h2)))) fun _ => et_v (ew_call3 (ew_var rfl (Kp.kp E08 h0)) (ew_ixL (ew_var rfl (Kp.kp e8 hr7)) (ew_neg ew_i) (atI_last hz)) (ew_vF (P := rStr x) rfl hb) fun a0 a1 a2 H9 e9 p0 p1 p2 => use_tied p0 p1 p2)) (fun hg H9 e9 => ?_) (fun hg H9 e9 => ?_)
          · have f2 : growF N other r x = true := by
              rw [Bool.and_eq_true, Bool.and_eq_true, decide_eq_true_iff] at hg
              exact decide_eq_true ⟨by simpa using hg.1, by simpa using hg.2.1, (lastTied_of hz).mpr hg.2.2⟩
            have e89 := e8.trans e9
            refine w_appN (e89 L _ hL7) (ev_var rfl) (ewn_cat (R := rStr) (ew_var rfl (Kp.kp e89 hr7)) (ewn_lst1 (ew_vF (P := rStr x) rfl hb)).ew (by simp; omega)) yl fun p Ha na ea ha => ?_
            have pD : p ≠ D := (ne_of_none (e89 D _ hD7) na).symm
            have pL : p ≠ L := (ne_of_none (e89 L _ hL7) na).symm
            have st : Stp [D, L] H7 (upd Ha L (.lst (ys ++ [.ref p]))) := (stp_ex (e89.trans ea)).trans (stp_upd (by simp))
            refine ⟨xs, _, _, rfl, B7.trans st, (by rw [upd_ne nLD.symm]; exact (e89.trans ea) D _ hD7), upd_same, ?_, ?_⟩
            · rw [filter_snoc_no f1]
              exact al3.kp st
            · rw [filter_snoc_yes f2, ← List.append_assoc]
              refine (al4.kp st).snoc ?_
              rw [hds_upd (by simp)]
              exact sh1_hds ha fun a hm z => by
                have ez := V.ref.inj z
                subst ez
                rcases List.mem_cons.mp hm with e | m
                · exact pD e
                · exact pL (by simpa using m)
          · refine stay (e8.trans e9) f1 (decide_eq_false fun h => ?_)
            rw [decide_eq_false h.1, decide_eq_false h.2.1, decide_eq_true ((lastTied_of hz).mp h.2.2)] at hg
            cases hg
      · obtain ⟨xs, ys, y8, rfl, B7, hD7, hL7, al3, al4⟩ := hw
        refine ⟨xs, ys, _, _, rfl, B5.trans ((stp_ex e6).trans B7), hD7, hL7, ?_, ?_⟩
        · rw [List.flatMap_append, List.flatMap_cons, List.flatMap_nil, List.append_nil, ← List.append_assoc]
          exact al3
        · rw [List.flatMap_append, List.flatMap_cons, List.flatMap_nil, List.append_nil]
          exact al4
    · obtain ⟨xs, ys, y7, y8, rfl, B5, hD5, hL5, al1, al2⟩ := hw
      have sub : Ex (hds [D, L] H5) (hds [D] H5) := hds_sub (by simp)
      refine w_asg (ew_ev (ev_var rfl)) fun v H6 e6 hv => ?_
      subst hv
      exact ⟨xs, L, _, _, _, _, rfl, (B.trans B5).trans (sub.trans (stp_ex e6)), e6 D _ hD5, al1.kp (sub.trans (stp_ex e6)), L, ys, rfl, by
        rw [hds_ne (by simpa using nLD)]
        exact e6 L _ hL5, al2.kp (sub.trans (stp_ex e6))⟩
  · obtain ⟨xs, G, y5, y6, y7, y8, rfl, B, hD', hal, hG⟩ := hw
    refine w_ret (ew_var rfl ⟨D, xs, rfl, hD', hal.kp hds_ex⟩) fun v H2 e2 hv => q v H2 ((B.trans hds_ex).trans e2) hv
end
end Am
/-! What is told of an open road is looked at: _law_down, _law_road, _law_open_told. -/
namespace Am
open PySem PySem.Spec PyProof.Rows L2 Evl
section
variable {α β : Type} {R : Rep α} {S : Rep β} {K : PySem.W.Frag} {σ : L2.St} {H H' : Hp} {ta tb te : TE} {P : VP} {D : Ends} {tu tz : TS}
/-- isinstance(x, T) -/
theorem ew_isi {n m : String} {b : Bool} (h : Ew ta σ H P) (hty : ∀ v H1, P v H1 → TyX K H1 v (.type n)) (hb : kitB n m = some b) : Ew (tCB (rIsi K) (tCons ta (tCons (tC (.ty m)) tNil))) σ H (rBool b) := fun H1 e Q q =>
  h H1 e _ fun v H2 e2 hv => ⟨v, .ty m, .type n, .type m, b, rfl, .ty m, hty v H2 hv, kit_ty hb, q _ H2 e2 rfl⟩
theorem ty_str {x : Str} {v : V} {H : Hp} (h : rStr x v H) : TyX K H v (.type "str") := by
  rw [h.1]
  exact .base (.str x)
theorem ty_bl {x : Bool} {v : V} {H : Hp} (h : rBool x v H) : TyX K H v (.type "bool") := by
  rw [show v = .bl x from h]
  exact .base (.bl x)
theorem ty_lst {as : List α} {v : V} {H : Hp} (h : rL R as v H) : TyX K H v (.type "list") := by
  obtain ⟨p, xs, rfl, h2, _⟩ := h
  exact .base (.lst h2)
theorem ty_tup {ab : α × β} {v : V} {H : Hp} (h : rP R S ab v H) : TyX K H v (.type "tuple") := by
  obtain ⟨p, x, y, rfl, h2, _⟩ := h
  exact .base (.tup h2)
/-- a, b = e -/
theorem q_asgP [k1 : ∀ a, Kp (R a)] [k2 : ∀ a, Kp (S a)] {i j : Nat} {ab : α × β} (h : Ew te σ H (rP R S ab)) (k : ∀ x y H1, Ex H H1 → R ab.1 x H1 → S ab.2 y H1 → tz D ((σ.set i (some x)).set j (some y)) H1) : tSeq (tAsg te (gTup K 2 (gCons (gName i) (gCons (gName j) gNil)))) tz D σ H :=
  w_asg' (D := { D with nx := tz D }) h k
where
  w_asg' {D : Ends} (h : Ew te σ H (rP R S ab)) (k : ∀ x y H1, Ex H H1 → R ab.1 x H1 → S ab.2 y H1 → D.nx ((σ.set i (some x)).set j (some y)) H1) : tAsg te (gTup K 2 (gCons (gName i) (gCons (gName j) gNil))) D σ H :=
    h H (Ex.refl H) _ fun v H1 e ⟨p, x, y, h1, h2, h3, h4⟩ => ⟨p, [x, y], h1, SqT.of h2, rfl, x, [y], rfl, y, [], rfl, rfl, k x y H1 e h3 h4⟩
/-- for x, y in zip(xs, ys) -/
theorem q_zipLL {a b : Addr} {xs ys : List V} {si sj : Nat} (ha : Ev ta σ H (.ref a)) (hb : Ev tb σ H (.ref b)) (h1 : H a = some (.lst xs)) (h2 : H b = some (.lst ys)) (hl : xs.length = ys.length) (W : Nat → L2.St → Hp → Prop) (w0 : ∀ H1, Ex H H1 → W 0 σ H1) (wk : ∀ i σ' H', W i σ' H' → Ex H H')
    (ws : ∀ i x y σ' H' H2, xs[i]? = some x → ys[i]? = some y → W i σ' H' → Ex H' H2 → tu { D with nx := W (i + 1), ct := W (i + 1), bk := tz D } ((σ'.set si (some x)).set sj (some y)) H2) (wd : ∀ σ' H', W xs.length σ' H' → tz D σ' H') :
    tSeq (tFor (iZip K (tCons ta (tCons tb tNil))) (gTup K 2 (gCons (gName si) (gCons (gName sj) gNil))) tu) tz D σ H :=
  ha H (Ex.refl H) _ fun H1 e1 => hb H1 e1 _ fun H2 e2 => ⟨a, b, xs, ys, rfl, SqL.of ((e1.trans e2) a _ h1), SqL.of ((e1.trans e2) b _ h2), RZ.for_zipL (D := { D with nx := tz D }) (xs := xs) (ys := ys) hl W (w0 H2 (e1.trans e2)) (fun i σ' H' w => ⟨SqL.of (wk i σ' H' w a _ h1), SqL.of (wk i σ' H' w b _ h2)⟩)
    (fun i x y T σ' H' hx hy w hT => ⟨T, [x, y], rfl, SqT.of upd_same, rfl, x, [y], rfl, y, [], rfl, rfl, ws i x y σ' H' _ hx hy w (Ex.new hT)⟩) wd⟩
end
section
variable {P : Program} {w : World} {K : PySem.W.Frag} {mg : Str → Option Value} {base : Heap}
/-! ### _law_down -/
def spLDown : Sp := fun vs H Q _ => ∃ N wy x held v0 v1 v2 v3, vs = [v0, v1, v2, v3] ∧ rNet N v0 H ∧ NetOk N ∧ rL rStr wy v1 H ∧ rStr x v2 H ∧ x ∈ N.1 ∧ rL rStr held v3 H ∧ Down N.1 N.2 held x wy ∧ Ret (rBool true) H Q
theorem use_ldown {N : NetD} {wy held : List Str} {x : Str} {v0 v1 v2 v3 : V} {H : Hp} (h0 : rNet N v0 H) (ho : NetOk N) (h1 : rL rStr wy v1 H) (h2 : rStr x v2 H) (hx : x ∈ N.1) (h3 : rL rStr held v3 H) (hd : Down N.1 N.2 held x wy) : Gives spLDown [v0, v1, v2, v3] H (rBool true) := fun Q k E => ⟨N, wy, x, held, v0, v1, v2, v3, rfl, h0, ho, h1, h2, hx, h3, hd, k⟩
theorem sc__law_down : FnScope ["_law_net_here", "_law_down_here", "_law_first", "_law_held", "_law_k"] ["_law_net_here", "_law_down_here", "_law_first", "_law_held"] (defScope (top 44)) := ⟨rfl, rfl, rfl, by decide +kernel, rfl, by decide +kernel, by decide +kernel⟩
theorem ok_ldown (T : Txt K mg) : OkD P w K mg base 1 "_law_down" ["_law_net_here", "_law_down_here", "_law_first", "_law_held"] spLDown := by
  refine T.d__law_down.ok sc__law_down (fun vs H Q E h => ?_) (fun cdv A outer s H vs Q E hr h => ?_)
  · obtain ⟨_, _, _, _, _, _, _, _, rfl, _⟩ := h
    rfl
  obtain ⟨N, wy, x, held, v0, v1, v2, v3, rfl, h0, ho, h1, h2, hx, h3, hd, q⟩ := h
  have hN := ho.few
  have hw6 := hd.way.le ho.net hx
  obtain ⟨r, rfl⟩ : ∃ r, wy = x :: r := by
    have := hd.way.hd
    cases wy with
    | nil => cases this
    | cons a r => exact ⟨r, by rw [Option.some.inj this]⟩
  refine ⟨_, (pss_cons (ps_if (PW.pt (pw_or (pt_not (pt_val (pe_callB (k_isi K) (by rfl) T.b_isinstance (by decide +kernel) (pa_cons (pv 1) (pa_cons (pe_bltn (v := .ty "list") (by rfl) T.b_list (by decide +kernel) rfl) pa_nil))))) (pw_or (pt_cmpR op_lt (pe_callB (k_len K) (by rfl) T.b_len PySem.boot_len (pa_cons (pv 1) pa_nil)) pe_int (nomark _)) (pw_or1 (pt_cmpR op_ne (pe_ix (kx_list K) (pv 1) pe_int (fun _ _ => rfl)) (pv 2) (nomark _))))))
      (pss_one (ps_ret pe_bl)) pss_nil)
      (pss_cons (ps_for PassesOwn.never rfl (pi_range2 (by rfl) T.b_range (pa_cons pe_int (pa_cons (pe_callB (k_len K) (by rfl) T.b_len PySem.boot_len (pa_cons (pv 1) pa_nil)) pa_nil))) (pg_name (i := 4) sc__law_down.nd rfl (Or.inl rfl))
      (pss_one (ps_if (PW.pt (pw_or (pt_not (pt_val (pe_callB (k_isi K) (by rfl) T.b_isinstance (by decide +kernel) (pa_cons (pe_ix (kx_list K) (pv 1) (pv 4) (fun _ _ => rfl)) (pa_cons (pe_bltn (v := .ty "str") (by rfl) T.b_str (by decide +kernel) rfl) pa_nil))))) (pw_or1 (pt_cmpR (op_notInP hr.u65) (pe_tup (pa_cons (pe_ix (kx_list K) (pv 1) (pe_op op_sub (pv 4) pe_int) (fun _ _ => rfl)) (pa_cons (pe_ix (kx_list K) (pv 1) (pv 4) (fun _ _ => rfl)) pa_nil))) (pe_ix (kx_tup K) (pv 0) pe_int (fun _ _ => rfl)) (by rfl)))))
      (pss_one (ps_ret pe_bl)) pss_nil)))
      (pss_cons (ps_if (pt_cmpR (k_in K) (pv 2) (pv 3) (by rfl))
      (pss_one (ps_ret (pe_cmpR op_eq (pe_callB (k_len K) (by rfl) T.b_len PySem.boot_len (pa_cons (pv 1) pa_nil)) pe_int (nomark _)))) pss_nil)
      (pss_one (ps_ret (pe_cmpR (k_in K) (pe_ix (kx_list K) (pv 1) (pe_un un_neg pe_int) (fun _ _ => rfl)) (pv 3) (by rfl))))))), ?_⟩
  refine q_when (b := false) (EvT.to (et_or (et_not (et_v (ew_isi (n := "list") (b := true) (ew_var rfl h1) (fun v H1 h => ty_lst h) (by decide +kernel)))) fun _ => et_or (et_t (ew_I0b (ew_lenL (ew_var rfl h1)) ew_i)) fun _ => et_t (ew_neS (ew_ixL (ew_var rfl h1) ew_i (atI_of (j := 0) rfl)) (ew_var rfl h2))) (by simp; omega)) (fun hb => by cases hb) fun _ H1 e1 => ?_
  replace h0 := Kp.kp e1 h0
  replace h1 := Kp.kp e1 h1
  replace h2 := Kp.kp e1 h2
  replace h3 := Kp.kp e1 h3
  refine q_forR2 (lo := 1) (n := ((x :: r).length : Int)) (ea_cons (ev_int ew_i) (ea_cons (ev_int (ew_lenL (ew_var rfl h1))) ea_nil)) (by omega)
    (fun i σ' H' => Ex H1 H' ∧ ∃ y4, σ' = [some v0, some v1, some v2, some v3, y4]) (fun H2 e2 => ⟨e2, _, rfl⟩) (fun i σ' H' hi hw => ?_) fun σ' H' hw => ?_
  · obtain ⟨e2, y4, rfl⟩ := hw
    have hi' : i + 1 < (x :: r).length := by omega
    obtain ⟨a, ga⟩ : ∃ a, (x :: r)[i]? = some a := ⟨_, List.getElem?_eq_getElem (by omega)⟩
    obtain ⟨b, gb⟩ : ∃ b, (x :: r)[i + 1]? = some b := ⟨_, List.getElem?_eq_getElem hi'⟩
    have hab := arrs_iff.mp hd.way.ar i a b ga gb
    have ia : atI (x :: r) ((1 + (i : Int)) - 1) = some a := by
      have : (1 + (i : Int)) - 1 = ((i : Nat) : Int) := by omega
      rw [this]
      exact atI_of ga
    have ib : atI (x :: r) (1 + (i : Int)) = some b := by
      have : (1 + (i : Int)) = ((i + 1 : Nat) : Int) := by omega
      rw [this]
      exact atI_of gb
    have eI : ∀ {H5 : Hp}, Ew (tVar 4) ([some v0, some v1, some v2, some v3, some (.int (1 + (i : Int)))] : L2.St) H5 (rInt (1 + (i : Int))) := ew_var rfl rfl
    have E1 : ∀ {H5 : Hp}, Ew (tVar 1) ([some v0, some v1, some v2, some v3, some (.int (1 + (i : Int)))] : L2.St) H' (rL rStr (x :: r)) := ew_var rfl (Kp.kp e2 h1)
    refine s_when (b := false) (EvT.to (et_or (et_not (et_v (ew_isi (n := "str") (b := true) (ew_ixL (ew_var rfl (Kp.kp e2 h1)) eI ib) (fun v H1 h => ty_str h) (by decide +kernel)))) fun _ => et_t (ew_niP (ewn_tup2 (ew_ixL (ew_var rfl (Kp.kp e2 h1)) (ew_I0 eI ew_i) ia) (ew_ixL (ew_var rfl (Kp.kp e2 h1)) eI ib)).ew (ew_p1 (ew_var rfl (Kp.kp e2 h0))))) (by simp [hab])) (fun hb => by cases hb) fun _ H3 e3 => ?_
    exact ⟨e2.trans e3, _, rfl⟩
  · obtain ⟨e2, y4, rfl⟩ := hw
    obtain ⟨z, hz, hzh⟩ := hd.ls
    refine q_when (et_t (ew_inL (ew_var rfl (Kp.kp e2 h2)) (ew_var rfl (Kp.kp e2 h3)))) (fun hb H3 e3 => ?_) (fun hb H3 e3 => ?_)
    · have := hd.self (of_decide_eq_true hb)
      refine w_ret (ew_eqI (ew_lenL (ew_var rfl (Kp.kp (e2.trans e3) h1))) ew_i) fun v H4 e4 hv => q v H4 (e1.trans (e2.trans (e3.trans e4))) ?_
      rw [this] at hv
      exact hv
    · refine w_ret (ew_inL (ew_ixL (ew_var rfl (Kp.kp (e2.trans e3) h1)) (ew_neg ew_i) (atI_last hz)) (ew_var rfl (Kp.kp (e2.trans e3) h3))) fun v H4 e4 hv => q v H4 (e1.trans (e2.trans (e3.trans e4))) ?_
      rw [decide_eq_true hzh] at hv
      exact hv
/-! ### _law_road -/
def spLRoad : Sp := fun vs H Q _ => ∃ N r one other v0 v1 v2 v3, vs = [v0, v1, v2, v3] ∧ rNet N v0 H ∧ NetOk N ∧ rL rStr r v1 H ∧ rStr one v2 H ∧ rStr other v3 H ∧ one ∈ N.1 ∧ one ≠ other ∧ Road N.2 one other r ∧ Ret (rBool true) H Q
theorem use_lroad {N : NetD} {r : List Str} {one other : Str} {v0 v1 v2 v3 : V} {H : Hp} (h0 : rNet N v0 H) (ho : NetOk N) (h1 : rL rStr r v1 H) (h2 : rStr one v2 H) (h3 : rStr other v3 H) (hm : one ∈ N.1) (hne : one ≠ other) (hr : Road N.2 one other r) : Gives spLRoad [v0, v1, v2, v3] H (rBool true) := fun Q k E => ⟨N, r, one, other, v0, v1, v2, v3, rfl, h0, ho, h1, h2, h3, hm, hne, hr, k⟩
theorem sc__law_road : FnScope ["_law_net_here", "_law_road_here", "_law_one", "_law_other", "_law_k"] ["_law_net_here", "_law_road_here", "_law_one", "_law_other"] (defScope (top 45)) := ⟨rfl, rfl, rfl, by decide +kernel, rfl, by decide +kernel, by decide +kernel⟩
theorem ok_lroad (T : Txt K mg) : OkD P w K mg base 2 "_law_road" ["_law_net_here", "_law_road_here", "_law_one", "_law_other"] spLRoad := by
  have G__law_tied := ok_tied (P := P) (w := w) (base := base) T
  refine T.d__law_road.ok sc__law_road (fun vs H Q E h => ?_) (fun cdv A outer s H vs Q E hr h => ?_)
  · obtain ⟨_, _, _, _, _, _, _, _, rfl, _⟩ := h
    rfl
  obtain ⟨N, rd, one, other, v0, v1, v2, v3, rfl, h0, ho, h1, h2, h3, hm, hne, hrd, q⟩ := h
  have hN := ho.few
  have hl6 := road_short ho.net hm hrd
  obtain ⟨a, r, rfl⟩ : ∃ b r, rd = one :: b :: r := by
    have h1 := hrd.hd
    have h2 := hrd.ls
    match rd, h1, h2 with
    | [c], h1, h2 => exact absurd ((Option.some.inj h1).symm.trans (Option.some.inj h2)) hne
    | c :: b :: r, h1, _ => exact ⟨b, r, by rw [Option.some.inj h1]⟩
  refine ⟨_, (pss_cons (ps_if (PW.pt (pw_or (pt_not (pt_val (pe_callB (k_isi K) (by rfl) T.b_isinstance (by decide +kernel) (pa_cons (pv 1) (pa_cons (pe_bltn (v := .ty "list") (by rfl) T.b_list (by decide +kernel) rfl) pa_nil))))) (pw_or (pt_cmpR op_lt (pe_callB (k_len K) (by rfl) T.b_len PySem.boot_len (pa_cons (pv 1) pa_nil)) pe_int (nomark _)) (pw_or (pt_cmpR op_ne (pe_ix (kx_list K) (pv 1) pe_int (fun _ _ => rfl)) (pv 2) (nomark _)) (pw_or1 (pt_cmpR op_ne (pe_ix (kx_list K) (pv 1) (pe_un un_neg pe_int) (fun _ _ => rfl)) (pv 3) (nomark _)))))))
      (pss_one (ps_ret pe_bl)) pss_nil)
      (pss_cons (ps_for PassesOwn.never rfl (pi_range2 (by rfl) T.b_range (pa_cons pe_int (pa_cons (pe_callB (k_len K) (by rfl) T.b_len PySem.boot_len (pa_cons (pv 1) pa_nil)) pa_nil))) (pg_name (i := 4) sc__law_road.nd rfl (Or.inl rfl))
      (pss_one (ps_if (PW.pt (pw_or (pt_not (pt_val (pe_callB (k_isi K) (by rfl) T.b_isinstance (by decide +kernel) (pa_cons (pe_ix (kx_list K) (pv 1) (pv 4) (fun _ _ => rfl)) (pa_cons (pe_bltn (v := .ty "str") (by rfl) T.b_str (by decide +kernel) rfl) pa_nil))))) (pw_or (pt_cmpR (k_in K) (pe_ix (kx_list K) (pv 1) (pv 4) (fun _ _ => rfl)) (pe_slice (k_sl K) (pv 1) po_none (po_some (pv 4))) (by rfl)) (pw_or1 (pt_not (pt_val (pe_callD G__law_tied hr (pa_cons (pv 0) (pa_cons (pe_ix (kx_list K) (pv 1) (pe_op op_sub (pv 4) pe_int) (fun _ _ => rfl)) (pa_cons (pe_ix (kx_list K) (pv 1) (pv 4) (fun _ _ => rfl)) pa_nil))))))))))
      (pss_one (ps_ret pe_bl)) pss_nil)))
      (pss_one (ps_ret pe_bl)))), ?_⟩
  refine q_when (b := false) (EvT.to (et_or (et_not (et_v (ew_isi (n := "list") (b := true) (ew_var rfl h1) (fun v H1 h => ty_lst h) (by decide +kernel)))) fun _ => et_or (et_t (ew_I0b (ew_lenL (ew_var rfl h1)) ew_i)) fun _ => et_or (et_t (ew_neS (ew_ixL (ew_var rfl h1) ew_i (atI_of (j := 0) rfl)) (ew_var rfl h2))) fun _ => et_t (ew_neS (ew_ixL (ew_var rfl h1) (ew_neg ew_i) (atI_last hrd.ls)) (ew_var rfl h3))) (by simp; omega)) (fun hb => by cases hb) fun _ H1 e1 => ?_
  replace h0 := Kp.kp e1 h0
  replace h1 := Kp.kp e1 h1
  refine q_forR2 (lo := 1) (n := ((one :: a :: r).length : Int)) (ea_cons (ev_int ew_i) (ea_cons (ev_int (ew_lenL (ew_var rfl h1))) ea_nil)) (by omega)
    (fun i σ' H' => Ex H1 H' ∧ ∃ y4, σ' = [some v0, some v1, some v2, some v3, y4]) (fun H2 e2 => ⟨e2, _, rfl⟩) (fun i σ' H' hi hw => ?_) fun σ' H' hw => ?_
  · obtain ⟨e2, y4, rfl⟩ := hw
    have hi' : i + 1 < (one :: a :: r).length := by omega
    obtain ⟨b, gb⟩ : ∃ b, (one :: a :: r)[i]? = some b := ⟨_, List.getElem?_eq_getElem (by omega)⟩
    obtain ⟨c, gc⟩ : ∃ c, (one :: a :: r)[i + 1]? = some c := ⟨_, List.getElem?_eq_getElem hi'⟩
    have hbc := chain_iff.mp hrd.ch i b c gb gc
    have ib : atI (one :: a :: r) ((1 + (i : Int)) - 1) = some b := by
      have : (1 + (i : Int)) - 1 = ((i : Nat) : Int) := by omega
      rw [this]
      exact atI_of gb
    have ic : atI (one :: a :: r) (1 + (i : Int)) = some c := by
      have : (1 + (i : Int)) = ((i + 1 : Nat) : Int) := by omega
      rw [this]
      exact atI_of gc
    have hnew : c ∉ (one :: a :: r).take (i + 1) := fun m => by
      obtain ⟨j, hj⟩ := List.mem_iff_getElem?.mp m
      rw [List.getElem?_take] at hj
      by_cases hji : j < i + 1
      · rw [if_pos hji] at hj
        have := nd_at hrd.nd hj gc
        omega
      · rw [if_neg hji] at hj
        cases hj
    have eI : ∀ {H5 : Hp}, Ew (tVar 4) ([some v0, some v1, some v2, some v3, some (.int (1 + (i : Int)))] : L2.St) H5 (rInt (1 + (i : Int))) := ew_var rfl rfl
    have eS : cutA (one :: a :: r) none (some (1 + (i : Int))) = (one :: a :: r).take (i + 1) := by
      have : (1 + (i : Int)) = ((i + 1 : Nat) : Int) := by omega
      rw [this]
      exact cut_to (by omega)
    refine s_when (b := false) (EvT.to (et_or (et_not (et_v (ew_isi (n := "str") (b := true) (ew_ixL (ew_var rfl (Kp.kp e2 h1)) eI ic) (fun v H1 h => ty_str h) (by decide +kernel)))) fun _ => et_or (et_t (ew_inL (ew_ixL (ew_var rfl (Kp.kp e2 h1)) eI ic) ((ewn_sl (ew_var rfl (Kp.kp e2 h1)) eo_none (eo_int eI)).toL eS).ew)) fun _ => et_not (et_v (ew_call3 (ew_var rfl (Kp.kp e2 h0)) (ew_ixL (ew_var rfl (Kp.kp e2 h1)) (ew_I0 eI ew_i) ib) (ew_ixL (ew_var rfl (Kp.kp e2 h1)) eI ic) fun x0 x1 x2 H2 e2 p0 p1 p2 => use_tied p0 p1 p2))) (by rw [decide_eq_false hnew, decide_eq_true hbc]; rfl)) (fun hb => by cases hb) fun _ H3 e3 => ?_
    exact ⟨e2.trans e3, _, rfl⟩
  · obtain ⟨e2, y4, rfl⟩ := hw
    exact w_ret (ew_b (b := true)) fun v H4 e4 hv => q v H4 (e1.trans (e2.trans e4)) hv
/-! ### _law_open_told -/
def spLTold : Sp := fun vs H Q _ => ∃ N r one other held v0 v1 v2 v3 v4, vs = [v0, v1, v2, v3, v4] ∧ rNet N v0 H ∧ NetOk N ∧ rP (rL rStr) (rL (rDown N held)) (r, meetsS N r) v1 H ∧ rStr one v2 H ∧ rStr other v3 H ∧ rL rStr held v4 H ∧ one ∈ N.1 ∧ one ≠ other ∧ Road N.2 one other r ∧ Open N.2 held r ∧ Ret (rBool true) H Q
theorem use_ltold {N : NetD} {r held : List Str} {one other : Str} {v0 v1 v2 v3 v4 : V} {H : Hp} (h0 : rNet N v0 H) (ho : NetOk N) (h1 : rP (rL rStr) (rL (rDown N held)) (r, meetsS N r) v1 H) (h2 : rStr one v2 H) (h3 : rStr other v3 H) (h4 : rL rStr held v4 H) (hm : one ∈ N.1) (hne : one ≠ other) (hr : Road N.2 one other r) (hop : Open N.2 held r) : Gives spLTold [v0, v1, v2, v3, v4] H (rBool true) := fun Q k E => ⟨N, r, one, other, held, v0, v1, v2, v3, v4, rfl, h0, ho, h1, h2, h3, h4, hm, hne, hr, hop, k⟩
theorem plus_one {i : Nat} {l : List Nat} : (1 + (i : Int)) ∈ l.map (fun j : Nat => 1 + (j : Int)) ↔ i ∈ l := by
  rw [List.mem_map]
  constructor
  · rintro ⟨j, hj, e⟩
    have : j = i := by omega
    exact this ▸ hj
  · exact fun h => ⟨i, h, rfl⟩
theorem sc__law_open_told : FnScope ["_law_net_here", "_law_found", "_law_one", "_law_other", "_law_held", "_law_road_here", "_law_downs", "_law_inner", "_law_k", "_law_down_here"] ["_law_net_here", "_law_found", "_law_one", "_law_other", "_law_held"] (defScope (top 46)) := ⟨rfl, rfl, rfl, by decide +kernel, rfl, by decide +kernel, by decide +kernel⟩
theorem ok_ltold (T : Txt K mg) : OkD P w K mg base 3 "_law_open_told" ["_law_net_here", "_law_found", "_law_one", "_law_other", "_law_held"] spLTold := by
  have G__law_road := ok_lroad (P := P) (w := w) (base := base) T
  have G__law_meets := ok_meets (P := P) (w := w) (base := base) T
  have G__law_down := ok_ldown (P := P) (w := w) (base := base) T
  refine T.d__law_open_told.ok sc__law_open_told (fun vs H Q E h => ?_) (fun cdv A outer s H vs Q E hr h => ?_)
  · obtain ⟨_, _, _, _, _, _, _, _, _, _, rfl, _⟩ := h
    rfl
  obtain ⟨N, rd, one, other, held, v0, v1, v2, v3, v4, rfl, h0, ho, h1, h2, h3, h4, hm, hne, hrd, hop, q⟩ := h
  have hN := ho.few
  have hl6 := road_short ho.net hm hrd
  have hin : ∀ x ∈ rd, x ∈ N.1 := chain_in ho.net hrd.ch fun a ha => by
    rw [hrd.hd] at ha
    cases ha
    exact hm
  have hop2 := (open_places (rd := readyB N held) fun x hx => readyB_iff ho (hin x hx)).mp hop
  refine ⟨_, (pss_cons (ps_if (PW.pt (pw_or (pt_not (pt_val (pe_callB (k_isi K) (by rfl) T.b_isinstance (by decide +kernel) (pa_cons (pv 1) (pa_cons (pe_bltn (v := .ty "tuple") (by rfl) T.b_tuple (by decide +kernel) rfl) pa_nil))))) (pw_or (pt_cmpR op_ne (pe_callB (k_len K) (by rfl) T.b_len PySem.boot_len (pa_cons (pv 1) pa_nil)) pe_int (nomark _)) (pw_or1 (pt_not (pt_val (pe_callB (k_isi K) (by rfl) T.b_isinstance (by decide +kernel) (pa_cons (pe_ix (kx_tup K) (pv 1) pe_int (fun _ _ => rfl)) (pa_cons (pe_bltn (v := .ty "list") (by rfl) T.b_list (by decide +kernel) rfl) pa_nil)))))))))
      (pss_one (ps_ret pe_bl)) pss_nil)
      (pss_cons (ps_asg (pv 1) (kg_tup K 2 (by rfl) (pgs_cons (pg_name (i := 5) sc__law_open_told.nd rfl (Or.inr rfl)) (pgs_cons (pg_name (i := 6) sc__law_open_told.nd rfl (Or.inl rfl)) pgs_nil))))
      (pss_cons (ps_if (pt_not (pt_val (pe_callD G__law_road hr (pa_cons (pv 0) (pa_cons (pv 5) (pa_cons (pv 2) (pa_cons (pv 3) pa_nil)))))))
      (pss_one (ps_ret pe_bl)) pss_nil)
      (pss_cons (ps_set (i := 7) sc__law_open_told.nd rfl (Or.inr rfl) (pe_lc (own := [("_law_k", 8)]) rfl sc__law_open_told.nd (pi_range2 (by rfl) T.b_range (pa_cons pe_int (pa_cons (pe_op op_sub (pe_callB (k_len K) (by rfl) T.b_len PySem.boot_len (pa_cons (pv 5) pa_nil)) pe_int) pa_nil))) (blkOk_by (own := [("_law_k", 8)]) (N := ["_law_net_here", "_law_found", "_law_one", "_law_other", "_law_held", "_law_road_here", "_law_downs", "_law_inner", "_law_k", "_law_down_here"]) (sc := defScope (top 46)) (by decide +kernel)) (fun _ _ _ _ _ => (pg_name (i := 8) sc__law_open_told.nd rfl (Or.inl rfl))) (fun _ _ _ _ _ => (pts_one (pt_val (pe_callD G__law_meets hr (pa_cons (pv 0) (pa_cons (pv 5) (pa_cons (pv 8) pa_nil))))))) (fun _ _ _ _ _ => (pv 8))))
      (pss_cons (ps_if (pt_cmpR op_ne (pe_callB (k_len K) (by rfl) T.b_len PySem.boot_len (pa_cons (pv 6) pa_nil)) (pe_callB (k_len K) (by rfl) T.b_len PySem.boot_len (pa_cons (pv 7) pa_nil)) (nomark _))
      (pss_one (ps_ret pe_bl)) pss_nil)
      (pss_cons (ps_if (pt_cmpR op_gt (pe_callB (k_len K) (by rfl) T.b_len PySem.boot_len (pa_cons (pe_lc (own := [("_law_k", 8)]) rfl sc__law_open_told.nd (pi_range2 (by rfl) T.b_range (pa_cons pe_int (pa_cons (pe_op op_sub (pe_callB (k_len K) (by rfl) T.b_len PySem.boot_len (pa_cons (pv 5) pa_nil)) pe_int) pa_nil))) (blkOk_by (own := [("_law_k", 8)]) (N := ["_law_net_here", "_law_found", "_law_one", "_law_other", "_law_held", "_law_road_here", "_law_downs", "_law_inner", "_law_k", "_law_down_here"]) (sc := defScope (top 46)) (by decide +kernel)) (fun _ _ _ _ _ => (pg_name (i := 8) sc__law_open_told.nd rfl (Or.inl rfl))) (fun _ _ _ _ _ => (pts_one (PW.pt (pw_and (pt_cmpR (k_notIn K) (pv 8) (pv 7) (by rfl)) (pw_and1 (pt_cmpR (k_in K) (pe_ix (kx_list K) (pv 5) (pv 8) (fun _ _ => rfl)) (pv 4) (by rfl))))))) (fun _ _ _ _ _ => (pv 8))) pa_nil)) pe_int (nomark _))
      (pss_one (ps_ret pe_bl)) pss_nil)
      (pss_cons (ps_for PassesOwn.never rfl (pi_zip (by rfl) T.b_zip (pa_cons (pv 7) (pa_cons (pv 6) pa_nil))) (kg_tup K 2 (by rfl) (pgs_cons (pg_name (i := 8) sc__law_open_told.nd rfl (Or.inl rfl)) (pgs_cons (pg_name (i := 9) sc__law_open_told.nd rfl (Or.inl rfl)) pgs_nil)))
      (pss_one (ps_if (pt_not (pt_val (pe_callD G__law_down hr (pa_cons (pv 0) (pa_cons (pv 9) (pa_cons (pe_ix (kx_list K) (pv 5) (pv 8) (fun _ _ => rfl)) (pa_cons (pv 4) pa_nil)))))))
      (pss_one (ps_ret pe_bl)) pss_nil)))
      (pss_one (ps_ret pe_bl))))))))), ?_⟩
  refine q_when (b := false) (EvT.to (et_or (et_not (et_v (ew_isi (n := "tuple") (b := true) (ew_var rfl h1) (fun v H1 h => ty_tup h) (by decide +kernel)))) fun _ => et_or (et_t (ew_neI (ew_lenP (ew_var rfl h1)) ew_i)) fun _ => et_not (et_v (ew_isi (n := "list") (b := true) (ew_p1 (ew_var rfl h1)) (fun v H1 h => ty_lst h) (by decide +kernel)))) (by simp)) (fun hb => by cases hb) fun _ H1 e1 => ?_
  replace h0 := Kp.kp e1 h0
  replace h1 := Kp.kp e1 h1
  replace h2 := Kp.kp e1 h2
  replace h3 := Kp.kp e1 h3
  replace h4 := Kp.kp e1 h4
  refine q_asgP (R := rL rStr) (S := rL (rDown N held)) (ab := (rd, meetsS N rd)) (ew_var rfl h1) fun v5 v6 H2 e2 h5 h6 => ?_
  replace h0 := Kp.kp e2 h0
  replace h2 := Kp.kp e2 h2
  replace h3 := Kp.kp e2 h3
  replace h4 := Kp.kp e2 h4
  refine q_when (b := false) (EvT.to (et_not (et_v (ew_call4 (ew_var rfl h0) (ew_var rfl h5) (ew_var rfl h2) (ew_var rfl h3) fun x0 x1 x2 x3 H2 e2 p0 p1 p2 p3 => use_lroad p0 ho p1 p2 p3 hm hne hrd))) rfl) (fun hb => by cases hb) fun _ H3 e3 => ?_
  replace h0 := Kp.kp e3 h0
  replace h4 := Kp.kp e3 h4
  replace h5 := Kp.kp e3 h5
  replace h6 := Kp.kp e3 h6
  have hn2 : (((rd.length : Int) - 1) - 1).toNat = rd.length - 2 := by omega
  refine q_asgN (ewn_lcR2 (S := rInt) (lo := 1) (hi := (rd.length : Int) - 1) (meetsAt N.2 rd) (fun i => 1 + (i : Int)) ew_i (ew_I0 (ew_lenL (ew_var rfl h5)) ew_i) hn2 (by omega) (by omega) (by omega) (fun x => rfl) (fun i hi H4 e4 => ?_) (fun i hi hf H4 e4 => ew_var rfl rfl)) fun p7 H4 n7 e4 h7 => ?_
  · exact et_v (ew_call3 (ew_var rfl (Kp.kp e4 h0)) (ew_var rfl (Kp.kp e4 h5)) (ew_var (P := rInt (1 + (i : Int))) rfl rfl) fun x0 x1 x2 H2 e2 p0 p1 p2 => use_meets p0 p1 p2 hi)
  replace h0 := Kp.kp e4 h0
  replace h4 := Kp.kp e4 h4
  replace h5 := Kp.kp e4 h5
  replace h6 := Kp.kp e4 h6
  have hlen : (meetsS N rd).length = (((List.range (rd.length - 2)).filter (meetsAt N.2 rd)).map fun i : Nat => 1 + (i : Int)).length := by
    show (((List.range (rd.length - 2)).filter (meetsAt N.2 rd)).map _).length = _
    rw [List.length_map, List.length_map]
  refine q_when (b := false) (EvT.to (et_t (ew_neI (ew_lenL (ew_var rfl h6)) (ew_lenL (ew_var rfl h7)))) (by rw [hlen]; simp)) (fun hb => by cases hb) fun _ H5 e5 => ?_
  replace h0 := Kp.kp e5 h0
  replace h4 := Kp.kp e5 h4
  replace h5 := Kp.kp e5 h5
  replace h6 := Kp.kp e5 h6
  replace h7 := Kp.kp e5 h7
  have hnone : (List.range (rd.length - 2)).filter (fun i => !meetsAt N.2 rd i && decide (rd.getD (i + 1) Str.empty ∈ held)) = [] := by
    rw [List.filter_eq_nil_iff]
    intro i hi hb
    have hi' := List.mem_range.mp hi
    obtain ⟨a, b, c, g1, g2, g3⟩ := three hi'
    have := hop2 i hi' b g2
    rw [Bool.and_eq_true, decide_eq_true_iff] at hb
    rw [if_neg (by simpa using hb.1)] at this
    rw [List.getD_eq_getElem?_getD, g2] at hb
    exact this hb.2
  refine q_when (b := false) (EvT.to (et_t (ew_I0b (ew_lenL (ewn_lcR2 (S := rInt) (lo := 1) (hi := (rd.length : Int) - 1) (fun i => !meetsAt N.2 rd i && decide (rd.getD (i + 1) Str.empty ∈ held)) (fun i => 1 + (i : Int)) ew_i (ew_I0 (ew_lenL (ew_var rfl h5)) ew_i) hn2 (by omega) (by omega) (by omega) (fun x => rfl) (fun i hi H4 e4 => ?_) (fun i hi hf H4 e4 => ew_var rfl rfl)).ew) ew_i)) (by rw [hnone]; rfl)) (fun hb => by cases hb) fun _ H6 e6 => ?_
  · obtain ⟨a, b, c, g1, g2, g3, ia, ib, ic⟩ := idx3 hi
    have eI : ∀ {σ' : L2.St} {H5 : Hp}, σ'[8]? = some (some (.int (1 + (i : Int)))) → Ew (tVar 8) σ' H5 (rInt (1 + (i : Int))) := fun h => ew_var h rfl
    refine EvT.to (et_and (et_t (ew_niLi (eI rfl) (ew_var rfl (Kp.kp e4 h7)))) fun _ => et_t (ew_inL (ew_ixL (ew_var rfl (Kp.kp e4 h5)) (eI rfl) ib) (ew_var rfl (Kp.kp e4 h4)))) ?_
    have e1 : decide (1 + (i : Int) ∈ ((List.range (rd.length - 2)).filter (meetsAt N.2 rd)).map fun i : Nat => 1 + (i : Int)) = meetsAt N.2 rd i := by
      rw [Bool.eq_iff_iff, decide_eq_true_iff, plus_one, List.mem_filter, List.mem_range]
      exact ⟨fun h => h.2, fun h => ⟨hi, h⟩⟩
    have e2 : rd.getD (i + 1) Str.empty = b := by
      rw [List.getD_eq_getElem?_getD, g2]
      rfl
    rw [e1, e2]
  replace h0 := Kp.kp e6 h0
  replace h4 := Kp.kp e6 h4
  replace h5 := Kp.kp e6 h5
  replace h6 := Kp.kp e6 h6
  replace h7 := Kp.kp e6 h7
  obtain ⟨p6, ys, e6', g6, al6⟩ := id h6
  obtain ⟨p7', xs, e7', g7, al7⟩ := id h7
  cases e7'
  subst e6'
  refine q_zipLL (ev_var rfl) (ev_var rfl) g7 g6 (by rw [← al7.len, ← al6.len, hlen]) (fun i σ' H' => Ex H6 H' ∧ ∃ y8 y9, σ' = [some v0, some v1, some v2, some v3, some v4, some v5, some (.ref p6), some (.ref p7), y8, y9]) (fun H7 e7 => ⟨e7, _, _, rfl⟩) (fun i σ' H' hw => hw.1) (fun i x y σ' H' H7 hx hy hw e7 => ?_) fun σ' H' hw => ?_
  · obtain ⟨e8, y8, y9, rfl⟩ := hw
    obtain ⟨a, ga, ra⟩ := al7.getV hx
    obtain ⟨b, gb, rb⟩ := al6.getV hy
    obtain ⟨j, gj⟩ : ∃ j, ((List.range (rd.length - 2)).filter (meetsAt N.2 rd))[i]? = some j := by
      rw [List.getElem?_map] at ga
      cases hq : ((List.range (rd.length - 2)).filter (meetsAt N.2 rd))[i]? with
      | none => rw [hq] at ga; cases ga
      | some j => exact ⟨j, rfl⟩
    have ea : a = 1 + (j : Int) := by
      rw [List.getElem?_map, gj] at ga
      exact (Option.some.inj ga).symm
    have hj : j < rd.length - 2 := List.mem_range.mp (List.mem_filter.mp (List.mem_of_getElem? gj)).1
    obtain ⟨z1, z2, z3, g1, g2, g3, ia, ib, ic⟩ := idx3 hj
    have eb : b = z2 := by
      have gb' : (((List.range (rd.length - 2)).filter (meetsAt N.2 rd)).map fun i => rd.getD (i + 1) Str.empty)[i]? = some b := gb
      rw [List.getElem?_map, gj] at gb'
      have this : rd.getD (j + 1) Str.empty = b := Option.some.inj gb'
      rw [List.getD_eq_getElem?_getD, g2] at this
      exact this.symm
    subst eb
    have ra' : x = .int (1 + (j : Int)) := by rw [← ea]; exact ra
    subst ra'
    have E7 := e8.trans e7
    obtain ⟨wy, hd, hwy⟩ := Kp.kp E7 rb
    refine s_when (b := false) (EvT.to (et_not (et_v (ew_call4 (ew_var rfl (Kp.kp E7 h0)) (ew_var rfl hwy) (ew_ixL (ew_var rfl (Kp.kp E7 h5)) (ew_var (P := rInt (1 + (j : Int))) rfl rfl) ib) (ew_var rfl (Kp.kp E7 h4)) fun x0 x1 x2 x3 H2 e2 p0 p1 p2 p3 => use_ldown p0 ho p1 p2 (hin b (List.mem_of_getElem? g2)) p3 hd))) rfl) (fun hb => by cases hb) fun _ H8 e9 => ?_
    exact ⟨E7.trans e9, _, _, rfl⟩
  · obtain ⟨e8, y8, y9, rfl⟩ := hw
    exact w_ret (ew_b (b := true)) fun v H9 e9 hv => q v H9 ((e1.trans (e2.trans (e3.trans (e4.trans (e5.trans e6))))).trans (e8.trans e9)) hv
end
end Am
/-! _law_reached, _law_told, _law_holds. -/
namespace Am
open PySem PySem.Spec PyProof.Rows L2 Evl
section
variable {P : Program} {w : World} {K : PySem.W.Frag} {mg : Str → Option Value} {base : Heap}
/-! ### _law_reached -/
def spReached : Sp := fun vs H Q _ => ∃ N one other held v0 v1 v2 v3, vs = [v0, v1, v2, v3] ∧ rNet N v0 H ∧ NetOk N ∧ rStr one v1 H ∧ rStr other v2 H ∧ rL rStr held v3 H ∧ AskOk N one other held ∧ Ret (rBool (!partB N held one other)) H Q
theorem use_reached {N : NetD} {one other : Str} {held : List Str} {v0 v1 v2 v3 : V} {H : Hp} (h0 : rNet N v0 H) (ho : NetOk N) (h1 : rStr one v1 H) (h2 : rStr other v2 H) (h3 : rL rStr held v3 H) (ha : AskOk N one other held) : Gives spReached [v0, v1, v2, v3] H (rBool (!partB N held one other)) := fun Q k E => ⟨N, one, other, held, v0, v1, v2, v3, rfl, h0, ho, h1, h2, h3, ha, k⟩
theorem AskOk.swap {N : NetD} {one other : Str} {held : List Str} (h : AskOk N one other held) : AskOk N other one held where
  mem := fun x hx => h.mem x (by
    simp at hx ⊢
    rcases hx with h | h | h
    · exact .inr (.inl h)
    · exact .inl h
    · exact .inr (.inr h))
  nd := (List.Perm.swap one other held).symm.nodup_iff.mp h.nd
theorem sc__law_reached : FnScope ["_law_net_here", "_law_one", "_law_other", "_law_held", "_law_found", "_law_spot"] ["_law_net_here", "_law_one", "_law_other", "_law_held"] (defScope (top 47)) := ⟨rfl, rfl, rfl, by decide +kernel, rfl, by decide +kernel, by decide +kernel⟩
theorem ok_reached (T : Txt K mg) : OkD P w K mg base 6 "_law_reached" ["_law_net_here", "_law_one", "_law_other", "_law_held"] spReached := by
  have G_reach_of := ok_reach_of (P := P) (w := w) (base := base) T
  refine T.d__law_reached.ok sc__law_reached (fun vs H Q E h => ?_) (fun cdv A outer s H vs Q E hr h => ?_)
  · obtain ⟨_, _, _, _, _, _, _, _, rfl, _⟩ := h
    rfl
  obtain ⟨N, one, other, held, v0, v1, v2, v3, rfl, h0, ho, h1, h2, h3, ha, q⟩ := h
  have hN := ho.few
  have nd1 : (one :: held).Nodup := ha.nd.sublist (List.Sublist.cons_cons one (List.sublist_cons_self other held))
  have mm : ∀ x ∈ one :: held, x ∈ N.1 := fun x hx => ha.mem x (by
    rcases List.mem_cons.mp hx with e | m
    · simp [e]
    · simp [m])
  refine ⟨_, (pss_cons (ps_set (i := 4) sc__law_reached.nd rfl (Or.inl rfl) (pe_callD G_reach_of hr (pa_cons (pv 0) (pa_cons (pv 1) (pa_cons (pe_callTy (k_list K) (by rfl) T.b_list (by decide +kernel) (pa_cons (pv 3) pa_nil)) pa_nil)))))
      (pss_cons (ps_if (pt_not (pt_val (pe_callB (k_isi K) (by rfl) T.b_isinstance (by decide +kernel) (pa_cons (pv 4) (pa_cons (pe_bltn (v := .ty "list") (by rfl) T.b_list (by decide +kernel) rfl) pa_nil)))))
      (pss_one (ps_ret pe_non)) pss_nil)
      (pss_one (ps_ret (pe_cmpR op_gt (pe_callB (k_len K) (by rfl) T.b_len PySem.boot_len (pa_cons (pe_lc (own := [("_law_spot", 5)]) rfl sc__law_reached.nd (kp_list K (pv 4)) (blkOk_by (own := [("_law_spot", 5)]) (N := ["_law_net_here", "_law_one", "_law_other", "_law_held", "_law_found", "_law_spot"]) (sc := defScope (top 47)) (by decide +kernel)) (fun _ _ _ _ _ => (pg_name (i := 5) sc__law_reached.nd rfl (Or.inl rfl))) (fun _ _ _ _ _ => (pts_one (pt_cmpR op_eq (pe_ix (kx_tup K) (pv 5) pe_int (fun _ _ => rfl)) (pv 2) (nomark _)))) (fun _ _ _ _ _ => (pv 5))) pa_nil)) pe_int (nomark _)))))), ?_⟩
  refine q_asgW (ew_call3 (ew_var rfl h0) (ew_var rfl h1) (ewn_list (ew_var rfl h3)).ew fun x0 x1 x2 H2 e2 p0 p1 p2 => use_reach p0 ho p1 p2 mm nd1 (ha.le hN)) fun v4 H1 e1 h4 => ?_
  refine q_when (b := false) (EvT.to (et_not (et_v (ew_isi (n := "list") (b := true) (ew_var rfl h4) (fun v H1 h => ty_lst h) (by decide +kernel)))) rfl) (fun hb => by cases hb) fun _ H2 e2 => ?_
  have fl : (((allSp N).filter (spotB N held one))).length ≤ 12 := Nat.le_trans (List.length_filter_le _ _) (allSp_le hN)
  refine w_ret (ew_I0b (ew_lenL (ewn_lcL (S := rSpot) (R := rSpot) (T := sN 5 rSpot) (fun s => decide (s.1 = other)) (fun s => s) tgN (ew_var rfl (Kp.kp e2 h4)) (by omega) (fun a σ' H' hT => ?_) (fun a ha σ' H3 e3 hT => ?_) (fun a ha hf σ' H3 e3 hT => ?_)).ew) ew_i) fun v H3 e3 hv => q v H3 (e1.trans (e2.trans e3)) ?_
  · obtain ⟨y, hy, rfl⟩ := hT
    rfl
  · obtain ⟨y, hy, rfl⟩ := hT
    exact et_t (ew_eqS (ew_p0 (ew_var rfl hy)) (ew_vF (P := rStr other) rfl h2))
  · obtain ⟨y, hy, rfl⟩ := hT
    exact ew_var rfl hy
  · have e : decide ((((((allSp N).filter (spotB N held one)).filter fun s => decide (s.1 = other)).map fun s => s).length : Int) > 0) = !partB N held one other := by
      rw [Bool.eq_iff_iff, decide_eq_true_iff, Bool.not_eq_true', ← Bool.not_eq_true, partB_iff, Classical.not_not, List.length_map]
      constructor
      · intro h
        have : ((((allSp N).filter (spotB N held one)).filter fun s => decide (s.1 = other))).length ≠ 0 := by omega
        obtain ⟨s, hs⟩ := List.exists_mem_of_length_pos (Nat.pos_of_ne_zero this)
        obtain ⟨h1, h2⟩ := List.mem_filter.mp hs
        have h3 := spotB_iff.mp (List.mem_filter.mp h1).2
        rw [of_decide_eq_true h2] at h3
        exact ⟨_, h3⟩
      · rintro ⟨b, hb⟩
        have : (other, b) ∈ (((allSp N).filter (spotB N held one)).filter fun s => decide (s.1 = other)) := List.mem_filter.mpr ⟨List.mem_filter.mpr ⟨mem_allSp.mpr (ha.mem other (by simp)), spotB_iff.mpr hb⟩, decide_eq_true rfl⟩
        have := List.length_pos_of_mem this
        omega
    rw [← e]
    exact hv
/-! ### _law_told -/
/-- a list of two -/
def rLP (A B : VP) : VP := fun v H => ∃ p x y, v = .ref p ∧ H p = some (.lst [x, y]) ∧ A x H ∧ B y H
instance {A B : VP} [ka : Kp A] [kb : Kp B] : Kp (rLP A B) := ⟨fun e ⟨p, x, y, h1, h2, h3, h4⟩ => ⟨p, x, y, h1, e p _ h2, ka.kp e h3, kb.kp e h4⟩⟩
def spTold : Sp := fun vs H Q _ => ∃ N one other held, ∃ d : Int, ∃ v0 v1 v2 v3, vs = [v0, v1, v2, v3, .int d] ∧ rNet N v0 H ∧ NetOk N ∧ rStr one v1 H ∧ rStr other v2 H ∧ rL rStr held v3 H ∧ AskOk N one other held ∧ Ret (rLP (rBool (partB N held one other)) (rOpenRoad N held one other)) H Q
theorem use_told {N : NetD} {one other : Str} {held : List Str} {d : Int} {v0 v1 v2 v3 v4 : V} {H : Hp} (h0 : rNet N v0 H) (ho : NetOk N) (h1 : rStr one v1 H) (h2 : rStr other v2 H) (h3 : rL rStr held v3 H) (h4 : rInt d v4 H) (ha : AskOk N one other held) : Gives spTold [v0, v1, v2, v3, v4] H (rLP (rBool (partB N held one other)) (rOpenRoad N held one other)) := fun Q k E => by
  have e : v4 = .int d := h4
  subst e
  exact ⟨N, one, other, held, d, v0, v1, v2, v3, rfl, h0, ho, h1, h2, h3, ha, k⟩
theorem sc__law_told : FnScope ["_law_net_here", "_law_one", "_law_other", "_law_held", "_law_way", "_law_truth", "_law_road_here"] ["_law_net_here", "_law_one", "_law_other", "_law_held", "_law_way"] (defScope (top 48)) := ⟨rfl, rfl, rfl, by decide +kernel, rfl, by decide +kernel, by decide +kernel⟩
theorem ok_told (T : Txt K mg) : OkD P w K mg base 9 "_law_told" ["_law_net_here", "_law_one", "_law_other", "_law_held", "_law_way"] spTold := by
  have G_are_parted := ok_are_parted (P := P) (w := w) (base := base) T
  have G_open_road := ok_open_road (P := P) (w := w) (base := base) T
  refine T.d__law_told.ok sc__law_told (fun vs H Q E h => ?_) (fun cdv A outer s H vs Q E hr h => ?_)
  · obtain ⟨_, _, _, _, _, _, _, _, _, rfl, _⟩ := h
    rfl
  obtain ⟨N, one, other, held, d, v0, v1, v2, v3, rfl, h0, ho, h1, h2, h3, ha, q⟩ := h
  refine ⟨_, (pss_cons (ps_set (i := 5) sc__law_told.nd rfl (Or.inl rfl) pe_non)
      (pss_cons (ps_set (i := 6) sc__law_told.nd rfl (Or.inl rfl) pe_non)
      (pss_cons (ps_if (pt_cmpR op_eq (pe_op op_mod (pv 4) pe_int) pe_int (nomark _))
      (pss_one (ps_set (i := 5) sc__law_told.nd rfl (Or.inl rfl) (pe_callD G_are_parted hr (pa_cons (pv 0) (pa_cons (pv 1) (pa_cons (pv 2) (pa_cons (pe_callTy (k_list K) (by rfl) T.b_list (by decide +kernel) (pa_cons (pv 3) pa_nil)) pa_nil))))))) pss_nil)
      (pss_cons (ps_set (i := 6) sc__law_told.nd rfl (Or.inl rfl) (pe_callD G_open_road hr (pa_cons (pv 0) (pa_cons (pv 1) (pa_cons (pv 2) (pa_cons (pe_callTy (k_list K) (by rfl) T.b_list (by decide +kernel) (pa_cons (pv 3) pa_nil)) pa_nil))))))
      (pss_cons (ps_if (pt_cmpR op_eq (pe_op op_mod (pv 4) pe_int) pe_int (nomark _))
      (pss_one (ps_set (i := 5) sc__law_told.nd rfl (Or.inl rfl) (pe_callD G_are_parted hr (pa_cons (pv 0) (pa_cons (pv 1) (pa_cons (pv 2) (pa_cons (pe_callTy (k_list K) (by rfl) T.b_list (by decide +kernel) (pa_cons (pv 3) pa_nil)) pa_nil))))))) pss_nil)
      (pss_one (ps_ret (pe_lst (pa_cons (pv 5) (pa_cons (pv 6) pa_nil)))))))))), ?_⟩
  refine q_asgW (ew_c (P := rNone ()) (v := .non) rfl) fun v5 H1 e1 h5 => ?_
  refine q_asgW (ew_c (P := rNone ()) (v := .non) rfl) fun v6 H2 e2 h6 => ?_
  have E2 := e1.trans e2
  replace h0 := Kp.kp E2 h0
  replace h1 := Kp.kp E2 h1
  replace h2 := Kp.kp E2 h2
  replace h3 := Kp.kp E2 h3
  have par : ∀ {σ : L2.St} {H5 : Hp}, Ex H2 H5 → σ[0]? = some (some v0) → σ[1]? = some (some v1) → σ[2]? = some (some v2) → σ[3]? = some (some v3) → Ew (tCall spParted [] E (tCons (tVar 0) (tCons (tVar 1) (tCons (tVar 2) (tCons (tCB (rListS K) (tCons (tVar 3) tNil)) tNil))))) σ H5 (rBool (partB N held one other)) := fun e i0 i1 i2 i3 => ew_call4 (ew_var i0 (Kp.kp e h0)) (ew_var i1 (Kp.kp e h1)) (ew_var i2 (Kp.kp e h2)) (ewn_list (ew_var i3 (Kp.kp e h3))).ew fun x0 x1 x2 x3 H2 e2 p0 p1 p2 p3 => use_parted p0 ho p1 p2 p3 ha
  refine q_cutK (fun σ' H' => Ex H2 H' ∧ ∃ y5, σ' = [some v0, some v1, some v2, some v3, some (.int d), some y5, some v6] ∧ (d % 2 = 0 → rBool (partB N held one other) y5 H')) (fun σ' H' hw => ?_) fun go => ?_
  · obtain ⟨e3, y5, rfl, h5'⟩ := hw
    refine q_asgW (ew_call4 (ew_var rfl (Kp.kp e3 h0)) (ew_var rfl (Kp.kp e3 h1)) (ew_var rfl (Kp.kp e3 h2)) (ewn_list (ew_var rfl (Kp.kp e3 h3))).ew fun x0 x1 x2 x3 H2 e2 p0 p1 p2 p3 => use_open_road p0 ho p1 p2 p3 ha) fun v6 H4 e4 h6 => ?_
    have fin : ∀ {H5 : Hp} {y : V}, Ex H4 H5 → rBool (partB N held one other) y H5 → tRet (tLst (tCons (tVar 5) (tCons (tVar 6) tNil))) { nx := fun x H' => Q V.non H', rt := Q } [some v0, some v1, some v2, some v3, some (.int d), some y, some v6] H5 := fun {H5 y} e5 hy => by
      refine w_ret (P := rLP (rBool (partB N held one other)) (rOpenRoad N held one other)) (fun H6 e6 Q' q' => ⟨_, rfl, _, rfl, by show 2 ≤ sizeLine; decide, fun l hl => q' _ _ (Ex.new hl) ⟨l, y, v6, rfl, upd_same, hy, Kp.kp ((e5.trans e6).trans (Ex.new hl)) h6⟩⟩) fun v H6 e6 hv => q v H6 (((E2.trans e3).trans e4).trans (e5.trans e6)) hv
    refine q_when (et_t (ew_eqI (ew_I (ew_var (P := rInt d) rfl rfl) ew_i (by decide)) ew_i)) (fun hb H5 e5 => ?_) (fun hb H5 e5 => ?_)
    · exact w_asg (par (e3.trans (e4.trans e5)) rfl rfl rfl rfl) fun v H6 e6 hv => fin (e5.trans e6) hv
    · refine fin e5 (h5' ?_)
      have := of_decide_eq_false hb
      omega
  · refine q_when (et_t (ew_eqI (ew_I (ew_var (P := rInt d) rfl rfl) ew_i (by decide)) ew_i)) (fun hb H5 e5 => ?_) (fun hb H5 e5 => ?_)
    · exact w_asg (par e5 rfl rfl rfl rfl) fun v H6 e6 hv => go _ _ ⟨e5.trans e6, v, rfl, fun _ => hv⟩
    · exact go _ _ ⟨e5, _, rfl, fun h => absurd h (of_decide_eq_false hb)⟩
/-! ### _law_holds -/
def spHolds : Sp := fun vs H Q _ => ∃ N one other held, ∃ d : Int, ∃ v0 v1 v2 v3, vs = [v0, v1, v2, v3, .int d] ∧ rNet N v0 H ∧ NetOk N ∧ rStr one v1 H ∧ rStr other v2 H ∧ rL rStr held v3 H ∧ AskOk N one other held ∧ Ret (rBool true) H Q
theorem use_holds {N : NetD} {one other : Str} {held : List Str} {d : Int} {v0 v1 v2 v3 v4 : V} {H : Hp} (h0 : rNet N v0 H) (ho : NetOk N) (h1 : rStr one v1 H) (h2 : rStr other v2 H) (h3 : rL rStr held v3 H) (h4 : rInt d v4 H) (ha : AskOk N one other held) : Gives spHolds [v0, v1, v2, v3, v4] H (rBool true) := fun Q k E => by
  have e : v4 = .int d := h4
  subst e
  exact ⟨N, one, other, held, d, v0, v1, v2, v3, rfl, h0, ho, h1, h2, h3, ha, k⟩
/-- a, b = e, e a list -/
theorem q_asgU {H0 : Hp} {σ : L2.St} {te : TE} {D : Ends} {tz : TS} {A B : VP} {i j : Nat} (h : Ew te σ H0 (rLP A B)) (k : ∀ x y H1, Ex H0 H1 → A x H1 → B y H1 → tz D ((σ.set i (some x)).set j (some y)) H1) : tSeq (tAsg te (gUnl K 2 (gCons (gName i) (gCons (gName j) gNil)))) tz D σ H0 :=
  h H0 (Ex.refl H0) _ fun v H1 e ⟨p, x, y, h1, h2, h3, h4⟩ => ⟨p, [x, y], h1, SqL.of h2, rfl, x, [y], rfl, y, [], rfl, rfl, k x y H1 e h3 h4⟩
theorem AskOk.ne {N : NetD} {one other : Str} {held : List Str} (h : AskOk N one other held) : one ≠ other := fun e => by
  have := h.nd
  rw [e] at this
  simp at this
theorem part_swap {N : NetD} (ho : NetOk N) {one other : Str} {held : List Str} (hne : one ≠ other) : partB N held other one = partB N held one other := by
  rw [Bool.eq_iff_iff, partB_iff, partB_iff, spot_swap ho.net hne]
theorem sc__law_holds : FnScope ["_law_net_here", "_law_one", "_law_other", "_law_held", "_law_way", "_law_truth", "_law_road_here"] ["_law_net_here", "_law_one", "_law_other", "_law_held", "_law_way"] (defScope (top 49)) := ⟨rfl, rfl, rfl, by decide +kernel, rfl, by decide +kernel, by decide +kernel⟩
theorem ok_holds (T : Txt K mg) : OkD P w K mg base 10 "_law_holds" ["_law_net_here", "_law_one", "_law_other", "_law_held", "_law_way"] spHolds := by
  have G__law_told := ok_told (P := P) (w := w) (base := base) T
  have G_are_parted := ok_are_parted (P := P) (w := w) (base := base) T
  have G__law_reached := ok_reached (P := P) (w := w) (base := base) T
  have G__law_open_told := ok_ltold (P := P) (w := w) (base := base) T
  refine T.d__law_holds.ok sc__law_holds (fun vs H Q E h => ?_) (fun cdv A outer s H vs Q E hr h => ?_)
  · obtain ⟨_, _, _, _, _, _, _, _, _, rfl, _⟩ := h
    rfl
  obtain ⟨N, one, other, held, d, v0, v1, v2, v3, rfl, h0, ho, h1, h2, h3, ha, q⟩ := h
  have hne := ha.ne
  refine ⟨_, (pss_cons (ps_asg (pe_callD G__law_told hr (pa_cons (pv 0) (pa_cons (pv 1) (pa_cons (pv 2) (pa_cons (pv 3) (pa_cons (pv 4) pa_nil)))))) (pg_unl (by rfl) (pgs_cons (pg_name (i := 5) sc__law_holds.nd rfl (Or.inl rfl)) (pgs_cons (pg_name (i := 6) sc__law_holds.nd rfl (Or.inl rfl)) pgs_nil))))
      (pss_cons (ps_if (PW.pt (pw_or (pt_not (pt_val (pe_callB (k_isi K) (by rfl) T.b_isinstance (by decide +kernel) (pa_cons (pv 5) (pa_cons (pe_bltn (v := .ty "bool") (by rfl) T.b_bool (by decide +kernel) rfl) pa_nil))))) (pw_or1 (pt_cmpR op_ne (pe_callD G_are_parted hr (pa_cons (pv 0) (pa_cons (pv 2) (pa_cons (pv 1) (pa_cons (pe_callTy (k_list K) (by rfl) T.b_list (by decide +kernel) (pa_cons (pv 3) pa_nil)) pa_nil))))) (pv 5) (nomark _)))))
      (pss_one (ps_ret pe_bl)) pss_nil)
      (pss_cons (ps_if (pt_cmpR op_ne (pe_callD G__law_reached hr (pa_cons (pv 0) (pa_cons (pv 1) (pa_cons (pv 2) (pa_cons (pv 3) pa_nil))))) (pe_not (pv 5)) (nomark _))
      (pss_one (ps_ret pe_bl)) pss_nil)
      (pss_cons (ps_if (pt_val (pv 5))
      (pss_one (ps_ret (pe_cmp (pc_isN (pv 6)) rfl))) pss_nil)
      (pss_one (ps_ret (pe_callD G__law_open_told hr (pa_cons (pv 0) (pa_cons (pv 6) (pa_cons (pv 1) (pa_cons (pv 2) (pa_cons (pv 3) pa_nil)))))))))))), ?_⟩
  refine q_asgU (ew_call5 (ew_var rfl h0) (ew_var rfl h1) (ew_var rfl h2) (ew_var rfl h3) (ew_var (P := rInt d) rfl rfl) fun x0 x1 x2 x3 x4 H2 e2 p0 p1 p2 p3 p4 => use_told p0 ho p1 p2 p3 p4 ha) fun v5 v6 H1 e1 h5 h6 => ?_
  replace h0 := Kp.kp e1 h0
  replace h1 := Kp.kp e1 h1
  replace h2 := Kp.kp e1 h2
  replace h3 := Kp.kp e1 h3
  refine q_when (b := false) (EvT.to (et_or (et_not (et_v (ew_isi (n := "bool") (b := true) (ew_var rfl h5) (fun v H1 h => ty_bl h) (by decide +kernel)))) fun _ => et_t (ew_neB (ew_call4 (ew_var rfl h0) (ew_var rfl h2) (ew_var rfl h1) (ewn_list (ew_var rfl h3)).ew fun x0 x1 x2 x3 H2 e2 p0 p1 p2 p3 => use_parted p0 ho p1 p2 p3 ha.swap) (ew_var rfl h5))) (by rw [part_swap ho hne]; simp)) (fun hb => by cases hb) fun _ H2 e2 => ?_
  replace h0 := Kp.kp e2 h0
  replace h1 := Kp.kp e2 h1
  replace h2 := Kp.kp e2 h2
  replace h3 := Kp.kp e2 h3
  replace h5 := Kp.kp e2 h5
  replace h6 := Kp.kp e2 h6
  refine q_when (b := false) (EvT.to (et_t (ew_neB (ew_call4 (ew_var rfl h0) (ew_var rfl h1) (ew_var rfl h2) (ew_var rfl h3) fun x0 x1 x2 x3 H2 e2 p0 p1 p2 p3 => use_reached p0 ho p1 p2 p3 ha) (ew_notV (ew_var rfl h5)))) (by simp)) (fun hb => by cases hb) fun _ H3 e3 => ?_
  replace h0 := Kp.kp e3 h0
  replace h1 := Kp.kp e3 h1
  replace h2 := Kp.kp e3 h2
  replace h3 := Kp.kp e3 h3
  replace h5 := Kp.kp e3 h5
  replace h6 := Kp.kp e3 h6
  have E3 := e1.trans (e2.trans e3)
  refine q_when (et_v (ew_var rfl h5)) (fun hb H4 e4 => ?_) (fun hb H4 e4 => ?_)
  · have hno := partB_iff.mp hb
    rcases Kp.kp e4 h6 with ⟨hv6, _⟩ | ⟨r, h1, h2, _⟩
    · refine w_ret (P := rBool true) (fun H5 e5 Q' q' => ⟨v6, rfl, q' _ _ (Ex.refl _) ?_⟩) fun v H5 e5 hv => q v H5 (E3.trans (e4.trans e5)) hv
      rw [hv6]
      rfl
    · exact absurd ((spot_iff ho.net hne).mpr ⟨r, h1, h2⟩) hno
  · have hsp : ∃ b, Spot N.2 held one other b := by
      have : ¬ partB N held one other = true := by rw [hb]; exact Bool.false_ne_true
      rw [partB_iff] at this
      exact Classical.not_not.mp this
    rcases Kp.kp e4 h6 with ⟨_, hn⟩ | ⟨r, hr1, hr2, hr3⟩
    · exact absurd ((spot_iff ho.net hne).mp hsp) hn
    · exact w_ret (ew_call5 (ew_var rfl (Kp.kp e4 h0)) (ew_var rfl hr3) (ew_var rfl (Kp.kp e4 h1)) (ew_var rfl (Kp.kp e4 h2)) (ew_var rfl (Kp.kp e4 h3)) fun x0 x1 x2 x3 x4 H2 e2 p0 p1 p2 p3 p4 => use_ltold p0 ho p1 p2 p3 p4 (ha.mem one (by simp)) hne hr1 hr2) fun v H5 e5 hv => q v H5 (E3.trans (e4.trans e5)) hv
end
end Am
/-! _law_asked. -/
namespace Am
open PySem PySem.Spec PyProof.Rows L2 Evl
theorem erase_perm {α : Type} : ∀ {ns : List α} {i : Nat} {x : α}, ns[i]? = some x → (x :: ns.eraseIdx i).Perm ns
  | a :: r, 0, x, h => by
    have e : a = x := by simpa using h
    subst e
    exact .refl _
  | a :: r, i + 1, x, h => by
    have ih := erase_perm (ns := r) (i := i) (x := x) (by simpa using h)
    exact (List.Perm.swap a x (r.eraseIdx i)).trans (ih.cons a)
/-- some of the names, by their places -/
def pick (ns : List Str) (f : Nat → Bool) : List Str := ((List.range ns.length).filter f).map fun k => ns.getD k Str.empty
theorem pick_sub {ns : List Str} {f : Nat → Bool} {x : Str} (h : x ∈ pick ns f) : x ∈ ns := by
  obtain ⟨k, hk, e⟩ := List.mem_map.mp h
  have hk' : k < ns.length := List.mem_range.mp (List.mem_filter.mp hk).1
  rw [List.getD_eq_getElem?_getD, List.getElem?_eq_getElem hk'] at e
  rw [← e]
  exact List.getElem_mem _
theorem pick_nd {ns : List Str} (nd : ns.Nodup) (f : Nat → Bool) : (pick ns f).Nodup := by
  refine List.pairwise_map.mpr (List.Pairwise.imp_of_mem ?_ (List.nodup_range.sublist List.filter_sublist))
  intro a b ha hb hab z
  have ha' : a < ns.length := List.mem_range.mp (List.mem_filter.mp ha).1
  have hb' : b < ns.length := List.mem_range.mp (List.mem_filter.mp hb).1
  have e1 : ns[a]? = some (ns.getD a Str.empty) := by
    rw [List.getD_eq_getElem?_getD, List.getElem?_eq_getElem ha']
    rfl
  have e2 : ns[b]? = some (ns.getD b Str.empty) := by
    rw [List.getD_eq_getElem?_getD, List.getElem?_eq_getElem hb']
    rfl
  rw [z] at e1
  exact hab (nd_at nd e1 e2)
theorem ask_of {N : NetD} (ho : NetOk N) {i j : Nat} {x y : Str} (hi : N.1[i]? = some x) (hj : (N.1.eraseIdx i)[j]? = some y) {held : List Str} (hs : ∀ z ∈ held, z ∈ (N.1.eraseIdx i).eraseIdx j) (hn : held.Nodup) : AskOk N x y held where
  mem := fun z hz => by
    have p1 := erase_perm hi
    have p2 := erase_perm hj
    rcases List.mem_cons.mp hz with e | hz
    · exact p1.mem_iff.mp (by simp [e])
    · refine p1.mem_iff.mp (List.mem_cons_of_mem _ (p2.mem_iff.mp ?_))
      rcases List.mem_cons.mp hz with e | hz
      · simp [e]
      · exact List.mem_cons_of_mem _ (hs z hz)
  nd := by
    have p1 := erase_perm hi
    have p2 := erase_perm hj
    have n1 := List.nodup_cons.mp (p1.nodup_iff.mpr ho.net.nd)
    have n2 := List.nodup_cons.mp (p2.nodup_iff.mpr n1.2)
    refine List.nodup_cons.mpr ⟨fun m => n1.1 (p2.mem_iff.mp ?_), List.nodup_cons.mpr ⟨fun m => n2.1 (hs y m), hn⟩⟩
    rcases List.mem_cons.mp m with e | m
    · simp [e]
    · exact List.mem_cons_of_mem _ (hs x m)
section
variable {P : Program} {w : World} {K : PySem.W.Frag} {mg : Str → Option Value} {base : Heap}
/-- a list of three -/
def rL3 (A B C : VP) : VP := fun v H => ∃ p x y z, v = .ref p ∧ H p = some (.lst [x, y, z]) ∧ A x H ∧ B y H ∧ C z H
instance {A B C : VP} [ka : Kp A] [kb : Kp B] [kc : Kp C] : Kp (rL3 A B C) := ⟨fun e ⟨p, x, y, z, h1, h2, h3, h4, h5⟩ => ⟨p, x, y, z, h1, e p _ h2, ka.kp e h3, kb.kp e h4, kc.kp e h5⟩⟩
/-- what is asked: two names, and some others -/
def rAsk (N : NetD) : VP := fun v H => ∃ one other held, AskOk N one other held ∧ rL3 (rStr one) (rStr other) (rL rStr held) v H
def spAsk : Sp := fun vs H Q _ => ∃ N, ∃ d : Int, ∃ v0, vs = [v0, .int d] ∧ rNet N v0 H ∧ NetOk N ∧ 2 ≤ N.1.length ∧ Ret (rAsk N) H Q
theorem use_ask {N : NetD} {d : Int} {v0 v1 : V} {H : Hp} (h0 : rNet N v0 H) (ho : NetOk N) (h2 : 2 ≤ N.1.length) (h1 : rInt d v1 H) : Gives spAsk [v0, v1] H (rAsk N) := fun Q k E => by
  have e : v1 = .int d := h1
  subst e
  exact ⟨N, d, v0, rfl, h0, ho, h2, k⟩
theorem modNat {d : Int} {n : Nat} (hn : 0 < n) : d % (n : Int) = ((d % (n : Int)).toNat : Int) ∧ (d % (n : Int)).toNat < n := by
  have h1 : 0 ≤ d % (n : Int) := Int.emod_nonneg _ (by omega)
  have h2 : d % (n : Int) < (n : Int) := Int.emod_lt_of_pos _ (by omega)
  omega
/-- xs.reverse() -/
theorem w_rev {σ : L2.St} {H : Hp} {ta : TE} {D : Ends} {l : Addr} {xs : List V} (hl : H l = some (.lst xs)) (ha : Ev ta σ H (.ref l)) (k : ∀ H1, Ex H H1 → D.nx σ (upd H1 l (.lst xs.reverse))) :
    tDrop (tBM0 K "list" rReverse ta) D σ H := ha H (Ex.refl H) _ fun H1 e1 =>
  ⟨Or.inl ⟨rfl, _, sq_of (e1 l _ hl)⟩, l, xs, rfl, rfl, e1 l _ hl, k H1 e1⟩
theorem sc__law_asked : FnScope ["_law_net_here", "_law_draw", "_law_names_here", "_law_one", "_law_other", "_law_held", "_law_k"] ["_law_net_here", "_law_draw"] (defScope (top 37)) := ⟨rfl, rfl, rfl, by decide +kernel, rfl, by decide +kernel, by decide +kernel⟩
theorem ok_asked (T : Txt K mg) : OkD P w K mg base 1 "_law_asked" ["_law_net_here", "_law_draw"] spAsk := by
  refine T.d__law_asked.ok sc__law_asked (fun vs H Q E h => ?_) (fun cdv A outer s H vs Q E hr h => ?_)
  · obtain ⟨_, _, _, rfl, _⟩ := h
    rfl
  obtain ⟨N, d, v0, rfl, h0, ho, h2, q⟩ := h
  have hN := ho.few
  refine ⟨_, (pss_cons (ps_set (i := 2) sc__law_asked.nd rfl (Or.inr rfl) (pe_callTy (k_list K) (by rfl) T.b_list (by decide +kernel) (pa_cons (pe_ix (kx_tup K) (pv 0) pe_int (fun _ _ => rfl)) pa_nil)))
      (pss_cons (ps_set (i := 3) sc__law_asked.nd rfl (Or.inl rfl) (pe_bm PySem.F.plainAttrs_list PySem.F.slot_list_pop PySem.F.type_list_pop mt_popAt (pv 2) (pa_cons (pe_op op_mod (pv 1) (pe_callB (k_len K) (by rfl) T.b_len PySem.boot_len (pa_cons (pv 2) pa_nil))) pa_nil)))
      (pss_cons (ps_set (i := 4) sc__law_asked.nd rfl (Or.inl rfl) (pe_bm PySem.F.plainAttrs_list PySem.F.slot_list_pop PySem.F.type_list_pop mt_popAt (pv 2) (pa_cons (pe_op op_mod (pe_op op_fdivW (pv 1) pe_int) (pe_callB (k_len K) (by rfl) T.b_len PySem.boot_len (pa_cons (pv 2) pa_nil))) pa_nil)))
      (pss_cons (ps_setLc (i := 5) (own := [("_law_k", 6)]) rfl sc__law_asked.nd rfl rfl (sw_true rfl rfl rfl (by decide +kernel)) (pi_range1 (by rfl) T.b_range (pa_cons (pe_callB (k_len K) (by rfl) T.b_len PySem.boot_len (pa_cons (pv 2) pa_nil)) pa_nil)) (blkOk_by (own := [("_law_k", 6)]) (N := ["_law_net_here", "_law_draw", "_law_names_here", "_law_one", "_law_other", "_law_held", "_law_k"]) (sc := defScope (top 37)) (by decide +kernel)) (fun _ _ _ _ _ => (pg_name (i := 6) sc__law_asked.nd rfl (Or.inl rfl))) (fun _ _ _ _ _ => (pts_one (pt_cmpR op_eq (pe_op op_mod (pe_op op_fdivW (pv 1) (pe_op op_shl pe_int (pv 6))) pe_int) pe_int (nomark _)))) (fun _ _ _ _ _ => (pe_ix (kx_list K) (pv 2) (pv 6) (fun _ _ => rfl))))
      (pss_cons (ps_if (pt_cmpR op_eq (pe_op op_mod (pe_op op_fdivW (pv 1) pe_int) pe_int) pe_int (nomark _))
      (pss_one (ps_expr (pe_bm0 PySem.F.plainAttrs_list PySem.F.slot_list_reverse PySem.F.type_list_reverse mt_reverse (pv 5)))) pss_nil)
      (pss_one (ps_ret (pe_lst (pa_cons (pv 3) (pa_cons (pv 4) (pa_cons (pv 5) pa_nil))))))))))), ?_⟩
  refine q_asgN (ewn_listT (ew_p0 (ew_var rfl h0))) fun l H1 nl e1 hl => ?_
  obtain ⟨l', xs, el, hl, hal⟩ := hl
  cases el
  obtain ⟨m1, m2⟩ := modNat (d := d) (n := N.1.length) (by omega)
  obtain ⟨one, g1⟩ : ∃ x, N.1[(d % (N.1.length : Int)).toNat]? = some x := ⟨_, List.getElem?_eq_getElem m2⟩
  obtain ⟨v3, hv3, r3⟩ := hal.get g1
  have xl : xs.length = N.1.length := hal.len.symm
  refine q_popAt (j := (d % (N.1.length : Int)).toNat) hl hv3 (by omega) (ev_var rfl) (Ew.toI (ew_I (ew_var (P := rInt d) rfl rfl) (ew_lenL (as := N.1) (ew_var rfl ⟨l, xs, rfl, hl, hal⟩)) (by omega)) m1) fun H2 e2 => ?_
  have hal2 : Al rStr (N.1.eraseIdx (d % (N.1.length : Int)).toNat) (xs.eraseIdx (d % (N.1.length : Int)).toNat) H2 := (hal.eraseIdx _).fl
  generalize (d % (N.1.length : Int)).toNat = i at *
  have l1 : (N.1.eraseIdx i).length = N.1.length - 1 := List.length_eraseIdx_of_lt m2
  obtain ⟨m3, m4⟩ := modNat (d := d / 8) (n := (N.1.eraseIdx i).length) (by omega)
  obtain ⟨other, g2⟩ : ∃ x, (N.1.eraseIdx i)[(d / 8 % ((N.1.eraseIdx i).length : Int)).toNat]? = some x := ⟨_, List.getElem?_eq_getElem m4⟩
  obtain ⟨v4, hv4, r4⟩ := hal2.get g2
  refine q_popAt (j := (d / 8 % ((N.1.eraseIdx i).length : Int)).toNat) upd_same hv4 (by rw [← hal2.len]; omega) (ev_var rfl) (Ew.toI (ew_I (ew_I (ew_var (P := rInt d) rfl rfl) ew_i ⟨by decide, by decide +kernel⟩) (ew_lenL (as := N.1.eraseIdx i) (ew_var rfl ⟨l, _, rfl, upd_same, hal2.fl⟩)) (by omega)) m3) fun H3 e3 => ?_
  have hal3 : Al rStr ((N.1.eraseIdx i).eraseIdx (d / 8 % ((N.1.eraseIdx i).length : Int)).toNat) ((xs.eraseIdx i).eraseIdx (d / 8 % ((N.1.eraseIdx i).length : Int)).toNat) H3 := (hal2.eraseIdx _).fl
  generalize (d / 8 % ((N.1.eraseIdx i).length : Int)).toNat = j at *
  have l2 : ((N.1.eraseIdx i).eraseIdx j).length = (N.1.eraseIdx i).length - 1 := List.length_eraseIdx_of_lt m4
  have E3 : Ex H (upd H3 l (.lst ((xs.eraseIdx i).eraseIdx j))) := Ex.mut (((Ex.mut (e1.trans e2) nl)).trans e3) nl
  have hls : ∀ {H5 : Hp}, Ex (upd H3 l (.lst ((xs.eraseIdx i).eraseIdx j))) H5 → rL rStr ((N.1.eraseIdx i).eraseIdx j) (.ref l) H5 := fun e => ⟨l, _, rfl, e l _ upd_same, hal3.fl⟩
  refine q_asgN ((ewn_lcR1 (S := rStr) (n := ((N.1.eraseIdx i).eraseIdx j).length) (fun k => decide (d / (128 * 2 ^ ((k : Int)).toNat) % 2 = 1)) (fun k => ((N.1.eraseIdx i).eraseIdx j).getD k Str.empty) (ew_lenL (ew_var rfl (hls (Ex.refl _)))) (by omega) (fun x => rfl) (fun k hk H4 e4 => ?_) (fun k hk hf H4 e4 => ?_))) fun p H4 np e4 hp => ?_
  · have eK : ∀ {σ' : L2.St}, σ'[6]? = some (some (.int (k : Int))) → Ew (tVar 6) σ' H4 (rInt (k : Int)) := fun h => ew_var h rfl
    refine et_t (ew_eqI (ew_I (ew_I (ew_var (P := rInt d) rfl rfl) (ew_I ew_i (eK rfl) ⟨by omega, by omega, by decide⟩) ?_) ew_i (by decide)) ew_i)
    have hk4 : k = 0 ∨ k = 1 ∨ k = 2 ∨ k = 3 := by omega
    rcases hk4 with rfl | rfl | rfl | rfl <;> exact ⟨by decide, by decide +kernel⟩
  · exact ew_ixL (ew_var rfl (hls e4)) (ew_var (P := rInt (k : Int)) rfl rfl) (by
      rw [atI_of (j := k) (a := ((N.1.eraseIdx i).eraseIdx j).getD k Str.empty)]
      rw [List.getD_eq_getElem?_getD, List.getElem?_eq_getElem hk]
      rfl)
  replace hp : rL rStr (pick ((N.1.eraseIdx i).eraseIdx j) fun k => decide (d / (128 * 2 ^ ((k : Int)).toNat) % 2 = 1)) (.ref p) H4 := hp
  have n1 := (List.nodup_cons.mp ((erase_perm g1).nodup_iff.mpr ho.net.nd)).2
  have n2 := (List.nodup_cons.mp ((erase_perm g2).nodup_iff.mpr n1)).2
  have hsub : ∀ z ∈ pick ((N.1.eraseIdx i).eraseIdx j) fun k => decide (d / (128 * 2 ^ ((k : Int)).toNat) % 2 = 1), z ∈ (N.1.eraseIdx i).eraseIdx j := fun z hz => pick_sub hz
  have hnd : (pick ((N.1.eraseIdx i).eraseIdx j) fun k => decide (d / (128 * 2 ^ ((k : Int)).toNat) % 2 = 1)).Nodup := pick_nd n2 _
  generalize (pick ((N.1.eraseIdx i).eraseIdx j) fun k => decide (d / (128 * 2 ^ ((k : Int)).toNat) % 2 = 1)) = held at *
  have E4 := E3.trans e4
  have npH : H p = none := fresh_back E3 np
  have fin : ∀ {H5 : Hp} {hh : List Str}, Ex H H5 → rL rStr hh (.ref p) H5 → (∀ z ∈ hh, z ∈ (N.1.eraseIdx i).eraseIdx j) → hh.Nodup → tRet (tLst (tCons (tVar 3) (tCons (tVar 4) (tCons (tVar 5) tNil)))) { nx := fun x H' => Q V.non H', rt := Q } [some v0, some (.int d), some (.ref l), some v3, some v4, some (.ref p), none] H5 := fun {H5 hh} e5 h5 hs hn => by
    refine w_ret (P := rAsk N) (fun H6 e6 Q' q' => ⟨_, rfl, _, rfl, _, rfl, by show 3 ≤ sizeLine; decide, fun a ha => q' _ _ (Ex.new ha) ⟨one, other, hh, ask_of ho g1 g2 hs hn, a, v3, v4, .ref p, rfl, upd_same, Fl.fl r3, Fl.fl r4, Kp.kp (e6.trans (Ex.new ha)) h5⟩⟩) fun v H6 e6 hv => q v H6 (e5.trans e6) hv
  obtain ⟨p', ys, ep, g5, al5⟩ := hp
  cases ep
  refine q_when (et_t (ew_eqI (ew_I (ew_I (ew_var (P := rInt d) rfl rfl) ew_i ⟨by decide, by decide +kernel⟩) ew_i (by decide)) ew_i)) (fun hb H5 e5 => ?_) (fun hb H5 e5 => ?_)
  · refine w_rev (l := p) (xs := ys) (e5 p _ g5) (ev_var rfl) fun H6 e6 => ?_
    exact fin (Ex.mut (E4.trans (e5.trans e6)) npH) ⟨p, ys.reverse, rfl, upd_same, (Al.reverse al5).fl⟩ (fun z hz => hsub z (List.mem_reverse.mp hz)) ((List.reverse_perm held).nodup_iff.mpr hnd)
  · exact fin (E4.trans e5) ⟨p, ys, rfl, e5 p _ g5, al5.fl⟩ hsub hnd
end
end Am
/-! _law_question. -/
namespace Am
open PySem PySem.Spec PyProof.Rows L2 Evl
theorem openB_iff' {ar : List (Str × Str)} {held r : List Str} : openB ar held r = true ↔ Open ar held r := by
  unfold openB
  exact @decide_eq_true_iff _ (Classical.propDecidable _)
theorem part_roads {N : NetD} (ho : NetOk N) {one other : Str} (hne : one ≠ other) {held : List Str} {E : List (List Str)} (hE : ∀ r, r ∈ E ↔ Road N.2 one other r) : partB N held one other = !decide (true ∈ E.map (openB N.2 held)) := by
  rw [Bool.eq_iff_iff, partB_iff, Bool.not_eq_true', decide_eq_false_iff_not, spot_iff ho.net hne]
  refine not_congr ⟨fun ⟨r, h1, h2⟩ => List.mem_map.mpr ⟨r, (hE r).mpr h1, openB_iff'.mpr h2⟩, fun h => ?_⟩
  obtain ⟨r, h1, h2⟩ := List.mem_map.mp h
  exact ⟨r, (hE r).mp h1, openB_iff'.mp h2⟩
def restL (N : NetD) (one other : Str) : List Str := N.1.filter fun x => (!decide (x = one)) && !decide (x = other)
theorem AskOk.rest {N : NetD} (ho : NetOk N) {one other : Str} {held : List Str} (h : AskOk N one other held) : AskOk N one other (restL N one other) where
  mem := fun x hx => by
    rcases List.mem_cons.mp hx with e | hx
    · exact e ▸ h.mem one (by simp)
    rcases List.mem_cons.mp hx with e | hx
    · exact e ▸ h.mem other (by simp)
    · exact (List.mem_filter.mp hx).1
  nd := by
    refine List.nodup_cons.mpr ⟨fun m => ?_, List.nodup_cons.mpr ⟨fun m => ?_, ho.net.nd.sublist List.filter_sublist⟩⟩
    · rcases List.mem_cons.mp m with e | m
      · exact h.ne e
      · have := (List.mem_filter.mp m).2
        simp at this
    · have := (List.mem_filter.mp m).2
      simp at this
theorem AskOk.none {N : NetD} {one other : Str} {held : List Str} (h : AskOk N one other held) : AskOk N one other [] where
  mem := fun x hx => h.mem x (by
    simp at hx ⊢
    rcases hx with e | e
    · exact .inl e
    · exact .inr (.inl e))
  nd := by
    have := h.ne
    simp [this]
section
variable {P : Program} {w : World} {K : PySem.W.Frag} {mg : Str → Option Value} {base : Heap}
theorem rL_ap {as : List (List Str)} {v : V} {H : Hp} {ps : List Addr} (h : rL (rL rStr) as v H) (hn : ∀ p ∈ ps, H p = none) : rL (rAp ps (rL rStr)) as v H := by
  obtain ⟨p, xs, e, h1, h2⟩ := h
  refine ⟨p, xs, e, h1, Paired.mapP h2 fun r v hr => ⟨hr, fun a ha z => ?_⟩⟩
  obtain ⟨b, _, eb, hb, _⟩ := hr
  subst z
  cases eb
  rw [hn a ha] at hb
  cases hb
/-- a, b, c = e, e a list: what is asked -/
theorem q_asgAsk {N : NetD} {H0 : Hp} {σ : L2.St} {te : TE} {D : Ends} {tz : TS} {i j m : Nat} (h : Ew te σ H0 (rAsk N)) (k : ∀ one other held x y z H1, Ex H0 H1 → AskOk N one other held → rStr one x H1 → rStr other y H1 → rL rStr held z H1 → tz D (((σ.set i (some x)).set j (some y)).set m (some z)) H1) :
    tSeq (tAsg te (gUnl K 3 (gCons (gName i) (gCons (gName j) (gCons (gName m) gNil))))) tz D σ H0 :=
  h H0 (Ex.refl H0) _ fun v H1 e ⟨one, other, held, ha, p, x, y, z, h1, h2, h3, h4, h5⟩ => ⟨p, [x, y, z], h1, SqL.of h2, rfl, x, [y, z], rfl, y, [z], rfl, z, [], rfl, rfl, k one other held x y z H1 e ha h3 h4 h5⟩
theorem ewn_lst3 {α : Type} {R : Rep α} {σ : L2.St} {H : Hp} {ta tb tc : TE} [k : ∀ a, Kp (R a)] {a b c : α} (ha : Ew ta σ H (R a)) (hb : Ew tb σ H (R b)) (hc : Ew tc σ H (R c)) : Ewn (tLst (tCons ta (tCons tb (tCons tc tNil)))) σ H (rL R [a, b, c]) := fun H1 e Q q =>
  ewa_cons ha (ewa_cons hb (ewa_cons hc ewa_nil)) H1 e _ fun vs H2 e2 ⟨x, r, h1, hx, y, r2, h2, hy, z, r3, h3, hz, h4⟩ => by
    have h4' : r3 = [] := h4
    subst h1 h2 h3 h4'
    exact ⟨by show 3 ≤ sizeLine; decide, fun p hp => q p _ (fresh_back e2 hp) (e2.trans (Ex.new hp)) ⟨p, [x, y, z], rfl, upd_same, .cons ((k a).kp (Ex.new hp) hx) (.cons ((k b).kp (Ex.new hp) hy) (.cons ((k c).kp (Ex.new hp) hz) .nil))⟩⟩
def spQuest : Sp := fun vs H Q _ => ∃ N, ∃ d : Int, ∃ v0, vs = [v0, .int d] ∧ rNet N v0 H ∧ NetOk N ∧ 2 ≤ N.1.length ∧ Ret (rBool true) H Q
theorem use_quest {N : NetD} {d : Int} {v0 v1 : V} {H : Hp} (h0 : rNet N v0 H) (ho : NetOk N) (h2 : 2 ≤ N.1.length) (h1 : rInt d v1 H) : Gives spQuest [v0, v1] H (rBool true) := fun Q k E => by
  have e : v1 = .int d := h1
  subst e
  exact ⟨N, d, v0, rfl, h0, ho, h2, k⟩
theorem sc__law_question : FnScope ["_law_net_here", "_law_draw", "_law_one", "_law_other", "_law_held", "_law_every", "_law_rest", "_law_some", "_law_truths", "_law_road_here", "_law_found", "_law_name"] ["_law_net_here", "_law_draw"] (defScope (top 50)) := ⟨rfl, rfl, rfl, by decide +kernel, rfl, by decide +kernel, by decide +kernel⟩
theorem ok_question (T : Txt K mg) : OkD P w K mg base 11 "_law_question" ["_law_net_here", "_law_draw"] spQuest := by
  have G__law_asked := ok_asked (P := P) (w := w) (base := base) T
  have G__law_roads := ok_lroads (P := P) (w := w) (base := base) T
  have G_all_roads := ok_all_roads (P := P) (w := w) (base := base) T
  have G__law_is_open := ok_lis_open (P := P) (w := w) (base := base) T
  have G_is_open := ok_is_open (P := P) (w := w) (base := base) T
  have G__law_holds := ok_holds (P := P) (w := w) (base := base) T
  have G_are_parted := ok_are_parted (P := P) (w := w) (base := base) T
  refine T.d__law_question.ok sc__law_question (fun vs H Q E h => ?_) (fun cdv A outer s H vs Q E hr h => ?_)
  · obtain ⟨_, _, _, rfl, _⟩ := h
    rfl
  obtain ⟨N, dd, v0, rfl, h0, ho, hl2, q⟩ := h
  have hN := ho.few
  refine ⟨_, (pss_cons (ps_asg (pe_callD G__law_asked hr (pa_cons (pv 0) (pa_cons (pv 1) pa_nil))) (pg_unl (by rfl) (pgs_cons (pg_name (i := 2) sc__law_question.nd rfl (Or.inr rfl)) (pgs_cons (pg_name (i := 3) sc__law_question.nd rfl (Or.inr rfl)) (pgs_cons (pg_name (i := 4) sc__law_question.nd rfl (Or.inl rfl)) pgs_nil)))))
      (pss_cons (ps_set (i := 5) sc__law_question.nd rfl (Or.inl rfl) (pe_callD G__law_roads hr (pa_cons (pv 0) (pa_cons (pv 2) (pa_cons (pv 3) pa_nil)))))
      (pss_cons (ps_if (pt_cmpR op_ne (pe_callB (k_len K) (by rfl) T.b_len PySem.boot_len (pa_cons (pe_callD G_all_roads hr (pa_cons (pv 0) (pa_cons (pv 2) (pa_cons (pv 3) pa_nil)))) pa_nil)) (pe_callB (k_len K) (by rfl) T.b_len PySem.boot_len (pa_cons (pv 5) pa_nil)) (nomark _))
      (pss_one (ps_ret pe_bl)) pss_nil)
      (pss_cons (ps_setLc (i := 6) (own := [("_law_name", 11)]) rfl sc__law_question.nd rfl rfl (sw_true rfl rfl rfl (by decide +kernel)) (kp_tup K (pe_ix (kx_tup K) (pv 0) pe_int (fun _ _ => rfl))) (blkOk_by (own := [("_law_name", 11)]) (N := ["_law_net_here", "_law_draw", "_law_one", "_law_other", "_law_held", "_law_every", "_law_rest", "_law_some", "_law_truths", "_law_road_here", "_law_found", "_law_name"]) (sc := defScope (top 50)) (by decide +kernel)) (fun _ _ _ _ _ => (pg_name (i := 11) sc__law_question.nd rfl (Or.inl rfl))) (fun _ _ _ _ _ => (pts_one (PW.pt (pw_and (pt_cmpR op_ne (pv 11) (pv 2) (nomark _)) (pw_and1 (pt_cmpR op_ne (pv 11) (pv 3) (nomark _))))))) (fun _ _ _ _ _ => (pv 11)))
      (pss_cons (ps_for PassesOwn.never rfl (kp_list K (pe_lst (pa_cons (pv 4) (pa_cons (pe_lst pa_nil) (pa_cons (pv 6) pa_nil))))) (pg_name (i := 7) sc__law_question.nd rfl (Or.inl rfl))
      (pss_cons (ps_set (i := 8) sc__law_question.nd rfl (Or.inl rfl) (pe_lst pa_nil))
      (pss_cons (ps_for PassesOwn.never rfl (kp_list K (pv 5)) (pg_name (i := 9) sc__law_question.nd rfl (Or.inl rfl))
      (pss_cons (ps_expr (pe_bm PySem.F.plainAttrs_list PySem.F.slot_list_append PySem.F.type_list_append mt_append (pv 8) (pa_cons (pe_callD G__law_is_open hr (pa_cons (pv 0) (pa_cons (pv 9) (pa_cons (pv 7) pa_nil)))) pa_nil)))
      (pss_cons (ps_set (i := 10) sc__law_question.nd rfl (Or.inl rfl) (pe_callD G_is_open hr (pa_cons (pv 0) (pa_cons (pe_callTy (k_list K) (by rfl) T.b_list (by decide +kernel) (pa_cons (pv 9) pa_nil)) (pa_cons (pe_callTy (k_list K) (by rfl) T.b_list (by decide +kernel) (pa_cons (pv 7) pa_nil)) pa_nil)))))
      (pss_one (ps_if (PW.pt (pw_or (pt_not (pt_val (pe_callB (k_isi K) (by rfl) T.b_isinstance (by decide +kernel) (pa_cons (pv 10) (pa_cons (pe_bltn (v := .ty "bool") (by rfl) T.b_bool (by decide +kernel) rfl) pa_nil))))) (pw_or1 (pt_cmpR op_ne (pv 10) (pe_ix (kx_list K) (pv 8) (pe_un un_neg pe_int) (fun _ _ => rfl)) (nomark _)))))
      (pss_one (ps_ret pe_bl)) pss_nil)))))
      (pss_cons (ps_if (pt_not (pt_val (pe_callD G__law_holds hr (pa_cons (pv 0) (pa_cons (pv 2) (pa_cons (pv 3) (pa_cons (pv 7) (pa_cons (pv 1) pa_nil))))))))
      (pss_one (ps_ret pe_bl)) pss_nil)
      (pss_one (ps_if (pt_cmpR op_ne (pe_callD G_are_parted hr (pa_cons (pv 0) (pa_cons (pv 2) (pa_cons (pv 3) (pa_cons (pe_callTy (k_list K) (by rfl) T.b_list (by decide +kernel) (pa_cons (pv 7) pa_nil)) pa_nil))))) (pe_cmpR (k_notIn K) pe_bl (pv 8) (by rfl)) (nomark _))
      (pss_one (ps_ret pe_bl)) pss_nil))))))
      (pss_one (ps_ret pe_bl))))))), ?_⟩
  refine q_asgAsk (ew_call2 (ew_var rfl h0) (ew_var (P := rInt dd) rfl rfl) fun x0 x1 H1 e1 p0 p1 => use_ask p0 ho hl2 p1) fun one other held v2 v3 v4 H1 e1 ha h2 h3 h4 => ?_
  have hne := ha.ne
  have m1 := ha.mem one (by simp)
  have m2 := ha.mem other (by simp)
  replace h0 := Kp.kp e1 h0
  obtain ⟨sn1, sn2⟩ := same_number ho.net (nr := nearL N) (fun x y => mem_nearL) (fun x => ho.net.nd.sublist List.filter_sublist) hne m1 m2 (n := 6) hN
  have bl := (byLen_le (N := N) hN one other N.1.length hN).2
  refine q_asgW (ew_call3 (ew_var rfl h0) (ew_var rfl h2) (ew_var rfl h3) fun x0 x1 x2 H2 e2 p0 p1 p2 => use_lroads p0 ho p1 p2 m1 m2 hne) fun v5 H2 e2 h5 => ?_
  replace h0 := Kp.kp e2 h0
  replace h2 := Kp.kp e2 h2
  replace h3 := Kp.kp e2 h3
  replace h4 := Kp.kp e2 h4
  refine q_when (b := false) (EvT.to (et_t (ew_neI (ew_lenL (ew_call3 (ew_var rfl h0) (ew_var rfl h2) (ew_var rfl h3) fun x0 x1 x2 H2 e2 p0 p1 p2 => use_all_roads p0 ho p1 p2 m1 m2 hne)) (ew_lenL (ew_var rfl h5)))) (by rw [sn1]; simp)) (fun hb => by cases hb) fun _ H3 e3 => ?_
  generalize (byLen N.1 N.2 one other N.1.length).1 = E5 at *
  replace h0 := Kp.kp e3 h0
  replace h2 := Kp.kp e3 h2
  replace h3 := Kp.kp e3 h3
  replace h4 := Kp.kp e3 h4
  replace h5 := Kp.kp e3 h5
  refine q_asgN (ewn_lcT (S := rStr) (R := rStr) (T := sN 11 rStr) (fun x => (!decide (x = one)) && !decide (x = other)) (fun x => x) tgN (ew_p0 (ew_var rfl h0)) (by omega) (fun a σ' H' hT => ?_) (fun a ha σ' H3 e3 hT => ?_) (fun a ha hf σ' H3 e3 hT => ?_)) fun p6 H4 n6 e4 h6 => ?_
  · obtain ⟨y, hy, rfl⟩ := hT
    rfl
  · obtain ⟨y, hy, rfl⟩ := hT
    exact et_and (et_t (ew_neS (ew_var rfl hy) (ew_vF (P := rStr one) rfl h2))) fun _ => et_t (ew_neS (ew_var rfl hy) (ew_vF (P := rStr other) rfl h3))
  · obtain ⟨y, hy, rfl⟩ := hT
    exact ew_var rfl hy
  rw [List.map_id'] at h6
  replace h6 : rL rStr (restL N one other) (.ref p6) H4 := h6
  replace h0 := Kp.kp e4 h0
  replace h2 := Kp.kp e4 h2
  replace h3 := Kp.kp e4 h3
  replace h4 := Kp.kp e4 h4
  replace h5 := Kp.kp e4 h5
  have E4 := ((e1.trans e2).trans e3).trans e4
  refine q_forLW (R := rL rStr) (as := [held, [], restL N one other]) tgN (ewn_lst3 (ew_var rfl h4) ewn_lst0.ew (ew_var rfl h6)).ew fun vL H5 e5 hL => ⟨H5, fun d t σ' H' => Ex H5 H' ∧ ∃ y7 y8 y9 y10, σ' = [some v0, some (.int dd), some v2, some v3, some v4, some v5, some (.ref p6), y7, y8, y9, y10, none], hL, ⟨Ex.refl _, _, _, _, _, rfl⟩, fun d t σ' H' w => w.1, fun d sm t σ' σ2 H' ed hw hT => ?_, fun σ' H' hw => ?_⟩
  · obtain ⟨e6, y7, y8, y9, y10, rfl⟩ := hw
    obtain ⟨v7, h7, rfl⟩ := hT
    have hs : AskOk N one other sm := by
      have : sm ∈ [held, [], restL N one other] := by rw [← ed]; simp
      rcases List.mem_cons.mp this with e | m
      · exact e ▸ ha
      rcases List.mem_cons.mp m with e | m
      · exact e ▸ ha.none
      · have e : sm = restL N one other := by simpa using m
        exact e ▸ ha.rest ho
    have E6 := e5.trans e6
    replace h0 := Kp.kp E6 h0
    replace h2 := Kp.kp E6 h2
    replace h3 := Kp.kp E6 h3
    replace h5 := Kp.kp E6 h5
    refine q_asgN (ewn_lst0 (R := rBool)) fun l H7 nl e7 hl => ?_
    obtain ⟨l', xs0, el, hl, hx0⟩ := hl
    cases el
    cases hx0
    have hin : ∀ a ∈ [l], H' a = none := by simpa using nl
    refine q_forLv (R := rAp [l] (rL rStr)) (as := E5) (Hs := H') tgN (ev_var rfl) (rL_ap h5 hin) (fun d t σ' H8 => ∃ xs y9 y10, σ' = [some v0, some (.int dd), some v2, some v3, some v4, some v5, some (.ref p6), some v7, some (.ref l), y9, y10, none] ∧ Ex H' (hds [l] H8) ∧ H8 l = some (.lst xs) ∧ Al rBool (d.map (openB N.2 sm)) xs H8)
      (fun H8 e8 => ⟨[], _, _, rfl, ex_hds (e7.trans e8) hin, e8 l _ hl, .nil⟩) (fun d t σ' H' hw => ?_) (fun d r t σ' σ2 H8 ed hw hT => ?_) fun σ' H8 hw => ?_
    · obtain ⟨_, _, _, _, h, _⟩ := hw
      exact h.trans hds_ex
    · obtain ⟨xs, y9, y10, rfl, B, hl8, hal⟩ := hw
      obtain ⟨c, hc, rfl⟩ := hT
      have hr : Road N.2 one other r := (sn2 r).mp (by rw [← ed]; simp)
      have hrm : ∀ x ∈ r, x ∈ N.1 := chain_in ho.net hr.ch fun a ha' => by
        rw [hr.hd] at ha'
        cases ha'
        exact m1
      have hrl := road_short ho.net m1 hr
      have dl : d.length < E5.length := by rw [← ed]; simp
      have E8 := B.trans hds_ex
      refine q_app' hl8 (ev_var rfl) (ew_call3 (ew_var rfl (Kp.kp E8 h0)) (ew_var rfl hc.1) (ew_var rfl (Kp.kp E8 h7)) fun x0 x1 x2 H2 e2 p0 p1 p2 => use_lis_open p0 ho p1 hrm (by omega) p2) (by rw [← hal.len, List.length_map]; omega) fun vb H9 e9 hb => ?_
      have st : Stp [l] H8 (upd H9 l (.lst (xs ++ [vb]))) := (stp_ex e9).trans (stp_upd (by simp))
      have B9 := B.trans st
      have E9 := B9.trans hds_ex
      have hc9 : rL rStr r c (upd H9 l (.lst (xs ++ [vb]))) := Kp.kp (st.trans hds_ex) (sh1_hds hc.1 hc.2)
      have al9 : ∀ {H : Hp}, Al rBool (d.map (openB N.2 sm) ++ [openB N.2 sm r]) (xs ++ [vb]) H := fun {H} => (Al.fl hal).snoc (Fl.fl hb)
      refine q_asgW (ew_call3 (ew_var rfl (Kp.kp E9 h0)) (ewn_list (ew_var rfl hc9)).ew (ewn_list (ew_var rfl (Kp.kp E9 h7))).ew fun x0 x1 x2 H2 e2 p0 p1 p2 => use_is_open p0 ho p1 hr.nd hr.hd hr.ls hrm p2 hs) fun v10 Ha ea h10 => ?_
      have hT : rL rBool (d.map (openB N.2 sm) ++ [openB N.2 sm r]) (.ref l) Ha := ⟨l, _, rfl, ea l _ upd_same, al9⟩
      refine s_when (b := false) (EvT.to (et_or (et_not (et_v (ew_isi (n := "bool") (b := true) (ew_var rfl h10) (fun v H1 h => ty_bl h) (by decide +kernel)))) fun _ => et_t (ew_neB (ew_var rfl h10) (ew_ixL (ew_var rfl hT) (ew_neg ew_i) (atI_last (a := openB N.2 sm r) (by simp))))) (by simp)) (fun hb => by cases hb) fun _ Hb eb => ?_
      refine ⟨xs ++ [vb], _, _, rfl, B9.trans (stp_ex (ea.trans eb)), (ea.trans eb) l _ upd_same, ?_⟩
      rw [List.map_append]
      exact al9
    · obtain ⟨xs, y9, y10, rfl, B, hl8, hal⟩ := hw
      have E8 := B.trans hds_ex
      refine q_when (b := false) (EvT.to (et_not (et_v (ew_call5 (ew_var rfl (Kp.kp E8 h0)) (ew_var rfl (Kp.kp E8 h2)) (ew_var rfl (Kp.kp E8 h3)) (ew_var rfl (Kp.kp E8 h7)) (ew_var (P := rInt dd) rfl rfl) fun x0 x1 x2 x3 x4 H2 e2 p0 p1 p2 p3 p4 => use_holds p0 ho p1 p2 p3 p4 hs))) rfl) (fun hb => by cases hb) fun _ H9 e9 => ?_
      have E9 := E8.trans e9
      refine s_when (b := false) (EvT.to (et_t (ew_neB (ew_call4 (ew_var rfl (Kp.kp E9 h0)) (ew_var rfl (Kp.kp E9 h2)) (ew_var rfl (Kp.kp E9 h3)) (ewn_list (ew_var rfl (Kp.kp E9 h7))).ew fun x0 x1 x2 x3 H2 e2 p0 p1 p2 p3 => use_parted p0 ho p1 p2 p3 hs) (ew_niLb ew_b (ew_var (P := rL rBool (E5.map (openB N.2 sm))) rfl ⟨l, xs, rfl, e9 l _ hl8, Al.fl hal⟩)))) (by rw [part_roads ho hne sn2]; simp)) (fun hb => by cases hb) fun _ Ha ea => ?_
      exact ⟨e6.trans (E9.trans ea), _, _, _, _, rfl⟩
  · obtain ⟨e6, y7, y8, y9, y10, rfl⟩ := hw
    exact w_ret (ew_b (b := true)) fun v H6 e7 hv => q v H6 (E4.trans (e5.trans (e6.trans e7))) hv
end
end Am
/-! _law_ranks. -/
namespace Am
open PySem PySem.Spec PyProof.Rows L2 Evl
section
variable {P : Program} {w : World} {K : PySem.W.Frag} {mg : Str → Option Value} {base : Heap}
/-- xs.append(ys.pop(j)) -/
theorem w_appPop {σ : L2.St} {H : Hp} {ta tb ti : TE} {D : Ends} {l p : Addr} {xs ys : List V} {y : V} {j : Nat} (hl : H l = some (.lst xs)) (hp : H p = some (.lst ys)) (hj : ys[j]? = some y) (npl : l ≠ p) (ha : Ev ta σ H (.ref l)) (hb : Ev tb σ H (.ref p)) (hi : Ew ti σ H (rInt (j : Int))) (hz : xs.length < 100000) (hz2 : ys.length < 100000)
    (k : ∀ H1, Ex H H1 → D.nx σ (upd (upd H1 p (.lst (ys.eraseIdx j))) l (.lst (xs ++ [y])))) : tDrop (tBM K "list" rAppend ta (tCons (tBM K "list" rPopAt tb (tCons ti tNil)) tNil)) D σ H := ha H (Ex.refl H) _ fun H1 e1 =>
  ⟨Or.inl ⟨rfl, xs, sq_of (e1 l _ hl)⟩, hb H1 e1 _ fun H2 e2 => ⟨Or.inl ⟨rfl, ys, sq_of ((e1.trans e2) p _ hp)⟩, ev_int hi H2 (e1.trans e2) _ fun H3 e3 => by
    have hlt : j < ys.length := (List.getElem?_eq_some_iff.mp hj).1
    have e := (e1.trans e2).trans e3
    refine ⟨p, ys, (j : Int), j, y, rfl, rfl, e p _ hp, by omega, by omega, ?_, hj, l, xs, y, rfl, rfl, by rw [upd_ne npl]; exact e l _ hl, sz_lt6 (by omega), k H3 e⟩
    rw [seqIndex_of (by omega) (by omega), Int.toNat_natCast]⟩⟩
def rRanks (m : Nat) : VP := rSome (fun rs : List Int => rs.length = m) (rL rInt)
instance {m : Nat} : Kp (rRanks m) := by
  unfold rRanks
  exact inferInstance
def spRanks : Sp := fun vs H Q _ => ∃ d : Int, ∃ m : Nat, vs = [.int d, .int (m : Int)] ∧ m ≤ 6 ∧ Ret (rRanks m) H Q
theorem use_ranks {d : Int} {m : Nat} {v0 v1 : V} {H : Hp} (h0 : rInt d v0 H) (h1 : rInt (m : Int) v1 H) (hm : m ≤ 6) : Gives spRanks [v0, v1] H (rRanks m) := fun Q k E => by
  have e0 : v0 = .int d := h0
  have e1 : v1 = .int (m : Int) := h1
  subst e0 e1
  exact ⟨d, m, rfl, hm, k⟩
theorem small_div (m k : Nat) (hm : m ≤ 6) (hk : k < m) (d : Int) : CDivW d ((m : Int) - (k : Int)) := by
  have h : (m : Int) - (k : Int) = 1 ∨ (m : Int) - (k : Int) = 2 ∨ (m : Int) - (k : Int) = 3 ∨ (m : Int) - (k : Int) = 4 ∨ (m : Int) - (k : Int) = 5 ∨ (m : Int) - (k : Int) = 6 := by omega
  rcases h with h | h | h | h | h | h <;> rw [h] <;> exact ⟨by decide, by decide +kernel⟩
theorem sc__law_ranks : FnScope ["_law_draw", "_law_many", "_law_left", "_law_ranks_here", "_law_k"] ["_law_draw", "_law_many"] (defScope (top 35)) := ⟨rfl, rfl, rfl, by decide +kernel, rfl, by decide +kernel, by decide +kernel⟩
theorem ok_ranks (T : Txt K mg) : OkD P w K mg base 1 "_law_ranks" ["_law_draw", "_law_many"] spRanks := by
  refine T.d__law_ranks.ok sc__law_ranks (fun vs H Q E h => ?_) (fun cdv A outer s H vs Q E hr h => ?_)
  · obtain ⟨_, _, rfl, _⟩ := h
    rfl
  obtain ⟨d, m, rfl, hm, q⟩ := h
  refine ⟨_, (pss_cons (ps_setLc (i := 2) (own := [("_law_k", 4)]) rfl sc__law_ranks.nd rfl rfl (sw_true rfl rfl rfl (by decide +kernel)) (pi_range1 (by rfl) T.b_range (pa_cons (pv 1) pa_nil)) (blkOk_by (own := [("_law_k", 4)]) (N := ["_law_draw", "_law_many", "_law_left", "_law_ranks_here", "_law_k"]) (sc := defScope (top 35)) (by decide +kernel)) (fun _ _ _ _ _ => (pg_name (i := 4) sc__law_ranks.nd rfl (Or.inl rfl))) (fun _ _ _ _ _ => pts_nil) (fun _ _ _ _ _ => (pv 4)))
      (pss_cons (ps_set (i := 3) sc__law_ranks.nd rfl (Or.inl rfl) (pe_lst pa_nil))
      (pss_cons (ps_for PassesOwn.never rfl (pi_range1 (by rfl) T.b_range (pa_cons (pv 1) pa_nil)) (pg_name (i := 4) sc__law_ranks.nd rfl (Or.inl rfl))
      (pss_cons (ps_expr (pe_bm PySem.F.plainAttrs_list PySem.F.slot_list_append PySem.F.type_list_append mt_append (pv 3) (pa_cons (pe_bm PySem.F.plainAttrs_list PySem.F.slot_list_pop PySem.F.type_list_pop mt_popAt (pv 2) (pa_cons (pe_op op_mod (pv 0) (pe_callB (k_len K) (by rfl) T.b_len PySem.boot_len (pa_cons (pv 2) pa_nil))) pa_nil)) pa_nil)))
      (pss_one (ps_set (i := 0) sc__law_ranks.nd rfl (Or.inl rfl) (pe_op op_fdivW (pv 0) (pe_op op_sub (pv 1) (pv 4)))))))
      (pss_one (ps_ret (pv 3)))))), ?_⟩
  refine q_asgN (ewn_lcR1 (S := rInt) (n := m) (fun _ => true) (fun i => (i : Int)) (ew_var rfl rfl) (by omega) (fun x => rfl) (fun i hi H1 e1 => et_yes) (fun i hi hf H1 e1 => ew_var rfl rfl)) fun L H1 nL e1 hL => ?_
  obtain ⟨L', ys0, eL, hL, aL⟩ := hL
  cases eL
  have ly : ys0.length = m := by
    rw [← aL.len, map_all, List.length_map, List.length_range]
  refine q_asgN (ewn_lst0 (R := rInt)) fun R H2 nR e2 hR => ?_
  obtain ⟨R', xs0, eR, hR, aR⟩ := hR
  cases eR
  cases aR
  have nLR : L ≠ R := ne_of_none hL nR
  have hin : ∀ a ∈ [L, R], H a = none := fun a ha => by
    rcases List.mem_cons.mp ha with e | h
    · exact e ▸ nL
    · have e : a = R := by simpa using h
      exact e ▸ fresh_back e1 nR
  refine q_forR1 (n := (m : Int)) (ea_cons (ev_int (ew_var rfl rfl)) ea_nil) (by omega) (fun k σ' H' => ∃ d', ∃ xs ys y4 rs ls, σ' = [some (.int d'), some (.int (m : Int)), some (.ref L), some (.ref R), y4] ∧ Ex H (hds [L, R] H') ∧ H' L = some (.lst ys) ∧ H' R = some (.lst xs) ∧ Al rInt rs xs H' ∧ Al rInt ls ys H' ∧ xs.length = k ∧ ys.length = m - k)
    (fun H3 e3 => ⟨d, [], ys0, _, [], _, rfl, ex_hds (e1.trans (e2.trans e3)) hin, (e2.trans e3) L _ hL, e3 R _ hR, .nil, aL.fl, rfl, ly⟩) (fun k σ' H' hk hw => ?_) fun σ' H' hw => ?_
  · obtain ⟨d', xs, ys, y4, rs, ls, rfl, B, gL, gR, aR, aL, lx, ly⟩ := hw
    have hk' : k < m := by omega
    obtain ⟨m1, m2⟩ := modNat (d := d') (n := ls.length) (by rw [aL.len]; omega)
    obtain ⟨z, gz⟩ : ∃ z, ls[(d' % (ls.length : Int)).toNat]? = some z := ⟨_, List.getElem?_eq_getElem m2⟩
    obtain ⟨y, gy, ry⟩ := aL.get gz
    refine w_appPop (D := { nx := _, rt := _, bk := _, ct := _ }) gR gL gy nLR.symm (ev_var rfl) (ev_var rfl) (Ew.toI (ew_I (ew_var (P := rInt d') rfl rfl) (ew_lenL (as := ls) (ew_var rfl ⟨L, ys, rfl, gL, aL⟩)) (by rw [aL.len]; omega)) m1) (by omega) (by omega) fun H4 e4 => ?_
    refine w_asg (ew_I (ew_var (P := rInt d') rfl rfl) (ew_I0 (ew_var (P := rInt (m : Int)) rfl rfl) (ew_var (P := rInt (k : Int)) rfl rfl)) (small_div m k hm hk' d')) fun v H5 e5 hv => ?_
    have st : Stp [L, R] H' (upd (upd H4 L (.lst (ys.eraseIdx (d' % (ls.length : Int)).toNat))) R (.lst (xs ++ [y]))) := (stp_ex e4).trans ((stp_upd (by simp)).trans (stp_upd (by simp)))
    have ev : v = .int (d' / ((m : Int) - (k : Int))) := hv
    subst ev
    refine ⟨_, xs ++ [y], ys.eraseIdx (d' % (ls.length : Int)).toNat, _, rs ++ [z], ls.eraseIdx (d' % (ls.length : Int)).toNat, rfl, B.trans (st.trans (stp_ex e5)), e5 L _ (by rw [upd_ne nLR]; exact upd_same), e5 R _ upd_same, (Al.fl aR).snoc (Fl.fl ry), (aL.eraseIdx _).fl, by simp [lx], ?_⟩
    rw [List.length_eraseIdx_of_lt (by rw [← aL.len]; exact m2)]
    omega
  · obtain ⟨d', xs, ys, y4, rs, ls, rfl, B, gL, gR, aR, aL, lx, ly⟩ := hw
    have h0 : rRanks m (.ref R) H' := ⟨rs, by show rs.length = m; rw [aR.len, lx]; simp, R, xs, rfl, gR, aR⟩
    exact w_ret (ew_var rfl h0) fun v H4 e4 hv => q v H4 ((B.trans hds_ex).trans e4) hv
end
end Am
/-! _law_words. -/
namespace Am
open PySem PySem.Spec PyProof.Rows L2 Evl
theorem sok_iff {x : Str} : SOk x ↔ ∀ c ∈ x.cps.toList, c < 0x110000 := by
  unfold SOk PyData.strOk
  rw [← Array.all_toList, List.all_eq_true]
  exact forall_congr' fun c => forall_congr' fun _ => decide_eq_true_iff
theorem sok_app {x y : Str} (hx : SOk x) (hy : SOk y) : SOk (x ++ y) := sok_iff.mpr fun c hc => by
  have e : (x ++ y).cps.toList = x.cps.toList ++ y.cps.toList := Array.toList_append
  rw [e] at hc
  rcases List.mem_append.mp hc with h | h
  · exact sok_iff.mp hx c h
  · exact sok_iff.mp hy c h
theorem sok_cut {x : Str} (hx : SOk x) (lo hi : Option Int) : SOk (cutS x lo hi) := sok_iff.mpr fun c hc => by
  unfold cutS at hc
  exact sok_iff.mp hx c (List.mem_of_mem_drop (List.mem_of_mem_take hc))
/-- a letter, by its place -/
def ltr (L : Str) (i : Int) : Str := ⟨#[L.cps.toList.getD i.toNat 0]⟩
theorem ltr_at {L : Str} {i : Int} (h0 : 0 ≤ i) (h1 : i.toNat < L.length) : L.cps.toList[i.toNat]? = some (L.cps.toList.getD i.toNat 0) := by
  rw [List.getD_eq_getElem?_getD, List.getElem?_eq_getElem (by rw [Array.length_toList]; exact h1)]
  rfl
theorem ltr_ok {L : Str} (hL : SOk L) {i : Int} (h0 : 0 ≤ i) (h1 : i.toNat < L.length) : SOk (ltr L i) := sok_iff.mpr fun c hc => by
  have e : c = L.cps.toList.getD i.toNat 0 := by simpa [ltr] using hc
  rw [e]
  exact sok_iff.mp hL _ (List.mem_of_getElem? (ltr_at h0 h1))
theorem cdiv {i j : Int} (h1 : 0 < j) (h2 : j < 9000) : CDivW i j := ⟨h1, Nat.lt_of_le_of_lt (Nat.log2_le_self _) (by omega)⟩
theorem sok_empty : SOk Str.empty := sok_iff.mpr fun c hc => by cases hc
theorem join_ones : ∀ {ys : List Str}, (∀ y ∈ ys, y.length = 1 ∧ SOk y) → (Str.join Str.empty ys).length = ys.length ∧ SOk (Str.join Str.empty ys)
  | [], _ => ⟨rfl, sok_empty⟩
  | [x], h => h x (by simp)
  | x :: y :: r, h => by
    obtain ⟨h1, h2⟩ := join_ones (ys := y :: r) fun z hz => h z (List.mem_cons_of_mem _ hz)
    obtain ⟨h3, h4⟩ := h x (by simp)
    have e : Str.join Str.empty (x :: y :: r) = x ++ Str.empty ++ Str.join Str.empty (y :: r) := rfl
    rw [e]
    refine ⟨?_, sok_app (sok_app h4 sok_empty) h2⟩
    have l1 : ∀ a b : Str, (a ++ b).length = a.length + b.length := fun a b => Array.size_append
    rw [l1, l1, h1, h3]
    show 1 + 0 + (y :: r).length = (x :: y :: r).length
    simp
    omega
theorem modInt (d : Int) {j : Int} (hj : 0 < j) : d % j = ((d % j).toNat : Int) ∧ ((d % j).toNat : Int) < j := by
  have h1 : 0 ≤ d % j := Int.emod_nonneg _ (by omega)
  have h2 : d % j < j := Int.emod_lt_of_pos _ (by omega)
  omega
theorem cut_len_to {z : Str} {i : Int} {j : Nat} (h : i = (j : Int)) : (cutS z none (some i)).length = min j z.length := by
  subst h
  unfold cutS
  rw [HT.sIx_none, HT.sIx_nat]
  show (List.toArray _).size = _
  rw [List.size_toArray, List.length_take, List.length_drop, Array.length_toList]
  show min (min j z.length - 0) (z.length - 0) = _
  omega
theorem cut_len_from {z : Str} {i : Int} {j : Nat} (h : i = (j : Int)) : (cutS z (some i) none).length = z.length - min j z.length := by
  subst h
  unfold cutS
  rw [HT.sIx_none, HT.sIx_nat]
  show (List.toArray _).size = _
  rw [List.size_toArray, List.length_take, List.length_drop, Array.length_toList]
  show min (z.length - min j z.length) (z.length - min j z.length) = _
  omega
theorem words_of {m : Nat} {f : Nat → Str} (h : ∀ i j, i < m → j < m → f i = f j → i = j) : (((List.range m).filter fun _ => true).map f).length = m ∧ (((List.range m).filter fun _ => true).map f).Nodup := by
  rw [map_all]
  refine ⟨by simp, List.pairwise_map.mpr (List.Pairwise.imp_of_mem ?_ List.nodup_range)⟩
  intro a b ha hb hab e
  exact hab (h a b (List.mem_range.mp ha) (List.mem_range.mp hb) e)
def Lt : Str := Str.ofString "etaoinshrdlucmfwypvbgkqjxz"
theorem lt_len : Lt.length = 26 := by decide +kernel
theorem lt_ok : SOk Lt := by decide +kernel
theorem lt_nd : Lt.cps.toList.Nodup := by decide +kernel
theorem e0 : Str.ofString "" = Str.empty := by decide +kernel
theorem ltr_inj {L : Str} (hL : L.length = 26) (nd : L.cps.toList.Nodup) {i j : Int} (hi : 0 ≤ i) (hi2 : i < 26) (hj : 0 ≤ j) (hj2 : j < 26) (h : ltr L i = ltr L j) : i = j := by
  have h1 := ltr_at (L := L) hi (by omega)
  have h2 := ltr_at (L := L) hj (by omega)
  unfold ltr at h
  have h3 : L.cps.toList.getD i.toNat 0 = L.cps.toList.getD j.toNat 0 := by
    injection h with h
    have := congrArg Array.toList h
    simpa using this
  rw [h3] at h1
  have := nd_at nd h1 h2
  omega
section
variable {P : Program} {w : World} {K : PySem.W.Frag} {mg : Str → Option Value} {base : Heap}
section
variable {σ : L2.St} {H : Hp} {ta tb te : TE}
theorem ew_ltr {L : Str} {i : Int} (ha : Ew ta σ H (rStr L)) (hi : Ew tb σ H (rInt i)) (hL : L.length = 26) (h0 : 0 ≤ i) (h1 : i < 26) : Ew (tOp rIxS ta tb) σ H (rStr (ltr L i)) := fun H1 e Q q =>
  ha H1 e _ fun x H2 e2 hx => hi H2 (e.trans e2) _ fun y H3 e3 hy => ⟨L, i, _, hx.1, hy, by rw [hL]; decide, by
    have : i = ((i.toNat : Nat) : Int) := by omega
    rw [this]
    exact atI_of (ltr_at h0 (by omega)), q _ H3 (e2.trans e3) ⟨rfl, ltr_ok hx.2 h0 (by omega)⟩⟩
/-- ''.join(xs), xs letters -/
theorem ew_join {ys : List Str} (ha : Ew ta σ H (rStr Str.empty)) (h : Ew te σ H (rL rStr ys)) (hz : ys.length ≤ 100) (h1 : ∀ y ∈ ys, y.length = 1 ∧ SOk y) : Ew (tM1 (fun x xs H Q => ∃ a p, ∃ ys : List Str, x = .str a ∧ xs = [.ref p] ∧ (SqL K H p (ys.map V.str) ∨ SqT K H p (ys.map V.str)) ∧ (ys.map (·.length)).sum + ys.length * a.length ≤ 16777216 ∧ Q (.str (Txt.join a ys)) H) ta te) σ H (rStr (Str.join Str.empty ys)) := fun H1 e Q q =>
  ha H1 e _ fun x H2 e2 hx => ⟨⟨_, hx.1⟩, h H2 (e.trans e2) _ fun y H3 e3 ⟨p, xs, g1, g2, g3⟩ => ⟨Str.empty, p, ys, hx.1, by rw [g1], .inl (SqL.of (by rw [← al_str g3]; exact g2)), by
    have : ∀ zs : List Str, (∀ y ∈ zs, y.length = 1 ∧ SOk y) → (zs.map (·.length)).sum = zs.length := fun zs hz => by
      induction zs with
      | nil => rfl
      | cons z zs ih =>
        rw [List.map_cons, List.sum_cons, ih fun y hy => hz y (List.mem_cons_of_mem _ hy), (hz z (by simp)).1, List.length_cons]
        omega
    rw [this ys h1]
    show ys.length + ys.length * 0 ≤ 16777216
    omega, q _ H3 (e2.trans e3) ⟨by rw [eq_of_beq (join_plain_closes Str.empty ys)], (join_ones h1).2⟩⟩⟩
/-- a slice of a text -/
theorem ew_cut {x : Str} {t1 t2 : TO} {lo hi : Option Int} (ha : Ew ta σ H (rStr x)) (h1 : EvO t1 σ H lo) (h2 : EvO t2 σ H hi) (hz : x.length ≤ 1000) : Ew (tSl rSlS ta t1 t2) σ H (rStr (cutS x lo hi)) := fun H1 e Q q =>
  ha H1 e _ fun v H2 e2 hx => h1 H2 (e.trans e2) _ fun H3 e3 => h2 H3 ((e.trans e2).trans e3) _ fun H4 e4 => ⟨x, hx.1, Nat.le_trans hz (by decide), q _ H4 ((e2.trans e3).trans e4) ⟨rfl, sok_cut hx.2 lo hi⟩⟩
theorem ew_addS {x y : Str} (ha : Ew ta σ H (rStr x)) (hb : Ew tb σ H (rStr y)) (hz : x.length + y.length ≤ 1000) : Ew (tOp (fun x y H Q => ∃ i j, x = .str i ∧ y = .str j ∧ i.length + j.length ≤ sizeLine ∧ Q (.str (i ++ j)) H) ta tb) σ H (rStr (x ++ y)) := fun H1 e Q q =>
  ha H1 e _ fun v H2 e2 hx => hb H2 (e.trans e2) _ fun u H3 e3 hy => ⟨x, y, hx.1, hy.1, Nat.le_trans hz (by decide), q _ H3 (e2.trans e3) ⟨rfl, sok_app hx.2 hy.2⟩⟩
end
def rWords (m : Nat) : VP := rSome (fun ns : List Str => ns.length = m ∧ ns.Nodup) (rL rStr)
instance {m : Nat} : Kp (rWords m) := by
  unfold rWords
  exact inferInstance
def spWords : Sp := fun vs H Q _ => ∃ d : Int, ∃ m : Nat, vs = [.int d, .int (m : Int)] ∧ m ≤ 6 ∧ Ret (rWords m) H Q
theorem use_words {d : Int} {m : Nat} {v0 v1 : V} {H : Hp} (h0 : rInt d v0 H) (h1 : rInt (m : Int) v1 H) (hm : m ≤ 6) : Gives spWords [v0, v1] H (rWords m) := fun Q k E => by
  have e0 : v0 = .int d := h0
  have e1 : v1 = .int (m : Int) := h1
  subst e0 e1
  exact ⟨d, m, rfl, hm, k⟩
theorem sc__law_words : FnScope ["_law_cell", "_law_many", "_law_letters", "_law_long", "_law_size", "_law_stem", "_law_at", "_law_k"] ["_law_cell", "_law_many"] (defScope (top 33)) := ⟨rfl, rfl, rfl, by decide +kernel, rfl, by decide +kernel, by decide +kernel⟩
theorem ok_words (T : Txt K mg) : OkD P w K mg base 1 "_law_words" ["_law_cell", "_law_many"] spWords := by
  refine T.d__law_words.ok sc__law_words (fun vs H Q E h => ?_) (fun cdv A outer s H vs Q E hr h => ?_)
  · obtain ⟨_, _, rfl, _⟩ := h
    rfl
  obtain ⟨d, m, rfl, hm, q⟩ := h
  refine ⟨_, (pss_cons (ps_set (i := 2) sc__law_words.nd rfl (Or.inr rfl) pe_str)
      (pss_cons (ps_if (pt_cmpR op_lt (pe_op op_mod (pv 0) pe_int) pe_int (nomark _))
      (pss_cons (ps_set (i := 3) sc__law_words.nd rfl (Or.inr rfl) (pe_join pe_str (pe_lc (own := [("_law_k", 7)]) rfl sc__law_words.nd (pi_range1 (by rfl) T.b_range (pa_cons pe_int pa_nil)) (blkOk_by (own := [("_law_k", 7)]) (N := ["_law_cell", "_law_many", "_law_letters", "_law_long", "_law_size", "_law_stem", "_law_at", "_law_k"]) (sc := defScope (top 33)) (by decide +kernel)) (fun _ _ _ _ _ => (pg_name (i := 7) sc__law_words.nd rfl (Or.inl rfl))) (fun _ _ _ _ _ => pts_nil) (fun _ _ _ _ _ => (pe_ix ix_str (pv 2) (pe_op op_mod (pe_op op_fdivW (pv 0) (pe_op op_add pe_int (pe_op op_mul pe_int (pv 7)))) pe_int) (fun _ _ => rfl))))))
      (pss_cons (ps_if (pt_cmpR op_eq (pe_op op_mod (pv 0) pe_int) pe_int (nomark _))
      (pss_one (ps_ret (pe_lc (own := [("_law_k", 7)]) rfl sc__law_words.nd (pi_range1 (by rfl) T.b_range (pa_cons (pv 1) pa_nil)) (blkOk_by (own := [("_law_k", 7)]) (N := ["_law_cell", "_law_many", "_law_letters", "_law_long", "_law_size", "_law_stem", "_law_at", "_law_k"]) (sc := defScope (top 33)) (by decide +kernel)) (fun _ _ _ _ _ => (pg_name (i := 7) sc__law_words.nd rfl (Or.inl rfl))) (fun _ _ _ _ _ => pts_nil) (fun _ _ _ _ _ => (pe_slice sl_str (pv 3) po_none (po_some (pe_op op_add (pv 7) pe_int))))))) pss_nil)
      (pss_one (ps_ret (pe_lc (own := [("_law_k", 7)]) rfl sc__law_words.nd (pi_range1 (by rfl) T.b_range (pa_cons (pv 1) pa_nil)) (blkOk_by (own := [("_law_k", 7)]) (N := ["_law_cell", "_law_many", "_law_letters", "_law_long", "_law_size", "_law_stem", "_law_at", "_law_k"]) (sc := defScope (top 33)) (by decide +kernel)) (fun _ _ _ _ _ => (pg_name (i := 7) sc__law_words.nd rfl (Or.inl rfl))) (fun _ _ _ _ _ => pts_nil) (fun _ _ _ _ _ => (pe_slice sl_str (pv 3) (po_some (pe_op op_sub pe_int (pv 7))) po_none))))))) pss_nil)
      (pss_cons (ps_set (i := 4) sc__law_words.nd rfl (Or.inl rfl) (pe_op op_mod (pe_op op_fdivW (pv 0) pe_int) pe_int))
      (pss_cons (ps_set (i := 5) sc__law_words.nd rfl (Or.inr rfl) (pe_join pe_str (pe_lc (own := [("_law_k", 7)]) rfl sc__law_words.nd (pi_range1 (by rfl) T.b_range (pa_cons (pv 4) pa_nil)) (blkOk_by (own := [("_law_k", 7)]) (N := ["_law_cell", "_law_many", "_law_letters", "_law_long", "_law_size", "_law_stem", "_law_at", "_law_k"]) (sc := defScope (top 33)) (by decide +kernel)) (fun _ _ _ _ _ => (pg_name (i := 7) sc__law_words.nd rfl (Or.inl rfl))) (fun _ _ _ _ _ => pts_nil) (fun _ _ _ _ _ => (pe_ix ix_str (pv 2) (pe_op op_mod (pe_op op_add (pe_op op_add (pe_op op_fdivW (pv 0) pe_int) (pe_op op_mul pe_int (pv 7))) (pe_op op_mul (pv 7) (pv 7))) pe_int) (fun _ _ => rfl))))))
      (pss_cons (ps_set (i := 6) sc__law_words.nd rfl (Or.inr rfl) (pe_op op_mod (pe_op op_fdivW (pv 0) pe_int) (pe_op op_add (pv 4) pe_int)))
      (pss_one (ps_ret (pe_lc (own := [("_law_k", 7)]) rfl sc__law_words.nd (pi_range1 (by rfl) T.b_range (pa_cons (pv 1) pa_nil)) (blkOk_by (own := [("_law_k", 7)]) (N := ["_law_cell", "_law_many", "_law_letters", "_law_long", "_law_size", "_law_stem", "_law_at", "_law_k"]) (sc := defScope (top 33)) (by decide +kernel)) (fun _ _ _ _ _ => (pg_name (i := 7) sc__law_words.nd rfl (Or.inl rfl))) (fun _ _ _ _ _ => pts_nil) (fun _ _ _ _ _ => (pe_op op_add_str (pe_op op_add_str (pe_slice sl_str (pv 5) po_none (po_some (pv 6))) (pe_ix ix_str (pv 2) (pe_op op_mod (pe_op op_add (pe_op op_fdivW (pv 0) pe_int) (pe_op op_mul pe_int (pv 7))) pe_int) (fun _ _ => rfl))) (pe_slice sl_str (pv 5) (po_some (pv 6)) po_none))))))))))), ?_⟩
  refine q_asgW (ew_c (P := rStr Lt) ⟨rfl, lt_ok⟩) fun v2 H1 e1 h2 => ?_
  have emp : ∀ {σ : L2.St} {H : Hp}, Ew (tC (.str (Str.ofString ""))) σ H (rStr Str.empty) := ew_c ⟨by rw [e0], sok_empty⟩
  refine q_when (et_t (ew_I0b (ew_I (ew_var (P := rInt d) rfl rfl) ew_i (by decide)) ew_i)) (fun hb H2 e2 => ?_) (fun hb H2 e2 => ?_)
  · have hz : ∀ y ∈ ((List.range 8).filter fun _ => true).map (fun k : Nat => ltr Lt (d / (4 + 3 * (k : Int)) % 26)), y.length = 1 ∧ SOk y := fun y hy => by
      rw [map_all] at hy
      obtain ⟨k, hk, rfl⟩ := List.mem_map.mp hy
      have := modInt (d / (4 + 3 * (k : Int))) (j := 26) (by decide)
      exact ⟨rfl, ltr_ok lt_ok (by omega) (by rw [lt_len]; omega)⟩
    refine q_asgW (ew_join emp (ewn_lcR1 (S := rStr) (n := 8) (fun _ => true) (fun k => ltr Lt (d / (4 + 3 * (k : Int)) % 26)) (ew_c (P := rInt ((8 : Nat) : Int)) rfl) (by decide) (fun x => rfl) (fun i hi H1 e1 => et_yes) (fun k hk hf H3 e3 => ?_)).ew (by rw [map_all]; simp) hz) fun v3 H3 e3 h3 => ?_
    · have := modInt (d / (4 + 3 * (k : Int))) (j := 26) (by decide)
      exact ew_ltr (ew_vF (P := rStr Lt) rfl h2) (ew_I (ew_I (ew_var (P := rInt d) rfl rfl) (ew_I0 ew_i (ew_I ew_i (ew_var (P := rInt (k : Int)) rfl rfl) (.inl ⟨by decide, by decide⟩))) (cdiv (by omega) (by omega))) ew_i (by decide)) lt_len (by omega) (by omega)
    have hlong := join_ones hz
    have h8 : (Str.join Str.empty (((List.range 8).filter fun _ => true).map (fun k : Nat => ltr Lt (d / (4 + 3 * (k : Int)) % 26)))).length = 8 := by
      rw [hlong.1, map_all]
      simp
    generalize Str.join Str.empty (((List.range 8).filter fun _ => true).map (fun k : Nat => ltr Lt (d / (4 + 3 * (k : Int)) % 26))) = long at *
    refine q_when (et_t (ew_eqI (ew_I (ew_var (P := rInt d) rfl rfl) ew_i (by decide)) ew_i)) (fun hb2 H4 e4 => ?_) (fun hb2 H4 e4 => ?_)
    · refine w_ret (ewn_lcR1 (S := rStr) (n := m) (fun _ => true) (fun k => cutS long none (some ((k : Int) + 1))) (ew_var (P := rInt (m : Int)) rfl rfl) (by omega) (fun x => rfl) (fun i hi H1 e1 => et_yes) (fun k hk hf H5 e5 => ?_)).ew fun v H5 e5 hv => q v H5 (e1.trans (e2.trans (e3.trans (e4.trans e5)))) ⟨_, words_of fun i j hi hj e => ?_, hv⟩
      · exact ew_cut (ew_vF (P := rStr long) rfl h3) eo_none (eo_int (ew_I0 (ew_var (P := rInt (k : Int)) rfl rfl) ew_i)) (by omega)
      · have l1 := cut_len_to (z := long) (i := (i : Int) + 1) (j := i + 1) rfl
        have l2 := cut_len_to (z := long) (i := (j : Int) + 1) (j := j + 1) rfl
        rw [e] at l1
        omega
    · refine w_ret (ewn_lcR1 (S := rStr) (n := m) (fun _ => true) (fun k => cutS long (some (7 - (k : Int))) none) (ew_var (P := rInt (m : Int)) rfl rfl) (by omega) (fun x => rfl) (fun i hi H1 e1 => et_yes) (fun k hk hf H5 e5 => ?_)).ew fun v H5 e5 hv => q v H5 (e1.trans (e2.trans (e3.trans (e4.trans e5)))) ⟨_, words_of fun i j hi hj e => ?_, hv⟩
      · exact ew_cut (ew_vF (P := rStr long) rfl h3) (eo_int (ew_I0 ew_i (ew_var (P := rInt (k : Int)) rfl rfl))) eo_none (by omega)
      · have l1 := cut_len_from (z := long) (i := 7 - (i : Int)) (j := 7 - i) (by omega)
        have l2 := cut_len_from (z := long) (i := 7 - (j : Int)) (j := 7 - j) (by omega)
        rw [e] at l1
        omega
  · obtain ⟨s1, s2⟩ := modInt (d / 4) (j := 8) (by decide)
    refine q_asgW (Ew.toI (ew_I (ew_I (ew_var (P := rInt d) rfl rfl) ew_i (cdiv (by decide) (by decide))) ew_i (by decide)) s1) fun v4 H3 e3 h4 => ?_
    generalize (d / 4 % 8).toNat = sz at *
    have hz : ∀ y ∈ ((List.range sz).filter fun _ => true).map (fun k : Nat => ltr Lt ((d / 32 + 5 * (k : Int) + (k : Int) * (k : Int)) % 26)), y.length = 1 ∧ SOk y := fun y hy => by
      rw [map_all] at hy
      obtain ⟨k, hk, rfl⟩ := List.mem_map.mp hy
      have := modInt (d / 32 + 5 * (k : Int) + (k : Int) * (k : Int)) (j := 26) (by decide)
      exact ⟨rfl, ltr_ok lt_ok (by omega) (by rw [lt_len]; omega)⟩
    refine q_asgW (ew_join emp (ewn_lcR1 (S := rStr) (n := sz) (fun _ => true) (fun k => ltr Lt ((d / 32 + 5 * (k : Int) + (k : Int) * (k : Int)) % 26)) (ew_var rfl h4) (by omega) (fun x => rfl) (fun i hi H1 e1 => et_yes) (fun k hk hf H3 e3 => ?_)).ew (by rw [map_all]; simp; omega) hz) fun v5 H4 e4 h5 => ?_
    · have := modInt (d / 32 + 5 * (k : Int) + (k : Int) * (k : Int)) (j := 26) (by decide)
      exact ew_ltr (ew_vF (P := rStr Lt) rfl h2) (ew_I (ew_I0 (ew_I0 (ew_I (ew_var (P := rInt d) rfl rfl) ew_i (cdiv (by decide) (by decide))) (ew_I ew_i (ew_var (P := rInt (k : Int)) rfl rfl) (.inl ⟨by decide, by decide⟩))) (ew_I (ew_var (P := rInt (k : Int)) rfl rfl) (ew_var (P := rInt (k : Int)) rfl rfl) (.inl ⟨by omega, by omega⟩))) ew_i (by decide)) lt_len (by omega) (by omega)
    have hstem := (join_ones hz).1
    have h8 : (Str.join Str.empty (((List.range sz).filter fun _ => true).map (fun k : Nat => ltr Lt ((d / 32 + 5 * (k : Int) + (k : Int) * (k : Int)) % 26)))).length ≤ 8 := by
      rw [hstem, map_all]
      simp
      omega
    generalize Str.join Str.empty (((List.range sz).filter fun _ => true).map (fun k : Nat => ltr Lt ((d / 32 + 5 * (k : Int) + (k : Int) * (k : Int)) % 26))) = stem at *
    refine q_asgW (ew_I (ew_I (ew_var (P := rInt d) rfl rfl) ew_i (cdiv (by decide) (by decide))) (ew_I0 (ew_var (P := rInt (sz : Int)) rfl h4) ew_i) (by omega)) fun v6 H5 e5 h6 => ?_
    generalize d / 256 % ((sz : Int) + 1) = pt at *
    refine w_ret (ewn_lcR1 (S := rStr) (n := m) (fun _ => true) (fun k => (cutS stem none (some pt) ++ ltr Lt ((d / 7 + 5 * (k : Int)) % 26)) ++ cutS stem (some pt) none) (ew_var (P := rInt (m : Int)) rfl rfl) (by omega) (fun x => rfl) (fun i hi H1 e1 => et_yes) (fun k hk hf H6 e6 => ?_)).ew fun v H6 e6 hv => q v H6 (e1.trans (e2.trans (e3.trans (e4.trans (e5.trans e6))))) ⟨_, words_of fun i j hi hj e => ?_, hv⟩
    · have := modInt (d / 7 + 5 * (k : Int)) (j := 26) (by decide)
      have c1 := cutS_length stem none (some pt)
      have c2 := cutS_length stem (some pt) none
      have l1 : ∀ a b : Str, (a ++ b).length = a.length + b.length := fun a b => Array.size_append
      have l2 : (ltr Lt ((d / 7 + 5 * (k : Int)) % 26)).length = 1 := rfl
      exact ew_addS (ew_addS (ew_cut (ew_vF (P := rStr stem) rfl h5) eo_none (eo_int (ew_vF (P := rInt pt) rfl h6)) (by omega)) (ew_ltr (ew_vF (P := rStr Lt) rfl h2) (ew_I (ew_I0 (ew_I (ew_var (P := rInt d) rfl rfl) ew_i (cdiv (by decide) (by decide))) (ew_I ew_i (ew_var (P := rInt (k : Int)) rfl rfl) (.inl ⟨by decide, by decide⟩))) ew_i (by decide)) lt_len (by omega) (by omega)) (by omega))
        (ew_cut (ew_vF (P := rStr stem) rfl h5) (eo_int (ew_vF (P := rInt pt) rfl h6)) eo_none (by omega)) (by rw [l1]; omega)
    · have m1 := modInt (d / 7 + 5 * (i : Int)) (j := 26) (by decide)
      have m2 := modInt (d / 7 + 5 * (j : Int)) (j := 26) (by decide)
      have e' : (cutS stem none (some pt) ++ ltr Lt ((d / 7 + 5 * (i : Int)) % 26)) ++ cutS stem (some pt) none = (cutS stem none (some pt) ++ ltr Lt ((d / 7 + 5 * (j : Int)) % 26)) ++ cutS stem (some pt) none := e
      have ap : ∀ a b : Str, (a ++ b).cps.toList = a.cps.toList ++ b.cps.toList := fun a b => Array.toList_append
      have q1 := congrArg (fun s : Str => s.cps.toList) e'
      simp only [ap] at q1
      have q2 := List.append_cancel_left (List.append_cancel_right q1)
      have q3 : ltr Lt ((d / 7 + 5 * (i : Int)) % 26) = ltr Lt ((d / 7 + 5 * (j : Int)) % 26) := by
        unfold ltr at q2 ⊢
        rw [Str.mk.injEq]
        exact Array.toList_inj.mp q2
      have q4 := ltr_inj lt_len lt_nd (by omega) (by omega) (by omega) (by omega) q3
      omega
end
end Am
/-! len(set(xs)), xs a list of texts that may come twice: the hand layer has it for ints, and for no text or one. -/
namespace Am
open PySem PySem.Spec PyProof.Rows L2 Evl
/-- an empty set, as it is made -/
abbrev nSet (led : Bool) : Obj := { cls := .type "set", dict := none, data := .set #[] 0 (.fresh 0 0 led) }
/-- the texts that were met, and how many of them differ -/
def TxS (P : Program) (w : World) (h : Heap) (a : Addr) (xs : List Str) (i : Nat) : Prop := ∃ c, h.SetOf (PySem.strKind P w) a (fun x => decide (x ∈ xs.take i)) c ∧ c ≤ i ∧ (c = i → (xs.take i).Nodup)
theorem TxS.keep {P : Program} {w : World} {h h' : Heap} {a : Addr} {xs : List Str} {i : Nat} (z : TxS P w h a xs i) (k : ∀ o, h.get? a = some o → h'.get? a = some o) : TxS P w h' a xs i := by
  obtain ⟨c, ⟨o, es, ep, t, ho, more⟩, z2⟩ := z
  exact ⟨c, ⟨o, es, ep, t, k o ho, more⟩, z2⟩
theorem TxS.next {P : Program} {w : World} {h' : Heap} {a : Addr} {xs : List Str} {i c : Nat} {x : Str} (hx : xs[i]? = some x) (hc : c ≤ i) (hn : c = i → (xs.take i).Nodup)
    (z : h'.SetOf (PySem.strKind P w) a (fun y => (decide (y ∈ xs.take i) || decide (y = x))) (if decide (x ∈ xs.take i) = true then c else c + 1)) : TxS P w h' a xs (i + 1) := by
  have et : xs.take (i + 1) = xs.take i ++ [x] := by rw [List.take_add_one, hx]; rfl
  have ef : (fun y => decide (y ∈ xs.take i) || decide (y = x)) = fun y => decide (y ∈ xs.take (i + 1)) := by
    funext y
    rw [et, Bool.eq_iff_iff, Bool.or_eq_true, decide_eq_true_iff, decide_eq_true_iff, decide_eq_true_iff, List.mem_append, List.mem_singleton]
  rw [ef] at z
  refine ⟨_, z, ?_, fun e => ?_⟩
  · split <;> omega
  · by_cases m : x ∈ xs.take i
    · rw [if_pos (decide_eq_true m)] at e
      omega
    · rw [if_neg (by rw [decide_eq_true_iff]; exact m)] at e
      rw [et]
      refine List.nodup_append.mpr ⟨hn (by omega), by simp, fun u hu v hv => ?_⟩
      have ev : v = x := by simpa using hv
      subst ev
      exact fun q => m (q ▸ hu)
theorem TxS.fresh {P : Program} {w : World} {h : Heap} {a : Addr} {xs : List Str} (led : Bool) (ho : h.get? a = some (nSet led)) : TxS P w h a xs 0 := by
  have z := (PyProof.Rows.setObjOf_fresh (knd := PySem.strKind P w) led).setOf ho (by unfold scanBound; omega)
  exact ⟨0, PyProof.Rows.SetOf_congr z (fun y => by simp) rfl, Nat.le_refl 0, fun _ => List.nodup_nil⟩
section
variable {P : Program} {w : World} {A : Around} {E : Value → Shared → Prop} {s : Shared}
/-- the loop that puts the texts into the set -/
theorem txs_loop {Rs : Result → Shared → Prop} {It : Addr} {fp wr : List Addr} {G : Array GenState → Array GenState → Prop} {n : Nat} {Pv : Nat → Value → Prop} {St : Nat → Shared → Prop} (W : WalksS P w A.in1 It fp wr G n Pv St) (D : Addr) (nD : D ∉ fp) (xs : List Str) (hn : n = xs.length) (hz : xs.length < 1000)
    (hv : ∀ j v, Pv j v → ∃ x t, xs[j]? = some x ∧ v = .str x t) : ∀ (m i : Nat) (s : Shared), n - i = m → i ≤ n → St i s → TxS P w s.heap D xs i →
      (∀ s', Moved (D :: wr) G s s' → TxS P w s'.heap D xs n → Rs (.ok (.ret .none)) s') → codeAny (model P w) A (.builtin "set.update.loop" ⟨[.ref D, .ref It], []⟩) Rs s := by
  have nW : D ∉ wr := fun q => nD (W.sub _ q)
  have up : ∀ b ∈ wr, b ∈ D :: wr := fun _ hb => List.mem_cons_of_mem D hb
  intro m
  induction m with
  | zero =>
    intro i s hm hi st z done
    have e : n = i := by omega
    subst e
    refine codeAny_builtin PyProof.Rows.F.entry_set_update_loop (by
      rw [Around.under_plainId PyProof.Rows.F.plain_set_update_loop _]
      refine (wpAny_bind (m := pyNext (.ref It)) (W.done s _ _ st fun s' mv => ?_))
      exact wpAny_pure (done s' (mv.mono up) (z.keep fun o e => mv.heap D o nW e)))
  | succ m ih =>
    intro i s hm hi st z done
    have lt : i < n := by omega
    refine codeAny_builtin PyProof.Rows.F.entry_set_update_loop ?_
    rw [Around.under_plainId (PyProof.Rows.F.plain_set_update_loop) _]
    refine (wpAny_bind (m := pyNext (.ref It)) (W.item i s _ _ lt st fun v s' pv st' mv => ?_))
    obtain ⟨x, t, hx, rfl⟩ := hv i v pv
    obtain ⟨c, zs, zc, zn⟩ := z.keep (h' := s'.heap) fun o e => mv.heap D o nW e
    show wpAny _ A.in1 (holding [Value.str x t] (setAdd D (.str x t)) >>= _) _ _ s'
    refine wpAny_bind (wpAny_holding (by
      unfold setAdd
      refine wpAny_holding (wpAny_bind ((PySem.strKind P w).pyHash (k := x) (strKind_is _ _ _ _) ?_))
      refine wpAny_setAddHashed_of (knd := PySem.strKind P w) (s := { s' with toks := s'.toks + 1 }) (strKind_is _ _ _ _) rfl zs (by unfold scanBound; omega) fun h' same z2 => ?_
      have away : ∀ b, b ≠ D → ∀ o, s'.heap.get? b = some o → h'.get? b = some o := fun b hb o e => (same.2 b hb).trans e
      refine wpAny_pure ⟨plainId_quiet PyProof.Rows.F.plain_set_update_loop _, ih (i + 1) _ (by omega) lt (W.frame _ s' _ _ st' (Nat.le_succ _) fun b hb o e => away b (fun q => nD (q ▸ hb)) o e) (TxS.next hx zc zn z2) fun s2 mv2 z3 => ?_⟩
      exact done s2 (Moved.trans W.gtrans ((mv.mono up).then_heap (Nat.le_succ _) fun b o hb e => away b (fun q => hb (q ▸ List.mem_cons_self)) o e) mv2) z3))
/-- set(xs) of a list of texts -/
theorem mk_texts {l : Addr} {vs : Array Value} {xs : List Str} {Q : Value → Shared → Prop} (calm : A.handled = none) (hl : s.heap.IsList l vs) (hi : PyProof.Rows.StrsAre vs.toList xs) (hz : xs.length < 1000)
    (k : ∀ (h' : Heap) (tk : Nat), TxS P w h' s.heap.objs.size xs xs.length → (∀ b o, b < s.heap.objs.size → s.heap.get? b = some o → h'.get? b = some o) → Q (.ref s.heap.objs.size) { s with heap := h', toks := tk }) :
    wpAny (model P w) A (call (.type "set") [.ref l]) Q E s := by
  obtain ⟨c0, tl0, hmro⟩ := PySem.F.called_set.mro
  have f1 := PySem.F.called_set.made
  have f2 := PySem.F.called_set.sub
  refine wpAny_call (codeAny_of_tree (wpAny_pure ⟨Code.quiet_builtin _ (by decide +kernel), codeAny_builtin PySem.F.entry_type_call ?_⟩))
  rw [Around.under_plain (weight_type_call_type "set" [Value.ref l] []) rfl]
  have f3 := PySem.F.called_set.notType
  have f4 := PySem.F.called_set.canCreate
  have f5 := PySem.F.typeCall_set_1 (.ref l)
  repeat (any_goals first | assumption | (wp_step))
  refine codeAny_mono (code_set_new_1 (.ref l) (E := E) (Q₁ := fun u s1 => ∃ led : Bool, u = .ref s.heap.objs.size ∧ s1 = { s with heap := s.heap.push (nSet led) }) fun led => ⟨led, rfl, rfl⟩) fun r1 s1 hr1 => ?_
  match r1, hr1 with
  | .error _, hr1 => exact hr1
  | .ok (.ret u), hr1 =>
    obtain ⟨led, rfl, rfl⟩ := hr1
    have hD : (s.heap.push (nSet led)).get? s.heap.objs.size = some (nSet led) := Heap.get?_push_size _ rfl
    have hTy : Shared.TypeIs { s with heap := s.heap.push (nSet led) } (.ref s.heap.objs.size) "set" := ⟨_, hD, rfl⟩
    have f6 := PySem.F.called_set.init.lookup
    have f7 := PySem.F.called_set.init.bind (.ref s.heap.objs.size)
    repeat (any_goals first | assumption | (wp_step))
    refine codeAny_mono (codeAny_call_builtin (R := wants (fun r s2 => r = .none ∧ ∃ h' tk, s2 = { s with heap := h', toks := tk } ∧ TxS P w h' s.heap.objs.size xs xs.length ∧ ∀ b o, b < s.heap.objs.size → s.heap.get? b = some o → h'.get? b = some o) E)
      PySem.F.called_set.init.plain PySem.F.entry_set_init (check_set_init_1 hTy ?_)) fun r2 s2 hr2 => ?_
    · obtain ⟨⟨oc, od, dt, sl⟩, ho, hc, nl, hd⟩ := hl
      simp only at hc hd
      subst hc hd
      have ho2 : (s.heap.push (nSet led)).get? l = some { cls := .type "list", dict := od, data := .seq vs nl, slots := sl } := Heap.get?_push_of_some _ ho
      have g1 := PySem.F.sub_list_set
      have g2 := PySem.F.sub_list_frozenset
      have g3 : (Value.type "list" == Value.type "dict") = false := by decide
      have il : (s.heap.push (nSet led)).IsList l vs := ⟨_, ho2, rfl, nl, rfl⟩
      unfold Builtin.«set.__init__» noKeywords Builtin.Frozenset.updateFrom
      generalize hIt : pyIter = It
      wp_walk
      subst hIt
      refine wpAny_pyIter_list il (wpAny_bind (wpAny_runValue ?_))
      have lt : l < s.heap.objs.size := Heap.lt_size ho
      have calm3 : A.in1.in1.in1.handled = none := by simp [calm]
      have e1 : (s.heap.push (nSet led)).objs.size = s.heap.objs.size + 1 := Heap.size_push ..
      have ne1 : l ≠ (s.heap.push (nSet led)).objs.size := by
        rw [e1]
        exact Nat.ne_of_lt (Nat.lt_succ_of_lt lt)
      have nD : s.heap.objs.size ∉ [(s.heap.push (nSet led)).objs.size, l] := by
        intro q
        rcases List.mem_cons.mp q with q | q
        · exact Nat.ne_of_lt (Nat.lt_succ_self _) (q.trans e1)
        · exact Nat.ne_of_gt lt (List.mem_singleton.mp q)
      have sz : vs.size = xs.length := by rw [← StrsAre.len_eq hi, Array.length_toList]
      refine txs_loop ((Walks.list calm3 _ l ne1 vs).toS) s.heap.objs.size nD xs sz hz (fun j v hj => ?_) (vs.size - 0) 0 _ (by omega) (Nat.zero_le _) ⟨⟨_, Heap.get?_push_size _ rfl, rfl, rfl⟩, il.push _⟩ (TxS.fresh led (Heap.get?_push_of_some _ hD)) fun s' mv z => ?_
      · have hj' : vs[j]? = some v := hj
        obtain ⟨t, e⟩ := SS.strs_at hi j v (by rw [Array.getElem?_toList]; exact hj')
        have jl : j < xs.length := by
          rw [← sz]
          exact (Array.getElem?_eq_some_iff.mp hj').1
        refine ⟨xs[j], t, List.getElem?_eq_getElem jl, ?_⟩
        rw [e, List.getD_eq_getElem?_getD, List.getElem?_eq_getElem jl]
        rfl
      · obtain ⟨h', gg, dd, tk, oo⟩ := s'
        obtain rfl : gg = s.gens := mv.gens
        obtain rfl : dd = s.drawn := mv.drawn
        obtain rfl : oo = s.os := mv.os
        rw [sz] at z
        refine wpAny_pure (wpAny_pure ⟨rfl, h', tk, rfl, z, fun b o hb e => ?_⟩)
        refine mv.heap b o (fun q => ?_) (Heap.get?_push_of_some _ (Heap.get?_push_of_some _ e))
        rcases List.mem_cons.mp q with q | q
        · exact Nat.ne_of_lt hb q
        · exact Nat.ne_of_lt (Nat.lt_succ_of_lt hb) ((List.mem_singleton.mp q).trans e1)
    · match r2, hr2 with
      | .error _, hr2 => exact hr2
      | .ok (.ret u), hr2 =>
        obtain ⟨rfl, h', tk, rfl, z, kp⟩ := hr2
        repeat (any_goals first | assumption | (wp_step))
        exact k _ _ z kp
      | .ok .next, hr2 => exact hr2.elim
      | .ok .brk, hr2 => exact hr2.elim
      | .ok .cont, hr2 => exact hr2.elim
  | .ok .next, hr1 => exact hr1.elim
  | .ok .brk, hr1 => exact hr1.elim
  | .ok .cont, hr1 => exact hr1.elim
end
end Am
namespace Am
open PySem PySem.Spec PyProof.Rows L2 Evl
/-- len(set(xs)), xs a list of texts: less than its length, or all differ -/
def tLenTx (K : PySem.W.Frag) (ta : TE) : TE := fun σ H Q => ta σ H fun x H1 => ∃ l, ∃ xs : List Str, x = V.ref l ∧ SqL K H1 l (xs.map V.str) ∧ xs.length < 1000 ∧ ∀ c : Nat, c ≤ xs.length → (c = xs.length → xs.Nodup) → Q (.int (c : Int)) H1
section
variable {X : Cx}
theorem pe_lenSetS {a : Expr} {ta : TE} {p p2 q pos : Pos} (hg : Gl X "len") (hm : X.mg "len" = none) (hg2 : Gl X "set") (hm2 : X.mg "set" = none) (ha : PE X a ta) (calm : X.calm = true := by rfl)
    (one : starEach [a] X.env = (false, eval a X.env) :: starEach [] X.env := by rfl) : PE X (.Call (.Name "len" p) [.Call (.Name "set" p2) [a] [] q] [] pos) (tLenTx X.K ta) := by
  refine ⟨fun pins s σ H Q I h => Call_ (ld_blt I hg hm boot_len (PyProof.Rows.callWith_builtin1 (PyProof.Rows.args_cons ?_ rfl) rfl rfl))⟩
  refine Call_ (ld_blt I hg2 hm2 PyProof.Rows.boot_set (PyProof.Rows.callWith_type1 (PyProof.Rows.args_cons (thn (ha.run pins s σ H _ I h) fun v s1 got => PyProof.Rows.args_nil ?_) one) one rfl))
  obtain ⟨x, H1, I1, r1, l, xs, rfl, hl, hz, hq⟩ := got
  cases r1
  obtain ⟨its, r, pl, _⟩ := I1.list hl
  refine mk_texts (I1.ok.hd calm) pl.isList (xs := xs) (by simpa using strsAre_of r) hz fun h' tk z kp => ?_
  obtain ⟨c, ⟨o, es, ep, t, ho, hex, hd, _, _, _, hf, hn⟩, c1, c2⟩ := z
  rw [List.take_of_length_le (Nat.le_refl _)] at c2
  refine PyProof.Rows.args_nil (call_len_set ho hex hd hf (by rw [hn]; omega) ⟨.int (c : Int), H1, ?_, ⟨_, by rw [hn]⟩, hq c c1 c2⟩)
  exact (I1.kept (h' := h') (t' := tk) fun b o e => kp b o (Heap.lt_size e) e).tok _
end
section
variable {K : PySem.W.Frag} {σ : L2.St} {H : Hp} {ta : TE}
/-- the number of different texts, against how many there are -/
theorem ew_lenSet {xs : List Str} (ha : Ew ta σ H (rL rStr xs)) (hz : xs.length < 1000) : Ew (tLenTx K ta) σ H (rSome (fun c : Int => c ≤ (xs.length : Int) ∧ (¬ c < (xs.length : Int) → xs.Nodup)) rInt) := fun H1 e Q q =>
  ha H1 e _ fun v H2 e2 ⟨p, ys, h1, h2, h3⟩ => ⟨p, xs, h1, SqL.of (by rw [← al_str h3]; exact h2), hz, fun c c1 c2 => q _ H2 e2 ⟨(c : Int), ⟨by omega, fun h => c2 (by omega)⟩, rfl⟩⟩
end
end Am
/-! _law_names. -/
namespace Am
open PySem PySem.Spec PyProof.Rows L2 Evl
/-- a test of which it is known what its answers tell -/
def EvP (t : TT) (σ : L2.St) (H : Hp) (C : Bool → Prop) : Prop := ∀ H1, Ex H H1 → ∀ Q : Bool → Hp → Prop, (∀ b H2, Ex H1 H2 → C b → Q b H2) → t σ H1 Q
section
variable {σ : L2.St} {H : Hp} {ta tb te : TE} {t u : TT} {D : Ends} {tu tz : TS}
theorem evp_t {C : Bool → Prop} (h : Ew te σ H (rSome C rBool)) : EvP (tTest te) σ H C := fun H1 e Q q => h H1 e _ fun v H2 e2 ⟨b, hb, hv⟩ => ⟨b, hv, q b H2 e2 hb⟩
theorem evp_or {a : Bool} {C : Bool → Prop} (h1 : EvT t σ H a) (h2 : a = false → EvP u σ H C) : EvP (tOr t u) σ H (fun b => b = true ∨ C b) := fun H1 e Q q => h1 H1 e _ fun H2 e2 => by
  cases a with
  | true => exact q true H2 e2 (.inl rfl)
  | false => exact h2 rfl H2 (e.trans e2) Q fun b H3 e3 hb => q b H3 (e2.trans e3) (.inr hb)
theorem q_whenP {C : Bool → Prop} (h : EvP t σ H C) (h1 : C true → ∀ H1, Ex H H1 → tu { D with nx := tz D } σ H1) (h2 : C false → ∀ H1, Ex H H1 → tz D σ H1) : tSeq (tIfS t tu tNext) tz D σ H :=
  h H (Ex.refl H) _ fun b H1 e hb => by
    cases b with
    | true => exact h1 hb H1 e
    | false => exact h2 hb H1 e
theorem ew_ltC {C : Int → Prop} {m : Int} (ha : Ew ta σ H (rSome C rInt)) (hb : Ew tb σ H (rInt m)) : Ew (tOp (rI0 fun i j => .bl (decide (i < j))) ta tb) σ H (rSome (fun b => ∃ c, C c ∧ b = decide (c < m)) rBool) :=
  ew_op ha hb fun x y H1 _ ⟨c, hc, hx⟩ hy Q q => ⟨c, m, hx, hy, q _ H1 (Ex.refl H1) ⟨_, ⟨c, hc, rfl⟩, rfl⟩⟩
end
section
variable {P : Program} {w : World} {K : PySem.W.Frag} {mg : Str → Option Value} {base : Heap}
def Lz : Str := Str.ofString "abcdefghijklmnopqrstuvwxyz"
theorem lz_len : Lz.length = 26 := by decide +kernel
theorem lz_ok : SOk Lz := by decide +kernel
def spNames : Sp := fun vs H Q _ => ∃ ds : List Int, ∃ m : Nat, ∃ v0, vs = [v0, .int (m : Int)] ∧ rL rInt ds v0 H ∧ ds.length = 63 ∧ m ≤ 6 ∧ Ret (rWords m) H Q
theorem use_names {ds : List Int} {m : Nat} {v0 v1 : V} {H : Hp} (h0 : rL rInt ds v0 H) (hl : ds.length = 63) (h1 : rInt (m : Int) v1 H) (hm : m ≤ 6) : Gives spNames [v0, v1] H (rWords m) := fun Q k E => by
  have e1 : v1 = .int (m : Int) := h1
  subst e1
  exact ⟨ds, m, v0, rfl, h0, hl, hm, k⟩
theorem sc__law_names : FnScope ["_law_draws_here", "_law_many", "_law_letters", "_law_names_here", "_law_k", "_law_rest", "_law_name", "_law_turn"] ["_law_draws_here", "_law_many"] (defScope (top 34)) := ⟨rfl, rfl, rfl, by decide +kernel, rfl, by decide +kernel, by decide +kernel⟩
theorem ok_names (T : Txt K mg) : OkD P w K mg base 2 "_law_names" ["_law_draws_here", "_law_many"] spNames := by
  have G__law_words := ok_words (P := P) (w := w) (base := base) T
  refine T.d__law_names.ok sc__law_names (fun vs H Q E h => ?_) (fun cdv A outer s H vs Q E hr h => ?_)
  · obtain ⟨_, _, _, rfl, _⟩ := h
    rfl
  obtain ⟨ds, m, v0, rfl, h0, hl, hm, q⟩ := h
  refine ⟨_, (pss_cons (ps_set (i := 2) sc__law_names.nd rfl (Or.inl rfl) pe_str)
      (pss_cons (ps_set (i := 3) sc__law_names.nd rfl (Or.inl rfl) (pe_lst pa_nil))
      (pss_cons (ps_for PassesOwn.never rfl (pi_range1 (by rfl) T.b_range (pa_cons (pv 1) pa_nil)) (pg_name (i := 4) sc__law_names.nd rfl (Or.inl rfl))
      (pss_cons (ps_set (i := 5) sc__law_names.nd rfl (Or.inl rfl) (pe_op op_fdivW (pe_ix (kx_list K) (pv 0) (pe_op op_add pe_int (pv 4)) (fun _ _ => rfl)) pe_int))
      (pss_cons (ps_set (i := 6) sc__law_names.nd rfl (Or.inl rfl) pe_str)
      (pss_cons (ps_for PassesOwn.never rfl (pi_range1 (by rfl) T.b_range (pa_cons (pe_op op_add pe_int (pe_op op_mod (pe_ix (kx_list K) (pv 0) (pe_op op_add pe_int (pv 4)) (fun _ _ => rfl)) pe_int)) pa_nil)) (pg_name (i := 7) sc__law_names.nd rfl (Or.inl rfl))
      (pss_cons (ps_set (i := 6) sc__law_names.nd rfl (Or.inl rfl) (pe_op op_add_str (pv 6) (pe_ix ix_str (pv 2) (pe_op op_mod (pv 5) pe_int) (fun _ _ => rfl))))
      (pss_one (ps_set (i := 5) sc__law_names.nd rfl (Or.inl rfl) (pe_op op_fdivW (pv 5) pe_int)))))
      (pss_one (ps_expr (pe_bm PySem.F.plainAttrs_list PySem.F.slot_list_append PySem.F.type_list_append mt_append (pv 3) (pa_cons (pv 6) pa_nil))))))))
      (pss_cons (ps_if (PW.pt (pw_or (pt_cmpR op_eq (pe_op op_mod (pe_ix (kx_list K) (pv 0) pe_int (fun _ _ => rfl)) pe_int) pe_int (nomark _)) (pw_or1 (pt_cmpR op_lt (pe_lenSetS (by rfl) T.b_len (by rfl) T.b_set (pv 3)) (pv 1) (nomark _)))))
      (pss_one (ps_ret (pe_callD G__law_words hr (pa_cons (pe_op op_fdivW (pe_ix (kx_list K) (pv 0) pe_int (fun _ _ => rfl)) pe_int) (pa_cons (pv 1) pa_nil))))) pss_nil)
      (pss_one (ps_ret (pv 3))))))), ?_⟩
  have emp : ∀ {σ : L2.St} {H : Hp}, Ew (tC (.str (Str.ofString ""))) σ H (rStr Str.empty) := ew_c ⟨by rw [e0], sok_empty⟩
  refine q_asgW (ew_c (P := rStr Lz) ⟨rfl, lz_ok⟩) fun v2 H1 e1 h2 => ?_
  refine q_asgN (ewn_lst0 (R := rStr)) fun R H2 nR e2 hR => ?_
  obtain ⟨R', xs0, eR, hR, aR⟩ := hR
  cases eR
  cases aR
  have hin : ∀ a ∈ [R], H a = none := by
    intro a ha
    have e : a = R := by simpa using ha
    exact e ▸ fresh_back e1 nR
  refine q_forR1 (n := (m : Int)) (ea_cons (ev_int (ew_var rfl rfl)) ea_nil) (by omega) (fun k σ' H' => ∃ xs ns y4 y5 y6 y7, σ' = [some v0, some (.int (m : Int)), some v2, some (.ref R), y4, y5, y6, y7] ∧ Ex H (hds [R] H') ∧ H' R = some (.lst xs) ∧ Al rStr ns xs H' ∧ ns.length = k)
    (fun H3 e3 => ⟨[], [], _, _, _, _, rfl, ex_hds (e1.trans (e2.trans e3)) hin, e3 R _ hR, .nil, rfl⟩) (fun k σ' H' hk hw => ?_) fun σ' H' hw => ?_
  · obtain ⟨xs, ns, y4, y5, y6, y7, rfl, B, gR, aR, lx⟩ := hw
    have hk' : k < m := by omega
    obtain ⟨x, gx⟩ : ∃ x, ds[48 + k]? = some x := ⟨_, List.getElem?_eq_getElem (by omega)⟩
    have ix : atI ds (48 + (k : Int)) = some x := by
      have : 48 + (k : Int) = ((48 + k : Nat) : Int) := by omega
      rw [this]
      exact atI_of gx
    have hd : ∀ {H5 : Hp}, Ex H' H5 → rL rInt ds v0 H5 := fun e => Kp.kp ((B.trans hds_ex).trans e) h0
    refine q_asgW (ew_I (ew_ixL (ew_var rfl (hd (Ex.refl _))) (ew_I0 ew_i (ew_var (P := rInt (k : Int)) rfl rfl)) ix) ew_i (cdiv (by decide) (by decide))) fun v5 H3 e3 h5 => ?_
    refine q_asgW emp fun v6 H4 e4 h6 => ?_
    obtain ⟨m1, m2⟩ := modInt x (j := 6) (by decide)
    have h5' : v5 = .int (x / 6) := h5
    subst h5'
    have h6' : v6 = .str Str.empty := h6.1
    subst h6'
    refine q_forR1 (n := 1 + x % 6) (ea_cons (ev_int (ew_I0 ew_i (ew_I (ew_ixL (ew_var rfl (hd (e3.trans e4))) (ew_I0 ew_i (ew_var (P := rInt (k : Int)) rfl rfl)) ix) ew_i (by decide)))) ea_nil) (by omega) (fun t σ' H5 => ∃ r z y7, σ' = [some v0, some (.int (m : Int)), some v2, some (.ref R), some (.int (k : Int)), some (.int r), some (.str z), y7] ∧ Ex H' H5 ∧ SOk z ∧ z.length = t)
      (fun H5 e5 => ⟨_, _, _, rfl, e3.trans (e4.trans e5), sok_empty, rfl⟩) (fun t σ' H5 ht hw => ?_) fun σ' H5 hw => ?_
    · obtain ⟨r, z, y7, rfl, e5, oz, lz⟩ := hw
      obtain ⟨n1, n2⟩ := modInt r (j := 26) (by decide)
      refine q_asgW (ew_addS (x := z) (ew_var rfl ⟨rfl, oz⟩) (ew_ltr (ew_vF (P := rStr Lz) rfl h2) (ew_I (ew_var (P := rInt r) rfl rfl) ew_i (by decide)) lz_len (by omega) (by omega)) (by show z.length + 1 ≤ 1000; omega)) fun v6 H6 e6 h6 => ?_
      refine w_asg (ew_I (ew_var (P := rInt r) rfl rfl) ew_i (cdiv (by decide) (by decide))) fun v7 H7 e7 h7 => ?_
      have h7' : v7 = .int (r / 26) := h7
      subst h7'
      have h6' := h6.1
      subst h6'
      refine ⟨_, _, _, rfl, e5.trans (e6.trans e7), h6.2, ?_⟩
      have l1 : ∀ a b : Str, (a ++ b).length = a.length + b.length := fun a b => Array.size_append
      rw [l1, lz]
      rfl
    · obtain ⟨r, z, y7, rfl, e5, oz, lz⟩ := hw
      refine w_app (e5 R _ gR) (ev_var rfl) (ew_var (P := rStr z) rfl ⟨rfl, oz⟩) (by rw [← aR.len]; omega) fun v H6 e6 hv => ?_
      exact ⟨xs ++ [v], ns ++ [z], _, _, _, _, rfl, B.trans ((stp_ex (e5.trans e6)).trans (stp_upd (by simp))), upd_same, (Al.fl aR).snoc (Fl.fl hv), by simp [lx]⟩
  · obtain ⟨xs, ns, y4, y5, y6, y7, rfl, B, gR, aR, lx⟩ := hw
    obtain ⟨x, gx⟩ : ∃ x, ds[1]? = some x := ⟨_, List.getElem?_eq_getElem (by omega)⟩
    have ix : atI ds 1 = some x := atI_of (j := 1) gx
    have hd : ∀ {H5 : Hp}, Ex H' H5 → rL rInt ds v0 H5 := fun e => Kp.kp ((B.trans hds_ex).trans e) h0
    have hns : ∀ {H5 : Hp}, Ex H' H5 → rL rStr ns (.ref R) H5 := fun e => ⟨R, xs, rfl, e R _ gR, aR.fl⟩
    have lm : ns.length = m := by omega
    refine q_whenP (evp_or (et_t (ew_eqI (ew_I (ew_ixL (ew_var rfl (hd (Ex.refl _))) ew_i ix) ew_i (by decide)) ew_i)) fun _ => evp_t (ew_ltC (ew_lenSet (ew_var rfl (hns (Ex.refl _))) (by omega)) (ew_var (P := rInt (m : Int)) rfl rfl))) (fun _ H3 e3 => ?_) (fun hb H3 e3 => ?_)
    · exact w_ret (ew_call2 (ew_I (ew_ixL (ew_var rfl (hd e3)) ew_i ix) ew_i (cdiv (by decide) (by decide))) (ew_var (P := rInt (m : Int)) rfl rfl) fun x0 x1 H4 e4 p0 p1 => use_words p0 p1 hm) fun v H4 e4 hv => q v H4 ((B.trans hds_ex).trans (e3.trans e4)) hv
    · have nd : ns.Nodup := by
        rcases hb with hb | ⟨c, ⟨_, hc⟩, hb⟩
        · cases hb
        · refine hc ?_
          have := of_decide_eq_false hb.symm
          omega
      exact w_ret (ew_var (P := rWords m) rfl ⟨ns, ⟨lm, nd⟩, hns e3⟩) fun v H4 e4 hv => q v H4 ((B.trans hds_ex).trans (e3.trans e4)) hv
end
end Am
/-! _law_net. -/
namespace Am
open PySem PySem.Spec PyProof.Rows L2 Evl
/-- an arrow that runs up -/
def UpA (ns : List Str) (rs : List Int) (p : Str × Str) : Prop := ∃ (j k : Nat) (x y : Int), ns[j]? = some p.1 ∧ ns[k]? = some p.2 ∧ rs[j]? = some x ∧ rs[k]? = some y ∧ x < y
theorem netOk_of {ns : List Str} {rs : List Int} {ar : List (Str × Str)} (nd : ns.Nodup) (hl : ns.length ≤ 6) (h : ∀ p ∈ ar, UpA ns rs p) (ha : ar.length ≤ 36) : NetOk (ns, ar) where
  net := {
    nd := nd
    mem := fun a b hab => by
      obtain ⟨j, k, x, y, h1, h2, _⟩ := h (a, b) hab
      exact ⟨List.mem_of_getElem? h1, List.mem_of_getElem? h2⟩
    up := ⟨fun a => rs.getD (ns.idxOf a) 0, fun a b hab => by
      obtain ⟨j, k, x, y, h1, h2, h3, h4, h5⟩ := h (a, b) hab
      have ix : ∀ {i : Nat} {z : Str}, ns[i]? = some z → ns.idxOf z = i := fun {i z} hz => by
        have m := List.idxOf_lt_length_of_mem (List.mem_of_getElem? hz)
        have e : ns[ns.idxOf z]? = some z := by rw [List.getElem?_eq_getElem m, List.getElem_idxOf]
        exact nd_at nd e hz
      show rs.getD (ns.idxOf a) 0 < rs.getD (ns.idxOf b) 0
      rw [ix h1, ix h2, List.getD_eq_getElem?_getD, List.getD_eq_getElem?_getD, h3, h4]
      exact h5⟩ }
  few := hl
  fewA := Nat.le_trans ha (by decide)
theorem cell_ok : ∀ j k : Fin 6, 0 ≤ 4 + (if ((k.val : Nat) : Int) > (j.val : Int) then (k.val : Int) else (j.val : Int)) * ((if ((k.val : Nat) : Int) > (j.val : Int) then (k.val : Int) else (j.val : Int)) - 1) / 2 + (if ((k.val : Nat) : Int) < (j.val : Int) then (k.val : Int) else (j.val : Int)) ∧
    4 + (if ((k.val : Nat) : Int) > (j.val : Int) then (k.val : Int) else (j.val : Int)) * ((if ((k.val : Nat) : Int) > (j.val : Int) then (k.val : Int) else (j.val : Int)) - 1) / 2 + (if ((k.val : Nat) : Int) < (j.val : Int) then (k.val : Int) else (j.val : Int)) < 63 := by decide +kernel
theorem atI_in {α : Type} {as : List α} {i : Int} (h0 : 0 ≤ i) (h1 : i < (as.length : Int)) : ∃ a, atI as i = some a := by
  have e : i = ((i.toNat : Nat) : Int) := by omega
  rw [e]
  exact ⟨_, atI_of (List.getElem?_eq_getElem (by omega))⟩
section
variable {α : Type} {R : Rep α} {σ : L2.St} {H : Hp} {ta tb te : TE} {tr : TA}
theorem ewa_al0 : EwA tNil σ H (fun vs H => Al R [] vs H) := fun H1 _ Q q => q [] H1 (Ex.refl H1) .nil
theorem ewa_al1 [k : ∀ a, Kp (R a)] {a : α} {as : List α} (h : Ew te σ H (R a)) (hr : EwA tr σ H (fun vs H => Al R as vs H)) : EwA (tCons te tr) σ H (fun vs H => Al R (a :: as) vs H) := fun H1 e Q q =>
  h H1 e _ fun v H2 e2 hv => hr H2 (e.trans e2) _ fun vs H3 e3 hvs => q _ H3 (e2.trans e3) (.cons ((k a).kp e3 hv) hvs)
theorem ewn_lstA [k : ∀ a, Kp (R a)] {as : List α} (h : EwA tr σ H (fun vs H => Al R as vs H)) (hz : as.length ≤ 1000) : Ewn (tLst tr) σ H (rL R as) := fun H1 e Q q =>
  h H1 e _ fun vs H2 e2 hvs => ⟨by rw [← Al.len hvs]; exact Nat.le_trans hz (by decide), fun p hp => q p _ (fresh_back e2 hp) (e2.trans (Ex.new hp)) ⟨p, vs, rfl, upd_same, Al.kp (Ex.new hp) hvs⟩⟩
theorem ew_max2 {i j : Int} (ha : Ew ta σ H (rInt i)) (hb : Ew tb σ H (rInt j)) : Ew (tCB (fun xs H Q => ∃ i j, xs = [.int i, .int j] ∧ Q (.int (if j > i then j else i)) H) (tCons ta (tCons tb tNil))) σ H (rInt (if j > i then j else i)) := fun H1 e Q q =>
  ha H1 e _ fun x H2 e2 hx => hb H2 (e.trans e2) _ fun y H3 e3 hy => by
    have hx' : x = .int i := hx
    have hy' : y = .int j := hy
    subst hx' hy'
    exact ⟨i, j, rfl, q _ H3 (e2.trans e3) rfl⟩
theorem ew_min2 {i j : Int} (ha : Ew ta σ H (rInt i)) (hb : Ew tb σ H (rInt j)) : Ew (tCB (fun xs H Q => ∃ i j, xs = [.int i, .int j] ∧ Q (.int (if j < i then j else i)) H) (tCons ta (tCons tb tNil))) σ H (rInt (if j < i then j else i)) := fun H1 e Q q =>
  ha H1 e _ fun x H2 e2 hx => hb H2 (e.trans e2) _ fun y H3 e3 hy => by
    have hx' : x = .int i := hx
    have hy' : y = .int j := hy
    subst hx' hy'
    exact ⟨i, j, rfl, q _ H3 (e2.trans e3) rfl⟩
end
section
variable {P : Program} {w : World} {K : PySem.W.Frag} {mg : Str → Option Value} {base : Heap}
def rNetX : VP := rSome (fun N : NetD => NetOk N ∧ 2 ≤ N.1.length) rNet
instance : Kp rNetX := by
  unfold rNetX
  exact inferInstance
def spNet : Sp := fun vs H Q _ => ∃ ds : List Int, ∃ v0, vs = [v0, .int 2, .int 6] ∧ rL rInt ds v0 H ∧ ds.length = 63 ∧ Ret rNetX H Q
theorem use_net {ds : List Int} {v0 v1 v2 : V} {H : Hp} (h0 : rL rInt ds v0 H) (hl : ds.length = 63) (h1 : rInt 2 v1 H) (h2 : rInt 6 v2 H) : Gives spNet [v0, v1, v2] H rNetX := fun Q k E => by
  have e1 : v1 = .int 2 := h1
  have e2 : v2 = .int 6 := h2
  subst e1 e2
  exact ⟨ds, v0, rfl, h0, hl, k⟩
theorem sc__law_net : FnScope ["_law_draws_here", "_law_least", "_law_most", "_law_many", "_law_names_here", "_law_ranks_here", "_law_thick", "_law_arrows", "_law_j", "_law_k", "_law_cell"] ["_law_draws_here", "_law_least", "_law_most"] (defScope (top 36)) := ⟨rfl, rfl, rfl, by decide +kernel, rfl, by decide +kernel, by decide +kernel⟩
theorem ok_net (T : Txt K mg) : OkD P w K mg base 3 "_law_net" ["_law_draws_here", "_law_least", "_law_most"] spNet := by
  have G__law_names := ok_names (P := P) (w := w) (base := base) T
  have G__law_ranks := ok_ranks (P := P) (w := w) (base := base) T
  refine T.d__law_net.ok sc__law_net (fun vs H Q E h => ?_) (fun cdv A outer s H vs Q E hr h => ?_)
  · obtain ⟨_, _, rfl, _⟩ := h
    rfl
  obtain ⟨ds, v0, rfl, h0, hl, q⟩ := h
  refine ⟨_, (pss_cons (ps_set (i := 3) sc__law_net.nd rfl (Or.inl rfl) (pe_op op_add (pv 1) (pe_op op_mod (pe_ix (kx_list K) (pv 0) pe_int (fun _ _ => rfl)) (pe_op op_add (pe_op op_sub (pv 2) (pv 1)) pe_int))))
      (pss_cons (ps_set (i := 4) sc__law_net.nd rfl (Or.inl rfl) (pe_callD G__law_names hr (pa_cons (pv 0) (pa_cons (pv 3) pa_nil))))
      (pss_cons (ps_set (i := 5) sc__law_net.nd rfl (Or.inl rfl) (pe_callD G__law_ranks hr (pa_cons (pe_ix (kx_list K) (pv 0) pe_int (fun _ _ => rfl)) (pa_cons (pv 3) pa_nil))))
      (pss_cons (ps_set (i := 6) sc__law_net.nd rfl (Or.inl rfl) (pe_ix (kx_list K) (pe_lst (pa_cons pe_int (pa_cons pe_int (pa_cons pe_int (pa_cons pe_int (pa_cons pe_int (pa_cons pe_int pa_nil))))))) (pe_op op_mod (pe_ix (kx_list K) (pv 0) pe_int (fun _ _ => rfl)) pe_int) (fun _ _ => rfl)))
      (pss_cons (ps_set (i := 7) sc__law_net.nd rfl (Or.inl rfl) (pe_lst pa_nil))
      (pss_cons (ps_for PassesOwn.never rfl (pi_range1 (by rfl) T.b_range (pa_cons (pv 3) pa_nil)) (pg_name (i := 8) sc__law_net.nd rfl (Or.inl rfl))
      (pss_one (ps_for PassesOwn.never rfl (pi_range1 (by rfl) T.b_range (pa_cons (pv 3) pa_nil)) (pg_name (i := 9) sc__law_net.nd rfl (Or.inl rfl))
      (pss_cons (ps_set (i := 10) sc__law_net.nd rfl (Or.inl rfl) (pe_ix (kx_list K) (pv 0) (pe_op op_add (pe_op op_add pe_int (pe_op op_fdivW (pe_op op_mul (pe_callB (call_max2 rfl) (by rfl) T.b_max (by decide +kernel) (pa_cons (pv 8) (pa_cons (pv 9) pa_nil))) (pe_op op_sub (pe_callB (call_max2 rfl) (by rfl) T.b_max (by decide +kernel) (pa_cons (pv 8) (pa_cons (pv 9) pa_nil))) pe_int)) pe_int)) (pe_callB (call_min2 rfl) (by rfl) T.b_min (by decide +kernel) (pa_cons (pv 8) (pa_cons (pv 9) pa_nil)))) (fun _ _ => rfl)))
      (pss_one (ps_if (PW.pt (pw_and (pt_cmpR op_lt (pe_ix (kx_list K) (pv 5) (pv 8) (fun _ _ => rfl)) (pe_ix (kx_list K) (pv 5) (pv 9) (fun _ _ => rfl)) (nomark _)) (pw_and1 (pt_cmpR op_lt (pe_op op_mod (pv 10) pe_int) (pv 6) (nomark _)))))
      (pss_one (ps_expr (pe_bm PySem.F.plainAttrs_list PySem.F.slot_list_append PySem.F.type_list_append mt_append (pv 7) (pa_cons (pe_tup (pa_cons (pe_ix (kx_list K) (pv 4) (pv 8) (fun _ _ => rfl)) (pa_cons (pe_ix (kx_list K) (pv 4) (pv 9) (fun _ _ => rfl)) pa_nil))) pa_nil)))) pss_nil))))))
      (pss_one (ps_ret (pe_tup (pa_cons (pe_callTy (k_tuple K) (by rfl) T.b_tuple (by decide +kernel) (pa_cons (pv 4) pa_nil)) (pa_cons (pe_callTy (k_tuple K) (by rfl) T.b_tuple (by decide +kernel) (pa_cons (pv 7) pa_nil)) pa_nil))))))))))), ?_⟩
  obtain ⟨x0, ix0⟩ : ∃ x, atI ds 0 = some x := atI_in (by decide) (by omega)
  obtain ⟨x2, ix2⟩ : ∃ x, atI ds 2 = some x := atI_in (by decide) (by omega)
  obtain ⟨x3, ix3⟩ : ∃ x, atI ds 3 = some x := atI_in (by decide) (by omega)
  obtain ⟨m1, m2⟩ := modInt x0 (j := 6 - 2 + 1) (by decide)
  have em : 2 + x0 % (6 - 2 + 1) = ((2 + (x0 % (6 - 2 + 1)).toNat : Nat) : Int) := by omega
  refine q_asgW (Ew.toI (ew_I0 (ew_var (P := rInt 2) rfl rfl) (ew_I (ew_ixL (ew_var rfl h0) ew_i ix0) (ew_I0 (ew_I0 (ew_var (P := rInt 6) rfl rfl) (ew_var (P := rInt 2) rfl rfl)) ew_i) (by decide))) em) fun v3 H1 e1 h3 => ?_
  have hm6 : 2 + (x0 % (6 - 2 + 1)).toNat ≤ 6 := by omega
  have hm2 : 2 ≤ 2 + (x0 % (6 - 2 + 1)).toNat := by omega
  generalize 2 + (x0 % (6 - 2 + 1)).toNat = m at *
  have h3' : v3 = .int (m : Int) := h3
  subst h3'
  replace h0 := Kp.kp e1 h0
  refine q_asgW (ew_call2 (ew_var rfl h0) (ew_var (P := rInt (m : Int)) rfl rfl) fun a b H2 e2 p0 p1 => use_names p0 hl p1 hm6) fun v4 H2 e2 h4 => ?_
  obtain ⟨ns, ⟨nl, nnd⟩, h4⟩ := h4
  replace h0 := Kp.kp e2 h0
  refine q_asgW (ew_call2 (ew_ixL (ew_var rfl h0) ew_i ix2) (ew_var (P := rInt (m : Int)) rfl rfl) fun a b H2 e2 p0 p1 => use_ranks p0 p1 hm6) fun v5 H3 e3 h5 => ?_
  obtain ⟨rs, rl, h5⟩ := h5
  replace h0 := Kp.kp e3 h0
  replace h4 := Kp.kp e3 h4
  obtain ⟨t1, t2⟩ := modInt x3 (j := 6) (by decide)
  obtain ⟨th, ith⟩ : ∃ x, atI [4, 1, 2, 3, 2, (3 : Int)] (x3 % 6) = some x := atI_in (by omega) (by show _ < (6 : Int); omega)
  refine q_asgW (ew_ixL (R := rInt) (ewn_lstA (ewa_al1 ew_i (ewa_al1 ew_i (ewa_al1 ew_i (ewa_al1 ew_i (ewa_al1 ew_i (ewa_al1 ew_i ewa_al0)))))) (by decide)).ew (ew_I (ew_ixL (ew_var rfl h0) ew_i ix3) ew_i (by decide)) ith) fun v6 H4 e4 h6 => ?_
  have h6' : v6 = .int th := h6
  subst h6'
  replace h0 := Kp.kp e4 h0
  replace h4 := Kp.kp e4 h4
  replace h5 := Kp.kp e4 h5
  refine q_asgN (ewn_lst0 (R := rPair)) fun A7 H5 nA e5 hA => ?_
  obtain ⟨A', xs0, eA, hA, aA⟩ := hA
  cases eA
  cases aA
  have hin : ∀ a ∈ [A7], H4 a = none := by simpa using nA
  have E4 := e1.trans (e2.trans (e3.trans e4))
  refine q_forR1 (n := (m : Int)) (ea_cons (ev_int (ew_var rfl rfl)) ea_nil) (by omega) (fun j σ' H' => ∃ xs ar y8 y9 y10, σ' = [some v0, some (.int 2), some (.int 6), some (.int (m : Int)), some v4, some v5, some (.int th), some (.ref A7), y8, y9, y10] ∧ Ex H4 (hds [A7] H') ∧ H' A7 = some (.lst xs) ∧ Al rPair ar xs (hds [A7] H') ∧ (∀ p ∈ ar, UpA ns rs p) ∧ ar.length ≤ j * 6)
    (fun H6 e6 => ⟨[], [], _, _, _, rfl, ex_hds (e5.trans e6) hin, e6 A7 _ hA, .nil, by simp, by simp⟩) (fun j σ' H' hj hw => ?_) fun σ' H' hw => ?_
  · obtain ⟨xs, ar, y8, y9, y10, rfl, B, gA, aA, up, la⟩ := hw
    have hj' : j < 6 := by omega
    refine s_forR1 (n := (m : Int)) (ea_cons (ev_int (ew_var rfl rfl)) ea_nil) (by omega) (fun k σ' H' => ∃ xs ar y9 y10, σ' = [some v0, some (.int 2), some (.int 6), some (.int (m : Int)), some v4, some v5, some (.int th), some (.ref A7), some (.int (j : Int)), y9, y10] ∧ Ex H4 (hds [A7] H') ∧ H' A7 = some (.lst xs) ∧ Al rPair ar xs (hds [A7] H') ∧ (∀ p ∈ ar, UpA ns rs p) ∧ ar.length ≤ j * 6 + k)
      (fun H6 e6 => ⟨xs, ar, _, _, rfl, B.trans (stp_ex e6), e6 A7 _ gA, aA.kp (stp_ex e6), up, by omega⟩) (fun k σ' H6 hk hw => ?_) fun σ' H6 hw => ?_
    · obtain ⟨xs, ar, y9, y10, rfl, B, gA, aA, up, la⟩ := hw
      have hk' : k < 6 := by omega
      have hC := cell_ok ⟨j, hj'⟩ ⟨k, hk'⟩
      obtain ⟨cell, ic⟩ : ∃ x, atI ds (4 + (if (k : Int) > (j : Int) then (k : Int) else (j : Int)) * ((if (k : Int) > (j : Int) then (k : Int) else (j : Int)) - 1) / 2 + (if (k : Int) < (j : Int) then (k : Int) else (j : Int))) = some x := atI_in hC.1 (by rw [hl]; exact hC.2)
      have H0 := B.trans (hds_ex (ps := [A7]) (H := H6))
      have e8 : ∀ {H9 : Hp}, Ew (tVar 8) ([some v0, some (.int 2), some (.int 6), some (.int (m : Int)), some v4, some v5, some (.int th), some (.ref A7), some (.int (j : Int)), some (.int (k : Int)), y10] : L2.St) H9 (rInt (j : Int)) := ew_var rfl rfl
      have e9 : ∀ {H9 : Hp}, Ew (tVar 9) ([some v0, some (.int 2), some (.int 6), some (.int (m : Int)), some v4, some v5, some (.int th), some (.ref A7), some (.int (j : Int)), some (.int (k : Int)), y10] : L2.St) H9 (rInt (k : Int)) := ew_var rfl rfl
      refine q_asgW (ew_ixL (ew_var rfl (Kp.kp H0 h0)) (ew_I0 (ew_I0 ew_i (ew_I (ew_I (ew_max2 e8 e9) (ew_I0 (ew_max2 e8 e9) ew_i) (.inl ⟨by split <;> omega, by split <;> omega⟩)) ew_i (cdiv (by decide) (by decide)))) (ew_min2 e8 e9)) ic) fun v10 H7 e7 h10 => ?_
      have h10' : v10 = .int cell := h10
      subst h10'
      obtain ⟨rj, gj⟩ : ∃ x, rs[j]? = some x := ⟨_, List.getElem?_eq_getElem (by omega)⟩
      obtain ⟨rk, gk⟩ : ∃ x, rs[k]? = some x := ⟨_, List.getElem?_eq_getElem (by omega)⟩
      obtain ⟨nj, oj⟩ : ∃ x, ns[j]? = some x := ⟨_, List.getElem?_eq_getElem (by omega)⟩
      obtain ⟨nk, ok⟩ : ∃ x, ns[k]? = some x := ⟨_, List.getElem?_eq_getElem (by omega)⟩
      have H7e := H0.trans e7
      refine s_when (et_and (et_t (ew_I0b (ew_ixL (ew_var rfl (Kp.kp H7e h5)) (ew_var (P := rInt (j : Int)) rfl rfl) (atI_of gj)) (ew_ixL (ew_var rfl (Kp.kp H7e h5)) (ew_var (P := rInt (k : Int)) rfl rfl) (atI_of gk)))) fun _ => et_t (ew_I0b (ew_I (ew_var (P := rInt cell) rfl rfl) ew_i (by decide)) (ew_var (P := rInt th) rfl rfl))) (fun hb H8 e8' => ?_) (fun hb H8 e8' => ?_)
      · rw [Bool.and_eq_true, decide_eq_true_iff] at hb
        have H8e := H7e.trans e8'
        have al : ar.length < 60 := by omega
        refine w_appN ((e7.trans e8') A7 _ gA) (ev_var rfl) (ewn_tup2 (R := rStr) (S := rStr) (a := nj) (b := nk) (ew_ixL (ew_var rfl (Kp.kp H8e h4)) (ew_var (P := rInt (j : Int)) rfl rfl) (atI_of oj)) (ew_ixL (ew_var rfl (Kp.kp H8e h4)) (ew_var (P := rInt (k : Int)) rfl rfl) (atI_of ok))) (by rw [← aA.len]; omega) fun p H9 np e9' hp => ?_
        have st : Stp [A7] H6 (upd H9 A7 (.lst (xs ++ [.ref p]))) := (stp_ex (e7.trans (e8'.trans e9'))).trans (stp_upd (by simp))
        refine ⟨xs ++ [.ref p], ar ++ [(nj, nk)], _, _, rfl, B.trans st, upd_same, (aA.kp st).snoc ?_, fun u hu => ?_, by simp; omega⟩
        · rw [hds_upd (by simp)]
          refine sh0_hds hp (fun a ha => ?_) (by simp)
          have ea : a = A7 := by simpa using ha
          subst ea
          exact .inl ⟨_, (e7.trans (e8'.trans e9')) a _ gA⟩
        · rcases List.mem_append.mp hu with h | h
          · exact up u h
          · have eu : u = (nj, nk) := by simpa using h
            subst eu
            exact ⟨j, k, rj, rk, oj, ok, gj, gk, hb.1⟩
      · exact ⟨xs, ar, _, _, rfl, B.trans (stp_ex (e7.trans e8')), (e7.trans e8') A7 _ gA, aA.kp (stp_ex (e7.trans e8')), up, by omega⟩
    · obtain ⟨xs, ar, y9, y10, rfl, B, gA, aA, up, la⟩ := hw
      exact ⟨xs, ar, _, _, _, rfl, B, gA, aA, up, by omega⟩
  · obtain ⟨xs, ar, y8, y9, y10, rfl, B, gA, aA, up, la⟩ := hw
    have H0 := B.trans (hds_ex (ps := [A7]) (H := H'))
    have h7 : rL rPair ar (.ref A7) H' := ⟨A7, xs, rfl, gA, aA.kp hds_ex⟩
    refine w_ret (ewn_tup2 (R := rT rStr) (S := rT rPair) (a := ns) (b := ar) (ewn_tuple (ew_var rfl (Kp.kp H0 h4))).ew (ewn_tuple (ew_var rfl h7)).ew).ew fun v H6 e6 hv => q v H6 (E4.trans (H0.trans e6)) ⟨(ns, ar), ⟨netOk_of nnd (by omega) up (by omega), by show 2 ≤ ns.length; omega⟩, hv⟩
end
end Am
/-! _law_draws, law. -/
namespace Am
open PySem PySem.Spec PyProof.Rows L2 Evl
/-- the script -/
def rScr (K : PySem.W.Frag) (ns : List Int) : VP := fun v H => ∃ a, v = .ref a ∧ SqL K H a (ns.map V.int)
instance {K : PySem.W.Frag} {ns : List Int} : Kp (rScr K ns) := ⟨fun e ⟨a, h1, h2⟩ => ⟨a, h1, ex_l e h2⟩⟩
section
variable {K : PySem.W.Frag} {σ : L2.St} {H : Hp} {ta tb te : TE} {D : Ends} {tu tz : TS}
theorem ewn_slScr {ns : List Int} {t1 t2 : TO} {lo hi : Option Int} (ha : Ew ta σ H (rScr K ns)) (h1 : EvO t1 σ H lo) (h2 : EvO t2 σ H hi) : Ewn (tSl (rSlL K) ta t1 t2) σ H (rL rInt (cutA ns lo hi)) := fun H1 e Q q =>
  ha H1 e _ fun x H2 e2 hx => h1 H2 (e.trans e2) _ fun H3 e3 => h2 H3 ((e.trans e2).trans e3) _ fun H4 e4 => by
    obtain ⟨a, g1, g2⟩ := Kp.kp (P := rScr K ns) (e3.trans e4) hx
    refine ⟨a, _, g1, g2, fun l hl => q l _ (fresh_back ((e2.trans e3).trans e4) hl) (((e2.trans e3).trans e4).trans (Ex.new hl)) ⟨l, _, rfl, upd_same, ?_⟩⟩
    have e5 : cutV (ns.map V.int) lo hi = (cutA ns lo hi).map V.int := by
      unfold cutV cutA
      rw [List.length_map, List.map_take, List.map_drop]
    rw [e5]
    exact al_ints _
theorem ew_lenScr {ns : List Int} (ha : Ew ta σ H (rScr K ns)) : Ew (tCB (rLenS K) (tCons ta tNil)) σ H (rInt (ns.length : Int)) := fun H1 e Q q =>
  ha H1 e _ fun x H2 e2 ⟨a, g1, g2⟩ => ⟨a, _, by rw [g1], .inl g2, q _ H2 e2 (by rw [List.length_map]; rfl)⟩
theorem ew_intB {b : Bool} (ha : Ew ta σ H (rBool b)) : Ew (tCB (fun xs H Q => (∃ i, xs = [.int i] ∧ Q (.int i) H) ∨ ∃ k, xs = [.bl k] ∧ Q (.int (if k then 1 else 0)) H) (tCons ta tNil)) σ H (rInt (if b then 1 else 0)) := fun H1 e Q q =>
  ha H1 e _ fun x H2 e2 hx => by
    have hx' : x = .bl b := hx
    subst hx'
    exact .inr ⟨b, rfl, q _ H2 e2 rfl⟩
theorem ewn_rep {as : List Int} {k : Int} (ha : Ew ta σ H (rL rInt as)) (hb : Ew tb σ H (rInt k)) (hk : 0 ≤ k ∧ k ≤ 1) (hz : as.length ≤ 100) : Ewn (tOp rRep ta tb) σ H (rL rInt (List.replicate k.toNat as).flatten) :=
  ewn_op ha hb fun x y H1 _ ⟨p, xs, h1, h2, h3⟩ hy Q q => ⟨p, k, xs, h1, hy, h2, by omega, by omega, by
    rw [← h3.len]
    refine Nat.le_trans (Nat.mul_le_mul hz (show k.toNat ≤ 1 by omega)) (by decide), fun l hl => q l _ hl (Ex.new hl) ⟨l, _, rfl, upd_same, by
    have e : (List.replicate k.toNat xs).flatten = ((List.replicate k.toNat as).flatten).map V.int := by
      rw [al_int h3, List.map_flatten, List.map_replicate]
    rw [e]
    exact al_ints _⟩⟩
/-- xs[i] = e, ints -/
theorem q_setI {p : Addr} {xs : List V} {i : Int} {j : Nat} {P : VP} (hp : H p = some (.lst xs)) (hv : Ew te σ H P) (ha : Ev ta σ H (.ref p)) (hi : Ew tb σ H (rInt i)) (hj : ixN xs.length i = some j) (k : ∀ v H1, Ex H H1 → P v H1 → D.nx σ (upd H1 p (.lst (xs.set j v)))) [kp : Kp P] : tAsg te (gSub ta tb rSetL) D σ H :=
  hv H (Ex.refl H) _ fun v H1 e1 h1 => ha H1 e1 _ fun H2 e2 => ev_int hi H2 (e1.trans e2) _ fun H3 e3 => ⟨p, xs, i, j, rfl, rfl, (e1.trans (e2.trans e3)) p _ hp, hj, k v H3 (e1.trans (e2.trans e3)) (kp.kp (e2.trans e3) h1)⟩
end
theorem Al.setI {as : List Int} {xs : List V} {H : Hp} {j : Nat} {x : Int} (h : Al rInt as xs H) : Al rInt (as.set j x) (xs.set j (.int x)) H := by
  rw [al_int h, show V.int x = (fun i => V.int i) x from rfl, ← List.map_set]
  exact al_ints _
theorem ixN_nat {n j : Nat} (h : j < n) : ixN n (j : Int) = some j := by
  unfold ixN
  rw [if_pos (by omega), if_pos (by omega), Int.toNat_natCast]
section
variable {P : Program} {w : World} {K : PySem.W.Frag} {mg : Str → Option Value} {base : Heap}
def rDraws : VP := rSome (fun ds : List Int => ds.length = 63) (rL rInt)
instance : Kp rDraws := by
  unfold rDraws
  exact inferInstance
def spDraws (K : PySem.W.Frag) : Sp := fun vs H Q _ => ∃ ns v0, vs = [v0] ∧ rScr K ns v0 H ∧ ns.length ≤ 63 ∧ Ret rDraws H Q
theorem use_draws {ns : List Int} {v0 : V} {H : Hp} (h0 : rScr K ns v0 H) (hl : ns.length ≤ 63) : Gives (spDraws K) [v0] H rDraws := fun Q k E => ⟨ns, v0, rfl, h0, hl, k⟩
theorem sc__law_draws : FnScope ["_law_script", "_law_cells", "_law_many", "_law_way", "_law_left", "_law_draws_here", "_law_k", "_law_at", "_law_once"] ["_law_script"] (defScope (top 32)) := ⟨rfl, rfl, rfl, by decide +kernel, rfl, by decide +kernel, by decide +kernel⟩
theorem ok_draws (T : Txt K mg) : OkD P w K mg base 1 "_law_draws" ["_law_script"] (spDraws K) := by
  refine T.d__law_draws.ok sc__law_draws (fun vs H Q E h => ?_) (fun cdv A outer s H vs Q E hr h => ?_)
  · obtain ⟨_, _, rfl, _⟩ := h
    rfl
  obtain ⟨ns, v0, rfl, h0, hl, q⟩ := h
  refine ⟨_, (pss_cons (ps_set (i := 1) sc__law_draws.nd rfl (Or.inl rfl) (pe_op op_cat (pe_callTy (k_list K) (by rfl) T.b_list (by decide +kernel) (pa_cons (pe_slice (k_sl K) (pv 0) po_none (po_some pe_int)) pa_nil)) (pe_op op_rep (pe_lst (pa_cons pe_int pa_nil)) (pe_callTy call_int1 (by rfl) T.b_int (by decide +kernel) (pa_cons (pe_cmpR op_eq (pe_callB (k_len K) (by rfl) T.b_len PySem.boot_len (pa_cons (pv 0) pa_nil)) pe_int (nomark _)) pa_nil)))))
      (pss_cons (ps_set (i := 2) sc__law_draws.nd rfl (Or.inl rfl) (pe_callB (k_len K) (by rfl) T.b_len PySem.boot_len (pa_cons (pv 1) pa_nil)))
      (pss_cons (ps_set (i := 3) sc__law_draws.nd rfl (Or.inl rfl) (pe_op op_mod (pe_ix (kx_list K) (pv 1) pe_int (fun _ _ => rfl)) pe_int))
      (pss_cons (ps_asg (pe_op op_fdivW (pe_ix (kx_list K) (pv 1) pe_int (fun _ _ => rfl)) pe_int) (pg_sub (pv 1) pe_int set_list))
      (pss_cons (ps_set (i := 4) sc__law_draws.nd rfl (Or.inl rfl) (pe_callTy (k_list K) (by rfl) T.b_list (by decide +kernel) (pa_cons (pv 1) pa_nil)))
      (pss_cons (ps_set (i := 5) sc__law_draws.nd rfl (Or.inl rfl) (pe_lst pa_nil))
      (pss_cons (ps_for PassesOwn.never rfl (pi_range1 (by rfl) T.b_range (pa_cons pe_int pa_nil)) (pg_name (i := 6) sc__law_draws.nd rfl (Or.inl rfl))
      (pss_cons (ps_set (i := 7) sc__law_draws.nd rfl (Or.inl rfl) (pe_op op_mod (pv 6) (pv 2)))
      (pss_cons (ps_set (i := 8) sc__law_draws.nd rfl (Or.inl rfl) (pe_op op_mod (pe_op op_mul (pe_op op_add (pe_op op_add (pe_op op_mod (pe_ix (kx_list K) (pv 1) (pv 7) (fun _ _ => rfl)) pe_int) pe_int) (pe_op op_mul (pv 6) (pv 6))) (pe_op op_add pe_int (pe_op op_mul pe_int (pv 6)))) pe_int))
      (pss_one (ps_if (PW.pt (pw_and (pt_cmpR op_eq (pv 3) pe_int (nomark _)) (pw_and1 (pt_cmpR op_gt (pe_ix (kx_list K) (pv 4) (pv 7) (fun _ _ => rfl)) pe_int (nomark _)))))
      (pss_cons (ps_expr (pe_bm PySem.F.plainAttrs_list PySem.F.slot_list_append PySem.F.type_list_append mt_append (pv 5) (pa_cons (pe_op op_mod (pe_ix (kx_list K) (pv 4) (pv 7) (fun _ _ => rfl)) pe_int) pa_nil)))
      (pss_one (ps_asg (pe_op op_fdivW (pe_ix (kx_list K) (pv 4) (pv 7) (fun _ _ => rfl)) pe_int) (pg_sub (pv 4) (pv 7) set_list)))) (pss_one (ps_expr (pe_bm PySem.F.plainAttrs_list PySem.F.slot_list_append PySem.F.type_list_append mt_append (pv 5) (pa_cons (pe_op op_mod (pe_op op_mul (pe_op op_add (pe_op op_add (pv 8) (pe_op op_mul pe_int (pv 6))) pe_int) (pe_op op_add pe_int (pe_op op_mul (pe_op op_mul pe_int (pv 6)) (pv 6)))) pe_int) pa_nil)))))))))
      (pss_one (ps_ret (pv 5)))))))))), ?_⟩
  have ec : cutA ns none (some 63) = ns := by
    unfold cutA
    rw [HT.sIx_none, show HT.sIx ns.length ns.length (some 63) = min 63 ns.length from HT.sIx_nat ns.length ns.length 63, List.drop_zero]
    exact List.take_of_length_le (by omega)
  refine q_asgN (ewn_cat (R := rInt) (as := ns) (ewn_list ((ewn_slScr (ew_var rfl h0) eo_none (eo_int ew_i)).toL ec).ew).ew (ewn_rep (as := [60023]) (ewn_lst1 (R := rInt) ew_i).ew (ew_intB (ew_eqI (ew_lenScr (ew_var rfl h0)) ew_i)) (by split <;> decide) (by decide)).ew (by split <;> simp <;> omega)) fun C H1 nC e1 hC => ?_
  have hc1 : 1 ≤ (ns ++ (List.replicate (if decide ((ns.length : Int) = 0) = true then 1 else 0 : Int).toNat [(60023 : Int)]).flatten).length ∧ (ns ++ (List.replicate (if decide ((ns.length : Int) = 0) = true then 1 else 0 : Int).toNat [(60023 : Int)]).flatten).length ≤ 63 := by
    by_cases z : (ns.length : Int) = 0
    · rw [if_pos (decide_eq_true z)]
      simp
      omega
    · rw [if_neg (by simpa using z)]
      simp
      omega
  generalize (ns ++ (List.replicate (if decide ((ns.length : Int) = 0) = true then 1 else 0 : Int).toNat [(60023 : Int)]).flatten) = cs at *
  refine q_asgW (ew_lenL (ew_var rfl hC)) fun v2 H2 e2 h2 => ?_
  have h2' : v2 = .int (cs.length : Int) := h2
  subst h2'
  obtain ⟨x0, ix0⟩ : ∃ x, atI cs 0 = some x := atI_in (by decide) (by omega)
  replace hC := Kp.kp e2 hC
  refine q_asgW (ew_I (ew_ixL (ew_var rfl hC) ew_i ix0) ew_i (by decide)) fun v3 H3 e3 h3 => ?_
  have h3' : v3 = .int (x0 % 2) := h3
  subst h3'
  replace hC := Kp.kp e3 hC
  obtain ⟨C', xs, eC, gC, aC⟩ := id hC
  cases eC
  have E3 := e1.trans (e2.trans e3)
  refine q_setI (D := { nx := _, rt := _, bk := _, ct := _ }) (j := 0) gC (ew_I (ew_ixL (ew_var rfl hC) ew_i ix0) ew_i (cdiv (by decide) (by decide))) (ev_var rfl) ew_i (ixN_nat (n := xs.length) (j := 0) (by rw [← aC.len]; omega)) fun v H4 e4 hv => ?_
  have hv' : v = .int (x0 / 2) := hv
  subst hv'
  replace aC : ∀ {H : Hp}, Al rInt (cs.set 0 (x0 / 2)) (xs.set 0 (.int (x0 / 2))) H := fun {H} => Al.fl (Al.setI aC)
  have ncs : (cs.set 0 (x0 / 2)).length = cs.length := List.length_set
  have E4 : Ex H (upd H4 C (.lst (xs.set 0 (.int (x0 / 2))))) := Ex.mut (E3.trans e4) nC
  have gC4 : upd H4 C (.lst (xs.set 0 (.int (x0 / 2)))) C = some (.lst (xs.set 0 (.int (x0 / 2)))) := upd_same
  generalize upd H4 C (.lst (xs.set 0 (.int (x0 / 2)))) = H4' at *
  rw [← ncs] at hc1 ⊢
  generalize cs.set 0 (x0 / 2) = cc at *
  generalize xs.set 0 (.int (x0 / 2)) = xc at *
  refine q_asgN (ewn_list (R := rInt) (as := cc) (ew_var rfl ⟨C, xc, rfl, gC4, aC⟩)) fun L H5 nL e5 hL => ?_
  obtain ⟨L', ys0, eL, gL, aL⟩ := hL
  cases eL
  refine q_asgN (ewn_lst0 (R := rInt)) fun D H6 nD e6 hD => ?_
  obtain ⟨D', zs0, eD, gD, aD⟩ := hD
  cases eD
  cases aD
  have nLC : L ≠ C := (ne_of_none gC4 nL).symm
  have nDC : D ≠ C := (ne_of_none (e5 C _ gC4) nD).symm
  have nDL : D ≠ L := (ne_of_none gL nD).symm
  have hin : ∀ a ∈ [L, D], H4' a = none := fun a ha => by
    rcases List.mem_cons.mp ha with e | h
    · exact e ▸ nL
    · have e : a = D := by simpa using h
      exact e ▸ fresh_back e5 nD
  refine q_forR1 (n := (63 : Int)) (ea_cons (ev_int ew_i) ea_nil) (by omega) (fun k σ' H' => ∃ ls ys ds zs y6 y7 y8, σ' = [some v0, some (.ref C), some (.int (cc.length : Int)), some (.int (x0 % 2)), some (.ref L), some (.ref D), y6, y7, y8] ∧ Ex H4' (hds [L, D] H') ∧ H' L = some (.lst ys) ∧ H' D = some (.lst zs) ∧ Al rInt ls ys H' ∧ Al rInt ds zs H' ∧ ls.length = cc.length ∧ ds.length = k)
    (fun H7 e7 => ⟨cc, ys0, [], [], _, _, _, rfl, ex_hds (e5.trans (e6.trans e7)) hin, (e6.trans e7) L _ gL, e7 D _ gD, aL.fl, .nil, rfl, rfl⟩) (fun k σ' H' hk hw => ?_) fun σ' H' hw => ?_
  · obtain ⟨ls, ys, ds, zs, y6, y7, y8, rfl, B, gL, gD, aL, aD, ll, ld⟩ := hw
    have B' := B.trans hds_ex
    obtain ⟨m1, m2⟩ := modInt (k : Int) (j := (cc.length : Int)) (by omega)
    refine q_asgW (Ew.toI (ew_I (ew_var (P := rInt (k : Int)) rfl rfl) (ew_var (P := rInt (cc.length : Int)) rfl rfl) (by omega)) m1) fun v7 H8 e8 h7 => ?_
    generalize ((k : Int) % (cc.length : Int)).toNat = pt at *
    have h7' : v7 = .int (pt : Int) := h7
    subst h7'
    obtain ⟨c, gc⟩ : ∃ x, cc[pt]? = some x := ⟨_, List.getElem?_eq_getElem (by omega)⟩
    obtain ⟨l, gl⟩ : ∃ x, ls[pt]? = some x := ⟨_, List.getElem?_eq_getElem (by omega)⟩
    have hC8 : ∀ {H9 : Hp}, Ex H8 H9 → rL rInt cc (.ref C) H9 := fun e => ⟨C, xc, rfl, (B'.trans (e8.trans e)) C _ gC4, aC⟩
    have hL8 : ∀ {H9 : Hp}, Ex H8 H9 → rL rInt ls (.ref L) H9 := fun e => ⟨L, ys, rfl, (e8.trans e) L _ gL, aL.fl⟩
    have e6' : ∀ {σ : L2.St} {H9 : Hp}, σ[6]? = some (some (.int (k : Int))) → Ew (tVar 6) σ H9 (rInt (k : Int)) := fun h => ew_var h rfl
    have e7' : ∀ {σ : L2.St} {H9 : Hp}, σ[7]? = some (some (.int (pt : Int))) → Ew (tVar 7) σ H9 (rInt (pt : Int)) := fun h => ew_var h rfl
    have kb : (-(2 ^ 64) : Int) < (k : Int) ∧ (k : Int) < 2 ^ 64 := ⟨by omega, by omega⟩
    have k18 : 18 * (k : Int) * (k : Int) = 18 * ((k : Int) * (k : Int)) := Int.mul_assoc _ _ _
    have kk0 : 0 ≤ (k : Int) * (k : Int) := Int.mul_nonneg (by omega) (by omega)
    have kk1 : (k : Int) * (k : Int) ≤ 63 * 63 := Int.mul_le_mul (by omega) (by omega) (by omega) (by omega)
    refine q_asgW (ew_I (ew_I (ew_I0 (ew_I0 (ew_I (ew_ixL (ew_var rfl (hC8 (Ex.refl _))) (e7' rfl) (atI_of gc)) ew_i (by decide)) ew_i) (ew_I (e6' rfl) (e6' rfl) (.inl kb))) (ew_I0 ew_i (ew_I ew_i (e6' rfl) (.inl ⟨by decide, by decide⟩))) (.inr ⟨by omega, by omega⟩)) ew_i (by decide)) fun v8 H9 e9 h8 => ?_
    generalize (c % 2147483647 + 12011 + (k : Int) * (k : Int)) * (48271 + 614 * (k : Int)) % 2147483647 = on at *
    have h8' : v8 = .int on := h8
    subst h8'
    refine s_if (et_and (et_t (ew_eqI (ew_var (P := rInt (x0 % 2)) rfl rfl) ew_i)) fun _ => et_t (ew_I0b (ew_ixL (ew_var rfl (hL8 e9)) (e7' rfl) (atI_of gl)) ew_i)) (fun hb Ha ea => ?_) (fun hb Ha ea => ?_)
    · refine q_app' ((e8.trans (e9.trans ea)) D _ gD) (ev_var rfl) (ew_I (ew_ixL (ew_var rfl (hL8 (e9.trans ea))) (e7' rfl) (atI_of gl)) ew_i (by decide)) (by rw [← aD.len]; omega) fun v Hb eb hv => ?_
      have hLb : rL rInt ls (.ref L) (upd Hb D (.lst (zs ++ [v]))) := ⟨L, ys, rfl, by rw [upd_ne nDL.symm]; exact (e8.trans (e9.trans (ea.trans eb))) L _ gL, aL.fl⟩
      refine q_setI (j := pt) (P := rInt (l / 2147483647)) (by rw [upd_ne nDL.symm]; exact (e8.trans (e9.trans (ea.trans eb))) L _ gL) (ew_I (ew_ixL (ew_var rfl hLb) (e7' rfl) (atI_of gl)) ew_i ⟨by decide, by decide +kernel⟩) (ev_var rfl) (e7' rfl) (ixN_nat (by rw [← aL.len]; omega)) fun u Hc ec hu => ?_
      have hu' : u = .int (l / 2147483647) := hu
      subst hu'
      have st : Stp [L, D] H' (upd Hc L (.lst (ys.set pt (.int (l / 2147483647))))) := (stp_ex (e8.trans (e9.trans (ea.trans eb)))).trans ((stp_upd (a := D) (o := .lst (zs ++ [v])) (by simp)).trans ((stp_ex ec).trans (stp_upd (by simp))))
      exact ⟨ls.set pt (l / 2147483647), _, ds ++ [_], zs ++ [v], _, _, _, rfl, B.trans st, upd_same, by rw [upd_ne nDL]; exact ec D _ upd_same, Al.fl (Al.setI aL), (Al.fl aD).snoc (Fl.fl hv), by rw [List.length_set]; exact ll, by simp [ld]⟩
    · refine w_app ((e8.trans (e9.trans ea)) D _ gD) (ev_var rfl) (ew_I (ew_I (ew_I0 (ew_I0 (ew_var (P := rInt on) rfl rfl) (ew_I ew_i (e6' rfl) (.inl ⟨by decide, by decide⟩))) ew_i) (ew_I0 ew_i (ew_I (ew_I ew_i (e6' rfl) (.inl ⟨by decide, by decide⟩)) (e6' rfl) (.inr kb))) (.inr ⟨?_, ?_⟩)) ew_i (by decide)) (by rw [← aD.len]; omega) fun v Hb eb hv => ?_
      · rw [k18]
        omega
      · rw [k18]
        omega
      · have st : Stp [L, D] H' (upd Hb D (.lst (zs ++ [v]))) := (stp_ex (e8.trans (e9.trans (ea.trans eb)))).trans (stp_upd (by simp))
        exact ⟨ls, ys, ds ++ [_], zs ++ [v], _, _, _, rfl, B.trans st, by rw [upd_ne nDL.symm]; exact (e8.trans (e9.trans (ea.trans eb))) L _ gL, upd_same, aL.fl, (Al.fl aD).snoc (Fl.fl hv), ll, by simp [ld]⟩
  · obtain ⟨ls, ys, ds, zs, y6, y7, y8, rfl, B, gL, gD, aL, aD, ll, ld⟩ := hw
    exact w_ret (ew_var (P := rDraws) rfl ⟨ds, by show ds.length = 63; rw [ld]; rfl, D, zs, rfl, gD, aD⟩) fun v H7 e7 hv => q v H7 (E4.trans ((B.trans hds_ex).trans e7)) hv
/-! ### law -/
def spLaw (K : PySem.W.Frag) : Sp := fun vs H Q _ => ∃ ns v0, vs = [v0] ∧ rScr K ns v0 H ∧ ns.length ≤ 63 ∧ Ret (rBool true) H Q
theorem fn_of {x : Str} {st : Stmt} {N ps : List Str} {k : Nat} {sp : Sp} {fd : FuncData} (F : FunD K x x (defArgs st) (defBody st) (defScope st) [] [] (He.ga K x) fd) (S : FnScope N ps (defScope st)) (len : ∀ vs H Q E, sp vs H Q E → vs.length = ps.length)
    (hbody : ∀ (cdv : Value) (A : Around) (outer : List Env) (s : Shared) (H : Hp) (vs : List V) (Q : VK) (E : XK), Room k (A.deeper (envOfC x (defScope st) s.heap.objs.size (He.ga K x) cdv)) → sp vs H Q E →
      ∃ t, PSs (cxOf CX0 P w K mg base N x (defScope st) (He.ga K x) cdv A outer s H E).nox (defBody st) t ∧ t { nx := fun _ H' => Q .non H', rt := Q } (start N vs) H) : FnOk P w K mg base CX0 (k + 1) (He.ga K x) fd ps sp :=
  F.ok (CX := CX0) S len fun cdv A outer s H vs Q E hr h => by
    obtain ⟨t, h1, h2⟩ := hbody cdv A outer s H vs Q E hr h
    exact ⟨t, h1.nox, h2⟩
theorem sc_law : FnScope ["_law_script", "_law_draws_here", "_law_net_here", "_law_draw"] ["_law_script"] (defScope (top 51)) := ⟨rfl, rfl, rfl, by decide +kernel, rfl, by decide +kernel, by decide +kernel⟩
theorem law_fn (T : Txt K mg) {fd : FuncData} (F : FunD K "law" "law" (defArgs (top 51)) (defBody (top 51)) (defScope (top 51)) [] [] (He.ga K "law") fd) : FnOk P w K mg base CX0 12 (He.ga K "law") fd ["_law_script"] (spLaw K) := by
  have G__law_draws := ok_draws (P := P) (w := w) (base := base) T
  have G__law_net := ok_net (P := P) (w := w) (base := base) T
  have G__law_question := ok_question (P := P) (w := w) (base := base) T
  refine fn_of F sc_law (fun vs H Q E h => ?_) (fun cdv A outer s H vs Q E hr h => ?_)
  · obtain ⟨_, _, rfl, _⟩ := h
    rfl
  obtain ⟨ns, v0, rfl, h0, hl, q⟩ := h
  refine ⟨_, (pss_cons (ps_set (i := 1) sc_law.nd rfl (Or.inl rfl) (pe_callD G__law_draws hr (pa_cons (pv 0) pa_nil)))
      (pss_cons (ps_set (i := 2) sc_law.nd rfl (Or.inl rfl) (pe_callD G__law_net hr (pa_cons (pv 1) (pa_cons pe_int (pa_cons pe_int pa_nil)))))
      (pss_cons (ps_for PassesOwn.never rfl (kp_list K (pe_slice (k_sl K) (pv 1) (po_some pe_int) (po_some pe_int))) (pg_name (i := 3) sc_law.nd rfl (Or.inl rfl))
      (pss_one (ps_if (pt_not (pt_val (pe_callD G__law_question hr (pa_cons (pv 2) (pa_cons (pv 3) pa_nil)))))
      (pss_one (ps_ret pe_bl)) pss_nil)))
      (pss_one (ps_ret pe_bl))))), ?_⟩
  refine q_asgW (ew_call1 (ew_var rfl h0) fun a H1 e1 p0 => use_draws p0 hl) fun v1 H1 e1 h1 => ?_
  obtain ⟨ds, dl, h1⟩ := h1
  refine q_asgW (ew_call3 (ew_var rfl h1) (ew_i (i := 2)) (ew_i (i := 6)) fun a b c H2 e2 p0 p1 p2 => use_net p0 dl p1 p2) fun v2 H2 e2 h2 => ?_
  obtain ⟨N, ⟨ho, hl2⟩, h2⟩ := h2
  refine q_forLW (R := rInt) (as := cutA ds (some 39) (some 41)) tgN (ewn_sl (ew_var rfl (Kp.kp e2 h1)) (eo_int ew_i) (eo_int ew_i)).ew fun v H3 e3 hv => ⟨H3, fun d t σ' H' => Ex H3 H' ∧ ∃ y3, σ' = [some v0, some v1, some v2, y3], hv, ⟨Ex.refl _, _, rfl⟩, fun d t σ' H' w => w.1, fun d a t σ' σ2 H' ed hw hT => ?_, fun σ' H' hw => ?_⟩
  · obtain ⟨e4, y3, rfl⟩ := hw
    obtain ⟨c, hc, rfl⟩ := hT
    refine s_when (b := false) (EvT.to (et_not (et_v (ew_call2 (ew_var rfl (Kp.kp (e3.trans e4) h2)) (ew_var (P := rInt a) rfl hc) fun x y H5 e5 p0 p1 => use_quest p0 ho hl2 p1))) rfl) (fun hb => by cases hb) fun _ H5 e5 => ?_
    exact ⟨e4.trans e5, _, rfl⟩
  · obtain ⟨e4, y3, rfl⟩ := hw
    exact w_ret (ew_b (b := true)) fun v H5 e5 hv => q v H5 (e1.trans (e2.trans (e3.trans (e4.trans e5)))) hv
end
end Am
/-! The head: what the program's top leaves. Printed by gentxt.py. -/
namespace Am
open PySem PySem.Spec PyProof.Rows L2
def dd_look_for : He.DefD := ⟨("look_for", none), "look_for", "look_for", defArgs (top 5), defBody (top 5), defScope (top 5), [], []⟩
def dd_look_once : He.DefD := ⟨("look_once", none), "look_once", "look_once", defArgs (top 6), defBody (top 6), defScope (top 6), [], []⟩
def dd_in_order : He.DefD := ⟨("in_order", none), "in_order", "in_order", defArgs (top 7), defBody (top 7), defScope (top 7), [], []⟩
def dd_elders_of : He.DefD := ⟨("elders_of", none), "elders_of", "elders_of", defArgs (top 8), defBody (top 8), defScope (top 8), [], []⟩
def dd_heirs_of : He.DefD := ⟨("heirs_of", none), "heirs_of", "heirs_of", defArgs (top 9), defBody (top 9), defScope (top 9), [], []⟩
def dd_spread_along : He.DefD := ⟨("spread_along", none), "spread_along", "spread_along", defArgs (top 10), defBody (top 10), defScope (top 10), [], []⟩
def dd_names_below : He.DefD := ⟨("names_below", none), "names_below", "names_below", defArgs (top 11), defBody (top 11), defScope (top 11), [], []⟩
def dd_names_above : He.DefD := ⟨("names_above", none), "names_above", "names_above", defArgs (top 12), defBody (top 12), defScope (top 12), [], []⟩
def dd_look_at_asked : He.DefD := ⟨("look_at_asked", none), "look_at_asked", "look_at_asked", defArgs (top 14), defBody (top 14), defScope (top 14), [], []⟩
def dd_ties_at : He.DefD := ⟨("ties_at", none), "ties_at", "ties_at", defArgs (top 15), defBody (top 15), defScope (top 15), [], []⟩
def dd_roads_on : He.DefD := ⟨("roads_on", none), "roads_on", "roads_on", defArgs (top 16), defBody (top 16), defScope (top 16), [], []⟩
def dd_all_roads : He.DefD := ⟨("all_roads", none), "all_roads", "all_roads", defArgs (top 17), defBody (top 17), defScope (top 17), [], []⟩
def dd_meetings_of : He.DefD := ⟨("meetings_of", none), "meetings_of", "meetings_of", defArgs (top 18), defBody (top 18), defScope (top 18), [], []⟩
def dd_has_below : He.DefD := ⟨("has_below", none), "has_below", "has_below", defArgs (top 19), defBody (top 19), defScope (top 19), [], []⟩
def dd_is_open : He.DefD := ⟨("is_open", none), "is_open", "is_open", defArgs (top 20), defBody (top 20), defScope (top 20), [], []⟩
def dd_above_all : He.DefD := ⟨("above_all", none), "above_all", "above_all", defArgs (top 22), defBody (top 22), defScope (top 22), [], []⟩
def dd_next_spots : He.DefD := ⟨("next_spots", none), "next_spots", "next_spots", defArgs (top 23), defBody (top 23), defScope (top 23), [], []⟩
def dd_spots_met : He.DefD := ⟨("spots_met", none), "spots_met", "spots_met", defArgs (top 24), defBody (top 24), defScope (top 24), [], []⟩
def dd_reach_of : He.DefD := ⟨("reach_of", none), "reach_of", "reach_of", defArgs (top 25), defBody (top 25), defScope (top 25), [], []⟩
def dd_are_parted : He.DefD := ⟨("are_parted", none), "are_parted", "are_parted", defArgs (top 26), defBody (top 26), defScope (top 26), [], []⟩
def dd_may_go_on : He.DefD := ⟨("may_go_on", none), "may_go_on", "may_go_on", defArgs (top 27), defBody (top 27), defScope (top 27), [], []⟩
def dd_open_on : He.DefD := ⟨("open_on", none), "open_on", "open_on", defArgs (top 28), defBody (top 28), defScope (top 28), [], []⟩
def dd_down_from : He.DefD := ⟨("down_from", none), "down_from", "down_from", defArgs (top 29), defBody (top 29), defScope (top 29), [], []⟩
def dd_open_road : He.DefD := ⟨("open_road", none), "open_road", "open_road", defArgs (top 30), defBody (top 30), defScope (top 30), [], []⟩
def dd__law_draws : He.DefD := ⟨("_law_draws", none), "_law_draws", "_law_draws", defArgs (top 32), defBody (top 32), defScope (top 32), [], []⟩
def dd__law_words : He.DefD := ⟨("_law_words", none), "_law_words", "_law_words", defArgs (top 33), defBody (top 33), defScope (top 33), [], []⟩
def dd__law_names : He.DefD := ⟨("_law_names", none), "_law_names", "_law_names", defArgs (top 34), defBody (top 34), defScope (top 34), [], []⟩
def dd__law_ranks : He.DefD := ⟨("_law_ranks", none), "_law_ranks", "_law_ranks", defArgs (top 35), defBody (top 35), defScope (top 35), [], []⟩
def dd__law_net : He.DefD := ⟨("_law_net", none), "_law_net", "_law_net", defArgs (top 36), defBody (top 36), defScope (top 36), [], []⟩
def dd__law_asked : He.DefD := ⟨("_law_asked", none), "_law_asked", "_law_asked", defArgs (top 37), defBody (top 37), defScope (top 37), [], []⟩
def dd__law_tied : He.DefD := ⟨("_law_tied", none), "_law_tied", "_law_tied", defArgs (top 38), defBody (top 38), defScope (top 38), [], []⟩
def dd__law_roads : He.DefD := ⟨("_law_roads", none), "_law_roads", "_law_roads", defArgs (top 39), defBody (top 39), defScope (top 39), [], []⟩
def dd__law_spread : He.DefD := ⟨("_law_spread", none), "_law_spread", "_law_spread", defArgs (top 40), defBody (top 40), defScope (top 40), [], []⟩
def dd__law_below : He.DefD := ⟨("_law_below", none), "_law_below", "_law_below", defArgs (top 41), defBody (top 41), defScope (top 41), [], []⟩
def dd__law_meets : He.DefD := ⟨("_law_meets", none), "_law_meets", "_law_meets", defArgs (top 42), defBody (top 42), defScope (top 42), [], []⟩
def dd__law_is_open : He.DefD := ⟨("_law_is_open", none), "_law_is_open", "_law_is_open", defArgs (top 43), defBody (top 43), defScope (top 43), [], []⟩
def dd__law_down : He.DefD := ⟨("_law_down", none), "_law_down", "_law_down", defArgs (top 44), defBody (top 44), defScope (top 44), [], []⟩
def dd__law_road : He.DefD := ⟨("_law_road", none), "_law_road", "_law_road", defArgs (top 45), defBody (top 45), defScope (top 45), [], []⟩
def dd__law_open_told : He.DefD := ⟨("_law_open_told", none), "_law_open_told", "_law_open_told", defArgs (top 46), defBody (top 46), defScope (top 46), [], []⟩
def dd__law_reached : He.DefD := ⟨("_law_reached", none), "_law_reached", "_law_reached", defArgs (top 47), defBody (top 47), defScope (top 47), [], []⟩
def dd__law_told : He.DefD := ⟨("_law_told", none), "_law_told", "_law_told", defArgs (top 48), defBody (top 48), defScope (top 48), [], []⟩
def dd__law_holds : He.DefD := ⟨("_law_holds", none), "_law_holds", "_law_holds", defArgs (top 49), defBody (top 49), defScope (top 49), [], []⟩
def dd__law_question : He.DefD := ⟨("_law_question", none), "_law_question", "_law_question", defArgs (top 50), defBody (top 50), defScope (top 50), [], []⟩
def dd_law : He.DefD := ⟨("law", none), "law", "law", defArgs (top 51), defBody (top 51), defScope (top 51), [], []⟩
def fnD : List He.DefD := [dd_look_for, dd_look_once, dd_in_order, dd_elders_of, dd_heirs_of, dd_spread_along, dd_names_below, dd_names_above, dd_look_at_asked, dd_ties_at, dd_roads_on, dd_all_roads, dd_meetings_of, dd_has_below, dd_is_open, dd_above_all, dd_next_spots, dd_spots_met, dd_reach_of, dd_are_parted, dd_may_go_on, dd_open_on, dd_down_from, dd_open_road, dd__law_draws, dd__law_words, dd__law_names, dd__law_ranks, dd__law_net, dd__law_asked, dd__law_tied, dd__law_roads, dd__law_spread, dd__law_below, dd__law_meets, dd__law_is_open, dd__law_down, dd__law_road, dd__law_open_told, dd__law_reached, dd__law_told, dd__law_holds, dd__law_question, dd_law]
def faD : List He.Fa := [.glo "look_for", .glo "look_once", .glo "in_order", .glo "elders_of", .glo "heirs_of", .glo "spread_along", .glo "names_below", .glo "names_above", .glo "look_at_asked", .glo "ties_at", .glo "roads_on", .glo "all_roads", .glo "meetings_of", .glo "has_below", .glo "is_open", .glo "above_all", .glo "next_spots", .glo "spots_met", .glo "reach_of", .glo "are_parted", .glo "may_go_on", .glo "open_on", .glo "down_from", .glo "open_road", .glo "_law_draws", .glo "_law_words", .glo "_law_names", .glo "_law_ranks", .glo "_law_net", .glo "_law_asked", .glo "_law_tied", .glo "_law_roads", .glo "_law_spread", .glo "_law_below", .glo "_law_meets", .glo "_law_is_open", .glo "_law_down", .glo "_law_road", .glo "_law_open_told", .glo "_law_reached", .glo "_law_told", .glo "_law_holds", .glo "_law_question", .glo "law", .free "bool", .free "enumerate", .free "int", .free "isinstance", .free "len", .free "list", .free "max", .free "min", .free "range", .free "set", .free "str", .free "tuple", .free "zip"]
def loose1 : List Str := ["look_for", "look_once", "in_order", "elders_of", "heirs_of", "spread_along", "names_below", "names_above", "look_at_asked", "ties_at", "roads_on", "all_roads", "meetings_of", "has_below", "is_open", "above_all", "next_spots", "spots_met", "reach_of", "are_parted", "may_go_on", "open_on", "down_from", "open_road", "_law_draws", "_law_words", "_law_names", "_law_ranks", "_law_net", "_law_asked"]
def loose2 : List Str := ["_law_tied", "_law_roads", "_law_spread", "_law_below", "_law_meets", "_law_is_open", "_law_down", "_law_road", "_law_open_told", "_law_reached", "_law_told", "_law_holds", "_law_question", "ArrowError", "Twice", "NoName"]
abbrev RR : PySem.W.OpenRow := PySem.W.OpenLaw.row PySem.Challenge.rw_arrowfind_k15_whole_parted_or_open
abbrev hkD : PySem.W.Hook := He.hookD 4 faD fnD
def obD (s : PySem.W.SharedT) : He.AlD := He.obsDG 4 faD fnD (HandSHeadRun.getT s)
theorem obD_eq (s : PySem.W.SharedT) : obD s = hkD.obs s.abs := He.obsDG_eq (HandSHeadRun.getT_eq s)
theorem runD (w : World) : HandSHeadRun.RunEq RR (PySem.W.view RR.prog [51]) hkD obD 4000 (loose1 ++ loose2) w := by
  intro os
  kernel_rfl
theorem txt_of {K : PySem.W.Frag} {h : Heap} {mg : Str → Option Value} (X : K.In h) (G : h.Ns mainGlobals mg) (c : He.SaysD faD fnD K) : Txt K mg := by
  constructor
  · obtain ⟨fd, F⟩ := c.def_ 0 (d := dd_look_for) rfl
    exact ⟨⟨fd, F, FunD.bindsN (ps := ["names", "some"]) F fun _ _ _ _ _ _ us hl => match us, hl with | [_, _], _ => rfl⟩, He.glo_ok X G (c.fact 0 (f := .glo "look_for") rfl)⟩
  · obtain ⟨fd, F⟩ := c.def_ 1 (d := dd_look_once) rfl
    exact ⟨⟨fd, F, FunD.bindsN (ps := ["some"]) F fun _ _ _ _ _ _ us hl => match us, hl with | [_], _ => rfl⟩, He.glo_ok X G (c.fact 1 (f := .glo "look_once") rfl)⟩
  · obtain ⟨fd, F⟩ := c.def_ 2 (d := dd_in_order) rfl
    exact ⟨⟨fd, F, FunD.bindsN (ps := ["names", "some"]) F fun _ _ _ _ _ _ us hl => match us, hl with | [_, _], _ => rfl⟩, He.glo_ok X G (c.fact 2 (f := .glo "in_order") rfl)⟩
  · obtain ⟨fd, F⟩ := c.def_ 3 (d := dd_elders_of) rfl
    exact ⟨⟨fd, F, FunD.bindsN (ps := ["net", "name"]) F fun _ _ _ _ _ _ us hl => match us, hl with | [_, _], _ => rfl⟩, He.glo_ok X G (c.fact 3 (f := .glo "elders_of") rfl)⟩
  · obtain ⟨fd, F⟩ := c.def_ 4 (d := dd_heirs_of) rfl
    exact ⟨⟨fd, F, FunD.bindsN (ps := ["net", "name"]) F fun _ _ _ _ _ _ us hl => match us, hl with | [_, _], _ => rfl⟩, He.glo_ok X G (c.fact 4 (f := .glo "heirs_of") rfl)⟩
  · obtain ⟨fd, F⟩ := c.def_ 5 (d := dd_spread_along) rfl
    exact ⟨⟨fd, F, FunD.bindsN (ps := ["arrows", "name"]) F fun _ _ _ _ _ _ us hl => match us, hl with | [_, _], _ => rfl⟩, He.glo_ok X G (c.fact 5 (f := .glo "spread_along") rfl)⟩
  · obtain ⟨fd, F⟩ := c.def_ 6 (d := dd_names_below) rfl
    exact ⟨⟨fd, F, FunD.bindsN (ps := ["net", "name"]) F fun _ _ _ _ _ _ us hl => match us, hl with | [_, _], _ => rfl⟩, He.glo_ok X G (c.fact 6 (f := .glo "names_below") rfl)⟩
  · obtain ⟨fd, F⟩ := c.def_ 7 (d := dd_names_above) rfl
    exact ⟨⟨fd, F, FunD.bindsN (ps := ["net", "name"]) F fun _ _ _ _ _ _ us hl => match us, hl with | [_, _], _ => rfl⟩, He.glo_ok X G (c.fact 7 (f := .glo "names_above") rfl)⟩
  · obtain ⟨fd, F⟩ := c.def_ 8 (d := dd_look_at_asked) rfl
    exact ⟨⟨fd, F, FunD.bindsN (ps := ["names", "one", "other", "held"]) F fun _ _ _ _ _ _ us hl => match us, hl with | [_, _, _, _], _ => rfl⟩, He.glo_ok X G (c.fact 8 (f := .glo "look_at_asked") rfl)⟩
  · obtain ⟨fd, F⟩ := c.def_ 9 (d := dd_ties_at) rfl
    exact ⟨⟨fd, F, FunD.bindsN (ps := ["net"]) F fun _ _ _ _ _ _ us hl => match us, hl with | [_], _ => rfl⟩, He.glo_ok X G (c.fact 9 (f := .glo "ties_at") rfl)⟩
  · obtain ⟨fd, F⟩ := c.def_ 10 (d := dd_roads_on) rfl
    exact ⟨⟨fd, F, FunD.bindsN (ps := ["near", "road", "other"]) F fun _ _ _ _ _ _ us hl => match us, hl with | [_, _, _], _ => rfl⟩, He.glo_ok X G (c.fact 10 (f := .glo "roads_on") rfl)⟩
  · obtain ⟨fd, F⟩ := c.def_ 11 (d := dd_all_roads) rfl
    exact ⟨⟨fd, F, FunD.bindsN (ps := ["net", "one", "other"]) F fun _ _ _ _ _ _ us hl => match us, hl with | [_, _, _], _ => rfl⟩, He.glo_ok X G (c.fact 11 (f := .glo "all_roads") rfl)⟩
  · obtain ⟨fd, F⟩ := c.def_ 12 (d := dd_meetings_of) rfl
    exact ⟨⟨fd, F, FunD.bindsN (ps := ["net", "road"]) F fun _ _ _ _ _ _ us hl => match us, hl with | [_, _], _ => rfl⟩, He.glo_ok X G (c.fact 12 (f := .glo "meetings_of") rfl)⟩
  · obtain ⟨fd, F⟩ := c.def_ 13 (d := dd_has_below) rfl
    exact ⟨⟨fd, F, FunD.bindsN (ps := ["net", "name", "held"]) F fun _ _ _ _ _ _ us hl => match us, hl with | [_, _, _], _ => rfl⟩, He.glo_ok X G (c.fact 13 (f := .glo "has_below") rfl)⟩
  · obtain ⟨fd, F⟩ := c.def_ 14 (d := dd_is_open) rfl
    exact ⟨⟨fd, F, FunD.bindsN (ps := ["net", "road", "held"]) F fun _ _ _ _ _ _ us hl => match us, hl with | [_, _, _], _ => rfl⟩, He.glo_ok X G (c.fact 14 (f := .glo "is_open") rfl)⟩
  · obtain ⟨fd, F⟩ := c.def_ 15 (d := dd_above_all) rfl
    exact ⟨⟨fd, F, FunD.bindsN (ps := ["net", "held"]) F fun _ _ _ _ _ _ us hl => match us, hl with | [_, _], _ => rfl⟩, He.glo_ok X G (c.fact 15 (f := .glo "above_all") rfl)⟩
  · obtain ⟨fd, F⟩ := c.def_ 16 (d := dd_next_spots) rfl
    exact ⟨⟨fd, F, FunD.bindsN (ps := ["net", "ready", "held", "spot"]) F fun _ _ _ _ _ _ us hl => match us, hl with | [_, _, _, _], _ => rfl⟩, He.glo_ok X G (c.fact 16 (f := .glo "next_spots") rfl)⟩
  · obtain ⟨fd, F⟩ := c.def_ 17 (d := dd_spots_met) rfl
    exact ⟨⟨fd, F, FunD.bindsN (ps := ["net", "one", "held"]) F fun _ _ _ _ _ _ us hl => match us, hl with | [_, _, _], _ => rfl⟩, He.glo_ok X G (c.fact 17 (f := .glo "spots_met") rfl)⟩
  · obtain ⟨fd, F⟩ := c.def_ 18 (d := dd_reach_of) rfl
    exact ⟨⟨fd, F, FunD.bindsN (ps := ["net", "one", "held"]) F fun _ _ _ _ _ _ us hl => match us, hl with | [_, _, _], _ => rfl⟩, He.glo_ok X G (c.fact 18 (f := .glo "reach_of") rfl)⟩
  · obtain ⟨fd, F⟩ := c.def_ 19 (d := dd_are_parted) rfl
    exact ⟨⟨fd, F, FunD.bindsN (ps := ["net", "one", "other", "held"]) F fun _ _ _ _ _ _ us hl => match us, hl with | [_, _, _, _], _ => rfl⟩, He.glo_ok X G (c.fact 19 (f := .glo "are_parted") rfl)⟩
  · obtain ⟨fd, F⟩ := c.def_ 20 (d := dd_may_go_on) rfl
    exact ⟨⟨fd, F, FunD.bindsN (ps := ["net", "ready", "held", "road", "name"]) F fun _ _ _ _ _ _ us hl => match us, hl with | [_, _, _, _, _], _ => rfl⟩, He.glo_ok X G (c.fact 20 (f := .glo "may_go_on") rfl)⟩
  · obtain ⟨fd, F⟩ := c.def_ 21 (d := dd_open_on) rfl
    exact ⟨⟨fd, F, FunD.bindsN (ps := ["net", "asked", "road"]) F fun _ _ _ _ _ _ us hl => match us, hl with | [_, _, _], _ => rfl⟩, He.glo_ok X G (c.fact 21 (f := .glo "open_on") rfl)⟩
  · obtain ⟨fd, F⟩ := c.def_ 22 (d := dd_down_from) rfl
    exact ⟨⟨fd, F, FunD.bindsN (ps := ["net", "name", "held"]) F fun _ _ _ _ _ _ us hl => match us, hl with | [_, _, _], _ => rfl⟩, He.glo_ok X G (c.fact 22 (f := .glo "down_from") rfl)⟩
  · obtain ⟨fd, F⟩ := c.def_ 23 (d := dd_open_road) rfl
    exact ⟨⟨fd, F, FunD.bindsN (ps := ["net", "one", "other", "held"]) F fun _ _ _ _ _ _ us hl => match us, hl with | [_, _, _, _], _ => rfl⟩, He.glo_ok X G (c.fact 23 (f := .glo "open_road") rfl)⟩
  · obtain ⟨fd, F⟩ := c.def_ 24 (d := dd__law_draws) rfl
    exact ⟨⟨fd, F, FunD.bindsN (ps := ["_law_script"]) F fun _ _ _ _ _ _ us hl => match us, hl with | [_], _ => rfl⟩, He.glo_ok X G (c.fact 24 (f := .glo "_law_draws") rfl)⟩
  · obtain ⟨fd, F⟩ := c.def_ 25 (d := dd__law_words) rfl
    exact ⟨⟨fd, F, FunD.bindsN (ps := ["_law_cell", "_law_many"]) F fun _ _ _ _ _ _ us hl => match us, hl with | [_, _], _ => rfl⟩, He.glo_ok X G (c.fact 25 (f := .glo "_law_words") rfl)⟩
  · obtain ⟨fd, F⟩ := c.def_ 26 (d := dd__law_names) rfl
    exact ⟨⟨fd, F, FunD.bindsN (ps := ["_law_draws_here", "_law_many"]) F fun _ _ _ _ _ _ us hl => match us, hl with | [_, _], _ => rfl⟩, He.glo_ok X G (c.fact 26 (f := .glo "_law_names") rfl)⟩
  · obtain ⟨fd, F⟩ := c.def_ 27 (d := dd__law_ranks) rfl
    exact ⟨⟨fd, F, FunD.bindsN (ps := ["_law_draw", "_law_many"]) F fun _ _ _ _ _ _ us hl => match us, hl with | [_, _], _ => rfl⟩, He.glo_ok X G (c.fact 27 (f := .glo "_law_ranks") rfl)⟩
  · obtain ⟨fd, F⟩ := c.def_ 28 (d := dd__law_net) rfl
    exact ⟨⟨fd, F, FunD.bindsN (ps := ["_law_draws_here", "_law_least", "_law_most"]) F fun _ _ _ _ _ _ us hl => match us, hl with | [_, _, _], _ => rfl⟩, He.glo_ok X G (c.fact 28 (f := .glo "_law_net") rfl)⟩
  · obtain ⟨fd, F⟩ := c.def_ 29 (d := dd__law_asked) rfl
    exact ⟨⟨fd, F, FunD.bindsN (ps := ["_law_net_here", "_law_draw"]) F fun _ _ _ _ _ _ us hl => match us, hl with | [_, _], _ => rfl⟩, He.glo_ok X G (c.fact 29 (f := .glo "_law_asked") rfl)⟩
  · obtain ⟨fd, F⟩ := c.def_ 30 (d := dd__law_tied) rfl
    exact ⟨⟨fd, F, FunD.bindsN (ps := ["_law_net_here", "_law_one", "_law_other"]) F fun _ _ _ _ _ _ us hl => match us, hl with | [_, _, _], _ => rfl⟩, He.glo_ok X G (c.fact 30 (f := .glo "_law_tied") rfl)⟩
  · obtain ⟨fd, F⟩ := c.def_ 31 (d := dd__law_roads) rfl
    exact ⟨⟨fd, F, FunD.bindsN (ps := ["_law_net_here", "_law_one", "_law_other"]) F fun _ _ _ _ _ _ us hl => match us, hl with | [_, _, _], _ => rfl⟩, He.glo_ok X G (c.fact 31 (f := .glo "_law_roads") rfl)⟩
  · obtain ⟨fd, F⟩ := c.def_ 32 (d := dd__law_spread) rfl
    exact ⟨⟨fd, F, FunD.bindsN (ps := ["_law_arrows", "_law_name"]) F fun _ _ _ _ _ _ us hl => match us, hl with | [_, _], _ => rfl⟩, He.glo_ok X G (c.fact 32 (f := .glo "_law_spread") rfl)⟩
  · obtain ⟨fd, F⟩ := c.def_ 33 (d := dd__law_below) rfl
    exact ⟨⟨fd, F, FunD.bindsN (ps := ["_law_net_here", "_law_name"]) F fun _ _ _ _ _ _ us hl => match us, hl with | [_, _], _ => rfl⟩, He.glo_ok X G (c.fact 33 (f := .glo "_law_below") rfl)⟩
  · obtain ⟨fd, F⟩ := c.def_ 34 (d := dd__law_meets) rfl
    exact ⟨⟨fd, F, FunD.bindsN (ps := ["_law_net_here", "_law_road_here", "_law_k"]) F fun _ _ _ _ _ _ us hl => match us, hl with | [_, _, _], _ => rfl⟩, He.glo_ok X G (c.fact 34 (f := .glo "_law_meets") rfl)⟩
  · obtain ⟨fd, F⟩ := c.def_ 35 (d := dd__law_is_open) rfl
    exact ⟨⟨fd, F, FunD.bindsN (ps := ["_law_net_here", "_law_road_here", "_law_held"]) F fun _ _ _ _ _ _ us hl => match us, hl with | [_, _, _], _ => rfl⟩, He.glo_ok X G (c.fact 35 (f := .glo "_law_is_open") rfl)⟩
  · obtain ⟨fd, F⟩ := c.def_ 36 (d := dd__law_down) rfl
    exact ⟨⟨fd, F, FunD.bindsN (ps := ["_law_net_here", "_law_down_here", "_law_first", "_law_held"]) F fun _ _ _ _ _ _ us hl => match us, hl with | [_, _, _, _], _ => rfl⟩, He.glo_ok X G (c.fact 36 (f := .glo "_law_down") rfl)⟩
  · obtain ⟨fd, F⟩ := c.def_ 37 (d := dd__law_road) rfl
    exact ⟨⟨fd, F, FunD.bindsN (ps := ["_law_net_here", "_law_road_here", "_law_one", "_law_other"]) F fun _ _ _ _ _ _ us hl => match us, hl with | [_, _, _, _], _ => rfl⟩, He.glo_ok X G (c.fact 37 (f := .glo "_law_road") rfl)⟩
  · obtain ⟨fd, F⟩ := c.def_ 38 (d := dd__law_open_told) rfl
    exact ⟨⟨fd, F, FunD.bindsN (ps := ["_law_net_here", "_law_found", "_law_one", "_law_other", "_law_held"]) F fun _ _ _ _ _ _ us hl => match us, hl with | [_, _, _, _, _], _ => rfl⟩, He.glo_ok X G (c.fact 38 (f := .glo "_law_open_told") rfl)⟩
  · obtain ⟨fd, F⟩ := c.def_ 39 (d := dd__law_reached) rfl
    exact ⟨⟨fd, F, FunD.bindsN (ps := ["_law_net_here", "_law_one", "_law_other", "_law_held"]) F fun _ _ _ _ _ _ us hl => match us, hl with | [_, _, _, _], _ => rfl⟩, He.glo_ok X G (c.fact 39 (f := .glo "_law_reached") rfl)⟩
  · obtain ⟨fd, F⟩ := c.def_ 40 (d := dd__law_told) rfl
    exact ⟨⟨fd, F, FunD.bindsN (ps := ["_law_net_here", "_law_one", "_law_other", "_law_held", "_law_way"]) F fun _ _ _ _ _ _ us hl => match us, hl with | [_, _, _, _, _], _ => rfl⟩, He.glo_ok X G (c.fact 40 (f := .glo "_law_told") rfl)⟩
  · obtain ⟨fd, F⟩ := c.def_ 41 (d := dd__law_holds) rfl
    exact ⟨⟨fd, F, FunD.bindsN (ps := ["_law_net_here", "_law_one", "_law_other", "_law_held", "_law_way"]) F fun _ _ _ _ _ _ us hl => match us, hl with | [_, _, _, _, _], _ => rfl⟩, He.glo_ok X G (c.fact 41 (f := .glo "_law_holds") rfl)⟩
  · obtain ⟨fd, F⟩ := c.def_ 42 (d := dd__law_question) rfl
    exact ⟨⟨fd, F, FunD.bindsN (ps := ["_law_net_here", "_law_draw"]) F fun _ _ _ _ _ _ us hl => match us, hl with | [_, _], _ => rfl⟩, He.glo_ok X G (c.fact 42 (f := .glo "_law_question") rfl)⟩
  · obtain ⟨fd, F⟩ := c.def_ 43 (d := dd_law) rfl
    exact ⟨⟨fd, F, FunD.bindsN (ps := ["_law_script"]) F fun _ _ _ _ _ _ us hl => match us, hl with | [_], _ => rfl⟩, He.glo_ok X G (c.fact 43 (f := .glo "law") rfl)⟩
  · exact He.free_ok X G (c.fact 44 (f := .free "bool") rfl)
  · exact He.free_ok X G (c.fact 45 (f := .free "enumerate") rfl)
  · exact He.free_ok X G (c.fact 46 (f := .free "int") rfl)
  · exact He.free_ok X G (c.fact 47 (f := .free "isinstance") rfl)
  · exact He.free_ok X G (c.fact 48 (f := .free "len") rfl)
  · exact He.free_ok X G (c.fact 49 (f := .free "list") rfl)
  · exact He.free_ok X G (c.fact 50 (f := .free "max") rfl)
  · exact He.free_ok X G (c.fact 51 (f := .free "min") rfl)
  · exact He.free_ok X G (c.fact 52 (f := .free "range") rfl)
  · exact He.free_ok X G (c.fact 53 (f := .free "set") rfl)
  · exact He.free_ok X G (c.fact 54 (f := .free "str") rfl)
  · exact He.free_ok X G (c.fact 55 (f := .free "tuple") rfl)
  · exact He.free_ok X G (c.fact 56 (f := .free "zip") rfl)
end Am
namespace Am
open PySem PySem.Spec PyProof.Rows L2 Evl
theorem factsD {P : Program} {w : World} {K : PySem.W.Frag} {h : Heap} {mg : Str → Option Value} {f : Addr} (X : K.In h) (G : h.Ns mainGlobals mg) (hf : mg ("law" : Str) = some (.ref f)) (c : He.SaysD faD fnD K) :
    ∃ fd : FuncData, (∀ (s : Shared) (v : Value), BindsTo s fd ⟨[v], []⟩ [("_law_script", v)]) ∧ ∀ base : Heap, K.In base → base.Ns mainGlobals mg → FnOk P w K mg base CX0 12 f fd ["_law_script"] (spLaw K) := by
  have T := txt_of X G c
  obtain ⟨fd, F, _⟩ := T.d_law.ex
  cases hf.symm.trans T.d_law.g
  have b := FunD.bindsA (ps := ["_law_script"]) F fun _ _ _ _ _ _ us hl => match us, hl with | [_], _ => rfl
  exact ⟨fd, fun s v => b s [v] rfl, fun base _ _ => law_fn T F⟩
end Am
open PySem PySem.W PySem.Calls PyProof.Rows
theorem PySem.Challenge.cw_arrowfind_k15_whole_parted_or_open_holds : PySem.Challenge.rw_arrowfind_k15_whole_parted_or_open.Holds := by
  w_on; o_law
  refine HandSHeadRun.head_any (r := Am.RR) (q := view Am.RR.prog [51]) (H := Am.hkD) (ob := Am.obD) (M := 4000) (loose := Am.loose1 ++ Am.loose2) (d := HandSHeadRun.topDef Am.RR.prog 51) (kwd := []) Am.obD_eq (by kernel_rfl) (fun s => by kernel_rfl) Am.runD (by kernel_rfl) (by kernel_rfl) (by kernel_rfl) (by rfl)
    (by first | assumption | decide +kernel) (by decide +kernel) ⟨rfl, rfl, rfl, rfl, rfl, by decide +kernel⟩ ?hw ?hc
  case hw => w_witness2
  case hc =>
    refine L2.walk_ofE (l := PySem.Challenge.rw_arrowfind_k15_whole_parted_or_open) (n := 63) (k := 12) (x := "_law_script") (CX := L2.CX0) rfl (by decide) (by kernel_rfl) ⟨rfl, by decide, by decide⟩ ?F (fun _ _ _ _ z => z)
    intro w mg f h Y G g0
    obtain ⟨K, KX, c⟩ := Y
    have g1 : mg ("law" : PySem.Str) = some (.ref f) := by
      have e : (HandSHeadRun.topDef Am.RR.prog 51).name = ("law" : PySem.Str) := by kernel_rfl
      rw [← e]
      exact g0
    obtain ⟨fd, hb, hF⟩ := Am.factsD (P := (PySem.Challenge.rw_arrowfind_k15_whole_parted_or_open).prog) (w := w) KX G g1 c
    refine ⟨K, fd, Am.spLaw K, KX, hb, fun H a ns hl _ hS => ⟨ns, .ref a, rfl, ⟨a, rfl, hS⟩, hl, fun v H' _ hv => hv⟩, hF⟩
