import PyProof.Rows.All
import HandS.ForMost
import HandS.ForExc
import HandS.Wide
import HandS.TupAny
import HandS.TupMul
import KE.DataEq
import KE.DataCmp
import KE.DataFind
import KE.SortData
import KE.DataMinMax
import HandS.Strs
import HandS.TupLen
import HandS.CallSlots
import HandS.Conv
import HandS.SortInts
import HandS.More
import HandS.Style
import HandS.WideMore
import HandS.Small
import HandS.TryOnly
import HandS.ExcOwn
import HandS.Iter
import KE.GoesEnum
import HandS.DictComp
import HandS.BoundDict
import HandS.SetKeys
import HandS.Lambda
import HandS.WordsExc
import HandS.EndTab
import HandS.Head0
import HandS.Head1
import HandS.Head2
import HandS.HeadEnd
import HandS.HeadHook4
import PySem.Challenge.RW_gamestack_k15_recordings_that_are_sought
set_option Elab.async false
set_option linter.all false
set_option maxRecDepth 100000
/-! Gp1: ghost values, cells, how they stand for the abstract heap -/
namespace Gp
open PySem PySem.Spec L2
open PyProof.Rows hiding St

/-- ghost values: deep but for ref, a cell of the store -/
inductive D where
  | non
  | bl (b : Bool)
  | int (i : Int)
  | str (s : Str)
  | tup (l : List D)
  | kt (l : List D)
  | ls (l : List D)
  | sq (l : List D)
  | dc (k : Nat) (l : List (D × D))
  | ob (c : Str) (fs : List (Str × D))
  | ref (n : Nat)
  | fn (x : Str)

mutual
def D.beq : D → D → Bool
  | .non, .non => true
  | .bl a, .bl b => a == b
  | .int a, .int b => decide (a = b)
  | .str a, .str b => decide (a = b)
  | .tup a, .tup b => D.beqL a b
  | .kt a, .kt b => D.beqL a b
  | .ls a, .ls b => D.beqL a b
  | .sq a, .sq b => D.beqL a b
  | .dc k a, .dc j b => decide (k = j) && D.beqM a b
  | .ob c a, .ob d b => decide (c = d) && D.beqF a b
  | .ref a, .ref b => decide (a = b)
  | .fn a, .fn b => decide (a = b)
  | _, _ => false
termination_by structural x => x
def D.beqL : List D → List D → Bool
  | [], [] => true
  | a :: x, b :: y => D.beq a b && D.beqL x y
  | _, _ => false
termination_by structural x => x
def D.beqM : List (D × D) → List (D × D) → Bool
  | [], [] => true
  | (k, a) :: x, (j, b) :: y => D.beq k j && D.beq a b && D.beqM x y
  | _, _ => false
termination_by structural x => x
def D.beqF : List (Str × D) → List (Str × D) → Bool
  | [], [] => true
  | (k, a) :: x, (j, b) :: y => decide (k = j) && D.beq a b && D.beqF x y
  | _, _ => false
termination_by structural x => x
end

mutual
theorem D.eq_of_beq : ∀ {a b : D}, D.beq a b = true → a = b
  | .non, b, h => by cases b <;> simp_all [D.beq]
  | .bl _, b, h => by cases b <;> simp_all [D.beq]
  | .int _, b, h => by cases b <;> simp_all [D.beq]
  | .str _, b, h => by cases b <;> simp_all [D.beq]
  | .ref _, b, h => by cases b <;> simp_all [D.beq]
  | .fn _, b, h => by cases b <;> simp_all [D.beq]
  | .tup x, b, h => by cases b <;> simp [D.beq] at h; rw [D.eq_of_beqL h]
  | .kt x, b, h => by cases b <;> simp [D.beq] at h; rw [D.eq_of_beqL h]
  | .ls x, b, h => by cases b <;> simp [D.beq] at h; rw [D.eq_of_beqL h]
  | .sq x, b, h => by cases b <;> simp [D.beq] at h; rw [D.eq_of_beqL h]
  | .dc c x, b, h => by cases b <;> simp [D.beq] at h; rw [h.1, D.eq_of_beqM h.2]
  | .ob c x, b, h => by cases b <;> simp [D.beq] at h; rw [h.1, D.eq_of_beqF h.2]
theorem D.eq_of_beqL : ∀ {a b : List D}, D.beqL a b = true → a = b
  | [], b, h => by cases b <;> simp_all [D.beqL]
  | a :: x, [], h => by simp [D.beqL] at h
  | a :: x, b :: y, h => by simp [D.beqL] at h; rw [D.eq_of_beq h.1, D.eq_of_beqL h.2]
theorem D.eq_of_beqM : ∀ {a b : List (D × D)}, D.beqM a b = true → a = b
  | [], b, h => by cases b <;> simp_all [D.beqM]
  | a :: x, [], h => by simp [D.beqM] at h
  | (k, a) :: x, (k', b) :: y, h => by
    simp [D.beqM] at h; obtain ⟨⟨h0, h1⟩, h2⟩ := h; rw [D.eq_of_beq h0, D.eq_of_beq h1, D.eq_of_beqM h2]
theorem D.eq_of_beqF : ∀ {a b : List (Str × D)}, D.beqF a b = true → a = b
  | [], b, h => by cases b <;> simp_all [D.beqF]
  | a :: x, [], h => by simp [D.beqF] at h
  | (k, a) :: x, (k', b) :: y, h => by
    simp [D.beqF] at h; obtain ⟨⟨rfl, h1⟩, h2⟩ := h; rw [D.eq_of_beq h1, D.eq_of_beqF h2]
end
mutual
theorem D.beq_self : ∀ a : D, D.beq a a = true
  | .non => rfl
  | .bl _ => by simp [D.beq]
  | .int _ => by simp [D.beq]
  | .str _ => by simp [D.beq]
  | .ref _ => by simp [D.beq]
  | .fn _ => by simp [D.beq]
  | .tup x => by simp [D.beq, D.beq_selfL x]
  | .kt x => by simp [D.beq, D.beq_selfL x]
  | .ls x => by simp [D.beq, D.beq_selfL x]
  | .sq x => by simp [D.beq, D.beq_selfL x]
  | .dc _ x => by simp [D.beq, D.beq_selfM x]
  | .ob _ x => by simp [D.beq, D.beq_selfF x]
theorem D.beq_selfL : ∀ a : List D, D.beqL a a = true
  | [] => rfl
  | a :: x => by simp [D.beqL, D.beq_self a, D.beq_selfL x]
theorem D.beq_selfM : ∀ a : List (D × D), D.beqM a a = true
  | [] => rfl
  | (k, a) :: x => by simp [D.beqM, D.beq_self k, D.beq_self a, D.beq_selfM x]
theorem D.beq_selfF : ∀ a : List (Str × D), D.beqF a a = true
  | [] => rfl
  | (k, a) :: x => by simp [D.beqF, D.beq_self a, D.beq_selfF x]
end
instance : DecidableEq D := fun a b => if h : D.beq a b = true then .isTrue (D.eq_of_beq h) else .isFalse (fun e => h (e ▸ D.beq_self a))
instance : Inhabited D := ⟨.non⟩

/-- what stands at a place of the store; lk: a dict that is walked -/
inductive Cell where
  | lst (l : List D)
  | dict (k : Nat) (lk : Bool) (l : List (D × D))
  | obj (c : Str) (fs : List (Str × D))
  deriving DecidableEq
abbrev Sto := List Cell
/-- the fixed part; tb: what is known of the tables of code objects -/
structure G where
  P : Program
  w : World
  K : PySem.W.Frag
  mg : Str → Option Value
  base : Heap
  tb : Hp → Prop
  cods : List (Str × Str × Addr × Addr)
  tbk : ∀ H H' : Hp, (∀ b o, H b = some o → ((∃ ps, o = .tbl ps) ∨ ∃ φ, o = .ext φ) → H' b = some o) → tb H → tb H'

/-- a list, a tuple that nobody changes any more -/
def LsI (g : G) (H : Hp) (μ : List Addr) (p : Addr) (vs : List V) : Prop :=
  (p ∉ μ ∧ Rd H p (.lst vs)) ∨
    ∃ (o : Obj) (its : Array Value) (n : Nat), g.K.lookup p = some o ∧ o.cls = .type "list" ∧ o.dict = none ∧ o.data = .seq its n ∧ its.size ≤ sizeLine ∧ Vals vs its.toList
def TpK (g : G) (p : Addr) (vs : List V) : Prop :=
  ∃ (o : Obj) (its : Array Value) (n : Nat), g.K.lookup p = some o ∧ o.cls = .type "tuple" ∧ o.data = .seq its n ∧ its.size ≤ sizeLine ∧ Vals vs its.toList
theorem LsI.sq {g : G} {H : Hp} {μ : List Addr} {p : Addr} {vs : List V} (h : LsI g H μ p vs) : SqL g.K H p vs := h.elim (fun x => .inl x.2) .inr
theorem TpK.sq {g : G} {H : Hp} {p : Addr} {vs : List V} (h : TpK g p vs) : SqT g.K H p vs := .inr h

/-- keys -/
def kD : Key → D
  | .inl i => .int i
  | .inr s => .str s
theorem kD_inj {a b : Key} (h : kD a = kD b) : a = b := by
  cases a <;> cases b <;> simp_all [kD]
def tD (k : List Key) : D := .tup (k.map kD)
theorem tD_inj {a b : List Key} (h : tD a = tD b) : a = b := by
  simp only [tD, D.tup.injEq] at h
  induction a generalizing b with
  | nil => cases b <;> simp_all
  | cons x a ih =>
    cases b with
    | nil => simp at h
    | cons y b => simp only [List.map_cons, List.cons.injEq] at h; rw [kD_inj h.1, ih h.2]
def isDic : HO → Bool
  | .dK _ => true
  | .dT _ => true
  | _ => false
/-- the thing without a dict's lock -/
def core : HO → HO
  | .frz o u => if isDic u = true then u else .frz o u
  | o => o

mutual
def Rep (g : G) (H : Hp) (μ : List Addr) : D → V → Prop
  | .non, v => v = .non
  | .bl b, v => v = .bl b
  | .int i, v => v = .int i
  | .str s, v => v = .str s
  | .tup l, v => ∃ p vs, v = .ref p ∧ p ∉ μ ∧ H p = some (.tup vs) ∧ RepL g H μ l vs
  | .kt l, v => ∃ p vs, v = .ref p ∧ TpK g p vs ∧ RepL g H μ l vs
  | .ls l, v => ∃ p vs, v = .ref p ∧ p ∉ μ ∧ H p = some (.lst vs) ∧ RepL g H μ l vs
  | .sq l, v => ∃ p vs, v = .ref p ∧ LsI g H μ p vs ∧ RepL g H μ l vs
  | .dc k l, v => ∃ a, v = .ref a ∧ a ∉ μ ∧ ((k = 0 ∧ ∃ ks, Rd H a (.dK ks) ∧ RepK g H μ l ks) ∨ (k = 1 ∧ ∃ ks, Rd H a (.dT ks) ∧ RepT g H μ l ks))
  | .ob c fs, v => ∃ a C dx vs, v = .ref a ∧ a ∉ μ ∧ g.mg c = some (.ref C) ∧ H a = some (.ins C dx vs) ∧ RepF g H μ fs vs
  | .ref n, v => ∃ a, v = .ref a ∧ μ[n]? = some a
  | .fn x, v => ∃ a, v = .ref a ∧ g.mg x = some (.ref a)
def RepL (g : G) (H : Hp) (μ : List Addr) : List D → List V → Prop
  | [], vs => vs = []
  | d :: l, vs => ∃ v r, vs = v :: r ∧ Rep g H μ d v ∧ RepL g H μ l r
def RepK (g : G) (H : Hp) (μ : List Addr) : List (D × D) → List (Key × V) → Prop
  | [], vs => vs = []
  | d :: l, vs => ∃ k v r, vs = (k, v) :: r ∧ d.1 = kD k ∧ Rep g H μ d.2 v ∧ RepK g H μ l r
def RepT (g : G) (H : Hp) (μ : List Addr) : List (D × D) → List (List Key × V) → Prop
  | [], vs => vs = []
  | d :: l, vs => ∃ k v r, vs = (k, v) :: r ∧ d.1 = tD k ∧ Rep g H μ d.2 v ∧ RepT g H μ l r
def RepF (g : G) (H : Hp) (μ : List Addr) : List (Str × D) → List (Str × V) → Prop
  | [], vs => vs = []
  | d :: l, vs => ∃ v r, vs = (d.1, v) :: r ∧ Rep g H μ d.2 v ∧ RepF g H μ l r
end

theorem core_self {u : HO} (hz : ∀ o x, u ≠ .frz o x) : core u = u := by
  cases u <;> first | rfl | exact absurd rfl (hz _ _)
theorem core_of {u o' : HO} (c : core o' = u) : o' = u ∨ ∃ x, o' = .frz x u := by
  cases o' with
  | frz x y =>
    by_cases hd : isDic y = true
    · simp only [core, if_pos hd] at c; subst c; exact .inr ⟨x, rfl⟩
    · simp only [core, if_neg hd] at c; exact .inl c
  | _ => exact .inl c
theorem core_eq {u o' : HO} (c : core o' = u) (hd : isDic u = false) : o' = u := by
  cases o' with
  | frz x y =>
    by_cases h : isDic y = true
    · simp only [core, if_pos h] at c; subst c; rw [h] at hd; cases hd
    · simp only [core, if_neg h] at c; exact c
  | _ => exact c
theorem core_tbl {o o1 : HO} (c : core o1 = core o) (ht : ∀ ps, o ≠ .tbl ps) : ∀ ps, o1 ≠ .tbl ps := fun ps z => by
  subst z
  have c : core o = .tbl ps := c.symm
  rcases core_of c with rfl | ⟨x, rfl⟩
  · exact ht _ rfl
  · simp [core, isDic] at c

/-- what may have changed from one moment to a later one: the cells; new cells are new -/
structure Grw (μ : List Addr) (H : Hp) (μ' : List Addr) (H' : Hp) : Prop where
  pre : ∃ ν, μ' = μ ++ ν ∧ ∀ b ∈ ν, ∀ o, H b = some o → ∃ ps, o = .tbl ps
  keep : ∀ b o, b ∉ μ → H b = some o → (∀ ps, o ≠ .tbl ps) → ∃ o', H' b = some o' ∧ core o' = core o
  sup : ∀ b o, H b = some o → (∀ ps, o ≠ .tbl ps) → ∃ o', H' b = some o' ∧ ∀ ps, o' ≠ .tbl ps
theorem Grw.refl (μ : List Addr) (H : Hp) : Grw μ H μ H := ⟨⟨[], by simp, by simp⟩, fun _ o _ h _ => ⟨o, h, rfl⟩, fun _ o h n => ⟨o, h, n⟩⟩
section
variable {g : G} {μ μ' μ1 μ2 : List Addr} {H H' H1 H2 : Hp}
theorem Grw.nin (h : Grw μ H μ' H') {b : Addr} {o : HO} (hb : b ∉ μ) (e : H b = some o) (ht : ∀ ps, o ≠ .tbl ps := by intro ps z; cases z) : b ∉ μ' := by
  obtain ⟨ν, rfl, hf⟩ := h.pre
  intro hm
  rcases List.mem_append.mp hm with z | z
  · exact hb z
  · obtain ⟨ps, q⟩ := hf b z o e
    exact ht ps q
theorem Grw.trans (a : Grw μ H μ1 H1) (b : Grw μ1 H1 μ2 H2) : Grw μ H μ2 H2 := by
  refine ⟨?_, fun x o hx e ht => ?_, fun x o e ht => ?_⟩
  rotate_left
  · obtain ⟨o1, e1, c1⟩ := a.keep x o hx e ht
    obtain ⟨o2, e2, c2⟩ := b.keep x o1 (a.nin hx e ht) e1 (core_tbl c1 ht)
    exact ⟨o2, e2, c2.trans c1⟩
  rotate_left
  · obtain ⟨ν, e1, f1⟩ := a.pre
    obtain ⟨ν', e2, f2⟩ := b.pre
    refine ⟨ν ++ ν', by rw [e2, e1, List.append_assoc], fun x hx o e => ?_⟩
    rcases List.mem_append.mp hx with z | z
    · exact f1 x z o e
    · by_cases ht : ∃ ps, o = .tbl ps
      · exact ht
      · obtain ⟨o', q, n⟩ := a.sup x o e fun ps z => ht ⟨ps, z⟩
        obtain ⟨ps, r⟩ := f2 x z o' q
        exact absurd r (n ps)
  · obtain ⟨o', q, n⟩ := a.sup x o e ht
    exact b.sup x o' q n
theorem Grw.get (h : Grw μ H μ' H') {n : Nat} {a : Addr} (e : μ[n]? = some a) : μ'[n]? = some a := by
  obtain ⟨ν, rfl, _⟩ := h.pre
  rw [List.getElem?_append_left (List.getElem?_eq_some_iff.mp e).1]; exact e
theorem Grw.at (h : Grw μ H μ' H') {p : Addr} {u : HO} (hp : p ∉ μ) (r : H p = some u) (hu : core u = u) (hd : isDic u = false) (ht : ∀ ps, u ≠ .tbl ps) : H' p = some u := by
  obtain ⟨o', e, c⟩ := h.keep p u hp r ht
  rw [hu] at c
  rw [e, core_eq c hd]
theorem Grw.rd (h : Grw μ H μ' H') {p : Addr} {u : HO} (hp : p ∉ μ) (r : Rd H p u) (ht : ∀ ps, u ≠ .tbl ps) (hz : ∀ o x, u ≠ .frz o x) : p ∉ μ' ∧ Rd H' p u := by
  rcases r with r | ⟨o, r⟩
  · refine ⟨h.nin hp r ht, ?_⟩
    obtain ⟨o', e, c⟩ := h.keep p _ hp r ht
    rw [core_self hz] at c
    rcases core_of c with rfl | ⟨x, rfl⟩
    · exact .inl e
    · exact .inr ⟨x, e⟩
  · refine ⟨h.nin hp r, ?_⟩
    obtain ⟨o', e, c⟩ := h.keep p _ hp r (fun ps z => by cases z)
    by_cases hd : isDic u = true
    · simp only [core, if_pos hd] at c
      rcases core_of c with rfl | ⟨x, rfl⟩
      · exact .inl e
      · exact .inr ⟨x, e⟩
    · simp only [core, if_neg hd] at c
      rcases core_of c with rfl | ⟨x, rfl⟩
      · exact .inr ⟨o, e⟩
      · simp [core, isDic] at c
        exact absurd c.2.symm (hz _ _)
theorem LsI.monoW {p : Addr} {vs : List V} (h : Grw μ H μ' H') (x : LsI g H μ p vs) : LsI g H' μ' p vs :=
  x.elim (fun y => .inl (h.rd y.1 y.2 (fun ps z => by cases z) (fun o x z => by cases z))) .inr
mutual
theorem Rep.monoW (h : Grw μ H μ' H') : ∀ {d : D} {v : V}, Rep g H μ d v → Rep g H' μ' d v
  | .non, v, r => r
  | .bl b, v, r => r
  | .int i, v, r => r
  | .str s, v, r => r
  | .tup l, v, r => by
    simp only [Rep] at r ⊢
    obtain ⟨p, vs, e, n, t, q⟩ := r
    exact ⟨p, vs, e, h.nin n t, h.at n t rfl rfl (fun ps z => by cases z), RepL.monoW h q⟩
  | .kt l, v, r => by
    simp only [Rep] at r ⊢
    obtain ⟨p, vs, e, t, q⟩ := r
    exact ⟨p, vs, e, t, RepL.monoW h q⟩
  | .ls l, v, r => by
    simp only [Rep] at r ⊢
    obtain ⟨p, vs, e, n, t, q⟩ := r
    exact ⟨p, vs, e, h.nin n t, h.at n t rfl rfl (fun ps z => by cases z), RepL.monoW h q⟩
  | .sq l, v, r => by
    simp only [Rep] at r ⊢
    obtain ⟨p, vs, e, t, q⟩ := r
    exact ⟨p, vs, e, t.monoW h, RepL.monoW h q⟩
  | .dc k l, v, r => by
    simp only [Rep] at r ⊢
    obtain ⟨a, e, n, ⟨hk, ks, d, q⟩ | ⟨hk, ks, d, q⟩⟩ := r
    · obtain ⟨n', d'⟩ := h.rd n d (fun ps z => by cases z) (fun o x z => by cases z)
      exact ⟨a, e, n', .inl ⟨hk, ks, d', RepK.monoW h q⟩⟩
    · obtain ⟨n', d'⟩ := h.rd n d (fun ps z => by cases z) (fun o x z => by cases z)
      exact ⟨a, e, n', .inr ⟨hk, ks, d', RepT.monoW h q⟩⟩
  | .ob c fs, v, r => by
    simp only [Rep] at r ⊢
    obtain ⟨a, C, dx, vs, e, n, m, k, q⟩ := r
    exact ⟨a, C, dx, vs, e, h.nin n k, m, h.at n k rfl rfl (fun ps z => by cases z), RepF.monoW h q⟩
  | .ref n, v, r => by
    simp only [Rep] at r ⊢
    obtain ⟨a, e, q⟩ := r
    exact ⟨a, e, h.get q⟩
  | .fn x, v, r => by simp only [Rep] at r ⊢; exact r
theorem RepL.monoW (h : Grw μ H μ' H') : ∀ {d : List D} {v : List V}, RepL g H μ d v → RepL g H' μ' d v
  | [], v, r => r
  | d :: l, v, r => by
    simp only [RepL] at r ⊢
    obtain ⟨x, y, e, q, t⟩ := r
    exact ⟨x, y, e, Rep.monoW h q, RepL.monoW h t⟩
theorem RepK.monoW (h : Grw μ H μ' H') : ∀ {d : List (D × D)} {v : List (Key × V)}, RepK g H μ d v → RepK g H' μ' d v
  | [], v, r => r
  | d :: l, v, r => by
    simp only [RepK] at r ⊢
    obtain ⟨k, x, y, e, z, q, t⟩ := r
    exact ⟨k, x, y, e, z, Rep.monoW h q, RepK.monoW h t⟩
theorem RepT.monoW (h : Grw μ H μ' H') : ∀ {d : List (D × D)} {v : List (List Key × V)}, RepT g H μ d v → RepT g H' μ' d v
  | [], v, r => r
  | d :: l, v, r => by
    simp only [RepT] at r ⊢
    obtain ⟨k, x, y, e, z, q, t⟩ := r
    exact ⟨k, x, y, e, z, Rep.monoW h q, RepT.monoW h t⟩
theorem RepF.monoW (h : Grw μ H μ' H') : ∀ {d : List (Str × D)} {v : List (Str × V)}, RepF g H μ d v → RepF g H' μ' d v
  | [], v, r => r
  | d :: l, v, r => by
    simp only [RepF] at r ⊢
    obtain ⟨x, y, e, q, t⟩ := r
    exact ⟨x, y, e, Rep.monoW h q, RepF.monoW h t⟩
end
end

/-- .. and what is locked stays so -/
structure Grow (μ : List Addr) (H : Hp) (μ' : List Addr) (H' : Hp) : Prop extends Grw μ H μ' H' where
  fz : ∀ b o u, H b = some (.frz o u) → H' b = some (.frz o u)
theorem Grow.refl (μ : List Addr) (H : Hp) : Grow μ H μ H := ⟨.refl μ H, fun _ _ _ h => h⟩
section
variable {g : G} {μ μ' μ1 μ2 : List Addr} {H H' H1 H2 : Hp}
theorem Grow.nin (h : Grow μ H μ' H') {b : Addr} {o : HO} (hb : b ∉ μ) (e : H b = some o) (ht : ∀ ps, o ≠ .tbl ps := by intro ps z; cases z) : b ∉ μ' := h.toGrw.nin hb e ht
theorem Grow.trans (a : Grow μ H μ1 H1) (b : Grow μ1 H1 μ2 H2) : Grow μ H μ2 H2 := ⟨a.toGrw.trans b.toGrw, fun x o u e => b.fz x o u (a.fz x o u e)⟩
theorem Grow.get (h : Grow μ H μ' H') {n : Nat} {a : Addr} (e : μ[n]? = some a) : μ'[n]? = some a := h.toGrw.get e
theorem Grow.at (h : Grow μ H μ' H') {p : Addr} {u : HO} (hp : p ∉ μ) (r : H p = some u) (hu : core u = u) (hd : isDic u = false) (ht : ∀ ps, u ≠ .tbl ps) : H' p = some u := h.toGrw.at hp r hu hd ht
theorem Grow.rd (h : Grow μ H μ' H') {p : Addr} {u : HO} (hp : p ∉ μ) (r : Rd H p u) (ht : ∀ ps, u ≠ .tbl ps) (hz : ∀ o x, u ≠ .frz o x) : p ∉ μ' ∧ Rd H' p u := h.toGrw.rd hp r ht hz
theorem LsI.mono {p : Addr} {vs : List V} (h : Grow μ H μ' H') (x : LsI g H μ p vs) : LsI g H' μ' p vs := x.monoW h.toGrw
theorem Rep.mono (h : Grow μ H μ' H') {d : D} {v : V} (r : Rep g H μ d v) : Rep g H' μ' d v := r.monoW h.toGrw
theorem RepL.mono (h : Grow μ H μ' H') {d : List D} {v : List V} (r : RepL g H μ d v) : RepL g H' μ' d v := r.monoW h.toGrw
theorem RepK.mono (h : Grow μ H μ' H') {d : List (D × D)} {v : List (Key × V)} (r : RepK g H μ d v) : RepK g H' μ' d v := r.monoW h.toGrw
theorem RepT.mono (h : Grow μ H μ' H') {d : List (D × D)} {v : List (List Key × V)} (r : RepT g H μ d v) : RepT g H' μ' d v := r.monoW h.toGrw
theorem RepF.mono (h : Grow μ H μ' H') {d : List (Str × D)} {v : List (Str × V)} (r : RepF g H μ d v) : RepF g H' μ' d v := r.monoW h.toGrw
end

/-! ### lists of them -/
section
variable {g : G} {μ : List Addr} {H : Hp}
theorem RepL.nil : RepL g H μ [] [] := by simp [RepL]
theorem RepL.cons {d : D} {v : V} {l : List D} {r : List V} (h : Rep g H μ d v) (t : RepL g H μ l r) : RepL g H μ (d :: l) (v :: r) := by simp only [RepL]; exact ⟨v, r, rfl, h, t⟩
theorem RepL.length : ∀ {l : List D} {vs : List V}, RepL g H μ l vs → l.length = vs.length
  | [], vs, r => by simp only [RepL] at r; subst r; rfl
  | d :: l, vs, r => by
    simp only [RepL] at r
    obtain ⟨x, y, e, q, t⟩ := r
    subst e; simp [RepL.length t]
theorem RepL.get : ∀ {l : List D} {vs : List V} {i : Nat} {d : D}, RepL g H μ l vs → l[i]? = some d → ∃ v, vs[i]? = some v ∧ Rep g H μ d v
  | [], vs, i, d, r, e => by simp at e
  | x :: l, vs, i, d, r, e => by
    simp only [RepL] at r
    obtain ⟨v, y, rfl, q, t⟩ := r
    cases i with
    | zero => simp at e; subst e; exact ⟨v, rfl, q⟩
    | succ i => simp at e; obtain ⟨u, h1, h2⟩ := RepL.get t e; exact ⟨u, by simpa using h1, h2⟩
theorem RepL.get' : ∀ {l : List D} {vs : List V} {i : Nat} {v : V}, RepL g H μ l vs → vs[i]? = some v → ∃ d, l[i]? = some d ∧ Rep g H μ d v
  | [], vs, i, v, r, e => by simp only [RepL] at r; subst r; simp at e
  | x :: l, vs, i, v, r, e => by
    simp only [RepL] at r
    obtain ⟨v, y, rfl, q, t⟩ := r
    cases i with
    | zero => simp at e; subst e; exact ⟨x, rfl, q⟩
    | succ i => simp at e; obtain ⟨u, h1, h2⟩ := RepL.get' t e; exact ⟨u, by simpa using h1, h2⟩
theorem RepL.append : ∀ {l m : List D} {vs us : List V}, RepL g H μ l vs → RepL g H μ m us → RepL g H μ (l ++ m) (vs ++ us)
  | [], m, vs, us, r, q => by simp only [RepL] at r; subst r; exact q
  | d :: l, m, vs, us, r, q => by
    simp only [RepL] at r
    obtain ⟨x, y, e, h, t⟩ := r
    subst e; exact .cons h (RepL.append t q)
theorem RepL.snoc {l : List D} {vs : List V} {d : D} {v : V} (r : RepL g H μ l vs) (h : Rep g H μ d v) : RepL g H μ (l ++ [d]) (vs ++ [v]) := r.append (.cons h .nil)
theorem RepL.take : ∀ {l : List D} {vs : List V} (n : Nat), RepL g H μ l vs → RepL g H μ (l.take n) (vs.take n)
  | [], vs, n, r => by simp only [RepL] at r; subst r; simp [RepL]
  | d :: l, vs, 0, r => by simp [RepL]
  | d :: l, vs, n + 1, r => by
    simp only [RepL] at r
    obtain ⟨x, y, e, h, t⟩ := r
    subst e; exact .cons h (RepL.take n t)
theorem RepL.drop : ∀ {l : List D} {vs : List V} (n : Nat), RepL g H μ l vs → RepL g H μ (l.drop n) (vs.drop n)
  | [], vs, n, r => by simp only [RepL] at r; subst r; simp [RepL]
  | d :: l, vs, 0, r => r
  | d :: l, vs, n + 1, r => by
    simp only [RepL] at r
    obtain ⟨x, y, e, h, t⟩ := r
    subst e; exact RepL.drop n t
theorem RepL.set : ∀ {l : List D} {vs : List V} (n : Nat) {d : D} {v : V}, RepL g H μ l vs → Rep g H μ d v → RepL g H μ (l.set n d) (vs.set n v)
  | [], vs, n, d, v, r, h => by simp only [RepL] at r; subst r; simp [RepL]
  | x :: l, vs, 0, d, v, r, h => by
    simp only [RepL] at r
    obtain ⟨a, y, e, q, t⟩ := r
    subst e; exact .cons h t
  | x :: l, vs, n + 1, d, v, r, h => by
    simp only [RepL] at r
    obtain ⟨a, y, e, q, t⟩ := r
    subst e; exact .cons q (RepL.set n t h)
theorem RepL.reverse : ∀ {l : List D} {vs : List V}, RepL g H μ l vs → RepL g H μ l.reverse vs.reverse
  | [], vs, r => by simp only [RepL] at r; subst r; simp [RepL]
  | d :: l, vs, r => by
    simp only [RepL] at r
    obtain ⟨x, y, e, h, t⟩ := r
    subst e; simp only [List.reverse_cons]; exact (RepL.reverse t).snoc h
theorem RepL.none_of {l : List D} {vs : List V} {i : Nat} (r : RepL g H μ l vs) (e : l[i]? = none) : vs[i]? = none := by
  rw [List.getElem?_eq_none_iff] at e ⊢; rw [← r.length]; exact e

/-! ### attributes -/
def lookD (f : Str) : List (Str × D) → Option D
  | [] => none
  | p :: l => if p.1 = f then some p.2 else lookD f l
def putD (f : Str) (d : D) : List (Str × D) → List (Str × D)
  | [] => [(f, d)]
  | p :: l => if p.1 = f then (f, d) :: l else p :: putD f d l
theorem RepF.look {f : Str} : ∀ {l : List (Str × D)} {vs : List (Str × V)}, RepF g H μ l vs → (∀ d, lookD f l = some d → ∃ v, vs.lookup f = some v ∧ Rep g H μ d v) ∧ (lookD f l = none → vs.lookup f = none)
  | [], vs, r => by simp only [RepF] at r; subst r; simp [lookD]
  | d :: l, vs, r => by
    simp only [RepF] at r
    obtain ⟨x, y, e, h, t⟩ := r
    subst e
    by_cases q : d.1 = f
    · subst q; simp [lookD, List.lookup, h]
    · have q' : (f == d.1) = false := by simpa using fun z => q z.symm
      simp only [lookD, if_neg q, List.lookup, q']
      exact RepF.look t
theorem RepF.length : ∀ {l : List (Str × D)} {vs : List (Str × V)}, RepF g H μ l vs → l.length = vs.length
  | [], vs, r => by simp only [RepF] at r; subst r; rfl
  | d :: l, vs, r => by
    simp only [RepF] at r
    obtain ⟨x, y, e, q, t⟩ := r
    subst e; simp [RepF.length t]
theorem RepF.put {f : Str} {d : D} {v : V} (h : Rep g H μ d v) : ∀ {l : List (Str × D)} {vs : List (Str × V)}, RepF g H μ l vs → RepF g H μ (putD f d l) (putF f v vs)
  | [], vs, r => by simp only [RepF] at r; subst r; simp [putD, putF, RepF, h]
  | x :: l, vs, r => by
    simp only [RepF] at r
    obtain ⟨a, y, e, q, t⟩ := r
    subst e
    by_cases z : x.1 = f
    · subst z; simp only [putD, putF, if_true, RepF]; exact ⟨v, y, rfl, h, t⟩
    · simp only [putD, putF, if_neg z, RepF]
      exact ⟨_, _, rfl, q, RepF.put h t⟩
end
end Gp

set_option Elab.async false
set_option linter.all false
set_option maxRecDepth 100000
/-! Gp2: the store, results, what a piece of code is worth -/
namespace Gp
open PySem PySem.Spec L2
open PyProof.Rows hiding St

def DicAt (g : G) (H : Hp) (μ : List Addr) (k : Nat) (l : List (D × D)) (u : HO) : Prop :=
  (k = 0 ∧ ∃ ks, u = .dK ks ∧ RepK g H μ l ks) ∨ (k = 1 ∧ ∃ ks, u = .dT ks ∧ RepT g H μ l ks)
def CellOk (g : G) (H : Hp) (μ : List Addr) (a : Addr) : Cell → Prop
  | .lst l => ∃ vs, H a = some (.lst vs) ∧ RepL g H μ l vs
  | .dict k lk l => ∃ u, DicAt g H μ k l u ∧ (if lk = true then ∃ o, H a = some (.frz o u) else H a = some u)
  | .obj c fs => ∃ C dx vs, g.mg c = some (.ref C) ∧ H a = some (.ins C dx vs) ∧ RepF g H μ fs vs
structure W (g : G) (μ : List Addr) (H : Hp) (S : Sto) : Prop where
  len : μ.length = S.length
  nd : μ.Nodup
  cell : ∀ (n : Nat) (a : Addr) (c : Cell), μ[n]? = some a → S[n]? = some c → CellOk g H μ a c
  tb : g.tb H
section
variable {g : G} {μ μ' : List Addr} {H H' : Hp} {S S' : Sto} {a p : Addr} {o : HO} {c : Cell} {n : Nat}
theorem DicAt.monoW (h : Grw μ H μ' H') {k : Nat} {l : List (D × D)} {u : HO} (x : DicAt g H μ k l u) : DicAt g H' μ' k l u :=
  x.elim (fun ⟨e, ks, q, r⟩ => .inl ⟨e, ks, q, r.monoW h⟩) fun ⟨e, ks, q, r⟩ => .inr ⟨e, ks, q, r.monoW h⟩
theorem CellOk.monoW (h : Grw μ H μ' H') (e : H' a = H a) (x : CellOk g H μ a c) : CellOk g H' μ' a c := by
  cases c with
  | lst l => obtain ⟨vs, q, r⟩ := x; exact ⟨vs, by rw [e]; exact q, r.monoW h⟩
  | dict k lk l => obtain ⟨u, q, r⟩ := x; exact ⟨u, q.monoW h, by rw [e]; exact r⟩
  | obj cl fs => obtain ⟨C, dx, vs, m, q, r⟩ := x; exact ⟨C, dx, vs, m, by rw [e]; exact q, r.monoW h⟩
theorem DicAt.mono (h : Grow μ H μ' H') {k : Nat} {l : List (D × D)} {u : HO} (x : DicAt g H μ k l u) : DicAt g H' μ' k l u := x.monoW h.toGrw
theorem CellOk.mono (h : Grow μ H μ' H') (e : H' a = H a) (x : CellOk g H μ a c) : CellOk g H' μ' a c := x.monoW h.toGrw e
/-- what stands at a cell's address -/
theorem CellOk.at (x : CellOk g H μ a c) : ∃ u, H a = some u ∧ (∀ ps, u ≠ .tbl ps) ∧ (∀ φ, u ≠ .ext φ) ∧ (∀ xs, u ≠ .tup xs) ∧ (∀ y, u ≠ .own y) := by
  cases c with
  | lst l => obtain ⟨vs, q, r⟩ := x; exact ⟨_, q, by simp, by simp, by simp, by simp⟩
  | dict k lk l =>
    obtain ⟨u, q, r⟩ := x
    cases lk with
    | true =>
      rw [if_pos rfl] at r
      obtain ⟨o, r⟩ := r
      exact ⟨_, r, by simp, by simp, by simp, by simp⟩
    | false =>
      rw [if_neg (by simp)] at r
      rcases q with ⟨_, ks, rfl, _⟩ | ⟨_, ks, rfl, _⟩ <;> exact ⟨_, r, by simp, by simp, by simp, by simp⟩
  | obj cl fs => obtain ⟨C, dx, vs, m, q, r⟩ := x; exact ⟨_, q, by simp, by simp, by simp, by simp⟩
theorem W.mem (w : W g μ H S) (h : a ∈ μ) : ∃ (n : Nat) (c : Cell), μ[n]? = some a ∧ S[n]? = some c ∧ CellOk g H μ a c := by
  obtain ⟨n, hn, e⟩ := List.getElem_of_mem h
  have hs : n < S.length := by rw [← w.len]; exact hn
  have e1 : μ[n]? = some a := by rw [List.getElem?_eq_getElem hn, e]
  exact ⟨n, S[n], e1, List.getElem?_eq_getElem hs, w.cell n a _ e1 (List.getElem?_eq_getElem hs)⟩
theorem W.there (w : W g μ H S) (h : a ∈ μ) : ∃ u, H a = some u ∧ (∀ ps, u ≠ .tbl ps) ∧ (∀ φ, u ≠ .ext φ) ∧ (∀ xs, u ≠ .tup xs) ∧ (∀ y, u ≠ .own y) := by
  obtain ⟨n, c, _, _, k⟩ := w.mem h
  exact k.at
theorem W.fresh (w : W g μ H S) (h : H a = none) : a ∉ μ := fun m => by
  obtain ⟨u, e, _⟩ := w.there m
  rw [h] at e; cases e
theorem W.ix (w : W g μ H S) (e : S[n]? = some c) : ∃ a, μ[n]? = some a ∧ a ∈ μ ∧ CellOk g H μ a c := by
  have hn : n < μ.length := by rw [w.len]; exact (List.getElem?_eq_some_iff.mp e).1
  exact ⟨μ[n], List.getElem?_eq_getElem hn, List.getElem_mem hn, w.cell n _ c (List.getElem?_eq_getElem hn) e⟩
theorem W.ref (w : W g μ H S) {v : V} (r : Rep g H μ (.ref n) v) (e : S[n]? = some c) : ∃ a, v = .ref a ∧ μ[n]? = some a ∧ a ∈ μ ∧ CellOk g H μ a c := by
  obtain ⟨a, h1, h2, h3⟩ := w.ix e
  simp only [Rep] at r
  obtain ⟨b, rfl, h4⟩ := r
  rw [h1] at h4; cases h4
  exact ⟨a, rfl, h1, h2, h3⟩

/-! ### updates -/
theorem fz_fresh (h : H p = none) : ∀ b x u, H b = some (.frz x u) → upd H p o b = some (.frz x u) := fun b x u e => by rw [upd_ne (ne_of_none e h)]; exact e
theorem grow_fresh (h : H p = none) : Grow μ H μ (upd H p o) := by
  refine ⟨?_, fz_fresh h⟩
  exact ⟨⟨[], by simp, by simp⟩, fun b u _ e _ => ⟨u, by rw [upd_ne (ne_of_none e h)]; exact e, rfl⟩, fun b u e n => ⟨u, by rw [upd_ne (ne_of_none e h)]; exact e, n⟩⟩
theorem grow_alloc (h : H p = none) : Grow μ H (μ ++ [p]) (upd H p o) := by
  refine ⟨?_, fz_fresh h⟩
  exact ⟨⟨[p], rfl, by simp [h]⟩, fun b u _ e _ => ⟨u, by rw [upd_ne (ne_of_none e h)]; exact e, rfl⟩, fun b u e n => ⟨u, by rw [upd_ne (ne_of_none e h)]; exact e, n⟩⟩
theorem grw_set (h : a ∈ μ) (ho : ∀ ps, o ≠ .tbl ps) : Grw μ H μ (upd H a o) := by
  refine ⟨⟨[], by simp, by simp⟩, fun b u hb e _ => ⟨u, by rw [upd_ne (fun z => hb (by rw [z]; exact h))]; exact e, rfl⟩, fun b u e n => ?_⟩
  by_cases z : b = a
  · subst z; exact ⟨o, upd_same, ho⟩
  · exact ⟨u, by rw [upd_ne z]; exact e, n⟩
theorem grow_set {u : HO} (h : a ∈ μ) (e : H a = some u) (hz : ∀ o x, u ≠ .frz o x) (ho : ∀ ps, o ≠ .tbl ps := by intro ps z; cases z) : Grow μ H μ (upd H a o) := ⟨grw_set h ho, fun b x y q => by
  rw [upd_ne (fun z => ?_)]
  · exact q
  · subst z
    rw [e] at q
    cases q
    exact hz _ _ rfl⟩
theorem W.add (w : W g μ H S) (h : H p = none) : W g μ (upd H p o) S where
  len := w.len
  nd := w.nd
  cell := fun n a c e1 e2 => by
    have k := w.cell n a c e1 e2
    obtain ⟨u, hu, _⟩ := k.at
    exact k.mono (grow_fresh h) (upd_ne (ne_of_none hu h))
  tb := g.tbk _ _ (fun b u e _ => by rw [upd_ne (ne_of_none e h)]; exact e) w.tb
theorem W.alloc (w : W g μ H S) (h : H p = none) (k : CellOk g (upd H p o) (μ ++ [p]) p c) : W g (μ ++ [p]) (upd H p o) (S ++ [c]) where
  len := by simp [w.len]
  nd := by
    rw [List.nodup_append]
    refine ⟨w.nd, by simp, fun a ha b hb => ?_⟩
    have e : b = p := by simpa using hb
    subst e
    rintro rfl
    exact w.fresh h ha
  cell := fun n a c' e1 e2 => by
    by_cases hn : n < μ.length
    · rw [List.getElem?_append_left hn] at e1
      rw [List.getElem?_append_left (by rw [← w.len]; exact hn)] at e2
      have k' := w.cell n a c' e1 e2
      obtain ⟨u, hu, _⟩ := k'.at
      exact k'.mono (grow_alloc h) (upd_ne (ne_of_none hu h))
    · have hn' : n < (μ ++ [p]).length := (List.getElem?_eq_some_iff.mp e1).1
      have : n = μ.length := by simp at hn'; omega
      subst this
      rw [List.getElem?_append_right (Nat.le_refl _)] at e1
      rw [w.len, List.getElem?_append_right (Nat.le_refl _)] at e2
      simp at e1 e2
      subst e1 e2
      exact k
  tb := g.tbk _ _ (fun b u e _ => by rw [upd_ne (ne_of_none e h)]; exact e) w.tb
theorem W.set (w : W g μ H S) (e : μ[n]? = some a) (k : CellOk g (upd H a o) μ a c) : W g μ (upd H a o) (S.set n c) where
  len := by simp [w.len]
  nd := w.nd
  cell := fun m b c' e1 e2 => by
    by_cases hm : n = m
    · subst hm
      rw [e] at e1; cases e1
      have hn : n < S.length := by rw [← w.len]; exact (List.getElem?_eq_some_iff.mp e).1
      rw [List.getElem?_set_self hn] at e2
      cases e2
      exact k
    · rw [List.getElem?_set_ne hm] at e2
      refine (w.cell m b c' e1 e2).monoW (grw_set (List.mem_of_getElem? e) (by obtain ⟨u, q, n, _⟩ := k.at; rw [upd_same] at q; cases q; exact n)) (upd_ne fun z => ?_)
      subst z
      obtain ⟨h1, q1⟩ := List.getElem?_eq_some_iff.mp e
      obtain ⟨h2, q2⟩ := List.getElem?_eq_some_iff.mp e1
      exact hm ((List.getElem_inj w.nd).mp (q1.trans q2.symm))
  tb := by
    obtain ⟨u, hu, n1, n2, _⟩ := w.there (List.mem_of_getElem? e)
    refine g.tbk _ _ (fun b v q z => ?_) w.tb
    rw [upd_ne fun y => ?_]
    · exact q
    · subst y
      rw [hu] at q
      cases q
      rcases z with ⟨ps, z⟩ | ⟨φ, z⟩
      · exact n1 ps z
      · exact n2 φ z
end

/-! ### results -/
inductive Res where
  | ok (d : D) (S : Sto)
  | exc (c : Str) (S : Sto)
  | bad
def Res.bind (r : Res) (f : D → Sto → Res) : Res := match r with
  | .ok d S => f d S
  | .exc c S => .exc c S
  | .bad => .bad
abbrev Ev := List (Option D)
abbrev GE := Ev → Sto → Res
/-- a primitive's end -/
abbrev Pr := Option (D × Sto)
def Pr.res : Pr → Res
  | some (d, S) => .ok d S
  | none => .bad
@[simp] theorem Res.bind_ok {d : D} {S : Sto} {f : D → Sto → Res} : (Res.ok d S).bind f = f d S := rfl
@[simp] theorem Res.bind_exc {c : Str} {S : Sto} {f : D → Sto → Res} : (Res.exc c S).bind f = .exc c S := rfl
@[simp] theorem Res.bind_bad {f : D → Sto → Res} : Res.bad.bind f = .bad := rfl

def EnvOk (g : G) (H : Hp) (μ : List Addr) : Ev → St → Prop
  | [], σ => σ = []
  | d :: ρ, σ => ∃ v r, σ = v :: r ∧ (∀ x, d = some x → ∃ u, v = some u ∧ Rep g H μ x u) ∧ EnvOk g H μ ρ r
def PostR (g : G) (μ : List Addr) (H : Hp) (r : Res) (Q : VK) (E : Str → Hp → Prop) : Prop := match r with
  | .ok d S => ∀ v H' μ', Grow μ H μ' H' → W g μ' H' S → Rep g H' μ' d v → Q v H'
  | .exc c S => ∀ H' μ', Grow μ H μ' H' → W g μ' H' S → E c H'
  | .bad => False
def PostP (g : G) (μ : List Addr) (H : Hp) (r : Pr) (Q : VK) : Prop := match r with
  | some (d, S) => ∀ v H' μ', Grow μ H μ' H' → W g μ' H' S → Rep g H' μ' d v → Q v H'
  | none => False
/-- what is wished of an exception -/
def wE (g : G) (Wx : WX) (σ : St) : Str → Hp → Prop := fun c H' => ∀ C, g.mg c = some (.ref C) → Wx (.ref C) none σ H'
def tG (g : G) (Wx : WX) (m : GE) : TE := fun σ H Q => ∃ ρ S μ, EnvOk g H μ ρ σ ∧ W g μ H S ∧ PostR g μ H (m ρ S) Q (wE g Wx σ)
section
variable {g : G} {μ μ' : List Addr} {H H' : Hp} {S S' : Sto} {ρ : Ev} {σ : St} {Q : VK} {E : Str → Hp → Prop}
theorem EnvOk.mono (h : Grow μ H μ' H') : ∀ {ρ : Ev} {σ : St}, EnvOk g H μ ρ σ → EnvOk g H' μ' ρ σ
  | [], σ, r => r
  | d :: ρ, σ, r => by
    simp only [EnvOk] at r ⊢
    obtain ⟨v, y, e, q, t⟩ := r
    exact ⟨v, y, e, fun x hx => let ⟨u, a, b⟩ := q x hx; ⟨u, a, b.mono h⟩, EnvOk.mono h t⟩
theorem EnvOk.get : ∀ {ρ : Ev} {σ : St} {i : Nat} {d : D}, EnvOk g H μ ρ σ → ρ[i]? = some (some d) → ∃ v, σ[i]? = some (some v) ∧ Rep g H μ d v
  | [], σ, i, d, r, e => by simp at e
  | x :: ρ, σ, i, d, r, e => by
    simp only [EnvOk] at r
    obtain ⟨v, y, rfl, q, t⟩ := r
    cases i with
    | zero =>
      simp at e
      obtain ⟨u, rfl, h⟩ := q d e
      exact ⟨u, rfl, h⟩
    | succ i => simp at e; obtain ⟨u, h1, h2⟩ := EnvOk.get t e; exact ⟨u, by simpa using h1, h2⟩
theorem EnvOk.length : ∀ {ρ : Ev} {σ : St}, EnvOk g H μ ρ σ → ρ.length = σ.length
  | [], σ, r => by simp only [EnvOk] at r; subst r; rfl
  | d :: l, σ, r => by
    simp only [EnvOk] at r
    obtain ⟨x, y, rfl, q, t⟩ := r
    simp [EnvOk.length t]
theorem EnvOk.set : ∀ {ρ : Ev} {σ : St} (n : Nat) {d : Option D} {v : Option V}, EnvOk g H μ ρ σ → (∀ x, d = some x → ∃ u, v = some u ∧ Rep g H μ x u) → EnvOk g H μ (ρ.set n d) (σ.set n v)
  | [], σ, n, d, v, r, h => by simp only [EnvOk] at r; subst r; simp [EnvOk]
  | x :: l, σ, 0, d, v, r, h => by
    simp only [EnvOk] at r
    obtain ⟨a, y, rfl, q, t⟩ := r
    simp only [List.set_cons_zero, EnvOk]; exact ⟨v, y, rfl, h, t⟩
  | x :: l, σ, n + 1, d, v, r, h => by
    simp only [EnvOk] at r
    obtain ⟨a, y, rfl, q, t⟩ := r
    simp only [List.set_cons_succ, EnvOk]; exact ⟨a, _, rfl, q, EnvOk.set n t h⟩
theorem EnvOk.set1 {n : Nat} {d : D} {v : V} (r : EnvOk g H μ ρ σ) (h : Rep g H μ d v) : EnvOk g H μ (ρ.set n (some d)) (σ.set n (some v)) :=
  r.set n fun x e => by cases e; exact ⟨v, rfl, h⟩
theorem PostR.bind {r : Res} {f : D → Sto → Res} {K : VK} (h : PostR g μ H (r.bind f) Q E)
    (k : ∀ d S1 v H1 μ1, Grow μ H μ1 H1 → W g μ1 H1 S1 → Rep g H1 μ1 d v → PostR g μ1 H1 (f d S1) Q E → K v H1) : PostR g μ H r K E := by
  cases r with
  | ok d S1 =>
    intro v H1 μ1 gr w rp
    refine k d S1 v H1 μ1 gr w rp ?_
    have h : PostR g μ H (f d S1) Q E := h
    cases e : f d S1 with
    | ok d2 S2 => rw [e] at h; exact fun v2 H2 μ2 g2 w2 r2 => h v2 H2 μ2 (gr.trans g2) w2 r2
    | exc c S2 => rw [e] at h; exact fun H2 μ2 g2 w2 => h H2 μ2 (gr.trans g2) w2
    | bad => rw [e] at h; exact h
  | exc c S1 => exact h
  | bad => exact h
theorem PostR.pr {r : Pr} (h : PostR g μ H r.res Q E) : PostP g μ H r Q := by
  cases r with
  | none => exact h
  | some x => exact h
theorem PostP.imp {r : Pr} {Q' : VK} (h : PostP g μ H r Q) (k : ∀ v H', Q v H' → Q' v H') : PostP g μ H r Q' := by
  cases r with
  | none => exact h
  | some x => exact fun v H' μ' a b c => k v H' (h v H' μ' a b c)
/-- a primitive's end, the heap as it was -/
theorem PostP.here {d : D} {v : V} (h : PostP g μ H (some (d, S)) Q) (w : W g μ H S) (r : Rep g H μ d v) : Q v H := h v H μ (.refl _ _) w r
end

/-! ### the context -/
/-- a scope without names of its own: a lambda's -/
def lamLike (sc : Scope) : Bool := sc.names.all fun y => !decide (y.2 = .local) && !decide (y.2 = .cell)
/-- the def's code object, by a mark among the slots' names -/
def CdOk (g : G) (N : List Str) (env : Env) : Prop := lamLike env.scope = false → ∀ e ∈ g.cods, e.1 ∈ N → env.qual = e.2.1 ∧ env.code = .ref e.2.2.1
structure CtxOk (g : G) (N : List Str) (sc : Scope) (L : Nat) (Wx : WX) (X : Cx) : Prop where
  prog : X.prog = g.P
  wd : X.w = g.w
  K : X.K = g.K
  mg : X.mg = g.mg
  base : X.base = g.base
  N : X.N = N
  sc : X.env.scope = sc
  calm : X.calm = true
  tk : Takes X Wx
  room : Room L X.A
  pass : PassesOwn (model X.prog X.w) X.A X.env X.xe
  cd : CdOk g X.N X.env
def Real (g : G) (N : List Str) (sc : Scope) (L : Nat) (e : Expr) (m : GE) : Prop := ∀ Wx X, CtxOk g N sc L Wx X → PE X e (tG g Wx m)
theorem _root_.L2.PE.weak {X : Cx} {e : Expr} {t t' : TE} (h : PE X e t) (k : ∀ σ H Q, t' σ H Q → t σ H Q) : PE X e t' := ⟨fun pins s σ H Q I q => h.run pins s σ H Q I (k σ H Q q)⟩
theorem OpR.pick {X : Cx} {f : Value → Value → Sem Value} {r' : R2} (h : ∀ x y H Q, r' x y H Q → ∃ r, OpR X f r ∧ r x y H Q) : OpR X f r' := fun pins s σ H x y v u Q I rx ry q => by
  obtain ⟨r, o, z⟩ := h x y H Q q
  exact o pins s σ H x y v u Q I rx ry z
theorem UnR.pick {X : Cx} {f : Value → Sem Value} {r' : V → Hp → VK → Prop} (h : ∀ x H Q, r' x H Q → ∃ r, UnR X f r ∧ r x H Q) : UnR X f r' := fun pins s σ H x v Q I rx q => by
  obtain ⟨r, o, z⟩ := h x H Q q
  exact o pins s σ H x v Q I rx z
theorem CallR.pick {X : Cx} {f : Value} {r' : List V → Hp → VK → Prop} (h : ∀ x H Q, r' x H Q → ∃ r, CallR X f r ∧ r x H Q) : CallR X f r' := fun pins s σ H x v Q I rx q => by
  obtain ⟨r, o, z⟩ := h x H Q q
  exact o pins s σ H x v Q I rx z
/-- what a two-place primitive's reading is -/
def rP2 (g : G) (p : D → D → Sto → Pr) : R2 := fun x y H Q => ∃ a b S μ, W g μ H S ∧ Rep g H μ a x ∧ Rep g H μ b y ∧ PostP g μ H (p a b S) Q
def rP1 (g : G) (p : D → Sto → Pr) : V → Hp → VK → Prop := fun x H Q => ∃ a S μ, W g μ H S ∧ Rep g H μ a x ∧ PostP g μ H (p a S) Q
def rPn (g : G) (p : List D → Sto → Pr) : List V → Hp → VK → Prop := fun x H Q => ∃ a S μ, W g μ H S ∧ RepL g H μ a x ∧ PostP g μ H (p a S) Q

/-! ### combinators -/
def gVar (i : Nat) : GE := fun ρ S => match ρ[i]? with
  | some (some d) => .ok d S
  | _ => .bad
def gC (d : D) : GE := fun _ S => .ok d S
def gBin (p : D → D → Sto → Pr) (a b : GE) : GE := fun ρ S => (a ρ S).bind fun x S1 => (b ρ S1).bind fun y S2 => (p x y S2).res
def gUn (p : D → Sto → Pr) (a : GE) : GE := fun ρ S => (a ρ S).bind fun x S1 => (p x S1).res
/-- argument lists -/
def gArgs : List GE → Ev → Sto → (List D → Sto → Res) → Res
  | [], _, S, k => k [] S
  | a :: l, ρ, S, k => (a ρ S).bind fun x S1 => gArgs l ρ S1 fun xs S2 => k (x :: xs) S2
def gCallP (p : List D → Sto → Pr) (l : List GE) : GE := fun ρ S => gArgs l ρ S fun xs S2 => (p xs S2).res

section
variable {g : G} {N : List Str} {sc : Scope} {L : Nat} {a b c : Expr} {ma mb mc : GE} {pos : Pos}
theorem re_var {i : Nat} {x : Str} (hN : N[i]? = some x) (hv : Vis sc x) (hd : (x == ("__debug__" : Str)) = false := by decide) (hcd : (x == ("__classdict__" : Str)) = false := by decide) : Real g N sc L (.Name x pos) (gVar i) := by
  intro Wx X C
  refine (pe_var (i := i) (by rw [C.N]; exact hN) (by rw [C.sc]; exact hv) hd hcd).weak ?_
  rintro σ H Q ⟨ρ, S, μ, he, hw, h⟩
  unfold gVar at h
  split at h
  · rename_i d hd
    obtain ⟨v, e, r⟩ := he.get hd
    exact ⟨v, e, h v H μ (.refl _ _) hw r⟩
  · exact h.elim
theorem real_const {v : V} {d : D} (h : ∀ X : Cx, PE X a (tC v)) (hr : ∀ H μ, Rep g H μ d v) : Real g N sc L a (gC d) := by
  intro Wx X C
  refine (h X).weak ?_
  rintro σ H Q ⟨ρ, S, μ, he, hw, h⟩
  exact h v H μ (.refl _ _) hw (hr H μ)
theorem re_int {i : Int} {j} : Real g N sc L (.Constant (.int i) j pos) (gC (.int i)) := real_const (fun _ => pe_int) fun _ _ => by simp [Rep]
theorem re_bl {i : Bool} {j} : Real g N sc L (.Constant (.bool i) j pos) (gC (.bl i)) := real_const (fun _ => pe_bl) fun _ _ => by simp [Rep]
theorem re_non {j} : Real g N sc L (.Constant .none j pos) (gC .non) := real_const (fun _ => pe_non) fun _ _ => by simp [Rep]
theorem re_str {i : Str} {j} : Real g N sc L (.Constant (.str i) j pos) (gC (.str i)) := real_const (fun _ => pe_str) fun _ _ => by simp [Rep]
theorem real_two {e : Expr} {p : D → D → Sto → Pr} (h : ∀ Wx X, CtxOk g N sc L Wx X → ∀ ta tb, PE X a ta → PE X b tb → PE X e (tOp (rP2 g p) ta tb)) (ha : Real g N sc L a ma) (hb : Real g N sc L b mb) : Real g N sc L e (gBin p ma mb) := by
  intro Wx X C
  refine (h Wx X C _ _ (ha Wx X C) (hb Wx X C)).weak ?_
  rintro σ H Q ⟨ρ, S, μ, he, hw, h⟩
  unfold gBin at h
  refine ⟨ρ, S, μ, he, hw, h.bind fun x S1 vx H1 μ1 g1 w1 r1 h1 => ⟨ρ, S1, μ1, he.mono g1, w1, h1.bind fun y S2 vy H2 μ2 g2 w2 r2 h2 => ?_⟩⟩
  exact ⟨x, y, S2, μ2, w2, r1.mono g2, r2, h2.pr⟩
theorem re_op {op : Operator} {p : D → D → Sto → Pr} (ho : ∀ Wx X, CtxOk g N sc L Wx X → OpR X (binaryOp op) (rP2 g p)) (ha : Real g N sc L a ma) (hb : Real g N sc L b mb) : Real g N sc L (.BinOp a op b pos) (gBin p ma mb) :=
  real_two (fun Wx X C _ _ ha hb => pe_op (ho Wx X C) ha hb) ha hb
theorem re_cmp {op : CmpOp} {p : D → D → Sto → Pr} (ho : ∀ Wx X, CtxOk g N sc L Wx X → OpR X (compareOp op) (rP2 g p)) (ha : Real g N sc L a ma) (hb : Real g N sc L b mb) (hm : behindInMarks op b = false) : Real g N sc L (.Compare a [op] [b] pos) (gBin p ma mb) :=
  real_two (fun Wx X C _ _ ha hb => pe_cmpR (ho Wx X C) ha hb hm) ha hb
theorem re_un {op : UnaryOp} {p : D → Sto → Pr} (ho : ∀ Wx X, CtxOk g N sc L Wx X → UnR X (unaryOp op) (rP1 g p)) (ha : Real g N sc L a ma) : Real g N sc L (.UnaryOp op a pos) (gUn p ma) := by
  intro Wx X C
  refine (pe_un (ho Wx X C) (ha Wx X C)).weak ?_
  rintro σ H Q ⟨ρ, S, μ, he, hw, h⟩
  unfold gUn at h
  exact ⟨ρ, S, μ, he, hw, h.bind fun x S1 vx H1 μ1 g1 w1 r1 h1 => ⟨x, S1, μ1, w1, r1, h1.pr⟩⟩
end
end Gp

set_option Elab.async false
set_option linter.all false
set_option maxRecDepth 100000
/-! Gp3: primitives: data, arithmetic, comparisons, items -/
namespace Gp
open PySem PySem.Spec L2
open PyProof.Rows hiding St

/-! ### results of primitives -/
section
variable {g : G} {μ : List Addr} {H : Hp} {S : Sto} {Q : VK}
theorem PostP.ls {l : List D} {vs : List V} (h : PostP g μ H (some (.ls l, S)) Q) (w : W g μ H S) (r : RepL g H μ l vs) : ∀ p, H p = none → Q (.ref p) (upd H p (.lst vs)) := fun p hp =>
  h _ _ μ (grow_fresh hp) (w.add hp) (by simp only [Rep]; exact ⟨p, vs, rfl, w.fresh hp, upd_same, r.mono (grow_fresh hp)⟩)
theorem PostP.tup {l : List D} {vs : List V} (h : PostP g μ H (some (.tup l, S)) Q) (w : W g μ H S) (r : RepL g H μ l vs) : ∀ p, H p = none → Q (.ref p) (upd H p (.tup vs)) := fun p hp =>
  h _ _ μ (grow_fresh hp) (w.add hp) (by simp only [Rep]; exact ⟨p, vs, rfl, w.fresh hp, upd_same, r.mono (grow_fresh hp)⟩)
theorem PostP.cell {l : List D} {vs : List V} (h : PostP g μ H (some (.ref S.length, S ++ [.lst l])) Q) (w : W g μ H S) (r : RepL g H μ l vs) : ∀ p, H p = none → Q (.ref p) (upd H p (.lst vs)) := fun p hp => by
  refine h _ _ (μ ++ [p]) (grow_alloc hp) (w.alloc hp ⟨vs, upd_same, r.mono (grow_alloc hp)⟩) ?_
  simp only [Rep]
  exact ⟨p, rfl, by rw [← w.len, List.getElem?_append_right (Nat.le_refl _)]; simp⟩
/-- a new list: m tells that it will change -/
def mkL (m : Bool) (l : List D) (S : Sto) : Pr := if m = true then some (.ref S.length, S ++ [.lst l]) else some (.ls l, S)
theorem PostP.mk {m : Bool} {l : List D} {vs : List V} (h : PostP g μ H (mkL m l S) Q) (w : W g μ H S) (r : RepL g H μ l vs) : ∀ p, H p = none → Q (.ref p) (upd H p (.lst vs)) := by
  cases m with
  | true => exact PostP.cell h w r
  | false => exact PostP.ls h w r

/-! ### lists, tuples by their items -/
def asL (d : D) (S : Sto) : Option (List D) := match d with
  | .ls l => some l
  | .ref n => match S[n]? with
    | some (.lst l) => some l
    | _ => none
  | _ => none
def asT (d : D) : Option (List D) := match d with
  | .tup l => some l
  | .kt l => some l
  | _ => none
theorem asL_rep {d : D} {v : V} {l : List D} (w : W g μ H S) (r : Rep g H μ d v) (e : asL d S = some l) : ∃ p vs, v = .ref p ∧ H p = some (.lst vs) ∧ RepL g H μ l vs := by
  unfold asL at e
  split at e
  · cases e
    simp only [Rep] at r
    obtain ⟨p, vs, e, _, h, q⟩ := r
    exact ⟨p, vs, e, h, q⟩
  · rename_i n
    split at e
    · rename_i l' hs
      cases e
      obtain ⟨a, e, _, _, vs, h, q⟩ := w.ref r hs
      exact ⟨a, vs, e, h, q⟩
    · cases e
  · cases e
theorem asT_rep {d : D} {v : V} {l : List D} (r : Rep g H μ d v) (e : asT d = some l) : ∃ p vs, v = .ref p ∧ SqT g.K H p vs ∧ RepL g H μ l vs := by
  unfold asT at e
  split at e
  · cases e
    simp only [Rep] at r
    obtain ⟨p, vs, e, _, h, q⟩ := r
    exact ⟨p, vs, e, .of h, q⟩
  · cases e
    simp only [Rep] at r
    obtain ⟨p, vs, e, h, q⟩ := r
    exact ⟨p, vs, e, h.sq, q⟩
  · cases e

/-! ### data -/
def omap {α β : Type} (f : α → Option β) : List α → Option (List β)
  | [] => some []
  | x :: l => match f x, omap f l with
    | some y, some r => some (y :: r)
    | _, _ => none
theorem omap_cons {α β : Type} {f : α → Option β} {x : α} {l : List α} {r : List β} (h : omap f (x :: l) = some r) : ∃ y t, f x = some y ∧ omap f l = some t ∧ r = y :: t := by
  unfold omap at h
  split at h
  · rename_i y t h1 h2
    cases h
    exact ⟨y, t, h1, h2, rfl⟩
  · cases h
/-- the datum that a value is, at most so deep -/
def pd (S : Sto) : Nat → D → Option PyData
  | _, .non => some .none
  | _, .bl b => some (.bool b)
  | _, .int i => some (.int i)
  | _, .str s => some (.str s)
  | k + 1, .tup l => (omap (pd S k) l).map .tuple
  | k + 1, .kt l => (omap (pd S k) l).map .tuple
  | k + 1, .ls l => (omap (pd S k) l).map .list
  | k + 1, .ref n => match S[n]? with
    | some (.lst l) => (omap (pd S k) l).map .list
    | _ => none
  | _, _ => none
theorem pd_rep (w : W g μ H S) : ∀ (k : Nat) (d : D) (v : V) (p : PyData), Rep g H μ d v → pd S k d = some p → Dp g.K H v p ∧ p.depth ≤ k ∧ p.plain = true := by
  intro k
  induction k with
  | zero =>
    intro d v p r e
    cases d <;> simp [pd] at e <;> subst e <;> simp only [Rep] at r <;> subst r
    · exact ⟨.non, by simp [PyData.depth], rfl⟩
    · exact ⟨.bl _, by simp [PyData.depth], rfl⟩
    · exact ⟨.int _, by simp [PyData.depth], rfl⟩
    · exact ⟨.str _, by simp [PyData.depth], rfl⟩
  | succ k ih =>
    have all : ∀ (l : List D) (vs : List V) (ps : List PyData), RepL g H μ l vs → omap (pd S k) l = some ps → DpAll g.K H vs ps ∧ PyData.depthAll ps ≤ k ∧ PyData.plainAll ps = true := by
      intro l
      induction l with
      | nil =>
        intro vs ps r e
        simp only [RepL] at r
        simp [omap] at e
        subst e r
        exact ⟨.nil, by simp [PyData.depthAll], rfl⟩
      | cons x l ihl =>
        intro vs ps r e
        simp only [RepL] at r
        obtain ⟨v, y, rfl, h1, h2⟩ := r
        obtain ⟨p1, p2, e1, e2, rfl⟩ := omap_cons e
        obtain ⟨a1, a2, a3⟩ := ih x v p1 h1 e1
        obtain ⟨b1, b2, b3⟩ := ihl y p2 h2 e2
        exact ⟨.cons a1 b1, by simp only [PyData.depthAll]; omega, by simp [PyData.plainAll, a3, b3]⟩
    intro d v p r e
    cases d with
    | non => simp [pd] at e; subst e; simp only [Rep] at r; subst r; exact ⟨.non, by simp [PyData.depth], rfl⟩
    | bl b => simp [pd] at e; subst e; simp only [Rep] at r; subst r; exact ⟨.bl _, by simp [PyData.depth], rfl⟩
    | int b => simp [pd] at e; subst e; simp only [Rep] at r; subst r; exact ⟨.int _, by simp [PyData.depth], rfl⟩
    | str b => simp [pd] at e; subst e; simp only [Rep] at r; subst r; exact ⟨.str _, by simp [PyData.depth], rfl⟩
    | tup l =>
      simp only [pd, Option.map_eq_some_iff] at e
      obtain ⟨ps, e, rfl⟩ := e
      simp only [Rep] at r
      obtain ⟨a, vs, rfl, _, h, q⟩ := r
      obtain ⟨b1, b2, b3⟩ := all l vs ps q e
      exact ⟨.tup (.of h) b1, by simp only [PyData.depth]; omega, by simp [PyData.plain, b3]⟩
    | kt l =>
      simp only [pd, Option.map_eq_some_iff] at e
      obtain ⟨ps, e, rfl⟩ := e
      simp only [Rep] at r
      obtain ⟨a, vs, rfl, h, q⟩ := r
      obtain ⟨b1, b2, b3⟩ := all l vs ps q e
      exact ⟨.tup h.sq b1, by simp only [PyData.depth]; omega, by simp [PyData.plain, b3]⟩
    | ls l =>
      simp only [pd, Option.map_eq_some_iff] at e
      obtain ⟨ps, e, rfl⟩ := e
      simp only [Rep] at r
      obtain ⟨a, vs, rfl, _, h, q⟩ := r
      obtain ⟨b1, b2, b3⟩ := all l vs ps q e
      exact ⟨.lst (.of h) b1, by simp only [PyData.depth]; omega, by simp [PyData.plain, b3]⟩
    | ref n =>
      simp only [pd] at e
      split at e
      · rename_i l hs
        simp only [Option.map_eq_some_iff] at e
        obtain ⟨ps, e, rfl⟩ := e
        obtain ⟨a, rfl, _, _, vs, h, q⟩ := w.ref r hs
        obtain ⟨b1, b2, b3⟩ := all l vs ps q e
        exact ⟨.lst (.of h) b1, by simp only [PyData.depth]; omega, by simp [PyData.plain, b3]⟩
      · cases e
    | sq l => simp [pd] at e
    | dc k l => simp [pd] at e
    | ob c fs => simp [pd] at e
    | fn x => simp [pd] at e
end
section
variable {g : G} {N : List Str} {sc : Scope} {L : Nat} {Wx : WX} {X : Cx}
theorem CtxOk.units (C : CtxOk g N sc L Wx X) : X.A.units + 200 < cLine := by have := C.room.un; omega
theorem CtxOk.hu (C : CtxOk g N sc L Wx X) : X.A.units + 1 < cLine := by have := C.room.un; omega
theorem CtxOk.hd (C : CtxOk g N sc L Wx X) : X.A.handled = none := C.room.hd
def gCmp (f : PyData → PyData → Option Bool) : D → D → Sto → Pr := fun a b S => match pd S 60 a, pd S 60 b with
  | some p, some q => match f p q with
    | some k => some (.bl k, S)
    | none => none
  | _, _ => none
/-- a comparison of data -/
theorem cmp_data {op : CmpOp} {f : PyData → PyData → Option Bool} (C : CtxOk g N sc L Wx X)
    (rule : ∀ {s : Shared} {a b : Value} {p q : PyData} {as bs : List Addr} {k : Bool} {Q : Value → Shared → Prop} {E : Value → Shared → Prop}, Reads s.heap a p as → Reads s.heap b q bs → p.plain = true → q.plain = true → X.A.units + p.depth + q.depth < cLine → f p q = some k → Q (.bool k) s → wpAny (model X.prog X.w) X.A (compareOp op a b) Q E s) :
    OpR X (compareOp op) (rP2 g (gCmp f)) := by
  intro pins s σ H x y v u Q I rx ry h
  obtain ⟨a, b, S, μ, w, r1, r2, h⟩ := h
  unfold gCmp at h
  split at h
  · rename_i p q e1 e2
    split at h
    · rename_i k e3
      obtain ⟨d1, n1, z1⟩ := pd_rep w 60 a x p r1 e1
      obtain ⟨d2, n2, z2⟩ := pd_rep w 60 b y q r2 e2
      rw [← C.K] at d1 d2
      obtain ⟨as, ra⟩ := Dp.reads I p x v d1 rx
      obtain ⟨bs, rb⟩ := Dp.reads I q y u d2 ry
      have hu := C.units
      exact rule ra rb z1 z2 (by omega) e3 ⟨.bl k, H, I, rfl, PostP.here h w (by simp [Rep])⟩
    · exact h.elim
  · exact h.elim
def isNone : PyData → Bool
  | .none => true
  | _ => false
theorem isNone_ne {p : PyData} (h : isNone p = false) : p ≠ .none := by rintro rfl; cases h
def fEq (p q : PyData) : Option Bool := some (PyData.eqv p q)
def fNe (p q : PyData) : Option Bool := some (!PyData.eqv p q)
def fLt (p q : PyData) : Option Bool := if PySem.W.alike p q = true ∧ isNone p = false then some (PySem.W.dataLt p q) else none
def fGt (p q : PyData) : Option Bool := if PySem.W.alike p q = true ∧ isNone p = false then some (PySem.W.dataLt q p) else none
def fLe (p q : PyData) : Option Bool := if PySem.W.alike p q = true ∧ isNone p = false then some (!PySem.W.dataLt q p) else none
def fGe (p q : PyData) : Option Bool := if PySem.W.alike p q = true ∧ isNone p = false then some (!PySem.W.dataLt p q) else none
abbrev gEq := gCmp fEq
abbrev gNe := gCmp fNe
abbrev gLt := gCmp fLt
abbrev gGt := gCmp fGt
abbrev gLe := gCmp fLe
abbrev gGe := gCmp fGe
theorem o_eq (C : CtxOk g N sc L Wx X) : OpR X (compareOp .Eq) (rP2 g gEq) := cmp_data C fun {s a b p q as bs k Q E} ra rb z1 z2 hu e h => by
  cases e
  exact PySem.SeqAt.eq_plain ra rb z1 z2 (by omega) h
theorem o_ne (C : CtxOk g N sc L Wx X) : OpR X (compareOp .NotEq) (rP2 g gNe) := cmp_data C fun {s a b p q as bs k Q E} ra rb z1 z2 hu e h => by
  cases e
  exact PySem.SeqAt.ne_plain ra rb z1 z2 (by omega) h
theorem o_lt (C : CtxOk g N sc L Wx X) : OpR X (compareOp .Lt) (rP2 g gLt) := cmp_data C fun {s a b p q as bs k Q E} ra rb z1 z2 hu e h => by
  unfold fLt at e
  split at e
  · rename_i hc; cases e; exact PySem.W.lt_data ra rb hc.1 (isNone_ne hc.2) (by omega) h
  · cases e
theorem o_gt (C : CtxOk g N sc L Wx X) : OpR X (compareOp .Gt) (rP2 g gGt) := cmp_data C fun {s a b p q as bs k Q E} ra rb z1 z2 hu e h => by
  unfold fGt at e
  split at e
  · rename_i hc; cases e; exact PySem.W.gt_data ra rb hc.1 (isNone_ne hc.2) (by omega) h
  · cases e
theorem o_le (C : CtxOk g N sc L Wx X) : OpR X (compareOp .LtE) (rP2 g gLe) := cmp_data C fun {s a b p q as bs k Q E} ra rb z1 z2 hu e h => by
  unfold fLe at e
  split at e
  · rename_i hc; cases e; exact PySem.W.le_data ra rb hc.1 (isNone_ne hc.2) (by omega) h
  · cases e
theorem o_ge (C : CtxOk g N sc L Wx X) : OpR X (compareOp .GtE) (rP2 g gGe) := cmp_data C fun {s a b p q as bs k Q E} ra rb z1 z2 hu e h => by
  unfold fGe at e
  split at e
  · rename_i hc; cases e; exact PySem.W.ge_data ra rb hc.1 (isNone_ne hc.2) (by omega) h
  · cases e
end

/-! ### is None -/
def gIs (k : Bool) : D → D → Sto → Pr := fun a b S => match b with
  | .non => some (.bl (match a with | .non => k | _ => !k), S)
  | _ => none
theorem rep_non {g : G} {H : Hp} {μ : List Addr} {a : D} {x : V} (r : Rep g H μ a x) : decide (x = .non) = (match a with | .non => true | _ => false) := by
  cases a <;> simp only [Rep] at r
  case non => subst r; rfl
  case bl => subst r; rfl
  case int => subst r; rfl
  case str => subst r; rfl
  all_goals
    first
      | (obtain ⟨a, e, _⟩ := r; subst e; rfl)
      | (obtain ⟨a, b, e, _⟩ := r; subst e; rfl)
      | (obtain ⟨a, b, c, d, e, _⟩ := r; subst e; rfl)
section
variable {g : G} {N : List Str} {sc : Scope} {L : Nat} {Wx : WX} {X : Cx}
theorem o_is (C : CtxOk g N sc L Wx X) : OpR X (compareOp .Is) (rP2 g (gIs true)) := OpR.pick fun x y H Q h => by
  obtain ⟨a, b, S, μ, w, r1, r2, h⟩ := h
  refine ⟨_, op_isN, ?_⟩
  unfold gIs at h
  split at h
  · simp only [Rep] at r2
    refine ⟨r2, ?_⟩
    rw [rep_non r1]
    have := PostP.here (v := .bl _) h w (by simp only [Rep]; rfl)
    cases a <;> exact this
  · exact h.elim
theorem o_isnot (C : CtxOk g N sc L Wx X) : OpR X (compareOp .IsNot) (rP2 g (gIs false)) := OpR.pick fun x y H Q h => by
  obtain ⟨a, b, S, μ, w, r1, r2, h⟩ := h
  refine ⟨_, op_notN, ?_⟩
  unfold gIs at h
  split at h
  · simp only [Rep] at r2
    refine ⟨r2, ?_⟩
    rw [rep_non r1]
    have := PostP.here (v := .bl _) h w (by simp only [Rep]; rfl)
    cases a <;> exact this
  · exact h.elim

/-! ### arithmetic -/
def mulOk (i j : Int) : Bool := (decide (-(2 ^ 64) < i) && decide (i < 2 ^ 64)) || (decide (-(2 ^ 64) < j) && decide (j < 2 ^ 64)) || decide (i.natAbs.log2 + j.natAbs.log2 < 1000000)
def divOk (j : Int) : Bool := (decide (j ≠ 0) && decide (j.natAbs < 1073741824)) || (decide (0 < j) && decide (j.natAbs.log2 < 9000))
def powOk (i j : Int) : Bool := decide (0 ≤ j) && decide (j ≤ 1000000) && decide (i.natAbs < 2 ^ 64)
def gAdd : D → D → Sto → Pr := fun a b S => match a, b with
  | .int i, .int j => some (.int (i + j), S)
  | .str i, .str j => if i.length + j.length ≤ sizeLine then some (.str (i ++ j), S) else none
  | a, b => match asL a S, asL b S with
    | some x, some y => if x.length + y.length ≤ sizeLine then some (.ls (x ++ y), S) else none
    | _, _ => match asT a, asT b with
      | some x, some y => if x.length + y.length ≤ sizeLine ∧ x ≠ [] ∧ y ≠ [] then some (.tup (x ++ y), S) else if x = [] then some (b, S) else if y = [] then some (a, S) else none
      | _, _ => none
def gSub : D → D → Sto → Pr := fun a b S => match a, b with
  | .int i, .int j => some (.int (i - j), S)
  | _, _ => none
def gMul : D → D → Sto → Pr := fun a b S => match a, b with
  | .int i, .int j => if mulOk i j = true then some (.int (i * j), S) else none
  | a, .int k => match asL a S with
    | some x => if -(2 ^ 63) ≤ k ∧ k < 2 ^ 63 ∧ x.length * k.toNat ≤ sizeLine then some (.ls (List.replicate k.toNat x).flatten, S) else none
    | none => none
  | _, _ => none
def gDiv : D → D → Sto → Pr := fun a b S => match a, b with
  | .int i, .int j => if divOk j = true then some (.int (i.fdiv j), S) else none
  | _, _ => none
def gMod : D → D → Sto → Pr := fun a b S => match a, b with
  | .int i, .int j => if j ≠ 0 then some (.int (i.fmod j), S) else none
  | _, _ => none
def gPow : D → D → Sto → Pr := fun a b S => match a, b with
  | .int i, .int j => if powOk i j = true then some (.int (i ^ j.toNat), S) else none
  | _, _ => none
def gNeg : D → Sto → Pr := fun a S => match a with
  | .int i => some (.int (-i), S)
  | _ => none
theorem RepL.nil_of {g : G} {H : Hp} {μ : List Addr} {l : List D} {vs : List V} (r : RepL g H μ l vs) : (l = [] ↔ vs = []) := by
  have e := r.length
  constructor
  · intro h; subst h; exact List.length_eq_zero_iff.mp e.symm
  · intro h; subst h; exact List.length_eq_zero_iff.mp e
theorem RepL.rep {g : G} {H : Hp} {μ : List Addr} {l : List D} {vs : List V} (r : RepL g H μ l vs) : ∀ n, RepL g H μ (List.replicate n l).flatten (List.replicate n vs).flatten
  | 0 => by simp [RepL]
  | n + 1 => by rw [List.replicate_succ, List.replicate_succ, List.flatten_cons, List.flatten_cons]; exact r.append (RepL.rep r n)
theorem o_add (C : CtxOk g N sc L Wx X) : OpR X (binaryOp .Add) (rP2 g gAdd) := OpR.pick fun x y H Q h => by
  obtain ⟨a, b, S, μ, w, r1, r2, h⟩ := h
  unfold gAdd at h
  split at h
  · simp only [Rep] at r1 r2
    exact ⟨_, op_add, _, _, r1, r2, PostP.here h w (by simp [Rep])⟩
  · split at h
    · rename_i hl
      simp only [Rep] at r1 r2
      exact ⟨_, op_add_str, _, _, r1, r2, hl, PostP.here h w (by simp [Rep])⟩
    · exact h.elim
  · split at h
    · rename_i l1 l2 e1 e2
      split at h
      · rename_i hl
        obtain ⟨p, vs, rfl, h1, q1⟩ := asL_rep w r1 e1
        obtain ⟨p', vs', rfl, h2, q2⟩ := asL_rep w r2 e2
        exact ⟨_, op_cat, _, _, _, _, rfl, rfl, h1, h2, by rw [← q1.length, ← q2.length]; exact hl, PostP.ls h w (q1.append q2)⟩
      · exact h.elim
    · split at h
      · rename_i l1 l2 e1 e2
        obtain ⟨p, vs, rfl, h1, q1⟩ := asT_rep r1 e1
        obtain ⟨p', vs', rfl, h2, q2⟩ := asT_rep r2 e2
        rw [← C.K] at h1 h2
        have s1 : vs.length ≤ sizeLine ∨ True := .inr trivial
        split at h
        · rename_i hl
          refine ⟨_, op_catA, _, _, _, _, rfl, rfl, h1, h2, by rw [← q1.length, ← q2.length]; exact hl.1, fun z => absurd (q1.nil_of.mpr z) hl.2.1, fun _ z => absurd (q2.nil_of.mpr z) hl.2.2, fun _ _ => PostP.tup h w (q1.append q2)⟩
        · refine ⟨fun x y H Q => ∃ a b xs ys, x = V.ref a ∧ y = V.ref b ∧ SqT X.K H a xs ∧ SqT X.K H b ys ∧ ((xs = [] ∧ Q (.ref b) H) ∨ (xs ≠ [] ∧ ys = [] ∧ Q (.ref a) H)), ?_, ?_⟩
          · intro pins s σ H x y v u Q I rx ry h
            obtain ⟨a, b, xs, ys, rfl, rfl, ha, hb, h⟩ := h
            obtain ⟨_, _, _, n1⟩ := I.tuple ha
            obtain ⟨_, _, _, n2⟩ := I.tuple hb
            refine op_catA pins s σ H _ _ v u Q I rx ry ⟨a, b, xs, ys, rfl, rfl, ha, hb, ?_, ?_, ?_, ?_⟩
            · rcases h with ⟨z, _⟩ | ⟨_, z, _⟩
              · subst z; simpa using n2
              · subst z; simpa using n1
            · intro z
              rcases h with ⟨_, q⟩ | ⟨n, _, q⟩
              · exact q
              · exact absurd z n
            · intro n z
              rcases h with ⟨z', q⟩ | ⟨_, _, q⟩
              · exact absurd z' n
              · exact q
            · intro n n'
              rcases h with ⟨z', q⟩ | ⟨_, z', q⟩
              · exact absurd z' n
              · exact absurd z' n'
          · split at h
            · rename_i e
              exact ⟨_, _, _, _, rfl, rfl, h1, h2, .inl ⟨q1.nil_of.mp e, PostP.here h w r2⟩⟩
            · rename_i e
              split at h
              · rename_i e'
                exact ⟨_, _, _, _, rfl, rfl, h1, h2, .inr ⟨fun z => e (q1.nil_of.mpr z), q2.nil_of.mp e', PostP.here h w r1⟩⟩
              · exact h.elim
      · exact h.elim
theorem o_sub (C : CtxOk g N sc L Wx X) : OpR X (binaryOp .Sub) (rP2 g gSub) := OpR.pick fun x y H Q h => by
  obtain ⟨a, b, S, μ, w, r1, r2, h⟩ := h
  unfold gSub at h
  split at h
  · simp only [Rep] at r1 r2
    exact ⟨_, op_sub, _, _, r1, r2, PostP.here h w (by simp [Rep])⟩
  · exact h.elim
theorem o_mul (C : CtxOk g N sc L Wx X) : OpR X (binaryOp .Mult) (rP2 g gMul) := OpR.pick fun x y H Q h => by
  obtain ⟨a, b, S, μ, w, r1, r2, h⟩ := h
  unfold gMul at h
  split at h
  · split at h
    · rename_i i j hm
      simp only [Rep] at r1 r2
      simp only [mulOk, Bool.or_eq_true, Bool.and_eq_true, decide_eq_true_eq] at hm
      rcases hm with (hm | hm) | hm
      · exact ⟨_, op_mul, _, _, r1, r2, .inl hm, PostP.here h w (by simp [Rep])⟩
      · exact ⟨_, op_mul, _, _, r1, r2, .inr hm, PostP.here h w (by simp [Rep])⟩
      · exact ⟨_, op_mulW, _, _, r1, r2, hm, PostP.here h w (by simp [Rep])⟩
    · exact h.elim
  · split at h
    · rename_i l e
      split at h
      · rename_i hl
        simp only [Rep] at r2
        obtain ⟨p, vs, rfl, h1, q1⟩ := asL_rep w r1 e
        exact ⟨_, op_rep, _, _, _, rfl, r2, h1, hl.1, hl.2.1, by rw [← q1.length]; exact hl.2.2, PostP.ls h w (q1.rep _)⟩
      · exact h.elim
    · exact h.elim
  · exact h.elim
theorem o_div (C : CtxOk g N sc L Wx X) : OpR X (binaryOp .FloorDiv) (rP2 g gDiv) := OpR.pick fun x y H Q h => by
  obtain ⟨a, b, S, μ, w, r1, r2, h⟩ := h
  unfold gDiv at h
  split at h
  · split at h
    · rename_i i j hm
      simp only [Rep] at r1 r2
      simp only [divOk, Bool.or_eq_true, Bool.and_eq_true, decide_eq_true_eq] at hm
      rcases hm with hm | hm
      · exact ⟨_, op_fdivN, _, _, r1, r2, hm, PostP.here h w (by simp [Rep])⟩
      · refine ⟨_, op_fdivW, _, _, r1, r2, hm, PostP.here h w ?_⟩
        simp only [Rep, V.int.injEq]
        exact (Int.fdiv_eq_ediv_of_nonneg i (by omega)).symm
    · exact h.elim
  · exact h.elim
theorem o_mod (C : CtxOk g N sc L Wx X) : OpR X (binaryOp .Mod) (rP2 g gMod) := OpR.pick fun x y H Q h => by
  obtain ⟨a, b, S, μ, w, r1, r2, h⟩ := h
  unfold gMod at h
  split at h
  · split at h
    · rename_i i j hm
      simp only [Rep] at r1 r2
      exact ⟨_, op_modN, _, _, r1, r2, hm, PostP.here h w (by simp [Rep])⟩
    · exact h.elim
  · exact h.elim
theorem o_pow (C : CtxOk g N sc L Wx X) : OpR X (binaryOp .Pow) (rP2 g gPow) := OpR.pick fun x y H Q h => by
  obtain ⟨a, b, S, μ, w, r1, r2, h⟩ := h
  unfold gPow at h
  split at h
  · split at h
    · rename_i i j hm
      simp only [Rep] at r1 r2
      simp only [powOk, Bool.and_eq_true, decide_eq_true_eq] at hm
      exact ⟨_, op_pow, _, _, r1, r2, ⟨hm.1.1, hm.1.2, hm.2⟩, PostP.here h w (by simp [Rep])⟩
    · exact h.elim
  · exact h.elim
theorem o_neg (C : CtxOk g N sc L Wx X) : UnR X (unaryOp .USub) (rP1 g gNeg) := UnR.pick fun x H Q h => by
  obtain ⟨a, S, μ, w, r1, h⟩ := h
  unfold gNeg at h
  split at h
  · simp only [Rep] at r1
    exact ⟨_, un_neg, _, r1, PostP.here h w (by simp [Rep])⟩
  · exact h.elim
end
end Gp

set_option Elab.async false
set_option linter.all false
set_option maxRecDepth 100000
/-! Gp4: items, slices, dicts read, built-ins on values, displays, tests -/
namespace Gp
open PySem PySem.Spec L2
open PyProof.Rows hiding St

/-! ### dicts -/
def dget (l : List (D × D)) (k : D) : Option D := match l with
  | [] => none
  | p :: r => if p.1 = k then some p.2 else dget r k
def dput (l : List (D × D)) (k v : D) : List (D × D) :=
  if (l.any fun p => decide (p.1 = k)) = true then l.map (fun p => if p.1 = k then (p.1, v) else p) else l ++ [(k, v)]
def ddel (l : List (D × D)) (k : D) : List (D × D) := l.filter fun p => decide (p.1 ≠ k)
def flatKey : D → Bool
  | .int _ => true
  | .str _ => true
  | _ => false
/-- keys that a dict of the kind may have -/
def keyOk (k : Nat) (a : D) : Bool := match k, a with
  | 0, a => flatKey a
  | 1, .tup l => l.all flatKey
  | _, _ => false
def asD (d : D) (S : Sto) : Option (Nat × List (D × D)) := match d with
  | .dc k l => some (k, l)
  | .ref n => match S[n]? with
    | some (.dict k _ l) => some (k, l)
    | _ => none
  | _ => none
section
variable {g : G} {μ : List Addr} {H : Hp} {S : Sto} {Q : VK}
theorem flatKey_of {a : D} (h : flatKey a = true) : ∃ k : Key, a = kD k := by
  cases a <;> simp [flatKey] at h
  · exact ⟨.inl _, rfl⟩
  · exact ⟨.inr _, rfl⟩
theorem rep_kD {k : Key} {v : V} : Rep g H μ (kD k) v ↔ v = kV k := by cases k <;> simp [kD, kV, Rep]
theorem keyOk0 {a : D} {y : V} (h : keyOk 0 a = true) (r : Rep g H μ a y) : ∃ k : Key, a = kD k ∧ y = kV k := by
  obtain ⟨k, rfl⟩ := flatKey_of h
  exact ⟨k, rfl, rep_kD.mp r⟩
theorem keys_of : ∀ {l : List D}, l.all flatKey = true → ∃ ks : List Key, l = ks.map kD
  | [], _ => ⟨[], rfl⟩
  | a :: l, h => by
    simp only [List.all_cons, Bool.and_eq_true] at h
    obtain ⟨k, rfl⟩ := flatKey_of h.1
    obtain ⟨ks, rfl⟩ := keys_of h.2
    exact ⟨k :: ks, rfl⟩
theorem repL_kD : ∀ {ks : List Key} {vs : List V}, RepL g H μ (ks.map kD) vs → vs = ks.map kV
  | [], vs, r => by simpa [RepL] using r
  | k :: ks, vs, r => by
    simp only [List.map_cons, RepL] at r
    obtain ⟨v, y, rfl, h, t⟩ := r
    rw [rep_kD.mp h, repL_kD t, List.map_cons]
theorem keyOk1 {a : D} {y : V} (h : keyOk 1 a = true) (r : Rep g H μ a y) : ∃ (k : List Key) (b : Addr), a = tD k ∧ y = .ref b ∧ H b = some (.tup (k.map kV)) := by
  unfold keyOk at h
  split at h
  · rename_i e; exact absurd e (by decide)
  · obtain ⟨ks, rfl⟩ := keys_of h
    simp only [Rep] at r
    obtain ⟨p, vs, rfl, _, e, q⟩ := r
    rw [repL_kD q] at e
    exact ⟨ks, p, rfl, rfl, e⟩
  · cases h
theorem dgetK {k : Key} : ∀ {l : List (D × D)} {ks : List (Key × V)}, RepK g H μ l ks → (∀ d, dget l (kD k) = some d → ∃ v, valV ks k = some v ∧ Rep g H μ d v) ∧ (dget l (kD k) = none → valV ks k = none)
  | [], ks, r => by simp only [RepK] at r; subst r; simp [dget, valV]
  | p :: l, ks, r => by
    simp only [RepK] at r
    obtain ⟨j, v, t, rfl, e, h, q⟩ := r
    by_cases z : j = k
    · subst z
      simp only [dget, e, if_true]
      exact ⟨fun d hd => by cases hd; exact ⟨v, valV_pos rfl, h⟩, fun hd => by cases hd⟩
    · have n : ¬ p.1 = kD k := fun y => z (kD_inj (e.symm.trans y))
      simp only [dget, if_neg n]
      rw [valV_neg (p := (j, v)) z]
      exact dgetK q
theorem dgetT {k : List Key} : ∀ {l : List (D × D)} {ks : List (List Key × V)}, RepT g H μ l ks → (∀ d, dget l (tD k) = some d → ∃ v, valV ks k = some v ∧ Rep g H μ d v) ∧ (dget l (tD k) = none → valV ks k = none)
  | [], ks, r => by simp only [RepT] at r; subst r; simp [dget, valV]
  | p :: l, ks, r => by
    simp only [RepT] at r
    obtain ⟨j, v, t, rfl, e, h, q⟩ := r
    by_cases z : j = k
    · subst z
      simp only [dget, e, if_true]
      exact ⟨fun d hd => by cases hd; exact ⟨v, valV_pos rfl, h⟩, fun hd => by cases hd⟩
    · have n : ¬ p.1 = tD k := fun y => z (tD_inj (e.symm.trans y))
      simp only [dget, if_neg n]
      rw [valV_neg (p := (j, v)) z]
      exact dgetT q
theorem asD_rep {d : D} {v : V} {k : Nat} {l : List (D × D)} (w : W g μ H S) (r : Rep g H μ d v) (e : asD d S = some (k, l)) :
    ∃ a, v = .ref a ∧ ((k = 0 ∧ ∃ ks, Rd H a (.dK ks) ∧ RepK g H μ l ks) ∨ (k = 1 ∧ ∃ ks, Rd H a (.dT ks) ∧ RepT g H μ l ks)) := by
  unfold asD at e
  split at e
  · cases e
    simp only [Rep] at r
    obtain ⟨a, e, _, h⟩ := r
    exact ⟨a, e, h⟩
  · rename_i n
    split at e
    · rename_i lk l' hs
      cases e
      obtain ⟨a, e, _, _, u, h, q⟩ := w.ref r hs
      refine ⟨a, e, ?_⟩
      have rd : Rd H a u := by
        cases lk with
        | true => rw [if_pos rfl] at q; exact .inr q
        | false => rw [if_neg (by simp)] at q; exact .inl q
      rcases h with ⟨hk, ks, e1, z⟩ | ⟨hk, ks, e1, z⟩
      · subst e1; exact .inl ⟨hk, ks, rd, z⟩
      · subst e1; exact .inr ⟨hk, ks, rd, z⟩
    · cases e
  · cases e
/-- a look into a dict -/
theorem dget_rep {d a : D} {x y : V} {k : Nat} {l : List (D × D)} (w : W g μ H S) (rd : Rep g H μ d x) (ra : Rep g H μ a y) (e : asD d S = some (k, l)) (hk : keyOk k a = true) :
    ∃ p o, x = .ref p ∧ DGet H p y o ∧ (∀ z, dget l a = some z → ∃ v, o = some v ∧ Rep g H μ z v) ∧ (dget l a = none → o = none) := by
  obtain ⟨p, rfl, ⟨rfl, ks, h1, h2⟩ | ⟨rfl, ks, h1, h2⟩⟩ := asD_rep w rd e
  · obtain ⟨j, rfl, rfl⟩ := keyOk0 hk ra
    exact ⟨p, valV ks j, rfl, .inl ⟨ks, j, h1, rfl, rfl⟩, (dgetK h2).1, (dgetK h2).2⟩
  · obtain ⟨j, b, rfl, rfl, hb⟩ := keyOk1 hk ra
    exact ⟨p, valV ks j, rfl, .inr ⟨ks, j, b, h1, rfl, hb, rfl⟩, (dgetT h2).1, (dgetT h2).2⟩
end

/-! ### a[b] -/
def gIx : D → D → Sto → Pr := fun a b S => match asD a S with
  | some (k, l) => if keyOk k b = true then (dget l b).map fun d => (d, S) else none
  | none => match a, b with
    | .str z, .int i => if z.length ≤ sizeLine then (atI z.cps.toList i).map fun c => (.str ⟨#[c]⟩, S) else none
    | a, .int i => match asL a S with
      | some l => (atI l i).map fun d => (d, S)
      | none => match asT a with
        | some l => (atI l i).map fun d => (d, S)
        | none => none
    | _, _ => none
theorem IxR.pick {X : Cx} {r' : R2} (h : ∀ x y H Q, r' x y H Q → ∃ r, IxR X r ∧ r x y H Q) : IxR X r' := fun value slice pins s σ H x y v u Q I rx ry q hs => by
  obtain ⟨r, o, z⟩ := h x y H Q q
  exact o value slice pins s σ H x y v u Q I rx ry z hs
theorem ix_dict {X : Cx} (hu : X.A.units + 1 < cLine) : IxR X (fun x y H Q => ∃ a v, x = .ref a ∧ DGet H a y (some v) ∧ Q v H) := by
  intro value slice pins s σ H x y v u Q I rx ry h hs
  obtain ⟨a, z, rfl, gg, q⟩ := h
  cases rx
  exact tail_any (dict_typeIs I gg) PySem.F.slot_dict_getitem.lookup (d_getItem hu I gg ry fun w' s3 I3 rw' => ⟨z, H, I3, rw', q⟩) hs
section
variable {g : G} {N : List Str} {sc : Scope} {L : Nat} {Wx : WX} {X : Cx} {μ : List Addr} {H : Hp}
theorem atI_rep {l : List D} {vs : List V} {i : Int} {d : D} (r : RepL g H μ l vs) (e : atI l i = some d) : ∃ v, atI vs i = some v ∧ Rep g H μ d v := by
  unfold atI at e ⊢
  rw [← r.length]
  cases z : ixN l.length i with
  | none => rw [z] at e; cases e
  | some j =>
    rw [z] at e
    exact r.get e
theorem i_ix (C : CtxOk g N sc L Wx X) : IxR X (rP2 g gIx) := IxR.pick fun x y H Q h => by
  obtain ⟨a, b, S, μ, w, r1, r2, h⟩ := h
  unfold gIx at h
  split at h
  · rename_i k l e
    split at h
    · rename_i hk
      obtain ⟨p, o, rfl, gg, q1, q2⟩ := dget_rep w r1 r2 e hk
      cases z : dget l b with
      | none => rw [z] at h; exact h.elim
      | some d =>
        rw [z] at h
        obtain ⟨v, rfl, rv⟩ := q1 d z
        exact ⟨_, ix_dict C.hu, p, v, rfl, gg, PostP.here h w rv⟩
    · exact h.elim
  · split at h
    · split at h
      · rename_i z i _ hz
        simp only [Rep] at r1 r2
        cases e : atI z.cps.toList i with
        | none => rw [e] at h; exact h.elim
        | some c => rw [e] at h; exact ⟨_, ix_str, z, i, c, r1, r2, hz, e, PostP.here h w (by simp [Rep])⟩
      · exact h.elim
    · split at h
      · rename_i i _ _ l e
        simp only [Rep] at r2
        obtain ⟨p, vs, rfl, h1, q1⟩ := asL_rep w r1 e
        cases z : atI l i with
        | none => rw [z] at h; exact h.elim
        | some d =>
          rw [z] at h
          obtain ⟨v, e2, rv⟩ := atI_rep q1 z
          exact ⟨_, ix_list, p, vs, i, v, rfl, r2, .of h1, e2, PostP.here h w rv⟩
      · split at h
        · rename_i i _ _ _ _ l e
          simp only [Rep] at r2
          obtain ⟨p, vs, rfl, h1, q1⟩ := asT_rep r1 e
          cases z : atI l i with
          | none => rw [z] at h; exact h.elim
          | some d =>
            rw [z] at h
            obtain ⟨v, e2, rv⟩ := atI_rep q1 z
            exact ⟨_, ix_tup, p, vs, i, v, rfl, r2, by rw [C.K]; exact h1, e2, PostP.here h w rv⟩
        · exact h.elim
    · exact h.elim
theorem re_ix {a b : Expr} {ma mb : GE} {pos : Pos} (ha : Real g N sc L a ma) (hb : Real g N sc L b mb) (hs : PlainIx b) : Real g N sc L (.Subscript a b pos) (gBin gIx ma mb) :=
  real_two (fun Wx X C _ _ ha hb => pe_ix (i_ix C) ha hb hs) ha hb

/-! ### in -/
def gIn (k : Bool) : D → D → Sto → Pr := fun a b S => match asD b S with
  | some (j, l) => if keyOk j a = true then some (.bl ((dget l a).isSome == k), S) else none
  | none => match a, b with
    | .str x, .str z => match x.cps.toList with
      | [c] => some (.bl (decide (c ∈ z.cps.toList) == k), S)
      | _ => none
    | a, b => match pd S 60 a, pd S 60 b with
      | some p, some (.list l) => some (.bl ((l.any fun y => PyData.eqv y p) == k), S)
      | some p, some (.tuple l) => some (.bl ((l.any fun y => PyData.eqv y p) == k), S)
      | _, _ => none
theorem one_cps {x : Str} {c : Nat} (h : x.cps.toList = [c]) : x = ⟨#[c]⟩ := by
  cases x with
  | mk cps => cases cps with | mk l => simp at h; subst h; rfl
theorem o_in (C : CtxOk g N sc L Wx X) : OpR X (compareOp .In) (rP2 g (gIn true)) := by
  intro pins s σ H x y v u Q I rx ry h
  obtain ⟨a, b, S, μ, w, r1, r2, h⟩ := h
  unfold gIn at h
  split at h
  · rename_i k l e
    split at h
    · rename_i hk
      obtain ⟨p, o, rfl, gg, q1, q2⟩ := dget_rep w r2 r1 e hk
      cases ry
      refine d_in C.hu I gg rx fun s3 I3 => ⟨.bl o.isSome, H, I3, rfl, ?_⟩
      have e2 : o.isSome = (dget l a).isSome := by
        cases z : dget l a with
        | none => rw [q2 z]; rfl
        | some d => obtain ⟨v, e, _⟩ := q1 d z; rw [e]; rfl
      have := PostP.here (v := .bl _) h w (by simp only [Rep]; rfl)
      rw [e2]; simpa using this
    · exact h.elim
  · split at h
    · split at h
      · rename_i x' z _ _ c e
        simp only [Rep] at r1 r2
        have := PostP.here (v := .bl _) h w (by simp only [Rep]; rfl)
        refine op_in_sign pins s σ H x y v u Q I rx ry ⟨c, z, by rw [r1, one_cps e], r2, by simpa using this⟩
      · exact h.elim
    · have hu := C.units
      split at h
      · rename_i p l e1 e2
        obtain ⟨d1, n1, z1⟩ := pd_rep w 60 a x p r1 e1
        obtain ⟨d2, n2, z2⟩ := pd_rep w 60 b y _ r2 e2
        rw [← C.K] at d1 d2
        obtain ⟨as, ra⟩ := Dp.reads I _ x v d1 rx
        obtain ⟨bs, rb⟩ := Dp.reads I _ y u d2 ry
        have := PostP.here (v := .bl _) h w (by simp only [Rep]; rfl)
        simp only [PyData.depth] at n2
        refine PySem.SeqAt.in_list_data rb ra (by simpa [PyData.plain] using z2) z1 (by omega) ⟨.bl _, H, I, rfl, by simpa using this⟩
      · rename_i p l e1 e2
        obtain ⟨d1, n1, z1⟩ := pd_rep w 60 a x p r1 e1
        obtain ⟨d2, n2, z2⟩ := pd_rep w 60 b y _ r2 e2
        rw [← C.K] at d1 d2
        obtain ⟨as, ra⟩ := Dp.reads I _ x v d1 rx
        obtain ⟨bs, rb⟩ := Dp.reads I _ y u d2 ry
        have := PostP.here (v := .bl _) h w (by simp only [Rep]; rfl)
        simp only [PyData.depth] at n2
        refine PySem.SeqAt.in_tuple_data rb ra (by simpa [PyData.plain] using z2) z1 (by omega) ⟨.bl _, H, I, rfl, by simpa using this⟩
      · exact h.elim
theorem o_notin (C : CtxOk g N sc L Wx X) : OpR X (compareOp .NotIn) (rP2 g (gIn false)) := by
  intro pins s σ H x y v u Q I rx ry h
  obtain ⟨a, b, S, μ, w, r1, r2, h⟩ := h
  have nb : ∀ b : Bool, (b == false) = !b := by decide
  unfold gIn at h
  split at h
  · rename_i k l e
    split at h
    · rename_i hk
      obtain ⟨p, o, rfl, gg, q1, q2⟩ := dget_rep w r2 r1 e hk
      cases ry
      refine d_notIn C.hu I gg rx fun s3 I3 => ⟨.bl (!o.isSome), H, I3, rfl, ?_⟩
      have e2 : o.isSome = (dget l a).isSome := by
        cases z : dget l a with
        | none => rw [q2 z]; rfl
        | some d => obtain ⟨v, e, _⟩ := q1 d z; rw [e]; rfl
      have := PostP.here (v := .bl _) h w (by simp only [Rep]; rfl)
      rw [e2, ← nb]; exact this
    · exact h.elim
  · split at h
    · split at h
      · rename_i x' z _ _ c e
        simp only [Rep] at r1 r2
        have := PostP.here (v := .bl _) h w (by simp only [Rep]; rfl)
        refine op_notIn_sign pins s σ H x y v u Q I rx ry ⟨c, z, by rw [r1, one_cps e], r2, by rw [← nb]; exact this⟩
      · exact h.elim
    · have hu := C.units
      split at h
      · rename_i p l e1 e2
        obtain ⟨d1, n1, z1⟩ := pd_rep w 60 a x p r1 e1
        obtain ⟨d2, n2, z2⟩ := pd_rep w 60 b y _ r2 e2
        rw [← C.K] at d1 d2
        obtain ⟨as, ra⟩ := Dp.reads I _ x v d1 rx
        obtain ⟨bs, rb⟩ := Dp.reads I _ y u d2 ry
        have := PostP.here (v := .bl _) h w (by simp only [Rep]; rfl)
        simp only [PyData.depth] at n2
        refine PySem.SeqAt.notIn_list_data rb ra (by simpa [PyData.plain] using z2) z1 (by omega) ⟨.bl _, H, I, rfl, by rw [← nb]; exact this⟩
      · rename_i p l e1 e2
        obtain ⟨d1, n1, z1⟩ := pd_rep w 60 a x p r1 e1
        obtain ⟨d2, n2, z2⟩ := pd_rep w 60 b y _ r2 e2
        rw [← C.K] at d1 d2
        obtain ⟨as, ra⟩ := Dp.reads I _ x v d1 rx
        obtain ⟨bs, rb⟩ := Dp.reads I _ y u d2 ry
        have := PostP.here (v := .bl _) h w (by simp only [Rep]; rfl)
        simp only [PyData.depth] at n2
        refine PySem.SeqAt.notIn_tuple_data rb ra (by simpa [PyData.plain] using z2) z1 (by omega) ⟨.bl _, H, I, rfl, by rw [← nb]; exact this⟩
      · exact h.elim
end
end Gp

set_option Elab.async false
set_option linter.all false
set_option maxRecDepth 100000
/-! Gp5: tests, displays, attributes, arguments, slices -/
namespace Gp
open PySem PySem.Spec L2
open PyProof.Rows hiding St

/-! ### statements' ends -/
inductive RS where
  | nx (ρ : Ev) (S : Sto)
  | rt (d : D) (S : Sto)
  | bk (ρ : Ev) (S : Sto)
  | ct (ρ : Ev) (S : Sto)
  | exc (c : Str) (ρ : Ev) (S : Sto)
  | bad
abbrev GS := Ev → Sto → RS
/-- an expression's end, then a statement's -/
def Res.thn (r : Res) (ρ : Ev) (f : D → Sto → RS) : RS := match r with
  | .ok d S => f d S
  | .exc c S => .exc c ρ S
  | .bad => .bad
def RS.thn (r : RS) (f : Ev → Sto → RS) : RS := match r with
  | .nx ρ S => f ρ S
  | r => r
def PostS (g : G) (Wx : WX) (μ : List Addr) (H : Hp) (r : RS) (D : Ends) : Prop := match r with
  | .nx ρ S => ∀ σ' H' μ', Grow μ H μ' H' → W g μ' H' S → EnvOk g H' μ' ρ σ' → D.nx σ' H'
  | .rt d S => ∀ v H' μ', Grow μ H μ' H' → W g μ' H' S → Rep g H' μ' d v → D.rt v H'
  | .bk ρ S => ∀ σ' H' μ', Grow μ H μ' H' → W g μ' H' S → EnvOk g H' μ' ρ σ' → D.bk σ' H'
  | .ct ρ S => ∀ σ' H' μ', Grow μ H μ' H' → W g μ' H' S → EnvOk g H' μ' ρ σ' → D.ct σ' H'
  | .exc c ρ S => ∀ σ' H' μ', Grow μ H μ' H' → W g μ' H' S → EnvOk g H' μ' ρ σ' → wE g Wx σ' c H'
  | .bad => False
section
variable {g : G} {μ μ' : List Addr} {H H' : Hp} {S : Sto} {ρ : Ev} {σ : St} {Wx : WX} {Ed : Ends}
theorem PostS.later {r : RS} (h : PostS g Wx μ H r Ed) (gr : Grow μ H μ' H') : PostS g Wx μ' H' r Ed := by
  cases r with
  | nx ρ S => exact fun v H2 μ2 g2 w2 r2 => h v H2 μ2 (gr.trans g2) w2 r2
  | rt ρ S => exact fun v H2 μ2 g2 w2 r2 => h v H2 μ2 (gr.trans g2) w2 r2
  | bk ρ S => exact fun v H2 μ2 g2 w2 r2 => h v H2 μ2 (gr.trans g2) w2 r2
  | ct ρ S => exact fun v H2 μ2 g2 w2 r2 => h v H2 μ2 (gr.trans g2) w2 r2
  | exc c ρ S => exact fun v H2 μ2 g2 w2 r2 => h v H2 μ2 (gr.trans g2) w2 r2
  | bad => exact h
/-- an expression, then the rest of a statement -/
theorem PostS.ex {r : Res} {f : D → Sto → RS} {K : VK} (he : EnvOk g H μ ρ σ) (h : PostS g Wx μ H (r.thn ρ f) Ed)
    (k : ∀ d S1 v H1 μ1, Grow μ H μ1 H1 → W g μ1 H1 S1 → Rep g H1 μ1 d v → PostS g Wx μ1 H1 (f d S1) Ed → K v H1) : PostR g μ H r K (wE g Wx σ) := by
  cases r with
  | ok d S1 => exact fun v H1 μ1 g1 w1 r1 => k d S1 v H1 μ1 g1 w1 r1 (PostS.later (r := f d S1) h g1)
  | exc c S1 => exact fun H1 μ1 g1 w1 => h σ H1 μ1 g1 w1 (he.mono g1)
  | bad => exact h
/-- .. the same of a statement's -/
def gArgsS : List GE → Ev → Sto → (List D → Sto → RS) → RS
  | [], _, S, k => k [] S
  | a :: l, ρ, S, k => (a ρ S).thn ρ fun x S1 => gArgsS l ρ S1 fun xs S2 => k (x :: xs) S2
end
/-! ### tests -/
def tGT (g : G) (Wx : WX) (m : GE) : TT := fun σ H Q => ∃ ρ S μ, EnvOk g H μ ρ σ ∧ W g μ H S ∧ PostR g μ H (m ρ S) (fun v H' => ∃ b, v = .bl b ∧ Q b H') (wE g Wx σ)
def RealT (g : G) (N : List Str) (sc : Scope) (L : Nat) (e : Expr) (m : GE) : Prop := ∀ Wx X, CtxOk g N sc L Wx X → PT X e (tGT g Wx m)
def RealW (g : G) (N : List Str) (sc : Scope) (L : Nat) (e : Expr) (m : GE) : Prop := ∀ Wx X, CtxOk g N sc L Wx X → PW X e (tGT g Wx m)
theorem _root_.L2.PT.weak {X : Cx} {e : Expr} {t t' : TT} (h : PT X e t) (k : ∀ σ H Q, t' σ H Q → t σ H Q) : PT X e t' := ⟨fun pins s σ H Q I q => h.run pins s σ H Q I (k σ H Q q)⟩
theorem _root_.L2.PW.weak {X : Cx} {e : Expr} {t t' : TT} (h : PW X e t) (k : ∀ σ H Q, t' σ H Q → t σ H Q) : PW X e t' := ⟨fun w pins s σ H Q I q => h.run w pins s σ H Q I (k σ H Q q)⟩
def gAnd (a b : GE) : GE := fun ρ S => (a ρ S).bind fun x S1 => match x with
  | .bl true => b ρ S1
  | .bl false => .ok (.bl false) S1
  | _ => .bad
def gOr (a b : GE) : GE := fun ρ S => (a ρ S).bind fun x S1 => match x with
  | .bl true => .ok (.bl true) S1
  | .bl false => b ρ S1
  | _ => .bad
def gNot (a : GE) : GE := fun ρ S => (a ρ S).bind fun x S1 => match x with
  | .bl b => .ok (.bl (!b)) S1
  | _ => .bad
def gIf (c a b : GE) : GE := fun ρ S => (c ρ S).bind fun x S1 => match x with
  | .bl true => a ρ S1
  | .bl false => b ρ S1
  | _ => .bad
def gChain (p q : D → D → Sto → Pr) (a b c : GE) : GE := fun ρ S => (a ρ S).bind fun x S1 => (b ρ S1).bind fun y S2 => (p x y S2).res.bind fun z S3 => match z with
  | .bl true => (c ρ S3).bind fun w S4 => (q y w S4).res
  | .bl false => .ok (.bl false) S3
  | _ => .bad
section
variable {g : G} {N : List Str} {sc : Scope} {L : Nat} {a b c e : Expr} {ma mb mc m : GE} {pos : Pos} {rest : List Expr}
variable {μ : List Addr} {H : Hp} {S : Sto} {Q : VK} {E : Str → Hp → Prop}
theorem rep_bl {d : D} {b : Bool} (r : Rep g H μ d (.bl b)) : d = .bl b := by
  cases d <;> simp only [Rep] at r
  case bl b' => cases r; rfl
  case non => cases r
  case int => cases r
  case str => cases r
  all_goals
    first
      | (obtain ⟨a, e, _⟩ := r; cases e; done)
      | (obtain ⟨a, b, e, _⟩ := r; cases e; done)
      | (obtain ⟨a, b, c, d, e, _⟩ := r; cases e; done)
theorem rep_of_bl {d : D} {b : Bool} (e : d = .bl b) {v : V} (r : Rep g H μ d v) : v = .bl b := by subst e; simpa only [Rep] using r
/-- a bool's result and what follows -/
theorem PostR.tst {r : Res} {f : D → Sto → Res} {K : Bool → Hp → Prop} (h : PostR g μ H (r.bind f) Q E)
    (hf : ∀ d S1, (∀ b, d ≠ .bl b) → f d S1 = .bad)
    (k : ∀ b S1 H1 μ1, Grow μ H μ1 H1 → W g μ1 H1 S1 → PostR g μ1 H1 (f (.bl b) S1) Q E → K b H1) : PostR g μ H r (fun v H' => ∃ b, v = .bl b ∧ K b H') E :=
  h.bind fun d S1 v H1 μ1 g1 w1 r1 h1 => by
    cases d with
    | bl b => exact ⟨b, by simpa only [Rep] using r1, k b S1 H1 μ1 g1 w1 h1⟩
    | _ => rw [hf _ _ (by simp)] at h1; exact h1.elim
theorem rt_val (h : Real g N sc L e m) (he : ∀ (env : Env) whole, isTrue e env whole = (do let v ← whole; standAt e.pos; holding [v] (truthy v))) : RealT g N sc L e m := by
  intro Wx X C
  refine (pt_val (h Wx X C) (he X.env)).weak ?_
  rintro σ H Q ⟨ρ, S, μ, he, hw, h⟩
  exact ⟨ρ, S, μ, he, hw, h⟩
theorem rt_cmp {op : CmpOp} {p : D → D → Sto → Pr} (ho : ∀ Wx X, CtxOk g N sc L Wx X → OpR X (compareOp op) (rP2 g p)) (ha : Real g N sc L a ma) (hb : Real g N sc L b mb) (hm : behindInMarks op b = false) : RealT g N sc L (.Compare a [op] [b] pos) (gBin p ma mb) := by
  intro Wx X C
  refine (pt_cmpR (ho Wx X C) (ha Wx X C) (hb Wx X C) hm).weak ?_
  rintro σ H Q ⟨ρ, S, μ, he, hw, h⟩
  unfold gBin at h
  refine ⟨ρ, S, μ, he, hw, h.bind fun x S1 vx H1 μ1 g1 w1 r1 h1 => ⟨ρ, S1, μ1, he.mono g1, w1, h1.bind fun y S2 vy H2 μ2 g2 w2 r2 h2 => ?_⟩⟩
  exact ⟨x, y, S2, μ2, w2, r1.mono g2, r2, h2.pr⟩
theorem re_chain {op op' : CmpOp} {p q : D → D → Sto → Pr} (ho : ∀ Wx X, CtxOk g N sc L Wx X → OpR X (compareOp op) (rP2 g p)) (ho' : ∀ Wx X, CtxOk g N sc L Wx X → OpR X (compareOp op') (rP2 g q)) (ha : Real g N sc L a ma) (hb : Real g N sc L b mb) (hc : Real g N sc L c mc)
    (hm : lastMarks [op, op'] [b, c] = false) : Real g N sc L (.Compare a [op, op'] [b, c] pos) (gChain p q ma mb mc) := by
  intro Wx X C
  refine (pe_chain (ho Wx X C) (ho' Wx X C) (ha Wx X C) (hb Wx X C) (hc Wx X C) hm).weak ?_
  rintro σ H Q ⟨ρ, S, μ, he, hw, h⟩
  unfold gChain at h
  refine ⟨ρ, S, μ, he, hw, h.bind fun x S1 vx H1 μ1 g1 w1 r1 h1 => ⟨ρ, S1, μ1, he.mono g1, w1, h1.bind fun y S2 vy H2 μ2 g2 w2 r2 h2 => ?_⟩⟩
  refine ⟨x, y, S2, μ2, w2, r1.mono g2, r2, (h2.tst (fun d S1 n => ?_) fun k S3 H3 μ3 g3 w3 h3 => ?_).pr⟩
  · split
    · exact absurd rfl (n _)
    · exact absurd rfl (n _)
    · rfl
  · cases k with
    | true =>
      rw [if_pos rfl]
      exact ⟨ρ, S3, μ3, ((he.mono g1).mono g2).mono g3, w3, h3.bind fun z S4 vz H4 μ4 g4 w4 r4 h4 => ⟨y, z, S4, μ4, w4, (r2.mono g3).mono g4, r4, h4.pr⟩⟩
    | false =>
      rw [if_neg (by simp)]
      exact h3 _ _ _ (.refl _ _) w3 (by simp [Rep])
theorem rt_chain {op op' : CmpOp} {p q : D → D → Sto → Pr} (ho : ∀ Wx X, CtxOk g N sc L Wx X → OpR X (compareOp op) (rP2 g p)) (ho' : ∀ Wx X, CtxOk g N sc L Wx X → OpR X (compareOp op') (rP2 g q)) (ha : Real g N sc L a ma) (hb : Real g N sc L b mb) (hc : Real g N sc L c mc)
    (hm : lastMarks [op, op'] [b, c] = false) : RealT g N sc L (.Compare a [op, op'] [b, c] pos) (gChain p q ma mb mc) := by
  intro Wx X C
  refine (pt_chain (ho Wx X C) (ho' Wx X C) (ha Wx X C) (hb Wx X C) (hc Wx X C) hm).weak ?_
  rintro σ H Q ⟨ρ, S, μ, he, hw, h⟩
  unfold gChain at h
  refine ⟨ρ, S, μ, he, hw, h.bind fun x S1 vx H1 μ1 g1 w1 r1 h1 => ⟨ρ, S1, μ1, he.mono g1, w1, h1.bind fun y S2 vy H2 μ2 g2 w2 r2 h2 => ?_⟩⟩
  refine ⟨x, y, S2, μ2, w2, r1.mono g2, r2, (h2.tst (fun d S1 n => ?_) fun k S3 H3 μ3 g3 w3 h3 => ?_).pr⟩
  · split
    · exact absurd rfl (n _)
    · exact absurd rfl (n _)
    · rfl
  · cases k with
    | true =>
      rw [if_pos rfl]
      exact ⟨ρ, S3, μ3, ((he.mono g1).mono g2).mono g3, w3, h3.bind fun z S4 vz H4 μ4 g4 w4 r4 h4 => ⟨y, z, S4, μ4, w4, (r2.mono g3).mono g4, r4, h4.pr⟩⟩
    | false =>
      rw [if_neg (by simp)]
      exact h3 _ _ _ (.refl _ _) w3 (by simp [Rep])
/-! and, or, not -/
theorem rw_and1 (ha : RealT g N sc L a ma) : RealW g N sc L (.BoolOp .And [a] pos) ma := fun Wx X C => pw_and1 (ha Wx X C)
theorem rw_or1 (ha : RealT g N sc L a ma) : RealW g N sc L (.BoolOp .Or [a] pos) ma := fun Wx X C => pw_or1 (ha Wx X C)
theorem bad_and {f : Sto → Res} (d : D) (S1 : Sto) (n : ∀ b, d ≠ .bl b) {a b : Res} : (match d with | .bl true => a | .bl false => b | _ => Res.bad) = .bad := by
  cases d with
  | bl b => exact absurd rfl (n b)
  | _ => rfl
theorem rw_and (ha : RealT g N sc L a ma) (hb : RealW g N sc L (.BoolOp .And (b :: rest) pos) mb) : RealW g N sc L (.BoolOp .And (a :: b :: rest) pos) (gAnd ma mb) := by
  intro Wx X C
  refine (pw_and (ha Wx X C) (hb Wx X C)).weak ?_
  rintro σ H Q ⟨ρ, S, μ, he, hw, h⟩
  refine ⟨ρ, S, μ, he, hw, h.tst (fun d S1 n => bad_and (f := fun _ => .bad) d S1 n) fun k S3 H3 μ3 g3 w3 h3 => ?_⟩
  cases k with
  | true => rw [if_pos rfl]; exact ⟨ρ, S3, μ3, he.mono g3, w3, h3⟩
  | false =>
    rw [if_neg (by simp)]
    obtain ⟨k, e, q⟩ := h3 (.bl false) H3 μ3 (.refl _ _) w3 (by simp [Rep])
    cases e; exact q
theorem rw_or (ha : RealT g N sc L a ma) (hb : RealW g N sc L (.BoolOp .Or (b :: rest) pos) mb) : RealW g N sc L (.BoolOp .Or (a :: b :: rest) pos) (gOr ma mb) := by
  intro Wx X C
  refine (pw_or (ha Wx X C) (hb Wx X C)).weak ?_
  rintro σ H Q ⟨ρ, S, μ, he, hw, h⟩
  refine ⟨ρ, S, μ, he, hw, h.tst (fun d S1 n => bad_and (f := fun _ => .bad) d S1 n) fun k S3 H3 μ3 g3 w3 h3 => ?_⟩
  cases k with
  | false => rw [if_neg (by simp)]; exact ⟨ρ, S3, μ3, he.mono g3, w3, h3⟩
  | true =>
    rw [if_pos rfl]
    obtain ⟨k, e, q⟩ := h3 (.bl true) H3 μ3 (.refl _ _) w3 (by simp [Rep])
    cases e; exact q
theorem rt_w (h : RealW g N sc L e m) : RealT g N sc L e m := fun Wx X C => (h Wx X C).pt
theorem rt_not (ha : RealT g N sc L a ma) : RealT g N sc L (.UnaryOp .Not a pos) (gNot ma) := by
  intro Wx X C
  refine (pt_not (ha Wx X C)).weak ?_
  rintro σ H Q ⟨ρ, S, μ, he, hw, h⟩
  refine ⟨ρ, S, μ, he, hw, h.tst (fun d S1 n => ?_) fun k S3 H3 μ3 g3 w3 h3 => ?_⟩
  · cases d with
    | bl b => exact absurd rfl (n b)
    | _ => rfl
  · obtain ⟨k', e, q⟩ := h3 (.bl (!k)) H3 μ3 (.refl _ _) w3 (by simp [Rep])
    cases e; exact q
theorem re_one {op} (ha : Real g N sc L a ma) : Real g N sc L (.BoolOp op [a] pos) ma := fun Wx X C => pe_one (ha Wx X C)
theorem re_and (ha : Real g N sc L a ma) (hb : Real g N sc L (.BoolOp .And (b :: rest) pos) mb) : Real g N sc L (.BoolOp .And (a :: b :: rest) pos) (gAnd ma mb) := by
  intro Wx X C
  refine (pe_and (ha Wx X C) (hb Wx X C)).weak ?_
  rintro σ H Q ⟨ρ, S, μ, he, hw, h⟩
  refine ⟨ρ, S, μ, he, hw, h.tst (fun d S1 n => bad_and (f := fun _ => .bad) d S1 n) fun k S3 H3 μ3 g3 w3 h3 => ?_⟩
  cases k with
  | true => rw [if_pos rfl]; exact ⟨ρ, S3, μ3, he.mono g3, w3, h3⟩
  | false => rw [if_neg (by simp)]; exact h3 (.bl false) H3 μ3 (.refl _ _) w3 (by simp [Rep])
theorem re_or (ha : Real g N sc L a ma) (hb : Real g N sc L (.BoolOp .Or (b :: rest) pos) mb) : Real g N sc L (.BoolOp .Or (a :: b :: rest) pos) (gOr ma mb) := by
  intro Wx X C
  refine (pe_or (ha Wx X C) (hb Wx X C)).weak ?_
  rintro σ H Q ⟨ρ, S, μ, he, hw, h⟩
  refine ⟨ρ, S, μ, he, hw, h.tst (fun d S1 n => bad_and (f := fun _ => .bad) d S1 n) fun k S3 H3 μ3 g3 w3 h3 => ?_⟩
  cases k with
  | false => rw [if_neg (by simp)]; exact ⟨ρ, S3, μ3, he.mono g3, w3, h3⟩
  | true => rw [if_pos rfl]; exact h3 (.bl true) H3 μ3 (.refl _ _) w3 (by simp [Rep])
theorem re_not (ha : Real g N sc L a ma) : Real g N sc L (.UnaryOp .Not a pos) (gNot ma) := by
  intro Wx X C
  refine (pe_not (ha Wx X C)).weak ?_
  rintro σ H Q ⟨ρ, S, μ, he, hw, h⟩
  refine ⟨ρ, S, μ, he, hw, h.tst (fun d S1 n => ?_) fun k S3 H3 μ3 g3 w3 h3 => ?_⟩
  · cases d with
    | bl b => exact absurd rfl (n b)
    | _ => rfl
  · exact h3 (.bl (!k)) H3 μ3 (.refl _ _) w3 (by simp [Rep])
theorem re_if (hc : RealT g N sc L c mc) (ha : Real g N sc L a ma) (hb : Real g N sc L b mb) : Real g N sc L (.IfExp c a b pos) (gIf mc ma mb) := by
  intro Wx X C
  refine (pe_ifExp (hc Wx X C) (ha Wx X C) (hb Wx X C)).weak ?_
  rintro σ H Q ⟨ρ, S, μ, he, hw, h⟩
  refine ⟨ρ, S, μ, he, hw, h.tst (fun d S1 n => bad_and (f := fun _ => .bad) d S1 n) fun k S3 H3 μ3 g3 w3 h3 => ?_⟩
  cases k with
  | true => rw [if_pos rfl]; exact ⟨ρ, S3, μ3, he.mono g3, w3, h3⟩
  | false => rw [if_neg (by simp)]; exact ⟨ρ, S3, μ3, he.mono g3, w3, h3⟩

/-! ### arguments, displays -/
def tGA (g : G) (Wx : WX) (l : List GE) : TA := fun σ H Q => ∃ ρ S μ, EnvOk g H μ ρ σ ∧ W g μ H S ∧ ∃ (k : List D → Sto → Res) (R : VK), PostR g μ H (gArgs l ρ S k) R (wE g Wx σ) ∧
  ∀ ds S1 vs H1 μ1, Grow μ H μ1 H1 → W g μ1 H1 S1 → RepL g H1 μ1 ds vs → PostR g μ1 H1 (k ds S1) R (wE g Wx σ) → Q vs H1
def tGAS (g : G) (Wx : WX) (l : List GE) : TA := fun σ H Q => ∃ ρ S μ, EnvOk g H μ ρ σ ∧ W g μ H S ∧ ∃ (k : List D → Sto → RS) (Ed : Ends), PostS g Wx μ H (gArgsS l ρ S k) Ed ∧
  ∀ ds S1 vs H1 μ1, Grow μ H μ1 H1 → W g μ1 H1 S1 → RepL g H1 μ1 ds vs → PostS g Wx μ1 H1 (k ds S1) Ed → Q vs H1
inductive AR where
  | ok (ds : List D) (S : Sto)
  | exc (c : Str) (S : Sto)
  | bad
def AR.cons (d : D) : AR → AR
  | .ok ds S => .ok (d :: ds) S
  | r => r
def gArgsR : List GE → Ev → Sto → AR
  | [], _, S => .ok [] S
  | a :: l, ρ, S => match a ρ S with
    | .ok d S1 => (gArgsR l ρ S1).cons d
    | .exc c S1 => .exc c S1
    | .bad => .bad
def PostA (g : G) (μ : List Addr) (H : Hp) (r : AR) (Q : List V → Hp → Prop) (E : Str → Hp → Prop) : Prop := match r with
  | .ok ds S => ∀ vs H' μ', Grow μ H μ' H' → W g μ' H' S → RepL g H' μ' ds vs → Q vs H'
  | .exc c S => ∀ H' μ', Grow μ H μ' H' → W g μ' H' S → E c H'
  | .bad => False
def tGR (g : G) (Wx : WX) (l : List GE) : TA := fun σ H Q => ∃ ρ S μ, EnvOk g H μ ρ σ ∧ W g μ H S ∧ PostA g μ H (gArgsR l ρ S) Q (wE g Wx σ)
structure RealA (g : G) (N : List Str) (sc : Scope) (L : Nat) (es : List Expr) (l : List GE) : Prop where
  a : ∀ Wx X, CtxOk g N sc L Wx X → PA X es (tGA g Wx l)
  s : ∀ Wx X, CtxOk g N sc L Wx X → PA X es (tGAS g Wx l)
  r : ∀ Wx X, CtxOk g N sc L Wx X → PA X es (tGR g Wx l)
theorem _root_.L2.PA.weak {X : Cx} {e : List Expr} {t t' : TA} (h : PA X e t) (k : ∀ σ H Q, t' σ H Q → t σ H Q) : PA X e t' := ⟨fun w pins s σ H Q I q => h.run w pins s σ H Q I (k σ H Q q)⟩
theorem ra_nil : RealA g N sc L [] [] := ⟨fun Wx X C => pa_nil.weak fun σ H Q ⟨ρ, S, μ, he, hw, k, R, h, f⟩ => f [] S [] H μ (.refl _ _) hw .nil h,
  fun Wx X C => pa_nil.weak fun σ H Q ⟨ρ, S, μ, he, hw, k, R, h, f⟩ => f [] S [] H μ (.refl _ _) hw .nil h, fun Wx X C => pa_nil.weak fun σ H Q ⟨ρ, S, μ, he, hw, h⟩ => h [] H μ (.refl _ _) hw .nil⟩
theorem ra_cons {l : List GE} (ha : Real g N sc L a ma) (hr : RealA g N sc L rest l) (hs : ∀ env : Env, starEach (a :: rest) env = (false, eval a env) :: starEach rest env) : RealA g N sc L (a :: rest) (ma :: l) := by
  refine ⟨fun Wx X C => ?_, fun Wx X C => ?_, fun Wx X C => ?_⟩
  · refine (pa_cons (ha Wx X C) (hr.a Wx X C) (hs X.env)).weak ?_
    rintro σ H Q ⟨ρ, S, μ, he, hw, k, R, h, f⟩
    refine ⟨ρ, S, μ, he, hw, h.bind fun x S1 vx H1 μ1 g1 w1 r1 h1 => ⟨ρ, S1, μ1, he.mono g1, w1, fun xs S2 => k (x :: xs) S2, R, h1, fun ds S2 vs H2 μ2 g2 w2 r2 h2 => ?_⟩⟩
    exact f (x :: ds) S2 (vx :: vs) H2 μ2 (g1.trans g2) w2 (.cons (r1.mono g2) r2) h2
  · refine (pa_cons (ha Wx X C) (hr.s Wx X C) (hs X.env)).weak ?_
    rintro σ H Q ⟨ρ, S, μ, he, hw, k, R, h, f⟩
    refine ⟨ρ, S, μ, he, hw, h.ex he fun x S1 vx H1 μ1 g1 w1 r1 h1 => ⟨ρ, S1, μ1, he.mono g1, w1, fun xs S2 => k (x :: xs) S2, R, h1, fun ds S2 vs H2 μ2 g2 w2 r2 h2 => ?_⟩⟩
    exact f (x :: ds) S2 (vx :: vs) H2 μ2 (g1.trans g2) w2 (.cons (r1.mono g2) r2) h2
  · refine (pa_cons (ha Wx X C) (hr.r Wx X C) (hs X.env)).weak ?_
    rintro σ H Q ⟨ρ, S, μ, he, hw, h⟩
    refine ⟨ρ, S, μ, he, hw, ?_⟩
    unfold gArgsR at h
    cases e : ma ρ S with
    | ok d S1 =>
      rw [e] at h
      intro v H1 μ1 g1 w1 r1
      refine ⟨ρ, S1, μ1, he.mono g1, w1, ?_⟩
      simp only at h
      cases e2 : gArgsR l ρ S1 with
      | ok ds S2 => rw [e2] at h; exact fun vs H2 μ2 g2 w2 r2 => h (v :: vs) H2 μ2 (g1.trans g2) w2 (.cons (r1.mono g2) r2)
      | exc c S2 => rw [e2] at h; exact fun H2 μ2 g2 w2 => h H2 μ2 (g1.trans g2) w2
      | bad => rw [e2] at h; exact h
    | exc c S1 => rw [e] at h; exact h
    | bad => rw [e] at h; exact h
/-- a display of a tuple, a list -/
def gTup (l : List GE) : GE := gCallP (fun ds S => if ds.length ≤ sizeLine then some (.tup ds, S) else none) l
def gLst (m : Bool) (l : List GE) : GE := gCallP (fun ds S => if ds.length ≤ sizeLine then mkL m ds S else none) l
theorem ite_none {P : Prop} [Decidable P] {r : Pr} (h : PostP g μ H (if P then r else none) Q) : P ∧ PostP g μ H r Q := by
  by_cases p : P
  · rw [if_pos p] at h; exact ⟨p, h⟩
  · rw [if_neg p] at h; exact h.elim
theorem re_tup {es : List Expr} {l : List GE} {x1} (h : RealA g N sc L es l) : Real g N sc L (.Tuple es x1 pos) (gTup l) := by
  intro Wx X C
  refine (pe_tup (h.a Wx X C)).weak ?_
  rintro σ H Q ⟨ρ, S, μ, he, hw, h⟩
  refine ⟨ρ, S, μ, he, hw, _, Q, h, fun ds S1 vs H1 μ1 g1 w1 r1 h1 => ?_⟩
  obtain ⟨hl, h2⟩ := ite_none h1.pr
  exact ⟨by rw [← r1.length]; exact hl, PostP.tup h2 w1 r1⟩
theorem re_lst {es : List Expr} {l : List GE} (m : Bool) (h : RealA g N sc L es l) : Real g N sc L (.List es pos) (gLst m l) := by
  intro Wx X C
  refine (pe_lst (h.a Wx X C)).weak ?_
  rintro σ H Q ⟨ρ, S, μ, he, hw, h⟩
  refine ⟨ρ, S, μ, he, hw, _, Q, h, fun ds S1 vs H1 μ1 g1 w1 r1 h1 => ?_⟩
  obtain ⟨hl, h2⟩ := ite_none h1.pr
  exact ⟨by rw [← r1.length]; exact hl, PostP.mk h2 w1 r1⟩

/-! ### a.f -/
def gAttr (cl : List Str) (f : Str) : D → Sto → Pr := fun a S => match a with
  | .ob c fs => if c ∈ cl then (lookD f fs).map fun d => (d, S) else none
  | .ref n => match S[n]? with
    | some (.obj c fs) => if c ∈ cl then (lookD f fs).map fun d => (d, S) else none
    | _ => none
  | _ => none
def ClsF (g : G) (c f : Str) : Prop := ∀ C, g.mg c = some (.ref C) → Cls g.K C ∧ NoAttr g.K C f
theorem re_attr {f : Str} {cl : List Str} (ha : Real g N sc L a ma) (hc : ∀ c ∈ cl, ClsF g c f) (hb : ∀ env : Env, attributeBase a f env (eval a env) = eval a env) : Real g N sc L (.Attribute a f pos) (gUn (gAttr cl f) ma) := by
  intro Wx X C
  refine (pe_fld (ha Wx X C) (hb X.env)).weak ?_
  rintro σ H Q ⟨ρ, S, μ, he, hw, h⟩
  unfold gUn at h
  refine ⟨ρ, S, μ, he, hw, h.bind fun x S1 vx H1 μ1 g1 w1 r1 h1 => ?_⟩
  replace h1 := h1.pr
  unfold gAttr at h1
  split at h1
  · rename_i c fs
    obtain ⟨hm, h1⟩ := ite_none h1
    simp only [Rep] at r1
    obtain ⟨ad, CC, dx, vs, rfl, _, mc, e, q⟩ := r1
    cases z : lookD f fs with
    | none => rw [z] at h1; exact h1.elim
    | some d =>
      rw [z] at h1
      obtain ⟨v, e2, r2⟩ := q.look.1 d z
      obtain ⟨k1, k2⟩ := hc c hm CC mc
      exact ⟨ad, CC, dx, vs, v, rfl, e, by rw [C.K]; exact k1, by rw [C.K]; exact k2, e2, PostP.here h1 w1 r2⟩
  · split at h1
    · rename_i n c fs hs
      obtain ⟨hm, h1⟩ := ite_none h1
      obtain ⟨ad, rfl, _, _, CC, dx, vs, mc, e, q⟩ := w1.ref r1 hs
      cases z : lookD f fs with
      | none => rw [z] at h1; exact h1.elim
      | some d =>
        rw [z] at h1
        obtain ⟨v, e2, r2⟩ := q.look.1 d z
        obtain ⟨k1, k2⟩ := hc c hm CC mc
        exact ⟨ad, CC, dx, vs, v, rfl, e, by rw [C.K]; exact k1, by rw [C.K]; exact k2, e2, PostP.here h1 w1 r2⟩
    · exact h1.elim
  · exact h1.elim

/-! ### slices -/
def asI : D → Option Int
  | .int i => some i
  | _ => none
/-- an end of a slice -/
def gPart (p : Option GE) (ρ : Ev) (S : Sto) (k : Option Int → Sto → Res) : Res := match p with
  | none => k none S
  | some m => (m ρ S).bind fun d S1 => match d with
    | .int i => k (some i) S1
    | _ => .bad
def cutD {α : Type} (xs : List α) (lo hi : Option Int) : List α := (xs.drop (HT.sIx xs.length 0 lo)).take (HT.sIx xs.length xs.length hi - HT.sIx xs.length 0 lo)
def gSlice (m : Bool) (a : D) (lo hi : Option Int) (S : Sto) : Pr := match a with
  | .str z => if z.length ≤ sizeLine then some (.str (cutS z lo hi), S) else none
  | .sq l => mkL m (cutD l lo hi) S
  | a => match asL a S with
    | some l => mkL m (cutD l lo hi) S
    | none => match a with
      | .tup l => some (.tup (cutD l lo hi), S)
      | _ => none
def gSl (m : Bool) (a : GE) (lo hi : Option GE) : GE := fun ρ S => (a ρ S).bind fun x S1 => gPart lo ρ S1 fun l S2 => gPart hi ρ S2 fun h S3 => (gSlice m x l h S3).res
def RealO (g : G) (N : List Str) (sc : Scope) (L : Nat) (e : Option Expr) (p : Option GE) : Prop := match e, p with
  | none, none => True
  | some e, some m => Real g N sc L e m
  | _, _ => False
def tGO (g : G) (Wx : WX) (p : Option GE) : TO := fun σ H Q => ∃ ρ S μ, EnvOk g H μ ρ σ ∧ W g μ H S ∧ ∃ (k : Option Int → Sto → Res) (R : VK), PostR g μ H (gPart p ρ S k) R (wE g Wx σ) ∧
  ∀ o S1 H1 μ1, Grow μ H μ1 H1 → W g μ1 H1 S1 → PostR g μ1 H1 (k o S1) R (wE g Wx σ) → Q o H1
theorem ro_po {e : Option Expr} {p : Option GE} (h : RealO g N sc L e p) {Wx : WX} {X : Cx} (C : CtxOk g N sc L Wx X) : PO X e (tGO g Wx p) := by
  cases e with
  | none =>
    cases p with
    | some m => exact h.elim
    | none => exact ⟨fun pins s σ H Q I ⟨ρ, S, μ, he, hw, k, R, h, f⟩ => po_none.run pins s σ H Q I (f none S H μ (.refl _ _) hw h)⟩
  | some e =>
    cases p with
    | none => exact h.elim
    | some m =>
      refine ⟨fun pins s σ H Q I ⟨ρ, S, μ, he, hw, k, R, hp, f⟩ => (po_some (h Wx X C)).run pins s σ H Q I ⟨ρ, S, μ, he, hw, ?_⟩⟩
      unfold gPart at hp
      refine hp.bind fun d S1 v H1 μ1 g1 w1 r1 h1 => ?_
      split at h1
      · rename_i i
        exact ⟨i, by simpa only [Rep] using r1, f (some i) S1 H1 μ1 g1 w1 h1⟩
      · exact h1.elim
theorem repL_cut {l : List D} {vs : List V} (lo hi : Option Int) (r : RepL g H μ l vs) : RepL g H μ (cutD l lo hi) (cutV vs lo hi) := by
  unfold cutD cutV
  rw [← r.length]
  exact (r.drop _).take _
theorem SlR.pick {X : Cx} {r' : V → Option Int → Option Int → Hp → VK → Prop} (h : ∀ x lo hi H Q, r' x lo hi H Q → ∃ r, SlR X r ∧ r x lo hi H Q) : SlR X r' := fun pins s σ H x v vl vu lo hi sl Q I rx hs pl pu q => by
  obtain ⟨r, o, z⟩ := h x lo hi H Q q
  exact o pins s σ H x v vl vu lo hi sl Q I rx hs pl pu z
theorem sl_any {m : Bool} {Wx : WX} {X : Cx} (C : CtxOk g N sc L Wx X) : SlR X (fun x lo hi H Q => ∃ a S μ, W g μ H S ∧ Rep g H μ a x ∧ PostP g μ H (gSlice m a lo hi S) Q) := SlR.pick fun x lo hi H Q h => by
  obtain ⟨a, S, μ, w, r, h⟩ := h
  unfold gSlice at h
  split at h
  · obtain ⟨hl, h⟩ := ite_none h
    simp only [Rep] at r
    exact ⟨_, sl_str, _, r, hl, PostP.here h w (by simp [Rep])⟩
  · simp only [Rep] at r
    obtain ⟨p, vs, rfl, e, q⟩ := r
    exact ⟨_, sl_list, p, vs, rfl, by rw [C.K]; exact e.sq, PostP.mk h w (repL_cut lo hi q)⟩
  · split at h
    · rename_i l e
      obtain ⟨p, vs, rfl, h1, q⟩ := asL_rep w r e
      exact ⟨_, sl_list, p, vs, rfl, .of h1, PostP.mk h w (repL_cut lo hi q)⟩
    · split at h
      · rename_i l _ _ _
        simp only [Rep] at r
        obtain ⟨p, vs, rfl, hn, e, q⟩ := r
        refine ⟨_, sl_tupA, p, vs, rfl, .of e, fun ⟨z1, z2⟩ => ?_, fun _ => PostP.tup h w (repL_cut lo hi q)⟩
        have ec : cutD l lo hi = l := by
          unfold cutD
          rw [q.length, z1, z2, List.drop_zero, Nat.sub_zero, ← q.length, List.take_length]
        rw [ec] at h
        exact PostP.here h w (by simp only [Rep]; exact ⟨p, vs, rfl, hn, e, q⟩)
      · exact h.elim
theorem re_slice {lo hi : Option Expr} {ml mh : Option GE} (m : Bool) {p2 : Pos} (ha : Real g N sc L a ma) (hl : RealO g N sc L lo ml) (hh : RealO g N sc L hi mh) : Real g N sc L (.Subscript a (.Slice lo hi none p2) pos) (gSl m ma ml mh) := by
  intro Wx X C
  refine (pe_slice (sl_any (m := m) C) (ha Wx X C) (ro_po hl C) (ro_po hh C)).weak ?_
  rintro σ H Q ⟨ρ, S, μ, he, hw, h⟩
  unfold gSl at h
  refine ⟨ρ, S, μ, he, hw, h.bind fun x S1 vx H1 μ1 g1 w1 r1 h1 => ⟨ρ, S1, μ1, he.mono g1, w1, _, Q, h1, fun o S2 H2 μ2 g2 w2 h2 => ?_⟩⟩
  refine ⟨ρ, S2, μ2, (he.mono g1).mono g2, w2, _, Q, h2, fun o2 S3 H3 μ3 g3 w3 h3 => ?_⟩
  exact ⟨x, S3, μ3, w3, (r1.mono g2).mono g3, h3.pr⟩
end
end Gp

set_option Elab.async false
set_option linter.all false
set_option maxRecDepth 100000
/-! Gp6: what a call leaves behind is tidied: new cells that nobody sees any more are forgotten, a new result is frozen -/
namespace Gp
open PySem PySem.Spec L2
open PyProof.Rows hiding St

mutual
/-- every cell named is below b -/
def clo (b : Nat) : D → Bool
  | .ref n => decide (n < b)
  | .tup l => cloL b l
  | .kt l => cloL b l
  | .ls l => cloL b l
  | .sq l => cloL b l
  | .dc _ l => cloM b l
  | .ob _ l => cloF b l
  | _ => true
termination_by structural x => x
def cloL (b : Nat) : List D → Bool
  | [] => true
  | d :: l => clo b d && cloL b l
termination_by structural x => x
def cloM (b : Nat) : List (D × D) → Bool
  | [] => true
  | (k, d) :: l => clo b d && cloM b l
termination_by structural x => x
def cloF (b : Nat) : List (Str × D) → Bool
  | [] => true
  | (_, d) :: l => clo b d && cloF b l
termination_by structural x => x
end
def cloC (b : Nat) : Cell → Bool
  | .lst l => cloL b l
  | .dict _ _ l => cloM b l
  | .obj _ l => cloF b l
section
variable {g : G} {μ ν : List Addr} {H : Hp} {S : Sto}
mutual
theorem Rep.clo : ∀ {d : D} {v : V}, Rep g H μ d v → clo μ.length d = true
  | .ref n, v, r => by simp only [Rep] at r; obtain ⟨a, _, e⟩ := r; simp only [Gp.clo, decide_eq_true_eq]; exact (List.getElem?_eq_some_iff.mp e).1
  | .tup l, v, r => by simp only [Rep] at r; obtain ⟨_, _, _, _, _, q⟩ := r; simp only [Gp.clo]; exact RepL.clo q
  | .kt l, v, r => by simp only [Rep] at r; obtain ⟨_, _, _, _, q⟩ := r; simp only [Gp.clo]; exact RepL.clo q
  | .ls l, v, r => by simp only [Rep] at r; obtain ⟨_, _, _, _, _, q⟩ := r; simp only [Gp.clo]; exact RepL.clo q
  | .sq l, v, r => by simp only [Rep] at r; obtain ⟨_, _, _, _, q⟩ := r; simp only [Gp.clo]; exact RepL.clo q
  | .dc k l, v, r => by
    simp only [Rep] at r; simp only [Gp.clo]
    obtain ⟨_, _, _, ⟨_, _, _, q⟩ | ⟨_, _, _, q⟩⟩ := r
    · exact RepK.clo q
    · exact RepT.clo q
  | .ob c l, v, r => by simp only [Rep] at r; obtain ⟨_, _, _, _, _, _, _, _, q⟩ := r; simp only [Gp.clo]; exact RepF.clo q
  | .non, _, _ => rfl
  | .bl _, _, _ => rfl
  | .int _, _, _ => rfl
  | .str _, _, _ => rfl
  | .fn _, _, _ => rfl
theorem RepL.clo : ∀ {l : List D} {vs : List V}, RepL g H μ l vs → cloL μ.length l = true
  | [], _, _ => rfl
  | d :: l, vs, r => by simp only [RepL] at r; obtain ⟨_, _, _, h, t⟩ := r; simp only [cloL, Rep.clo h, RepL.clo t, Bool.and_self]
theorem RepK.clo : ∀ {l : List (D × D)} {vs : List (Key × V)}, RepK g H μ l vs → cloM μ.length l = true
  | [], _, _ => rfl
  | (k, d) :: l, vs, r => by simp only [RepK] at r; obtain ⟨_, _, _, _, _, h, t⟩ := r; simp only [cloM, Rep.clo h, RepK.clo t, Bool.and_self]
theorem RepT.clo : ∀ {l : List (D × D)} {vs : List (List Key × V)}, RepT g H μ l vs → cloM μ.length l = true
  | [], _, _ => rfl
  | (k, d) :: l, vs, r => by simp only [RepT] at r; obtain ⟨_, _, _, _, _, h, t⟩ := r; simp only [cloM, Rep.clo h, RepT.clo t, Bool.and_self]
theorem RepF.clo : ∀ {l : List (Str × D)} {vs : List (Str × V)}, RepF g H μ l vs → cloF μ.length l = true
  | [], _, _ => rfl
  | (k, d) :: l, vs, r => by simp only [RepF] at r; obtain ⟨_, _, _, h, t⟩ := r; simp only [cloF, Rep.clo h, RepF.clo t, Bool.and_self]
end
theorem nin_left {p : Addr} (h : p ∉ μ ++ ν) : p ∉ μ := fun z => h (List.mem_append_left _ z)
mutual
theorem Rep.cut : ∀ {d : D} {v : V}, Rep g H (μ ++ ν) d v → clo μ.length d = true → Rep g H μ d v
  | .ref n, v, r, c => by
    simp only [Rep] at r ⊢; obtain ⟨a, e1, e⟩ := r; simp only [Gp.clo, decide_eq_true_eq] at c
    rw [List.getElem?_append_left c] at e; exact ⟨a, e1, e⟩
  | .tup l, v, r, c => by simp only [Rep] at r ⊢; obtain ⟨p, vs, e, n, h, q⟩ := r; simp only [Gp.clo] at c; exact ⟨p, vs, e, nin_left n, h, RepL.cut q c⟩
  | .kt l, v, r, c => by simp only [Rep] at r ⊢; obtain ⟨p, vs, e, h, q⟩ := r; simp only [Gp.clo] at c; exact ⟨p, vs, e, h, RepL.cut q c⟩
  | .ls l, v, r, c => by simp only [Rep] at r ⊢; obtain ⟨p, vs, e, n, h, q⟩ := r; simp only [Gp.clo] at c; exact ⟨p, vs, e, nin_left n, h, RepL.cut q c⟩
  | .sq l, v, r, c => by simp only [Rep] at r ⊢; obtain ⟨p, vs, e, h, q⟩ := r; simp only [Gp.clo] at c; exact ⟨p, vs, e, h.elim (fun z => .inl ⟨nin_left z.1, z.2⟩) .inr, RepL.cut q c⟩
  | .dc k l, v, r, c => by
    simp only [Rep] at r ⊢; simp only [Gp.clo] at c
    obtain ⟨a, e, n, ⟨h1, ks, h2, q⟩ | ⟨h1, ks, h2, q⟩⟩ := r
    · exact ⟨a, e, nin_left n, .inl ⟨h1, ks, h2, RepK.cut q c⟩⟩
    · exact ⟨a, e, nin_left n, .inr ⟨h1, ks, h2, RepT.cut q c⟩⟩
  | .ob cl l, v, r, c => by
    simp only [Rep] at r ⊢; simp only [Gp.clo] at c
    obtain ⟨a, C, dx, vs, e, n, m, h, q⟩ := r
    exact ⟨a, C, dx, vs, e, nin_left n, m, h, RepF.cut q c⟩
  | .non, _, r, _ => by simpa only [Rep] using r
  | .bl _, _, r, _ => by simpa only [Rep] using r
  | .int _, _, r, _ => by simpa only [Rep] using r
  | .str _, _, r, _ => by simpa only [Rep] using r
  | .fn _, _, r, _ => by simpa only [Rep] using r
theorem RepL.cut : ∀ {l : List D} {vs : List V}, RepL g H (μ ++ ν) l vs → cloL μ.length l = true → RepL g H μ l vs
  | [], _, r, _ => by simpa only [RepL] using r
  | d :: l, vs, r, c => by
    simp only [RepL] at r ⊢; simp only [cloL, Bool.and_eq_true] at c
    obtain ⟨v, y, e, h, t⟩ := r; exact ⟨v, y, e, Rep.cut h c.1, RepL.cut t c.2⟩
theorem RepK.cut : ∀ {l : List (D × D)} {vs : List (Key × V)}, RepK g H (μ ++ ν) l vs → cloM μ.length l = true → RepK g H μ l vs
  | [], _, r, _ => by simpa only [RepK] using r
  | (k, d) :: l, vs, r, c => by
    simp only [RepK] at r ⊢; simp only [cloM, Bool.and_eq_true] at c
    obtain ⟨k', v, y, e, z, h, t⟩ := r; exact ⟨k', v, y, e, z, Rep.cut h c.1, RepK.cut t c.2⟩
theorem RepT.cut : ∀ {l : List (D × D)} {vs : List (List Key × V)}, RepT g H (μ ++ ν) l vs → cloM μ.length l = true → RepT g H μ l vs
  | [], _, r, _ => by simpa only [RepT] using r
  | (k, d) :: l, vs, r, c => by
    simp only [RepT] at r ⊢; simp only [cloM, Bool.and_eq_true] at c
    obtain ⟨k', v, y, e, z, h, t⟩ := r; exact ⟨k', v, y, e, z, Rep.cut h c.1, RepT.cut t c.2⟩
theorem RepF.cut : ∀ {l : List (Str × D)} {vs : List (Str × V)}, RepF g H (μ ++ ν) l vs → cloF μ.length l = true → RepF g H μ l vs
  | [], _, r, _ => by simpa only [RepF] using r
  | (k, d) :: l, vs, r, c => by
    simp only [RepF] at r ⊢; simp only [cloF, Bool.and_eq_true] at c
    obtain ⟨v, y, e, h, t⟩ := r; exact ⟨v, y, e, Rep.cut h c.1, RepF.cut t c.2⟩
end
theorem CellOk.clo {a : Addr} {c : Cell} (x : CellOk g H μ a c) : cloC μ.length c = true := by
  cases c with
  | lst l => obtain ⟨_, _, q⟩ := x; exact q.clo
  | dict k lk l =>
    obtain ⟨_, ⟨_, _, _, q⟩ | ⟨_, _, _, q⟩, _⟩ := x
    · exact q.clo
    · exact q.clo
  | obj cl fs => obtain ⟨_, _, _, _, _, q⟩ := x; exact q.clo
theorem CellOk.cut {a : Addr} {c : Cell} (x : CellOk g H (μ ++ ν) a c) (h : cloC μ.length c = true) : CellOk g H μ a c := by
  cases c with
  | lst l => obtain ⟨vs, e, q⟩ := x; exact ⟨vs, e, q.cut h⟩
  | dict k lk l =>
    obtain ⟨u, ⟨hk, ks, e1, q⟩ | ⟨hk, ks, e1, q⟩, e⟩ := x
    · exact ⟨u, .inl ⟨hk, ks, e1, q.cut h⟩, e⟩
    · exact ⟨u, .inr ⟨hk, ks, e1, q.cut h⟩, e⟩
  | obj cl fs => obtain ⟨C, dx, vs, m, e, q⟩ := x; exact ⟨C, dx, vs, m, e, q.cut h⟩
/-- the cells from μ's end on are forgotten -/
theorem W.cut (w : W g (μ ++ ν) H S) (h : ∀ c ∈ S.take μ.length, cloC μ.length c = true) : W g μ H (S.take μ.length) where
  len := by have := w.len; rw [List.length_append] at this; rw [List.length_take]; omega
  nd := (List.nodup_append.mp w.nd).1
  cell := fun n a c e1 e2 => by
    have hn := (List.getElem?_eq_some_iff.mp e1).1
    have e3 := e2
    rw [List.getElem?_take_of_lt hn] at e2
    exact (w.cell n a c (by rw [List.getElem?_append_left hn]; exact e1) e2).cut (h c (List.mem_of_getElem? e3))
  tb := w.tb

/-! ### freezing -/
def pmap (f : D → Option D) : List (Str × D) → Option (List (Str × D))
  | [] => some []
  | (k, d) :: l => match f d, pmap f l with
    | some y, some r => some ((k, y) :: r)
    | _, _ => none
def dmap (f : D → Option D) : List (D × D) → Option (List (D × D))
  | [] => some []
  | (k, d) :: l => match f d, dmap f l with
    | some y, some r => some ((k, y) :: r)
    | _, _ => none
def frz (b : Nat) (S : Sto) : Nat → D → Option D
  | _, .non => some .non
  | _, .bl x => some (.bl x)
  | _, .int x => some (.int x)
  | _, .str x => some (.str x)
  | _, .fn x => some (.fn x)
  | k + 1, .ref n => if n < b then some (.ref n) else match S[n]? with
    | some (.lst l) => (omap (frz b S k) l).map .ls
    | some (.dict j _ l) => (dmap (frz b S k) l).map (.dc j)
    | some (.obj c l) => (pmap (frz b S k) l).map (.ob c)
    | none => none
  | k + 1, .tup l => (omap (frz b S k) l).map .tup
  | k + 1, .ls l => (omap (frz b S k) l).map .ls
  | k + 1, .dc j l => (dmap (frz b S k) l).map (.dc j)
  | k + 1, .ob c l => (pmap (frz b S k) l).map (.ob c)
  | _, .kt l => if cloL b l = true then some (.kt l) else none
  | _, _ => none
theorem frz_rep (w : W g (μ ++ ν) H S) : ∀ (k : Nat) (d d' : D) (v : V), Rep g H (μ ++ ν) d v → frz μ.length S k d = some d' → Rep g H μ d' v := by
  have kt : ∀ (l : List D) (d' : D) (v : V), Rep g H (μ ++ ν) (.kt l) v → (if cloL μ.length l = true then some (D.kt l) else none) = some d' → Rep g H μ d' v := fun l d' v r e => by
    split at e
    · rename_i hc; cases e; exact Rep.cut r (by simp only [clo]; exact hc)
    · cases e
  intro k
  induction k with
  | zero =>
    intro d d' v r e
    cases d <;> simp only [frz] at e <;> first | (cases e; done) | (cases e; simpa only [Rep] using r) | exact kt _ _ _ r e
  | succ k ih =>
    have oL : ∀ (l l' : List D) (vs : List V), RepL g H (μ ++ ν) l vs → omap (frz μ.length S k) l = some l' → RepL g H μ l' vs := by
      intro l
      induction l with
      | nil => intro l' vs r e; simp [omap] at e; subst e; simpa only [RepL] using r
      | cons x l ihl =>
        intro l' vs r e
        simp only [RepL] at r
        obtain ⟨v, y, rfl, h1, h2⟩ := r
        obtain ⟨p1, p2, e1, e2, rfl⟩ := omap_cons e
        exact .cons (ih x p1 v h1 e1) (ihl p2 y h2 e2)
    have oF : ∀ (l l' : List (Str × D)) (vs : List (Str × V)), RepF g H (μ ++ ν) l vs → pmap (frz μ.length S k) l = some l' → RepF g H μ l' vs := by
      intro l
      induction l with
      | nil => intro l' vs r e; simp [pmap] at e; subst e; simpa only [RepF] using r
      | cons x l ihl =>
        intro l' vs r e
        obtain ⟨kx, x⟩ := x
        simp only [RepF] at r
        obtain ⟨v, y, rfl, h1, h2⟩ := r
        simp only [pmap] at e
        split at e
        · rename_i p1 p2 e1 e2
          cases e
          simp only [RepF]
          exact ⟨v, y, rfl, ih x p1 v h1 e1, ihl p2 y h2 e2⟩
        · cases e
    have oK : ∀ (l l' : List (D × D)) (vs : List (Key × V)), RepK g H (μ ++ ν) l vs → dmap (frz μ.length S k) l = some l' → RepK g H μ l' vs := by
      intro l
      induction l with
      | nil => intro l' vs r e; simp [dmap] at e; subst e; simpa only [RepK] using r
      | cons x l ihl =>
        intro l' vs r e
        obtain ⟨kx, x⟩ := x
        simp only [RepK] at r
        obtain ⟨j, v, y, rfl, z, h1, h2⟩ := r
        simp only [dmap] at e
        split at e
        · rename_i p1 p2 e1 e2
          cases e
          simp only [RepK]
          exact ⟨j, v, y, rfl, z, ih x p1 v h1 e1, ihl p2 y h2 e2⟩
        · cases e
    have oT : ∀ (l l' : List (D × D)) (vs : List (List Key × V)), RepT g H (μ ++ ν) l vs → dmap (frz μ.length S k) l = some l' → RepT g H μ l' vs := by
      intro l
      induction l with
      | nil => intro l' vs r e; simp [dmap] at e; subst e; simpa only [RepT] using r
      | cons x l ihl =>
        intro l' vs r e
        obtain ⟨kx, x⟩ := x
        simp only [RepT] at r
        obtain ⟨j, v, y, rfl, z, h1, h2⟩ := r
        simp only [dmap] at e
        split at e
        · rename_i p1 p2 e1 e2
          cases e
          simp only [RepT]
          exact ⟨j, v, y, rfl, z, ih x p1 v h1 e1, ihl p2 y h2 e2⟩
        · cases e
    intro d d' v r e
    cases d with
    | non => simp only [frz] at e; cases e; simpa only [Rep] using r
    | bl _ => simp only [frz] at e; cases e; simpa only [Rep] using r
    | int _ => simp only [frz] at e; cases e; simpa only [Rep] using r
    | str _ => simp only [frz] at e; cases e; simpa only [Rep] using r
    | fn _ => simp only [frz] at e; cases e; simpa only [Rep] using r
    | sq l => simp only [frz] at e; cases e
    | kt l => simp only [frz] at e; exact kt _ _ _ r e
    | tup l =>
      simp only [frz, Option.map_eq_some_iff] at e
      obtain ⟨l', e, rfl⟩ := e
      simp only [Rep] at r ⊢
      obtain ⟨p, vs, e1, n, h, q⟩ := r
      exact ⟨p, vs, e1, nin_left n, h, oL _ _ _ q e⟩
    | ls l =>
      simp only [frz, Option.map_eq_some_iff] at e
      obtain ⟨l', e, rfl⟩ := e
      simp only [Rep] at r ⊢
      obtain ⟨p, vs, e1, n, h, q⟩ := r
      exact ⟨p, vs, e1, nin_left n, h, oL _ _ _ q e⟩
    | dc j l =>
      simp only [frz, Option.map_eq_some_iff] at e
      obtain ⟨l', e, rfl⟩ := e
      simp only [Rep] at r ⊢
      obtain ⟨a, e1, n, ⟨h1, ks, h2, q⟩ | ⟨h1, ks, h2, q⟩⟩ := r
      · exact ⟨a, e1, nin_left n, .inl ⟨h1, ks, h2, oK _ _ _ q e⟩⟩
      · exact ⟨a, e1, nin_left n, .inr ⟨h1, ks, h2, oT _ _ _ q e⟩⟩
    | ob c l =>
      simp only [frz, Option.map_eq_some_iff] at e
      obtain ⟨l', e, rfl⟩ := e
      simp only [Rep] at r ⊢
      obtain ⟨a, C, dx, vs, e1, n, m, h, q⟩ := r
      exact ⟨a, C, dx, vs, e1, nin_left n, m, h, oF _ _ _ q e⟩
    | ref n =>
      simp only [frz] at e
      split at e
      · rename_i hn
        cases e
        exact Rep.cut r (by simp only [clo, decide_eq_true_eq]; exact hn)
      · rename_i hn
        have out : ∀ a : Addr, (μ ++ ν)[n]? = some a → a ∉ μ := fun a ha hm => by
          rw [List.getElem?_append_right (Nat.le_of_not_lt hn)] at ha
          exact (List.nodup_append.mp w.nd).2.2 a hm a (List.mem_of_getElem? ha) rfl
        split at e
        · rename_i l hs
          obtain ⟨a, rfl, ha, _, vs, h, q⟩ := w.ref r hs
          simp only [Option.map_eq_some_iff] at e
          obtain ⟨l', e, rfl⟩ := e
          simp only [Rep]
          exact ⟨a, vs, rfl, out a ha, h, oL _ _ _ q e⟩
        · rename_i j lk l hs
          obtain ⟨a, rfl, ha, _, u, h, q⟩ := w.ref r hs
          simp only [Option.map_eq_some_iff] at e
          obtain ⟨l', e, rfl⟩ := e
          have rd : Rd H a u := by
            cases lk with
            | true => rw [if_pos rfl] at q; exact .inr q
            | false => rw [if_neg (by simp)] at q; exact .inl q
          simp only [Rep]
          rcases h with ⟨hk, ks, rfl, z⟩ | ⟨hk, ks, rfl, z⟩
          · exact ⟨a, rfl, out a ha, .inl ⟨hk, ks, rd, oK _ _ _ z e⟩⟩
          · exact ⟨a, rfl, out a ha, .inr ⟨hk, ks, rd, oT _ _ _ z e⟩⟩
        · rename_i c l hs
          obtain ⟨a, rfl, ha, _, C, dx, vs, m, h, q⟩ := w.ref r hs
          simp only [Option.map_eq_some_iff] at e
          obtain ⟨l', e, rfl⟩ := e
          simp only [Rep]
          exact ⟨a, C, dx, vs, rfl, out a ha, m, h, oF _ _ _ q e⟩
        · cases e

/-- tidied: the cells from b on are forgotten, the result frozen -/
def tidy (S : Sto) (r : Res) : Res := match r with
  | .ok d S' => if S'.take S.length = S ∨ (S'.take S.length).all (cloC S.length) = true then match frz S.length S' 30 d with
      | some d' => .ok d' (S'.take S.length)
      | none => .bad
    else .bad
  | .exc c S' => if S'.take S.length = S ∨ (S'.take S.length).all (cloC S.length) = true then .exc c (S'.take S.length) else .bad
  | .bad => .bad
theorem PostR.untidy {r : Res} {Q : VK} {E : Str → Hp → Prop} (w : W g μ H S) (h : PostR g μ H (tidy S r) Q E) : PostR g μ H r Q E := by
  have key : ∀ {S' : Sto} {H' : Hp} {μ' : List Addr}, (S'.take S.length = S ∨ (S'.take S.length).all (cloC S.length) = true) → Grow μ H μ' H' → W g μ' H' S' →
      ∃ ν, μ' = μ ++ ν ∧ W g μ H' (S'.take S.length) ∧ Grow μ H μ H' := fun {S' H' μ'} hc gr w' => by
    obtain ⟨ν, rfl, hf⟩ := gr.pre
    refine ⟨ν, rfl, ?_, ⟨⟨⟨[], by simp, by simp⟩, gr.keep, gr.sup⟩, gr.fz⟩⟩
    rw [← w.len]
    refine w'.cut fun c hm => ?_
    rw [w.len] at hm ⊢
    rcases hc with e | e
    · rw [e] at hm
      obtain ⟨n, hn, e1⟩ := List.getElem_of_mem hm
      have e2 : S[n]? = some c := by rw [List.getElem?_eq_getElem hn, e1]
      obtain ⟨a, _, _, k⟩ := w.ix e2
      rw [← w.len]
      exact k.clo
    · exact List.all_eq_true.mp e c hm
  cases r with
  | ok d S' =>
    simp only [tidy] at h
    split at h
    · rename_i hc
      split at h
      · rename_i d' e
        intro v H' μ' gr w' r'
        obtain ⟨ν, rfl, w2, g2⟩ := key hc gr w'
        rw [← w.len] at e
        exact h v H' μ g2 w2 (frz_rep w' 30 d d' v r' e)
      · exact h.elim
    · exact h.elim
  | exc c S' =>
    simp only [tidy] at h
    split at h
    · rename_i hc
      intro H' μ' gr w'
      obtain ⟨ν, rfl, w2, g2⟩ := key hc gr w'
      exact h H' μ g2 w2
    · exact h.elim
  | bad => exact h
end
end Gp

set_option Elab.async false
set_option linter.all false
set_option maxRecDepth 100000
/-! Gp7: calls -/
namespace Gp
open PySem PySem.Spec L2
open PyProof.Rows hiding St

/-- what a def is worth: its value on ghost values -/
abbrev Fn := List D → Sto → Res
def spG (g : G) (F : Fn) : Sp := fun vs H Q E => ∃ ds S μ, W g μ H S ∧ RepL g H μ ds vs ∧ PostR g μ H (F ds S) Q (fun c H' => ∀ C, g.mg c = some (.ref C) → E (.ref C) none H')
/-- a def of the text at f -/
structure FnR (g : G) (k : Nat) (f : Addr) (fd : FuncData) (ps : List Str) (F : Fn) : Prop where
  ok : FnOk g.P g.w g.K g.mg g.base (L2.CX g.P g.w) k f fd ps (spG g F)
  kp : PySem.W.keepIn g.K (.ref f) = true
/-- how arguments are bound: dds are the values of the parameters that are left out -/
def BindD (g : G) (fd : FuncData) (ps : List Str) (dds : List D) : Prop := ∃ ds dvs, Binds g.K fd ps ds ∧ Vals dvs ds ∧ ∀ H μ, RepL g H μ dds dvs
theorem BindD.none {g : G} {fd : FuncData} {ps : List Str} (h : Binds g.K fd ps []) : BindD g fd ps [] := ⟨[], [], h, .nil, fun _ _ => .nil⟩
/-- the def behind a name of the module -/
def CallOk (g : G) (k : Nat) (x : Str) (dds : List D) (F : Fn) : Prop := ∃ f fd ps, g.mg x = some (.ref f) ∧ FnR g k f fd ps F ∧ BindD g fd ps dds
/-- the method m of the class c -/
def MethOk (g : G) (k : Nat) (c m : Str) (dds : List D) (F : Fn) : Prop := ∀ C, g.mg c = some (.ref C) → ∃ f fd ps, Cls g.K C ∧ Meth g.K C m f ∧ FnR g k f fd ps F ∧ BindD g fd ps dds
/-- the class c made -/
def MakeOk (g : G) (k : Nat) (c : Str) (dds : List D) (F : Fn) : Prop := ∃ C f fd ps, g.mg c = some (.ref C) ∧ Mk g.K C f ∧ FnR g k f fd ps F ∧ BindD g fd ps dds

def gCall (F : Fn) (l : List GE) (dds : List D) : GE := fun ρ S => gArgs l ρ S fun ds S1 => F (ds ++ dds) S1
/-- the class of a value -/
def clsOf (d : D) (S : Sto) : Option (Str × List (Str × D)) := match d with
  | .ob c fs => some (c, fs)
  | .ref n => match S[n]? with
    | some (.obj c fs) => some (c, fs)
    | _ => none
  | _ => none
abbrev MTab := List (Str × List D × Fn)
def mlook (c : Str) : MTab → Option (List D × Fn)
  | [] => none
  | p :: r => if p.1 = c then some p.2 else mlook c r
def gMeth (tbl : MTab) (m : Str) (o : GE) (l : List GE) : GE := fun ρ S => (o ρ S).bind fun x S1 => match clsOf x S1 with
  | some (c, fs) => match lookD m fs, mlook c tbl with
    | none, some (dds, F) => gArgs l ρ S1 fun ds S2 => F (x :: (ds ++ dds)) S2
    | _, _ => .bad
  | none => .bad
def newObj (c : Str) (F : Fn) (ds : List D) (S : Sto) : Res := (F (.ref S.length :: ds) (S ++ [.obj c []])).bind fun d S2 => match d with
  | .non => .ok (.ref S.length) S2
  | _ => .bad
def gMake (imm : Bool) (c : Str) (F : Fn) (l : List GE) (dds : List D) : GE := fun ρ S => gArgs l ρ S fun ds S1 => if imm = true then tidy S1 (newObj c F (ds ++ dds) S1) else newObj c F (ds ++ dds) S1
section
variable {g : G} {N : List Str} {sc : Scope} {L : Nat} {a b c e : Expr} {ma mb mc m : GE} {pos p apos : Pos} {es : List Expr} {l : List GE} {x : Str} {F : Fn} {dds : List D} {k : Nat}
variable {μ : List Addr} {H : Hp} {S : Sto} {Q : VK} {E : Str → Hp → Prop}
theorem FnR.of {Wx : WX} {X : Cx} (C : CtxOk g N sc L Wx X) {f : Addr} {fd : FuncData} {ps : List Str} (h : FnR g k f fd ps F) : FnOk X.prog X.w X.K X.mg X.base (L2.CX X.prog X.w) k f fd ps (spG g F) := by
  have := h.ok
  rw [← C.prog, ← C.wd, ← C.K, ← C.mg, ← C.base] at this
  exact this
theorem PostR.later {μ' : List Addr} {H' : Hp} {r : Res} (h : PostR g μ H r Q E) (gr : Grow μ H μ' H') : PostR g μ' H' r Q E := by
  cases r with
  | ok d S => exact fun v H2 μ2 g2 w2 r2 => h v H2 μ2 (gr.trans g2) w2 r2
  | exc c S => exact fun H2 μ2 g2 w2 => h H2 μ2 (gr.trans g2) w2
  | bad => exact h
theorem wE_of {Wx : WX} {σ : St} {c : Str} {H' : Hp} (h : wE g Wx σ c H') : ∀ C, g.mg c = some (.ref C) → WE Wx σ (.ref C) none H' := h
theorem PostR.wE {r : Res} {Wx : WX} {σ : St} (h : PostR g μ H r Q (Gp.wE g Wx σ)) : PostR g μ H r Q (fun c H' => ∀ C, g.mg c = some (.ref C) → WE Wx σ (.ref C) none H') := h
/-- f(e, ..) -/
theorem re_call (hF : CallOk g k x dds F) (hk : k ≤ L) (hg : sc.names.lookup x = some .globalImplicit) (ha : RealA g N sc L (e :: es) l)
    (he : ∀ env : Env, starEach (e :: es) env = (false, eval e env) :: starEach es env) (hpl : ∀ env : Env, (backTo pos (starEach es env)).any (·.1) = false) (hdb : (x == ("__debug__" : Str)) = false := by decide) :
    Real g N sc L (.Call (.Name x p) (e :: es) [] pos) (gCall F l dds) := by
  intro Wx X C
  obtain ⟨f, fd, ps, hm, hF, ds, dvs, hb, hd, hr⟩ := hF
  refine (pe_callSD (hF.of C) (C.room.mono hk) (show Gl X x by unfold Gl Env.kindOf; rw [C.sc]; exact hg) (by rw [C.mg]; exact hm) (by rw [C.K]; exact hF.kp) (by rw [C.K]; exact hb) hd (fun σ => passAt C.tk σ) (ha.a Wx X C) hdb (he X.env) (hpl X.env)).weak ?_
  rintro σ H Q ⟨ρ, S, μ, he, hw, h⟩
  unfold gCall at h
  refine ⟨ρ, S, μ, he, hw, _, Q, h, fun xs S1 vs H1 μ1 g1 w1 r1 h1 => ?_⟩
  exact ⟨xs ++ dds, S1, μ1, w1, r1.append (hr _ _), h1⟩
/-- f() -/
theorem re_call0 (hF : CallOk g k x dds F) (hk : k ≤ L) (hg : sc.names.lookup x = some .globalImplicit) (hdb : (x == ("__debug__" : Str)) = false := by decide) :
    Real g N sc L (.Call (.Name x p) [] [] pos) (gCall F [] dds) := by
  intro Wx X C
  obtain ⟨f, fd, ps, hm, hF, ds, dvs, hb, hd, hr⟩ := hF
  refine ⟨fun pins s σ H Q I h => ?_⟩
  obtain ⟨ρ, S, μ, he, hw, h⟩ := h
  refine wpAny_Call_Name_kw (ld_glob I (show Gl X x by unfold Gl Env.kindOf; rw [C.sc]; exact hg) (by rw [C.mg]; exact hm) ?_ hdb)
  refine PySem.W.callWith_K0 I.kIn (by rw [C.K]; exact hF.kp) (run_fnSD (us := []) (hF.of C) (C.room.mono hk) (by rw [C.K]; exact hb) hd (passAt C.tk σ) I .nil ?_)
  exact ⟨dds, S, μ, hw, hr _ _, h⟩
/-- a call by values: m(self, ..) -/
theorem clsOf_rep {d : D} {v : V} {cl : Str} {fs : List (Str × D)} (w : W g μ H S) (r : Rep g H μ d v) (e : clsOf d S = some (cl, fs)) :
    ∃ a C dx vs, v = .ref a ∧ g.mg cl = some (.ref C) ∧ H a = some (.ins C dx vs) ∧ RepF g H μ fs vs := by
  unfold clsOf at e
  split at e
  · cases e
    simp only [Rep] at r
    obtain ⟨a, C, dx, vs, e, _, m, h, q⟩ := r
    exact ⟨a, C, dx, vs, e, m, h, q⟩
  · split at e
    · rename_i n c fs' hs
      cases e
      obtain ⟨a, e, _, _, C, dx, vs, m, h, q⟩ := w.ref r hs
      exact ⟨a, C, dx, vs, e, m, h, q⟩
    · cases e
  · cases e
theorem mlook_mem {cl : Str} {x : List D × Fn} : ∀ {t : MTab}, mlook cl t = some x → (cl, x) ∈ t
  | [], h => by cases h
  | p :: r, h => by
    unfold mlook at h
    split at h
    · rename_i e; cases h; subst e; exact List.mem_cons_self
    · exact List.mem_cons_of_mem _ (mlook_mem h)
/-- o.m(e, ..) -/
theorem re_meth {tbl : MTab} {mn : Str} {o : Expr} {mo : GE} {pl : Env → Sem Bool} (ho : Real g N sc L o mo) (hT : ∀ q ∈ tbl, MethOk g k q.1 mn q.2.1 q.2.2) (hk : k ≤ L) (ha : RealA g N sc L (e :: es) l)
    (hst : ∀ env : Env, starEach (e :: es) env = (false, eval e env) :: starEach es env) (hpl : ∀ env : Env, (backTo pos (starEach es env)).any (·.1) = false)
    (ht : ∀ env : Env, eval (.Call (.Attribute o mn apos) (e :: es) [] pos) env = (do
      let ov ← eval o env
      standAt apos.atName
      let (f, first) ← holding [ov] (getMethod ov mn (pl env))
      callWith pos f first (backTo pos (starEach (e :: es) env)) (backToKw pos (keywordEach [] env)))) :
    Real g N sc L (.Call (.Attribute o mn apos) (e :: es) [] pos) (gMeth tbl mn mo l) := by
  intro Wx X C
  refine ⟨fun pins s σ H Q I h => ?_⟩
  obtain ⟨ρ, S, μ, he, hw, h⟩ := h
  unfold gMeth at h
  refine methcall_of (pl := pl X.env) (ho Wx X C) I ⟨ρ, S, μ, he, hw, h.bind fun d S1 v H1 μ1 g1 w1 r1 h1 => ?_⟩ (ht X.env)
  split at h1
  · rename_i cl fs ec
    split at h1
    · rename_i dds F en et
      obtain ⟨a, CC, dx, vs, rfl, mc, ha1, q⟩ := clsOf_rep w1 r1 ec
      obtain ⟨f, fd, ps, hc, hm, hF, ds, dvs, hb, hd, hr⟩ := hT _ (mlook_mem et) CC mc
      refine ⟨a, CC, dx, vs, f, rfl, ha1, by rw [C.K]; exact hc, by rw [C.K]; exact hm, q.look.2 en, fun s1 I1 => ?_⟩
      refine PySem.W.callWith_K (first := [.ref a]) (h₀ := X.base) I1.ok.mod.kin (by rw [C.K]; exact hm.kp) (thn ((ha.a Wx X C).run pos pins s1 σ H1 (fun vs2 H2 => spG g F (.ref a :: (vs2 ++ dvs)) H2 Q (WE Wx σ)) I1
        ⟨ρ, S1, μ1, he.mono g1, w1, _, Q, h1, fun xs S2 vs2 H2 μ2 g2 w2 r2 h2 => ⟨d :: (xs ++ dds), S2, μ2, w2, .cons (r1.mono g2) (r2.append (hr _ _)), h2⟩⟩) fun us s2 ⟨vs2, H2, I2, r, q2⟩ => ⟨I2.kIn, ?_⟩) (hst X.env) (hpl X.env)
      exact run_fnSD (us := .ref a :: us) (vs := .ref a :: vs2) (hF.of C) (C.room.mono hk) (by rw [C.K]; exact hb) hd (passAt C.tk σ) I2 (.cons rfl r) q2
    · exact h1.elim
  · exact h1.elim
theorem re_meth0 {tbl : MTab} {mn : Str} {o : Expr} {mo : GE} {pl : Env → Sem Bool} (ho : Real g N sc L o mo) (hT : ∀ q ∈ tbl, MethOk g k q.1 mn q.2.1 q.2.2) (hk : k ≤ L)
    (ht : ∀ env : Env, eval (.Call (.Attribute o mn apos) [] [] pos) env = (do
      let ov ← eval o env
      standAt apos.atName
      let (f, first) ← holding [ov] (getMethod ov mn (pl env))
      callWith pos f first (backTo pos (starEach [] env)) (backToKw pos (keywordEach [] env)))) :
    Real g N sc L (.Call (.Attribute o mn apos) [] [] pos) (gMeth tbl mn mo []) := by
  intro Wx X C
  refine ⟨fun pins s σ H Q I h => ?_⟩
  obtain ⟨ρ, S, μ, he, hw, h⟩ := h
  unfold gMeth at h
  refine methcall_of (pl := pl X.env) (ho Wx X C) I ⟨ρ, S, μ, he, hw, h.bind fun d S1 v H1 μ1 g1 w1 r1 h1 => ?_⟩ (ht X.env)
  split at h1
  · rename_i cl fs ec
    split at h1
    · rename_i dds F en et
      obtain ⟨a, CC, dx, vs, rfl, mc, ha1, q⟩ := clsOf_rep w1 r1 ec
      obtain ⟨f, fd, ps, hc, hm, hF, ds, dvs, hb, hd, hr⟩ := hT _ (mlook_mem et) CC mc
      refine ⟨a, CC, dx, vs, f, rfl, ha1, by rw [C.K]; exact hc, by rw [C.K]; exact hm, q.look.2 en, fun s1 I1 => ?_⟩
      refine PySem.W.callWith_K0 (first := [.ref a]) I1.kIn (by rw [C.K]; exact hm.kp) (run_fnSD (us := [.ref a]) (vs := [.ref a]) (hF.of C) (C.room.mono hk) (by rw [C.K]; exact hb) hd (passAt C.tk σ) I1 (.cons rfl .nil) ?_)
      exact ⟨d :: dds, S1, μ1, w1, .cons r1 (hr _ _), h1⟩
    · exact h1.elim
  · exact h1.elim

/-! ### C(e, ..) -/
theorem run_makeS {X : Cx} {CX : CXT} {f Ca : Addr} {fd : FuncData} {ps : List Str} {sp : Sp} {dvs : List V} {ds : List Value} {E : XK} {pins : List (Addr × Obj)} {σ : St} {H : Hp} {s : Shared} {Q : VK} {us : List Value} {vs : List V} (M : Mk X.K Ca f) (F : FnOk X.prog X.w X.K X.mg X.base CX k f fd ps sp) (hr : Room (k + 1) X.A) (hb : Binds X.K fd ps ds) (hd : Vals dvs ds)
    (hx : PassesAt CX X σ E) (I : Inv X pins σ H s) (r : Vals vs us)
    (h : ∀ x dx, H x = none → H dx = none → dx ≠ x → sp (.ref x :: (vs ++ dvs)) (upd (upd H dx (.own x)) x (.ins Ca dx [])) (fun v H2 => v = .non ∧ Q (.ref x) H2) E) :
    wpAny (model X.prog X.w) X.A (call (.ref Ca) us) (EP X pins σ Q) X.xe s := by
  have hq := h (s.heap.objs.size + 1) s.heap.objs.size (I.hok.fresh (Nat.le_succ _)) (I.hok.fresh (Nat.le_refl _)) (Nat.ne_of_lt (Nat.lt_succ_self _))
  have I2 := Inv.made (C := Ca) I
  have r2 : Vals (V.ref (s.heap.objs.size + 1) :: (vs ++ dvs)) (Value.ref (s.heap.objs.size + 1) :: (us ++ ds)) := .cons rfl (r.append hd)
  have hl : (Value.ref (s.heap.objs.size + 1) :: us ++ ds).length = ps.length := by
    have e := r2.length
    rw [F.len _ _ _ _ hq] at e
    exact e.symm
  refine wpAny_call (make_map (f := f) I.kIn M.makes M.init (beq_iff_eq.mp M.fn) (codeAny_mono (F.run _ X.stack _ _ ⟨Value.ref (s.heap.objs.size + 1) :: us, []⟩ (Value.ref (s.heap.objs.size + 1) :: (us ++ ds)) _ _ E (hr.make Ca us [])
    (I2.env0.make Ca us []) (hb _ (Value.ref (s.heap.objs.size + 1) :: us) I2.kIn hl) r2 hq) fun r s' hq' => ?_))
  cases r with
  | error e => exact hx pins _ _ e s' I2 hq'
  | ok fl =>
    cases fl with
    | ret u =>
      obtain ⟨v, H', I3, rv, ev, q3⟩ := I2.after hq'
      subst ev
      exact ⟨rv, ⟨V.ref (s.heap.objs.size + 1), H', I3, rfl, q3⟩⟩
    | next => exact False.elim hq'
    | brk => exact False.elim hq'
    | cont => exact False.elim hq'
theorem new_w {cl : Str} {Ca x dx : Addr} (w : W g μ H S) (hm : g.mg cl = some (.ref Ca)) (hx : H x = none) (hdx : H dx = none) (hne : dx ≠ x) :
    W g (μ ++ [x]) (upd (upd H dx (.own x)) x (.ins Ca dx [])) (S ++ [.obj cl []]) ∧ Grow μ H (μ ++ [x]) (upd (upd H dx (.own x)) x (.ins Ca dx [])) := by
  have h1 : upd H dx (.own x) x = none := by rw [upd_ne (Ne.symm hne)]; exact hx
  refine ⟨(w.add hdx).alloc h1 ⟨Ca, dx, [], hm, upd_same, by simp [RepF]⟩, ?_⟩
  have g1 : Grow μ H μ (upd H dx (.own x)) := grow_fresh hdx
  exact g1.trans (grow_alloc h1)
theorem re_make0 {imm : Bool} {cl : Str} (hF : MakeOk g k cl dds F) (hk : k + 1 ≤ L) (hg : sc.names.lookup cl = some .globalImplicit) (hdb : (cl == ("__debug__" : Str)) = false := by decide) :
    Real g N sc L (.Call (.Name cl p) [] [] pos) (gMake imm cl F [] dds) := by
  intro Wx X C
  obtain ⟨Ca, f, fd, ps, hm, hM, hF, ds, dvs, hb, hd, hr⟩ := hF
  refine ⟨fun pins s σ H Q I h => ?_⟩
  obtain ⟨ρ, S, μ, he, hw, h⟩ := h
  refine wpAny_Call_Name_kw (ld_glob I (show Gl X cl by unfold Gl Env.kindOf; rw [C.sc]; exact hg) (by rw [C.mg]; exact hm) ?_ hdb)
  have M : Mk X.K Ca f := by rw [C.K]; exact hM
  have h2 : PostR g μ H (newObj cl F dds S) Q (wE g Wx σ) := by
    unfold gMake gArgs at h
    cases imm with
    | true => exact PostR.untidy hw h
    | false => exact h
  refine PySem.W.callWith_K0 I.kIn M.kp (run_makeS (us := []) M (hF.of C) (C.room.mono hk) (by rw [C.K]; exact hb) hd (passAt C.tk σ) I .nil fun x dx hx hdx hne => ?_)
  obtain ⟨w2, g2⟩ := new_w hw hm hx hdx hne
  refine ⟨.ref S.length :: dds, _, _, w2, .cons (by simp only [Rep]; exact ⟨x, rfl, by rw [← hw.len, List.getElem?_append_right (Nat.le_refl _)]; simp⟩) (hr _ _), ?_⟩
  have h3 : PostR g (μ ++ [x]) (upd (upd H dx (.own x)) x (.ins Ca dx [])) (newObj cl F dds S) Q (wE g Wx σ) := PostR.later h2 g2
  refine (PostR.bind h3 fun d S1 v H1 μ1 g1 w1 r1 h1 => ?_)
  split at h1
  · simp only [Rep] at r1
    refine ⟨r1, h1 (.ref x) H1 μ1 (.refl _ _) w1 ?_⟩
    simp only [Rep]
    exact ⟨x, rfl, g1.get (by rw [← hw.len, List.getElem?_append_right (Nat.le_refl _)]; simp)⟩
  · exact h1.elim
theorem re_make {imm : Bool} {cl : Str} (hF : MakeOk g k cl dds F) (hk : k + 1 ≤ L) (hg : sc.names.lookup cl = some .globalImplicit) (ha : RealA g N sc L (e :: es) l)
    (hst : ∀ env : Env, starEach (e :: es) env = (false, eval e env) :: starEach es env) (hpl : ∀ env : Env, (backTo pos (starEach es env)).any (·.1) = false) (hdb : (cl == ("__debug__" : Str)) = false := by decide) :
    Real g N sc L (.Call (.Name cl p) (e :: es) [] pos) (gMake imm cl F l dds) := by
  intro Wx X C
  obtain ⟨Ca, f, fd, ps, hm, hM, hF, ds, dvs, hb, hd, hr⟩ := hF
  refine ⟨fun pins s σ H Q I h => ?_⟩
  obtain ⟨ρ, S, μ, he, hw, h⟩ := h
  refine wpAny_Call_Name_kw (ld_glob I (show Gl X cl by unfold Gl Env.kindOf; rw [C.sc]; exact hg) (by rw [C.mg]; exact hm) ?_ hdb)
  have M : Mk X.K Ca f := by rw [C.K]; exact hM
  refine PySem.W.callWith_K (h₀ := X.base) I.ok.mod.kin M.kp (thn ((ha.a Wx X C).run pos pins s σ H (fun vs H1 => ∃ ds1 S1 μ1, W g μ1 H1 S1 ∧ RepL g H1 μ1 ds1 vs ∧ PostR g μ1 H1 (newObj cl F (ds1 ++ dds) S1) Q (wE g Wx σ)) I
    ⟨ρ, S, μ, he, hw, _, Q, h, fun xs S2 vs2 H2 μ2 g2 w2 r2 h2 => ⟨xs, S2, μ2, w2, r2, ?_⟩⟩) fun us s1 ⟨vs, H1, I1, r, xs, S1, μ1, w1, r1, h1⟩ => ⟨I1.kIn, ?_⟩) (hst X.env) (hpl X.env)
  · cases imm with
    | true => exact PostR.untidy w2 h2
    | false => exact h2
  refine run_makeS M (hF.of C) (C.room.mono hk) (by rw [C.K]; exact hb) hd (passAt C.tk σ) I1 r fun x dx hx hdx hne => ?_
  obtain ⟨w2, g2⟩ := new_w w1 hm hx hdx hne
  refine ⟨.ref S1.length :: (xs ++ dds), _, _, w2, .cons (by simp only [Rep]; exact ⟨x, rfl, by rw [← w1.len, List.getElem?_append_right (Nat.le_refl _)]; simp⟩) ((r1.mono g2).append (hr _ _)), ?_⟩
  have h3 := PostR.later h1 g2
  refine (PostR.bind h3 fun d S2 v H2 μ2 g1 w2 r2 h2 => ?_)
  split at h2
  · simp only [Rep] at r2
    refine ⟨r2, h2 (.ref x) H2 μ2 (.refl _ _) w2 ?_⟩
    simp only [Rep]
    exact ⟨x, rfl, g1.get (by rw [← w1.len, List.getElem?_append_right (Nat.le_refl _)]; simp)⟩
  · exact h2.elim

/-! ### built-ins -/
theorem re_callB {id : String} {pr : List D → Sto → Pr} (hc : ∀ Wx X, CtxOk g N sc L Wx X → CallR X (.builtin id) (rPn g pr)) (hg : sc.names.lookup x = some .globalImplicit) (hm : g.mg x = none) (hv : bootBuiltins x = some (.builtin id)) (ha : RealA g N sc L (e :: es) l)
    (he : ∀ env : Env, starEach (e :: es) env = (false, eval e env) :: starEach es env) (hpl : ∀ env : Env, (backTo pos (starEach es env)).any (·.1) = false) (hn : x ≠ "__name__" := by decide) (hdb : (x == ("__debug__" : Str)) = false := by decide) :
    Real g N sc L (.Call (.Name x p) (e :: es) [] pos) (gCallP pr l) := by
  intro Wx X C
  refine (pe_callB (hc Wx X C) (show Gl X x by unfold Gl Env.kindOf; rw [C.sc]; exact hg) (by rw [C.mg]; exact hm) hv (ha.a Wx X C) hn hdb (he X.env) (hpl X.env)).weak ?_
  rintro σ H Q ⟨ρ, S, μ, he, hw, h⟩
  unfold gCallP at h
  exact ⟨ρ, S, μ, he, hw, _, Q, h, fun xs S1 vs H1 μ1 g1 w1 r1 h1 => ⟨xs, S1, μ1, w1, r1, h1.pr⟩⟩
theorem re_callTy {T : String} {pr : List D → Sto → Pr} (hc : ∀ Wx X, CtxOk g N sc L Wx X → CallR X (.type T) (rPn g pr)) (hg : sc.names.lookup x = some .globalImplicit) (hm : g.mg x = none) (hv : bootBuiltins x = some (.type T)) (ha : RealA g N sc L (e :: es) l)
    (he : ∀ env : Env, starEach (e :: es) env = (false, eval e env) :: starEach es env) (hpl : ∀ env : Env, (backTo pos (starEach es env)).any (·.1) = false) (hn : x ≠ "__name__" := by decide) (hdb : (x == ("__debug__" : Str)) = false := by decide) :
    Real g N sc L (.Call (.Name x p) (e :: es) [] pos) (gCallP pr l) := by
  intro Wx X C
  refine (pe_callTy (hc Wx X C) (show Gl X x by unfold Gl Env.kindOf; rw [C.sc]; exact hg) (by rw [C.mg]; exact hm) hv (ha.a Wx X C) hn hdb (he X.env) (hpl X.env)).weak ?_
  rintro σ H Q ⟨ρ, S, μ, he, hw, h⟩
  unfold gCallP at h
  exact ⟨ρ, S, μ, he, hw, _, Q, h, fun xs S1 vs H1 μ1 g1 w1 r1 h1 => ⟨xs, S1, μ1, w1, r1, h1.pr⟩⟩
end
end Gp

set_option Elab.async false
set_option linter.all false
set_option maxRecDepth 100000
/-! Gp8: built-ins on values -/
namespace Gp
open PySem PySem.Spec L2
open PyProof.Rows hiding St

abbrev PrN := List D → Sto → Pr
def pLen : PrN := fun ds S => match ds with
  | [d] => match asD d S with
    | some (0, l) => some (.int l.length, S)
    | some _ => none
    | none => match d with
      | .str z => if z.length ≤ sizeLine then some (.int z.length, S) else none
      | d => match asL d S with
        | some l => some (.int l.length, S)
        | none => match asT d with
          | some l => some (.int l.length, S)
          | none => none
  | _ => none
def pAbs : PrN := fun ds S => match ds with
  | [.int i] => some (.int (if i < 0 then -i else i), S)
  | _ => none
def pInt : PrN := fun ds S => match ds with
  | [.int i] => some (.int i, S)
  | [.bl k] => some (.int (if k then 1 else 0), S)
  | _ => none
def strI (i : Int) : Str := toString i
def pStr : PrN := fun ds S => match ds with
  | [.int i] => if i.natAbs.log2 < 1920 then some (.str (strI i), S) else none
  | _ => none
def intsOf : List D → Option (List Int) := omap fun d => match d with
  | .int i => some i
  | _ => none
def maxI : List Int → Int
  | [] => 0
  | n :: r => r.foldl max n
def minI : List Int → Int
  | [] => 0
  | n :: r => r.foldl min n
def pMax : PrN := fun ds S => match ds with
  | [.int i, .int j] => some (.int (max i j), S)
  | [d] => match asL d S with
    | some l => match intsOf l with
      | some (n :: r) => some (.int (maxI (n :: r)), S)
      | _ => none
    | none => none
  | _ => none
def pMin : PrN := fun ds S => match ds with
  | [.int i, .int j] => some (.int (min i j), S)
  | [d] => match asL d S with
    | some l => match intsOf l with
      | some (n :: r) => some (.int (minI (n :: r)), S)
      | _ => none
    | none => none
  | _ => none
def pSum : PrN := fun ds S => match ds with
  | [d] => match asL d S with
    | some l => match intsOf l with
      | some ns => some (.int ns.sum, S)
      | _ => none
    | none => none
  | _ => none
def pTuple : PrN := fun ds S => match ds with
  | [.tup l] => some (.tup l, S)
  | [d] => match asL d S with
    | some l => some (.tup l, S)
    | none => none
  | _ => none
def pList (m : Bool) : PrN := fun ds S => match ds with
  | [d] => match asD d S with
    | some (0, l) => mkL m (l.map (·.1)) S
    | some (1, l) => mkL m (l.map (·.1)) S
    | some _ => none
    | none => match asL d S with
      | some l => mkL m l S
      | none => match asT d with
        | some l => mkL m l S
        | none => none
  | _ => none
/-- the datum by which an item is sorted -/
def pdk (S : Sto) (d : D) : PyData := (pd S 58 d).getD .none
def sortD (S : Sto) (l : List D) : List D := l.mergeSort (PySem.W.dataLe false (pdk S))
/-- alike, none of them None; tuples not empty, or no tuples -/
def sortable (ps : List PyData) : Bool :=
  (ps.all fun p => ps.all fun q => PySem.W.alike p q) && (ps.all fun p => !isNone p) &&
  ((ps.all fun p => match p with | .tuple (_ :: _) => true | _ => false) || ps.all fun p => match p with | .tuple _ => false | _ => true)
def itemsOf (d : D) (S : Sto) : Option (List D) := match asD d S with
  | some (0, l) => some (l.map (·.1))
  | some (1, l) => some (l.map (·.1))
  | some _ => none
  | none => asL d S
def pSorted (m : Bool) : PrN := fun ds S => match ds with
  | [d] => match itemsOf d S with
    | some l => match omap (pd S 58) l with
      | some ps => if sortable ps = true then mkL m (sortD S l) S else none
      | none => none
    | none => none
  | _ => none
section
variable {g : G} {N : List Str} {sc : Scope} {L : Nat} {Wx : WX} {X : Cx}
variable {μ : List Addr} {H : Hp} {S : Sto} {Q : VK}
theorem rep1 {d : D} {vs : List V} (r : RepL g H μ [d] vs) : ∃ v, vs = [v] ∧ Rep g H μ d v := by
  simp only [RepL] at r
  obtain ⟨v, y, rfl, h, rfl⟩ := r
  exact ⟨v, rfl, h⟩
theorem rep2 {d e : D} {vs : List V} (r : RepL g H μ [d, e] vs) : ∃ v u, vs = [v, u] ∧ Rep g H μ d v ∧ Rep g H μ e u := by
  simp only [RepL] at r
  obtain ⟨v, y, rfl, h, u, z, rfl, h2, rfl⟩ := r
  exact ⟨v, u, rfl, h, h2⟩
theorem c_len (C : CtxOk g N sc L Wx X) : CallR X (.builtin "len") (rPn g pLen) := CallR.pick fun xs H Q h => by
  obtain ⟨ds, S, μ, w, r, h⟩ := h
  unfold pLen at h
  split at h
  · rename_i d
    obtain ⟨v, hv', rr⟩ := rep1 r; subst hv'; replace r := rr
    split at h
    · rename_i l e
      obtain ⟨a, rfl, ⟨_, ks, h1, h2⟩ | ⟨z, _⟩⟩ := asD_rep w r e
      · refine ⟨fun xs H Q => ∃ a kvs, xs = [V.ref a] ∧ Rd H a (.dK kvs) ∧ Q (.int kvs.length) H, ?_, a, ks, rfl, h1, ?_⟩
        · intro pins s σ H xs us Q I r h
          obtain ⟨a, kvs, rfl, ha, q⟩ := h
          obtain ⟨u, rfl, ru⟩ := vals1 r
          cases ru
          exact d_len I ha fun t s' I' => ⟨.int kvs.length, H, I', ⟨t, rfl⟩, q⟩
        · have hl : l.length = ks.length := by
            clear h1 e h r
            induction l generalizing ks with
            | nil => simp only [RepK] at h2; subst h2; rfl
            | cons x l ih => simp only [RepK] at h2; obtain ⟨_, _, t, rfl, _, _, h2⟩ := h2; simp [ih t h2]
          rw [← hl]
          exact PostP.here h w (by simp [Rep])
      · cases z
    · exact h.elim
    · split at h
      · obtain ⟨hl, h⟩ := ite_none h
        simp only [Rep] at r
        subst r
        exact ⟨_, call_len, _, _, rfl, ⟨hl, rfl⟩, PostP.here h w (by simp [Rep])⟩
      · split at h
        · rename_i l e
          obtain ⟨p, vs, rfl, h1, q⟩ := asL_rep w r e
          exact ⟨_, call_len, _, _, rfl, .inl ⟨vs, .of h1, rfl⟩, by rw [← q.length]; exact PostP.here h w (by simp [Rep])⟩
        · split at h
          · rename_i l e
            obtain ⟨p, vs, rfl, h1, q⟩ := asT_rep r e
            exact ⟨_, call_len, _, _, rfl, .inr ⟨vs, by rw [C.K]; exact h1, rfl⟩, by rw [← q.length]; exact PostP.here h w (by simp [Rep])⟩
          · exact h.elim
  · exact h.elim
theorem c_abs (C : CtxOk g N sc L Wx X) : CallR X (.builtin "abs") (rPn g pAbs) := CallR.pick fun xs H Q h => by
  obtain ⟨ds, S, μ, w, r, h⟩ := h
  unfold pAbs at h
  split at h
  · obtain ⟨v, hv', rr⟩ := rep1 r; subst hv'; replace r := rr
    simp only [Rep] at r
    subst r
    exact ⟨_, call_abs, _, rfl, PostP.here h w (by simp [Rep])⟩
  · exact h.elim
theorem c_int (C : CtxOk g N sc L Wx X) : CallR X (.type "int") (rPn g pInt) := CallR.pick fun xs H Q h => by
  obtain ⟨ds, S, μ, w, r, h⟩ := h
  unfold pInt at h
  split at h
  · obtain ⟨v, hv', rr⟩ := rep1 r; subst hv'; replace r := rr
    simp only [Rep] at r
    subst r
    exact ⟨_, call_int1, .inl ⟨_, rfl, PostP.here h w (by simp [Rep])⟩⟩
  · obtain ⟨v, hv', rr⟩ := rep1 r; subst hv'; replace r := rr
    simp only [Rep] at r
    subst r
    exact ⟨_, call_int1, .inr ⟨_, rfl, PostP.here h w (by simp [Rep])⟩⟩
  · exact h.elim
theorem c_str (C : CtxOk g N sc L Wx X) : CallR X (.type "str") (rPn g pStr) := CallR.pick fun xs H Q h => by
  obtain ⟨ds, S, μ, w, r, h⟩ := h
  unfold pStr at h
  split at h
  · obtain ⟨hl, h⟩ := ite_none h
    obtain ⟨v, hv', rr⟩ := rep1 r; subst hv'; replace r := rr
    simp only [Rep] at r
    subst r
    exact ⟨_, call_str_int, _, rfl, hl, PostP.here h w (by simp [Rep, strI])⟩
  · exact h.elim
theorem intsOf_rep : ∀ {l : List D} {vs : List V} {ns : List Int}, RepL g H μ l vs → intsOf l = some ns → vs = ns.map V.int
  | [], vs, ns, r, e => by simp only [RepL] at r; simp [intsOf, omap] at e; subst e r; rfl
  | d :: l, vs, ns, r, e => by
    simp only [RepL] at r
    obtain ⟨v, y, rfl, h, t⟩ := r
    obtain ⟨i, ms, e1, e2, rfl⟩ := omap_cons e
    split at e1
    · cases e1
      simp only [Rep] at h
      rw [h, intsOf_rep t e2, List.map_cons]
    · cases e1
theorem foldl_max_ge : ∀ (r : List Int) (n : Int), n ≤ r.foldl max n ∧ ∀ y ∈ r, y ≤ r.foldl max n
  | [], n => by simp
  | a :: r, n => by
    obtain ⟨h1, h2⟩ := foldl_max_ge r (max n a)
    simp only [List.foldl_cons, List.mem_cons, forall_eq_or_imp]
    exact ⟨by omega, by omega, h2⟩
theorem foldl_max_mem : ∀ (r : List Int) (n : Int), r.foldl max n = n ∨ r.foldl max n ∈ r
  | [], n => by simp
  | a :: r, n => by
    simp only [List.foldl_cons, List.mem_cons]
    rcases foldl_max_mem r (max n a) with h | h
    · rcases Int.le_total n a with z | z
      · right; left; rw [h]; omega
      · left; rw [h]; omega
    · right; right; exact h
theorem foldl_min_le : ∀ (r : List Int) (n : Int), r.foldl min n ≤ n ∧ ∀ y ∈ r, r.foldl min n ≤ y
  | [], n => by simp
  | a :: r, n => by
    obtain ⟨h1, h2⟩ := foldl_min_le r (min n a)
    simp only [List.foldl_cons, List.mem_cons, forall_eq_or_imp]
    exact ⟨by omega, by omega, h2⟩
theorem foldl_min_mem : ∀ (r : List Int) (n : Int), r.foldl min n = n ∨ r.foldl min n ∈ r
  | [], n => by simp
  | a :: r, n => by
    simp only [List.foldl_cons, List.mem_cons]
    rcases foldl_min_mem r (min n a) with h | h
    · rcases Int.le_total n a with z | z
      · left; rw [h]; omega
      · right; left; rw [h]; omega
    · right; right; exact h
theorem maxI_spec {n : Int} {r : List Int} : maxI (n :: r) ∈ n :: r ∧ ∀ y ∈ n :: r, y ≤ maxI (n :: r) := by
  have h1 := foldl_max_ge r n
  refine ⟨?_, ?_⟩
  · rcases foldl_max_mem r n with h | h
    · rw [maxI, h]; exact List.mem_cons_self
    · exact List.mem_cons_of_mem _ h
  · intro y hy
    rcases List.mem_cons.mp hy with rfl | hy
    · exact h1.1
    · exact h1.2 y hy
theorem minI_spec {n : Int} {r : List Int} : minI (n :: r) ∈ n :: r ∧ ∀ y ∈ n :: r, minI (n :: r) ≤ y := by
  have h1 := foldl_min_le r n
  refine ⟨?_, ?_⟩
  · rcases foldl_min_mem r n with h | h
    · rw [minI, h]; exact List.mem_cons_self
    · exact List.mem_cons_of_mem _ h
  · intro y hy
    rcases List.mem_cons.mp hy with rfl | hy
    · exact h1.1
    · exact h1.2 y hy
theorem c_max (C : CtxOk g N sc L Wx X) : CallR X (.builtin "max") (rPn g pMax) := CallR.pick fun xs H Q h => by
  obtain ⟨ds, S, μ, w, r, h⟩ := h
  unfold pMax at h
  split at h
  · rename_i i j
    obtain ⟨v, u, rfl, r1, r2⟩ := rep2 r
    simp only [Rep] at r1 r2
    subst r1 r2
    refine ⟨_, call_max2 C.calm, _, _, rfl, ?_⟩
    refine PostP.here h w ?_
    simp only [Rep, V.int.injEq]
    split <;> omega
  · split at h
    · rename_i d _ l e
      split at h
      · rename_i n r' e2
        obtain ⟨v, hv', rr⟩ := rep1 r; subst hv'; replace r := rr
        obtain ⟨p, vs, rfl, h1, q⟩ := asL_rep w r e
        have hv := intsOf_rep q e2
        subst hv
        refine ⟨_, cr_max C.calm, p, n :: r', rfl, .of h1, by simp, fun m hm hle => ?_⟩
        obtain ⟨m1, m2⟩ := maxI_spec (n := n) (r := r')
        have em : m = maxI (n :: r') := Int.le_antisymm (m2 m hm) (hle _ m1)
        rw [em]
        exact PostP.here h w (by simp [Rep])
      · exact h.elim
    · exact h.elim
  · exact h.elim
theorem c_min (C : CtxOk g N sc L Wx X) : CallR X (.builtin "min") (rPn g pMin) := CallR.pick fun xs H Q h => by
  obtain ⟨ds, S, μ, w, r, h⟩ := h
  unfold pMin at h
  split at h
  · rename_i i j
    obtain ⟨v, u, rfl, r1, r2⟩ := rep2 r
    simp only [Rep] at r1 r2
    subst r1 r2
    refine ⟨_, call_min2 C.calm, _, _, rfl, ?_⟩
    refine PostP.here h w ?_
    simp only [Rep, V.int.injEq]
    split <;> omega
  · split at h
    · rename_i d _ l e
      split at h
      · rename_i n r' e2
        obtain ⟨v, hv', rr⟩ := rep1 r; subst hv'; replace r := rr
        obtain ⟨p, vs, rfl, h1, q⟩ := asL_rep w r e
        have hv := intsOf_rep q e2
        subst hv
        refine ⟨_, cr_min C.calm, p, n :: r', rfl, .of h1, by simp, fun m hm hle => ?_⟩
        obtain ⟨m1, m2⟩ := minI_spec (n := n) (r := r')
        have em : m = minI (n :: r') := Int.le_antisymm (hle _ m1) (m2 m hm)
        rw [em]
        exact PostP.here h w (by simp [Rep])
      · exact h.elim
    · exact h.elim
  · exact h.elim
theorem c_sum (C : CtxOk g N sc L Wx X) : CallR X (.builtin "sum") (rPn g pSum) := CallR.pick fun xs H Q h => by
  obtain ⟨ds, S, μ, w, r, h⟩ := h
  unfold pSum at h
  split at h
  · split at h
    · rename_i d _ l e
      split at h
      · rename_i ns e2
        obtain ⟨v, hv', rr⟩ := rep1 r; subst hv'; replace r := rr
        obtain ⟨p, vs, rfl, h1, q⟩ := asL_rep w r e
        have hv := intsOf_rep q e2
        subst hv
        exact ⟨_, cr_sum C.calm, p, ns, rfl, .of h1, PostP.here h w (by simp [Rep])⟩
      · exact h.elim
    · exact h.elim
  · exact h.elim
theorem c_tuple (C : CtxOk g N sc L Wx X) : CallR X (.type "tuple") (rPn g pTuple) := CallR.pick fun xs H Q h => by
  obtain ⟨ds, S, μ, w, r, h⟩ := h
  unfold pTuple at h
  split at h
  · obtain ⟨v, hv', rr⟩ := rep1 r; subst hv'; replace r := rr
    have r0 := r
    simp only [Rep] at r
    obtain ⟨p, vs, rfl, _, e, q⟩ := r
    exact ⟨_, call_tupleT, p, vs, rfl, .of e, PostP.here h w r0⟩
  · split at h
    · rename_i d _ _ l e
      obtain ⟨v, hv', rr⟩ := rep1 r; subst hv'; replace r := rr
      obtain ⟨p, vs, rfl, h1, q⟩ := asL_rep w r e
      exact ⟨_, call_tuple_of, p, vs, rfl, .inl ⟨.of h1, PostP.tup h w q⟩⟩
    · exact h.elim
  · exact h.elim
theorem keysK : ∀ {l : List (D × D)} {ks : List (Key × V)}, RepK g H μ l ks → RepL g H μ (l.map (·.1)) (ks.map fun kv => kV kv.1)
  | [], ks, r => by simp only [RepK] at r; subst r; exact .nil
  | p :: l, ks, r => by
    simp only [RepK] at r
    obtain ⟨k, v, t, rfl, e, _, h⟩ := r
    exact .cons (show Rep g H μ p.1 (kV k) by rw [e]; exact rep_kD.mpr rfl) (keysK h)
theorem repL_kV : ∀ {ks : List Key}, RepL g H μ (ks.map kD) (ks.map kV)
  | [] => .nil
  | k :: ks => .cons (rep_kD.mpr rfl) repL_kV
theorem keysT (w : W g μ H S) : ∀ {l : List (D × D)} {ks : List (List Key × V)} {bs : List Addr}, RepT g H μ l ks → IsKeys H ks bs → RepL g H μ (l.map (·.1)) (bs.map V.ref)
  | [], ks, bs, r, h => by simp only [RepT] at r; subst r; cases h; exact .nil
  | p :: l, ks, bs, r, h => by
    simp only [RepT] at r
    obtain ⟨k, v, t, rfl, e, _, q⟩ := r
    cases h with
    | cons h1 h2 =>
      refine .cons ?_ (keysT w q h2)
      show Rep g H μ p.1 _
      rw [e]
      simp only [tD, Rep]
      refine ⟨_, _, rfl, fun z => ?_, h1, repL_kV⟩
      obtain ⟨u, hu, _, _, n, _⟩ := w.there z
      rw [h1] at hu; cases hu
      exact n _ rfl
theorem c_list (m : Bool) (C : CtxOk g N sc L Wx X) : CallR X (.type "list") (rPn g (pList m)) := CallR.pick fun xs H Q h => by
  obtain ⟨ds, S, μ, w, r, h⟩ := h
  unfold pList at h
  split at h
  · obtain ⟨v, hv', rr⟩ := rep1 r; subst hv'; replace r := rr
    split at h
    · rename_i d _ l e
      obtain ⟨a, rfl, ⟨_, ks, h1, h2⟩ | ⟨z, _⟩⟩ := asD_rep w r e
      · exact ⟨_, call_listD C.calm, a, ks, rfl, h1, PostP.mk h w (keysK h2)⟩
      · cases z
    · rename_i d _ l e
      obtain ⟨a, rfl, ⟨z, _⟩ | ⟨_, ks, h1, h2⟩⟩ := asD_rep w r e
      · cases z
      · exact ⟨_, call_list_dT C.calm, a, ks, rfl, h1, fun p bs hp hb => PostP.mk h w (keysT w h2 hb) p hp⟩
    · exact h.elim
    · split at h
      · rename_i l e
        obtain ⟨p, vs, rfl, h1, q⟩ := asL_rep w r e
        exact ⟨_, call_list_of, p, vs, rfl, .inl (.of h1), PostP.mk h w q⟩
      · split at h
        · rename_i l e
          obtain ⟨p, vs, rfl, h1, q⟩ := asT_rep r e
          exact ⟨_, call_list_of, p, vs, rfl, .inr (by rw [C.K]; exact h1), PostP.mk h w q⟩
        · exact h.elim
  · exact h.elim
/-! sorted -/
def RD (g : G) (H : Hp) (μ : List Addr) (v : Value) (d : D) : Prop := ∃ x, RelV x v ∧ Rep g H μ d x
theorem each_of : ∀ {vs : List V} {us : List Value} {ds : List D}, Vals vs us → RepL g H μ ds vs → PySem.W.EachIs (RD g H μ) us ds
  | _, _, [], .nil, r => .nil
  | _, _, d :: ds, .nil, r => by simp only [RepL] at r; obtain ⟨_, _, e, _⟩ := r; cases e
  | _, _, [], .cons _ _, r => by simp only [RepL] at r; cases r
  | _, _, d :: ds, .cons h t, r => by
    simp only [RepL] at r
    obtain ⟨v, y, e, q, z⟩ := r
    cases e
    exact .cons ⟨_, h, q⟩ (each_of t z)
theorem of_each : ∀ {us : List Value} {ds : List D}, PySem.W.EachIs (RD g H μ) us ds → ∃ vs, Vals vs us ∧ RepL g H μ ds vs
  | _, _, .nil => ⟨[], .nil, .nil⟩
  | _, _, .cons ⟨x, h, q⟩ t => by
    obtain ⟨vs, h1, h2⟩ := of_each t
    exact ⟨x :: vs, .cons h h1, .cons q h2⟩
theorem pdk_map : ∀ {l : List D} {ps : List PyData}, omap (pd S 58) l = some ps → l.map (pdk S) = ps
  | [], ps, e => by simp [omap] at e; subst e; rfl
  | d :: l, ps, e => by
    obtain ⟨p, q, e1, e2, rfl⟩ := omap_cons e
    rw [List.map_cons, pdk_map e2, pdk, e1]; rfl
theorem pdk_mem : ∀ {l : List D} {ps : List PyData}, omap (pd S 58) l = some ps → ∀ d ∈ l, pd S 58 d = some (pdk S d)
  | [], ps, e, d, hd => by cases hd
  | x :: l, ps, e, d, hd => by
    obtain ⟨p, q, e1, e2, rfl⟩ := omap_cons e
    rcases List.mem_cons.mp hd with rfl | hd
    · rw [pdk, e1]; rfl
    · exact pdk_mem e2 d hd
theorem each_reads {pins : List (Addr × Obj)} {s : Shared} {σ : St} (C : CtxOk g N sc L Wx X) (I : Inv X pins σ H s) (w : W g μ H S) : ∀ {us : List Value} {ds : List D}, PySem.W.EachIs (RD g H μ) us ds → (∀ d ∈ ds, pd S 58 d = some (pdk S d)) → PySem.W.EachIs (fun v d => ∃ as, Reads s.heap v (pdk S d) as ∧ (pdk S d).plain = true) us ds
  | _, _, .nil, _ => .nil
  | _, _, .cons (b := d) ⟨x, h, q⟩ t, hp => by
    refine .cons ?_ (each_reads C I w t fun d hd => hp d (List.mem_cons_of_mem _ hd))
    obtain ⟨d1, _, z⟩ := pd_rep w 58 _ x _ q (hp _ List.mem_cons_self)
    rw [← C.K] at d1
    obtain ⟨as, r⟩ := Dp.reads I _ x _ d1 h
    exact ⟨as, r, z⟩
theorem sortable_of {ps : List PyData} (h : sortable ps = true) : PySem.W.AllAlike ps ∧ PySem.W.Sortable ps := by
  simp only [sortable, Bool.and_eq_true, Bool.or_eq_true, List.all_eq_true] at h
  obtain ⟨⟨h1, h2⟩, h3⟩ := h
  refine ⟨fun d hd d' hd' => h1 d hd d' hd', ?_⟩
  rcases h3 with h3 | h3
  · refine .inl fun d hd => ?_
    have := h3 d hd
    split at this
    · exact ⟨_, _, rfl⟩
    · cases this
  · refine .inr fun d hd => ⟨isNone_ne (by simpa using h2 d hd), fun xs z => ?_⟩
    have := h3 d hd
    rw [z] at this
    cases this
theorem RepL.mem : ∀ {l : List D} {vs : List V}, RepL g H μ l vs → ∀ d ∈ l, ∃ v, Rep g H μ d v
  | [], _, _, d, hd => by cases hd
  | x :: l, vs, r, d, hd => by
    simp only [RepL] at r
    obtain ⟨v, y, rfl, h, t⟩ := r
    rcases List.mem_cons.mp hd with rfl | hd
    · exact ⟨v, h⟩
    · exact RepL.mem t d hd
mutual
theorem reads_out {h : Heap} {x : Addr} (hn : h.get? x = none) : ∀ (d : PyData) (v : Value) (as : List Addr), d.plain = true → Reads h v d as → x ∉ as
  | .none, _, _, _, r => by cases r; simp
  | .bool _, _, _, _, r => by cases r; simp
  | .int _, _, _, _, r => by cases r; simp
  | .str _, _, _, _, r => by cases r; simp
  | .list xs, _, _, p, r => by
    cases r with
    | list h1 h2 h3 h4 =>
      intro z
      rcases List.mem_cons.mp z with z | z
      · subst z; rw [hn] at h1; cases h1
      · exact readsAll_out hn xs _ _ (by simpa [PyData.plain] using p) h4 z
  | .tuple xs, _, _, p, r => by
    cases r with
    | tuple h1 h2 h3 h4 => exact readsAll_out hn xs _ _ (by simpa [PyData.plain] using p) h4
  | .dict kvs, _, _, p, r => by simp [PyData.plain] at p
theorem readsAll_out {h : Heap} {x : Addr} (hn : h.get? x = none) : ∀ (ds : List PyData) (vs : List Value) (as : List Addr), PyData.plainAll ds = true → ReadsAll h vs ds as → x ∉ as
  | [], _, _, _, r => by cases r; simp
  | d :: ds, _, _, p, r => by
    simp only [PyData.plainAll, Bool.and_eq_true] at p
    cases r with
    | cons h1 h2 =>
      intro z
      rcases List.mem_append.mp z with z | z
      · exact reads_out hn d _ _ p.1 h1 z
      · exact readsAll_out hn ds _ _ p.2 h2 z
end
theorem get_size (h : Heap) : h.get? h.objs.size = none := by
  cases e : h.get? h.objs.size with
  | none => rfl
  | some o => exact absurd (Heap.lt_size e) (Nat.lt_irrefl _)
/-- the last steps of sorted over something else than a list: its items stand in acc -/
theorem sort_tail {m : Bool} {pins : List (Addr × Obj)} {s : Shared} {σ : St} {l : List D} {ps : List PyData} {vs : List V} {h' : Heap} {tk : Nat} {acc : Array Value} (C : CtxOk g N sc L Wx X) (w : W g μ H S) (e2 : omap (pd S 58) l = some ps) (hs : sortable ps = true)
    (q : RepL g H μ l vs) (rv : Vals vs acc.toList) (hz : vs.length ≤ sizeLine) (I1 : Inv X pins σ H { s with heap := h', toks := tk }) (h : PostP g μ H (mkL m (sortD S l) S) Q) :
    wpAny (model X.prog X.w) X.A.in1 (do
      let r ← newList acc.toList
      let _ ← holding [r] (call (.builtin "list.sort") [r] [])
      ret r) (fun fin s' => ∃ v, fin = Fin.done (Flow.ret v) ∧ EP X pins σ Q v s') X.xe { s with heap := h', toks := tk } := by
  obtain ⟨a1, a2⟩ := sortable_of hs
  rw [← pdk_map e2] at a1 a2
  have hal : acc.toList.length ≤ sizeLine := by rw [← rv.length]; exact hz
  refine wpAny_bind (wpAny_newList ?_ hal)
  have hoL : (h'.push (seqObj "list" acc.toList.toArray 0)).get? h'.objs.size = some (seqObj "list" acc.toList.toArray 0) := Heap.get?_push_size _ rfl
  have hk : ∀ b u, h'.get? b = some u → (h'.push (seqObj "list" acc.toList.toArray 0)).get? b = some u := fun b u e => Heap.get?_push_of_some _ e
  show wpAny _ _ _ _ _ { s with heap := h'.push (seqObj "list" acc.toList.toArray 0), toks := tk }
  have ea := each_of rv q
  have er : PySem.W.EachIs (fun v d => ∃ as, Reads (h'.push (seqObj "list" acc.toList.toArray 0)) v (pdk S d) as ∧ h'.objs.size ∉ as) acc.toList l :=
    (each_reads C I1 w ea (pdk_mem e2)).mono fun v d ⟨as, r, z⟩ => ⟨as, PyProof.Rows.Reads.keeps hk r, reads_out (get_size h') _ _ _ z r⟩
  refine wpAny_bind (wpAny_holding (PySem.W.list_sort_data (bs := l) (enc := pdk S) (R := RD g H μ) (s := { s with heap := h'.push (seqObj "list" acc.toList.toArray 0), toks := tk }) hoL ea er a1 a2 (by rw [q.length]; exact hz) (fun b hb => ?_) fun out hl ho => ?_))
  · obtain ⟨v, rb⟩ := q.mem b hb
    obtain ⟨_, n, _⟩ := pd_rep w 58 b v _ rb (pdk_mem e2 b hb)
    have := C.units
    show X.A.units + 1 + 1 + _ < _
    omega
  · obtain ⟨vs', h3, h4⟩ := of_each ho
    obtain ⟨e', he'⟩ := PyProof.Rows.sortedHeap_at (vs := acc.toList) (out := out.toArray) hoL
    have hlen : vs'.length ≤ sizeLine := by
      rw [← h4.length, List.length_mergeSort, q.length]; exact hz
    refine wpAny_pure ⟨_, rfl, .ref h'.objs.size, upd H h'.objs.size (.lst vs'), I1.laid (t' := tk) (fun b u e => ?_) (Nat.le_refl _)
      (show ObjOk X.prog X.w _ _ _ (.lst vs') from ⟨hlen, out, e', h3, he'⟩), rfl, PostP.mk h w h4 _ (I1.hok.fresh (Nat.le_refl _))⟩
    have hb : b < h'.objs.size := Heap.lt_size e
    rw [PyProof.Rows.sortedHeap_old (Nat.ne_of_lt hb) (by rw [size_push']; exact Nat.lt_succ_of_lt hb)]
    exact Heap.get?_push_of_some _ e
theorem c_sorted (m : Bool) (C : CtxOk g N sc L Wx X) : CallR X (.builtin "sorted") (rPn g (pSorted m)) := by
  intro pins s σ H xs us Q I rv h
  obtain ⟨ds, S, μ, w, r, h⟩ := h
  unfold pSorted at h
  split at h
  · obtain ⟨v, hv', rr⟩ := rep1 r; subst hv'; replace r := rr
    obtain ⟨u, hu', ru⟩ := vals1 rv; subst hu'
    split at h
    · rename_i d l e
      split at h
      · rename_i ps e2
        obtain ⟨hs, h⟩ := ite_none h
        unfold itemsOf at e
        split at e
        · rename_i l0 e0
          cases e
          obtain ⟨a, hv2, ⟨_, ks, h1, h2⟩ | ⟨z, _⟩⟩ := asD_rep w r e0
          · subst hv2
            cases ru
            obtain ⟨z, lo, vs, rel, dd⟩ := dk_rd I.hok h1
            obtain ⟨ep, hat⟩ := dd.dictAt
            have h16 : vs.length ≤ sizeLine := by rw [← rel.length]; exact z
            refine Calls.call_function_entry PyProof.Rows.kind_sorted PyProof.Rows.plain_sorted PyProof.Rows.entry_sorted (PyProof.Rows.args_sorted1 _) ?_
            unfold Builtin.«sorted»
            refine wpAny_bind (m := PySem.checkCount "sorted" 1 1 _) (wpAny_pure ?_)
            refine wpAny_bind (PySem.W.kdu_collect (A := X.A.in1) (PySem.W.kdl_dict (knd := mixKind X.prog X.w) (kvs := vs) (ep := ep) lo) (I.ok.hd C.calm) hat h16 fun h' tk acc hk hacc => ?_)
            have hkv : Vals (vs.map fun p => kV p.1) acc.toList := keys_at (by rw [Array.length_toList, hacc.1]) fun j v e => by
              obtain ⟨k, x, e1, e2⟩ := hacc.2 j v (by rw [← Array.getElem?_toList]; exact e)
              exact ⟨k, x, e1, e2⟩
            have em : (vs.map fun p => kV p.1) = ks.map fun kv => kV kv.1 := by
              have e3 : (vs.map fun p => kV p.1) = (vs.map (·.1)).map kV := by rw [List.map_map]; rfl
              have e4 : (ks.map fun kv => kV kv.1) = (ks.map (·.1)).map kV := by rw [List.map_map]; rfl
              rw [e3, e4, rel.keys]
            rw [em] at hkv
            have I1 : Inv X pins σ H { s with heap := h', toks := tk } := I.kept hk
            exact sort_tail C w e2 hs (keysK h2) hkv (by rw [List.length_map]; exact z) I1 h
          · cases z
        · rename_i l0 e0
          cases e
          obtain ⟨a, hv2, ⟨z, _⟩ | ⟨_, kts, h1, h2⟩⟩ := asD_rep w r e0
          · cases z
          subst hv2
          cases ru
          obtain ⟨z, lo, ks, pr, o, es, ep, ho, hx, hdt, he, hn⟩ := (show ObjOk X.prog X.w H s.heap a (.dT kts) from h1.ok I.hok)
          have l1 : es.size = ks.length := size_of_entries he
          have l2 : kts.length = ks.length := Paired.length pr
          refine Calls.call_function_entry PyProof.Rows.kind_sorted PyProof.Rows.plain_sorted PyProof.Rows.entry_sorted (PyProof.Rows.args_sorted1 _) ?_
          unfold Builtin.«sorted»
          refine wpAny_bind (m := PySem.checkCount "sorted" 1 1 _) (wpAny_pure ?_)
          refine wpAny_bind (PySem.W.kdu_collect (A := X.A.in1) (kdl_raw lo hx hdt) (I.ok.hd C.calm) ho (by omega) fun h' tk acc' hk it => ?_)
          have ea : acc'.toList = ks.map fun x => Value.ref x.2.1 := by
            have hl : acc'.toList.length = ks.length := by rw [Array.length_toList, it.1]; exact l1
            apply List.ext_getElem?
            intro j
            rw [List.getElem?_map]
            cases hj : acc'.toList[j]? with
            | none =>
              have h1 := List.getElem?_eq_none_iff.mp hj
              rw [List.getElem?_eq_none (by omega)]
              all_goals rfl
            | some v =>
              obtain ⟨en, hen, hv⟩ := it.2 j v (by rw [← Array.getElem?_toList]; exact hj)
              have qe := entry_at he j
              rw [hen] at qe
              cases hb : ks[j]? with
              | none =>
                rw [hb] at qe
                exact nomatch (show some en = none from qe)
              | some b =>
                rw [hb] at qe
                have e2 : en = entryOfKey (tupleKind (mixKind X.prog X.w)) b := Option.some.inj qe
                rw [hv, e2]
                all_goals rfl
          have eb : acc'.toList = (ks.map fun x => x.2.1).map Value.ref := by rw [ea, List.map_map]; all_goals rfl
          have rv : Vals ((ks.map fun x => x.2.1).map V.ref) acc'.toList := by rw [eb]; exact vals_refs _
          have hz : ((ks.map fun x => x.2.1).map V.ref).length ≤ sizeLine := by rw [List.length_map, List.length_map]; omega
          have I1 : Inv X pins σ H { s with heap := h', toks := tk } := I.kept hk
          exact sort_tail C w e2 hs (keysT w h2 (isKeys_of pr)) rv hz I1 h
        · cases e
        · obtain ⟨p, vs, hv2, h1, q⟩ := asL_rep w r e
          subst hv2
          cases ru
          obtain ⟨its, rv2, pl, hz⟩ := I.list (SqL.of h1)
          obtain ⟨a1, a2⟩ := sortable_of hs
          rw [← pdk_map e2] at a1 a2
          have ea := each_of rv2 q
          refine PySem.W.sorted_data (bs := l) (enc := pdk S) (R := RD g H μ) pl.isList ea ((each_reads C I w ea (pdk_mem e2)).mono fun _ _ ⟨as, r, _⟩ => ⟨as, r⟩) a1 a2 (by rw [q.length]; exact hz) (fun b hb => ?_) fun out hl ho => ?_
          · obtain ⟨v, rb⟩ := q.mem b hb
            obtain ⟨_, n, _⟩ := pd_rep w 58 b v _ rb (pdk_mem e2 b hb)
            have := C.units
            omega
          · obtain ⟨vs', h3, h4⟩ := of_each ho
            obtain ⟨ep, he'⟩ := PyProof.Rows.sortedAll_at s.heap its out.toArray
            have hlen : vs'.length ≤ sizeLine := by
              rw [← h4.length, List.length_mergeSort, q.length]; exact hz
            exact ⟨.ref _, upd H (s.heap.objs.size + 1) (.lst vs'), I.laid (t' := s.toks) (fun _ _ => PyProof.Rows.sortedAll_old) (Nat.le_succ _) ⟨hlen, out, ep, h3, he'⟩, rfl, PostP.mk h w h4 _ (I.hok.fresh (Nat.le_succ _))⟩
      · exact h.elim
    · exact h.elim
  · exact h.elim
end
end Gp

set_option Elab.async false
set_option linter.all false
set_option maxRecDepth 100000
/-! Gp9: statements -/
namespace Gp
open PySem PySem.Spec L2
open PyProof.Rows hiding St

def tGS (g : G) (Wx : WX) (m : GS) : TS := fun D σ H => ∃ ρ S μ, EnvOk g H μ ρ σ ∧ W g μ H S ∧ PostS g Wx μ H (m ρ S) D
structure CtxS (g : G) (N : List Str) (sc : Scope) (L : Nat) (Wx : WX) (X : Cx) : Prop extends CtxOk g N sc L Wx X where
  fn : ∀ x, X.fn x = true
  stk : X.stack = X.env :: X.outer
  frm : X.env.frame = some X.env.locals
def RealS (g : G) (N : List Str) (sc : Scope) (L : Nat) (st : Stmt) (m : GS) : Prop := ∀ Wx X, CtxS g N sc L Wx X → PS X st (tGS g Wx m)
def RealSs (g : G) (N : List Str) (sc : Scope) (L : Nat) (st : List Stmt) (m : GS) : Prop := ∀ Wx X, CtxS g N sc L Wx X → PSs X st (tGS g Wx m)
theorem _root_.L2.PS.weak {X : Cx} {e : Stmt} {t t' : TS} (h : PS X e t) (k : ∀ D σ H, t' D σ H → t D σ H) : PS X e t' := ⟨fun pins s σ H D I q => h.run pins s σ H D I (k D σ H q)⟩
theorem _root_.L2.PSs.weak {X : Cx} {e : List Stmt} {t t' : TS} (h : PSs X e t) (k : ∀ D σ H, t' D σ H → t D σ H) : PSs X e t' := ⟨fun pins s σ H D I q => h.run pins s σ H D I (k D σ H q)⟩
section
variable {g : G} {μ μ' : List Addr} {H H' : Hp} {S : Sto} {ρ : Ev} {σ : St} {Wx : WX} {Ed : Ends}
theorem PostS.seq {r : RS} {f : Ev → Sto → RS} {K : St → Hp → Prop} (h : PostS g Wx μ H (r.thn f) Ed)
    (k : ∀ ρ1 S1 σ1 H1 μ1, Grow μ H μ1 H1 → W g μ1 H1 S1 → EnvOk g H1 μ1 ρ1 σ1 → PostS g Wx μ1 H1 (f ρ1 S1) Ed → K σ1 H1) : PostS g Wx μ H r { Ed with nx := K } := by
  cases r with
  | nx ρ1 S1 => exact fun σ1 H1 μ1 g1 w1 e1 => k ρ1 S1 σ1 H1 μ1 g1 w1 e1 (PostS.later (r := f ρ1 S1) h g1)
  | rt ρ S => exact h
  | bk ρ S => exact h
  | ct ρ S => exact h
  | exc c ρ S => exact h
  | bad => exact h
end
def sNil : GS := fun ρ S => .nx ρ S
def sSeq (a b : GS) : GS := fun ρ S => (a ρ S).thn b
def sExpr (a : GE) : GS := fun ρ S => (a ρ S).thn ρ fun _ S1 => .nx ρ S1
def sRet (a : GE) : GS := fun ρ S => (a ρ S).thn ρ fun d S1 => .rt d S1
def sRetN : GS := fun _ S => .rt .non S
def sBreak : GS := fun ρ S => .bk ρ S
def sCont : GS := fun ρ S => .ct ρ S
def sIf (c : GE) (a b : GS) : GS := fun ρ S => (c ρ S).thn ρ fun d S1 => match d with
  | .bl true => a ρ S1
  | .bl false => b ρ S1
  | _ => .bad
/-- targets -/
abbrev GT := D → Ev → Sto → RS
abbrev GTs := List D → Ev → Sto → RS
def tName (i : Nat) : GT := fun d ρ S => .nx (ρ.set i (some d)) S
def tsNil : GTs := fun ds ρ S => match ds with
  | [] => .nx ρ S
  | _ => .bad
def tsCons (t : GT) (u : GTs) : GTs := fun ds ρ S => match ds with
  | [] => .bad
  | d :: r => (t d ρ S).thn fun ρ1 S1 => u r ρ1 S1
def tTupl (n : Nat) (t : GTs) : GT := fun d ρ S => match asT d with
  | some l => if l.length = n then t l ρ S else .bad
  | none => .bad
/-- a store to a place, an attribute -/
abbrev PrS := D → D → D → Sto → Option Sto
def tSub (p : PrS) (o i : GE) : GT := fun d ρ S => (o ρ S).thn ρ fun x S1 => (i ρ S1).thn ρ fun y S2 => match p x y d S2 with
  | some S3 => .nx ρ S3
  | none => .bad
def sAsg (a : GE) (t : GT) : GS := fun ρ S => (a ρ S).thn ρ fun d S1 => t d ρ S1
def setL (l : List D) (i : Int) (d : D) : Option (List D) := (ixN l.length i).map fun j => l.set j d
def pSet : PrS := fun x y d S => match x with
  | .ref n => match S[n]? with
    | some (.lst l) => match y with
      | .int i => (setL l i d).map fun l' => S.set n (.lst l')
      | _ => none
    | some (.dict k false l) => if keyOk k y = true ∧ l.length < sizeLine then some (S.set n (.dict k false (dput l y d))) else none
    | _ => none
  | _ => none
def setA (cl : List Str) (f : Str) (x d : D) (S : Sto) : Option Sto := match x with
  | .ref n => match S[n]? with
    | some (.obj c fs) => if c ∈ cl ∧ fs.length < 1000 then some (S.set n (.obj c (putD f d fs))) else none
    | _ => none
  | _ => none
def sAttr (cl : List Str) (f : Str) (v o : GE) : GS := fun ρ S => (v ρ S).thn ρ fun d S1 => (o ρ S1).thn ρ fun x S2 => match setA cl f x d S2 with
  | some S3 => .nx ρ S3
  | none => .bad
def sRaise (c : Str) : GS := fun ρ S => .exc c ρ S
def RealG (g : G) (N : List Str) (sc : Scope) (L : Nat) (fk : Str → Bool) (tg : Expr) (t : GT) : Prop := ∀ Wx X, CtxOk g N sc L Wx X → (∀ x, fk x = true → X.fn x = true) → PG X tg (fun v σ H Q => ∃ d ρ S μ Ed, EnvOk g H μ ρ σ ∧ W g μ H S ∧ Rep g H μ d v ∧ PostS g Wx μ H (t d ρ S) Ed ∧ ∀ σ' H', Ed.nx σ' H' → Q σ' H')
def RealGs (g : G) (N : List Str) (sc : Scope) (L : Nat) (fk : Str → Bool) (tg : List Expr) (t : GTs) : Prop := ∀ Wx X, CtxOk g N sc L Wx X → (∀ x, fk x = true → X.fn x = true) → PGs X tg (fun v σ H Q => ∃ d ρ S μ Ed, EnvOk g H μ ρ σ ∧ W g μ H S ∧ RepL g H μ d v ∧ PostS g Wx μ H (t d ρ S) Ed ∧ ∀ σ' H', Ed.nx σ' H' → Q σ' H')
theorem _root_.L2.PG.weak {X : Cx} {e : Expr} {t t' : TG} (h : PG X e t) (k : ∀ v σ H Q, t' v σ H Q → t v σ H Q) : PG X e t' := ⟨fun pins s σ H v u Q I r q => h.run pins s σ H v u Q I r (k v σ H Q q)⟩
theorem _root_.L2.PGs.weak {X : Cx} {e : List Expr} {t t' : TGs} (h : PGs X e t) (k : ∀ v σ H Q, t' v σ H Q → t v σ H Q) : PGs X e t' := ⟨fun pins s σ H v u Q I r q => h.run pins s σ H v u Q I r (k v σ H Q q)⟩
section
variable {g : G} {N : List Str} {sc : Scope} {L : Nat} {a b c e : Expr} {ma mb mc m : GE} {pos p pos' : Pos} {st : Stmt} {rest : List Stmt} {ms mr : GS} {fk : Str → Bool}
variable {μ : List Addr} {H : Hp} {S : Sto}
theorem rs_nil : RealSs g N sc L [] sNil := fun Wx X C => pss_nil.weak fun D σ H ⟨ρ, S, μ, he, hw, h⟩ => h σ H μ (.refl _ _) hw he
theorem rs_cons (h1 : RealS g N sc L st ms) (h2 : RealSs g N sc L rest mr) : RealSs g N sc L (st :: rest) (sSeq ms mr) := by
  intro Wx X C
  refine (pss_cons (h1 Wx X C) (h2 Wx X C)).weak ?_
  rintro D σ H ⟨ρ, S, μ, he, hw, h⟩
  exact ⟨ρ, S, μ, he, hw, h.seq fun ρ1 S1 σ1 H1 μ1 g1 w1 e1 h1 => ⟨ρ1, S1, μ1, e1, w1, h1⟩⟩
theorem rs_one (h1 : RealS g N sc L st ms) : RealSs g N sc L [st] ms := fun Wx X C => pss_one (h1 Wx X C)
theorem rs_pass : RealS g N sc L (.Pass pos) sNil := fun Wx X C => ps_pass.weak fun D σ H ⟨ρ, S, μ, he, hw, h⟩ => h σ H μ (.refl _ _) hw he
theorem rs_break : RealS g N sc L (.Break pos) sBreak := fun Wx X C => ps_break.weak fun D σ H ⟨ρ, S, μ, he, hw, h⟩ => h σ H μ (.refl _ _) hw he
theorem rs_cont : RealS g N sc L (.Continue pos) sCont := fun Wx X C => ps_continue.weak fun D σ H ⟨ρ, S, μ, he, hw, h⟩ => h σ H μ (.refl _ _) hw he
theorem rs_expr (ha : Real g N sc L a ma) (hs : ∀ env : Env, swapsWith a none pos.line env = pure false) : RealS g N sc L (.Expr a pos) (sExpr ma) := by
  intro Wx X C
  refine (ps_expr (ha Wx X C.toCtxOk) (hs X.env)).weak ?_
  rintro D σ H ⟨ρ, S, μ, he, hw, h⟩
  exact ⟨ρ, S, μ, he, hw, h.ex he fun d S1 v H1 μ1 g1 w1 r1 h1 => h1 σ H1 μ1 (.refl _ _) w1 (he.mono g1)⟩
theorem rs_ret (ha : Real g N sc L a ma) : RealS g N sc L (.Return (some a) pos) (sRet ma) := by
  intro Wx X C
  refine (ps_ret (ha Wx X C.toCtxOk)).weak ?_
  rintro D σ H ⟨ρ, S, μ, he, hw, h⟩
  exact ⟨ρ, S, μ, he, hw, h.ex he fun d S1 v H1 μ1 g1 w1 r1 h1 => h1 v H1 μ1 (.refl _ _) w1 r1⟩
theorem rs_retN : RealS g N sc L (.Return none pos) sRetN := fun Wx X C => ps_retN.weak fun D σ H ⟨ρ, S, μ, he, hw, h⟩ => h .non H μ (.refl _ _) hw (by simp [Rep])
theorem rs_if {sa sb : List Stmt} (hc : RealT g N sc L c mc) (ha : RealSs g N sc L sa ms) (hb : RealSs g N sc L sb mr) : RealS g N sc L (.If c sa sb pos) (sIf mc ms mr) := by
  intro Wx X C
  refine (ps_if (hc Wx X C.toCtxOk) (ha Wx X C) (hb Wx X C)).weak ?_
  rintro D σ H ⟨ρ, S, μ, he, hw, h⟩
  refine ⟨ρ, S, μ, he, hw, h.ex he fun d S1 v H1 μ1 g1 w1 r1 h1 => ?_⟩
  split at h1
  · exact ⟨true, by simpa only [Rep] using r1, by show (if true = true then _ else _); rw [if_pos rfl]; exact ⟨ρ, S1, μ1, he.mono g1, w1, h1⟩⟩
  · exact ⟨false, by simpa only [Rep] using r1, by show (if false = true then _ else _); rw [if_neg (by simp)]; exact ⟨ρ, S1, μ1, he.mono g1, w1, h1⟩⟩
  · exact h1.elim

/-! ### targets -/
theorem rg_name {i : Nat} {x : Str} (hN : N.Nodup) (hi : N[i]? = some x) (hx : Loc sc x) (hf : fk x = true ∨ sc.names.lookup x = some .local) : RealG g N sc L fk (.Name x pos) (tName i) := by
  intro Wx X C F
  refine (pg_name (i := i) (by rw [C.N]; exact hN) (by rw [C.N]; exact hi) (by rw [C.sc]; exact hx) (hf.elim (fun z => .inl (F x z)) fun z => .inr (by rw [C.sc]; exact z))).weak ?_
  rintro v σ H Q ⟨d, ρ, S, μ, Ed, he, hw, r, h, hQ⟩
  exact hQ _ _ (h _ H μ (.refl _ _) hw (he.set1 r))
theorem rgs_nil : RealGs g N sc L fk [] tsNil := by
  intro Wx X C F
  refine pgs_nil.weak ?_
  rintro v σ H Q ⟨d, ρ, S, μ, Ed, he, hw, r, h, hQ⟩
  unfold tsNil at h
  split at h
  · simp only [RepL] at r
    exact ⟨r, hQ _ _ (h σ H μ (.refl _ _) hw he)⟩
  · exact h.elim
theorem rgs_cons {es : List Expr} {t : GT} {u : GTs} (h1 : RealG g N sc L fk e t) (h2 : RealGs g N sc L fk es u)
    (hs : ∀ env : Env, (assignEach (e :: es) env).map (·.2) = assign e env :: (assignEach es env).map (·.2)) : RealGs g N sc L fk (e :: es) (tsCons t u) := by
  intro Wx X C F
  refine (pgs_cons (h1 Wx X C F) (h2 Wx X C F) (hs X.env)).weak ?_
  rintro v σ H Q ⟨d, ρ, S, μ, Ed, he, hw, r, h, hQ⟩
  unfold tsCons at h
  split at h
  · exact h.elim
  · rename_i x ds
    simp only [RepL] at r
    obtain ⟨vx, vr, rfl, q1, q2⟩ := r
    refine ⟨vx, vr, rfl, x, ρ, S, μ, _, he, hw, q1, h.seq fun ρ1 S1 σ1 H1 μ1 g1 w1 e1 h1 => ⟨ds, ρ1, S1, μ1, Ed, e1, w1, q2.mono g1, h1, hQ⟩, fun _ _ z => z⟩
theorem rg_tup {es : List Expr} {k : Nat} {u : GTs} {n : Nat} (h : RealGs g N sc L fk es u) (hn : ∀ env : Env, (assignEach es env).length = n) (hst : ∀ env : Env, (assignEach es env).findIdx? (·.1) = none) :
    RealG g N sc L fk (.Tuple es k pos) (tTupl n u) := by
  intro Wx X C F
  refine (pg_tup C.calm (h Wx X C F) (hn X.env) (hst X.env)).weak ?_
  rintro v σ H Q ⟨d, ρ, S, μ, Ed, he, hw, r, h, hQ⟩
  unfold tTupl at h
  split at h
  · rename_i l e
    split at h
    · rename_i hl
      obtain ⟨a, vs, rfl, h1, q⟩ := asT_rep r e
      exact ⟨a, vs, rfl, by rw [C.K]; exact h1, by rw [← q.length]; exact hl, l, ρ, S, μ, Ed, he, hw, q, h, hQ⟩
    · exact h.elim
  · exact h.elim
theorem tsNil_bad {ds : List D} {ρ : Ev} {S : Sto} (h : ds.length ≠ 0) : tsNil ds ρ S = .bad := by
  cases ds with
  | nil => exact absurd rfl h
  | cons => rfl
/-! stores -/
theorem anyK {k : Key} : ∀ {l : List (D × D)} {ks : List (Key × V)}, RepK g H μ l ks → (l.any fun p => decide (p.1 = kD k)) = (ks.any fun kv => decide (kv.1 = k))
  | [], ks, h => by simp only [RepK] at h; subst h; rfl
  | p :: l, ks, h => by
    simp only [RepK] at h
    obtain ⟨j, u, t, rfl, e, q, z⟩ := h
    rw [List.any_cons, List.any_cons, anyK z, e]
    congr 1
    by_cases hj : j = k
    · subst hj; simp
    · rw [decide_eq_false hj, decide_eq_false fun y => hj (kD_inj y)]
theorem anyT {k : List Key} : ∀ {l : List (D × D)} {ks : List (List Key × V)}, RepT g H μ l ks → (l.any fun p => decide (p.1 = tD k)) = (ks.any fun kv => decide (kv.1 = k))
  | [], ks, h => by simp only [RepT] at h; subst h; rfl
  | p :: l, ks, h => by
    simp only [RepT] at h
    obtain ⟨j, u, t, rfl, e, q, z⟩ := h
    rw [List.any_cons, List.any_cons, anyT z, e]
    congr 1
    by_cases hj : j = k
    · subst hj; simp
    · rw [decide_eq_false hj, decide_eq_false fun y => hj (tD_inj y)]
theorem mapK {k : Key} {d : D} {v : V} (r : Rep g H μ d v) : ∀ {l : List (D × D)} {ks : List (Key × V)}, RepK g H μ l ks → RepK g H μ (l.map fun p => if p.1 = kD k then (p.1, d) else p) (ks.map fun kv => if kv.1 = k then (kv.1, v) else kv)
  | [], ks, h => by simp only [RepK] at h; subst h; simp [RepK]
  | p :: l, ks, h => by
    simp only [RepK] at h
    obtain ⟨j, u, t, rfl, e, q, z⟩ := h
    rw [List.map_cons, List.map_cons]
    by_cases hj : j = k
    · subst hj
      rw [if_pos e, if_pos rfl]
      simp only [RepK]
      exact ⟨j, v, _, rfl, e, r, mapK r z⟩
    · rw [if_neg (fun y => hj (kD_inj (e.symm.trans y))), if_neg hj]
      simp only [RepK]
      exact ⟨j, u, _, rfl, e, q, mapK r z⟩
theorem mapT {k : List Key} {d : D} {v : V} (r : Rep g H μ d v) : ∀ {l : List (D × D)} {ks : List (List Key × V)}, RepT g H μ l ks → RepT g H μ (l.map fun p => if p.1 = tD k then (p.1, d) else p) (ks.map fun kv => if kv.1 = k then (kv.1, v) else kv)
  | [], ks, h => by simp only [RepT] at h; subst h; simp [RepT]
  | p :: l, ks, h => by
    simp only [RepT] at h
    obtain ⟨j, u, t, rfl, e, q, z⟩ := h
    rw [List.map_cons, List.map_cons]
    by_cases hj : j = k
    · subst hj
      rw [if_pos e, if_pos rfl]
      simp only [RepT]
      exact ⟨j, v, _, rfl, e, r, mapT r z⟩
    · rw [if_neg (fun y => hj (tD_inj (e.symm.trans y))), if_neg hj]
      simp only [RepT]
      exact ⟨j, u, _, rfl, e, q, mapT r z⟩
theorem snocK {k : Key} {d : D} {v : V} (r : Rep g H μ d v) : ∀ {l : List (D × D)} {ks : List (Key × V)}, RepK g H μ l ks → RepK g H μ (l ++ [(kD k, d)]) (ks ++ [(k, v)])
  | [], ks, h => by simp only [RepK] at h; subst h; simp only [List.nil_append, RepK]; exact ⟨k, v, [], rfl, rfl, r, rfl⟩
  | p :: l, ks, h => by
    simp only [RepK] at h
    obtain ⟨j, u, t, rfl, e, q, z⟩ := h
    simp only [List.cons_append, RepK]
    exact ⟨j, u, _, rfl, e, q, snocK r z⟩
theorem snocT {k : List Key} {d : D} {v : V} (r : Rep g H μ d v) : ∀ {l : List (D × D)} {ks : List (List Key × V)}, RepT g H μ l ks → RepT g H μ (l ++ [(tD k, d)]) (ks ++ [(k, v)])
  | [], ks, h => by simp only [RepT] at h; subst h; simp only [List.nil_append, RepT]; exact ⟨k, v, [], rfl, rfl, r, rfl⟩
  | p :: l, ks, h => by
    simp only [RepT] at h
    obtain ⟨j, u, t, rfl, e, q, z⟩ := h
    simp only [List.cons_append, RepT]
    exact ⟨j, u, _, rfl, e, q, snocT r z⟩
theorem dputK {k : Key} {d : D} {v : V} {l : List (D × D)} {ks : List (Key × V)} (r : Rep g H μ d v) (h : RepK g H μ l ks) : RepK g H μ (dput l (kD k) d) (putK ks k v) := by
  unfold dput putK
  rw [anyK h]
  by_cases z : (ks.any fun kv => decide (kv.1 = k)) = true
  · rw [if_pos z, if_pos z]; exact mapK r h
  · rw [if_neg z, if_neg z]; exact snocK r h
theorem dputT {k : List Key} {d : D} {v : V} {l : List (D × D)} {ks : List (List Key × V)} (r : Rep g H μ d v) (h : RepT g H μ l ks) : RepT g H μ (dput l (tD k) d) (putK ks k v) := by
  unfold dput putK
  rw [anyT h]
  by_cases z : (ks.any fun kv => decide (kv.1 = k)) = true
  · rw [if_pos z, if_pos z]; exact mapT r h
  · rw [if_neg z, if_neg z]; exact snocT r h
theorem repK_len : ∀ {l : List (D × D)} {ks : List (Key × V)}, RepK g H μ l ks → l.length = ks.length
  | [], ks, h => by simp only [RepK] at h; subst h; rfl
  | p :: l, ks, h => by simp only [RepK] at h; obtain ⟨_, _, t, rfl, _, _, z⟩ := h; simp [repK_len z]
theorem repT_len : ∀ {l : List (D × D)} {ks : List (List Key × V)}, RepT g H μ l ks → l.length = ks.length
  | [], ks, h => by simp only [RepT] at h; subst h; rfl
  | p :: l, ks, h => by simp only [RepT] at h; obtain ⟨_, _, t, rfl, _, _, z⟩ := h; simp [repT_len z]
theorem PSet.pick {X : Cx} {r' : TSet} (h : ∀ o i v H Q, r' o i v H Q → ∃ r, PSet X r ∧ r o i v H Q) : PSet X r' := fun pins s σ H o i v ov iv u Q I r1 r2 r3 q => by
  obtain ⟨r, k, z⟩ := h o i v H Q q
  exact k pins s σ H o i v ov iv u Q I r1 r2 r3 z
def rSetP (g : G) (p : PrS) : TSet := fun o i v H Q => ∃ x y d S μ, W g μ H S ∧ Rep g H μ x o ∧ Rep g H μ y i ∧ Rep g H μ d v ∧ match p x y d S with
  | some S' => ∀ H', Grow μ H μ H' → W g μ H' S' → Q H'
  | none => False
theorem p_set {Wx : WX} {X : Cx} (C : CtxOk g N sc L Wx X) : PSet X (rSetP g pSet) := PSet.pick fun o i v H Q h => by
  obtain ⟨x, y, d, S, μ, w, r1, r2, r3, h⟩ := h
  unfold pSet at h
  split at h
  · rename_i S' e
    split at e
    · rename_i n
      split at e
      · rename_i l hs
        obtain ⟨a, rfl, ha, hm, vs, h1, q⟩ := w.ref r1 hs
        split at e
        · rename_i j
          simp only [Rep] at r2
          subst r2
          simp only [setL, Option.map_map, Option.map_eq_some_iff] at e
          obtain ⟨k, ek, rfl⟩ := e
          refine ⟨_, set_list, a, vs, j, k, rfl, rfl, h1, by rw [← q.length]; exact ek, h _ (grow_set hm h1 (by simp)) (w.set ha ⟨_, upd_same, (q.set k r3).mono (grow_set hm h1 (by simp))⟩)⟩
        · cases e
      · rename_i k l hs
        obtain ⟨a, rfl, ha, hm, u, h1, q⟩ := w.ref r1 hs
        rw [if_neg (by simp)] at q
        split at e
        · rename_i hk
          cases e
          rcases h1 with ⟨hk0, ks, rfl, z⟩ | ⟨hk0, ks, rfl, z⟩
          · subst hk0
            obtain ⟨j, rfl, rfl⟩ := keyOk0 hk.1 r2
            refine ⟨_, set_dict C.hu, a, _, rfl, DPut.k q (by rw [← repK_len z]; exact hk.2), h _ (grow_set hm q (by simp)) (w.set ha ⟨_, .inl ⟨rfl, _, rfl, (dputK r3 z).mono (grow_set hm q (by simp))⟩, by rw [if_neg (by simp)]; exact upd_same⟩)⟩
          · subst hk0
            obtain ⟨j, b, rfl, rfl, hb⟩ := keyOk1 hk.1 r2
            refine ⟨_, set_dict C.hu, a, _, rfl, DPut.t q hb (by rw [← repT_len z]; exact hk.2), h _ (grow_set hm q (by simp)) (w.set ha ⟨_, .inr ⟨rfl, _, rfl, (dputT r3 z).mono (grow_set hm q (by simp))⟩, by rw [if_neg (by simp)]; exact upd_same⟩)⟩
        · cases e
      · cases e
    · cases e
  · exact h.elim
theorem rg_sub {o i : Expr} {mo mi : GE} (ho : Real g N sc L o mo) (hi : Real g N sc L i mi)
    (ha : ∀ (env : Env) v, assign (.Subscript o i pos) env v = (do
      let ov ← holding [v] (eval o env)
      let iv ← holding [v, ov] (eval i env)
      standAt pos
      holding [v, ov, iv] (setItem ov iv v)
      release [v, ov, iv] [])) : RealG g N sc L fk (.Subscript o i pos) (tSub pSet mo mi) := by
  intro Wx X C F
  refine (pg_sub (ho Wx X C) (hi Wx X C) (p_set C) (ha X.env)).weak ?_
  rintro v σ H Q ⟨d, ρ, S, μ, Ed, he, hw, r, h, hQ⟩
  refine ⟨ρ, S, μ, he, hw, h.ex he fun x S1 vx H1 μ1 g1 w1 r1 h1 => ⟨ρ, S1, μ1, he.mono g1, w1, h1.ex (he.mono g1) fun y S2 vy H2 μ2 g2 w2 r2 h2 => ?_⟩⟩
  refine ⟨x, y, d, S2, μ2, w2, r1.mono g2, r2, (r.mono g1).mono g2, ?_⟩
  split at h2
  · exact fun H' gr w' => hQ _ _ (h2 σ H' μ2 gr w' (((he.mono g1).mono g2).mono gr))
  · exact h2.elim
theorem rs_asg {tg : Expr} {t : GT} (ha : Real g N sc L a ma) (hg : RealG g N sc L (fun _ => true) tg t) (hs : ∀ env : Env, env.scope = sc → swapsWithSole [tg] a pos.line env = pure false) (hw : ∀ env : Env, env.scope = sc → swappedStores [tg] a env = pure none)
    (h1 : ∀ env : Env, (assignEach [tg] env).map (·.2) = [assign tg env]) : RealS g N sc L (.Assign [tg] a pos) (sAsg ma t) := by
  intro Wx X C
  refine (ps_asg (ha Wx X C.toCtxOk) (hg Wx X C.toCtxOk fun x _ => C.fn x) (hs X.env C.sc) (hw X.env C.sc) (h1 X.env)).weak ?_
  rintro D σ H ⟨ρ, S, μ, he, hw, h⟩
  exact ⟨ρ, S, μ, he, hw, h.ex he fun d S1 v H1 μ1 g1 w1 r1 h1 => ⟨d, ρ, S1, μ1, D, he.mono g1, w1, r1, h1, fun _ _ z => z⟩⟩
/-- a, b = x, y with plain local names -/
def sPar (is : List Nat) (l : List GE) : GS := fun ρ S => gArgsS l ρ S fun ds S1 => if ds.length = is.length then .nx ((is.zip ds).foldl (fun r p => r.set p.1 (some p.2)) ρ) S1 else .bad
theorem rs_par2 {i j : Nat} {x y : Str} {ea eb : Expr} {l : List GE} {px py pt : Pos} {kt k2 pt2} (hN : N.Nodup) (hi : N[i]? = some x) (hj : N[j]? = some y) (hij : i ≠ j) (hx : sc.names.lookup x = some .local) (hy : sc.names.lookup y = some .local)
    (ha : RealA g N sc L [ea, eb] l) (hw : ∀ env : Env, env.scope = sc → swappedStores [.Tuple [.Name x px, .Name y py] kt pt] (.Tuple [ea, eb] k2 pt2) env = pure (some [x, y]))
    (hs : ∀ env : Env, env.scope = sc → swapsWithSole [.Tuple [.Name x px, .Name y py] kt pt] (.Tuple [ea, eb] k2 pt2) pos.line env = pure false) :
    RealS g N sc L (.Assign [.Tuple [.Name x px, .Name y py] kt pt] (.Tuple [ea, eb] k2 pt2) pos) (sPar [i, j] l) := by
  intro Wx X C
  refine (ps_par (i := i) (j := j) C.calm (by rw [C.N]; exact hN) (by rw [C.N]; exact hi) (by rw [C.N]; exact hj) hij (by rw [C.sc]; exact hx) (by rw [C.sc]; exact hy) (ha.s Wx X C.toCtxOk) (hw X.env C.sc) (hs X.env C.sc)).weak ?_
  rintro D σ H ⟨ρ, S, μ, he, hw, h⟩
  refine ⟨ρ, S, μ, he, hw, _, D, h, fun ds S1 vs H1 μ1 g1 w1 r1 h1 => ?_⟩
  split at h1
  · rename_i hl
    match ds, hl with
    | [d1, d2], _ =>
      obtain ⟨v, u, rfl, q1, q2⟩ := rep2 r1
      exact ⟨v, u, rfl, h1 _ H1 μ1 (.refl _ _) w1 (((he.mono g1).set1 q1).set1 q2)⟩
  · exact h1.elim
theorem rep3 {d e f : D} {vs : List V} (r : RepL g H μ [d, e, f] vs) : ∃ v u w, vs = [v, u, w] ∧ Rep g H μ d v ∧ Rep g H μ e u ∧ Rep g H μ f w := by
  simp only [RepL] at r
  obtain ⟨v, y, rfl, h, u, z, rfl, h2, w, t, rfl, h3, rfl⟩ := r
  exact ⟨v, u, w, rfl, h, h2, h3⟩
theorem rs_par3 {i j k : Nat} {x y z : Str} {ea eb ec : Expr} {l : List GE} {px py pz pt : Pos} {kt k2 pt2} (hN : N.Nodup) (hi : N[i]? = some x) (hj : N[j]? = some y) (hk : N[k]? = some z) (hij : i ≠ j) (hik : i ≠ k) (hjk : j ≠ k)
    (hx : sc.names.lookup x = some .local) (hy : sc.names.lookup y = some .local) (hz : sc.names.lookup z = some .local)
    (ha : RealA g N sc L [ea, eb, ec] l) (hw : ∀ env : Env, env.scope = sc → swappedStores [.Tuple [.Name x px, .Name y py, .Name z pz] kt pt] (.Tuple [ea, eb, ec] k2 pt2) env = pure (some [x, y, z]))
    (hs : ∀ env : Env, env.scope = sc → swapsWithSole [.Tuple [.Name x px, .Name y py, .Name z pz] kt pt] (.Tuple [ea, eb, ec] k2 pt2) pos.line env = pure false) :
    RealS g N sc L (.Assign [.Tuple [.Name x px, .Name y py, .Name z pz] kt pt] (.Tuple [ea, eb, ec] k2 pt2) pos) (sPar [i, j, k] l) := by
  intro Wx X C
  refine (ps_par3 (i := i) (j := j) (l := k) C.calm (by rw [C.N]; exact hN) (by rw [C.N]; exact hi) (by rw [C.N]; exact hj) (by rw [C.N]; exact hk) hij hik hjk (by rw [C.sc]; exact hx) (by rw [C.sc]; exact hy) (by rw [C.sc]; exact hz) (ha.s Wx X C.toCtxOk) (hw X.env C.sc) (hs X.env C.sc)).weak ?_
  rintro D σ H ⟨ρ, S, μ, he, hw, h⟩
  refine ⟨ρ, S, μ, he, hw, _, D, h, fun ds S1 vs H1 μ1 g1 w1 r1 h1 => ?_⟩
  split at h1
  · rename_i hl
    match ds, hl with
    | [d1, d2, d3], _ =>
      obtain ⟨v, u, w, rfl, q1, q2, q3⟩ := rep3 r1
      exact ⟨v, u, w, rfl, h1 _ H1 μ1 (.refl _ _) w1 ((((he.mono g1).set1 q1).set1 q2).set1 q3)⟩
  · exact h1.elim

/-! ### o.f = e -/
theorem rs_attr {f : Str} {cl : List Str} {o : Expr} {mo mv : GE} (hv : Real g N sc L e mv) (ho : Real g N sc L o mo) (hc : ∀ c ∈ cl, ClsF g c f) (hs : ∀ env : Env, swapsWith e (some (.Attribute o f pos')) pos.line env = pure false) :
    RealS g N sc L (.Assign [.Attribute o f pos'] e pos) (sAttr cl f mv mo) := by
  intro Wx X C
  refine (ps_fld (ho Wx X C.toCtxOk) (hv Wx X C.toCtxOk) (hs X.env)).weak ?_
  rintro D σ H ⟨ρ, S, μ, he, hw, h⟩
  refine ⟨ρ, S, μ, he, hw, h.ex he fun d S1 v H1 μ1 g1 w1 r1 h1 => ⟨ρ, S1, μ1, he.mono g1, w1, h1.ex (he.mono g1) fun x S2 vx H2 μ2 g2 w2 r2 h2 => ?_⟩⟩
  split at h2
  · rename_i S3 es
    unfold setA at es
    split at es
    · split at es
      · rename_i n c fs hs
        split at es
        · rename_i hcl
          cases es
          obtain ⟨a, rfl, ha, hm, CC, dx, vs, mc, ea, q⟩ := w2.ref r2 hs
          obtain ⟨k1, k2⟩ := hc c hcl.1 CC mc
          refine ⟨a, CC, dx, vs, rfl, ea, by rw [C.K]; exact k1, by rw [C.K]; exact k2, by rw [← q.length]; exact hcl.2, ?_⟩
          exact h2 σ _ μ2 (grow_set hm ea (by simp)) (w2.set ha ⟨CC, dx, _, mc, upd_same, (RepF.put (r1.mono g2) q).mono (grow_set hm ea (by simp))⟩) (((he.mono g1).mono g2).mono (grow_set hm ea (by simp)))
        · cases es
      · cases es
    · cases es
  · exact h2.elim
end
end Gp

set_option Elab.async false
set_option linter.all false
set_option maxRecDepth 100000
/-! Gp10: raise, try, op=, while, for -/
namespace Gp
open PySem PySem.Spec L2
open PyProof.Rows hiding St

/-! ### raise -/
/-- an own class of exceptions without an own __init__ -/
def ExcOk (g : G) (c : Str) : Prop := ∃ (C : Addr) (bmB : List Value) (B newId initId : String), ExcBaseFacts B newId initId bmB ∧ g.mg c = some (.ref C) ∧ PySem.W.excIn g.K C bmB newId = true ∧ PySem.W.keepIn g.K (.ref C) = true ∧ PySem.W.subIn g.K (.ref C) (.type "BaseException") = some true ∧ PySem.W.typeIn g.K (.ref C) = some (.type "type")
section
variable {g : G} {N : List Str} {sc : Scope} {L : Nat} {a b c e : Expr} {ma mb mc m : GE} {pos p pos' : Pos} {st : Stmt} {rest : List Stmt} {ms mr : GS} {fk : Str → Bool}
variable {μ μ' : List Addr} {H H' : Hp} {S : Sto} {Ed : Ends}
theorem rs_raise {x m : Str} {j} {p2} (hx : ExcOk g x) (hg : sc.names.lookup x = some .globalImplicit) (hdb : (x == ("__debug__" : Str)) = false := by decide) :
    RealS g N sc L (.Raise (some (.Call (.Name x p) [.Constant (.str m) j p2] [] pos)) none pos') (sRaise x) := by
  intro Wx X C
  obtain ⟨Ca, bmB, B, newId, initId, F, hm, hex, hk, hs, ht⟩ := hx
  refine (ps_raise C.calm C.tk (pmk_own (C := Ca) F (by rw [C.K]; exact hex) (by rw [C.mg]; exact hm) (by rw [C.K]; exact hk) (raises_own (by rw [C.K]; exact hs) (by rw [C.K]; exact ht)) (show Gl X x by unfold Gl Env.kindOf; rw [C.sc]; exact hg) hdb)).weak ?_
  rintro D σ H ⟨ρ, S, μ, he, hw, h⟩
  exact h σ H μ (.refl _ _) hw he Ca hm

/-! ### try .. except x: suite -/
/-- what a caught exception comes to: the exceptions caught; those that are not -/
def sTry (yes no : List Str) (b : GS) (k : GS) : GS := fun ρ S => match b ρ S with
  | .exc c ρ1 S1 => if c ∈ yes then k ρ1 S1 else if c ∈ no then .exc c ρ1 S1 else .bad
  | r => r
/-- a suite's reading: it is run in a context that is not calm -/
def RealK (g : G) (N : List Str) (sc : Scope) (st : List Stmt) (m : GS) : Prop := ∀ Wx X, X.env.scope = sc → PSs X st (tGS g Wx m)
theorem rk_retStr {m : Str} {j} {p2} : RealK g N sc [.Return (some (.Constant (.str m) j p2)) pos] (sRet (gC (.str m))) := fun Wx X C => (pss_one (ps_ret pe_str)).weak fun D σ H ⟨ρ, S, μ, he, hw, h⟩ => h (.str m) H μ (.refl _ _) hw (by simp [Rep])
theorem rk_break : RealK g N sc [.Break pos] sBreak := fun Wx X C => (pss_one ps_break).weak fun D σ H ⟨ρ, S, μ, he, hw, h⟩ => h σ H μ (.refl _ _) hw he
theorem rk_pass : RealK g N sc [.Pass pos] sNil := fun Wx X C => (pss_one ps_pass).weak fun D σ H ⟨ρ, S, μ, he, hw, h⟩ => h σ H μ (.refl _ _) hw he
def ExmOk (g : G) (x : Str) (c : Str) (b : Bool) : Prop := ∀ C C', g.mg x = some (.ref C) → g.mg c = some (.ref C') → PySem.W.exmOne g.K (.ref C') (.ref C) = some b
theorem rs_try {x : Str} {Cx : Addr} {body suite : List Stmt} {b₀ : Stmt} {np : Pos} {yes no : List Str} {mk : GS} (hm : g.mg x = some (.ref Cx)) (hg : sc.names.lookup x = some .globalImplicit)
    (hb : RealSs g N sc L body ms) (hk : RealK g N sc (b₀ :: suite) mk) (hy : ∀ c ∈ yes, ExmOk g x c true) (hn : ∀ c ∈ no, ExmOk g x c false) (hdb : (x == ("__debug__" : Str)) = false := by decide) :
    RealS g N sc L (.Try body [.ExceptHandler (some (.Name x np)) none (b₀ :: suite) pos'] [] [] pos) (sTry yes no ms mk) := by
  intro Wx X C
  refine (ps_try_only (tb := fun W => tGS g W ms) (ts := fun _ _ _ => tGS g Wx mk) C.stk C.frm (c := .ref Cx) ⟨show Gl X x by unfold Gl Env.kindOf; rw [C.sc]; exact hg, hdb, .inl (by rw [C.mg]; exact hm)⟩ C.tk (fun W pn xe tk pw => ?_) (fun a oe cls d pn hz hd => ?_)).weak ?_
  · exact hb W _ ⟨⟨C.prog, C.wd, C.K, C.mg, C.base, C.N, C.sc, C.calm, tk, C.room, pw, C.cd⟩, C.fn, C.stk, C.frm⟩
  · exact hk Wx _ C.sc
  · rintro D σ H ⟨ρ, S, μ, he, hw, h⟩
    refine ⟨ρ, S, μ, he, hw, ?_⟩
    unfold sTry at h
    cases e : ms ρ S with
    | exc c ρ1 S1 =>
      rw [e] at h
      intro σ' H' μ' gr w' e' C' hC'
      simp only at h
      by_cases hc : c ∈ yes
      · rw [if_pos hc] at h
        refine ⟨true, ?_, fun _ a ha => ⟨ρ1, S1, μ', e', w', h.later gr⟩, fun z => by cases z⟩
        rw [C.K]; exact hy c hc Cx C' hm hC'
      · rw [if_neg hc] at h
        by_cases hc' : c ∈ no
        · rw [if_pos hc'] at h
          refine ⟨false, ?_, fun z => (by cases z), fun _ => h σ' H' μ' gr w' e' C' hC'⟩
          rw [C.K]; exact hn c hc' Cx C' hm hC'
        · rw [if_neg hc'] at h; exact h.elim
    | nx ρ1 S1 => rw [e] at h; exact h
    | rt ρ1 S1 => rw [e] at h; exact h
    | bk ρ1 S1 => rw [e] at h; exact h
    | ct ρ1 S1 => rw [e] at h; exact h
    | bad => rw [e] at h; exact h.elim

/-! ### x op= e -/
def OpI (g : G) (N : List Str) (sc : Scope) (L : Nat) (op : Operator) (p : D → D → Sto → Pr) : Prop := ∀ Wx X, CtxOk g N sc L Wx X → OpR X (inplaceOp op) (rP2 g p)
def sAug (i : Nat) (p : D → D → Sto → Pr) (a : GE) : GS := fun ρ S => match ρ[i]? with
  | some (some x) => (a ρ S).thn ρ fun y S1 => match p x y S1 with
    | some (z, S2) => .nx (ρ.set i (some z)) S2
    | none => .bad
  | _ => .bad
theorem rs_aug {i : Nat} {x : Str} {op : Operator} {pr : D → D → Sto → Pr} (hN : N.Nodup) (hi : N[i]? = some x) (hx : Loc sc x) (ha : Real g N sc L a ma) (ho : OpI g N sc L op pr) : RealS g N sc L (.AugAssign (.Name x pos') op a pos) (sAug i pr ma) := by
  intro Wx X C
  refine (ps_aug (i := i) (by rw [C.N]; exact hN) (by rw [C.N]; exact hi) (by rw [C.sc]; exact hx) (ha Wx X C.toCtxOk) (show PIp X op (rP2 g pr) from ho Wx X C.toCtxOk) (.inl (C.fn x))).weak ?_
  rintro D σ H ⟨ρ, S, μ, he, hw, h⟩
  unfold sAug at h
  split at h
  · rename_i d hd
    obtain ⟨v, ev, r⟩ := he.get hd
    refine ⟨v, ev, ρ, S, μ, he, hw, h.ex he fun y S1 vy H1 μ1 g1 w1 r1 h1 => ⟨d, y, S1, μ1, w1, r.mono g1, r1, ?_⟩⟩
    split at h1
    · rename_i z S2 e2
      rw [e2]
      exact fun vz H2 μ2 g2 w2 r2 => h1 _ H2 μ2 g2 w2 (((he.mono g1).mono g2).set1 r2)
    · exact h1.elim
  · exact h.elim
theorem opI_int {op : Operator} {f : Int → Int → Int} {P : Int → Int → Prop} {p : D → D → Sto → Pr} (ho : ∀ X, OpR X (inplaceOp op) (rI P fun i j => .int (f i j))) (h : ∀ a b S d S', p a b S = some (d, S') → ∃ i j, a = .int i ∧ b = .int j ∧ P i j ∧ d = .int (f i j) ∧ S' = S) : OpI g N sc L op p := by
  intro Wx X C
  refine OpR.pick fun x y H Q hh => ⟨_, ho X, ?_⟩
  obtain ⟨a, b, S, μ, w, ra, rb, q⟩ := hh
  cases e : p a b S with
  | none => rw [e] at q; exact q.elim
  | some z =>
    obtain ⟨d, S'⟩ := z
    obtain ⟨i, j, rfl, rfl, hp, rfl, rfl⟩ := h a b S d S' e
    rw [e] at q
    simp only [Rep] at ra rb
    exact ⟨i, j, ra, rb, hp, q _ H μ (.refl _ _) w (by simp [Rep])⟩
/-- a list that may be written to, or one that is new -/
def asLM (d : D) (S : Sto) : Option (List D) := match d with
  | .ls l => some l
  | .ref n => match S[n]? with
    | some (.lst l) => some l
    | _ => none
  | _ => none
theorem asLM_rep {d : D} {v : V} {l : List D} (w : W g μ H S) (r : Rep g H μ d v) (e : asLM d S = some l) : ∃ p vs, v = .ref p ∧ H p = some (.lst vs) ∧ RepL g H μ l vs := by
  unfold asLM at e
  split at e
  · cases e
    simp only [Rep] at r
    obtain ⟨p, vs, e, n, h, q⟩ := r
    exact ⟨p, vs, e, h, q⟩
  · split at e
    · rename_i n l' hs
      cases e
      obtain ⟨a, e, _, ha, vs, h, q⟩ := w.ref r hs
      exact ⟨a, vs, e, h, q⟩
    · cases e
  · cases e
def gIAdd : D → D → Sto → Pr := fun a b S => match a, b with
  | .int i, .int j => some (.int (i + j), S)
  | .str i, .str j => if i.length + j.length ≤ sizeLine then some (.str (i ++ j), S) else none
  | .ref n, b => match S[n]? with
    | some (.lst x) => match asLM b S with
      | some y => if x.length + y.length ≤ sizeLine then some (.ref n, S.set n (.lst (x ++ y))) else none
      | none => none
    | _ => none
  | _, _ => none
theorem i_add : OpI g N sc L .Add gIAdd := by
  intro Wx X C
  refine OpR.pick fun x y H Q h => ?_
  obtain ⟨a, b, S, μ, w, r1, r2, h⟩ := h
  unfold gIAdd at h
  split at h
  · simp only [Rep] at r1 r2
    exact ⟨_, iop_add, _, _, r1, r2, PostP.here h w (by simp [Rep])⟩
  · split at h
    · rename_i hl
      simp only [Rep] at r1 r2
      exact ⟨_, iop_add_str, _, _, r1, r2, hl, PostP.here h w (by simp [Rep])⟩
    · exact h.elim
  · split at h
    · rename_i n b' l hs
      split at h
      · rename_i y ey
        split at h
        · rename_i hl
          obtain ⟨a, rfl, hn, ha, vs, h1, q1⟩ := w.ref r1 hs
          obtain ⟨p, zs, rfl, h2, q2⟩ := asLM_rep w r2 ey
          have gr : Grow μ H μ (upd H a (.lst (vs ++ zs))) := grow_set ha h1 (by simp)
          refine ⟨_, iop_ext, _, _, _, _, rfl, rfl, h1, h2, by rw [← q1.length, ← q2.length]; exact hl, h (.ref a) _ μ gr (w.set hn ⟨_, upd_same, (q1.append q2).mono gr⟩) (by simp only [Rep]; exact ⟨a, rfl, hn⟩)⟩
        · exact h.elim
      · exact h.elim
    · exact h.elim
  · exact h.elim
theorem i_sub : OpI g N sc L .Sub gSub := opI_int (P := fun _ _ => True) (f := fun i j => i - j) (fun X pins s σ H x y v u Q I rx ry h => by
    obtain ⟨i, j, e1, e2, _, q⟩ := h
    exact iop_sub pins s σ H x y v u Q I rx ry ⟨i, j, e1, e2, q⟩) fun a b S d S' e => by
  unfold gSub at e
  split at e
  · cases e; exact ⟨_, _, rfl, rfl, trivial, rfl, rfl⟩
  · cases e
def gIMul : D → D → Sto → Pr := fun a b S => match a, b with
  | .int i, .int j => if (decide (-(2 ^ 64) < i) && decide (i < 2 ^ 64)) || (decide (-(2 ^ 64) < j) && decide (j < 2 ^ 64)) then some (.int (i * j), S) else none
  | _, _ => none
theorem i_mul : OpI g N sc L .Mult gIMul := opI_int (P := CMul) (f := fun i j => i * j) (fun X => iop_mul) fun a b S d S' e => by
  unfold gIMul at e
  split at e
  · split at e
    · rename_i h
      cases e
      simp only [Bool.or_eq_true, Bool.and_eq_true, decide_eq_true_eq] at h
      exact ⟨_, _, rfl, rfl, h, rfl, rfl⟩
    · cases e
  · cases e
def gIDiv : D → D → Sto → Pr := fun a b S => match a, b with
  | .int i, .int j => if 0 < j ∧ j.natAbs.log2 < 9000 then some (.int (i / j), S) else none
  | _, _ => none
theorem i_div : OpI g N sc L .FloorDiv gIDiv := opI_int (P := CDivW) (f := fun i j => i / j) (fun X => iop_fdivW) fun a b S d S' e => by
  unfold gIDiv at e
  split at e
  · split at e
    · rename_i h
      cases e
      exact ⟨_, _, rfl, rfl, h, rfl, rfl⟩
    · cases e
  · cases e
def gIMod : D → D → Sto → Pr := fun a b S => match a, b with
  | .int i, .int j => if 0 < j then some (.int (i % j), S) else none
  | _, _ => none
theorem i_mod : OpI g N sc L .Mod gIMod := opI_int (P := fun _ j => 0 < j) (f := fun i j => i % j) (fun X => iop_mod) fun a b S d S' e => by
  unfold gIMod at e
  split at e
  · split at e
    · rename_i h
      cases e
      exact ⟨_, _, rfl, rfl, h, rfl, rfl⟩
    · cases e
  · cases e
def gIOr : D → D → Sto → Pr := fun a b S => match a, b with
  | .int i, .int j => some (.int (Builtin.bitOr i j), S)
  | _, _ => none
theorem i_or : OpI g N sc L .BitOr gIOr := opI_int (P := fun _ _ => True) (f := fun i j => Builtin.bitOr i j) (fun X pins s σ H x y v u Q I rx ry h => by
    obtain ⟨i, j, e1, e2, _, q⟩ := h
    exact iop_or pins s σ H x y v u Q I rx ry ⟨i, j, e1, e2, q⟩) fun a b S d S' e => by
  unfold gIOr at e
  split at e
  · cases e; exact ⟨_, _, rfl, rfl, trivial, rfl, rfl⟩
  · cases e
/-! ### while -/
def whN (t : GE) (b : GS) : Nat → GS
  | 0 => fun _ _ => .bad
  | n + 1 => fun ρ S => (t ρ S).thn ρ fun d S1 => match d with
    | .bl true => match b ρ S1 with
      | .nx ρ2 S2 => whN t b n ρ2 S2
      | .ct ρ2 S2 => whN t b n ρ2 S2
      | .bk ρ2 S2 => .nx ρ2 S2
      | r => r
    | .bl false => .nx ρ S1
    | _ => .bad
theorem rs_while {n : Nat} {t : Expr} {mt : GE} {body : List Stmt} (ht : RealT g N sc L t mt) (hb : RealSs g N sc L body ms) : RealS g N sc L (.While t body [] pos) (whN mt ms n) := by
  intro Wx X C
  refine (ps_while C.pass (ht Wx X C.toCtxOk) (hb Wx X C)).weak ?_
  rintro D σ H ⟨ρ, S, μ, he, hw, h⟩
  refine ⟨fun m σ' H' => ∃ ρ' S' μ', EnvOk g H' μ' ρ' σ' ∧ W g μ' H' S' ∧ PostS g Wx μ' H' (whN mt ms m ρ' S') D, ⟨n, ρ, S, μ, he, hw, h⟩, ?_⟩
  rintro m σ1 H1 ⟨ρ1, S1, μ1, e1, w1, h1⟩
  cases m with
  | zero => exact h1.elim
  | succ m =>
    unfold whN at h1
    refine ⟨ρ1, S1, μ1, e1, w1, h1.ex e1 fun d S2 v H2 μ2 g2 w2 r2 h2 => ?_⟩
    split at h2
    · refine ⟨true, by simpa only [Rep] using r2, ?_⟩
      show (if true = true then _ else _)
      rw [if_pos rfl]
      refine ⟨fun σ' H' => ∃ ρ' S' μ', EnvOk g H' μ' ρ' σ' ∧ W g μ' H' S' ∧ PostS g Wx μ' H' (whN mt ms m ρ' S') D, fun σ' H' z => ⟨m, Nat.lt_succ_self _, z⟩, ρ1, S2, μ2, e1.mono g2, w2, ?_⟩
      cases e : ms ρ1 S2 with
      | nx ρ3 S3 => rw [e] at h2; exact fun σ' H' μ' gr w' e' => ⟨ρ3, S3, μ', e', w', PostS.later (r := whN mt ms m ρ3 S3) h2 gr⟩
      | ct ρ3 S3 => rw [e] at h2; exact fun σ' H' μ' gr w' e' => ⟨ρ3, S3, μ', e', w', PostS.later (r := whN mt ms m ρ3 S3) h2 gr⟩
      | bk ρ3 S3 => rw [e] at h2; exact h2
      | rt d S3 => rw [e] at h2; exact h2
      | exc c ρ3 S3 => rw [e] at h2; exact h2
      | bad => rw [e] at h2; exact h2.elim
    · refine ⟨false, by simpa only [Rep] using r2, ?_⟩
      show (if false = true then _ else _)
      rw [if_neg (by simp)]
      exact h2 σ1 H2 μ2 (.refl _ _) w2 (e1.mono g2)
    · exact h2.elim

end
section
variable {X : Cx}
/-- what was locked on the way may be unlocked -/
def UnlK (H : Hp) (Q : Hp → Prop) : Hp → Prop := fun H' => Q H' ∨ ∃ d od u, H' d = some (.frz od u) ∧ (∀ o' u', H d ≠ some (.frz o' u')) ∧ Q (upd H' d u)
def tUnl (t : TS) : TS := fun D σ H => t ⟨fun σ' => UnlK H (D.nx σ'), fun v => UnlK H (D.rt v), D.bk, D.ct⟩ σ H
theorem _root_.L2.Inv.unl {pins : List (Addr × Obj)} {σ σ' : St} {H H' : Hp} {s s' : Shared} {Q : Hp → Prop} (I : Inv X pins σ H s) (I' : Inv X pins σ' H' s') (q : UnlK H Q H') : ∃ H'', Inv X pins σ' H'' s' ∧ Q H'' := by
  rcases q with q | ⟨d, od, u, e, hn, q⟩
  · exact ⟨H', I', q⟩
  · exact ⟨_, I'.unlock e (fun o' u' z => hn o' u' (I.base.frzs d o' u' z)), q⟩
theorem ps_unl {st : Stmt} {t : TS} (h : PS X st t) : PS X st (tUnl t) := by
  refine ⟨fun pins s σ H D I hw => ?_⟩
  refine thn (h.run pins s σ _ _ I hw) fun f s1 q => ?_
  cases f with
  | next => obtain ⟨σ', H', I2, q⟩ := q; obtain ⟨H'', I3, q⟩ := I.unl I2 q; exact ⟨σ', _, I3, q⟩
  | brk => exact q
  | cont => exact q
  | ret v => obtain ⟨x, σ', H', I2, r, q⟩ := q; obtain ⟨H'', I3, q⟩ := I.unl I2 q; exact ⟨x, σ', _, I3, r, q⟩
theorem pe_unl {e : Expr} {t : TE} (h : PE X e t) : PE X e (fun σ H Q => t σ H fun v => UnlK H (Q v)) := by
  refine ⟨fun pins s σ H Q I hw => ?_⟩
  refine thn (h.run pins s σ _ _ I hw) fun v s1 ⟨x, H1, I2, r, q⟩ => ?_
  obtain ⟨H'', I3, q⟩ := I.unl I2 q
  exact ⟨x, _, I3, r, q⟩
end
/-- the dict at m is unlocked -/
def unl1 (m : Nat) (S : Sto) : Sto := match S[m]? with
  | some (.dict k true l) => S.set m (.dict k false l)
  | _ => S
def unlRS (ul : Option Nat) (r : RS) : RS := match ul with
  | none => r
  | some m => match r with
    | .nx ρ S => .nx ρ (unl1 m S)
    | .rt d S => .rt d (unl1 m S)
    | r => r
def unlR (ul : Option Nat) (r : Res) : Res := match ul with
  | none => r
  | some m => match r with
    | .ok d S => .ok d (unl1 m S)
    | r => r
section
variable {g : G} {μ μ' : List Addr} {H H0 H' : Hp} {S : Sto} {ρ : Ev} {σ : St}
theorem EnvOk.monoW (h : Grw μ H μ' H') : ∀ {ρ : Ev} {σ : St}, EnvOk g H μ ρ σ → EnvOk g H' μ' ρ σ
  | [], σ, r => r
  | d :: ρ, σ, r => by
    simp only [EnvOk] at r ⊢
    obtain ⟨v, y, e, q, t⟩ := r
    exact ⟨v, y, e, fun x hx => let ⟨u, a, b⟩ := q x hx; ⟨u, a, b.monoW h⟩, EnvOk.monoW h t⟩
theorem grw_unl {a : Addr} {o : Obj} {u : HO} (h : H a = some (.frz o u)) (hd : isDic u = true) : Grw μ H μ (upd H a u) := by
  have hnt : ∀ ps, u ≠ .tbl ps := fun ps z => by subst z; cases hd
  refine ⟨⟨[], by simp, by simp⟩, fun b v hb e _ => ?_, fun b v e n => ?_⟩
  · by_cases z : b = a
    · subst z
      rw [h] at e; cases e
      refine ⟨u, upd_same, ?_⟩
      rw [show core (HO.frz o u) = u by simp only [core, if_pos hd]]
      cases u <;> first | rfl | cases hd
    · exact ⟨v, by rw [upd_ne z]; exact e, rfl⟩
  · by_cases z : b = a
    · subst z; exact ⟨u, upd_same, hnt⟩
    · exact ⟨v, by rw [upd_ne z]; exact e, n⟩
theorem DicAt.dic {k : Nat} {l : List (D × D)} {u : HO} (h : DicAt g H μ k l u) : isDic u = true := by rcases h with ⟨_, _, rfl, _⟩ | ⟨_, _, rfl, _⟩ <;> rfl
theorem W.unl {m : Nat} {k : Nat} {l : List (D × D)} (w : W g μ H S) (e : S[m]? = some (.dict k true l)) : ∃ a o u, μ[m]? = some a ∧ H a = some (.frz o u) ∧ isDic u = true ∧ W g μ (upd H a u) (S.set m (.dict k false l)) := by
  obtain ⟨a, ha, hm, u, hq, hl⟩ := w.ix e
  rw [if_pos rfl] at hl
  obtain ⟨o, hl⟩ := hl
  exact ⟨a, o, u, ha, hl, hq.dic, w.set ha ⟨u, hq.monoW (grw_unl hl hq.dic), by rw [if_neg (by simp)]; exact upd_same⟩⟩
theorem grow_unl {a : Addr} {o : Obj} {u : HO} (gr : Grow μ H μ' H') (h : H' a = some (.frz o u)) (hd : isDic u = true) (h0 : ∀ o u, H a ≠ some (.frz o u)) : Grow μ H μ' (upd H' a u) := by
  have hnt : ∀ ps, u ≠ .tbl ps := fun ps z => by subst z; cases hd
  refine ⟨⟨gr.pre, fun b v hb e ht => ?_, fun b v e n => ?_⟩, fun b x v e => ?_⟩
  · obtain ⟨v', e', c'⟩ := gr.keep b v hb e ht
    by_cases z : b = a
    · subst z
      rw [h] at e'; cases e'
      refine ⟨u, upd_same, ?_⟩
      rw [← c', show core (HO.frz o u) = u by simp only [core, if_pos hd]]
      cases u <;> first | rfl | cases hd
    · exact ⟨v', by rw [upd_ne z]; exact e', c'⟩
  · obtain ⟨v', e', n'⟩ := gr.sup b v e n
    by_cases z : b = a
    · subst z; exact ⟨u, upd_same, hnt⟩
    · exact ⟨v', by rw [upd_ne z]; exact e', n'⟩
  · rw [upd_ne (fun z => h0 x v (by rw [← z]; exact e))]
    exact gr.fz b x v e
/-- what is known of the one that is to be unlocked: it was not locked at the start -/
def UlAt (H : Hp) (μ' : List Addr) (ul : Option Nat) : Prop := ∀ m, ul = some m → ∃ a, μ'[m]? = some a ∧ ∀ o u, H a ≠ some (.frz o u)
theorem UlAt.grow {ul : Option Nat} {μ1 : List Addr} {H1 : Hp} (h : UlAt H μ1 ul) (gr : Grow μ1 H1 μ' H') : UlAt H μ' ul := fun m e => let ⟨a, h1, h2⟩ := h m e; ⟨a, gr.get h1, h2⟩
theorem UlAt.back {ul : Option Nat} {μ1 : List Addr} {H1 : Hp} (h : UlAt H1 μ' ul) (gr : Grow μ H μ1 H1) : UlAt H μ' ul := fun m e => let ⟨a, h1, h2⟩ := h m e; ⟨a, h1, fun o u z => h2 o u (gr.fz a o u z)⟩
theorem unl_of {ul : Option Nat} {Q : Hp → Prop} {f : Sto → Sto} (gr : Grow μ H μ' H') (w : W g μ' H' S) (hu : UlAt H μ' ul)
    (h : ∀ H'', Grow μ H μ' H'' → Grw μ' H' μ' H'' → W g μ' H'' (match ul with | none => S | some m => unl1 m S) → Q H'') : UnlK H Q H' := by
  cases ul with
  | none => exact .inl (h H' gr (.refl _ _) w)
  | some m =>
    obtain ⟨a, ha, hz⟩ := hu m rfl
    simp only at h
    unfold unl1 at h
    split at h
    · rename_i k l hs
      obtain ⟨a', o, u, ha', hl, hd, w'⟩ := w.unl hs
      rw [ha] at ha'; cases ha'
      exact .inr ⟨a, o, u, hl, hz, h _ (grow_unl gr hl hd hz) (grw_unl hl hd) w'⟩
    · exact .inl (h H' gr (.refl _ _) w)
theorem PostS.unlNx {Wx : WX} {ul : Option Nat} {D : Ends} (h : PostS g Wx μ H (unlRS ul (.nx ρ S)) D) (gr : Grow μ H μ' H') (w : W g μ' H' S) (he : EnvOk g H' μ' ρ σ) (hu : UlAt H μ' ul) : UnlK H (D.nx σ) H' := by
  refine unl_of (f := id) gr w hu fun H'' g2 g3 w2 => ?_
  cases ul with
  | none => exact h σ H'' μ' g2 w2 (he.monoW g3)
  | some m => exact h σ H'' μ' g2 w2 (he.monoW g3)
theorem PostS.unlRt {Wx : WX} {ul : Option Nat} {En : Ends} {d : D} {v : V} (h : PostS g Wx μ H (unlRS ul (.rt d S)) En) (gr : Grow μ H μ' H') (w : W g μ' H' S) (r : Rep g H' μ' d v) (hu : UlAt H μ' ul) : UnlK H (En.rt v) H' := by
  refine unl_of (f := id) gr w hu fun H'' g2 g3 w2 => ?_
  cases ul with
  | none => exact h v H'' μ' g2 w2 (r.monoW g3)
  | some m => exact h v H'' μ' g2 w2 (r.monoW g3)
theorem PostR.unlOk {ul : Option Nat} {Q : VK} {E : Str → Hp → Prop} {d : D} {v : V} (h : PostR g μ H (unlR ul (.ok d S)) Q E) (gr : Grow μ H μ' H') (w : W g μ' H' S) (r : Rep g H' μ' d v) (hu : UlAt H μ' ul) : UnlK H (Q v) H' := by
  refine unl_of (f := id) gr w hu fun H'' g2 g3 w2 => ?_
  cases ul with
  | none => exact h v H'' μ' g2 w2 (r.monoW g3)
  | some m => exact h v H'' μ' g2 w2 (r.monoW g3)
end
section
variable {g : G} {N : List Str} {sc : Scope} {L : Nat} {a b c e : Expr} {ma mb mc m : GE} {pos p pos' : Pos} {st : Stmt} {rest : List Stmt} {ms mr : GS} {fk : Str → Bool}
variable {μ μ' : List Addr} {H H' : Hp} {S : Sto} {Ed : Ends}
/-! ### for -/
abbrev Look := Nat → Sto → Option (Option D)
/-- how the walk J goes: what it yields at a turn -/
structure SrcOk (g : G) (J : It) (lk : Look) (μ1 : List Addr) (H1 : Hp) : Prop where
  stop : ∀ i μ H S, Grow μ1 H1 μ H → W g μ H S → lk i S = some none → J.stop i H
  go : ∀ i μ H S d, Grow μ1 H1 μ H → W g μ H S → lk i S = some (some d) → J.go i H ∧ ∀ x H', J.yld i H x H' → Grow μ H μ H' ∧ W g μ H' S ∧ Rep g H' μ d x
inductive IR where
  | ok (lk : Look) (S : Sto) (ul : Option Nat)
  | exc (c : Str) (S : Sto)
  | bad
abbrev GI := Ev → Sto → IR
def PostI (g : G) (μ : List Addr) (H : Hp) (r : IR) (R : It → Hp → Prop) (E : Str → Hp → Prop) : Prop := match r with
  | .ok lk S ul => ∀ J H' μ', Grow μ H μ' H' → W g μ' H' S → SrcOk g J lk μ' H' → UlAt H μ' ul → R J H'
  | .exc c S => ∀ H' μ', Grow μ H μ' H' → W g μ' H' S → E c H'
  | .bad => False
def tGI (g : G) (Wx : WX) (m : GI) : TI := fun σ H R => ∃ ρ S μ, EnvOk g H μ ρ σ ∧ W g μ H S ∧ PostI g μ H (m ρ S) R (wE g Wx σ)
def RealI (g : G) (N : List Str) (sc : Scope) (L : Nat) (tg e : Expr) (m : GI) : Prop := ∀ Wx X, CtxOk g N sc L Wx X → PI X tg e (tGI g Wx m)
theorem _root_.L2.PI.weak {X : Cx} {tg e : Expr} {t t' : TI} (h : PI X tg e t) (k : ∀ σ H Q, t' σ H Q → t σ H Q) : PI X tg e t' := ⟨fun pins s σ H Q I q => h.run pins s σ H Q I (k σ H Q q)⟩
def IR.thn (r : IR) (ρ : Ev) (f : Look → Sto → Option Nat → RS) : RS := match r with
  | .ok l S ul => f l S ul
  | .exc c S => .exc c ρ S
  | .bad => .bad
/-- the turns from the i-th on, n at most -/
def forN (lk : Look) (b : D → GS) : Nat → Nat → GS
  | 0, _ => fun _ _ => .bad
  | n + 1, i => fun ρ S => match lk i S with
    | none => .bad
    | some none => .nx ρ S
    | some (some d) => match b d ρ S with
      | .nx ρ2 S2 => forN lk b n (i + 1) ρ2 S2
      | .ct ρ2 S2 => forN lk b n (i + 1) ρ2 S2
      | .bk ρ2 S2 => .nx ρ2 S2
      | r => r
def sFor (n : Nat) (it : GI) (t : GT) (b : GS) : GS := fun ρ S => (it ρ S).thn ρ fun l S1 ul => unlRS ul (forN l (fun d ρ S => (t d ρ S).thn b) n 0 ρ S1)
theorem PostI.of {Wx : WX} {σ : St} {ρ : Ev} {r : IR} {f : Look → Sto → Option Nat → RS} {R : It → Hp → Prop} (he : EnvOk g H μ ρ σ) (h : PostS g Wx μ H (r.thn ρ f) Ed)
    (k : ∀ l S1 ul J H1 μ1, Grow μ H μ1 H1 → W g μ1 H1 S1 → SrcOk g J l μ1 H1 → UlAt H μ1 ul → PostS g Wx μ H (f l S1 ul) Ed → R J H1) : PostI g μ H r R (wE g Wx σ) := by
  cases r with
  | ok l S1 ul => exact fun J H1 μ1 g1 w1 s1 u1 => k l S1 ul J H1 μ1 g1 w1 s1 u1 h
  | exc c S1 => exact fun H1 μ1 g1 w1 => h σ H1 μ1 g1 w1 (he.mono g1)
  | bad => exact h
theorem unlRS_bk {c' : Str} {ul : Option Nat} {ρ : Ev} {S : Sto} : unlRS ul (.exc c' ρ S) = .exc c' ρ S := by cases ul <;> rfl
theorem unlRS_bad {ul : Option Nat} : unlRS ul .bad = .bad := by cases ul <;> rfl
theorem rs_for {n : Nat} {tg it : Expr} {mi : GI} {t : GT} {body : List Stmt} (hi : RealI g N sc L tg it mi) (hg : RealG g N sc L (fun _ => true) tg t) (hb : RealSs g N sc L body ms)
    (hs : ∀ (env : Env) x, foldedSetIterable it env x = pure x) : RealS g N sc L (.For tg it body [] pos) (sFor n mi t ms) := by
  intro Wx X C
  refine (ps_unl (ps_for C.pass C.calm (hi Wx X C.toCtxOk) (hg Wx X C.toCtxOk fun x _ => C.fn x) (hb Wx X C) (hs X.env))).weak ?_
  rintro D σ H ⟨ρ, S, μ, he, hw, h⟩
  refine ⟨ρ, S, μ, he, hw, PostI.of he h fun lk S1 ul J H1 μ1 g1 w1 s1 u1 h1 => ?_⟩
  refine ⟨fun i m σ' H' => ∃ ρ' S' μ', Grow μ1 H1 μ' H' ∧ EnvOk g H' μ' ρ' σ' ∧ W g μ' H' S' ∧ PostS g Wx μ H (unlRS ul (forN lk (fun d ρ S => (t d ρ S).thn ms) m i ρ' S')) D, ⟨n, ρ, S1, μ1, .refl _ _, he.mono g1, w1, h1⟩, ?_⟩
  rintro i m σ2 H2 ⟨ρ2, S2, μ2, g2, e2, w2, h2⟩
  cases m with
  | zero => rw [show forN lk (fun d ρ S => (t d ρ S).thn ms) 0 i ρ2 S2 = .bad from rfl, unlRS_bad] at h2; exact h2.elim
  | succ m =>
    unfold forN at h2
    split at h2
    · rw [unlRS_bad] at h2; exact h2.elim
    · rename_i el
      exact .inl ⟨s1.stop i μ2 H2 S2 g2 w2 el, h2.unlNx (g1.trans g2) w2 e2 (u1.grow g2)⟩
    · rename_i d el
      obtain ⟨k1, k2⟩ := s1.go i μ2 H2 S2 d g2 w2 el
      let NN : St → Hp → Prop := fun σ' H' => ∃ ρ' S' μ', Grow μ1 H1 μ' H' ∧ EnvOk g H' μ' ρ' σ' ∧ W g μ' H' S' ∧ PostS g Wx μ H (unlRS ul (forN lk (fun d ρ S => (t d ρ S).thn ms) m (i + 1) ρ' S')) D
      refine .inr ⟨k1, NN, fun σ' H' z => ⟨m, Nat.lt_succ_self _, z⟩, fun x H' y => ?_⟩
      obtain ⟨g3, w3, r3⟩ := k2 x H' y
      refine ⟨d, ρ2, S2, μ2, _, e2.mono g3, w3, r3, PostS.seq (Ed := { nx := NN, rt := fun v => UnlK H (D.rt v), ct := NN, bk := fun σ' => UnlK H (D.nx σ') }) (f := ms) ?_ (fun ρ4 S4 σ4 H4 μ4 g4 w4 e4 h4 => ⟨ρ4, S4, μ4, e4, w4, h4⟩), fun _ _ z => z⟩
      have gg := g2.trans g3
      generalize hr : (t d ρ2 S2).thn ms = r at h2
      cases r with
      | nx ρ3 S3 => exact fun σ' H' μ' gr w' e' => ⟨ρ3, S3, μ', gg.trans gr, e', w', h2⟩
      | ct ρ3 S3 => exact fun σ' H' μ' gr w' e' => ⟨ρ3, S3, μ', gg.trans gr, e', w', h2⟩
      | bk ρ3 S3 => exact fun σ' H' μ' gr w' e' => PostS.unlNx h2 (g1.trans (gg.trans gr)) w' e' (u1.grow (gg.trans gr))
      | rt d S3 => exact fun v H' μ' gr w' e' => PostS.unlRt h2 (g1.trans (gg.trans gr)) w' e' (u1.grow (gg.trans gr))
      | exc c ρ3 S3 => simp only [unlRS_bk] at h2; exact fun σ' H' μ' gr w' e' => h2 σ' H' μ' (g1.trans (gg.trans gr)) w' e'
      | bad => simp only [unlRS_bad] at h2; exact h2.elim
end
end Gp

set_option Elab.async false
set_option linter.all false
set_option maxRecDepth 100000
/-! Gp11: what is walked -/
namespace Gp
open PySem PySem.Spec L2
open PyProof.Rows hiding St

/-! ### by values -/
abbrev RI := V → Hp → (It → Hp → Prop) → Prop
def PItr (X : Cx) (tg : Expr) (r : RI) : Prop := ∀ (pins : List (Addr × Obj)) (s : Shared) (σ : St) (H : Hp) (v : V) (u : Value) (R : It → Hp → Prop), Inv X pins σ H s → RelV v u → r v H R →
  wpAny (model X.prog X.w) X.A (pyIter u) (PIE X pins σ tg R) X.xe s
theorem pi_of {X : Cx} {tg e : Expr} {te : TE} {r : RI} (he : PE X e te) (h : PItr X tg r) : PI X tg e (fun σ H R => te σ H fun x H1 => r x H1 R) := by
  refine ⟨fun pins s σ H R I q => ?_⟩
  exact thn (he.run pins s σ H _ I q) fun v s1 ⟨x, H1, I1, r1, q1⟩ => h pins s1 σ H1 x v R I1 r1 q1
theorem PItr.pick {X : Cx} {tg : Expr} {r' : RI} (h : ∀ v H R, r' v H R → ∃ r, PItr X tg r ∧ r v H R) : PItr X tg r' := fun pins s σ H v u R I rv q => by
  obtain ⟨r, k, z⟩ := h v H R q
  exact k pins s σ H v u R I rv z
section
variable {X : Cx} {tg : Expr}
theorem itr_list : PItr X tg (fun x H1 R => ∃ a, x = .ref a ∧ (∃ xs, SqL X.K H1 a xs) ∧ R (Itl X.K a) H1) := by
  intro pins s1 σ H1 x v R I1 r1 q1
  obtain ⟨a, e, ⟨xs, hq⟩, q⟩ := q1
  subst e
  cases r1
  obtain ⟨its, rv, p, hz⟩ := I1.list hq
  refine wpAny_pyIter_list p.isList ?_
  refine ⟨s1.heap.objs.size, [s1.heap.objs.size], _, _, H1, rfl, I1.kept (t' := s1.toks) fun b o e => Heap.get?_push_of_some _ e, turn_list a _, ⟨_, Heap.get?_push_size _ rfl, rfl, rfl⟩, fun b hb => ?_, q⟩
  have e : b = s1.heap.objs.size := by simpa using hb
  subst e
  exact I1.fpOk (Nat.le_refl _) (I1.hok.fresh (Nat.le_refl _))
theorem itr_tup : PItr X tg (fun x H1 R => ∃ a, x = .ref a ∧ (∃ xs, SqT X.K H1 a xs) ∧ R (Itt X.K a) H1) := by
  intro pins s1 σ H1 x v R I1 r1 q1
  obtain ⟨a, e, ⟨xs, hq⟩, q⟩ := q1
  subst e
  cases r1
  obtain ⟨its, rv, p, hz⟩ := I1.tuple hq
  refine wpAny_pyIter_tuple (show s1.heap.IsTuple a its.toArray from p) ?_
  refine ⟨s1.heap.objs.size, [s1.heap.objs.size], _, _, H1, rfl, I1.kept (t' := s1.toks) fun b o e => Heap.get?_push_of_some _ e, turn_tuple a _, ⟨_, Heap.get?_push_size _ rfl, rfl, rfl⟩, fun b hb => ?_, q⟩
  have e : b = s1.heap.objs.size := by simpa using hb
  subst e
  exact I1.fpOk (Nat.le_refl _) (I1.hok.fresh (Nat.le_refl _))
theorem itr_str : PItr X tg (fun v H1 R => ∃ x, v = .str x ∧ R (Its x) H1) := by
  intro pins s1 σ H1 y v R I1 r1 q1
  obtain ⟨x, ex, q⟩ := q1
  subst ex
  obtain ⟨t, rfl⟩ := r1
  cases ha : x.cps.all (· < 128)
  · exact wpAny_pyIter_wide ha (pi_one (tk := s1.toks) I1 _ (turn_str _ x t "str_iterator" (.inr rfl)) ⟨_, Heap.get?_push_size _ rfl, rfl, rfl⟩ q)
  · exact wpAny_pyIter_ascii ha (pi_one (tk := s1.toks) I1 _ (turn_str _ x t "str_ascii_iterator" (.inl rfl)) ⟨_, Heap.get?_push_size _ rfl, rfl, rfl⟩ q)
theorem itr_keys : PItr X tg (fun x H1 R => ∃ d o, x = .ref d ∧ ((∃ kvs, H1 d = some (.frz o (.dK kvs)) ∧ R (Itk d o kvs) H1) ∨ ∃ kvs, H1 d = some (.frz o (.dT kvs)) ∧ R (Itkt d o kvs) H1)) := by
  intro pins s1 σ H1 x u R I1 rx q
  obtain ⟨d, o, ex, q⟩ := q
  subst ex
  obtain rfl : u = Value.ref d := rx
  rcases q with ⟨kvs, hd, q⟩ | ⟨kvs, hd, q⟩
  · obtain ⟨hs, hgd, hx, es, ep, vs, hdt, hsz, kv, hm⟩ := I1.frzK hd
    refine iter_keys hs hgd hx hdt (pi_one (tk := s1.toks) I1 _ (turn_keys _ hdt) ⟨_, Heap.get?_push_size _ rfl, rfl, ?_⟩ q)
    rw [hsz] <;> rfl
  · obtain ⟨hs, hgd, hx, es, ep, hdt, hsz, ent⟩ := I1.frzT hd
    refine iter_keys hs hgd hx hdt (pi_one (tk := s1.toks) I1 _ (turn_keysT _ hdt) ⟨_, Heap.get?_push_size _ rfl, rfl, ?_⟩ q)
    rw [hsz] <;> rfl
/-- a thing locked ahead of the walk -/
theorem itr_lock {r : RI} (h : PItr X tg r) : PItr X tg (fun x H R => ∃ d u, H d = some u ∧ Mut (some u) ∧ ∀ o, r x (upd H d (.frz o u)) R) := by
  intro pins s σ H x v R I rx ⟨d, u, hd, mu, q⟩
  obtain ⟨od, I2⟩ := I.lock hd mu
  exact h pins s σ _ x v R I2 rx (q od)
/-- an expression's thing locked -/
theorem pe_lockA {e : Expr} {te : TE} (he : PE X e te) : PE X e (fun σ H Q => te σ H fun x H1 => Q x H1 ∨ ∃ d u, H1 d = some u ∧ Mut (some u) ∧ ∀ o, Q x (upd H1 d (.frz o u))) := by
  refine ⟨fun pins s σ H Q I q => ?_⟩
  refine thn (he.run pins s σ H _ I q) fun v s1 ⟨x, H1, I1, r1, q1⟩ => ?_
  rcases q1 with q1 | ⟨d, u, hd, mu, q1⟩
  · exact ⟨x, H1, I1, r1, q1⟩
  · obtain ⟨od, I2⟩ := I1.lock hd mu
    exact ⟨x, _, I2, r1, q1 od⟩
end

/-! ### ghosts -/
def fixL (l : List D) : Look := fun i _ => some l[i]?
def liveL (n : Nat) : Look := fun i S => match S[n]? with
  | some (.lst l) => some l[i]?
  | _ => none
def signs (x : Str) : List D := x.cps.toList.map fun c => .str ⟨#[c]⟩
def srcOf (d : D) (S : Sto) : Option (Look × Sto) := match d with
  | .ls l => some (fixL l, S)
  | .sq l => some (fixL l, S)
  | .tup l => some (fixL l, S)
  | .kt l => some (fixL l, S)
  | .str x => some (fixL (signs x), S)
  | .dc _ l => some (fixL (l.map (·.1)), S)
  | .ref n => match S[n]? with
    | some (.lst l) => some (liveL n, S)
    | some (.dict k _ l) => some (fixL (l.map (·.1)), S.set n (.dict k true l))
    | _ => none
  | _ => none
section
variable {g : G} {μ μ' μ1 : List Addr} {H H' H1 : Hp} {S : Sto} {K : PySem.W.Frag}
theorem src_fixed {J : It} {l : List D} (hs : ∀ i μ H S, Grow μ1 H1 μ H → W g μ H S → l.length ≤ i → J.stop i H)
    (hg : ∀ i μ H S d, Grow μ1 H1 μ H → W g μ H S → l[i]? = some d → J.go i H ∧ ∀ x H', J.yld i H x H' → Grow μ H μ H' ∧ W g μ H' S ∧ Rep g H' μ d x) : SrcOk g J (fixL l) μ1 H1 :=
  ⟨fun i μ H S gr w e => hs i μ H S gr w (List.getElem?_eq_none_iff.mp (Option.some.inj e)), fun i μ H S d gr w e => hg i μ H S d gr w (Option.some.inj e)⟩
theorem src_list {a : Addr} {l : List D} {vs : List V} (h : LsI g H1 μ1 a vs) (r : RepL g H1 μ1 l vs) : SrcOk g (Itl g.K a) (fixL l) μ1 H1 :=
  src_fixed (fun i μ H S gr w e => ⟨vs, (h.mono gr).sq, by rw [← r.length]; exact e⟩) fun i μ H S d gr w e => by
    obtain ⟨v, ev, rv⟩ := (r.mono gr).get e
    refine ⟨⟨vs, v, (h.mono gr).sq, ev⟩, ?_⟩
    rintro x H' ⟨rfl, y⟩
    have z := y vs (h.mono gr).sq
    rw [ev] at z; cases z
    exact ⟨.refl _ _, w, rv⟩
theorem src_tup {a : Addr} {l : List D} {vs : List V} (h : ∀ μ H, Grow μ1 H1 μ H → SqT g.K H a vs) (r : RepL g H1 μ1 l vs) : SrcOk g (Itt g.K a) (fixL l) μ1 H1 :=
  src_fixed (fun i μ H S gr w e => ⟨vs, h _ _ gr, by rw [← r.length]; exact e⟩) fun i μ H S d gr w e => by
    obtain ⟨v, ev, rv⟩ := (r.mono gr).get e
    refine ⟨⟨vs, v, h _ _ gr, ev⟩, ?_⟩
    rintro x H' ⟨rfl, y⟩
    have z := y vs (h _ _ gr)
    rw [ev] at z; cases z
    exact ⟨.refl _ _, w, rv⟩
theorem src_str {x : Str} : SrcOk g (Its x) (fixL (signs x)) μ1 H1 :=
  src_fixed (fun i μ H S gr w e => by show x.cps.size ≤ i; simpa [signs] using e) fun i μ H S d gr w e => by
    simp only [signs, List.getElem?_map, Option.map_eq_some_iff] at e
    obtain ⟨c, ec, rfl⟩ := e
    rw [Array.getElem?_toList] at ec
    refine ⟨(Array.getElem?_eq_some_iff.mp ec).1, ?_⟩
    rintro y H' ⟨rfl, c', ec', rfl⟩
    rw [ec] at ec'; cases ec'
    exact ⟨.refl _ _, w, by simp [Rep]⟩
theorem RepK.get : ∀ {l : List (D × D)} {ks : List (Key × V)} {i : Nat} {k : Key} {v : V}, RepK g H μ l ks → ks[i]? = some (k, v) → ∃ d, l[i]? = some (kD k, d) ∧ Rep g H μ d v
  | [], ks, i, k, v, r, e => by simp only [RepK] at r; subst r; simp at e
  | p :: l, ks, i, k, v, r, e => by
    simp only [RepK] at r
    obtain ⟨k', v', t, rfl, e1, q, z⟩ := r
    cases i with
    | zero => simp at e; obtain ⟨rfl, rfl⟩ := e; exact ⟨p.2, by simp [← e1], q⟩
    | succ i => simp at e; obtain ⟨d, h1, h2⟩ := RepK.get z e; exact ⟨d, by simpa using h1, h2⟩
theorem RepT.get : ∀ {l : List (D × D)} {ks : List (List Key × V)} {i : Nat} {k : List Key} {v : V}, RepT g H μ l ks → ks[i]? = some (k, v) → ∃ d, l[i]? = some (tD k, d) ∧ Rep g H μ d v
  | [], ks, i, k, v, r, e => by simp only [RepT] at r; subst r; simp at e
  | p :: l, ks, i, k, v, r, e => by
    simp only [RepT] at r
    obtain ⟨k', v', t, rfl, e1, q, z⟩ := r
    cases i with
    | zero => simp at e; obtain ⟨rfl, rfl⟩ := e; exact ⟨p.2, by simp [← e1], q⟩
    | succ i => simp at e; obtain ⟨d, h1, h2⟩ := RepT.get z e; exact ⟨d, by simpa using h1, h2⟩
theorem src_keysK {a : Addr} {o : Obj} {l : List (D × D)} {ks : List (Key × V)} (h : H1 a = some (.frz o (.dK ks))) (r : RepK g H1 μ1 l ks) : SrcOk g (Itk a o ks) (fixL (l.map (·.1))) μ1 H1 :=
  src_fixed (fun i μ H S gr w e => ⟨gr.fz _ _ _ h, by rw [← repK_len r]; simpa using e⟩) fun i μ H S d gr w e => by
    have hi : i < ks.length := by rw [← repK_len r]; have := (List.getElem?_eq_some_iff.mp e).1; simpa using this
    refine ⟨⟨gr.fz _ _ _ h, hi⟩, ?_⟩
    rintro x H' ⟨rfl, k, v, ek, rfl⟩
    obtain ⟨z, hz, _⟩ := r.get ek
    rw [List.getElem?_map, hz] at e
    cases e
    exact ⟨.refl _ _, w, rep_kD.mpr rfl⟩
theorem rep_tup {p : Addr} {l : List D} {vs : List V} (w : W g μ H S) (h : H p = some (.tup vs)) (r : RepL g H μ l vs) : Rep g H μ (.tup l) (.ref p) := by
  simp only [Rep]
  refine ⟨p, vs, rfl, fun m => ?_, h, r⟩
  obtain ⟨u, e, _, _, n, _⟩ := w.there m
  rw [h] at e; cases e; exact n vs rfl
theorem repL_keys : ∀ {k : List Key}, RepL g H μ (k.map kD) (k.map kV)
  | [] => .nil
  | k :: r => .cons (rep_kD.mpr rfl) repL_keys
theorem src_keysT {a : Addr} {o : Obj} {l : List (D × D)} {ks : List (List Key × V)} (h : H1 a = some (.frz o (.dT ks))) (r : RepT g H1 μ1 l ks) : SrcOk g (Itkt a o ks) (fixL (l.map (·.1))) μ1 H1 :=
  src_fixed (fun i μ H S gr w e => ⟨gr.fz _ _ _ h, by rw [← repT_len r]; simpa using e⟩) fun i μ H S d gr w e => by
    have hi : i < ks.length := by rw [← repT_len r]; have := (List.getElem?_eq_some_iff.mp e).1; simpa using this
    refine ⟨⟨gr.fz _ _ _ h, hi⟩, ?_⟩
    rintro x H' ⟨rfl, k, v, q, ek, rfl, hq⟩
    obtain ⟨z, hz, _⟩ := r.get ek
    rw [List.getElem?_map, hz] at e
    cases e
    exact ⟨.refl _ _, w, rep_tup w hq repL_keys⟩
theorem src_live {n : Nat} {a : Addr} (h : μ1[n]? = some a) : SrcOk g (Itl g.K a) (liveL n) μ1 H1 := by
  refine ⟨fun i μ H S gr w e => ?_, fun i μ H S d gr w e => ?_⟩
  · unfold liveL at e
    split at e
    · rename_i l hs
      obtain ⟨vs, h1, q⟩ := w.cell n a _ (gr.get h) hs
      exact ⟨vs, .of h1, by rw [← q.length]; exact List.getElem?_eq_none_iff.mp (Option.some.inj e)⟩
    · cases e
  · unfold liveL at e
    split at e
    · rename_i l hs
      obtain ⟨vs, h1, q⟩ := w.cell n a _ (gr.get h) hs
      obtain ⟨v, ev, rv⟩ := q.get (Option.some.inj e)
      refine ⟨⟨vs, v, .of h1, ev⟩, ?_⟩
      rintro x H' ⟨rfl, y⟩
      have z := y vs (.of h1)
      rw [ev] at z; cases z
      exact ⟨.refl _ _, w, rv⟩
    · cases e
theorem grow_lockF {d : Addr} {o : Obj} {u : HO} (h : H d = some u) (hd : isDic u = true) (hz : ∀ o x, u ≠ .frz o x) : Grow μ H μ (upd H d (.frz o u)) := by
  refine ⟨⟨⟨[], by simp, by simp⟩, fun b v _ e _ => ?_, fun b v e n => ?_⟩, fun b x v e => ?_⟩
  · by_cases z : b = d
    · subst z
      rw [h] at e; cases e
      refine ⟨_, upd_same, ?_⟩
      rw [core_self hz]; simp only [core, if_pos hd]
    · exact ⟨v, by rw [upd_ne z]; exact e, rfl⟩
  · by_cases z : b = d
    · subst z; exact ⟨_, upd_same, by simp⟩
    · exact ⟨v, by rw [upd_ne z]; exact e, n⟩
  · rw [upd_ne (fun z => by subst z; rw [h] at e; cases e; exact hz _ _ rfl)]; exact e
/-- a frozen dict is locked -/
theorem W.lockF {d : Addr} {o : Obj} {u : HO} (w : W g μ H S) (hm : d ∉ μ) (h : H d = some u) (hd : isDic u = true) (hz : ∀ o x, u ≠ .frz o x) : W g μ (upd H d (.frz o u)) S where
  len := w.len
  nd := w.nd
  cell := fun n a c e1 e2 => (w.cell n a c e1 e2).mono (grow_lockF h hd hz) (upd_ne fun z => hm (by rw [← z]; exact List.mem_of_getElem? e1))
  tb := g.tbk _ _ (fun b v e q => by
    rw [upd_ne (fun z => ?_)]
    · exact e
    · subst z
      rw [h] at e; cases e
      rcases q with ⟨ps, rfl⟩ | ⟨φ, rfl⟩ <;> cases hd) w.tb
/-- a dict of the store is locked -/
theorem W.lockC {n : Nat} {a : Addr} {o : Obj} {u : HO} {k : Nat} {l : List (D × D)} (w : W g μ H S) (e : μ[n]? = some a) (h : H a = some u) (hq : DicAt g H μ k l u) : W g μ (upd H a (.frz o u)) (S.set n (.dict k true l)) ∧ Grow μ H μ (upd H a (.frz o u)) := by
  have hd : isDic u = true := by rcases hq with ⟨_, _, rfl, _⟩ | ⟨_, _, rfl, _⟩ <;> rfl
  have hz : ∀ o x, u ≠ .frz o x := by rcases hq with ⟨_, _, rfl, _⟩ | ⟨_, _, rfl, _⟩ <;> simp
  have gr : Grow μ H μ (upd H a (.frz o u)) := grow_lockF h hd hz
  exact ⟨w.set e ⟨u, hq.mono gr, by rw [if_pos rfl]; exact ⟨o, upd_same⟩⟩, gr⟩
end
def rSrc (g : G) : RI := fun v H R => ∃ d S μ, W g μ H S ∧ Rep g H μ d v ∧ match srcOf d S with
  | some (lk, S') => ∀ J H' μ', Grow μ H μ' H' → W g μ' H' S' → SrcOk g J lk μ' H' → R J H'
  | none => False
theorem rd_cases {H : Hp} {a : Addr} {u : HO} (h : Rd H a u) : H a = some u ∨ ∃ o, H a = some (.frz o u) := h
theorem set_self {S : Sto} {n : Nat} {c : Cell} (h : S[n]? = some c) : S.set n c = S := by
  apply List.ext_getElem?
  intro i
  by_cases z : n = i
  · subst z
    rw [List.getElem?_set_self (List.getElem?_eq_some_iff.mp h).1, h]
  · rw [List.getElem?_set_ne z]
section
variable {g : G} {N : List Str} {sc : Scope} {L : Nat} {Wx : WX} {X : Cx} {tg : Expr}
theorem itr_src (C : CtxOk g N sc L Wx X) : PItr X tg (rSrc g) := PItr.pick fun v H R h => by
  obtain ⟨d, S, μ, w, r, h⟩ := h
  unfold srcOf at h
  cases d with
  | ls l =>
    simp only [Rep] at r
    obtain ⟨p, vs, rfl, n, h1, q⟩ := r
    refine ⟨_, itr_list, p, rfl, ⟨vs, .of h1⟩, ?_⟩
    rw [C.K]
    exact h _ H μ (.refl _ _) w (src_list (.inl ⟨n, .inl h1⟩) q)
  | sq l =>
    simp only [Rep] at r
    obtain ⟨p, vs, rfl, h1, q⟩ := r
    refine ⟨_, itr_list, p, rfl, ⟨vs, by rw [C.K]; exact h1.sq⟩, ?_⟩
    rw [C.K]
    exact h _ H μ (.refl _ _) w (src_list h1 q)
  | tup l =>
    simp only [Rep] at r
    obtain ⟨p, vs, rfl, n, h1, q⟩ := r
    refine ⟨_, itr_tup, p, rfl, ⟨vs, .of h1⟩, ?_⟩
    rw [C.K]
    exact h _ H μ (.refl _ _) w (src_tup (fun μ' H' gr => .of (gr.at n h1 rfl rfl fun ps z => by cases z)) q)
  | kt l =>
    simp only [Rep] at r
    obtain ⟨p, vs, rfl, h1, q⟩ := r
    refine ⟨_, itr_tup, p, rfl, ⟨vs, by rw [C.K]; exact h1.sq⟩, ?_⟩
    rw [C.K]
    exact h _ H μ (.refl _ _) w (src_tup (fun μ' H' gr => h1.sq) q)
  | str x =>
    simp only [Rep] at r
    exact ⟨_, itr_str, x, r, h _ H μ (.refl _ _) w src_str⟩
  | dc k l =>
    simp only [Rep] at r
    obtain ⟨a, rfl, n, ⟨_, ks, rd, q⟩ | ⟨_, ks, rd, q⟩⟩ := r
    · rcases rd_cases rd with hd | ⟨o, hd⟩
      · refine ⟨_, itr_lock itr_keys, a, _, hd, trivial, fun o => ⟨a, o, rfl, .inl ⟨ks, upd_same, ?_⟩⟩⟩
        have gr : Grow μ H μ (upd H a (.frz o (.dK ks))) := grow_lockF hd rfl (by simp)
        exact h _ _ μ gr (w.lockF n hd rfl (by simp)) (src_keysK upd_same (q.mono gr))
      · exact ⟨_, itr_keys, a, o, rfl, .inl ⟨ks, hd, h _ _ μ (.refl _ _) w (src_keysK hd q)⟩⟩
    · rcases rd_cases rd with hd | ⟨o, hd⟩
      · refine ⟨_, itr_lock itr_keys, a, _, hd, trivial, fun o => ⟨a, o, rfl, .inr ⟨ks, upd_same, ?_⟩⟩⟩
        have gr : Grow μ H μ (upd H a (.frz o (.dT ks))) := grow_lockF hd rfl (by simp)
        exact h _ _ μ gr (w.lockF n hd rfl (by simp)) (src_keysT upd_same (q.mono gr))
      · exact ⟨_, itr_keys, a, o, rfl, .inr ⟨ks, hd, h _ _ μ (.refl _ _) w (src_keysT hd q)⟩⟩
  | ref n =>
    simp only at h
    split at h
    · rename_i lk S' e
      split at e
      · rename_i l hs
        cases e
        obtain ⟨a, rfl, ha, hm, vs, h1, q⟩ := w.ref r hs
        refine ⟨_, itr_list, a, rfl, ⟨vs, .of h1⟩, ?_⟩
        rw [C.K]
        exact h _ H μ (.refl _ _) w (src_live ha)
      · rename_i k b l hs
        cases e
        obtain ⟨a, rfl, ha, hm, u, hq, h1⟩ := w.ref r hs
        cases b with
        | true =>
          rw [if_pos rfl] at h1
          obtain ⟨o, h1⟩ := h1
          rw [set_self hs] at h
          refine ⟨_, itr_keys, a, o, rfl, ?_⟩
          rcases hq with ⟨_, ks, rfl, q⟩ | ⟨_, ks, rfl, q⟩
          · exact .inl ⟨ks, h1, h _ _ μ (.refl _ _) w (src_keysK h1 q)⟩
          · exact .inr ⟨ks, h1, h _ _ μ (.refl _ _) w (src_keysT h1 q)⟩
        | false =>
          rw [if_neg (by simp)] at h1
          refine ⟨_, itr_lock itr_keys, a, _, h1, by rcases hq with ⟨_, ks, rfl, _⟩ | ⟨_, ks, rfl, _⟩ <;> trivial, fun o => ⟨a, o, rfl, ?_⟩⟩
          obtain ⟨w', gr⟩ := w.lockC (o := o) ha h1 hq
          rcases hq with ⟨_, ks, rfl, q⟩ | ⟨_, ks, rfl, q⟩
          · exact .inl ⟨ks, upd_same, h _ _ μ gr w' (src_keysK upd_same (q.mono gr))⟩
          · exact .inr ⟨ks, upd_same, h _ _ μ gr w' (src_keysT upd_same (q.mono gr))⟩
      · cases e
    · exact h.elim
  | non => exact h.elim
  | bl => exact h.elim
  | int => exact h.elim
  | ob => exact h.elim
  | fn => exact h.elim
end
/-- the dict that is locked by a walk -/
def ulOf (d : D) (S : Sto) : Option Nat := match d with
  | .ref m => match S[m]? with
    | some (.dict _ false _) => some m
    | _ => none
  | _ => none
/-- for x in e -/
def gSrc (f : D → Sto → Option (Look × Sto)) (a : GE) : GI := fun ρ S => match a ρ S with
  | .ok d S1 => match f d S1 with
    | some (lk, S2) => .ok lk S2 (ulOf d S1)
    | none => .bad
  | .exc c S1 => .exc c S1
  | .bad => .bad
section
variable {g : G} {N : List Str} {sc : Scope} {L : Nat} {tg e : Expr} {me : GE} {pos p : Pos}
theorem ulOf_at {μ μ' : List Addr} {H H' : Hp} {S : Sto} {d : D} {v : V} (w : W g μ H S) (r : Rep g H μ d v) (gr : Grow μ H μ' H') : UlAt H μ' (ulOf d S) := by
  intro m e
  unfold ulOf at e
  split at e
  · split at e
    · rename_i k l hs
      cases e
      obtain ⟨a, ha, hm, u, hq, hl⟩ := w.ix hs
      rw [if_neg (by simp)] at hl
      refine ⟨a, gr.get ha, fun o x z => ?_⟩
      rw [hl] at z; cases z
      rcases hq with ⟨_, ks, q, _⟩ | ⟨_, ks, q, _⟩ <;> cases q
    · cases e
  · cases e
theorem PostI.ex {μ : List Addr} {H : Hp} {r : Res} {f : D → Sto → Option (Look × Sto)} {R : It → Hp → Prop} {E : Str → Hp → Prop} {K : VK}
    (h : PostI g μ H (match r with
      | .ok d S1 => match f d S1 with
        | some (lk, S2) => .ok lk S2 (ulOf d S1)
        | none => .bad
      | .exc c S1 => .exc c S1
      | .bad => .bad) R E)
    (k : ∀ d S1 v H1 μ1, Grow μ H μ1 H1 → W g μ1 H1 S1 → Rep g H1 μ1 d v → (match f d S1 with
      | some (lk, S2) => ∀ J H' μ', Grow μ1 H1 μ' H' → W g μ' H' S2 → SrcOk g J lk μ' H' → R J H'
      | none => False) → K v H1) : PostR g μ H r K E := by
  cases r with
  | ok d S1 =>
    intro v H1 μ1 g1 w1 r1
    refine k d S1 v H1 μ1 g1 w1 r1 ?_
    simp only at h
    split at h
    · exact fun J H' μ' gr w s => h J H' μ' (g1.trans gr) w s ((ulOf_at w1 r1 gr).back g1)
    · exact h.elim
  | exc c S1 => exact h
  | bad => exact h
theorem ri_src (he : Real g N sc L e me) : RealI g N sc L tg e (gSrc srcOf me) := by
  intro Wx X C
  refine (pi_of (he Wx X C) (itr_src C)).weak ?_
  rintro σ H R ⟨ρ, S, μ, hρ, hw, h⟩
  refine ⟨ρ, S, μ, hρ, hw, PostI.ex (f := srcOf) h fun d S1 v H1 μ1 g1 w1 r1 h1 => ⟨d, S1, μ1, w1, r1, h1⟩⟩
end
end Gp

set_option Elab.async false
set_option linter.all false
set_option maxRecDepth 100000
/-! Gp12: range, enumerate, the walks of dicts -/
namespace PySem
open Sem (wp)
set_option maxHeartbeats 1000000 in
theorem gp_meets_enumerate_newB {v : Value} {o : Obj} {H : Heap → Prop} (B : Begins v o H) :
    Meets (Builtin.«enumerate.__new__» ⟨[.type "enumerate", v], []⟩) (fun _ R s => H s.heap ∧
      R (.ok (.ret (.ref (s.heap.push o).objs.size))) { s with heap := (s.heap.push o).push { cls := .type "enumerate", data := .fields #[.none, .bool false, .ref s.heap.objs.size, rawInt 0, .none, .none] } }) :=
  .of_wp fun prog w A R s h => by
    obtain ⟨hp, g, d, tk, os⟩ := s; obtain ⟨h1, h⟩ := h
    have hsub := sub_enumerate
    have q1 : ∀ {A' : Around} {E : Value → Shared → Prop} {Q : Value → Shared → Prop}, Q (.ref hp.objs.size) ⟨hp.push o, g, d, tk, os⟩ → wpAny (model prog w) A' (pyIter v) Q E ⟨hp, g, d, tk, os⟩ :=
      fun q => B.iter prog w _ _ ⟨hp, g, d, tk, os⟩ _ h1 q
    wp_walk using q1
    refine wpAny_stack_any fun st => wpAny_pure ?_
    split
    · rename_i c _ _ _ _ _
      cases (c == Value.type "enumerate")
      · wp_walk using q1
        exact ⟨_, rfl, h⟩
      · wp_walk using q1
        exact ⟨_, rfl, h⟩
    · wp_walk using q1
      exact ⟨_, rfl, h⟩
section
variable {prog : Program} {w : World} {A : Around} {E : Value → Shared → Prop} {s : Shared}
theorem gp_enum_begins {v : Value} {o : Obj} {H : Heap → Prop} {Q : Value → Shared → Prop} (B : Begins v o H) (h1 : H s.heap)
    (h : ∀ h', IsEnum h' (s.heap.objs.size + 1) s.heap.objs.size 0 .none → h'.get? s.heap.objs.size = some o → h'.objs.size = s.heap.objs.size + 2 →
      (∀ b o, s.heap.get? b = some o → h'.get? b = some o) → Q (.ref (s.heap.objs.size + 1)) { s with heap := h' }) :
    wpAny (model prog w) A (call (.type "enumerate") [v]) Q E s := by
  refine callType_new F.called_enumerate (by decide) (F.typeCall_enumerate_1 _) (F.newCall_enumerate_1 _) (fun obj => F.args_object_init_2 obj _) F.entry_enumerate_new
    (gp_meets_enumerate_newB B) ⟨h1, ?_⟩
  have hz : (s.heap.push o).objs.size = s.heap.objs.size + 1 := Heap.size_push ..
  show _ ∧ _
  rw [hz]
  have he : IsEnum ((s.heap.push o).push { cls := .type "enumerate", data := .fields #[.none, .bool false, .ref s.heap.objs.size, rawInt 0, .none, .none] }) (s.heap.objs.size + 1) s.heap.objs.size 0 .none := by
    have := Heap.get?_push_size (s.heap.push o) (o := { cls := .type "enumerate", data := .fields #[.none, .bool false, .ref s.heap.objs.size, rawInt 0, .none, .none] }) rfl
    rw [hz] at this; exact this
  refine ⟨⟨_, he, rfl⟩, h _ he (Heap.get?_push_of_some _ (Heap.get?_push_size _ B.free)) (by rw [Heap.size_push, hz]) fun b o x => Heap.get?_push_of_some _ (Heap.get?_push_of_some _ x)⟩
theorem gp_enum_end {e it : Addr} {i : Int} {old : Value} {Q : Option Value → Shared → Prop} (he : IsEnum s.heap e it i old)
    (hdone : ∀ (Q : Value → Shared → Prop) (E : Value → Shared → Prop), (∀ h' e, Heap.ExtBut it s.heap h' → (∃ o, h'.get? e = some o ∧ o.cls = .type "StopIteration") → E (.ref e) { s with heap := h' }) → wpAny (model prog w) A.in1 (Builtin.SmallTypes.nextOf (.ref it)) Q E s)
    (hQ : ∀ h', Heap.ExtBut it s.heap h' → Q none { s with heap := h' }) : wpAny (model prog w) A (pyNext (.ref e)) Q E s := by
  have hT : s.TypeIs (.ref e) "enumerate" := ⟨_, he, rfl⟩
  unfold pyNext
  refine wpAny_bind (wpAny_attempt (wpAny_callSpecial?_slot (name := Str.ofString "__next__") hT F.slot_enumerate_next
    (wpAny_call_entry F.slot_enumerate_next hT F.entry_enumerate_next ?_ (F.args_enumerate_next_1 _))))
  show wpAny _ _ (field (.ref e) 2 >>= _) _ _ _
  refine wpAny_bind (wpAny_field he rfl (x := .ref it) rfl ?_)
  refine wpAny_bind (hdone _ _ fun h' x he' hx' => ?_)
  obtain ⟨o, ho, hc⟩ := hx'
  refine wpAny_bind (wpAny_isInstance (T := "StopIteration") (b := true) ⟨o, ho, hc⟩ isSubtype_stop ?_)
  exact wpAny_pure (hQ _ he')
end
end PySem
namespace Gp
open PySem PySem.Spec L2
open PyProof.Rows hiding St
/-! ### enumerate over a tuple, a text -/
def Itet (K : PySem.W.Frag) (a : Addr) : It :=
  ⟨fun i H => ∃ (xs : List V) (x : V), SqT K H a xs ∧ xs[i]? = some x, fun i H v H' => ∃ T x, v = .ref T ∧ H T = none ∧ H' = upd H T (.tup [.int (i : Nat), x]) ∧ ∀ xs, SqT K H a xs → xs[i]? = some x, fun i H => ∃ xs : List V, SqT K H a xs ∧ xs.length ≤ i⟩
def Ites (x : Str) : It :=
  ⟨fun i _ => i < x.cps.size, fun i H v H' => ∃ T c, v = .ref T ∧ H T = none ∧ H' = upd H T (.tup [.int (i : Nat), .str ⟨#[c]⟩]) ∧ x.cps[i]? = some c, fun i _ => x.cps.size ≤ i⟩
section
variable {P : Program} {w : World} {K : PySem.W.Frag} {elts : List Expr} {kk : Nat} {tpos : Pos}
theorem turn_enumT (a e it : Addr) (hai : a ≠ it) (hae : a ≠ e) :
    Turn P w K (.Tuple elts kk tpos) (Itet K a) [e, it] e (fun i h => (∃ old, IsEnum h e it ((i : Nat) : Int) old) ∧ h.IsTupleIter it a i ∧ e ≠ it) where
  mem := by simp
  obj := fun i h st b hb => by
    obtain ⟨⟨old, he⟩, ⟨o, ho, hc, hd⟩, _⟩ := st
    have e' : b = e ∨ b = it := by simpa using hb
    rcases e' with z | z
    · rw [z]; exact ⟨_, he, fun v q => nomatch q⟩
    · rw [z]; exact ⟨o, ho, fun v q => by rw [hd] at q; cases q⟩
  keep := fun i h h' st k => let ⟨⟨old, he⟩, hi, hne⟩ := st; ⟨⟨old, k e (by simp) _ he⟩, hi.at fun o q => k it (by simp) o q, hne⟩
  item := by
    intro X hP hw hK hc i pins s σ H E I hf st hg
    subst hP hw hK
    obtain ⟨⟨old, he⟩, hit, hne⟩ := st
    obtain ⟨xs, x, hq, hx⟩ := hg
    obtain ⟨its, rv, p, hz⟩ := I.tuple hq
    obtain ⟨u, hu, ru⟩ := rv.get hx
    have hel : e < s.heap.objs.size := Heap.lt_size he
    have hil : it < s.heap.objs.size := by obtain ⟨_, q, _⟩ := hit; exact Heap.lt_size q
    have hui : i < its.toArray.size := by have := (List.getElem?_eq_some_iff.mp hu).1; simpa using this
    refine wpAny_pyNext_enum_itemD (Draws.tuple (A := X.A.in1) (show X.A.in1.handled = none from (I.ok.hd hc)) it a hai its.toArray) he ⟨hit, show s.heap.IsTuple a its.toArray from p⟩ hui hne (by simp [hne, Ne.symm hae]) fun y h' tk hy ho hst hT hsz hk => ?_
    obtain ⟨hit', _⟩ := hst
    have hyu : y = u := by
      have hu' : its.toArray[i]? = some u := by simpa using hu
      rw [hu'] at hy; exact (Option.some.inj hy).symm
    subst hyu
    refine ⟨_, rfl, wpAny_letOwnedTupleGo_enum (s := { s with heap := h', toks := tk + 1 }) ho fun h'' he' sb => ?_⟩
    have hT2 : h''.get? s.heap.objs.size = some { cls := .type "tuple", data := .seq #[.int i tk, y] } := (sb.2 _ (Nat.ne_of_gt hel)).trans hT
    have new : ObjOk X.prog X.w (upd H s.heap.objs.size (.tup [.int (i : Nat), x])) h'' s.heap.objs.size (.tup [.int (i : Nat), x]) :=
      ⟨by show 2 ≤ sizeLine; decide, [.int i tk, y], .cons ⟨_, rfl⟩ (.cons ru .nil), ⟨_, hT2, rfl, _, rfl⟩⟩
    have I1 : Inv X pins σ (upd H s.heap.objs.size (.tup [.int (i : Nat), x])) { s with heap := h'', toks := tk + 1 } :=
      I.turnedNew (ch := [e, it]) (fun b ob hb q => (sb.2 b (fun z => hb (by simp [z]))).trans (hk b ob (fun z => hb (by simp [z])) (fun z => hb (by simp [z])) q)) hf (Nat.le_refl _) new
    refine ⟨.ref s.heap.objs.size, _, I1, rfl, ⟨_, x, rfl, I.hok.fresh (Nat.le_refl _), rfl, fun ys hy => by rw [I.tuple_inj hy hq]; exact hx⟩, ⟨⟨y, ?_⟩, hit'.at fun o q => (sb.2 it (Ne.symm hne)).trans q, hne⟩, fun b hb => ?_⟩
    · have e1 : ((i + 1 : Nat) : Int) = (i : Int) + 1 := by omega
      rw [e1]; exact he'
    · have hb' : b < s.heap.objs.size := by
        have e' : b = e ∨ b = it := by simpa using hb
        rcases e' with z | z
        · rw [z]; exact hel
        · rw [z]; exact hil
      rw [upd_ne (Nat.ne_of_lt hb')]
      exact (hf b hb).1
  done := by
    intro X hP hw hK hc i pins s σ H E I hf st hg
    subst hP hw hK
    obtain ⟨⟨old, he⟩, hit, hne⟩ := st
    obtain ⟨xs, hq, hx⟩ := hg
    obtain ⟨its, rv, p, hz⟩ := I.tuple hq
    obtain ⟨f0, f1, f2, f3, f4, f5⟩ := hf it (by simp)
    have hl := rv.length
    exact gp_enum_end he (fun Q E hE => wpAny_nextOf_tuple_end (show X.A.in1.handled = none from (I.ok.hd hc)) hit (show s.heap.IsTuple a its.toArray from p) (Array.getElem?_eq_none (by simp; omega)) hE) fun h' eb => ⟨rfl, I.turned (t' := s.toks) (fun b o hb q => eb b o hb q) f0 f1 f3 f4 f5⟩
  self := fun A i s Q E st h => let ⟨⟨_, he⟩, _⟩ := st; wpAny_pyIter_enum he h
theorem turn_enumS {x : Str} {t : Tok} (e it : Addr) :
    Turn P w K (.Tuple elts kk tpos) (Ites x) [e, it] e (fun i h => (∃ old, IsEnum h e it ((i : Nat) : Int) old) ∧ h.IsStrIter it (strIterType x) x t i ∧ e ≠ it) where
  mem := by simp
  obj := fun i h st b hb => by
    obtain ⟨⟨old, he⟩, ⟨o, ho, hc, hd⟩, _⟩ := st
    have e' : b = e ∨ b = it := by simpa using hb
    rcases e' with z | z
    · rw [z]; exact ⟨_, he, fun v q => nomatch q⟩
    · rw [z]; exact ⟨o, ho, fun v q => by rw [hd] at q; cases q⟩
  keep := fun i h h' st k => let ⟨⟨old, he⟩, ⟨o, ho, r⟩, hne⟩ := st; ⟨⟨old, k e (by simp) _ he⟩, ⟨o, k it (by simp) o ho, r⟩, hne⟩
  item := by
    intro X hP hw hK hc i pins s σ H E I hf st hg
    subst hP hw hK
    obtain ⟨⟨old, he⟩, hit, hne⟩ := st
    have hel : e < s.heap.objs.size := Heap.lt_size he
    have hil : it < s.heap.objs.size := by obtain ⟨_, q, _⟩ := hit; exact Heap.lt_size q
    refine wpAny_pyNext_enum_itemD (Draws.text (A := X.A.in1) (show X.A.in1.handled = none from (I.ok.hd hc)) it x t) he hit hg hne (by simp [hne]) fun y h' tk hy ho hit' hT hsz hk => ?_
    obtain ⟨c, u, hcx, rfl⟩ := hy
    refine ⟨_, rfl, wpAny_letOwnedTupleGo_enum (s := { s with heap := h', toks := tk + 1 }) ho fun h'' he' sb => ?_⟩
    have hT2 : h''.get? s.heap.objs.size = some { cls := .type "tuple", data := .seq #[.int i tk, .str ⟨#[c]⟩ u] } := (sb.2 _ (Nat.ne_of_gt hel)).trans hT
    have new : ObjOk X.prog X.w (upd H s.heap.objs.size (.tup [.int (i : Nat), .str ⟨#[c]⟩])) h'' s.heap.objs.size (.tup [.int (i : Nat), .str ⟨#[c]⟩]) :=
      ⟨by show 2 ≤ sizeLine; decide, [.int i tk, .str ⟨#[c]⟩ u], .cons ⟨_, rfl⟩ (.cons ⟨_, rfl⟩ .nil), ⟨_, hT2, rfl, _, rfl⟩⟩
    have I1 : Inv X pins σ (upd H s.heap.objs.size (.tup [.int (i : Nat), .str ⟨#[c]⟩])) { s with heap := h'', toks := tk + 1 } :=
      I.turnedNew (ch := [e, it]) (fun b ob hb q => (sb.2 b (fun z => hb (by simp [z]))).trans (hk b ob (fun z => hb (by simp [z])) (fun z => hb (by simp [z])) q)) hf (Nat.le_refl _) new
    refine ⟨.ref s.heap.objs.size, _, I1, rfl, ⟨_, c, rfl, I.hok.fresh (Nat.le_refl _), rfl, hcx⟩, ⟨⟨.str ⟨#[c]⟩ u, ?_⟩, ?_, hne⟩, fun b hb => ?_⟩
    · have e1 : ((i + 1 : Nat) : Int) = (i : Int) + 1 := by omega
      rw [e1]; exact he'
    · obtain ⟨o, ho, r⟩ := hit'
      exact ⟨o, (sb.2 it (Ne.symm hne)).trans ho, r⟩
    · have hb' : b < s.heap.objs.size := by
        have e' : b = e ∨ b = it := by simpa using hb
        rcases e' with z | z
        · rw [z]; exact hel
        · rw [z]; exact hil
      rw [upd_ne (Nat.ne_of_lt hb')]
      exact (hf b hb).1
  done := by
    intro X hP hw hK hc i pins s σ H E I hf st hg
    subst hP hw hK
    obtain ⟨⟨old, he⟩, hit, hne⟩ := st
    obtain ⟨f0, f1, f2, f3, f4, f5⟩ := hf it (by simp)
    have hx : x.cps[i]? = none := Array.getElem?_eq_none hg
    refine gp_enum_end he (fun Q E hE => ?_) fun h' eb => ⟨rfl, I.turned (t' := s.toks) (fun b o hb q => eb b o hb q) f0 f1 f3 f4 f5⟩
    unfold strIterType at hit
    split at hit
    · exact wpAny_nextOf_ascii_end (show X.A.in1.handled = none from (I.ok.hd hc)) hit hx hE
    · exact wpAny_nextOf_wide_end (show X.A.in1.handled = none from (I.ok.hd hc)) hit hx hE
  self := fun A i s Q E st h => let ⟨⟨_, he⟩, _⟩ := st; wpAny_pyIter_enum he h
end
/-- enumerate(v), by values -/
def PEnum (X : Cx) (tg : Expr) (r : RI) : Prop := ∀ (pins : List (Addr × Obj)) (s : Shared) (σ : St) (H : Hp) (v : V) (u : Value) (R : It → Hp → Prop), Inv X pins σ H s → RelV v u → r v H R →
  wpAny (model X.prog X.w) X.A (call (.type "enumerate") [u]) (fun z s1 => wpAny (model X.prog X.w) X.A (pyIter z) (PIE X pins σ tg R) X.xe s1) X.xe s
theorem PEnum.pick {X : Cx} {tg : Expr} {r' : RI} (h : ∀ v H R, r' v H R → ∃ r, PEnum X tg r ∧ r v H R) : PEnum X tg r' := fun pins s σ H v u R I rv q => by
  obtain ⟨r, k, z⟩ := h v H R q
  exact k pins s σ H v u R I rv z
section
variable {X : Cx} {elts : List Expr} {kk : Nat} {tpos : Pos}
theorem enum_list : PEnum X (.Tuple elts kk tpos) (fun v H R => ∃ a xs, v = .ref a ∧ SqL X.K H a xs ∧ R (Ite X.K a) H) := by
  intro pins s1 σ H1 v u R I1 r q
  obtain ⟨a, xs, rfl, hq, q⟩ := q
  cases r
  obtain ⟨its, rv, p', hz⟩ := I1.list hq
  refine call_enumerate_list p'.isList fun h' he hit hsz hk => wpAny_pyIter_enum he ?_
  have I2 : Inv X pins σ H1 { s1 with heap := h' } := I1.kept (t' := s1.toks) hk
  refine ⟨s1.heap.objs.size + 1, [s1.heap.objs.size + 1, s1.heap.objs.size], _, _, H1, rfl, I2, turn_enum a (s1.heap.objs.size + 1) s1.heap.objs.size, ⟨⟨.none, he⟩, hit, Nat.succ_ne_self _⟩, fun b hb => ?_, q⟩
  have e' : b = s1.heap.objs.size + 1 ∨ b = s1.heap.objs.size := by simpa using hb
  have hle : s1.heap.objs.size ≤ b := by
    rcases e' with z | z
    · rw [z]; exact Nat.le_add_right _ _
    · rw [z]; exact Nat.le_refl _
  exact I1.fpOk hle (I1.hok.fresh hle)
theorem enum_tup : PEnum X (.Tuple elts kk tpos) (fun v H R => ∃ a xs, v = .ref a ∧ SqT X.K H a xs ∧ R (Itet X.K a) H) := by
  intro pins s1 σ H1 v u R I1 r q
  obtain ⟨a, xs, rfl, hq, q⟩ := q
  cases r
  obtain ⟨its, rv, p', hz⟩ := I1.tuple hq
  have hal : a < s1.heap.objs.size := by obtain ⟨o, ho, _⟩ := id p'; exact Heap.lt_size ho
  refine gp_enum_begins (begins_tuple a its.toArray) (show s1.heap.IsTuple a its.toArray from p') fun h' he hit hsz hk => wpAny_pyIter_enum he ?_
  have I2 : Inv X pins σ H1 { s1 with heap := h' } := I1.kept (t' := s1.toks) hk
  refine ⟨s1.heap.objs.size + 1, [s1.heap.objs.size + 1, s1.heap.objs.size], _, _, H1, rfl, I2, turn_enumT a (s1.heap.objs.size + 1) s1.heap.objs.size (Nat.ne_of_lt hal) (Nat.ne_of_lt (Nat.lt_succ_of_lt hal)), ⟨⟨.none, he⟩, ⟨_, hit, rfl, rfl⟩, Nat.succ_ne_self _⟩, fun b hb => ?_, q⟩
  have e' : b = s1.heap.objs.size + 1 ∨ b = s1.heap.objs.size := by simpa using hb
  have hle : s1.heap.objs.size ≤ b := by
    rcases e' with z | z
    · rw [z]; exact Nat.le_add_right _ _
    · rw [z]; exact Nat.le_refl _
  exact I1.fpOk hle (I1.hok.fresh hle)
theorem enum_str : PEnum X (.Tuple elts kk tpos) (fun v H R => ∃ x, v = .str x ∧ R (Ites x) H) := by
  intro pins s1 σ H1 v u R I1 r q
  obtain ⟨x, rfl, q⟩ := q
  obtain ⟨t, rfl⟩ := r
  refine gp_enum_begins (begins_text x t) trivial fun h' he hit hsz hk => wpAny_pyIter_enum he ?_
  have I2 : Inv X pins σ H1 { s1 with heap := h' } := I1.kept (t' := s1.toks) hk
  refine ⟨s1.heap.objs.size + 1, [s1.heap.objs.size + 1, s1.heap.objs.size], _, _, H1, rfl, I2, turn_enumS (s1.heap.objs.size + 1) s1.heap.objs.size, ⟨⟨.none, he⟩, ⟨_, hit, rfl, rfl⟩, Nat.succ_ne_self _⟩, fun b hb => ?_, q⟩
  have e' : b = s1.heap.objs.size + 1 ∨ b = s1.heap.objs.size := by simpa using hb
  have hle : s1.heap.objs.size ≤ b := by
    rcases e' with z | z
    · rw [z]; exact Nat.le_add_right _ _
    · rw [z]; exact Nat.le_refl _
  exact I1.fpOk hle (I1.hok.fresh hle)
theorem pi_enumG {e : Expr} {ta : TA} {p pos : Pos} {tg : Expr} {r : RI} (hr : PEnum X tg r) (hg : Gl X "enumerate") (hm : X.mg "enumerate" = none) (ha : PA X [e] ta) (hs : starEach [e] X.env = [(false, eval e X.env)] := by rfl) :
    PI X tg (.Call (.Name "enumerate" p) [e] [] pos) (fun σ H R => ta σ H fun vs H1 => ∃ v, vs = [v] ∧ r v H1 R) := by
  refine ⟨fun pins s σ H R I h => ?_⟩
  refine Call_ (ld_blt I hg hm boot_enumerate (PyProof.Rows.callWith_type1 (thn (ha.run pos pins s σ H _ I h) fun us s1 ⟨vs, H1, I1, r1, q1⟩ => ?_) hs rfl))
  obtain ⟨v, ex, q⟩ := q1
  subst ex
  cases r1 with
  | cons r rr =>
    cases rr
    exact hr pins s1 σ H1 v _ R I1 r q
end

/-! ### ghosts -/
def enumLk (lk : Look) : Look := fun i S => (lk i S).map (Option.map fun x => .tup [.int i, x])
def enumOf (ds : List D) (S : Sto) : Option (Look × Sto) := match ds with
  | [.ls l] => some (enumLk (fixL l), S)
  | [.sq l] => some (enumLk (fixL l), S)
  | [.tup l] => some (enumLk (fixL l), S)
  | [.kt l] => some (enumLk (fixL l), S)
  | [.str x] => some (enumLk (fixL (signs x)), S)
  | [.ref n] => match S[n]? with
    | some (.lst l) => some (enumLk (liveL n), S)
    | _ => none
  | _ => none
/-- a walk of arguments' values -/
def gSrcA (f : List D → Sto → Option (Look × Sto)) (l : List GE) : GI := fun ρ S => match gArgsR l ρ S with
  | .ok ds S1 => match f ds S1 with
    | some (lk, S2) => .ok lk S2 none
    | none => .bad
  | .exc c S1 => .exc c S1
  | .bad => .bad
section
variable {g : G} {μ μ' μ1 : List Addr} {H H' H1 : Hp} {S : Sto} {K : PySem.W.Frag}
theorem PostI.exA {r : AR} {f : List D → Sto → Option (Look × Sto)} {R : It → Hp → Prop} {E : Str → Hp → Prop} {K : List V → Hp → Prop}
    (h : PostI g μ H (match r with
      | .ok ds S1 => match f ds S1 with
        | some (lk, S2) => .ok lk S2 none
        | none => .bad
      | .exc c S1 => .exc c S1
      | .bad => .bad) R E)
    (k : ∀ ds S1 vs H1 μ1, Grow μ H μ1 H1 → W g μ1 H1 S1 → RepL g H1 μ1 ds vs → (match f ds S1 with
      | some (lk, S2) => ∀ J H' μ', Grow μ1 H1 μ' H' → W g μ' H' S2 → SrcOk g J lk μ' H' → R J H'
      | none => False) → K vs H1) : PostA g μ H r K E := by
  cases r with
  | ok ds S1 =>
    intro vs H1 μ1 g1 w1 r1
    refine k ds S1 vs H1 μ1 g1 w1 r1 ?_
    simp only at h
    split at h
    · exact fun J H' μ' gr w s => h J H' μ' (g1.trans gr) w s (fun m e => by cases e)
    · exact h.elim
  | exc c S1 => exact h
  | bad => exact h
theorem pair_rep {i : Nat} {d : D} {x : V} {T : Addr} (w : W g μ H S) (r : Rep g H μ d x) (hT : H T = none) : Grow μ H μ (upd H T (.tup [.int (i : Nat), x])) ∧ W g μ (upd H T (.tup [.int (i : Nat), x])) S ∧ Rep g (upd H T (.tup [.int (i : Nat), x])) μ (.tup [.int i, d]) (.ref T) := by
  have gr : Grow μ H μ (upd H T (.tup [.int (i : Nat), x])) := grow_fresh hT
  refine ⟨gr, w.add hT, rep_tup (w.add hT) upd_same (.cons (by simp [Rep]) (.cons (r.mono gr) .nil))⟩
theorem src_enum_fixed {J : It} {l : List D} (hs : ∀ i μ H S, Grow μ1 H1 μ H → W g μ H S → l.length ≤ i → J.stop i H)
    (hg : ∀ i μ H S d, Grow μ1 H1 μ H → W g μ H S → l[i]? = some d → J.go i H ∧ ∀ x H', J.yld i H x H' → Grow μ H μ H' ∧ W g μ H' S ∧ Rep g H' μ (.tup [.int i, d]) x) : SrcOk g J (enumLk (fixL l)) μ1 H1 := by
  refine ⟨fun i μ H S gr w e => ?_, fun i μ H S d gr w e => ?_⟩
  · unfold enumLk fixL at e
    cases q : l[i]? with
    | none => exact hs i μ H S gr w (List.getElem?_eq_none_iff.mp q)
    | some d => rw [q] at e; cases e
  · unfold enumLk fixL at e
    cases q : l[i]? with
    | none => rw [q] at e; cases e
    | some d' => rw [q] at e; cases e; exact hg i μ H S d' gr w q
theorem src_enum_list {a : Addr} {l : List D} {vs : List V} (h : LsI g H1 μ1 a vs) (r : RepL g H1 μ1 l vs) : SrcOk g (Ite g.K a) (enumLk (fixL l)) μ1 H1 :=
  src_enum_fixed (fun i μ H S gr w e => ⟨vs, (h.mono gr).sq, by rw [← r.length]; exact e⟩) fun i μ H S d gr w e => by
    obtain ⟨v, ev, rv⟩ := (r.mono gr).get e
    refine ⟨⟨vs, v, (h.mono gr).sq, ev⟩, ?_⟩
    rintro x H' ⟨T, y, rfl, hT, rfl, hy⟩
    have z := hy vs (h.mono gr).sq
    rw [ev] at z; cases z
    exact pair_rep w rv hT
theorem src_enum_tup {a : Addr} {l : List D} {vs : List V} (h : ∀ μ H, Grow μ1 H1 μ H → SqT g.K H a vs) (r : RepL g H1 μ1 l vs) : SrcOk g (Itet g.K a) (enumLk (fixL l)) μ1 H1 :=
  src_enum_fixed (fun i μ H S gr w e => ⟨vs, h _ _ gr, by rw [← r.length]; exact e⟩) fun i μ H S d gr w e => by
    obtain ⟨v, ev, rv⟩ := (r.mono gr).get e
    refine ⟨⟨vs, v, h _ _ gr, ev⟩, ?_⟩
    rintro x H' ⟨T, y, rfl, hT, rfl, hy⟩
    have z := hy vs (h _ _ gr)
    rw [ev] at z; cases z
    exact pair_rep w rv hT
theorem src_enum_str {x : Str} : SrcOk g (Ites x) (enumLk (fixL (signs x))) μ1 H1 :=
  src_enum_fixed (fun i μ H S gr w e => by show x.cps.size ≤ i; simpa [signs] using e) fun i μ H S d gr w e => by
    simp only [signs, List.getElem?_map, Option.map_eq_some_iff] at e
    obtain ⟨c, ec, rfl⟩ := e
    rw [Array.getElem?_toList] at ec
    refine ⟨(Array.getElem?_eq_some_iff.mp ec).1, ?_⟩
    rintro y H' ⟨T, c', rfl, hT, rfl, ec'⟩
    rw [ec] at ec'; cases ec'
    exact pair_rep w (by simp [Rep]) hT
theorem src_enum_live {n : Nat} {a : Addr} (h : μ1[n]? = some a) : SrcOk g (Ite g.K a) (enumLk (liveL n)) μ1 H1 := by
  refine ⟨fun i μ H S gr w e => ?_, fun i μ H S d gr w e => ?_⟩
  · unfold enumLk liveL at e
    split at e
    · rename_i l hs
      obtain ⟨vs, h1, q⟩ := w.cell n a _ (gr.get h) hs
      cases z : l[i]? with
      | none => exact ⟨vs, .of h1, by rw [← q.length]; exact List.getElem?_eq_none_iff.mp z⟩
      | some d => rw [z] at e; cases e
    · cases e
  · unfold enumLk liveL at e
    split at e
    · rename_i l hs
      obtain ⟨vs, h1, q⟩ := w.cell n a _ (gr.get h) hs
      cases z : l[i]? with
      | none => rw [z] at e; cases e
      | some d' =>
        rw [z] at e; cases e
        obtain ⟨v, ev, rv⟩ := q.get z
        refine ⟨⟨vs, v, .of h1, ev⟩, ?_⟩
        rintro x H' ⟨T, y, rfl, hT, rfl, hy⟩
        have z := hy vs (.of h1)
        rw [ev] at z; cases z
        exact pair_rep w rv hT
    · cases e
end
section
variable {g : G} {N : List Str} {sc : Scope} {L : Nat} {Wx : WX} {X : Cx} {tg e a b c : Expr} {me : GE} {pos p : Pos} {elts : List Expr} {kk : Nat} {tpos : Pos} {l : List GE}
def rEnum (g : G) : RI := fun v H R => ∃ d S μ, W g μ H S ∧ Rep g H μ d v ∧ match enumOf [d] S with
  | some (lk, S') => ∀ J H' μ', Grow μ H μ' H' → W g μ' H' S' → SrcOk g J lk μ' H' → R J H'
  | none => False
theorem enum_src (C : CtxOk g N sc L Wx X) : PEnum X (.Tuple elts kk tpos) (rEnum g) := PEnum.pick fun v H R h => by
  obtain ⟨d, S, μ, w, r, h⟩ := h
  unfold enumOf at h
  cases d with
  | ls l =>
    simp only [Rep] at r
    obtain ⟨p, vs, rfl, n, h1, q⟩ := r
    refine ⟨_, enum_list, p, vs, rfl, .of h1, ?_⟩
    rw [C.K]
    exact h _ H μ (.refl _ _) w (src_enum_list (.inl ⟨n, .inl h1⟩) q)
  | sq l =>
    simp only [Rep] at r
    obtain ⟨p, vs, rfl, h1, q⟩ := r
    refine ⟨_, enum_list, p, vs, rfl, by rw [C.K]; exact h1.sq, ?_⟩
    rw [C.K]
    exact h _ H μ (.refl _ _) w (src_enum_list h1 q)
  | tup l =>
    simp only [Rep] at r
    obtain ⟨p, vs, rfl, n, h1, q⟩ := r
    refine ⟨_, enum_tup, p, vs, rfl, .of h1, ?_⟩
    rw [C.K]
    exact h _ H μ (.refl _ _) w (src_enum_tup (fun μ' H' gr => .of (gr.at n h1 rfl rfl fun ps z => by cases z)) q)
  | kt l =>
    simp only [Rep] at r
    obtain ⟨p, vs, rfl, h1, q⟩ := r
    refine ⟨_, enum_tup, p, vs, rfl, by rw [C.K]; exact h1.sq, ?_⟩
    rw [C.K]
    exact h _ H μ (.refl _ _) w (src_enum_tup (fun μ' H' gr => h1.sq) q)
  | str x =>
    simp only [Rep] at r
    exact ⟨_, enum_str, x, r, h _ H μ (.refl _ _) w src_enum_str⟩
  | ref n =>
    simp only at h
    split at h
    · rename_i lk S' e
      split at e
      · rename_i l hs
        cases e
        obtain ⟨a, rfl, ha, hm, vs, h1, q⟩ := w.ref r hs
        refine ⟨_, enum_list, a, vs, rfl, .of h1, ?_⟩
        rw [C.K]
        exact h _ H μ (.refl _ _) w (src_enum_live ha)
      · cases e
    · exact h.elim
  | non => exact h.elim
  | bl => exact h.elim
  | int => exact h.elim
  | ob => exact h.elim
  | fn => exact h.elim
  | dc => exact h.elim
theorem ri_enum (ha : RealA g N sc L [e] l) (hg : sc.names.lookup ("enumerate" : Str) = some .globalImplicit) (hm : g.mg "enumerate" = none) (hs : ∀ env : Env, starEach [e] env = [(false, eval e env)]) :
    RealI g N sc L (.Tuple elts kk tpos) (.Call (.Name "enumerate" p) [e] [] pos) (gSrcA enumOf l) := by
  intro Wx X C
  refine (pi_enumG (enum_src C) (show Gl X _ by unfold Gl Env.kindOf; rw [C.sc]; exact hg) (by rw [C.mg]; exact hm) (ha.r Wx X C) (hs X.env)).weak ?_
  rintro σ H R ⟨ρ, S, μ, hρ, hw, h⟩
  refine ⟨ρ, S, μ, hρ, hw, PostI.exA (f := enumOf) h fun ds S1 vs H1 μ1 g1 w1 r1 h1 => ?_⟩
  match ds, r1, h1 with
  | [], _, h1 => exact h1.elim
  | [d], r1, h1 =>
    simp only [RepL] at r1
    obtain ⟨v, _, rfl, r, rfl⟩ := r1
    exact ⟨v, rfl, d, S1, μ1, w1, r, h1⟩
  | d :: d2 :: t, _, h1 => cases d <;> exact h1.elim

/-! ### range -/
def rngL (i c : Int) (n : Nat) : List D := (List.range n).map fun k => .int (i + (k : Nat) * c)
def small62 (j : Int) : Bool := decide (-(2 ^ 62) ≤ j) && decide (j < 2 ^ 62)
def rngOf1 (ds : List D) (S : Sto) : Option (Look × Sto) := match ds with
  | [.int j] => if small62 j then some (fixL (rngL 0 1 j.toNat), S) else none
  | _ => none
def rngOf2 (ds : List D) (S : Sto) : Option (Look × Sto) := match ds with
  | [.int i, .int j] => if small62 i && small62 j then some (fixL (rngL i 1 (j - i).toNat), S) else none
  | _ => none
def rngOf3 (ds : List D) (S : Sto) : Option (Look × Sto) := match ds with
  | [.int i, .int j, .int c] => if decide (c ≠ 0) && decide (c.natAbs < 1073741824) && Builtin.Range.small i j c && decide (0 ≤ Builtin.Range.rangeSize i j c) then some (fixL (rngL i c (Builtin.Range.rangeSize i j c).toNat), S) else none
  | _ => none
theorem src_rng {g : G} {μ1 : List Addr} {H1 : Hp} {i : Int} {n : Nat} : SrcOk g (Itr i n) (fixL (rngL i 1 n)) μ1 H1 :=
  src_fixed (fun k μ H S gr w e => by show n ≤ k; simpa [rngL] using e) fun k μ H S d gr w e => by
    have hk : k < n := by have := (List.getElem?_eq_some_iff.mp e).1; simpa [rngL] using this
    refine ⟨hk, ?_⟩
    rintro x H' ⟨rfl, rfl⟩
    simp only [rngL, List.getElem?_map, List.getElem?_range hk, Option.map_some, Option.some.injEq] at e
    subst e
    exact ⟨.refl _ _, w, by simp [Rep]⟩
theorem src_rngC {g : G} {μ1 : List Addr} {H1 : Hp} {i c : Int} {n : Nat} : SrcOk g (Itc i c n) (fixL (rngL i c n)) μ1 H1 :=
  src_fixed (fun k μ H S gr w e => by show n ≤ k; simpa [rngL] using e) fun k μ H S d gr w e => by
    have hk : k < n := by have := (List.getElem?_eq_some_iff.mp e).1; simpa [rngL] using this
    refine ⟨hk, ?_⟩
    rintro x H' ⟨rfl, rfl⟩
    simp only [rngL, List.getElem?_map, List.getElem?_range hk, Option.map_some, Option.some.injEq] at e
    subst e
    exact ⟨.refl _ _, w, by simp [Rep]⟩
theorem repL_int {g : G} {μ : List Addr} {H : Hp} : ∀ {is : List Int} {vs : List V}, RepL g H μ (is.map .int) vs → vs = is.map .int
  | [], vs, r => by simpa only [List.map_nil, RepL] using r
  | i :: is, vs, r => by
    simp only [List.map_cons, RepL, Rep] at r
    obtain ⟨v, t, rfl, rfl, q⟩ := r
    rw [repL_int q, List.map_cons]
theorem ri_range1 (ha : RealA g N sc L [a] l) (hg : sc.names.lookup ("range" : Str) = some .globalImplicit) (hm : g.mg "range" = none) (hs : ∀ env : Env, starEach [a] env = [(false, eval a env)]) :
    RealI g N sc L tg (.Call (.Name "range" p) [a] [] pos) (gSrcA rngOf1 l) := by
  intro Wx X C
  refine (pi_range1 (show Gl X _ by unfold Gl Env.kindOf; rw [C.sc]; exact hg) (by rw [C.mg]; exact hm) (ha.r Wx X C) (hs X.env)).weak ?_
  rintro σ H R ⟨ρ, S, μ, hρ, hw, h⟩
  refine ⟨ρ, S, μ, hρ, hw, PostI.exA (f := rngOf1) (K := fun vs H1 => ∃ j : Int, vs = [.int j] ∧ -(2 ^ 62) ≤ j ∧ j < 2 ^ 62 ∧ R (Itr 0 j.toNat) H1) h fun ds S1 vs H1 μ1 g1 w1 r1 h1 => ?_⟩
  unfold rngOf1 at h1
  split at h1
  · rename_i lk S2 e
    split at e
    · rename_i j
      split at e
      · rename_i hj
        cases e
        simp only [small62, Bool.and_eq_true, decide_eq_true_eq] at hj
        exact ⟨j, repL_int (is := [j]) r1, hj.1, hj.2, h1 _ H1 μ1 (.refl _ _) w1 src_rng⟩
      · cases e
    · cases e
  · exact h1.elim
theorem ri_range2 (ha : RealA g N sc L [a, b] l) (hg : sc.names.lookup ("range" : Str) = some .globalImplicit) (hm : g.mg "range" = none) (hs : ∀ env : Env, starEach [a, b] env = [(false, eval a env), (false, eval b env)]) (hs2 : ∀ env : Env, starEach [b] env = [(false, eval b env)]) :
    RealI g N sc L tg (.Call (.Name "range" p) [a, b] [] pos) (gSrcA rngOf2 l) := by
  intro Wx X C
  refine (pi_range2 (show Gl X _ by unfold Gl Env.kindOf; rw [C.sc]; exact hg) (by rw [C.mg]; exact hm) (ha.r Wx X C) (hs X.env) (hs2 X.env)).weak ?_
  rintro σ H R ⟨ρ, S, μ, hρ, hw, h⟩
  refine ⟨ρ, S, μ, hρ, hw, PostI.exA (f := rngOf2) (K := fun vs H1 => ∃ i j : Int, vs = [.int i, .int j] ∧ (-(2 ^ 62) ≤ i ∧ i < 2 ^ 62 ∧ -(2 ^ 62) ≤ j ∧ j < 2 ^ 62) ∧ R (Itr i (j - i).toNat) H1) h fun ds S1 vs H1 μ1 g1 w1 r1 h1 => ?_⟩
  unfold rngOf2 at h1
  split at h1
  · rename_i lk S2 e
    split at e
    · rename_i i j
      split at e
      · rename_i hj
        cases e
        simp only [small62, Bool.and_eq_true, decide_eq_true_eq] at hj
        exact ⟨i, j, repL_int (is := [i, j]) r1, ⟨hj.1.1, hj.1.2, hj.2.1, hj.2.2⟩, h1 _ H1 μ1 (.refl _ _) w1 src_rng⟩
      · cases e
    · cases e
  · exact h1.elim
theorem ri_range3 (ha : RealA g N sc L [a, b, c] l) (hg : sc.names.lookup ("range" : Str) = some .globalImplicit) (hm : g.mg "range" = none) (hs : ∀ env : Env, starEach [a, b, c] env = (false, eval a env) :: starEach [b, c] env) (hpl : ∀ env : Env, (backTo pos (starEach [b, c] env)).any (·.1) = false) :
    RealI g N sc L tg (.Call (.Name "range" p) [a, b, c] [] pos) (gSrcA rngOf3 l) := by
  intro Wx X C
  refine (pi_range3 (show Gl X _ by unfold Gl Env.kindOf; rw [C.sc]; exact hg) (by rw [C.mg]; exact hm) (ha.r Wx X C) (hs X.env) (hpl X.env)).weak ?_
  rintro σ H R ⟨ρ, S, μ, hρ, hw, h⟩
  refine ⟨ρ, S, μ, hρ, hw, PostI.exA (f := rngOf3) (K := fun vs H1 => ∃ (i j c : Int) (n : Nat), vs = [.int i, .int j, .int c] ∧ RgC i j c n ∧ R (Itc i c n) H1) h fun ds S1 vs H1 μ1 g1 w1 r1 h1 => ?_⟩
  unfold rngOf3 at h1
  split at h1
  · rename_i lk S2 e
    split at e
    · rename_i i j k
      split at e
      · rename_i hj
        cases e
        simp only [Bool.and_eq_true, decide_eq_true_eq] at hj
        obtain ⟨⟨⟨q1, q2⟩, q3⟩, q4⟩ := hj
        exact ⟨i, j, k, _, repL_int (is := [i, j, k]) r1, ⟨q1, q2, q3, (Int.toNat_of_nonneg q4).symm⟩, h1 _ H1 μ1 (.refl _ _) w1 src_rngC⟩
      · cases e
    · cases e
  · exact h1.elim

/-! ### the walks of a dict's items, values -/
def dictOf (d : D) (S : Sto) : Option (List (D × D) × Sto) := match d with
  | .dc 0 l => some (l, S)
  | .ref n => match S[n]? with
    | some (.dict 0 _ l) => some (l, S.set n (.dict 0 true l))
    | _ => none
  | _ => none
def itemsLk (d : D) (S : Sto) : Option (Look × Sto) := (dictOf d S).map fun x => (fixL (x.1.map fun p => .tup [p.1, p.2]), x.2)
def valsLk (d : D) (S : Sto) : Option (Look × Sto) := (dictOf d S).map fun x => (fixL (x.1.map (·.2)), x.2)
def keysLk (d : D) (S : Sto) : Option (Look × Sto) := (dictOf d S).map fun x => (fixL (x.1.map (·.1)), x.2)
theorem dictOf_rep {g : G} {μ : List Addr} {H : Hp} {S S' : Sto} {d : D} {v : V} {l : List (D × D)} (w : W g μ H S) (r : Rep g H μ d v) (e : dictOf d S = some (l, S')) :
    ∃ a, v = .ref a ∧ ∃ ks, ((∃ o, H a = some (.frz o (.dK ks)) ∧ W g μ H S' ∧ RepK g H μ l ks) ∨ (H a = some (.dK ks) ∧ ∀ o, W g μ (upd H a (.frz o (.dK ks))) S' ∧ Grow μ H μ (upd H a (.frz o (.dK ks))) ∧ RepK g (upd H a (.frz o (.dK ks))) μ l ks)) := by
  unfold dictOf at e
  split at e
  · cases e
    simp only [Rep] at r
    obtain ⟨a, rfl, n, ⟨_, ks, rd, q⟩ | ⟨k, _⟩⟩ := r
    · refine ⟨a, rfl, ks, ?_⟩
      rcases rd_cases rd with hd | ⟨o, hd⟩
      · refine .inr ⟨hd, fun o => ?_⟩
        have gr : Grow μ H μ (upd H a (.frz o (.dK ks))) := grow_lockF hd rfl (by simp)
        exact ⟨w.lockF n hd rfl (by simp), gr, q.mono gr⟩
      · exact .inl ⟨o, hd, w, q⟩
    · cases k
  · split at e
    · rename_i n b l hs
      cases e
      obtain ⟨a, rfl, ha, hm, u, hq, h1⟩ := w.ref r hs
      refine ⟨a, rfl, ?_⟩
      rcases id hq with ⟨_, ks, rfl, q⟩ | ⟨k, _⟩
      · refine ⟨ks, ?_⟩
        cases b with
        | true =>
          rw [if_pos rfl] at h1
          obtain ⟨o, h1⟩ := h1
          rw [set_self hs]
          exact .inl ⟨o, h1, w, q⟩
        | false =>
          rw [if_neg (by simp)] at h1
          refine .inr ⟨h1, fun o => ?_⟩
          obtain ⟨w', gr⟩ := w.lockC (o := o) ha h1 hq
          exact ⟨w', gr, q.mono gr⟩
      · cases k
    · cases e
  · cases e
section
variable {μ1 : List Addr} {H1 : Hp}
theorem src_items {a : Addr} {o : Obj} {l : List (D × D)} {ks : List (Key × V)} (h : H1 a = some (.frz o (.dK ks))) (r : RepK g H1 μ1 l ks) : SrcOk g (Iti a o ks) (fixL (l.map fun p => .tup [p.1, p.2])) μ1 H1 :=
  src_fixed (fun i μ H S gr w e => ⟨gr.fz _ _ _ h, by rw [← repK_len r]; simpa using e⟩) fun i μ H S d gr w e => by
    have hi : i < ks.length := by rw [← repK_len r]; have := (List.getElem?_eq_some_iff.mp e).1; simpa using this
    refine ⟨⟨gr.fz _ _ _ h, hi⟩, ?_⟩
    rintro x H' ⟨T, k, v, ek, rfl, hT, rfl⟩
    obtain ⟨z, hz, rz⟩ := r.get ek
    rw [List.getElem?_map, hz] at e
    cases e
    have g2 : Grow μ H μ (upd H T (.tup [kV k, v])) := grow_fresh hT
    exact ⟨g2, w.add hT, rep_tup (w.add hT) upd_same (.cons (rep_kD.mpr rfl) (.cons ((rz.mono gr).mono g2) .nil))⟩
theorem src_vals {a : Addr} {o : Obj} {l : List (D × D)} {ks : List (Key × V)} (h : H1 a = some (.frz o (.dK ks))) (r : RepK g H1 μ1 l ks) : SrcOk g (Itd a o ks) (fixL (l.map (·.2))) μ1 H1 :=
  src_fixed (fun i μ H S gr w e => ⟨gr.fz _ _ _ h, by rw [← repK_len r]; simpa using e⟩) fun i μ H S d gr w e => by
    have hi : i < ks.length := by rw [← repK_len r]; have := (List.getElem?_eq_some_iff.mp e).1; simpa using this
    refine ⟨⟨gr.fz _ _ _ h, hi⟩, ?_⟩
    rintro x H' ⟨rfl, k, ek⟩
    obtain ⟨z, hz, rz⟩ := r.get ek
    rw [List.getElem?_map, hz] at e
    cases e
    exact ⟨.refl _ _, w, rz.mono gr⟩
end
variable {apos cpos : Pos}
theorem ri_items (he : Real g N sc L e me) (hbase : ∀ env : Env, attributeBase e "items" env (eval e env) = eval e env) (hline : (apos.endLine == cpos.line) = true) :
    RealI g N sc L (.Tuple elts kk tpos) (.Call (.Attribute e "items" apos) [] [] cpos) (gSrc itemsLk me) := by
  intro Wx X C
  refine (pi_items (pe_lockA (he Wx X C)) (hbase X.env) hline).weak ?_
  rintro σ H R ⟨ρ, S, μ, hρ, hw, h⟩
  refine ⟨ρ, S, μ, hρ, hw, PostI.ex (f := itemsLk) h fun d S1 v H1 μ1 g1 w1 r1 h1 => ?_⟩
  unfold itemsLk at h1
  cases q : dictOf d S1 with
  | none => rw [q] at h1; exact h1.elim
  | some x =>
    rw [q] at h1
    obtain ⟨l, S'⟩ := x
    obtain ⟨a, rfl, ks, ⟨o, hd, w', rk⟩ | ⟨hd, k⟩⟩ := dictOf_rep w1 r1 q
    · exact .inl ⟨a, o, ks, rfl, hd, h1 _ H1 μ1 (.refl _ _) w' (src_items hd rk)⟩
    · refine .inr ⟨a, _, hd, trivial, fun o => ⟨a, o, ks, rfl, upd_same, ?_⟩⟩
      obtain ⟨w', gr, rk⟩ := k o
      exact h1 _ _ μ1 gr w' (src_items upd_same rk)
theorem ri_values (he : Real g N sc L e me) (hbase : ∀ env : Env, attributeBase e "values" env (eval e env) = eval e env) (hline : (apos.endLine == cpos.line) = true) :
    RealI g N sc L tg (.Call (.Attribute e "values" apos) [] [] cpos) (gSrc valsLk me) := by
  intro Wx X C
  refine (pi_values (pe_lockA (he Wx X C)) (hbase X.env) hline).weak ?_
  rintro σ H R ⟨ρ, S, μ, hρ, hw, h⟩
  refine ⟨ρ, S, μ, hρ, hw, PostI.ex (f := valsLk) h fun d S1 v H1 μ1 g1 w1 r1 h1 => ?_⟩
  unfold valsLk at h1
  cases q : dictOf d S1 with
  | none => rw [q] at h1; exact h1.elim
  | some x =>
    rw [q] at h1
    obtain ⟨l, S'⟩ := x
    obtain ⟨a, rfl, ks, ⟨o, hd, w', rk⟩ | ⟨hd, k⟩⟩ := dictOf_rep w1 r1 q
    · exact .inl ⟨a, o, ks, rfl, hd, h1 _ H1 μ1 (.refl _ _) w' (src_vals hd rk)⟩
    · refine .inr ⟨a, _, hd, trivial, fun o => ⟨a, o, ks, rfl, upd_same, ?_⟩⟩
      obtain ⟨w', gr, rk⟩ := k o
      exact h1 _ _ μ1 gr w' (src_vals upd_same rk)
end
end Gp

set_option Elab.async false
set_option linter.all false
set_option maxRecDepth 100000
/-! Gp13: comprehensions; loops over what is locked -/
namespace Gp
open PySem PySem.Spec L2
open PyProof.Rows hiding St

/-! ### targets of names alone -/
abbrev TN := D → Ev → Option Ev
abbrev TNs := List D → Ev → Option Ev
def nName (i : Nat) : TN := fun d ρ => some (ρ.set i (some d))
def nNil : TNs := fun ds ρ => match ds with
  | [] => some ρ
  | _ => none
def nCons (t : TN) (u : TNs) : TNs := fun ds ρ => match ds with
  | [] => none
  | d :: r => match t d ρ with
    | some ρ1 => u r ρ1
    | none => none
def nTup (n : Nat) (t : TNs) : TN := fun d ρ => match asT d with
  | some l => if l.length = n then t l ρ else none
  | none => none
def RealN (g : G) (N : List Str) (sc : Scope) (L : Nat) (fk : Str → Bool) (vs : List Nat) (tg : Expr) (t : TN) : Prop := ∀ Wx X, CtxOk g N sc L Wx X → (∀ x, fk x = true → X.fn x = true) →
  PG X tg (fun v σ H Q => ∃ d ρ S μ, EnvOk g H μ ρ σ ∧ W g μ H S ∧ Rep g H μ d v ∧ match t d ρ with
    | some ρ2 => ∀ σ', EnvOk g H μ ρ2 σ' → wipe σ' vs = wipe σ vs → Q σ' H
    | none => False)
def RealNs (g : G) (N : List Str) (sc : Scope) (L : Nat) (fk : Str → Bool) (vs : List Nat) (tg : List Expr) (t : TNs) : Prop := ∀ Wx X, CtxOk g N sc L Wx X → (∀ x, fk x = true → X.fn x = true) →
  PGs X tg (fun v σ H Q => ∃ d ρ S μ, EnvOk g H μ ρ σ ∧ W g μ H S ∧ RepL g H μ d v ∧ match t d ρ with
    | some ρ2 => ∀ σ', EnvOk g H μ ρ2 σ' → wipe σ' vs = wipe σ vs → Q σ' H
    | none => False)
theorem wipe_cons_set {σ : St} {x : Option V} {v : Nat} : ∀ {vs : List Nat}, v ∈ vs → wipe (σ.set v x) vs = wipe σ vs := by
  intro vs h
  apply List.ext_getElem?
  intro i
  have key : ∀ (τ : St) (vs : List Nat) (i : Nat), (wipe τ vs)[i]? = if i ∈ vs then (if i < τ.length then some none else none) else τ[i]? := by
    intro τ vs
    induction vs with
    | nil => intro i; simp [wipe]
    | cons u us ih =>
      intro i
      unfold wipe
      by_cases hi : u = i
      · subst hi
        simp only [List.mem_cons, true_or, if_true]
        by_cases hl : u < τ.length
        · rw [if_pos hl, List.getElem?_set_self (by rw [wipe_length]; exact hl)]
        · rw [if_neg hl, List.getElem?_eq_none (by rw [List.length_set, wipe_length]; omega)]
      · rw [List.getElem?_set_ne hi, ih i]
        have : (i ∈ u :: us) ↔ i ∈ us := by simp [Ne.symm hi]
        simp only [this]
  rw [key, key, List.length_set]
  by_cases hi : i ∈ vs
  · rw [if_pos hi, if_pos hi]
  · rw [if_neg hi, if_neg hi, List.getElem?_set_ne (fun z => hi (by rw [← z]; exact h))]
section
variable {g : G} {N : List Str} {sc : Scope} {L : Nat} {pos : Pos} {fk : Str → Bool} {vs : List Nat} {e : Expr} {es : List Expr}
theorem rn_name {i : Nat} {x : Str} (hN : N.Nodup) (hi : N[i]? = some x) (hx : Loc sc x) (hf : fk x = true ∨ sc.names.lookup x = some .local) (hv : i ∈ vs) : RealN g N sc L fk vs (.Name x pos) (nName i) := by
  intro Wx X C F
  refine (pg_name (i := i) (by rw [C.N]; exact hN) (by rw [C.N]; exact hi) (by rw [C.sc]; exact hx) (hf.elim (fun z => .inl (F x z)) fun z => .inr (by rw [C.sc]; exact z))).weak ?_
  rintro v σ H Q ⟨d, ρ, S, μ, he, hw, r, h⟩
  exact h _ (he.set1 r) (wipe_cons_set hv)
theorem rns_nil : RealNs g N sc L fk vs [] nNil := by
  intro Wx X C F
  refine pgs_nil.weak ?_
  rintro v σ H Q ⟨d, ρ, S, μ, he, hw, r, h⟩
  unfold nNil at h
  cases d with
  | nil =>
    simp only [RepL] at r
    exact ⟨r, h σ he rfl⟩
  | cons => exact h.elim
theorem rns_cons {t : TN} {u : TNs} (h1 : RealN g N sc L fk vs e t) (h2 : RealNs g N sc L fk vs es u)
    (hs : ∀ env : Env, (assignEach (e :: es) env).map (·.2) = assign e env :: (assignEach es env).map (·.2)) : RealNs g N sc L fk vs (e :: es) (nCons t u) := by
  intro Wx X C F
  refine (pgs_cons (h1 Wx X C F) (h2 Wx X C F) (hs X.env)).weak ?_
  rintro v σ H Q ⟨d, ρ, S, μ, he, hw, r, h⟩
  unfold nCons at h
  cases d with
  | nil => exact h.elim
  | cons x ds =>
    simp only [RepL] at r
    obtain ⟨vx, vr, rfl, q1, q2⟩ := r
    simp only at h
    cases e1 : t x ρ with
    | none => rw [e1] at h; exact h.elim
    | some ρ1 =>
      rw [e1] at h
      refine ⟨vx, vr, rfl, x, ρ, S, μ, he, hw, q1, ?_⟩
      rw [e1]
      intro σ1 e2 hw1
      refine ⟨ds, ρ1, S, μ, e2, hw, q2, ?_⟩
      simp only at h
      cases e3 : u ds ρ1 with
      | none => rw [e3] at h; exact h.elim
      | some ρ2 => rw [e3] at h; exact fun σ2 e4 hw2 => h σ2 e4 (hw2.trans hw1)
theorem rn_tup {k : Nat} {u : TNs} {n : Nat} (h : RealNs g N sc L fk vs es u) (hn : ∀ env : Env, (assignEach es env).length = n) (hst : ∀ env : Env, (assignEach es env).findIdx? (·.1) = none) :
    RealN g N sc L fk vs (.Tuple es k pos) (nTup n u) := by
  intro Wx X C F
  refine (pg_tup C.calm (h Wx X C F) (hn X.env) (hst X.env)).weak ?_
  rintro v σ H Q ⟨d, ρ, S, μ, he, hw, r, h⟩
  unfold nTup at h
  split at h
  · rename_i ρ2 e0
    split at e0
    · rename_i l e
      split at e0
      · rename_i hl
        obtain ⟨a, xs, rfl, h1, q⟩ := asT_rep r e
        refine ⟨a, xs, rfl, by rw [C.K]; exact h1, by rw [← q.length]; exact hl, l, ρ, S, μ, he, hw, q, ?_⟩
        rw [e0]; exact h
      · cases e0
    · cases e0
  · exact h.elim
end

/-! ### a comprehension's context -/
def wipeG (ρ : Ev) : List Nat → Ev
  | [] => ρ
  | v :: vs => (wipeG ρ vs).set v none
def blkX (X : Cx) (s : Shared) (H : Hp) (scope : Scope) (C : Addr) (cl : List (Str × Addr)) (fp : List Addr) : Cx := X.blk s H scope (compEnvC scope cl C X.env) fp
def noX : WX := fun _ _ _ _ => False
section
variable {g : G} {N : List Str} {sc : Scope} {L : Nat} {Wx : WX} {X : Cx}
theorem EnvOk.wipe {H : Hp} {μ : List Addr} {ρ : Ev} {σ : St} (he : EnvOk g H μ ρ σ) : ∀ vs : List Nat, EnvOk g H μ (wipeG ρ vs) (wipe σ vs)
  | [] => he
  | v :: vs => (EnvOk.wipe he vs).set v fun x e => by cases e
theorem takes_never {X : Cx} (h : X.xe = fun _ _ => False) : Takes X noX := fun u s' ⟨a, B, sI, pins, σ, H, cls, d, e, I, nb, up, sky, na, os, ag, w⟩ => w.elim
theorem CtxOk.blk (C : CtxOk g N sc L Wx X) (hl : lamLike sc = false) (s : Shared) (H : Hp) (scope : Scope) (Ca : Addr) (cl : List (Str × Addr)) (fp : List Addr) :
    CtxOk g N (relS scope sc) L noX (X.blk s H scope (compEnvC scope cl Ca X.env) fp) where
  prog := C.prog
  wd := C.wd
  K := C.K
  mg := C.mg
  base := C.base
  N := C.N
  sc := by rw [← C.sc]; rfl
  calm := C.calm
  tk := takes_never rfl
  room := C.room
  pass := PassesOwn.never
  cd := fun _ => C.cd (by rw [C.sc]; exact hl)
end
/-- the conditions of a clause -/
inductive RealIfs (g : G) (N : List Str) (sc : Scope) (L : Nat) : List Expr → Option GE → Prop
  | nil : RealIfs g N sc L [] none
  | one {c : Expr} {m : GE} (h : RealT g N sc L c m) : RealIfs g N sc L [c] (some m)
def tstG (c : Option GE) (ρ : Ev) (S : Sto) : Res := match c with
  | none => .ok (.bl true) S
  | some m => m ρ S
def tGTs (g : G) (c : Option GE) : TT := fun σ H Q => ∃ ρ S μ, EnvOk g H μ ρ σ ∧ W g μ H S ∧ PostR g μ H (tstG c ρ S) (fun v H' => ∃ b, v = .bl b ∧ Q b H') (wE g noX σ)
theorem _root_.L2.PTs.weak {X : Cx} {e : List Expr} {t t' : TT} (h : PTs X e t) (k : ∀ σ H Q, t' σ H Q → t σ H Q) : PTs X e t' := ⟨fun pins s σ H Q I q => h.run pins s σ H Q I (k σ H Q q)⟩
theorem RealIfs.pts {g : G} {N : List Str} {sc : Scope} {L : Nat} {ifs : List Expr} {c : Option GE} (h : RealIfs g N sc L ifs c) {X : Cx} (C : CtxOk g N sc L noX X) : PTs X ifs (tGTs g c) := by
  cases h with
  | nil =>
    refine pts_nil.weak ?_
    rintro σ H Q ⟨ρ, S, μ, he, hw, h⟩
    obtain ⟨b, e, q⟩ := h (.bl true) H μ (.refl _ _) hw (by simp [Rep])
    cases e; exact q
  | one h =>
    refine (pts_one (h noX X C)).weak ?_
    rintro σ H Q ⟨ρ, S, μ, he, hw, h⟩
    exact ⟨ρ, S, μ, he, hw, h⟩
/-- the turns of a list comprehension; n0: where its list stands -/
def lcN (lk : Look) (t : TN) (c : Option GE) (e : GE) (ρ0 : Ev) (n0 : Nat) : Nat → Nat → Sto → Res
  | 0, _, _ => .bad
  | n + 1, i, S => match lk i S with
    | none => .bad
    | some none => .ok (.ref n0) S
    | some (some d) => match t d ρ0 with
      | none => .bad
      | some ρ => match tstG c ρ S with
        | .ok (.bl true) S1 => match e ρ S1 with
          | .ok y S2 => match S2[n0]? with
            | some (.lst acc) => if acc.length < sizeLine then lcN lk t c e ρ0 n0 n (i + 1) (S2.set n0 (.lst (acc ++ [y]))) else .bad
            | _ => .bad
          | _ => .bad
        | .ok (.bl false) S1 => lcN lk t c e ρ0 n0 n (i + 1) S1
        | _ => .bad
def IR.res (r : IR) (f : Look → Sto → Option Nat → Res) : Res := match r with
  | .ok lk S ul => f lk S ul
  | .exc c S => .exc c S
  | .bad => .bad
def gLc0 (n : Nat) (it : GI) (t : TN) (c : Option GE) (e : GE) (vs : List Nat) : GE := fun ρ S => (it ρ S).res fun lk S1 ul => unlR ul (lcN lk t c e (wipeG ρ vs) S1.length n 0 (S1 ++ [.lst []]))
/-- [e for t in it if c]; imm: the new list is frozen -/
def gLc (imm : Bool) (n : Nat) (it : GI) (t : TN) (c : Option GE) (e : GE) (vs : List Nat) : GE := fun ρ S => if imm = true then tidy S (gLc0 n it t c e vs ρ S) else gLc0 n it t c e vs ρ S
theorem PostI.res {g : G} {μ : List Addr} {H : Hp} {r : IR} {f : Look → Sto → Option Nat → Res} {R : It → Hp → Prop} {Q : VK} {E : Str → Hp → Prop} (h : PostR g μ H (r.res f) Q E)
    (k : ∀ l S1 ul J H1 μ1, Grow μ H μ1 H1 → W g μ1 H1 S1 → SrcOk g J l μ1 H1 → UlAt H μ1 ul → PostR g μ H (f l S1 ul) Q E → R J H1) : PostI g μ H r R E := by
  cases r with
  | ok l S1 ul => exact fun J H1 μ1 g1 w1 s1 u1 => k l S1 ul J H1 μ1 g1 w1 s1 u1 h
  | exc c S1 => exact h
  | bad => exact h
theorem unlR_bad {ul : Option Nat} : unlR ul .bad = .bad := by cases ul <;> rfl
section
variable {g : G} {N : List Str} {sc : Scope} {L : Nat} {Wx : WX} {X : Cx} {tg it elt e : Expr} {mi : GI} {t : TN} {c : Option GE} {me : GE} {vs : List Nat}
/-- the turns are right -/
theorem lc_turns {J : It} {lk : Look} {μ1 : List Addr} {H1 : Hp} {S1 : Sto} {σ : St} {ρ : Ev} {Q : VK} {E : Str → Hp → Prop} {n : Nat} {gt : TG} {te : TE} {D : Addr}
    {μ0 : List Addr} {H0 : Hp} {ul : Option Nat} (g0 : Grow μ0 H0 μ1 H1) (u1 : UlAt H0 μ1 ul) (sr : SrcOk g J lk μ1 H1) (w1 : W g μ1 H1 S1) (he : EnvOk g H1 μ1 ρ σ) (hD : H1 D = none)
    (h : PostR g μ0 H0 (unlR ul (lcN lk t c me (wipeG ρ vs) S1.length n 0 (S1 ++ [.lst []]))) Q E)
    (hg : ∀ v σ H Q, (∃ d ρ S μ, EnvOk g H μ ρ σ ∧ W g μ H S ∧ Rep g H μ d v ∧ match t d ρ with
      | some ρ2 => ∀ σ', EnvOk g H μ ρ2 σ' → wipe σ' vs = wipe σ vs → Q σ' H
      | none => False) → gt v σ H Q)
    (hte : ∀ σ H Q, tG g noX me σ H Q → te σ H Q) :
    ∃ W : Nat → Nat → Hp → Prop, (∃ m, W 0 m (upd H1 D (.lst []))) ∧ ∀ i m H, W i m H →
      (J.stop i H ∧ UnlK H0 (Q (.ref D)) H) ∨ (J.go i H ∧ ∃ Nx : Hp → Prop, (∀ H', Nx H' → ∃ m', m' < m ∧ W (i + 1) m' H') ∧ ∀ x H', J.yld i H x H' → gt x (wipe σ vs) H' fun σ2 H2 => wipe σ2 vs = wipe σ vs ∧ tGTs g c σ2 H2 fun b H3 =>
        if b = true then te σ2 H3 fun y H4 => ∃ acc, H4 D = some (.lst acc) ∧ acc.length < sizeLine ∧ Nx (upd H4 D (.lst (acc ++ [y]))) else Nx H3) := by
  have hlen := w1.len
  have hDn : (μ1 ++ [D])[S1.length]? = some D := by rw [← hlen, List.getElem?_append_right (Nat.le_refl _)]; simp
  refine ⟨fun i m H => ∃ S μ, Grow μ1 H1 μ H ∧ μ[S1.length]? = some D ∧ W g μ H S ∧ PostR g μ0 H0 (unlR ul (lcN lk t c me (wipeG ρ vs) S1.length m i S)) Q E, ⟨n, S1 ++ [.lst []], μ1 ++ [D], grow_alloc hD, hDn, w1.alloc (c := .lst []) hD ⟨[], upd_same, .nil⟩, h⟩, ?_⟩
  rintro i m H ⟨S, μ, gr, hmu, w, h⟩
  cases m with
  | zero => rw [show lcN lk t c me (wipeG ρ vs) S1.length 0 i S = .bad from rfl, unlR_bad] at h; exact h.elim
  | succ m =>
    unfold lcN at h
    split at h
    · rw [unlR_bad] at h; exact h.elim
    · rename_i el
      exact .inl ⟨sr.stop i μ H S gr w el, h.unlOk (g0.trans gr) w (by simp only [Rep]; exact ⟨D, rfl, hmu⟩) (u1.grow gr)⟩
    · rename_i d el
      obtain ⟨k1, k2⟩ := sr.go i μ H S d gr w el
      refine .inr ⟨k1, fun H' => ∃ S μ, Grow μ1 H1 μ H' ∧ μ[S1.length]? = some D ∧ W g μ H' S ∧ PostR g μ0 H0 (unlR ul (lcN lk t c me (wipeG ρ vs) S1.length m (i + 1) S)) Q E, fun H' z => ⟨m, Nat.lt_succ_self _, z⟩, fun x H' y => ?_⟩
      obtain ⟨g2, w2, r2⟩ := k2 x H' y
      refine hg _ _ _ _ ⟨d, wipeG ρ vs, S, μ, (he.mono (gr.trans g2)).wipe vs, w2, r2, ?_⟩
      split at h
      · rw [unlR_bad] at h; exact h.elim
      · rename_i ρ2 et
        rw [et]
        intro σ2 e2 hw2
        refine ⟨?_, ρ2, S, μ, e2, w2, ?_⟩
        · rw [hw2]
          have : ∀ vs' : List Nat, vs' = vs → wipe (wipe σ vs) vs' = wipe σ vs := by
            intro vs' hv
            apply List.ext_getElem?
            intro i
            have key : ∀ (τ : St) (vs : List Nat) (i : Nat), (wipe τ vs)[i]? = if i ∈ vs then (if i < τ.length then some none else none) else τ[i]? := by
              intro τ vs
              induction vs with
              | nil => intro i; simp [wipe]
              | cons u us ih =>
                intro i
                unfold wipe
                by_cases hi : u = i
                · subst hi
                  simp only [List.mem_cons, true_or, if_true]
                  by_cases hl : u < τ.length
                  · rw [if_pos hl, List.getElem?_set_self (by rw [wipe_length]; exact hl)]
                  · rw [if_neg hl, List.getElem?_eq_none (by rw [List.length_set, wipe_length]; omega)]
                · rw [List.getElem?_set_ne hi, ih i]
                  have : (i ∈ u :: us) ↔ i ∈ us := by simp [Ne.symm hi]
                  simp only [this]
            subst hv
            rw [key, key, wipe_length]
            by_cases hi : i ∈ vs' <;> simp [hi]
          exact this vs rfl
        · have h2 := h
          cases etst : tstG c ρ2 S with
          | bad => simp only [etst, unlR_bad] at h2; exact h2.elim
          | exc cc S3 => simp only [etst, unlR_bad] at h2; exact h2.elim
          | ok b S3 =>
            simp only [etst] at h2
            intro v H3 μ3 g3 w3 r3
            have g23 := g2.trans g3
            have hmu3 : μ3[S1.length]? = some D := g3.get hmu
            cases b with
            | bl b =>
              refine ⟨b, by simpa only [Rep] using r3, ?_⟩
              cases b with
              | false =>
                rw [if_neg (by simp)]
                exact ⟨S3, μ3, gr.trans g23, hmu3, w3, h2⟩
              | true =>
                rw [if_pos rfl]
                refine hte _ _ _ ⟨ρ2, S3, μ3, e2.mono g3, w3, ?_⟩
                cases ee : me ρ2 S3 with
                | bad => simp only [ee, unlR_bad] at h2; exact h2.elim
                | exc cc S4 => simp only [ee, unlR_bad] at h2; exact h2.elim
                | ok y S4 =>
                  simp only [ee] at h2
                  intro vy H4 μ4 g4 w4 r4
                  have hmu4 : μ4[S1.length]? = some D := g4.get hmu3
                  split at h2
                  · rename_i acc ha
                    split at h2
                    · rename_i hl
                      obtain ⟨va, hH, ra⟩ := w4.cell _ _ _ hmu4 ha
                      have gs : Grow μ4 H4 μ4 (upd H4 D (.lst (va ++ [vy]))) := grow_set (List.mem_of_getElem? hmu4) hH (by simp)
                      refine ⟨va, hH, by rw [← ra.length]; exact hl, S4.set S1.length (.lst (acc ++ [y])), μ4, (gr.trans (g23.trans g4)).trans gs, hmu4, w4.set hmu4 ⟨_, upd_same, (ra.snoc r4).mono gs⟩, h2⟩
                    · rw [unlR_bad] at h2; exact h2.elim
                  · rw [unlR_bad] at h2; exact h2.elim
            | _ => rw [unlR_bad] at h2; exact h2.elim
theorem re_lc0 {n : Nat} {ifs : List Expr} {scope : Scope} {own : List (Str × Nat)} {pos : Pos} (hN : N.Nodup) (hl : lamLike sc = false) (hi : RealI g N sc L tg it mi) (ok : BlkOk N sc scope own)
    (hg : RealN g N (relS scope sc) L (fun x => scope.names.lookup x == some .cell) (own.map (·.2)) tg t) (hc : RealIfs g N (relS scope sc) L ifs c) (he : Real g N (relS scope sc) L elt me) (hs : ∀ (env : Env) x, foldedSetIterable it env x = pure x) :
    Real g N sc L (.ListComp elt [⟨tg, it, ifs, 0⟩] scope pos) (gLc0 n mi t c me (own.map (·.2))) := by
  intro Wx X C
  refine (pe_unl (pe_lc C.calm (by rw [C.N]; exact hN) (hi Wx X C) (by rw [C.N, C.sc]; exact ok) (fun s H Ca cl fp => hg noX _ (C.blk hl s H scope Ca cl fp) fun x h => h) (fun s H Ca cl fp => hc.pts (C.blk hl s H scope Ca cl fp)) (fun s H Ca cl fp => he noX _ (C.blk hl s H scope Ca cl fp)) (hs X.env))).weak ?_
  rintro σ H Q ⟨ρ, S, μ, hρ, hw, h⟩
  unfold gLc0 at h
  refine ⟨ρ, S, μ, hρ, hw, PostI.res h fun lk S1 ul J H1 μ1 g1 w1 s1 u1 h1 => fun D hD => lc_turns g1 u1 s1 w1 (hρ.mono g1) hD h1 (fun v σ H Q z => z) (fun σ H Q z => z)⟩
theorem re_lc {imm : Bool} {n : Nat} {ifs : List Expr} {scope : Scope} {own : List (Str × Nat)} {pos : Pos} (hN : N.Nodup) (hl : lamLike sc = false) (hi : RealI g N sc L tg it mi) (ok : BlkOk N sc scope own)
    (hg : RealN g N (relS scope sc) L (fun x => scope.names.lookup x == some .cell) (own.map (·.2)) tg t) (hc : RealIfs g N (relS scope sc) L ifs c) (he : Real g N (relS scope sc) L elt me) (hs : ∀ (env : Env) x, foldedSetIterable it env x = pure x) :
    Real g N sc L (.ListComp elt [⟨tg, it, ifs, 0⟩] scope pos) (gLc imm n mi t c me (own.map (·.2))) := by
  intro Wx X C
  refine (re_lc0 (n := n) hN hl hi ok hg hc he hs Wx X C).weak ?_
  rintro σ H Q ⟨ρ, S, μ, hρ, hw, h⟩
  unfold gLc at h
  cases imm with
  | true => exact ⟨ρ, S, μ, hρ, hw, PostR.untidy hw h⟩
  | false => exact ⟨ρ, S, μ, hρ, hw, h⟩
end
end Gp

set_option Elab.async false
set_option linter.all false
set_option maxRecDepth 100000
/-! Gp14: dict comprehensions, name = [..] on one line -/
namespace Gp
open PySem PySem.Spec L2
open PyProof.Rows hiding St

def dcN (lk : Look) (t : TN) (c : Option GE) (ek : GE) (e : GE) (ρ0 : Ev) (n0 : Nat) : Nat → Nat → Sto → Res
  | 0, _, _ => .bad
  | n + 1, i, S => match lk i S with
    | none => .bad
    | some none => .ok (.ref n0) S
    | some (some d) => match t d ρ0 with
      | none => .bad
      | some ρ => match tstG c ρ S with
        | .ok (.bl true) S1 => match ek ρ S1 with
          | .ok k S2 => match e ρ S2 with
            | .ok y S3 => match S3[n0]? with
              | some (.dict 0 false acc) => if keyOk 0 k = true ∧ acc.length < sizeLine then dcN lk t c ek e ρ0 n0 n (i + 1) (S3.set n0 (.dict 0 false (dput acc k y))) else .bad
              | _ => .bad
            | _ => .bad
          | _ => .bad
        | .ok (.bl false) S1 => dcN lk t c ek e ρ0 n0 n (i + 1) S1
        | _ => .bad
def gDc0 (n : Nat) (it : GI) (t : TN) (c : Option GE) (ek e : GE) (vs : List Nat) : GE := fun ρ S => (it ρ S).res fun lk S1 ul => unlR ul (dcN lk t c ek e (wipeG ρ vs) S1.length n 0 (S1 ++ [.dict 0 false []]))
def gDc (imm : Bool) (n : Nat) (it : GI) (t : TN) (c : Option GE) (ek e : GE) (vs : List Nat) : GE := fun ρ S => if imm = true then tidy S (gDc0 n it t c ek e vs ρ S) else gDc0 n it t c ek e vs ρ S
section
variable {g : G} {N : List Str} {sc : Scope} {L : Nat} {Wx : WX} {X : Cx} {tg it elt e ekx : Expr} {mi : GI} {t : TN} {c : Option GE} {me mk : GE} {vs : List Nat}
/-- the turns are right -/
theorem dc_turns {J : It} {lk : Look} {μ1 : List Addr} {H1 : Hp} {S1 : Sto} {σ : St} {ρ : Ev} {Q : VK} {E : Str → Hp → Prop} {n : Nat} {gt : TG} {te tk : TE} {D : Addr}
    {μ0 : List Addr} {H0 : Hp} {ul : Option Nat} (g0 : Grow μ0 H0 μ1 H1) (u1 : UlAt H0 μ1 ul) (sr : SrcOk g J lk μ1 H1) (w1 : W g μ1 H1 S1) (he : EnvOk g H1 μ1 ρ σ) (hD : H1 D = none)
    (h : PostR g μ0 H0 (unlR ul (dcN lk t c mk me (wipeG ρ vs) S1.length n 0 (S1 ++ [.dict 0 false []]))) Q E)
    (hg : ∀ v σ H Q, (∃ d ρ S μ, EnvOk g H μ ρ σ ∧ W g μ H S ∧ Rep g H μ d v ∧ match t d ρ with
      | some ρ2 => ∀ σ', EnvOk g H μ ρ2 σ' → wipe σ' vs = wipe σ vs → Q σ' H
      | none => False) → gt v σ H Q)
    (htk : ∀ σ H Q, tG g noX mk σ H Q → tk σ H Q) (hte : ∀ σ H Q, tG g noX me σ H Q → te σ H Q) :
    ∃ W : Nat → Nat → Hp → Prop, (∃ m, W 0 m (upd H1 D (.dK []))) ∧ ∀ i m H, W i m H →
      (J.stop i H ∧ UnlK H0 (Q (.ref D)) H) ∨ (J.go i H ∧ ∃ Nx : Hp → Prop, (∀ H', Nx H' → ∃ m', m' < m ∧ W (i + 1) m' H') ∧ ∀ x H', J.yld i H x H' → gt x (wipe σ vs) H' fun σ2 H2 => wipe σ2 vs = wipe σ vs ∧ tGTs g c σ2 H2 fun b H3 =>
        if b = true then tk σ2 H3 fun y H4 => te σ2 H4 fun z H5 => ∃ kvs k, y = kV k ∧ H5 D = some (.dK kvs) ∧ kvs.length < sizeLine ∧ Nx (upd H5 D (.dK (putK kvs k z))) else Nx H3) := by
  have hlen := w1.len
  have hDn : (μ1 ++ [D])[S1.length]? = some D := by rw [← hlen, List.getElem?_append_right (Nat.le_refl _)]; simp
  refine ⟨fun i m H => ∃ S μ, Grow μ1 H1 μ H ∧ μ[S1.length]? = some D ∧ W g μ H S ∧ PostR g μ0 H0 (unlR ul (dcN lk t c mk me (wipeG ρ vs) S1.length m i S)) Q E, ⟨n, S1 ++ [.dict 0 false []], μ1 ++ [D], grow_alloc hD, hDn, w1.alloc (c := .dict 0 false []) hD ⟨.dK [], .inl ⟨rfl, [], rfl, by simp [RepK]⟩, by rw [if_neg (by simp)]; exact upd_same⟩, h⟩, ?_⟩
  rintro i m H ⟨S, μ, gr, hmu, w, h⟩
  cases m with
  | zero => rw [show dcN lk t c mk me (wipeG ρ vs) S1.length 0 i S = .bad from rfl, unlR_bad] at h; exact h.elim
  | succ m =>
    unfold dcN at h
    split at h
    · rw [unlR_bad] at h; exact h.elim
    · rename_i el
      exact .inl ⟨sr.stop i μ H S gr w el, h.unlOk (g0.trans gr) w (by simp only [Rep]; exact ⟨D, rfl, hmu⟩) (u1.grow gr)⟩
    · rename_i d el
      obtain ⟨k1, k2⟩ := sr.go i μ H S d gr w el
      refine .inr ⟨k1, fun H' => ∃ S μ, Grow μ1 H1 μ H' ∧ μ[S1.length]? = some D ∧ W g μ H' S ∧ PostR g μ0 H0 (unlR ul (dcN lk t c mk me (wipeG ρ vs) S1.length m (i + 1) S)) Q E, fun H' z => ⟨m, Nat.lt_succ_self _, z⟩, fun x H' y => ?_⟩
      obtain ⟨g2, w2, r2⟩ := k2 x H' y
      refine hg _ _ _ _ ⟨d, wipeG ρ vs, S, μ, (he.mono (gr.trans g2)).wipe vs, w2, r2, ?_⟩
      split at h
      · rw [unlR_bad] at h; exact h.elim
      · rename_i ρ2 et
        rw [et]
        intro σ2 e2 hw2
        refine ⟨?_, ρ2, S, μ, e2, w2, ?_⟩
        · rw [hw2]
          have : ∀ vs' : List Nat, vs' = vs → wipe (wipe σ vs) vs' = wipe σ vs := by
            intro vs' hv
            apply List.ext_getElem?
            intro i
            have key : ∀ (τ : St) (vs : List Nat) (i : Nat), (wipe τ vs)[i]? = if i ∈ vs then (if i < τ.length then some none else none) else τ[i]? := by
              intro τ vs
              induction vs with
              | nil => intro i; simp [wipe]
              | cons u us ih =>
                intro i
                unfold wipe
                by_cases hi : u = i
                · subst hi
                  simp only [List.mem_cons, true_or, if_true]
                  by_cases hl : u < τ.length
                  · rw [if_pos hl, List.getElem?_set_self (by rw [wipe_length]; exact hl)]
                  · rw [if_neg hl, List.getElem?_eq_none (by rw [List.length_set, wipe_length]; omega)]
                · rw [List.getElem?_set_ne hi, ih i]
                  have : (i ∈ u :: us) ↔ i ∈ us := by simp [Ne.symm hi]
                  simp only [this]
            subst hv
            rw [key, key, wipe_length]
            by_cases hi : i ∈ vs' <;> simp [hi]
          exact this vs rfl
        · have h2 := h
          cases etst : tstG c ρ2 S with
          | bad => simp only [etst, unlR_bad] at h2; exact h2.elim
          | exc cc S3 => simp only [etst, unlR_bad] at h2; exact h2.elim
          | ok b S3 =>
            simp only [etst] at h2
            intro v H3 μ3 g3 w3 r3
            have g23 := g2.trans g3
            have hmu3 : μ3[S1.length]? = some D := g3.get hmu
            cases b with
            | bl b =>
              refine ⟨b, by simpa only [Rep] using r3, ?_⟩
              cases b with
              | false =>
                rw [if_neg (by simp)]
                exact ⟨S3, μ3, gr.trans g23, hmu3, w3, h2⟩
              | true =>
                rw [if_pos rfl]
                refine htk _ _ _ ⟨ρ2, S3, μ3, e2.mono g3, w3, ?_⟩
                cases ek : mk ρ2 S3 with
                | bad => simp only [ek, unlR_bad] at h2; exact h2.elim
                | exc cc S4 => simp only [ek, unlR_bad] at h2; exact h2.elim
                | ok yk S4 =>
                  simp only [ek] at h2
                  intro vk H4 μ4 g4 w4 r4
                  refine hte _ _ _ ⟨ρ2, S4, μ4, (e2.mono g3).mono g4, w4, ?_⟩
                  cases ee : me ρ2 S4 with
                  | bad => simp only [ee, unlR_bad] at h2; exact h2.elim
                  | exc cc S4 => simp only [ee, unlR_bad] at h2; exact h2.elim
                  | ok y S5 =>
                    simp only [ee] at h2
                    intro vy H5 μ5 g5 w5 r5
                    have hmu5 : μ5[S1.length]? = some D := g5.get (g4.get hmu3)
                    split at h2
                    · rename_i acc ha
                      split at h2
                      · rename_i hl
                        obtain ⟨u, hq, hH⟩ := w5.cell _ _ _ hmu5 ha
                        rw [if_neg (by simp)] at hH
                        rcases hq with ⟨_, ks, rfl, rk⟩ | ⟨z, _⟩
                        · obtain ⟨k, rfl, rfl⟩ := keyOk0 hl.1 (r4.mono g5)
                          have gs : Grow μ5 H5 μ5 (upd H5 D (.dK (putK ks k vy))) := grow_set (List.mem_of_getElem? hmu5) hH (by simp)
                          refine ⟨ks, k, rfl, hH, by rw [← repK_len rk]; exact hl.2, S5.set S1.length (.dict 0 false (dput acc (kD k) y)), μ5, (gr.trans ((g23.trans g4).trans g5)).trans gs, hmu5, w5.set hmu5 ⟨_, .inl ⟨rfl, _, rfl, (dputK r5 rk).mono gs⟩, by rw [if_neg (by simp)]; exact upd_same⟩, h2⟩
                        · cases z
                      · rw [unlR_bad] at h2; exact h2.elim
                    · rw [unlR_bad] at h2; exact h2.elim
            | _ => rw [unlR_bad] at h2; exact h2.elim
theorem re_dc0 {n : Nat} {ifs : List Expr} {scope : Scope} {own : List (Str × Nat)} {pos : Pos} (hN : N.Nodup) (hl : lamLike sc = false) (hi : RealI g N sc L tg it mi) (ok : BlkOk N sc scope own)
    (hg : RealN g N (relS scope sc) L (fun x => scope.names.lookup x == some .cell) (own.map (·.2)) tg t) (hc : RealIfs g N (relS scope sc) L ifs c) (hk : Real g N (relS scope sc) L ekx mk) (he : Real g N (relS scope sc) L elt me) (hs : ∀ (env : Env) x, foldedSetIterable it env x = pure x) :
    Real g N sc L (.DictComp ekx elt [⟨tg, it, ifs, 0⟩] scope pos) (gDc0 n mi t c mk me (own.map (·.2))) := by
  intro Wx X C
  refine (pe_unl (pe_dc C.calm (by rw [C.N]; exact hN) (hi Wx X C) (by rw [C.N, C.sc]; exact ok) (fun s H Ca cl fp => hg noX _ (C.blk hl s H scope Ca cl fp) fun x h => h) (fun s H Ca cl fp => hc.pts (C.blk hl s H scope Ca cl fp)) (fun s H Ca cl fp => hk noX _ (C.blk hl s H scope Ca cl fp)) (fun s H Ca cl fp => he noX _ (C.blk hl s H scope Ca cl fp)) (hs X.env))).weak ?_
  rintro σ H Q ⟨ρ, S, μ, hρ, hw, h⟩
  unfold gDc0 at h
  refine ⟨ρ, S, μ, hρ, hw, PostI.res h fun lk S1 ul J H1 μ1 g1 w1 s1 u1 h1 => fun D hD => dc_turns g1 u1 s1 w1 (hρ.mono g1) hD h1 (fun v σ H Q z => z) (fun σ H Q z => z) (fun σ H Q z => z)⟩
theorem re_dc {imm : Bool} {n : Nat} {ifs : List Expr} {scope : Scope} {own : List (Str × Nat)} {pos : Pos} (hN : N.Nodup) (hl : lamLike sc = false) (hi : RealI g N sc L tg it mi) (ok : BlkOk N sc scope own)
    (hg : RealN g N (relS scope sc) L (fun x => scope.names.lookup x == some .cell) (own.map (·.2)) tg t) (hc : RealIfs g N (relS scope sc) L ifs c) (hk : Real g N (relS scope sc) L ekx mk) (he : Real g N (relS scope sc) L elt me) (hs : ∀ (env : Env) x, foldedSetIterable it env x = pure x) :
    Real g N sc L (.DictComp ekx elt [⟨tg, it, ifs, 0⟩] scope pos) (gDc imm n mi t c mk me (own.map (·.2))) := by
  intro Wx X C
  refine (re_dc0 (n := n) hN hl hi ok hg hc hk he hs Wx X C).weak ?_
  rintro σ H Q ⟨ρ, S, μ, hρ, hw, h⟩
  unfold gDc at h
  cases imm with
  | true => exact ⟨ρ, S, μ, hρ, hw, PostR.untidy hw h⟩
  | false => exact ⟨ρ, S, μ, hρ, hw, h⟩

/-! ### name = [..] on one line -/
theorem rs_setLc {imm : Bool} {n i : Nat} {y : Str} {py : Pos} {ifs : List Expr} {scope : Scope} {own : List (Str × Nat)} {pos spos : Pos} (hN : N.Nodup) (hy : N[i]? = some y) (hyl : sc.names.lookup y = some .local)
    (hsw : ∀ env : Env, env.scope = sc → swapsWith (.ListComp elt [⟨tg, it, ifs, 0⟩] scope pos) (some (.Name y py)) spos.line env = pure true) (hl : lamLike sc = false) (hi : RealI g N sc L tg it mi) (ok : BlkOk N sc scope own)
    (hg : RealN g N (relS scope sc) L (fun x => scope.names.lookup x == some .cell) (own.map (·.2)) tg t) (hc : RealIfs g N (relS scope sc) L ifs c) (he : Real g N (relS scope sc) L elt me) (hs : ∀ (env : Env) x, foldedSetIterable it env x = pure x) :
    RealS g N sc L (.Assign [.Name y py] (.ListComp elt [⟨tg, it, ifs, 0⟩] scope pos) spos) (sAsg (gLc imm n mi t c me (own.map (·.2))) (tName i)) := by
  intro Wx X C
  refine (ps_unl (ps_setLc (i := i) C.calm (by rw [C.N]; exact hN) (by rw [C.N]; exact hy) (by rw [C.sc]; exact hyl) (hsw X.env C.sc) (hi Wx X C.toCtxOk) (by rw [C.N, C.sc]; exact ok) (fun s H Ca cl fp => hg noX _ (C.toCtxOk.blk hl s H scope Ca cl fp) fun x h => h) (fun s H Ca cl fp => hc.pts (C.toCtxOk.blk hl s H scope Ca cl fp)) (fun s H Ca cl fp => he noX _ (C.toCtxOk.blk hl s H scope Ca cl fp)) (hs X.env))).weak ?_
  rintro D σ H ⟨ρ, S, μ, hρ, hw, h⟩
  have h0 : PostS g Wx μ H ((gLc0 n mi t c me (own.map (·.2)) ρ S).thn ρ fun d S1 => .nx (ρ.set i (some d)) S1) D ∨ imm = true := by
    cases imm with
    | true => exact .inr rfl
    | false => exact .inl h
  have hK : PostR g μ H (gLc0 n mi t c me (own.map (·.2)) ρ S) (fun v H' => D.nx (σ.set i (some v)) H') (wE g Wx σ) := by
    cases imm with
    | false => exact PostS.ex (f := fun d S1 => .nx (ρ.set i (some d)) S1) hρ h fun d S1 v H1 μ1 g1 w1 r1 h1 => h1 _ H1 μ1 (.refl _ _) w1 ((hρ.mono g1).set1 r1)
    | true =>
      have h2 : PostR g μ H (tidy S (gLc0 n mi t c me (own.map (·.2)) ρ S)) (fun v H' => D.nx (σ.set i (some v)) H') (wE g Wx σ) := PostS.ex (f := fun d S1 => .nx (ρ.set i (some d)) S1) hρ h fun d S1 v H1 μ1 g1 w1 r1 h1 => h1 _ H1 μ1 (.refl _ _) w1 ((hρ.mono g1).set1 r1)
      exact PostR.untidy hw h2
  unfold gLc0 at hK
  exact ⟨ρ, S, μ, hρ, hw, PostI.res hK fun lk S1 ul J H1 μ1 g1 w1 s1 u1 h1 => fun D hD => lc_turns g1 u1 s1 w1 (hρ.mono g1) hD h1 (fun v σ H Q z => z) (fun σ H Q z => z)⟩
end
end Gp

set_option Elab.async false
set_option linter.all false
set_option maxRecDepth 100000
/-! Gp15: methods, displays of dicts, calls of what is held, o.f op= e, del d[k] -/
namespace Gp
open PySem PySem.Spec L2
open PyProof.Rows hiding St

/-! ### methods of built-in things -/
def rMb (g : G) (p : D → List D → Sto → Pr) : V → List V → Hp → VK → Prop := fun x vs H Q => ∃ a ds S μ, W g μ H S ∧ Rep g H μ a x ∧ RepL g H μ ds vs ∧ PostP g μ H (p a ds S) Q
theorem MtR.pick {X : Cx} {id : String} {r' : V → List V → Hp → VK → Prop} (h : ∀ x vs H Q, r' x vs H Q → ∃ r, MtR X id r ∧ r x vs H Q) : MtR X id r' := fun pins s σ H x xs v us Q I rx rv q => by
  obtain ⟨r, k, z⟩ := h x xs H Q q
  exact k pins s σ H x xs v us Q I rx rv z
def tyG (T : String) (d : D) (S : Sto) : Bool := match d with
  | .str _ => T == "str"
  | .ls _ => T == "list"
  | .sq _ => T == "list"
  | .ref n => match S[n]? with
    | some (.lst _) => T == "list"
    | _ => false
  | _ => false
def gMb (T : String) (p : D → List D → Sto → Pr) (o : GE) (l : List GE) : GE := fun ρ S => (o ρ S).bind fun x S1 => if tyG T x S1 = true then gArgs l ρ S1 fun ds S2 => (p x ds S2).res else .bad
section
variable {g : G} {N : List Str} {sc : Scope} {L : Nat} {Wx : WX} {X : Cx} {o e e2 : Expr} {mo me m2 : GE} {es : List Expr} {l : List GE} {name : Str} {apos cpos pos p tpos : Pos} {T id : String} {pr : D → List D → Sto → Pr}
variable {μ : List Addr} {H : Hp} {S : Sto} {Q : VK} {E : Str → Hp → Prop}
theorem tyG_rep {d : D} {v : V} (C : CtxOk g N sc L Wx X) (w : W g μ H S) (r : Rep g H μ d v) (h : tyG T d S = true) : tyV X.K T v H := by
  unfold tyG at h
  split at h
  · simp only [Rep] at r; subst r; simpa [tyV] using h
  · simp only [Rep] at r
    obtain ⟨p, vs, rfl, _, h1, _⟩ := r
    exact .inl ⟨by simpa using h, vs, .of h1⟩
  · simp only [Rep] at r
    obtain ⟨p, vs, rfl, h1, _⟩ := r
    exact .inl ⟨by simpa using h, vs, by rw [C.K]; exact h1.sq⟩
  · split at h
    · rename_i n l hs
      obtain ⟨a, rfl, _, _, vs, h1, _⟩ := w.ref r hs
      exact .inl ⟨by simpa using h, vs, .of h1⟩
    · cases h
  · cases h
theorem re_bm (pa : PlainAttrs T) (slot : Slot T name id) (hty : typeOf (.builtin id) = pure (.type "method_descriptor")) (hm : ∀ Wx X, CtxOk g N sc L Wx X → MtR X id (rMb g pr)) (ho : Real g N sc L o mo) (ha : RealA g N sc L (e :: es) l)
    (hbase : ∀ env : Env, attributeBase o name env (eval o env) = eval o env)
    (hfew : ∀ env : Env, ((backTo cpos (starEach (e :: es) env)).all (fun x => !x.1) && (backToKw cpos (keywordEach [] env)).all (fun x => x.1.isSome)
      && decide ((e :: es).length + ([] : List Keyword).length + (if ([] : List Keyword).isEmpty then 0 else 1) < 30)) = true)
    (hline : (apos.endLine == cpos.line) = true) (hs : ∀ env : Env, starEach (e :: es) env = (false, eval e env) :: starEach es env) (hplain : ∀ env : Env, (backTo cpos (starEach es env)).any (·.1) = false) :
    Real g N sc L (.Call (.Attribute o name apos) (e :: es) [] cpos) (gMb T pr mo l) := by
  intro Wx X C
  refine (pe_bm pa slot hty (hm Wx X C) (ho Wx X C) (ha.a Wx X C) (hbase X.env) (hfew X.env) hline (hs X.env) (hplain X.env)).weak ?_
  rintro σ H Q ⟨ρ, S, μ, he, hw, h⟩
  unfold gMb at h
  refine ⟨ρ, S, μ, he, hw, h.bind fun x S1 vx H1 μ1 g1 w1 r1 h1 => ?_⟩
  split at h1
  · rename_i ht
    exact ⟨tyG_rep C w1 r1 ht, ρ, S1, μ1, he.mono g1, w1, _, Q, h1, fun ds S2 vs H2 μ2 g2 w2 r2 h2 => ⟨x, ds, S2, μ2, w2, r1.mono g2, r2, h2.pr⟩⟩
  · exact h1.elim
theorem re_bm0 (pa : PlainAttrs T) (slot : Slot T name id) (hty : typeOf (.builtin id) = pure (.type "method_descriptor")) (hm : ∀ Wx X, CtxOk g N sc L Wx X → MtR X id (rMb g pr)) (ho : Real g N sc L o mo)
    (hbase : ∀ env : Env, attributeBase o name env (eval o env) = eval o env) (hline : (apos.endLine == cpos.line) = true) :
    Real g N sc L (.Call (.Attribute o name apos) [] [] cpos) (gMb T pr mo []) := by
  intro Wx X C
  refine (pe_bm0 pa slot hty (hm Wx X C) (ho Wx X C) (hbase X.env) hline).weak ?_
  rintro σ H Q ⟨ρ, S, μ, he, hw, h⟩
  unfold gMb at h
  refine ⟨ρ, S, μ, he, hw, h.bind fun x S1 vx H1 μ1 g1 w1 r1 h1 => ?_⟩
  split at h1
  · rename_i ht
    refine ⟨tyG_rep C w1 r1 ht, x, [], S1, μ1, w1, r1, .nil, ?_⟩
    unfold gArgs at h1
    exact h1.pr
  · exact h1.elim

/-! lists -/
def pAppend : D → List D → Sto → Pr := fun x ds S => match x, ds with
  | .ref n, [d] => match S[n]? with
    | some (.lst l) => if l.length < sizeLine then some (.non, S.set n (.lst (l ++ [d]))) else none
    | _ => none
  | _, _ => none
theorem m_append (C : CtxOk g N sc L Wx X) : MtR X "list.append" (rMb g pAppend) := MtR.pick fun x vs H Q h => by
  obtain ⟨a, ds, S, μ, w, r, rl, h⟩ := h
  unfold pAppend at h
  split at h
  · rename_i n d
    split at h
    · rename_i l hs
      obtain ⟨hl, h⟩ := ite_none h
      obtain ⟨a, rfl, ha, hm, xs, h1, q⟩ := w.ref r hs
      simp only [RepL] at rl
      obtain ⟨v, _, rfl, rv, rfl⟩ := rl
      have gr : Grow μ H μ (upd H a (.lst (xs ++ [v]))) := grow_set hm h1 (by simp)
      exact ⟨_, mt_append, a, xs, v, rfl, rfl, h1, by rw [← q.length]; exact hl, h .non _ μ gr (w.set ha ⟨_, upd_same, (q.snoc rv).mono gr⟩) (by simp [Rep])⟩
    · exact h.elim
  · exact h.elim
theorem RepL.dropLast {l : List D} {vs : List V} (r : RepL g H μ l vs) : RepL g H μ l.dropLast vs.dropLast := by
  rw [List.dropLast_eq_take, List.dropLast_eq_take, r.length]; exact r.take _
theorem RepL.erase : ∀ {l : List D} {vs : List V} (n : Nat), RepL g H μ l vs → RepL g H μ (l.eraseIdx n) (vs.eraseIdx n)
  | [], vs, n, r => by simp only [RepL] at r; subst r; simp [RepL]
  | d :: l, vs, 0, r => by simp only [RepL] at r; obtain ⟨v, t, rfl, _, q⟩ := r; exact q
  | d :: l, vs, n + 1, r => by simp only [RepL] at r; obtain ⟨v, t, rfl, h, q⟩ := r; exact .cons h (RepL.erase n q)
def pPop : D → List D → Sto → Pr := fun x ds S => match x, ds with
  | .ref n, [] => match S[n]? with
    | some (.lst l) => match l[l.length - 1]? with
      | some d => some (d, S.set n (.lst l.dropLast))
      | none => none
    | _ => none
  | .ref n, [.int i] => match S[n]? with
    | some (.lst l) => if -(2 ^ 63) ≤ i ∧ i < 2 ^ 63 then match seqIndex? i l.length with
      | some k => match l[k]? with
        | some d => some (d, S.set n (.lst (l.eraseIdx k)))
        | none => none
      | none => none
      else none
    | _ => none
  | _, _ => none
theorem m_pop (C : CtxOk g N sc L Wx X) : MtR X "list.pop" (rMb g pPop) := MtR.pick fun x vs H Q h => by
  obtain ⟨a, ds, S, μ, w, r, rl, h⟩ := h
  unfold pPop at h
  split at h
  · rename_i n
    split at h
    · rename_i l hs
      split at h
      · rename_i d hd
        obtain ⟨a, rfl, ha, hm, xs, h1, q⟩ := w.ref r hs
        simp only [RepL] at rl
        subst rl
        obtain ⟨v, hv, rv⟩ := q.get hd
        have gr : Grow μ H μ (upd H a (.lst xs.dropLast)) := grow_set hm h1 (by simp)
        exact ⟨_, mt_pop, a, xs, v, rfl, rfl, h1, by rw [← q.length]; exact hv, h v _ μ gr (w.set ha ⟨_, upd_same, q.dropLast.mono gr⟩) (rv.mono gr)⟩
      · exact h.elim
    · exact h.elim
  · rename_i n i
    split at h
    · rename_i l hs
      obtain ⟨hl, h⟩ := ite_none h
      split at h
      · rename_i k hk
        split at h
        · rename_i d hd
          obtain ⟨a, rfl, ha, hm, xs, h1, q⟩ := w.ref r hs
          obtain ⟨v, hv, rv⟩ := q.get hd
          have gr : Grow μ H μ (upd H a (.lst (xs.eraseIdx k))) := grow_set hm h1 (by simp)
          exact ⟨_, mt_popAt, a, xs, i, k, v, rfl, repL_int (is := [i]) rl, h1, hl.1, hl.2, by rw [← q.length]; exact hk, hv, h v _ μ gr (w.set ha ⟨_, upd_same, (q.erase k).mono gr⟩) (rv.mono gr)⟩
        · exact h.elim
      · exact h.elim
    · exact h.elim
  · exact h.elim

/-! dicts -/
def pGet1 : D → D → Sto → Pr := fun d k S => match asD d S with
  | some (j, l) => if keyOk j k = true then some ((dget l k).getD .non, S) else none
  | none => none
theorem isD_rep {d : D} {v : V} {k : Nat} {l : List (D × D)} (w : W g μ H S) (r : Rep g H μ d v) (e : asD d S = some (k, l)) : ∃ a, v = .ref a ∧ IsD H a := by
  obtain ⟨a, rfl, ⟨_, ks, h, _⟩ | ⟨_, ks, h, _⟩⟩ := asD_rep w r e
  · exact ⟨a, rfl, .inl ⟨ks, h⟩⟩
  · exact ⟨a, rfl, .inr ⟨ks, h⟩⟩
/-- a receiver that is a dict, then one argument, two -/
def gD1 (p : D → D → Sto → Pr) (o e : GE) : GE := fun ρ S => (o ρ S).bind fun x S1 => match asD x S1 with
  | some _ => (e ρ S1).bind fun y S2 => (p x y S2).res
  | none => .bad
def gD2 (p : D → D → D → Sto → Pr) (o e f : GE) : GE := fun ρ S => (o ρ S).bind fun x S1 => match asD x S1 with
  | some _ => (e ρ S1).bind fun y S2 => (f ρ S2).bind fun z S3 => (p x y z S3).res
  | none => .bad
structure M1A (o : Expr) (m : Str) (apos : Pos) (e : Expr) (cpos : Pos) : Prop where
  base : ∀ env : Env, attributeBase o m env (eval o env) = eval o env
  few : ∀ env : Env, ((backTo cpos (starEach [e] env)).all (fun x => !x.1) && (backToKw cpos (keywordEach [] env)).all (fun x => x.1.isSome)
    && decide (([e] : List Expr).length + ([] : List Keyword).length + (if ([] : List Keyword).isEmpty then 0 else 1) < 30)) = true
  line : (apos.endLine == cpos.line) = true
  trees : ∀ env : Env, backTo cpos (starEach [e] env) = [(false, eval e env)]
structure M2A (o : Expr) (m : Str) (apos : Pos) (e f : Expr) (cpos : Pos) : Prop where
  base : ∀ env : Env, attributeBase o m env (eval o env) = eval o env
  few : ∀ env : Env, ((backTo cpos (starEach [e, f] env)).all (fun x => !x.1) && (backToKw cpos (keywordEach [] env)).all (fun x => x.1.isSome)
    && decide (([e, f] : List Expr).length + ([] : List Keyword).length + (if ([] : List Keyword).isEmpty then 0 else 1) < 30)) = true
  line : (apos.endLine == cpos.line) = true
  trees : ∀ env : Env, backTo cpos (starEach [e, f] env) = [(false, eval e env), (false, eval f env)]
theorem M1A.at {m : Str} {cpos} (h : M1A o m apos e cpos) : M1 X o m apos e cpos := ⟨h.base _, h.few _, h.line, h.trees _⟩
theorem M2A.at {m : Str} {f : Expr} {cpos} (h : M2A o m apos e f cpos) : M2 X o m apos e f cpos := ⟨h.base _, h.few _, h.line, h.trees _⟩
theorem re_get1 (ho : Real g N sc L o mo) (he : Real g N sc L e me) (m : M1A o "get" apos e cpos) : Real g N sc L (.Call (.Attribute o "get" apos) [e] [] cpos) (gD1 pGet1 mo me) := by
  intro Wx X C
  refine (pe_dget1 C.hu (ho Wx X C) (he Wx X C) m.at).weak ?_
  rintro σ H Q ⟨ρ, S, μ, hρ, hw, h⟩
  unfold gD1 at h
  refine ⟨ρ, S, μ, hρ, hw, h.bind fun x S1 vx H1 μ1 g1 w1 r1 h1 => ?_⟩
  split at h1
  · rename_i kl ed
    obtain ⟨a, rfl, hd⟩ := isD_rep w1 r1 ed
    refine ⟨a, rfl, hd, ρ, S1, μ1, hρ.mono g1, w1, h1.bind fun y S2 vy H2 μ2 g2 w2 r2 h2 => ?_⟩
    have h3 := h2.pr
    unfold pGet1 at h3
    split at h3
    · rename_i j l ej
      obtain ⟨hk, h3⟩ := ite_none h3
      obtain ⟨q, ov, eq, dg, hsome, hnone⟩ := dget_rep w2 (r1.mono g2) r2 ej hk
      cases eq
      refine ⟨ov, dg, ?_⟩
      cases ez : dget l y with
      | some z =>
        obtain ⟨v, rfl, rz⟩ := hsome z ez
        rw [ez] at h3
        exact PostP.here h3 w2 rz
      | none =>
        rw [hnone ez]
        rw [ez] at h3
        exact PostP.here h3 w2 (by simp [Rep])
    · exact h3.elim
  · exact h1.elim
def pGet2 : D → D → D → Sto → Pr := fun d k z S => match asD d S with
  | some (j, l) => if keyOk j k = true then some ((dget l k).getD z, S) else none
  | none => none
theorem re_get2 (ho : Real g N sc L o mo) (he : Real g N sc L e me) (hf : Real g N sc L e2 m2) (m : M2A o "get" apos e e2 cpos) : Real g N sc L (.Call (.Attribute o "get" apos) [e, e2] [] cpos) (gD2 pGet2 mo me m2) := by
  intro Wx X C
  refine (pe_dget2 C.hu (ho Wx X C) (he Wx X C) (hf Wx X C) m.at).weak ?_
  rintro σ H Q ⟨ρ, S, μ, hρ, hw, h⟩
  unfold gD2 at h
  refine ⟨ρ, S, μ, hρ, hw, h.bind fun x S1 vx H1 μ1 g1 w1 r1 h1 => ?_⟩
  split at h1
  · rename_i kl ed
    obtain ⟨a, rfl, hd⟩ := isD_rep w1 r1 ed
    refine ⟨a, rfl, hd, ρ, S1, μ1, hρ.mono g1, w1, h1.bind fun y S2 vy H2 μ2 g2 w2 r2 h2 => ⟨ρ, S2, μ2, (hρ.mono g1).mono g2, w2, h2.bind fun z S3 vz H3 μ3 g3 w3 r3 h3 => ?_⟩⟩
    have h3 := h3.pr
    unfold pGet2 at h3
    split at h3
    · rename_i j l ej
      obtain ⟨hk, h3⟩ := ite_none h3
      obtain ⟨q, ov, eq, dg, hsome, hnone⟩ := dget_rep w3 ((r1.mono g2).mono g3) (r2.mono g3) ej hk
      cases eq
      refine ⟨ov, dg, ?_⟩
      cases ez : dget l y with
      | some z =>
        obtain ⟨v, rfl, rz⟩ := hsome z ez
        rw [ez] at h3
        exact PostP.here h3 w3 rz
      | none =>
        rw [hnone ez]
        rw [ez] at h3
        exact PostP.here h3 w3 r3
    · exact h3.elim
  · exact h1.elim
/-- a dict cell that may be written to, its keys flat -/
def cellD (d : D) (S : Sto) : Option (Nat × List (D × D)) := match d with
  | .ref n => match S[n]? with
    | some (.dict 0 false l) => some (n, l)
    | _ => none
  | _ => none
theorem cellD_rep {d : D} {v : V} {n : Nat} {l : List (D × D)} (w : W g μ H S) (r : Rep g H μ d v) (e : cellD d S = some (n, l)) : ∃ a ks, v = .ref a ∧ μ[n]? = some a ∧ a ∈ μ ∧ H a = some (.dK ks) ∧ RepK g H μ l ks := by
  unfold cellD at e
  split at e
  · split at e
    · rename_i n' l' hs
      cases e
      obtain ⟨a, rfl, ha, hm, u, hq, h1⟩ := w.ref r hs
      rw [if_neg (by simp)] at h1
      rcases hq with ⟨_, ks, rfl, q⟩ | ⟨z, _⟩
      · exact ⟨a, ks, rfl, ha, hm, h1, q⟩
      · cases z
    · cases e
  · cases e
theorem ddelK {k : Key} : ∀ {l : List (D × D)} {ks : List (Key × V)}, RepK g H μ l ks → RepK g H μ (ddel l (kD k)) (dropK ks k)
  | [], ks, r => by simp only [RepK] at r; subst r; simp [ddel, dropK, RepK]
  | p :: l, ks, r => by
    simp only [RepK] at r
    obtain ⟨j, v, t, rfl, e, h, q⟩ := r
    have ih := ddelK (k := k) q
    unfold ddel dropK at ih ⊢
    rw [List.filter_cons, List.filter_cons]
    by_cases hj : j = k
    · subst hj
      rw [if_neg (by simp [e]), if_neg (by simp)]
      exact ih
    · rw [if_pos (by simp only [decide_eq_true_eq]; intro z; exact hj (kD_inj (e.symm.trans z))), if_pos (by simpa using hj)]
      simp only [RepK]
      exact ⟨j, v, _, rfl, e, h, ih⟩
theorem W.setD {n : Nat} {a : Addr} {ks ks' : List (Key × V)} {l' : List (D × D)} (w : W g μ H S) (ha : μ[n]? = some a) (h1 : H a = some (.dK ks)) (q : RepK g H μ l' ks') :
    W g μ (upd H a (.dK ks')) (S.set n (.dict 0 false l')) ∧ Grow μ H μ (upd H a (.dK ks')) := by
  have gr : Grow μ H μ (upd H a (.dK ks')) := grow_set (List.mem_of_getElem? ha) h1 (by simp)
  exact ⟨w.set ha ⟨_, .inl ⟨rfl, _, rfl, q.mono gr⟩, by rw [if_neg (by simp)]; exact upd_same⟩, gr⟩
def pDPop1 : D → D → Sto → Pr := fun d k S => match cellD d S with
  | some (n, l) => if keyOk 0 k = true then match dget l k with
    | some v => some (v, S.set n (.dict 0 false (ddel l k)))
    | none => none
    else none
  | none => none
theorem re_dpop1 (ho : Real g N sc L o mo) (he : Real g N sc L e me) (m : M1A o "pop" apos e cpos) : Real g N sc L (.Call (.Attribute o "pop" apos) [e] [] cpos) (gD1 pDPop1 mo me) := by
  intro Wx X C
  refine (pe_dpop1 (ho Wx X C) (he Wx X C) m.at).weak ?_
  rintro σ H Q ⟨ρ, S, μ, hρ, hw, h⟩
  unfold gD1 at h
  refine ⟨ρ, S, μ, hρ, hw, h.bind fun x S1 vx H1 μ1 g1 w1 r1 h1 => ?_⟩
  split at h1
  · rename_i kl ed
    obtain ⟨a, rfl, hd⟩ := isD_rep w1 r1 ed
    refine ⟨a, rfl, hd, ρ, S1, μ1, hρ.mono g1, w1, h1.bind fun y S2 vy H2 μ2 g2 w2 r2 h2 => ?_⟩
    have h3 := h2.pr
    unfold pDPop1 at h3
    split at h3
    · rename_i n l ej
      obtain ⟨hk, h3⟩ := ite_none h3
      obtain ⟨b, ks, eb, ha, hm, hh, q⟩ := cellD_rep w2 (r1.mono g2) ej
      cases eb
      obtain ⟨k, rfl, rfl⟩ := keyOk0 hk r2
      split at h3
      · rename_i z ez
        obtain ⟨v, hv, rv⟩ := (dgetK q).1 z ez
        obtain ⟨w3, gr⟩ := w2.setD ha hh (ddelK (k := k) q)
        exact ⟨ks, k, v, hh, rfl, hv, h3 v _ μ2 gr w3 (rv.mono gr)⟩
      · exact h3.elim
    · exact h3.elim
  · exact h1.elim
def pDPop2 : D → D → D → Sto → Pr := fun d k z S => match cellD d S with
  | some (n, l) => if keyOk 0 k = true then match dget l k with
    | some v => some (v, S.set n (.dict 0 false (ddel l k)))
    | none => some (z, S)
    else none
  | none => none
theorem re_dpop2 (ho : Real g N sc L o mo) (he : Real g N sc L e me) (hf : Real g N sc L e2 m2) (m : M2A o "pop" apos e e2 cpos) : Real g N sc L (.Call (.Attribute o "pop" apos) [e, e2] [] cpos) (gD2 pDPop2 mo me m2) := by
  intro Wx X C
  refine (pe_dpop2 (ho Wx X C) (he Wx X C) (hf Wx X C) m.at).weak ?_
  rintro σ H Q ⟨ρ, S, μ, hρ, hw, h⟩
  unfold gD2 at h
  refine ⟨ρ, S, μ, hρ, hw, h.bind fun x S1 vx H1 μ1 g1 w1 r1 h1 => ?_⟩
  split at h1
  · rename_i kl ed
    obtain ⟨a, rfl, hd⟩ := isD_rep w1 r1 ed
    refine ⟨a, rfl, hd, ρ, S1, μ1, hρ.mono g1, w1, h1.bind fun y S2 vy H2 μ2 g2 w2 r2 h2 => ⟨ρ, S2, μ2, (hρ.mono g1).mono g2, w2, h2.bind fun z S3 vz H3 μ3 g3 w3 r3 h3 => ?_⟩⟩
    have h3 := h3.pr
    unfold pDPop2 at h3
    split at h3
    · rename_i n l ej
      obtain ⟨hk, h3⟩ := ite_none h3
      obtain ⟨b, ks, eb, ha, hm, hh, q⟩ := cellD_rep w3 ((r1.mono g2).mono g3) ej
      cases eb
      obtain ⟨k, rfl, rfl⟩ := keyOk0 hk (r2.mono g3)
      refine ⟨ks, k, hh, rfl, fun v hv => ?_, fun hn => ?_⟩
      · split at h3
        · rename_i z ez
          obtain ⟨v', hv', rv⟩ := (dgetK q).1 z ez
          rw [hv] at hv'; cases hv'
          obtain ⟨w4, gr⟩ := w3.setD ha hh (ddelK (k := k) q)
          exact h3 v _ μ3 gr w4 (rv.mono gr)
        · rename_i ez
          rw [(dgetK q).2 ez] at hv; cases hv
      · split at h3
        · rename_i z ez
          obtain ⟨v', hv', rv⟩ := (dgetK q).1 z ez
          rw [hn] at hv'; cases hv'
        · exact PostP.here h3 w3 r3
    · exact h3.elim
  · exact h1.elim
def pDSetd : D → D → D → Sto → Pr := fun d k z S => match cellD d S with
  | some (n, l) => if keyOk 0 k = true ∧ l.length < sizeLine then match dget l k with
    | some v => some (v, S)
    | none => some (z, S.set n (.dict 0 false (dput l k z)))
    else none
  | none => none
theorem re_dsetd (ho : Real g N sc L o mo) (he : Real g N sc L e me) (hf : Real g N sc L e2 m2) (m : M2A o "setdefault" apos e e2 cpos) : Real g N sc L (.Call (.Attribute o "setdefault" apos) [e, e2] [] cpos) (gD2 pDSetd mo me m2) := by
  intro Wx X C
  refine (pe_dsetd (ho Wx X C) (he Wx X C) (hf Wx X C) m.at).weak ?_
  rintro σ H Q ⟨ρ, S, μ, hρ, hw, h⟩
  unfold gD2 at h
  refine ⟨ρ, S, μ, hρ, hw, h.bind fun x S1 vx H1 μ1 g1 w1 r1 h1 => ?_⟩
  split at h1
  · rename_i kl ed
    obtain ⟨a, rfl, hd⟩ := isD_rep w1 r1 ed
    refine ⟨a, rfl, hd, ρ, S1, μ1, hρ.mono g1, w1, h1.bind fun y S2 vy H2 μ2 g2 w2 r2 h2 => ⟨ρ, S2, μ2, (hρ.mono g1).mono g2, w2, h2.bind fun z S3 vz H3 μ3 g3 w3 r3 h3 => ?_⟩⟩
    have h3 := h3.pr
    unfold pDSetd at h3
    split at h3
    · rename_i n l ej
      obtain ⟨hk, h3⟩ := ite_none h3
      obtain ⟨b, ks, eb, ha, hm, hh, q⟩ := cellD_rep w3 ((r1.mono g2).mono g3) ej
      cases eb
      obtain ⟨k, rfl, rfl⟩ := keyOk0 hk.1 (r2.mono g3)
      refine ⟨ks, k, hh, rfl, by rw [← repK_len q]; exact hk.2, fun v hv => ?_, fun hn => ?_⟩
      · split at h3
        · rename_i z ez
          obtain ⟨v', hv', rv⟩ := (dgetK q).1 z ez
          rw [hv] at hv'; cases hv'
          exact PostP.here h3 w3 rv
        · rename_i ez
          rw [(dgetK q).2 ez] at hv; cases hv
      · split at h3
        · rename_i z ez
          obtain ⟨v', hv', rv⟩ := (dgetK q).1 z ez
          rw [hn] at hv'; cases hv'
        · obtain ⟨w4, gr⟩ := w3.setD ha hh (dputK (k := k) r3 q)
          exact h3 _ _ μ3 gr w4 (r3.mono gr)
    · exact h3.elim
  · exact h1.elim

/-! ### displays of dicts -/
def gDispN (n0 : Nat) : List (GE × GE) → Ev → Sto → List (D × D) → Res
  | [], _, S, acc => match S[n0]? with
    | some (.dict 0 false []) => .ok (.ref n0) (S.set n0 (.dict 0 false acc))
    | _ => .bad
  | p :: r, ρ, S, acc => match p.1 ρ S with
    | .ok k S1 => match p.2 ρ S1 with
      | .ok v S2 => if keyOk 0 k = true then gDispN n0 r ρ S2 (dput acc k v) else .bad
      | .exc c S2 => .exc c S2
      | .bad => .bad
    | .exc c S1 => .exc c S1
    | .bad => .bad
def gDisp (imm : Bool) (l : List (GE × GE)) : GE := fun ρ S => if imm = true then tidy S (gDispN S.length l ρ (S ++ [.dict 0 false []]) []) else gDispN S.length l ρ (S ++ [.dict 0 false []]) []
inductive RealPs (g : G) (N : List Str) (sc : Scope) (L : Nat) : List (Option Expr) → List Expr → List (GE × GE) → Prop
  | nil : RealPs g N sc L [] [] []
  | cons {k v : Expr} {ks : List (Option Expr)} {vs : List Expr} {mk mv : GE} {l : List (GE × GE)} (hk : Real g N sc L k mk) (hv : Real g N sc L v mv) (h : RealPs g N sc L ks vs l) : RealPs g N sc L (some k :: ks) (v :: vs) ((mk, mv) :: l)
theorem RealPs.pps {ks : List (Option Expr)} {vs : List Expr} {l : List (GE × GE)} (h : RealPs g N sc L ks vs l) (C : CtxOk g N sc L Wx X) : PPs X pos ks vs (l.map fun p => (tG g Wx p.1, tG g Wx p.2)) := by
  induction h with
  | nil => exact pps_nil
  | cons hk hv h ih => exact pps_cons (hk Wx X C) (hv Wx X C) ih
theorem disp_turns {σ : St} {p : Addr} {n0 : Nat} {μ0 : List Addr} {H0 : Hp} : ∀ {l : List (GE × GE)} {μ : List Addr} {H : Hp} {S : Sto} {ρ : Ev} {acc : List (D × D)} {kvs0 : List (Key × V)} {Qf : List (V × V) → Hp → Prop},
    EnvOk g H μ ρ σ → W g μ H S → Grow μ0 H0 μ H → μ[n0]? = some p → RepK g H μ acc (mergeK [] kvs0) → kvs0.length + l.length ≤ 15 → PostR g μ0 H0 (gDispN n0 l ρ S acc) Q (wE g Wx σ) →
    (∀ ps H2, (H2 p = some (.dK []) ∧ ∃ kvs : List (Key × V), ps = kvs.map (fun kv => (kV kv.1, kv.2)) ∧ (kvs0 ++ kvs).length ≤ 15 ∧ Q (.ref p) (upd H2 p (.dK (mergeK [] (kvs0 ++ kvs))))) → Qf ps H2) →
    tPairs (l.map fun p => (tG g Wx p.1, tG g Wx p.2)) σ H Qf
  | [], μ, H, S, ρ, acc, kvs0, Qf, he, w, gr, hp, ra, hl, h, hQ => by
    unfold gDispN at h
    split at h
    · rename_i hs
      obtain ⟨u, hq, h1⟩ := w.cell _ _ _ hp hs
      rw [if_neg (by simp)] at h1
      rcases hq with ⟨_, ks, rfl, q⟩ | ⟨z, _⟩
      · simp only [RepK] at q
        subst q
        obtain ⟨w2, g2⟩ := w.setD hp h1 ra
        refine hQ [] H ⟨h1, [], rfl, by simpa using hl, ?_⟩
        rw [List.append_nil]
        exact h _ _ μ (gr.trans g2) w2 (by simp only [Rep]; exact ⟨p, rfl, hp⟩)
      · cases z
    · exact h.elim
  | x :: l, μ, H, S, ρ, acc, kvs0, Qf, he, w, gr, hp, ra, hl, h, hQ => by
    obtain ⟨mk, mv⟩ := x
    unfold gDispN at h
    simp only at h
    refine ⟨ρ, S, μ, he, w, ?_⟩
    show PostR g μ H (mk ρ S) _ _
    cases ek : mk ρ S with
    | bad => rw [ek] at h; exact h.elim
    | exc c S1 => rw [ek] at h; exact fun H1 μ1 g1 w1 => h H1 μ1 (gr.trans g1) w1
    | ok k S1 =>
      rw [ek] at h
      intro vk H1 μ1 g1 w1 r1
      refine ⟨ρ, S1, μ1, he.mono g1, w1, ?_⟩
      show PostR g μ1 H1 (mv ρ S1) _ _
      simp only at h
      cases ev : mv ρ S1 with
      | bad => rw [ev] at h; exact h.elim
      | exc c S2 => rw [ev] at h; exact fun H2 μ2 g2 w2 => h H2 μ2 ((gr.trans g1).trans g2) w2
      | ok v S2 =>
        rw [ev] at h
        intro vv H2 μ2 g2 w2 r2
        simp only at h
        by_cases hk : keyOk 0 k = true
        · rw [if_pos hk] at h
          obtain ⟨j, rfl, rfl⟩ := keyOk0 hk (r1.mono g2)
          have g12 := g1.trans g2
          have hm : mergeK [] (kvs0 ++ [(j, vv)]) = putK (mergeK [] kvs0) j vv := by unfold mergeK; rw [List.foldl_append]; rfl
          refine disp_turns (l := l) (kvs0 := kvs0 ++ [(j, vv)]) ((he.mono g1).mono g2) w2 ((gr.trans g1).trans g2) (g2.get (g1.get hp)) (by rw [hm]; exact dputK r2 ((ra.mono g1).mono g2)) (by simp at hl ⊢; omega) h ?_
          rintro ps H3 ⟨e1, kvs, e2, e3, e4⟩
          refine hQ _ _ ⟨e1, (j, vv) :: kvs, by rw [List.map_cons, e2], ?_, ?_⟩
          · rw [show kvs0 ++ (j, vv) :: kvs = kvs0 ++ [(j, vv)] ++ kvs by simp]; exact e3
          · rw [show kvs0 ++ (j, vv) :: kvs = kvs0 ++ [(j, vv)] ++ kvs by simp]; exact e4
        · rw [if_neg hk] at h; exact h.elim
theorem re_disp {imm : Bool} {ks : List (Option Expr)} {vs : List Expr} {l : List (GE × GE)} (h : RealPs g N sc L ks vs l) (hall : ks.all (·.isSome) = true) (hl : ks.length = vs.length) (h0 : ks ≠ []) (h15 : ks.length ≤ 15) (hl2 : l.length ≤ 15) :
    Real g N sc L (.Dict ks vs pos) (gDisp imm l) := by
  intro Wx X C
  refine (pe_disp (h.pps C) hall hl h0 h15).weak ?_
  rintro σ H Q ⟨ρ, S, μ, hρ, hw, hh⟩
  have hh2 : PostR g μ H (gDispN S.length l ρ (S ++ [.dict 0 false []]) []) Q (wE g Wx σ) := by
    unfold gDisp at hh
    cases imm with
    | true => exact PostR.untidy hw hh
    | false => exact hh
  intro p hp
  have hlen := hw.len
  have hpn : (μ ++ [p])[S.length]? = some p := by rw [← hlen, List.getElem?_append_right (Nat.le_refl _)]; simp
  refine disp_turns (kvs0 := []) (hρ.mono (grow_alloc hp)) (hw.alloc (c := .dict 0 false []) hp ⟨.dK [], .inl ⟨rfl, [], rfl, by simp [RepK]⟩, by rw [if_neg (by simp)]; exact upd_same⟩) (grow_alloc hp) hpn (by simp [mergeK, RepK]) (by simpa using hl2) hh2 ?_
  rintro ps H2 ⟨e1, kvs, e2, e3, e4⟩
  exact ⟨e1, kvs, e2, by simpa using e3, by simpa using e4⟩
/-- {}: keys k = 0 flat, k = 1 tuples of flat ones -/
def gDict0 (imm : Bool) (k : Nat) : GE := fun _ S => if imm = true then .ok (.dc k []) S else .ok (.ref S.length) (S ++ [.dict k false []])
theorem re_dict0 {imm : Bool} {k : Nat} (hk : k = 0 ∨ k = 1) : Real g N sc L (.Dict [] [] pos) (gDict0 imm k) := by
  intro Wx X C
  rcases hk with rfl | rfl
  · refine pe_dnewK.weak ?_
    rintro σ H Q ⟨ρ, S, μ, hρ, hw, h⟩ p hp
    unfold gDict0 at h
    cases imm with
    | true => exact h _ _ μ (grow_fresh hp) (hw.add hp) (by simp only [Rep]; refine ⟨p, rfl, hw.fresh hp, .inl ⟨trivial, [], .inl upd_same, by simp [RepK]⟩⟩)
    | false => exact h _ _ (μ ++ [p]) (grow_alloc hp) (hw.alloc (c := .dict 0 false []) hp ⟨.dK [], .inl ⟨rfl, [], rfl, by simp [RepK]⟩, by rw [if_neg (by simp)]; exact upd_same⟩) (by simp only [Rep]; exact ⟨p, rfl, by rw [← hw.len, List.getElem?_append_right (Nat.le_refl _)]; simp⟩)
  · refine pe_dnewT.weak ?_
    rintro σ H Q ⟨ρ, S, μ, hρ, hw, h⟩ p hp
    unfold gDict0 at h
    cases imm with
    | true => exact h _ _ μ (grow_fresh hp) (hw.add hp) (by simp only [Rep]; refine ⟨p, rfl, hw.fresh hp, .inr ⟨trivial, [], .inl upd_same, by simp [RepT]⟩⟩)
    | false => exact h _ _ (μ ++ [p]) (grow_alloc hp) (hw.alloc (c := .dict 1 false []) hp ⟨.dT [], .inr ⟨rfl, [], rfl, by simp [RepT]⟩, by rw [if_neg (by simp)]; exact upd_same⟩) (by simp only [Rep]; exact ⟨p, rfl, by rw [← hw.len, List.getElem?_append_right (Nat.le_refl _)]; simp⟩)

/-! ### calls of functions that are held -/
abbrev FTab := List (Str × List D × Fn)
/-- o.f(e, ..), f an attribute that holds a function -/
def gMethF (cl : List Str) (tab : FTab) (f : Str) (o : GE) (l : List GE) : GE := fun ρ S => (o ρ S).bind fun x S1 => match gAttr cl f x S1 with
  | some (.fn y, _) => match mlook y tab with
    | some (dds, F) => gArgs l ρ S1 fun ds S2 => F (ds ++ dds) S2
    | none => .bad
  | _ => .bad
theorem re_methF {cl : List Str} {tab : FTab} {f : Str} {k : Nat} {pl : Env → Sem Bool} (ho : Real g N sc L o mo) (hc : ∀ c ∈ cl, ClsF g c f) (hT : ∀ q ∈ tab, CallOk g k q.1 q.2.1 q.2.2) (hk : k ≤ L) (ha : RealA g N sc L (e :: es) l)
    (hst : ∀ env : Env, starEach (e :: es) env = (false, eval e env) :: starEach es env) (hpl : ∀ env : Env, (backTo pos (starEach es env)).any (·.1) = false)
    (ht : ∀ env : Env, eval (.Call (.Attribute o f apos) (e :: es) [] pos) env = (do
      let ov ← eval o env
      standAt apos.atName
      let (f, first) ← holding [ov] (getMethod ov f (pl env))
      callWith pos f first (backTo pos (starEach (e :: es) env)) (backToKw pos (keywordEach [] env)))) :
    Real g N sc L (.Call (.Attribute o f apos) (e :: es) [] pos) (gMethF cl tab f mo l) := by
  intro Wx X C
  refine ⟨fun pins s σ H Q I h => ?_⟩
  obtain ⟨ρ, S, μ, he, hw, h⟩ := h
  unfold gMethF at h
  refine PySem.W.methodCall_KW (pl := pl X.env) (thn ((ho Wx X C).run pins s σ H (fun v H1 => ∃ x S1 μ1, EnvOk g H1 μ1 ρ σ ∧ W g μ1 H1 S1 ∧ Rep g H1 μ1 x v ∧ PostR g μ1 H1 (match gAttr cl f x S1 with
    | some (.fn y, _) => match mlook y tab with
      | some (dds, F) => gArgs l ρ S1 fun ds S2 => F (ds ++ dds) S2
      | none => .bad
    | _ => .bad) Q (wE g Wx σ)) I ⟨ρ, S, μ, he, hw, h.bind fun d S1 v H1 μ1 g1 w1 r1 h1 => ⟨d, S1, μ1, he.mono g1, w1, r1, h1⟩⟩) fun u s1 ⟨v, H1, I1, rv, x, S1, μ1, e1, w1, r1, h1⟩ => ?_) (ht X.env)
  split at h1
  · rename_i y S2 eg
    split at h1
    · rename_i dds F et
      obtain ⟨fa, fd, ps, hm, hF, ds, dvs, hb, hd, hr⟩ := hT _ (mlook_mem et)
      have key : ∃ a CC dx vs vf c, v = .ref a ∧ c ∈ cl ∧ g.mg c = some (.ref CC) ∧ H1 a = some (.ins CC dx vs) ∧ vs.lookup f = some vf ∧ Rep g H1 μ1 (.fn y) vf := by
        unfold gAttr at eg
        split at eg
        · rename_i c fs
          split at eg
          · rename_i hcl
            simp only [Rep] at r1
            obtain ⟨a, CC, dx, vs, rfl, _, mc, ea, q⟩ := r1
            cases ez : lookD f fs with
            | none => rw [ez] at eg; cases eg
            | some z =>
              rw [ez] at eg
              cases eg
              obtain ⟨vf, hv, rz⟩ := q.look.1 _ ez
              exact ⟨a, CC, dx, vs, vf, c, rfl, hcl, mc, ea, hv, rz⟩
          · cases eg
        · rename_i n
          split at eg
          · rename_i c fs hs
            split at eg
            · rename_i hcl
              obtain ⟨a, rfl, ha, hmm, CC, dx, vs, mc, ea, q⟩ := w1.ref r1 hs
              cases ez : lookD f fs with
              | none => rw [ez] at eg; cases eg
              | some z =>
                rw [ez] at eg
                cases eg
                obtain ⟨vf, hv, rz⟩ := q.look.1 _ ez
                exact ⟨a, CC, dx, vs, vf, c, rfl, hcl, mc, ea, hv, rz⟩
            · cases eg
          · cases eg
        · cases eg
      obtain ⟨a, CC, dx, vs, vf, c, rfl, hcl, mc, ea, hv, rz⟩ := key
      obtain ⟨k1, k2⟩ := hc c hcl CC mc
      obtain rfl : u = Value.ref a := rv
      refine getmeth_fld I1 ea (by rw [C.K]; exact k1) (by rw [C.K]; exact k2) hv fun u2 s2 I2 ru => ?_
      simp only [Rep] at rz
      obtain ⟨a2, rfl, hm2⟩ := rz
      rw [hm] at hm2; cases hm2
      obtain rfl : u2 = Value.ref fa := ru
      refine PySem.W.callWith_K (h₀ := X.base) I2.ok.mod.kin (by rw [C.K]; exact hF.kp) (thn ((ha.a Wx X C).run pos pins s2 σ H1 (fun vs2 H2 => spG g F (vs2 ++ dvs) H2 Q (WE Wx σ)) I2
        ⟨ρ, S1, μ1, e1, w1, _, Q, h1, fun xs S3 vs2 H2 μ2 g2 w2 r2 h2 => ⟨xs ++ dds, S3, μ2, w2, r2.append (hr _ _), h2⟩⟩) fun us s3 ⟨vs2, H2, I3, r, q2⟩ => ⟨I3.kIn, ?_⟩) (hst X.env) (hpl X.env)
      exact run_fnSD (us := us) (vs := vs2) (hF.of C) (C.room.mono hk) (by rw [C.K]; exact hb) hd (passAt C.tk σ) I3 r q2
    · exact h1.elim
  · exact h1.elim

/-! ### o.f op= e, del d[k] -/
def sAugA (cl : List Str) (f : Str) (p : D → D → Sto → Pr) (o v : GE) : GS := fun ρ S => (o ρ S).thn ρ fun x S1 => match gAttr cl f x S1 with
  | some (old, _) => (v ρ S1).thn ρ fun y S2 => match p old y S2 with
    | some (z, S3) => if (clsOf x S1).map (·.1) = (clsOf x S3).map (·.1) then match setA cl f x z S3 with
      | some S4 => .nx ρ S4
      | none => .bad
      else .bad
    | none => .bad
  | none => .bad
theorem gAttr_rep {cl : List Str} {f : Str} {x d : D} {v : V} {S' : Sto} (hc : ∀ c ∈ cl, ClsF g c f) (w : W g μ H S) (r : Rep g H μ x v) (e : gAttr cl f x S = some (d, S')) :
    S' = S ∧ ∃ a CC dx vs vf c, v = .ref a ∧ c ∈ cl ∧ g.mg c = some (.ref CC) ∧ H a = some (.ins CC dx vs) ∧ vs.lookup f = some vf ∧ Rep g H μ d vf ∧ (clsOf x S).map (·.1) = some c := by
  unfold gAttr at e
  split at e
  · rename_i c fs
    split at e
    · rename_i hcl
      simp only [Rep] at r
      obtain ⟨a, CC, dx, vs, rfl, _, mc, ea, q⟩ := r
      cases ez : lookD f fs with
      | none => rw [ez] at e; cases e
      | some z =>
        rw [ez] at e
        cases e
        obtain ⟨vf, hv, rz⟩ := q.look.1 _ ez
        exact ⟨rfl, a, CC, dx, vs, vf, c, rfl, hcl, mc, ea, hv, rz, rfl⟩
    · cases e
  · rename_i n
    split at e
    · rename_i c fs hs
      split at e
      · rename_i hcl
        obtain ⟨a, rfl, ha, hmm, CC, dx, vs, mc, ea, q⟩ := w.ref r hs
        cases ez : lookD f fs with
        | none => rw [ez] at e; cases e
        | some z =>
          rw [ez] at e
          cases e
          obtain ⟨vf, hv, rz⟩ := q.look.1 _ ez
          exact ⟨rfl, a, CC, dx, vs, vf, c, rfl, hcl, mc, ea, hv, rz, by simp only [clsOf, hs]; rfl⟩
      · cases e
    · cases e
  · cases e
theorem setA_rep {cl : List Str} {f : Str} {x z : D} {v vz : V} {S' : Sto} (w : W g μ H S) (r : Rep g H μ x v) (rz : Rep g H μ z vz) (e : setA cl f x z S = some S') :
    ∃ a CC dx vs c, v = .ref a ∧ g.mg c = some (.ref CC) ∧ (clsOf x S).map (·.1) = some c ∧ H a = some (.ins CC dx vs) ∧ vs.length < 1000 ∧ W g μ (upd H a (.ins CC dx (putF f vz vs))) S' ∧ Grow μ H μ (upd H a (.ins CC dx (putF f vz vs))) := by
  unfold setA at e
  split at e
  · split at e
    · rename_i n c fs hs
      split at e
      · rename_i hcl
        cases e
        obtain ⟨a, rfl, ha, hm, CC, dx, vs, mc, ea, q⟩ := w.ref r hs
        have gr : Grow μ H μ (upd H a (.ins CC dx (putF f vz vs))) := grow_set hm ea (by simp)
        exact ⟨a, CC, dx, vs, c, rfl, mc, by simp only [clsOf, hs]; rfl, ea, by rw [← q.length]; exact hcl.2, w.set ha ⟨CC, dx, _, mc, upd_same, (RepF.put rz q).mono gr⟩, gr⟩
      · cases e
    · cases e
  · cases e
theorem rs_augA {f : Str} {cl : List Str} {op : Operator} {pp : D → D → Sto → Pr} {v : Expr} {mv : GE} (ho : Real g N sc L o mo) (hv : Real g N sc L v mv) (hc : ∀ c ∈ cl, ClsF g c f) (hop : OpI g N sc L op pp) :
    RealS g N sc L (.AugAssign (.Attribute o f tpos) op v pos) (sAugA cl f pp mo mv) := by
  intro Wx X C
  refine (ps_fldaug (rd := rP2 g pp) (ho Wx X C.toCtxOk) (hv Wx X C.toCtxOk) (fun pins s σ H x y u v Q I rx ry q => hop Wx X C.toCtxOk pins s σ H x y u v Q I rx ry q)).weak ?_
  rintro D σ H ⟨ρ, S, μ, he, hw, h⟩
  refine ⟨ρ, S, μ, he, hw, h.ex he fun x S1 vx H1 μ1 g1 w1 r1 h1 => ?_⟩
  split at h1
  · rename_i old S1' eg
    obtain ⟨rfl, a, CC, dx, vs, vf, c, rfl, hcl, mc, ea, hv, rz, ecl⟩ := gAttr_rep hc w1 r1 eg
    obtain ⟨k1, k2⟩ := hc c hcl CC mc
    refine ⟨a, CC, dx, vs, vf, rfl, ea, by rw [C.K]; exact k1, by rw [C.K]; exact k2, hv, ρ, S1', μ1, he.mono g1, w1, h1.ex (he.mono g1) fun y S2 vy H2 μ2 g2 w2 r2 h2 => ⟨old, y, S2, μ2, w2, rz.mono g2, r2, ?_⟩⟩
    split at h2
    · rename_i z S3 e3
      rw [e3]
      intro vz H3 μ3 g3 w3 r3
      have r1' := (r1.mono g2).mono g3
      have he3 := ((he.mono g1).mono g2).mono g3
      split at h2
      · rename_i hcc
        split at h2
        · rename_i S4 e4
          obtain ⟨a', CC', dx', vs', c', ea1, mc', ecl', ea', hl, w4, g4⟩ := setA_rep w3 r1' r3 e4
          cases ea1
          rw [ecl, ecl'] at hcc
          cases hcc
          rw [mc] at mc'
          cases mc'
          exact ⟨dx', vs', ea', hl, h2 σ _ μ3 (g3.trans g4) w4 (he3.mono g4)⟩
        · exact h2.elim
      · exact h2.elim
    · exact h2.elim
  · exact h1.elim
def pDel : D → D → Sto → Option Sto := fun d k S => match cellD d S with
  | some (n, l) => if keyOk 0 k = true then match dget l k with
    | some _ => some (S.set n (.dict 0 false (ddel l k)))
    | none => none
    else none
  | none => none
def sDel (o i : GE) : GS := fun ρ S => (o ρ S).thn ρ fun x S1 => (i ρ S1).thn ρ fun y S2 => match pDel x y S2 with
  | some S3 => .nx ρ S3
  | none => .bad
theorem rs_del (ho : Real g N sc L o mo) (hi : Real g N sc L e me) : RealS g N sc L (.Delete [.Subscript o e tpos] pos) (sDel mo me) := by
  intro Wx X C
  refine (ps_ddel (ho Wx X C.toCtxOk) (hi Wx X C.toCtxOk)).weak ?_
  rintro D σ H ⟨ρ, S, μ, he, hw, h⟩
  refine ⟨ρ, S, μ, he, hw, h.ex he fun x S1 vx H1 μ1 g1 w1 r1 h1 => ⟨ρ, S1, μ1, he.mono g1, w1, h1.ex (he.mono g1) fun y S2 vy H2 μ2 g2 w2 r2 h2 => ?_⟩⟩
  split at h2
  · rename_i S3 e3
    unfold pDel at e3
    split at e3
    · rename_i n l ej
      obtain ⟨b, ks, rfl, ha, hm, hh, q⟩ := cellD_rep w2 (r1.mono g2) ej
      split at e3
      · rename_i hk
        obtain ⟨k, rfl, rfl⟩ := keyOk0 hk r2
        split at e3
        · rename_i z ez
          cases e3
          obtain ⟨v, hv, rv⟩ := (dgetK q).1 z ez
          obtain ⟨w3, gr⟩ := w2.setD ha hh (ddelK (k := k) q)
          exact ⟨b, ks, k, rfl, hh, rfl, by rw [hv]; rfl, h2 σ _ μ2 gr w3 (((he.mono g1).mono g2).mono gr)⟩
        · cases e3
      · cases e3
    · cases e3
  · exact h2.elim
end
end Gp

set_option Elab.async false
set_option linter.all false
set_option maxRecDepth 100000
/-! Gp16: defs, told lambdas -/
namespace Gp
open PySem PySem.Spec L2
open PyProof.Rows hiding St

/-! ### a def by its body -/
/-- the def of the text st at f; its code object -/
structure FunC (K : PySem.W.Frag) (x qual : Str) (st : Stmt) (f : Addr) (fd : FuncData) (cdv : Value) : Prop where
  ex : ∃ (oc : Value) (od : Option Addr) (dV kV doc pm : Value) (an : Option Addr) (ct : Value) (osl : Array (Option Value)),
    fd = PySem.W.fnOf x qual (defArgs st) (defBody st) (defScope st) dV kV doc pm an cdv ct ∧ K.lookup f = some ⟨oc, od, .func fd, osl⟩ ∧ PySem.W.codeIn K cdv qual = true
  kp : PySem.W.keepIn K (.ref f) = true
def startG (n : Nat) (ds : List D) : Ev := ds.map some ++ List.replicate (n - ds.length) none
def resOf (r : RS) : Res := match r with
  | .nx _ S => .ok .non S
  | .rt d S => .ok d S
  | .exc c _ S => .exc c S
  | _ => .bad
/-- what the def is worth: np parameters, n slots; imm: its new cells are forgotten, its result frozen -/
def fnG (imm : Bool) (np n : Nat) (m : GS) : Fn := fun ds S => if ds.length = np then (if imm = true then tidy S (resOf (m (startG n ds) S)) else resOf (m (startG n ds) S)) else .bad
section
variable {g : G} {N ps : List Str} {L : Nat} {μ : List Addr} {H : Hp} {S : Sto} {st : Stmt} {x qual : Str} {f : Addr} {fd : FuncData} {cdv : Value} {m : GS}
theorem env_nones : ∀ n : Nat, EnvOk g H μ (List.replicate n none) (List.replicate n none)
  | 0 => rfl
  | n + 1 => ⟨none, _, rfl, (fun x e => by cases e), env_nones n⟩
theorem env_start : ∀ {ds : List D} {vs : List V} (k : Nat), RepL g H μ ds vs → EnvOk g H μ (ds.map some ++ List.replicate k none) (vs.map some ++ List.replicate k none)
  | [], vs, k, r => by simp only [RepL] at r; subst r; exact env_nones k
  | d :: ds, vs, k, r => by
    simp only [RepL] at r
    obtain ⟨v, t, rfl, h, q⟩ := r
    exact ⟨some v, _, rfl, fun x e => by cases e; exact ⟨v, rfl, h⟩, env_start k q⟩
theorem fnR_of {imm : Bool} (F : FunC g.K x qual st f fd cdv) (Sc : FnScope N ps (defScope st)) (hb : RealSs g N (defScope st) L (defBody st) m)
    (hcd : lamLike (defScope st) = false → ∀ e ∈ g.cods, e.1 ∈ N → qual ++ ".<locals>." = e.2.1 ∧ cdv = .ref e.2.2.1) : FnR g (L + 1) f fd ps (fnG imm ps.length N.length m) := by
  obtain ⟨oc, od, dV, kV, doc, pm, an, ct, osl, rfl, lk, hcc⟩ := F.ex
  have hlen : ∀ vs H Q E, spG g (fnG imm ps.length N.length m) vs H Q E → vs.length = ps.length := by
    rintro vs H Q E ⟨ds, S, μ, w, r, h⟩
    unfold fnG at h
    split at h
    · rename_i hl
      rw [← r.length]; exact hl
    · exact h.elim
  refine ⟨fn_of lk hcc Sc hlen fun A outer s H vs Q E hr h => ?_, F.kp⟩
  obtain ⟨ds, S, μ, w, r, h⟩ := h
  refine ⟨_, hb (fun cls d _ H => E cls d H) _ ⟨⟨rfl, rfl, rfl, rfl, rfl, rfl, rfl, rfl, takes_of rfl rfl rfl rfl, hr, passes_of rfl, hcd⟩, fun _ => rfl, rfl, rfl⟩, startG N.length ds, S, μ, ?_, w, ?_⟩
  · unfold startG L2.start
    rw [r.length]
    exact env_start _ r
  · unfold fnG at h
    split at h
    · have h2 : PostR g μ H (resOf (m (startG N.length ds) S)) Q (fun c H' => ∀ C, g.mg c = some (.ref C) → E (.ref C) none H') := by
        cases imm with
        | true => exact PostR.untidy w h
        | false => exact h
      generalize m (startG N.length ds) S = rr at h2
      cases rr with
      | nx ρ S' => exact fun σ' H' μ' gr w' e' => h2 .non H' μ' gr w' (by simp [Rep])
      | rt d S' => exact fun v H' μ' gr w' r' => h2 v H' μ' gr w' r'
      | exc c ρ S' => exact fun σ' H' μ' gr w' e' => h2 H' μ' gr w'
      | bk ρ S' => exact h2.elim
      | ct ρ S' => exact h2.elim
      | bad => exact h2.elim
    · exact h.elim
/-- a def that calls itself: by the number of calls within one another -/
theorem fnR_bad (F : FunC g.K x qual st f fd cdv) : FnR g L f fd ps (fun _ _ => .bad) :=
  ⟨⟨fun vs H Q E h => by obtain ⟨_, _, _, _, _, h⟩ := h; exact h.elim, fun A outer s H args us vs Q E hr e0 hb r h => by obtain ⟨_, _, _, _, _, h⟩ := h; exact h.elim⟩, F.kp⟩
theorem FnR.mono {L' : Nat} {F : Fn} (h : FnR g L f fd ps F) (hl : L ≤ L') : FnR g L' f fd ps F := ⟨h.ok.mono hl, h.kp⟩
def recN (b : Fn → Fn) : Nat → Fn
  | 0 => fun _ _ => .bad
  | n + 1 => b (recN b n)
theorem fnR_rec {b : Fn → Fn} (F : FunC g.K x qual st f fd cdv) (hb : ∀ k G, L ≤ k → FnR g k f fd ps G → FnR g (k + 1) f fd ps (b G)) : ∀ n, FnR g (L + n) f fd ps (recN b n)
  | 0 => fnR_bad F
  | n + 1 => hb (L + n) _ (Nat.le_add_right _ _) (fnR_rec F hb n)
end

/-! ### told(lambda: e) -/
def gTold (yes : List Str) (ret : Str) (m : GE) : GE := fun ρ S => match m ρ S with
  | .exc c S1 => if c ∈ yes then .ok (.str ret) S1 else .bad
  | r => r
section
variable {g : G} {N : List Str} {sc : Scope} {L k : Nat} {Wx : WX} {X : Cx} {μ : List Addr} {H H1 : Hp} {S : Sto} {mb : GE}
open LamX in
/-- tables of code objects, each of one name -/
def TbOk (g : G) (T : List (Addr × Str)) : Prop := ∀ H, g.tb H ↔ LamX.Tabs T H
theorem grow_ext {H H1 : Hp} (e : LamX.ExtN H H1) : Grow μ H μ H1 := by
  refine ⟨⟨⟨[], by simp, by simp⟩, fun b o _ h n => ⟨o, e b o h n, rfl⟩, fun b o h n => ⟨o, e b o h n, n⟩⟩, fun b o u h => e b _ h (by simp)⟩
theorem W.ext {H H1 : Hp} (w : W g μ H S) (e : LamX.ExtN H H1) (tb : g.tb H1) : W g μ H1 S where
  len := w.len
  nd := w.nd
  cell := fun n a c e1 e2 => by
    have k := w.cell n a c e1 e2
    obtain ⟨u, hu, n1, _⟩ := k.at
    exact k.mono (grow_ext e) (by rw [hu, e a u hu n1])
  tb := tb
theorem re_told {T : List (Addr × Str)} {x a mk q ret er : Str} {gA c P CS : Addr} {pg : Arguments} {sg : Scope} {dV kV doc pm cdv ct oc : Value} {an od : Option Addr} {osl : Array (Option Value)} {Ng : List Str} {j : Nat} {p1 p2 p3 p4 p5 p6 p7 p8 : Pos}
    {params : Arguments} {body : Expr} {scope : Scope} {p lpos pos : Pos} {yes : List Str}
    (hx : sc.names.lookup x = some .globalImplicit) (hm : g.mg x = some (.ref gA)) (hk : PySem.W.keepIn g.K (.ref gA) = true)
    (lk : g.K.lookup gA = some ⟨oc, od, .func (PySem.W.fnOf x x pg [.Try [.Return (some (.Call (.Name a p1) [] [] p2)) p3] [.ExceptHandler (some (.Name er p4)) none [.Return (some (.Constant (.str ret) j p5)) p6] p7] [] [] p8] sg dV kV doc pm an cdv ct), osl⟩)
    (hcg : PySem.W.codeIn g.K cdv x = true) (hb : L2.Binds g.K (PySem.W.fnOf x x pg [.Try [.Return (some (.Call (.Name a p1) [] [] p2)) p3] [.ExceptHandler (some (.Name er p4)) none [.Return (some (.Constant (.str ret) j p5)) p6] p7] [] [] p8] sg dV kV doc pm an cdv ct) [a] []) (Sg : FnScope Ng [a] sg) (hNg : Ng[0]? = some a) (hva : Vis sg a)
    (hge : sg.names.lookup er = some .globalImplicit) (hme : g.mg er = some (.ref CS)) (h0 : ∀ f : Addr, (L2.start Ng [V.ref f])[0]? = some (some (V.ref f)))
    (hy : ∀ c ∈ yes, ExmOk g er c true)
    (hN : mk ∈ N) (hq : (mk, q, c, P) ∈ g.cods) (hl : lamLike sc = false) (TB : LamX.TabB g.base g.mg c P) (hT : TbOk g T) (hmT : (P, q ++ "<lambda>") ∈ T) (hu : ∀ p ∈ T, p.1 = P → p.2 = q ++ "<lambda>") (hL : k + 2 ≤ L) (LS : LamX.LamS sc scope)
    (hdef : ∀ env : Env, defaultsOf params env = ([], []))
    (hbind : ∀ (q : Str) (cl : List (Str × Addr)) (pm cv ctv : Value), bindArgs (PySem.W.kla_fn "<lambda>" q params body scope cl pm cv ctv) ⟨[], []⟩ = pure [])
    (hbody : Real g N scope k body mb)
    (hdb : (x == ("__debug__" : Str)) = false := by decide) (hd : (a == ("__debug__" : Str)) = false := by decide) (hcd : (a == ("__classdict__" : Str)) = false := by decide) (hde : (er == ("__debug__" : Str)) = false := by decide) :
    Real g N sc L (.Call (.Name x p) [.Lambda params body scope lpos] [] pos) (gTold yes ret mb) := by
  intro Wx X C
  have hcq : X.env.qual = q ∧ X.env.code = .ref c := C.cd (by rw [C.sc]; exact hl) _ hq (by rw [C.N]; exact hN)
  have hlam : lamLike scope = true := by
    unfold lamLike
    rw [List.all_eq_true]
    intro y hy
    have z := LS.own y hy
    simp [z.1, z.2]
  refine (LamX.pe_lamcall (X := X) (T := T) (TT := LamX.TTold X.K CS ret) (t := fun E => tG g (fun cls d _ H => E cls d H) mb) (k := k) (g := gA) (c := c) (P := P) (show Gl X x by unfold Gl Env.kindOf; rw [C.sc]; exact hx) (by rw [C.mg]; exact hm) (by rw [C.K]; exact hk) (by rw [C.K]; exact lk) (by rw [C.K]; exact hcg) (by rw [C.K]; exact hb) Sg hNg hva
    (LamX.told_gives hge (by rw [C.mg]; exact hme) hde h0) (by rw [C.base, C.mg]; exact TB) hcq.2 (by rw [hcq.1]; exact hmT) (by rw [hcq.1]; exact hu) (C.room.mono hL) (by rw [C.sc]; exact LS) (hdef X.env) hbind (fun A outer s H E f c' hr => ?_) hdb hd hcd).weak ?_
  · exact hbody _ _ ⟨C.prog, C.wd, C.K, C.mg, C.base, C.N, rfl, rfl, takes_of rfl rfl rfl rfl, hr, passes_of rfl, fun z => by rw [show (LamX.lamCx X A outer s H E scope f c').env.scope = scope from rfl, hlam] at z; cases z⟩
  · rintro σ H Q ⟨ρ, S, μ, he, hw, h⟩
    refine ⟨(hT H).mp hw.tb, fun H1 eN T1 => ?_⟩
    have gr : Grow μ H μ H1 := grow_ext eN
    refine ⟨ρ, S, μ, he.mono gr, hw.ext eN ((hT H1).mpr T1), ?_⟩
    unfold gTold at h
    cases e : mb ρ S with
    | ok d S1 => rw [e] at h; exact PostR.later (r := .ok d S1) h gr
    | exc c' S1 =>
      rw [e] at h
      simp only at h
      by_cases hc : c' ∈ yes
      · rw [if_pos hc] at h
        intro H2 μ2 g2 w2 C' hC'
        refine ⟨true, by rw [C.K]; exact hy c' hc CS C' hme hC', fun _ => h (.str ret) H2 μ2 (gr.trans g2) w2 (by simp [Rep]), fun z => by cases z⟩
      · rw [if_neg hc] at h; exact h.elim
    | bad => rw [e] at h; exact h.elim
end
end Gp

set_option Elab.async false
set_option linter.all false
set_option maxRecDepth 100000
/-! Gp17: what the top has left, by names; the end -/
namespace Gp
open PySem PySem.Spec L2
open PyProof.Rows hiding St

/-- what is known of the top -/
structure Top (g : G) (fa : List He.Fa) (fn : List He.DefD) : Prop where
  fact : ∀ f ∈ fa, f.ok g.K = true
  defs : ∀ d ∈ fn, ∃ fd, FunD g.K d.name d.qual d.params d.body d.scope (d.dvs g.K) (d.kws g.K) (He.fAd g.K d.at_) fd
  X : g.K.In g.base
  ns : g.base.Ns mainGlobals g.mg
section
variable {g : G} {fa : List He.Fa} {fn : List He.DefD} {N : List Str} {sc : Scope} {L : Nat} {pos : Pos}
theorem Top.glo (T : Top g fa fn) {x : Str} (h : .glo x ∈ fa) : g.mg x = some (.ref (He.ga g.K x)) := He.glo_ok T.X T.ns (T.fact _ h)
theorem Top.free (T : Top g fa fn) {x : Str} (h : .free x ∈ fa) : g.mg x = none := He.free_ok T.X T.ns (T.fact _ h)
theorem Top.clsF (T : Top g fa fn) {c f : Str} (h0 : .glo c ∈ fa) (h1 : .cls c ∈ fa) (h2 : .noat c f ∈ fa) : ClsF g c f := by
  intro C hC
  rw [T.glo h0] at hC
  cases hC
  exact ⟨He.cls_ok (T.fact _ h1), He.noat_ok (T.fact _ h2)⟩
theorem Top.exc (T : Top g fa fn) {c : Str} (h0 : .glo c ∈ fa) (h1 : .exc c ∈ fa) : ExcOk g c := by
  obtain ⟨e1, e2, e3, e4⟩ := He.exc_ok (T.fact _ h1)
  exact ⟨_, _, _, _, _, PySem.F.excBase_ValueError, T.glo h0, e1, e2, e3, e4⟩
theorem Top.exm (T : Top g fa fn) {x c : Str} {b : Bool} (h0 : .glo x ∈ fa) (h1 : .glo c ∈ fa) (h2 : .exm c x b ∈ fa) : ExmOk g x c b := by
  intro C C' hC hC'
  rw [T.glo h0] at hC
  rw [T.glo h1] at hC'
  cases hC; cases hC'
  exact He.exm_ok (T.fact _ h2)
theorem re_gint (T : Top g fa fn) {x : Str} {i : Int} (h : .int x i ∈ fa) (hg : sc.names.lookup x = some .globalImplicit) (hdb : (x == ("__debug__" : Str)) = false := by decide) : Real g N sc L (.Name x pos) (gC (.int i)) := by
  intro Wx X C
  obtain ⟨t, e⟩ := He.int_ok T.X T.ns (T.fact _ h)
  refine (pe_glob (X := X) (v := .int i) (u := .int i t) (show Gl X x by unfold Gl Env.kindOf; rw [C.sc]; exact hg) (by rw [C.mg]; exact e) ⟨t, rfl⟩ hdb).weak ?_
  rintro σ H Q ⟨ρ, S, μ, he, hw, h⟩
  exact h (.int i) H μ (.refl _ _) hw (by simp [Rep])
theorem re_gstr (T : Top g fa fn) {x z : Str} (h : .str x z ∈ fa) (hg : sc.names.lookup x = some .globalImplicit) (hdb : (x == ("__debug__" : Str)) = false := by decide) : Real g N sc L (.Name x pos) (gC (.str z)) := by
  intro Wx X C
  obtain ⟨t, e⟩ := He.str_ok T.X T.ns (T.fact _ h)
  refine (pe_glob (X := X) (v := .str z) (u := .str z t) (show Gl X x by unfold Gl Env.kindOf; rw [C.sc]; exact hg) (by rw [C.mg]; exact e) ⟨t, rfl⟩ hdb).weak ?_
  rintro σ H Q ⟨ρ, S, μ, he, hw, h⟩
  exact h (.str z) H μ (.refl _ _) hw (by simp [Rep])
/-- a def of the module as a value -/
theorem re_gfn (T : Top g fa fn) {x : Str} (h : .glo x ∈ fa) (hg : sc.names.lookup x = some .globalImplicit) (hdb : (x == ("__debug__" : Str)) = false := by decide) : Real g N sc L (.Name x pos) (gC (.fn x)) := by
  intro Wx X C
  refine (pe_glob (X := X) (v := .ref (He.ga g.K x)) (u := .ref (He.ga g.K x)) (show Gl X x by unfold Gl Env.kindOf; rw [C.sc]; exact hg) (by rw [C.mg]; exact T.glo h) rfl hdb).weak ?_
  rintro σ H Q ⟨ρ, S, μ, he, hw, hh⟩
  exact hh (.ref (He.ga g.K x)) H μ (.refl _ _) hw (by simp only [Rep]; exact ⟨_, rfl, T.glo h⟩)
/-! ### defs -/
theorem funC_of {K : PySem.W.Frag} {x qual : Str} {st : Stmt} {dvs : List V} {kws : List (Str × V)} {p : Str × Option Str} {fd : FuncData} (F : FunD K x qual (defArgs st) (defBody st) (defScope st) dvs kws (He.fAd K p) fd) :
    FunC K x qual st (He.fAd K p) fd (.ref (He.codeOf K p)) := by
  obtain ⟨oc, od, dV, kV, doc, pm, an, cdv, ct, osl, rfl, lk, hc, _, _⟩ := F.ex
  obtain ⟨c, rfl⟩ := He.codeIn_ref hc
  have e : He.codeOf K p = c := He.codeOf_eq lk rfl
  rw [e]
  exact ⟨⟨oc, od, dV, kV, doc, pm, an, ct, osl, rfl, lk, hc⟩, F.kp⟩
/-- a def of the top, walked -/
theorem fnR_top {x qual : Str} {st : Stmt} {dvs : List V} {kws : List (Str × V)} {p : Str × Option Str} {fd : FuncData} {imm : Bool} {ps : List Str} {m : GS} (F : FunD g.K x qual (defArgs st) (defBody st) (defScope st) dvs kws (He.fAd g.K p) fd)
    (Sc : FnScope N ps (defScope st)) (hb : RealSs g N (defScope st) L (defBody st) m) (hcd : ∀ e ∈ g.cods, e.1 ∈ N → qual ++ ".<locals>." = e.2.1 ∧ e.2.2.1 = He.codeOf g.K p) : FnR g (L + 1) (He.fAd g.K p) fd ps (fnG imm ps.length N.length m) :=
  fnR_of (funC_of F) Sc hb fun _ e he hn => by
    obtain ⟨h1, h2⟩ := hcd e he hn
    exact ⟨h1, by rw [h2]⟩
theorem bindD_none {x qual : Str} {params : Arguments} {body : List Stmt} {scope : Scope} {f : Addr} {fd : FuncData} {ps : List Str} (F : FunD g.K x qual params body scope [] [] f fd)
    (h : ∀ (kV doc pm : Value) (an : Option Addr) (cdv ct : Value) (us : List Value), us.length = ps.length → bindArgs (PySem.W.fnOf x qual params body scope .none kV doc pm an cdv ct) ⟨us, []⟩ = pure (ps.zip us)) : BindD g fd ps [] := .none (F.bindsN h)
/-- some defaults fill up: n arguments are given, the defaults from the j-th on are taken -/
theorem bindD_dfl {x qual : Str} {params : Arguments} {body : List Stmt} {scope : Scope} {f : Addr} {fd : FuncData} {ps : List Str} {dvs : List V} {dds : List D} (F : FunD g.K x qual params body scope dvs [] f fd) (n j : Nat) (hd : dvs ≠ []) (hn : n + (dvs.length - j) = ps.length)
    (h : ∀ (T : Addr) (kV doc pm : Value) (an : Option Addr) (cdv ct : Value) (us its : List Value), us.length = n → its.length = dvs.length →
      ∃ k, bindArgs (PySem.W.fnOf x qual params body scope (.ref T) kV doc pm an cdv ct) ⟨us, []⟩ = seqItems? (.ref T) >>= k ∧ k (some its.toArray) = pure (ps.zip (us ++ its.drop j))) (hr : ∀ H μ, RepL g H μ dds (dvs.drop j)) : BindD g fd ps dds := by
  obtain ⟨ds, hv, hb⟩ := F.binds1 n j hd hn h
  exact ⟨ds, _, hb, hv, hr⟩
end

/-! ### the end -/
open PySem.W in
theorem walk_G {l : OpenLaw} {n k : Nat} {q : Program} {loose : List Str} {XP : (Str → Option Value) → Heap → Prop} {YP : World → Heap → Prop} {d : DefRec} {x : Str}
    (hn : l.most = some n) (hn2 : n ≤ sizeLine) (hdf : d.params.defaults = []) (hr : Room k callerA)
    (F : ∀ (w : World) (mg : Str → Option Value) (fa : Addr) (h : Heap), YP w h → h.Ns mainGlobals mg → mg d.name = some (.ref fa) →
      ∃ (K : Frag) (fd : FuncData) (cs : List (Addr × Addr)) (sp : Sp), K.In h ∧ (∀ p ∈ cs, h.get? p.2 = some { cls := .none, data := .fields #[] }) ∧ (∀ p ∈ cs, K.lookup p.2 = none) ∧ (∀ p ∈ cs, CodeHd h p.1 p.2) ∧ (∀ (s : Shared) (u : Value), BindsTo s fd ⟨[u], []⟩ [(x, u)]) ∧
        (∀ (H : Hp) (a : Addr) (ns : List Int), ns.length ≤ n → (∀ z ∈ ns, Builtin.Int.intBits z ≤ 1048576) → (∀ p ∈ cs, H p.2 = some (.tbl #[])) → SqL K H a (ns.map V.int) → sp [.ref a] H (fun v _ => v = .bl true) fun _ _ _ => False) ∧
        ∀ base : Heap, K.In base → base.Ns mainGlobals mg → (∀ p ∈ cs, LamX.TabB base mg p.1 p.2) → FnOk l.prog w K mg base (L2.CX l.prog w) k fa fd [x] sp) :
    WalkO q loose XP YP l.row.toRowW d [] (fun f vs => PySem.call f vs) := by
  refine Att.attach_callB hn hdf fun w s₀ s₁ mg mb fa o pm cd doc a vs ns G Y ho hd hcd hmg hobj hints hlen hbits hg => ?_
  obtain ⟨K, fd, cs, sp, KX, hT, nT, C, hb, hsp, hF⟩ := F w mg fa _ Y G.T.g hmg
  refine LamX.law_callTs KX G.T.g G.T.b G.T.builtins G.T.nolimit hg hT nT C G.T.bmain hobj hints (Nat.le_trans hlen hn2) hr hF hb (fun H hH hS => hsp H a ns hlen hbits hH hS) fun H e s' => ?_
  rintro ⟨_, _, _, _, _, _, _, _, _, _, _, _, z⟩
  exact z.elim
/-- the script as a ghost -/
theorem repL_ints {g : G} {H : Hp} {μ : List Addr} : ∀ (ns : List Int), RepL g H μ (ns.map .int) (ns.map V.int)
  | [] => .nil
  | i :: r => .cons (by simp [Rep]) (repL_ints r)
theorem script_rep {g : G} {H : Hp} {a : Addr} {ns : List Int} (h : SqL g.K H a (ns.map V.int)) : Rep g H [] (.sq (ns.map .int)) (.ref a) := by
  simp only [Rep]
  exact ⟨a, ns.map V.int, rfl, h.elim (fun h => .inl ⟨by simp, h⟩) .inr, repL_ints ns⟩

/-! ### words for printed proofs -/
def visB (sc : Scope) (x : Str) : Bool := match sc.names.lookup x with
  | some .local => true
  | some .cell => true
  | some .free => true
  | _ => false
theorem vis_ok {sc : Scope} {x : Str} (h : visB sc x = true) : Vis sc x := by
  unfold visB at h
  split at h
  · rename_i e; exact .inl e
  · rename_i e; exact .inr (.inl e)
  · rename_i e; exact .inr (.inr e)
  · cases h
def locB (sc : Scope) (x : Str) : Bool := match sc.names.lookup x with
  | some .local => true
  | some .cell => true
  | _ => false
theorem loc_ok {sc : Scope} {x : Str} (h : locB sc x = true) : Loc sc x := by
  unfold locB at h
  split at h
  · rename_i e; exact .inl e
  · rename_i e; exact .inr e
  · cases h
def fkB (sc scope : Scope) (x : Str) : Bool := (scope.names.lookup x == some .cell) || decide (sc.names.lookup x = some .local)
theorem fk_ok {sc scope : Scope} {x : Str} (h : fkB sc scope x = true) : (scope.names.lookup x == some .cell) = true ∨ sc.names.lookup x = some .local := by
  unfold fkB at h
  rw [Bool.or_eq_true, decide_eq_true_eq] at h
  exact h
section
variable {g : G} {N : List Str} {sc : Scope} {L : Nat} {pos : Pos} {vs : List Nat}
theorem xv (i : Nat) {x : Str} (hN : N[i]? = some x := by rfl) (hv : visB sc x = true := by rfl) (hd : (x == ("__debug__" : Str)) = false := by decide) (hcd : (x == ("__classdict__" : Str)) = false := by decide) : Real g N sc L (.Name x pos) (gVar i) := re_var hN (vis_ok hv) hd hcd
theorem xt (i : Nat) {x : Str} (hN : N.Nodup) (hi : N[i]? = some x := by rfl) (hx : locB sc x = true := by rfl) : RealG g N sc L (fun _ => true) (.Name x pos) (tName i) := rg_name hN hi (loc_ok hx) (.inl rfl)
theorem xn (i : Nat) {x : Str} {scope : Scope} (hN : N.Nodup) (hi : N[i]? = some x := by rfl) (hx : locB sc x = true := by rfl) (hf : fkB sc scope x = true := by rfl) (hv : i ∈ vs := by decide) : RealN g N sc L (fun x => scope.names.lookup x == some .cell) vs (.Name x pos) (nName i) := rn_name hN hi (loc_ok hx) (fk_ok hf) hv
theorem fc_nil {f : Str} : ∀ c ∈ ([] : List Str), ClsF g c f := fun _ h => by cases h
theorem fc_cons {f c : Str} {l : List Str} (h : ClsF g c f) (t : ∀ c ∈ l, ClsF g c f) : ∀ d ∈ c :: l, ClsF g d f := fun d hd => (List.mem_cons.mp hd).elim (fun e => e ▸ h) (t d)
theorem mt_nil {k : Nat} {m : Str} : ∀ q ∈ ([] : MTab), MethOk g k q.1 m q.2.1 q.2.2 := fun _ h => by cases h
theorem mt_cons {k : Nat} {m c : Str} {dds : List D} {F : Fn} {l : MTab} (h : MethOk g k c m dds F) (t : ∀ q ∈ l, MethOk g k q.1 m q.2.1 q.2.2) : ∀ q ∈ (c, dds, F) :: l, MethOk g k q.1 m q.2.1 q.2.2 := fun q hq => (List.mem_cons.mp hq).elim (fun e => by subst e; exact h) (t q)
theorem ft_nil {k : Nat} : ∀ q ∈ ([] : FTab), CallOk g k q.1 q.2.1 q.2.2 := fun _ h => by cases h
theorem ft_cons {k : Nat} {c : Str} {dds : List D} {F : Fn} {l : FTab} (h : CallOk g k c dds F) (t : ∀ q ∈ l, CallOk g k q.1 q.2.1 q.2.2) : ∀ q ∈ (c, dds, F) :: l, CallOk g k q.1 q.2.1 q.2.2 := fun q hq => (List.mem_cons.mp hq).elim (fun e => by subst e; exact h) (t q)
theorem CallOk.up {j k : Nat} {x : Str} {dds : List D} {F : Fn} (h : CallOk g j x dds F) (hl : j ≤ k) : CallOk g k x dds F := let ⟨f, fd, ps, h1, h2, h3⟩ := h; ⟨f, fd, ps, h1, h2.mono hl, h3⟩
theorem MethOk.up {j k : Nat} {c m : Str} {dds : List D} {F : Fn} (h : MethOk g j c m dds F) (hl : j ≤ k) : MethOk g k c m dds F := fun C hC => let ⟨f, fd, ps, h1, h2, h3, h4⟩ := h C hC; ⟨f, fd, ps, h1, h2, h3.mono hl, h4⟩
theorem MakeOk.up {j k : Nat} {c : Str} {dds : List D} {F : Fn} (h : MakeOk g j c dds F) (hl : j ≤ k) : MakeOk g k c dds F := let ⟨C, f, fd, ps, h1, h2, h3, h4⟩ := h; ⟨C, f, fd, ps, h1, h2, h3.mono hl, h4⟩
theorem ex_nil {x : Str} {b : Bool} : ∀ c ∈ ([] : List Str), ExmOk g x c b := fun _ h => by cases h
theorem ex_cons {x c : Str} {b : Bool} {l : List Str} (h : ExmOk g x c b) (t : ∀ c ∈ l, ExmOk g x c b) : ∀ d ∈ c :: l, ExmOk g x d b := fun d hd => (List.mem_cons.mp hd).elim (fun e => e ▸ h) (t d)
theorem Top.meth {fa : List He.Fa} {fn : List He.DefD} (T : Top g fa fn) {c m : Str} {k : Nat} {dds : List D} {F : Fn} {fd : FuncData} {ps : List Str} (h0 : .glo c ∈ fa) (h1 : .cls c ∈ fa) (h2 : .meth c m ∈ fa)
    (hF : FnR g k (He.fAd g.K (c, some m)) fd ps F) (hb : BindD g fd ps dds) : MethOk g k c m dds F := by
  intro C hC
  rw [T.glo h0] at hC
  cases hC
  exact ⟨_, fd, ps, He.cls_ok (T.fact _ h1), He.meth_ok (T.fact _ h2), hF, hb⟩
theorem Top.make {fa : List He.Fa} {fn : List He.DefD} (T : Top g fa fn) {c : Str} {k : Nat} {dds : List D} {F : Fn} {fd : FuncData} {ps : List Str} (h0 : .glo c ∈ fa) (h2 : .mkr c ∈ fa)
    (hF : FnR g k (He.fAd g.K (c, some "__init__")) fd ps F) (hb : BindD g fd ps dds) : MakeOk g k c dds F := ⟨_, _, fd, ps, T.glo h0, He.mkr_ok (T.fact _ h2), hF, hb⟩
theorem Top.call {fa : List He.Fa} {fn : List He.DefD} (T : Top g fa fn) {x : Str} {k : Nat} {dds : List D} {F : Fn} {fd : FuncData} {ps : List Str} (h0 : .glo x ∈ fa)
    (hF : FnR g k (He.fAd g.K (x, none)) fd ps F) (hb : BindD g fd ps dds) : CallOk g k x dds F := ⟨_, fd, ps, T.glo h0, hF, hb⟩
end

/-! ### what hangs on an env's scope alone -/
def env0 (sc : Scope) : Env := { scope := sc, locals := 0, globals := 0, cells := [] }
section
variable {sc : Scope}
theorem swapsWith_sc {e : Expr} {t : Option Expr} {line : Nat} (env : Env) (he : env.scope = sc) : swapsWith e t line env = swapsWith e t line (env0 sc) := by
  cases env; cases he; unfold swapsWith; rfl
theorem swap_no {ts : List Expr} {e : Expr} {line : Nat} (env : Env) (he : env.scope = sc) (h : swapsWithSole ts e line (env0 sc) = pure false) : swapsWithSole ts e line env = pure false := by
  match ts with
  | [] => exact h
  | [t] => exact (swapsWith_sc env he).trans h
  | _ :: _ :: _ => exact h
theorem swap_yes {e : Expr} {t : Option Expr} {line : Nat} (env : Env) (he : env.scope = sc) (h : swapsWith e t line (env0 sc) = pure true) : swapsWith e t line env = pure true := (swapsWith_sc env he).trans h
theorem swapped_sc {ts : List Expr} {e : Expr} (env : Env) (he : env.scope = sc) : swappedStores ts e env = swappedStores ts e (env0 sc) := by
  cases env; cases he; unfold swappedStores; rfl
theorem swap_none {ts : List Expr} {e : Expr} (env : Env) (he : env.scope = sc) (h : swappedStores ts e (env0 sc) = pure none) : swappedStores ts e env = pure none := (swapped_sc env he).trans h
theorem swap_some {ts : List Expr} {e : Expr} {l : List Str} (env : Env) (he : env.scope = sc) (h : swappedStores ts e (env0 sc) = pure (some l)) : swappedStores ts e env = pure (some l) := (swapped_sc env he).trans h
end
end Gp

set_option Elab.async false
set_option linter.all false
set_option maxRecDepth 100000
/-! Gp18: list(range(..)); calls of what a local holds -/
namespace Gp
open PySem PySem.Spec L2
open PyProof.Rows hiding St

def rngArgs (ds : List D) : Option (Int × Int × Int) := match ds with
  | [.int n] => some (0, n, 1)
  | [.int i, .int j] => some (i, j, 1)
  | [.int i, .int j, .int c] => if c ≠ 0 ∧ c.natAbs < 1073741824 then some (i, j, c) else none
  | _ => none
def listRg (m : Bool) (ds : List D) (S : Sto) : Pr := match rngArgs ds with
  | some (a, b, c) => if Builtin.Range.small a b c = true ∧ 0 ≤ Builtin.Range.rangeSize a b c ∧ Builtin.Range.rangeSize a b c ≤ 16777216 then mkL m (rngL a c (Builtin.Range.rangeSize a b c).toNat) S else none
  | none => none
def gListRg (m : Bool) (l : List GE) : GE := fun ρ S => match gArgsR l ρ S with
  | .ok ds S1 => (listRg m ds S1).res
  | .exc c S1 => .exc c S1
  | .bad => .bad
section
variable {g : G} {N : List Str} {sc : Scope} {L : Nat} {pos p p2 pos2 : Pos} {es : List Expr} {l : List GE} {a b c e : Expr}
theorem vals_int : ∀ {is : List Int} {us : List Value}, Vals (is.map V.int) us → ∃ ts : List Tok, ts.length = is.length ∧ us = (is.zip ts).map fun p => Value.int p.1 p.2
  | [], us, h => by cases h; exact ⟨[], rfl, rfl⟩
  | i :: is, us, h => by
    cases h with
    | cons r t =>
      obtain ⟨tk, rfl⟩ := r
      obtain ⟨ts, hl, rfl⟩ := vals_int t
      exact ⟨tk :: ts, by simp [hl], rfl⟩
theorem make_range {X : Cx} {ds : List D} {us : List Value} {vs : List V} {μ : List Addr} {H : Hp} {i j k : Int} {Q : Value → Shared → Prop} {E : Value → Shared → Prop} {s : Shared} (hr : rngArgs ds = some (i, j, k)) (r : RepL g H μ ds vs) (rv : Vals vs us)
    (h : ∀ t u v tk, Q (.ref s.heap.objs.size) { s with heap := s.heap.push { cls := .type "range", data := .fields #[.int i t, .int j u, .int k v] }, toks := tk }) :
    wpAny (model X.prog X.w) X.A (call (.type "range") us) Q E s := by
  unfold rngArgs at hr
  split at hr
  · cases hr
    have z := repL_int (is := [_]) r
    subst z
    cases rv with
    | cons r1 rr =>
      cases rr
      obtain ⟨t, rfl⟩ := r1
      exact call_range_1 (h _ _ _ _)
  · cases hr
    have z := repL_int (is := [_, _]) r
    subst z
    cases rv with
    | cons r1 rr =>
      cases rr with
      | cons r2 rr =>
        cases rr
        obtain ⟨t, rfl⟩ := r1
        obtain ⟨t', rfl⟩ := r2
        exact call_range_2 (h _ _ _ _)
  · split at hr
    · rename_i hc
      cases hr
      have z := repL_int (is := [_, _, _]) r
      subst z
      cases rv with
      | cons r1 rr =>
        cases rr with
        | cons r2 rr =>
          cases rr with
          | cons r3 rr =>
            cases rr
            obtain ⟨t, rfl⟩ := r1
            obtain ⟨t', rfl⟩ := r2
            obtain ⟨t'', rfl⟩ := r3
            exact call_range_3 hc.1 (h _ _ _ _) (.inl (PyProof.noPylong_small hc.2))
    · cases hr
  · cases hr
theorem repL_is {g : G} {μ : List Addr} {H : Hp} (is : List Int) : RepL g H μ (is.map .int) (is.map V.int) := repL_ints is
theorem vals_rgC {a c : Int} {n : Nat} {acc : Array Value} (h : ItemsOf (fun i v => ∃ t, v = .int (a + i * c) t) acc n) : Vals ((List.range n).map fun i => V.int (a + (i : Nat) * c)) acc.toList := by
  have e : acc.toList.length = n := by rw [Array.length_toList]; exact h.1
  rw [← e]
  exact vals_of_get acc.toList _ fun j u hj => h.2 j u (by rw [← hj, Array.getElem?_toList])
theorem re_listRg {m : Bool} {x1 : Expr} {xs : List Expr} (ha : RealA g N sc L (x1 :: xs) l) (hg : sc.names.lookup ("list" : Str) = some .globalImplicit) (hm : g.mg "list" = none) (hg2 : sc.names.lookup ("range" : Str) = some .globalImplicit) (hm2 : g.mg "range" = none)
    (na : ∀ env : Env, starEach [.Call (.Name "range" p2) (x1 :: xs) [] pos2] env = (false, eval (.Call (.Name "range" p2) (x1 :: xs) [] pos2) env) :: starEach [] env) (hs : ∀ env : Env, starEach (x1 :: xs) env = (false, eval x1 env) :: starEach xs env) (hpl : ∀ env : Env, (backTo pos2 (starEach xs env)).any (·.1) = false) :
    Real g N sc L (.Call (.Name "list" p) [.Call (.Name "range" p2) (x1 :: xs) [] pos2] [] pos) (gListRg m l) := by
  intro Wx X C
  refine ⟨fun pins s σ H Q I h => ?_⟩
  obtain ⟨ρ, S, μ, he, hw, h⟩ := h
  unfold gListRg at h
  refine Call_ (ld_blt I (show Gl X _ by unfold Gl Env.kindOf; rw [C.sc]; exact hg) (by rw [C.mg]; exact hm) boot_list (PyProof.Rows.callWith_type1 (args_cons ?_ (na X.env)) (na X.env)))
  refine Call_ (ld_blt I (show Gl X _ by unfold Gl Env.kindOf; rw [C.sc]; exact hg2) (by rw [C.mg]; exact hm2) boot_range (PyProof.Rows.callWith_type1 (thn ((ha.r Wx X C).run pos2 pins s σ H (fun vs H1 => ∃ ds S1 μ1, W g μ1 H1 S1 ∧ RepL g H1 μ1 ds vs ∧ PostP g μ1 H1 (listRg m ds S1) Q) I ⟨ρ, S, μ, he, hw, ?_⟩) fun us s1 ⟨vs, H1, I1, r1, ds, S1, μ1, w1, rl, h1⟩ => ?_) (hs X.env) (hpl X.env)))
  · cases er : gArgsR l ρ S with
    | ok ds S1 =>
      rw [er] at h
      simp only at h
      intro vs H1 μ1 g1 w1 r1
      refine ⟨ds, S1, μ1, w1, r1, ?_⟩
      cases ep : listRg m ds S1 with
      | none => rw [ep] at h; exact h.elim
      | some z => rw [ep] at h; exact fun v H2 μ2 g2 w2 r2 => h v H2 μ2 (g1.trans g2) w2 r2
    | exc c S1 => rw [er] at h; exact h
    | bad => rw [er] at h; exact h
  unfold listRg at h1
  split at h1
  · rename_i i j k hr
    obtain ⟨hc, h1⟩ := ite_none h1
    obtain ⟨c1, c2, c3⟩ := hc
    refine make_range (X := X) hr rl r1 fun t u v tk => args_nil ?_
    have I2 : Inv X pins σ H1 { s1 with heap := s1.heap.push { cls := .type "range", data := .fields #[.int i t, .int j u, .int k v] }, toks := tk } := I1.kept fun b o e => Heap.get?_push_of_some _ e
    have hn : Builtin.Range.rangeSize i j k = ((Builtin.Range.rangeSize i j k).toNat : Int) := (Int.toNat_of_nonneg c2).symm
    refine call_list_range (n := (Builtin.Range.rangeSize i j k).toNat) (I2.ok.hd C.calm) (IsRange.new _ _ _ _ _ _ _) c1 hn (by omega) fun h' tk2 acc c' hk e' hi => ?_
    have hp : H1 (s1.heap.push { cls := .type "range", data := .fields #[.int i t, .int j u, .int k v] }).objs.size = none := I2.hok.fresh (Nat.le_refl _)
    have q := PostP.mk h1 w1 (vs := (List.range (Builtin.Range.rangeSize i j k).toNat).map fun n => V.int (i + (n : Nat) * k)) (by
      unfold rngL
      have := repL_is (g := g) (μ := μ1) (H := H1) ((List.range (Builtin.Range.rangeSize i j k).toNat).map fun n => i + (n : Nat) * k)
      rw [List.map_map, List.map_map] at this
      exact this) _ hp
    refine ⟨.ref (s1.heap.push { cls := .type "range", data := .fields #[.int i t, .int j u, .int k v] }).objs.size, _, I2.laid hk (Nat.le_refl _) (show ObjOk X.prog X.w _ _ _ (.lst ((List.range (Builtin.Range.rangeSize i j k).toNat).map fun n => V.int (i + (n : Nat) * k))) from ⟨?_, acc.toList, c', vals_rgC hi, ?_⟩), rfl, q⟩
    · rw [List.length_map, List.length_range, sizeLine_eq]; omega
    · rw [Array.toArray_toList]; exact e'
  · exact h1.elim
end
end Gp

set_option Elab.async false
set_option linter.all false
set_option maxRecDepth 100000
/-! Gp19: the end, for any law -/
namespace Gp
open PySem PySem.Spec L2
open PyProof.Rows hiding St
theorem tabs_keep {T : List (Addr × Str)} {H H' : Hp} (k : ∀ b o, H b = some o → ((∃ ps, o = .tbl ps) ∨ ∃ φ, o = .ext φ) → H' b = some o) (t : LamX.Tabs T H) : LamX.Tabs T H' := fun p hp => by
  obtain ⟨ps, h1, h2, h3⟩ := t p hp
  refine ⟨ps, k _ _ h1 (.inl ⟨_, rfl⟩), h2, fun pos cv hc => ?_⟩
  obtain ⟨c, e1, e2⟩ := h3 pos cv hc
  exact ⟨c, e1, k _ _ e2 (.inr ⟨_, rfl⟩)⟩
theorem funD_one {K : PySem.W.Frag} {x qual : Str} {params : Arguments} {body : List Stmt} {scope : Scope} {dvs : List V} {kws : List (Str × V)} {f : Addr} {fd fd' : FuncData} (F : FunD K x qual params body scope dvs kws f fd) (F' : FunD K x qual params body scope dvs kws f fd') : fd = fd' := by
  obtain ⟨_, _, _, _, _, _, _, _, _, _, _, lk, _⟩ := F.ex
  obtain ⟨_, _, _, _, _, _, _, _, _, _, _, lk', _⟩ := F'.ex
  rw [lk] at lk'
  cases lk'; rfl
/-- what walk_G asks of a head -/
def EndOk (P : Program) (w : World) (h : Heap) (mg : Str → Option Value) (f : Addr) (k : Nat) : Prop :=
  ∃ (K : PySem.W.Frag) (fd : FuncData) (cs : List (Addr × Addr)) (sp : Sp), K.In h ∧ (∀ p ∈ cs, h.get? p.2 = some { cls := .none, data := .fields #[] }) ∧ (∀ p ∈ cs, K.lookup p.2 = none) ∧ (∀ p ∈ cs, PySem.W.CodeHd h p.1 p.2) ∧ (∀ (s : Shared) (u : Value), BindsTo s fd ⟨[u], []⟩ [("script", u)]) ∧
    (∀ (H : Hp) (a : Addr) (ns : List Int), ns.length ≤ 63 → (∀ z ∈ ns, Builtin.Int.intBits z ≤ 1048576) → (∀ p ∈ cs, H p.2 = some (.tbl #[])) → SqL K H a (ns.map V.int) → sp [.ref a] H (fun v _ => v = .bl true) fun _ _ _ => False) ∧
    ∀ base : Heap, K.In base → base.Ns mainGlobals mg → (∀ p ∈ cs, LamX.TabB base mg p.1 p.2) → FnOk P w K mg base (L2.CX P w) k f fd ["script"] sp
theorem end_of {P : Program} {w : World} {K : PySem.W.Frag} {h : Heap} {mg : Str → Option Value} {f : Addr} {k : Nat} {F : Fn} {gOf : Heap → G} {fa : List He.Fa} {fn : List He.DefD} {tf : List He.Defn} {ex : PySem.W.Frag → Bool} {T : List (Addr × Str)} {ts : List He.Tab}
    (X : K.In h) (c : He.SaysX fa fn ts tf ex w h K) (hT : ∀ base, TbOk (gOf base) T) (hK : ∀ base, (gOf base).K = K) (hTt : ∀ p ∈ T, ∃ q ∈ tf, p.1 = (He.cT K q).2)
    (hm : ∀ ns : List Int, ns.length ≤ 63 → (∀ z ∈ ns, Builtin.Int.intBits z ≤ 1048576) → ∃ S, F [.sq (ns.map .int)] [] = .ok (.bl true) S)
    (fd : FuncData) (hb : ∀ (s : Shared) (u : Value), BindsTo s fd ⟨[u], []⟩ [("script", u)])
    (hF : ∀ base : Heap, K.In base → base.Ns mainGlobals mg → (∀ p ∈ tf.map (He.cT K), LamX.TabB base mg p.1 p.2) → FnOk P w K mg base (L2.CX P w) k f fd ["script"] (spG (gOf base) F)) : EndOk P w h mg f k := by
  refine ⟨K, fd, tf.map (He.cT K), fun vs H Q E => ∀ base, spG (gOf base) F vs H Q E, X, fun p hp => ?_, fun p hp => ?_, fun p hp => ?_, hb, fun H a ns hl hbt hTb hS base => ?_, fun base KX Gb hTB => (hF base KX Gb hTB).imp fun vs H Q E z => z base⟩
  · obtain ⟨q, hq, rfl⟩ := List.mem_map.mp hp
    exact c.empty q hq
  · obtain ⟨q, hq, rfl⟩ := List.mem_map.mp hp
    exact c.out q hq
  · obtain ⟨q, hq, rfl⟩ := List.mem_map.mp hp
    exact PySem.W.codeHd_of_K X (c.hd q hq)
  · obtain ⟨S, e⟩ := hm ns hl hbt
    refine ⟨[.sq (ns.map .int)], [], [], ⟨rfl, .nil, (fun n a c e1 _ => by cases e1), (hT base H).mpr fun p hp => ?_⟩, .cons (script_rep (by rw [hK]; exact hS)) .nil, ?_⟩
    · obtain ⟨q, hq, e2⟩ := hTt p hp
      exact LamX.TabS.nil (by rw [e2]; exact hTb _ (List.mem_map.mpr ⟨q, hq, rfl⟩))
    · rw [e]
      intro v H' μ' gr w' r
      simpa only [Rep] using r
end Gp

set_option Elab.async false
set_option linter.all false
set_option maxRecDepth 100000
/-! Gp20: the ghosts evaluated -/
namespace Gp
open PySem PySem.Spec L2
open PyProof.Rows hiding St

/-! ### tests, told in one word -/
def bIf {α : Type} (d : D) (x y z : α) : α := match d with
  | .bl true => x
  | .bl false => y
  | _ => z
@[simp] theorem bIf_bl {α : Type} {b : Bool} {x y z : α} : bIf (.bl b) x y z = if b = true then x else y := by cases b <;> rfl
section
variable {a b c : GE} {p q : D → D → Sto → Pr} {ρ : Ev} {S : Sto} {d : D}
@[simp] theorem ev_var {i : Nat} : gVar i ρ S = match ρ[i]? with
  | some (some d) => .ok d S
  | _ => .bad := rfl
@[simp] theorem ev_c : gC d ρ S = .ok d S := rfl
@[simp] theorem ev_bin : gBin p a b ρ S = (a ρ S).bind fun x S1 => (b ρ S1).bind fun y S2 => (p x y S2).res := rfl
@[simp] theorem ev_un {p : D → Sto → Pr} : gUn p a ρ S = (a ρ S).bind fun x S1 => (p x S1).res := rfl
theorem bIf_ev {α : Type} {d : D} {x y z : α} : (match d with | .bl true => x | .bl false => y | _ => z) = bIf d x y z := rfl
@[simp] theorem ev_and : gAnd a b ρ S = (a ρ S).bind fun x S1 => bIf x (b ρ S1) (.ok (.bl false) S1) .bad := rfl
@[simp] theorem ev_or : gOr a b ρ S = (a ρ S).bind fun x S1 => bIf x (.ok (.bl true) S1) (b ρ S1) .bad := rfl
@[simp] theorem ev_not : gNot a ρ S = (a ρ S).bind fun x S1 => bIf x (.ok (.bl false) S1) (.ok (.bl true) S1) .bad := by
  unfold gNot
  congr 1
  funext x S1
  cases x with
  | bl b => cases b <;> rfl
  | _ => rfl
@[simp] theorem ev_if : gIf c a b ρ S = (c ρ S).bind fun x S1 => bIf x (a ρ S1) (b ρ S1) .bad := rfl
@[simp] theorem ev_chain : gChain p q a b c ρ S = (a ρ S).bind fun x S1 => (b ρ S1).bind fun y S2 => (p x y S2).res.bind fun z S3 => bIf z ((c ρ S3).bind fun w S4 => (q y w S4).res) (.ok (.bl false) S3) .bad := rfl
@[simp] theorem res_some {x : D} : Pr.res (some (x, S)) = .ok x S := rfl
@[simp] theorem res_none : Pr.res none = .bad := rfl
@[simp] theorem args_nil {k : List D → Sto → Res} : gArgs [] ρ S k = k [] S := rfl
@[simp] theorem args_cons {l : List GE} {k : List D → Sto → Res} : gArgs (a :: l) ρ S k = (a ρ S).bind fun x S1 => gArgs l ρ S1 fun xs S2 => k (x :: xs) S2 := rfl
@[simp] theorem ev_callP {p : List D → Sto → Pr} {l : List GE} : gCallP p l ρ S = gArgs l ρ S fun xs S2 => (p xs S2).res := rfl
@[simp] theorem ev_tup {l : List GE} : gTup l ρ S = gArgs l ρ S fun ds S1 => if ds.length ≤ 16777216 then .ok (.tup ds) S1 else .bad := by
  unfold gTup gCallP
  congr 1
  funext ds S1
  rw [sizeLine_eq]
  by_cases h : ds.length ≤ 16777216 <;> simp [h]
@[simp] theorem ev_lstF {l : List GE} : gLst false l ρ S = gArgs l ρ S fun ds S1 => if ds.length ≤ 16777216 then .ok (.ls ds) S1 else .bad := by
  unfold gLst gCallP
  congr 1
  funext ds S1
  rw [sizeLine_eq]
  by_cases h : ds.length ≤ 16777216 <;> simp [h, mkL]
@[simp] theorem ev_lstT {l : List GE} : gLst true l ρ S = gArgs l ρ S fun ds S1 => if ds.length ≤ 16777216 then .ok (.ref S1.length) (S1 ++ [.lst ds]) else .bad := by
  unfold gLst gCallP
  congr 1
  funext ds S1
  rw [sizeLine_eq]
  by_cases h : ds.length ≤ 16777216 <;> simp [h, mkL]
@[simp] theorem ev_call {F : Fn} {l : List GE} {dds : List D} : gCall F l dds ρ S = gArgs l ρ S fun ds S1 => F (ds ++ dds) S1 := rfl
@[simp] theorem ev_meth {tbl : MTab} {m : Str} {o : GE} {l : List GE} : gMeth tbl m o l ρ S = (o ρ S).bind fun x S1 => match clsOf x S1 with
  | some (c, fs) => match lookD m fs, mlook c tbl with
    | none, some (dds, F) => gArgs l ρ S1 fun ds S2 => F (x :: (ds ++ dds)) S2
    | _, _ => .bad
  | none => .bad := rfl
@[simp] theorem ev_methF {cl : List Str} {tab : FTab} {f : Str} {o : GE} {l : List GE} : gMethF cl tab f o l ρ S = (o ρ S).bind fun x S1 => match gAttr cl f x S1 with
  | some (.fn y, _) => match mlook y tab with
    | some (dds, F) => gArgs l ρ S1 fun ds S2 => F (ds ++ dds) S2
    | none => .bad
  | _ => .bad := rfl
@[simp] theorem ev_make {imm : Bool} {cl : Str} {F : Fn} {l : List GE} {dds : List D} : gMake imm cl F l dds ρ S = gArgs l ρ S fun ds S1 => if imm = true then tidy S1 (newObj cl F (ds ++ dds) S1) else newObj cl F (ds ++ dds) S1 := rfl
@[simp] theorem ev_mb {T : String} {p : D → List D → Sto → Pr} {o : GE} {l : List GE} : gMb T p o l ρ S = (o ρ S).bind fun x S1 => if tyG T x S1 = true then gArgs l ρ S1 fun ds S2 => (p x ds S2).res else .bad := rfl
@[simp] theorem ev_told {yes : List Str} {ret : Str} {m : GE} : gTold yes ret m ρ S = match m ρ S with
  | .exc c S1 => if c ∈ yes then .ok (.str ret) S1 else .bad
  | r => r := rfl
/-! statements -/
variable {s t : GS}
@[simp] theorem ev_nil : sNil ρ S = .nx ρ S := rfl
@[simp] theorem ev_seq : sSeq s t ρ S = (s ρ S).thn t := rfl
@[simp] theorem ev_expr : sExpr a ρ S = (a ρ S).thn ρ fun _ S1 => .nx ρ S1 := rfl
@[simp] theorem ev_ret : sRet a ρ S = (a ρ S).thn ρ fun d S1 => .rt d S1 := rfl
@[simp] theorem ev_retN : sRetN ρ S = .rt .non S := rfl
@[simp] theorem ev_break : sBreak ρ S = .bk ρ S := rfl
@[simp] theorem ev_cont : sCont ρ S = .ct ρ S := rfl
@[simp] theorem ev_sif : sIf c s t ρ S = (c ρ S).thn ρ fun d S1 => bIf d (s ρ S1) (t ρ S1) .bad := rfl
@[simp] theorem ev_asg {t : GT} : sAsg a t ρ S = (a ρ S).thn ρ fun d S1 => t d ρ S1 := rfl
@[simp] theorem ev_tname {i : Nat} : tName i d ρ S = .nx (ρ.set i (some d)) S := rfl
@[simp] theorem ev_tnil : tsNil [] ρ S = .nx ρ S := rfl
@[simp] theorem ev_tcons {t : GT} {u : GTs} {r : List D} : tsCons t u (d :: r) ρ S = (t d ρ S).thn fun ρ1 S1 => u r ρ1 S1 := rfl
@[simp] theorem ev_ttupl {n : Nat} {u : GTs} : tTupl n u d ρ S = match asT d with
  | some l => if l.length = n then u l ρ S else .bad
  | none => .bad := rfl
@[simp] theorem ev_tsub {p : PrS} : tSub p a b d ρ S = (a ρ S).thn ρ fun x S1 => (b ρ S1).thn ρ fun y S2 => match p x y d S2 with
  | some S3 => .nx ρ S3
  | none => .bad := rfl
@[simp] theorem ev_attr {cl : List Str} {f : Str} : sAttr cl f a b ρ S = (a ρ S).thn ρ fun d S1 => (b ρ S1).thn ρ fun x S2 => match setA cl f x d S2 with
  | some S3 => .nx ρ S3
  | none => .bad := rfl
@[simp] theorem ev_raise {x : Str} : sRaise x ρ S = .exc x ρ S := rfl
@[simp] theorem ev_aug {i : Nat} : sAug i p a ρ S = match ρ[i]? with
  | some (some x) => (a ρ S).thn ρ fun y S1 => match p x y S1 with
    | some (z, S2) => .nx (ρ.set i (some z)) S2
    | none => .bad
  | _ => .bad := rfl
@[simp] theorem argsS_nil {k : List D → Sto → RS} : gArgsS [] ρ S k = k [] S := rfl
@[simp] theorem argsS_cons {l : List GE} {k : List D → Sto → RS} : gArgsS (a :: l) ρ S k = (a ρ S).thn ρ fun x S1 => gArgsS l ρ S1 fun xs S2 => k (x :: xs) S2 := rfl
@[simp] theorem ev_par {is : List Nat} {l : List GE} : sPar is l ρ S = gArgsS l ρ S fun ds S1 => if ds.length = is.length then .nx ((is.zip ds).foldl (fun r p => r.set p.1 (some p.2)) ρ) S1 else .bad := rfl
@[simp] theorem thn_ok {f : D → Sto → RS} : (Res.ok d S).thn ρ f = f d S := rfl
@[simp] theorem thn_exc {f : D → Sto → RS} {x : Str} : (Res.exc x S).thn ρ f = .exc x ρ S := rfl
@[simp] theorem thn_bad {f : D → Sto → RS} : Res.bad.thn ρ f = .bad := rfl
@[simp] theorem sthn_nx {f : Ev → Sto → RS} : (RS.nx ρ S).thn f = f ρ S := rfl
@[simp] theorem sthn_rt {f : Ev → Sto → RS} : (RS.rt d S).thn f = .rt d S := rfl
@[simp] theorem sthn_bk {f : Ev → Sto → RS} : (RS.bk ρ S).thn f = .bk ρ S := rfl
@[simp] theorem sthn_ct {f : Ev → Sto → RS} : (RS.ct ρ S).thn f = .ct ρ S := rfl
@[simp] theorem sthn_exc {f : Ev → Sto → RS} {x : Str} : (RS.exc x ρ S).thn f = .exc x ρ S := rfl
@[simp] theorem resOf_nx : resOf (.nx ρ S) = .ok .non S := rfl
@[simp] theorem resOf_rt : resOf (.rt d S) = .ok d S := rfl
@[simp] theorem resOf_exc {x : Str} : resOf (.exc x ρ S) = .exc x S := rfl
@[simp] theorem fnG_eq {imm : Bool} {np n : Nat} {m : GS} {ds : List D} : fnG imm np n m ds S = if ds.length = np then (if imm = true then tidy S (resOf (m (startG n ds) S)) else resOf (m (startG n ds) S)) else .bad := rfl
/-! through an if -/
@[simp] theorem ite_bind {P : Prop} [Decidable P] {x y : Res} {f : D → Sto → Res} : (if P then x else y).bind f = if P then x.bind f else y.bind f := by by_cases h : P <;> simp [h]
@[simp] theorem ite_thn {P : Prop} [Decidable P] {x y : Res} {f : D → Sto → RS} : (if P then x else y).thn ρ f = if P then x.thn ρ f else y.thn ρ f := by by_cases h : P <;> simp [h]
@[simp] theorem ite_sthn {P : Prop} [Decidable P] {x y : RS} {f : Ev → Sto → RS} : (if P then x else y).thn f = if P then x.thn f else y.thn f := by by_cases h : P <;> simp [h]
@[simp] theorem ite_res {P : Prop} [Decidable P] {x y : Pr} : Pr.res (if P then x else y) = if P then x.res else y.res := by by_cases h : P <;> simp [h]
@[simp] theorem ite_resOf {P : Prop} [Decidable P] {x y : RS} : resOf (if P then x else y) = if P then resOf x else resOf y := by by_cases h : P <;> simp [h]
end
/-! ### words -/
theorem chars_inj : ∀ {l m : List Char}, l.map Char.toNat = m.map Char.toNat → l = m
  | [], [], _ => rfl
  | [], _ :: _, h => by simp at h
  | _ :: _, [], h => by simp at h
  | a :: l, b :: m, h => by
    simp only [List.map_cons, List.cons.injEq] at h
    have e : a = b := Char.ext (UInt32.toNat_inj.mp h.1)
    rw [e, chars_inj h.2]
theorem ofString_inj {a b : String} (h : Str.ofString a = Str.ofString b) : a = b := by
  rw [Str.ofString_eq_toList, Str.ofString_eq_toList] at h
  have h1 := congrArg (fun x : Str => x.cps.toList) h
  exact String.ext (chars_inj h1)
@[simp] theorem ofString_eq {a b : String} : (Str.ofString a = Str.ofString b) ↔ a = b := ⟨ofString_inj, fun e => by rw [e]⟩
/-! ### ints -/
section
variable {i j : Int} {S : Sto}
@[simp] theorem gLt_int : gLt (.int i) (.int j) S = some (.bl (decide (i < j)), S) := by simp [gLt, gCmp, pd, fLt, PySem.W.alike, isNone, PySem.W.dataLt_int]
@[simp] theorem gGt_int : gGt (.int i) (.int j) S = some (.bl (decide (j < i)), S) := by simp [gGt, gCmp, pd, fGt, PySem.W.alike, isNone, PySem.W.dataLt_int]
@[simp] theorem gLe_int : gLe (.int i) (.int j) S = some (.bl (decide (i ≤ j)), S) := by
  simp [gLe, gCmp, pd, fLe, PySem.W.alike, isNone, PySem.W.dataLt_int]
  by_cases h : i ≤ j <;> simp [h] <;> omega
@[simp] theorem gGe_int : gGe (.int i) (.int j) S = some (.bl (decide (j ≤ i)), S) := by
  simp [gGe, gCmp, pd, fGe, PySem.W.alike, isNone, PySem.W.dataLt_int]
  by_cases h : j ≤ i <;> simp [h] <;> omega
@[simp] theorem gEq_int : gEq (.int i) (.int j) S = some (.bl (decide (i = j)), S) := by
  simp [gEq, gCmp, pd, fEq, PyData.eqv]
  by_cases h : i = j <;> simp [h]
@[simp] theorem gNe_int : gNe (.int i) (.int j) S = some (.bl (decide (i ≠ j)), S) := by
  simp [gNe, gCmp, pd, fNe, PyData.eqv]
  by_cases h : i = j <;> simp [h]
@[simp] theorem gAdd_int : gAdd (.int i) (.int j) S = some (.int (i + j), S) := rfl
@[simp] theorem gSub_int : gSub (.int i) (.int j) S = some (.int (i - j), S) := rfl
@[simp] theorem gMul_int : gMul (.int i) (.int j) S = if mulOk i j = true then some (.int (i * j), S) else none := rfl
@[simp] theorem gDiv_int : gDiv (.int i) (.int j) S = if divOk j = true then some (.int (i.fdiv j), S) else none := rfl
@[simp] theorem gMod_int : gMod (.int i) (.int j) S = if j ≠ 0 then some (.int (i.fmod j), S) else none := rfl
@[simp] theorem gNeg_int : gNeg (.int i) S = some (.int (-i), S) := rfl
@[simp] theorem pInt_int : pInt [.int i] S = some (.int i, S) := rfl
@[simp] theorem pInt_bl {b : Bool} : pInt [.bl b] S = some (.int (if b then 1 else 0), S) := rfl
@[simp] theorem pAbs_int : pAbs [.int i] S = some (.int (if i < 0 then -i else i), S) := rfl
end
end Gp

set_option Elab.async false
set_option linter.all false
set_option maxRecDepth 100000
/-! Gp21: what stays as it is when frozen; data and their equality; places -/
namespace Gp
open PySem PySem.Spec L2
open PyProof.Rows hiding St

/-! ### frozen already -/
def fzB (b : Nat) : Nat → D → Bool
  | _, .non => true
  | _, .bl _ => true
  | _, .int _ => true
  | _, .str _ => true
  | _, .fn _ => true
  | _ + 1, .ref n => decide (n < b)
  | k + 1, .tup l => l.all (fzB b k)
  | k + 1, .ls l => l.all (fzB b k)
  | k + 1, .dc _ l => l.all fun p => fzB b k p.2
  | k + 1, .ob _ l => l.all fun p => fzB b k p.2
  | _, .kt l => cloL b l
  | _, _ => false
section
variable {b : Nat} {S : Sto} {k : Nat}
theorem omap_id {f : D → Option D} : ∀ {l : List D}, (∀ d ∈ l, f d = some d) → omap f l = some l
  | [], _ => rfl
  | d :: l, h => by simp [omap, h d (by simp), omap_id (l := l) fun x hx => h x (by simp [hx])]
theorem pmap_id {f : D → Option D} : ∀ {l : List (Str × D)}, (∀ p ∈ l, f p.2 = some p.2) → pmap f l = some l
  | [], _ => rfl
  | (k, d) :: l, h => by simp [pmap, h (k, d) (by simp), pmap_id (l := l) fun x hx => h x (by simp [hx])]
theorem dmap_id {f : D → Option D} : ∀ {l : List (D × D)}, (∀ p ∈ l, f p.2 = some p.2) → dmap f l = some l
  | [], _ => rfl
  | (k, d) :: l, h => by simp [dmap, h (k, d) (by simp), dmap_id (l := l) fun x hx => h x (by simp [hx])]
theorem frz_id : ∀ {k : Nat} {d : D}, fzB b k d = true → frz b S k d = some d
  | k, .non, _ => by cases k <;> rfl
  | k, .bl _, _ => by cases k <;> rfl
  | k, .int _, _ => by cases k <;> rfl
  | k, .str _, _ => by cases k <;> rfl
  | k, .fn _, _ => by cases k <;> rfl
  | 0, .ref _, h => by simp [fzB] at h
  | k + 1, .ref n, h => by simp only [fzB, decide_eq_true_eq] at h; simp [frz, h]
  | 0, .tup _, h => by simp [fzB] at h
  | k + 1, .tup l, h => by
    simp only [fzB, List.all_eq_true] at h
    simp only [frz, omap_id fun d hd => frz_id (h d hd)]; rfl
  | 0, .ls _, h => by simp [fzB] at h
  | k + 1, .ls l, h => by
    simp only [fzB, List.all_eq_true] at h
    simp only [frz, omap_id fun d hd => frz_id (h d hd)]; rfl
  | 0, .dc _ _, h => by simp [fzB] at h
  | k + 1, .dc j l, h => by
    simp only [fzB, List.all_eq_true] at h
    simp only [frz, dmap_id fun p hp => frz_id (h p hp)]; rfl
  | 0, .ob _ _, h => by simp [fzB] at h
  | k + 1, .ob c l, h => by
    simp only [fzB, List.all_eq_true] at h
    simp only [frz, pmap_id fun p hp => frz_id (h p hp)]; rfl
  | 0, .kt l, h => by simp only [fzB] at h; simp [frz, h]
  | k + 1, .kt l, h => by simp only [fzB] at h; simp [frz, h]
  | 0, .sq _, h => by simp [fzB] at h
  | k + 1, .sq _, h => by simp [fzB] at h
/-- nothing new: tidied, it stays -/
theorem tidy_id {d : D} (h : fzB S.length 30 d = true) : tidy S (.ok d S) = .ok d S := by
  simp [tidy, frz_id h]
@[simp] theorem tidy_exc {c : Str} : tidy S (.exc c S) = .exc c S := by simp [tidy]
/-- new cells behind the old ones: they are forgotten -/
theorem tidy_new {d d' : D} {T : Sto} (h : frz S.length (S ++ T) 30 d = some d') : tidy S (.ok d (S ++ T)) = .ok d' S := by
  simp [tidy, h]
/-- the old ones have changed, but name no new ones -/
theorem tidy_set {d : D} {S' : Sto} (hl : S'.length = S.length) (hc : S'.all (cloC S.length) = true) (h : fzB S.length 30 d = true) : tidy S (.ok d S') = .ok d S' := by
  have e : S'.take S.length = S' := by rw [← hl]; exact List.take_length
  simp only [tidy, e, frz_id h]
  rw [if_pos (.inr hc)]
end

/-! ### data -/
def isDat : Nat → D → Bool
  | _, .non => true
  | _, .bl _ => true
  | _, .int _ => true
  | _, .str _ => true
  | k + 1, .tup l => l.all (isDat k)
  | k + 1, .kt l => l.all (isDat k)
  | k + 1, .ls l => l.all (isDat k)
  | _, _ => false
section
variable {S : Sto} {k : Nat}
theorem omap_some {f : D → Option PyData} {P : PyData → Prop} : ∀ {l : List D}, (∀ d ∈ l, ∃ p, f d = some p ∧ P p) → ∃ ps, omap f l = some ps ∧ (∀ p ∈ ps, P p) ∧ ps.length = l.length
  | [], _ => ⟨[], rfl, by simp, rfl⟩
  | d :: l, h => by
    obtain ⟨p, e, q⟩ := h d (by simp)
    obtain ⟨ps, e2, q2, e3⟩ := omap_some (l := l) fun x hx => h x (by simp [hx])
    refine ⟨p :: ps, by simp [omap, e, e2], fun x hx => ?_, by simp [e3]⟩
    rcases List.mem_cons.mp hx with rfl | hx
    · exact q
    · exact q2 x hx
theorem plainAll_of : ∀ {ps : List PyData}, (∀ p ∈ ps, p.plain = true) → PyData.plainAll ps = true
  | [], _ => rfl
  | p :: ps, h => by simp [PyData.plainAll, h p (by simp), plainAll_of (ps := ps) fun x hx => h x (by simp [hx])]
theorem pd_dat : ∀ {k : Nat} {d : D}, isDat k d = true → ∃ p, pd S k d = some p ∧ p.plain = true
  | k, .non, _ => ⟨.none, by cases k <;> rfl, rfl⟩
  | k, .bl b, _ => ⟨.bool b, by cases k <;> rfl, rfl⟩
  | k, .int i, _ => ⟨.int i, by cases k <;> rfl, rfl⟩
  | k, .str x, _ => ⟨.str x, by cases k <;> rfl, rfl⟩
  | k + 1, .tup l, h => by
    simp only [isDat, List.all_eq_true] at h
    obtain ⟨ps, e, q, _⟩ := omap_some (P := fun p => p.plain = true) fun d hd => pd_dat (h d hd)
    exact ⟨.tuple ps, by simp [pd, e], by simp [PyData.plain, plainAll_of q]⟩
  | k + 1, .kt l, h => by
    simp only [isDat, List.all_eq_true] at h
    obtain ⟨ps, e, q, _⟩ := omap_some (P := fun p => p.plain = true) fun d hd => pd_dat (h d hd)
    exact ⟨.tuple ps, by simp [pd, e], by simp [PyData.plain, plainAll_of q]⟩
  | k + 1, .ls l, h => by
    simp only [isDat, List.all_eq_true] at h
    obtain ⟨ps, e, q, _⟩ := omap_some (P := fun p => p.plain = true) fun d hd => pd_dat (h d hd)
    exact ⟨.list ps, by simp [pd, e], by simp [PyData.plain, plainAll_of q]⟩
  | 0, .tup _, h => by simp [isDat] at h
  | 0, .kt _, h => by simp [isDat] at h
  | 0, .ls _, h => by simp [isDat] at h
  | 0, .sq _, h => by simp [isDat] at h
  | 0, .dc _ _, h => by simp [isDat] at h
  | 0, .ob _ _, h => by simp [isDat] at h
  | 0, .ref _, h => by simp [isDat] at h
  | 0, .fn _, h => by simp [isDat] at h
  | k + 1, .sq _, h => by simp [isDat] at h
  | k + 1, .dc _ _, h => by simp [isDat] at h
  | k + 1, .ob _ _, h => by simp [isDat] at h
  | k + 1, .ref _, h => by simp [isDat] at h
  | k + 1, .fn _, h => by simp [isDat] at h
/-- the same datum -/
theorem gEq_same {a b : D} {p : PyData} (ha : pd S 60 a = some p) (hb : pd S 60 b = some p) (hp : p.plain = true) : gEq a b S = some (.bl true, S) := by
  simp [gEq, gCmp, ha, hb, fEq, PySem.SeqAt.eqv_refl_plain p hp]
theorem gNe_same {a b : D} {p : PyData} (ha : pd S 60 a = some p) (hb : pd S 60 b = some p) (hp : p.plain = true) : gNe a b S = some (.bl false, S) := by
  simp [gNe, gCmp, ha, hb, fNe, PySem.SeqAt.eqv_refl_plain p hp]
theorem gEq_self {d : D} (h : isDat 60 d = true) : gEq d d S = some (.bl true, S) := by
  obtain ⟨p, e, q⟩ := pd_dat (S := S) h
  exact gEq_same e e q
theorem gNe_self {d : D} (h : isDat 60 d = true) : gNe d d S = some (.bl false, S) := by
  obtain ⟨p, e, q⟩ := pd_dat (S := S) h
  exact gNe_same e e q
theorem pd_ref {n : Nat} {l : List D} (h : S[n]? = some (.lst l)) : pd S 60 (.ref n) = pd S 60 (.ls l) := by
  show (match S[n]? with | some (.lst l) => (omap (pd S 59) l).map PyData.list | _ => none) = _
  rw [h]; rfl
theorem gNe_nil {l : List D} (h : isDat 60 (.ls l) = true) : gNe (.ls l) (.ls []) S = some (.bl (decide (l ≠ [])), S) := by
  simp only [isDat, List.all_eq_true] at h
  obtain ⟨ps, e, q, hl⟩ := omap_some (f := pd S 59) (P := fun p => p.plain = true) fun d hd => pd_dat (h d hd)
  have e1 : pd S 60 (.ls l) = some (.list ps) := by simp [pd, e]
  have e2 : pd S 60 (.ls []) = some (.list []) := rfl
  simp only [gNe, gCmp, e1, e2, fNe]
  cases l with
  | nil =>
    have : ps = [] := by simpa using hl
    subst this; simp [PyData.eqv, PyData.eqvAll]
  | cons a l =>
    cases ps with
    | nil => simp at hl
    | cons p ps => simp [PyData.eqv, PyData.eqvAll]
theorem gEq_nil {l : List D} (h : isDat 60 (.ls l) = true) : gEq (.ls l) (.ls []) S = some (.bl (decide (l = [])), S) := by
  simp only [isDat, List.all_eq_true] at h
  obtain ⟨ps, e, q, hl⟩ := omap_some (f := pd S 59) (P := fun p => p.plain = true) fun d hd => pd_dat (h d hd)
  have e1 : pd S 60 (.ls l) = some (.list ps) := by simp [pd, e]
  have e2 : pd S 60 (.ls []) = some (.list []) := rfl
  simp only [gEq, gCmp, e1, e2, fEq]
  cases l with
  | nil =>
    have : ps = [] := by simpa using hl
    subst this; simp [PyData.eqv, PyData.eqvAll]
  | cons a l =>
    cases ps with
    | nil => simp at hl
    | cons p ps => simp [PyData.eqv, PyData.eqvAll]
@[simp] theorem gEq_str {x y : Str} : gEq (.str x) (.str y) S = some (.bl (decide (x = y)), S) := by
  simp [gEq, gCmp, pd, fEq, PyData.eqv]
  by_cases h : x = y <;> simp [h]
@[simp] theorem gNe_str {x y : Str} : gNe (.str x) (.str y) S = some (.bl (decide (x ≠ y)), S) := by
  simp [gNe, gCmp, pd, fNe, PyData.eqv]
  by_cases h : x = y <;> simp [h]
@[simp] theorem gEq_nonstr {x : Str} : gEq .non (.str x) S = some (.bl false, S) := by simp [gEq, gCmp, pd, fEq, PyData.eqv]
@[simp] theorem gNe_nonstr {x : Str} : gNe .non (.str x) S = some (.bl true, S) := by simp [gNe, gCmp, pd, fNe, PyData.eqv]

/-! ### places -/
theorem atI_nn {α : Type} {l : List α} {i : Int} (h0 : 0 ≤ i) : atI l i = l[i.toNat]? := by
  unfold atI ixN
  rw [if_pos h0]
  by_cases h : i < l.length
  · rw [if_pos h]; rfl
  · rw [if_neg h, List.getElem?_eq_none (by omega)]; rfl
theorem atI_m1 {α : Type} {l : List α} : atI l (-1) = l[l.length - 1]? := by
  unfold atI ixN
  rw [if_neg (by decide)]
  cases l with
  | nil => simp
  | cons a l =>
    rw [if_pos (by simp; omega)]
    simp only [Option.bind_some, List.length_cons]
    congr 1
    omega
@[simp] theorem atI_nat {α : Type} {l : List α} {n : Nat} : atI l (n : Int) = l[n]? := by rw [atI_nn (by omega)]; simp
@[simp] theorem atI_0 {α : Type} {l : List α} : atI l 0 = l[0]? := atI_nat (n := 0)
@[simp] theorem atI_1 {α : Type} {l : List α} : atI l 1 = l[1]? := atI_nat (n := 1)
@[simp] theorem atI_2 {α : Type} {l : List α} : atI l 2 = l[2]? := atI_nat (n := 2)
@[simp] theorem atI_3 {α : Type} {l : List α} : atI l 3 = l[3]? := atI_nat (n := 3)
@[simp] theorem gIx_tup {l : List D} {i : Int} : gIx (.tup l) (.int i) S = (atI l i).map fun d => (d, S) := rfl
@[simp] theorem gIx_ls {l : List D} {i : Int} : gIx (.ls l) (.int i) S = (atI l i).map fun d => (d, S) := rfl
theorem gIx_lst {n : Nat} {l : List D} {i : Int} (h : S[n]? = some (.lst l)) : gIx (.ref n) (.int i) S = (atI l i).map fun d => (d, S) := by
  simp [gIx, asD, asL, h]
end
end Gp

set_option Elab.async false
set_option linter.all false
set_option maxRecDepth 100000
/-! Gp22: stores that name no cell beyond them; loops by what holds before each turn -/
namespace Gp
open PySem PySem.Spec L2
open PyProof.Rows hiding St

mutual
theorem clo_up {b c : Nat} (h : b ≤ c) : ∀ {d : D}, clo b d = true → clo c d = true
  | .ref n, x => by simp only [clo, decide_eq_true_eq] at x ⊢; omega
  | .tup l, x => by simp only [clo] at x ⊢; exact cloL_up h x
  | .kt l, x => by simp only [clo] at x ⊢; exact cloL_up h x
  | .ls l, x => by simp only [clo] at x ⊢; exact cloL_up h x
  | .sq l, x => by simp only [clo] at x ⊢; exact cloL_up h x
  | .dc _ l, x => by simp only [clo] at x ⊢; exact cloM_up h x
  | .ob _ l, x => by simp only [clo] at x ⊢; exact cloF_up h x
  | .non, _ => rfl
  | .bl _, _ => rfl
  | .int _, _ => rfl
  | .str _, _ => rfl
  | .fn _, _ => rfl
theorem cloL_up {b c : Nat} (h : b ≤ c) : ∀ {l : List D}, cloL b l = true → cloL c l = true
  | [], _ => rfl
  | d :: l, x => by
    simp only [cloL, Bool.and_eq_true] at x ⊢
    exact ⟨clo_up h x.1, cloL_up h x.2⟩
theorem cloM_up {b c : Nat} (h : b ≤ c) : ∀ {l : List (D × D)}, cloM b l = true → cloM c l = true
  | [], _ => rfl
  | (_, d) :: l, x => by
    simp only [cloM, Bool.and_eq_true] at x ⊢
    exact ⟨clo_up h x.1, cloM_up h x.2⟩
theorem cloF_up {b c : Nat} (h : b ≤ c) : ∀ {l : List (Str × D)}, cloF b l = true → cloF c l = true
  | [], _ => rfl
  | (_, d) :: l, x => by
    simp only [cloF, Bool.and_eq_true] at x ⊢
    exact ⟨clo_up h x.1, cloF_up h x.2⟩
end
theorem cloC_up {b c : Nat} (h : b ≤ c) : ∀ {x : Cell}, cloC b x = true → cloC c x = true
  | .lst _, x => cloL_up h x
  | .dict _ _ _, x => cloM_up h x
  | .obj _ _, x => cloF_up h x
/-- no cell names one beyond -/
def Cl (S : Sto) : Prop := ∀ c ∈ S, cloC S.length c = true
theorem Cl.all {S : Sto} (h : Cl S) : S.all (cloC S.length) = true := by simpa [Cl] using h
theorem Cl.set {S : Sto} (h : Cl S) {n : Nat} {c : Cell} (hc : cloC S.length c = true) : Cl (S.set n c) := by
  intro x hx
  rw [List.length_set]
  rcases List.mem_or_eq_of_mem_set hx with hx | rfl
  · exact h x hx
  · exact hc
theorem Cl.app {S T : Sto} (h : Cl S) (ht : ∀ c ∈ T, cloC (S.length + T.length) c = true) : Cl (S ++ T) := by
  intro x hx
  rw [List.length_append]
  rcases List.mem_append.mp hx with hx | hx
  · exact cloC_up (by omega) (h x hx)
  · exact ht x hx
theorem cloL_mem {b : Nat} : ∀ {l : List D}, (∀ d ∈ l, clo b d = true) → cloL b l = true
  | [], _ => rfl
  | d :: l, h => by simp [cloL, h d (by simp), cloL_mem (l := l) fun x hx => h x (by simp [hx])]
theorem cloM_mem {b : Nat} : ∀ {l : List (D × D)}, (∀ d ∈ l, clo b d.2 = true) → cloM b l = true
  | [], _ => rfl
  | (k, d) :: l, h => by simp [cloM, h (k, d) (by simp), cloM_mem (l := l) fun x hx => h x (by simp [hx])]
theorem tidy_cl {S S' : Sto} {d : D} (hl : S'.length = S.length) (hc : Cl S') (h : fzB S.length 30 d = true) : tidy S (.ok d S') = .ok d S' :=
  tidy_set hl (by rw [← hl]; exact hc.all) h
/-- the old cells have changed, new ones stand behind them -/
theorem tidy_cut {S S1 T : Sto} {d d' : D} (hl : S1.length = S.length) (hc : Cl S1) (h : frz S.length (S1 ++ T) 30 d = some d') : tidy S (.ok d (S1 ++ T)) = .ok d' S1 := by
  have e : (S1 ++ T).take S.length = S1 := by rw [← hl]; exact List.take_left' rfl
  simp only [tidy, e, h]
  rw [if_pos (.inr (by rw [← hl]; exact hc.all))]

/-! ### loops -/
/-- what a turn may come to -/
def TurnTo (P : Ev → Sto → Prop) (R : D → Sto → Prop) (r : RS) : Prop := match r with
  | .nx ρ S => P ρ S
  | .ct ρ S => P ρ S
  | .rt d S => R d S
  | _ => False
inductive EndTo (P : Ev → Sto → Prop) (R : D → Sto → Prop) : RS → Prop
  | nxt {ρ : Ev} {S : Sto} (h : P ρ S) : EndTo P R (.nx ρ S)
  | ret {d : D} {S : Sto} (h : R d S) : EndTo P R (.rt d S)
theorem forN_to {lk : Look} {b : D → GS} {l : List D} (hlk : ∀ i S, lk i S = some l[i]?) (I : Nat → Ev → Sto → Prop) (R : D → Sto → Prop)
    (h : ∀ i d ρ S, l[i]? = some d → I i ρ S → TurnTo (I (i + 1)) R (b d ρ S)) : ∀ n i ρ S, l.length < n + i → i ≤ l.length → I i ρ S → EndTo (I l.length) R (forN lk b n i ρ S)
  | 0, i, _, _, hn, hi, _ => by omega
  | n + 1, i, ρ, S, hn, hi, x => by
    simp only [forN, hlk]
    rcases Nat.lt_or_ge i l.length with hi' | hi'
    · rw [List.getElem?_eq_getElem hi']
      have := h i _ ρ S (List.getElem?_eq_getElem hi') x
      revert this
      cases e : b l[i] ρ S with
      | nx ρ2 S2 => intro y; simp only [e]; exact forN_to hlk I R h n (i + 1) ρ2 S2 (by omega) hi' y
      | ct ρ2 S2 => intro y; simp only [e]; exact forN_to hlk I R h n (i + 1) ρ2 S2 (by omega) hi' y
      | rt d S => intro y; simp only [e]; exact .ret y
      | bk _ _ => exact fun y => y.elim
      | exc _ _ _ => exact fun y => y.elim
      | bad => exact fun y => y.elim
    · rw [List.getElem?_eq_none hi']
      have : i = l.length := by omega
      subst this; exact .nxt x
/-- a loop over what stays -/
theorem sFor_to {n : Nat} {it : GI} {t : GT} {b : GS} {ρ : Ev} {S S1 : Sto} {l : List D} {lk : Look} (hit : it ρ S = .ok lk S1 none) (hlk : ∀ i S, lk i S = some l[i]?) (hn : l.length < n) (I : Nat → Ev → Sto → Prop) (R : D → Sto → Prop)
    (h0 : I 0 ρ S1) (h : ∀ i d ρ S, l[i]? = some d → I i ρ S → TurnTo (I (i + 1)) R ((t d ρ S).thn b)) : EndTo (I l.length) R (sFor n it t b ρ S) := by
  simp only [sFor, hit, IR.thn, unlRS]
  exact forN_to hlk I R h n 0 ρ S1 (by omega) (by omega) h0
theorem fixL_look {l : List D} : ∀ i S, fixL l i S = some l[i]? := fun _ _ => rfl
theorem EndTo.nx {P : Ev → Sto → Prop} {r : RS} (h : EndTo P (fun _ _ => False) r) : ∃ ρ S, r = .nx ρ S ∧ P ρ S := by
  cases h with
  | nxt h => exact ⟨_, _, rfl, h⟩
  | ret h => exact h.elim
/-- a row of what a comprehension makes -/
theorem lcN_to {lk : Look} {t : TN} {c : Option GE} {e : GE} {ρ0 : Ev} {n0 : Nat} {l : List D} (hlk : ∀ i S, lk i S = some l[i]?) (I : Nat → Sto → Prop)
    (h : ∀ i d S, l[i]? = some d → I i S → ∃ ρ S1, t d ρ0 = some ρ ∧ ((tstG c ρ S = .ok (.bl false) S1 ∧ I (i + 1) S1) ∨ (tstG c ρ S = .ok (.bl true) S1 ∧ ∃ y S2 acc, e ρ S1 = .ok y S2 ∧ S2[n0]? = some (.lst acc) ∧ acc.length < sizeLine ∧ I (i + 1) (S2.set n0 (.lst (acc ++ [y])))))) :
    ∀ n i S, l.length < n + i → i ≤ l.length → I i S → ∃ S', lcN lk t c e ρ0 n0 n i S = .ok (.ref n0) S' ∧ I l.length S'
  | 0, i, _, hn, hi, _ => by omega
  | n + 1, i, S, hn, hi, x => by
    simp only [lcN, hlk]
    rcases Nat.lt_or_ge i l.length with hi' | hi'
    · rw [List.getElem?_eq_getElem hi']
      obtain ⟨ρ, S1, e1, h1⟩ := h i _ S (List.getElem?_eq_getElem hi') x
      simp only [e1]
      rcases h1 with ⟨e2, y⟩ | ⟨e2, y, S2, acc, e3, e4, e5, z⟩
      · simp only [e2]
        exact lcN_to hlk I h n (i + 1) S1 (by omega) hi' y
      · simp only [e2, e3, e4, e5, if_true]
        exact lcN_to hlk I h n (i + 1) _ (by omega) hi' z
    · rw [List.getElem?_eq_none hi']
      have : i = l.length := by omega
      subst this; exact ⟨S, rfl, x⟩
/-- the same of a dict -/
theorem dcN_to {lk : Look} {t : TN} {c : Option GE} {ek e : GE} {ρ0 : Ev} {n0 : Nat} {l : List D} (hlk : ∀ i S, lk i S = some l[i]?) (I : Nat → Sto → Prop)
    (h : ∀ i d S, l[i]? = some d → I i S → ∃ ρ S1, t d ρ0 = some ρ ∧ ((tstG c ρ S = .ok (.bl false) S1 ∧ I (i + 1) S1) ∨ (tstG c ρ S = .ok (.bl true) S1 ∧ ∃ k S2 y S3 acc, ek ρ S1 = .ok k S2 ∧ e ρ S2 = .ok y S3 ∧ S3[n0]? = some (.dict 0 false acc) ∧ keyOk 0 k = true ∧ acc.length < sizeLine ∧ I (i + 1) (S3.set n0 (.dict 0 false (dput acc k y)))))) :
    ∀ n i S, l.length < n + i → i ≤ l.length → I i S → ∃ S', dcN lk t c ek e ρ0 n0 n i S = .ok (.ref n0) S' ∧ I l.length S'
  | 0, i, _, hn, hi, _ => by omega
  | n + 1, i, S, hn, hi, x => by
    simp only [dcN, hlk]
    rcases Nat.lt_or_ge i l.length with hi' | hi'
    · rw [List.getElem?_eq_getElem hi']
      obtain ⟨ρ, S1, e1, h1⟩ := h i _ S (List.getElem?_eq_getElem hi') x
      simp only [e1]
      rcases h1 with ⟨e2, y⟩ | ⟨e2, k, S2, y, S3, acc, e3, e4, e5, e6, e7, z⟩
      · simp only [e2]
        exact dcN_to hlk I h n (i + 1) S1 (by omega) hi' y
      · simp only [e2, e3, e4, e5, e6, e7, and_self, if_true]
        exact dcN_to hlk I h n (i + 1) _ (by omega) hi' z
    · rw [List.getElem?_eq_none hi']
      have : i = l.length := by omega
      subst this; exact ⟨S, rfl, x⟩
/-! ### cells -/
theorem get_set_ne {S : Sto} {m n : Nat} {c : Cell} (h : m ≠ n) : (S.set m c)[n]? = S[n]? := by simp [List.getElem?_set, h]
theorem get_set_eq {S : Sto} {n : Nat} {c : Cell} (h : n < S.length) : (S.set n c)[n]? = some c := by simp [List.getElem?_set, h]
theorem lt_of_get {S : Sto} {n : Nat} {c : Cell} (h : S[n]? = some c) : n < S.length := by
  rcases Nat.lt_or_ge n S.length with x | x
  · exact x
  · rw [List.getElem?_eq_none x] at h; cases h
theorem get_app {S T : Sto} {n : Nat} {c : Cell} (h : S[n]? = some c) : (S ++ T)[n]? = some c := by
  rw [List.getElem?_append_left (lt_of_get h)]; exact h
theorem get_new {S : Sto} {c : Cell} : (S ++ [c])[S.length]? = some c := by simp
theorem set_new {S : Sto} {c d : Cell} : (S ++ [c]).set S.length d = S ++ [d] := by simp
/-! ### comprehensions that change nothing -/
theorem lcN_pure {lk : Look} {t : TN} {c : Option GE} {e : GE} {ρ0 : Ev} {S : Sto} {l : List D} (hlk : ∀ i S, lk i S = some l[i]?) (f : D → Option D)
    (h : ∀ d ∈ l, ∀ acc, ∃ ρ, t d ρ0 = some ρ ∧ match f d with
      | none => tstG c ρ (S ++ [.lst acc]) = .ok (.bl false) (S ++ [.lst acc])
      | some y => tstG c ρ (S ++ [.lst acc]) = .ok (.bl true) (S ++ [.lst acc]) ∧ e ρ (S ++ [.lst acc]) = .ok y (S ++ [.lst acc]))
    {n : Nat} (hn : l.length < n) (hl : l.length ≤ sizeLine) : lcN lk t c e ρ0 S.length n 0 (S ++ [.lst []]) = .ok (.ref S.length) (S ++ [.lst (l.filterMap f)]) := by
  obtain ⟨S', e1, e2⟩ := lcN_to (lk := lk) (t := t) (c := c) (e := e) (ρ0 := ρ0) (n0 := S.length) hlk (fun i T => T = S ++ [.lst ((l.take i).filterMap f)]) (fun i d T hd hT => by
    subst hT
    obtain ⟨ρ, h1, h2⟩ := h d (List.mem_of_getElem? hd) ((l.take i).filterMap f)
    have ht : l.take (i + 1) = l.take i ++ [d] := by rw [List.take_succ, hd]; rfl
    have hlen : ((l.take i).filterMap f).length < sizeLine := by
      have := List.length_filterMap_le f (l.take i)
      have h3 : i < l.length := (List.getElem?_eq_some_iff.mp hd).1
      rw [List.length_take] at this
      omega
    cases hf : f d with
    | none =>
      simp only [hf] at h2
      exact ⟨ρ, _, h1, .inl ⟨h2, by rw [ht]; simp [hf]⟩⟩
    | some y =>
      simp only [hf] at h2
      exact ⟨ρ, _, h1, .inr ⟨h2.1, y, _, _, h2.2, get_new, hlen, by rw [set_new, ht]; simp [hf]⟩⟩) n 0 _ (by omega) (by omega) rfl
  rw [e2, List.take_length] at e1
  exact e1
theorem gLc_pure {it : GI} {lk : Look} {t : TN} {c : Option GE} {e : GE} {ρ : Ev} {vs : List Nat} {S : Sto} {l : List D} {n : Nat} (hit : it ρ S = .ok lk S none) (hlk : ∀ i S, lk i S = some l[i]?) (f : D → Option D)
    (h : ∀ d ∈ l, ∀ acc, ∃ ρ', t d (wipeG ρ vs) = some ρ' ∧ match f d with
      | none => tstG c ρ' (S ++ [.lst acc]) = .ok (.bl false) (S ++ [.lst acc])
      | some y => tstG c ρ' (S ++ [.lst acc]) = .ok (.bl true) (S ++ [.lst acc]) ∧ e ρ' (S ++ [.lst acc]) = .ok y (S ++ [.lst acc]))
    (hn : l.length < n) (hl : l.length ≤ sizeLine) (hf : ∀ d ∈ l, ∀ y, f d = some y → fzB S.length 29 y = true) : gLc true n it t c e vs ρ S = .ok (.ls (l.filterMap f)) S := by
  simp only [gLc, gLc0, hit, IR.res, unlR, lcN_pure hlk f h hn hl, if_true]
  apply tidy_new
  simp only [frz, Nat.lt_irrefl, if_false, get_new]
  rw [omap_id]; rfl
  intro y hy
  obtain ⟨d, hd, e2⟩ := List.mem_filterMap.mp hy
  have := hf d hd y e2
  refine frz_id ?_
  exact this
/-! ### cuts -/
theorem cutD_take {α : Type} {xs : List α} {k : Nat} : cutD xs none (some (k : Int)) = xs.take k := by
  simp only [cutD, HT.sIx_none, HT.sIx_nat, List.drop_zero, Nat.sub_zero]
  rcases Nat.le_total k xs.length with h | h
  · rw [Nat.min_eq_left h]
  · rw [Nat.min_eq_right h, List.take_length, List.take_of_length_le h]
/-! ### ranges -/
theorem small62_of {j : Int} (h1 : -4611686018427387904 ≤ j) (h2 : j < 4611686018427387904) : small62 j = true := by
  have e : (2 : Int) ^ 62 = 4611686018427387904 := by decide
  simp only [small62, e, Bool.and_eq_true, decide_eq_true_eq]
  exact ⟨h1, h2⟩
theorem rng1_it {a : GE} {ρ : Ev} {S : Sto} {j : Int} (ha : a ρ S = .ok (.int j) S) (h1 : -4611686018427387904 ≤ j) (h2 : j < 4611686018427387904) : gSrcA rngOf1 [a] ρ S = .ok (fixL (rngL 0 1 j.toNat)) S none := by
  simp only [gSrcA, gArgsR, ha, AR.cons, rngOf1, small62_of h1 h2, if_true]
theorem rng2_it {a b : GE} {ρ : Ev} {S : Sto} {i j : Int} (ha : a ρ S = .ok (.int i) S) (hb : b ρ S = .ok (.int j) S) (h1 : -4611686018427387904 ≤ i) (h2 : i < 4611686018427387904) (h3 : -4611686018427387904 ≤ j) (h4 : j < 4611686018427387904) :
    gSrcA rngOf2 [a, b] ρ S = .ok (fixL (rngL i 1 (j - i).toNat)) S none := by
  simp only [gSrcA, gArgsR, ha, hb, AR.cons, rngOf2, small62_of h1 h2, small62_of h3 h4, Bool.and_self, if_true]
end Gp

set_option Elab.async false
set_option linter.all false
set_option maxRecDepth 100000
set_option maxHeartbeats 4000000
/-! printed by gpgen.py for law_k15_recordings_that_are_sought -/
namespace K15
open PySem PySem.Spec L2 Gp LamX
open PyProof.Rows hiding St
abbrev LW : PySem.W.OpenLaw := PySem.Challenge.rw_gamestack_k15_recordings_that_are_sought
def top (i : Nat) : Stmt := PySem.Challenge.pw_gamestack_k15_recordings_that_are_sought.main.body.getD i (.Pass ⟨0, 0, 0, 0⟩)
abbrev s_Game_init : Stmt := inClass (top 9) 0
abbrev s_law_step : Stmt := top 15
abbrev s_Game_played : Stmt := inClass (top 9) 1
abbrev s_Recording_init : Stmt := inClass (top 5) 0
abbrev s_Recording_add : Stmt := inClass (top 5) 1
abbrev s_Recording_seek : Stmt := inClass (top 5) 2
abbrev s_Recording_cut : Stmt := inClass (top 5) 3
abbrev s_Recording_first_difference : Stmt := inClass (top 5) 4
abbrev s_law_roll : Stmt := top 12
abbrev s_law_dice : Stmt := top 11
abbrev s_law_rounds : Stmt := top 13
abbrev s_law_told : Stmt := top 14
abbrev s_packed_rows : Stmt := top 6
abbrev s_unpacked_rows : Stmt := top 7
abbrev s_law : Stmt := top 16
def d_Game_init : He.DefD := ⟨("Game", some "__init__"), "__init__", "Game.__init__", defArgs s_Game_init, defBody s_Game_init, defScope s_Game_init, [], []⟩
def d_law_step : He.DefD := ⟨("_law_step", none), "_law_step", "_law_step", defArgs s_law_step, defBody s_law_step, defScope s_law_step, [], []⟩
def d_Game_played : He.DefD := ⟨("Game", some "played"), "played", "Game.played", defArgs s_Game_played, defBody s_Game_played, defScope s_Game_played, [], []⟩
def d_Recording_init : He.DefD := ⟨("Recording", some "__init__"), "__init__", "Recording.__init__", defArgs s_Recording_init, defBody s_Recording_init, defScope s_Recording_init, [.int (30)], []⟩
def d_Recording_add : He.DefD := ⟨("Recording", some "add"), "add", "Recording.add", defArgs s_Recording_add, defBody s_Recording_add, defScope s_Recording_add, [], []⟩
def d_Recording_seek : He.DefD := ⟨("Recording", some "seek"), "seek", "Recording.seek", defArgs s_Recording_seek, defBody s_Recording_seek, defScope s_Recording_seek, [], []⟩
def d_Recording_cut : He.DefD := ⟨("Recording", some "cut"), "cut", "Recording.cut", defArgs s_Recording_cut, defBody s_Recording_cut, defScope s_Recording_cut, [], []⟩
def d_Recording_first_difference : He.DefD := ⟨("Recording", some "first_difference"), "first_difference", "Recording.first_difference", defArgs s_Recording_first_difference, defBody s_Recording_first_difference, defScope s_Recording_first_difference, [], []⟩
def d_law_roll : He.DefD := ⟨("_law_roll", none), "_law_roll", "_law_roll", defArgs s_law_roll, defBody s_law_roll, defScope s_law_roll, [], []⟩
def d_law_dice : He.DefD := ⟨("_law_dice", none), "_law_dice", "_law_dice", defArgs s_law_dice, defBody s_law_dice, defScope s_law_dice, [], []⟩
def d_law_rounds : He.DefD := ⟨("_law_rounds", none), "_law_rounds", "_law_rounds", defArgs s_law_rounds, defBody s_law_rounds, defScope s_law_rounds, [], []⟩
def d_law_told : He.DefD := ⟨("_law_told", none), "_law_told", "_law_told", defArgs s_law_told, defBody s_law_told, defScope s_law_told, [], []⟩
def d_packed_rows : He.DefD := ⟨("packed_rows", none), "packed_rows", "packed_rows", defArgs s_packed_rows, defBody s_packed_rows, defScope s_packed_rows, [], []⟩
def d_unpacked_rows : He.DefD := ⟨("unpacked_rows", none), "unpacked_rows", "unpacked_rows", defArgs s_unpacked_rows, defBody s_unpacked_rows, defScope s_unpacked_rows, [], []⟩
def d_law : He.DefD := ⟨("law", none), "law", "law", defArgs s_law, defBody s_law, defScope s_law, [], []⟩
def fn : List He.DefD := [d_Game_init, d_law_step, d_Game_played, d_Recording_init, d_Recording_add, d_Recording_seek, d_Recording_cut, d_Recording_first_difference, d_law_roll, d_law_dice, d_law_rounds, d_law_told, d_packed_rows, d_unpacked_rows, d_law]
def N_Game_init : List Str := ["self", "first", "step"]
def P_Game_init : List Str := ["self", "first", "step"]
theorem nd_Game_init : N_Game_init.Nodup := by decide +kernel
theorem sc_Game_init : FnScope N_Game_init P_Game_init (defScope s_Game_init) := C8.fnScope_by (by decide +kernel)
def N_law_step : List Str := ["state", "row"]
def P_law_step : List Str := ["state", "row"]
theorem nd_law_step : N_law_step.Nodup := by decide +kernel
theorem sc_law_step : FnScope N_law_step P_law_step (defScope s_law_step) := C8.fnScope_by (by decide +kernel)
def N_Game_played : List Str := ["self", "rows", "found", "row"]
def P_Game_played : List Str := ["self", "rows"]
theorem nd_Game_played : N_Game_played.Nodup := by decide +kernel
theorem sc_Game_played : FnScope N_Game_played P_Game_played (defScope s_Game_played) := C8.fnScope_by (by decide +kernel)
def N_Recording_init : List Str := ["self", "game", "each"]
def P_Recording_init : List Str := ["self", "game", "each"]
theorem nd_Recording_init : N_Recording_init.Nodup := by decide +kernel
theorem sc_Recording_init : FnScope N_Recording_init P_Recording_init (defScope s_Recording_init) := C8.fnScope_by (by decide +kernel)
def N_Recording_add : List Str := ["self", "row"]
def P_Recording_add : List Str := ["self", "row"]
theorem nd_Recording_add : N_Recording_add.Nodup := by decide +kernel
theorem sc_Recording_add : FnScope N_Recording_add P_Recording_add (defScope s_Recording_add) := C8.fnScope_by (by decide +kernel)
def N_Recording_seek : List Str := ["self", "frame", "start", "state", "place"]
def P_Recording_seek : List Str := ["self", "frame"]
theorem nd_Recording_seek : N_Recording_seek.Nodup := by decide +kernel
theorem sc_Recording_seek : FnScope N_Recording_seek P_Recording_seek (defScope s_Recording_seek) := C8.fnScope_by (by decide +kernel)
def N_Recording_cut : List Str := ["self", "frame", "one"]
def P_Recording_cut : List Str := ["self", "frame"]
theorem nd_Recording_cut : N_Recording_cut.Nodup := by decide +kernel
theorem sc_Recording_cut : FnScope N_Recording_cut P_Recording_cut (defScope s_Recording_cut) := C8.fnScope_by (by decide +kernel)
def N_Recording_first_difference : List Str := ["self", "other", "place"]
def P_Recording_first_difference : List Str := ["self", "other"]
theorem nd_Recording_first_difference : N_Recording_first_difference.Nodup := by decide +kernel
theorem sc_Recording_first_difference : FnScope N_Recording_first_difference P_Recording_first_difference (defScope s_Recording_first_difference) := C8.fnScope_by (by decide +kernel)
def N_law_roll : List Str := ["dice", "many", "found"]
def P_law_roll : List Str := ["dice", "many"]
theorem nd_law_roll : N_law_roll.Nodup := by decide +kernel
theorem sc_law_roll : FnScope N_law_roll P_law_roll (defScope s_law_roll) := C8.fnScope_by (by decide +kernel)
def N_law_dice : List Str := ["cell"]
def P_law_dice : List Str := ["cell"]
theorem nd_law_dice : N_law_dice.Nodup := by decide +kernel
theorem sc_law_dice : FnScope N_law_dice P_law_dice (defScope s_law_dice) := C8.fnScope_by (by decide +kernel)
def N_law_rounds : List Str := ["script", "most", "cells", "cell"]
def P_law_rounds : List Str := ["script", "most"]
theorem nd_law_rounds : N_law_rounds.Nodup := by decide +kernel
theorem sc_law_rounds : FnScope N_law_rounds P_law_rounds (defScope s_law_rounds) := C8.fnScope_by (by decide +kernel)
def N_law_told : List Str := ["what"]
def P_law_told : List Str := ["what"]
theorem nd_law_told : N_law_told.Nodup := by decide +kernel
theorem sc_law_told : FnScope N_law_told P_law_told (defScope s_law_told) := C8.fnScope_by (by decide +kernel)
def N_packed_rows : List Str := ["rows", "found", "row"]
def P_packed_rows : List Str := ["rows"]
theorem nd_packed_rows : N_packed_rows.Nodup := by decide +kernel
theorem sc_packed_rows : FnScope N_packed_rows P_packed_rows (defScope s_packed_rows) := C8.fnScope_by (by decide +kernel)
def N_unpacked_rows : List Str := ["packed", "found", "place", "many", "row"]
def P_unpacked_rows : List Str := ["packed"]
theorem nd_unpacked_rows : N_unpacked_rows.Nodup := by decide +kernel
theorem sc_unpacked_rows : FnScope N_unpacked_rows P_unpacked_rows (defScope s_unpacked_rows) := C8.fnScope_by (by decide +kernel)
def N_law : List Str := ["script", "dice", "game", "each", "first", "other", "states", "rows", "step", "sort", "row", "frame", "due", "bent", "unlike", "packed", "bad", "k", "one", ".law"]
def P_law : List Str := ["script"]
theorem nd_law : N_law.Nodup := by decide +kernel
theorem sc_law : FnScope N_law P_law (defScope s_law) := C8.fnScope_by (by decide +kernel)
def m_Game_init : GS :=
  sSeq (sAttr ["Game"] "first" (gVar 1) (gVar 0))
    (sAttr ["Game"] "step" (gVar 2) (gVar 0))
def F_Game_init : Fn := fnG false 3 3 m_Game_init
def m_law_step : GS :=
  sRet (gTup [gBin gMod (gBin gAdd (gBin gAdd (gBin gMul (gBin gIx (gVar 0) (gC (.int 0))) (gC (.int 31))) (gBin gIx (gVar 1) (gC (.int 0)))) (gBin gMul (gC (.int 7)) (gBin gIx (gVar 1) (gC (.int 1))))) (gC (.int 1009)), gBin gAdd (gBin gIx (gVar 0) (gC (.int 1))) (gC (.int 1))])
def F_law_step : Fn := fnG true 2 2 m_law_step
def m_Game_played : GS :=
  sSeq (sAsg (gLst true [gUn (gAttr ["Game"] "first") (gVar 0)]) (tName 2))
    (sSeq (sFor 1000000 (gSrc srcOf (gVar 1)) (tName 3)
    (sExpr (gMb "list" pAppend (gVar 2) [gMethF ["Game"] [("_law_step", [], F_law_step)] "step" (gVar 0) [gBin gIx (gVar 2) (gUn gNeg (gC (.int 1))), gVar 3]])))
    (sRet (gVar 2)))
def F_Game_played : Fn := fnG true 2 4 m_Game_played
def m_Recording_init : GS :=
  sSeq (sIf (gBin gLt (gVar 2) (gC (.int 1)))
    (sRaise "PlayError")
    (sNil))
    (sSeq (sAttr ["Recording"] "game" (gVar 1) (gVar 0))
    (sSeq (sAttr ["Recording"] "each" (gVar 2) (gVar 0))
    (sSeq (sAttr ["Recording"] "rows" (gLst true []) (gVar 0))
    (sSeq (sAttr ["Recording"] "kept" (gDisp false [(gC (.int 0), gUn (gAttr ["Game"] "first") (gVar 1))]) (gVar 0))
    (sAttr ["Recording"] "last" (gUn (gAttr ["Game"] "first") (gVar 1)) (gVar 0))))))
def F_Recording_init : Fn := fnG false 3 3 m_Recording_init
def m_Recording_add : GS :=
  sSeq (sIf (gBin gGe (gCallP pLen [gUn (gAttr ["Recording"] "rows") (gVar 0)]) (gC (.int 100000)))
    (sRaise "PlayError")
    (sNil))
    (sSeq (sExpr (gMb "list" pAppend (gUn (gAttr ["Recording"] "rows") (gVar 0)) [gVar 1]))
    (sSeq (sAttr ["Recording"] "last" (gMethF ["Game"] [("_law_step", [], F_law_step)] "step" (gUn (gAttr ["Recording"] "game") (gVar 0)) [gUn (gAttr ["Recording"] "last") (gVar 0), gVar 1]) (gVar 0))
    (sSeq (sIf (gBin gEq (gBin gMod (gCallP pLen [gUn (gAttr ["Recording"] "rows") (gVar 0)]) (gUn (gAttr ["Recording"] "each") (gVar 0))) (gC (.int 0)))
    (sAsg (gUn (gAttr ["Recording"] "last") (gVar 0)) (tSub pSet (gUn (gAttr ["Recording"] "kept") (gVar 0)) (gCallP pLen [gUn (gAttr ["Recording"] "rows") (gVar 0)])))
    (sNil))
    (sRet (gUn (gAttr ["Recording"] "last") (gVar 0))))))
def F_Recording_add : Fn := fnG false 2 2 m_Recording_add
def m_Recording_seek : GS :=
  sSeq (sIf (gNot (gChain gLe gLe (gC (.int 0)) (gVar 1) (gCallP pLen [gUn (gAttr ["Recording"] "rows") (gVar 0)])))
    (sRaise "PlayError")
    (sNil))
    (sSeq (sAsg (gBin gMul (gBin gDiv (gVar 1) (gUn (gAttr ["Recording"] "each") (gVar 0))) (gUn (gAttr ["Recording"] "each") (gVar 0))) (tName 2))
    (sSeq (sAsg (gBin gIx (gUn (gAttr ["Recording"] "kept") (gVar 0)) (gVar 2)) (tName 3))
    (sSeq (sFor 1000000 (gSrcA rngOf2 [gVar 2, gVar 1]) (tName 4)
    (sAsg (gMethF ["Game"] [("_law_step", [], F_law_step)] "step" (gUn (gAttr ["Recording"] "game") (gVar 0)) [gVar 3, gBin gIx (gUn (gAttr ["Recording"] "rows") (gVar 0)) (gVar 4)]) (tName 3)))
    (sRet (gTup [gVar 3, gBin gSub (gVar 1) (gVar 2)])))))
def F_Recording_seek : Fn := fnG true 2 5 m_Recording_seek
def m_Recording_cut : GS :=
  sSeq (sAttr ["Recording"] "last" (gBin gIx (gMeth [("Recording", [], F_Recording_seek)] "seek" (gVar 0) [gVar 1]) (gC (.int 0))) (gVar 0))
    (sSeq (sAttr ["Recording"] "rows" (gSl true (gUn (gAttr ["Recording"] "rows") (gVar 0)) none (some (gVar 1))) (gVar 0))
    (sAttr ["Recording"] "kept" (gDc false 1000000 (gSrc srcOf (gUn (gAttr ["Recording"] "kept") (gVar 0))) (nName 2) (some (gBin gLe (gVar 2) (gVar 1))) (gVar 2) (gBin gIx (gUn (gAttr ["Recording"] "kept") (gVar 0)) (gVar 2)) [2]) (gVar 0)))
def F_Recording_cut : Fn := fnG false 2 3 m_Recording_cut
def m_Recording_first_difference : GS :=
  sSeq (sFor 1000000 (gSrcA rngOf1 [gCallP pMin [gCallP pLen [gUn (gAttr ["Recording"] "rows") (gVar 0)], gCallP pLen [gUn (gAttr ["Recording"] "rows") (gVar 1)]]]) (tName 2)
    (sIf (gBin gNe (gBin gIx (gUn (gAttr ["Recording"] "rows") (gVar 0)) (gVar 2)) (gBin gIx (gUn (gAttr ["Recording"] "rows") (gVar 1)) (gVar 2)))
    (sRet (gVar 2))
    (sNil)))
    (sRet (gIf (gBin gEq (gCallP pLen [gUn (gAttr ["Recording"] "rows") (gVar 0)]) (gCallP pLen [gUn (gAttr ["Recording"] "rows") (gVar 1)])) (gC .non) (gCallP pMin [gCallP pLen [gUn (gAttr ["Recording"] "rows") (gVar 0)], gCallP pLen [gUn (gAttr ["Recording"] "rows") (gVar 1)]])))
def F_Recording_first_difference : Fn := fnG true 2 3 m_Recording_first_difference
def m_law_roll (G_ : Fn) : GS :=
  sSeq (sIf (gOr (gBin gEq (gBin gIx (gVar 0) (gC (.int 2))) (gC (.int 2))) (gAnd (gBin gEq (gBin gIx (gVar 0) (gC (.int 2))) (gC (.int 1))) (gBin gGt (gBin gIx (gVar 0) (gC (.int 0))) (gC (.int 0)))))
    (sSeq (sAsg (gBin gMod (gCallP pInt [gBin gIx (gVar 0) (gC (.int 0))]) (gVar 1)) (tName 2))
    (sSeq (sAsg (gBin gDiv (gBin gIx (gVar 0) (gC (.int 0))) (gVar 1)) (tSub pSet (gVar 0) (gC (.int 0))))
    (sRet (gVar 2))))
    (sNil))
    (sSeq (sAsg (gC (.int 0)) (tSub pSet (gVar 0) (gC (.int 2))))
    (sSeq (sIf (gBin gGt (gVar 1) (gC (.int 100000000)))
    (sRet (gBin gMod (gCallP pInt [gBin gAdd (gBin gMul (gCall G_ [gVar 0, gBin gAdd (gBin gDiv (gVar 1) (gC (.int 100000000))) (gC (.int 1))] []) (gC (.int 100000000))) (gCall G_ [gVar 0, gC (.int 100000000)] [])]) (gVar 1)))
    (sNil))
    (sSeq (sAsg (gBin gMod (gCallP pInt [gBin gAdd (gBin gAdd (gBin gMul (gBin gIx (gVar 0) (gC (.int 0))) (gC (.int 48271))) (gBin gMul (gBin gIx (gVar 0) (gC (.int 1))) (gC (.int 69621)))) (gC (.int 11))]) (gC (.int 2147483647))) (tSub pSet (gVar 0) (gC (.int 0))))
    (sSeq (sAsg (gBin gAdd (gBin gIx (gVar 0) (gC (.int 1))) (gC (.int 1))) (tSub pSet (gVar 0) (gC (.int 1))))
    (sRet (gBin gMod (gCallP pInt [gBin gDiv (gBin gIx (gVar 0) (gC (.int 0))) (gC (.int 7))]) (gVar 1)))))))
def b_law_roll (G_ : Fn) : Fn := fnG true 2 3 (m_law_roll G_)
def F_law_roll : Fn := recN b_law_roll 4
def m_law_dice : GS :=
  sSeq (sIf (gChain gLt gLt (gBin gSub (gC (.int 0)) (gC (.int 10))) (gVar 0) (gC (.int 10)))
    (sRet (gLst true [gCallP pAbs [gVar 0], gC (.int 0), gC (.int 2)]))
    (sNil))
    (sRet (gLst true [gVar 0, gBin gAdd (gC (.int 1)) (gBin gMod (gCallP pInt [gVar 0]) (gC (.int 1009))), gCallP pInt [gBin gGe (gVar 0) (gBin gPow (gC (.int 10)) (gC (.int 18)))]]))
def F_law_dice : Fn := fnG false 1 1 m_law_dice
def m_law_rounds : GS :=
  sSeq (sAsg (gSl false (gVar 0) none (some (gVar 1))) (tName 2))
    (sSeq (sIf (gBin gEq (gVar 2) (gLst false []))
    (sAsg (gLst false [gC (.int 0)]) (tName 2))
    (sNil))
    (sRet (gLc false 1000000 (gSrc srcOf (gVar 2)) (nName 3) none (gCall F_law_dice [gVar 3] []) [3])))
def F_law_rounds : Fn := fnG false 2 4 m_law_rounds
def m_packed_rows : GS :=
  sSeq (sAsg (gLst true []) (tName 1))
    (sSeq (sFor 1000000 (gSrc srcOf (gVar 0)) (tName 2)
    (sIf (gAnd (gBin gNe (gVar 1) (gLst false [])) (gBin gEq (gBin gIx (gBin gIx (gVar 1) (gUn gNeg (gC (.int 1)))) (gC (.int 1))) (gVar 2)))
    (sAsg (gTup [gBin gAdd (gBin gIx (gBin gIx (gVar 1) (gUn gNeg (gC (.int 1)))) (gC (.int 0))) (gC (.int 1)), gVar 2]) (tSub pSet (gVar 1) (gUn gNeg (gC (.int 1)))))
    (sExpr (gMb "list" pAppend (gVar 1) [gTup [gC (.int 1), gVar 2]]))))
    (sRet (gCallP pTuple [gVar 1])))
def F_packed_rows : Fn := fnG true 1 3 m_packed_rows
def m_unpacked_rows : GS :=
  sSeq (sAsg (gLst true []) (tName 1))
    (sSeq (sFor 1000000 (gSrcA enumOf [gVar 0]) (tTupl 2 (tsCons (tName 2) (tsCons (tTupl 2 (tsCons (tName 3) (tsCons (tName 4) (tsNil)))) (tsNil))))
    (sSeq (sIf (gOr (gBin gLt (gVar 3) (gC (.int 1))) (gOr (gAnd (gBin gGt (gVar 2) (gC (.int 0))) (gBin gEq (gBin gIx (gBin gIx (gVar 0) (gBin gSub (gVar 2) (gC (.int 1)))) (gC (.int 1))) (gVar 4))) (gBin gGt (gBin gAdd (gCallP pLen [gVar 1]) (gVar 3)) (gC (.int 100000)))))
    (sRaise "PlayError")
    (sNil))
    (sAug 1 gIAdd (gBin gMul (gLst false [gVar 4]) (gVar 3)))))
    (sRet (gVar 1)))
def F_unpacked_rows : Fn := fnG true 1 5 m_unpacked_rows
def m_law : GS :=
  sSeq (sFor 1000000 (gSrc srcOf (gCall F_law_rounds [gVar 0, gC (.int 1)] [])) (tName 1)
    (sSeq (sPar [2, 3] [gMake true "Game" F_Game_init [gTup [gCall F_law_roll [gVar 1, gC (.int 50)] [], gC (.int 0)], gC (.fn "_law_step")] [], gBin gAdd (gC (.int 1)) (gCall F_law_roll [gVar 1, gC (.int 12)] [])])
    (sSeq (sAsg (gTup [gMake false "Recording" F_Recording_init [gVar 2, gVar 3] [], gMake false "Recording" F_Recording_init [gVar 2, gVar 3] [], gLst false [gUn (gAttr ["Game"] "first") (gVar 2)], gLst false []]) (tTupl 4 (tsCons (tName 4) (tsCons (tName 5) (tsCons (tName 6) (tsCons (tName 7) (tsNil)))))))
    (sSeq (sFor 1000000 (gSrcA rngOf1 [gCall F_law_roll [gVar 1, gC (.int 91)] []]) (tName 8)
    (sSeq (sAsg (gCall F_law_roll [gVar 1, gC (.int 12)] []) (tName 9))
    (sSeq (sIf (gBin gGt (gVar 9) (gC (.int 0)))
    (sSeq (sAsg (gTup [gCall F_law_roll [gVar 1, gC (.int 3)] [], gCall F_law_roll [gVar 1, gC (.int 2)] []]) (tName 10))
    (sSeq (sAsg (gTup [gBin gAdd (gVar 7) (gLst false [gVar 10]), gBin gAdd (gVar 6) (gLst false [gCall F_law_step [gBin gIx (gVar 6) (gBin gSub (gCallP pLen [gVar 6]) (gC (.int 1))), gVar 10] []])]) (tTupl 2 (tsCons (tName 7) (tsCons (tName 6) (tsNil)))))
    (sIf (gBin gNe (gMeth [("Recording", [], F_Recording_add)] "add" (gVar 4) [gVar 10]) (gBin gIx (gVar 6) (gBin gSub (gCallP pLen [gVar 6]) (gC (.int 1)))))
    (sRet (gC (.bl false)))
    (sNil))))
    (sSeq (sAsg (gCall F_law_roll [gVar 1, gBin gAdd (gCallP pLen [gVar 7]) (gC (.int 2))] []) (tName 11))
    (sSeq (sIf (gBin gNe (gBin gEq (gTold ["PlayError"] "PlayError" (gMeth [("Recording", [], F_Recording_cut)] "cut" (gVar 4) [gVar 11])) (gC (.str "PlayError"))) (gBin gGt (gVar 11) (gCallP pLen [gVar 7])))
    (sRet (gC (.bl false)))
    (sNil))
    (sAsg (gIf (gBin gLe (gVar 11) (gCallP pLen [gVar 7])) (gTup [gSl false (gVar 7) none (some (gVar 11)), gSl false (gVar 6) none (some (gBin gAdd (gVar 11) (gC (.int 1))))]) (gTup [gVar 7, gVar 6])) (tTupl 2 (tsCons (tName 7) (tsCons (tName 6) (tsNil))))))))
    (sSeq (sAsg (gCall F_law_roll [gVar 1, gBin gAdd (gCallP pLen [gVar 7]) (gC (.int 2))] []) (tName 11))
    (sSeq (sAsg (gIf (gBin gLe (gVar 11) (gCallP pLen [gVar 7])) (gTup [gBin gIx (gVar 6) (gVar 11), gBin gMod (gVar 11) (gVar 3)]) (gC (.str "PlayError"))) (tName 12))
    (sIf (gOr (gBin gNe (gTold ["PlayError"] "PlayError" (gMeth [("Recording", [], F_Recording_seek)] "seek" (gVar 4) [gVar 11])) (gVar 12)) (gOr (gBin gNe (gUn (gAttr ["Recording"] "rows") (gVar 4)) (gVar 7)) (gBin gNe (gCallP (pSorted false) [gUn (gAttr ["Recording"] "kept") (gVar 4)]) (gListRg false [gC (.int 0), gBin gAdd (gCallP pLen [gVar 7]) (gC (.int 1)), gVar 3]))))
    (sRet (gC (.bl false)))
    (sNil)))))))
    (sSeq (sIf (gBin gNe (gMeth [("Game", [], F_Game_played)] "played" (gVar 2) [gVar 7]) (gVar 6))
    (sRet (gC (.bl false)))
    (sNil))
    (sSeq (sAsg (gSl false (gLc true 1000000 (gSrc srcOf (gVar 7)) (nName 10) none (gIf (gBin gGt (gCall F_law_roll [gVar 1, gC (.int 8)] []) (gC (.int 0))) (gVar 10) (gTup [gC (.int 9), gC (.int 9)])) [10]) none (some (gCall F_law_roll [gVar 1, gBin gAdd (gCallP pLen [gVar 7]) (gC (.int 2))] []))) (tName 13))
    (sSeq (sFor 1000000 (gSrc srcOf (gVar 13)) (tName 10)
    (sExpr (gMeth [("Recording", [], F_Recording_add)] "add" (gVar 5) [gVar 10])))
    (sSeq (sAsg (gLc true 1000000 (gSrcA rngOf1 [gCallP pMin [gCallP pLen [gVar 7], gCallP pLen [gVar 13]]]) (nName 17) (some (gBin gNe (gBin gIx (gVar 7) (gVar 17)) (gBin gIx (gVar 13) (gVar 17)))) (gVar 17) [17]) (tName 14))
    (sSeq (sAsg (gIf (gBin gNe (gVar 14) (gLst false [])) (gBin gIx (gVar 14) (gC (.int 0))) (gIf (gBin gEq (gCallP pLen [gVar 7]) (gCallP pLen [gVar 13])) (gC .non) (gCallP pMin [gCallP pLen [gVar 7], gCallP pLen [gVar 13]]))) (tName 12))
    (sSeq (sIf (gOr (gBin gNe (gMeth [("Recording", [], F_Recording_first_difference)] "first_difference" (gVar 4) [gVar 5]) (gVar 12)) (gBin gNe (gMeth [("Recording", [], F_Recording_first_difference)] "first_difference" (gVar 5) [gVar 4]) (gVar 12)))
    (sRet (gC (.bl false)))
    (sNil))
    (sSeq (sAsg (gCall F_packed_rows [gVar 7] []) (tName 15))
    (sIf (gOr (gBin gNe (gCall F_unpacked_rows [gVar 15] []) (gVar 7)) (gOr (gBin gNe (gCallP pSum [gLc true 1000000 (gSrc srcOf (gVar 15)) (nName 18) none (gBin gIx (gVar 18) (gC (.int 0))) [18]]) (gCallP pLen [gVar 7])) (gBin gNe (gLc true 1000000 (gSrcA rngOf2 [gC (.int 1), gCallP pLen [gVar 15]]) (nName 17) (some (gBin gEq (gBin gIx (gBin gIx (gVar 15) (gVar 17)) (gC (.int 1))) (gBin gIx (gBin gIx (gVar 15) (gBin gSub (gVar 17) (gC (.int 1)))) (gC (.int 1))))) (gVar 17) [17]) (gLst false []))))
    (sRet (gC (.bl false)))
    (sNil)))))))))))))
    (sSeq (sAsg (gLst false [gTup [gTup [gC (.int 0), gTup [gC (.int 1), gC (.int 1)]]], gTup [gTup [gC (.int 1), gTup [gC (.int 1), gC (.int 1)]], gTup [gC (.int 2), gTup [gC (.int 1), gC (.int 1)]]], gTup [gTup [gC (.int 100001), gTup [gC (.int 1), gC (.int 1)]]]]) (tName 16))
    (sSeq (sIf (gOr (gBin gNe (gLc true 1000000 (gSrc srcOf (gVar 16)) (nName 18) (some (gBin gNe (gTold ["PlayError"] "PlayError" (gCall F_unpacked_rows [gVar 18] [])) (gC (.str "PlayError")))) (gVar 18) [18]) (gLst false [])) (gBin gNe (gCall F_packed_rows [gLst false []] []) (gTup [])))
    (sRet (gC (.bl false)))
    (sNil))
    (sRet (gAnd (gBin gEq (gTold ["PlayError"] "PlayError" (gMake false "Recording" F_Recording_init [gMake true "Game" F_Game_init [gC (.int 0), gC (.fn "_law_step")] [], gC (.int 0)] [])) (gC (.str "PlayError"))) (gAnd (gBin gEq (gTold ["PlayError"] "PlayError" (gMeth [("Recording", [], F_Recording_seek)] "seek" (gMake false "Recording" F_Recording_init [gMake true "Game" F_Game_init [gC (.int 0), gC (.fn "_law_step")] []] [.int (30)]) [gUn gNeg (gC (.int 1))])) (gC (.str "PlayError"))) (gBin gEq (gUn (gAttr ["Recording"] "each") (gMake false "Recording" F_Recording_init [gMake true "Game" F_Game_init [gC (.int 0), gC (.fn "_law_step")] []] [.int (30)])) (gC (.int 30))))))))
def F_law : Fn := fnG false 1 20 m_law
def fa : List He.Fa := [.glo "law",
  .glo "Game",
  .cls "Game",
  .noat "Game" "first",
  .noat "Game" "step",
  .glo "PlayError",
  .exc "PlayError",
  .glo "Recording",
  .cls "Recording",
  .noat "Recording" "game",
  .noat "Recording" "each",
  .noat "Recording" "rows",
  .noat "Recording" "kept",
  .noat "Recording" "last",
  .free "len",
  .int "MOST_FRAMES" (100000),
  .free "range",
  .free "min",
  .free "int",
  .free "abs",
  .free "tuple",
  .free "enumerate",
  .glo "_law_step",
  .exm "PlayError" "PlayError" true,
  .free "sorted",
  .free "list",
  .free "sum",
  .meth "Recording" "seek",
  .glo "_law_dice",
  .glo "_law_rounds",
  .mkr "Game",
  .glo "_law_roll",
  .mkr "Recording",
  .meth "Recording" "add",
  .meth "Recording" "cut",
  .meth "Game" "played",
  .meth "Recording" "first_difference",
  .glo "packed_rows",
  .glo "unpacked_rows",
  .glo "_law_told"]
theorem fm {f : He.Fa} (i : Nat) (h : fa[i]? = some f) : f ∈ fa := List.mem_of_getElem? h
theorem dm {d : He.DefD} (i : Nat) (h : fn[i]? = some d) : d ∈ fn := List.mem_of_getElem? h
/-- the code objects of the defs with lambdas, their tables -/
def codsOf (K : PySem.W.Frag) : List (Str × Str × Addr × Addr) := [(".law", "law.<locals>.", (He.cT K ("law", none)).1, (He.cT K ("law", none)).2)]
def tabsOf (K : PySem.W.Frag) : List (Addr × Str) := [((He.cT K ("law", none)).2, "law.<locals>.<lambda>")]
theorem tabs_cT {K : PySem.W.Frag} {p : Addr × Str} (h : p ∈ tabsOf K) : ∃ q ∈ ([("law", none)] : List He.Defn), p.1 = (He.cT K q).2 := by
  simp only [tabsOf, List.mem_cons, List.not_mem_nil, or_false] at h
  rcases h with rfl
  exact ⟨_, .head _, rfl⟩
theorem cods_cT {K : PySem.W.Frag} {e : Str × Str × Addr × Addr} (h : e ∈ codsOf K) : (e.2.2.1, e.2.2.2) ∈ ([("law", none)] : List He.Defn).map (He.cT K) := by
  simp only [codsOf, List.mem_cons, List.not_mem_nil, or_false] at h
  rcases h with rfl
  exact .head _
/-- what is known of the tables -/
structure Tbs (g : G) : Prop where
  cods : g.cods = codsOf g.K
  tb : TbOk g (tabsOf g.K)
  at_ : ∀ e ∈ g.cods, TabB g.base g.mg e.2.2.1 e.2.2.2
theorem told_law {g : G} (T : Top g fa fn) (TB : Tbs g) {sc : Scope} {L k : Nat} {N : List Str} {params : Arguments} {body : Expr} {scope : Scope} {p lpos pos : Pos} {mb : GE} {yes : List Str} (hy : ∀ c ∈ yes, ExmOk g "PlayError" c true) (hbody : Real g N scope k body mb) (hL : k + 2 ≤ L) (hx : sc.names.lookup ("_law_told" : Str) = some .globalImplicit) (hN : (N.getLast? == some (".law" : Str) && !lamLike sc) = true) (LS : LamS sc scope)
    (hdef : ∀ env : Env, defaultsOf params env = ([], [])) (hbind : ∀ (q : Str) (cl : List (Str × Addr)) (pm cv ctv : Value), bindArgs (PySem.W.kla_fn "<lambda>" q params body scope cl pm cv ctv) ⟨[], []⟩ = pure []) :
    Real g N sc L (.Call (.Name "_law_told" p) [.Lambda params body scope lpos] [] pos) (gTold yes "PlayError" mb) := by
  obtain ⟨fd, F⟩ := T.defs d_law_told (dm 11 rfl)
  have hb : L2.Binds g.K fd ["what"] [] := F.bindsN fun _ _ _ _ _ _ us hl => match us, hl with | [_], _ => rfl
  obtain ⟨oc, od, dV, kV, doc, pm, an, cdv, ct, osl, rfl, lk, hc, _, _⟩ := F.ex
  rw [Bool.and_eq_true, beq_iff_eq, Bool.not_eq_true'] at hN
  have hmem : ((".law" : Str), ("law.<locals>." : Str), (He.cT g.K ("law", none)).1, (He.cT g.K ("law", none)).2) ∈ g.cods := by rw [TB.cods]; exact .head _
  exact re_told (T := tabsOf g.K) (q := "law.<locals>.") hx (T.glo (fm 39 rfl)) F.kp lk hc hb sc_law_told rfl (vis_ok rfl) rfl (T.glo (fm 5 rfl)) (fun _ => rfl) hy (List.mem_of_getLast? hN.1) hmem hN.2 (TB.at_ _ hmem) TB.tb (.head _) (fun p hp e => by
    rcases List.mem_cons.mp hp with rfl | hp
    · rfl
    · cases hp) hL LS hdef hbind hbody
theorem r_Game_init {g : G} (T : Top g fa fn) (TB : Tbs g) : RealSs g N_Game_init (defScope s_Game_init) 0 (defBody s_Game_init) m_Game_init := by
  exact rs_cons (rs_attr (xv 1) (xv 0) (fc_cons (T.clsF (fm 1 rfl) (fm 2 rfl) (fm 3 rfl)) (fc_nil)) (fun _ => rfl))
    (rs_one (rs_attr (xv 2) (xv 0) (fc_cons (T.clsF (fm 1 rfl) (fm 2 rfl) (fm 4 rfl)) (fc_nil)) (fun _ => rfl)))
theorem fr_Game_init {g : G} (T : Top g fa fn) (TB : Tbs g) : ∃ fd, FnR g 1 (He.fAd g.K d_Game_init.at_) fd P_Game_init F_Game_init ∧ FunD g.K d_Game_init.name d_Game_init.qual d_Game_init.params d_Game_init.body d_Game_init.scope (d_Game_init.dvs g.K) (d_Game_init.kws g.K) (He.fAd g.K d_Game_init.at_) fd := by
  obtain ⟨fd, F⟩ := T.defs d_Game_init (dm 0 rfl)
  exact ⟨fd, fnR_top (N := N_Game_init) (ps := P_Game_init) F sc_Game_init (r_Game_init T TB) (fun e he hn => by rw [TB.cods] at he; exact (List.mem_cons.mp he).elim (fun z => by subst z; exact absurd (show ((".law" : Str) ∈ N_Game_init) from hn) (by decide +kernel)) fun z => nomatch z), F⟩
theorem mk_Game_2 {g : G} (T : Top g fa fn) (TB : Tbs g) : MakeOk g 1 "Game" [] F_Game_init := by
  obtain ⟨fd, h, F⟩ := fr_Game_init T TB
  exact T.make (fm 1 rfl) (fm 30 rfl) h (bindD_none F fun _ _ _ _ _ _ us hl => match us, hl with | [_, _, _], _ => rfl)
theorem r_law_step {g : G} (T : Top g fa fn) (TB : Tbs g) : RealSs g N_law_step (defScope s_law_step) 0 (defBody s_law_step) m_law_step := by
  exact rs_one (rs_ret (re_tup (ra_cons (re_op (fun _ _ C => o_mod C) (re_op (fun _ _ C => o_add C) (re_op (fun _ _ C => o_add C) (re_op (fun _ _ C => o_mul C) (re_ix (xv 0) (re_int) (fun _ _ => rfl)) (re_int)) (re_ix (xv 1) (re_int) (fun _ _ => rfl))) (re_op (fun _ _ C => o_mul C) (re_int) (re_ix (xv 1) (re_int) (fun _ _ => rfl)))) (re_int)) (ra_cons (re_op (fun _ _ C => o_add C) (re_ix (xv 0) (re_int) (fun _ _ => rfl)) (re_int)) (ra_nil) (fun _ => rfl)) (fun _ => rfl))))
theorem fr_law_step {g : G} (T : Top g fa fn) (TB : Tbs g) : ∃ fd, FnR g 1 (He.fAd g.K d_law_step.at_) fd P_law_step F_law_step ∧ FunD g.K d_law_step.name d_law_step.qual d_law_step.params d_law_step.body d_law_step.scope (d_law_step.dvs g.K) (d_law_step.kws g.K) (He.fAd g.K d_law_step.at_) fd := by
  obtain ⟨fd, F⟩ := T.defs d_law_step (dm 1 rfl)
  exact ⟨fd, fnR_top (N := N_law_step) (ps := P_law_step) F sc_law_step (r_law_step T TB) (fun e he hn => by rw [TB.cods] at he; exact (List.mem_cons.mp he).elim (fun z => by subst z; exact absurd (show ((".law" : Str) ∈ N_law_step) from hn) (by decide +kernel)) fun z => nomatch z), F⟩
theorem c_law_step_2 {g : G} (T : Top g fa fn) (TB : Tbs g) : CallOk g 1 "_law_step" [] F_law_step := by
  obtain ⟨fd, h, F⟩ := fr_law_step T TB
  exact T.call (fm 22 rfl) h (bindD_none F fun _ _ _ _ _ _ us hl => match us, hl with | [_, _], _ => rfl)
theorem r_Game_played {g : G} (T : Top g fa fn) (TB : Tbs g) : RealSs g N_Game_played (defScope s_Game_played) 1 (defBody s_Game_played) m_Game_played := by
  exact rs_cons (rs_asg (re_lst true (ra_cons (re_attr (xv 0) (fc_cons (T.clsF (fm 1 rfl) (fm 2 rfl) (fm 3 rfl)) (fc_nil)) (fun _ => rfl)) (ra_nil) (fun _ => rfl))) (xt 2 nd_Game_played) (fun env he => swap_no env he (by rfl)) (fun env he => swap_none env he (by rfl)) (fun _ => rfl))
    (rs_cons (rs_for (ri_src (xv 1)) (xt 3 nd_Game_played)
    (rs_one (rs_expr (re_bm PySem.F.plainAttrs_list PySem.F.slot_list_append PySem.F.type_list_append (fun _ _ C => m_append C) (xv 2) (ra_cons (re_methF (k := 1) (xv 0) (fc_cons (T.clsF (fm 1 rfl) (fm 2 rfl) (fm 4 rfl)) (fc_nil)) (ft_cons (((c_law_step_2 T TB)).up (by decide)) (ft_nil)) (by decide) (ra_cons (re_ix (xv 2) (re_un (fun _ _ C => o_neg C) (re_int)) (fun _ _ => rfl)) (ra_cons (xv 3) (ra_nil) (fun _ => rfl)) (fun _ => rfl)) (fun _ => rfl) (fun _ => rfl) (fun _ => rfl)) (ra_nil) (fun _ => rfl)) (fun _ => rfl) (fun _ => rfl) rfl (fun _ => rfl) (fun _ => rfl)) (fun _ => rfl))) (fun _ _ => rfl))
    (rs_one (rs_ret (xv 2))))
theorem fr_Game_played {g : G} (T : Top g fa fn) (TB : Tbs g) : ∃ fd, FnR g 2 (He.fAd g.K d_Game_played.at_) fd P_Game_played F_Game_played ∧ FunD g.K d_Game_played.name d_Game_played.qual d_Game_played.params d_Game_played.body d_Game_played.scope (d_Game_played.dvs g.K) (d_Game_played.kws g.K) (He.fAd g.K d_Game_played.at_) fd := by
  obtain ⟨fd, F⟩ := T.defs d_Game_played (dm 2 rfl)
  exact ⟨fd, fnR_top (N := N_Game_played) (ps := P_Game_played) F sc_Game_played (r_Game_played T TB) (fun e he hn => by rw [TB.cods] at he; exact (List.mem_cons.mp he).elim (fun z => by subst z; exact absurd (show ((".law" : Str) ∈ N_Game_played) from hn) (by decide +kernel)) fun z => nomatch z), F⟩
theorem c_Game_played_2 {g : G} (T : Top g fa fn) (TB : Tbs g) : MethOk g 2 "Game" "played" [] F_Game_played := by
  obtain ⟨fd, h, F⟩ := fr_Game_played T TB
  exact T.meth (fm 1 rfl) (fm 2 rfl) (fm 35 rfl) h (bindD_none F fun _ _ _ _ _ _ us hl => match us, hl with | [_, _], _ => rfl)
theorem r_Recording_init {g : G} (T : Top g fa fn) (TB : Tbs g) : RealSs g N_Recording_init (defScope s_Recording_init) 0 (defBody s_Recording_init) m_Recording_init := by
  exact rs_cons (rs_if (rt_cmp (fun _ _ C => o_lt C) (xv 2) (re_int) rfl)
    (rs_one (rs_raise (T.exc (fm 5 rfl) (fm 6 rfl)) rfl))
    (rs_nil))
    (rs_cons (rs_attr (xv 1) (xv 0) (fc_cons (T.clsF (fm 7 rfl) (fm 8 rfl) (fm 9 rfl)) (fc_nil)) (fun _ => rfl))
    (rs_cons (rs_attr (xv 2) (xv 0) (fc_cons (T.clsF (fm 7 rfl) (fm 8 rfl) (fm 10 rfl)) (fc_nil)) (fun _ => rfl))
    (rs_cons (rs_attr (re_lst true (ra_nil)) (xv 0) (fc_cons (T.clsF (fm 7 rfl) (fm 8 rfl) (fm 11 rfl)) (fc_nil)) (fun _ => rfl))
    (rs_cons (rs_attr (re_disp (.cons (re_int) (re_attr (xv 1) (fc_cons (T.clsF (fm 1 rfl) (fm 2 rfl) (fm 3 rfl)) (fc_nil)) (fun _ => rfl)) (.nil)) rfl rfl (by simp) (by decide) (by decide)) (xv 0) (fc_cons (T.clsF (fm 7 rfl) (fm 8 rfl) (fm 12 rfl)) (fc_nil)) (fun _ => rfl))
    (rs_one (rs_attr (re_attr (xv 1) (fc_cons (T.clsF (fm 1 rfl) (fm 2 rfl) (fm 3 rfl)) (fc_nil)) (fun _ => rfl)) (xv 0) (fc_cons (T.clsF (fm 7 rfl) (fm 8 rfl) (fm 13 rfl)) (fc_nil)) (fun _ => rfl)))))))
theorem fr_Recording_init {g : G} (T : Top g fa fn) (TB : Tbs g) : ∃ fd, FnR g 1 (He.fAd g.K d_Recording_init.at_) fd P_Recording_init F_Recording_init ∧ FunD g.K d_Recording_init.name d_Recording_init.qual d_Recording_init.params d_Recording_init.body d_Recording_init.scope (d_Recording_init.dvs g.K) (d_Recording_init.kws g.K) (He.fAd g.K d_Recording_init.at_) fd := by
  obtain ⟨fd, F⟩ := T.defs d_Recording_init (dm 3 rfl)
  exact ⟨fd, fnR_top (N := N_Recording_init) (ps := P_Recording_init) F sc_Recording_init (r_Recording_init T TB) (fun e he hn => by rw [TB.cods] at he; exact (List.mem_cons.mp he).elim (fun z => by subst z; exact absurd (show ((".law" : Str) ∈ N_Recording_init) from hn) (by decide +kernel)) fun z => nomatch z), F⟩
theorem mk_Recording_2 {g : G} (T : Top g fa fn) (TB : Tbs g) : MakeOk g 1 "Recording" [] F_Recording_init := by
  obtain ⟨fd, h, F⟩ := fr_Recording_init T TB
  exact T.make (fm 7 rfl) (fm 32 rfl) h (bindD_dfl (dds := []) F 3 1 (by simp [He.DefD.dvs, d_Recording_init]) rfl (fun _ _ _ _ _ _ _ us its hl hi => match us, its, hl, hi with | [_, _, _], [_], _, _ => ⟨_, rfl, rfl⟩) (fun H μ => by show RepL g H μ [] []; simp [RepL, Rep]))
theorem mk_Recording_1 {g : G} (T : Top g fa fn) (TB : Tbs g) : MakeOk g 1 "Recording" [.int (30)] F_Recording_init := by
  obtain ⟨fd, h, F⟩ := fr_Recording_init T TB
  exact T.make (fm 7 rfl) (fm 32 rfl) h (bindD_dfl (dds := [.int (30)]) F 2 0 (by simp [He.DefD.dvs, d_Recording_init]) rfl (fun _ _ _ _ _ _ _ us its hl hi => match us, its, hl, hi with | [_, _], [_], _, _ => ⟨_, rfl, rfl⟩) (fun H μ => by show RepL g H μ [.int (30)] [V.int (30)]; simp [RepL, Rep]))
theorem r_Recording_add {g : G} (T : Top g fa fn) (TB : Tbs g) : RealSs g N_Recording_add (defScope s_Recording_add) 1 (defBody s_Recording_add) m_Recording_add := by
  exact rs_cons (rs_if (rt_cmp (fun _ _ C => o_ge C) (re_callB (fun _ _ C => c_len C) rfl (T.free (fm 14 rfl)) rfl (ra_cons (re_attr (xv 0) (fc_cons (T.clsF (fm 7 rfl) (fm 8 rfl) (fm 11 rfl)) (fc_nil)) (fun _ => rfl)) (ra_nil) (fun _ => rfl)) (fun _ => rfl) (fun _ => rfl)) (re_gint T (fm 15 rfl) rfl) rfl)
    (rs_one (rs_raise (T.exc (fm 5 rfl) (fm 6 rfl)) rfl))
    (rs_nil))
    (rs_cons (rs_expr (re_bm PySem.F.plainAttrs_list PySem.F.slot_list_append PySem.F.type_list_append (fun _ _ C => m_append C) (re_attr (xv 0) (fc_cons (T.clsF (fm 7 rfl) (fm 8 rfl) (fm 11 rfl)) (fc_nil)) (fun _ => rfl)) (ra_cons (xv 1) (ra_nil) (fun _ => rfl)) (fun _ => rfl) (fun _ => rfl) rfl (fun _ => rfl) (fun _ => rfl)) (fun _ => rfl))
    (rs_cons (rs_attr (re_methF (k := 1) (re_attr (xv 0) (fc_cons (T.clsF (fm 7 rfl) (fm 8 rfl) (fm 9 rfl)) (fc_nil)) (fun _ => rfl)) (fc_cons (T.clsF (fm 1 rfl) (fm 2 rfl) (fm 4 rfl)) (fc_nil)) (ft_cons (((c_law_step_2 T TB)).up (by decide)) (ft_nil)) (by decide) (ra_cons (re_attr (xv 0) (fc_cons (T.clsF (fm 7 rfl) (fm 8 rfl) (fm 13 rfl)) (fc_nil)) (fun _ => rfl)) (ra_cons (xv 1) (ra_nil) (fun _ => rfl)) (fun _ => rfl)) (fun _ => rfl) (fun _ => rfl) (fun _ => rfl)) (xv 0) (fc_cons (T.clsF (fm 7 rfl) (fm 8 rfl) (fm 13 rfl)) (fc_nil)) (fun _ => rfl))
    (rs_cons (rs_if (rt_cmp (fun _ _ C => o_eq C) (re_op (fun _ _ C => o_mod C) (re_callB (fun _ _ C => c_len C) rfl (T.free (fm 14 rfl)) rfl (ra_cons (re_attr (xv 0) (fc_cons (T.clsF (fm 7 rfl) (fm 8 rfl) (fm 11 rfl)) (fc_nil)) (fun _ => rfl)) (ra_nil) (fun _ => rfl)) (fun _ => rfl) (fun _ => rfl)) (re_attr (xv 0) (fc_cons (T.clsF (fm 7 rfl) (fm 8 rfl) (fm 10 rfl)) (fc_nil)) (fun _ => rfl))) (re_int) rfl)
    (rs_one (rs_asg (re_attr (xv 0) (fc_cons (T.clsF (fm 7 rfl) (fm 8 rfl) (fm 13 rfl)) (fc_nil)) (fun _ => rfl)) (rg_sub (re_attr (xv 0) (fc_cons (T.clsF (fm 7 rfl) (fm 8 rfl) (fm 12 rfl)) (fc_nil)) (fun _ => rfl)) (re_callB (fun _ _ C => c_len C) rfl (T.free (fm 14 rfl)) rfl (ra_cons (re_attr (xv 0) (fc_cons (T.clsF (fm 7 rfl) (fm 8 rfl) (fm 11 rfl)) (fc_nil)) (fun _ => rfl)) (ra_nil) (fun _ => rfl)) (fun _ => rfl) (fun _ => rfl)) (fun _ _ => rfl)) (fun env he => swap_no env he (by rfl)) (fun env he => swap_none env he (by rfl)) (fun _ => rfl)))
    (rs_nil))
    (rs_one (rs_ret (re_attr (xv 0) (fc_cons (T.clsF (fm 7 rfl) (fm 8 rfl) (fm 13 rfl)) (fc_nil)) (fun _ => rfl)))))))
theorem fr_Recording_add {g : G} (T : Top g fa fn) (TB : Tbs g) : ∃ fd, FnR g 2 (He.fAd g.K d_Recording_add.at_) fd P_Recording_add F_Recording_add ∧ FunD g.K d_Recording_add.name d_Recording_add.qual d_Recording_add.params d_Recording_add.body d_Recording_add.scope (d_Recording_add.dvs g.K) (d_Recording_add.kws g.K) (He.fAd g.K d_Recording_add.at_) fd := by
  obtain ⟨fd, F⟩ := T.defs d_Recording_add (dm 4 rfl)
  exact ⟨fd, fnR_top (N := N_Recording_add) (ps := P_Recording_add) F sc_Recording_add (r_Recording_add T TB) (fun e he hn => by rw [TB.cods] at he; exact (List.mem_cons.mp he).elim (fun z => by subst z; exact absurd (show ((".law" : Str) ∈ N_Recording_add) from hn) (by decide +kernel)) fun z => nomatch z), F⟩
theorem c_Recording_add_2 {g : G} (T : Top g fa fn) (TB : Tbs g) : MethOk g 2 "Recording" "add" [] F_Recording_add := by
  obtain ⟨fd, h, F⟩ := fr_Recording_add T TB
  exact T.meth (fm 7 rfl) (fm 8 rfl) (fm 33 rfl) h (bindD_none F fun _ _ _ _ _ _ us hl => match us, hl with | [_, _], _ => rfl)
theorem r_Recording_seek {g : G} (T : Top g fa fn) (TB : Tbs g) : RealSs g N_Recording_seek (defScope s_Recording_seek) 1 (defBody s_Recording_seek) m_Recording_seek := by
  exact rs_cons (rs_if (rt_not (rt_chain (fun _ _ C => o_le C) (fun _ _ C => o_le C) (re_int) (xv 1) (re_callB (fun _ _ C => c_len C) rfl (T.free (fm 14 rfl)) rfl (ra_cons (re_attr (xv 0) (fc_cons (T.clsF (fm 7 rfl) (fm 8 rfl) (fm 11 rfl)) (fc_nil)) (fun _ => rfl)) (ra_nil) (fun _ => rfl)) (fun _ => rfl) (fun _ => rfl)) rfl))
    (rs_one (rs_raise (T.exc (fm 5 rfl) (fm 6 rfl)) rfl))
    (rs_nil))
    (rs_cons (rs_asg (re_op (fun _ _ C => o_mul C) (re_op (fun _ _ C => o_div C) (xv 1) (re_attr (xv 0) (fc_cons (T.clsF (fm 7 rfl) (fm 8 rfl) (fm 10 rfl)) (fc_nil)) (fun _ => rfl))) (re_attr (xv 0) (fc_cons (T.clsF (fm 7 rfl) (fm 8 rfl) (fm 10 rfl)) (fc_nil)) (fun _ => rfl))) (xt 2 nd_Recording_seek) (fun env he => swap_no env he (by rfl)) (fun env he => swap_none env he (by rfl)) (fun _ => rfl))
    (rs_cons (rs_asg (re_ix (re_attr (xv 0) (fc_cons (T.clsF (fm 7 rfl) (fm 8 rfl) (fm 12 rfl)) (fc_nil)) (fun _ => rfl)) (xv 2) (fun _ _ => rfl)) (xt 3 nd_Recording_seek) (fun env he => swap_no env he (by rfl)) (fun env he => swap_none env he (by rfl)) (fun _ => rfl))
    (rs_cons (rs_for (ri_range2 (ra_cons (xv 2) (ra_cons (xv 1) (ra_nil) (fun _ => rfl)) (fun _ => rfl)) rfl (T.free (fm 16 rfl)) (fun _ => rfl) (fun _ => rfl)) (xt 4 nd_Recording_seek)
    (rs_one (rs_asg (re_methF (k := 1) (re_attr (xv 0) (fc_cons (T.clsF (fm 7 rfl) (fm 8 rfl) (fm 9 rfl)) (fc_nil)) (fun _ => rfl)) (fc_cons (T.clsF (fm 1 rfl) (fm 2 rfl) (fm 4 rfl)) (fc_nil)) (ft_cons (((c_law_step_2 T TB)).up (by decide)) (ft_nil)) (by decide) (ra_cons (xv 3) (ra_cons (re_ix (re_attr (xv 0) (fc_cons (T.clsF (fm 7 rfl) (fm 8 rfl) (fm 11 rfl)) (fc_nil)) (fun _ => rfl)) (xv 4) (fun _ _ => rfl)) (ra_nil) (fun _ => rfl)) (fun _ => rfl)) (fun _ => rfl) (fun _ => rfl) (fun _ => rfl)) (xt 3 nd_Recording_seek) (fun env he => swap_no env he (by rfl)) (fun env he => swap_none env he (by rfl)) (fun _ => rfl))) (fun _ _ => rfl))
    (rs_one (rs_ret (re_tup (ra_cons (xv 3) (ra_cons (re_op (fun _ _ C => o_sub C) (xv 1) (xv 2)) (ra_nil) (fun _ => rfl)) (fun _ => rfl))))))))
theorem fr_Recording_seek {g : G} (T : Top g fa fn) (TB : Tbs g) : ∃ fd, FnR g 2 (He.fAd g.K d_Recording_seek.at_) fd P_Recording_seek F_Recording_seek ∧ FunD g.K d_Recording_seek.name d_Recording_seek.qual d_Recording_seek.params d_Recording_seek.body d_Recording_seek.scope (d_Recording_seek.dvs g.K) (d_Recording_seek.kws g.K) (He.fAd g.K d_Recording_seek.at_) fd := by
  obtain ⟨fd, F⟩ := T.defs d_Recording_seek (dm 5 rfl)
  exact ⟨fd, fnR_top (N := N_Recording_seek) (ps := P_Recording_seek) F sc_Recording_seek (r_Recording_seek T TB) (fun e he hn => by rw [TB.cods] at he; exact (List.mem_cons.mp he).elim (fun z => by subst z; exact absurd (show ((".law" : Str) ∈ N_Recording_seek) from hn) (by decide +kernel)) fun z => nomatch z), F⟩
theorem c_Recording_seek_2 {g : G} (T : Top g fa fn) (TB : Tbs g) : MethOk g 2 "Recording" "seek" [] F_Recording_seek := by
  obtain ⟨fd, h, F⟩ := fr_Recording_seek T TB
  exact T.meth (fm 7 rfl) (fm 8 rfl) (fm 27 rfl) h (bindD_none F fun _ _ _ _ _ _ us hl => match us, hl with | [_, _], _ => rfl)
theorem r_Recording_cut {g : G} (T : Top g fa fn) (TB : Tbs g) : RealSs g N_Recording_cut (defScope s_Recording_cut) 2 (defBody s_Recording_cut) m_Recording_cut := by
  exact rs_cons (rs_attr (re_ix (re_meth (k := 2) (xv 0) (mt_cons (((c_Recording_seek_2 T TB)).up (by decide)) (mt_nil)) (by decide) (ra_cons (xv 1) (ra_nil) (fun _ => rfl)) (fun _ => rfl) (fun _ => rfl) (fun _ => rfl)) (re_int) (fun _ _ => rfl)) (xv 0) (fc_cons (T.clsF (fm 7 rfl) (fm 8 rfl) (fm 13 rfl)) (fc_nil)) (fun _ => rfl))
    (rs_cons (rs_attr (re_slice true (re_attr (xv 0) (fc_cons (T.clsF (fm 7 rfl) (fm 8 rfl) (fm 11 rfl)) (fc_nil)) (fun _ => rfl)) (trivial) (xv 1)) (xv 0) (fc_cons (T.clsF (fm 7 rfl) (fm 8 rfl) (fm 11 rfl)) (fc_nil)) (fun _ => rfl))
    (rs_one (rs_attr (re_dc (own := [("one", 2)]) nd_Recording_cut rfl (ri_src (re_attr (xv 0) (fc_cons (T.clsF (fm 7 rfl) (fm 8 rfl) (fm 12 rfl)) (fc_nil)) (fun _ => rfl))) (blkOk_by (by decide +kernel)) (xn 2 nd_Recording_cut) (.one (rt_cmp (fun _ _ C => o_le C) (xv 2) (xv 1) rfl)) (xv 2) (re_ix (re_attr (xv 0) (fc_cons (T.clsF (fm 7 rfl) (fm 8 rfl) (fm 12 rfl)) (fc_nil)) (fun _ => rfl)) (xv 2) (fun _ _ => rfl)) (fun _ _ => rfl)) (xv 0) (fc_cons (T.clsF (fm 7 rfl) (fm 8 rfl) (fm 12 rfl)) (fc_nil)) (fun _ => rfl))))
theorem fr_Recording_cut {g : G} (T : Top g fa fn) (TB : Tbs g) : ∃ fd, FnR g 3 (He.fAd g.K d_Recording_cut.at_) fd P_Recording_cut F_Recording_cut ∧ FunD g.K d_Recording_cut.name d_Recording_cut.qual d_Recording_cut.params d_Recording_cut.body d_Recording_cut.scope (d_Recording_cut.dvs g.K) (d_Recording_cut.kws g.K) (He.fAd g.K d_Recording_cut.at_) fd := by
  obtain ⟨fd, F⟩ := T.defs d_Recording_cut (dm 6 rfl)
  exact ⟨fd, fnR_top (N := N_Recording_cut) (ps := P_Recording_cut) F sc_Recording_cut (r_Recording_cut T TB) (fun e he hn => by rw [TB.cods] at he; exact (List.mem_cons.mp he).elim (fun z => by subst z; exact absurd (show ((".law" : Str) ∈ N_Recording_cut) from hn) (by decide +kernel)) fun z => nomatch z), F⟩
theorem c_Recording_cut_2 {g : G} (T : Top g fa fn) (TB : Tbs g) : MethOk g 3 "Recording" "cut" [] F_Recording_cut := by
  obtain ⟨fd, h, F⟩ := fr_Recording_cut T TB
  exact T.meth (fm 7 rfl) (fm 8 rfl) (fm 34 rfl) h (bindD_none F fun _ _ _ _ _ _ us hl => match us, hl with | [_, _], _ => rfl)
theorem r_Recording_first_difference {g : G} (T : Top g fa fn) (TB : Tbs g) : RealSs g N_Recording_first_difference (defScope s_Recording_first_difference) 0 (defBody s_Recording_first_difference) m_Recording_first_difference := by
  exact rs_cons (rs_for (ri_range1 (ra_cons (re_callB (fun _ _ C => c_min C) rfl (T.free (fm 17 rfl)) rfl (ra_cons (re_callB (fun _ _ C => c_len C) rfl (T.free (fm 14 rfl)) rfl (ra_cons (re_attr (xv 0) (fc_cons (T.clsF (fm 7 rfl) (fm 8 rfl) (fm 11 rfl)) (fc_nil)) (fun _ => rfl)) (ra_nil) (fun _ => rfl)) (fun _ => rfl) (fun _ => rfl)) (ra_cons (re_callB (fun _ _ C => c_len C) rfl (T.free (fm 14 rfl)) rfl (ra_cons (re_attr (xv 1) (fc_cons (T.clsF (fm 7 rfl) (fm 8 rfl) (fm 11 rfl)) (fc_nil)) (fun _ => rfl)) (ra_nil) (fun _ => rfl)) (fun _ => rfl) (fun _ => rfl)) (ra_nil) (fun _ => rfl)) (fun _ => rfl)) (fun _ => rfl) (fun _ => rfl)) (ra_nil) (fun _ => rfl)) rfl (T.free (fm 16 rfl)) (fun _ => rfl)) (xt 2 nd_Recording_first_difference)
    (rs_one (rs_if (rt_cmp (fun _ _ C => o_ne C) (re_ix (re_attr (xv 0) (fc_cons (T.clsF (fm 7 rfl) (fm 8 rfl) (fm 11 rfl)) (fc_nil)) (fun _ => rfl)) (xv 2) (fun _ _ => rfl)) (re_ix (re_attr (xv 1) (fc_cons (T.clsF (fm 7 rfl) (fm 8 rfl) (fm 11 rfl)) (fc_nil)) (fun _ => rfl)) (xv 2) (fun _ _ => rfl)) rfl)
    (rs_one (rs_ret (xv 2)))
    (rs_nil))) (fun _ _ => rfl))
    (rs_one (rs_ret (re_if (rt_cmp (fun _ _ C => o_eq C) (re_callB (fun _ _ C => c_len C) rfl (T.free (fm 14 rfl)) rfl (ra_cons (re_attr (xv 0) (fc_cons (T.clsF (fm 7 rfl) (fm 8 rfl) (fm 11 rfl)) (fc_nil)) (fun _ => rfl)) (ra_nil) (fun _ => rfl)) (fun _ => rfl) (fun _ => rfl)) (re_callB (fun _ _ C => c_len C) rfl (T.free (fm 14 rfl)) rfl (ra_cons (re_attr (xv 1) (fc_cons (T.clsF (fm 7 rfl) (fm 8 rfl) (fm 11 rfl)) (fc_nil)) (fun _ => rfl)) (ra_nil) (fun _ => rfl)) (fun _ => rfl) (fun _ => rfl)) rfl) (re_non) (re_callB (fun _ _ C => c_min C) rfl (T.free (fm 17 rfl)) rfl (ra_cons (re_callB (fun _ _ C => c_len C) rfl (T.free (fm 14 rfl)) rfl (ra_cons (re_attr (xv 0) (fc_cons (T.clsF (fm 7 rfl) (fm 8 rfl) (fm 11 rfl)) (fc_nil)) (fun _ => rfl)) (ra_nil) (fun _ => rfl)) (fun _ => rfl) (fun _ => rfl)) (ra_cons (re_callB (fun _ _ C => c_len C) rfl (T.free (fm 14 rfl)) rfl (ra_cons (re_attr (xv 1) (fc_cons (T.clsF (fm 7 rfl) (fm 8 rfl) (fm 11 rfl)) (fc_nil)) (fun _ => rfl)) (ra_nil) (fun _ => rfl)) (fun _ => rfl) (fun _ => rfl)) (ra_nil) (fun _ => rfl)) (fun _ => rfl)) (fun _ => rfl) (fun _ => rfl)))))
theorem fr_Recording_first_difference {g : G} (T : Top g fa fn) (TB : Tbs g) : ∃ fd, FnR g 1 (He.fAd g.K d_Recording_first_difference.at_) fd P_Recording_first_difference F_Recording_first_difference ∧ FunD g.K d_Recording_first_difference.name d_Recording_first_difference.qual d_Recording_first_difference.params d_Recording_first_difference.body d_Recording_first_difference.scope (d_Recording_first_difference.dvs g.K) (d_Recording_first_difference.kws g.K) (He.fAd g.K d_Recording_first_difference.at_) fd := by
  obtain ⟨fd, F⟩ := T.defs d_Recording_first_difference (dm 7 rfl)
  exact ⟨fd, fnR_top (N := N_Recording_first_difference) (ps := P_Recording_first_difference) F sc_Recording_first_difference (r_Recording_first_difference T TB) (fun e he hn => by rw [TB.cods] at he; exact (List.mem_cons.mp he).elim (fun z => by subst z; exact absurd (show ((".law" : Str) ∈ N_Recording_first_difference) from hn) (by decide +kernel)) fun z => nomatch z), F⟩
theorem c_Recording_first_difference_2 {g : G} (T : Top g fa fn) (TB : Tbs g) : MethOk g 1 "Recording" "first_difference" [] F_Recording_first_difference := by
  obtain ⟨fd, h, F⟩ := fr_Recording_first_difference T TB
  exact T.meth (fm 7 rfl) (fm 8 rfl) (fm 36 rfl) h (bindD_none F fun _ _ _ _ _ _ us hl => match us, hl with | [_, _], _ => rfl)
theorem r_law_roll {g : G} (T : Top g fa fn) (TB : Tbs g) {k : Nat} (hk : k ≤ k) (h0 : 0 ≤ k) {G_ : Fn} (hG : CallOk g k "_law_roll" [] G_) : RealSs g N_law_roll (defScope s_law_roll) k (defBody s_law_roll) (m_law_roll G_) := by
  exact rs_cons (rs_if (rt_w (rw_or (rt_cmp (fun _ _ C => o_eq C) (re_ix (xv 0) (re_int) (fun _ _ => rfl)) (re_int) rfl) (rw_or1 (rt_w (rw_and (rt_cmp (fun _ _ C => o_eq C) (re_ix (xv 0) (re_int) (fun _ _ => rfl)) (re_int) rfl) (rw_and1 (rt_cmp (fun _ _ C => o_gt C) (re_ix (xv 0) (re_int) (fun _ _ => rfl)) (re_int) rfl)))))))
    (rs_cons (rs_asg (re_op (fun _ _ C => o_mod C) (re_callTy (fun _ _ C => c_int C) rfl (T.free (fm 18 rfl)) rfl (ra_cons (re_ix (xv 0) (re_int) (fun _ _ => rfl)) (ra_nil) (fun _ => rfl)) (fun _ => rfl) (fun _ => rfl)) (xv 1)) (xt 2 nd_law_roll) (fun env he => swap_no env he (by rfl)) (fun env he => swap_none env he (by rfl)) (fun _ => rfl))
    (rs_cons (rs_asg (re_op (fun _ _ C => o_div C) (re_ix (xv 0) (re_int) (fun _ _ => rfl)) (xv 1)) (rg_sub (xv 0) (re_int) (fun _ _ => rfl)) (fun env he => swap_no env he (by rfl)) (fun env he => swap_none env he (by rfl)) (fun _ => rfl))
    (rs_one (rs_ret (xv 2)))))
    (rs_nil))
    (rs_cons (rs_asg (re_int) (rg_sub (xv 0) (re_int) (fun _ _ => rfl)) (fun env he => swap_no env he (by rfl)) (fun env he => swap_none env he (by rfl)) (fun _ => rfl))
    (rs_cons (rs_if (rt_cmp (fun _ _ C => o_gt C) (xv 1) (re_int) rfl)
    (rs_one (rs_ret (re_op (fun _ _ C => o_mod C) (re_callTy (fun _ _ C => c_int C) rfl (T.free (fm 18 rfl)) rfl (ra_cons (re_op (fun _ _ C => o_add C) (re_op (fun _ _ C => o_mul C) (re_call hG hk rfl (ra_cons (xv 0) (ra_cons (re_op (fun _ _ C => o_add C) (re_op (fun _ _ C => o_div C) (xv 1) (re_int)) (re_int)) (ra_nil) (fun _ => rfl)) (fun _ => rfl)) (fun _ => rfl) (fun _ => rfl)) (re_int)) (re_call hG hk rfl (ra_cons (xv 0) (ra_cons (re_int) (ra_nil) (fun _ => rfl)) (fun _ => rfl)) (fun _ => rfl) (fun _ => rfl))) (ra_nil) (fun _ => rfl)) (fun _ => rfl) (fun _ => rfl)) (xv 1))))
    (rs_nil))
    (rs_cons (rs_asg (re_op (fun _ _ C => o_mod C) (re_callTy (fun _ _ C => c_int C) rfl (T.free (fm 18 rfl)) rfl (ra_cons (re_op (fun _ _ C => o_add C) (re_op (fun _ _ C => o_add C) (re_op (fun _ _ C => o_mul C) (re_ix (xv 0) (re_int) (fun _ _ => rfl)) (re_int)) (re_op (fun _ _ C => o_mul C) (re_ix (xv 0) (re_int) (fun _ _ => rfl)) (re_int))) (re_int)) (ra_nil) (fun _ => rfl)) (fun _ => rfl) (fun _ => rfl)) (re_int)) (rg_sub (xv 0) (re_int) (fun _ _ => rfl)) (fun env he => swap_no env he (by rfl)) (fun env he => swap_none env he (by rfl)) (fun _ => rfl))
    (rs_cons (rs_asg (re_op (fun _ _ C => o_add C) (re_ix (xv 0) (re_int) (fun _ _ => rfl)) (re_int)) (rg_sub (xv 0) (re_int) (fun _ _ => rfl)) (fun env he => swap_no env he (by rfl)) (fun env he => swap_none env he (by rfl)) (fun _ => rfl))
    (rs_one (rs_ret (re_op (fun _ _ C => o_mod C) (re_callTy (fun _ _ C => c_int C) rfl (T.free (fm 18 rfl)) rfl (ra_cons (re_op (fun _ _ C => o_div C) (re_ix (xv 0) (re_int) (fun _ _ => rfl)) (re_int)) (ra_nil) (fun _ => rfl)) (fun _ => rfl) (fun _ => rfl)) (xv 1))))))))
theorem fr_law_roll {g : G} (T : Top g fa fn) (TB : Tbs g) : ∃ fd, FnR g 4 (He.fAd g.K d_law_roll.at_) fd P_law_roll F_law_roll ∧ FunD g.K d_law_roll.name d_law_roll.qual d_law_roll.params d_law_roll.body d_law_roll.scope (d_law_roll.dvs g.K) (d_law_roll.kws g.K) (He.fAd g.K d_law_roll.at_) fd := by
  obtain ⟨fd, F⟩ := T.defs d_law_roll (dm 8 rfl)
  have hb : BindD g fd P_law_roll [] := bindD_none F fun _ _ _ _ _ _ us hl => match us, hl with | [_, _], _ => rfl
  exact ⟨fd, fnR_rec (L := 0) (funC_of (st := s_law_roll) F) (fun k G_ h0 hG => fnR_top (N := N_law_roll) (ps := P_law_roll) F sc_law_roll (r_law_roll T TB (Nat.le_refl _) h0 (T.call (fm 31 rfl) hG hb)) (fun e he hn => by rw [TB.cods] at he; exact (List.mem_cons.mp he).elim (fun z => by subst z; exact absurd (show ((".law" : Str) ∈ N_law_roll) from hn) (by decide +kernel)) fun z => nomatch z)) 4, F⟩
theorem c_law_roll_2 {g : G} (T : Top g fa fn) (TB : Tbs g) : CallOk g 4 "_law_roll" [] F_law_roll := by
  obtain ⟨fd, h, F⟩ := fr_law_roll T TB
  exact T.call (fm 31 rfl) h (bindD_none F fun _ _ _ _ _ _ us hl => match us, hl with | [_, _], _ => rfl)
theorem r_law_dice {g : G} (T : Top g fa fn) (TB : Tbs g) : RealSs g N_law_dice (defScope s_law_dice) 0 (defBody s_law_dice) m_law_dice := by
  exact rs_cons (rs_if (rt_chain (fun _ _ C => o_lt C) (fun _ _ C => o_lt C) (re_op (fun _ _ C => o_sub C) (re_int) (re_int)) (xv 0) (re_int) rfl)
    (rs_one (rs_ret (re_lst true (ra_cons (re_callB (fun _ _ C => c_abs C) rfl (T.free (fm 19 rfl)) rfl (ra_cons (xv 0) (ra_nil) (fun _ => rfl)) (fun _ => rfl) (fun _ => rfl)) (ra_cons (re_int) (ra_cons (re_int) (ra_nil) (fun _ => rfl)) (fun _ => rfl)) (fun _ => rfl)))))
    (rs_nil))
    (rs_one (rs_ret (re_lst true (ra_cons (xv 0) (ra_cons (re_op (fun _ _ C => o_add C) (re_int) (re_op (fun _ _ C => o_mod C) (re_callTy (fun _ _ C => c_int C) rfl (T.free (fm 18 rfl)) rfl (ra_cons (xv 0) (ra_nil) (fun _ => rfl)) (fun _ => rfl) (fun _ => rfl)) (re_int))) (ra_cons (re_callTy (fun _ _ C => c_int C) rfl (T.free (fm 18 rfl)) rfl (ra_cons (re_cmp (fun _ _ C => o_ge C) (xv 0) (re_op (fun _ _ C => o_pow C) (re_int) (re_int)) rfl) (ra_nil) (fun _ => rfl)) (fun _ => rfl) (fun _ => rfl)) (ra_nil) (fun _ => rfl)) (fun _ => rfl)) (fun _ => rfl)))))
theorem fr_law_dice {g : G} (T : Top g fa fn) (TB : Tbs g) : ∃ fd, FnR g 1 (He.fAd g.K d_law_dice.at_) fd P_law_dice F_law_dice ∧ FunD g.K d_law_dice.name d_law_dice.qual d_law_dice.params d_law_dice.body d_law_dice.scope (d_law_dice.dvs g.K) (d_law_dice.kws g.K) (He.fAd g.K d_law_dice.at_) fd := by
  obtain ⟨fd, F⟩ := T.defs d_law_dice (dm 9 rfl)
  exact ⟨fd, fnR_top (N := N_law_dice) (ps := P_law_dice) F sc_law_dice (r_law_dice T TB) (fun e he hn => by rw [TB.cods] at he; exact (List.mem_cons.mp he).elim (fun z => by subst z; exact absurd (show ((".law" : Str) ∈ N_law_dice) from hn) (by decide +kernel)) fun z => nomatch z), F⟩
theorem c_law_dice_1 {g : G} (T : Top g fa fn) (TB : Tbs g) : CallOk g 1 "_law_dice" [] F_law_dice := by
  obtain ⟨fd, h, F⟩ := fr_law_dice T TB
  exact T.call (fm 28 rfl) h (bindD_none F fun _ _ _ _ _ _ us hl => match us, hl with | [_], _ => rfl)
theorem r_law_rounds {g : G} (T : Top g fa fn) (TB : Tbs g) : RealSs g N_law_rounds (defScope s_law_rounds) 1 (defBody s_law_rounds) m_law_rounds := by
  exact rs_cons (rs_asg (re_slice false (xv 0) (trivial) (xv 1)) (xt 2 nd_law_rounds) (fun env he => swap_no env he (by rfl)) (fun env he => swap_none env he (by rfl)) (fun _ => rfl))
    (rs_cons (rs_if (rt_cmp (fun _ _ C => o_eq C) (xv 2) (re_lst false (ra_nil)) rfl)
    (rs_one (rs_asg (re_lst false (ra_cons (re_int) (ra_nil) (fun _ => rfl))) (xt 2 nd_law_rounds) (fun env he => swap_no env he (by rfl)) (fun env he => swap_none env he (by rfl)) (fun _ => rfl)))
    (rs_nil))
    (rs_one (rs_ret (re_lc (own := [("cell", 3)]) nd_law_rounds rfl (ri_src (xv 2)) (blkOk_by (by decide +kernel)) (xn 3 nd_law_rounds) (.nil) (re_call (c_law_dice_1 T TB) (by decide) rfl (ra_cons (xv 3) (ra_nil) (fun _ => rfl)) (fun _ => rfl) (fun _ => rfl)) (fun _ _ => rfl)))))
theorem fr_law_rounds {g : G} (T : Top g fa fn) (TB : Tbs g) : ∃ fd, FnR g 2 (He.fAd g.K d_law_rounds.at_) fd P_law_rounds F_law_rounds ∧ FunD g.K d_law_rounds.name d_law_rounds.qual d_law_rounds.params d_law_rounds.body d_law_rounds.scope (d_law_rounds.dvs g.K) (d_law_rounds.kws g.K) (He.fAd g.K d_law_rounds.at_) fd := by
  obtain ⟨fd, F⟩ := T.defs d_law_rounds (dm 10 rfl)
  exact ⟨fd, fnR_top (N := N_law_rounds) (ps := P_law_rounds) F sc_law_rounds (r_law_rounds T TB) (fun e he hn => by rw [TB.cods] at he; exact (List.mem_cons.mp he).elim (fun z => by subst z; exact absurd (show ((".law" : Str) ∈ N_law_rounds) from hn) (by decide +kernel)) fun z => nomatch z), F⟩
theorem c_law_rounds_2 {g : G} (T : Top g fa fn) (TB : Tbs g) : CallOk g 2 "_law_rounds" [] F_law_rounds := by
  obtain ⟨fd, h, F⟩ := fr_law_rounds T TB
  exact T.call (fm 29 rfl) h (bindD_none F fun _ _ _ _ _ _ us hl => match us, hl with | [_, _], _ => rfl)
theorem r_packed_rows {g : G} (T : Top g fa fn) (TB : Tbs g) : RealSs g N_packed_rows (defScope s_packed_rows) 0 (defBody s_packed_rows) m_packed_rows := by
  exact rs_cons (rs_asg (re_lst true (ra_nil)) (xt 1 nd_packed_rows) (fun env he => swap_no env he (by rfl)) (fun env he => swap_none env he (by rfl)) (fun _ => rfl))
    (rs_cons (rs_for (ri_src (xv 0)) (xt 2 nd_packed_rows)
    (rs_one (rs_if (rt_w (rw_and (rt_cmp (fun _ _ C => o_ne C) (xv 1) (re_lst false (ra_nil)) rfl) (rw_and1 (rt_cmp (fun _ _ C => o_eq C) (re_ix (re_ix (xv 1) (re_un (fun _ _ C => o_neg C) (re_int)) (fun _ _ => rfl)) (re_int) (fun _ _ => rfl)) (xv 2) rfl))))
    (rs_one (rs_asg (re_tup (ra_cons (re_op (fun _ _ C => o_add C) (re_ix (re_ix (xv 1) (re_un (fun _ _ C => o_neg C) (re_int)) (fun _ _ => rfl)) (re_int) (fun _ _ => rfl)) (re_int)) (ra_cons (xv 2) (ra_nil) (fun _ => rfl)) (fun _ => rfl))) (rg_sub (xv 1) (re_un (fun _ _ C => o_neg C) (re_int)) (fun _ _ => rfl)) (fun env he => swap_no env he (by rfl)) (fun env he => swap_none env he (by rfl)) (fun _ => rfl)))
    (rs_one (rs_expr (re_bm PySem.F.plainAttrs_list PySem.F.slot_list_append PySem.F.type_list_append (fun _ _ C => m_append C) (xv 1) (ra_cons (re_tup (ra_cons (re_int) (ra_cons (xv 2) (ra_nil) (fun _ => rfl)) (fun _ => rfl))) (ra_nil) (fun _ => rfl)) (fun _ => rfl) (fun _ => rfl) rfl (fun _ => rfl) (fun _ => rfl)) (fun _ => rfl))))) (fun _ _ => rfl))
    (rs_one (rs_ret (re_callTy (fun _ _ C => c_tuple C) rfl (T.free (fm 20 rfl)) rfl (ra_cons (xv 1) (ra_nil) (fun _ => rfl)) (fun _ => rfl) (fun _ => rfl)))))
theorem fr_packed_rows {g : G} (T : Top g fa fn) (TB : Tbs g) : ∃ fd, FnR g 1 (He.fAd g.K d_packed_rows.at_) fd P_packed_rows F_packed_rows ∧ FunD g.K d_packed_rows.name d_packed_rows.qual d_packed_rows.params d_packed_rows.body d_packed_rows.scope (d_packed_rows.dvs g.K) (d_packed_rows.kws g.K) (He.fAd g.K d_packed_rows.at_) fd := by
  obtain ⟨fd, F⟩ := T.defs d_packed_rows (dm 12 rfl)
  exact ⟨fd, fnR_top (N := N_packed_rows) (ps := P_packed_rows) F sc_packed_rows (r_packed_rows T TB) (fun e he hn => by rw [TB.cods] at he; exact (List.mem_cons.mp he).elim (fun z => by subst z; exact absurd (show ((".law" : Str) ∈ N_packed_rows) from hn) (by decide +kernel)) fun z => nomatch z), F⟩
theorem c_packed_rows_1 {g : G} (T : Top g fa fn) (TB : Tbs g) : CallOk g 1 "packed_rows" [] F_packed_rows := by
  obtain ⟨fd, h, F⟩ := fr_packed_rows T TB
  exact T.call (fm 37 rfl) h (bindD_none F fun _ _ _ _ _ _ us hl => match us, hl with | [_], _ => rfl)
theorem r_unpacked_rows {g : G} (T : Top g fa fn) (TB : Tbs g) : RealSs g N_unpacked_rows (defScope s_unpacked_rows) 0 (defBody s_unpacked_rows) m_unpacked_rows := by
  exact rs_cons (rs_asg (re_lst true (ra_nil)) (xt 1 nd_unpacked_rows) (fun env he => swap_no env he (by rfl)) (fun env he => swap_none env he (by rfl)) (fun _ => rfl))
    (rs_cons (rs_for (ri_enum (ra_cons (xv 0) (ra_nil) (fun _ => rfl)) rfl (T.free (fm 21 rfl)) (fun _ => rfl)) (rg_tup (n := 2) (rgs_cons (xt 2 nd_unpacked_rows) (rgs_cons (rg_tup (n := 2) (rgs_cons (xt 3 nd_unpacked_rows) (rgs_cons (xt 4 nd_unpacked_rows) (rgs_nil) (fun _ => rfl)) (fun _ => rfl)) (fun _ => rfl) (fun _ => rfl)) (rgs_nil) (fun _ => rfl)) (fun _ => rfl)) (fun _ => rfl) (fun _ => rfl))
    (rs_cons (rs_if (rt_w (rw_or (rt_cmp (fun _ _ C => o_lt C) (xv 3) (re_int) rfl) (rw_or (rt_w (rw_and (rt_cmp (fun _ _ C => o_gt C) (xv 2) (re_int) rfl) (rw_and1 (rt_cmp (fun _ _ C => o_eq C) (re_ix (re_ix (xv 0) (re_op (fun _ _ C => o_sub C) (xv 2) (re_int)) (fun _ _ => rfl)) (re_int) (fun _ _ => rfl)) (xv 4) rfl)))) (rw_or1 (rt_cmp (fun _ _ C => o_gt C) (re_op (fun _ _ C => o_add C) (re_callB (fun _ _ C => c_len C) rfl (T.free (fm 14 rfl)) rfl (ra_cons (xv 1) (ra_nil) (fun _ => rfl)) (fun _ => rfl) (fun _ => rfl)) (xv 3)) (re_gint T (fm 15 rfl) rfl) rfl)))))
    (rs_one (rs_raise (T.exc (fm 5 rfl) (fm 6 rfl)) rfl))
    (rs_nil))
    (rs_one (rs_aug (i := 1) nd_unpacked_rows rfl (loc_ok rfl) (re_op (fun _ _ C => o_mul C) (re_lst false (ra_cons (xv 4) (ra_nil) (fun _ => rfl))) (xv 3)) i_add))) (fun _ _ => rfl))
    (rs_one (rs_ret (xv 1))))
theorem fr_unpacked_rows {g : G} (T : Top g fa fn) (TB : Tbs g) : ∃ fd, FnR g 1 (He.fAd g.K d_unpacked_rows.at_) fd P_unpacked_rows F_unpacked_rows ∧ FunD g.K d_unpacked_rows.name d_unpacked_rows.qual d_unpacked_rows.params d_unpacked_rows.body d_unpacked_rows.scope (d_unpacked_rows.dvs g.K) (d_unpacked_rows.kws g.K) (He.fAd g.K d_unpacked_rows.at_) fd := by
  obtain ⟨fd, F⟩ := T.defs d_unpacked_rows (dm 13 rfl)
  exact ⟨fd, fnR_top (N := N_unpacked_rows) (ps := P_unpacked_rows) F sc_unpacked_rows (r_unpacked_rows T TB) (fun e he hn => by rw [TB.cods] at he; exact (List.mem_cons.mp he).elim (fun z => by subst z; exact absurd (show ((".law" : Str) ∈ N_unpacked_rows) from hn) (by decide +kernel)) fun z => nomatch z), F⟩
theorem c_unpacked_rows_1 {g : G} (T : Top g fa fn) (TB : Tbs g) : CallOk g 1 "unpacked_rows" [] F_unpacked_rows := by
  obtain ⟨fd, h, F⟩ := fr_unpacked_rows T TB
  exact T.call (fm 38 rfl) h (bindD_none F fun _ _ _ _ _ _ us hl => match us, hl with | [_], _ => rfl)
theorem r_law {g : G} (T : Top g fa fn) (TB : Tbs g) : RealSs g N_law (defScope s_law) 5 (defBody s_law) m_law := by
  exact rs_cons (rs_for (ri_src (re_call (c_law_rounds_2 T TB) (by decide) rfl (ra_cons (xv 0) (ra_cons (re_int) (ra_nil) (fun _ => rfl)) (fun _ => rfl)) (fun _ => rfl) (fun _ => rfl))) (xt 1 nd_law)
    (rs_cons (rs_par2 (i := 2) (j := 3) nd_law rfl rfl (by decide) rfl rfl (ra_cons (re_make (imm := true) (mk_Game_2 T TB) (by decide) rfl (ra_cons (re_tup (ra_cons (re_call (c_law_roll_2 T TB) (by decide) rfl (ra_cons (xv 1) (ra_cons (re_int) (ra_nil) (fun _ => rfl)) (fun _ => rfl)) (fun _ => rfl) (fun _ => rfl)) (ra_cons (re_int) (ra_nil) (fun _ => rfl)) (fun _ => rfl))) (ra_cons (re_gfn T (fm 22 rfl) rfl) (ra_nil) (fun _ => rfl)) (fun _ => rfl)) (fun _ => rfl) (fun _ => rfl)) (ra_cons (re_op (fun _ _ C => o_add C) (re_int) (re_call (c_law_roll_2 T TB) (by decide) rfl (ra_cons (xv 1) (ra_cons (re_int) (ra_nil) (fun _ => rfl)) (fun _ => rfl)) (fun _ => rfl) (fun _ => rfl))) (ra_nil) (fun _ => rfl)) (fun _ => rfl)) (fun env he => swap_some env he (by rfl)) (fun env he => swap_no env he (by rfl)))
    (rs_cons (rs_asg (re_tup (ra_cons (re_make (imm := false) (mk_Recording_2 T TB) (by decide) rfl (ra_cons (xv 2) (ra_cons (xv 3) (ra_nil) (fun _ => rfl)) (fun _ => rfl)) (fun _ => rfl) (fun _ => rfl)) (ra_cons (re_make (imm := false) (mk_Recording_2 T TB) (by decide) rfl (ra_cons (xv 2) (ra_cons (xv 3) (ra_nil) (fun _ => rfl)) (fun _ => rfl)) (fun _ => rfl) (fun _ => rfl)) (ra_cons (re_lst false (ra_cons (re_attr (xv 2) (fc_cons (T.clsF (fm 1 rfl) (fm 2 rfl) (fm 3 rfl)) (fc_nil)) (fun _ => rfl)) (ra_nil) (fun _ => rfl))) (ra_cons (re_lst false (ra_nil)) (ra_nil) (fun _ => rfl)) (fun _ => rfl)) (fun _ => rfl)) (fun _ => rfl))) (rg_tup (n := 4) (rgs_cons (xt 4 nd_law) (rgs_cons (xt 5 nd_law) (rgs_cons (xt 6 nd_law) (rgs_cons (xt 7 nd_law) (rgs_nil) (fun _ => rfl)) (fun _ => rfl)) (fun _ => rfl)) (fun _ => rfl)) (fun _ => rfl) (fun _ => rfl)) (fun env he => swap_no env he (by rfl)) (fun env he => swap_none env he (by rfl)) (fun _ => rfl))
    (rs_cons (rs_for (ri_range1 (ra_cons (re_call (c_law_roll_2 T TB) (by decide) rfl (ra_cons (xv 1) (ra_cons (re_int) (ra_nil) (fun _ => rfl)) (fun _ => rfl)) (fun _ => rfl) (fun _ => rfl)) (ra_nil) (fun _ => rfl)) rfl (T.free (fm 16 rfl)) (fun _ => rfl)) (xt 8 nd_law)
    (rs_cons (rs_asg (re_call (c_law_roll_2 T TB) (by decide) rfl (ra_cons (xv 1) (ra_cons (re_int) (ra_nil) (fun _ => rfl)) (fun _ => rfl)) (fun _ => rfl) (fun _ => rfl)) (xt 9 nd_law) (fun env he => swap_no env he (by rfl)) (fun env he => swap_none env he (by rfl)) (fun _ => rfl))
    (rs_cons (rs_if (rt_cmp (fun _ _ C => o_gt C) (xv 9) (re_int) rfl)
    (rs_cons (rs_asg (re_tup (ra_cons (re_call (c_law_roll_2 T TB) (by decide) rfl (ra_cons (xv 1) (ra_cons (re_int) (ra_nil) (fun _ => rfl)) (fun _ => rfl)) (fun _ => rfl) (fun _ => rfl)) (ra_cons (re_call (c_law_roll_2 T TB) (by decide) rfl (ra_cons (xv 1) (ra_cons (re_int) (ra_nil) (fun _ => rfl)) (fun _ => rfl)) (fun _ => rfl) (fun _ => rfl)) (ra_nil) (fun _ => rfl)) (fun _ => rfl))) (xt 10 nd_law) (fun env he => swap_no env he (by rfl)) (fun env he => swap_none env he (by rfl)) (fun _ => rfl))
    (rs_cons (rs_asg (re_tup (ra_cons (re_op (fun _ _ C => o_add C) (xv 7) (re_lst false (ra_cons (xv 10) (ra_nil) (fun _ => rfl)))) (ra_cons (re_op (fun _ _ C => o_add C) (xv 6) (re_lst false (ra_cons (re_call (c_law_step_2 T TB) (by decide) rfl (ra_cons (re_ix (xv 6) (re_op (fun _ _ C => o_sub C) (re_callB (fun _ _ C => c_len C) rfl (T.free (fm 14 rfl)) rfl (ra_cons (xv 6) (ra_nil) (fun _ => rfl)) (fun _ => rfl) (fun _ => rfl)) (re_int)) (fun _ _ => rfl)) (ra_cons (xv 10) (ra_nil) (fun _ => rfl)) (fun _ => rfl)) (fun _ => rfl) (fun _ => rfl)) (ra_nil) (fun _ => rfl)))) (ra_nil) (fun _ => rfl)) (fun _ => rfl))) (rg_tup (n := 2) (rgs_cons (xt 7 nd_law) (rgs_cons (xt 6 nd_law) (rgs_nil) (fun _ => rfl)) (fun _ => rfl)) (fun _ => rfl) (fun _ => rfl)) (fun env he => swap_no env he (by rfl)) (fun env he => swap_none env he (by rfl)) (fun _ => rfl))
    (rs_one (rs_if (rt_cmp (fun _ _ C => o_ne C) (re_meth (k := 2) (xv 4) (mt_cons (((c_Recording_add_2 T TB)).up (by decide)) (mt_nil)) (by decide) (ra_cons (xv 10) (ra_nil) (fun _ => rfl)) (fun _ => rfl) (fun _ => rfl) (fun _ => rfl)) (re_ix (xv 6) (re_op (fun _ _ C => o_sub C) (re_callB (fun _ _ C => c_len C) rfl (T.free (fm 14 rfl)) rfl (ra_cons (xv 6) (ra_nil) (fun _ => rfl)) (fun _ => rfl) (fun _ => rfl)) (re_int)) (fun _ _ => rfl)) rfl)
    (rs_one (rs_ret (re_bl)))
    (rs_nil)))))
    (rs_cons (rs_asg (re_call (c_law_roll_2 T TB) (by decide) rfl (ra_cons (xv 1) (ra_cons (re_op (fun _ _ C => o_add C) (re_callB (fun _ _ C => c_len C) rfl (T.free (fm 14 rfl)) rfl (ra_cons (xv 7) (ra_nil) (fun _ => rfl)) (fun _ => rfl) (fun _ => rfl)) (re_int)) (ra_nil) (fun _ => rfl)) (fun _ => rfl)) (fun _ => rfl) (fun _ => rfl)) (xt 11 nd_law) (fun env he => swap_no env he (by rfl)) (fun env he => swap_none env he (by rfl)) (fun _ => rfl))
    (rs_cons (rs_if (rt_cmp (fun _ _ C => o_ne C) (re_cmp (fun _ _ C => o_eq C) (told_law T TB (k := 3) (ex_cons (T.exm (fm 5 rfl) (fm 5 rfl) (fm 23 rfl)) (ex_nil)) (re_meth (k := 3) (xv 4) (mt_cons (((c_Recording_cut_2 T TB)).up (by decide)) (mt_nil)) (by decide) (ra_cons (xv 11) (ra_nil) (fun _ => rfl)) (fun _ => rfl) (fun _ => rfl) (fun _ => rfl)) (by decide) rfl rfl (lamS_by (by decide +kernel)) (fun _ => rfl) (fun _ _ _ _ _ => rfl)) (re_str) rfl) (re_cmp (fun _ _ C => o_gt C) (xv 11) (re_callB (fun _ _ C => c_len C) rfl (T.free (fm 14 rfl)) rfl (ra_cons (xv 7) (ra_nil) (fun _ => rfl)) (fun _ => rfl) (fun _ => rfl)) rfl) rfl)
    (rs_one (rs_ret (re_bl)))
    (rs_nil))
    (rs_one (rs_asg (re_if (rt_cmp (fun _ _ C => o_le C) (xv 11) (re_callB (fun _ _ C => c_len C) rfl (T.free (fm 14 rfl)) rfl (ra_cons (xv 7) (ra_nil) (fun _ => rfl)) (fun _ => rfl) (fun _ => rfl)) rfl) (re_tup (ra_cons (re_slice false (xv 7) (trivial) (xv 11)) (ra_cons (re_slice false (xv 6) (trivial) (re_op (fun _ _ C => o_add C) (xv 11) (re_int))) (ra_nil) (fun _ => rfl)) (fun _ => rfl))) (re_tup (ra_cons (xv 7) (ra_cons (xv 6) (ra_nil) (fun _ => rfl)) (fun _ => rfl)))) (rg_tup (n := 2) (rgs_cons (xt 7 nd_law) (rgs_cons (xt 6 nd_law) (rgs_nil) (fun _ => rfl)) (fun _ => rfl)) (fun _ => rfl) (fun _ => rfl)) (fun env he => swap_no env he (by rfl)) (fun env he => swap_none env he (by rfl)) (fun _ => rfl))))))
    (rs_cons (rs_asg (re_call (c_law_roll_2 T TB) (by decide) rfl (ra_cons (xv 1) (ra_cons (re_op (fun _ _ C => o_add C) (re_callB (fun _ _ C => c_len C) rfl (T.free (fm 14 rfl)) rfl (ra_cons (xv 7) (ra_nil) (fun _ => rfl)) (fun _ => rfl) (fun _ => rfl)) (re_int)) (ra_nil) (fun _ => rfl)) (fun _ => rfl)) (fun _ => rfl) (fun _ => rfl)) (xt 11 nd_law) (fun env he => swap_no env he (by rfl)) (fun env he => swap_none env he (by rfl)) (fun _ => rfl))
    (rs_cons (rs_asg (re_if (rt_cmp (fun _ _ C => o_le C) (xv 11) (re_callB (fun _ _ C => c_len C) rfl (T.free (fm 14 rfl)) rfl (ra_cons (xv 7) (ra_nil) (fun _ => rfl)) (fun _ => rfl) (fun _ => rfl)) rfl) (re_tup (ra_cons (re_ix (xv 6) (xv 11) (fun _ _ => rfl)) (ra_cons (re_op (fun _ _ C => o_mod C) (xv 11) (xv 3)) (ra_nil) (fun _ => rfl)) (fun _ => rfl))) (re_str)) (xt 12 nd_law) (fun env he => swap_no env he (by rfl)) (fun env he => swap_none env he (by rfl)) (fun _ => rfl))
    (rs_one (rs_if (rt_w (rw_or (rt_cmp (fun _ _ C => o_ne C) (told_law T TB (k := 2) (ex_cons (T.exm (fm 5 rfl) (fm 5 rfl) (fm 23 rfl)) (ex_nil)) (re_meth (k := 2) (xv 4) (mt_cons (((c_Recording_seek_2 T TB)).up (by decide)) (mt_nil)) (by decide) (ra_cons (xv 11) (ra_nil) (fun _ => rfl)) (fun _ => rfl) (fun _ => rfl) (fun _ => rfl)) (by decide) rfl rfl (lamS_by (by decide +kernel)) (fun _ => rfl) (fun _ _ _ _ _ => rfl)) (xv 12) rfl) (rw_or (rt_cmp (fun _ _ C => o_ne C) (re_attr (xv 4) (fc_cons (T.clsF (fm 7 rfl) (fm 8 rfl) (fm 11 rfl)) (fc_nil)) (fun _ => rfl)) (xv 7) rfl) (rw_or1 (rt_cmp (fun _ _ C => o_ne C) (re_callB (fun _ _ C => c_sorted false C) rfl (T.free (fm 24 rfl)) rfl (ra_cons (re_attr (xv 4) (fc_cons (T.clsF (fm 7 rfl) (fm 8 rfl) (fm 12 rfl)) (fc_nil)) (fun _ => rfl)) (ra_nil) (fun _ => rfl)) (fun _ => rfl) (fun _ => rfl)) (re_listRg (m := false) (ra_cons (re_int) (ra_cons (re_op (fun _ _ C => o_add C) (re_callB (fun _ _ C => c_len C) rfl (T.free (fm 14 rfl)) rfl (ra_cons (xv 7) (ra_nil) (fun _ => rfl)) (fun _ => rfl) (fun _ => rfl)) (re_int)) (ra_cons (xv 3) (ra_nil) (fun _ => rfl)) (fun _ => rfl)) (fun _ => rfl)) rfl (T.free (fm 25 rfl)) rfl (T.free (fm 16 rfl)) (fun _ => rfl) (fun _ => rfl) (fun _ => rfl)) rfl)))))
    (rs_one (rs_ret (re_bl)))
    (rs_nil))))))) (fun _ _ => rfl))
    (rs_cons (rs_if (rt_cmp (fun _ _ C => o_ne C) (re_meth (k := 2) (xv 2) (mt_cons (((c_Game_played_2 T TB)).up (by decide)) (mt_nil)) (by decide) (ra_cons (xv 7) (ra_nil) (fun _ => rfl)) (fun _ => rfl) (fun _ => rfl) (fun _ => rfl)) (xv 6) rfl)
    (rs_one (rs_ret (re_bl)))
    (rs_nil))
    (rs_cons (rs_asg (re_slice false (re_lc (own := [("row", 10)]) nd_law rfl (ri_src (xv 7)) (blkOk_by (by decide +kernel)) (xn 10 nd_law) (.nil) (re_if (rt_cmp (fun _ _ C => o_gt C) (re_call (c_law_roll_2 T TB) (by decide) rfl (ra_cons (xv 1) (ra_cons (re_int) (ra_nil) (fun _ => rfl)) (fun _ => rfl)) (fun _ => rfl) (fun _ => rfl)) (re_int) rfl) (xv 10) (re_tup (ra_cons (re_int) (ra_cons (re_int) (ra_nil) (fun _ => rfl)) (fun _ => rfl)))) (fun _ _ => rfl)) (trivial) (re_call (c_law_roll_2 T TB) (by decide) rfl (ra_cons (xv 1) (ra_cons (re_op (fun _ _ C => o_add C) (re_callB (fun _ _ C => c_len C) rfl (T.free (fm 14 rfl)) rfl (ra_cons (xv 7) (ra_nil) (fun _ => rfl)) (fun _ => rfl) (fun _ => rfl)) (re_int)) (ra_nil) (fun _ => rfl)) (fun _ => rfl)) (fun _ => rfl) (fun _ => rfl))) (xt 13 nd_law) (fun env he => swap_no env he (by rfl)) (fun env he => swap_none env he (by rfl)) (fun _ => rfl))
    (rs_cons (rs_for (ri_src (xv 13)) (xt 10 nd_law)
    (rs_one (rs_expr (re_meth (k := 2) (xv 5) (mt_cons (((c_Recording_add_2 T TB)).up (by decide)) (mt_nil)) (by decide) (ra_cons (xv 10) (ra_nil) (fun _ => rfl)) (fun _ => rfl) (fun _ => rfl) (fun _ => rfl)) (fun _ => rfl))) (fun _ _ => rfl))
    (rs_cons (rs_setLc (i := 14) (own := [("k", 17)]) nd_law rfl rfl (fun env he => swap_yes env he (by rfl)) rfl (ri_range1 (ra_cons (re_callB (fun _ _ C => c_min C) rfl (T.free (fm 17 rfl)) rfl (ra_cons (re_callB (fun _ _ C => c_len C) rfl (T.free (fm 14 rfl)) rfl (ra_cons (xv 7) (ra_nil) (fun _ => rfl)) (fun _ => rfl) (fun _ => rfl)) (ra_cons (re_callB (fun _ _ C => c_len C) rfl (T.free (fm 14 rfl)) rfl (ra_cons (xv 13) (ra_nil) (fun _ => rfl)) (fun _ => rfl) (fun _ => rfl)) (ra_nil) (fun _ => rfl)) (fun _ => rfl)) (fun _ => rfl) (fun _ => rfl)) (ra_nil) (fun _ => rfl)) rfl (T.free (fm 16 rfl)) (fun _ => rfl)) (blkOk_by (by decide +kernel)) (xn 17 nd_law) (.one (rt_cmp (fun _ _ C => o_ne C) (re_ix (xv 7) (xv 17) (fun _ _ => rfl)) (re_ix (xv 13) (xv 17) (fun _ _ => rfl)) rfl)) (xv 17) (fun _ _ => rfl))
    (rs_cons (rs_asg (re_if (rt_cmp (fun _ _ C => o_ne C) (xv 14) (re_lst false (ra_nil)) rfl) (re_ix (xv 14) (re_int) (fun _ _ => rfl)) (re_if (rt_cmp (fun _ _ C => o_eq C) (re_callB (fun _ _ C => c_len C) rfl (T.free (fm 14 rfl)) rfl (ra_cons (xv 7) (ra_nil) (fun _ => rfl)) (fun _ => rfl) (fun _ => rfl)) (re_callB (fun _ _ C => c_len C) rfl (T.free (fm 14 rfl)) rfl (ra_cons (xv 13) (ra_nil) (fun _ => rfl)) (fun _ => rfl) (fun _ => rfl)) rfl) (re_non) (re_callB (fun _ _ C => c_min C) rfl (T.free (fm 17 rfl)) rfl (ra_cons (re_callB (fun _ _ C => c_len C) rfl (T.free (fm 14 rfl)) rfl (ra_cons (xv 7) (ra_nil) (fun _ => rfl)) (fun _ => rfl) (fun _ => rfl)) (ra_cons (re_callB (fun _ _ C => c_len C) rfl (T.free (fm 14 rfl)) rfl (ra_cons (xv 13) (ra_nil) (fun _ => rfl)) (fun _ => rfl) (fun _ => rfl)) (ra_nil) (fun _ => rfl)) (fun _ => rfl)) (fun _ => rfl) (fun _ => rfl)))) (xt 12 nd_law) (fun env he => swap_no env he (by rfl)) (fun env he => swap_none env he (by rfl)) (fun _ => rfl))
    (rs_cons (rs_if (rt_w (rw_or (rt_cmp (fun _ _ C => o_ne C) (re_meth (k := 1) (xv 4) (mt_cons (((c_Recording_first_difference_2 T TB)).up (by decide)) (mt_nil)) (by decide) (ra_cons (xv 5) (ra_nil) (fun _ => rfl)) (fun _ => rfl) (fun _ => rfl) (fun _ => rfl)) (xv 12) rfl) (rw_or1 (rt_cmp (fun _ _ C => o_ne C) (re_meth (k := 1) (xv 5) (mt_cons (((c_Recording_first_difference_2 T TB)).up (by decide)) (mt_nil)) (by decide) (ra_cons (xv 4) (ra_nil) (fun _ => rfl)) (fun _ => rfl) (fun _ => rfl) (fun _ => rfl)) (xv 12) rfl))))
    (rs_one (rs_ret (re_bl)))
    (rs_nil))
    (rs_cons (rs_asg (re_call (c_packed_rows_1 T TB) (by decide) rfl (ra_cons (xv 7) (ra_nil) (fun _ => rfl)) (fun _ => rfl) (fun _ => rfl)) (xt 15 nd_law) (fun env he => swap_no env he (by rfl)) (fun env he => swap_none env he (by rfl)) (fun _ => rfl))
    (rs_one (rs_if (rt_w (rw_or (rt_cmp (fun _ _ C => o_ne C) (re_call (c_unpacked_rows_1 T TB) (by decide) rfl (ra_cons (xv 15) (ra_nil) (fun _ => rfl)) (fun _ => rfl) (fun _ => rfl)) (xv 7) rfl) (rw_or (rt_cmp (fun _ _ C => o_ne C) (re_callB (fun _ _ C => c_sum C) rfl (T.free (fm 26 rfl)) rfl (ra_cons (re_lc (own := [("one", 18)]) nd_law rfl (ri_src (xv 15)) (blkOk_by (by decide +kernel)) (xn 18 nd_law) (.nil) (re_ix (xv 18) (re_int) (fun _ _ => rfl)) (fun _ _ => rfl)) (ra_nil) (fun _ => rfl)) (fun _ => rfl) (fun _ => rfl)) (re_callB (fun _ _ C => c_len C) rfl (T.free (fm 14 rfl)) rfl (ra_cons (xv 7) (ra_nil) (fun _ => rfl)) (fun _ => rfl) (fun _ => rfl)) rfl) (rw_or1 (rt_cmp (fun _ _ C => o_ne C) (re_lc (own := [("k", 17)]) nd_law rfl (ri_range2 (ra_cons (re_int) (ra_cons (re_callB (fun _ _ C => c_len C) rfl (T.free (fm 14 rfl)) rfl (ra_cons (xv 15) (ra_nil) (fun _ => rfl)) (fun _ => rfl) (fun _ => rfl)) (ra_nil) (fun _ => rfl)) (fun _ => rfl)) rfl (T.free (fm 16 rfl)) (fun _ => rfl) (fun _ => rfl)) (blkOk_by (by decide +kernel)) (xn 17 nd_law) (.one (rt_cmp (fun _ _ C => o_eq C) (re_ix (re_ix (xv 15) (xv 17) (fun _ _ => rfl)) (re_int) (fun _ _ => rfl)) (re_ix (re_ix (xv 15) (re_op (fun _ _ C => o_sub C) (xv 17) (re_int)) (fun _ _ => rfl)) (re_int) (fun _ _ => rfl)) rfl)) (xv 17) (fun _ _ => rfl)) (re_lst false (ra_nil)) rfl)))))
    (rs_one (rs_ret (re_bl)))
    (rs_nil))))))))))))) (fun _ _ => rfl))
    (rs_cons (rs_asg (re_lst false (ra_cons (re_tup (ra_cons (re_tup (ra_cons (re_int) (ra_cons (re_tup (ra_cons (re_int) (ra_cons (re_int) (ra_nil) (fun _ => rfl)) (fun _ => rfl))) (ra_nil) (fun _ => rfl)) (fun _ => rfl))) (ra_nil) (fun _ => rfl))) (ra_cons (re_tup (ra_cons (re_tup (ra_cons (re_int) (ra_cons (re_tup (ra_cons (re_int) (ra_cons (re_int) (ra_nil) (fun _ => rfl)) (fun _ => rfl))) (ra_nil) (fun _ => rfl)) (fun _ => rfl))) (ra_cons (re_tup (ra_cons (re_int) (ra_cons (re_tup (ra_cons (re_int) (ra_cons (re_int) (ra_nil) (fun _ => rfl)) (fun _ => rfl))) (ra_nil) (fun _ => rfl)) (fun _ => rfl))) (ra_nil) (fun _ => rfl)) (fun _ => rfl))) (ra_cons (re_tup (ra_cons (re_tup (ra_cons (re_int) (ra_cons (re_tup (ra_cons (re_int) (ra_cons (re_int) (ra_nil) (fun _ => rfl)) (fun _ => rfl))) (ra_nil) (fun _ => rfl)) (fun _ => rfl))) (ra_nil) (fun _ => rfl))) (ra_nil) (fun _ => rfl)) (fun _ => rfl)) (fun _ => rfl))) (xt 16 nd_law) (fun env he => swap_no env he (by rfl)) (fun env he => swap_none env he (by rfl)) (fun _ => rfl))
    (rs_cons (rs_if (rt_w (rw_or (rt_cmp (fun _ _ C => o_ne C) (re_lc (own := [("one", 18)]) nd_law rfl (ri_src (xv 16)) (blkOk_by (by decide +kernel)) (xn 18 nd_law) (.one (rt_cmp (fun _ _ C => o_ne C) (told_law T TB (k := 1) (ex_cons (T.exm (fm 5 rfl) (fm 5 rfl) (fm 23 rfl)) (ex_nil)) (re_call (c_unpacked_rows_1 T TB) (by decide) rfl (ra_cons (xv 18) (ra_nil) (fun _ => rfl)) (fun _ => rfl) (fun _ => rfl)) (by decide) rfl rfl (lamS_by (by decide +kernel)) (fun _ => rfl) (fun _ _ _ _ _ => rfl)) (re_str) rfl)) (xv 18) (fun _ _ => rfl)) (re_lst false (ra_nil)) rfl) (rw_or1 (rt_cmp (fun _ _ C => o_ne C) (re_call (c_packed_rows_1 T TB) (by decide) rfl (ra_cons (re_lst false (ra_nil)) (ra_nil) (fun _ => rfl)) (fun _ => rfl) (fun _ => rfl)) (re_tup (ra_nil)) rfl))))
    (rs_one (rs_ret (re_bl)))
    (rs_nil))
    (rs_one (rs_ret (re_and (re_cmp (fun _ _ C => o_eq C) (told_law T TB (k := 2) (ex_cons (T.exm (fm 5 rfl) (fm 5 rfl) (fm 23 rfl)) (ex_nil)) (re_make (imm := false) (mk_Recording_2 T TB) (by decide) rfl (ra_cons (re_make (imm := true) (mk_Game_2 T TB) (by decide) rfl (ra_cons (re_int) (ra_cons (re_gfn T (fm 22 rfl) rfl) (ra_nil) (fun _ => rfl)) (fun _ => rfl)) (fun _ => rfl) (fun _ => rfl)) (ra_cons (re_int) (ra_nil) (fun _ => rfl)) (fun _ => rfl)) (fun _ => rfl) (fun _ => rfl)) (by decide) rfl rfl (lamS_by (by decide +kernel)) (fun _ => rfl) (fun _ _ _ _ _ => rfl)) (re_str) rfl) (re_and (re_cmp (fun _ _ C => o_eq C) (told_law T TB (k := 2) (ex_cons (T.exm (fm 5 rfl) (fm 5 rfl) (fm 23 rfl)) (ex_nil)) (re_meth (k := 2) (re_make (imm := false) (mk_Recording_1 T TB) (by decide) rfl (ra_cons (re_make (imm := true) (mk_Game_2 T TB) (by decide) rfl (ra_cons (re_int) (ra_cons (re_gfn T (fm 22 rfl) rfl) (ra_nil) (fun _ => rfl)) (fun _ => rfl)) (fun _ => rfl) (fun _ => rfl)) (ra_nil) (fun _ => rfl)) (fun _ => rfl) (fun _ => rfl)) (mt_cons (((c_Recording_seek_2 T TB)).up (by decide)) (mt_nil)) (by decide) (ra_cons (re_un (fun _ _ C => o_neg C) (re_int)) (ra_nil) (fun _ => rfl)) (fun _ => rfl) (fun _ => rfl) (fun _ => rfl)) (by decide) rfl rfl (lamS_by (by decide +kernel)) (fun _ => rfl) (fun _ _ _ _ _ => rfl)) (re_str) rfl) (re_one (re_cmp (fun _ _ C => o_eq C) (re_attr (re_make (imm := false) (mk_Recording_1 T TB) (by decide) rfl (ra_cons (re_make (imm := true) (mk_Game_2 T TB) (by decide) rfl (ra_cons (re_int) (ra_cons (re_gfn T (fm 22 rfl) rfl) (ra_nil) (fun _ => rfl)) (fun _ => rfl)) (fun _ => rfl) (fun _ => rfl)) (ra_nil) (fun _ => rfl)) (fun _ => rfl) (fun _ => rfl)) (fc_cons (T.clsF (fm 7 rfl) (fm 8 rfl) (fm 10 rfl)) (fc_nil)) (fun _ => rfl)) (re_int) rfl))))))))
theorem fr_law {g : G} (T : Top g fa fn) (TB : Tbs g) : ∃ fd, FnR g 6 (He.fAd g.K d_law.at_) fd P_law F_law ∧ FunD g.K d_law.name d_law.qual d_law.params d_law.body d_law.scope (d_law.dvs g.K) (d_law.kws g.K) (He.fAd g.K d_law.at_) fd := by
  obtain ⟨fd, F⟩ := T.defs d_law (dm 14 rfl)
  exact ⟨fd, fnR_top (N := N_law) (ps := P_law) F sc_law (r_law T TB) (fun e he hn => by rw [TB.cods] at he; exact (List.mem_cons.mp he).elim (fun z => by subst z; exact ⟨rfl, rfl⟩) fun z => nomatch z), F⟩
/-! the head, the end -/
def tf : List He.Defn := [("law", none)]
abbrev RR : PySem.W.OpenRow := PySem.W.OpenLaw.row LW
abbrev hk : PySem.W.Hook := He.hookX 5 fa fn [] tf (fun _ => true)
def ob (s : PySem.W.SharedT) : He.AlX := He.obsX 5 fa fn [] tf (fun _ => true) (HandSHeadRun.getT s)
theorem ob_eq (s : PySem.W.SharedT) : ob s = hk.obs s.abs := He.obsX_eq (HandSHeadRun.getT_eq s)
def others : List PySem.Str := ["GameError", "PlayError", "Recording", "Game", "MOST_FRAMES", "packed_rows", "unpacked_rows", "_law_dice", "_law_roll", "_law_rounds", "_law_told", "_law_step"]
theorem run (w : World) : HandSHeadRun.RunEq RR (PySem.W.view RR.prog [16]) hk ob 6000 others w := by
  intro os
  kernel_rfl
def gOf (P : Program) (w : World) (K : PySem.W.Frag) (mg : Str → Option Value) (base : Heap) : G where
  P := P
  w := w
  K := K
  mg := mg
  base := base
  tb := Tabs (tabsOf K)
  cods := codsOf K
  tbk := fun H H' k t => tabs_keep k t
/-- the law's own words: what the ghost answers -/
def Keeps : Prop := ∀ ns : List Int, ns.length ≤ 63 → (∀ z ∈ ns, Builtin.Int.intBits z ≤ 1048576) → ∃ S, F_law [.sq (ns.map .int)] [] = .ok (.bl true) S
theorem facts (hm : Keeps) {P : Program} {w : World} {K : PySem.W.Frag} {h : Heap} {mg : Str → Option Value} {f : Addr} (X : K.In h) (Gn : h.Ns mainGlobals mg) (hfa : mg ("law" : Str) = some (.ref f)) (c : He.SaysX fa fn [] tf (fun _ => true) w h K) : EndOk P w h mg f 6 := by
  have hd : ∀ f ∈ fa, f.ok K = true := fun f hf => c.t.d.facts hf
  have hdf : ∀ d ∈ fn, ∃ fd, FunD K d.name d.qual d.params d.body d.scope (d.dvs K) (d.kws K) (He.fAd K d.at_) fd := fun d h => c.t.d.defs h
  have eL : f = He.fAd K d_law.at_ := by
    have z := He.glo_ok X Gn (hd _ (fm 0 rfl : He.Fa.glo "law" ∈ fa))
    rw [hfa] at z
    cases z; rfl
  obtain ⟨fd, FD⟩ := hdf d_law (dm 14 rfl)
  have hb := FunD.bindsA (ps := ["script"]) FD fun _ _ _ _ _ _ us hl => match us, hl with | [_], _ => rfl
  refine end_of (F := F_law) (gOf := fun base => gOf P w K mg base) (tf := tf) (T := tabsOf K) X c (fun _ _ => Iff.rfl) (fun _ => rfl) (fun p hp => tabs_cT hp) hm fd (fun s v => hb s [v] rfl) fun base KX Gb hTB => ?_
  have T : Top (gOf P w K mg base) fa fn := ⟨hd, hdf, KX, Gb⟩
  have TB : Tbs (gOf P w K mg base) := ⟨rfl, fun _ => Iff.rfl, fun e he => hTB (e.2.2.1, e.2.2.2) (cods_cT he)⟩
  obtain ⟨fd2, hF, FD2⟩ := fr_law T TB
  have e2 : fd2 = fd := funD_one FD2 FD
  subst e2
  rw [eL]
  exact hF.ok

end K15
open PySem PySem.W PySem.Calls PyProof.Rows in
set_option maxRecDepth 100000 in
set_option maxHeartbeats 0 in
theorem K15_end (hm : K15.Keeps) : PySem.Challenge.rw_gamestack_k15_recordings_that_are_sought.Holds := by
  w_on; o_law
  refine HandSHeadRun.head_any (r := OpenLaw.row PySem.Challenge.rw_gamestack_k15_recordings_that_are_sought) (q := view (OpenLaw.row PySem.Challenge.rw_gamestack_k15_recordings_that_are_sought).prog [16]) (H := K15.hk) (ob := K15.ob) (M := 6000) (loose := K15.others) (d := HandSHeadRun.topDef (OpenLaw.row PySem.Challenge.rw_gamestack_k15_recordings_that_are_sought).prog 16) (kwd := []) K15.ob_eq
    (by kernel_rfl) (fun s => by kernel_rfl) K15.run (by kernel_rfl) (by kernel_rfl) (by kernel_rfl) (by rfl) (by first | assumption | decide +kernel) (by decide +kernel) ⟨rfl, rfl, rfl, rfl, rfl, by decide +kernel⟩ ?hw ?hc
  case hw => w_witness2
  case hc =>
    refine Gp.walk_G (l := PySem.Challenge.rw_gamestack_k15_recordings_that_are_sought) (n := 63) (k := 6) (x := "script") rfl (by decide) (by kernel_rfl) ⟨rfl, by decide, by decide⟩ ?F
    intro w mg fa h Y G hmg0
    obtain ⟨K, KX, c⟩ := Y
    have e : (HandSHeadRun.topDef (OpenLaw.row PySem.Challenge.rw_gamestack_k15_recordings_that_are_sought).prog 16).name = ("law" : PySem.Str) := by kernel_rfl
    rw [e] at hmg0
    exact K15.facts hm KX G hmg0 c


set_option Elab.async false
set_option linter.all false
set_option maxRecDepth 100000
set_option maxHeartbeats 1000000
namespace K15
open PySem PySem.Spec L2 Gp
theorem fmod_nn {a b : Int} (h : 0 ≤ b) : a.fmod b = a % b := Int.fmod_eq_emod_of_nonneg a h
theorem fdiv_nn {a b : Int} (h : 0 ≤ b) : a.fdiv b = a / b := Int.fdiv_eq_ediv_of_nonneg a h
abbrev II := Int × Int
/-- a row, or a state -/
def rw2 (p : II) : D := .tup [.int p.1, .int p.2]
/-- the next state -/
def stp (s r : II) : II := ((s.1 * 31 + r.1 + 7 * r.2) % 1009, s.2 + 1)
theorem mulOk_r {i j : Int} (h1 : -(18446744073709551616) < j) (h2 : j < 18446744073709551616) : mulOk i j = true := by simp [mulOk, h1, h2]
theorem mulOk_l {i j : Int} (h1 : -(18446744073709551616) < i) (h2 : i < 18446744073709551616) : mulOk i j = true := by simp [mulOk, h1, h2]
theorem divOk_s {j : Int} (h1 : 0 < j) (h2 : j < 1073741824) : divOk j = true := by
  simp only [divOk, Bool.or_eq_true, Bool.and_eq_true, decide_eq_true_eq]; exact .inl ⟨by omega, by omega⟩
theorem law_step_ev {s r : II} {S : Sto} : F_law_step [rw2 s, rw2 r] S = .ok (rw2 (stp s r)) S := by
  simp [F_law_step, m_law_step, startG, rw2, mulOk_r, mulOk_l, fmod_nn, stp]
  rw [tidy_id (by simp [fzB])]
abbrev dcC (a b c : Int) : Cell := .lst [.int a, .int b, .int c]
theorem roll_ev {S : Sto} {n : Nat} {a b c m : Int} (h : S[n]? = some (dcC a b c)) (hc : Cl S) (h1 : 1 ≤ m) (h2 : m ≤ 100000000) :
    ∃ r a' b' c', 0 ≤ r ∧ r < m ∧ F_law_roll [.ref n, .int m] S = .ok (.int r) (S.set n (dcC a' b' c')) := by
  show ∃ r a' b' c', 0 ≤ r ∧ r < m ∧ b_law_roll (recN b_law_roll 3) [.ref n, .int m] S = .ok (.int r) (S.set n (dcC a' b' c'))
  generalize recN b_law_roll 3 = G_
  have hn := lt_of_get h
  have hm : ¬ m = 0 := by omega
  have hg : ¬ 100000000 < m := by omega
  have hd : divOk m = true := divOk_s (by omega) (by omega)
  have h7 : divOk 7 = true := by decide
  have ix : ∀ {T : Sto} {x y z i : Int}, T[n]? = some (dcC x y z) → gIx (.ref n) (.int i) T = (atI [.int x, .int y, .int z] i).map fun d => (d, T) := fun e => gIx_lst e
  have st : ∀ {x y z : Int}, (S.set n (dcC x y z))[n]? = some (dcC x y z) := get_set_eq hn
  have p0 : ∀ {T : Sto} {x y z w : Int}, T[n]? = some (dcC x y z) → pSet (.ref n) (.int 0) (.int w) T = some (T.set n (dcC w y z)) := fun e => by simp [pSet, e, setL, ixN]
  have p1 : ∀ {T : Sto} {x y z w : Int}, T[n]? = some (dcC x y z) → pSet (.ref n) (.int 1) (.int w) T = some (T.set n (dcC x w z)) := fun e => by simp [pSet, e, setL, ixN]
  have p2 : ∀ {T : Sto} {x y z w : Int}, T[n]? = some (dcC x y z) → pSet (.ref n) (.int 2) (.int w) T = some (T.set n (dcC x y w)) := fun e => by simp [pSet, e, setL, ixN]
  have cl : ∀ {x y z : Int}, Cl (S.set n (dcC x y z)) := hc.set (by simp [cloC, cloL, clo])
  have td : ∀ {x y z w : Int}, tidy S (.ok (.int w) (S.set n (dcC x y z))) = .ok (.int w) (S.set n (dcC x y z)) := tidy_cl (by simp) cl rfl
  by_cases hu : c = 2 ∨ (c = 1 ∧ 0 < a)
  · refine ⟨a.fmod m, a.fdiv m, b, c, ?_, ?_, ?_⟩
    · rw [fmod_nn (by omega)]; exact Int.emod_nonneg _ hm
    · rw [fmod_nn (by omega)]; exact Int.emod_lt_of_pos _ (by omega)
    rcases hu with e | ⟨e1, e2⟩
    · subst e
      simp [b_law_roll, m_law_roll, startG, ix h, hm, hd, p0 h, td]
    · subst e1
      simp [b_law_roll, m_law_roll, startG, ix h, hm, hd, p0 h, td, e2]
  · have hz : 0 ≤ ((a * 48271 + b * 69621 + 11).fmod 2147483647).fdiv 7 := by
      rw [fmod_nn (by omega), fdiv_nn (by omega)]; omega
    refine ⟨(((a * 48271 + b * 69621 + 11).fmod 2147483647).fdiv 7).fmod m, (a * 48271 + b * 69621 + 11).fmod 2147483647, b + 1, 0, ?_, ?_, ?_⟩
    · rw [fmod_nn (by omega)]; exact Int.emod_nonneg _ hm
    · rw [fmod_nn (by omega)]; exact Int.emod_lt_of_pos _ (by omega)
    have hu2 : ¬ c = 2 := fun e => hu (.inl e)
    by_cases h1c : c = 1
    · have ha : ¬ 0 < a := fun e => hu (.inr ⟨h1c, e⟩)
      subst h1c
      simp [b_law_roll, m_law_roll, startG, ix h, hm, hd, h7, p2 h, p0 st, p1 st, ix st, mulOk_r, td, hg, ha]
    · simp [b_law_roll, m_law_roll, startG, ix h, hm, hd, h7, p2 h, p0 st, p1 st, ix st, mulOk_r, td, hg, hu2, h1c]
end K15

set_option Elab.async false
set_option linter.all false
set_option maxRecDepth 100000
set_option maxHeartbeats 1000000
namespace K15
open PySem PySem.Spec L2 Gp
theorem dice_ev {z : Int} {S : Sto} : ∃ a b c, F_law_dice [.int z] S = .ok (.ref S.length) (S ++ [dcC a b c]) := by
  have hp : gPow (.int 10) (.int 18) S = some (.int 1000000000000000000, S) := by rfl
  by_cases h : -10 < z ∧ z < 10
  · refine ⟨if z < 0 then -z else z, 0, 2, ?_⟩
    simp [F_law_dice, m_law_dice, startG, h]
  · refine ⟨z, 1 + z.fmod 1009, if 1000000000000000000 ≤ z then 1 else 0, ?_⟩
    by_cases h1 : -10 < z
    · have h2 : ¬ z < 10 := fun e => h ⟨h1, e⟩
      simp [F_law_dice, m_law_dice, startG, h1, h2, hp]
    · simp [F_law_dice, m_law_dice, startG, h1, hp]
theorem rounds_ev {ns : List Int} (hl : ns.length ≤ 63) : ∃ a b c, F_law_rounds [.sq (ns.map .int), .int 1] [] = .ok (.ref 0) [.lst [.ref 1], dcC a b c] := by
  have key : ∀ z : Int, ∃ a b c, gLc false 1000000 (gSrc srcOf (gVar 2)) (nName 3) none (gCall F_law_dice [gVar 3] []) [3] [some (.sq (ns.map .int)), some (.int 1), some (.ls [.int z]), none] [] = .ok (.ref 0) [.lst [.ref 1], dcC a b c] := by
    intro z
    obtain ⟨a, b, c, e⟩ := dice_ev (z := z) (S := [.lst []])
    refine ⟨a, b, c, ?_⟩
    have hs : (0 : Nat) < sizeLine := by decide
    simp [gLc, gLc0, gSrc, srcOf, ulOf, IR.res, unlR, wipeG, lcN, nName, tstG, fixL, e, hs]
  cases ns with
  | nil =>
    obtain ⟨a, b, c, e⟩ := key 0
    refine ⟨a, b, c, ?_⟩
    have : gSl false (gVar 0) none (some (gVar 1)) [some (.sq []), some (.int 1), none, none] [] = .ok (.ls []) [] := rfl
    have h2 : gEq (.ls []) (.ls []) [] = some (.bl true, []) := gEq_self rfl
    simp only [List.map_nil] at e
    simp [F_law_rounds, m_law_rounds, startG, this, h2, e]
  | cons z ns =>
    obtain ⟨a, b, c, e⟩ := key z
    refine ⟨a, b, c, ?_⟩
    have : gSl false (gVar 0) none (some (gVar 1)) [some (.sq ((z :: ns).map .int)), some (.int 1), none, none] [] = .ok (.ls [.int z]) [] := by
      have := cutD_take (xs := ((z :: ns).map D.int)) (k := 1)
      simp only [List.map_cons, List.take_succ_cons, List.take_zero] at this
      simp [gSl, gPart, gSlice, mkL]
      exact this
    have h2 : gEq (.ls [.int z]) (.ls []) [] = some (.bl false, []) := by rw [gEq_nil rfl]; simp
    simp only [List.map_cons] at e this
    simp [F_law_rounds, m_law_rounds, startG, this, h2, e]
end K15

set_option Elab.async false
set_option linter.all false
set_option maxRecDepth 100000
set_option maxHeartbeats 1000000
namespace K15
open PySem PySem.Spec L2 Gp
def rnn (s : II) (l : List II) : II := l.foldl stp s
def sts (s : II) (l : List II) : List II := (List.range (l.length + 1)).map fun k => rnn s (l.take k)
def kp (s : II) (e : Nat) (l : List II) : List (D × D) := (List.range (l.length / e + 1)).map fun (j : Nat) => (D.int ((j * e : Nat) : Int), rw2 (rnn s (l.take (j * e))))
theorem rnn_snoc {s : II} {l : List II} {r : II} : rnn s (l ++ [r]) = stp (rnn s l) r := by simp [rnn]
theorem sts_len {s : II} {l : List II} : (sts s l).length = l.length + 1 := by simp [sts]
theorem sts_get {s : II} {l : List II} {k : Nat} (h : k ≤ l.length) : (sts s l)[k]? = some (rnn s (l.take k)) := by
  have : k < l.length + 1 := by omega
  simp [sts, this]
theorem sts_snoc {s : II} {l : List II} {r : II} : sts s (l ++ [r]) = sts s l ++ [stp (rnn s l) r] := by
  unfold sts
  rw [List.length_append, List.length_singleton, List.range_succ, List.map_append]
  congr 1
  · refine List.map_congr_left fun k hk => ?_
    rw [List.take_append_of_le_length (by have := List.mem_range.mp hk; omega)]
  · have : l.length + 1 = (l ++ [r]).length := by simp
    simp only [List.map_cons, List.map_nil]
    rw [this, List.take_length, rnn_snoc]
theorem sts_take {s : II} {l : List II} {f : Nat} (h : f ≤ l.length) : sts s (l.take f) = (sts s l).take (f + 1) := by
  apply List.ext_getElem?
  intro i
  rcases Nat.lt_or_ge i (f + 1) with hi | hi
  · rw [sts_get (by rw [List.length_take]; omega), List.getElem?_take_of_lt hi, sts_get (by omega), List.take_take, Nat.min_eq_left (by omega)]
  · rw [List.getElem?_eq_none (by rw [sts_len, List.length_take]; omega), List.getElem?_eq_none (by rw [List.length_take]; omega)]
abbrev gameD (s : II) : D := .ob "Game" [("first", rw2 s), ("step", .fn "_law_step")]
abbrev RecC (s : II) (e : Nat) (r k : Nat) (last : II) : Cell := .obj "Recording" [("game", gameD s), ("each", .int e), ("rows", .ref r), ("kept", .ref k), ("last", rw2 last)]
theorem get_at {S T : Sto} {c : Cell} : (S ++ c :: T)[S.length]? = some c := by simp
theorem set_at {S T : Sto} {c d : Cell} : (S ++ c :: T).set S.length d = S ++ d :: T := by simp
theorem get_at2 {S T : Sto} {c d : Cell} : (S ++ c :: d :: T)[S.length + 1]? = some d := by simp [List.getElem?_append_right]
theorem set_at2 {S T : Sto} {c d e : Cell} : (S ++ c :: d :: T).set (S.length + 1) e = S ++ c :: e :: T := by simp [List.set_append_right]
theorem get_at3 {S T : Sto} {c d e : Cell} : (S ++ c :: d :: e :: T)[S.length + 2]? = some e := by simp [List.getElem?_append_right]
theorem set_at3 {S T : Sto} {c d e f : Cell} : (S ++ c :: d :: e :: T).set (S.length + 2) f = S ++ c :: d :: f :: T := by simp [List.set_append_right]
theorem len1 {S : Sto} {c : Cell} : (S ++ [c]).length = S.length + 1 := by simp
theorem len2 {S : Sto} {c d : Cell} : (S ++ [c, d]).length = S.length + 2 := by simp
theorem game_ev {s : II} {S : Sto} : gMake true "Game" F_Game_init [gC (rw2 s), gC (.fn "_law_step")] [] [] S = .ok (gameD s) S := by
  simp [Gp.newObj, F_Game_init, m_Game_init, startG, setA, putD, set_at]
  rw [tidy_new]
  simp [frz, pmap, omap, rw2]
theorem rec_new {s : II} {e : Nat} {S : Sto} (he : 1 ≤ e) : Gp.newObj "Recording" F_Recording_init [gameD s, .int e] S = .ok (.ref S.length) (S ++ [RecC s e (S.length + 1) (S.length + 2) s, .lst [], .dict 0 false [(.int 0, rw2 s)]]) := by
  have h1 : ¬ (e : Int) < 1 := by omega
  have ha : ∀ {T : Sto}, gAttr ["Game"] "first" (gameD s) T = some (rw2 s, T) := fun {T} => by simp [gAttr, lookD]
  simp [Gp.newObj, F_Recording_init, m_Recording_init, startG, setA, putD, h1, set_at, set_at2, set_at3, get_at, get_at2, get_at3, len1, len2, gDisp, gDispN, ha, dput, keyOk, flatKey]
end K15

set_option Elab.async false
set_option linter.all false
set_option maxRecDepth 100000
set_option maxHeartbeats 1000000
namespace K15
open PySem PySem.Spec L2 Gp
structure RecAt (S : Sto) (o r k : Nat) (s : II) (e : Nat) (l : List II) : Prop where
  ho : S[o]? = some (RecC s e r k (rnn s l))
  hr : S[r]? = some (.lst (l.map rw2))
  hk : S[k]? = some (.dict 0 false (kp s e l))
  nr : o ≠ r
  nk : o ≠ k
  rk : r ≠ k
/-- all others stay -/
def Fr (xs : List Nat) (S S' : Sto) : Prop := S.length ≤ S'.length ∧ ∀ n c, n ∉ xs → S[n]? = some c → S'[n]? = some c
theorem Fr.rfl {xs : List Nat} {S : Sto} : Fr xs S S := ⟨Nat.le_refl _, fun _ _ _ h => h⟩
theorem Fr.trans {xs : List Nat} {S T U : Sto} (h : Fr xs S T) (h' : Fr xs T U) : Fr xs S U := ⟨Nat.le_trans h.1 h'.1, fun n c hn x => h'.2 n c hn (h.2 n c hn x)⟩
theorem Fr.set {xs : List Nat} {S : Sto} {n : Nat} {c : Cell} (h : n ∈ xs) : Fr xs S (S.set n c) := ⟨by simp, fun m d hm x => by rw [get_set_ne (fun e => hm (by rw [← e]; exact h))]; exact x⟩
theorem Fr.app {xs : List Nat} {S T : Sto} : Fr xs S (S ++ T) := ⟨by simp, fun n c _ x => get_app x⟩
theorem RecAt.fr {xs : List Nat} {S S' : Sto} {o r k : Nat} {s : II} {e : Nat} {l : List II} (h : RecAt S o r k s e l) (f : Fr xs S S') (h1 : o ∉ xs) (h2 : r ∉ xs) (h3 : k ∉ xs) : RecAt S' o r k s e l :=
  ⟨f.2 _ _ h1 h.ho, f.2 _ _ h2 h.hr, f.2 _ _ h3 h.hk, h.nr, h.nk, h.rk⟩
theorem kp_snoc {s : II} {e : Nat} {l : List II} {p : II} (he : 0 < e) : kp s e (l ++ [p]) = if (l.length + 1) % e = 0 then kp s e l ++ [(.int ((l.length + 1 : Nat) : Int), rw2 (rnn s (l ++ [p])))] else kp s e l := by
  have tk : ∀ j, j < l.length / e + 1 → (l ++ [p]).take (j * e) = l.take (j * e) := fun j hj => by
    rw [List.take_append_of_le_length]
    exact Nat.le_trans (Nat.mul_le_mul_right e (Nat.lt_succ_iff.mp hj)) (Nat.div_mul_le_self _ _)
  have m : ∀ n, n ≤ l.length / e + 1 → (List.range n).map (fun (j : Nat) => (D.int ((j * e : Nat) : Int), rw2 (rnn s ((l ++ [p]).take (j * e))))) = (List.range n).map (fun (j : Nat) => (D.int ((j * e : Nat) : Int), rw2 (rnn s (l.take (j * e))))) := fun n hn =>
    List.map_congr_left fun j hj => by rw [tk j (by have := List.mem_range.mp hj; omega)]
  unfold kp
  rw [List.length_append, List.length_singleton]
  by_cases h : (l.length + 1) % e = 0
  · rw [if_pos h]
    have e1 : (l.length + 1) / e = l.length / e + 1 := by rw [Nat.succ_div]; simp [Nat.dvd_of_mod_eq_zero h]
    have e2 : (l.length / e + 1) * e = l.length + 1 := by rw [← e1]; exact Nat.div_mul_cancel (Nat.dvd_of_mod_eq_zero h)
    rw [e1, List.range_succ, List.map_append, m _ (Nat.le_refl _)]
    simp only [List.map_cons, List.map_nil]
    rw [e2, List.take_of_length_le (by simp)]
  · rw [if_neg h]
    have e1 : (l.length + 1) / e = l.length / e := by rw [Nat.succ_div, if_neg fun x => h (Nat.mod_eq_zero_of_dvd x)]; rfl
    rw [e1, m _ (Nat.le_refl _)]
theorem kp_key {s : II} {e : Nat} {l : List II} {p : D × D} (h : p ∈ kp s e l) : ∃ j, j * e ≤ l.length ∧ p = (.int ((j * e : Nat) : Int), rw2 (rnn s (l.take (j * e)))) := by
  obtain ⟨j, hj, rfl⟩ := List.mem_map.mp h
  have := List.mem_range.mp hj
  exact ⟨j, Nat.le_trans (Nat.mul_le_mul_right e (by omega)) (Nat.div_mul_le_self _ _), rfl⟩
theorem dput_new {l : List (D × D)} {k v : D} (h : ∀ p ∈ l, p.1 ≠ k) : dput l k v = l ++ [(k, v)] := by
  unfold dput
  rw [if_neg]
  simp only [List.any_eq_true, decide_eq_true_eq, not_exists, not_and]
  exact h
theorem dget_of {l : List (D × D)} {k v : D} (h : (k, v) ∈ l) (hu : ∀ p ∈ l, p.1 = k → p.2 = v) : dget l k = some v := by
  induction l with
  | nil => simp at h
  | cons p l ih =>
    simp only [dget]
    by_cases e : p.1 = k
    · rw [if_pos e, hu p (by simp) e]
    · rw [if_neg e]
      rcases List.mem_cons.mp h with rfl | h
      · exact absurd _root_.rfl e
      · exact ih h fun q hq => hu q (by simp [hq])
theorem kp_get {s : II} {e : Nat} {l : List II} {j : Nat} (he : 0 < e) (h : j * e ≤ l.length) : dget (kp s e l) (.int ((j * e : Nat) : Int)) = some (rw2 (rnn s (l.take (j * e)))) := by
  refine dget_of (List.mem_map.mpr ⟨j, List.mem_range.mpr ?_, _root_.rfl⟩) ?_
  · have := (Nat.le_div_iff_mul_le he).mpr h
    omega
  · intro p hp hk
    obtain ⟨i, _, rfl⟩ := kp_key hp
    simp only [D.int.injEq] at hk
    have : i * e = j * e := by omega
    rw [this]
theorem kp_len {s : II} {e : Nat} {l : List II} : (kp s e l).length = l.length / e + 1 := by simp [kp]
/-! what is at hand -/
section
variable {S : Sto} {o r k e : Nat} {s t : II}
theorem at_game (h : S[o]? = some (RecC s e r k t)) : gAttr ["Recording"] "game" (.ref o) S = some (gameD s, S) := by simp [gAttr, h, lookD]
theorem at_each (h : S[o]? = some (RecC s e r k t)) : gAttr ["Recording"] "each" (.ref o) S = some (.int e, S) := by simp [gAttr, h, lookD]
theorem at_rows (h : S[o]? = some (RecC s e r k t)) : gAttr ["Recording"] "rows" (.ref o) S = some (.ref r, S) := by simp [gAttr, h, lookD]
theorem at_kept (h : S[o]? = some (RecC s e r k t)) : gAttr ["Recording"] "kept" (.ref o) S = some (.ref k, S) := by simp [gAttr, h, lookD]
theorem at_last (h : S[o]? = some (RecC s e r k t)) : gAttr ["Recording"] "last" (.ref o) S = some (rw2 t, S) := by simp [gAttr, h, lookD]
theorem at_step : gAttr ["Game"] "step" (gameD s) S = some (.fn "_law_step", S) := by simp [gAttr, lookD]
theorem set_last (h : S[o]? = some (RecC s e r k t)) {u : II} : setA ["Recording"] "last" (.ref o) (rw2 u) S = some (S.set o (RecC s e r k u)) := by simp [setA, h, putD]
theorem set_rows (h : S[o]? = some (RecC s e r k t)) {n : Nat} : setA ["Recording"] "rows" (.ref o) (.ref n) S = some (S.set o (RecC s e n k t)) := by simp [setA, h, putD]
theorem set_kept (h : S[o]? = some (RecC s e r k t)) {n : Nat} : setA ["Recording"] "kept" (.ref o) (.ref n) S = some (S.set o (RecC s e r n t)) := by simp [setA, h, putD]
theorem len_lst {l : List D} (h : S[r]? = some (.lst l)) : pLen [.ref r] S = some (.int l.length, S) := by simp [pLen, asD, asL, h]
end
theorem add_ev {S : Sto} {o r k e : Nat} {s : II} {l : List II} {p : II} (h : RecAt S o r k s e l) (he : 0 < e) (hl : l.length < 100000) (hc : Cl S) :
    ∃ S', F_Recording_add [.ref o, rw2 p] S = .ok (rw2 (rnn s (l ++ [p]))) S' ∧ RecAt S' o r k s e (l ++ [p]) ∧ Fr [o, r, k] S S' ∧ S'.length = S.length ∧ Cl S' := by
  have nr := h.nr
  have nk := h.nk
  have rk := h.rk
  have hl1 : ¬ (100000 : Int) ≤ l.length := by omega
  have hs : l.length < sizeLine := by rw [sizeLine_eq]; omega
  have hro := lt_of_get h.ho
  have hrr := lt_of_get h.hr
  have hrk := lt_of_get h.hk
  have g1 : (S.set r (.lst (l.map rw2 ++ [rw2 p])))[o]? = some (RecC s e r k (rnn s l)) := by rw [get_set_ne nr.symm]; exact h.ho
  have g2 : ((S.set r (.lst (l.map rw2 ++ [rw2 p]))).set o (RecC s e r k (stp (rnn s l) p)))[r]? = some (.lst (l.map rw2 ++ [rw2 p])) := by rw [get_set_ne nr]; exact get_set_eq hrr
  have g3 : ((S.set r (.lst (l.map rw2 ++ [rw2 p]))).set o (RecC s e r k (stp (rnn s l) p)))[o]? = some (RecC s e r k (stp (rnn s l) p)) := get_set_eq (by simpa using hro)
  have g4 : ((S.set r (.lst (l.map rw2 ++ [rw2 p]))).set o (RecC s e r k (stp (rnn s l) p)))[k]? = some (.dict 0 false (kp s e l)) := by rw [get_set_ne nk, get_set_ne rk]; exact h.hk
  have hz : ¬ e = 0 := by omega
  have hm : (((l.length : Int) + 1).fmod (e : Int) = 0) ↔ (l.length + 1) % e = 0 := by
    rw [fmod_nn (by omega), show ((l.length : Int) + 1) = ((l.length + 1 : Nat) : Int) from _root_.rfl, ← Int.natCast_emod]
    omega
  have st : F_law_step [rw2 (rnn s l), rw2 p] (S.set r (.lst (l.map rw2 ++ [rw2 p]))) = .ok (rw2 (stp (rnn s l) p)) (S.set r (.lst (l.map rw2 ++ [rw2 p]))) := law_step_ev
  have cl1 : Cl ((S.set r (.lst (l.map rw2 ++ [rw2 p]))).set o (RecC s e r k (stp (rnn s l) p))) := by
    have c1 : Cl (S.set r (.lst (l.map rw2 ++ [rw2 p]))) := hc.set (by
      refine cloL_mem fun d hd => ?_
      have : ∃ q, d = rw2 q := by
        rcases List.mem_append.mp hd with hd | hd
        · obtain ⟨q, _, rfl⟩ := List.mem_map.mp hd; exact ⟨q, _root_.rfl⟩
        · exact ⟨p, List.mem_singleton.mp hd⟩
      obtain ⟨q, rfl⟩ := this
      rfl)
    refine c1.set ?_
    simp only [cloC, cloF, clo, List.length_set, rw2, cloL, hrr, hrk, decide_true, Bool.and_self]
  by_cases hd : (l.length + 1) % e = 0
  · have cl2 : Cl (((S.set r (.lst (l.map rw2 ++ [rw2 p]))).set o (RecC s e r k (stp (rnn s l) p))).set k (.dict 0 false (kp s e (l ++ [p])))) := by
      refine cl1.set (cloM_mem fun q hq => ?_)
      obtain ⟨j, _, rfl⟩ := kp_key hq
      rfl
    refine ⟨((S.set r (.lst (l.map rw2 ++ [rw2 p]))).set o (RecC s e r k (stp (rnn s l) p))).set k (.dict 0 false (kp s e (l ++ [p]))), ?_, ⟨?_, ?_, ?_, nr, nk, rk⟩, ?_, by simp, cl2⟩
    · have dp : dput (kp s e l) (.int ((l.length : Int) + 1)) (rw2 (stp (rnn s l) p)) = kp s e (l ++ [p]) := by
        rw [dput_new, kp_snoc he, if_pos hd, rnn_snoc]; rfl
        intro q hq hk
        obtain ⟨j, hj, rfl⟩ := kp_key hq
        simp only [D.int.injEq] at hk
        omega
      have hk2 : (kp s e l).length < sizeLine := by
        rw [kp_len, sizeLine_eq]
        have := Nat.div_le_self l.length e
        omega
      have ps : pSet (.ref k) (.int ((l.length : Int) + 1)) (rw2 (stp (rnn s l) p)) ((S.set r (.lst (l.map rw2 ++ [rw2 p]))).set o (RecC s e r k (stp (rnn s l) p))) = some (((S.set r (.lst (l.map rw2 ++ [rw2 p]))).set o (RecC s e r k (stp (rnn s l) p))).set k (.dict 0 false (kp s e (l ++ [p])))) := by
        simp only [pSet, g4]
        rw [if_pos ⟨_root_.rfl, hk2⟩, dp]
      have g5 : (((S.set r (.lst (l.map rw2 ++ [rw2 p]))).set o (RecC s e r k (stp (rnn s l) p))).set k (.dict 0 false (kp s e (l ++ [p]))))[o]? = some (RecC s e r k (stp (rnn s l) p)) := by rw [get_set_ne nk.symm]; exact g3
      simp [F_Recording_add, m_Recording_add, startG, at_rows h.ho, len_lst h.hr, hl1, tyG, h.hr, pAppend, hs, at_game g1, at_last g1, at_step, mlook, st, set_last g1, at_rows g3, len_lst g2, at_each g3, hz, hm, hd, at_last g3, at_kept g3, ps, at_last g5, rnn_snoc]
    · rw [get_set_ne nk.symm, rnn_snoc]; exact g3
    · rw [get_set_ne rk.symm, List.map_append]; exact g2
    · exact get_set_eq (by simpa using hrk)
    · exact (Fr.set (by simp)).trans ((Fr.set (by simp)).trans (Fr.set (by simp)))
  · refine ⟨(S.set r (.lst (l.map rw2 ++ [rw2 p]))).set o (RecC s e r k (stp (rnn s l) p)), ?_, ⟨?_, ?_, ?_, nr, nk, rk⟩, ?_, by simp, cl1⟩
    · simp [F_Recording_add, m_Recording_add, startG, at_rows h.ho, len_lst h.hr, hl1, tyG, h.hr, pAppend, hs, at_game g1, at_last g1, at_step, mlook, st, set_last g1, at_rows g3, len_lst g2, at_each g3, hz, hm, hd, at_last g3, rnn_snoc]
    · rw [rnn_snoc]; exact g3
    · rw [List.map_append]; exact g2
    · rw [kp_snoc he, if_neg hd]; exact g4
    · exact (Fr.set (by simp)).trans (Fr.set (by simp))
end K15

set_option Elab.async false
set_option linter.all false
set_option maxRecDepth 100000
set_option maxHeartbeats 1000000
namespace K15
open PySem PySem.Spec L2 Gp
theorem rngL_get {i : Int} {n j : Nat} {d : D} (h : (rngL i 1 n)[j]? = some d) : j < n ∧ d = .int (i + j) := by
  simp only [rngL, List.getElem?_map, Option.map_eq_some_iff] at h
  obtain ⟨a, ha, rfl⟩ := h
  have h1 : j < n := by
    rcases Nat.lt_or_ge j n with x | x
    · exact x
    · rw [List.getElem?_eq_none (by simpa using x)] at ha; cases ha
  rw [List.getElem?_range h1] at ha
  cases ha
  exact ⟨h1, by simp⟩
theorem rngL_len {i c : Int} {n : Nat} : (rngL i c n).length = n := by simp [rngL]
theorem rows_get {S : Sto} {r n : Nat} {l : List II} {p : II} (h : S[r]? = some (.lst (l.map rw2))) (hp : l[n]? = some p) : gIx (.ref r) (.int (n : Int)) S = some (rw2 p, S) := by
  rw [gIx_lst h, Gp.atI_nat]; simp [hp]
theorem take_next {s : II} {l : List II} {n : Nat} {p : II} (hp : l[n]? = some p) : rnn s (l.take (n + 1)) = stp (rnn s (l.take n)) p := by
  rw [List.take_succ, hp]; exact rnn_snoc
abbrev seekLp (n : Nat) : GS := sFor n (gSrcA rngOf2 [gVar 2, gVar 1]) (tName 4)
    (sAsg (gMethF ["Game"] [("_law_step", [], F_law_step)] "step" (gUn (gAttr ["Recording"] "game") (gVar 0)) [gVar 3, gBin gIx (gUn (gAttr ["Recording"] "rows") (gVar 0)) (gVar 4)]) (tName 3))
theorem seek_lp {S : Sto} {o r k e f st n : Nat} {s : II} {l : List II} (h : RecAt S o r k s e l) (hl : l.length ≤ 100000) (hf : f ≤ l.length) (hs : st ≤ f) (hn : 200000 < n) :
    ∃ x, seekLp n [some (.ref o), some (.int f), some (.int st), some (rw2 (rnn s (l.take st))), none] S = .nx [some (.ref o), some (.int f), some (.int st), some (rw2 (rnn s (l.take f))), x] S := by
  have e0 : ((f : Int) - st).toNat = f - st := by omega
  have hit : gSrcA rngOf2 [gVar 2, gVar 1] [some (.ref o), some (.int f), some (.int st), some (rw2 (rnn s (l.take st))), none] S = .ok (fixL (rngL st 1 (f - st))) S none := by
    rw [← e0]
    exact rng2_it _root_.rfl _root_.rfl (by omega) (by omega) (by omega) (by omega)
  have loop := sFor_to (n := n) (t := tName 4)
    (b := (sAsg (gMethF ["Game"] [("_law_step", [], F_law_step)] "step" (gUn (gAttr ["Recording"] "game") (gVar 0)) [gVar 3, gBin gIx (gUn (gAttr ["Recording"] "rows") (gVar 0)) (gVar 4)]) (tName 3)))
    hit fixL_look (by rw [rngL_len]; omega)
    (fun i ρ T => T = S ∧ ∃ x, ρ = [some (.ref o), some (.int f), some (.int st), some (rw2 (rnn s (l.take (st + i)))), x]) (fun _ _ => False)
    ⟨_root_.rfl, none, _root_.rfl⟩ (fun i d ρ T hd hI => by
      obtain ⟨rfl, x, rfl⟩ := hI
      obtain ⟨hi, rfl⟩ := rngL_get hd
      obtain ⟨p, hp⟩ : ∃ p, l[st + i]? = some p := ⟨l[st + i]'(by omega), List.getElem?_eq_getElem _⟩
      have hr := rows_get h.hr hp
      have e3 : ((st : Int) + (i : Int)) = ((st + i : Nat) : Int) := by omega
      have hr' : gIx (.ref r) (.int ((st : Int) + i)) T = some (rw2 p, T) := by rw [e3]; exact hr
      simp [at_game h.ho, at_rows h.ho, at_step, mlook, hr', law_step_ev, TurnTo, ← Nat.add_assoc, take_next hp])
  obtain ⟨ρ, T, e4, e6, x, e7⟩ := loop.nx
  have e5 : st + (f - st) = f := by omega
  rw [rngL_len, e5] at e7
  subst e6; subst e7
  exact ⟨x, e4⟩
theorem seek_ok {S : Sto} {o r k e f : Nat} {s : II} {l : List II} (h : RecAt S o r k s e l) (he : 0 < e) (he2 : e < 1000) (hl : l.length ≤ 100000) (hf : f ≤ l.length) :
    F_Recording_seek [.ref o, .int f] S = .ok (.tup [rw2 (rnn s (l.take f)), .int ((f % e : Nat) : Int)]) S := by
  obtain ⟨st, hst⟩ : ∃ st : Nat, st = f / e * e := ⟨_, _root_.rfl⟩
  have hsf : st ≤ f := by rw [hst]; exact Nat.div_mul_le_self _ _
  have e1 : (f : Int).fdiv e * e = st := by rw [hst, fdiv_nn (by omega)]; simp
  have e2 : (f : Int) - st = ((f % e : Nat) : Int) := by
    have := Nat.mod_add_div f e
    rw [Nat.mul_comm] at this
    omega
  have hd : divOk e = true := divOk_s (by omega) (by omega)
  have hm : mulOk ((f : Int).fdiv e) e = true := mulOk_r (by omega) (by omega)
  have hk : gIx (.ref k) (.int st) S = some (rw2 (rnn s (l.take st)), S) := by
    simp only [gIx, asD, h.hk]
    rw [if_pos (show keyOk 0 (.int (st : Int)) = true from _root_.rfl)]
    simp only [hst]
    rw [kp_get he (by omega)]; rfl
  have h0 : (0 : Int) ≤ f := by omega
  have hfl : (f : Int) ≤ l.length := by omega
  obtain ⟨x, e4⟩ := seek_lp (n := 1000000) h hl hf hsf (by omega)
  simp -implicitDefEqProofs [F_Recording_seek, m_Recording_seek, startG, at_rows h.ho, len_lst h.hr, h0, hfl, at_each h.ho, hd, hm, e1, at_kept h.ho, hk, e4, e2]
  rw [tidy_id (by simp [fzB, rw2])]
theorem seek_no {S : Sto} {o r k e f : Nat} {s : II} {l : List II} (h : RecAt S o r k s e l) (hf : l.length < f) :
    F_Recording_seek [.ref o, .int f] S = .exc "PlayError" S := by
  have h0 : (0 : Int) ≤ f := by omega
  have hfl : ¬ (f : Int) ≤ l.length := by omega
  simp [F_Recording_seek, m_Recording_seek, startG, at_rows h.ho, len_lst h.hr, h0, hfl]
end K15

set_option Elab.async false
set_option linter.all false
set_option maxRecDepth 100000
set_option maxHeartbeats 1000000
namespace K15
open PySem PySem.Spec L2 Gp
theorem set_same {α : Type} {S : List α} {n : Nat} {c : α} (h : S[n]? = some c) : S.set n c = S := by
  apply List.ext_getElem?
  intro i
  rw [List.getElem?_set]
  by_cases e : n = i
  · subst e
    obtain ⟨h1, h2⟩ := List.getElem?_eq_some_iff.mp h
    rw [if_pos _root_.rfl, if_pos h1, h]
  · rw [if_neg e]
theorem filter_lt {m : Nat} : ∀ {n : Nat}, m ≤ n → (List.range n).filter (fun j => decide (j < m)) = List.range m
  | 0, h => by have : m = 0 := by omega
               subst this; rfl
  | n + 1, h => by
    rw [List.range_succ, List.filter_append]
    rcases Nat.lt_or_ge n m with hm | hm
    · have : m = n + 1 := by omega
      subst this
      rw [List.range_succ]
      congr 1
      · rw [List.filter_eq_self]; intro a ha; have := List.mem_range.mp ha; simp; omega
      · simp
    · rw [filter_lt hm]; simp; omega
def ent (s : II) (e : Nat) (l : List II) (j : Nat) : D × D := (D.int ((j * e : Nat) : Int), rw2 (rnn s (l.take (j * e))))
theorem kp_eq {s : II} {e : Nat} {l : List II} : kp s e l = (List.range (l.length / e + 1)).map (ent s e l) := _root_.rfl
def acc (s : II) (e : Nat) (l : List II) (f i : Nat) : List (D × D) := ((List.range i).filter fun j => decide (j * e ≤ f)).map (ent s e l)
theorem acc_end {s : II} {e f : Nat} {l : List II} (he : 0 < e) (hf : f ≤ l.length) : acc s e l f (l.length / e + 1) = kp s e (l.take f) := by
  unfold acc
  have h1 : ∀ j, decide (j * e ≤ f) = decide (j < f / e + 1) := fun j => by
    have := Nat.le_div_iff_mul_le he (x := j) (y := f)
    exact decide_eq_decide.mpr ⟨fun x => by have := this.mpr x; omega, fun x => this.mp (by omega)⟩
  have h2 : f / e + 1 ≤ l.length / e + 1 := Nat.succ_le_succ (Nat.div_le_div_right hf)
  simp only [h1]
  rw [filter_lt h2, kp_eq, List.length_take, Nat.min_eq_left hf]
  refine List.map_congr_left fun j hj => ?_
  have : j * e ≤ f := by
    have := List.mem_range.mp hj
    exact Nat.le_trans (Nat.mul_le_mul_right e (by omega)) (Nat.div_mul_le_self _ _)
  simp only [ent, List.take_take, Nat.min_eq_left this]
theorem acc_next {s : II} {e f i : Nat} {l : List II} : acc s e l f (i + 1) = if i * e ≤ f then acc s e l f i ++ [ent s e l i] else acc s e l f i := by
  unfold acc
  rw [List.range_succ, List.filter_append, List.map_append]
  by_cases h : i * e ≤ f <;> simp [h]
theorem acc_key {s : II} {e f i : Nat} {l : List II} {p : D × D} (h : p ∈ acc s e l f i) : ∃ j, j < i ∧ p = ent s e l j := by
  obtain ⟨j, hj, rfl⟩ := List.mem_map.mp h
  exact ⟨j, List.mem_range.mp (List.mem_filter.mp hj).1, _root_.rfl⟩
abbrev cutC (n : Nat) : GE := gDc false n (gSrc srcOf (gUn (gAttr ["Recording"] "kept") (gVar 0))) (nName 2) (some (gBin gLe (gVar 2) (gVar 1))) (gVar 2) (gBin gIx (gUn (gAttr ["Recording"] "kept") (gVar 0)) (gVar 2)) [2]
theorem cut_dc {S : Sto} {o r k e f n : Nat} {s t : II} {l : List II} (ho : S[o]? = some (RecC s e r k t)) (hk : S[k]? = some (.dict 0 false (kp s e l))) (nk : o ≠ k) (he : 0 < e) (hl : l.length ≤ 100000) (hf : f ≤ l.length) (hn : 200000 < n) :
    cutC n [some (.ref o), some (.int f), none] S = .ok (.ref S.length) (S ++ [Cell.dict 0 false (kp s e (l.take f))]) := by
  have hkl := lt_of_get hk
  have go : ∀ a : List Cell, (S.set k (.dict 0 true (kp s e l)) ++ a)[o]? = some (RecC s e r k t) := fun a => get_app (by rw [get_set_ne nk.symm]; exact ho)
  have gk : ∀ a : List Cell, (S.set k (.dict 0 true (kp s e l)) ++ a)[k]? = some (.dict 0 true (kp s e l)) := fun a => get_app (get_set_eq hkl)
  have hlen : ((kp s e l).map (·.1)).length = l.length / e + 1 := by rw [List.length_map, kp_len]
  have hdl := Nat.div_le_self l.length e
  obtain ⟨S', e1, e2⟩ := dcN_to (lk := fixL ((kp s e l).map (·.1))) (t := nName 2) (c := some (gBin gLe (gVar 2) (gVar 1))) (ek := gVar 2) (e := gBin gIx (gUn (gAttr ["Recording"] "kept") (gVar 0)) (gVar 2)) (ρ0 := [some (.ref o), some (.int f), none]) (n0 := S.length) fixL_look
    (fun i T => T = S.set k (.dict 0 true (kp s e l)) ++ [.dict 0 false (acc s e l f i)]) (fun i d T hd hT => by
      subst hT
      have hi : i < l.length / e + 1 := by have := (List.getElem?_eq_some_iff.mp hd).1; omega
      have hie : i * e ≤ l.length := Nat.le_trans (Nat.mul_le_mul_right e (Nat.lt_succ_iff.mp hi)) (Nat.div_mul_le_self _ _)
      have : d = .int ((i * e : Nat) : Int) := by
        rw [kp_eq, List.map_map, List.getElem?_map, List.getElem?_range hi] at hd
        cases hd; rfl
      subst this
      refine ⟨_, S.set k (.dict 0 true (kp s e l)) ++ [.dict 0 false (acc s e l f i)], _root_.rfl, ?_⟩
      by_cases hc : i * e ≤ f
      · right
        have hc' : ((i * e : Nat) : Int) ≤ (f : Int) := by omega
        refine ⟨by simp only [tstG, ev_bin, ev_var, List.getElem?_cons_zero, List.getElem?_cons_succ, List.set_cons_succ, List.set_cons_zero, Res.bind, gLe_int, res_some, hc', decide_true], .int ((i * e : Nat) : Int), S.set k (.dict 0 true (kp s e l)) ++ [.dict 0 false (acc s e l f i)], rw2 (rnn s (l.take (i * e))), S.set k (.dict 0 true (kp s e l)) ++ [.dict 0 false (acc s e l f i)], acc s e l f i, _root_.rfl, ?_, ?_, _root_.rfl, ?_, ?_⟩
        · have hx : gIx (.ref k) (.int ((i * e : Nat) : Int)) (S.set k (.dict 0 true (kp s e l)) ++ [.dict 0 false (acc s e l f i)]) = some (rw2 (rnn s (l.take (i * e))), S.set k (.dict 0 true (kp s e l)) ++ [.dict 0 false (acc s e l f i)]) := by
            simp only [gIx, asD, gk]
            rw [if_pos (show keyOk 0 (.int ((i * e : Nat) : Int)) = true from _root_.rfl), kp_get he hie]; rfl
          simp only [ev_bin, ev_un, ev_var, List.getElem?_cons_zero, List.getElem?_cons_succ, List.set_cons_succ, List.set_cons_zero, at_kept (go _), Res.bind, res_some, hx]
        · have := get_new (S := S.set k (.dict 0 true (kp s e l))) (c := .dict 0 false (acc s e l f i))
          rw [List.length_set] at this; exact this
        · have : (acc s e l f i).length ≤ i := by
            unfold acc
            rw [List.length_map]
            have := List.length_filter_le (fun j => decide (j * e ≤ f)) (List.range i)
            rwa [List.length_range] at this
          rw [sizeLine_eq]; omega
        · have dp : dput (acc s e l f i) (.int ((i * e : Nat) : Int)) (rw2 (rnn s (l.take (i * e)))) = acc s e l f (i + 1) := by
            rw [dput_new, acc_next, if_pos hc]; rfl
            intro p hp hk
            obtain ⟨j, hj, rfl⟩ := acc_key hp
            simp only [ent, D.int.injEq] at hk
            have h3 : j * e = i * e := by omega
            have := Nat.eq_of_mul_eq_mul_right he h3
            omega
          have := set_new (S := S.set k (.dict 0 true (kp s e l))) (c := .dict 0 false (acc s e l f i)) (d := .dict 0 false (acc s e l f (i + 1)))
          rw [List.length_set] at this
          rw [dp]; exact this
      · left
        have hc' : ¬ ((i * e : Nat) : Int) ≤ (f : Int) := by omega
        refine ⟨by simp only [tstG, ev_bin, ev_var, List.getElem?_cons_zero, List.getElem?_cons_succ, List.set_cons_succ, List.set_cons_zero, Res.bind, gLe_int, res_some, hc', decide_false], ?_⟩
        rw [acc_next, if_neg hc]) n 0 _ (by omega) (by omega) _root_.rfl
  rw [hlen, acc_end he hf] at e2
  subst e2
  have hit : gSrc srcOf (gUn (gAttr ["Recording"] "kept") (gVar 0)) [some (.ref o), some (.int f), none] S = .ok (fixL ((kp s e l).map (·.1))) (S.set k (.dict 0 true (kp s e l))) (some k) := by
    simp only [gSrc, ev_un, ev_var, List.getElem?_cons_zero, Res.bind, at_kept ho, res_some, srcOf, hk, ulOf]
  have hun : unl1 k (S.set k (.dict 0 true (kp s e l)) ++ [Cell.dict 0 false (kp s e (l.take f))]) = S ++ [Cell.dict 0 false (kp s e (l.take f))] := by
    simp only [unl1, gk]
    rw [List.set_append_left _ _ (by simpa using hkl), List.set_set]
    congr 1
    exact set_same hk
  simp only [cutC, gDc, gDc0, hit, IR.res, wipeG, List.set_cons_succ, List.set_cons_zero, List.length_set]
  have e3 : acc s e l f 0 = [] := _root_.rfl
  rw [e3] at e1
  rw [e1]
  simp [unlR, hun]
abbrev recF (s : II) (e r k : Nat) (t : II) : List (Str × D) := [("game", gameD s), ("each", .int e), ("rows", .ref r), ("kept", .ref k), ("last", rw2 t)]
theorem cls_rec {S : Sto} {o r k e : Nat} {s t : II} (h : S[o]? = some (RecC s e r k t)) : clsOf (.ref o) S = some (("Recording" : Str), recF s e r k t) := by simp [clsOf, h]
theorem cut_ok {S : Sto} {o r k e f : Nat} {s : II} {l : List II} (h : RecAt S o r k s e l) (he : 0 < e) (he2 : e < 1000) (hl : l.length ≤ 100000) (hf : f ≤ l.length) (hc : Cl S) :
    ∃ S', F_Recording_cut [.ref o, .int f] S = .ok .non S' ∧ RecAt S' o S.length (S.length + 1) s e (l.take f) ∧ Fr [o] S S' ∧ Cl S' := by
  have hro := lt_of_get h.ho
  have hrr := lt_of_get h.hr
  have hrk := lt_of_get h.hk
  have nr := h.nr
  have nk := h.nk
  have sk := seek_ok h he he2 hl hf
  have i0 : gIx (.tup [rw2 (rnn s (l.take f)), .int ((f % e : Nat) : Int)]) (.int 0) S = some (rw2 (rnn s (l.take f)), S) := rfl
  have co := cls_rec h.ho
  have g1 : (S.set o (RecC s e r k (rnn s (l.take f))))[o]? = some (RecC s e r k (rnn s (l.take f))) := get_set_eq hro
  have g2 : (S.set o (RecC s e r k (rnn s (l.take f))))[r]? = some (.lst (l.map rw2)) := by rw [get_set_ne nr]; exact h.hr
  have sl : gSlice true (.ref r) none (some (f : Int)) (S.set o (RecC s e r k (rnn s (l.take f)))) = some (.ref S.length, S.set o (RecC s e r k (rnn s (l.take f))) ++ [Cell.lst ((l.take f).map rw2)]) := by
    have := cutD_take (xs := l.map rw2) (k := f)
    simp only [gSlice, asL, g2, mkL, if_true, this, List.length_set, List.map_take]
  have g3 : (S.set o (RecC s e r k (rnn s (l.take f))) ++ [Cell.lst ((l.take f).map rw2)])[o]? = some (RecC s e r k (rnn s (l.take f))) := get_app g1
  generalize hT : (S.set o (RecC s e r k (rnn s (l.take f))) ++ [Cell.lst ((l.take f).map rw2)]).set o (RecC s e S.length k (rnn s (l.take f))) = T at *
  have hTl : T.length = S.length + 1 := by rw [← hT]; simp
  have g4 : T[o]? = some (RecC s e S.length k (rnn s (l.take f))) := by rw [← hT]; exact get_set_eq (by simp; omega)
  have g5 : T[k]? = some (.dict 0 false (kp s e l)) := by rw [← hT, get_set_ne nk]; exact get_app (by rw [get_set_ne nk]; exact h.hk)
  have g6 : T[S.length]? = some (.lst ((l.take f).map rw2)) := by
    rw [← hT, get_set_ne (by omega)]
    have := get_new (S := S.set o (RecC s e r k (rnn s (l.take f)))) (c := .lst ((l.take f).map rw2))
    rwa [List.length_set] at this
  have dc := cut_dc (n := 1000000) g4 g5 nk he hl hf (by omega)
  rw [hTl] at dc
  have g7 : (T ++ [Cell.dict 0 false (kp s e (l.take f))])[o]? = some (RecC s e S.length k (rnn s (l.take f))) := get_app g4
  have fr : Fr [o] S T := by rw [← hT]; exact (Fr.set (by simp)).trans (Fr.app.trans (Fr.set (by simp)))
  refine ⟨(T ++ [Cell.dict 0 false (kp s e (l.take f))]).set o (RecC s e S.length (S.length + 1) (rnn s (l.take f))), ?_, ⟨?_, ?_, ?_, by omega, by omega, by omega⟩, ?_, ?_⟩
  · simp -implicitDefEqProofs [F_Recording_cut, m_Recording_cut, startG, -List.map_take, co, lookD, mlook, sk, i0, set_last h.ho, at_rows g1, gSl, gPart, sl, set_rows g3, hT, dc, set_kept g7]
  · exact get_set_eq (by simp; omega)
  · rw [get_set_ne (by omega)]; exact get_app g6
  · rw [get_set_ne (by omega), ← hTl]; exact get_new
  · exact fr.trans (Fr.app.trans (Fr.set (by simp)))
  · have clR : ∀ {b x y : Nat} {z : II}, x < b → y < b → cloC b (RecC s e x y z) = true := fun h1 h2 => by simp [cloC, cloF, clo, rw2, cloL, h1, h2]
    have clT : Cl T := by
      rw [← hT]
      refine Cl.set (Cl.app (hc.set (clR hrr hrk)) ?_) (clR (by simp) (by simp; omega))
      intro c hc
      rw [List.mem_singleton.mp hc]
      refine cloL_mem fun d hd => ?_
      obtain ⟨q, _, rfl⟩ := List.mem_map.mp hd
      rfl
    refine Cl.set (Cl.app clT ?_) (clR (by simp; omega) (by simp; omega))
    intro c hc
    rw [List.mem_singleton.mp hc]
    refine cloM_mem fun q hq => ?_
    obtain ⟨j, _, rfl⟩ := kp_key hq
    rfl
theorem cut_no {S : Sto} {o r k e f : Nat} {s : II} {l : List II} (h : RecAt S o r k s e l) (hf : l.length < f) :
    F_Recording_cut [.ref o, .int f] S = .exc "PlayError" S := by
  have co := cls_rec h.ho
  simp -implicitDefEqProofs [F_Recording_cut, m_Recording_cut, startG, co, lookD, mlook, seek_no h hf]
end K15

set_option Elab.async false
set_option linter.all false
set_option maxRecDepth 100000
set_option maxHeartbeats 1000000
namespace K15
open PySem PySem.Spec L2 Gp
theorem pd_rw2 {S : Sto} {k : Nat} {p : II} : pd S (k + 1) (rw2 p) = some (.tuple [.int p.1, .int p.2]) := by simp [rw2, pd, omap]
theorem eqv_rw2 {p q : II} : PyData.eqv (.tuple [.int p.1, .int p.2]) (.tuple [.int q.1, .int q.2]) = decide (p = q) := by
  obtain ⟨a, b⟩ := p
  obtain ⟨c, d⟩ := q
  simp [PyData.eqv, PyData.eqvAll]
  by_cases h1 : a = c <;> by_cases h2 : b = d <;> simp [h1, h2]
theorem gNe_rw2 {S : Sto} {p q : II} : gNe (rw2 p) (rw2 q) S = some (.bl (decide (p ≠ q)), S) := by
  simp [gNe, gCmp, pd_rw2, fNe, eqv_rw2]
theorem gEq_rw2 {S : Sto} {p q : II} : gEq (rw2 p) (rw2 q) S = some (.bl (decide (p = q)), S) := by
  simp [gEq, gCmp, pd_rw2, fEq, eqv_rw2]
theorem omap_rows {S : Sto} {k : Nat} : ∀ {l : List II}, omap (pd S (k + 1)) (l.map rw2) = some (l.map fun p => PyData.tuple [.int p.1, .int p.2])
  | [] => _root_.rfl
  | p :: l => by simp [omap, pd_rw2, omap_rows (l := l)]
theorem plain_rows {l : List II} : (PyData.list (l.map fun p => PyData.tuple [.int p.1, .int p.2])).plain = true := by
  simp only [PyData.plain]
  exact plainAll_of fun p hp => by obtain ⟨q, _, rfl⟩ := List.mem_map.mp hp; rfl
theorem pd_ls {S : Sto} {l : List II} : pd S 60 (.ls (l.map rw2)) = some (.list (l.map fun p => PyData.tuple [.int p.1, .int p.2])) := by
  simp only [pd, omap_rows]; rfl
theorem pd_lst {S : Sto} {n : Nat} {l : List II} (h : S[n]? = some (.lst (l.map rw2))) : pd S 60 (.ref n) = some (.list (l.map fun p => PyData.tuple [.int p.1, .int p.2])) := by
  rw [pd_ref h, pd_ls]
/-- where two first differ -/
def unl (a b : List II) : List Nat := (List.range (min a.length b.length)).filter fun i => decide (a[i]? ≠ b[i]?)
def due (a b : List II) : D := match unl a b with
  | i :: _ => .int i
  | [] => if a.length = b.length then .non else .int (min a.length b.length : Nat)
theorem unl_nil {a b : List II} (h : ∀ i, i < min a.length b.length → a[i]? = b[i]?) : unl a b = [] := by
  unfold unl
  rw [List.filter_eq_nil_iff]
  intro i hi
  simp [h i (List.mem_range.mp hi)]
theorem filter_first {P : Nat → Bool} {i m : Nat} (hi : i < m) (h1 : P i = true) (h0 : ∀ j, j < i → P j = false) : ∃ t, (List.range m).filter P = i :: t := by
  obtain ⟨k, rfl⟩ : ∃ k, m = i + (k + 1) := ⟨m - i - 1, by omega⟩
  refine ⟨((List.range k).map (fun x => i + (x + 1))).filter P, ?_⟩
  rw [List.range_add, List.filter_append]
  have : (List.range i).filter P = [] := by
    rw [List.filter_eq_nil_iff]; intro j hj; simp [h0 j (List.mem_range.mp hj)]
  rw [this, List.nil_append, List.range_succ_eq_map, List.map_cons, List.filter_cons]
  simp only [Nat.add_zero, h1, if_true, List.map_map]
  rfl
theorem unl_comm {a b : List II} : unl a b = unl b a := by
  unfold unl
  rw [Nat.min_comm]
  congr 1
  funext i
  exact decide_eq_decide.mpr ⟨fun h e => h e.symm, fun h e => h e.symm⟩
theorem due_comm {a b : List II} : due a b = due b a := by
  unfold due
  rw [unl_comm, Nat.min_comm]
  cases unl b a with
  | nil => by_cases h : a.length = b.length <;> simp [h, eq_comm]
  | cons => rfl
abbrev diffLp (n : Nat) : GS := sFor n (gSrcA rngOf1 [gCallP pMin [gCallP pLen [gUn (gAttr ["Recording"] "rows") (gVar 0)], gCallP pLen [gUn (gAttr ["Recording"] "rows") (gVar 1)]]]) (tName 2)
    (sIf (gBin gNe (gBin gIx (gUn (gAttr ["Recording"] "rows") (gVar 0)) (gVar 2)) (gBin gIx (gUn (gAttr ["Recording"] "rows") (gVar 1)) (gVar 2)))
    (sRet (gVar 2))
    (sNil))
theorem get_some {α : Type} {l : List α} {i : Nat} (h : i < l.length) : ∃ x, l[i]? = some x := ⟨l[i], List.getElem?_eq_getElem h⟩
theorem min_int {a b : Nat} : min (a : Int) (b : Int) = ((min a b : Nat) : Int) := by omega
theorem diff_lp {S : Sto} {o r k o' r' k' e e' n : Nat} {s s' : II} {a b : List II} (h : RecAt S o r k s e a) (h' : RecAt S o' r' k' s' e' b) (ha : a.length ≤ 100000) (hn : 200000 < n) :
    EndTo (fun ρ T => T = S ∧ (∃ x, ρ = [some (.ref o), some (.ref o'), x]) ∧ ∀ j, j < min a.length b.length → a[j]? = b[j]?) (fun d T => T = S ∧ ∃ i t, unl a b = i :: t ∧ d = .int (i : Nat)) (diffLp n [some (.ref o), some (.ref o'), none] S) := by
  have hit : gSrcA rngOf1 [gCallP pMin [gCallP pLen [gUn (gAttr ["Recording"] "rows") (gVar 0)], gCallP pLen [gUn (gAttr ["Recording"] "rows") (gVar 1)]]] [some (.ref o), some (.ref o'), none] S = .ok (fixL (rngL 0 1 (min a.length b.length))) S none := by
    have := rng1_it (a := gCallP pMin [gCallP pLen [gUn (gAttr ["Recording"] "rows") (gVar 0)], gCallP pLen [gUn (gAttr ["Recording"] "rows") (gVar 1)]]) (ρ := [some (.ref o), some (.ref o'), none]) (S := S) (j := ((min a.length b.length : Nat) : Int)) (by
      simp -implicitDefEqProofs [at_rows h.ho, at_rows h'.ho, len_lst h.hr, len_lst h'.hr, pMin]
      omega) (by omega) (by omega)
    rw [this, Int.toNat_natCast]
  refine (?_ : EndTo (fun ρ T => T = S ∧ (∃ x, ρ = [some (.ref o), some (.ref o'), x]) ∧ ∀ j, j < min a.length b.length → a[j]? = b[j]?) _ _)
  have loop := sFor_to (n := n) (t := tName 2) (b := sIf (gBin gNe (gBin gIx (gUn (gAttr ["Recording"] "rows") (gVar 0)) (gVar 2)) (gBin gIx (gUn (gAttr ["Recording"] "rows") (gVar 1)) (gVar 2)))
    (sRet (gVar 2))
    (sNil)) hit fixL_look (by rw [rngL_len]; omega)
    (fun i ρ T => T = S ∧ (∃ x, ρ = [some (.ref o), some (.ref o'), x]) ∧ ∀ j, j < i → a[j]? = b[j]?) (fun d T => T = S ∧ ∃ i t, unl a b = i :: t ∧ d = .int (i : Nat)) ⟨_root_.rfl, ⟨none, _root_.rfl⟩, fun j hj => by omega⟩ (fun i d ρ T hd hI => by
      obtain ⟨rfl, ⟨x, rfl⟩, hj⟩ := hI
      obtain ⟨hi, rfl⟩ := rngL_get hd
      obtain ⟨p, hp⟩ := get_some (l := a) (i := i) (by omega)
      obtain ⟨q, hq⟩ := get_some (l := b) (i := i) (by omega)
      have e1 := rows_get h.hr hp
      have e2 := rows_get h'.hr hq
      by_cases hpq : p = q
      · simp -implicitDefEqProofs [at_rows h.ho, at_rows h'.ho, e1, e2, gNe_rw2, hpq, TurnTo]
        intro j hj'
        rcases Nat.lt_or_ge j i with x | x
        · exact hj j x
        · have : j = i := by omega
          subst this; rw [hp, hq, hpq]
      · obtain ⟨t, ht⟩ := filter_first (P := fun i => decide (a[i]? ≠ b[i]?)) hi (by simp [hp, hq, hpq]) (fun j hj' => by simp [hj j hj'])
        simp -implicitDefEqProofs [at_rows h.ho, at_rows h'.ho, e1, e2, gNe_rw2, hpq, TurnTo]
        exact ⟨i, ⟨t, ht⟩, rfl⟩)
  rw [rngL_len] at loop
  exact loop
theorem diff_ev {S : Sto} {o r k o' r' k' e e' : Nat} {s s' : II} {a b : List II} (h : RecAt S o r k s e a) (h' : RecAt S o' r' k' s' e' b) (ha : a.length ≤ 100000) :
    F_Recording_first_difference [.ref o, .ref o'] S = .ok (due a b) S := by
  have hl := diff_lp (n := 1000000) h h' ha (by omega)
  generalize hr : diffLp 1000000 [some (.ref o), some (.ref o'), none] S = res at hl
  cases hl with
  | nxt z =>
    obtain ⟨rfl, ⟨x, rfl⟩, hj⟩ := z
    have hu := unl_nil hj
    by_cases hab : a.length = b.length
    · simp -implicitDefEqProofs [F_Recording_first_difference, m_Recording_first_difference, startG, hr, at_rows h.ho, at_rows h'.ho, len_lst h.hr, len_lst h'.hr, pMin, due, hu, hab]
      rw [tidy_id (by rfl)]
    · have hab' : ¬ ((a.length : Int) = b.length) := by omega
      simp -implicitDefEqProofs [F_Recording_first_difference, m_Recording_first_difference, startG, hr, at_rows h.ho, at_rows h'.ho, len_lst h.hr, len_lst h'.hr, pMin, due, hu, hab, hab', min_int]
      rw [tidy_id (by rfl)]
  | ret z =>
    obtain ⟨rfl, i, t, hu, rfl⟩ := z
    simp -implicitDefEqProofs [F_Recording_first_difference, m_Recording_first_difference, startG, hr, due, hu]
    rw [tidy_id (by rfl)]
end K15

set_option Elab.async false
set_option linter.all false
set_option maxRecDepth 100000
set_option maxHeartbeats 1000000
namespace K15
open PySem PySem.Spec L2 Gp
theorem frz_rows {b k : Nat} {S : Sto} {l : List II} : omap (frz b S (k + 1)) (l.map rw2) = some (l.map rw2) := by
  refine omap_id fun d hd => ?_
  obtain ⟨q, _, rfl⟩ := List.mem_map.mp hd
  exact frz_id (by cases k <;> simp [fzB, rw2])
theorem tidy_rows {S : Sto} {l : List II} : tidy S (.ok (.ref S.length) (S ++ [.lst (l.map rw2)])) = .ok (.ls (l.map rw2)) S := by
  refine tidy_new ?_
  simp only [frz, Nat.lt_irrefl, if_false, get_new, frz_rows]; rfl
theorem it_ls {ρ : Ev} {S : Sto} {i : Nat} {l : List D} (h : ρ[i]? = some (some (.ls l))) : gSrc srcOf (gVar i) ρ S = .ok (fixL l) S none := by
  simp only [gSrc, ev_var, h, srcOf, ulOf]
theorem it_tup {ρ : Ev} {S : Sto} {i : Nat} {l : List D} (h : ρ[i]? = some (some (.tup l))) : gSrc srcOf (gVar i) ρ S = .ok (fixL l) S none := by
  simp only [gSrc, ev_var, h, srcOf, ulOf]
theorem take_snoc {α : Type} {l : List α} {i : Nat} {p : α} (h : l[i]? = some p) : l.take (i + 1) = l.take i ++ [p] := by
  rw [List.take_succ, h]; rfl
theorem row_at {l : List II} {i : Nat} {d : D} (h : (l.map rw2)[i]? = some d) : ∃ p, l[i]? = some p ∧ d = rw2 p := by
  simp only [List.getElem?_map, Option.map_eq_some_iff] at h
  obtain ⟨p, h1, rfl⟩ := h
  exact ⟨p, h1, _root_.rfl⟩
abbrev playLp (n : Nat) : GS := sFor n (gSrc srcOf (gVar 1)) (tName 3)
    (sExpr (gMb "list" pAppend (gVar 2) [gMethF ["Game"] [("_law_step", [], F_law_step)] "step" (gVar 0) [gBin gIx (gVar 2) (gUn gNeg (gC (.int 1))), gVar 3]]))
theorem play_lp {S : Sto} {s : II} {l : List II} {n : Nat} (hl : l.length ≤ 100000) (hn : 200000 < n) :
    ∃ x, playLp n [some (gameD s), some (.ls (l.map rw2)), some (.ref S.length), none] (S ++ [.lst [rw2 s]]) = .nx [some (gameD s), some (.ls (l.map rw2)), some (.ref S.length), x] (S ++ [.lst ((sts s l).map rw2)]) := by
  have loop := sFor_to (n := n) (t := tName 3) (b := sExpr (gMb "list" pAppend (gVar 2) [gMethF ["Game"] [("_law_step", [], F_law_step)] "step" (gVar 0) [gBin gIx (gVar 2) (gUn gNeg (gC (.int 1))), gVar 3]]))
    (it_ls (ρ := [some (gameD s), some (.ls (l.map rw2)), some (.ref S.length), none]) (S := S ++ [.lst [rw2 s]]) (i := 1) _root_.rfl) fixL_look (by simp; omega)
    (fun i ρ T => (∃ x, ρ = [some (gameD s), some (.ls (l.map rw2)), some (.ref S.length), x]) ∧ T = S ++ [.lst ((sts s (l.take i)).map rw2)]) (fun _ _ => False)
    ⟨⟨none, _root_.rfl⟩, _root_.rfl⟩ (fun i d ρ T hd hI => by
      obtain ⟨⟨x, rfl⟩, rfl⟩ := hI
      obtain ⟨p, hp, rfl⟩ := row_at hd
      have hi := (List.getElem?_eq_some_iff.mp hp).1
      have g := get_new (S := S) (c := .lst ((sts s (l.take i)).map rw2))
      have hl2 : (sts s (l.take i)).length = i + 1 := by rw [sts_len, List.length_take]; omega
      have e1 : gIx (.ref S.length) (.int (-1)) (S ++ [.lst ((sts s (l.take i)).map rw2)]) = some (rw2 (rnn s (l.take i)), S ++ [.lst ((sts s (l.take i)).map rw2)]) := by
        rw [gIx_lst g, atI_m1, List.length_map, hl2, Nat.add_sub_cancel, List.getElem?_map, sts_get (by rw [List.length_take]; omega), List.take_take, Nat.min_self]; rfl
      have e2 : pAppend (.ref S.length) [rw2 (stp (rnn s (l.take i)) p)] (S ++ [.lst ((sts s (l.take i)).map rw2)]) = some (.non, S ++ [.lst ((sts s (l.take (i + 1))).map rw2)]) := by
        have : ((sts s (l.take i)).map rw2).length < sizeLine := by rw [List.length_map, hl2, sizeLine_eq]; omega
        simp only [pAppend, g]
        rw [if_pos this, set_new, take_snoc hp, sts_snoc, List.map_append]; rfl
      simp -implicitDefEqProofs [TurnTo, tyG, g, at_step, mlook, e1, law_step_ev, e2, -List.map_take])
  obtain ⟨ρ, T, e4, ⟨x, e6⟩, e7⟩ := loop.nx
  rw [List.length_map, List.take_length] at e7
  subst e6; subst e7
  exact ⟨x, e4⟩
theorem played_ev {S : Sto} {s : II} {l : List II} (hl : l.length ≤ 100000) : F_Game_played [gameD s, .ls (l.map rw2)] S = .ok (.ls ((sts s l).map rw2)) S := by
  obtain ⟨x, e⟩ := play_lp (n := 1000000) (S := S) (s := s) hl (by omega)
  have ha : ∀ {T : Sto}, gAttr ["Game"] "first" (gameD s) T = some (rw2 s, T) := fun {T} => by simp [gAttr, lookD]
  simp -implicitDefEqProofs [F_Game_played, m_Game_played, startG, ha, e]
  rw [tidy_rows]
/-! packed -/
abbrev NI := Nat × II
def pkD (x : NI) : D := .tup [.int x.1, rw2 x.2]
def pkS (a : List NI) (p : II) : List NI := match a.getLast? with
  | some (c, q) => if q = p then a.dropLast ++ [(c + 1, p)] else a ++ [(1, p)]
  | none => [(1, p)]
def pk (l : List II) : List NI := l.foldl pkS []
theorem pk_snoc {l : List II} {p : II} : pk (l ++ [p]) = pkS (pk l) p := by simp [pk]
def expd (a : List NI) : List II := a.flatMap fun x => List.replicate x.1 x.2
/-- rows that are packed as they should be -/
def PkOk (a : List NI) : Prop := (∀ x ∈ a, 1 ≤ x.1) ∧ ∀ i x y, a[i]? = some x → a[i + 1]? = some y → x.2 ≠ y.2
theorem pkS_ok {a : List NI} {p : II} (h : PkOk a) : PkOk (pkS a p) ∧ expd (pkS a p) = expd a ++ [p] ∧ (pkS a p).length ≤ a.length + 1 := by
  rcases List.eq_nil_or_concat a with rfl | ⟨b, ⟨c, q⟩, rfl⟩
  · refine ⟨⟨by simp [pkS], ?_⟩, by simp [pkS, expd], by simp [pkS]⟩
    intro i x y h1 h2
    simp [pkS] at h2
  · simp only [List.concat_eq_append] at h ⊢
    by_cases e : q = p
    · subst e
      have e1 : pkS (b ++ [(c, q)]) q = b ++ [(c + 1, q)] := by simp [pkS]
      rw [e1]
      refine ⟨⟨?_, ?_⟩, by simp [expd, List.replicate_succ'], by simp⟩
      · intro x hx
        rcases List.mem_append.mp hx with hx | hx
        · exact h.1 x (by simp [hx])
        · rw [List.mem_singleton.mp hx]; simp
      · intro i x y h1 h2
        have hi : i < b.length := by have := (List.getElem?_eq_some_iff.mp h2).1; simp at this; omega
        rw [List.getElem?_append_left hi] at h1
        rcases Nat.lt_or_ge (i + 1) b.length with hj | hj
        · rw [List.getElem?_append_left hj] at h2
          exact h.2 i x y (by rw [List.getElem?_append_left hi]; exact h1) (by rw [List.getElem?_append_left hj]; exact h2)
        · have : i + 1 = b.length := by omega
          rw [this] at h2
          simp at h2
          subst h2
          exact h.2 i x (c, q) (by rw [List.getElem?_append_left hi]; exact h1) (by rw [this]; simp)
    · have e1 : pkS (b ++ [(c, q)]) p = b ++ [(c, q)] ++ [(1, p)] := by simp [pkS, e]
      rw [e1]
      refine ⟨⟨?_, ?_⟩, by simp [expd], by simp⟩
      · intro x hx
        rcases List.mem_append.mp hx with hx | hx
        · exact h.1 x hx
        · rw [List.mem_singleton.mp hx]; simp
      · intro i x y h1 h2
        rcases Nat.lt_or_ge (i + 1) (b ++ [(c, q)]).length with hj | hj
        · rw [List.getElem?_append_left hj] at h2
          rw [List.getElem?_append_left (by omega)] at h1
          exact h.2 i x y h1 h2
        · have h3 := (List.getElem?_eq_some_iff.mp h2).1
          rw [List.length_append] at h3
          simp only [List.length_singleton] at h3
          have h4 : i + 1 = (b ++ [(c, q)]).length := by omega
          rw [h4, List.getElem?_append_right (Nat.le_refl _)] at h2
          simp at h2
          subst h2
          have h5 : i = b.length := by simp at h4; omega
          rw [List.getElem?_append_left (by omega), h5] at h1
          simp at h1
          subst h1
          exact e
theorem pk_ok0 : ∀ (n : Nat) (l : List II), l.length = n → PkOk (pk l) ∧ expd (pk l) = l ∧ (pk l).length ≤ l.length
  | n, l, h => by
    rcases List.eq_nil_or_concat l with rfl | ⟨m, p, rfl⟩
    · exact ⟨⟨by simp [pk], by simp [pk]⟩, _root_.rfl, by simp [pk]⟩
    · simp only [List.concat_eq_append] at h ⊢
      cases n with
      | zero => simp at h
      | succ n =>
        have ih := pk_ok0 n m (by simpa using h)
        obtain ⟨h1, h2, h3⟩ := pkS_ok (p := p) ih.1
        rw [pk_snoc]
        exact ⟨h1, by rw [h2, ih.2.1], by simp; omega⟩
theorem pk_ok (l : List II) : PkOk (pk l) ∧ expd (pk l) = l ∧ (pk l).length ≤ l.length := pk_ok0 _ l _root_.rfl
/-! ### rows packed -/
theorem gNe_ref {S : Sto} {n : Nat} {l : List D} {x : D} (h : S[n]? = some (.lst l)) : gNe (.ref n) x S = gNe (.ls l) x S := by
  simp only [gNe, gCmp, pd_ref h]
theorem dat_pk {k : Nat} {a : List NI} : isDat (k + 3) (.ls (a.map pkD)) = true := by
  simp only [isDat, List.all_eq_true]
  intro d hd
  obtain ⟨x, _, rfl⟩ := List.mem_map.mp hd
  simp [pkD, rw2, isDat]
abbrev packLp (n : Nat) : GS := sFor n (gSrc srcOf (gVar 0)) (tName 2)
    (sIf (gAnd (gBin gNe (gVar 1) (gLst false [])) (gBin gEq (gBin gIx (gBin gIx (gVar 1) (gUn gNeg (gC (.int 1)))) (gC (.int 1))) (gVar 2)))
    (sAsg (gTup [gBin gAdd (gBin gIx (gBin gIx (gVar 1) (gUn gNeg (gC (.int 1)))) (gC (.int 0))) (gC (.int 1)), gVar 2]) (tSub pSet (gVar 1) (gUn gNeg (gC (.int 1)))))
    (sExpr (gMb "list" pAppend (gVar 1) [gTup [gC (.int 1), gVar 2]])))
theorem pack_lp {S : Sto} {l : List II} {n : Nat} (hl : l.length ≤ 100000) (hn : 200000 < n) :
    ∃ x, packLp n [some (.ls (l.map rw2)), some (.ref S.length), none] (S ++ [.lst []]) = .nx [some (.ls (l.map rw2)), some (.ref S.length), x] (S ++ [.lst ((pk l).map pkD)]) := by
  have loop := sFor_to (n := n) (t := tName 2) (b := sIf (gAnd (gBin gNe (gVar 1) (gLst false [])) (gBin gEq (gBin gIx (gBin gIx (gVar 1) (gUn gNeg (gC (.int 1)))) (gC (.int 1))) (gVar 2)))
    (sAsg (gTup [gBin gAdd (gBin gIx (gBin gIx (gVar 1) (gUn gNeg (gC (.int 1)))) (gC (.int 0))) (gC (.int 1)), gVar 2]) (tSub pSet (gVar 1) (gUn gNeg (gC (.int 1)))))
    (sExpr (gMb "list" pAppend (gVar 1) [gTup [gC (.int 1), gVar 2]])))
    (it_ls (ρ := [some (.ls (l.map rw2)), some (.ref S.length), none]) (S := S ++ [.lst []]) (i := 0) _root_.rfl) fixL_look (by simp; omega)
    (fun i ρ T => (∃ x, ρ = [some (.ls (l.map rw2)), some (.ref S.length), x]) ∧ T = S ++ [.lst ((pk (l.take i)).map pkD)]) (fun _ _ => False)
    ⟨⟨none, _root_.rfl⟩, _root_.rfl⟩ (fun i d ρ T hd hI => by
      obtain ⟨⟨x, rfl⟩, rfl⟩ := hI
      obtain ⟨p, hp, rfl⟩ := row_at hd
      have hi := (List.getElem?_eq_some_iff.mp hp).1
      have hlen : (pk (l.take i)).length ≤ i := by
        have := (pk_ok (l.take i)).2.2
        rw [List.length_take] at this
        omega
      rw [take_snoc hp, pk_snoc]
      generalize pk (l.take i) = a at hlen
      have g := get_new (S := S) (c := .lst (a.map pkD))
      have ne : gNe (.ref S.length) (.ls []) (S ++ [.lst (a.map pkD)]) = some (.bl (decide (a.map pkD ≠ [])), S ++ [.lst (a.map pkD)]) := by rw [gNe_ref g, gNe_nil dat_pk]
      have ap : pAppend (.ref S.length) [.tup [.int 1, rw2 p]] (S ++ [.lst (a.map pkD)]) = some (.non, S ++ [.lst (a.map pkD ++ [.tup [.int 1, rw2 p]])]) := by
        have : (a.map pkD).length < sizeLine := by rw [List.length_map, sizeLine_eq]; omega
        simp only [pAppend, g]
        rw [if_pos this, set_new]
      rcases List.eq_nil_or_concat a with e | ⟨b, ⟨c, q⟩, e⟩
      · subst e
        simp only [List.map_nil] at g ne ap
        simp -implicitDefEqProofs [TurnTo, tyG, g, ne, ap, pkS, pkD]
      · rw [List.concat_eq_append] at e
        subst e
        have l1 : gIx (.ref S.length) (.int (-1)) (S ++ [.lst ((b ++ [(c, q)]).map pkD)]) = some (pkD (c, q), S ++ [.lst ((b ++ [(c, q)]).map pkD)]) := by
          rw [gIx_lst g, atI_m1]; simp
        have st : pSet (.ref S.length) (.int (-1)) (pkD (c + 1, p)) (S ++ [.lst ((b ++ [(c, q)]).map pkD)]) = some (S ++ [.lst ((b ++ [(c + 1, p)]).map pkD)]) := by
          simp only [pSet, g]
          have : setL ((b ++ [(c, q)]).map pkD) (-1) (pkD (c + 1, p)) = some ((b ++ [(c + 1, p)]).map pkD) := by
            simp only [setL, ixN]
            rw [if_neg (by decide), if_pos (by simp; omega)]
            have h9 : (-1 + (((b ++ [(c, q)]).map pkD).length : Int)).toNat = b.length := by simp; omega
            rw [h9, Option.map_some]
            simp [List.set_append_right]
          rw [this, Option.map_some, set_new]
        have e0 : ∀ {T : Sto}, gIx (pkD (c, q)) (.int 0) T = some (.int c, T) := _root_.rfl
        have e1 : ∀ {T : Sto}, gIx (pkD (c, q)) (.int 1) T = some (rw2 q, T) := _root_.rfl
        by_cases hpq : q = p
        · subst hpq
          have e2 : pkS (b ++ [(c, q)]) q = b ++ [(c + 1, q)] := by simp [pkS]
          have ne' : decide ((b ++ [(c, q)]).map pkD ≠ []) = true := by simp
          rw [ne'] at ne
          rw [e2]
          have st' : pSet (.ref S.length) (.int (-1)) (.tup [.int ((c : Int) + 1), rw2 q]) (S ++ [.lst ((b ++ [(c, q)]).map pkD)]) = some (S ++ [.lst ((b ++ [(c + 1, q)]).map pkD)]) := st
          simp -implicitDefEqProofs [TurnTo, ne, l1, e0, e1, gEq_rw2, st', -List.map_append]
        · have e2 : pkS (b ++ [(c, q)]) p = b ++ [(c, q)] ++ [(1, p)] := by simp [pkS, hpq]
          have ne' : decide ((b ++ [(c, q)]).map pkD ≠ []) = true := by simp
          rw [ne'] at ne
          rw [e2, List.map_append]
          simp -implicitDefEqProofs [TurnTo, ne, l1, e0, e1, gEq_rw2, hpq, tyG, g, ap, -List.map_append]
          rfl)
  obtain ⟨ρ, T, e4, ⟨x, e6⟩, e7⟩ := loop.nx
  rw [List.length_map, List.take_length] at e7
  subst e6; subst e7
  exact ⟨x, e4⟩
theorem packed_ev {S : Sto} {l : List II} (hl : l.length ≤ 100000) : F_packed_rows [.ls (l.map rw2)] S = .ok (.tup ((pk l).map pkD)) S := by
  obtain ⟨x, e⟩ := pack_lp (n := 1000000) (S := S) hl (by omega)
  have tp : pTuple [.ref S.length] (S ++ [.lst ((pk l).map pkD)]) = some (.tup ((pk l).map pkD), S ++ [.lst ((pk l).map pkD)]) := by
    simp [pTuple, asL]
  simp -implicitDefEqProofs [F_packed_rows, m_packed_rows, startG, e, tp]
  refine tidy_new ?_
  simp only [frz]
  rw [omap_id]; rfl
  intro d hd
  obtain ⟨y, _, rfl⟩ := List.mem_map.mp hd
  exact frz_id rfl
/-! ### and unpacked -/
theorem expd_take {a : List NI} {i : Nat} {x : NI} (h : a[i]? = some x) : expd (a.take (i + 1)) = expd (a.take i) ++ List.replicate x.1 x.2 := by
  rw [take_snoc h]; simp [expd]
theorem expd_le {a : List NI} {i : Nat} : (expd (a.take i)).length ≤ (expd a).length := by
  have : expd a = expd (a.take i) ++ expd (a.drop i) := by
    unfold expd
    rw [← List.flatMap_append, List.take_append_drop]
  rw [this, List.length_append]; omega
abbrev unpBd : GS := sSeq (sIf (gOr (gBin gLt (gVar 3) (gC (.int 1))) (gOr (gAnd (gBin gGt (gVar 2) (gC (.int 0))) (gBin gEq (gBin gIx (gBin gIx (gVar 0) (gBin gSub (gVar 2) (gC (.int 1)))) (gC (.int 1))) (gVar 4))) (gBin gGt (gBin gAdd (gCallP pLen [gVar 1]) (gVar 3)) (gC (.int 100000)))))
    (sRaise "PlayError")
    (sNil))
    (sAug 1 gIAdd (gBin gMul (gLst false [gVar 4]) (gVar 3)))
abbrev unpTg : GT := tTupl 2 (tsCons (tName 2) (tsCons (tTupl 2 (tsCons (tName 3) (tsCons (tName 4) (tsNil)))) (tsNil)))
abbrev unpLp (n : Nat) : GS := sFor n (gSrcA enumOf [gVar 0]) unpTg unpBd
theorem enum_fix {l : List D} : ∀ i S, enumLk (fixL l) i S = some (l.zipIdx.map fun p => D.tup [.int p.2, p.1])[i]? := by
  intro i S
  simp only [enumLk, fixL, Option.map_some, List.getElem?_map, List.getElem?_zipIdx, Nat.zero_add]
  cases l[i]? <;> rfl
theorem it_enum {ρ : Ev} {S : Sto} {l : List D} (h : ρ[0]? = some (some (.tup l))) : gSrcA enumOf [gVar 0] ρ S = .ok (enumLk (fixL l)) S none := by
  simp only [gSrcA, gArgsR, ev_var, h, AR.cons, enumOf]
theorem rep_flat {x : D} : ∀ {k : Nat}, (List.replicate k [x]).flatten = List.replicate k x
  | 0 => _root_.rfl
  | k + 1 => by simp [List.replicate_succ, rep_flat (k := k)]
theorem unp_lp {S : Sto} {a : List NI} {n : Nat} (ha : PkOk a) (hl : (expd a).length ≤ 100000) (hal : a.length ≤ 100000) (hn : 200000 < n) :
    ∃ x y z, unpLp n [some (.tup (a.map pkD)), some (.ref S.length), none, none, none] (S ++ [.lst []]) = .nx [some (.tup (a.map pkD)), some (.ref S.length), x, y, z] (S ++ [.lst ((expd a).map rw2)]) := by
  have loop := sFor_to (n := n) (t := unpTg) (b := unpBd)
    (it_enum (ρ := [some (.tup (a.map pkD)), some (.ref S.length), none, none, none]) (S := S ++ [.lst []]) _root_.rfl) enum_fix (by simp; omega)
    (fun i ρ T => (∃ x y z, ρ = [some (.tup (a.map pkD)), some (.ref S.length), x, y, z]) ∧ T = S ++ [.lst ((expd (a.take i)).map rw2)]) (fun _ _ => False)
    ⟨⟨none, none, none, _root_.rfl⟩, _root_.rfl⟩ (fun i d ρ T hd hI => by
      obtain ⟨⟨x, y, z, rfl⟩, rfl⟩ := hI
      obtain ⟨⟨c, q⟩, hp, rfl⟩ : ∃ w, a[i]? = some w ∧ d = .tup [.int i, pkD w] := by
        simp only [List.getElem?_map, List.getElem?_zipIdx, Nat.zero_add, Option.map_eq_some_iff] at hd
        obtain ⟨u, ⟨v, ⟨w, h1, rfl⟩, rfl⟩, rfl⟩ := hd
        exact ⟨w, h1, _root_.rfl⟩
      have hi := (List.getElem?_eq_some_iff.mp hp).1
      have hc : 1 ≤ c := ha.1 _ (List.mem_of_getElem? hp)
      have hlen : (expd (a.take (i + 1))).length ≤ 100000 := Nat.le_trans expd_le hl
      rw [expd_take hp] at hlen ⊢
      generalize expd (a.take i) = u at hlen
      rw [List.length_append, List.length_replicate] at hlen
      simp only at hlen
      have g := get_new (S := S) (c := .lst (u.map rw2))
      have c1 : ¬ (c : Int) < 1 := by omega
      have c2 : ¬ (100000 : Int) < (u.length : Int) + (c : Int) := by omega
      have ln : pLen [.ref S.length] (S ++ [.lst (u.map rw2)]) = some (.int u.length, S ++ [.lst (u.map rw2)]) := by rw [len_lst g, List.length_map]
      have ml : gMul (.ls [rw2 q]) (.int c) (S ++ [.lst (u.map rw2)]) = some (.ls (List.replicate c (rw2 q)), S ++ [.lst (u.map rw2)]) := by
        have : -(2 : Int) ^ 63 ≤ (c : Int) ∧ (c : Int) < 2 ^ 63 ∧ [rw2 q].length * (c : Int).toNat ≤ sizeLine := by
          have e : (2 : Int) ^ 63 = 9223372036854775808 := by decide
          rw [e, sizeLine_eq]
          simp
          omega
        simp only [gMul, asL]
        rw [if_pos this, Int.toNat_natCast, rep_flat]
      have ia : gIAdd (.ref S.length) (.ls (List.replicate c (rw2 q))) (S ++ [.lst (u.map rw2)]) = some (.ref S.length, S ++ [.lst ((u ++ List.replicate c q).map rw2)]) := by
        have : (u.map rw2).length + (List.replicate c (rw2 q)).length ≤ sizeLine := by simp [sizeLine_eq]; omega
        simp only [gIAdd, g, asLM]
        rw [if_pos this, set_new, List.map_append, List.map_replicate]
      have tg : unpTg (.tup [.int i, pkD (c, q)]) [some (.tup (a.map pkD)), some (.ref S.length), x, y, z] (S ++ [.lst (u.map rw2)]) = .nx [some (.tup (a.map pkD)), some (.ref S.length), some (.int i), some (.int c), some (rw2 q)] (S ++ [.lst (u.map rw2)]) := _root_.rfl
      rw [tg]
      simp only [sthn_nx]
      cases i with
      | zero =>
        simp -implicitDefEqProofs [TurnTo, c1, c2, ln, ml, ia, -List.map_append]
      | succ j =>
        obtain ⟨⟨c', q'⟩, hj⟩ := get_some (l := a) (i := j) (by omega)
        have hq : ¬ q' = q := ha.2 j _ _ hj hp
        have e1 : gIx (.tup (a.map pkD)) (.int (((j + 1 : Nat) : Int) - 1)) (S ++ [.lst (u.map rw2)]) = some (pkD (c', q'), S ++ [.lst (u.map rw2)]) := by
          have : ((j + 1 : Nat) : Int) - 1 = (j : Int) := by omega
          rw [this, gIx_tup, Gp.atI_nat, List.getElem?_map, hj]; rfl
        have e2 : ∀ {T : Sto}, gIx (pkD (c', q')) (.int 1) T = some (rw2 q', T) := _root_.rfl
        have e3 : (0 : Int) < ((j + 1 : Nat) : Int) := by omega
        generalize ((j + 1 : Nat) : Int) = jj at e1 e3
        simp -implicitDefEqProofs [TurnTo, c1, c2, ln, ml, ia, e1, e2, e3, gEq_rw2, hq, -List.map_append, -Gp.gIx_tup])
  obtain ⟨ρ, T, e4, ⟨x, y, z, e6⟩, e7⟩ := loop.nx
  have : (List.map (fun p => D.tup [D.int p.2, p.1]) (List.map pkD a).zipIdx).length = a.length := by simp
  rw [this, List.take_length] at e7
  subst e6; subst e7
  exact ⟨x, y, z, e4⟩
theorem unpacked_ev {S : Sto} {l : List II} (hl : l.length ≤ 100000) : F_unpacked_rows [.tup ((pk l).map pkD)] S = .ok (.ls (l.map rw2)) S := by
  obtain ⟨h1, h2, h3⟩ := pk_ok l
  obtain ⟨x, y, z, e⟩ := unp_lp (n := 1000000) (S := S) h1 (by rw [h2]; exact hl) (by omega) (by omega)
  simp -implicitDefEqProofs [F_unpacked_rows, m_unpacked_rows, startG, e]
  rw [h2, tidy_rows]
end K15

set_option Elab.async false
set_option linter.all false
set_option maxRecDepth 100000
set_option maxHeartbeats 1000000
namespace K15
open PySem PySem.Spec L2 Gp
abbrev keyL (s : II) (e : Nat) (l : List II) : List D := (kp s e l).map (·.1)
theorem keyL_eq {s : II} {e : Nat} {l : List II} : keyL s e l = (List.range (l.length / e + 1)).map fun (j : Nat) => D.int ((j * e : Nat) : Int) := by
  simp only [keyL, kp, List.map_map]; rfl
theorem omap_map {α β : Type} {f : D → Option β} {g : α → D} {h : α → β} (e : ∀ a, f (g a) = some (h a)) : ∀ {l : List α}, omap f (l.map g) = some (l.map h)
  | [] => _root_.rfl
  | a :: l => by simp [omap, e, omap_map e (l := l)]
theorem sortable_ints {l : List Int} : sortable (l.map .int) = true := by
  simp [sortable, PySem.W.alike, isNone]
theorem sorted_ev {S : Sto} {k e : Nat} {s : II} {l : List II} (hk : S[k]? = some (.dict 0 false (kp s e l))) : pSorted false [.ref k] S = some (.ls (keyL s e l), S) := by
  have e1 : omap (pd S 58) (keyL s e l) = some (((List.range (l.length / e + 1)).map fun (j : Nat) => ((j * e : Nat) : Int)).map .int) := by
    rw [keyL_eq, List.map_map]
    exact omap_map (f := pd S 58) (g := fun j : Nat => D.int ((j * e : Nat) : Int)) (h := PyData.int ∘ fun j : Nat => ((j * e : Nat) : Int)) (fun j => _root_.rfl)
  have e2 : sortD S (keyL s e l) = keyL s e l := by
    refine List.mergeSort_of_pairwise ?_
    rw [keyL_eq, List.pairwise_map]
    refine List.Pairwise.imp_of_mem ?_ (List.pairwise_lt_range)
    intro i j hi hj hij
    simp only [PySem.W.dataLe_eq, cond_false]
    have p1 : ∀ z : Int, pdk S (.int z) = .int z := fun z => _root_.rfl
    rw [p1, p1, PySem.W.dataLt_int]
    have := Nat.mul_le_mul_right e (Nat.le_of_lt hij)
    simp only [Bool.not_eq_true', decide_eq_false_iff_not]
    omega
  have e3 : itemsOf (.ref k) S = some (keyL s e l) := by simp only [itemsOf, asD, hk]
  simp only [pSorted, e3, e1, sortable_ints, if_true, mkL, e2]
  rfl
theorem rgsize {n e : Nat} (he : 0 < e) : Builtin.Range.rangeSize 0 ((n : Int) + 1) e = ((n / e + 1 : Nat) : Int) := by
  unfold Builtin.Range.rangeSize
  rw [if_pos (by omega), if_pos (by omega)]
  have : ((n : Int) + 1 - 0 - 1) = n := by omega
  rw [this]
  simp
theorem listRg_ev {S : Sto} {e : Nat} {s : II} {l : List II} (he : 0 < e) (he2 : e < 1000) (hl : l.length ≤ 100000) : listRg false [.int 0, .int ((l.length : Int) + 1), .int e] S = some (.ls (keyL s e l), S) := by
  have h1 : rngArgs [.int 0, .int ((l.length : Int) + 1), .int e] = some (0, (l.length : Int) + 1, (e : Int)) := by
    simp only [rngArgs]; rw [if_pos ⟨by omega, by omega⟩]
  have hd := Nat.div_le_self l.length e
  have h2 : Builtin.Range.small 0 ((l.length : Int) + 1) e = true := by
    unfold Builtin.Range.small
    rw [rgsize he]
    generalize l.length / e = m at hd
    have fl : ∀ z : Int, -100000000 ≤ z → z ≤ 100000000 → Builtin.Range.rangeFitsLong z = true := fun z a b => by
      simp [Builtin.Range.rangeFitsLong]; omega
    have hp : (e : Int) > 0 := by omega
    simp only [hp, if_true, fl 0 (by omega) (by omega), fl ((l.length : Int) + 1) (by omega) (by omega), fl (e : Int) (by omega) (by omega), fl ((m + 1 : Nat) : Int) (by omega) (by omega), fl ((l.length : Int) + 1 + ((e : Int) - 1)) (by omega) (by omega), Bool.or_true, Bool.and_self]
  simp only [listRg, h1, rgsize he]
  rw [if_pos ⟨h2, by generalize l.length / e = m at hd; omega, by generalize l.length / e = m at hd; omega⟩, keyL_eq, Int.toNat_natCast]
  simp [mkL, rngL]
end K15

set_option Elab.async false
set_option linter.all false
set_option maxRecDepth 100000
set_option maxHeartbeats 2000000
namespace K15
open PySem PySem.Spec L2 Gp
/-- the store while the recordings live -/
structure St1 (S : Sto) (r k : Nat) (s : II) (e : Nat) (l m : List II) : Prop where
  c0 : S[0]? = some (.lst [.ref 1])
  c1 : ∃ a b c, S[1]? = some (dcC a b c)
  A : RecAt S 2 r k s e l
  B : RecAt S 5 6 7 s e m
  hr : r = 3 ∨ 7 < r
  hk : k = 4 ∨ 7 < k
  cl : Cl S
theorem St1.roll {S : Sto} {r k e : Nat} {s : II} {l m : List II} (h : St1 S r k s e l m) {z : Int} (h1 : 1 ≤ z) (h2 : z ≤ 100000000) :
    ∃ (q : Nat) (T : Sto), (q : Int) < z ∧ F_law_roll [.ref 1, .int z] S = .ok (.int q) T ∧ St1 T r k s e l m := by
  obtain ⟨a, b, c, hc⟩ := h.c1
  obtain ⟨x, a', b', c', h3, h4, h5⟩ := roll_ev hc h.cl h1 h2
  refine ⟨x.toNat, S.set 1 (dcC a' b' c'), by omega, by rw [h5]; congr 2; omega, ?_⟩
  have hf : Fr [1] S (S.set 1 (dcC a' b' c')) := Fr.set (by simp)
  have x1 := h.hr
  have x2 := h.hk
  exact ⟨hf.2 _ _ (by simp) h.c0, ⟨a', b', c', get_set_eq (lt_of_get hc)⟩, h.A.fr hf (by simp) (by simp; omega) (by simp; omega), h.B.fr hf (by simp) (by simp) (by simp), h.hr, h.hk, h.cl.set (by simp [cloC, cloL, clo])⟩
theorem St1.add {S : Sto} {r k e : Nat} {s : II} {l m : List II} (h : St1 S r k s e l m) {p : II} (he : 0 < e) (hl : l.length < 100000) :
    ∃ T, F_Recording_add [.ref 2, rw2 p] S = .ok (rw2 (rnn s (l ++ [p]))) T ∧ St1 T r k s e (l ++ [p]) m := by
  obtain ⟨T, h1, h2, h3, h4, h5⟩ := add_ev h.A he hl h.cl (p := p)
  have x1 := h.hr
  have x2 := h.hk
  obtain ⟨a, b, c, hc⟩ := h.c1
  exact ⟨T, h1, ⟨h3.2 _ _ (by simp; omega) h.c0, ⟨a, b, c, h3.2 _ _ (by simp; omega) hc⟩, h2, h.B.fr h3 (by simp; omega) (by simp; omega) (by simp; omega), x1, x2, h5⟩⟩
theorem St1.addB {S : Sto} {r k e : Nat} {s : II} {l m : List II} (h : St1 S r k s e l m) {p : II} (he : 0 < e) (hl : m.length < 100000) :
    ∃ T, F_Recording_add [.ref 5, rw2 p] S = .ok (rw2 (rnn s (m ++ [p]))) T ∧ St1 T r k s e l (m ++ [p]) := by
  obtain ⟨T, h1, h2, h3, h4, h5⟩ := add_ev h.B he hl h.cl (p := p)
  have x1 := h.hr
  have x2 := h.hk
  obtain ⟨a, b, c, hc⟩ := h.c1
  exact ⟨T, h1, ⟨h3.2 _ _ (by simp) h.c0, ⟨a, b, c, h3.2 _ _ (by simp) hc⟩, h.A.fr h3 (by simp) (by simp; omega) (by simp; omega), h2, x1, x2, h5⟩⟩
theorem St1.len {S : Sto} {r k e : Nat} {s : II} {l m : List II} (h : St1 S r k s e l m) : 7 < S.length := lt_of_get h.B.hk
theorem St1.cut {S : Sto} {r k e f : Nat} {s : II} {l m : List II} (h : St1 S r k s e l m) (he : 0 < e) (he2 : e < 1000) (hl : l.length ≤ 100000) (hf : f ≤ l.length) :
    ∃ T r' k', F_Recording_cut [.ref 2, .int f] S = .ok .non T ∧ St1 T r' k' s e (l.take f) m := by
  obtain ⟨T, h1, h2, h3, h4⟩ := cut_ok h.A he he2 hl hf h.cl
  have x1 := h.hr
  have x2 := h.hk
  have x3 := h.len
  obtain ⟨a, b, c, hc⟩ := h.c1
  exact ⟨T, _, _, h1, ⟨h3.2 _ _ (by simp) h.c0, ⟨a, b, c, h3.2 _ _ (by simp) hc⟩, h2, h.B.fr h3 (by simp) (by simp) (by simp), .inr (by omega), .inr (by omega), h4⟩⟩
/-- the names while the rounds last -/
def En (sq : D) (s : II) (e : Nat) (l : List II) (x8 x9 x10 x11 x12 : Option D) : Ev :=
  [some sq, some (.ref 1), some (gameD s), some (.int e), some (.ref 2), some (.ref 5), some (.ls ((sts s l).map rw2)), some (.ls (l.map rw2)), x8, x9, x10, x11, x12, none, none, none, none, none, none, none]
@[simp] theorem gNe_bl {x y : Bool} {S : Sto} : gNe (.bl x) (.bl y) S = some (.bl (x != y), S) := by
  cases x <;> cases y <;> rfl
abbrev gA1 : GS := (sSeq (sAsg (gTup [gCall F_law_roll [gVar 1, gC (.int 3)] [], gCall F_law_roll [gVar 1, gC (.int 2)] []]) (tName 10))
    (sSeq (sAsg (gTup [gBin gAdd (gVar 7) (gLst false [gVar 10]), gBin gAdd (gVar 6) (gLst false [gCall F_law_step [gBin gIx (gVar 6) (gBin gSub (gCallP pLen [gVar 6]) (gC (.int 1))), gVar 10] []])]) (tTupl 2 (tsCons (tName 7) (tsCons (tName 6) (tsNil)))))
    (sIf (gBin gNe (gMeth [("Recording", [], F_Recording_add)] "add" (gVar 4) [gVar 10]) (gBin gIx (gVar 6) (gBin gSub (gCallP pLen [gVar 6]) (gC (.int 1)))))
    (sRet (gC (.bl false)))
    (sNil))))
theorem len_ls {S : Sto} {l : List D} : pLen [.ls l] S = some (.int l.length, S) := by simp [pLen, asD, asL]
theorem add_ls {S : Sto} {a b : List D} (h : a.length + b.length ≤ 16777216) : gAdd (.ls a) (.ls b) S = some (.ls (a ++ b), S) := by
  simp only [gAdd, asL, sizeLine_eq]
  rw [if_pos h]
theorem last_st {S : Sto} {s : II} {l : List II} : gIx (.ls ((sts s l).map rw2)) (.int (((sts s l).map rw2).length - 1 : Int)) S = some (rw2 (rnn s l), S) := by
  have : ((((sts s l).map rw2).length : Int) - 1) = (l.length : Int) := by rw [List.length_map, sts_len]; omega
  rw [this, gIx_ls, Gp.atI_nat, List.getElem?_map, sts_get (Nat.le_refl _), List.take_length]; rfl
theorem a1_ev {S : Sto} {r k e : Nat} {s : II} {l m : List II} {sq : D} {x8 x9 x10 x11 x12 : Option D} (h : St1 S r k s e l m) (he : 0 < e) (hl : l.length < 1000) :
    ∃ T p y10, gA1 (En sq s e l x8 x9 x10 x11 x12) S = .nx (En sq s e (l ++ [p]) x8 x9 y10 x11 x12) T ∧ St1 T r k s e (l ++ [p]) m := by
  obtain ⟨q1, T1, h1, e1, s1⟩ := h.roll (z := 3) (by decide) (by decide)
  obtain ⟨q2, T2, h2, e2, s2⟩ := s1.roll (z := 2) (by decide) (by decide)
  obtain ⟨T3, e3, s3⟩ := s2.add (p := ((q1 : Int), (q2 : Int))) he (by omega)
  have tw : D.tup [.int q1, .int q2] = rw2 ((q1 : Int), (q2 : Int)) := rfl
  have sl := sts_len (s := s) (l := l)
  have ad1 : gAdd (.ls (l.map rw2)) (.ls [rw2 ((q1 : Int), (q2 : Int))]) T2 = some (.ls ((l ++ [((q1 : Int), (q2 : Int))]).map rw2), T2) := by
    rw [add_ls (by simp; omega), List.map_append]; rfl
  have ad2 : gAdd (.ls ((sts s l).map rw2)) (.ls [rw2 (stp (rnn s l) ((q1 : Int), (q2 : Int)))]) T2 = some (.ls ((sts s (l ++ [((q1 : Int), (q2 : Int))])).map rw2), T2) := by
    rw [add_ls (by simp; omega), sts_snoc, List.map_append]; rfl
  have ls1 := last_st (S := T2) (s := s) (l := l)
  have ls2 := last_st (S := T3) (s := s) (l := l ++ [((q1 : Int), (q2 : Int))])
  refine ⟨T3, _, some (rw2 ((q1 : Int), (q2 : Int))), ?_, s3⟩
  simp -implicitDefEqProofs [En, e1, e2, tw, ad1, len_ls, ls1, law_step_ev, ad2, cls_rec s2.A.ho, lookD, mlook, e3, ls2, gNe_rw2, asT, -List.map_append, -List.length_map, -Gp.gIx_ls]
end K15

set_option Elab.async false
set_option linter.all false
set_option maxRecDepth 100000
set_option maxHeartbeats 2000000
namespace K15
open PySem PySem.Spec L2 Gp
abbrev gA2 : GS := (sSeq (sAsg (gCall F_law_roll [gVar 1, gBin gAdd (gCallP pLen [gVar 7]) (gC (.int 2))] []) (tName 11))
    (sSeq (sIf (gBin gNe (gBin gEq (gTold ["PlayError"] "PlayError" (gMeth [("Recording", [], F_Recording_cut)] "cut" (gVar 4) [gVar 11])) (gC (.str "PlayError"))) (gBin gGt (gVar 11) (gCallP pLen [gVar 7])))
    (sRet (gC (.bl false)))
    (sNil))
    (sAsg (gIf (gBin gLe (gVar 11) (gCallP pLen [gVar 7])) (gTup [gSl false (gVar 7) none (some (gVar 11)), gSl false (gVar 6) none (some (gBin gAdd (gVar 11) (gC (.int 1))))]) (gTup [gVar 7, gVar 6])) (tTupl 2 (tsCons (tName 7) (tsCons (tName 6) (tsNil)))))))
theorem a2_ev {S : Sto} {r k e : Nat} {s : II} {l m : List II} {sq : D} {x8 x9 x10 x11 x12 : Option D} (h : St1 S r k s e l m) (he : 0 < e) (he2 : e < 1000) (hl : l.length < 1000) :
    ∃ T l' r' k' y11, gA2 (En sq s e l x8 x9 x10 x11 x12) S = .nx (En sq s e l' x8 x9 x10 y11 x12) T ∧ St1 T r' k' s e l' m ∧ l'.length ≤ l.length := by
  obtain ⟨f, T1, h1, e1, s1⟩ := h.roll (z := (l.length : Int) + 2) (by omega) (by omega)
  by_cases hf : f ≤ l.length
  · obtain ⟨T2, r', k', e2, s2⟩ := s1.cut he he2 (by omega) hf
    have c1 : ¬ (l.length : Int) < f := by omega
    have c2 : (f : Int) ≤ l.length := by omega
    have t1 := cutD_take (xs := l.map rw2) (k := f)
    have t2 := cutD_take (xs := (sts s l).map rw2) (k := f + 1)
    rw [← List.map_take] at t1 t2
    rw [← sts_take hf] at t2
    simp only [Int.natCast_add, Int.natCast_one] at t2
    have sl1 : gSlice false (.ls (l.map rw2)) none (some (f : Int)) T2 = some (.ls ((l.take f).map rw2), T2) := by simp only [gSlice, asL, mkL, t1]; rfl
    have sl2 : gSlice false (.ls ((sts s l).map rw2)) none (some ((f : Int) + 1)) T2 = some (.ls ((sts s (l.take f)).map rw2), T2) := by simp only [gSlice, asL, mkL, t2]; rfl
    refine ⟨T2, l.take f, r', k', some (.int f), ?_, s2, by rw [List.length_take]; omega⟩
    simp -implicitDefEqProofs [En, len_ls, e1, cls_rec s1.A.ho, lookD, mlook, e2, c1, c2, gSl, gPart, sl1, sl2, asT, -List.map_take]
  · have e2 := cut_no s1.A (f := f) (by omega)
    have c1 : (l.length : Int) < f := by omega
    have c2 : ¬ (f : Int) ≤ l.length := by omega
    refine ⟨T1, l, r, k, some (.int f), ?_, s1, Nat.le_refl _⟩
    simp -implicitDefEqProofs [En, len_ls, e1, cls_rec s1.A.ho, lookD, mlook, e2, c1, c2, asT]
abbrev gB : GS := (sSeq (sAsg (gCall F_law_roll [gVar 1, gBin gAdd (gCallP pLen [gVar 7]) (gC (.int 2))] []) (tName 11))
    (sSeq (sAsg (gIf (gBin gLe (gVar 11) (gCallP pLen [gVar 7])) (gTup [gBin gIx (gVar 6) (gVar 11), gBin gMod (gVar 11) (gVar 3)]) (gC (.str "PlayError"))) (tName 12))
    (sIf (gOr (gBin gNe (gTold ["PlayError"] "PlayError" (gMeth [("Recording", [], F_Recording_seek)] "seek" (gVar 4) [gVar 11])) (gVar 12)) (gOr (gBin gNe (gUn (gAttr ["Recording"] "rows") (gVar 4)) (gVar 7)) (gBin gNe (gCallP (pSorted false) [gUn (gAttr ["Recording"] "kept") (gVar 4)]) (gListRg false [gC (.int 0), gBin gAdd (gCallP pLen [gVar 7]) (gC (.int 1)), gVar 3]))))
    (sRet (gC (.bl false)))
    (sNil))))
theorem ne_rows {S : Sto} {n : Nat} {l : List II} (h : S[n]? = some (.lst (l.map rw2))) : gNe (.ref n) (.ls (l.map rw2)) S = some (.bl false, S) :=
  gNe_same (pd_lst h) pd_ls plain_rows
theorem b_ev {S : Sto} {r k e : Nat} {s : II} {l m : List II} {sq : D} {x8 x9 x10 x11 x12 : Option D} (h : St1 S r k s e l m) (he : 0 < e) (he2 : e < 1000) (hl : l.length < 1000) :
    ∃ T y11 y12, gB (En sq s e l x8 x9 x10 x11 x12) S = .nx (En sq s e l x8 x9 x10 y11 y12) T ∧ St1 T r k s e l m := by
  obtain ⟨f, T, h1, e1, s1⟩ := h.roll (z := (l.length : Int) + 2) (by omega) (by omega)
  have hz : ¬ (e : Int) = 0 := by omega
  have hz' : ¬ e = 0 := by omega
  have kl : isDat 60 (.ls (keyL s e l)) = true := by
    simp only [isDat, List.all_eq_true, keyL_eq]
    intro d hd
    obtain ⟨j, _, rfl⟩ := List.mem_map.mp hd
    rfl
  have n1 := ne_rows s1.A.hr
  have n2 : gNe (.ls (keyL s e l)) (.ls (keyL s e l)) T = some (.bl false, T) := gNe_self kl
  have n3 := sorted_ev s1.A.hk
  have n4 := listRg_ev (S := T) (s := s) (l := l) he he2 (by omega)
  have lr : gListRg false [gC (.int 0), gBin gAdd (gCallP pLen [gVar 7]) (gC (.int 1)), gVar 3] = fun ρ S => match gArgsR [gC (.int 0), gBin gAdd (gCallP pLen [gVar 7]) (gC (.int 1)), gVar 3] ρ S with
    | .ok ds S1 => (listRg false ds S1).res
    | .exc c S1 => .exc c S1
    | .bad => .bad := rfl
  by_cases hf : f ≤ l.length
  · have e2 := seek_ok s1.A he he2 (by omega) hf
    have c2 : (f : Int) ≤ l.length := by omega
    have ix : gIx (.ls ((sts s l).map rw2)) (.int (f : Int)) T = some (rw2 (rnn s (l.take f)), T) := by
      rw [gIx_ls, Gp.atI_nat, List.getElem?_map, sts_get hf]; rfl
    have md : (f : Int).fmod (e : Int) = ((f % e : Nat) : Int) := by rw [fmod_nn (by omega)]; rfl
    generalize f % e = fe at e2 md
    have n5 : gNe (.tup [rw2 (rnn s (l.take f)), .int (fe : Int)]) (.tup [rw2 (rnn s (l.take f)), .int (fe : Int)]) T = some (.bl false, T) := gNe_self rfl
    refine ⟨T, some (.int f), some (.tup [rw2 (rnn s (l.take f)), .int (fe : Int)]), ?_, s1⟩
    simp -implicitDefEqProofs [En, len_ls, e1, c2, ix, hz, hz', md, cls_rec s1.A.ho, lookD, mlook, e2, n5, at_rows s1.A.ho, n1, at_kept s1.A.ho, n3, n2, gListRg, gArgsR, AR.cons, n4, -Gp.gIx_ls]
  · have e2 := seek_no s1.A (f := f) (by omega)
    have c2 : ¬ (f : Int) ≤ l.length := by omega
    refine ⟨T, some (.int f), some (.str "PlayError"), ?_, s1⟩
    simp -implicitDefEqProofs [En, len_ls, e1, c2, cls_rec s1.A.ho, lookD, mlook, e2, at_rows s1.A.ho, n1, at_kept s1.A.ho, n3, n2, gListRg, gArgsR, AR.cons, n4]
abbrev gLpB : GS := (sSeq (sAsg (gCall F_law_roll [gVar 1, gC (.int 12)] []) (tName 9))
    (sSeq (sIf (gBin gGt (gVar 9) (gC (.int 0))) gA1 gA2) gB))
theorem lpB_ev {S : Sto} {r k e i : Nat} {s : II} {l m : List II} {sq : D} {x8 x9 x10 x11 x12 : Option D} (h : St1 S r k s e l m) (he : 0 < e) (he2 : e < 1000) (hl : l.length ≤ i) (hi : i < 999) :
    ∃ T l' r' k' y9 y10 y11 y12, gLpB (En sq s e l x8 x9 x10 x11 x12) S = .nx (En sq s e l' x8 y9 y10 y11 y12) T ∧ St1 T r' k' s e l' m ∧ l'.length ≤ i + 1 := by
  obtain ⟨q, T1, h1, e1, s1⟩ := h.roll (z := 12) (by decide) (by decide)
  have en1 : (En sq s e l x8 x9 x10 x11 x12)[1]? = some (some (.ref 1)) := rfl
  have en9 : (En sq s e l x8 x9 x10 x11 x12).set 9 (some (.int q)) = En sq s e l x8 (some (.int q)) x10 x11 x12 := rfl
  have en9' : (En sq s e l x8 (some (.int q)) x10 x11 x12)[9]? = some (some (.int q)) := rfl
  by_cases hq : 0 < q
  · have hq' : (0 : Int) < q := by omega
    obtain ⟨T2, p, y10, e2, s2⟩ := a1_ev (sq := sq) (x8 := x8) (x9 := some (.int q)) (x10 := x10) (x11 := x11) (x12 := x12) s1 he (by omega)
    obtain ⟨T3, y11, y12, e3, s3⟩ := b_ev (sq := sq) (x8 := x8) (x9 := some (.int q)) (x10 := y10) (x11 := x11) (x12 := x12) s2 he he2 (by simp; omega)
    refine ⟨T3, _, _, _, some (.int q), y10, y11, y12, ?_, s3, by simp; omega⟩
    rw [show gLpB = sSeq (sAsg (gCall F_law_roll [gVar 1, gC (.int 12)] []) (tName 9)) (sSeq (sIf (gBin gGt (gVar 9) (gC (.int 0))) gA1 gA2) gB) from rfl]
    generalize gA1 = A1 at *
    generalize gA2 = A2 at *
    generalize gB = B1 at *
    simp -implicitDefEqProofs [en1, en9, en9', e1, hq', e2, e3]
    intro z; omega
  · have hq' : ¬ (0 : Int) < q := by omega
    obtain ⟨T2, l', r', k', y11, e2, s2, hl'⟩ := a2_ev (sq := sq) (x8 := x8) (x9 := some (.int q)) (x10 := x10) (x11 := x11) (x12 := x12) s1 he he2 (by omega)
    obtain ⟨T3, z11, y12, e3, s3⟩ := b_ev (sq := sq) (x8 := x8) (x9 := some (.int q)) (x10 := x10) (x11 := y11) (x12 := x12) s2 he he2 (by omega)
    refine ⟨T3, _, _, _, some (.int q), x10, z11, y12, ?_, s3, by omega⟩
    rw [show gLpB = sSeq (sAsg (gCall F_law_roll [gVar 1, gC (.int 12)] []) (tName 9)) (sSeq (sIf (gBin gGt (gVar 9) (gC (.int 0))) gA1 gA2) gB) from rfl]
    generalize gA1 = A1 at *
    generalize gA2 = A2 at *
    generalize gB = B1 at *
    simp -implicitDefEqProofs [en1, en9, en9', e1, hq', e2, e3]
    intro z; omega
end K15

set_option Elab.async false
set_option linter.all false
set_option maxRecDepth 100000
set_option maxHeartbeats 2000000
namespace K15
open PySem PySem.Spec L2 Gp
theorem St1.rollA {S : Sto} {r k e : Nat} {s : II} {l m : List II} (h : St1 S r k s e l m) {z : Int} (h1 : 1 ≤ z) (h2 : z ≤ 100000000) {c : Cell} (hc : cloC (S.length + 1) c = true) :
    ∃ (q : Nat) (T : Sto), (q : Int) < z ∧ F_law_roll [.ref 1, .int z] (S ++ [c]) = .ok (.int q) (T ++ [c]) ∧ St1 T r k s e l m ∧ T.length = S.length := by
  obtain ⟨a, b, c', hd⟩ := h.c1
  have hcl : Cl (S ++ [c]) := h.cl.app (fun x hx => by rw [List.mem_singleton.mp hx]; exact hc)
  obtain ⟨x, a', b', d', h3, h4, h5⟩ := roll_ev (get_app (T := [c]) hd) hcl h1 h2
  refine ⟨x.toNat, S.set 1 (dcC a' b' d'), by omega, ?_, ?_, by simp⟩
  · rw [h5, List.set_append_left _ _ (lt_of_get hd)]; congr 2; omega
  have hf : Fr [1] S (S.set 1 (dcC a' b' d')) := Fr.set (by simp)
  have x1 := h.hr
  have x2 := h.hk
  exact ⟨hf.2 _ _ (by simp) h.c0, ⟨a', b', d', get_set_eq (lt_of_get hd)⟩, h.A.fr hf (by simp) (by simp; omega) (by simp; omega), h.B.fr hf (by simp) (by simp) (by simp), h.hr, h.hk, h.cl.set (by simp [cloC, cloL, clo])⟩
theorem rng1_it' {a : GE} {ρ : Ev} {S S1 : Sto} {j : Int} (ha : a ρ S = .ok (.int j) S1) (h1 : -4611686018427387904 ≤ j) (h2 : j < 4611686018427387904) : gSrcA rngOf1 [a] ρ S = .ok (fixL (rngL 0 1 j.toNat)) S1 none := by
  simp only [gSrcA, gArgsR, ha, AR.cons, rngOf1, small62_of h1 h2, if_true]
theorem game_new {s : II} {S : Sto} : tidy S (Gp.newObj "Game" F_Game_init [rw2 s, .fn "_law_step"] S) = .ok (gameD s) S := by
  simp [Gp.newObj, F_Game_init, m_Game_init, startG, setA, putD, set_at]
  rw [tidy_new]
  simp [frz, pmap, omap, rw2]
abbrev gI1 : GS := sPar [2, 3] [gMake true "Game" F_Game_init [gTup [gCall F_law_roll [gVar 1, gC (.int 50)] [], gC (.int 0)], gC (.fn "_law_step")] [], gBin gAdd (gC (.int 1)) (gCall F_law_roll [gVar 1, gC (.int 12)] [])]
abbrev gI2 : GS := sAsg (gTup [gMake false "Recording" F_Recording_init [gVar 2, gVar 3] [], gMake false "Recording" F_Recording_init [gVar 2, gVar 3] [], gLst false [gUn (gAttr ["Game"] "first") (gVar 2)], gLst false []]) (tTupl 4 (tsCons (tName 4) (tsCons (tName 5) (tsCons (tName 6) (tsCons (tName 7) (tsNil))))))
theorem kp_nil {s : II} {e : Nat} : kp s e [] = [(.int 0, rw2 s)] := by simp [kp, rnn]
theorem init_ev {a b c : Int} {sq : D} : ∃ T s e, (sSeq gI1 gI2) [some sq, some (.ref 1), none, none, none, none, none, none, none, none, none, none, none, none, none, none, none, none, none, none] [.lst [.ref 1], dcC a b c] = .nx (En sq s e [] none none none none none) T ∧ St1 T 3 4 s e [] [] ∧ 0 < e ∧ e < 1000 := by
  have cl : ∀ a b c : Int, Cl [.lst [.ref 1], dcC a b c] := fun a b c x hx => by
    simp at hx
    rcases hx with rfl | rfl <;> simp [cloC, cloL, clo]
  obtain ⟨q1, a1, b1, c1, h1, h2, e1⟩ := roll_ev (S := [.lst [.ref 1], dcC a b c]) (n := 1) (m := 50) _root_.rfl (cl a b c) (by decide) (by decide)
  obtain ⟨q2, a2, b2, c2, h3, h4, e2⟩ := roll_ev (S := [.lst [.ref 1], dcC a1 b1 c1]) (n := 1) (m := 12) _root_.rfl (cl a1 b1 c1) (by decide) (by decide)
  simp only [List.set_cons_succ, List.set_cons_zero] at e1 e2
  obtain ⟨e, he⟩ : ∃ e : Nat, (e : Int) = 1 + q2 := ⟨(1 + q2).toNat, by omega⟩
  have tw : D.tup [.int q1, .int 0] = rw2 (q1, 0) := rfl
  have gn := game_new (s := (q1, 0)) (S := [.lst [.ref 1], dcC a1 b1 c1])
  have r1 := rec_new (s := (q1, 0)) (e := e) (S := [.lst [.ref 1], dcC a2 b2 c2]) (by omega)
  have r2 := rec_new (s := (q1, 0)) (e := e) (S := [.lst [.ref 1], dcC a2 b2 c2, RecC (q1, 0) e 3 4 (q1, 0), .lst [], .dict 0 false [(.int 0, rw2 (q1, 0))]]) (by omega)
  simp only [List.length_cons, List.length_nil, List.cons_append, List.nil_append, Nat.zero_add, Nat.reduceAdd] at r1 r2
  have ha : ∀ {T : Sto}, gAttr ["Game"] "first" (gameD (q1, 0)) T = some (rw2 (q1, 0), T) := fun {T} => by simp [gAttr, lookD]
  refine ⟨[.lst [.ref 1], dcC a2 b2 c2, RecC (q1, 0) e 3 4 (q1, 0), .lst [], .dict 0 false [(.int 0, rw2 (q1, 0))], RecC (q1, 0) e 6 7 (q1, 0), .lst [], .dict 0 false [(.int 0, rw2 (q1, 0))]], (q1, 0), e, ?_, ?_, by omega, by omega⟩
  · simp -implicitDefEqProofs [e1, tw, gn, e2, ← he, r1, r2, ha, asT, En, sts, rnn]
  · refine ⟨rfl, ⟨_, _, _, rfl⟩, ⟨rfl, rfl, ?_, by decide, by decide, by decide⟩, ⟨rfl, rfl, ?_, by decide, by decide, by decide⟩, .inl rfl, .inl rfl, ?_⟩
    · rw [kp_nil]; rfl
    · rw [kp_nil]; rfl
    · intro x hx
      simp at hx
      rcases hx with rfl | rfl | rfl | rfl | rfl | rfl | rfl | rfl <;> simp [cloC, cloL, clo, cloF, cloM, rw2]
abbrev gLp (n : Nat) : GS := sFor n (gSrcA rngOf1 [gCall F_law_roll [gVar 1, gC (.int 91)] []]) (tName 8) gLpB
theorem lp_ev {S : Sto} {r k e n : Nat} {s : II} {sq : D} {x8 x9 x10 x11 x12 : Option D} (h : St1 S r k s e [] []) (he : 0 < e) (he2 : e < 1000) (hn : 200000 < n) :
    ∃ T l r' k' y8 y9 y10 y11 y12, gLp n (En sq s e [] x8 x9 x10 x11 x12) S = .nx (En sq s e l y8 y9 y10 y11 y12) T ∧ St1 T r' k' s e l [] ∧ l.length ≤ 100 := by
  obtain ⟨q, T1, h1, e1, s1⟩ := h.roll (z := 91) (by decide) (by decide)
  have hit := rng1_it' (a := gCall F_law_roll [gVar 1, gC (.int 91)] []) (ρ := En sq s e [] x8 x9 x10 x11 x12) (S := S) (S1 := T1) (j := q) (by
    have en1 : (En sq s e [] x8 x9 x10 x11 x12)[1]? = some (some (.ref 1)) := rfl
    simp -implicitDefEqProofs [en1, e1]) (by omega) (by omega)
  have loop := sFor_to (n := n) (t := tName 8) (b := gLpB) hit fixL_look (by rw [rngL_len]; omega)
    (fun i ρ T => ∃ l r k x8 x9 x10 x11 x12, ρ = En sq s e l x8 x9 x10 x11 x12 ∧ St1 T r k s e l [] ∧ l.length ≤ i) (fun _ _ => False)
    ⟨[], r, k, x8, x9, x10, x11, x12, _root_.rfl, s1, Nat.le_refl _⟩ (fun i d ρ T hd hI => by
      obtain ⟨l, r, k, x8, x9, x10, x11, x12, rfl, sT, hl⟩ := hI
      obtain ⟨hi, rfl⟩ := rngL_get hd
      obtain ⟨T2, l', r', k', y9, y10, y11, y12, e2, s2, hl'⟩ := lpB_ev (sq := sq) (x8 := some (.int (0 + (i : Int)))) (x9 := x9) (x10 := x10) (x11 := x11) (x12 := x12) sT he he2 hl (by omega)
      have en8 : (En sq s e l x8 x9 x10 x11 x12).set 8 (some (.int (0 + (i : Int)))) = En sq s e l (some (.int (0 + (i : Int)))) x9 x10 x11 x12 := rfl
      have t1 : tName 8 (.int (0 + (i : Int))) (En sq s e l x8 x9 x10 x11 x12) T = .nx (En sq s e l (some (.int (0 + (i : Int)))) x9 x10 x11 x12) T := by rw [ev_tname, en8]
      rw [t1, sthn_nx, e2]
      exact ⟨l', r', k', _, y9, y10, y11, y12, _root_.rfl, s2, hl'⟩)
  obtain ⟨ρ, T, e4, l, r', k', y8, y9, y10, y11, y12, e5, s3, hl⟩ := loop.nx
  rw [rngL_len] at hl
  subst e5
  exact ⟨T, l, r', k', y8, y9, y10, y11, y12, e4, s3, by omega⟩
end K15

set_option Elab.async false
set_option linter.all false
set_option maxRecDepth 100000
set_option maxHeartbeats 2000000
namespace K15
open PySem PySem.Spec L2 Gp
/-- the names behind the rounds -/
def Em (sq : D) (s : II) (e : Nat) (l : List II) (x8 x9 x10 x11 x12 y13 y14 y15 : Option D) : Ev :=
  [some sq, some (.ref 1), some (gameD s), some (.int e), some (.ref 2), some (.ref 5), some (.ls ((sts s l).map rw2)), some (.ls (l.map rw2)), x8, x9, x10, x11, x12, y13, y14, y15, none, none, none, none]
abbrev gC1 : GS := sIf (gBin gNe (gMeth [("Game", [], F_Game_played)] "played" (gVar 2) [gVar 7]) (gVar 6))
    (sRet (gC (.bl false)))
    (sNil)
theorem c1_ev {S : Sto} {e : Nat} {s : II} {l : List II} {sq : D} {x8 x9 x10 x11 x12 y13 y14 y15 : Option D} (hl : l.length ≤ 100) : gC1 (Em sq s e l x8 x9 x10 x11 x12 y13 y14 y15) S = .nx (Em sq s e l x8 x9 x10 x11 x12 y13 y14 y15) S := by
  have cg : clsOf (gameD s) S = some (("Game" : Str), [(("first" : Str), rw2 s), (("step" : Str), .fn "_law_step")]) := rfl
  have pl := played_ev (S := S) (s := s) (l := l) (by omega)
  have ne : gNe (.ls ((sts s l).map rw2)) (.ls ((sts s l).map rw2)) S = some (.bl false, S) := gNe_same pd_ls pd_ls plain_rows
  simp -implicitDefEqProofs [Em, cg, lookD, mlook, pl, ne]
abbrev gBt (n : Nat) : GE := gLc true n (gSrc srcOf (gVar 7)) (nName 10) none (gIf (gBin gGt (gCall F_law_roll [gVar 1, gC (.int 8)] []) (gC (.int 0))) (gVar 10) (gTup [gC (.int 9), gC (.int 9)])) [10]
theorem cloC_rows {b : Nat} {l : List II} : cloC b (.lst (l.map rw2)) = true := by
  refine cloL_mem fun d hd => ?_
  obtain ⟨q, _, rfl⟩ := List.mem_map.mp hd
  rfl
theorem bt_ev {S : Sto} {r k e n : Nat} {s : II} {l : List II} {sq : D} {x8 x9 x10 x11 x12 y13 y14 y15 : Option D} (h : St1 S r k s e l []) (hl : l.length ≤ 100) (hn : 200000 < n) :
    ∃ (T : Sto) (b : List II), gBt n (Em sq s e l x8 x9 x10 x11 x12 y13 y14 y15) S = .ok (.ls (b.map rw2)) T ∧ St1 T r k s e l [] ∧ b.length = l.length := by
  have hit := it_ls (ρ := Em sq s e l x8 x9 x10 x11 x12 y13 y14 y15) (S := S) (i := 7) (l := l.map rw2) _root_.rfl
  obtain ⟨U, e1, T, b, rfl, s1, hT, hb⟩ := lcN_to (lk := fixL (l.map rw2)) (t := nName 10) (c := none) (e := gIf (gBin gGt (gCall F_law_roll [gVar 1, gC (.int 8)] []) (gC (.int 0))) (gVar 10) (gTup [gC (.int 9), gC (.int 9)]))
    (ρ0 := Em sq s e l x8 x9 none x11 x12 y13 y14 y15) (n0 := S.length) fixL_look
    (fun i U => ∃ (T : Sto) (b : List II), U = T ++ [Cell.lst (b.map rw2)] ∧ St1 T r k s e l [] ∧ T.length = S.length ∧ b.length = i) (fun i d U hd hI => by
      obtain ⟨T, b, rfl, s1, hT, hb⟩ := hI
      obtain ⟨p, hp, rfl⟩ := row_at hd
      have hi := (List.getElem?_eq_some_iff.mp hp).1
      obtain ⟨q, T2, h1, e1, s2, hT2⟩ := s1.rollA (z := 8) (by decide) (by decide) (c := .lst (b.map rw2)) cloC_rows
      have h99 : D.tup [.int 9, .int 9] = rw2 (9, 9) := rfl
      have g := get_new (S := T2) (c := .lst (b.map rw2))
      rw [hT2, hT] at g
      have hsz : (b.map rw2).length < sizeLine := by rw [List.length_map, hb, sizeLine_eq]; omega
      have hst : ∀ x : II, (T2 ++ [Cell.lst (b.map rw2)]).set S.length (.lst (b.map rw2 ++ [rw2 x])) = T2 ++ [Cell.lst ((b ++ [x]).map rw2)] := fun x => by
        rw [← hT, ← hT2, set_new, List.map_append]; rfl
      refine ⟨Em sq s e l x8 x9 (some (rw2 p)) x11 x12 y13 y14 y15, T ++ [Cell.lst (b.map rw2)], _root_.rfl, .inr ⟨_root_.rfl, ?_⟩⟩
      by_cases hq : 0 < q
      · have hq' : (0 : Int) < q := by omega
        refine ⟨rw2 p, T2 ++ [Cell.lst (b.map rw2)], b.map rw2, ?_, g, hsz, T2, b ++ [p], hst p, s2, by rw [hT2, hT], by simp [hb]⟩
        simp -implicitDefEqProofs [Em, e1, hq']
        intro z; omega
      · have hq' : ¬ (0 : Int) < q := by omega
        refine ⟨rw2 (9, 9), T2 ++ [Cell.lst (b.map rw2)], b.map rw2, ?_, g, hsz, T2, b ++ [(9, 9)], hst (9, 9), s2, by rw [hT2, hT], by simp [hb]⟩
        simp -implicitDefEqProofs [Em, e1, hq', h99]
        intro z; omega) n 0 (S ++ [Cell.lst []]) (by simp; omega) (by omega) ⟨S, [], _root_.rfl, h, _root_.rfl, _root_.rfl⟩
  refine ⟨T, b, ?_, s1, by rw [hb, List.length_map]⟩
  have w : wipeG (Em sq s e l x8 x9 x10 x11 x12 y13 y14 y15) [10] = Em sq s e l x8 x9 none x11 x12 y13 y14 y15 := rfl
  simp only [gBt, gLc, gLc0, hit, IR.res, unlR, w, if_true, e1]
  refine tidy_cut hT s1.cl ?_
  have g := get_new (S := T) (c := .lst (b.map rw2))
  rw [hT] at g
  simp only [frz, Nat.lt_irrefl, if_false, g, frz_rows]; rfl
abbrev gC2 : GS := sAsg (gSl false (gBt 1000000) none (some (gCall F_law_roll [gVar 1, gBin gAdd (gCallP pLen [gVar 7]) (gC (.int 2))] []))) (tName 13)
theorem c2_ev {S : Sto} {r k e : Nat} {s : II} {l : List II} {sq : D} {x8 x9 x10 x11 x12 y13 y14 y15 : Option D} (h : St1 S r k s e l []) (hl : l.length ≤ 100) :
    ∃ (T : Sto) (b : List II), gC2 (Em sq s e l x8 x9 x10 x11 x12 y13 y14 y15) S = .nx (Em sq s e l x8 x9 x10 x11 x12 (some (.ls (b.map rw2))) y14 y15) T ∧ St1 T r k s e l [] ∧ b.length ≤ l.length := by
  obtain ⟨T1, b, e1, s1, hb⟩ := bt_ev (n := 1000000) (sq := sq) (x8 := x8) (x9 := x9) (x10 := x10) (x11 := x11) (x12 := x12) (y13 := y13) (y14 := y14) (y15 := y15) h hl (by omega)
  obtain ⟨f, T2, h2, e2, s2⟩ := s1.roll (z := (l.length : Int) + 2) (by omega) (by omega)
  have t1 := cutD_take (xs := b.map rw2) (k := f)
  rw [← List.map_take] at t1
  have sl1 : gSlice false (.ls (b.map rw2)) none (some (f : Int)) T2 = some (.ls ((b.take f).map rw2), T2) := by simp only [gSlice, asL, mkL, t1]; rfl
  refine ⟨T2, b.take f, ?_, s2, by rw [List.length_take]; omega⟩
  have en1 : (Em sq s e l x8 x9 x10 x11 x12 y13 y14 y15)[1]? = some (some (.ref 1)) := rfl
  have en7 : (Em sq s e l x8 x9 x10 x11 x12 y13 y14 y15)[7]? = some (some (.ls (l.map rw2))) := rfl
  have en13 : ∀ z, (Em sq s e l x8 x9 x10 x11 x12 y13 y14 y15).set 13 z = Em sq s e l x8 x9 x10 x11 x12 z y14 y15 := fun _ => rfl
  rw [show gC2 = sAsg (gSl false (gBt 1000000) none (some (gCall F_law_roll [gVar 1, gBin gAdd (gCallP pLen [gVar 7]) (gC (.int 2))] []))) (tName 13) from rfl]
  generalize gBt 1000000 = B at *
  simp -implicitDefEqProofs [gSl, gPart, e1, en1, en7, len_ls, e2, sl1, en13, -List.map_take]
abbrev gC3 (n : Nat) : GS := sFor n (gSrc srcOf (gVar 13)) (tName 10)
    (sExpr (gMeth [("Recording", [], F_Recording_add)] "add" (gVar 5) [gVar 10]))
theorem c3_ev {S : Sto} {r k e n : Nat} {s : II} {l b : List II} {sq : D} {x8 x9 x10 x11 x12 y14 y15 : Option D} (h : St1 S r k s e l []) (he : 0 < e) (hb : b.length ≤ 100) (hn : 200000 < n) :
    ∃ T y10, gC3 n (Em sq s e l x8 x9 x10 x11 x12 (some (.ls (b.map rw2))) y14 y15) S = .nx (Em sq s e l x8 x9 y10 x11 x12 (some (.ls (b.map rw2))) y14 y15) T ∧ St1 T r k s e l b := by
  have hit := it_ls (ρ := Em sq s e l x8 x9 x10 x11 x12 (some (.ls (b.map rw2))) y14 y15) (S := S) (i := 13) (l := b.map rw2) _root_.rfl
  have loop := sFor_to (n := n) (t := tName 10) (b := sExpr (gMeth [("Recording", [], F_Recording_add)] "add" (gVar 5) [gVar 10])) hit fixL_look (by simp; omega)
    (fun i ρ T => ∃ z, ρ = Em sq s e l x8 x9 z x11 x12 (some (.ls (b.map rw2))) y14 y15 ∧ St1 T r k s e l (b.take i)) (fun _ _ => False)
    ⟨x10, _root_.rfl, h⟩ (fun i d ρ T hd hI => by
      obtain ⟨z, rfl, s1⟩ := hI
      obtain ⟨p, hp, rfl⟩ := row_at hd
      have hi := (List.getElem?_eq_some_iff.mp hp).1
      obtain ⟨T2, e2, s2⟩ := s1.addB (p := p) he (by rw [List.length_take]; omega)
      rw [← take_snoc hp] at s2
      have en10 : tName 10 (rw2 p) (Em sq s e l x8 x9 z x11 x12 (some (.ls (b.map rw2))) y14 y15) T = .nx (Em sq s e l x8 x9 (some (rw2 p)) x11 x12 (some (.ls (b.map rw2))) y14 y15) T := rfl
      have en5 : (Em sq s e l x8 x9 (some (rw2 p)) x11 x12 (some (.ls (b.map rw2))) y14 y15)[5]? = some (some (.ref 5)) := rfl
      have en10' : (Em sq s e l x8 x9 (some (rw2 p)) x11 x12 (some (.ls (b.map rw2))) y14 y15)[10]? = some (some (rw2 p)) := rfl
      rw [en10, sthn_nx]
      simp -implicitDefEqProofs [TurnTo, en5, en10', cls_rec s1.B.ho, lookD, mlook, e2]
      exact ⟨⟨_, _root_.rfl⟩, s2⟩)
  obtain ⟨ρ, T, e4, z, e5, s3⟩ := loop.nx
  rw [List.length_map, List.take_length] at s3
  subst e5
  exact ⟨T, z, e4, s3⟩
end K15

set_option Elab.async false
set_option linter.all false
set_option maxRecDepth 100000
set_option maxHeartbeats 2000000
namespace K15
open PySem PySem.Spec L2 Gp
/-- ints, as what they are -/
theorem gNe_ints {S : Sto} {a : List Nat} : gNe (.ls (a.map fun i => D.int (i : Nat))) (.ls []) S = some (.bl (decide (a ≠ [])), S) := by
  rw [gNe_nil (by simp only [isDat, List.all_eq_true]; intro d hd; obtain ⟨i, _, rfl⟩ := List.mem_map.mp hd; rfl)]
  cases a <;> simp
theorem filterMap_rng {m : Nat} {P : Nat → Bool} {f : D → Option D} (hf : ∀ i, f (.int (i : Nat)) = if P i = true then some (.int (i : Nat)) else none) :
    (rngL 0 1 m).filterMap f = ((List.range m).filter P).map fun i => D.int (i : Nat) := by
  unfold rngL
  rw [List.filterMap_map]
  induction m with
  | zero => rfl
  | succ m ih =>
    rw [List.range_succ, List.filterMap_append, List.filter_append, List.map_append, ih]
    congr 1
    have := hf m
    simp only [List.filterMap_cons, List.filterMap_nil, Function.comp, Int.zero_add, Int.mul_one, this]
    by_cases h : P m = true <;> simp [h]
def ufn (a b : List II) : D → Option D
  | .int z => if a[z.toNat]? = b[z.toNat]? then none else some (.int z)
  | _ => none
abbrev gUl (n : Nat) : GE := gLc true n (gSrcA rngOf1 [gCallP pMin [gCallP pLen [gVar 7], gCallP pLen [gVar 13]]]) (nName 17) (some (gBin gNe (gBin gIx (gVar 7) (gVar 17)) (gBin gIx (gVar 13) (gVar 17)))) (gVar 17) [17]
theorem ls_row {S : Sto} {l : List II} {i : Nat} {p : II} (h : l[i]? = some p) : gIx (.ls (l.map rw2)) (.int (i : Nat)) S = some (rw2 p, S) := by
  rw [gIx_ls, Gp.atI_nat, List.getElem?_map, h]; rfl
theorem ul_ev {S : Sto} {e n : Nat} {s : II} {l b : List II} {sq : D} {x8 x9 x10 x11 x12 y14 y15 : Option D} (hl : l.length ≤ 100) (hn : 200000 < n) :
    gUl n (Em sq s e l x8 x9 x10 x11 x12 (some (.ls (b.map rw2))) y14 y15) S = .ok (.ls ((unl l b).map fun i => D.int (i : Nat))) S := by
  have hit : gSrcA rngOf1 [gCallP pMin [gCallP pLen [gVar 7], gCallP pLen [gVar 13]]] (Em sq s e l x8 x9 x10 x11 x12 (some (.ls (b.map rw2))) y14 y15) S = .ok (fixL (rngL 0 1 (min l.length b.length))) S none := by
    have := rng1_it (a := gCallP pMin [gCallP pLen [gVar 7], gCallP pLen [gVar 13]]) (ρ := Em sq s e l x8 x9 x10 x11 x12 (some (.ls (b.map rw2))) y14 y15) (S := S) (j := ((min l.length b.length : Nat) : Int)) (by
      simp -implicitDefEqProofs [Em, len_ls, pMin]
      omega) (by omega) (by omega)
    rw [this, Int.toNat_natCast]
  have h := gLc_pure (t := nName 17) (c := some (gBin gNe (gBin gIx (gVar 7) (gVar 17)) (gBin gIx (gVar 13) (gVar 17)))) (e := gVar 17) (vs := [17]) (n := n) hit fixL_look (ufn l b) (fun d hd acc => by
      obtain ⟨i, hi⟩ := List.mem_iff_getElem?.mp hd
      obtain ⟨hi, rfl⟩ := rngL_get hi
      obtain ⟨p, hp⟩ := get_some (l := l) (i := i) (by omega)
      obtain ⟨q, hq⟩ := get_some (l := b) (i := i) (by omega)
      have ip := fun T => ls_row (S := T) hp
      have iq := fun T => ls_row (S := T) hq
      refine ⟨(Em sq s e l x8 x9 x10 x11 x12 (some (.ls (b.map rw2))) y14 y15).set 17 (some (.int (0 + (i : Int)))), _root_.rfl, ?_⟩
      rw [Int.zero_add]
      have g7 : ((Em sq s e l x8 x9 x10 x11 x12 (some (.ls (b.map rw2))) y14 y15).set 17 (some (.int (i : Int))))[7]? = some (some (.ls (l.map rw2))) := _root_.rfl
      have g13 : ((Em sq s e l x8 x9 x10 x11 x12 (some (.ls (b.map rw2))) y14 y15).set 17 (some (.int (i : Int))))[13]? = some (some (.ls (b.map rw2))) := _root_.rfl
      have g17 : ((Em sq s e l x8 x9 x10 x11 x12 (some (.ls (b.map rw2))) y14 y15).set 17 (some (.int (i : Int))))[17]? = some (some (.int (i : Int))) := _root_.rfl
      generalize (Em sq s e l x8 x9 x10 x11 x12 (some (.ls (b.map rw2))) y14 y15).set 17 (some (.int (i : Int))) = R at *
      by_cases hpq : p = q
      · have : ufn l b (.int (i : Int)) = none := by simp [ufn, hp, hq, hpq]
        simp only [this]
        simp -implicitDefEqProofs [tstG, g7, g13, g17, ip, iq, gNe_rw2, hpq, -Gp.gIx_ls]
      · have : ufn l b (.int (i : Int)) = some (.int (i : Int)) := by simp [ufn, hp, hq, hpq]
        simp only [this]
        simp -implicitDefEqProofs [tstG, g7, g13, g17, ip, iq, gNe_rw2, hpq, -Gp.gIx_ls])
    (by rw [rngL_len]; omega) (by rw [rngL_len, sizeLine_eq]; omega) (fun d hd y hy => by
      cases d <;> simp [ufn] at hy
      rw [← hy.2]; rfl)
  refine h.trans ?_
  congr 2
  refine filterMap_rng fun i => ?_
  simp only [ufn, Int.toNat_natCast]
  by_cases x : l[i]? = b[i]? <;> simp [x]
abbrev gC4 : GS := sAsg (gUl 1000000) (tName 14)
abbrev gC5 : GS := sAsg (gIf (gBin gNe (gVar 14) (gLst false [])) (gBin gIx (gVar 14) (gC (.int 0))) (gIf (gBin gEq (gCallP pLen [gVar 7]) (gCallP pLen [gVar 13])) (gC .non) (gCallP pMin [gCallP pLen [gVar 7], gCallP pLen [gVar 13]]))) (tName 12)
abbrev gC6 : GS := sIf (gOr (gBin gNe (gMeth [("Recording", [], F_Recording_first_difference)] "first_difference" (gVar 4) [gVar 5]) (gVar 12)) (gBin gNe (gMeth [("Recording", [], F_Recording_first_difference)] "first_difference" (gVar 5) [gVar 4]) (gVar 12)))
    (sRet (gC (.bl false)))
    (sNil)
theorem c4_ev {S : Sto} {e : Nat} {s : II} {l b : List II} {sq : D} {x8 x9 x10 x11 x12 y14 y15 : Option D} (hl : l.length ≤ 100) :
    gC4 (Em sq s e l x8 x9 x10 x11 x12 (some (.ls (b.map rw2))) y14 y15) S = .nx (Em sq s e l x8 x9 x10 x11 x12 (some (.ls (b.map rw2))) (some (.ls ((unl l b).map fun i => D.int (i : Nat)))) y15) S := by
  have e1 := ul_ev (n := 1000000) (S := S) (e := e) (s := s) (l := l) (b := b) (sq := sq) (x8 := x8) (x9 := x9) (x10 := x10) (x11 := x11) (x12 := x12) (y14 := y14) (y15 := y15) hl (by omega)
  have en : ∀ z, (Em sq s e l x8 x9 x10 x11 x12 (some (.ls (b.map rw2))) y14 y15).set 14 z = Em sq s e l x8 x9 x10 x11 x12 (some (.ls (b.map rw2))) z y15 := fun _ => rfl
  rw [show gC4 = sAsg (gUl 1000000) (tName 14) from rfl]
  generalize gUl 1000000 = U at *
  simp -implicitDefEqProofs [e1, en]
theorem c5_ev {S : Sto} {e : Nat} {s : II} {l b : List II} {sq : D} {x8 x9 x10 x11 x12 y15 : Option D} :
    gC5 (Em sq s e l x8 x9 x10 x11 x12 (some (.ls (b.map rw2))) (some (.ls ((unl l b).map fun i => D.int (i : Nat)))) y15) S = .nx (Em sq s e l x8 x9 x10 x11 (some (due l b)) (some (.ls (b.map rw2))) (some (.ls ((unl l b).map fun i => D.int (i : Nat)))) y15) S := by
  have n1 := gNe_ints (S := S) (a := unl l b)
  unfold due
  cases hu : unl l b with
  | nil =>
    rw [hu] at n1
    simp only [List.map_nil] at n1
    by_cases hab : l.length = b.length
    · simp -implicitDefEqProofs [Em, n1, len_ls, pMin, hab]
    · have hab' : ¬ ((l.length : Int) = b.length) := by omega
      simp -implicitDefEqProofs [Em, n1, len_ls, pMin, hab, hab', min_int]
  | cons i t =>
    rw [hu] at n1
    simp only [List.map_cons] at n1
    simp -implicitDefEqProofs [Em, n1]
theorem c6_ev {S : Sto} {r k e : Nat} {s : II} {l b : List II} {sq : D} {x8 x9 x10 x11 y13 y14 y15 : Option D} (h : St1 S r k s e l b) (hl : l.length ≤ 100) (hb : b.length ≤ 100) :
    gC6 (Em sq s e l x8 x9 x10 x11 (some (due l b)) y13 y14 y15) S = .nx (Em sq s e l x8 x9 x10 x11 (some (due l b)) y13 y14 y15) S := by
  have d1 := diff_ev h.A h.B (by omega)
  have d2 := diff_ev h.B h.A (by omega)
  rw [due_comm] at d2
  have ne : gNe (due l b) (due l b) S = some (.bl false, S) := gNe_self (by
    unfold due
    cases unl l b with
    | nil => by_cases hab : l.length = b.length <;> simp [hab, isDat]
    | cons => rfl)
  simp -implicitDefEqProofs [Em, cls_rec h.A.ho, cls_rec h.B.ho, lookD, mlook, d1, d2, ne]
end K15

set_option Elab.async false
set_option linter.all false
set_option maxRecDepth 100000
set_option maxHeartbeats 2000000
namespace K15
open PySem PySem.Spec L2 Gp
abbrev gC7 : GS := sAsg (gCall F_packed_rows [gVar 7] []) (tName 15)
theorem c7_ev {S : Sto} {e : Nat} {s : II} {l : List II} {sq : D} {x8 x9 x10 x11 x12 y13 y14 y15 : Option D} (hl : l.length ≤ 100) :
    gC7 (Em sq s e l x8 x9 x10 x11 x12 y13 y14 y15) S = .nx (Em sq s e l x8 x9 x10 x11 x12 y13 y14 (some (.tup ((pk l).map pkD)))) S := by
  have p := packed_ev (S := S) (l := l) (by omega)
  simp -implicitDefEqProofs [Em, p]
abbrev gSm (n : Nat) : GE := gLc true n (gSrc srcOf (gVar 15)) (nName 18) none (gBin gIx (gVar 18) (gC (.int 0))) [18]
abbrev gDb (n : Nat) : GE := gLc true n (gSrcA rngOf2 [gC (.int 1), gCallP pLen [gVar 15]]) (nName 17) (some (gBin gEq (gBin gIx (gBin gIx (gVar 15) (gVar 17)) (gC (.int 1))) (gBin gIx (gBin gIx (gVar 15) (gBin gSub (gVar 17) (gC (.int 1)))) (gC (.int 1))))) (gVar 17) [17]
def fstD : D → Option D
  | .tup (c :: _) => some c
  | _ => none
theorem fst_map {a : List NI} : (a.map pkD).filterMap fstD = a.map fun x => D.int (x.1 : Nat) := by
  induction a with
  | nil => rfl
  | cons x a ih => rw [List.map_cons, List.filterMap_cons, ih]; rfl
theorem sm_ev {S : Sto} {e n : Nat} {s : II} {l : List II} {a : List NI} {sq : D} {x8 x9 x10 x11 x12 y13 y14 : Option D} (hl : a.length ≤ 100) (hn : 200000 < n) :
    gSm n (Em sq s e l x8 x9 x10 x11 x12 y13 y14 (some (.tup (a.map pkD)))) S = .ok (.ls (a.map fun x => D.int (x.1 : Nat))) S := by
  have hit := it_tup (ρ := Em sq s e l x8 x9 x10 x11 x12 y13 y14 (some (.tup (a.map pkD)))) (S := S) (i := 15) (l := a.map pkD) _root_.rfl
  have h := gLc_pure (t := nName 18) (c := none) (e := gBin gIx (gVar 18) (gC (.int 0))) (vs := [18]) (n := n) hit fixL_look fstD (fun d hd acc => by
      obtain ⟨x, _, rfl⟩ := List.mem_map.mp hd
      exact ⟨(Em sq s e l x8 x9 x10 x11 x12 y13 y14 (some (.tup (a.map pkD)))).set 18 (some (pkD x)), _root_.rfl, _root_.rfl, _root_.rfl⟩)
    (by simp; omega) (by simp [sizeLine_eq]; omega) (fun d hd y hy => by
      obtain ⟨x, _, rfl⟩ := List.mem_map.mp hd
      cases hy; rfl)
  rw [fst_map] at h
  exact h
theorem db_ev {S : Sto} {e n : Nat} {s : II} {l : List II} {a : List NI} {sq : D} {x8 x9 x10 x11 x12 y13 y14 : Option D} (ha : PkOk a) (hl : a.length ≤ 100) (hn : 200000 < n) :
    gDb n (Em sq s e l x8 x9 x10 x11 x12 y13 y14 (some (.tup (a.map pkD)))) S = .ok (.ls []) S := by
  have lt : pLen [.tup (a.map pkD)] S = some (.int a.length, S) := by simp [pLen, asD, asL, asT]
  have g15 : (Em sq s e l x8 x9 x10 x11 x12 y13 y14 (some (.tup (a.map pkD))))[15]? = some (some (.tup (a.map pkD))) := rfl
  have hit := rng2_it (a := gC (.int 1)) (b := gCallP pLen [gVar 15]) (ρ := Em sq s e l x8 x9 x10 x11 x12 y13 y14 (some (.tup (a.map pkD)))) (S := S) (i := 1) (j := a.length) _root_.rfl (by
    simp -implicitDefEqProofs [g15, lt]) (by omega) (by omega) (by omega) (by omega)
  have h := gLc_pure (t := nName 17) (c := some (gBin gEq (gBin gIx (gBin gIx (gVar 15) (gVar 17)) (gC (.int 1))) (gBin gIx (gBin gIx (gVar 15) (gBin gSub (gVar 17) (gC (.int 1)))) (gC (.int 1))))) (e := gVar 17) (vs := [17]) (n := n) hit fixL_look (fun _ => none) (fun d hd acc => by
      obtain ⟨j, hj⟩ := List.mem_iff_getElem?.mp hd
      obtain ⟨hj, rfl⟩ := rngL_get hj
      obtain ⟨x, hx⟩ := get_some (l := a) (i := j) (by omega)
      obtain ⟨y, hy⟩ := get_some (l := a) (i := j + 1) (by omega)
      have hne := ha.2 j x y hx hy
      have hne' : ¬ y.2 = x.2 := fun e => hne e.symm
      have i1 : ∀ T, gIx (.tup (a.map pkD)) (.int (1 + (j : Int))) T = some (pkD y, T) := fun T => by
        have : (1 + (j : Int)) = ((j + 1 : Nat) : Int) := by omega
        rw [this, gIx_tup, Gp.atI_nat, List.getElem?_map, hy]; rfl
      have i2 : ∀ T, gIx (.tup (a.map pkD)) (.int ((1 + (j : Int)) - 1)) T = some (pkD x, T) := fun T => by
        have : ((1 + (j : Int)) - 1) = (j : Int) := by omega
        rw [this, gIx_tup, Gp.atI_nat, List.getElem?_map, hx]; rfl
      have e1 : ∀ (w : NI) (T : Sto), gIx (pkD w) (.int 1) T = some (rw2 w.2, T) := fun _ _ => _root_.rfl
      refine ⟨(Em sq s e l x8 x9 x10 x11 x12 y13 y14 (some (.tup (a.map pkD)))).set 17 (some (.int (1 + (j : Int)))), _root_.rfl, ?_⟩
      have h15 : ((Em sq s e l x8 x9 x10 x11 x12 y13 y14 (some (.tup (a.map pkD)))).set 17 (some (.int (1 + (j : Int)))))[15]? = some (some (.tup (a.map pkD))) := _root_.rfl
      have h17 : ((Em sq s e l x8 x9 x10 x11 x12 y13 y14 (some (.tup (a.map pkD)))).set 17 (some (.int (1 + (j : Int)))))[17]? = some (some (.int (1 + (j : Int)))) := _root_.rfl
      generalize (Em sq s e l x8 x9 x10 x11 x12 y13 y14 (some (.tup (a.map pkD)))).set 17 (some (.int (1 + (j : Int)))) = R at *
      generalize (1 + (j : Int)) = z at *
      simp -implicitDefEqProofs [tstG, h15, h17, i1, i2, e1, gEq_rw2, hne', -Gp.gIx_tup])
    (by rw [rngL_len]; omega) (by rw [rngL_len, sizeLine_eq]; omega) (fun d hd y hy => by cases hy)
  rw [List.filterMap_eq_nil_iff.mpr fun _ _ => _root_.rfl] at h
  exact h
theorem ints_of {a : List NI} : intsOf (a.map fun x => D.int (x.1 : Nat)) = some (a.map fun x => (x.1 : Int)) :=
  omap_map (f := fun d => match d with | .int i => some i | _ => none) (g := fun x : NI => D.int (x.1 : Nat)) (h := fun x : NI => (x.1 : Int)) (fun _ => _root_.rfl)
theorem sum_len {a : List NI} : (a.map fun x => (x.1 : Int)).sum = (expd a).length := by
  induction a with
  | nil => rfl
  | cons x a ih =>
    have : expd (x :: a) = List.replicate x.1 x.2 ++ expd a := rfl
    rw [List.map_cons, List.sum_cons, ih, this, List.length_append, List.length_replicate]; simp
abbrev gC8 : GS := sIf (gOr (gBin gNe (gCall F_unpacked_rows [gVar 15] []) (gVar 7)) (gOr (gBin gNe (gCallP pSum [gSm 1000000]) (gCallP pLen [gVar 7])) (gBin gNe (gDb 1000000) (gLst false []))))
    (sRet (gC (.bl false)))
    (sNil)
theorem c8_ev {S : Sto} {e : Nat} {s : II} {l : List II} {sq : D} {x8 x9 x10 x11 x12 y13 y14 : Option D} (hl : l.length ≤ 100) :
    gC8 (Em sq s e l x8 x9 x10 x11 x12 y13 y14 (some (.tup ((pk l).map pkD)))) S = .nx (Em sq s e l x8 x9 x10 x11 x12 y13 y14 (some (.tup ((pk l).map pkD)))) S := by
  obtain ⟨h1, h2, h3⟩ := pk_ok l
  have e1 := unpacked_ev (S := S) (l := l) (by omega)
  have e2 := sm_ev (n := 1000000) (S := S) (e := e) (s := s) (l := l) (a := pk l) (sq := sq) (x8 := x8) (x9 := x9) (x10 := x10) (x11 := x11) (x12 := x12) (y13 := y13) (y14 := y14) (by omega) (by omega)
  have e3 := db_ev (n := 1000000) (S := S) (e := e) (s := s) (l := l) (a := pk l) (sq := sq) (x8 := x8) (x9 := x9) (x10 := x10) (x11 := x11) (x12 := x12) (y13 := y13) (y14 := y14) h1 (by omega) (by omega)
  have ps : pSum [.ls ((pk l).map fun x => D.int (x.1 : Nat))] S = some (.int l.length, S) := by
    simp only [pSum, asL, ints_of, sum_len, h2]
  have ne : gNe (.ls (l.map rw2)) (.ls (l.map rw2)) S = some (.bl false, S) := gNe_same pd_ls pd_ls plain_rows
  have nn : gNe (.ls []) (.ls []) S = some (.bl false, S) := gNe_self rfl
  have g7 : (Em sq s e l x8 x9 x10 x11 x12 y13 y14 (some (.tup ((pk l).map pkD))))[7]? = some (some (.ls (l.map rw2))) := rfl
  have g15 : (Em sq s e l x8 x9 x10 x11 x12 y13 y14 (some (.tup ((pk l).map pkD))))[15]? = some (some (.tup ((pk l).map pkD))) := rfl
  rw [show gC8 = sIf (gOr (gBin gNe (gCall F_unpacked_rows [gVar 15] []) (gVar 7)) (gOr (gBin gNe (gCallP pSum [gSm 1000000]) (gCallP pLen [gVar 7])) (gBin gNe (gDb 1000000) (gLst false []))))
    (sRet (gC (.bl false)))
    (sNil) from rfl]
  generalize gSm 1000000 = A at *
  generalize gDb 1000000 = B at *
  simp -implicitDefEqProofs [g7, g15, e1, ne, e2, ps, len_ls, e3, nn]
end K15

set_option Elab.async false
set_option linter.all false
set_option maxRecDepth 100000
set_option maxHeartbeats 2000000
namespace K15
open PySem PySem.Spec L2 Gp
theorem tidy_exc_new {S T : Sto} {c : Str} : tidy S (.exc c (S ++ T)) = .exc c S := by simp [tidy]
theorem sFor_exc1 {n : Nat} {it : GI} {t : GT} {b : GS} {ρ ρ' : Ev} {S S1 S' : Sto} {lk : Look} {d : D} {c : Str} (hit : it ρ S = .ok lk S1 none) (h0 : lk 0 S1 = some (some d)) (h1 : (t d ρ S1).thn b = .exc c ρ' S') : sFor (n + 1) it t b ρ S = .exc c ρ' S' := by
  simp only [sFor, hit, IR.thn, unlRS, forN, h0, h1]
theorem sFor_exc2 {n : Nat} {it : GI} {t : GT} {b : GS} {ρ ρ1 ρ' : Ev} {S S1 S2 S' : Sto} {lk : Look} {d d' : D} {c : Str} (hit : it ρ S = .ok lk S1 none) (h0 : lk 0 S1 = some (some d)) (h1 : (t d ρ S1).thn b = .nx ρ1 S2) (h2 : lk 1 S2 = some (some d')) (h3 : (t d' ρ1 S2).thn b = .exc c ρ' S') : sFor (n + 2) it t b ρ S = .exc c ρ' S' := by
  simp only [sFor, hit, IR.thn, unlRS, forN, h0, h1, h2, h3, Nat.zero_add]
/-- one row of its packs is refused at once -/
theorem unp_one {S : Sto} {c : Int} {p : II} (h : c < 1 ∨ 100000 < c) : F_unpacked_rows [.tup [.tup [.int c, rw2 p]]] S = .exc "PlayError" S := by
  have hit := it_enum (ρ := [some (.tup [.tup [.int c, rw2 p]]), some (.ref S.length), none, none, none]) (S := S ++ [.lst []]) (l := [.tup [.int c, rw2 p]]) _root_.rfl
  have g := get_new (S := S) (c := .lst [])
  have ln : pLen [.ref S.length] (S ++ [.lst []]) = some (.int 0, S ++ [.lst []]) := by rw [len_lst g]; rfl
  have tg : unpTg (.tup [.int 0, .tup [.int c, rw2 p]]) [some (.tup [.tup [.int c, rw2 p]]), some (.ref S.length), none, none, none] (S ++ [.lst []]) = .nx [some (.tup [.tup [.int c, rw2 p]]), some (.ref S.length), some (.int 0), some (.int c), some (rw2 p)] (S ++ [.lst []]) := rfl
  have bd : (unpTg (.tup [.int 0, .tup [.int c, rw2 p]]) [some (.tup [.tup [.int c, rw2 p]]), some (.ref S.length), none, none, none] (S ++ [.lst []])).thn unpBd = .exc "PlayError" [some (.tup [.tup [.int c, rw2 p]]), some (.ref S.length), some (.int 0), some (.int c), some (rw2 p)] (S ++ [.lst []]) := by
    rw [tg, sthn_nx]
    by_cases c1 : c < 1
    · simp -implicitDefEqProofs [c1]
    · have c2 : 100000 < c := by omega
      simp -implicitDefEqProofs [c1, ln, c2]
  have lp := sFor_exc1 (n := 999999) (t := unpTg) (b := unpBd) hit (by rfl) bd
  have lp' : unpLp 1000000 [some (.tup [.tup [.int c, rw2 p]]), some (.ref S.length), none, none, none] (S ++ [.lst []]) = _ := lp
  simp -implicitDefEqProofs [F_unpacked_rows, m_unpacked_rows, startG, lp', tidy_exc_new]
theorem unp_two {S : Sto} {p : II} : F_unpacked_rows [.tup [.tup [.int 1, rw2 p], .tup [.int 2, rw2 p]]] S = .exc "PlayError" S := by
  generalize hA : D.tup [.tup [.int 1, rw2 p], .tup [.int 2, rw2 p]] = A
  have hit := it_enum (ρ := [some A, some (.ref S.length), none, none, none]) (S := S ++ [.lst []]) (l := [.tup [.int 1, rw2 p], .tup [.int 2, rw2 p]]) (by rw [hA]; rfl)
  have g := get_new (S := S) (c := .lst [])
  have ln : pLen [.ref S.length] (S ++ [.lst []]) = some (.int 0, S ++ [.lst []]) := by rw [len_lst g]; rfl
  have tg : unpTg (.tup [.int 0, .tup [.int 1, rw2 p]]) [some A, some (.ref S.length), none, none, none] (S ++ [.lst []]) = .nx [some A, some (.ref S.length), some (.int 0), some (.int 1), some (rw2 p)] (S ++ [.lst []]) := rfl
  have ml : gMul (.ls [rw2 p]) (.int 1) (S ++ [.lst []]) = some (.ls [rw2 p], S ++ [.lst []]) := by
    have : -(2 : Int) ^ 63 ≤ (1 : Int) ∧ (1 : Int) < 2 ^ 63 ∧ [rw2 p].length * (1 : Int).toNat ≤ sizeLine := by
      rw [sizeLine_eq]; exact ⟨by decide, by decide, by simp⟩
    simp only [gMul, asL]
    rw [if_pos this]; rfl
  have ia : gIAdd (.ref S.length) (.ls [rw2 p]) (S ++ [.lst []]) = some (.ref S.length, S ++ [.lst [rw2 p]]) := by
    have : ([] : List D).length + [rw2 p].length ≤ sizeLine := by rw [sizeLine_eq]; simp
    simp only [gIAdd, g, asLM]
    rw [if_pos this, set_new]; rfl
  have bd : (unpTg (.tup [.int 0, .tup [.int 1, rw2 p]]) [some A, some (.ref S.length), none, none, none] (S ++ [.lst []])).thn unpBd = .nx [some A, some (.ref S.length), some (.int 0), some (.int 1), some (rw2 p)] (S ++ [.lst [rw2 p]]) := by
    rw [tg, sthn_nx]
    simp -implicitDefEqProofs [ln, ml, ia]
  have tg2 : unpTg (.tup [.int 1, .tup [.int 2, rw2 p]]) [some A, some (.ref S.length), some (.int 0), some (.int 1), some (rw2 p)] (S ++ [.lst [rw2 p]]) = .nx [some A, some (.ref S.length), some (.int 1), some (.int 2), some (rw2 p)] (S ++ [.lst [rw2 p]]) := rfl
  have i1 : gIx A (.int 0) (S ++ [.lst [rw2 p]]) = some (.tup [.int 1, rw2 p], S ++ [.lst [rw2 p]]) := by rw [← hA]; rfl
  have i2 : gIx (.tup [.int 1, rw2 p]) (.int 1) (S ++ [.lst [rw2 p]]) = some (rw2 p, S ++ [.lst [rw2 p]]) := rfl
  have bd2 : (unpTg (.tup [.int 1, .tup [.int 2, rw2 p]]) [some A, some (.ref S.length), some (.int 0), some (.int 1), some (rw2 p)] (S ++ [.lst [rw2 p]])).thn unpBd = .exc "PlayError" [some A, some (.ref S.length), some (.int 1), some (.int 2), some (rw2 p)] (S ++ [.lst [rw2 p]]) := by
    rw [tg2, sthn_nx]
    simp -implicitDefEqProofs [i1, i2, gEq_rw2, -Gp.gIx_tup]
  have lp := sFor_exc2 (n := 999998) (t := unpTg) (b := unpBd) hit (by rfl) bd (by rfl) bd2
  have lp' : unpLp 1000000 [some A, some (.ref S.length), none, none, none] (S ++ [.lst []]) = _ := lp
  simp -implicitDefEqProofs [F_unpacked_rows, m_unpacked_rows, startG, lp', tidy_exc_new]
/-- the names at the end -/
def Ez (R : Ev) : Prop := R.length = 20
abbrev badL : List D := [.tup [.tup [.int 0, rw2 (1, 1)]], .tup [.tup [.int 1, rw2 (1, 1)], .tup [.int 2, rw2 (1, 1)]], .tup [.tup [.int 100001, rw2 (1, 1)]]]
theorem bad_exc {d : D} (h : d ∈ badL) (S : Sto) : F_unpacked_rows [d] S = .exc "PlayError" S := by
  simp only [badL, List.mem_cons, List.not_mem_nil, or_false] at h
  rcases h with rfl | rfl | rfl
  · exact unp_one (.inl (by decide))
  · exact unp_two
  · exact unp_one (.inr (by decide))
abbrev gBd (n : Nat) : GE := gLc true n (gSrc srcOf (gVar 16)) (nName 18) (some (gBin gNe (gTold ["PlayError"] "PlayError" (gCall F_unpacked_rows [gVar 18] [])) (gC (.str "PlayError")))) (gVar 18) [18]
theorem bd_ev {S : Sto} {R : Ev} {n : Nat} (h16 : R[16]? = some (some (.ls badL))) (hR : R.length = 20) (hn : 200000 < n) : gBd n R S = .ok (.ls []) S := by
  have hit := it_ls (S := S) h16
  have h := gLc_pure (t := nName 18) (c := some (gBin gNe (gTold ["PlayError"] "PlayError" (gCall F_unpacked_rows [gVar 18] [])) (gC (.str "PlayError")))) (e := gVar 18) (vs := [18]) (n := n) hit fixL_look (fun _ => none) (fun d hd acc => by
      refine ⟨(wipeG R [18]).set 18 (some d), _root_.rfl, ?_⟩
      have h18 : ((wipeG R [18]).set 18 (some d))[18]? = some (some d) := by
        rw [List.getElem?_set]; simp [wipeG, hR]
      generalize (wipeG R [18]).set 18 (some d) = Q at *
      simp -implicitDefEqProofs [tstG, h18, bad_exc hd])
    (by simp; omega) (by simp [sizeLine_eq]) (fun d hd y hy => by cases hy)
  rw [List.filterMap_eq_nil_iff.mpr fun _ _ => _root_.rfl] at h
  exact h
abbrev gD1 : GS := sAsg (gLst false [gTup [gTup [gC (.int 0), gTup [gC (.int 1), gC (.int 1)]]], gTup [gTup [gC (.int 1), gTup [gC (.int 1), gC (.int 1)]], gTup [gC (.int 2), gTup [gC (.int 1), gC (.int 1)]]], gTup [gTup [gC (.int 100001), gTup [gC (.int 1), gC (.int 1)]]]]) (tName 16)
abbrev gD2 : GS := sIf (gOr (gBin gNe (gBd 1000000) (gLst false [])) (gBin gNe (gCall F_packed_rows [gLst false []] []) (gTup [])))
    (sRet (gC (.bl false)))
    (sNil)
theorem d12_ev {S : Sto} {R : Ev} (hR : R.length = 20) : ∃ R', (sSeq gD1 gD2) R S = .nx R' S ∧ R'.length = 20 := by
  have h16 : (R.set 16 (some (.ls badL)))[16]? = some (some (.ls badL)) := by rw [List.getElem?_set]; simp [hR]
  have hR' : (R.set 16 (some (.ls badL))).length = 20 := by simp [hR]
  have e1 := bd_ev (n := 1000000) (S := S) h16 hR' (by omega)
  have e2 := packed_ev (S := S) (l := []) (by simp)
  have n1 : gNe (.ls []) (.ls []) S = some (.bl false, S) := gNe_self rfl
  have n2 : gNe (.tup []) (.tup []) S = some (.bl false, S) := gNe_self rfl
  simp only [List.map_nil, pk, List.foldl_nil] at e2
  refine ⟨_, ?_, hR'⟩
  have d1 : gD1 R S = .nx (R.set 16 (some (.ls badL))) S := by
    simp -implicitDefEqProofs [badL, rw2]
  rw [ev_seq, d1, sthn_nx]
  rw [show gD2 = sIf (gOr (gBin gNe (gBd 1000000) (gLst false [])) (gBin gNe (gCall F_packed_rows [gLst false []] []) (gTup [])))
    (sRet (gC (.bl false)))
    (sNil) from rfl]
  generalize gBd 1000000 = B at *
  simp -implicitDefEqProofs [e1, n1, e2, n2]
end K15

set_option Elab.async false
set_option linter.all false
set_option maxRecDepth 100000
set_option maxHeartbeats 2000000
namespace K15
open PySem PySem.Spec L2 Gp
abbrev g0 : D := .ob "Game" [("first", .int 0), ("step", .fn "_law_step")]
theorem game0 {S : Sto} : tidy S (Gp.newObj "Game" F_Game_init [.int 0, .fn "_law_step"] S) = .ok g0 S := by
  simp [Gp.newObj, F_Game_init, m_Game_init, startG, setA, putD, set_at]
  rw [tidy_new]
  simp [frz, pmap]
theorem rec0_no {S : Sto} : Gp.newObj "Recording" F_Recording_init [g0, .int 0] S = .exc "PlayError" (S ++ [.obj "Recording" []]) := by
  simp [Gp.newObj, F_Recording_init, m_Recording_init, startG, Res.bind]
abbrev r0 (S : Sto) : Cell := .obj "Recording" [("game", g0), ("each", .int 30), ("rows", .ref (S.length + 1)), ("kept", .ref (S.length + 2)), ("last", .int 0)]
theorem rec0_ok {S : Sto} : Gp.newObj "Recording" F_Recording_init [g0, .int 30] S = .ok (.ref S.length) (S ++ [r0 S, .lst [], .dict 0 false [(.int 0, .int 0)]]) := by
  have ha : ∀ {T : Sto}, gAttr ["Game"] "first" g0 T = some (.int 0, T) := fun {T} => by simp [gAttr, lookD]
  simp [Gp.newObj, F_Recording_init, m_Recording_init, startG, setA, putD, set_at, set_at2, set_at3, get_at, get_at2, get_at3, len1, len2, gDisp, gDispN, ha, dput, keyOk, flatKey]
abbrev gD3 : GS := sRet (gAnd (gBin gEq (gTold ["PlayError"] "PlayError" (gMake false "Recording" F_Recording_init [gMake true "Game" F_Game_init [gC (.int 0), gC (.fn "_law_step")] [], gC (.int 0)] [])) (gC (.str "PlayError"))) (gAnd (gBin gEq (gTold ["PlayError"] "PlayError" (gMeth [("Recording", [], F_Recording_seek)] "seek" (gMake false "Recording" F_Recording_init [gMake true "Game" F_Game_init [gC (.int 0), gC (.fn "_law_step")] []] [.int (30)]) [gUn gNeg (gC (.int 1))])) (gC (.str "PlayError"))) (gBin gEq (gUn (gAttr ["Recording"] "each") (gMake false "Recording" F_Recording_init [gMake true "Game" F_Game_init [gC (.int 0), gC (.fn "_law_step")] []] [.int (30)])) (gC (.int 30)))))
theorem seek0 {S T : Sto} {n : Nat} (h : S[n]? = some (r0 T)) (h2 : S[T.length + 1]? = some (.lst [])) : F_Recording_seek [.ref n, .int (-1)] S = .exc "PlayError" S := by
  have ha : gAttr ["Recording"] "rows" (.ref n) S = some (.ref (T.length + 1), S) := by simp [gAttr, h, lookD]
  simp -implicitDefEqProofs [F_Recording_seek, m_Recording_seek, startG]
theorem d3_ev {R : Ev} {S : Sto} : ∃ T, gD3 R S = .rt (.bl true) T := by
  have cl : ∀ T : Sto, clsOf (.ref T.length) (T ++ [r0 T, .lst [], .dict 0 false [(.int 0, .int 0)]]) = some (("Recording" : Str), [(("game" : Str), g0), (("each" : Str), D.int 30), (("rows" : Str), D.ref (T.length + 1)), (("kept" : Str), D.ref (T.length + 2)), (("last" : Str), D.int 0)]) := fun T => by simp [clsOf]
  have sk : ∀ T : Sto, F_Recording_seek [.ref T.length, .int (-1)] (T ++ [r0 T, .lst [], .dict 0 false [(.int 0, .int 0)]]) = .exc "PlayError" (T ++ [r0 T, .lst [], .dict 0 false [(.int 0, .int 0)]]) := fun T => seek0 (T := T) (by simp) (by rw [get_at2])
  have ae : ∀ T : Sto, gAttr ["Recording"] "each" (.ref T.length) (T ++ [r0 T, .lst [], .dict 0 false [(.int 0, .int 0)]]) = some (.int 30, T ++ [r0 T, .lst [], .dict 0 false [(.int 0, .int 0)]]) := fun T => by simp [gAttr, lookD]
  simp -implicitDefEqProofs [game0, rec0_no, rec0_ok, cl, sk, ae, lookD, mlook, -List.append_assoc, -List.length_append]
end K15

set_option Elab.async false
set_option linter.all false
set_option maxRecDepth 100000
set_option maxHeartbeats 2000000
namespace K15
open PySem PySem.Spec L2 Gp
theorem sSeq_assoc {a b c : GS} {ρ : Ev} {S : Sto} : sSeq a (sSeq b c) ρ S = sSeq (sSeq a b) c ρ S := by
  simp only [ev_seq]
  cases a ρ S <;> rfl
theorem sSeq_nx {a b : GS} {ρ ρ' : Ev} {S S' : Sto} (h : a ρ S = .nx ρ' S') : sSeq a b ρ S = b ρ' S' := by
  simp only [ev_seq, h, sthn_nx]
abbrev gBody : GS := sSeq gI1 (sSeq gI2 (sSeq (gLp 1000000) (sSeq gC1 (sSeq gC2 (sSeq (gC3 1000000) (sSeq gC4 (sSeq gC5 (sSeq gC6 (sSeq gC7 gC8)))))))))
theorem body_ev {a b c : Int} {sq : D} : ∃ R T, gBody [some sq, some (.ref 1), none, none, none, none, none, none, none, none, none, none, none, none, none, none, none, none, none, none] [.lst [.ref 1], dcC a b c] = .nx R T ∧ R.length = 20 ∧ T[0]? = some (.lst [.ref 1]) := by
  obtain ⟨T1, s, e, e1, s1, he, he2⟩ := init_ev (a := a) (b := b) (c := c) (sq := sq)
  obtain ⟨T2, l, r, k, y8, y9, y10, y11, y12, e2, s2, hl⟩ := lp_ev (n := 1000000) (sq := sq) (x8 := none) (x9 := none) (x10 := none) (x11 := none) (x12 := none) s1 he he2 (by omega)
  have hE : En sq s e l y8 y9 y10 y11 y12 = Em sq s e l y8 y9 y10 y11 y12 none none none := rfl
  rw [hE] at e2
  have e3 := c1_ev (S := T2) (e := e) (s := s) (sq := sq) (x8 := y8) (x9 := y9) (x10 := y10) (x11 := y11) (x12 := y12) (y13 := none) (y14 := none) (y15 := none) hl
  obtain ⟨T4, bt, e4, s4, hb⟩ := c2_ev (sq := sq) (x8 := y8) (x9 := y9) (x10 := y10) (x11 := y11) (x12 := y12) (y13 := none) (y14 := none) (y15 := none) s2 hl
  obtain ⟨T5, z10, e5, s5⟩ := c3_ev (n := 1000000) (b := bt) (sq := sq) (x8 := y8) (x9 := y9) (x10 := y10) (x11 := y11) (x12 := y12) (y14 := none) (y15 := none) s4 he (by omega) (by omega)
  have e6 := c4_ev (S := T5) (e := e) (s := s) (l := l) (b := bt) (sq := sq) (x8 := y8) (x9 := y9) (x10 := z10) (x11 := y11) (x12 := y12) (y14 := none) (y15 := none) hl
  have e7 := c5_ev (S := T5) (e := e) (s := s) (l := l) (b := bt) (sq := sq) (x8 := y8) (x9 := y9) (x10 := z10) (x11 := y11) (x12 := y12) (y15 := none)
  have e8 := c6_ev (sq := sq) (x8 := y8) (x9 := y9) (x10 := z10) (x11 := y11) (y13 := some (.ls (bt.map rw2))) (y14 := some (.ls ((unl l bt).map fun i => D.int (i : Nat)))) (y15 := none) s5 hl (by omega)
  have e9 := c7_ev (S := T5) (e := e) (s := s) (l := l) (sq := sq) (x8 := y8) (x9 := y9) (x10 := z10) (x11 := y11) (x12 := some (due l bt)) (y13 := some (.ls (bt.map rw2))) (y14 := some (.ls ((unl l bt).map fun i => D.int (i : Nat)))) (y15 := none) hl
  have e10 := c8_ev (S := T5) (e := e) (s := s) (l := l) (sq := sq) (x8 := y8) (x9 := y9) (x10 := z10) (x11 := y11) (x12 := some (due l bt)) (y13 := some (.ls (bt.map rw2))) (y14 := some (.ls ((unl l bt).map fun i => D.int (i : Nat)))) hl
  refine ⟨Em sq s e l y8 y9 z10 y11 (some (due l bt)) (some (.ls (bt.map rw2))) (some (.ls ((unl l bt).map fun i => D.int (i : Nat)))) (some (.tup ((pk l).map pkD))), T5, ?_, ?_, s5.c0⟩
  · rw [show gBody = sSeq gI1 (sSeq gI2 (sSeq (gLp 1000000) (sSeq gC1 (sSeq gC2 (sSeq (gC3 1000000) (sSeq gC4 (sSeq gC5 (sSeq gC6 (sSeq gC7 gC8))))))))) from rfl, sSeq_assoc, sSeq_nx e1, sSeq_nx e2, sSeq_nx e3, sSeq_nx e4, sSeq_nx e5, sSeq_nx e6, sSeq_nx e7, sSeq_nx e8, sSeq_nx e9, e10]
  · rfl
theorem law_is : m_law = sSeq (sFor 1000000 (gSrc srcOf (gCall F_law_rounds [gVar 0, gC (.int 1)] [])) (tName 1) gBody) (sSeq gD1 (sSeq gD2 gD3)) := rfl
theorem live1 {S : Sto} {l : List D} {n i : Nat} (h : S[n]? = some (.lst l)) : liveL n i S = some l[i]? := by simp only [liveL, h]
theorem keeps : Keeps := by
  intro ns hl _
  obtain ⟨a, b, c, e1⟩ := rounds_ev hl
  obtain ⟨R, T, e2, hR, hT⟩ := body_ev (a := a) (b := b) (c := c) (sq := .sq (ns.map .int))
  obtain ⟨R', e3, hR'⟩ := d12_ev (S := T) hR
  obtain ⟨U, e4⟩ := d3_ev (R := R') (S := T)
  generalize hB : gBody = B at e2
  generalize hD3 : gD3 = D3 at e4
  generalize hD12 : gD1 = D1 at e3
  generalize hD2 : gD2 = D2 at e3
  have hm : m_law = sSeq (sFor 1000000 (gSrc srcOf (gCall F_law_rounds [gVar 0, gC (.int 1)] [])) (tName 1) B) (sSeq D1 (sSeq D2 D3)) := by
    rw [law_is, hB, hD12, hD2, hD3]
  have hst : startG 20 [.sq (ns.map .int)] = [some (.sq (ns.map .int)), none, none, none, none, none, none, none, none, none, none, none, none, none, none, none, none, none, none, none] := rfl
  have lp : sFor 1000000 (gSrc srcOf (gCall F_law_rounds [gVar 0, gC (.int 1)] [])) (tName 1) B [some (.sq (ns.map .int)), none, none, none, none, none, none, none, none, none, none, none, none, none, none, none, none, none, none, none] [] = .nx R T := by
    have hit : gSrc srcOf (gCall F_law_rounds [gVar 0, gC (.int 1)] []) [some (.sq (ns.map .int)), none, none, none, none, none, none, none, none, none, none, none, none, none, none, none, none, none, none, none] [] = .ok (liveL 0) [.lst [.ref 1], dcC a b c] none := by
      have : gCall F_law_rounds [gVar 0, gC (.int 1)] [] [some (.sq (ns.map .int)), none, none, none, none, none, none, none, none, none, none, none, none, none, none, none, none, none, none, none] [] = .ok (.ref 0) [.lst [.ref 1], dcC a b c] := by
        simp -implicitDefEqProofs [e1]
      simp only [gSrc, this, srcOf, ulOf, List.getElem?_cons_zero]
    have l0 : liveL 0 0 [.lst [.ref 1], dcC a b c] = some (some (.ref 1)) := rfl
    have l1 : liveL 0 1 T = some none := by rw [live1 hT]; rfl
    show sFor (999998 + 2) _ _ _ _ _ = _
    simp only [sFor, hit, IR.thn, unlRS, forN, l0, ev_tname, sthn_nx, List.set_cons_succ, List.set_cons_zero, e2, Nat.zero_add, l1]
  refine ⟨U, ?_⟩
  show fnG false 1 20 m_law [.sq (ns.map .int)] [] = _
  rw [fnG_eq, hst, hm, sSeq_nx lp, sSeq_assoc, sSeq_nx e3, e4]
  rfl
end K15

theorem PySem.Challenge.cw_gamestack_k15_recordings_that_are_sought_holds : PySem.Challenge.rw_gamestack_k15_recordings_that_are_sought.Holds := by
  exact K15_end K15.keeps
