import PyProof.Rows.All
import HandS.ForMost
import HandS.ForExc
import HandS.Wide
import KE.KNest
import HandS.TupAny
import HandS.TupMul
import KE.DataEq
import KE.DataCmp
import KE.DataFind
import KE.SortData
import KE.DataMinMax
import HandS.Strs
import HandS.TupLen
import HandS.CallSlots
import HandS.Conv
import HandS.SortInts
import HandS.More
import HandS.Style
import HandS.WideMore
import HandS.Small
import HandS.TryOnly
import HandS.ExcOwn
import HandS.Iter
import KE.GoesEnum
import HandS.DictComp
import HandS.BoundDict
import HandS.SetKeys
import HandS.Lambda
import HandS.WordsExc
import HandS.EndTab
import HandS.Head0
import HandS.Head1
import HandS.Head2
import HandS.HeadEnd
import HandS.HeadHook4
import HandS.GenList
import PyProof.GenArm
import PyProof.CollectWalk
import HandS.AnyAll
import HandS.Text
import PyProof.WalksS
import PyProof.ConsumeS
import PyProof.WalkInts
import HandS.ListItems
import KE.KAssignIn
import PySem.Challenge.RW_gamestack_k12_moves_found_in_buttons
set_option Elab.async false
set_option linter.all false
set_option maxRecDepth 100000
/-! Gp1: ghost values, cells, how they stand for the abstract heap -/
namespace Gp
open PySem PySem.Spec L2
open PyProof.Rows hiding St

/-- ghost values: deep but for ref, a cell of the store -/
inductive D where
  | non
  | bl (b : Bool)
  | int (i : Int)
  | str (s : Str)
  | tup (l : List D)
  | kt (l : List D)
  | ls (l : List D)
  | sq (l : List D)
  | dc (k : Nat) (l : List (D × D))
  | ob (c : Str) (fs : List (Str × D))
  | ref (n : Nat)
  | fn (x : Str)
  | lam (x : Str)

mutual
def D.beq : D → D → Bool
  | .non, .non => true
  | .bl a, .bl b => a == b
  | .int a, .int b => decide (a = b)
  | .str a, .str b => decide (a = b)
  | .tup a, .tup b => D.beqL a b
  | .kt a, .kt b => D.beqL a b
  | .ls a, .ls b => D.beqL a b
  | .sq a, .sq b => D.beqL a b
  | .dc k a, .dc j b => decide (k = j) && D.beqM a b
  | .ob c a, .ob d b => decide (c = d) && D.beqF a b
  | .ref a, .ref b => decide (a = b)
  | .fn a, .fn b => decide (a = b)
  | .lam a, .lam b => decide (a = b)
  | _, _ => false
termination_by structural x => x
def D.beqL : List D → List D → Bool
  | [], [] => true
  | a :: x, b :: y => D.beq a b && D.beqL x y
  | _, _ => false
termination_by structural x => x
def D.beqM : List (D × D) → List (D × D) → Bool
  | [], [] => true
  | (k, a) :: x, (j, b) :: y => D.beq k j && D.beq a b && D.beqM x y
  | _, _ => false
termination_by structural x => x
def D.beqF : List (Str × D) → List (Str × D) → Bool
  | [], [] => true
  | (k, a) :: x, (j, b) :: y => decide (k = j) && D.beq a b && D.beqF x y
  | _, _ => false
termination_by structural x => x
end

mutual
theorem D.eq_of_beq : ∀ {a b : D}, D.beq a b = true → a = b
  | .non, b, h => by cases b <;> simp_all [D.beq]
  | .bl _, b, h => by cases b <;> simp_all [D.beq]
  | .int _, b, h => by cases b <;> simp_all [D.beq]
  | .str _, b, h => by cases b <;> simp_all [D.beq]
  | .ref _, b, h => by cases b <;> simp_all [D.beq]
  | .fn _, b, h => by cases b <;> simp_all [D.beq]
  | .lam _, b, h => by cases b <;> simp_all [D.beq]
  | .tup x, b, h => by cases b <;> simp [D.beq] at h; rw [D.eq_of_beqL h]
  | .kt x, b, h => by cases b <;> simp [D.beq] at h; rw [D.eq_of_beqL h]
  | .ls x, b, h => by cases b <;> simp [D.beq] at h; rw [D.eq_of_beqL h]
  | .sq x, b, h => by cases b <;> simp [D.beq] at h; rw [D.eq_of_beqL h]
  | .dc c x, b, h => by cases b <;> simp [D.beq] at h; rw [h.1, D.eq_of_beqM h.2]
  | .ob c x, b, h => by cases b <;> simp [D.beq] at h; rw [h.1, D.eq_of_beqF h.2]
theorem D.eq_of_beqL : ∀ {a b : List D}, D.beqL a b = true → a = b
  | [], b, h => by cases b <;> simp_all [D.beqL]
  | a :: x, [], h => by simp [D.beqL] at h
  | a :: x, b :: y, h => by simp [D.beqL] at h; rw [D.eq_of_beq h.1, D.eq_of_beqL h.2]
theorem D.eq_of_beqM : ∀ {a b : List (D × D)}, D.beqM a b = true → a = b
  | [], b, h => by cases b <;> simp_all [D.beqM]
  | a :: x, [], h => by simp [D.beqM] at h
  | (k, a) :: x, (k', b) :: y, h => by
    simp [D.beqM] at h; obtain ⟨⟨h0, h1⟩, h2⟩ := h; rw [D.eq_of_beq h0, D.eq_of_beq h1, D.eq_of_beqM h2]
theorem D.eq_of_beqF : ∀ {a b : List (Str × D)}, D.beqF a b = true → a = b
  | [], b, h => by cases b <;> simp_all [D.beqF]
  | a :: x, [], h => by simp [D.beqF] at h
  | (k, a) :: x, (k', b) :: y, h => by
    simp [D.beqF] at h; obtain ⟨⟨rfl, h1⟩, h2⟩ := h; rw [D.eq_of_beq h1, D.eq_of_beqF h2]
end
mutual
theorem D.beq_self : ∀ a : D, D.beq a a = true
  | .non => rfl
  | .bl _ => by simp [D.beq]
  | .int _ => by simp [D.beq]
  | .str _ => by simp [D.beq]
  | .ref _ => by simp [D.beq]
  | .fn _ => by simp [D.beq]
  | .lam _ => by simp [D.beq]
  | .tup x => by simp [D.beq, D.beq_selfL x]
  | .kt x => by simp [D.beq, D.beq_selfL x]
  | .ls x => by simp [D.beq, D.beq_selfL x]
  | .sq x => by simp [D.beq, D.beq_selfL x]
  | .dc _ x => by simp [D.beq, D.beq_selfM x]
  | .ob _ x => by simp [D.beq, D.beq_selfF x]
theorem D.beq_selfL : ∀ a : List D, D.beqL a a = true
  | [] => rfl
  | a :: x => by simp [D.beqL, D.beq_self a, D.beq_selfL x]
theorem D.beq_selfM : ∀ a : List (D × D), D.beqM a a = true
  | [] => rfl
  | (k, a) :: x => by simp [D.beqM, D.beq_self k, D.beq_self a, D.beq_selfM x]
theorem D.beq_selfF : ∀ a : List (Str × D), D.beqF a a = true
  | [] => rfl
  | (k, a) :: x => by simp [D.beqF, D.beq_self a, D.beq_selfF x]
end
instance : DecidableEq D := fun a b => if h : D.beq a b = true then .isTrue (D.eq_of_beq h) else .isFalse (fun e => h (e ▸ D.beq_self a))
instance : Inhabited D := ⟨.non⟩

/-- what stands at a place of the store; lk: a dict that is walked -/
inductive Cell where
  | lst (l : List D)
  | dict (k : Nat) (lk : Bool) (l : List (D × D))
  | obj (c : Str) (fs : List (Str × D))
  deriving DecidableEq
abbrev Sto := List Cell
/-- the fixed part; tb: what is known of the tables of code objects -/
structure G where
  P : Program
  w : World
  K : PySem.W.Frag
  mg : Str → Option Value
  base : Heap
  tb : Hp → Prop
  cods : List (Str × Str × Addr × Addr)
  /-- lambdas that are held: by their marks; the cells that they look into; the mark of the def that makes them -/
  lamR : Str → Addr → Addr → (Heap → Prop) → (Heap → Prop) → Prop := fun _ _ _ _ _ => False
  lamC : List (Str × Addr) := []
  lamM : Option Str := none
  tbk : ∀ H H' : Hp, (∀ b o, H b = some o → ((∃ ps, o = .tbl ps) ∨ ∃ φ, o = .ext φ) → H' b = some o) → tb H → tb H'

/-- a list, a tuple that nobody changes any more -/
def LsI (g : G) (H : Hp) (μ : List Addr) (p : Addr) (vs : List V) : Prop :=
  (p ∉ μ ∧ Rd H p (.lst vs)) ∨
    ∃ (o : Obj) (its : Array Value) (n : Nat), g.K.lookup p = some o ∧ o.cls = .type "list" ∧ o.dict = none ∧ o.data = .seq its n ∧ its.size ≤ sizeLine ∧ Vals vs its.toList
def TpK (g : G) (p : Addr) (vs : List V) : Prop :=
  ∃ (o : Obj) (its : Array Value) (n : Nat), g.K.lookup p = some o ∧ o.cls = .type "tuple" ∧ o.dict = none ∧ o.data = .seq its n ∧ its.size ≤ sizeLine ∧ Vals vs its.toList
theorem LsI.sq {g : G} {H : Hp} {μ : List Addr} {p : Addr} {vs : List V} (h : LsI g H μ p vs) : SqL g.K H p vs := h.elim (fun x => .inl x.2) .inr
theorem TpK.sq {g : G} {H : Hp} {p : Addr} {vs : List V} (h : TpK g p vs) : SqT g.K H p vs := let ⟨o, its, n, e1, e2, _, e3⟩ := h; .inr ⟨o, its, n, e1, e2, e3⟩

/-- keys -/
def kD : Key → D
  | .inl i => .int i
  | .inr s => .str s
theorem kD_inj {a b : Key} (h : kD a = kD b) : a = b := by
  cases a <;> cases b <;> simp_all [kD]
def tD (k : List Key) : D := .tup (k.map kD)
theorem tD_inj {a b : List Key} (h : tD a = tD b) : a = b := by
  simp only [tD, D.tup.injEq] at h
  induction a generalizing b with
  | nil => cases b <;> simp_all
  | cons x a ih =>
    cases b with
    | nil => simp at h
    | cons y b => simp only [List.map_cons, List.cons.injEq] at h; rw [kD_inj h.1, ih h.2]
def isDic : HO → Bool
  | .dK _ => true
  | .dT _ => true
  | _ => false
/-- the thing without a dict's lock -/
def core : HO → HO
  | .frz o u => if isDic u = true then u else .frz o u
  | o => o

mutual
def Rep (g : G) (H : Hp) (μ : List Addr) : D → V → Prop
  | .non, v => v = .non
  | .bl b, v => v = .bl b
  | .int i, v => v = .int i
  | .str s, v => v = .str s
  | .tup l, v => ∃ p vs, v = .ref p ∧ p ∉ μ ∧ H p = some (.tup vs) ∧ RepL g H μ l vs
  | .kt l, v => ∃ p vs, v = .ref p ∧ TpK g p vs ∧ RepL g H μ l vs
  | .ls l, v => ∃ p vs, v = .ref p ∧ p ∉ μ ∧ H p = some (.lst vs) ∧ RepL g H μ l vs
  | .sq l, v => ∃ p vs, v = .ref p ∧ LsI g H μ p vs ∧ RepL g H μ l vs
  | .dc k l, v => ∃ a, v = .ref a ∧ a ∉ μ ∧ ((k = 0 ∧ ∃ ks, Rd H a (.dK ks) ∧ RepK g H μ l ks) ∨ (k = 1 ∧ ∃ ks, Rd H a (.dT ks) ∧ RepT g H μ l ks))
  | .ob c fs, v => ∃ a C dx vs, v = .ref a ∧ a ∉ μ ∧ g.mg c = some (.ref C) ∧ H a = some (.ins C dx vs) ∧ RepF g H μ fs vs
  | .ref n, v => ∃ a, v = .ref a ∧ μ[n]? = some a
  | .fn x, v => ∃ a, v = .ref a ∧ g.mg x = some (.ref a)
  | .lam x, v => ∃ a c φ ψ, v = .ref a ∧ a ∉ μ ∧ c ∉ μ ∧ H a = some (.ext φ) ∧ H c = some (.ext ψ) ∧ g.lamR x a c φ ψ
def RepL (g : G) (H : Hp) (μ : List Addr) : List D → List V → Prop
  | [], vs => vs = []
  | d :: l, vs => ∃ v r, vs = v :: r ∧ Rep g H μ d v ∧ RepL g H μ l r
def RepK (g : G) (H : Hp) (μ : List Addr) : List (D × D) → List (Key × V) → Prop
  | [], vs => vs = []
  | d :: l, vs => ∃ k v r, vs = (k, v) :: r ∧ d.1 = kD k ∧ Rep g H μ d.2 v ∧ RepK g H μ l r
def RepT (g : G) (H : Hp) (μ : List Addr) : List (D × D) → List (List Key × V) → Prop
  | [], vs => vs = []
  | d :: l, vs => ∃ k v r, vs = (k, v) :: r ∧ d.1 = tD k ∧ Rep g H μ d.2 v ∧ RepT g H μ l r
def RepF (g : G) (H : Hp) (μ : List Addr) : List (Str × D) → List (Str × V) → Prop
  | [], vs => vs = []
  | d :: l, vs => ∃ v r, vs = (d.1, v) :: r ∧ Rep g H μ d.2 v ∧ RepF g H μ l r
end

theorem core_self {u : HO} (hz : ∀ o x, u ≠ .frz o x) : core u = u := by
  cases u <;> first | rfl | exact absurd rfl (hz _ _)
theorem core_of {u o' : HO} (c : core o' = u) : o' = u ∨ ∃ x, o' = .frz x u := by
  cases o' with
  | frz x y =>
    by_cases hd : isDic y = true
    · simp only [core, if_pos hd] at c; subst c; exact .inr ⟨x, rfl⟩
    · simp only [core, if_neg hd] at c; exact .inl c
  | _ => exact .inl c
theorem core_eq {u o' : HO} (c : core o' = u) (hd : isDic u = false) : o' = u := by
  cases o' with
  | frz x y =>
    by_cases h : isDic y = true
    · simp only [core, if_pos h] at c; subst c; rw [h] at hd; cases hd
    · simp only [core, if_neg h] at c; exact c
  | _ => exact c
theorem core_tbl {o o1 : HO} (c : core o1 = core o) (ht : ∀ ps, o ≠ .tbl ps) : ∀ ps, o1 ≠ .tbl ps := fun ps z => by
  subst z
  have c : core o = .tbl ps := c.symm
  rcases core_of c with rfl | ⟨x, rfl⟩
  · exact ht _ rfl
  · simp [core, isDic] at c

/-- what may have changed from one moment to a later one: the cells; new cells are new -/
structure Grw (μ : List Addr) (H : Hp) (μ' : List Addr) (H' : Hp) : Prop where
  pre : ∃ ν, μ' = μ ++ ν ∧ ∀ b ∈ ν, ∀ o, H b = some o → ∃ ps, o = .tbl ps
  keep : ∀ b o, b ∉ μ → H b = some o → (∀ ps, o ≠ .tbl ps) → ∃ o', H' b = some o' ∧ core o' = core o
  sup : ∀ b o, H b = some o → (∀ ps, o ≠ .tbl ps) → ∃ o', H' b = some o' ∧ ∀ ps, o' ≠ .tbl ps
theorem Grw.refl (μ : List Addr) (H : Hp) : Grw μ H μ H := ⟨⟨[], by simp, by simp⟩, fun _ o _ h _ => ⟨o, h, rfl⟩, fun _ o h n => ⟨o, h, n⟩⟩
section
variable {g : G} {μ μ' μ1 μ2 : List Addr} {H H' H1 H2 : Hp}
theorem Grw.nin (h : Grw μ H μ' H') {b : Addr} {o : HO} (hb : b ∉ μ) (e : H b = some o) (ht : ∀ ps, o ≠ .tbl ps := by intro ps z; cases z) : b ∉ μ' := by
  obtain ⟨ν, rfl, hf⟩ := h.pre
  intro hm
  rcases List.mem_append.mp hm with z | z
  · exact hb z
  · obtain ⟨ps, q⟩ := hf b z o e
    exact ht ps q
theorem Grw.trans (a : Grw μ H μ1 H1) (b : Grw μ1 H1 μ2 H2) : Grw μ H μ2 H2 := by
  refine ⟨?_, fun x o hx e ht => ?_, fun x o e ht => ?_⟩
  rotate_left
  · obtain ⟨o1, e1, c1⟩ := a.keep x o hx e ht
    obtain ⟨o2, e2, c2⟩ := b.keep x o1 (a.nin hx e ht) e1 (core_tbl c1 ht)
    exact ⟨o2, e2, c2.trans c1⟩
  rotate_left
  · obtain ⟨ν, e1, f1⟩ := a.pre
    obtain ⟨ν', e2, f2⟩ := b.pre
    refine ⟨ν ++ ν', by rw [e2, e1, List.append_assoc], fun x hx o e => ?_⟩
    rcases List.mem_append.mp hx with z | z
    · exact f1 x z o e
    · by_cases ht : ∃ ps, o = .tbl ps
      · exact ht
      · obtain ⟨o', q, n⟩ := a.sup x o e fun ps z => ht ⟨ps, z⟩
        obtain ⟨ps, r⟩ := f2 x z o' q
        exact absurd r (n ps)
  · obtain ⟨o', q, n⟩ := a.sup x o e ht
    exact b.sup x o' q n
theorem Grw.get (h : Grw μ H μ' H') {n : Nat} {a : Addr} (e : μ[n]? = some a) : μ'[n]? = some a := by
  obtain ⟨ν, rfl, _⟩ := h.pre
  rw [List.getElem?_append_left (List.getElem?_eq_some_iff.mp e).1]; exact e
theorem Grw.at (h : Grw μ H μ' H') {p : Addr} {u : HO} (hp : p ∉ μ) (r : H p = some u) (hu : core u = u) (hd : isDic u = false) (ht : ∀ ps, u ≠ .tbl ps) : H' p = some u := by
  obtain ⟨o', e, c⟩ := h.keep p u hp r ht
  rw [hu] at c
  rw [e, core_eq c hd]
theorem Grw.rd (h : Grw μ H μ' H') {p : Addr} {u : HO} (hp : p ∉ μ) (r : Rd H p u) (ht : ∀ ps, u ≠ .tbl ps) (hz : ∀ o x, u ≠ .frz o x) : p ∉ μ' ∧ Rd H' p u := by
  rcases r with r | ⟨o, r⟩
  · refine ⟨h.nin hp r ht, ?_⟩
    obtain ⟨o', e, c⟩ := h.keep p _ hp r ht
    rw [core_self hz] at c
    rcases core_of c with rfl | ⟨x, rfl⟩
    · exact .inl e
    · exact .inr ⟨x, e⟩
  · refine ⟨h.nin hp r, ?_⟩
    obtain ⟨o', e, c⟩ := h.keep p _ hp r (fun ps z => by cases z)
    by_cases hd : isDic u = true
    · simp only [core, if_pos hd] at c
      rcases core_of c with rfl | ⟨x, rfl⟩
      · exact .inl e
      · exact .inr ⟨x, e⟩
    · simp only [core, if_neg hd] at c
      rcases core_of c with rfl | ⟨x, rfl⟩
      · exact .inr ⟨o, e⟩
      · simp [core, isDic] at c
        exact absurd c.2.symm (hz _ _)
theorem LsI.monoW {p : Addr} {vs : List V} (h : Grw μ H μ' H') (x : LsI g H μ p vs) : LsI g H' μ' p vs :=
  x.elim (fun y => .inl (h.rd y.1 y.2 (fun ps z => by cases z) (fun o x z => by cases z))) .inr
mutual
theorem Rep.monoW (h : Grw μ H μ' H') : ∀ {d : D} {v : V}, Rep g H μ d v → Rep g H' μ' d v
  | .non, v, r => r
  | .bl b, v, r => r
  | .int i, v, r => r
  | .str s, v, r => r
  | .tup l, v, r => by
    simp only [Rep] at r ⊢
    obtain ⟨p, vs, e, n, t, q⟩ := r
    exact ⟨p, vs, e, h.nin n t, h.at n t rfl rfl (fun ps z => by cases z), RepL.monoW h q⟩
  | .kt l, v, r => by
    simp only [Rep] at r ⊢
    obtain ⟨p, vs, e, t, q⟩ := r
    exact ⟨p, vs, e, t, RepL.monoW h q⟩
  | .ls l, v, r => by
    simp only [Rep] at r ⊢
    obtain ⟨p, vs, e, n, t, q⟩ := r
    exact ⟨p, vs, e, h.nin n t, h.at n t rfl rfl (fun ps z => by cases z), RepL.monoW h q⟩
  | .sq l, v, r => by
    simp only [Rep] at r ⊢
    obtain ⟨p, vs, e, t, q⟩ := r
    exact ⟨p, vs, e, t.monoW h, RepL.monoW h q⟩
  | .dc k l, v, r => by
    simp only [Rep] at r ⊢
    obtain ⟨a, e, n, ⟨hk, ks, d, q⟩ | ⟨hk, ks, d, q⟩⟩ := r
    · obtain ⟨n', d'⟩ := h.rd n d (fun ps z => by cases z) (fun o x z => by cases z)
      exact ⟨a, e, n', .inl ⟨hk, ks, d', RepK.monoW h q⟩⟩
    · obtain ⟨n', d'⟩ := h.rd n d (fun ps z => by cases z) (fun o x z => by cases z)
      exact ⟨a, e, n', .inr ⟨hk, ks, d', RepT.monoW h q⟩⟩
  | .ob c fs, v, r => by
    simp only [Rep] at r ⊢
    obtain ⟨a, C, dx, vs, e, n, m, k, q⟩ := r
    exact ⟨a, C, dx, vs, e, h.nin n k, m, h.at n k rfl rfl (fun ps z => by cases z), RepF.monoW h q⟩
  | .ref n, v, r => by
    simp only [Rep] at r ⊢
    obtain ⟨a, e, q⟩ := r
    exact ⟨a, e, h.get q⟩
  | .fn x, v, r => by simp only [Rep] at r ⊢; exact r
  | .lam x, v, r => by
    simp only [Rep] at r ⊢
    obtain ⟨a, c, φ, ψ, e, n1, n2, h1, h2, q⟩ := r
    exact ⟨a, c, φ, ψ, e, h.nin n1 h1, h.nin n2 h2, h.at n1 h1 rfl rfl (fun ps z => by cases z), h.at n2 h2 rfl rfl (fun ps z => by cases z), q⟩
theorem RepL.monoW (h : Grw μ H μ' H') : ∀ {d : List D} {v : List V}, RepL g H μ d v → RepL g H' μ' d v
  | [], v, r => r
  | d :: l, v, r => by
    simp only [RepL] at r ⊢
    obtain ⟨x, y, e, q, t⟩ := r
    exact ⟨x, y, e, Rep.monoW h q, RepL.monoW h t⟩
theorem RepK.monoW (h : Grw μ H μ' H') : ∀ {d : List (D × D)} {v : List (Key × V)}, RepK g H μ d v → RepK g H' μ' d v
  | [], v, r => r
  | d :: l, v, r => by
    simp only [RepK] at r ⊢
    obtain ⟨k, x, y, e, z, q, t⟩ := r
    exact ⟨k, x, y, e, z, Rep.monoW h q, RepK.monoW h t⟩
theorem RepT.monoW (h : Grw μ H μ' H') : ∀ {d : List (D × D)} {v : List (List Key × V)}, RepT g H μ d v → RepT g H' μ' d v
  | [], v, r => r
  | d :: l, v, r => by
    simp only [RepT] at r ⊢
    obtain ⟨k, x, y, e, z, q, t⟩ := r
    exact ⟨k, x, y, e, z, Rep.monoW h q, RepT.monoW h t⟩
theorem RepF.monoW (h : Grw μ H μ' H') : ∀ {d : List (Str × D)} {v : List (Str × V)}, RepF g H μ d v → RepF g H' μ' d v
  | [], v, r => r
  | d :: l, v, r => by
    simp only [RepF] at r ⊢
    obtain ⟨x, y, e, q, t⟩ := r
    exact ⟨x, y, e, Rep.monoW h q, RepF.monoW h t⟩
end
end

/-- .. and what is locked stays so -/
structure Grow (μ : List Addr) (H : Hp) (μ' : List Addr) (H' : Hp) : Prop extends Grw μ H μ' H' where
  fz : ∀ b o u, H b = some (.frz o u) → H' b = some (.frz o u)
theorem Grow.refl (μ : List Addr) (H : Hp) : Grow μ H μ H := ⟨.refl μ H, fun _ _ _ h => h⟩
section
variable {g : G} {μ μ' μ1 μ2 : List Addr} {H H' H1 H2 : Hp}
theorem Grow.nin (h : Grow μ H μ' H') {b : Addr} {o : HO} (hb : b ∉ μ) (e : H b = some o) (ht : ∀ ps, o ≠ .tbl ps := by intro ps z; cases z) : b ∉ μ' := h.toGrw.nin hb e ht
theorem Grow.trans (a : Grow μ H μ1 H1) (b : Grow μ1 H1 μ2 H2) : Grow μ H μ2 H2 := ⟨a.toGrw.trans b.toGrw, fun x o u e => b.fz x o u (a.fz x o u e)⟩
theorem Grow.get (h : Grow μ H μ' H') {n : Nat} {a : Addr} (e : μ[n]? = some a) : μ'[n]? = some a := h.toGrw.get e
theorem Grow.at (h : Grow μ H μ' H') {p : Addr} {u : HO} (hp : p ∉ μ) (r : H p = some u) (hu : core u = u) (hd : isDic u = false) (ht : ∀ ps, u ≠ .tbl ps) : H' p = some u := h.toGrw.at hp r hu hd ht
theorem Grow.rd (h : Grow μ H μ' H') {p : Addr} {u : HO} (hp : p ∉ μ) (r : Rd H p u) (ht : ∀ ps, u ≠ .tbl ps) (hz : ∀ o x, u ≠ .frz o x) : p ∉ μ' ∧ Rd H' p u := h.toGrw.rd hp r ht hz
theorem LsI.mono {p : Addr} {vs : List V} (h : Grow μ H μ' H') (x : LsI g H μ p vs) : LsI g H' μ' p vs := x.monoW h.toGrw
theorem Rep.mono (h : Grow μ H μ' H') {d : D} {v : V} (r : Rep g H μ d v) : Rep g H' μ' d v := r.monoW h.toGrw
theorem RepL.mono (h : Grow μ H μ' H') {d : List D} {v : List V} (r : RepL g H μ d v) : RepL g H' μ' d v := r.monoW h.toGrw
theorem RepK.mono (h : Grow μ H μ' H') {d : List (D × D)} {v : List (Key × V)} (r : RepK g H μ d v) : RepK g H' μ' d v := r.monoW h.toGrw
theorem RepT.mono (h : Grow μ H μ' H') {d : List (D × D)} {v : List (List Key × V)} (r : RepT g H μ d v) : RepT g H' μ' d v := r.monoW h.toGrw
theorem RepF.mono (h : Grow μ H μ' H') {d : List (Str × D)} {v : List (Str × V)} (r : RepF g H μ d v) : RepF g H' μ' d v := r.monoW h.toGrw
end

/-! ### lists of them -/
section
variable {g : G} {μ : List Addr} {H : Hp}
theorem RepL.nil : RepL g H μ [] [] := by simp [RepL]
theorem RepL.cons {d : D} {v : V} {l : List D} {r : List V} (h : Rep g H μ d v) (t : RepL g H μ l r) : RepL g H μ (d :: l) (v :: r) := by simp only [RepL]; exact ⟨v, r, rfl, h, t⟩
theorem RepL.length : ∀ {l : List D} {vs : List V}, RepL g H μ l vs → l.length = vs.length
  | [], vs, r => by simp only [RepL] at r; subst r; rfl
  | d :: l, vs, r => by
    simp only [RepL] at r
    obtain ⟨x, y, e, q, t⟩ := r
    subst e; simp [RepL.length t]
theorem RepL.get : ∀ {l : List D} {vs : List V} {i : Nat} {d : D}, RepL g H μ l vs → l[i]? = some d → ∃ v, vs[i]? = some v ∧ Rep g H μ d v
  | [], vs, i, d, r, e => by simp at e
  | x :: l, vs, i, d, r, e => by
    simp only [RepL] at r
    obtain ⟨v, y, rfl, q, t⟩ := r
    cases i with
    | zero => simp at e; subst e; exact ⟨v, rfl, q⟩
    | succ i => simp at e; obtain ⟨u, h1, h2⟩ := RepL.get t e; exact ⟨u, by simpa using h1, h2⟩
theorem RepL.get' : ∀ {l : List D} {vs : List V} {i : Nat} {v : V}, RepL g H μ l vs → vs[i]? = some v → ∃ d, l[i]? = some d ∧ Rep g H μ d v
  | [], vs, i, v, r, e => by simp only [RepL] at r; subst r; simp at e
  | x :: l, vs, i, v, r, e => by
    simp only [RepL] at r
    obtain ⟨v, y, rfl, q, t⟩ := r
    cases i with
    | zero => simp at e; subst e; exact ⟨x, rfl, q⟩
    | succ i => simp at e; obtain ⟨u, h1, h2⟩ := RepL.get' t e; exact ⟨u, by simpa using h1, h2⟩
theorem RepL.append : ∀ {l m : List D} {vs us : List V}, RepL g H μ l vs → RepL g H μ m us → RepL g H μ (l ++ m) (vs ++ us)
  | [], m, vs, us, r, q => by simp only [RepL] at r; subst r; exact q
  | d :: l, m, vs, us, r, q => by
    simp only [RepL] at r
    obtain ⟨x, y, e, h, t⟩ := r
    subst e; exact .cons h (RepL.append t q)
theorem RepL.snoc {l : List D} {vs : List V} {d : D} {v : V} (r : RepL g H μ l vs) (h : Rep g H μ d v) : RepL g H μ (l ++ [d]) (vs ++ [v]) := r.append (.cons h .nil)
theorem RepL.take : ∀ {l : List D} {vs : List V} (n : Nat), RepL g H μ l vs → RepL g H μ (l.take n) (vs.take n)
  | [], vs, n, r => by simp only [RepL] at r; subst r; simp [RepL]
  | d :: l, vs, 0, r => by simp [RepL]
  | d :: l, vs, n + 1, r => by
    simp only [RepL] at r
    obtain ⟨x, y, e, h, t⟩ := r
    subst e; exact .cons h (RepL.take n t)
theorem RepL.drop : ∀ {l : List D} {vs : List V} (n : Nat), RepL g H μ l vs → RepL g H μ (l.drop n) (vs.drop n)
  | [], vs, n, r => by simp only [RepL] at r; subst r; simp [RepL]
  | d :: l, vs, 0, r => r
  | d :: l, vs, n + 1, r => by
    simp only [RepL] at r
    obtain ⟨x, y, e, h, t⟩ := r
    subst e; exact RepL.drop n t
theorem RepL.set : ∀ {l : List D} {vs : List V} (n : Nat) {d : D} {v : V}, RepL g H μ l vs → Rep g H μ d v → RepL g H μ (l.set n d) (vs.set n v)
  | [], vs, n, d, v, r, h => by simp only [RepL] at r; subst r; simp [RepL]
  | x :: l, vs, 0, d, v, r, h => by
    simp only [RepL] at r
    obtain ⟨a, y, e, q, t⟩ := r
    subst e; exact .cons h t
  | x :: l, vs, n + 1, d, v, r, h => by
    simp only [RepL] at r
    obtain ⟨a, y, e, q, t⟩ := r
    subst e; exact .cons q (RepL.set n t h)
theorem RepL.reverse : ∀ {l : List D} {vs : List V}, RepL g H μ l vs → RepL g H μ l.reverse vs.reverse
  | [], vs, r => by simp only [RepL] at r; subst r; simp [RepL]
  | d :: l, vs, r => by
    simp only [RepL] at r
    obtain ⟨x, y, e, h, t⟩ := r
    subst e; simp only [List.reverse_cons]; exact (RepL.reverse t).snoc h
theorem RepL.none_of {l : List D} {vs : List V} {i : Nat} (r : RepL g H μ l vs) (e : l[i]? = none) : vs[i]? = none := by
  rw [List.getElem?_eq_none_iff] at e ⊢; rw [← r.length]; exact e

/-! ### attributes -/
def lookD (f : Str) : List (Str × D) → Option D
  | [] => none
  | p :: l => if p.1 = f then some p.2 else lookD f l
def putD (f : Str) (d : D) : List (Str × D) → List (Str × D)
  | [] => [(f, d)]
  | p :: l => if p.1 = f then (f, d) :: l else p :: putD f d l
theorem RepF.look {f : Str} : ∀ {l : List (Str × D)} {vs : List (Str × V)}, RepF g H μ l vs → (∀ d, lookD f l = some d → ∃ v, vs.lookup f = some v ∧ Rep g H μ d v) ∧ (lookD f l = none → vs.lookup f = none)
  | [], vs, r => by simp only [RepF] at r; subst r; simp [lookD]
  | d :: l, vs, r => by
    simp only [RepF] at r
    obtain ⟨x, y, e, h, t⟩ := r
    subst e
    by_cases q : d.1 = f
    · subst q; simp [lookD, List.lookup, h]
    · have q' : (f == d.1) = false := by simpa using fun z => q z.symm
      simp only [lookD, if_neg q, List.lookup, q']
      exact RepF.look t
theorem RepF.length : ∀ {l : List (Str × D)} {vs : List (Str × V)}, RepF g H μ l vs → l.length = vs.length
  | [], vs, r => by simp only [RepF] at r; subst r; rfl
  | d :: l, vs, r => by
    simp only [RepF] at r
    obtain ⟨x, y, e, q, t⟩ := r
    subst e; simp [RepF.length t]
theorem RepF.put {f : Str} {d : D} {v : V} (h : Rep g H μ d v) : ∀ {l : List (Str × D)} {vs : List (Str × V)}, RepF g H μ l vs → RepF g H μ (putD f d l) (putF f v vs)
  | [], vs, r => by simp only [RepF] at r; subst r; simp [putD, putF, RepF, h]
  | x :: l, vs, r => by
    simp only [RepF] at r
    obtain ⟨a, y, e, q, t⟩ := r
    subst e
    by_cases z : x.1 = f
    · subst z; simp only [putD, putF, if_true, RepF]; exact ⟨v, y, rfl, h, t⟩
    · simp only [putD, putF, if_neg z, RepF]
      exact ⟨_, _, rfl, q, RepF.put h t⟩
end
end Gp

set_option Elab.async false
set_option linter.all false
set_option maxRecDepth 100000
/-! Gp2: the store, results, what a piece of code is worth -/
namespace Gp
open PySem PySem.Spec L2
open PyProof.Rows hiding St

def DicAt (g : G) (H : Hp) (μ : List Addr) (k : Nat) (l : List (D × D)) (u : HO) : Prop :=
  (k = 0 ∧ ∃ ks, u = .dK ks ∧ RepK g H μ l ks) ∨ (k = 1 ∧ ∃ ks, u = .dT ks ∧ RepT g H μ l ks)
def CellOk (g : G) (H : Hp) (μ : List Addr) (a : Addr) : Cell → Prop
  | .lst l => ∃ vs, H a = some (.lst vs) ∧ RepL g H μ l vs
  | .dict k lk l => ∃ u, DicAt g H μ k l u ∧ (if lk = true then ∃ o, H a = some (.frz o u) else H a = some u)
  | .obj c fs => ∃ C dx vs, g.mg c = some (.ref C) ∧ H a = some (.ins C dx vs) ∧ RepF g H μ fs vs
structure W (g : G) (μ : List Addr) (H : Hp) (S : Sto) : Prop where
  len : μ.length = S.length
  nd : μ.Nodup
  cell : ∀ (n : Nat) (a : Addr) (c : Cell), μ[n]? = some a → S[n]? = some c → CellOk g H μ a c
  tb : g.tb H
section
variable {g : G} {μ μ' : List Addr} {H H' : Hp} {S S' : Sto} {a p : Addr} {o : HO} {c : Cell} {n : Nat}
theorem DicAt.monoW (h : Grw μ H μ' H') {k : Nat} {l : List (D × D)} {u : HO} (x : DicAt g H μ k l u) : DicAt g H' μ' k l u :=
  x.elim (fun ⟨e, ks, q, r⟩ => .inl ⟨e, ks, q, r.monoW h⟩) fun ⟨e, ks, q, r⟩ => .inr ⟨e, ks, q, r.monoW h⟩
theorem CellOk.monoW (h : Grw μ H μ' H') (e : H' a = H a) (x : CellOk g H μ a c) : CellOk g H' μ' a c := by
  cases c with
  | lst l => obtain ⟨vs, q, r⟩ := x; exact ⟨vs, by rw [e]; exact q, r.monoW h⟩
  | dict k lk l => obtain ⟨u, q, r⟩ := x; exact ⟨u, q.monoW h, by rw [e]; exact r⟩
  | obj cl fs => obtain ⟨C, dx, vs, m, q, r⟩ := x; exact ⟨C, dx, vs, m, by rw [e]; exact q, r.monoW h⟩
theorem DicAt.mono (h : Grow μ H μ' H') {k : Nat} {l : List (D × D)} {u : HO} (x : DicAt g H μ k l u) : DicAt g H' μ' k l u := x.monoW h.toGrw
theorem CellOk.mono (h : Grow μ H μ' H') (e : H' a = H a) (x : CellOk g H μ a c) : CellOk g H' μ' a c := x.monoW h.toGrw e
/-- what stands at a cell's address -/
theorem CellOk.at (x : CellOk g H μ a c) : ∃ u, H a = some u ∧ (∀ ps, u ≠ .tbl ps) ∧ (∀ φ, u ≠ .ext φ) ∧ (∀ xs, u ≠ .tup xs) ∧ (∀ y, u ≠ .own y) := by
  cases c with
  | lst l => obtain ⟨vs, q, r⟩ := x; exact ⟨_, q, by simp, by simp, by simp, by simp⟩
  | dict k lk l =>
    obtain ⟨u, q, r⟩ := x
    cases lk with
    | true =>
      rw [if_pos rfl] at r
      obtain ⟨o, r⟩ := r
      exact ⟨_, r, by simp, by simp, by simp, by simp⟩
    | false =>
      rw [if_neg (by simp)] at r
      rcases q with ⟨_, ks, rfl, _⟩ | ⟨_, ks, rfl, _⟩ <;> exact ⟨_, r, by simp, by simp, by simp, by simp⟩
  | obj cl fs => obtain ⟨C, dx, vs, m, q, r⟩ := x; exact ⟨_, q, by simp, by simp, by simp, by simp⟩
theorem W.mem (w : W g μ H S) (h : a ∈ μ) : ∃ (n : Nat) (c : Cell), μ[n]? = some a ∧ S[n]? = some c ∧ CellOk g H μ a c := by
  obtain ⟨n, hn, e⟩ := List.getElem_of_mem h
  have hs : n < S.length := by rw [← w.len]; exact hn
  have e1 : μ[n]? = some a := by rw [List.getElem?_eq_getElem hn, e]
  exact ⟨n, S[n], e1, List.getElem?_eq_getElem hs, w.cell n a _ e1 (List.getElem?_eq_getElem hs)⟩
theorem W.there (w : W g μ H S) (h : a ∈ μ) : ∃ u, H a = some u ∧ (∀ ps, u ≠ .tbl ps) ∧ (∀ φ, u ≠ .ext φ) ∧ (∀ xs, u ≠ .tup xs) ∧ (∀ y, u ≠ .own y) := by
  obtain ⟨n, c, _, _, k⟩ := w.mem h
  exact k.at
theorem W.fresh (w : W g μ H S) (h : H a = none) : a ∉ μ := fun m => by
  obtain ⟨u, e, _⟩ := w.there m
  rw [h] at e; cases e
theorem W.ix (w : W g μ H S) (e : S[n]? = some c) : ∃ a, μ[n]? = some a ∧ a ∈ μ ∧ CellOk g H μ a c := by
  have hn : n < μ.length := by rw [w.len]; exact (List.getElem?_eq_some_iff.mp e).1
  exact ⟨μ[n], List.getElem?_eq_getElem hn, List.getElem_mem hn, w.cell n _ c (List.getElem?_eq_getElem hn) e⟩
theorem W.ref (w : W g μ H S) {v : V} (r : Rep g H μ (.ref n) v) (e : S[n]? = some c) : ∃ a, v = .ref a ∧ μ[n]? = some a ∧ a ∈ μ ∧ CellOk g H μ a c := by
  obtain ⟨a, h1, h2, h3⟩ := w.ix e
  simp only [Rep] at r
  obtain ⟨b, rfl, h4⟩ := r
  rw [h1] at h4; cases h4
  exact ⟨a, rfl, h1, h2, h3⟩

/-! ### updates -/
theorem fz_fresh (h : H p = none) : ∀ b x u, H b = some (.frz x u) → upd H p o b = some (.frz x u) := fun b x u e => by rw [upd_ne (ne_of_none e h)]; exact e
theorem grow_fresh (h : H p = none) : Grow μ H μ (upd H p o) := by
  refine ⟨?_, fz_fresh h⟩
  exact ⟨⟨[], by simp, by simp⟩, fun b u _ e _ => ⟨u, by rw [upd_ne (ne_of_none e h)]; exact e, rfl⟩, fun b u e n => ⟨u, by rw [upd_ne (ne_of_none e h)]; exact e, n⟩⟩
theorem grow_alloc (h : H p = none) : Grow μ H (μ ++ [p]) (upd H p o) := by
  refine ⟨?_, fz_fresh h⟩
  exact ⟨⟨[p], rfl, by simp [h]⟩, fun b u _ e _ => ⟨u, by rw [upd_ne (ne_of_none e h)]; exact e, rfl⟩, fun b u e n => ⟨u, by rw [upd_ne (ne_of_none e h)]; exact e, n⟩⟩
theorem grw_set (h : a ∈ μ) (ho : ∀ ps, o ≠ .tbl ps) : Grw μ H μ (upd H a o) := by
  refine ⟨⟨[], by simp, by simp⟩, fun b u hb e _ => ⟨u, by rw [upd_ne (fun z => hb (by rw [z]; exact h))]; exact e, rfl⟩, fun b u e n => ?_⟩
  by_cases z : b = a
  · subst z; exact ⟨o, upd_same, ho⟩
  · exact ⟨u, by rw [upd_ne z]; exact e, n⟩
theorem grow_set {u : HO} (h : a ∈ μ) (e : H a = some u) (hz : ∀ o x, u ≠ .frz o x) (ho : ∀ ps, o ≠ .tbl ps := by intro ps z; cases z) : Grow μ H μ (upd H a o) := ⟨grw_set h ho, fun b x y q => by
  rw [upd_ne (fun z => ?_)]
  · exact q
  · subst z
    rw [e] at q
    cases q
    exact hz _ _ rfl⟩
theorem W.add (w : W g μ H S) (h : H p = none) : W g μ (upd H p o) S where
  len := w.len
  nd := w.nd
  cell := fun n a c e1 e2 => by
    have k := w.cell n a c e1 e2
    obtain ⟨u, hu, _⟩ := k.at
    exact k.mono (grow_fresh h) (upd_ne (ne_of_none hu h))
  tb := g.tbk _ _ (fun b u e _ => by rw [upd_ne (ne_of_none e h)]; exact e) w.tb
theorem W.alloc (w : W g μ H S) (h : H p = none) (k : CellOk g (upd H p o) (μ ++ [p]) p c) : W g (μ ++ [p]) (upd H p o) (S ++ [c]) where
  len := by simp [w.len]
  nd := by
    rw [List.nodup_append]
    refine ⟨w.nd, by simp, fun a ha b hb => ?_⟩
    have e : b = p := by simpa using hb
    subst e
    rintro rfl
    exact w.fresh h ha
  cell := fun n a c' e1 e2 => by
    by_cases hn : n < μ.length
    · rw [List.getElem?_append_left hn] at e1
      rw [List.getElem?_append_left (by rw [← w.len]; exact hn)] at e2
      have k' := w.cell n a c' e1 e2
      obtain ⟨u, hu, _⟩ := k'.at
      exact k'.mono (grow_alloc h) (upd_ne (ne_of_none hu h))
    · have hn' : n < (μ ++ [p]).length := (List.getElem?_eq_some_iff.mp e1).1
      have : n = μ.length := by simp at hn'; omega
      subst this
      rw [List.getElem?_append_right (Nat.le_refl _)] at e1
      rw [w.len, List.getElem?_append_right (Nat.le_refl _)] at e2
      simp at e1 e2
      subst e1 e2
      exact k
  tb := g.tbk _ _ (fun b u e _ => by rw [upd_ne (ne_of_none e h)]; exact e) w.tb
theorem W.set (w : W g μ H S) (e : μ[n]? = some a) (k : CellOk g (upd H a o) μ a c) : W g μ (upd H a o) (S.set n c) where
  len := by simp [w.len]
  nd := w.nd
  cell := fun m b c' e1 e2 => by
    by_cases hm : n = m
    · subst hm
      rw [e] at e1; cases e1
      have hn : n < S.length := by rw [← w.len]; exact (List.getElem?_eq_some_iff.mp e).1
      rw [List.getElem?_set_self hn] at e2
      cases e2
      exact k
    · rw [List.getElem?_set_ne hm] at e2
      refine (w.cell m b c' e1 e2).monoW (grw_set (List.mem_of_getElem? e) (by obtain ⟨u, q, n, _⟩ := k.at; rw [upd_same] at q; cases q; exact n)) (upd_ne fun z => ?_)
      subst z
      obtain ⟨h1, q1⟩ := List.getElem?_eq_some_iff.mp e
      obtain ⟨h2, q2⟩ := List.getElem?_eq_some_iff.mp e1
      exact hm ((List.getElem_inj w.nd).mp (q1.trans q2.symm))
  tb := by
    obtain ⟨u, hu, n1, n2, _⟩ := w.there (List.mem_of_getElem? e)
    refine g.tbk _ _ (fun b v q z => ?_) w.tb
    rw [upd_ne fun y => ?_]
    · exact q
    · subst y
      rw [hu] at q
      cases q
      rcases z with ⟨ps, z⟩ | ⟨φ, z⟩
      · exact n1 ps z
      · exact n2 φ z
end

/-! ### results -/
inductive Res where
  | ok (d : D) (S : Sto)
  | exc (c : Str) (S : Sto)
  | bad
def Res.bind (r : Res) (f : D → Sto → Res) : Res := match r with
  | .ok d S => f d S
  | .exc c S => .exc c S
  | .bad => .bad
abbrev Ev := List (Option D)
abbrev GE := Ev → Sto → Res
/-- a primitive's end -/
abbrev Pr := Option (D × Sto)
def Pr.res : Pr → Res
  | some (d, S) => .ok d S
  | none => .bad
@[simp] theorem Res.bind_ok {d : D} {S : Sto} {f : D → Sto → Res} : (Res.ok d S).bind f = f d S := rfl
@[simp] theorem Res.bind_exc {c : Str} {S : Sto} {f : D → Sto → Res} : (Res.exc c S).bind f = .exc c S := rfl
@[simp] theorem Res.bind_bad {f : D → Sto → Res} : Res.bad.bind f = .bad := rfl

def EnvOk (g : G) (H : Hp) (μ : List Addr) : Ev → St → Prop
  | [], σ => σ = []
  | d :: ρ, σ => ∃ v r, σ = v :: r ∧ (∀ x, d = some x → ∃ u, v = some u ∧ Rep g H μ x u) ∧ EnvOk g H μ ρ r
def PostR (g : G) (μ : List Addr) (H : Hp) (r : Res) (Q : VK) (E : Str → Hp → Prop) : Prop := match r with
  | .ok d S => ∀ v H' μ', Grow μ H μ' H' → W g μ' H' S → Rep g H' μ' d v → Q v H'
  | .exc c S => ∀ H' μ', Grow μ H μ' H' → W g μ' H' S → E c H'
  | .bad => False
def PostP (g : G) (μ : List Addr) (H : Hp) (r : Pr) (Q : VK) : Prop := match r with
  | some (d, S) => ∀ v H' μ', Grow μ H μ' H' → W g μ' H' S → Rep g H' μ' d v → Q v H'
  | none => False
/-- what is wished of an exception -/
def wE (g : G) (Wx : WX) (σ : St) : Str → Hp → Prop := fun c H' => ∀ C, g.mg c = some (.ref C) → Wx (.ref C) none σ H'
def tG (g : G) (Wx : WX) (m : GE) : TE := fun σ H Q => ∃ ρ S μ, EnvOk g H μ ρ σ ∧ W g μ H S ∧ PostR g μ H (m ρ S) Q (wE g Wx σ)
section
variable {g : G} {μ μ' : List Addr} {H H' : Hp} {S S' : Sto} {ρ : Ev} {σ : St} {Q : VK} {E : Str → Hp → Prop}
theorem EnvOk.mono (h : Grow μ H μ' H') : ∀ {ρ : Ev} {σ : St}, EnvOk g H μ ρ σ → EnvOk g H' μ' ρ σ
  | [], σ, r => r
  | d :: ρ, σ, r => by
    simp only [EnvOk] at r ⊢
    obtain ⟨v, y, e, q, t⟩ := r
    exact ⟨v, y, e, fun x hx => let ⟨u, a, b⟩ := q x hx; ⟨u, a, b.mono h⟩, EnvOk.mono h t⟩
theorem EnvOk.get : ∀ {ρ : Ev} {σ : St} {i : Nat} {d : D}, EnvOk g H μ ρ σ → ρ[i]? = some (some d) → ∃ v, σ[i]? = some (some v) ∧ Rep g H μ d v
  | [], σ, i, d, r, e => by simp at e
  | x :: ρ, σ, i, d, r, e => by
    simp only [EnvOk] at r
    obtain ⟨v, y, rfl, q, t⟩ := r
    cases i with
    | zero =>
      simp at e
      obtain ⟨u, rfl, h⟩ := q d e
      exact ⟨u, rfl, h⟩
    | succ i => simp at e; obtain ⟨u, h1, h2⟩ := EnvOk.get t e; exact ⟨u, by simpa using h1, h2⟩
theorem EnvOk.length : ∀ {ρ : Ev} {σ : St}, EnvOk g H μ ρ σ → ρ.length = σ.length
  | [], σ, r => by simp only [EnvOk] at r; subst r; rfl
  | d :: l, σ, r => by
    simp only [EnvOk] at r
    obtain ⟨x, y, rfl, q, t⟩ := r
    simp [EnvOk.length t]
theorem EnvOk.set : ∀ {ρ : Ev} {σ : St} (n : Nat) {d : Option D} {v : Option V}, EnvOk g H μ ρ σ → (∀ x, d = some x → ∃ u, v = some u ∧ Rep g H μ x u) → EnvOk g H μ (ρ.set n d) (σ.set n v)
  | [], σ, n, d, v, r, h => by simp only [EnvOk] at r; subst r; simp [EnvOk]
  | x :: l, σ, 0, d, v, r, h => by
    simp only [EnvOk] at r
    obtain ⟨a, y, rfl, q, t⟩ := r
    simp only [List.set_cons_zero, EnvOk]; exact ⟨v, y, rfl, h, t⟩
  | x :: l, σ, n + 1, d, v, r, h => by
    simp only [EnvOk] at r
    obtain ⟨a, y, rfl, q, t⟩ := r
    simp only [List.set_cons_succ, EnvOk]; exact ⟨a, _, rfl, q, EnvOk.set n t h⟩
theorem EnvOk.set1 {n : Nat} {d : D} {v : V} (r : EnvOk g H μ ρ σ) (h : Rep g H μ d v) : EnvOk g H μ (ρ.set n (some d)) (σ.set n (some v)) :=
  r.set n fun x e => by cases e; exact ⟨v, rfl, h⟩
theorem PostR.bind {r : Res} {f : D → Sto → Res} {K : VK} (h : PostR g μ H (r.bind f) Q E)
    (k : ∀ d S1 v H1 μ1, Grow μ H μ1 H1 → W g μ1 H1 S1 → Rep g H1 μ1 d v → PostR g μ1 H1 (f d S1) Q E → K v H1) : PostR g μ H r K E := by
  cases r with
  | ok d S1 =>
    intro v H1 μ1 gr w rp
    refine k d S1 v H1 μ1 gr w rp ?_
    have h : PostR g μ H (f d S1) Q E := h
    cases e : f d S1 with
    | ok d2 S2 => rw [e] at h; exact fun v2 H2 μ2 g2 w2 r2 => h v2 H2 μ2 (gr.trans g2) w2 r2
    | exc c S2 => rw [e] at h; exact fun H2 μ2 g2 w2 => h H2 μ2 (gr.trans g2) w2
    | bad => rw [e] at h; exact h
  | exc c S1 => exact h
  | bad => exact h
theorem PostR.pr {r : Pr} (h : PostR g μ H r.res Q E) : PostP g μ H r Q := by
  cases r with
  | none => exact h
  | some x => exact h
theorem PostP.imp {r : Pr} {Q' : VK} (h : PostP g μ H r Q) (k : ∀ v H', Q v H' → Q' v H') : PostP g μ H r Q' := by
  cases r with
  | none => exact h
  | some x => exact fun v H' μ' a b c => k v H' (h v H' μ' a b c)
/-- a primitive's end, the heap as it was -/
theorem PostP.here {d : D} {v : V} (h : PostP g μ H (some (d, S)) Q) (w : W g μ H S) (r : Rep g H μ d v) : Q v H := h v H μ (.refl _ _) w r
end

/-! ### the context -/
/-- a scope without names of its own: a lambda's -/
def lamLike (sc : Scope) : Bool := sc.names.all fun y => !decide (y.2 = .local) && !decide (y.2 = .cell)
/-- the def's code object, by a mark among the slots' names -/
def CdOk (g : G) (N : List Str) (env : Env) : Prop := lamLike env.scope = false → ∀ e ∈ g.cods, e.1 ∈ N → env.qual = e.2.1 ∧ env.code = .ref e.2.2.1
/-- a def's own scope -/
def isDef (sc : Scope) : Bool := !sc.isGenerator && !decide (sc.names.lookup (".0" : Str) = some NameKind.local)
/-- a comprehension's scope within one that is no lambda's -/
def blkB (sc scope : Scope) : Bool := !lamLike sc && decide (scope.names.lookup (".0" : Str) = some NameKind.local) && !scope.isGenerator
/-! tables of code objects -/
/-- the object at c is a code object of the name q -/
def codeφ (c : Addr) (q : Str) : Heap → Prop := fun h => ∃ (oc : Obj) (vs : Array Value) (t : Tok), h.get? c = some oc ∧ oc.data = .fields vs ∧ vs[1]? = some (.str q t)
/-- a table, the def's name, which places are lambdas' -/
abbrev TbT := List (Addr × Str × (Nat → Nat → Bool))
/-- what a table tells: a lambda's code object; that of a generator expression, with a table of its own -/
def EntOk (T : TbT) (H : Hp) (q : Str) (lam : Bool) (cv : Value) : Prop := match lam with
  | true => ∃ c, cv = .ref c ∧ H c = some (.ext (codeφ c (q ++ "<lambda>")))
  | false => ∃ c P, cv = .ref c ∧ H c = some (.ext fun h => PySem.W.CodeHd h c P) ∧ (∀ p ∈ T, p.1 ≠ P) ∧ ∃ ps, H P = some (.tbl ps) ∧ TriplesOk ps.toList
def TabA (T : TbT) (H : Hp) (p : Addr × Str × (Nat → Nat → Bool)) : Prop := ∃ ps : Array Value, H p.1 = some (.tbl ps) ∧ TriplesOk ps.toList ∧ ∀ (pos : Pos) (cv : Value), codeAmong pos ps.toList = some cv → EntOk T H p.2.1 (p.2.2 pos.line pos.col) cv
def TabsA (T : TbT) (H : Hp) : Prop := ∀ p ∈ T, TabA T H p
def TbOk (g : G) (T : TbT) : Prop := ∀ H, g.tb H ↔ TabsA T H
theorem EntOk.keep {T : TbT} {H H' : Hp} {q : Str} {lam : Bool} {cv : Value} (k : ∀ b o, H b = some o → ((∃ ps, o = .tbl ps) ∨ ∃ φ, o = .ext φ) → H' b = some o) (h : EntOk T H q lam cv) : EntOk T H' q lam cv := by
  cases lam with
  | true => obtain ⟨c, e1, e2⟩ := h; exact ⟨c, e1, k _ _ e2 (.inr ⟨_, rfl⟩)⟩
  | false =>
    obtain ⟨c, P, e1, e2, e3, ps, e4, e5⟩ := h
    exact ⟨c, P, e1, k _ _ e2 (.inr ⟨_, rfl⟩), e3, ps, k _ _ e4 (.inl ⟨_, rfl⟩), e5⟩
theorem TabsA.keep {T : TbT} {H H' : Hp} (k : ∀ b o, H b = some o → ((∃ ps, o = .tbl ps) ∨ ∃ φ, o = .ext φ) → H' b = some o) (h : TabsA T H) : TabsA T H' := fun p hp => by
  obtain ⟨ps, h1, h2, h3⟩ := h p hp
  exact ⟨ps, k _ _ h1 (.inl ⟨_, rfl⟩), h2, fun pos cv hc => (h3 pos cv hc).keep k⟩
theorem TabA.nil {T : TbT} {H : Hp} {p : Addr × Str × (Nat → Nat → Bool)} (h : H p.1 = some (.tbl #[])) : TabA T H p := ⟨#[], h, True.intro, fun pos cv hc => by
  have z : codeAmong pos [] = some cv := hc
  simp [codeAmong] at z⟩
theorem among_app {pos p' : Pos} {c cv : Value} (l : List Value) (h : TriplesOk l) (hc : codeAmong p' (l ++ [rawInt pos.line, rawInt pos.col, c]) = some cv) : codeAmong p' l = some cv ∨ (cv = c ∧ pos.line = p'.line ∧ pos.col = p'.col) := by
  fun_induction TriplesOk l with
  | case1 =>
    simp only [List.nil_append, rawInt, codeAmong] at hc
    split at hc
    · rename_i q
      simp only [Bool.and_eq_true, beq_iff_eq] at q
      exact .inr ⟨(Option.some.inj hc).symm, by omega, by omega⟩
    · cases hc
  | case2 a t b u x rest ih =>
    simp only [List.cons_append, codeAmong] at hc ⊢
    split at hc
    · rename_i q
      rw [if_pos q]
      exact .inl hc
    · rename_i q
      rw [if_neg q]
      exact ih h hc
  | case3 l h1 h2 => exact h.elim
theorem among_mono {p' : Pos} {cv : Value} (l m : List Value) (h : TriplesOk l) (hc : codeAmong p' l = some cv) : codeAmong p' (l ++ m) = some cv := by
  fun_induction TriplesOk l with
  | case1 => cases hc
  | case2 a t b u x rest ih =>
    simp only [List.cons_append, codeAmong] at hc ⊢
    split at hc
    · rename_i q
      rw [if_pos q]
      exact hc
    · rename_i q
      rw [if_neg q]
      exact ih h hc
  | case3 l h1 h2 => exact h.elim
/-- a generator expression's own code object, in the def's table -/
def GenCode (g : G) (X : Cx) : Prop := ∃ (T : TbT) (p : Addr × Str × (Nat → Nat → Bool)) (ps : Array Value) (pos : Pos) (c : Addr), X.env.code = .ref c ∧ TbOk g T ∧ p ∈ T ∧ p.2.2 pos.line pos.col = false ∧ TriplesOk ps.toList ∧ codeAmong pos ps.toList = some (.ref c) ∧ X.H_0 p.1 = some (.tbl ps)
structure CtxOk (g : G) (N : List Str) (sc : Scope) (L : Nat) (Wx : WX) (X : Cx) : Prop where
  prog : X.prog = g.P
  wd : X.w = g.w
  K : X.K = g.K
  mg : X.mg = g.mg
  base : X.base = g.base
  N : X.N = N
  sc : X.env.scope = sc
  calm : X.calm = true
  tk : Takes X Wx
  room : Room L X.A
  pass : PassesOwn (model X.prog X.w) X.A X.env X.xe
  cd : CdOk g X.N X.env
  gc : X.env.scope.isGenerator = true → ("." : Str) ∈ X.N → GenCode g X
  lc : lamLike X.env.scope = false → isDef X.env.scope = true → ∀ m, g.lamM = some m → m ∈ X.N → X.env.cells = g.lamC
def Real (g : G) (N : List Str) (sc : Scope) (L : Nat) (e : Expr) (m : GE) : Prop := ∀ Wx X, CtxOk g N sc L Wx X → PE X e (tG g Wx m)
theorem _root_.L2.PE.weak {X : Cx} {e : Expr} {t t' : TE} (h : PE X e t) (k : ∀ σ H Q, t' σ H Q → t σ H Q) : PE X e t' := ⟨fun pins s σ H Q I q => h.run pins s σ H Q I (k σ H Q q)⟩
theorem OpR.pick {X : Cx} {f : Value → Value → Sem Value} {r' : R2} (h : ∀ x y H Q, r' x y H Q → ∃ r, OpR X f r ∧ r x y H Q) : OpR X f r' := fun pins s σ H x y v u Q I rx ry q => by
  obtain ⟨r, o, z⟩ := h x y H Q q
  exact o pins s σ H x y v u Q I rx ry z
theorem UnR.pick {X : Cx} {f : Value → Sem Value} {r' : V → Hp → VK → Prop} (h : ∀ x H Q, r' x H Q → ∃ r, UnR X f r ∧ r x H Q) : UnR X f r' := fun pins s σ H x v Q I rx q => by
  obtain ⟨r, o, z⟩ := h x H Q q
  exact o pins s σ H x v Q I rx z
theorem CallR.pick {X : Cx} {f : Value} {r' : List V → Hp → VK → Prop} (h : ∀ x H Q, r' x H Q → ∃ r, CallR X f r ∧ r x H Q) : CallR X f r' := fun pins s σ H x v Q I rx q => by
  obtain ⟨r, o, z⟩ := h x H Q q
  exact o pins s σ H x v Q I rx z
/-- what a two-place primitive's reading is -/
def rP2 (g : G) (p : D → D → Sto → Pr) : R2 := fun x y H Q => ∃ a b S μ, W g μ H S ∧ Rep g H μ a x ∧ Rep g H μ b y ∧ PostP g μ H (p a b S) Q
def rP1 (g : G) (p : D → Sto → Pr) : V → Hp → VK → Prop := fun x H Q => ∃ a S μ, W g μ H S ∧ Rep g H μ a x ∧ PostP g μ H (p a S) Q
def rPn (g : G) (p : List D → Sto → Pr) : List V → Hp → VK → Prop := fun x H Q => ∃ a S μ, W g μ H S ∧ RepL g H μ a x ∧ PostP g μ H (p a S) Q

/-! ### combinators -/
def gVar (i : Nat) : GE := fun ρ S => match ρ[i]? with
  | some (some d) => .ok d S
  | _ => .bad
def gC (d : D) : GE := fun _ S => .ok d S
def gBin (p : D → D → Sto → Pr) (a b : GE) : GE := fun ρ S => (a ρ S).bind fun x S1 => (b ρ S1).bind fun y S2 => (p x y S2).res
def gUn (p : D → Sto → Pr) (a : GE) : GE := fun ρ S => (a ρ S).bind fun x S1 => (p x S1).res
/-- argument lists -/
def gArgs : List GE → Ev → Sto → (List D → Sto → Res) → Res
  | [], _, S, k => k [] S
  | a :: l, ρ, S, k => (a ρ S).bind fun x S1 => gArgs l ρ S1 fun xs S2 => k (x :: xs) S2
def gCallP (p : List D → Sto → Pr) (l : List GE) : GE := fun ρ S => gArgs l ρ S fun xs S2 => (p xs S2).res

section
variable {g : G} {N : List Str} {sc : Scope} {L : Nat} {a b c : Expr} {ma mb mc : GE} {pos : Pos}
theorem re_var {i : Nat} {x : Str} (hN : N[i]? = some x) (hv : Vis sc x) (hd : (x == ("__debug__" : Str)) = false := by decide) (hcd : (x == ("__classdict__" : Str)) = false := by decide) : Real g N sc L (.Name x pos) (gVar i) := by
  intro Wx X C
  refine (pe_var (i := i) (by rw [C.N]; exact hN) (by rw [C.sc]; exact hv) hd hcd).weak ?_
  rintro σ H Q ⟨ρ, S, μ, he, hw, h⟩
  unfold gVar at h
  split at h
  · rename_i d hd
    obtain ⟨v, e, r⟩ := he.get hd
    exact ⟨v, e, h v H μ (.refl _ _) hw r⟩
  · exact h.elim
theorem real_const {v : V} {d : D} (h : ∀ X : Cx, PE X a (tC v)) (hr : ∀ H μ, Rep g H μ d v) : Real g N sc L a (gC d) := by
  intro Wx X C
  refine (h X).weak ?_
  rintro σ H Q ⟨ρ, S, μ, he, hw, h⟩
  exact h v H μ (.refl _ _) hw (hr H μ)
theorem re_int {i : Int} {j} : Real g N sc L (.Constant (.int i) j pos) (gC (.int i)) := real_const (fun _ => pe_int) fun _ _ => by simp [Rep]
theorem re_bl {i : Bool} {j} : Real g N sc L (.Constant (.bool i) j pos) (gC (.bl i)) := real_const (fun _ => pe_bl) fun _ _ => by simp [Rep]
theorem re_non {j} : Real g N sc L (.Constant .none j pos) (gC .non) := real_const (fun _ => pe_non) fun _ _ => by simp [Rep]
theorem re_str {i : Str} {j} : Real g N sc L (.Constant (.str i) j pos) (gC (.str i)) := real_const (fun _ => pe_str) fun _ _ => by simp [Rep]
theorem real_two {e : Expr} {p : D → D → Sto → Pr} (h : ∀ Wx X, CtxOk g N sc L Wx X → ∀ ta tb, PE X a ta → PE X b tb → PE X e (tOp (rP2 g p) ta tb)) (ha : Real g N sc L a ma) (hb : Real g N sc L b mb) : Real g N sc L e (gBin p ma mb) := by
  intro Wx X C
  refine (h Wx X C _ _ (ha Wx X C) (hb Wx X C)).weak ?_
  rintro σ H Q ⟨ρ, S, μ, he, hw, h⟩
  unfold gBin at h
  refine ⟨ρ, S, μ, he, hw, h.bind fun x S1 vx H1 μ1 g1 w1 r1 h1 => ⟨ρ, S1, μ1, he.mono g1, w1, h1.bind fun y S2 vy H2 μ2 g2 w2 r2 h2 => ?_⟩⟩
  exact ⟨x, y, S2, μ2, w2, r1.mono g2, r2, h2.pr⟩
theorem re_op {op : Operator} {p : D → D → Sto → Pr} (ho : ∀ Wx X, CtxOk g N sc L Wx X → OpR X (binaryOp op) (rP2 g p)) (ha : Real g N sc L a ma) (hb : Real g N sc L b mb) : Real g N sc L (.BinOp a op b pos) (gBin p ma mb) :=
  real_two (fun Wx X C _ _ ha hb => pe_op (ho Wx X C) ha hb) ha hb
theorem re_cmp {op : CmpOp} {p : D → D → Sto → Pr} (ho : ∀ Wx X, CtxOk g N sc L Wx X → OpR X (compareOp op) (rP2 g p)) (ha : Real g N sc L a ma) (hb : Real g N sc L b mb) (hm : behindInMarks op b = false) : Real g N sc L (.Compare a [op] [b] pos) (gBin p ma mb) :=
  real_two (fun Wx X C _ _ ha hb => pe_cmpR (ho Wx X C) ha hb hm) ha hb
theorem re_un {op : UnaryOp} {p : D → Sto → Pr} (ho : ∀ Wx X, CtxOk g N sc L Wx X → UnR X (unaryOp op) (rP1 g p)) (ha : Real g N sc L a ma) : Real g N sc L (.UnaryOp op a pos) (gUn p ma) := by
  intro Wx X C
  refine (pe_un (ho Wx X C) (ha Wx X C)).weak ?_
  rintro σ H Q ⟨ρ, S, μ, he, hw, h⟩
  unfold gUn at h
  exact ⟨ρ, S, μ, he, hw, h.bind fun x S1 vx H1 μ1 g1 w1 r1 h1 => ⟨x, S1, μ1, w1, r1, h1.pr⟩⟩
end
end Gp

set_option Elab.async false
set_option linter.all false
set_option maxRecDepth 100000
/-! Gp3: primitives: data, arithmetic, comparisons, items -/
namespace Gp
open PySem PySem.Spec L2
open PyProof.Rows hiding St

/-! ### results of primitives -/
section
variable {g : G} {μ : List Addr} {H : Hp} {S : Sto} {Q : VK}
theorem PostP.ls {l : List D} {vs : List V} (h : PostP g μ H (some (.ls l, S)) Q) (w : W g μ H S) (r : RepL g H μ l vs) : ∀ p, H p = none → Q (.ref p) (upd H p (.lst vs)) := fun p hp =>
  h _ _ μ (grow_fresh hp) (w.add hp) (by simp only [Rep]; exact ⟨p, vs, rfl, w.fresh hp, upd_same, r.mono (grow_fresh hp)⟩)
theorem PostP.tup {l : List D} {vs : List V} (h : PostP g μ H (some (.tup l, S)) Q) (w : W g μ H S) (r : RepL g H μ l vs) : ∀ p, H p = none → Q (.ref p) (upd H p (.tup vs)) := fun p hp =>
  h _ _ μ (grow_fresh hp) (w.add hp) (by simp only [Rep]; exact ⟨p, vs, rfl, w.fresh hp, upd_same, r.mono (grow_fresh hp)⟩)
theorem PostP.cell {l : List D} {vs : List V} (h : PostP g μ H (some (.ref S.length, S ++ [.lst l])) Q) (w : W g μ H S) (r : RepL g H μ l vs) : ∀ p, H p = none → Q (.ref p) (upd H p (.lst vs)) := fun p hp => by
  refine h _ _ (μ ++ [p]) (grow_alloc hp) (w.alloc hp ⟨vs, upd_same, r.mono (grow_alloc hp)⟩) ?_
  simp only [Rep]
  exact ⟨p, rfl, by rw [← w.len, List.getElem?_append_right (Nat.le_refl _)]; simp⟩
/-- a new list: m tells that it will change -/
def mkL (m : Bool) (l : List D) (S : Sto) : Pr := if m = true then some (.ref S.length, S ++ [.lst l]) else some (.ls l, S)
theorem PostP.mk {m : Bool} {l : List D} {vs : List V} (h : PostP g μ H (mkL m l S) Q) (w : W g μ H S) (r : RepL g H μ l vs) : ∀ p, H p = none → Q (.ref p) (upd H p (.lst vs)) := by
  cases m with
  | true => exact PostP.cell h w r
  | false => exact PostP.ls h w r

/-! ### lists, tuples by their items -/
def asL (d : D) (S : Sto) : Option (List D) := match d with
  | .ls l => some l
  | .ref n => match S[n]? with
    | some (.lst l) => some l
    | _ => none
  | _ => none
def asT (d : D) : Option (List D) := match d with
  | .tup l => some l
  | .kt l => some l
  | _ => none
theorem asL_rep {d : D} {v : V} {l : List D} (w : W g μ H S) (r : Rep g H μ d v) (e : asL d S = some l) : ∃ p vs, v = .ref p ∧ H p = some (.lst vs) ∧ RepL g H μ l vs := by
  unfold asL at e
  split at e
  · cases e
    simp only [Rep] at r
    obtain ⟨p, vs, e, _, h, q⟩ := r
    exact ⟨p, vs, e, h, q⟩
  · rename_i n
    split at e
    · rename_i l' hs
      cases e
      obtain ⟨a, e, _, _, vs, h, q⟩ := w.ref r hs
      exact ⟨a, vs, e, h, q⟩
    · cases e
  · cases e
theorem asT_rep {d : D} {v : V} {l : List D} (r : Rep g H μ d v) (e : asT d = some l) : ∃ p vs, v = .ref p ∧ SqT g.K H p vs ∧ RepL g H μ l vs := by
  unfold asT at e
  split at e
  · cases e
    simp only [Rep] at r
    obtain ⟨p, vs, e, _, h, q⟩ := r
    exact ⟨p, vs, e, .of h, q⟩
  · cases e
    simp only [Rep] at r
    obtain ⟨p, vs, e, h, q⟩ := r
    exact ⟨p, vs, e, h.sq, q⟩
  · cases e

/-! ### data -/
def omap {α β : Type} (f : α → Option β) : List α → Option (List β)
  | [] => some []
  | x :: l => match f x, omap f l with
    | some y, some r => some (y :: r)
    | _, _ => none
theorem omap_cons {α β : Type} {f : α → Option β} {x : α} {l : List α} {r : List β} (h : omap f (x :: l) = some r) : ∃ y t, f x = some y ∧ omap f l = some t ∧ r = y :: t := by
  unfold omap at h
  split at h
  · rename_i y t h1 h2
    cases h
    exact ⟨y, t, h1, h2, rfl⟩
  · cases h
/-- the datum that a value is, at most so deep -/
def pd (S : Sto) : Nat → D → Option PyData
  | _, .non => some .none
  | _, .bl b => some (.bool b)
  | _, .int i => some (.int i)
  | _, .str s => some (.str s)
  | k + 1, .tup l => (omap (pd S k) l).map .tuple
  | k + 1, .kt l => (omap (pd S k) l).map .tuple
  | k + 1, .ls l => (omap (pd S k) l).map .list
  | k + 1, .ref n => match S[n]? with
    | some (.lst l) => (omap (pd S k) l).map .list
    | _ => none
  | _, _ => none
theorem pd_rep (w : W g μ H S) : ∀ (k : Nat) (d : D) (v : V) (p : PyData), Rep g H μ d v → pd S k d = some p → Dp g.K H v p ∧ p.depth ≤ k ∧ p.plain = true := by
  intro k
  induction k with
  | zero =>
    intro d v p r e
    cases d <;> simp [pd] at e <;> subst e <;> simp only [Rep] at r <;> subst r
    · exact ⟨.non, by simp [PyData.depth], rfl⟩
    · exact ⟨.bl _, by simp [PyData.depth], rfl⟩
    · exact ⟨.int _, by simp [PyData.depth], rfl⟩
    · exact ⟨.str _, by simp [PyData.depth], rfl⟩
  | succ k ih =>
    have all : ∀ (l : List D) (vs : List V) (ps : List PyData), RepL g H μ l vs → omap (pd S k) l = some ps → DpAll g.K H vs ps ∧ PyData.depthAll ps ≤ k ∧ PyData.plainAll ps = true := by
      intro l
      induction l with
      | nil =>
        intro vs ps r e
        simp only [RepL] at r
        simp [omap] at e
        subst e r
        exact ⟨.nil, by simp [PyData.depthAll], rfl⟩
      | cons x l ihl =>
        intro vs ps r e
        simp only [RepL] at r
        obtain ⟨v, y, rfl, h1, h2⟩ := r
        obtain ⟨p1, p2, e1, e2, rfl⟩ := omap_cons e
        obtain ⟨a1, a2, a3⟩ := ih x v p1 h1 e1
        obtain ⟨b1, b2, b3⟩ := ihl y p2 h2 e2
        exact ⟨.cons a1 b1, by simp only [PyData.depthAll]; omega, by simp [PyData.plainAll, a3, b3]⟩
    intro d v p r e
    cases d with
    | non => simp [pd] at e; subst e; simp only [Rep] at r; subst r; exact ⟨.non, by simp [PyData.depth], rfl⟩
    | bl b => simp [pd] at e; subst e; simp only [Rep] at r; subst r; exact ⟨.bl _, by simp [PyData.depth], rfl⟩
    | int b => simp [pd] at e; subst e; simp only [Rep] at r; subst r; exact ⟨.int _, by simp [PyData.depth], rfl⟩
    | str b => simp [pd] at e; subst e; simp only [Rep] at r; subst r; exact ⟨.str _, by simp [PyData.depth], rfl⟩
    | tup l =>
      simp only [pd, Option.map_eq_some_iff] at e
      obtain ⟨ps, e, rfl⟩ := e
      simp only [Rep] at r
      obtain ⟨a, vs, rfl, _, h, q⟩ := r
      obtain ⟨b1, b2, b3⟩ := all l vs ps q e
      exact ⟨.tup (.of h) b1, by simp only [PyData.depth]; omega, by simp [PyData.plain, b3]⟩
    | kt l =>
      simp only [pd, Option.map_eq_some_iff] at e
      obtain ⟨ps, e, rfl⟩ := e
      simp only [Rep] at r
      obtain ⟨a, vs, rfl, h, q⟩ := r
      obtain ⟨b1, b2, b3⟩ := all l vs ps q e
      exact ⟨.tup h.sq b1, by simp only [PyData.depth]; omega, by simp [PyData.plain, b3]⟩
    | ls l =>
      simp only [pd, Option.map_eq_some_iff] at e
      obtain ⟨ps, e, rfl⟩ := e
      simp only [Rep] at r
      obtain ⟨a, vs, rfl, _, h, q⟩ := r
      obtain ⟨b1, b2, b3⟩ := all l vs ps q e
      exact ⟨.lst (.of h) b1, by simp only [PyData.depth]; omega, by simp [PyData.plain, b3]⟩
    | ref n =>
      simp only [pd] at e
      split at e
      · rename_i l hs
        simp only [Option.map_eq_some_iff] at e
        obtain ⟨ps, e, rfl⟩ := e
        obtain ⟨a, rfl, _, _, vs, h, q⟩ := w.ref r hs
        obtain ⟨b1, b2, b3⟩ := all l vs ps q e
        exact ⟨.lst (.of h) b1, by simp only [PyData.depth]; omega, by simp [PyData.plain, b3]⟩
      · cases e
    | sq l => simp [pd] at e
    | dc k l => simp [pd] at e
    | ob c fs => simp [pd] at e
    | fn x => simp [pd] at e
    | lam x => simp [pd] at e
end
section
variable {g : G} {N : List Str} {sc : Scope} {L : Nat} {Wx : WX} {X : Cx}
theorem CtxOk.units (C : CtxOk g N sc L Wx X) : X.A.units + 200 < cLine := by have := C.room.un; omega
theorem CtxOk.hu (C : CtxOk g N sc L Wx X) : X.A.units + 1 < cLine := by have := C.room.un; omega
theorem CtxOk.hd (C : CtxOk g N sc L Wx X) : X.A.handled = none := C.room.hd
def gCmp (f : PyData → PyData → Option Bool) : D → D → Sto → Pr := fun a b S => match pd S 60 a, pd S 60 b with
  | some p, some q => match f p q with
    | some k => some (.bl k, S)
    | none => none
  | _, _ => none
/-- a comparison of data -/
theorem cmp_data {op : CmpOp} {f : PyData → PyData → Option Bool} (C : CtxOk g N sc L Wx X)
    (rule : ∀ {s : Shared} {a b : Value} {p q : PyData} {as bs : List Addr} {k : Bool} {Q : Value → Shared → Prop} {E : Value → Shared → Prop}, Reads s.heap a p as → Reads s.heap b q bs → p.plain = true → q.plain = true → X.A.units + p.depth + q.depth < cLine → f p q = some k → Q (.bool k) s → wpAny (model X.prog X.w) X.A (compareOp op a b) Q E s) :
    OpR X (compareOp op) (rP2 g (gCmp f)) := by
  intro pins s σ H x y v u Q I rx ry h
  obtain ⟨a, b, S, μ, w, r1, r2, h⟩ := h
  unfold gCmp at h
  split at h
  · rename_i p q e1 e2
    split at h
    · rename_i k e3
      obtain ⟨d1, n1, z1⟩ := pd_rep w 60 a x p r1 e1
      obtain ⟨d2, n2, z2⟩ := pd_rep w 60 b y q r2 e2
      rw [← C.K] at d1 d2
      obtain ⟨as, ra⟩ := Dp.reads I p x v d1 rx
      obtain ⟨bs, rb⟩ := Dp.reads I q y u d2 ry
      have hu := C.units
      exact rule ra rb z1 z2 (by omega) e3 ⟨.bl k, H, I, rfl, PostP.here h w (by simp [Rep])⟩
    · exact h.elim
  · exact h.elim
def isNone : PyData → Bool
  | .none => true
  | _ => false
theorem isNone_ne {p : PyData} (h : isNone p = false) : p ≠ .none := by rintro rfl; cases h
def fEq (p q : PyData) : Option Bool := some (PyData.eqv p q)
def fNe (p q : PyData) : Option Bool := some (!PyData.eqv p q)
def fLt (p q : PyData) : Option Bool := if PySem.W.alike p q = true ∧ isNone p = false then some (PySem.W.dataLt p q) else none
def fGt (p q : PyData) : Option Bool := if PySem.W.alike p q = true ∧ isNone p = false then some (PySem.W.dataLt q p) else none
def fLe (p q : PyData) : Option Bool := if PySem.W.alike p q = true ∧ isNone p = false then some (!PySem.W.dataLt q p) else none
def fGe (p q : PyData) : Option Bool := if PySem.W.alike p q = true ∧ isNone p = false then some (!PySem.W.dataLt p q) else none
abbrev gEq := gCmp fEq
abbrev gNe := gCmp fNe
abbrev gLt := gCmp fLt
abbrev gGt := gCmp fGt
abbrev gLe := gCmp fLe
abbrev gGe := gCmp fGe
theorem o_eq (C : CtxOk g N sc L Wx X) : OpR X (compareOp .Eq) (rP2 g gEq) := cmp_data C fun {s a b p q as bs k Q E} ra rb z1 z2 hu e h => by
  cases e
  exact PySem.SeqAt.eq_plain ra rb z1 z2 (by omega) h
theorem o_ne (C : CtxOk g N sc L Wx X) : OpR X (compareOp .NotEq) (rP2 g gNe) := cmp_data C fun {s a b p q as bs k Q E} ra rb z1 z2 hu e h => by
  cases e
  exact PySem.SeqAt.ne_plain ra rb z1 z2 (by omega) h
theorem o_lt (C : CtxOk g N sc L Wx X) : OpR X (compareOp .Lt) (rP2 g gLt) := cmp_data C fun {s a b p q as bs k Q E} ra rb z1 z2 hu e h => by
  unfold fLt at e
  split at e
  · rename_i hc; cases e; exact PySem.W.lt_data ra rb hc.1 (isNone_ne hc.2) (by omega) h
  · cases e
theorem o_gt (C : CtxOk g N sc L Wx X) : OpR X (compareOp .Gt) (rP2 g gGt) := cmp_data C fun {s a b p q as bs k Q E} ra rb z1 z2 hu e h => by
  unfold fGt at e
  split at e
  · rename_i hc; cases e; exact PySem.W.gt_data ra rb hc.1 (isNone_ne hc.2) (by omega) h
  · cases e
theorem o_le (C : CtxOk g N sc L Wx X) : OpR X (compareOp .LtE) (rP2 g gLe) := cmp_data C fun {s a b p q as bs k Q E} ra rb z1 z2 hu e h => by
  unfold fLe at e
  split at e
  · rename_i hc; cases e; exact PySem.W.le_data ra rb hc.1 (isNone_ne hc.2) (by omega) h
  · cases e
theorem o_ge (C : CtxOk g N sc L Wx X) : OpR X (compareOp .GtE) (rP2 g gGe) := cmp_data C fun {s a b p q as bs k Q E} ra rb z1 z2 hu e h => by
  unfold fGe at e
  split at e
  · rename_i hc; cases e; exact PySem.W.ge_data ra rb hc.1 (isNone_ne hc.2) (by omega) h
  · cases e
end

/-! ### is None -/
def gIs (k : Bool) : D → D → Sto → Pr := fun a b S => match b with
  | .non => some (.bl (match a with | .non => k | _ => !k), S)
  | _ => none
theorem rep_non {g : G} {H : Hp} {μ : List Addr} {a : D} {x : V} (r : Rep g H μ a x) : decide (x = .non) = (match a with | .non => true | _ => false) := by
  cases a <;> simp only [Rep] at r
  case non => subst r; rfl
  case bl => subst r; rfl
  case int => subst r; rfl
  case str => subst r; rfl
  all_goals
    first
      | (obtain ⟨a, e, _⟩ := r; subst e; rfl)
      | (obtain ⟨a, b, e, _⟩ := r; subst e; rfl)
      | (obtain ⟨a, b, c, d, e, _⟩ := r; subst e; rfl)
section
variable {g : G} {N : List Str} {sc : Scope} {L : Nat} {Wx : WX} {X : Cx}
theorem o_is (C : CtxOk g N sc L Wx X) : OpR X (compareOp .Is) (rP2 g (gIs true)) := OpR.pick fun x y H Q h => by
  obtain ⟨a, b, S, μ, w, r1, r2, h⟩ := h
  refine ⟨_, op_isN, ?_⟩
  unfold gIs at h
  split at h
  · simp only [Rep] at r2
    refine ⟨r2, ?_⟩
    rw [rep_non r1]
    have := PostP.here (v := .bl _) h w (by simp only [Rep]; rfl)
    cases a <;> exact this
  · exact h.elim
theorem o_isnot (C : CtxOk g N sc L Wx X) : OpR X (compareOp .IsNot) (rP2 g (gIs false)) := OpR.pick fun x y H Q h => by
  obtain ⟨a, b, S, μ, w, r1, r2, h⟩ := h
  refine ⟨_, op_notN, ?_⟩
  unfold gIs at h
  split at h
  · simp only [Rep] at r2
    refine ⟨r2, ?_⟩
    rw [rep_non r1]
    have := PostP.here (v := .bl _) h w (by simp only [Rep]; rfl)
    cases a <;> exact this
  · exact h.elim

/-! ### arithmetic -/
def mulOk (i j : Int) : Bool := (decide (-(2 ^ 64) < i) && decide (i < 2 ^ 64)) || (decide (-(2 ^ 64) < j) && decide (j < 2 ^ 64)) || decide (i.natAbs.log2 + j.natAbs.log2 < 1000000)
def divOk (j : Int) : Bool := (decide (j ≠ 0) && decide (j.natAbs < 1073741824)) || (decide (0 < j) && decide (j.natAbs.log2 < 9000))
def powOk (i j : Int) : Bool := decide (0 ≤ j) && decide (j ≤ 1000000) && decide (i.natAbs < 2 ^ 64)
def gAdd : D → D → Sto → Pr := fun a b S => match a, b with
  | .int i, .int j => some (.int (i + j), S)
  | .str i, .str j => if i.length + j.length ≤ sizeLine then some (.str (i ++ j), S) else none
  | a, b => match asL a S, asL b S with
    | some x, some y => if x.length + y.length ≤ sizeLine then some (.ls (x ++ y), S) else none
    | _, _ => match asT a, asT b with
      | some x, some y => if x.length + y.length ≤ sizeLine ∧ x ≠ [] ∧ y ≠ [] then some (.tup (x ++ y), S) else if x = [] then some (b, S) else if y = [] then some (a, S) else none
      | _, _ => none
def gSub : D → D → Sto → Pr := fun a b S => match a, b with
  | .int i, .int j => some (.int (i - j), S)
  | _, _ => none
def gMul : D → D → Sto → Pr := fun a b S => match a, b with
  | .int i, .int j => if mulOk i j = true then some (.int (i * j), S) else none
  | a, .int k => match asL a S with
    | some x => if -(2 ^ 63) ≤ k ∧ k < 2 ^ 63 ∧ x.length * k.toNat ≤ sizeLine then some (.ls (List.replicate k.toNat x).flatten, S) else none
    | none => none
  | _, _ => none
def gDiv : D → D → Sto → Pr := fun a b S => match a, b with
  | .int i, .int j => if divOk j = true then some (.int (i.fdiv j), S) else none
  | _, _ => none
def gMod : D → D → Sto → Pr := fun a b S => match a, b with
  | .int i, .int j => if j ≠ 0 then some (.int (i.fmod j), S) else none
  | _, _ => none
def gPow : D → D → Sto → Pr := fun a b S => match a, b with
  | .int i, .int j => if powOk i j = true then some (.int (i ^ j.toNat), S) else none
  | _, _ => none
def gNeg : D → Sto → Pr := fun a S => match a with
  | .int i => some (.int (-i), S)
  | _ => none
theorem RepL.nil_of {g : G} {H : Hp} {μ : List Addr} {l : List D} {vs : List V} (r : RepL g H μ l vs) : (l = [] ↔ vs = []) := by
  have e := r.length
  constructor
  · intro h; subst h; exact List.length_eq_zero_iff.mp e.symm
  · intro h; subst h; exact List.length_eq_zero_iff.mp e
theorem RepL.rep {g : G} {H : Hp} {μ : List Addr} {l : List D} {vs : List V} (r : RepL g H μ l vs) : ∀ n, RepL g H μ (List.replicate n l).flatten (List.replicate n vs).flatten
  | 0 => by simp [RepL]
  | n + 1 => by rw [List.replicate_succ, List.replicate_succ, List.flatten_cons, List.flatten_cons]; exact r.append (RepL.rep r n)
theorem o_add (C : CtxOk g N sc L Wx X) : OpR X (binaryOp .Add) (rP2 g gAdd) := OpR.pick fun x y H Q h => by
  obtain ⟨a, b, S, μ, w, r1, r2, h⟩ := h
  unfold gAdd at h
  split at h
  · simp only [Rep] at r1 r2
    exact ⟨_, op_add, _, _, r1, r2, PostP.here h w (by simp [Rep])⟩
  · split at h
    · rename_i hl
      simp only [Rep] at r1 r2
      exact ⟨_, op_add_str, _, _, r1, r2, hl, PostP.here h w (by simp [Rep])⟩
    · exact h.elim
  · split at h
    · rename_i l1 l2 e1 e2
      split at h
      · rename_i hl
        obtain ⟨p, vs, rfl, h1, q1⟩ := asL_rep w r1 e1
        obtain ⟨p', vs', rfl, h2, q2⟩ := asL_rep w r2 e2
        exact ⟨_, op_cat, _, _, _, _, rfl, rfl, h1, h2, by rw [← q1.length, ← q2.length]; exact hl, PostP.ls h w (q1.append q2)⟩
      · exact h.elim
    · split at h
      · rename_i l1 l2 e1 e2
        obtain ⟨p, vs, rfl, h1, q1⟩ := asT_rep r1 e1
        obtain ⟨p', vs', rfl, h2, q2⟩ := asT_rep r2 e2
        rw [← C.K] at h1 h2
        have s1 : vs.length ≤ sizeLine ∨ True := .inr trivial
        split at h
        · rename_i hl
          refine ⟨_, op_catA, _, _, _, _, rfl, rfl, h1, h2, by rw [← q1.length, ← q2.length]; exact hl.1, fun z => absurd (q1.nil_of.mpr z) hl.2.1, fun _ z => absurd (q2.nil_of.mpr z) hl.2.2, fun _ _ => PostP.tup h w (q1.append q2)⟩
        · refine ⟨fun x y H Q => ∃ a b xs ys, x = V.ref a ∧ y = V.ref b ∧ SqT X.K H a xs ∧ SqT X.K H b ys ∧ ((xs = [] ∧ Q (.ref b) H) ∨ (xs ≠ [] ∧ ys = [] ∧ Q (.ref a) H)), ?_, ?_⟩
          · intro pins s σ H x y v u Q I rx ry h
            obtain ⟨a, b, xs, ys, rfl, rfl, ha, hb, h⟩ := h
            obtain ⟨_, _, _, n1⟩ := I.tuple ha
            obtain ⟨_, _, _, n2⟩ := I.tuple hb
            refine op_catA pins s σ H _ _ v u Q I rx ry ⟨a, b, xs, ys, rfl, rfl, ha, hb, ?_, ?_, ?_, ?_⟩
            · rcases h with ⟨z, _⟩ | ⟨_, z, _⟩
              · subst z; simpa using n2
              · subst z; simpa using n1
            · intro z
              rcases h with ⟨_, q⟩ | ⟨n, _, q⟩
              · exact q
              · exact absurd z n
            · intro n z
              rcases h with ⟨z', q⟩ | ⟨_, _, q⟩
              · exact absurd z' n
              · exact q
            · intro n n'
              rcases h with ⟨z', q⟩ | ⟨_, z', q⟩
              · exact absurd z' n
              · exact absurd z' n'
          · split at h
            · rename_i e
              exact ⟨_, _, _, _, rfl, rfl, h1, h2, .inl ⟨q1.nil_of.mp e, PostP.here h w r2⟩⟩
            · rename_i e
              split at h
              · rename_i e'
                exact ⟨_, _, _, _, rfl, rfl, h1, h2, .inr ⟨fun z => e (q1.nil_of.mpr z), q2.nil_of.mp e', PostP.here h w r1⟩⟩
              · exact h.elim
      · exact h.elim
theorem o_sub (C : CtxOk g N sc L Wx X) : OpR X (binaryOp .Sub) (rP2 g gSub) := OpR.pick fun x y H Q h => by
  obtain ⟨a, b, S, μ, w, r1, r2, h⟩ := h
  unfold gSub at h
  split at h
  · simp only [Rep] at r1 r2
    exact ⟨_, op_sub, _, _, r1, r2, PostP.here h w (by simp [Rep])⟩
  · exact h.elim
theorem o_mul (C : CtxOk g N sc L Wx X) : OpR X (binaryOp .Mult) (rP2 g gMul) := OpR.pick fun x y H Q h => by
  obtain ⟨a, b, S, μ, w, r1, r2, h⟩ := h
  unfold gMul at h
  split at h
  · split at h
    · rename_i i j hm
      simp only [Rep] at r1 r2
      simp only [mulOk, Bool.or_eq_true, Bool.and_eq_true, decide_eq_true_eq] at hm
      rcases hm with (hm | hm) | hm
      · exact ⟨_, op_mul, _, _, r1, r2, .inl hm, PostP.here h w (by simp [Rep])⟩
      · exact ⟨_, op_mul, _, _, r1, r2, .inr hm, PostP.here h w (by simp [Rep])⟩
      · exact ⟨_, op_mulW, _, _, r1, r2, hm, PostP.here h w (by simp [Rep])⟩
    · exact h.elim
  · split at h
    · rename_i l e
      split at h
      · rename_i hl
        simp only [Rep] at r2
        obtain ⟨p, vs, rfl, h1, q1⟩ := asL_rep w r1 e
        exact ⟨_, op_rep, _, _, _, rfl, r2, h1, hl.1, hl.2.1, by rw [← q1.length]; exact hl.2.2, PostP.ls h w (q1.rep _)⟩
      · exact h.elim
    · exact h.elim
  · exact h.elim
theorem o_div (C : CtxOk g N sc L Wx X) : OpR X (binaryOp .FloorDiv) (rP2 g gDiv) := OpR.pick fun x y H Q h => by
  obtain ⟨a, b, S, μ, w, r1, r2, h⟩ := h
  unfold gDiv at h
  split at h
  · split at h
    · rename_i i j hm
      simp only [Rep] at r1 r2
      simp only [divOk, Bool.or_eq_true, Bool.and_eq_true, decide_eq_true_eq] at hm
      rcases hm with hm | hm
      · exact ⟨_, op_fdivN, _, _, r1, r2, hm, PostP.here h w (by simp [Rep])⟩
      · refine ⟨_, op_fdivW, _, _, r1, r2, hm, PostP.here h w ?_⟩
        simp only [Rep, V.int.injEq]
        exact (Int.fdiv_eq_ediv_of_nonneg i (by omega)).symm
    · exact h.elim
  · exact h.elim
theorem o_mod (C : CtxOk g N sc L Wx X) : OpR X (binaryOp .Mod) (rP2 g gMod) := OpR.pick fun x y H Q h => by
  obtain ⟨a, b, S, μ, w, r1, r2, h⟩ := h
  unfold gMod at h
  split at h
  · split at h
    · rename_i i j hm
      simp only [Rep] at r1 r2
      exact ⟨_, op_modN, _, _, r1, r2, hm, PostP.here h w (by simp [Rep])⟩
    · exact h.elim
  · exact h.elim
theorem o_pow (C : CtxOk g N sc L Wx X) : OpR X (binaryOp .Pow) (rP2 g gPow) := OpR.pick fun x y H Q h => by
  obtain ⟨a, b, S, μ, w, r1, r2, h⟩ := h
  unfold gPow at h
  split at h
  · split at h
    · rename_i i j hm
      simp only [Rep] at r1 r2
      simp only [powOk, Bool.and_eq_true, decide_eq_true_eq] at hm
      exact ⟨_, op_pow, _, _, r1, r2, ⟨hm.1.1, hm.1.2, hm.2⟩, PostP.here h w (by simp [Rep])⟩
    · exact h.elim
  · exact h.elim
theorem o_neg (C : CtxOk g N sc L Wx X) : UnR X (unaryOp .USub) (rP1 g gNeg) := UnR.pick fun x H Q h => by
  obtain ⟨a, S, μ, w, r1, h⟩ := h
  unfold gNeg at h
  split at h
  · simp only [Rep] at r1
    exact ⟨_, un_neg, _, r1, PostP.here h w (by simp [Rep])⟩
  · exact h.elim
end
end Gp

set_option Elab.async false
set_option linter.all false
set_option maxRecDepth 100000
/-! Gp4: items, slices, dicts read, built-ins on values, displays, tests -/
namespace Gp
open PySem PySem.Spec L2
open PyProof.Rows hiding St

/-! ### dicts -/
def dget (l : List (D × D)) (k : D) : Option D := match l with
  | [] => none
  | p :: r => if p.1 = k then some p.2 else dget r k
def dput (l : List (D × D)) (k v : D) : List (D × D) :=
  if (l.any fun p => decide (p.1 = k)) = true then l.map (fun p => if p.1 = k then (p.1, v) else p) else l ++ [(k, v)]
def ddel (l : List (D × D)) (k : D) : List (D × D) := l.filter fun p => decide (p.1 ≠ k)
def flatKey : D → Bool
  | .int _ => true
  | .str _ => true
  | _ => false
/-- keys that a dict of the kind may have -/
def keyOk (k : Nat) (a : D) : Bool := match k, a with
  | 0, a => flatKey a
  | 1, .tup l => l.all flatKey
  | _, _ => false
def asD (d : D) (S : Sto) : Option (Nat × List (D × D)) := match d with
  | .dc k l => some (k, l)
  | .ref n => match S[n]? with
    | some (.dict k _ l) => some (k, l)
    | _ => none
  | _ => none
section
variable {g : G} {μ : List Addr} {H : Hp} {S : Sto} {Q : VK}
theorem flatKey_of {a : D} (h : flatKey a = true) : ∃ k : Key, a = kD k := by
  cases a <;> simp [flatKey] at h
  · exact ⟨.inl _, rfl⟩
  · exact ⟨.inr _, rfl⟩
theorem rep_kD {k : Key} {v : V} : Rep g H μ (kD k) v ↔ v = kV k := by cases k <;> simp [kD, kV, Rep]
theorem keyOk0 {a : D} {y : V} (h : keyOk 0 a = true) (r : Rep g H μ a y) : ∃ k : Key, a = kD k ∧ y = kV k := by
  obtain ⟨k, rfl⟩ := flatKey_of h
  exact ⟨k, rfl, rep_kD.mp r⟩
theorem keys_of : ∀ {l : List D}, l.all flatKey = true → ∃ ks : List Key, l = ks.map kD
  | [], _ => ⟨[], rfl⟩
  | a :: l, h => by
    simp only [List.all_cons, Bool.and_eq_true] at h
    obtain ⟨k, rfl⟩ := flatKey_of h.1
    obtain ⟨ks, rfl⟩ := keys_of h.2
    exact ⟨k :: ks, rfl⟩
theorem repL_kD : ∀ {ks : List Key} {vs : List V}, RepL g H μ (ks.map kD) vs → vs = ks.map kV
  | [], vs, r => by simpa [RepL] using r
  | k :: ks, vs, r => by
    simp only [List.map_cons, RepL] at r
    obtain ⟨v, y, rfl, h, t⟩ := r
    rw [rep_kD.mp h, repL_kD t, List.map_cons]
theorem keyOk1 {a : D} {y : V} (h : keyOk 1 a = true) (r : Rep g H μ a y) : ∃ (k : List Key) (b : Addr), a = tD k ∧ y = .ref b ∧ H b = some (.tup (k.map kV)) := by
  unfold keyOk at h
  split at h
  · rename_i e; exact absurd e (by decide)
  · obtain ⟨ks, rfl⟩ := keys_of h
    simp only [Rep] at r
    obtain ⟨p, vs, rfl, _, e, q⟩ := r
    rw [repL_kD q] at e
    exact ⟨ks, p, rfl, rfl, e⟩
  · cases h
theorem dgetK {k : Key} : ∀ {l : List (D × D)} {ks : List (Key × V)}, RepK g H μ l ks → (∀ d, dget l (kD k) = some d → ∃ v, valV ks k = some v ∧ Rep g H μ d v) ∧ (dget l (kD k) = none → valV ks k = none)
  | [], ks, r => by simp only [RepK] at r; subst r; simp [dget, valV]
  | p :: l, ks, r => by
    simp only [RepK] at r
    obtain ⟨j, v, t, rfl, e, h, q⟩ := r
    by_cases z : j = k
    · subst z
      simp only [dget, e, if_true]
      exact ⟨fun d hd => by cases hd; exact ⟨v, valV_pos rfl, h⟩, fun hd => by cases hd⟩
    · have n : ¬ p.1 = kD k := fun y => z (kD_inj (e.symm.trans y))
      simp only [dget, if_neg n]
      rw [valV_neg (p := (j, v)) z]
      exact dgetK q
theorem dgetT {k : List Key} : ∀ {l : List (D × D)} {ks : List (List Key × V)}, RepT g H μ l ks → (∀ d, dget l (tD k) = some d → ∃ v, valV ks k = some v ∧ Rep g H μ d v) ∧ (dget l (tD k) = none → valV ks k = none)
  | [], ks, r => by simp only [RepT] at r; subst r; simp [dget, valV]
  | p :: l, ks, r => by
    simp only [RepT] at r
    obtain ⟨j, v, t, rfl, e, h, q⟩ := r
    by_cases z : j = k
    · subst z
      simp only [dget, e, if_true]
      exact ⟨fun d hd => by cases hd; exact ⟨v, valV_pos rfl, h⟩, fun hd => by cases hd⟩
    · have n : ¬ p.1 = tD k := fun y => z (tD_inj (e.symm.trans y))
      simp only [dget, if_neg n]
      rw [valV_neg (p := (j, v)) z]
      exact dgetT q
theorem asD_rep {d : D} {v : V} {k : Nat} {l : List (D × D)} (w : W g μ H S) (r : Rep g H μ d v) (e : asD d S = some (k, l)) :
    ∃ a, v = .ref a ∧ ((k = 0 ∧ ∃ ks, Rd H a (.dK ks) ∧ RepK g H μ l ks) ∨ (k = 1 ∧ ∃ ks, Rd H a (.dT ks) ∧ RepT g H μ l ks)) := by
  unfold asD at e
  split at e
  · cases e
    simp only [Rep] at r
    obtain ⟨a, e, _, h⟩ := r
    exact ⟨a, e, h⟩
  · rename_i n
    split at e
    · rename_i lk l' hs
      cases e
      obtain ⟨a, e, _, _, u, h, q⟩ := w.ref r hs
      refine ⟨a, e, ?_⟩
      have rd : Rd H a u := by
        cases lk with
        | true => rw [if_pos rfl] at q; exact .inr q
        | false => rw [if_neg (by simp)] at q; exact .inl q
      rcases h with ⟨hk, ks, e1, z⟩ | ⟨hk, ks, e1, z⟩
      · subst e1; exact .inl ⟨hk, ks, rd, z⟩
      · subst e1; exact .inr ⟨hk, ks, rd, z⟩
    · cases e
  · cases e
/-- a look into a dict -/
theorem dget_rep {d a : D} {x y : V} {k : Nat} {l : List (D × D)} (w : W g μ H S) (rd : Rep g H μ d x) (ra : Rep g H μ a y) (e : asD d S = some (k, l)) (hk : keyOk k a = true) :
    ∃ p o, x = .ref p ∧ DGet H p y o ∧ (∀ z, dget l a = some z → ∃ v, o = some v ∧ Rep g H μ z v) ∧ (dget l a = none → o = none) := by
  obtain ⟨p, rfl, ⟨rfl, ks, h1, h2⟩ | ⟨rfl, ks, h1, h2⟩⟩ := asD_rep w rd e
  · obtain ⟨j, rfl, rfl⟩ := keyOk0 hk ra
    exact ⟨p, valV ks j, rfl, .inl ⟨ks, j, h1, rfl, rfl⟩, (dgetK h2).1, (dgetK h2).2⟩
  · obtain ⟨j, b, rfl, rfl, hb⟩ := keyOk1 hk ra
    exact ⟨p, valV ks j, rfl, .inr ⟨ks, j, b, h1, rfl, hb, rfl⟩, (dgetT h2).1, (dgetT h2).2⟩
end

/-! ### a[b] -/
def gIx : D → D → Sto → Pr := fun a b S => match asD a S with
  | some (k, l) => if keyOk k b = true then (dget l b).map fun d => (d, S) else none
  | none => match a, b with
    | .str z, .int i => if z.length ≤ sizeLine then (atI z.cps.toList i).map fun c => (.str ⟨#[c]⟩, S) else none
    | a, .int i => match asL a S with
      | some l => (atI l i).map fun d => (d, S)
      | none => match asT a with
        | some l => (atI l i).map fun d => (d, S)
        | none => none
    | _, _ => none
theorem IxR.pick {X : Cx} {r' : R2} (h : ∀ x y H Q, r' x y H Q → ∃ r, IxR X r ∧ r x y H Q) : IxR X r' := fun value slice pins s σ H x y v u Q I rx ry q hs => by
  obtain ⟨r, o, z⟩ := h x y H Q q
  exact o value slice pins s σ H x y v u Q I rx ry z hs
theorem ix_dict {X : Cx} (hu : X.A.units + 1 < cLine) : IxR X (fun x y H Q => ∃ a v, x = .ref a ∧ DGet H a y (some v) ∧ Q v H) := by
  intro value slice pins s σ H x y v u Q I rx ry h hs
  obtain ⟨a, z, rfl, gg, q⟩ := h
  cases rx
  exact tail_any (dict_typeIs I gg) PySem.F.slot_dict_getitem.lookup (d_getItem hu I gg ry fun w' s3 I3 rw' => ⟨z, H, I3, rw', q⟩) hs
section
variable {g : G} {N : List Str} {sc : Scope} {L : Nat} {Wx : WX} {X : Cx} {μ : List Addr} {H : Hp}
theorem atI_rep {l : List D} {vs : List V} {i : Int} {d : D} (r : RepL g H μ l vs) (e : atI l i = some d) : ∃ v, atI vs i = some v ∧ Rep g H μ d v := by
  unfold atI at e ⊢
  rw [← r.length]
  cases z : ixN l.length i with
  | none => rw [z] at e; cases e
  | some j =>
    rw [z] at e
    exact r.get e
theorem i_ix (C : CtxOk g N sc L Wx X) : IxR X (rP2 g gIx) := IxR.pick fun x y H Q h => by
  obtain ⟨a, b, S, μ, w, r1, r2, h⟩ := h
  unfold gIx at h
  split at h
  · rename_i k l e
    split at h
    · rename_i hk
      obtain ⟨p, o, rfl, gg, q1, q2⟩ := dget_rep w r1 r2 e hk
      cases z : dget l b with
      | none => rw [z] at h; exact h.elim
      | some d =>
        rw [z] at h
        obtain ⟨v, rfl, rv⟩ := q1 d z
        exact ⟨_, ix_dict C.hu, p, v, rfl, gg, PostP.here h w rv⟩
    · exact h.elim
  · split at h
    · split at h
      · rename_i z i _ hz
        simp only [Rep] at r1 r2
        cases e : atI z.cps.toList i with
        | none => rw [e] at h; exact h.elim
        | some c => rw [e] at h; exact ⟨_, ix_str, z, i, c, r1, r2, hz, e, PostP.here h w (by simp [Rep])⟩
      · exact h.elim
    · split at h
      · rename_i i _ _ l e
        simp only [Rep] at r2
        obtain ⟨p, vs, rfl, h1, q1⟩ := asL_rep w r1 e
        cases z : atI l i with
        | none => rw [z] at h; exact h.elim
        | some d =>
          rw [z] at h
          obtain ⟨v, e2, rv⟩ := atI_rep q1 z
          exact ⟨_, ix_list, p, vs, i, v, rfl, r2, .of h1, e2, PostP.here h w rv⟩
      · split at h
        · rename_i i _ _ _ _ l e
          simp only [Rep] at r2
          obtain ⟨p, vs, rfl, h1, q1⟩ := asT_rep r1 e
          cases z : atI l i with
          | none => rw [z] at h; exact h.elim
          | some d =>
            rw [z] at h
            obtain ⟨v, e2, rv⟩ := atI_rep q1 z
            exact ⟨_, ix_tup, p, vs, i, v, rfl, r2, by rw [C.K]; exact h1, e2, PostP.here h w rv⟩
        · exact h.elim
    · exact h.elim
theorem re_ix {a b : Expr} {ma mb : GE} {pos : Pos} (ha : Real g N sc L a ma) (hb : Real g N sc L b mb) (hs : PlainIx b) : Real g N sc L (.Subscript a b pos) (gBin gIx ma mb) :=
  real_two (fun Wx X C _ _ ha hb => pe_ix (i_ix C) ha hb hs) ha hb

/-! ### in -/
def gIn (k : Bool) : D → D → Sto → Pr := fun a b S => match asD b S with
  | some (j, l) => if keyOk j a = true then some (.bl ((dget l a).isSome == k), S) else none
  | none => match a, b with
    | .str x, .str z => match x.cps.toList with
      | [c] => some (.bl (decide (c ∈ z.cps.toList) == k), S)
      | _ => none
    | a, b => match pd S 60 a, pd S 60 b with
      | some p, some (.list l) => some (.bl ((l.any fun y => PyData.eqv y p) == k), S)
      | some p, some (.tuple l) => some (.bl ((l.any fun y => PyData.eqv y p) == k), S)
      | _, _ => none
theorem one_cps {x : Str} {c : Nat} (h : x.cps.toList = [c]) : x = ⟨#[c]⟩ := by
  cases x with
  | mk cps => cases cps with | mk l => simp at h; subst h; rfl
theorem o_in (C : CtxOk g N sc L Wx X) : OpR X (compareOp .In) (rP2 g (gIn true)) := by
  intro pins s σ H x y v u Q I rx ry h
  obtain ⟨a, b, S, μ, w, r1, r2, h⟩ := h
  unfold gIn at h
  split at h
  · rename_i k l e
    split at h
    · rename_i hk
      obtain ⟨p, o, rfl, gg, q1, q2⟩ := dget_rep w r2 r1 e hk
      cases ry
      refine d_in C.hu I gg rx fun s3 I3 => ⟨.bl o.isSome, H, I3, rfl, ?_⟩
      have e2 : o.isSome = (dget l a).isSome := by
        cases z : dget l a with
        | none => rw [q2 z]; rfl
        | some d => obtain ⟨v, e, _⟩ := q1 d z; rw [e]; rfl
      have := PostP.here (v := .bl _) h w (by simp only [Rep]; rfl)
      rw [e2]; simpa using this
    · exact h.elim
  · split at h
    · split at h
      · rename_i x' z _ _ c e
        simp only [Rep] at r1 r2
        have := PostP.here (v := .bl _) h w (by simp only [Rep]; rfl)
        refine op_in_sign pins s σ H x y v u Q I rx ry ⟨c, z, by rw [r1, one_cps e], r2, by simpa using this⟩
      · exact h.elim
    · have hu := C.units
      split at h
      · rename_i p l e1 e2
        obtain ⟨d1, n1, z1⟩ := pd_rep w 60 a x p r1 e1
        obtain ⟨d2, n2, z2⟩ := pd_rep w 60 b y _ r2 e2
        rw [← C.K] at d1 d2
        obtain ⟨as, ra⟩ := Dp.reads I _ x v d1 rx
        obtain ⟨bs, rb⟩ := Dp.reads I _ y u d2 ry
        have := PostP.here (v := .bl _) h w (by simp only [Rep]; rfl)
        simp only [PyData.depth] at n2
        refine PySem.SeqAt.in_list_data rb ra (by simpa [PyData.plain] using z2) z1 (by omega) ⟨.bl _, H, I, rfl, by simpa using this⟩
      · rename_i p l e1 e2
        obtain ⟨d1, n1, z1⟩ := pd_rep w 60 a x p r1 e1
        obtain ⟨d2, n2, z2⟩ := pd_rep w 60 b y _ r2 e2
        rw [← C.K] at d1 d2
        obtain ⟨as, ra⟩ := Dp.reads I _ x v d1 rx
        obtain ⟨bs, rb⟩ := Dp.reads I _ y u d2 ry
        have := PostP.here (v := .bl _) h w (by simp only [Rep]; rfl)
        simp only [PyData.depth] at n2
        refine PySem.SeqAt.in_tuple_data rb ra (by simpa [PyData.plain] using z2) z1 (by omega) ⟨.bl _, H, I, rfl, by simpa using this⟩
      · exact h.elim
theorem o_notin (C : CtxOk g N sc L Wx X) : OpR X (compareOp .NotIn) (rP2 g (gIn false)) := by
  intro pins s σ H x y v u Q I rx ry h
  obtain ⟨a, b, S, μ, w, r1, r2, h⟩ := h
  have nb : ∀ b : Bool, (b == false) = !b := by decide
  unfold gIn at h
  split at h
  · rename_i k l e
    split at h
    · rename_i hk
      obtain ⟨p, o, rfl, gg, q1, q2⟩ := dget_rep w r2 r1 e hk
      cases ry
      refine d_notIn C.hu I gg rx fun s3 I3 => ⟨.bl (!o.isSome), H, I3, rfl, ?_⟩
      have e2 : o.isSome = (dget l a).isSome := by
        cases z : dget l a with
        | none => rw [q2 z]; rfl
        | some d => obtain ⟨v, e, _⟩ := q1 d z; rw [e]; rfl
      have := PostP.here (v := .bl _) h w (by simp only [Rep]; rfl)
      rw [e2, ← nb]; exact this
    · exact h.elim
  · split at h
    · split at h
      · rename_i x' z _ _ c e
        simp only [Rep] at r1 r2
        have := PostP.here (v := .bl _) h w (by simp only [Rep]; rfl)
        refine op_notIn_sign pins s σ H x y v u Q I rx ry ⟨c, z, by rw [r1, one_cps e], r2, by rw [← nb]; exact this⟩
      · exact h.elim
    · have hu := C.units
      split at h
      · rename_i p l e1 e2
        obtain ⟨d1, n1, z1⟩ := pd_rep w 60 a x p r1 e1
        obtain ⟨d2, n2, z2⟩ := pd_rep w 60 b y _ r2 e2
        rw [← C.K] at d1 d2
        obtain ⟨as, ra⟩ := Dp.reads I _ x v d1 rx
        obtain ⟨bs, rb⟩ := Dp.reads I _ y u d2 ry
        have := PostP.here (v := .bl _) h w (by simp only [Rep]; rfl)
        simp only [PyData.depth] at n2
        refine PySem.SeqAt.notIn_list_data rb ra (by simpa [PyData.plain] using z2) z1 (by omega) ⟨.bl _, H, I, rfl, by rw [← nb]; exact this⟩
      · rename_i p l e1 e2
        obtain ⟨d1, n1, z1⟩ := pd_rep w 60 a x p r1 e1
        obtain ⟨d2, n2, z2⟩ := pd_rep w 60 b y _ r2 e2
        rw [← C.K] at d1 d2
        obtain ⟨as, ra⟩ := Dp.reads I _ x v d1 rx
        obtain ⟨bs, rb⟩ := Dp.reads I _ y u d2 ry
        have := PostP.here (v := .bl _) h w (by simp only [Rep]; rfl)
        simp only [PyData.depth] at n2
        refine PySem.SeqAt.notIn_tuple_data rb ra (by simpa [PyData.plain] using z2) z1 (by omega) ⟨.bl _, H, I, rfl, by rw [← nb]; exact this⟩
      · exact h.elim
end
end Gp

set_option Elab.async false
set_option linter.all false
set_option maxRecDepth 100000
/-! Gp5: tests, displays, attributes, arguments, slices -/
namespace Gp
open PySem PySem.Spec L2
open PyProof.Rows hiding St

/-! ### statements' ends -/
inductive RS where
  | nx (ρ : Ev) (S : Sto)
  | rt (d : D) (S : Sto)
  | bk (ρ : Ev) (S : Sto)
  | ct (ρ : Ev) (S : Sto)
  | exc (c : Str) (ρ : Ev) (S : Sto)
  | bad
abbrev GS := Ev → Sto → RS
/-- an expression's end, then a statement's -/
def Res.thn (r : Res) (ρ : Ev) (f : D → Sto → RS) : RS := match r with
  | .ok d S => f d S
  | .exc c S => .exc c ρ S
  | .bad => .bad
def RS.thn (r : RS) (f : Ev → Sto → RS) : RS := match r with
  | .nx ρ S => f ρ S
  | r => r
def PostS (g : G) (Wx : WX) (μ : List Addr) (H : Hp) (r : RS) (D : Ends) : Prop := match r with
  | .nx ρ S => ∀ σ' H' μ', Grow μ H μ' H' → W g μ' H' S → EnvOk g H' μ' ρ σ' → D.nx σ' H'
  | .rt d S => ∀ v H' μ', Grow μ H μ' H' → W g μ' H' S → Rep g H' μ' d v → D.rt v H'
  | .bk ρ S => ∀ σ' H' μ', Grow μ H μ' H' → W g μ' H' S → EnvOk g H' μ' ρ σ' → D.bk σ' H'
  | .ct ρ S => ∀ σ' H' μ', Grow μ H μ' H' → W g μ' H' S → EnvOk g H' μ' ρ σ' → D.ct σ' H'
  | .exc c ρ S => ∀ σ' H' μ', Grow μ H μ' H' → W g μ' H' S → EnvOk g H' μ' ρ σ' → wE g Wx σ' c H'
  | .bad => False
section
variable {g : G} {μ μ' : List Addr} {H H' : Hp} {S : Sto} {ρ : Ev} {σ : St} {Wx : WX} {Ed : Ends}
theorem PostS.later {r : RS} (h : PostS g Wx μ H r Ed) (gr : Grow μ H μ' H') : PostS g Wx μ' H' r Ed := by
  cases r with
  | nx ρ S => exact fun v H2 μ2 g2 w2 r2 => h v H2 μ2 (gr.trans g2) w2 r2
  | rt ρ S => exact fun v H2 μ2 g2 w2 r2 => h v H2 μ2 (gr.trans g2) w2 r2
  | bk ρ S => exact fun v H2 μ2 g2 w2 r2 => h v H2 μ2 (gr.trans g2) w2 r2
  | ct ρ S => exact fun v H2 μ2 g2 w2 r2 => h v H2 μ2 (gr.trans g2) w2 r2
  | exc c ρ S => exact fun v H2 μ2 g2 w2 r2 => h v H2 μ2 (gr.trans g2) w2 r2
  | bad => exact h
/-- an expression, then the rest of a statement -/
theorem PostS.ex {r : Res} {f : D → Sto → RS} {K : VK} (he : EnvOk g H μ ρ σ) (h : PostS g Wx μ H (r.thn ρ f) Ed)
    (k : ∀ d S1 v H1 μ1, Grow μ H μ1 H1 → W g μ1 H1 S1 → Rep g H1 μ1 d v → PostS g Wx μ1 H1 (f d S1) Ed → K v H1) : PostR g μ H r K (wE g Wx σ) := by
  cases r with
  | ok d S1 => exact fun v H1 μ1 g1 w1 r1 => k d S1 v H1 μ1 g1 w1 r1 (PostS.later (r := f d S1) h g1)
  | exc c S1 => exact fun H1 μ1 g1 w1 => h σ H1 μ1 g1 w1 (he.mono g1)
  | bad => exact h
/-- .. the same of a statement's -/
def gArgsS : List GE → Ev → Sto → (List D → Sto → RS) → RS
  | [], _, S, k => k [] S
  | a :: l, ρ, S, k => (a ρ S).thn ρ fun x S1 => gArgsS l ρ S1 fun xs S2 => k (x :: xs) S2
end
/-! ### tests -/
def tGT (g : G) (Wx : WX) (m : GE) : TT := fun σ H Q => ∃ ρ S μ, EnvOk g H μ ρ σ ∧ W g μ H S ∧ PostR g μ H (m ρ S) (fun v H' => ∃ b, v = .bl b ∧ Q b H') (wE g Wx σ)
def RealT (g : G) (N : List Str) (sc : Scope) (L : Nat) (e : Expr) (m : GE) : Prop := ∀ Wx X, CtxOk g N sc L Wx X → PT X e (tGT g Wx m)
def RealW (g : G) (N : List Str) (sc : Scope) (L : Nat) (e : Expr) (m : GE) : Prop := ∀ Wx X, CtxOk g N sc L Wx X → PW X e (tGT g Wx m)
theorem _root_.L2.PT.weak {X : Cx} {e : Expr} {t t' : TT} (h : PT X e t) (k : ∀ σ H Q, t' σ H Q → t σ H Q) : PT X e t' := ⟨fun pins s σ H Q I q => h.run pins s σ H Q I (k σ H Q q)⟩
theorem _root_.L2.PW.weak {X : Cx} {e : Expr} {t t' : TT} (h : PW X e t) (k : ∀ σ H Q, t' σ H Q → t σ H Q) : PW X e t' := ⟨fun w pins s σ H Q I q => h.run w pins s σ H Q I (k σ H Q q)⟩
def gAnd (a b : GE) : GE := fun ρ S => (a ρ S).bind fun x S1 => match x with
  | .bl true => b ρ S1
  | .bl false => .ok (.bl false) S1
  | _ => .bad
def gOr (a b : GE) : GE := fun ρ S => (a ρ S).bind fun x S1 => match x with
  | .bl true => .ok (.bl true) S1
  | .bl false => b ρ S1
  | _ => .bad
def gNot (a : GE) : GE := fun ρ S => (a ρ S).bind fun x S1 => match x with
  | .bl b => .ok (.bl (!b)) S1
  | _ => .bad
def gIf (c a b : GE) : GE := fun ρ S => (c ρ S).bind fun x S1 => match x with
  | .bl true => a ρ S1
  | .bl false => b ρ S1
  | _ => .bad
def gChain (p q : D → D → Sto → Pr) (a b c : GE) : GE := fun ρ S => (a ρ S).bind fun x S1 => (b ρ S1).bind fun y S2 => (p x y S2).res.bind fun z S3 => match z with
  | .bl true => (c ρ S3).bind fun w S4 => (q y w S4).res
  | .bl false => .ok (.bl false) S3
  | _ => .bad
section
variable {g : G} {N : List Str} {sc : Scope} {L : Nat} {a b c e : Expr} {ma mb mc m : GE} {pos : Pos} {rest : List Expr}
variable {μ : List Addr} {H : Hp} {S : Sto} {Q : VK} {E : Str → Hp → Prop}
theorem rep_bl {d : D} {b : Bool} (r : Rep g H μ d (.bl b)) : d = .bl b := by
  cases d <;> simp only [Rep] at r
  case bl b' => cases r; rfl
  case non => cases r
  case int => cases r
  case str => cases r
  all_goals
    first
      | (obtain ⟨a, e, _⟩ := r; cases e; done)
      | (obtain ⟨a, b, e, _⟩ := r; cases e; done)
      | (obtain ⟨a, b, c, d, e, _⟩ := r; cases e; done)
theorem rep_of_bl {d : D} {b : Bool} (e : d = .bl b) {v : V} (r : Rep g H μ d v) : v = .bl b := by subst e; simpa only [Rep] using r
/-- a bool's result and what follows -/
theorem PostR.tst {r : Res} {f : D → Sto → Res} {K : Bool → Hp → Prop} (h : PostR g μ H (r.bind f) Q E)
    (hf : ∀ d S1, (∀ b, d ≠ .bl b) → f d S1 = .bad)
    (k : ∀ b S1 H1 μ1, Grow μ H μ1 H1 → W g μ1 H1 S1 → PostR g μ1 H1 (f (.bl b) S1) Q E → K b H1) : PostR g μ H r (fun v H' => ∃ b, v = .bl b ∧ K b H') E :=
  h.bind fun d S1 v H1 μ1 g1 w1 r1 h1 => by
    cases d with
    | bl b => exact ⟨b, by simpa only [Rep] using r1, k b S1 H1 μ1 g1 w1 h1⟩
    | _ => rw [hf _ _ (by simp)] at h1; exact h1.elim
theorem rt_val (h : Real g N sc L e m) (he : ∀ (env : Env) whole, isTrue e env whole = (do let v ← whole; standAt e.pos; holding [v] (truthy v))) : RealT g N sc L e m := by
  intro Wx X C
  refine (pt_val (h Wx X C) (he X.env)).weak ?_
  rintro σ H Q ⟨ρ, S, μ, he, hw, h⟩
  exact ⟨ρ, S, μ, he, hw, h⟩
theorem rt_cmp {op : CmpOp} {p : D → D → Sto → Pr} (ho : ∀ Wx X, CtxOk g N sc L Wx X → OpR X (compareOp op) (rP2 g p)) (ha : Real g N sc L a ma) (hb : Real g N sc L b mb) (hm : behindInMarks op b = false) : RealT g N sc L (.Compare a [op] [b] pos) (gBin p ma mb) := by
  intro Wx X C
  refine (pt_cmpR (ho Wx X C) (ha Wx X C) (hb Wx X C) hm).weak ?_
  rintro σ H Q ⟨ρ, S, μ, he, hw, h⟩
  unfold gBin at h
  refine ⟨ρ, S, μ, he, hw, h.bind fun x S1 vx H1 μ1 g1 w1 r1 h1 => ⟨ρ, S1, μ1, he.mono g1, w1, h1.bind fun y S2 vy H2 μ2 g2 w2 r2 h2 => ?_⟩⟩
  exact ⟨x, y, S2, μ2, w2, r1.mono g2, r2, h2.pr⟩
theorem re_chain {op op' : CmpOp} {p q : D → D → Sto → Pr} (ho : ∀ Wx X, CtxOk g N sc L Wx X → OpR X (compareOp op) (rP2 g p)) (ho' : ∀ Wx X, CtxOk g N sc L Wx X → OpR X (compareOp op') (rP2 g q)) (ha : Real g N sc L a ma) (hb : Real g N sc L b mb) (hc : Real g N sc L c mc)
    (hm : lastMarks [op, op'] [b, c] = false) : Real g N sc L (.Compare a [op, op'] [b, c] pos) (gChain p q ma mb mc) := by
  intro Wx X C
  refine (pe_chain (ho Wx X C) (ho' Wx X C) (ha Wx X C) (hb Wx X C) (hc Wx X C) hm).weak ?_
  rintro σ H Q ⟨ρ, S, μ, he, hw, h⟩
  unfold gChain at h
  refine ⟨ρ, S, μ, he, hw, h.bind fun x S1 vx H1 μ1 g1 w1 r1 h1 => ⟨ρ, S1, μ1, he.mono g1, w1, h1.bind fun y S2 vy H2 μ2 g2 w2 r2 h2 => ?_⟩⟩
  refine ⟨x, y, S2, μ2, w2, r1.mono g2, r2, (h2.tst (fun d S1 n => ?_) fun k S3 H3 μ3 g3 w3 h3 => ?_).pr⟩
  · split
    · exact absurd rfl (n _)
    · exact absurd rfl (n _)
    · rfl
  · cases k with
    | true =>
      rw [if_pos rfl]
      exact ⟨ρ, S3, μ3, ((he.mono g1).mono g2).mono g3, w3, h3.bind fun z S4 vz H4 μ4 g4 w4 r4 h4 => ⟨y, z, S4, μ4, w4, (r2.mono g3).mono g4, r4, h4.pr⟩⟩
    | false =>
      rw [if_neg (by simp)]
      exact h3 _ _ _ (.refl _ _) w3 (by simp [Rep])
theorem rt_chain {op op' : CmpOp} {p q : D → D → Sto → Pr} (ho : ∀ Wx X, CtxOk g N sc L Wx X → OpR X (compareOp op) (rP2 g p)) (ho' : ∀ Wx X, CtxOk g N sc L Wx X → OpR X (compareOp op') (rP2 g q)) (ha : Real g N sc L a ma) (hb : Real g N sc L b mb) (hc : Real g N sc L c mc)
    (hm : lastMarks [op, op'] [b, c] = false) : RealT g N sc L (.Compare a [op, op'] [b, c] pos) (gChain p q ma mb mc) := by
  intro Wx X C
  refine (pt_chain (ho Wx X C) (ho' Wx X C) (ha Wx X C) (hb Wx X C) (hc Wx X C) hm).weak ?_
  rintro σ H Q ⟨ρ, S, μ, he, hw, h⟩
  unfold gChain at h
  refine ⟨ρ, S, μ, he, hw, h.bind fun x S1 vx H1 μ1 g1 w1 r1 h1 => ⟨ρ, S1, μ1, he.mono g1, w1, h1.bind fun y S2 vy H2 μ2 g2 w2 r2 h2 => ?_⟩⟩
  refine ⟨x, y, S2, μ2, w2, r1.mono g2, r2, (h2.tst (fun d S1 n => ?_) fun k S3 H3 μ3 g3 w3 h3 => ?_).pr⟩
  · split
    · exact absurd rfl (n _)
    · exact absurd rfl (n _)
    · rfl
  · cases k with
    | true =>
      rw [if_pos rfl]
      exact ⟨ρ, S3, μ3, ((he.mono g1).mono g2).mono g3, w3, h3.bind fun z S4 vz H4 μ4 g4 w4 r4 h4 => ⟨y, z, S4, μ4, w4, (r2.mono g3).mono g4, r4, h4.pr⟩⟩
    | false =>
      rw [if_neg (by simp)]
      exact h3 _ _ _ (.refl _ _) w3 (by simp [Rep])
/-! and, or, not -/
theorem rw_and1 (ha : RealT g N sc L a ma) : RealW g N sc L (.BoolOp .And [a] pos) ma := fun Wx X C => pw_and1 (ha Wx X C)
theorem rw_or1 (ha : RealT g N sc L a ma) : RealW g N sc L (.BoolOp .Or [a] pos) ma := fun Wx X C => pw_or1 (ha Wx X C)
theorem bad_and {f : Sto → Res} (d : D) (S1 : Sto) (n : ∀ b, d ≠ .bl b) {a b : Res} : (match d with | .bl true => a | .bl false => b | _ => Res.bad) = .bad := by
  cases d with
  | bl b => exact absurd rfl (n b)
  | _ => rfl
theorem rw_and (ha : RealT g N sc L a ma) (hb : RealW g N sc L (.BoolOp .And (b :: rest) pos) mb) : RealW g N sc L (.BoolOp .And (a :: b :: rest) pos) (gAnd ma mb) := by
  intro Wx X C
  refine (pw_and (ha Wx X C) (hb Wx X C)).weak ?_
  rintro σ H Q ⟨ρ, S, μ, he, hw, h⟩
  refine ⟨ρ, S, μ, he, hw, h.tst (fun d S1 n => bad_and (f := fun _ => .bad) d S1 n) fun k S3 H3 μ3 g3 w3 h3 => ?_⟩
  cases k with
  | true => rw [if_pos rfl]; exact ⟨ρ, S3, μ3, he.mono g3, w3, h3⟩
  | false =>
    rw [if_neg (by simp)]
    obtain ⟨k, e, q⟩ := h3 (.bl false) H3 μ3 (.refl _ _) w3 (by simp [Rep])
    cases e; exact q
theorem rw_or (ha : RealT g N sc L a ma) (hb : RealW g N sc L (.BoolOp .Or (b :: rest) pos) mb) : RealW g N sc L (.BoolOp .Or (a :: b :: rest) pos) (gOr ma mb) := by
  intro Wx X C
  refine (pw_or (ha Wx X C) (hb Wx X C)).weak ?_
  rintro σ H Q ⟨ρ, S, μ, he, hw, h⟩
  refine ⟨ρ, S, μ, he, hw, h.tst (fun d S1 n => bad_and (f := fun _ => .bad) d S1 n) fun k S3 H3 μ3 g3 w3 h3 => ?_⟩
  cases k with
  | false => rw [if_neg (by simp)]; exact ⟨ρ, S3, μ3, he.mono g3, w3, h3⟩
  | true =>
    rw [if_pos rfl]
    obtain ⟨k, e, q⟩ := h3 (.bl true) H3 μ3 (.refl _ _) w3 (by simp [Rep])
    cases e; exact q
theorem rt_w (h : RealW g N sc L e m) : RealT g N sc L e m := fun Wx X C => (h Wx X C).pt
theorem rt_not (ha : RealT g N sc L a ma) : RealT g N sc L (.UnaryOp .Not a pos) (gNot ma) := by
  intro Wx X C
  refine (pt_not (ha Wx X C)).weak ?_
  rintro σ H Q ⟨ρ, S, μ, he, hw, h⟩
  refine ⟨ρ, S, μ, he, hw, h.tst (fun d S1 n => ?_) fun k S3 H3 μ3 g3 w3 h3 => ?_⟩
  · cases d with
    | bl b => exact absurd rfl (n b)
    | _ => rfl
  · obtain ⟨k', e, q⟩ := h3 (.bl (!k)) H3 μ3 (.refl _ _) w3 (by simp [Rep])
    cases e; exact q
theorem re_one {op} (ha : Real g N sc L a ma) : Real g N sc L (.BoolOp op [a] pos) ma := fun Wx X C => pe_one (ha Wx X C)
theorem re_and (ha : Real g N sc L a ma) (hb : Real g N sc L (.BoolOp .And (b :: rest) pos) mb) : Real g N sc L (.BoolOp .And (a :: b :: rest) pos) (gAnd ma mb) := by
  intro Wx X C
  refine (pe_and (ha Wx X C) (hb Wx X C)).weak ?_
  rintro σ H Q ⟨ρ, S, μ, he, hw, h⟩
  refine ⟨ρ, S, μ, he, hw, h.tst (fun d S1 n => bad_and (f := fun _ => .bad) d S1 n) fun k S3 H3 μ3 g3 w3 h3 => ?_⟩
  cases k with
  | true => rw [if_pos rfl]; exact ⟨ρ, S3, μ3, he.mono g3, w3, h3⟩
  | false => rw [if_neg (by simp)]; exact h3 (.bl false) H3 μ3 (.refl _ _) w3 (by simp [Rep])
theorem re_or (ha : Real g N sc L a ma) (hb : Real g N sc L (.BoolOp .Or (b :: rest) pos) mb) : Real g N sc L (.BoolOp .Or (a :: b :: rest) pos) (gOr ma mb) := by
  intro Wx X C
  refine (pe_or (ha Wx X C) (hb Wx X C)).weak ?_
  rintro σ H Q ⟨ρ, S, μ, he, hw, h⟩
  refine ⟨ρ, S, μ, he, hw, h.tst (fun d S1 n => bad_and (f := fun _ => .bad) d S1 n) fun k S3 H3 μ3 g3 w3 h3 => ?_⟩
  cases k with
  | false => rw [if_neg (by simp)]; exact ⟨ρ, S3, μ3, he.mono g3, w3, h3⟩
  | true => rw [if_pos rfl]; exact h3 (.bl true) H3 μ3 (.refl _ _) w3 (by simp [Rep])
theorem re_not (ha : Real g N sc L a ma) : Real g N sc L (.UnaryOp .Not a pos) (gNot ma) := by
  intro Wx X C
  refine (pe_not (ha Wx X C)).weak ?_
  rintro σ H Q ⟨ρ, S, μ, he, hw, h⟩
  refine ⟨ρ, S, μ, he, hw, h.tst (fun d S1 n => ?_) fun k S3 H3 μ3 g3 w3 h3 => ?_⟩
  · cases d with
    | bl b => exact absurd rfl (n b)
    | _ => rfl
  · exact h3 (.bl (!k)) H3 μ3 (.refl _ _) w3 (by simp [Rep])
theorem re_if (hc : RealT g N sc L c mc) (ha : Real g N sc L a ma) (hb : Real g N sc L b mb) : Real g N sc L (.IfExp c a b pos) (gIf mc ma mb) := by
  intro Wx X C
  refine (pe_ifExp (hc Wx X C) (ha Wx X C) (hb Wx X C)).weak ?_
  rintro σ H Q ⟨ρ, S, μ, he, hw, h⟩
  refine ⟨ρ, S, μ, he, hw, h.tst (fun d S1 n => bad_and (f := fun _ => .bad) d S1 n) fun k S3 H3 μ3 g3 w3 h3 => ?_⟩
  cases k with
  | true => rw [if_pos rfl]; exact ⟨ρ, S3, μ3, he.mono g3, w3, h3⟩
  | false => rw [if_neg (by simp)]; exact ⟨ρ, S3, μ3, he.mono g3, w3, h3⟩

/-! ### arguments, displays -/
def tGA (g : G) (Wx : WX) (l : List GE) : TA := fun σ H Q => ∃ ρ S μ, EnvOk g H μ ρ σ ∧ W g μ H S ∧ ∃ (k : List D → Sto → Res) (R : VK), PostR g μ H (gArgs l ρ S k) R (wE g Wx σ) ∧
  ∀ ds S1 vs H1 μ1, Grow μ H μ1 H1 → W g μ1 H1 S1 → RepL g H1 μ1 ds vs → PostR g μ1 H1 (k ds S1) R (wE g Wx σ) → Q vs H1
def tGAS (g : G) (Wx : WX) (l : List GE) : TA := fun σ H Q => ∃ ρ S μ, EnvOk g H μ ρ σ ∧ W g μ H S ∧ ∃ (k : List D → Sto → RS) (Ed : Ends), PostS g Wx μ H (gArgsS l ρ S k) Ed ∧
  ∀ ds S1 vs H1 μ1, Grow μ H μ1 H1 → W g μ1 H1 S1 → RepL g H1 μ1 ds vs → PostS g Wx μ1 H1 (k ds S1) Ed → Q vs H1
inductive AR where
  | ok (ds : List D) (S : Sto)
  | exc (c : Str) (S : Sto)
  | bad
def AR.cons (d : D) : AR → AR
  | .ok ds S => .ok (d :: ds) S
  | r => r
def gArgsR : List GE → Ev → Sto → AR
  | [], _, S => .ok [] S
  | a :: l, ρ, S => match a ρ S with
    | .ok d S1 => (gArgsR l ρ S1).cons d
    | .exc c S1 => .exc c S1
    | .bad => .bad
def PostA (g : G) (μ : List Addr) (H : Hp) (r : AR) (Q : List V → Hp → Prop) (E : Str → Hp → Prop) : Prop := match r with
  | .ok ds S => ∀ vs H' μ', Grow μ H μ' H' → W g μ' H' S → RepL g H' μ' ds vs → Q vs H'
  | .exc c S => ∀ H' μ', Grow μ H μ' H' → W g μ' H' S → E c H'
  | .bad => False
def tGR (g : G) (Wx : WX) (l : List GE) : TA := fun σ H Q => ∃ ρ S μ, EnvOk g H μ ρ σ ∧ W g μ H S ∧ PostA g μ H (gArgsR l ρ S) Q (wE g Wx σ)
structure RealA (g : G) (N : List Str) (sc : Scope) (L : Nat) (es : List Expr) (l : List GE) : Prop where
  a : ∀ Wx X, CtxOk g N sc L Wx X → PA X es (tGA g Wx l)
  s : ∀ Wx X, CtxOk g N sc L Wx X → PA X es (tGAS g Wx l)
  r : ∀ Wx X, CtxOk g N sc L Wx X → PA X es (tGR g Wx l)
theorem _root_.L2.PA.weak {X : Cx} {e : List Expr} {t t' : TA} (h : PA X e t) (k : ∀ σ H Q, t' σ H Q → t σ H Q) : PA X e t' := ⟨fun w pins s σ H Q I q => h.run w pins s σ H Q I (k σ H Q q)⟩
theorem ra_nil : RealA g N sc L [] [] := ⟨fun Wx X C => pa_nil.weak fun σ H Q ⟨ρ, S, μ, he, hw, k, R, h, f⟩ => f [] S [] H μ (.refl _ _) hw .nil h,
  fun Wx X C => pa_nil.weak fun σ H Q ⟨ρ, S, μ, he, hw, k, R, h, f⟩ => f [] S [] H μ (.refl _ _) hw .nil h, fun Wx X C => pa_nil.weak fun σ H Q ⟨ρ, S, μ, he, hw, h⟩ => h [] H μ (.refl _ _) hw .nil⟩
theorem ra_cons {l : List GE} (ha : Real g N sc L a ma) (hr : RealA g N sc L rest l) (hs : ∀ env : Env, starEach (a :: rest) env = (false, eval a env) :: starEach rest env) : RealA g N sc L (a :: rest) (ma :: l) := by
  refine ⟨fun Wx X C => ?_, fun Wx X C => ?_, fun Wx X C => ?_⟩
  · refine (pa_cons (ha Wx X C) (hr.a Wx X C) (hs X.env)).weak ?_
    rintro σ H Q ⟨ρ, S, μ, he, hw, k, R, h, f⟩
    refine ⟨ρ, S, μ, he, hw, h.bind fun x S1 vx H1 μ1 g1 w1 r1 h1 => ⟨ρ, S1, μ1, he.mono g1, w1, fun xs S2 => k (x :: xs) S2, R, h1, fun ds S2 vs H2 μ2 g2 w2 r2 h2 => ?_⟩⟩
    exact f (x :: ds) S2 (vx :: vs) H2 μ2 (g1.trans g2) w2 (.cons (r1.mono g2) r2) h2
  · refine (pa_cons (ha Wx X C) (hr.s Wx X C) (hs X.env)).weak ?_
    rintro σ H Q ⟨ρ, S, μ, he, hw, k, R, h, f⟩
    refine ⟨ρ, S, μ, he, hw, h.ex he fun x S1 vx H1 μ1 g1 w1 r1 h1 => ⟨ρ, S1, μ1, he.mono g1, w1, fun xs S2 => k (x :: xs) S2, R, h1, fun ds S2 vs H2 μ2 g2 w2 r2 h2 => ?_⟩⟩
    exact f (x :: ds) S2 (vx :: vs) H2 μ2 (g1.trans g2) w2 (.cons (r1.mono g2) r2) h2
  · refine (pa_cons (ha Wx X C) (hr.r Wx X C) (hs X.env)).weak ?_
    rintro σ H Q ⟨ρ, S, μ, he, hw, h⟩
    refine ⟨ρ, S, μ, he, hw, ?_⟩
    unfold gArgsR at h
    cases e : ma ρ S with
    | ok d S1 =>
      rw [e] at h
      intro v H1 μ1 g1 w1 r1
      refine ⟨ρ, S1, μ1, he.mono g1, w1, ?_⟩
      simp only at h
      cases e2 : gArgsR l ρ S1 with
      | ok ds S2 => rw [e2] at h; exact fun vs H2 μ2 g2 w2 r2 => h (v :: vs) H2 μ2 (g1.trans g2) w2 (.cons (r1.mono g2) r2)
      | exc c S2 => rw [e2] at h; exact fun H2 μ2 g2 w2 => h H2 μ2 (g1.trans g2) w2
      | bad => rw [e2] at h; exact h
    | exc c S1 => rw [e] at h; exact h
    | bad => rw [e] at h; exact h
/-- a display of a tuple, a list -/
def gTup (l : List GE) : GE := gCallP (fun ds S => if ds.length ≤ sizeLine then some (.tup ds, S) else none) l
def gLst (m : Bool) (l : List GE) : GE := gCallP (fun ds S => if ds.length ≤ sizeLine then mkL m ds S else none) l
theorem ite_none {P : Prop} [Decidable P] {r : Pr} (h : PostP g μ H (if P then r else none) Q) : P ∧ PostP g μ H r Q := by
  by_cases p : P
  · rw [if_pos p] at h; exact ⟨p, h⟩
  · rw [if_neg p] at h; exact h.elim
theorem re_tup {es : List Expr} {l : List GE} {x1} (h : RealA g N sc L es l) : Real g N sc L (.Tuple es x1 pos) (gTup l) := by
  intro Wx X C
  refine (pe_tup (h.a Wx X C)).weak ?_
  rintro σ H Q ⟨ρ, S, μ, he, hw, h⟩
  refine ⟨ρ, S, μ, he, hw, _, Q, h, fun ds S1 vs H1 μ1 g1 w1 r1 h1 => ?_⟩
  obtain ⟨hl, h2⟩ := ite_none h1.pr
  exact ⟨by rw [← r1.length]; exact hl, PostP.tup h2 w1 r1⟩
theorem re_lst {es : List Expr} {l : List GE} (m : Bool) (h : RealA g N sc L es l) : Real g N sc L (.List es pos) (gLst m l) := by
  intro Wx X C
  refine (pe_lst (h.a Wx X C)).weak ?_
  rintro σ H Q ⟨ρ, S, μ, he, hw, h⟩
  refine ⟨ρ, S, μ, he, hw, _, Q, h, fun ds S1 vs H1 μ1 g1 w1 r1 h1 => ?_⟩
  obtain ⟨hl, h2⟩ := ite_none h1.pr
  exact ⟨by rw [← r1.length]; exact hl, PostP.mk h2 w1 r1⟩

/-! ### a.f -/
def gAttr (cl : List Str) (f : Str) : D → Sto → Pr := fun a S => match a with
  | .ob c fs => if c ∈ cl then (lookD f fs).map fun d => (d, S) else none
  | .ref n => match S[n]? with
    | some (.obj c fs) => if c ∈ cl then (lookD f fs).map fun d => (d, S) else none
    | _ => none
  | _ => none
def ClsF (g : G) (c f : Str) : Prop := ∀ C, g.mg c = some (.ref C) → Cls g.K C ∧ NoAttr g.K C f
theorem re_attr {f : Str} {cl : List Str} (ha : Real g N sc L a ma) (hc : ∀ c ∈ cl, ClsF g c f) (hb : ∀ env : Env, attributeBase a f env (eval a env) = eval a env) : Real g N sc L (.Attribute a f pos) (gUn (gAttr cl f) ma) := by
  intro Wx X C
  refine (pe_fld (ha Wx X C) (hb X.env)).weak ?_
  rintro σ H Q ⟨ρ, S, μ, he, hw, h⟩
  unfold gUn at h
  refine ⟨ρ, S, μ, he, hw, h.bind fun x S1 vx H1 μ1 g1 w1 r1 h1 => ?_⟩
  replace h1 := h1.pr
  unfold gAttr at h1
  split at h1
  · rename_i c fs
    obtain ⟨hm, h1⟩ := ite_none h1
    simp only [Rep] at r1
    obtain ⟨ad, CC, dx, vs, rfl, _, mc, e, q⟩ := r1
    cases z : lookD f fs with
    | none => rw [z] at h1; exact h1.elim
    | some d =>
      rw [z] at h1
      obtain ⟨v, e2, r2⟩ := q.look.1 d z
      obtain ⟨k1, k2⟩ := hc c hm CC mc
      exact ⟨ad, CC, dx, vs, v, rfl, e, by rw [C.K]; exact k1, by rw [C.K]; exact k2, e2, PostP.here h1 w1 r2⟩
  · split at h1
    · rename_i n c fs hs
      obtain ⟨hm, h1⟩ := ite_none h1
      obtain ⟨ad, rfl, _, _, CC, dx, vs, mc, e, q⟩ := w1.ref r1 hs
      cases z : lookD f fs with
      | none => rw [z] at h1; exact h1.elim
      | some d =>
        rw [z] at h1
        obtain ⟨v, e2, r2⟩ := q.look.1 d z
        obtain ⟨k1, k2⟩ := hc c hm CC mc
        exact ⟨ad, CC, dx, vs, v, rfl, e, by rw [C.K]; exact k1, by rw [C.K]; exact k2, e2, PostP.here h1 w1 r2⟩
    · exact h1.elim
  · exact h1.elim

/-! ### slices -/
def asI : D → Option Int
  | .int i => some i
  | _ => none
/-- an end of a slice -/
def gPart (p : Option GE) (ρ : Ev) (S : Sto) (k : Option Int → Sto → Res) : Res := match p with
  | none => k none S
  | some m => (m ρ S).bind fun d S1 => match d with
    | .int i => k (some i) S1
    | _ => .bad
def cutD {α : Type} (xs : List α) (lo hi : Option Int) : List α := (xs.drop (HT.sIx xs.length 0 lo)).take (HT.sIx xs.length xs.length hi - HT.sIx xs.length 0 lo)
def gSlice (m : Bool) (a : D) (lo hi : Option Int) (S : Sto) : Pr := match a with
  | .str z => if z.length ≤ sizeLine then some (.str (cutS z lo hi), S) else none
  | .sq l => mkL m (cutD l lo hi) S
  | a => match asL a S with
    | some l => mkL m (cutD l lo hi) S
    | none => match a with
      | .tup l => some (.tup (cutD l lo hi), S)
      | _ => none
def gSl (m : Bool) (a : GE) (lo hi : Option GE) : GE := fun ρ S => (a ρ S).bind fun x S1 => gPart lo ρ S1 fun l S2 => gPart hi ρ S2 fun h S3 => (gSlice m x l h S3).res
def RealO (g : G) (N : List Str) (sc : Scope) (L : Nat) (e : Option Expr) (p : Option GE) : Prop := match e, p with
  | none, none => True
  | some e, some m => Real g N sc L e m
  | _, _ => False
def tGO (g : G) (Wx : WX) (p : Option GE) : TO := fun σ H Q => ∃ ρ S μ, EnvOk g H μ ρ σ ∧ W g μ H S ∧ ∃ (k : Option Int → Sto → Res) (R : VK), PostR g μ H (gPart p ρ S k) R (wE g Wx σ) ∧
  ∀ o S1 H1 μ1, Grow μ H μ1 H1 → W g μ1 H1 S1 → PostR g μ1 H1 (k o S1) R (wE g Wx σ) → Q o H1
theorem ro_po {e : Option Expr} {p : Option GE} (h : RealO g N sc L e p) {Wx : WX} {X : Cx} (C : CtxOk g N sc L Wx X) : PO X e (tGO g Wx p) := by
  cases e with
  | none =>
    cases p with
    | some m => exact h.elim
    | none => exact ⟨fun pins s σ H Q I ⟨ρ, S, μ, he, hw, k, R, h, f⟩ => po_none.run pins s σ H Q I (f none S H μ (.refl _ _) hw h)⟩
  | some e =>
    cases p with
    | none => exact h.elim
    | some m =>
      refine ⟨fun pins s σ H Q I ⟨ρ, S, μ, he, hw, k, R, hp, f⟩ => (po_some (h Wx X C)).run pins s σ H Q I ⟨ρ, S, μ, he, hw, ?_⟩⟩
      unfold gPart at hp
      refine hp.bind fun d S1 v H1 μ1 g1 w1 r1 h1 => ?_
      split at h1
      · rename_i i
        exact ⟨i, by simpa only [Rep] using r1, f (some i) S1 H1 μ1 g1 w1 h1⟩
      · exact h1.elim
theorem repL_cut {l : List D} {vs : List V} (lo hi : Option Int) (r : RepL g H μ l vs) : RepL g H μ (cutD l lo hi) (cutV vs lo hi) := by
  unfold cutD cutV
  rw [← r.length]
  exact (r.drop _).take _
theorem SlR.pick {X : Cx} {r' : V → Option Int → Option Int → Hp → VK → Prop} (h : ∀ x lo hi H Q, r' x lo hi H Q → ∃ r, SlR X r ∧ r x lo hi H Q) : SlR X r' := fun pins s σ H x v vl vu lo hi sl Q I rx hs pl pu q => by
  obtain ⟨r, o, z⟩ := h x lo hi H Q q
  exact o pins s σ H x v vl vu lo hi sl Q I rx hs pl pu z
theorem sl_any {m : Bool} {Wx : WX} {X : Cx} (C : CtxOk g N sc L Wx X) : SlR X (fun x lo hi H Q => ∃ a S μ, W g μ H S ∧ Rep g H μ a x ∧ PostP g μ H (gSlice m a lo hi S) Q) := SlR.pick fun x lo hi H Q h => by
  obtain ⟨a, S, μ, w, r, h⟩ := h
  unfold gSlice at h
  split at h
  · obtain ⟨hl, h⟩ := ite_none h
    simp only [Rep] at r
    exact ⟨_, sl_str, _, r, hl, PostP.here h w (by simp [Rep])⟩
  · simp only [Rep] at r
    obtain ⟨p, vs, rfl, e, q⟩ := r
    exact ⟨_, sl_list, p, vs, rfl, by rw [C.K]; exact e.sq, PostP.mk h w (repL_cut lo hi q)⟩
  · split at h
    · rename_i l e
      obtain ⟨p, vs, rfl, h1, q⟩ := asL_rep w r e
      exact ⟨_, sl_list, p, vs, rfl, .of h1, PostP.mk h w (repL_cut lo hi q)⟩
    · split at h
      · rename_i l _ _ _
        simp only [Rep] at r
        obtain ⟨p, vs, rfl, hn, e, q⟩ := r
        refine ⟨_, sl_tupA, p, vs, rfl, .of e, fun ⟨z1, z2⟩ => ?_, fun _ => PostP.tup h w (repL_cut lo hi q)⟩
        have ec : cutD l lo hi = l := by
          unfold cutD
          rw [q.length, z1, z2, List.drop_zero, Nat.sub_zero, ← q.length, List.take_length]
        rw [ec] at h
        exact PostP.here h w (by simp only [Rep]; exact ⟨p, vs, rfl, hn, e, q⟩)
      · exact h.elim
theorem re_slice {lo hi : Option Expr} {ml mh : Option GE} (m : Bool) {p2 : Pos} (ha : Real g N sc L a ma) (hl : RealO g N sc L lo ml) (hh : RealO g N sc L hi mh) : Real g N sc L (.Subscript a (.Slice lo hi none p2) pos) (gSl m ma ml mh) := by
  intro Wx X C
  refine (pe_slice (sl_any (m := m) C) (ha Wx X C) (ro_po hl C) (ro_po hh C)).weak ?_
  rintro σ H Q ⟨ρ, S, μ, he, hw, h⟩
  unfold gSl at h
  refine ⟨ρ, S, μ, he, hw, h.bind fun x S1 vx H1 μ1 g1 w1 r1 h1 => ⟨ρ, S1, μ1, he.mono g1, w1, _, Q, h1, fun o S2 H2 μ2 g2 w2 h2 => ?_⟩⟩
  refine ⟨ρ, S2, μ2, (he.mono g1).mono g2, w2, _, Q, h2, fun o2 S3 H3 μ3 g3 w3 h3 => ?_⟩
  exact ⟨x, S3, μ3, w3, (r1.mono g2).mono g3, h3.pr⟩
end
end Gp

set_option Elab.async false
set_option linter.all false
set_option maxRecDepth 100000
/-! Gp6: what a call leaves behind is tidied: new cells that nobody sees any more are forgotten, a new result is frozen -/
namespace Gp
open PySem PySem.Spec L2
open PyProof.Rows hiding St

mutual
/-- every cell named is below b -/
def clo (b : Nat) : D → Bool
  | .ref n => decide (n < b)
  | .tup l => cloL b l
  | .kt l => cloL b l
  | .ls l => cloL b l
  | .sq l => cloL b l
  | .dc _ l => cloM b l
  | .ob _ l => cloF b l
  | _ => true
termination_by structural x => x
def cloL (b : Nat) : List D → Bool
  | [] => true
  | d :: l => clo b d && cloL b l
termination_by structural x => x
def cloM (b : Nat) : List (D × D) → Bool
  | [] => true
  | (k, d) :: l => clo b d && cloM b l
termination_by structural x => x
def cloF (b : Nat) : List (Str × D) → Bool
  | [] => true
  | (_, d) :: l => clo b d && cloF b l
termination_by structural x => x
end
def cloC (b : Nat) : Cell → Bool
  | .lst l => cloL b l
  | .dict _ _ l => cloM b l
  | .obj _ l => cloF b l
section
variable {g : G} {μ ν : List Addr} {H : Hp} {S : Sto}
mutual
theorem Rep.clo : ∀ {d : D} {v : V}, Rep g H μ d v → clo μ.length d = true
  | .ref n, v, r => by simp only [Rep] at r; obtain ⟨a, _, e⟩ := r; simp only [Gp.clo, decide_eq_true_eq]; exact (List.getElem?_eq_some_iff.mp e).1
  | .tup l, v, r => by simp only [Rep] at r; obtain ⟨_, _, _, _, _, q⟩ := r; simp only [Gp.clo]; exact RepL.clo q
  | .kt l, v, r => by simp only [Rep] at r; obtain ⟨_, _, _, _, q⟩ := r; simp only [Gp.clo]; exact RepL.clo q
  | .ls l, v, r => by simp only [Rep] at r; obtain ⟨_, _, _, _, _, q⟩ := r; simp only [Gp.clo]; exact RepL.clo q
  | .sq l, v, r => by simp only [Rep] at r; obtain ⟨_, _, _, _, q⟩ := r; simp only [Gp.clo]; exact RepL.clo q
  | .dc k l, v, r => by
    simp only [Rep] at r; simp only [Gp.clo]
    obtain ⟨_, _, _, ⟨_, _, _, q⟩ | ⟨_, _, _, q⟩⟩ := r
    · exact RepK.clo q
    · exact RepT.clo q
  | .ob c l, v, r => by simp only [Rep] at r; obtain ⟨_, _, _, _, _, _, _, _, q⟩ := r; simp only [Gp.clo]; exact RepF.clo q
  | .non, _, _ => rfl
  | .bl _, _, _ => rfl
  | .int _, _, _ => rfl
  | .str _, _, _ => rfl
  | .fn _, _, _ => rfl
  | .lam _, _, _ => rfl
theorem RepL.clo : ∀ {l : List D} {vs : List V}, RepL g H μ l vs → cloL μ.length l = true
  | [], _, _ => rfl
  | d :: l, vs, r => by simp only [RepL] at r; obtain ⟨_, _, _, h, t⟩ := r; simp only [cloL, Rep.clo h, RepL.clo t, Bool.and_self]
theorem RepK.clo : ∀ {l : List (D × D)} {vs : List (Key × V)}, RepK g H μ l vs → cloM μ.length l = true
  | [], _, _ => rfl
  | (k, d) :: l, vs, r => by simp only [RepK] at r; obtain ⟨_, _, _, _, _, h, t⟩ := r; simp only [cloM, Rep.clo h, RepK.clo t, Bool.and_self]
theorem RepT.clo : ∀ {l : List (D × D)} {vs : List (List Key × V)}, RepT g H μ l vs → cloM μ.length l = true
  | [], _, _ => rfl
  | (k, d) :: l, vs, r => by simp only [RepT] at r; obtain ⟨_, _, _, _, _, h, t⟩ := r; simp only [cloM, Rep.clo h, RepT.clo t, Bool.and_self]
theorem RepF.clo : ∀ {l : List (Str × D)} {vs : List (Str × V)}, RepF g H μ l vs → cloF μ.length l = true
  | [], _, _ => rfl
  | (k, d) :: l, vs, r => by simp only [RepF] at r; obtain ⟨_, _, _, h, t⟩ := r; simp only [cloF, Rep.clo h, RepF.clo t, Bool.and_self]
end
theorem nin_left {p : Addr} (h : p ∉ μ ++ ν) : p ∉ μ := fun z => h (List.mem_append_left _ z)
mutual
theorem Rep.cut : ∀ {d : D} {v : V}, Rep g H (μ ++ ν) d v → clo μ.length d = true → Rep g H μ d v
  | .ref n, v, r, c => by
    simp only [Rep] at r ⊢; obtain ⟨a, e1, e⟩ := r; simp only [Gp.clo, decide_eq_true_eq] at c
    rw [List.getElem?_append_left c] at e; exact ⟨a, e1, e⟩
  | .tup l, v, r, c => by simp only [Rep] at r ⊢; obtain ⟨p, vs, e, n, h, q⟩ := r; simp only [Gp.clo] at c; exact ⟨p, vs, e, nin_left n, h, RepL.cut q c⟩
  | .kt l, v, r, c => by simp only [Rep] at r ⊢; obtain ⟨p, vs, e, h, q⟩ := r; simp only [Gp.clo] at c; exact ⟨p, vs, e, h, RepL.cut q c⟩
  | .ls l, v, r, c => by simp only [Rep] at r ⊢; obtain ⟨p, vs, e, n, h, q⟩ := r; simp only [Gp.clo] at c; exact ⟨p, vs, e, nin_left n, h, RepL.cut q c⟩
  | .sq l, v, r, c => by simp only [Rep] at r ⊢; obtain ⟨p, vs, e, h, q⟩ := r; simp only [Gp.clo] at c; exact ⟨p, vs, e, h.elim (fun z => .inl ⟨nin_left z.1, z.2⟩) .inr, RepL.cut q c⟩
  | .dc k l, v, r, c => by
    simp only [Rep] at r ⊢; simp only [Gp.clo] at c
    obtain ⟨a, e, n, ⟨h1, ks, h2, q⟩ | ⟨h1, ks, h2, q⟩⟩ := r
    · exact ⟨a, e, nin_left n, .inl ⟨h1, ks, h2, RepK.cut q c⟩⟩
    · exact ⟨a, e, nin_left n, .inr ⟨h1, ks, h2, RepT.cut q c⟩⟩
  | .ob cl l, v, r, c => by
    simp only [Rep] at r ⊢; simp only [Gp.clo] at c
    obtain ⟨a, C, dx, vs, e, n, m, h, q⟩ := r
    exact ⟨a, C, dx, vs, e, nin_left n, m, h, RepF.cut q c⟩
  | .non, _, r, _ => by simpa only [Rep] using r
  | .bl _, _, r, _ => by simpa only [Rep] using r
  | .int _, _, r, _ => by simpa only [Rep] using r
  | .str _, _, r, _ => by simpa only [Rep] using r
  | .fn _, _, r, _ => by simpa only [Rep] using r
  | .lam _, _, r, _ => by simp only [Rep] at r ⊢; obtain ⟨a, c, φ, ψ, e, n1, n2, q⟩ := r; exact ⟨a, c, φ, ψ, e, nin_left n1, nin_left n2, q⟩
theorem RepL.cut : ∀ {l : List D} {vs : List V}, RepL g H (μ ++ ν) l vs → cloL μ.length l = true → RepL g H μ l vs
  | [], _, r, _ => by simpa only [RepL] using r
  | d :: l, vs, r, c => by
    simp only [RepL] at r ⊢; simp only [cloL, Bool.and_eq_true] at c
    obtain ⟨v, y, e, h, t⟩ := r; exact ⟨v, y, e, Rep.cut h c.1, RepL.cut t c.2⟩
theorem RepK.cut : ∀ {l : List (D × D)} {vs : List (Key × V)}, RepK g H (μ ++ ν) l vs → cloM μ.length l = true → RepK g H μ l vs
  | [], _, r, _ => by simpa only [RepK] using r
  | (k, d) :: l, vs, r, c => by
    simp only [RepK] at r ⊢; simp only [cloM, Bool.and_eq_true] at c
    obtain ⟨k', v, y, e, z, h, t⟩ := r; exact ⟨k', v, y, e, z, Rep.cut h c.1, RepK.cut t c.2⟩
theorem RepT.cut : ∀ {l : List (D × D)} {vs : List (List Key × V)}, RepT g H (μ ++ ν) l vs → cloM μ.length l = true → RepT g H μ l vs
  | [], _, r, _ => by simpa only [RepT] using r
  | (k, d) :: l, vs, r, c => by
    simp only [RepT] at r ⊢; simp only [cloM, Bool.and_eq_true] at c
    obtain ⟨k', v, y, e, z, h, t⟩ := r; exact ⟨k', v, y, e, z, Rep.cut h c.1, RepT.cut t c.2⟩
theorem RepF.cut : ∀ {l : List (Str × D)} {vs : List (Str × V)}, RepF g H (μ ++ ν) l vs → cloF μ.length l = true → RepF g H μ l vs
  | [], _, r, _ => by simpa only [RepF] using r
  | (k, d) :: l, vs, r, c => by
    simp only [RepF] at r ⊢; simp only [cloF, Bool.and_eq_true] at c
    obtain ⟨v, y, e, h, t⟩ := r; exact ⟨v, y, e, Rep.cut h c.1, RepF.cut t c.2⟩
end
theorem CellOk.clo {a : Addr} {c : Cell} (x : CellOk g H μ a c) : cloC μ.length c = true := by
  cases c with
  | lst l => obtain ⟨_, _, q⟩ := x; exact q.clo
  | dict k lk l =>
    obtain ⟨_, ⟨_, _, _, q⟩ | ⟨_, _, _, q⟩, _⟩ := x
    · exact q.clo
    · exact q.clo
  | obj cl fs => obtain ⟨_, _, _, _, _, q⟩ := x; exact q.clo
theorem CellOk.cut {a : Addr} {c : Cell} (x : CellOk g H (μ ++ ν) a c) (h : cloC μ.length c = true) : CellOk g H μ a c := by
  cases c with
  | lst l => obtain ⟨vs, e, q⟩ := x; exact ⟨vs, e, q.cut h⟩
  | dict k lk l =>
    obtain ⟨u, ⟨hk, ks, e1, q⟩ | ⟨hk, ks, e1, q⟩, e⟩ := x
    · exact ⟨u, .inl ⟨hk, ks, e1, q.cut h⟩, e⟩
    · exact ⟨u, .inr ⟨hk, ks, e1, q.cut h⟩, e⟩
  | obj cl fs => obtain ⟨C, dx, vs, m, e, q⟩ := x; exact ⟨C, dx, vs, m, e, q.cut h⟩
/-- the cells from μ's end on are forgotten -/
theorem W.cut (w : W g (μ ++ ν) H S) (h : ∀ c ∈ S.take μ.length, cloC μ.length c = true) : W g μ H (S.take μ.length) where
  len := by have := w.len; rw [List.length_append] at this; rw [List.length_take]; omega
  nd := (List.nodup_append.mp w.nd).1
  cell := fun n a c e1 e2 => by
    have hn := (List.getElem?_eq_some_iff.mp e1).1
    have e3 := e2
    rw [List.getElem?_take_of_lt hn] at e2
    exact (w.cell n a c (by rw [List.getElem?_append_left hn]; exact e1) e2).cut (h c (List.mem_of_getElem? e3))
  tb := w.tb

/-! ### freezing -/
def pmap (f : D → Option D) : List (Str × D) → Option (List (Str × D))
  | [] => some []
  | (k, d) :: l => match f d, pmap f l with
    | some y, some r => some ((k, y) :: r)
    | _, _ => none
def dmap (f : D → Option D) : List (D × D) → Option (List (D × D))
  | [] => some []
  | (k, d) :: l => match f d, dmap f l with
    | some y, some r => some ((k, y) :: r)
    | _, _ => none
def frz (b : Nat) (S : Sto) : Nat → D → Option D
  | _, .non => some .non
  | _, .bl x => some (.bl x)
  | _, .int x => some (.int x)
  | _, .str x => some (.str x)
  | _, .fn x => some (.fn x)
  | _, .lam x => some (.lam x)
  | k + 1, .ref n => if n < b then some (.ref n) else match S[n]? with
    | some (.lst l) => (omap (frz b S k) l).map .ls
    | some (.dict j _ l) => (dmap (frz b S k) l).map (.dc j)
    | some (.obj c l) => (pmap (frz b S k) l).map (.ob c)
    | none => none
  | k + 1, .tup l => (omap (frz b S k) l).map .tup
  | k + 1, .ls l => (omap (frz b S k) l).map .ls
  | k + 1, .dc j l => (dmap (frz b S k) l).map (.dc j)
  | k + 1, .ob c l => (pmap (frz b S k) l).map (.ob c)
  | _, .kt l => if cloL b l = true then some (.kt l) else none
  | _, _ => none
theorem frz_rep (w : W g (μ ++ ν) H S) : ∀ (k : Nat) (d d' : D) (v : V), Rep g H (μ ++ ν) d v → frz μ.length S k d = some d' → Rep g H μ d' v := by
  have kt : ∀ (l : List D) (d' : D) (v : V), Rep g H (μ ++ ν) (.kt l) v → (if cloL μ.length l = true then some (D.kt l) else none) = some d' → Rep g H μ d' v := fun l d' v r e => by
    split at e
    · rename_i hc; cases e; exact Rep.cut r (by simp only [clo]; exact hc)
    · cases e
  intro k
  induction k with
  | zero =>
    intro d d' v r e
    cases d <;> simp only [frz] at e <;> first | (cases e; done) | (cases e; simpa only [Rep] using r) | (cases e; exact Rep.cut r rfl) | exact kt _ _ _ r e
  | succ k ih =>
    have oL : ∀ (l l' : List D) (vs : List V), RepL g H (μ ++ ν) l vs → omap (frz μ.length S k) l = some l' → RepL g H μ l' vs := by
      intro l
      induction l with
      | nil => intro l' vs r e; simp [omap] at e; subst e; simpa only [RepL] using r
      | cons x l ihl =>
        intro l' vs r e
        simp only [RepL] at r
        obtain ⟨v, y, rfl, h1, h2⟩ := r
        obtain ⟨p1, p2, e1, e2, rfl⟩ := omap_cons e
        exact .cons (ih x p1 v h1 e1) (ihl p2 y h2 e2)
    have oF : ∀ (l l' : List (Str × D)) (vs : List (Str × V)), RepF g H (μ ++ ν) l vs → pmap (frz μ.length S k) l = some l' → RepF g H μ l' vs := by
      intro l
      induction l with
      | nil => intro l' vs r e; simp [pmap] at e; subst e; simpa only [RepF] using r
      | cons x l ihl =>
        intro l' vs r e
        obtain ⟨kx, x⟩ := x
        simp only [RepF] at r
        obtain ⟨v, y, rfl, h1, h2⟩ := r
        simp only [pmap] at e
        split at e
        · rename_i p1 p2 e1 e2
          cases e
          simp only [RepF]
          exact ⟨v, y, rfl, ih x p1 v h1 e1, ihl p2 y h2 e2⟩
        · cases e
    have oK : ∀ (l l' : List (D × D)) (vs : List (Key × V)), RepK g H (μ ++ ν) l vs → dmap (frz μ.length S k) l = some l' → RepK g H μ l' vs := by
      intro l
      induction l with
      | nil => intro l' vs r e; simp [dmap] at e; subst e; simpa only [RepK] using r
      | cons x l ihl =>
        intro l' vs r e
        obtain ⟨kx, x⟩ := x
        simp only [RepK] at r
        obtain ⟨j, v, y, rfl, z, h1, h2⟩ := r
        simp only [dmap] at e
        split at e
        · rename_i p1 p2 e1 e2
          cases e
          simp only [RepK]
          exact ⟨j, v, y, rfl, z, ih x p1 v h1 e1, ihl p2 y h2 e2⟩
        · cases e
    have oT : ∀ (l l' : List (D × D)) (vs : List (List Key × V)), RepT g H (μ ++ ν) l vs → dmap (frz μ.length S k) l = some l' → RepT g H μ l' vs := by
      intro l
      induction l with
      | nil => intro l' vs r e; simp [dmap] at e; subst e; simpa only [RepT] using r
      | cons x l ihl =>
        intro l' vs r e
        obtain ⟨kx, x⟩ := x
        simp only [RepT] at r
        obtain ⟨j, v, y, rfl, z, h1, h2⟩ := r
        simp only [dmap] at e
        split at e
        · rename_i p1 p2 e1 e2
          cases e
          simp only [RepT]
          exact ⟨j, v, y, rfl, z, ih x p1 v h1 e1, ihl p2 y h2 e2⟩
        · cases e
    intro d d' v r e
    cases d with
    | non => simp only [frz] at e; cases e; simpa only [Rep] using r
    | bl _ => simp only [frz] at e; cases e; simpa only [Rep] using r
    | int _ => simp only [frz] at e; cases e; simpa only [Rep] using r
    | str _ => simp only [frz] at e; cases e; simpa only [Rep] using r
    | fn _ => simp only [frz] at e; cases e; simpa only [Rep] using r
    | lam _ => simp only [frz] at e; cases e; exact Rep.cut r rfl
    | sq l => simp only [frz] at e; cases e
    | kt l => simp only [frz] at e; exact kt _ _ _ r e
    | tup l =>
      simp only [frz, Option.map_eq_some_iff] at e
      obtain ⟨l', e, rfl⟩ := e
      simp only [Rep] at r ⊢
      obtain ⟨p, vs, e1, n, h, q⟩ := r
      exact ⟨p, vs, e1, nin_left n, h, oL _ _ _ q e⟩
    | ls l =>
      simp only [frz, Option.map_eq_some_iff] at e
      obtain ⟨l', e, rfl⟩ := e
      simp only [Rep] at r ⊢
      obtain ⟨p, vs, e1, n, h, q⟩ := r
      exact ⟨p, vs, e1, nin_left n, h, oL _ _ _ q e⟩
    | dc j l =>
      simp only [frz, Option.map_eq_some_iff] at e
      obtain ⟨l', e, rfl⟩ := e
      simp only [Rep] at r ⊢
      obtain ⟨a, e1, n, ⟨h1, ks, h2, q⟩ | ⟨h1, ks, h2, q⟩⟩ := r
      · exact ⟨a, e1, nin_left n, .inl ⟨h1, ks, h2, oK _ _ _ q e⟩⟩
      · exact ⟨a, e1, nin_left n, .inr ⟨h1, ks, h2, oT _ _ _ q e⟩⟩
    | ob c l =>
      simp only [frz, Option.map_eq_some_iff] at e
      obtain ⟨l', e, rfl⟩ := e
      simp only [Rep] at r ⊢
      obtain ⟨a, C, dx, vs, e1, n, m, h, q⟩ := r
      exact ⟨a, C, dx, vs, e1, nin_left n, m, h, oF _ _ _ q e⟩
    | ref n =>
      simp only [frz] at e
      split at e
      · rename_i hn
        cases e
        exact Rep.cut r (by simp only [clo, decide_eq_true_eq]; exact hn)
      · rename_i hn
        have out : ∀ a : Addr, (μ ++ ν)[n]? = some a → a ∉ μ := fun a ha hm => by
          rw [List.getElem?_append_right (Nat.le_of_not_lt hn)] at ha
          exact (List.nodup_append.mp w.nd).2.2 a hm a (List.mem_of_getElem? ha) rfl
        split at e
        · rename_i l hs
          obtain ⟨a, rfl, ha, _, vs, h, q⟩ := w.ref r hs
          simp only [Option.map_eq_some_iff] at e
          obtain ⟨l', e, rfl⟩ := e
          simp only [Rep]
          exact ⟨a, vs, rfl, out a ha, h, oL _ _ _ q e⟩
        · rename_i j lk l hs
          obtain ⟨a, rfl, ha, _, u, h, q⟩ := w.ref r hs
          simp only [Option.map_eq_some_iff] at e
          obtain ⟨l', e, rfl⟩ := e
          have rd : Rd H a u := by
            cases lk with
            | true => rw [if_pos rfl] at q; exact .inr q
            | false => rw [if_neg (by simp)] at q; exact .inl q
          simp only [Rep]
          rcases h with ⟨hk, ks, rfl, z⟩ | ⟨hk, ks, rfl, z⟩
          · exact ⟨a, rfl, out a ha, .inl ⟨hk, ks, rd, oK _ _ _ z e⟩⟩
          · exact ⟨a, rfl, out a ha, .inr ⟨hk, ks, rd, oT _ _ _ z e⟩⟩
        · rename_i c l hs
          obtain ⟨a, rfl, ha, _, C, dx, vs, m, h, q⟩ := w.ref r hs
          simp only [Option.map_eq_some_iff] at e
          obtain ⟨l', e, rfl⟩ := e
          simp only [Rep]
          exact ⟨a, C, dx, vs, rfl, out a ha, m, h, oF _ _ _ q e⟩
        · cases e

/-- tidied: the cells from b on are forgotten, the result frozen -/
def tidy (S : Sto) (r : Res) : Res := match r with
  | .ok d S' => if S'.take S.length = S ∨ (S'.take S.length).all (cloC S.length) = true then match frz S.length S' 30 d with
      | some d' => .ok d' (S'.take S.length)
      | none => .bad
    else .bad
  | .exc c S' => if S'.take S.length = S ∨ (S'.take S.length).all (cloC S.length) = true then .exc c (S'.take S.length) else .bad
  | .bad => .bad
theorem PostR.untidy {r : Res} {Q : VK} {E : Str → Hp → Prop} (w : W g μ H S) (h : PostR g μ H (tidy S r) Q E) : PostR g μ H r Q E := by
  have key : ∀ {S' : Sto} {H' : Hp} {μ' : List Addr}, (S'.take S.length = S ∨ (S'.take S.length).all (cloC S.length) = true) → Grow μ H μ' H' → W g μ' H' S' →
      ∃ ν, μ' = μ ++ ν ∧ W g μ H' (S'.take S.length) ∧ Grow μ H μ H' := fun {S' H' μ'} hc gr w' => by
    obtain ⟨ν, rfl, hf⟩ := gr.pre
    refine ⟨ν, rfl, ?_, ⟨⟨⟨[], by simp, by simp⟩, gr.keep, gr.sup⟩, gr.fz⟩⟩
    rw [← w.len]
    refine w'.cut fun c hm => ?_
    rw [w.len] at hm ⊢
    rcases hc with e | e
    · rw [e] at hm
      obtain ⟨n, hn, e1⟩ := List.getElem_of_mem hm
      have e2 : S[n]? = some c := by rw [List.getElem?_eq_getElem hn, e1]
      obtain ⟨a, _, _, k⟩ := w.ix e2
      rw [← w.len]
      exact k.clo
    · exact List.all_eq_true.mp e c hm
  cases r with
  | ok d S' =>
    simp only [tidy] at h
    split at h
    · rename_i hc
      split at h
      · rename_i d' e
        intro v H' μ' gr w' r'
        obtain ⟨ν, rfl, w2, g2⟩ := key hc gr w'
        rw [← w.len] at e
        exact h v H' μ g2 w2 (frz_rep w' 30 d d' v r' e)
      · exact h.elim
    · exact h.elim
  | exc c S' =>
    simp only [tidy] at h
    split at h
    · rename_i hc
      intro H' μ' gr w'
      obtain ⟨ν, rfl, w2, g2⟩ := key hc gr w'
      exact h H' μ g2 w2
    · exact h.elim
  | bad => exact h
end
end Gp

set_option Elab.async false
set_option linter.all false
set_option maxRecDepth 100000
/-! Gp7: calls -/
namespace Gp
open PySem PySem.Spec L2
open PyProof.Rows hiding St

/-- what a def is worth: its value on ghost values -/
abbrev Fn := List D → Sto → Res
def spG (g : G) (F : Fn) : Sp := fun vs H Q E => ∃ ds S μ, W g μ H S ∧ RepL g H μ ds vs ∧ PostR g μ H (F ds S) Q (fun c H' => ∀ C, g.mg c = some (.ref C) → E (.ref C) none H')
/-- a def of the text at f -/
structure FnR (g : G) (k : Nat) (f : Addr) (fd : FuncData) (ps : List Str) (F : Fn) : Prop where
  ok : FnOk g.P g.w g.K g.mg g.base (L2.CX g.P g.w) k f fd ps (spG g F)
  kp : PySem.W.keepIn g.K (.ref f) = true
/-- how arguments are bound: dds are the values of the parameters that are left out -/
def BindD (g : G) (fd : FuncData) (ps : List Str) (dds : List D) : Prop := ∃ ds dvs, Binds g.K fd ps ds ∧ Vals dvs ds ∧ ∀ H μ, RepL g H μ dds dvs
theorem BindD.none {g : G} {fd : FuncData} {ps : List Str} (h : Binds g.K fd ps []) : BindD g fd ps [] := ⟨[], [], h, .nil, fun _ _ => .nil⟩
/-- the def behind a name of the module -/
def CallOk (g : G) (k : Nat) (x : Str) (dds : List D) (F : Fn) : Prop := ∃ f fd ps, g.mg x = some (.ref f) ∧ FnR g k f fd ps F ∧ BindD g fd ps dds
/-- the method m of the class c -/
def MethOk (g : G) (k : Nat) (c m : Str) (dds : List D) (F : Fn) : Prop := ∀ C, g.mg c = some (.ref C) → ∃ f fd ps, Cls g.K C ∧ Meth g.K C m f ∧ FnR g k f fd ps F ∧ BindD g fd ps dds
/-- the class c made -/
def MakeOk (g : G) (k : Nat) (c : Str) (dds : List D) (F : Fn) : Prop := ∃ C f fd ps, g.mg c = some (.ref C) ∧ Mk g.K C f ∧ FnR g k f fd ps F ∧ BindD g fd ps dds

def gCall (F : Fn) (l : List GE) (dds : List D) : GE := fun ρ S => gArgs l ρ S fun ds S1 => F (ds ++ dds) S1
/-- the class of a value -/
def clsOf (d : D) (S : Sto) : Option (Str × List (Str × D)) := match d with
  | .ob c fs => some (c, fs)
  | .ref n => match S[n]? with
    | some (.obj c fs) => some (c, fs)
    | _ => none
  | _ => none
abbrev MTab := List (Str × List D × Fn)
def mlook (c : Str) : MTab → Option (List D × Fn)
  | [] => none
  | p :: r => if p.1 = c then some p.2 else mlook c r
def gMeth (tbl : MTab) (m : Str) (o : GE) (l : List GE) : GE := fun ρ S => (o ρ S).bind fun x S1 => match clsOf x S1 with
  | some (c, fs) => match lookD m fs, mlook c tbl with
    | none, some (dds, F) => gArgs l ρ S1 fun ds S2 => F (x :: (ds ++ dds)) S2
    | _, _ => .bad
  | none => .bad
def newObj (c : Str) (F : Fn) (ds : List D) (S : Sto) : Res := (F (.ref S.length :: ds) (S ++ [.obj c []])).bind fun d S2 => match d with
  | .non => .ok (.ref S.length) S2
  | _ => .bad
def gMake (imm : Bool) (c : Str) (F : Fn) (l : List GE) (dds : List D) : GE := fun ρ S => gArgs l ρ S fun ds S1 => if imm = true then tidy S1 (newObj c F (ds ++ dds) S1) else newObj c F (ds ++ dds) S1
section
variable {g : G} {N : List Str} {sc : Scope} {L : Nat} {a b c e : Expr} {ma mb mc m : GE} {pos p apos : Pos} {es : List Expr} {l : List GE} {x : Str} {F : Fn} {dds : List D} {k : Nat}
variable {μ : List Addr} {H : Hp} {S : Sto} {Q : VK} {E : Str → Hp → Prop}
theorem FnR.of {Wx : WX} {X : Cx} (C : CtxOk g N sc L Wx X) {f : Addr} {fd : FuncData} {ps : List Str} (h : FnR g k f fd ps F) : FnOk X.prog X.w X.K X.mg X.base (L2.CX X.prog X.w) k f fd ps (spG g F) := by
  have := h.ok
  rw [← C.prog, ← C.wd, ← C.K, ← C.mg, ← C.base] at this
  exact this
theorem PostR.later {μ' : List Addr} {H' : Hp} {r : Res} (h : PostR g μ H r Q E) (gr : Grow μ H μ' H') : PostR g μ' H' r Q E := by
  cases r with
  | ok d S => exact fun v H2 μ2 g2 w2 r2 => h v H2 μ2 (gr.trans g2) w2 r2
  | exc c S => exact fun H2 μ2 g2 w2 => h H2 μ2 (gr.trans g2) w2
  | bad => exact h
theorem wE_of {Wx : WX} {σ : St} {c : Str} {H' : Hp} (h : wE g Wx σ c H') : ∀ C, g.mg c = some (.ref C) → WE Wx σ (.ref C) none H' := h
theorem PostR.wE {r : Res} {Wx : WX} {σ : St} (h : PostR g μ H r Q (Gp.wE g Wx σ)) : PostR g μ H r Q (fun c H' => ∀ C, g.mg c = some (.ref C) → WE Wx σ (.ref C) none H') := h
/-- f(e, ..) -/
theorem re_call (hF : CallOk g k x dds F) (hk : k ≤ L) (hg : sc.names.lookup x = some .globalImplicit) (ha : RealA g N sc L (e :: es) l)
    (he : ∀ env : Env, starEach (e :: es) env = (false, eval e env) :: starEach es env) (hpl : ∀ env : Env, (backTo pos (starEach es env)).any (·.1) = false) (hdb : (x == ("__debug__" : Str)) = false := by decide) :
    Real g N sc L (.Call (.Name x p) (e :: es) [] pos) (gCall F l dds) := by
  intro Wx X C
  obtain ⟨f, fd, ps, hm, hF, ds, dvs, hb, hd, hr⟩ := hF
  refine (pe_callSD (hF.of C) (C.room.mono hk) (show Gl X x by unfold Gl Env.kindOf; rw [C.sc]; exact hg) (by rw [C.mg]; exact hm) (by rw [C.K]; exact hF.kp) (by rw [C.K]; exact hb) hd (fun σ => passAt C.tk σ) (ha.a Wx X C) hdb (he X.env) (hpl X.env)).weak ?_
  rintro σ H Q ⟨ρ, S, μ, he, hw, h⟩
  unfold gCall at h
  refine ⟨ρ, S, μ, he, hw, _, Q, h, fun xs S1 vs H1 μ1 g1 w1 r1 h1 => ?_⟩
  exact ⟨xs ++ dds, S1, μ1, w1, r1.append (hr _ _), h1⟩
/-- f() -/
theorem re_call0 (hF : CallOk g k x dds F) (hk : k ≤ L) (hg : sc.names.lookup x = some .globalImplicit) (hdb : (x == ("__debug__" : Str)) = false := by decide) :
    Real g N sc L (.Call (.Name x p) [] [] pos) (gCall F [] dds) := by
  intro Wx X C
  obtain ⟨f, fd, ps, hm, hF, ds, dvs, hb, hd, hr⟩ := hF
  refine ⟨fun pins s σ H Q I h => ?_⟩
  obtain ⟨ρ, S, μ, he, hw, h⟩ := h
  refine wpAny_Call_Name_kw (ld_glob I (show Gl X x by unfold Gl Env.kindOf; rw [C.sc]; exact hg) (by rw [C.mg]; exact hm) ?_ hdb)
  refine PySem.W.callWith_K0 I.kIn (by rw [C.K]; exact hF.kp) (run_fnSD (us := []) (hF.of C) (C.room.mono hk) (by rw [C.K]; exact hb) hd (passAt C.tk σ) I .nil ?_)
  exact ⟨dds, S, μ, hw, hr _ _, h⟩
/-- a call by values: m(self, ..) -/
theorem clsOf_rep {d : D} {v : V} {cl : Str} {fs : List (Str × D)} (w : W g μ H S) (r : Rep g H μ d v) (e : clsOf d S = some (cl, fs)) :
    ∃ a C dx vs, v = .ref a ∧ g.mg cl = some (.ref C) ∧ H a = some (.ins C dx vs) ∧ RepF g H μ fs vs := by
  unfold clsOf at e
  split at e
  · cases e
    simp only [Rep] at r
    obtain ⟨a, C, dx, vs, e, _, m, h, q⟩ := r
    exact ⟨a, C, dx, vs, e, m, h, q⟩
  · split at e
    · rename_i n c fs' hs
      cases e
      obtain ⟨a, e, _, _, C, dx, vs, m, h, q⟩ := w.ref r hs
      exact ⟨a, C, dx, vs, e, m, h, q⟩
    · cases e
  · cases e
theorem mlook_mem {cl : Str} {x : List D × Fn} : ∀ {t : MTab}, mlook cl t = some x → (cl, x) ∈ t
  | [], h => by cases h
  | p :: r, h => by
    unfold mlook at h
    split at h
    · rename_i e; cases h; subst e; exact List.mem_cons_self
    · exact List.mem_cons_of_mem _ (mlook_mem h)
/-- o.m(e, ..) -/
theorem re_meth {tbl : MTab} {mn : Str} {o : Expr} {mo : GE} {pl : Env → Sem Bool} (ho : Real g N sc L o mo) (hT : ∀ q ∈ tbl, MethOk g k q.1 mn q.2.1 q.2.2) (hk : k ≤ L) (ha : RealA g N sc L (e :: es) l)
    (hst : ∀ env : Env, starEach (e :: es) env = (false, eval e env) :: starEach es env) (hpl : ∀ env : Env, (backTo pos (starEach es env)).any (·.1) = false)
    (ht : ∀ env : Env, eval (.Call (.Attribute o mn apos) (e :: es) [] pos) env = (do
      let ov ← eval o env
      standAt apos.atName
      let (f, first) ← holding [ov] (getMethod ov mn (pl env))
      callWith pos f first (backTo pos (starEach (e :: es) env)) (backToKw pos (keywordEach [] env)))) :
    Real g N sc L (.Call (.Attribute o mn apos) (e :: es) [] pos) (gMeth tbl mn mo l) := by
  intro Wx X C
  refine ⟨fun pins s σ H Q I h => ?_⟩
  obtain ⟨ρ, S, μ, he, hw, h⟩ := h
  unfold gMeth at h
  refine methcall_of (pl := pl X.env) (ho Wx X C) I ⟨ρ, S, μ, he, hw, h.bind fun d S1 v H1 μ1 g1 w1 r1 h1 => ?_⟩ (ht X.env)
  split at h1
  · rename_i cl fs ec
    split at h1
    · rename_i dds F en et
      obtain ⟨a, CC, dx, vs, rfl, mc, ha1, q⟩ := clsOf_rep w1 r1 ec
      obtain ⟨f, fd, ps, hc, hm, hF, ds, dvs, hb, hd, hr⟩ := hT _ (mlook_mem et) CC mc
      refine ⟨a, CC, dx, vs, f, rfl, ha1, by rw [C.K]; exact hc, by rw [C.K]; exact hm, q.look.2 en, fun s1 I1 => ?_⟩
      refine PySem.W.callWith_K (first := [.ref a]) (h₀ := X.base) I1.ok.mod.kin (by rw [C.K]; exact hm.kp) (thn ((ha.a Wx X C).run pos pins s1 σ H1 (fun vs2 H2 => spG g F (.ref a :: (vs2 ++ dvs)) H2 Q (WE Wx σ)) I1
        ⟨ρ, S1, μ1, he.mono g1, w1, _, Q, h1, fun xs S2 vs2 H2 μ2 g2 w2 r2 h2 => ⟨d :: (xs ++ dds), S2, μ2, w2, .cons (r1.mono g2) (r2.append (hr _ _)), h2⟩⟩) fun us s2 ⟨vs2, H2, I2, r, q2⟩ => ⟨I2.kIn, ?_⟩) (hst X.env) (hpl X.env)
      exact run_fnSD (us := .ref a :: us) (vs := .ref a :: vs2) (hF.of C) (C.room.mono hk) (by rw [C.K]; exact hb) hd (passAt C.tk σ) I2 (.cons rfl r) q2
    · exact h1.elim
  · exact h1.elim
theorem re_meth0 {tbl : MTab} {mn : Str} {o : Expr} {mo : GE} {pl : Env → Sem Bool} (ho : Real g N sc L o mo) (hT : ∀ q ∈ tbl, MethOk g k q.1 mn q.2.1 q.2.2) (hk : k ≤ L)
    (ht : ∀ env : Env, eval (.Call (.Attribute o mn apos) [] [] pos) env = (do
      let ov ← eval o env
      standAt apos.atName
      let (f, first) ← holding [ov] (getMethod ov mn (pl env))
      callWith pos f first (backTo pos (starEach [] env)) (backToKw pos (keywordEach [] env)))) :
    Real g N sc L (.Call (.Attribute o mn apos) [] [] pos) (gMeth tbl mn mo []) := by
  intro Wx X C
  refine ⟨fun pins s σ H Q I h => ?_⟩
  obtain ⟨ρ, S, μ, he, hw, h⟩ := h
  unfold gMeth at h
  refine methcall_of (pl := pl X.env) (ho Wx X C) I ⟨ρ, S, μ, he, hw, h.bind fun d S1 v H1 μ1 g1 w1 r1 h1 => ?_⟩ (ht X.env)
  split at h1
  · rename_i cl fs ec
    split at h1
    · rename_i dds F en et
      obtain ⟨a, CC, dx, vs, rfl, mc, ha1, q⟩ := clsOf_rep w1 r1 ec
      obtain ⟨f, fd, ps, hc, hm, hF, ds, dvs, hb, hd, hr⟩ := hT _ (mlook_mem et) CC mc
      refine ⟨a, CC, dx, vs, f, rfl, ha1, by rw [C.K]; exact hc, by rw [C.K]; exact hm, q.look.2 en, fun s1 I1 => ?_⟩
      refine PySem.W.callWith_K0 (first := [.ref a]) I1.kIn (by rw [C.K]; exact hm.kp) (run_fnSD (us := [.ref a]) (vs := [.ref a]) (hF.of C) (C.room.mono hk) (by rw [C.K]; exact hb) hd (passAt C.tk σ) I1 (.cons rfl .nil) ?_)
      exact ⟨d :: dds, S1, μ1, w1, .cons r1 (hr _ _), h1⟩
    · exact h1.elim
  · exact h1.elim

/-! ### C(e, ..) -/
theorem run_makeS {X : Cx} {CX : CXT} {f Ca : Addr} {fd : FuncData} {ps : List Str} {sp : Sp} {dvs : List V} {ds : List Value} {E : XK} {pins : List (Addr × Obj)} {σ : St} {H : Hp} {s : Shared} {Q : VK} {us : List Value} {vs : List V} (M : Mk X.K Ca f) (F : FnOk X.prog X.w X.K X.mg X.base CX k f fd ps sp) (hr : Room (k + 1) X.A) (hb : Binds X.K fd ps ds) (hd : Vals dvs ds)
    (hx : PassesAt CX X σ E) (I : Inv X pins σ H s) (r : Vals vs us)
    (h : ∀ x dx, H x = none → H dx = none → dx ≠ x → sp (.ref x :: (vs ++ dvs)) (upd (upd H dx (.own x)) x (.ins Ca dx [])) (fun v H2 => v = .non ∧ Q (.ref x) H2) E) :
    wpAny (model X.prog X.w) X.A (call (.ref Ca) us) (EP X pins σ Q) X.xe s := by
  have hq := h (s.heap.objs.size + 1) s.heap.objs.size (I.hok.fresh (Nat.le_succ _)) (I.hok.fresh (Nat.le_refl _)) (Nat.ne_of_lt (Nat.lt_succ_self _))
  have I2 := Inv.made (C := Ca) I
  have r2 : Vals (V.ref (s.heap.objs.size + 1) :: (vs ++ dvs)) (Value.ref (s.heap.objs.size + 1) :: (us ++ ds)) := .cons rfl (r.append hd)
  have hl : (Value.ref (s.heap.objs.size + 1) :: us ++ ds).length = ps.length := by
    have e := r2.length
    rw [F.len _ _ _ _ hq] at e
    exact e.symm
  refine wpAny_call (make_map (f := f) I.kIn M.makes M.init (beq_iff_eq.mp M.fn) (codeAny_mono (F.run _ X.stack _ _ ⟨Value.ref (s.heap.objs.size + 1) :: us, []⟩ (Value.ref (s.heap.objs.size + 1) :: (us ++ ds)) _ _ E (hr.make Ca us [])
    (I2.env0.make Ca us []) (hb _ (Value.ref (s.heap.objs.size + 1) :: us) I2.kIn hl) r2 hq) fun r s' hq' => ?_))
  cases r with
  | error e => exact hx pins _ _ e s' I2 hq'
  | ok fl =>
    cases fl with
    | ret u =>
      obtain ⟨v, H', I3, rv, ev, q3⟩ := I2.after hq'
      subst ev
      exact ⟨rv, ⟨V.ref (s.heap.objs.size + 1), H', I3, rfl, q3⟩⟩
    | next => exact False.elim hq'
    | brk => exact False.elim hq'
    | cont => exact False.elim hq'
theorem new_w {cl : Str} {Ca x dx : Addr} (w : W g μ H S) (hm : g.mg cl = some (.ref Ca)) (hx : H x = none) (hdx : H dx = none) (hne : dx ≠ x) :
    W g (μ ++ [x]) (upd (upd H dx (.own x)) x (.ins Ca dx [])) (S ++ [.obj cl []]) ∧ Grow μ H (μ ++ [x]) (upd (upd H dx (.own x)) x (.ins Ca dx [])) := by
  have h1 : upd H dx (.own x) x = none := by rw [upd_ne (Ne.symm hne)]; exact hx
  refine ⟨(w.add hdx).alloc h1 ⟨Ca, dx, [], hm, upd_same, by simp [RepF]⟩, ?_⟩
  have g1 : Grow μ H μ (upd H dx (.own x)) := grow_fresh hdx
  exact g1.trans (grow_alloc h1)
theorem re_make0 {imm : Bool} {cl : Str} (hF : MakeOk g k cl dds F) (hk : k + 1 ≤ L) (hg : sc.names.lookup cl = some .globalImplicit) (hdb : (cl == ("__debug__" : Str)) = false := by decide) :
    Real g N sc L (.Call (.Name cl p) [] [] pos) (gMake imm cl F [] dds) := by
  intro Wx X C
  obtain ⟨Ca, f, fd, ps, hm, hM, hF, ds, dvs, hb, hd, hr⟩ := hF
  refine ⟨fun pins s σ H Q I h => ?_⟩
  obtain ⟨ρ, S, μ, he, hw, h⟩ := h
  refine wpAny_Call_Name_kw (ld_glob I (show Gl X cl by unfold Gl Env.kindOf; rw [C.sc]; exact hg) (by rw [C.mg]; exact hm) ?_ hdb)
  have M : Mk X.K Ca f := by rw [C.K]; exact hM
  have h2 : PostR g μ H (newObj cl F dds S) Q (wE g Wx σ) := by
    unfold gMake gArgs at h
    cases imm with
    | true => exact PostR.untidy hw h
    | false => exact h
  refine PySem.W.callWith_K0 I.kIn M.kp (run_makeS (us := []) M (hF.of C) (C.room.mono hk) (by rw [C.K]; exact hb) hd (passAt C.tk σ) I .nil fun x dx hx hdx hne => ?_)
  obtain ⟨w2, g2⟩ := new_w hw hm hx hdx hne
  refine ⟨.ref S.length :: dds, _, _, w2, .cons (by simp only [Rep]; exact ⟨x, rfl, by rw [← hw.len, List.getElem?_append_right (Nat.le_refl _)]; simp⟩) (hr _ _), ?_⟩
  have h3 : PostR g (μ ++ [x]) (upd (upd H dx (.own x)) x (.ins Ca dx [])) (newObj cl F dds S) Q (wE g Wx σ) := PostR.later h2 g2
  refine (PostR.bind h3 fun d S1 v H1 μ1 g1 w1 r1 h1 => ?_)
  split at h1
  · simp only [Rep] at r1
    refine ⟨r1, h1 (.ref x) H1 μ1 (.refl _ _) w1 ?_⟩
    simp only [Rep]
    exact ⟨x, rfl, g1.get (by rw [← hw.len, List.getElem?_append_right (Nat.le_refl _)]; simp)⟩
  · exact h1.elim
theorem re_make {imm : Bool} {cl : Str} (hF : MakeOk g k cl dds F) (hk : k + 1 ≤ L) (hg : sc.names.lookup cl = some .globalImplicit) (ha : RealA g N sc L (e :: es) l)
    (hst : ∀ env : Env, starEach (e :: es) env = (false, eval e env) :: starEach es env) (hpl : ∀ env : Env, (backTo pos (starEach es env)).any (·.1) = false) (hdb : (cl == ("__debug__" : Str)) = false := by decide) :
    Real g N sc L (.Call (.Name cl p) (e :: es) [] pos) (gMake imm cl F l dds) := by
  intro Wx X C
  obtain ⟨Ca, f, fd, ps, hm, hM, hF, ds, dvs, hb, hd, hr⟩ := hF
  refine ⟨fun pins s σ H Q I h => ?_⟩
  obtain ⟨ρ, S, μ, he, hw, h⟩ := h
  refine wpAny_Call_Name_kw (ld_glob I (show Gl X cl by unfold Gl Env.kindOf; rw [C.sc]; exact hg) (by rw [C.mg]; exact hm) ?_ hdb)
  have M : Mk X.K Ca f := by rw [C.K]; exact hM
  refine PySem.W.callWith_K (h₀ := X.base) I.ok.mod.kin M.kp (thn ((ha.a Wx X C).run pos pins s σ H (fun vs H1 => ∃ ds1 S1 μ1, W g μ1 H1 S1 ∧ RepL g H1 μ1 ds1 vs ∧ PostR g μ1 H1 (newObj cl F (ds1 ++ dds) S1) Q (wE g Wx σ)) I
    ⟨ρ, S, μ, he, hw, _, Q, h, fun xs S2 vs2 H2 μ2 g2 w2 r2 h2 => ⟨xs, S2, μ2, w2, r2, ?_⟩⟩) fun us s1 ⟨vs, H1, I1, r, xs, S1, μ1, w1, r1, h1⟩ => ⟨I1.kIn, ?_⟩) (hst X.env) (hpl X.env)
  · cases imm with
    | true => exact PostR.untidy w2 h2
    | false => exact h2
  refine run_makeS M (hF.of C) (C.room.mono hk) (by rw [C.K]; exact hb) hd (passAt C.tk σ) I1 r fun x dx hx hdx hne => ?_
  obtain ⟨w2, g2⟩ := new_w w1 hm hx hdx hne
  refine ⟨.ref S1.length :: (xs ++ dds), _, _, w2, .cons (by simp only [Rep]; exact ⟨x, rfl, by rw [← w1.len, List.getElem?_append_right (Nat.le_refl _)]; simp⟩) ((r1.mono g2).append (hr _ _)), ?_⟩
  have h3 := PostR.later h1 g2
  refine (PostR.bind h3 fun d S2 v H2 μ2 g1 w2 r2 h2 => ?_)
  split at h2
  · simp only [Rep] at r2
    refine ⟨r2, h2 (.ref x) H2 μ2 (.refl _ _) w2 ?_⟩
    simp only [Rep]
    exact ⟨x, rfl, g1.get (by rw [← w1.len, List.getElem?_append_right (Nat.le_refl _)]; simp)⟩
  · exact h2.elim

/-! ### built-ins -/
theorem re_callB {id : String} {pr : List D → Sto → Pr} (hc : ∀ Wx X, CtxOk g N sc L Wx X → CallR X (.builtin id) (rPn g pr)) (hg : sc.names.lookup x = some .globalImplicit) (hm : g.mg x = none) (hv : bootBuiltins x = some (.builtin id)) (ha : RealA g N sc L (e :: es) l)
    (he : ∀ env : Env, starEach (e :: es) env = (false, eval e env) :: starEach es env) (hpl : ∀ env : Env, (backTo pos (starEach es env)).any (·.1) = false) (hn : x ≠ "__name__" := by decide) (hdb : (x == ("__debug__" : Str)) = false := by decide) :
    Real g N sc L (.Call (.Name x p) (e :: es) [] pos) (gCallP pr l) := by
  intro Wx X C
  refine (pe_callB (hc Wx X C) (show Gl X x by unfold Gl Env.kindOf; rw [C.sc]; exact hg) (by rw [C.mg]; exact hm) hv (ha.a Wx X C) hn hdb (he X.env) (hpl X.env)).weak ?_
  rintro σ H Q ⟨ρ, S, μ, he, hw, h⟩
  unfold gCallP at h
  exact ⟨ρ, S, μ, he, hw, _, Q, h, fun xs S1 vs H1 μ1 g1 w1 r1 h1 => ⟨xs, S1, μ1, w1, r1, h1.pr⟩⟩
theorem re_callTy {T : String} {pr : List D → Sto → Pr} (hc : ∀ Wx X, CtxOk g N sc L Wx X → CallR X (.type T) (rPn g pr)) (hg : sc.names.lookup x = some .globalImplicit) (hm : g.mg x = none) (hv : bootBuiltins x = some (.type T)) (ha : RealA g N sc L (e :: es) l)
    (he : ∀ env : Env, starEach (e :: es) env = (false, eval e env) :: starEach es env) (hpl : ∀ env : Env, (backTo pos (starEach es env)).any (·.1) = false) (hn : x ≠ "__name__" := by decide) (hdb : (x == ("__debug__" : Str)) = false := by decide) :
    Real g N sc L (.Call (.Name x p) (e :: es) [] pos) (gCallP pr l) := by
  intro Wx X C
  refine (pe_callTy (hc Wx X C) (show Gl X x by unfold Gl Env.kindOf; rw [C.sc]; exact hg) (by rw [C.mg]; exact hm) hv (ha.a Wx X C) hn hdb (he X.env) (hpl X.env)).weak ?_
  rintro σ H Q ⟨ρ, S, μ, he, hw, h⟩
  unfold gCallP at h
  exact ⟨ρ, S, μ, he, hw, _, Q, h, fun xs S1 vs H1 μ1 g1 w1 r1 h1 => ⟨xs, S1, μ1, w1, r1, h1.pr⟩⟩
end
end Gp

set_option Elab.async false
set_option linter.all false
set_option maxRecDepth 100000
/-! Gp8: built-ins on values -/
namespace Gp
open PySem PySem.Spec L2
open PyProof.Rows hiding St

abbrev PrN := List D → Sto → Pr
def pLen : PrN := fun ds S => match ds with
  | [d] => match asD d S with
    | some (0, l) => some (.int l.length, S)
    | some _ => none
    | none => match d with
      | .str z => if z.length ≤ sizeLine then some (.int z.length, S) else none
      | d => match asL d S with
        | some l => some (.int l.length, S)
        | none => match asT d with
          | some l => some (.int l.length, S)
          | none => none
  | _ => none
def pAbs : PrN := fun ds S => match ds with
  | [.int i] => some (.int (if i < 0 then -i else i), S)
  | _ => none
def pInt : PrN := fun ds S => match ds with
  | [.int i] => some (.int i, S)
  | [.bl k] => some (.int (if k then 1 else 0), S)
  | _ => none
def strI (i : Int) : Str := toString i
def pStr : PrN := fun ds S => match ds with
  | [.int i] => if i.natAbs.log2 < 1920 then some (.str (strI i), S) else none
  | _ => none
def intsOf : List D → Option (List Int) := omap fun d => match d with
  | .int i => some i
  | _ => none
def maxI : List Int → Int
  | [] => 0
  | n :: r => r.foldl max n
def minI : List Int → Int
  | [] => 0
  | n :: r => r.foldl min n
def pMax : PrN := fun ds S => match ds with
  | [.int i, .int j] => some (.int (max i j), S)
  | [d] => match asL d S with
    | some l => match intsOf l with
      | some (n :: r) => some (.int (maxI (n :: r)), S)
      | _ => none
    | none => none
  | _ => none
def pMin : PrN := fun ds S => match ds with
  | [.int i, .int j] => some (.int (min i j), S)
  | [d] => match asL d S with
    | some l => match intsOf l with
      | some (n :: r) => some (.int (minI (n :: r)), S)
      | _ => none
    | none => none
  | _ => none
def pSum : PrN := fun ds S => match ds with
  | [d] => match asL d S with
    | some l => match intsOf l with
      | some ns => some (.int ns.sum, S)
      | _ => none
    | none => none
  | _ => none
def pTuple : PrN := fun ds S => match ds with
  | [.tup l] => some (.tup l, S)
  | [d] => match asL d S with
    | some l => some (.tup l, S)
    | none => none
  | _ => none
def pList (m : Bool) : PrN := fun ds S => match ds with
  | [d] => match asD d S with
    | some (0, l) => mkL m (l.map (·.1)) S
    | some (1, l) => mkL m (l.map (·.1)) S
    | some _ => none
    | none => match asL d S with
      | some l => mkL m l S
      | none => match asT d with
        | some l => mkL m l S
        | none => none
  | _ => none
/-- the datum by which an item is sorted -/
def pdk (S : Sto) (d : D) : PyData := (pd S 58 d).getD .none
def sortD (S : Sto) (l : List D) : List D := l.mergeSort (PySem.W.dataLe false (pdk S))
/-- alike, none of them None; tuples not empty, or no tuples -/
def sortable (ps : List PyData) : Bool :=
  (ps.all fun p => ps.all fun q => PySem.W.alike p q) && (ps.all fun p => !isNone p) &&
  ((ps.all fun p => match p with | .tuple (_ :: _) => true | _ => false) || ps.all fun p => match p with | .tuple _ => false | _ => true)
def itemsOf (d : D) (S : Sto) : Option (List D) := match asD d S with
  | some (0, l) => some (l.map (·.1))
  | some (1, l) => some (l.map (·.1))
  | some _ => none
  | none => asL d S
def pSorted (m : Bool) : PrN := fun ds S => match ds with
  | [d] => match itemsOf d S with
    | some l => match omap (pd S 58) l with
      | some ps => if sortable ps = true then mkL m (sortD S l) S else none
      | none => none
    | none => none
  | _ => none
section
variable {g : G} {N : List Str} {sc : Scope} {L : Nat} {Wx : WX} {X : Cx}
variable {μ : List Addr} {H : Hp} {S : Sto} {Q : VK}
theorem rep1 {d : D} {vs : List V} (r : RepL g H μ [d] vs) : ∃ v, vs = [v] ∧ Rep g H μ d v := by
  simp only [RepL] at r
  obtain ⟨v, y, rfl, h, rfl⟩ := r
  exact ⟨v, rfl, h⟩
theorem rep2 {d e : D} {vs : List V} (r : RepL g H μ [d, e] vs) : ∃ v u, vs = [v, u] ∧ Rep g H μ d v ∧ Rep g H μ e u := by
  simp only [RepL] at r
  obtain ⟨v, y, rfl, h, u, z, rfl, h2, rfl⟩ := r
  exact ⟨v, u, rfl, h, h2⟩
theorem c_len (C : CtxOk g N sc L Wx X) : CallR X (.builtin "len") (rPn g pLen) := CallR.pick fun xs H Q h => by
  obtain ⟨ds, S, μ, w, r, h⟩ := h
  unfold pLen at h
  split at h
  · rename_i d
    obtain ⟨v, hv', rr⟩ := rep1 r; subst hv'; replace r := rr
    split at h
    · rename_i l e
      obtain ⟨a, rfl, ⟨_, ks, h1, h2⟩ | ⟨z, _⟩⟩ := asD_rep w r e
      · refine ⟨fun xs H Q => ∃ a kvs, xs = [V.ref a] ∧ Rd H a (.dK kvs) ∧ Q (.int kvs.length) H, ?_, a, ks, rfl, h1, ?_⟩
        · intro pins s σ H xs us Q I r h
          obtain ⟨a, kvs, rfl, ha, q⟩ := h
          obtain ⟨u, rfl, ru⟩ := vals1 r
          cases ru
          exact d_len I ha fun t s' I' => ⟨.int kvs.length, H, I', ⟨t, rfl⟩, q⟩
        · have hl : l.length = ks.length := by
            clear h1 e h r
            induction l generalizing ks with
            | nil => simp only [RepK] at h2; subst h2; rfl
            | cons x l ih => simp only [RepK] at h2; obtain ⟨_, _, t, rfl, _, _, h2⟩ := h2; simp [ih t h2]
          rw [← hl]
          exact PostP.here h w (by simp [Rep])
      · cases z
    · exact h.elim
    · split at h
      · obtain ⟨hl, h⟩ := ite_none h
        simp only [Rep] at r
        subst r
        exact ⟨_, call_len, _, _, rfl, ⟨hl, rfl⟩, PostP.here h w (by simp [Rep])⟩
      · split at h
        · rename_i l e
          obtain ⟨p, vs, rfl, h1, q⟩ := asL_rep w r e
          exact ⟨_, call_len, _, _, rfl, .inl ⟨vs, .of h1, rfl⟩, by rw [← q.length]; exact PostP.here h w (by simp [Rep])⟩
        · split at h
          · rename_i l e
            obtain ⟨p, vs, rfl, h1, q⟩ := asT_rep r e
            exact ⟨_, call_len, _, _, rfl, .inr ⟨vs, by rw [C.K]; exact h1, rfl⟩, by rw [← q.length]; exact PostP.here h w (by simp [Rep])⟩
          · exact h.elim
  · exact h.elim
theorem c_abs (C : CtxOk g N sc L Wx X) : CallR X (.builtin "abs") (rPn g pAbs) := CallR.pick fun xs H Q h => by
  obtain ⟨ds, S, μ, w, r, h⟩ := h
  unfold pAbs at h
  split at h
  · obtain ⟨v, hv', rr⟩ := rep1 r; subst hv'; replace r := rr
    simp only [Rep] at r
    subst r
    exact ⟨_, call_abs, _, rfl, PostP.here h w (by simp [Rep])⟩
  · exact h.elim
theorem c_int (C : CtxOk g N sc L Wx X) : CallR X (.type "int") (rPn g pInt) := CallR.pick fun xs H Q h => by
  obtain ⟨ds, S, μ, w, r, h⟩ := h
  unfold pInt at h
  split at h
  · obtain ⟨v, hv', rr⟩ := rep1 r; subst hv'; replace r := rr
    simp only [Rep] at r
    subst r
    exact ⟨_, call_int1, .inl ⟨_, rfl, PostP.here h w (by simp [Rep])⟩⟩
  · obtain ⟨v, hv', rr⟩ := rep1 r; subst hv'; replace r := rr
    simp only [Rep] at r
    subst r
    exact ⟨_, call_int1, .inr ⟨_, rfl, PostP.here h w (by simp [Rep])⟩⟩
  · exact h.elim
theorem c_str (C : CtxOk g N sc L Wx X) : CallR X (.type "str") (rPn g pStr) := CallR.pick fun xs H Q h => by
  obtain ⟨ds, S, μ, w, r, h⟩ := h
  unfold pStr at h
  split at h
  · obtain ⟨hl, h⟩ := ite_none h
    obtain ⟨v, hv', rr⟩ := rep1 r; subst hv'; replace r := rr
    simp only [Rep] at r
    subst r
    exact ⟨_, call_str_int, _, rfl, hl, PostP.here h w (by simp [Rep, strI])⟩
  · exact h.elim
theorem intsOf_rep : ∀ {l : List D} {vs : List V} {ns : List Int}, RepL g H μ l vs → intsOf l = some ns → vs = ns.map V.int
  | [], vs, ns, r, e => by simp only [RepL] at r; simp [intsOf, omap] at e; subst e r; rfl
  | d :: l, vs, ns, r, e => by
    simp only [RepL] at r
    obtain ⟨v, y, rfl, h, t⟩ := r
    obtain ⟨i, ms, e1, e2, rfl⟩ := omap_cons e
    split at e1
    · cases e1
      simp only [Rep] at h
      rw [h, intsOf_rep t e2, List.map_cons]
    · cases e1
theorem foldl_max_ge : ∀ (r : List Int) (n : Int), n ≤ r.foldl max n ∧ ∀ y ∈ r, y ≤ r.foldl max n
  | [], n => by simp
  | a :: r, n => by
    obtain ⟨h1, h2⟩ := foldl_max_ge r (max n a)
    simp only [List.foldl_cons, List.mem_cons, forall_eq_or_imp]
    exact ⟨by omega, by omega, h2⟩
theorem foldl_max_mem : ∀ (r : List Int) (n : Int), r.foldl max n = n ∨ r.foldl max n ∈ r
  | [], n => by simp
  | a :: r, n => by
    simp only [List.foldl_cons, List.mem_cons]
    rcases foldl_max_mem r (max n a) with h | h
    · rcases Int.le_total n a with z | z
      · right; left; rw [h]; omega
      · left; rw [h]; omega
    · right; right; exact h
theorem foldl_min_le : ∀ (r : List Int) (n : Int), r.foldl min n ≤ n ∧ ∀ y ∈ r, r.foldl min n ≤ y
  | [], n => by simp
  | a :: r, n => by
    obtain ⟨h1, h2⟩ := foldl_min_le r (min n a)
    simp only [List.foldl_cons, List.mem_cons, forall_eq_or_imp]
    exact ⟨by omega, by omega, h2⟩
theorem foldl_min_mem : ∀ (r : List Int) (n : Int), r.foldl min n = n ∨ r.foldl min n ∈ r
  | [], n => by simp
  | a :: r, n => by
    simp only [List.foldl_cons, List.mem_cons]
    rcases foldl_min_mem r (min n a) with h | h
    · rcases Int.le_total n a with z | z
      · left; rw [h]; omega
      · right; left; rw [h]; omega
    · right; right; exact h
theorem maxI_spec {n : Int} {r : List Int} : maxI (n :: r) ∈ n :: r ∧ ∀ y ∈ n :: r, y ≤ maxI (n :: r) := by
  have h1 := foldl_max_ge r n
  refine ⟨?_, ?_⟩
  · rcases foldl_max_mem r n with h | h
    · rw [maxI, h]; exact List.mem_cons_self
    · exact List.mem_cons_of_mem _ h
  · intro y hy
    rcases List.mem_cons.mp hy with rfl | hy
    · exact h1.1
    · exact h1.2 y hy
theorem minI_spec {n : Int} {r : List Int} : minI (n :: r) ∈ n :: r ∧ ∀ y ∈ n :: r, minI (n :: r) ≤ y := by
  have h1 := foldl_min_le r n
  refine ⟨?_, ?_⟩
  · rcases foldl_min_mem r n with h | h
    · rw [minI, h]; exact List.mem_cons_self
    · exact List.mem_cons_of_mem _ h
  · intro y hy
    rcases List.mem_cons.mp hy with rfl | hy
    · exact h1.1
    · exact h1.2 y hy
theorem c_max (C : CtxOk g N sc L Wx X) : CallR X (.builtin "max") (rPn g pMax) := CallR.pick fun xs H Q h => by
  obtain ⟨ds, S, μ, w, r, h⟩ := h
  unfold pMax at h
  split at h
  · rename_i i j
    obtain ⟨v, u, rfl, r1, r2⟩ := rep2 r
    simp only [Rep] at r1 r2
    subst r1 r2
    refine ⟨_, call_max2 C.calm, _, _, rfl, ?_⟩
    refine PostP.here h w ?_
    simp only [Rep, V.int.injEq]
    split <;> omega
  · split at h
    · rename_i d _ l e
      split at h
      · rename_i n r' e2
        obtain ⟨v, hv', rr⟩ := rep1 r; subst hv'; replace r := rr
        obtain ⟨p, vs, rfl, h1, q⟩ := asL_rep w r e
        have hv := intsOf_rep q e2
        subst hv
        refine ⟨_, cr_max C.calm, p, n :: r', rfl, .of h1, by simp, fun m hm hle => ?_⟩
        obtain ⟨m1, m2⟩ := maxI_spec (n := n) (r := r')
        have em : m = maxI (n :: r') := Int.le_antisymm (m2 m hm) (hle _ m1)
        rw [em]
        exact PostP.here h w (by simp [Rep])
      · exact h.elim
    · exact h.elim
  · exact h.elim
theorem c_min (C : CtxOk g N sc L Wx X) : CallR X (.builtin "min") (rPn g pMin) := CallR.pick fun xs H Q h => by
  obtain ⟨ds, S, μ, w, r, h⟩ := h
  unfold pMin at h
  split at h
  · rename_i i j
    obtain ⟨v, u, rfl, r1, r2⟩ := rep2 r
    simp only [Rep] at r1 r2
    subst r1 r2
    refine ⟨_, call_min2 C.calm, _, _, rfl, ?_⟩
    refine PostP.here h w ?_
    simp only [Rep, V.int.injEq]
    split <;> omega
  · split at h
    · rename_i d _ l e
      split at h
      · rename_i n r' e2
        obtain ⟨v, hv', rr⟩ := rep1 r; subst hv'; replace r := rr
        obtain ⟨p, vs, rfl, h1, q⟩ := asL_rep w r e
        have hv := intsOf_rep q e2
        subst hv
        refine ⟨_, cr_min C.calm, p, n :: r', rfl, .of h1, by simp, fun m hm hle => ?_⟩
        obtain ⟨m1, m2⟩ := minI_spec (n := n) (r := r')
        have em : m = minI (n :: r') := Int.le_antisymm (hle _ m1) (m2 m hm)
        rw [em]
        exact PostP.here h w (by simp [Rep])
      · exact h.elim
    · exact h.elim
  · exact h.elim
theorem c_sum (C : CtxOk g N sc L Wx X) : CallR X (.builtin "sum") (rPn g pSum) := CallR.pick fun xs H Q h => by
  obtain ⟨ds, S, μ, w, r, h⟩ := h
  unfold pSum at h
  split at h
  · split at h
    · rename_i d _ l e
      split at h
      · rename_i ns e2
        obtain ⟨v, hv', rr⟩ := rep1 r; subst hv'; replace r := rr
        obtain ⟨p, vs, rfl, h1, q⟩ := asL_rep w r e
        have hv := intsOf_rep q e2
        subst hv
        exact ⟨_, cr_sum C.calm, p, ns, rfl, .of h1, PostP.here h w (by simp [Rep])⟩
      · exact h.elim
    · exact h.elim
  · exact h.elim
theorem c_tuple (C : CtxOk g N sc L Wx X) : CallR X (.type "tuple") (rPn g pTuple) := CallR.pick fun xs H Q h => by
  obtain ⟨ds, S, μ, w, r, h⟩ := h
  unfold pTuple at h
  split at h
  · obtain ⟨v, hv', rr⟩ := rep1 r; subst hv'; replace r := rr
    have r0 := r
    simp only [Rep] at r
    obtain ⟨p, vs, rfl, _, e, q⟩ := r
    exact ⟨_, call_tupleT, p, vs, rfl, .of e, PostP.here h w r0⟩
  · split at h
    · rename_i d _ _ l e
      obtain ⟨v, hv', rr⟩ := rep1 r; subst hv'; replace r := rr
      obtain ⟨p, vs, rfl, h1, q⟩ := asL_rep w r e
      exact ⟨_, call_tuple_of, p, vs, rfl, .inl ⟨.of h1, PostP.tup h w q⟩⟩
    · exact h.elim
  · exact h.elim
theorem keysK : ∀ {l : List (D × D)} {ks : List (Key × V)}, RepK g H μ l ks → RepL g H μ (l.map (·.1)) (ks.map fun kv => kV kv.1)
  | [], ks, r => by simp only [RepK] at r; subst r; exact .nil
  | p :: l, ks, r => by
    simp only [RepK] at r
    obtain ⟨k, v, t, rfl, e, _, h⟩ := r
    exact .cons (show Rep g H μ p.1 (kV k) by rw [e]; exact rep_kD.mpr rfl) (keysK h)
theorem repL_kV : ∀ {ks : List Key}, RepL g H μ (ks.map kD) (ks.map kV)
  | [] => .nil
  | k :: ks => .cons (rep_kD.mpr rfl) repL_kV
theorem keysT (w : W g μ H S) : ∀ {l : List (D × D)} {ks : List (List Key × V)} {bs : List Addr}, RepT g H μ l ks → IsKeys H ks bs → RepL g H μ (l.map (·.1)) (bs.map V.ref)
  | [], ks, bs, r, h => by simp only [RepT] at r; subst r; cases h; exact .nil
  | p :: l, ks, bs, r, h => by
    simp only [RepT] at r
    obtain ⟨k, v, t, rfl, e, _, q⟩ := r
    cases h with
    | cons h1 h2 =>
      refine .cons ?_ (keysT w q h2)
      show Rep g H μ p.1 _
      rw [e]
      simp only [tD, Rep]
      refine ⟨_, _, rfl, fun z => ?_, h1, repL_kV⟩
      obtain ⟨u, hu, _, _, n, _⟩ := w.there z
      rw [h1] at hu; cases hu
      exact n _ rfl
theorem c_list (m : Bool) (C : CtxOk g N sc L Wx X) : CallR X (.type "list") (rPn g (pList m)) := CallR.pick fun xs H Q h => by
  obtain ⟨ds, S, μ, w, r, h⟩ := h
  unfold pList at h
  split at h
  · obtain ⟨v, hv', rr⟩ := rep1 r; subst hv'; replace r := rr
    split at h
    · rename_i d _ l e
      obtain ⟨a, rfl, ⟨_, ks, h1, h2⟩ | ⟨z, _⟩⟩ := asD_rep w r e
      · exact ⟨_, call_listD C.calm, a, ks, rfl, h1, PostP.mk h w (keysK h2)⟩
      · cases z
    · rename_i d _ l e
      obtain ⟨a, rfl, ⟨z, _⟩ | ⟨_, ks, h1, h2⟩⟩ := asD_rep w r e
      · cases z
      · exact ⟨_, call_list_dT C.calm, a, ks, rfl, h1, fun p bs hp hb => PostP.mk h w (keysT w h2 hb) p hp⟩
    · exact h.elim
    · split at h
      · rename_i l e
        obtain ⟨p, vs, rfl, h1, q⟩ := asL_rep w r e
        exact ⟨_, call_list_of, p, vs, rfl, .inl (.of h1), PostP.mk h w q⟩
      · split at h
        · rename_i l e
          obtain ⟨p, vs, rfl, h1, q⟩ := asT_rep r e
          exact ⟨_, call_list_of, p, vs, rfl, .inr (by rw [C.K]; exact h1), PostP.mk h w q⟩
        · exact h.elim
  · exact h.elim
/-! sorted -/
def RD (g : G) (H : Hp) (μ : List Addr) (v : Value) (d : D) : Prop := ∃ x, RelV x v ∧ Rep g H μ d x
theorem each_of : ∀ {vs : List V} {us : List Value} {ds : List D}, Vals vs us → RepL g H μ ds vs → PySem.W.EachIs (RD g H μ) us ds
  | _, _, [], .nil, r => .nil
  | _, _, d :: ds, .nil, r => by simp only [RepL] at r; obtain ⟨_, _, e, _⟩ := r; cases e
  | _, _, [], .cons _ _, r => by simp only [RepL] at r; cases r
  | _, _, d :: ds, .cons h t, r => by
    simp only [RepL] at r
    obtain ⟨v, y, e, q, z⟩ := r
    cases e
    exact .cons ⟨_, h, q⟩ (each_of t z)
theorem of_each : ∀ {us : List Value} {ds : List D}, PySem.W.EachIs (RD g H μ) us ds → ∃ vs, Vals vs us ∧ RepL g H μ ds vs
  | _, _, .nil => ⟨[], .nil, .nil⟩
  | _, _, .cons ⟨x, h, q⟩ t => by
    obtain ⟨vs, h1, h2⟩ := of_each t
    exact ⟨x :: vs, .cons h h1, .cons q h2⟩
theorem pdk_map : ∀ {l : List D} {ps : List PyData}, omap (pd S 58) l = some ps → l.map (pdk S) = ps
  | [], ps, e => by simp [omap] at e; subst e; rfl
  | d :: l, ps, e => by
    obtain ⟨p, q, e1, e2, rfl⟩ := omap_cons e
    rw [List.map_cons, pdk_map e2, pdk, e1]; rfl
theorem pdk_mem : ∀ {l : List D} {ps : List PyData}, omap (pd S 58) l = some ps → ∀ d ∈ l, pd S 58 d = some (pdk S d)
  | [], ps, e, d, hd => by cases hd
  | x :: l, ps, e, d, hd => by
    obtain ⟨p, q, e1, e2, rfl⟩ := omap_cons e
    rcases List.mem_cons.mp hd with rfl | hd
    · rw [pdk, e1]; rfl
    · exact pdk_mem e2 d hd
theorem each_reads {pins : List (Addr × Obj)} {s : Shared} {σ : St} (C : CtxOk g N sc L Wx X) (I : Inv X pins σ H s) (w : W g μ H S) : ∀ {us : List Value} {ds : List D}, PySem.W.EachIs (RD g H μ) us ds → (∀ d ∈ ds, pd S 58 d = some (pdk S d)) → PySem.W.EachIs (fun v d => ∃ as, Reads s.heap v (pdk S d) as ∧ (pdk S d).plain = true) us ds
  | _, _, .nil, _ => .nil
  | _, _, .cons (b := d) ⟨x, h, q⟩ t, hp => by
    refine .cons ?_ (each_reads C I w t fun d hd => hp d (List.mem_cons_of_mem _ hd))
    obtain ⟨d1, _, z⟩ := pd_rep w 58 _ x _ q (hp _ List.mem_cons_self)
    rw [← C.K] at d1
    obtain ⟨as, r⟩ := Dp.reads I _ x _ d1 h
    exact ⟨as, r, z⟩
theorem sortable_of {ps : List PyData} (h : sortable ps = true) : PySem.W.AllAlike ps ∧ PySem.W.Sortable ps := by
  simp only [sortable, Bool.and_eq_true, Bool.or_eq_true, List.all_eq_true] at h
  obtain ⟨⟨h1, h2⟩, h3⟩ := h
  refine ⟨fun d hd d' hd' => h1 d hd d' hd', ?_⟩
  rcases h3 with h3 | h3
  · refine .inl fun d hd => ?_
    have := h3 d hd
    split at this
    · exact ⟨_, _, rfl⟩
    · cases this
  · refine .inr fun d hd => ⟨isNone_ne (by simpa using h2 d hd), fun xs z => ?_⟩
    have := h3 d hd
    rw [z] at this
    cases this
theorem RepL.mem : ∀ {l : List D} {vs : List V}, RepL g H μ l vs → ∀ d ∈ l, ∃ v, Rep g H μ d v
  | [], _, _, d, hd => by cases hd
  | x :: l, vs, r, d, hd => by
    simp only [RepL] at r
    obtain ⟨v, y, rfl, h, t⟩ := r
    rcases List.mem_cons.mp hd with rfl | hd
    · exact ⟨v, h⟩
    · exact RepL.mem t d hd
mutual
theorem reads_out {h : Heap} {x : Addr} (hn : h.get? x = none) : ∀ (d : PyData) (v : Value) (as : List Addr), d.plain = true → Reads h v d as → x ∉ as
  | .none, _, _, _, r => by cases r; simp
  | .bool _, _, _, _, r => by cases r; simp
  | .int _, _, _, _, r => by cases r; simp
  | .str _, _, _, _, r => by cases r; simp
  | .list xs, _, _, p, r => by
    cases r with
    | list h1 h2 h3 h4 =>
      intro z
      rcases List.mem_cons.mp z with z | z
      · subst z; rw [hn] at h1; cases h1
      · exact readsAll_out hn xs _ _ (by simpa [PyData.plain] using p) h4 z
  | .tuple xs, _, _, p, r => by
    cases r with
    | tuple h1 h2 h3 h4 => exact readsAll_out hn xs _ _ (by simpa [PyData.plain] using p) h4
  | .dict kvs, _, _, p, r => by simp [PyData.plain] at p
theorem readsAll_out {h : Heap} {x : Addr} (hn : h.get? x = none) : ∀ (ds : List PyData) (vs : List Value) (as : List Addr), PyData.plainAll ds = true → ReadsAll h vs ds as → x ∉ as
  | [], _, _, _, r => by cases r; simp
  | d :: ds, _, _, p, r => by
    simp only [PyData.plainAll, Bool.and_eq_true] at p
    cases r with
    | cons h1 h2 =>
      intro z
      rcases List.mem_append.mp z with z | z
      · exact reads_out hn d _ _ p.1 h1 z
      · exact readsAll_out hn ds _ _ p.2 h2 z
end
theorem get_size (h : Heap) : h.get? h.objs.size = none := by
  cases e : h.get? h.objs.size with
  | none => rfl
  | some o => exact absurd (Heap.lt_size e) (Nat.lt_irrefl _)
/-- the last steps of sorted over something else than a list: its items stand in acc -/
theorem sort_tail {m : Bool} {pins : List (Addr × Obj)} {s : Shared} {σ : St} {l : List D} {ps : List PyData} {vs : List V} {h' : Heap} {tk : Nat} {acc : Array Value} (C : CtxOk g N sc L Wx X) (w : W g μ H S) (e2 : omap (pd S 58) l = some ps) (hs : sortable ps = true)
    (q : RepL g H μ l vs) (rv : Vals vs acc.toList) (hz : vs.length ≤ sizeLine) (I1 : Inv X pins σ H { s with heap := h', toks := tk }) (h : PostP g μ H (mkL m (sortD S l) S) Q) :
    wpAny (model X.prog X.w) X.A.in1 (do
      let r ← newList acc.toList
      let _ ← holding [r] (call (.builtin "list.sort") [r] [])
      ret r) (fun fin s' => ∃ v, fin = Fin.done (Flow.ret v) ∧ EP X pins σ Q v s') X.xe { s with heap := h', toks := tk } := by
  obtain ⟨a1, a2⟩ := sortable_of hs
  rw [← pdk_map e2] at a1 a2
  have hal : acc.toList.length ≤ sizeLine := by rw [← rv.length]; exact hz
  refine wpAny_bind (wpAny_newList ?_ hal)
  have hoL : (h'.push (seqObj "list" acc.toList.toArray 0)).get? h'.objs.size = some (seqObj "list" acc.toList.toArray 0) := Heap.get?_push_size _ rfl
  have hk : ∀ b u, h'.get? b = some u → (h'.push (seqObj "list" acc.toList.toArray 0)).get? b = some u := fun b u e => Heap.get?_push_of_some _ e
  show wpAny _ _ _ _ _ { s with heap := h'.push (seqObj "list" acc.toList.toArray 0), toks := tk }
  have ea := each_of rv q
  have er : PySem.W.EachIs (fun v d => ∃ as, Reads (h'.push (seqObj "list" acc.toList.toArray 0)) v (pdk S d) as ∧ h'.objs.size ∉ as) acc.toList l :=
    (each_reads C I1 w ea (pdk_mem e2)).mono fun v d ⟨as, r, z⟩ => ⟨as, PyProof.Rows.Reads.keeps hk r, reads_out (get_size h') _ _ _ z r⟩
  refine wpAny_bind (wpAny_holding (PySem.W.list_sort_data (bs := l) (enc := pdk S) (R := RD g H μ) (s := { s with heap := h'.push (seqObj "list" acc.toList.toArray 0), toks := tk }) hoL ea er a1 a2 (by rw [q.length]; exact hz) (fun b hb => ?_) fun out hl ho => ?_))
  · obtain ⟨v, rb⟩ := q.mem b hb
    obtain ⟨_, n, _⟩ := pd_rep w 58 b v _ rb (pdk_mem e2 b hb)
    have := C.units
    show X.A.units + 1 + 1 + _ < _
    omega
  · obtain ⟨vs', h3, h4⟩ := of_each ho
    obtain ⟨e', he'⟩ := PyProof.Rows.sortedHeap_at (vs := acc.toList) (out := out.toArray) hoL
    have hlen : vs'.length ≤ sizeLine := by
      rw [← h4.length, List.length_mergeSort, q.length]; exact hz
    refine wpAny_pure ⟨_, rfl, .ref h'.objs.size, upd H h'.objs.size (.lst vs'), I1.laid (t' := tk) (fun b u e => ?_) (Nat.le_refl _)
      (show ObjOk X.prog X.w _ _ _ (.lst vs') from ⟨hlen, out, e', h3, he'⟩), rfl, PostP.mk h w h4 _ (I1.hok.fresh (Nat.le_refl _))⟩
    have hb : b < h'.objs.size := Heap.lt_size e
    rw [PyProof.Rows.sortedHeap_old (Nat.ne_of_lt hb) (by rw [size_push']; exact Nat.lt_succ_of_lt hb)]
    exact Heap.get?_push_of_some _ e
theorem c_sorted (m : Bool) (C : CtxOk g N sc L Wx X) : CallR X (.builtin "sorted") (rPn g (pSorted m)) := by
  intro pins s σ H xs us Q I rv h
  obtain ⟨ds, S, μ, w, r, h⟩ := h
  unfold pSorted at h
  split at h
  · obtain ⟨v, hv', rr⟩ := rep1 r; subst hv'; replace r := rr
    obtain ⟨u, hu', ru⟩ := vals1 rv; subst hu'
    split at h
    · rename_i d l e
      split at h
      · rename_i ps e2
        obtain ⟨hs, h⟩ := ite_none h
        unfold itemsOf at e
        split at e
        · rename_i l0 e0
          cases e
          obtain ⟨a, hv2, ⟨_, ks, h1, h2⟩ | ⟨z, _⟩⟩ := asD_rep w r e0
          · subst hv2
            cases ru
            obtain ⟨z, lo, vs, rel, dd⟩ := dk_rd I.hok h1
            obtain ⟨ep, hat⟩ := dd.dictAt
            have h16 : vs.length ≤ sizeLine := by rw [← rel.length]; exact z
            refine Calls.call_function_entry PyProof.Rows.kind_sorted PyProof.Rows.plain_sorted PyProof.Rows.entry_sorted (PyProof.Rows.args_sorted1 _) ?_
            unfold Builtin.«sorted»
            refine wpAny_bind (m := PySem.checkCount "sorted" 1 1 _) (wpAny_pure ?_)
            refine wpAny_bind (PySem.W.kdu_collect (A := X.A.in1) (PySem.W.kdl_dict (knd := mixKind X.prog X.w) (kvs := vs) (ep := ep) lo) (I.ok.hd C.calm) hat h16 fun h' tk acc hk hacc => ?_)
            have hkv : Vals (vs.map fun p => kV p.1) acc.toList := keys_at (by rw [Array.length_toList, hacc.1]) fun j v e => by
              obtain ⟨k, x, e1, e2⟩ := hacc.2 j v (by rw [← Array.getElem?_toList]; exact e)
              exact ⟨k, x, e1, e2⟩
            have em : (vs.map fun p => kV p.1) = ks.map fun kv => kV kv.1 := by
              have e3 : (vs.map fun p => kV p.1) = (vs.map (·.1)).map kV := by rw [List.map_map]; rfl
              have e4 : (ks.map fun kv => kV kv.1) = (ks.map (·.1)).map kV := by rw [List.map_map]; rfl
              rw [e3, e4, rel.keys]
            rw [em] at hkv
            have I1 : Inv X pins σ H { s with heap := h', toks := tk } := I.kept hk
            exact sort_tail C w e2 hs (keysK h2) hkv (by rw [List.length_map]; exact z) I1 h
          · cases z
        · rename_i l0 e0
          cases e
          obtain ⟨a, hv2, ⟨z, _⟩ | ⟨_, kts, h1, h2⟩⟩ := asD_rep w r e0
          · cases z
          subst hv2
          cases ru
          obtain ⟨z, lo, ks, pr, o, es, ep, ho, hx, hdt, he, hn⟩ := (show ObjOk X.prog X.w H s.heap a (.dT kts) from h1.ok I.hok)
          have l1 : es.size = ks.length := size_of_entries he
          have l2 : kts.length = ks.length := Paired.length pr
          refine Calls.call_function_entry PyProof.Rows.kind_sorted PyProof.Rows.plain_sorted PyProof.Rows.entry_sorted (PyProof.Rows.args_sorted1 _) ?_
          unfold Builtin.«sorted»
          refine wpAny_bind (m := PySem.checkCount "sorted" 1 1 _) (wpAny_pure ?_)
          refine wpAny_bind (PySem.W.kdu_collect (A := X.A.in1) (kdl_raw lo hx hdt) (I.ok.hd C.calm) ho (by omega) fun h' tk acc' hk it => ?_)
          have ea : acc'.toList = ks.map fun x => Value.ref x.2.1 := by
            have hl : acc'.toList.length = ks.length := by rw [Array.length_toList, it.1]; exact l1
            apply List.ext_getElem?
            intro j
            rw [List.getElem?_map]
            cases hj : acc'.toList[j]? with
            | none =>
              have h1 := List.getElem?_eq_none_iff.mp hj
              rw [List.getElem?_eq_none (by omega)]
              all_goals rfl
            | some v =>
              obtain ⟨en, hen, hv⟩ := it.2 j v (by rw [← Array.getElem?_toList]; exact hj)
              have qe := entry_at he j
              rw [hen] at qe
              cases hb : ks[j]? with
              | none =>
                rw [hb] at qe
                exact nomatch (show some en = none from qe)
              | some b =>
                rw [hb] at qe
                have e2 : en = entryOfKey (tupleKind (mixKind X.prog X.w)) b := Option.some.inj qe
                rw [hv, e2]
                all_goals rfl
          have eb : acc'.toList = (ks.map fun x => x.2.1).map Value.ref := by rw [ea, List.map_map]; all_goals rfl
          have rv : Vals ((ks.map fun x => x.2.1).map V.ref) acc'.toList := by rw [eb]; exact vals_refs _
          have hz : ((ks.map fun x => x.2.1).map V.ref).length ≤ sizeLine := by rw [List.length_map, List.length_map]; omega
          have I1 : Inv X pins σ H { s with heap := h', toks := tk } := I.kept hk
          exact sort_tail C w e2 hs (keysT w h2 (isKeys_of pr)) rv hz I1 h
        · cases e
        · obtain ⟨p, vs, hv2, h1, q⟩ := asL_rep w r e
          subst hv2
          cases ru
          obtain ⟨its, rv2, pl, hz⟩ := I.list (SqL.of h1)
          obtain ⟨a1, a2⟩ := sortable_of hs
          rw [← pdk_map e2] at a1 a2
          have ea := each_of rv2 q
          refine PySem.W.sorted_data (bs := l) (enc := pdk S) (R := RD g H μ) pl.isList ea ((each_reads C I w ea (pdk_mem e2)).mono fun _ _ ⟨as, r, _⟩ => ⟨as, r⟩) a1 a2 (by rw [q.length]; exact hz) (fun b hb => ?_) fun out hl ho => ?_
          · obtain ⟨v, rb⟩ := q.mem b hb
            obtain ⟨_, n, _⟩ := pd_rep w 58 b v _ rb (pdk_mem e2 b hb)
            have := C.units
            omega
          · obtain ⟨vs', h3, h4⟩ := of_each ho
            obtain ⟨ep, he'⟩ := PyProof.Rows.sortedAll_at s.heap its out.toArray
            have hlen : vs'.length ≤ sizeLine := by
              rw [← h4.length, List.length_mergeSort, q.length]; exact hz
            exact ⟨.ref _, upd H (s.heap.objs.size + 1) (.lst vs'), I.laid (t' := s.toks) (fun _ _ => PyProof.Rows.sortedAll_old) (Nat.le_succ _) ⟨hlen, out, ep, h3, he'⟩, rfl, PostP.mk h w h4 _ (I.hok.fresh (Nat.le_succ _))⟩
      · exact h.elim
    · exact h.elim
  · exact h.elim
end
end Gp

set_option Elab.async false
set_option linter.all false
set_option maxRecDepth 100000
/-! Gp9: statements -/
namespace Gp
open PySem PySem.Spec L2
open PyProof.Rows hiding St

def tGS (g : G) (Wx : WX) (m : GS) : TS := fun D σ H => ∃ ρ S μ, EnvOk g H μ ρ σ ∧ W g μ H S ∧ PostS g Wx μ H (m ρ S) D
structure CtxS (g : G) (N : List Str) (sc : Scope) (L : Nat) (Wx : WX) (X : Cx) : Prop extends CtxOk g N sc L Wx X where
  fn : ∀ x, X.fn x = true
  stk : X.stack = X.env :: X.outer
  frm : X.env.frame = some X.env.locals
def RealS (g : G) (N : List Str) (sc : Scope) (L : Nat) (st : Stmt) (m : GS) : Prop := ∀ Wx X, CtxS g N sc L Wx X → PS X st (tGS g Wx m)
def RealSs (g : G) (N : List Str) (sc : Scope) (L : Nat) (st : List Stmt) (m : GS) : Prop := ∀ Wx X, CtxS g N sc L Wx X → PSs X st (tGS g Wx m)
theorem _root_.L2.PS.weak {X : Cx} {e : Stmt} {t t' : TS} (h : PS X e t) (k : ∀ D σ H, t' D σ H → t D σ H) : PS X e t' := ⟨fun pins s σ H D I q => h.run pins s σ H D I (k D σ H q)⟩
theorem _root_.L2.PSs.weak {X : Cx} {e : List Stmt} {t t' : TS} (h : PSs X e t) (k : ∀ D σ H, t' D σ H → t D σ H) : PSs X e t' := ⟨fun pins s σ H D I q => h.run pins s σ H D I (k D σ H q)⟩
section
variable {g : G} {μ μ' : List Addr} {H H' : Hp} {S : Sto} {ρ : Ev} {σ : St} {Wx : WX} {Ed : Ends}
theorem PostS.seq {r : RS} {f : Ev → Sto → RS} {K : St → Hp → Prop} (h : PostS g Wx μ H (r.thn f) Ed)
    (k : ∀ ρ1 S1 σ1 H1 μ1, Grow μ H μ1 H1 → W g μ1 H1 S1 → EnvOk g H1 μ1 ρ1 σ1 → PostS g Wx μ1 H1 (f ρ1 S1) Ed → K σ1 H1) : PostS g Wx μ H r { Ed with nx := K } := by
  cases r with
  | nx ρ1 S1 => exact fun σ1 H1 μ1 g1 w1 e1 => k ρ1 S1 σ1 H1 μ1 g1 w1 e1 (PostS.later (r := f ρ1 S1) h g1)
  | rt ρ S => exact h
  | bk ρ S => exact h
  | ct ρ S => exact h
  | exc c ρ S => exact h
  | bad => exact h
end
def sNil : GS := fun ρ S => .nx ρ S
def sSeq (a b : GS) : GS := fun ρ S => (a ρ S).thn b
def sExpr (a : GE) : GS := fun ρ S => (a ρ S).thn ρ fun _ S1 => .nx ρ S1
def sRet (a : GE) : GS := fun ρ S => (a ρ S).thn ρ fun d S1 => .rt d S1
def sRetN : GS := fun _ S => .rt .non S
def sBreak : GS := fun ρ S => .bk ρ S
def sCont : GS := fun ρ S => .ct ρ S
def sIf (c : GE) (a b : GS) : GS := fun ρ S => (c ρ S).thn ρ fun d S1 => match d with
  | .bl true => a ρ S1
  | .bl false => b ρ S1
  | _ => .bad
/-- targets -/
abbrev GT := D → Ev → Sto → RS
abbrev GTs := List D → Ev → Sto → RS
def tName (i : Nat) : GT := fun d ρ S => .nx (ρ.set i (some d)) S
def tsNil : GTs := fun ds ρ S => match ds with
  | [] => .nx ρ S
  | _ => .bad
def tsCons (t : GT) (u : GTs) : GTs := fun ds ρ S => match ds with
  | [] => .bad
  | d :: r => (t d ρ S).thn fun ρ1 S1 => u r ρ1 S1
def tTupl (n : Nat) (t : GTs) : GT := fun d ρ S => match asT d with
  | some l => if l.length = n then t l ρ S else .bad
  | none => .bad
/-- a store to a place, an attribute -/
abbrev PrS := D → D → D → Sto → Option Sto
def tSub (p : PrS) (o i : GE) : GT := fun d ρ S => (o ρ S).thn ρ fun x S1 => (i ρ S1).thn ρ fun y S2 => match p x y d S2 with
  | some S3 => .nx ρ S3
  | none => .bad
def sAsg (a : GE) (t : GT) : GS := fun ρ S => (a ρ S).thn ρ fun d S1 => t d ρ S1
def setL (l : List D) (i : Int) (d : D) : Option (List D) := (ixN l.length i).map fun j => l.set j d
def pSet : PrS := fun x y d S => match x with
  | .ref n => match S[n]? with
    | some (.lst l) => match y with
      | .int i => (setL l i d).map fun l' => S.set n (.lst l')
      | _ => none
    | some (.dict k false l) => if keyOk k y = true ∧ l.length < sizeLine then some (S.set n (.dict k false (dput l y d))) else none
    | _ => none
  | _ => none
def setA (cl : List Str) (f : Str) (x d : D) (S : Sto) : Option Sto := match x with
  | .ref n => match S[n]? with
    | some (.obj c fs) => if c ∈ cl ∧ fs.length < 1000 then some (S.set n (.obj c (putD f d fs))) else none
    | _ => none
  | _ => none
def sAttr (cl : List Str) (f : Str) (v o : GE) : GS := fun ρ S => (v ρ S).thn ρ fun d S1 => (o ρ S1).thn ρ fun x S2 => match setA cl f x d S2 with
  | some S3 => .nx ρ S3
  | none => .bad
def sRaise (c : Str) : GS := fun ρ S => .exc c ρ S
def RealG (g : G) (N : List Str) (sc : Scope) (L : Nat) (fk : Str → Bool) (tg : Expr) (t : GT) : Prop := ∀ Wx X, CtxOk g N sc L Wx X → (∀ x, fk x = true → X.fn x = true) → PG X tg (fun v σ H Q => ∃ d ρ S μ Ed, EnvOk g H μ ρ σ ∧ W g μ H S ∧ Rep g H μ d v ∧ PostS g Wx μ H (t d ρ S) Ed ∧ ∀ σ' H', Ed.nx σ' H' → Q σ' H')
def RealGs (g : G) (N : List Str) (sc : Scope) (L : Nat) (fk : Str → Bool) (tg : List Expr) (t : GTs) : Prop := ∀ Wx X, CtxOk g N sc L Wx X → (∀ x, fk x = true → X.fn x = true) → PGs X tg (fun v σ H Q => ∃ d ρ S μ Ed, EnvOk g H μ ρ σ ∧ W g μ H S ∧ RepL g H μ d v ∧ PostS g Wx μ H (t d ρ S) Ed ∧ ∀ σ' H', Ed.nx σ' H' → Q σ' H')
theorem _root_.L2.PG.weak {X : Cx} {e : Expr} {t t' : TG} (h : PG X e t) (k : ∀ v σ H Q, t' v σ H Q → t v σ H Q) : PG X e t' := ⟨fun pins s σ H v u Q I r q => h.run pins s σ H v u Q I r (k v σ H Q q)⟩
theorem _root_.L2.PGs.weak {X : Cx} {e : List Expr} {t t' : TGs} (h : PGs X e t) (k : ∀ v σ H Q, t' v σ H Q → t v σ H Q) : PGs X e t' := ⟨fun pins s σ H v u Q I r q => h.run pins s σ H v u Q I r (k v σ H Q q)⟩
section
variable {g : G} {N : List Str} {sc : Scope} {L : Nat} {a b c e : Expr} {ma mb mc m : GE} {pos p pos' : Pos} {st : Stmt} {rest : List Stmt} {ms mr : GS} {fk : Str → Bool}
variable {μ : List Addr} {H : Hp} {S : Sto}
theorem rs_nil : RealSs g N sc L [] sNil := fun Wx X C => pss_nil.weak fun D σ H ⟨ρ, S, μ, he, hw, h⟩ => h σ H μ (.refl _ _) hw he
theorem rs_cons (h1 : RealS g N sc L st ms) (h2 : RealSs g N sc L rest mr) : RealSs g N sc L (st :: rest) (sSeq ms mr) := by
  intro Wx X C
  refine (pss_cons (h1 Wx X C) (h2 Wx X C)).weak ?_
  rintro D σ H ⟨ρ, S, μ, he, hw, h⟩
  exact ⟨ρ, S, μ, he, hw, h.seq fun ρ1 S1 σ1 H1 μ1 g1 w1 e1 h1 => ⟨ρ1, S1, μ1, e1, w1, h1⟩⟩
theorem rs_one (h1 : RealS g N sc L st ms) : RealSs g N sc L [st] ms := fun Wx X C => pss_one (h1 Wx X C)
theorem rs_pass : RealS g N sc L (.Pass pos) sNil := fun Wx X C => ps_pass.weak fun D σ H ⟨ρ, S, μ, he, hw, h⟩ => h σ H μ (.refl _ _) hw he
theorem rs_break : RealS g N sc L (.Break pos) sBreak := fun Wx X C => ps_break.weak fun D σ H ⟨ρ, S, μ, he, hw, h⟩ => h σ H μ (.refl _ _) hw he
theorem rs_cont : RealS g N sc L (.Continue pos) sCont := fun Wx X C => ps_continue.weak fun D σ H ⟨ρ, S, μ, he, hw, h⟩ => h σ H μ (.refl _ _) hw he
theorem rs_expr (ha : Real g N sc L a ma) (hs : ∀ env : Env, swapsWith a none pos.line env = pure false) : RealS g N sc L (.Expr a pos) (sExpr ma) := by
  intro Wx X C
  refine (ps_expr (ha Wx X C.toCtxOk) (hs X.env)).weak ?_
  rintro D σ H ⟨ρ, S, μ, he, hw, h⟩
  exact ⟨ρ, S, μ, he, hw, h.ex he fun d S1 v H1 μ1 g1 w1 r1 h1 => h1 σ H1 μ1 (.refl _ _) w1 (he.mono g1)⟩
theorem rs_ret (ha : Real g N sc L a ma) : RealS g N sc L (.Return (some a) pos) (sRet ma) := by
  intro Wx X C
  refine (ps_ret (ha Wx X C.toCtxOk)).weak ?_
  rintro D σ H ⟨ρ, S, μ, he, hw, h⟩
  exact ⟨ρ, S, μ, he, hw, h.ex he fun d S1 v H1 μ1 g1 w1 r1 h1 => h1 v H1 μ1 (.refl _ _) w1 r1⟩
theorem rs_retN : RealS g N sc L (.Return none pos) sRetN := fun Wx X C => ps_retN.weak fun D σ H ⟨ρ, S, μ, he, hw, h⟩ => h .non H μ (.refl _ _) hw (by simp [Rep])
theorem rs_if {sa sb : List Stmt} (hc : RealT g N sc L c mc) (ha : RealSs g N sc L sa ms) (hb : RealSs g N sc L sb mr) : RealS g N sc L (.If c sa sb pos) (sIf mc ms mr) := by
  intro Wx X C
  refine (ps_if (hc Wx X C.toCtxOk) (ha Wx X C) (hb Wx X C)).weak ?_
  rintro D σ H ⟨ρ, S, μ, he, hw, h⟩
  refine ⟨ρ, S, μ, he, hw, h.ex he fun d S1 v H1 μ1 g1 w1 r1 h1 => ?_⟩
  split at h1
  · exact ⟨true, by simpa only [Rep] using r1, by show (if true = true then _ else _); rw [if_pos rfl]; exact ⟨ρ, S1, μ1, he.mono g1, w1, h1⟩⟩
  · exact ⟨false, by simpa only [Rep] using r1, by show (if false = true then _ else _); rw [if_neg (by simp)]; exact ⟨ρ, S1, μ1, he.mono g1, w1, h1⟩⟩
  · exact h1.elim

/-! ### targets -/
theorem rg_name {i : Nat} {x : Str} (hN : N.Nodup) (hi : N[i]? = some x) (hx : Loc sc x) (hf : fk x = true ∨ sc.names.lookup x = some .local) : RealG g N sc L fk (.Name x pos) (tName i) := by
  intro Wx X C F
  refine (pg_name (i := i) (by rw [C.N]; exact hN) (by rw [C.N]; exact hi) (by rw [C.sc]; exact hx) (hf.elim (fun z => .inl (F x z)) fun z => .inr (by rw [C.sc]; exact z))).weak ?_
  rintro v σ H Q ⟨d, ρ, S, μ, Ed, he, hw, r, h, hQ⟩
  exact hQ _ _ (h _ H μ (.refl _ _) hw (he.set1 r))
theorem rgs_nil : RealGs g N sc L fk [] tsNil := by
  intro Wx X C F
  refine pgs_nil.weak ?_
  rintro v σ H Q ⟨d, ρ, S, μ, Ed, he, hw, r, h, hQ⟩
  unfold tsNil at h
  split at h
  · simp only [RepL] at r
    exact ⟨r, hQ _ _ (h σ H μ (.refl _ _) hw he)⟩
  · exact h.elim
theorem rgs_cons {es : List Expr} {t : GT} {u : GTs} (h1 : RealG g N sc L fk e t) (h2 : RealGs g N sc L fk es u)
    (hs : ∀ env : Env, (assignEach (e :: es) env).map (·.2) = assign e env :: (assignEach es env).map (·.2)) : RealGs g N sc L fk (e :: es) (tsCons t u) := by
  intro Wx X C F
  refine (pgs_cons (h1 Wx X C F) (h2 Wx X C F) (hs X.env)).weak ?_
  rintro v σ H Q ⟨d, ρ, S, μ, Ed, he, hw, r, h, hQ⟩
  unfold tsCons at h
  split at h
  · exact h.elim
  · rename_i x ds
    simp only [RepL] at r
    obtain ⟨vx, vr, rfl, q1, q2⟩ := r
    refine ⟨vx, vr, rfl, x, ρ, S, μ, _, he, hw, q1, h.seq fun ρ1 S1 σ1 H1 μ1 g1 w1 e1 h1 => ⟨ds, ρ1, S1, μ1, Ed, e1, w1, q2.mono g1, h1, hQ⟩, fun _ _ z => z⟩
theorem rg_tup {es : List Expr} {k : Nat} {u : GTs} {n : Nat} (h : RealGs g N sc L fk es u) (hn : ∀ env : Env, (assignEach es env).length = n) (hst : ∀ env : Env, (assignEach es env).findIdx? (·.1) = none) :
    RealG g N sc L fk (.Tuple es k pos) (tTupl n u) := by
  intro Wx X C F
  refine (pg_tup C.calm (h Wx X C F) (hn X.env) (hst X.env)).weak ?_
  rintro v σ H Q ⟨d, ρ, S, μ, Ed, he, hw, r, h, hQ⟩
  unfold tTupl at h
  split at h
  · rename_i l e
    split at h
    · rename_i hl
      obtain ⟨a, vs, rfl, h1, q⟩ := asT_rep r e
      exact ⟨a, vs, rfl, by rw [C.K]; exact h1, by rw [← q.length]; exact hl, l, ρ, S, μ, Ed, he, hw, q, h, hQ⟩
    · exact h.elim
  · exact h.elim
theorem tsNil_bad {ds : List D} {ρ : Ev} {S : Sto} (h : ds.length ≠ 0) : tsNil ds ρ S = .bad := by
  cases ds with
  | nil => exact absurd rfl h
  | cons => rfl
/-! stores -/
theorem anyK {k : Key} : ∀ {l : List (D × D)} {ks : List (Key × V)}, RepK g H μ l ks → (l.any fun p => decide (p.1 = kD k)) = (ks.any fun kv => decide (kv.1 = k))
  | [], ks, h => by simp only [RepK] at h; subst h; rfl
  | p :: l, ks, h => by
    simp only [RepK] at h
    obtain ⟨j, u, t, rfl, e, q, z⟩ := h
    rw [List.any_cons, List.any_cons, anyK z, e]
    congr 1
    by_cases hj : j = k
    · subst hj; simp
    · rw [decide_eq_false hj, decide_eq_false fun y => hj (kD_inj y)]
theorem anyT {k : List Key} : ∀ {l : List (D × D)} {ks : List (List Key × V)}, RepT g H μ l ks → (l.any fun p => decide (p.1 = tD k)) = (ks.any fun kv => decide (kv.1 = k))
  | [], ks, h => by simp only [RepT] at h; subst h; rfl
  | p :: l, ks, h => by
    simp only [RepT] at h
    obtain ⟨j, u, t, rfl, e, q, z⟩ := h
    rw [List.any_cons, List.any_cons, anyT z, e]
    congr 1
    by_cases hj : j = k
    · subst hj; simp
    · rw [decide_eq_false hj, decide_eq_false fun y => hj (tD_inj y)]
theorem mapK {k : Key} {d : D} {v : V} (r : Rep g H μ d v) : ∀ {l : List (D × D)} {ks : List (Key × V)}, RepK g H μ l ks → RepK g H μ (l.map fun p => if p.1 = kD k then (p.1, d) else p) (ks.map fun kv => if kv.1 = k then (kv.1, v) else kv)
  | [], ks, h => by simp only [RepK] at h; subst h; simp [RepK]
  | p :: l, ks, h => by
    simp only [RepK] at h
    obtain ⟨j, u, t, rfl, e, q, z⟩ := h
    rw [List.map_cons, List.map_cons]
    by_cases hj : j = k
    · subst hj
      rw [if_pos e, if_pos rfl]
      simp only [RepK]
      exact ⟨j, v, _, rfl, e, r, mapK r z⟩
    · rw [if_neg (fun y => hj (kD_inj (e.symm.trans y))), if_neg hj]
      simp only [RepK]
      exact ⟨j, u, _, rfl, e, q, mapK r z⟩
theorem mapT {k : List Key} {d : D} {v : V} (r : Rep g H μ d v) : ∀ {l : List (D × D)} {ks : List (List Key × V)}, RepT g H μ l ks → RepT g H μ (l.map fun p => if p.1 = tD k then (p.1, d) else p) (ks.map fun kv => if kv.1 = k then (kv.1, v) else kv)
  | [], ks, h => by simp only [RepT] at h; subst h; simp [RepT]
  | p :: l, ks, h => by
    simp only [RepT] at h
    obtain ⟨j, u, t, rfl, e, q, z⟩ := h
    rw [List.map_cons, List.map_cons]
    by_cases hj : j = k
    · subst hj
      rw [if_pos e, if_pos rfl]
      simp only [RepT]
      exact ⟨j, v, _, rfl, e, r, mapT r z⟩
    · rw [if_neg (fun y => hj (tD_inj (e.symm.trans y))), if_neg hj]
      simp only [RepT]
      exact ⟨j, u, _, rfl, e, q, mapT r z⟩
theorem snocK {k : Key} {d : D} {v : V} (r : Rep g H μ d v) : ∀ {l : List (D × D)} {ks : List (Key × V)}, RepK g H μ l ks → RepK g H μ (l ++ [(kD k, d)]) (ks ++ [(k, v)])
  | [], ks, h => by simp only [RepK] at h; subst h; simp only [List.nil_append, RepK]; exact ⟨k, v, [], rfl, rfl, r, rfl⟩
  | p :: l, ks, h => by
    simp only [RepK] at h
    obtain ⟨j, u, t, rfl, e, q, z⟩ := h
    simp only [List.cons_append, RepK]
    exact ⟨j, u, _, rfl, e, q, snocK r z⟩
theorem snocT {k : List Key} {d : D} {v : V} (r : Rep g H μ d v) : ∀ {l : List (D × D)} {ks : List (List Key × V)}, RepT g H μ l ks → RepT g H μ (l ++ [(tD k, d)]) (ks ++ [(k, v)])
  | [], ks, h => by simp only [RepT] at h; subst h; simp only [List.nil_append, RepT]; exact ⟨k, v, [], rfl, rfl, r, rfl⟩
  | p :: l, ks, h => by
    simp only [RepT] at h
    obtain ⟨j, u, t, rfl, e, q, z⟩ := h
    simp only [List.cons_append, RepT]
    exact ⟨j, u, _, rfl, e, q, snocT r z⟩
theorem dputK {k : Key} {d : D} {v : V} {l : List (D × D)} {ks : List (Key × V)} (r : Rep g H μ d v) (h : RepK g H μ l ks) : RepK g H μ (dput l (kD k) d) (putK ks k v) := by
  unfold dput putK
  rw [anyK h]
  by_cases z : (ks.any fun kv => decide (kv.1 = k)) = true
  · rw [if_pos z, if_pos z]; exact mapK r h
  · rw [if_neg z, if_neg z]; exact snocK r h
theorem dputT {k : List Key} {d : D} {v : V} {l : List (D × D)} {ks : List (List Key × V)} (r : Rep g H μ d v) (h : RepT g H μ l ks) : RepT g H μ (dput l (tD k) d) (putK ks k v) := by
  unfold dput putK
  rw [anyT h]
  by_cases z : (ks.any fun kv => decide (kv.1 = k)) = true
  · rw [if_pos z, if_pos z]; exact mapT r h
  · rw [if_neg z, if_neg z]; exact snocT r h
theorem repK_len : ∀ {l : List (D × D)} {ks : List (Key × V)}, RepK g H μ l ks → l.length = ks.length
  | [], ks, h => by simp only [RepK] at h; subst h; rfl
  | p :: l, ks, h => by simp only [RepK] at h; obtain ⟨_, _, t, rfl, _, _, z⟩ := h; simp [repK_len z]
theorem repT_len : ∀ {l : List (D × D)} {ks : List (List Key × V)}, RepT g H μ l ks → l.length = ks.length
  | [], ks, h => by simp only [RepT] at h; subst h; rfl
  | p :: l, ks, h => by simp only [RepT] at h; obtain ⟨_, _, t, rfl, _, _, z⟩ := h; simp [repT_len z]
theorem PSet.pick {X : Cx} {r' : TSet} (h : ∀ o i v H Q, r' o i v H Q → ∃ r, PSet X r ∧ r o i v H Q) : PSet X r' := fun pins s σ H o i v ov iv u Q I r1 r2 r3 q => by
  obtain ⟨r, k, z⟩ := h o i v H Q q
  exact k pins s σ H o i v ov iv u Q I r1 r2 r3 z
def rSetP (g : G) (p : PrS) : TSet := fun o i v H Q => ∃ x y d S μ, W g μ H S ∧ Rep g H μ x o ∧ Rep g H μ y i ∧ Rep g H μ d v ∧ match p x y d S with
  | some S' => ∀ H', Grow μ H μ H' → W g μ H' S' → Q H'
  | none => False
theorem p_set {Wx : WX} {X : Cx} (C : CtxOk g N sc L Wx X) : PSet X (rSetP g pSet) := PSet.pick fun o i v H Q h => by
  obtain ⟨x, y, d, S, μ, w, r1, r2, r3, h⟩ := h
  unfold pSet at h
  split at h
  · rename_i S' e
    split at e
    · rename_i n
      split at e
      · rename_i l hs
        obtain ⟨a, rfl, ha, hm, vs, h1, q⟩ := w.ref r1 hs
        split at e
        · rename_i j
          simp only [Rep] at r2
          subst r2
          simp only [setL, Option.map_map, Option.map_eq_some_iff] at e
          obtain ⟨k, ek, rfl⟩ := e
          refine ⟨_, set_list, a, vs, j, k, rfl, rfl, h1, by rw [← q.length]; exact ek, h _ (grow_set hm h1 (by simp)) (w.set ha ⟨_, upd_same, (q.set k r3).mono (grow_set hm h1 (by simp))⟩)⟩
        · cases e
      · rename_i k l hs
        obtain ⟨a, rfl, ha, hm, u, h1, q⟩ := w.ref r1 hs
        rw [if_neg (by simp)] at q
        split at e
        · rename_i hk
          cases e
          rcases h1 with ⟨hk0, ks, rfl, z⟩ | ⟨hk0, ks, rfl, z⟩
          · subst hk0
            obtain ⟨j, rfl, rfl⟩ := keyOk0 hk.1 r2
            refine ⟨_, set_dict C.hu, a, _, rfl, DPut.k q (by rw [← repK_len z]; exact hk.2), h _ (grow_set hm q (by simp)) (w.set ha ⟨_, .inl ⟨rfl, _, rfl, (dputK r3 z).mono (grow_set hm q (by simp))⟩, by rw [if_neg (by simp)]; exact upd_same⟩)⟩
          · subst hk0
            obtain ⟨j, b, rfl, rfl, hb⟩ := keyOk1 hk.1 r2
            refine ⟨_, set_dict C.hu, a, _, rfl, DPut.t q hb (by rw [← repT_len z]; exact hk.2), h _ (grow_set hm q (by simp)) (w.set ha ⟨_, .inr ⟨rfl, _, rfl, (dputT r3 z).mono (grow_set hm q (by simp))⟩, by rw [if_neg (by simp)]; exact upd_same⟩)⟩
        · cases e
      · cases e
    · cases e
  · exact h.elim
theorem rg_sub {o i : Expr} {mo mi : GE} (ho : Real g N sc L o mo) (hi : Real g N sc L i mi)
    (ha : ∀ (env : Env) v, assign (.Subscript o i pos) env v = (do
      let ov ← holding [v] (eval o env)
      let iv ← holding [v, ov] (eval i env)
      standAt pos
      holding [v, ov, iv] (setItem ov iv v)
      release [v, ov, iv] [])) : RealG g N sc L fk (.Subscript o i pos) (tSub pSet mo mi) := by
  intro Wx X C F
  refine (pg_sub (ho Wx X C) (hi Wx X C) (p_set C) (ha X.env)).weak ?_
  rintro v σ H Q ⟨d, ρ, S, μ, Ed, he, hw, r, h, hQ⟩
  refine ⟨ρ, S, μ, he, hw, h.ex he fun x S1 vx H1 μ1 g1 w1 r1 h1 => ⟨ρ, S1, μ1, he.mono g1, w1, h1.ex (he.mono g1) fun y S2 vy H2 μ2 g2 w2 r2 h2 => ?_⟩⟩
  refine ⟨x, y, d, S2, μ2, w2, r1.mono g2, r2, (r.mono g1).mono g2, ?_⟩
  split at h2
  · exact fun H' gr w' => hQ _ _ (h2 σ H' μ2 gr w' (((he.mono g1).mono g2).mono gr))
  · exact h2.elim
theorem rs_asg {tg : Expr} {t : GT} (ha : Real g N sc L a ma) (hg : RealG g N sc L (fun _ => true) tg t) (hs : ∀ env : Env, env.scope = sc → swapsWithSole [tg] a pos.line env = pure false) (hw : ∀ env : Env, env.scope = sc → swappedStores [tg] a env = pure none)
    (h1 : ∀ env : Env, (assignEach [tg] env).map (·.2) = [assign tg env]) : RealS g N sc L (.Assign [tg] a pos) (sAsg ma t) := by
  intro Wx X C
  refine (ps_asg (ha Wx X C.toCtxOk) (hg Wx X C.toCtxOk fun x _ => C.fn x) (hs X.env C.sc) (hw X.env C.sc) (h1 X.env)).weak ?_
  rintro D σ H ⟨ρ, S, μ, he, hw, h⟩
  exact ⟨ρ, S, μ, he, hw, h.ex he fun d S1 v H1 μ1 g1 w1 r1 h1 => ⟨d, ρ, S1, μ1, D, he.mono g1, w1, r1, h1, fun _ _ z => z⟩⟩
/-- a, b = x, y with plain local names -/
def sPar (is : List Nat) (l : List GE) : GS := fun ρ S => gArgsS l ρ S fun ds S1 => if ds.length = is.length then .nx ((is.zip ds).foldl (fun r p => r.set p.1 (some p.2)) ρ) S1 else .bad
theorem rs_par2 {i j : Nat} {x y : Str} {ea eb : Expr} {l : List GE} {px py pt : Pos} {kt k2 pt2} (hN : N.Nodup) (hi : N[i]? = some x) (hj : N[j]? = some y) (hij : i ≠ j) (hx : sc.names.lookup x = some .local) (hy : sc.names.lookup y = some .local)
    (ha : RealA g N sc L [ea, eb] l) (hw : ∀ env : Env, env.scope = sc → swappedStores [.Tuple [.Name x px, .Name y py] kt pt] (.Tuple [ea, eb] k2 pt2) env = pure (some [x, y]))
    (hs : ∀ env : Env, env.scope = sc → swapsWithSole [.Tuple [.Name x px, .Name y py] kt pt] (.Tuple [ea, eb] k2 pt2) pos.line env = pure false) :
    RealS g N sc L (.Assign [.Tuple [.Name x px, .Name y py] kt pt] (.Tuple [ea, eb] k2 pt2) pos) (sPar [i, j] l) := by
  intro Wx X C
  refine (ps_par (i := i) (j := j) C.calm (by rw [C.N]; exact hN) (by rw [C.N]; exact hi) (by rw [C.N]; exact hj) hij (by rw [C.sc]; exact hx) (by rw [C.sc]; exact hy) (ha.s Wx X C.toCtxOk) (hw X.env C.sc) (hs X.env C.sc)).weak ?_
  rintro D σ H ⟨ρ, S, μ, he, hw, h⟩
  refine ⟨ρ, S, μ, he, hw, _, D, h, fun ds S1 vs H1 μ1 g1 w1 r1 h1 => ?_⟩
  split at h1
  · rename_i hl
    match ds, hl with
    | [d1, d2], _ =>
      obtain ⟨v, u, rfl, q1, q2⟩ := rep2 r1
      exact ⟨v, u, rfl, h1 _ H1 μ1 (.refl _ _) w1 (((he.mono g1).set1 q1).set1 q2)⟩
  · exact h1.elim
theorem rep3 {d e f : D} {vs : List V} (r : RepL g H μ [d, e, f] vs) : ∃ v u w, vs = [v, u, w] ∧ Rep g H μ d v ∧ Rep g H μ e u ∧ Rep g H μ f w := by
  simp only [RepL] at r
  obtain ⟨v, y, rfl, h, u, z, rfl, h2, w, t, rfl, h3, rfl⟩ := r
  exact ⟨v, u, w, rfl, h, h2, h3⟩
theorem rs_par3 {i j k : Nat} {x y z : Str} {ea eb ec : Expr} {l : List GE} {px py pz pt : Pos} {kt k2 pt2} (hN : N.Nodup) (hi : N[i]? = some x) (hj : N[j]? = some y) (hk : N[k]? = some z) (hij : i ≠ j) (hik : i ≠ k) (hjk : j ≠ k)
    (hx : sc.names.lookup x = some .local) (hy : sc.names.lookup y = some .local) (hz : sc.names.lookup z = some .local)
    (ha : RealA g N sc L [ea, eb, ec] l) (hw : ∀ env : Env, env.scope = sc → swappedStores [.Tuple [.Name x px, .Name y py, .Name z pz] kt pt] (.Tuple [ea, eb, ec] k2 pt2) env = pure (some [x, y, z]))
    (hs : ∀ env : Env, env.scope = sc → swapsWithSole [.Tuple [.Name x px, .Name y py, .Name z pz] kt pt] (.Tuple [ea, eb, ec] k2 pt2) pos.line env = pure false) :
    RealS g N sc L (.Assign [.Tuple [.Name x px, .Name y py, .Name z pz] kt pt] (.Tuple [ea, eb, ec] k2 pt2) pos) (sPar [i, j, k] l) := by
  intro Wx X C
  refine (ps_par3 (i := i) (j := j) (l := k) C.calm (by rw [C.N]; exact hN) (by rw [C.N]; exact hi) (by rw [C.N]; exact hj) (by rw [C.N]; exact hk) hij hik hjk (by rw [C.sc]; exact hx) (by rw [C.sc]; exact hy) (by rw [C.sc]; exact hz) (ha.s Wx X C.toCtxOk) (hw X.env C.sc) (hs X.env C.sc)).weak ?_
  rintro D σ H ⟨ρ, S, μ, he, hw, h⟩
  refine ⟨ρ, S, μ, he, hw, _, D, h, fun ds S1 vs H1 μ1 g1 w1 r1 h1 => ?_⟩
  split at h1
  · rename_i hl
    match ds, hl with
    | [d1, d2, d3], _ =>
      obtain ⟨v, u, w, rfl, q1, q2, q3⟩ := rep3 r1
      exact ⟨v, u, w, rfl, h1 _ H1 μ1 (.refl _ _) w1 ((((he.mono g1).set1 q1).set1 q2).set1 q3)⟩
  · exact h1.elim

/-! ### o.f = e -/
theorem rs_attr {f : Str} {cl : List Str} {o : Expr} {mo mv : GE} (hv : Real g N sc L e mv) (ho : Real g N sc L o mo) (hc : ∀ c ∈ cl, ClsF g c f) (hs : ∀ env : Env, swapsWith e (some (.Attribute o f pos')) pos.line env = pure false) :
    RealS g N sc L (.Assign [.Attribute o f pos'] e pos) (sAttr cl f mv mo) := by
  intro Wx X C
  refine (ps_fld (ho Wx X C.toCtxOk) (hv Wx X C.toCtxOk) (hs X.env)).weak ?_
  rintro D σ H ⟨ρ, S, μ, he, hw, h⟩
  refine ⟨ρ, S, μ, he, hw, h.ex he fun d S1 v H1 μ1 g1 w1 r1 h1 => ⟨ρ, S1, μ1, he.mono g1, w1, h1.ex (he.mono g1) fun x S2 vx H2 μ2 g2 w2 r2 h2 => ?_⟩⟩
  split at h2
  · rename_i S3 es
    unfold setA at es
    split at es
    · split at es
      · rename_i n c fs hs
        split at es
        · rename_i hcl
          cases es
          obtain ⟨a, rfl, ha, hm, CC, dx, vs, mc, ea, q⟩ := w2.ref r2 hs
          obtain ⟨k1, k2⟩ := hc c hcl.1 CC mc
          refine ⟨a, CC, dx, vs, rfl, ea, by rw [C.K]; exact k1, by rw [C.K]; exact k2, by rw [← q.length]; exact hcl.2, ?_⟩
          exact h2 σ _ μ2 (grow_set hm ea (by simp)) (w2.set ha ⟨CC, dx, _, mc, upd_same, (RepF.put (r1.mono g2) q).mono (grow_set hm ea (by simp))⟩) (((he.mono g1).mono g2).mono (grow_set hm ea (by simp)))
        · cases es
      · cases es
    · cases es
  · exact h2.elim
end
end Gp

set_option Elab.async false
set_option linter.all false
set_option maxRecDepth 100000
/-! Gp10: raise, try, op=, while, for -/
namespace Gp
open PySem PySem.Spec L2
open PyProof.Rows hiding St

/-! ### raise -/
/-- an own class of exceptions without an own __init__ -/
def ExcOk (g : G) (c : Str) : Prop := ∃ (C : Addr) (bmB : List Value) (B newId initId : String), ExcBaseFacts B newId initId bmB ∧ g.mg c = some (.ref C) ∧ PySem.W.excIn g.K C bmB newId = true ∧ PySem.W.keepIn g.K (.ref C) = true ∧ PySem.W.subIn g.K (.ref C) (.type "BaseException") = some true ∧ PySem.W.typeIn g.K (.ref C) = some (.type "type")
section
variable {g : G} {N : List Str} {sc : Scope} {L : Nat} {a b c e : Expr} {ma mb mc m : GE} {pos p pos' : Pos} {st : Stmt} {rest : List Stmt} {ms mr : GS} {fk : Str → Bool}
variable {μ μ' : List Addr} {H H' : Hp} {S : Sto} {Ed : Ends}
theorem rs_raise {x m : Str} {j} {p2} (hx : ExcOk g x) (hg : sc.names.lookup x = some .globalImplicit) (hdb : (x == ("__debug__" : Str)) = false := by decide) :
    RealS g N sc L (.Raise (some (.Call (.Name x p) [.Constant (.str m) j p2] [] pos)) none pos') (sRaise x) := by
  intro Wx X C
  obtain ⟨Ca, bmB, B, newId, initId, F, hm, hex, hk, hs, ht⟩ := hx
  refine (ps_raise C.calm C.tk (pmk_own (C := Ca) F (by rw [C.K]; exact hex) (by rw [C.mg]; exact hm) (by rw [C.K]; exact hk) (raises_own (by rw [C.K]; exact hs) (by rw [C.K]; exact ht)) (show Gl X x by unfold Gl Env.kindOf; rw [C.sc]; exact hg) hdb)).weak ?_
  rintro D σ H ⟨ρ, S, μ, he, hw, h⟩
  exact h σ H μ (.refl _ _) hw he Ca hm

/-! ### try .. except x: suite -/
/-- what a caught exception comes to: the exceptions caught; those that are not -/
def sTry (yes no : List Str) (b : GS) (k : GS) : GS := fun ρ S => match b ρ S with
  | .exc c ρ1 S1 => if c ∈ yes then k ρ1 S1 else if c ∈ no then .exc c ρ1 S1 else .bad
  | r => r
/-- a suite's reading: it is run in a context that is not calm -/
def RealK (g : G) (N : List Str) (sc : Scope) (st : List Stmt) (m : GS) : Prop := ∀ Wx X, X.env.scope = sc → PSs X st (tGS g Wx m)
theorem rk_retStr {m : Str} {j} {p2} : RealK g N sc [.Return (some (.Constant (.str m) j p2)) pos] (sRet (gC (.str m))) := fun Wx X C => (pss_one (ps_ret pe_str)).weak fun D σ H ⟨ρ, S, μ, he, hw, h⟩ => h (.str m) H μ (.refl _ _) hw (by simp [Rep])
theorem rk_break : RealK g N sc [.Break pos] sBreak := fun Wx X C => (pss_one ps_break).weak fun D σ H ⟨ρ, S, μ, he, hw, h⟩ => h σ H μ (.refl _ _) hw he
theorem rk_pass : RealK g N sc [.Pass pos] sNil := fun Wx X C => (pss_one ps_pass).weak fun D σ H ⟨ρ, S, μ, he, hw, h⟩ => h σ H μ (.refl _ _) hw he
def ExmOk (g : G) (x : Str) (c : Str) (b : Bool) : Prop := ∀ C C', g.mg x = some (.ref C) → g.mg c = some (.ref C') → PySem.W.exmOne g.K (.ref C') (.ref C) = some b
theorem rs_try {x : Str} {Cx : Addr} {body suite : List Stmt} {b₀ : Stmt} {np : Pos} {yes no : List Str} {mk : GS} (hm : g.mg x = some (.ref Cx)) (hg : sc.names.lookup x = some .globalImplicit)
    (hb : RealSs g N sc L body ms) (hk : RealK g N sc (b₀ :: suite) mk) (hy : ∀ c ∈ yes, ExmOk g x c true) (hn : ∀ c ∈ no, ExmOk g x c false) (hdb : (x == ("__debug__" : Str)) = false := by decide) :
    RealS g N sc L (.Try body [.ExceptHandler (some (.Name x np)) none (b₀ :: suite) pos'] [] [] pos) (sTry yes no ms mk) := by
  intro Wx X C
  refine (ps_try_only (tb := fun W => tGS g W ms) (ts := fun _ _ _ => tGS g Wx mk) C.stk C.frm (c := .ref Cx) ⟨show Gl X x by unfold Gl Env.kindOf; rw [C.sc]; exact hg, hdb, .inl (by rw [C.mg]; exact hm)⟩ C.tk (fun W pn xe tk pw => ?_) (fun a oe cls d pn hz hd => ?_)).weak ?_
  · exact hb W _ ⟨⟨C.prog, C.wd, C.K, C.mg, C.base, C.N, C.sc, C.calm, tk, C.room, pw, C.cd, C.gc, C.lc⟩, C.fn, C.stk, C.frm⟩
  · exact hk Wx _ C.sc
  · rintro D σ H ⟨ρ, S, μ, he, hw, h⟩
    refine ⟨ρ, S, μ, he, hw, ?_⟩
    unfold sTry at h
    cases e : ms ρ S with
    | exc c ρ1 S1 =>
      rw [e] at h
      intro σ' H' μ' gr w' e' C' hC'
      simp only at h
      by_cases hc : c ∈ yes
      · rw [if_pos hc] at h
        refine ⟨true, ?_, fun _ a ha => ⟨ρ1, S1, μ', e', w', h.later gr⟩, fun z => by cases z⟩
        rw [C.K]; exact hy c hc Cx C' hm hC'
      · rw [if_neg hc] at h
        by_cases hc' : c ∈ no
        · rw [if_pos hc'] at h
          refine ⟨false, ?_, fun z => (by cases z), fun _ => h σ' H' μ' gr w' e' C' hC'⟩
          rw [C.K]; exact hn c hc' Cx C' hm hC'
        · rw [if_neg hc'] at h; exact h.elim
    | nx ρ1 S1 => rw [e] at h; exact h
    | rt ρ1 S1 => rw [e] at h; exact h
    | bk ρ1 S1 => rw [e] at h; exact h
    | ct ρ1 S1 => rw [e] at h; exact h
    | bad => rw [e] at h; exact h.elim

/-! ### x op= e -/
def OpI (g : G) (N : List Str) (sc : Scope) (L : Nat) (op : Operator) (p : D → D → Sto → Pr) : Prop := ∀ Wx X, CtxOk g N sc L Wx X → OpR X (inplaceOp op) (rP2 g p)
def sAug (i : Nat) (p : D → D → Sto → Pr) (a : GE) : GS := fun ρ S => match ρ[i]? with
  | some (some x) => (a ρ S).thn ρ fun y S1 => match p x y S1 with
    | some (z, S2) => .nx (ρ.set i (some z)) S2
    | none => .bad
  | _ => .bad
theorem rs_aug {i : Nat} {x : Str} {op : Operator} {pr : D → D → Sto → Pr} (hN : N.Nodup) (hi : N[i]? = some x) (hx : Loc sc x) (ha : Real g N sc L a ma) (ho : OpI g N sc L op pr) : RealS g N sc L (.AugAssign (.Name x pos') op a pos) (sAug i pr ma) := by
  intro Wx X C
  refine (ps_aug (i := i) (by rw [C.N]; exact hN) (by rw [C.N]; exact hi) (by rw [C.sc]; exact hx) (ha Wx X C.toCtxOk) (show PIp X op (rP2 g pr) from ho Wx X C.toCtxOk) (.inl (C.fn x))).weak ?_
  rintro D σ H ⟨ρ, S, μ, he, hw, h⟩
  unfold sAug at h
  split at h
  · rename_i d hd
    obtain ⟨v, ev, r⟩ := he.get hd
    refine ⟨v, ev, ρ, S, μ, he, hw, h.ex he fun y S1 vy H1 μ1 g1 w1 r1 h1 => ⟨d, y, S1, μ1, w1, r.mono g1, r1, ?_⟩⟩
    split at h1
    · rename_i z S2 e2
      rw [e2]
      exact fun vz H2 μ2 g2 w2 r2 => h1 _ H2 μ2 g2 w2 (((he.mono g1).mono g2).set1 r2)
    · exact h1.elim
  · exact h.elim
theorem opI_int {op : Operator} {f : Int → Int → Int} {P : Int → Int → Prop} {p : D → D → Sto → Pr} (ho : ∀ X, OpR X (inplaceOp op) (rI P fun i j => .int (f i j))) (h : ∀ a b S d S', p a b S = some (d, S') → ∃ i j, a = .int i ∧ b = .int j ∧ P i j ∧ d = .int (f i j) ∧ S' = S) : OpI g N sc L op p := by
  intro Wx X C
  refine OpR.pick fun x y H Q hh => ⟨_, ho X, ?_⟩
  obtain ⟨a, b, S, μ, w, ra, rb, q⟩ := hh
  cases e : p a b S with
  | none => rw [e] at q; exact q.elim
  | some z =>
    obtain ⟨d, S'⟩ := z
    obtain ⟨i, j, rfl, rfl, hp, rfl, rfl⟩ := h a b S d S' e
    rw [e] at q
    simp only [Rep] at ra rb
    exact ⟨i, j, ra, rb, hp, q _ H μ (.refl _ _) w (by simp [Rep])⟩
/-- a list that may be written to, or one that is new -/
def asLM (d : D) (S : Sto) : Option (List D) := match d with
  | .ls l => some l
  | .ref n => match S[n]? with
    | some (.lst l) => some l
    | _ => none
  | _ => none
theorem asLM_rep {d : D} {v : V} {l : List D} (w : W g μ H S) (r : Rep g H μ d v) (e : asLM d S = some l) : ∃ p vs, v = .ref p ∧ H p = some (.lst vs) ∧ RepL g H μ l vs := by
  unfold asLM at e
  split at e
  · cases e
    simp only [Rep] at r
    obtain ⟨p, vs, e, n, h, q⟩ := r
    exact ⟨p, vs, e, h, q⟩
  · split at e
    · rename_i n l' hs
      cases e
      obtain ⟨a, e, _, ha, vs, h, q⟩ := w.ref r hs
      exact ⟨a, vs, e, h, q⟩
    · cases e
  · cases e
def gIAdd : D → D → Sto → Pr := fun a b S => match a, b with
  | .int i, .int j => some (.int (i + j), S)
  | .str i, .str j => if i.length + j.length ≤ sizeLine then some (.str (i ++ j), S) else none
  | .ref n, b => match S[n]? with
    | some (.lst x) => match asLM b S with
      | some y => if x.length + y.length ≤ sizeLine then some (.ref n, S.set n (.lst (x ++ y))) else none
      | none => none
    | _ => none
  | _, _ => none
theorem i_add : OpI g N sc L .Add gIAdd := by
  intro Wx X C
  refine OpR.pick fun x y H Q h => ?_
  obtain ⟨a, b, S, μ, w, r1, r2, h⟩ := h
  unfold gIAdd at h
  split at h
  · simp only [Rep] at r1 r2
    exact ⟨_, iop_add, _, _, r1, r2, PostP.here h w (by simp [Rep])⟩
  · split at h
    · rename_i hl
      simp only [Rep] at r1 r2
      exact ⟨_, iop_add_str, _, _, r1, r2, hl, PostP.here h w (by simp [Rep])⟩
    · exact h.elim
  · split at h
    · rename_i n b' l hs
      split at h
      · rename_i y ey
        split at h
        · rename_i hl
          obtain ⟨a, rfl, hn, ha, vs, h1, q1⟩ := w.ref r1 hs
          obtain ⟨p, zs, rfl, h2, q2⟩ := asLM_rep w r2 ey
          have gr : Grow μ H μ (upd H a (.lst (vs ++ zs))) := grow_set ha h1 (by simp)
          refine ⟨_, iop_ext, _, _, _, _, rfl, rfl, h1, h2, by rw [← q1.length, ← q2.length]; exact hl, h (.ref a) _ μ gr (w.set hn ⟨_, upd_same, (q1.append q2).mono gr⟩) (by simp only [Rep]; exact ⟨a, rfl, hn⟩)⟩
        · exact h.elim
      · exact h.elim
    · exact h.elim
  · exact h.elim
theorem i_sub : OpI g N sc L .Sub gSub := opI_int (P := fun _ _ => True) (f := fun i j => i - j) (fun X pins s σ H x y v u Q I rx ry h => by
    obtain ⟨i, j, e1, e2, _, q⟩ := h
    exact iop_sub pins s σ H x y v u Q I rx ry ⟨i, j, e1, e2, q⟩) fun a b S d S' e => by
  unfold gSub at e
  split at e
  · cases e; exact ⟨_, _, rfl, rfl, trivial, rfl, rfl⟩
  · cases e
def gIMul : D → D → Sto → Pr := fun a b S => match a, b with
  | .int i, .int j => if (decide (-(2 ^ 64) < i) && decide (i < 2 ^ 64)) || (decide (-(2 ^ 64) < j) && decide (j < 2 ^ 64)) then some (.int (i * j), S) else none
  | _, _ => none
theorem i_mul : OpI g N sc L .Mult gIMul := opI_int (P := CMul) (f := fun i j => i * j) (fun X => iop_mul) fun a b S d S' e => by
  unfold gIMul at e
  split at e
  · split at e
    · rename_i h
      cases e
      simp only [Bool.or_eq_true, Bool.and_eq_true, decide_eq_true_eq] at h
      exact ⟨_, _, rfl, rfl, h, rfl, rfl⟩
    · cases e
  · cases e
def gIDiv : D → D → Sto → Pr := fun a b S => match a, b with
  | .int i, .int j => if 0 < j ∧ j.natAbs.log2 < 9000 then some (.int (i / j), S) else none
  | _, _ => none
theorem i_div : OpI g N sc L .FloorDiv gIDiv := opI_int (P := CDivW) (f := fun i j => i / j) (fun X => iop_fdivW) fun a b S d S' e => by
  unfold gIDiv at e
  split at e
  · split at e
    · rename_i h
      cases e
      exact ⟨_, _, rfl, rfl, h, rfl, rfl⟩
    · cases e
  · cases e
def gIMod : D → D → Sto → Pr := fun a b S => match a, b with
  | .int i, .int j => if 0 < j then some (.int (i % j), S) else none
  | _, _ => none
theorem i_mod : OpI g N sc L .Mod gIMod := opI_int (P := fun _ j => 0 < j) (f := fun i j => i % j) (fun X => iop_mod) fun a b S d S' e => by
  unfold gIMod at e
  split at e
  · split at e
    · rename_i h
      cases e
      exact ⟨_, _, rfl, rfl, h, rfl, rfl⟩
    · cases e
  · cases e
def gIOr : D → D → Sto → Pr := fun a b S => match a, b with
  | .int i, .int j => some (.int (Builtin.bitOr i j), S)
  | _, _ => none
theorem i_or : OpI g N sc L .BitOr gIOr := opI_int (P := fun _ _ => True) (f := fun i j => Builtin.bitOr i j) (fun X pins s σ H x y v u Q I rx ry h => by
    obtain ⟨i, j, e1, e2, _, q⟩ := h
    exact iop_or pins s σ H x y v u Q I rx ry ⟨i, j, e1, e2, q⟩) fun a b S d S' e => by
  unfold gIOr at e
  split at e
  · cases e; exact ⟨_, _, rfl, rfl, trivial, rfl, rfl⟩
  · cases e
/-! ### while -/
def whN (t : GE) (b : GS) : Nat → GS
  | 0 => fun _ _ => .bad
  | n + 1 => fun ρ S => (t ρ S).thn ρ fun d S1 => match d with
    | .bl true => match b ρ S1 with
      | .nx ρ2 S2 => whN t b n ρ2 S2
      | .ct ρ2 S2 => whN t b n ρ2 S2
      | .bk ρ2 S2 => .nx ρ2 S2
      | r => r
    | .bl false => .nx ρ S1
    | _ => .bad
theorem rs_while {n : Nat} {t : Expr} {mt : GE} {body : List Stmt} (ht : RealT g N sc L t mt) (hb : RealSs g N sc L body ms) : RealS g N sc L (.While t body [] pos) (whN mt ms n) := by
  intro Wx X C
  refine (ps_while C.pass (ht Wx X C.toCtxOk) (hb Wx X C)).weak ?_
  rintro D σ H ⟨ρ, S, μ, he, hw, h⟩
  refine ⟨fun m σ' H' => ∃ ρ' S' μ', EnvOk g H' μ' ρ' σ' ∧ W g μ' H' S' ∧ PostS g Wx μ' H' (whN mt ms m ρ' S') D, ⟨n, ρ, S, μ, he, hw, h⟩, ?_⟩
  rintro m σ1 H1 ⟨ρ1, S1, μ1, e1, w1, h1⟩
  cases m with
  | zero => exact h1.elim
  | succ m =>
    unfold whN at h1
    refine ⟨ρ1, S1, μ1, e1, w1, h1.ex e1 fun d S2 v H2 μ2 g2 w2 r2 h2 => ?_⟩
    split at h2
    · refine ⟨true, by simpa only [Rep] using r2, ?_⟩
      show (if true = true then _ else _)
      rw [if_pos rfl]
      refine ⟨fun σ' H' => ∃ ρ' S' μ', EnvOk g H' μ' ρ' σ' ∧ W g μ' H' S' ∧ PostS g Wx μ' H' (whN mt ms m ρ' S') D, fun σ' H' z => ⟨m, Nat.lt_succ_self _, z⟩, ρ1, S2, μ2, e1.mono g2, w2, ?_⟩
      cases e : ms ρ1 S2 with
      | nx ρ3 S3 => rw [e] at h2; exact fun σ' H' μ' gr w' e' => ⟨ρ3, S3, μ', e', w', PostS.later (r := whN mt ms m ρ3 S3) h2 gr⟩
      | ct ρ3 S3 => rw [e] at h2; exact fun σ' H' μ' gr w' e' => ⟨ρ3, S3, μ', e', w', PostS.later (r := whN mt ms m ρ3 S3) h2 gr⟩
      | bk ρ3 S3 => rw [e] at h2; exact h2
      | rt d S3 => rw [e] at h2; exact h2
      | exc c ρ3 S3 => rw [e] at h2; exact h2
      | bad => rw [e] at h2; exact h2.elim
    · refine ⟨false, by simpa only [Rep] using r2, ?_⟩
      show (if false = true then _ else _)
      rw [if_neg (by simp)]
      exact h2 σ1 H2 μ2 (.refl _ _) w2 (e1.mono g2)
    · exact h2.elim

end
section
variable {X : Cx}
/-- what was locked on the way may be unlocked -/
def UnlK (H : Hp) (Q : Hp → Prop) : Hp → Prop := fun H' => Q H' ∨ ∃ d od u, H' d = some (.frz od u) ∧ (∀ o' u', H d ≠ some (.frz o' u')) ∧ Q (upd H' d u)
def tUnl (t : TS) : TS := fun D σ H => t ⟨fun σ' => UnlK H (D.nx σ'), fun v => UnlK H (D.rt v), D.bk, D.ct⟩ σ H
theorem _root_.L2.Inv.unl {pins : List (Addr × Obj)} {σ σ' : St} {H H' : Hp} {s s' : Shared} {Q : Hp → Prop} (I : Inv X pins σ H s) (I' : Inv X pins σ' H' s') (q : UnlK H Q H') : ∃ H'', Inv X pins σ' H'' s' ∧ Q H'' := by
  rcases q with q | ⟨d, od, u, e, hn, q⟩
  · exact ⟨H', I', q⟩
  · exact ⟨_, I'.unlock e (fun o' u' z => hn o' u' (I.base.frzs d o' u' z)), q⟩
theorem ps_unl {st : Stmt} {t : TS} (h : PS X st t) : PS X st (tUnl t) := by
  refine ⟨fun pins s σ H D I hw => ?_⟩
  refine thn (h.run pins s σ _ _ I hw) fun f s1 q => ?_
  cases f with
  | next => obtain ⟨σ', H', I2, q⟩ := q; obtain ⟨H'', I3, q⟩ := I.unl I2 q; exact ⟨σ', _, I3, q⟩
  | brk => exact q
  | cont => exact q
  | ret v => obtain ⟨x, σ', H', I2, r, q⟩ := q; obtain ⟨H'', I3, q⟩ := I.unl I2 q; exact ⟨x, σ', _, I3, r, q⟩
theorem pe_unl {e : Expr} {t : TE} (h : PE X e t) : PE X e (fun σ H Q => t σ H fun v => UnlK H (Q v)) := by
  refine ⟨fun pins s σ H Q I hw => ?_⟩
  refine thn (h.run pins s σ _ _ I hw) fun v s1 ⟨x, H1, I2, r, q⟩ => ?_
  obtain ⟨H'', I3, q⟩ := I.unl I2 q
  exact ⟨x, _, I3, r, q⟩
end
/-- the dict at m is unlocked -/
def unl1 (m : Nat) (S : Sto) : Sto := match S[m]? with
  | some (.dict k true l) => S.set m (.dict k false l)
  | _ => S
def unlRS (ul : Option Nat) (r : RS) : RS := match ul with
  | none => r
  | some m => match r with
    | .nx ρ S => .nx ρ (unl1 m S)
    | .rt d S => .rt d (unl1 m S)
    | r => r
def unlR (ul : Option Nat) (r : Res) : Res := match ul with
  | none => r
  | some m => match r with
    | .ok d S => .ok d (unl1 m S)
    | r => r
section
variable {g : G} {μ μ' : List Addr} {H H0 H' : Hp} {S : Sto} {ρ : Ev} {σ : St}
theorem EnvOk.monoW (h : Grw μ H μ' H') : ∀ {ρ : Ev} {σ : St}, EnvOk g H μ ρ σ → EnvOk g H' μ' ρ σ
  | [], σ, r => r
  | d :: ρ, σ, r => by
    simp only [EnvOk] at r ⊢
    obtain ⟨v, y, e, q, t⟩ := r
    exact ⟨v, y, e, fun x hx => let ⟨u, a, b⟩ := q x hx; ⟨u, a, b.monoW h⟩, EnvOk.monoW h t⟩
theorem grw_unl {a : Addr} {o : Obj} {u : HO} (h : H a = some (.frz o u)) (hd : isDic u = true) : Grw μ H μ (upd H a u) := by
  have hnt : ∀ ps, u ≠ .tbl ps := fun ps z => by subst z; cases hd
  refine ⟨⟨[], by simp, by simp⟩, fun b v hb e _ => ?_, fun b v e n => ?_⟩
  · by_cases z : b = a
    · subst z
      rw [h] at e; cases e
      refine ⟨u, upd_same, ?_⟩
      rw [show core (HO.frz o u) = u by simp only [core, if_pos hd]]
      cases u <;> first | rfl | cases hd
    · exact ⟨v, by rw [upd_ne z]; exact e, rfl⟩
  · by_cases z : b = a
    · subst z; exact ⟨u, upd_same, hnt⟩
    · exact ⟨v, by rw [upd_ne z]; exact e, n⟩
theorem DicAt.dic {k : Nat} {l : List (D × D)} {u : HO} (h : DicAt g H μ k l u) : isDic u = true := by rcases h with ⟨_, _, rfl, _⟩ | ⟨_, _, rfl, _⟩ <;> rfl
theorem W.unl {m : Nat} {k : Nat} {l : List (D × D)} (w : W g μ H S) (e : S[m]? = some (.dict k true l)) : ∃ a o u, μ[m]? = some a ∧ H a = some (.frz o u) ∧ isDic u = true ∧ W g μ (upd H a u) (S.set m (.dict k false l)) := by
  obtain ⟨a, ha, hm, u, hq, hl⟩ := w.ix e
  rw [if_pos rfl] at hl
  obtain ⟨o, hl⟩ := hl
  exact ⟨a, o, u, ha, hl, hq.dic, w.set ha ⟨u, hq.monoW (grw_unl hl hq.dic), by rw [if_neg (by simp)]; exact upd_same⟩⟩
theorem grow_unl {a : Addr} {o : Obj} {u : HO} (gr : Grow μ H μ' H') (h : H' a = some (.frz o u)) (hd : isDic u = true) (h0 : ∀ o u, H a ≠ some (.frz o u)) : Grow μ H μ' (upd H' a u) := by
  have hnt : ∀ ps, u ≠ .tbl ps := fun ps z => by subst z; cases hd
  refine ⟨⟨gr.pre, fun b v hb e ht => ?_, fun b v e n => ?_⟩, fun b x v e => ?_⟩
  · obtain ⟨v', e', c'⟩ := gr.keep b v hb e ht
    by_cases z : b = a
    · subst z
      rw [h] at e'; cases e'
      refine ⟨u, upd_same, ?_⟩
      rw [← c', show core (HO.frz o u) = u by simp only [core, if_pos hd]]
      cases u <;> first | rfl | cases hd
    · exact ⟨v', by rw [upd_ne z]; exact e', c'⟩
  · obtain ⟨v', e', n'⟩ := gr.sup b v e n
    by_cases z : b = a
    · subst z; exact ⟨u, upd_same, hnt⟩
    · exact ⟨v', by rw [upd_ne z]; exact e', n'⟩
  · rw [upd_ne (fun z => h0 x v (by rw [← z]; exact e))]
    exact gr.fz b x v e
/-- what is known of the one that is to be unlocked: it was not locked at the start -/
def UlAt (H : Hp) (μ' : List Addr) (ul : Option Nat) : Prop := ∀ m, ul = some m → ∃ a, μ'[m]? = some a ∧ ∀ o u, H a ≠ some (.frz o u)
theorem UlAt.grow {ul : Option Nat} {μ1 : List Addr} {H1 : Hp} (h : UlAt H μ1 ul) (gr : Grow μ1 H1 μ' H') : UlAt H μ' ul := fun m e => let ⟨a, h1, h2⟩ := h m e; ⟨a, gr.get h1, h2⟩
theorem UlAt.back {ul : Option Nat} {μ1 : List Addr} {H1 : Hp} (h : UlAt H1 μ' ul) (gr : Grow μ H μ1 H1) : UlAt H μ' ul := fun m e => let ⟨a, h1, h2⟩ := h m e; ⟨a, h1, fun o u z => h2 o u (gr.fz a o u z)⟩
theorem unl_of {ul : Option Nat} {Q : Hp → Prop} {f : Sto → Sto} (gr : Grow μ H μ' H') (w : W g μ' H' S) (hu : UlAt H μ' ul)
    (h : ∀ H'', Grow μ H μ' H'' → Grw μ' H' μ' H'' → W g μ' H'' (match ul with | none => S | some m => unl1 m S) → Q H'') : UnlK H Q H' := by
  cases ul with
  | none => exact .inl (h H' gr (.refl _ _) w)
  | some m =>
    obtain ⟨a, ha, hz⟩ := hu m rfl
    simp only at h
    unfold unl1 at h
    split at h
    · rename_i k l hs
      obtain ⟨a', o, u, ha', hl, hd, w'⟩ := w.unl hs
      rw [ha] at ha'; cases ha'
      exact .inr ⟨a, o, u, hl, hz, h _ (grow_unl gr hl hd hz) (grw_unl hl hd) w'⟩
    · exact .inl (h H' gr (.refl _ _) w)
theorem PostS.unlNx {Wx : WX} {ul : Option Nat} {D : Ends} (h : PostS g Wx μ H (unlRS ul (.nx ρ S)) D) (gr : Grow μ H μ' H') (w : W g μ' H' S) (he : EnvOk g H' μ' ρ σ) (hu : UlAt H μ' ul) : UnlK H (D.nx σ) H' := by
  refine unl_of (f := id) gr w hu fun H'' g2 g3 w2 => ?_
  cases ul with
  | none => exact h σ H'' μ' g2 w2 (he.monoW g3)
  | some m => exact h σ H'' μ' g2 w2 (he.monoW g3)
theorem PostS.unlRt {Wx : WX} {ul : Option Nat} {En : Ends} {d : D} {v : V} (h : PostS g Wx μ H (unlRS ul (.rt d S)) En) (gr : Grow μ H μ' H') (w : W g μ' H' S) (r : Rep g H' μ' d v) (hu : UlAt H μ' ul) : UnlK H (En.rt v) H' := by
  refine unl_of (f := id) gr w hu fun H'' g2 g3 w2 => ?_
  cases ul with
  | none => exact h v H'' μ' g2 w2 (r.monoW g3)
  | some m => exact h v H'' μ' g2 w2 (r.monoW g3)
theorem PostR.unlOk {ul : Option Nat} {Q : VK} {E : Str → Hp → Prop} {d : D} {v : V} (h : PostR g μ H (unlR ul (.ok d S)) Q E) (gr : Grow μ H μ' H') (w : W g μ' H' S) (r : Rep g H' μ' d v) (hu : UlAt H μ' ul) : UnlK H (Q v) H' := by
  refine unl_of (f := id) gr w hu fun H'' g2 g3 w2 => ?_
  cases ul with
  | none => exact h v H'' μ' g2 w2 (r.monoW g3)
  | some m => exact h v H'' μ' g2 w2 (r.monoW g3)
end
section
variable {g : G} {N : List Str} {sc : Scope} {L : Nat} {a b c e : Expr} {ma mb mc m : GE} {pos p pos' : Pos} {st : Stmt} {rest : List Stmt} {ms mr : GS} {fk : Str → Bool}
variable {μ μ' : List Addr} {H H' : Hp} {S : Sto} {Ed : Ends}
/-! ### for -/
abbrev Look := Nat → Sto → Option (Option D)
/-- how the walk J goes: what it yields at a turn -/
structure SrcOk (g : G) (J : It) (lk : Look) (μ1 : List Addr) (H1 : Hp) : Prop where
  stop : ∀ i μ H S, Grow μ1 H1 μ H → W g μ H S → lk i S = some none → J.stop i H
  go : ∀ i μ H S d, Grow μ1 H1 μ H → W g μ H S → lk i S = some (some d) → J.go i H ∧ ∀ x H', J.yld i H x H' → Grow μ H μ H' ∧ W g μ H' S ∧ Rep g H' μ d x
inductive IR where
  | ok (lk : Look) (S : Sto) (ul : Option Nat)
  | exc (c : Str) (S : Sto)
  | bad
abbrev GI := Ev → Sto → IR
def PostI (g : G) (μ : List Addr) (H : Hp) (r : IR) (R : It → Hp → Prop) (E : Str → Hp → Prop) : Prop := match r with
  | .ok lk S ul => ∀ J H' μ', Grow μ H μ' H' → W g μ' H' S → SrcOk g J lk μ' H' → UlAt H μ' ul → R J H'
  | .exc c S => ∀ H' μ', Grow μ H μ' H' → W g μ' H' S → E c H'
  | .bad => False
def tGI (g : G) (Wx : WX) (m : GI) : TI := fun σ H R => ∃ ρ S μ, EnvOk g H μ ρ σ ∧ W g μ H S ∧ PostI g μ H (m ρ S) R (wE g Wx σ)
def RealI (g : G) (N : List Str) (sc : Scope) (L : Nat) (tg e : Expr) (m : GI) : Prop := ∀ Wx X, CtxOk g N sc L Wx X → PI X tg e (tGI g Wx m)
theorem _root_.L2.PI.weak {X : Cx} {tg e : Expr} {t t' : TI} (h : PI X tg e t) (k : ∀ σ H Q, t' σ H Q → t σ H Q) : PI X tg e t' := ⟨fun pins s σ H Q I q => h.run pins s σ H Q I (k σ H Q q)⟩
def IR.thn (r : IR) (ρ : Ev) (f : Look → Sto → Option Nat → RS) : RS := match r with
  | .ok l S ul => f l S ul
  | .exc c S => .exc c ρ S
  | .bad => .bad
/-- the turns from the i-th on, n at most -/
def forN (lk : Look) (b : D → GS) : Nat → Nat → GS
  | 0, _ => fun _ _ => .bad
  | n + 1, i => fun ρ S => match lk i S with
    | none => .bad
    | some none => .nx ρ S
    | some (some d) => match b d ρ S with
      | .nx ρ2 S2 => forN lk b n (i + 1) ρ2 S2
      | .ct ρ2 S2 => forN lk b n (i + 1) ρ2 S2
      | .bk ρ2 S2 => .nx ρ2 S2
      | r => r
def sFor (n : Nat) (it : GI) (t : GT) (b : GS) : GS := fun ρ S => (it ρ S).thn ρ fun l S1 ul => unlRS ul (forN l (fun d ρ S => (t d ρ S).thn b) n 0 ρ S1)
theorem PostI.of {Wx : WX} {σ : St} {ρ : Ev} {r : IR} {f : Look → Sto → Option Nat → RS} {R : It → Hp → Prop} (he : EnvOk g H μ ρ σ) (h : PostS g Wx μ H (r.thn ρ f) Ed)
    (k : ∀ l S1 ul J H1 μ1, Grow μ H μ1 H1 → W g μ1 H1 S1 → SrcOk g J l μ1 H1 → UlAt H μ1 ul → PostS g Wx μ H (f l S1 ul) Ed → R J H1) : PostI g μ H r R (wE g Wx σ) := by
  cases r with
  | ok l S1 ul => exact fun J H1 μ1 g1 w1 s1 u1 => k l S1 ul J H1 μ1 g1 w1 s1 u1 h
  | exc c S1 => exact fun H1 μ1 g1 w1 => h σ H1 μ1 g1 w1 (he.mono g1)
  | bad => exact h
theorem unlRS_bk {c' : Str} {ul : Option Nat} {ρ : Ev} {S : Sto} : unlRS ul (.exc c' ρ S) = .exc c' ρ S := by cases ul <;> rfl
theorem unlRS_bad {ul : Option Nat} : unlRS ul .bad = .bad := by cases ul <;> rfl
theorem rs_for {n : Nat} {tg it : Expr} {mi : GI} {t : GT} {body : List Stmt} (hi : RealI g N sc L tg it mi) (hg : RealG g N sc L (fun _ => true) tg t) (hb : RealSs g N sc L body ms)
    (hs : ∀ (env : Env) x, foldedSetIterable it env x = pure x) : RealS g N sc L (.For tg it body [] pos) (sFor n mi t ms) := by
  intro Wx X C
  refine (ps_unl (ps_for C.pass C.calm (hi Wx X C.toCtxOk) (hg Wx X C.toCtxOk fun x _ => C.fn x) (hb Wx X C) (hs X.env))).weak ?_
  rintro D σ H ⟨ρ, S, μ, he, hw, h⟩
  refine ⟨ρ, S, μ, he, hw, PostI.of he h fun lk S1 ul J H1 μ1 g1 w1 s1 u1 h1 => ?_⟩
  refine ⟨fun i m σ' H' => ∃ ρ' S' μ', Grow μ1 H1 μ' H' ∧ EnvOk g H' μ' ρ' σ' ∧ W g μ' H' S' ∧ PostS g Wx μ H (unlRS ul (forN lk (fun d ρ S => (t d ρ S).thn ms) m i ρ' S')) D, ⟨n, ρ, S1, μ1, .refl _ _, he.mono g1, w1, h1⟩, ?_⟩
  rintro i m σ2 H2 ⟨ρ2, S2, μ2, g2, e2, w2, h2⟩
  cases m with
  | zero => rw [show forN lk (fun d ρ S => (t d ρ S).thn ms) 0 i ρ2 S2 = .bad from rfl, unlRS_bad] at h2; exact h2.elim
  | succ m =>
    unfold forN at h2
    split at h2
    · rw [unlRS_bad] at h2; exact h2.elim
    · rename_i el
      exact .inl ⟨s1.stop i μ2 H2 S2 g2 w2 el, h2.unlNx (g1.trans g2) w2 e2 (u1.grow g2)⟩
    · rename_i d el
      obtain ⟨k1, k2⟩ := s1.go i μ2 H2 S2 d g2 w2 el
      let NN : St → Hp → Prop := fun σ' H' => ∃ ρ' S' μ', Grow μ1 H1 μ' H' ∧ EnvOk g H' μ' ρ' σ' ∧ W g μ' H' S' ∧ PostS g Wx μ H (unlRS ul (forN lk (fun d ρ S => (t d ρ S).thn ms) m (i + 1) ρ' S')) D
      refine .inr ⟨k1, NN, fun σ' H' z => ⟨m, Nat.lt_succ_self _, z⟩, fun x H' y => ?_⟩
      obtain ⟨g3, w3, r3⟩ := k2 x H' y
      refine ⟨d, ρ2, S2, μ2, _, e2.mono g3, w3, r3, PostS.seq (Ed := { nx := NN, rt := fun v => UnlK H (D.rt v), ct := NN, bk := fun σ' => UnlK H (D.nx σ') }) (f := ms) ?_ (fun ρ4 S4 σ4 H4 μ4 g4 w4 e4 h4 => ⟨ρ4, S4, μ4, e4, w4, h4⟩), fun _ _ z => z⟩
      have gg := g2.trans g3
      generalize hr : (t d ρ2 S2).thn ms = r at h2
      cases r with
      | nx ρ3 S3 => exact fun σ' H' μ' gr w' e' => ⟨ρ3, S3, μ', gg.trans gr, e', w', h2⟩
      | ct ρ3 S3 => exact fun σ' H' μ' gr w' e' => ⟨ρ3, S3, μ', gg.trans gr, e', w', h2⟩
      | bk ρ3 S3 => exact fun σ' H' μ' gr w' e' => PostS.unlNx h2 (g1.trans (gg.trans gr)) w' e' (u1.grow (gg.trans gr))
      | rt d S3 => exact fun v H' μ' gr w' e' => PostS.unlRt h2 (g1.trans (gg.trans gr)) w' e' (u1.grow (gg.trans gr))
      | exc c ρ3 S3 => simp only [unlRS_bk] at h2; exact fun σ' H' μ' gr w' e' => h2 σ' H' μ' (g1.trans (gg.trans gr)) w' e'
      | bad => simp only [unlRS_bad] at h2; exact h2.elim
end
end Gp

set_option Elab.async false
set_option linter.all false
set_option maxRecDepth 100000
/-! Gp11: what is walked -/
namespace Gp
open PySem PySem.Spec L2
open PyProof.Rows hiding St

/-! ### by values -/
abbrev RI := V → Hp → (It → Hp → Prop) → Prop
def PItr (X : Cx) (tg : Expr) (r : RI) : Prop := ∀ (pins : List (Addr × Obj)) (s : Shared) (σ : St) (H : Hp) (v : V) (u : Value) (R : It → Hp → Prop), Inv X pins σ H s → RelV v u → r v H R →
  wpAny (model X.prog X.w) X.A (pyIter u) (PIE X pins σ tg R) X.xe s
theorem pi_of {X : Cx} {tg e : Expr} {te : TE} {r : RI} (he : PE X e te) (h : PItr X tg r) : PI X tg e (fun σ H R => te σ H fun x H1 => r x H1 R) := by
  refine ⟨fun pins s σ H R I q => ?_⟩
  exact thn (he.run pins s σ H _ I q) fun v s1 ⟨x, H1, I1, r1, q1⟩ => h pins s1 σ H1 x v R I1 r1 q1
theorem PItr.pick {X : Cx} {tg : Expr} {r' : RI} (h : ∀ v H R, r' v H R → ∃ r, PItr X tg r ∧ r v H R) : PItr X tg r' := fun pins s σ H v u R I rv q => by
  obtain ⟨r, k, z⟩ := h v H R q
  exact k pins s σ H v u R I rv z
section
variable {X : Cx} {tg : Expr}
theorem itr_list : PItr X tg (fun x H1 R => ∃ a, x = .ref a ∧ (∃ xs, SqL X.K H1 a xs) ∧ R (Itl X.K a) H1) := by
  intro pins s1 σ H1 x v R I1 r1 q1
  obtain ⟨a, e, ⟨xs, hq⟩, q⟩ := q1
  subst e
  cases r1
  obtain ⟨its, rv, p, hz⟩ := I1.list hq
  refine wpAny_pyIter_list p.isList ?_
  refine ⟨s1.heap.objs.size, [s1.heap.objs.size], _, _, H1, rfl, I1.kept (t' := s1.toks) fun b o e => Heap.get?_push_of_some _ e, turn_list a _, ⟨_, Heap.get?_push_size _ rfl, rfl, rfl⟩, fun b hb => ?_, q⟩
  have e : b = s1.heap.objs.size := by simpa using hb
  subst e
  exact I1.fpOk (Nat.le_refl _) (I1.hok.fresh (Nat.le_refl _))
theorem itr_tup : PItr X tg (fun x H1 R => ∃ a, x = .ref a ∧ (∃ xs, SqT X.K H1 a xs) ∧ R (Itt X.K a) H1) := by
  intro pins s1 σ H1 x v R I1 r1 q1
  obtain ⟨a, e, ⟨xs, hq⟩, q⟩ := q1
  subst e
  cases r1
  obtain ⟨its, rv, p, hz⟩ := I1.tuple hq
  refine wpAny_pyIter_tuple (show s1.heap.IsTuple a its.toArray from p) ?_
  refine ⟨s1.heap.objs.size, [s1.heap.objs.size], _, _, H1, rfl, I1.kept (t' := s1.toks) fun b o e => Heap.get?_push_of_some _ e, turn_tuple a _, ⟨_, Heap.get?_push_size _ rfl, rfl, rfl⟩, fun b hb => ?_, q⟩
  have e : b = s1.heap.objs.size := by simpa using hb
  subst e
  exact I1.fpOk (Nat.le_refl _) (I1.hok.fresh (Nat.le_refl _))
theorem itr_str : PItr X tg (fun v H1 R => ∃ x, v = .str x ∧ R (Its x) H1) := by
  intro pins s1 σ H1 y v R I1 r1 q1
  obtain ⟨x, ex, q⟩ := q1
  subst ex
  obtain ⟨t, rfl⟩ := r1
  cases ha : x.cps.all (· < 128)
  · exact wpAny_pyIter_wide ha (pi_one (tk := s1.toks) I1 _ (turn_str _ x t "str_iterator" (.inr rfl)) ⟨_, Heap.get?_push_size _ rfl, rfl, rfl⟩ q)
  · exact wpAny_pyIter_ascii ha (pi_one (tk := s1.toks) I1 _ (turn_str _ x t "str_ascii_iterator" (.inl rfl)) ⟨_, Heap.get?_push_size _ rfl, rfl, rfl⟩ q)
theorem itr_keys : PItr X tg (fun x H1 R => ∃ d o, x = .ref d ∧ ((∃ kvs, H1 d = some (.frz o (.dK kvs)) ∧ R (Itk d o kvs) H1) ∨ ∃ kvs, H1 d = some (.frz o (.dT kvs)) ∧ R (Itkt d o kvs) H1)) := by
  intro pins s1 σ H1 x u R I1 rx q
  obtain ⟨d, o, ex, q⟩ := q
  subst ex
  obtain rfl : u = Value.ref d := rx
  rcases q with ⟨kvs, hd, q⟩ | ⟨kvs, hd, q⟩
  · obtain ⟨hs, hgd, hx, es, ep, vs, hdt, hsz, kv, hm⟩ := I1.frzK hd
    refine iter_keys hs hgd hx hdt (pi_one (tk := s1.toks) I1 _ (turn_keys _ hdt) ⟨_, Heap.get?_push_size _ rfl, rfl, ?_⟩ q)
    rw [hsz] <;> rfl
  · obtain ⟨hs, hgd, hx, es, ep, hdt, hsz, ent⟩ := I1.frzT hd
    refine iter_keys hs hgd hx hdt (pi_one (tk := s1.toks) I1 _ (turn_keysT _ hdt) ⟨_, Heap.get?_push_size _ rfl, rfl, ?_⟩ q)
    rw [hsz] <;> rfl
/-- a thing locked ahead of the walk -/
theorem itr_lock {r : RI} (h : PItr X tg r) : PItr X tg (fun x H R => ∃ d u, H d = some u ∧ Mut (some u) ∧ ∀ o, r x (upd H d (.frz o u)) R) := by
  intro pins s σ H x v R I rx ⟨d, u, hd, mu, q⟩
  obtain ⟨od, I2⟩ := I.lock hd mu
  exact h pins s σ _ x v R I2 rx (q od)
/-- an expression's thing locked -/
theorem pe_lockA {e : Expr} {te : TE} (he : PE X e te) : PE X e (fun σ H Q => te σ H fun x H1 => Q x H1 ∨ ∃ d u, H1 d = some u ∧ Mut (some u) ∧ ∀ o, Q x (upd H1 d (.frz o u))) := by
  refine ⟨fun pins s σ H Q I q => ?_⟩
  refine thn (he.run pins s σ H _ I q) fun v s1 ⟨x, H1, I1, r1, q1⟩ => ?_
  rcases q1 with q1 | ⟨d, u, hd, mu, q1⟩
  · exact ⟨x, H1, I1, r1, q1⟩
  · obtain ⟨od, I2⟩ := I1.lock hd mu
    exact ⟨x, _, I2, r1, q1 od⟩
end

/-! ### ghosts -/
def fixL (l : List D) : Look := fun i _ => some l[i]?
def liveL (n : Nat) : Look := fun i S => match S[n]? with
  | some (.lst l) => some l[i]?
  | _ => none
def signs (x : Str) : List D := x.cps.toList.map fun c => .str ⟨#[c]⟩
def srcOf (d : D) (S : Sto) : Option (Look × Sto) := match d with
  | .ls l => some (fixL l, S)
  | .sq l => some (fixL l, S)
  | .tup l => some (fixL l, S)
  | .kt l => some (fixL l, S)
  | .str x => some (fixL (signs x), S)
  | .dc _ l => some (fixL (l.map (·.1)), S)
  | .ref n => match S[n]? with
    | some (.lst l) => some (liveL n, S)
    | some (.dict k _ l) => some (fixL (l.map (·.1)), S.set n (.dict k true l))
    | _ => none
  | _ => none
section
variable {g : G} {μ μ' μ1 : List Addr} {H H' H1 : Hp} {S : Sto} {K : PySem.W.Frag}
theorem src_fixed {J : It} {l : List D} (hs : ∀ i μ H S, Grow μ1 H1 μ H → W g μ H S → l.length ≤ i → J.stop i H)
    (hg : ∀ i μ H S d, Grow μ1 H1 μ H → W g μ H S → l[i]? = some d → J.go i H ∧ ∀ x H', J.yld i H x H' → Grow μ H μ H' ∧ W g μ H' S ∧ Rep g H' μ d x) : SrcOk g J (fixL l) μ1 H1 :=
  ⟨fun i μ H S gr w e => hs i μ H S gr w (List.getElem?_eq_none_iff.mp (Option.some.inj e)), fun i μ H S d gr w e => hg i μ H S d gr w (Option.some.inj e)⟩
theorem src_list {a : Addr} {l : List D} {vs : List V} (h : LsI g H1 μ1 a vs) (r : RepL g H1 μ1 l vs) : SrcOk g (Itl g.K a) (fixL l) μ1 H1 :=
  src_fixed (fun i μ H S gr w e => ⟨vs, (h.mono gr).sq, by rw [← r.length]; exact e⟩) fun i μ H S d gr w e => by
    obtain ⟨v, ev, rv⟩ := (r.mono gr).get e
    refine ⟨⟨vs, v, (h.mono gr).sq, ev⟩, ?_⟩
    rintro x H' ⟨rfl, y⟩
    have z := y vs (h.mono gr).sq
    rw [ev] at z; cases z
    exact ⟨.refl _ _, w, rv⟩
theorem src_tup {a : Addr} {l : List D} {vs : List V} (h : ∀ μ H, Grow μ1 H1 μ H → SqT g.K H a vs) (r : RepL g H1 μ1 l vs) : SrcOk g (Itt g.K a) (fixL l) μ1 H1 :=
  src_fixed (fun i μ H S gr w e => ⟨vs, h _ _ gr, by rw [← r.length]; exact e⟩) fun i μ H S d gr w e => by
    obtain ⟨v, ev, rv⟩ := (r.mono gr).get e
    refine ⟨⟨vs, v, h _ _ gr, ev⟩, ?_⟩
    rintro x H' ⟨rfl, y⟩
    have z := y vs (h _ _ gr)
    rw [ev] at z; cases z
    exact ⟨.refl _ _, w, rv⟩
theorem src_str {x : Str} : SrcOk g (Its x) (fixL (signs x)) μ1 H1 :=
  src_fixed (fun i μ H S gr w e => by show x.cps.size ≤ i; simpa [signs] using e) fun i μ H S d gr w e => by
    simp only [signs, List.getElem?_map, Option.map_eq_some_iff] at e
    obtain ⟨c, ec, rfl⟩ := e
    rw [Array.getElem?_toList] at ec
    refine ⟨(Array.getElem?_eq_some_iff.mp ec).1, ?_⟩
    rintro y H' ⟨rfl, c', ec', rfl⟩
    rw [ec] at ec'; cases ec'
    exact ⟨.refl _ _, w, by simp [Rep]⟩
theorem RepK.get : ∀ {l : List (D × D)} {ks : List (Key × V)} {i : Nat} {k : Key} {v : V}, RepK g H μ l ks → ks[i]? = some (k, v) → ∃ d, l[i]? = some (kD k, d) ∧ Rep g H μ d v
  | [], ks, i, k, v, r, e => by simp only [RepK] at r; subst r; simp at e
  | p :: l, ks, i, k, v, r, e => by
    simp only [RepK] at r
    obtain ⟨k', v', t, rfl, e1, q, z⟩ := r
    cases i with
    | zero => simp at e; obtain ⟨rfl, rfl⟩ := e; exact ⟨p.2, by simp [← e1], q⟩
    | succ i => simp at e; obtain ⟨d, h1, h2⟩ := RepK.get z e; exact ⟨d, by simpa using h1, h2⟩
theorem RepT.get : ∀ {l : List (D × D)} {ks : List (List Key × V)} {i : Nat} {k : List Key} {v : V}, RepT g H μ l ks → ks[i]? = some (k, v) → ∃ d, l[i]? = some (tD k, d) ∧ Rep g H μ d v
  | [], ks, i, k, v, r, e => by simp only [RepT] at r; subst r; simp at e
  | p :: l, ks, i, k, v, r, e => by
    simp only [RepT] at r
    obtain ⟨k', v', t, rfl, e1, q, z⟩ := r
    cases i with
    | zero => simp at e; obtain ⟨rfl, rfl⟩ := e; exact ⟨p.2, by simp [← e1], q⟩
    | succ i => simp at e; obtain ⟨d, h1, h2⟩ := RepT.get z e; exact ⟨d, by simpa using h1, h2⟩
theorem src_keysK {a : Addr} {o : Obj} {l : List (D × D)} {ks : List (Key × V)} (h : H1 a = some (.frz o (.dK ks))) (r : RepK g H1 μ1 l ks) : SrcOk g (Itk a o ks) (fixL (l.map (·.1))) μ1 H1 :=
  src_fixed (fun i μ H S gr w e => ⟨gr.fz _ _ _ h, by rw [← repK_len r]; simpa using e⟩) fun i μ H S d gr w e => by
    have hi : i < ks.length := by rw [← repK_len r]; have := (List.getElem?_eq_some_iff.mp e).1; simpa using this
    refine ⟨⟨gr.fz _ _ _ h, hi⟩, ?_⟩
    rintro x H' ⟨rfl, k, v, ek, rfl⟩
    obtain ⟨z, hz, _⟩ := r.get ek
    rw [List.getElem?_map, hz] at e
    cases e
    exact ⟨.refl _ _, w, rep_kD.mpr rfl⟩
theorem rep_tup {p : Addr} {l : List D} {vs : List V} (w : W g μ H S) (h : H p = some (.tup vs)) (r : RepL g H μ l vs) : Rep g H μ (.tup l) (.ref p) := by
  simp only [Rep]
  refine ⟨p, vs, rfl, fun m => ?_, h, r⟩
  obtain ⟨u, e, _, _, n, _⟩ := w.there m
  rw [h] at e; cases e; exact n vs rfl
theorem repL_keys : ∀ {k : List Key}, RepL g H μ (k.map kD) (k.map kV)
  | [] => .nil
  | k :: r => .cons (rep_kD.mpr rfl) repL_keys
theorem src_keysT {a : Addr} {o : Obj} {l : List (D × D)} {ks : List (List Key × V)} (h : H1 a = some (.frz o (.dT ks))) (r : RepT g H1 μ1 l ks) : SrcOk g (Itkt a o ks) (fixL (l.map (·.1))) μ1 H1 :=
  src_fixed (fun i μ H S gr w e => ⟨gr.fz _ _ _ h, by rw [← repT_len r]; simpa using e⟩) fun i μ H S d gr w e => by
    have hi : i < ks.length := by rw [← repT_len r]; have := (List.getElem?_eq_some_iff.mp e).1; simpa using this
    refine ⟨⟨gr.fz _ _ _ h, hi⟩, ?_⟩
    rintro x H' ⟨rfl, k, v, q, ek, rfl, hq⟩
    obtain ⟨z, hz, _⟩ := r.get ek
    rw [List.getElem?_map, hz] at e
    cases e
    exact ⟨.refl _ _, w, rep_tup w hq repL_keys⟩
theorem src_live {n : Nat} {a : Addr} (h : μ1[n]? = some a) : SrcOk g (Itl g.K a) (liveL n) μ1 H1 := by
  refine ⟨fun i μ H S gr w e => ?_, fun i μ H S d gr w e => ?_⟩
  · unfold liveL at e
    split at e
    · rename_i l hs
      obtain ⟨vs, h1, q⟩ := w.cell n a _ (gr.get h) hs
      exact ⟨vs, .of h1, by rw [← q.length]; exact List.getElem?_eq_none_iff.mp (Option.some.inj e)⟩
    · cases e
  · unfold liveL at e
    split at e
    · rename_i l hs
      obtain ⟨vs, h1, q⟩ := w.cell n a _ (gr.get h) hs
      obtain ⟨v, ev, rv⟩ := q.get (Option.some.inj e)
      refine ⟨⟨vs, v, .of h1, ev⟩, ?_⟩
      rintro x H' ⟨rfl, y⟩
      have z := y vs (.of h1)
      rw [ev] at z; cases z
      exact ⟨.refl _ _, w, rv⟩
    · cases e
theorem grow_lockF {d : Addr} {o : Obj} {u : HO} (h : H d = some u) (hd : isDic u = true) (hz : ∀ o x, u ≠ .frz o x) : Grow μ H μ (upd H d (.frz o u)) := by
  refine ⟨⟨⟨[], by simp, by simp⟩, fun b v _ e _ => ?_, fun b v e n => ?_⟩, fun b x v e => ?_⟩
  · by_cases z : b = d
    · subst z
      rw [h] at e; cases e
      refine ⟨_, upd_same, ?_⟩
      rw [core_self hz]; simp only [core, if_pos hd]
    · exact ⟨v, by rw [upd_ne z]; exact e, rfl⟩
  · by_cases z : b = d
    · subst z; exact ⟨_, upd_same, by simp⟩
    · exact ⟨v, by rw [upd_ne z]; exact e, n⟩
  · rw [upd_ne (fun z => by subst z; rw [h] at e; cases e; exact hz _ _ rfl)]; exact e
/-- a frozen dict is locked -/
theorem W.lockF {d : Addr} {o : Obj} {u : HO} (w : W g μ H S) (hm : d ∉ μ) (h : H d = some u) (hd : isDic u = true) (hz : ∀ o x, u ≠ .frz o x) : W g μ (upd H d (.frz o u)) S where
  len := w.len
  nd := w.nd
  cell := fun n a c e1 e2 => (w.cell n a c e1 e2).mono (grow_lockF h hd hz) (upd_ne fun z => hm (by rw [← z]; exact List.mem_of_getElem? e1))
  tb := g.tbk _ _ (fun b v e q => by
    rw [upd_ne (fun z => ?_)]
    · exact e
    · subst z
      rw [h] at e; cases e
      rcases q with ⟨ps, rfl⟩ | ⟨φ, rfl⟩ <;> cases hd) w.tb
/-- a dict of the store is locked -/
theorem W.lockC {n : Nat} {a : Addr} {o : Obj} {u : HO} {k : Nat} {l : List (D × D)} (w : W g μ H S) (e : μ[n]? = some a) (h : H a = some u) (hq : DicAt g H μ k l u) : W g μ (upd H a (.frz o u)) (S.set n (.dict k true l)) ∧ Grow μ H μ (upd H a (.frz o u)) := by
  have hd : isDic u = true := by rcases hq with ⟨_, _, rfl, _⟩ | ⟨_, _, rfl, _⟩ <;> rfl
  have hz : ∀ o x, u ≠ .frz o x := by rcases hq with ⟨_, _, rfl, _⟩ | ⟨_, _, rfl, _⟩ <;> simp
  have gr : Grow μ H μ (upd H a (.frz o u)) := grow_lockF h hd hz
  exact ⟨w.set e ⟨u, hq.mono gr, by rw [if_pos rfl]; exact ⟨o, upd_same⟩⟩, gr⟩
end
def rSrc (g : G) : RI := fun v H R => ∃ d S μ, W g μ H S ∧ Rep g H μ d v ∧ match srcOf d S with
  | some (lk, S') => ∀ J H' μ', Grow μ H μ' H' → W g μ' H' S' → SrcOk g J lk μ' H' → R J H'
  | none => False
theorem rd_cases {H : Hp} {a : Addr} {u : HO} (h : Rd H a u) : H a = some u ∨ ∃ o, H a = some (.frz o u) := h
theorem set_self {S : Sto} {n : Nat} {c : Cell} (h : S[n]? = some c) : S.set n c = S := by
  apply List.ext_getElem?
  intro i
  by_cases z : n = i
  · subst z
    rw [List.getElem?_set_self (List.getElem?_eq_some_iff.mp h).1, h]
  · rw [List.getElem?_set_ne z]
section
variable {g : G} {N : List Str} {sc : Scope} {L : Nat} {Wx : WX} {X : Cx} {tg : Expr}
theorem itr_src (C : CtxOk g N sc L Wx X) : PItr X tg (rSrc g) := PItr.pick fun v H R h => by
  obtain ⟨d, S, μ, w, r, h⟩ := h
  unfold srcOf at h
  cases d with
  | ls l =>
    simp only [Rep] at r
    obtain ⟨p, vs, rfl, n, h1, q⟩ := r
    refine ⟨_, itr_list, p, rfl, ⟨vs, .of h1⟩, ?_⟩
    rw [C.K]
    exact h _ H μ (.refl _ _) w (src_list (.inl ⟨n, .inl h1⟩) q)
  | sq l =>
    simp only [Rep] at r
    obtain ⟨p, vs, rfl, h1, q⟩ := r
    refine ⟨_, itr_list, p, rfl, ⟨vs, by rw [C.K]; exact h1.sq⟩, ?_⟩
    rw [C.K]
    exact h _ H μ (.refl _ _) w (src_list h1 q)
  | tup l =>
    simp only [Rep] at r
    obtain ⟨p, vs, rfl, n, h1, q⟩ := r
    refine ⟨_, itr_tup, p, rfl, ⟨vs, .of h1⟩, ?_⟩
    rw [C.K]
    exact h _ H μ (.refl _ _) w (src_tup (fun μ' H' gr => .of (gr.at n h1 rfl rfl fun ps z => by cases z)) q)
  | kt l =>
    simp only [Rep] at r
    obtain ⟨p, vs, rfl, h1, q⟩ := r
    refine ⟨_, itr_tup, p, rfl, ⟨vs, by rw [C.K]; exact h1.sq⟩, ?_⟩
    rw [C.K]
    exact h _ H μ (.refl _ _) w (src_tup (fun μ' H' gr => h1.sq) q)
  | str x =>
    simp only [Rep] at r
    exact ⟨_, itr_str, x, r, h _ H μ (.refl _ _) w src_str⟩
  | dc k l =>
    simp only [Rep] at r
    obtain ⟨a, rfl, n, ⟨_, ks, rd, q⟩ | ⟨_, ks, rd, q⟩⟩ := r
    · rcases rd_cases rd with hd | ⟨o, hd⟩
      · refine ⟨_, itr_lock itr_keys, a, _, hd, trivial, fun o => ⟨a, o, rfl, .inl ⟨ks, upd_same, ?_⟩⟩⟩
        have gr : Grow μ H μ (upd H a (.frz o (.dK ks))) := grow_lockF hd rfl (by simp)
        exact h _ _ μ gr (w.lockF n hd rfl (by simp)) (src_keysK upd_same (q.mono gr))
      · exact ⟨_, itr_keys, a, o, rfl, .inl ⟨ks, hd, h _ _ μ (.refl _ _) w (src_keysK hd q)⟩⟩
    · rcases rd_cases rd with hd | ⟨o, hd⟩
      · refine ⟨_, itr_lock itr_keys, a, _, hd, trivial, fun o => ⟨a, o, rfl, .inr ⟨ks, upd_same, ?_⟩⟩⟩
        have gr : Grow μ H μ (upd H a (.frz o (.dT ks))) := grow_lockF hd rfl (by simp)
        exact h _ _ μ gr (w.lockF n hd rfl (by simp)) (src_keysT upd_same (q.mono gr))
      · exact ⟨_, itr_keys, a, o, rfl, .inr ⟨ks, hd, h _ _ μ (.refl _ _) w (src_keysT hd q)⟩⟩
  | ref n =>
    simp only at h
    split at h
    · rename_i lk S' e
      split at e
      · rename_i l hs
        cases e
        obtain ⟨a, rfl, ha, hm, vs, h1, q⟩ := w.ref r hs
        refine ⟨_, itr_list, a, rfl, ⟨vs, .of h1⟩, ?_⟩
        rw [C.K]
        exact h _ H μ (.refl _ _) w (src_live ha)
      · rename_i k b l hs
        cases e
        obtain ⟨a, rfl, ha, hm, u, hq, h1⟩ := w.ref r hs
        cases b with
        | true =>
          rw [if_pos rfl] at h1
          obtain ⟨o, h1⟩ := h1
          rw [set_self hs] at h
          refine ⟨_, itr_keys, a, o, rfl, ?_⟩
          rcases hq with ⟨_, ks, rfl, q⟩ | ⟨_, ks, rfl, q⟩
          · exact .inl ⟨ks, h1, h _ _ μ (.refl _ _) w (src_keysK h1 q)⟩
          · exact .inr ⟨ks, h1, h _ _ μ (.refl _ _) w (src_keysT h1 q)⟩
        | false =>
          rw [if_neg (by simp)] at h1
          refine ⟨_, itr_lock itr_keys, a, _, h1, by rcases hq with ⟨_, ks, rfl, _⟩ | ⟨_, ks, rfl, _⟩ <;> trivial, fun o => ⟨a, o, rfl, ?_⟩⟩
          obtain ⟨w', gr⟩ := w.lockC (o := o) ha h1 hq
          rcases hq with ⟨_, ks, rfl, q⟩ | ⟨_, ks, rfl, q⟩
          · exact .inl ⟨ks, upd_same, h _ _ μ gr w' (src_keysK upd_same (q.mono gr))⟩
          · exact .inr ⟨ks, upd_same, h _ _ μ gr w' (src_keysT upd_same (q.mono gr))⟩
      · cases e
    · exact h.elim
  | non => exact h.elim
  | bl => exact h.elim
  | int => exact h.elim
  | ob => exact h.elim
  | fn => exact h.elim
  | lam => exact h.elim
end
/-- the dict that is locked by a walk -/
def ulOf (d : D) (S : Sto) : Option Nat := match d with
  | .ref m => match S[m]? with
    | some (.dict _ false _) => some m
    | _ => none
  | _ => none
/-- for x in e -/
def gSrc (f : D → Sto → Option (Look × Sto)) (a : GE) : GI := fun ρ S => match a ρ S with
  | .ok d S1 => match f d S1 with
    | some (lk, S2) => .ok lk S2 (ulOf d S1)
    | none => .bad
  | .exc c S1 => .exc c S1
  | .bad => .bad
section
variable {g : G} {N : List Str} {sc : Scope} {L : Nat} {tg e : Expr} {me : GE} {pos p : Pos}
theorem ulOf_at {μ μ' : List Addr} {H H' : Hp} {S : Sto} {d : D} {v : V} (w : W g μ H S) (r : Rep g H μ d v) (gr : Grow μ H μ' H') : UlAt H μ' (ulOf d S) := by
  intro m e
  unfold ulOf at e
  split at e
  · split at e
    · rename_i k l hs
      cases e
      obtain ⟨a, ha, hm, u, hq, hl⟩ := w.ix hs
      rw [if_neg (by simp)] at hl
      refine ⟨a, gr.get ha, fun o x z => ?_⟩
      rw [hl] at z; cases z
      rcases hq with ⟨_, ks, q, _⟩ | ⟨_, ks, q, _⟩ <;> cases q
    · cases e
  · cases e
theorem PostI.ex {μ : List Addr} {H : Hp} {r : Res} {f : D → Sto → Option (Look × Sto)} {R : It → Hp → Prop} {E : Str → Hp → Prop} {K : VK}
    (h : PostI g μ H (match r with
      | .ok d S1 => match f d S1 with
        | some (lk, S2) => .ok lk S2 (ulOf d S1)
        | none => .bad
      | .exc c S1 => .exc c S1
      | .bad => .bad) R E)
    (k : ∀ d S1 v H1 μ1, Grow μ H μ1 H1 → W g μ1 H1 S1 → Rep g H1 μ1 d v → (match f d S1 with
      | some (lk, S2) => ∀ J H' μ', Grow μ1 H1 μ' H' → W g μ' H' S2 → SrcOk g J lk μ' H' → R J H'
      | none => False) → K v H1) : PostR g μ H r K E := by
  cases r with
  | ok d S1 =>
    intro v H1 μ1 g1 w1 r1
    refine k d S1 v H1 μ1 g1 w1 r1 ?_
    simp only at h
    split at h
    · exact fun J H' μ' gr w s => h J H' μ' (g1.trans gr) w s ((ulOf_at w1 r1 gr).back g1)
    · exact h.elim
  | exc c S1 => exact h
  | bad => exact h
theorem ri_src (he : Real g N sc L e me) : RealI g N sc L tg e (gSrc srcOf me) := by
  intro Wx X C
  refine (pi_of (he Wx X C) (itr_src C)).weak ?_
  rintro σ H R ⟨ρ, S, μ, hρ, hw, h⟩
  refine ⟨ρ, S, μ, hρ, hw, PostI.ex (f := srcOf) h fun d S1 v H1 μ1 g1 w1 r1 h1 => ⟨d, S1, μ1, w1, r1, h1⟩⟩
end
end Gp

set_option Elab.async false
set_option linter.all false
set_option maxRecDepth 100000
/-! Gp12: range, enumerate, the walks of dicts -/
namespace PySem
open Sem (wp)
set_option maxHeartbeats 1000000 in
theorem gp_meets_enumerate_newB {v : Value} {o : Obj} {H : Heap → Prop} (B : Begins v o H) :
    Meets (Builtin.«enumerate.__new__» ⟨[.type "enumerate", v], []⟩) (fun _ R s => H s.heap ∧
      R (.ok (.ret (.ref (s.heap.push o).objs.size))) { s with heap := (s.heap.push o).push { cls := .type "enumerate", data := .fields #[.none, .bool false, .ref s.heap.objs.size, rawInt 0, .none, .none] } }) :=
  .of_wp fun prog w A R s h => by
    obtain ⟨hp, g, d, tk, os⟩ := s; obtain ⟨h1, h⟩ := h
    have hsub := sub_enumerate
    have q1 : ∀ {A' : Around} {E : Value → Shared → Prop} {Q : Value → Shared → Prop}, Q (.ref hp.objs.size) ⟨hp.push o, g, d, tk, os⟩ → wpAny (model prog w) A' (pyIter v) Q E ⟨hp, g, d, tk, os⟩ :=
      fun q => B.iter prog w _ _ ⟨hp, g, d, tk, os⟩ _ h1 q
    wp_walk using q1
    refine wpAny_stack_any fun st => wpAny_pure ?_
    split
    · rename_i c _ _ _ _ _
      cases (c == Value.type "enumerate")
      · wp_walk using q1
        exact ⟨_, rfl, h⟩
      · wp_walk using q1
        exact ⟨_, rfl, h⟩
    · wp_walk using q1
      exact ⟨_, rfl, h⟩
section
variable {prog : Program} {w : World} {A : Around} {E : Value → Shared → Prop} {s : Shared}
theorem gp_enum_begins {v : Value} {o : Obj} {H : Heap → Prop} {Q : Value → Shared → Prop} (B : Begins v o H) (h1 : H s.heap)
    (h : ∀ h', IsEnum h' (s.heap.objs.size + 1) s.heap.objs.size 0 .none → h'.get? s.heap.objs.size = some o → h'.objs.size = s.heap.objs.size + 2 →
      (∀ b o, s.heap.get? b = some o → h'.get? b = some o) → Q (.ref (s.heap.objs.size + 1)) { s with heap := h' }) :
    wpAny (model prog w) A (call (.type "enumerate") [v]) Q E s := by
  refine callType_new F.called_enumerate (by decide) (F.typeCall_enumerate_1 _) (F.newCall_enumerate_1 _) (fun obj => F.args_object_init_2 obj _) F.entry_enumerate_new
    (gp_meets_enumerate_newB B) ⟨h1, ?_⟩
  have hz : (s.heap.push o).objs.size = s.heap.objs.size + 1 := Heap.size_push ..
  show _ ∧ _
  rw [hz]
  have he : IsEnum ((s.heap.push o).push { cls := .type "enumerate", data := .fields #[.none, .bool false, .ref s.heap.objs.size, rawInt 0, .none, .none] }) (s.heap.objs.size + 1) s.heap.objs.size 0 .none := by
    have := Heap.get?_push_size (s.heap.push o) (o := { cls := .type "enumerate", data := .fields #[.none, .bool false, .ref s.heap.objs.size, rawInt 0, .none, .none] }) rfl
    rw [hz] at this; exact this
  refine ⟨⟨_, he, rfl⟩, h _ he (Heap.get?_push_of_some _ (Heap.get?_push_size _ B.free)) (by rw [Heap.size_push, hz]) fun b o x => Heap.get?_push_of_some _ (Heap.get?_push_of_some _ x)⟩
theorem gp_enum_end {e it : Addr} {i : Int} {old : Value} {Q : Option Value → Shared → Prop} (he : IsEnum s.heap e it i old)
    (hdone : ∀ (Q : Value → Shared → Prop) (E : Value → Shared → Prop), (∀ h' e, Heap.ExtBut it s.heap h' → (∃ o, h'.get? e = some o ∧ o.cls = .type "StopIteration") → E (.ref e) { s with heap := h' }) → wpAny (model prog w) A.in1 (Builtin.SmallTypes.nextOf (.ref it)) Q E s)
    (hQ : ∀ h', Heap.ExtBut it s.heap h' → Q none { s with heap := h' }) : wpAny (model prog w) A (pyNext (.ref e)) Q E s := by
  have hT : s.TypeIs (.ref e) "enumerate" := ⟨_, he, rfl⟩
  unfold pyNext
  refine wpAny_bind (wpAny_attempt (wpAny_callSpecial?_slot (name := Str.ofString "__next__") hT F.slot_enumerate_next
    (wpAny_call_entry F.slot_enumerate_next hT F.entry_enumerate_next ?_ (F.args_enumerate_next_1 _))))
  show wpAny _ _ (field (.ref e) 2 >>= _) _ _ _
  refine wpAny_bind (wpAny_field he rfl (x := .ref it) rfl ?_)
  refine wpAny_bind (hdone _ _ fun h' x he' hx' => ?_)
  obtain ⟨o, ho, hc⟩ := hx'
  refine wpAny_bind (wpAny_isInstance (T := "StopIteration") (b := true) ⟨o, ho, hc⟩ isSubtype_stop ?_)
  exact wpAny_pure (hQ _ he')
end
end PySem
namespace Gp
open PySem PySem.Spec L2
open PyProof.Rows hiding St
/-! ### enumerate over a tuple, a text -/
def Itet (K : PySem.W.Frag) (a : Addr) : It :=
  ⟨fun i H => ∃ (xs : List V) (x : V), SqT K H a xs ∧ xs[i]? = some x, fun i H v H' => ∃ T x, v = .ref T ∧ H T = none ∧ H' = upd H T (.tup [.int (i : Nat), x]) ∧ ∀ xs, SqT K H a xs → xs[i]? = some x, fun i H => ∃ xs : List V, SqT K H a xs ∧ xs.length ≤ i⟩
def Ites (x : Str) : It :=
  ⟨fun i _ => i < x.cps.size, fun i H v H' => ∃ T c, v = .ref T ∧ H T = none ∧ H' = upd H T (.tup [.int (i : Nat), .str ⟨#[c]⟩]) ∧ x.cps[i]? = some c, fun i _ => x.cps.size ≤ i⟩
section
variable {P : Program} {w : World} {K : PySem.W.Frag} {elts : List Expr} {kk : Nat} {tpos : Pos}
theorem turn_enumT (a e it : Addr) (hai : a ≠ it) (hae : a ≠ e) :
    Turn P w K (.Tuple elts kk tpos) (Itet K a) [e, it] e (fun i h => (∃ old, IsEnum h e it ((i : Nat) : Int) old) ∧ h.IsTupleIter it a i ∧ e ≠ it) where
  mem := by simp
  obj := fun i h st b hb => by
    obtain ⟨⟨old, he⟩, ⟨o, ho, hc, hd⟩, _⟩ := st
    have e' : b = e ∨ b = it := by simpa using hb
    rcases e' with z | z
    · rw [z]; exact ⟨_, he, fun v q => nomatch q⟩
    · rw [z]; exact ⟨o, ho, fun v q => by rw [hd] at q; cases q⟩
  keep := fun i h h' st k => let ⟨⟨old, he⟩, hi, hne⟩ := st; ⟨⟨old, k e (by simp) _ he⟩, hi.at fun o q => k it (by simp) o q, hne⟩
  item := by
    intro X hP hw hK hc i pins s σ H E I hf st hg
    subst hP hw hK
    obtain ⟨⟨old, he⟩, hit, hne⟩ := st
    obtain ⟨xs, x, hq, hx⟩ := hg
    obtain ⟨its, rv, p, hz⟩ := I.tuple hq
    obtain ⟨u, hu, ru⟩ := rv.get hx
    have hel : e < s.heap.objs.size := Heap.lt_size he
    have hil : it < s.heap.objs.size := by obtain ⟨_, q, _⟩ := hit; exact Heap.lt_size q
    have hui : i < its.toArray.size := by have := (List.getElem?_eq_some_iff.mp hu).1; simpa using this
    refine wpAny_pyNext_enum_itemD (Draws.tuple (A := X.A.in1) (show X.A.in1.handled = none from (I.ok.hd hc)) it a hai its.toArray) he ⟨hit, show s.heap.IsTuple a its.toArray from p⟩ hui hne (by simp [hne, Ne.symm hae]) fun y h' tk hy ho hst hT hsz hk => ?_
    obtain ⟨hit', _⟩ := hst
    have hyu : y = u := by
      have hu' : its.toArray[i]? = some u := by simpa using hu
      rw [hu'] at hy; exact (Option.some.inj hy).symm
    subst hyu
    refine ⟨_, rfl, wpAny_letOwnedTupleGo_enum (s := { s with heap := h', toks := tk + 1 }) ho fun h'' he' sb => ?_⟩
    have hT2 : h''.get? s.heap.objs.size = some { cls := .type "tuple", data := .seq #[.int i tk, y] } := (sb.2 _ (Nat.ne_of_gt hel)).trans hT
    have new : ObjOk X.prog X.w (upd H s.heap.objs.size (.tup [.int (i : Nat), x])) h'' s.heap.objs.size (.tup [.int (i : Nat), x]) :=
      ⟨by show 2 ≤ sizeLine; decide, [.int i tk, y], .cons ⟨_, rfl⟩ (.cons ru .nil), ⟨_, hT2, rfl, _, rfl⟩⟩
    have I1 : Inv X pins σ (upd H s.heap.objs.size (.tup [.int (i : Nat), x])) { s with heap := h'', toks := tk + 1 } :=
      I.turnedNew (ch := [e, it]) (fun b ob hb q => (sb.2 b (fun z => hb (by simp [z]))).trans (hk b ob (fun z => hb (by simp [z])) (fun z => hb (by simp [z])) q)) hf (Nat.le_refl _) new
    refine ⟨.ref s.heap.objs.size, _, I1, rfl, ⟨_, x, rfl, I.hok.fresh (Nat.le_refl _), rfl, fun ys hy => by rw [I.tuple_inj hy hq]; exact hx⟩, ⟨⟨y, ?_⟩, hit'.at fun o q => (sb.2 it (Ne.symm hne)).trans q, hne⟩, fun b hb => ?_⟩
    · have e1 : ((i + 1 : Nat) : Int) = (i : Int) + 1 := by omega
      rw [e1]; exact he'
    · have hb' : b < s.heap.objs.size := by
        have e' : b = e ∨ b = it := by simpa using hb
        rcases e' with z | z
        · rw [z]; exact hel
        · rw [z]; exact hil
      rw [upd_ne (Nat.ne_of_lt hb')]
      exact (hf b hb).1
  done := by
    intro X hP hw hK hc i pins s σ H E I hf st hg
    subst hP hw hK
    obtain ⟨⟨old, he⟩, hit, hne⟩ := st
    obtain ⟨xs, hq, hx⟩ := hg
    obtain ⟨its, rv, p, hz⟩ := I.tuple hq
    obtain ⟨f0, f1, f2, f3, f4, f5⟩ := hf it (by simp)
    have hl := rv.length
    exact gp_enum_end he (fun Q E hE => wpAny_nextOf_tuple_end (show X.A.in1.handled = none from (I.ok.hd hc)) hit (show s.heap.IsTuple a its.toArray from p) (Array.getElem?_eq_none (by simp; omega)) hE) fun h' eb => ⟨rfl, I.turned (t' := s.toks) (fun b o hb q => eb b o hb q) f0 f1 f3 f4 f5⟩
  self := fun A i s Q E st h => let ⟨⟨_, he⟩, _⟩ := st; wpAny_pyIter_enum he h
theorem turn_enumS {x : Str} {t : Tok} (e it : Addr) :
    Turn P w K (.Tuple elts kk tpos) (Ites x) [e, it] e (fun i h => (∃ old, IsEnum h e it ((i : Nat) : Int) old) ∧ h.IsStrIter it (strIterType x) x t i ∧ e ≠ it) where
  mem := by simp
  obj := fun i h st b hb => by
    obtain ⟨⟨old, he⟩, ⟨o, ho, hc, hd⟩, _⟩ := st
    have e' : b = e ∨ b = it := by simpa using hb
    rcases e' with z | z
    · rw [z]; exact ⟨_, he, fun v q => nomatch q⟩
    · rw [z]; exact ⟨o, ho, fun v q => by rw [hd] at q; cases q⟩
  keep := fun i h h' st k => let ⟨⟨old, he⟩, ⟨o, ho, r⟩, hne⟩ := st; ⟨⟨old, k e (by simp) _ he⟩, ⟨o, k it (by simp) o ho, r⟩, hne⟩
  item := by
    intro X hP hw hK hc i pins s σ H E I hf st hg
    subst hP hw hK
    obtain ⟨⟨old, he⟩, hit, hne⟩ := st
    have hel : e < s.heap.objs.size := Heap.lt_size he
    have hil : it < s.heap.objs.size := by obtain ⟨_, q, _⟩ := hit; exact Heap.lt_size q
    refine wpAny_pyNext_enum_itemD (Draws.text (A := X.A.in1) (show X.A.in1.handled = none from (I.ok.hd hc)) it x t) he hit hg hne (by simp [hne]) fun y h' tk hy ho hit' hT hsz hk => ?_
    obtain ⟨c, u, hcx, rfl⟩ := hy
    refine ⟨_, rfl, wpAny_letOwnedTupleGo_enum (s := { s with heap := h', toks := tk + 1 }) ho fun h'' he' sb => ?_⟩
    have hT2 : h''.get? s.heap.objs.size = some { cls := .type "tuple", data := .seq #[.int i tk, .str ⟨#[c]⟩ u] } := (sb.2 _ (Nat.ne_of_gt hel)).trans hT
    have new : ObjOk X.prog X.w (upd H s.heap.objs.size (.tup [.int (i : Nat), .str ⟨#[c]⟩])) h'' s.heap.objs.size (.tup [.int (i : Nat), .str ⟨#[c]⟩]) :=
      ⟨by show 2 ≤ sizeLine; decide, [.int i tk, .str ⟨#[c]⟩ u], .cons ⟨_, rfl⟩ (.cons ⟨_, rfl⟩ .nil), ⟨_, hT2, rfl, _, rfl⟩⟩
    have I1 : Inv X pins σ (upd H s.heap.objs.size (.tup [.int (i : Nat), .str ⟨#[c]⟩])) { s with heap := h'', toks := tk + 1 } :=
      I.turnedNew (ch := [e, it]) (fun b ob hb q => (sb.2 b (fun z => hb (by simp [z]))).trans (hk b ob (fun z => hb (by simp [z])) (fun z => hb (by simp [z])) q)) hf (Nat.le_refl _) new
    refine ⟨.ref s.heap.objs.size, _, I1, rfl, ⟨_, c, rfl, I.hok.fresh (Nat.le_refl _), rfl, hcx⟩, ⟨⟨.str ⟨#[c]⟩ u, ?_⟩, ?_, hne⟩, fun b hb => ?_⟩
    · have e1 : ((i + 1 : Nat) : Int) = (i : Int) + 1 := by omega
      rw [e1]; exact he'
    · obtain ⟨o, ho, r⟩ := hit'
      exact ⟨o, (sb.2 it (Ne.symm hne)).trans ho, r⟩
    · have hb' : b < s.heap.objs.size := by
        have e' : b = e ∨ b = it := by simpa using hb
        rcases e' with z | z
        · rw [z]; exact hel
        · rw [z]; exact hil
      rw [upd_ne (Nat.ne_of_lt hb')]
      exact (hf b hb).1
  done := by
    intro X hP hw hK hc i pins s σ H E I hf st hg
    subst hP hw hK
    obtain ⟨⟨old, he⟩, hit, hne⟩ := st
    obtain ⟨f0, f1, f2, f3, f4, f5⟩ := hf it (by simp)
    have hx : x.cps[i]? = none := Array.getElem?_eq_none hg
    refine gp_enum_end he (fun Q E hE => ?_) fun h' eb => ⟨rfl, I.turned (t' := s.toks) (fun b o hb q => eb b o hb q) f0 f1 f3 f4 f5⟩
    unfold strIterType at hit
    split at hit
    · exact wpAny_nextOf_ascii_end (show X.A.in1.handled = none from (I.ok.hd hc)) hit hx hE
    · exact wpAny_nextOf_wide_end (show X.A.in1.handled = none from (I.ok.hd hc)) hit hx hE
  self := fun A i s Q E st h => let ⟨⟨_, he⟩, _⟩ := st; wpAny_pyIter_enum he h
end
/-- enumerate(v), by values -/
def PEnum (X : Cx) (tg : Expr) (r : RI) : Prop := ∀ (pins : List (Addr × Obj)) (s : Shared) (σ : St) (H : Hp) (v : V) (u : Value) (R : It → Hp → Prop), Inv X pins σ H s → RelV v u → r v H R →
  wpAny (model X.prog X.w) X.A (call (.type "enumerate") [u]) (fun z s1 => wpAny (model X.prog X.w) X.A (pyIter z) (PIE X pins σ tg R) X.xe s1) X.xe s
theorem PEnum.pick {X : Cx} {tg : Expr} {r' : RI} (h : ∀ v H R, r' v H R → ∃ r, PEnum X tg r ∧ r v H R) : PEnum X tg r' := fun pins s σ H v u R I rv q => by
  obtain ⟨r, k, z⟩ := h v H R q
  exact k pins s σ H v u R I rv z
section
variable {X : Cx} {elts : List Expr} {kk : Nat} {tpos : Pos}
theorem enum_list : PEnum X (.Tuple elts kk tpos) (fun v H R => ∃ a xs, v = .ref a ∧ SqL X.K H a xs ∧ R (Ite X.K a) H) := by
  intro pins s1 σ H1 v u R I1 r q
  obtain ⟨a, xs, rfl, hq, q⟩ := q
  cases r
  obtain ⟨its, rv, p', hz⟩ := I1.list hq
  refine call_enumerate_list p'.isList fun h' he hit hsz hk => wpAny_pyIter_enum he ?_
  have I2 : Inv X pins σ H1 { s1 with heap := h' } := I1.kept (t' := s1.toks) hk
  refine ⟨s1.heap.objs.size + 1, [s1.heap.objs.size + 1, s1.heap.objs.size], _, _, H1, rfl, I2, turn_enum a (s1.heap.objs.size + 1) s1.heap.objs.size, ⟨⟨.none, he⟩, hit, Nat.succ_ne_self _⟩, fun b hb => ?_, q⟩
  have e' : b = s1.heap.objs.size + 1 ∨ b = s1.heap.objs.size := by simpa using hb
  have hle : s1.heap.objs.size ≤ b := by
    rcases e' with z | z
    · rw [z]; exact Nat.le_add_right _ _
    · rw [z]; exact Nat.le_refl _
  exact I1.fpOk hle (I1.hok.fresh hle)
theorem enum_tup : PEnum X (.Tuple elts kk tpos) (fun v H R => ∃ a xs, v = .ref a ∧ SqT X.K H a xs ∧ R (Itet X.K a) H) := by
  intro pins s1 σ H1 v u R I1 r q
  obtain ⟨a, xs, rfl, hq, q⟩ := q
  cases r
  obtain ⟨its, rv, p', hz⟩ := I1.tuple hq
  have hal : a < s1.heap.objs.size := by obtain ⟨o, ho, _⟩ := id p'; exact Heap.lt_size ho
  refine gp_enum_begins (begins_tuple a its.toArray) (show s1.heap.IsTuple a its.toArray from p') fun h' he hit hsz hk => wpAny_pyIter_enum he ?_
  have I2 : Inv X pins σ H1 { s1 with heap := h' } := I1.kept (t' := s1.toks) hk
  refine ⟨s1.heap.objs.size + 1, [s1.heap.objs.size + 1, s1.heap.objs.size], _, _, H1, rfl, I2, turn_enumT a (s1.heap.objs.size + 1) s1.heap.objs.size (Nat.ne_of_lt hal) (Nat.ne_of_lt (Nat.lt_succ_of_lt hal)), ⟨⟨.none, he⟩, ⟨_, hit, rfl, rfl⟩, Nat.succ_ne_self _⟩, fun b hb => ?_, q⟩
  have e' : b = s1.heap.objs.size + 1 ∨ b = s1.heap.objs.size := by simpa using hb
  have hle : s1.heap.objs.size ≤ b := by
    rcases e' with z | z
    · rw [z]; exact Nat.le_add_right _ _
    · rw [z]; exact Nat.le_refl _
  exact I1.fpOk hle (I1.hok.fresh hle)
theorem enum_str : PEnum X (.Tuple elts kk tpos) (fun v H R => ∃ x, v = .str x ∧ R (Ites x) H) := by
  intro pins s1 σ H1 v u R I1 r q
  obtain ⟨x, rfl, q⟩ := q
  obtain ⟨t, rfl⟩ := r
  refine gp_enum_begins (begins_text x t) trivial fun h' he hit hsz hk => wpAny_pyIter_enum he ?_
  have I2 : Inv X pins σ H1 { s1 with heap := h' } := I1.kept (t' := s1.toks) hk
  refine ⟨s1.heap.objs.size + 1, [s1.heap.objs.size + 1, s1.heap.objs.size], _, _, H1, rfl, I2, turn_enumS (s1.heap.objs.size + 1) s1.heap.objs.size, ⟨⟨.none, he⟩, ⟨_, hit, rfl, rfl⟩, Nat.succ_ne_self _⟩, fun b hb => ?_, q⟩
  have e' : b = s1.heap.objs.size + 1 ∨ b = s1.heap.objs.size := by simpa using hb
  have hle : s1.heap.objs.size ≤ b := by
    rcases e' with z | z
    · rw [z]; exact Nat.le_add_right _ _
    · rw [z]; exact Nat.le_refl _
  exact I1.fpOk hle (I1.hok.fresh hle)
theorem pi_enumG {e : Expr} {ta : TA} {p pos : Pos} {tg : Expr} {r : RI} (hr : PEnum X tg r) (hg : Gl X "enumerate") (hm : X.mg "enumerate" = none) (ha : PA X [e] ta) (hs : starEach [e] X.env = [(false, eval e X.env)] := by rfl) :
    PI X tg (.Call (.Name "enumerate" p) [e] [] pos) (fun σ H R => ta σ H fun vs H1 => ∃ v, vs = [v] ∧ r v H1 R) := by
  refine ⟨fun pins s σ H R I h => ?_⟩
  refine Call_ (ld_blt I hg hm boot_enumerate (PyProof.Rows.callWith_type1 (thn (ha.run pos pins s σ H _ I h) fun us s1 ⟨vs, H1, I1, r1, q1⟩ => ?_) hs rfl))
  obtain ⟨v, ex, q⟩ := q1
  subst ex
  cases r1 with
  | cons r rr =>
    cases rr
    exact hr pins s1 σ H1 v _ R I1 r q
end

/-! ### ghosts -/
def enumLk (lk : Look) : Look := fun i S => (lk i S).map (Option.map fun x => .tup [.int i, x])
def enumOf (ds : List D) (S : Sto) : Option (Look × Sto) := match ds with
  | [.ls l] => some (enumLk (fixL l), S)
  | [.sq l] => some (enumLk (fixL l), S)
  | [.tup l] => some (enumLk (fixL l), S)
  | [.kt l] => some (enumLk (fixL l), S)
  | [.str x] => some (enumLk (fixL (signs x)), S)
  | [.ref n] => match S[n]? with
    | some (.lst l) => some (enumLk (liveL n), S)
    | _ => none
  | _ => none
/-- a walk of arguments' values -/
def gSrcA (f : List D → Sto → Option (Look × Sto)) (l : List GE) : GI := fun ρ S => match gArgsR l ρ S with
  | .ok ds S1 => match f ds S1 with
    | some (lk, S2) => .ok lk S2 none
    | none => .bad
  | .exc c S1 => .exc c S1
  | .bad => .bad
section
variable {g : G} {μ μ' μ1 : List Addr} {H H' H1 : Hp} {S : Sto} {K : PySem.W.Frag}
theorem PostI.exA {r : AR} {f : List D → Sto → Option (Look × Sto)} {R : It → Hp → Prop} {E : Str → Hp → Prop} {K : List V → Hp → Prop}
    (h : PostI g μ H (match r with
      | .ok ds S1 => match f ds S1 with
        | some (lk, S2) => .ok lk S2 none
        | none => .bad
      | .exc c S1 => .exc c S1
      | .bad => .bad) R E)
    (k : ∀ ds S1 vs H1 μ1, Grow μ H μ1 H1 → W g μ1 H1 S1 → RepL g H1 μ1 ds vs → (match f ds S1 with
      | some (lk, S2) => ∀ J H' μ', Grow μ1 H1 μ' H' → W g μ' H' S2 → SrcOk g J lk μ' H' → R J H'
      | none => False) → K vs H1) : PostA g μ H r K E := by
  cases r with
  | ok ds S1 =>
    intro vs H1 μ1 g1 w1 r1
    refine k ds S1 vs H1 μ1 g1 w1 r1 ?_
    simp only at h
    split at h
    · exact fun J H' μ' gr w s => h J H' μ' (g1.trans gr) w s (fun m e => by cases e)
    · exact h.elim
  | exc c S1 => exact h
  | bad => exact h
theorem pair_rep {i : Nat} {d : D} {x : V} {T : Addr} (w : W g μ H S) (r : Rep g H μ d x) (hT : H T = none) : Grow μ H μ (upd H T (.tup [.int (i : Nat), x])) ∧ W g μ (upd H T (.tup [.int (i : Nat), x])) S ∧ Rep g (upd H T (.tup [.int (i : Nat), x])) μ (.tup [.int i, d]) (.ref T) := by
  have gr : Grow μ H μ (upd H T (.tup [.int (i : Nat), x])) := grow_fresh hT
  refine ⟨gr, w.add hT, rep_tup (w.add hT) upd_same (.cons (by simp [Rep]) (.cons (r.mono gr) .nil))⟩
theorem src_enum_fixed {J : It} {l : List D} (hs : ∀ i μ H S, Grow μ1 H1 μ H → W g μ H S → l.length ≤ i → J.stop i H)
    (hg : ∀ i μ H S d, Grow μ1 H1 μ H → W g μ H S → l[i]? = some d → J.go i H ∧ ∀ x H', J.yld i H x H' → Grow μ H μ H' ∧ W g μ H' S ∧ Rep g H' μ (.tup [.int i, d]) x) : SrcOk g J (enumLk (fixL l)) μ1 H1 := by
  refine ⟨fun i μ H S gr w e => ?_, fun i μ H S d gr w e => ?_⟩
  · unfold enumLk fixL at e
    cases q : l[i]? with
    | none => exact hs i μ H S gr w (List.getElem?_eq_none_iff.mp q)
    | some d => rw [q] at e; cases e
  · unfold enumLk fixL at e
    cases q : l[i]? with
    | none => rw [q] at e; cases e
    | some d' => rw [q] at e; cases e; exact hg i μ H S d' gr w q
theorem src_enum_list {a : Addr} {l : List D} {vs : List V} (h : LsI g H1 μ1 a vs) (r : RepL g H1 μ1 l vs) : SrcOk g (Ite g.K a) (enumLk (fixL l)) μ1 H1 :=
  src_enum_fixed (fun i μ H S gr w e => ⟨vs, (h.mono gr).sq, by rw [← r.length]; exact e⟩) fun i μ H S d gr w e => by
    obtain ⟨v, ev, rv⟩ := (r.mono gr).get e
    refine ⟨⟨vs, v, (h.mono gr).sq, ev⟩, ?_⟩
    rintro x H' ⟨T, y, rfl, hT, rfl, hy⟩
    have z := hy vs (h.mono gr).sq
    rw [ev] at z; cases z
    exact pair_rep w rv hT
theorem src_enum_tup {a : Addr} {l : List D} {vs : List V} (h : ∀ μ H, Grow μ1 H1 μ H → SqT g.K H a vs) (r : RepL g H1 μ1 l vs) : SrcOk g (Itet g.K a) (enumLk (fixL l)) μ1 H1 :=
  src_enum_fixed (fun i μ H S gr w e => ⟨vs, h _ _ gr, by rw [← r.length]; exact e⟩) fun i μ H S d gr w e => by
    obtain ⟨v, ev, rv⟩ := (r.mono gr).get e
    refine ⟨⟨vs, v, h _ _ gr, ev⟩, ?_⟩
    rintro x H' ⟨T, y, rfl, hT, rfl, hy⟩
    have z := hy vs (h _ _ gr)
    rw [ev] at z; cases z
    exact pair_rep w rv hT
theorem src_enum_str {x : Str} : SrcOk g (Ites x) (enumLk (fixL (signs x))) μ1 H1 :=
  src_enum_fixed (fun i μ H S gr w e => by show x.cps.size ≤ i; simpa [signs] using e) fun i μ H S d gr w e => by
    simp only [signs, List.getElem?_map, Option.map_eq_some_iff] at e
    obtain ⟨c, ec, rfl⟩ := e
    rw [Array.getElem?_toList] at ec
    refine ⟨(Array.getElem?_eq_some_iff.mp ec).1, ?_⟩
    rintro y H' ⟨T, c', rfl, hT, rfl, ec'⟩
    rw [ec] at ec'; cases ec'
    exact pair_rep w (by simp [Rep]) hT
theorem src_enum_live {n : Nat} {a : Addr} (h : μ1[n]? = some a) : SrcOk g (Ite g.K a) (enumLk (liveL n)) μ1 H1 := by
  refine ⟨fun i μ H S gr w e => ?_, fun i μ H S d gr w e => ?_⟩
  · unfold enumLk liveL at e
    split at e
    · rename_i l hs
      obtain ⟨vs, h1, q⟩ := w.cell n a _ (gr.get h) hs
      cases z : l[i]? with
      | none => exact ⟨vs, .of h1, by rw [← q.length]; exact List.getElem?_eq_none_iff.mp z⟩
      | some d => rw [z] at e; cases e
    · cases e
  · unfold enumLk liveL at e
    split at e
    · rename_i l hs
      obtain ⟨vs, h1, q⟩ := w.cell n a _ (gr.get h) hs
      cases z : l[i]? with
      | none => rw [z] at e; cases e
      | some d' =>
        rw [z] at e; cases e
        obtain ⟨v, ev, rv⟩ := q.get z
        refine ⟨⟨vs, v, .of h1, ev⟩, ?_⟩
        rintro x H' ⟨T, y, rfl, hT, rfl, hy⟩
        have z := hy vs (.of h1)
        rw [ev] at z; cases z
        exact pair_rep w rv hT
    · cases e
end
section
variable {g : G} {N : List Str} {sc : Scope} {L : Nat} {Wx : WX} {X : Cx} {tg e a b c : Expr} {me : GE} {pos p : Pos} {elts : List Expr} {kk : Nat} {tpos : Pos} {l : List GE}
def rEnum (g : G) : RI := fun v H R => ∃ d S μ, W g μ H S ∧ Rep g H μ d v ∧ match enumOf [d] S with
  | some (lk, S') => ∀ J H' μ', Grow μ H μ' H' → W g μ' H' S' → SrcOk g J lk μ' H' → R J H'
  | none => False
theorem enum_src (C : CtxOk g N sc L Wx X) : PEnum X (.Tuple elts kk tpos) (rEnum g) := PEnum.pick fun v H R h => by
  obtain ⟨d, S, μ, w, r, h⟩ := h
  unfold enumOf at h
  cases d with
  | ls l =>
    simp only [Rep] at r
    obtain ⟨p, vs, rfl, n, h1, q⟩ := r
    refine ⟨_, enum_list, p, vs, rfl, .of h1, ?_⟩
    rw [C.K]
    exact h _ H μ (.refl _ _) w (src_enum_list (.inl ⟨n, .inl h1⟩) q)
  | sq l =>
    simp only [Rep] at r
    obtain ⟨p, vs, rfl, h1, q⟩ := r
    refine ⟨_, enum_list, p, vs, rfl, by rw [C.K]; exact h1.sq, ?_⟩
    rw [C.K]
    exact h _ H μ (.refl _ _) w (src_enum_list h1 q)
  | tup l =>
    simp only [Rep] at r
    obtain ⟨p, vs, rfl, n, h1, q⟩ := r
    refine ⟨_, enum_tup, p, vs, rfl, .of h1, ?_⟩
    rw [C.K]
    exact h _ H μ (.refl _ _) w (src_enum_tup (fun μ' H' gr => .of (gr.at n h1 rfl rfl fun ps z => by cases z)) q)
  | kt l =>
    simp only [Rep] at r
    obtain ⟨p, vs, rfl, h1, q⟩ := r
    refine ⟨_, enum_tup, p, vs, rfl, by rw [C.K]; exact h1.sq, ?_⟩
    rw [C.K]
    exact h _ H μ (.refl _ _) w (src_enum_tup (fun μ' H' gr => h1.sq) q)
  | str x =>
    simp only [Rep] at r
    exact ⟨_, enum_str, x, r, h _ H μ (.refl _ _) w src_enum_str⟩
  | ref n =>
    simp only at h
    split at h
    · rename_i lk S' e
      split at e
      · rename_i l hs
        cases e
        obtain ⟨a, rfl, ha, hm, vs, h1, q⟩ := w.ref r hs
        refine ⟨_, enum_list, a, vs, rfl, .of h1, ?_⟩
        rw [C.K]
        exact h _ H μ (.refl _ _) w (src_enum_live ha)
      · cases e
    · exact h.elim
  | non => exact h.elim
  | bl => exact h.elim
  | int => exact h.elim
  | ob => exact h.elim
  | fn => exact h.elim
  | lam => exact h.elim
  | dc => exact h.elim
theorem ri_enum (ha : RealA g N sc L [e] l) (hg : sc.names.lookup ("enumerate" : Str) = some .globalImplicit) (hm : g.mg "enumerate" = none) (hs : ∀ env : Env, starEach [e] env = [(false, eval e env)]) :
    RealI g N sc L (.Tuple elts kk tpos) (.Call (.Name "enumerate" p) [e] [] pos) (gSrcA enumOf l) := by
  intro Wx X C
  refine (pi_enumG (enum_src C) (show Gl X _ by unfold Gl Env.kindOf; rw [C.sc]; exact hg) (by rw [C.mg]; exact hm) (ha.r Wx X C) (hs X.env)).weak ?_
  rintro σ H R ⟨ρ, S, μ, hρ, hw, h⟩
  refine ⟨ρ, S, μ, hρ, hw, PostI.exA (f := enumOf) h fun ds S1 vs H1 μ1 g1 w1 r1 h1 => ?_⟩
  match ds, r1, h1 with
  | [], _, h1 => exact h1.elim
  | [d], r1, h1 =>
    simp only [RepL] at r1
    obtain ⟨v, _, rfl, r, rfl⟩ := r1
    exact ⟨v, rfl, d, S1, μ1, w1, r, h1⟩
  | d :: d2 :: t, _, h1 => cases d <;> exact h1.elim

/-! ### range -/
def rngL (i c : Int) (n : Nat) : List D := (List.range n).map fun k => .int (i + (k : Nat) * c)
def small62 (j : Int) : Bool := decide (-(2 ^ 62) ≤ j) && decide (j < 2 ^ 62)
def rngOf1 (ds : List D) (S : Sto) : Option (Look × Sto) := match ds with
  | [.int j] => if small62 j then some (fixL (rngL 0 1 j.toNat), S) else none
  | _ => none
def rngOf2 (ds : List D) (S : Sto) : Option (Look × Sto) := match ds with
  | [.int i, .int j] => if small62 i && small62 j then some (fixL (rngL i 1 (j - i).toNat), S) else none
  | _ => none
def rngOf3 (ds : List D) (S : Sto) : Option (Look × Sto) := match ds with
  | [.int i, .int j, .int c] => if decide (c ≠ 0) && decide (c.natAbs < 1073741824) && Builtin.Range.small i j c && decide (0 ≤ Builtin.Range.rangeSize i j c) then some (fixL (rngL i c (Builtin.Range.rangeSize i j c).toNat), S) else none
  | _ => none
theorem src_rng {g : G} {μ1 : List Addr} {H1 : Hp} {i : Int} {n : Nat} : SrcOk g (Itr i n) (fixL (rngL i 1 n)) μ1 H1 :=
  src_fixed (fun k μ H S gr w e => by show n ≤ k; simpa [rngL] using e) fun k μ H S d gr w e => by
    have hk : k < n := by have := (List.getElem?_eq_some_iff.mp e).1; simpa [rngL] using this
    refine ⟨hk, ?_⟩
    rintro x H' ⟨rfl, rfl⟩
    simp only [rngL, List.getElem?_map, List.getElem?_range hk, Option.map_some, Option.some.injEq] at e
    subst e
    exact ⟨.refl _ _, w, by simp [Rep]⟩
theorem src_rngC {g : G} {μ1 : List Addr} {H1 : Hp} {i c : Int} {n : Nat} : SrcOk g (Itc i c n) (fixL (rngL i c n)) μ1 H1 :=
  src_fixed (fun k μ H S gr w e => by show n ≤ k; simpa [rngL] using e) fun k μ H S d gr w e => by
    have hk : k < n := by have := (List.getElem?_eq_some_iff.mp e).1; simpa [rngL] using this
    refine ⟨hk, ?_⟩
    rintro x H' ⟨rfl, rfl⟩
    simp only [rngL, List.getElem?_map, List.getElem?_range hk, Option.map_some, Option.some.injEq] at e
    subst e
    exact ⟨.refl _ _, w, by simp [Rep]⟩
theorem repL_int {g : G} {μ : List Addr} {H : Hp} : ∀ {is : List Int} {vs : List V}, RepL g H μ (is.map .int) vs → vs = is.map .int
  | [], vs, r => by simpa only [List.map_nil, RepL] using r
  | i :: is, vs, r => by
    simp only [List.map_cons, RepL, Rep] at r
    obtain ⟨v, t, rfl, rfl, q⟩ := r
    rw [repL_int q, List.map_cons]
theorem ri_range1 (ha : RealA g N sc L [a] l) (hg : sc.names.lookup ("range" : Str) = some .globalImplicit) (hm : g.mg "range" = none) (hs : ∀ env : Env, starEach [a] env = [(false, eval a env)]) :
    RealI g N sc L tg (.Call (.Name "range" p) [a] [] pos) (gSrcA rngOf1 l) := by
  intro Wx X C
  refine (pi_range1 (show Gl X _ by unfold Gl Env.kindOf; rw [C.sc]; exact hg) (by rw [C.mg]; exact hm) (ha.r Wx X C) (hs X.env)).weak ?_
  rintro σ H R ⟨ρ, S, μ, hρ, hw, h⟩
  refine ⟨ρ, S, μ, hρ, hw, PostI.exA (f := rngOf1) (K := fun vs H1 => ∃ j : Int, vs = [.int j] ∧ -(2 ^ 62) ≤ j ∧ j < 2 ^ 62 ∧ R (Itr 0 j.toNat) H1) h fun ds S1 vs H1 μ1 g1 w1 r1 h1 => ?_⟩
  unfold rngOf1 at h1
  split at h1
  · rename_i lk S2 e
    split at e
    · rename_i j
      split at e
      · rename_i hj
        cases e
        simp only [small62, Bool.and_eq_true, decide_eq_true_eq] at hj
        exact ⟨j, repL_int (is := [j]) r1, hj.1, hj.2, h1 _ H1 μ1 (.refl _ _) w1 src_rng⟩
      · cases e
    · cases e
  · exact h1.elim
theorem ri_range2 (ha : RealA g N sc L [a, b] l) (hg : sc.names.lookup ("range" : Str) = some .globalImplicit) (hm : g.mg "range" = none) (hs : ∀ env : Env, starEach [a, b] env = [(false, eval a env), (false, eval b env)]) (hs2 : ∀ env : Env, starEach [b] env = [(false, eval b env)]) :
    RealI g N sc L tg (.Call (.Name "range" p) [a, b] [] pos) (gSrcA rngOf2 l) := by
  intro Wx X C
  refine (pi_range2 (show Gl X _ by unfold Gl Env.kindOf; rw [C.sc]; exact hg) (by rw [C.mg]; exact hm) (ha.r Wx X C) (hs X.env) (hs2 X.env)).weak ?_
  rintro σ H R ⟨ρ, S, μ, hρ, hw, h⟩
  refine ⟨ρ, S, μ, hρ, hw, PostI.exA (f := rngOf2) (K := fun vs H1 => ∃ i j : Int, vs = [.int i, .int j] ∧ (-(2 ^ 62) ≤ i ∧ i < 2 ^ 62 ∧ -(2 ^ 62) ≤ j ∧ j < 2 ^ 62) ∧ R (Itr i (j - i).toNat) H1) h fun ds S1 vs H1 μ1 g1 w1 r1 h1 => ?_⟩
  unfold rngOf2 at h1
  split at h1
  · rename_i lk S2 e
    split at e
    · rename_i i j
      split at e
      · rename_i hj
        cases e
        simp only [small62, Bool.and_eq_true, decide_eq_true_eq] at hj
        exact ⟨i, j, repL_int (is := [i, j]) r1, ⟨hj.1.1, hj.1.2, hj.2.1, hj.2.2⟩, h1 _ H1 μ1 (.refl _ _) w1 src_rng⟩
      · cases e
    · cases e
  · exact h1.elim
theorem ri_range3 (ha : RealA g N sc L [a, b, c] l) (hg : sc.names.lookup ("range" : Str) = some .globalImplicit) (hm : g.mg "range" = none) (hs : ∀ env : Env, starEach [a, b, c] env = (false, eval a env) :: starEach [b, c] env) (hpl : ∀ env : Env, (backTo pos (starEach [b, c] env)).any (·.1) = false) :
    RealI g N sc L tg (.Call (.Name "range" p) [a, b, c] [] pos) (gSrcA rngOf3 l) := by
  intro Wx X C
  refine (pi_range3 (show Gl X _ by unfold Gl Env.kindOf; rw [C.sc]; exact hg) (by rw [C.mg]; exact hm) (ha.r Wx X C) (hs X.env) (hpl X.env)).weak ?_
  rintro σ H R ⟨ρ, S, μ, hρ, hw, h⟩
  refine ⟨ρ, S, μ, hρ, hw, PostI.exA (f := rngOf3) (K := fun vs H1 => ∃ (i j c : Int) (n : Nat), vs = [.int i, .int j, .int c] ∧ RgC i j c n ∧ R (Itc i c n) H1) h fun ds S1 vs H1 μ1 g1 w1 r1 h1 => ?_⟩
  unfold rngOf3 at h1
  split at h1
  · rename_i lk S2 e
    split at e
    · rename_i i j k
      split at e
      · rename_i hj
        cases e
        simp only [Bool.and_eq_true, decide_eq_true_eq] at hj
        obtain ⟨⟨⟨q1, q2⟩, q3⟩, q4⟩ := hj
        exact ⟨i, j, k, _, repL_int (is := [i, j, k]) r1, ⟨q1, q2, q3, (Int.toNat_of_nonneg q4).symm⟩, h1 _ H1 μ1 (.refl _ _) w1 src_rngC⟩
      · cases e
    · cases e
  · exact h1.elim

/-! ### the walks of a dict's items, values -/
def dictOf (d : D) (S : Sto) : Option (List (D × D) × Sto) := match d with
  | .dc 0 l => some (l, S)
  | .ref n => match S[n]? with
    | some (.dict 0 _ l) => some (l, S.set n (.dict 0 true l))
    | _ => none
  | _ => none
def itemsLk (d : D) (S : Sto) : Option (Look × Sto) := (dictOf d S).map fun x => (fixL (x.1.map fun p => .tup [p.1, p.2]), x.2)
def valsLk (d : D) (S : Sto) : Option (Look × Sto) := (dictOf d S).map fun x => (fixL (x.1.map (·.2)), x.2)
def keysLk (d : D) (S : Sto) : Option (Look × Sto) := (dictOf d S).map fun x => (fixL (x.1.map (·.1)), x.2)
theorem dictOf_rep {g : G} {μ : List Addr} {H : Hp} {S S' : Sto} {d : D} {v : V} {l : List (D × D)} (w : W g μ H S) (r : Rep g H μ d v) (e : dictOf d S = some (l, S')) :
    ∃ a, v = .ref a ∧ ∃ ks, ((∃ o, H a = some (.frz o (.dK ks)) ∧ W g μ H S' ∧ RepK g H μ l ks) ∨ (H a = some (.dK ks) ∧ ∀ o, W g μ (upd H a (.frz o (.dK ks))) S' ∧ Grow μ H μ (upd H a (.frz o (.dK ks))) ∧ RepK g (upd H a (.frz o (.dK ks))) μ l ks)) := by
  unfold dictOf at e
  split at e
  · cases e
    simp only [Rep] at r
    obtain ⟨a, rfl, n, ⟨_, ks, rd, q⟩ | ⟨k, _⟩⟩ := r
    · refine ⟨a, rfl, ks, ?_⟩
      rcases rd_cases rd with hd | ⟨o, hd⟩
      · refine .inr ⟨hd, fun o => ?_⟩
        have gr : Grow μ H μ (upd H a (.frz o (.dK ks))) := grow_lockF hd rfl (by simp)
        exact ⟨w.lockF n hd rfl (by simp), gr, q.mono gr⟩
      · exact .inl ⟨o, hd, w, q⟩
    · cases k
  · split at e
    · rename_i n b l hs
      cases e
      obtain ⟨a, rfl, ha, hm, u, hq, h1⟩ := w.ref r hs
      refine ⟨a, rfl, ?_⟩
      rcases id hq with ⟨_, ks, rfl, q⟩ | ⟨k, _⟩
      · refine ⟨ks, ?_⟩
        cases b with
        | true =>
          rw [if_pos rfl] at h1
          obtain ⟨o, h1⟩ := h1
          rw [set_self hs]
          exact .inl ⟨o, h1, w, q⟩
        | false =>
          rw [if_neg (by simp)] at h1
          refine .inr ⟨h1, fun o => ?_⟩
          obtain ⟨w', gr⟩ := w.lockC (o := o) ha h1 hq
          exact ⟨w', gr, q.mono gr⟩
      · cases k
    · cases e
  · cases e
section
variable {μ1 : List Addr} {H1 : Hp}
theorem src_items {a : Addr} {o : Obj} {l : List (D × D)} {ks : List (Key × V)} (h : H1 a = some (.frz o (.dK ks))) (r : RepK g H1 μ1 l ks) : SrcOk g (Iti a o ks) (fixL (l.map fun p => .tup [p.1, p.2])) μ1 H1 :=
  src_fixed (fun i μ H S gr w e => ⟨gr.fz _ _ _ h, by rw [← repK_len r]; simpa using e⟩) fun i μ H S d gr w e => by
    have hi : i < ks.length := by rw [← repK_len r]; have := (List.getElem?_eq_some_iff.mp e).1; simpa using this
    refine ⟨⟨gr.fz _ _ _ h, hi⟩, ?_⟩
    rintro x H' ⟨T, k, v, ek, rfl, hT, rfl⟩
    obtain ⟨z, hz, rz⟩ := r.get ek
    rw [List.getElem?_map, hz] at e
    cases e
    have g2 : Grow μ H μ (upd H T (.tup [kV k, v])) := grow_fresh hT
    exact ⟨g2, w.add hT, rep_tup (w.add hT) upd_same (.cons (rep_kD.mpr rfl) (.cons ((rz.mono gr).mono g2) .nil))⟩
theorem src_vals {a : Addr} {o : Obj} {l : List (D × D)} {ks : List (Key × V)} (h : H1 a = some (.frz o (.dK ks))) (r : RepK g H1 μ1 l ks) : SrcOk g (Itd a o ks) (fixL (l.map (·.2))) μ1 H1 :=
  src_fixed (fun i μ H S gr w e => ⟨gr.fz _ _ _ h, by rw [← repK_len r]; simpa using e⟩) fun i μ H S d gr w e => by
    have hi : i < ks.length := by rw [← repK_len r]; have := (List.getElem?_eq_some_iff.mp e).1; simpa using this
    refine ⟨⟨gr.fz _ _ _ h, hi⟩, ?_⟩
    rintro x H' ⟨rfl, k, ek⟩
    obtain ⟨z, hz, rz⟩ := r.get ek
    rw [List.getElem?_map, hz] at e
    cases e
    exact ⟨.refl _ _, w, rz.mono gr⟩
end
variable {apos cpos : Pos}
theorem ri_items (he : Real g N sc L e me) (hbase : ∀ env : Env, attributeBase e "items" env (eval e env) = eval e env) (hline : (apos.endLine == cpos.line) = true) :
    RealI g N sc L (.Tuple elts kk tpos) (.Call (.Attribute e "items" apos) [] [] cpos) (gSrc itemsLk me) := by
  intro Wx X C
  refine (pi_items (pe_lockA (he Wx X C)) (hbase X.env) hline).weak ?_
  rintro σ H R ⟨ρ, S, μ, hρ, hw, h⟩
  refine ⟨ρ, S, μ, hρ, hw, PostI.ex (f := itemsLk) h fun d S1 v H1 μ1 g1 w1 r1 h1 => ?_⟩
  unfold itemsLk at h1
  cases q : dictOf d S1 with
  | none => rw [q] at h1; exact h1.elim
  | some x =>
    rw [q] at h1
    obtain ⟨l, S'⟩ := x
    obtain ⟨a, rfl, ks, ⟨o, hd, w', rk⟩ | ⟨hd, k⟩⟩ := dictOf_rep w1 r1 q
    · exact .inl ⟨a, o, ks, rfl, hd, h1 _ H1 μ1 (.refl _ _) w' (src_items hd rk)⟩
    · refine .inr ⟨a, _, hd, trivial, fun o => ⟨a, o, ks, rfl, upd_same, ?_⟩⟩
      obtain ⟨w', gr, rk⟩ := k o
      exact h1 _ _ μ1 gr w' (src_items upd_same rk)
theorem ri_values (he : Real g N sc L e me) (hbase : ∀ env : Env, attributeBase e "values" env (eval e env) = eval e env) (hline : (apos.endLine == cpos.line) = true) :
    RealI g N sc L tg (.Call (.Attribute e "values" apos) [] [] cpos) (gSrc valsLk me) := by
  intro Wx X C
  refine (pi_values (pe_lockA (he Wx X C)) (hbase X.env) hline).weak ?_
  rintro σ H R ⟨ρ, S, μ, hρ, hw, h⟩
  refine ⟨ρ, S, μ, hρ, hw, PostI.ex (f := valsLk) h fun d S1 v H1 μ1 g1 w1 r1 h1 => ?_⟩
  unfold valsLk at h1
  cases q : dictOf d S1 with
  | none => rw [q] at h1; exact h1.elim
  | some x =>
    rw [q] at h1
    obtain ⟨l, S'⟩ := x
    obtain ⟨a, rfl, ks, ⟨o, hd, w', rk⟩ | ⟨hd, k⟩⟩ := dictOf_rep w1 r1 q
    · exact .inl ⟨a, o, ks, rfl, hd, h1 _ H1 μ1 (.refl _ _) w' (src_vals hd rk)⟩
    · refine .inr ⟨a, _, hd, trivial, fun o => ⟨a, o, ks, rfl, upd_same, ?_⟩⟩
      obtain ⟨w', gr, rk⟩ := k o
      exact h1 _ _ μ1 gr w' (src_vals upd_same rk)
end
end Gp

set_option Elab.async false
set_option linter.all false
set_option maxRecDepth 100000
/-! Gp13: comprehensions; loops over what is locked -/
namespace Gp
open PySem PySem.Spec L2
open PyProof.Rows hiding St

/-! ### targets of names alone -/
abbrev TN := D → Ev → Option Ev
abbrev TNs := List D → Ev → Option Ev
def nName (i : Nat) : TN := fun d ρ => some (ρ.set i (some d))
def nNil : TNs := fun ds ρ => match ds with
  | [] => some ρ
  | _ => none
def nCons (t : TN) (u : TNs) : TNs := fun ds ρ => match ds with
  | [] => none
  | d :: r => match t d ρ with
    | some ρ1 => u r ρ1
    | none => none
def nTup (n : Nat) (t : TNs) : TN := fun d ρ => match asT d with
  | some l => if l.length = n then t l ρ else none
  | none => none
def RealN (g : G) (N : List Str) (sc : Scope) (L : Nat) (fk : Str → Bool) (vs : List Nat) (tg : Expr) (t : TN) : Prop := ∀ Wx X, CtxOk g N sc L Wx X → (∀ x, fk x = true → X.fn x = true) →
  PG X tg (fun v σ H Q => ∃ d ρ S μ, EnvOk g H μ ρ σ ∧ W g μ H S ∧ Rep g H μ d v ∧ match t d ρ with
    | some ρ2 => ∀ σ', EnvOk g H μ ρ2 σ' → wipe σ' vs = wipe σ vs → Q σ' H
    | none => False)
def RealNs (g : G) (N : List Str) (sc : Scope) (L : Nat) (fk : Str → Bool) (vs : List Nat) (tg : List Expr) (t : TNs) : Prop := ∀ Wx X, CtxOk g N sc L Wx X → (∀ x, fk x = true → X.fn x = true) →
  PGs X tg (fun v σ H Q => ∃ d ρ S μ, EnvOk g H μ ρ σ ∧ W g μ H S ∧ RepL g H μ d v ∧ match t d ρ with
    | some ρ2 => ∀ σ', EnvOk g H μ ρ2 σ' → wipe σ' vs = wipe σ vs → Q σ' H
    | none => False)
theorem wipe_cons_set {σ : St} {x : Option V} {v : Nat} : ∀ {vs : List Nat}, v ∈ vs → wipe (σ.set v x) vs = wipe σ vs := by
  intro vs h
  apply List.ext_getElem?
  intro i
  have key : ∀ (τ : St) (vs : List Nat) (i : Nat), (wipe τ vs)[i]? = if i ∈ vs then (if i < τ.length then some none else none) else τ[i]? := by
    intro τ vs
    induction vs with
    | nil => intro i; simp [wipe]
    | cons u us ih =>
      intro i
      unfold wipe
      by_cases hi : u = i
      · subst hi
        simp only [List.mem_cons, true_or, if_true]
        by_cases hl : u < τ.length
        · rw [if_pos hl, List.getElem?_set_self (by rw [wipe_length]; exact hl)]
        · rw [if_neg hl, List.getElem?_eq_none (by rw [List.length_set, wipe_length]; omega)]
      · rw [List.getElem?_set_ne hi, ih i]
        have : (i ∈ u :: us) ↔ i ∈ us := by simp [Ne.symm hi]
        simp only [this]
  rw [key, key, List.length_set]
  by_cases hi : i ∈ vs
  · rw [if_pos hi, if_pos hi]
  · rw [if_neg hi, if_neg hi, List.getElem?_set_ne (fun z => hi (by rw [← z]; exact h))]
section
variable {g : G} {N : List Str} {sc : Scope} {L : Nat} {pos : Pos} {fk : Str → Bool} {vs : List Nat} {e : Expr} {es : List Expr}
theorem rn_name {i : Nat} {x : Str} (hN : N.Nodup) (hi : N[i]? = some x) (hx : Loc sc x) (hf : fk x = true ∨ sc.names.lookup x = some .local) (hv : i ∈ vs) : RealN g N sc L fk vs (.Name x pos) (nName i) := by
  intro Wx X C F
  refine (pg_name (i := i) (by rw [C.N]; exact hN) (by rw [C.N]; exact hi) (by rw [C.sc]; exact hx) (hf.elim (fun z => .inl (F x z)) fun z => .inr (by rw [C.sc]; exact z))).weak ?_
  rintro v σ H Q ⟨d, ρ, S, μ, he, hw, r, h⟩
  exact h _ (he.set1 r) (wipe_cons_set hv)
theorem rns_nil : RealNs g N sc L fk vs [] nNil := by
  intro Wx X C F
  refine pgs_nil.weak ?_
  rintro v σ H Q ⟨d, ρ, S, μ, he, hw, r, h⟩
  unfold nNil at h
  cases d with
  | nil =>
    simp only [RepL] at r
    exact ⟨r, h σ he rfl⟩
  | cons => exact h.elim
theorem rns_cons {t : TN} {u : TNs} (h1 : RealN g N sc L fk vs e t) (h2 : RealNs g N sc L fk vs es u)
    (hs : ∀ env : Env, (assignEach (e :: es) env).map (·.2) = assign e env :: (assignEach es env).map (·.2)) : RealNs g N sc L fk vs (e :: es) (nCons t u) := by
  intro Wx X C F
  refine (pgs_cons (h1 Wx X C F) (h2 Wx X C F) (hs X.env)).weak ?_
  rintro v σ H Q ⟨d, ρ, S, μ, he, hw, r, h⟩
  unfold nCons at h
  cases d with
  | nil => exact h.elim
  | cons x ds =>
    simp only [RepL] at r
    obtain ⟨vx, vr, rfl, q1, q2⟩ := r
    simp only at h
    cases e1 : t x ρ with
    | none => rw [e1] at h; exact h.elim
    | some ρ1 =>
      rw [e1] at h
      refine ⟨vx, vr, rfl, x, ρ, S, μ, he, hw, q1, ?_⟩
      rw [e1]
      intro σ1 e2 hw1
      refine ⟨ds, ρ1, S, μ, e2, hw, q2, ?_⟩
      simp only at h
      cases e3 : u ds ρ1 with
      | none => rw [e3] at h; exact h.elim
      | some ρ2 => rw [e3] at h; exact fun σ2 e4 hw2 => h σ2 e4 (hw2.trans hw1)
theorem rn_tup {k : Nat} {u : TNs} {n : Nat} (h : RealNs g N sc L fk vs es u) (hn : ∀ env : Env, (assignEach es env).length = n) (hst : ∀ env : Env, (assignEach es env).findIdx? (·.1) = none) :
    RealN g N sc L fk vs (.Tuple es k pos) (nTup n u) := by
  intro Wx X C F
  refine (pg_tup C.calm (h Wx X C F) (hn X.env) (hst X.env)).weak ?_
  rintro v σ H Q ⟨d, ρ, S, μ, he, hw, r, h⟩
  unfold nTup at h
  split at h
  · rename_i ρ2 e0
    split at e0
    · rename_i l e
      split at e0
      · rename_i hl
        obtain ⟨a, xs, rfl, h1, q⟩ := asT_rep r e
        refine ⟨a, xs, rfl, by rw [C.K]; exact h1, by rw [← q.length]; exact hl, l, ρ, S, μ, he, hw, q, ?_⟩
        rw [e0]; exact h
      · cases e0
    · cases e0
  · exact h.elim
end

/-! ### a comprehension's context -/
def wipeG (ρ : Ev) : List Nat → Ev
  | [] => ρ
  | v :: vs => (wipeG ρ vs).set v none
def blkX (X : Cx) (s : Shared) (H : Hp) (scope : Scope) (C : Addr) (cl : List (Str × Addr)) (fp : List Addr) : Cx := X.blk s H scope (compEnvC scope cl C X.env) fp
def noX : WX := fun _ _ _ _ => False
section
variable {g : G} {N : List Str} {sc : Scope} {L : Nat} {Wx : WX} {X : Cx}
theorem EnvOk.wipe {H : Hp} {μ : List Addr} {ρ : Ev} {σ : St} (he : EnvOk g H μ ρ σ) : ∀ vs : List Nat, EnvOk g H μ (wipeG ρ vs) (wipe σ vs)
  | [] => he
  | v :: vs => (EnvOk.wipe he vs).set v fun x e => by cases e
theorem takes_never {X : Cx} (h : X.xe = fun _ _ => False) : Takes X noX := fun u s' ⟨a, B, sI, pins, σ, H, cls, d, e, I, nb, up, sky, na, os, ag, w⟩ => w.elim
theorem CtxOk.blk (C : CtxOk g N sc L Wx X) {scope : Scope} (hl : blkB sc scope = true) (s : Shared) (H : Hp) (Ca : Addr) (cl : List (Str × Addr)) (fp : List Addr) :
    CtxOk g N (relS scope sc) L noX (X.blk s H scope (compEnvC scope cl Ca X.env) fp) where
  prog := C.prog
  wd := C.wd
  K := C.K
  mg := C.mg
  base := C.base
  N := C.N
  sc := by rw [← C.sc]; rfl
  calm := C.calm
  tk := takes_never rfl
  room := C.room
  pass := PassesOwn.never
  cd := fun _ => C.cd (by
    unfold blkB at hl
    rw [Bool.and_eq_true, Bool.and_eq_true, Bool.not_eq_true', Bool.not_eq_true'] at hl
    rw [C.sc]; exact hl.1.1)
  gc := fun z => by
    unfold blkB at hl
    rw [Bool.and_eq_true, Bool.and_eq_true, Bool.not_eq_true', Bool.not_eq_true'] at hl
    have z' : scope.isGenerator = true := z
    rw [hl.2] at z'
    cases z'
  lc := fun _ z => by
    unfold blkB at hl
    rw [Bool.and_eq_true, Bool.and_eq_true, decide_eq_true_eq] at hl
    have z' : isDef (relS scope X.env.scope) = true := z
    unfold isDef at z'
    rw [Bool.and_eq_true, Bool.not_eq_true', Bool.not_eq_true', decide_eq_false_iff_not] at z'
    exact absurd (lookup_relS_keep (by simp) hl.1.2) z'.2
end
/-- the conditions of a clause -/
inductive RealIfs (g : G) (N : List Str) (sc : Scope) (L : Nat) : List Expr → Option GE → Prop
  | nil : RealIfs g N sc L [] none
  | one {c : Expr} {m : GE} (h : RealT g N sc L c m) : RealIfs g N sc L [c] (some m)
def tstG (c : Option GE) (ρ : Ev) (S : Sto) : Res := match c with
  | none => .ok (.bl true) S
  | some m => m ρ S
def tGTs (g : G) (c : Option GE) : TT := fun σ H Q => ∃ ρ S μ, EnvOk g H μ ρ σ ∧ W g μ H S ∧ PostR g μ H (tstG c ρ S) (fun v H' => ∃ b, v = .bl b ∧ Q b H') (wE g noX σ)
theorem _root_.L2.PTs.weak {X : Cx} {e : List Expr} {t t' : TT} (h : PTs X e t) (k : ∀ σ H Q, t' σ H Q → t σ H Q) : PTs X e t' := ⟨fun pins s σ H Q I q => h.run pins s σ H Q I (k σ H Q q)⟩
theorem RealIfs.pts {g : G} {N : List Str} {sc : Scope} {L : Nat} {ifs : List Expr} {c : Option GE} (h : RealIfs g N sc L ifs c) {X : Cx} (C : CtxOk g N sc L noX X) : PTs X ifs (tGTs g c) := by
  cases h with
  | nil =>
    refine pts_nil.weak ?_
    rintro σ H Q ⟨ρ, S, μ, he, hw, h⟩
    obtain ⟨b, e, q⟩ := h (.bl true) H μ (.refl _ _) hw (by simp [Rep])
    cases e; exact q
  | one h =>
    refine (pts_one (h noX X C)).weak ?_
    rintro σ H Q ⟨ρ, S, μ, he, hw, h⟩
    exact ⟨ρ, S, μ, he, hw, h⟩
/-- the turns of a list comprehension; n0: where its list stands -/
def lcN (lk : Look) (t : TN) (c : Option GE) (e : GE) (ρ0 : Ev) (n0 : Nat) : Nat → Nat → Sto → Res
  | 0, _, _ => .bad
  | n + 1, i, S => match lk i S with
    | none => .bad
    | some none => .ok (.ref n0) S
    | some (some d) => match t d ρ0 with
      | none => .bad
      | some ρ => match tstG c ρ S with
        | .ok (.bl true) S1 => match e ρ S1 with
          | .ok y S2 => match S2[n0]? with
            | some (.lst acc) => if acc.length < sizeLine then lcN lk t c e ρ0 n0 n (i + 1) (S2.set n0 (.lst (acc ++ [y]))) else .bad
            | _ => .bad
          | _ => .bad
        | .ok (.bl false) S1 => lcN lk t c e ρ0 n0 n (i + 1) S1
        | _ => .bad
def IR.res (r : IR) (f : Look → Sto → Option Nat → Res) : Res := match r with
  | .ok lk S ul => f lk S ul
  | .exc c S => .exc c S
  | .bad => .bad
def gLc0 (n : Nat) (it : GI) (t : TN) (c : Option GE) (e : GE) (vs : List Nat) : GE := fun ρ S => (it ρ S).res fun lk S1 ul => unlR ul (lcN lk t c e (wipeG ρ vs) S1.length n 0 (S1 ++ [.lst []]))
/-- [e for t in it if c]; imm: the new list is frozen -/
def gLc (imm : Bool) (n : Nat) (it : GI) (t : TN) (c : Option GE) (e : GE) (vs : List Nat) : GE := fun ρ S => if imm = true then tidy S (gLc0 n it t c e vs ρ S) else gLc0 n it t c e vs ρ S
theorem PostI.res {g : G} {μ : List Addr} {H : Hp} {r : IR} {f : Look → Sto → Option Nat → Res} {R : It → Hp → Prop} {Q : VK} {E : Str → Hp → Prop} (h : PostR g μ H (r.res f) Q E)
    (k : ∀ l S1 ul J H1 μ1, Grow μ H μ1 H1 → W g μ1 H1 S1 → SrcOk g J l μ1 H1 → UlAt H μ1 ul → PostR g μ H (f l S1 ul) Q E → R J H1) : PostI g μ H r R E := by
  cases r with
  | ok l S1 ul => exact fun J H1 μ1 g1 w1 s1 u1 => k l S1 ul J H1 μ1 g1 w1 s1 u1 h
  | exc c S1 => exact h
  | bad => exact h
theorem unlR_bad {ul : Option Nat} : unlR ul .bad = .bad := by cases ul <;> rfl
section
variable {g : G} {N : List Str} {sc : Scope} {L : Nat} {Wx : WX} {X : Cx} {tg it elt e : Expr} {mi : GI} {t : TN} {c : Option GE} {me : GE} {vs : List Nat}
/-- the turns are right -/
theorem lc_turns {J : It} {lk : Look} {μ1 : List Addr} {H1 : Hp} {S1 : Sto} {σ : St} {ρ : Ev} {Q : VK} {E : Str → Hp → Prop} {n : Nat} {gt : TG} {te : TE} {D : Addr}
    {μ0 : List Addr} {H0 : Hp} {ul : Option Nat} (g0 : Grow μ0 H0 μ1 H1) (u1 : UlAt H0 μ1 ul) (sr : SrcOk g J lk μ1 H1) (w1 : W g μ1 H1 S1) (he : EnvOk g H1 μ1 ρ σ) (hD : H1 D = none)
    (h : PostR g μ0 H0 (unlR ul (lcN lk t c me (wipeG ρ vs) S1.length n 0 (S1 ++ [.lst []]))) Q E)
    (hg : ∀ v σ H Q, (∃ d ρ S μ, EnvOk g H μ ρ σ ∧ W g μ H S ∧ Rep g H μ d v ∧ match t d ρ with
      | some ρ2 => ∀ σ', EnvOk g H μ ρ2 σ' → wipe σ' vs = wipe σ vs → Q σ' H
      | none => False) → gt v σ H Q)
    (hte : ∀ σ H Q, tG g noX me σ H Q → te σ H Q) :
    ∃ W : Nat → Nat → Hp → Prop, (∃ m, W 0 m (upd H1 D (.lst []))) ∧ ∀ i m H, W i m H →
      (J.stop i H ∧ UnlK H0 (Q (.ref D)) H) ∨ (J.go i H ∧ ∃ Nx : Hp → Prop, (∀ H', Nx H' → ∃ m', m' < m ∧ W (i + 1) m' H') ∧ ∀ x H', J.yld i H x H' → gt x (wipe σ vs) H' fun σ2 H2 => wipe σ2 vs = wipe σ vs ∧ tGTs g c σ2 H2 fun b H3 =>
        if b = true then te σ2 H3 fun y H4 => ∃ acc, H4 D = some (.lst acc) ∧ acc.length < sizeLine ∧ Nx (upd H4 D (.lst (acc ++ [y]))) else Nx H3) := by
  have hlen := w1.len
  have hDn : (μ1 ++ [D])[S1.length]? = some D := by rw [← hlen, List.getElem?_append_right (Nat.le_refl _)]; simp
  refine ⟨fun i m H => ∃ S μ, Grow μ1 H1 μ H ∧ μ[S1.length]? = some D ∧ W g μ H S ∧ PostR g μ0 H0 (unlR ul (lcN lk t c me (wipeG ρ vs) S1.length m i S)) Q E, ⟨n, S1 ++ [.lst []], μ1 ++ [D], grow_alloc hD, hDn, w1.alloc (c := .lst []) hD ⟨[], upd_same, .nil⟩, h⟩, ?_⟩
  rintro i m H ⟨S, μ, gr, hmu, w, h⟩
  cases m with
  | zero => rw [show lcN lk t c me (wipeG ρ vs) S1.length 0 i S = .bad from rfl, unlR_bad] at h; exact h.elim
  | succ m =>
    unfold lcN at h
    split at h
    · rw [unlR_bad] at h; exact h.elim
    · rename_i el
      exact .inl ⟨sr.stop i μ H S gr w el, h.unlOk (g0.trans gr) w (by simp only [Rep]; exact ⟨D, rfl, hmu⟩) (u1.grow gr)⟩
    · rename_i d el
      obtain ⟨k1, k2⟩ := sr.go i μ H S d gr w el
      refine .inr ⟨k1, fun H' => ∃ S μ, Grow μ1 H1 μ H' ∧ μ[S1.length]? = some D ∧ W g μ H' S ∧ PostR g μ0 H0 (unlR ul (lcN lk t c me (wipeG ρ vs) S1.length m (i + 1) S)) Q E, fun H' z => ⟨m, Nat.lt_succ_self _, z⟩, fun x H' y => ?_⟩
      obtain ⟨g2, w2, r2⟩ := k2 x H' y
      refine hg _ _ _ _ ⟨d, wipeG ρ vs, S, μ, (he.mono (gr.trans g2)).wipe vs, w2, r2, ?_⟩
      split at h
      · rw [unlR_bad] at h; exact h.elim
      · rename_i ρ2 et
        rw [et]
        intro σ2 e2 hw2
        refine ⟨?_, ρ2, S, μ, e2, w2, ?_⟩
        · rw [hw2]
          have : ∀ vs' : List Nat, vs' = vs → wipe (wipe σ vs) vs' = wipe σ vs := by
            intro vs' hv
            apply List.ext_getElem?
            intro i
            have key : ∀ (τ : St) (vs : List Nat) (i : Nat), (wipe τ vs)[i]? = if i ∈ vs then (if i < τ.length then some none else none) else τ[i]? := by
              intro τ vs
              induction vs with
              | nil => intro i; simp [wipe]
              | cons u us ih =>
                intro i
                unfold wipe
                by_cases hi : u = i
                · subst hi
                  simp only [List.mem_cons, true_or, if_true]
                  by_cases hl : u < τ.length
                  · rw [if_pos hl, List.getElem?_set_self (by rw [wipe_length]; exact hl)]
                  · rw [if_neg hl, List.getElem?_eq_none (by rw [List.length_set, wipe_length]; omega)]
                · rw [List.getElem?_set_ne hi, ih i]
                  have : (i ∈ u :: us) ↔ i ∈ us := by simp [Ne.symm hi]
                  simp only [this]
            subst hv
            rw [key, key, wipe_length]
            by_cases hi : i ∈ vs' <;> simp [hi]
          exact this vs rfl
        · have h2 := h
          cases etst : tstG c ρ2 S with
          | bad => simp only [etst, unlR_bad] at h2; exact h2.elim
          | exc cc S3 => simp only [etst, unlR_bad] at h2; exact h2.elim
          | ok b S3 =>
            simp only [etst] at h2
            intro v H3 μ3 g3 w3 r3
            have g23 := g2.trans g3
            have hmu3 : μ3[S1.length]? = some D := g3.get hmu
            cases b with
            | bl b =>
              refine ⟨b, by simpa only [Rep] using r3, ?_⟩
              cases b with
              | false =>
                rw [if_neg (by simp)]
                exact ⟨S3, μ3, gr.trans g23, hmu3, w3, h2⟩
              | true =>
                rw [if_pos rfl]
                refine hte _ _ _ ⟨ρ2, S3, μ3, e2.mono g3, w3, ?_⟩
                cases ee : me ρ2 S3 with
                | bad => simp only [ee, unlR_bad] at h2; exact h2.elim
                | exc cc S4 => simp only [ee, unlR_bad] at h2; exact h2.elim
                | ok y S4 =>
                  simp only [ee] at h2
                  intro vy H4 μ4 g4 w4 r4
                  have hmu4 : μ4[S1.length]? = some D := g4.get hmu3
                  split at h2
                  · rename_i acc ha
                    split at h2
                    · rename_i hl
                      obtain ⟨va, hH, ra⟩ := w4.cell _ _ _ hmu4 ha
                      have gs : Grow μ4 H4 μ4 (upd H4 D (.lst (va ++ [vy]))) := grow_set (List.mem_of_getElem? hmu4) hH (by simp)
                      refine ⟨va, hH, by rw [← ra.length]; exact hl, S4.set S1.length (.lst (acc ++ [y])), μ4, (gr.trans (g23.trans g4)).trans gs, hmu4, w4.set hmu4 ⟨_, upd_same, (ra.snoc r4).mono gs⟩, h2⟩
                    · rw [unlR_bad] at h2; exact h2.elim
                  · rw [unlR_bad] at h2; exact h2.elim
            | _ => rw [unlR_bad] at h2; exact h2.elim
theorem re_lc0 {n : Nat} {ifs : List Expr} {scope : Scope} {own : List (Str × Nat)} {pos : Pos} (hN : N.Nodup) (hl : blkB sc scope = true) (hi : RealI g N sc L tg it mi) (ok : BlkOk N sc scope own)
    (hg : RealN g N (relS scope sc) L (fun x => scope.names.lookup x == some .cell) (own.map (·.2)) tg t) (hc : RealIfs g N (relS scope sc) L ifs c) (he : Real g N (relS scope sc) L elt me) (hs : ∀ (env : Env) x, foldedSetIterable it env x = pure x) :
    Real g N sc L (.ListComp elt [⟨tg, it, ifs, 0⟩] scope pos) (gLc0 n mi t c me (own.map (·.2))) := by
  intro Wx X C
  refine (pe_unl (pe_lc C.calm (by rw [C.N]; exact hN) (hi Wx X C) (by rw [C.N, C.sc]; exact ok) (fun s H Ca cl fp => hg noX _ (C.blk hl s H Ca cl fp) fun x h => h) (fun s H Ca cl fp => hc.pts (C.blk hl s H Ca cl fp)) (fun s H Ca cl fp => he noX _ (C.blk hl s H Ca cl fp)) (hs X.env))).weak ?_
  rintro σ H Q ⟨ρ, S, μ, hρ, hw, h⟩
  unfold gLc0 at h
  refine ⟨ρ, S, μ, hρ, hw, PostI.res h fun lk S1 ul J H1 μ1 g1 w1 s1 u1 h1 => fun D hD => lc_turns g1 u1 s1 w1 (hρ.mono g1) hD h1 (fun v σ H Q z => z) (fun σ H Q z => z)⟩
theorem re_lc {imm : Bool} {n : Nat} {ifs : List Expr} {scope : Scope} {own : List (Str × Nat)} {pos : Pos} (hN : N.Nodup) (hl : blkB sc scope = true) (hi : RealI g N sc L tg it mi) (ok : BlkOk N sc scope own)
    (hg : RealN g N (relS scope sc) L (fun x => scope.names.lookup x == some .cell) (own.map (·.2)) tg t) (hc : RealIfs g N (relS scope sc) L ifs c) (he : Real g N (relS scope sc) L elt me) (hs : ∀ (env : Env) x, foldedSetIterable it env x = pure x) :
    Real g N sc L (.ListComp elt [⟨tg, it, ifs, 0⟩] scope pos) (gLc imm n mi t c me (own.map (·.2))) := by
  intro Wx X C
  refine (re_lc0 (n := n) hN hl hi ok hg hc he hs Wx X C).weak ?_
  rintro σ H Q ⟨ρ, S, μ, hρ, hw, h⟩
  unfold gLc at h
  cases imm with
  | true => exact ⟨ρ, S, μ, hρ, hw, PostR.untidy hw h⟩
  | false => exact ⟨ρ, S, μ, hρ, hw, h⟩
end
end Gp

set_option Elab.async false
set_option linter.all false
set_option maxRecDepth 100000
/-! Gp14: dict comprehensions, name = [..] on one line -/
namespace Gp
open PySem PySem.Spec L2
open PyProof.Rows hiding St

def dcN (lk : Look) (t : TN) (c : Option GE) (ek : GE) (e : GE) (ρ0 : Ev) (n0 : Nat) : Nat → Nat → Sto → Res
  | 0, _, _ => .bad
  | n + 1, i, S => match lk i S with
    | none => .bad
    | some none => .ok (.ref n0) S
    | some (some d) => match t d ρ0 with
      | none => .bad
      | some ρ => match tstG c ρ S with
        | .ok (.bl true) S1 => match ek ρ S1 with
          | .ok k S2 => match e ρ S2 with
            | .ok y S3 => match S3[n0]? with
              | some (.dict 0 false acc) => if keyOk 0 k = true ∧ acc.length < sizeLine then dcN lk t c ek e ρ0 n0 n (i + 1) (S3.set n0 (.dict 0 false (dput acc k y))) else .bad
              | _ => .bad
            | _ => .bad
          | _ => .bad
        | .ok (.bl false) S1 => dcN lk t c ek e ρ0 n0 n (i + 1) S1
        | _ => .bad
def gDc0 (n : Nat) (it : GI) (t : TN) (c : Option GE) (ek e : GE) (vs : List Nat) : GE := fun ρ S => (it ρ S).res fun lk S1 ul => unlR ul (dcN lk t c ek e (wipeG ρ vs) S1.length n 0 (S1 ++ [.dict 0 false []]))
def gDc (imm : Bool) (n : Nat) (it : GI) (t : TN) (c : Option GE) (ek e : GE) (vs : List Nat) : GE := fun ρ S => if imm = true then tidy S (gDc0 n it t c ek e vs ρ S) else gDc0 n it t c ek e vs ρ S
section
variable {g : G} {N : List Str} {sc : Scope} {L : Nat} {Wx : WX} {X : Cx} {tg it elt e ekx : Expr} {mi : GI} {t : TN} {c : Option GE} {me mk : GE} {vs : List Nat}
/-- the turns are right -/
theorem dc_turns {J : It} {lk : Look} {μ1 : List Addr} {H1 : Hp} {S1 : Sto} {σ : St} {ρ : Ev} {Q : VK} {E : Str → Hp → Prop} {n : Nat} {gt : TG} {te tk : TE} {D : Addr}
    {μ0 : List Addr} {H0 : Hp} {ul : Option Nat} (g0 : Grow μ0 H0 μ1 H1) (u1 : UlAt H0 μ1 ul) (sr : SrcOk g J lk μ1 H1) (w1 : W g μ1 H1 S1) (he : EnvOk g H1 μ1 ρ σ) (hD : H1 D = none)
    (h : PostR g μ0 H0 (unlR ul (dcN lk t c mk me (wipeG ρ vs) S1.length n 0 (S1 ++ [.dict 0 false []]))) Q E)
    (hg : ∀ v σ H Q, (∃ d ρ S μ, EnvOk g H μ ρ σ ∧ W g μ H S ∧ Rep g H μ d v ∧ match t d ρ with
      | some ρ2 => ∀ σ', EnvOk g H μ ρ2 σ' → wipe σ' vs = wipe σ vs → Q σ' H
      | none => False) → gt v σ H Q)
    (htk : ∀ σ H Q, tG g noX mk σ H Q → tk σ H Q) (hte : ∀ σ H Q, tG g noX me σ H Q → te σ H Q) :
    ∃ W : Nat → Nat → Hp → Prop, (∃ m, W 0 m (upd H1 D (.dK []))) ∧ ∀ i m H, W i m H →
      (J.stop i H ∧ UnlK H0 (Q (.ref D)) H) ∨ (J.go i H ∧ ∃ Nx : Hp → Prop, (∀ H', Nx H' → ∃ m', m' < m ∧ W (i + 1) m' H') ∧ ∀ x H', J.yld i H x H' → gt x (wipe σ vs) H' fun σ2 H2 => wipe σ2 vs = wipe σ vs ∧ tGTs g c σ2 H2 fun b H3 =>
        if b = true then tk σ2 H3 fun y H4 => te σ2 H4 fun z H5 => ∃ kvs k, y = kV k ∧ H5 D = some (.dK kvs) ∧ kvs.length < sizeLine ∧ Nx (upd H5 D (.dK (putK kvs k z))) else Nx H3) := by
  have hlen := w1.len
  have hDn : (μ1 ++ [D])[S1.length]? = some D := by rw [← hlen, List.getElem?_append_right (Nat.le_refl _)]; simp
  refine ⟨fun i m H => ∃ S μ, Grow μ1 H1 μ H ∧ μ[S1.length]? = some D ∧ W g μ H S ∧ PostR g μ0 H0 (unlR ul (dcN lk t c mk me (wipeG ρ vs) S1.length m i S)) Q E, ⟨n, S1 ++ [.dict 0 false []], μ1 ++ [D], grow_alloc hD, hDn, w1.alloc (c := .dict 0 false []) hD ⟨.dK [], .inl ⟨rfl, [], rfl, by simp [RepK]⟩, by rw [if_neg (by simp)]; exact upd_same⟩, h⟩, ?_⟩
  rintro i m H ⟨S, μ, gr, hmu, w, h⟩
  cases m with
  | zero => rw [show dcN lk t c mk me (wipeG ρ vs) S1.length 0 i S = .bad from rfl, unlR_bad] at h; exact h.elim
  | succ m =>
    unfold dcN at h
    split at h
    · rw [unlR_bad] at h; exact h.elim
    · rename_i el
      exact .inl ⟨sr.stop i μ H S gr w el, h.unlOk (g0.trans gr) w (by simp only [Rep]; exact ⟨D, rfl, hmu⟩) (u1.grow gr)⟩
    · rename_i d el
      obtain ⟨k1, k2⟩ := sr.go i μ H S d gr w el
      refine .inr ⟨k1, fun H' => ∃ S μ, Grow μ1 H1 μ H' ∧ μ[S1.length]? = some D ∧ W g μ H' S ∧ PostR g μ0 H0 (unlR ul (dcN lk t c mk me (wipeG ρ vs) S1.length m (i + 1) S)) Q E, fun H' z => ⟨m, Nat.lt_succ_self _, z⟩, fun x H' y => ?_⟩
      obtain ⟨g2, w2, r2⟩ := k2 x H' y
      refine hg _ _ _ _ ⟨d, wipeG ρ vs, S, μ, (he.mono (gr.trans g2)).wipe vs, w2, r2, ?_⟩
      split at h
      · rw [unlR_bad] at h; exact h.elim
      · rename_i ρ2 et
        rw [et]
        intro σ2 e2 hw2
        refine ⟨?_, ρ2, S, μ, e2, w2, ?_⟩
        · rw [hw2]
          have : ∀ vs' : List Nat, vs' = vs → wipe (wipe σ vs) vs' = wipe σ vs := by
            intro vs' hv
            apply List.ext_getElem?
            intro i
            have key : ∀ (τ : St) (vs : List Nat) (i : Nat), (wipe τ vs)[i]? = if i ∈ vs then (if i < τ.length then some none else none) else τ[i]? := by
              intro τ vs
              induction vs with
              | nil => intro i; simp [wipe]
              | cons u us ih =>
                intro i
                unfold wipe
                by_cases hi : u = i
                · subst hi
                  simp only [List.mem_cons, true_or, if_true]
                  by_cases hl : u < τ.length
                  · rw [if_pos hl, List.getElem?_set_self (by rw [wipe_length]; exact hl)]
                  · rw [if_neg hl, List.getElem?_eq_none (by rw [List.length_set, wipe_length]; omega)]
                · rw [List.getElem?_set_ne hi, ih i]
                  have : (i ∈ u :: us) ↔ i ∈ us := by simp [Ne.symm hi]
                  simp only [this]
            subst hv
            rw [key, key, wipe_length]
            by_cases hi : i ∈ vs' <;> simp [hi]
          exact this vs rfl
        · have h2 := h
          cases etst : tstG c ρ2 S with
          | bad => simp only [etst, unlR_bad] at h2; exact h2.elim
          | exc cc S3 => simp only [etst, unlR_bad] at h2; exact h2.elim
          | ok b S3 =>
            simp only [etst] at h2
            intro v H3 μ3 g3 w3 r3
            have g23 := g2.trans g3
            have hmu3 : μ3[S1.length]? = some D := g3.get hmu
            cases b with
            | bl b =>
              refine ⟨b, by simpa only [Rep] using r3, ?_⟩
              cases b with
              | false =>
                rw [if_neg (by simp)]
                exact ⟨S3, μ3, gr.trans g23, hmu3, w3, h2⟩
              | true =>
                rw [if_pos rfl]
                refine htk _ _ _ ⟨ρ2, S3, μ3, e2.mono g3, w3, ?_⟩
                cases ek : mk ρ2 S3 with
                | bad => simp only [ek, unlR_bad] at h2; exact h2.elim
                | exc cc S4 => simp only [ek, unlR_bad] at h2; exact h2.elim
                | ok yk S4 =>
                  simp only [ek] at h2
                  intro vk H4 μ4 g4 w4 r4
                  refine hte _ _ _ ⟨ρ2, S4, μ4, (e2.mono g3).mono g4, w4, ?_⟩
                  cases ee : me ρ2 S4 with
                  | bad => simp only [ee, unlR_bad] at h2; exact h2.elim
                  | exc cc S4 => simp only [ee, unlR_bad] at h2; exact h2.elim
                  | ok y S5 =>
                    simp only [ee] at h2
                    intro vy H5 μ5 g5 w5 r5
                    have hmu5 : μ5[S1.length]? = some D := g5.get (g4.get hmu3)
                    split at h2
                    · rename_i acc ha
                      split at h2
                      · rename_i hl
                        obtain ⟨u, hq, hH⟩ := w5.cell _ _ _ hmu5 ha
                        rw [if_neg (by simp)] at hH
                        rcases hq with ⟨_, ks, rfl, rk⟩ | ⟨z, _⟩
                        · obtain ⟨k, rfl, rfl⟩ := keyOk0 hl.1 (r4.mono g5)
                          have gs : Grow μ5 H5 μ5 (upd H5 D (.dK (putK ks k vy))) := grow_set (List.mem_of_getElem? hmu5) hH (by simp)
                          refine ⟨ks, k, rfl, hH, by rw [← repK_len rk]; exact hl.2, S5.set S1.length (.dict 0 false (dput acc (kD k) y)), μ5, (gr.trans ((g23.trans g4).trans g5)).trans gs, hmu5, w5.set hmu5 ⟨_, .inl ⟨rfl, _, rfl, (dputK r5 rk).mono gs⟩, by rw [if_neg (by simp)]; exact upd_same⟩, h2⟩
                        · cases z
                      · rw [unlR_bad] at h2; exact h2.elim
                    · rw [unlR_bad] at h2; exact h2.elim
            | _ => rw [unlR_bad] at h2; exact h2.elim
theorem re_dc0 {n : Nat} {ifs : List Expr} {scope : Scope} {own : List (Str × Nat)} {pos : Pos} (hN : N.Nodup) (hl : blkB sc scope = true) (hi : RealI g N sc L tg it mi) (ok : BlkOk N sc scope own)
    (hg : RealN g N (relS scope sc) L (fun x => scope.names.lookup x == some .cell) (own.map (·.2)) tg t) (hc : RealIfs g N (relS scope sc) L ifs c) (hk : Real g N (relS scope sc) L ekx mk) (he : Real g N (relS scope sc) L elt me) (hs : ∀ (env : Env) x, foldedSetIterable it env x = pure x) :
    Real g N sc L (.DictComp ekx elt [⟨tg, it, ifs, 0⟩] scope pos) (gDc0 n mi t c mk me (own.map (·.2))) := by
  intro Wx X C
  refine (pe_unl (pe_dc C.calm (by rw [C.N]; exact hN) (hi Wx X C) (by rw [C.N, C.sc]; exact ok) (fun s H Ca cl fp => hg noX _ (C.blk hl s H Ca cl fp) fun x h => h) (fun s H Ca cl fp => hc.pts (C.blk hl s H Ca cl fp)) (fun s H Ca cl fp => hk noX _ (C.blk hl s H Ca cl fp)) (fun s H Ca cl fp => he noX _ (C.blk hl s H Ca cl fp)) (hs X.env))).weak ?_
  rintro σ H Q ⟨ρ, S, μ, hρ, hw, h⟩
  unfold gDc0 at h
  refine ⟨ρ, S, μ, hρ, hw, PostI.res h fun lk S1 ul J H1 μ1 g1 w1 s1 u1 h1 => fun D hD => dc_turns g1 u1 s1 w1 (hρ.mono g1) hD h1 (fun v σ H Q z => z) (fun σ H Q z => z) (fun σ H Q z => z)⟩
theorem re_dc {imm : Bool} {n : Nat} {ifs : List Expr} {scope : Scope} {own : List (Str × Nat)} {pos : Pos} (hN : N.Nodup) (hl : blkB sc scope = true) (hi : RealI g N sc L tg it mi) (ok : BlkOk N sc scope own)
    (hg : RealN g N (relS scope sc) L (fun x => scope.names.lookup x == some .cell) (own.map (·.2)) tg t) (hc : RealIfs g N (relS scope sc) L ifs c) (hk : Real g N (relS scope sc) L ekx mk) (he : Real g N (relS scope sc) L elt me) (hs : ∀ (env : Env) x, foldedSetIterable it env x = pure x) :
    Real g N sc L (.DictComp ekx elt [⟨tg, it, ifs, 0⟩] scope pos) (gDc imm n mi t c mk me (own.map (·.2))) := by
  intro Wx X C
  refine (re_dc0 (n := n) hN hl hi ok hg hc hk he hs Wx X C).weak ?_
  rintro σ H Q ⟨ρ, S, μ, hρ, hw, h⟩
  unfold gDc at h
  cases imm with
  | true => exact ⟨ρ, S, μ, hρ, hw, PostR.untidy hw h⟩
  | false => exact ⟨ρ, S, μ, hρ, hw, h⟩

/-! ### name = [..] on one line -/
theorem rs_setLc {imm : Bool} {n i : Nat} {y : Str} {py : Pos} {ifs : List Expr} {scope : Scope} {own : List (Str × Nat)} {pos spos : Pos} (hN : N.Nodup) (hy : N[i]? = some y) (hyl : sc.names.lookup y = some .local)
    (hsw : ∀ env : Env, env.scope = sc → swapsWith (.ListComp elt [⟨tg, it, ifs, 0⟩] scope pos) (some (.Name y py)) spos.line env = pure true) (hl : blkB sc scope = true) (hi : RealI g N sc L tg it mi) (ok : BlkOk N sc scope own)
    (hg : RealN g N (relS scope sc) L (fun x => scope.names.lookup x == some .cell) (own.map (·.2)) tg t) (hc : RealIfs g N (relS scope sc) L ifs c) (he : Real g N (relS scope sc) L elt me) (hs : ∀ (env : Env) x, foldedSetIterable it env x = pure x) :
    RealS g N sc L (.Assign [.Name y py] (.ListComp elt [⟨tg, it, ifs, 0⟩] scope pos) spos) (sAsg (gLc imm n mi t c me (own.map (·.2))) (tName i)) := by
  intro Wx X C
  refine (ps_unl (ps_setLc (i := i) C.calm (by rw [C.N]; exact hN) (by rw [C.N]; exact hy) (by rw [C.sc]; exact hyl) (hsw X.env C.sc) (hi Wx X C.toCtxOk) (by rw [C.N, C.sc]; exact ok) (fun s H Ca cl fp => hg noX _ (C.toCtxOk.blk hl s H Ca cl fp) fun x h => h) (fun s H Ca cl fp => hc.pts (C.toCtxOk.blk hl s H Ca cl fp)) (fun s H Ca cl fp => he noX _ (C.toCtxOk.blk hl s H Ca cl fp)) (hs X.env))).weak ?_
  rintro D σ H ⟨ρ, S, μ, hρ, hw, h⟩
  have h0 : PostS g Wx μ H ((gLc0 n mi t c me (own.map (·.2)) ρ S).thn ρ fun d S1 => .nx (ρ.set i (some d)) S1) D ∨ imm = true := by
    cases imm with
    | true => exact .inr rfl
    | false => exact .inl h
  have hK : PostR g μ H (gLc0 n mi t c me (own.map (·.2)) ρ S) (fun v H' => D.nx (σ.set i (some v)) H') (wE g Wx σ) := by
    cases imm with
    | false => exact PostS.ex (f := fun d S1 => .nx (ρ.set i (some d)) S1) hρ h fun d S1 v H1 μ1 g1 w1 r1 h1 => h1 _ H1 μ1 (.refl _ _) w1 ((hρ.mono g1).set1 r1)
    | true =>
      have h2 : PostR g μ H (tidy S (gLc0 n mi t c me (own.map (·.2)) ρ S)) (fun v H' => D.nx (σ.set i (some v)) H') (wE g Wx σ) := PostS.ex (f := fun d S1 => .nx (ρ.set i (some d)) S1) hρ h fun d S1 v H1 μ1 g1 w1 r1 h1 => h1 _ H1 μ1 (.refl _ _) w1 ((hρ.mono g1).set1 r1)
      exact PostR.untidy hw h2
  unfold gLc0 at hK
  exact ⟨ρ, S, μ, hρ, hw, PostI.res hK fun lk S1 ul J H1 μ1 g1 w1 s1 u1 h1 => fun D hD => lc_turns g1 u1 s1 w1 (hρ.mono g1) hD h1 (fun v σ H Q z => z) (fun σ H Q z => z)⟩
end
end Gp

set_option Elab.async false
set_option linter.all false
set_option maxRecDepth 100000
/-! Gp15: methods, displays of dicts, calls of what is held, o.f op= e, del d[k] -/
namespace Gp
open PySem PySem.Spec L2
open PyProof.Rows hiding St

/-! ### methods of built-in things -/
def rMb (g : G) (p : D → List D → Sto → Pr) : V → List V → Hp → VK → Prop := fun x vs H Q => ∃ a ds S μ, W g μ H S ∧ Rep g H μ a x ∧ RepL g H μ ds vs ∧ PostP g μ H (p a ds S) Q
theorem MtR.pick {X : Cx} {id : String} {r' : V → List V → Hp → VK → Prop} (h : ∀ x vs H Q, r' x vs H Q → ∃ r, MtR X id r ∧ r x vs H Q) : MtR X id r' := fun pins s σ H x xs v us Q I rx rv q => by
  obtain ⟨r, k, z⟩ := h x xs H Q q
  exact k pins s σ H x xs v us Q I rx rv z
def tyG (T : String) (d : D) (S : Sto) : Bool := match d with
  | .str _ => T == "str"
  | .ls _ => T == "list"
  | .sq _ => T == "list"
  | .kt _ => T == "tuple"
  | .ref n => match S[n]? with
    | some (.lst _) => T == "list"
    | _ => false
  | _ => false
def gMb (T : String) (p : D → List D → Sto → Pr) (o : GE) (l : List GE) : GE := fun ρ S => (o ρ S).bind fun x S1 => if tyG T x S1 = true then gArgs l ρ S1 fun ds S2 => (p x ds S2).res else .bad
section
variable {g : G} {N : List Str} {sc : Scope} {L : Nat} {Wx : WX} {X : Cx} {o e e2 : Expr} {mo me m2 : GE} {es : List Expr} {l : List GE} {name : Str} {apos cpos pos p tpos : Pos} {T id : String} {pr : D → List D → Sto → Pr}
variable {μ : List Addr} {H : Hp} {S : Sto} {Q : VK} {E : Str → Hp → Prop}
theorem tyG_rep {d : D} {v : V} (C : CtxOk g N sc L Wx X) (w : W g μ H S) (r : Rep g H μ d v) (h : tyG T d S = true) : tyV X.K T v H := by
  unfold tyG at h
  split at h
  · simp only [Rep] at r; subst r; simpa [tyV] using h
  · simp only [Rep] at r
    obtain ⟨p, vs, rfl, _, h1, _⟩ := r
    exact .inl ⟨by simpa using h, vs, .of h1⟩
  · simp only [Rep] at r
    obtain ⟨p, vs, rfl, h1, _⟩ := r
    exact .inl ⟨by simpa using h, vs, by rw [C.K]; exact h1.sq⟩
  · simp only [Rep] at r
    obtain ⟨p, vs, rfl, ⟨o, its, n, e1, e2, e3, _⟩, _⟩ := r
    exact .inr (.inl ⟨by simpa using h, o, by rw [C.K]; exact e1, e2, e3⟩)
  · split at h
    · rename_i n l hs
      obtain ⟨a, rfl, _, _, vs, h1, _⟩ := w.ref r hs
      exact .inl ⟨by simpa using h, vs, .of h1⟩
    · cases h
  · cases h
theorem re_bm (pa : PlainAttrs T) (slot : Slot T name id) (hty : typeOf (.builtin id) = pure (.type "method_descriptor")) (hm : ∀ Wx X, CtxOk g N sc L Wx X → MtR X id (rMb g pr)) (ho : Real g N sc L o mo) (ha : RealA g N sc L (e :: es) l)
    (hbase : ∀ env : Env, attributeBase o name env (eval o env) = eval o env)
    (hfew : ∀ env : Env, ((backTo cpos (starEach (e :: es) env)).all (fun x => !x.1) && (backToKw cpos (keywordEach [] env)).all (fun x => x.1.isSome)
      && decide ((e :: es).length + ([] : List Keyword).length + (if ([] : List Keyword).isEmpty then 0 else 1) < 30)) = true)
    (hline : (apos.endLine == cpos.line) = true) (hs : ∀ env : Env, starEach (e :: es) env = (false, eval e env) :: starEach es env) (hplain : ∀ env : Env, (backTo cpos (starEach es env)).any (·.1) = false) :
    Real g N sc L (.Call (.Attribute o name apos) (e :: es) [] cpos) (gMb T pr mo l) := by
  intro Wx X C
  refine (pe_bm pa slot hty (hm Wx X C) (ho Wx X C) (ha.a Wx X C) (hbase X.env) (hfew X.env) hline (hs X.env) (hplain X.env)).weak ?_
  rintro σ H Q ⟨ρ, S, μ, he, hw, h⟩
  unfold gMb at h
  refine ⟨ρ, S, μ, he, hw, h.bind fun x S1 vx H1 μ1 g1 w1 r1 h1 => ?_⟩
  split at h1
  · rename_i ht
    exact ⟨tyG_rep C w1 r1 ht, ρ, S1, μ1, he.mono g1, w1, _, Q, h1, fun ds S2 vs H2 μ2 g2 w2 r2 h2 => ⟨x, ds, S2, μ2, w2, r1.mono g2, r2, h2.pr⟩⟩
  · exact h1.elim
theorem re_bm0 (pa : PlainAttrs T) (slot : Slot T name id) (hty : typeOf (.builtin id) = pure (.type "method_descriptor")) (hm : ∀ Wx X, CtxOk g N sc L Wx X → MtR X id (rMb g pr)) (ho : Real g N sc L o mo)
    (hbase : ∀ env : Env, attributeBase o name env (eval o env) = eval o env) (hline : (apos.endLine == cpos.line) = true) :
    Real g N sc L (.Call (.Attribute o name apos) [] [] cpos) (gMb T pr mo []) := by
  intro Wx X C
  refine (pe_bm0 pa slot hty (hm Wx X C) (ho Wx X C) (hbase X.env) hline).weak ?_
  rintro σ H Q ⟨ρ, S, μ, he, hw, h⟩
  unfold gMb at h
  refine ⟨ρ, S, μ, he, hw, h.bind fun x S1 vx H1 μ1 g1 w1 r1 h1 => ?_⟩
  split at h1
  · rename_i ht
    refine ⟨tyG_rep C w1 r1 ht, x, [], S1, μ1, w1, r1, .nil, ?_⟩
    unfold gArgs at h1
    exact h1.pr
  · exact h1.elim

/-! lists -/
def pAppend : D → List D → Sto → Pr := fun x ds S => match x, ds with
  | .ref n, [d] => match S[n]? with
    | some (.lst l) => if l.length < sizeLine then some (.non, S.set n (.lst (l ++ [d]))) else none
    | _ => none
  | _, _ => none
theorem m_append (C : CtxOk g N sc L Wx X) : MtR X "list.append" (rMb g pAppend) := MtR.pick fun x vs H Q h => by
  obtain ⟨a, ds, S, μ, w, r, rl, h⟩ := h
  unfold pAppend at h
  split at h
  · rename_i n d
    split at h
    · rename_i l hs
      obtain ⟨hl, h⟩ := ite_none h
      obtain ⟨a, rfl, ha, hm, xs, h1, q⟩ := w.ref r hs
      simp only [RepL] at rl
      obtain ⟨v, _, rfl, rv, rfl⟩ := rl
      have gr : Grow μ H μ (upd H a (.lst (xs ++ [v]))) := grow_set hm h1 (by simp)
      exact ⟨_, mt_append, a, xs, v, rfl, rfl, h1, by rw [← q.length]; exact hl, h .non _ μ gr (w.set ha ⟨_, upd_same, (q.snoc rv).mono gr⟩) (by simp [Rep])⟩
    · exact h.elim
  · exact h.elim
theorem RepL.dropLast {l : List D} {vs : List V} (r : RepL g H μ l vs) : RepL g H μ l.dropLast vs.dropLast := by
  rw [List.dropLast_eq_take, List.dropLast_eq_take, r.length]; exact r.take _
theorem RepL.erase : ∀ {l : List D} {vs : List V} (n : Nat), RepL g H μ l vs → RepL g H μ (l.eraseIdx n) (vs.eraseIdx n)
  | [], vs, n, r => by simp only [RepL] at r; subst r; simp [RepL]
  | d :: l, vs, 0, r => by simp only [RepL] at r; obtain ⟨v, t, rfl, _, q⟩ := r; exact q
  | d :: l, vs, n + 1, r => by simp only [RepL] at r; obtain ⟨v, t, rfl, h, q⟩ := r; exact .cons h (RepL.erase n q)
def pPop : D → List D → Sto → Pr := fun x ds S => match x, ds with
  | .ref n, [] => match S[n]? with
    | some (.lst l) => match l[l.length - 1]? with
      | some d => some (d, S.set n (.lst l.dropLast))
      | none => none
    | _ => none
  | .ref n, [.int i] => match S[n]? with
    | some (.lst l) => if -(2 ^ 63) ≤ i ∧ i < 2 ^ 63 then match seqIndex? i l.length with
      | some k => match l[k]? with
        | some d => some (d, S.set n (.lst (l.eraseIdx k)))
        | none => none
      | none => none
      else none
    | _ => none
  | _, _ => none
theorem m_pop (C : CtxOk g N sc L Wx X) : MtR X "list.pop" (rMb g pPop) := MtR.pick fun x vs H Q h => by
  obtain ⟨a, ds, S, μ, w, r, rl, h⟩ := h
  unfold pPop at h
  split at h
  · rename_i n
    split at h
    · rename_i l hs
      split at h
      · rename_i d hd
        obtain ⟨a, rfl, ha, hm, xs, h1, q⟩ := w.ref r hs
        simp only [RepL] at rl
        subst rl
        obtain ⟨v, hv, rv⟩ := q.get hd
        have gr : Grow μ H μ (upd H a (.lst xs.dropLast)) := grow_set hm h1 (by simp)
        exact ⟨_, mt_pop, a, xs, v, rfl, rfl, h1, by rw [← q.length]; exact hv, h v _ μ gr (w.set ha ⟨_, upd_same, q.dropLast.mono gr⟩) (rv.mono gr)⟩
      · exact h.elim
    · exact h.elim
  · rename_i n i
    split at h
    · rename_i l hs
      obtain ⟨hl, h⟩ := ite_none h
      split at h
      · rename_i k hk
        split at h
        · rename_i d hd
          obtain ⟨a, rfl, ha, hm, xs, h1, q⟩ := w.ref r hs
          obtain ⟨v, hv, rv⟩ := q.get hd
          have gr : Grow μ H μ (upd H a (.lst (xs.eraseIdx k))) := grow_set hm h1 (by simp)
          exact ⟨_, mt_popAt, a, xs, i, k, v, rfl, repL_int (is := [i]) rl, h1, hl.1, hl.2, by rw [← q.length]; exact hk, hv, h v _ μ gr (w.set ha ⟨_, upd_same, (q.erase k).mono gr⟩) (rv.mono gr)⟩
        · exact h.elim
      · exact h.elim
    · exact h.elim
  · exact h.elim

/-! dicts -/
def pGet1 : D → D → Sto → Pr := fun d k S => match asD d S with
  | some (j, l) => if keyOk j k = true then some ((dget l k).getD .non, S) else none
  | none => none
theorem isD_rep {d : D} {v : V} {k : Nat} {l : List (D × D)} (w : W g μ H S) (r : Rep g H μ d v) (e : asD d S = some (k, l)) : ∃ a, v = .ref a ∧ IsD H a := by
  obtain ⟨a, rfl, ⟨_, ks, h, _⟩ | ⟨_, ks, h, _⟩⟩ := asD_rep w r e
  · exact ⟨a, rfl, .inl ⟨ks, h⟩⟩
  · exact ⟨a, rfl, .inr ⟨ks, h⟩⟩
/-- a receiver that is a dict, then one argument, two -/
def gD1 (p : D → D → Sto → Pr) (o e : GE) : GE := fun ρ S => (o ρ S).bind fun x S1 => match asD x S1 with
  | some _ => (e ρ S1).bind fun y S2 => (p x y S2).res
  | none => .bad
def gD2 (p : D → D → D → Sto → Pr) (o e f : GE) : GE := fun ρ S => (o ρ S).bind fun x S1 => match asD x S1 with
  | some _ => (e ρ S1).bind fun y S2 => (f ρ S2).bind fun z S3 => (p x y z S3).res
  | none => .bad
structure M1A (o : Expr) (m : Str) (apos : Pos) (e : Expr) (cpos : Pos) : Prop where
  base : ∀ env : Env, attributeBase o m env (eval o env) = eval o env
  few : ∀ env : Env, ((backTo cpos (starEach [e] env)).all (fun x => !x.1) && (backToKw cpos (keywordEach [] env)).all (fun x => x.1.isSome)
    && decide (([e] : List Expr).length + ([] : List Keyword).length + (if ([] : List Keyword).isEmpty then 0 else 1) < 30)) = true
  line : (apos.endLine == cpos.line) = true
  trees : ∀ env : Env, backTo cpos (starEach [e] env) = [(false, eval e env)]
structure M2A (o : Expr) (m : Str) (apos : Pos) (e f : Expr) (cpos : Pos) : Prop where
  base : ∀ env : Env, attributeBase o m env (eval o env) = eval o env
  few : ∀ env : Env, ((backTo cpos (starEach [e, f] env)).all (fun x => !x.1) && (backToKw cpos (keywordEach [] env)).all (fun x => x.1.isSome)
    && decide (([e, f] : List Expr).length + ([] : List Keyword).length + (if ([] : List Keyword).isEmpty then 0 else 1) < 30)) = true
  line : (apos.endLine == cpos.line) = true
  trees : ∀ env : Env, backTo cpos (starEach [e, f] env) = [(false, eval e env), (false, eval f env)]
theorem M1A.at {m : Str} {cpos} (h : M1A o m apos e cpos) : M1 X o m apos e cpos := ⟨h.base _, h.few _, h.line, h.trees _⟩
theorem M2A.at {m : Str} {f : Expr} {cpos} (h : M2A o m apos e f cpos) : M2 X o m apos e f cpos := ⟨h.base _, h.few _, h.line, h.trees _⟩
theorem re_get1 (ho : Real g N sc L o mo) (he : Real g N sc L e me) (m : M1A o "get" apos e cpos) : Real g N sc L (.Call (.Attribute o "get" apos) [e] [] cpos) (gD1 pGet1 mo me) := by
  intro Wx X C
  refine (pe_dget1 C.hu (ho Wx X C) (he Wx X C) m.at).weak ?_
  rintro σ H Q ⟨ρ, S, μ, hρ, hw, h⟩
  unfold gD1 at h
  refine ⟨ρ, S, μ, hρ, hw, h.bind fun x S1 vx H1 μ1 g1 w1 r1 h1 => ?_⟩
  split at h1
  · rename_i kl ed
    obtain ⟨a, rfl, hd⟩ := isD_rep w1 r1 ed
    refine ⟨a, rfl, hd, ρ, S1, μ1, hρ.mono g1, w1, h1.bind fun y S2 vy H2 μ2 g2 w2 r2 h2 => ?_⟩
    have h3 := h2.pr
    unfold pGet1 at h3
    split at h3
    · rename_i j l ej
      obtain ⟨hk, h3⟩ := ite_none h3
      obtain ⟨q, ov, eq, dg, hsome, hnone⟩ := dget_rep w2 (r1.mono g2) r2 ej hk
      cases eq
      refine ⟨ov, dg, ?_⟩
      cases ez : dget l y with
      | some z =>
        obtain ⟨v, rfl, rz⟩ := hsome z ez
        rw [ez] at h3
        exact PostP.here h3 w2 rz
      | none =>
        rw [hnone ez]
        rw [ez] at h3
        exact PostP.here h3 w2 (by simp [Rep])
    · exact h3.elim
  · exact h1.elim
def pGet2 : D → D → D → Sto → Pr := fun d k z S => match asD d S with
  | some (j, l) => if keyOk j k = true then some ((dget l k).getD z, S) else none
  | none => none
theorem re_get2 (ho : Real g N sc L o mo) (he : Real g N sc L e me) (hf : Real g N sc L e2 m2) (m : M2A o "get" apos e e2 cpos) : Real g N sc L (.Call (.Attribute o "get" apos) [e, e2] [] cpos) (gD2 pGet2 mo me m2) := by
  intro Wx X C
  refine (pe_dget2 C.hu (ho Wx X C) (he Wx X C) (hf Wx X C) m.at).weak ?_
  rintro σ H Q ⟨ρ, S, μ, hρ, hw, h⟩
  unfold gD2 at h
  refine ⟨ρ, S, μ, hρ, hw, h.bind fun x S1 vx H1 μ1 g1 w1 r1 h1 => ?_⟩
  split at h1
  · rename_i kl ed
    obtain ⟨a, rfl, hd⟩ := isD_rep w1 r1 ed
    refine ⟨a, rfl, hd, ρ, S1, μ1, hρ.mono g1, w1, h1.bind fun y S2 vy H2 μ2 g2 w2 r2 h2 => ⟨ρ, S2, μ2, (hρ.mono g1).mono g2, w2, h2.bind fun z S3 vz H3 μ3 g3 w3 r3 h3 => ?_⟩⟩
    have h3 := h3.pr
    unfold pGet2 at h3
    split at h3
    · rename_i j l ej
      obtain ⟨hk, h3⟩ := ite_none h3
      obtain ⟨q, ov, eq, dg, hsome, hnone⟩ := dget_rep w3 ((r1.mono g2).mono g3) (r2.mono g3) ej hk
      cases eq
      refine ⟨ov, dg, ?_⟩
      cases ez : dget l y with
      | some z =>
        obtain ⟨v, rfl, rz⟩ := hsome z ez
        rw [ez] at h3
        exact PostP.here h3 w3 rz
      | none =>
        rw [hnone ez]
        rw [ez] at h3
        exact PostP.here h3 w3 r3
    · exact h3.elim
  · exact h1.elim
/-- a dict cell that may be written to, its keys flat -/
def cellD (d : D) (S : Sto) : Option (Nat × List (D × D)) := match d with
  | .ref n => match S[n]? with
    | some (.dict 0 false l) => some (n, l)
    | _ => none
  | _ => none
theorem cellD_rep {d : D} {v : V} {n : Nat} {l : List (D × D)} (w : W g μ H S) (r : Rep g H μ d v) (e : cellD d S = some (n, l)) : ∃ a ks, v = .ref a ∧ μ[n]? = some a ∧ a ∈ μ ∧ H a = some (.dK ks) ∧ RepK g H μ l ks := by
  unfold cellD at e
  split at e
  · split at e
    · rename_i n' l' hs
      cases e
      obtain ⟨a, rfl, ha, hm, u, hq, h1⟩ := w.ref r hs
      rw [if_neg (by simp)] at h1
      rcases hq with ⟨_, ks, rfl, q⟩ | ⟨z, _⟩
      · exact ⟨a, ks, rfl, ha, hm, h1, q⟩
      · cases z
    · cases e
  · cases e
theorem ddelK {k : Key} : ∀ {l : List (D × D)} {ks : List (Key × V)}, RepK g H μ l ks → RepK g H μ (ddel l (kD k)) (dropK ks k)
  | [], ks, r => by simp only [RepK] at r; subst r; simp [ddel, dropK, RepK]
  | p :: l, ks, r => by
    simp only [RepK] at r
    obtain ⟨j, v, t, rfl, e, h, q⟩ := r
    have ih := ddelK (k := k) q
    unfold ddel dropK at ih ⊢
    rw [List.filter_cons, List.filter_cons]
    by_cases hj : j = k
    · subst hj
      rw [if_neg (by simp [e]), if_neg (by simp)]
      exact ih
    · rw [if_pos (by simp only [decide_eq_true_eq]; intro z; exact hj (kD_inj (e.symm.trans z))), if_pos (by simpa using hj)]
      simp only [RepK]
      exact ⟨j, v, _, rfl, e, h, ih⟩
theorem W.setD {n : Nat} {a : Addr} {ks ks' : List (Key × V)} {l' : List (D × D)} (w : W g μ H S) (ha : μ[n]? = some a) (h1 : H a = some (.dK ks)) (q : RepK g H μ l' ks') :
    W g μ (upd H a (.dK ks')) (S.set n (.dict 0 false l')) ∧ Grow μ H μ (upd H a (.dK ks')) := by
  have gr : Grow μ H μ (upd H a (.dK ks')) := grow_set (List.mem_of_getElem? ha) h1 (by simp)
  exact ⟨w.set ha ⟨_, .inl ⟨rfl, _, rfl, q.mono gr⟩, by rw [if_neg (by simp)]; exact upd_same⟩, gr⟩
def pDPop1 : D → D → Sto → Pr := fun d k S => match cellD d S with
  | some (n, l) => if keyOk 0 k = true then match dget l k with
    | some v => some (v, S.set n (.dict 0 false (ddel l k)))
    | none => none
    else none
  | none => none
theorem re_dpop1 (ho : Real g N sc L o mo) (he : Real g N sc L e me) (m : M1A o "pop" apos e cpos) : Real g N sc L (.Call (.Attribute o "pop" apos) [e] [] cpos) (gD1 pDPop1 mo me) := by
  intro Wx X C
  refine (pe_dpop1 (ho Wx X C) (he Wx X C) m.at).weak ?_
  rintro σ H Q ⟨ρ, S, μ, hρ, hw, h⟩
  unfold gD1 at h
  refine ⟨ρ, S, μ, hρ, hw, h.bind fun x S1 vx H1 μ1 g1 w1 r1 h1 => ?_⟩
  split at h1
  · rename_i kl ed
    obtain ⟨a, rfl, hd⟩ := isD_rep w1 r1 ed
    refine ⟨a, rfl, hd, ρ, S1, μ1, hρ.mono g1, w1, h1.bind fun y S2 vy H2 μ2 g2 w2 r2 h2 => ?_⟩
    have h3 := h2.pr
    unfold pDPop1 at h3
    split at h3
    · rename_i n l ej
      obtain ⟨hk, h3⟩ := ite_none h3
      obtain ⟨b, ks, eb, ha, hm, hh, q⟩ := cellD_rep w2 (r1.mono g2) ej
      cases eb
      obtain ⟨k, rfl, rfl⟩ := keyOk0 hk r2
      split at h3
      · rename_i z ez
        obtain ⟨v, hv, rv⟩ := (dgetK q).1 z ez
        obtain ⟨w3, gr⟩ := w2.setD ha hh (ddelK (k := k) q)
        exact ⟨ks, k, v, hh, rfl, hv, h3 v _ μ2 gr w3 (rv.mono gr)⟩
      · exact h3.elim
    · exact h3.elim
  · exact h1.elim
def pDPop2 : D → D → D → Sto → Pr := fun d k z S => match cellD d S with
  | some (n, l) => if keyOk 0 k = true then match dget l k with
    | some v => some (v, S.set n (.dict 0 false (ddel l k)))
    | none => some (z, S)
    else none
  | none => none
theorem re_dpop2 (ho : Real g N sc L o mo) (he : Real g N sc L e me) (hf : Real g N sc L e2 m2) (m : M2A o "pop" apos e e2 cpos) : Real g N sc L (.Call (.Attribute o "pop" apos) [e, e2] [] cpos) (gD2 pDPop2 mo me m2) := by
  intro Wx X C
  refine (pe_dpop2 (ho Wx X C) (he Wx X C) (hf Wx X C) m.at).weak ?_
  rintro σ H Q ⟨ρ, S, μ, hρ, hw, h⟩
  unfold gD2 at h
  refine ⟨ρ, S, μ, hρ, hw, h.bind fun x S1 vx H1 μ1 g1 w1 r1 h1 => ?_⟩
  split at h1
  · rename_i kl ed
    obtain ⟨a, rfl, hd⟩ := isD_rep w1 r1 ed
    refine ⟨a, rfl, hd, ρ, S1, μ1, hρ.mono g1, w1, h1.bind fun y S2 vy H2 μ2 g2 w2 r2 h2 => ⟨ρ, S2, μ2, (hρ.mono g1).mono g2, w2, h2.bind fun z S3 vz H3 μ3 g3 w3 r3 h3 => ?_⟩⟩
    have h3 := h3.pr
    unfold pDPop2 at h3
    split at h3
    · rename_i n l ej
      obtain ⟨hk, h3⟩ := ite_none h3
      obtain ⟨b, ks, eb, ha, hm, hh, q⟩ := cellD_rep w3 ((r1.mono g2).mono g3) ej
      cases eb
      obtain ⟨k, rfl, rfl⟩ := keyOk0 hk (r2.mono g3)
      refine ⟨ks, k, hh, rfl, fun v hv => ?_, fun hn => ?_⟩
      · split at h3
        · rename_i z ez
          obtain ⟨v', hv', rv⟩ := (dgetK q).1 z ez
          rw [hv] at hv'; cases hv'
          obtain ⟨w4, gr⟩ := w3.setD ha hh (ddelK (k := k) q)
          exact h3 v _ μ3 gr w4 (rv.mono gr)
        · rename_i ez
          rw [(dgetK q).2 ez] at hv; cases hv
      · split at h3
        · rename_i z ez
          obtain ⟨v', hv', rv⟩ := (dgetK q).1 z ez
          rw [hn] at hv'; cases hv'
        · exact PostP.here h3 w3 r3
    · exact h3.elim
  · exact h1.elim
def pDSetd : D → D → D → Sto → Pr := fun d k z S => match cellD d S with
  | some (n, l) => if keyOk 0 k = true ∧ l.length < sizeLine then match dget l k with
    | some v => some (v, S)
    | none => some (z, S.set n (.dict 0 false (dput l k z)))
    else none
  | none => none
theorem re_dsetd (ho : Real g N sc L o mo) (he : Real g N sc L e me) (hf : Real g N sc L e2 m2) (m : M2A o "setdefault" apos e e2 cpos) : Real g N sc L (.Call (.Attribute o "setdefault" apos) [e, e2] [] cpos) (gD2 pDSetd mo me m2) := by
  intro Wx X C
  refine (pe_dsetd (ho Wx X C) (he Wx X C) (hf Wx X C) m.at).weak ?_
  rintro σ H Q ⟨ρ, S, μ, hρ, hw, h⟩
  unfold gD2 at h
  refine ⟨ρ, S, μ, hρ, hw, h.bind fun x S1 vx H1 μ1 g1 w1 r1 h1 => ?_⟩
  split at h1
  · rename_i kl ed
    obtain ⟨a, rfl, hd⟩ := isD_rep w1 r1 ed
    refine ⟨a, rfl, hd, ρ, S1, μ1, hρ.mono g1, w1, h1.bind fun y S2 vy H2 μ2 g2 w2 r2 h2 => ⟨ρ, S2, μ2, (hρ.mono g1).mono g2, w2, h2.bind fun z S3 vz H3 μ3 g3 w3 r3 h3 => ?_⟩⟩
    have h3 := h3.pr
    unfold pDSetd at h3
    split at h3
    · rename_i n l ej
      obtain ⟨hk, h3⟩ := ite_none h3
      obtain ⟨b, ks, eb, ha, hm, hh, q⟩ := cellD_rep w3 ((r1.mono g2).mono g3) ej
      cases eb
      obtain ⟨k, rfl, rfl⟩ := keyOk0 hk.1 (r2.mono g3)
      refine ⟨ks, k, hh, rfl, by rw [← repK_len q]; exact hk.2, fun v hv => ?_, fun hn => ?_⟩
      · split at h3
        · rename_i z ez
          obtain ⟨v', hv', rv⟩ := (dgetK q).1 z ez
          rw [hv] at hv'; cases hv'
          exact PostP.here h3 w3 rv
        · rename_i ez
          rw [(dgetK q).2 ez] at hv; cases hv
      · split at h3
        · rename_i z ez
          obtain ⟨v', hv', rv⟩ := (dgetK q).1 z ez
          rw [hn] at hv'; cases hv'
        · obtain ⟨w4, gr⟩ := w3.setD ha hh (dputK (k := k) r3 q)
          exact h3 _ _ μ3 gr w4 (r3.mono gr)
    · exact h3.elim
  · exact h1.elim

/-! ### displays of dicts -/
def gDispN (n0 : Nat) : List (GE × GE) → Ev → Sto → List (D × D) → Res
  | [], _, S, acc => match S[n0]? with
    | some (.dict 0 false []) => .ok (.ref n0) (S.set n0 (.dict 0 false acc))
    | _ => .bad
  | p :: r, ρ, S, acc => match p.1 ρ S with
    | .ok k S1 => match p.2 ρ S1 with
      | .ok v S2 => if keyOk 0 k = true then gDispN n0 r ρ S2 (dput acc k v) else .bad
      | .exc c S2 => .exc c S2
      | .bad => .bad
    | .exc c S1 => .exc c S1
    | .bad => .bad
def gDisp (imm : Bool) (l : List (GE × GE)) : GE := fun ρ S => if imm = true then tidy S (gDispN S.length l ρ (S ++ [.dict 0 false []]) []) else gDispN S.length l ρ (S ++ [.dict 0 false []]) []
inductive RealPs (g : G) (N : List Str) (sc : Scope) (L : Nat) : List (Option Expr) → List Expr → List (GE × GE) → Prop
  | nil : RealPs g N sc L [] [] []
  | cons {k v : Expr} {ks : List (Option Expr)} {vs : List Expr} {mk mv : GE} {l : List (GE × GE)} (hk : Real g N sc L k mk) (hv : Real g N sc L v mv) (h : RealPs g N sc L ks vs l) : RealPs g N sc L (some k :: ks) (v :: vs) ((mk, mv) :: l)
theorem RealPs.pps {ks : List (Option Expr)} {vs : List Expr} {l : List (GE × GE)} (h : RealPs g N sc L ks vs l) (C : CtxOk g N sc L Wx X) : PPs X pos ks vs (l.map fun p => (tG g Wx p.1, tG g Wx p.2)) := by
  induction h with
  | nil => exact pps_nil
  | cons hk hv h ih => exact pps_cons (hk Wx X C) (hv Wx X C) ih
theorem disp_turns {σ : St} {p : Addr} {n0 : Nat} {μ0 : List Addr} {H0 : Hp} : ∀ {l : List (GE × GE)} {μ : List Addr} {H : Hp} {S : Sto} {ρ : Ev} {acc : List (D × D)} {kvs0 : List (Key × V)} {Qf : List (V × V) → Hp → Prop},
    EnvOk g H μ ρ σ → W g μ H S → Grow μ0 H0 μ H → μ[n0]? = some p → RepK g H μ acc (mergeK [] kvs0) → kvs0.length + l.length ≤ 15 → PostR g μ0 H0 (gDispN n0 l ρ S acc) Q (wE g Wx σ) →
    (∀ ps H2, (H2 p = some (.dK []) ∧ ∃ kvs : List (Key × V), ps = kvs.map (fun kv => (kV kv.1, kv.2)) ∧ (kvs0 ++ kvs).length ≤ 15 ∧ Q (.ref p) (upd H2 p (.dK (mergeK [] (kvs0 ++ kvs))))) → Qf ps H2) →
    tPairs (l.map fun p => (tG g Wx p.1, tG g Wx p.2)) σ H Qf
  | [], μ, H, S, ρ, acc, kvs0, Qf, he, w, gr, hp, ra, hl, h, hQ => by
    unfold gDispN at h
    split at h
    · rename_i hs
      obtain ⟨u, hq, h1⟩ := w.cell _ _ _ hp hs
      rw [if_neg (by simp)] at h1
      rcases hq with ⟨_, ks, rfl, q⟩ | ⟨z, _⟩
      · simp only [RepK] at q
        subst q
        obtain ⟨w2, g2⟩ := w.setD hp h1 ra
        refine hQ [] H ⟨h1, [], rfl, by simpa using hl, ?_⟩
        rw [List.append_nil]
        exact h _ _ μ (gr.trans g2) w2 (by simp only [Rep]; exact ⟨p, rfl, hp⟩)
      · cases z
    · exact h.elim
  | x :: l, μ, H, S, ρ, acc, kvs0, Qf, he, w, gr, hp, ra, hl, h, hQ => by
    obtain ⟨mk, mv⟩ := x
    unfold gDispN at h
    simp only at h
    refine ⟨ρ, S, μ, he, w, ?_⟩
    show PostR g μ H (mk ρ S) _ _
    cases ek : mk ρ S with
    | bad => rw [ek] at h; exact h.elim
    | exc c S1 => rw [ek] at h; exact fun H1 μ1 g1 w1 => h H1 μ1 (gr.trans g1) w1
    | ok k S1 =>
      rw [ek] at h
      intro vk H1 μ1 g1 w1 r1
      refine ⟨ρ, S1, μ1, he.mono g1, w1, ?_⟩
      show PostR g μ1 H1 (mv ρ S1) _ _
      simp only at h
      cases ev : mv ρ S1 with
      | bad => rw [ev] at h; exact h.elim
      | exc c S2 => rw [ev] at h; exact fun H2 μ2 g2 w2 => h H2 μ2 ((gr.trans g1).trans g2) w2
      | ok v S2 =>
        rw [ev] at h
        intro vv H2 μ2 g2 w2 r2
        simp only at h
        by_cases hk : keyOk 0 k = true
        · rw [if_pos hk] at h
          obtain ⟨j, rfl, rfl⟩ := keyOk0 hk (r1.mono g2)
          have g12 := g1.trans g2
          have hm : mergeK [] (kvs0 ++ [(j, vv)]) = putK (mergeK [] kvs0) j vv := by unfold mergeK; rw [List.foldl_append]; rfl
          refine disp_turns (l := l) (kvs0 := kvs0 ++ [(j, vv)]) ((he.mono g1).mono g2) w2 ((gr.trans g1).trans g2) (g2.get (g1.get hp)) (by rw [hm]; exact dputK r2 ((ra.mono g1).mono g2)) (by simp at hl ⊢; omega) h ?_
          rintro ps H3 ⟨e1, kvs, e2, e3, e4⟩
          refine hQ _ _ ⟨e1, (j, vv) :: kvs, by rw [List.map_cons, e2], ?_, ?_⟩
          · rw [show kvs0 ++ (j, vv) :: kvs = kvs0 ++ [(j, vv)] ++ kvs by simp]; exact e3
          · rw [show kvs0 ++ (j, vv) :: kvs = kvs0 ++ [(j, vv)] ++ kvs by simp]; exact e4
        · rw [if_neg hk] at h; exact h.elim
theorem re_disp {imm : Bool} {ks : List (Option Expr)} {vs : List Expr} {l : List (GE × GE)} (h : RealPs g N sc L ks vs l) (hall : ks.all (·.isSome) = true) (hl : ks.length = vs.length) (h0 : ks ≠ []) (h15 : ks.length ≤ 15) (hl2 : l.length ≤ 15) :
    Real g N sc L (.Dict ks vs pos) (gDisp imm l) := by
  intro Wx X C
  refine (pe_disp (h.pps C) hall hl h0 h15).weak ?_
  rintro σ H Q ⟨ρ, S, μ, hρ, hw, hh⟩
  have hh2 : PostR g μ H (gDispN S.length l ρ (S ++ [.dict 0 false []]) []) Q (wE g Wx σ) := by
    unfold gDisp at hh
    cases imm with
    | true => exact PostR.untidy hw hh
    | false => exact hh
  intro p hp
  have hlen := hw.len
  have hpn : (μ ++ [p])[S.length]? = some p := by rw [← hlen, List.getElem?_append_right (Nat.le_refl _)]; simp
  refine disp_turns (kvs0 := []) (hρ.mono (grow_alloc hp)) (hw.alloc (c := .dict 0 false []) hp ⟨.dK [], .inl ⟨rfl, [], rfl, by simp [RepK]⟩, by rw [if_neg (by simp)]; exact upd_same⟩) (grow_alloc hp) hpn (by simp [mergeK, RepK]) (by simpa using hl2) hh2 ?_
  rintro ps H2 ⟨e1, kvs, e2, e3, e4⟩
  exact ⟨e1, kvs, e2, by simpa using e3, by simpa using e4⟩
/-- {}: keys k = 0 flat, k = 1 tuples of flat ones -/
def gDict0 (imm : Bool) (k : Nat) : GE := fun _ S => if imm = true then .ok (.dc k []) S else .ok (.ref S.length) (S ++ [.dict k false []])
theorem re_dict0 {imm : Bool} {k : Nat} (hk : k = 0 ∨ k = 1) : Real g N sc L (.Dict [] [] pos) (gDict0 imm k) := by
  intro Wx X C
  rcases hk with rfl | rfl
  · refine pe_dnewK.weak ?_
    rintro σ H Q ⟨ρ, S, μ, hρ, hw, h⟩ p hp
    unfold gDict0 at h
    cases imm with
    | true => exact h _ _ μ (grow_fresh hp) (hw.add hp) (by simp only [Rep]; refine ⟨p, rfl, hw.fresh hp, .inl ⟨trivial, [], .inl upd_same, by simp [RepK]⟩⟩)
    | false => exact h _ _ (μ ++ [p]) (grow_alloc hp) (hw.alloc (c := .dict 0 false []) hp ⟨.dK [], .inl ⟨rfl, [], rfl, by simp [RepK]⟩, by rw [if_neg (by simp)]; exact upd_same⟩) (by simp only [Rep]; exact ⟨p, rfl, by rw [← hw.len, List.getElem?_append_right (Nat.le_refl _)]; simp⟩)
  · refine pe_dnewT.weak ?_
    rintro σ H Q ⟨ρ, S, μ, hρ, hw, h⟩ p hp
    unfold gDict0 at h
    cases imm with
    | true => exact h _ _ μ (grow_fresh hp) (hw.add hp) (by simp only [Rep]; refine ⟨p, rfl, hw.fresh hp, .inr ⟨trivial, [], .inl upd_same, by simp [RepT]⟩⟩)
    | false => exact h _ _ (μ ++ [p]) (grow_alloc hp) (hw.alloc (c := .dict 1 false []) hp ⟨.dT [], .inr ⟨rfl, [], rfl, by simp [RepT]⟩, by rw [if_neg (by simp)]; exact upd_same⟩) (by simp only [Rep]; exact ⟨p, rfl, by rw [← hw.len, List.getElem?_append_right (Nat.le_refl _)]; simp⟩)

/-! ### calls of functions that are held -/
abbrev FTab := List (Str × List D × Fn)
/-- o.f(e, ..), f an attribute that holds a function -/
def gMethF (cl : List Str) (tab : FTab) (f : Str) (o : GE) (l : List GE) : GE := fun ρ S => (o ρ S).bind fun x S1 => match gAttr cl f x S1 with
  | some (.fn y, _) => match mlook y tab with
    | some (dds, F) => gArgs l ρ S1 fun ds S2 => F (ds ++ dds) S2
    | none => .bad
  | _ => .bad
theorem re_methF {cl : List Str} {tab : FTab} {f : Str} {k : Nat} {pl : Env → Sem Bool} (ho : Real g N sc L o mo) (hc : ∀ c ∈ cl, ClsF g c f) (hT : ∀ q ∈ tab, CallOk g k q.1 q.2.1 q.2.2) (hk : k ≤ L) (ha : RealA g N sc L (e :: es) l)
    (hst : ∀ env : Env, starEach (e :: es) env = (false, eval e env) :: starEach es env) (hpl : ∀ env : Env, (backTo pos (starEach es env)).any (·.1) = false)
    (ht : ∀ env : Env, eval (.Call (.Attribute o f apos) (e :: es) [] pos) env = (do
      let ov ← eval o env
      standAt apos.atName
      let (f, first) ← holding [ov] (getMethod ov f (pl env))
      callWith pos f first (backTo pos (starEach (e :: es) env)) (backToKw pos (keywordEach [] env)))) :
    Real g N sc L (.Call (.Attribute o f apos) (e :: es) [] pos) (gMethF cl tab f mo l) := by
  intro Wx X C
  refine ⟨fun pins s σ H Q I h => ?_⟩
  obtain ⟨ρ, S, μ, he, hw, h⟩ := h
  unfold gMethF at h
  refine PySem.W.methodCall_KW (pl := pl X.env) (thn ((ho Wx X C).run pins s σ H (fun v H1 => ∃ x S1 μ1, EnvOk g H1 μ1 ρ σ ∧ W g μ1 H1 S1 ∧ Rep g H1 μ1 x v ∧ PostR g μ1 H1 (match gAttr cl f x S1 with
    | some (.fn y, _) => match mlook y tab with
      | some (dds, F) => gArgs l ρ S1 fun ds S2 => F (ds ++ dds) S2
      | none => .bad
    | _ => .bad) Q (wE g Wx σ)) I ⟨ρ, S, μ, he, hw, h.bind fun d S1 v H1 μ1 g1 w1 r1 h1 => ⟨d, S1, μ1, he.mono g1, w1, r1, h1⟩⟩) fun u s1 ⟨v, H1, I1, rv, x, S1, μ1, e1, w1, r1, h1⟩ => ?_) (ht X.env)
  split at h1
  · rename_i y S2 eg
    split at h1
    · rename_i dds F et
      obtain ⟨fa, fd, ps, hm, hF, ds, dvs, hb, hd, hr⟩ := hT _ (mlook_mem et)
      have key : ∃ a CC dx vs vf c, v = .ref a ∧ c ∈ cl ∧ g.mg c = some (.ref CC) ∧ H1 a = some (.ins CC dx vs) ∧ vs.lookup f = some vf ∧ Rep g H1 μ1 (.fn y) vf := by
        unfold gAttr at eg
        split at eg
        · rename_i c fs
          split at eg
          · rename_i hcl
            simp only [Rep] at r1
            obtain ⟨a, CC, dx, vs, rfl, _, mc, ea, q⟩ := r1
            cases ez : lookD f fs with
            | none => rw [ez] at eg; cases eg
            | some z =>
              rw [ez] at eg
              cases eg
              obtain ⟨vf, hv, rz⟩ := q.look.1 _ ez
              exact ⟨a, CC, dx, vs, vf, c, rfl, hcl, mc, ea, hv, rz⟩
          · cases eg
        · rename_i n
          split at eg
          · rename_i c fs hs
            split at eg
            · rename_i hcl
              obtain ⟨a, rfl, ha, hmm, CC, dx, vs, mc, ea, q⟩ := w1.ref r1 hs
              cases ez : lookD f fs with
              | none => rw [ez] at eg; cases eg
              | some z =>
                rw [ez] at eg
                cases eg
                obtain ⟨vf, hv, rz⟩ := q.look.1 _ ez
                exact ⟨a, CC, dx, vs, vf, c, rfl, hcl, mc, ea, hv, rz⟩
            · cases eg
          · cases eg
        · cases eg
      obtain ⟨a, CC, dx, vs, vf, c, rfl, hcl, mc, ea, hv, rz⟩ := key
      obtain ⟨k1, k2⟩ := hc c hcl CC mc
      obtain rfl : u = Value.ref a := rv
      refine getmeth_fld I1 ea (by rw [C.K]; exact k1) (by rw [C.K]; exact k2) hv fun u2 s2 I2 ru => ?_
      simp only [Rep] at rz
      obtain ⟨a2, rfl, hm2⟩ := rz
      rw [hm] at hm2; cases hm2
      obtain rfl : u2 = Value.ref fa := ru
      refine PySem.W.callWith_K (h₀ := X.base) I2.ok.mod.kin (by rw [C.K]; exact hF.kp) (thn ((ha.a Wx X C).run pos pins s2 σ H1 (fun vs2 H2 => spG g F (vs2 ++ dvs) H2 Q (WE Wx σ)) I2
        ⟨ρ, S1, μ1, e1, w1, _, Q, h1, fun xs S3 vs2 H2 μ2 g2 w2 r2 h2 => ⟨xs ++ dds, S3, μ2, w2, r2.append (hr _ _), h2⟩⟩) fun us s3 ⟨vs2, H2, I3, r, q2⟩ => ⟨I3.kIn, ?_⟩) (hst X.env) (hpl X.env)
      exact run_fnSD (us := us) (vs := vs2) (hF.of C) (C.room.mono hk) (by rw [C.K]; exact hb) hd (passAt C.tk σ) I3 r q2
    · exact h1.elim
  · exact h1.elim

/-! ### o.f op= e, del d[k] -/
def sAugA (cl : List Str) (f : Str) (p : D → D → Sto → Pr) (o v : GE) : GS := fun ρ S => (o ρ S).thn ρ fun x S1 => match gAttr cl f x S1 with
  | some (old, _) => (v ρ S1).thn ρ fun y S2 => match p old y S2 with
    | some (z, S3) => if (clsOf x S1).map (·.1) = (clsOf x S3).map (·.1) then match setA cl f x z S3 with
      | some S4 => .nx ρ S4
      | none => .bad
      else .bad
    | none => .bad
  | none => .bad
theorem gAttr_rep {cl : List Str} {f : Str} {x d : D} {v : V} {S' : Sto} (hc : ∀ c ∈ cl, ClsF g c f) (w : W g μ H S) (r : Rep g H μ x v) (e : gAttr cl f x S = some (d, S')) :
    S' = S ∧ ∃ a CC dx vs vf c, v = .ref a ∧ c ∈ cl ∧ g.mg c = some (.ref CC) ∧ H a = some (.ins CC dx vs) ∧ vs.lookup f = some vf ∧ Rep g H μ d vf ∧ (clsOf x S).map (·.1) = some c := by
  unfold gAttr at e
  split at e
  · rename_i c fs
    split at e
    · rename_i hcl
      simp only [Rep] at r
      obtain ⟨a, CC, dx, vs, rfl, _, mc, ea, q⟩ := r
      cases ez : lookD f fs with
      | none => rw [ez] at e; cases e
      | some z =>
        rw [ez] at e
        cases e
        obtain ⟨vf, hv, rz⟩ := q.look.1 _ ez
        exact ⟨rfl, a, CC, dx, vs, vf, c, rfl, hcl, mc, ea, hv, rz, rfl⟩
    · cases e
  · rename_i n
    split at e
    · rename_i c fs hs
      split at e
      · rename_i hcl
        obtain ⟨a, rfl, ha, hmm, CC, dx, vs, mc, ea, q⟩ := w.ref r hs
        cases ez : lookD f fs with
        | none => rw [ez] at e; cases e
        | some z =>
          rw [ez] at e
          cases e
          obtain ⟨vf, hv, rz⟩ := q.look.1 _ ez
          exact ⟨rfl, a, CC, dx, vs, vf, c, rfl, hcl, mc, ea, hv, rz, by simp only [clsOf, hs]; rfl⟩
      · cases e
    · cases e
  · cases e
theorem setA_rep {cl : List Str} {f : Str} {x z : D} {v vz : V} {S' : Sto} (w : W g μ H S) (r : Rep g H μ x v) (rz : Rep g H μ z vz) (e : setA cl f x z S = some S') :
    ∃ a CC dx vs c, v = .ref a ∧ g.mg c = some (.ref CC) ∧ (clsOf x S).map (·.1) = some c ∧ H a = some (.ins CC dx vs) ∧ vs.length < 1000 ∧ W g μ (upd H a (.ins CC dx (putF f vz vs))) S' ∧ Grow μ H μ (upd H a (.ins CC dx (putF f vz vs))) := by
  unfold setA at e
  split at e
  · split at e
    · rename_i n c fs hs
      split at e
      · rename_i hcl
        cases e
        obtain ⟨a, rfl, ha, hm, CC, dx, vs, mc, ea, q⟩ := w.ref r hs
        have gr : Grow μ H μ (upd H a (.ins CC dx (putF f vz vs))) := grow_set hm ea (by simp)
        exact ⟨a, CC, dx, vs, c, rfl, mc, by simp only [clsOf, hs]; rfl, ea, by rw [← q.length]; exact hcl.2, w.set ha ⟨CC, dx, _, mc, upd_same, (RepF.put rz q).mono gr⟩, gr⟩
      · cases e
    · cases e
  · cases e
theorem rs_augA {f : Str} {cl : List Str} {op : Operator} {pp : D → D → Sto → Pr} {v : Expr} {mv : GE} (ho : Real g N sc L o mo) (hv : Real g N sc L v mv) (hc : ∀ c ∈ cl, ClsF g c f) (hop : OpI g N sc L op pp) :
    RealS g N sc L (.AugAssign (.Attribute o f tpos) op v pos) (sAugA cl f pp mo mv) := by
  intro Wx X C
  refine (ps_fldaug (rd := rP2 g pp) (ho Wx X C.toCtxOk) (hv Wx X C.toCtxOk) (fun pins s σ H x y u v Q I rx ry q => hop Wx X C.toCtxOk pins s σ H x y u v Q I rx ry q)).weak ?_
  rintro D σ H ⟨ρ, S, μ, he, hw, h⟩
  refine ⟨ρ, S, μ, he, hw, h.ex he fun x S1 vx H1 μ1 g1 w1 r1 h1 => ?_⟩
  split at h1
  · rename_i old S1' eg
    obtain ⟨rfl, a, CC, dx, vs, vf, c, rfl, hcl, mc, ea, hv, rz, ecl⟩ := gAttr_rep hc w1 r1 eg
    obtain ⟨k1, k2⟩ := hc c hcl CC mc
    refine ⟨a, CC, dx, vs, vf, rfl, ea, by rw [C.K]; exact k1, by rw [C.K]; exact k2, hv, ρ, S1', μ1, he.mono g1, w1, h1.ex (he.mono g1) fun y S2 vy H2 μ2 g2 w2 r2 h2 => ⟨old, y, S2, μ2, w2, rz.mono g2, r2, ?_⟩⟩
    split at h2
    · rename_i z S3 e3
      rw [e3]
      intro vz H3 μ3 g3 w3 r3
      have r1' := (r1.mono g2).mono g3
      have he3 := ((he.mono g1).mono g2).mono g3
      split at h2
      · rename_i hcc
        split at h2
        · rename_i S4 e4
          obtain ⟨a', CC', dx', vs', c', ea1, mc', ecl', ea', hl, w4, g4⟩ := setA_rep w3 r1' r3 e4
          cases ea1
          rw [ecl, ecl'] at hcc
          cases hcc
          rw [mc] at mc'
          cases mc'
          exact ⟨dx', vs', ea', hl, h2 σ _ μ3 (g3.trans g4) w4 (he3.mono g4)⟩
        · exact h2.elim
      · exact h2.elim
    · exact h2.elim
  · exact h1.elim
def pDel : D → D → Sto → Option Sto := fun d k S => match cellD d S with
  | some (n, l) => if keyOk 0 k = true then match dget l k with
    | some _ => some (S.set n (.dict 0 false (ddel l k)))
    | none => none
    else none
  | none => none
def sDel (o i : GE) : GS := fun ρ S => (o ρ S).thn ρ fun x S1 => (i ρ S1).thn ρ fun y S2 => match pDel x y S2 with
  | some S3 => .nx ρ S3
  | none => .bad
theorem rs_del (ho : Real g N sc L o mo) (hi : Real g N sc L e me) : RealS g N sc L (.Delete [.Subscript o e tpos] pos) (sDel mo me) := by
  intro Wx X C
  refine (ps_ddel (ho Wx X C.toCtxOk) (hi Wx X C.toCtxOk)).weak ?_
  rintro D σ H ⟨ρ, S, μ, he, hw, h⟩
  refine ⟨ρ, S, μ, he, hw, h.ex he fun x S1 vx H1 μ1 g1 w1 r1 h1 => ⟨ρ, S1, μ1, he.mono g1, w1, h1.ex (he.mono g1) fun y S2 vy H2 μ2 g2 w2 r2 h2 => ?_⟩⟩
  split at h2
  · rename_i S3 e3
    unfold pDel at e3
    split at e3
    · rename_i n l ej
      obtain ⟨b, ks, rfl, ha, hm, hh, q⟩ := cellD_rep w2 (r1.mono g2) ej
      split at e3
      · rename_i hk
        obtain ⟨k, rfl, rfl⟩ := keyOk0 hk r2
        split at e3
        · rename_i z ez
          cases e3
          obtain ⟨v, hv, rv⟩ := (dgetK q).1 z ez
          obtain ⟨w3, gr⟩ := w2.setD ha hh (ddelK (k := k) q)
          exact ⟨b, ks, k, rfl, hh, rfl, by rw [hv]; rfl, h2 σ _ μ2 gr w3 (((he.mono g1).mono g2).mono gr)⟩
        · cases e3
      · cases e3
    · cases e3
  · exact h2.elim
end
end Gp

set_option Elab.async false
set_option linter.all false
set_option maxRecDepth 100000
/-! Gp16: defs, told lambdas -/
namespace Gp
open PySem PySem.Spec L2
open PyProof.Rows hiding St

/-! ### a def by its body -/
/-- the def of the text st at f; its code object -/
structure FunC (K : PySem.W.Frag) (x qual : Str) (st : Stmt) (f : Addr) (fd : FuncData) (cdv : Value) : Prop where
  ex : ∃ (oc : Value) (od : Option Addr) (dV kV doc pm : Value) (an : Option Addr) (ct : Value) (osl : Array (Option Value)),
    fd = PySem.W.fnOf x qual (defArgs st) (defBody st) (defScope st) dV kV doc pm an cdv ct ∧ K.lookup f = some ⟨oc, od, .func fd, osl⟩ ∧ PySem.W.codeIn K cdv qual = true
  kp : PySem.W.keepIn K (.ref f) = true
def startG (n : Nat) (ds : List D) : Ev := ds.map some ++ List.replicate (n - ds.length) none
def resOf (r : RS) : Res := match r with
  | .nx _ S => .ok .non S
  | .rt d S => .ok d S
  | .exc c _ S => .exc c S
  | _ => .bad
/-- what the def is worth: np parameters, n slots; imm: its new cells are forgotten, its result frozen -/
def fnG (imm : Bool) (np n : Nat) (m : GS) : Fn := fun ds S => if ds.length = np then (if imm = true then tidy S (resOf (m (startG n ds) S)) else resOf (m (startG n ds) S)) else .bad
section
variable {g : G} {N ps : List Str} {L : Nat} {μ : List Addr} {H : Hp} {S : Sto} {st : Stmt} {x qual : Str} {f : Addr} {fd : FuncData} {cdv : Value} {m : GS}
theorem env_nones : ∀ n : Nat, EnvOk g H μ (List.replicate n none) (List.replicate n none)
  | 0 => rfl
  | n + 1 => ⟨none, _, rfl, (fun x e => by cases e), env_nones n⟩
theorem env_start : ∀ {ds : List D} {vs : List V} (k : Nat), RepL g H μ ds vs → EnvOk g H μ (ds.map some ++ List.replicate k none) (vs.map some ++ List.replicate k none)
  | [], vs, k, r => by simp only [RepL] at r; subst r; exact env_nones k
  | d :: ds, vs, k, r => by
    simp only [RepL] at r
    obtain ⟨v, t, rfl, h, q⟩ := r
    exact ⟨some v, _, rfl, fun x e => by cases e; exact ⟨v, rfl, h⟩, env_start k q⟩
theorem fnR_of {imm : Bool} (F : FunC g.K x qual st f fd cdv) (Sc : FnScope N ps (defScope st)) (hb : RealSs g N (defScope st) L (defBody st) m)
    (hcd : lamLike (defScope st) = false → ∀ e ∈ g.cods, e.1 ∈ N → qual ++ ".<locals>." = e.2.1 ∧ cdv = .ref e.2.2.1) (hlm : ∀ m, g.lamM = some m → m ∈ N → False) : FnR g (L + 1) f fd ps (fnG imm ps.length N.length m) := by
  obtain ⟨oc, od, dV, kV, doc, pm, an, ct, osl, rfl, lk, hcc⟩ := F.ex
  have hlen : ∀ vs H Q E, spG g (fnG imm ps.length N.length m) vs H Q E → vs.length = ps.length := by
    rintro vs H Q E ⟨ds, S, μ, w, r, h⟩
    unfold fnG at h
    split at h
    · rename_i hl
      rw [← r.length]; exact hl
    · exact h.elim
  refine ⟨fn_of lk hcc Sc hlen fun A outer s H vs Q E hr h => ?_, F.kp⟩
  obtain ⟨ds, S, μ, w, r, h⟩ := h
  refine ⟨_, hb (fun cls d _ H => E cls d H) _ ⟨⟨rfl, rfl, rfl, rfl, rfl, rfl, rfl, rfl, takes_of rfl rfl rfl rfl, hr, passes_of rfl, hcd, (fun z => by have z' : (defScope st).isGenerator = true := z; rw [Sc.gen] at z'; cases z'), fun _ _ m e h => (hlm m e h).elim⟩, fun _ => rfl, rfl, rfl⟩, startG N.length ds, S, μ, ?_, w, ?_⟩
  · unfold startG L2.start
    rw [r.length]
    exact env_start _ r
  · unfold fnG at h
    split at h
    · have h2 : PostR g μ H (resOf (m (startG N.length ds) S)) Q (fun c H' => ∀ C, g.mg c = some (.ref C) → E (.ref C) none H') := by
        cases imm with
        | true => exact PostR.untidy w h
        | false => exact h
      generalize m (startG N.length ds) S = rr at h2
      cases rr with
      | nx ρ S' => exact fun σ' H' μ' gr w' e' => h2 .non H' μ' gr w' (by simp [Rep])
      | rt d S' => exact fun v H' μ' gr w' r' => h2 v H' μ' gr w' r'
      | exc c ρ S' => exact fun σ' H' μ' gr w' e' => h2 H' μ' gr w'
      | bk ρ S' => exact h2.elim
      | ct ρ S' => exact h2.elim
      | bad => exact h2.elim
    · exact h.elim
/-- a def that calls itself: by the number of calls within one another -/
theorem fnR_bad (F : FunC g.K x qual st f fd cdv) : FnR g L f fd ps (fun _ _ => .bad) :=
  ⟨⟨fun vs H Q E h => by obtain ⟨_, _, _, _, _, h⟩ := h; exact h.elim, fun A outer s H args us vs Q E hr e0 hb r h => by obtain ⟨_, _, _, _, _, h⟩ := h; exact h.elim⟩, F.kp⟩
theorem FnR.mono {L' : Nat} {F : Fn} (h : FnR g L f fd ps F) (hl : L ≤ L') : FnR g L' f fd ps F := ⟨h.ok.mono hl, h.kp⟩
def recN (b : Fn → Fn) : Nat → Fn
  | 0 => fun _ _ => .bad
  | n + 1 => b (recN b n)
theorem fnR_rec {b : Fn → Fn} (F : FunC g.K x qual st f fd cdv) (hb : ∀ k G, L ≤ k → FnR g k f fd ps G → FnR g (k + 1) f fd ps (b G)) : ∀ n, FnR g (L + n) f fd ps (recN b n)
  | 0 => fnR_bad F
  | n + 1 => hb (L + n) _ (Nat.le_add_right _ _) (fnR_rec F hb n)
end

/-! ### told(lambda: e) -/
def gTold (yes : List Str) (ret : Str) (m : GE) : GE := fun ρ S => match m ρ S with
  | .exc c S1 => if c ∈ yes then .ok (.str ret) S1 else .bad
  | r => r
section
variable {g : G} {N : List Str} {sc : Scope} {L k : Nat} {Wx : WX} {X : Cx} {μ : List Addr} {H H1 : Hp} {S : Sto} {mb : GE}
theorem grow_ext {H H1 : Hp} (e : LamX.ExtN H H1) : Grow μ H μ H1 := by
  refine ⟨⟨⟨[], by simp, by simp⟩, fun b o _ h n => ⟨o, e b o h n, rfl⟩, fun b o h n => ⟨o, e b o h n, n⟩⟩, fun b o u h => e b _ h (by simp)⟩
theorem W.ext {H H1 : Hp} (w : W g μ H S) (e : LamX.ExtN H H1) (tb : g.tb H1) : W g μ H1 S where
  len := w.len
  nd := w.nd
  cell := fun n a c e1 e2 => by
    have k := w.cell n a c e1 e2
    obtain ⟨u, hu, n1, _⟩ := k.at
    exact k.mono (grow_ext e) (by rw [hu, e a u hu n1])
  tb := tb
end
end Gp

set_option Elab.async false
set_option linter.all false
set_option maxRecDepth 100000
/-! Gp17: what the top has left, by names; the end -/
namespace Gp
open PySem PySem.Spec L2
open PyProof.Rows hiding St

/-- what is known of the top -/
structure Top (g : G) (fa : List He.Fa) (fn : List He.DefD) : Prop where
  fact : ∀ f ∈ fa, f.ok g.K = true
  defs : ∀ d ∈ fn, ∃ fd, FunD g.K d.name d.qual d.params d.body d.scope (d.dvs g.K) (d.kws g.K) (He.fAd g.K d.at_) fd
  X : g.K.In g.base
  ns : g.base.Ns mainGlobals g.mg
section
variable {g : G} {fa : List He.Fa} {fn : List He.DefD} {N : List Str} {sc : Scope} {L : Nat} {pos : Pos}
theorem Top.glo (T : Top g fa fn) {x : Str} (h : .glo x ∈ fa) : g.mg x = some (.ref (He.ga g.K x)) := He.glo_ok T.X T.ns (T.fact _ h)
theorem Top.free (T : Top g fa fn) {x : Str} (h : .free x ∈ fa) : g.mg x = none := He.free_ok T.X T.ns (T.fact _ h)
theorem Top.clsF (T : Top g fa fn) {c f : Str} (h0 : .glo c ∈ fa) (h1 : .cls c ∈ fa) (h2 : .noat c f ∈ fa) : ClsF g c f := by
  intro C hC
  rw [T.glo h0] at hC
  cases hC
  exact ⟨He.cls_ok (T.fact _ h1), He.noat_ok (T.fact _ h2)⟩
theorem Top.exc (T : Top g fa fn) {c : Str} (h0 : .glo c ∈ fa) (h1 : .exc c ∈ fa) : ExcOk g c := by
  obtain ⟨e1, e2, e3, e4⟩ := He.exc_ok (T.fact _ h1)
  exact ⟨_, _, _, _, _, PySem.F.excBase_ValueError, T.glo h0, e1, e2, e3, e4⟩
theorem Top.exm (T : Top g fa fn) {x c : Str} {b : Bool} (h0 : .glo x ∈ fa) (h1 : .glo c ∈ fa) (h2 : .exm c x b ∈ fa) : ExmOk g x c b := by
  intro C C' hC hC'
  rw [T.glo h0] at hC
  rw [T.glo h1] at hC'
  cases hC; cases hC'
  exact He.exm_ok (T.fact _ h2)
theorem re_gint (T : Top g fa fn) {x : Str} {i : Int} (h : .int x i ∈ fa) (hg : sc.names.lookup x = some .globalImplicit) (hdb : (x == ("__debug__" : Str)) = false := by decide) : Real g N sc L (.Name x pos) (gC (.int i)) := by
  intro Wx X C
  obtain ⟨t, e⟩ := He.int_ok T.X T.ns (T.fact _ h)
  refine (pe_glob (X := X) (v := .int i) (u := .int i t) (show Gl X x by unfold Gl Env.kindOf; rw [C.sc]; exact hg) (by rw [C.mg]; exact e) ⟨t, rfl⟩ hdb).weak ?_
  rintro σ H Q ⟨ρ, S, μ, he, hw, h⟩
  exact h (.int i) H μ (.refl _ _) hw (by simp [Rep])
theorem re_gstr (T : Top g fa fn) {x z : Str} (h : .str x z ∈ fa) (hg : sc.names.lookup x = some .globalImplicit) (hdb : (x == ("__debug__" : Str)) = false := by decide) : Real g N sc L (.Name x pos) (gC (.str z)) := by
  intro Wx X C
  obtain ⟨t, e⟩ := He.str_ok T.X T.ns (T.fact _ h)
  refine (pe_glob (X := X) (v := .str z) (u := .str z t) (show Gl X x by unfold Gl Env.kindOf; rw [C.sc]; exact hg) (by rw [C.mg]; exact e) ⟨t, rfl⟩ hdb).weak ?_
  rintro σ H Q ⟨ρ, S, μ, he, hw, h⟩
  exact h (.str z) H μ (.refl _ _) hw (by simp [Rep])
/-- a def of the module as a value -/
theorem re_gfn (T : Top g fa fn) {x : Str} (h : .glo x ∈ fa) (hg : sc.names.lookup x = some .globalImplicit) (hdb : (x == ("__debug__" : Str)) = false := by decide) : Real g N sc L (.Name x pos) (gC (.fn x)) := by
  intro Wx X C
  refine (pe_glob (X := X) (v := .ref (He.ga g.K x)) (u := .ref (He.ga g.K x)) (show Gl X x by unfold Gl Env.kindOf; rw [C.sc]; exact hg) (by rw [C.mg]; exact T.glo h) rfl hdb).weak ?_
  rintro σ H Q ⟨ρ, S, μ, he, hw, hh⟩
  exact hh (.ref (He.ga g.K x)) H μ (.refl _ _) hw (by simp only [Rep]; exact ⟨_, rfl, T.glo h⟩)
/-! ### defs -/
theorem funC_of {K : PySem.W.Frag} {x qual : Str} {st : Stmt} {dvs : List V} {kws : List (Str × V)} {p : Str × Option Str} {fd : FuncData} (F : FunD K x qual (defArgs st) (defBody st) (defScope st) dvs kws (He.fAd K p) fd) :
    FunC K x qual st (He.fAd K p) fd (.ref (He.codeOf K p)) := by
  obtain ⟨oc, od, dV, kV, doc, pm, an, cdv, ct, osl, rfl, lk, hc, _, _⟩ := F.ex
  obtain ⟨c, rfl⟩ := He.codeIn_ref hc
  have e : He.codeOf K p = c := He.codeOf_eq lk rfl
  rw [e]
  exact ⟨⟨oc, od, dV, kV, doc, pm, an, ct, osl, rfl, lk, hc⟩, F.kp⟩
/-- a def of the top, walked -/
theorem fnR_top {x qual : Str} {st : Stmt} {dvs : List V} {kws : List (Str × V)} {p : Str × Option Str} {fd : FuncData} {imm : Bool} {ps : List Str} {m : GS} (F : FunD g.K x qual (defArgs st) (defBody st) (defScope st) dvs kws (He.fAd g.K p) fd)
    (Sc : FnScope N ps (defScope st)) (hb : RealSs g N (defScope st) L (defBody st) m) (hcd : ∀ e ∈ g.cods, e.1 ∈ N → qual ++ ".<locals>." = e.2.1 ∧ e.2.2.1 = He.codeOf g.K p) (hlm : ∀ m, g.lamM = some m → m ∈ N → False) : FnR g (L + 1) (He.fAd g.K p) fd ps (fnG imm ps.length N.length m) :=
  fnR_of (funC_of F) Sc hb (fun _ e he hn => by
    obtain ⟨h1, h2⟩ := hcd e he hn
    exact ⟨h1, by rw [h2]⟩) hlm
theorem bindD_none {x qual : Str} {params : Arguments} {body : List Stmt} {scope : Scope} {f : Addr} {fd : FuncData} {ps : List Str} (F : FunD g.K x qual params body scope [] [] f fd)
    (h : ∀ (kV doc pm : Value) (an : Option Addr) (cdv ct : Value) (us : List Value), us.length = ps.length → bindArgs (PySem.W.fnOf x qual params body scope .none kV doc pm an cdv ct) ⟨us, []⟩ = pure (ps.zip us)) : BindD g fd ps [] := .none (F.bindsN h)
/-- some defaults fill up: n arguments are given, the defaults from the j-th on are taken -/
theorem bindD_dfl {x qual : Str} {params : Arguments} {body : List Stmt} {scope : Scope} {f : Addr} {fd : FuncData} {ps : List Str} {dvs : List V} {dds : List D} (F : FunD g.K x qual params body scope dvs [] f fd) (n j : Nat) (hd : dvs ≠ []) (hn : n + (dvs.length - j) = ps.length)
    (h : ∀ (T : Addr) (kV doc pm : Value) (an : Option Addr) (cdv ct : Value) (us its : List Value), us.length = n → its.length = dvs.length →
      ∃ k, bindArgs (PySem.W.fnOf x qual params body scope (.ref T) kV doc pm an cdv ct) ⟨us, []⟩ = seqItems? (.ref T) >>= k ∧ k (some its.toArray) = pure (ps.zip (us ++ its.drop j))) (hr : ∀ H μ, RepL g H μ dds (dvs.drop j)) : BindD g fd ps dds := by
  obtain ⟨ds, hv, hb⟩ := F.binds1 n j hd hn h
  exact ⟨ds, _, hb, hv, hr⟩
end

/-! ### the end -/
open PySem.W in
theorem walk_G {l : OpenLaw} {n k : Nat} {q : Program} {loose : List Str} {XP : (Str → Option Value) → Heap → Prop} {YP : World → Heap → Prop} {d : DefRec} {x : Str}
    (hn : l.most = some n) (hn2 : n ≤ sizeLine) (hdf : d.params.defaults = []) (hr : Room k callerA)
    (F : ∀ (w : World) (mg : Str → Option Value) (fa : Addr) (h : Heap), YP w h → h.Ns mainGlobals mg → mg d.name = some (.ref fa) →
      ∃ (K : Frag) (fd : FuncData) (cs : List (Addr × Addr)) (sp : Sp), K.In h ∧ (∀ p ∈ cs, h.get? p.2 = some { cls := .none, data := .fields #[] }) ∧ (∀ p ∈ cs, K.lookup p.2 = none) ∧ (∀ p ∈ cs, CodeHd h p.1 p.2) ∧ (∀ (s : Shared) (u : Value), BindsTo s fd ⟨[u], []⟩ [(x, u)]) ∧
        (∀ (H : Hp) (a : Addr) (ns : List Int), ns.length ≤ n → (∀ z ∈ ns, Builtin.Int.intBits z ≤ 1048576) → (∀ p ∈ cs, H p.2 = some (.tbl #[])) → SqL K H a (ns.map V.int) → sp [.ref a] H (fun v _ => v = .bl true) fun _ _ _ => False) ∧
        ∀ base : Heap, K.In base → base.Ns mainGlobals mg → (∀ p ∈ cs, LamX.TabB base mg p.1 p.2) → FnOk l.prog w K mg base (L2.CX l.prog w) k fa fd [x] sp) :
    WalkO q loose XP YP l.row.toRowW d [] (fun f vs => PySem.call f vs) := by
  refine Att.attach_callB hn hdf fun w s₀ s₁ mg mb fa o pm cd doc a vs ns G Y ho hd hcd hmg hobj hints hlen hbits hg => ?_
  obtain ⟨K, fd, cs, sp, KX, hT, nT, C, hb, hsp, hF⟩ := F w mg fa _ Y G.T.g hmg
  refine LamX.law_callTs KX G.T.g G.T.b G.T.builtins G.T.nolimit hg hT nT C G.T.bmain hobj hints (Nat.le_trans hlen hn2) hr hF hb (fun H hH hS => hsp H a ns hlen hbits hH hS) fun H e s' => ?_
  rintro ⟨_, _, _, _, _, _, _, _, _, _, _, _, z⟩
  exact z.elim
/-- the script as a ghost -/
theorem repL_ints {g : G} {H : Hp} {μ : List Addr} : ∀ (ns : List Int), RepL g H μ (ns.map .int) (ns.map V.int)
  | [] => .nil
  | i :: r => .cons (by simp [Rep]) (repL_ints r)
theorem script_rep {g : G} {H : Hp} {a : Addr} {ns : List Int} (h : SqL g.K H a (ns.map V.int)) : Rep g H [] (.sq (ns.map .int)) (.ref a) := by
  simp only [Rep]
  exact ⟨a, ns.map V.int, rfl, h.elim (fun h => .inl ⟨by simp, h⟩) .inr, repL_ints ns⟩

/-! ### words for printed proofs -/
def visB (sc : Scope) (x : Str) : Bool := match sc.names.lookup x with
  | some .local => true
  | some .cell => true
  | some .free => true
  | _ => false
theorem vis_ok {sc : Scope} {x : Str} (h : visB sc x = true) : Vis sc x := by
  unfold visB at h
  split at h
  · rename_i e; exact .inl e
  · rename_i e; exact .inr (.inl e)
  · rename_i e; exact .inr (.inr e)
  · cases h
def locB (sc : Scope) (x : Str) : Bool := match sc.names.lookup x with
  | some .local => true
  | some .cell => true
  | _ => false
theorem loc_ok {sc : Scope} {x : Str} (h : locB sc x = true) : Loc sc x := by
  unfold locB at h
  split at h
  · rename_i e; exact .inl e
  · rename_i e; exact .inr e
  · cases h
def fkB (sc scope : Scope) (x : Str) : Bool := (scope.names.lookup x == some .cell) || decide (sc.names.lookup x = some .local)
theorem fk_ok {sc scope : Scope} {x : Str} (h : fkB sc scope x = true) : (scope.names.lookup x == some .cell) = true ∨ sc.names.lookup x = some .local := by
  unfold fkB at h
  rw [Bool.or_eq_true, decide_eq_true_eq] at h
  exact h
section
variable {g : G} {N : List Str} {sc : Scope} {L : Nat} {pos : Pos} {vs : List Nat}
theorem xv (i : Nat) {x : Str} (hN : N[i]? = some x := by rfl) (hv : visB sc x = true := by rfl) (hd : (x == ("__debug__" : Str)) = false := by decide) (hcd : (x == ("__classdict__" : Str)) = false := by decide) : Real g N sc L (.Name x pos) (gVar i) := re_var hN (vis_ok hv) hd hcd
theorem xt (i : Nat) {x : Str} (hN : N.Nodup) (hi : N[i]? = some x := by rfl) (hx : locB sc x = true := by rfl) : RealG g N sc L (fun _ => true) (.Name x pos) (tName i) := rg_name hN hi (loc_ok hx) (.inl rfl)
theorem xn (i : Nat) {x : Str} {scope : Scope} (hN : N.Nodup) (hi : N[i]? = some x := by rfl) (hx : locB sc x = true := by rfl) (hf : fkB sc scope x = true := by rfl) (hv : i ∈ vs := by decide) : RealN g N sc L (fun x => scope.names.lookup x == some .cell) vs (.Name x pos) (nName i) := rn_name hN hi (loc_ok hx) (fk_ok hf) hv
theorem fc_nil {f : Str} : ∀ c ∈ ([] : List Str), ClsF g c f := fun _ h => by cases h
theorem fc_cons {f c : Str} {l : List Str} (h : ClsF g c f) (t : ∀ c ∈ l, ClsF g c f) : ∀ d ∈ c :: l, ClsF g d f := fun d hd => (List.mem_cons.mp hd).elim (fun e => e ▸ h) (t d)
theorem mt_nil {k : Nat} {m : Str} : ∀ q ∈ ([] : MTab), MethOk g k q.1 m q.2.1 q.2.2 := fun _ h => by cases h
theorem mt_cons {k : Nat} {m c : Str} {dds : List D} {F : Fn} {l : MTab} (h : MethOk g k c m dds F) (t : ∀ q ∈ l, MethOk g k q.1 m q.2.1 q.2.2) : ∀ q ∈ (c, dds, F) :: l, MethOk g k q.1 m q.2.1 q.2.2 := fun q hq => (List.mem_cons.mp hq).elim (fun e => by subst e; exact h) (t q)
theorem ft_nil {k : Nat} : ∀ q ∈ ([] : FTab), CallOk g k q.1 q.2.1 q.2.2 := fun _ h => by cases h
theorem ft_cons {k : Nat} {c : Str} {dds : List D} {F : Fn} {l : FTab} (h : CallOk g k c dds F) (t : ∀ q ∈ l, CallOk g k q.1 q.2.1 q.2.2) : ∀ q ∈ (c, dds, F) :: l, CallOk g k q.1 q.2.1 q.2.2 := fun q hq => (List.mem_cons.mp hq).elim (fun e => by subst e; exact h) (t q)
theorem CallOk.up {j k : Nat} {x : Str} {dds : List D} {F : Fn} (h : CallOk g j x dds F) (hl : j ≤ k) : CallOk g k x dds F := let ⟨f, fd, ps, h1, h2, h3⟩ := h; ⟨f, fd, ps, h1, h2.mono hl, h3⟩
theorem MethOk.up {j k : Nat} {c m : Str} {dds : List D} {F : Fn} (h : MethOk g j c m dds F) (hl : j ≤ k) : MethOk g k c m dds F := fun C hC => let ⟨f, fd, ps, h1, h2, h3, h4⟩ := h C hC; ⟨f, fd, ps, h1, h2, h3.mono hl, h4⟩
theorem MakeOk.up {j k : Nat} {c : Str} {dds : List D} {F : Fn} (h : MakeOk g j c dds F) (hl : j ≤ k) : MakeOk g k c dds F := let ⟨C, f, fd, ps, h1, h2, h3, h4⟩ := h; ⟨C, f, fd, ps, h1, h2, h3.mono hl, h4⟩
theorem ex_nil {x : Str} {b : Bool} : ∀ c ∈ ([] : List Str), ExmOk g x c b := fun _ h => by cases h
theorem ex_cons {x c : Str} {b : Bool} {l : List Str} (h : ExmOk g x c b) (t : ∀ c ∈ l, ExmOk g x c b) : ∀ d ∈ c :: l, ExmOk g x d b := fun d hd => (List.mem_cons.mp hd).elim (fun e => e ▸ h) (t d)
theorem Top.meth {fa : List He.Fa} {fn : List He.DefD} (T : Top g fa fn) {c m : Str} {k : Nat} {dds : List D} {F : Fn} {fd : FuncData} {ps : List Str} (h0 : .glo c ∈ fa) (h1 : .cls c ∈ fa) (h2 : .meth c m ∈ fa)
    (hF : FnR g k (He.fAd g.K (c, some m)) fd ps F) (hb : BindD g fd ps dds) : MethOk g k c m dds F := by
  intro C hC
  rw [T.glo h0] at hC
  cases hC
  exact ⟨_, fd, ps, He.cls_ok (T.fact _ h1), He.meth_ok (T.fact _ h2), hF, hb⟩
theorem Top.make {fa : List He.Fa} {fn : List He.DefD} (T : Top g fa fn) {c : Str} {k : Nat} {dds : List D} {F : Fn} {fd : FuncData} {ps : List Str} (h0 : .glo c ∈ fa) (h2 : .mkr c ∈ fa)
    (hF : FnR g k (He.fAd g.K (c, some "__init__")) fd ps F) (hb : BindD g fd ps dds) : MakeOk g k c dds F := ⟨_, _, fd, ps, T.glo h0, He.mkr_ok (T.fact _ h2), hF, hb⟩
theorem Top.call {fa : List He.Fa} {fn : List He.DefD} (T : Top g fa fn) {x : Str} {k : Nat} {dds : List D} {F : Fn} {fd : FuncData} {ps : List Str} (h0 : .glo x ∈ fa)
    (hF : FnR g k (He.fAd g.K (x, none)) fd ps F) (hb : BindD g fd ps dds) : CallOk g k x dds F := ⟨_, fd, ps, T.glo h0, hF, hb⟩
end

/-! ### what hangs on an env's scope alone -/
def env0 (sc : Scope) : Env := { scope := sc, locals := 0, globals := 0, cells := [] }
section
variable {sc : Scope}
theorem swapsWith_sc {e : Expr} {t : Option Expr} {line : Nat} (env : Env) (he : env.scope = sc) : swapsWith e t line env = swapsWith e t line (env0 sc) := by
  cases env; cases he; unfold swapsWith; rfl
theorem swap_no {ts : List Expr} {e : Expr} {line : Nat} (env : Env) (he : env.scope = sc) (h : swapsWithSole ts e line (env0 sc) = pure false) : swapsWithSole ts e line env = pure false := by
  match ts with
  | [] => exact h
  | [t] => exact (swapsWith_sc env he).trans h
  | _ :: _ :: _ => exact h
theorem swap_yes {e : Expr} {t : Option Expr} {line : Nat} (env : Env) (he : env.scope = sc) (h : swapsWith e t line (env0 sc) = pure true) : swapsWith e t line env = pure true := (swapsWith_sc env he).trans h
theorem swapped_sc {ts : List Expr} {e : Expr} (env : Env) (he : env.scope = sc) : swappedStores ts e env = swappedStores ts e (env0 sc) := by
  cases env; cases he; unfold swappedStores; rfl
theorem swap_none {ts : List Expr} {e : Expr} (env : Env) (he : env.scope = sc) (h : swappedStores ts e (env0 sc) = pure none) : swappedStores ts e env = pure none := (swapped_sc env he).trans h
theorem swap_some {ts : List Expr} {e : Expr} {l : List Str} (env : Env) (he : env.scope = sc) (h : swappedStores ts e (env0 sc) = pure (some l)) : swappedStores ts e env = pure (some l) := (swapped_sc env he).trans h
end
end Gp

set_option Elab.async false
set_option linter.all false
set_option maxRecDepth 100000
/-! Gp18: list(range(..)); calls of what a local holds -/
namespace Gp
open PySem PySem.Spec L2
open PyProof.Rows hiding St

def rngArgs (ds : List D) : Option (Int × Int × Int) := match ds with
  | [.int n] => some (0, n, 1)
  | [.int i, .int j] => some (i, j, 1)
  | [.int i, .int j, .int c] => if c ≠ 0 ∧ c.natAbs < 1073741824 then some (i, j, c) else none
  | _ => none
def listRg (m : Bool) (ds : List D) (S : Sto) : Pr := match rngArgs ds with
  | some (a, b, c) => if Builtin.Range.small a b c = true ∧ 0 ≤ Builtin.Range.rangeSize a b c ∧ Builtin.Range.rangeSize a b c ≤ 16777216 then mkL m (rngL a c (Builtin.Range.rangeSize a b c).toNat) S else none
  | none => none
def gListRg (m : Bool) (l : List GE) : GE := fun ρ S => match gArgsR l ρ S with
  | .ok ds S1 => (listRg m ds S1).res
  | .exc c S1 => .exc c S1
  | .bad => .bad
section
variable {g : G} {N : List Str} {sc : Scope} {L : Nat} {pos p p2 pos2 : Pos} {es : List Expr} {l : List GE} {a b c e : Expr}
theorem vals_int : ∀ {is : List Int} {us : List Value}, Vals (is.map V.int) us → ∃ ts : List Tok, ts.length = is.length ∧ us = (is.zip ts).map fun p => Value.int p.1 p.2
  | [], us, h => by cases h; exact ⟨[], rfl, rfl⟩
  | i :: is, us, h => by
    cases h with
    | cons r t =>
      obtain ⟨tk, rfl⟩ := r
      obtain ⟨ts, hl, rfl⟩ := vals_int t
      exact ⟨tk :: ts, by simp [hl], rfl⟩
theorem make_range {X : Cx} {ds : List D} {us : List Value} {vs : List V} {μ : List Addr} {H : Hp} {i j k : Int} {Q : Value → Shared → Prop} {E : Value → Shared → Prop} {s : Shared} (hr : rngArgs ds = some (i, j, k)) (r : RepL g H μ ds vs) (rv : Vals vs us)
    (h : ∀ t u v tk, Q (.ref s.heap.objs.size) { s with heap := s.heap.push { cls := .type "range", data := .fields #[.int i t, .int j u, .int k v] }, toks := tk }) :
    wpAny (model X.prog X.w) X.A (call (.type "range") us) Q E s := by
  unfold rngArgs at hr
  split at hr
  · cases hr
    have z := repL_int (is := [_]) r
    subst z
    cases rv with
    | cons r1 rr =>
      cases rr
      obtain ⟨t, rfl⟩ := r1
      exact call_range_1 (h _ _ _ _)
  · cases hr
    have z := repL_int (is := [_, _]) r
    subst z
    cases rv with
    | cons r1 rr =>
      cases rr with
      | cons r2 rr =>
        cases rr
        obtain ⟨t, rfl⟩ := r1
        obtain ⟨t', rfl⟩ := r2
        exact call_range_2 (h _ _ _ _)
  · split at hr
    · rename_i hc
      cases hr
      have z := repL_int (is := [_, _, _]) r
      subst z
      cases rv with
      | cons r1 rr =>
        cases rr with
        | cons r2 rr =>
          cases rr with
          | cons r3 rr =>
            cases rr
            obtain ⟨t, rfl⟩ := r1
            obtain ⟨t', rfl⟩ := r2
            obtain ⟨t'', rfl⟩ := r3
            exact call_range_3 hc.1 (h _ _ _ _) (.inl (PyProof.noPylong_small hc.2))
    · cases hr
  · cases hr
theorem repL_is {g : G} {μ : List Addr} {H : Hp} (is : List Int) : RepL g H μ (is.map .int) (is.map V.int) := repL_ints is
theorem vals_rgC {a c : Int} {n : Nat} {acc : Array Value} (h : ItemsOf (fun i v => ∃ t, v = .int (a + i * c) t) acc n) : Vals ((List.range n).map fun i => V.int (a + (i : Nat) * c)) acc.toList := by
  have e : acc.toList.length = n := by rw [Array.length_toList]; exact h.1
  rw [← e]
  exact vals_of_get acc.toList _ fun j u hj => h.2 j u (by rw [← hj, Array.getElem?_toList])
theorem re_listRg {m : Bool} {x1 : Expr} {xs : List Expr} (ha : RealA g N sc L (x1 :: xs) l) (hg : sc.names.lookup ("list" : Str) = some .globalImplicit) (hm : g.mg "list" = none) (hg2 : sc.names.lookup ("range" : Str) = some .globalImplicit) (hm2 : g.mg "range" = none)
    (na : ∀ env : Env, starEach [.Call (.Name "range" p2) (x1 :: xs) [] pos2] env = (false, eval (.Call (.Name "range" p2) (x1 :: xs) [] pos2) env) :: starEach [] env) (hs : ∀ env : Env, starEach (x1 :: xs) env = (false, eval x1 env) :: starEach xs env) (hpl : ∀ env : Env, (backTo pos2 (starEach xs env)).any (·.1) = false) :
    Real g N sc L (.Call (.Name "list" p) [.Call (.Name "range" p2) (x1 :: xs) [] pos2] [] pos) (gListRg m l) := by
  intro Wx X C
  refine ⟨fun pins s σ H Q I h => ?_⟩
  obtain ⟨ρ, S, μ, he, hw, h⟩ := h
  unfold gListRg at h
  refine Call_ (ld_blt I (show Gl X _ by unfold Gl Env.kindOf; rw [C.sc]; exact hg) (by rw [C.mg]; exact hm) boot_list (PyProof.Rows.callWith_type1 (args_cons ?_ (na X.env)) (na X.env)))
  refine Call_ (ld_blt I (show Gl X _ by unfold Gl Env.kindOf; rw [C.sc]; exact hg2) (by rw [C.mg]; exact hm2) boot_range (PyProof.Rows.callWith_type1 (thn ((ha.r Wx X C).run pos2 pins s σ H (fun vs H1 => ∃ ds S1 μ1, W g μ1 H1 S1 ∧ RepL g H1 μ1 ds vs ∧ PostP g μ1 H1 (listRg m ds S1) Q) I ⟨ρ, S, μ, he, hw, ?_⟩) fun us s1 ⟨vs, H1, I1, r1, ds, S1, μ1, w1, rl, h1⟩ => ?_) (hs X.env) (hpl X.env)))
  · cases er : gArgsR l ρ S with
    | ok ds S1 =>
      rw [er] at h
      simp only at h
      intro vs H1 μ1 g1 w1 r1
      refine ⟨ds, S1, μ1, w1, r1, ?_⟩
      cases ep : listRg m ds S1 with
      | none => rw [ep] at h; exact h.elim
      | some z => rw [ep] at h; exact fun v H2 μ2 g2 w2 r2 => h v H2 μ2 (g1.trans g2) w2 r2
    | exc c S1 => rw [er] at h; exact h
    | bad => rw [er] at h; exact h
  unfold listRg at h1
  split at h1
  · rename_i i j k hr
    obtain ⟨hc, h1⟩ := ite_none h1
    obtain ⟨c1, c2, c3⟩ := hc
    refine make_range (X := X) hr rl r1 fun t u v tk => args_nil ?_
    have I2 : Inv X pins σ H1 { s1 with heap := s1.heap.push { cls := .type "range", data := .fields #[.int i t, .int j u, .int k v] }, toks := tk } := I1.kept fun b o e => Heap.get?_push_of_some _ e
    have hn : Builtin.Range.rangeSize i j k = ((Builtin.Range.rangeSize i j k).toNat : Int) := (Int.toNat_of_nonneg c2).symm
    refine call_list_range (n := (Builtin.Range.rangeSize i j k).toNat) (I2.ok.hd C.calm) (IsRange.new _ _ _ _ _ _ _) c1 hn (by omega) fun h' tk2 acc c' hk e' hi => ?_
    have hp : H1 (s1.heap.push { cls := .type "range", data := .fields #[.int i t, .int j u, .int k v] }).objs.size = none := I2.hok.fresh (Nat.le_refl _)
    have q := PostP.mk h1 w1 (vs := (List.range (Builtin.Range.rangeSize i j k).toNat).map fun n => V.int (i + (n : Nat) * k)) (by
      unfold rngL
      have := repL_is (g := g) (μ := μ1) (H := H1) ((List.range (Builtin.Range.rangeSize i j k).toNat).map fun n => i + (n : Nat) * k)
      rw [List.map_map, List.map_map] at this
      exact this) _ hp
    refine ⟨.ref (s1.heap.push { cls := .type "range", data := .fields #[.int i t, .int j u, .int k v] }).objs.size, _, I2.laid hk (Nat.le_refl _) (show ObjOk X.prog X.w _ _ _ (.lst ((List.range (Builtin.Range.rangeSize i j k).toNat).map fun n => V.int (i + (n : Nat) * k))) from ⟨?_, acc.toList, c', vals_rgC hi, ?_⟩), rfl, q⟩
    · rw [List.length_map, List.length_range, sizeLine_eq]; omega
    · rw [Array.toArray_toList]; exact e'
  · exact h1.elim
end
end Gp

set_option Elab.async false
set_option linter.all false
set_option maxRecDepth 100000
/-! Gp19: the end, for any law -/
namespace Gp
open PySem PySem.Spec L2
open PyProof.Rows hiding St
theorem funD_one {K : PySem.W.Frag} {x qual : Str} {params : Arguments} {body : List Stmt} {scope : Scope} {dvs : List V} {kws : List (Str × V)} {f : Addr} {fd fd' : FuncData} (F : FunD K x qual params body scope dvs kws f fd) (F' : FunD K x qual params body scope dvs kws f fd') : fd = fd' := by
  obtain ⟨_, _, _, _, _, _, _, _, _, _, _, lk, _⟩ := F.ex
  obtain ⟨_, _, _, _, _, _, _, _, _, _, _, lk', _⟩ := F'.ex
  rw [lk] at lk'
  cases lk'; rfl
/-- what walk_G asks of a head -/
def EndOk (P : Program) (w : World) (h : Heap) (mg : Str → Option Value) (f : Addr) (k : Nat) : Prop :=
  ∃ (K : PySem.W.Frag) (fd : FuncData) (cs : List (Addr × Addr)) (sp : Sp), K.In h ∧ (∀ p ∈ cs, h.get? p.2 = some { cls := .none, data := .fields #[] }) ∧ (∀ p ∈ cs, K.lookup p.2 = none) ∧ (∀ p ∈ cs, PySem.W.CodeHd h p.1 p.2) ∧ (∀ (s : Shared) (u : Value), BindsTo s fd ⟨[u], []⟩ [("script", u)]) ∧
    (∀ (H : Hp) (a : Addr) (ns : List Int), ns.length ≤ 63 → (∀ z ∈ ns, Builtin.Int.intBits z ≤ 1048576) → (∀ p ∈ cs, H p.2 = some (.tbl #[])) → SqL K H a (ns.map V.int) → sp [.ref a] H (fun v _ => v = .bl true) fun _ _ _ => False) ∧
    ∀ base : Heap, K.In base → base.Ns mainGlobals mg → (∀ p ∈ cs, LamX.TabB base mg p.1 p.2) → FnOk P w K mg base (L2.CX P w) k f fd ["script"] sp
end Gp

set_option Elab.async false
set_option linter.all false
set_option maxRecDepth 100000
/-! Gp20: the ghosts evaluated -/
namespace Gp
open PySem PySem.Spec L2
open PyProof.Rows hiding St

/-! ### tests, told in one word -/
def bIf {α : Type} (d : D) (x y z : α) : α := match d with
  | .bl true => x
  | .bl false => y
  | _ => z
@[simp] theorem bIf_bl {α : Type} {b : Bool} {x y z : α} : bIf (.bl b) x y z = if b = true then x else y := by cases b <;> rfl
section
variable {a b c : GE} {p q : D → D → Sto → Pr} {ρ : Ev} {S : Sto} {d : D}
@[simp] theorem ev_var {i : Nat} : gVar i ρ S = match ρ[i]? with
  | some (some d) => .ok d S
  | _ => .bad := rfl
@[simp] theorem ev_c : gC d ρ S = .ok d S := rfl
@[simp] theorem ev_bin : gBin p a b ρ S = (a ρ S).bind fun x S1 => (b ρ S1).bind fun y S2 => (p x y S2).res := rfl
@[simp] theorem ev_un {p : D → Sto → Pr} : gUn p a ρ S = (a ρ S).bind fun x S1 => (p x S1).res := rfl
theorem bIf_ev {α : Type} {d : D} {x y z : α} : (match d with | .bl true => x | .bl false => y | _ => z) = bIf d x y z := rfl
@[simp] theorem ev_and : gAnd a b ρ S = (a ρ S).bind fun x S1 => bIf x (b ρ S1) (.ok (.bl false) S1) .bad := rfl
@[simp] theorem ev_or : gOr a b ρ S = (a ρ S).bind fun x S1 => bIf x (.ok (.bl true) S1) (b ρ S1) .bad := rfl
@[simp] theorem ev_not : gNot a ρ S = (a ρ S).bind fun x S1 => bIf x (.ok (.bl false) S1) (.ok (.bl true) S1) .bad := by
  unfold gNot
  congr 1
  funext x S1
  cases x with
  | bl b => cases b <;> rfl
  | _ => rfl
@[simp] theorem ev_if : gIf c a b ρ S = (c ρ S).bind fun x S1 => bIf x (a ρ S1) (b ρ S1) .bad := rfl
@[simp] theorem ev_chain : gChain p q a b c ρ S = (a ρ S).bind fun x S1 => (b ρ S1).bind fun y S2 => (p x y S2).res.bind fun z S3 => bIf z ((c ρ S3).bind fun w S4 => (q y w S4).res) (.ok (.bl false) S3) .bad := rfl
@[simp] theorem res_some {x : D} : Pr.res (some (x, S)) = .ok x S := rfl
@[simp] theorem res_none : Pr.res none = .bad := rfl
@[simp] theorem args_nil {k : List D → Sto → Res} : gArgs [] ρ S k = k [] S := rfl
@[simp] theorem args_cons {l : List GE} {k : List D → Sto → Res} : gArgs (a :: l) ρ S k = (a ρ S).bind fun x S1 => gArgs l ρ S1 fun xs S2 => k (x :: xs) S2 := rfl
@[simp] theorem ev_callP {p : List D → Sto → Pr} {l : List GE} : gCallP p l ρ S = gArgs l ρ S fun xs S2 => (p xs S2).res := rfl
@[simp] theorem ev_tup {l : List GE} : gTup l ρ S = gArgs l ρ S fun ds S1 => if ds.length ≤ 16777216 then .ok (.tup ds) S1 else .bad := by
  unfold gTup gCallP
  congr 1
  funext ds S1
  rw [sizeLine_eq]
  by_cases h : ds.length ≤ 16777216 <;> simp [h]
@[simp] theorem ev_lstF {l : List GE} : gLst false l ρ S = gArgs l ρ S fun ds S1 => if ds.length ≤ 16777216 then .ok (.ls ds) S1 else .bad := by
  unfold gLst gCallP
  congr 1
  funext ds S1
  rw [sizeLine_eq]
  by_cases h : ds.length ≤ 16777216 <;> simp [h, mkL]
@[simp] theorem ev_lstT {l : List GE} : gLst true l ρ S = gArgs l ρ S fun ds S1 => if ds.length ≤ 16777216 then .ok (.ref S1.length) (S1 ++ [.lst ds]) else .bad := by
  unfold gLst gCallP
  congr 1
  funext ds S1
  rw [sizeLine_eq]
  by_cases h : ds.length ≤ 16777216 <;> simp [h, mkL]
@[simp] theorem ev_call {F : Fn} {l : List GE} {dds : List D} : gCall F l dds ρ S = gArgs l ρ S fun ds S1 => F (ds ++ dds) S1 := rfl
@[simp] theorem ev_meth {tbl : MTab} {m : Str} {o : GE} {l : List GE} : gMeth tbl m o l ρ S = (o ρ S).bind fun x S1 => match clsOf x S1 with
  | some (c, fs) => match lookD m fs, mlook c tbl with
    | none, some (dds, F) => gArgs l ρ S1 fun ds S2 => F (x :: (ds ++ dds)) S2
    | _, _ => .bad
  | none => .bad := rfl
@[simp] theorem ev_methF {cl : List Str} {tab : FTab} {f : Str} {o : GE} {l : List GE} : gMethF cl tab f o l ρ S = (o ρ S).bind fun x S1 => match gAttr cl f x S1 with
  | some (.fn y, _) => match mlook y tab with
    | some (dds, F) => gArgs l ρ S1 fun ds S2 => F (ds ++ dds) S2
    | none => .bad
  | _ => .bad := rfl
@[simp] theorem ev_make {imm : Bool} {cl : Str} {F : Fn} {l : List GE} {dds : List D} : gMake imm cl F l dds ρ S = gArgs l ρ S fun ds S1 => if imm = true then tidy S1 (newObj cl F (ds ++ dds) S1) else newObj cl F (ds ++ dds) S1 := rfl
@[simp] theorem ev_mb {T : String} {p : D → List D → Sto → Pr} {o : GE} {l : List GE} : gMb T p o l ρ S = (o ρ S).bind fun x S1 => if tyG T x S1 = true then gArgs l ρ S1 fun ds S2 => (p x ds S2).res else .bad := rfl
@[simp] theorem ev_told {yes : List Str} {ret : Str} {m : GE} : gTold yes ret m ρ S = match m ρ S with
  | .exc c S1 => if c ∈ yes then .ok (.str ret) S1 else .bad
  | r => r := rfl
/-! statements -/
variable {s t : GS}
@[simp] theorem ev_nil : sNil ρ S = .nx ρ S := rfl
@[simp] theorem ev_seq : sSeq s t ρ S = (s ρ S).thn t := rfl
@[simp] theorem ev_expr : sExpr a ρ S = (a ρ S).thn ρ fun _ S1 => .nx ρ S1 := rfl
@[simp] theorem ev_ret : sRet a ρ S = (a ρ S).thn ρ fun d S1 => .rt d S1 := rfl
@[simp] theorem ev_retN : sRetN ρ S = .rt .non S := rfl
@[simp] theorem ev_break : sBreak ρ S = .bk ρ S := rfl
@[simp] theorem ev_cont : sCont ρ S = .ct ρ S := rfl
@[simp] theorem ev_sif : sIf c s t ρ S = (c ρ S).thn ρ fun d S1 => bIf d (s ρ S1) (t ρ S1) .bad := rfl
@[simp] theorem ev_asg {t : GT} : sAsg a t ρ S = (a ρ S).thn ρ fun d S1 => t d ρ S1 := rfl
@[simp] theorem ev_tname {i : Nat} : tName i d ρ S = .nx (ρ.set i (some d)) S := rfl
@[simp] theorem ev_tnil : tsNil [] ρ S = .nx ρ S := rfl
@[simp] theorem ev_tcons {t : GT} {u : GTs} {r : List D} : tsCons t u (d :: r) ρ S = (t d ρ S).thn fun ρ1 S1 => u r ρ1 S1 := rfl
@[simp] theorem ev_ttupl {n : Nat} {u : GTs} : tTupl n u d ρ S = match asT d with
  | some l => if l.length = n then u l ρ S else .bad
  | none => .bad := rfl
@[simp] theorem ev_tsub {p : PrS} : tSub p a b d ρ S = (a ρ S).thn ρ fun x S1 => (b ρ S1).thn ρ fun y S2 => match p x y d S2 with
  | some S3 => .nx ρ S3
  | none => .bad := rfl
@[simp] theorem ev_attr {cl : List Str} {f : Str} : sAttr cl f a b ρ S = (a ρ S).thn ρ fun d S1 => (b ρ S1).thn ρ fun x S2 => match setA cl f x d S2 with
  | some S3 => .nx ρ S3
  | none => .bad := rfl
@[simp] theorem ev_raise {x : Str} : sRaise x ρ S = .exc x ρ S := rfl
@[simp] theorem ev_aug {i : Nat} : sAug i p a ρ S = match ρ[i]? with
  | some (some x) => (a ρ S).thn ρ fun y S1 => match p x y S1 with
    | some (z, S2) => .nx (ρ.set i (some z)) S2
    | none => .bad
  | _ => .bad := rfl
@[simp] theorem argsS_nil {k : List D → Sto → RS} : gArgsS [] ρ S k = k [] S := rfl
@[simp] theorem argsS_cons {l : List GE} {k : List D → Sto → RS} : gArgsS (a :: l) ρ S k = (a ρ S).thn ρ fun x S1 => gArgsS l ρ S1 fun xs S2 => k (x :: xs) S2 := rfl
@[simp] theorem ev_par {is : List Nat} {l : List GE} : sPar is l ρ S = gArgsS l ρ S fun ds S1 => if ds.length = is.length then .nx ((is.zip ds).foldl (fun r p => r.set p.1 (some p.2)) ρ) S1 else .bad := rfl
@[simp] theorem thn_ok {f : D → Sto → RS} : (Res.ok d S).thn ρ f = f d S := rfl
@[simp] theorem thn_exc {f : D → Sto → RS} {x : Str} : (Res.exc x S).thn ρ f = .exc x ρ S := rfl
@[simp] theorem thn_bad {f : D → Sto → RS} : Res.bad.thn ρ f = .bad := rfl
@[simp] theorem sthn_nx {f : Ev → Sto → RS} : (RS.nx ρ S).thn f = f ρ S := rfl
@[simp] theorem sthn_rt {f : Ev → Sto → RS} : (RS.rt d S).thn f = .rt d S := rfl
@[simp] theorem sthn_bk {f : Ev → Sto → RS} : (RS.bk ρ S).thn f = .bk ρ S := rfl
@[simp] theorem sthn_ct {f : Ev → Sto → RS} : (RS.ct ρ S).thn f = .ct ρ S := rfl
@[simp] theorem sthn_exc {f : Ev → Sto → RS} {x : Str} : (RS.exc x ρ S).thn f = .exc x ρ S := rfl
@[simp] theorem resOf_nx : resOf (.nx ρ S) = .ok .non S := rfl
@[simp] theorem resOf_rt : resOf (.rt d S) = .ok d S := rfl
@[simp] theorem resOf_exc {x : Str} : resOf (.exc x ρ S) = .exc x S := rfl
@[simp] theorem fnG_eq {imm : Bool} {np n : Nat} {m : GS} {ds : List D} : fnG imm np n m ds S = if ds.length = np then (if imm = true then tidy S (resOf (m (startG n ds) S)) else resOf (m (startG n ds) S)) else .bad := rfl
/-! through an if -/
@[simp] theorem ite_bind {P : Prop} [Decidable P] {x y : Res} {f : D → Sto → Res} : (if P then x else y).bind f = if P then x.bind f else y.bind f := by by_cases h : P <;> simp [h]
@[simp] theorem ite_thn {P : Prop} [Decidable P] {x y : Res} {f : D → Sto → RS} : (if P then x else y).thn ρ f = if P then x.thn ρ f else y.thn ρ f := by by_cases h : P <;> simp [h]
@[simp] theorem ite_sthn {P : Prop} [Decidable P] {x y : RS} {f : Ev → Sto → RS} : (if P then x else y).thn f = if P then x.thn f else y.thn f := by by_cases h : P <;> simp [h]
@[simp] theorem ite_res {P : Prop} [Decidable P] {x y : Pr} : Pr.res (if P then x else y) = if P then x.res else y.res := by by_cases h : P <;> simp [h]
@[simp] theorem ite_resOf {P : Prop} [Decidable P] {x y : RS} : resOf (if P then x else y) = if P then resOf x else resOf y := by by_cases h : P <;> simp [h]
end
/-! ### words -/
theorem chars_inj : ∀ {l m : List Char}, l.map Char.toNat = m.map Char.toNat → l = m
  | [], [], _ => rfl
  | [], _ :: _, h => by simp at h
  | _ :: _, [], h => by simp at h
  | a :: l, b :: m, h => by
    simp only [List.map_cons, List.cons.injEq] at h
    have e : a = b := Char.ext (UInt32.toNat_inj.mp h.1)
    rw [e, chars_inj h.2]
theorem ofString_inj {a b : String} (h : Str.ofString a = Str.ofString b) : a = b := by
  rw [Str.ofString_eq_toList, Str.ofString_eq_toList] at h
  have h1 := congrArg (fun x : Str => x.cps.toList) h
  exact String.ext (chars_inj h1)
@[simp] theorem ofString_eq {a b : String} : (Str.ofString a = Str.ofString b) ↔ a = b := ⟨ofString_inj, fun e => by rw [e]⟩
/-! ### ints -/
section
variable {i j : Int} {S : Sto}
@[simp] theorem gLt_int : gLt (.int i) (.int j) S = some (.bl (decide (i < j)), S) := by simp [gLt, gCmp, pd, fLt, PySem.W.alike, isNone, PySem.W.dataLt_int]
@[simp] theorem gGt_int : gGt (.int i) (.int j) S = some (.bl (decide (j < i)), S) := by simp [gGt, gCmp, pd, fGt, PySem.W.alike, isNone, PySem.W.dataLt_int]
@[simp] theorem gLe_int : gLe (.int i) (.int j) S = some (.bl (decide (i ≤ j)), S) := by
  simp [gLe, gCmp, pd, fLe, PySem.W.alike, isNone, PySem.W.dataLt_int]
  by_cases h : i ≤ j <;> simp [h] <;> omega
@[simp] theorem gGe_int : gGe (.int i) (.int j) S = some (.bl (decide (j ≤ i)), S) := by
  simp [gGe, gCmp, pd, fGe, PySem.W.alike, isNone, PySem.W.dataLt_int]
  by_cases h : j ≤ i <;> simp [h] <;> omega
@[simp] theorem gEq_int : gEq (.int i) (.int j) S = some (.bl (decide (i = j)), S) := by
  simp [gEq, gCmp, pd, fEq, PyData.eqv]
  by_cases h : i = j <;> simp [h]
@[simp] theorem gNe_int : gNe (.int i) (.int j) S = some (.bl (decide (i ≠ j)), S) := by
  simp [gNe, gCmp, pd, fNe, PyData.eqv]
  by_cases h : i = j <;> simp [h]
@[simp] theorem gAdd_int : gAdd (.int i) (.int j) S = some (.int (i + j), S) := rfl
@[simp] theorem gSub_int : gSub (.int i) (.int j) S = some (.int (i - j), S) := rfl
@[simp] theorem gMul_int : gMul (.int i) (.int j) S = if mulOk i j = true then some (.int (i * j), S) else none := rfl
@[simp] theorem gDiv_int : gDiv (.int i) (.int j) S = if divOk j = true then some (.int (i.fdiv j), S) else none := rfl
@[simp] theorem gMod_int : gMod (.int i) (.int j) S = if j ≠ 0 then some (.int (i.fmod j), S) else none := rfl
@[simp] theorem gNeg_int : gNeg (.int i) S = some (.int (-i), S) := rfl
@[simp] theorem pInt_int : pInt [.int i] S = some (.int i, S) := rfl
@[simp] theorem pInt_bl {b : Bool} : pInt [.bl b] S = some (.int (if b then 1 else 0), S) := rfl
@[simp] theorem pAbs_int : pAbs [.int i] S = some (.int (if i < 0 then -i else i), S) := rfl
end
end Gp

set_option Elab.async false
set_option linter.all false
set_option maxRecDepth 100000
/-! Gp21: what stays as it is when frozen; data and their equality; places -/
namespace Gp
open PySem PySem.Spec L2
open PyProof.Rows hiding St

/-! ### frozen already -/
def fzB (b : Nat) : Nat → D → Bool
  | _, .non => true
  | _, .bl _ => true
  | _, .int _ => true
  | _, .str _ => true
  | _, .fn _ => true
  | _, .lam _ => true
  | _ + 1, .ref n => decide (n < b)
  | k + 1, .tup l => l.all (fzB b k)
  | k + 1, .ls l => l.all (fzB b k)
  | k + 1, .dc _ l => l.all fun p => fzB b k p.2
  | k + 1, .ob _ l => l.all fun p => fzB b k p.2
  | _, .kt l => cloL b l
  | _, _ => false
section
variable {b : Nat} {S : Sto} {k : Nat}
theorem omap_id {f : D → Option D} : ∀ {l : List D}, (∀ d ∈ l, f d = some d) → omap f l = some l
  | [], _ => rfl
  | d :: l, h => by simp [omap, h d (by simp), omap_id (l := l) fun x hx => h x (by simp [hx])]
theorem pmap_id {f : D → Option D} : ∀ {l : List (Str × D)}, (∀ p ∈ l, f p.2 = some p.2) → pmap f l = some l
  | [], _ => rfl
  | (k, d) :: l, h => by simp [pmap, h (k, d) (by simp), pmap_id (l := l) fun x hx => h x (by simp [hx])]
theorem dmap_id {f : D → Option D} : ∀ {l : List (D × D)}, (∀ p ∈ l, f p.2 = some p.2) → dmap f l = some l
  | [], _ => rfl
  | (k, d) :: l, h => by simp [dmap, h (k, d) (by simp), dmap_id (l := l) fun x hx => h x (by simp [hx])]
theorem frz_id : ∀ {k : Nat} {d : D}, fzB b k d = true → frz b S k d = some d
  | k, .non, _ => by cases k <;> rfl
  | k, .bl _, _ => by cases k <;> rfl
  | k, .int _, _ => by cases k <;> rfl
  | k, .str _, _ => by cases k <;> rfl
  | k, .fn _, _ => by cases k <;> rfl
  | k, .lam _, _ => by cases k <;> rfl
  | 0, .ref _, h => by simp [fzB] at h
  | k + 1, .ref n, h => by simp only [fzB, decide_eq_true_eq] at h; simp [frz, h]
  | 0, .tup _, h => by simp [fzB] at h
  | k + 1, .tup l, h => by
    simp only [fzB, List.all_eq_true] at h
    simp only [frz, omap_id fun d hd => frz_id (h d hd)]; rfl
  | 0, .ls _, h => by simp [fzB] at h
  | k + 1, .ls l, h => by
    simp only [fzB, List.all_eq_true] at h
    simp only [frz, omap_id fun d hd => frz_id (h d hd)]; rfl
  | 0, .dc _ _, h => by simp [fzB] at h
  | k + 1, .dc j l, h => by
    simp only [fzB, List.all_eq_true] at h
    simp only [frz, dmap_id fun p hp => frz_id (h p hp)]; rfl
  | 0, .ob _ _, h => by simp [fzB] at h
  | k + 1, .ob c l, h => by
    simp only [fzB, List.all_eq_true] at h
    simp only [frz, pmap_id fun p hp => frz_id (h p hp)]; rfl
  | 0, .kt l, h => by simp only [fzB] at h; simp [frz, h]
  | k + 1, .kt l, h => by simp only [fzB] at h; simp [frz, h]
  | 0, .sq _, h => by simp [fzB] at h
  | k + 1, .sq _, h => by simp [fzB] at h
/-- nothing new: tidied, it stays -/
theorem tidy_id {d : D} (h : fzB S.length 30 d = true) : tidy S (.ok d S) = .ok d S := by
  simp [tidy, frz_id h]
@[simp] theorem tidy_exc {c : Str} : tidy S (.exc c S) = .exc c S := by simp [tidy]
/-- new cells behind the old ones: they are forgotten -/
theorem tidy_new {d d' : D} {T : Sto} (h : frz S.length (S ++ T) 30 d = some d') : tidy S (.ok d (S ++ T)) = .ok d' S := by
  simp [tidy, h]
/-- the old ones have changed, but name no new ones -/
theorem tidy_set {d : D} {S' : Sto} (hl : S'.length = S.length) (hc : S'.all (cloC S.length) = true) (h : fzB S.length 30 d = true) : tidy S (.ok d S') = .ok d S' := by
  have e : S'.take S.length = S' := by rw [← hl]; exact List.take_length
  simp only [tidy, e, frz_id h]
  rw [if_pos (.inr hc)]
end

/-! ### data -/
def isDat : Nat → D → Bool
  | _, .non => true
  | _, .bl _ => true
  | _, .int _ => true
  | _, .str _ => true
  | k + 1, .tup l => l.all (isDat k)
  | k + 1, .kt l => l.all (isDat k)
  | k + 1, .ls l => l.all (isDat k)
  | _, _ => false
section
variable {S : Sto} {k : Nat}
theorem omap_some {f : D → Option PyData} {P : PyData → Prop} : ∀ {l : List D}, (∀ d ∈ l, ∃ p, f d = some p ∧ P p) → ∃ ps, omap f l = some ps ∧ (∀ p ∈ ps, P p) ∧ ps.length = l.length
  | [], _ => ⟨[], rfl, by simp, rfl⟩
  | d :: l, h => by
    obtain ⟨p, e, q⟩ := h d (by simp)
    obtain ⟨ps, e2, q2, e3⟩ := omap_some (l := l) fun x hx => h x (by simp [hx])
    refine ⟨p :: ps, by simp [omap, e, e2], fun x hx => ?_, by simp [e3]⟩
    rcases List.mem_cons.mp hx with rfl | hx
    · exact q
    · exact q2 x hx
theorem plainAll_of : ∀ {ps : List PyData}, (∀ p ∈ ps, p.plain = true) → PyData.plainAll ps = true
  | [], _ => rfl
  | p :: ps, h => by simp [PyData.plainAll, h p (by simp), plainAll_of (ps := ps) fun x hx => h x (by simp [hx])]
theorem pd_dat : ∀ {k : Nat} {d : D}, isDat k d = true → ∃ p, pd S k d = some p ∧ p.plain = true
  | k, .non, _ => ⟨.none, by cases k <;> rfl, rfl⟩
  | k, .bl b, _ => ⟨.bool b, by cases k <;> rfl, rfl⟩
  | k, .int i, _ => ⟨.int i, by cases k <;> rfl, rfl⟩
  | k, .str x, _ => ⟨.str x, by cases k <;> rfl, rfl⟩
  | k + 1, .tup l, h => by
    simp only [isDat, List.all_eq_true] at h
    obtain ⟨ps, e, q, _⟩ := omap_some (P := fun p => p.plain = true) fun d hd => pd_dat (h d hd)
    exact ⟨.tuple ps, by simp [pd, e], by simp [PyData.plain, plainAll_of q]⟩
  | k + 1, .kt l, h => by
    simp only [isDat, List.all_eq_true] at h
    obtain ⟨ps, e, q, _⟩ := omap_some (P := fun p => p.plain = true) fun d hd => pd_dat (h d hd)
    exact ⟨.tuple ps, by simp [pd, e], by simp [PyData.plain, plainAll_of q]⟩
  | k + 1, .ls l, h => by
    simp only [isDat, List.all_eq_true] at h
    obtain ⟨ps, e, q, _⟩ := omap_some (P := fun p => p.plain = true) fun d hd => pd_dat (h d hd)
    exact ⟨.list ps, by simp [pd, e], by simp [PyData.plain, plainAll_of q]⟩
  | 0, .tup _, h => by simp [isDat] at h
  | 0, .kt _, h => by simp [isDat] at h
  | 0, .ls _, h => by simp [isDat] at h
  | 0, .sq _, h => by simp [isDat] at h
  | 0, .dc _ _, h => by simp [isDat] at h
  | 0, .ob _ _, h => by simp [isDat] at h
  | 0, .ref _, h => by simp [isDat] at h
  | 0, .fn _, h => by simp [isDat] at h
  | 0, .lam _, h => by simp [isDat] at h
  | k + 1, .sq _, h => by simp [isDat] at h
  | k + 1, .dc _ _, h => by simp [isDat] at h
  | k + 1, .ob _ _, h => by simp [isDat] at h
  | k + 1, .ref _, h => by simp [isDat] at h
  | k + 1, .fn _, h => by simp [isDat] at h
  | k + 1, .lam _, h => by simp [isDat] at h
/-- the same datum -/
theorem gEq_same {a b : D} {p : PyData} (ha : pd S 60 a = some p) (hb : pd S 60 b = some p) (hp : p.plain = true) : gEq a b S = some (.bl true, S) := by
  simp [gEq, gCmp, ha, hb, fEq, PySem.SeqAt.eqv_refl_plain p hp]
theorem gNe_same {a b : D} {p : PyData} (ha : pd S 60 a = some p) (hb : pd S 60 b = some p) (hp : p.plain = true) : gNe a b S = some (.bl false, S) := by
  simp [gNe, gCmp, ha, hb, fNe, PySem.SeqAt.eqv_refl_plain p hp]
theorem gEq_self {d : D} (h : isDat 60 d = true) : gEq d d S = some (.bl true, S) := by
  obtain ⟨p, e, q⟩ := pd_dat (S := S) h
  exact gEq_same e e q
theorem gNe_self {d : D} (h : isDat 60 d = true) : gNe d d S = some (.bl false, S) := by
  obtain ⟨p, e, q⟩ := pd_dat (S := S) h
  exact gNe_same e e q
theorem pd_ref {n : Nat} {l : List D} (h : S[n]? = some (.lst l)) : pd S 60 (.ref n) = pd S 60 (.ls l) := by
  show (match S[n]? with | some (.lst l) => (omap (pd S 59) l).map PyData.list | _ => none) = _
  rw [h]; rfl
theorem gNe_nil {l : List D} (h : isDat 60 (.ls l) = true) : gNe (.ls l) (.ls []) S = some (.bl (decide (l ≠ [])), S) := by
  simp only [isDat, List.all_eq_true] at h
  obtain ⟨ps, e, q, hl⟩ := omap_some (f := pd S 59) (P := fun p => p.plain = true) fun d hd => pd_dat (h d hd)
  have e1 : pd S 60 (.ls l) = some (.list ps) := by simp [pd, e]
  have e2 : pd S 60 (.ls []) = some (.list []) := rfl
  simp only [gNe, gCmp, e1, e2, fNe]
  cases l with
  | nil =>
    have : ps = [] := by simpa using hl
    subst this; simp [PyData.eqv, PyData.eqvAll]
  | cons a l =>
    cases ps with
    | nil => simp at hl
    | cons p ps => simp [PyData.eqv, PyData.eqvAll]
theorem gEq_nil {l : List D} (h : isDat 60 (.ls l) = true) : gEq (.ls l) (.ls []) S = some (.bl (decide (l = [])), S) := by
  simp only [isDat, List.all_eq_true] at h
  obtain ⟨ps, e, q, hl⟩ := omap_some (f := pd S 59) (P := fun p => p.plain = true) fun d hd => pd_dat (h d hd)
  have e1 : pd S 60 (.ls l) = some (.list ps) := by simp [pd, e]
  have e2 : pd S 60 (.ls []) = some (.list []) := rfl
  simp only [gEq, gCmp, e1, e2, fEq]
  cases l with
  | nil =>
    have : ps = [] := by simpa using hl
    subst this; simp [PyData.eqv, PyData.eqvAll]
  | cons a l =>
    cases ps with
    | nil => simp at hl
    | cons p ps => simp [PyData.eqv, PyData.eqvAll]
@[simp] theorem gEq_str {x y : Str} : gEq (.str x) (.str y) S = some (.bl (decide (x = y)), S) := by
  simp [gEq, gCmp, pd, fEq, PyData.eqv]
  by_cases h : x = y <;> simp [h]
@[simp] theorem gNe_str {x y : Str} : gNe (.str x) (.str y) S = some (.bl (decide (x ≠ y)), S) := by
  simp [gNe, gCmp, pd, fNe, PyData.eqv]
  by_cases h : x = y <;> simp [h]
@[simp] theorem gEq_nonstr {x : Str} : gEq .non (.str x) S = some (.bl false, S) := by simp [gEq, gCmp, pd, fEq, PyData.eqv]
@[simp] theorem gNe_nonstr {x : Str} : gNe .non (.str x) S = some (.bl true, S) := by simp [gNe, gCmp, pd, fNe, PyData.eqv]

/-! ### places -/
theorem atI_nn {α : Type} {l : List α} {i : Int} (h0 : 0 ≤ i) : atI l i = l[i.toNat]? := by
  unfold atI ixN
  rw [if_pos h0]
  by_cases h : i < l.length
  · rw [if_pos h]; rfl
  · rw [if_neg h, List.getElem?_eq_none (by omega)]; rfl
theorem atI_m1 {α : Type} {l : List α} : atI l (-1) = l[l.length - 1]? := by
  unfold atI ixN
  rw [if_neg (by decide)]
  cases l with
  | nil => simp
  | cons a l =>
    rw [if_pos (by simp; omega)]
    simp only [Option.bind_some, List.length_cons]
    congr 1
    omega
@[simp] theorem atI_nat {α : Type} {l : List α} {n : Nat} : atI l (n : Int) = l[n]? := by rw [atI_nn (by omega)]; simp
@[simp] theorem atI_0 {α : Type} {l : List α} : atI l 0 = l[0]? := atI_nat (n := 0)
@[simp] theorem atI_1 {α : Type} {l : List α} : atI l 1 = l[1]? := atI_nat (n := 1)
@[simp] theorem atI_2 {α : Type} {l : List α} : atI l 2 = l[2]? := atI_nat (n := 2)
@[simp] theorem atI_3 {α : Type} {l : List α} : atI l 3 = l[3]? := atI_nat (n := 3)
@[simp] theorem gIx_tup {l : List D} {i : Int} : gIx (.tup l) (.int i) S = (atI l i).map fun d => (d, S) := rfl
@[simp] theorem gIx_ls {l : List D} {i : Int} : gIx (.ls l) (.int i) S = (atI l i).map fun d => (d, S) := rfl
theorem gIx_lst {n : Nat} {l : List D} {i : Int} (h : S[n]? = some (.lst l)) : gIx (.ref n) (.int i) S = (atI l i).map fun d => (d, S) := by
  simp [gIx, asD, asL, h]
end
end Gp

set_option Elab.async false
set_option linter.all false
set_option maxRecDepth 100000
/-! Gp22: stores that name no cell beyond them; loops by what holds before each turn -/
namespace Gp
open PySem PySem.Spec L2
open PyProof.Rows hiding St

mutual
theorem clo_up {b c : Nat} (h : b ≤ c) : ∀ {d : D}, clo b d = true → clo c d = true
  | .ref n, x => by simp only [clo, decide_eq_true_eq] at x ⊢; omega
  | .tup l, x => by simp only [clo] at x ⊢; exact cloL_up h x
  | .kt l, x => by simp only [clo] at x ⊢; exact cloL_up h x
  | .ls l, x => by simp only [clo] at x ⊢; exact cloL_up h x
  | .sq l, x => by simp only [clo] at x ⊢; exact cloL_up h x
  | .dc _ l, x => by simp only [clo] at x ⊢; exact cloM_up h x
  | .ob _ l, x => by simp only [clo] at x ⊢; exact cloF_up h x
  | .non, _ => rfl
  | .bl _, _ => rfl
  | .int _, _ => rfl
  | .str _, _ => rfl
  | .fn _, _ => rfl
  | .lam _, _ => rfl
theorem cloL_up {b c : Nat} (h : b ≤ c) : ∀ {l : List D}, cloL b l = true → cloL c l = true
  | [], _ => rfl
  | d :: l, x => by
    simp only [cloL, Bool.and_eq_true] at x ⊢
    exact ⟨clo_up h x.1, cloL_up h x.2⟩
theorem cloM_up {b c : Nat} (h : b ≤ c) : ∀ {l : List (D × D)}, cloM b l = true → cloM c l = true
  | [], _ => rfl
  | (_, d) :: l, x => by
    simp only [cloM, Bool.and_eq_true] at x ⊢
    exact ⟨clo_up h x.1, cloM_up h x.2⟩
theorem cloF_up {b c : Nat} (h : b ≤ c) : ∀ {l : List (Str × D)}, cloF b l = true → cloF c l = true
  | [], _ => rfl
  | (_, d) :: l, x => by
    simp only [cloF, Bool.and_eq_true] at x ⊢
    exact ⟨clo_up h x.1, cloF_up h x.2⟩
end
theorem cloC_up {b c : Nat} (h : b ≤ c) : ∀ {x : Cell}, cloC b x = true → cloC c x = true
  | .lst _, x => cloL_up h x
  | .dict _ _ _, x => cloM_up h x
  | .obj _ _, x => cloF_up h x
/-- no cell names one beyond -/
def Cl (S : Sto) : Prop := ∀ c ∈ S, cloC S.length c = true
theorem Cl.all {S : Sto} (h : Cl S) : S.all (cloC S.length) = true := by simpa [Cl] using h
theorem Cl.set {S : Sto} (h : Cl S) {n : Nat} {c : Cell} (hc : cloC S.length c = true) : Cl (S.set n c) := by
  intro x hx
  rw [List.length_set]
  rcases List.mem_or_eq_of_mem_set hx with hx | rfl
  · exact h x hx
  · exact hc
theorem Cl.app {S T : Sto} (h : Cl S) (ht : ∀ c ∈ T, cloC (S.length + T.length) c = true) : Cl (S ++ T) := by
  intro x hx
  rw [List.length_append]
  rcases List.mem_append.mp hx with hx | hx
  · exact cloC_up (by omega) (h x hx)
  · exact ht x hx
theorem cloL_mem {b : Nat} : ∀ {l : List D}, (∀ d ∈ l, clo b d = true) → cloL b l = true
  | [], _ => rfl
  | d :: l, h => by simp [cloL, h d (by simp), cloL_mem (l := l) fun x hx => h x (by simp [hx])]
theorem cloM_mem {b : Nat} : ∀ {l : List (D × D)}, (∀ d ∈ l, clo b d.2 = true) → cloM b l = true
  | [], _ => rfl
  | (k, d) :: l, h => by simp [cloM, h (k, d) (by simp), cloM_mem (l := l) fun x hx => h x (by simp [hx])]
theorem tidy_cl {S S' : Sto} {d : D} (hl : S'.length = S.length) (hc : Cl S') (h : fzB S.length 30 d = true) : tidy S (.ok d S') = .ok d S' :=
  tidy_set hl (by rw [← hl]; exact hc.all) h
/-- the old cells have changed, new ones stand behind them -/
theorem tidy_cut {S S1 T : Sto} {d d' : D} (hl : S1.length = S.length) (hc : Cl S1) (h : frz S.length (S1 ++ T) 30 d = some d') : tidy S (.ok d (S1 ++ T)) = .ok d' S1 := by
  have e : (S1 ++ T).take S.length = S1 := by rw [← hl]; exact List.take_left' rfl
  simp only [tidy, e, h]
  rw [if_pos (.inr (by rw [← hl]; exact hc.all))]

/-! ### loops -/
/-- what a turn may come to -/
def TurnTo (P : Ev → Sto → Prop) (R : D → Sto → Prop) (r : RS) : Prop := match r with
  | .nx ρ S => P ρ S
  | .ct ρ S => P ρ S
  | .rt d S => R d S
  | _ => False
inductive EndTo (P : Ev → Sto → Prop) (R : D → Sto → Prop) : RS → Prop
  | nxt {ρ : Ev} {S : Sto} (h : P ρ S) : EndTo P R (.nx ρ S)
  | ret {d : D} {S : Sto} (h : R d S) : EndTo P R (.rt d S)
theorem forN_to {lk : Look} {b : D → GS} {l : List D} (hlk : ∀ i S, lk i S = some l[i]?) (I : Nat → Ev → Sto → Prop) (R : D → Sto → Prop)
    (h : ∀ i d ρ S, l[i]? = some d → I i ρ S → TurnTo (I (i + 1)) R (b d ρ S)) : ∀ n i ρ S, l.length < n + i → i ≤ l.length → I i ρ S → EndTo (I l.length) R (forN lk b n i ρ S)
  | 0, i, _, _, hn, hi, _ => by omega
  | n + 1, i, ρ, S, hn, hi, x => by
    simp only [forN, hlk]
    rcases Nat.lt_or_ge i l.length with hi' | hi'
    · rw [List.getElem?_eq_getElem hi']
      have := h i _ ρ S (List.getElem?_eq_getElem hi') x
      revert this
      cases e : b l[i] ρ S with
      | nx ρ2 S2 => intro y; simp only [e]; exact forN_to hlk I R h n (i + 1) ρ2 S2 (by omega) hi' y
      | ct ρ2 S2 => intro y; simp only [e]; exact forN_to hlk I R h n (i + 1) ρ2 S2 (by omega) hi' y
      | rt d S => intro y; simp only [e]; exact .ret y
      | bk _ _ => exact fun y => y.elim
      | exc _ _ _ => exact fun y => y.elim
      | bad => exact fun y => y.elim
    · rw [List.getElem?_eq_none hi']
      have : i = l.length := by omega
      subst this; exact .nxt x
/-- a loop over what stays -/
theorem sFor_to {n : Nat} {it : GI} {t : GT} {b : GS} {ρ : Ev} {S S1 : Sto} {l : List D} {lk : Look} (hit : it ρ S = .ok lk S1 none) (hlk : ∀ i S, lk i S = some l[i]?) (hn : l.length < n) (I : Nat → Ev → Sto → Prop) (R : D → Sto → Prop)
    (h0 : I 0 ρ S1) (h : ∀ i d ρ S, l[i]? = some d → I i ρ S → TurnTo (I (i + 1)) R ((t d ρ S).thn b)) : EndTo (I l.length) R (sFor n it t b ρ S) := by
  simp only [sFor, hit, IR.thn, unlRS]
  exact forN_to hlk I R h n 0 ρ S1 (by omega) (by omega) h0
theorem fixL_look {l : List D} : ∀ i S, fixL l i S = some l[i]? := fun _ _ => rfl
theorem EndTo.nx {P : Ev → Sto → Prop} {r : RS} (h : EndTo P (fun _ _ => False) r) : ∃ ρ S, r = .nx ρ S ∧ P ρ S := by
  cases h with
  | nxt h => exact ⟨_, _, rfl, h⟩
  | ret h => exact h.elim
/-- a row of what a comprehension makes -/
theorem lcN_to {lk : Look} {t : TN} {c : Option GE} {e : GE} {ρ0 : Ev} {n0 : Nat} {l : List D} (hlk : ∀ i S, lk i S = some l[i]?) (I : Nat → Sto → Prop)
    (h : ∀ i d S, l[i]? = some d → I i S → ∃ ρ S1, t d ρ0 = some ρ ∧ ((tstG c ρ S = .ok (.bl false) S1 ∧ I (i + 1) S1) ∨ (tstG c ρ S = .ok (.bl true) S1 ∧ ∃ y S2 acc, e ρ S1 = .ok y S2 ∧ S2[n0]? = some (.lst acc) ∧ acc.length < sizeLine ∧ I (i + 1) (S2.set n0 (.lst (acc ++ [y])))))) :
    ∀ n i S, l.length < n + i → i ≤ l.length → I i S → ∃ S', lcN lk t c e ρ0 n0 n i S = .ok (.ref n0) S' ∧ I l.length S'
  | 0, i, _, hn, hi, _ => by omega
  | n + 1, i, S, hn, hi, x => by
    simp only [lcN, hlk]
    rcases Nat.lt_or_ge i l.length with hi' | hi'
    · rw [List.getElem?_eq_getElem hi']
      obtain ⟨ρ, S1, e1, h1⟩ := h i _ S (List.getElem?_eq_getElem hi') x
      simp only [e1]
      rcases h1 with ⟨e2, y⟩ | ⟨e2, y, S2, acc, e3, e4, e5, z⟩
      · simp only [e2]
        exact lcN_to hlk I h n (i + 1) S1 (by omega) hi' y
      · simp only [e2, e3, e4, e5, if_true]
        exact lcN_to hlk I h n (i + 1) _ (by omega) hi' z
    · rw [List.getElem?_eq_none hi']
      have : i = l.length := by omega
      subst this; exact ⟨S, rfl, x⟩
/-- the same of a dict -/
theorem dcN_to {lk : Look} {t : TN} {c : Option GE} {ek e : GE} {ρ0 : Ev} {n0 : Nat} {l : List D} (hlk : ∀ i S, lk i S = some l[i]?) (I : Nat → Sto → Prop)
    (h : ∀ i d S, l[i]? = some d → I i S → ∃ ρ S1, t d ρ0 = some ρ ∧ ((tstG c ρ S = .ok (.bl false) S1 ∧ I (i + 1) S1) ∨ (tstG c ρ S = .ok (.bl true) S1 ∧ ∃ k S2 y S3 acc, ek ρ S1 = .ok k S2 ∧ e ρ S2 = .ok y S3 ∧ S3[n0]? = some (.dict 0 false acc) ∧ keyOk 0 k = true ∧ acc.length < sizeLine ∧ I (i + 1) (S3.set n0 (.dict 0 false (dput acc k y)))))) :
    ∀ n i S, l.length < n + i → i ≤ l.length → I i S → ∃ S', dcN lk t c ek e ρ0 n0 n i S = .ok (.ref n0) S' ∧ I l.length S'
  | 0, i, _, hn, hi, _ => by omega
  | n + 1, i, S, hn, hi, x => by
    simp only [dcN, hlk]
    rcases Nat.lt_or_ge i l.length with hi' | hi'
    · rw [List.getElem?_eq_getElem hi']
      obtain ⟨ρ, S1, e1, h1⟩ := h i _ S (List.getElem?_eq_getElem hi') x
      simp only [e1]
      rcases h1 with ⟨e2, y⟩ | ⟨e2, k, S2, y, S3, acc, e3, e4, e5, e6, e7, z⟩
      · simp only [e2]
        exact dcN_to hlk I h n (i + 1) S1 (by omega) hi' y
      · simp only [e2, e3, e4, e5, e6, e7, and_self, if_true]
        exact dcN_to hlk I h n (i + 1) _ (by omega) hi' z
    · rw [List.getElem?_eq_none hi']
      have : i = l.length := by omega
      subst this; exact ⟨S, rfl, x⟩
/-! ### cells -/
theorem get_set_ne {S : Sto} {m n : Nat} {c : Cell} (h : m ≠ n) : (S.set m c)[n]? = S[n]? := by simp [List.getElem?_set, h]
theorem get_set_eq {S : Sto} {n : Nat} {c : Cell} (h : n < S.length) : (S.set n c)[n]? = some c := by simp [List.getElem?_set, h]
theorem lt_of_get {S : Sto} {n : Nat} {c : Cell} (h : S[n]? = some c) : n < S.length := by
  rcases Nat.lt_or_ge n S.length with x | x
  · exact x
  · rw [List.getElem?_eq_none x] at h; cases h
theorem get_app {S T : Sto} {n : Nat} {c : Cell} (h : S[n]? = some c) : (S ++ T)[n]? = some c := by
  rw [List.getElem?_append_left (lt_of_get h)]; exact h
theorem get_new {S : Sto} {c : Cell} : (S ++ [c])[S.length]? = some c := by simp
theorem set_new {S : Sto} {c d : Cell} : (S ++ [c]).set S.length d = S ++ [d] := by simp
/-! ### comprehensions that change nothing -/
theorem lcN_pure {lk : Look} {t : TN} {c : Option GE} {e : GE} {ρ0 : Ev} {S : Sto} {l : List D} (hlk : ∀ i S, lk i S = some l[i]?) (f : D → Option D)
    (h : ∀ d ∈ l, ∀ acc, ∃ ρ, t d ρ0 = some ρ ∧ match f d with
      | none => tstG c ρ (S ++ [.lst acc]) = .ok (.bl false) (S ++ [.lst acc])
      | some y => tstG c ρ (S ++ [.lst acc]) = .ok (.bl true) (S ++ [.lst acc]) ∧ e ρ (S ++ [.lst acc]) = .ok y (S ++ [.lst acc]))
    {n : Nat} (hn : l.length < n) (hl : l.length ≤ sizeLine) : lcN lk t c e ρ0 S.length n 0 (S ++ [.lst []]) = .ok (.ref S.length) (S ++ [.lst (l.filterMap f)]) := by
  obtain ⟨S', e1, e2⟩ := lcN_to (lk := lk) (t := t) (c := c) (e := e) (ρ0 := ρ0) (n0 := S.length) hlk (fun i T => T = S ++ [.lst ((l.take i).filterMap f)]) (fun i d T hd hT => by
    subst hT
    obtain ⟨ρ, h1, h2⟩ := h d (List.mem_of_getElem? hd) ((l.take i).filterMap f)
    have ht : l.take (i + 1) = l.take i ++ [d] := by rw [List.take_succ, hd]; rfl
    have hlen : ((l.take i).filterMap f).length < sizeLine := by
      have := List.length_filterMap_le f (l.take i)
      have h3 : i < l.length := (List.getElem?_eq_some_iff.mp hd).1
      rw [List.length_take] at this
      omega
    cases hf : f d with
    | none =>
      simp only [hf] at h2
      exact ⟨ρ, _, h1, .inl ⟨h2, by rw [ht]; simp [hf]⟩⟩
    | some y =>
      simp only [hf] at h2
      exact ⟨ρ, _, h1, .inr ⟨h2.1, y, _, _, h2.2, get_new, hlen, by rw [set_new, ht]; simp [hf]⟩⟩) n 0 _ (by omega) (by omega) rfl
  rw [e2, List.take_length] at e1
  exact e1
theorem gLc_pure {it : GI} {lk : Look} {t : TN} {c : Option GE} {e : GE} {ρ : Ev} {vs : List Nat} {S : Sto} {l : List D} {n : Nat} (hit : it ρ S = .ok lk S none) (hlk : ∀ i S, lk i S = some l[i]?) (f : D → Option D)
    (h : ∀ d ∈ l, ∀ acc, ∃ ρ', t d (wipeG ρ vs) = some ρ' ∧ match f d with
      | none => tstG c ρ' (S ++ [.lst acc]) = .ok (.bl false) (S ++ [.lst acc])
      | some y => tstG c ρ' (S ++ [.lst acc]) = .ok (.bl true) (S ++ [.lst acc]) ∧ e ρ' (S ++ [.lst acc]) = .ok y (S ++ [.lst acc]))
    (hn : l.length < n) (hl : l.length ≤ sizeLine) (hf : ∀ d ∈ l, ∀ y, f d = some y → fzB S.length 29 y = true) : gLc true n it t c e vs ρ S = .ok (.ls (l.filterMap f)) S := by
  simp only [gLc, gLc0, hit, IR.res, unlR, lcN_pure hlk f h hn hl, if_true]
  apply tidy_new
  simp only [frz, Nat.lt_irrefl, if_false, get_new]
  rw [omap_id]; rfl
  intro y hy
  obtain ⟨d, hd, e2⟩ := List.mem_filterMap.mp hy
  have := hf d hd y e2
  refine frz_id ?_
  exact this
/-! ### cuts -/
theorem cutD_take {α : Type} {xs : List α} {k : Nat} : cutD xs none (some (k : Int)) = xs.take k := by
  simp only [cutD, HT.sIx_none, HT.sIx_nat, List.drop_zero, Nat.sub_zero]
  rcases Nat.le_total k xs.length with h | h
  · rw [Nat.min_eq_left h]
  · rw [Nat.min_eq_right h, List.take_length, List.take_of_length_le h]
/-! ### ranges -/
theorem small62_of {j : Int} (h1 : -4611686018427387904 ≤ j) (h2 : j < 4611686018427387904) : small62 j = true := by
  have e : (2 : Int) ^ 62 = 4611686018427387904 := by decide
  simp only [small62, e, Bool.and_eq_true, decide_eq_true_eq]
  exact ⟨h1, h2⟩
theorem rng1_it {a : GE} {ρ : Ev} {S : Sto} {j : Int} (ha : a ρ S = .ok (.int j) S) (h1 : -4611686018427387904 ≤ j) (h2 : j < 4611686018427387904) : gSrcA rngOf1 [a] ρ S = .ok (fixL (rngL 0 1 j.toNat)) S none := by
  simp only [gSrcA, gArgsR, ha, AR.cons, rngOf1, small62_of h1 h2, if_true]
theorem rng2_it {a b : GE} {ρ : Ev} {S : Sto} {i j : Int} (ha : a ρ S = .ok (.int i) S) (hb : b ρ S = .ok (.int j) S) (h1 : -4611686018427387904 ≤ i) (h2 : i < 4611686018427387904) (h3 : -4611686018427387904 ≤ j) (h4 : j < 4611686018427387904) :
    gSrcA rngOf2 [a, b] ρ S = .ok (fixL (rngL i 1 (j - i).toNat)) S none := by
  simp only [gSrcA, gArgsR, ha, hb, AR.cons, rngOf2, small62_of h1 h2, small62_of h3 h4, Bool.and_self, if_true]
end Gp

set_option Elab.async false
set_option linter.all false
set_option maxRecDepth 100000
/-! Gp23: generator expressions: the frame they run in (cells of its own; exceptions leave it) -/
namespace Gp
open PySem PySem.Spec L2
open PyProof.Rows hiding St

/-- kept, into the ground; ex: what may have turned -/
structure UBf (fs ex : List Addr) (H H' : Hp) (h B h' : Heap) : Prop where
  keep : ∀ b o, h.get? b = some o → H b = none → b ∉ fs → b ∉ ex → B.get? b = some o
  slot : ∀ b o, h.get? b = some o → b ∈ fs → ∃ sl, h'.get? b = some { o with slots := sl }
  free : ∀ b o, h.get? b = some o → H b = none → b ∉ ex → H' b = none
  there : ∀ b o, h.get? b = some o → b ∉ fs → b ∉ ex → ∃ o', B.get? b = some o'
  tups : ∀ b xs, H b = some (.tup xs) → H' b = some (.tup xs)
  frzs : ∀ b o xs, H b = some (.frz o xs) → H' b = some (.frz o xs)
  tbls : ∀ b ps, H b = some (.tbl ps) → ∃ more, H' b = some (.tbl (ps ++ more))
/-- behind a generator that let an exception out -/
def CXf (P : Program) (w : World) (outer : List Env) (H : Hp) (s : Shared) (ex : List Addr) (E : XK) (u : Value) (s' : Shared) : Prop :=
  ∃ (a : Addr) (B : Heap) (H' : Hp) (cls : Value) (d : Option Addr), u = .ref a ∧ HandSPX.FlyingZ B outer a (Zc cls d) s'.heap ∧ HOk P w H' B ∧ UBf (frs outer) ex H H' s.heap B s'.heap ∧ H' a = none ∧ s'.os = s.os ∧ AllBare s'.gens ∧ E cls d H'
theorem CXf.imp {P : Program} {w : World} {outer : List Env} {H : Hp} {s : Shared} {ex : List Addr} {E E' : XK} {u : Value} {s' : Shared} (h : ∀ c d H', E c d H' → E' c d H') (x : CXf P w outer H s ex E u s') : CXf P w outer H s ex E' u s' :=
  let ⟨a, B, H', cls, d, e, fl, hok, ub, na, os, ag, q⟩ := x; ⟨a, B, H', cls, d, e, fl, hok, ub, na, os, ag, h _ _ _ q⟩
theorem CXf.gens {P : Program} {w : World} {outer : List Env} {H : Hp} {s : Shared} {ex : List Addr} {E : XK} {u : Value} {s' : Shared} {g : Nat} {x : GenState} (hb : x.bare = true) (c : CXf P w outer H s ex E u s') : CXf P w outer H s ex E u (s'.setGen g x) :=
  let ⟨a, B, H', cls, d, e, fl, hok, ub, na, os, ag, q⟩ := c; ⟨a, B, H', cls, d, e, fl, hok, ub, na, os, allBare_setGen ag hb, q⟩
/-- the context of a generator expression's frame -/
abbrev genX (X : Cx) (NG : List Str) (A' : Around) (s : Shared) (H : Hp) (ce : Env) (fp : List Addr) (pn : List (Addr × Obj)) (E : XK) : Cx :=
  { X with N := NG, A := A', s_0 := s, H_0 := H, env := ce, outer := X.stack, stack := ce :: X.stack, ex := fp, fn := fun x => ce.scope.names.lookup x == some .cell, pn := pn
           xe := fun u s' => wpAny (model X.prog X.w) A' (leaving ce u) (fun _ s'' => CXf X.prog X.w X.stack H s fp E u s'' ∧ ∀ p ∈ pn, s''.heap.get? p.1 = some p.2) (fun _ _ => False) s' }
/-- an exception leaves the frame; what is pinned stays -/
theorem XE.leaveF {X : Cx} {W : WX} {E : XK} {s' : Shared} (hs : X.stack = X.env :: X.outer) (hf : X.env.frame = some X.env.locals) {E₁ : Value → Shared → Prop} (hW : ∀ cls d σ H, W cls d σ H → E cls d H) {u : Value} (x : XE X W u s') :
    wpAny (model X.prog X.w) X.A (leaving X.env u) (fun _ s'' => CXf X.prog X.w X.outer X.H_0 X.s_0 X.ex E u s'' ∧ ∀ p ∈ X.pn, s''.heap.get? p.1 = some p.2) E₁ s' := by
  obtain ⟨a, B, sI, pins, σ, H, cls, d, rfl, I, nb, up, sky, na, os, ag, w⟩ := x
  have hfr : X.A.frames = some (X.env :: X.outer) := by rw [I.ok.frames, hs]
  have nst : ∀ b o, X.s_0.heap.get? b = some o → b ∉ X.fs → b ∉ frs X.stack := fun b o e hb hm => by
    rcases List.mem_cons.mp (I.stkSub b hm) with z | z
    · have h1 := Heap.lt_size e
      have h2 := I.ok.above
      rw [z] at h1
      exact absurd (Nat.lt_of_lt_of_le h1 h2) (Nat.lt_irrefl _)
    · exact hb z
  have hexf : ∀ b, b ∈ X.fs → b ∉ X.ex := fun b hb hx => I.ok.exfs b hx hb
  have hokB := I.inGround nb
  have pinB : ∀ p ∈ X.pn, B.get? p.1 = some p.2 := fun p hp => by
    obtain ⟨h1, _, h3, h4, _⟩ := I.pin p (List.mem_append_left _ hp)
    refine nb p.1 p.2 h1 fun hm => ?_
    rcases List.mem_cons.mp (I.stkSub p.1 hm) with z | z
    · exact h3 z
    · exact h4 z
  have fin : ∀ h', HandSPX.FlyingZ B X.outer a (Zc cls d) h' → s'.heap.UpToSlots h' → (CXf X.prog X.w X.outer X.H_0 X.s_0 X.ex E (.ref a) { s' with heap := h' } ∧ ∀ p ∈ X.pn, ({ s' with heap := h' } : Shared).heap.get? p.1 = some p.2) := fun h' fl up' => by
    refine ⟨⟨a, B, H, cls, d, rfl, fl, hokB, ⟨fun b o e n hb hx => nb b o (I.base.keep b o e n hb hx) (nst b o e hb), fun b o e hb => ?_, fun b o e n hx => I.base.free b o e n hx, fun b o e hb hx => ?_, I.base.tups, I.base.frzs, I.base.tbls⟩,
      na, os.trans I.os, ag, hW _ _ _ _ w⟩, fun p hp => fl.1 p.1 p.2 (pinB p hp)⟩
    · obtain ⟨_, o₀, e₀, hnf⟩ := I.ok.funs.mem hb
      rw [e] at e₀; cases e₀
      obtain ⟨sl, e1⟩ := I.base.slot b o e (I.ok.frf b hb) hb (hexf b hb)
      obtain ⟨sl2, e2⟩ := up b _ e1 hnf
      obtain ⟨sl3, e3⟩ := up' b _ e2 hnf
      exact ⟨sl3, e3⟩
    · obtain ⟨o', e1⟩ := I.base.there b o e hx
      exact ⟨o', nb b o' e1 (nst b o e hb)⟩
  rw [hs] at sky
  rcases sky with ⟨hB, hn, hl, oe, vs, he, hz, hd, h1⟩ | fl | hd
  · exact HandSPX.leaving_firstZ Zc.steady hfr hl hf he hB hn hd h1 hz fin
  · exact HandSPX.leaves_onZ Zc.steady hfr hf fl fin
  · exact HandSPX.leaves_heldZ hf hd fin
/-- .. and is in the air of the def around -/
theorem XE.of_gen {X : Cx} {pins : List (Addr × Obj)} {σ : L2.St} {H : Hp} {s s' : Shared} {W : WX} {E : XK} {ex : List Addr} (I : Inv X pins σ H s) (hfp : ∀ b ∈ ex, FpOk X pins H b) (hW : ∀ cls d H', E cls d H' → W cls d σ H') {u : Value} (c : CXf X.prog X.w X.stack H s ex E u s') : XE X W u s' := by
  obtain ⟨a, B, H', cls, d, rfl, fl, hok, ub, na, os, ag, hE⟩ := c
  obtain ⟨G, g1, g2⟩ := restrict s'.heap fun b => (B.get? b).isSome || decide (b ∈ frs X.stack)
  have st : B.StaysIn s'.heap := fl.1
  have gB : ∀ b o, B.get? b = some o → G.get? b = some o := fun b o e => by
    rw [g1 b (by simp [e])]
    exact st b o e
  have gF : ∀ b, b ∈ frs X.stack → G.get? b = s'.heap.get? b := fun b hb => g1 b (by simp [hb])
  have og : ∀ b o, G.get? b = some o → s'.heap.get? b = some o ∧ ((B.get? b).isSome = true ∨ b ∈ frs X.stack) := fun b o e => by
    cases q : ((B.get? b).isSome || decide (b ∈ frs X.stack)) with
    | false => rw [g2 b q] at e; cases e
    | true =>
      rw [g1 b q] at e
      exact ⟨e, by simpa [Bool.or_eq_true] using q⟩
  refine ⟨a, B, { s with heap := G, gens := s'.gens, drawn := s'.drawn, toks := s'.toks }, pins, σ, H', cls, d, rfl, ?_, fun b o e hb => ?_, Heap.UpToSlots.of_keeps fun b o e => (og b o e).1, .inr (.inl fl), na, os, ag, hW _ _ _ hE⟩
  · refine I.call (ch := ex) ⟨fun b o e n hb hx => gB b o (ub.keep b o e n hb hx), fun b o e n hb _ => ?_, fun b o e n hx => ub.free b o e n hx, fun b o e hx => ?_, ub.tups, ub.frzs, ub.tbls⟩ (hok.kept gB) ag fun b hb => ⟨(hfp b hb).2.2.2.1, (hfp b hb).2.1, (hfp b hb).2.2.2.2.1, (hfp b hb).2.2.2.2.2⟩
    · obtain ⟨sl, q⟩ := ub.slot b o e hb
      exact ⟨sl, by rw [gF b hb]; exact q⟩
    · by_cases hb : b ∈ frs X.stack
      · obtain ⟨sl, q⟩ := ub.slot b o e hb
        exact ⟨_, by rw [gF b hb]; exact q⟩
      · obtain ⟨o', q⟩ := ub.there b o e hb hx
        exact ⟨o', gB b o' q⟩
  · obtain ⟨e', h⟩ := og b o e
    rcases h with h | h
    · obtain ⟨o', q⟩ := Option.isSome_iff_exists.mp h
      have z := st b o' q
      rw [e'] at z; cases z
      exact q
    · exact absurd h hb
section
variable {X : Cx} {pins : List (Addr × Obj)} {σ : L2.St} {H : Hp} {s : Shared}
theorem takes_gen {NG : List Str} {A' : Around} {ce : Env} {fp : List Addr} {pn : List (Addr × Obj)} {E : XK} (hf : ce.frame = some ce.locals) : Takes (genX X NG A' s H ce fp pn E) (fun cls d _ H' => E cls d H') := fun u s' x =>
  XE.leaveF (X := genX X NG A' s H ce fp pn E) (W := fun cls d _ H' => E cls d H') (E := E) rfl hf (fun _ _ _ _ h => h) x
theorem owns_gen {NG : List Str} {A' : Around} {ce : Env} {fp : List Addr} {pn : List (Addr × Obj)} {E : XK} : PassesOwn (model X.prog X.w) A' ce (genX X NG A' s H ce fp pn E).xe :=
  passes_of (X := genX X NG A' s H ce fp pn E) (K := fun u s'' => CXf X.prog X.w X.stack H s fp E u s'' ∧ ∀ p ∈ pn, s''.heap.get? p.1 = some p.2) (E₁ := fun _ _ => False) rfl
/-- what is wished of exceptions is no part of the frame -/
theorem gen_xe {NG : List Str} {A' : Around} {ce : Env} {fp : List Addr} {pn : List (Addr × Obj)} {E E' : XK} (I : Inv (genX X NG A' s H ce fp pn E) pins σ H' s') : Inv (genX X NG A' s H ce fp pn E') pins σ H' s' :=
  ⟨⟨I.ok.mod, I.ok.kind, I.ok.glob, I.ok.blt, I.ok.above, I.ok.inj, I.ok.has, I.ok.cab, I.ok.hd, I.ok.frames, I.ok.stk, I.ok.exf, I.ok.bs, I.ok.bsz, I.ok.noex, I.ok.exfs, I.ok.funs, I.ok.frf⟩, I.os, I.bare, I.base, I.loc, I.cell, I.free, I.freeC, I.pin, I.hok, I.len⟩
/-- the names of a generator expression's frame: the def's, its mark left out -/
structure NgOk (N NG : List Str) (scope : Scope) : Prop where
  len : NG.length = N.length
  nd : NG.Nodup
  at_ : ∀ (i : Nat) (y : Str), NG[i]? = some y → N[i]? = some y ∨ scope.names.lookup y = none
def ngB (N NG : List Str) (scope : Scope) : Bool := decide (NG.length = N.length) && decide NG.Nodup && (List.range NG.length).all fun i => decide (NG[i]? = N[i]?) || (match NG[i]? with | some y => (scope.names.lookup y).isNone | none => true)
theorem ng_by {N NG : List Str} {scope : Scope} (h : ngB N NG scope = true) : NgOk N NG scope := by
  unfold ngB at h
  simp only [Bool.and_eq_true, decide_eq_true_eq] at h
  obtain ⟨⟨h1, h2⟩, h3⟩ := h
  refine ⟨h1, h2, fun i y e => ?_⟩
  have hi : i < NG.length := (List.getElem?_eq_some_iff.mp e).1
  have h4 := List.all_eq_true.mp h3 i (List.mem_range.mpr hi)
  rw [Bool.or_eq_true, decide_eq_true_eq, e] at h4
  rcases h4 with h4 | h4
  · exact .inl h4.symm
  · exact .inr (by simpa using h4)
/-- the frame's cells: captured, its own -/
structure GCl (cells : List (Str × Addr)) (scope : Scope) (sz : Nat) (cl : List (Str × Addr)) (h' : Heap) : Prop where
  mem : ∀ y c, cl.lookup y = some c → (cells.lookup y = some c ∧ c < sz) ∨ (sz < c ∧ h'.IsCell c none)
  inj : ∀ y z c, cl.lookup y = some c → cl.lookup z = some c → y = z
  own : ∀ y, scope.names.lookup y = some .cell → ∃ c, cl.lookup y = some c
  young : ∀ y c, scope.names.lookup y = some .cell → cl.lookup y = some c → sz < c
  free : ∀ y, scope.names.lookup y = some .free → ∃ c, cl.lookup y = some c ∧ cells.lookup y = some c
theorem gcl_of (I : Inv X pins σ H s) {scope : Scope} {own : List (Str × Nat)} (ok : BlkOk X.N X.env.scope scope own) {o : Obj} {h' : Heap} (sb : ∀ b o', b ≠ s.heap.objs.size → (pushCells (s.heap.push o) scope.names).get? b = some o' → h'.get? b = some o') :
    GCl X.env.cells scope s.heap.objs.size (cellsFrom (s.heap.objs.size + 1) scope.names (cloFrom X.env.cells scope.names [])) h' := by
  have hfree : ∀ y ∈ scope.names, y.2 = .free → ∃ c, X.env.cells.lookup y.1 = some c := fun y hy e => by
    rcases ok.free y hy e with k | k
    · exact I.ok.has _ (.inl k)
    · exact I.ok.has _ (.inr k)
  generalize hcl : cellsFrom (s.heap.objs.size + 1) scope.names (cloFrom X.env.cells scope.names []) = cl
  rw [← Heap.size_push s.heap o] at hcl
  have cm : ∀ {y c}, (y, c) ∈ cloFrom X.env.cells scope.names [] → X.env.cells.lookup y = some c ∧ c < s.heap.objs.size := fun {y c} hm => by
    rcases cloFrom_mem hm with hm | ⟨h1, rfl⟩
    · cases hm
    · obtain ⟨c, hc⟩ := hfree _ h1 rfl
      rw [hc]
      obtain ⟨w, z⟩ := I.cell _ _ hc
      exact ⟨rfl, z.lt⟩
  have cellAt : ∀ {c : Addr}, s.heap.objs.size < c → CellAt (pushCells (s.heap.push o) scope.names) c none → h'.IsCell c none := fun {c} hc ⟨o', e, d⟩ => ⟨o', sb c o' (Nat.ne_of_gt hc) e, d⟩
  have mem : ∀ {y c}, cl.lookup y = some c → (X.env.cells.lookup y = some c ∧ c < s.heap.objs.size) ∨ (s.heap.objs.size < c ∧ h'.IsCell c none ∧ (y, NameKind.cell) ∈ scope.names) := fun {y c} e => by
    rw [← hcl] at e
    rcases cells_mem (PySem.mem_of_lookup e) with hm | ⟨h1, h2, h3⟩
    · exact .inl (cm hm)
    · rw [Heap.size_push] at h2; exact .inr ⟨h2, cellAt h2 h3, h1⟩
  refine ⟨fun y c e => (mem e).imp id fun z => ⟨z.1, z.2.1⟩, fun y z c e1 e2 => ?_, fun y hy => ?_, fun y c hy e => ?_, fun y hl => ?_⟩
  · rw [← hcl] at e1 e2
    refine cells_inj (fun p hp => ?_) (fun y z c a b => I.ok.inj y z c (cm a).1 (cm b).1) (PySem.mem_of_lookup e1) (PySem.mem_of_lookup e2)
    rw [Heap.size_push]
    exact Nat.lt_succ_of_lt (cm (y := p.1) (c := p.2) hp).2
  · obtain ⟨c, hm⟩ := cells_has (n := (s.heap.push o).objs.size) (acc := cloFrom X.env.cells scope.names []) (PySem.mem_of_lookup hy)
    obtain ⟨c', e'⟩ := mem_lookup hm
    exact ⟨c', by rw [← hcl]; exact e'⟩
  · rw [← hcl] at e
    rcases cells_mem (PySem.mem_of_lookup e) with hm | ⟨_, h2, _⟩
    · rcases cloFrom_mem hm with hm | ⟨h1, _⟩
      · cases hm
      · have q := ok.uniq _ h1
        rw [hy] at q; cases q
    · rw [Heap.size_push] at h2; exact h2
  · have hy : (y, NameKind.free) ∈ scope.names := PySem.mem_of_lookup hl
    obtain ⟨c', e'⟩ := mem_lookup (cells_acc (names := scope.names) (n := (s.heap.push o).objs.size) (cloFrom_has (cells := X.env.cells) (acc := []) hy))
    refine ⟨c', by rw [← hcl]; exact e', ?_⟩
    rcases cells_mem (PySem.mem_of_lookup e') with hm | ⟨h1, _, _⟩
    · exact (cm hm).1
    · have := ok.uniq _ h1
      rw [hl] at this; cases this
theorem gen_start {NG : List Str} {scope : Scope} {own : List (Str × Nat)} {fp : List Addr} {A' : Around} {code : Value} {h' : Heap} {m0 : Str → Option Value} {tk : Nat} {gs : Array GenState} {cl : List (Str × Addr)} {E : XK} (I : Inv X pins σ H s) (ng : NgOk X.N NG scope) (ok : BlkOk NG X.env.scope scope own) (hN : NG.Nodup)
    (gc : GCl X.env.cells scope s.heap.objs.size cl h') (hfp : ∀ b ∈ fp, FpOk X pins H b ∧ b < s.heap.objs.size) (hd : A'.handled = none)
    (hfr : A'.frames = some (genEnv scope cl s.heap.objs.size code X.env.builtins X.env :: X.stack))
    (hn : h'.Ns s.heap.objs.size m0) (hk : ∀ b o, s.heap.get? b = some o → h'.get? b = some o) (hb : AllBare gs) :
    Inv (genX X NG A' s H (genEnv scope cl s.heap.objs.size code X.env.builtins X.env) fp [] E) [] (wipe σ (own.map (·.2))) H { s with heap := h', toks := tk, gens := gs } := by
  refine ⟨⟨I.ok.mod, ok.kind, I.ok.glob, I.ok.blt, Nat.le_refl _, fun y z c e1 e2 => gc.inj y z c e1 e2, fun y hy => ?_, fun y c z e => ?_, fun _ => hd, hfr, .inr ⟨rfl, rfl⟩, fun b hb => ⟨?_, fun y c e z => ?_⟩, I.bs, Nat.le_trans I.ok.bsz I.sz, fun b o e hb => ?_, fun b hb z => ?_, I.stack, I.stkFree⟩,
    rfl, hb, Un.kept hk, ⟨m0, hn, fun i y av e1 e2 e3 => ?_⟩, fun y c e => ?_, I.hok.fresh (Nat.le_refl _), fun y c e => ?_, fun p hp => absurd (show p ∈ ([] : List (Addr × Obj)) ++ [] from hp) (by simp), I.hok.kept hk, by rw [wipe_length]; exact I.len.trans ng.len.symm⟩
  · rcases hy with hy | hy
    · exact gc.own y hy
    · obtain ⟨c, h1, _⟩ := gc.free y hy
      exact ⟨c, h1⟩
  · have z : (scope.names.lookup y == some NameKind.cell) = true := z
    exact Nat.le_of_lt (gc.young y c (by simpa using z) e)
  · exact Nat.ne_of_lt (hfp b hb).2
  · rcases gc.mem y c e with ⟨k, _⟩ | ⟨k, _⟩
    · exact (hfp b hb).1.2.2.2.2.1 y c k z
    · rw [z] at k
      exact absurd (Nat.lt_trans k (hfp b hb).2) (Nat.lt_irrefl _)
  · rcases (hfp b hb).1.2.2.2.1 with z | z
    · exact I.ok.noex b o e z
    · exact absurd (Nat.lt_of_lt_of_le (Heap.lt_size e) (Nat.le_trans I.ok.bsz z)) (Nat.lt_irrefl _)
  · rcases List.mem_cons.mp (I.stkSub b z) with z | z
    · exact (hfp b hb).1.2.1 z
    · exact (hfp b hb).1.2.2.1 z
  · obtain ⟨e2, hne⟩ := wipe_some e2
    have no : ∀ k, scope.names.lookup y = some k → k = .local ∨ k = .cell → False := fun k e hh => by
      rcases ok.own _ (PySem.mem_of_lookup e) hh with e' | e'
      · obtain ⟨p, hp, hpy⟩ := List.mem_map.mp e'
        have e3 := ok.ix p hp
        have : p.1 = y := hpy
        rw [this] at e3
        exact absurd (List.mem_map.mpr ⟨p, hp, nodup_ix hN e3 e1⟩) hne
      · exact absurd (List.mem_of_getElem? e1) e'
    have hfr : scope.names.lookup y = some .free := by
      rcases e3 with e | e | e
      · exact (no _ e (.inl rfl)).elim
      · exact (no _ e (.inr rfl)).elim
      · exact e
    obtain ⟨m, hn, hl⟩ := I.loc
    have e1 : X.N[i]? = some y := by
      rcases ng.at_ i y e1 with k | k
      · exact k
      · rw [hfr] at k; cases k
    have hvis : Vis X.env.scope y := (ok.free _ (PySem.mem_of_lookup hfr) rfl).elim (fun k => .inr (.inl k)) (fun k => .inr (.inr k))
    obtain ⟨w, r, q⟩ := hl i y av e1 e2 hvis
    refine ⟨w, r, .inr ⟨.inr hfr, ?_⟩⟩
    obtain ⟨c, h1, h2⟩ := gc.free y hfr
    rcases q with ⟨k, _⟩ | ⟨_, c', e', z⟩
    · have k : X.env.scope.names.lookup y = some .local := k
      rcases ok.free _ (PySem.mem_of_lookup hfr) rfl with k' | k' <;> rw [show X.env.scope.names.lookup y = _ from k'] at k <;> cases k
    · rw [h2] at e'; cases e'
      exact ⟨c, h1, z.keeps hk⟩
  · rcases gc.mem y c e with ⟨k, _⟩ | ⟨_, k⟩
    · obtain ⟨w, z⟩ := I.cell y c k
      exact ⟨w, z.keeps hk⟩
    · exact ⟨_, k⟩
  · rcases gc.mem y c e with ⟨k, _⟩ | ⟨k, _⟩
    · exact I.freeC y c k
    · exact I.hok.fresh (Nat.le_of_lt k)
end
/-! ### the frame of a generator expression is made -/
section
variable {M : Model} {A : Around} {E : Value → Shared → Prop} {s : Shared}
theorem wpAny_newFunctionEnv_gen {scope : Scope} {globals : Addr} {closure : List (Str × Addr)} {qual : Str} {func : Option Addr} {code : Value} {builtins : Addr} {it : Value} {Q : Env → Shared → Prop}
    (hk : scope.kind = .function) (h0 : scope.names.lookup (".0" : Str) = some NameKind.local)
    (hQ : ∀ h' tk, h'.Ns s.heap.objs.size (fun y => if y = ".0" then some it else none) → Heap.SameBut s.heap.objs.size (pushCells (s.heap.push { cls := .type "frame", data := .dict #[] }) scope.names) h' →
      Q (newEnv scope s.heap.objs.size globals (cellsFrom (s.heap.objs.size + 1) scope.names closure) qual func code none builtins) { s with heap := h', toks := tk }) :
    wpAny M A (newFunctionEnv scope globals closure [(".0", it)] qual func code none builtins) Q E s := by
  simp only [newFunctionEnv, Option.isSome_none, Bool.false_eq_true, if_false]
  refine wpAny_bind (wpAny_alloc ?_)
  refine wpAny_bind (wpAny_layCells _ (fun name kind cells => by cases hkc : kind == NameKind.cell <;> simp [hkc]) _ _ _ _ ?_)
  rw [show ({ s with heap := s.heap.push { cls := .type "frame", data := .dict #[] } } : Shared).heap.objs.size = s.heap.objs.size + 1 from Heap.size_push ..]
  rw [List.forIn_cons]
  have hns : (pushCells (s.heap.push { cls := .type "frame", data := .dict #[] }) scope.names).Ns s.heap.objs.size (fun _ => none) := (Heap.Ns.new s.heap (.type "frame")).keeps (pushCells_keeps _ _)
  refine wpAny_bind (wpAny_bind (wpAny_bind (wpAny_storeName_local (m := fun _ => none) (by show scope.names.lookup _ = _; exact h0) hns (fun h' hn' hs' => wpAny_pure ?_) (by show (scope.kind == .class || (scope.kind == .module && _)) = false; rw [hk]; rfl))))
  simp only [List.forIn_nil]
  refine wpAny_pure (wpAny_pure (hQ h' _ ?_ hs'))
  exact hn'
theorem wpAny_GeneratorExp_makeC {env : Env} {elt target iter : Expr} {ifs : List Expr} {scope : Scope} {cl : List (Str × Addr)} {pos : Pos} {Q : Value → Shared → Prop}
    (hco : scope.isCoroutine = false) (hclos : closureFor scope env = pure cl) (h0 : scope.names.lookup (".0" : Str) = some NameKind.local) (hkind : scope.kind = .function)
    (hroom : A.depth < recursionLimit)
    (h : wpAny M A (eval iter env) (fun xv s₁ => wpAny M A (pyIter xv) (fun it s₂ => s₂.heap.NoLimit ∧
      wpAny M A (genexprCode env pos (env.qual ++ "<genexpr>") scope) (fun code s₃ => wpAny M A (builtinsFor env.globals env.builtins) (fun bi s₄ =>
        ∀ h' tk, h'.Ns s₄.heap.objs.size (fun y => if y = ".0" then some it else none) → Heap.SameBut s₄.heap.objs.size (pushCells (s₄.heap.push { cls := .type "frame", data := .dict #[] }) scope.names) h' →
          Q (.ref h'.objs.size) { s₄ with
            gens := s₄.gens.push (.fresh (.compStart (.GeneratorExp elt [⟨target, iter, ifs, 0⟩] scope pos) 0 it .none (genEnv scope (cellsFrom (s₄.heap.objs.size + 1) scope.names cl) s₄.heap.objs.size code bi env))),
            toks := tk + 1 + 1,
            heap := h'.push { cls := .type "generator", data := .fields #[.int s₄.gens.size 0, .str "<genexpr>" tk, .str (env.qual ++ "<genexpr>") (tk + 1)] } }) E s₃) E s₂) E s₁) E s)
    (hs : ∀ x, genFold iter env x = pure x) :
    wpAny M A (eval (.GeneratorExp elt [⟨target, iter, ifs, 0⟩] scope pos) env) Q E s := by
  rw [eval_GeneratorExp1 _ _ _ _ _ _ _ hco, hclos]
  refine wpAny_bind (wpAny_mono h (fun xv s₁ h₁ => ?_) fun _ _ e => e)
  refine wpAny_bind (wpAny_standAt ?_)
  refine wpAny_bind (wpAny_of_eq (hs xv) ?_)
  refine wpAny_bind (wpAny_holding (wpAny_mono h₁ (fun it s₂ h₂ => ?_) fun _ _ e => e))
  refine wpAny_bind (wpAny_enterFrame h₂.1 hroom ?_)
  refine wpAny_bind (wpAny_pure ?_)
  refine wpAny_bind (wpAny_mono h₂.2 (fun code s₃ h₃ => ?_) fun _ _ e => e)
  refine wpAny_bind (wpAny_mono h₃ (fun bi s₄ h₄ => ?_) fun _ _ e => e)
  refine wpAny_bind (wpAny_newFunctionEnv_gen hkind h0 fun h' tk hn' hs' => ?_)
  simp only [newGenerator, newFields]
  refine wpAny_bind (wpAny_newGen (wpAny_bind (wpAny_mkText (wpAny_bind (wpAny_mkText (wpAny_newObj_type ?_ (by size_fits)))))))
  exact h₄ h' tk hn' hs'
end
end Gp

set_option Elab.async false
set_option linter.all false
set_option maxRecDepth 100000
/-! Gp24: generator expressions: their turns, one next -/
namespace Gp
open PySem PySem.Spec L2
open PyProof.Rows hiding St

/-- one next of a generator expression -/
inductive NX where
  | done (S : Sto)
  | item (y : D) (k i : Nat) (S : Sto)
  | exc (c : Str) (S : Sto)
  | bad
/-- elements that raise nothing -/
def nextN (lk : Look) (t : TN) (c : Option GE) (e : GE) (ρ0 : Ev) : Nat → Nat → Sto → NX
  | 0, _, _ => .bad
  | k + 1, i, S => match lk i S with
    | none => .bad
    | some none => .done S
    | some (some d) => match t d ρ0 with
      | none => .bad
      | some ρ => match tstG c ρ S with
        | .ok (.bl true) S1 => match e ρ S1 with
          | .ok y S2 => .item y k (i + 1) S2
          | _ => .bad
        | .ok (.bl false) S1 => nextN lk t c e ρ0 k (i + 1) S1
        | _ => .bad
/-- elements that may raise one of yes -/
def nextX (yes : List Str) (lk : Look) (t : TN) (c : Option GE) (e : GE) (ρ0 : Ev) : Nat → Nat → Sto → NX
  | 0, _, _ => .bad
  | k + 1, i, S => match lk i S with
    | none => .bad
    | some none => .done S
    | some (some d) => match t d ρ0 with
      | none => .bad
      | some ρ => match tstG c ρ S with
        | .ok (.bl true) S1 => match e ρ S1 with
          | .ok y S2 => .item y k (i + 1) S2
          | .exc x S2 => if x ∈ yes then .exc x S2 else .bad
          | .bad => .bad
        | .ok (.bl false) S1 => nextX yes lk t c e ρ0 k (i + 1) S1
        | _ => .bad
theorem nextX_nil (lk : Look) (t : TN) (c : Option GE) (e : GE) (ρ0 : Ev) : nextX [] lk t c e ρ0 = nextN lk t c e ρ0 := by
  funext k
  induction k with
  | zero => rfl
  | succ k ih =>
    funext i S
    unfold nextX nextN
    rw [ih]
    split <;> try rfl
    split <;> try rfl
    split <;> try rfl
    split <;> simp_all
/-- where it stands behind m items -/
def trcN (f : Nat → Nat → Sto → NX) (k i : Nat) (S : Sto) : Nat → Option (Nat × Nat × Sto)
  | 0 => some (k, i, S)
  | m + 1 => match trcN f k i S m with
    | some (k, i, S) => match f k i S with
      | .item _ k' i' S' => some (k', i', S')
      | _ => none
    | none => none
/-- what a generator is made of -/
structure GP where
  g : G
  X : Cx
  ng : List Str
  fp : List Addr
  s0 : Shared
  H0 : Hp
  μ0 : List Addr
  a : Addr
  gn : Nat
  nx : Nat → Nat → Sto → NX
  k0 : Nat
  i0 : Nat
  S0 : Sto
/-- this exception ends no walk -/
def Nst (g : G) (c : Str) : Prop := ∀ C, g.mg c = some (.ref C) → PySem.W.subIn g.K (.ref C) (.type "StopIteration") = some false
/-- what is told of an exception -/
def GP.EC (p : GP) (c : Str) (S' : Sto) : XK := fun cls d H' => ∃ C μ', p.g.mg c = some (.ref C) ∧ cls = .ref C ∧ d = none ∧ Nst p.g c ∧ Grow p.μ0 p.H0 μ' H' ∧ W p.g μ' H' S'
/-- it flew -/
def GP.Flew (p : GP) (c : Str) (S' : Sto) (e : Value) (s1 : Shared) : Prop := CXf p.X.prog p.X.w p.X.stack p.H0 p.s0 p.fp (p.EC c S') e s1
/-- no exception of it ends a walk -/
def GP.NS (p : GP) : Prop := ∀ c S' e s1, p.Flew c S' e s1 → NotStop (model p.X.prog p.X.w) e s1.heap
/-- a moment at which it does not run; co: the consumer's own objects -/
structure Run (p : GP) (co : List Addr) (S : Sto) (μ : List Addr) (H : Hp) (s : Shared) : Prop where
  os : s.os = p.s0.os
  bare : AllBare s.gens
  un : Un (frs p.X.stack) p.fp p.H0 H p.s0.heap s.heap
  hok : HOk p.X.prog p.X.w H s.heap
  gr : Grow p.μ0 p.H0 μ H
  w : W p.g μ H S
  gen : s.heap.IsGen p.a p.gn
  lim : s.heap.NoLimit
  co : ∀ b ∈ co, H b = none
def GP.T (p : GP) (m : Nat) : Option (Nat × Nat × Sto) := trcN p.nx p.k0 p.i0 p.S0 m
/-- what the consumer does meanwhile -/
structure Wok (co : List Addr) (s s' : Shared) : Prop where
  os : s'.os = s.os
  bare : AllBare s'.gens
  keep : ∀ b o, b ∉ co → s.heap.get? b = some o → s'.heap.get? b = some o
  obj : ∀ b ∈ co, ∃ o, s'.heap.get? b = some o ∧ ∀ v, o.data ≠ .cell v
/-- what the consumer keeps, by how many items it has -/
abbrev CoJ := Nat → List Addr → Hp → Heap → Prop
def CoJ.Mono (J : CoJ) (co : List Addr) : Prop := ∀ m μ H μ' H' h h', J m μ H h → Grow μ H μ' H' → (∀ b ∈ co, ∀ o, h.get? b = some o → h'.get? b = some o) → J m μ' H' h'
def GP.Y (p : GP) (co : List Addr) (J : CoJ) : Protocol := fun n sw v s kap =>
  ∃ m k i S y k' i' S' μ H x, n + 1 + m = p.k0 ∧ p.T m = some (k, i, S) ∧ p.nx k i S = .item y k' i' S' ∧ k' ≤ n ∧ Run p co S' μ H s ∧ Rep p.g H μ y x ∧ RelV x v ∧ (∀ b ∈ co, ∀ o, sw.heap.get? b = some o → s.heap.get? b = some o) ∧ J m μ H s.heap ∧
    ∀ s', Wok co s s' → J (m + 1) μ H s'.heap → p.nx k' i' S' ≠ .bad → kap (.send .none) s'
def GP.R (p : GP) (co : List Addr) (J : CoJ) : Nat → Shared → Shared → Prop := fun n sw s =>
  ∃ m k i S S' μ H, n + m = p.k0 ∧ p.T m = some (k, i, S) ∧ p.nx k i S = .done S' ∧ Run p co S' μ H s ∧ (∀ b ∈ co, ∀ o, sw.heap.get? b = some o → s.heap.get? b = some o) ∧ J m μ H s.heap
/-- what is told of an exception at the m-th next -/
def GP.EX (p : GP) (m : Nat) : XK := fun cls d H' => ∃ k i S c C S' μ', p.T m = some (k, i, S) ∧ p.nx k i S = .exc c S' ∧ p.g.mg c = some (.ref C) ∧ cls = .ref C ∧ d = none ∧ Nst p.g c ∧ Grow p.μ0 p.H0 μ' H' ∧ W p.g μ' H' S'
abbrev GP.RE (p : GP) (co : List Addr) (J : CoJ) : GenEnd := fun n sw r s => (r = .ok .next ∧ p.R co J n sw s) ∨ ∃ e, r = .error e ∧ ∃ m, n + m = p.k0 ∧ CXf p.X.prog p.X.w p.X.stack p.H0 p.s0 p.fp (p.EX m) e s ∧ s.heap.IsGen p.a p.gn
section
variable {X : Cx} {σ : L2.St} {s0 : Shared} {H0 : Hp}
/-- the consumer's objects stand apart from the generator's frame -/
structure Apt (X : Cx) (s0 : Shared) (ce : Env) (a b : Addr) : Prop where
  young : s0.heap.objs.size ≤ b
  loc : b ≠ ce.locals
  cell : ∀ x c, ce.cells.lookup x = some c → c ≠ b
  gen : b ≠ a
  fs : b ∉ frs X.stack
/-- woken again: the consumer's objects may have changed -/
theorem gen_woken {NG : List Str} {A' : Around} {ce : Env} {fp : List Addr} {a : Addr} {go : Obj} {co : List Addr} {pl : List (Addr × Obj)} {σ' : L2.St} {H : Hp} {s s' : Shared} {E : XK} (I : Inv (genX X NG A' s0 H0 ce fp [(a, go)] E) pl σ' H s)
    (hap : ∀ b ∈ co, Apt X s0 ce a b) (hco : ∀ b ∈ co, H b = none) (z : Wok co s s') : Inv (genX X NG A' s0 H0 ce fp [(a, go)] E) (pinsAt co s'.heap) σ' H s' := by
  have I0 : Inv (genX X NG A' s0 H0 ce fp [(a, go)] E) [] σ' H s := I.pins_of fun p hp => by cases hp
  obtain ⟨z1, z2, z3, z4⟩ := z
  obtain ⟨hh, g, d, t, o⟩ := s'
  have ho : o = s.os := z1
  subst ho
  have nt : ∀ b u, H b = some u → b ∉ co := fun b u q hb => by rw [hco b hb] at q; cases q
  have J : Inv (genX X NG A' s0 H0 ce fp [(a, go)] E) [] σ' H { s with heap := hh, gens := g, drawn := d, toks := t } := by
    refine I0.step (g' := g) (t' := t) (d' := d) (ch := co) (fun b hb => ?_)
      (fun b ob _ _ hc q _ => z3 b ob hc q) (fun b ob _ _ hc q _ => ⟨ob.slots, z3 b ob hc q⟩) (fun _ _ _ _ n => n) (fun b ob hc q => ⟨ob, z3 b ob hc q⟩)
      (fun _ _ q => q) (fun _ _ _ q => q) (fun b ps q => ⟨#[], by rw [q]; simp⟩) (fun m hm => ?_) (fun b u q => ?_) z2
    · have ap := hap b hb
      refine ⟨.inr ap.young, ap.loc, ap.cell, fun p hp => ?_⟩
      have e : p = (a, go) := by simpa using hp
      rw [e]; exact Ne.symm ap.gen
    · obtain ⟨ob, es, ep, ho, r⟩ := hm
      exact ⟨ob, es, ep, z3 _ ob (fun hb => (hap _ hb).loc rfl) ho, r⟩
    · refine (I0.hok b u q).stay (fun c v hc y => z3 c v ?_ y) (fun _ y => y) fun _ _ y => y
      rcases hc with y | y
      · rw [y]; exact nt b u q
      · exact nt c _ y
  refine J.pins_of fun p hp => ?_
  obtain ⟨hb, e⟩ := of_pinsAt hp
  have ap := hap _ hb
  obtain ⟨o, eo, nc⟩ := z4 _ hb
  refine ⟨e, hco _ hb, ap.loc, ap.fs, ?_⟩
  have e' : hh.get? p.1 = some p.2 := e
  have eo' : hh.get? p.1 = some o := eo
  rw [e'] at eo'; cases eo'; exact nc
end

/-- the code of its turns, the context that they run in -/
abbrev gcode (elt tg iter : Expr) (ifs : List Expr) (scope : Scope) (pos : Pos) (it : Addr) (ce : Env) : Code := .compLoop (.GeneratorExp elt [⟨tg, iter, ifs, 0⟩] scope pos) 0 (.ref it) .none ce
abbrev GP.GX (p : GP) (A : Around) (cd : Code) (ce : Env) (go : Obj) (E : XK) : Cx := genX p.X p.ng (A.over cd []) p.s0 p.H0 ce p.fp [(p.a, go)] E
theorem wipe_key (τ : L2.St) (vs : List Nat) : ∀ i : Nat, (wipe τ vs)[i]? = if i ∈ vs then (if i < τ.length then some none else none) else τ[i]? := by
  induction vs with
  | nil => intro i; simp [wipe]
  | cons u us ih =>
    intro i
    unfold wipe
    by_cases hi : u = i
    · subst hi
      simp only [List.mem_cons, true_or, if_true]
      by_cases hl : u < τ.length
      · rw [if_pos hl, List.getElem?_set_self (by rw [wipe_length]; exact hl)]
      · rw [if_neg hl, List.getElem?_eq_none (by rw [List.length_set, wipe_length]; omega)]
    · rw [List.getElem?_set_ne hi, ih i]
      have : (i ∈ u :: us) ↔ i ∈ us := by simp [Ne.symm hi]
      simp only [this]
theorem wipe_wipe (σ : L2.St) (vs : List Nat) : wipe (wipe σ vs) vs = wipe σ vs := by
  apply List.ext_getElem?
  intro i
  rw [wipe_key, wipe_key, wipe_length]
  by_cases hi : i ∈ vs <;> simp [hi]
section
variable {p : GP} {co : List Addr} {elt tg iter : Expr} {ifs : List Expr} {scope : Scope} {pos : Pos} {it : Addr} {ce : Env} {go : Obj} {A : Around} {J : It} {tn : Nat → Heap → Prop} {lk : Look} {t : TN} {c : Option GE} {me : GE} {ρ : Ev} {σ : L2.St} {vs : List Nat} {yes : List Str}
theorem thnE {α : Type} {t : Sem α} {Q Q' : α → Shared → Prop} {M : Model} {A : Around} {E E' : Value → Shared → Prop} {s : Shared} (h : wpAny M A t Q E s) (hE : ∀ e s, E e s → E' e s) (hQ : ∀ a s, Q a s → Q' a s) : wpAny M A t Q' E' s := wpAny_mono h hQ hE
theorem gen_run {cd : Code} {pl : List (Addr × Obj)} {σ' : L2.St} {H' : Hp} {s' sw : Shared} {μ' : List Addr} {S' : Sto} {E : XK} (hgo : ∀ h : Heap, h.get? p.a = some go → h.IsGen p.a p.gn) (I' : Inv (p.GX A cd ce go E) (pinsAt co sw.heap ++ pl) σ' H' s') (hsw : ∀ b ∈ co, ∃ o, sw.heap.get? b = some o) (gr : Grow p.μ0 p.H0 μ' H') (w : W p.g μ' H' S') :
    Run p co S' μ' H' s' ∧ ∀ b ∈ co, ∀ o, sw.heap.get? b = some o → s'.heap.get? b = some o := by
  have pin : ∀ b ∈ co, ∀ o, sw.heap.get? b = some o → s'.heap.get? b = some o ∧ H' b = none := fun b hb o e => by
    have z := I'.pin (b, o) (List.mem_append_right _ (List.mem_append_left _ (mem_pinsAt hb e)))
    exact ⟨z.1, z.2.1⟩
  have pa := (I'.pin (p.a, go) (List.mem_append_left _ List.mem_cons_self)).1
  refine ⟨⟨I'.os, I'.bare, I'.base, I'.hok, gr, w, hgo _ pa, I'.nolimit, fun b hb => ?_⟩, fun b hb o e => (pin b hb o e).1⟩
  obtain ⟨o, e⟩ := hsw b hb
  exact (pin b hb o e).2
/-- THE TURNS -/
theorem seg_gen {J' : CoJ} (hJ : J'.Mono co) (hc : p.X.calm = true) (hnx : p.nx = nextX yes lk t c me (wipeG ρ vs)) (hyes : ∀ x ∈ yes, Nst p.g x) (T : Turn p.X.prog p.X.w p.X.K tg J p.fp it tn) (sr : SrcOk p.g J lk p.μ0 p.H0) (he : EnvOk p.g p.H0 p.μ0 ρ σ)
    (hco0 : ce.scope.isCoroutine = false) (hgo : ∀ h : Heap, h.get? p.a = some go → h.IsGen p.a p.gn) (hap : ∀ b ∈ co, Apt p.X p.s0 ce p.a b) (hfp : ∀ b ∈ p.fp, b ≠ p.a ∧ b ∉ co)
    (hg : ∀ E, PG (p.GX A (gcode elt tg iter ifs scope pos it ce) ce go E) tg (fun v σ H Q => ∃ d ρ S μ, EnvOk p.g H μ ρ σ ∧ W p.g μ H S ∧ Rep p.g H μ d v ∧ match t d ρ with
      | some ρ2 => ∀ σ', EnvOk p.g H μ ρ2 σ' → wipe σ' vs = wipe σ vs → Q σ' H
      | none => False))
    (ht : ∀ E, PTs (p.GX A (gcode elt tg iter ifs scope pos it ce) ce go E) ifs (tGTs p.g c))
    (hel : ∀ E, PE (p.GX A (gcode elt tg iter ifs scope pos it ce) ce go E) elt (tG p.g (fun cls d _ H' => E cls d H') me)) :
    ∀ (k n m k1 i1 i : Nat) (S1 S : Sto) (μ : List Addr) (H : Hp) (s sw : Shared), n + m = p.k0 → p.T m = some (k1, i1, S1) → p.nx k1 i1 S1 = p.nx k i S → p.nx k i S ≠ .bad → k ≤ n →
      Inv (p.GX A (gcode elt tg iter ifs scope pos it ce) ce go (p.EX m)) (pinsAt co sw.heap) (wipe σ vs) H s → tn i s.heap → (∀ b ∈ p.fp, H b = none) → Grow p.μ0 p.H0 μ H → W p.g μ H S → (∀ b ∈ co, ∃ o, sw.heap.get? b = some o) → J' m μ H sw.heap →
      Seg (model p.X.prog p.X.w) A (p.RE co J') (p.Y co J') n sw (gcode elt tg iter ifs scope pos it ce) ((model p.X.prog p.X.w).den (gcode elt tg iter ifs scope pos it ce)) [] s := by
  intro k
  induction k using Nat.strongRecOn with
  | ind k ih =>
    intro n m k1 i1 i S1 S μ H s sw hn hT heq hbad hkn I st nfp gr w hsw hj
    obtain ⟨k, rfl⟩ : ∃ k', k = k' + 1 := by
      cases k with
      | zero => exact absurd (by rw [hnx]; rfl) hbad
      | succ k => exact ⟨k, rfl⟩
    have pinfp : ∀ q ∈ (p.a, go) :: pinsAt co sw.heap, q.1 ∉ p.fp := fun q hq hb => by
      rcases List.mem_cons.mp hq with z | z
      · rw [z] at hb; exact (hfp _ hb).1 rfl
      · exact (hfp _ hb).2 (of_pinsAt z).1
    have stat : ∀ {σ' : L2.St} {H' : Hp} {s' : Shared}, Inv (p.GX A (gcode elt tg iter ifs scope pos it ce) ce go (p.EX m)) (pinsAt co sw.heap) σ' H' s' → (∀ b ∈ p.fp, H' b = none) → ∀ b ∈ p.fp, FpOk (p.GX A (gcode elt tg iter ifs scope pos it ce) ce go (p.EX m)) (pinsAt co sw.heap) H' b := fun {σ' H' s'} I' hn b hb =>
      ⟨hn b hb, (I'.ok.exf b hb).1, I'.ok.exfs b hb, .inl hb, fun x c e => (I'.ok.exf b hb).2 x c e, fun q hq' z => pinfp q hq' (by rw [z]; exact hb)⟩
    -- an exception
    have fly : ∀ (e : Value) (s' : Shared), (p.GX A (gcode elt tg iter ifs scope pos it ce) ce go (p.EX m)).xe e s' →
        Seg (model p.X.prog p.X.w) A (p.RE co J') (p.Y co J') n sw (gcode elt tg iter ifs scope pos it ce) ((leaving ce e).bind fun _ => .raise e) [] s' := fun e s' hx => by
      refine seg_bind (m := leaving ce e) (wpAny_mono (show wpAny (model p.X.prog p.X.w) (A.over (gcode elt tg iter ifs scope pos it ce) []) (leaving ce e) (fun _ s'' => CXf p.X.prog p.X.w p.X.stack p.H0 p.s0 p.fp (p.EX m) e s'' ∧ ∀ q ∈ [(p.a, go)], s''.heap.get? q.1 = some q.2) (fun _ _ => False) s' from hx) (fun _ s'' q => ?_) fun _ _ z => z.elim)
      exact seg_end (.error e) (.inr ⟨e, rfl, m, hn, q.1, hgo _ (q.2 (p.a, go) List.mem_cons_self)⟩)
    show Seg _ A _ _ _ sw _ ((compTurn (.GeneratorExp elt [⟨tg, iter, ifs, 0⟩] scope pos) 0 (.ref it) .none ce).onRaise (leaving ce)) [] s
    rw [compTurn_gen, Sem.onRaise_eq_wrap]
    refine seg_bind_wrap (wpAny_standAt ?_)
    cases el : lk i S with
    | none => exact absurd (by rw [hnx]; simp only [nextX, el]) hbad
    | some o =>
      cases o with
      | none =>
        have hd : p.nx (k + 1) i S = .done S := by rw [hnx]; simp only [nextX, el]
        have td := T.done (p.GX A (gcode elt tg iter ifs scope pos it ce) ce go (p.EX m)) rfl rfl rfl hc i _ s _ H (fun _ _ => False) I (stat I nfp) st (sr.stop i μ H S gr w el)
        refine seg_bind_wrap (thnF td fun r s6 ⟨hr, I6⟩ => ?_)
        subst hr
        obtain ⟨q1, q2⟩ := gen_run (pl := []) hgo (by rw [List.append_nil]; exact I6) hsw gr w
        exact seg_end (.ok .next) (.inl ⟨rfl, m, k1, i1, S1, S, μ, H, hn, hT, heq.trans hd, q1, q2, hJ _ _ _ _ _ _ _ hj (Grow.refl _ _) q2⟩)
      | some d =>
        obtain ⟨go1, g2⟩ := sr.go i μ H S d gr w el
        have ti := T.item (p.GX A (gcode elt tg iter ifs scope pos it ce) ce go (p.EX m)) rfl rfl rfl hc i _ s _ H (fun _ _ => False) I (stat I nfp) st go1
        refine seg_bind_wrap (thnF ti fun r s6 ⟨u, hr, h6⟩ => ?_)
        subst hr
        refine seg_bind_wrap (thnF h6 fun _ s7 ⟨x, H7, I7, r7, y7, st7, n7⟩ => ?_)
        obtain ⟨g7, w7, rp7⟩ := g2 x H7 y7
        have gr7 := gr.trans g7
        have I7' := I7.pinned (stat I7 n7) (T.obj _ _ st7)
        cases et : t d (wipeG ρ vs) with
        | none => exact absurd (by rw [hnx]; simp only [nextX, el, et]) hbad
        | some ρ2 =>
        refine seg_bind_wrap (thnE ((hg (p.EX m)).run _ s7 _ H7 x u (fun σ8 H8 => wipe σ8 vs = wipe σ vs ∧ EnvOk p.g H8 μ ρ2 σ8 ∧ H8 = H7) I7' r7 ⟨d, wipeG ρ vs, S, μ, (he.mono gr7).wipe vs, w7, rp7, ?_⟩) fly fun _ s8 ⟨σ8, H8, I8, hw8, e8, eH⟩ => ?_)
        · rw [et]
          exact fun σ' e1 e2 => ⟨e2.trans (wipe_wipe σ vs), e1, rfl⟩
        subst eH
        have fin : ∀ {s' : Shared} {H' : Hp}, Inv (p.GX A (gcode elt tg iter ifs scope pos it ce) ce go (p.EX m)) (pinsAt co sw.heap ++ pinsAt p.fp s7.heap) σ8 H' s' → (∀ pl, Inv (p.GX A (gcode elt tg iter ifs scope pos it ce) ce go (p.EX m)) pl σ8 H' s' → Inv (p.GX A (gcode elt tg iter ifs scope pos it ce) ce go (p.EX m)) pl (wipe σ vs) H' s') ∧ tn (i + 1) s'.heap ∧ ∀ b ∈ p.fp, H' b = none := fun {s' H'} I' => by
          have pin' : ∀ b ∈ p.fp, ∀ o, s7.heap.get? b = some o → s'.heap.get? b = some o ∧ H' b = none := fun b hb o e =>
            let z := I'.pin (b, o) (List.mem_append_right _ (List.mem_append_right _ (mem_pinsAt hb e)))
            ⟨z.1, z.2.1⟩
          have hl : (wipe σ vs).length = σ8.length := by rw [← hw8, wipe_length]
          refine ⟨fun pl I2 => I2.weak hl fun j v e => ?_, T.keep _ _ _ st7 fun b hb o e => (pin' b hb o e).1, fun b hb => ?_⟩
          · rw [← hw8] at e
            exact (wipe_some e).1
          · obtain ⟨o, e, _⟩ := T.obj _ _ st7 b hb
            exact (pin' b hb o e).2
        cases etst : tstG c ρ2 S with
        | bad => exact absurd (by rw [hnx]; simp only [nextX, el, et, etst]) hbad
        | exc cc S3 => exact absurd (by rw [hnx]; simp only [nextX, el, et, etst]) hbad
        | ok bb S3 =>
          cases bb with
          | bl b =>
            refine seg_bind_wrap (thnE ((ht (p.EX m)).run _ s8 σ8 H8 (fun b' H9 => b' = b ∧ ∃ μ9, Grow μ H8 μ9 H9 ∧ W p.g μ9 H9 S3) I8 ⟨ρ2, S, μ, e8, w7, ?_⟩) fly fun b' s9 ⟨H9, I9, eb, μ9, g9, w9⟩ => ?_)
            · rw [etst]
              exact fun v H' μ' a1 a2 a3 => ⟨b, by simpa only [Rep] using a3, rfl, μ', a1, a2⟩
            subst eb
            have gr9 := gr7.trans g9
            cases b' with
            | false =>
              have hs2 : p.nx (k + 1) i S = p.nx k (i + 1) S3 := by rw [hnx]; simp only [nextX, el, et, etst]
              obtain ⟨f1, f2, f3⟩ := fin I9
              simp only [Bool.false_eq_true, if_false]
              exact seg_again rfl (ih k (Nat.lt_succ_self _) n m k1 i1 (i + 1) S1 S3 μ9 H9 s9 sw hn hT (heq.trans hs2) (by rw [← hs2]; exact hbad) (by omega) (f1 _ I9.unpinned) f2 f3 gr9 w9 hsw (hJ _ _ _ _ _ _ _ hj (g7.trans g9) fun _ _ _ e => e))
            | true =>
              simp only [if_true]
              have hy : ∀ v, yieldOut ce v = yieldValue v := fun v => by simp only [yieldOut, hco0, Bool.false_eq_true, if_false]
              simp only [hy]
              rw [Sem.bind_eq_wrap', Sem.bind_eq_wrap', Sem.wrap_wrap, Sem.wrap_wrap]
              cases ee : me ρ2 S3 with
              | bad => exact absurd (by rw [hnx]; simp only [nextX, el, et, etst, ee]) hbad
              | exc cc S4 =>
                by_cases hcy : cc ∈ yes
                · have hs2 : p.nx (k + 1) i S = .exc cc S4 := by rw [hnx]; simp only [nextX, el, et, etst, ee]; rw [if_pos hcy]
                  refine seg_wrap (thnE ((hel (p.EX m)).run _ s9 σ8 H9 (fun v H10 => False) I9 ⟨ρ2, S3, μ9, e8.mono g9, w9, ?_⟩) fly fun yv s10 ⟨xv, H10, I10, r10, z⟩ => z.elim)
                  rw [ee]
                  intro H' μ' a1 a2 C hC
                  exact ⟨k1, i1, S1, cc, C, S4, μ', hT, heq.trans hs2, hC, rfl, rfl, hyes cc hcy, gr9.trans a1, a2⟩
                · exact absurd (by rw [hnx]; simp only [nextX, el, et, etst, ee]; rw [if_neg hcy]) hbad
              | ok y S4 =>
                have hs2 : p.nx (k + 1) i S = .item y k (i + 1) S4 := by rw [hnx]; simp only [nextX, el, et, etst, ee]
                obtain ⟨n, rfl⟩ : ∃ n', n = n' + 1 := ⟨n - 1, by omega⟩
                refine seg_wrap (thnE ((hel (p.EX m)).run _ s9 σ8 H9 (fun v H10 => ∃ μ10, Grow μ9 H9 μ10 H10 ∧ W p.g μ10 H10 S4 ∧ Rep p.g H10 μ10 y v) I9 ⟨ρ2, S3, μ9, e8.mono g9, w9, ?_⟩) fly fun yv s10 ⟨xv, H10, I10, r10, μ10, g10, w10, rp10⟩ => ?_)
                · rw [ee]
                  exact fun v H' μ' a1 a2 a3 => ⟨μ', a1, a2, a3⟩
                have gr10 := gr9.trans g10
                obtain ⟨q1, q2⟩ := gen_run hgo I10 hsw gr10 w10
                obtain ⟨f1, f2, f3⟩ := fin I10
                refine seg_at (seg_yield rfl rfl rfl ⟨m, k1, i1, S1, y, k, i + 1, S4, μ10, H10, xv, by omega, hT, heq.trans hs2, by omega, q1, rp10, r10, q2, hJ _ _ _ _ _ _ _ hj (g7.trans (g9.trans g10)) q2, fun s'' z hj2 hb2 => ?_⟩)
                have hT2 : p.T (m + 1) = some (k, i + 1, S4) := by
                  show trcN p.nx p.k0 p.i0 p.S0 (m + 1) = _
                  have hT' : trcN p.nx p.k0 p.i0 p.S0 m = some (k1, i1, S1) := hT
                  simp only [trcN, hT', heq.trans hs2]
                refine seg_again rfl (ih k (Nat.lt_succ_self _) n (m + 1) k (i + 1) (i + 1) S4 S4 μ10 H10 s'' s'' (by omega) hT2 rfl hb2 (by omega) (gen_xe (gen_woken (f1 _ I10.unpinned) hap q1.co z)) ?_ f3 gr10 w10 (fun b hb => ?_) hj2)
                · exact T.keep _ _ _ f2 fun b hb o e => z.keep b o (hfp b hb).2 e
                · obtain ⟨o, e, _⟩ := z.obj b hb
                  exact ⟨o, e⟩
          | _ => exact absurd (by rw [hnx]; simp only [nextX, el, et, etst]) hbad
end
end Gp

set_option Elab.async false
set_option linter.all false
set_option maxRecDepth 100000
/-! Gp25: generator expressions: made, one next -/
namespace Gp
open PySem PySem.Spec L2
open PyProof.Rows hiding St

section
variable {P : Program} {w : World} {A : Around} {E : Value → Shared → Prop} {s : Shared}
/-- one next; an exception flies on -/
theorem next_genX {a : Addr} {g n : Nat} {gs : GenState} {F : Nat → Shared → Shared → Prop} {Er : Nat → Value → Shared → Prop} {Y : Protocol} {Q : Option Value → Shared → Prop} (hh : A.handled = none)
    (hl : s.heap.NoLimit) (hroom : A.depth < recursionLimit) (hg : s.heap.IsGen a g) (hgs : s.gens[g]? = some gs)
    (hgo : gs.Goes (model P w) A.in1 (fun n s₀ r s₁ => (r = .ok .next ∧ F n s₀ s₁) ∨ ∃ e, r = .error e ∧ Er n e s₁) Y n (.send .none) (s.setGen g .running))
    (hY : ∀ v s₁ gs', gs'.bare = true → Y (n - 1) (s.setGen g .running) v s₁ (fun r' s'' => match n with
        | 0 => False
        | m + 1 => gs'.Goes (model P w) A.in1 (fun n s₀ r s₁ => (r = .ok .next ∧ F n s₀ s₁) ∨ ∃ e, r = .error e ∧ Er n e s₁) Y m r' s'') → Q (some v) (s₁.setGen g gs'))
    (hP : ∀ s₁, F n (s.setGen g .running) s₁ → ∀ h', (∀ b o, s₁.heap.get? b = some o → h'.get? b = some o) → Q none { s₁.setGen g .finished with heap := h' })
    (hE : ∀ e s₁, Er n e s₁ → s₁.heap.IsGen a g ∧ NotStop (model P w) e s₁.heap ∧ E e (s₁.setGen g .finished)) :
    wpAny (model P w) A (pyNext (.ref a)) Q E s := by
  have n0 : gs.Goes (model P w) A.in1 (fun n' s₀ r s₁ => (r = .ok .next ∧ F n' s₀ s₁) ∨ ∃ e, r = .error e ∧ Er n' e s₁) Y n (.send .none) (s.setGen g .running) := hgo
  unfold pyNext
  refine wpAny_bind (wpAny_attempt (wpAny_callSpecial?_slot (name := Str.ofString "__next__") hg.typeIs slot_gen_next
    (wpAny_call_entry slot_gen_next hg.typeIs entry_gen_next ?_ (args_gen_next _))))
  show wpAny _ A.in1 (Builtin.Generator.genWake (.ref a) (.send .none)) _ _ s
  unfold Builtin.Generator.genWake
  refine wpAny_bind (wpAny_holding (wpAny_genNumber hg (wpAny_bind (wpAny_genState hgs ?_))))
  cases gs with
  | running => exact n0.elim
  | finished => exact n0.elim
  | _ =>
    refine wpAny_bind (wpAny_roomToWake hl hroom ?_)
    show wpAny _ A.in1 (.resume g (.send .none) [] _) _ _ s
    refine wpAny_resumeQ hgs n0 (fun x s₁ hx => ?_) (fun v s₁ gs' hb hv => ?_)
    · rcases hx with ⟨rfl, hp⟩ | ⟨e, rfl, he⟩
      · show wpAny _ A.in1 (newExc (.type "StopIteration") [] >>= _) _ _ _
        refine wpAny_bind ?_
        simp only [newExc, newTuple]
        refine wpAny_bind (wpAny_newObj_type ?_ (by size_fits))
        refine wpAny_bind (m := firstArgMember _ _) (wpAny_of_eq (a := Value.none) (by first | rfl | (simp only [firstArgMember]; rfl)) ?_)
        refine wpAny_newObj_type ?_ (by size_fits)
        simp only [raiseNew]
        refine wpAny_bind (wpAny_bind (wpAny_handled ?_))
        first | rw [show A.in1.handled = none from hh] | rw [hh]
        refine wpAny_throw ?_
        refine wpAny_bind (wpAny_isInstance (T := "StopIteration") (b := true) ⟨_, Heap.get?_push_size _ rfl, rfl⟩ isSubtype_stop ?_)
        exact wpAny_pure (hP s₁ hp _ fun b o hb => Heap.get?_push_of_some _ (Heap.get?_push_of_some _ hb))
      · obtain ⟨hg1, hns, hq⟩ := hE e s₁ he
        obtain ⟨o, nm, qn, ho, hc, hd, hsl⟩ := hg1
        show wpAny _ A.in1 (Builtin.Generator.genLeft (.ref a) e) _ _ _
        unfold Builtin.Generator.genLeft Builtin.Generator.madeByALambda
        refine wpAny_bind (wpAny_bind (wpAny_load (o := o) ho (wpAny_pure ?_)))
        refine wpAny_bind (hns _ _ _ _ rfl ?_)
        rw [Bool.and_false, if_neg Bool.false_ne_true]
        unfold Builtin.Generator.genEscaped
        first
          | refine wpAny_bind (hns _ _ _ _ rfl ?_)
          | refine wpAny_bind (wpAny_pure (wpAny_bind (hns _ _ _ _ rfl ?_)))
        rw [if_pos (show (!false) = true from rfl)]
        first
          | refine wpAny_throw ?_
          | refine wpAny_bind (wpAny_throw ?_)
        refine wpAny_bind (hns _ _ _ _ rfl ?_)
        rw [if_neg Bool.false_ne_true]
        exact wpAny_throw hq
    · exact wpAny_pure ⟨v, rfl, wpAny_pure (hY v s₁ gs' hb hv)⟩
end
/-- ready for a next, at its m-th -/
def GP.Rdy (p : GP) (co : List Addr) (J : CoJ) (A : Around) (m k i : Nat) (S : Sto) (s : Shared) : Prop :=
  ∃ n, n + m = p.k0 ∧ p.T m = some (k, i, S) ∧ k ≤ n ∧ p.nx k i S ≠ .bad ∧ s.heap.IsGen p.a p.gn ∧ s.heap.NoLimit ∧ p.NS ∧ ∃ gs, s.gens[p.gn]? = some gs ∧
    gs.Goes (model p.X.prog p.X.w) A (p.RE co J) (p.Y co J) n (.send .none) (s.setGen p.gn .running)
theorem Run.kept {p : GP} {co : List Addr} {S : Sto} {μ : List Addr} {H : Hp} {s : Shared} {h' : Heap} {g' : Array GenState} {d' : Drawn} {t' : Nat} (r : Run p co S μ H s) (k : ∀ b o, s.heap.get? b = some o → h'.get? b = some o) (hb : AllBare g') :
    Run p co S μ H { s with heap := h', gens := g', drawn := d', toks := t' } :=
  ⟨r.os, hb, r.un.trans (Un.kept k), r.hok.kept k, r.gr, r.w, r.gen.keeps k, r.lim.keeps k, r.co⟩
section
variable {p : GP} {co : List Addr} {J : CoJ} {A : Around} {Q : Option Value → Shared → Prop} {E : Value → Shared → Prop} {m k i : Nat} {S : Sto} {s : Shared}
/-- ONE NEXT -/
theorem gp_next (hJ : J.Mono co) (hz : ∀ i S, p.nx 0 i S = .bad) (hh : A.handled = none) (hroom : A.depth < recursionLimit) (hcc : cStatics ∉ co) (hac : p.a ∉ co) (r : p.Rdy co J A.in1 m k i S s)
    (hx : ∀ c S' e s1, p.nx k i S = .exc c S' → p.Flew c S' e s1 → E e s1)
    (hi : ∀ y k' i' S' v x μ H s1, p.nx k i S = .item y k' i' S' → Run p co S' μ H s1 → Rep p.g H μ y x → RelV x v → (∀ b ∈ co, ∀ o, s.heap.get? b = some o → s1.heap.get? b = some o) → J m μ H s1.heap →
      (∀ h' tk, (∀ b o, b ∉ co → s1.heap.get? b = some o → h'.get? b = some o) → (∀ b ∈ co, ∃ o, h'.get? b = some o ∧ ∀ v, o.data ≠ .cell v) → J (m + 1) μ H h' → p.nx k' i' S' ≠ .bad → p.Rdy co J A.in1 (m + 1) k' i' S' { s1 with heap := h', toks := tk }) → Q (some v) s1)
    (hd : ∀ S' μ H s1, p.nx k i S = .done S' → Run p co S' μ H s1 → (∀ b ∈ co, ∀ o, s.heap.get? b = some o → s1.heap.get? b = some o) → J m μ H s1.heap → Q none s1) :
    wpAny (model p.X.prog p.X.w) A (pyNext (.ref p.a)) Q E s := by
  obtain ⟨n, hn, hT, hkn, hnb, hg, hl, hns, gs, hgs, hgo⟩ := r
  have hgl : p.gn < s.gens.size := (Array.getElem?_eq_some_iff.mp hgs).1
  obtain ⟨n, rfl⟩ : ∃ n', n = n' + 1 := by
    cases n with
    | zero =>
      have : k = 0 := by omega
      subst this
      exact absurd (hz i S) hnb
    | succ n => exact ⟨n, rfl⟩
  refine GenW.wpAny_gsz (n := p.gn + 1) hgl (next_genX (Er := fun n e s1 => ∃ m, n + m = p.k0 ∧ CXf p.X.prog p.X.w p.X.stack p.H0 p.s0 p.fp (p.EX m) e s1 ∧ s1.heap.IsGen p.a p.gn) hh hl hroom hg hgs hgo (fun v s₁ gs' hbare hv => ?_) (fun s₁ hp h' hk => ?_) fun e s₁ he => ?_)
  · intro hsz
    have hsz1 : p.gn < s₁.gens.size := by
      have q : (s₁.setGen p.gn gs').gens.size = s₁.gens.size := GenW.setGen_size _ _ _
      have hsz' : p.gn + 1 ≤ (s₁.setGen p.gn gs').gens.size := hsz
      omega
    obtain ⟨m', k1, i1, S1, y, k', i', S', μ, H, x, h1, h2, h3, h4, h5, h6, h7, h8, hj, h9⟩ := hv
    have em : m' = m := by simp only [Nat.add_sub_cancel] at h1; omega
    subst em
    rw [hT] at h2
    cases h2
    have hb2 : AllBare (s₁.setGen p.gn gs').gens := allBare_setGen h5.bare hbare
    refine hi y k' i' S' v x μ H _ h3 (h5.kept (fun b o e => e) hb2) h6 h7 h8 hj fun h' tk k1 k2 j2 nb => ?_
    refine ⟨n, by omega, ?_, by simpa using h4, nb, ?_, ?_, hns, gs', setGen_at hsz1, ?_⟩
    · show trcN p.nx p.k0 p.i0 p.S0 (m' + 1) = _
      have hT' : trcN p.nx p.k0 p.i0 p.S0 m' = some (k, i, S) := hT
      simp only [trcN, hT', h3]
    · obtain ⟨o, nm, qn, ho, rr⟩ := h5.gen
      exact ⟨o, nm, qn, k1 _ o hac ho, rr⟩
    · obtain ⟨mc, hns, hnn⟩ := h5.lim
      exact ⟨mc, hns.at' fun o e => k1 _ o hcc e, hnn⟩
    · exact h9 _ ⟨rfl, allBare_setGen (s := { s₁.setGen p.gn gs' with heap := h', toks := tk }) hb2 rfl, k1, k2⟩ j2 nb
  · intro hsz
    obtain ⟨m', k1, i1, S1, S', μ, H, h1, h2, h3, h4, h5, hj⟩ := hp
    have em : m' = m := by omega
    subst em
    rw [hT] at h2
    cases h2
    exact hd S' μ H _ h3 (h4.kept hk (allBare_setGen h4.bare rfl)) (fun b hb o e => hk b o (h5 b hb o e)) (hJ _ _ _ _ _ _ _ hj (Grow.refl _ _) fun b _ o e => hk b o e)
  · obtain ⟨m', h1, hc, hg1⟩ := he
    have em : m' = m := by omega
    subst em
    have key : ∃ c S', p.nx k i S = .exc c S' ∧ p.Flew c S' e s₁ := by
      obtain ⟨a, B, H', cls, d, rfl, fl, hok, ub, na, os, ag, k1, i1, S1, c, C, S', μ', h2, h3, h4, h5, h6, h7, h8, h9⟩ := hc
      rw [hT] at h2
      cases h2
      exact ⟨c, S', h3, a, B, H', cls, d, rfl, fl, hok, ub, na, os, ag, C, μ', h4, h5, h6, h7, h8, h9⟩
    obtain ⟨c, S', h3, hf⟩ := key
    exact ⟨hg1, hns c S' e s₁ hf, fun _ => hx c S' e _ h3 (CXf.gens rfl hf)⟩
end
end Gp

set_option Elab.async false
set_option linter.all false
set_option maxRecDepth 100000
set_option maxHeartbeats 1000000
/-! Gp26: generator expressions: made -/
namespace Gp
open PySem PySem.Spec L2
open PyProof.Rows hiding St

/-- a generator expression's scope -/
structure GenS (scope : Scope) : Prop where
  kind : scope.kind = .function
  co : scope.isCoroutine = false
  gen : scope.isGenerator = true
  dot : scope.names.lookup (".0" : Str) = some NameKind.local
def genSB (scope : Scope) : Bool := decide (scope.kind = .function) && !scope.isCoroutine && scope.isGenerator && decide (scope.names.lookup (".0" : Str) = some NameKind.local)
theorem genS_by {scope : Scope} (h : genSB scope = true) : GenS scope := by
  unfold genSB at h
  simp only [Bool.and_eq_true, Bool.not_eq_true', decide_eq_true_eq] at h
  obtain ⟨⟨⟨h1, h2⟩, h3⟩, h5⟩ := h
  exact ⟨h1, h2, h3, h5⟩
section
variable {g : G} {N : List Str} {sc : Scope} {L L' : Nat} {Wx : WX} {X : Cx}
theorem CtxOk.gen (C : CtxOk g N sc L Wx X) {NG : List Str} {scope : Scope} (hg : scope.isGenerator = true) {A' : Around} {s : Shared} {H : Hp} {ce : Env} {fp : List Addr} {pn : List (Addr × Obj)} {E : XK} (hf : ce.frame = some ce.locals) (hs : ce.scope = scope) (hr : Room L' A') (hng : ∀ e ∈ g.cods, e.1 ∉ NG)
    (hgc : ("." : Str) ∈ NG → GenCode g (genX X NG A' s H ce fp pn E)) :
    CtxOk g NG scope L' (fun cls d _ H' => E cls d H') (genX X NG A' s H ce fp pn E) where
  prog := C.prog
  wd := C.wd
  K := C.K
  mg := C.mg
  base := C.base
  N := rfl
  sc := hs
  calm := C.calm
  tk := takes_gen hf
  room := hr
  pass := owns_gen
  cd := fun _ e he hm => absurd hm (hng e he)
  gc := fun _ z => hgc z
  lc := fun _ z => by
    have z' : isDef ce.scope = true := z
    rw [hs] at z'
    unfold isDef at z'
    rw [hg] at z'
    cases z'
/-- exceptions or not: the tests' reading -/
theorem CtxOk.never (C : CtxOk g N sc L Wx X) : CtxOk g N sc L noX X :=
  ⟨C.prog, C.wd, C.K, C.mg, C.base, C.N, C.sc, C.calm, fun u s' x => by obtain ⟨_, _, _, _, _, _, _, _, _, _, _, _, _, _, _, _, w⟩ := x; exact w.elim, C.room, C.pass, C.cd, C.gc, C.lc⟩
theorem room_gen {A : Around} {elt tg iter : Expr} {ifs : List Expr} {scope : Scope} {pos : Pos} {it : Addr} {ce : Env} (r : Room (L' + 1) A) : Room L' (A.over (gcode elt tg iter ifs scope pos it ce) []) := by
  refine ⟨r.hd, ?_, ?_⟩
  · have := r.dp
    show A.depth + 0 + 1 + 3 * L' + 5 < _
    omega
  · have := r.un
    show A.units + 0 + 3 + 16 * L' + 200 < _
    omega
/-- a table is written: the new code object at c, with a table of its own, is known from now on; all else is kept -/
theorem inv_table {pins : List (Addr × Obj)} {σ : L2.St} {H : Hp} {s : Shared} {P c P2 : Addr} {ps more : Array Value} {h' : Heap} {t' : Nat} (I : Inv X pins σ H s) (hP : H P = some (.tbl ps)) (k : ∀ b o, b ≠ P → s.heap.get? b = some o → h'.get? b = some o)
    (hm : h'.get? P = some { cls := .none, data := .fields (ps ++ more) }) (hc : s.heap.objs.size ≤ c) (hc2 : s.heap.objs.size ≤ P2) (hcd : PySem.W.CodeHd h' c P2) (hP2 : h'.get? P2 = some { cls := .none, data := .fields #[] }) :
    Inv X pins σ (upd (upd (upd H P (.tbl (ps ++ more))) P2 (.tbl #[])) c (.ext fun h => PySem.W.CodeHd h c P2)) { s with heap := h', toks := t' } := by
  have nC : H c = none := I.hok.fresh hc
  have nC2 : H P2 = none := I.hok.fresh hc2
  have nPc : P ≠ c := ne_of_none hP nC
  have nP2 : P ≠ P2 := ne_of_none hP nC2
  have ncP : c ≠ P2 := by obtain ⟨_, _, _, _, _, _, _, _, _, _, _, _, _, _, _, _, _, _, z⟩ := hcd; exact z
  have at_ : ∀ b, b ≠ P → b ≠ c → b ≠ P2 → upd (upd (upd H P (.tbl (ps ++ more))) P2 (.tbl #[])) c (.ext fun h => PySem.W.CodeHd h c P2) b = H b := fun b h1 h2 h3 => by rw [upd_ne h2, upd_ne h3, upd_ne h1]
  have atP : upd (upd (upd H P (.tbl (ps ++ more))) P2 (.tbl #[])) c (.ext fun h => PySem.W.CodeHd h c P2) P = some (.tbl (ps ++ more)) := by rw [upd_ne nPc, upd_ne nP2, upd_same]
  have atP2 : upd (upd (upd H P (.tbl (ps ++ more))) P2 (.tbl #[])) c (.ext fun h => PySem.W.CodeHd h c P2) P2 = some (.tbl #[]) := by rw [upd_ne (Ne.symm ncP), upd_same]
  have nP : ∀ b u, H b = some u → (∀ q, u ≠ .tbl q) → b ≠ P := fun b u e q z => by
    rw [z, hP] at e
    exact q ps (Option.some.inj e).symm
  have nN : ∀ b, H b = none → b ≠ P := fun b e z => by
    rw [z, hP] at e
    cases e
  have lt' : ∀ b o, s.heap.get? b = some o → b ≠ c ∧ b ≠ P2 := fun b o e => ⟨fun z => by
    rw [z] at e
    exact Nat.lt_irrefl _ (Nat.lt_of_lt_of_le (Heap.lt_size e) hc), fun z => by
    rw [z] at e
    exact Nat.lt_irrefl _ (Nat.lt_of_lt_of_le (Heap.lt_size e) hc2)⟩
  have sm : ∀ b u, H b = some u → b ≠ c ∧ b ≠ P2 := fun b u e => ⟨ne_of_none e nC, ne_of_none e nC2⟩
  refine I.step (g' := s.gens) (d' := s.drawn) (ch := []) (fun b hb => absurd hb (by simp)) (fun b o _ _ _ e n => k b o (nN b n) e) (fun b o _ _ _ e n => ⟨o.slots, k b o (nN b n) e⟩)
    (fun b o _ e n => by rw [at_ b (nN b n) (lt' b o e).1 (lt' b o e).2]; exact n) (fun b o _ e => ?_) (fun b xs e => by rw [at_ b (nP b _ e (fun q z => by cases z)) (sm b _ e).1 (sm b _ e).2]; exact e) (fun b o u e => by rw [at_ b (nP b _ e (fun q z => by cases z)) (sm b _ e).1 (sm b _ e).2]; exact e) (fun b qs e => ?_) (fun m hn => ?_) (fun b u e => ?_) I.bare
  · by_cases hb : b = P
    · rw [hb]
      exact ⟨_, hm⟩
    · exact ⟨o, k b o hb e⟩
  · by_cases hb : b = P
    · rw [hb, hP] at e
      cases e
      rw [hb, atP]
      exact ⟨more, rfl⟩
    · rw [at_ b hb (sm b _ e).1 (sm b _ e).2, e]
      exact ⟨#[], by simp⟩
  · obtain ⟨ob, es, ep, ho, r⟩ := hn
    exact ⟨ob, es, ep, k _ ob (nN _ I.free) ho, r⟩
  · by_cases hb : b = c
    · rw [hb, upd_same] at e
      cases e
      rw [hb]
      refine ⟨hcd, ?_, fun h1 h2 ⟨o, vs, file, tf, flags, tg, inF, text, tt, e1, z⟩ st => ⟨o, vs, file, tf, flags, tg, inF, text, tt, st _ e1, z⟩⟩
      obtain ⟨o, _, _, _, _, _, _, _, _, e1, _⟩ := hcd
      exact ⟨o, e1⟩
    · by_cases hb3 : b = P2
      · rw [hb3, atP2] at e
        cases e
        rw [hb3]
        exact hP2
      · by_cases hb2 : b = P
        · rw [hb2, atP] at e
          cases e
          rw [hb2]
          exact hm
        · rw [at_ b hb2 hb hb3] at e
          refine (I.hok b u e).stay (fun d v hd q => k d v ?_ q) (fun d q => by rw [at_ d (nP d _ q (fun q z => by cases z)) (sm d _ q).1 (sm d _ q).2]; exact q) fun d xs q => by rw [at_ d (nP d _ q (fun q z => by cases z)) (sm d _ q).1 (sm d _ q).2]; exact q
          rcases hd with z | z
          · rw [z]
            exact hb2
          · exact nP d _ z (fun q z => by cases z)
/-- the tables behind that -/
theorem tabsA_step {T : TbT} {H H1 : Hp} {P : Addr} {ps more : Array Value} (TA : TabsA T H) (ht : TriplesOk ps.toList) (ht2 : TriplesOk (ps ++ more).toList) (hP : H P = some (.tbl ps)) (h1 : H1 P = some (.tbl (ps ++ more))) (hk : ∀ b o, b ≠ P → H b = some o → H1 b = some o)
    (hn : ∀ p ∈ T, p.1 = P → ∀ (pos : Pos) cv, codeAmong pos (ps ++ more).toList = some cv → codeAmong pos ps.toList = some cv ∨ EntOk T H1 p.2.1 (p.2.2 pos.line pos.col) cv) : TabsA T H1 := by
  have hE : ∀ q lam cv, EntOk T H q lam cv → EntOk T H1 q lam cv := fun q lam cv h => by
    cases lam with
    | true =>
      obtain ⟨c, e1, e2⟩ := h
      exact ⟨c, e1, hk _ _ (fun z => by rw [z, hP] at e2; cases e2) e2⟩
    | false =>
      obtain ⟨c, P', e1, e2, e3, ps', e4, e5⟩ := h
      refine ⟨c, P', e1, hk _ _ (fun z => by rw [z, hP] at e2; cases e2) e2, e3, ?_⟩
      by_cases z : P' = P
      · rw [z]; exact ⟨_, h1, ht2⟩
      · exact ⟨_, hk _ _ z e4, e5⟩
  intro p hp
  obtain ⟨ps', a1, a2, a3⟩ := TA p hp
  by_cases hb : p.1 = P
  · rw [hb, hP] at a1
    cases a1
    refine ⟨_, by rw [hb]; exact h1, ht2, fun pos cv hcv => ?_⟩
    rcases hn p hp hb pos cv hcv with z | z
    · exact hE _ _ _ (a3 pos cv z)
    · exact z
  · exact ⟨ps', hk _ _ hb a1, a2, fun pos cv hcv => hE _ _ _ (a3 pos cv hcv)⟩
/-- the table's step: the expression's code object, new or found -/
theorem gen_code {pins : List (Addr × Obj)} {σ : L2.St} {H : Hp} {s : Shared} {T : TbT} {c P : Addr} {ps : Array Value} {q : Str} {gpos : Pos} {scope : Scope} {E : Value → Shared → Prop} {Q : Value → Shared → Prop} (I : Inv X pins σ H s)
    (hcode : X.env.code = .ref c) (cd : PySem.W.CodeHd s.heap c P) (hP : H P = some (.tbl ps)) (ht : TriplesOk ps.toList) (TA : TabsA T H) (hk : ∀ p ∈ T, p.1 = P → p.2.2 gpos.line gpos.col = false)
    (h : ∀ code H1 s1, Inv X pins σ H1 s1 → LamX.ExtN H H1 → TabsA T H1 → (∃ ps1, H1 P = some (.tbl ps1) ∧ TriplesOk ps1.toList ∧ codeAmong gpos ps1.toList = some code) → (∀ b o, b ≠ P → s.heap.get? b = some o → s1.heap.get? b = some o) → (∀ b o, s.heap.get? b = some o → H b = none → H1 b = none) → P < s.heap.objs.size → s1.os = s.os → Q code s1) :
    wpAny (model X.prog X.w) X.A (genexprCode X.env gpos q scope) Q E s := by
  have hP' : s.heap.get? P = some { cls := .none, data := .fields ps } := I.hok P _ hP
  cases hc : codeAmong gpos ps.toList with
  | none =>
    refine wpAny_genexprCodeX hcode (cd.code hP' ht) (cd.tab hP') hc fun c' h' tk hx hge hlt hco' hrec htab' hsub => ?_
    obtain ⟨P2, hge2, hcode2, htab2⟩ := hsub
    have nC : H c' = none := I.hok.fresh hge
    have nC2 : H P2 = none := I.hok.fresh hge2
    have ncd : PySem.W.CodeHd h' c' P2 := .of hcode2 htab2
    have ncP : c' ≠ P2 := by obtain ⟨_, _, _, _, _, _, _, _, _, _, _, _, _, _, _, _, _, _, z⟩ := ncd; exact z
    have I1 := inv_table (t' := tk) (more := #[rawInt gpos.line, rawInt gpos.col, .ref c']) (h' := h') I hP (fun b o hb e => hx b o hb e) htab'.2 hge hge2 ncd htab2.2
    generalize hH1 : upd (upd (upd H P (.tbl (ps ++ #[rawInt gpos.line, rawInt gpos.col, .ref c']))) P2 (.tbl #[])) c' (.ext fun h => PySem.W.CodeHd h c' P2) = H1 at I1
    have hk1 : ∀ b o, b ≠ P → H b = some o → H1 b = some o := fun b o n e => by rw [← hH1, upd_ne (ne_of_none e nC), upd_ne (ne_of_none e nC2), upd_ne n]; exact e
    have h1P : H1 P = some (.tbl (ps ++ #[rawInt gpos.line, rawInt gpos.col, .ref c'])) := by rw [← hH1, upd_ne (ne_of_none hP nC), upd_ne (ne_of_none hP nC2), upd_same]
    have eL : (ps ++ #[rawInt gpos.line, rawInt gpos.col, .ref c']).toList = ps.toList ++ [rawInt gpos.line, rawInt gpos.col, .ref c'] := by simp
    have ht2 : TriplesOk (ps ++ #[rawInt gpos.line, rawInt gpos.col, .ref c']).toList := by rw [eL]; exact PySem.TriplesOk_snoc _ _ _ _ ht
    refine h (.ref c') _ _ I1 (fun b o e n => hk1 b o (fun z => n ps (Option.some.inj (e.symm.trans (by rw [z]; exact hP)))) e) ?_ ⟨_, h1P, ht2, by rw [eL]; exact codeAmong_snoc _ ht hc⟩ (fun b o hb e => hx b o hb e) (fun b o e n => ?_) (Heap.lt_size hP') rfl
    · refine tabsA_step TA ht ht2 hP h1P hk1 fun p hp hpP pos cv hcv => ?_
      rw [eL] at hcv
      rcases among_app _ ht hcv with z | ⟨z, z1, z2⟩
      · exact .inl z
      · refine .inr ?_
        rw [← z1, ← z2, hk p hp hpP]
        refine ⟨c', P2, z, by rw [← hH1, upd_same], fun p' hp' z => ?_, #[], by rw [← hH1, upd_ne (Ne.symm ncP), upd_same], True.intro⟩
        obtain ⟨ps', a1, _⟩ := TA p' hp'
        rw [z, nC2] at a1
        cases a1
    · have n1 : b ≠ P := fun z => by rw [z, hP] at n; cases n
      rw [← hH1, upd_ne (Nat.ne_of_lt (Nat.lt_of_lt_of_le (Heap.lt_size e) hge)), upd_ne (Nat.ne_of_lt (Nat.lt_of_lt_of_le (Heap.lt_size e) hge2)), upd_ne n1]
      exact n
  | some cv =>
    refine wpAny_genexprCode_hit hcode (cd.code hP' ht) hc ?_
    exact h cv H s I (LamX.ExtN.refl H) TA ⟨ps, hP, ht, hc⟩ (fun b o _ e => e) (fun _ _ _ n => n) (Heap.lt_size hP') rfl
end
section
variable {g : G} {N : List Str} {sc : Scope} {L L' : Nat} {Wx : WX} {X : Cx} {elt tg iter : Expr} {ifs : List Expr} {scope : Scope} {gpos : Pos} {wi : TI} {t : TN} {cc : Option GE} {me : GE} {own : List (Str × Nat)}
/-- what is known when it has been made -/
structure Made (p : GP) (L' : Nat) (pins : List (Addr × Obj)) (σ : L2.St) (s5 : Shared) : Prop where
  run : Run p [] p.S0 p.μ0 p.H0 s5
  lt : p.a < s5.heap.objs.size
  fpl : ∀ b ∈ p.fp, b < s5.heap.objs.size
  inv : ∀ co S μ' H' s', Run p co S μ' H' s' → Inv p.X pins σ H' s'
  exc : ∀ c S' e s1, p.Flew c S' e s1 → XE p.X (fun cls d σ' H' => σ' = σ ∧ p.EC c S' cls d H') e s1
  rdy : ∀ (A : Around) (co : List Addr) (J : CoJ) (h2 : Heap) (t2 : Nat), Room (L' + 1) A → A.frames = some p.X.stack → (∀ b ∈ co, s5.heap.objs.size ≤ b ∧ ∃ o, h2.get? b = some o ∧ ∀ v, o.data ≠ .cell v) →
    (∀ b o, s5.heap.get? b = some o → h2.get? b = some o) → p.nx p.k0 p.i0 p.S0 ≠ .bad → J.Mono co → J 0 p.μ0 p.H0 h2 → p.Rdy co J A 0 p.k0 p.i0 p.S0 { s5 with heap := h2, toks := t2 }
/-- where the code object of the text around stands, and its table -/
structure GSrc (g : G) (N : List Str) (sc : Scope) (gpos : Pos) : Prop where
  bm : ∃ c P, LamX.TabB g.base g.mg c P
  ex : (∃ (T : TbT) (mk q : Str) (c P : Addr) (kd : Nat → Nat → Bool), mk ∈ N ∧ (mk, q, c, P) ∈ g.cods ∧ lamLike sc = false ∧ LamX.TabB g.base g.mg c P ∧ TbOk g T ∧ (P, q, kd) ∈ T ∧ (∀ p ∈ T, p.1 = P → p.2 = (q, kd)) ∧ kd gpos.line gpos.col = false) ∨
    (sc.isGenerator = true ∧ ("." : Str) ∈ N)
theorem src_code (C : CtxOk g N sc L Wx X) {gpos : Pos} (GC : GSrc g N sc gpos) {pins : List (Addr × Obj)} {σ : L2.St} {H : Hp} {s : Shared} {μ : List Addr} {S : Sto} (I : Inv X pins σ H s) (w : W g μ H S) :
    ∃ (T : TbT) (c P : Addr) (ps : Array Value), TbOk g T ∧ X.env.code = .ref c ∧ PySem.W.CodeHd s.heap c P ∧ H P = some (.tbl ps) ∧ TriplesOk ps.toList ∧ (∀ p ∈ T, p.1 = P → p.2.2 gpos.line gpos.col = false) ∧ (sc.isGenerator = false → ∃ p ∈ T, p.1 = P) := by
  rcases GC.ex with ⟨T, mk, q, c, P, kd, h1, h2, h3, h4, h5, h6, h7, h8⟩ | ⟨h1, h2⟩
  · have hcq : X.env.qual = q ∧ X.env.code = .ref c := C.cd (by rw [C.sc]; exact h3) _ h2 (by rw [C.N]; exact h1)
    obtain ⟨ps, e1, e2, _⟩ := (h5 H).mp w.tb _ h6
    have TBX : LamX.TabB X.base X.mg c P := by rw [C.base, C.mg]; exact h4
    refine ⟨T, c, P, ps, h5, hcq.2, TBX.code.keeps I.bk, e1, e2, fun p hp e => ?_, fun _ => ⟨_, h6, rfl⟩⟩
    rw [h7 p hp e]; exact h8
  · obtain ⟨T, p, ps, pos, c, e1, e2, e3, e4, e5, e6, e7⟩ := C.gc (by rw [C.sc]; exact h1) (by rw [C.N]; exact h2)
    obtain ⟨more, e8⟩ := I.base.tbls _ _ e7
    obtain ⟨ps2, a1, a2, a3⟩ := (e2 H).mp w.tb _ e3
    rw [e8] at a1
    cases a1
    have a4 := a3 pos (.ref c) (by rw [Array.toList_append]; exact among_mono _ _ e5 e6)
    rw [e4] at a4
    obtain ⟨c1, P1, b1, b2, b3, ps', b4, b5⟩ := a4
    cases b1
    exact ⟨T, c, P1, ps', e2, e1, (I.hok c _ b2).1, b4, b5, fun p hp z => absurd z (b3 p hp), fun z => by rw [h1] at z; cases z⟩
theorem gen_make (C : CtxOk g N sc L Wx X) {NG : List Str} (hN : NG.Nodup) (ng : NgOk N NG scope) (hng : ∀ e ∈ g.cods, e.1 ∉ NG) (hlev : ("." : Str) ∈ NG → sc.isGenerator = false) (GC : GSrc g N sc gpos)
    (GS : GenS scope) (ok : BlkOk NG sc scope own) (okN : BlkOk N sc scope own) (hi : PI X tg iter wi) {yes : List Str} (hy : ∀ x ∈ yes, Nst g x)
    (hg : RealN g NG scope L' (fun x => scope.names.lookup x == some .cell) (own.map (·.2)) tg t) (ht : RealIfs g NG scope L' ifs cc) (hel : Real g NG scope L' elt me) (hs : ∀ v, genFold iter X.env v = pure v)
    {pins : List (Addr × Obj)} {σ : L2.St} {H : Hp} {s : Shared} {n0 : Nat} {Z : Look → Sto → List Addr → Hp → Ev → Prop} {Q' : Value → Shared → Prop} (I : Inv X pins σ H s)
    (h : wi σ H fun J H1 => ∃ lk S1 μ1 ρ, EnvOk g H1 μ1 ρ σ ∧ W g μ1 H1 S1 ∧ SrcOk g J lk μ1 H1 ∧ Z lk S1 μ1 H1 ρ)
    (hQ : ∀ lk S1 μ1 H1 ρ fp s4 H4 a gn s5, Z lk S1 μ1 H1 ρ → Grow μ1 H1 μ1 H4 → Made ⟨g, X, NG, fp, s4, H4, μ1, a, gn, nextX yes lk t cc me (wipeG ρ (own.map (·.2))), n0, 0, S1⟩ L' pins σ s5 → Q' (.ref a) s5) :
    wpAny (model X.prog X.w) X.A (eval (.GeneratorExp elt [⟨tg, iter, ifs, 0⟩] scope gpos) X.env) Q' X.xe s := by
  have hfree : ∀ y ∈ scope.names, y.2 = .free → ∃ c, X.env.cells.lookup y.1 = some c := fun y hy e => by
    rcases ok.free y hy e with k | k
    · exact I.ok.has _ (.inl (by show X.env.scope.names.lookup _ = _; rw [C.sc]; exact k))
    · exact I.ok.has _ (.inr (by show X.env.scope.names.lookup _ = _; rw [C.sc]; exact k))
  refine wpAny_GeneratorExp_makeC GS.co (closure_ok hfree) GS.dot GS.kind (by have := C.room.dp; omega) ?_ hs
  refine thn (hi.run pins s σ H _ I h) fun xv s1 hx => thn hx fun itv s2 h2 => ?_
  obtain ⟨it, fp, tn, J, H2, e, I2, Tn, st2, f2, lk, S1, μ1, ρ, he, w, sr, z⟩ := h2
  subst e
  refine ⟨I2.nolimit, ?_⟩
  obtain ⟨T, c, P, ps, hT, hcode, hcd0, hP0, ht0, hk0, hst0⟩ := src_code C GC I2 w
  refine gen_code I2 hcode hcd0 hP0 ht0 ((hT H2).mp w.tb) hk0 fun code H4 s4 I4 eN T4 hps1 kp hn hPl hos => ?_
  have sz : ∀ b ∈ fp, b < s2.heap.objs.size := fun b hb => by
    obtain ⟨o, e, _⟩ := Tn.obj _ _ st2 b hb
    exact Heap.lt_size e
  have hP2 : ∃ ps, H2 P = some (.tbl ps) := ⟨ps, hP0⟩
  have kfp : ∀ b ∈ fp, ∀ o, s2.heap.get? b = some o → s4.heap.get? b = some o := fun b hb o e => kp b o (fun z => by
    obtain ⟨ps, hP⟩ := hP2
    have := (f2 b hb).1
    rw [z, hP] at this; cases this) e
  have f4 : ∀ b ∈ fp, FpOk X pins H4 b ∧ b < s4.heap.objs.size := fun b hb => by
    obtain ⟨o, e, _⟩ := Tn.obj _ _ st2 b hb
    exact ⟨⟨hn b o e (f2 b hb).1, (f2 b hb).2⟩, Heap.lt_size (kfp b hb o e)⟩
  have st4 : tn 0 s4.heap := Tn.keep _ _ _ st2 fun b hb o e => kfp b hb o e
  have gr4 : Grow μ1 H2 μ1 H4 := grow_ext eN
  have w4 : W g μ1 H4 S1 := w.ext eN ((hT H4).mpr T4)
  have he4 := he.mono gr4
  have sr4 : SrcOk g J lk μ1 H4 := ⟨fun i μ H S gr w el => sr.stop i μ H S (gr4.trans gr) w el, fun i μ H S d gr w el => sr.go i μ H S d (gr4.trans gr) w el⟩
  -- the built-ins
  obtain ⟨c0, P0, TB0⟩ := GC.bm
  have TBX : LamX.TabB X.base X.mg c0 P0 := by rw [C.base, C.mg]; exact TB0
  obtain ⟨bm, ob, e1, e2, e3, e4, e5, e6, e7, e8⟩ := TBX.bm
  refine wpAny_builtinsFor (m := X.mg) (by rw [I4.ok.glob]; exact I4.mod.glob.keeps I4.bk) e1 e2 (I4.bk _ _ e5) e6 e7 e8 ?_
  intro h' tk hn' hs'
  have gcl := gcl_of (h' := h') I4 (by rw [C.N, C.sc]; exact okN) (o := { cls := .type "frame", data := .dict #[] }) fun b o' hb e => hs'.extBut b o' hb e
  have hsz : s4.heap.objs.size + 1 ≤ h'.objs.size := by
    rw [hs'.1, ← Heap.size_push s4.heap { cls := .type "frame", data := .dict #[] }]
    exact pushCells_size _ _
  have keep' : ∀ b o, s4.heap.get? b = some o → h'.get? b = some o := fun b o e => hs'.extBut b o (Nat.ne_of_lt (Heap.lt_size e)) (pushCells_keeps _ _ _ _ (Heap.get?_push_of_some _ e))
  generalize hcl0 : cellsFrom (s4.heap.objs.size + 1) scope.names (cloFrom X.env.cells scope.names []) = cl at gcl ⊢
  generalize hgo : ({ cls := .type "generator", data := .fields #[.int s4.gens.size 0, .str "<genexpr>" tk, .str (X.env.qual ++ "<genexpr>") (tk + 1)] } : Obj) = go
  have gcls : go.cls = .type "generator" := by subst hgo; rfl
  have gdat : ∃ nm qn, go.data = .fields #[.int s4.gens.size 0, nm, qn] := by subst hgo; exact ⟨_, _, rfl⟩
  have gslt : go.slots = #[] := by subst hgo; rfl
  have gis : ∀ h : Heap, h.get? h'.objs.size = some go → h.IsGen h'.objs.size s4.gens.size := fun h e => by
    obtain ⟨nm, qn, gd⟩ := gdat
    exact ⟨go, nm, qn, e, gcls, gd, gslt⟩
  have gnc : ∀ v, go.data ≠ .cell v := fun v z => by
    obtain ⟨nm, qn, gd⟩ := gdat
    rw [gd] at z; cases z
  have gat : (h'.push go).get? h'.objs.size = some go := by subst hgo; exact Heap.get?_push_size _ rfl
  have keep5 : ∀ b o, s4.heap.get? b = some o → (h'.push go).get? b = some o := fun b o e => Heap.get?_push_of_some _ (keep' b o e)
  have hg' : genEnv scope cl s4.heap.objs.size code builtinsNs X.env = genEnv scope cl s4.heap.objs.size code X.env.builtins X.env := by rw [I4.ok.blt]
  refine hQ lk S1 μ1 H2 ρ fp s4 H4 h'.objs.size s4.gens.size _ z gr4 ?_
  rw [hg']
  generalize hce : genEnv scope cl s4.heap.objs.size code X.env.builtins X.env = ce
  have bare5 : AllBare (s4.gens.push (.fresh (.compStart (.GeneratorExp elt [⟨tg, iter, ifs, 0⟩] scope gpos) 0 (.ref it) .none ce))) := AllBare.push I4.bare rfl
  have nfs : ∀ b, s4.heap.objs.size ≤ b → b ∉ frs X.stack := fun b hb z => by
    rcases List.mem_cons.mp (I4.stkSub b z) with z | z
    · have h1 := I4.lt
      rw [← z] at h1
      exact Nat.lt_irrefl _ (Nat.lt_of_lt_of_le h1 hb)
    · exact I4.nofs hb z
  refine ⟨⟨rfl, bare5, Un.kept keep5, I4.hok.kept keep5, Grow.refl _ _, w4, gis _ gat, I4.nolimit.keeps keep5, fun b hb => by cases hb⟩, by show h'.objs.size < (h'.push go).objs.size; rw [Heap.size_push]; exact Nat.lt_succ_self _, fun b hb => (by show b < (h'.push go).objs.size; rw [Heap.size_push]; exact Nat.lt_succ_of_lt (Nat.lt_of_lt_of_le (f4 b hb).2 (Nat.le_of_succ_le hsz))), fun co S μ' H' s' r => ?_, fun c S' e s1 hf => ?_, ?_⟩
  · exact I4.call' (ch := fp) r.os r.un r.hok r.bare fun b hb => ⟨(f4 b hb).1.2.2.2.1, (f4 b hb).1.2.1, (f4 b hb).1.2.2.2.2.1, (f4 b hb).1.2.2.2.2.2⟩
  · exact XE.of_gen I4 (fun b hb => (f4 b hb).1) (fun cls d H' h => ⟨rfl, h⟩) hf
  have hNS : GP.NS ⟨g, X, NG, fp, s4, H4, μ1, h'.objs.size, s4.gens.size, nextX yes lk t cc me (wipeG ρ (own.map (·.2))), n0, 0, S1⟩ := fun c S' e s1 hf => by
    obtain ⟨a, B, H', cls, d, rfl, fl, hok, ub, na, os, ag, C1, μ', h4, h5, h6, h7, h8, h9⟩ := hf
    obtain ⟨oe, vs, he1, hz, hd⟩ := fl.there
    have kin : X.K.In s1.heap := I4.ok.mod.kin.keeps fun b o e => by
      obtain ⟨k1, k2⟩ := I4.bs b o e
      refine fl.1 b o (ub.keep b o k1 k2 (fun hm => ?_) fun hm => ?_)
      · have z := (I4.stack.mem hm).1
        rw [e] at z; cases z
      · rcases (f4 b hm).1.2.2.2.1 with z | z
        · exact I4.ok.noex b o e z
        · exact absurd (Nat.lt_of_lt_of_le (Heap.lt_size e) (Nat.le_trans I4.ok.bsz z)) (Nat.lt_irrefl _)
    have hsub : PySem.W.subIn X.K cls (.type "StopIteration") = some false := by
      rw [h5, C.K]; exact h7 C1 h4
    have Lk := PySem.W.looks_subIn (M := model X.prog X.w) kin hsub
    intro A Q E' s2 hs hq
    simp only [isInstance]
    refine wpAny_bind (wpAny_typeOf_ref (o := oe) (by rw [hs]; exact he1) ?_)
    rw [hz.1]
    exact Lk A Q E' s2 (fun b o z => by rw [hs]; exact z) hq
  intro A co J' h2 t2 hr hfr hco hk2 hnb hJ hj
  have hsz5 : (h'.push go).objs.size = h'.objs.size + 1 := by rw [Heap.size_push]
  have hce1 : ce.locals = s4.heap.objs.size := by subst hce; rfl
  have hce2 : ce.scope = scope := by subst hce; rfl
  have hce3 : ce.cells = cl := by subst hce; rfl
  have hce4 : ce.frame = some ce.locals := by subst hce; rfl
  have hcs : ∀ x c, ce.cells.lookup x = some c → c < h'.objs.size := fun x c e => by
    rw [hce3] at e
    rcases gcl.mem x c e with ⟨_, z⟩ | ⟨_, z⟩
    · exact Nat.lt_of_lt_of_le z (Nat.le_of_succ_le hsz)
    · exact z.lt
  have hap : ∀ b ∈ co, Apt X s4 ce h'.objs.size b := fun b hb => by
    have hb5 : h'.objs.size + 1 ≤ b := by rw [← hsz5]; exact (hco b hb).1
    refine ⟨by omega, by rw [hce1]; intro z; rw [z] at hb5; omega, fun x c e z => ?_, by intro z; rw [z] at hb5; omega, nfs b (by omega)⟩
    have h1 := hcs x c e
    rw [z] at h1
    exact absurd (Nat.lt_of_lt_of_le h1 (Nat.le_of_succ_le hb5)) (Nat.lt_irrefl _)
  refine ⟨n0, rfl, rfl, Nat.le_refl _, hnb, gis _ (hk2 _ _ gat), I4.nolimit.keeps fun b o e => hk2 b o (keep5 b o e), hNS, _, Array.getElem?_push_size .., ?_⟩
  have hA2 : Room L' (A.over (gcode elt tg iter ifs scope gpos it ce) []) := room_gen hr
  have hfrA : (A.over (gcode elt tg iter ifs scope gpos it ce) []).frames = some (ce :: X.stack) := by
    have e9 : (A.over (gcode elt tg iter ifs scope gpos it ce) []).frames = pushEnvs (gcode elt tg iter ifs scope gpos it ce).envs (pushEnvs (envsOf []) A.frames) := rfl
    rw [e9, hfr]; rfl
  have CG : ∀ E, CtxOk g NG scope L' (fun cls d _ H' => E cls d H') (genX X NG (A.over (gcode elt tg iter ifs scope gpos it ce) []) s4 H4 ce fp [(h'.objs.size, go)] E) := fun E => C.gen GS.gen hce4 hce2 hA2 hng fun z => by
    obtain ⟨p, hp, ep⟩ := hst0 (hlev z)
    obtain ⟨ps1, f1, f2, f3⟩ := hps1
    obtain ⟨ps2, a1, _, a3⟩ := T4 p hp
    rw [ep, f1] at a1
    cases a1
    have a4 := a3 gpos code f3
    rw [hk0 p hp ep] at a4
    obtain ⟨c1, _, b1, _⟩ := a4
    exact ⟨T, p, ps1, gpos, c1, by show ce.code = _; rw [← hce]; exact b1, hT, hp, hk0 p hp ep, f2, by rw [f3, b1], by rw [ep]; exact f1⟩
  have hnS : h2.Ns s4.heap.objs.size (fun y => if y = ".0" then some (.ref it) else none) := (hn'.push go).keeps hk2
  have kp2 : ∀ b o, s4.heap.get? b = some o → h2.get? b = some o := fun b o e => hk2 b o (keep5 b o e)
  refine ⟨rfl, ?_⟩
  generalize hs6 : (Shared.setGen ({ heap := h2, gens := s4.gens.push (.fresh (.compStart (.GeneratorExp elt [⟨tg, iter, ifs, 0⟩] scope gpos) 0 (.ref it) .none ce)), drawn := s4.drawn, toks := t2, os := s4.os } : Shared) s4.gens.size .running) = s6
  have h6 : s6.heap = h2 := by subst hs6; rfl
  have b6 : AllBare s6.gens := by subst hs6; exact allBare_setGen (s := { heap := h2, gens := _, drawn := s4.drawn, toks := t2, os := s4.os }) bare5 rfl
  have e6 : s6 = { s4 with heap := h2, toks := t2, gens := s6.gens } := by subst hs6; rfl
  have I6 : Inv (genX X NG (A.over (gcode elt tg iter ifs scope gpos it ce) []) s4 H4 ce fp [] (GP.EX ⟨g, X, NG, fp, s4, H4, μ1, h'.objs.size, s4.gens.size, nextX yes lk t cc me (wipeG ρ (own.map (·.2))), n0, 0, S1⟩ 0)) [] (wipe σ (own.map (·.2))) H4 s6 := by
    have gcl2 : GCl X.env.cells scope s4.heap.objs.size cl h2 := ⟨fun y c e => (gcl.mem y c e).imp id fun z => ⟨z.1, z.2.keeps fun b o e => hk2 b o (Heap.get?_push_of_some _ e)⟩, gcl.inj, gcl.own, gcl.young, gcl.free⟩
    have z := gen_start (NG := NG) (scope := scope) (own := own) (fp := fp) (A' := A.over (gcode elt tg iter ifs scope gpos it ce) []) (code := code) (h' := h2) (tk := t2) (gs := s6.gens) (E := GP.EX ⟨g, X, NG, fp, s4, H4, μ1, h'.objs.size, s4.gens.size, nextX yes lk t cc me (wipeG ρ (own.map (·.2))), n0, 0, S1⟩ 0) I4 (by rw [C.N]; exact ng) (by rw [C.sc]; exact ok) hN gcl2 f4 hA2.hd (by rw [hce]; exact hfrA) hnS kp2 b6
    rw [hce, ← e6] at z
    exact z
  have st6 : tn 0 s6.heap := by rw [h6]; exact Tn.keep _ _ _ st4 fun b _ o e => kp2 b o e
  have I7 : Inv (genX X NG (A.over (gcode elt tg iter ifs scope gpos it ce) []) s4 H4 ce fp [(h'.objs.size, go)] (GP.EX ⟨g, X, NG, fp, s4, H4, μ1, h'.objs.size, s4.gens.size, nextX yes lk t cc me (wipeG ρ (own.map (·.2))), n0, 0, S1⟩ 0)) (pinsAt co s6.heap) (wipe σ (own.map (·.2))) H4 s6 := by
    refine ⟨⟨I6.ok.mod, I6.ok.kind, I6.ok.glob, I6.ok.blt, I6.ok.above, I6.ok.inj, I6.ok.has, I6.ok.cab, I6.ok.hd, I6.ok.frames, I6.ok.stk, I6.ok.exf, I6.ok.bs, I6.ok.bsz, I6.ok.noex, I6.ok.exfs, I6.ok.funs, I6.ok.frf⟩, I6.os, I6.bare, I6.base, I6.loc, I6.cell, I6.free, I6.freeC, fun p hp => ?_, I6.hok, I6.len⟩
    rcases List.mem_cons.mp (show p ∈ (h'.objs.size, go) :: pinsAt co s6.heap from hp) with hp | hp
    · rw [hp]
      refine ⟨by rw [h6]; exact hk2 _ _ gat, I4.hok.fresh (Nat.le_of_succ_le hsz), by show h'.objs.size ≠ ce.locals; rw [hce1]; exact Nat.ne_of_gt hsz, nfs _ (Nat.le_of_succ_le hsz), gnc⟩
    · obtain ⟨hb, e⟩ := of_pinsAt hp
      have hb5 : h'.objs.size + 1 ≤ p.1 := by rw [← hsz5]; exact (hco _ hb).1
      obtain ⟨o, eo, nc⟩ := (hco _ hb).2
      rw [h6, eo] at e
      cases e
      exact ⟨by rw [h6]; exact eo, I4.hok.fresh (by omega), (hap _ hb).loc, (hap _ hb).fs, nc⟩
  have loop : Seg (model X.prog X.w) A (GP.RE ⟨g, X, NG, fp, s4, H4, μ1, h'.objs.size, s4.gens.size, nextX yes lk t cc me (wipeG ρ (own.map (·.2))), n0, 0, S1⟩ co J') (GP.Y ⟨g, X, NG, fp, s4, H4, μ1, h'.objs.size, s4.gens.size, nextX yes lk t cc me (wipeG ρ (own.map (·.2))), n0, 0, S1⟩ co J') n0 s6
      (gcode elt tg iter ifs scope gpos it ce) ((model X.prog X.w).den (gcode elt tg iter ifs scope gpos it ce)) [] s6 :=
    seg_gen (p := ⟨g, X, NG, fp, s4, H4, μ1, h'.objs.size, s4.gens.size, nextX yes lk t cc me (wipeG ρ (own.map (·.2))), n0, 0, S1⟩) (co := co) hJ C.calm rfl hy Tn sr4 he4 (by rw [hce2]; exact GS.co) gis hap
      (fun b hb => ⟨Nat.ne_of_lt (Nat.lt_of_lt_of_le (f4 b hb).2 (Nat.le_of_succ_le hsz)), fun hm => by
        have h5 : h'.objs.size + 1 ≤ b := by rw [← hsz5]; exact (hco b hm).1
        exact absurd (Nat.lt_of_lt_of_le (f4 b hb).2 (Nat.le_trans (Nat.le_of_succ_le hsz) (Nat.le_of_succ_le h5))) (Nat.lt_irrefl _)⟩)
      (fun E => hg _ _ (CG E) (fun x h => by show (ce.scope.names.lookup x == some .cell) = true; rw [hce2]; exact h)) (fun E => ht.pts (CG E).never) (fun E => hel _ _ (CG E)) n0 n0 0 n0 0 0 S1 S1 μ1 H4 s6 s6 rfl rfl rfl hnb (Nat.le_refl _) I7 st6 (fun b hb => (f4 b hb).1.1) (Grow.refl _ _) w4 (fun b hb => by rw [h6]; obtain ⟨_, o, e, _⟩ := hco b hb; exact ⟨o, e⟩) (by rw [h6]; exact hj)
  show Seg _ A _ _ _ s6 _ ((compStart (.GeneratorExp elt [⟨tg, iter, ifs, 0⟩] scope gpos) 0 (.ref it) .none ce).onRaise (leaving ce)) [] s6
  unfold compStart
  rw [Sem.onRaise_eq_wrap]
  show Seg _ A _ _ _ s6 _ ((ask >>= _).wrap _ _ _ _) [] s6
  refine seg_bind_wrap (wpAny_askSetting ?_)
  split
  · exact seg_again rfl loop
  · refine seg_bind_wrap (wpAny_rule ?_)
    show Seg _ A _ _ _ s6 _ ((standAt iter.pos >>= _).wrap _ _ _ _) [] s6
    exact seg_bind_wrap (wpAny_standAt (seg_bind_wrap (Tn.self _ 0 _ _ _ st6 (seg_again rfl loop))))
end
end Gp

set_option Elab.async false
set_option linter.all false
set_option maxRecDepth 100000
set_option maxHeartbeats 1000000
/-! Gp27: any, all of generator expressions -/
namespace Gp
open PySem PySem.Spec L2
open PyProof.Rows hiding St

/-- any: the first true one ends it; all: the first false one -/
def anyN (f : Nat → Nat → Sto → NX) (b : Bool) : Nat → Nat → Nat → Sto → Res
  | 0, _, _, _ => .bad
  | n + 1, k, i, S => match f k i S with
    | .done S' => .ok (.bl (!b)) S'
    | .exc c S' => .exc c S'
    | .item (.bl x) k' i' S' => if x = b then .ok (.bl b) S' else anyN f b n k' i' S'
    | _ => .bad
theorem anyN_live {f : Nat → Nat → Sto → NX} {b : Bool} {n k i : Nat} {S : Sto} (h : anyN f b n k i S ≠ .bad) : f k i S ≠ .bad := fun e => by
  cases n with
  | zero => exact h rfl
  | succ n => exact h (by unfold anyN; rw [e])
theorem rep_blv {g : G} {H : Hp} {μ : List Addr} {b : Bool} {x : V} {v : Value} (r : Rep g H μ (.bl b) x) (rv : RelV x v) : v = .bool b := by
  simp only [Rep] at r
  subst r
  exact rv
section
variable {p : GP} {A : Around} {R : Result → Shared → Prop}
theorem gp_any_loop (hz : ∀ i S, p.nx 0 i S = .bad) (hh : A.handled = none) (hroom : A.depth < recursionLimit) : ∀ (n m k i : Nat) (S : Sto) (s : Shared), anyN p.nx true n k i S ≠ .bad → p.Rdy [] (fun _ _ _ _ => True) A.in1.in1 m k i S s →
    (∀ c S' e s1, anyN p.nx true n k i S = .exc c S' → p.Flew c S' e s1 → R (.error e) s1) → (∀ b S' μ H s', anyN p.nx true n k i S = .ok (.bl b) S' → Run p [] S' μ H s' → R (.ok (.ret (.bool b))) s') → codeAny (model p.X.prog p.X.w) A (.builtin "any.loop" ⟨[.ref p.a], []⟩) R s := by
  intro n
  induction n with
  | zero => intro m k i S s h; exact absurd rfl h
  | succ n ih =>
    intro m k i S s h hr hE hR
    refine codeAny_builtin F.entry_any_loop ?_
    rw [Around.under_plainId F.plain_any_loop _]
    show wpAny _ A.in1 (pyNext (.ref p.a) >>= _) _ _ s
    refine wpAny_bind (gp_next (A := A.in1) (fun _ _ _ _ _ _ _ _ _ _ => trivial) hz hh hroom (by simp) (by simp) hr (fun c S' e s1 e1 e2 => hE c S' e s1 (by unfold anyN; rw [e1]) e2) (fun y k' i' S' v x μ H s1 e hrun rp rv _ _ hk => ?_) fun S' μ H s1 e hrun _ _ => ?_)
    · unfold anyN at h hE hR
      rw [e] at h hE hR
      cases y with
      | bl b =>
        obtain rfl := rep_blv rp rv
        simp only at h hE hR
        refine wpAny_bind (wpAny_holding (wpAny_truthy_bool ?_))
        refine wpAny_bind (wpAny_letGo ?_)
        cases b with
        | true =>
          simp only [if_true] at h hE hR ⊢
          exact wpAny_bind (wpAny_rule (wpAny_pure (hR true S' μ H s1 rfl hrun)))
        | false =>
          simp only [Bool.false_eq_true, if_false] at h hE hR ⊢
          exact wpAny_pure ⟨plainId_quiet F.plain_any_loop _, ih (m + 1) k' i' S' s1 h (hk s1.heap s1.toks (fun _ _ _ z => z) (by simp) trivial (anyN_live h)) hE hR⟩
      | _ => exact absurd rfl h
    · unfold anyN at hR
      rw [e] at hR
      exact wpAny_bind (wpAny_rule (wpAny_pure (hR false S' μ H s1 rfl hrun)))
theorem gp_all_loop (hz : ∀ i S, p.nx 0 i S = .bad) (hh : A.handled = none) (hroom : A.depth < recursionLimit) : ∀ (n m k i : Nat) (S : Sto) (s : Shared), anyN p.nx false n k i S ≠ .bad → p.Rdy [] (fun _ _ _ _ => True) A.in1.in1 m k i S s →
    (∀ c S' e s1, anyN p.nx false n k i S = .exc c S' → p.Flew c S' e s1 → R (.error e) s1) → (∀ b S' μ H s', anyN p.nx false n k i S = .ok (.bl b) S' → Run p [] S' μ H s' → R (.ok (.ret (.bool b))) s') → codeAny (model p.X.prog p.X.w) A (.builtin "all.loop" ⟨[.ref p.a], []⟩) R s := by
  intro n
  induction n with
  | zero => intro m k i S s h; exact absurd rfl h
  | succ n ih =>
    intro m k i S s h hr hE hR
    refine codeAny_builtin F.entry_all_loop ?_
    rw [Around.under_plainId F.plain_all_loop _]
    show wpAny _ A.in1 (pyNext (.ref p.a) >>= _) _ _ s
    refine wpAny_bind (gp_next (A := A.in1) (fun _ _ _ _ _ _ _ _ _ _ => trivial) hz hh hroom (by simp) (by simp) hr (fun c S' e s1 e1 e2 => hE c S' e s1 (by unfold anyN; rw [e1]) e2) (fun y k' i' S' v x μ H s1 e hrun rp rv _ _ hk => ?_) fun S' μ H s1 e hrun _ _ => ?_)
    · unfold anyN at h hE hR
      rw [e] at h hE hR
      cases y with
      | bl b =>
        obtain rfl := rep_blv rp rv
        simp only at h hE hR
        refine wpAny_bind (wpAny_holding (wpAny_truthy_bool ?_))
        refine wpAny_bind (wpAny_letGo ?_)
        cases b with
        | false =>
          simp only [if_true, Bool.false_eq_true, if_false] at h hE hR ⊢
          exact wpAny_bind (wpAny_rule (wpAny_pure (hR false S' μ H s1 rfl hrun)))
        | true =>
          simp only [Bool.true_eq_false, if_false, if_true] at h hE hR ⊢
          exact wpAny_pure ⟨plainId_quiet F.plain_all_loop _, ih (m + 1) k' i' S' s1 h (hk s1.heap s1.toks (fun _ _ _ z => z) (by simp) trivial (anyN_live h)) hE hR⟩
      | _ => exact absurd rfl h
    · unfold anyN at hR
      rw [e] at hR
      exact wpAny_bind (wpAny_rule (wpAny_pure (hR true S' μ H s1 rfl hrun)))
variable {E : Value → Shared → Prop} {s : Shared} {Q : Value → Shared → Prop} {n m k i : Nat} {S : Sto}
theorem gp_any (hz : ∀ i S, p.nx 0 i S = .bad) (hh : A.handled = none) (hroom : A.depth < recursionLimit) (h : anyN p.nx true n k i S ≠ .bad) (hr : p.Rdy [] (fun _ _ _ _ => True) A.in1.in1 m k i S s) (hg : s.heap.IsGen p.a p.gn)
    (hE : ∀ c S' e s1, anyN p.nx true n k i S = .exc c S' → p.Flew c S' e s1 → E e s1) (hR : ∀ b S' μ H s', anyN p.nx true n k i S = .ok (.bl b) S' → Run p [] S' μ H s' → Q (.bool b) s') : wpAny (model p.X.prog p.X.w) A (call (.builtin "any") [.ref p.a]) Q E s := by
  refine call_function_tree F.kind_any F.plain_any F.entry_any (F.args_any1 _) ?_
  unfold Builtin.«any»
  refine wpAny_bind (m := oneArg "any" _) (wpAny_pure ?_)
  refine wpAny_bind (wpAny_pyIter_gen hg ?_)
  exact wpAny_pure ⟨plainId_quiet F.plain_any_loop _, gp_any_loop (A := A) hz hh hroom n m k i S s h hr hE hR⟩
theorem gp_all (hz : ∀ i S, p.nx 0 i S = .bad) (hh : A.handled = none) (hroom : A.depth < recursionLimit) (h : anyN p.nx false n k i S ≠ .bad) (hr : p.Rdy [] (fun _ _ _ _ => True) A.in1.in1 m k i S s) (hg : s.heap.IsGen p.a p.gn)
    (hE : ∀ c S' e s1, anyN p.nx false n k i S = .exc c S' → p.Flew c S' e s1 → E e s1) (hR : ∀ b S' μ H s', anyN p.nx false n k i S = .ok (.bl b) S' → Run p [] S' μ H s' → Q (.bool b) s') : wpAny (model p.X.prog p.X.w) A (call (.builtin "all") [.ref p.a]) Q E s := by
  refine call_function_tree F.kind_all F.plain_all F.entry_all (F.args_all1 _) ?_
  unfold Builtin.«all»
  refine wpAny_bind (m := oneArg "all" _) (wpAny_pure ?_)
  refine wpAny_bind (wpAny_pyIter_gen hg ?_)
  exact wpAny_pure ⟨plainId_quiet F.plain_all_loop _, gp_all_loop (A := A) hz hh hroom n m k i S s h hr hE hR⟩
end

/-! ### the expression f(e for ..) -/
/-- f of a generator -/
def Consumes (f : Value) (gc : (Nat → Nat → Sto → NX) → Nat → Sto → Res) : Prop := ∀ (p : GP) (L' : Nat) (pins : List (Addr × Obj)) (σ : L2.St) (A : Around) (s : Shared) (Q : Value → Shared → Prop) (E : Value → Shared → Prop),
  Room (L' + 3) A → A.frames = some p.X.stack → p.i0 = 0 → (∀ i S, p.nx 0 i S = .bad) → Made p L' pins σ s → gc p.nx p.k0 p.S0 ≠ .bad → (∀ c S' e s1, gc p.nx p.k0 p.S0 = .exc c S' → p.Flew c S' e s1 → E e s1) →
  (∀ d S' μ' H' v u s', gc p.nx p.k0 p.S0 = .ok d S' → Grow p.μ0 p.H0 μ' H' → W p.g μ' H' S' → Inv p.X pins σ H' s' → Rep p.g H' μ' d v → RelV v u → Q u s') → wpAny (model p.X.prog p.X.w) A (call f [.ref p.a]) Q E s
def gGen (gc : (Nat → Nat → Sto → NX) → Nat → Sto → Res) (n0 : Nat) (mi : GI) (t : TN) (cc : Option GE) (me : GE) (vs : List Nat) : GE := fun ρ S => (mi ρ S).res fun lk S1 ul => unlR ul (gc (nextN lk t cc me (wipeG ρ vs)) n0 S1)
/-- .. of elements that may raise one of yes -/
def gGenX (gc : (Nat → Nat → Sto → NX) → Nat → Sto → Res) (yes : List Str) (n0 : Nat) (mi : GI) (t : TN) (cc : Option GE) (me : GE) (vs : List Nat) : GE := fun ρ S => (mi ρ S).res fun lk S1 ul => unlR ul (gc (nextX yes lk t cc me (wipeG ρ vs)) n0 S1)
theorem gGenX_nil {gc : (Nat → Nat → Sto → NX) → Nat → Sto → Res} {n0 : Nat} {mi : GI} {t : TN} {cc : Option GE} {me : GE} {vs : List Nat} : gGenX gc [] n0 mi t cc me vs = gGen gc n0 mi t cc me vs := by
  funext ρ S
  simp only [gGenX, gGen, nextX_nil]
theorem nextX_zero {yes : List Str} {lk : Look} {t : TN} {c : Option GE} {e : GE} {ρ0 : Ev} (i : Nat) (S : Sto) : nextX yes lk t c e ρ0 0 i S = .bad := rfl
theorem nextN_zero {lk : Look} {t : TN} {c : Option GE} {e : GE} {ρ0 : Ev} (i : Nat) (S : Sto) : nextN lk t c e ρ0 0 i S = .bad := rfl
theorem con_any : Consumes (.builtin "any") (fun f n S => anyN f true n n 0 S) := fun p L' pins σ A s Q E hr hf hi hz M hb hE hQ => by
  have hb' : anyN p.nx true p.k0 p.k0 p.i0 p.S0 ≠ .bad := by rw [hi]; exact hb
  refine gp_any (n := p.k0) (m := 0) (k := p.k0) (i := p.i0) (S := p.S0) hz hr.hd (by have := hr.dp; omega) hb' ?_ M.run.gen (fun c S' e s1 e1 e2 => hE c S' e s1 (by rw [← hi]; exact e1) e2) fun b S' μ H s' e r => ?_
  · exact M.rdy A.in1.in1 [] _ s.heap s.toks (hr.mono (by omega)).in1.in1 hf (by simp) (fun _ _ z => z) (anyN_live hb') (fun _ _ _ _ _ _ _ _ _ _ => trivial) trivial
  · rw [hi] at e
    exact hQ (.bl b) S' μ H (.bl b) _ s' e r.gr r.w (M.inv _ _ _ _ _ r) (by simp [Rep]) rfl
theorem con_all : Consumes (.builtin "all") (fun f n S => anyN f false n n 0 S) := fun p L' pins σ A s Q E hr hf hi hz M hb hE hQ => by
  have hb' : anyN p.nx false p.k0 p.k0 p.i0 p.S0 ≠ .bad := by rw [hi]; exact hb
  refine gp_all (n := p.k0) (m := 0) (k := p.k0) (i := p.i0) (S := p.S0) hz hr.hd (by have := hr.dp; omega) hb' ?_ M.run.gen (fun c S' e s1 e1 e2 => hE c S' e s1 (by rw [← hi]; exact e1) e2) fun b S' μ H s' e r => ?_
  · exact M.rdy A.in1.in1 [] _ s.heap s.toks (hr.mono (by omega)).in1.in1 hf (by simp) (fun _ _ z => z) (anyN_live hb') (fun _ _ _ _ _ _ _ _ _ _ => trivial) trivial
  · rw [hi] at e
    exact hQ (.bl b) S' μ H (.bl b) _ s' e r.gr r.w (M.inv _ _ _ _ _ r) (by simp [Rep]) rfl
section
variable {g : G} {N : List Str} {sc : Scope} {L L' : Nat} {elt tg iter : Expr} {ifs : List Expr} {scope : Scope} {gpos pos pp : Pos} {mi : GI} {t : TN} {cc : Option GE} {me : GE} {own : List (Str × Nat)} {gc : (Nat → Nat → Sto → NX) → Nat → Sto → Res} {n0 : Nat} {nm : Str}
def tCons1 (g : G) (Wx : WX) (mi : GI) (f : Look → Ev → Sto → Res) : TE := fun σ H Q => ∃ ρ S μ, EnvOk g H μ ρ σ ∧ W g μ H S ∧ PostI g μ H (mi ρ S) (fun J H1 => ∃ lk S1 μ1 ρ, EnvOk g H1 μ1 ρ σ ∧ W g μ1 H1 S1 ∧ SrcOk g J lk μ1 H1 ∧
  (f lk ρ S1 ≠ .bad ∧ (∀ c S' H' μ', f lk ρ S1 = .exc c S' → Grow μ1 H1 μ' H' → W g μ' H' S' → wE g Wx σ c H') ∧ ∀ d S' μ' H' v, f lk ρ S1 = .ok d S' → Grow μ1 H1 μ' H' → W g μ' H' S' → Rep g H' μ' d v → Q v H')) (wE g Wx σ)
theorem gen_weak {Wx : WX} {X : Cx} {e : Expr} {vs : List Nat} {yes : List Str} (h : PE X e (tCons1 g Wx mi fun lk ρ S1 => gc (nextX yes lk t cc me (wipeG ρ vs)) n0 S1)) : PE X e (tG g Wx (gGenX gc yes n0 mi t cc me vs)) := by
  refine (pe_unl h).weak ?_
  rintro σ H Q ⟨ρ, S, μ, he, hw, h⟩
  unfold gGenX at h
  refine ⟨ρ, S, μ, he, hw, PostI.res h fun lk S1 ul J H1 μ1 g1 w1 s1 u1 h1 => ⟨lk, S1, μ1, ρ, he.mono g1, w1, s1, fun e => ?_, fun c S' H' μ' e g2 w2 => ?_, fun d S' μ' H' v e g2 w2 r2 => ?_⟩⟩
  · replace e : gc (nextX yes lk t cc me (wipeG ρ vs)) n0 S1 = .bad := e
    rw [e, unlR_bad] at h1; exact h1
  · replace e : gc (nextX yes lk t cc me (wipeG ρ vs)) n0 S1 = .exc c S' := e
    rw [e] at h1
    have z : unlR ul (.exc c S') = .exc c S' := by cases ul <;> rfl
    rw [z] at h1
    exact h1 H' μ' (g1.trans g2) w2
  · replace e : gc (nextX yes lk t cc me (wipeG ρ vs)) n0 S1 = .ok d S' := e
    rw [e] at h1
    exact h1.unlOk (g1.trans g2) w2 r2 (u1.grow g2)
theorem re_genBX {id : String} (hcon : Consumes (.builtin id) gc) {yes : List Str} (hy : ∀ x ∈ yes, Nst g x) {NG : List Str} (hN : NG.Nodup) (ng : NgOk N NG scope) (hng : ∀ e ∈ g.cods, e.1 ∉ NG) (hlev : ("." : Str) ∈ NG → sc.isGenerator = false) (GC : GSrc g N sc gpos) (GS : GenS scope) (ok : BlkOk NG sc scope own) (okN : BlkOk N sc scope own) (hL : L' + 3 ≤ L) (hi : RealI g N sc L tg iter mi)
    (hg : RealN g NG scope L' (fun x => scope.names.lookup x == some .cell) (own.map (·.2)) tg t) (ht : RealIfs g NG scope L' ifs cc) (hel : Real g NG scope L' elt me) (hs : ∀ (env : Env) v, genFold iter env v = pure v)
    (hgl : sc.names.lookup nm = some .globalImplicit) (hm : g.mg nm = none) (hv : bootBuiltins nm = some (.builtin id))
    (hst : ∀ env : Env, starEach [.GeneratorExp elt [⟨tg, iter, ifs, 0⟩] scope gpos] env = (false, eval (.GeneratorExp elt [⟨tg, iter, ifs, 0⟩] scope gpos) env) :: starEach [] env)
    (hnm : nm ≠ "__name__" := by decide) (hdb : (nm == ("__debug__" : Str)) = false := by decide) :
    Real g N sc L (.Call (.Name nm pp) [.GeneratorExp elt [⟨tg, iter, ifs, 0⟩] scope gpos] [] pos) (gGenX gc yes n0 mi t cc me (own.map (·.2))) := by
  intro Wx X C
  refine gen_weak ⟨fun pins s σ H Q I h => ?_⟩
  obtain ⟨ρ, S, μ, he, hw, h⟩ := h
  refine wpAny_Call_Name_kw (ld_blt I (show Gl X nm by unfold Gl Env.kindOf; rw [C.sc]; exact hgl) (by rw [C.mg]; exact hm) hv ?_ hnm hdb)
  refine PyProof.Rows.callWith_builtin1 ?_ (hst X.env) (by rfl)
  rw [hst]
  show wpAny _ _ (spliced ((false, eval (.GeneratorExp elt [⟨tg, iter, ifs, 0⟩] scope gpos) X.env) :: backTo pos (starEach [] X.env))) _ _ s
  refine Calls.spliced_cons (gen_make (n0 := n0) C hN ng hng hlev GC GS ok okN (hi Wx X C) hy hg ht hel (hs X.env) I (Z := fun lk S1 μ1 H1 ρ => gc (nextX yes lk t cc me (wipeG ρ (own.map (·.2)))) n0 S1 ≠ .bad ∧ (∀ c S' H' μ', gc (nextX yes lk t cc me (wipeG ρ (own.map (·.2)))) n0 S1 = .exc c S' → Grow μ1 H1 μ' H' → W g μ' H' S' → wE g Wx σ c H') ∧ ∀ d S' μ' H' v, gc (nextX yes lk t cc me (wipeG ρ (own.map (·.2)))) n0 S1 = .ok d S' → Grow μ1 H1 μ' H' → W g μ' H' S' → Rep g H' μ' d v → Q v H') ⟨ρ, S, μ, he, hw, h⟩
    fun lk S1 μ1 H1 ρ fp s4 H4 a gn s5 hZ gr M => ?_)
  refine Calls.spliced_nil ?_
  obtain ⟨hb, hx, hq⟩ := hZ
  exact hcon ⟨g, X, NG, fp, s4, H4, μ1, a, gn, nextX yes lk t cc me (wipeG ρ (own.map (·.2))), n0, 0, S1⟩ L' pins σ X.A s5 _ X.xe (C.room.mono hL) I.ok.frames rfl (fun _ _ => rfl) M hb
    (fun c S' e s1 e1 hf => C.tk e s1 (by
        obtain ⟨a0, B, sI, pins0, σ0, H0, cls, d, r1, r2, r3, r4, r5, r6, r7, r8, h1, C1, μ', h2, h3, h4, h5, h6, h7⟩ := M.exc c S' e s1 hf
        subst h1 h3 h4
        exact ⟨a0, B, sI, pins0, _, H0, _, _, r1, r2, r3, r4, r5, r6, r7, r8, hx c S' H0 μ' e1 (gr.trans h6) h7 C1 h2⟩))
    fun d S' μ' H' v u s' e g2 w2 I2 r2 rv => ⟨v, H', I2, rv, hq d S' μ' H' v e (gr.trans g2) w2 r2⟩
theorem re_genB {id : String} (hcon : Consumes (.builtin id) gc) {NG : List Str} (hN : NG.Nodup) (ng : NgOk N NG scope) (hng : ∀ e ∈ g.cods, e.1 ∉ NG) (hlev : ("." : Str) ∈ NG → sc.isGenerator = false) (GC : GSrc g N sc gpos) (GS : GenS scope) (ok : BlkOk NG sc scope own) (okN : BlkOk N sc scope own) (hL : L' + 3 ≤ L) (hi : RealI g N sc L tg iter mi)
    (hg : RealN g NG scope L' (fun x => scope.names.lookup x == some .cell) (own.map (·.2)) tg t) (ht : RealIfs g NG scope L' ifs cc) (hel : Real g NG scope L' elt me) (hs : ∀ (env : Env) v, genFold iter env v = pure v)
    (hgl : sc.names.lookup nm = some .globalImplicit) (hm : g.mg nm = none) (hv : bootBuiltins nm = some (.builtin id))
    (hst : ∀ env : Env, starEach [.GeneratorExp elt [⟨tg, iter, ifs, 0⟩] scope gpos] env = (false, eval (.GeneratorExp elt [⟨tg, iter, ifs, 0⟩] scope gpos) env) :: starEach [] env)
    (hnm : nm ≠ "__name__" := by decide) (hdb : (nm == ("__debug__" : Str)) = false := by decide) :
    Real g N sc L (.Call (.Name nm pp) [.GeneratorExp elt [⟨tg, iter, ifs, 0⟩] scope gpos] [] pos) (gGen gc n0 mi t cc me (own.map (·.2))) := by
  rw [← gGenX_nil]
  exact re_genBX hcon (fun x h => by cases h) hN ng hng hlev GC GS ok okN hL hi hg ht hel hs hgl hm hv hst hnm hdb
end
end Gp

set_option Elab.async false
set_option linter.all false
set_option maxRecDepth 100000
set_option maxHeartbeats 1000000
/-! Gp28: generator expressions collected: tuple -/
namespace Gp
open PySem PySem.Spec L2
open PyProof.Rows hiding St

/-- the first m items -/
def itmN (f : Nat → Nat → Sto → NX) (k i : Nat) (S : Sto) : Nat → List D
  | 0 => []
  | m + 1 => itmN f k i S m ++ match trcN f k i S m with
    | some (k, i, S) => match f k i S with
      | .item y _ _ _ => [y]
      | _ => []
    | none => []
def GP.its (p : GP) (m : Nat) : List D := itmN p.nx p.k0 p.i0 p.S0 m
theorem GP.its_next {p : GP} {m k i k' i' : Nat} {S S' : Sto} {y : D} (h : p.T m = some (k, i, S)) (e : p.nx k i S = .item y k' i' S') : p.its (m + 1) = p.its m ++ [y] := by
  show itmN p.nx p.k0 p.i0 p.S0 (m + 1) = itmN p.nx p.k0 p.i0 p.S0 m ++ [y]
  have h' : trcN p.nx p.k0 p.i0 p.S0 m = some (k, i, S) := h
  simp only [itmN, h', e]
inductive AC where
  | ok (l : List D) (S : Sto)
  | exc (c : Str) (S : Sto)
  | bad
/-- all items, from the ones that are there on -/
def accN (f : Nat → Nat → Sto → NX) : Nat → List D → Nat → Nat → Sto → AC
  | 0, _, _, _, _ => .bad
  | n + 1, ds, k, i, S => match f k i S with
    | .done S' => .ok ds S'
    | .exc c S' => .exc c S'
    | .item y k' i' S' => if ds.length < sizeLine then accN f n (ds ++ [y]) k' i' S' else .bad
    | .bad => .bad
theorem accN_live {f : Nat → Nat → Sto → NX} {n k i : Nat} {ds : List D} {S : Sto} (h : accN f n ds k i S ≠ .bad) : f k i S ≠ .bad := fun e => by
  cases n with
  | zero => exact h rfl
  | succ n => exact h (by unfold accN; rw [e])
/-- the list at L holds the items -/
def JL (p : GP) (L : Addr) : CoJ := fun m μ H h => ∃ acc c vs, h.get? L = some (lstObj acc c) ∧ RepL p.g H μ (p.its m) vs ∧ Vals vs acc.toList
theorem JL_mono {p : GP} {L : Addr} : (JL p L).Mono [L] := fun m μ H μ' H' h h' ⟨acc, c, vs, e, r, v⟩ gr k => ⟨acc, c, vs, k L (by simp) _ e, r.mono gr, v⟩
section
variable {p : GP} {A : Around} {R : Result → Shared → Prop} {L : Addr} {res : Value}
theorem gp_extend (hz : ∀ i S, p.nx 0 i S = .bad) (hh : A.handled = none) (hroom : A.depth < recursionLimit) (hLc : cStatics ≠ L) (hLa : p.a ≠ L) : ∀ (n m k i : Nat) (S : Sto) (s : Shared), accN p.nx n (p.its m) k i S ≠ .bad → p.Rdy [L] (JL p L) A.in1.in1 m k i S s →
    (∀ c S' e s1, accN p.nx n (p.its m) k i S = .exc c S' → p.Flew c S' e s1 → R (.error e) s1) →
    (∀ ds S' μ H s' acc c vs, accN p.nx n (p.its m) k i S = .ok ds S' → Run p [L] S' μ H s' → s'.heap.get? L = some (lstObj acc c) → RepL p.g H μ ds vs → Vals vs acc.toList → R (.ok (.ret res)) s') →
    codeAny (model p.X.prog p.X.w) A (.builtin "list.extend.loop" ⟨[.ref L, .ref p.a, res], []⟩) R s := by
  intro n
  induction n with
  | zero => intro m k i S s h; exact absurd rfl h
  | succ n ih =>
    intro m k i S s h hr hE hR
    have hT : p.T m = some (k, i, S) := by obtain ⟨_, _, z, _⟩ := hr; exact z
    refine codeAny_builtin F.entry_extend_loop ?_
    rw [Around.under_plainId F.plain_extend_loop _]
    show wpAny _ A.in1 (pyNext (.ref p.a) >>= _) _ _ s
    refine wpAny_bind (gp_next (A := A.in1) JL_mono hz hh hroom (by simpa using hLc) (by simpa using hLa) hr (fun c S' e s1 e1 e2 => hE c S' e s1 (by unfold accN; rw [e1]) e2) (fun y k' i' S' v x μ H s1 e hrun rp rv _ hj hk => ?_) fun S' μ H s1 e hrun _ hj => ?_)
    · unfold accN at h hE hR
      rw [e] at h hE hR
      simp only at h hE hR
      split at h
      · rename_i hl
        rw [if_pos hl] at hE hR
        obtain ⟨acc, c, vs, hS1, hrl, hvs⟩ := hj
        have hsz : acc.size < sizeLine := by
          have e1 := hvs.length
          rw [← hrl.length] at e1
          have e2 : acc.toList.length = acc.size := by simp
          omega
        rw [← GP.its_next hT e] at h hE hR
        show wpAny _ A.in1 (updateSeq L (·.push v) >>= _) _ _ _
        refine wpAny_bind ?_
        refine wpAny_updateSeq hS1 rfl (wpAny_pure ⟨plainId_quiet F.plain_extend_loop _, ?_⟩) (Nat.le_of_lt hsz) (by show (acc.push v).size ≤ sizeLine + 1; rw [Array.size_push]; omega)
        refine ih (m + 1) k' i' S' _ h (hk _ s1.toks (fun b o hb e => (Heap.get?_update_other _ _ (fun z => hb (by simp [z]))).trans e) (fun b hb => ?_) ?_ (accN_live h)) hE hR
        · obtain rfl : b = L := by simpa using hb
          exact ⟨_, Heap.get?_update_self _ hS1 rfl, fun w z => by cases z⟩
        · refine ⟨acc.push v, _, vs ++ [x], Heap.get?_update_self _ hS1 rfl, ?_, ?_⟩
          · rw [GP.its_next hT e]
            exact hrl.snoc rp
          · rw [Array.toList_push]
            exact hvs.append (.cons rv .nil)
      · exact absurd rfl h
    · unfold accN at hR
      rw [e] at hR
      obtain ⟨acc, c, vs, hS1, hrl, hvs⟩ := hj
      exact wpAny_pure (hR _ S' μ H s1 acc c vs rfl hrun hS1 hrl hvs)
end
section
variable {p : GP} {A : Around} {E : Value → Shared → Prop} {pins : List (Addr × Obj)} {σ : L2.St} {L' : Nat} {s : Shared}
/-- all items into a list of values -/
theorem gp_collect {Q : List Value → Shared → Prop} (hz : ∀ i S, p.nx 0 i S = .bad) (M : Made p L' pins σ s) (hr : Room (L' + 1) A.in1.in1) (hf : A.frames = some p.X.stack) (h : accN p.nx p.k0 [] p.k0 p.i0 p.S0 ≠ .bad)
    (hE : ∀ c S' e s1, accN p.nx p.k0 [] p.k0 p.i0 p.S0 = .exc c S' → p.Flew c S' e s1 → E e s1)
    (hQ : ∀ ds S' μ H s' acc vs, accN p.nx p.k0 [] p.k0 p.i0 p.S0 = .ok ds S' → Inv p.X pins σ H s' → Grow p.μ0 p.H0 μ H → W p.g μ H S' → RepL p.g H μ ds vs → Vals vs acc → Q acc s') : wpAny (model p.X.prog p.X.w) A (collect (.ref p.a)) Q E s := by
  have hSa : s.heap.objs.size ≠ p.a := Nat.ne_of_gt M.lt
  have hcl : cStatics < s.heap.objs.size := let ⟨_, hn, _⟩ := M.run.lim; hn.lt
  unfold collect
  refine wpAny_bind (wpAny_runValue (codeAny_builtin F.entry_proto_collect ?_))
  rw [Around.under_plainId F.plain_proto_collect _]
  show wpAny _ A.in1 (newList [] >>= fun l => again (.builtin "list.__iadd__" ⟨[l, .ref p.a], []⟩)) _ _ s
  refine wpAny_bind (wpAny_newObj_type ?_)
  refine wpAny_pure ⟨plainId_quiet F.plain_list_iadd _, codeAny_builtin F.entry_list_iadd ?_⟩
  rw [Around.under_plainId F.plain_list_iadd _]
  have k1 : ∀ b o, s.heap.get? b = some o → (s.heap.push { cls := .type "list", data := .seq ([] : List Value).toArray }).get? b = some o := fun b o e => Heap.get?_push_of_some _ e
  show wpAny _ A.in1 (Builtin.List.listExtendWith (.ref s.heap.objs.size) (.ref p.a) (.ref s.heap.objs.size)) _ _ _
  unfold Builtin.List.listExtendWith
  have gty : ∀ {h : Heap}, (∀ b o, s.heap.get? b = some o → h.get? b = some o) → h.IsGen p.a p.gn := fun {h} q => M.run.gen.keeps q
  refine wpAny_bind (wpAny_typeOf (Heap.IsGen.typeIs (s := { s with heap := _ }) (gty k1)) ?_)
  have h1 : Builtin.List.listSameRef (.ref s.heap.objs.size) (.ref p.a) = false := by simp [Builtin.List.listSameRef, hSa]
  have h2 : (Value.type "generator" == Value.type "list") = false := by decide
  have h3 : (Value.type "generator" == Value.type "tuple") = false := by decide
  simp only [h1, h2, h3, Bool.or_false, Bool.false_eq_true, if_false]
  refine wpAny_bind (wpAny_pyIter_gen (s := { s with heap := _ }) (gty k1) ?_)
  refine wpAny_bind (wpAny_holding ?_)
  unfold Builtin.List.listLengthHint
  refine wpAny_bind (wpAny_specialOf (Heap.IsGen.typeIs (s := { s with heap := _ }) (gty k1)) F.gen_no_len ?_)
  show wpAny _ A.in1 (specialOf (Value.ref p.a) (Str.ofString "__length_hint__") >>= _) _ _ _
  refine wpAny_bind (wpAny_specialOf (Heap.IsGen.typeIs (s := { s with heap := _ }) (gty k1)) F.gen_no_hint ?_)
  refine wpAny_pure ?_
  show wpAny _ A.in1 (rule "list.extend.makes-room" >>= fun _ => Builtin.List.listTouch (.ref s.heap.objs.size) >>= fun _ =>
    again (.builtin "list.extend.loop" ⟨[.ref s.heap.objs.size, .ref p.a, .ref s.heap.objs.size], []⟩)) _ _ _
  refine wpAny_bind (wpAny_rule ?_)
  have hS₁ : (s.heap.push { cls := .type "list", data := .seq ([] : List Value).toArray }).get? s.heap.objs.size = some { cls := .type "list", data := .seq ([] : List Value).toArray } := Heap.get?_push_size _ rfl
  refine wpAny_bind ?_
  show wpAny _ A.in1 (updateSeq s.heap.objs.size (·.push .none) >>= fun _ => updateSeq s.heap.objs.size (·.pop)) _ _ _
  refine wpAny_bind (wpAny_updateSeq hS₁ rfl ?_)
  have hS₂ := Heap.get?_update_self (Obj.mapSeq (·.push Value.none)) hS₁ rfl
  refine wpAny_updateSeq hS₂ rfl ?_
  have hS₃ := Heap.get?_update_self (Obj.mapSeq (·.pop)) hS₂ rfl
  have oth : ∀ b o, s.heap.get? b = some o →
      (((s.heap.push { cls := .type "list", data := .seq ([] : List Value).toArray }).update s.heap.objs.size (Obj.mapSeq (·.push Value.none))).update s.heap.objs.size (Obj.mapSeq (·.pop))).get? b = some o :=
    fun b o e => have hb : b ≠ s.heap.objs.size := Nat.ne_of_lt (Heap.lt_size e)
      (Heap.get?_update_other _ _ (Ne.symm hb)).trans ((Heap.get?_update_other _ _ (Ne.symm hb)).trans (k1 b o e))
  refine wpAny_pure ⟨plainId_quiet F.plain_extend_loop _, gp_extend (A := A) (n := p.k0) (m := 0) (k := p.k0) (i := p.i0) (S := p.S0) hz hr.hd (by have := hr.dp; show A.depth < _; have e : A.in1.in1.depth = A.depth := rfl; omega) (Nat.ne_of_lt hcl) (Ne.symm hSa) _ h ?_ (fun c S' e s1 e1 e2 => hE c S' e s1 e1 e2) fun ds S' μ H s' acc c vs e r hS hrl hv => ?_⟩
  · refine M.rdy A.in1.in1 [s.heap.objs.size] _ _ s.toks hr hf (fun b hb => ?_) oth (accN_live h) JL_mono ⟨#[], _, [], hS₃, .nil, .nil⟩
    obtain rfl : b = s.heap.objs.size := by simpa using hb
    exact ⟨Nat.le_refl _, _, hS₃, fun w z => by cases z⟩
  · show wpAny _ A (load s.heap.objs.size >>= _) _ _ s'
    refine wpAny_bind (wpAny_load hS ?_)
    exact wpAny_pure (hQ ds S' μ H s' acc.toList vs e (M.inv _ _ _ _ _ r) r.gr r.w hrl hv)
end

/-! ### tuple(e for ..) -/
/-- tuple of all the items -/
def tupN (f : Nat → Nat → Sto → NX) (n : Nat) (S : Sto) : Res := match accN f n [] n 0 S with
  | .ok ds S' => if ds.length ≤ sizeLine then .ok (.tup ds) S' else .bad
  | .exc c S' => .exc c S'
  | .bad => .bad
theorem con_tuple : Consumes (.type "tuple") tupN := fun p L' pins σ A s Q E hr hf hi hz M hb hE hQ => by
  unfold tupN at hb hE hQ
  rw [← hi] at hb hE hQ
  have hacc : accN p.nx p.k0 [] p.k0 p.i0 p.S0 ≠ .bad := fun e => by rw [e] at hb; exact hb rfl
  have hacx : ∀ c S' e s1, accN p.nx p.k0 [] p.k0 p.i0 p.S0 = .exc c S' → p.Flew c S' e s1 → E e s1 := fun c S' e s1 h1 h2 => hE c S' e s1 (by rw [h1]) h2
  refine callType_codes (Q₁ := fun obj s₁ => s₁.TypeIs obj "tuple" ∧ Q obj s₁) F.called_tuple (F.typeCall_tuple_1 _) F.entry_object_init ?_ fun obj s₁ h₁ =>
    ⟨h₁.1, F.args_object_init_2 obj _, object_init_meets F.called_tuple.init.lookup F.called_tuple.made (by decide) p.X.prog p.X.w A.in1 _ s₁ ⟨h₁.1, rfl, h₁.2⟩⟩
  refine codeAny_of_tree ?_
  show wpAny _ A.in1.in1 (do checkBuiltinCall "tuple.__new__" ⟨[.type "tuple", .ref p.a], []⟩; again (.builtin "tuple.__new__" ⟨[.type "tuple", .ref p.a], []⟩)) _ _ s
  refine wpAny_bind (wpAny_of_eq (F.newCall_tuple_1 _) (wpAny_pure ⟨plainId_quiet F.plain_tuple_new _, codeAny_builtin F.entry_tuple_new ?_⟩))
  rw [Around.under_plainId F.plain_tuple_new _]
  have hsub := sub_tuple_self
  have hinit := init_tuple_lookup
  have hmh := madeHere_tuple
  have hTI : s.TypeIs (.ref p.a) "generator" := M.run.gen.typeIs
  have hr4 : Room (L' + 1) A.in1.in1.in1.in1 := ⟨hr.hd, by have := hr.dp; show A.depth + 3 * (L' + 1) + 5 < _; omega, by have := hr.un; show A.units + 1 + 1 + 1 + 1 + 16 * (L' + 1) + 200 < _; omega⟩
  wp_walk using wpAny_typeOf hTI, gp_collect (A := A.in1.in1) hz M hr4 hf hacc hacx
  intro ds S' μ H s' acc vs e I gr w hrl hv
  rw [e] at hb hQ
  simp only at hb hQ
  split at hb
  · rename_i hl
    rw [if_pos hl] at hQ
    have hlen : acc.length = ds.length := by rw [hrl.length, hv.length]
    show wpAny _ _ (Builtin.Tuple.tupleExact acc.toArray >>= fun v => ret v) _ _ _
    unfold Builtin.Tuple.tupleExact
    refine wpAny_bind (wpAny_newObj_type ?_ (by show acc.toArray.size ≤ sizeLine; rw [List.size_toArray, hlen]; exact hl))
    refine wpAny_pure ?_
    have hn : H s'.heap.objs.size = none := I.hok.fresh (Nat.le_refl _)
    have hk : ∀ b o, s'.heap.get? b = some o → (s'.heap.push { cls := .type "tuple", data := .seq acc.toArray }).get? b = some o := fun b o e => Heap.get?_push_of_some _ e
    have I2 := I.laid (t' := s'.toks) (a := s'.heap.objs.size) (o := .tup vs) hk (Nat.le_refl _) ⟨by rw [← hrl.length]; exact hl, acc, hv, _, Heap.get?_push_size _ rfl, rfl, _, rfl⟩
    have gr2 : Grow μ H μ (upd H s'.heap.objs.size (.tup vs)) := grow_fresh hn
    refine ⟨⟨_, Heap.get?_push_size _ rfl, rfl⟩, ?_⟩
    exact hQ (.tup ds) S' μ _ (.ref s'.heap.objs.size) _ _ rfl (gr.trans gr2) (w.add hn) I2 (rep_tup (w.add hn) upd_same (hrl.mono gr2)) rfl
  · exact absurd rfl hb
end Gp

set_option Elab.async false
set_option linter.all false
set_option maxRecDepth 100000
set_option maxHeartbeats 1000000
/-! Gp29: constants of the module; lambdas as values; the law's own end -/
namespace Gp
open PySem PySem.Spec L2
open PyProof.Rows hiding St

/-! ### constants of the module: tuples of tuples -/
mutual
def cstB (K : PySem.W.Frag) : D → Value → Bool
  | .non, u => decide (u = .none)
  | .bl b, u => decide (u = .bool b)
  | .int i, u => match u with
    | .int j _ => decide (i = j)
    | _ => false
  | .str s, u => match u with
    | .str t _ => decide (s = t)
    | _ => false
  | .kt l, u => match u with
    | .ref a => match K.lookup a with
      | some ⟨.type c, none, .seq its _, _⟩ => decide (c = "tuple") && (decide (its.size ≤ sizeLine) && cstL K l its.toList)
      | _ => false
    | _ => false
  | _, _ => false
termination_by structural x => x
def cstL (K : PySem.W.Frag) : List D → List Value → Bool
  | [], us => us.isEmpty
  | d :: l, us => match us with
    | u :: r => cstB K d u && cstL K l r
    | [] => false
termination_by structural x => x
end
section
variable {g : G} {μ : List Addr} {H : Hp}
mutual
theorem cst_rep : ∀ {d : D} {u : Value}, cstB g.K d u = true → ∃ v, RelV v u ∧ ∀ H μ, Rep g H μ d v
  | .non, u, h => by
    simp only [cstB, decide_eq_true_eq] at h
    subst h; exact ⟨.non, rfl, fun _ _ => by simp [Rep]⟩
  | .bl b, u, h => by
    simp only [cstB, decide_eq_true_eq] at h
    subst h; exact ⟨.bl b, rfl, fun _ _ => by simp [Rep]⟩
  | .int i, u, h => by
    simp only [cstB] at h
    split at h
    · simp only [decide_eq_true_eq] at h
      subst h; exact ⟨.int i, ⟨_, rfl⟩, fun _ _ => by simp [Rep]⟩
    · cases h
  | .str i, u, h => by
    simp only [cstB] at h
    split at h
    · simp only [decide_eq_true_eq] at h
      subst h; exact ⟨.str i, ⟨_, rfl⟩, fun _ _ => by simp [Rep]⟩
    · cases h
  | .kt l, u, h => by
    simp only [cstB] at h
    split at h
    · rename_i a
      split at h
      · rename_i c its n osl e
        simp only [Bool.and_eq_true, decide_eq_true_eq] at h
        obtain ⟨rfl, h1, h2⟩ := h
        obtain ⟨vs, hv, hr⟩ := cst_repL h2
        exact ⟨.ref a, rfl, fun H μ => by simp only [Rep]; exact ⟨a, vs, rfl, ⟨_, its, n, e, rfl, rfl, rfl, h1, hv⟩, hr H μ⟩⟩
      · cases h
    · cases h
  | .tup _, _, h => by simp [cstB] at h
  | .ls _, _, h => by simp [cstB] at h
  | .sq _, _, h => by simp [cstB] at h
  | .dc _ _, _, h => by simp [cstB] at h
  | .ob _ _, _, h => by simp [cstB] at h
  | .ref _, _, h => by simp [cstB] at h
  | .fn _, _, h => by simp [cstB] at h
  | .lam _, _, h => by simp [cstB] at h
theorem cst_repL : ∀ {l : List D} {us : List Value}, cstL g.K l us = true → ∃ vs, Vals vs us ∧ ∀ H μ, RepL g H μ l vs
  | [], us, h => by
    simp only [cstL, List.isEmpty_iff] at h
    subst h; exact ⟨[], .nil, fun _ _ => .nil⟩
  | d :: l, us, h => by
    simp only [cstL] at h
    split at h
    · simp only [Bool.and_eq_true] at h
      obtain ⟨v, hv, hr⟩ := cst_rep h.1
      obtain ⟨vs, hvs, hrs⟩ := cst_repL h.2
      exact ⟨v :: vs, .cons hv hvs, fun H μ => .cons (hr H μ) (hrs H μ)⟩
    · cases h
end
/-- the module's constant x is d -/
def CstOk (g : G) (p : Str × D) : Prop := ∃ u, g.mg p.1 = some u ∧ cstB g.K p.2 u = true
def cstsB (cs : List (Str × D)) (K : PySem.W.Frag) : Bool := cs.all fun p => match PySem.W.nsIn K mainGlobals p.1 with
  | some (some u) => cstB K p.2 u
  | _ => false
theorem csts_ok {cs : List (Str × D)} {h : Heap} (X : g.K.In h) (G : h.Ns mainGlobals g.mg) (e : cstsB cs g.K = true) : ∀ p ∈ cs, CstOk g p := fun p hp => by
  have z := List.all_eq_true.mp e p hp
  split at z
  · rename_i u eu
    exact ⟨u, PySem.W.mg_of X G eu, z⟩
  · cases z
variable {N : List Str} {sc : Scope} {L : Nat} {pos : Pos}
theorem re_gcst {x : Str} {d : D} (h : CstOk g (x, d)) (hg : sc.names.lookup x = some .globalImplicit) (hdb : (x == ("__debug__" : Str)) = false := by decide) : Real g N sc L (.Name x pos) (gC d) := by
  intro Wx X C
  obtain ⟨u, e, hc⟩ := h
  obtain ⟨v, hv, hr⟩ := cst_rep hc
  refine (pe_glob (X := X) (v := v) (u := u) (show Gl X x by unfold Gl Env.kindOf; rw [C.sc]; exact hg) (by rw [C.mg]; exact e) hv hdb).weak ?_
  rintro σ H Q ⟨ρ, S, μ, he, hw, h⟩
  exact h v H μ (.refl _ _) hw (hr H μ)
end
end Gp

set_option Elab.async false
set_option linter.all false
set_option maxRecDepth 100000
set_option maxHeartbeats 2000000
/-! Gp30: lambdas as values: made, told -/
namespace Gp
open PySem PySem.Spec L2
open PyProof.Rows hiding St

def lamφ (a c : Addr) (q : Str) (params : Arguments) (body : Expr) (scope : Scope) (cl : List (Str × Addr)) : Heap → Prop := fun h => ∃ pm ctv, h.get? a = some (PySem.W.kla_obj "<lambda>" q params body scope (cloFrom cl scope.names []) pm c ctv)
theorem codeφ_eq (c : Addr) (q : Str) : LamX.CodeO c q = .ext (codeφ c q) := rfl
/-- the lambdas of a def, by their marks -/
def lamRT (tab : List (Str × Expr)) (q : Str) (cl : List (Str × Addr)) : Str → Addr → Addr → (Heap → Prop) → (Heap → Prop) → Prop := fun x a c φ ψ =>
  ∃ e ∈ tab, e.1 = x ∧ ∃ params body scope pos, e.2 = .Lambda params body scope pos ∧ φ = lamφ a c q params body scope cl ∧ ψ = codeφ c q
section
variable {X : Cx} {pins : List (Addr × Obj)} {σ : L2.St} {H : Hp} {s : Shared}
theorem lam_obj {X : Cx} {H : Hp} {f c' : Addr} {q : Str} {params : Arguments} {body : Expr} {scope : Scope} {cl : List (Str × Addr)} {pm ctv : Value} {h : Heap} (e : h.get? f = some (PySem.W.kla_obj "<lambda>" q params body scope (cloFrom cl scope.names []) pm c' ctv)) :
    ObjOk X.prog X.w H h f (.ext (lamφ f c' q params body scope cl)) :=
  ⟨⟨pm, ctv, e⟩, ⟨_, e⟩, fun h1 h2 ⟨pm, ctv, e⟩ k => ⟨pm, ctv, k _ e⟩⟩
/-- a lambda is made: it is known from now on -/
theorem lam_new {T : TbT} {c P : Addr} {q : Str} {kd : Nat → Nat → Bool} {params : Arguments} {body : Expr} {scope : Scope} {pos : Pos} {E : Value → Shared → Prop} {Q : Value → Shared → Prop} (I : Inv X pins σ H s) (TB : LamX.TabB X.base X.mg c P) (hcode : X.env.code = .ref c) (hqu : X.env.qual = q)
    (hm : (P, q, kd) ∈ T) (hu : ∀ p ∈ T, p.1 = P → p.2 = (q, kd)) (hkd : kd pos.line pos.col = true) (hT : TabsA T H) (hdef : defaultsOf params X.env = ([], [])) (hfree : ∀ y ∈ scope.names, y.2 = .free → ∃ c, X.env.cells.lookup y.1 = some c)
    (h : ∀ (f c' : Addr) (H1 : Hp) (s' : Shared), Inv X pins σ H1 s' → LamX.ExtN H H1 → TabsA T H1 → H1 f = some (.ext (lamφ f c' (q ++ "<lambda>") params body scope X.env.cells)) → H f = none → H1 c' = some (LamX.CodeO c' (q ++ "<lambda>")) → (H c' = none ∨ H c' = H1 c') → Q (.ref f) s') :
    wpAny (model X.prog X.w) X.A (eval (.Lambda params body scope pos) X.env) Q E s := by
  obtain ⟨ps, hP, ht, ha⟩ := hT _ hm
  refine PySem.W.kla_eval hdef ?_
  rw [hqu]
  have bP : s.heap.BuiltinsAt X.mg P := TB.bm.keeps I.bk
  have hP' : s.heap.get? P = some { cls := .none, data := .fields ps } := I.hok P _ hP
  cases hc : codeAmong pos ps.toList with
  | none =>
    refine PySem.W.kla_makeFunction (mg := X.mg) (c := c) (P := P) (ps := ps) (closure_ok hfree) I.ok.glob (I.mod.glob.keeps I.bk) hcode (TB.code.keeps I.bk) hP' ht hc TB.gP bP fun c' ctv h' tk hx hge hlt hrec htb => ?_
    obtain ⟨c2, oc, vs, t, e2, hoc, hd, hv⟩ := hrec
    cases e2
    have nC : H c' = none := I.hok.fresh hge
    have I1 := LamX.inv_table (t' := tk) (q := q ++ "<lambda>") (more := #[rawInt pos.line, rawInt pos.col, .ref c']) (h' := h') I hP hx htb hge ⟨oc, vs, t, hoc, hd, hv⟩
    have hsz : s.heap.objs.size ≤ h'.objs.size := Nat.le_trans hge (Nat.le_of_lt hlt)
    have hE : LamX.ExtN H (upd (upd H P (.tbl (ps ++ #[rawInt pos.line, rawInt pos.col, .ref c']))) c' (LamX.CodeO c' (q ++ "<lambda>"))) := fun b o e n => by
      rw [upd_ne (ne_of_none e nC), upd_ne (fun z => n ps (Option.some.inj (e.symm.trans (by rw [z]; exact hP))))]
      exact e
    generalize hH2 : upd (upd H P (.tbl (ps ++ #[rawInt pos.line, rawInt pos.col, .ref c']))) c' (LamX.CodeO c' (q ++ "<lambda>")) = H2 at I1 hE
    have nf : H2 h'.objs.size = none := I1.hok.fresh (Nat.le_refl _)
    have kp : ∀ b o, h'.get? b = some o → (h'.push (PySem.W.kla_obj "<lambda>" (q ++ "<lambda>") params body scope (cloFrom X.env.cells scope.names []) ((X.mg "__name__").getD .none) c' ctv)).get? b = some o := fun b o e => Heap.get?_push_of_some _ e
    have I2 := I1.laid (t' := tk) (a := h'.objs.size) (o := .ext (lamφ h'.objs.size c' (q ++ "<lambda>") params body scope X.env.cells)) kp (Nat.le_refl _) (lam_obj (Heap.get?_push_size _ rfl))
    have eL : (ps ++ #[rawInt pos.line, rawInt pos.col, .ref c']).toList = ps.toList ++ [rawInt pos.line, rawInt pos.col, .ref c'] := by simp
    have hE2 : ∀ b o, H2 b = some o → upd H2 h'.objs.size (.ext (lamφ h'.objs.size c' (q ++ "<lambda>") params body scope X.env.cells)) b = some o := fun b o e => by rw [upd_ne (ne_of_none e nf)]; exact e
    have hC2 : H2 c' = some (LamX.CodeO c' (q ++ "<lambda>")) := by rw [← hH2, upd_same]
    have ht2 : TriplesOk (ps ++ #[rawInt pos.line, rawInt pos.col, .ref c']).toList := by rw [eL]; exact PySem.TriplesOk_snoc _ _ _ _ ht
    have hk1 : ∀ b o, b ≠ P → H b = some o → H2 b = some o := fun b o n e => by rw [← hH2, upd_ne (ne_of_none e nC), upd_ne n]; exact e
    have T2 : TabsA T H2 := tabsA_step hT ht ht2 hP (by rw [← hH2, upd_ne (ne_of_none hP nC), upd_same]) hk1 fun p hp hpP pos' cv hcv => by
      rw [eL] at hcv
      rcases among_app _ ht hcv with z | ⟨z, z1, z2⟩
      · exact .inl z
      · refine .inr ?_
        rw [← z1, ← z2, hu p hp hpP]
        show EntOk T H2 q (kd pos.line pos.col) cv
        rw [hkd]
        exact ⟨c', z, hC2⟩
    exact h h'.objs.size c' _ _ I2 (hE.trans (LamX.ExtN.of hE2)) (T2.keep fun b o e _ => hE2 b o e) upd_same (I.hok.fresh hsz) (hE2 _ _ hC2) (.inl nC)
  | some cv =>
    have hent := ha pos cv hc
    rw [show (P, q, kd).2.2 pos.line pos.col = true from hkd] at hent
    obtain ⟨c', e, hco⟩ := hent
    subst e
    refine PySem.W.kla_makeFunctionHit (mg := X.mg) (c := c) (P := P) (ps := ps) (closure_ok hfree) I.ok.glob (I.mod.glob.keeps I.bk) hcode (TB.code.keeps I.bk) hP' ht hc bP fun ctv h' tk hx hsz => ?_
    have I1 : Inv X pins σ H { s with heap := h', toks := tk } := I.kept hx
    have nf : H h'.objs.size = none := I.hok.fresh hsz
    have kp : ∀ b o, h'.get? b = some o → (h'.push (PySem.W.kla_obj "<lambda>" (q ++ "<lambda>") params body scope (cloFrom X.env.cells scope.names []) ((X.mg "__name__").getD .none) c' ctv)).get? b = some o := fun b o e => Heap.get?_push_of_some _ e
    have I2 := I1.laid (t' := tk) (a := h'.objs.size) (o := .ext (lamφ h'.objs.size c' (q ++ "<lambda>") params body scope X.env.cells)) kp (Nat.le_refl _) (lam_obj (Heap.get?_push_size _ rfl))
    have hE2 : ∀ b o, H b = some o → upd H h'.objs.size (.ext (lamφ h'.objs.size c' (q ++ "<lambda>") params body scope X.env.cells)) b = some o := fun b o e => by rw [upd_ne (ne_of_none e nf)]; exact e
    refine h h'.objs.size c' _ _ I2 (LamX.ExtN.of hE2) (hT.keep fun b o e _ => hE2 b o e) upd_same nf (hE2 _ _ hco) (.inr ?_)
    rw [hE2 _ _ hco, hco]
end
section
variable {g : G} {N : List Str} {sc : Scope} {L : Nat}
/-- where the def's code object and its table stand, for its lambdas -/
structure LTab (g : G) (N : List Str) (sc : Scope) (q : Str) (kd : Nat → Nat → Bool) : Prop where
  ex : ∃ (mk : Str) (c P : Addr) (T : TbT), mk ∈ N ∧ (mk, q, c, P) ∈ g.cods ∧ lamLike sc = false ∧ LamX.TabB g.base g.mg c P ∧ TbOk g T ∧ (P, q, kd) ∈ T ∧ ∀ p ∈ T, p.1 = P → p.2 = (q, kd)
/-- lambda: e, held -/
theorem re_lam {x q m : Str} {kd : Nat → Nat → Bool} {params : Arguments} {body : Expr} {scope : Scope} {lpos : Pos} (hT : LTab g N sc q kd) (hkd : kd lpos.line lpos.col = true) (hd : isDef sc = true) (hM : g.lamM = some m) (hm : m ∈ N) (LS : LamX.LamS sc scope) (hdef : ∀ env : Env, defaultsOf params env = ([], []))
    (hR : ∀ a c, g.lamR x a c (lamφ a c (q ++ "<lambda>") params body scope g.lamC) (codeφ c (q ++ "<lambda>"))) : Real g N sc L (.Lambda params body scope lpos) (gC (.lam x)) := by
  obtain ⟨mk, c, P, T, h1, h2, h3, h4, h5, h6, h7⟩ := hT.ex
  intro Wx X C
  have hcq : X.env.qual = q ∧ X.env.code = .ref c := C.cd (by rw [C.sc]; exact h3) _ h2 (by rw [C.N]; exact h1)
  have hcl : X.env.cells = g.lamC := C.lc (by rw [C.sc]; exact h3) (by rw [C.sc]; exact hd) m hM (by rw [C.N]; exact hm)
  refine ⟨fun pins s σ H Q I h => ?_⟩
  obtain ⟨ρ, S, μ, he, hw, h⟩ := h
  refine lam_new (T := T) I (by rw [C.base, C.mg]; exact h4) hcq.2 hcq.1 h6 h7 hkd ((h5 H).mp hw.tb) (hdef X.env) ((show LamX.LamS X.env.scope scope by rw [C.sc]; exact LS).has I.ok) fun f c' H1 s' I1 eN T1 ef nf ec nc => ?_
  have gr : Grow μ H μ H1 := grow_ext eN
  refine ⟨.ref f, H1, I1, rfl, h (.ref f) H1 μ gr (hw.ext eN ((h5 H1).mpr T1)) ?_⟩
  simp only [Rep]
  refine ⟨f, c', _, _, rfl, hw.fresh nf, fun hm => ?_, ef, ec, by rw [hcl]; exact hR f c'⟩
  obtain ⟨u, e, _, n2, _⟩ := hw.there hm
  rcases nc with z | z
  · rw [z] at e; cases e
  · rw [z, ec] at e
    cases e
    exact n2 _ rfl
end
end Gp

set_option Elab.async false
set_option linter.all false
set_option maxRecDepth 100000
set_option maxHeartbeats 2000000
/-! Gp31: lambdas that are held, told -/
namespace Gp
open PySem PySem.Spec L2
open PyProof.Rows hiding St

section
variable {X : Cx} {pins : List (Addr × Obj)} {σ : L2.St} {H : Hp} {s : Shared}
/-- a(), in the def that got the lambda -/
theorem lam_act {CXg : CXT} {Eg : XK} {Ng : List Str} {qg q : Str} {sg : Scope} {g f c' : Addr} {cdg : Value} {params : Arguments} {body : Expr} {scope : Scope} {k i : Nat} {a : Str} {pn : List (Addr × Obj)} {xe : Value → Shared → Prop} {W : WX} {E : XK} {tb : TE} {p1 p2 : Pos}
    (I : Inv X pins σ H s) (LS : LamX.LamS X.env.scope scope) (hq : X.env.qual ++ "<lambda>" = q)
    (hbind : ∀ pm ctv, bindArgs (PySem.W.kla_fn "<lambda>" q params body scope (cloFrom X.env.cells scope.names []) pm (.ref c') ctv) ⟨[], []⟩ = pure [])
    (tk : Takes ((cxOf CXg X.prog X.w X.K X.mg X.base Ng qg sg g cdg X.A X.stack s H Eg).tr pn xe) W) (hW : ∀ cls d σ' H', E cls d H' → W cls d σ' H') (hr : Room (k + 1) (X.A.deeper (envOfC qg sg s.heap.objs.size g cdg)))
    (hbody : ∀ (A : Around) (outer : List Env) (s : Shared) (H : Hp), Room k (A.deeper (LamX.lamEnv X scope s.heap.objs.size f c')) → PE (LamX.lamCx X A outer s H E scope f c') body tb)
    (hN : Ng[i]? = some a) (hv : Vis sg a) (hd : (a == ("__debug__" : Str)) = false := by decide) (hcd : (a == ("__classdict__" : Str)) = false := by decide) :
    PE ((cxOf CXg X.prog X.w X.K X.mg X.base Ng qg sg g cdg X.A X.stack s H Eg).tr pn xe) (.Call (.Name a p1) [] [] p2)
      (fun σZ HZ Q => σZ[i]? = some (some (.ref f)) ∧ HZ c' = some (LamX.CodeO c' q) ∧ HZ f = some (.ext (lamφ f c' q params body scope X.env.cells)) ∧ tb σ HZ Q) := by
  refine ⟨fun pinsZ sZ σZ HZ Q IZ h => ?_⟩
  obtain ⟨hs, hc, hf, ht⟩ := h
  refine wpAny_Call_Name_kw (thn ((pe_var (pos := p1) (i := i) hN hv hd hcd).run pinsZ sZ σZ HZ (fun v H1 => v = .ref f ∧ H1 = HZ) IZ ⟨.ref f, hs, rfl, rfl⟩) fun u s1 ⟨v, H1, I1, r1, q1⟩ => ?_)
  obtain ⟨ev, eH⟩ := q1
  subst ev
  rw [eH] at I1
  obtain rfl : u = Value.ref f := r1
  obtain ⟨pm, ctv, of1⟩ := (I1.hok f _ hf).1
  refine PySem.W.callWith_F0 ⟨_, _, _, _, of1⟩ ?_
  have un : Un (frs X.stack) [] H HZ s.heap s1.heap := I1.base
  obtain ⟨⟨oc, vs, t, hoc, hdc, hvc⟩, _, _⟩ := I1.hok c' _ hc
  have rc : codeAny (model X.prog X.w) (X.A.deeper (envOfC qg sg s.heap.objs.size g cdg)) (.call (.ref f) ⟨[], []⟩) (CR (L2.CX X.prog X.w) (envOfC qg sg s.heap.objs.size g cdg :: X.stack) X.prog X.w HZ s1 Q E) s1 := by
    refine PySem.W.kla_callFunE hr.depth of1 rfl LS.co LS.gen rfl ⟨c', oc, vs, t, rfl, hoc, hdc, hvc⟩ ?_
    rw [hbind]
    refine wpAny_pure (wpAny_newFunctionEnv (fun y hy => (LS.own y hy).2) (fun y hy => absurd hy (by simp)) (fun h₁ hns hsb => ⟨I1.nolimit.fresh _ hsb, ?_⟩) LS.kind)
    subst hq
    show codeAny _ _ (.expr body (LamX.lamEnv X scope s1.heap.objs.size f c')) _ _
    have kp : ∀ b o, s1.heap.get? b = some o → h₁.get? b = some o := fun b o e => hsb.extBut b o (Nat.ne_of_lt (Heap.lt_size e)) (Heap.get?_push_of_some _ e)
    have J : Inv (LamX.lamCx X (X.A.deeper (envOfC qg sg s.heap.objs.size g cdg)) (envOfC qg sg s.heap.objs.size g cdg :: X.stack) s1 HZ E scope f c') [] σ HZ { s1 with heap := h₁, toks := s1.toks + ([] : List (Str × Value)).length } :=
      LamX.lam_start2 I LS I1.env0 hr.hd un hns kp
    refine PySem.W.kla_codeExpr (wpAny_mono ((hbody _ _ s1 HZ (hr.deeper _)).run [] _ _ HZ Q J ht) (fun v s' hq => ?_) fun e s' hq => hq)
    obtain ⟨w', H', J', rv, q⟩ := hq
    exact ⟨w', H', J'.os, J'.bare, J'.base, J'.hok, rv, q⟩
  have hx : Passes (L2.CX X.prog X.w) ((cxOf CXg X.prog X.w X.K X.mg X.base Ng qg sg g cdg X.A X.stack s H Eg).tr pn xe) E := passes_call tk hW
  refine wpAny_call (codeAny_mono rc fun r s' hq => ?_)
  cases r with
  | error e => exact hx pinsZ σZ HZ s1 e s' I1 hq
  | ok fl =>
    cases fl with
    | ret u => exact I1.after hq
    | next => exact False.elim hq
    | brk => exact False.elim hq
    | cont => exact False.elim hq
end

def llook (x : Str) : List (Str × GE) → Option GE
  | [] => none
  | p :: r => if p.1 = x then some p.2 else llook x r
/-- the lambdas' bodies are worth what the table tells -/
def LamsOk (g : G) (N : List Str) (sc : Scope) (k : Nat) (tab : List (Str × Expr)) (lt : List (Str × GE)) : Prop := ∀ x m, llook x lt = some m → ∀ e ∈ tab, e.1 = x → ∀ params body scope pos, e.2 = .Lambda params body scope pos →
  Real g N scope k body m ∧ LamX.LamS sc scope ∧ ∀ (q : Str) (cl : List (Str × Addr)) (pm cv ctv : Value), bindArgs (PySem.W.kla_fn "<lambda>" q params body scope cl pm cv ctv) ⟨[], []⟩ = pure []
theorem lams_nil {g : G} {N : List Str} {sc : Scope} {k : Nat} : LamsOk g N sc k [] [] := fun x m h => by cases h
theorem lams_cons {g : G} {N : List Str} {sc : Scope} {k : Nat} {x : Str} {e : Expr} {m : GE} {tab : List (Str × Expr)} {lt : List (Str × GE)} {params : Arguments} {body : Expr} {scope : Scope} {pos : Pos} (he : e = .Lambda params body scope pos) (hx : (tab.all fun p => decide (p.1 ≠ x)) = true) (hb : Real g N scope k body m) (LS : LamX.LamS sc scope)
    (hbind : ∀ (q : Str) (cl : List (Str × Addr)) (pm cv ctv : Value), bindArgs (PySem.W.kla_fn "<lambda>" q params body scope cl pm cv ctv) ⟨[], []⟩ = pure []) (h : LamsOk g N sc k tab lt) : LamsOk g N sc k ((x, e) :: tab) ((x, m) :: lt) := by
  intro y m' hy e' he' hey params' body' scope' pos' el
  unfold llook at hy
  by_cases z : x = y
  · rw [if_pos z] at hy
    cases hy
    rcases List.mem_cons.mp he' with rfl | he'
    · rw [he] at el
      cases el
      exact ⟨hb, LS, hbind⟩
    · have := List.all_eq_true.mp hx e' he'
      simp only [decide_eq_true_eq] at this
      exact absurd (hey.trans z.symm) this
  · rw [if_neg z] at hy
    rcases List.mem_cons.mp he' with rfl | he'
    · exact absurd hey z
    · exact h y m' hy e' he' hey params' body' scope' pos' el
section
variable {g : G} {N : List Str} {sc : Scope} {L k : Nat} {Wx : WX} {X : Cx} {σ : L2.St}
/-- told(f), f a lambda of the def whose block this is -/
theorem told_held {x a q ret er : Str} {gA CS : Addr} {pg : Arguments} {sg : Scope} {dV kV doc pm cdv ct oc : Value} {an od : Option Addr} {osl : Array (Option Value)} {Ng : List Str} {j : Nat} {p1 p2 p3 p4 p5 p6 p7 p8 : Pos} {yes : List Str}
    {f : Str} {i : Nat} {p pf pos : Pos} {scope : Scope} {fp : List Addr} {pins3 : List (Addr × Obj)} {s3 : Shared} {H3 : Hp} {ce : Env} {scb : Scope}
    (C : CtxOk g N sc L Wx X) (CB : CtxOk g N scb L noX (X.blk s3 H3 scope ce fp)) (I3 : Inv X pins3 σ H3 s3) (hfp : ∀ b ∈ fp, FpOk X pins3 H3 b) (hqq : X.env.qual = q)
    (hx : scb.names.lookup x = some .globalImplicit) (hm : g.mg x = some (.ref gA)) (hk : PySem.W.keepIn g.K (.ref gA) = true)
    (lk : g.K.lookup gA = some ⟨oc, od, .func (PySem.W.fnOf x x pg [.Try [.Return (some (.Call (.Name a p1) [] [] p2)) p3] [.ExceptHandler (some (.Name er p4)) none [.Return (some (.Constant (.str ret) j p5)) p6] p7] [] [] p8] sg dV kV doc pm an cdv ct), osl⟩)
    (hcg : PySem.W.codeIn g.K cdv x = true) (hb : L2.Binds g.K (PySem.W.fnOf x x pg [.Try [.Return (some (.Call (.Name a p1) [] [] p2)) p3] [.ExceptHandler (some (.Name er p4)) none [.Return (some (.Constant (.str ret) j p5)) p6] p7] [] [] p8] sg dV kV doc pm an cdv ct) [a] []) (Sg : FnScope Ng [a] sg) (hNg : Ng[0]? = some a) (hva : Vis sg a)
    (hge : sg.names.lookup er = some .globalImplicit) (hme : g.mg er = some (.ref CS)) (h0 : ∀ f : Addr, (L2.start Ng [V.ref f])[0]? = some (some (V.ref f)))
    (hy : ∀ c ∈ yes, ExmOk g er c true) (hL : k + 2 ≤ L) (hfi : N[i]? = some f) (hfv : Vis scb f)
    (hdb : (x == ("__debug__" : Str)) = false := by decide) (hd : (a == ("__debug__" : Str)) = false := by decide) (hcd : (a == ("__classdict__" : Str)) = false := by decide) (hde : (er == ("__debug__" : Str)) = false := by decide)
    (hd2 : (f == ("__debug__" : Str)) = false := by decide) (hcd2 : (f == ("__classdict__" : Str)) = false := by decide) :
    PE (X.blk s3 H3 scope ce fp) (.Call (.Name x p) [.Name f pf] [] pos) (fun σ' H' Q => ∃ (a c' : Addr) (params : Arguments) (body : Expr) (scl : Scope) (m : GE) (ρ : Ev) (μ : List Addr) (S : Sto),
      σ'[i]? = some (some (.ref a)) ∧ H' a = some (.ext (lamφ a c' (q ++ "<lambda>") params body scl X.env.cells)) ∧ H' c' = some (LamX.CodeO c' (q ++ "<lambda>")) ∧ Real g N scl k body m ∧ LamX.LamS sc scl ∧
      (∀ (q : Str) (cl : List (Str × Addr)) (pm cv ctv : Value), bindArgs (PySem.W.kla_fn "<lambda>" q params body scl cl pm cv ctv) ⟨[], []⟩ = pure []) ∧
      EnvOk g H' μ ρ σ ∧ W g μ H' S ∧ ∃ c S1, m ρ S = .exc c S1 ∧ c ∈ yes ∧ ∀ H2 μ2, Grow μ H' μ2 H2 → W g μ2 H2 S1 → Q (.str ret) H2) := by
  refine ⟨fun pinsb s' σ' H' Q Ib h => ?_⟩
  obtain ⟨f', c', params, body, scl, m, ρ, μ, S, hs, hf, hc, hR, LS, hbind, he, hw, c, S1, em, hcy, hQ⟩ := h
  refine wpAny_Call_Name_kw (ld_glob Ib (show Gl (X.blk s3 H3 scope ce fp) x by unfold Gl Env.kindOf; rw [CB.sc]; exact hx) (by rw [CB.mg]; exact hm) ?_ hdb)
  refine PySem.W.callWith_K (h₀ := X.base) Ib.ok.mod.kin (by rw [CB.K]; exact hk) ?_ (by rfl) (by rfl)
  show wpAny _ _ (spliced ((false, eval (.Name f pf) ce) :: backTo pos (starEach [] ce))) _ _ s'
  refine Calls.spliced_cons (thn ((pe_var (X := X.blk s3 H3 scope ce fp) (pos := pf) (i := i) (by rw [CB.N]; exact hfi) (by rw [CB.sc]; exact hfv) hd2 hcd2).run pinsb s' σ' H' (fun v H1 => v = .ref f' ∧ H1 = H') Ib ⟨.ref f', hs, rfl, rfl⟩) fun u s1 ⟨v, H1, I1, r1, ev, eH⟩ => ?_)
  subst ev
  rw [eH] at I1
  obtain rfl : u = Value.ref f' := r1
  refine Calls.spliced_nil ⟨I1.kIn, ?_⟩
  have IX : Inv X pins3 σ H' s1 := I3.call' (ch := fp) I1.os I1.base I1.hok I1.bare fun b hb => ⟨(hfp b hb).2.2.2.1, (hfp b hb).2.1, (hfp b hb).2.2.2.2.1, (hfp b hb).2.2.2.2.2⟩
  have hlam : lamLike scl = true := by
    unfold lamLike
    rw [List.all_eq_true]
    intro y hy
    have z := LS.own y hy
    simp [z.1, z.2]
  have LSX : LamX.LamS X.env.scope scl := by rw [C.sc]; exact LS
  have rc : codeAny (model X.prog X.w) X.A (.call (.ref gA) ⟨[.ref f'], []⟩) (CR C8.CX0 X.stack X.prog X.w H' s1 Q C8.E0) s1 := by
    refine LamX.run_ofS (N := Ng) (ps := [a]) (us := [.ref f']) (vs := [.ref f']) (by rw [C.K]; exact lk) (by rw [C.K]; exact hcg) Sg (C.room.mono hL) IX.env0 (by have z := IX.kIn; rw [C.K] at z; exact hb s1 [.ref f'] z rfl) (.cons rfl .nil) rfl fun hr' => ?_
    obtain ⟨t', ht', hq'⟩ := LamX.told_gives (X := X) (q := q ++ "<lambda>") hge (by rw [C.mg]; exact hme) hde h0 f' c' s1 H' Q
      (fun E HZ Q' => HZ f' = some (.ext (lamφ f' c' (q ++ "<lambda>") params body scl X.env.cells)) ∧ tG g (fun cls d _ H => E cls d H) m σ HZ Q')
      (fun W pn xe E p1 p2 tk hW => lam_act (i := 0) IX LSX (by rw [hqq]) (fun pm ctv => hbind _ _ _ _ _) tk hW hr' (fun A outer s H hr2 => hR _ _ ⟨C.prog, C.wd, C.K, C.mg, C.base, C.N, rfl, rfl, takes_of rfl rfl rfl rfl, hr2, passes_of rfl,
        (fun z => by rw [show (LamX.lamCx X A outer s H E scl f' c').env.scope = scl from rfl, hlam] at z; cases z), (fun z => by have z' : scl.isGenerator = true := z; rw [LS.gen] at z'; cases z'), fun z => by rw [show (LamX.lamCx X A outer s H E scl f' c').env.scope = scl from rfl, hlam] at z; cases z⟩) hNg hva hd hcd) hc ⟨hf, ρ, S, μ, he, hw, by
        rw [em]
        intro H2 μ2 g2 w2 C' hC'
        exact ⟨true, by rw [C.K]; exact hy c hcy CS C' hme hC', fun _ => hQ H2 μ2 g2 w2, fun z => by cases z⟩⟩
    exact ⟨t', ht'.nox, hq'⟩
  refine wpAny_call (codeAny_mono rc fun r s2 hq => ?_)
  cases r with
  | error e => exact (show False from hq).elim
  | ok fl =>
    cases fl with
    | ret u => exact I1.after hq
    | next => exact False.elim hq
    | brk => exact False.elim hq
    | cont => exact False.elim hq
end
section
variable {g : G} {N : List Str} {sc : Scope} {L k : Nat} {mb : GE}
/-- told(lambda: e) -/
theorem re_told {kd : Nat → Nat → Bool} {x a q ret er : Str} {gA CS : Addr} {pg : Arguments} {sg : Scope} {dV kV doc pm cdv ct oc : Value} {an od : Option Addr} {osl : Array (Option Value)} {Ng : List Str} {j : Nat} {p1 p2 p3 p4 p5 p6 p7 p8 : Pos}
    {params : Arguments} {body : Expr} {scope : Scope} {p lpos pos : Pos} {yes : List Str}
    (hx : sc.names.lookup x = some .globalImplicit) (hm : g.mg x = some (.ref gA)) (hk : PySem.W.keepIn g.K (.ref gA) = true)
    (lk : g.K.lookup gA = some ⟨oc, od, .func (PySem.W.fnOf x x pg [.Try [.Return (some (.Call (.Name a p1) [] [] p2)) p3] [.ExceptHandler (some (.Name er p4)) none [.Return (some (.Constant (.str ret) j p5)) p6] p7] [] [] p8] sg dV kV doc pm an cdv ct), osl⟩)
    (hcg : PySem.W.codeIn g.K cdv x = true) (hb : L2.Binds g.K (PySem.W.fnOf x x pg [.Try [.Return (some (.Call (.Name a p1) [] [] p2)) p3] [.ExceptHandler (some (.Name er p4)) none [.Return (some (.Constant (.str ret) j p5)) p6] p7] [] [] p8] sg dV kV doc pm an cdv ct) [a] []) (Sg : FnScope Ng [a] sg) (hNg : Ng[0]? = some a) (hva : Vis sg a)
    (hge : sg.names.lookup er = some .globalImplicit) (hme : g.mg er = some (.ref CS)) (h0 : ∀ f : Addr, (L2.start Ng [V.ref f])[0]? = some (some (V.ref f)))
    (hy : ∀ c ∈ yes, ExmOk g er c true)
    (hT : LTab g N sc q kd) (hkd : kd lpos.line lpos.col = true) (hL : k + 2 ≤ L) (LS : LamX.LamS sc scope)
    (hdef : ∀ env : Env, defaultsOf params env = ([], []))
    (hbind : ∀ (q : Str) (cl : List (Str × Addr)) (pm cv ctv : Value), bindArgs (PySem.W.kla_fn "<lambda>" q params body scope cl pm cv ctv) ⟨[], []⟩ = pure [])
    (hbody : Real g N scope k body mb)
    (hdb : (x == ("__debug__" : Str)) = false := by decide) (hd : (a == ("__debug__" : Str)) = false := by decide) (hcd : (a == ("__classdict__" : Str)) = false := by decide) (hde : (er == ("__debug__" : Str)) = false := by decide) :
    Real g N sc L (.Call (.Name x p) [.Lambda params body scope lpos] [] pos) (gTold yes ret mb) := by
  obtain ⟨mk, c, P, T, h1, h2, h3, h4, h5, h6, h7⟩ := hT.ex
  intro Wx X C
  have hcq : X.env.qual = q ∧ X.env.code = .ref c := C.cd (by rw [C.sc]; exact h3) _ h2 (by rw [C.N]; exact h1)
  have hlam : lamLike scope = true := by
    unfold lamLike
    rw [List.all_eq_true]
    intro y hy
    have z := LS.own y hy
    simp [z.1, z.2]
  have LSX : LamX.LamS X.env.scope scope := by rw [C.sc]; exact LS
  refine ⟨fun pins s σ H Q I h => ?_⟩
  obtain ⟨ρ, S, μ, he, hw, h⟩ := h
  refine wpAny_Call_Name_kw (ld_glob I (show Gl X x by unfold Gl Env.kindOf; rw [C.sc]; exact hx) (by rw [C.mg]; exact hm) ?_ hdb)
  refine PySem.W.callWith_K (h₀ := X.base) I.ok.mod.kin (by rw [C.K]; exact hk) ?_ (by rfl) (by rfl)
  show wpAny _ _ (spliced ((false, eval (.Lambda params body scope lpos) X.env) :: backTo pos (starEach [] X.env))) _ _ s
  refine Calls.spliced_cons (lam_new (T := T) I (by rw [C.base, C.mg]; exact h4) hcq.2 hcq.1 h6 h7 hkd ((h5 H).mp hw.tb) (hdef X.env) (LSX.has I.ok) fun f c' H1 s' I1 eN T1 ef nf ec nc => ?_)
  refine Calls.spliced_nil ⟨I1.kIn, ?_⟩
  have gr : Grow μ H μ H1 := grow_ext eN
  have rc : codeAny (model X.prog X.w) X.A (.call (.ref gA) ⟨[.ref f], []⟩) (CR C8.CX0 X.stack X.prog X.w H1 s' Q C8.E0) s' := by
    refine LamX.run_ofS (N := Ng) (ps := [a]) (us := [.ref f]) (vs := [.ref f]) (by rw [C.K]; exact lk) (by rw [C.K]; exact hcg) Sg (C.room.mono hL) I1.env0 (by have z := I1.kIn; rw [C.K] at z; exact hb s' [.ref f] z rfl) (.cons rfl .nil) rfl fun hr' => ?_
    obtain ⟨t', ht', hq'⟩ := LamX.told_gives (X := X) (q := q ++ "<lambda>") hge (by rw [C.mg]; exact hme) hde h0 f c' s' H1 Q
      (fun E HZ Q' => HZ f = some (.ext (lamφ f c' (q ++ "<lambda>") params body scope X.env.cells)) ∧ tG g (fun cls d _ H => E cls d H) mb σ HZ Q')
      (fun W pn xe E p1 p2 tk hW => lam_act (i := 0) I1 LSX (by rw [hcq.1]) (fun pm ctv => hbind _ _ _ _ _) tk hW hr' (fun A outer s H hr2 => hbody _ _ ⟨C.prog, C.wd, C.K, C.mg, C.base, C.N, rfl, rfl, takes_of rfl rfl rfl rfl, hr2, passes_of rfl,
        (fun z => by rw [show (LamX.lamCx X A outer s H E scope f c').env.scope = scope from rfl, hlam] at z; cases z), (fun z => by have z' : scope.isGenerator = true := z; rw [LS.gen] at z'; cases z'), fun z => by rw [show (LamX.lamCx X A outer s H E scope f c').env.scope = scope from rfl, hlam] at z; cases z⟩) hNg hva hd hcd) ec ⟨ef, ρ, S, μ, he.mono gr, hw.ext eN ((h5 H1).mpr T1), by
        unfold gTold at h
        cases e : mb ρ S with
        | ok d S1 => rw [e] at h; exact PostR.later (r := .ok d S1) h gr
        | exc c' S1 =>
          rw [e] at h
          simp only at h
          by_cases hc : c' ∈ yes
          · rw [if_pos hc] at h
            intro H2 μ2 g2 w2 C' hC'
            exact ⟨true, by rw [C.K]; exact hy c' hc CS C' hme hC', fun _ => h (.str ret) H2 μ2 (gr.trans g2) w2 (by simp [Rep]), fun z => by cases z⟩
          · rw [if_neg hc] at h; exact h.elim
        | bad => rw [e] at h; exact h.elim⟩
    exact ⟨t', ht'.nox, hq'⟩
  refine wpAny_call (codeAny_mono rc fun r s2 hq => ?_)
  cases r with
  | error e => exact (show False from hq).elim
  | ok fl =>
    cases fl with
    | ret u => exact I1.after hq
    | next => exact False.elim hq
    | brk => exact False.elim hq
    | cont => exact False.elim hq
end
end Gp

set_option Elab.async false
set_option linter.all false
set_option maxRecDepth 100000
set_option maxHeartbeats 2000000
/-! Gp32: [e for f in lambdas if told(f) != name]: each is refused -/
namespace Gp
open PySem PySem.Spec L2
open PyProof.Rows hiding St

/-- each lambda of the walk raises one of yes -/
def badN (lt : List (Str × GE)) (yes : List Str) (ρ : Ev) (lk : Look) : Nat → Nat → Sto → Option Sto
  | 0, _, _ => none
  | n + 1, i, S => match lk i S with
    | some none => some S
    | some (some (.lam x)) => match llook x lt with
      | some m => match m ρ S with
        | .exc c S1 => if c ∈ yes then badN lt yes ρ lk n (i + 1) S1 else none
        | _ => none
      | none => none
    | _ => none
def gBad (lt : List (Str × GE)) (yes : List Str) (n : Nat) (mi : GI) : GE := fun ρ S => (mi ρ S).res fun lk S1 ul => unlR ul (match badN lt yes ρ lk n 0 S1 with
  | some S2 => .ok (.ls []) S2
  | none => .bad)
section
variable {g : G} {N : List Str} {sc : Scope} {L k : Nat}
theorem re_bad {tab : List (Str × Expr)} {lt : List (Str × GE)} {n : Nat} {q m : Str} {iter elt : Expr} {mi : GI} {scope : Scope} {own : List (Str × Nat)} {i : Nat} {f : Str} {pos pf pf2 p pc pk pq : Pos} {jk : Nat}
    {x a ret er : Str} {gA CS : Addr} {pg : Arguments} {sg : Scope} {dV kV doc pm cdv ct oc : Value} {an od : Option Addr} {osl : Array (Option Value)} {Ng : List Str} {j : Nat} {p1 p2 p3 p4 p5 p6 p7 p8 : Pos} {yes : List Str}
    (hN : N.Nodup) (hl : blkB sc scope = true) (hd : isDef sc = true) {kd : Nat → Nat → Bool} (hT : LTab g N sc q kd) (hM : g.lamM = some m) (hmN : m ∈ N) (hRT : ∀ x a c φ ψ, g.lamR x a c φ ψ → lamRT tab (q ++ "<lambda>") g.lamC x a c φ ψ)
    (hlt : LamsOk g N sc k tab lt) (hi : RealI g N sc L (.Name f pf) iter mi) (ok : BlkOk N sc scope own) (hown : own.map (·.2) = [i])
    (hfi : N[i]? = some f) (hfl : Loc (relS scope sc) f) (hfk : (scope.names.lookup f == some .cell) = true ∨ (relS scope sc).names.lookup f = some .local)
    (hgx : (relS scope sc).names.lookup x = some .globalImplicit) (hm : g.mg x = some (.ref gA)) (hk : PySem.W.keepIn g.K (.ref gA) = true)
    (hlk : g.K.lookup gA = some ⟨oc, od, .func (PySem.W.fnOf x x pg [.Try [.Return (some (.Call (.Name a p1) [] [] p2)) p3] [.ExceptHandler (some (.Name er p4)) none [.Return (some (.Constant (.str ret) j p5)) p6] p7] [] [] p8] sg dV kV doc pm an cdv ct), osl⟩)
    (hcg : PySem.W.codeIn g.K cdv x = true) (hbd : L2.Binds g.K (PySem.W.fnOf x x pg [.Try [.Return (some (.Call (.Name a p1) [] [] p2)) p3] [.ExceptHandler (some (.Name er p4)) none [.Return (some (.Constant (.str ret) j p5)) p6] p7] [] [] p8] sg dV kV doc pm an cdv ct) [a] []) (Sg : FnScope Ng [a] sg) (hNg : Ng[0]? = some a) (hva : Vis sg a)
    (hge : sg.names.lookup er = some .globalImplicit) (hme : g.mg er = some (.ref CS)) (h0 : ∀ f : Addr, (L2.start Ng [V.ref f])[0]? = some (some (V.ref f)))
    (hy : ∀ c ∈ yes, ExmOk g er c true) (hL : k + 2 ≤ L) (hs : ∀ (env : Env) x, foldedSetIterable iter env x = pure x)
    (hdb : (x == ("__debug__" : Str)) = false := by decide) (hda : (a == ("__debug__" : Str)) = false := by decide) (hcd : (a == ("__classdict__" : Str)) = false := by decide) (hde : (er == ("__debug__" : Str)) = false := by decide)
    (hd2 : (f == ("__debug__" : Str)) = false := by decide) (hcd2 : (f == ("__classdict__" : Str)) = false := by decide) :
    Real g N sc L (.ListComp elt [⟨.Name f pf, iter, [.Compare (.Call (.Name x p) [.Name f pf2] [] pc) [.NotEq] [.Constant (.str ret) jk pk] pq], 0⟩] scope pos) (gBad lt yes n mi) := by
  obtain ⟨mk, cc, PP, TT, t1, t2, t3, t4, t5, t6, t7⟩ := hT.ex
  intro Wx X C
  have hcq : X.env.qual = q ∧ X.env.code = .ref cc := C.cd (by rw [C.sc]; exact t3) _ t2 (by rw [C.N]; exact t1)
  have hcl : X.env.cells = g.lamC := C.lc (by rw [C.sc]; exact t3) (by rw [C.sc]; exact hd) m hM (by rw [C.N]; exact hmN)
  have okX : BlkOk X.N X.env.scope scope own := by rw [C.N, C.sc]; exact ok
  refine (pe_unl (t := fun σ H Q => ∃ ρ S μ, EnvOk g H μ ρ σ ∧ W g μ H S ∧ PostI g μ H (mi ρ S) (fun J H1 => ∃ lk S1 μ1 S2, EnvOk g H1 μ1 ρ σ ∧ W g μ1 H1 S1 ∧ SrcOk g J lk μ1 H1 ∧ badN lt yes ρ lk n 0 S1 = some S2 ∧
    ∀ v H' μ', Grow μ1 H1 μ' H' → W g μ' H' S2 → Rep g H' μ' (.ls []) v → Q v H') (wE g Wx σ)) ⟨fun pins s σ H Q I h => ?_⟩).weak ?_
  rotate_left
  · rintro σ H Q ⟨ρ, S, μ, he, hw, h⟩
    unfold gBad at h
    refine ⟨ρ, S, μ, he, hw, PostI.res h fun lk S1 ul J H1 μ1 g1 w1 s1 u1 h1 => ?_⟩
    cases e : badN lt yes ρ lk n 0 S1 with
    | none => simp only [e, unlR_bad] at h1; exact h1.elim
    | some S2 =>
      simp only [e] at h1
      exact ⟨lk, S1, μ1, S2, he.mono g1, w1, s1, e, fun v H' μ' g2 w2 r2 => h1.unlOk (g1.trans g2) w2 r2 (u1.grow g2)⟩
  obtain ⟨ρ, S, μ, he0, hw0, h⟩ := h
  rw [eval_ListComp]
  have hfree : ∀ y ∈ scope.names, y.2 = .free → ∃ c, X.env.cells.lookup y.1 = some c := fun y hy e => by
    rcases okX.free y hy e with k | k
    · exact I.ok.has _ (.inl k)
    · exact I.ok.has _ (.inr k)
  refine wpAny_comprehension_free (use := none) rfl (hs X.env) (closure_ok hfree) ok.kind (fun y hy e => by rw [ok.uniq y hy, e])
    (thn ((hi Wx X C).run pins s σ H _ I ⟨ρ, S, μ, he0, hw0, h⟩) fun xv s1 hx => thn hx fun itv s2 h2 => ?_)
  obtain ⟨it, fp, tn, J, H2, e, I2, T, st2, f2, lk, S1, μ1, S2, he, w, sr, hbn, hQ⟩ := h2
  subst e
  refine wpAny_newObj_type (newEnv_comp ?_) (by show 0 ≤ sizeLine; decide)
  generalize hDD : s2.heap.objs.size = DD
  have hDn : H2 DD = none := I2.hok.fresh (Nat.le_of_eq hDD)
  generalize hs3 : ({ s2 with heap := s2.heap.push { cls := .type "list", data := .seq ([] : List Value).toArray } } : Shared) = s3
  have h3 : s3.heap = s2.heap.push { cls := .type "list", data := .seq ([] : List Value).toArray } := by rw [← hs3]
  have I3 : Inv X pins σ (upd H2 DD (.lst [])) s3 := by
    rw [← hs3]
    refine I2.laid (t' := s2.toks) (fun b o e => Heap.get?_push_of_some _ e) (Nat.le_of_eq hDD) ⟨Nat.zero_le _, [], 0, .nil, ?_⟩
    rw [← hDD]
    exact Heap.get?_push_size _ rfl
  have gr3 : Grow μ1 H2 μ1 (upd H2 DD (.lst [])) := grow_fresh hDn
  have w3 : W g μ1 (upd H2 DD (.lst [])) S1 := w.add hDn
  have nD : DD ∉ μ1 := w.fresh hDn
  have f3 : ∀ b ∈ fp, FpOk X pins (upd H2 DD (.lst [])) b ∧ b < s3.heap.objs.size := fun b hb => by
    obtain ⟨o, e, _⟩ := T.obj _ _ st2 b hb
    have hlt := Heap.lt_size e
    refine ⟨⟨?_, (f2 b hb).2⟩, by rw [h3, Heap.size_push]; exact Nat.lt_succ_of_lt hlt⟩
    rw [upd_ne (by rw [← hDD]; exact Nat.ne_of_lt hlt)]
    exact (f2 b hb).1
  have st3 : tn 0 s3.heap := T.keep _ _ _ st2 fun b _ o e => by rw [h3]; exact Heap.get?_push_of_some _ e
  have I4 := block_start I3 okX (by rw [C.N]; exact hN) f3
  have CB : ∀ Ca cl, CtxOk g N (relS scope sc) L noX (X.blk s3 (upd H2 DD (.lst [])) scope (compEnvC scope cl Ca X.env) fp) := fun Ca cl => C.blk hl s3 _ Ca cl fp
  show codeAny _ _ (.compStart (.ListComp elt [⟨.Name f pf, iter, [.Compare (.Call (.Name x p) [.Name f pf2] [] pc) [.NotEq] [.Constant (.str ret) jk pk] pq], 0⟩] scope pos) 0 (.ref it) (.ref DD) (compEnvC scope (cellsFrom (s3.heap.objs.size + 1) scope.names (cloFrom X.env.cells scope.names [])) s3.heap.objs.size X.env)) (compPost (model X.prog X.w) X.A X.xe none (EP X pins σ Q) (.ref DD) s3.heap.objs.size) { s3 with heap := pushCells (s3.heap.push { cls := .type "dict", data := .dict #[] }) scope.names }
  have nfp : ∀ b ∈ fp, (upd H2 DD (.lst [])) b = none := fun b hb => (f3 b hb).1.1
  have CB1 := CB s3.heap.objs.size (cellsFrom (s3.heap.objs.size + 1) scope.names (cloFrom X.env.cells scope.names []))
  generalize hce : compEnvC scope (cellsFrom (s3.heap.objs.size + 1) scope.names (cloFrom X.env.cells scope.names [])) s3.heap.objs.size X.env = ce at I4 CB1 ⊢
  have cL : ce.locals = s3.heap.objs.size := by subst hce; rfl
  generalize hH3 : upd H2 DD (.lst []) = H3 at I3 I4 CB1 nfp f3 gr3 w3
  have eD : H3 DD = some (.lst []) := by rw [← hH3, upd_same]
  generalize hs4 : ({ s3 with heap := pushCells (s3.heap.push { cls := .type "dict", data := .dict #[] }) scope.names } : Shared) = s4 at I4 ⊢
  have st4 : tn 0 s4.heap := T.keep _ _ _ st3 fun b _ o e => by rw [← hs4]; exact pushCells_keeps _ _ _ _ (Heap.get?_push_of_some _ e)
  have stat : ∀ {σ' : L2.St} {H' : Hp} {s' : Shared}, Inv (X.blk s3 H3 scope ce fp) [] σ' H' s' → (∀ b ∈ fp, H' b = none) → ∀ b ∈ fp, FpOk (X.blk s3 H3 scope ce fp) [] H' b := fun {σ' H' s'} I' hn b hb =>
    ⟨hn b hb, (I'.ok.exf b hb).1, I'.ok.exfs b hb, .inl hb, fun x c e => (I'.ok.exf b hb).2 x c e, fun p hp => absurd (show p ∈ ([] : List (Addr × Obj)) ++ [] from hp) (by simp)⟩
  have he3 := he.mono gr3
  have sr3 : ∀ i μ H S, Grow μ1 H3 μ H → W g μ H S → (lk i S = some none → J.stop i H) ∧ ∀ d, lk i S = some (some d) → J.go i H ∧ ∀ x H', J.yld i H x H' → Grow μ H μ H' ∧ W g μ H' S ∧ Rep g H' μ d x := fun i μ H S gr w =>
    ⟨fun e => sr.stop i μ H S (gr3.trans gr) w e, fun d e => sr.go i μ H S d (gr3.trans gr) w e⟩
  have cond : PT (X.blk s3 H3 scope ce fp) (.Compare (.Call (.Name x p) [.Name f pf2] [] pc) [.NotEq] [.Constant (.str ret) jk pk] pq) _ :=
    pt_cmpR (o_ne CB1) (told_held (j := j) (ret := ret) (yes := yes) (i := i) (k := k) C CB1 I3 (fun b hb => (f3 b hb).1) hcq.1 hgx hm hk hlk hcg hbd Sg hNg hva hge hme h0 hy hL hfi (hfl.elim .inl fun z => .inr (.inl z)) hdb hda hcd hde hd2 hcd2) pe_str rfl
  have loop : codeAny (model X.prog X.w) X.A (.compLoop (.ListComp elt [⟨.Name f pf, iter, [.Compare (.Call (.Name x p) [.Name f pf2] [] pc) [.NotEq] [.Constant (.str ret) jk pk] pq], 0⟩] scope pos) 0 (.ref it) (.ref DD) ce) (compPost (model X.prog X.w) X.A X.xe none (EP X pins σ Q) (.ref DD) s3.heap.objs.size) s4 := by
    refine compLoop_any (fun nn s' => ∃ i' H' μ' S', Inv (X.blk s3 H3 scope ce fp) [] (wipe σ (own.map (·.2))) H' s' ∧ tn i' s'.heap ∧ (∀ b ∈ fp, H' b = none) ∧ Grow μ1 H3 μ' H' ∧ W g μ' H' S' ∧ badN lt yes ρ lk nn i' S' = some S2) ?_ n ⟨0, H3, μ1, S1, I4, st4, nfp, .refl _ _, w3, hbn⟩
    rintro nn s5 ⟨i5, H5, μ5, S5, I5, st5, n5, gr5, w5, hb5⟩
    cases nn with
    | zero => cases hb5
    | succ nn =>
    unfold badN at hb5
    obtain ⟨k1, k2⟩ := sr3 i5 μ5 H5 S5 gr5 w5
    split at hb5
    · rename_i el
      cases hb5
      have td := T.done (X.blk s3 H3 scope ce fp) rfl rfl rfl C.calm i5 [] s5 _ H5 (fun _ _ => False) I5 (stat I5 n5) st5 (k1 el)
      refine thnF td fun r s6 ⟨hr, I6⟩ => ?_
      subst hr
      have I7 : Inv X pins σ H5 s6 := I3.call' (ch := fp) I6.os I6.base I6.hok I6.bare fun b hb => ⟨(f3 b hb).1.2.2.2.1, (f3 b hb).1.2.1, (f3 b hb).1.2.2.2.2.1, (f3 b hb).1.2.2.2.2.2⟩
      have nC : H5 s3.heap.objs.size = none := by
        have z : H5 ce.locals = none := I6.free
        rw [cL] at z
        exact z
      obtain ⟨mm, hn, _⟩ := I6.loc
      have hn : s6.heap.Ns ce.locals mm := hn
      rw [cL] at hn
      refine ⟨mm, hn, fun h'' sb => ?_⟩
      obtain ⟨q0, q1, q2, q3, q4, q5⟩ := I3.fpOk (H' := H5) (Nat.le_refl _) nC
      refine ⟨.ref DD, H5, I7.turned (t' := s6.toks) (fun b o hb e => (sb.2 b hb).trans e) q0 q1 q3 q4 q5, rfl, hQ (.ref DD) H5 μ5 (gr3.trans gr5) w5 ?_⟩
      simp only [Rep]
      exact ⟨DD, [], rfl, gr5.nin nD eD, gr5.at nD eD rfl rfl (fun ps z => by cases z), .nil⟩
    · rename_i xx el
      obtain ⟨go, g2⟩ := k2 _ el
      split at hb5
      · rename_i mx elk
        split at hb5
        · rename_i c S6 em
          split at hb5
          · rename_i hcy
            have ti := T.item (X.blk s3 H3 scope ce fp) rfl rfl rfl C.calm i5 [] s5 _ H5 (fun _ _ => False) I5 (stat I5 n5) st5 go
            refine thnF ti fun r s6 ⟨u, hr, h6⟩ => ?_
            subst hr
            refine thnF h6 fun _ s7 ⟨xv, H7, I7, r7, y7, st7, n7⟩ => ?_
            obtain ⟨g7, w7, rp7⟩ := g2 xv H7 y7
            have gr7 := gr5.trans g7
            have I7' := I7.pinned (stat I7 n7) (T.obj _ _ st7)
            simp only [Rep] at rp7
            obtain ⟨af, cf, φ, ψ, rfl, na, nc, ea, ec, hR⟩ := rp7
            obtain ⟨e, hein, hex, params, body, scl, lpos, eel, rfl, rfl⟩ := hRT _ _ _ _ _ hR
            obtain ⟨hreal, hLS, hbind⟩ := hlt xx mx elk e hein hex params body scl lpos eel
            refine thnF ((pg_name (X := X.blk s3 H3 scope ce fp) (i := i) (pos := pf) (by rw [CB1.N]; exact hN) (by rw [CB1.N]; exact hfi) (by rw [CB1.sc]; exact hfl) (hfk.elim (fun z => .inl z) fun z => .inr (by rw [CB1.sc]; exact z))).run _ s7 _ H7 (.ref af) u
              (fun σ8 H8 => σ8 = (wipe σ (own.map (·.2))).set i (some (.ref af)) ∧ H8 = H7) I7' r7 ⟨rfl, rfl⟩) fun _ s8 ⟨σ8, H8, I8, e8, eH⟩ => ?_
            subst eH
            have hil : i < (wipe σ (own.map (·.2))).length := by
              have z := I7.len
              have z2 : (wipe σ (own.map (·.2))).length = (X.blk s3 H3 scope ce fp).N.length := z
              rw [z2, CB1.N]
              exact (List.getElem?_eq_some_iff.mp hfi).1
            have e8i : σ8[i]? = some (some (.ref af)) := by rw [e8, List.getElem?_set_self hil]
            have gE : ∀ {H9 : Hp} {μ9 : List Addr}, Grow μ5 H8 μ9 H9 → W g μ9 H9 S6 → rP2 g gNe (.str ret) (.str ret) H9 (fun v H' => ∃ b, v = .bl b ∧ (b = false ∧ ∃ μ9, Grow μ1 H3 μ9 H' ∧ W g μ9 H' S6)) := fun {H9 μ9} g9 w9 =>
              ⟨.str ret, .str ret, S6, μ9, w9, by simp [Rep], by simp [Rep], by rw [gNe_str]; exact fun v H' μ' a1 a2 a3 => ⟨false, by simpa [Rep] using a3, rfl, μ', (gr7.trans g9).trans a1, a2⟩⟩
            refine thnF ((pts_one cond).run _ s8 σ8 H8 (fun b H9 => b = false ∧ ∃ μ9, Grow μ1 H3 μ9 H9 ∧ W g μ9 H9 S6) I8
              ⟨af, cf, params, body, scl, mx, ρ, μ5, S5, e8i, by rw [hcl]; exact ea, ec, hreal, hLS, hbind, he3.mono gr7, w7, c, S6, em, hcy, fun H9 μ9 g9 w9 => gE g9 w9⟩) fun b s9 ⟨H9, I9, eb, μ9, gr9, w9⟩ => ?_
            subst eb
            simp only [Bool.false_eq_true, if_false]
            have pin' : ∀ b ∈ fp, ∀ o, s7.heap.get? b = some o → s9.heap.get? b = some o ∧ H9 b = none := fun b hb o e =>
              let z := I9.pin (b, o) (List.mem_append_right _ (List.mem_append_right _ (mem_pinsAt hb e)))
              ⟨z.1, z.2.1⟩
            refine ⟨nn, Nat.lt_succ_self _, i5 + 1, H9, μ9, S6, (I9.unpinned (pins := [])).weak (by rw [e8, List.length_set]) (fun jj v ev => ?_), T.keep _ _ _ st7 fun b hb o e => (pin' b hb o e).1, fun b hb => ?_, gr9, w9, hb5⟩
            · have hne : jj ≠ i := fun z => by
                have := (wipe_some ev).2
                rw [hown, z] at this
                exact this (by simp)
              rw [e8, List.getElem?_set_ne (Ne.symm hne)]
              exact ev
            · obtain ⟨o, e, _⟩ := T.obj _ _ st7 b hb
              exact (pin' b hb o e).2
          · cases hb5
        · cases hb5
      · cases hb5
    · cases hb5
  exact codeAny_compStart_list loop (T.self X.A 0 _ _ _ st4 loop)
end
end Gp

set_option Elab.async false
set_option linter.all false
set_option maxRecDepth 100000
set_option maxHeartbeats 2000000
/-! Gp33: the law's own end; f(e for ..), f a type -/
namespace Gp
open PySem PySem.Spec L2
open PyProof.Rows hiding St

/-- what the law's def promises -/
def spLaw (K : PySem.W.Frag) (T : TbT) : Sp := fun vs H Q E => ∃ (a : Addr) (ns : List Int), vs = [.ref a] ∧ ns.length ≤ 63 ∧ (∀ z ∈ ns, Builtin.Int.intBits z ≤ 1048576) ∧ TabsA T H ∧ SqL K H a (ns.map V.int) ∧ ∀ H', Q (.bl true) H'
theorem fnOk_law {P : Program} {w : World} {K : PySem.W.Frag} {mg : Str → Option Value} {base : Heap} {x qual : Str} {st : Stmt} {f : Addr} {fd : FuncData} {cdv : Value} {N : List Str} {T : TbT} {m : GS} {L : Nat} {gL : List (Str × Addr) → G}
    (F : FunC K x qual st f fd cdv) (Sc : FnScope N ["script"] (defScope st))
    (hG : ∀ cl, (gL cl).P = P ∧ (gL cl).w = w ∧ (gL cl).K = K ∧ (gL cl).mg = mg ∧ (gL cl).base = base ∧ (gL cl).lamC = cl ∧ TbOk (gL cl) T)
    (hb : ∀ cl, RealSs (gL cl) N (defScope st) L (defBody st) m) (hcd : ∀ cl, ∀ e ∈ (gL cl).cods, e.1 ∈ N → qual ++ ".<locals>." = e.2.1 ∧ cdv = .ref e.2.2.1)
    (hm : ∀ ns : List Int, ns.length ≤ 63 → (∀ z ∈ ns, Builtin.Int.intBits z ≤ 1048576) → ∃ S, fnG false 1 N.length m [.sq (ns.map .int)] [] = .ok (.bl true) S) : FnOk P w K mg base (L2.CX P w) (L + 1) f fd ["script"] (spLaw K T) := by
  obtain ⟨oc, od, dV, kV, doc, pm, an, ct, osl, rfl, lk, hcc⟩ := F.ex
  refine fn_of lk hcc Sc (fun vs H Q E h => by obtain ⟨a, ns, rfl, _⟩ := h; rfl) fun A outer s H vs Q E hr h => ?_
  obtain ⟨a, ns, rfl, h1, h2, h3, h4, h5⟩ := h
  obtain ⟨S, em⟩ := hm ns h1 h2
  obtain ⟨e1, e2, e3, e4, e5, e6, e7⟩ := hG (envOfC qual (defScope st) s.heap.objs.size f cdv).cells
  refine ⟨_, hb (envOfC qual (defScope st) s.heap.objs.size f cdv).cells (fun cls d _ H => E cls d H) _ ⟨⟨e1.symm, e2.symm, e3.symm, e4.symm, e5.symm, rfl, rfl, rfl, takes_of rfl rfl rfl rfl, hr, passes_of rfl, fun _ e he hn => hcd _ e he hn, (fun z => by have z' : (defScope st).isGenerator = true := z; rw [Sc.gen] at z'; cases z'), fun _ _ m _ _ => e6.symm⟩, fun _ => rfl, rfl, rfl⟩,
    startG N.length [.sq (ns.map .int)], [], [], ?_, ⟨rfl, .nil, (fun n a c e1 _ => by cases e1), (e7 H).mpr h3⟩, ?_⟩
  · unfold startG L2.start
    exact env_start (vs := [.ref a]) _ (.cons (script_rep (by rw [e3]; exact h4)) .nil)
  · have em' : resOf (m (startG N.length [.sq (ns.map .int)]) []) = .ok (.bl true) S := em
    generalize m (startG N.length [.sq (ns.map .int)]) [] = rr at em'
    cases rr with
    | rt d S' =>
      cases em'
      intro v H' μ' gr w' r
      have : v = .bl true := by simpa only [Rep] using r
      rw [this]; exact h5 H'
    | nx ρ S' => cases em'
    | exc c ρ S' => cases em'
    | bk ρ S' => cases em'
    | ct ρ S' => cases em'
    | bad => cases em'
theorem end_law {P : Program} {w : World} {K : PySem.W.Frag} {h : Heap} {mg : Str → Option Value} {f : Addr} {k : Nat} {fa : List He.Fa} {fn : List He.DefD} {tf : List He.Defn} {ex : PySem.W.Frag → Bool} {T : TbT} {ts : List He.Tab}
    (X : K.In h) (c : He.SaysX fa fn ts tf ex w h K) (hTt : ∀ p ∈ T, ∃ q ∈ tf, p.1 = (He.cT K q).2)
    (fd : FuncData) (hb : ∀ (s : Shared) (u : Value), BindsTo s fd ⟨[u], []⟩ [("script", u)])
    (hF : ∀ base : Heap, K.In base → base.Ns mainGlobals mg → (∀ p ∈ tf.map (He.cT K), LamX.TabB base mg p.1 p.2) → FnOk P w K mg base (L2.CX P w) k f fd ["script"] (spLaw K T)) : EndOk P w h mg f k := by
  refine ⟨K, fd, tf.map (He.cT K), spLaw K T, X, fun p hp => ?_, fun p hp => ?_, fun p hp => ?_, hb, fun H a ns hl hbt hTb hS => ?_, hF⟩
  · obtain ⟨q, hq, rfl⟩ := List.mem_map.mp hp
    exact c.empty q hq
  · obtain ⟨q, hq, rfl⟩ := List.mem_map.mp hp
    exact c.out q hq
  · obtain ⟨q, hq, rfl⟩ := List.mem_map.mp hp
    exact PySem.W.codeHd_of_K X (c.hd q hq)
  · refine ⟨a, ns, rfl, hl, hbt, fun p hp => ?_, hS, fun _ => rfl⟩
    obtain ⟨q, hq, e2⟩ := hTt p hp
    exact TabA.nil (by rw [e2]; exact hTb _ (List.mem_map.mpr ⟨q, hq, rfl⟩))
/-- one table, one name -/
theorem tab_one {T : TbT} {P : Addr} {q : Str × (Nat → Nat → Bool)} (nd : (T.map (·.1)).Nodup) (h : (P, q) ∈ T) : ∀ p ∈ T, p.1 = P → p.2 = q := fun p hp e => by
  induction T with
  | nil => cases h
  | cons t T ih =>
    rw [List.map_cons, List.nodup_cons] at nd
    rcases List.mem_cons.mp h with h | h
    · rcases List.mem_cons.mp hp with hp | hp
      · rw [hp, ← h]
      · exact absurd (List.mem_map.mpr ⟨p, hp, by rw [e, ← h]⟩) nd.1
    · rcases List.mem_cons.mp hp with hp | hp
      · exact absurd (List.mem_map.mpr ⟨_, h, by rw [← hp, e]⟩) nd.1
      · exact ih nd.2 h hp
section
variable {g : G} {N : List Str} {sc : Scope} {L L' : Nat} {elt tg iter : Expr} {ifs : List Expr} {scope : Scope} {gpos pos pp : Pos} {mi : GI} {t : TN} {cc : Option GE} {me : GE} {own : List (Str × Nat)} {gc : (Nat → Nat → Sto → NX) → Nat → Sto → Res} {n0 : Nat} {nm : Str}
theorem re_genTX {id : String} (hcon : Consumes (.type id) gc) {yes : List Str} (hy : ∀ x ∈ yes, Nst g x) {NG : List Str} (hN : NG.Nodup) (ng : NgOk N NG scope) (hng : ∀ e ∈ g.cods, e.1 ∉ NG) (hlev : ("." : Str) ∈ NG → sc.isGenerator = false) (GC : GSrc g N sc gpos) (GS : GenS scope) (ok : BlkOk NG sc scope own) (okN : BlkOk N sc scope own) (hL : L' + 3 ≤ L) (hi : RealI g N sc L tg iter mi)
    (hg : RealN g NG scope L' (fun x => scope.names.lookup x == some .cell) (own.map (·.2)) tg t) (ht : RealIfs g NG scope L' ifs cc) (hel : Real g NG scope L' elt me) (hs : ∀ (env : Env) v, genFold iter env v = pure v)
    (hgl : sc.names.lookup nm = some .globalImplicit) (hm : g.mg nm = none) (hv : bootBuiltins nm = some (.type id))
    (hst : ∀ env : Env, starEach [.GeneratorExp elt [⟨tg, iter, ifs, 0⟩] scope gpos] env = (false, eval (.GeneratorExp elt [⟨tg, iter, ifs, 0⟩] scope gpos) env) :: starEach [] env)
    (hnm : nm ≠ "__name__" := by decide) (hdb : (nm == ("__debug__" : Str)) = false := by decide) :
    Real g N sc L (.Call (.Name nm pp) [.GeneratorExp elt [⟨tg, iter, ifs, 0⟩] scope gpos] [] pos) (gGenX gc yes n0 mi t cc me (own.map (·.2))) := by
  intro Wx X C
  refine gen_weak ⟨fun pins s σ H Q I h => ?_⟩
  obtain ⟨ρ, S, μ, he, hw, h⟩ := h
  refine wpAny_Call_Name_kw (ld_blt I (show Gl X nm by unfold Gl Env.kindOf; rw [C.sc]; exact hgl) (by rw [C.mg]; exact hm) hv ?_ hnm hdb)
  refine PyProof.Rows.callWith_type1 ?_ (hst X.env) (by rfl)
  rw [hst]
  show wpAny _ _ (spliced ((false, eval (.GeneratorExp elt [⟨tg, iter, ifs, 0⟩] scope gpos) X.env) :: backTo pos (starEach [] X.env))) _ _ s
  refine Calls.spliced_cons (gen_make (n0 := n0) C hN ng hng hlev GC GS ok okN (hi Wx X C) hy hg ht hel (hs X.env) I (Z := fun lk S1 μ1 H1 ρ => gc (nextX yes lk t cc me (wipeG ρ (own.map (·.2)))) n0 S1 ≠ .bad ∧ (∀ c S' H' μ', gc (nextX yes lk t cc me (wipeG ρ (own.map (·.2)))) n0 S1 = .exc c S' → Grow μ1 H1 μ' H' → W g μ' H' S' → wE g Wx σ c H') ∧ ∀ d S' μ' H' v, gc (nextX yes lk t cc me (wipeG ρ (own.map (·.2)))) n0 S1 = .ok d S' → Grow μ1 H1 μ' H' → W g μ' H' S' → Rep g H' μ' d v → Q v H') ⟨ρ, S, μ, he, hw, h⟩
    fun lk S1 μ1 H1 ρ fp s4 H4 a gn s5 hZ gr M => ?_)
  refine Calls.spliced_nil ?_
  obtain ⟨hb, hx, hq⟩ := hZ
  exact hcon ⟨g, X, NG, fp, s4, H4, μ1, a, gn, nextX yes lk t cc me (wipeG ρ (own.map (·.2))), n0, 0, S1⟩ L' pins σ X.A s5 _ X.xe (C.room.mono hL) I.ok.frames rfl (fun _ _ => rfl) M hb
    (fun c S' e s1 e1 hf => C.tk e s1 (by
        obtain ⟨a0, B, sI, pins0, σ0, H0, cls, d, r1, r2, r3, r4, r5, r6, r7, r8, h1, C1, μ', h2, h3, h4, h5, h6, h7⟩ := M.exc c S' e s1 hf
        subst h1 h3 h4
        exact ⟨a0, B, sI, pins0, _, H0, _, _, r1, r2, r3, r4, r5, r6, r7, r8, hx c S' H0 μ' e1 (gr.trans h6) h7 C1 h2⟩))
    fun d S' μ' H' v u s' e g2 w2 I2 r2 rv => ⟨v, H', I2, rv, hq d S' μ' H' v e (gr.trans g2) w2 r2⟩
theorem re_genT {id : String} (hcon : Consumes (.type id) gc) {NG : List Str} (hN : NG.Nodup) (ng : NgOk N NG scope) (hng : ∀ e ∈ g.cods, e.1 ∉ NG) (hlev : ("." : Str) ∈ NG → sc.isGenerator = false) (GC : GSrc g N sc gpos) (GS : GenS scope) (ok : BlkOk NG sc scope own) (okN : BlkOk N sc scope own) (hL : L' + 3 ≤ L) (hi : RealI g N sc L tg iter mi)
    (hg : RealN g NG scope L' (fun x => scope.names.lookup x == some .cell) (own.map (·.2)) tg t) (ht : RealIfs g NG scope L' ifs cc) (hel : Real g NG scope L' elt me) (hs : ∀ (env : Env) v, genFold iter env v = pure v)
    (hgl : sc.names.lookup nm = some .globalImplicit) (hm : g.mg nm = none) (hv : bootBuiltins nm = some (.type id))
    (hst : ∀ env : Env, starEach [.GeneratorExp elt [⟨tg, iter, ifs, 0⟩] scope gpos] env = (false, eval (.GeneratorExp elt [⟨tg, iter, ifs, 0⟩] scope gpos) env) :: starEach [] env)
    (hnm : nm ≠ "__name__" := by decide) (hdb : (nm == ("__debug__" : Str)) = false := by decide) :
    Real g N sc L (.Call (.Name nm pp) [.GeneratorExp elt [⟨tg, iter, ifs, 0⟩] scope gpos] [] pos) (gGen gc n0 mi t cc me (own.map (·.2))) := by
  rw [← gGenX_nil]
  exact re_genTX hcon (fun x h => by cases h) hN ng hng hlev GC GS ok okN hL hi hg ht hel hs hgl hm hv hst hnm hdb
end

/-! ### words for printed proofs -/
def asgV : Stmt → Expr
  | .Assign _ v _ => v
  | _ => .Constant .none 0 ⟨0, 0, 0, 0⟩
def lstE : Expr → Nat → Expr
  | .List es _, j => es.getD j (.Constant .none 0 ⟨0, 0, 0, 0⟩)
  | .BinOp _ _ (.List es _) _, j => es.getD j (.Constant .none 0 ⟨0, 0, 0, 0⟩)
  | _, _ => .Constant .none 0 ⟨0, 0, 0, 0⟩
section
variable {g : G} {N : List Str} {sc : Scope} {L : Nat} {pos : Pos} {vs : List Nat}
theorem xg (i : Nat) {x : Str} (hN : N.Nodup) (hi : N[i]? = some x := by rfl) (hx : locB sc x = true := by rfl) (hf : sc.names.lookup x = some .local := by rfl) (hv : i ∈ vs := by decide) : RealN g N sc L (fun _ => false) vs (.Name x pos) (nName i) := rn_name hN hi (loc_ok hx) (.inr hf) hv
end
end Gp

set_option Elab.async false
set_option linter.all false
set_option maxRecDepth 100000
set_option maxHeartbeats 1000000
/-! Gp34: consumers of generator expressions, evaluated -/
namespace Gp
open PySem PySem.Spec L2
open PyProof.Rows hiding St

section
variable {lk : Look} {t : TN} {c : Option GE} {e : GE} {ρ0 : Ev} {S : Sto} {l : List D}
/-- what of an item is asked -/
def ItPure (t : TN) (c : Option GE) (e : GE) (ρ0 : Ev) (S : Sto) (l : List D) (f : D → Option D) : Prop := ∀ d ∈ l, ∃ ρ, t d ρ0 = some ρ ∧ match f d with
  | none => tstG c ρ S = .ok (.bl false) S
  | some y => tstG c ρ S = .ok (.bl true) S ∧ e ρ S = .ok y S
theorem anyN_pure (hlk : ∀ i S, lk i S = some l[i]?) (b : Bool) (f : D → Option Bool) (h : ItPure t c e ρ0 S l fun d => (f d).map .bl) :
    ∀ k n i, l.length < k + i → l.length < n + i → i ≤ l.length → anyN (nextN lk t c e ρ0) b n k i S = .ok (.bl (if (l.drop i).any (fun d => f d == some b) then b else !b)) S := by
  intro k
  induction k with
  | zero => intro n i h1 h2 h3; omega
  | succ k ih =>
    intro n i h1 h2 h3
    obtain ⟨n, rfl⟩ : ∃ m, n = m + 1 := ⟨n - 1, by omega⟩
    rcases Nat.lt_or_ge i l.length with hi | hi
    · have hd : l.drop i = l[i] :: l.drop (i + 1) := List.drop_eq_getElem_cons hi
      obtain ⟨ρ, e1, e2⟩ := h l[i] (List.getElem_mem hi)
      unfold anyN nextN
      rw [hlk, List.getElem?_eq_getElem hi]
      simp only [e1]
      cases hf : f l[i] with
      | none =>
        simp only [hf, Option.map_none, Option.map_some] at e2
        replace e2 : tstG c ρ S = .ok (.bl false) S := e2
        simp only [e2]
        have h4 := ih (n + 1) (i + 1) (by omega) (by omega) hi
        unfold anyN at h4
        rw [h4, hd, List.any_cons, hf]
        rfl
      | some x =>
        simp only [hf, Option.map_none, Option.map_some] at e2
        replace e2 : tstG c ρ S = .ok (.bl true) S ∧ e ρ S = .ok (.bl x) S := e2
        simp only [e2.1, e2.2]
        rw [hd, List.any_cons, hf]
        by_cases hx : x = b
        · subst hx; simp
        · have hb : (some x == some b) = false := by simpa using hx
          rw [if_neg hx, ih n (i + 1) (by omega) (by omega) hi, hb, Bool.false_or]
    · have hi' : i = l.length := by omega
      subst hi'
      unfold anyN nextN
      rw [hlk, List.getElem?_eq_none (Nat.le_refl _), List.drop_length]
      simp
theorem gGen_any {mi : GI} {vs : List Nat} {ρ : Ev} {n : Nat} (hit : mi ρ S = .ok lk S none) (hlk : ∀ i S, lk i S = some l[i]?) (f : D → Option Bool) (h : ItPure t c e (wipeG ρ vs) S l fun d => (f d).map .bl) (hn : l.length < n) :
    gGen (fun f n S => anyN f true n n 0 S) n mi t c e vs ρ S = .ok (.bl (l.any fun d => f d == some true)) S := by
  simp only [gGen, hit, IR.res, unlR]
  rw [anyN_pure hlk true f h n n 0 (by omega) (by omega) (by omega), List.drop_zero]
  cases l.any fun d => f d == some true <;> rfl
theorem gGen_all {mi : GI} {vs : List Nat} {ρ : Ev} {n : Nat} (hit : mi ρ S = .ok lk S none) (hlk : ∀ i S, lk i S = some l[i]?) (f : D → Option Bool) (h : ItPure t c e (wipeG ρ vs) S l fun d => (f d).map .bl) (hn : l.length < n) :
    gGen (fun f n S => anyN f false n n 0 S) n mi t c e vs ρ S = .ok (.bl (l.all fun d => f d != some false)) S := by
  simp only [gGen, hit, IR.res, unlR]
  rw [anyN_pure hlk false f h n n 0 (by omega) (by omega) (by omega), List.drop_zero]
  have e : (l.all fun d => f d != some false) = !(l.any fun d => f d == some false) := by
    rw [List.not_any_eq_all_not]; rfl
  rw [e]
  cases l.any fun d => f d == some false <;> rfl
end
/-! lists of ints -/
theorem intsOf_map {ns : List Int} : intsOf (ns.map .int) = some ns := by
  induction ns with
  | nil => rfl
  | cons n ns ih =>
    unfold intsOf at ih ⊢
    simp [omap, ih]
theorem pSum_ls {ns : List Int} {S : Sto} : pSum [.ls (ns.map .int)] S = some (.int ns.sum, S) := by
  simp [pSum, asL, intsOf_map]
theorem enum_ls {l : List D} {S : Sto} {a : GE} {ρ : Ev} (ha : a ρ S = .ok (.ls l) S) : gSrcA enumOf [a] ρ S = .ok (enumLk (fixL l)) S none := by
  simp only [gSrcA, gArgsR, ha, AR.cons, enumOf]
theorem enum_look {l : List D} : ∀ i (S : Sto), enumLk (fixL l) i S = some (l.mapIdx fun i x => D.tup [.int i, x])[i]? := fun i S => by
  simp [enumLk, fixL, List.getElem?_mapIdx]
end Gp

set_option Elab.async false
set_option linter.all false
set_option maxRecDepth 100000
set_option maxHeartbeats 1000000
/-! Gp35: lists of ints that are sorted -/
namespace Gp
open PySem PySem.Spec L2
open PyProof.Rows hiding St

theorem omap_map {α β : Type} {f : D → Option β} {g : α → D} {h : α → β} (e : ∀ a, f (g a) = some (h a)) : ∀ {l : List α}, omap f (l.map g) = some (l.map h)
  | [] => _root_.rfl
  | a :: l => by simp [omap, e, omap_map e (l := l)]
theorem sortable_ints {l : List Int} : sortable (l.map .int) = true := by
  simp [sortable, PySem.W.alike, isNone]
def sortI (l : List Int) : List Int := l.mergeSort fun a b => decide (a ≤ b)
theorem sortI_perm {l m : List Int} (h : l.Perm m) : sortI l = sortI m := by
  have pw : ∀ l : List Int, (sortI l).Pairwise (fun a b => a ≤ b) := fun l => by
    have := List.pairwise_mergeSort (le := fun a b : Int => decide (a ≤ b)) (fun a b c h1 h2 => by simp only [decide_eq_true_eq] at *; omega) (fun a b => by simp only [Bool.or_eq_true, decide_eq_true_eq]; omega) l
    exact this.imp fun h => by simpa using h
  refine List.Perm.eq_of_pairwise (le := fun a b => a ≤ b) (fun a b _ _ h1 h2 => by omega) (pw l) (pw m) ?_
  exact ((List.mergeSort_perm l _).trans h).trans (List.mergeSort_perm m _).symm
theorem sortD_ints {S : Sto} {l : List Int} : sortD S (l.map .int) = (sortI l).map .int := by
  unfold sortD sortI
  refine (List.map_mergeSort (f := D.int) fun a _ b _ => ?_).symm
  simp only [PySem.W.dataLe_eq, cond_false]
  have p1 : ∀ z : Int, pdk S (.int z) = .int z := fun z => _root_.rfl
  rw [p1, p1, PySem.W.dataLt_int]
  by_cases h : a ≤ b
  · have : ¬ b < a := by omega
    simp [h, this]
  · have : b < a := by omega
    simp [h, this]
theorem sorted_ints {S : Sto} {l : List Int} : pSorted false [.ls (l.map .int)] S = some (.ls ((sortI l).map .int), S) := by
  have e1 : omap (pd S 58) (l.map .int) = some (l.map .int) := omap_map (f := pd S 58) (g := D.int) (h := PyData.int) fun a => _root_.rfl
  have e3 : itemsOf (.ls (l.map .int)) S = some (l.map .int) := rfl
  simp only [pSorted, e3, e1, sortable_ints, if_true, mkL, sortD_ints]
  rfl
theorem isDat_ints {l : List Int} : isDat 60 (.ls (l.map .int)) = true := by
  simp [isDat]
/-- a permuted list of ints is one of ints -/
theorem perm_ints {l : List D} {ns : List Int} (h : l.Perm (ns.map .int)) : ∃ ms : List Int, l = ms.map .int ∧ ms.Perm ns := by
  let f : D → Int := fun d => match d with | .int i => i | _ => 0
  refine ⟨l.map f, ?_, ?_⟩
  · have : ∀ d ∈ l, D.int (f d) = d := fun d hd => by
      obtain ⟨z, _, rfl⟩ := List.mem_map.mp (h.mem_iff.mp hd)
      rfl
    rw [List.map_map]
    conv => lhs; rw [← List.map_id l]
    exact List.map_congr_left fun d hd => (this d hd).symm
  · have h2 := h.map f
    rw [List.map_map] at h2
    have e : (f ∘ D.int) = id := rfl
    rw [e, List.map_id] at h2
    exact h2
/-- a loop of one turn -/
theorem sFor_one {m i : Nat} {it : GI} {lk : Look} {B : GS} {ρ ρ' : Ev} {S0 S1 T : Sto} {d : D} (hit : it ρ S0 = .ok lk S1 none) (l0 : lk 0 S1 = some (some d)) (h : B (ρ.set i (some d)) S1 = .nx ρ' T ∨ B (ρ.set i (some d)) S1 = .ct ρ' T)
    (l1 : lk 1 T = some none) : sFor (m + 2) it (tName i) B ρ S0 = .nx ρ' T := by
  rcases h with h | h
  · simp only [sFor, hit, IR.thn, unlRS, forN, l0, ev_tname, sthn_nx, h, Nat.zero_add, l1]
  · simp only [sFor, hit, IR.thn, unlRS, forN, l0, ev_tname, sthn_nx, h, Nat.zero_add, l1]
theorem live1 {S : Sto} {l : List D} {n i : Nat} (h : S[n]? = some (.lst l)) : liveL n i S = some l[i]? := by simp only [liveL, h]
theorem sSeq_assoc {a b c : GS} {ρ : Ev} {S : Sto} : sSeq a (sSeq b c) ρ S = sSeq (sSeq a b) c ρ S := by
  simp only [ev_seq]
  cases a ρ S <;> rfl
theorem sSeq_nx {a b : GS} {ρ ρ' : Ev} {S S' : Sto} (h : a ρ S = .nx ρ' S') : sSeq a b ρ S = b ρ' S' := by
  simp only [ev_seq, h, sthn_nx]
end Gp

set_option Elab.async false
set_option linter.all false
set_option maxRecDepth 100000
set_option maxHeartbeats 1000000
/-! Gp36: join -/
namespace Gp
open PySem PySem.Spec L2
open PyProof.Rows hiding St

def strsOf : List D → Option (List Str) := omap fun d => match d with
  | .str s => some s
  | _ => none
def pJoin : D → List D → Sto → Pr := fun x ds S => match x, ds with
  | .str a, [d] => match asL d S with
    | some l => match strsOf l with
      | some ys => if (ys.map (·.length)).sum + ys.length * a.length ≤ 16777216 then some (.str (Txt.join a ys), S) else none
      | none => none
    | none => none
  | _, _ => none
section
variable {g : G} {N : List Str} {sc : Scope} {L : Nat} {Wx : WX} {X : Cx} {μ : List Addr} {H : Hp} {S : Sto}
theorem strsOf_rep : ∀ {l : List D} {vs : List V} {ns : List Str}, RepL g H μ l vs → strsOf l = some ns → vs = ns.map V.str
  | [], vs, ns, r, e => by simp only [RepL] at r; simp [strsOf, omap] at e; subst e r; rfl
  | d :: l, vs, ns, r, e => by
    simp only [RepL] at r
    obtain ⟨v, y, rfl, h, t⟩ := r
    obtain ⟨i, ms, e1, e2, rfl⟩ := omap_cons e
    split at e1
    · cases e1
      simp only [Rep] at h
      rw [h, strsOf_rep t e2, List.map_cons]
    · cases e1
theorem m_join (C : CtxOk g N sc L Wx X) : MtR X "str.join" (rMb g pJoin) := MtR.pick fun x vs H Q h => by
  obtain ⟨a, ds, S, μ, w, r, rl, h⟩ := h
  unfold pJoin at h
  split at h
  · rename_i a d
    split at h
    · rename_i l hl
      split at h
      · rename_i ys hy
        obtain ⟨hz, h⟩ := ite_none h
        simp only [Rep] at r
        subst r
        simp only [RepL] at rl
        obtain ⟨v, _, rfl, rv, rfl⟩ := rl
        obtain ⟨p, vs, rfl, h1, q⟩ := asL_rep w rv hl
        rw [strsOf_rep q hy] at h1
        exact ⟨_, mt_join, a, p, ys, rfl, rfl, .inl (.of h1), hz, PostP.here h w (by simp [Rep])⟩
      · exact h.elim
    · exact h.elim
  · exact h.elim
end
theorem strsOf_map {ns : List Str} : strsOf (ns.map .str) = some ns := by
  induction ns with
  | nil => rfl
  | cons n ns ih =>
    unfold strsOf at ih ⊢
    simp [omap, ih]
end Gp

set_option Elab.async false
set_option linter.all false
set_option maxRecDepth 100000
set_option maxHeartbeats 1000000
/-! Gp37: bits, index, a list the other way round, dict(..) -/
namespace Gp
open PySem PySem.Spec L2
open PyProof.Rows hiding St

section
variable {g : G} {N : List Str} {sc : Scope} {L : Nat} {Wx : WX} {X : Cx} {μ : List Addr} {H : Hp} {S : Sto} {Q : VK}
/-! ### bits -/
def gBand : D → D → Sto → Pr := fun a b S => match a, b with
  | .int i, .int j => some (.int (Builtin.bitAnd i j), S)
  | _, _ => none
def gBor : D → D → Sto → Pr := fun a b S => match a, b with
  | .int i, .int j => some (.int (Builtin.bitOr i j), S)
  | _, _ => none
def gShl : D → D → Sto → Pr := fun a b S => match a, b with
  | .int i, .int j => if powOk i j = true then some (.int (i * 2 ^ j.toNat), S) else none
  | _, _ => none
def gShr : D → D → Sto → Pr := fun a b S => match a, b with
  | .int i, .int j => if 0 ≤ j then some (.int (i / 2 ^ j.toNat), S) else none
  | _, _ => none
theorem o_band (C : CtxOk g N sc L Wx X) : OpR X (binaryOp .BitAnd) (rP2 g gBand) := OpR.pick fun x y H Q h => by
  obtain ⟨a, b, S, μ, w, r1, r2, h⟩ := h
  unfold gBand at h
  split at h
  · simp only [Rep] at r1 r2
    exact ⟨_, op_and, _, _, r1, r2, PostP.here h w (by simp [Rep])⟩
  · exact h.elim
theorem o_bor (C : CtxOk g N sc L Wx X) : OpR X (binaryOp .BitOr) (rP2 g gBor) := OpR.pick fun x y H Q h => by
  obtain ⟨a, b, S, μ, w, r1, r2, h⟩ := h
  unfold gBor at h
  split at h
  · simp only [Rep] at r1 r2
    exact ⟨_, op_or, _, _, r1, r2, PostP.here h w (by simp [Rep])⟩
  · exact h.elim
theorem o_shl (C : CtxOk g N sc L Wx X) : OpR X (binaryOp .LShift) (rP2 g gShl) := OpR.pick fun x y H Q h => by
  obtain ⟨a, b, S, μ, w, r1, r2, h⟩ := h
  unfold gShl at h
  split at h
  · split at h
    · rename_i i j hm
      simp only [Rep] at r1 r2
      simp only [powOk, Bool.and_eq_true, decide_eq_true_eq] at hm
      exact ⟨_, op_shl, _, _, r1, r2, ⟨hm.1.1, hm.1.2, hm.2⟩, PostP.here h w (by simp [Rep])⟩
    · exact h.elim
  · exact h.elim
theorem o_shr (C : CtxOk g N sc L Wx X) : OpR X (binaryOp .RShift) (rP2 g gShr) := OpR.pick fun x y H Q h => by
  obtain ⟨a, b, S, μ, w, r1, r2, h⟩ := h
  unfold gShr at h
  split at h
  · split at h
    · rename_i i j hm
      simp only [Rep] at r1 r2
      exact ⟨_, op_shr, _, _, r1, r2, hm, PostP.here h w (by simp [Rep])⟩
    · exact h.elim
  · exact h.elim
/-! ### index of a word -/
def posOf (z : Str) : List Str → Option Nat
  | [] => none
  | y :: r => if y = z then some 0 else (posOf z r).map (· + 1)
theorem posOf_some {z : Str} : ∀ {ys : List Str} {j : Nat}, posOf z ys = some j → ys[j]? = some z ∧ ∀ m, m < j → ys[m]? ≠ some z
  | [], j, h => by cases h
  | y :: r, j, h => by
    unfold posOf at h
    by_cases e : y = z
    · rw [if_pos e] at h
      cases h
      exact ⟨by simp [e], fun m hm => by omega⟩
    · rw [if_neg e] at h
      cases hr : posOf z r with
      | none => rw [hr] at h; cases h
      | some i =>
        rw [hr] at h
        cases h
        obtain ⟨h1, h2⟩ := posOf_some hr
        refine ⟨by simpa using h1, fun m hm => ?_⟩
        cases m with
        | zero => simpa using e
        | succ m => simpa using h2 m (Nat.lt_of_succ_lt_succ hm)
def pIndexL : D → List D → Sto → Pr := fun x ds S => match ds with
  | [.str z] => match asL x S with
    | some l => match strsOf l with
      | some ys => (posOf z ys).map fun j => (.int (j : Nat), S)
      | none => none
    | none => none
  | _ => none
def pIndexT : D → List D → Sto → Pr := fun x ds S => match ds with
  | [.str z] => match asT x with
    | some l => match strsOf l with
      | some ys => (posOf z ys).map fun j => (.int (j : Nat), S)
      | none => none
    | none => none
  | _ => none
theorem m_indexL (C : CtxOk g N sc L Wx X) : MtR X "list.index" (rMb g pIndexL) := MtR.pick fun x vs H Q h => by
  obtain ⟨a, ds, S, μ, w, r, rl, h⟩ := h
  unfold pIndexL at h
  split at h
  · rename_i z
    split at h
    · rename_i l hl
      split at h
      · rename_i ys hy
        simp only [RepL] at rl
        obtain ⟨v, _, rfl, rv, rfl⟩ := rl
        simp only [Rep] at rv
        subst rv
        obtain ⟨p, vs, rfl, h1, q⟩ := asL_rep w r hl
        rw [strsOf_rep q hy] at h1
        cases hp : posOf z ys with
        | none => rw [hp] at h; exact h.elim
        | some j =>
          rw [hp] at h
          obtain ⟨e1, e2⟩ := posOf_some hp
          refine ⟨_, mt_index, p, ys.map V.str, .str z, j, .str z, rfl, rfl, .of h1, rfl, flat_strs ys, by rw [List.getElem?_map, e1]; rfl, by simp [eqV], fun m z' hm hz => ?_, PostP.here h w (by simp [Rep])⟩
          rw [List.getElem?_map] at hz
          cases hy2 : ys[m]? with
          | none => rw [hy2] at hz; cases hz
          | some y =>
            rw [hy2] at hz
            cases hz
            have := e2 m hm
            rw [hy2] at this
            have hne : y ≠ z := fun e => this (by rw [e])
            simp [eqV, hne]
      · exact h.elim
    · exact h.elim
  · exact h.elim
theorem m_indexT (C : CtxOk g N sc L Wx X) : MtR X "tuple.index" (rMb g pIndexT) := MtR.pick fun x vs H Q h => by
  obtain ⟨a, ds, S, μ, w, r, rl, h⟩ := h
  unfold pIndexT at h
  split at h
  · rename_i z
    split at h
    · rename_i l hl
      split at h
      · rename_i ys hy
        simp only [RepL] at rl
        obtain ⟨v, _, rfl, rv, rfl⟩ := rl
        simp only [Rep] at rv
        subst rv
        obtain ⟨p, vs, rfl, h1, q⟩ := asT_rep r hl
        rw [strsOf_rep q hy] at h1
        cases hp : posOf z ys with
        | none => rw [hp] at h; exact h.elim
        | some j =>
          rw [hp] at h
          obtain ⟨e1, e2⟩ := posOf_some hp
          exact ⟨_, mt_tup_index, p, ys, z, j, rfl, rfl, by rw [C.K]; exact h1, e1, e2, PostP.here h w (by simp [Rep])⟩
      · exact h.elim
    · exact h.elim
  · exact h.elim
/-! ### dict(..) -/
def mkD (m : Bool) (l : List (D × D)) (S : Sto) : Pr := if m = true then some (.ref S.length, S ++ [.dict 0 false l]) else some (.dc 0 l, S)
def pairsD : List D → Option (List (D × D)) := omap fun d => match asT d with
  | some [k, v] => if flatKey k = true then some (k, v) else none
  | _ => none
def pDict (m : Bool) : PrN := fun ds S => match ds with
  | [d] => match asD d S with
    | some (0, l) => mkD m l S
    | some _ => none
    | none => match asL d S with
      | some l => match pairsD l with
        | some ps => mkD m (ps.foldl (fun acc p => dput acc p.1 p.2) []) S
        | none => none
      | none => none
  | _ => none
theorem PostP.mkDict {m : Bool} {l : List (D × D)} {ks : List (Key × V)} (h : PostP g μ H (mkD m l S) Q) (w : W g μ H S) (r : RepK g H μ l ks) : ∀ p, H p = none → Q (.ref p) (upd H p (.dK ks)) := by
  intro p hp
  cases m with
  | true =>
    exact h (.ref p) _ (μ ++ [p]) (grow_alloc hp) (w.alloc (c := .dict 0 false l) hp ⟨.dK ks, .inl ⟨rfl, ks, rfl, r.mono (grow_alloc hp)⟩, by rw [if_neg (by simp)]; exact upd_same⟩) (by simp only [Rep]; exact ⟨p, rfl, by rw [← w.len, List.getElem?_append_right (Nat.le_refl _)]; simp⟩)
  | false =>
    exact h (.ref p) _ μ (grow_fresh hp) (w.add hp) (by simp only [Rep]; exact ⟨p, rfl, w.fresh hp, .inl ⟨trivial, ks, .inl upd_same, r.mono (grow_fresh hp)⟩⟩)
theorem pairs_rep : ∀ {l : List D} {vs : List V} {prs : List (D × D)}, RepL g H μ l vs → pairsD l = some prs → ∃ (ps : List Addr) (kvs : List (Key × V)), vs = ps.map V.ref ∧ Paired (fun p kv => SqT g.K H p [kV kv.1, kv.2]) ps kvs ∧ RepK g H μ prs kvs
  | [], vs, prs, r, e => by simp only [RepL] at r; simp [pairsD, omap] at e; subst e r; exact ⟨[], [], rfl, .nil, by simp [RepK]⟩
  | d :: l, vs, prs, r, e => by
    simp only [RepL] at r
    obtain ⟨v, y, rfl, h, t⟩ := r
    obtain ⟨i, ms, e1, e2, rfl⟩ := omap_cons e
    obtain ⟨ps, kvs, rfl, q1, q2⟩ := pairs_rep t e2
    split at e1
    · rename_i k x ht
      split at e1
      · rename_i hk
        cases e1
        obtain ⟨p, ws, rfl, h1, q⟩ := asT_rep h ht
        obtain ⟨kk, rfl⟩ := flatKey_of hk
        simp only [RepL] at q
        obtain ⟨kv, t1, rfl, rk, xv, t2, rfl, rx, rfl⟩ := q
        rw [rep_kD.mp rk] at h1
        exact ⟨p :: ps, (kk, xv) :: kvs, rfl, .cons h1 q1, by simp only [RepK]; exact ⟨kk, xv, kvs, rfl, rfl, rx, q2⟩⟩
      · cases e1
    · cases e1
theorem rep_merge : ∀ {prs : List (D × D)} {kvs : List (Key × V)} {acc : List (D × D)} {ks : List (Key × V)}, RepK g H μ prs kvs → RepK g H μ acc ks → RepK g H μ (prs.foldl (fun acc p => dput acc p.1 p.2) acc) (mergeK ks kvs)
  | [], kvs, acc, ks, r, q => by simp only [RepK] at r; subst r; exact q
  | p :: prs, kvs, acc, ks, r, q => by
    simp only [RepK] at r
    obtain ⟨k, v, t, rfl, e, h, r⟩ := r
    simp only [List.foldl_cons, mergeK]
    rw [e]
    exact rep_merge r (dputK h q)
theorem c_dict (m : Bool) (C : CtxOk g N sc L Wx X) : CallR X (.type "dict") (rPn g (pDict m)) := CallR.pick fun xs H Q h => by
  obtain ⟨ds, S, μ, w, r, h⟩ := h
  unfold pDict at h
  split at h
  · obtain ⟨v, hv', rr⟩ := rep1 r; subst hv'; replace r := rr
    split at h
    · rename_i d _ l e
      obtain ⟨a, rfl, ⟨_, ks, h1, h2⟩ | ⟨z, _⟩⟩ := asD_rep w r e
      · exact ⟨_, call_dictD, a, ks, rfl, h1, PostP.mkDict h w h2⟩
      · cases z
    · exact h.elim
    · split at h
      · rename_i l e
        split at h
        · rename_i prs ep
          obtain ⟨p, vs, rfl, h1, q⟩ := asL_rep w r e
          obtain ⟨ps, kvs, rfl, q1, q2⟩ := pairs_rep q ep
          exact ⟨_, call_dictP C.calm, p, ps, kvs, rfl, .of h1, by rw [C.K]; exact q1, PostP.mkDict h w (rep_merge q2 (by simp [RepK]))⟩
        · exact h.elim
      · exact h.elim
  · exact h.elim
/-! ### the other way round -/
def gRevL (m : Bool) (a : GE) : GE := fun ρ S => (a ρ S).bind fun x S1 => match asL x S1 with
  | some l => (mkL m l.reverse S1).res
  | none => .bad
theorem RepL.rev : ∀ {l : List D} {vs : List V}, RepL g H μ l vs → RepL g H μ l.reverse vs.reverse
  | [], vs, r => by simp only [RepL] at r; subst r; simp [RepL]
  | d :: l, vs, r => by
    simp only [RepL] at r
    obtain ⟨v, t, rfl, h, q⟩ := r
    rw [List.reverse_cons, List.reverse_cons]
    exact (RepL.rev q).snoc h
theorem re_revL {m : Bool} {e : Expr} {ma : GE} {k : Nat} {p1 p2 p3 pos : Pos} (ha : Real g N sc L e ma) : Real g N sc L (.Subscript e (.Slice none none (some (.UnaryOp .USub (.Constant (.int 1) k p1) p2)) p3) pos) (gRevL m ma) := by
  intro Wx X C
  refine (pe_revL (ha Wx X C)).weak ?_
  rintro σ H Q ⟨ρ, S, μ, he, hw, h⟩
  unfold gRevL at h
  refine ⟨ρ, S, μ, he, hw, h.bind fun x S1 vx H1 μ1 g1 w1 r1 h1 => ?_⟩
  split at h1
  · rename_i l hl
    obtain ⟨p, vs, rfl, e1, q⟩ := asL_rep w1 r1 hl
    exact ⟨p, vs, rfl, .of e1, PostP.mk h1.pr w1 q.rev⟩
  · exact h1.elim
end
end Gp

set_option Elab.async false
set_option linter.all false
set_option maxRecDepth 100000
set_option maxHeartbeats 1000000
/-! Gp38: a tuple the other way round -/
namespace Gp
open PySem PySem.Spec L2
open PyProof.Rows hiding St

section
variable {prog : Program} {w : World} {A : Around} {E : Value → Shared → Prop} {s : Shared}
theorem applied_rev {sl : Addr} {vl vu vs : Value} {n : Nat} {Q : Int × Int × Nat → Shared → Prop} (hs : s.heap.IsSliceOf sl vl vu vs) (pl : IsPart vl none) (pu : IsPart vu none) (ps : IsPart vs (some (-1)))
    (h : Q ((n : Int) - 1, -1, n) s) : wpAny (model prog w) A (Builtin.Slice.sliceApplied (.ref sl) (pure (n : Int))) Q E s := by
  obtain ⟨os, hos, hcs, hds⟩ := id hs
  unfold Builtin.Slice.sliceApplied Builtin.Slice.sliceFields
  refine wpAny_bind (wpAny_bind (wpAny_field hos hds (x := vl) rfl (wpAny_bind (wpAny_field hos hds (x := vu) rfl (wpAny_bind (wpAny_field hos hds (x := vs) rfl (wpAny_pure ?_)))))))
  refine wpAny_bind (HT.slicePart_ ps ?_)
  show wpAny _ _ (if ((-1 : Int) == 0) = true then _ else _) _ _ s
  rw [if_neg (by decide)]
  refine wpAny_bind (HT.slicePart_ pl (wpAny_bind (HT.slicePart_ pu (wpAny_bind (wpAny_pure ?_)))))
  have e : Builtin.Slice.sliceAdjust none none (-1) (n : Int) = ((n : Int) - 1, -1) := rfl
  show wpAny _ _ (match Builtin.Slice.sliceAdjust none none (-1) (n : Int) with | (lo, hi) => pure (lo, (-1 : Int), Builtin.Slice.slicePlaces lo hi (-1))) _ _ s
  rw [e]
  have e2 : Builtin.Slice.slicePlaces ((n : Int) - 1) (-1) (-1) = n := by
    unfold Builtin.Slice.slicePlaces
    rw [if_neg (by decide)]
    by_cases hn : (n : Int) - 1 > -1
    · rw [if_pos hn, show -(-1 : Int) = 1 from rfl, Int.ediv_one]; omega
    · rw [if_neg hn]; omega
  show wpAny _ _ (pure ((n : Int) - 1, (-1 : Int), Builtin.Slice.slicePlaces ((n : Int) - 1) (-1) (-1))) _ _ s
  rw [e2]
  exact wpAny_pure h
theorem fm_congr {α β : Type} {f g : α → Option β} : ∀ {l : List α}, (∀ x ∈ l, f x = g x) → l.filterMap f = l.filterMap g
  | [], _ => rfl
  | a :: l, h => by
    rw [List.filterMap_cons, List.filterMap_cons, h a (by simp), fm_congr (l := l) fun x hx => h x (by simp [hx])]
theorem pick_rev (xs : Array Value) : ((List.range xs.size).filterMap fun (m : Nat) => xs[(((xs.size : Int) - 1) + (m : Int) * (-1)).toNat]?).toArray = xs.toList.reverse.toArray := by
  have e : (List.range xs.size).filterMap (fun (m : Nat) => xs[(((xs.size : Int) - 1) + (m : Int) * (-1)).toNat]?) = ((List.range xs.size).map fun k => xs.size - 1 - k).filterMap (xs[·]?) := by
    rw [List.filterMap_map]
    refine fm_congr fun m hm => ?_
    have := List.mem_range.mp hm
    show xs[(((xs.size : Int) - 1) + (m : Int) * (-1)).toNat]? = xs[xs.size - 1 - m]?
    congr 1
    omega
  rw [e, PySem.W.krv_range, List.filterMap_reverse, PySem.W.krv_all]
theorem getItem_tuple_rev {t sl : Addr} {items : Array Value} {vl vu vs : Value} {Q : Value → Shared → Prop} (ht : IsTup s.heap t items) (hs : s.heap.IsSliceOf sl vl vu vs) (pl : IsPart vl none) (pu : IsPart vu none) (ps : IsPart vs (some (-1)))
    (h : Q (.ref s.heap.objs.size) { s with heap := s.heap.push { cls := .type "tuple", data := .seq items.toList.reverse.toArray } })
    (hsz : items.size ≤ sizeLine) : wpAny (model prog w) A (getItem (.ref t) (.ref sl)) Q E s := by
  have htake : sizeOk (.seq items.toList.reverse.toArray) := by
    show items.toList.reverse.toArray.size ≤ sizeLine
    rw [List.size_toArray, List.length_reverse, Array.length_toList]
    exact hsz
  obtain ⟨os, hos, hcs, hds⟩ := id hs
  have hTs : s.TypeIs (.ref sl) "slice" := ⟨os, hos, hcs⟩
  unfold getItem
  try with_reducible refine wpAny_holding ?_
  first | refine wpAny_bind (wpAny_pure ?_) | skip
  refine wpAny_bind (wpAny_sequenceKey ht.typeIs (by decide) ?_)
  refine wpAny_bind (wpAny_callSpecial?_slot (name := Str.ofString "__getitem__") ht.typeIs PyProof.Rows.slot_tuple_getitem
    (wpAny_call_entry PyProof.Rows.slot_tuple_getitem ht.typeIs entry_tuple_getitem ?_ (args_tuple_getitem _ _)))
  show wpAny _ _ (Builtin.Tuple.tupleItemsOf (.ref t) >>= _) _ _ s
  refine wpAny_bind (tupleItemsOf_ ht ?_)
  refine wpAny_bind (wpAny_typeOf hTs ?_)
  rw [if_pos (by decide)]
  refine wpAny_bind (applied_rev hs pl pu ps ?_)
  have hno : ¬ ((((items.size : Int) - 1) == 0 && (-1 : Int) == 1 && items.size == items.size) = true) := by
    intro q
    rw [Bool.and_eq_true, Bool.and_eq_true] at q
    exact absurd q.1.2 (by decide)
  show wpAny _ _ (if (((items.size : Int) - 1) == 0 && (-1 : Int) == 1 && items.size == items.size) = true then _ else _) _ _ s
  rw [if_neg hno, pick_rev]
  first
    | exact wpAny_bind (m := Builtin.Tuple.tupleExact _) (wpAny_newObj_type (wpAny_pure ⟨_, rfl, wpAny_pure h⟩) htake)
    | exact wpAny_bind (m := Builtin.Tuple.tupleExact _) (wpAny_newObj_type (wpAny_bind (wpAny_pure (wpAny_pure ⟨_, rfl, wpAny_pure h⟩))) htake)
    | exact wpAny_bind (wpAny_bind (m := Builtin.Tuple.tupleExact _) (wpAny_newObj_type (wpAny_pure (wpAny_pure ⟨_, rfl, wpAny_pure h⟩)) htake))
    | exact wpAny_bind (wpAny_bind (m := Builtin.Tuple.tupleExact _) (wpAny_newObj_type (wpAny_pure ⟨_, rfl, wpAny_pure h⟩) htake))
end
section
variable {X : Cx}
def tRevT (K : PySem.W.Frag) (te : TE) : TE := fun σ H Q => te σ H fun x H1 => ∃ a xs, x = .ref a ∧ SqT K H1 a xs ∧ ∀ p, H1 p = none → Q (.ref p) (upd H1 p (.tup xs.reverse))
theorem pe_revT {e : Expr} {te : TE} {k : Nat} {p1 p2 p3 pos : Pos} (he : PE X e te) : PE X (.Subscript e (.Slice none none (some (.UnaryOp .USub (.Constant (.int 1) k p1) p2)) p3) pos) (tRevT X.K te) := by
  refine ⟨fun pins s σ H Q I h => ?_⟩
  refine Subscript_ (thn (he.run pins s σ H _ I h) fun v s1 ⟨x, H1, I1, r1, q1⟩ => ?_)
  obtain ⟨a, xs, ex, hx, q⟩ := q1
  subst ex
  cases r1
  have hst : PO X (some (.UnaryOp .USub (.Constant (.int 1) k p1) p2)) (tPart (tUn (rU fun i => .int (-i)) (tC (.int 1)))) := po_some (pe_un un_neg pe_int)
  refine wpAny_Slice (thn (po_none.run pins s1 σ H1 (fun o H2 => o = none ∧ H2 = H1) I1 ⟨rfl, rfl⟩) fun vl s2 ⟨l, H2, I2, pl, el, e2⟩ => ?_)
  subst el e2
  refine thn (po_none.run pins s2 σ H2 (fun o H3 => o = none ∧ H3 = H2) I2 ⟨rfl, rfl⟩) fun vu s3 ⟨u, H3, I3, pu, eu, e3⟩ => ?_
  subst eu e3
  refine thn (hst.run pins s3 σ H3 (fun o H4 => o = some (-1) ∧ H4 = H3) I3 ⟨1, rfl, -1, rfl, rfl, rfl⟩) fun vs s4 ⟨o, H4, I4, ps, eo, e4⟩ => ?_
  subst eo e4
  have I5 : Inv X pins σ H4 { s4 with heap := s4.heap.push { cls := .type "slice", data := .fields #[vl, vu, vs] } } := I4.kept (t' := s4.toks) fun b ob q => Heap.get?_push_of_some _ q
  obtain ⟨its, r, ht, hz⟩ := I5.tuple hx
  have hlen := r.length
  show wpAny (model X.prog X.w) X.A (subscriptTail e (.Slice none none (some (.UnaryOp .USub (.Constant (.int 1) k p1) p2)) p3) (.ref a) (.ref s4.heap.objs.size)) (EP X pins σ Q) X.xe { s4 with heap := s4.heap.push { cls := .type "slice", data := .fields #[vl, vu, vs] } }
  refine tail_any (ops := [.ref a, .ref s4.heap.objs.size]) ht.typeIs (PyProof.Rows.slot_tuple_getitem.lookup) ?_ (by with_unfolding_all rfl)
  refine getItem_tuple_rev ht (Heap.IsSliceOf.new _ vl vu vs) pl pu ps ?_ (by rw [List.size_toArray, ← hlen]; exact hz)
  refine ⟨.ref _, _, I5.laid (t' := s4.toks) (o := .tup xs.reverse) (fun b ob q => Heap.get?_push_of_some _ q) (Nat.le_refl _) ?_, rfl, q _ (I5.hok.fresh (Nat.le_refl _))⟩
  exact ⟨by rw [List.length_reverse]; exact hz, _, r.reverse, IsTup.new _ _⟩
end
section
variable {g : G} {N : List Str} {sc : Scope} {L : Nat}
def gRevT (a : GE) : GE := fun ρ S => (a ρ S).bind fun x S1 => match asT x with
  | some l => .ok (.tup l.reverse) S1
  | none => .bad
theorem re_revT {e : Expr} {ma : GE} {k : Nat} {p1 p2 p3 pos : Pos} (ha : Real g N sc L e ma) : Real g N sc L (.Subscript e (.Slice none none (some (.UnaryOp .USub (.Constant (.int 1) k p1) p2)) p3) pos) (gRevT ma) := by
  intro Wx X C
  refine (pe_revT (ha Wx X C)).weak ?_
  rintro σ H Q ⟨ρ, S, μ, he, hw, h⟩
  unfold gRevT at h
  refine ⟨ρ, S, μ, he, hw, h.bind fun x S1 vx H1 μ1 g1 w1 r1 h1 => ?_⟩
  split at h1
  · rename_i l hl
    obtain ⟨p, vs, rfl, e1, q⟩ := asT_rep r1 hl
    refine ⟨p, vs, rfl, by rw [C.K]; exact e1, fun p' hp => ?_⟩
    exact h1 (.ref p') _ μ1 (grow_fresh hp) (w1.add hp) (by simp only [Rep]; exact ⟨p', _, rfl, w1.fresh hp, upd_same, q.rev.mono (grow_fresh hp)⟩)
  · exact h1.elim
end
end Gp

set_option Elab.async false
set_option linter.all false
set_option maxRecDepth 100000
set_option maxHeartbeats 1000000
/-! Gp39: a dict compared with {} -/
namespace Gp
open PySem PySem.Spec L2
open PyProof.Rows hiding St

/-- values of dicts, as data -/
def pdv (S : Sto) (d : D) : Option PyData := pd S 50 d
def datL (S : Sto) (l : List (D × D)) : Bool := l.all fun p => (pdv S p.2).isSome
/-- each pair of the first is there in the second -/
def hitD (S : Sto) (l : List (D × D)) (k : List (D × D)) : Bool := k.all fun p => match dget l p.1 with
  | none => false
  | some d => match pdv S p.2, pdv S d with
    | some x, some y => PyData.eqv x y
    | _, _ => false
/-- dicts of flat keys -/
def eqD (a b : D) (S : Sto) : Option Bool := match asD a S, asD b S with
  | some (0, k), some (0, l) => if k.length = l.length then (if datL S k && datL S l then some (hitD S l k) else none) else some false
  | _, _ => none
def gEqD (a b : D) (S : Sto) : Pr := (eqD a b S).map fun r => (.bl r, S)
def gNeD (a b : D) (S : Sto) : Pr := (eqD a b S).map fun r => (.bl (!r), S)
section
variable {g : G} {N : List Str} {sc : Scope} {L : Nat} {Wx : WX} {X : Cx} {μ : List Addr} {H : Hp} {S : Sto} {Q : VK}
theorem RepK.length : ∀ {l : List (D × D)} {ks : List (Key × V)}, RepK g H μ l ks → l.length = ks.length
  | [], ks, r => by simp only [RepK] at r; subst r; rfl
  | p :: l, ks, r => by
    simp only [RepK] at r
    obtain ⟨k, v, t, rfl, _, _, q⟩ := r
    rw [List.length_cons, List.length_cons, RepK.length q]
/-- short-circuit: a missing key ends it -/
theorem hits_data {A : Around} {s : Shared} (w : W g μ H S) (hred : ∀ (x : V) (v : Value) (p : PyData), Dp g.K H x p → RelV x v → ∃ as, Reads s.heap v p as) (hu : A.units + 100 < cLine) {l : List (D × D)} {ls : List (Key × V)} {vb : List (Key × Value)} (q2 : RepK g H μ l ls) (rb : KV ls vb) (dl : datL S l = true) :
    ∀ {k : List (D × D)} {ks : List (Key × V)} {va : List (Key × Value)}, RepK g H μ k ks → KV ks va → datL S k = true → PySem.W.KeqHits A s vb va (hitD S l k)
  | [], ks, va, q1, ra, _ => by
    simp only [RepK] at q1
    subst q1
    unfold KV at ra
    cases ra
    exact .nil
  | p :: k, ks, va, q1, ra, dk => by
    simp only [RepK] at q1
    obtain ⟨kk, v, t, rfl, ek, rv, q1⟩ := q1
    unfold KV at ra
    cases ra with
    | @cons _ pr _ va h1 ra =>
      obtain ⟨k', u⟩ := pr
      obtain ⟨e1, ru⟩ := h1
      have e1 : kk = k' := e1
      subst e1
      have ru : RelV v u := ru
      simp only [datL, List.all_cons, Bool.and_eq_true] at dk
      have rr : RelO (valV ls kk) (valueAt vb kk) := rb.val kk
      have hg := dgetK (k := kk) q2
      simp only [hitD, List.all_cons, ek]
      cases hd : dget l (kD kk) with
      | none =>
        have e0 := hg.2 hd
        rw [e0] at rr
        simp only [Bool.false_and]
        exact .miss (RelO.none_of rr)
      | some d =>
        obtain ⟨vd, e0, rd⟩ := hg.1 d hd
        rw [e0] at rr
        obtain ⟨y, hy, ry⟩ := rr.some_of
        have hdat : (pdv S d).isSome = true := by
          have : ∀ {l : List (D × D)} {d : D}, datL S l = true → dget l (kD kk) = some d → (pdv S d).isSome = true := by
            intro l
            induction l with
            | nil => intro d _ h; simp [dget] at h
            | cons p l ih =>
              intro d h1 h2
              simp only [datL, List.all_cons, Bool.and_eq_true] at h1
              unfold dget at h2
              split at h2
              · cases h2; exact h1.1
              · exact ih h1.2 h2
          exact this dl hd
        obtain ⟨py, ey⟩ := Option.isSome_iff_exists.mp hdat
        obtain ⟨px, ex⟩ := Option.isSome_iff_exists.mp dk.1
        simp only [ex, ey]
        obtain ⟨d1, n1, z1⟩ := pd_rep w 50 p.2 v px rv ex
        obtain ⟨d2, n2, z2⟩ := pd_rep w 50 d vd py rd ey
        obtain ⟨as, r1⟩ := hred v u px d1 ru
        obtain ⟨bs, r2⟩ := hred vd y py d2 ry
        exact .hit hy (PySem.SeqAt.eqAt_plain px py A s u y as bs r1 r2 z1 z2 (by omega)) (hits_data w hred hu q2 rb dl q1 ra (by simpa [datL] using dk.2))
theorem o_eqD (C : CtxOk g N sc L Wx X) : OpR X (compareOp .Eq) (rP2 g gEqD) := fun pins s σ H x y v u Q I rx ry h => by
  obtain ⟨a, b, S, μ, w, r1, r2, h⟩ := h
  unfold gEqD eqD at h
  split at h
  · rename_i k l e1 e2
    obtain ⟨p, rfl, ⟨_, ks, h1, q1⟩ | ⟨z, _⟩⟩ := asD_rep w r1 e1
    · obtain ⟨p', rfl, ⟨_, ls, h2, q2⟩ | ⟨z, _⟩⟩ := asD_rep w r2 e2
      · obtain rfl : v = Value.ref p := rx
        obtain rfl : u = Value.ref p' := ry
        obtain ⟨_, ya, va, ra, da⟩ := dk_rd I.hok h1
        obtain ⟨_, yb, vb, rb, db⟩ := dk_rd I.hok h2
        have la : va.length = k.length := by rw [← ra.length, q1.length]
        have lb : vb.length = l.length := by rw [← rb.length, q2.length]
        have hu : X.A.units < cLine := by have := C.units; omega
        split at h
        · rename_i hl
          split at h
          · rename_i hd
            rw [Bool.and_eq_true] at hd
            refine PySem.W.keq_eq (knd := mixKind X.prog X.w) (r := hitD S l k) ya yb da db hu (fun _ => hits_data w (fun x v p d r => Dp.reads I p x v (by rw [C.K]; exact d) r) (by have := C.units; show X.A.units + 1 + 100 < _; omega) q2 rb hd.2 q1 ra hd.1) (fin_bl I (h (.bl (hitD S l k)) H μ (.refl _ _) w (by simp [Rep])) (by rw [la, lb, hl]; simp))
          · exact h.elim
        · rename_i hl
          refine PySem.W.keq_eq (knd := mixKind X.prog X.w) (r := true) ya yb da db hu (fun e => absurd (by rw [← la, ← lb]; exact e) hl) (fin_bl I (h (.bl false) H μ (.refl _ _) w (by simp [Rep])) (by rw [la, lb]; simp [hl]))
      · cases z
    · cases z
  · exact h.elim
theorem o_neD (C : CtxOk g N sc L Wx X) : OpR X (compareOp .NotEq) (rP2 g gNeD) := fun pins s σ H x y v u Q I rx ry h => by
  obtain ⟨a, b, S, μ, w, r1, r2, h⟩ := h
  unfold gNeD eqD at h
  split at h
  · rename_i k l e1 e2
    obtain ⟨p, rfl, ⟨_, ks, h1, q1⟩ | ⟨z, _⟩⟩ := asD_rep w r1 e1
    · obtain ⟨p', rfl, ⟨_, ls, h2, q2⟩ | ⟨z, _⟩⟩ := asD_rep w r2 e2
      · obtain rfl : v = Value.ref p := rx
        obtain rfl : u = Value.ref p' := ry
        obtain ⟨_, ya, va, ra, da⟩ := dk_rd I.hok h1
        obtain ⟨_, yb, vb, rb, db⟩ := dk_rd I.hok h2
        have la : va.length = k.length := by rw [← ra.length, q1.length]
        have lb : vb.length = l.length := by rw [← rb.length, q2.length]
        have hu : X.A.units < cLine := by have := C.units; omega
        split at h
        · rename_i hl
          split at h
          · rename_i hd
            rw [Bool.and_eq_true] at hd
            refine PySem.W.keq_ne (knd := mixKind X.prog X.w) (r := hitD S l k) ya yb da db hu (fun _ => hits_data w (fun x v p d r => Dp.reads I p x v (by rw [C.K]; exact d) r) (by have := C.units; show X.A.units + 1 + 100 < _; omega) q2 rb hd.2 q1 ra hd.1) (fin_bl I (h (.bl (!hitD S l k)) H μ (.refl _ _) w (by simp [Rep])) (by rw [la, lb, hl]; simp))
          · exact h.elim
        · rename_i hl
          refine PySem.W.keq_ne (knd := mixKind X.prog X.w) (r := true) ya yb da db hu (fun e => absurd (by rw [← la, ← lb]; exact e) hl) (fin_bl I (h (.bl true) H μ (.refl _ _) w (by simp [Rep])) (by rw [la, lb]; simp [hl]))
      · cases z
    · cases z
  · exact h.elim
end
end Gp

set_option Elab.async false
set_option linter.all false
set_option maxRecDepth 100000
set_option maxHeartbeats 1000000
/-! Gp40: sum, max, min of generator expressions -/
namespace Gp
open PySem PySem.Spec L2
open PyProof.Rows hiding St

def intD : D → Int
  | .int i => i
  | _ => 0
def sumD (l : List D) : Int := (l.map intD).sum
theorem sumD_snoc (l : List D) (z : Int) : sumD (l ++ [.int z]) = sumD l + z := by simp [sumD, intD, List.sum_append]
def inL (z : Int) : Bool := decide (-9223372036854775808 ≤ z) && decide (z < 9223372036854775808)
/-- the sum from acc on -/
def sumN (f : Nat → Nat → Sto → NX) : Nat → Int → Nat → Nat → Sto → Res
  | 0, _, _, _, _ => .bad
  | n + 1, acc, k, i, S => match f k i S with
    | .done S' => .ok (.int acc) S'
    | .item (.int z) k' i' S' => if (inL z && inL (acc + z)) = true then sumN f n (acc + z) k' i' S' else .bad
    | _ => .bad
theorem sumN_live {f : Nat → Nat → Sto → NX} {n k i : Nat} {acc : Int} {S : Sto} (h : sumN f n acc k i S ≠ .bad) : f k i S ≠ .bad := fun e => by
  cases n with
  | zero => exact h rfl
  | succ n => exact h (by unfold sumN; rw [e])
theorem rep_intv {g : G} {H : Hp} {μ : List Addr} {z : Int} {x : V} {v : Value} (r : Rep g H μ (.int z) x) (rv : RelV x v) : ∃ t, v = .int z t := by
  simp only [Rep] at r
  subst r
  exact rv
abbrev lOf (arr : Array Value) (c : Nat) : Obj := { cls := .type "list", dict := none, data := .seq arr c, slots := #[] }
def JSum (p : GP) (L : Addr) : CoJ := fun m μ H h => ∃ t c, h.get? L = some (lOf #[.int (sumD (p.its m)) t] c)
theorem JSum_mono {p : GP} {L : Addr} : (JSum p L).Mono [L] := fun m μ H μ' H' h h' ⟨t, c, e⟩ gr k => ⟨t, c, k L (by simp) _ e⟩
section
variable {p : GP} {A : Around} {R : Result → Shared → Prop} {L : Addr}
theorem gp_sum_loop (hz : ∀ i S, p.nx 0 i S = .bad) (hh : A.handled = none) (hroom : A.depth < recursionLimit) (hLc : cStatics ≠ L) (hLa : p.a ≠ L) : ∀ (n m k i : Nat) (S : Sto) (s : Shared), sumN p.nx n (sumD (p.its m)) k i S ≠ .bad → p.Rdy [L] (JSum p L) A.in1.in1 m k i S s → JSum p L m p.μ0 p.H0 s.heap →
    (∀ z S' μ H s' t, sumN p.nx n (sumD (p.its m)) k i S = .ok (.int z) S' → Run p [L] S' μ H s' → R (.ok (.ret (.int z t))) s') →
    codeAny (model p.X.prog p.X.w) A (.builtin "sum.loop" ⟨[.ref p.a, .ref L, rawInt 0, rawInt 0], []⟩) R s := by
  intro n
  induction n with
  | zero => intro m k i S s h; exact absurd rfl h
  | succ n ih =>
    intro m k i S s h hr hj0 hR
    have hT : p.T m = some (k, i, S) := by obtain ⟨_, _, z, _⟩ := hr; exact z
    obtain ⟨t0, c0, hS0⟩ := hj0
    refine codeAny_builtin F.entry_sum_loop ?_
    rw [Around.under_plainId F.plain_sum_loop _]
    show wpAny _ A.in1 (seqItems? (.ref L) >>= _) _ _ s
    refine wpAny_bind (wpAny_seqItems hS0 rfl ?_)
    show wpAny _ A.in1 (tryCatch (pyNext (.ref p.a)) _ >>= _) _ _ s
    refine wpAny_bind (wpAny_tryCatch (gp_next (A := A.in1) JSum_mono hz hh hroom (by simpa using hLc) (by simpa using hLa) hr (fun c S' e s1 e1 e2 => absurd (by first | (unfold sumN; rw [e1]) | (unfold maxN; rw [e1])) h) (fun y k' i' S' v x μ H s1 e hrun rp rv hkeep hj hk => ?_) fun S' μ H s1 e hrun hkeep hj => ?_))
    · unfold sumN at h hR
      rw [e] at h hR
      cases y with
      | int z =>
        obtain ⟨t, rfl⟩ := rep_intv rp rv
        simp only at h hR
        split at h
        · rename_i hl
          rw [if_pos hl] at hR
          have hS1 := hkeep L (by simp) _ hS0
          have ei := GP.its_next hT e
          have hc : ((decide (-(2 ^ 63) ≤ z) && decide (z < 2 ^ 63)) && (decide (-(2 ^ 63) ≤ sumD (p.its m) + z) && decide (sumD (p.its m) + z < 2 ^ 63))) = true := by
            have e63 : (2 : Int) ^ 63 = 9223372036854775808 := by decide
            rw [e63]
            exact hl
          show wpAny _ A.in1 (if (_ : Bool) = true then (mkInt (sumD (p.its m) + z) >>= _) else _) _ _ _
          split
          · refine wpAny_bind (wpAny_mkInt ?_)
            show wpAny _ A.in1 (updateSeq L (fun _ => #[.int (sumD (p.its m) + z) s1.toks]) >>= _) _ _ _
            refine wpAny_bind ?_
            rw [show sumD (p.its m) + z = sumD (p.its (m + 1)) by rw [ei, sumD_snoc]] at h hR ⊢
            refine wpAny_updateSeq hS1 rfl (wpAny_pure ⟨plainId_quiet F.plain_sum_loop _, ih (m + 1) k' i' S' _ h (hk _ _ (fun b o hb e => (Heap.get?_update_other _ _ (fun z => hb (by simp [z]))).trans e) (fun b hb => ?_) ?_ (sumN_live h)) ?_ hR⟩)
            · obtain rfl : b = L := by simpa using hb
              exact ⟨_, Heap.get?_update_self _ hS1 rfl, fun w z => by cases z⟩
            · exact ⟨_, _, Heap.get?_update_self _ hS1 rfl⟩
            · exact ⟨_, _, Heap.get?_update_self _ hS1 rfl⟩
          · rename_i hneg
            exact absurd hc hneg
        · exact absurd rfl h
      | _ => exact absurd rfl h
    · unfold sumN at hR
      rw [e] at hR
      exact wpAny_pure (hR _ S' μ H s1 t0 rfl hrun)
end
def sumR (f : Nat → Nat → Sto → NX) (n : Nat) (S : Sto) : Res := sumN f n 0 n 0 S
theorem con_sum : Consumes (.builtin "sum") sumR := fun p L' pins σ A s Q E hr hf hi hz M hb hE hQ => by
  unfold sumR at hb hQ
  rw [← hi] at hb hQ
  have hSa : s.heap.objs.size ≠ p.a := Nat.ne_of_gt M.lt
  have hcl : cStatics < s.heap.objs.size := let ⟨_, hn, _⟩ := M.run.lim; hn.lt
  refine call_function_tree F.kind_sum F.plain_sum F.entry_sum (F.args_sum1 _) ?_
  unfold Builtin.«sum»
  simp only [List.length_cons, List.length_nil]
  rw [if_neg (by decide)]
  refine wpAny_bind (wpAny_of_eq (show Builtin.Builtins.bindParams "sum" ["start"] 0 { } = pure [none] from rfl) ?_)
  refine wpAny_bind (wpAny_pyIter_gen M.run.gen ?_)
  refine wpAny_bind (wpAny_mkInt ?_)
  refine wpAny_bind (wpAny_pure ?_)
  simp only [List.forIn_cons, List.forIn_nil]
  refine wpAny_bind (wpAny_bind (wpAny_bind (wpAny_isInstance (T := "int") (b := false) (typeIs_int _ _ _) PySem.sub_int_str ?_)))
  simp only [Bool.false_eq_true, if_false]
  refine wpAny_pure (wpAny_bind (wpAny_bind (wpAny_isInstance (T := "int") (b := false) (typeIs_int _ _ _) PySem.sub_int_bytes ?_)))
  simp only [Bool.false_eq_true, if_false]
  refine wpAny_pure (wpAny_bind (wpAny_bind (wpAny_isInstance (T := "int") (b := false) (typeIs_int _ _ _) PySem.sub_int_bytearray ?_)))
  simp only [Bool.false_eq_true, if_false]
  refine wpAny_pure (wpAny_pure ?_)
  refine wpAny_bind (wpAny_newObj_type ?_)
  have k1 : ∀ b o, s.heap.get? b = some o → (s.heap.push (lOf #[.int 0 s.toks] 0)).get? b = some o := fun b o e => Heap.get?_push_of_some _ e
  have hS1 : (s.heap.push (lOf #[.int 0 s.toks] 0)).get? s.heap.objs.size = some (lOf #[.int 0 s.toks] 0) := Heap.get?_push_size _ rfl
  refine wpAny_pure ⟨plainId_quiet F.plain_sum_loop _, gp_sum_loop (A := A) (L := s.heap.objs.size) (n := p.k0) (m := 0) (k := p.k0) (i := p.i0) (S := p.S0) hz hr.hd (by have := hr.dp; omega) (Nat.ne_of_lt hcl) (Ne.symm hSa) _ hb ?_ ⟨_, _, hS1⟩ fun z S' μ H s' t e r => ?_⟩
  · refine M.rdy A.in1.in1 [s.heap.objs.size] _ _ _ (hr.mono (by omega)).in1.in1 hf (fun b hb => ?_) k1 (sumN_live hb) JSum_mono ⟨_, _, hS1⟩
    obtain rfl : b = s.heap.objs.size := by simpa using hb
    exact ⟨Nat.le_refl _, _, hS1, fun w z => by cases z⟩
  · exact hQ (.int z) S' μ H (.int z) _ s' e r.gr r.w (M.inv _ _ _ _ _ r) (by simp [Rep]) ⟨t, rfl⟩

/-! max -/
/-- the greatest from b on (none: none yet) -/
def maxN (f : Nat → Nat → Sto → NX) : Nat → Option Int → Nat → Nat → Sto → Res
  | 0, _, _, _, _ => .bad
  | n + 1, b, k, i, S => match f k i S with
    | .done S' => match b with
      | some z => .ok (.int z) S'
      | none => .bad
    | .item (.int z) k' i' S' => maxN f n (some (match b with | some y => if z > y then z else y | none => z)) k' i' S'
    | _ => .bad
theorem maxN_live {f : Nat → Nat → Sto → NX} {n k i : Nat} {acc : Option Int} {S : Sto} (h : maxN f n acc k i S ≠ .bad) : f k i S ≠ .bad := fun e => by
  cases n with
  | zero => exact h rfl
  | succ n => exact h (by unfold maxN; rw [e])
/-- the greatest of some -/
def maxD (l : List D) : Option Int := l.foldl (fun b d => some (match b with | some y => if intD d > y then intD d else y | none => intD d)) none
theorem maxD_snoc (l : List D) (z : Int) : maxD (l ++ [.int z]) = some (match maxD l with | some y => if z > y then z else y | none => z) := by
  unfold maxD
  rw [List.foldl_append]
  rfl
/-- the consumer's own object changes -/
theorem Run.own {p : GP} {L : Addr} {S : Sto} {μ : List Addr} {H : Hp} {s : Shared} {h' : Heap} (r : Run p [L] S μ H s) (h0 : p.s0.heap.get? L = none) (hLa : p.a ≠ L) (hLc : cStatics ≠ L) (k : ∀ b o, b ≠ L → s.heap.get? b = some o → h'.get? b = some o) : Run p [L] S μ H { s with heap := h' } := by
  have hn : H L = none := r.co L (by simp)
  have lt : ∀ b o, p.s0.heap.get? b = some o → b ≠ L := fun b o e z => by rw [z, h0] at e; cases e
  refine ⟨r.os, r.bare, ⟨fun b o e n f x => k b o (lt b o e) (r.un.keep b o e n f x), fun b o e n f x => ?_, r.un.free, fun b o e x => ?_, r.un.tups, r.un.frzs, r.un.tbls⟩, fun b u e => ?_, r.gr, r.w, ?_, ?_, r.co⟩
  · obtain ⟨sl, z⟩ := r.un.slot b o e n f x
    exact ⟨sl, k b _ (lt b o e) z⟩
  · obtain ⟨o', z⟩ := r.un.there b o e x
    exact ⟨o', k b _ (lt b o e) z⟩
  · have ne : b ≠ L := fun z => by rw [z, hn] at e; cases e
    refine (r.hok b u e).stay (fun c v hc q => k c v (fun z => ?_) q) (fun _ q => q) fun _ _ q => q
    rcases hc with y | y
    · exact ne (y ▸ z)
    · rw [z, hn] at y; cases y
  · obtain ⟨o, nm, qn, ho, rr⟩ := r.gen
    exact ⟨o, nm, qn, k _ o hLa ho, rr⟩
  · obtain ⟨mc, hns, hnn⟩ := r.lim
    exact ⟨mc, hns.at' fun o e => k _ o hLc e, hnn⟩
def JMax (p : GP) (L : Addr) : CoJ := fun m μ H h => match maxD (p.its m) with
  | none => ∃ c, h.get? L = some (lOf #[] c)
  | some z => ∃ t c, h.get? L = some (lOf #[.int z t, .int z t] c)
theorem JMax_mono {p : GP} {L : Addr} : (JMax p L).Mono [L] := fun m μ H μ' H' h h' x gr k => by
  unfold JMax at x ⊢
  split at x
  · obtain ⟨c, e⟩ := x; exact ⟨c, k L (by simp) _ e⟩
  · obtain ⟨t, c, e⟩ := x; exact ⟨t, c, k L (by simp) _ e⟩
section
variable {p : GP} {A : Around} {R : Result → Shared → Prop} {L : Addr}
theorem gp_max_loop (h0 : p.s0.heap.get? L = none) (hz : ∀ i S, p.nx 0 i S = .bad) (hh : A.handled = none) (hroom : A.depth < recursionLimit) (hLc : cStatics ≠ L) (hLa : p.a ≠ L) : ∀ (n m k i : Nat) (S : Sto) (s : Shared), maxN p.nx n (maxD (p.its m)) k i S ≠ .bad → p.Rdy [L] (JMax p L) A.in1.in1 m k i S s → JMax p L m p.μ0 p.H0 s.heap →
    (∀ z S' μ H s' t, maxN p.nx n (maxD (p.its m)) k i S = .ok (.int z) S' → Run p [L] S' μ H s' → R (.ok (.ret (.int z t))) s') →
    codeAny (model p.X.prog p.X.w) A (.builtin "max.loop" ⟨[.ref p.a, .none, .ref L], []⟩) R s := by
  have hname : (toString "max" ++ toString ".loop" : String) = "max.loop" := by decide
  intro n
  induction n with
  | zero => intro m k i S s h; exact absurd rfl h
  | succ n ih =>
    intro m k i S s h hr hj0 hR
    have hT : p.T m = some (k, i, S) := by obtain ⟨_, _, z, _⟩ := hr; exact z
    refine codeAny_builtin F.entry_max_loop ?_
    rw [Around.under_plainId F.plain_max_loop _]
    show wpAny _ A.in1 (seqItems? (.ref L) >>= _) _ _ s
    cases hm : maxD (p.its m) with
    | none =>
      unfold JMax at hj0
      rw [hm] at hj0 h hR
      obtain ⟨c0, hS0⟩ := hj0
      refine wpAny_bind (wpAny_seqItems hS0 rfl ?_)
      show wpAny _ A.in1 (tryCatch (pyNext (.ref p.a)) _ >>= _) _ _ s
      refine wpAny_bind (wpAny_tryCatch (gp_next (A := A.in1) JMax_mono hz hh hroom (by simpa using hLc) (by simpa using hLa) hr (fun c S' e s1 e1 e2 => absurd (by first | (unfold sumN; rw [e1]) | (unfold maxN; rw [e1])) h) (fun y k' i' S' v x μ H s1 e hrun rp rv hkeep hj hk => ?_) fun S' μ H s1 e hrun hkeep hj => ?_))
      · unfold maxN at h hR
        rw [e] at h hR
        cases y with
        | int z =>
          obtain ⟨t, rfl⟩ := rep_intv rp rv
          simp only at h hR
          have hS1 := hkeep L (by simp) _ hS0
          have ei := GP.its_next hT e
          have em : maxD (p.its (m + 1)) = some z := by rw [ei, maxD_snoc, hm]
          show wpAny _ A.in1 (updateSeq L (fun _ => #[.int z t, .int z t]) >>= _) _ _ _
          refine wpAny_bind ?_
          rw [hname]
          rw [← em] at h hR
          refine wpAny_updateSeq hS1 rfl (wpAny_pure ⟨plainId_quiet F.plain_max_loop _, ih (m + 1) k' i' S' _ h (hk _ s1.toks (fun b o hb e => (Heap.get?_update_other _ _ (fun z => hb (by simp [z]))).trans e) (fun b hb => ?_) ?_ (maxN_live h)) ?_ hR⟩)
          · obtain rfl : b = L := by simpa using hb
            exact ⟨_, Heap.get?_update_self _ hS1 rfl, fun w z => by cases z⟩
          · unfold JMax; rw [em]; exact ⟨_, _, Heap.get?_update_self _ hS1 rfl⟩
          · unfold JMax; rw [em]; exact ⟨_, _, Heap.get?_update_self _ hS1 rfl⟩
        | _ => exact absurd rfl h
      · unfold maxN at h
        rw [e] at h
        exact absurd rfl h
    | some y0 =>
      unfold JMax at hj0
      rw [hm] at hj0 h hR
      obtain ⟨t0, c0, hS0⟩ := hj0
      refine wpAny_bind (wpAny_seqItems hS0 rfl ?_)
      show wpAny _ A.in1 (tryCatch (pyNext (.ref p.a)) _ >>= _) _ _ s
      refine wpAny_bind (wpAny_tryCatch (gp_next (A := A.in1) JMax_mono hz hh hroom (by simpa using hLc) (by simpa using hLa) hr (fun c S' e s1 e1 e2 => absurd (by first | (unfold sumN; rw [e1]) | (unfold maxN; rw [e1])) h) (fun y k' i' S' v x μ H s1 e hrun rp rv hkeep hj hk => ?_) fun S' μ H s1 e hrun hkeep hj => ?_))
      · unfold maxN at h hR
        rw [e] at h hR
        cases y with
        | int z =>
          obtain ⟨t, rfl⟩ := rep_intv rp rv
          simp only at h hR
          have hS1 := hkeep L (by simp) _ hS0
          have ei := GP.its_next hT e
          have em : maxD (p.its (m + 1)) = some (if z > y0 then z else y0) := by rw [ei, maxD_snoc, hm]
          show wpAny _ A.in1 (tryCatch (holding [.int z t, .int z t] (richCompare .Gt (.int z t) (.int y0 t0) >>= _)) _ >>= _) _ _ _
          refine wpAny_bind (wpAny_tryCatch (wpAny_holding (wpAny_bind (CmpOf.ints_gt (P := fun i v => ∃ u, v = .int (if i = 0 then z else y0) u) (fun i => if i = 0 then z else y0) (fun i v h => h) 0 1 _ _ _ _ _ ⟨t, rfl⟩ ⟨t0, rfl⟩ ?_))))
          simp only [if_true, Nat.one_ne_zero, if_false]
          refine wpAny_bind (wpAny_holding (wpAny_truthy_bool ?_))
          refine wpAny_bind (wpAny_letGo (wpAny_pure ?_))
          by_cases hb : z > y0
          · simp only [hb, decide_true, if_true] at h hR em ⊢
            refine wpAny_bind ?_
            refine wpAny_updateSeq hS1 rfl (wpAny_bind (wpAny_letGo ?_))
            rw [hname]
            rw [← em] at h hR
            refine wpAny_pure ⟨plainId_quiet F.plain_max_loop _, ih (m + 1) k' i' S' _ h (hk _ s1.toks (fun b o hb e => (Heap.get?_update_other _ _ (fun z => hb (by simp [z]))).trans e) (fun b hb => ?_) ?_ (maxN_live h)) ?_ hR⟩
            · obtain rfl : b = L := by simpa using hb
              exact ⟨_, Heap.get?_update_self _ hS1 rfl, fun w z => by cases z⟩
            · unfold JMax; rw [em]; exact ⟨_, _, Heap.get?_update_self _ hS1 rfl⟩
            · unfold JMax; rw [em]; exact ⟨_, _, Heap.get?_update_self _ hS1 rfl⟩
          · simp only [hb, decide_false, if_false, Bool.false_eq_true] at h hR em ⊢
            refine wpAny_bind (wpAny_letGo ?_)
            rw [hname]
            rw [← em] at h hR
            refine wpAny_pure ⟨plainId_quiet F.plain_max_loop _, ih (m + 1) k' i' S' _ h (hk _ s1.toks (fun b o hb e => e) (fun b hb => ?_) ?_ (maxN_live h)) ?_ hR⟩
            · obtain rfl : b = L := by simpa using hb
              exact ⟨_, hS1, fun w z => by cases z⟩
            · unfold JMax; rw [em]; exact ⟨_, _, hS1⟩
            · unfold JMax; rw [em]; exact ⟨_, _, hS1⟩
        | _ => exact absurd rfl h
      · unfold maxN at hR
        rw [e] at hR
        have hS1 := hkeep L (by simp) _ hS0
        show wpAny _ A.in1 (updateSeq L (fun _ => #[]) >>= _) _ _ _
        refine wpAny_bind ?_
        refine wpAny_updateSeq hS1 rfl (wpAny_bind (wpAny_letGo (wpAny_pure ?_)))
        exact hR y0 S' μ H _ t0 rfl (hrun.own h0 hLa hLc fun b o hb e => (Heap.get?_update_other _ _ (Ne.symm hb)).trans e)
end
def maxR (f : Nat → Nat → Sto → NX) (n : Nat) (S : Sto) : Res := maxN f n none n 0 S
theorem Made.lt0 {p : GP} {L' : Nat} {pins : List (Addr × Obj)} {σ : L2.St} {s : Shared} (M : Made p L' pins σ s) : p.s0.heap.get? s.heap.objs.size = none := by
  cases e : p.s0.heap.get? s.heap.objs.size with
  | none => rfl
  | some o =>
    by_cases hx : s.heap.objs.size ∈ p.fp
    · exfalso
      have := M.fpl _ hx
      exact Nat.lt_irrefl _ this
    · obtain ⟨o', z⟩ := M.run.un.there _ o e hx
      exact absurd (Heap.lt_size z) (Nat.lt_irrefl _)
theorem con_max : Consumes (.builtin "max") maxR := fun p L' pins σ A s Q E hr hf hi hz M hb hE hQ => by
  have hname : (toString "max" ++ toString ".loop" : String) = "max.loop" := by decide
  unfold maxR at hb hQ
  rw [← hi] at hb hQ
  have hSa : s.heap.objs.size ≠ p.a := Nat.ne_of_gt M.lt
  have hcl : cStatics < s.heap.objs.size := let ⟨_, hn, _⟩ := M.run.lim; hn.lt
  refine call_function_tree F.kind_max F.plain_max F.entry_max (F.args_max1 _) ?_
  show wpAny _ A.in1 (Builtin.Builtins.bindParams "max" ["key", "default"] 0 ⟨[], []⟩ >>= _) _ _ s
  refine wpAny_bind (wpAny_of_eq (show Builtin.Builtins.bindParams "max" ["key", "default"] 0 ⟨[], []⟩ = pure [none, none] from rfl) ?_)
  refine wpAny_bind (wpAny_pure ?_)
  refine wpAny_bind (wpAny_pyIter_gen M.run.gen ?_)
  refine wpAny_bind (wpAny_newObj_type ?_)
  rw [hname]
  have k1 : ∀ b o, s.heap.get? b = some o → (s.heap.push (lOf #[] 0)).get? b = some o := fun b o e => Heap.get?_push_of_some _ e
  have hS1 : (s.heap.push (lOf #[] 0)).get? s.heap.objs.size = some (lOf #[] 0) := Heap.get?_push_size _ rfl
  refine wpAny_pure ⟨plainId_quiet F.plain_max_loop _, gp_max_loop (A := A) (L := s.heap.objs.size) M.lt0 (n := p.k0) (m := 0) (k := p.k0) (i := p.i0) (S := p.S0) hz hr.hd (by have := hr.dp; omega) (Nat.ne_of_lt hcl) (Ne.symm hSa) _ hb ?_ ⟨_, hS1⟩ fun z S' μ H s' t e r => ?_⟩
  · refine M.rdy A.in1.in1 [s.heap.objs.size] _ _ _ (hr.mono (by omega)).in1.in1 hf (fun b hb => ?_) k1 (maxN_live hb) JMax_mono ⟨_, hS1⟩
    obtain rfl : b = s.heap.objs.size := by simpa using hb
    exact ⟨Nat.le_refl _, _, hS1, fun w z => by cases z⟩
  · exact hQ (.int z) S' μ H (.int z) _ s' e r.gr r.w (M.inv _ _ _ _ _ r) (by simp [Rep]) ⟨t, rfl⟩
end Gp

set_option Elab.async false
set_option linter.all false
set_option maxRecDepth 100000
set_option maxHeartbeats 1000000
/-! Gp41: list(d.items()); attributes as targets of a tuple -/
namespace Gp
open PySem PySem.Spec L2
open PyProof.Rows hiding St

section
variable {X : Cx} {e o : Expr} {te to : TE} {p apos cpos pos : Pos} {f : Str}
/-- list(e.items()), e a dict, one that a loop walks too -/
def rItems : V → Hp → VK → Prop := fun x H Q => ∃ (d : Addr) (kvs : List (Key × V)), x = .ref d ∧ Rd H d (.dK kvs) ∧
  ∀ (H' : Hp) (p : Addr) (ts : List Addr), (∀ b o, H b = some o → H' b = some o) → H p = none → (∀ t ∈ ts, H t = none) → p ∉ ts → H' p = some (.lst (ts.map V.ref)) → Paired (fun (t : Addr) (q : Key × V) => H' t = some (.tup [kV q.1, q.2])) ts kvs → Q (.ref p) H'
theorem pe_items (hc : X.calm = true) (he : PE X e te) (hg : Gl X "list") (hm : X.mg "list" = none) (hv : bootBuiltins "list" = some (.type "list")) (hbase : attributeBase e "items" X.env (eval e X.env) = eval e X.env) (hline : (apos.endLine == cpos.line) = true)
    (hs : starEach [.Call (.Attribute e "items" apos) [] [] cpos] X.env = (false, eval (.Call (.Attribute e "items" apos) [] [] cpos) X.env) :: starEach [] X.env) :
    PE X (.Call (.Name "list" p) [.Call (.Attribute e "items" apos) [] [] cpos] [] pos) (fun σ H Q => te σ H fun x H1 => rItems x H1 Q) := by
  refine ⟨fun pins s σ H Q I hq => ?_⟩
  refine wpAny_Call_Name_kw (ld_blt I hg hm hv ?_)
  refine PyProof.Rows.callWith_type1 ?_ hs rfl
  rw [hs]
  show wpAny _ _ (spliced ((false, eval (.Call (.Attribute e "items" apos) [] [] cpos) X.env) :: backTo pos (starEach [] X.env))) _ _ s
  refine Calls.spliced_cons ?_
  refine wpAny_Call_method (T := "dict") (id := "dict.items") hbase rfl hline F.plainAttrs_dict F.slot_dict_items F.type_dict_items (thn (he.run pins s σ H _ I hq) fun u s1 ⟨x, H1, I1, rx, d, kvs, ex, hd, q⟩ => ?_)
  subst ex
  obtain rfl : u = Value.ref d := rx
  obtain ⟨hz, hs0, vs, kv, hdo⟩ := dk_rd I1.hok hd
  obtain ⟨ep, hat⟩ := hdo.dictAt
  have lk : kvs.length = vs.length := Paired.length kv
  have I2 : Inv X pins σ H1 { s1 with heap := s1.heap.push { cls := .type "dict_items", data := .fields #[.ref d] } } := I1.kept (t' := s1.toks) fun b ob q => Heap.get?_push_of_some _ q
  refine ⟨hdo.typeIs, hdo.mapOf.noDict, ?_⟩
  show wpAny _ _ (callWith cpos (.builtin "dict.items") [.ref d] [] []) _ X.xe s1
  refine method_meetsIn F.slot_dict_items F.entry_dict_items rfl (PySem.evalArgs_none ⟨rfl, hdo.typeIs, F.args_dict_items_1 _, _, meets_dict_items (mixKind X.prog X.w) d hs0, ⟨vs, hdo⟩, ?_⟩)
  refine Calls.spliced_nil ?_
  refine PySem.W.kdx_call (knd := mixKind X.prog X.w) (kvs := vs) (ep := ep) (I1.ok.hd hc) ⟨_, Heap.get?_push_size _ rfl, rfl, rfl⟩ (hat.push _) (by omega) fun h' tk acc c as hk hS hl hG hacc => ?_
  obtain ⟨H', k1, k2, k3, k4, k5, k6, J⟩ := LiI.items_laid (tk := tk) I2 hz kv hk hS hl hG hacc
  exact ⟨.ref _, H', J, rfl, q H' _ as k1 k2 k3 k4 k5 k6⟩
/-- o.f = .. within a tuple of targets -/
def gFld (K : PySem.W.Frag) (to : TE) (f : Str) : TG := fun v σ H Q => to σ H fun x H1 => ∃ a C dx fs, x = .ref a ∧ H1 a = some (.ins C dx fs) ∧ Cls K C ∧ NoAttr K C f ∧ fs.length < 1000 ∧ Q σ (upd H1 a (.ins C dx (putF f v fs)))
theorem pg_fld (ho : PE X o to) : PG X (.Attribute o f pos) (gFld X.K to f) := by
  refine ⟨fun pins s σ H v u Q I r h => ?_⟩
  refine PySem.W.kas_attr (thn (ho.run pins s σ H _ I h) fun ov s1 ⟨x, H1, I1, r1, a, C, dx, fs, ex, ea, c, n, l, q⟩ => ?_)
  subst ex
  obtain rfl : ov = Value.ref a := r1
  exact setattr_ok I1 ea c n l r fun s2 I2 => ⟨σ, _, I2, q⟩
end
section
variable {g : G} {N : List Str} {sc : Scope} {L : Nat} {μ μ' : List Addr} {H H' : Hp} {S : Sto}
def tAttr (cl : List Str) (f : Str) (o : GE) : GT := fun d ρ S => (o ρ S).thn ρ fun x S1 => match setA cl f x d S1 with
  | some S2 => .nx ρ S2
  | none => .bad
theorem rg_attr {fk : Str → Bool} {f : Str} {cl : List Str} {o : Expr} {mo : GE} {pos : Pos} (ho : Real g N sc L o mo) (hc : ∀ c ∈ cl, ClsF g c f) : RealG g N sc L fk (.Attribute o f pos) (tAttr cl f mo) := by
  intro Wx X C F
  refine (pg_fld (ho Wx X C)).weak ?_
  rintro v σ H Q ⟨d, ρ, S, μ, Ed, he, hw, r, h, hQ⟩
  refine ⟨ρ, S, μ, he, hw, h.ex he fun x S2 vx H2 μ2 g2 w2 r2 h2 => ?_⟩
  split at h2
  · rename_i S3 es
    unfold setA at es
    split at es
    · split at es
      · rename_i n c fs hs
        split at es
        · rename_i hcl
          cases es
          obtain ⟨a, rfl, ha, hm, CC, dx, vs, mc, ea, q⟩ := w2.ref r2 hs
          obtain ⟨k1, k2⟩ := hc c hcl.1 CC mc
          refine ⟨a, CC, dx, vs, rfl, ea, by rw [C.K]; exact k1, by rw [C.K]; exact k2, by rw [← q.length]; exact hcl.2, ?_⟩
          exact hQ _ _ (h2 σ _ μ2 (grow_set hm ea (by simp)) (w2.set ha ⟨CC, dx, _, mc, upd_same, (RepF.put (r.mono g2) q).mono (grow_set hm ea (by simp))⟩) ((he.mono g2).mono (grow_set hm ea (by simp))))
        · cases es
      · cases es
    · cases es
  · exact h2.elim
/-- the items of a dict, a list of pairs -/
def gItems (a : GE) : GE := fun ρ S => (a ρ S).bind fun x S1 => match asD x S1 with
  | some (0, l) => .ok (.ls (l.map fun p => .tup [p.1, p.2])) S1
  | _ => .bad
theorem items_rep (w : W g μ H S) (hk : ∀ b o, H b = some o → H' b = some o) (gr : Grow μ H μ H') : ∀ {l : List (D × D)} {kvs : List (Key × V)} {ts : List Addr}, RepK g H μ l kvs → Paired (fun (t : Addr) (q : Key × V) => H' t = some (.tup [kV q.1, q.2])) ts kvs → (∀ t ∈ ts, H t = none) →
    RepL g H' μ (l.map fun p => .tup [p.1, p.2]) (ts.map V.ref)
  | [], kvs, ts, r, q, hn => by
    simp only [RepK] at r
    subst r
    cases q
    exact .nil
  | p :: l, kvs, ts, r, q, hn => by
    simp only [RepK] at r
    obtain ⟨k, v, t, rfl, ek, rv, r⟩ := r
    cases q with
    | @cons a _ as _ h1 q =>
      refine .cons ?_ (items_rep w hk gr r q fun t ht => hn t (List.mem_cons_of_mem _ ht))
      simp only [Rep]
      refine ⟨a, [kV k, v], rfl, w.fresh (hn a List.mem_cons_self), h1, .cons ?_ (.cons (rv.mono gr) .nil)⟩
      rw [ek]
      exact rep_kD.mpr rfl
theorem re_items {e : Expr} {me : GE} {p apos cpos pos : Pos} (he : Real g N sc L e me) (hgl : sc.names.lookup ("list" : Str) = some .globalImplicit) (hm : g.mg "list" = none) (hv : bootBuiltins "list" = some (.type "list"))
    (hbase : ∀ env : Env, attributeBase e "items" env (eval e env) = eval e env) (hline : (apos.endLine == cpos.line) = true)
    (hs : ∀ env : Env, starEach [.Call (.Attribute e "items" apos) [] [] cpos] env = (false, eval (.Call (.Attribute e "items" apos) [] [] cpos) env) :: starEach [] env) :
    Real g N sc L (.Call (.Name "list" p) [.Call (.Attribute e "items" apos) [] [] cpos] [] pos) (gItems me) := by
  intro Wx X C
  refine (pe_items C.calm (he Wx X C) (show Gl X "list" by unfold Gl Env.kindOf; rw [C.sc]; exact hgl) (by rw [C.mg]; exact hm) hv (hbase X.env) hline (hs X.env)).weak ?_
  rintro σ H Q ⟨ρ, S, μ, hρ, hw, h⟩
  unfold gItems at h
  refine ⟨ρ, S, μ, hρ, hw, h.bind fun x S1 vx H1 μ1 g1 w1 r1 h1 => ?_⟩
  split at h1
  · rename_i l hl
    obtain ⟨a, rfl, ⟨_, ks, h2, q⟩ | ⟨z, _⟩⟩ := asD_rep w1 r1 hl
    · refine ⟨a, ks, rfl, h2, fun H' p ts k1 k2 k3 k4 k5 k6 => ?_⟩
      have eN : LamX.ExtN H1 H' := LamX.ExtN.of k1
      have gr : Grow μ1 H1 μ1 H' := grow_ext eN
      exact h1 (.ref p) H' μ1 gr (w1.ext eN (g.tbk _ _ (fun b o e _ => k1 b o e) w1.tb)) (by simp only [Rep]; exact ⟨p, _, rfl, w1.fresh k2, k5, items_rep w1 k1 gr q k6 k3⟩)
    · cases z
  · exact h1.elim
end
end Gp

set_option Elab.async false
set_option linter.all false
set_option maxRecDepth 100000
set_option maxHeartbeats 1000000
/-! Gp42: what all laws begin with: the dice -/
namespace Gp
open PySem PySem.Spec L2
def m_law_roll (G_ : Fn) : GS :=
  sSeq (sIf (gOr (gBin gEq (gBin gIx (gVar 0) (gC (.int 2))) (gC (.int 2))) (gAnd (gBin gEq (gBin gIx (gVar 0) (gC (.int 2))) (gC (.int 1))) (gBin gGt (gBin gIx (gVar 0) (gC (.int 0))) (gC (.int 0)))))
    (sSeq (sAsg (gBin gMod (gCallP pInt [gBin gIx (gVar 0) (gC (.int 0))]) (gVar 1)) (tName 2))
    (sSeq (sAsg (gBin gDiv (gBin gIx (gVar 0) (gC (.int 0))) (gVar 1)) (tSub pSet (gVar 0) (gC (.int 0))))
    (sRet (gVar 2))))
    (sNil))
    (sSeq (sAsg (gC (.int 0)) (tSub pSet (gVar 0) (gC (.int 2))))
    (sSeq (sIf (gBin gGt (gVar 1) (gC (.int 100000000)))
    (sRet (gBin gMod (gCallP pInt [gBin gAdd (gBin gMul (gCall G_ [gVar 0, gBin gAdd (gBin gDiv (gVar 1) (gC (.int 100000000))) (gC (.int 1))] []) (gC (.int 100000000))) (gCall G_ [gVar 0, gC (.int 100000000)] [])]) (gVar 1)))
    (sNil))
    (sSeq (sAsg (gBin gMod (gCallP pInt [gBin gAdd (gBin gAdd (gBin gMul (gBin gIx (gVar 0) (gC (.int 0))) (gC (.int 48271))) (gBin gMul (gBin gIx (gVar 0) (gC (.int 1))) (gC (.int 69621)))) (gC (.int 11))]) (gC (.int 2147483647))) (tSub pSet (gVar 0) (gC (.int 0))))
    (sSeq (sAsg (gBin gAdd (gBin gIx (gVar 0) (gC (.int 1))) (gC (.int 1))) (tSub pSet (gVar 0) (gC (.int 1))))
    (sRet (gBin gMod (gCallP pInt [gBin gDiv (gBin gIx (gVar 0) (gC (.int 0))) (gC (.int 7))]) (gVar 1)))))))
def b_law_roll (G_ : Fn) : Fn := fnG true 2 3 (m_law_roll G_)
def F_law_roll : Fn := recN b_law_roll 4
def m_law_dice : GS :=
  sSeq (sIf (gChain gLt gLt (gBin gSub (gC (.int 0)) (gC (.int 10))) (gVar 0) (gC (.int 10)))
    (sRet (gLst true [gCallP pAbs [gVar 0], gC (.int 0), gC (.int 2)]))
    (sNil))
    (sRet (gLst true [gVar 0, gBin gAdd (gC (.int 1)) (gBin gMod (gCallP pInt [gVar 0]) (gC (.int 1009))), gCallP pInt [gBin gGe (gVar 0) (gBin gPow (gC (.int 10)) (gC (.int 18)))]]))
def F_law_dice : Fn := fnG false 1 1 m_law_dice
def m_law_rounds : GS :=
  sSeq (sAsg (gSl false (gVar 0) none (some (gVar 1))) (tName 2))
    (sSeq (sIf (gBin gEq (gVar 2) (gLst false []))
    (sAsg (gLst false [gC (.int 0)]) (tName 2))
    (sNil))
    (sRet (gLc false 1000000 (gSrc srcOf (gVar 2)) (nName 3) none (gCall F_law_dice [gVar 3] []) [3])))
def F_law_rounds : Fn := fnG false 2 4 m_law_rounds
theorem fmod_nn {a b : Int} (h : 0 ≤ b) : a.fmod b = a % b := Int.fmod_eq_emod_of_nonneg a h
theorem fdiv_nn {a b : Int} (h : 0 ≤ b) : a.fdiv b = a / b := Int.fdiv_eq_ediv_of_nonneg a h
theorem mulOk_r {i j : Int} (h1 : -(18446744073709551616) < j) (h2 : j < 18446744073709551616) : mulOk i j = true := by simp [mulOk, h1, h2]
theorem mulOk_l {i j : Int} (h1 : -(18446744073709551616) < i) (h2 : i < 18446744073709551616) : mulOk i j = true := by simp [mulOk, h1, h2]
theorem divOk_s {j : Int} (h1 : 0 < j) (h2 : j < 1073741824) : divOk j = true := by
  simp only [divOk, Bool.or_eq_true, Bool.and_eq_true, decide_eq_true_eq]; exact .inl ⟨by omega, by omega⟩
abbrev dcC (a b c : Int) : Cell := .lst [.int a, .int b, .int c]
theorem rollG_ev {G_ : Fn} {S : Sto} {n : Nat} {a b c m : Int} (h : S[n]? = some (dcC a b c)) (hc : Cl S) (h1 : 1 ≤ m) (h2 : m ≤ 100000000) :
    ∃ r a' b' c', 0 ≤ r ∧ r < m ∧ b_law_roll G_ [.ref n, .int m] S = .ok (.int r) (S.set n (dcC a' b' c')) := by
  have hn := lt_of_get h
  have hm : ¬ m = 0 := by omega
  have hg : ¬ 100000000 < m := by omega
  have hd : divOk m = true := divOk_s (by omega) (by omega)
  have h7 : divOk 7 = true := by decide
  have ix : ∀ {T : Sto} {x y z i : Int}, T[n]? = some (dcC x y z) → gIx (.ref n) (.int i) T = (atI [.int x, .int y, .int z] i).map fun d => (d, T) := fun e => gIx_lst e
  have st : ∀ {x y z : Int}, (S.set n (dcC x y z))[n]? = some (dcC x y z) := get_set_eq hn
  have p0 : ∀ {T : Sto} {x y z w : Int}, T[n]? = some (dcC x y z) → pSet (.ref n) (.int 0) (.int w) T = some (T.set n (dcC w y z)) := fun e => by simp [pSet, e, setL, ixN]
  have p1 : ∀ {T : Sto} {x y z w : Int}, T[n]? = some (dcC x y z) → pSet (.ref n) (.int 1) (.int w) T = some (T.set n (dcC x w z)) := fun e => by simp [pSet, e, setL, ixN]
  have p2 : ∀ {T : Sto} {x y z w : Int}, T[n]? = some (dcC x y z) → pSet (.ref n) (.int 2) (.int w) T = some (T.set n (dcC x y w)) := fun e => by simp [pSet, e, setL, ixN]
  have cl : ∀ {x y z : Int}, Cl (S.set n (dcC x y z)) := hc.set (by simp [cloC, cloL, clo])
  have td : ∀ {x y z w : Int}, tidy S (.ok (.int w) (S.set n (dcC x y z))) = .ok (.int w) (S.set n (dcC x y z)) := tidy_cl (by simp) cl rfl
  by_cases hu : c = 2 ∨ (c = 1 ∧ 0 < a)
  · refine ⟨a.fmod m, a.fdiv m, b, c, ?_, ?_, ?_⟩
    · rw [fmod_nn (by omega)]; exact Int.emod_nonneg _ hm
    · rw [fmod_nn (by omega)]; exact Int.emod_lt_of_pos _ (by omega)
    rcases hu with e | ⟨e1, e2⟩
    · subst e
      simp [b_law_roll, m_law_roll, startG, ix h, hm, hd, p0 h, td]
    · subst e1
      simp [b_law_roll, m_law_roll, startG, ix h, hm, hd, p0 h, td, e2]
  · have hz : 0 ≤ ((a * 48271 + b * 69621 + 11).fmod 2147483647).fdiv 7 := by
      rw [fmod_nn (by omega), fdiv_nn (by omega)]; omega
    refine ⟨(((a * 48271 + b * 69621 + 11).fmod 2147483647).fdiv 7).fmod m, (a * 48271 + b * 69621 + 11).fmod 2147483647, b + 1, 0, ?_, ?_, ?_⟩
    · rw [fmod_nn (by omega)]; exact Int.emod_nonneg _ hm
    · rw [fmod_nn (by omega)]; exact Int.emod_lt_of_pos _ (by omega)
    have hu2 : ¬ c = 2 := fun e => hu (.inl e)
    by_cases h1c : c = 1
    · have ha : ¬ 0 < a := fun e => hu (.inr ⟨h1c, e⟩)
      subst h1c
      simp [b_law_roll, m_law_roll, startG, ix h, hm, hd, h7, p2 h, p0 st, p1 st, ix st, mulOk_r, td, hg, ha]
    · simp [b_law_roll, m_law_roll, startG, ix h, hm, hd, h7, p2 h, p0 st, p1 st, ix st, mulOk_r, td, hg, hu2, h1c]
theorem roll_ev {S : Sto} {n : Nat} {a b c m : Int} (h : S[n]? = some (dcC a b c)) (hc : Cl S) (h1 : 1 ≤ m) (h2 : m ≤ 1000000000000) :
    ∃ r a' b' c', 0 ≤ r ∧ r < m ∧ F_law_roll [.ref n, .int m] S = .ok (.int r) (S.set n (dcC a' b' c')) := by
  show ∃ r a' b' c', 0 ≤ r ∧ r < m ∧ b_law_roll (b_law_roll (recN b_law_roll 2)) [.ref n, .int m] S = .ok (.int r) (S.set n (dcC a' b' c'))
  generalize recN b_law_roll 2 = G_
  by_cases hs : m ≤ 100000000
  · exact rollG_ev h hc h1 hs
  have hn := lt_of_get h
  have hm : ¬ m = 0 := by omega
  have hg : 100000000 < m := by omega
  have hd : divOk m = true := by
    simp only [divOk, Bool.or_eq_true, Bool.and_eq_true, decide_eq_true_eq]
    refine .inr ⟨by omega, ?_⟩
    have h3 : m.natAbs.log2 < 40 := (Nat.log2_lt (by omega)).mpr (by omega)
    omega
  have h8 : divOk 100000000 = true := by decide
  have ix : ∀ {T : Sto} {x y z i : Int}, T[n]? = some (dcC x y z) → gIx (.ref n) (.int i) T = (atI [.int x, .int y, .int z] i).map fun d => (d, T) := fun e => gIx_lst e
  have st : ∀ {x y z : Int}, (S.set n (dcC x y z))[n]? = some (dcC x y z) := get_set_eq hn
  have p0 : ∀ {T : Sto} {x y z w : Int}, T[n]? = some (dcC x y z) → pSet (.ref n) (.int 0) (.int w) T = some (T.set n (dcC w y z)) := fun e => by simp [pSet, e, setL, ixN]
  have p2 : ∀ {T : Sto} {x y z w : Int}, T[n]? = some (dcC x y z) → pSet (.ref n) (.int 2) (.int w) T = some (T.set n (dcC x y w)) := fun e => by simp [pSet, e, setL, ixN]
  have cl : ∀ {x y z : Int}, Cl (S.set n (dcC x y z)) := hc.set (by simp [cloC, cloL, clo])
  have td : ∀ {x y z w : Int}, tidy S (.ok (.int w) (S.set n (dcC x y z))) = .ok (.int w) (S.set n (dcC x y z)) := tidy_cl (by simp) cl rfl
  by_cases hu : c = 2 ∨ (c = 1 ∧ 0 < a)
  · refine ⟨a.fmod m, a.fdiv m, b, c, ?_, ?_, ?_⟩
    · rw [fmod_nn (by omega)]; exact Int.emod_nonneg _ hm
    · rw [fmod_nn (by omega)]; exact Int.emod_lt_of_pos _ (by omega)
    rcases hu with e | ⟨e1, e2⟩
    · subst e
      simp [b_law_roll, m_law_roll, startG, ix h, hm, hd, p0 h, td]
    · subst e1
      simp [b_law_roll, m_law_roll, startG, ix h, hm, hd, p0 h, td, e2]
  · obtain ⟨r1, a1, b1, c1, q1, q2, e1⟩ := rollG_ev (G_ := G_) (S := S.set n (dcC a b 0)) (n := n) (m := m / 100000000 + 1) st cl (by omega) (by omega)
    rw [List.set_set] at e1
    obtain ⟨r2, a2, b2, c2, q3, q4, e2⟩ := rollG_ev (G_ := G_) (S := S.set n (dcC a1 b1 c1)) (n := n) (m := 100000000) st cl (by omega) (by omega)
    rw [List.set_set] at e2
    refine ⟨(r1 * 100000000 + r2).fmod m, a2, b2, c2, ?_, ?_, ?_⟩
    · rw [fmod_nn (by omega)]; exact Int.emod_nonneg _ hm
    · rw [fmod_nn (by omega)]; exact Int.emod_lt_of_pos _ (by omega)
    have hu2 : ¬ c = 2 := fun e => hu (.inl e)
    have fd : m.fdiv 100000000 = m / 100000000 := fdiv_nn (by omega)
    generalize b_law_roll G_ = G1 at e1 e2
    by_cases h1c : c = 1
    · have ha : ¬ 0 < a := fun e => hu (.inr ⟨h1c, e⟩)
      subst h1c
      simp [b_law_roll, m_law_roll, startG, ix h, hm, hd, h8, p2 h, e1, e2, mulOk_r, td, hg, ha, fd]
    · simp [b_law_roll, m_law_roll, startG, ix h, hm, hd, h8, p2 h, e1, e2, mulOk_r, td, hg, hu2, h1c, fd]
theorem dice_ev {z : Int} {S : Sto} : ∃ a b c, F_law_dice [.int z] S = .ok (.ref S.length) (S ++ [dcC a b c]) := by
  have hp : gPow (.int 10) (.int 18) S = some (.int 1000000000000000000, S) := by rfl
  by_cases h : -10 < z ∧ z < 10
  · refine ⟨if z < 0 then -z else z, 0, 2, ?_⟩
    simp [F_law_dice, m_law_dice, startG, h]
  · refine ⟨z, 1 + z.fmod 1009, if 1000000000000000000 ≤ z then 1 else 0, ?_⟩
    by_cases h1 : -10 < z
    · have h2 : ¬ z < 10 := fun e => h ⟨h1, e⟩
      simp [F_law_dice, m_law_dice, startG, h1, h2, hp]
    · simp [F_law_dice, m_law_dice, startG, h1, hp]
theorem rounds_ev {ns : List Int} (hl : ns.length ≤ 63) : ∃ a b c, F_law_rounds [.sq (ns.map .int), .int 1] [] = .ok (.ref 0) [.lst [.ref 1], dcC a b c] := by
  have key : ∀ z : Int, ∃ a b c, gLc false 1000000 (gSrc srcOf (gVar 2)) (nName 3) none (gCall F_law_dice [gVar 3] []) [3] [some (.sq (ns.map .int)), some (.int 1), some (.ls [.int z]), none] [] = .ok (.ref 0) [.lst [.ref 1], dcC a b c] := by
    intro z
    obtain ⟨a, b, c, e⟩ := dice_ev (z := z) (S := [.lst []])
    refine ⟨a, b, c, ?_⟩
    have hs : (0 : Nat) < sizeLine := by decide
    simp [gLc, gLc0, gSrc, srcOf, ulOf, IR.res, unlR, wipeG, lcN, nName, tstG, fixL, e, hs]
  cases ns with
  | nil =>
    obtain ⟨a, b, c, e⟩ := key 0
    refine ⟨a, b, c, ?_⟩
    have : gSl false (gVar 0) none (some (gVar 1)) [some (.sq []), some (.int 1), none, none] [] = .ok (.ls []) [] := rfl
    have h2 : gEq (.ls []) (.ls []) [] = some (.bl true, []) := gEq_self rfl
    simp only [List.map_nil] at e
    simp [F_law_rounds, m_law_rounds, startG, this, h2, e]
  | cons z ns =>
    obtain ⟨a, b, c, e⟩ := key z
    refine ⟨a, b, c, ?_⟩
    have : gSl false (gVar 0) none (some (gVar 1)) [some (.sq ((z :: ns).map .int)), some (.int 1), none, none] [] = .ok (.ls [.int z]) [] := by
      have := cutD_take (xs := ((z :: ns).map D.int)) (k := 1)
      simp only [List.map_cons, List.take_succ_cons, List.take_zero] at this
      simp [gSl, gPart, gSlice, mkL]
      exact this
    have h2 : gEq (.ls [.int z]) (.ls []) [] = some (.bl false, []) := by rw [gEq_nil rfl]; simp
    simp only [List.map_cons] at e this
    simp [F_law_rounds, m_law_rounds, startG, this, h2, e]

section
variable {S : Sto} {a b : Int}
@[simp] theorem pMax_int : pMax [.int a, .int b] S = some (.int (max a b), S) := rfl
@[simp] theorem pMin_int : pMin [.int a, .int b] S = some (.int (min a b), S) := rfl
theorem tdI : tidy S (.ok (.int a) S) = .ok (.int a) S := tidy_id rfl
theorem tdB {x : Bool} : tidy S (.ok (.bl x) S) = .ok (.bl x) S := tidy_id rfl
@[simp] theorem gIAdd_int : gIAdd (.int a) (.int b) S = some (.int (a + b), S) := rfl
end
theorem set_id {S : Sto} {n : Nat} {c : Cell} (h : S[n]? = some c) : S.set n c = S := by
  have hn := lt_of_get h
  rw [List.getElem?_eq_getElem hn, Option.some.injEq] at h
  rw [← h, List.set_getElem_self]
end Gp

set_option Elab.async false
set_option linter.all false
set_option maxRecDepth 100000
set_option maxHeartbeats 1000000
/-! Gp43: max, sum, tuple of generator expressions that change nothing -/
namespace Gp
open PySem PySem.Spec L2
open PyProof.Rows hiding St

section
variable {lk : Look} {t : TN} {c : Option GE} {e : GE} {ρ0 : Ev} {S : Sto} {l : List D}
/-- what one next comes to -/
theorem nextN_pure (hlk : ∀ i S, lk i S = some l[i]?) {f : D → Option D} (h : ItPure t c e ρ0 S l f) {k i : Nat} (h3 : i ≤ l.length) :
    (i = l.length ∧ nextN lk t c e ρ0 (k + 1) i S = .done S) ∨ ∃ d, l[i]? = some d ∧ l.drop i = d :: l.drop (i + 1) ∧ ((f d = none ∧ nextN lk t c e ρ0 (k + 1) i S = nextN lk t c e ρ0 k (i + 1) S) ∨ ∃ y, f d = some y ∧ nextN lk t c e ρ0 (k + 1) i S = .item y k (i + 1) S) := by
  rcases Nat.lt_or_ge i l.length with hi | hi
  · refine .inr ⟨l[i], List.getElem?_eq_getElem hi, List.drop_eq_getElem_cons hi, ?_⟩
    obtain ⟨ρ, e1, e2⟩ := h l[i] (List.getElem_mem hi)
    cases hf : f l[i] with
    | none =>
      simp only [hf] at e2
      replace e2 : tstG c ρ S = .ok (.bl false) S := e2
      refine .inl ⟨rfl, ?_⟩
      rw [nextN, hlk, List.getElem?_eq_getElem hi]
      simp only [e1, e2]
    | some y =>
      simp only [hf] at e2
      replace e2 : tstG c ρ S = .ok (.bl true) S ∧ e ρ S = .ok y S := e2
      refine .inr ⟨y, rfl, ?_⟩
      rw [nextN, hlk, List.getElem?_eq_getElem hi]
      simp only [e1, e2.1, e2.2]
  · have hi' : i = l.length := by omega
    refine .inl ⟨hi', ?_⟩
    rw [nextN, hlk, List.getElem?_eq_none hi]
def mx2 (b : Option Int) (z : Int) : Option Int := some (match b with | some y => max y z | none => z)
theorem maxN_pure (hlk : ∀ i S, lk i S = some l[i]?) (f : D → Option Int) (h : ItPure t c e ρ0 S l fun d => (f d).map .int) :
    ∀ k n i (b : Option Int), l.length < k + i → l.length < n + i → i ≤ l.length → maxN (nextN lk t c e ρ0) n b k i S = (match ((l.drop i).filterMap f).foldl mx2 b with | some z => .ok (.int z) S | none => .bad) := by
  intro k
  induction k with
  | zero => intro n i b h1 h2 h3; omega
  | succ k ih =>
    intro n i b h1 h2 h3
    obtain ⟨n, rfl⟩ : ∃ m, n = m + 1 := ⟨n - 1, by omega⟩
    rcases nextN_pure (k := k) hlk h h3 with ⟨e1, e2⟩ | ⟨d, e1, e2, ⟨e3, e4⟩ | ⟨y, e3, e4⟩⟩
    · rw [maxN, e2, e1, List.drop_length]
      cases b <;> rfl
    · have hi : i < l.length := (List.getElem?_eq_some_iff.mp e1).1
      have hf : f d = none := by simpa using e3
      have := ih (n + 1) (i + 1) b (by omega) (by omega) hi
      rw [maxN] at this ⊢
      rw [e4, e2, List.filterMap_cons, hf]
      exact this
    · have hi : i < l.length := (List.getElem?_eq_some_iff.mp e1).1
      obtain ⟨z, hf, rfl⟩ := Option.map_eq_some_iff.mp e3
      rw [maxN, e4, e2, List.filterMap_cons, hf]
      simp only
      rw [ih n (i + 1) _ (by omega) (by omega) hi, List.foldl_cons]
      cases b with
      | none => rfl
      | some y =>
        have : (if z > y then z else y) = max y z := by split <;> omega
        simp only [this]
        rfl
theorem foldl_mx2 : ∀ (l : List Int) (b : Int), l.foldl mx2 (some b) = some (l.foldl max b)
  | [], b => rfl
  | z :: l, b => by rw [List.foldl_cons, List.foldl_cons]; exact foldl_mx2 l (max b z)
theorem gGen_max {mi : GI} {vs : List Nat} {ρ : Ev} {n : Nat} {z : Int} {zs : List Int} (hit : mi ρ S = .ok lk S none) (hlk : ∀ i S, lk i S = some l[i]?) (f : D → Option Int) (h : ItPure t c e (wipeG ρ vs) S l fun d => (f d).map .int) (hn : l.length < n)
    (hz : l.filterMap f = z :: zs) : gGen maxR n mi t c e vs ρ S = .ok (.int (maxI (z :: zs))) S := by
  simp only [gGen, hit, IR.res, unlR, maxR]
  rw [maxN_pure hlk f h n n 0 none (by omega) (by omega) (by omega), List.drop_zero, hz, List.foldl_cons]
  show (match zs.foldl mx2 (some z) with | some z => Res.ok (.int z) S | none => .bad) = _
  rw [foldl_mx2]
  rfl
theorem accN_pure (hlk : ∀ i S, lk i S = some l[i]?) (f : D → Option D) (h : ItPure t c e ρ0 S l f) (hl : l.length ≤ sizeLine) :
    ∀ k n i (ds : List D), l.length < k + i → l.length < n + i → i ≤ l.length → ds.length ≤ i → accN (nextN lk t c e ρ0) n ds k i S = .ok (ds ++ (l.drop i).filterMap f) S := by
  intro k
  induction k with
  | zero => intro n i b h1 h2 h3; omega
  | succ k ih =>
    intro n i ds h1 h2 h3 h4
    obtain ⟨n, rfl⟩ : ∃ m, n = m + 1 := ⟨n - 1, by omega⟩
    rcases nextN_pure (k := k) hlk h h3 with ⟨e1, e2⟩ | ⟨d, e1, e2, ⟨e3, e4⟩ | ⟨y, e3, e4⟩⟩
    · rw [accN, e2, e1, List.drop_length]
      simp
    · have hi : i < l.length := (List.getElem?_eq_some_iff.mp e1).1
      have := ih (n + 1) (i + 1) ds (by omega) (by omega) hi (by omega)
      rw [accN] at this ⊢
      rw [e4, e2, List.filterMap_cons, e3]
      exact this
    · have hi : i < l.length := (List.getElem?_eq_some_iff.mp e1).1
      rw [accN, e4, e2, List.filterMap_cons, e3]
      simp only
      rw [if_pos (by omega), ih n (i + 1) _ (by omega) (by omega) hi (by simp; omega)]
      simp
theorem gGen_tup {mi : GI} {vs : List Nat} {ρ : Ev} {n : Nat} (hit : mi ρ S = .ok lk S none) (hlk : ∀ i S, lk i S = some l[i]?) (f : D → Option D) (h : ItPure t c e (wipeG ρ vs) S l f) (hn : l.length < n) (hl : l.length ≤ sizeLine) :
    gGen tupN n mi t c e vs ρ S = .ok (.tup (l.filterMap f)) S := by
  simp only [gGen, hit, IR.res, unlR, tupN]
  rw [accN_pure hlk f h hl n n 0 [] (by omega) (by omega) (by omega) (by simp), List.drop_zero, List.nil_append]
  simp only
  rw [if_pos (Nat.le_trans (List.length_filterMap_le f l) hl)]
theorem sumN_pure (hlk : ∀ i S, lk i S = some l[i]?) (f : D → Option Int) (h : ItPure t c e ρ0 S l fun d => (f d).map .int) (hb : ∀ j, ∀ z ∈ (l.drop j).filterMap f, inL z = true) (B : Int) (hB : ∀ ds : List Int, ∀ rest, ds ++ rest = l.filterMap f → inL ds.sum = true) :
    ∀ k n i (pre : List Int), l.length < k + i → l.length < n + i → i ≤ l.length → pre ++ (l.drop i).filterMap f = l.filterMap f → sumN (nextN lk t c e ρ0) n pre.sum k i S = .ok (.int (l.filterMap f).sum) S := by
  intro k
  induction k with
  | zero => intro n i b h1 h2 h3; omega
  | succ k ih =>
    intro n i pre h1 h2 h3 h4
    obtain ⟨n, rfl⟩ : ∃ m, n = m + 1 := ⟨n - 1, by omega⟩
    rcases nextN_pure (k := k) hlk h h3 with ⟨e1, e2⟩ | ⟨d, e1, e2, ⟨e3, e4⟩ | ⟨y, e3, e4⟩⟩
    · rw [sumN, e2]
      rw [e1, List.drop_length, List.filterMap_nil, List.append_nil] at h4
      rw [← h4]
    · have hi : i < l.length := (List.getElem?_eq_some_iff.mp e1).1
      have hf : f d = none := by simpa using e3
      rw [e2, List.filterMap_cons, hf] at h4
      have := ih (n + 1) (i + 1) pre (by omega) (by omega) hi h4
      rw [sumN] at this ⊢
      rw [e4]
      exact this
    · have hi : i < l.length := (List.getElem?_eq_some_iff.mp e1).1
      obtain ⟨z, hf, rfl⟩ := Option.map_eq_some_iff.mp e3
      have h5 : (pre ++ [z]) ++ (l.drop (i + 1)).filterMap f = l.filterMap f := by
        rw [e2, List.filterMap_cons, hf] at h4
        simpa using h4
      have hz : inL z = true := hb i z (by rw [e2, List.filterMap_cons, hf]; simp)
      have hs : inL (pre.sum + z) = true := by
        have := hB _ _ h5
        simpa [List.sum_append] using this
      rw [sumN, e4]
      simp only [hz, hs, Bool.and_self, if_true]
      have := ih n (i + 1) (pre ++ [z]) (by omega) (by omega) hi h5
      rw [← this]
      simp [List.sum_append]
end
end Gp

set_option Elab.async false
set_option linter.all false
set_option maxRecDepth 100000
set_option maxHeartbeats 1000000
/-! Gp44: dicts as sources, dict comprehensions that change nothing, tables compared, sorted strings -/
namespace Gp
open PySem PySem.Spec L2
open PyProof.Rows hiding St
section
variable {S : Sto}
/-- the store under a walk: as it was, or one dict locked -/
def Lockd (S S1 : Sto) (ul : Option Nat) : Prop := (ul = none ∧ S1 = S) ∨ ∃ n k l, ul = some n ∧ S[n]? = some (.dict k false l) ∧ S1 = S.set n (.dict k true l)
theorem Lockd.none : Lockd S S none := .inl ⟨rfl, rfl⟩
theorem Lockd.len {S1 : Sto} {ul : Option Nat} (h : Lockd S S1 ul) : S1.length = S.length := by
  rcases h with ⟨_, rfl⟩ | ⟨n, k, l, _, _, rfl⟩ <;> simp
theorem Lockd.back {S1 T : Sto} {ul : Option Nat} {d : D} (h : Lockd S S1 ul) : unlR ul (.ok d (S1 ++ T)) = .ok d (S ++ T) := by
  rcases h with ⟨rfl, rfl⟩ | ⟨n, k, l, rfl, hs, rfl⟩
  · rfl
  · have hn := lt_of_get hs
    have e1 : (S.set n (.dict k true l) ++ T)[n]? = some (.dict k true l) := get_app (get_set_eq hn)
    simp only [unlR, unl1, e1]
    rw [List.set_append_left _ _ (by simpa using hn), List.set_set, set_id hs]
/-- what is read of a locked store -/
theorem Lockd.get {S1 : Sto} {ul : Option Nat} {n k : Nat} {l : List (D × D)} {b : Bool} (h : Lockd S S1 ul) (e : S[n]? = some (.dict k b l)) : ∃ b', S1[n]? = some (.dict k b' l) := by
  rcases h with ⟨_, rfl⟩ | ⟨m, j, l', _, hs, rfl⟩
  · exact ⟨b, e⟩
  · by_cases hm : m = n
    · subst hm
      rw [hs] at e
      cases e
      exact ⟨true, get_set_eq (lt_of_get hs)⟩
    · exact ⟨b, by rw [get_set_ne hm]; exact e⟩
theorem Lockd.getL {S1 : Sto} {ul : Option Nat} {n : Nat} {l : List D} (h : Lockd S S1 ul) (e : S[n]? = some (.lst l)) : S1[n]? = some (.lst l) := by
  rcases h with ⟨_, rfl⟩ | ⟨m, j, l', _, hs, rfl⟩
  · exact e
  · by_cases hm : m = n
    · subst hm; rw [hs] at e; cases e
    · rw [get_set_ne hm]; exact e
/-- a walk over a dict's cell -/
theorem src_dict {ρ : Ev} {a : GE} {n k : Nat} {l : List (D × D)} (ha : a ρ S = .ok (.ref n) S) (h : S[n]? = some (.dict k false l)) : ∃ S1, gSrc srcOf a ρ S = .ok (fixL (l.map (·.1))) S1 (some n) ∧ Lockd S S1 (some n) :=
  ⟨S.set n (.dict k true l), by simp only [gSrc, ha, srcOf, ulOf, h], .inr ⟨n, k, l, rfl, h, rfl⟩⟩
theorem gLc_pureU {it : GI} {lk : Look} {t : TN} {c : Option GE} {e : GE} {ρ : Ev} {vs : List Nat} {S1 : Sto} {ul : Option Nat} {l : List D} {n : Nat} (hit : it ρ S = .ok lk S1 ul) (hU : Lockd S S1 ul) (hlk : ∀ i S, lk i S = some l[i]?) (f : D → Option D)
    (h : ∀ d ∈ l, ∀ acc, ∃ ρ', t d (wipeG ρ vs) = some ρ' ∧ match f d with
      | none => tstG c ρ' (S1 ++ [.lst acc]) = .ok (.bl false) (S1 ++ [.lst acc])
      | some y => tstG c ρ' (S1 ++ [.lst acc]) = .ok (.bl true) (S1 ++ [.lst acc]) ∧ e ρ' (S1 ++ [.lst acc]) = .ok y (S1 ++ [.lst acc]))
    (hn : l.length < n) (hl : l.length ≤ sizeLine) (hf : ∀ d ∈ l, ∀ y, f d = some y → fzB S.length 29 y = true) : gLc true n it t c e vs ρ S = .ok (.ls (l.filterMap f)) S := by
  simp only [gLc, gLc0, hit, IR.res, lcN_pure hlk f h hn hl, if_true, hU.back]
  rw [hU.len]
  apply tidy_new
  simp only [frz, Nat.lt_irrefl, if_false, get_new]
  rw [omap_id]; rfl
  intro y hy
  obtain ⟨d, hd, e2⟩ := List.mem_filterMap.mp hy
  exact frz_id (hf d hd y e2)
def putAll (l : List (D × D)) (acc : List (D × D)) : List (D × D) := l.foldl (fun acc p => dput acc p.1 p.2) acc
theorem putAll_len : ∀ {l acc : List (D × D)}, (putAll l acc).length ≤ acc.length + l.length
  | [], acc => by simp [putAll]
  | p :: l, acc => by
    have h1 := putAll_len (l := l) (acc := dput acc p.1 p.2)
    have h2 : (dput acc p.1 p.2).length ≤ acc.length + 1 := by
      unfold dput; split <;> simp
    simp only [putAll, List.foldl_cons, List.length_cons] at h1 ⊢
    omega
theorem dcN_pure {lk : Look} {t : TN} {c : Option GE} {ek e : GE} {ρ0 : Ev} {l : List D} (hlk : ∀ i S, lk i S = some l[i]?) (f : D → Option (D × D))
    (h : ∀ d ∈ l, ∀ acc, ∃ ρ, t d ρ0 = some ρ ∧ match f d with
      | none => tstG c ρ (S ++ [.dict 0 false acc]) = .ok (.bl false) (S ++ [.dict 0 false acc])
      | some y => tstG c ρ (S ++ [.dict 0 false acc]) = .ok (.bl true) (S ++ [.dict 0 false acc]) ∧ ek ρ (S ++ [.dict 0 false acc]) = .ok y.1 (S ++ [.dict 0 false acc]) ∧ e ρ (S ++ [.dict 0 false acc]) = .ok y.2 (S ++ [.dict 0 false acc]) ∧ keyOk 0 y.1 = true)
    {n : Nat} (hn : l.length < n) (hl : l.length ≤ sizeLine) : dcN lk t c ek e ρ0 S.length n 0 (S ++ [.dict 0 false []]) = .ok (.ref S.length) (S ++ [.dict 0 false (putAll (l.filterMap f) [])]) := by
  obtain ⟨S', e1, e2⟩ := dcN_to (lk := lk) (t := t) (c := c) (ek := ek) (e := e) (ρ0 := ρ0) (n0 := S.length) hlk (fun i T => T = S ++ [.dict 0 false (putAll ((l.take i).filterMap f) [])]) (fun i d T hd hT => by
    subst hT
    obtain ⟨ρ, h1, h2⟩ := h d (List.mem_of_getElem? hd) (putAll ((l.take i).filterMap f) [])
    have ht : l.take (i + 1) = l.take i ++ [d] := by rw [List.take_succ, hd]; rfl
    have hlen : (putAll ((l.take i).filterMap f) []).length < sizeLine := by
      have := List.length_filterMap_le f (l.take i)
      have h3 : i < l.length := (List.getElem?_eq_some_iff.mp hd).1
      have h4 := putAll_len (l := (l.take i).filterMap f) (acc := [])
      rw [List.length_take] at this
      simp only [List.length_nil] at h4
      omega
    cases hf : f d with
    | none =>
      simp only [hf] at h2
      exact ⟨ρ, _, h1, .inl ⟨h2, by rw [ht]; simp [hf]⟩⟩
    | some y =>
      simp only [hf] at h2
      exact ⟨ρ, _, h1, .inr ⟨h2.1, y.1, _, y.2, _, _, h2.2.1, h2.2.2.1, get_new, h2.2.2.2, hlen, by rw [set_new, ht]; simp [hf, putAll]⟩⟩) n 0 _ (by omega) (by omega) rfl
  rw [e2, List.take_length] at e1
  exact e1
theorem gDc_pureU {it : GI} {lk : Look} {t : TN} {c : Option GE} {ek e : GE} {ρ : Ev} {vs : List Nat} {S1 : Sto} {ul : Option Nat} {l : List D} {n : Nat} (hit : it ρ S = .ok lk S1 ul) (hU : Lockd S S1 ul) (hlk : ∀ i S, lk i S = some l[i]?) (f : D → Option (D × D))
    (h : ∀ d ∈ l, ∀ acc, ∃ ρ', t d (wipeG ρ vs) = some ρ' ∧ match f d with
      | none => tstG c ρ' (S1 ++ [.dict 0 false acc]) = .ok (.bl false) (S1 ++ [.dict 0 false acc])
      | some y => tstG c ρ' (S1 ++ [.dict 0 false acc]) = .ok (.bl true) (S1 ++ [.dict 0 false acc]) ∧ ek ρ' (S1 ++ [.dict 0 false acc]) = .ok y.1 (S1 ++ [.dict 0 false acc]) ∧ e ρ' (S1 ++ [.dict 0 false acc]) = .ok y.2 (S1 ++ [.dict 0 false acc]) ∧ keyOk 0 y.1 = true)
    (hn : l.length < n) (hl : l.length ≤ sizeLine) (hf : ∀ p ∈ putAll (l.filterMap f) [], fzB S.length 29 p.2 = true) : gDc true n it t c ek e vs ρ S = .ok (.dc 0 (putAll (l.filterMap f) [])) S := by
  simp only [gDc, gDc0, hit, IR.res, dcN_pure hlk f h hn hl, if_true, hU.back]
  rw [hU.len]
  apply tidy_new
  simp only [frz, Nat.lt_irrefl, if_false, get_new]
  rw [dmap_id]; rfl
  intro p hp
  exact frz_id (hf p hp)
/-! ### tables -/
def KN (l : List (D × D)) : Prop := (l.map (·.1)).Nodup
theorem dget_mem {l : List (D × D)} (h : KN l) {k v : D} : dget l k = some v ↔ (k, v) ∈ l := by
  induction l with
  | nil => simp [dget]
  | cons p l ih =>
    obtain ⟨h1, h2⟩ := List.nodup_cons.mp h
    obtain ⟨a, b⟩ := p
    simp only [dget, List.mem_cons, Prod.mk.injEq]
    by_cases e : a = k
    · subst e
      simp only [if_true, Option.some.injEq, true_and]
      constructor
      · rintro rfl; exact .inl rfl
      · rintro (rfl | hm)
        · rfl
        · exact absurd (List.mem_map.mpr ⟨_, hm, rfl⟩) h1
    · rw [if_neg e, ih h2]
      constructor
      · exact .inr
      · rintro (⟨rfl, _⟩ | hm)
        · exact absurd rfl e
        · exact hm
theorem dget_perm {a b : List (D × D)} (h : KN a) (p : a.Perm b) (k : D) : dget a k = dget b k := by
  have hb : KN b := (p.map _).nodup_iff.mp h
  apply Option.ext
  intro v
  rw [dget_mem h, dget_mem hb, p.mem_iff]
theorem dget_none {l : List (D × D)} {k : D} (h : k ∉ l.map (·.1)) : dget l k = none := by
  induction l with
  | nil => rfl
  | cons p l ih =>
    simp only [List.map_cons, List.mem_cons, not_or] at h
    rw [dget, if_neg fun e => h.1 e.symm, ih h.2]
theorem dput_new {l : List (D × D)} {k v : D} (h : k ∉ l.map (·.1)) : dput l k v = l ++ [(k, v)] := by
  unfold dput
  rw [if_neg]
  simp only [List.any_eq_true, decide_eq_true_eq, not_exists, not_and]
  intro p hp e
  exact h (List.mem_map.mpr ⟨p, hp, e⟩)
theorem dput_keys {l : List (D × D)} {k v : D} (h : k ∈ l.map (·.1)) : (dput l k v).map (·.1) = l.map (·.1) := by
  unfold dput
  rw [if_pos]
  · rw [List.map_map]
    apply List.map_congr_left
    intro p hp
    simp only [Function.comp]
    split <;> rfl
  · simp only [List.any_eq_true, decide_eq_true_eq]
    obtain ⟨p, hp, e⟩ := List.mem_map.mp h
    exact ⟨p, hp, e⟩
theorem KN.put {l : List (D × D)} (h : KN l) (k v : D) : KN (dput l k v) := by
  unfold KN
  by_cases hk : k ∈ l.map (·.1)
  · rw [dput_keys hk]; exact h
  · rw [dput_new hk, List.map_append]
    refine List.nodup_append.mpr ⟨h, by simp, ?_⟩
    intro a ha b hb e
    simp only [List.map_cons, List.map_nil, List.mem_singleton] at hb
    subst hb; subst e
    exact hk ha
theorem dget_put {l : List (D × D)} {k v j : D} : dget (dput l k v) j = if k = j then some v else dget l j := by
  unfold dput
  split
  · rename_i h
    simp only [List.any_eq_true, decide_eq_true_eq] at h
    induction l with
    | nil => obtain ⟨p, hp, _⟩ := h; simp at hp
    | cons p l ih =>
      simp only [List.map_cons, dget]
      by_cases e : p.1 = k
      · subst e
        by_cases e2 : p.1 = j
        · simp [e2]
        · simp only [if_true, e2, if_false]
          have : ∀ l : List (D × D), dget (l.map fun q => if q.1 = p.1 then (q.1, v) else q) j = dget l j := fun l => by
            induction l with
            | nil => rfl
            | cons q l ih =>
              simp only [List.map_cons, dget]
              by_cases e3 : q.1 = p.1
              · rw [if_pos e3]; simp only [e3, e2, if_false]; exact ih
              · rw [if_neg e3]; split
                · rfl
                · exact ih
          exact this l
      · simp only [e, if_false]
        obtain ⟨q, hq, e4⟩ := h
        have hq2 : q ∈ l := by
          rcases List.mem_cons.mp hq with rfl | hq
          · exact absurd e4 e
          · exact hq
        rw [ih ⟨q, hq2, e4⟩]
        by_cases e2 : p.1 = j
        · have : ¬ k = j := fun e5 => e (e2.trans e5.symm)
          simp [e2, this]
        · simp [e2]
  · rename_i h
    simp only [List.any_eq_true, decide_eq_true_eq, not_exists, not_and] at h
    have hk : k ∉ l.map (·.1) := fun hk => by
      obtain ⟨p, hp, e⟩ := List.mem_map.mp hk
      exact h p hp e
    clear h
    induction l with
    | nil => simp [dget]
    | cons p l ih =>
      simp only [List.map_cons, List.mem_cons, not_or] at hk
      simp only [List.cons_append, dget]
      rw [ih hk.2]
      by_cases e2 : p.1 = j
      · have : ¬ k = j := fun e5 => hk.1 (e5.trans e2.symm)
        simp [e2, this]
      · simp [e2]
theorem putAll_new {l acc : List (D × D)} (h : KN (acc ++ l)) : putAll l acc = acc ++ l := by
  induction l generalizing acc with
  | nil => simp [putAll]
  | cons p l ih =>
    have hk : p.1 ∉ acc.map (·.1) := by
      unfold KN at h
      rw [List.map_append, List.map_cons] at h
      intro hm
      exact (List.nodup_append.mp h).2.2 _ hm _ List.mem_cons_self rfl
    simp only [putAll, List.foldl_cons]
    rw [dput_new hk]
    have := ih (acc := acc ++ [p]) (by simpa using h)
    simpa [putAll] using this
theorem putAll_nil {l : List (D × D)} (h : KN l) : putAll l [] = l := by simpa using putAll_new (acc := []) (l := l) (by simpa using h)
theorem KN.putAll {l : List (D × D)} : ∀ {acc : List (D × D)}, KN acc → KN (putAll l acc) := by
  induction l with
  | nil => exact fun h => h
  | cons p l ih => exact fun h => ih (h.put _ _)
theorem dget_putAll {l : List (D × D)} (hl : KN l) : ∀ {acc : List (D × D)} {j : D}, dget (putAll l acc) j = (dget l j).or (dget acc j) := by
  induction l with
  | nil => intro acc j; simp [putAll, dget]
  | cons p l ih =>
    intro acc j
    obtain ⟨h1, h2⟩ := List.nodup_cons.mp hl
    have := ih h2 (acc := dput acc p.1 p.2) (j := j)
    simp only [Gp.putAll, List.foldl_cons] at this ⊢
    rw [this, dget_put, dget]
    by_cases e : p.1 = j
    · subst e
      rw [dget_none h1]; simp
    · simp [e]
theorem keys_of_dget {l : List (D × D)} {k : D} : k ∈ l.map (·.1) ↔ (dget l k).isSome := by
  induction l with
  | nil => simp [dget]
  | cons p l ih =>
    simp only [List.map_cons, List.mem_cons, dget]
    by_cases e : p.1 = k
    · simp [e]
    · rw [if_neg e, ← ih]
      constructor
      · rintro (rfl | h)
        · exact absurd rfl e
        · exact h
      · exact .inr
/-- two tables of numbers that tell the same are the same -/
theorem gNeD_ext {a b : List (D × D)} (ha : KN a) (hb : KN b) (h : ∀ k, dget a k = dget b k) (hi : ∀ p ∈ a, ∃ i, p.2 = .int i) : gNeD (.dc 0 a) (.dc 0 b) S = some (.bl false, S) := by
  have pm : (a.map (·.1)).Perm (b.map (·.1)) := (List.perm_ext_iff_of_nodup ha hb).mpr fun k => by rw [keys_of_dget, keys_of_dget, h]
  have hlen : a.length = b.length := by simpa using pm.length_eq
  have hi2 : ∀ p ∈ b, ∃ i, p.2 = .int i := fun p hp => by
    have e1 : dget b p.1 = some p.2 := (dget_mem hb).mpr hp
    rw [← h] at e1
    exact hi _ ((dget_mem ha).mp e1)
  have dl : ∀ {l : List (D × D)}, (∀ p ∈ l, ∃ i, p.2 = .int i) → datL S l = true := fun {l} hl => by
    simp only [datL, List.all_eq_true]
    intro p hp
    obtain ⟨i, e⟩ := hl p hp
    rw [e]; rfl
  have hh : hitD S b a = true := by
    simp only [hitD, List.all_eq_true]
    intro p hp
    have e1 : dget a p.1 = some p.2 := (dget_mem ha).mpr hp
    rw [h] at e1
    obtain ⟨i, e⟩ := hi p hp
    rw [e1, e]
    have : pdv S (.int i) = some (.int i) := rfl
    simp only [this]
    simp [PyData.eqv]
  simp only [gNeD, eqD, asD, hlen, if_true, dl hi, dl hi2, Bool.and_self, hh, Option.map_some, Bool.not_true]
/-! ### sorted strings -/
theorem sortable_strs {l : List Str} : sortable (l.map .str) = true := by
  simp [sortable, PySem.W.alike, isNone]
theorem perm_strs {l : List D} {ns : List Str} (h : l.Perm (ns.map .str)) : ∃ ms : List Str, l = ms.map .str ∧ ms.Perm ns := by
  let f : D → Str := fun d => match d with | .str i => i | _ => ""
  refine ⟨l.map f, ?_, ?_⟩
  · have : ∀ d ∈ l, D.str (f d) = d := fun d hd => by
      obtain ⟨z, _, rfl⟩ := List.mem_map.mp (h.mem_iff.mp hd)
      rfl
    rw [List.map_map]
    conv => lhs; rw [← List.map_id l]
    exact List.map_congr_left fun d hd => (this d hd).symm
  · have h2 := h.map f
    rw [List.map_map] at h2
    have e : (f ∘ D.str) = id := rfl
    rw [e, List.map_id] at h2
    exact h2
theorem sorted_strs {d : D} {l : List Str} (h : itemsOf d S = some (l.map .str)) : ∃ ms : List Str, ms.Perm l ∧ pSorted false [d] S = some (.ls (ms.map .str), S) := by
  have e1 : omap (pd S 58) (l.map .str) = some (l.map .str) := omap_map (f := pd S 58) (g := D.str) (h := PyData.str) fun a => _root_.rfl
  obtain ⟨ms, e2, p⟩ := perm_strs (l := sortD S (l.map .str)) (ns := l) (List.mergeSort_perm _ _)
  refine ⟨ms, p, ?_⟩
  simp only [pSorted, h, e1, sortable_strs, if_true, mkL, e2]
  rfl
end
end Gp

set_option Elab.async false
set_option linter.all false
set_option maxRecDepth 100000
set_option maxHeartbeats 1000000
/-! Gp45: comprehensions over a list's cell that stays -/
namespace Gp
open PySem PySem.Spec L2
section
variable {S : Sto}
theorem dcN_fix {lk : Look} {t : TN} {c : Option GE} {ek e : GE} {ρ0 : Ev} {n0 : Nat} {l : List D} (I : Nat → Sto → Prop) (hlk : ∀ i S, I i S → lk i S = some l[i]?)
    (h : ∀ i d S, l[i]? = some d → I i S → ∃ ρ S1, t d ρ0 = some ρ ∧ ((tstG c ρ S = .ok (.bl false) S1 ∧ I (i + 1) S1) ∨ (tstG c ρ S = .ok (.bl true) S1 ∧ ∃ k S2 y S3 acc, ek ρ S1 = .ok k S2 ∧ e ρ S2 = .ok y S3 ∧ S3[n0]? = some (.dict 0 false acc) ∧ keyOk 0 k = true ∧ acc.length < sizeLine ∧ I (i + 1) (S3.set n0 (.dict 0 false (dput acc k y)))))) :
    ∀ n i S, l.length < n + i → i ≤ l.length → I i S → ∃ S', dcN lk t c ek e ρ0 n0 n i S = .ok (.ref n0) S' ∧ I l.length S'
  | 0, i, _, hn, hi, _ => by omega
  | n + 1, i, S, hn, hi, x => by
    simp only [dcN, hlk i S x]
    rcases Nat.lt_or_ge i l.length with hi' | hi'
    · rw [List.getElem?_eq_getElem hi']
      obtain ⟨ρ, S1, e1, h1⟩ := h i _ S (List.getElem?_eq_getElem hi') x
      simp only [e1]
      rcases h1 with ⟨e2, y⟩ | ⟨e2, k, S2, y, S3, acc, e3, e4, e5, e6, e7, z⟩
      · simp only [e2]
        exact dcN_fix I hlk h n (i + 1) S1 (by omega) hi' y
      · simp only [e2, e3, e4, e5, e6, e7, and_self, if_true]
        exact dcN_fix I hlk h n (i + 1) _ (by omega) hi' z
    · rw [List.getElem?_eq_none hi']
      have : i = l.length := by omega
      subst this; exact ⟨S, rfl, x⟩
theorem gDc_pureL {it : GI} {lk : Look} {t : TN} {c : Option GE} {ek e : GE} {ρ : Ev} {vs : List Nat} {l : List D} {n : Nat} (hit : it ρ S = .ok lk S none) (hlk : ∀ i acc, lk i (S ++ [.dict 0 false acc]) = some l[i]?) (f : D → Option (D × D))
    (h : ∀ d ∈ l, ∀ acc, ∃ ρ', t d (wipeG ρ vs) = some ρ' ∧ match f d with
      | none => tstG c ρ' (S ++ [.dict 0 false acc]) = .ok (.bl false) (S ++ [.dict 0 false acc])
      | some y => tstG c ρ' (S ++ [.dict 0 false acc]) = .ok (.bl true) (S ++ [.dict 0 false acc]) ∧ ek ρ' (S ++ [.dict 0 false acc]) = .ok y.1 (S ++ [.dict 0 false acc]) ∧ e ρ' (S ++ [.dict 0 false acc]) = .ok y.2 (S ++ [.dict 0 false acc]) ∧ keyOk 0 y.1 = true)
    (hn : l.length < n) (hl : l.length ≤ sizeLine) (hf : ∀ p ∈ putAll (l.filterMap f) [], fzB S.length 29 p.2 = true) : gDc true n it t c ek e vs ρ S = .ok (.dc 0 (putAll (l.filterMap f) [])) S := by
  obtain ⟨S', e1, e2⟩ := dcN_fix (lk := lk) (t := t) (c := c) (ek := ek) (e := e) (ρ0 := wipeG ρ vs) (n0 := S.length) (l := l) (fun i T => T = S ++ [.dict 0 false (putAll ((l.take i).filterMap f) [])]) (fun i T hT => by subst hT; exact hlk i _) (fun i d T hd hT => by
    subst hT
    obtain ⟨ρ, h1, h2⟩ := h d (List.mem_of_getElem? hd) (putAll ((l.take i).filterMap f) [])
    have ht : l.take (i + 1) = l.take i ++ [d] := by rw [List.take_succ, hd]; rfl
    have hlen : (putAll ((l.take i).filterMap f) []).length < sizeLine := by
      have := List.length_filterMap_le f (l.take i)
      have h3 : i < l.length := (List.getElem?_eq_some_iff.mp hd).1
      have h4 := putAll_len (l := (l.take i).filterMap f) (acc := [])
      rw [List.length_take] at this
      simp only [List.length_nil] at h4
      omega
    cases hf : f d with
    | none =>
      simp only [hf] at h2
      exact ⟨ρ, _, h1, .inl ⟨h2, by rw [ht]; simp [hf]⟩⟩
    | some y =>
      simp only [hf] at h2
      exact ⟨ρ, _, h1, .inr ⟨h2.1, y.1, _, y.2, _, _, h2.2.1, h2.2.2.1, get_new, h2.2.2.2, hlen, by rw [set_new, ht]; simp [hf, putAll]⟩⟩) n 0 (S ++ [.dict 0 false []]) (by omega) (by omega) rfl
  rw [e2, List.take_length] at e1
  simp only [gDc, gDc0, hit, IR.res, unlR, e1, if_true]
  apply tidy_new
  simp only [frz, Nat.lt_irrefl, if_false, get_new]
  rw [dmap_id]; rfl
  intro p hp
  exact frz_id (hf p hp)
end
end Gp

set_option Elab.async false
set_option linter.all false
set_option maxRecDepth 100000
/-! Gp46: which exceptions end no walk -/
namespace Gp
open PySem PySem.Spec L2
open PyProof.Rows hiding St

def nstB (cs : List Str) (K : PySem.W.Frag) : Bool := cs.all fun c => match PySem.W.nsIn K mainGlobals c with
  | some (some (.ref C)) => decide (PySem.W.subIn K (.ref C) (.type "StopIteration") = some false)
  | _ => false
theorem nst_ok {g : G} {cs : List Str} {h : Heap} (X : g.K.In h) (G : h.Ns mainGlobals g.mg) (e : nstB cs g.K = true) : ∀ c ∈ cs, Nst g c := fun c hc => by
  have z := List.all_eq_true.mp e c hc
  intro C hC
  split at z
  · rename_i C' eu
    have := PySem.W.mg_of X G eu
    rw [hC] at this
    cases this
    exact of_decide_eq_true z
  · cases z
theorem nsts_nil {g : G} : ∀ x ∈ ([] : List Str), Nst g x := fun x h => by cases h
theorem nsts_cons {g : G} {c : Str} {l : List Str} (h : Nst g c) (t : ∀ x ∈ l, Nst g x) : ∀ x ∈ c :: l, Nst g x := fun x hx => by
  rcases List.mem_cons.mp hx with e | e
  · rw [e]; exact h
  · exact t x e
end Gp

set_option Elab.async false
set_option linter.all false
set_option maxRecDepth 100000
set_option maxHeartbeats 1000000
/-! Gp47: stores told by their dice; comprehensions that roll; lists of strings; cuts; bits -/
namespace Gp
open PySem PySem.Spec L2

/-- the three numbers of the dice -/
structure Z3 where
  a : Int
  b : Int
  c : Int
abbrev dcT (z : Z3) : Cell := dcC z.a z.b z.c
/-- a store told by its dice, which lie in cell 1 -/
structure Dst (st : Z3 → Sto) (n : Nat) : Prop where
  at1 : ∀ z, (st z)[1]? = some (dcT z)
  set1 : ∀ z z', (st z).set 1 (dcT z') = st z'
  cl : ∀ z, Cl (st z)
  len : ∀ z, (st z).length = n
theorem Dst.roll {st : Z3 → Sto} {n : Nat} (h : Dst st n) {m : Int} (h1 : 1 ≤ m) (h2 : m ≤ 1000000000000) (z : Z3) :
    ∃ r z', 0 ≤ r ∧ r < m ∧ F_law_roll [.ref 1, .int m] (st z) = .ok (.int r) (st z') := by
  obtain ⟨r, a, b, c, h3, h4, h5⟩ := roll_ev (h.at1 z) (h.cl z) h1 h2
  exact ⟨r, ⟨a, b, c⟩, h3, h4, h5.trans (by rw [← h.set1 z ⟨a, b, c⟩])⟩
theorem Dst.app {st : Z3 → Sto} {n : Nat} (h : Dst st n) {c : Cell} (hc : cloC (n + 1) c = true) : Dst (fun z => st z ++ [c]) (n + 1) := by
  have h1 : ∀ z, 1 < (st z).length := fun z => lt_of_get (h.at1 z)
  refine ⟨fun z => get_app (h.at1 z), fun z z' => ?_, fun z => (h.cl z).app fun w hw => ?_, fun z => by simp [h.len]⟩
  · show (st z ++ [c]).set 1 _ = st z' ++ [c]
    rw [List.set_append_left _ _ (h1 z), h.set1]
  · rw [List.mem_singleton] at hw
    subst hw
    rw [h.len]
    exact hc
theorem Dst.one {st : Z3 → Sto} {n : Nat} (h : Dst st n) : 1 < n := by
  have := lt_of_get (h.at1 ⟨0, 0, 0⟩)
  rwa [h.len] at this
/-- a comprehension whose elements may roll the dice -/
theorem Dst.lc {st : Z3 → Sto} {n0 : Nat} (hd : Dst st n0) {it : GI} {lk : Look} {t : TN} {c : Option GE} {e : GE} {ρ : Ev} {vs : List Nat} {S : Sto} {z : Z3} {l : List D} {n : Nat} (hit : it ρ S = .ok lk (st z) none) (hS : ∃ z0, S = st z0) (hlk : ∀ i S, lk i S = some l[i]?)
    (I : Nat → List D → Prop) (h0 : I 0 []) (hcl : ∀ i ys, I i ys → cloL n0 ys = true) (hfz : ∀ ys, I l.length ys → ∀ y ∈ ys, fzB n0 29 y = true) (hn : l.length < n) (hl : ∀ i ys, I i ys → ys.length < sizeLine)
    (h : ∀ i d ys z, l[i]? = some d → I i ys → ∃ ρ', t d (wipeG ρ vs) = some ρ' ∧ ∃ z1, (tstG c ρ' (st z ++ [.lst ys]) = .ok (.bl false) (st z1 ++ [.lst ys]) ∧ I (i + 1) ys) ∨ (tstG c ρ' (st z ++ [.lst ys]) = .ok (.bl true) (st z1 ++ [.lst ys]) ∧ ∃ y z2, e ρ' (st z1 ++ [.lst ys]) = .ok y (st z2 ++ [.lst ys]) ∧ I (i + 1) (ys ++ [y]))) :
    ∃ ys z', gLc true n it t c e vs ρ S = .ok (.ls ys) (st z') ∧ I l.length ys := by
  obtain ⟨z0, rfl⟩ := hS
  have sn : ∀ z, (st z).length = n0 := hd.len
  obtain ⟨S', e1, ys, z', rfl, hi⟩ := lcN_to (lk := lk) (t := t) (c := c) (e := e) (ρ0 := wipeG ρ vs) (n0 := n0) hlk (fun i T => ∃ ys z, T = st z ++ [.lst ys] ∧ I i ys) (fun i d T hd' hT => by
    obtain ⟨ys, z, rfl, hi⟩ := hT
    obtain ⟨ρ', h1, z1, h2⟩ := h i d ys z hd' hi
    rcases h2 with ⟨h2, h3⟩ | ⟨h2, y, z2, h3, h4⟩
    · exact ⟨ρ', _, h1, .inl ⟨h2, ys, z1, rfl, h3⟩⟩
    · have g1 := get_new (S := st z2) (c := Cell.lst ys)
      rw [sn] at g1
      refine ⟨ρ', _, h1, .inr ⟨h2, y, _, ys, h3, g1, hl i ys hi, ys ++ [y], z2, ?_, h4⟩⟩
      rw [← sn z2, set_new]) n 0 (st z ++ [.lst []]) (by omega) (by omega) ⟨[], z, rfl, h0⟩
  refine ⟨ys, z', ?_, hi⟩
  have g1 := get_new (S := st z') (c := Cell.lst ys)
  rw [sn] at g1
  simp only [gLc, gLc0, hit, IR.res, unlR, sn, e1, if_true]
  have ht : (st z' ++ [Cell.lst ys]).take (st z0).length = st z' := by rw [sn, ← sn z']; simp
  simp only [tidy, ht]
  have ha : (st z').all (cloC (st z0).length) = true := by
    have := (hd.cl z').all
    rwa [sn, ← sn z0] at this
  rw [if_pos (.inr ha)]
  simp only [frz, sn, Nat.lt_irrefl, if_false, g1]
  rw [omap_id fun y hy => frz_id (hfz ys hi y hy)]
  rfl
/-- a loop whose turns move on from one store told by dice to another -/
theorem TurnTo.of {P : Ev → Sto → Prop} {R : D → Sto → Prop} {r : RS} (h : ∃ ρ S, r = .nx ρ S ∧ P ρ S) : TurnTo P R r := by
  obtain ⟨ρ, S, rfl, h⟩ := h
  exact h
theorem EndTo.ex {P : Ev → Sto → Prop} {r : RS} (h : EndTo P (fun _ _ => False) r) : ∃ ρ S, r = .nx ρ S ∧ P ρ S := h.nx

/-! ### lists as data -/
section
variable {α : Type} {S : Sto} {k : Nat} {l m : List α}
theorem pd_lsM {f : α → D} {h : α → PyData} (e : ∀ a, pd S k (f a) = some (h a)) : pd S (k + 1) (.ls (l.map f)) = some (.list (l.map h)) := by simp [pd, omap_map e]
theorem pd_tupM {f : α → D} {h : α → PyData} (e : ∀ a, pd S k (f a) = some (h a)) : pd S (k + 1) (.tup (l.map f)) = some (.tuple (l.map h)) := by simp [pd, omap_map e]
theorem pd_ktM {f : α → D} {h : α → PyData} (e : ∀ a, pd S k (f a) = some (h a)) : pd S (k + 1) (.kt (l.map f)) = some (.tuple (l.map h)) := by simp [pd, omap_map e]
theorem any_eqv_str {l : List Str} {x : Str} : ((l.map PyData.str).any fun y => PyData.eqv y (.str x)) = decide (x ∈ l) := by
  rw [Bool.eq_iff_iff]
  simp only [List.any_eq_true, decide_eq_true_eq, List.mem_map]
  constructor
  · rintro ⟨_, ⟨a, ha, rfl⟩, h⟩
    simp only [PyData.eqv, beq_iff_eq] at h
    subst h; exact ha
  · intro h
    exact ⟨_, ⟨x, h, rfl⟩, by simp [PyData.eqv]⟩
theorem gIn_ls_strs {l : List Str} {x : Str} {b : Bool} : gIn b (.str x) (.ls (l.map .str)) S = some (.bl (decide (x ∈ l) == b), S) := by
  have e : pd S 60 (.ls (l.map .str)) = some (.list (l.map .str)) := pd_lsM fun a => rfl
  simp only [gIn, asD, e]
  show some (D.bl (((l.map PyData.str).any fun y => PyData.eqv y (.str x)) == b), S) = _
  rw [any_eqv_str]
theorem gIn_tup_strs {l : List Str} {x : Str} {b : Bool} : gIn b (.str x) (.tup (l.map .str)) S = some (.bl (decide (x ∈ l) == b), S) := by
  have e : pd S 60 (.tup (l.map .str)) = some (.tuple (l.map .str)) := pd_tupM fun a => rfl
  simp only [gIn, asD, e]
  show some (D.bl (((l.map PyData.str).any fun y => PyData.eqv y (.str x)) == b), S) = _
  rw [any_eqv_str]
theorem gIn_kt_strs {l : List Str} {x : Str} {b : Bool} : gIn b (.str x) (.kt (l.map .str)) S = some (.bl (decide (x ∈ l) == b), S) := by
  have e : pd S 60 (.kt (l.map .str)) = some (.tuple (l.map .str)) := pd_ktM fun a => rfl
  simp only [gIn, asD, e]
  show some (D.bl (((l.map PyData.str).any fun y => PyData.eqv y (.str x)) == b), S) = _
  rw [any_eqv_str]
theorem isDat_strs {l : List Str} : isDat 60 (.ls (l.map .str)) = true := by
  simp only [isDat, List.all_eq_true]
  intro d hd
  obtain ⟨x, _, rfl⟩ := List.mem_map.mp hd
  rfl
theorem isDat_lsM {f : α → D} {k : Nat} (h : ∀ a ∈ l, isDat k (f a) = true) : isDat (k + 1) (.ls (l.map f)) = true := by
  simp only [isDat, List.all_eq_true]
  intro d hd
  obtain ⟨x, hx, rfl⟩ := List.mem_map.mp hd
  exact h x hx
@[simp] theorem gEq_bl {a b : Bool} : gEq (.bl a) (.bl b) S = some (.bl (a == b), S) := by cases a <;> cases b <;> rfl
@[simp] theorem gNe_bl {a b : Bool} : gNe (.bl a) (.bl b) S = some (.bl (a != b), S) := by cases a <;> cases b <;> rfl
@[simp] theorem pLen_ls {l : List D} : pLen [.ls l] S = some (.int (l.length : Nat), S) := rfl
@[simp] theorem pLen_tup {l : List D} : pLen [.tup l] S = some (.int (l.length : Nat), S) := rfl
@[simp] theorem pLen_kt {l : List D} : pLen [.kt l] S = some (.int (l.length : Nat), S) := rfl
theorem pLen_ref {n : Nat} {l : List D} (h : S[n]? = some (.lst l)) : pLen [.ref n] S = some (.int (l.length : Nat), S) := by simp [pLen, asD, asL, h]
@[simp] theorem gIx_kt {l : List D} {i : Int} : gIx (.kt l) (.int i) S = (atI l i).map fun d => (d, S) := rfl
@[simp] theorem gIs_non {b : Bool} : gIs b .non .non S = some (.bl b, S) := by cases b <;> rfl
theorem gAttr_ob {cl : List Str} {f c : Str} {fs : List (Str × D)} (h : c ∈ cl) : gAttr cl f (.ob c fs) S = (lookD f fs).map fun d => (d, S) := by simp [gAttr, h]
theorem gAttr_ref {cl : List Str} {f c : Str} {fs : List (Str × D)} {n : Nat} (e : S[n]? = some (.obj c fs)) (h : c ∈ cl) : gAttr cl f (.ref n) S = (lookD f fs).map fun d => (d, S) := by simp [gAttr, e, h]
theorem setA_ref {cl : List Str} {f c : Str} {fs : List (Str × D)} {n : Nat} {d : D} (e : S[n]? = some (.obj c fs)) (h : c ∈ cl) (hl : fs.length < 1000) : setA cl f (.ref n) d S = some (S.set n (.obj c (putD f d fs))) := by simp [setA, e, h, hl]
theorem clsOf_ref {c : Str} {fs : List (Str × D)} {n : Nat} (e : S[n]? = some (.obj c fs)) : clsOf (.ref n) S = some (c, fs) := by simp [clsOf, e]
theorem append_ref {n : Nat} {l : List D} {d : D} (h : S[n]? = some (.lst l)) (hl : l.length < sizeLine) : pAppend (.ref n) [d] S = some (.non, S.set n (.lst (l ++ [d]))) := by simp [pAppend, h, hl]
theorem tyG_ref {n : Nat} {l : List D} (h : S[n]? = some (.lst l)) : tyG "list" (.ref n) S = true := by simp [tyG, h]
/-! ### cuts -/
theorem cutD_last {l : List α} {k : Nat} (hk : 0 < k) : cutD l (some (-(k : Int))) none = l.drop (l.length - k) := by
  have e : HT.sIx l.length 0 (some (-(k : Int))) = l.length - k := by
    show (if (-(k : Int)) < 0 then (-(k : Int) + (l.length : Int)).toNat else _) = _
    rw [if_pos (by omega)]; omega
  simp only [cutD, e, HT.sIx_none]
  rw [List.take_of_length_le (by simp)]
theorem cutD_init {l : List α} {k : Nat} (hk : 0 < k) : cutD l none (some (-(k : Int))) = l.take (l.length - k) := by
  have e : HT.sIx l.length l.length (some (-(k : Int))) = l.length - k := by
    show (if (-(k : Int)) < 0 then (-(k : Int) + (l.length : Int)).toNat else _) = _
    rw [if_pos (by omega)]; omega
  simp only [cutD, e, HT.sIx_none, List.drop_zero, Nat.sub_zero]
theorem cutD_from {l : List α} {k : Nat} : cutD l (some (k : Int)) none = l.drop k := by
  simp only [cutD, HT.sIx_none, HT.sIx_nat]
  rcases Nat.le_total k l.length with h | h
  · rw [Nat.min_eq_left h, List.take_of_length_le (by simp)]
  · rw [Nat.min_eq_right h, List.drop_of_length_le (Nat.le_refl _), List.drop_of_length_le h]; simp
theorem gSlice_ls {l : List D} {lo hi : Option Int} : gSlice false (.ls l) lo hi S = some (.ls (cutD l lo hi), S) := rfl
theorem gSlice_tup {l : List D} {lo hi : Option Int} : gSlice false (.tup l) lo hi S = some (.tup (cutD l lo hi), S) := rfl
end
section
variable {a b c lo hi : GE} {ρ : Ev} {S : Sto} {m : Bool}
@[simp] theorem ev_sl0h : gSl m a none (some hi) ρ S = (a ρ S).bind fun x S1 => (hi ρ S1).bind fun d S2 => match d with | .int i => (gSlice m x none (some i) S2).res | _ => .bad := by
  unfold gSl gPart
  congr 1
@[simp] theorem ev_sll0 : gSl m a (some lo) none ρ S = (a ρ S).bind fun x S1 => (lo ρ S1).bind fun d S2 => match d with | .int i => (gSlice m x (some i) none S2).res | _ => .bad := by
  unfold gSl gPart
  congr 1
@[simp] theorem ev_sllh : gSl m a (some lo) (some hi) ρ S = (a ρ S).bind fun x S1 => (lo ρ S1).bind fun d S2 => match d with | .int i => (hi ρ S2).bind fun d S3 => (match d with | .int j => (gSlice m x (some i) (some j) S3).res | _ => .bad) | _ => .bad := by
  unfold gSl gPart
  congr 1
end
/-! ### bits -/
section
variable {S : Sto} {i j : Nat}
theorem bitAnd_nat : Builtin.bitAnd (i : Int) (j : Int) = ((i &&& j : Nat) : Int) := by simp [Builtin.bitAnd]
theorem bitNot_nat : Builtin.bitNot (i : Int) = -(i : Int) - 1 := by simp only [Builtin.bitNot]
theorem bitOr_nat : Builtin.bitOr (i : Int) (j : Int) = ((i ||| j : Nat) : Int) := by
  have h1 : ¬ (0 : Int) ≤ Builtin.bitNot (i : Int) := by rw [bitNot_nat]; omega
  have h2 : ¬ (0 : Int) ≤ Builtin.bitNot (j : Int) := by rw [bitNot_nat]; omega
  have nn : ∀ x : Int, Builtin.bitNot (Builtin.bitNot x) = x := fun x => by simp only [Builtin.bitNot]; omega
  simp only [Builtin.bitOr, Builtin.bitAnd, h1, h2, decide_false, nn, Int.toNat_natCast]
@[simp] theorem gBand_nat : gBand (.int (i : Int)) (.int (j : Int)) S = some (.int ((i &&& j : Nat) : Int), S) := by simp only [gBand, bitAnd_nat]
@[simp] theorem gBor_nat : gBor (.int (i : Int)) (.int (j : Int)) S = some (.int ((i ||| j : Nat) : Int), S) := by simp only [gBor, bitOr_nat]
@[simp] theorem gIOr_nat : gIOr (.int (i : Int)) (.int (j : Int)) S = some (.int ((i ||| j : Nat) : Int), S) := by simp only [gIOr, bitOr_nat]
theorem gShl_one (hj : j ≤ 1000) : gShl (.int 1) (.int (j : Int)) S = some (.int ((1 <<< j : Nat) : Int), S) := by
  have h : powOk 1 (j : Int) = true := by
    simp only [powOk, Bool.and_eq_true, decide_eq_true_eq]
    exact ⟨⟨by omega, by omega⟩, by decide⟩
  simp only [gShl, h, if_true, Int.toNat_natCast]
  simp [Nat.shiftLeft_eq]
theorem gShr_nat : gShr (.int (i : Int)) (.int (j : Int)) S = some (.int ((i >>> j : Nat) : Int), S) := by
  simp only [gShr]
  rw [if_pos (by omega)]
  simp [Nat.shiftRight_eq_div_pow]
end
/-! ### a loop's first turn raises; elements that may raise, but do not -/
section
variable {lk : Look} {t : TN} {c : Option GE} {e : GE} {ρ0 : Ev} {yes : List Str}
theorem sFor_exc {n : Nat} (hn : 0 < n) {it : GI} {t : GT} {b : GS} {ρ ρ' : Ev} {S S1 S2 : Sto} {d : D} {x : Str} (hit : it ρ S = .ok lk S1 none) (l0 : lk 0 S1 = some (some d)) (h : (t d ρ S1).thn b = .exc x ρ' S2) : sFor n it t b ρ S = .exc x ρ' S2 := by
  obtain ⟨n, rfl⟩ : ∃ m, n = m + 1 := ⟨n - 1, by omega⟩
  simp only [sFor, hit, IR.thn, unlRS, forN, l0, h]
theorem nextX_of : ∀ {k i : Nat} {S : Sto}, nextN lk t c e ρ0 k i S ≠ .bad → nextX yes lk t c e ρ0 k i S = nextN lk t c e ρ0 k i S
  | 0, _, _, h => absurd rfl h
  | k + 1, i, S, h => by
    unfold nextN at h
    unfold nextX nextN
    cases el : lk i S with
    | none => rfl
    | some o =>
      cases o with
      | none => rfl
      | some d =>
        simp only [el] at h ⊢
        cases et : t d ρ0 with
        | none => rfl
        | some ρ =>
          simp only [et] at h ⊢
          cases ec : tstG c ρ S with
          | bad => rfl
          | exc x S1 => rfl
          | ok b S1 =>
            cases b with
            | bl b =>
              simp only [ec] at h ⊢
              cases b with
              | true =>
                simp only at h ⊢
                cases ee : e ρ S1 with
                | ok y S2 => rfl
                | bad => rfl
                | exc x S2 => rw [ee] at h; exact absurd rfl h
              | false =>
                simp only at h ⊢
                exact nextX_of h
            | _ => rfl
theorem accX_of : ∀ {n k i : Nat} {ds : List D} {S : Sto}, accN (nextN lk t c e ρ0) n ds k i S ≠ .bad → accN (nextX yes lk t c e ρ0) n ds k i S = accN (nextN lk t c e ρ0) n ds k i S
  | 0, _, _, _, _, h => absurd rfl h
  | n + 1, k, i, ds, S, h => by
    have h2 := nextX_of (yes := yes) (accN_live h)
    unfold accN at h ⊢
    rw [h2]
    split
    · rfl
    · rfl
    · rename_i y k' i' S' en
      rw [en] at h
      simp only at h
      split
      · rename_i hl
        rw [if_pos hl] at h
        exact accX_of h
      · rfl
    · rfl
theorem gGenX_tup {n : Nat} {mi : GI} {vs : List Nat} {ρ : Ev} {S S' : Sto} {d : D} (h : gGen tupN n mi t c e vs ρ S = .ok d S') : gGenX tupN yes n mi t c e vs ρ S = .ok d S' := by
  unfold gGen at h
  unfold gGenX
  cases em : mi ρ S with
  | ok lk S1 ul =>
    rw [em] at h
    simp only [IR.res] at h ⊢
    have : accN (nextX yes lk t c e (wipeG ρ vs)) n [] n 0 S1 = accN (nextN lk t c e (wipeG ρ vs)) n [] n 0 S1 := by
      apply accX_of
      intro eb
      simp only [tupN, eb, unlR_bad] at h
      cases h
    simp only [tupN, this] at h ⊢
    exact h
  | exc c S1 => rw [em] at h; cases h
  | bad => rw [em] at h; cases h
theorem gGenX_tup_exc {n : Nat} (hn : 0 < n) {mi : GI} {vs : List Nat} {ρ ρ' : Ev} {S S1 S2 S3 : Sto} {d : D} {x : Str} (hit : mi ρ S = .ok lk S1 none) (l0 : lk 0 S1 = some (some d)) (ht : t d (wipeG ρ vs) = some ρ') (hc : tstG c ρ' S1 = .ok (.bl true) S2) (he : e ρ' S2 = .exc x S3) (hx : x ∈ yes) :
    gGenX tupN yes n mi t c e vs ρ S = .exc x S3 := by
  obtain ⟨n, rfl⟩ : ∃ m, n = m + 1 := ⟨n - 1, by omega⟩
  simp only [gGenX, hit, IR.res, unlR, tupN, accN, nextX, l0, ht, hc, he, hx, if_true]
end
/-! ### while -/
theorem whN_to {t : GE} {b : GS} (I : Nat → Ev → Sto → Prop) (Q : Ev → Sto → Prop)
    (h : ∀ k ρ S, I k ρ S → (∃ S', t ρ S = .ok (.bl false) S' ∧ Q ρ S') ∨ (∃ S', t ρ S = .ok (.bl true) S' ∧ ∃ ρ2 S2, (b ρ S' = .nx ρ2 S2 ∨ b ρ S' = .ct ρ2 S2) ∧ ∃ j, j < k ∧ I j ρ2 S2)) :
    ∀ n k ρ S, k < n → I k ρ S → ∃ ρ' S', whN t b n ρ S = .nx ρ' S' ∧ Q ρ' S'
  | 0, k, _, _, hn, _ => by omega
  | n + 1, k, ρ, S, hn, x => by
    rcases h k ρ S x with ⟨S', e1, e2⟩ | ⟨S', e1, ρ2, S2, e2, j, hj, y⟩
    · exact ⟨ρ, S', by simp only [whN, e1, Res.thn], e2⟩
    · obtain ⟨ρ', S'', e3, e4⟩ := whN_to I Q h n j ρ2 S2 (by omega) y
      refine ⟨ρ', S'', ?_, e4⟩
      rcases e2 with e2 | e2 <;> simp only [whN, e1, Res.thn, e2, e3]
theorem rng1_itS {a : GE} {ρ : Ev} {S S' : Sto} {j : Int} (ha : a ρ S = .ok (.int j) S') (h1 : -4611686018427387904 ≤ j) (h2 : j < 4611686018427387904) : gSrcA rngOf1 [a] ρ S = .ok (fixL (rngL 0 1 j.toNat)) S' none := by
  simp only [gSrcA, gArgsR, ha, AR.cons, rngOf1, small62_of h1 h2, if_true]
theorem rngL_len {i c : Int} {n : Nat} : (rngL i c n).length = n := by simp [rngL]
theorem rngL_get {i c : Int} {n k : Nat} (h : k < n) : (rngL i c n)[k]? = some (.int (i + (k : Nat) * c)) := by simp [rngL, h]
theorem gAdd_ls {l m : List D} {S : Sto} (h : l.length + m.length ≤ 16777216) : gAdd (.ls l) (.ls m) S = some (.ls (l ++ m), S) := by
  show (if l.length + m.length ≤ sizeLine then some (D.ls (l ++ m), S) else none) = _
  rw [if_pos (by rw [sizeLine_eq]; exact h)]
theorem enum_kt {l : List D} {S : Sto} {a : GE} {ρ : Ev} (ha : a ρ S = .ok (.kt l) S) : gSrcA enumOf [a] ρ S = .ok (enumLk (fixL l)) S none := by
  simp only [gSrcA, gArgsR, ha, AR.cons, enumOf]
theorem src_ls {l : List D} {S : Sto} {a : GE} {ρ : Ev} (ha : a ρ S = .ok (.ls l) S) : gSrc srcOf a ρ S = .ok (fixL l) S none := by simp only [gSrc, ha, srcOf, ulOf]
theorem src_dc {k : Nat} {l : List (D × D)} {S : Sto} {a : GE} {ρ : Ev} (ha : a ρ S = .ok (.dc k l) S) : gSrc srcOf a ρ S = .ok (fixL (l.map (·.1))) S none := by simp only [gSrc, ha, srcOf, ulOf]
theorem src_ref {n : Nat} {l : List D} {S : Sto} {a : GE} {ρ : Ev} (ha : a ρ S = .ok (.ref n) S) (h : S[n]? = some (.lst l)) : gSrc srcOf a ρ S = .ok (liveL n) S none := by simp only [gSrc, ha, srcOf, ulOf, h]
/-! ### comprehensions over a list of things -/
section
theorem lcN_fix {lk : Look} {t : TN} {c : Option GE} {e : GE} {ρ0 : Ev} {n0 : Nat} {l : List D} (I : Nat → Sto → Prop) (hlk : ∀ i S, I i S → lk i S = some l[i]?)
    (h : ∀ i d S, l[i]? = some d → I i S → ∃ ρ S1, t d ρ0 = some ρ ∧ ((tstG c ρ S = .ok (.bl false) S1 ∧ I (i + 1) S1) ∨ (tstG c ρ S = .ok (.bl true) S1 ∧ ∃ y S2 acc, e ρ S1 = .ok y S2 ∧ S2[n0]? = some (.lst acc) ∧ acc.length < sizeLine ∧ I (i + 1) (S2.set n0 (.lst (acc ++ [y])))))) :
    ∀ n i S, l.length < n + i → i ≤ l.length → I i S → ∃ S', lcN lk t c e ρ0 n0 n i S = .ok (.ref n0) S' ∧ I l.length S'
  | 0, i, _, hn, hi, _ => by omega
  | n + 1, i, S, hn, hi, x => by
    simp only [lcN, hlk i S x]
    rcases Nat.lt_or_ge i l.length with hi' | hi'
    · rw [List.getElem?_eq_getElem hi']
      obtain ⟨ρ, S1, e1, h1⟩ := h i _ S (List.getElem?_eq_getElem hi') x
      simp only [e1]
      rcases h1 with ⟨e2, y⟩ | ⟨e2, y, S2, acc, e3, e4, e5, z⟩
      · simp only [e2]
        exact lcN_fix I hlk h n (i + 1) S1 (by omega) hi' y
      · simp only [e2, e3, e4, e5, if_true]
        exact lcN_fix I hlk h n (i + 1) _ (by omega) hi' z
    · rw [List.getElem?_eq_none hi']
      have : i = l.length := by omega
      subst this; exact ⟨S, rfl, x⟩
variable {α : Type} {L : List α} {g f : α → D} {p : α → Bool} {it : GI} {lk : Look} {t : TN} {c : Option GE} {e : GE} {ρ : Ev} {vs : List Nat} {S S1 : Sto} {ul : Option Nat} {n : Nat}
/-- [f a for a in L if p a], nothing changed; the source may be a dict, a list that may be written to -/
theorem gLc_mapU (hit : it ρ S = .ok lk S1 ul) (hU : Lockd S S1 ul) (hlk : ∀ i acc, lk i (S1 ++ [.lst acc]) = some (L.map g)[i]?)
    (h : ∀ a ∈ L, ∀ acc, ∃ ρ', t (g a) (wipeG ρ vs) = some ρ' ∧ tstG c ρ' (S1 ++ [.lst acc]) = .ok (.bl (p a)) (S1 ++ [.lst acc]) ∧ (p a = true → e ρ' (S1 ++ [.lst acc]) = .ok (f a) (S1 ++ [.lst acc])))
    (hn : L.length < n) (hl : L.length ≤ sizeLine) (hf : ∀ a ∈ L, p a = true → fzB S.length 29 (f a) = true) : gLc true n it t c e vs ρ S = .ok (.ls ((L.filter p).map f)) S := by
  have key : lcN lk t c e (wipeG ρ vs) S1.length n 0 (S1 ++ [.lst []]) = .ok (.ref S1.length) (S1 ++ [.lst ((L.filter p).map f)]) := by
    obtain ⟨S', e1, e2⟩ := lcN_fix (lk := lk) (t := t) (c := c) (e := e) (ρ0 := wipeG ρ vs) (n0 := S1.length) (l := L.map g) (fun i T => T = S1 ++ [.lst (((L.take i).filter p).map f)]) (fun i T hT => by subst hT; exact hlk i _) (fun i d T hd hT => by
      subst hT
      rw [List.getElem?_map] at hd
      obtain ⟨a, ha, rfl⟩ := Option.map_eq_some_iff.mp hd
      obtain ⟨ρ', h1, h2, h3⟩ := h a (List.mem_of_getElem? ha) (((L.take i).filter p).map f)
      have ht : L.take (i + 1) = L.take i ++ [a] := by rw [List.take_succ, ha]; rfl
      have hlen : (((L.take i).filter p).map f).length < sizeLine := by
        have := List.length_filter_le p (L.take i)
        have h3 : i < L.length := (List.getElem?_eq_some_iff.mp ha).1
        rw [List.length_take] at this
        rw [List.length_map]
        omega
      cases hp : p a with
      | false =>
        rw [hp] at h2
        exact ⟨ρ', _, h1, .inl ⟨h2, by rw [ht]; simp [hp]⟩⟩
      | true =>
        rw [hp] at h2
        exact ⟨ρ', _, h1, .inr ⟨h2, f a, _, _, h3 hp, get_new, hlen, by rw [set_new, ht]; simp [hp]⟩⟩) n 0 (S1 ++ [.lst []]) (by rw [List.length_map]; omega) (Nat.zero_le _) rfl
    rw [List.length_map] at e2
    rw [e2, List.take_length] at e1
    exact e1
  simp only [gLc, gLc0, hit, IR.res, key, if_true, hU.back]
  rw [hU.len]
  apply tidy_new
  simp only [frz, Nat.lt_irrefl, if_false, get_new]
  rw [omap_id]; rfl
  intro y hy
  obtain ⟨a, ha, e2⟩ := List.mem_map.mp hy
  obtain ⟨h1, h2⟩ := List.mem_filter.mp ha
  subst e2
  exact frz_id (hf a h1 h2)
theorem gLc_map (hit : it ρ S = .ok (fixL (L.map g)) S none)
    (h : ∀ a ∈ L, ∀ acc, ∃ ρ', t (g a) (wipeG ρ vs) = some ρ' ∧ tstG c ρ' (S ++ [.lst acc]) = .ok (.bl (p a)) (S ++ [.lst acc]) ∧ (p a = true → e ρ' (S ++ [.lst acc]) = .ok (f a) (S ++ [.lst acc])))
    (hn : L.length < n) (hl : L.length ≤ sizeLine) (hf : ∀ a ∈ L, p a = true → fzB S.length 29 (f a) = true) : gLc true n it t c e vs ρ S = .ok (.ls ((L.filter p).map f)) S :=
  gLc_mapU hit .none (fun i acc => rfl) h hn hl hf
/-- .. over a list that may be written to, of the store -/
theorem gLc_mapL {k : Nat} (hit : it ρ S = .ok (liveL k) S none) (hk : S[k]? = some (.lst (L.map g)))
    (h : ∀ a ∈ L, ∀ acc, ∃ ρ', t (g a) (wipeG ρ vs) = some ρ' ∧ tstG c ρ' (S ++ [.lst acc]) = .ok (.bl (p a)) (S ++ [.lst acc]) ∧ (p a = true → e ρ' (S ++ [.lst acc]) = .ok (f a) (S ++ [.lst acc])))
    (hn : L.length < n) (hl : L.length ≤ sizeLine) (hf : ∀ a ∈ L, p a = true → fzB S.length 29 (f a) = true) : gLc true n it t c e vs ρ S = .ok (.ls ((L.filter p).map f)) S :=
  gLc_mapU hit .none (fun i acc => by simp only [liveL, get_app hk]) h hn hl hf
theorem filter_all {α : Type} {L : List α} {f : α → D} : (L.filter fun _ => true).map f = L.map f := by rw [List.filter_eq_self.mpr fun _ _ => rfl]
end
end Gp

set_option Elab.async false
set_option linter.all false
set_option maxRecDepth 100000
set_option maxHeartbeats 1000000
/-! Gp48: lambdas that are all refused; objects whose making is refused; the one round of a law -/
namespace Gp
open PySem PySem.Spec L2
theorem llook_mem {x : Str} : ∀ {lt : List (Str × GE)}, x ∈ lt.map (·.1) → ∃ p ∈ lt, llook x lt = some p.2
  | [], h => by simp at h
  | p :: r, h => by
    by_cases e : p.1 = x
    · exact ⟨p, by simp, by simp [llook, e]⟩
    · rw [List.map_cons, List.mem_cons] at h
      obtain ⟨q, hq, e2⟩ := llook_mem (lt := r) (h.resolve_left fun z => e z.symm)
      exact ⟨q, by simp [hq], by simp [llook, e, e2]⟩
theorem badN_ev {lt : List (Str × GE)} {yes : List Str} {ρ : Ev} (P : Sto → Prop) : ∀ {l : List Str} {pre : List Str} {n : Nat} {S : Sto}, P S → (∀ x ∈ l, ∃ m, llook x lt = some m ∧ ∀ T, P T → ∃ c T', m ρ T = .exc c T' ∧ c ∈ yes ∧ P T') → l.length < n →
    ∃ T, badN lt yes ρ (fixL ((pre ++ l).map .lam)) n pre.length S = some T ∧ P T
  | [], pre, n + 1, S, hp, h, hn => ⟨S, by simp [badN, fixL], hp⟩
  | x :: l, pre, n + 1, S, hp, h, hn => by
    obtain ⟨m, e1, h1⟩ := h x (by simp)
    obtain ⟨c, T', e2, hc, hp2⟩ := h1 S hp
    obtain ⟨T, e3, hp3⟩ := badN_ev P (l := l) (pre := pre ++ [x]) (n := n) (S := T') hp2 (fun y hy => h y (by simp [hy])) (by simpa using hn)
    refine ⟨T, ?_, hp3⟩
    rw [List.append_assoc, List.singleton_append, List.length_append] at e3
    have hg : fixL ((pre ++ x :: l).map D.lam) pre.length S = some (some (.lam x)) := by simp [fixL]
    rw [badN, hg]
    simp only [e1, e2, hc, if_true]
    exact e3
theorem gBad_ev {lt : List (Str × GE)} {yes : List Str} {ρ : Ev} {S : Sto} {mi : GI} {l : List Str} {n : Nat} (P : Sto → Prop) (hp : P S) (hit : mi ρ S = .ok (fixL (l.map .lam)) S none) (h : ∀ x ∈ l, ∃ m, llook x lt = some m ∧ ∀ T, P T → ∃ c T', m ρ T = .exc c T' ∧ c ∈ yes ∧ P T') (hn : l.length < n) :
    ∃ T, gBad lt yes n mi ρ S = .ok (.ls []) T ∧ P T := by
  obtain ⟨T, e, hT⟩ := badN_ev P (pre := []) (S := S) hp h hn
  refine ⟨T, ?_, hT⟩
  simp only [gBad, hit, IR.res, unlR]
  rw [List.nil_append, List.length_nil] at e
  rw [e]
/-- a making that is refused: what it had written is forgotten -/
theorem make_excT {C c : Str} {F : Fn} {ds : List D} {T X : Sto} (h : F (.ref T.length :: ds) (T ++ [.obj C []]) = .exc c (T ++ X)) : tidy T (Gp.newObj C F ds T) = .exc c T := by
  have e : Gp.newObj C F ds T = .exc c (T ++ X) := by simp only [Gp.newObj, h, Res.bind]
  rw [e]
  simp [tidy]
theorem make_excF {C c : Str} {F : Fn} {ds : List D} {T T' : Sto} (h : F (.ref T.length :: ds) (T ++ [.obj C []]) = .exc c T') : Gp.newObj C F ds T = .exc c T' := by
  simp only [Gp.newObj, h, Res.bind]
end Gp

set_option Elab.async false
set_option linter.all false
set_option maxRecDepth 100000
set_option maxHeartbeats 4000000
/-! printed by gpgen.py for law_k12_moves_found_in_buttons -/
namespace K12
open PySem PySem.Spec L2 Gp LamX
open PyProof.Rows hiding St
abbrev LW : PySem.W.OpenLaw := PySem.Challenge.rw_gamestack_k12_moves_found_in_buttons
def top (i : Nat) : Stmt := PySem.Challenge.pw_gamestack_k12_moves_found_in_buttons.main.body.getD i (.Pass ⟨0, 0, 0, 0⟩)
abbrev s_pressed_number : Stmt := top 6
abbrev s_Move_init : Stmt := inClass (top 9) 0
abbrev s_Move_comes : Stmt := inClass (top 9) 2
abbrev s_Move_is_done : Stmt := inClass (top 9) 1
abbrev s_Pad_init : Stmt := inClass (top 8) 0
abbrev s_Pad_is_down : Stmt := inClass (top 8) 2
abbrev s_Pad_came_down : Stmt := inClass (top 8) 3
abbrev s_Pad_held : Stmt := inClass (top 8) 4
abbrev s_pressed_names : Stmt := top 7
abbrev s_Pad_note : Stmt := inClass (top 8) 1
abbrev s_law_comes : Stmt := top 16
abbrev s_law_done : Stmt := top 17
abbrev s_law_roll : Stmt := top 13
abbrev s_law_dice : Stmt := top 12
abbrev s_law_rounds : Stmt := top 14
abbrev s_law_told : Stmt := top 15
abbrev s_best_move : Stmt := top 10
abbrev s_law : Stmt := top 18
def d_pressed_number : He.DefD := ⟨("pressed_number", none), "pressed_number", "pressed_number", defArgs s_pressed_number, defBody s_pressed_number, defScope s_pressed_number, [], []⟩
def d_Move_init : He.DefD := ⟨("Move", some "__init__"), "__init__", "Move.__init__", defArgs s_Move_init, defBody s_Move_init, defScope s_Move_init, [], []⟩
def d_Move_comes : He.DefD := ⟨("Move", some "comes"), "comes", "Move.comes", defArgs s_Move_comes, defBody s_Move_comes, defScope s_Move_comes, [], []⟩
def d_Move_is_done : He.DefD := ⟨("Move", some "is_done"), "is_done", "Move.is_done", defArgs s_Move_is_done, defBody s_Move_is_done, defScope s_Move_is_done, [], []⟩
def d_Pad_init : He.DefD := ⟨("Pad", some "__init__"), "__init__", "Pad.__init__", defArgs s_Pad_init, defBody s_Pad_init, defScope s_Pad_init, [], []⟩
def d_Pad_is_down : He.DefD := ⟨("Pad", some "is_down"), "is_down", "Pad.is_down", defArgs s_Pad_is_down, defBody s_Pad_is_down, defScope s_Pad_is_down, [.int (0)], []⟩
def d_Pad_came_down : He.DefD := ⟨("Pad", some "came_down"), "came_down", "Pad.came_down", defArgs s_Pad_came_down, defBody s_Pad_came_down, defScope s_Pad_came_down, [.int (0)], []⟩
def d_Pad_held : He.DefD := ⟨("Pad", some "held"), "held", "Pad.held", defArgs s_Pad_held, defBody s_Pad_held, defScope s_Pad_held, [], []⟩
def d_pressed_names : He.DefD := ⟨("pressed_names", none), "pressed_names", "pressed_names", defArgs s_pressed_names, defBody s_pressed_names, defScope s_pressed_names, [], []⟩
def d_Pad_note : He.DefD := ⟨("Pad", some "note"), "note", "Pad.note", defArgs s_Pad_note, defBody s_Pad_note, defScope s_Pad_note, [], []⟩
def d_law_comes : He.DefD := ⟨("_law_comes", none), "_law_comes", "_law_comes", defArgs s_law_comes, defBody s_law_comes, defScope s_law_comes, [], []⟩
def d_law_done : He.DefD := ⟨("_law_done", none), "_law_done", "_law_done", defArgs s_law_done, defBody s_law_done, defScope s_law_done, [], []⟩
def d_law_roll : He.DefD := ⟨("_law_roll", none), "_law_roll", "_law_roll", defArgs s_law_roll, defBody s_law_roll, defScope s_law_roll, [], []⟩
def d_law_dice : He.DefD := ⟨("_law_dice", none), "_law_dice", "_law_dice", defArgs s_law_dice, defBody s_law_dice, defScope s_law_dice, [], []⟩
def d_law_rounds : He.DefD := ⟨("_law_rounds", none), "_law_rounds", "_law_rounds", defArgs s_law_rounds, defBody s_law_rounds, defScope s_law_rounds, [], []⟩
def d_law_told : He.DefD := ⟨("_law_told", none), "_law_told", "_law_told", defArgs s_law_told, defBody s_law_told, defScope s_law_told, [], []⟩
def d_best_move : He.DefD := ⟨("best_move", none), "best_move", "best_move", defArgs s_best_move, defBody s_best_move, defScope s_best_move, [], []⟩
def d_law : He.DefD := ⟨("law", none), "law", "law", defArgs s_law, defBody s_law, defScope s_law, [], []⟩
def fn : List He.DefD := [d_pressed_number, d_Move_init, d_Move_comes, d_Move_is_done, d_Pad_init, d_Pad_is_down, d_Pad_came_down, d_Pad_held, d_pressed_names, d_Pad_note, d_law_comes, d_law_done, d_law_roll, d_law_dice, d_law_rounds, d_law_told, d_best_move, d_law]
def N_pressed_number : List Str := ["names", "found", "name"]
def P_pressed_number : List Str := ["names"]
theorem nd_pressed_number : N_pressed_number.Nodup := by decide +kernel
theorem sc_pressed_number : FnScope N_pressed_number P_pressed_number (defScope s_pressed_number) := C8.fnScope_by (by decide +kernel)
def N_Move_init : List Str := ["self", "name", "steps", "gap", "step", ".Move_init"]
def P_Move_init : List Str := ["self", "name", "steps", "gap"]
theorem nd_Move_init : N_Move_init.Nodup := by decide +kernel
def NG_Move_init : List Str := ["self", "name", "steps", "gap", "step", "."]
theorem ndG_Move_init : NG_Move_init.Nodup := by decide +kernel
theorem sc_Move_init : FnScope N_Move_init P_Move_init (defScope s_Move_init) := C8.fnScope_by (by decide +kernel)
def N_Move_comes : List Str := ["self", "pad", "step", "ago", "place"]
def P_Move_comes : List Str := ["self", "pad", "step", "ago"]
theorem nd_Move_comes : N_Move_comes.Nodup := by decide +kernel
theorem sc_Move_comes : FnScope N_Move_comes P_Move_comes (defScope s_Move_comes) := C8.fnScope_by (by decide +kernel)
def N_Move_is_done : List Str := ["self", "pad", "spots", "step", "found", "spot", "ago"]
def P_Move_is_done : List Str := ["self", "pad"]
theorem nd_Move_is_done : N_Move_is_done.Nodup := by decide +kernel
theorem sc_Move_is_done : FnScope N_Move_is_done P_Move_is_done (defScope s_Move_is_done) := C8.fnScope_by (by decide +kernel)
def N_Pad_init : List Str := ["self"]
def P_Pad_init : List Str := ["self"]
theorem nd_Pad_init : N_Pad_init.Nodup := by decide +kernel
theorem sc_Pad_init : FnScope N_Pad_init P_Pad_init (defScope s_Pad_init) := C8.fnScope_by (by decide +kernel)
def N_Pad_is_down : List Str := ["self", "name", "ago", "number"]
def P_Pad_is_down : List Str := ["self", "name", "ago"]
theorem nd_Pad_is_down : N_Pad_is_down.Nodup := by decide +kernel
theorem sc_Pad_is_down : FnScope N_Pad_is_down P_Pad_is_down (defScope s_Pad_is_down) := C8.fnScope_by (by decide +kernel)
def N_Pad_came_down : List Str := ["self", "name", "ago", "known"]
def P_Pad_came_down : List Str := ["self", "name", "ago"]
theorem nd_Pad_came_down : N_Pad_came_down.Nodup := by decide +kernel
theorem sc_Pad_came_down : FnScope N_Pad_came_down P_Pad_came_down (defScope s_Pad_came_down) := C8.fnScope_by (by decide +kernel)
def N_Pad_held : List Str := ["self", "name", "many"]
def P_Pad_held : List Str := ["self", "name"]
theorem nd_Pad_held : N_Pad_held.Nodup := by decide +kernel
theorem sc_Pad_held : FnScope N_Pad_held P_Pad_held (defScope s_Pad_held) := C8.fnScope_by (by decide +kernel)
def N_pressed_names : List Str := ["number", "place", "name", ".pressed_names"]
def P_pressed_names : List Str := ["number"]
theorem nd_pressed_names : N_pressed_names.Nodup := by decide +kernel
def NG_pressed_names : List Str := ["number", "place", "name", "."]
theorem ndG_pressed_names : NG_pressed_names.Nodup := by decide +kernel
theorem sc_pressed_names : FnScope N_pressed_names P_pressed_names (defScope s_pressed_names) := C8.fnScope_by (by decide +kernel)
def N_Pad_note : List Str := ["self", "number"]
def P_Pad_note : List Str := ["self", "number"]
theorem nd_Pad_note : N_Pad_note.Nodup := by decide +kernel
theorem sc_Pad_note : FnScope N_Pad_note P_Pad_note (defScope s_Pad_note) := C8.fnScope_by (by decide +kernel)
def N_law_comes : List Str := ["rows", "whole", "place", "step", "names", "one"]
def P_law_comes : List Str := ["rows", "whole", "place", "step"]
theorem nd_law_comes : N_law_comes.Nodup := by decide +kernel
theorem sc_law_comes : FnScope N_law_comes P_law_comes (defScope s_law_comes) := C8.fnScope_by (by decide +kernel)
def N_law_done : List Str := ["rows", "whole", "steps", "gap", "end", "place"]
def P_law_done : List Str := ["rows", "whole", "steps", "gap", "end"]
theorem nd_law_done : N_law_done.Nodup := by decide +kernel
theorem sc_law_done : FnScope N_law_done P_law_done (defScope s_law_done) := C8.fnScope_by (by decide +kernel)
def N_law_roll : List Str := ["dice", "many", "found"]
def P_law_roll : List Str := ["dice", "many"]
theorem nd_law_roll : N_law_roll.Nodup := by decide +kernel
theorem sc_law_roll : FnScope N_law_roll P_law_roll (defScope s_law_roll) := C8.fnScope_by (by decide +kernel)
def N_law_dice : List Str := ["cell"]
def P_law_dice : List Str := ["cell"]
theorem nd_law_dice : N_law_dice.Nodup := by decide +kernel
theorem sc_law_dice : FnScope N_law_dice P_law_dice (defScope s_law_dice) := C8.fnScope_by (by decide +kernel)
def N_law_rounds : List Str := ["script", "most", "cells", "cell"]
def P_law_rounds : List Str := ["script", "most"]
theorem nd_law_rounds : N_law_rounds.Nodup := by decide +kernel
theorem sc_law_rounds : FnScope N_law_rounds P_law_rounds (defScope s_law_rounds) := C8.fnScope_by (by decide +kernel)
def N_law_told : List Str := ["what"]
def P_law_told : List Str := ["what"]
theorem nd_law_told : N_law_told.Nodup := by decide +kernel
theorem sc_law_told : FnScope N_law_told P_law_told (defScope s_law_told) := C8.fnScope_by (by decide +kernel)
def N_best_move : List Str := ["moves", "pad", "best", "move"]
def P_best_move : List Str := ["moves", "pad"]
theorem nd_best_move : N_best_move.Nodup := by decide +kernel
theorem sc_best_move : FnScope N_best_move P_best_move (defScope s_best_move) := C8.fnScope_by (by decide +kernel)
def N_law : List Str := ["script", "dice", "names", "moves", "own", "k", "steps", "gap", "pad", "rows", "frame", "row", "number", "whole", "done", "most", "name", "ago", "down", "before", "known", "held", "bad", "move", "one", "i", "j", "f", ".law"]
def P_law : List Str := ["script"]
theorem nd_law : N_law.Nodup := by decide +kernel
theorem sc_law : FnScope N_law P_law (defScope s_law) := C8.fnScope_by (by decide +kernel)
def k_BUTTONS : D := .kt [.str "up", .str "down", .str "left", .str "right", .str "hit", .str "jump", .str "block"]
def m_pressed_number : GS :=
  sSeq (sAsg (gC (.int 0)) (tName 1))
    (sSeq (sFor 1000000 (gSrc srcOf (gVar 0)) (tName 2)
    (sSeq (sIf (gBin (gIn false) (gVar 2) (gC k_BUTTONS))
    (sRaise "PlayError")
    (sNil))
    (sAug 1 gIOr (gBin gShl (gC (.int 1)) (gMb "tuple" pIndexT (gC k_BUTTONS) [gVar 2])))))
    (sRet (gVar 1)))
def F_pressed_number : Fn := fnG true 1 3 m_pressed_number
def m_Move_init : GS :=
  sSeq (sIf (gOr (gBin gEq (gVar 2) (gTup [])) (gOr (gNot (gChain gLt gLe (gC (.int 0)) (gVar 3) (gC (.int 60)))) (gGen (fun f n S => anyN f true n n 0 S) 1000000 (gSrc srcOf (gVar 2)) (nName 4) none (gBin gEq (gVar 4) (gTup [])) [4])))
    (sRaise "PlayError")
    (sNil))
    (sSeq (sAttr ["Move"] "name" (gVar 1) (gVar 0))
    (sSeq (sAttr ["Move"] "steps" (gGenX tupN ["PlayError"] 1000000 (gSrc srcOf (gVar 2)) (nName 4) none (gCall F_pressed_number [gVar 4] []) [4]) (gVar 0))
    (sAttr ["Move"] "gap" (gVar 3) (gVar 0))))
def F_Move_init : Fn := fnG false 4 6 m_Move_init
def m_Move_comes : GS :=
  sSeq (sAsg (gBin gSub (gBin gSub (gCallP pLen [gUn (gAttr ["Pad"] "rows") (gVar 1)]) (gC (.int 1))) (gVar 3)) (tName 4))
    (sSeq (sIf (gOr (gBin gLt (gVar 4) (gC (.int 0))) (gBin gNe (gBin gBand (gBin gIx (gUn (gAttr ["Pad"] "rows") (gVar 1)) (gVar 4)) (gVar 2)) (gVar 2)))
    (sRet (gC (.bl false)))
    (sNil))
    (sRet (gIf (gBin gEq (gVar 4) (gC (.int 0))) (gBin gEq (gUn (gAttr ["Pad"] "frames") (gVar 1)) (gCallP pLen [gUn (gAttr ["Pad"] "rows") (gVar 1)])) (gBin gNe (gBin gBand (gBin gIx (gUn (gAttr ["Pad"] "rows") (gVar 1)) (gBin gSub (gVar 4) (gC (.int 1)))) (gVar 2)) (gVar 2)))))
def F_Move_comes : Fn := fnG true 4 5 m_Move_comes
def m_Move_is_done : GS :=
  sSeq (sAsg (gIf (gMeth [("Move", [], F_Move_comes)] "comes" (gVar 0) [gVar 1, gBin gIx (gUn (gAttr ["Move"] "steps") (gVar 0)) (gUn gNeg (gC (.int 1))), gC (.int 0)]) (gDisp true [(gC (.int 0), gC (.bl true))]) (gDict0 true 0)) (tName 2))
    (sSeq (sFor 1000000 (gSrc srcOf (gRevT (gSl false (gUn (gAttr ["Move"] "steps") (gVar 0)) none (some (gUn gNeg (gC (.int 1))))))) (tName 3)
    (sSeq (sAsg (gDict0 false 0) (tName 4))
    (sSeq (sFor 1000000 (gSrc srcOf (gVar 2)) (tName 5)
    (sFor 1000000 (gSrcA rngOf2 [gBin gAdd (gVar 5) (gC (.int 1)), gBin gAdd (gBin gAdd (gVar 5) (gUn (gAttr ["Move"] "gap") (gVar 0))) (gC (.int 1))]) (tName 6)
    (sIf (gMeth [("Move", [], F_Move_comes)] "comes" (gVar 0) [gVar 1, gVar 3, gVar 6])
    (sAsg (gC (.bl true)) (tSub pSet (gVar 4) (gVar 6)))
    (sNil))))
    (sAsg (gVar 4) (tName 2)))))
    (sRet (gBin gNeD (gVar 2) (gDict0 true 0))))
def F_Move_is_done : Fn := fnG true 2 7 m_Move_is_done
def m_Pad_init : GS :=
  sSeq (sAttr ["Pad"] "rows" (gLst false []) (gVar 0))
    (sAttr ["Pad"] "frames" (gC (.int 0)) (gVar 0))
def F_Pad_init : Fn := fnG false 1 1 m_Pad_init
def m_Pad_is_down : GS :=
  sSeq (sAsg (gCall F_pressed_number [gLst false [gVar 1]] []) (tName 3))
    (sSeq (sIf (gBin gLt (gVar 2) (gC (.int 0)))
    (sRaise "PlayError")
    (sNil))
    (sRet (gAnd (gBin gLt (gVar 2) (gCallP pLen [gUn (gAttr ["Pad"] "rows") (gVar 0)])) (gBin gNe (gBin gBand (gBin gIx (gUn (gAttr ["Pad"] "rows") (gVar 0)) (gBin gSub (gBin gSub (gCallP pLen [gUn (gAttr ["Pad"] "rows") (gVar 0)]) (gC (.int 1))) (gVar 2))) (gVar 3)) (gC (.int 0))))))
def F_Pad_is_down : Fn := fnG true 3 4 m_Pad_is_down
def m_Pad_came_down : GS :=
  sSeq (sAsg (gOr (gBin gLt (gBin gAdd (gVar 2) (gC (.int 1))) (gCallP pLen [gUn (gAttr ["Pad"] "rows") (gVar 0)])) (gBin gEq (gUn (gAttr ["Pad"] "frames") (gVar 0)) (gCallP pLen [gUn (gAttr ["Pad"] "rows") (gVar 0)]))) (tName 3))
    (sRet (gAnd (gMeth [("Pad", [], F_Pad_is_down)] "is_down" (gVar 0) [gVar 1, gVar 2]) (gAnd (gVar 3) (gNot (gMeth [("Pad", [], F_Pad_is_down)] "is_down" (gVar 0) [gVar 1, gBin gAdd (gVar 2) (gC (.int 1))])))))
def F_Pad_came_down : Fn := fnG true 3 4 m_Pad_came_down
def m_Pad_held : GS :=
  sSeq (sAsg (gC (.int 0)) (tName 2))
    (sSeq (whN (gAnd (gBin gLt (gVar 2) (gCallP pLen [gUn (gAttr ["Pad"] "rows") (gVar 0)])) (gMeth [("Pad", [], F_Pad_is_down)] "is_down" (gVar 0) [gVar 1, gVar 2]))
    (sAug 2 gIAdd (gC (.int 1))) 1000000)
    (sRet (gVar 2)))
def F_Pad_held : Fn := fnG true 2 3 m_Pad_held
def m_pressed_names : GS :=
  sSeq (sIf (gNot (gChain gLe gLt (gC (.int 0)) (gVar 0) (gBin gShl (gC (.int 1)) (gCallP pLen [gC k_BUTTONS]))))
    (sRaise "PlayError")
    (sNil))
    (sRet (gGen tupN 1000000 (gSrcA enumOf [gC k_BUTTONS]) (nTup 2 (nCons (nName 1) (nCons (nName 2) (nNil)))) (some (gBin gEq (gBin gBand (gBin gShr (gVar 0) (gVar 1)) (gC (.int 1))) (gC (.int 1)))) (gVar 2) [1, 2]))
def F_pressed_names : Fn := fnG true 1 4 m_pressed_names
def m_Pad_note : GS :=
  sSeq (sExpr (gCall F_pressed_names [gVar 1] []))
    (sSeq (sAttr ["Pad"] "rows" (gSl false (gBin gAdd (gUn (gAttr ["Pad"] "rows") (gVar 0)) (gLst false [gVar 1])) (some (gUn gNeg (gC (.int 60)))) none) (gVar 0))
    (sAugA ["Pad"] "frames" gIAdd (gVar 0) (gC (.int 1))))
def F_Pad_note : Fn := fnG false 2 2 m_Pad_note
def m_law_comes : GS :=
  sSeq (sAsg (gBin gIx (gVar 0) (gVar 2)) (tName 4))
    (sSeq (sIf (gBin gNe (gLc true 1000000 (gSrc srcOf (gVar 3)) (nName 5) (some (gBin (gIn false) (gVar 5) (gVar 4))) (gVar 5) [5]) (gLst false []))
    (sRet (gC (.bl false)))
    (sNil))
    (sRet (gIf (gBin gEq (gVar 2) (gC (.int 0))) (gVar 1) (gBin gNe (gLc true 1000000 (gSrc srcOf (gVar 3)) (nName 5) (some (gBin (gIn false) (gVar 5) (gBin gIx (gVar 0) (gBin gSub (gVar 2) (gC (.int 1)))))) (gVar 5) [5]) (gLst false [])))))
def F_law_comes : Fn := fnG true 4 6 m_law_comes
def m_law_done (G_ : Fn) : GS :=
  sSeq (sIf (gOr (gBin gLt (gVar 4) (gC (.int 0))) (gNot (gCall F_law_comes [gVar 0, gVar 1, gVar 4, gBin gIx (gVar 2) (gBin gSub (gCallP pLen [gVar 2]) (gC (.int 1)))] [])))
    (sRet (gC (.bl false)))
    (sNil))
    (sRet (gOr (gBin gEq (gCallP pLen [gVar 2]) (gC (.int 1))) (gBin gNe (gLc true 1000000 (gSrcA rngOf2 [gCallP pMax [gC (.int 0), gBin gSub (gVar 4) (gVar 3)], gVar 4]) (nName 5) (some (gCall G_ [gVar 0, gVar 1, gSl false (gVar 2) none (some (gBin gSub (gCallP pLen [gVar 2]) (gC (.int 1)))), gVar 3, gVar 5] [])) (gVar 5) [5]) (gLst false []))))
def b_law_done (G_ : Fn) : Fn := fnG true 5 6 (m_law_done G_)
def F_law_done : Fn := recN b_law_done 6
def m_law_roll (G_ : Fn) : GS :=
  sSeq (sIf (gOr (gBin gEq (gBin gIx (gVar 0) (gC (.int 2))) (gC (.int 2))) (gAnd (gBin gEq (gBin gIx (gVar 0) (gC (.int 2))) (gC (.int 1))) (gBin gGt (gBin gIx (gVar 0) (gC (.int 0))) (gC (.int 0)))))
    (sSeq (sAsg (gBin gMod (gCallP pInt [gBin gIx (gVar 0) (gC (.int 0))]) (gVar 1)) (tName 2))
    (sSeq (sAsg (gBin gDiv (gBin gIx (gVar 0) (gC (.int 0))) (gVar 1)) (tSub pSet (gVar 0) (gC (.int 0))))
    (sRet (gVar 2))))
    (sNil))
    (sSeq (sAsg (gC (.int 0)) (tSub pSet (gVar 0) (gC (.int 2))))
    (sSeq (sIf (gBin gGt (gVar 1) (gC (.int 100000000)))
    (sRet (gBin gMod (gCallP pInt [gBin gAdd (gBin gMul (gCall G_ [gVar 0, gBin gAdd (gBin gDiv (gVar 1) (gC (.int 100000000))) (gC (.int 1))] []) (gC (.int 100000000))) (gCall G_ [gVar 0, gC (.int 100000000)] [])]) (gVar 1)))
    (sNil))
    (sSeq (sAsg (gBin gMod (gCallP pInt [gBin gAdd (gBin gAdd (gBin gMul (gBin gIx (gVar 0) (gC (.int 0))) (gC (.int 48271))) (gBin gMul (gBin gIx (gVar 0) (gC (.int 1))) (gC (.int 69621)))) (gC (.int 11))]) (gC (.int 2147483647))) (tSub pSet (gVar 0) (gC (.int 0))))
    (sSeq (sAsg (gBin gAdd (gBin gIx (gVar 0) (gC (.int 1))) (gC (.int 1))) (tSub pSet (gVar 0) (gC (.int 1))))
    (sRet (gBin gMod (gCallP pInt [gBin gDiv (gBin gIx (gVar 0) (gC (.int 0))) (gC (.int 7))]) (gVar 1)))))))
def b_law_roll (G_ : Fn) : Fn := fnG true 2 3 (m_law_roll G_)
def F_law_roll : Fn := recN b_law_roll 4
def m_law_dice : GS :=
  sSeq (sIf (gChain gLt gLt (gBin gSub (gC (.int 0)) (gC (.int 10))) (gVar 0) (gC (.int 10)))
    (sRet (gLst true [gCallP pAbs [gVar 0], gC (.int 0), gC (.int 2)]))
    (sNil))
    (sRet (gLst true [gVar 0, gBin gAdd (gC (.int 1)) (gBin gMod (gCallP pInt [gVar 0]) (gC (.int 1009))), gCallP pInt [gBin gGe (gVar 0) (gBin gPow (gC (.int 10)) (gC (.int 18)))]]))
def F_law_dice : Fn := fnG false 1 1 m_law_dice
def m_law_rounds : GS :=
  sSeq (sAsg (gSl false (gVar 0) none (some (gVar 1))) (tName 2))
    (sSeq (sIf (gBin gEq (gVar 2) (gLst false []))
    (sAsg (gLst false [gC (.int 0)]) (tName 2))
    (sNil))
    (sRet (gLc false 1000000 (gSrc srcOf (gVar 2)) (nName 3) none (gCall F_law_dice [gVar 3] []) [3])))
def F_law_rounds : Fn := fnG false 2 4 m_law_rounds
def m_best_move : GS :=
  sSeq (sAsg (gC .non) (tName 2))
    (sSeq (sFor 1000000 (gSrc srcOf (gVar 0)) (tName 3)
    (sIf (gAnd (gOr (gBin (gIs true) (gVar 2) (gC .non)) (gBin gGt (gCallP pLen [gUn (gAttr ["Move"] "steps") (gVar 3)]) (gCallP pLen [gUn (gAttr ["Move"] "steps") (gVar 2)]))) (gMeth [("Move", [], F_Move_is_done)] "is_done" (gVar 3) [gVar 1]))
    (sAsg (gVar 3) (tName 2))
    (sNil)))
    (sRet (gIf (gBin (gIs true) (gVar 2) (gC .non)) (gC .non) (gUn (gAttr ["Move"] "name") (gVar 2)))))
def F_best_move : Fn := fnG true 2 4 m_best_move
def m_law : GS :=
  sSeq (sFor 1000000 (gSrc srcOf (gCall F_law_rounds [gVar 0, gC (.int 1)] [])) (tName 1)
    (sSeq (sAsg (gTup [gLst false [gC (.str "up"), gC (.str "down"), gC (.str "left"), gC (.str "right"), gC (.str "hit"), gC (.str "jump"), gC (.str "block")], gLst true [], gLst true []]) (tTupl 3 (tsCons (tName 2) (tsCons (tName 3) (tsCons (tName 4) (tsNil))))))
    (sSeq (sFor 1000000 (gSrcA rngOf1 [gBin gAdd (gC (.int 1)) (gCall F_law_roll [gVar 1, gC (.int 4)] [])]) (tName 5)
    (sSeq (sAsg (gCallP pTuple [gLc true 1000000 (gSrcA rngOf1 [gBin gAdd (gC (.int 1)) (gCall F_law_roll [gVar 1, gC (.int 4)] [])]) (nName 25) none (gCallP pTuple [gLc true 1000000 (gSrcA rngOf1 [gBin gAdd (gC (.int 1)) (gCall F_law_roll [gVar 1, gC (.int 2)] [])]) (nName 26) none (gBin gIx (gVar 2) (gBin gAdd (gCall F_law_roll [gVar 1, gC (.int 3)] []) (gC (.int 2)))) [26]]) [25]]) (tName 6))
    (sSeq (sAsg (gBin gAdd (gC (.int 1)) (gCall F_law_roll [gVar 1, gC (.int 6)] [])) (tName 7))
    (sSeq (sExpr (gMb "list" pAppend (gVar 3) [gMake true "Move" F_Move_init [gBin gAdd (gC (.str "m")) (gCallP pStr [gVar 5]), gVar 6, gVar 7] []]))
    (sExpr (gMb "list" pAppend (gVar 4) [gTup [gBin gAdd (gC (.str "m")) (gCallP pStr [gVar 5]), gVar 6, gVar 7]]))))))
    (sSeq (sAsg (gTup [gMake false "Pad" F_Pad_init [] [], gLst false []]) (tTupl 2 (tsCons (tName 8) (tsCons (tName 9) (tsNil)))))
    (sFor 1000000 (gSrcA rngOf1 [gCall F_law_roll [gVar 1, gC (.int 91)] []]) (tName 10)
    (sSeq (sAsg (gLc true 1000000 (gSrc srcOf (gVar 2)) (nName 16) (some (gBin gEq (gCall F_law_roll [gVar 1, gC (.int 3)] []) (gC (.int 0)))) (gVar 16) [16]) (tName 11))
    (sSeq (sAsg (gCallP pSum [gLc true 1000000 (gSrc srcOf (gVar 11)) (nName 16) none (gBin gShl (gC (.int 1)) (gMb "list" pIndexL (gVar 2) [gVar 16])) [16]]) (tName 12))
    (sSeq (sIf (gOr (gBin gNe (gCall F_pressed_number [gVar 11] []) (gVar 12)) (gBin gNe (gCallP (pList false) [gCall F_pressed_names [gVar 12] []]) (gVar 11)))
    (sRet (gC (.bl false)))
    (sNil))
    (sSeq (sExpr (gMeth [("Pad", [], F_Pad_note)] "note" (gVar 8) [gVar 12]))
    (sSeq (sAsg (gSl false (gBin gAdd (gVar 9) (gLst false [gVar 11])) (some (gUn gNeg (gC (.int 60)))) none) (tName 9))
    (sSeq (sAsg (gBin gLe (gUn (gAttr ["Pad"] "frames") (gVar 8)) (gC (.int 60))) (tName 13))
    (sSeq (sAsg (gLc true 1000000 (gSrc srcOf (gVar 4)) (nName 24) (some (gCall F_law_done [gVar 9, gVar 13, gBin gIx (gVar 24) (gC (.int 1)), gBin gIx (gVar 24) (gC (.int 2)), gBin gSub (gCallP pLen [gVar 9]) (gC (.int 1))] [])) (gVar 24) [24]) (tName 14))
    (sSeq (sIf (gBin gNe (gLc true 1000000 (gSrc srcOf (gVar 3)) (nName 23) (some (gMeth [("Move", [], F_Move_is_done)] "is_done" (gVar 23) [gVar 8])) (gUn (gAttr ["Move"] "name") (gVar 23)) [23]) (gLc true 1000000 (gSrc srcOf (gVar 14)) (nName 24) none (gBin gIx (gVar 24) (gC (.int 0))) [24]))
    (sRet (gC (.bl false)))
    (sNil))
    (sSeq (sAsg (gCallP pMax [gBin gAdd (gLc true 1000000 (gSrc srcOf (gVar 14)) (nName 24) none (gCallP pLen [gBin gIx (gVar 24) (gC (.int 1))]) [24]) (gLst false [gC (.int 0)])]) (tName 15))
    (sSeq (sIf (gBin gNe (gCall F_best_move [gVar 3, gVar 8] []) (gBin gIx (gBin gAdd (gLc true 1000000 (gSrc srcOf (gVar 14)) (nName 24) (some (gBin gEq (gCallP pLen [gBin gIx (gVar 24) (gC (.int 1))]) (gVar 15))) (gBin gIx (gVar 24) (gC (.int 0))) [24]) (gLst false [gC .non])) (gC (.int 0))))
    (sRet (gC (.bl false)))
    (sNil))
    (sSeq (sPar [16, 17] [gBin gIx (gVar 2) (gCall F_law_roll [gVar 1, gC (.int 7)] []), gCall F_law_roll [gVar 1, gC (.int 70)] []])
    (sSeq (sAsg (gAnd (gBin gLt (gVar 17) (gCallP pLen [gVar 9])) (gBin (gIn true) (gVar 16) (gBin gIx (gVar 9) (gBin gSub (gBin gSub (gCallP pLen [gVar 9]) (gC (.int 1))) (gVar 17))))) (tName 18))
    (sSeq (sAsg (gAnd (gBin gLt (gBin gAdd (gVar 17) (gC (.int 1))) (gCallP pLen [gVar 9])) (gBin (gIn true) (gVar 16) (gBin gIx (gVar 9) (gBin gSub (gBin gSub (gCallP pLen [gVar 9]) (gC (.int 2))) (gVar 17))))) (tName 19))
    (sSeq (sAsg (gOr (gBin gLt (gBin gAdd (gVar 17) (gC (.int 1))) (gCallP pLen [gVar 9])) (gVar 13)) (tName 20))
    (sSeq (sAsg (gC (.int 0)) (tName 21))
    (sSeq (whN (gAnd (gBin gLt (gVar 21) (gCallP pLen [gVar 9])) (gBin (gIn true) (gVar 16) (gBin gIx (gVar 9) (gBin gSub (gBin gSub (gCallP pLen [gVar 9]) (gC (.int 1))) (gVar 21)))))
    (sAsg (gBin gAdd (gVar 21) (gC (.int 1))) (tName 21)) 1000000)
    (sIf (gOr (gBin gNe (gMeth [("Pad", [], F_Pad_is_down)] "is_down" (gVar 8) [gVar 16, gVar 17]) (gVar 18)) (gOr (gBin gNe (gMeth [("Pad", [], F_Pad_came_down)] "came_down" (gVar 8) [gVar 16, gVar 17]) (gAnd (gVar 18) (gAnd (gVar 20) (gNot (gVar 19))))) (gOr (gBin gNe (gMeth [("Pad", [], F_Pad_held)] "held" (gVar 8) [gVar 16]) (gVar 21)) (gBin gNe (gUn (gAttr ["Pad"] "frames") (gVar 8)) (gBin gAdd (gVar 10) (gC (.int 1)))))))
    (sRet (gC (.bl false)))
    (sNil)))))))))))))))))))))))
    (sSeq (sAsg (gLst false [gC (.lam "L0"), gC (.lam "L1"), gC (.lam "L2")]) (tName 22))
    (sSeq (sAsg (gBin gAdd (gVar 22) (gLst false [gC (.lam "L3"), gC (.lam "L4"), gC (.lam "L5")])) (tName 22))
    (sSeq (sAsg (gBin gAdd (gVar 22) (gLst false [gC (.lam "L6"), gC (.lam "L7"), gC (.lam "L8")])) (tName 22))
    (sSeq (sAsg (gBin gAdd (gVar 22) (gLst false [gC (.lam "L9"), gC (.lam "L10")])) (tName 22))
    (sSeq (sIf (gOr (gBin gNe (gBad [("L0", gCall F_pressed_number [gLst false [gC (.str "fly")]] []),
    ("L1", gCall F_pressed_names [gC (.int 128)] []),
    ("L2", gCall F_pressed_names [gUn gNeg (gC (.int 1))] []),
    ("L3", gMake true "Move" F_Move_init [gC (.str "m"), gTup [], gC (.int 1)] []),
    ("L4", gMake true "Move" F_Move_init [gC (.str "m"), gTup [gTup [gC (.str "up")]], gC (.int 0)] []),
    ("L5", gMake true "Move" F_Move_init [gC (.str "m"), gTup [gTup [gC (.str "up")], gTup []], gC (.int 1)] []),
    ("L6", gMake true "Move" F_Move_init [gC (.str "m"), gTup [gTup [gC (.str "fly")]], gC (.int 1)] []),
    ("L7", gMake true "Move" F_Move_init [gC (.str "m"), gTup [gTup [gC (.str "up")]], gC (.int 61)] []),
    ("L8", gMeth [("Pad", [], F_Pad_note)] "note" (gMake false "Pad" F_Pad_init [] []) [gC (.int 128)]),
    ("L9", gMeth [("Pad", [.int (0)], F_Pad_is_down)] "is_down" (gMake false "Pad" F_Pad_init [] []) [gC (.str "fly")]),
    ("L10", gMeth [("Pad", [], F_Pad_is_down)] "is_down" (gMake false "Pad" F_Pad_init [] []) [gC (.str "up"), gUn gNeg (gC (.int 1))])] ["PlayError"] 1000000 (gSrc srcOf (gVar 22))) (gLst false [])) (gBin gNe (gTup [gCallP (pList false) [gC k_BUTTONS], gC (.int 60)]) (gTup [gLst false [gC (.str "up"), gC (.str "down"), gC (.str "left"), gC (.str "right"), gC (.str "hit"), gC (.str "jump"), gC (.str "block")], gC (.int 60)])))
    (sRet (gC (.bl false)))
    (sNil))
    (sSeq (sAsg (gTup [gMake false "Pad" F_Pad_init [] [], gMake true "Move" F_Move_init [gC (.str "m"), gTup [gTup [gC (.str "down")], gTup [gC (.str "right")], gTup [gC (.str "hit")]], gC (.int 2)] []]) (tTupl 2 (tsCons (tName 8) (tsCons (tName 23) (tsNil)))))
    (sSeq (sFor 1000000 (gSrc srcOf (gLst false [gLst false [gC (.str "down")], gLst false [gC (.str "down"), gC (.str "right")], gLst false [gC (.str "right"), gC (.str "hit")]])) (tName 11)
    (sExpr (gMeth [("Pad", [], F_Pad_note)] "note" (gVar 8) [gCall F_pressed_number [gVar 11] []])))
    (sRet (gAnd (gMeth [("Move", [], F_Move_is_done)] "is_done" (gVar 23) [gVar 8]) (gAnd (gMeth [("Move", [], F_Move_comes)] "comes" (gVar 23) [gVar 8, gC (.int 16), gC (.int 0)]) (gAnd (gNot (gMeth [("Move", [], F_Move_comes)] "comes" (gVar 23) [gVar 8, gC (.int 8), gC (.int 0)])) (gBin (gIs true) (gCall F_best_move [gLst false [], gVar 8] []) (gC .non)))))))))))))
def F_law : Fn := fnG false 1 29 m_law
def fa : List He.Fa := [.glo "law",
  .glo "PlayError",
  .exc "PlayError",
  .free "any",
  .int "KEPT" (60),
  .glo "Move",
  .cls "Move",
  .noat "Move" "name",
  .free "tuple",
  .noat "Move" "steps",
  .noat "Move" "gap",
  .glo "Pad",
  .cls "Pad",
  .noat "Pad" "rows",
  .free "len",
  .noat "Pad" "frames",
  .free "range",
  .free "enumerate",
  .free "max",
  .free "int",
  .free "abs",
  .free "str",
  .free "sum",
  .free "list",
  .exm "PlayError" "PlayError" true,
  .glo "pressed_number",
  .meth "Move" "comes",
  .meth "Pad" "is_down",
  .glo "pressed_names",
  .glo "_law_comes",
  .glo "_law_dice",
  .meth "Move" "is_done",
  .glo "_law_rounds",
  .glo "_law_roll",
  .mkr "Move",
  .mkr "Pad",
  .meth "Pad" "note",
  .glo "_law_done",
  .glo "best_move",
  .meth "Pad" "held",
  .meth "Pad" "came_down",
  .glo "_law_told"]
theorem fm {f : He.Fa} (i : Nat) (h : fa[i]? = some f) : f ∈ fa := List.mem_of_getElem? h
theorem dm {d : He.DefD} (i : Nat) (h : fn[i]? = some d) : d ∈ fn := List.mem_of_getElem? h
/-- the code objects of the defs with lambdas or generator expressions, their tables -/
def codsOf (K : PySem.W.Frag) : List (Str × Str × Addr × Addr) := [(".Move_init", "Move.__init__.<locals>.", (He.cT K ("Move", some "__init__")).1, (He.cT K ("Move", some "__init__")).2), (".pressed_names", "pressed_names.<locals>.", (He.cT K ("pressed_names", none)).1, (He.cT K ("pressed_names", none)).2), (".law", "law.<locals>.", (He.cT K ("law", none)).1, (He.cT K ("law", none)).2)]
def kd_Move_init : Nat → Nat → Bool := fun _ _ => false
def kd_pressed_names : Nat → Nat → Bool := fun _ _ => false
def kd_law : Nat → Nat → Bool := fun _ _ => true
def tabsOf (K : PySem.W.Frag) : TbT := [((He.cT K ("Move", some "__init__")).2, "Move.__init__.<locals>.", kd_Move_init), ((He.cT K ("pressed_names", none)).2, "pressed_names.<locals>.", kd_pressed_names), ((He.cT K ("law", none)).2, "law.<locals>.", kd_law)]
def marks : List Str := [".Move_init", ".pressed_names", ".law"]
def tf : List He.Defn := [("Move", some "__init__"), ("pressed_names", none), ("law", none)]
theorem tabs_cT {K : PySem.W.Frag} {p : Addr × Str × (Nat → Nat → Bool)} (h : p ∈ tabsOf K) : ∃ q ∈ tf, p.1 = (He.cT K q).2 := by
  simp only [tabsOf, List.mem_cons, List.not_mem_nil, or_false] at h
  rcases h with rfl | rfl | rfl
  · exact ⟨_, List.mem_of_getElem? (i := 0) rfl, rfl⟩
  · exact ⟨_, List.mem_of_getElem? (i := 1) rfl, rfl⟩
  · exact ⟨_, List.mem_of_getElem? (i := 2) rfl, rfl⟩
theorem cods_cT {K : PySem.W.Frag} {e : Str × Str × Addr × Addr} (h : e ∈ codsOf K) : (e.2.2.1, e.2.2.2) ∈ tf.map (He.cT K) := by
  simp only [codsOf, List.mem_cons, List.not_mem_nil, or_false] at h
  rcases h with rfl | rfl | rfl
  · exact List.mem_of_getElem? (i := 0) rfl
  · exact List.mem_of_getElem? (i := 1) rfl
  · exact List.mem_of_getElem? (i := 2) rfl
theorem cods_mk {K : PySem.W.Frag} {e : Str × Str × Addr × Addr} (h : e ∈ codsOf K) : e.1 ∈ marks := by
  simp only [codsOf, List.mem_cons, List.not_mem_nil, or_false] at h
  rcases h with rfl | rfl | rfl
  · exact List.mem_of_getElem? (i := 0) rfl
  · exact List.mem_of_getElem? (i := 1) rfl
  · exact List.mem_of_getElem? (i := 2) rfl
def csts : List (Str × D) := [("BUTTONS", k_BUTTONS)]
def nsts : List Str := ["PlayError"]
def exB (K : PySem.W.Frag) : Bool := (cstsB csts K && decide ((tabsOf K).map (·.1)).Nodup) && nstB nsts K
def ltab : List (Str × Expr) := [("L0", lstE (asgV ((defBody s_law).getD 1 (.Pass ⟨0, 0, 0, 0⟩))) 0), ("L1", lstE (asgV ((defBody s_law).getD 1 (.Pass ⟨0, 0, 0, 0⟩))) 1), ("L2", lstE (asgV ((defBody s_law).getD 1 (.Pass ⟨0, 0, 0, 0⟩))) 2), ("L3", lstE (asgV ((defBody s_law).getD 2 (.Pass ⟨0, 0, 0, 0⟩))) 0), ("L4", lstE (asgV ((defBody s_law).getD 2 (.Pass ⟨0, 0, 0, 0⟩))) 1), ("L5", lstE (asgV ((defBody s_law).getD 2 (.Pass ⟨0, 0, 0, 0⟩))) 2), ("L6", lstE (asgV ((defBody s_law).getD 3 (.Pass ⟨0, 0, 0, 0⟩))) 0), ("L7", lstE (asgV ((defBody s_law).getD 3 (.Pass ⟨0, 0, 0, 0⟩))) 1), ("L8", lstE (asgV ((defBody s_law).getD 3 (.Pass ⟨0, 0, 0, 0⟩))) 2), ("L9", lstE (asgV ((defBody s_law).getD 4 (.Pass ⟨0, 0, 0, 0⟩))) 0), ("L10", lstE (asgV ((defBody s_law).getD 4 (.Pass ⟨0, 0, 0, 0⟩))) 1)]
/-- what is known of the tables, the constants -/
structure Tbs (g : G) : Prop where
  cods : g.cods = codsOf g.K
  tb : TbOk g (tabsOf g.K)
  at_ : ∀ e ∈ g.cods, TabB g.base g.mg e.2.2.1 e.2.2.2
  nd : ((tabsOf g.K).map (·.1)).Nodup
  cst : ∀ p ∈ csts, CstOk g p
  nst : ∀ c ∈ nsts, Nst g c
  lamM : ∀ m, g.lamM = some m → m = ".law"
/-- what is known within the law's own def -/
structure TbsL (g : G) : Prop where
  M : g.lamM = some ".law"
  R : ∀ x a c φ ψ, g.lamR x a c φ ψ ↔ lamRT ltab ("law.<locals>." ++ "<lambda>") g.lamC x a c φ ψ
theorem nolaw {N : List Str} (hN : (N.all fun x => decide (x ≠ ".law")) = true) {g : G} (TB : Tbs g) : ∀ m, g.lamM = some m → m ∈ N → False := fun m e h => by
  have z := List.all_eq_true.mp hN m h
  rw [TB.lamM m e] at z
  cases z
theorem nomark {N : List Str} (hN : (N.all fun x => !(marks.contains x)) = true) {g : G} (TB : Tbs g) : ∀ e ∈ g.cods, e.1 ∉ N := fun e he hm => by
  have z := List.all_eq_true.mp hN _ hm
  rw [TB.cods] at he
  rw [Bool.not_eq_true', List.contains_eq_mem, decide_eq_false_iff_not] at z
  exact z (cods_mk he)
theorem gsrc_Move_init {g : G} (TB : Tbs g) {sc : Scope} {N : List Str} {gpos : Pos} (hN : (N.getLast? == some (".Move_init" : Str) && !lamLike sc) = true) (hk : kd_Move_init gpos.line gpos.col = false) : GSrc g N sc gpos := by
  rw [Bool.and_eq_true, beq_iff_eq, Bool.not_eq_true'] at hN
  have hmem : ((".Move_init" : Str), ("Move.__init__.<locals>." : Str), (He.cT g.K ("Move", some "__init__")).1, (He.cT g.K ("Move", some "__init__")).2) ∈ g.cods := by rw [TB.cods]; exact List.mem_of_getElem? (i := 0) rfl
  have ht : ((He.cT g.K ("Move", some "__init__")).2, ("Move.__init__.<locals>." : Str), kd_Move_init) ∈ tabsOf g.K := List.mem_of_getElem? (i := 0) rfl
  exact ⟨⟨_, _, TB.at_ _ hmem⟩, .inl ⟨tabsOf g.K, _, _, _, _, _, List.mem_of_getLast? hN.1, hmem, hN.2, TB.at_ _ hmem, TB.tb, ht, tab_one TB.nd ht, hk⟩⟩
theorem gsrc_pressed_names {g : G} (TB : Tbs g) {sc : Scope} {N : List Str} {gpos : Pos} (hN : (N.getLast? == some (".pressed_names" : Str) && !lamLike sc) = true) (hk : kd_pressed_names gpos.line gpos.col = false) : GSrc g N sc gpos := by
  rw [Bool.and_eq_true, beq_iff_eq, Bool.not_eq_true'] at hN
  have hmem : ((".pressed_names" : Str), ("pressed_names.<locals>." : Str), (He.cT g.K ("pressed_names", none)).1, (He.cT g.K ("pressed_names", none)).2) ∈ g.cods := by rw [TB.cods]; exact List.mem_of_getElem? (i := 1) rfl
  have ht : ((He.cT g.K ("pressed_names", none)).2, ("pressed_names.<locals>." : Str), kd_pressed_names) ∈ tabsOf g.K := List.mem_of_getElem? (i := 1) rfl
  exact ⟨⟨_, _, TB.at_ _ hmem⟩, .inl ⟨tabsOf g.K, _, _, _, _, _, List.mem_of_getLast? hN.1, hmem, hN.2, TB.at_ _ hmem, TB.tb, ht, tab_one TB.nd ht, hk⟩⟩
theorem ltab_law {g : G} (TB : Tbs g) {sc : Scope} {N : List Str} (hN : (N.getLast? == some (".law" : Str) && !lamLike sc) = true) : LTab g N sc "law.<locals>." kd_law := by
  rw [Bool.and_eq_true, beq_iff_eq, Bool.not_eq_true'] at hN
  have hmem : ((".law" : Str), ("law.<locals>." : Str), (He.cT g.K ("law", none)).1, (He.cT g.K ("law", none)).2) ∈ g.cods := by rw [TB.cods]; exact List.mem_of_getElem? (i := 2) rfl
  have ht : ((He.cT g.K ("law", none)).2, ("law.<locals>." : Str), kd_law) ∈ tabsOf g.K := List.mem_of_getElem? (i := 2) rfl
  exact ⟨_, _, _, tabsOf g.K, List.mem_of_getLast? hN.1, hmem, hN.2, TB.at_ _ hmem, TB.tb, ht, tab_one TB.nd ht⟩
theorem told_law {g : G} (T : Top g fa fn) (TB : Tbs g) {sc : Scope} {L k : Nat} {N : List Str} {params : Arguments} {body : Expr} {scope : Scope} {p lpos pos : Pos} {mb : GE} {yes : List Str} (hy : ∀ c ∈ yes, ExmOk g "PlayError" c true) (hbody : Real g N scope k body mb) (hL : k + 2 ≤ L) (hx : sc.names.lookup ("_law_told" : Str) = some .globalImplicit) (hN : (N.getLast? == some (".law" : Str) && !lamLike sc) = true) (hkd : kd_law lpos.line lpos.col = true) (LS : LamS sc scope)
    (hdef : ∀ env : Env, defaultsOf params env = ([], [])) (hbind : ∀ (q : Str) (cl : List (Str × Addr)) (pm cv ctv : Value), bindArgs (PySem.W.kla_fn "<lambda>" q params body scope cl pm cv ctv) ⟨[], []⟩ = pure []) :
    Real g N sc L (.Call (.Name "_law_told" p) [.Lambda params body scope lpos] [] pos) (gTold yes "PlayError" mb) := by
  obtain ⟨fd, F⟩ := T.defs d_law_told (dm 15 rfl)
  have hb : L2.Binds g.K fd ["what"] [] := F.bindsN fun _ _ _ _ _ _ us hl => match us, hl with | [_], _ => rfl
  obtain ⟨oc, od, dV, kV, doc, pm, an, cdv, ct, osl, rfl, lk, hc, _, _⟩ := F.ex
  exact re_told (q := "law.<locals>.") hx (T.glo (fm 41 rfl)) F.kp lk hc hb sc_law_told rfl (vis_ok rfl) rfl (T.glo (fm 1 rfl)) (fun _ => rfl) hy (ltab_law TB hN) hkd hL LS hdef hbind hbody
theorem bad_law {g : G} (T : Top g fa fn) (TB : Tbs g) (TL : TbsL g) {sc : Scope} {L k n : Nat} {N : List Str} {lt : List (Str × GE)} {elt iter : Expr} {mi : GI} {scope : Scope} {own : List (Str × Nat)} {i : Nat} {f : Str} {pos pf pf2 p pc pk pq : Pos} {jk : Nat} {yes : List Str} (hN : N.Nodup) (hl : blkB sc scope = true) (hd : isDef sc = true)
    (hM : (N.getLast? == some (".law" : Str) && !lamLike sc) = true) (hlt : LamsOk g N sc k ltab lt) (hi : RealI g N sc L (.Name f pf) iter mi) (ok : BlkOk N sc scope own) (hown : own.map (·.2) = [i]) (hfi : N[i]? = some f) (hfl : Loc (relS scope sc) f) (hfk : (scope.names.lookup f == some .cell) = true ∨ (relS scope sc).names.lookup f = some .local)
    (hgx : (relS scope sc).names.lookup ("_law_told" : Str) = some .globalImplicit) (hy : ∀ c ∈ yes, ExmOk g "PlayError" c true) (hL : k + 2 ≤ L) (hs : ∀ (env : Env) x, foldedSetIterable iter env x = pure x)
    (hd2 : (f == ("__debug__" : Str)) = false := by decide) (hcd2 : (f == ("__classdict__" : Str)) = false := by decide) :
    Real g N sc L (.ListComp elt [⟨.Name f pf, iter, [.Compare (.Call (.Name "_law_told" p) [.Name f pf2] [] pc) [.NotEq] [.Constant (.str "PlayError") jk pk] pq], 0⟩] scope pos) (gBad lt yes n mi) := by
  obtain ⟨fd, F⟩ := T.defs d_law_told (dm 15 rfl)
  have hb : L2.Binds g.K fd ["what"] [] := F.bindsN fun _ _ _ _ _ _ us hl => match us, hl with | [_], _ => rfl
  obtain ⟨oc, od, dV, kV, doc, pm, an, cdv, ct, osl, rfl, lk, hc, _, _⟩ := F.ex
  have hm : (".law" : Str) ∈ N := by
    rw [Bool.and_eq_true, beq_iff_eq] at hM
    exact List.mem_of_getLast? hM.1
  exact re_bad (tab := ltab) hN hl hd (ltab_law TB hM) TL.M hm (fun x a c φ ψ => (TL.R x a c φ ψ).mp) hlt hi ok hown hfi hfl hfk hgx (T.glo (fm 41 rfl)) F.kp lk hc hb sc_law_told rfl (vis_ok rfl) rfl (T.glo (fm 1 rfl)) (fun _ => rfl) hy hL hs (hd2 := hd2) (hcd2 := hcd2)
theorem r_pressed_number {g : G} (T : Top g fa fn) (TB : Tbs g) : RealSs g N_pressed_number (defScope s_pressed_number) 0 (defBody s_pressed_number) m_pressed_number := by
  exact rs_cons (rs_asg (re_int) (xt 1 nd_pressed_number) (fun env he => swap_no env he (by rfl)) (fun env he => swap_none env he (by rfl)) (fun _ => rfl))
    (rs_cons (rs_for (ri_src (xv 0)) (xt 2 nd_pressed_number)
    (rs_cons (rs_if (rt_cmp (fun _ _ C => o_notin C) (xv 2) (re_gcst (TB.cst _ (List.mem_of_getElem? (i := 0) rfl)) rfl) rfl)
    (rs_one (rs_raise (T.exc (fm 1 rfl) (fm 2 rfl)) rfl))
    (rs_nil))
    (rs_one (rs_aug (i := 1) nd_pressed_number rfl (loc_ok rfl) (re_op (fun _ _ C => o_shl C) (re_int) (re_bm PySem.F.plainAttrs_tuple PySem.F.slot_tuple_index PySem.F.type_tuple_index (fun _ _ C => m_indexT C) (re_gcst (TB.cst _ (List.mem_of_getElem? (i := 0) rfl)) rfl) (ra_cons (xv 2) (ra_nil) (fun _ => rfl)) (fun _ => rfl) (fun _ => rfl) rfl (fun _ => rfl) (fun _ => rfl))) i_or))) (fun _ _ => rfl))
    (rs_one (rs_ret (xv 1))))
theorem fr_pressed_number {g : G} (T : Top g fa fn) (TB : Tbs g) : ∃ fd, FnR g 1 (He.fAd g.K d_pressed_number.at_) fd P_pressed_number F_pressed_number ∧ FunD g.K d_pressed_number.name d_pressed_number.qual d_pressed_number.params d_pressed_number.body d_pressed_number.scope (d_pressed_number.dvs g.K) (d_pressed_number.kws g.K) (He.fAd g.K d_pressed_number.at_) fd := by
  obtain ⟨fd, F⟩ := T.defs d_pressed_number (dm 0 rfl)
  exact ⟨fd, fnR_top (N := N_pressed_number) (ps := P_pressed_number) F sc_pressed_number (r_pressed_number T TB) (fun e he hn => by
    rw [TB.cods] at he
    simp only [codsOf, List.mem_cons, List.not_mem_nil, or_false] at he
    rcases he with rfl | rfl | rfl
    · exact absurd (show ((".Move_init" : Str) ∈ N_pressed_number) from hn) (by decide +kernel)
    · exact absurd (show ((".pressed_names" : Str) ∈ N_pressed_number) from hn) (by decide +kernel)
    · exact absurd (show ((".law" : Str) ∈ N_pressed_number) from hn) (by decide +kernel)) (nolaw (by decide +kernel) TB), F⟩
theorem c_pressed_number_1 {g : G} (T : Top g fa fn) (TB : Tbs g) : CallOk g 1 "pressed_number" [] F_pressed_number := by
  obtain ⟨fd, h, F⟩ := fr_pressed_number T TB
  exact T.call (fm 25 rfl) h (bindD_none F fun _ _ _ _ _ _ us hl => match us, hl with | [_], _ => rfl)
theorem r_Move_init {g : G} (T : Top g fa fn) (TB : Tbs g) : RealSs g N_Move_init (defScope s_Move_init) 4 (defBody s_Move_init) m_Move_init := by
  exact rs_cons (rs_if (rt_w (rw_or (rt_cmp (fun _ _ C => o_eq C) (xv 2) (re_tup (ra_nil)) rfl) (rw_or (rt_not (rt_chain (fun _ _ C => o_lt C) (fun _ _ C => o_le C) (re_int) (xv 3) (re_gint T (fm 4 rfl) rfl) rfl)) (rw_or1 (rt_val (re_genB (NG := NG_Move_init) (L' := 0) (own := [("step", 4)]) con_any ndG_Move_init (ng_by (by decide +kernel)) (nomark (by decide +kernel) TB) (fun _ => rfl) (gsrc_Move_init TB rfl rfl) (genS_by (by decide +kernel)) (blkOk_by (by decide +kernel)) (blkOk_by (by decide +kernel)) (by decide) (ri_src (xv 2)) (xn 4 ndG_Move_init) (.nil) (re_cmp (fun _ _ C => o_eq C) (xv 4) (re_tup (ra_nil)) rfl) (fun _ _ => rfl) rfl (T.free (fm 3 rfl)) rfl (fun _ => rfl)) (fun _ _ => rfl))))))
    (rs_one (rs_raise (T.exc (fm 1 rfl) (fm 2 rfl)) rfl))
    (rs_nil))
    (rs_cons (rs_attr (xv 1) (xv 0) (fc_cons (T.clsF (fm 5 rfl) (fm 6 rfl) (fm 7 rfl)) (fc_nil)) (fun _ => rfl))
    (rs_cons (rs_attr (re_genTX (NG := NG_Move_init) (L' := 1) (own := [("step", 4)]) con_tuple (nsts_cons (TB.nst _ (List.mem_of_getElem? (i := 0) rfl)) nsts_nil) ndG_Move_init (ng_by (by decide +kernel)) (nomark (by decide +kernel) TB) (fun _ => rfl) (gsrc_Move_init TB rfl rfl) (genS_by (by decide +kernel)) (blkOk_by (by decide +kernel)) (blkOk_by (by decide +kernel)) (by decide) (ri_src (xv 2)) (xn 4 ndG_Move_init) (.nil) (re_call (c_pressed_number_1 T TB) (by decide) rfl (ra_cons (xv 4) (ra_nil) (fun _ => rfl)) (fun _ => rfl) (fun _ => rfl)) (fun _ _ => rfl) rfl (T.free (fm 8 rfl)) rfl (fun _ => rfl)) (xv 0) (fc_cons (T.clsF (fm 5 rfl) (fm 6 rfl) (fm 9 rfl)) (fc_nil)) (fun _ => rfl))
    (rs_one (rs_attr (xv 3) (xv 0) (fc_cons (T.clsF (fm 5 rfl) (fm 6 rfl) (fm 10 rfl)) (fc_nil)) (fun _ => rfl)))))
theorem fr_Move_init {g : G} (T : Top g fa fn) (TB : Tbs g) : ∃ fd, FnR g 5 (He.fAd g.K d_Move_init.at_) fd P_Move_init F_Move_init ∧ FunD g.K d_Move_init.name d_Move_init.qual d_Move_init.params d_Move_init.body d_Move_init.scope (d_Move_init.dvs g.K) (d_Move_init.kws g.K) (He.fAd g.K d_Move_init.at_) fd := by
  obtain ⟨fd, F⟩ := T.defs d_Move_init (dm 1 rfl)
  exact ⟨fd, fnR_top (N := N_Move_init) (ps := P_Move_init) F sc_Move_init (r_Move_init T TB) (fun e he hn => by
    rw [TB.cods] at he
    simp only [codsOf, List.mem_cons, List.not_mem_nil, or_false] at he
    rcases he with rfl | rfl | rfl
    · exact ⟨rfl, rfl⟩
    · exact absurd (show ((".pressed_names" : Str) ∈ N_Move_init) from hn) (by decide +kernel)
    · exact absurd (show ((".law" : Str) ∈ N_Move_init) from hn) (by decide +kernel)) (nolaw (by decide +kernel) TB), F⟩
theorem mk_Move_3 {g : G} (T : Top g fa fn) (TB : Tbs g) : MakeOk g 5 "Move" [] F_Move_init := by
  obtain ⟨fd, h, F⟩ := fr_Move_init T TB
  exact T.make (fm 5 rfl) (fm 34 rfl) h (bindD_none F fun _ _ _ _ _ _ us hl => match us, hl with | [_, _, _, _], _ => rfl)
theorem r_Move_comes {g : G} (T : Top g fa fn) (TB : Tbs g) : RealSs g N_Move_comes (defScope s_Move_comes) 0 (defBody s_Move_comes) m_Move_comes := by
  exact rs_cons (rs_asg (re_op (fun _ _ C => o_sub C) (re_op (fun _ _ C => o_sub C) (re_callB (fun _ _ C => c_len C) rfl (T.free (fm 14 rfl)) rfl (ra_cons (re_attr (xv 1) (fc_cons (T.clsF (fm 11 rfl) (fm 12 rfl) (fm 13 rfl)) (fc_nil)) (fun _ => rfl)) (ra_nil) (fun _ => rfl)) (fun _ => rfl) (fun _ => rfl)) (re_int)) (xv 3)) (xt 4 nd_Move_comes) (fun env he => swap_no env he (by rfl)) (fun env he => swap_none env he (by rfl)) (fun _ => rfl))
    (rs_cons (rs_if (rt_w (rw_or (rt_cmp (fun _ _ C => o_lt C) (xv 4) (re_int) rfl) (rw_or1 (rt_cmp (fun _ _ C => o_ne C) (re_op (fun _ _ C => o_band C) (re_ix (re_attr (xv 1) (fc_cons (T.clsF (fm 11 rfl) (fm 12 rfl) (fm 13 rfl)) (fc_nil)) (fun _ => rfl)) (xv 4) (fun _ _ => rfl)) (xv 2)) (xv 2) rfl))))
    (rs_one (rs_ret (re_bl)))
    (rs_nil))
    (rs_one (rs_ret (re_if (rt_cmp (fun _ _ C => o_eq C) (xv 4) (re_int) rfl) (re_cmp (fun _ _ C => o_eq C) (re_attr (xv 1) (fc_cons (T.clsF (fm 11 rfl) (fm 12 rfl) (fm 15 rfl)) (fc_nil)) (fun _ => rfl)) (re_callB (fun _ _ C => c_len C) rfl (T.free (fm 14 rfl)) rfl (ra_cons (re_attr (xv 1) (fc_cons (T.clsF (fm 11 rfl) (fm 12 rfl) (fm 13 rfl)) (fc_nil)) (fun _ => rfl)) (ra_nil) (fun _ => rfl)) (fun _ => rfl) (fun _ => rfl)) rfl) (re_cmp (fun _ _ C => o_ne C) (re_op (fun _ _ C => o_band C) (re_ix (re_attr (xv 1) (fc_cons (T.clsF (fm 11 rfl) (fm 12 rfl) (fm 13 rfl)) (fc_nil)) (fun _ => rfl)) (re_op (fun _ _ C => o_sub C) (xv 4) (re_int)) (fun _ _ => rfl)) (xv 2)) (xv 2) rfl)))))
theorem fr_Move_comes {g : G} (T : Top g fa fn) (TB : Tbs g) : ∃ fd, FnR g 1 (He.fAd g.K d_Move_comes.at_) fd P_Move_comes F_Move_comes ∧ FunD g.K d_Move_comes.name d_Move_comes.qual d_Move_comes.params d_Move_comes.body d_Move_comes.scope (d_Move_comes.dvs g.K) (d_Move_comes.kws g.K) (He.fAd g.K d_Move_comes.at_) fd := by
  obtain ⟨fd, F⟩ := T.defs d_Move_comes (dm 2 rfl)
  exact ⟨fd, fnR_top (N := N_Move_comes) (ps := P_Move_comes) F sc_Move_comes (r_Move_comes T TB) (fun e he hn => by
    rw [TB.cods] at he
    simp only [codsOf, List.mem_cons, List.not_mem_nil, or_false] at he
    rcases he with rfl | rfl | rfl
    · exact absurd (show ((".Move_init" : Str) ∈ N_Move_comes) from hn) (by decide +kernel)
    · exact absurd (show ((".pressed_names" : Str) ∈ N_Move_comes) from hn) (by decide +kernel)
    · exact absurd (show ((".law" : Str) ∈ N_Move_comes) from hn) (by decide +kernel)) (nolaw (by decide +kernel) TB), F⟩
theorem c_Move_comes_4 {g : G} (T : Top g fa fn) (TB : Tbs g) : MethOk g 1 "Move" "comes" [] F_Move_comes := by
  obtain ⟨fd, h, F⟩ := fr_Move_comes T TB
  exact T.meth (fm 5 rfl) (fm 6 rfl) (fm 26 rfl) h (bindD_none F fun _ _ _ _ _ _ us hl => match us, hl with | [_, _, _, _], _ => rfl)
theorem r_Move_is_done {g : G} (T : Top g fa fn) (TB : Tbs g) : RealSs g N_Move_is_done (defScope s_Move_is_done) 1 (defBody s_Move_is_done) m_Move_is_done := by
  exact rs_cons (rs_asg (re_if (rt_val (re_meth (k := 1) (xv 0) (mt_cons (((c_Move_comes_4 T TB)).up (by decide)) (mt_nil)) (by decide) (ra_cons (xv 1) (ra_cons (re_ix (re_attr (xv 0) (fc_cons (T.clsF (fm 5 rfl) (fm 6 rfl) (fm 9 rfl)) (fc_nil)) (fun _ => rfl)) (re_un (fun _ _ C => o_neg C) (re_int)) (fun _ _ => rfl)) (ra_cons (re_int) (ra_nil) (fun _ => rfl)) (fun _ => rfl)) (fun _ => rfl)) (fun _ => rfl) (fun _ => rfl) (fun _ => rfl)) (fun _ _ => rfl)) (re_disp (.cons (re_int) (re_bl) (.nil)) rfl rfl (by simp) (by decide) (by decide)) (re_dict0 (by decide))) (xt 2 nd_Move_is_done) (fun env he => swap_no env he (by rfl)) (fun env he => swap_none env he (by rfl)) (fun _ => rfl))
    (rs_cons (rs_for (ri_src (re_revT (re_slice false (re_attr (xv 0) (fc_cons (T.clsF (fm 5 rfl) (fm 6 rfl) (fm 9 rfl)) (fc_nil)) (fun _ => rfl)) (trivial) (re_un (fun _ _ C => o_neg C) (re_int))))) (xt 3 nd_Move_is_done)
    (rs_cons (rs_asg (re_dict0 (by decide)) (xt 4 nd_Move_is_done) (fun env he => swap_no env he (by rfl)) (fun env he => swap_none env he (by rfl)) (fun _ => rfl))
    (rs_cons (rs_for (ri_src (xv 2)) (xt 5 nd_Move_is_done)
    (rs_one (rs_for (ri_range2 (ra_cons (re_op (fun _ _ C => o_add C) (xv 5) (re_int)) (ra_cons (re_op (fun _ _ C => o_add C) (re_op (fun _ _ C => o_add C) (xv 5) (re_attr (xv 0) (fc_cons (T.clsF (fm 5 rfl) (fm 6 rfl) (fm 10 rfl)) (fc_nil)) (fun _ => rfl))) (re_int)) (ra_nil) (fun _ => rfl)) (fun _ => rfl)) rfl (T.free (fm 16 rfl)) (fun _ => rfl) (fun _ => rfl)) (xt 6 nd_Move_is_done)
    (rs_one (rs_if (rt_val (re_meth (k := 1) (xv 0) (mt_cons (((c_Move_comes_4 T TB)).up (by decide)) (mt_nil)) (by decide) (ra_cons (xv 1) (ra_cons (xv 3) (ra_cons (xv 6) (ra_nil) (fun _ => rfl)) (fun _ => rfl)) (fun _ => rfl)) (fun _ => rfl) (fun _ => rfl) (fun _ => rfl)) (fun _ _ => rfl))
    (rs_one (rs_asg (re_bl) (rg_sub (xv 4) (xv 6) (fun _ _ => rfl)) (fun env he => swap_no env he (by rfl)) (fun env he => swap_none env he (by rfl)) (fun _ => rfl)))
    (rs_nil))) (fun _ _ => rfl))) (fun _ _ => rfl))
    (rs_one (rs_asg (xv 4) (xt 2 nd_Move_is_done) (fun env he => swap_no env he (by rfl)) (fun env he => swap_none env he (by rfl)) (fun _ => rfl))))) (fun _ _ => rfl))
    (rs_one (rs_ret (re_cmp (fun _ _ C => o_neD C) (xv 2) (re_dict0 (by decide)) rfl))))
theorem fr_Move_is_done {g : G} (T : Top g fa fn) (TB : Tbs g) : ∃ fd, FnR g 2 (He.fAd g.K d_Move_is_done.at_) fd P_Move_is_done F_Move_is_done ∧ FunD g.K d_Move_is_done.name d_Move_is_done.qual d_Move_is_done.params d_Move_is_done.body d_Move_is_done.scope (d_Move_is_done.dvs g.K) (d_Move_is_done.kws g.K) (He.fAd g.K d_Move_is_done.at_) fd := by
  obtain ⟨fd, F⟩ := T.defs d_Move_is_done (dm 3 rfl)
  exact ⟨fd, fnR_top (N := N_Move_is_done) (ps := P_Move_is_done) F sc_Move_is_done (r_Move_is_done T TB) (fun e he hn => by
    rw [TB.cods] at he
    simp only [codsOf, List.mem_cons, List.not_mem_nil, or_false] at he
    rcases he with rfl | rfl | rfl
    · exact absurd (show ((".Move_init" : Str) ∈ N_Move_is_done) from hn) (by decide +kernel)
    · exact absurd (show ((".pressed_names" : Str) ∈ N_Move_is_done) from hn) (by decide +kernel)
    · exact absurd (show ((".law" : Str) ∈ N_Move_is_done) from hn) (by decide +kernel)) (nolaw (by decide +kernel) TB), F⟩
theorem c_Move_is_done_2 {g : G} (T : Top g fa fn) (TB : Tbs g) : MethOk g 2 "Move" "is_done" [] F_Move_is_done := by
  obtain ⟨fd, h, F⟩ := fr_Move_is_done T TB
  exact T.meth (fm 5 rfl) (fm 6 rfl) (fm 31 rfl) h (bindD_none F fun _ _ _ _ _ _ us hl => match us, hl with | [_, _], _ => rfl)
theorem r_Pad_init {g : G} (T : Top g fa fn) (TB : Tbs g) : RealSs g N_Pad_init (defScope s_Pad_init) 0 (defBody s_Pad_init) m_Pad_init := by
  exact rs_cons (rs_attr (re_lst false (ra_nil)) (xv 0) (fc_cons (T.clsF (fm 11 rfl) (fm 12 rfl) (fm 13 rfl)) (fc_nil)) (fun _ => rfl))
    (rs_one (rs_attr (re_int) (xv 0) (fc_cons (T.clsF (fm 11 rfl) (fm 12 rfl) (fm 15 rfl)) (fc_nil)) (fun _ => rfl)))
theorem fr_Pad_init {g : G} (T : Top g fa fn) (TB : Tbs g) : ∃ fd, FnR g 1 (He.fAd g.K d_Pad_init.at_) fd P_Pad_init F_Pad_init ∧ FunD g.K d_Pad_init.name d_Pad_init.qual d_Pad_init.params d_Pad_init.body d_Pad_init.scope (d_Pad_init.dvs g.K) (d_Pad_init.kws g.K) (He.fAd g.K d_Pad_init.at_) fd := by
  obtain ⟨fd, F⟩ := T.defs d_Pad_init (dm 4 rfl)
  exact ⟨fd, fnR_top (N := N_Pad_init) (ps := P_Pad_init) F sc_Pad_init (r_Pad_init T TB) (fun e he hn => by
    rw [TB.cods] at he
    simp only [codsOf, List.mem_cons, List.not_mem_nil, or_false] at he
    rcases he with rfl | rfl | rfl
    · exact absurd (show ((".Move_init" : Str) ∈ N_Pad_init) from hn) (by decide +kernel)
    · exact absurd (show ((".pressed_names" : Str) ∈ N_Pad_init) from hn) (by decide +kernel)
    · exact absurd (show ((".law" : Str) ∈ N_Pad_init) from hn) (by decide +kernel)) (nolaw (by decide +kernel) TB), F⟩
theorem mk_Pad_0 {g : G} (T : Top g fa fn) (TB : Tbs g) : MakeOk g 1 "Pad" [] F_Pad_init := by
  obtain ⟨fd, h, F⟩ := fr_Pad_init T TB
  exact T.make (fm 11 rfl) (fm 35 rfl) h (bindD_none F fun _ _ _ _ _ _ us hl => match us, hl with | [_], _ => rfl)
theorem r_Pad_is_down {g : G} (T : Top g fa fn) (TB : Tbs g) : RealSs g N_Pad_is_down (defScope s_Pad_is_down) 1 (defBody s_Pad_is_down) m_Pad_is_down := by
  exact rs_cons (rs_asg (re_call (c_pressed_number_1 T TB) (by decide) rfl (ra_cons (re_lst false (ra_cons (xv 1) (ra_nil) (fun _ => rfl))) (ra_nil) (fun _ => rfl)) (fun _ => rfl) (fun _ => rfl)) (xt 3 nd_Pad_is_down) (fun env he => swap_no env he (by rfl)) (fun env he => swap_none env he (by rfl)) (fun _ => rfl))
    (rs_cons (rs_if (rt_cmp (fun _ _ C => o_lt C) (xv 2) (re_int) rfl)
    (rs_one (rs_raise (T.exc (fm 1 rfl) (fm 2 rfl)) rfl))
    (rs_nil))
    (rs_one (rs_ret (re_and (re_cmp (fun _ _ C => o_lt C) (xv 2) (re_callB (fun _ _ C => c_len C) rfl (T.free (fm 14 rfl)) rfl (ra_cons (re_attr (xv 0) (fc_cons (T.clsF (fm 11 rfl) (fm 12 rfl) (fm 13 rfl)) (fc_nil)) (fun _ => rfl)) (ra_nil) (fun _ => rfl)) (fun _ => rfl) (fun _ => rfl)) rfl) (re_one (re_cmp (fun _ _ C => o_ne C) (re_op (fun _ _ C => o_band C) (re_ix (re_attr (xv 0) (fc_cons (T.clsF (fm 11 rfl) (fm 12 rfl) (fm 13 rfl)) (fc_nil)) (fun _ => rfl)) (re_op (fun _ _ C => o_sub C) (re_op (fun _ _ C => o_sub C) (re_callB (fun _ _ C => c_len C) rfl (T.free (fm 14 rfl)) rfl (ra_cons (re_attr (xv 0) (fc_cons (T.clsF (fm 11 rfl) (fm 12 rfl) (fm 13 rfl)) (fc_nil)) (fun _ => rfl)) (ra_nil) (fun _ => rfl)) (fun _ => rfl) (fun _ => rfl)) (re_int)) (xv 2)) (fun _ _ => rfl)) (xv 3)) (re_int) rfl))))))
theorem fr_Pad_is_down {g : G} (T : Top g fa fn) (TB : Tbs g) : ∃ fd, FnR g 2 (He.fAd g.K d_Pad_is_down.at_) fd P_Pad_is_down F_Pad_is_down ∧ FunD g.K d_Pad_is_down.name d_Pad_is_down.qual d_Pad_is_down.params d_Pad_is_down.body d_Pad_is_down.scope (d_Pad_is_down.dvs g.K) (d_Pad_is_down.kws g.K) (He.fAd g.K d_Pad_is_down.at_) fd := by
  obtain ⟨fd, F⟩ := T.defs d_Pad_is_down (dm 5 rfl)
  exact ⟨fd, fnR_top (N := N_Pad_is_down) (ps := P_Pad_is_down) F sc_Pad_is_down (r_Pad_is_down T TB) (fun e he hn => by
    rw [TB.cods] at he
    simp only [codsOf, List.mem_cons, List.not_mem_nil, or_false] at he
    rcases he with rfl | rfl | rfl
    · exact absurd (show ((".Move_init" : Str) ∈ N_Pad_is_down) from hn) (by decide +kernel)
    · exact absurd (show ((".pressed_names" : Str) ∈ N_Pad_is_down) from hn) (by decide +kernel)
    · exact absurd (show ((".law" : Str) ∈ N_Pad_is_down) from hn) (by decide +kernel)) (nolaw (by decide +kernel) TB), F⟩
theorem c_Pad_is_down_3 {g : G} (T : Top g fa fn) (TB : Tbs g) : MethOk g 2 "Pad" "is_down" [] F_Pad_is_down := by
  obtain ⟨fd, h, F⟩ := fr_Pad_is_down T TB
  exact T.meth (fm 11 rfl) (fm 12 rfl) (fm 27 rfl) h (bindD_dfl (dds := []) F 3 1 (by simp [He.DefD.dvs, d_Pad_is_down]) rfl (fun _ _ _ _ _ _ _ us its hl hi => match us, its, hl, hi with | [_, _, _], [_], _, _ => ⟨_, rfl, rfl⟩) (fun H μ => by show RepL g H μ [] []; simp [RepL, Rep]))
theorem c_Pad_is_down_2 {g : G} (T : Top g fa fn) (TB : Tbs g) : MethOk g 2 "Pad" "is_down" [.int (0)] F_Pad_is_down := by
  obtain ⟨fd, h, F⟩ := fr_Pad_is_down T TB
  exact T.meth (fm 11 rfl) (fm 12 rfl) (fm 27 rfl) h (bindD_dfl (dds := [.int (0)]) F 2 0 (by simp [He.DefD.dvs, d_Pad_is_down]) rfl (fun _ _ _ _ _ _ _ us its hl hi => match us, its, hl, hi with | [_, _], [_], _, _ => ⟨_, rfl, rfl⟩) (fun H μ => by show RepL g H μ [.int (0)] [V.int (0)]; simp [RepL, Rep]))
theorem r_Pad_came_down {g : G} (T : Top g fa fn) (TB : Tbs g) : RealSs g N_Pad_came_down (defScope s_Pad_came_down) 2 (defBody s_Pad_came_down) m_Pad_came_down := by
  exact rs_cons (rs_asg (re_or (re_cmp (fun _ _ C => o_lt C) (re_op (fun _ _ C => o_add C) (xv 2) (re_int)) (re_callB (fun _ _ C => c_len C) rfl (T.free (fm 14 rfl)) rfl (ra_cons (re_attr (xv 0) (fc_cons (T.clsF (fm 11 rfl) (fm 12 rfl) (fm 13 rfl)) (fc_nil)) (fun _ => rfl)) (ra_nil) (fun _ => rfl)) (fun _ => rfl) (fun _ => rfl)) rfl) (re_one (re_cmp (fun _ _ C => o_eq C) (re_attr (xv 0) (fc_cons (T.clsF (fm 11 rfl) (fm 12 rfl) (fm 15 rfl)) (fc_nil)) (fun _ => rfl)) (re_callB (fun _ _ C => c_len C) rfl (T.free (fm 14 rfl)) rfl (ra_cons (re_attr (xv 0) (fc_cons (T.clsF (fm 11 rfl) (fm 12 rfl) (fm 13 rfl)) (fc_nil)) (fun _ => rfl)) (ra_nil) (fun _ => rfl)) (fun _ => rfl) (fun _ => rfl)) rfl))) (xt 3 nd_Pad_came_down) (fun env he => swap_no env he (by rfl)) (fun env he => swap_none env he (by rfl)) (fun _ => rfl))
    (rs_one (rs_ret (re_and (re_meth (k := 2) (xv 0) (mt_cons (((c_Pad_is_down_3 T TB)).up (by decide)) (mt_nil)) (by decide) (ra_cons (xv 1) (ra_cons (xv 2) (ra_nil) (fun _ => rfl)) (fun _ => rfl)) (fun _ => rfl) (fun _ => rfl) (fun _ => rfl)) (re_and (xv 3) (re_one (re_not (re_meth (k := 2) (xv 0) (mt_cons (((c_Pad_is_down_3 T TB)).up (by decide)) (mt_nil)) (by decide) (ra_cons (xv 1) (ra_cons (re_op (fun _ _ C => o_add C) (xv 2) (re_int)) (ra_nil) (fun _ => rfl)) (fun _ => rfl)) (fun _ => rfl) (fun _ => rfl) (fun _ => rfl))))))))
theorem fr_Pad_came_down {g : G} (T : Top g fa fn) (TB : Tbs g) : ∃ fd, FnR g 3 (He.fAd g.K d_Pad_came_down.at_) fd P_Pad_came_down F_Pad_came_down ∧ FunD g.K d_Pad_came_down.name d_Pad_came_down.qual d_Pad_came_down.params d_Pad_came_down.body d_Pad_came_down.scope (d_Pad_came_down.dvs g.K) (d_Pad_came_down.kws g.K) (He.fAd g.K d_Pad_came_down.at_) fd := by
  obtain ⟨fd, F⟩ := T.defs d_Pad_came_down (dm 6 rfl)
  exact ⟨fd, fnR_top (N := N_Pad_came_down) (ps := P_Pad_came_down) F sc_Pad_came_down (r_Pad_came_down T TB) (fun e he hn => by
    rw [TB.cods] at he
    simp only [codsOf, List.mem_cons, List.not_mem_nil, or_false] at he
    rcases he with rfl | rfl | rfl
    · exact absurd (show ((".Move_init" : Str) ∈ N_Pad_came_down) from hn) (by decide +kernel)
    · exact absurd (show ((".pressed_names" : Str) ∈ N_Pad_came_down) from hn) (by decide +kernel)
    · exact absurd (show ((".law" : Str) ∈ N_Pad_came_down) from hn) (by decide +kernel)) (nolaw (by decide +kernel) TB), F⟩
theorem c_Pad_came_down_3 {g : G} (T : Top g fa fn) (TB : Tbs g) : MethOk g 3 "Pad" "came_down" [] F_Pad_came_down := by
  obtain ⟨fd, h, F⟩ := fr_Pad_came_down T TB
  exact T.meth (fm 11 rfl) (fm 12 rfl) (fm 40 rfl) h (bindD_dfl (dds := []) F 3 1 (by simp [He.DefD.dvs, d_Pad_came_down]) rfl (fun _ _ _ _ _ _ _ us its hl hi => match us, its, hl, hi with | [_, _, _], [_], _, _ => ⟨_, rfl, rfl⟩) (fun H μ => by show RepL g H μ [] []; simp [RepL, Rep]))
theorem r_Pad_held {g : G} (T : Top g fa fn) (TB : Tbs g) : RealSs g N_Pad_held (defScope s_Pad_held) 2 (defBody s_Pad_held) m_Pad_held := by
  exact rs_cons (rs_asg (re_int) (xt 2 nd_Pad_held) (fun env he => swap_no env he (by rfl)) (fun env he => swap_none env he (by rfl)) (fun _ => rfl))
    (rs_cons (rs_while (rt_w (rw_and (rt_cmp (fun _ _ C => o_lt C) (xv 2) (re_callB (fun _ _ C => c_len C) rfl (T.free (fm 14 rfl)) rfl (ra_cons (re_attr (xv 0) (fc_cons (T.clsF (fm 11 rfl) (fm 12 rfl) (fm 13 rfl)) (fc_nil)) (fun _ => rfl)) (ra_nil) (fun _ => rfl)) (fun _ => rfl) (fun _ => rfl)) rfl) (rw_and1 (rt_val (re_meth (k := 2) (xv 0) (mt_cons (((c_Pad_is_down_3 T TB)).up (by decide)) (mt_nil)) (by decide) (ra_cons (xv 1) (ra_cons (xv 2) (ra_nil) (fun _ => rfl)) (fun _ => rfl)) (fun _ => rfl) (fun _ => rfl) (fun _ => rfl)) (fun _ _ => rfl)))))
    (rs_one (rs_aug (i := 2) nd_Pad_held rfl (loc_ok rfl) (re_int) i_add)))
    (rs_one (rs_ret (xv 2))))
theorem fr_Pad_held {g : G} (T : Top g fa fn) (TB : Tbs g) : ∃ fd, FnR g 3 (He.fAd g.K d_Pad_held.at_) fd P_Pad_held F_Pad_held ∧ FunD g.K d_Pad_held.name d_Pad_held.qual d_Pad_held.params d_Pad_held.body d_Pad_held.scope (d_Pad_held.dvs g.K) (d_Pad_held.kws g.K) (He.fAd g.K d_Pad_held.at_) fd := by
  obtain ⟨fd, F⟩ := T.defs d_Pad_held (dm 7 rfl)
  exact ⟨fd, fnR_top (N := N_Pad_held) (ps := P_Pad_held) F sc_Pad_held (r_Pad_held T TB) (fun e he hn => by
    rw [TB.cods] at he
    simp only [codsOf, List.mem_cons, List.not_mem_nil, or_false] at he
    rcases he with rfl | rfl | rfl
    · exact absurd (show ((".Move_init" : Str) ∈ N_Pad_held) from hn) (by decide +kernel)
    · exact absurd (show ((".pressed_names" : Str) ∈ N_Pad_held) from hn) (by decide +kernel)
    · exact absurd (show ((".law" : Str) ∈ N_Pad_held) from hn) (by decide +kernel)) (nolaw (by decide +kernel) TB), F⟩
theorem c_Pad_held_2 {g : G} (T : Top g fa fn) (TB : Tbs g) : MethOk g 3 "Pad" "held" [] F_Pad_held := by
  obtain ⟨fd, h, F⟩ := fr_Pad_held T TB
  exact T.meth (fm 11 rfl) (fm 12 rfl) (fm 39 rfl) h (bindD_none F fun _ _ _ _ _ _ us hl => match us, hl with | [_, _], _ => rfl)
theorem r_pressed_names {g : G} (T : Top g fa fn) (TB : Tbs g) : RealSs g N_pressed_names (defScope s_pressed_names) 3 (defBody s_pressed_names) m_pressed_names := by
  exact rs_cons (rs_if (rt_not (rt_chain (fun _ _ C => o_le C) (fun _ _ C => o_lt C) (re_int) (xv 0) (re_op (fun _ _ C => o_shl C) (re_int) (re_callB (fun _ _ C => c_len C) rfl (T.free (fm 14 rfl)) rfl (ra_cons (re_gcst (TB.cst _ (List.mem_of_getElem? (i := 0) rfl)) rfl) (ra_nil) (fun _ => rfl)) (fun _ => rfl) (fun _ => rfl))) rfl))
    (rs_one (rs_raise (T.exc (fm 1 rfl) (fm 2 rfl)) rfl))
    (rs_nil))
    (rs_one (rs_ret (re_genT (NG := NG_pressed_names) (L' := 0) (own := [("place", 1), ("name", 2)]) con_tuple ndG_pressed_names (ng_by (by decide +kernel)) (nomark (by decide +kernel) TB) (fun _ => rfl) (gsrc_pressed_names TB rfl rfl) (genS_by (by decide +kernel)) (blkOk_by (by decide +kernel)) (blkOk_by (by decide +kernel)) (by decide) (ri_enum (ra_cons (re_gcst (TB.cst _ (List.mem_of_getElem? (i := 0) rfl)) rfl) (ra_nil) (fun _ => rfl)) rfl (T.free (fm 17 rfl)) (fun _ => rfl)) (rn_tup (n := 2) (rns_cons (xn 1 ndG_pressed_names) (rns_cons (xn 2 ndG_pressed_names) (rns_nil) (fun _ => rfl)) (fun _ => rfl)) (fun _ => rfl) (fun _ => rfl)) (.one (rt_cmp (fun _ _ C => o_eq C) (re_op (fun _ _ C => o_band C) (re_op (fun _ _ C => o_shr C) (xv 0) (xv 1)) (re_int)) (re_int) rfl)) (xv 2) (fun _ _ => rfl) rfl (T.free (fm 8 rfl)) rfl (fun _ => rfl))))
theorem fr_pressed_names {g : G} (T : Top g fa fn) (TB : Tbs g) : ∃ fd, FnR g 4 (He.fAd g.K d_pressed_names.at_) fd P_pressed_names F_pressed_names ∧ FunD g.K d_pressed_names.name d_pressed_names.qual d_pressed_names.params d_pressed_names.body d_pressed_names.scope (d_pressed_names.dvs g.K) (d_pressed_names.kws g.K) (He.fAd g.K d_pressed_names.at_) fd := by
  obtain ⟨fd, F⟩ := T.defs d_pressed_names (dm 8 rfl)
  exact ⟨fd, fnR_top (N := N_pressed_names) (ps := P_pressed_names) F sc_pressed_names (r_pressed_names T TB) (fun e he hn => by
    rw [TB.cods] at he
    simp only [codsOf, List.mem_cons, List.not_mem_nil, or_false] at he
    rcases he with rfl | rfl | rfl
    · exact absurd (show ((".Move_init" : Str) ∈ N_pressed_names) from hn) (by decide +kernel)
    · exact ⟨rfl, rfl⟩
    · exact absurd (show ((".law" : Str) ∈ N_pressed_names) from hn) (by decide +kernel)) (nolaw (by decide +kernel) TB), F⟩
theorem c_pressed_names_1 {g : G} (T : Top g fa fn) (TB : Tbs g) : CallOk g 4 "pressed_names" [] F_pressed_names := by
  obtain ⟨fd, h, F⟩ := fr_pressed_names T TB
  exact T.call (fm 28 rfl) h (bindD_none F fun _ _ _ _ _ _ us hl => match us, hl with | [_], _ => rfl)
theorem r_Pad_note {g : G} (T : Top g fa fn) (TB : Tbs g) : RealSs g N_Pad_note (defScope s_Pad_note) 4 (defBody s_Pad_note) m_Pad_note := by
  exact rs_cons (rs_expr (re_call (c_pressed_names_1 T TB) (by decide) rfl (ra_cons (xv 1) (ra_nil) (fun _ => rfl)) (fun _ => rfl) (fun _ => rfl)) (fun _ => rfl))
    (rs_cons (rs_attr (re_slice false (re_op (fun _ _ C => o_add C) (re_attr (xv 0) (fc_cons (T.clsF (fm 11 rfl) (fm 12 rfl) (fm 13 rfl)) (fc_nil)) (fun _ => rfl)) (re_lst false (ra_cons (xv 1) (ra_nil) (fun _ => rfl)))) (re_un (fun _ _ C => o_neg C) (re_gint T (fm 4 rfl) rfl)) (trivial)) (xv 0) (fc_cons (T.clsF (fm 11 rfl) (fm 12 rfl) (fm 13 rfl)) (fc_nil)) (fun _ => rfl))
    (rs_one (rs_augA (xv 0) (re_int) (fc_cons (T.clsF (fm 11 rfl) (fm 12 rfl) (fm 15 rfl)) (fc_nil)) i_add)))
theorem fr_Pad_note {g : G} (T : Top g fa fn) (TB : Tbs g) : ∃ fd, FnR g 5 (He.fAd g.K d_Pad_note.at_) fd P_Pad_note F_Pad_note ∧ FunD g.K d_Pad_note.name d_Pad_note.qual d_Pad_note.params d_Pad_note.body d_Pad_note.scope (d_Pad_note.dvs g.K) (d_Pad_note.kws g.K) (He.fAd g.K d_Pad_note.at_) fd := by
  obtain ⟨fd, F⟩ := T.defs d_Pad_note (dm 9 rfl)
  exact ⟨fd, fnR_top (N := N_Pad_note) (ps := P_Pad_note) F sc_Pad_note (r_Pad_note T TB) (fun e he hn => by
    rw [TB.cods] at he
    simp only [codsOf, List.mem_cons, List.not_mem_nil, or_false] at he
    rcases he with rfl | rfl | rfl
    · exact absurd (show ((".Move_init" : Str) ∈ N_Pad_note) from hn) (by decide +kernel)
    · exact absurd (show ((".pressed_names" : Str) ∈ N_Pad_note) from hn) (by decide +kernel)
    · exact absurd (show ((".law" : Str) ∈ N_Pad_note) from hn) (by decide +kernel)) (nolaw (by decide +kernel) TB), F⟩
theorem c_Pad_note_2 {g : G} (T : Top g fa fn) (TB : Tbs g) : MethOk g 5 "Pad" "note" [] F_Pad_note := by
  obtain ⟨fd, h, F⟩ := fr_Pad_note T TB
  exact T.meth (fm 11 rfl) (fm 12 rfl) (fm 36 rfl) h (bindD_none F fun _ _ _ _ _ _ us hl => match us, hl with | [_, _], _ => rfl)
theorem r_law_comes {g : G} (T : Top g fa fn) (TB : Tbs g) : RealSs g N_law_comes (defScope s_law_comes) 0 (defBody s_law_comes) m_law_comes := by
  exact rs_cons (rs_asg (re_ix (xv 0) (xv 2) (fun _ _ => rfl)) (xt 4 nd_law_comes) (fun env he => swap_no env he (by rfl)) (fun env he => swap_none env he (by rfl)) (fun _ => rfl))
    (rs_cons (rs_if (rt_cmp (fun _ _ C => o_ne C) (re_lc (own := [("one", 5)]) nd_law_comes rfl (ri_src (xv 3)) (blkOk_by (by decide +kernel)) (xn 5 nd_law_comes) (.one (rt_cmp (fun _ _ C => o_notin C) (xv 5) (xv 4) rfl)) (xv 5) (fun _ _ => rfl)) (re_lst false (ra_nil)) rfl)
    (rs_one (rs_ret (re_bl)))
    (rs_nil))
    (rs_one (rs_ret (re_if (rt_cmp (fun _ _ C => o_eq C) (xv 2) (re_int) rfl) (xv 1) (re_cmp (fun _ _ C => o_ne C) (re_lc (own := [("one", 5)]) nd_law_comes rfl (ri_src (xv 3)) (blkOk_by (by decide +kernel)) (xn 5 nd_law_comes) (.one (rt_cmp (fun _ _ C => o_notin C) (xv 5) (re_ix (xv 0) (re_op (fun _ _ C => o_sub C) (xv 2) (re_int)) (fun _ _ => rfl)) rfl)) (xv 5) (fun _ _ => rfl)) (re_lst false (ra_nil)) rfl)))))
theorem fr_law_comes {g : G} (T : Top g fa fn) (TB : Tbs g) : ∃ fd, FnR g 1 (He.fAd g.K d_law_comes.at_) fd P_law_comes F_law_comes ∧ FunD g.K d_law_comes.name d_law_comes.qual d_law_comes.params d_law_comes.body d_law_comes.scope (d_law_comes.dvs g.K) (d_law_comes.kws g.K) (He.fAd g.K d_law_comes.at_) fd := by
  obtain ⟨fd, F⟩ := T.defs d_law_comes (dm 10 rfl)
  exact ⟨fd, fnR_top (N := N_law_comes) (ps := P_law_comes) F sc_law_comes (r_law_comes T TB) (fun e he hn => by
    rw [TB.cods] at he
    simp only [codsOf, List.mem_cons, List.not_mem_nil, or_false] at he
    rcases he with rfl | rfl | rfl
    · exact absurd (show ((".Move_init" : Str) ∈ N_law_comes) from hn) (by decide +kernel)
    · exact absurd (show ((".pressed_names" : Str) ∈ N_law_comes) from hn) (by decide +kernel)
    · exact absurd (show ((".law" : Str) ∈ N_law_comes) from hn) (by decide +kernel)) (nolaw (by decide +kernel) TB), F⟩
theorem c_law_comes_4 {g : G} (T : Top g fa fn) (TB : Tbs g) : CallOk g 1 "_law_comes" [] F_law_comes := by
  obtain ⟨fd, h, F⟩ := fr_law_comes T TB
  exact T.call (fm 29 rfl) h (bindD_none F fun _ _ _ _ _ _ us hl => match us, hl with | [_, _, _, _], _ => rfl)
theorem r_law_done {g : G} (T : Top g fa fn) (TB : Tbs g) {k : Nat} (hk : k ≤ k) (h0 : 1 ≤ k) {G_ : Fn} (hG : CallOk g k "_law_done" [] G_) : RealSs g N_law_done (defScope s_law_done) k (defBody s_law_done) (m_law_done G_) := by
  exact rs_cons (rs_if (rt_w (rw_or (rt_cmp (fun _ _ C => o_lt C) (xv 4) (re_int) rfl) (rw_or1 (rt_not (rt_val (re_call (c_law_comes_4 T TB) (Nat.le_trans (by decide) h0) rfl (ra_cons (xv 0) (ra_cons (xv 1) (ra_cons (xv 4) (ra_cons (re_ix (xv 2) (re_op (fun _ _ C => o_sub C) (re_callB (fun _ _ C => c_len C) rfl (T.free (fm 14 rfl)) rfl (ra_cons (xv 2) (ra_nil) (fun _ => rfl)) (fun _ => rfl) (fun _ => rfl)) (re_int)) (fun _ _ => rfl)) (ra_nil) (fun _ => rfl)) (fun _ => rfl)) (fun _ => rfl)) (fun _ => rfl)) (fun _ => rfl) (fun _ => rfl)) (fun _ _ => rfl))))))
    (rs_one (rs_ret (re_bl)))
    (rs_nil))
    (rs_one (rs_ret (re_or (re_cmp (fun _ _ C => o_eq C) (re_callB (fun _ _ C => c_len C) rfl (T.free (fm 14 rfl)) rfl (ra_cons (xv 2) (ra_nil) (fun _ => rfl)) (fun _ => rfl) (fun _ => rfl)) (re_int) rfl) (re_one (re_cmp (fun _ _ C => o_ne C) (re_lc (own := [("place", 5)]) nd_law_done rfl (ri_range2 (ra_cons (re_callB (fun _ _ C => c_max C) rfl (T.free (fm 18 rfl)) rfl (ra_cons (re_int) (ra_cons (re_op (fun _ _ C => o_sub C) (xv 4) (xv 3)) (ra_nil) (fun _ => rfl)) (fun _ => rfl)) (fun _ => rfl) (fun _ => rfl)) (ra_cons (xv 4) (ra_nil) (fun _ => rfl)) (fun _ => rfl)) rfl (T.free (fm 16 rfl)) (fun _ => rfl) (fun _ => rfl)) (blkOk_by (by decide +kernel)) (xn 5 nd_law_done) (.one (rt_val (re_call hG hk rfl (ra_cons (xv 0) (ra_cons (xv 1) (ra_cons (re_slice false (xv 2) (trivial) (re_op (fun _ _ C => o_sub C) (re_callB (fun _ _ C => c_len C) rfl (T.free (fm 14 rfl)) rfl (ra_cons (xv 2) (ra_nil) (fun _ => rfl)) (fun _ => rfl) (fun _ => rfl)) (re_int))) (ra_cons (xv 3) (ra_cons (xv 5) (ra_nil) (fun _ => rfl)) (fun _ => rfl)) (fun _ => rfl)) (fun _ => rfl)) (fun _ => rfl)) (fun _ => rfl) (fun _ => rfl)) (fun _ _ => rfl))) (xv 5) (fun _ _ => rfl)) (re_lst false (ra_nil)) rfl)))))
theorem fr_law_done {g : G} (T : Top g fa fn) (TB : Tbs g) : ∃ fd, FnR g 7 (He.fAd g.K d_law_done.at_) fd P_law_done F_law_done ∧ FunD g.K d_law_done.name d_law_done.qual d_law_done.params d_law_done.body d_law_done.scope (d_law_done.dvs g.K) (d_law_done.kws g.K) (He.fAd g.K d_law_done.at_) fd := by
  obtain ⟨fd, F⟩ := T.defs d_law_done (dm 11 rfl)
  have hb : BindD g fd P_law_done [] := bindD_none F fun _ _ _ _ _ _ us hl => match us, hl with | [_, _, _, _, _], _ => rfl
  exact ⟨fd, fnR_rec (L := 1) (funC_of (st := s_law_done) F) (fun k G_ h0 hG => fnR_top (N := N_law_done) (ps := P_law_done) F sc_law_done (r_law_done T TB (Nat.le_refl _) h0 (T.call (fm 37 rfl) hG hb)) (fun e he hn => by
    rw [TB.cods] at he
    simp only [codsOf, List.mem_cons, List.not_mem_nil, or_false] at he
    rcases he with rfl | rfl | rfl
    · exact absurd (show ((".Move_init" : Str) ∈ N_law_done) from hn) (by decide +kernel)
    · exact absurd (show ((".pressed_names" : Str) ∈ N_law_done) from hn) (by decide +kernel)
    · exact absurd (show ((".law" : Str) ∈ N_law_done) from hn) (by decide +kernel)) (nolaw (by decide +kernel) TB)) 6, F⟩
theorem c_law_done_5 {g : G} (T : Top g fa fn) (TB : Tbs g) : CallOk g 7 "_law_done" [] F_law_done := by
  obtain ⟨fd, h, F⟩ := fr_law_done T TB
  exact T.call (fm 37 rfl) h (bindD_none F fun _ _ _ _ _ _ us hl => match us, hl with | [_, _, _, _, _], _ => rfl)
theorem r_law_roll {g : G} (T : Top g fa fn) (TB : Tbs g) {k : Nat} (hk : k ≤ k) (h0 : 0 ≤ k) {G_ : Fn} (hG : CallOk g k "_law_roll" [] G_) : RealSs g N_law_roll (defScope s_law_roll) k (defBody s_law_roll) (m_law_roll G_) := by
  exact rs_cons (rs_if (rt_w (rw_or (rt_cmp (fun _ _ C => o_eq C) (re_ix (xv 0) (re_int) (fun _ _ => rfl)) (re_int) rfl) (rw_or1 (rt_w (rw_and (rt_cmp (fun _ _ C => o_eq C) (re_ix (xv 0) (re_int) (fun _ _ => rfl)) (re_int) rfl) (rw_and1 (rt_cmp (fun _ _ C => o_gt C) (re_ix (xv 0) (re_int) (fun _ _ => rfl)) (re_int) rfl)))))))
    (rs_cons (rs_asg (re_op (fun _ _ C => o_mod C) (re_callTy (fun _ _ C => c_int C) rfl (T.free (fm 19 rfl)) rfl (ra_cons (re_ix (xv 0) (re_int) (fun _ _ => rfl)) (ra_nil) (fun _ => rfl)) (fun _ => rfl) (fun _ => rfl)) (xv 1)) (xt 2 nd_law_roll) (fun env he => swap_no env he (by rfl)) (fun env he => swap_none env he (by rfl)) (fun _ => rfl))
    (rs_cons (rs_asg (re_op (fun _ _ C => o_div C) (re_ix (xv 0) (re_int) (fun _ _ => rfl)) (xv 1)) (rg_sub (xv 0) (re_int) (fun _ _ => rfl)) (fun env he => swap_no env he (by rfl)) (fun env he => swap_none env he (by rfl)) (fun _ => rfl))
    (rs_one (rs_ret (xv 2)))))
    (rs_nil))
    (rs_cons (rs_asg (re_int) (rg_sub (xv 0) (re_int) (fun _ _ => rfl)) (fun env he => swap_no env he (by rfl)) (fun env he => swap_none env he (by rfl)) (fun _ => rfl))
    (rs_cons (rs_if (rt_cmp (fun _ _ C => o_gt C) (xv 1) (re_int) rfl)
    (rs_one (rs_ret (re_op (fun _ _ C => o_mod C) (re_callTy (fun _ _ C => c_int C) rfl (T.free (fm 19 rfl)) rfl (ra_cons (re_op (fun _ _ C => o_add C) (re_op (fun _ _ C => o_mul C) (re_call hG hk rfl (ra_cons (xv 0) (ra_cons (re_op (fun _ _ C => o_add C) (re_op (fun _ _ C => o_div C) (xv 1) (re_int)) (re_int)) (ra_nil) (fun _ => rfl)) (fun _ => rfl)) (fun _ => rfl) (fun _ => rfl)) (re_int)) (re_call hG hk rfl (ra_cons (xv 0) (ra_cons (re_int) (ra_nil) (fun _ => rfl)) (fun _ => rfl)) (fun _ => rfl) (fun _ => rfl))) (ra_nil) (fun _ => rfl)) (fun _ => rfl) (fun _ => rfl)) (xv 1))))
    (rs_nil))
    (rs_cons (rs_asg (re_op (fun _ _ C => o_mod C) (re_callTy (fun _ _ C => c_int C) rfl (T.free (fm 19 rfl)) rfl (ra_cons (re_op (fun _ _ C => o_add C) (re_op (fun _ _ C => o_add C) (re_op (fun _ _ C => o_mul C) (re_ix (xv 0) (re_int) (fun _ _ => rfl)) (re_int)) (re_op (fun _ _ C => o_mul C) (re_ix (xv 0) (re_int) (fun _ _ => rfl)) (re_int))) (re_int)) (ra_nil) (fun _ => rfl)) (fun _ => rfl) (fun _ => rfl)) (re_int)) (rg_sub (xv 0) (re_int) (fun _ _ => rfl)) (fun env he => swap_no env he (by rfl)) (fun env he => swap_none env he (by rfl)) (fun _ => rfl))
    (rs_cons (rs_asg (re_op (fun _ _ C => o_add C) (re_ix (xv 0) (re_int) (fun _ _ => rfl)) (re_int)) (rg_sub (xv 0) (re_int) (fun _ _ => rfl)) (fun env he => swap_no env he (by rfl)) (fun env he => swap_none env he (by rfl)) (fun _ => rfl))
    (rs_one (rs_ret (re_op (fun _ _ C => o_mod C) (re_callTy (fun _ _ C => c_int C) rfl (T.free (fm 19 rfl)) rfl (ra_cons (re_op (fun _ _ C => o_div C) (re_ix (xv 0) (re_int) (fun _ _ => rfl)) (re_int)) (ra_nil) (fun _ => rfl)) (fun _ => rfl) (fun _ => rfl)) (xv 1))))))))
theorem fr_law_roll {g : G} (T : Top g fa fn) (TB : Tbs g) : ∃ fd, FnR g 4 (He.fAd g.K d_law_roll.at_) fd P_law_roll F_law_roll ∧ FunD g.K d_law_roll.name d_law_roll.qual d_law_roll.params d_law_roll.body d_law_roll.scope (d_law_roll.dvs g.K) (d_law_roll.kws g.K) (He.fAd g.K d_law_roll.at_) fd := by
  obtain ⟨fd, F⟩ := T.defs d_law_roll (dm 12 rfl)
  have hb : BindD g fd P_law_roll [] := bindD_none F fun _ _ _ _ _ _ us hl => match us, hl with | [_, _], _ => rfl
  exact ⟨fd, fnR_rec (L := 0) (funC_of (st := s_law_roll) F) (fun k G_ h0 hG => fnR_top (N := N_law_roll) (ps := P_law_roll) F sc_law_roll (r_law_roll T TB (Nat.le_refl _) h0 (T.call (fm 33 rfl) hG hb)) (fun e he hn => by
    rw [TB.cods] at he
    simp only [codsOf, List.mem_cons, List.not_mem_nil, or_false] at he
    rcases he with rfl | rfl | rfl
    · exact absurd (show ((".Move_init" : Str) ∈ N_law_roll) from hn) (by decide +kernel)
    · exact absurd (show ((".pressed_names" : Str) ∈ N_law_roll) from hn) (by decide +kernel)
    · exact absurd (show ((".law" : Str) ∈ N_law_roll) from hn) (by decide +kernel)) (nolaw (by decide +kernel) TB)) 4, F⟩
theorem c_law_roll_2 {g : G} (T : Top g fa fn) (TB : Tbs g) : CallOk g 4 "_law_roll" [] F_law_roll := by
  obtain ⟨fd, h, F⟩ := fr_law_roll T TB
  exact T.call (fm 33 rfl) h (bindD_none F fun _ _ _ _ _ _ us hl => match us, hl with | [_, _], _ => rfl)
theorem r_law_dice {g : G} (T : Top g fa fn) (TB : Tbs g) : RealSs g N_law_dice (defScope s_law_dice) 0 (defBody s_law_dice) m_law_dice := by
  exact rs_cons (rs_if (rt_chain (fun _ _ C => o_lt C) (fun _ _ C => o_lt C) (re_op (fun _ _ C => o_sub C) (re_int) (re_int)) (xv 0) (re_int) rfl)
    (rs_one (rs_ret (re_lst true (ra_cons (re_callB (fun _ _ C => c_abs C) rfl (T.free (fm 20 rfl)) rfl (ra_cons (xv 0) (ra_nil) (fun _ => rfl)) (fun _ => rfl) (fun _ => rfl)) (ra_cons (re_int) (ra_cons (re_int) (ra_nil) (fun _ => rfl)) (fun _ => rfl)) (fun _ => rfl)))))
    (rs_nil))
    (rs_one (rs_ret (re_lst true (ra_cons (xv 0) (ra_cons (re_op (fun _ _ C => o_add C) (re_int) (re_op (fun _ _ C => o_mod C) (re_callTy (fun _ _ C => c_int C) rfl (T.free (fm 19 rfl)) rfl (ra_cons (xv 0) (ra_nil) (fun _ => rfl)) (fun _ => rfl) (fun _ => rfl)) (re_int))) (ra_cons (re_callTy (fun _ _ C => c_int C) rfl (T.free (fm 19 rfl)) rfl (ra_cons (re_cmp (fun _ _ C => o_ge C) (xv 0) (re_op (fun _ _ C => o_pow C) (re_int) (re_int)) rfl) (ra_nil) (fun _ => rfl)) (fun _ => rfl) (fun _ => rfl)) (ra_nil) (fun _ => rfl)) (fun _ => rfl)) (fun _ => rfl)))))
theorem fr_law_dice {g : G} (T : Top g fa fn) (TB : Tbs g) : ∃ fd, FnR g 1 (He.fAd g.K d_law_dice.at_) fd P_law_dice F_law_dice ∧ FunD g.K d_law_dice.name d_law_dice.qual d_law_dice.params d_law_dice.body d_law_dice.scope (d_law_dice.dvs g.K) (d_law_dice.kws g.K) (He.fAd g.K d_law_dice.at_) fd := by
  obtain ⟨fd, F⟩ := T.defs d_law_dice (dm 13 rfl)
  exact ⟨fd, fnR_top (N := N_law_dice) (ps := P_law_dice) F sc_law_dice (r_law_dice T TB) (fun e he hn => by
    rw [TB.cods] at he
    simp only [codsOf, List.mem_cons, List.not_mem_nil, or_false] at he
    rcases he with rfl | rfl | rfl
    · exact absurd (show ((".Move_init" : Str) ∈ N_law_dice) from hn) (by decide +kernel)
    · exact absurd (show ((".pressed_names" : Str) ∈ N_law_dice) from hn) (by decide +kernel)
    · exact absurd (show ((".law" : Str) ∈ N_law_dice) from hn) (by decide +kernel)) (nolaw (by decide +kernel) TB), F⟩
theorem c_law_dice_1 {g : G} (T : Top g fa fn) (TB : Tbs g) : CallOk g 1 "_law_dice" [] F_law_dice := by
  obtain ⟨fd, h, F⟩ := fr_law_dice T TB
  exact T.call (fm 30 rfl) h (bindD_none F fun _ _ _ _ _ _ us hl => match us, hl with | [_], _ => rfl)
theorem r_law_rounds {g : G} (T : Top g fa fn) (TB : Tbs g) : RealSs g N_law_rounds (defScope s_law_rounds) 1 (defBody s_law_rounds) m_law_rounds := by
  exact rs_cons (rs_asg (re_slice false (xv 0) (trivial) (xv 1)) (xt 2 nd_law_rounds) (fun env he => swap_no env he (by rfl)) (fun env he => swap_none env he (by rfl)) (fun _ => rfl))
    (rs_cons (rs_if (rt_cmp (fun _ _ C => o_eq C) (xv 2) (re_lst false (ra_nil)) rfl)
    (rs_one (rs_asg (re_lst false (ra_cons (re_int) (ra_nil) (fun _ => rfl))) (xt 2 nd_law_rounds) (fun env he => swap_no env he (by rfl)) (fun env he => swap_none env he (by rfl)) (fun _ => rfl)))
    (rs_nil))
    (rs_one (rs_ret (re_lc (own := [("cell", 3)]) nd_law_rounds rfl (ri_src (xv 2)) (blkOk_by (by decide +kernel)) (xn 3 nd_law_rounds) (.nil) (re_call (c_law_dice_1 T TB) (by decide) rfl (ra_cons (xv 3) (ra_nil) (fun _ => rfl)) (fun _ => rfl) (fun _ => rfl)) (fun _ _ => rfl)))))
theorem fr_law_rounds {g : G} (T : Top g fa fn) (TB : Tbs g) : ∃ fd, FnR g 2 (He.fAd g.K d_law_rounds.at_) fd P_law_rounds F_law_rounds ∧ FunD g.K d_law_rounds.name d_law_rounds.qual d_law_rounds.params d_law_rounds.body d_law_rounds.scope (d_law_rounds.dvs g.K) (d_law_rounds.kws g.K) (He.fAd g.K d_law_rounds.at_) fd := by
  obtain ⟨fd, F⟩ := T.defs d_law_rounds (dm 14 rfl)
  exact ⟨fd, fnR_top (N := N_law_rounds) (ps := P_law_rounds) F sc_law_rounds (r_law_rounds T TB) (fun e he hn => by
    rw [TB.cods] at he
    simp only [codsOf, List.mem_cons, List.not_mem_nil, or_false] at he
    rcases he with rfl | rfl | rfl
    · exact absurd (show ((".Move_init" : Str) ∈ N_law_rounds) from hn) (by decide +kernel)
    · exact absurd (show ((".pressed_names" : Str) ∈ N_law_rounds) from hn) (by decide +kernel)
    · exact absurd (show ((".law" : Str) ∈ N_law_rounds) from hn) (by decide +kernel)) (nolaw (by decide +kernel) TB), F⟩
theorem c_law_rounds_2 {g : G} (T : Top g fa fn) (TB : Tbs g) : CallOk g 2 "_law_rounds" [] F_law_rounds := by
  obtain ⟨fd, h, F⟩ := fr_law_rounds T TB
  exact T.call (fm 32 rfl) h (bindD_none F fun _ _ _ _ _ _ us hl => match us, hl with | [_, _], _ => rfl)
theorem r_best_move {g : G} (T : Top g fa fn) (TB : Tbs g) : RealSs g N_best_move (defScope s_best_move) 2 (defBody s_best_move) m_best_move := by
  exact rs_cons (rs_asg (re_non) (xt 2 nd_best_move) (fun env he => swap_no env he (by rfl)) (fun env he => swap_none env he (by rfl)) (fun _ => rfl))
    (rs_cons (rs_for (ri_src (xv 0)) (xt 3 nd_best_move)
    (rs_one (rs_if (rt_w (rw_and (rt_w (rw_or (rt_cmp (fun _ _ C => o_is C) (xv 2) (re_non) rfl) (rw_or1 (rt_cmp (fun _ _ C => o_gt C) (re_callB (fun _ _ C => c_len C) rfl (T.free (fm 14 rfl)) rfl (ra_cons (re_attr (xv 3) (fc_cons (T.clsF (fm 5 rfl) (fm 6 rfl) (fm 9 rfl)) (fc_nil)) (fun _ => rfl)) (ra_nil) (fun _ => rfl)) (fun _ => rfl) (fun _ => rfl)) (re_callB (fun _ _ C => c_len C) rfl (T.free (fm 14 rfl)) rfl (ra_cons (re_attr (xv 2) (fc_cons (T.clsF (fm 5 rfl) (fm 6 rfl) (fm 9 rfl)) (fc_nil)) (fun _ => rfl)) (ra_nil) (fun _ => rfl)) (fun _ => rfl) (fun _ => rfl)) rfl)))) (rw_and1 (rt_val (re_meth (k := 2) (xv 3) (mt_cons (((c_Move_is_done_2 T TB)).up (by decide)) (mt_nil)) (by decide) (ra_cons (xv 1) (ra_nil) (fun _ => rfl)) (fun _ => rfl) (fun _ => rfl) (fun _ => rfl)) (fun _ _ => rfl)))))
    (rs_one (rs_asg (xv 3) (xt 2 nd_best_move) (fun env he => swap_no env he (by rfl)) (fun env he => swap_none env he (by rfl)) (fun _ => rfl)))
    (rs_nil))) (fun _ _ => rfl))
    (rs_one (rs_ret (re_if (rt_cmp (fun _ _ C => o_is C) (xv 2) (re_non) rfl) (re_non) (re_attr (xv 2) (fc_cons (T.clsF (fm 5 rfl) (fm 6 rfl) (fm 7 rfl)) (fc_nil)) (fun _ => rfl))))))
theorem fr_best_move {g : G} (T : Top g fa fn) (TB : Tbs g) : ∃ fd, FnR g 3 (He.fAd g.K d_best_move.at_) fd P_best_move F_best_move ∧ FunD g.K d_best_move.name d_best_move.qual d_best_move.params d_best_move.body d_best_move.scope (d_best_move.dvs g.K) (d_best_move.kws g.K) (He.fAd g.K d_best_move.at_) fd := by
  obtain ⟨fd, F⟩ := T.defs d_best_move (dm 16 rfl)
  exact ⟨fd, fnR_top (N := N_best_move) (ps := P_best_move) F sc_best_move (r_best_move T TB) (fun e he hn => by
    rw [TB.cods] at he
    simp only [codsOf, List.mem_cons, List.not_mem_nil, or_false] at he
    rcases he with rfl | rfl | rfl
    · exact absurd (show ((".Move_init" : Str) ∈ N_best_move) from hn) (by decide +kernel)
    · exact absurd (show ((".pressed_names" : Str) ∈ N_best_move) from hn) (by decide +kernel)
    · exact absurd (show ((".law" : Str) ∈ N_best_move) from hn) (by decide +kernel)) (nolaw (by decide +kernel) TB), F⟩
theorem c_best_move_2 {g : G} (T : Top g fa fn) (TB : Tbs g) : CallOk g 3 "best_move" [] F_best_move := by
  obtain ⟨fd, h, F⟩ := fr_best_move T TB
  exact T.call (fm 38 rfl) h (bindD_none F fun _ _ _ _ _ _ us hl => match us, hl with | [_, _], _ => rfl)
theorem r_law {g : G} (T : Top g fa fn) (TB : Tbs g) (TL : TbsL g) : RealSs g N_law (defScope s_law) 8 (defBody s_law) m_law := by
  exact rs_cons (rs_for (ri_src (re_call (c_law_rounds_2 T TB) (by decide) rfl (ra_cons (xv 0) (ra_cons (re_int) (ra_nil) (fun _ => rfl)) (fun _ => rfl)) (fun _ => rfl) (fun _ => rfl))) (xt 1 nd_law)
    (rs_cons (rs_asg (re_tup (ra_cons (re_lst false (ra_cons (re_str) (ra_cons (re_str) (ra_cons (re_str) (ra_cons (re_str) (ra_cons (re_str) (ra_cons (re_str) (ra_cons (re_str) (ra_nil) (fun _ => rfl)) (fun _ => rfl)) (fun _ => rfl)) (fun _ => rfl)) (fun _ => rfl)) (fun _ => rfl)) (fun _ => rfl))) (ra_cons (re_lst true (ra_nil)) (ra_cons (re_lst true (ra_nil)) (ra_nil) (fun _ => rfl)) (fun _ => rfl)) (fun _ => rfl))) (rg_tup (n := 3) (rgs_cons (xt 2 nd_law) (rgs_cons (xt 3 nd_law) (rgs_cons (xt 4 nd_law) (rgs_nil) (fun _ => rfl)) (fun _ => rfl)) (fun _ => rfl)) (fun _ => rfl) (fun _ => rfl)) (fun env he => swap_no env he (by rfl)) (fun env he => swap_none env he (by rfl)) (fun _ => rfl))
    (rs_cons (rs_for (ri_range1 (ra_cons (re_op (fun _ _ C => o_add C) (re_int) (re_call (c_law_roll_2 T TB) (by decide) rfl (ra_cons (xv 1) (ra_cons (re_int) (ra_nil) (fun _ => rfl)) (fun _ => rfl)) (fun _ => rfl) (fun _ => rfl))) (ra_nil) (fun _ => rfl)) rfl (T.free (fm 16 rfl)) (fun _ => rfl)) (xt 5 nd_law)
    (rs_cons (rs_asg (re_callTy (fun _ _ C => c_tuple C) rfl (T.free (fm 8 rfl)) rfl (ra_cons (re_lc (own := [("i", 25)]) nd_law rfl (ri_range1 (ra_cons (re_op (fun _ _ C => o_add C) (re_int) (re_call (c_law_roll_2 T TB) (by decide) rfl (ra_cons (xv 1) (ra_cons (re_int) (ra_nil) (fun _ => rfl)) (fun _ => rfl)) (fun _ => rfl) (fun _ => rfl))) (ra_nil) (fun _ => rfl)) rfl (T.free (fm 16 rfl)) (fun _ => rfl)) (blkOk_by (by decide +kernel)) (xn 25 nd_law) (.nil) (re_callTy (fun _ _ C => c_tuple C) rfl (T.free (fm 8 rfl)) rfl (ra_cons (re_lc (own := [("j", 26)]) nd_law rfl (ri_range1 (ra_cons (re_op (fun _ _ C => o_add C) (re_int) (re_call (c_law_roll_2 T TB) (by decide) rfl (ra_cons (xv 1) (ra_cons (re_int) (ra_nil) (fun _ => rfl)) (fun _ => rfl)) (fun _ => rfl) (fun _ => rfl))) (ra_nil) (fun _ => rfl)) rfl (T.free (fm 16 rfl)) (fun _ => rfl)) (blkOk_by (by decide +kernel)) (xn 26 nd_law) (.nil) (re_ix (xv 2) (re_op (fun _ _ C => o_add C) (re_call (c_law_roll_2 T TB) (by decide) rfl (ra_cons (xv 1) (ra_cons (re_int) (ra_nil) (fun _ => rfl)) (fun _ => rfl)) (fun _ => rfl) (fun _ => rfl)) (re_int)) (fun _ _ => rfl)) (fun _ _ => rfl)) (ra_nil) (fun _ => rfl)) (fun _ => rfl) (fun _ => rfl)) (fun _ _ => rfl)) (ra_nil) (fun _ => rfl)) (fun _ => rfl) (fun _ => rfl)) (xt 6 nd_law) (fun env he => swap_no env he (by rfl)) (fun env he => swap_none env he (by rfl)) (fun _ => rfl))
    (rs_cons (rs_asg (re_op (fun _ _ C => o_add C) (re_int) (re_call (c_law_roll_2 T TB) (by decide) rfl (ra_cons (xv 1) (ra_cons (re_int) (ra_nil) (fun _ => rfl)) (fun _ => rfl)) (fun _ => rfl) (fun _ => rfl))) (xt 7 nd_law) (fun env he => swap_no env he (by rfl)) (fun env he => swap_none env he (by rfl)) (fun _ => rfl))
    (rs_cons (rs_expr (re_bm PySem.F.plainAttrs_list PySem.F.slot_list_append PySem.F.type_list_append (fun _ _ C => m_append C) (xv 3) (ra_cons (re_make (imm := true) (mk_Move_3 T TB) (by decide) rfl (ra_cons (re_op (fun _ _ C => o_add C) (re_str) (re_callTy (fun _ _ C => c_str C) rfl (T.free (fm 21 rfl)) rfl (ra_cons (xv 5) (ra_nil) (fun _ => rfl)) (fun _ => rfl) (fun _ => rfl))) (ra_cons (xv 6) (ra_cons (xv 7) (ra_nil) (fun _ => rfl)) (fun _ => rfl)) (fun _ => rfl)) (fun _ => rfl) (fun _ => rfl)) (ra_nil) (fun _ => rfl)) (fun _ => rfl) (fun _ => rfl) rfl (fun _ => rfl) (fun _ => rfl)) (fun _ => rfl))
    (rs_one (rs_expr (re_bm PySem.F.plainAttrs_list PySem.F.slot_list_append PySem.F.type_list_append (fun _ _ C => m_append C) (xv 4) (ra_cons (re_tup (ra_cons (re_op (fun _ _ C => o_add C) (re_str) (re_callTy (fun _ _ C => c_str C) rfl (T.free (fm 21 rfl)) rfl (ra_cons (xv 5) (ra_nil) (fun _ => rfl)) (fun _ => rfl) (fun _ => rfl))) (ra_cons (xv 6) (ra_cons (xv 7) (ra_nil) (fun _ => rfl)) (fun _ => rfl)) (fun _ => rfl))) (ra_nil) (fun _ => rfl)) (fun _ => rfl) (fun _ => rfl) rfl (fun _ => rfl) (fun _ => rfl)) (fun _ => rfl)))))) (fun _ _ => rfl))
    (rs_cons (rs_asg (re_tup (ra_cons (re_make0 (imm := false) (mk_Pad_0 T TB) (by decide) rfl) (ra_cons (re_lst false (ra_nil)) (ra_nil) (fun _ => rfl)) (fun _ => rfl))) (rg_tup (n := 2) (rgs_cons (xt 8 nd_law) (rgs_cons (xt 9 nd_law) (rgs_nil) (fun _ => rfl)) (fun _ => rfl)) (fun _ => rfl) (fun _ => rfl)) (fun env he => swap_no env he (by rfl)) (fun env he => swap_none env he (by rfl)) (fun _ => rfl))
    (rs_one (rs_for (ri_range1 (ra_cons (re_call (c_law_roll_2 T TB) (by decide) rfl (ra_cons (xv 1) (ra_cons (re_int) (ra_nil) (fun _ => rfl)) (fun _ => rfl)) (fun _ => rfl) (fun _ => rfl)) (ra_nil) (fun _ => rfl)) rfl (T.free (fm 16 rfl)) (fun _ => rfl)) (xt 10 nd_law)
    (rs_cons (rs_setLc (i := 11) (own := [("name", 16)]) nd_law rfl rfl (fun env he => swap_yes env he (by rfl)) rfl (ri_src (xv 2)) (blkOk_by (by decide +kernel)) (xn 16 nd_law) (.one (rt_cmp (fun _ _ C => o_eq C) (re_call (c_law_roll_2 T TB) (by decide) rfl (ra_cons (xv 1) (ra_cons (re_int) (ra_nil) (fun _ => rfl)) (fun _ => rfl)) (fun _ => rfl) (fun _ => rfl)) (re_int) rfl)) (xv 16) (fun _ _ => rfl))
    (rs_cons (rs_asg (re_callB (fun _ _ C => c_sum C) rfl (T.free (fm 22 rfl)) rfl (ra_cons (re_lc (own := [("name", 16)]) nd_law rfl (ri_src (xv 11)) (blkOk_by (by decide +kernel)) (xn 16 nd_law) (.nil) (re_op (fun _ _ C => o_shl C) (re_int) (re_bm PySem.F.plainAttrs_list PySem.F.slot_list_index PySem.F.type_list_index (fun _ _ C => m_indexL C) (xv 2) (ra_cons (xv 16) (ra_nil) (fun _ => rfl)) (fun _ => rfl) (fun _ => rfl) rfl (fun _ => rfl) (fun _ => rfl))) (fun _ _ => rfl)) (ra_nil) (fun _ => rfl)) (fun _ => rfl) (fun _ => rfl)) (xt 12 nd_law) (fun env he => swap_no env he (by rfl)) (fun env he => swap_none env he (by rfl)) (fun _ => rfl))
    (rs_cons (rs_if (rt_w (rw_or (rt_cmp (fun _ _ C => o_ne C) (re_call (c_pressed_number_1 T TB) (by decide) rfl (ra_cons (xv 11) (ra_nil) (fun _ => rfl)) (fun _ => rfl) (fun _ => rfl)) (xv 12) rfl) (rw_or1 (rt_cmp (fun _ _ C => o_ne C) (re_callTy (fun _ _ C => c_list false C) rfl (T.free (fm 23 rfl)) rfl (ra_cons (re_call (c_pressed_names_1 T TB) (by decide) rfl (ra_cons (xv 12) (ra_nil) (fun _ => rfl)) (fun _ => rfl) (fun _ => rfl)) (ra_nil) (fun _ => rfl)) (fun _ => rfl) (fun _ => rfl)) (xv 11) rfl))))
    (rs_one (rs_ret (re_bl)))
    (rs_nil))
    (rs_cons (rs_expr (re_meth (k := 5) (xv 8) (mt_cons (((c_Pad_note_2 T TB)).up (by decide)) (mt_nil)) (by decide) (ra_cons (xv 12) (ra_nil) (fun _ => rfl)) (fun _ => rfl) (fun _ => rfl) (fun _ => rfl)) (fun _ => rfl))
    (rs_cons (rs_asg (re_slice false (re_op (fun _ _ C => o_add C) (xv 9) (re_lst false (ra_cons (xv 11) (ra_nil) (fun _ => rfl)))) (re_un (fun _ _ C => o_neg C) (re_int)) (trivial)) (xt 9 nd_law) (fun env he => swap_no env he (by rfl)) (fun env he => swap_none env he (by rfl)) (fun _ => rfl))
    (rs_cons (rs_asg (re_cmp (fun _ _ C => o_le C) (re_attr (xv 8) (fc_cons (T.clsF (fm 11 rfl) (fm 12 rfl) (fm 15 rfl)) (fc_nil)) (fun _ => rfl)) (re_int) rfl) (xt 13 nd_law) (fun env he => swap_no env he (by rfl)) (fun env he => swap_none env he (by rfl)) (fun _ => rfl))
    (rs_cons (rs_setLc (i := 14) (own := [("one", 24)]) nd_law rfl rfl (fun env he => swap_yes env he (by rfl)) rfl (ri_src (xv 4)) (blkOk_by (by decide +kernel)) (xn 24 nd_law) (.one (rt_val (re_call (c_law_done_5 T TB) (by decide) rfl (ra_cons (xv 9) (ra_cons (xv 13) (ra_cons (re_ix (xv 24) (re_int) (fun _ _ => rfl)) (ra_cons (re_ix (xv 24) (re_int) (fun _ _ => rfl)) (ra_cons (re_op (fun _ _ C => o_sub C) (re_callB (fun _ _ C => c_len C) rfl (T.free (fm 14 rfl)) rfl (ra_cons (xv 9) (ra_nil) (fun _ => rfl)) (fun _ => rfl) (fun _ => rfl)) (re_int)) (ra_nil) (fun _ => rfl)) (fun _ => rfl)) (fun _ => rfl)) (fun _ => rfl)) (fun _ => rfl)) (fun _ => rfl) (fun _ => rfl)) (fun _ _ => rfl))) (xv 24) (fun _ _ => rfl))
    (rs_cons (rs_if (rt_cmp (fun _ _ C => o_ne C) (re_lc (own := [("move", 23)]) nd_law rfl (ri_src (xv 3)) (blkOk_by (by decide +kernel)) (xn 23 nd_law) (.one (rt_val (re_meth (k := 2) (xv 23) (mt_cons (((c_Move_is_done_2 T TB)).up (by decide)) (mt_nil)) (by decide) (ra_cons (xv 8) (ra_nil) (fun _ => rfl)) (fun _ => rfl) (fun _ => rfl) (fun _ => rfl)) (fun _ _ => rfl))) (re_attr (xv 23) (fc_cons (T.clsF (fm 5 rfl) (fm 6 rfl) (fm 7 rfl)) (fc_nil)) (fun _ => rfl)) (fun _ _ => rfl)) (re_lc (own := [("one", 24)]) nd_law rfl (ri_src (xv 14)) (blkOk_by (by decide +kernel)) (xn 24 nd_law) (.nil) (re_ix (xv 24) (re_int) (fun _ _ => rfl)) (fun _ _ => rfl)) rfl)
    (rs_one (rs_ret (re_bl)))
    (rs_nil))
    (rs_cons (rs_asg (re_callB (fun _ _ C => c_max C) rfl (T.free (fm 18 rfl)) rfl (ra_cons (re_op (fun _ _ C => o_add C) (re_lc (own := [("one", 24)]) nd_law rfl (ri_src (xv 14)) (blkOk_by (by decide +kernel)) (xn 24 nd_law) (.nil) (re_callB (fun _ _ C => c_len C) rfl (T.free (fm 14 rfl)) rfl (ra_cons (re_ix (xv 24) (re_int) (fun _ _ => rfl)) (ra_nil) (fun _ => rfl)) (fun _ => rfl) (fun _ => rfl)) (fun _ _ => rfl)) (re_lst false (ra_cons (re_int) (ra_nil) (fun _ => rfl)))) (ra_nil) (fun _ => rfl)) (fun _ => rfl) (fun _ => rfl)) (xt 15 nd_law) (fun env he => swap_no env he (by rfl)) (fun env he => swap_none env he (by rfl)) (fun _ => rfl))
    (rs_cons (rs_if (rt_cmp (fun _ _ C => o_ne C) (re_call (c_best_move_2 T TB) (by decide) rfl (ra_cons (xv 3) (ra_cons (xv 8) (ra_nil) (fun _ => rfl)) (fun _ => rfl)) (fun _ => rfl) (fun _ => rfl)) (re_ix (re_op (fun _ _ C => o_add C) (re_lc (own := [("one", 24)]) nd_law rfl (ri_src (xv 14)) (blkOk_by (by decide +kernel)) (xn 24 nd_law) (.one (rt_cmp (fun _ _ C => o_eq C) (re_callB (fun _ _ C => c_len C) rfl (T.free (fm 14 rfl)) rfl (ra_cons (re_ix (xv 24) (re_int) (fun _ _ => rfl)) (ra_nil) (fun _ => rfl)) (fun _ => rfl) (fun _ => rfl)) (xv 15) rfl)) (re_ix (xv 24) (re_int) (fun _ _ => rfl)) (fun _ _ => rfl)) (re_lst false (ra_cons (re_non) (ra_nil) (fun _ => rfl)))) (re_int) (fun _ _ => rfl)) rfl)
    (rs_one (rs_ret (re_bl)))
    (rs_nil))
    (rs_cons (rs_par2 (i := 16) (j := 17) nd_law rfl rfl (by decide) rfl rfl (ra_cons (re_ix (xv 2) (re_call (c_law_roll_2 T TB) (by decide) rfl (ra_cons (xv 1) (ra_cons (re_int) (ra_nil) (fun _ => rfl)) (fun _ => rfl)) (fun _ => rfl) (fun _ => rfl)) (fun _ _ => rfl)) (ra_cons (re_call (c_law_roll_2 T TB) (by decide) rfl (ra_cons (xv 1) (ra_cons (re_int) (ra_nil) (fun _ => rfl)) (fun _ => rfl)) (fun _ => rfl) (fun _ => rfl)) (ra_nil) (fun _ => rfl)) (fun _ => rfl)) (fun env he => swap_some env he (by rfl)) (fun env he => swap_no env he (by rfl)))
    (rs_cons (rs_asg (re_and (re_cmp (fun _ _ C => o_lt C) (xv 17) (re_callB (fun _ _ C => c_len C) rfl (T.free (fm 14 rfl)) rfl (ra_cons (xv 9) (ra_nil) (fun _ => rfl)) (fun _ => rfl) (fun _ => rfl)) rfl) (re_one (re_cmp (fun _ _ C => o_in C) (xv 16) (re_ix (xv 9) (re_op (fun _ _ C => o_sub C) (re_op (fun _ _ C => o_sub C) (re_callB (fun _ _ C => c_len C) rfl (T.free (fm 14 rfl)) rfl (ra_cons (xv 9) (ra_nil) (fun _ => rfl)) (fun _ => rfl) (fun _ => rfl)) (re_int)) (xv 17)) (fun _ _ => rfl)) rfl))) (xt 18 nd_law) (fun env he => swap_no env he (by rfl)) (fun env he => swap_none env he (by rfl)) (fun _ => rfl))
    (rs_cons (rs_asg (re_and (re_cmp (fun _ _ C => o_lt C) (re_op (fun _ _ C => o_add C) (xv 17) (re_int)) (re_callB (fun _ _ C => c_len C) rfl (T.free (fm 14 rfl)) rfl (ra_cons (xv 9) (ra_nil) (fun _ => rfl)) (fun _ => rfl) (fun _ => rfl)) rfl) (re_one (re_cmp (fun _ _ C => o_in C) (xv 16) (re_ix (xv 9) (re_op (fun _ _ C => o_sub C) (re_op (fun _ _ C => o_sub C) (re_callB (fun _ _ C => c_len C) rfl (T.free (fm 14 rfl)) rfl (ra_cons (xv 9) (ra_nil) (fun _ => rfl)) (fun _ => rfl) (fun _ => rfl)) (re_int)) (xv 17)) (fun _ _ => rfl)) rfl))) (xt 19 nd_law) (fun env he => swap_no env he (by rfl)) (fun env he => swap_none env he (by rfl)) (fun _ => rfl))
    (rs_cons (rs_asg (re_or (re_cmp (fun _ _ C => o_lt C) (re_op (fun _ _ C => o_add C) (xv 17) (re_int)) (re_callB (fun _ _ C => c_len C) rfl (T.free (fm 14 rfl)) rfl (ra_cons (xv 9) (ra_nil) (fun _ => rfl)) (fun _ => rfl) (fun _ => rfl)) rfl) (re_one (xv 13))) (xt 20 nd_law) (fun env he => swap_no env he (by rfl)) (fun env he => swap_none env he (by rfl)) (fun _ => rfl))
    (rs_cons (rs_asg (re_int) (xt 21 nd_law) (fun env he => swap_no env he (by rfl)) (fun env he => swap_none env he (by rfl)) (fun _ => rfl))
    (rs_cons (rs_while (rt_w (rw_and (rt_cmp (fun _ _ C => o_lt C) (xv 21) (re_callB (fun _ _ C => c_len C) rfl (T.free (fm 14 rfl)) rfl (ra_cons (xv 9) (ra_nil) (fun _ => rfl)) (fun _ => rfl) (fun _ => rfl)) rfl) (rw_and1 (rt_cmp (fun _ _ C => o_in C) (xv 16) (re_ix (xv 9) (re_op (fun _ _ C => o_sub C) (re_op (fun _ _ C => o_sub C) (re_callB (fun _ _ C => c_len C) rfl (T.free (fm 14 rfl)) rfl (ra_cons (xv 9) (ra_nil) (fun _ => rfl)) (fun _ => rfl) (fun _ => rfl)) (re_int)) (xv 21)) (fun _ _ => rfl)) rfl))))
    (rs_one (rs_asg (re_op (fun _ _ C => o_add C) (xv 21) (re_int)) (xt 21 nd_law) (fun env he => swap_no env he (by rfl)) (fun env he => swap_none env he (by rfl)) (fun _ => rfl))))
    (rs_one (rs_if (rt_w (rw_or (rt_cmp (fun _ _ C => o_ne C) (re_meth (k := 2) (xv 8) (mt_cons (((c_Pad_is_down_3 T TB)).up (by decide)) (mt_nil)) (by decide) (ra_cons (xv 16) (ra_cons (xv 17) (ra_nil) (fun _ => rfl)) (fun _ => rfl)) (fun _ => rfl) (fun _ => rfl) (fun _ => rfl)) (xv 18) rfl) (rw_or (rt_cmp (fun _ _ C => o_ne C) (re_meth (k := 3) (xv 8) (mt_cons (((c_Pad_came_down_3 T TB)).up (by decide)) (mt_nil)) (by decide) (ra_cons (xv 16) (ra_cons (xv 17) (ra_nil) (fun _ => rfl)) (fun _ => rfl)) (fun _ => rfl) (fun _ => rfl) (fun _ => rfl)) (re_and (xv 18) (re_and (xv 20) (re_one (re_not (xv 19))))) rfl) (rw_or (rt_cmp (fun _ _ C => o_ne C) (re_meth (k := 3) (xv 8) (mt_cons (((c_Pad_held_2 T TB)).up (by decide)) (mt_nil)) (by decide) (ra_cons (xv 16) (ra_nil) (fun _ => rfl)) (fun _ => rfl) (fun _ => rfl) (fun _ => rfl)) (xv 21) rfl) (rw_or1 (rt_cmp (fun _ _ C => o_ne C) (re_attr (xv 8) (fc_cons (T.clsF (fm 11 rfl) (fm 12 rfl) (fm 15 rfl)) (fc_nil)) (fun _ => rfl)) (re_op (fun _ _ C => o_add C) (xv 10) (re_int)) rfl))))))
    (rs_one (rs_ret (re_bl)))
    (rs_nil))))))))))))))))))) (fun _ _ => rfl)))))) (fun _ _ => rfl))
    (rs_cons (rs_asg (re_lst false (ra_cons (re_lam (ltab_law TB rfl) rfl rfl TL.M (by decide +kernel) (lamS_by (by decide +kernel)) (fun _ => rfl) (fun a c => (TL.R _ _ _ _ _).mpr ⟨("L0", _), List.mem_of_getElem? (i := 0) rfl, rfl, _, _, _, _, rfl, rfl, rfl⟩)) (ra_cons (re_lam (ltab_law TB rfl) rfl rfl TL.M (by decide +kernel) (lamS_by (by decide +kernel)) (fun _ => rfl) (fun a c => (TL.R _ _ _ _ _).mpr ⟨("L1", _), List.mem_of_getElem? (i := 1) rfl, rfl, _, _, _, _, rfl, rfl, rfl⟩)) (ra_cons (re_lam (ltab_law TB rfl) rfl rfl TL.M (by decide +kernel) (lamS_by (by decide +kernel)) (fun _ => rfl) (fun a c => (TL.R _ _ _ _ _).mpr ⟨("L2", _), List.mem_of_getElem? (i := 2) rfl, rfl, _, _, _, _, rfl, rfl, rfl⟩)) (ra_nil) (fun _ => rfl)) (fun _ => rfl)) (fun _ => rfl))) (xt 22 nd_law) (fun env he => swap_no env he (by rfl)) (fun env he => swap_none env he (by rfl)) (fun _ => rfl))
    (rs_cons (rs_asg (re_op (fun _ _ C => o_add C) (xv 22) (re_lst false (ra_cons (re_lam (ltab_law TB rfl) rfl rfl TL.M (by decide +kernel) (lamS_by (by decide +kernel)) (fun _ => rfl) (fun a c => (TL.R _ _ _ _ _).mpr ⟨("L3", _), List.mem_of_getElem? (i := 3) rfl, rfl, _, _, _, _, rfl, rfl, rfl⟩)) (ra_cons (re_lam (ltab_law TB rfl) rfl rfl TL.M (by decide +kernel) (lamS_by (by decide +kernel)) (fun _ => rfl) (fun a c => (TL.R _ _ _ _ _).mpr ⟨("L4", _), List.mem_of_getElem? (i := 4) rfl, rfl, _, _, _, _, rfl, rfl, rfl⟩)) (ra_cons (re_lam (ltab_law TB rfl) rfl rfl TL.M (by decide +kernel) (lamS_by (by decide +kernel)) (fun _ => rfl) (fun a c => (TL.R _ _ _ _ _).mpr ⟨("L5", _), List.mem_of_getElem? (i := 5) rfl, rfl, _, _, _, _, rfl, rfl, rfl⟩)) (ra_nil) (fun _ => rfl)) (fun _ => rfl)) (fun _ => rfl)))) (xt 22 nd_law) (fun env he => swap_no env he (by rfl)) (fun env he => swap_none env he (by rfl)) (fun _ => rfl))
    (rs_cons (rs_asg (re_op (fun _ _ C => o_add C) (xv 22) (re_lst false (ra_cons (re_lam (ltab_law TB rfl) rfl rfl TL.M (by decide +kernel) (lamS_by (by decide +kernel)) (fun _ => rfl) (fun a c => (TL.R _ _ _ _ _).mpr ⟨("L6", _), List.mem_of_getElem? (i := 6) rfl, rfl, _, _, _, _, rfl, rfl, rfl⟩)) (ra_cons (re_lam (ltab_law TB rfl) rfl rfl TL.M (by decide +kernel) (lamS_by (by decide +kernel)) (fun _ => rfl) (fun a c => (TL.R _ _ _ _ _).mpr ⟨("L7", _), List.mem_of_getElem? (i := 7) rfl, rfl, _, _, _, _, rfl, rfl, rfl⟩)) (ra_cons (re_lam (ltab_law TB rfl) rfl rfl TL.M (by decide +kernel) (lamS_by (by decide +kernel)) (fun _ => rfl) (fun a c => (TL.R _ _ _ _ _).mpr ⟨("L8", _), List.mem_of_getElem? (i := 8) rfl, rfl, _, _, _, _, rfl, rfl, rfl⟩)) (ra_nil) (fun _ => rfl)) (fun _ => rfl)) (fun _ => rfl)))) (xt 22 nd_law) (fun env he => swap_no env he (by rfl)) (fun env he => swap_none env he (by rfl)) (fun _ => rfl))
    (rs_cons (rs_asg (re_op (fun _ _ C => o_add C) (xv 22) (re_lst false (ra_cons (re_lam (ltab_law TB rfl) rfl rfl TL.M (by decide +kernel) (lamS_by (by decide +kernel)) (fun _ => rfl) (fun a c => (TL.R _ _ _ _ _).mpr ⟨("L9", _), List.mem_of_getElem? (i := 9) rfl, rfl, _, _, _, _, rfl, rfl, rfl⟩)) (ra_cons (re_lam (ltab_law TB rfl) rfl rfl TL.M (by decide +kernel) (lamS_by (by decide +kernel)) (fun _ => rfl) (fun a c => (TL.R _ _ _ _ _).mpr ⟨("L10", _), List.mem_of_getElem? (i := 10) rfl, rfl, _, _, _, _, rfl, rfl, rfl⟩)) (ra_nil) (fun _ => rfl)) (fun _ => rfl)))) (xt 22 nd_law) (fun env he => swap_no env he (by rfl)) (fun env he => swap_none env he (by rfl)) (fun _ => rfl))
    (rs_cons (rs_if (rt_w (rw_or (rt_cmp (fun _ _ C => o_ne C) (bad_law T TB TL (k := 6) (own := [("f", 27)]) (i := 27) nd_law (by decide +kernel) rfl (by decide +kernel) (lams_cons rfl (by decide) (re_call (c_pressed_number_1 T TB) (by decide) rfl (ra_cons (re_lst false (ra_cons (re_str) (ra_nil) (fun _ => rfl))) (ra_nil) (fun _ => rfl)) (fun _ => rfl) (fun _ => rfl)) (lamS_by (by decide +kernel)) (fun _ _ _ _ _ => rfl) (lams_cons rfl (by decide) (re_call (c_pressed_names_1 T TB) (by decide) rfl (ra_cons (re_int) (ra_nil) (fun _ => rfl)) (fun _ => rfl) (fun _ => rfl)) (lamS_by (by decide +kernel)) (fun _ _ _ _ _ => rfl) (lams_cons rfl (by decide) (re_call (c_pressed_names_1 T TB) (by decide) rfl (ra_cons (re_un (fun _ _ C => o_neg C) (re_int)) (ra_nil) (fun _ => rfl)) (fun _ => rfl) (fun _ => rfl)) (lamS_by (by decide +kernel)) (fun _ _ _ _ _ => rfl) (lams_cons rfl (by decide) (re_make (imm := true) (mk_Move_3 T TB) (by decide) rfl (ra_cons (re_str) (ra_cons (re_tup (ra_nil)) (ra_cons (re_int) (ra_nil) (fun _ => rfl)) (fun _ => rfl)) (fun _ => rfl)) (fun _ => rfl) (fun _ => rfl)) (lamS_by (by decide +kernel)) (fun _ _ _ _ _ => rfl) (lams_cons rfl (by decide) (re_make (imm := true) (mk_Move_3 T TB) (by decide) rfl (ra_cons (re_str) (ra_cons (re_tup (ra_cons (re_tup (ra_cons (re_str) (ra_nil) (fun _ => rfl))) (ra_nil) (fun _ => rfl))) (ra_cons (re_int) (ra_nil) (fun _ => rfl)) (fun _ => rfl)) (fun _ => rfl)) (fun _ => rfl) (fun _ => rfl)) (lamS_by (by decide +kernel)) (fun _ _ _ _ _ => rfl) (lams_cons rfl (by decide) (re_make (imm := true) (mk_Move_3 T TB) (by decide) rfl (ra_cons (re_str) (ra_cons (re_tup (ra_cons (re_tup (ra_cons (re_str) (ra_nil) (fun _ => rfl))) (ra_cons (re_tup (ra_nil)) (ra_nil) (fun _ => rfl)) (fun _ => rfl))) (ra_cons (re_int) (ra_nil) (fun _ => rfl)) (fun _ => rfl)) (fun _ => rfl)) (fun _ => rfl) (fun _ => rfl)) (lamS_by (by decide +kernel)) (fun _ _ _ _ _ => rfl) (lams_cons rfl (by decide) (re_make (imm := true) (mk_Move_3 T TB) (by decide) rfl (ra_cons (re_str) (ra_cons (re_tup (ra_cons (re_tup (ra_cons (re_str) (ra_nil) (fun _ => rfl))) (ra_nil) (fun _ => rfl))) (ra_cons (re_int) (ra_nil) (fun _ => rfl)) (fun _ => rfl)) (fun _ => rfl)) (fun _ => rfl) (fun _ => rfl)) (lamS_by (by decide +kernel)) (fun _ _ _ _ _ => rfl) (lams_cons rfl (by decide) (re_make (imm := true) (mk_Move_3 T TB) (by decide) rfl (ra_cons (re_str) (ra_cons (re_tup (ra_cons (re_tup (ra_cons (re_str) (ra_nil) (fun _ => rfl))) (ra_nil) (fun _ => rfl))) (ra_cons (re_int) (ra_nil) (fun _ => rfl)) (fun _ => rfl)) (fun _ => rfl)) (fun _ => rfl) (fun _ => rfl)) (lamS_by (by decide +kernel)) (fun _ _ _ _ _ => rfl) (lams_cons rfl (by decide) (re_meth (k := 5) (re_make0 (imm := false) (mk_Pad_0 T TB) (by decide) rfl) (mt_cons (((c_Pad_note_2 T TB)).up (by decide)) (mt_nil)) (by decide) (ra_cons (re_int) (ra_nil) (fun _ => rfl)) (fun _ => rfl) (fun _ => rfl) (fun _ => rfl)) (lamS_by (by decide +kernel)) (fun _ _ _ _ _ => rfl) (lams_cons rfl (by decide) (re_meth (k := 2) (re_make0 (imm := false) (mk_Pad_0 T TB) (by decide) rfl) (mt_cons (((c_Pad_is_down_2 T TB)).up (by decide)) (mt_nil)) (by decide) (ra_cons (re_str) (ra_nil) (fun _ => rfl)) (fun _ => rfl) (fun _ => rfl) (fun _ => rfl)) (lamS_by (by decide +kernel)) (fun _ _ _ _ _ => rfl) (lams_cons rfl (by decide) (re_meth (k := 2) (re_make0 (imm := false) (mk_Pad_0 T TB) (by decide) rfl) (mt_cons (((c_Pad_is_down_3 T TB)).up (by decide)) (mt_nil)) (by decide) (ra_cons (re_str) (ra_cons (re_un (fun _ _ C => o_neg C) (re_int)) (ra_nil) (fun _ => rfl)) (fun _ => rfl)) (fun _ => rfl) (fun _ => rfl) (fun _ => rfl)) (lamS_by (by decide +kernel)) (fun _ _ _ _ _ => rfl) (lams_nil)))))))))))) (ri_src (xv 22)) (blkOk_by (by decide +kernel)) rfl rfl (loc_ok rfl) (fk_ok rfl) rfl (ex_cons (T.exm (fm 1 rfl) (fm 1 rfl) (fm 24 rfl)) (ex_nil)) (by decide) (fun _ _ => rfl)) (re_lst false (ra_nil)) rfl) (rw_or1 (rt_cmp (fun _ _ C => o_ne C) (re_tup (ra_cons (re_callTy (fun _ _ C => c_list false C) rfl (T.free (fm 23 rfl)) rfl (ra_cons (re_gcst (TB.cst _ (List.mem_of_getElem? (i := 0) rfl)) rfl) (ra_nil) (fun _ => rfl)) (fun _ => rfl) (fun _ => rfl)) (ra_cons (re_gint T (fm 4 rfl) rfl) (ra_nil) (fun _ => rfl)) (fun _ => rfl))) (re_tup (ra_cons (re_lst false (ra_cons (re_str) (ra_cons (re_str) (ra_cons (re_str) (ra_cons (re_str) (ra_cons (re_str) (ra_cons (re_str) (ra_cons (re_str) (ra_nil) (fun _ => rfl)) (fun _ => rfl)) (fun _ => rfl)) (fun _ => rfl)) (fun _ => rfl)) (fun _ => rfl)) (fun _ => rfl))) (ra_cons (re_int) (ra_nil) (fun _ => rfl)) (fun _ => rfl))) rfl))))
    (rs_one (rs_ret (re_bl)))
    (rs_nil))
    (rs_cons (rs_asg (re_tup (ra_cons (re_make0 (imm := false) (mk_Pad_0 T TB) (by decide) rfl) (ra_cons (re_make (imm := true) (mk_Move_3 T TB) (by decide) rfl (ra_cons (re_str) (ra_cons (re_tup (ra_cons (re_tup (ra_cons (re_str) (ra_nil) (fun _ => rfl))) (ra_cons (re_tup (ra_cons (re_str) (ra_nil) (fun _ => rfl))) (ra_cons (re_tup (ra_cons (re_str) (ra_nil) (fun _ => rfl))) (ra_nil) (fun _ => rfl)) (fun _ => rfl)) (fun _ => rfl))) (ra_cons (re_int) (ra_nil) (fun _ => rfl)) (fun _ => rfl)) (fun _ => rfl)) (fun _ => rfl) (fun _ => rfl)) (ra_nil) (fun _ => rfl)) (fun _ => rfl))) (rg_tup (n := 2) (rgs_cons (xt 8 nd_law) (rgs_cons (xt 23 nd_law) (rgs_nil) (fun _ => rfl)) (fun _ => rfl)) (fun _ => rfl) (fun _ => rfl)) (fun env he => swap_no env he (by rfl)) (fun env he => swap_none env he (by rfl)) (fun _ => rfl))
    (rs_cons (rs_for (ri_src (re_lst false (ra_cons (re_lst false (ra_cons (re_str) (ra_nil) (fun _ => rfl))) (ra_cons (re_lst false (ra_cons (re_str) (ra_cons (re_str) (ra_nil) (fun _ => rfl)) (fun _ => rfl))) (ra_cons (re_lst false (ra_cons (re_str) (ra_cons (re_str) (ra_nil) (fun _ => rfl)) (fun _ => rfl))) (ra_nil) (fun _ => rfl)) (fun _ => rfl)) (fun _ => rfl)))) (xt 11 nd_law)
    (rs_one (rs_expr (re_meth (k := 5) (xv 8) (mt_cons (((c_Pad_note_2 T TB)).up (by decide)) (mt_nil)) (by decide) (ra_cons (re_call (c_pressed_number_1 T TB) (by decide) rfl (ra_cons (xv 11) (ra_nil) (fun _ => rfl)) (fun _ => rfl) (fun _ => rfl)) (ra_nil) (fun _ => rfl)) (fun _ => rfl) (fun _ => rfl) (fun _ => rfl)) (fun _ => rfl))) (fun _ _ => rfl))
    (rs_one (rs_ret (re_and (re_meth (k := 2) (xv 23) (mt_cons (((c_Move_is_done_2 T TB)).up (by decide)) (mt_nil)) (by decide) (ra_cons (xv 8) (ra_nil) (fun _ => rfl)) (fun _ => rfl) (fun _ => rfl) (fun _ => rfl)) (re_and (re_meth (k := 1) (xv 23) (mt_cons (((c_Move_comes_4 T TB)).up (by decide)) (mt_nil)) (by decide) (ra_cons (xv 8) (ra_cons (re_int) (ra_cons (re_int) (ra_nil) (fun _ => rfl)) (fun _ => rfl)) (fun _ => rfl)) (fun _ => rfl) (fun _ => rfl) (fun _ => rfl)) (re_and (re_not (re_meth (k := 1) (xv 23) (mt_cons (((c_Move_comes_4 T TB)).up (by decide)) (mt_nil)) (by decide) (ra_cons (xv 8) (ra_cons (re_int) (ra_cons (re_int) (ra_nil) (fun _ => rfl)) (fun _ => rfl)) (fun _ => rfl)) (fun _ => rfl) (fun _ => rfl) (fun _ => rfl))) (re_one (re_cmp (fun _ _ C => o_is C) (re_call (c_best_move_2 T TB) (by decide) rfl (ra_cons (re_lst false (ra_nil)) (ra_cons (xv 8) (ra_nil) (fun _ => rfl)) (fun _ => rfl)) (fun _ => rfl) (fun _ => rfl)) (re_non) rfl))))))))))))))
/-! the head, the end -/
abbrev RR : PySem.W.OpenRow := PySem.W.OpenLaw.row LW
abbrev hk : PySem.W.Hook := He.hookX 5 fa fn [] tf exB
def ob (s : PySem.W.SharedT) : He.AlX := He.obsX 5 fa fn [] tf exB (HandSHeadRun.getT s)
theorem ob_eq (s : PySem.W.SharedT) : ob s = hk.obs s.abs := He.obsX_eq (HandSHeadRun.getT_eq s)
def others : List PySem.Str := ["GameError", "PlayError", "Pad", "Move", "BUTTONS", "KEPT", "pressed_number", "pressed_names", "best_move", "_law_dice", "_law_roll", "_law_rounds", "_law_told", "_law_comes", "_law_done"]
theorem run (w : World) : HandSHeadRun.RunEq RR (PySem.W.view RR.prog [18]) hk ob 6000 others w := by
  intro os
  kernel_rfl
/-- cl: the cells of the law's own frame -/
def gL (P : Program) (w : World) (K : PySem.W.Frag) (mg : Str → Option Value) (base : Heap) (cl : List (Str × Addr)) : G where
  P := P
  w := w
  K := K
  mg := mg
  base := base
  tb := TabsA (tabsOf K)
  cods := codsOf K
  lamR := lamRT ltab ("law.<locals>." ++ "<lambda>") cl
  lamC := cl
  lamM := some ".law"
  tbk := fun H H' k t => t.keep k
/-- the law's own words: what the ghost answers -/
def Keeps : Prop := ∀ ns : List Int, ns.length ≤ 63 → (∀ z ∈ ns, Builtin.Int.intBits z ≤ 1048576) → ∃ S, F_law [.sq (ns.map .int)] [] = .ok (.bl true) S
theorem facts (hm : Keeps) {P : Program} {w : World} {K : PySem.W.Frag} {h : Heap} {mg : Str → Option Value} {f : Addr} (X : K.In h) (Gn : h.Ns mainGlobals mg) (hfa : mg ("law" : Str) = some (.ref f)) (c : He.SaysX fa fn [] tf exB w h K) : EndOk P w h mg f 9 := by
  have hd : ∀ f ∈ fa, f.ok K = true := fun f hf => c.t.d.facts hf
  have hdf : ∀ d ∈ fn, ∃ fd, FunD K d.name d.qual d.params d.body d.scope (d.dvs K) (d.kws K) (He.fAd K d.at_) fd := fun d h => c.t.d.defs h
  obtain ⟨ex0, ex3⟩ := He.ba (show ((cstsB csts K && decide ((tabsOf K).map (·.1)).Nodup) && nstB nsts K) = true from c.more)
  obtain ⟨ex1, ex2⟩ := He.ba ex0
  have eL : f = He.fAd K d_law.at_ := by
    have z := He.glo_ok X Gn (hd _ (fm 0 rfl : He.Fa.glo "law" ∈ fa))
    rw [hfa] at z
    cases z; rfl
  obtain ⟨fd, FD⟩ := hdf d_law (dm 17 rfl)
  have hb := FunD.bindsA (ps := ["script"]) FD fun _ _ _ _ _ _ us hl => match us, hl with | [_], _ => rfl
  refine end_law (tf := tf) (T := tabsOf K) X c (fun p hp => tabs_cT hp) fd (fun s v => hb s [v] rfl) fun base KX Gb hTB => ?_
  rw [eL]
  have TB : ∀ cl, Tbs (gL P w K mg base cl) := fun cl => ⟨rfl, fun _ => Iff.rfl, fun e he => hTB (e.2.2.1, e.2.2.2) (cods_cT he), of_decide_eq_true ex2, csts_ok (g := gL P w K mg base cl) KX Gb ex1, nst_ok (g := gL P w K mg base cl) KX Gb ex3, fun m e => (Option.some.inj e).symm⟩
  refine fnOk_law (gL := gL P w K mg base) (L := 8) (m := m_law) (funC_of FD) sc_law (fun cl => ⟨rfl, rfl, rfl, rfl, rfl, rfl, fun _ => Iff.rfl⟩) (fun cl => r_law ⟨hd, hdf, KX, Gb⟩ (TB cl) ⟨rfl, fun _ _ _ _ _ => Iff.rfl⟩) (fun cl e he hn => ?_) hm
  have he : e ∈ codsOf K := he
  simp only [codsOf, List.mem_cons, List.not_mem_nil, or_false] at he
  rcases he with rfl | rfl | rfl
  · exact absurd (show ((".Move_init" : Str) ∈ N_law) from hn) (by decide +kernel)
  · exact absurd (show ((".pressed_names" : Str) ∈ N_law) from hn) (by decide +kernel)
  · exact ⟨rfl, rfl⟩

end K12
open PySem PySem.W PySem.Calls PyProof.Rows in
set_option maxRecDepth 100000 in
set_option maxHeartbeats 0 in
theorem K12_end (hm : K12.Keeps) : PySem.Challenge.rw_gamestack_k12_moves_found_in_buttons.Holds := by
  w_on; o_law
  refine HandSHeadRun.head_any (r := OpenLaw.row PySem.Challenge.rw_gamestack_k12_moves_found_in_buttons) (q := view (OpenLaw.row PySem.Challenge.rw_gamestack_k12_moves_found_in_buttons).prog [18]) (H := K12.hk) (ob := K12.ob) (M := 6000) (loose := K12.others) (d := HandSHeadRun.topDef (OpenLaw.row PySem.Challenge.rw_gamestack_k12_moves_found_in_buttons).prog 18) (kwd := []) K12.ob_eq
    (by kernel_rfl) (fun s => by kernel_rfl) K12.run (by kernel_rfl) (by kernel_rfl) (by kernel_rfl) (by rfl) (by first | assumption | decide +kernel) (by decide +kernel) ⟨rfl, rfl, rfl, rfl, rfl, by decide +kernel⟩ ?hw ?hc
  case hw => w_witness2
  case hc =>
    refine Gp.walk_G (l := PySem.Challenge.rw_gamestack_k12_moves_found_in_buttons) (n := 63) (k := 9) (x := "script") rfl (by decide) (by kernel_rfl) ⟨rfl, by decide, by decide⟩ ?F
    intro w mg fa h Y G hmg0
    obtain ⟨K, KX, c⟩ := Y
    have e : (HandSHeadRun.topDef (OpenLaw.row PySem.Challenge.rw_gamestack_k12_moves_found_in_buttons).prog 18).name = ("law" : PySem.Str) := by kernel_rfl
    rw [e] at hmg0
    exact K12.facts hm KX G hmg0 c


set_option Elab.async false
set_option linter.all false
set_option maxRecDepth 100000
set_option maxHeartbeats 2000000
/-! K12b: buttons, their numbers -/
namespace K12
open PySem PySem.Spec L2 Gp
def nm : Nat → Str
  | 0 => "up"
  | 1 => "down"
  | 2 => "left"
  | 3 => "right"
  | 4 => "hit"
  | 5 => "jump"
  | _ => "block"
abbrev nms : List Str := (List.range 7).map nm
theorem but_eq : k_BUTTONS = .kt (nms.map .str) := rfl
theorem nm_inj {i j : Nat} (hi : i < 7) (hj : j < 7) (h : nm i = nm j) : i = j := by
  have : ∀ i : Fin 7, ∀ j : Fin 7, nm i = nm j → i = j := by decide +kernel
  exact congrArg Fin.val (this ⟨i, hi⟩ ⟨j, hj⟩ h)
theorem pos_nm {i : Nat} (hi : i < 7) : posOf (nm i) nms = some i := by
  have : ∀ i : Fin 7, posOf (nm i) nms = some i.val := by decide +kernel
  exact this ⟨i, hi⟩
theorem nm_in {i : Nat} (hi : i < 7) : nm i ∈ nms := List.mem_map.mpr ⟨i, List.mem_range.mpr hi, rfl⟩
abbrev strL (js : List Nat) : List D := js.map fun j => .str (nm j)
theorem strL_eq {js : List Nat} : strL js = (js.map nm).map .str := by simp
/-- the number of some buttons -/
def sN (js : List Nat) : Nat := js.foldl (fun a j => a ||| (1 <<< j)) 0
theorem sN_app {js : List Nat} {j : Nat} : sN (js ++ [j]) = sN js ||| (1 <<< j) := by simp [sN]
theorem sN_bit {i : Nat} : ∀ {js : List Nat} {a : Nat}, (js.foldl (fun a j => a ||| (1 <<< j)) a).testBit i = (a.testBit i || decide (i ∈ js))
  | [], a => by simp
  | j :: js, a => by
    rw [List.foldl_cons, sN_bit (js := js)]
    rw [Nat.testBit_or, Bool.or_assoc]
    congr 1
    have : (1 <<< j).testBit i = decide (j = i) := by rw [Nat.one_shiftLeft, Nat.testBit_two_pow]
    rw [this]
    by_cases h : j = i
    · subst h; simp
    · have h2 : ¬ i = j := fun e => h e.symm
      simp [h, h2]
/-- all buttons of st are there -/
def hasB (m st : Nat) : Bool := (m &&& st) == st
theorem has_iff {m : Nat} {js : List Nat} : hasB m (sN js) = true ↔ ∀ j ∈ js, m.testBit j = true := by
  simp only [hasB, beq_iff_eq]
  constructor
  · intro h j hj
    have e := congrArg (fun x => x.testBit j) h
    simp only [Nat.testBit_and] at e
    have : (sN js).testBit j = true := by unfold sN; rw [sN_bit]; simp [hj]
    rw [this, Bool.and_true] at e
    exact e
  · intro h
    apply Nat.eq_of_testBit_eq
    intro i
    rw [Nat.testBit_and]
    have e : (sN js).testBit i = decide (i ∈ js) := by unfold sN; rw [sN_bit]; simp
    rw [e]
    by_cases hi : i ∈ js
    · simp [hi, h i hi]
    · simp [hi]
/-- the buttons of a number -/
def rowL (m : Nat) : List Nat := (List.range 7).filter fun i => m.testBit i
theorem row_mem {m i : Nat} : i ∈ rowL m ↔ i < 7 ∧ m.testBit i = true := by simp [rowL]
theorem row_lt {m : Nat} : ∀ j ∈ rowL m, j < 7 := fun j h => (row_mem.mp h).1
/-- a row that is drawn -/
structure RowI (i : Nat) (js : List Nat) (m : Nat) : Prop where
  lt : m < 2 ^ i
  row : js = (List.range i).filter fun k => m.testBit k
  sum : (js.map fun j => ((1 <<< j : Nat) : Int)).sum = (m : Int)
  num : sN js = m
theorem RowI.zero : RowI 0 [] 0 := ⟨by simp, by simp, by simp, rfl⟩
theorem RowI.skip {i m : Nat} {js : List Nat} (h : RowI i js m) : RowI (i + 1) js m := by
  refine ⟨Nat.lt_of_lt_of_le h.lt (Nat.pow_le_pow_right (by omega) (by omega)), ?_, h.sum, h.num⟩
  rw [List.range_succ, List.filter_append, ← h.row]
  simp [Nat.testBit_lt_two_pow h.lt]
theorem RowI.add {i m : Nat} {js : List Nat} (h : RowI i js m) : RowI (i + 1) (js ++ [i]) (2 ^ i + m) := by
  have hb : (2 ^ i + m).testBit i = true := by rw [Nat.testBit_two_pow_add_eq, Nat.testBit_lt_two_pow h.lt]; rfl
  refine ⟨by have := h.lt; rw [Nat.pow_succ]; omega, ?_, ?_, ?_⟩
  · rw [List.range_succ, List.filter_append]
    congr 1
    · rw [h.row]
      apply List.filter_congr
      intro k hk
      rw [List.mem_range] at hk
      rw [Nat.testBit_two_pow_add_gt hk]
    · simp [hb]
  · rw [List.map_append, List.sum_append, h.sum]
    simp only [List.map_cons, List.map_nil, List.sum_cons, List.sum_nil, Nat.one_shiftLeft]
    omega
  · rw [sN_app, h.num, Nat.one_shiftLeft]
    have := Nat.two_pow_add_eq_or_of_lt h.lt 1
    rw [Nat.mul_one] at this
    rw [this, Nat.or_comm]
theorem RowI.rowL {js : List Nat} {m : Nat} (h : RowI 7 js m) : js = rowL m := h.row
section
variable {S : Sto} {js : List Nat} {m j : Nat} {d : D}
theorem in_but (h : j < 7) : gIn false (.str (nm j)) k_BUTTONS S = some (.bl false, S) := by
  rw [but_eq, gIn_kt_strs]
  simp [nm_in h]
theorem ix_but (h : j < 7) : pIndexT k_BUTTONS [.str (nm j)] S = some (.int (j : Nat), S) := by
  rw [but_eq]
  simp only [pIndexT, asT, strsOf_map, pos_nm h, Option.map_some]
theorem fly_but : gIn false (.str "fly") k_BUTTONS S = some (.bl true, S) := by
  rw [but_eq, gIn_kt_strs]
  have : ¬ ("fly" : Str) ∈ nms := by decide +kernel
  simp [this]
/-! ### pressed_number -/
abbrev bNum : GS := sSeq (sIf (gBin (gIn false) (gVar 2) (gC k_BUTTONS)) (sRaise "PlayError") (sNil)) (sAug 1 gIOr (gBin gShl (gC (.int 1)) (gMb "tuple" pIndexT (gC k_BUTTONS) [gVar 2])))
abbrev lpNum (n : Nat) : GS := sFor n (gSrc srcOf (gVar 0)) (tName 2) bNum
theorem bnum_ev {x : Option D} (h : j < 7) : bNum [x, some (.int (m : Nat)), some (.str (nm j))] S = .nx [x, some (.int ((m ||| (1 <<< j) : Nat) : Int)), some (.str (nm j))] S := by
  have e1 := in_but (S := S) h
  have e2 := ix_but (S := S) h
  have e3 : tyG "tuple" k_BUTTONS S = true := rfl
  have e4 := gShl_one (S := S) (j := j) (by omega)
  generalize ((j : Nat) : Int) = jj at *
  generalize 1 <<< j = q at *
  simp -implicitDefEqProofs [e1, e2, e3, e4]
theorem lpnum_ev {n : Nat} (hj : ∀ j ∈ js, j < 7) (hl : js.length < n) (hs : srcOf d S = some (fixL (strL js), S)) (hu : ulOf d S = none) {x : Option D} :
    ∃ y, lpNum n [some d, some (.int ((0 : Nat) : Int)), x] S = .nx [some d, some (.int (sN js : Nat)), y] S := by
  have hit : gSrc srcOf (gVar 0) [some d, some (.int ((0 : Nat) : Int)), x] S = .ok (fixL (strL js)) S none := by
    simp [gSrc, hs, hu]
  have lp := sFor_to (n := n) (t := tName 2) (b := bNum) hit fixL_look (by simpa using hl)
    (fun i ρ U => U = S ∧ ∃ y, ρ = [some d, some (.int (sN (js.take i) : Nat)), y]) (fun _ _ => False) ⟨rfl, x, rfl⟩ (by
      rintro i dd ρ U hd ⟨rfl, y, rfl⟩
      rw [List.getElem?_map] at hd
      obtain ⟨j, ej, rfl⟩ := Option.map_eq_some_iff.mp hd
      rw [ev_tname, sthn_nx]
      simp only [List.set_cons_succ, List.set_cons_zero]
      rw [bnum_ev (hj j (List.mem_of_getElem? ej))]
      refine ⟨rfl, some (.str (nm j)), ?_⟩
      rw [List.take_succ, ej, Option.toList_some, sN_app])
  obtain ⟨ρ, U, e, rfl, y, rfl⟩ := lp.nx
  refine ⟨y, e.trans ?_⟩
  rw [List.length_map, List.take_length]
theorem pnum_ev (hj : ∀ j ∈ js, j < 7) (hl : js.length < 1000) (hs : srcOf d S = some (fixL (strL js), S)) (hu : ulOf d S = none) : F_pressed_number [d] S = .ok (.int (sN js : Nat)) S := by
  obtain ⟨y, e⟩ := lpnum_ev (n := 1000000) (x := none) hj (by omega) hs hu
  have e : lpNum 1000000 [some d, some (.int 0), none] S = .nx [some d, some (.int (sN js : Nat)), y] S := e
  generalize hN : ((sN js : Nat) : Int) = N at *
  simp -implicitDefEqProofs [F_pressed_number, m_pressed_number, startG, ↓e, tdI]
theorem pnum_ls (hj : ∀ j ∈ js, j < 7) (hl : js.length < 1000) : F_pressed_number [.ls (strL js)] S = .ok (.int (sN js : Nat)) S := pnum_ev hj hl rfl rfl
theorem pnum_tup (hj : ∀ j ∈ js, j < 7) (hl : js.length < 1000) : F_pressed_number [.tup (strL js)] S = .ok (.int (sN js : Nat)) S := pnum_ev hj hl rfl rfl
theorem pnum_fly (hs : srcOf d S = some (fixL [.str "fly"], S)) (hu : ulOf d S = none) : F_pressed_number [d] S = .exc "PlayError" S := by
  have hit : gSrc srcOf (gVar 0) [some d, some (.int 0), none] S = .ok (fixL [.str "fly"]) S none := by simp [gSrc, hs, hu]
  have e : lpNum 1000000 [some d, some (.int 0), none] S = .exc "PlayError" [some d, some (.int 0), some (.str "fly")] S := by
    refine sFor_exc (by omega) hit rfl ?_
    have e1 := fly_but (S := S)
    simp -implicitDefEqProofs [e1]
  simp -implicitDefEqProofs [F_pressed_number, m_pressed_number, startG, ↓e]
end
end K12

set_option Elab.async false
set_option linter.all false
set_option maxRecDepth 100000
set_option maxHeartbeats 2000000
/-! K12c: the names of a number; the pad -/
namespace K12
open PySem PySem.Spec L2 Gp
section
variable {S : Sto} {js rs : List Nat} {m j p ago : Nat} {fr : Int}
theorem and_one {m i : Nat} : (((m >>> i) &&& 1 : Nat) : Int) = if m.testBit i then 1 else 0 := by
  rw [Nat.and_one_is_mod, Nat.shiftRight_eq_div_pow, Nat.testBit_eq_decide_div_mod_eq]
  rcases Nat.mod_two_eq_zero_or_one (m / 2 ^ i) with h | h <;> simp [h]
theorem enum_nms : ((nms.map D.str).mapIdx fun i x => D.tup [.int i, x]) = (List.range 7).map fun (i : Nat) => D.tup [.int (i : Int), .str (nm i)] := rfl
abbrev nBut : TN := nTup 2 (nCons (nName 1) (nCons (nName 2) (nNil)))
abbrev cBut : GE := gBin gEq (gBin gBand (gBin gShr (gVar 0) (gVar 1)) (gC (.int 1))) (gC (.int 1))
theorem cbut_ev {i : Nat} {x : Option D} : cBut [some (.int (m : Nat)), some (.int (i : Nat)), x, none] S = .ok (.bl (m.testBit i)) S := by
  have e1 := gShr_nat (S := S) (i := m) (j := i)
  have e2 : gBand (.int ((m >>> i : Nat) : Int)) (.int 1) S = some (.int (((m >>> i) &&& 1 : Nat) : Int), S) := gBand_nat (j := 1)
  rw [and_one] at e2
  generalize ((m >>> i : Nat) : Int) = q at *
  generalize ((i : Nat) : Int) = ii at *
  generalize ((m : Nat) : Int) = mm at *
  by_cases hb : m.testBit i = true
  · simp -implicitDefEqProofs [e1, e2, hb]
  · simp -implicitDefEqProofs [e1, e2, hb]
theorem pnames_ev (hm : m < 128) : F_pressed_names [.int (m : Nat)] S = .ok (.tup (strL (rowL m))) S := by
  have e1 : pLen [k_BUTTONS] S = some (.int 7, S) := rfl
  have e2 : gShl (.int 1) (.int 7) S = some (.int 128, S) := gShl_one (j := 7) (by omega)
  have h1 : (0 : Int) ≤ (m : Int) := by omega
  have h2 : (m : Int) < 128 := by omega
  have hit : gSrcA enumOf [gC k_BUTTONS] [some (.int (m : Nat)), none, none, none] S = .ok (enumLk (fixL (nms.map .str))) S none := enum_kt rfl
  have e3 := gGen_tup (n := 1000000) (t := nBut) (c := some cBut) (e := gVar 2) (vs := [1, 2]) hit enum_look (fun d => match d with | .tup [.int i, x] => if m.testBit i.toNat then some x else none | _ => none) (by
    rw [enum_nms]
    intro d hd
    obtain ⟨i, hi, rfl⟩ := List.mem_map.mp hd
    refine ⟨[some (.int (m : Nat)), some (.int (i : Nat)), some (.str (nm i)), none], rfl, ?_⟩
    have e4 := cbut_ev (S := S) (m := m) (i := i) (x := some (.str (nm i)))
    simp only [Int.toNat_natCast, tstG]
    by_cases hb : m.testBit i = true
    · simp only [hb, if_true] at e4 ⊢
      exact ⟨e4, rfl⟩
    · have hb : m.testBit i = false := by simpa using hb
      simp only [hb, Bool.false_eq_true, if_false] at e4 ⊢
      exact e4) (by simp) (by simp [sizeLine_eq])
  have e5 : (((nms.map D.str).mapIdx fun i x => D.tup [.int i, x]).filterMap fun d => match d with | .tup [.int i, x] => if m.testBit i.toNat then some x else none | _ => none) = strL (rowL m) := by
    rw [enum_nms, List.filterMap_map]
    unfold rowL strL
    rw [← List.filterMap_eq_map, List.filterMap_filter]
    congr 1
  rw [e5] at e3
  have td : tidy S (.ok (.tup (strL (rowL m))) S) = .ok (.tup (strL (rowL m))) S := tidy_id (by
    simp only [fzB, List.all_eq_true]
    intro d hd
    obtain ⟨x, _, rfl⟩ := List.mem_map.mp hd
    rfl)
  generalize ((m : Nat) : Int) = mm at *
  simp -implicitDefEqProofs [F_pressed_names, m_pressed_names, startG, e1, e2, h1, h2, ↓e3, td]
theorem pnames_128 : F_pressed_names [.int 128] S = .exc "PlayError" S := by
  have e1 : pLen [k_BUTTONS] S = some (.int 7, S) := rfl
  have e2 : gShl (.int 1) (.int 7) S = some (.int 128, S) := gShl_one (j := 7) (by omega)
  simp -implicitDefEqProofs [F_pressed_names, m_pressed_names, startG, e1, e2]
theorem pnames_m1 : F_pressed_names [.int (-1)] S = .exc "PlayError" S := by
  simp -implicitDefEqProofs [F_pressed_names, m_pressed_names, startG]
/-! ### the pad -/
def rsD (rs : List Nat) : List D := rs.map fun m => .int (m : Nat)
theorem rsD_len {rs : List Nat} : (rsD rs).length = rs.length := by simp [rsD]
theorem rsD_get {rs : List Nat} {k : Nat} : (rsD rs)[k]? = (rs[k]?).map fun m => .int (m : Nat) := by simp [rsD]
abbrev padC (rs : List Nat) (fr : Int) : Cell := .obj "Pad" [("rows", .ls (rsD rs)), ("frames", .int fr)]
theorem pad_rows (h : S[p]? = some (padC rs fr)) : gAttr ["Pad"] "rows" (.ref p) S = some (.ls (rsD rs), S) := by simp [gAttr, h, lookD]
theorem pad_frames (h : S[p]? = some (padC rs fr)) : gAttr ["Pad"] "frames" (.ref p) S = some (.int fr, S) := by simp [gAttr, h, lookD]
theorem pad_init (h : S[p]? = some (.obj "Pad" [])) : F_Pad_init [.ref p] S = .ok .non (S.set p (padC [] 0)) := by
  have hp := lt_of_get h
  have s1 : setA ["Pad"] "rows" (.ref p) (.ls []) S = some (S.set p (.obj "Pad" [("rows", .ls [])])) := by simp [setA, h]; rfl
  have s2 : setA ["Pad"] "frames" (.ref p) (.int 0) (S.set p (.obj "Pad" [("rows", .ls [])])) = some (S.set p (padC [] 0)) := by
    have := get_set_eq (c := Cell.obj "Pad" [("rows", .ls [])]) hp
    simp [setA, this]; rfl
  simp -implicitDefEqProofs [F_Pad_init, m_Pad_init, startG, s1, s2]
theorem pad_new : Gp.newObj "Pad" F_Pad_init [] S = .ok (.ref S.length) (S ++ [padC [] 0]) := by
  have h1 : (S ++ [Cell.obj "Pad" []])[S.length]? = some (.obj "Pad" []) := get_new
  have e1 := pad_init h1
  rw [set_new] at e1
  simp only [Gp.newObj, e1, Res.bind]
/-- the last sixty -/
def keep (l : List Nat) : List Nat := l.drop (l.length - 60)
theorem note_ev (h : S[p]? = some (padC rs fr)) (hm : m < 128) (hl : rs.length ≤ 60) : F_Pad_note [.ref p, .int (m : Nat)] S = .ok .non (S.set p (padC (keep (rs ++ [m])) (fr + 1))) := by
  have hp := lt_of_get h
  have e1 := pnames_ev (S := S) hm
  have e2 := pad_rows h
  have e3 : gAdd (.ls (rsD rs)) (.ls [.int (m : Nat)]) S = some (.ls (rsD (rs ++ [m])), S) := by
    rw [gAdd_ls (by simp [rsD_len]; omega)]; simp [rsD]
  have e4 : cutD (rsD (rs ++ [m])) (some (-60)) none = rsD (keep (rs ++ [m])) := by
    have := cutD_last (l := rsD (rs ++ [m])) (k := 60) (by omega)
    rw [show (-((60 : Nat) : Int)) = -60 from rfl] at this
    rw [this, rsD_len, keep, rsD, rsD, List.map_drop]
  have s1 : setA ["Pad"] "rows" (.ref p) (.ls (rsD (keep (rs ++ [m])))) S = some (S.set p (padC (keep (rs ++ [m])) fr)) := by simp [setA, h, putD]
  have h2 : (S.set p (padC (keep (rs ++ [m])) fr))[p]? = some (padC (keep (rs ++ [m])) fr) := get_set_eq hp
  have e5 := pad_frames h2
  have s2 : setA ["Pad"] "frames" (.ref p) (.int (fr + 1)) (S.set p (padC (keep (rs ++ [m])) fr)) = some (S.set p (padC (keep (rs ++ [m])) (fr + 1))) := by simp [setA, h2, putD]
  generalize ((m : Nat) : Int) = mm at *
  simp -implicitDefEqProofs [F_Pad_note, m_Pad_note, startG, e1, e2, e3, gSlice_ls, e4, s1, sAugA, e5, s2]
theorem note_128 (h : S[p]? = some (padC rs fr)) : F_Pad_note [.ref p, .int 128] S = .exc "PlayError" S := by
  have e1 := pnames_128 (S := S)
  simp -implicitDefEqProofs [F_Pad_note, m_Pad_note, startG, e1]
end
end K12

set_option Elab.async false
set_option linter.all false
set_option maxRecDepth 100000
set_option maxHeartbeats 2000000
/-! K12d: what the pad tells -/
namespace K12
open PySem PySem.Spec L2 Gp
section
variable {S : Sto} {js rs : List Nat} {m j p ago : Nat} {fr : Int}
theorem and_shl {m j : Nat} : (decide (((m &&& (1 <<< j) : Nat) : Int) ≠ 0)) = m.testBit j := by
  have h : m &&& (1 <<< j) ≠ 0 ↔ m.testBit j = true := by
    rw [Nat.one_shiftLeft]
    constructor
    · intro h
      by_cases hb : m.testBit j = true
      · exact hb
      · exfalso; apply h
        apply Nat.eq_of_testBit_eq
        intro i
        rw [Nat.testBit_and, Nat.testBit_two_pow, Nat.zero_testBit]
        by_cases e : j = i
        · subst e; simp at hb; simp [hb]
        · simp [e]
    · intro h e
      have := congrArg (fun x => x.testBit j) e
      simp only [Nat.testBit_and, Nat.testBit_two_pow, Nat.zero_testBit, h] at this
      simp at this
  by_cases hb : m.testBit j = true
  · rw [hb]; simp only [decide_eq_true_eq]; have := h.mpr hb; omega
  · have h2 : ¬ (m &&& (1 <<< j)) ≠ 0 := fun e => hb (h.mp e)
    have hb : m.testBit j = false := by simpa using hb
    rw [hb]
    simp only [decide_eq_false_iff_not]; omega
/-- was the button down so many frames ago -/
def downB (rs : List Nat) (j ago : Nat) : Bool := match rs[rs.length - 1 - ago]? with
  | some m => decide (ago < rs.length) && m.testBit j
  | none => false
theorem down_lt {rs : List Nat} {j ago : Nat} (h : downB rs j ago = true) : ago < rs.length := by
  unfold downB at h
  split at h
  · simp only [Bool.and_eq_true, decide_eq_true_eq] at h; exact h.1
  · cases h
theorem isdown_ev (h : S[p]? = some (padC rs fr)) (hj : j < 7) : F_Pad_is_down [.ref p, .str (nm j), .int (ago : Nat)] S = .ok (.bl (downB rs j ago)) S := by
  have e1 : F_pressed_number [.ls [.str (nm j)]] S = .ok (.int (((1 <<< j : Nat)) : Nat)) S := by
    have := pnum_ls (S := S) (js := [j]) (by simpa using hj) (by simp)
    simpa [sN] using this
  have e2 := pad_rows h
  have h0 : ¬ ((ago : Nat) : Int) < 0 := by omega
  have e3 : pLen [.ls (rsD rs)] S = some (.int (rs.length : Nat), S) := by rw [pLen_ls, rsD_len]
  by_cases hl : ago < rs.length
  · have hl2 : ((ago : Nat) : Int) < ((rs.length : Nat) : Int) := by omega
    have e4 : ((rs.length : Nat) : Int) - 1 - (ago : Nat) = ((rs.length - 1 - ago : Nat) : Int) := by omega
    have hk : rs.length - 1 - ago < rs.length := by omega
    have e5 : atI (rsD rs) ((rs.length - 1 - ago : Nat) : Int) = some (.int (rs[rs.length - 1 - ago] : Nat)) := by
      rw [Gp.atI_nat, rsD_get, List.getElem?_eq_getElem hk]; rfl
    have ed : downB rs j ago = (rs[rs.length - 1 - ago]).testBit j := by simp only [downB, List.getElem?_eq_getElem hk, hl, decide_true, Bool.true_and]
    rw [ed]
    generalize rs[rs.length - 1 - ago] = x at *
    have e6 := gBand_nat (S := S) (i := x) (j := 1 <<< j)
    have e7 := and_shl (m := x) (j := j)
    generalize 1 <<< j = q at *
    have e8 : gNe (.int ((x &&& q : Nat) : Int)) (.int 0) S = some (.bl (x.testBit j), S) := by rw [gNe_int, e7]
    generalize ((x &&& q : Nat) : Int) = xq at *
    generalize ((rs.length - 1 - ago : Nat) : Int) = k at *
    generalize ((rs.length : Nat) : Int) = n at *
    generalize ((ago : Nat) : Int) = a at *
    simp -implicitDefEqProofs [F_Pad_is_down, m_Pad_is_down, startG, e1, e2, h0, e3, hl2, e4, e5, e6, e8, tdB]
  · have hl2 : ¬ ((ago : Nat) : Int) < ((rs.length : Nat) : Int) := by omega
    have ed : downB rs j ago = false := by
      cases hd : downB rs j ago with
      | false => rfl
      | true => exact absurd (down_lt hd) hl
    rw [ed]
    generalize 1 <<< j = q at *
    generalize ((rs.length : Nat) : Int) = n at *
    generalize ((ago : Nat) : Int) = a at *
    simp -implicitDefEqProofs [F_Pad_is_down, m_Pad_is_down, startG, e1, e2, h0, e3, hl2, tdB]
theorem isdown_fly {x : D} (h : S[p]? = some (padC rs fr)) : F_Pad_is_down [.ref p, .str "fly", x] S = .exc "PlayError" S := by
  have e1 := pnum_fly (S := S) (d := .ls [.str "fly"]) rfl rfl
  simp -implicitDefEqProofs [F_Pad_is_down, m_Pad_is_down, startG, e1]
theorem isdown_neg (h : S[p]? = some (padC rs fr)) : F_Pad_is_down [.ref p, .str "up", .int (-1)] S = .exc "PlayError" S := by
  have e1 : F_pressed_number [.ls [.str "up"]] S = .ok (.int 1) S := pnum_ls (S := S) (js := [0]) (by simp) (by simp)
  simp -implicitDefEqProofs [F_Pad_is_down, m_Pad_is_down, startG, e1]
abbrev padF (rs : List Nat) (fr : Int) : List (Str × D) := [("rows", .ls (rsD rs)), ("frames", .int fr)]
theorem pad_cls (h : S[p]? = some (padC rs fr)) : clsOf (.ref p) S = some (("Pad" : Str), padF rs fr) := by simp [clsOf, h]
/-- came it down so many frames ago -/
def cameB (rs : List Nat) (fr : Int) (j ago : Nat) : Bool := downB rs j ago && ((decide (ago + 1 < rs.length) || decide (fr = (rs.length : Nat))) && !downB rs j (ago + 1))
theorem came_ev (h : S[p]? = some (padC rs fr)) (hj : j < 7) : F_Pad_came_down [.ref p, .str (nm j), .int (ago : Nat)] S = .ok (.bl (cameB rs fr j ago)) S := by
  have e1 := isdown_ev (ago := ago) h hj
  have e2 := isdown_ev (ago := ago + 1) h hj
  have e3 := pad_rows h
  have e4 := pad_frames h
  have e5 : pLen [.ls (rsD rs)] S = some (.int (rs.length : Nat), S) := by rw [pLen_ls, rsD_len]
  have e6 := pad_cls h
  have e7 : lookD "is_down" (padF rs fr) = none := rfl
  have h1 : ((ago : Nat) : Int) + 1 = ((ago + 1 : Nat) : Int) := by omega
  have h2 : decide (((ago + 1 : Nat) : Int) < ((rs.length : Nat) : Int)) = decide (ago + 1 < rs.length) := by apply decide_eq_decide.mpr; omega
  unfold cameB
  generalize decide (ago + 1 < rs.length) = k1 at *
  generalize ((ago + 1 : Nat) : Int) = a1 at *
  generalize ((ago : Nat) : Int) = a at *
  generalize ((rs.length : Nat) : Int) = n at *
  generalize downB rs j ago = d1 at *
  generalize downB rs j (ago + 1) = d2 at *
  have e8 : gLt (.int a1) (.int n) S = some (.bl k1, S) := by rw [gLt_int, h2]
  generalize hk2 : decide (fr = n) = k2 at *
  have e9 : gEq (.int fr) (.int n) S = some (.bl k2, S) := by rw [gEq_int, hk2]
  cases k1 <;> cases k2 <;> cases d1 <;> cases d2 <;> simp -implicitDefEqProofs [F_Pad_came_down, m_Pad_came_down, startG, e1, e2, e3, e4, e5, e6, e7, mlook, h1, e8, e9, tdB]
/-- for how many frames is it down -/
def heldN (rs : List Nat) (j : Nat) : Nat := (rs.reverse.takeWhile fun m => m.testBit j).length
theorem take_while_at {α : Type} {f : α → Bool} : ∀ {l : List α} {k : Nat}, k < (l.takeWhile f).length → ∃ x, l[k]? = some x ∧ f x = true
  | [], k, h => by simp at h
  | a :: l, k, h => by
    by_cases ha : f a = true
    · rw [List.takeWhile_cons_of_pos ha] at h
      cases k with
      | zero => exact ⟨a, rfl, ha⟩
      | succ k =>
        obtain ⟨x, h1, h2⟩ := take_while_at (l := l) (k := k) (by simpa using h)
        exact ⟨x, by simpa using h1, h2⟩
    · rw [List.takeWhile_cons_of_neg ha] at h; simp at h
theorem take_while_end {α : Type} {f : α → Bool} : ∀ {l : List α} {x : α}, l[(l.takeWhile f).length]? = some x → f x = false
  | [], x, h => by simp at h
  | a :: l, x, h => by
    by_cases ha : f a = true
    · rw [List.takeWhile_cons_of_pos ha] at h
      exact take_while_end (l := l) (by simpa using h)
    · rw [List.takeWhile_cons_of_neg ha] at h
      simp only [List.length_nil, List.getElem?_cons_zero, Option.some.injEq] at h
      subst h; simpa using ha
theorem rev_at {rs : List Nat} {k : Nat} (h : k < rs.length) : rs.reverse[k]? = rs[rs.length - 1 - k]? := by rw [List.getElem?_reverse h]
theorem held_le {rs : List Nat} {j : Nat} : heldN rs j ≤ rs.length := by
  have := (List.takeWhile_sublist (fun m : Nat => m.testBit j) (l := rs.reverse)).length_le
  simpa [heldN] using this
theorem held_down {rs : List Nat} {j k : Nat} (h : k < heldN rs j) : downB rs j k = true := by
  have hk : k < rs.length := Nat.lt_of_lt_of_le h held_le
  obtain ⟨x, h1, h2⟩ := take_while_at h
  rw [rev_at hk] at h1
  simp [downB, h1, h2, hk]
theorem held_end {rs : List Nat} {j : Nat} (h : heldN rs j < rs.length) : downB rs j (heldN rs j) = false := by
  have hk : rs.length - 1 - heldN rs j < rs.length := by omega
  have h1 : rs.reverse[heldN rs j]? = some rs[rs.length - 1 - heldN rs j] := by rw [rev_at h, List.getElem?_eq_getElem hk]
  have h2 := take_while_end (f := fun m : Nat => m.testBit j) h1
  simp only [downB, List.getElem?_eq_getElem hk, h2, Bool.and_false]
abbrev tHeld : GE := gAnd (gBin gLt (gVar 2) (gCallP pLen [gUn (gAttr ["Pad"] "rows") (gVar 0)])) (gMeth [("Pad", [], F_Pad_is_down)] "is_down" (gVar 0) [gVar 1, gVar 2])
theorem held_ev (h : S[p]? = some (padC rs fr)) (hj : j < 7) (hl : rs.length ≤ 60) : F_Pad_held [.ref p, .str (nm j)] S = .ok (.int (heldN rs j : Nat)) S := by
  have e3 := pad_rows h
  have e5 : pLen [.ls (rsD rs)] S = some (.int (rs.length : Nat), S) := by rw [pLen_ls, rsD_len]
  have e6 := pad_cls h
  have e7 : lookD "is_down" (padF rs fr) = none := rfl
  have tst : ∀ k : Nat, tHeld [some (.ref p), some (.str (nm j)), some (.int (k : Nat))] S = .ok (.bl (decide (k < rs.length) && downB rs j k)) S := fun k => by
    have e1 := isdown_ev (ago := k) h hj
    have h2 : decide (((k : Nat) : Int) < ((rs.length : Nat) : Int)) = decide (k < rs.length) := by apply decide_eq_decide.mpr; omega
    generalize decide (k < rs.length) = k1 at *
    generalize ((k : Nat) : Int) = a at *
    generalize ((rs.length : Nat) : Int) = n at *
    generalize downB rs j k = d1 at *
    have e8 : gLt (.int a) (.int n) S = some (.bl k1, S) := by rw [gLt_int, h2]
    cases k1 <;> simp -implicitDefEqProofs [e1, e3, e5, e6, e7, mlook, e8]
  have hle := held_le (rs := rs) (j := j)
  obtain ⟨ρ', S', e9, hq⟩ := whN_to (t := tHeld) (b := sAug 2 gIAdd (gC (.int 1))) (fun q ρ U => ∃ k, q + k = heldN rs j ∧ ρ = [some (.ref p), some (.str (nm j)), some (.int (k : Nat))] ∧ U = S) (fun ρ U => ρ = [some (.ref p), some (.str (nm j)), some (.int (heldN rs j : Nat))] ∧ U = S) (by
    rintro q ρ U ⟨k, hk, rfl, rfl⟩
    rcases Nat.lt_or_ge k (heldN rs j) with hc | hc
    · right
      refine ⟨U, ?_, [some (.ref p), some (.str (nm j)), some (.int ((k + 1 : Nat) : Int))], U, .inl ?_, q - 1, by omega, k + 1, by omega, rfl, rfl⟩
      · have h1 : k < rs.length := by omega
        rw [tst, held_down hc]; simp [h1]
      · simp -implicitDefEqProofs
    · left
      have : k = heldN rs j := by omega
      subst this
      refine ⟨U, ?_, rfl, rfl⟩
      rw [tst]
      by_cases h1 : heldN rs j < rs.length
      · rw [held_end h1]; simp
      · simp [h1]) 1000000 (heldN rs j) [some (.ref p), some (.str (nm j)), some (.int ((0 : Nat) : Int))] S (by omega) ⟨0, by omega, rfl, rfl⟩
  obtain ⟨rfl, rfl⟩ := hq
  have e9 : whN tHeld (sAug 2 gIAdd (gC (.int 1))) 1000000 [some (.ref p), some (.str (nm j)), some (.int 0)] S' = .nx [some (.ref p), some (.str (nm j)), some (.int (heldN rs j : Nat))] S' := e9
  generalize ((heldN rs j : Nat) : Int) = N at *
  simp -implicitDefEqProofs [F_Pad_held, m_Pad_held, startG, ↓e9, tdI]
end
end K12

set_option Elab.async false
set_option linter.all false
set_option maxRecDepth 100000
set_option maxHeartbeats 2000000
/-! K12e: moves: made, a step that comes -/
namespace K12
open PySem PySem.Spec L2 Gp
structure Mv where
  name : Str
  steps : List (List Nat)
  gap : Nat
structure Gd (m : Mv) : Prop where
  ne : m.steps ≠ []
  len : m.steps.length ≤ 4
  st : ∀ js ∈ m.steps, js ≠ [] ∧ js.length ≤ 2 ∧ ∀ j ∈ js, j < 7
  gap : 1 ≤ m.gap ∧ m.gap ≤ 6
abbrev stT (ss : List (List Nat)) : D := .tup (ss.map fun js => .tup (strL js))
def stN (ss : List (List Nat)) : List D := ss.map fun js => .int (sN js : Nat)
abbrev mvF (m : Mv) : List (Str × D) := [("name", .str m.name), ("steps", .tup (stN m.steps)), ("gap", .int (m.gap : Nat))]
abbrev mvD (m : Mv) : D := .ob "Move" (mvF m)
abbrev owD (m : Mv) : D := .tup [.str m.name, stT m.steps, .int (m.gap : Nat)]
section
variable {S T : Sto} {js rs : List Nat} {ss : List (List Nat)} {m : Mv} {j p ago st : Nat} {fr : Int}
theorem strs_pd {k : Nat} (hk : 1 ≤ k) {js : List Nat} : pd S (k + 1) (.tup (strL js)) = some (.tuple (js.map fun j => .str (nm j))) := pd_tupM (k := k) fun a => by cases k <;> rfl
theorem step_ne (h : js ≠ []) : gEq (.tup (strL js)) (.tup []) S = some (.bl false, S) := by
  have e1 := strs_pd (S := S) (k := 59) (by omega) (js := js)
  have e2 : pd S 60 (.tup []) = some (.tuple []) := rfl
  simp only [gEq, gCmp, e1, e2, fEq]
  cases js with
  | nil => exact absurd rfl h
  | cons a l => simp [PyData.eqv, PyData.eqvAll]
theorem steps_ne (h : ss ≠ []) : gEq (stT ss) (.tup []) S = some (.bl false, S) := by
  have e1 : pd S 60 (stT ss) = some (.tuple (ss.map fun js => .tuple (js.map fun j => .str (nm j)))) := pd_tupM (k := 59) fun a => strs_pd (k := 58) (by omega)
  have e2 : pd S 60 (.tup []) = some (.tuple []) := rfl
  simp only [gEq, gCmp, e1, e2, fEq]
  cases ss with
  | nil => exact absurd rfl h
  | cons a l => simp [PyData.eqv, PyData.eqvAll]
theorem init_any {n : Nat} {ρ : Ev} (hn : 200000 < n) (hl : ss.length ≤ 4) (h : ∀ js ∈ ss, js ≠ []) (h2 : ρ[2]? = some (some (stT ss))) (h6 : ρ.length = 6) :
    gGen (fun f n S => anyN f true n n 0 S) n (gSrc srcOf (gVar 2)) (nName 4) none (gBin gEq (gVar 4) (gTup [])) [4] ρ S = .ok (.bl false) S := by
  have hit : gSrc srcOf (gVar 2) ρ S = .ok (fixL (ss.map fun js => .tup (strL js))) S none := by simp [gSrc, h2, srcOf, ulOf]
  have := gGen_any (n := n) (t := nName 4) (c := none) (e := gBin gEq (gVar 4) (gTup [])) (vs := [4]) hit fixL_look (fun d => some false) (by
    intro d hd
    obtain ⟨js, hj, rfl⟩ := List.mem_map.mp hd
    refine ⟨_, rfl, ?_⟩
    have g4 : ((wipeG ρ [4]).set 4 (some (D.tup (strL js))))[4]? = some (some (.tup (strL js))) := by simp [wipeG, h6]
    have e1 := step_ne (S := S) (h js hj)
    simp -implicitDefEqProofs [tstG, g4, e1]) (by simp; omega)
  rw [this]
  congr 2
  simp
theorem init_nums {n : Nat} {ρ : Ev} (hn : 200000 < n) (hl : ss.length ≤ 4) (h : ∀ js ∈ ss, js ≠ [] ∧ js.length ≤ 2 ∧ ∀ j ∈ js, j < 7) (h2 : ρ[2]? = some (some (stT ss))) (h6 : ρ.length = 6) :
    gGenX tupN ["PlayError"] n (gSrc srcOf (gVar 2)) (nName 4) none (gCall F_pressed_number [gVar 4] []) [4] ρ S = .ok (.tup (stN ss)) S := by
  have hit : gSrc srcOf (gVar 2) ρ S = .ok (fixL (ss.map fun js => .tup (strL js))) S none := by simp [gSrc, h2, srcOf, ulOf]
  apply gGenX_tup
  have key : ∃ f : D → D, ∀ js ∈ ss, f (.tup (strL js)) = .int (sN js : Nat) := by
    refine ⟨fun d => match F_pressed_number [d] S with | .ok x _ => x | _ => .non, fun js hj => ?_⟩
    obtain ⟨h1, h2, h3⟩ := h js hj
    simp only [pnum_tup (S := S) h3 (by omega)]
  obtain ⟨f, hf⟩ := key
  rw [gGen_tup hit fixL_look (fun d => some (f d)) ?_ (by simp; omega) (by simp [sizeLine_eq]; omega)]
  · congr 2
    rw [List.filterMap_map, stN, ← List.filterMap_eq_map]
    apply fm_congr
    intro js hj
    simp only [Function.comp, hf js hj]
  · intro d hd
    obtain ⟨js, hj, rfl⟩ := List.mem_map.mp hd
    refine ⟨_, rfl, ?_⟩
    have g4 : ((wipeG ρ [4]).set 4 (some (D.tup (strL js))))[4]? = some (some (.tup (strL js))) := by simp [wipeG, h6]
    obtain ⟨h1, h2, h3⟩ := h js hj
    have e1 := pnum_tup (S := S) h3 (by omega)
    simp only [hf js hj]
    simp -implicitDefEqProofs [tstG, g4, e1]
theorem mv_init (G : Gd m) {n : Nat} (h : T[n]? = some (.obj "Move" [])) : F_Move_init [.ref n, .str m.name, stT m.steps, .int (m.gap : Nat)] T = .ok .non (T.set n (.obj "Move" (mvF m))) := by
  have hn := lt_of_get h
  have e1 := steps_ne (S := T) G.ne
  have e2 := init_any (S := T) (n := 1000000) (ρ := [some (.ref n), some (.str m.name), some (stT m.steps), some (.int (m.gap : Nat)), none, none]) (by omega) G.len (fun js h => (G.st js h).1) rfl rfl
  have g1 : (T.set n (.obj "Move" [("name", .str m.name)]))[n]? = some (.obj "Move" [("name", .str m.name)]) := get_set_eq hn
  have e3 := init_nums (S := T.set n (.obj "Move" [("name", .str m.name)])) (n := 1000000) (ρ := [some (.ref n), some (.str m.name), some (stT m.steps), some (.int (m.gap : Nat)), none, none]) (by omega) G.len G.st rfl rfl
  have s1 : setA ["Move"] "name" (.ref n) (.str m.name) T = some (T.set n (.obj "Move" [("name", .str m.name)])) := by simp [setA, h]; rfl
  have s2 : setA ["Move"] "steps" (.ref n) (.tup (stN m.steps)) (T.set n (.obj "Move" [("name", .str m.name)])) = some (T.set n (.obj "Move" [("name", .str m.name), ("steps", .tup (stN m.steps))])) := by simp [setA, g1]; rfl
  have g2 : (T.set n (.obj "Move" [("name", .str m.name), ("steps", .tup (stN m.steps))]))[n]? = some (.obj "Move" [("name", .str m.name), ("steps", .tup (stN m.steps))]) := get_set_eq hn
  have s3 : setA ["Move"] "gap" (.ref n) (.int (m.gap : Nat)) (T.set n (.obj "Move" [("name", .str m.name), ("steps", .tup (stN m.steps))])) = some (T.set n (.obj "Move" (mvF m))) := by simp [setA, g2]; rfl
  have h1 : (0 : Int) < (m.gap : Int) := by have := G.gap; omega
  have h2 : (m.gap : Int) ≤ 60 := by have := G.gap; omega
  generalize ((m.gap : Nat) : Int) = gp at *
  simp -implicitDefEqProofs [F_Move_init, m_Move_init, startG, e1, h1, h2, ↓e2, s1, ↓e3, s2, s3]
theorem stN_fz {b k : Nat} : fzB b (k + 1) (.tup (stN ss)) = true := by
  simp only [fzB, List.all_eq_true]
  intro d hd
  obtain ⟨r, _, rfl⟩ := List.mem_map.mp hd
  cases k <;> rfl
theorem mv_new (G : Gd m) : tidy S (Gp.newObj "Move" F_Move_init [.str m.name, stT m.steps, .int (m.gap : Nat)] S) = .ok (mvD m) S := by
  have h1 : (S ++ [Cell.obj "Move" []])[S.length]? = some (.obj "Move" []) := get_new
  have e1 := mv_init (T := S ++ [.obj "Move" []]) G h1
  rw [set_new] at e1
  have e2 : Gp.newObj "Move" F_Move_init [.str m.name, stT m.steps, .int (m.gap : Nat)] S = .ok (.ref S.length) (S ++ [.obj "Move" (mvF m)]) := by simp only [Gp.newObj, e1, Res.bind]
  rw [e2]
  apply tidy_new
  simp only [frz, Nat.lt_irrefl, if_false, get_new]
  rw [pmap_id]; rfl
  intro q hq
  simp only [List.mem_cons, List.not_mem_nil, or_false] at hq
  rcases hq with rfl | rfl | rfl
  · rfl
  · exact frz_id stN_fz
  · rfl
/-! ### a step comes -/
/-- all of st is down at a place, and was not ahead of it -/
def cmsB (rs : List Nat) (w : Bool) (st p : Nat) : Bool := hasB (rs.getD p 0) st && (if p = 0 then w else !hasB (rs.getD (p - 1) 0) st)
/-- .. so many frames ago -/
def cmsA (rs : List Nat) (w : Bool) (st ago : Nat) : Bool := decide (ago < rs.length) && cmsB rs w st (rs.length - 1 - ago)
theorem ne_has {x st : Nat} : gNe (.int ((x &&& st : Nat) : Int)) (.int (st : Nat)) S = some (.bl (!hasB x st), S) := by
  rw [gNe_int]
  congr 3
  unfold hasB
  by_cases h : x &&& st = st
  · simp [h]
  · have h2 : ¬ ((x &&& st : Nat) : Int) = (st : Nat) := by omega
    have h3 : ((x &&& st) == st) = false := by simpa using h
    rw [h3]; simp [h2]
theorem rs_at {k : Nat} (h : k < rs.length) : atI (rsD rs) (k : Nat) = some (.int ((rs.getD k 0 : Nat) : Int)) := by
  rw [Gp.atI_nat, rsD_get, List.getElem?_eq_getElem h, List.getD_eq_getElem?_getD, List.getElem?_eq_getElem h]; rfl
theorem comes_ev {x : D} (h : S[p]? = some (padC rs fr)) : F_Move_comes [x, .ref p, .int (st : Nat), .int (ago : Nat)] S = .ok (.bl (cmsA rs (decide (fr = (rs.length : Nat))) st ago)) S := by
  have e2 := pad_rows h
  have e3 : pLen [.ls (rsD rs)] S = some (.int (rs.length : Nat), S) := by rw [pLen_ls, rsD_len]
  have e4 := pad_frames h
  by_cases hl : ago < rs.length
  · have hk : rs.length - 1 - ago < rs.length := by omega
    have e5 : ((rs.length : Nat) : Int) - 1 - (ago : Nat) = ((rs.length - 1 - ago : Nat) : Int) := by omega
    have h0 : ¬ ((rs.length - 1 - ago : Nat) : Int) < 0 := by omega
    have e6 := rs_at hk
    have e7 := ne_has (S := S) (x := rs.getD (rs.length - 1 - ago) 0) (st := st)
    have e8 := gBand_nat (S := S) (i := rs.getD (rs.length - 1 - ago) 0) (j := st)
    unfold cmsA cmsB
    simp only [hl, decide_true, Bool.true_and]
    generalize hq : rs.length - 1 - ago = q at *
    by_cases hz : q = 0
    · subst hz
      simp only [if_true]
      generalize hasB (rs.getD 0 0) st = hb at *
      generalize ((rs.getD 0 0 &&& st : Nat) : Int) = xq at *
      generalize ((rs.getD 0 0 : Nat) : Int) = xx at *
      generalize ((st : Nat) : Int) = ss at *
      generalize ((rs.length : Nat) : Int) = n at *
      generalize ((ago : Nat) : Int) = a at *
      have e5 : n - 1 - a = 0 := e5
      have e6 : atI (rsD rs) 0 = some (.int xx) := e6
      have e6 : (rsD rs)[0]? = some (.int xx) := by rw [← atI_0]; exact e6
      cases hb <;> simp -implicitDefEqProofs [F_Move_comes, m_Move_comes, startG, e2, e3, e4, e5, e6, e7, e8, tdB]
    · have hk2 : q - 1 < rs.length := by omega
      have e9 := rs_at hk2
      have e10 := ne_has (S := S) (x := rs.getD (q - 1) 0) (st := st)
      have e11 := gBand_nat (S := S) (i := rs.getD (q - 1) 0) (j := st)
      have e12 : ((q : Nat) : Int) - 1 = ((q - 1 : Nat) : Int) := by omega
      have hz2 : ¬ ((q : Nat) : Int) = 0 := by omega
      rw [if_neg hz]
      generalize hasB (rs.getD q 0) st = hb at *
      generalize hasB (rs.getD (q - 1) 0) st = hb2 at *
      generalize ((rs.getD q 0 &&& st : Nat) : Int) = xq at *
      generalize ((rs.getD q 0 : Nat) : Int) = xx at *
      generalize ((rs.getD (q - 1) 0 &&& st : Nat) : Int) = yq at *
      generalize ((rs.getD (q - 1) 0 : Nat) : Int) = yy at *
      generalize ((st : Nat) : Int) = ss at *
      generalize ((rs.length : Nat) : Int) = n at *
      generalize ((ago : Nat) : Int) = a at *
      generalize ((q - 1 : Nat) : Int) = q1 at *
      generalize ((q : Nat) : Int) = q0 at *
      cases hb <;> cases hb2 <;> simp -implicitDefEqProofs [F_Move_comes, m_Move_comes, startG, e2, e3, e4, e5, h0, e6, e7, e8, hz2, e12, e9, e10, e11, tdB]
  · have h0 : ((rs.length : Nat) : Int) - 1 - (ago : Nat) < 0 := by omega
    have ef : cmsA rs (decide (fr = (rs.length : Nat))) st ago = false := by simp [cmsA, hl]
    rw [ef]
    generalize ((rs.length : Nat) : Int) = n at *
    generalize ((ago : Nat) : Int) = a at *
    simp -implicitDefEqProofs [F_Move_comes, m_Move_comes, startG, e2, e3, h0, tdB]
end
end K12

set_option Elab.async false
set_option linter.all false
set_option maxRecDepth 100000
set_option maxHeartbeats 2000000
/-! K12f: spots from which a step comes -/
namespace K12
open PySem PySem.Spec L2 Gp
/-- a table of frames -/
def kD (ks : List Nat) : List (D × D) := ks.map fun (a : Nat) => (.int (a : Int), .bl true)
theorem kD_keys {ks : List Nat} : (kD ks).map (·.1) = ks.map fun (a : Nat) => .int (a : Int) := by simp [kD]
theorem kD_mem {ks : List Nat} {a : Nat} : D.int (a : Int) ∈ (kD ks).map (·.1) ↔ a ∈ ks := by
  rw [kD_keys, List.mem_map]
  constructor
  · rintro ⟨b, hb, e⟩
    simp only [D.int.injEq] at e
    have : b = a := by omega
    exact this ▸ hb
  · intro h; exact ⟨a, h, rfl⟩
theorem kD_put {ks : List Nat} {a : Nat} : dput (kD ks) (.int (a : Int)) (.bl true) = kD (if a ∈ ks then ks else ks ++ [a]) := by
  by_cases h : a ∈ ks
  · rw [if_pos h]
    unfold dput
    rw [if_pos]
    · conv => rhs; rw [← List.map_id (kD ks)]
      apply List.map_congr_left
      intro p hp
      obtain ⟨b, hb, rfl⟩ := List.mem_map.mp hp
      simp only [id]
      split
      · rename_i e; rw [e]
      · rfl
    · simp only [List.any_eq_true, decide_eq_true_eq]
      exact ⟨_, List.mem_map.mpr ⟨a, h, rfl⟩, rfl⟩
  · rw [if_neg h, dput_new (fun hm => h (kD_mem.mp hm))]
    simp [kD]
theorem kD_len {ks : List Nat} : (kD ks).length = ks.length := by simp [kD]
section
variable {S U W : Sto} {rs : List Nat} {m : Mv} {p q st spot n : Nat} {fr : Int} {sp : D} {x3 x5 x6 : Option D}
abbrev lpR (n : Nat) : GS := sFor n (gSrcA rngOf2 [gBin gAdd (gVar 5) (gC (.int 1)), gBin gAdd (gBin gAdd (gVar 5) (gUn (gAttr ["Move"] "gap") (gVar 0))) (gC (.int 1))]) (tName 6) (sIf (gMeth [("Move", [], F_Move_comes)] "comes" (gVar 0) [gVar 1, gVar 3, gVar 6])
    (sAsg (gC (.bl true)) (tSub pSet (gVar 4) (gVar 6)))
    (sNil))
abbrev en (m : Mv) (p : Nat) (sp : D) (st q : Nat) (x5 x6 : Option D) : Ev := [some (mvD m), some (.ref p), some sp, some (.int (st : Nat)), some (.ref q), x5, x6]
theorem mv_cls : clsOf (mvD m) S = some (("Move" : Str), mvF m) := rfl
theorem mv_lk : lookD "comes" (mvF m) = none := rfl
/-- one walk from a spot -/
theorem lpr_ev (hn : 200000 < n) (G : Gd m) (h : U[p]? = some (padC rs fr)) (hpq : p ≠ q) {fs : List Nat} (hq : U[q]? = some (.dict 0 false (kD fs))) (hnd : fs.Nodup) (hl : fs.length ≤ 100000) (hs : spot ≤ 1000000) :
    ∃ fs' x6', lpR n (en m p sp st q (some (.int (spot : Nat))) x6) U = .nx (en m p sp st q (some (.int (spot : Nat))) x6') (U.set q (.dict 0 false (kD fs'))) ∧ fs'.Nodup ∧ fs'.length ≤ fs.length + m.gap ∧
      ∀ a, a ∈ fs' ↔ a ∈ fs ∨ (spot < a ∧ a ≤ spot + m.gap ∧ cmsA rs (decide (fr = (rs.length : Nat))) st a = true) := by
  have hg := G.gap
  have hlq := lt_of_get hq
  have a1 : gAttr ["Move"] "gap" (mvD m) U = some (.int (m.gap : Nat), U) := by simp [gAttr, lookD]
  have hit : gSrcA rngOf2 [gBin gAdd (gVar 5) (gC (.int 1)), gBin gAdd (gBin gAdd (gVar 5) (gUn (gAttr ["Move"] "gap") (gVar 0))) (gC (.int 1))] (en m p sp st q (some (.int (spot : Nat))) x6) U = .ok (fixL (rngL ((spot : Int) + 1) 1 m.gap)) U none := by
    have := rng2_it (a := gBin gAdd (gVar 5) (gC (.int 1))) (b := gBin gAdd (gBin gAdd (gVar 5) (gUn (gAttr ["Move"] "gap") (gVar 0))) (gC (.int 1))) (ρ := en m p sp st q (some (.int (spot : Nat))) x6) (S := U) (i := (spot : Int) + 1) (j := (spot : Int) + m.gap + 1) (by simp) (by simp [a1]) (by omega) (by omega) (by omega) (by omega)
    rw [this]
    have ej : ((spot : Int) + m.gap + 1 - ((spot : Int) + 1)).toNat = m.gap := by omega
    rw [ej]
  have hrl : (rngL ((spot : Int) + 1) 1 m.gap).length = m.gap := by simp [rngL]
  have h00 : ∀ a, a ∈ fs ↔ a ∈ fs ∨ (spot < a ∧ a ≤ spot + 0 ∧ cmsA rs (decide (fr = (rs.length : Nat))) st a = true) := fun a => ⟨.inl, fun hh => hh.elim id fun z => by omega⟩
  have lp := sFor_to (n := n) (t := tName 6) (b := sIf (gMeth [("Move", [], F_Move_comes)] "comes" (gVar 0) [gVar 1, gVar 3, gVar 6]) (sAsg (gC (.bl true)) (tSub pSet (gVar 4) (gVar 6))) (sNil)) hit fixL_look (by rw [hrl]; omega)
    (fun i ρ V => ∃ fs' x6', ρ = en m p sp st q (some (.int (spot : Nat))) x6' ∧ V = U.set q (.dict 0 false (kD fs')) ∧ fs'.Nodup ∧ fs'.length ≤ fs.length + i ∧ ∀ a, a ∈ fs' ↔ a ∈ fs ∨ (spot < a ∧ a ≤ spot + i ∧ cmsA rs (decide (fr = (rs.length : Nat))) st a = true)) (fun _ _ => False)
    ⟨fs, x6, rfl, (set_id hq).symm, hnd, Nat.le_refl _, h00⟩ (by
      rintro i d ρ V hd ⟨fs', x6', rfl, rfl, h1, h2, h3⟩
      simp only [rngL, List.getElem?_map] at hd
      obtain ⟨k, hk, rfl⟩ := Option.map_eq_some_iff.mp hd
      have hi : i < m.gap := by have := (List.getElem?_eq_some_iff.mp hk).1; simpa using this
      have : k = i := by rw [List.getElem?_range hi] at hk; exact (Option.some.inj hk).symm
      subst this
      have ek : (spot : Int) + 1 + (k : Nat) * 1 = ((spot + 1 + k : Nat) : Int) := by omega
      rw [ek]
      have hp2 : (U.set q (.dict 0 false (kD fs')))[p]? = some (padC rs fr) := by rw [get_set_ne (fun e => hpq e.symm)]; exact h
      have hq2 : (U.set q (.dict 0 false (kD fs')))[q]? = some (.dict 0 false (kD fs')) := get_set_eq hlq
      have e1 := comes_ev (x := mvD m) (st := st) (ago := spot + 1 + k) hp2
      have e2 := mv_cls (m := m) (S := U.set q (.dict 0 false (kD fs')))
      have e3 := mv_lk (m := m)
      have e4 : pSet (.ref q) (.int ((spot + 1 + k : Nat) : Int)) (.bl true) (U.set q (.dict 0 false (kD fs'))) = some (U.set q (.dict 0 false (kD (if spot + 1 + k ∈ fs' then fs' else fs' ++ [spot + 1 + k])))) := by
        simp only [pSet, hq2]
        rw [if_pos ⟨rfl, by rw [sizeLine_eq, kD_len]; omega⟩, kD_put, List.set_set]
      rw [ev_tname, sthn_nx]
      simp only [List.set_cons_succ, List.set_cons_zero]
      generalize hw : cmsA rs (decide (fr = (rs.length : Nat))) st (spot + 1 + k) = w at *
      have go : (sIf (gMeth [("Move", [], F_Move_comes)] "comes" (gVar 0) [gVar 1, gVar 3, gVar 6]) (sAsg (gC (.bl true)) (tSub pSet (gVar 4) (gVar 6))) (sNil)) (en m p sp st q (some (.int (spot : Nat))) (some (.int ((spot + 1 + k : Nat) : Int)))) (U.set q (.dict 0 false (kD fs')))
          = .nx (en m p sp st q (some (.int (spot : Nat))) (some (.int ((spot + 1 + k : Nat) : Int)))) (U.set q (.dict 0 false (kD (if w = true ∧ ¬ spot + 1 + k ∈ fs' then fs' ++ [spot + 1 + k] else fs')))) := by
        generalize ((spot + 1 + k : Nat) : Int) = a at *
        cases w with
        | false => simp -implicitDefEqProofs [e2, e3, mlook, e1]
        | true =>
          by_cases hm : spot + 1 + k ∈ fs'
          · rw [if_pos hm] at e4
            simp -implicitDefEqProofs [e2, e3, mlook, e1, e4, hm]
          · rw [if_neg hm] at e4
            simp -implicitDefEqProofs [e2, e3, mlook, e1, e4, hm]
      rw [go]
      refine ⟨_, _, rfl, rfl, ?_, ?_, fun a => ?_⟩
      · split
        · rename_i hc
          exact List.nodup_append.mpr ⟨h1, by simp, fun x hx y hy z => by
            simp only [List.mem_singleton] at hy
            subst hy; subst z; exact hc.2 hx⟩
        · exact h1
      · split
        · simp only [List.length_append, List.length_cons, List.length_nil]; omega
        · omega
      · have hx : ∀ a, a ∈ (if w = true ∧ ¬ spot + 1 + k ∈ fs' then fs' ++ [spot + 1 + k] else fs') ↔ a ∈ fs' ∨ (w = true ∧ a = spot + 1 + k) := fun a => by
          split
          · rename_i hc
            simp only [List.mem_append, List.mem_singleton, hc.1, true_and]
          · rename_i hc
            constructor
            · exact .inl
            · rintro (z | ⟨z1, rfl⟩)
              · exact z
              · exact Classical.byContradiction fun z => hc ⟨z1, z⟩
        rw [hx, h3]
        constructor
        · rintro ((z | ⟨z1, z2, z3⟩) | ⟨z1, rfl⟩)
          · exact .inl z
          · exact .inr ⟨z1, by omega, z3⟩
          · exact .inr ⟨by omega, by omega, by rw [hw]; exact z1⟩
        · rintro (z | ⟨z1, z2, z3⟩)
          · exact .inl (.inl z)
          · by_cases he : a = spot + 1 + k
            · subst he
              exact .inr ⟨by rw [← hw]; exact z3, rfl⟩
            · exact .inl (.inr ⟨z1, by omega, z3⟩))
  rw [hrl] at lp
  obtain ⟨ρ, V, e, fs', x6', rfl, rfl, h1, h2, h3⟩ := lp.nx
  exact ⟨fs', x6', e, h1, h2, h3⟩
/-- what the spots are -/
def SpV (sp : D) (W : Sto) (ks : List Nat) : Prop := sp = .dc 0 (kD ks) ∨ ∃ t, sp = .ref t ∧ W[t]? = some (.dict 0 false (kD ks))
abbrev lpS (n : Nat) : GS := sFor n (gSrc srcOf (gVar 2)) (tName 5) (lpR n)
theorem fors_ev (hn : 200000 < n) (G : Gd m) {ks : List Nat} (h : W[p]? = some (padC rs fr)) (hpq : p ≠ q) (hq : W[q]? = some (.dict 0 false (kD []))) (hl : ks.length ≤ 1000) (hk : ∀ a ∈ ks, a ≤ 1000) :
    ∃ fs' x5' x6', forN (fixL (ks.map fun (a : Nat) => .int (a : Int))) (fun d ρ S => (tName 5 d ρ S).thn (lpR n)) n 0 (en m p sp st q x5 x6) W = .nx (en m p sp st q x5' x6') (W.set q (.dict 0 false (kD fs'))) ∧ fs'.Nodup ∧ fs'.length ≤ 6 * ks.length ∧
      ∀ a, a ∈ fs' ↔ ∃ b ∈ ks, b < a ∧ a ≤ b + m.gap ∧ cmsA rs (decide (fr = (rs.length : Nat))) st a = true := by
  have hg := G.gap
  have hlq := lt_of_get hq
  let I : Nat → Ev → Sto → Prop := (fun i ρ V => ∃ fs' x5' x6', ρ = en m p sp st q x5' x6' ∧ V = W.set q (.dict 0 false (kD fs')) ∧ fs'.Nodup ∧ fs'.length ≤ 6 * i ∧ ∀ a, a ∈ fs' ↔ ∃ b ∈ ks.take i, b < a ∧ a ≤ b + m.gap ∧ cmsA rs (decide (fr = (rs.length : Nat))) st a = true)
  have step : ∀ (i : Nat) (d : D) (ρ : Ev) (V : Sto), (ks.map fun (a : Nat) => D.int (a : Int))[i]? = some d → I i ρ V → TurnTo (I (i + 1)) (fun _ _ => False) ((tName 5 d ρ V).thn (lpR n)) := by
      rintro i d ρ V hd ⟨fs', x5', x6', rfl, rfl, h1, h2, h3⟩
      rw [List.getElem?_map] at hd
      obtain ⟨b, hb, rfl⟩ := Option.map_eq_some_iff.mp hd
      have hi : i < ks.length := (List.getElem?_eq_some_iff.mp hb).1
      refine TurnTo.of ?_
      rw [ev_tname, sthn_nx]
      simp only [List.set_cons_succ, List.set_cons_zero]
      have hp2 : (W.set q (.dict 0 false (kD fs')))[p]? = some (padC rs fr) := by rw [get_set_ne (fun e => hpq e.symm)]; exact h
      have hq2 : (W.set q (.dict 0 false (kD fs')))[q]? = some (.dict 0 false (kD fs')) := get_set_eq hlq
      have hb2 := hk b (List.mem_of_getElem? hb)
      have l1 : fs'.length ≤ 100000 := by omega
      have l2 : b ≤ 1000000 := by omega
      have key := lpr_ev (spot := b) (sp := sp) (st := st) (x6 := x6') hn G hp2 hpq hq2 h1 l1 l2
      obtain ⟨fs2, x62, e, g1, g2, g3⟩ := key
      rw [List.set_set] at e
      refine ⟨_, _, e, fs2, _, x62, rfl, rfl, g1, by omega, fun a => ?_⟩
      rw [g3, h3, List.take_succ, hb]
      simp only [Option.toList_some, List.mem_append, List.mem_singleton]
      constructor
      · rintro (⟨c, hc, z⟩ | z)
        · exact ⟨c, .inl hc, z⟩
        · exact ⟨b, .inr rfl, z⟩
      · rintro ⟨c, hc | rfl, z⟩
        · exact .inl ⟨c, hc, z⟩
        · exact .inr z
  have lp : EndTo (I (ks.map fun (a : Nat) => D.int (a : Int)).length) (fun _ _ => False) (forN (fixL (ks.map fun (a : Nat) => .int (a : Int))) (fun d ρ S => (tName 5 d ρ S).thn (lpR n)) n 0 (en m p sp st q x5 x6) W) := forN_to (b := fun d ρ S => (tName 5 d ρ S).thn (lpR n)) fixL_look I (fun _ _ => False) step n 0 _ _ (by rw [List.length_map]; omega) (Nat.zero_le _) ⟨[], x5, x6, rfl, (set_id hq).symm, List.nodup_nil, Nat.zero_le _, fun a => by simp⟩
  obtain ⟨ρ, V, e, fs', x5', x6', rfl, rfl, h1, h2, h3⟩ := lp.nx
  rw [List.length_map] at h2 h3
  rw [List.take_length] at h3
  exact ⟨fs', x5', x6', e, h1, h2, h3⟩
theorem lps_ev (hn : 200000 < n) (G : Gd m) {ks : List Nat} (h : U[p]? = some (padC rs fr)) (hsp : SpV sp U ks) (hl : ks.length ≤ 1000) (hk : ∀ a ∈ ks, a ≤ 1000) :
    ∃ fs' x5' x6', lpS n (en m p sp st U.length x5 x6) (U ++ [.dict 0 false []]) = .nx (en m p sp st U.length x5' x6') (U ++ [.dict 0 false (kD fs')]) ∧ fs'.Nodup ∧ fs'.length ≤ 6 * ks.length ∧
      ∀ a, a ∈ fs' ↔ ∃ b ∈ ks, b < a ∧ a ≤ b + m.gap ∧ cmsA rs (decide (fr = (rs.length : Nat))) st a = true := by
  have hp := lt_of_get h
  have hpq : p ≠ U.length := by omega
  rcases hsp with rfl | ⟨t, rfl, ht⟩
  · have hit : gSrc srcOf (gVar 2) (en m p (.dc 0 (kD ks)) st U.length x5 x6) (U ++ [.dict 0 false []]) = .ok (fixL (ks.map fun (a : Nat) => .int (a : Int))) (U ++ [.dict 0 false []]) none := by
      rw [src_dc (k := 0) (l := kD ks) rfl, kD_keys]
    obtain ⟨fs', x5', x6', e, h1, h2, h3⟩ := fors_ev (W := U ++ [.dict 0 false []]) (q := U.length) (st := st) (sp := .dc 0 (kD ks)) (x5 := x5) (x6 := x6) hn G (get_app h) hpq get_new hl hk
    refine ⟨fs', x5', x6', ?_, h1, h2, h3⟩
    rw [set_new] at e
    simp only [lpS, sFor, hit, IR.thn, unlRS, e]
  · have htl := lt_of_get ht
    have ht2 : (U ++ [Cell.dict 0 false []])[t]? = some (.dict 0 false (kD ks)) := get_app ht
    have hit : gSrc srcOf (gVar 2) (en m p (.ref t) st U.length x5 x6) (U ++ [.dict 0 false []]) = .ok (fixL (ks.map fun (a : Nat) => .int (a : Int))) ((U ++ [Cell.dict 0 false []]).set t (.dict 0 true (kD ks))) (some t) := by
      have : gVar 2 (en m p (.ref t) st U.length x5 x6) (U ++ [.dict 0 false []]) = .ok (.ref t) (U ++ [.dict 0 false []]) := rfl
      simp only [gSrc, this, srcOf, ulOf, ht2, kD_keys]
    have htp : t ≠ p := fun e => by rw [e, h] at ht; cases ht
    have htq : t ≠ U.length := by omega
    obtain ⟨fs', x5', x6', e, h1, h2, h3⟩ := fors_ev (W := (U ++ [Cell.dict 0 false []]).set t (.dict 0 true (kD ks))) (q := U.length) (st := st) (sp := .ref t) (x5 := x5) (x6 := x6) hn G (by rw [get_set_ne htp]; exact get_app h) hpq (by rw [get_set_ne htq]; exact get_new) hl hk
    refine ⟨fs', x5', x6', ?_, h1, h2, h3⟩
    rw [List.set_comm _ _ htq, set_new] at e
    have hb : t < (U ++ [Cell.dict 0 false (kD fs')]).length := by simp; omega
    have e3 : unl1 t ((U ++ [Cell.dict 0 false (kD fs')]).set t (.dict 0 true (kD ks))) = U ++ [Cell.dict 0 false (kD fs')] := by
      simp only [unl1, get_set_eq hb, List.set_set]
      exact set_id (get_app ht)
    simp only [lpS, sFor, hit, IR.thn, unlRS, e, e3]
end
end K12

set_option Elab.async false
set_option linter.all false
set_option maxRecDepth 100000
set_option maxHeartbeats 2000000
/-! K12g: a move is done, by the program -/
namespace K12
open PySem PySem.Spec L2 Gp
/-- the numbers of the steps ahead of the last one, the last ones first -/
def qsOf (m : Mv) : List Nat := ((m.steps.map sN).take (m.steps.length - 1)).reverse
def lastOf (m : Mv) : Nat := (m.steps.map sN).getD (m.steps.length - 1) 0
def reach (rs : List Nat) (w : Bool) (gap last : Nat) (qs : List Nat) : Nat → Nat → Prop
  | 0, a => a = 0 ∧ cmsA rs w last 0 = true
  | i + 1, a => (∃ b, reach rs w gap last qs i b ∧ b < a ∧ a ≤ b + gap) ∧ cmsA rs w (qs.getD i 0) a = true
theorem cms_lt {rs : List Nat} {w : Bool} {st a : Nat} (h : cmsA rs w st a = true) : a < rs.length := by
  simp only [cmsA, Bool.and_eq_true, decide_eq_true_eq] at h
  exact h.1
theorem reach_lt {rs : List Nat} {w : Bool} {gap last : Nat} {qs : List Nat} {i a : Nat} (h : reach rs w gap last qs i a) : a < rs.length := by
  cases i with
  | zero => obtain ⟨rfl, h⟩ := h; exact cms_lt h
  | succ i => exact cms_lt h.2
section
variable {S U W : Sto} {rs : List Nat} {m : Mv} {p n : Nat} {fr : Int}
abbrev sDone : GE := gRevT (gSl false (gUn (gAttr ["Move"] "steps") (gVar 0)) none (some (gUn gNeg (gC (.int 1)))))
abbrev bDone (n : Nat) : GS := sSeq (sAsg (gDict0 false 0) (tName 4)) (sSeq (lpS n) (sAsg (gVar 4) (tName 2)))
theorem qs_src {ρ : Ev} (h0 : ρ[0]? = some (some (mvD m))) : gSrc srcOf sDone ρ S = .ok (fixL ((qsOf m).map fun (q : Nat) => .int (q : Int))) S none := by
  have a1 : gAttr ["Move"] "steps" (mvD m) S = some (.tup (stN m.steps), S) := by simp [gAttr, lookD]
  have e1 : cutD (stN m.steps) none (some (-1)) = (stN m.steps).take (m.steps.length - 1) := by
    have := cutD_init (l := stN m.steps) (k := 1) (by omega)
    rw [show (-((1 : Nat) : Int)) = -1 from rfl] at this
    rw [this]; simp [stN]
  have e2 : sDone ρ S = .ok (.tup ((qsOf m).map fun (q : Nat) => .int (q : Int))) S := by
    have : ((stN m.steps).take (m.steps.length - 1)).reverse = (qsOf m).map fun (q : Nat) => D.int (q : Int) := by
      unfold qsOf stN
      rw [List.map_reverse, List.map_take, List.map_map]
      rfl
    show (gSl false (gUn (gAttr ["Move"] "steps") (gVar 0)) none (some (gUn gNeg (gC (.int 1)))) ρ S).bind _ = _
    simp -implicitDefEqProofs [h0, a1, gSlice_tup, e1, asT, this]
  simp only [gSrc, e2, srcOf, ulOf]
theorem neD_ev {sp : D} {ks : List Nat} (h : SpV sp U ks) : gNeD sp (.dc 0 []) U = some (.bl (decide (ks ≠ [])), U) := by
  have ha : asD sp U = some (0, kD ks) := by
    rcases h with rfl | ⟨t, rfl, ht⟩
    · rfl
    · simp [asD, ht]
  simp only [gNeD, eqD, ha]
  show ((if (kD ks).length = ([] : List (D × D)).length then (if datL U (kD ks) && datL U [] then some (hitD U [] (kD ks)) else none) else some false).map fun r => (D.bl (!r), U)) = _
  cases ks with
  | nil => rfl
  | cons a l => rfl
theorem spv_app {sp : D} {ks : List Nat} {T : Sto} (h : SpV sp U ks) : SpV sp (U ++ T) ks := by
  rcases h with h | ⟨t, h1, h2⟩
  · exact .inl h
  · exact .inr ⟨t, h1, get_app h2⟩
theorem outer_ev (hn : 200000 < n) (G : Gd m) (h : S[p]? = some (padC rs fr)) (hr : rs.length ≤ 60) {sp : D} {ks : List Nat} (hsp : sp = .dc 0 (kD ks)) (hk : ∀ a, a ∈ ks ↔ reach rs (decide (fr = (rs.length : Nat))) m.gap (lastOf m) (qsOf m) 0 a) (hnd : ks.Nodup) (hkl : ks.length ≤ 1) :
    ∃ sp' x3 x4 x5 x6 ks' T, sFor n (gSrc srcOf sDone) (tName 3) (bDone n) [some (mvD m), some (.ref p), some sp, none, none, none, none] S = .nx [some (mvD m), some (.ref p), some sp', x3, x4, x5, x6] (S ++ T) ∧ SpV sp' (S ++ T) ks' ∧
      ∀ a, a ∈ ks' ↔ reach rs (decide (fr = (rs.length : Nat))) m.gap (lastOf m) (qsOf m) (qsOf m).length a := by
  have hql : (qsOf m).length ≤ 3 := by have := G.len; simp [qsOf]; omega
  have lp := sFor_to (n := n) (t := tName 3) (b := bDone n) (ρ := [some (mvD m), some (.ref p), some sp, none, none, none, none]) (qs_src (S := S) (m := m) rfl) fixL_look (by rw [List.length_map]; omega)
    (fun i ρ U => ∃ sp' x3 x4 x5 x6 ks' T, ρ = [some (mvD m), some (.ref p), some sp', x3, x4, x5, x6] ∧ U = S ++ T ∧ SpV sp' U ks' ∧ ks'.Nodup ∧ ks'.length ≤ 6 ^ i ∧ ∀ a, a ∈ ks' ↔ reach rs (decide (fr = (rs.length : Nat))) m.gap (lastOf m) (qsOf m) i a) (fun _ _ => False)
    ⟨sp, none, none, none, none, ks, [], rfl, (List.append_nil _).symm, .inl hsp, hnd, hkl, hk⟩ (by
      rintro i d ρ U hd ⟨sp', x3, x4, x5, x6, ks', T, rfl, rfl, h1, h2, h3, h4⟩
      refine TurnTo.of ?_
      rw [List.getElem?_map] at hd
      obtain ⟨q, hq, rfl⟩ := Option.map_eq_some_iff.mp hd
      have hi : i < (qsOf m).length := (List.getElem?_eq_some_iff.mp hq).1
      have h6 : 6 ^ i ≤ 6 ^ 3 := Nat.pow_le_pow_right (by omega) (by omega)
      have h63 : (6 : Nat) ^ 3 = 216 := rfl
      obtain ⟨fs', x5', x6', e, g1, g2, g3⟩ := lps_ev (n := n) (U := S ++ T) (sp := sp') (st := q) (x5 := x5) (x6 := x6) (p := p) hn G (get_app h) h1 (by omega) (fun a ha => by have := reach_lt ((h4 a).mp ha); omega)
      have e1 : sSeq (sAsg (gDict0 false 0) (tName 4)) (sSeq (lpS n) (sAsg (gVar 4) (tName 2))) [some (mvD m), some (.ref p), some sp', some (.int (q : Nat)), x4, x5, x6] (S ++ T) = .nx [some (mvD m), some (.ref p), some (.ref (S ++ T).length), some (.int (q : Nat)), some (.ref (S ++ T).length), x5', x6'] (S ++ T ++ [.dict 0 false (kD fs')]) := by
        rw [sSeq_nx (show sAsg (gDict0 false 0) (tName 4) [some (mvD m), some (.ref p), some sp', some (.int (q : Nat)), x4, x5, x6] (S ++ T) = .nx (en m p sp' q (S ++ T).length x5 x6) (S ++ T ++ [.dict 0 false []]) from rfl)]
        rw [sSeq_nx e]
        rfl
      rw [ev_tname, sthn_nx]
      refine ⟨_, _, e1, .ref (S ++ T).length, _, _, _, _, fs', T ++ [.dict 0 false (kD fs')], rfl, by rw [List.append_assoc], .inr ⟨_, rfl, get_new⟩, g1, by rw [Nat.pow_succ]; omega, fun a => ?_⟩
      rw [g3]
      have eq : (qsOf m).getD i 0 = q := by rw [List.getD_eq_getElem?_getD, hq]; rfl
      simp only [reach, eq]
      constructor
      · rintro ⟨b, hb, z1, z2, z3⟩
        exact ⟨⟨b, (h4 b).mp hb, z1, z2⟩, z3⟩
      · rintro ⟨⟨b, hb, z1, z2⟩, z3⟩
        exact ⟨b, (h4 b).mpr hb, z1, z2, z3⟩)
  obtain ⟨ρ, U, e, sp', x3, x4, x5, x6, ks', T, rfl, rfl, h1, h2, h3, h4⟩ := lp.nx
  rw [List.length_map] at h4
  exact ⟨sp', x3, x4, x5, x6, ks', T, e, h1, h4⟩
theorem isdone_ev (G : Gd m) (h : S[p]? = some (padC rs fr)) (hr : rs.length ≤ 60) :
    ∃ b, F_Move_is_done [mvD m, .ref p] S = .ok (.bl b) S ∧ (b = true ↔ ∃ a, reach rs (decide (fr = (rs.length : Nat))) m.gap (lastOf m) (qsOf m) (qsOf m).length a) := by
  have hne : m.steps.length ≠ 0 := fun e => G.ne (List.length_eq_zero_iff.mp e)
  have hlen : (stN m.steps).length = m.steps.length := by simp [stN]
  have e0 : atI (stN m.steps) (-1) = some (.int (lastOf m : Nat)) := by
    rw [Gp.atI_m1, hlen]
    have hk : m.steps.length - 1 < m.steps.length := by omega
    unfold lastOf stN
    rw [List.getElem?_map, List.getElem?_eq_getElem hk, List.getD_eq_getElem?_getD, List.getElem?_map, List.getElem?_eq_getElem hk]
    rfl
  have a1 : gAttr ["Move"] "steps" (mvD m) S = some (.tup (stN m.steps), S) := by simp [gAttr, lookD]
  have c1 := comes_ev (x := mvD m) (st := lastOf m) (ago := 0) h
  have c1 : F_Move_comes [mvD m, .ref p, .int (lastOf m : Nat), .int 0] S = .ok (.bl (cmsA rs (decide (fr = (rs.length : Nat))) (lastOf m) 0)) S := c1
  have e2 := mv_cls (m := m) (S := S)
  have e3 := mv_lk (m := m)
  have d1 : gDisp true [(gC (.int 0), gC (.bl true))] [some (mvD m), some (.ref p), none, none, none, none, none] S = .ok (.dc 0 (kD [0])) S := by
    have g0 := get_new (S := S) (c := Cell.dict 0 false [])
    have : gDispN S.length [(gC (.int 0), gC (.bl true))] [some (mvD m), some (.ref p), none, none, none, none, none] (S ++ [.dict 0 false []]) [] = .ok (.ref S.length) (S ++ [.dict 0 false (kD [0])]) := by
      simp only [gDispN, gC, keyOk, flatKey, if_true, g0, set_new]
      rfl
    simp only [gDisp, if_true, this]
    apply tidy_new
    simp only [frz, Nat.lt_irrefl, if_false, get_new]
    rfl
  have first : ∃ ks : List Nat, sAsg (gIf (gMeth [("Move", [], F_Move_comes)] "comes" (gVar 0) [gVar 1, gBin gIx (gUn (gAttr ["Move"] "steps") (gVar 0)) (gUn gNeg (gC (.int 1))), gC (.int 0)]) (gDisp true [(gC (.int 0), gC (.bl true))]) (gDict0 true 0)) (tName 2) [some (mvD m), some (.ref p), none, none, none, none, none] S
      = .nx [some (mvD m), some (.ref p), some (.dc 0 (kD ks)), none, none, none, none] S ∧ (∀ a, a ∈ ks ↔ reach rs (decide (fr = (rs.length : Nat))) m.gap (lastOf m) (qsOf m) 0 a) ∧ ks.Nodup ∧ ks.length ≤ 1 := by
    simp only [reach]
    generalize cmsA rs (decide (fr = (rs.length : Nat))) (lastOf m) 0 = w at *
    generalize ((lastOf m : Nat) : Int) = la at *
    cases w with
    | true =>
      refine ⟨[0], ?_, fun a => by simp, by simp, by simp⟩
      generalize kD [0] = k0 at *
      generalize gDisp true [(gC (.int 0), gC (.bl true))] = gd at *
      simp -implicitDefEqProofs [e2, e3, mlook, a1, e0, c1, d1]
    | false =>
      refine ⟨[], ?_, fun a => by simp, by simp, by simp⟩
      generalize gDisp true [(gC (.int 0), gC (.bl true))] = gd at *
      simp -implicitDefEqProofs [e2, e3, mlook, a1, e0, c1, gDict0, kD]
  obtain ⟨ks, f1, f2, f3, f4⟩ := first
  obtain ⟨sp', x3, x4, x5, x6, ks', T, o1, o2, o3⟩ := outer_ev (n := 1000000) (by omega) G h hr (sp := .dc 0 (kD ks)) rfl f2 f3 f4
  refine ⟨decide (ks' ≠ []), ?_, ?_⟩
  · have n1 := neD_ev o2
    have td : tidy S (.ok (.bl (decide (ks' ≠ []))) (S ++ T)) = .ok (.bl (decide (ks' ≠ []))) S := tidy_new rfl
    have : m_Move_is_done (startG 7 [mvD m, .ref p]) S = .rt (.bl (decide (ks' ≠ []))) (S ++ T) := by
      unfold m_Move_is_done
      rw [show startG 7 [mvD m, .ref p] = [some (mvD m), some (.ref p), none, none, none, none, none] from rfl]
      rw [sSeq_nx f1, sSeq_nx o1]
      simp -implicitDefEqProofs [gDict0, n1]
    show fnG true 2 7 m_Move_is_done [mvD m, .ref p] S = _
    rw [fnG_eq, if_pos (show [mvD m, D.ref p].length = 2 from rfl), if_pos rfl, this, resOf_rt, td]
  · rw [decide_eq_true_eq]
    constructor
    · intro h
      cases ks' with
      | nil => exact absurd rfl h
      | cons a l => exact ⟨a, (o3 a).mp List.mem_cons_self⟩
    · rintro ⟨a, ha⟩ e
      have := (o3 a).mpr ha
      rw [e] at this; cases this
end
end K12

set_option Elab.async false
set_option linter.all false
set_option maxRecDepth 100000
set_option maxHeartbeats 2000000
/-! K12h: a move is done, by the law -/
namespace K12
open PySem PySem.Spec L2 Gp
abbrev rowD (m : Nat) : D := .ls (strL (rowL m))
def rowsD (rs : List Nat) : D := .ls (rs.map rowD)
def ldB (rs : List Nat) (w : Bool) (gap : Nat) : List (List Nat) → Nat → Bool
  | [], _ => false
  | js :: r, e => cmsB rs w (sN js) e && (r.isEmpty || (List.range (e - (e - gap))).any fun k => ldB rs w gap r (e - gap + k))
section
variable {S : Sto} {rs : List Nat} {js : List Nat} {w : Bool} {e gap : Nat}
theorem nm_row {m j : Nat} (h : j < 7) : nm j ∈ (rowL m).map nm ↔ m.testBit j = true := by
  rw [List.mem_map]
  constructor
  · rintro ⟨i, hi, e⟩
    have := nm_inj (row_mem.mp hi).1 h e
    rw [← this]; exact (row_mem.mp hi).2
  · intro hb
    exact ⟨j, row_mem.mpr ⟨h, hb⟩, rfl⟩
theorem in_row {m j : Nat} (h : j < 7) {b : Bool} : gIn b (.str (nm j)) (rowD m) S = some (.bl (m.testBit j == b), S) := by
  unfold rowD
  rw [strL_eq, gIn_ls_strs]
  congr 4
  rw [Bool.eq_iff_iff, decide_eq_true_eq]
  exact nm_row h
/-- what of a step is not down -/
theorem miss_ev {n : Nat} {ρ : Ev} {src a : GE} {m : Nat} (hn : 200000 < n) (hj : ∀ j ∈ js, j < 7) (hl : js.length ≤ 1000) (h3 : ∀ x S, src (ρ.set 5 x) S = .ok (.tup (strL js)) S) (ha : ∀ x S, a (ρ.set 5 x) S = .ok (rowD m) S) (h6 : ρ.length = 6) :
    gLc true n (gSrc srcOf src) (nName 5) (some (gBin (gIn false) (gVar 5) a)) (gVar 5) [5] ρ S = .ok (.ls (strL (js.filter fun j => !m.testBit j))) S := by
  have h50 : ρ.set 5 (ρ[5]) = ρ := List.set_getElem_self _
  have e0 : src ρ S = .ok (.tup (strL js)) S := by rw [← h50]; exact h3 _ _
  have hit : gSrc srcOf src ρ S = .ok (fixL (strL js)) S none := by simp only [gSrc, e0, srcOf, ulOf]
  have key : ∃ f : D → Option D, ∀ j, j < 7 → f (.str (nm j)) = if m.testBit j then none else some (.str (nm j)) := by
    refine ⟨fun d => match gIn false d (rowD m) [] with | some (.bl true, _) => some d | _ => none, fun j hj => ?_⟩
    simp only [in_row hj]
    cases m.testBit j <;> rfl
  obtain ⟨f, hf⟩ := key
  rw [gLc_pure hit fixL_look f ?_ (by simp; omega) (by simp [sizeLine_eq]; omega) ?_]
  · congr 2
    rw [List.filterMap_map, strL, ← List.filterMap_eq_map, List.filterMap_filter]
    apply fm_congr
    intro j hjm
    simp only [Function.comp, hf j (hj j hjm)]
    cases m.testBit j <;> rfl
  · intro d hd acc
    obtain ⟨j, hjm, rfl⟩ := List.mem_map.mp hd
    refine ⟨_, rfl, ?_⟩
    have ew : (wipeG ρ [5]).set 5 (some (D.str (nm j))) = ρ.set 5 (some (D.str (nm j))) := by simp [wipeG]
    rw [ew]
    have g5 : (ρ.set 5 (some (D.str (nm j))))[5]? = some (some (D.str (nm j))) := by simp [h6]
    have e1 := ha (some (D.str (nm j))) (S ++ [.lst acc])
    have e2 := in_row (S := S ++ [.lst acc]) (m := m) (b := false) (hj j hjm)
    rw [hf j (hj j hjm)]
    cases hb : m.testBit j with
    | true => rw [hb] at e2; simp -implicitDefEqProofs [tstG, g5, e1, e2]
    | false => rw [hb] at e2; simp -implicitDefEqProofs [tstG, g5, e1, e2]
  · intro d hd y hy
    obtain ⟨j, hjm, rfl⟩ := List.mem_map.mp hd
    rw [hf j (hj j hjm)] at hy
    split at hy
    · cases hy
    · cases hy; rfl
theorem miss_has {m : Nat} : decide (strL (js.filter fun j => !m.testBit j) ≠ []) = !hasB m (sN js) := by
  rw [Bool.eq_iff_iff, decide_eq_true_eq, Bool.not_eq_true', ← Bool.not_eq_true, has_iff]
  simp only [strL, ne_eq, List.map_eq_nil_iff, List.filter_eq_nil_iff, Bool.not_eq_true', Bool.not_eq_false]
theorem strL_dat {js : List Nat} : isDat 60 (.ls (strL js)) = true := by rw [strL_eq]; exact isDat_strs
theorem rows_ix {k : Nat} (h : k < rs.length) : gIx (rowsD rs) (.int (k : Nat)) S = some (rowD (rs.getD k 0), S) := by
  unfold rowsD
  rw [gIx_ls, Gp.atI_nat, List.getElem?_map, List.getElem?_eq_getElem h, List.getD_eq_getElem?_getD, List.getElem?_eq_getElem h]
  rfl
theorem lcomes_ev {pl : Nat} (hp : pl < rs.length) (hj : ∀ j ∈ js, j < 7) (hl : js.length ≤ 1000) : F_law_comes [rowsD rs, .bl w, .int (pl : Nat), .tup (strL js)] S = .ok (.bl (cmsB rs w (sN js) pl)) S := by
  have e1 := rows_ix (S := S) hp
  have m1 := miss_ev (S := S) (n := 1000000) (ρ := [some (rowsD rs), some (.bl w), some (.int (pl : Nat)), some (.tup (strL js)), some (rowD (rs.getD pl 0)), none]) (src := gVar 3) (a := gVar 4) (m := rs.getD pl 0) (by omega) hj hl (fun x S => rfl) (fun x S => rfl) rfl
  have n1 := gNe_nil (S := S) (strL_dat (js := js.filter fun j => !(rs.getD pl 0).testBit j))
  rw [miss_has] at n1
  unfold cmsB
  by_cases hz : pl = 0
  · subst hz
    simp only [if_true]
    have hc : ((((0 : Nat) : Int)) = 0) = True := eq_true rfl
    generalize ((0 : Nat) : Int) = q0 at *
    generalize rowsD rs = R at *
    generalize hasB (rs.getD 0 0) (sN js) = h1 at *
    generalize rowD (rs.getD 0 0) = R0 at *
    generalize strL (js.filter fun j => !(rs.getD 0 0).testBit j) = MM at *
    generalize strL js = JJ at *
    cases h1 <;> simp -implicitDefEqProofs [F_law_comes, m_law_comes, startG, e1, ↓m1, n1, hc, tdB]
  · have hp2 : pl - 1 < rs.length := by omega
    have e2 : ∀ S, gIx (rowsD rs) (.int ((pl - 1 : Nat) : Int)) S = some (rowD (rs.getD (pl - 1) 0), S) := fun S => rows_ix (S := S) hp2
    have e3 : ((pl : Nat) : Int) - 1 = ((pl - 1 : Nat) : Int) := by omega
    have h0 : ¬ ((pl : Nat) : Int) = 0 := by omega
    have m2 := miss_ev (S := S) (n := 1000000) (ρ := [some (rowsD rs), some (.bl w), some (.int (pl : Nat)), some (.tup (strL js)), some (rowD (rs.getD pl 0)), none]) (src := gVar 3) (a := gBin gIx (gVar 0) (gBin gSub (gVar 2) (gC (.int 1)))) (m := rs.getD (pl - 1) 0) (by omega) hj hl (fun x S => rfl) (fun x S => by
      have := e2 S
      generalize ((pl - 1 : Nat) : Int) = q1 at *
      generalize ((pl : Nat) : Int) = q0 at *
      generalize rowsD rs = R at *
      simp -implicitDefEqProofs [e3, this]) rfl
    have n2 := gNe_nil (S := S) (strL_dat (js := js.filter fun j => !(rs.getD (pl - 1) 0).testBit j))
    rw [miss_has] at n2
    simp only [hz, if_false]
    generalize rowsD rs = R at *
    generalize hasB (rs.getD pl 0) (sN js) = h1 at *
    generalize hasB (rs.getD (pl - 1) 0) (sN js) = h2 at *
    generalize rowD (rs.getD pl 0) = R0 at *
    generalize strL (js.filter fun j => !(rs.getD pl 0).testBit j) = MM at *
    generalize strL (js.filter fun j => !(rs.getD (pl - 1) 0).testBit j) = M2 at *
    generalize strL js = JJ at *
    generalize ((pl : Nat) : Int) = q0 at *
    cases h1 <;> simp -implicitDefEqProofs [F_law_comes, m_law_comes, startG, e1, ↓m1, n1, ↓m2, n2, h0, tdB]
/-! ### _law_done -/
theorem cut_st {ss : List (List Nat)} (h : ss ≠ []) : cutD (ss.map fun js => D.tup (strL js)) none (some (((ss.length : Nat) : Int) - 1)) = (ss.dropLast).map fun js => D.tup (strL js) := by
  have hl : ss.length ≠ 0 := fun e => h (List.length_eq_zero_iff.mp e)
  have e : ((ss.length : Nat) : Int) - 1 = ((ss.length - 1 : Nat) : Int) := by omega
  rw [e, cutD_take, List.dropLast_eq_take, List.map_take]
theorem last_st {ss : List (List Nat)} {js : List Nat} {S : Sto} : gIx (stT (ss ++ [js])) (.int (((ss ++ [js]).length : Nat) - 1 : Int)) S = some (.tup (strL js), S) := by
  have e : (((ss ++ [js]).length : Nat) : Int) - 1 = ((ss.length : Nat) : Int) := by simp
  rw [e]
  unfold stT
  rw [gIx_tup, Gp.atI_nat]
  simp
theorem ld_go {G_ : Fn} {ss : List (List Nat)} {js : List Nat} (hj : ∀ j ∈ js, j < 7) (hl : js.length ≤ 1000) (he : e < rs.length) (hr : rs.length ≤ 60) (hg : 1 ≤ gap) (hgl : gap ≤ 60) (hsl : ss.length ≤ 10)
    (hG : ss ≠ [] → ∀ p S, p < rs.length → G_ [rowsD rs, .bl w, stT ss, .int (gap : Nat), .int (p : Nat)] S = .ok (.bl (ldB rs w gap ss.reverse p)) S) :
    b_law_done G_ [rowsD rs, .bl w, stT (ss ++ [js]), .int (gap : Nat), .int (e : Nat)] S = .ok (.bl (ldB rs w gap (ss ++ [js]).reverse e)) S := by
  have c1 := lcomes_ev (S := S) (w := w) he hj hl
  have i1 := last_st (ss := ss) (js := js) (S := S)
  have l1 : pLen [stT (ss ++ [js])] S = some (.int ((ss ++ [js]).length : Nat), S) := by unfold stT; rw [pLen_tup, List.length_map]
  have h0 : ¬ ((e : Nat) : Int) < 0 := by omega
  have er : (ss ++ [js]).reverse = js :: ss.reverse := by simp
  rw [er]
  unfold ldB
  by_cases hs : ss = []
  · subst hs
    simp only [List.nil_append, List.length_singleton, List.reverse_nil, List.isEmpty_nil, Bool.true_or, Bool.and_true] at *
    generalize cmsB rs w (sN js) e = c at *
    generalize rowsD rs = R at *
    generalize stT [js] = ST at *
    generalize D.tup (strL js) = J at *
    generalize ((e : Nat) : Int) = ee at *
    generalize ((gap : Nat) : Int) = gg at *
    have l1 : pLen [ST] S = some (.int 1, S) := l1
    have i1 : gIx ST (.int 0) S = some (J, S) := i1
    cases c <;> simp -implicitDefEqProofs [b_law_done, m_law_done, startG, l1, h0, i1, c1, tdB]
  · have hG := hG hs
    have hsl2 : ss.length ≠ 0 := fun z => hs (List.length_eq_zero_iff.mp z)
    have h1 : ¬ (((ss ++ [js]).length : Nat) : Int) = 1 := by simp; omega
    have c2 : ∀ S, gSlice false (stT (ss ++ [js])) none (some (((ss ++ [js]).length : Nat) - 1 : Int)) S = some (stT ss, S) := fun S => by
      have := cut_st (ss := ss ++ [js]) (by simp)
      rw [List.dropLast_concat] at this
      unfold stT
      rw [gSlice_tup, this]
    have hre : ss.reverse.isEmpty = false := by
      cases ss with
      | nil => exact absurd rfl hs
      | cons a l => simp
    have hlo : max (0 : Int) ((e : Int) - (gap : Nat)) = ((e - gap : Nat) : Int) := by omega
    have hit : gSrcA rngOf2 [gCallP pMax [gC (.int 0), gBin gSub (gVar 4) (gVar 3)], gVar 4] [some (rowsD rs), some (.bl w), some (stT (ss ++ [js])), some (.int (gap : Nat)), some (.int (e : Nat)), none] S = .ok (fixL (rngL ((e - gap : Nat) : Int) 1 (e - (e - gap)))) S none := by
      have := rng2_it (a := gCallP pMax [gC (.int 0), gBin gSub (gVar 4) (gVar 3)]) (b := gVar 4) (ρ := [some (rowsD rs), some (.bl w), some (stT (ss ++ [js])), some (.int (gap : Nat)), some (.int (e : Nat)), none]) (S := S) (i := ((e - gap : Nat) : Int)) (j := (e : Nat)) (by
        rw [← hlo]; simp -implicitDefEqProofs) rfl (by omega) (by omega) (by omega) (by omega)
      rw [this]
      have ej : (((e : Nat) : Int) - ((e - gap : Nat) : Int)).toNat = e - (e - gap) := by omega
      rw [ej]
    have hrl : (rngL ((e - gap : Nat) : Int) 1 (e - (e - gap))).length = e - (e - gap) := by simp [rngL]
    have g1 := gLc_map (n := 1000000) (t := nName 5) (c := some (gCall G_ [gVar 0, gVar 1, gSl false (gVar 2) none (some (gBin gSub (gCallP pLen [gVar 2]) (gC (.int 1)))), gVar 3, gVar 5] [])) (e := gVar 5) (vs := [5]) (L := List.range (e - (e - gap))) (g := fun k => .int (((e - gap : Nat) : Int) + (k : Nat) * 1)) (f := fun k => .int (((e - gap : Nat) : Int) + (k : Nat) * 1)) (p := fun k => ldB rs w gap ss.reverse (e - gap + k)) hit (by
      intro k hk acc
      rw [List.mem_range] at hk
      refine ⟨[some (rowsD rs), some (.bl w), some (stT (ss ++ [js])), some (.int (gap : Nat)), some (.int (e : Nat)), some (.int (((e - gap : Nat) : Int) + (k : Nat) * 1))], rfl, ?_, fun _ => rfl⟩
      have ek : ((e - gap : Nat) : Int) + (k : Nat) * 1 = ((e - gap + k : Nat) : Int) := by omega
      rw [ek]
      have g2 := hG (e - gap + k) (S ++ [.lst acc]) (by omega)
      have l2 : pLen [stT (ss ++ [js])] (S ++ [.lst acc]) = some (.int ((ss ++ [js]).length : Nat), S ++ [.lst acc]) := by unfold stT; rw [pLen_tup, List.length_map]
      have c3 := c2 (S ++ [.lst acc])
      generalize ldB rs w gap ss.reverse (e - gap + k) = b at *
      generalize ((e - gap + k : Nat) : Int) = x at *
      generalize rowsD rs = R at *
      generalize (((ss ++ [js]).length : Nat) : Int) = N at *
      generalize stT (ss ++ [js]) = ST at *
      generalize stT ss = ST2 at *
      simp -implicitDefEqProofs [tstG, l2, c3, g2]) (by simp; omega) (by simp [sizeLine_eq]; omega) (fun _ _ _ => rfl)
    have n1 : gNe (.ls (((List.range (e - (e - gap))).filter fun k => ldB rs w gap ss.reverse (e - gap + k)).map fun k => .int (((e - gap : Nat) : Int) + (k : Nat) * 1))) (.ls []) S = some (.bl ((List.range (e - (e - gap))).any fun k => ldB rs w gap ss.reverse (e - gap + k)), S) := by
      rw [gNe_nil (isDat_lsM fun _ _ => rfl)]
      congr 3
      rw [Bool.eq_iff_iff, decide_eq_true_eq, List.any_eq_true]
      simp only [ne_eq, List.map_eq_nil_iff, List.filter_eq_nil_iff]
      constructor
      · intro hne
        exact Classical.byContradiction fun hz => hne fun a ha hb => hz ⟨a, ha, hb⟩
      · rintro ⟨k, hk, hb⟩ hne
        exact hne k hk hb
    simp only [hre, Bool.false_or]
    generalize ((List.range (e - (e - gap))).any fun k => ldB rs w gap ss.reverse (e - gap + k)) = b2 at *
    generalize (((List.range (e - (e - gap))).filter fun k => ldB rs w gap ss.reverse (e - gap + k)).map fun (k : Nat) => D.int (((e - gap : Nat) : Int) + (k : Nat) * 1)) = LL at *
    generalize cmsB rs w (sN js) e = c at *
    generalize rowsD rs = R at *
    generalize (((ss ++ [js]).length : Nat) : Int) = N at *
    generalize stT (ss ++ [js]) = ST at *
    generalize D.tup (strL js) = J at *
    generalize ((e : Nat) : Int) = ee at *
    generalize ((gap : Nat) : Int) = gg at *
    cases c <;> simp -implicitDefEqProofs [b_law_done, m_law_done, startG, l1, h0, i1, c1, h1, ↓g1, n1, tdB]
theorem ld_ev (hr : rs.length ≤ 60) (hg : 1 ≤ gap) (hgl : gap ≤ 60) : ∀ (k : Nat) (ss : List (List Nat)) (e : Nat) (S : Sto), ss ≠ [] → ss.length ≤ k → ss.length ≤ 10 → (∀ js ∈ ss, js.length ≤ 1000 ∧ ∀ j ∈ js, j < 7) → e < rs.length →
    recN b_law_done k [rowsD rs, .bl w, stT ss, .int (gap : Nat), .int (e : Nat)] S = .ok (.bl (ldB rs w gap ss.reverse e)) S
  | 0, ss, e, S, h1, h2, _, _, _ => absurd (List.length_eq_zero_iff.mp (by omega)) h1
  | k + 1, ss, e, S, h1, h2, h3, h4, h5 => by
    obtain ⟨ss, js, rfl⟩ : ∃ l a, ss = l ++ [a] := ⟨ss.dropLast, ss.getLast h1, (List.dropLast_concat_getLast h1).symm⟩
    rw [List.length_append, List.length_singleton] at h2 h3
    obtain ⟨g1, g2⟩ := h4 js (by simp)
    exact ld_go (G_ := recN b_law_done k) g2 g1 h5 hr hg hgl (by omega) fun hs p S hp => ld_ev hr hg hgl k ss p S hs (by omega) (by omega) (fun x hx => h4 x (by simp [hx])) hp
theorem ldone_ev {m : Mv} (G : Gd m) (hr : rs.length ≤ 60) (he : e < rs.length) : F_law_done [rowsD rs, .bl w, stT m.steps, .int (m.gap : Nat), .int (e : Nat)] S = .ok (.bl (ldB rs w m.gap m.steps.reverse e)) S :=
  ld_ev hr G.gap.1 (by have := G.gap; omega) 6 m.steps e S G.ne (by have := G.len; omega) (by have := G.len; omega) (fun js h => ⟨by have := (G.st js h).2.1; omega, (G.st js h).2.2⟩) he
end
end K12

set_option Elab.async false
set_option linter.all false
set_option maxRecDepth 100000
set_option maxHeartbeats 2000000
/-! K12i: both ways tell the same -/
namespace K12
open PySem PySem.Spec L2 Gp
section
variable {rs : List Nat} {w : Bool} {gap last : Nat}
/-- the steps of qs can be found from a on -/
def ext (rs : List Nat) (w : Bool) (gap : Nat) : List Nat → Nat → Prop
  | [], _ => True
  | q :: l, a => ∃ b, a < b ∧ b ≤ a + gap ∧ cmsA rs w q b = true ∧ ext rs w gap l b
theorem reach_step {qs : List Nat} {i : Nat} (hi : i < qs.length) : (∃ a, reach rs w gap last qs i a ∧ ext rs w gap (qs.drop i) a) ↔ ∃ a, reach rs w gap last qs (i + 1) a ∧ ext rs w gap (qs.drop (i + 1)) a := by
  have hd : qs.drop i = qs.getD i 0 :: qs.drop (i + 1) := by
    rw [List.drop_eq_getElem_cons hi, List.getD_eq_getElem?_getD, List.getElem?_eq_getElem hi]; rfl
  rw [hd]
  constructor
  · rintro ⟨a, h1, b, h2, h3, h4, h5⟩
    exact ⟨b, ⟨⟨a, h1, h2, h3⟩, h4⟩, h5⟩
  · rintro ⟨b, ⟨⟨a, h1, h2, h3⟩, h4⟩, h5⟩
    exact ⟨a, h1, b, h2, h3, h4, h5⟩
theorem reach_ext {qs : List Nat} : ∀ i, i ≤ qs.length → ((∃ a, reach rs w gap last qs 0 a ∧ ext rs w gap qs a) ↔ ∃ a, reach rs w gap last qs i a ∧ ext rs w gap (qs.drop i) a)
  | 0, _ => by rw [List.drop_zero]
  | i + 1, hi => (reach_ext i (by omega)).trans (reach_step (by omega))
theorem reach_all {qs : List Nat} : (∃ a, reach rs w gap last qs qs.length a) ↔ cmsA rs w last 0 = true ∧ ext rs w gap qs 0 := by
  have h := reach_ext (rs := rs) (w := w) (gap := gap) (last := last) (qs := qs) qs.length (Nat.le_refl _)
  rw [List.drop_length] at h
  constructor
  · rintro ⟨a, ha⟩
    obtain ⟨b, ⟨rfl, hb⟩, hc⟩ := h.mpr ⟨a, ha, trivial⟩
    exact ⟨hb, hc⟩
  · rintro ⟨h1, h2⟩
    obtain ⟨a, ha, _⟩ := h.mp ⟨0, ⟨rfl, h1⟩, h2⟩
    exact ⟨a, ha⟩
/-- the law's steps ahead of one that comes at e -/
def ahead (rs : List Nat) (w : Bool) (gap : Nat) (r : List (List Nat)) (e : Nat) : Bool := r.isEmpty || (List.range (e - (e - gap))).any fun k => ldB rs w gap r (e - gap + k)
theorem ahead_iff {r : List (List Nat)} {e : Nat} : ahead rs w gap r e = true ↔ r = [] ∨ ∃ p, p < e ∧ e ≤ p + gap ∧ ldB rs w gap r p = true := by
  simp only [ahead, Bool.or_eq_true, List.isEmpty_iff, List.any_eq_true, List.mem_range]
  constructor
  · rintro (h | ⟨k, h1, h2⟩)
    · exact .inl h
    · exact .inr ⟨e - gap + k, by omega, by omega, h2⟩
  · rintro (h | ⟨p, h1, h2, h3⟩)
    · exact .inl h
    · refine .inr ⟨p - (e - gap), by omega, ?_⟩
      rw [show e - gap + (p - (e - gap)) = p by omega]; exact h3
theorem ext_ahead : ∀ (r : List (List Nat)) (a : Nat), a < rs.length → (ext rs w gap (r.map sN) a ↔ ahead rs w gap r (rs.length - 1 - a) = true)
  | [], a, _ => by simp [ext, ahead]
  | js :: r, a, ha => by
    rw [ahead_iff]
    simp only [List.map_cons, ext, reduceCtorEq, false_or]
    constructor
    · rintro ⟨b, h1, h2, h3, h4⟩
      have hb := cms_lt h3
      refine ⟨rs.length - 1 - b, by omega, by omega, ?_⟩
      have h5 := (ext_ahead r b hb).mp h4
      simp only [cmsA, Bool.and_eq_true, decide_eq_true_eq] at h3
      unfold ldB
      rw [h3.2, Bool.true_and]
      exact h5
    · rintro ⟨p, h1, h2, h3⟩
      unfold ldB at h3
      rw [Bool.and_eq_true] at h3
      have hb : rs.length - 1 - p < rs.length := by omega
      refine ⟨rs.length - 1 - p, by omega, by omega, ?_, (ext_ahead r _ hb).mpr ?_⟩
      · simp only [cmsA, Bool.and_eq_true, decide_eq_true_eq]
        refine ⟨hb, ?_⟩
        rw [show rs.length - 1 - (rs.length - 1 - p) = p by omega]
        exact h3.1
      · rw [show rs.length - 1 - (rs.length - 1 - p) = p by omega]
        exact h3.2
/-- is a move done -/
def dnB (rs : List Nat) (w : Bool) (m : Mv) : Bool := ldB rs w m.gap m.steps.reverse (rs.length - 1)
theorem done_same {m : Mv} (G : Gd m) (h : rs ≠ []) : (∃ a, reach rs w m.gap (lastOf m) (qsOf m) (qsOf m).length a) ↔ dnB rs w m = true := by
  have hl : 0 < rs.length := List.length_pos_iff.mpr h
  obtain ⟨ss, js, hs⟩ : ∃ l a, m.steps = l ++ [a] := ⟨m.steps.dropLast, m.steps.getLast G.ne, (List.dropLast_concat_getLast G.ne).symm⟩
  have hq : qsOf m = ss.reverse.map sN := by
    unfold qsOf
    rw [hs, List.map_append, List.length_append]
    simp
  have hla : lastOf m = sN js := by
    unfold lastOf
    rw [hs]
    simp [List.getD_eq_getElem?_getD]
  rw [reach_all, hq, hla, ext_ahead ss.reverse 0 hl]
  unfold dnB
  rw [hs, List.reverse_append, List.reverse_singleton, List.singleton_append]
  simp only [ldB, Bool.and_eq_true, cmsA, decide_eq_true_eq, Nat.sub_zero]
  constructor
  · rintro ⟨⟨_, h1⟩, h2⟩
    exact ⟨h1, h2⟩
  · rintro ⟨h1, h2⟩
    exact ⟨⟨hl, h1⟩, h2⟩
end
section
variable {S : Sto} {rs : List Nat} {p : Nat} {fr : Int} {ms : List Mv}
theorem isdone {m : Mv} (G : Gd m) (h : S[p]? = some (padC rs fr)) (hr : rs.length ≤ 60) (hne : rs ≠ []) : F_Move_is_done [mvD m, .ref p] S = .ok (.bl (dnB rs (decide (fr = (rs.length : Nat))) m)) S := by
  obtain ⟨b, e, hb⟩ := isdone_ev G h hr
  rw [e]
  congr 2
  rw [Bool.eq_iff_iff, hb, done_same G hne]
/-! ### the best move -/
/-- the best of some, b the one so far -/
def gtB : Option Mv → Mv → Bool
  | none, _ => true
  | some x, m => decide (x.steps.length < m.steps.length)
def bstF (rs : List Nat) (w : Bool) (b : Option Mv) (m : Mv) : Option Mv := if (gtB b m && dnB rs w m) = true then some m else b
def bst (rs : List Nat) (w : Bool) (ms : List Mv) : Option Mv := ms.foldl (bstF rs w) none
def bstD : Option Mv → D
  | none => .non
  | some m => mvD m
abbrev bBest : GS := sIf (gAnd (gOr (gBin (gIs true) (gVar 2) (gC .non)) (gBin gGt (gCallP pLen [gUn (gAttr ["Move"] "steps") (gVar 3)]) (gCallP pLen [gUn (gAttr ["Move"] "steps") (gVar 2)]))) (gMeth [("Move", [], F_Move_is_done)] "is_done" (gVar 3) [gVar 1])) (sAsg (gVar 3) (tName 2)) (sNil)
theorem mv_steps {m : Mv} : gAttr ["Move"] "steps" (mvD m) S = some (.tup (stN m.steps), S) := by simp [gAttr, lookD]
theorem mv_name {m : Mv} : gAttr ["Move"] "name" (mvD m) S = some (.str m.name, S) := by simp [gAttr, lookD]
theorem mv_gap {m : Mv} : gAttr ["Move"] "gap" (mvD m) S = some (.int (m.gap : Nat), S) := by simp [gAttr, lookD]
theorem mv_lkd {m : Mv} : lookD "is_done" (mvF m) = none := rfl
theorem bbest_ev {b : Option Mv} {m : Mv} {x : D} (G : Gd m) (h : S[p]? = some (padC rs fr)) (hr : rs.length ≤ 60) (hne : rs ≠ []) :
    bBest [some x, some (.ref p), some (bstD b), some (mvD m)] S = .nx [some x, some (.ref p), some (bstD (bstF rs (decide (fr = (rs.length : Nat))) b m)), some (mvD m)] S := by
  have e1 := isdone G h hr hne
  have e2 := mv_cls (m := m) (S := S)
  have e3 := mv_lkd (m := m)
  have e4 := mv_steps (m := m) (S := S)
  have e5 : pLen [.tup (stN m.steps)] S = some (.int (m.steps.length : Nat), S) := by rw [pLen_tup]; simp [stN]
  unfold bstF
  generalize dnB rs (decide (fr = (rs.length : Nat))) m = dn at *
  cases b with
  | none =>
    have i1 : gIs true .non .non S = some (.bl true, S) := rfl
    simp only [gtB]
    cases dn <;> simp -implicitDefEqProofs [bstD, i1, e1, e2, e3, mlook]
  | some y =>
    have i1 : gIs true (mvD y) .non S = some (.bl false, S) := rfl
    have e6 := mv_steps (m := y) (S := S)
    have e7 : pLen [.tup (stN y.steps)] S = some (.int (y.steps.length : Nat), S) := by rw [pLen_tup]; simp [stN]
    have e8 : gGt (.int (m.steps.length : Nat)) (.int (y.steps.length : Nat)) S = some (.bl (gtB (some y) m), S) := by
      rw [gGt_int]; congr 3; unfold gtB; apply decide_eq_decide.mpr; omega
    generalize gtB (some y) m = lt at *
    generalize ((m.steps.length : Nat) : Int) = n1 at *
    generalize ((y.steps.length : Nat) : Int) = n2 at *
    cases lt <;> cases dn <;> simp -implicitDefEqProofs [bstD, i1, e1, e2, e3, e4, e5, e6, e7, e8, mlook]
theorem lpbest_ev {n : Nat} {x : D} {it : GI} {lk : Look} {xx : Option D} (hn : ms.length < n) (hit : it [some x, some (.ref p), some .non, xx] S = .ok lk S none) (hlk : lk = fixL (ms.map mvD) ∨ ∃ k, lk = liveL k ∧ S[k]? = some (.lst (ms.map mvD))) (G : ∀ m ∈ ms, Gd m) (h : S[p]? = some (padC rs fr)) (hr : rs.length ≤ 60) (hne : rs ≠ []) :
    ∃ y, sFor n it (tName 3) bBest [some x, some (.ref p), some .non, xx] S = .nx [some x, some (.ref p), some (bstD (bst rs (decide (fr = (rs.length : Nat))) ms)), y] S := by
  have key : ∀ k i y, ms.length < k + i → i ≤ ms.length → ∃ y', forN lk (fun d ρ S => (tName 3 d ρ S).thn bBest) k i [some x, some (.ref p), some (bstD (bst rs (decide (fr = (rs.length : Nat))) (ms.take i))), y] S = .nx [some x, some (.ref p), some (bstD (bst rs (decide (fr = (rs.length : Nat))) ms)), y'] S := by
    intro k
    induction k with
    | zero => intro i y h1 h2; omega
    | succ k ih =>
      intro i y h1 h2
      have hl : lk i S = some (ms.map mvD)[i]? := by
        rcases hlk with rfl | ⟨q, rfl, hq⟩
        · rfl
        · simp only [liveL, hq]
      simp only [forN, hl]
      rcases Nat.lt_or_ge i ms.length with hi | hi
      · rw [List.getElem?_map, List.getElem?_eq_getElem hi]
        simp only [Option.map_some]
        rw [ev_tname, sthn_nx]
        simp only [List.set_cons_succ, List.set_cons_zero]
        rw [bbest_ev (G _ (List.getElem_mem hi)) h hr hne]
        have e : bstF rs (decide (fr = (rs.length : Nat))) (bst rs (decide (fr = (rs.length : Nat))) (ms.take i)) ms[i] = bst rs (decide (fr = (rs.length : Nat))) (ms.take (i + 1)) := by
          unfold bst
          rw [List.take_succ, List.getElem?_eq_getElem hi, Option.toList_some, List.foldl_append]
          rfl
        rw [e]
        exact ih (i + 1) _ (by omega) hi
      · rw [List.getElem?_eq_none (by rw [List.length_map]; exact hi)]
        rw [List.take_of_length_le hi]
        exact ⟨y, rfl⟩
  obtain ⟨y, e⟩ := key n 0 xx (by omega) (by omega)
  refine ⟨y, ?_⟩
  simp only [sFor, hit, IR.thn, unlRS]
  exact e
def bstN : Option Mv → D
  | none => .non
  | some m => .str m.name
theorem best_ev {x : D} (hm : ms.length ≤ 100) (hx : (x = .ls (ms.map mvD)) ∨ ∃ k, x = .ref k ∧ S[k]? = some (.lst (ms.map mvD))) (G : ∀ m ∈ ms, Gd m) (h : S[p]? = some (padC rs fr)) (hr : rs.length ≤ 60) (hne : rs ≠ []) :
    F_best_move [x, .ref p] S = .ok (bstN (bst rs (decide (fr = (rs.length : Nat))) ms)) S := by
  have key : ∃ lk, gSrc srcOf (gVar 0) [some x, some (.ref p), some .non, none] S = .ok lk S none ∧ (lk = fixL (ms.map mvD) ∨ ∃ k, lk = liveL k ∧ S[k]? = some (.lst (ms.map mvD))) := by
    rcases hx with rfl | ⟨k, rfl, hk⟩
    · exact ⟨_, src_ls rfl, .inl rfl⟩
    · exact ⟨_, src_ref rfl hk, .inr ⟨k, rfl, hk⟩⟩
  obtain ⟨lk, hit, hlk⟩ := key
  obtain ⟨y, e⟩ := lpbest_ev (n := 1000000) (by omega) hit hlk G h hr hne
  generalize bst rs (decide (fr = (rs.length : Nat))) ms = b at *
  cases b with
  | none =>
    have i1 : gIs true .non .non S = some (.bl true, S) := rfl
    have td : tidy S (.ok .non S) = .ok .non S := tidy_id rfl
    simp -implicitDefEqProofs [F_best_move, m_best_move, startG, ↓e, bstD, bstN, i1, td]
  | some m =>
    have i1 : gIs true (mvD m) .non S = some (.bl false, S) := rfl
    have td : tidy S (.ok (.str m.name) S) = .ok (.str m.name) S := tidy_id rfl
    have e4 := mv_name (m := m) (S := S)
    simp -implicitDefEqProofs [F_best_move, m_best_move, startG, ↓e, bstD, bstN, i1, td, e4]
abbrev ln (m : Mv) : Nat := m.steps.length
def pick (b : Option Mv) (m : Mv) : Option Mv := if gtB b m = true then some m else b
def mxL (l : List Mv) : Nat := l.foldr (fun m k => max (ln m) k) 0
theorem bst_done {rs : List Nat} {w : Bool} : ∀ {ms : List Mv} {b : Option Mv}, ms.foldl (bstF rs w) b = (ms.filter (dnB rs w)).foldl pick b
  | [], b => rfl
  | m :: ms, b => by
    rw [List.foldl_cons, bst_done]
    by_cases h : dnB rs w m = true
    · rw [List.filter_cons_of_pos h, List.foldl_cons]
      simp [bstF, pick, h]
    · rw [List.filter_cons_of_neg h]
      have h : dnB rs w m = false := by simpa using h
      simp [bstF, h]
theorem pick_some : ∀ {l : List Mv} {y : Mv}, l.foldl pick (some y) = if ln y < mxL l then (l.filter fun m => ln m == mxL l).head? else some y
  | [], y => by simp [mxL]
  | m :: l, y => by
    have hm : mxL (m :: l) = max (ln m) (mxL l) := rfl
    rw [List.foldl_cons]
    by_cases h1 : ln y < ln m
    · have hp : pick (some y) m = some m := by simp [pick, gtB, h1]
      rw [hp, pick_some, hm]
      by_cases h2 : ln m < mxL l
      · have e : max (ln m) (mxL l) = mxL l := by omega
        have h3 : ¬ (ln m == mxL l) = true := by simp; omega
        rw [if_pos h2, e, if_pos (by omega), List.filter_cons_of_neg (p := fun m => ln m == mxL l) h3]
      · have e : max (ln m) (mxL l) = ln m := by omega
        rw [if_neg h2, e, if_pos h1, List.filter_cons_of_pos (by simp)]
        rfl
    · have hp : pick (some y) m = some y := by simp [pick, gtB, h1]
      rw [hp, pick_some, hm]
      by_cases h2 : ln y < mxL l
      · have e : max (ln m) (mxL l) = mxL l := by omega
        have h3 : ¬ (ln m == mxL l) = true := by simp; omega
        rw [if_pos h2, e, if_pos h2, List.filter_cons_of_neg (p := fun m => ln m == mxL l) h3]
      · rw [if_neg h2, if_neg (by omega)]
theorem pick_none {l : List Mv} : l.foldl pick none = (l.filter fun m => ln m == mxL l).head? := by
  cases l with
  | nil => rfl
  | cons m l =>
    have hm : mxL (m :: l) = max (ln m) (mxL l) := rfl
    rw [List.foldl_cons, show pick none m = some m from rfl, pick_some, hm]
    by_cases h2 : ln m < mxL l
    · have e : max (ln m) (mxL l) = mxL l := by omega
      have h3 : ¬ (ln m == mxL l) = true := by simp; omega
      rw [if_pos h2, e, List.filter_cons_of_neg (p := fun m => ln m == mxL l) h3]
    · have e : max (ln m) (mxL l) = ln m := by omega
      rw [if_neg h2, e, List.filter_cons_of_pos (by simp)]
      rfl
theorem bst_eq {rs : List Nat} {w : Bool} {ms : List Mv} : bst rs w ms = ((ms.filter (dnB rs w)).filter fun m => ln m == mxL (ms.filter (dnB rs w))).head? := by
  unfold bst
  rw [bst_done, pick_none]
end
end K12

set_option Elab.async false
set_option linter.all false
set_option maxRecDepth 100000
namespace K12
open PySem PySem.Spec L2 Gp
/-- what the names of law hold -/
structure Sl where
  v_script : Option D
  v_dice : Option D
  v_names : Option D
  v_moves : Option D
  v_own : Option D
  v_k : Option D
  v_steps : Option D
  v_gap : Option D
  v_pad : Option D
  v_rows : Option D
  v_frame : Option D
  v_row : Option D
  v_number : Option D
  v_whole : Option D
  v_done : Option D
  v_most : Option D
  v_name : Option D
  v_ago : Option D
  v_down : Option D
  v_before : Option D
  v_known : Option D
  v_held : Option D
  v_bad : Option D
  v_move : Option D
  v_one : Option D
  v_i : Option D
  v_j : Option D
  v_f : Option D
  v_zlaw : Option D
namespace Sl
def ev (s : Sl) : Ev := [s.v_script, s.v_dice, s.v_names, s.v_moves, s.v_own, s.v_k, s.v_steps, s.v_gap, s.v_pad, s.v_rows, s.v_frame, s.v_row, s.v_number, s.v_whole, s.v_done, s.v_most, s.v_name, s.v_ago, s.v_down, s.v_before, s.v_known, s.v_held, s.v_bad, s.v_move, s.v_one, s.v_i, s.v_j, s.v_f, s.v_zlaw]
variable {s : Sl} {d : Option D}
@[simp] theorem get_0 : s.ev[0]? = some s.v_script := rfl
@[simp] theorem get_1 : s.ev[1]? = some s.v_dice := rfl
@[simp] theorem get_2 : s.ev[2]? = some s.v_names := rfl
@[simp] theorem get_3 : s.ev[3]? = some s.v_moves := rfl
@[simp] theorem get_4 : s.ev[4]? = some s.v_own := rfl
@[simp] theorem get_5 : s.ev[5]? = some s.v_k := rfl
@[simp] theorem get_6 : s.ev[6]? = some s.v_steps := rfl
@[simp] theorem get_7 : s.ev[7]? = some s.v_gap := rfl
@[simp] theorem get_8 : s.ev[8]? = some s.v_pad := rfl
@[simp] theorem get_9 : s.ev[9]? = some s.v_rows := rfl
@[simp] theorem get_10 : s.ev[10]? = some s.v_frame := rfl
@[simp] theorem get_11 : s.ev[11]? = some s.v_row := rfl
@[simp] theorem get_12 : s.ev[12]? = some s.v_number := rfl
@[simp] theorem get_13 : s.ev[13]? = some s.v_whole := rfl
@[simp] theorem get_14 : s.ev[14]? = some s.v_done := rfl
@[simp] theorem get_15 : s.ev[15]? = some s.v_most := rfl
@[simp] theorem get_16 : s.ev[16]? = some s.v_name := rfl
@[simp] theorem get_17 : s.ev[17]? = some s.v_ago := rfl
@[simp] theorem get_18 : s.ev[18]? = some s.v_down := rfl
@[simp] theorem get_19 : s.ev[19]? = some s.v_before := rfl
@[simp] theorem get_20 : s.ev[20]? = some s.v_known := rfl
@[simp] theorem get_21 : s.ev[21]? = some s.v_held := rfl
@[simp] theorem get_22 : s.ev[22]? = some s.v_bad := rfl
@[simp] theorem get_23 : s.ev[23]? = some s.v_move := rfl
@[simp] theorem get_24 : s.ev[24]? = some s.v_one := rfl
@[simp] theorem get_25 : s.ev[25]? = some s.v_i := rfl
@[simp] theorem get_26 : s.ev[26]? = some s.v_j := rfl
@[simp] theorem get_27 : s.ev[27]? = some s.v_f := rfl
@[simp] theorem get_28 : s.ev[28]? = some s.v_zlaw := rfl
@[simp] theorem set_0 : s.ev.set 0 d = { s with v_script := d }.ev := rfl
@[simp] theorem set_1 : s.ev.set 1 d = { s with v_dice := d }.ev := rfl
@[simp] theorem set_2 : s.ev.set 2 d = { s with v_names := d }.ev := rfl
@[simp] theorem set_3 : s.ev.set 3 d = { s with v_moves := d }.ev := rfl
@[simp] theorem set_4 : s.ev.set 4 d = { s with v_own := d }.ev := rfl
@[simp] theorem set_5 : s.ev.set 5 d = { s with v_k := d }.ev := rfl
@[simp] theorem set_6 : s.ev.set 6 d = { s with v_steps := d }.ev := rfl
@[simp] theorem set_7 : s.ev.set 7 d = { s with v_gap := d }.ev := rfl
@[simp] theorem set_8 : s.ev.set 8 d = { s with v_pad := d }.ev := rfl
@[simp] theorem set_9 : s.ev.set 9 d = { s with v_rows := d }.ev := rfl
@[simp] theorem set_10 : s.ev.set 10 d = { s with v_frame := d }.ev := rfl
@[simp] theorem set_11 : s.ev.set 11 d = { s with v_row := d }.ev := rfl
@[simp] theorem set_12 : s.ev.set 12 d = { s with v_number := d }.ev := rfl
@[simp] theorem set_13 : s.ev.set 13 d = { s with v_whole := d }.ev := rfl
@[simp] theorem set_14 : s.ev.set 14 d = { s with v_done := d }.ev := rfl
@[simp] theorem set_15 : s.ev.set 15 d = { s with v_most := d }.ev := rfl
@[simp] theorem set_16 : s.ev.set 16 d = { s with v_name := d }.ev := rfl
@[simp] theorem set_17 : s.ev.set 17 d = { s with v_ago := d }.ev := rfl
@[simp] theorem set_18 : s.ev.set 18 d = { s with v_down := d }.ev := rfl
@[simp] theorem set_19 : s.ev.set 19 d = { s with v_before := d }.ev := rfl
@[simp] theorem set_20 : s.ev.set 20 d = { s with v_known := d }.ev := rfl
@[simp] theorem set_21 : s.ev.set 21 d = { s with v_held := d }.ev := rfl
@[simp] theorem set_22 : s.ev.set 22 d = { s with v_bad := d }.ev := rfl
@[simp] theorem set_23 : s.ev.set 23 d = { s with v_move := d }.ev := rfl
@[simp] theorem set_24 : s.ev.set 24 d = { s with v_one := d }.ev := rfl
@[simp] theorem set_25 : s.ev.set 25 d = { s with v_i := d }.ev := rfl
@[simp] theorem set_26 : s.ev.set 26 d = { s with v_j := d }.ev := rfl
@[simp] theorem set_27 : s.ev.set 27 d = { s with v_f := d }.ev := rfl
@[simp] theorem set_28 : s.ev.set 28 d = { s with v_zlaw := d }.ev := rfl
end Sl
def s0 (x : D) : Sl := ⟨some x, none, none, none, none, none, none, none, none, none, none, none, none, none, none, none, none, none, none, none, none, none, none, none, none, none, none, none, none⟩
theorem start_s0 {x : D} : startG 29 [x] = (s0 x).ev := rfl
abbrev pB1 : GS := sAsg (gTup [gLst false [gC (.str "up"), gC (.str "down"), gC (.str "left"), gC (.str "right"), gC (.str "hit"), gC (.str "jump"), gC (.str "block")], gLst true [], gLst true []]) (tTupl 3 (tsCons (tName 2) (tsCons (tName 3) (tsCons (tName 4) (tsNil)))))
abbrev pB2 : GS := sFor 1000000 (gSrcA rngOf1 [gBin gAdd (gC (.int 1)) (gCall F_law_roll [gVar 1, gC (.int 4)] [])]) (tName 5) (sSeq (sAsg (gCallP pTuple [gLc true 1000000 (gSrcA rngOf1 [gBin gAdd (gC (.int 1)) (gCall F_law_roll [gVar 1, gC (.int 4)] [])]) (nName 25) none (gCallP pTuple [gLc true 1000000 (gSrcA rngOf1 [gBin gAdd (gC (.int 1)) (gCall F_law_roll [gVar 1, gC (.int 2)] [])]) (nName 26) none (gBin gIx (gVar 2) (gBin gAdd (gCall F_law_roll [gVar 1, gC (.int 3)] []) (gC (.int 2)))) [26]]) [25]]) (tName 6)) (sSeq (sAsg (gBin gAdd (gC (.int 1)) (gCall F_law_roll [gVar 1, gC (.int 6)] [])) (tName 7)) (sSeq (sExpr (gMb "list" pAppend (gVar 3) [gMake true "Move" F_Move_init [gBin gAdd (gC (.str "m")) (gCallP pStr [gVar 5]), gVar 6, gVar 7] []])) (sExpr (gMb "list" pAppend (gVar 4) [gTup [gBin gAdd (gC (.str "m")) (gCallP pStr [gVar 5]), gVar 6, gVar 7]])))))
abbrev pB3 : GS := sAsg (gTup [gMake false "Pad" F_Pad_init [] [], gLst false []]) (tTupl 2 (tsCons (tName 8) (tsCons (tName 9) (tsNil))))
abbrev pB4 : GS := sFor 1000000 (gSrcA rngOf1 [gCall F_law_roll [gVar 1, gC (.int 91)] []]) (tName 10) (sSeq (sAsg (gLc true 1000000 (gSrc srcOf (gVar 2)) (nName 16) (some (gBin gEq (gCall F_law_roll [gVar 1, gC (.int 3)] []) (gC (.int 0)))) (gVar 16) [16]) (tName 11)) (sSeq (sAsg (gCallP pSum [gLc true 1000000 (gSrc srcOf (gVar 11)) (nName 16) none (gBin gShl (gC (.int 1)) (gMb "list" pIndexL (gVar 2) [gVar 16])) [16]]) (tName 12)) (sSeq (sIf (gOr (gBin gNe (gCall F_pressed_number [gVar 11] []) (gVar 12)) (gBin gNe (gCallP (pList false) [gCall F_pressed_names [gVar 12] []]) (gVar 11))) (sRet (gC (.bl false))) (sNil)) (sSeq (sExpr (gMeth [("Pad", [], F_Pad_note)] "note" (gVar 8) [gVar 12])) (sSeq (sAsg (gSl false (gBin gAdd (gVar 9) (gLst false [gVar 11])) (some (gUn gNeg (gC (.int 60)))) none) (tName 9)) (sSeq (sAsg (gBin gLe (gUn (gAttr ["Pad"] "frames") (gVar 8)) (gC (.int 60))) (tName 13)) (sSeq (sAsg (gLc true 1000000 (gSrc srcOf (gVar 4)) (nName 24) (some (gCall F_law_done [gVar 9, gVar 13, gBin gIx (gVar 24) (gC (.int 1)), gBin gIx (gVar 24) (gC (.int 2)), gBin gSub (gCallP pLen [gVar 9]) (gC (.int 1))] [])) (gVar 24) [24]) (tName 14)) (sSeq (sIf (gBin gNe (gLc true 1000000 (gSrc srcOf (gVar 3)) (nName 23) (some (gMeth [("Move", [], F_Move_is_done)] "is_done" (gVar 23) [gVar 8])) (gUn (gAttr ["Move"] "name") (gVar 23)) [23]) (gLc true 1000000 (gSrc srcOf (gVar 14)) (nName 24) none (gBin gIx (gVar 24) (gC (.int 0))) [24])) (sRet (gC (.bl false))) (sNil)) (sSeq (sAsg (gCallP pMax [gBin gAdd (gLc true 1000000 (gSrc srcOf (gVar 14)) (nName 24) none (gCallP pLen [gBin gIx (gVar 24) (gC (.int 1))]) [24]) (gLst false [gC (.int 0)])]) (tName 15)) (sSeq (sIf (gBin gNe (gCall F_best_move [gVar 3, gVar 8] []) (gBin gIx (gBin gAdd (gLc true 1000000 (gSrc srcOf (gVar 14)) (nName 24) (some (gBin gEq (gCallP pLen [gBin gIx (gVar 24) (gC (.int 1))]) (gVar 15))) (gBin gIx (gVar 24) (gC (.int 0))) [24]) (gLst false [gC .non])) (gC (.int 0)))) (sRet (gC (.bl false))) (sNil)) (sSeq (sPar [16, 17] [gBin gIx (gVar 2) (gCall F_law_roll [gVar 1, gC (.int 7)] []), gCall F_law_roll [gVar 1, gC (.int 70)] []]) (sSeq (sAsg (gAnd (gBin gLt (gVar 17) (gCallP pLen [gVar 9])) (gBin (gIn true) (gVar 16) (gBin gIx (gVar 9) (gBin gSub (gBin gSub (gCallP pLen [gVar 9]) (gC (.int 1))) (gVar 17))))) (tName 18)) (sSeq (sAsg (gAnd (gBin gLt (gBin gAdd (gVar 17) (gC (.int 1))) (gCallP pLen [gVar 9])) (gBin (gIn true) (gVar 16) (gBin gIx (gVar 9) (gBin gSub (gBin gSub (gCallP pLen [gVar 9]) (gC (.int 2))) (gVar 17))))) (tName 19)) (sSeq (sAsg (gOr (gBin gLt (gBin gAdd (gVar 17) (gC (.int 1))) (gCallP pLen [gVar 9])) (gVar 13)) (tName 20)) (sSeq (sAsg (gC (.int 0)) (tName 21)) (sSeq (whN (gAnd (gBin gLt (gVar 21) (gCallP pLen [gVar 9])) (gBin (gIn true) (gVar 16) (gBin gIx (gVar 9) (gBin gSub (gBin gSub (gCallP pLen [gVar 9]) (gC (.int 1))) (gVar 21))))) (sAsg (gBin gAdd (gVar 21) (gC (.int 1))) (tName 21)) 1000000) (sIf (gOr (gBin gNe (gMeth [("Pad", [], F_Pad_is_down)] "is_down" (gVar 8) [gVar 16, gVar 17]) (gVar 18)) (gOr (gBin gNe (gMeth [("Pad", [], F_Pad_came_down)] "came_down" (gVar 8) [gVar 16, gVar 17]) (gAnd (gVar 18) (gAnd (gVar 20) (gNot (gVar 19))))) (gOr (gBin gNe (gMeth [("Pad", [], F_Pad_held)] "held" (gVar 8) [gVar 16]) (gVar 21)) (gBin gNe (gUn (gAttr ["Pad"] "frames") (gVar 8)) (gBin gAdd (gVar 10) (gC (.int 1))))))) (sRet (gC (.bl false))) (sNil))))))))))))))))))
abbrev pB2_1 : GS := sAsg (gCallP pTuple [gLc true 1000000 (gSrcA rngOf1 [gBin gAdd (gC (.int 1)) (gCall F_law_roll [gVar 1, gC (.int 4)] [])]) (nName 25) none (gCallP pTuple [gLc true 1000000 (gSrcA rngOf1 [gBin gAdd (gC (.int 1)) (gCall F_law_roll [gVar 1, gC (.int 2)] [])]) (nName 26) none (gBin gIx (gVar 2) (gBin gAdd (gCall F_law_roll [gVar 1, gC (.int 3)] []) (gC (.int 2)))) [26]]) [25]]) (tName 6)
abbrev pB2_2 : GS := sAsg (gBin gAdd (gC (.int 1)) (gCall F_law_roll [gVar 1, gC (.int 6)] [])) (tName 7)
abbrev pB2_3 : GS := sExpr (gMb "list" pAppend (gVar 3) [gMake true "Move" F_Move_init [gBin gAdd (gC (.str "m")) (gCallP pStr [gVar 5]), gVar 6, gVar 7] []])
abbrev pB2_4 : GS := sExpr (gMb "list" pAppend (gVar 4) [gTup [gBin gAdd (gC (.str "m")) (gCallP pStr [gVar 5]), gVar 6, gVar 7]])
abbrev pB2_b : GS := sSeq pB2_1 (sSeq pB2_2 (sSeq pB2_3 (pB2_4)))
abbrev lpB2 (n : Nat) : GS := sFor n (gSrcA rngOf1 [gBin gAdd (gC (.int 1)) (gCall F_law_roll [gVar 1, gC (.int 4)] [])]) (tName 5) pB2_b
theorem pB2_is : pB2 = lpB2 1000000 := rfl
abbrev pB4_1 : GS := sAsg (gLc true 1000000 (gSrc srcOf (gVar 2)) (nName 16) (some (gBin gEq (gCall F_law_roll [gVar 1, gC (.int 3)] []) (gC (.int 0)))) (gVar 16) [16]) (tName 11)
abbrev pB4_2 : GS := sAsg (gCallP pSum [gLc true 1000000 (gSrc srcOf (gVar 11)) (nName 16) none (gBin gShl (gC (.int 1)) (gMb "list" pIndexL (gVar 2) [gVar 16])) [16]]) (tName 12)
abbrev pB4_3 : GS := sIf (gOr (gBin gNe (gCall F_pressed_number [gVar 11] []) (gVar 12)) (gBin gNe (gCallP (pList false) [gCall F_pressed_names [gVar 12] []]) (gVar 11))) (sRet (gC (.bl false))) (sNil)
abbrev pB4_4 : GS := sExpr (gMeth [("Pad", [], F_Pad_note)] "note" (gVar 8) [gVar 12])
abbrev pB4_5 : GS := sAsg (gSl false (gBin gAdd (gVar 9) (gLst false [gVar 11])) (some (gUn gNeg (gC (.int 60)))) none) (tName 9)
abbrev pB4_6 : GS := sAsg (gBin gLe (gUn (gAttr ["Pad"] "frames") (gVar 8)) (gC (.int 60))) (tName 13)
abbrev pB4_7 : GS := sAsg (gLc true 1000000 (gSrc srcOf (gVar 4)) (nName 24) (some (gCall F_law_done [gVar 9, gVar 13, gBin gIx (gVar 24) (gC (.int 1)), gBin gIx (gVar 24) (gC (.int 2)), gBin gSub (gCallP pLen [gVar 9]) (gC (.int 1))] [])) (gVar 24) [24]) (tName 14)
abbrev pB4_8 : GS := sIf (gBin gNe (gLc true 1000000 (gSrc srcOf (gVar 3)) (nName 23) (some (gMeth [("Move", [], F_Move_is_done)] "is_done" (gVar 23) [gVar 8])) (gUn (gAttr ["Move"] "name") (gVar 23)) [23]) (gLc true 1000000 (gSrc srcOf (gVar 14)) (nName 24) none (gBin gIx (gVar 24) (gC (.int 0))) [24])) (sRet (gC (.bl false))) (sNil)
abbrev pB4_9 : GS := sAsg (gCallP pMax [gBin gAdd (gLc true 1000000 (gSrc srcOf (gVar 14)) (nName 24) none (gCallP pLen [gBin gIx (gVar 24) (gC (.int 1))]) [24]) (gLst false [gC (.int 0)])]) (tName 15)
abbrev pB4_10 : GS := sIf (gBin gNe (gCall F_best_move [gVar 3, gVar 8] []) (gBin gIx (gBin gAdd (gLc true 1000000 (gSrc srcOf (gVar 14)) (nName 24) (some (gBin gEq (gCallP pLen [gBin gIx (gVar 24) (gC (.int 1))]) (gVar 15))) (gBin gIx (gVar 24) (gC (.int 0))) [24]) (gLst false [gC .non])) (gC (.int 0)))) (sRet (gC (.bl false))) (sNil)
abbrev pB4_11 : GS := sPar [16, 17] [gBin gIx (gVar 2) (gCall F_law_roll [gVar 1, gC (.int 7)] []), gCall F_law_roll [gVar 1, gC (.int 70)] []]
abbrev pB4_12 : GS := sAsg (gAnd (gBin gLt (gVar 17) (gCallP pLen [gVar 9])) (gBin (gIn true) (gVar 16) (gBin gIx (gVar 9) (gBin gSub (gBin gSub (gCallP pLen [gVar 9]) (gC (.int 1))) (gVar 17))))) (tName 18)
abbrev pB4_13 : GS := sAsg (gAnd (gBin gLt (gBin gAdd (gVar 17) (gC (.int 1))) (gCallP pLen [gVar 9])) (gBin (gIn true) (gVar 16) (gBin gIx (gVar 9) (gBin gSub (gBin gSub (gCallP pLen [gVar 9]) (gC (.int 2))) (gVar 17))))) (tName 19)
abbrev pB4_14 : GS := sAsg (gOr (gBin gLt (gBin gAdd (gVar 17) (gC (.int 1))) (gCallP pLen [gVar 9])) (gVar 13)) (tName 20)
abbrev pB4_15 : GS := sAsg (gC (.int 0)) (tName 21)
abbrev pB4_16 : GS := whN (gAnd (gBin gLt (gVar 21) (gCallP pLen [gVar 9])) (gBin (gIn true) (gVar 16) (gBin gIx (gVar 9) (gBin gSub (gBin gSub (gCallP pLen [gVar 9]) (gC (.int 1))) (gVar 21))))) (sAsg (gBin gAdd (gVar 21) (gC (.int 1))) (tName 21)) 1000000
abbrev pB4_17 : GS := sIf (gOr (gBin gNe (gMeth [("Pad", [], F_Pad_is_down)] "is_down" (gVar 8) [gVar 16, gVar 17]) (gVar 18)) (gOr (gBin gNe (gMeth [("Pad", [], F_Pad_came_down)] "came_down" (gVar 8) [gVar 16, gVar 17]) (gAnd (gVar 18) (gAnd (gVar 20) (gNot (gVar 19))))) (gOr (gBin gNe (gMeth [("Pad", [], F_Pad_held)] "held" (gVar 8) [gVar 16]) (gVar 21)) (gBin gNe (gUn (gAttr ["Pad"] "frames") (gVar 8)) (gBin gAdd (gVar 10) (gC (.int 1))))))) (sRet (gC (.bl false))) (sNil)
abbrev pB4_b : GS := sSeq pB4_1 (sSeq pB4_2 (sSeq pB4_3 (sSeq pB4_4 (sSeq pB4_5 (sSeq pB4_6 (sSeq pB4_7 (sSeq pB4_8 (sSeq pB4_9 (sSeq pB4_10 (sSeq pB4_11 (sSeq pB4_12 (sSeq pB4_13 (sSeq pB4_14 (sSeq pB4_15 (sSeq pB4_16 (pB4_17))))))))))))))))
abbrev lpB4 (n : Nat) : GS := sFor n (gSrcA rngOf1 [gCall F_law_roll [gVar 1, gC (.int 91)] []]) (tName 10) pB4_b
theorem pB4_is : pB4 = lpB4 1000000 := rfl
abbrev pB : GS := sSeq pB1 (sSeq pB2 (sSeq pB3 (pB4)))
abbrev pT1 : GS := sAsg (gLst false [gC (.lam "L0"), gC (.lam "L1"), gC (.lam "L2")]) (tName 22)
abbrev pT2 : GS := sAsg (gBin gAdd (gVar 22) (gLst false [gC (.lam "L3"), gC (.lam "L4"), gC (.lam "L5")])) (tName 22)
abbrev pT3 : GS := sAsg (gBin gAdd (gVar 22) (gLst false [gC (.lam "L6"), gC (.lam "L7"), gC (.lam "L8")])) (tName 22)
abbrev pT4 : GS := sAsg (gBin gAdd (gVar 22) (gLst false [gC (.lam "L9"), gC (.lam "L10")])) (tName 22)
abbrev pT5 : GS := sIf (gOr (gBin gNe (gBad [("L0", gCall F_pressed_number [gLst false [gC (.str "fly")]] []), ("L1", gCall F_pressed_names [gC (.int 128)] []), ("L2", gCall F_pressed_names [gUn gNeg (gC (.int 1))] []), ("L3", gMake true "Move" F_Move_init [gC (.str "m"), gTup [], gC (.int 1)] []), ("L4", gMake true "Move" F_Move_init [gC (.str "m"), gTup [gTup [gC (.str "up")]], gC (.int 0)] []), ("L5", gMake true "Move" F_Move_init [gC (.str "m"), gTup [gTup [gC (.str "up")], gTup []], gC (.int 1)] []), ("L6", gMake true "Move" F_Move_init [gC (.str "m"), gTup [gTup [gC (.str "fly")]], gC (.int 1)] []), ("L7", gMake true "Move" F_Move_init [gC (.str "m"), gTup [gTup [gC (.str "up")]], gC (.int 61)] []), ("L8", gMeth [("Pad", [], F_Pad_note)] "note" (gMake false "Pad" F_Pad_init [] []) [gC (.int 128)]), ("L9", gMeth [("Pad", [.int (0)], F_Pad_is_down)] "is_down" (gMake false "Pad" F_Pad_init [] []) [gC (.str "fly")]), ("L10", gMeth [("Pad", [], F_Pad_is_down)] "is_down" (gMake false "Pad" F_Pad_init [] []) [gC (.str "up"), gUn gNeg (gC (.int 1))])] ["PlayError"] 1000000 (gSrc srcOf (gVar 22))) (gLst false [])) (gBin gNe (gTup [gCallP (pList false) [gC k_BUTTONS], gC (.int 60)]) (gTup [gLst false [gC (.str "up"), gC (.str "down"), gC (.str "left"), gC (.str "right"), gC (.str "hit"), gC (.str "jump"), gC (.str "block")], gC (.int 60)]))) (sRet (gC (.bl false))) (sNil)
abbrev pT6 : GS := sAsg (gTup [gMake false "Pad" F_Pad_init [] [], gMake true "Move" F_Move_init [gC (.str "m"), gTup [gTup [gC (.str "down")], gTup [gC (.str "right")], gTup [gC (.str "hit")]], gC (.int 2)] []]) (tTupl 2 (tsCons (tName 8) (tsCons (tName 23) (tsNil))))
abbrev pT7 : GS := sFor 1000000 (gSrc srcOf (gLst false [gLst false [gC (.str "down")], gLst false [gC (.str "down"), gC (.str "right")], gLst false [gC (.str "right"), gC (.str "hit")]])) (tName 11) (sExpr (gMeth [("Pad", [], F_Pad_note)] "note" (gVar 8) [gCall F_pressed_number [gVar 11] []]))
abbrev pT8 : GS := sRet (gAnd (gMeth [("Move", [], F_Move_is_done)] "is_done" (gVar 23) [gVar 8]) (gAnd (gMeth [("Move", [], F_Move_comes)] "comes" (gVar 23) [gVar 8, gC (.int 16), gC (.int 0)]) (gAnd (gNot (gMeth [("Move", [], F_Move_comes)] "comes" (gVar 23) [gVar 8, gC (.int 8), gC (.int 0)])) (gBin (gIs true) (gCall F_best_move [gLst false [], gVar 8] []) (gC .non)))))
theorem m_is : m_law = sSeq (sFor 1000000 (gSrc srcOf (gCall F_law_rounds [gVar 0, gC (.int 1)] [])) (tName 1) pB) (sSeq pT1 (sSeq pT2 (sSeq pT3 (sSeq pT4 (sSeq pT5 (sSeq pT6 (sSeq pT7 (pT8)))))))) := rfl
end K12

set_option Elab.async false
set_option linter.all false
set_option maxRecDepth 100000
set_option maxHeartbeats 2000000
/-! K12k: moves drawn -/
namespace K12
open PySem PySem.Spec L2 Gp
theorem kroll {st : Z3 → Sto} {n : Nat} (h : Dst st n) {m : Int} (h1 : 1 ≤ m) (h2 : m ≤ 1000000000000) (z : Z3) : ∃ r z', 0 ≤ r ∧ r < m ∧ F_law_roll [.ref 1, .int m] (st z) = .ok (.int r) (st z') := h.roll h1 h2 z
theorem krounds {ns : List Int} (hl : ns.length ≤ 63) : ∃ z : Z3, F_law_rounds [.sq (ns.map .int), .int 1] [] = .ok (.ref 0) [.lst [.ref 1], dcT z] := by
  obtain ⟨a, b, c, e⟩ := Gp.rounds_ev hl
  exact ⟨⟨a, b, c⟩, e⟩
abbrev nmD : D := .ls (nms.map .str)
section
variable {st : Z3 → Sto} {n0 : Nat} {ρ : Ev} {z : Z3}
theorem nm_ix {k : Nat} (h : k < 7) {S : Sto} : gIx nmD (.int (k : Nat)) S = some (.str (nm k), S) := by
  unfold nmD
  rw [gIx_ls, Gp.atI_nat, List.getElem?_map, List.getElem?_map, List.getElem?_range h]
  rfl
theorem strL_clo {js : List Nat} {k : Nat} : cloL k (strL js) = true := cloL_mem fun d hd => by
  obtain ⟨j, _, rfl⟩ := List.mem_map.mp hd
  rfl
abbrev inLc (n : Nat) : GE := gLc true n (gSrcA rngOf1 [gBin gAdd (gC (.int 1)) (gCall F_law_roll [gVar 1, gC (.int 2)] [])]) (nName 26) none (gBin gIx (gVar 2) (gBin gAdd (gCall F_law_roll [gVar 1, gC (.int 3)] []) (gC (.int 2)))) [26]
theorem in_ev {n : Nat} (hn : 200000 < n) (hd : Dst st n0) (h1 : ρ[1]? = some (some (.ref 1))) (h2 : ρ[2]? = some (some nmD)) (hl : ρ.length = 29) :
    ∃ js z', inLc n ρ (st z) = .ok (.ls (strL js)) (st z') ∧ js ≠ [] ∧ js.length ≤ 2 ∧ ∀ j ∈ js, j < 7 := by
  obtain ⟨r, z1, r0, r1, e1⟩ := kroll hd (m := 2) (by omega) (by omega) z
  have ha : gBin gAdd (gC (.int 1)) (gCall F_law_roll [gVar 1, gC (.int 2)] []) ρ (st z) = .ok (.int (1 + r)) (st z1) := by simp -implicitDefEqProofs [h1, e1]
  have hit := rng1_itS ha (by omega) (by omega)
  obtain ⟨ys, z', e2, js, rfl, j1, j2⟩ := hd.lc (n := n) (t := nName 26) (c := none) (e := gBin gIx (gVar 2) (gBin gAdd (gCall F_law_roll [gVar 1, gC (.int 3)] []) (gC (.int 2)))) (vs := [26]) hit ⟨z, rfl⟩ fixL_look
    (fun i ys => ∃ js : List Nat, ys = strL js ∧ js.length = min i 2 ∧ ∀ j ∈ js, j < 7) ⟨[], rfl, rfl, by simp⟩ (by rintro i ys ⟨js, rfl, _⟩; exact strL_clo) (by
      rintro ys ⟨js, rfl, _⟩ y hy
      obtain ⟨j, _, rfl⟩ := List.mem_map.mp hy
      rfl) (by rw [rngL_len]; omega) (by rintro i ys ⟨js, rfl, h, _⟩; rw [List.length_map, h, sizeLine_eq]; omega) (by
      rintro i d ys z ht ⟨js, rfl, j1, j2⟩
      have hi : i < (1 + r).toNat := by have := (List.getElem?_eq_some_iff.mp ht).1; rwa [rngL_len] at this
      obtain ⟨q, z2, q0, q1, e3⟩ := kroll (hd.app (c := .lst (strL js)) (by simp only [cloC]; exact strL_clo)) (m := 3) (by omega) (by omega) z
      refine ⟨(wipeG ρ [26]).set 26 (some d), rfl, z, .inr ⟨rfl, .str (nm (q + 2).toNat), z2, ?_, js ++ [(q + 2).toNat], by simp, by simp [j1]; omega, ?_⟩⟩
      · have g1 : ((wipeG ρ [26]).set 26 (some d))[1]? = some (some (.ref 1)) := by simp [wipeG, h1]
        have g2 : ((wipeG ρ [26]).set 26 (some d))[2]? = some (some nmD) := by simp [wipeG, h2]
        have e4 : q + 2 = (((q + 2).toNat : Nat) : Int) := by omega
        have e5 := nm_ix (k := (q + 2).toNat) (by omega) (S := st z2 ++ [.lst (strL js)])
        rw [← e4] at e5
        generalize nmD = ND at *
        simp -implicitDefEqProofs [g1, g2, e3, e5]
      · intro j hj
        rcases List.mem_append.mp hj with hj | hj
        · exact j2 j hj
        · rw [List.mem_singleton] at hj; omega)
  rw [rngL_len] at j1
  refine ⟨js, z', e2, ?_, by omega, j2⟩
  intro e
  rw [e] at j1
  simp only [List.length_nil] at j1
  omega
abbrev ouLc (n : Nat) : GE := gLc true n (gSrcA rngOf1 [gBin gAdd (gC (.int 1)) (gCall F_law_roll [gVar 1, gC (.int 4)] [])]) (nName 25) none (gCallP pTuple [inLc 1000000]) [25]
theorem stT_clo {ss : List (List Nat)} {k : Nat} : cloL k (ss.map fun js => D.tup (strL js)) = true := cloL_mem fun d hd => by
  obtain ⟨j, _, rfl⟩ := List.mem_map.mp hd
  simp only [clo]; exact strL_clo
theorem strL_fz {js : List Nat} {b k : Nat} : fzB b (k + 1) (.tup (strL js)) = true := by
  simp only [fzB, List.all_eq_true]
  intro d hd
  obtain ⟨j, _, rfl⟩ := List.mem_map.mp hd
  cases k <;> rfl
theorem ou_ev {n : Nat} (hn : 200000 < n) (hd : Dst st n0) (h1 : ρ[1]? = some (some (.ref 1))) (h2 : ρ[2]? = some (some nmD)) (hl : ρ.length = 29) :
    ∃ ss z', ouLc n ρ (st z) = .ok (.ls (ss.map fun js => .tup (strL js))) (st z') ∧ ss ≠ [] ∧ ss.length ≤ 4 ∧ ∀ js ∈ ss, js ≠ [] ∧ js.length ≤ 2 ∧ ∀ j ∈ js, j < 7 := by
  obtain ⟨r, z1, r0, r1, e1⟩ := kroll hd (m := 4) (by omega) (by omega) z
  have ha : gBin gAdd (gC (.int 1)) (gCall F_law_roll [gVar 1, gC (.int 4)] []) ρ (st z) = .ok (.int (1 + r)) (st z1) := by simp -implicitDefEqProofs [h1, e1]
  have hit := rng1_itS ha (by omega) (by omega)
  obtain ⟨ys, z', e2, ss, rfl, j1, j2⟩ := hd.lc (n := n) (t := nName 25) (c := none) (e := gCallP pTuple [inLc 1000000]) (vs := [25]) hit ⟨z, rfl⟩ fixL_look
    (fun i ys => ∃ ss : List (List Nat), ys = (ss.map fun js => .tup (strL js)) ∧ ss.length = min i 4 ∧ ∀ js ∈ ss, js ≠ [] ∧ js.length ≤ 2 ∧ ∀ j ∈ js, j < 7) ⟨[], rfl, rfl, by simp⟩ (by rintro i ys ⟨js, rfl, _⟩; exact stT_clo) (by
      rintro ys ⟨js, rfl, _⟩ y hy
      obtain ⟨j, _, rfl⟩ := List.mem_map.mp hy
      exact strL_fz) (by rw [rngL_len]; omega) (by rintro i ys ⟨js, rfl, h, _⟩; rw [List.length_map, h, sizeLine_eq]; omega) (by
      rintro i d ys z ht ⟨ss, rfl, j1, j2⟩
      have hi : i < (1 + r).toNat := by have := (List.getElem?_eq_some_iff.mp ht).1; rwa [rngL_len] at this
      obtain ⟨js, z2, e3, g1, g2, g3⟩ := in_ev (n := 1000000) (z := z) (ρ := (wipeG ρ [25]).set 25 (some d)) (by omega) (hd.app (c := .lst (ss.map fun js => .tup (strL js))) (by simp only [cloC]; exact stT_clo)) (by simp [wipeG, h1]) (by simp [wipeG, h2]) (by simp [wipeG, hl])
      refine ⟨(wipeG ρ [25]).set 25 (some d), rfl, z, .inr ⟨rfl, .tup (strL js), z2, ?_, ss ++ [js], by simp, by simp [j1]; omega, ?_⟩⟩
      · have e4 : pTuple [.ls (strL js)] (st z2 ++ [.lst (ss.map fun js => .tup (strL js))]) = some (.tup (strL js), st z2 ++ [.lst (ss.map fun js => .tup (strL js))]) := rfl
        rw [ev_callP, args_cons]
        rw [e3]
        simp only [Res.bind_ok, args_nil, e4, res_some]
      · intro x hx
        rcases List.mem_append.mp hx with hx | hx
        · exact j2 x hx
        · rw [List.mem_singleton] at hx; subst hx; exact ⟨g1, g2, g3⟩)
  rw [rngL_len] at j1
  refine ⟨ss, z', e2, ?_, by omega, j2⟩
  intro e
  rw [e] at j1
  simp only [List.length_nil] at j1
  omega
end
end K12

set_option Elab.async false
set_option linter.all false
set_option maxRecDepth 100000
set_option maxHeartbeats 2000000
/-! K12l: the store; the turns that make the moves -/
namespace K12
open PySem PySem.Spec L2 Gp
def stA (ms : List Mv) (z : Z3) : Sto := [.lst [.ref 1], dcT z, .lst (ms.map mvD), .lst (ms.map owD)]
section
variable {ms : List Mv} {z : Z3} {s : Sl}
theorem mv_clo {k : Nat} : cloL k (ms.map mvD) = true := cloL_mem fun d hd => by
  obtain ⟨m, _, rfl⟩ := List.mem_map.mp hd
  simp only [clo, cloF, Bool.and_true, Bool.true_and]
  refine cloL_mem fun d hd => ?_
  obtain ⟨x, _, rfl⟩ := List.mem_map.mp hd
  rfl
theorem ow_clo {k : Nat} : cloL k (ms.map owD) = true := cloL_mem fun d hd => by
  obtain ⟨m, _, rfl⟩ := List.mem_map.mp hd
  simp only [clo, cloL, Bool.and_true, Bool.true_and]
  exact stT_clo
theorem stA_d : Dst (stA ms) 4 := ⟨fun _ => rfl, fun _ _ => rfl, fun z x hx => by
  simp only [stA, List.mem_cons, List.not_mem_nil, or_false] at hx
  rcases hx with rfl | rfl | rfl | rfl
  · rfl
  · rfl
  · simp only [cloC]; exact mv_clo
  · simp only [cloC]; exact ow_clo, fun _ => rfl⟩
theorem nam_ev {k : Nat} (hk : k ≤ 3) : ∃ x : Str, ∀ (ρ : Ev) (S : Sto), ρ[5]? = some (some (.int (k : Nat))) → gBin gAdd (gC (.str "m")) (gCallP pStr [gVar 5]) ρ S = .ok (.str x) S := by
  have key : ∀ (ρ : Ev) (S : Sto), ρ[5]? = some (some (.int (k : Nat))) → gBin gAdd (gC (.str "m")) (gCallP pStr [gVar 5]) ρ S = (gAdd (.str "m") (.str (strI (k : Nat))) S).res := by
    intro ρ S h5
    have hp : pStr [.int (k : Nat)] S = some (.str (strI (k : Nat)), S) := by
      have : k = 0 ∨ k = 1 ∨ k = 2 ∨ k = 3 := by omega
      rcases this with h | h | h | h <;> subst h <;> rfl
    generalize ((k : Nat) : Int) = kk at *
    simp -implicitDefEqProofs [h5, hp]
  refine ⟨("m" : Str) ++ strI (k : Nat), fun ρ S h5 => ?_⟩
  rw [key ρ S h5]
  have l : ("m" : Str).length + (strI (k : Nat)).length ≤ sizeLine := by
    have : k = 0 ∨ k = 1 ∨ k = 2 ∨ k = 3 := by omega
    rcases this with h | h | h | h <;> subst h <;> decide +kernel
  simp only [gAdd, l, if_true, res_some]
theorem p21_ev (h1 : s.v_dice = some (.ref 1)) (h2 : s.v_names = some nmD) : ∃ ss z', pB2_1 s.ev (stA ms z) = .nx { s with v_steps := some (stT ss) }.ev (stA ms z') ∧ ss ≠ [] ∧ ss.length ≤ 4 ∧ ∀ js ∈ ss, js ≠ [] ∧ js.length ≤ 2 ∧ ∀ j ∈ js, j < 7 := by
  obtain ⟨ss, z', e, g⟩ := ou_ev (n := 1000000) (z := z) (ρ := s.ev) (by omega) (stA_d (ms := ms)) (by simp [h1]) (by simp [h2]) rfl
  refine ⟨ss, z', ?_, g⟩
  have e1 : pTuple [.ls (ss.map fun js => .tup (strL js))] (stA ms z') = some (stT ss, stA ms z') := rfl
  show sAsg (gCallP pTuple [ouLc 1000000]) (tName 6) s.ev (stA ms z) = _
  generalize ouLc 1000000 = GL at *
  simp -implicitDefEqProofs [e, e1]
theorem p22_ev (h1 : s.v_dice = some (.ref 1)) : ∃ (g : Nat) (z' : Z3), pB2_2 s.ev (stA ms z) = .nx { s with v_gap := some (.int (g : Nat)) }.ev (stA ms z') ∧ 1 ≤ g ∧ g ≤ 6 := by
  obtain ⟨r, z1, r0, r1, e1⟩ := kroll (stA_d (ms := ms)) (m := 6) (by omega) (by omega) z
  refine ⟨(1 + r).toNat, z1, ?_, by omega, by omega⟩
  have e2 : (((1 + r).toNat : Nat) : Int) = 1 + r := by omega
  rw [e2]
  simp -implicitDefEqProofs [h1, e1]
theorem p23_ev {m : Mv} (G : Gd m) {k : Nat} (hk : ∀ (ρ : Ev) (S : Sto), ρ[5]? = some (some (.int (k : Nat))) → gBin gAdd (gC (.str "m")) (gCallP pStr [gVar 5]) ρ S = .ok (.str m.name) S) (h3 : s.v_moves = some (.ref 2)) (h4 : s.v_own = some (.ref 3)) (h5 : s.v_k = some (.int (k : Nat))) (h6 : s.v_steps = some (stT m.steps)) (h7 : s.v_gap = some (.int (m.gap : Nat))) (hl : ms.length ≤ 10) :
    sSeq pB2_3 pB2_4 s.ev (stA ms z) = .nx s.ev (stA (ms ++ [m]) z) := by
  have e1 : ∀ S, gBin gAdd (gC (.str "m")) (gCallP pStr [gVar 5]) s.ev S = .ok (.str m.name) S := fun S => hk s.ev S (by simp [h5])
  have e2 := mv_new (S := stA ms z) G
  have a1 : pAppend (.ref 2) [mvD m] (stA ms z) = some (.non, [.lst [.ref 1], dcT z, .lst ((ms ++ [m]).map mvD), .lst (ms.map owD)]) := by
    rw [append_ref (l := ms.map mvD) rfl (by rw [sizeLine_eq, List.length_map]; omega)]
    simp [stA]
  have t1 : tyG "list" (.ref 2) (stA ms z) = true := rfl
  have f1 : pB2_3 s.ev (stA ms z) = .nx s.ev [.lst [.ref 1], dcT z, .lst ((ms ++ [m]).map mvD), .lst (ms.map owD)] := by
    generalize ((m.gap : Nat) : Int) = gp at *
    generalize ([.lst [.ref 1], dcT z, .lst ((ms ++ [m]).map mvD), .lst (ms.map owD)] : Sto) = U at *
    simp -implicitDefEqProofs [h3, h6, h7, t1, ↓e1, e2, a1]
  rw [sSeq_nx f1]
  have t2 : tyG "list" (.ref 3) [.lst [.ref 1], dcT z, .lst ((ms ++ [m]).map mvD), .lst (ms.map owD)] = true := rfl
  have a2 : pAppend (.ref 3) [owD m] [.lst [.ref 1], dcT z, .lst ((ms ++ [m]).map mvD), .lst (ms.map owD)] = some (.non, stA (ms ++ [m]) z) := by
    rw [append_ref (l := ms.map owD) rfl (by rw [sizeLine_eq, List.length_map]; omega)]
    simp [stA]
  have a2 : pAppend (.ref 3) [.tup [.str m.name, stT m.steps, .int (m.gap : Nat)]] [.lst [.ref 1], dcT z, .lst ((ms ++ [m]).map mvD), .lst (ms.map owD)] = some (.non, stA (ms ++ [m]) z) := a2
  generalize ((m.gap : Nat) : Int) = gp at *
  generalize ([.lst [.ref 1], dcT z, .lst ((ms ++ [m]).map mvD), .lst (ms.map owD)] : Sto) = U at *
  simp -implicitDefEqProofs [h4, h6, h7, t2, ↓e1, a2]
theorem lp2_ev {n : Nat} (hn : 200000 < n) (h1 : s.v_dice = some (.ref 1)) (h2 : s.v_names = some nmD) (h3 : s.v_moves = some (.ref 2)) (h4 : s.v_own = some (.ref 3)) :
    ∃ ms z' x y w, lpB2 n s.ev (stA [] z) = .nx { s with v_k := x, v_steps := y, v_gap := w }.ev (stA ms z') ∧ ms.length ≤ 4 ∧ ∀ m ∈ ms, Gd m := by
  obtain ⟨r, z1, r0, r1, e1⟩ := kroll (stA_d (ms := [])) (m := 4) (by omega) (by omega) z
  have ha : gBin gAdd (gC (.int 1)) (gCall F_law_roll [gVar 1, gC (.int 4)] []) s.ev (stA [] z) = .ok (.int (1 + r)) (stA [] z1) := by simp -implicitDefEqProofs [h1, e1]
  have hit := rng1_itS ha (by omega) (by omega)
  have lp := sFor_to (n := n) (t := tName 5) (b := pB2_b) hit fixL_look (by rw [rngL_len]; omega)
    (fun i ρ U => ∃ ms z' x y w, ρ = { s with v_k := x, v_steps := y, v_gap := w }.ev ∧ U = stA ms z' ∧ ms.length ≤ i ∧ ∀ m ∈ ms, Gd m) (fun _ _ => False) ⟨[], z1, s.v_k, s.v_steps, s.v_gap, rfl, rfl, Nat.le_refl _, by simp⟩ (by
      rintro i d ρ U hd ⟨ms, z', x, y, w, rfl, rfl, hl, hg⟩
      refine TurnTo.of ?_
      have hi : i < (1 + r).toNat := by have := (List.getElem?_eq_some_iff.mp hd).1; rwa [rngL_len] at this
      rw [rngL_get hi] at hd
      have hd : D.int ((i : Nat) : Int) = d := by rw [← Option.some.inj hd]; congr 1; omega
      subst hd
      obtain ⟨nmx, hk⟩ := nam_ev (k := i) (by omega)
      rw [ev_tname, sthn_nx, Sl.set_5]
      obtain ⟨ss, z2, f1, f2, f3, f4⟩ := p21_ev (ms := ms) (z := z') (s := { s with v_k := some (.int (i : Nat)), v_steps := y, v_gap := w }) h1 h2
      obtain ⟨g, z3, f5, f6, f7⟩ := p22_ev (ms := ms) (z := z2) (s := { s with v_k := some (.int (i : Nat)), v_steps := some (stT ss), v_gap := w }) h1
      have G : Gd ⟨nmx, ss, g⟩ := ⟨f2, f3, f4, f6, f7⟩
      have f8 := p23_ev (ms := ms) (z := z3) (m := ⟨nmx, ss, g⟩) (s := { s with v_k := some (.int (i : Nat)), v_steps := some (stT ss), v_gap := some (.int (g : Nat)) }) G (k := i) hk h3 h4 rfl rfl rfl (by omega)
      refine ⟨_, _, ?_, ms ++ [⟨nmx, ss, g⟩], z3, some (.int (i : Nat)), some (stT ss), some (.int (g : Nat)), rfl, rfl, by simp; omega, fun m hm => ?_⟩
      · show sSeq pB2_1 (sSeq pB2_2 (sSeq pB2_3 pB2_4)) _ _ = _
        rw [sSeq_nx f1, sSeq_nx f5, f8]
      · rcases List.mem_append.mp hm with hm | hm
        · exact hg m hm
        · rw [List.mem_singleton] at hm; subst hm; exact G)
  obtain ⟨ρ, U, e, ms, z', x, y, w, rfl, rfl, hl, hg⟩ := lp.nx
  rw [rngL_len] at hl
  exact ⟨ms, z', x, y, w, e, by omega, hg⟩
end
end K12

set_option Elab.async false
set_option linter.all false
set_option maxRecDepth 100000
set_option maxHeartbeats 2000000
/-! K12m: a frame: what is pressed, noted -/
namespace K12
open PySem PySem.Spec L2 Gp
def stB (ms : List Mv) (rs : List Nat) (fr : Int) (z : Z3) : Sto := stA ms z ++ [padC rs fr]
section
variable {ms : List Mv} {rs : List Nat} {fr : Int} {z : Z3} {s : Sl} {m : Nat}
theorem pad_clo {k : Nat} : cloC k (padC rs fr) = true := by
  simp only [cloC, cloF, clo, Bool.and_true]
  refine cloL_mem fun d hd => ?_
  obtain ⟨x, _, rfl⟩ := List.mem_map.mp hd
  rfl
theorem stB_d : Dst (stB ms rs fr) 5 := stA_d.app pad_clo
theorem stB_4 : (stB ms rs fr z)[4]? = some (padC rs fr) := rfl
theorem stB_s4 {rs' : List Nat} {fr' : Int} : (stB ms rs fr z).set 4 (padC rs' fr') = stB ms rs' fr' z := rfl
theorem stB_2 : (stB ms rs fr z)[2]? = some (.lst (ms.map mvD)) := rfl
theorem stB_3 : (stB ms rs fr z)[3]? = some (.lst (ms.map owD)) := rfl
theorem p41_ev (h1 : s.v_dice = some (.ref 1)) (h2 : s.v_names = some nmD) : ∃ m z', RowI 7 (rowL m) m ∧ pB4_1 s.ev (stB ms rs fr z) = .nx { s with v_row := some (rowD m) }.ev (stB ms rs fr z') := by
  have hit : gSrc srcOf (gVar 2) s.ev (stB ms rs fr z) = .ok (fixL (nms.map .str)) (stB ms rs fr z) none := src_ls (by simp [h2])
  obtain ⟨ys, z', e, js, m, rfl, hr, _⟩ := (stB_d (ms := ms) (rs := rs) (fr := fr)).lc (n := 1000000) (t := nName 16) (c := some (gBin gEq (gCall F_law_roll [gVar 1, gC (.int 3)] []) (gC (.int 0)))) (e := gVar 16) (vs := [16]) hit ⟨z, rfl⟩ fixL_look
    (fun i ys => ∃ js m, ys = strL js ∧ RowI i js m ∧ js.length ≤ min i 7) ⟨[], 0, rfl, RowI.zero, Nat.zero_le _⟩ (by rintro i ys ⟨js, m, rfl, _⟩; exact strL_clo) (by
      rintro ys ⟨js, m, rfl, _⟩ y hy
      obtain ⟨j, _, rfl⟩ := List.mem_map.mp hy
      rfl) (by simp) (by
      rintro i ys ⟨js, m, rfl, h, h7⟩
      rw [List.length_map, sizeLine_eq]
      omega) (by
      rintro i d ys z hd ⟨js, m, rfl, hr, h7⟩
      rw [List.getElem?_map, List.getElem?_map] at hd
      have hi : i < 7 := by
        rcases Nat.lt_or_ge i 7 with h | h
        · exact h
        · rw [List.getElem?_eq_none (by simpa using h)] at hd; cases hd
      rw [List.getElem?_range hi] at hd
      cases hd
      obtain ⟨r, z1, r0, r1, e1⟩ := kroll ((stB_d (ms := ms) (rs := rs) (fr := fr)).app (c := .lst (strL js)) (by simp only [cloC]; exact strL_clo)) (m := 3) (by omega) (by omega) z
      refine ⟨{ s with v_name := some (.str (nm i)) }.ev, rfl, z1, ?_⟩
      by_cases h0 : r = 0
      · subst h0
        refine .inr ⟨?_, .str (nm i), z1, rfl, js ++ [i], 2 ^ i + m, by simp, hr.add, by simp; omega⟩
        simp -implicitDefEqProofs [tstG, h1, e1]
      · refine .inl ⟨?_, js, m, rfl, hr.skip, by omega⟩
        simp -implicitDefEqProofs [tstG, h1, e1, h0])
  have hl : (nms.map D.str).length = 7 := rfl
  rw [hl] at hr
  have := hr.rowL
  subst this
  refine ⟨m, z', hr, ?_⟩
  have e : gLc true 1000000 (gSrc srcOf (gVar 2)) (nName 16) (some (gBin gEq (gCall F_law_roll [gVar 1, gC (.int 3)] []) (gC (.int 0)))) (gVar 16) [16] s.ev (stB ms rs fr z) = .ok (rowD m) (stB ms rs fr z') := e
  simp -implicitDefEqProofs [↓e]
theorem ix_nm {j : Nat} {S : Sto} (h : j < 7) : pIndexL nmD [.str (nm j)] S = some (.int (j : Nat), S) := by
  unfold nmD
  simp only [pIndexL, asL, strsOf_map, pos_nm h, Option.map_some]
theorem p42_ev (hr : RowI 7 (rowL m) m) (h2 : s.v_names = some nmD) (h11 : s.v_row = some (rowD m)) {S : Sto} : pB4_2 s.ev S = .nx { s with v_number := some (.int (m : Nat)) }.ev S := by
  have hit : gSrc srcOf (gVar 11) s.ev S = .ok (fixL ((rowL m).map fun j => .str (nm j))) S none := src_ls (by simp [h11])
  have hlen : (rowL m).length ≤ 7 := by
    have := List.length_filter_le (fun i => m.testBit i) (List.range 7)
    simpa [rowL] using this
  have e := gLc_map (n := 1000000) (t := nName 16) (c := none) (e := gBin gShl (gC (.int 1)) (gMb "list" pIndexL (gVar 2) [gVar 16])) (vs := [16]) (L := rowL m) (g := fun j => .str (nm j)) (p := fun _ => true) (f := fun j => .int ((1 <<< j : Nat) : Int)) hit (by
    intro j hj acc
    refine ⟨{ s with v_name := some (.str (nm j)) }.ev, rfl, rfl, fun _ => ?_⟩
    have hj7 := row_lt j hj
    have e1 := ix_nm (S := S ++ [.lst acc]) hj7
    have e2 : tyG "list" nmD (S ++ [.lst acc]) = true := rfl
    have e3 := gShl_one (S := S ++ [.lst acc]) (j := j) (by omega)
    generalize 1 <<< j = q at *
    generalize ((j : Nat) : Int) = jj at *
    generalize nmD = ND at *
    simp -implicitDefEqProofs [h2, e1, e2, e3]) (by omega) (by rw [sizeLine_eq]; omega) (fun _ _ _ => rfl)
  rw [filter_all] at e
  have e2 : pSum [.ls ((rowL m).map fun j => .int ((1 <<< j : Nat) : Int))] S = some (.int (m : Nat), S) := by
    have := pSum_ls (ns := (rowL m).map fun j => ((1 <<< j : Nat) : Int)) (S := S)
    rw [List.map_map, hr.sum] at this
    exact this
  generalize ((rowL m).map fun j => D.int ((1 <<< j : Nat) : Int)) = LL at *
  generalize ((m : Nat) : Int) = mm at *
  simp -implicitDefEqProofs [↓e, e2]
theorem p43_ev (hr : RowI 7 (rowL m) m) (h11 : s.v_row = some (rowD m)) (h12 : s.v_number = some (.int (m : Nat))) {S : Sto} : pB4_3 s.ev S = .nx s.ev S := by
  have hm : m < 128 := hr.lt
  have hlen : (rowL m).length ≤ 7 := by
    have := List.length_filter_le (fun i => m.testBit i) (List.range 7)
    simpa [rowL] using this
  have e1 := pnum_ls (S := S) (js := rowL m) row_lt (by omega)
  rw [hr.num] at e1
  have e2 := pnames_ev (S := S) hm
  have e3 : pList false [.tup (strL (rowL m))] S = some (rowD m, S) := rfl
  have e4 : gNe (rowD m) (rowD m) S = some (.bl false, S) := gNe_self strL_dat
  have e1 : F_pressed_number [rowD m] S = .ok (.int (m : Nat)) S := e1
  generalize ((m : Nat) : Int) = mm at *
  generalize rowD m = R at *
  generalize D.tup (strL (rowL m)) = RT at *
  simp -implicitDefEqProofs [h11, h12, e1, e2, e3, e4]
theorem p44_ev (hm : m < 128) (hl : rs.length ≤ 60) (h8 : s.v_pad = some (.ref 4)) (h12 : s.v_number = some (.int (m : Nat))) : pB4_4 s.ev (stB ms rs fr z) = .nx s.ev (stB ms (keep (rs ++ [m])) (fr + 1) z) := by
  have e1 := note_ev (S := stB ms rs fr z) (p := 4) stB_4 hm hl
  rw [stB_s4] at e1
  have e2 := pad_cls (S := stB ms rs fr z) (p := 4) stB_4
  have e3 : lookD "note" (padF rs fr) = none := rfl
  generalize ((m : Nat) : Int) = mm at *
  simp -implicitDefEqProofs [h8, h12, e2, e3, mlook, e1]
theorem p45_ev (hl : rs.length ≤ 60) (h9 : s.v_rows = some (rowsD rs)) (h11 : s.v_row = some (rowD m)) {S : Sto} : pB4_5 s.ev S = .nx { s with v_rows := some (rowsD (keep (rs ++ [m]))) }.ev S := by
  have e1 : gAdd (rowsD rs) (.ls [rowD m]) S = some (rowsD (rs ++ [m]), S) := by
    unfold rowsD
    rw [gAdd_ls (by simp; omega)]; simp
  have e2 : gSlice false (rowsD (rs ++ [m])) (some (-60)) none S = some (rowsD (keep (rs ++ [m])), S) := by
    have := cutD_last (l := (rs ++ [m]).map rowD) (k := 60) (by omega)
    rw [show (-((60 : Nat) : Int)) = -60 from rfl] at this
    unfold rowsD
    rw [gSlice_ls, this, List.length_map, keep, List.map_drop]
  generalize rowD m = R at *
  simp -implicitDefEqProofs [h9, h11, e1, e2]
theorem p46_ev (h8 : s.v_pad = some (.ref 4)) : pB4_6 s.ev (stB ms rs fr z) = .nx { s with v_whole := some (.bl (decide (fr ≤ 60))) }.ev (stB ms rs fr z) := by
  have e1 := pad_frames (S := stB ms rs fr z) (p := 4) stB_4
  simp -implicitDefEqProofs [h8, e1]
end
end K12

set_option Elab.async false
set_option linter.all false
set_option maxRecDepth 100000
set_option maxHeartbeats 2000000
/-! K12n: a frame: what is done, the best -/
namespace K12
open PySem PySem.Spec L2 Gp
section
variable {ms ds : List Mv} {rs : List Nat} {fr : Int} {z : Z3} {s : Sl} {m : Nat} {S : Sto} {w : Bool}
theorem ow_fz {m : Mv} {b k : Nat} : fzB b (k + 3) (owD m) = true := by
  simp only [fzB, List.all_cons, List.all_nil, Bool.and_true, Bool.true_and, List.all_eq_true]
  intro d hd
  obtain ⟨js, _, rfl⟩ := List.mem_map.mp hd
  exact strL_fz
theorem ow_0 {m : Mv} : gIx (owD m) (.int 0) S = some (.str m.name, S) := by simp [gIx_tup]
theorem ow_1 {m : Mv} : gIx (owD m) (.int 1) S = some (stT m.steps, S) := by simp [gIx_tup]
theorem ow_2 {m : Mv} : gIx (owD m) (.int 2) S = some (.int (m.gap : Nat), S) := by simp [gIx_tup]
theorem rows_len : pLen [rowsD rs] S = some (.int (rs.length : Nat), S) := by unfold rowsD; rw [pLen_ls, List.length_map]
theorem p47_ev (hm : ms.length ≤ 4) (G : ∀ m ∈ ms, Gd m) (hr : rs.length ≤ 60) (hne : rs ≠ []) (h4 : s.v_own = some (.ref 3)) (h9 : s.v_rows = some (rowsD rs)) (h13 : s.v_whole = some (.bl w)) :
    pB4_7 s.ev (stB ms rs fr z) = .nx { s with v_done := some (.ls ((ms.filter (dnB rs w)).map owD)) }.ev (stB ms rs fr z) := by
  have hl : 0 < rs.length := List.length_pos_iff.mpr hne
  have hit : gSrc srcOf (gVar 4) s.ev (stB ms rs fr z) = .ok (liveL 3) (stB ms rs fr z) none := src_ref (by simp [h4]) stB_3
  have e := gLc_mapL (n := 1000000) (t := nName 24) (c := some (gCall F_law_done [gVar 9, gVar 13, gBin gIx (gVar 24) (gC (.int 1)), gBin gIx (gVar 24) (gC (.int 2)), gBin gSub (gCallP pLen [gVar 9]) (gC (.int 1))] [])) (e := gVar 24) (vs := [24]) (L := ms) (g := owD) (p := dnB rs w) (f := owD) hit stB_3 (by
    intro m hm acc
    refine ⟨{ s with v_one := some (owD m) }.ev, rfl, ?_, fun _ => rfl⟩
    have e1 := ldone_ev (S := stB ms rs fr z ++ [.lst acc]) (w := w) (G m hm) hr (e := rs.length - 1) (by omega)
    have e2 := ow_1 (m := m) (S := stB ms rs fr z ++ [.lst acc])
    have e3 := ow_2 (m := m) (S := stB ms rs fr z ++ [.lst acc])
    have e4 := rows_len (rs := rs) (S := stB ms rs fr z ++ [.lst acc])
    have e5 : ((rs.length : Nat) : Int) - 1 = ((rs.length - 1 : Nat) : Int) := by omega
    unfold dnB
    generalize ((rs.length - 1 : Nat) : Int) = n1 at *
    generalize ((rs.length : Nat) : Int) = nn at *
    generalize owD m = OW at *
    generalize ((m.gap : Nat) : Int) = gp at *
    generalize rowsD rs = R at *
    generalize stT m.steps = ST at *
    simp -implicitDefEqProofs [tstG, h9, h13, e2, e3, e4, e5, e1]) (by omega) (by rw [sizeLine_eq]; omega) (fun m _ _ => ow_fz)
  generalize ((ms.filter (dnB rs w)).map owD) = LL at *
  simp -implicitDefEqProofs [↓e]
abbrev nmL (ms : List Mv) : D := .ls (ms.map fun m => .str m.name)
theorem donenm_ev {n : Nat} (hn : 200000 < n) (hd : ds.length ≤ 4) (h14 : s.v_done = some (.ls (ds.map owD))) :
    gLc true n (gSrc srcOf (gVar 14)) (nName 24) none (gBin gIx (gVar 24) (gC (.int 0))) [24] s.ev S = .ok (nmL ds) S := by
  have hit : gSrc srcOf (gVar 14) s.ev S = .ok (fixL (ds.map owD)) S none := src_ls (by simp [h14])
  have e := gLc_map (n := n) (t := nName 24) (c := none) (e := gBin gIx (gVar 24) (gC (.int 0))) (vs := [24]) (L := ds) (g := owD) (p := fun _ => true) (f := fun m => .str m.name) hit (by
    intro m hm acc
    refine ⟨{ s with v_one := some (owD m) }.ev, rfl, rfl, fun _ => ?_⟩
    have e2 := ow_0 (m := m) (S := S ++ [.lst acc])
    generalize owD m = OW at *
    simp -implicitDefEqProofs [e2]) (by omega) (by rw [sizeLine_eq]; omega) (fun _ _ _ => rfl)
  rw [filter_all] at e
  exact e
theorem nm_dat {ms : List Mv} : isDat 60 (nmL ms) = true := isDat_lsM fun _ _ => rfl
theorem p48_ev (hm : ms.length ≤ 4) (G : ∀ m ∈ ms, Gd m) (hr : rs.length ≤ 60) (hne : rs ≠ []) (hw : w = decide (fr = (rs.length : Nat))) (h3 : s.v_moves = some (.ref 2)) (h8 : s.v_pad = some (.ref 4)) (h14 : s.v_done = some (.ls ((ms.filter (dnB rs w)).map owD))) :
    pB4_8 s.ev (stB ms rs fr z) = .nx s.ev (stB ms rs fr z) := by
  have hit : gSrc srcOf (gVar 3) s.ev (stB ms rs fr z) = .ok (liveL 2) (stB ms rs fr z) none := src_ref (by simp [h3]) stB_2
  have e := gLc_mapL (n := 1000000) (t := nName 23) (c := some (gMeth [("Move", [], F_Move_is_done)] "is_done" (gVar 23) [gVar 8])) (e := gUn (gAttr ["Move"] "name") (gVar 23)) (vs := [23]) (L := ms) (g := mvD) (p := dnB rs w) (f := fun m => .str m.name) hit stB_2 (by
    intro m hm acc
    refine ⟨{ s with v_move := some (mvD m) }.ev, rfl, ?_, fun _ => ?_⟩
    · have e1 := isdone (S := stB ms rs fr z ++ [.lst acc]) (p := 4) (G m hm) (get_app stB_4) hr hne
      rw [← hw] at e1
      have e2 := mv_cls (m := m) (S := stB ms rs fr z ++ [.lst acc])
      have e3 := mv_lkd (m := m)
      simp -implicitDefEqProofs [tstG, h8, e2, e3, mlook, e1]
    · have e2 := mv_name (m := m) (S := stB ms rs fr z ++ [.lst acc])
      simp -implicitDefEqProofs [e2]) (by omega) (by rw [sizeLine_eq]; omega) (fun m _ _ => rfl)
  have e2 := donenm_ev (n := 1000000) (S := stB ms rs fr z) (s := s) (ds := ms.filter (dnB rs w)) (by omega) (by have := List.length_filter_le (dnB rs w) ms; omega) h14
  have e3 : gNe (nmL (ms.filter (dnB rs w))) (nmL (ms.filter (dnB rs w))) (stB ms rs fr z) = some (.bl false, stB ms rs fr z) := gNe_self nm_dat
  replace e : gLc true 1000000 (gSrc srcOf (gVar 3)) (nName 23) (some (gMeth [("Move", [], F_Move_is_done)] "is_done" (gVar 23) [gVar 8])) (gUn (gAttr ["Move"] "name") (gVar 23)) [23] s.ev (stB ms rs fr z) = .ok (nmL (ms.filter (dnB rs w))) (stB ms rs fr z) := e
  unfold pB4_8
  generalize nmL (ms.filter (dnB rs w)) = NL at *
  simp -implicitDefEqProofs [↓e, ↓e2, e3]
theorem max_ev {l : List Mv} : pMax [.ls ((l.map fun m => .int (ln m : Nat)) ++ [.int 0])] S = some (.int (mxL l : Nat), S) := by
  have h1 : ((l.map fun m => D.int (ln m : Nat)) ++ [D.int 0]) = (((l.map fun m => ((ln m : Nat) : Int)) ++ [0]).map D.int) := by simp
  rw [h1]
  have h2 := intsOf_map (ns := (l.map fun m => ((ln m : Nat) : Int)) ++ [0])
  have ub : ∀ m ∈ l, ln m ≤ mxL l := by
    clear h1 h2
    intro m hm
    induction l with
    | nil => cases hm
    | cons a l ih =>
      have e : mxL (a :: l) = max (ln a) (mxL l) := rfl
      rcases List.mem_cons.mp hm with rfl | hm
      · omega
      · have := ih hm; omega
  have at_ : mxL l = 0 ∨ ∃ m ∈ l, ln m = mxL l := by
    clear h1 h2 ub
    induction l with
    | nil => exact .inl rfl
    | cons a l ih =>
      have e : mxL (a :: l) = max (ln a) (mxL l) := rfl
      rcases Nat.le_total (mxL l) (ln a) with h | h
      · exact .inr ⟨a, List.mem_cons_self, by omega⟩
      · rcases ih with h0 | ⟨m, hm, h3⟩
        · exact .inr ⟨a, List.mem_cons_self, by omega⟩
        · exact .inr ⟨m, List.mem_cons_of_mem _ hm, by omega⟩
  cases hc : (l.map fun m => ((ln m : Nat) : Int)) ++ [0] with
  | nil => simp at hc
  | cons n r =>
    rw [hc] at h2
    have sp := maxI_spec (n := n) (r := r)
    rw [← hc] at sp
    have e : maxI ((l.map fun m => ((ln m : Nat) : Int)) ++ [0]) = (mxL l : Nat) := by
      obtain ⟨s1, s2⟩ := sp
      have le1 : maxI ((l.map fun m => ((ln m : Nat) : Int)) ++ [0]) ≤ (mxL l : Nat) := by
        rcases List.mem_append.mp s1 with h | h
        · obtain ⟨m, hm, e⟩ := List.mem_map.mp h
          rw [← e]; have := ub m hm; omega
        · rw [List.mem_singleton] at h; omega
      have le2 : ((mxL l : Nat) : Int) ≤ maxI ((l.map fun m => ((ln m : Nat) : Int)) ++ [0]) := by
        rcases at_ with h | ⟨m, hm, h⟩
        · rw [h]; exact s2 _ (by simp)
        · rw [← h]; exact s2 _ (List.mem_append_left _ (List.mem_map.mpr ⟨m, hm, rfl⟩))
      omega
    rw [← e, ← hc] 
    rw [hc] at *
    simp only [pMax, asL, h2]
theorem st_len {m : Mv} : pLen [stT m.steps] S = some (.int (ln m : Nat), S) := by rw [pLen_tup, List.length_map]
theorem p49_ev (hd : ds.length ≤ 4) (h14 : s.v_done = some (.ls (ds.map owD))) : pB4_9 s.ev S = .nx { s with v_most := some (.int (mxL ds : Nat)) }.ev S := by
  have hit : gSrc srcOf (gVar 14) s.ev S = .ok (fixL (ds.map owD)) S none := src_ls (by simp [h14])
  have e := gLc_map (n := 1000000) (t := nName 24) (c := none) (e := gCallP pLen [gBin gIx (gVar 24) (gC (.int 1))]) (vs := [24]) (L := ds) (g := owD) (p := fun _ => true) (f := fun m => .int (ln m : Nat)) hit (by
    intro m hm acc
    refine ⟨{ s with v_one := some (owD m) }.ev, rfl, rfl, fun _ => ?_⟩
    have e2 := ow_1 (m := m) (S := S ++ [.lst acc])
    have e3 := st_len (m := m) (S := S ++ [.lst acc])
    generalize owD m = OW at *
    generalize stT m.steps = ST at *
    generalize ((ln m : Nat) : Int) = q at *
    simp -implicitDefEqProofs [e2, e3]) (by omega) (by rw [sizeLine_eq]; omega) (fun _ _ _ => rfl)
  rw [filter_all] at e
  have e2 : gAdd (.ls (ds.map fun m => .int (ln m : Nat))) (.ls [.int 0]) S = some (.ls ((ds.map fun m => .int (ln m : Nat)) ++ [.int 0]), S) := gAdd_ls (by simp; omega)
  have e3 := max_ev (l := ds) (S := S)
  generalize ((ds.map fun m => D.int (ln m : Nat)) ++ [.int 0]) = L2 at *
  generalize (ds.map fun m => D.int (ln m : Nat)) = L1 at *
  generalize ((mxL ds : Nat) : Int) = q at *
  simp -implicitDefEqProofs [↓e, e2, e3]
theorem p410_ev (hm : ms.length ≤ 4) (G : ∀ m ∈ ms, Gd m) (hr : rs.length ≤ 60) (hne : rs ≠ []) (hw : w = decide (fr = (rs.length : Nat))) (h3 : s.v_moves = some (.ref 2)) (h8 : s.v_pad = some (.ref 4)) (h14 : s.v_done = some (.ls ((ms.filter (dnB rs w)).map owD))) (h15 : s.v_most = some (.int (mxL (ms.filter (dnB rs w)) : Nat))) :
    pB4_10 s.ev (stB ms rs fr z) = .nx s.ev (stB ms rs fr z) := by
  have e1 := best_ev (S := stB ms rs fr z) (x := .ref 2) (p := 4) (ms := ms) (by omega) (.inr ⟨2, rfl, stB_2⟩) G stB_4 hr hne
  rw [← hw, bst_eq] at e1
  have hfl := List.length_filter_le (dnB rs w) ms
  generalize hds : ms.filter (dnB rs w) = ds at *
  have hit : gSrc srcOf (gVar 14) s.ev (stB ms rs fr z) = .ok (fixL (ds.map owD)) (stB ms rs fr z) none := src_ls (by simp [h14])
  have e := gLc_map (n := 1000000) (t := nName 24) (c := some (gBin gEq (gCallP pLen [gBin gIx (gVar 24) (gC (.int 1))]) (gVar 15))) (e := gBin gIx (gVar 24) (gC (.int 0))) (vs := [24]) (L := ds) (g := owD) (p := fun m => ln m == mxL ds) (f := fun m => .str m.name) hit (by
    intro m hm acc
    refine ⟨{ s with v_one := some (owD m) }.ev, rfl, ?_, fun _ => ?_⟩
    · have e2 := ow_1 (m := m) (S := stB ms rs fr z ++ [.lst acc])
      have e3 := st_len (m := m) (S := stB ms rs fr z ++ [.lst acc])
      have e4 : gEq (.int (ln m : Nat)) (.int (mxL ds : Nat)) (stB ms rs fr z ++ [.lst acc]) = some (.bl (ln m == mxL ds), stB ms rs fr z ++ [.lst acc]) := by
        rw [gEq_int]; congr 3
        rw [Bool.eq_iff_iff, decide_eq_true_eq, beq_iff_eq]; omega
      generalize (ln m == mxL ds) = bb at *
      generalize owD m = OW at *
      generalize stT m.steps = ST at *
      generalize ((ln m : Nat) : Int) = q at *
      generalize ((mxL ds : Nat) : Int) = q2 at *
      simp -implicitDefEqProofs [tstG, h15, e2, e3, e4]
    · have e2 := ow_0 (m := m) (S := stB ms rs fr z ++ [.lst acc])
      generalize owD m = OW at *
      simp -implicitDefEqProofs [e2]) (by omega) (by rw [sizeLine_eq]; omega) (fun _ _ _ => rfl)
  generalize hfs : (ds.filter fun m => ln m == mxL ds) = fs at *
  have hfl2 : fs.length ≤ ds.length := by rw [← hfs]; exact List.length_filter_le _ _
  have e2 : gAdd (.ls (fs.map fun m => .str m.name)) (.ls [.non]) (stB ms rs fr z) = some (.ls ((fs.map fun m => .str m.name) ++ [.non]), stB ms rs fr z) := gAdd_ls (by simp; omega)
  have e3 : gIx (.ls ((fs.map fun m => .str m.name) ++ [.non])) (.int 0) (stB ms rs fr z) = some (bstN fs.head?, stB ms rs fr z) := by
    rw [gIx_ls, atI_0]
    cases fs <;> rfl
  have e4 : gNe (bstN fs.head?) (bstN fs.head?) (stB ms rs fr z) = some (.bl false, stB ms rs fr z) := gNe_self (by cases fs <;> rfl)
  generalize bstN fs.head? = BN at *
  generalize ((fs.map fun m => D.str m.name) ++ [D.non]) = L2 at *
  generalize (fs.map fun m => D.str m.name) = L1 at *
  simp -implicitDefEqProofs [h3, h8, e1, ↓e, e2, e3, e4]
end
end K12

set_option Elab.async false
set_option linter.all false
set_option maxRecDepth 100000
set_option pp.maxSteps 40
set_option maxHeartbeats 2000000
/-! K12o: a frame: what is down; the frames -/
namespace K12
open PySem PySem.Spec L2 Gp
section
variable {ms : List Mv} {rs : List Nat} {fr : Int} {z : Z3} {s : Sl} {m j a : Nat} {S : Sto} {w : Bool}
theorem p411_ev (h1 : s.v_dice = some (.ref 1)) (h2 : s.v_names = some nmD) : ∃ (j a : Nat) (z' : Z3), j < 7 ∧ a < 70 ∧ pB4_11 s.ev (stB ms rs fr z) = .nx { s with v_name := some (.str (nm j)), v_ago := some (.int (a : Nat)) }.ev (stB ms rs fr z') := by
  obtain ⟨r, z1, r0, r1, e1⟩ := kroll (stB_d (ms := ms) (rs := rs) (fr := fr)) (m := 7) (by omega) (by omega) z
  obtain ⟨q, z2, q0, q1, e2⟩ := kroll (stB_d (ms := ms) (rs := rs) (fr := fr)) (m := 70) (by omega) (by omega) z1
  refine ⟨r.toNat, q.toNat, z2, by omega, by omega, ?_⟩
  have e3 := nm_ix (k := r.toNat) (by omega) (S := stB ms rs fr z1)
  have er : ((r.toNat : Nat) : Int) = r := by omega
  have eq : ((q.toNat : Nat) : Int) = q := by omega
  rw [er] at e3
  rw [eq]
  generalize nmD = ND at *
  simp -implicitDefEqProofs [h1, h2, e1, e2, e3]
theorem down_at (ha : a < rs.length) : downB rs j a = (rs.getD (rs.length - 1 - a) 0).testBit j := by
  have hk : rs.length - 1 - a < rs.length := by omega
  simp only [downB, List.getElem?_eq_getElem hk, List.getD_eq_getElem?_getD, Option.getD_some, ha, decide_true, Bool.true_and]
theorem down_no (ha : ¬ a < rs.length) : downB rs j a = false := by
  cases hd : downB rs j a with
  | false => rfl
  | true => exact absurd (down_lt hd) ha
/-- name in rows[..] -/
theorem in_at (hj : j < 7) (ha : a < rs.length) : gIx (rowsD rs) (.int ((rs.length - 1 - a : Nat) : Int)) S = some (rowD (rs.getD (rs.length - 1 - a) 0), S) ∧ gIn true (.str (nm j)) (rowD (rs.getD (rs.length - 1 - a) 0)) S = some (.bl (downB rs j a), S) := by
  refine ⟨rows_ix (by omega), ?_⟩
  rw [in_row hj, down_at ha]
  simp
theorem p412_ev (hj : j < 7) (h9 : s.v_rows = some (rowsD rs)) (h16 : s.v_name = some (.str (nm j))) (h17 : s.v_ago = some (.int (a : Nat))) : pB4_12 s.ev S = .nx { s with v_down := some (.bl (downB rs j a)) }.ev S := by
  have e4 := rows_len (rs := rs) (S := S)
  by_cases ha : a < rs.length
  · obtain ⟨e1, e2⟩ := in_at (S := S) hj ha
    have e5 : ((rs.length : Nat) : Int) - 1 - (a : Nat) = ((rs.length - 1 - a : Nat) : Int) := by omega
    have h0 : ((a : Nat) : Int) < ((rs.length : Nat) : Int) := by omega
    generalize rowD (rs.getD (rs.length - 1 - a) 0) = RD at *
    generalize ((rs.length - 1 - a : Nat) : Int) = k at *
    generalize ((rs.length : Nat) : Int) = n at *
    generalize ((a : Nat) : Int) = aa at *
    generalize rowsD rs = R at *
    simp -implicitDefEqProofs [h9, h16, h17, e4, h0, e5, e1, e2]
  · have h0 : ¬ ((a : Nat) : Int) < ((rs.length : Nat) : Int) := by omega
    rw [down_no ha]
    generalize ((rs.length : Nat) : Int) = n at *
    generalize ((a : Nat) : Int) = aa at *
    generalize rowsD rs = R at *
    simp -implicitDefEqProofs [h9, h16, h17, e4, h0]
theorem p413_ev (hj : j < 7) (h9 : s.v_rows = some (rowsD rs)) (h16 : s.v_name = some (.str (nm j))) (h17 : s.v_ago = some (.int (a : Nat))) : pB4_13 s.ev S = .nx { s with v_before := some (.bl (downB rs j (a + 1))) }.ev S := by
  have e4 := rows_len (rs := rs) (S := S)
  by_cases ha : a + 1 < rs.length
  · obtain ⟨e1, e2⟩ := in_at (S := S) hj ha
    have e5 : ((rs.length : Nat) : Int) - 2 - (a : Nat) = ((rs.length - 1 - (a + 1) : Nat) : Int) := by omega
    have h0 : ((a : Nat) : Int) + 1 < ((rs.length : Nat) : Int) := by omega
    generalize rowD (rs.getD (rs.length - 1 - (a + 1)) 0) = RD at *
    generalize ((rs.length - 1 - (a + 1) : Nat) : Int) = k at *
    generalize ((rs.length : Nat) : Int) = n at *
    generalize ((a : Nat) : Int) = aa at *
    generalize rowsD rs = R at *
    simp -implicitDefEqProofs [h9, h16, h17, e4, h0, e5, e1, e2]
  · have h0 : ¬ ((a : Nat) : Int) + 1 < ((rs.length : Nat) : Int) := by omega
    rw [down_no ha]
    generalize ((rs.length : Nat) : Int) = n at *
    generalize ((a : Nat) : Int) = aa at *
    generalize rowsD rs = R at *
    simp -implicitDefEqProofs [h9, h16, h17, e4, h0]
theorem p414_ev (h9 : s.v_rows = some (rowsD rs)) (h13 : s.v_whole = some (.bl w)) (h17 : s.v_ago = some (.int (a : Nat))) : pB4_14 s.ev S = .nx { s with v_known := some (.bl (decide (a + 1 < rs.length) || w)) }.ev S := by
  have e4 := rows_len (rs := rs) (S := S)
  by_cases ha : a + 1 < rs.length
  · have h0 : ((a : Nat) : Int) + 1 < ((rs.length : Nat) : Int) := by omega
    simp only [ha, decide_true, Bool.true_or]
    generalize ((rs.length : Nat) : Int) = n at *
    generalize ((a : Nat) : Int) = aa at *
    generalize rowsD rs = R at *
    simp -implicitDefEqProofs [h9, h13, h17, e4, h0]
  · have h0 : ¬ ((a : Nat) : Int) + 1 < ((rs.length : Nat) : Int) := by omega
    simp only [ha, decide_false, Bool.false_or]
    generalize ((rs.length : Nat) : Int) = n at *
    generalize ((a : Nat) : Int) = aa at *
    generalize rowsD rs = R at *
    simp -implicitDefEqProofs [h9, h13, h17, e4, h0]
abbrev tH2 : GE := gAnd (gBin gLt (gVar 21) (gCallP pLen [gVar 9])) (gBin (gIn true) (gVar 16) (gBin gIx (gVar 9) (gBin gSub (gBin gSub (gCallP pLen [gVar 9]) (gC (.int 1))) (gVar 21))))
theorem th2_ev (hj : j < 7) (h9 : s.v_rows = some (rowsD rs)) (h16 : s.v_name = some (.str (nm j))) (h21 : s.v_held = some (.int (a : Nat))) : tH2 s.ev S = .ok (.bl (downB rs j a)) S := by
  have e4 := rows_len (rs := rs) (S := S)
  by_cases ha : a < rs.length
  · obtain ⟨e1, e2⟩ := in_at (S := S) hj ha
    have e5 : ((rs.length : Nat) : Int) - 1 - (a : Nat) = ((rs.length - 1 - a : Nat) : Int) := by omega
    have h0 : ((a : Nat) : Int) < ((rs.length : Nat) : Int) := by omega
    generalize rowD (rs.getD (rs.length - 1 - a) 0) = RD at *
    generalize ((rs.length - 1 - a : Nat) : Int) = k at *
    generalize ((rs.length : Nat) : Int) = n at *
    generalize ((a : Nat) : Int) = aa at *
    generalize rowsD rs = R at *
    simp -implicitDefEqProofs [h9, h16, h21, e4, h0, e5, e1, e2]
  · have h0 : ¬ ((a : Nat) : Int) < ((rs.length : Nat) : Int) := by omega
    rw [down_no ha]
    generalize ((rs.length : Nat) : Int) = n at *
    generalize ((a : Nat) : Int) = aa at *
    generalize rowsD rs = R at *
    simp -implicitDefEqProofs [h9, h16, h21, e4, h0]
theorem p416_ev {n : Nat} (hn : 200000 < n) (hr : rs.length ≤ 60) (hj : j < 7) (h9 : s.v_rows = some (rowsD rs)) (h16 : s.v_name = some (.str (nm j))) (h21 : s.v_held = some (.int ((0 : Nat) : Int))) : whN tH2 (sAsg (gBin gAdd (gVar 21) (gC (.int 1))) (tName 21)) n s.ev S = .nx { s with v_held := some (.int (heldN rs j : Nat)) }.ev S := by
  have hle := held_le (rs := rs) (j := j)
  obtain ⟨ρ', S', e9, hq⟩ := whN_to (t := tH2) (b := sAsg (gBin gAdd (gVar 21) (gC (.int 1))) (tName 21)) (fun q ρ U => ∃ k : Nat, q + k = heldN rs j ∧ ρ = { s with v_held := some (.int (k : Nat)) }.ev ∧ U = S) (fun ρ U => ρ = { s with v_held := some (.int (heldN rs j : Nat)) }.ev ∧ U = S) (by
    rintro q ρ U ⟨k, hk, rfl, rfl⟩
    rcases Nat.lt_or_ge k (heldN rs j) with hc | hc
    · right
      refine ⟨U, ?_, { s with v_held := some (.int ((k + 1 : Nat) : Int)) }.ev, U, .inl ?_, q - 1, by omega, k + 1, by omega, rfl, rfl⟩
      · rw [th2_ev (a := k) hj (by exact h9) (by exact h16) rfl, held_down hc]
      · have : ((k : Nat) : Int) + 1 = ((k + 1 : Nat) : Int) := by omega
        generalize ((k + 1 : Nat) : Int) = k1 at *
        generalize ((k : Nat) : Int) = k0 at *
        simp -implicitDefEqProofs [this]
    · left
      have : k = heldN rs j := by omega
      subst this
      refine ⟨U, ?_, rfl, rfl⟩
      rw [th2_ev (a := heldN rs j) hj (by exact h9) (by exact h16) rfl]
      by_cases h1 : heldN rs j < rs.length
      · rw [held_end h1]
      · rw [down_no h1]) n (heldN rs j) s.ev S (by omega) ⟨0, by omega, by rw [← h21], rfl⟩
  obtain ⟨rfl, rfl⟩ := hq
  exact e9
theorem p417_ev {i : Nat} (hj : j < 7) (hr : rs.length ≤ 60) (hw : w = decide (fr = (rs.length : Nat))) (hfr : fr = (i : Nat) + 1) (h8 : s.v_pad = some (.ref 4)) (h10 : s.v_frame = some (.int (i : Nat))) (h16 : s.v_name = some (.str (nm j))) (h17 : s.v_ago = some (.int (a : Nat)))
    (h18 : s.v_down = some (.bl (downB rs j a))) (h19 : s.v_before = some (.bl (downB rs j (a + 1)))) (h20 : s.v_known = some (.bl (decide (a + 1 < rs.length) || w))) (h21 : s.v_held = some (.int (heldN rs j : Nat))) :
    pB4_17 s.ev (stB ms rs fr z) = .nx s.ev (stB ms rs fr z) := by
  have e1 := isdown_ev (S := stB ms rs fr z) (p := 4) (ago := a) stB_4 hj
  have e2 := came_ev (S := stB ms rs fr z) (p := 4) (ago := a) stB_4 hj
  have e3 := held_ev (S := stB ms rs fr z) (p := 4) stB_4 hj hr
  have e4 := pad_frames (S := stB ms rs fr z) (p := 4) stB_4
  have e5 := pad_cls (S := stB ms rs fr z) (p := 4) stB_4
  have l1 : lookD "is_down" (padF rs fr) = none := rfl
  have l2 : lookD "came_down" (padF rs fr) = none := rfl
  have l3 : lookD "held" (padF rs fr) = none := rfl
  unfold cameB at e2
  rw [← hw] at e2
  have hq : (fr = ((i : Nat) : Int) + 1) = True := eq_true hfr
  generalize (decide (a + 1 < rs.length) || w) = kn at *
  generalize downB rs j a = d1 at *
  generalize downB rs j (a + 1) = d2 at *
  generalize ((heldN rs j : Nat) : Int) = hd at *
  generalize ((a : Nat) : Int) = aa at *
  generalize ((i : Nat) : Int) = ii at *
  have e7 : gNe (.bl d1) (.bl d1) (stB ms rs fr z) = some (.bl false, stB ms rs fr z) := gNe_self rfl
  cases d1 <;> cases d2 <;> cases kn <;> simp -implicitDefEqProofs [h8, h10, h16, h17, h18, h19, h20, h21, e1, e2, e3, e4, e5, l1, l2, l3, mlook, hq]
theorem keep_len (h : rs.length = min a 60) : (keep (rs ++ [m])).length = min (a + 1) 60 := by
  unfold keep; simp; omega
/-- what the names hold behind a frame that the law reads again -/
structure Hd (s : Sl) (rs : List Nat) : Prop where
  h1 : s.v_dice = some (.ref 1)
  h2 : s.v_names = some nmD
  h3 : s.v_moves = some (.ref 2)
  h4 : s.v_own = some (.ref 3)
  h8 : s.v_pad = some (.ref 4)
  h9 : s.v_rows = some (rowsD rs)
theorem frame_ev {i : Nat} (hm : ms.length ≤ 4) (G : ∀ m ∈ ms, Gd m) (hl : rs.length = min i 60) (hs : Hd s rs) (h10 : s.v_frame = some (.int (i : Nat))) :
    ∃ (rs' : List Nat) (s' : Sl) (z' : Z3), pB4_b s.ev (stB ms rs (i : Nat) z) = .nx s'.ev (stB ms rs' ((i + 1 : Nat) : Int) z') ∧ rs'.length = min (i + 1) 60 ∧ Hd s' rs' := by
  obtain ⟨h1, h2, h3, h4, h8, h9⟩ := hs
  obtain ⟨m, z1, hrow, e1⟩ := p41_ev (ms := ms) (rs := rs) (fr := (i : Nat)) (z := z) (s := s) h1 h2
  have hr0 : rs.length ≤ 60 := by omega
  have e2 := p42_ev (m := m) (s := { s with v_row := some (rowD m) }) (S := stB ms rs (i : Nat) z1) hrow h2 rfl
  have e3 := p43_ev (m := m) (s := { s with v_row := some (rowD m), v_number := some (.int (m : Nat)) }) (S := stB ms rs (i : Nat) z1) hrow rfl rfl
  have e4 := p44_ev (ms := ms) (rs := rs) (fr := (i : Nat)) (z := z1) (m := m) (s := { s with v_row := some (rowD m), v_number := some (.int (m : Nat)) }) hrow.lt hr0 h8 rfl
  have e5 := p45_ev (rs := rs) (m := m) (s := { s with v_row := some (rowD m), v_number := some (.int (m : Nat)) }) (S := stB ms (keep (rs ++ [m])) ((i : Nat) + 1) z1) hr0 h9 rfl
  have hl2 := keep_len (m := m) hl
  generalize keep (rs ++ [m]) = rs' at *
  have hr : rs'.length ≤ 60 := by omega
  have hne : rs' ≠ [] := fun e => by rw [e] at hl2; simp at hl2; omega
  have hw : decide (((i : Nat) : Int) + 1 ≤ 60) = decide (((i : Nat) : Int) + 1 = (rs'.length : Nat)) := by apply decide_eq_decide.mpr; omega
  have e6 := p46_ev (ms := ms) (rs := rs') (fr := (i : Nat) + 1) (z := z1) (s := { s with v_row := some (rowD m), v_number := some (.int (m : Nat)), v_rows := some (rowsD rs') }) h8
  rw [hw] at e6
  generalize hww : decide (((i : Nat) : Int) + 1 = (rs'.length : Nat)) = w at *
  have e7 := p47_ev (ms := ms) (rs := rs') (fr := (i : Nat) + 1) (z := z1) (w := w) (s := { s with v_row := some (rowD m), v_number := some (.int (m : Nat)), v_rows := some (rowsD rs'), v_whole := some (.bl w) }) hm G hr hne h4 rfl rfl
  have e8 := p48_ev (ms := ms) (rs := rs') (fr := (i : Nat) + 1) (z := z1) (w := w) (s := { s with v_row := some (rowD m), v_number := some (.int (m : Nat)), v_rows := some (rowsD rs'), v_whole := some (.bl w), v_done := some (.ls ((ms.filter (dnB rs' w)).map owD)) }) hm G hr hne hww.symm h3 h8 rfl
  have e9 := p49_ev (ds := ms.filter (dnB rs' w)) (S := stB ms rs' ((i : Nat) + 1) z1) (s := { s with v_row := some (rowD m), v_number := some (.int (m : Nat)), v_rows := some (rowsD rs'), v_whole := some (.bl w), v_done := some (.ls ((ms.filter (dnB rs' w)).map owD)) }) (by have := List.length_filter_le (dnB rs' w) ms; omega) rfl
  have e10 := p410_ev (ms := ms) (rs := rs') (fr := (i : Nat) + 1) (z := z1) (w := w) (s := { s with v_row := some (rowD m), v_number := some (.int (m : Nat)), v_rows := some (rowsD rs'), v_whole := some (.bl w), v_done := some (.ls ((ms.filter (dnB rs' w)).map owD)), v_most := some (.int (mxL (ms.filter (dnB rs' w)) : Nat)) }) hm G hr hne hww.symm h3 h8 rfl rfl
  obtain ⟨j, a, z2, hj, ha, e11⟩ := p411_ev (ms := ms) (rs := rs') (fr := (i : Nat) + 1) (z := z1) (s := { s with v_row := some (rowD m), v_number := some (.int (m : Nat)), v_rows := some (rowsD rs'), v_whole := some (.bl w), v_done := some (.ls ((ms.filter (dnB rs' w)).map owD)), v_most := some (.int (mxL (ms.filter (dnB rs' w)) : Nat)) }) h1 h2
  generalize hs1 : ({ s with v_row := some (rowD m), v_number := some (.int (m : Nat)), v_rows := some (rowsD rs'), v_whole := some (.bl w), v_done := some (.ls ((ms.filter (dnB rs' w)).map owD)), v_most := some (.int (mxL (ms.filter (dnB rs' w)) : Nat)) } : Sl) = s1 at e10 e11 e9
  have k1 : s1.v_dice = some (.ref 1) := by rw [← hs1]; exact h1
  have k2 : s1.v_names = some nmD := by rw [← hs1]; exact h2
  have k3 : s1.v_moves = some (.ref 2) := by rw [← hs1]; exact h3
  have k4 : s1.v_own = some (.ref 3) := by rw [← hs1]; exact h4
  have k8 : s1.v_pad = some (.ref 4) := by rw [← hs1]; exact h8
  have k9 : s1.v_rows = some (rowsD rs') := by rw [← hs1]
  have k10 : s1.v_frame = some (.int (i : Nat)) := by rw [← hs1]; exact h10
  have k13 : s1.v_whole = some (.bl w) := by rw [← hs1]
  have e12 := p412_ev (rs := rs') (j := j) (a := a) (S := stB ms rs' ((i : Nat) + 1) z2) (s := { s1 with v_name := some (.str (nm j)), v_ago := some (.int (a : Nat)) }) hj k9 rfl rfl
  have e13 := p413_ev (rs := rs') (j := j) (a := a) (S := stB ms rs' ((i : Nat) + 1) z2) (s := { s1 with v_name := some (.str (nm j)), v_ago := some (.int (a : Nat)), v_down := some (.bl (downB rs' j a)) }) hj k9 rfl rfl
  have e14 := p414_ev (rs := rs') (a := a) (w := w) (S := stB ms rs' ((i : Nat) + 1) z2) (s := { s1 with v_name := some (.str (nm j)), v_ago := some (.int (a : Nat)), v_down := some (.bl (downB rs' j a)), v_before := some (.bl (downB rs' j (a + 1))) }) k9 k13 rfl
  have e16 := p416_ev (n := 1000000) (rs := rs') (j := j) (S := stB ms rs' ((i : Nat) + 1) z2) (s := { s1 with v_name := some (.str (nm j)), v_ago := some (.int (a : Nat)), v_down := some (.bl (downB rs' j a)), v_before := some (.bl (downB rs' j (a + 1))), v_known := some (.bl (decide (a + 1 < rs'.length) || w)), v_held := some (.int ((0 : Nat) : Int)) }) (by omega) hr hj k9 rfl rfl
  have e17 := p417_ev (ms := ms) (rs := rs') (fr := (i : Nat) + 1) (z := z2) (w := w) (i := i) (j := j) (a := a) (s := { s1 with v_name := some (.str (nm j)), v_ago := some (.int (a : Nat)), v_down := some (.bl (downB rs' j a)), v_before := some (.bl (downB rs' j (a + 1))), v_known := some (.bl (decide (a + 1 < rs'.length) || w)), v_held := some (.int (heldN rs' j : Nat)) }) hj hr hww.symm rfl k8 k10 rfl rfl rfl rfl rfl rfl
  refine ⟨rs', { s1 with v_name := some (.str (nm j)), v_ago := some (.int (a : Nat)), v_down := some (.bl (downB rs' j a)), v_before := some (.bl (downB rs' j (a + 1))), v_known := some (.bl (decide (a + 1 < rs'.length) || w)), v_held := some (.int (heldN rs' j : Nat)) }, z2, ?_, hl2, ⟨k1, k2, k3, k4, k8, k9⟩⟩
  · have ei : ((i + 1 : Nat) : Int) = ((i : Nat) : Int) + 1 := by omega
    rw [ei]
    show sSeq pB4_1 (sSeq pB4_2 (sSeq pB4_3 (sSeq pB4_4 (sSeq pB4_5 (sSeq pB4_6 (sSeq pB4_7 (sSeq pB4_8 (sSeq pB4_9 (sSeq pB4_10 (sSeq pB4_11 (sSeq pB4_12 (sSeq pB4_13 (sSeq pB4_14 (sSeq pB4_15 (sSeq pB4_16 pB4_17))))))))))))))) s.ev (stB ms rs (i : Nat) z) = _
    refine (sSeq_nx e1).trans ?_
    refine (sSeq_nx e2).trans ?_
    refine (sSeq_nx e3).trans ?_
    refine (sSeq_nx e4).trans ?_
    refine (sSeq_nx e5).trans ?_
    refine (sSeq_nx e6).trans ?_
    refine (sSeq_nx e7).trans ?_
    refine (sSeq_nx e8).trans ?_
    refine (sSeq_nx e9).trans ?_
    refine (sSeq_nx e10).trans ?_
    refine (sSeq_nx e11).trans ?_
    refine (sSeq_nx e12).trans ?_
    refine (sSeq_nx e13).trans ?_
    refine (sSeq_nx e14).trans ?_
    refine (sSeq_nx (show pB4_15 _ _ = _ from rfl)).trans ?_
    refine (sSeq_nx e16).trans ?_
    exact e17
theorem lp4_ev {n : Nat} (hn : 200000 < n) (hm : ms.length ≤ 4) (G : ∀ m ∈ ms, Gd m) (hs : Hd s []) :
    ∃ (rs' : List Nat) (s' : Sl) (z' : Z3) (fr' : Int), lpB4 n s.ev (stB ms [] 0 z) = .nx s'.ev (stB ms rs' fr' z') ∧ s'.v_dice = some (.ref 1) := by
  obtain ⟨r, z1, r0, r1, e1⟩ := kroll (stB_d (ms := ms) (rs := []) (fr := 0)) (m := 91) (by omega) (by omega) z
  have ha : gCall F_law_roll [gVar 1, gC (.int 91)] [] s.ev (stB ms [] 0 z) = .ok (.int r) (stB ms [] 0 z1) := by simp -implicitDefEqProofs [hs.h1, e1]
  have hit := rng1_itS ha (by omega) (by omega)
  have lp := sFor_to (n := n) (t := tName 10) (b := pB4_b) hit fixL_look (by rw [rngL_len]; omega)
    (fun i ρ U => ∃ (rs' : List Nat) (s' : Sl) (z' : Z3), ρ = s'.ev ∧ U = stB ms rs' (i : Nat) z' ∧ rs'.length = min i 60 ∧ Hd s' rs') (fun _ _ => False) ⟨[], s, z1, rfl, rfl, rfl, hs⟩ (by
      rintro i d ρ U hd ⟨rs', s', z', rfl, rfl, hl, hh⟩
      refine TurnTo.of ?_
      have hi : i < r.toNat := by have := (List.getElem?_eq_some_iff.mp hd).1; rwa [rngL_len] at this
      rw [rngL_get hi] at hd
      have hd : D.int ((i : Nat) : Int) = d := by rw [← Option.some.inj hd]; congr 1; omega
      subst hd
      obtain ⟨h1, h2, h3, h4, h8, h9⟩ := hh
      obtain ⟨rs2, s2, z2, e, g1, g2⟩ := frame_ev (z := z') (s := { s' with v_frame := some (.int (i : Nat)) }) hm G hl ⟨h1, h2, h3, h4, h8, h9⟩ rfl
      rw [ev_tname, sthn_nx, Sl.set_10]
      exact ⟨_, _, e, rs2, s2, z2, rfl, rfl, g1, g2⟩)
  obtain ⟨ρ, U, e, rs', s', z', rfl, rfl, _, hh⟩ := lp.nx
  exact ⟨rs', s', z', _, e, hh.h1⟩
end
end K12

set_option Elab.async false
set_option linter.all false
set_option maxRecDepth 100000
set_option maxHeartbeats 2000000
/-! K12p: the cell's round; what is refused -/
namespace K12
open PySem PySem.Spec L2 Gp
section
variable {s : Sl} {z : Z3} {ms : List Mv}
theorem p1_ev : pB1 s.ev [.lst [.ref 1], dcT z] = .nx { s with v_names := some nmD, v_moves := some (.ref 2), v_own := some (.ref 3) }.ev (stA [] z) := rfl
theorem p3_ev : pB3 s.ev (stA ms z) = .nx { s with v_pad := some (.ref 4), v_rows := some (rowsD []) }.ev (stB ms [] 0 z) := by
  have e1 := pad_new (S := stA ms z)
  have e2 : (stA ms z).length = 4 := rfl
  rw [e2] at e1
  simp -implicitDefEqProofs [e1, asT]
  exact ⟨rfl, rfl⟩
theorem pB_ev (h1 : s.v_dice = some (.ref 1)) : ∃ (s' : Sl) (S' : Sto), S'[0]? = some (.lst [.ref 1]) ∧ pB s.ev [.lst [.ref 1], dcT z] = .nx s'.ev S' := by
  obtain ⟨ms, z2, x, y, w, e2, hl, G⟩ := lp2_ev (n := 1000000) (z := z) (s := { s with v_names := some nmD, v_moves := some (.ref 2), v_own := some (.ref 3) }) (by omega) h1 rfl rfl rfl
  have e3 := p3_ev (ms := ms) (z := z2) (s := { s with v_names := some nmD, v_moves := some (.ref 2), v_own := some (.ref 3), v_k := x, v_steps := y, v_gap := w })
  obtain ⟨rs', s4, z4, fr', e4, h4⟩ := lp4_ev (n := 1000000) (z := z2) (s := { s with v_names := some nmD, v_moves := some (.ref 2), v_own := some (.ref 3), v_k := x, v_steps := y, v_gap := w, v_pad := some (.ref 4), v_rows := some (rowsD []) }) (by omega) hl G ⟨h1, rfl, rfl, rfl, rfl, rfl⟩
  refine ⟨s4, stB ms rs' fr' z4, rfl, ?_⟩
  show sSeq pB1 (sSeq (lpB2 1000000) (sSeq pB3 (lpB4 1000000))) s.ev _ = _
  rw [sSeq_nx p1_ev]
  refine (sSeq_nx e2).trans ?_
  refine (sSeq_nx e3).trans ?_
  exact e4
end
theorem lp_ev {ns : List Int} (hl : ns.length ≤ 63) {m : Nat} : ∃ (s : Sl) (T : Sto), sFor (m + 2) (gSrc srcOf (gCall F_law_rounds [gVar 0, gC (.int 1)] [])) (tName 1) pB (s0 (.sq (ns.map .int))).ev [] = .nx s.ev T := by
  obtain ⟨z, e1⟩ := krounds hl
  have hit : gSrc srcOf (gCall F_law_rounds [gVar 0, gC (.int 1)] []) (s0 (.sq (ns.map .int))).ev [] = .ok (liveL 0) [.lst [.ref 1], dcT z] none := by
    have : gCall F_law_rounds [gVar 0, gC (.int 1)] [] (s0 (.sq (ns.map .int))).ev [] = .ok (.ref 0) [.lst [.ref 1], dcT z] := by
      simp -implicitDefEqProofs [s0, e1]
    simp only [gSrc, this, srcOf, ulOf, List.getElem?_cons_zero]
  obtain ⟨s, T, hT, e2⟩ := pB_ev (s := { s0 (.sq (ns.map .int)) with v_dice := some (.ref 1) }) (z := z) rfl
  generalize pB = PB at *
  exact ⟨s, T, sFor_one hit rfl (.inl e2) (by rw [live1 hT]; rfl)⟩
/-! ### what is refused -/
section
variable {S T : Sto}
theorem up_ne : gEq (.tup [.tup [.str "up"]]) (.tup []) S = some (.bl false, S) := rfl
abbrev anyI : GE := gGen (fun f n S => anyN f true n n 0 S) 1000000 (gSrc srcOf (gVar 2)) (nName 4) none (gBin gEq (gVar 4) (gTup [])) [4]
theorem any_ev {l : List D} {a b c : Option D} (hl : l.length ≤ 10) (f : D → Bool) (h : ∀ d ∈ l, ∀ S, gEq d (.tup []) S = some (.bl (f d), S)) : anyI [a, b, some (.tup l), c, none, none] S = .ok (.bl (l.any f)) S := by
  have hit : gSrc srcOf (gVar 2) [a, b, some (.tup l), c, none, none] S = .ok (fixL l) S none := rfl
  have := gGen_any (n := 1000000) (t := nName 4) (c := none) (e := gBin gEq (gVar 4) (gTup [])) (vs := [4]) hit fixL_look (fun d => some (f d)) (by
    intro d hd
    refine ⟨[a, b, some (.tup l), c, some d, none], rfl, ?_⟩
    have e1 := h d hd S
    simp -implicitDefEqProofs [tstG, e1]) (by omega)
  refine this.trans ?_
  congr 2
  simp
theorem mv_bad {l : List D} {g : Int} {n : Nat} (h : gEq (.tup l) (.tup []) T = some (.bl true, T) ∨ (gEq (.tup l) (.tup []) T = some (.bl false, T) ∧ (¬ (0 < g ∧ g ≤ 60) ∨ (0 < g ∧ g ≤ 60) ∧ anyI [some (.ref n), some (.str "m"), some (.tup l), some (.int g), none, none] T = .ok (.bl true) T))) :
    F_Move_init [.ref n, .str "m", .tup l, .int g] T = .exc "PlayError" T := by
  rcases h with h | ⟨h, h2 | ⟨⟨h2, h3⟩, h4⟩⟩
  · simp -implicitDefEqProofs [F_Move_init, m_Move_init, startG, h]
  · by_cases h0 : 0 < g
    · have h6 : ¬ g ≤ 60 := fun e => h2 ⟨h0, e⟩
      simp -implicitDefEqProofs [F_Move_init, m_Move_init, startG, h, h0, h6]
    · simp -implicitDefEqProofs [F_Move_init, m_Move_init, startG, h, h0]
  · simp -implicitDefEqProofs [F_Move_init, m_Move_init, startG, h, h2, h3, ↓h4]
theorem fly_bad {n : Nat} (h : T[n]? = some (.obj "Move" [])) : F_Move_init [.ref n, .str "m", .tup [.tup [.str "fly"]], .int 1] T = .exc "PlayError" (T.set n (.obj "Move" [("name", .str "m")])) := by
  have hn := lt_of_get h
  have e1 : gEq (.tup [.tup [.str "fly"]]) (.tup []) T = some (.bl false, T) := rfl
  have e2 := any_ev (S := T) (l := [.tup [.str "fly"]]) (a := some (.ref n)) (b := some (.str "m")) (c := some (.int 1)) (by simp) (fun _ => false) (by
    intro d hd S
    rw [List.mem_singleton] at hd; subst hd; rfl)
  have s1 : setA ["Move"] "name" (.ref n) (.str "m") T = some (T.set n (.obj "Move" [("name", .str "m")])) := by simp [setA, h]; rfl
  have e3 : gGenX tupN ["PlayError"] 1000000 (gSrc srcOf (gVar 2)) (nName 4) none (gCall F_pressed_number [gVar 4] []) [4] [some (.ref n), some (.str "m"), some (.tup [.tup [.str "fly"]]), some (.int 1), none, none] (T.set n (.obj "Move" [("name", .str "m")])) = .exc "PlayError" (T.set n (.obj "Move" [("name", .str "m")])) := by
    have e4 := pnum_fly (S := T.set n (.obj "Move" [("name", .str "m")])) (d := .tup [.str "fly"]) rfl rfl
    exact gGenX_tup_exc (ρ' := [some (.ref n), some (.str "m"), some (.tup [.tup [.str "fly"]]), some (.int 1), some (.tup [.str "fly"]), none]) (by omega) rfl rfl rfl rfl (by simp -implicitDefEqProofs [e4]) (by simp)
  simp -implicitDefEqProofs [F_Move_init, m_Move_init, startG, e1, ↓e2, s1, ↓e3]
end
abbrev lamN : List Str := ["L0", "L1", "L2", "L3", "L4", "L5", "L6", "L7", "L8", "L9", "L10"]
abbrev lamT : List (Str × GE) := [("L0", gCall F_pressed_number [gLst false [gC (.str "fly")]] []), ("L1", gCall F_pressed_names [gC (.int 128)] []), ("L2", gCall F_pressed_names [gUn gNeg (gC (.int 1))] []), ("L3", gMake true "Move" F_Move_init [gC (.str "m"), gTup [], gC (.int 1)] []), ("L4", gMake true "Move" F_Move_init [gC (.str "m"), gTup [gTup [gC (.str "up")]], gC (.int 0)] []), ("L5", gMake true "Move" F_Move_init [gC (.str "m"), gTup [gTup [gC (.str "up")], gTup []], gC (.int 1)] []), ("L6", gMake true "Move" F_Move_init [gC (.str "m"), gTup [gTup [gC (.str "fly")]], gC (.int 1)] []), ("L7", gMake true "Move" F_Move_init [gC (.str "m"), gTup [gTup [gC (.str "up")]], gC (.int 61)] []), ("L8", gMeth [("Pad", [], F_Pad_note)] "note" (gMake false "Pad" F_Pad_init [] []) [gC (.int 128)]), ("L9", gMeth [("Pad", [.int (0)], F_Pad_is_down)] "is_down" (gMake false "Pad" F_Pad_init [] []) [gC (.str "fly")]), ("L10", gMeth [("Pad", [], F_Pad_is_down)] "is_down" (gMake false "Pad" F_Pad_init [] []) [gC (.str "up"), gUn gNeg (gC (.int 1))])]
section
variable {s : Sl} {S : Sto}
theorem t14_ev {r : GS} : sSeq pT1 (sSeq pT2 (sSeq pT3 (sSeq pT4 r))) s.ev S = r { s with v_bad := some (.ls (lamN.map D.lam)) }.ev S := by
  simp -implicitDefEqProofs [pT1, pT2, pT3, pT4, gAdd, asL, sizeLine_eq]
theorem newp {T : Sto} : Gp.newObj "Pad" F_Pad_init [] T = .ok (.ref T.length) (T ++ [padC [] 0]) := pad_new
theorem lams_ev : ∀ x ∈ lamN, ∃ m, llook x lamT = some m ∧ ∀ T, True → ∃ c T', m s.ev T = .exc c T' ∧ c ∈ (["PlayError"] : List Str) ∧ True := by
  have mv : ∀ {l : List D} {g : Int} {T : Sto}, (∀ T n, F_Move_init [.ref n, .str "m", .tup l, .int g] T = .exc "PlayError" T) → tidy T (Gp.newObj "Move" F_Move_init [.str "m", .tup l, .int g] T) = .exc "PlayError" T := fun {l g T} h => make_excT (X := [.obj "Move" []]) (h _ _)
  have h : ∀ p ∈ lamT, ∀ T, ∃ c T', p.2 s.ev T = .exc c T' ∧ c ∈ (["PlayError"] : List Str) ∧ True := by
    intro p hp T
    simp only [lamT, List.mem_cons, List.not_mem_nil, or_false] at hp
    rcases hp with rfl | rfl | rfl | rfl | rfl | rfl | rfl | rfl | rfl | rfl | rfl
    · have e := pnum_fly (S := T) (d := .ls [.str "fly"]) rfl rfl
      exact ⟨"PlayError", T, by simp -implicitDefEqProofs [e], by simp⟩
    · have e := pnames_128 (S := T)
      exact ⟨"PlayError", T, by simp -implicitDefEqProofs [e], by simp⟩
    · have e := pnames_m1 (S := T)
      exact ⟨"PlayError", T, by simp -implicitDefEqProofs [e], by simp⟩
    · have e := mv (T := T) (l := []) (g := 1) fun T n => mv_bad (.inl rfl)
      exact ⟨"PlayError", T, by simp -implicitDefEqProofs [e], by simp⟩
    · have e := mv (T := T) (l := [.tup [.str "up"]]) (g := 0) fun T n => mv_bad (.inr ⟨rfl, .inl (by omega)⟩)
      exact ⟨"PlayError", T, by simp -implicitDefEqProofs [e], by simp⟩
    · have e := mv (T := T) (l := [.tup [.str "up"], .tup []]) (g := 1) fun T n => mv_bad (.inr ⟨rfl, .inr ⟨by omega, by
        have := any_ev (S := T) (l := [.tup [.str "up"], .tup []]) (a := some (.ref n)) (b := some (.str "m")) (c := some (.int 1)) (by simp) (fun d => decide (d = .tup [])) (by
          intro d hd S
          simp only [List.mem_cons, List.not_mem_nil, or_false] at hd
          rcases hd with rfl | rfl <;> rfl)
        exact this⟩⟩)
      exact ⟨"PlayError", T, by simp -implicitDefEqProofs [e], by simp⟩
    · have e : tidy T (Gp.newObj "Move" F_Move_init [.str "m", .tup [.tup [.str "fly"]], .int 1] T) = .exc "PlayError" T := make_excT (X := [.obj "Move" [("name", .str "m")]]) (by
        have := fly_bad (T := T ++ [.obj "Move" []]) (n := T.length) get_new
        rw [set_new] at this
        exact this)
      exact ⟨"PlayError", T, by simp -implicitDefEqProofs [e], by simp⟩
    · have e := mv (T := T) (l := [.tup [.str "up"]]) (g := 61) fun T n => mv_bad (.inr ⟨rfl, .inl (by omega)⟩)
      exact ⟨"PlayError", T, by simp -implicitDefEqProofs [e], by simp⟩
    · have e1 := newp (T := T)
      have e2 := note_128 (S := T ++ [padC [] 0]) (p := T.length) get_new
      have e3 := pad_cls (S := T ++ [padC [] 0]) (p := T.length) get_new
      have e4 : lookD "note" (padF [] 0) = none := rfl
      exact ⟨"PlayError", T ++ [padC [] 0], by simp -implicitDefEqProofs [e1, e2, e3, e4, mlook], by simp⟩
    · have e1 := newp (T := T)
      have e2 := isdown_fly (S := T ++ [padC [] 0]) (p := T.length) (x := .int 0) get_new
      have e3 := pad_cls (S := T ++ [padC [] 0]) (p := T.length) get_new
      have e4 : lookD "is_down" (padF [] 0) = none := rfl
      exact ⟨"PlayError", T ++ [padC [] 0], by simp -implicitDefEqProofs [e1, e2, e3, e4, mlook], by simp⟩
    · have e1 := newp (T := T)
      have e2 := isdown_neg (S := T ++ [padC [] 0]) (p := T.length) get_new
      have e3 := pad_cls (S := T ++ [padC [] 0]) (p := T.length) get_new
      have e4 : lookD "is_down" (padF [] 0) = none := rfl
      exact ⟨"PlayError", T ++ [padC [] 0], by simp -implicitDefEqProofs [e1, e2, e3, e4, mlook], by simp⟩
  intro x hx
  obtain ⟨p, hp, e⟩ := llook_mem (lt := lamT) (x := x) (by simpa using hx)
  exact ⟨p.2, e, fun T _ => h p hp T⟩
end
end K12

set_option Elab.async false
set_option linter.all false
set_option maxRecDepth 100000
set_option maxHeartbeats 2000000
/-! K12q: the end -/
namespace K12
open PySem PySem.Spec L2 Gp
section
variable {s : Sl} {S T : Sto}
abbrev gBd (n : Nat) : GE := gBad lamT ["PlayError"] n (gSrc srcOf (gVar 22))
theorem t5_ev (h : s.v_bad = some (.ls (lamN.map D.lam))) : ∃ T, pT5 s.ev S = .nx s.ev T := by
  have hit : gSrc srcOf (gVar 22) s.ev S = .ok (fixL (lamN.map .lam)) S none := src_ls (by rw [ev_var, Sl.get_22, h])
  obtain ⟨T, e, _⟩ := gBad_ev (lt := lamT) (yes := ["PlayError"]) (ρ := s.ev) (S := S) (n := 1000000) (fun _ => True) trivial hit lams_ev (by decide)
  refine ⟨T, ?_⟩
  have e0 : gNe (.ls []) (.ls []) T = some (.bl false, T) := gNe_self rfl
  have e1 : pList false [k_BUTTONS] T = some (nmD, T) := rfl
  have e2 : gNe (.tup [nmD, .int 60]) (.tup [nmD, .int 60]) T = some (.bl false, T) := gNe_self rfl
  have e3 : gTup [gLst false [gC (.str "up"), gC (.str "down"), gC (.str "left"), gC (.str "right"), gC (.str "hit"), gC (.str "jump"), gC (.str "block")], gC (.int 60)] s.ev T = .ok (.tup [nmD, .int 60]) T := rfl
  show sIf (gOr (gBin gNe (gBd 1000000) (gLst false [])) _) _ _ s.ev S = _
  replace e : gBd 1000000 s.ev S = .ok (.ls []) T := e
  generalize gBd 1000000 = GB at e ⊢
  generalize gTup [gLst false [gC (.str "up"), gC (.str "down"), gC (.str "left"), gC (.str "right"), gC (.str "hit"), gC (.str "jump"), gC (.str "block")], gC (.int 60)] = GT at e3 ⊢
  generalize nmD = ND at *
  simp -implicitDefEqProofs [e, e0, e1, e2, e3]
def M3 : Mv := ⟨"m", [[1], [3], [4]], 2⟩
theorem G3 : Gd M3 := ⟨by simp [M3], by simp [M3], by simp [M3], by simp [M3]⟩
theorem t6_ev : pT6 s.ev T = .nx { s with v_pad := some (.ref T.length), v_move := some (mvD M3) }.ev (T ++ [padC [] 0]) := by
  have e1 := newp (T := T)
  have e2 := mv_new (S := T ++ [padC [] 0]) G3
  have e2 : tidy (T ++ [padC [] 0]) (Gp.newObj "Move" F_Move_init [.str "m", .tup [.tup [.str "down"], .tup [.str "right"], .tup [.str "hit"]], .int 2] (T ++ [padC [] 0])) = .ok (mvD M3) (T ++ [padC [] 0]) := e2
  generalize mvD M3 = MM at *
  generalize T ++ [padC [] 0] = U at *
  simp -implicitDefEqProofs [e1, e2, asT]
abbrev bT7 : GS := sExpr (gMeth [("Pad", [], F_Pad_note)] "note" (gVar 8) [gCall F_pressed_number [gVar 11] []])
abbrev rws : List (List Nat) := [[1], [1, 3], [3, 4]]
theorem t7_ev {n : Nat} (hn : 200000 < n) {x : D} (h8 : s.v_pad = some (.ref T.length)) : ∃ y, sFor n (gSrc srcOf (gLst false [gLst false [gC (.str "down")], gLst false [gC (.str "down"), gC (.str "right")], gLst false [gC (.str "right"), gC (.str "hit")]])) (tName 11) bT7 s.ev (T ++ [padC [] 0]) = .nx { s with v_row := y }.ev (T ++ [padC [2, 10, 24] 3]) := by
  have hit : gSrc srcOf (gLst false [gLst false [gC (.str "down")], gLst false [gC (.str "down"), gC (.str "right")], gLst false [gC (.str "right"), gC (.str "hit")]]) s.ev (T ++ [padC [] 0]) = .ok (fixL (rws.map fun js => .ls (strL js))) (T ++ [padC [] 0]) none := rfl
  have lp := sFor_to (n := n) (t := tName 11) (b := bT7) hit fixL_look (by simp; omega)
    (fun i ρ U => ∃ y, ρ = { s with v_row := y }.ev ∧ U = T ++ [padC ((rws.take i).map sN) (i : Nat)]) (fun _ _ => False) ⟨s.v_row, rfl, rfl⟩ (by
      rintro i d ρ U hd ⟨y, rfl, rfl⟩
      refine TurnTo.of ?_
      rw [List.getElem?_map] at hd
      obtain ⟨js, hjs, rfl⟩ := Option.map_eq_some_iff.mp hd
      have hi : i < 3 := by have := (List.getElem?_eq_some_iff.mp hjs).1; simpa using this
      have hj7 : ∀ j ∈ js, j < 7 := by
        have hm := List.mem_of_getElem? hjs
        simp only [List.mem_cons, List.not_mem_nil, or_false] at hm
        rcases hm with rfl | rfl | rfl <;> simp
      have hjl : js.length < 1000 := by
        have hm := List.mem_of_getElem? hjs
        simp only [List.mem_cons, List.not_mem_nil, or_false] at hm
        rcases hm with rfl | rfl | rfl <;> simp
      have hm : sN js < 128 := by
        have hm := List.mem_of_getElem? hjs
        simp only [List.mem_cons, List.not_mem_nil, or_false] at hm
        rcases hm with rfl | rfl | rfl <;> decide +kernel
      have e1 := pnum_ls (S := T ++ [padC ((rws.take i).map sN) (i : Nat)]) hj7 hjl
      have hll : ((rws.take i).map sN).length ≤ 3 := by simp; omega
      have e2 := note_ev (S := T ++ [padC ((rws.take i).map sN) (i : Nat)]) (p := T.length) get_new hm (by omega)
      have e3 := pad_cls (S := T ++ [padC ((rws.take i).map sN) (i : Nat)]) (p := T.length) get_new
      have e4 : lookD "note" (padF ((rws.take i).map sN) (i : Nat)) = none := rfl
      rw [set_new] at e2
      have ek : keep ((rws.take i).map sN ++ [sN js]) = (rws.take (i + 1)).map sN := by
        rw [List.take_succ, hjs, Option.toList_some, List.map_append]
        unfold keep
        rw [show ((rws.take i).map sN ++ [sN js]).length - 60 = 0 by simp; omega]
        rfl
      rw [ek] at e2
      have ei : ((i + 1 : Nat) : Int) = (i : Nat) + 1 := by omega
      rw [ev_tname, sthn_nx, Sl.set_11]
      refine ⟨_, _, ?_, some (.ls (strL js)), rfl, rfl⟩
      rw [ei]
      generalize T ++ [padC ((rws.take (i + 1)).map sN) ((i : Nat) + 1)] = V at *
      generalize hU : T ++ [padC ((rws.take i).map sN) (i : Nat)] = U at *
      generalize padF ((rws.take i).map sN) (i : Nat) = PF at *
      generalize ((sN js : Nat) : Int) = q at *
      generalize D.ls (strL js) = J at *
      clear hU
      simp -implicitDefEqProofs [h8, e1, e2, e3, e4, mlook])
  obtain ⟨ρ, U, e, y, rfl, rfl⟩ := lp.nx
  refine ⟨y, e.trans ?_⟩
  rfl
theorem t8_ev (h8 : s.v_pad = some (.ref T.length)) (h23 : s.v_move = some (mvD M3)) : pT8 s.ev (T ++ [padC [2, 10, 24] 3]) = .rt (.bl true) (T ++ [padC [2, 10, 24] 3]) := by
  have g0 : (T ++ [padC [2, 10, 24] 3])[T.length]? = some (padC [2, 10, 24] 3) := get_new
  generalize T ++ [padC [2, 10, 24] 3] = U at *
  have e1 := isdone G3 g0 (by simp) (by simp)
  have d1 : decide ((3 : Int) = (([2, 10, 24] : List Nat).length : Nat)) = true := rfl
  rw [d1, show dnB [2, 10, 24] true M3 = true by decide +kernel] at e1
  have e2 := comes_ev (x := mvD M3) (st := 16) (ago := 0) g0
  rw [d1, show cmsA [2, 10, 24] true 16 0 = true by decide +kernel] at e2
  have e3 := comes_ev (x := mvD M3) (st := 8) (ago := 0) g0
  rw [d1, show cmsA [2, 10, 24] true 8 0 = false by decide +kernel] at e3
  have e4 := best_ev (x := .ls []) (ms := []) (by simp) (.inl rfl) (by simp) g0 (by simp) (by simp)
  have e4 : F_best_move [.ls [], .ref T.length] U = .ok .non U := e4
  have e2 : F_Move_comes [mvD M3, .ref T.length, .int 16, .int 0] U = .ok (.bl true) U := e2
  have e3 : F_Move_comes [mvD M3, .ref T.length, .int 8, .int 0] U = .ok (.bl false) U := e3
  have e5 := mv_cls (m := M3) (S := U)
  have l1 := mv_lkd (m := M3)
  have l2 := mv_lk (m := M3)
  simp only [mvD] at *
  generalize mvF M3 = MF at *
  have i1 : gIs true .non .non U = some (.bl true, U) := rfl
  simp -implicitDefEqProofs [h8, h23, e1, e2, e3, e4, e5, l1, l2, mlook, i1]
end
theorem fn_ev {x : D} {LP P : GS} {s : Sl} {T T3 : Sto} (h : m_law = sSeq LP P) (h1 : LP (s0 x).ev [] = .nx s.ev T) (h4 : P s.ev T = .rt (.bl true) T3) : F_law [x] [] = .ok (.bl true) T3 := by
  show fnG false 1 29 m_law [x] [] = _
  rw [fnG_eq, start_s0, h, sSeq_nx h1, h4]
  rfl
theorem keeps : Keeps := by
  intro ns hl _
  obtain ⟨s, T, lp⟩ := lp_ev hl (m := 999998)
  obtain ⟨T2, e5⟩ := t5_ev (s := { s with v_bad := some (.ls (lamN.map D.lam)) }) (S := T) rfl
  have e6 := t6_ev (s := { s with v_bad := some (.ls (lamN.map D.lam)) }) (T := T2)
  obtain ⟨y, e7⟩ := t7_ev (n := 1000000) (x := .non) (T := T2) (s := { s with v_bad := some (.ls (lamN.map D.lam)), v_pad := some (.ref T2.length), v_move := some (mvD M3) }) (by omega) rfl
  have e8 := t8_ev (T := T2) (s := { s with v_bad := some (.ls (lamN.map D.lam)), v_pad := some (.ref T2.length), v_move := some (mvD M3), v_row := y }) rfl rfl
  refine ⟨_, fn_ev m_is lp (T3 := T2 ++ [padC [2, 10, 24] 3]) ?_⟩
  rw [t14_ev, sSeq_nx e5]
  refine (sSeq_nx e6).trans ?_
  refine (sSeq_nx e7).trans ?_
  exact e8
end K12

theorem PySem.Challenge.cw_gamestack_k12_moves_found_in_buttons_holds : PySem.Challenge.rw_gamestack_k12_moves_found_in_buttons.Holds := by
  exact K12_end K12.keeps
