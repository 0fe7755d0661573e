import PyProof.Rows.All
import Wide.All
import OpenK.AllK
import Wide.FinOn
import PySem.Challenge.RW_xm0390_01
open PySem PySem.W PySem.Calls PyProof.Rows PySem.Spec
set_option Elab.async false
set_option linter.unusedVariables false
set_option linter.unusedSimpArgs false
set_option maxRecDepth 100000
/-! X1 -/
namespace Mine

/-- values as trees -/
inductive T where
  | none
  | bool (b : Bool)
  | int (i : Int)
  | tup (l : List T)
  | lst (l : List T)
  | con (v : Value)

/-- a tree, or an own list that may still change -/
inductive V where
  | t (x : T)
  | m (i : Nat)

/-- what is known of a frame: its names, its own lists -/
structure St where
  r : List (Str × V)
  H : List (Option (List T))

inductive F where
  | next | brk | cont
  | ret (x : T)

mutual
inductive RT (h : Heap) (X : List Addr) : Value → T → Prop
  | none : RT h X Value.none T.none
  | bool (b : Bool) : RT h X (Value.bool b) (T.bool b)
  | int (i : Int) (t : Tok) : RT h X (Value.int i t) (T.int i)
  | con (v : Value) : RT h X v (T.con v)
  | tup {a : Addr} {vs : List Value} {l : List T} : h.IsTuple a vs.toArray → a ∉ X → RTs h X vs l → RT h X (Value.ref a) (T.tup l)
  | lst {a : Addr} {vs : List Value} {l : List T} : h.IsList a vs.toArray → a ∉ X → RTs h X vs l → RT h X (Value.ref a) (T.lst l)
inductive RTs (h : Heap) (X : List Addr) : List Value → List T → Prop
  | nil : RTs h X [] []
  | cons {v : Value} {vs : List Value} {x : T} {l : List T} : RT h X v x → RTs h X vs l → RTs h X (v :: vs) (x :: l)
end

noncomputable def isSeq (o : Obj) : Prop := ∃ xs n, o.data = .seq xs n

/-- what trees ask of two heaps -/
noncomputable def Carry (h : Heap) (X : List Addr) (h' : Heap) (X' : List Addr) : Prop :=
  ∀ b o, b ∉ X → h.get? b = some o → isSeq o → h'.get? b = some o ∧ b ∉ X'

mutual
theorem RT.carry {h h' : Heap} {X X' : List Addr} (k : Carry h X h' X') : ∀ {v : Value} {x : T}, RT h X v x → RT h' X' v x
  | _, _, .none => .none
  | _, _, .bool b => .bool b
  | _, _, .int i t => .int i t
  | _, _, .con v => .con v
  | _, _, .tup ⟨o, ho, hc, n, hd⟩ ha r => let q := k _ _ ha ho ⟨_, _, hd⟩; .tup ⟨o, q.1, hc, n, hd⟩ q.2 (RTs.carry k r)
  | _, _, .lst ⟨o, ho, hc, n, hd⟩ ha r => let q := k _ _ ha ho ⟨_, _, hd⟩; .lst ⟨o, q.1, hc, n, hd⟩ q.2 (RTs.carry k r)
theorem RTs.carry {h h' : Heap} {X X' : List Addr} (k : Carry h X h' X') : ∀ {vs : List Value} {l : List T}, RTs h X vs l → RTs h' X' vs l
  | _, _, .nil => .nil
  | _, _, .cons a r => .cons (RT.carry k a) (RTs.carry k r)
end

theorem RT.int_inv {h : Heap} {X : List Addr} {v : Value} {i : Int} (r : RT h X v (.int i)) : ∃ t, v = .int i t := by cases r; exact ⟨_, rfl⟩
theorem RT.bool_inv {h : Heap} {X : List Addr} {v : Value} {b : Bool} (r : RT h X v (.bool b)) : v = .bool b := by cases r; rfl
theorem RT.con_inv {h : Heap} {X : List Addr} {v : Value} {c : Value} (r : RT h X v (.con c)) : v = c := by cases r; rfl
theorem RT.tup_inv {h : Heap} {X : List Addr} {v : Value} {l : List T} (r : RT h X v (.tup l)) : ∃ a vs, v = .ref a ∧ h.IsTuple a vs.toArray ∧ a ∉ X ∧ RTs h X vs l := by
  cases r with | tup a b c => exact ⟨_, _, rfl, a, b, c⟩
theorem RT.lst_inv {h : Heap} {X : List Addr} {v : Value} {l : List T} (r : RT h X v (.lst l)) : ∃ a vs, v = .ref a ∧ h.IsList a vs.toArray ∧ a ∉ X ∧ RTs h X vs l := by
  cases r with | lst a b c => exact ⟨_, _, rfl, a, b, c⟩

theorem RTs.length {h : Heap} {X : List Addr} : ∀ {vs : List Value} {l : List T}, RTs h X vs l → vs.length = l.length
  | _, _, .nil => rfl
  | _, _, .cons _ r => by simp only [List.length_cons, r.length]
theorem RTs.get {h : Heap} {X : List Addr} : ∀ {vs : List Value} {l : List T}, RTs h X vs l → ∀ (i : Nat) (x : T), l[i]? = some x → ∃ v, vs[i]? = some v ∧ RT h X v x
  | _, _, .nil, i, x, e => by simp at e
  | _, _, .cons a r, 0, x, e => by simp at e; subst e; exact ⟨_, rfl, a⟩
  | _, _, .cons a r, i + 1, x, e => by
    obtain ⟨v, h1, h2⟩ := r.get i x (by simpa using e)
    exact ⟨v, by simpa using h1, h2⟩
theorem RTs.append {h : Heap} {X : List Addr} : ∀ {vs : List Value} {l : List T}, RTs h X vs l → ∀ {us : List Value} {k : List T}, RTs h X us k → RTs h X (vs ++ us) (l ++ k)
  | _, _, .nil, _, _, q => q
  | _, _, .cons a r, _, _, q => .cons a (r.append q)
theorem RTs.set {h : Heap} {X : List Addr} : ∀ {vs : List Value} {l : List T}, RTs h X vs l → ∀ (i : Nat) {v : Value} {x : T}, RT h X v x → RTs h X (vs.set i v) (l.set i x)
  | _, _, .nil, _, _, _, _ => .nil
  | _, _, .cons _ r, 0, _, _, q => .cons q r
  | _, _, .cons a r, i + 1, _, _, q => .cons a (r.set i q)
theorem RTs.take {h : Heap} {X : List Addr} : ∀ {vs : List Value} {l : List T}, RTs h X vs l → ∀ n, RTs h X (vs.take n) (l.take n)
  | _, _, .nil, n => by simp; exact .nil
  | _, _, .cons _ _, 0 => .nil
  | _, _, .cons a r, n + 1 => .cons a (r.take n)
theorem RTs.drop {h : Heap} {X : List Addr} : ∀ {vs : List Value} {l : List T}, RTs h X vs l → ∀ n, RTs h X (vs.drop n) (l.drop n)
  | _, _, .nil, n => by simp; exact .nil
  | _, _, .cons a r, 0 => .cons a r
  | _, _, .cons a r, n + 1 => by simpa using r.drop n
theorem RTs.reverse {h : Heap} {X : List Addr} : ∀ {vs : List Value} {l : List T}, RTs h X vs l → RTs h X vs.reverse l.reverse
  | _, _, .nil => .nil
  | _, _, .cons a r => by simp only [List.reverse_cons]; exact r.reverse.append (.cons a .nil)
theorem RTs.replicate {h : Heap} {X : List Addr} {v : Value} {x : T} (r : RT h X v x) : ∀ n, RTs h X (List.replicate n v) (List.replicate n x)
  | 0 => .nil
  | n + 1 => .cons r (RTs.replicate r n)
theorem RTs.ints {h : Heap} {X : List Addr} : ∀ {vs : List Value} {ns : List Int}, IntsAre vs ns → RTs h X vs (ns.map .int)
  | _, _, .nil => .nil
  | _, _, .cons _ _ r => .cons (.int _ _) (RTs.ints r)

theorem Carry.refl (h : Heap) (X : List Addr) : Carry h X h X := fun _ _ a b _ => ⟨b, a⟩
theorem Carry.less {h : Heap} {X X' : List Addr} (k : ∀ b, b ∈ X' → b ∈ X) : Carry h X h X' := fun b _ a e _ => ⟨e, fun q => a (k b q)⟩

noncomputable def alive : List (Option (List T)) → List Addr → List Addr
  | some _ :: H, a :: μ => a :: alive H μ
  | none :: H, _ :: μ => alive H μ
  | _, _ => []

theorem alive_sub : ∀ {H : List (Option (List T))} {μ : List Addr}, ∀ b ∈ alive H μ, b ∈ μ
  | [], [], b, h => by simp [alive] at h
  | [], _ :: _, b, h => by simp [alive] at h
  | _ :: _, [], b, h => by cases ‹Option (List T)› <;> simp [alive] at h
  | some _ :: H, a :: μ, b, h => by
    simp only [alive, List.mem_cons] at h
    rcases h with rfl | h
    · exact .head _
    · exact .tail _ (alive_sub b h)
  | none :: H, _ :: μ, b, h => .tail _ (alive_sub b h)

theorem alive_mem : ∀ {H : List (Option (List T))} {μ : List Addr} {i : Nat} {l : List T} {a : Addr}, H[i]? = some (some l) → μ[i]? = some a → a ∈ alive H μ
  | [], _, i, l, a, h, _ => by simp at h
  | _ :: _, [], i, l, a, _, h => by simp at h
  | some _ :: H, b :: μ, 0, l, a, h, e => by simp at e; subst e; exact .head _
  | none :: H, b :: μ, 0, l, a, h, e => by simp at h
  | some _ :: H, b :: μ, i + 1, l, a, h, e => .tail _ (alive_mem (H := H) (μ := μ) (i := i) (l := l) (by simpa using h) (by simpa using e))
  | none :: H, b :: μ, i + 1, l, a, h, e => alive_mem (H := H) (μ := μ) (i := i) (l := l) (by simpa using h) (by simpa using e)

theorem alive_at : ∀ {H : List (Option (List T))} {μ : List Addr} {b : Addr}, b ∈ alive H μ → ∃ (i : Nat) (l : List T), H[i]? = some (some l) ∧ μ[i]? = some b
  | [], [], b, h => by simp [alive] at h
  | [], _ :: _, b, h => by simp [alive] at h
  | _ :: _, [], b, h => by cases ‹Option (List T)› <;> simp [alive] at h
  | some l :: H, a :: μ, b, h => by
    simp only [alive, List.mem_cons] at h
    rcases h with rfl | h
    · exact ⟨0, l, rfl, rfl⟩
    · obtain ⟨i, l', h1, h2⟩ := alive_at h
      exact ⟨i + 1, l', by simpa using h1, by simpa using h2⟩
  | none :: H, _ :: μ, b, h => by
    obtain ⟨i, l', h1, h2⟩ := alive_at (show b ∈ alive H μ from h)
    exact ⟨i + 1, l', by simpa using h1, by simpa using h2⟩

theorem alive_set {H : List (Option (List T))} {μ : List Addr} {i : Nat} {l l' : List T} (h : H[i]? = some (some l)) : alive (H.set i (some l')) μ = alive H μ := by
  induction H generalizing μ i with
  | nil => simp at h
  | cons x H ih =>
    cases i with
    | zero =>
      simp at h; subst h
      cases μ <;> simp [alive]
    | succ i =>
      have q := fun μ => ih (μ := μ) (i := i) (by simpa using h)
      cases μ with
      | nil => cases x <;> simp [alive]
      | cons a μ => cases x <;> simp [alive, q]

theorem alive_kill {H : List (Option (List T))} {μ : List Addr} {i : Nat} {b : Addr} (h : b ∈ alive (H.set i none) μ) : b ∈ alive H μ := by
  induction H generalizing μ i with
  | nil => simpa using h
  | cons x H ih =>
    cases i with
    | zero =>
      cases μ with
      | nil => cases x <;> simp [alive] at h
      | cons a μ =>
        have h : b ∈ alive H μ := h
        cases x with
        | none => exact h
        | some l => exact .tail _ h
    | succ i =>
      cases μ with
      | nil => cases x <;> simp [alive] at h
      | cons a μ =>
        cases x with
        | none => exact ih (i := i) (by simpa [alive] using h)
        | some l =>
          have h : b ∈ a :: alive (H.set i none) μ := h
          rcases List.mem_cons.mp h with rfl | h
          · exact .head _
          · exact .tail _ (ih h)

theorem alive_snoc {l : List T} {a : Addr} : ∀ {H : List (Option (List T))} {μ : List Addr}, μ.length = H.length → alive (H ++ [some l]) (μ ++ [a]) = alive H μ ++ [a]
  | [], [], _ => rfl
  | [], _ :: _, h => by simp at h
  | _ :: _, [], h => by simp at h
  | some _ :: H, b :: μ, h => by simp only [List.cons_append, alive, alive_snoc (H := H) (μ := μ) (by simpa using h)]
  | none :: H, b :: μ, h => by simp only [List.cons_append, alive, alive_snoc (H := H) (μ := μ) (by simpa using h)]

noncomputable def NameAt (env : Env) (h : Heap) (x : Str) (v : Value) : Prop :=
  (env.kindOf x = some .local ∧ ∃ m, h.Ns env.locals m ∧ m x = some v) ∨
  ((env.kindOf x = some .cell ∨ env.kindOf x = some .free) ∧ (x == ("__classdict__" : Str)) = false ∧ ∃ c, env.cells.lookup x = some c ∧ h.IsCell c (some v))

inductive RV (h : Heap) (X μ : List Addr) : Value → V → Prop
  | t {v : Value} {x : T} : RT h X v x → RV h X μ v (.t x)
  | m {a : Addr} {i : Nat} : μ[i]? = some a → RV h X μ (.ref a) (.m i)

inductive RVs (h : Heap) (X μ : List Addr) : List Value → List V → Prop
  | nil : RVs h X μ [] []
  | cons {v : Value} {vs : List Value} {x : V} {l : List V} : RV h X μ v x → RVs h X μ vs l → RVs h X μ (v :: vs) (x :: l)

/-- the addresses that a frame may change -/
noncomputable def ow (env : Env) (oc : List (Str × Addr)) (st : St) (μ : List Addr) : List Addr := env.locals :: (oc.map (·.2) ++ alive st.H μ)

structure Inv (base : Heap) (env : Env) (oc : List (Str × Addr)) (X : List Addr) (st : St) (μ : List Addr) (h : Heap) : Prop where
  kind : env.scope.kind = .function
  occ : ∀ x c, oc.lookup x = some c → env.cells.lookup x = some c
  cinj : ∀ x y c, env.cells.lookup x = some c → env.cells.lookup y = some c → x = y
  bas : ∀ b o, base.get? b = some o → h.get? b = some o ∧ b ∉ ow env oc st μ ∧ b ∉ X
  nd : (env.locals :: (oc.map (·.2) ++ μ)).Nodup
  len : μ.length = st.H.length
  seqs : ∀ a ∈ μ, ∃ o, h.get? a = some o ∧ isSeq o
  xs : ∀ b ∈ X, b ∉ ow env oc st μ ∧ ∃ o, h.get? b = some o
  ns : ∃ m, h.Ns env.locals m
  cells : ∀ x c, (x, c) ∈ oc → ∃ v, h.IsCell c v
  clive : ∀ x c, env.cells.lookup x = some c → ∃ v, h.IsCell c v
  names : ∀ x v, st.r.lookup x = some v → ∃ u, NameAt env h x u ∧ RV h (ow env oc st μ ++ X) μ u v
  muts : ∀ (i : Nat) (l : List T), st.H[i]? = some (some l) → ∃ (a : Addr) (vs : List Value), μ[i]? = some a ∧ h.PlainList a vs.toArray ∧ RTs h (ow env oc st μ ++ X) vs l

structure Step (w : List Addr) (s : Shared) (w' : List Addr) (s' : Shared) : Prop where
  same : ∃ h tk, s' = { s with heap := h, toks := tk }
  keep : ∀ b o, b ∉ w → s.heap.get? b = some o → s'.heap.get? b = some o
  new : ∀ b, b ∈ w' → b ∉ w → s.heap.get? b = none

theorem Step.refl (w : List Addr) (s : Shared) : Step w s w s := ⟨⟨_, _, rfl⟩, fun _ _ _ e => e, fun _ a b => absurd a b⟩
theorem Step.trans {w w' w'' : List Addr} {s s' s'' : Shared} (p : Step w s w' s') (q : Step w' s' w'' s'') : Step w s w'' s'' where
  same := by
    obtain ⟨h, tk, rfl⟩ := p.same
    obtain ⟨h', tk', rfl⟩ := q.same
    exact ⟨_, _, rfl⟩
  keep := fun b o n e => by
    refine q.keep b o (fun hw => ?_) (p.keep b o n e)
    have := p.new b hw n
    rw [this] at e; cases e
  new := fun b hb n => by
    by_cases hw : b ∈ w'
    · exact p.new b hw n
    · have := q.new b hb hw
      cases e : s.heap.get? b with
      | none => rfl
      | some o => rw [p.keep b o n e] at this; cases this

theorem Step.carry {w w' X : List Addr} {s s' : Shared} (p : Step w s w' s') : Carry s.heap (w ++ X) s'.heap (w' ++ X) := fun b o hb e _ => by
  have h1 : b ∉ w := fun q => hb (List.mem_append.mpr (.inl q))
  refine ⟨p.keep b o h1 e, fun q => ?_⟩
  rcases List.mem_append.mp q with q | q
  · have := p.new b q h1
    rw [this] at e; cases e
  · exact hb (List.mem_append.mpr (.inr q))

theorem RV.step {w w' X μ μ' : List Addr} {s s' : Shared} (p : Step w s w' s') (k : μ <+: μ') {v : Value} {x : V} (r : RV s.heap (w ++ X) μ v x) : RV s'.heap (w' ++ X) μ' v x := by
  cases r with
  | t r => exact .t (r.carry p.carry)
  | m e => exact .m (by obtain ⟨t, rfl⟩ := k; rw [List.getElem?_append_left]; exact e; exact (List.getElem?_eq_some_iff.mp e).1)
theorem RVs.step {w w' X μ μ' : List Addr} {s s' : Shared} (p : Step w s w' s') (k : μ <+: μ') : ∀ {vs : List Value} {l : List V}, RVs s.heap (w ++ X) μ vs l → RVs s'.heap (w' ++ X) μ' vs l
  | _, _, .nil => .nil
  | _, _, .cons a r => .cons (a.step p k) (RVs.step p k r)

theorem get_fresh (h : Heap) : h.get? h.objs.size = none := by
  cases e : h.get? h.objs.size with
  | none => rfl
  | some o => exact absurd (Heap.lt_size e) (Nat.lt_irrefl _)

end Mine

/-! X2 -/
namespace Mine

noncomputable def setR (x : Str) (v : V) : List (Str × V) → List (Str × V)
  | [] => [(x, v)]
  | (y, u) :: r => if x == y then (y, v) :: r else (y, u) :: setR x v r

theorem lookup_setR (x : Str) (v : V) (y : Str) : ∀ r : List (Str × V), (setR x v r).lookup y = if y == x then some v else r.lookup y
  | [] => by simp only [setR, List.lookup_cons, List.lookup_nil]; cases y == x <;> rfl
  | (z, u) :: r => by
    unfold setR
    split
    · rename_i e
      have e := beq_iff_eq.mp e; subst e
      simp only [List.lookup_cons]
      cases y == x <;> rfl
    · rename_i e
      simp only [List.lookup_cons, lookup_setR x v y r]
      cases h : y == z with
      | false => rfl
      | true =>
        have h := beq_iff_eq.mp h; subst h
        have : (y == x) = false := by
          cases q : y == x with
          | false => rfl
          | true => exact absurd (by rw [beq_iff_eq.mp q]; exact beq_self_eq_true _) e
        rw [this]; rfl

noncomputable def St.set (st : St) (x : Str) (v : V) : St := ⟨setR x v st.r, st.H⟩

section
variable {base : Heap} {env : Env} {oc : List (Str × Addr)} {X : List Addr} {st : St} {μ : List Addr} {h : Heap}

theorem Inv.loc (_I : Inv base env oc X st μ h) : env.locals ∈ ow env oc st μ := .head _
theorem ow_cell {x : Str} {c : Addr} (hc : (x, c) ∈ oc) : c ∈ ow env oc st μ := .tail _ (List.mem_append.mpr (.inl (List.mem_map.mpr ⟨(x, c), hc, rfl⟩)))
theorem ow_mut {i : Nat} {l : List T} {a : Addr} (h1 : st.H[i]? = some (some l)) (h2 : μ[i]? = some a) : a ∈ ow env oc st μ := .tail _ (List.mem_append.mpr (.inr (alive_mem h1 h2)))

theorem Inv.live (I : Inv base env oc X st μ h) {b : Addr} (hb : b ∈ ow env oc st μ ++ X) : ∃ o, h.get? b = some o := by
  rcases List.mem_append.mp hb with hb | hb
  · rcases List.mem_cons.mp hb with rfl | hb
    · obtain ⟨m, o, _, _, ho, _⟩ := I.ns; exact ⟨o, ho⟩
    · rcases List.mem_append.mp hb with hb | hb
      · obtain ⟨p, hp, rfl⟩ := List.mem_map.mp hb
        obtain ⟨v, o, ho, _⟩ := I.cells p.1 p.2 hp
        exact ⟨o, ho⟩
      · obtain ⟨i, l, h1, h2⟩ := alive_at hb
        obtain ⟨a, vs, e, ⟨n, ho⟩, _⟩ := I.muts i l h1
        rw [h2] at e; cases e
        exact ⟨_, ho⟩
  · exact (I.xs b hb).2
theorem Inv.fresh' (I : Inv base env oc X st μ h) {a : Addr} (ha : h.get? a = none) : a ∉ ow env oc st μ ++ X := fun q => by
  obtain ⟨o, ho⟩ := I.live q
  rw [ha] at ho; cases ho
theorem Inv.fresh (I : Inv base env oc X st μ h) : h.objs.size ∉ ow env oc st μ ++ X := I.fresh' (get_fresh h)

/-- an address that is not owned stays so -/
theorem Step.apart {w w' : List Addr} {s s' : Shared} (p : Step w s w' s') {b : Addr} {o : Obj} (hb : b ∉ w) (e : s.heap.get? b = some o) : b ∉ w' := fun q => by
  have := p.new b q hb
  rw [this] at e; cases e

theorem carry_of {h h' : Heap} {W Y : List Addr} (k : ∀ b o, b ∉ W → h.get? b = some o → h'.get? b = some o) (hW : ∀ b ∈ W, b ∈ Y ∨ ∀ o, h.get? b = some o → ¬ isSeq o) : Carry h Y h' Y := fun b o hb e hs => by
  refine ⟨k b o (fun q => ?_) e, hb⟩
  rcases hW b q with q | q
  · exact hb q
  · exact q o e hs

theorem NameAt.keep {h h' : Heap} {W : List Addr} {x : Str} {v : Value} (n : NameAt env h x v) (k : ∀ b o, b ∉ W → h.get? b = some o → h'.get? b = some o) (hL : env.locals ∉ W)
    (hc : ∀ c v, h.IsCell c v → c ∉ W) : NameAt env h' x v := by
  rcases n with ⟨a, m, hm, e⟩ | ⟨a, cd, c, e, q⟩
  · exact .inl ⟨a, m, hm.at' fun o e => k _ o hL e, e⟩
  · obtain ⟨o, ho, hd⟩ := id q
    exact .inr ⟨a, cd, c, e, o, k c o (hc c _ q) ho, hd⟩

theorem RV.carry {h h' : Heap} {Y Y' : List Addr} (k : Carry h Y h' Y') {v : Value} {x : V} (r : RV h Y μ v x) : RV h' Y' μ v x := by
  cases r with
  | t r => exact .t (r.carry k)
  | m e => exact .m e

/-- neither a tree's thing nor a cell -/
noncomputable def Quiet (o : Obj) : Prop := ¬ isSeq o ∧ ∀ v, o.data ≠ .cell v
theorem Quiet.fields {o : Obj} {fs : Array Value} (h : o.data = .fields fs) : Quiet o := ⟨(fun ⟨xs, n, q⟩ => by rw [h] at q; cases q), (fun v q => by rw [h] at q; cases q)⟩
theorem Quiet.dict {o : Obj} {es : Array DictEntry} {k : Nat} (h : o.data = .dict es k) : Quiet o := ⟨(fun ⟨xs, n, q⟩ => by rw [h] at q; cases q), (fun v q => by rw [h] at q; cases q)⟩

/-- things that are no own thing, no tree, no cell may change; new things may be made -/
theorem Inv.turn {h' : Heap} {W : List Addr} (I : Inv base env oc X st μ h) (k : ∀ b o, b ∉ W → h.get? b = some o → h'.get? b = some o)
    (hW : ∀ b ∈ W, b ∉ ow env oc st μ ∧ b ∉ X ∧ base.get? b = none ∧ ∀ o, h.get? b = some o → Quiet o) : Inv base env oc X st μ h' := by
  have kc : Carry h (ow env oc st μ ++ X) h' (ow env oc st μ ++ X) := carry_of k fun b hb => .inr fun o e hs => ((hW b hb).2.2.2 o e).1 hs
  have ho : ∀ b, b ∈ ow env oc st μ → b ∉ W := fun b hb q => (hW b q).1 hb
  have hcell : ∀ c v, h.IsCell c v → c ∉ W := fun c v ⟨o, e, hd⟩ q => ((hW c q).2.2.2 o e).2 v hd
  exact {
    kind := I.kind
    occ := I.occ
    cinj := I.cinj
    bas := fun b o e => ⟨k b o (fun q => by rw [(hW b q).2.2.1] at e; cases e) (I.bas b o e).1, (I.bas b o e).2⟩
    nd := I.nd
    len := I.len
    seqs := fun a ha => by
      obtain ⟨o, e, hs⟩ := I.seqs a ha
      exact ⟨o, k a o (fun q => ((hW a q).2.2.2 o e).1 hs) e, hs⟩
    xs := fun b hb => ⟨(I.xs b hb).1, let ⟨o, e⟩ := (I.xs b hb).2; ⟨o, k b o (fun q => (hW b q).2.1 hb) e⟩⟩
    ns := by
      obtain ⟨m, hm⟩ := I.ns
      exact ⟨m, hm.at' fun o e => k _ o (ho _ I.loc) e⟩
    cells := fun x c hc => by
      obtain ⟨v, o, e, hd⟩ := I.cells x c hc
      exact ⟨v, o, k c o (ho _ (ow_cell hc)) e, hd⟩
    clive := fun x c hc => by
      obtain ⟨v, q⟩ := I.clive x c hc
      obtain ⟨o, e, hd⟩ := id q
      exact ⟨v, o, k c o (hcell c v q) e, hd⟩
    names := fun x v e => by
      obtain ⟨u, n, r⟩ := I.names x v e
      exact ⟨u, n.keep k (ho _ I.loc) hcell, r.carry kc⟩
    muts := fun i l e => by
      obtain ⟨a, vs, h1, ⟨n, h2⟩, h3⟩ := I.muts i l e
      exact ⟨a, vs, h1, ⟨n, k _ _ (ho _ (ow_mut e h1)) h2⟩, h3.carry kc⟩ }
theorem Inv.grow {h' : Heap} (I : Inv base env oc X st μ h) (k : ∀ b o, h.get? b = some o → h'.get? b = some o) : Inv base env oc X st μ h' :=
  I.turn (W := []) (fun b o _ e => k b o e) (fun _ hb => nomatch hb)

theorem cell_ne_ns {h : Heap} {L c : Addr} {m : Str → Option Value} {v : Option Value} (a : h.Ns L m) (b : h.IsCell c v) : c ≠ L := by
  rintro rfl
  obtain ⟨o, _, _, ho, hd, _⟩ := a
  obtain ⟨o', ho', hd'⟩ := b
  rw [ho] at ho'; cases ho'
  rw [hd] at hd'; cases hd'

/-- a local name is stored -/
theorem Inv.setL {h' : Heap} {m : Str → Option Value} {x : Str} {u : Value} {v : V} (I : Inv base env oc X st μ h) (hn : h.Ns env.locals m) (hx : env.kindOf x = some .local)
    (hn' : h'.Ns env.locals (fun y => if y = x then some u else m y)) (hs : Heap.SameBut env.locals h h') (r : RV h (ow env oc st μ ++ X) μ u v) : Inv base env oc X (st.set x v) μ h' := by
  have k : ∀ b o, b ∉ [env.locals] → h.get? b = some o → h'.get? b = some o := fun b o hb e => (hs.2 b (fun q => hb (by rw [q]; exact .head _))).trans e
  have kc : Carry h (ow env oc st μ ++ X) h' (ow env oc st μ ++ X) := carry_of k fun b hb => .inl (by rw [List.mem_singleton.mp hb]; exact List.mem_append.mpr (.inl I.loc))
  have nel : ∀ b, b ∉ ow env oc st μ → b ∉ [env.locals] := fun b hb q => hb (by rw [List.mem_singleton.mp q]; exact I.loc)
  have hcl : ∀ c v, h.IsCell c v → c ∉ [env.locals] := fun c v q e => cell_ne_ns hn q (List.mem_singleton.mp e)
  exact {
    kind := I.kind
    occ := I.occ
    cinj := I.cinj
    bas := fun b o e => ⟨k b o (nel b (I.bas b o e).2.1) (I.bas b o e).1, (I.bas b o e).2⟩
    nd := I.nd
    len := I.len
    seqs := fun a ha => by
      obtain ⟨o, e, hs⟩ := I.seqs a ha
      exact ⟨o, k a o (fun q => (List.nodup_cons.mp I.nd).1 (List.mem_singleton.mp q ▸ List.mem_append.mpr (.inr ha))) e, hs⟩
    xs := fun b hb => ⟨(I.xs b hb).1, let ⟨o, e⟩ := (I.xs b hb).2; ⟨o, k b o (nel b (I.xs b hb).1) e⟩⟩
    ns := ⟨_, hn'⟩
    cells := fun x c hc => by
      obtain ⟨v, q⟩ := I.cells x c hc
      obtain ⟨o, e, hd⟩ := id q
      exact ⟨v, o, k c o (hcl c v q) e, hd⟩
    clive := fun x c hc => by
      obtain ⟨v, q⟩ := I.clive x c hc
      obtain ⟨o, e, hd⟩ := id q
      exact ⟨v, o, k c o (hcl c v q) e, hd⟩
    names := fun y w e => by
      rw [show (st.set x v).r = setR x v st.r from rfl, lookup_setR] at e
      split at e
      · rename_i q
        have q := beq_iff_eq.mp q; subst q
        cases e
        exact ⟨u, .inl ⟨hx, _, hn', by simp⟩, r.carry kc⟩
      · rename_i q
        have q : y ≠ x := fun e => q (by rw [e]; exact beq_self_eq_true _)
        obtain ⟨u', n, r'⟩ := I.names y w e
        refine ⟨u', ?_, r'.carry kc⟩
        rcases n with ⟨a, m', hm, e⟩ | ⟨a, cd, c, e, qc⟩
        · have : m' = m := by
            funext z
            obtain ⟨o, es, ep, ho, hd, _, hf⟩ := hm
            obtain ⟨o', es', ep', ho', hd', _, hf'⟩ := hn
            rw [ho] at ho'; cases ho'
            rw [hd] at hd'; cases hd'
            rw [← hf, ← hf']
          subst this
          exact .inl ⟨a, _, hn', by simp only [if_neg q]; exact e⟩
        · obtain ⟨o, ho, hd⟩ := id qc
          exact .inr ⟨a, cd, c, e, o, k c o (hcl c _ qc) ho, hd⟩
    muts := fun i l e => by
      obtain ⟨a, vs, h1, ⟨n, h2⟩, h3⟩ := I.muts i l e
      refine ⟨a, vs, h1, ⟨n, k _ _ (fun q => ?_) h2⟩, h3.carry kc⟩
      have q := List.mem_singleton.mp q
      have hnd := (List.nodup_cons.mp I.nd).1
      exact hnd (q ▸ List.mem_append.mpr (.inr (List.mem_of_getElem? h1))) }

/-- an own cell is stored -/
theorem Inv.setC {h' : Heap} {c : Addr} {x : Str} {u : Value} {v : V} (I : Inv base env oc X st μ h) (hc : oc.lookup x = some c) (hx : env.kindOf x = some .cell) (hd : (x == ("__classdict__" : Str)) = false)
    (hn' : h'.IsCell c (some u)) (hs : Heap.SameBut c h h') (r : RV h (ow env oc st μ ++ X) μ u v) : Inv base env oc X (st.set x v) μ h' := by
  have hm : (x, c) ∈ oc := mem_of_lookup hc
  have hin : c ∈ ow env oc st μ := ow_cell hm
  obtain ⟨v₀, hq⟩ := I.cells x c hm
  have k : ∀ b o, b ∉ [c] → h.get? b = some o → h'.get? b = some o := fun b o hb e => (hs.2 b (fun q => hb (by rw [q]; exact .head _))).trans e
  have kc : Carry h (ow env oc st μ ++ X) h' (ow env oc st μ ++ X) := carry_of k fun b hb => .inl (by rw [List.mem_singleton.mp hb]; exact List.mem_append.mpr (.inl hin))
  have nel : ∀ b, b ∉ ow env oc st μ → b ∉ [c] := fun b hb q => hb (by rw [List.mem_singleton.mp q]; exact hin)
  obtain ⟨m, hns⟩ := id I.ns
  have hLc : env.locals ∉ [c] := fun q => cell_ne_ns hns hq (List.mem_singleton.mp q).symm
  exact {
    kind := I.kind
    occ := I.occ
    cinj := I.cinj
    bas := fun b o e => ⟨k b o (nel b (I.bas b o e).2.1) (I.bas b o e).1, (I.bas b o e).2⟩
    nd := I.nd
    len := I.len
    seqs := fun a ha => by
      obtain ⟨o, e, hs⟩ := I.seqs a ha
      refine ⟨o, k a o (fun q => ?_) e, hs⟩
      have q := List.mem_singleton.mp q; subst q
      obtain ⟨o', ho', hd'⟩ := hq
      rw [e] at ho'; cases ho'
      obtain ⟨xs, n, q'⟩ := ‹isSeq o›
      rw [q'] at hd'; cases hd'
    xs := fun b hb => ⟨(I.xs b hb).1, let ⟨o, e⟩ := (I.xs b hb).2; ⟨o, k b o (nel b (I.xs b hb).1) e⟩⟩
    ns := ⟨m, hns.at' fun o e => k _ o hLc e⟩
    cells := fun y d hy => by
      by_cases q : d = c
      · subst q; exact ⟨_, hn'⟩
      · obtain ⟨v, o, e, hd⟩ := I.cells y d hy
        exact ⟨v, o, k d o (fun e => q (List.mem_singleton.mp e)) e, hd⟩
    clive := fun y d hy => by
      by_cases q : d = c
      · subst q; exact ⟨_, hn'⟩
      · obtain ⟨v, o, e, hd⟩ := I.clive y d hy
        exact ⟨v, o, k d o (fun e => q (List.mem_singleton.mp e)) e, hd⟩
    names := fun y w e => by
      rw [show (st.set x v).r = setR x v st.r from rfl, lookup_setR] at e
      split at e
      · rename_i q
        have q := beq_iff_eq.mp q; subst q
        cases e
        exact ⟨u, .inr ⟨.inl hx, hd, c, I.occ _ _ hc, hn'⟩, r.carry kc⟩
      · rename_i q
        have q : y ≠ x := fun e => q (by rw [e]; exact beq_self_eq_true _)
        obtain ⟨u', n, r'⟩ := I.names y w e
        refine ⟨u', ?_, r'.carry kc⟩
        rcases n with ⟨a, m', hm, e⟩ | ⟨a, cd, d, e, qc⟩
        · exact .inl ⟨a, m', hm.at' fun o e => k _ o hLc e, e⟩
        · obtain ⟨o, ho, hd⟩ := id qc
          refine .inr ⟨a, cd, d, e, o, k d o (fun p => ?_) ho, hd⟩
          have p := List.mem_singleton.mp p; subst p
          exact q (I.cinj _ _ _ e (I.occ _ _ hc))
    muts := fun i l e => by
      obtain ⟨a, vs, h1, ⟨n, h2⟩, h3⟩ := I.muts i l e
      refine ⟨a, vs, h1, ⟨n, k _ _ (fun q => ?_) h2⟩, h3.carry kc⟩
      have q := List.mem_singleton.mp q; subst q
      obtain ⟨o, ho, hdc⟩ := hq
      rw [h2] at ho; cases ho; cases hdc }

theorem prefix_get {μ μ' : List Addr} (k : μ <+: μ') {i : Nat} {a : Addr} (e : μ[i]? = some a) : μ'[i]? = some a := by
  obtain ⟨t, rfl⟩ := k
  rw [List.getElem?_append_left]
  · exact e
  · exact (List.getElem?_eq_some_iff.mp e).1

/-- a new own list -/
theorem Inv.made {h' : Heap} {a : Addr} {vs : List Value} {l : List T} (I : Inv base env oc X st μ h) (k : ∀ b o, h.get? b = some o → h'.get? b = some o) (ha : h.get? a = none)
    (hp : h'.PlainList a vs.toArray) (r : RTs h (ow env oc st μ ++ X) vs l) : Inv base env oc X ⟨st.r, st.H ++ [some l]⟩ (μ ++ [a]) h' := by
  have hf := I.fresh' ha
  have hw : ∀ b, b ∈ ow env oc ⟨st.r, st.H ++ [some l]⟩ (μ ++ [a]) ↔ b ∈ ow env oc st μ ∨ b = a := fun b => by
    simp only [ow, alive_snoc I.len, List.mem_cons, List.mem_append, List.not_mem_nil, or_false, or_assoc]
  have kc : Carry h (ow env oc st μ ++ X) h' (ow env oc ⟨st.r, st.H ++ [some l]⟩ (μ ++ [a]) ++ X) := fun b o hb e _ => by
    refine ⟨k b o e, fun q => ?_⟩
    rcases List.mem_append.mp q with q | q
    · rcases (hw b).mp q with q | rfl
      · exact hb (List.mem_append.mpr (.inl q))
      · rw [ha] at e; cases e
    · exact hb (List.mem_append.mpr (.inr q))
  have nb : ∀ b o, h.get? b = some o → b ∉ ow env oc st μ → b ∉ ow env oc ⟨st.r, st.H ++ [some l]⟩ (μ ++ [a]) := fun b o e hb q => by
    rcases (hw b).mp q with q | rfl
    · exact hb q
    · rw [ha] at e; cases e
  exact {
    kind := I.kind
    occ := I.occ
    cinj := I.cinj
    bas := fun b o e => ⟨k b o (I.bas b o e).1, nb b o (I.bas b o e).1 (I.bas b o e).2.1, (I.bas b o e).2.2⟩
    nd := by
      have e : (env.locals :: (oc.map (·.2) ++ (μ ++ [a]))) = (env.locals :: (oc.map (·.2) ++ μ)) ++ [a] := by simp
      rw [e]
      refine List.nodup_append.mpr ⟨I.nd, by simp, fun b hb c hc => ?_⟩
      rw [List.mem_singleton.mp hc]
      rintro rfl
      rcases List.mem_cons.mp hb with rfl | hb
      · exact hf (List.mem_append.mpr (.inl I.loc))
      · rcases List.mem_append.mp hb with hb | hb
        · exact hf (List.mem_append.mpr (.inl (.tail _ (List.mem_append.mpr (.inl hb)))))
        · obtain ⟨o, e, _⟩ := I.seqs _ hb
          rw [ha] at e; cases e
    len := by simp [I.len]
    seqs := fun b hb => by
      rcases List.mem_append.mp hb with hb | hb
      · obtain ⟨o, e, hs⟩ := I.seqs b hb
        exact ⟨o, k b o e, hs⟩
      · rw [List.mem_singleton.mp hb]
        obtain ⟨n, e⟩ := hp
        exact ⟨_, e, _, _, rfl⟩
    xs := fun b hb => by
      obtain ⟨h1, o, e⟩ := I.xs b hb
      exact ⟨nb b o e h1, o, k b o e⟩
    ns := by
      obtain ⟨m, hm⟩ := I.ns
      exact ⟨m, hm.at' fun o e => k _ o e⟩
    cells := fun x c hc => by
      obtain ⟨v, o, e, hd⟩ := I.cells x c hc
      exact ⟨v, o, k c o e, hd⟩
    clive := fun x c hc => by
      obtain ⟨v, o, e, hd⟩ := I.clive x c hc
      exact ⟨v, o, k c o e, hd⟩
    names := fun x v e => by
      obtain ⟨u, n, r⟩ := I.names x v e
      refine ⟨u, n.keep (W := []) (fun b o _ e => k b o e) (fun q => nomatch q) (fun _ _ _ q => nomatch q), ?_⟩
      cases r with
      | t r => exact .t (r.carry kc)
      | m q => exact .m (prefix_get ⟨[a], rfl⟩ q)
    muts := fun i l' e => by
      by_cases hi : i < st.H.length
      · rw [show (⟨st.r, st.H ++ [some l]⟩ : St).H = st.H ++ [some l] from rfl, List.getElem?_append_left hi] at e
        obtain ⟨b, us, h1, ⟨n, h2⟩, h3⟩ := I.muts i l' e
        exact ⟨b, us, prefix_get ⟨[a], rfl⟩ h1, ⟨n, k _ _ h2⟩, h3.carry kc⟩
      · rw [show (⟨st.r, st.H ++ [some l]⟩ : St).H = st.H ++ [some l] from rfl, List.getElem?_append_right (by omega)] at e
        cases hj : i - st.H.length with
        | zero =>
          rw [hj] at e; simp at e; subst e
          exact ⟨a, vs, by rw [List.getElem?_append_right (by rw [I.len]; omega), I.len, hj]; rfl, hp, r.carry kc⟩
        | succ j => rw [hj] at e; simp at e }

/-- an own list is given away -/
theorem Inv.kill {i : Nat} {l : List T} (I : Inv base env oc X st μ h) (_hl : st.H[i]? = some (some l)) : Inv base env oc X ⟨st.r, st.H.set i none⟩ μ h := by
  have hw : ∀ b, b ∈ ow env oc ⟨st.r, st.H.set i none⟩ μ → b ∈ ow env oc st μ := fun b hb => by
    rcases List.mem_cons.mp hb with rfl | hb
    · exact I.loc
    · rcases List.mem_append.mp hb with hb | hb
      · exact .tail _ (List.mem_append.mpr (.inl hb))
      · exact .tail _ (List.mem_append.mpr (.inr (alive_kill hb)))
  have kc : Carry h (ow env oc st μ ++ X) h (ow env oc ⟨st.r, st.H.set i none⟩ μ ++ X) := Carry.less fun b hb => by
    rcases List.mem_append.mp hb with hb | hb
    · exact List.mem_append.mpr (.inl (hw b hb))
    · exact List.mem_append.mpr (.inr hb)
  exact {
    kind := I.kind
    occ := I.occ
    cinj := I.cinj
    bas := fun b o e => ⟨(I.bas b o e).1, fun q => (I.bas b o e).2.1 (hw b q), (I.bas b o e).2.2⟩
    nd := I.nd
    len := by simp [I.len]
    seqs := I.seqs
    xs := fun b hb => ⟨fun q => (I.xs b hb).1 (hw b q), (I.xs b hb).2⟩
    ns := I.ns
    cells := I.cells
    clive := I.clive
    names := fun x v e => by
      obtain ⟨u, n, r⟩ := I.names x v e
      exact ⟨u, n, r.carry kc⟩
    muts := fun j l' e => by
      replace e : (st.H.set i none)[j]? = some (some l') := e
      rw [List.getElem?_set] at e
      split at e
      · split at e <;> simp at e
      · obtain ⟨a, vs, h1, h2, h3⟩ := I.muts j l' e
        exact ⟨a, vs, h1, h2, h3.carry kc⟩ }

/-- an own list is changed -/
theorem Inv.setM {h' : Heap} {i : Nat} {l l' : List T} {a : Addr} {vs : List Value} (I : Inv base env oc X st μ h) (hl : st.H[i]? = some (some l)) (ha : μ[i]? = some a)
    (hs : Heap.SameBut a h h') (hp : h'.PlainList a vs.toArray) (r : RTs h (ow env oc st μ ++ X) vs l') : Inv base env oc X ⟨st.r, st.H.set i (some l')⟩ μ h' := by
  have hw : ow env oc ⟨st.r, st.H.set i (some l')⟩ μ = ow env oc st μ := by simp only [ow, alive_set hl]
  have hin : a ∈ ow env oc st μ := ow_mut hl ha
  obtain ⟨a', vs₀, ha', ⟨n₀, hp₀⟩, _⟩ := I.muts i l hl
  rw [ha] at ha'; cases ha'
  have k : ∀ b o, b ∉ [a] → h.get? b = some o → h'.get? b = some o := fun b o hb e => (hs.2 b (fun q => hb (by rw [q]; exact .head _))).trans e
  have kc : Carry h (ow env oc st μ ++ X) h' (ow env oc st μ ++ X) := carry_of k fun b hb => .inl (by rw [List.mem_singleton.mp hb]; exact List.mem_append.mpr (.inl hin))
  have nel : ∀ b, b ∉ ow env oc st μ → b ∉ [a] := fun b hb q => hb (by rw [List.mem_singleton.mp q]; exact hin)
  have hcl : ∀ c v, h.IsCell c v → c ∉ [a] := fun c v ⟨o, e, hd⟩ q => by
    rw [List.mem_singleton.mp q, hp₀] at e; cases e; cases hd
  obtain ⟨m, hns⟩ := id I.ns
  have hLa : env.locals ∉ [a] := fun q => by
    obtain ⟨o, _, _, ho, hd, _⟩ := hns
    rw [List.mem_singleton.mp q, hp₀] at ho; cases ho; cases hd
  exact {
    kind := I.kind
    occ := I.occ
    cinj := I.cinj
    bas := fun b o e => by rw [hw]; exact ⟨k b o (nel b (I.bas b o e).2.1) (I.bas b o e).1, (I.bas b o e).2⟩
    nd := I.nd
    len := by simp [I.len]
    seqs := fun b hb => by
      by_cases q : b = a
      · subst q
        obtain ⟨n, e⟩ := hp
        exact ⟨_, e, _, _, rfl⟩
      · obtain ⟨o, e, hs⟩ := I.seqs b hb
        exact ⟨o, k b o (fun p => q (List.mem_singleton.mp p)) e, hs⟩
    xs := fun b hb => by rw [hw]; exact ⟨(I.xs b hb).1, let ⟨o, e⟩ := (I.xs b hb).2; ⟨o, k b o (nel b (I.xs b hb).1) e⟩⟩
    ns := ⟨m, hns.at' fun o e => k _ o hLa e⟩
    cells := fun x c hc => by
      obtain ⟨v, q⟩ := I.cells x c hc
      obtain ⟨o, e, hd⟩ := id q
      exact ⟨v, o, k c o (hcl c v q) e, hd⟩
    clive := fun x c hc => by
      obtain ⟨v, q⟩ := I.clive x c hc
      obtain ⟨o, e, hd⟩ := id q
      exact ⟨v, o, k c o (hcl c v q) e, hd⟩
    names := fun x v e => by
      rw [hw]
      obtain ⟨u, n, r⟩ := I.names x v e
      exact ⟨u, n.keep k hLa hcl, r.carry kc⟩
    muts := fun j l'' e => by
      rw [hw]
      replace e : (st.H.set i (some l'))[j]? = some (some l'') := e
      rw [List.getElem?_set] at e
      split at e
      · rename_i q; subst q
        split at e
        · simp at e; subst e
          exact ⟨a, vs, ha, hp, r.carry kc⟩
        · cases e
      · rename_i hij
        obtain ⟨b, us, h1, ⟨n, h2⟩, h3⟩ := I.muts j l'' e
        refine ⟨b, us, h1, ⟨n, k _ _ (fun q => ?_) h2⟩, h3.carry kc⟩
        have q := List.mem_singleton.mp q; subst q
        have hnd : μ.Nodup := (List.nodup_append.mp (List.nodup_cons.mp I.nd).2).2.1
        have li : i < μ.length := (List.getElem?_eq_some_iff.mp ha).1
        have lj : j < μ.length := (List.getElem?_eq_some_iff.mp h1).1
        exact hij ((List.getElem?_inj li hnd).mp (ha.trans h1.symm)) }

/-- fewer names -/
noncomputable def Le (st' st : St) : Prop := st'.H = st.H ∧ ∀ x v, st'.r.lookup x = some v → st.r.lookup x = some v
theorem Le.refl (st : St) : Le st st := ⟨rfl, fun _ _ e => e⟩
theorem Inv.less {st' : St} (I : Inv base env oc X st μ h) (q : Le st' st) : Inv base env oc X st' μ h := by
  obtain ⟨r, H⟩ := st
  obtain ⟨r', H'⟩ := st'
  obtain ⟨e, q⟩ := q
  have e : H' = H := e
  subst e
  exact { I with names := fun x v e => I.names x v (q x v e) }
end
end Mine

/-! X3 -/
namespace Mine

structure Wd where
  prog : Program
  w : World
  base : Heap

noncomputable def Bud (n : Nat) (A : Around) : Prop := A.handled = none ∧ A.depth + n ≤ 900 ∧ A.units + 4 * n ≤ 9000
theorem Bud.less {n m : Nat} {A : Around} (b : Bud n A) (h : m ≤ n) : Bud m A := ⟨b.1, by have := b.2.1; omega, by have := b.2.2; omega⟩

structure After (G : Wd) (env : Env) (oc : List (Str × Addr)) (X : List Addr) (st : St) (μ : List Addr) (s : Shared) (st' : St) (μ' : List Addr) (s' : Shared) : Prop where
  inv : Inv G.base env oc X st' μ' s'.heap
  pre : μ <+: μ'
  step : Step (ow env oc st μ) s (ow env oc st' μ') s'

section
variable {G : Wd} {env : Env} {oc : List (Str × Addr)} {X : List Addr} {st st' st'' : St} {μ μ' μ'' : List Addr} {s s' s'' : Shared}
theorem After.refl (I : Inv G.base env oc X st μ s.heap) : After G env oc X st μ s st μ s := ⟨I, List.prefix_refl _, Step.refl _ _⟩
theorem After.trans (a : After G env oc X st μ s st' μ' s') (b : After G env oc X st' μ' s' st'' μ'' s'') : After G env oc X st μ s st'' μ'' s'' := ⟨b.inv, a.pre.trans b.pre, a.step.trans b.step⟩
theorem After.tok (I : Inv G.base env oc X st μ s.heap) (t : Nat) : After G env oc X st μ s st μ { s with toks := t } := ⟨I, List.prefix_refl _, ⟨⟨_, _, rfl⟩, fun _ _ _ e => e, fun _ a b => absurd a b⟩⟩
theorem After.grow (I : Inv G.base env oc X st μ s.heap) {h' : Heap} (t : Nat) (k : ∀ b o, s.heap.get? b = some o → h'.get? b = some o) : After G env oc X st μ s st μ { s with heap := h', toks := t } :=
  ⟨I.grow k, List.prefix_refl _, ⟨⟨_, _, rfl⟩, fun b o _ e => k b o e, fun _ a b => absurd a b⟩⟩
end

noncomputable def AT {α β : Type} (G : Wd) (n : Nat) (env : Env) (oc : List (Str × Addr)) (t : Sem α) (R : Heap → List Addr → List Addr → α → β → Prop) (Φ : β → St → Prop) (st : St) : Prop :=
  ∀ (A : Around) (X μ : List Addr) (s : Shared), Bud n A → Inv G.base env oc X st μ s.heap →
    wpAny (model G.prog G.w) A t (fun a s' => ∃ b st' μ', Φ b st' ∧ R s'.heap (ow env oc st' μ' ++ X) μ' a b ∧ After G env oc X st μ s st' μ' s') (fun _ _ => False) s

noncomputable def REq {α : Type} (_ : Heap) (_ _ : List Addr) (a b : α) : Prop := a = b
inductive RF (h : Heap) (Y : List Addr) (_μ : List Addr) : Flow → F → Prop
  | next : RF h Y _μ .next .next
  | brk : RF h Y _μ .brk .brk
  | cont : RF h Y _μ .cont .cont
  | ret {v : Value} {x : T} : RT h Y v x → RF h Y _μ (.ret v) (.ret x)

noncomputable abbrev AE (G : Wd) (n : Nat) (env : Env) (oc : List (Str × Addr)) (e : Expr) (Φ : V → St → Prop) (st : St) : Prop := AT G n env oc (eval e env) RV Φ st
noncomputable abbrev AB (G : Wd) (n : Nat) (env : Env) (oc : List (Str × Addr)) (e : Expr) (Φ : Bool → St → Prop) (st : St) : Prop := AT G n env oc (isTrue e env (eval e env)) REq Φ st
noncomputable abbrev AL (G : Wd) (n : Nat) (env : Env) (oc : List (Str × Addr)) (pos : Pos) (es : List Expr) (Φ : List V → St → Prop) (st : St) : Prop := AT G n env oc (spliced (backTo pos (starEach es env))) RVs Φ st
noncomputable abbrev AS (G : Wd) (n : Nat) (env : Env) (oc : List (Str × Addr)) (x : Stmt) (Φ : F → St → Prop) (st : St) : Prop := AT G n env oc (exec x env) RF Φ st
noncomputable abbrev AX (G : Wd) (n : Nat) (env : Env) (oc : List (Str × Addr)) (xs : List Stmt) (Φ : F → St → Prop) (st : St) : Prop := AT G n env oc (execs xs env) RF Φ st

section
variable {G : Wd} {n : Nat} {env : Env} {oc : List (Str × Addr)} {st : St}

theorem AT.mono {α β : Type} {t : Sem α} {R : Heap → List Addr → List Addr → α → β → Prop} {Φ Ψ : β → St → Prop} (h : AT G n env oc t R Φ st) (k : ∀ b st', Φ b st' → Ψ b st') : AT G n env oc t R Ψ st :=
  fun A X μ s hB hI => wpAny_mono (h A X μ s hB hI) (fun _ _ ⟨b, st', μ', p, q, r⟩ => ⟨b, st', μ', k _ _ p, q, r⟩) fun _ _ x => x
theorem AT.weak {α β : Type} {t : Sem α} {R : Heap → List Addr → List Addr → α → β → Prop} {Φ : β → St → Prop} {st' : St} (h : AT G n env oc t R Φ st') (q : Le st' st) : AT G n env oc t R Φ st :=
  fun A X μ s hB hI => by
    refine wpAny_mono (h A X μ s hB (hI.less q)) (fun _ _ ⟨b, st'', μ', p, r, a⟩ => ⟨b, st'', μ', p, r, ⟨a.inv, a.pre, ?_⟩⟩) fun _ _ x => x
    have e : ow env oc st μ = ow env oc st' μ := by simp only [ow, q.1]
    rw [e]; exact a.step

theorem AE_int {i : Int} {k : Nat} {pos : Pos} {Φ : V → St → Prop} (h : Φ (.t (.int i)) st) : AE G n env oc (.Constant (.int i) k pos) Φ st :=
  fun _ _ _ _ _ hI => wpAny_Constant_int ⟨_, _, _, h, .t (.int _ _), After.tok hI _⟩
theorem AE_bool {b : Bool} {k : Nat} {pos : Pos} {Φ : V → St → Prop} (h : Φ (.t (.bool b)) st) : AE G n env oc (.Constant (.bool b) k pos) Φ st :=
  fun _ _ _ _ _ hI => wpAny_Constant_bool ⟨_, _, _, h, .t (.bool _), After.refl hI⟩
theorem AE_name {x : Str} {pos : Pos} {Φ : V → St → Prop} {v : V} (hx : st.r.lookup x = some v) (h : Φ v st) (hd : (x == ("__debug__" : Str)) = false := by decide) : AE G n env oc (.Name x pos) Φ st :=
  fun A X μ s _ hI => by
    obtain ⟨u, nm, r⟩ := hI.names x v hx
    refine wpAny_Name ?_ hd
    rcases nm with ⟨a, m, hm, e⟩ | ⟨a, cd, c, e, q⟩
    · exact wpAny_loadName_local hI.kind a hm e ⟨_, _, _, h, r, After.refl hI⟩
    · rcases a with a | a
      · exact wpAny_loadName_cell hI.kind a e q ⟨_, _, _, h, r, After.refl hI⟩
      · exact wpAny_loadName_free hI.kind a e q ⟨_, _, _, h, r, After.refl hI⟩ cd

/-- a name of the module's top, or of the built-ins -/
noncomputable def GlobIs (G : Wd) (x : Str) (v : Value) : Prop :=
  (∃ mg, G.base.Ns mainGlobals mg ∧ mg x = some v) ∨ ((∃ mg, G.base.Ns mainGlobals mg ∧ mg x = none) ∧ ∃ mb, G.base.Ns builtinsNs mb ∧ mb x = some v)
noncomputable def Plain (G : Wd) (v : Value) (x : T) : Prop := ∀ (h : Heap) (X : List Addr), (∀ b o, G.base.get? b = some o → h.get? b = some o ∧ b ∉ X) → RT h X v x
theorem Plain.con (v : Value) : Plain G v (.con v) := fun _ _ _ => .con v

theorem AE_glob {x : Str} {pos : Pos} {Φ : V → St → Prop} {v : Value} {y : T} (hk : env.kindOf x = some .globalImplicit) (hg : env.globals = mainGlobals ∧ env.builtins = builtinsNs) (hx : GlobIs G x v) (hp : Plain G v y) (h : Φ (.t y) st)
    (hd : (x == ("__debug__" : Str)) = false := by decide) : AE G n env oc (.Name x pos) Φ st :=
  fun A X μ s _ hI => by
    have kb : ∀ b o, G.base.get? b = some o → s.heap.get? b = some o := fun b o e => (hI.bas b o e).1
    have fin : RT s.heap (ow env oc st μ ++ X) v y := hp _ _ fun b o e => ⟨kb b o e, fun q => (List.mem_append.mp q).elim (hI.bas b o e).2.1 (hI.bas b o e).2.2⟩
    refine Name_function_global hI.kind hk ?_ hd
    rcases hx with ⟨mg, a, b⟩ | ⟨⟨mg, a, b⟩, mb, c, d⟩
    · exact loadGlobal_global (by rw [hg.1]; exact a.keeps kb) b ⟨_, _, _, h, .t fin, After.refl hI⟩
    · exact loadGlobal_builtin (by rw [hg.1]; exact a.keeps kb) b (by rw [hg.2]; exact c.keeps kb) d ⟨_, _, _, h, .t fin, After.refl hI⟩

/-- ints under an operator -/
inductive BinI : Operator → Int → Int → Int → Prop
  | add {a b : Int} : BinI .Add a b (a + b)
  | sub {a b : Int} : BinI .Sub a b (a - b)
  | mul {a b : Int} : a.natAbs < 2 ^ 64 → BinI .Mult a b (a * b)
  | mod {a b : Int} : 0 < b → BinI .Mod a b (a % b)
  | fdiv {a b : Int} : 0 < b → b < 2 ^ 64 → BinI .FloorDiv a b (a / b)
  | shl {a b : Int} : 0 ≤ b → b ≤ 1000000 → a.natAbs < 2 ^ 64 → BinI .LShift a b (a * 2 ^ b.toNat)
  | shr {a b : Int} : 0 ≤ b → BinI .RShift a b (a / 2 ^ b.toNat)
  | band {a b : Int} : BinI .BitAnd a b (Builtin.bitAnd a b)
  | bor {a b : Int} : BinI .BitOr a b (Builtin.bitOr a b)
  | pow {a b : Int} : 0 ≤ b → b ≤ 1000000 → a.natAbs < 2 ^ 64 → BinI .Pow a b (a ^ b.toNat)

theorem intBits_le {a : Int} (h : a.natAbs < 2 ^ 64) : Builtin.Int.intBits a ≤ 64 := by
  unfold Builtin.Int.intBits
  split
  · omega
  · have : a.natAbs.log2 < 64 := (Nat.log2_lt (by simp_all)).mpr h
    omega

theorem mulOk {a b : Int} (h : a.natAbs < 2 ^ 64) : IntMulOk a b := by
  unfold IntMulOk
  have h1 : decide (Builtin.Int.intBits a > shortFactorBits) = false := decide_eq_false (Nat.not_lt.mpr (intBits_le h))
  rw [h1, Bool.false_and, Bool.false_and]
  exact Bool.false_ne_true

theorem noPylong {a b : Int} (h0 : 0 < b) (h : b < 2 ^ 64) : Builtin.divisionGoesByPylong a b = false := by
  unfold Builtin.divisionGoesByPylong
  have e : (b == 0) = false := by simp; omega
  have : b.natAbs.log2 < 64 := (Nat.log2_lt (by omega)).mpr (by omega)
  simp only [e, Bool.false_eq_true, if_false, Bool.and_eq_false_iff, decide_eq_false_iff_not]
  left; omega

theorem binI_wp {A : Around} {E : Value → Shared → Prop} {s : Shared} {op : Operator} {a b c : Int} {t u : Tok} {Q : Value → Shared → Prop} (h : BinI op a b c) (hQ : ∀ t' n, Q (.int c t') { s with toks := n }) :
    wpAny (model G.prog G.w) A (binaryOp op (.int a t) (.int b u)) Q E s := by
  cases h with
  | add => exact add_int (hQ _ _)
  | sub => exact sub_int (hQ _ _)
  | mul h => exact PyProof.Rows.mul_int (hQ _ _) (mulOk h)
  | mod h => exact mod_int (by omega) (by rw [Int.fmod_eq_emod_of_nonneg _ (by omega)]; exact hQ _ _)
  | fdiv h h' => exact floordiv_int (by omega) (by rw [Int.fdiv_eq_ediv_of_nonneg _ (by omega)]; exact hQ _ _) (.inl (noPylong h h'))
  | shl h h' h'' => exact lshift_int_small h h' h'' (hQ _ _)
  | shr h => exact PyProof.Rows.rshift_int h (by rw [Int.fdiv_eq_ediv_of_nonneg _ (Int.le_of_lt (Int.pow_pos (by decide)))]; exact hQ _ _)
  | band => exact and_int (hQ _ _)
  | bor => exact or_int (hQ _ _)
  | pow h h' h'' => exact pow_int_small h h' h'' (hQ _ _)

theorem AE_bin {op : Operator} {a b : Expr} {pos : Pos} {Φ : V → St → Prop}
    (h : AE G n env oc a (fun x st₁ => AE G n env oc b (fun y st₂ => ∃ i j k, x = .t (.int i) ∧ y = .t (.int j) ∧ BinI op i j k ∧ Φ (.t (.int k)) st₂) st₁) st) : AE G n env oc (.BinOp a op b pos) Φ st :=
  fun A X μ s hB hI => by
    refine wpAny_BinOp (wpAny_mono (h A X μ s hB hI) (fun v s₁ ⟨x, st₁, μ₁, h₁, r₁, a₁⟩ => ?_) fun _ _ x => x)
    refine wpAny_mono (h₁ A X μ₁ s₁ hB a₁.inv) (fun u s₂ ⟨y, st₂, μ₂, h₂, r₂, a₂⟩ => ?_) fun _ _ x => x
    obtain ⟨i, j, k, rfl, rfl, hb, hq⟩ := h₂
    cases r₁ with | t r₁ =>
    cases r₂ with | t r₂ =>
    obtain ⟨t, rfl⟩ := r₁.int_inv
    obtain ⟨u, rfl⟩ := r₂.int_inv
    exact binI_wp hb fun t' n' => ⟨_, _, _, hq, .t (.int _ _), (a₁.trans a₂).trans (After.tok a₂.inv _)⟩

theorem AE_neg {x : Expr} {pos : Pos} {Φ : V → St → Prop} (h : AE G n env oc x (fun v st₁ => ∃ i, v = .t (.int i) ∧ Φ (.t (.int (-i))) st₁) st) : AE G n env oc (.UnaryOp .USub x pos) Φ st :=
  fun A X μ s hB hI => by
    refine wpAny_UnaryOp (wpAny_mono (h A X μ s hB hI) (fun v s₁ ⟨x, st₁, μ₁, h₁, r₁, a₁⟩ => ?_) fun _ _ x => x)
    obtain ⟨i, rfl, hq⟩ := h₁
    cases r₁ with | t r₁ =>
    obtain ⟨t, rfl⟩ := r₁.int_inv
    exact neg_int ⟨_, _, _, hq, .t (.int _ _), a₁.trans (After.tok a₁.inv _)⟩

theorem AE_not {x : Expr} {pos : Pos} {Φ : V → St → Prop} (h : AE G n env oc x (fun v st₁ => ∃ b, v = .t (.bool b) ∧ Φ (.t (.bool (!b))) st₁) st) : AE G n env oc (.UnaryOp .Not x pos) Φ st :=
  fun A X μ s hB hI => by
    refine wpAny_UnaryOp (wpAny_mono (h A X μ s hB hI) (fun v s₁ ⟨x, st₁, μ₁, h₁, r₁, a₁⟩ => ?_) fun _ _ x => x)
    obtain ⟨i, rfl, hq⟩ := h₁
    cases r₁ with | t r₁ =>
    rw [r₁.bool_inv]
    exact not_of (wpAny_truthy_bool ⟨_, _, _, hq, .t (.bool _), a₁⟩)

theorem AE_and {x y : Expr} {pos : Pos} {Φ : V → St → Prop} (h : AE G n env oc x (fun v st₁ => ∃ b, v = .t (.bool b) ∧ if b = true then AE G n env oc y Φ st₁ else Φ (.t (.bool false)) st₁) st) : AE G n env oc (.BoolOp .And [x, y] pos) Φ st :=
  fun A X μ s hB hI => by
    refine wpAny_And2 (wpAny_mono (h A X μ s hB hI) (fun v s₁ ⟨x, st₁, μ₁, h₁, r₁, a₁⟩ => ?_) fun _ _ x => x)
    obtain ⟨b, rfl, hq⟩ := h₁
    cases r₁ with | t r₁ =>
    rw [r₁.bool_inv]
    refine wpAny_truthy_bool ?_
    cases b with
    | true =>
      simp only [if_true] at hq ⊢
      exact wpAny_mono (hq A X μ₁ s₁ hB a₁.inv) (fun u s₂ ⟨y, st₂, μ₂, h₂, r₂, a₂⟩ => ⟨_, _, _, h₂, r₂, a₁.trans a₂⟩) fun _ _ x => x
    | false =>
      simp only [Bool.false_eq_true, if_false] at hq ⊢
      exact ⟨_, _, _, hq, .t (.bool _), a₁⟩

theorem AE_ifexp {t x y : Expr} {pos : Pos} {Φ : V → St → Prop} (h : AB G n env oc t (fun b st₁ => if b = true then AE G n env oc x Φ st₁ else AE G n env oc y Φ st₁) st) : AE G n env oc (.IfExp t x y pos) Φ st :=
  fun A X μ s hB hI => by
    refine wpAny_IfExp (wpAny_mono (h A X μ s hB hI) (fun v s₁ ⟨b, st₁, μ₁, h₁, r₁, a₁⟩ => ?_) fun _ _ x => x)
    have r₁ : v = b := r₁
    subst r₁
    cases v with
    | true =>
      simp only [if_true] at h₁ ⊢
      exact wpAny_mono (h₁ A X μ₁ s₁ hB a₁.inv) (fun u s₂ ⟨y, st₂, μ₂, h₂, r₂, a₂⟩ => ⟨_, _, _, h₂, r₂, a₁.trans a₂⟩) fun _ _ x => x
    | false =>
      simp only [Bool.false_eq_true, if_false] at h₁ ⊢
      exact wpAny_mono (h₁ A X μ₁ s₁ hB a₁.inv) (fun u s₂ ⟨y, st₂, μ₂, h₂, r₂, a₂⟩ => ⟨_, _, _, h₂, r₂, a₁.trans a₂⟩) fun _ _ x => x

/-! comparing -/
mutual
noncomputable def toPy : T → PyData
  | .none => .none
  | .bool b => .bool b
  | .int i => .int i
  | .tup l => .tuple (toPys l)
  | .lst l => .list (toPys l)
  | .con _ => .none
noncomputable def toPys : List T → List PyData
  | [] => []
  | x :: l => toPy x :: toPys l
end
mutual
noncomputable def noCon : T → Bool
  | .con _ => false
  | .tup l => noCons l
  | .lst l => noCons l
  | _ => true
noncomputable def noCons : List T → Bool
  | [] => true
  | x :: l => noCon x && noCons l
end
mutual
theorem RT.reads {h : Heap} {X : List Addr} : ∀ {v : Value} {x : T}, RT h X v x → noCon x = true → ∃ as, Reads h v (toPy x) as
  | _, _, .none, _ => ⟨_, .none⟩
  | _, _, .bool b, _ => ⟨_, .bool b⟩
  | _, _, .int i t, _ => ⟨_, .int i t⟩
  | _, _, .con _, q => by simp [noCon] at q
  | _, _, .tup ⟨o, ho, hc, n, hd⟩ _ r, q => by
    obtain ⟨as, p⟩ := RTs.reads r (by simpa [noCon] using q)
    exact ⟨_, by rw [toPy]; exact reads_tuple_at ho hc hd (by simpa using p)⟩
  | _, _, .lst ⟨o, ho, hc, n, hd⟩ _ r, q => by
    obtain ⟨as, p⟩ := RTs.reads r (by simpa [noCon] using q)
    exact ⟨_, by rw [toPy]; exact reads_list_at ho hc hd (by simpa using p)⟩
theorem RTs.reads {h : Heap} {X : List Addr} : ∀ {vs : List Value} {l : List T}, RTs h X vs l → noCons l = true → ∃ as, ReadsAll h vs (toPys l) as
  | _, _, .nil, _ => ⟨_, .nil⟩
  | _, _, .cons a r, q => by
    simp only [noCons, Bool.and_eq_true] at q
    obtain ⟨as, p⟩ := RT.reads a q.1
    obtain ⟨bs, p'⟩ := RTs.reads r q.2
    exact ⟨_, by rw [toPys]; exact .cons p p'⟩
end

noncomputable def dataOk (x : T) : Bool := noCon x && SeqAt.shaped (toPy x)

inductive CmpT : CmpOp → T → T → Bool → Prop
  | lt {i j : Int} : CmpT .Lt (.int i) (.int j) (decide (i < j))
  | gt {i j : Int} : CmpT .Gt (.int i) (.int j) (decide (j < i))
  | eq {i j : Int} : CmpT .Eq (.int i) (.int j) (i == j)
  | ne {i j : Int} : CmpT .NotEq (.int i) (.int j) (i != j)
  | le {i j : Int} : CmpT .LtE (.int i) (.int j) (decide (i ≤ j))
  | eqT {x y : T} : dataOk x = true → dataOk y = true → CmpT .Eq x y ((toPy x).eqv (toPy y))
  | neT {x y : T} : dataOk x = true → dataOk y = true → CmpT .NotEq x y (!(toPy x).eqv (toPy y))

theorem cmp_wp {A : Around} {E : Value → Shared → Prop} {s : Shared} {X : List Addr} {op : CmpOp} {x y : T} {b : Bool} {u v : Value} {Q : Value → Shared → Prop} (hB : Bud n A) (h : CmpT op x y b) (ru : RT s.heap X u x) (rv : RT s.heap X v y)
    (hQ : Q (.bool b) s) : wpAny (model G.prog G.w) A (compareOp op u v) Q E s := by
  have room : A.units + 64 < cLine := by have := hB.2.2; show A.units + 64 < 9900; omega
  cases h with
  | lt => obtain ⟨t, rfl⟩ := ru.int_inv; obtain ⟨t', rfl⟩ := rv.int_inv; exact lt_int hQ
  | gt => obtain ⟨t, rfl⟩ := ru.int_inv; obtain ⟨t', rfl⟩ := rv.int_inv; exact gt_int hQ
  | eq => obtain ⟨t, rfl⟩ := ru.int_inv; obtain ⟨t', rfl⟩ := rv.int_inv; exact eq_int hQ
  | ne => obtain ⟨t, rfl⟩ := ru.int_inv; obtain ⟨t', rfl⟩ := rv.int_inv; exact ne_int hQ
  | le => obtain ⟨t, rfl⟩ := ru.int_inv; obtain ⟨t', rfl⟩ := rv.int_inv; exact le_int hQ
  | eqT hx hy =>
    simp only [dataOk, Bool.and_eq_true] at hx hy
    obtain ⟨as, p⟩ := ru.reads hx.1
    obtain ⟨bs, q⟩ := rv.reads hy.1
    exact eq_dataH p q hx.2 hy.2 room hQ
  | neT hx hy =>
    simp only [dataOk, Bool.and_eq_true] at hx hy
    obtain ⟨as, p⟩ := ru.reads hx.1
    obtain ⟨bs, q⟩ := rv.reads hy.1
    exact ne_dataH p q hx.2 hy.2 room hQ

theorem AE_cmp {op : CmpOp} {l r : Expr} {pos : Pos} {Φ : V → St → Prop} (hm : behindInMarks op r = false)
    (h : AE G n env oc l (fun x st₁ => AE G n env oc r (fun y st₂ => ∃ i j b, x = .t i ∧ y = .t j ∧ CmpT op i j b ∧ Φ (.t (.bool b)) st₂) st₁) st) : AE G n env oc (.Compare l [op] [r] pos) Φ st :=
  fun A X μ s hB hI => by
    refine wpAny_Compare1 (wpAny_mono (h A X μ s hB hI) (fun v s₁ ⟨x, st₁, μ₁, h₁, r₁, a₁⟩ => ?_) fun _ _ x => x) hm
    refine wpAny_mono (h₁ A X μ₁ s₁ hB a₁.inv) (fun u s₂ ⟨y, st₂, μ₂, h₂, r₂, a₂⟩ => ?_) fun _ _ x => x
    obtain ⟨i, j, k, rfl, rfl, hb, hq⟩ := h₂
    have r₁ := r₁.step a₂.step a₂.pre
    cases r₁ with | t r₁ =>
    cases r₂ with | t r₂ =>
    exact cmp_wp hB hb r₁ r₂ ⟨_, _, _, hq, .t (.bool _), a₁.trans a₂⟩

theorem AB_cmp {op : CmpOp} {l r : Expr} {pos : Pos} {Φ : Bool → St → Prop} (hm : behindInMarks op r = false)
    (h : AE G n env oc l (fun x st₁ => AE G n env oc r (fun y st₂ => ∃ i j b, x = .t i ∧ y = .t j ∧ CmpT op i j b ∧ Φ b st₂) st₁) st) : AB G n env oc (.Compare l [op] [r] pos) Φ st :=
  fun A X μ s hB hI => by
    refine wpAny_isTrue_Compare1 (wpAny_mono (h A X μ s hB hI) (fun v s₁ ⟨x, st₁, μ₁, h₁, r₁, a₁⟩ => ?_) fun _ _ x => x) hm
    refine wpAny_mono (h₁ A X μ₁ s₁ hB a₁.inv) (fun u s₂ ⟨y, st₂, μ₂, h₂, r₂, a₂⟩ => ?_) fun _ _ x => x
    obtain ⟨i, j, k, rfl, rfl, hb, hq⟩ := h₂
    have r₁ := r₁.step a₂.step a₂.pre
    cases r₁ with | t r₁ =>
    cases r₂ with | t r₂ =>
    exact cmp_wp hB hb r₁ r₂ (wpAny_truthy_bool ⟨_, _, _, hq, rfl, a₁.trans a₂⟩)

theorem AB_and {x y : Expr} {pos : Pos} {Φ : Bool → St → Prop} (h : AB G n env oc x (fun b st₁ => if b = true then AB G n env oc y Φ st₁ else Φ false st₁) st) : AB G n env oc (.BoolOp .And [x, y] pos) Φ st :=
  fun A X μ s hB hI => by
    refine wpAny_isTrue_BoolOp (wpAny_allTrue_And_cons (wpAny_mono (h A X μ s hB hI) (fun v s₁ ⟨b, st₁, μ₁, h₁, r₁, a₁⟩ => ?_) fun _ _ x => x))
    have r₁ : v = b := r₁
    subst r₁
    cases v with
    | true =>
      simp only [if_true] at h₁ ⊢
      refine wpAny_allTrue_And_cons (wpAny_mono (h₁ A X μ₁ s₁ hB a₁.inv) (fun u s₂ ⟨c, st₂, μ₂, h₂, r₂, a₂⟩ => ?_) fun _ _ x => x)
      have r₂ : u = c := r₂
      subst r₂
      cases u with
      | true => simp only [if_true]; exact wpAny_allTrue_And_nil ⟨_, _, _, h₂, rfl, a₁.trans a₂⟩
      | false => simp only [Bool.false_eq_true, if_false]; exact ⟨_, _, _, h₂, rfl, a₁.trans a₂⟩
    | false =>
      simp only [Bool.false_eq_true, if_false] at h₁ ⊢
      exact ⟨_, _, _, h₁, rfl, a₁⟩

theorem AB_or {x y : Expr} {pos : Pos} {Φ : Bool → St → Prop} (h : AB G n env oc x (fun b st₁ => if b = true then Φ true st₁ else AB G n env oc y Φ st₁) st) : AB G n env oc (.BoolOp .Or [x, y] pos) Φ st :=
  fun A X μ s hB hI => by
    refine wpAny_isTrue_BoolOp (wpAny_allTrue_Or_cons (wpAny_mono (h A X μ s hB hI) (fun v s₁ ⟨b, st₁, μ₁, h₁, r₁, a₁⟩ => ?_) fun _ _ x => x))
    have r₁ : v = b := r₁
    subst r₁
    cases v with
    | false =>
      simp only [Bool.false_eq_true, if_false] at h₁ ⊢
      refine wpAny_allTrue_Or_cons (wpAny_mono (h₁ A X μ₁ s₁ hB a₁.inv) (fun u s₂ ⟨c, st₂, μ₂, h₂, r₂, a₂⟩ => ?_) fun _ _ x => x)
      have r₂ : u = c := r₂
      subst r₂
      cases u with
      | false => simp only [Bool.false_eq_true, if_false]; exact wpAny_allTrue_Or_nil ⟨_, _, _, h₂, rfl, a₁.trans a₂⟩
      | true => simp only [if_true]; exact ⟨_, _, _, h₂, rfl, a₁.trans a₂⟩
    | true =>
      simp only [if_true] at h₁ ⊢
      exact ⟨_, _, _, h₁, rfl, a₁⟩

theorem AB_not {x : Expr} {pos : Pos} {Φ : Bool → St → Prop} (h : AB G n env oc x (fun b st₁ => Φ (!b) st₁) st) : AB G n env oc (.UnaryOp .Not x pos) Φ st :=
  fun A X μ s hB hI => by
    refine wpAny_isTrue_Not (wpAny_mono (h A X μ s hB hI) (fun v s₁ ⟨b, st₁, μ₁, h₁, r₁, a₁⟩ => ?_) fun _ _ x => x)
    have r₁ : v = b := r₁
    subst r₁
    exact ⟨_, _, _, h₁, rfl, a₁⟩

theorem AB_value {e : Expr} {Φ : Bool → St → Prop} (h : AE G n env oc e (fun v st₁ => ∃ b, v = .t (.bool b) ∧ Φ b st₁) st)
    (he : isTrue e env (eval e env) = (do let v ← eval e env; standAt e.pos; holding [v] (truthy v))) : AB G n env oc e Φ st :=
  fun A X μ s hB hI => by
    refine wpAny_isTrue_value (wpAny_mono (h A X μ s hB hI) (fun v s₁ ⟨x, st₁, μ₁, h₁, r₁, a₁⟩ => ?_) fun _ _ x => x) he
    obtain ⟨b, rfl, hq⟩ := h₁
    cases r₁ with | t r₁ =>
    rw [r₁.bool_inv]
    exact wpAny_truthy_bool ⟨_, _, _, hq, rfl, a₁⟩

theorem AL_nil {pos : Pos} {Φ : List V → St → Prop} (h : Φ [] st) : AL G n env oc pos [] Φ st :=
  fun _ _ _ _ _ hI => spliced_none ⟨_, _, _, h, .nil, After.refl hI⟩
theorem AL_cons {pos : Pos} {e : Expr} {es : List Expr} {Φ : List V → St → Prop} (he : starEach (e :: es) env = (false, eval e env) :: starEach es env)
    (h : AE G n env oc e (fun v st₁ => AL G n env oc pos es (fun vs st₂ => Φ (v :: vs) st₂) st₁) st) : AL G n env oc pos (e :: es) Φ st :=
  fun A X μ s hB hI => by
    refine spliced_more (wpAny_mono (h A X μ s hB hI) (fun v s₁ ⟨x, st₁, μ₁, h₁, r₁, a₁⟩ => ?_) fun _ _ x => x) he
    exact wpAny_mono (h₁ A X μ₁ s₁ hB a₁.inv) (fun u s₂ ⟨y, st₂, μ₂, h₂, r₂, a₂⟩ => ⟨_, _, _, h₂, .cons (r₁.step a₂.step a₂.pre) r₂, a₁.trans a₂⟩) fun _ _ x => x
end
end Mine

/-! X4 -/
namespace Mine

/-- an own list is given away as a tree -/
noncomputable def freeze1 : V → St → Option (T × St)
  | .t x, st => some (x, st)
  | .m i, st => match st.H[i]? with
    | some (some l) => some (.lst l, ⟨st.r, st.H.set i none⟩)
    | _ => none
noncomputable def freezes : List V → St → Option (List T × St)
  | [], st => some ([], st)
  | v :: vs, st => match freeze1 v st with
    | some (x, st') => match freezes vs st' with
      | some (xs, st'') => some (x :: xs, st'')
      | none => none
    | none => none
noncomputable def seqOf : V → St → Option (List T)
  | .t (.tup l), _ => some l
  | .t (.lst l), _ => some l
  | .m i, st => match st.H[i]? with
    | some (some l) => some l
    | _ => none
  | _, _ => none
noncomputable def look1 : V → St → Option T
  | .t x, _ => some x
  | .m i, st => match st.H[i]? with
    | some (some l) => some (.lst l)
    | _ => none
noncomputable def looks : List V → St → Option (List T)
  | [], _ => some []
  | v :: vs, st => match look1 v st, looks vs st with
    | some x, some xs => some (x :: xs)
    | _, _ => none

section
variable {base : Heap} {env : Env} {oc : List (Str × Addr)} {X : List Addr} {st st' : St} {μ : List Addr} {h : Heap}

theorem freeze1_ok {v : Value} {x : V} {y : T} (I : Inv base env oc X st μ h) (r : RV h (ow env oc st μ ++ X) μ v x) (e : freeze1 x st = some (y, st')) :
    Inv base env oc X st' μ h ∧ RT h (ow env oc st' μ ++ X) v y ∧ ∀ b ∈ ow env oc st' μ, b ∈ ow env oc st μ := by
  cases r with
  | t r => simp only [freeze1, Option.some.injEq, Prod.mk.injEq] at e; obtain ⟨rfl, rfl⟩ := e; exact ⟨I, r, fun _ h => h⟩
  | @m a i hi =>
    simp only [freeze1] at e
    split at e
    · rename_i l hl
      simp only [Option.some.injEq, Prod.mk.injEq] at e
      obtain ⟨rfl, rfl⟩ := e
      obtain ⟨a', vs, h1, ⟨k, h2⟩, h3⟩ := I.muts _ _ hl
      rw [hi] at h1; cases h1
      have sub : ∀ b ∈ ow env oc ⟨st.r, st.H.set i none⟩ μ, b ∈ ow env oc st μ := fun b hb => by
        rcases List.mem_cons.mp hb with rfl | hb
        · exact .head _
        · rcases List.mem_append.mp hb with hb | hb
          · exact .tail _ (List.mem_append.mpr (.inl hb))
          · exact .tail _ (List.mem_append.mpr (.inr (alive_kill hb)))
      have I' := I.kill hl
      refine ⟨I', .lst (Heap.PlainList.isList ⟨k, h2⟩) (fun q => ?_) (h3.carry (Carry.less fun b hb => ?_)), sub⟩
      · rcases List.mem_append.mp q with q | q
        · rcases List.mem_cons.mp q with rfl | q
          · exact (List.nodup_cons.mp I.nd).1 (List.mem_append.mpr (.inr (List.mem_of_getElem? hi)))
          · rcases List.mem_append.mp q with q | q
            · exact (List.nodup_append.mp (List.nodup_cons.mp I.nd).2).2.2 a q a (List.mem_of_getElem? hi) rfl
            · obtain ⟨j, l', e1, e2⟩ := alive_at q
              rw [List.getElem?_set] at e1
              split at e1
              · split at e1 <;> simp at e1
              · rename_i hij
                have hnd : μ.Nodup := (List.nodup_append.mp (List.nodup_cons.mp I.nd).2).2.1
                exact hij ((List.getElem?_inj (List.getElem?_eq_some_iff.mp hi).1 hnd).mp (hi.trans e2.symm))
        · exact (I.xs _ q).1 (ow_mut hl hi)
      · rcases List.mem_append.mp hb with hb | hb
        · exact List.mem_append.mpr (.inl (sub b hb))
        · exact List.mem_append.mpr (.inr hb)
    · cases e

theorem RV.less {Y Y' : List Addr} {v : Value} {x : V} (k : ∀ b, b ∈ Y' → b ∈ Y) (r : RV h Y μ v x) : RV h Y' μ v x := r.carry (Carry.less k)
theorem RVs.less {Y Y' : List Addr} (k : ∀ b, b ∈ Y' → b ∈ Y) : ∀ {vs : List Value} {l : List V}, RVs h Y μ vs l → RVs h Y' μ vs l
  | _, _, .nil => .nil
  | _, _, .cons a r => .cons (a.less k) (RVs.less k r)
theorem sub_app {a b X : List Addr} (k : ∀ x ∈ a, x ∈ b) : ∀ x, x ∈ a ++ X → x ∈ b ++ X := fun x hx => by
  rcases List.mem_append.mp hx with hx | hx
  · exact List.mem_append.mpr (.inl (k x hx))
  · exact List.mem_append.mpr (.inr hx)

theorem freezes_ok {vs : List Value} {l : List V} : ∀ {ys : List T} {st : St}, Inv base env oc X st μ h → RVs h (ow env oc st μ ++ X) μ vs l → freezes l st = some (ys, st') →
    Inv base env oc X st' μ h ∧ RTs h (ow env oc st' μ ++ X) vs ys ∧ ∀ b ∈ ow env oc st' μ, b ∈ ow env oc st μ := by
  induction l generalizing vs with
  | nil =>
    intro ys st I r e
    cases r
    simp only [freezes, Option.some.injEq, Prod.mk.injEq] at e
    obtain ⟨rfl, rfl⟩ := e
    exact ⟨I, .nil, fun _ h => h⟩
  | cons x l ih =>
    intro ys st I r e
    cases r with
    | cons a r =>
      simp only [freezes] at e
      split at e
      · rename_i x st₁ h1
        split at e
        · rename_i xs st₂ h2
          simp only [Option.some.injEq, Prod.mk.injEq] at e
          obtain ⟨rfl, rfl⟩ := e
          obtain ⟨I1, r1, k1⟩ := freeze1_ok I a h1
          obtain ⟨I2, r2, k2⟩ := ih I1 (r.less (sub_app k1)) h2
          exact ⟨I2, .cons (r1.carry (Carry.less (sub_app k2))) r2, fun b hb => k1 b (k2 b hb)⟩
        · cases e
      · cases e

theorem seqOf_ok {v : Value} {x : V} {l : List T} (I : Inv base env oc X st μ h) (r : RV h (ow env oc st μ ++ X) μ v x) (e : seqOf x st = some l) :
    ∃ a vs, v = .ref a ∧ (h.IsList a vs.toArray ∨ h.IsTuple a vs.toArray) ∧ RTs h (ow env oc st μ ++ X) vs l := by
  cases r with
  | t r =>
    cases r <;> simp only [seqOf, Option.some.injEq, reduceCtorEq] at e
    · subst e; exact ⟨_, _, rfl, .inr ‹_›, ‹_›⟩
    · subst e; exact ⟨_, _, rfl, .inl ‹_›, ‹_›⟩
  | m hi =>
    simp only [seqOf] at e
    split at e
    · rename_i l' hl
      cases e
      obtain ⟨a', vs, h1, h2, h3⟩ := I.muts _ _ hl
      rw [hi] at h1; cases h1
      exact ⟨_, _, rfl, .inl h2.isList, h3⟩
    · cases e

theorem look1_ok {v : Value} {x : V} {y : T} (I : Inv base env oc X st μ h) (r : RV h (ow env oc st μ ++ X) μ v x) (e : look1 x st = some y) : RT h [] v y := by
  have lc : Carry h (ow env oc st μ ++ X) h [] := Carry.less fun _ hb => nomatch hb
  cases r with
  | t r => simp only [look1, Option.some.injEq] at e; subst e; exact r.carry lc
  | m hi =>
    simp only [look1] at e
    split at e
    · rename_i l hl
      cases e
      obtain ⟨a', vs, h1, h2, h3⟩ := I.muts _ _ hl
      rw [hi] at h1; cases h1
      exact .lst h2.isList (fun q => nomatch q) (h3.carry lc)
    · cases e
theorem looks_ok (I : Inv base env oc X st μ h) : ∀ {vs : List Value} {l : List V} {ys : List T}, RVs h (ow env oc st μ ++ X) μ vs l → looks l st = some ys → RTs h [] vs ys
  | _, _, _, .nil, e => by simp only [looks, Option.some.injEq] at e; subst e; exact .nil
  | _, _, _, .cons a r, e => by
    simp only [looks] at e
    split at e
    · rename_i h1 h2
      cases e
      exact .cons (look1_ok I a h1) (looks_ok I r h2)
    · cases e
end

section
variable {G : Wd} {n : Nat} {env : Env} {oc : List (Str × Addr)} {X : List Addr} {st st' : St} {μ : List Addr} {s : Shared}
theorem After.sub (I : Inv G.base env oc X st' μ s.heap) (k : ∀ b ∈ ow env oc st' μ, b ∈ ow env oc st μ) : After G env oc X st μ s st' μ s :=
  ⟨I, List.prefix_refl _, ⟨⟨_, _, rfl⟩, fun _ _ _ e => e, fun b a c => absurd (k b a) c⟩⟩

theorem push_keep (h : Heap) (o : Obj) : ∀ b x, h.get? b = some x → (h.push o).get? b = some x := fun _ _ e => Heap.get?_push_of_some _ e

theorem isTuple_new (h : Heap) (vs : List Value) : (h.push { cls := .type "tuple", data := .seq vs.toArray }).IsTuple h.objs.size vs.toArray := ⟨_, Heap.get?_push_size _ rfl, rfl, _, rfl⟩
theorem isList_new (h : Heap) (vs : Array Value) : (h.push { cls := .type "list", data := .seq vs }).PlainList h.objs.size vs := ⟨_, Heap.get?_push_size _ rfl⟩

theorem AE_tuple {es : List Expr} {k : Nat} {pos : Pos} {Φ : V → St → Prop}
    (h : AL G n env oc pos es (fun vs st₁ => ∃ ys st₂, freezes vs st₁ = some (ys, st₂) ∧ ys.length ≤ 1000 ∧ Φ (.t (.tup ys)) st₂) st) : AE G n env oc (.Tuple es k pos) Φ st :=
  fun A X μ s hB hI => by
    refine Tuple_ (wpAny_mono (h A X μ s hB hI) (fun vs s₁ ⟨x, st₁, μ₁, h₁, r₁, a₁⟩ => ?_) fun _ _ x => x)
    obtain ⟨ys, st₂, hf, hl, hq⟩ := h₁
    obtain ⟨I2, r2, k2⟩ := freezes_ok a₁.inv r₁ hf
    have hlen := r2.length
    have a2 := After.sub (G := G) I2 k2
    refine wpAny_newTuple ⟨_, _, _, hq, .t (.tup (isTuple_new _ _) (I2.fresh) (r2.carry fun b o hb e _ => ⟨push_keep _ _ b o e, hb⟩)), (a₁.trans a2).trans (After.grow I2 _ (push_keep _ _))⟩ (by rw [hlen]; exact Nat.le_trans hl (by decide))

theorem AE_index {v i : Expr} {pos : Pos} {Φ : V → St → Prop} (hs : ∀ o k, subscripted i false o k = operate [o, k] (getItem o k))
    (h : AE G n env oc v (fun x st₁ => AE G n env oc i (fun y st₂ => ∃ l k z, seqOf x st₂ = some l ∧ y = .t (.int k) ∧ 0 ≤ k ∧ k < 1000000 ∧ l[k.toNat]? = some z ∧ Φ (.t z) st₂) st₁) st) : AE G n env oc (.Subscript v i pos) Φ st :=
  fun A X μ s hB hI => by
    refine Subscript_ (wpAny_mono (h A X μ s hB hI) (fun v s₁ ⟨x, st₁, μ₁, h₁, r₁, a₁⟩ => ?_) fun _ _ x => x)
    refine wpAny_mono (h₁ A X μ₁ s₁ hB a₁.inv) (fun u s₂ ⟨y, st₂, μ₂, h₂, r₂, a₂⟩ => ?_) fun _ _ x => x
    obtain ⟨l, k, z, hl, rfl, h0, hk, hz, hq⟩ := h₂
    obtain ⟨a, vs, rfl, hL, rl⟩ := seqOf_ok a₂.inv (r₁.step a₂.step a₂.pre) hl
    cases r₂ with | t r₂ =>
    obtain ⟨t, rfl⟩ := r₂.int_inv
    obtain ⟨u, hu, ru⟩ := rl.get _ _ hz
    have fin : ∃ b st' μ', Φ b st' ∧ RV s₂.heap (ow env oc st' μ' ++ X) μ' u b ∧ After G env oc X st μ s st' μ' s₂ := ⟨_, _, _, hq, .t ru, a₁.trans a₂⟩
    rcases hL with hL | hL
    · exact tail_any hL.typeIs slot_list_getitem.lookup (wpAny_getItem_list hL h0 (by omega) (by simpa using hu) fin) (hs _ _)
    · have hlt : k.toNat < vs.length := (List.getElem?_eq_some_iff.mp hu).1
      exact tail_any (T := "tuple") (show IsTup s₂.heap a vs.toArray from hL).typeIs slot_tuple_getitem.lookup (getItem_tuple hL (by omega) (by omega) (seqIndex_of h0 (by simp; omega)) (by simpa using hu) fin) (hs _ _)

theorem newFields_wp {A : Around} {E : Value → Shared → Prop} {M : Model} {a b c : Value} {Q : Value → Shared → Prop} (h : Q (.ref s.heap.objs.size) { s with heap := s.heap.push { cls := .type "slice", data := .fields #[a, b, c] } }) :
    wpAny M A (newFields "slice" [a, b, c]) Q E s := wpAny_newObj_type h

theorem eval_Slice (lower upper step : Option Expr) (pos : Pos) : eval (.Slice lower upper step pos) env = (do
    let l ← valueOrNone (evalOpt lower env)
    let u ← holding [l] (valueOrNone (evalOpt upper env))
    let s ← holding [l, u] (valueOrNone (evalOpt step env))
    newFields "slice" [l, u, s]) := by kernel_rfl

theorem slice_wp {A : Around} {μ' : List Addr} {st₁ : St} {s₁ : Shared} {a : Addr} {vs : List Value} {l l' : List T} {lo hi sp : Option Int} {vl vu vp : Value} {value slice : Expr} {Φ : V → St → Prop} {ops : List Value} {ext : Heap}
    (hL : s₁.heap.IsList a vs.toArray) (rl : RTs s₁.heap (ow env oc st₁ μ' ++ X) vs l) (hlen : l.length ≤ 1000000) (hsl : ext = s₁.heap.push { cls := .type "slice", data := .fields #[vl, vu, vp] })
    (pl : IsPart vl lo) (pu : IsPart vu hi) (pp : IsPart vp sp) (h0 : sp ≠ some 0) (hp : (slicePick vs.toArray lo hi sp).toList.length ≤ l.length → RTs s₁.heap (ow env oc st₁ μ' ++ X) (slicePick vs.toArray lo hi sp).toList l')
    (hs : subscripted slice false (.ref a) (.ref s₁.heap.objs.size) = operate ops (getItem (.ref a) (.ref s₁.heap.objs.size)))
    (ha : After G env oc X st μ s st₁ μ' s₁) (hq : Φ (.t (.lst l')) st₁) :
    wpAny (model G.prog G.w) A (subscriptTail value slice (.ref a) (.ref s₁.heap.objs.size)) (fun a s' => ∃ b st' μ', Φ b st' ∧ RV s'.heap (ow env oc st' μ' ++ X) μ' a b ∧ After G env oc X st μ s st' μ' s') (fun _ _ => False) { s₁ with heap := ext } := by
  subst hsl
  have hv := rl.length
  have hsz : vs.toArray.size ≤ sizeLine := by rw [List.size_toArray, hv]; exact Nat.le_trans hlen (by decide)
  have hL' := hL.push { cls := .type "slice", data := .fields #[vl, vu, vp] }
  refine tail_any hL'.typeIs slot_list_getitem.lookup (wpAny_getItem_list_slice hL' (Heap.IsSliceOf.new _ _ _ _) pl pu pp h0 ?_ hsz) hs
  have hp := hp (by have := slicePick_size_le vs.toArray lo hi sp; simp only [Array.length_toList, List.size_toArray] at this ⊢; omega)
  have k : ∀ b o, s₁.heap.get? b = some o → ((s₁.heap.push { cls := .type "slice", data := .fields #[vl, vu, vp] }).push { cls := .type "list", data := .seq (slicePick vs.toArray lo hi sp) }).get? b = some o := fun b o e => push_keep _ _ b o (push_keep _ _ b o e)
  have I' := ha.inv.grow (push_keep s₁.heap { cls := .type "slice", data := .fields #[vl, vu, vp] })
  refine ⟨_, _, _, hq, .t (.lst (vs := (slicePick vs.toArray lo hi sp).toList) ?_ I'.fresh (hp.carry fun b o hb e _ => ⟨k b o e, hb⟩)), ha.trans (After.grow ha.inv _ k)⟩
  exact (isList_new _ _).isList

theorem take_pick (vs : List Value) (k : Int) (h0 : 0 ≤ k) : (slicePick vs.toArray none (some k) none).toList = vs.take k.toNat := by
  obtain ⟨j, rfl⟩ := Int.eq_ofNat_of_zero_le h0
  rw [slicePick_upto']
  simp

theorem AE_slice_upto {v u : Expr} {p pos : Pos} {Φ : V → St → Prop}
    (h : AE G n env oc v (fun x st₁ => AE G n env oc u (fun y st₂ => ∃ l k, seqOf x st₂ = some l ∧ (∀ l', x ≠ .t (.tup l')) ∧ l.length ≤ 1000000 ∧ y = .t (.int k) ∧ 0 ≤ k ∧ Φ (.t (.lst (l.take k.toNat))) st₂) st₁) st) :
    AE G n env oc (.Subscript v (.Slice none (some u) none p) pos) Φ st :=
  fun A X μ s hB hI => by
    refine Subscript_ (wpAny_mono (h A X μ s hB hI) (fun v s₁ ⟨x, st₁, μ₁, h₁, r₁, a₁⟩ => ?_) fun _ _ x => x)
    rw [eval_Slice]
    refine wpAny_bind (wpAny_pure (wpAny_bind (wpAny_holding ?_)))
    refine wpAny_mono (h₁ A X μ₁ s₁ hB a₁.inv) (fun u s₂ ⟨y, st₂, μ₂, h₂, r₂, a₂⟩ => ?_) fun _ _ x => x
    obtain ⟨l, k, hl, hne, hlen, rfl, h0, hq⟩ := h₂
    obtain ⟨a, vs, rfl, hL, rl⟩ := seqOf_ok a₂.inv (r₁.step a₂.step a₂.pre) hl
    cases r₂ with | t r₂ =>
    obtain ⟨t, rfl⟩ := r₂.int_inv
    have hL : s₂.heap.IsList a vs.toArray := by
      rcases hL with hL | hL
      · exact hL
      · exfalso
        obtain ⟨o, ho, hc, _⟩ := hL
        generalize hv : Value.ref a = w at r₁
        cases r₁ with
        | t r₁ => cases r₁ with
          | tup => exact hne _ rfl
          | lst hq' ha' _ =>
            cases hv
            obtain ⟨o', ho', hc', _⟩ := hq'
            have hn : a ∉ ow env oc st₁ μ₁ := fun q => ha' (List.mem_append.mpr (.inl q))
            rw [a₂.step.keep _ _ hn ho'] at ho
            have ho := Option.some.inj ho
            subst ho
            exact absurd (hc'.symm.trans hc) (by simp)
          | con => simp [seqOf] at hl
          | none => simp [seqOf] at hl
          | bool => simp [seqOf] at hl
          | int => simp [seqOf] at hl
        | m hi =>
          cases hv
          simp only [seqOf] at hl
          split at hl
          · rename_i l' hl'
            obtain ⟨a', vs', h1, ⟨k', h2⟩, h3⟩ := a₂.inv.muts _ _ hl'
            rw [prefix_get a₂.pre hi] at h1
            have h1 := Option.some.inj h1
            subst h1
            rw [h2] at ho
            have ho := Option.some.inj ho
            subst ho
            exact absurd hc (by simp)
          · cases hl
    refine wpAny_bind (wpAny_holding (wpAny_pure (newFields_wp ?_)))
    exact slice_wp (l' := l.take k.toNat) hL rl hlen rfl .none (.int k t) .none (by simp) (fun _ => by rw [take_pick _ _ h0]; exact rl.take _) rfl (a₁.trans a₂) hq

theorem AE_slice_all {v : Expr} {p pos : Pos} {Φ : V → St → Prop}
    (h : AE G n env oc v (fun x st₁ => ∃ l, x = .t (.lst l) ∧ l.length ≤ 1000000 ∧ Φ (.t (.lst l)) st₁) st) : AE G n env oc (.Subscript v (.Slice none none none p) pos) Φ st :=
  fun A X μ s hB hI => by
    refine Subscript_ (wpAny_mono (h A X μ s hB hI) (fun v s₁ ⟨x, st₁, μ₁, h₁, r₁, a₁⟩ => ?_) fun _ _ x => x)
    rw [eval_Slice]
    obtain ⟨l, rfl, hlen, hq⟩ := h₁
    cases r₁ with | t r₁ =>
    obtain ⟨a, vs, rfl, hL, _, rl⟩ := r₁.lst_inv
    refine wpAny_bind (wpAny_pure (wpAny_bind (wpAny_holding (wpAny_pure (wpAny_bind (wpAny_holding (wpAny_pure (newFields_wp ?_))))))))
    exact slice_wp (l' := l) hL rl hlen rfl .none .none .none (by simp) (fun _ => by rw [slicePick_all]; exact rl) rfl a₁ hq

theorem AE_slice_rev {v e : Expr} {p pos : Pos} {Φ : V → St → Prop} (hs : ∀ o k : Value, subscripted (.Slice none none (some e) p) false o k = operate [o, k] (getItem o k))
    (h : AE G n env oc v (fun x st₁ => AE G n env oc e (fun y st₂ => ∃ l, seqOf x st₂ = some l ∧ (∃ i, x = .m i) ∧ y = .t (.int (-1)) ∧ l.length ≤ 1000000 ∧ Φ (.t (.lst l.reverse)) st₂) st₁) st) :
    AE G n env oc (.Subscript v (.Slice none none (some e) p) pos) Φ st :=
  fun A X μ s hB hI => by
    refine Subscript_ (wpAny_mono (h A X μ s hB hI) (fun v s₁ ⟨x, st₁, μ₁, h₁, r₁, a₁⟩ => ?_) fun _ _ x => x)
    rw [eval_Slice]
    refine wpAny_bind (wpAny_pure (wpAny_bind (wpAny_holding (wpAny_pure (wpAny_bind (wpAny_holding ?_))))))
    refine wpAny_mono (h₁ A X μ₁ s₁ hB a₁.inv) (fun u s₂ ⟨y, st₂, μ₂, h₂, r₂, a₂⟩ => ?_) fun _ _ x => x
    obtain ⟨l, hl, ⟨i, rfl⟩, rfl, hlen, hq⟩ := h₂
    cases r₁ with | m hi =>
    cases r₂ with | t r₂ =>
    obtain ⟨t, rfl⟩ := r₂.int_inv
    simp only [seqOf] at hl
    split at hl
    · rename_i l' hl'
      cases hl
      obtain ⟨a', vs, h1, h2, rl⟩ := a₂.inv.muts _ _ hl'
      rw [prefix_get a₂.pre hi] at h1; cases h1
      refine newFields_wp ?_
      exact slice_wp (l' := l.reverse) h2.isList rl hlen rfl .none .none (.int (-1) t) (by simp) (fun _ => by rw [krv_pick]; simpa using rl.reverse) (hs _ _) (a₁.trans a₂) hq
    · cases hl
end
end Mine

/-! X5 -/
namespace Mine
section
variable {G : Wd} {n : Nat} {env : Env} {oc : List (Str × Addr)} {X : List Addr} {st st' : St} {μ : List Addr} {s : Shared}

theorem ow_made {l : List T} {a : Addr} (e : μ.length = st.H.length) (b : Addr) : b ∈ ow env oc ⟨st.r, st.H ++ [some l]⟩ (μ ++ [a]) ↔ b ∈ ow env oc st μ ∨ b = a := by
  simp only [ow, alive_snoc e, List.mem_cons, List.mem_append, List.not_mem_nil, or_false, or_assoc]

/-- a new own list is laid -/
theorem After.made (I : Inv G.base env oc X st μ s.heap) {vs : List Value} {l : List T} (r : RTs s.heap (ow env oc st μ ++ X) vs l) (t : Nat) :
    After G env oc X st μ s ⟨st.r, st.H ++ [some l]⟩ (μ ++ [s.heap.objs.size]) { s with heap := s.heap.push { cls := .type "list", data := .seq vs.toArray }, toks := t } :=
  ⟨I.made (push_keep _ _) (get_fresh _) (isList_new _ _) r, ⟨[_], rfl⟩, ⟨_, _, rfl⟩, fun b o _ e => push_keep _ _ b o e, fun b hb hn => by
    rcases (ow_made I.len b).mp hb with hb | rfl
    · exact absurd hb hn
    · exact get_fresh _⟩

theorem get_snoc (μ : List Addr) (a : Addr) {k : Nat} (h : μ.length = k) : (μ ++ [a])[k]? = some a := by
  subst h; simp

theorem AE_list {es : List Expr} {pos : Pos} {Φ : V → St → Prop}
    (h : AL G n env oc pos es (fun vs st₁ => ∃ ys st₂, freezes vs st₁ = some (ys, st₂) ∧ ys.length ≤ 1000 ∧ Φ (.m st₂.H.length) ⟨st₂.r, st₂.H ++ [some ys]⟩) st) : AE G n env oc (.List es pos) Φ st :=
  fun A X μ s hB hI => by
    refine List_ (wpAny_mono (h A X μ s hB hI) (fun vs s₁ ⟨x, st₁, μ₁, h₁, r₁, a₁⟩ => ?_) fun _ _ x => x)
    obtain ⟨ys, st₂, hf, hl, hq⟩ := h₁
    obtain ⟨I2, r2, k2⟩ := freezes_ok a₁.inv r₁ hf
    have hlen := r2.length
    have a2 := After.sub (G := G) I2 k2
    refine wpAny_newObj_type ⟨_, _, _, hq, .m (get_snoc _ _ I2.len), (a₁.trans a2).trans (After.made I2 r2 _)⟩ ?_
    show vs.toArray.size ≤ sizeLine
    rw [List.size_toArray, hlen]; exact Nat.le_trans hl (by decide)

theorem rep_foldl (x : Value) : ∀ k (acc : Array Value), (List.foldl (fun x1 x2 => x1 ++ x2) acc (List.replicate k #[x])) = acc ++ (List.replicate k x).toArray
  | 0, acc => by simp
  | k + 1, acc => by
    rw [List.replicate_succ, List.foldl_cons, rep_foldl x k]
    apply Array.ext'
    simp [List.replicate_succ]

theorem lmul_wp {A : Around} {E : Value → Shared → Prop} {l : Addr} {v : Value} {k : Nat} {x : Int} {u : Tok} {Q : Value → Shared → Prop} (hl : s.heap.get? l = some { cls := .type "list", data := .seq #[v] k }) (h0 : 0 ≤ x) (h1 : x ≤ 1000000)
    (h : Q (.ref s.heap.objs.size) { s with heap := s.heap.push { cls := .type "list", data := .seq (List.replicate x.toNat v).toArray } }) : wpAny (model G.prog G.w) A (binaryOp .Mult (.ref l) (.int x u)) Q E s := by
  have e : (List.foldl (fun x1 x2 => x1 ++ x2) #[] (List.replicate (if (#[v] : Array Value).isEmpty = true then 0 else x.toNat) #[v])) = (List.replicate x.toNat v).toArray := by
    rw [if_neg (by simp)]; rw [rep_foldl]; simp
  refine wpAny_binaryOp_repeat_ref (T := "list") (U := "int") (by decide) ⟨_, hl, rfl⟩ (fun s' => typeIs_int s' x u) noFill_list_mul F.fills_int_mul F.slot_int_rmul repeat_list F.slot_int_index.lookup
    (call_meets F.slot_int_rmul (typeIs_int s x u) F.entry_int_rmul (F.args_int_rmul_2 _ _) (int___rmul___int_list x u l #[v] k) ⟨hl, rfl, ⟨_, hl, rfl⟩, ?_⟩)
  refine call_meets F.slot_list_mul ⟨_, hl, rfl⟩ F.entry_list_mul (F.args_list_mul_2 _ _) (AutoListH.list___mul___list_int_3 l #[v] k x u (by simp [Builtin.List.listFitsIndex]; omega) (by first | omega | (simp only [show (#[v] : Array Value).size = 1 from rfl]; omega) | (intro q; simp [show (#[v] : Array Value).size = 1 from rfl] at q; omega)) (by rw [show (#[v] : Array Value).size = 1 from rfl]; simp [Builtin.List.listTooLong, sizeLine]; omega)) ⟨hl, ?_⟩
  rw [e]; exact h

theorem AE_lmul {a b : Expr} {pos : Pos} {Φ : V → St → Prop}
    (h : AE G n env oc a (fun x st₁ => AE G n env oc b (fun y st₂ => ∃ i z k, x = .m i ∧ st₂.H[i]? = some (some [z]) ∧ y = .t (.int k) ∧ 0 ≤ k ∧ k ≤ 1000000 ∧ Φ (.m st₂.H.length) ⟨st₂.r, st₂.H ++ [some (List.replicate k.toNat z)]⟩) st₁) st) :
    AE G n env oc (.BinOp a .Mult b pos) Φ st :=
  fun A X μ s hB hI => by
    refine wpAny_BinOp (wpAny_mono (h A X μ s hB hI) (fun v s₁ ⟨x, st₁, μ₁, h₁, r₁, a₁⟩ => ?_) fun _ _ x => x)
    refine wpAny_mono (h₁ A X μ₁ s₁ hB a₁.inv) (fun u s₂ ⟨y, st₂, μ₂, h₂, r₂, a₂⟩ => ?_) fun _ _ x => x
    obtain ⟨i, z, k, rfl, hi, rfl, h0, hk, hq⟩ := h₂
    cases r₁ with | m hm =>
    cases r₂ with | t r₂ =>
    obtain ⟨t, rfl⟩ := r₂.int_inv
    obtain ⟨a', vs, e1, ⟨k', e2⟩, rl⟩ := a₂.inv.muts _ _ hi
    rw [prefix_get a₂.pre hm] at e1
    have e1 := Option.some.inj e1
    subst e1
    cases rl with | cons rz rn =>
    cases rn
    exact lmul_wp e2 h0 hk ⟨_, _, _, hq, .m (get_snoc _ _ a₂.inv.len), (a₁.trans a₂).trans (After.made a₂.inv (RTs.replicate rz _) _)⟩

/-! calls -/
noncomputable def FnAt (G : Wd) (f : Addr) : Prop := ∃ o fd, G.base.get? f = some o ∧ o.data = .func fd
inductive Callable (G : Wd) : Value → Prop
  | fn {f : Addr} : FnAt G f → Callable G (.ref f)
  | bi {id : String} : Callable G (.builtin id)
  | ty {t : String} : Callable G (.type t)

noncomputable def BCall (G : Wd) (n : Nat) (env : Env) (oc : List (Str × Addr)) (f : Value) (l : List V) (Φ : V → St → Prop) (st : St) : Prop :=
  ∀ (A : Around) (X μ : List Addr) (s : Shared) (vs : List Value), Bud n A → Inv G.base env oc X st μ s.heap → RVs s.heap (ow env oc st μ ++ X) μ vs l →
    wpAny (model G.prog G.w) A (call f vs) (fun a s' => ∃ b st' μ', Φ b st' ∧ RV s'.heap (ow env oc st' μ' ++ X) μ' a b ∧ After G env oc X st μ s st' μ' s') (fun _ _ => False) s

theorem AE_call {fe e : Expr} {es : List Expr} {pos : Pos} {Φ : V → St → Prop}
    (heq : eval (.Call fe (e :: es) [] pos) env = do
          let f ← eval fe env
          callWith pos f [] (backTo pos (starEach (e :: es) env)) (backToKw pos (keywordEach [] env)))
    (hst : starEach (e :: es) env = (false, eval e env) :: starEach es env) (hpl : ((backTo pos (starEach es env)).any fun x => x.1) = false)
    (h : AE G n env oc fe (fun fv st₁ => ∃ f, fv = .t (.con f) ∧ Callable G f ∧ AL G n env oc pos (e :: es) (fun vs st₂ => BCall G n env oc f vs Φ st₂) st₁) st) : AE G n env oc (.Call fe (e :: es) [] pos) Φ st :=
  fun A X μ s hB hI => by
    refine Call_ (wpAny_mono (h A X μ s hB hI) (fun v s₁ ⟨x, st₁, μ₁, h₁, r₁, a₁⟩ => ?_) fun _ _ x => x) heq
    obtain ⟨f, rfl, hc, hal⟩ := h₁
    cases r₁ with | t r₁ =>
    rw [r₁.con_inv]
    have go : ∀ (P : Shared → Prop), (∀ s', (∀ b o, G.base.get? b = some o → s'.heap.get? b = some o) → P s') →
        wpAny (model G.prog G.w) A (spliced (backTo pos (starEach (e :: es) env))) (fun vs s₂ => P s₂ ∧ wpAny (model G.prog G.w) A (call f vs) (fun a s' => ∃ b st' μ', Φ b st' ∧ RV s'.heap (ow env oc st' μ' ++ X) μ' a b ∧ After G env oc X st μ s st' μ' s') (fun _ _ => False) s₂) (fun _ _ => False) s₁ := fun P hP => by
      refine wpAny_mono (hal A X μ₁ s₁ hB a₁.inv) (fun vs s₂ ⟨y, st₂, μ₂, h₂, r₂, a₂⟩ => ⟨hP s₂ fun b o e => (a₂.inv.bas b o e).1, ?_⟩) fun _ _ x => x
      exact wpAny_mono (h₂ A X μ₂ s₂ vs hB a₂.inv r₂) (fun a s₃ ⟨b, st₃, μ₃, h₃, r₃, a₃⟩ => ⟨b, st₃, μ₃, h₃, r₃, (a₁.trans a₂).trans a₃⟩) fun _ _ x => x
    have tr : ∀ {α : Type} {t : Sem α} {Q : α → Prop} {R : α → Shared → Prop} {E : Value → Shared → Prop}, wpAny (model G.prog G.w) A t (fun a s' => Q a ∧ R a s') E s₁ → wpAny (model G.prog G.w) A t R E s₁ := fun h => wpAny_mono h (fun _ _ h => h.2) fun _ _ x => x
    cases hc with
    | fn hf =>
      obtain ⟨o, fd, ho, hd⟩ := hf
      exact callWith_def hd (go (fun s' => s'.heap.get? _ = some o) fun s' k => k _ _ ho) hst
    | bi => exact PyProof.Rows.callWith_builtin1 (wpAny_mono (go (fun _ => True) fun _ _ => trivial) (fun _ _ h => h.2) fun _ _ x => x) hst hpl
    | ty => exact Pv.callWith_type1 (wpAny_mono (go (fun _ => True) fun _ _ => trivial) (fun _ _ h => h.2) fun _ _ x => x) hst hpl

/-- the contract of a def that changes nothing that stood before -/
noncomputable def CS (G : Wd) (n : Nat) (f : Addr) (args : List T) (r : T) : Prop :=
  ∀ (A : Around) (X : List Addr) (s : Shared) (vs : List Value), Bud n A → (∀ b o, G.base.get? b = some o → s.heap.get? b = some o ∧ b ∉ X) → (∀ b ∈ X, ∃ o, s.heap.get? b = some o) → RTs s.heap X vs args →
    wpAny (model G.prog G.w) A (call (.ref f) vs) (fun v s' => RT s'.heap X v r ∧ (∃ h tk, s' = { s with heap := h, toks := tk }) ∧ ∀ b o, s.heap.get? b = some o → s'.heap.get? b = some o) (fun _ _ => False) s

theorem BCall_cs {f : Addr} {l : List V} {Φ : V → St → Prop} {m : Nat} (h : ∃ ys st₁ r, freezes l st = some (ys, st₁) ∧ CS G m f ys r ∧ m ≤ n ∧ Φ (.t r) st₁) : BCall G n env oc (.ref f) l Φ st :=
  fun A X μ s vs hB hI hr => by
    obtain ⟨ys, st₁, r, hf, hc, hm, hq⟩ := h
    obtain ⟨I1, r1, k1⟩ := freezes_ok hI hr hf
    refine wpAny_mono (hc A (ow env oc st₁ μ ++ X) s vs (hB.less hm) (fun b o e => ⟨(I1.bas b o e).1, fun q => (List.mem_append.mp q).elim (I1.bas b o e).2.1 (I1.bas b o e).2.2⟩) (fun b hb => I1.live hb) r1) (fun v s' ⟨rv, ⟨h', tk, e⟩, k⟩ => ?_) fun _ _ x => x
    subst e
    exact ⟨_, _, _, hq, .t rv, (After.sub (G := G) I1 k1).trans (After.grow I1 _ k)⟩

noncomputable def flat : T → Bool
  | .none => true
  | .bool _ => true
  | .int _ => true
  | _ => false
theorem RT.flat {h h' : Heap} {X X' : List Addr} {v : Value} {x : T} (r : RT h X v x) (hf : flat x = true) : RT h' X' v x := by
  cases r <;> simp only [Mine.flat, reduceCtorEq] at hf <;> constructor

theorem BCall_look {f : Addr} {l : List V} {Φ : V → St → Prop} {m : Nat} (h : ∃ ys r, looks l st = some ys ∧ CS G m f ys r ∧ m ≤ n ∧ flat r = true ∧ Φ (.t r) st) : BCall G n env oc (.ref f) l Φ st :=
  fun A X μ s vs hB hI hr => by
    obtain ⟨ys, r, hf, hc, hm, hfl, hq⟩ := h
    refine wpAny_mono (hc A [] s vs (hB.less hm) (fun b o e => ⟨(hI.bas b o e).1, fun q => nomatch q⟩) (fun b hb => nomatch hb) (looks_ok hI hr hf)) (fun v s' ⟨rv, ⟨h', tk, e⟩, k⟩ => ?_) fun _ _ x => x
    subst e
    exact ⟨_, _, _, hq, .t (rv.flat hfl), After.grow hI _ k⟩

theorem RVs.one {h : Heap} {Y : List Addr} {vs : List Value} {x : V} (r : RVs h Y μ vs [x]) : ∃ v, vs = [v] ∧ RV h Y μ v x := by
  cases r with | cons a r => cases r; exact ⟨_, rfl, a⟩
theorem RVs.two {h : Heap} {Y : List Addr} {vs : List Value} {x y : V} (r : RVs h Y μ vs [x, y]) : ∃ v w, vs = [v, w] ∧ RV h Y μ v x ∧ RV h Y μ w y := by
  cases r with | cons a r => obtain ⟨w, rfl, b⟩ := r.one; exact ⟨_, _, rfl, a, b⟩

theorem BCall_len {x : V} {l : List T} {Φ : V → St → Prop} (hl : seqOf x st = some l) (hn : l.length ≤ 1000000) (hq : Φ (.t (.int l.length)) st) : BCall G n env oc (.builtin "len") [x] Φ st :=
  fun A X μ s vs _ hI hr => by
    obtain ⟨v, rfl, r⟩ := hr.one
    obtain ⟨a, vs, rfl, hL, rl⟩ := seqOf_ok hI r hl
    have e := rl.length
    have fin : ∀ t k, ∃ b st' μ', Φ b st' ∧ RV s.heap (ow env oc st' μ' ++ X) μ' (Value.int (vs.toArray.size : Int) t) b ∧ After G env oc X st μ s st' μ' { s with toks := k } :=
      fun t k => ⟨_, _, _, hq, by rw [List.size_toArray, e]; exact .t (.int _ _), After.tok hI _⟩
    rcases hL with hL | hL
    · exact PyProof.Rows.len_list hL (by rw [List.size_toArray, e]; omega) (fin _ _)
    · exact PyProof.Rows.len_tuple hL (by rw [List.size_toArray, e]; omega) (fin _ _)

theorem BCall_abs {i : Int} {Φ : V → St → Prop} (hq : Φ (.t (.int (if i < 0 then -i else i))) st) : BCall G n env oc (.builtin "abs") [.t (.int i)] Φ st :=
  fun A X μ s vs _ hI hr => by
    obtain ⟨v, rfl, r⟩ := hr.one
    cases r with | t r =>
    obtain ⟨t, rfl⟩ := r.int_inv
    exact call_abs_int fun u tk => ⟨_, _, _, hq, .t (.int _ _), After.tok hI _⟩

theorem BCall_int {i : Int} {Φ : V → St → Prop} (hq : Φ (.t (.int i)) st) : BCall G n env oc (.type "int") [.t (.int i)] Φ st :=
  fun A X μ s vs _ hI hr => by
    obtain ⟨v, rfl, r⟩ := hr.one
    cases r with | t r =>
    obtain ⟨t, rfl⟩ := r.int_inv
    exact call_int_int ⟨_, _, _, hq, .t (.int _ _), After.refl hI⟩
theorem BCall_intB {b : Bool} {Φ : V → St → Prop} (hq : Φ (.t (.int (if b then 1 else 0))) st) : BCall G n env oc (.type "int") [.t (.bool b)] Φ st :=
  fun A X μ s vs _ hI hr => by
    obtain ⟨v, rfl, r⟩ := hr.one
    cases r with | t r =>
    rw [r.bool_inv]
    exact call_int_bool ⟨_, _, _, hq, .t (.int _ _), After.tok hI _⟩

theorem BCall_min {i j : Int} {Φ : V → St → Prop} (hq : Φ (.t (.int (if j < i then j else i))) st) : BCall G n env oc (.builtin "min") [.t (.int i), .t (.int j)] Φ st :=
  fun A X μ s vs hB hI hr => by
    obtain ⟨v, w, rfl, r, r'⟩ := hr.two
    cases r with | t r =>
    cases r' with | t r' =>
    obtain ⟨t, rfl⟩ := r.int_inv
    obtain ⟨t', rfl⟩ := r'.int_inv
    refine min_two_ints hB.1 fun h' tk k => ⟨_, _, _, hq, ?_, After.grow hI _ k⟩
    split <;> exact .t (.int _ _)

theorem RTs.intsAre {h : Heap} {Y : List Addr} : ∀ {vs : List Value} {ns : List Int}, RTs h Y vs (ns.map .int) → IntsAre vs ns
  | _, [], r => by cases r; exact .nil
  | _, a :: ns, r => by
    cases r with | cons r rs =>
    obtain ⟨t, rfl⟩ := r.int_inv
    exact .cons _ _ rs.intsAre

theorem BCall_sum {x : V} {ns : List Int} {Φ : V → St → Prop} (hl : seqOf x st = some (ns.map .int)) (ht : ∃ l, x = .t (.lst l)) (hq : Φ (.t (.int ns.sum)) st) : BCall G n env oc (.builtin "sum") [x] Φ st :=
  fun A X μ s vs hB hI hr => by
    obtain ⟨v, rfl, r⟩ := hr.one
    obtain ⟨l, rfl⟩ := ht
    simp only [seqOf, Option.some.injEq] at hl
    subst hl
    cases r with | t r =>
    obtain ⟨a, vs, rfl, hL, _, rl⟩ := r.lst_inv
    have hi := rl.intsAre
    obtain ⟨xs, e⟩ := hi.allInts.items
    rw [e] at hL
    refine sum_intListG hB.1 hL fun h' tk t' k => ⟨_, _, _, hq, ?_, After.grow hI _ k⟩
    have e2 : preSum (numAt xs) xs.size = ns.sum := by
      rw [← hi.numsOf, show vs = vs.toArray.toList from rfl, e, nums_intItems, preSum_eq, List.take_of_length_le (by simp)]
    rw [e2]; exact .t (.int _ _)

/-- o.bit_length() -/
theorem AE_bits {o : Expr} {apos pos : Pos} {Φ : V → St → Prop} {pl : Sem Bool}
    (heq : eval (.Call (.Attribute o (Str.ofString "bit_length") apos) [] [] pos) env = do
          let ov ← eval o env
          standAt apos.atName
          let x ← holding [ov] (getMethod ov (Str.ofString "bit_length") pl)
          match x with
            | (f, first) => callWith pos f first (backTo pos (starEach [] env)) (backToKw pos (keywordEach [] env)))
    (h : AE G n env oc o (fun x st₁ => ∃ i, x = .t (.int i) ∧ Φ (.t (.int (Builtin.Int.intBits i))) st₁) st) : AE G n env oc (.Call (.Attribute o (Str.ofString "bit_length") apos) [] [] pos) Φ st :=
  fun A X μ s hB hI => by
    refine methodCall_KW (pl := pl) (wpAny_mono (h A X μ s hB hI) (fun v s₁ ⟨x, st₁, μ₁, h₁, r₁, a₁⟩ => ?_) fun _ _ x => x) heq
    obtain ⟨i, rfl, hq⟩ := h₁
    cases r₁ with | t r₁ =>
    obtain ⟨t, rfl⟩ := r₁.int_inv
    exact getMethod_int_bit_length (callWith_method0 (call_int_bit_length ⟨_, _, _, hq, .t (.int _ _), a₁.trans (After.tok a₁.inv _)⟩))
end
end Mine

/-! X6 -/
namespace Mine
section
variable {G : Wd} {n : Nat} {env : Env} {oc : List (Str × Addr)} {X : List Addr} {st st' : St} {μ : List Addr} {s : Shared}

/-- a name that a frame may store -/
noncomputable def Bindable (env : Env) (oc : List (Str × Addr)) (x : Str) : Prop :=
  env.kindOf x = some .local ∨ (env.kindOf x = some .cell ∧ (oc.lookup x).isSome = true ∧ (x == ("__classdict__" : Str)) = false)

theorem step_same {w : List Addr} {a : Addr} {h' : Heap} (t : Nat) (ha : a ∈ w) (hs : Heap.SameBut a s.heap h') : Step w s w { s with heap := h', toks := t } :=
  ⟨⟨_, _, rfl⟩, fun b _ hb e => (hs.2 b (fun q => hb (q ▸ ha))).trans e, fun _ a b => absurd a b⟩

theorem bind_wp {A : Around} {x : Str} {u : Value} {v : V} (hb : Bindable env oc x) (I : Inv G.base env oc X st μ s.heap) (r : RV s.heap (ow env oc st μ ++ X) μ u v) :
    wpAny (model G.prog G.w) A (bindName env x u) (fun _ s' => After G env oc X st μ s (st.set x v) μ s') (fun _ _ => False) s := by
  refine wpAny_bindName ?_
  rcases hb with hb | ⟨hb, hc, hd⟩
  · obtain ⟨m, hm⟩ := I.ns
    refine wpAny_storeName_local hb hm (fun h' hn hs => ⟨I.setL hm hb hn hs r, List.prefix_refl _, step_same _ I.loc hs⟩) ?_
    rw [I.kind]; rfl
  · obtain ⟨c, hc⟩ := Option.isSome_iff_exists.mp hc
    obtain ⟨v₀, hq⟩ := I.cells x c (mem_of_lookup hc)
    refine wpAny_storeName_cell I.kind hb (I.occ _ _ hc) hq fun h' hn hs => ⟨I.setC hc hb hd hn hs r, List.prefix_refl _, ?_⟩
    exact step_same s.toks (ow_cell (mem_of_lookup hc)) hs

theorem AX_nil {Φ : F → St → Prop} (h : Φ .next st) : AX G n env oc [] Φ st := fun _ _ _ _ _ hI => wpAny_execs_nil ⟨_, _, _, h, .next, After.refl hI⟩
theorem AX_cons {x : Stmt} {xs : List Stmt} {Φ : F → St → Prop} (h : AS G n env oc x (fun f st₁ => match f with | .next => AX G n env oc xs Φ st₁ | f => Φ f st₁) st) : AX G n env oc (x :: xs) Φ st :=
  fun A X μ s hB hI => by
    refine wpAny_execs_cons (wpAny_mono (h A X μ s hB hI) (fun f s₁ ⟨g, st₁, μ₁, h₁, r₁, a₁⟩ => ?_) fun _ _ x => x)
    cases r₁ with
    | next => exact wpAny_mono (h₁ A X μ₁ s₁ hB a₁.inv) (fun f s₂ ⟨g, st₂, μ₂, h₂, r₂, a₂⟩ => ⟨g, st₂, μ₂, h₂, r₂, a₁.trans a₂⟩) fun _ _ x => x
    | brk => exact ⟨_, _, _, h₁, .brk, a₁⟩
    | cont => exact ⟨_, _, _, h₁, .cont, a₁⟩
    | ret r => exact ⟨_, _, _, h₁, .ret r, a₁⟩

theorem AS_if {t : Expr} {xs ys : List Stmt} {pos : Pos} {Φ : F → St → Prop} (h : AB G n env oc t (fun b st₁ => if b = true then AX G n env oc xs Φ st₁ else AX G n env oc ys Φ st₁) st) : AS G n env oc (.If t xs ys pos) Φ st :=
  fun A X μ s hB hI => by
    refine wpAny_If (wpAny_mono (h A X μ s hB hI) (fun v s₁ ⟨b, st₁, μ₁, h₁, r₁, a₁⟩ => ?_) fun _ _ x => x)
    have r₁ : v = b := r₁
    subst r₁
    cases v with
    | true =>
      simp only [if_true] at h₁ ⊢
      exact wpAny_mono (h₁ A X μ₁ s₁ hB a₁.inv) (fun u s₂ ⟨y, st₂, μ₂, h₂, r₂, a₂⟩ => ⟨_, _, _, h₂, r₂, a₁.trans a₂⟩) fun _ _ x => x
    | false =>
      simp only [Bool.false_eq_true, if_false] at h₁ ⊢
      exact wpAny_mono (h₁ A X μ₁ s₁ hB a₁.inv) (fun u s₂ ⟨y, st₂, μ₂, h₂, r₂, a₂⟩ => ⟨_, _, _, h₂, r₂, a₁.trans a₂⟩) fun _ _ x => x

theorem AS_ret {e : Expr} {pos : Pos} {Φ : F → St → Prop} (h : AE G n env oc e (fun v st₁ => ∃ y st₂, freeze1 v st₁ = some (y, st₂) ∧ Φ (.ret y) st₂) st) : AS G n env oc (.Return (some e) pos) Φ st :=
  fun A X μ s hB hI => by
    refine wpAny_Return_some (wpAny_mono (h A X μ s hB hI) (fun v s₁ ⟨x, st₁, μ₁, h₁, r₁, a₁⟩ => ?_) fun _ _ x => x)
    obtain ⟨y, st₂, hf, hq⟩ := h₁
    obtain ⟨I2, r2, k2⟩ := freeze1_ok a₁.inv r₁ hf
    exact ⟨_, _, _, hq, .ret r2, a₁.trans (After.sub I2 k2)⟩

theorem AS_assign {x : Str} {px : Pos} {e : Expr} {pos : Pos} {Φ : F → St → Prop} (hb : Bindable env oc x) (hs : swapsWith e (some (.Name x px)) pos.line env = pure false)
    (h : AE G n env oc e (fun v st₁ => Φ .next (st₁.set x v)) st) : AS G n env oc (.Assign [.Name x px] e pos) Φ st :=
  fun A X μ s hB hI => by
    refine wpAny_Assign_Name (wpAny_mono (h A X μ s hB hI) (fun v s₁ ⟨x, st₁, μ₁, h₁, r₁, a₁⟩ => ?_) fun _ _ x => x) hs
    have q := bind_wp (A := A) hb a₁.inv r₁
    have q' : wpAny (model G.prog G.w) A (storeName env _ v) (fun _ s' => After G env oc X st₁ μ₁ s₁ (st₁.set _ _) μ₁ s') (fun _ _ => False) s₁ := fun Γ p hΓ => by
      have := q Γ p hΓ
      rw [Sem.wp_bindName] at this
      exact this
    exact wpAny_mono q' (fun _ s₂ a₂ => ⟨_, _, _, h₁, .next, a₁.trans a₂⟩) fun _ _ x => x

/-- ints under an operator in place -/
theorem ibin_wp {A : Around} {E : Value → Shared → Prop} {op : Operator} {a b c : Int} {t u : Tok} {Q : Value → Shared → Prop} (h : BinI op a b c) (ho : op = .Add ∨ op = .Sub ∨ op = .Mod ∨ op = .RShift) (hQ : ∀ t' n, Q (.int c t') { s with toks := n }) :
    wpAny (model G.prog G.w) A (inplaceOp op (.int a t) (.int b u)) Q E s := by
  rcases ho with rfl | rfl | rfl | rfl <;> cases h
  · exact iadd_int (hQ _ _)
  · exact PyProof.Rows.isub_int (hQ _ _)
  · exact PyProof.Rows.imod_int (by omega) (by rw [Int.fmod_eq_emod_of_nonneg _ (by omega)]; exact hQ _ _)
  · exact PyProof.Rows.irshift_int ‹_› (by rw [Int.fdiv_eq_ediv_of_nonneg _ (Int.le_of_lt (Int.pow_pos (by decide)))]; exact hQ _ _)

theorem AS_aug {x : Str} {px : Pos} {op : Operator} {e : Expr} {pos : Pos} {Φ : F → St → Prop} (hb : Bindable env oc x) (ho : op = .Add ∨ op = .Sub ∨ op = .Mod ∨ op = .RShift) {i : Int} (hx : st.r.lookup x = some (.t (.int i)))
    (h : AE G n env oc e (fun v st₁ => ∃ j k, v = .t (.int j) ∧ BinI op i j k ∧ Φ .next (st₁.set x (.t (.int k)))) st) : AS G n env oc (.AugAssign (.Name x px) op e pos) Φ st :=
  fun A X μ s hB hI => by
    obtain ⟨u, nm, r⟩ := hI.names x _ hx
    cases r with | t r =>
    obtain ⟨t, rfl⟩ := r.int_inv
    refine wpAny_AugAssign_Name ?_
    have go : wpAny (model G.prog G.w) A (eval e env) (fun v s₂ => wpAny (model G.prog G.w) A (inplaceOp op (.int i t) v) (fun r s₃ => wpAny (model G.prog G.w) A (storeName env x r) (fun _ s' => ∃ b st' μ', Φ b st' ∧ RF s'.heap (ow env oc st' μ' ++ X) μ' .next b ∧ After G env oc X st μ s st' μ' s') (fun _ _ => False) s₃) (fun _ _ => False) s₂) (fun _ _ => False) s := by
      refine wpAny_mono (h A X μ s hB hI) (fun v s₁ ⟨y, st₁, μ₁, h₁, r₁, a₁⟩ => ?_) fun _ _ x => x
      obtain ⟨j, k, rfl, hbi, hq⟩ := h₁
      cases r₁ with | t r₁ =>
      obtain ⟨t', rfl⟩ := r₁.int_inv
      refine ibin_wp hbi ho fun t'' n' => ?_
      have a₂ := a₁.trans (After.tok a₁.inv n')
      have q := bind_wp (A := A) hb a₂.inv (.t (.int k t''))
      have q' : wpAny (model G.prog G.w) A (storeName env x (.int k t'')) (fun _ s' => After G env oc X st₁ μ₁ { s₁ with toks := n' } (st₁.set x (.t (.int k))) μ₁ s') (fun _ _ => False) { s₁ with toks := n' } := fun Γ p hΓ => by
        have := q Γ p hΓ
        rw [Sem.wp_bindName] at this
        exact this
      exact wpAny_mono q' (fun _ s₂ a₃ => ⟨_, _, _, hq, .next, a₂.trans a₃⟩) fun _ _ x => x
    rcases nm with ⟨a, m, hm, e⟩ | ⟨a, cd, c, e, q⟩
    · exact wpAny_loadName_local hI.kind a hm e go
    · rcases a with a | a
      · exact wpAny_loadName_cell hI.kind a e q go
      · exact wpAny_loadName_free hI.kind a e q go cd

theorem mapSeq_set (its : Array Value) (k : Nat) (i : Nat) (x : Value) :
    ∃ k', Obj.mapSeq (·.setIfInBounds i x) { cls := .type "list", data := .seq its k } = { cls := .type "list", data := .seq (its.setIfInBounds i x) k' } := ⟨_, by simp [Obj.mapSeq]; rfl⟩

theorem AS_setitem {o i : Expr} {p : Pos} {e : Expr} {pos : Pos} {Φ : F → St → Prop} (hs : swapsWith e (some (.Subscript o i p)) pos.line env = pure false)
    (h : AE G n env oc e (fun v st₁ => AE G n env oc o (fun x st₂ => AE G n env oc i (fun y st₃ => ∃ z j l k, v = .t z ∧ x = .m j ∧ st₃.H[j]? = some (some l) ∧ y = .t (.int k) ∧ 0 ≤ k ∧ k < l.length ∧ k < 1000000 ∧
      Φ .next ⟨st₃.r, st₃.H.set j (some (l.set k.toNat z))⟩) st₂) st₁) st) : AS G n env oc (.Assign [.Subscript o i p] e pos) Φ st :=
  fun A X μ s hB hI => by
    refine wpAny_Assign_Subscript (wpAny_mono (h A X μ s hB hI) (fun v s₁ ⟨x, st₁, μ₁, h₁, r₁, a₁⟩ => ?_) fun _ _ x => x) hs
    refine wpAny_mono (h₁ A X μ₁ s₁ hB a₁.inv) (fun ov s₂ ⟨y, st₂, μ₂, h₂, r₂, a₂⟩ => ?_) fun _ _ x => x
    refine wpAny_mono (h₂ A X μ₂ s₂ hB a₂.inv) (fun iv s₃ ⟨z', st₃, μ₃, h₃, r₃, a₃⟩ => ?_) fun _ _ x => x
    obtain ⟨z, j, l, k, rfl, rfl, hj, rfl, h0, hk, hk', hq⟩ := h₃
    have r₁ := (r₁.step a₂.step a₂.pre).step a₃.step a₃.pre
    have r₂ := r₂.step a₃.step a₃.pre
    cases r₁ with | t r₁ =>
    cases r₂ with | m hm =>
    cases r₃ with | t r₃ =>
    obtain ⟨t, rfl⟩ := r₃.int_inv
    obtain ⟨a, vs, e1, ⟨c, e2⟩, rl⟩ := a₃.inv.muts _ _ hj
    rw [hm] at e1
    have e1 := Option.some.inj e1
    subst e1
    have hl := rl.length
    refine ki_setAt (n := c) e2 h0 (by omega) (by rw [List.size_toArray, hl]; exact hk) ?_
    obtain ⟨c', hc'⟩ := mapSeq_set vs.toArray c k.toNat v
    have hset : vs.toArray.setIfInBounds k.toNat v = (vs.set k.toNat v).toArray := by simp
    rw [hset] at hc'
    exact ⟨_, _, _, hq, .next, ((a₁.trans a₂).trans a₃).trans ⟨a₃.inv.setM hj hm (Heap.SameBut.update ..) ⟨c', by rw [Heap.get?_update_self _ e2 (by rw [hc']; rfl), hc']⟩ (rl.set _ r₁), List.prefix_refl _, by
      have e : ow env oc ⟨st₃.r, st₃.H.set j (some (l.set k.toNat z))⟩ μ₃ = ow env oc st₃ μ₃ := by simp only [ow, alive_set hj]
      rw [e]
      exact step_same s₃.toks (ow_mut hj hm) (Heap.SameBut.update ..)⟩⟩

theorem AS_append {x : Str} {px apos : Pos} {e : Expr} {p pos : Pos} {Φ : F → St → Prop} {pl : Sem Bool} {j : Nat} (hx : st.r.lookup x = some (.m j))
    (hi : interactive env = false) (hsw : swapsWith (.Call (.Attribute (.Name x px) (Str.ofString "append") apos) [e] [] p) none pos.line env = pure false)
    (heq : eval (.Call (.Attribute (.Name x px) (Str.ofString "append") apos) [e] [] p) env = do
          let ov ← eval (.Name x px) env
          standAt apos.atName
          let x ← holding [ov] (getMethod ov (Str.ofString "append") pl)
          match x with
            | (f, first) => callWith p f first (backTo p (starEach [e] env)) (backToKw p (keywordEach [] env)))
    (hst : starEach [e] env = (false, eval e env) :: starEach [] env)
    (h : AE G n env oc e (fun v st₁ => ∃ z st₂ l, freeze1 v st₁ = some (z, st₂) ∧ st₂.H[j]? = some (some l) ∧ l.length ≤ 1000000 ∧ Φ .next ⟨st₂.r, st₂.H.set j (some (l ++ [z]))⟩) st)
    (hj : ∃ l, st.H[j]? = some (some l)) (hd : (x == ("__debug__" : Str)) = false := by decide) : AS G n env oc (.Expr (.Call (.Attribute (.Name x px) (Str.ofString "append") apos) [e] [] p) pos) Φ st :=
  fun A X μ s hB hI => by
    refine wpAny_Expr (methodCall_KW (pl := pl) ?_ heq) hi hsw
    have nm := AE_name (G := G) (n := n) (env := env) (oc := oc) (pos := px) (Φ := fun v st₁ => v = .m j ∧ st₁ = st) hx ⟨rfl, rfl⟩ hd
    refine wpAny_mono (nm A X μ s hB hI) (fun v s₁ ⟨y, st₁, μ₁, ⟨h₁, h₁'⟩, r₁, a₁⟩ => ?_) fun _ _ x => x
    subst h₁ h₁'
    cases r₁ with | m hm =>
    obtain ⟨l₀, hj⟩ := hj
    obtain ⟨a, vs₀, e1, ⟨c₀, e2⟩, _⟩ := a₁.inv.muts _ _ hj
    rw [hm] at e1
    have e1 := Option.some.inj e1
    subst e1
    refine Calls.getMethod_list_append e2 rfl rfl (callWith_method1 ?_ hst rfl)
    refine spliced_more (wpAny_mono (h A X μ₁ s₁ hB a₁.inv) (fun v s₂ ⟨y, st₂, μ₂, h₂, r₂, a₂⟩ => ?_) fun _ _ x => x) hst
    obtain ⟨z, st₃, l, hf, hj', hlen, hq⟩ := h₂
    obtain ⟨I3, r3, k3⟩ := freeze1_ok a₂.inv r₂ hf
    have a3 := After.sub (G := G) I3 k3
    obtain ⟨a', vs, e1, hp, rl⟩ := I3.muts _ _ hj'
    rw [prefix_get a₂.pre hm] at e1
    have e1 := Option.some.inj e1
    subst e1
    have hl := rl.length
    refine spliced_none (wpAny_list_append_plain hp (fun h' hp' hs' => ?_) (by rw [List.size_toArray, hl]; exact Nat.le_trans hlen (by decide)))
    refine ⟨_, _, _, hq, .next, ((a₁.trans a₂).trans a3).trans ⟨I3.setM hj' (prefix_get a₂.pre hm) hs' (vs := vs ++ [v]) (by simpa using hp') (rl.append (.cons r3 .nil)), List.prefix_refl _, ?_⟩⟩
    have e : ow env oc ⟨st₃.r, st₃.H.set j (some (l ++ [z]))⟩ μ₂ = ow env oc st₃ μ₂ := by simp only [ow, alive_set hj']
    rw [e]
    exact step_same s₂.toks (ow_mut hj' (prefix_get a₂.pre hm)) hs'
end
end Mine

/-! X7 -/
namespace Mine
section
variable {G : Wd} {n : Nat} {env : Env} {oc : List (Str × Addr)} {X : List Addr} {st st' : St} {μ : List Addr} {s : Shared}

inductive NamesAre : List Expr → List Str → Prop
  | nil : NamesAre [] []
  | cons {x : Str} {p : Pos} {ts : List Expr} {xs : List Str} : NamesAre ts xs → NamesAre (.Name x p :: ts) (x :: xs)
theorem NamesAre.each {ts : List Expr} {xs : List Str} (h : NamesAre ts xs) : (assignEach ts env).length = xs.length ∧ (assignEach ts env).findIdx? (·.1) = none := by
  induction h with
  | nil => exact ⟨rfl, rfl⟩
  | cons h ih =>
    refine ⟨congrArg (· + 1) ih.1, ?_⟩
    refine (List.findIdx?_cons ..).trans ?_
    exact congrArg (fun o => o.map (· + 1)) ih.2

noncomputable def setAll : List Str → List V → St → St
  | x :: xs, v :: vs, st => setAll xs vs (st.set x v)
  | _, _, st => st

noncomputable def Bindables (env : Env) (oc : List (Str × Addr)) (xs : List Str) : Prop := ∀ x ∈ xs, Bindable env oc x
theorem Bindables.nil : Bindables env oc [] := fun _ h => nomatch h
theorem Bindables.cons {x : Str} {xs : List Str} (a : Bindable env oc x) (b : Bindables env oc xs) : Bindables env oc (x :: xs) := fun y hy => by
  rcases List.mem_cons.mp hy with rfl | hy
  · exact a
  · exact b y hy

theorem set_ow (x : Str) (v : V) : ow env oc (st.set x v) μ = ow env oc st μ := rfl

theorem bindEach_wp {A : Around} : ∀ {xs : List Str} {us : List Value} {vs : List V} {st : St} {s : Shared}, Bindables env oc xs → vs.length = xs.length → Inv G.base env oc X st μ s.heap → RVs s.heap (ow env oc st μ ++ X) μ us vs →
    wpAny (model G.prog G.w) A (assignInOrder (xs.map fun x => bindName env x) us) (fun _ s' => After G env oc X st μ s (setAll xs vs st) μ s') (fun _ _ => False) s
  | [], _, _, _, _, _, hl, I, r => by
    cases r with
    | nil => exact wpAny_pure (After.refl I)
    | cons => simp at hl
  | x :: xs, us, vs, st, s, hb, hl, I, r => by
    cases r with
    | nil => simp at hl
    | @cons u us v vs a r =>
      refine wpAny_assignInOrder_more (wpAny_mono (bind_wp (hb x (.head _)) I a) (fun _ s₁ a₁ => ?_) fun _ _ x => x)
      refine wpAny_mono (bindEach_wp (xs := xs) (us := us) (vs := vs) (fun y hy => hb y (.tail _ hy)) (by simpa using hl) a₁.inv (r.step a₁.step a₁.pre)) (fun _ s₂ a₂ => a₁.trans a₂) fun _ _ x => x

theorem assignEach_wp {A : Around} : ∀ {ts : List Expr} {xs : List Str} {us : List Value} {vs : List V} {st : St} {s : Shared}, NamesAre ts xs → Bindables env oc xs → vs.length = xs.length → Inv G.base env oc X st μ s.heap → RVs s.heap (ow env oc st μ ++ X) μ us vs →
    wpAny (model G.prog G.w) A (assignInOrder ((assignEach ts env).map (·.2)) us) (fun _ s' => After G env oc X st μ s (setAll xs vs st) μ s') (fun _ _ => False) s
  | _, _, _, _, _, _, .nil, _, hl, I, r => by
    cases r with
    | nil => exact wpAny_pure (After.refl I)
    | cons => simp at hl
  | _, _, us, vs, st, s, .cons (x := x) (xs := xs) h, hb, hl, I, r => by
    cases r with
    | nil => simp at hl
    | @cons u us v vs a r =>
      refine wpAny_assignInOrder_more ?_
      show wpAny _ A (do standAt _; bindName env x u) _ _ s
      refine wpAny_bind (wpAny_standAt (wpAny_mono (bind_wp (hb x (.head _)) I a) (fun _ s₁ a₁ => ?_) fun _ _ x => x))
      exact wpAny_mono (assignEach_wp (us := us) (vs := vs) h (fun y hy => hb y (.tail _ hy)) (by simpa using hl) a₁.inv (r.step a₁.step a₁.pre)) (fun _ s₂ a₂ => a₁.trans a₂) fun _ _ x => x

theorem ext_all {h h' : Heap} (e : Heap.ExtBut h.objs.size h h') : ∀ b o, h.get? b = some o → h'.get? b = some o := fun b o q => e b o (Nat.ne_of_lt (Heap.lt_size q)) q

theorem RVs.length {h : Heap} {Y : List Addr} : ∀ {us : List Value} {vs : List V}, RVs h Y μ us vs → us.length = vs.length
  | _, _, .nil => rfl
  | _, _, .cons _ r => by simp only [List.length_cons, r.length]
theorem RTs.toV {h : Heap} {Y : List Addr} : ∀ {us : List Value} {l : List T}, RTs h Y us l → RVs h Y μ us (l.map .t)
  | _, _, .nil => .nil
  | _, _, .cons a r => .cons (.t a) r.toV
theorem RVs.rev_app {h : Heap} {Y : List Addr} : ∀ {us ws : List Value} {vs zs : List V}, RVs h Y μ us vs → RVs h Y μ ws zs → RVs h Y μ (us.reverse ++ ws) (vs.reverse ++ zs)
  | _, _, _, _, .nil, q => q
  | _, _, _, _, .cons a r, q => by
    simp only [List.reverse_cons, List.append_assoc, List.singleton_append]
    exact r.rev_app (.cons a q)
theorem RVs.reverse {h : Heap} {Y : List Addr} {us : List Value} {vs : List V} (r : RVs h Y μ us vs) : RVs h Y μ us.reverse vs.reverse := by
  have := r.rev_app .nil
  simpa using this

theorem unpack_wp {A : Around} {ts : List Expr} {xs : List Str} {k : Nat} {p : Pos} {a : Addr} {us : List Value} {vs : List V} (hh : A.handled = none) (hn : NamesAre ts xs) (hb : Bindables env oc xs) (hl : vs.length = xs.length) (I : Inv G.base env oc X st μ s.heap)
    (hT : s.heap.IsTuple a us.toArray) (r : RVs s.heap (ow env oc st μ ++ X) μ us vs) :
    wpAny (model G.prog G.w) A (assign (.Tuple ts k p) env (.ref a)) (fun _ s' => After G env oc X st μ s (setAll xs vs st) μ s') (fun _ _ => False) s := by
  have e := hn.each (env := env)
  refine wpAny_assign_Tuple hh hT (by rw [e.1, List.size_toArray, r.length, hl]) e.2 fun h' he => ?_
  have g := After.grow (G := G) I s.toks (ext_all he)
  exact wpAny_mono (assignEach_wp (us := us) (vs := vs) hn hb hl g.inv (r.step g.step g.pre)) (fun _ s₂ a₂ => g.trans a₂) fun _ _ x => x

theorem AS_tup_val {ts : List Expr} {xs : List Str} {k : Nat} {tp : Pos} {e : Expr} {pos : Pos} {Φ : F → St → Prop} (hn : NamesAre ts xs) (hb : Bindables env oc xs)
    (hs : swapsWithSole [.Tuple ts k tp] e pos.line env = pure false) (hw : swappedStores [.Tuple ts k tp] e env = pure none)
    (h : AE G n env oc e (fun v st₁ => ∃ l, v = .t (.tup l) ∧ l.length = xs.length ∧ Φ .next (setAll xs (l.map .t) st₁)) st) : AS G n env oc (.Assign [.Tuple ts k tp] e pos) Φ st :=
  fun A X μ s hB hI => by
    refine Assign_Tuple (wpAny_mono (h A X μ s hB hI) (fun v s₁ ⟨x, st₁, μ₁, h₁, r₁, a₁⟩ => ?_) fun _ _ x => x) hs hw
    obtain ⟨l, rfl, hl, hq⟩ := h₁
    cases r₁ with | t r₁ =>
    obtain ⟨a, vs, rfl, hT, _, rl⟩ := r₁.tup_inv
    exact wpAny_mono (unpack_wp hB.1 hn hb (by simpa using hl) a₁.inv hT rl.toV) (fun _ s₂ a₂ => ⟨_, _, _, hq, .next, a₁.trans a₂⟩) fun _ _ x => x

theorem AS_tup_disp {ts : List Expr} {xs : List Str} {k k' : Nat} {tp p : Pos} {es : List Expr} {pos : Pos} {Φ : F → St → Prop} (hn : NamesAre ts xs) (hb : Bindables env oc xs)
    (hs : swapsWithSole [.Tuple ts k tp] (.Tuple es k' p) pos.line env = pure false) (hw : swappedStores [.Tuple ts k tp] (.Tuple es k' p) env = pure none)
    (h : AL G n env oc p es (fun vs st₁ => vs.length = xs.length ∧ vs.length ≤ 1000 ∧ Φ .next (setAll xs vs st₁)) st) : AS G n env oc (.Assign [.Tuple ts k tp] (.Tuple es k' p) pos) Φ st :=
  fun A X μ s hB hI => by
    refine Assign_Tuple (Tuple_ (wpAny_mono (h A X μ s hB hI) (fun us s₁ ⟨vs, st₁, μ₁, ⟨hl, hm, hq⟩, r₁, a₁⟩ => ?_) fun _ _ x => x)) hs hw
    have g := After.grow (G := G) a₁.inv s₁.toks (push_keep s₁.heap { cls := .type "tuple", data := .seq us.toArray })
    refine wpAny_newTuple (wpAny_mono (unpack_wp hB.1 hn hb hl g.inv (isTuple_new _ _) (r₁.step g.step g.pre)) (fun _ s₂ a₂ => ⟨_, _, _, hq, .next, (a₁.trans g).trans a₂⟩) fun _ _ x => x) (by rw [r₁.length]; exact Nat.le_trans hm (by decide))

theorem AS_tup_sw {ts : List Expr} {xs : List Str} {k k' : Nat} {tp p : Pos} {es : List Expr} {pos : Pos} {Φ : F → St → Prop} (hb : Bindables env oc xs)
    (hs : swapsWithSole [.Tuple ts k tp] (.Tuple es k' p) pos.line env = pure false) (hw : swappedStores [.Tuple ts k tp] (.Tuple es k' p) env = pure (some xs))
    (h : AL G n env oc p es (fun vs st₁ => vs.length = xs.length ∧ vs.length ≤ 1000 ∧ Φ .next (setAll xs.reverse vs.reverse st₁)) st) : AS G n env oc (.Assign [.Tuple ts k tp] (.Tuple es k' p) pos) Φ st :=
  fun A X μ s hB hI => by
    refine Assign_Tuple_swapped (Tuple_ (wpAny_mono (h A X μ s hB hI) (fun us s₁ ⟨vs, st₁, μ₁, ⟨hl, hm, hq⟩, r₁, a₁⟩ => ?_) fun _ _ x => x)) hs hw
    have g := After.grow (G := G) a₁.inv s₁.toks (push_keep s₁.heap { cls := .type "tuple", data := .seq us.toArray })
    have hul := r₁.length
    refine wpAny_newTuple ?_ (by rw [hul]; exact Nat.le_trans hm (by decide))
    have e : xs.length = us.toArray.size := by rw [List.size_toArray, hul, hl]
    rw [e]
    refine wpAny_unpackItems_tuple hB.1 (isTuple_new _ _) fun h' he => ?_
    have g' := After.grow (G := G) g.inv s₁.toks (ext_all he)
    have gg := g.trans g'
    refine wpAny_mono (bindEach_wp (xs := xs.reverse) (us := us.reverse) (vs := vs.reverse) (fun x hx => hb x (List.mem_reverse.mp hx)) (by simp [hl]) gg.inv (r₁.step gg.step gg.pre).reverse) (fun _ s₂ a₂ => ⟨_, _, _, hq, .next, (a₁.trans gg).trans a₂⟩) fun _ _ x => x

/-! loops -/
inductive Tgt : Expr → T → (St → St) → List Str → Prop
  | name {x : Str} {p : Pos} {y : T} : Tgt (.Name x p) y (fun st => st.set x (.t y)) [x]
  | tup {ts : List Expr} {xs : List Str} {k : Nat} {p : Pos} {l : List T} : NamesAre ts xs → l.length = xs.length → Tgt (.Tuple ts k p) (.tup l) (setAll xs (l.map .t)) xs

theorem tgt_wp {A : Around} {tgt : Expr} {y : T} {f : St → St} {xs : List Str} {v : Value} (hh : A.handled = none) (ht : Tgt tgt y f xs) (hb : Bindables env oc xs) (I : Inv G.base env oc X st μ s.heap) (r : RT s.heap (ow env oc st μ ++ X) v y) :
    wpAny (model G.prog G.w) A (assign tgt env v) (fun _ s' => After G env oc X st μ s (f st) μ s') (fun _ _ => False) s := by
  cases ht with
  | name =>
    show wpAny _ A (do standAt _; bindName env _ v) _ _ s
    exact wpAny_bind (wpAny_standAt (bind_wp (hb _ (.head _)) I (.t r)))
  | tup hn hl =>
    obtain ⟨a, vs, rfl, hT, _, rl⟩ := r.tup_inv
    exact unpack_wp hh hn hb (by simpa using hl) I hT rl.toV

/-- an iterator that gives k trees -/
structure Src (G : Wd) (A : Around) (W : List Addr) (tgt : Expr) (it : Value) (k : Nat) (item : Nat → T) (S : Nat → List Addr → Heap → Prop) : Prop where
  next : ∀ i Y (s : Shared), i < k → (∀ b ∈ Y, ∃ o, s.heap.get? b = some o) → S i Y s.heap → wpAny (model G.prog G.w) A (pyNext it) (fun r s₁ => ∃ v, r = some v ∧
    wpAny (model G.prog G.w) A (letOwnedTupleGo tgt it v) (fun _ s₂ => RT s₂.heap Y v (item i) ∧ S (i + 1) Y s₂.heap ∧ (∃ h tk, s₂ = { s with heap := h, toks := tk }) ∧ ∀ b o, b ∉ W → s.heap.get? b = some o → s₂.heap.get? b = some o) (fun _ _ => False) s₁) (fun _ _ => False) s
  done : ∀ Y (s : Shared), S k Y s.heap → wpAny (model G.prog G.w) A (pyNext it) (fun r s₁ => r = none ∧ (∃ h tk, s₁ = { s with heap := h, toks := tk }) ∧ ∀ b o, b ∉ W → s.heap.get? b = some o → s₁.heap.get? b = some o) (fun _ _ => False) s
  move : ∀ i Y Y' (h h' : Heap), S i Y h → Carry h Y h' Y' → (∀ b ∈ W, ∀ o, h.get? b = some o → h'.get? b = some o) → S i Y' h'
  live : ∀ i Y (h : Heap), S i Y h → ∀ b ∈ W, ∃ o, h.get? b = some o ∧ Quiet o
  self : ∀ i Y (s : Shared) (Q E : Value → Shared → Prop), S i Y s.heap → Q it s → wpAny (model G.prog G.w) A (pyIter it) Q E s

/-- what is iterated -/
noncomputable def ASrc (G : Wd) (n : Nat) (env : Env) (oc : List (Str × Addr)) (tgt iter : Expr) (Φ : Nat → (Nat → T) → St → Prop) (st : St) : Prop :=
  ∀ (A : Around) (X μ : List Addr) (s : Shared), Bud n A → Inv G.base env oc X st μ s.heap →
    wpAny (model G.prog G.w) A (eval iter env) (fun x s₁ => wpAny (model G.prog G.w) A (pyIter x) (fun it s₂ => ∃ k item W S st₁ μ₁, Φ k item st₁ ∧ Src G A W tgt it k item S ∧ S 0 (ow env oc st₁ μ₁ ++ X) s₂.heap ∧
      (∀ b ∈ W, s.heap.get? b = none) ∧ (∀ b ∈ W, b ∉ ow env oc st₁ μ₁) ∧ After G env oc X st μ s st₁ μ₁ s₂) (fun _ _ => False) s₁) (fun _ _ => False) s

/-- the iterator's own things turn -/
theorem After.turn {W : List Addr} {μ' : List Addr} {s' s'' : Shared} (a : After G env oc X st μ s st' μ' s') (I₀ : Inv G.base env oc X st μ s.heap) (hf : ∀ b ∈ W, s.heap.get? b = none) (hw : ∀ b ∈ W, b ∉ ow env oc st' μ') (hq : ∀ b ∈ W, ∃ o, s'.heap.get? b = some o ∧ Quiet o)
    (e : ∃ h tk, s'' = { s' with heap := h, toks := tk }) (k : ∀ b o, b ∉ W → s'.heap.get? b = some o → s''.heap.get? b = some o) : After G env oc X st μ s st' μ' s'' := by
  have hx : ∀ b ∈ W, b ∉ X := fun b hb q => by obtain ⟨o, ho⟩ := (I₀.xs b q).2; rw [hf b hb] at ho; cases ho
  have hbase : ∀ b ∈ W, G.base.get? b = none := fun b hb => by
    cases q : G.base.get? b with
    | none => rfl
    | some o => have := (I₀.bas b o q).1; rw [hf b hb] at this; cases this
  refine ⟨a.inv.turn k fun b hb => ⟨hw b hb, hx b hb, hbase b hb, fun o ho => ?_⟩, a.pre, ?_⟩
  · obtain ⟨o', ho', q⟩ := hq b hb
    rw [ho] at ho'; cases ho'; exact q
  · refine ⟨?_, fun b o hb ho => k b o (fun q => ?_) (a.step.keep b o hb ho), a.step.new⟩
    · obtain ⟨h1, t1, e1⟩ := a.step.same
      obtain ⟨h2, t2, e2⟩ := e
      exact ⟨h2, t2, by rw [e2, e1]⟩
    · rw [hf b q] at ho; cases ho

theorem wpAny_conj_of {α : Type} {M : Model} {A : Around} {t : Sem α} {Q : α → Shared → Prop} {E : Value → Shared → Prop} (h : wpAny M A t Q (fun _ _ => False) s) : wpAny M A t Q E s := wpAny_mono h (fun _ _ x => x) fun _ _ x => x.elim

theorem AS_for {tgt iter : Expr} {body : List Stmt} {pos : Pos} {xs : List Str} {Φ : F → St → Prop} (hs : ∀ x, foldedSetIterable iter env x = pure x) (hb : Bindables env oc xs)
    (h : ASrc G n env oc tgt iter (fun k item st₁ => ∃ J : Nat → St → Prop, J 0 st₁ ∧ (∀ i st', i < k → J i st' → ∃ f, Tgt tgt (item i) f xs ∧
      AX G n env oc body (fun g st'' => match g with | .next => J (i + 1) st'' | .cont => J (i + 1) st'' | .brk => Φ .next st'' | .ret r => Φ (.ret r) st'') (f st')) ∧ (∀ st', J k st' → Φ .next st')) st) :
    AS G n env oc (.For tgt iter body [] pos) Φ st :=
  fun A X μ s hB hI => by
    refine wpAny_For (wpAny_mono (h A X μ s hB hI) (fun x s₁ h₁ => wpAny_mono h₁ (fun it s₂ h₂ => ?_) fun _ _ x => x) fun _ _ x => x) hs
    obtain ⟨k, item, W, S, st₁, μ₁, ⟨J, hJ0, hJ, hJk⟩, src, hS, hWf, hWo, a₁⟩ := h₂
    refine codeAny_forLoop_any (fun m s' => ∃ i st' μ', i ≤ k ∧ m = k + 1 - i ∧ J i st' ∧ After G env oc X st μ s st' μ' s' ∧ S i (ow env oc st' μ' ++ X) s'.heap ∧ ∀ b ∈ W, b ∉ ow env oc st' μ') ?_ (k + 1) ⟨0, st₁, μ₁, Nat.zero_le _, rfl, hJ0, a₁, hS, hWo⟩
    rintro m s₃ ⟨i, st₃, μ₃, hi, rfl, hJi, a₃, hS₃, hW₃⟩
    have hq := src.live i _ _ hS₃
    by_cases hlt : i < k
    · refine wpAny_mono (src.next i _ s₃ hlt (fun b hb => a₃.inv.live hb) hS₃) (fun r s₄ ⟨v, hr, h₄⟩ => ?_) fun _ _ x => x.elim
      subst hr
      refine wpAny_mono h₄ (fun _ s₅ ⟨rv, hS₅, e₅, k₅⟩ => ?_) fun _ _ x => x.elim
      have a₅ := a₃.turn hI hWf hW₃ hq e₅ k₅
      obtain ⟨f, ht, hbody⟩ := hJ i st₃ hlt hJi
      refine wpAny_mono (tgt_wp hB.1 ht hb a₅.inv rv) (fun _ s₆ a₆ => ?_) fun _ _ x => x.elim
      refine wpAny_mono (hbody A X μ₃ s₆ hB a₆.inv) (fun g s₇ ⟨g', st₇, μ₇, h₇, r₇, a₇⟩ => ?_) fun _ _ x => x.elim
      have aa := (a₅.trans a₆).trans a₇
      have a67 := a₆.trans a₇
      have hl5 := src.live (i + 1) _ _ hS₅
      have kW : ∀ b ∈ W, ∀ o, s₅.heap.get? b = some o → s₇.heap.get? b = some o := fun b hb o e => a67.step.keep b o (hW₃ b hb) e
      have hS₇ : S (i + 1) (ow env oc st₇ μ₇ ++ X) s₇.heap := src.move _ _ _ _ _ hS₅ (a67.step.carry) kW
      have hW₇ : ∀ b ∈ W, b ∉ ow env oc st₇ μ₇ := fun b hb => by
        obtain ⟨o, e, _⟩ := hl5 b hb
        exact a67.step.apart (hW₃ b hb) e
      cases r₇ with
      | next => exact ⟨k + 1 - (i + 1), by omega, i + 1, st₇, μ₇, hlt, rfl, h₇, aa, hS₇, hW₇⟩
      | cont => exact ⟨k + 1 - (i + 1), by omega, i + 1, st₇, μ₇, hlt, rfl, h₇, aa, hS₇, hW₇⟩
      | brk => exact ⟨_, _, _, h₇, .next, aa⟩
      | ret r => exact ⟨_, _, _, h₇, .ret r, aa⟩
    · have : i = k := by omega
      subst this
      refine wpAny_mono (src.done _ s₃ hS₃) (fun r s₄ ⟨hr, e₄, k₄⟩ => ?_) fun _ _ x => x.elim
      subst hr
      exact wpAny_execs_nil ⟨_, _, _, hJk _ hJi, .next, a₃.turn hI hWf hW₃ hq e₄ k₄⟩

theorem AS_while {t : Expr} {body : List Stmt} {pos : Pos} {Φ : F → St → Prop} (J : Nat → St → Prop) (m : Nat) (h0 : J m st)
    (h : ∀ m st', J m st' → AB G n env oc t (fun b st₁ => if b = true then AX G n env oc body (fun g st'' => match g with | .next => ∃ m', m' < m ∧ J m' st'' | .cont => ∃ m', m' < m ∧ J m' st'' | .brk => Φ .next st'' | .ret r => Φ (.ret r) st'') st₁ else Φ .next st₁) st') :
    AS G n env oc (.While t body [] pos) Φ st :=
  fun A X μ s hB hI => by
    refine wpAny_While (codeAny_whileLoop (fun m s' => ∃ st' μ', J m st' ∧ After G env oc X st μ s st' μ' s') ?_ m ⟨st, μ, h0, After.refl hI⟩)
    rintro m s₁ ⟨st₁, μ₁, hJ, a₁⟩
    refine wpAny_mono (h m st₁ hJ A X μ₁ s₁ hB a₁.inv) (fun v s₂ ⟨b, st₂, μ₂, h₂, r₂, a₂⟩ => ?_) fun _ _ x => x.elim
    have r₂ : v = b := r₂
    subst r₂
    cases v with
    | true =>
      simp only [if_true] at h₂ ⊢
      refine wpAny_mono (h₂ A X μ₂ s₂ hB a₂.inv) (fun g s₃ ⟨g', st₃, μ₃, h₃, r₃, a₃⟩ => ?_) fun _ _ x => x.elim
      have aa := (a₁.trans a₂).trans a₃
      cases r₃ with
      | next => obtain ⟨m', hm, hJ'⟩ := h₃; exact ⟨m', hm, st₃, μ₃, hJ', aa⟩
      | cont => obtain ⟨m', hm, hJ'⟩ := h₃; exact ⟨m', hm, st₃, μ₃, hJ', aa⟩
      | brk => exact ⟨_, _, _, h₃, .next, aa⟩
      | ret r => exact ⟨_, _, _, h₃, .ret r, aa⟩
    | false =>
      simp only [Bool.false_eq_true, if_false] at h₂ ⊢
      exact wpAny_execs_nil ⟨_, _, _, h₂, .next, a₁.trans a₂⟩
end
end Mine

/-! X8 -/
namespace Mine
section
variable {G : Wd} {n : Nat} {env : Env} {oc : List (Str × Addr)} {X : List Addr} {st st' : St} {μ : List Addr} {s : Shared}

theorem Src.range {A : Around} (hh : A.handled = none) {x : Str} {p : Pos} {I : Addr} {a c : Int} {k : Nat} {item : Nat → T} (hitem : ∀ i, i < k → item i = .int (a + i * c)) :
    Src G A [I] (.Name x p) (.ref I) k item (fun i _ h => IsRangeIter h I (a + (i : Nat) * c) ((k : Int) - (i : Nat)) c) where
  next := fun i Y s hi _ hS => by
    refine (Walks.range hh I a c k).item i s _ _ hi hS fun v h' tk hv hS' hk => ⟨v, rfl, ?_⟩
    obtain ⟨t, rfl⟩ := hv
    show wpAny _ A (pure ()) _ _ _
    refine wpAny_pure ⟨?_, hS', ⟨_, _, rfl⟩, hk⟩
    rw [hitem i hi]; exact .int _ _
  done := fun Y s hS => (Walks.range hh I a c k).done s _ _ hS fun h' tk hk => ⟨rfl, ⟨_, _, rfl⟩, hk⟩
  move := fun i Y Y' h h' hS _ hk => hk I (.head _) _ hS
  live := fun i Y h hS b hb => by rw [List.mem_singleton.mp hb]; exact ⟨_, hS, Quiet.fields rfl⟩
  self := fun i Y s Q E hS hQ => (Walks.range hh I a c k).self i s Q E hS hQ

theorem Src.list {A : Around} (hh : A.handled = none) {x : Str} {p : Pos} {I ax : Addr} (hne : ax ≠ I) {vs : List Value} {l : List T} {item : Nat → T} (hitem : ∀ i, i < l.length → l[i]? = some (item i)) :
    Src G A [I] (.Name x p) (.ref I) l.length item (fun i Y h => h.IsListIter I ax i ∧ h.IsList ax vs.toArray ∧ RTs h Y vs l ∧ ax ∉ Y) where
  next := fun i Y s hi _ hS => by
    obtain ⟨h1, h2, h3, h4⟩ := hS
    have hl := h3.length
    refine (Walks.list hh I ax hne vs.toArray).item i s _ _ (by rw [List.size_toArray, hl]; exact hi) ⟨h1, h2⟩ fun v h' tk hv hS' hk => ⟨v, rfl, ?_⟩
    show wpAny _ A (pure ()) _ _ _
    have kc : Carry s.heap Y h' Y := carry_of hk fun b hb => .inr fun o e hs => by
      rw [List.mem_singleton.mp hb] at e
      obtain ⟨o', e', _, hd⟩ := h1
      rw [e'] at e; cases e
      exact (Quiet.fields hd).1 hs
    obtain ⟨u, hu, ru⟩ := (h3.carry kc).get i _ (hitem i hi)
    have hv : vs[i]? = some v := by simpa using hv
    rw [hu] at hv; cases hv
    exact wpAny_pure ⟨ru, ⟨hS'.1, hS'.2, h3.carry kc, h4⟩, ⟨_, _, rfl⟩, hk⟩
  done := fun Y s hS => by
    have hl := hS.2.2.1.length
    refine (Walks.list hh I ax hne vs.toArray).done s _ _ (by rw [List.size_toArray, hl]; exact ⟨hS.1, hS.2.1⟩) fun h' tk hk => ⟨rfl, ⟨_, _, rfl⟩, hk⟩
  move := fun i Y Y' h h' hS kc hk => by
    obtain ⟨h1, h2, h3, h4⟩ := hS
    obtain ⟨o, e, hc, m, hd⟩ := h2
    have q := kc ax o h4 e ⟨_, _, hd⟩
    exact ⟨h1.at fun o e => hk I (.head _) o e, ⟨o, q.1, hc, m, hd⟩, h3.carry kc, q.2⟩
  live := fun i Y h hS b hb => by
    rw [List.mem_singleton.mp hb]
    obtain ⟨o, e, _, hd⟩ := hS.1
    exact ⟨o, e, Quiet.fields hd⟩
  self := fun i Y s Q E hS hQ => (Walks.list hh I ax hne vs.toArray).self i s Q E ⟨hS.1, hS.2.1⟩ hQ

theorem Src.enum {A : Around} (hh : A.handled = none) {ts : List Expr} {tk : Nat} {p : Pos} {e it ax : Addr} (hei : e ≠ it) (hle : ax ≠ e) (hli : ax ≠ it) {vs : List Value} {l : List T} {item : Nat → T} (hitem : ∀ i x, l[i]? = some x → item i = .tup [.int i, x]) :
    Src G A [e, it] (.Tuple ts tk p) (.ref e) l.length item (fun i Y h => ((∃ old, IsEnum h e it i old) ∧ h.IsListIter it ax i ∧ h.IsList ax vs.toArray) ∧ RTs h Y vs l ∧ ax ∉ Y) where
  next := fun i Y s hi hY hS => by
    obtain ⟨h1, h3, h4⟩ := hS
    have hl := h3.length
    have W := WalksT.enumerate (prog := G.prog) (w := G.w) hh e it ax hei hle hli vs.toArray
    refine W.item i s _ _ (by rw [List.size_toArray, hl]; exact hi) h1 fun T₀ vals h' tk' hP hT hTup hM hk => ⟨_, rfl, ?_⟩
    refine W.go ts tk p i T₀ _ _ _ hM fun h'' hS'' hk' => ?_
    have hTw := W.apart _ _ _ hM
    have kk : ∀ b o, b ∉ [e, it] → s.heap.get? b = some o → h''.get? b = some o := fun b o hb q => hk' b o hb (hk b o hb q)
    have quiet : ∀ b ∈ [e, it], ∀ o, s.heap.get? b = some o → ¬ isSeq o := fun b hb o q hs => by
      rcases List.mem_cons.mp hb with rfl | hb
      · obtain ⟨old, he⟩ := h1.1
        have he : s.heap.get? _ = some _ := he
        rw [q] at he; cases he
        exact (Quiet.fields rfl).1 hs
      · rw [List.mem_singleton.mp hb] at q
        obtain ⟨o', e', _, hd⟩ := h1.2.1
        rw [e'] at q; cases q
        exact (Quiet.fields hd).1 hs
    have kc : Carry s.heap Y h'' Y := carry_of kk fun b hb => .inr (quiet b hb)
    obtain ⟨t, x, hx, rfl⟩ := hP
    have hi' : i < vs.length := by rw [hl]; exact hi
    have hli' : l[i]? = some l[i] := List.getElem?_eq_getElem hi
    obtain ⟨u, hu, ru⟩ := (h3.carry kc).get i _ hli'
    have hx : vs[i]? = some x := by simpa using hx
    rw [hu] at hx; cases hx
    refine ⟨?_, ⟨hS'', h3.carry kc, h4⟩, ⟨_, _, rfl⟩, kk⟩
    rw [hitem i _ hli']
    refine .tup (vs := [.int i t, x]) ?_ (fun q => ?_) (.cons (.int _ _) (.cons ru .nil))
    · obtain ⟨o, ho, hc, m, hd⟩ := hTup
      exact ⟨o, hk' T₀ o hTw ho, hc, m, hd⟩
    · obtain ⟨o, ho⟩ := hY _ q
      exact absurd (Heap.lt_size ho) (Nat.not_lt.mpr hT)
  done := fun Y s hS => by
    have hl := hS.2.1.length
    have W := WalksT.enumerate (prog := G.prog) (w := G.w) hh e it ax hei hle hli vs.toArray
    exact W.done s _ _ (by rw [List.size_toArray, hl]; exact hS.1) fun h' tk hk => ⟨rfl, ⟨_, _, rfl⟩, hk⟩
  move := fun i Y Y' h h' hS kc hk => by
    obtain ⟨⟨⟨old, h0⟩, h1, h2⟩, h3, h4⟩ := hS
    obtain ⟨o, e', hc, m, hd⟩ := h2
    have q := kc ax o h4 e' ⟨_, _, hd⟩
    exact ⟨⟨⟨old, hk e (by simp) _ h0⟩, h1.at fun o e => hk it (by simp) o e, ⟨o, q.1, hc, m, hd⟩⟩, h3.carry kc, q.2⟩
  live := fun i Y h hS b hb => by
    rcases List.mem_cons.mp hb with rfl | hb
    · obtain ⟨old, he⟩ := hS.1.1
      exact ⟨_, he, Quiet.fields rfl⟩
    · rw [List.mem_singleton.mp hb]
      obtain ⟨o, e, _, hd⟩ := hS.1.2.1
      exact ⟨o, e, Quiet.fields hd⟩
  self := fun i Y s Q E hS hQ => by
    have W := WalksT.enumerate (prog := G.prog) (w := G.w) hh e it ax hei hle hli vs.toArray
    exact W.self i s Q E hS.1 hQ

theorem After.mono {μ' : List Addr} {s' : Shared} (a : After G env oc X st μ s st' μ' s') (_I : Inv G.base env oc X st μ s.heap) {b : Addr} {o : Obj} (e : s.heap.get? b = some o) : ∃ o', s'.heap.get? b = some o' := by
  by_cases hb : b ∈ ow env oc st μ
  · rcases List.mem_cons.mp hb with rfl | hb
    · exact a.inv.live (List.mem_append.mpr (.inl (.head _)))
    · rcases List.mem_append.mp hb with hb | hb
      · exact a.inv.live (List.mem_append.mpr (.inl (.tail _ (List.mem_append.mpr (.inl hb)))))
      · obtain ⟨t, rfl⟩ := a.pre
        obtain ⟨o', e', _⟩ := a.inv.seqs b (List.mem_append.mpr (.inl (alive_sub b hb)))
        exact ⟨o', e'⟩
  · exact ⟨o, a.step.keep b o hb e⟩
theorem After.fresh {μ' : List Addr} {s' : Shared} (a : After G env oc X st μ s st' μ' s') (I : Inv G.base env oc X st μ s.heap) {b : Addr} (e : s'.heap.get? b = none) : s.heap.get? b = none := by
  cases q : s.heap.get? b with
  | none => rfl
  | some o => obtain ⟨o', e'⟩ := a.mono I q; rw [e] at e'; cases e'

theorem push_new (h : Heap) (o : Obj) (hf : o.isFreed = false) : (h.push o).get? h.objs.size = some o := Heap.get?_push_size _ hf

/-- over a list -/
theorem ASrc_list {x : Str} {p : Pos} {iter : Expr} {Φ : Nat → (Nat → T) → St → Prop}
    (h : AE G n env oc iter (fun v st₁ => ∃ l item, v = .t (.lst l) ∧ (∀ i, i < l.length → l[i]? = some (item i)) ∧ Φ l.length item st₁) st) : ASrc G n env oc (.Name x p) iter Φ st :=
  fun A X μ s hB hI => by
    refine wpAny_mono (h A X μ s hB hI) (fun v s₁ ⟨y, st₁, μ₁, h₁, r₁, a₁⟩ => ?_) fun _ _ x => x
    obtain ⟨l, item, rfl, hit, hq⟩ := h₁
    cases r₁ with | t r₁ =>
    obtain ⟨a, vs, rfl, hL, ha, rl⟩ := r₁.lst_inv
    have hne : a ≠ s₁.heap.objs.size := by obtain ⟨o, ho, _⟩ := hL; exact Nat.ne_of_lt (Heap.lt_size ho)
    refine wpAny_pyIter_list hL ?_
    have g := After.grow (G := G) a₁.inv s₁.toks (push_keep s₁.heap { cls := .type "list_iterator", data := .fields #[.ref a, .int 0 0] })
    have hfr := a₁.fresh hI (get_fresh s₁.heap)
    exact ⟨_, item, [s₁.heap.objs.size], _, st₁, μ₁, hq, Src.list hB.1 hne hit, ⟨⟨_, push_new _ _ rfl, rfl, rfl⟩, hL.push _, rl.carry g.step.carry, ha⟩,
      (fun b hb => by rw [List.mem_singleton.mp hb]; exact hfr), (fun b hb q => by rw [List.mem_singleton.mp hb] at q; exact a₁.inv.fresh (List.mem_append.mpr (.inl q))), a₁.trans g⟩

theorem small_of {a b c : Int} (ha : -1000000 ≤ a ∧ a ≤ 1000000) (hb : -1000000 ≤ b ∧ b ≤ 1000000) (hc : c = 1 ∨ c = -1) : Builtin.Range.small a b c = true := by
  unfold Builtin.Range.small Builtin.Range.rangeSize Builtin.Range.rangeFitsLong
  rcases hc with rfl | rfl
  · simp only [show (1 : Int) > 0 from by decide, if_true, Int.ediv_one]
    by_cases h : a < b
    · simp only [h, if_true, Bool.and_eq_true, decide_eq_true_eq, Bool.or_eq_true, beq_iff_eq]; omega
    · simp only [h, if_false, Bool.and_eq_true, decide_eq_true_eq, Bool.or_eq_true, beq_iff_eq]; omega
  · simp only [show ¬ (-1 : Int) > 0 from by decide, if_false, Int.neg_neg, Int.ediv_one]
    by_cases h : a > b
    · simp only [h, if_true, Bool.and_eq_true, decide_eq_true_eq, Bool.or_eq_true, beq_iff_eq]; omega
    · simp only [h, if_false, Bool.and_eq_true, decide_eq_true_eq, Bool.or_eq_true, beq_iff_eq]; omega

theorem range_src {A : Around} {x : Str} {p : Pos} {r : Addr} {a b c : Int} {t u v : Tok} {μ₁ : List Addr} {st₁ : St} {s₁ : Shared} {item : Nat → T} {k : Nat} {Φ : Nat → (Nat → T) → St → Prop} (hB : Bud n A) (hI : Inv G.base env oc X st μ s.heap) (a₁ : After G env oc X st μ s st₁ μ₁ s₁) (hr : IsRange s₁.heap r a b c t u v) (hs : Builtin.Range.small a b c = true)
    (hk : Builtin.Range.rangeSize a b c = (k : Int)) (hitem : ∀ i, i < k → item i = .int (a + i * c)) (hq : Φ k item st₁) :
    wpAny (model G.prog G.w) A (pyIter (.ref r)) (fun it s₂ => ∃ k item W S st₁ μ₁, Φ k item st₁ ∧ Src G A W (.Name x p) it k item S ∧ S 0 (ow env oc st₁ μ₁ ++ X) s₂.heap ∧
      (∀ b ∈ W, s.heap.get? b = none) ∧ (∀ b ∈ W, b ∉ ow env oc st₁ μ₁) ∧ After G env oc X st μ s st₁ μ₁ s₂) (fun _ _ => False) s₁ := by
  refine wpAny_pyIter_range hr hs ?_
  have g := After.grow (G := G) a₁.inv s₁.toks (push_keep s₁.heap { cls := .type "range_iterator", data := .fields #[rawInt a, rawInt (Builtin.Range.rangeSize a b c), rawInt c] })
  have hfr := a₁.fresh hI (get_fresh s₁.heap)
  refine ⟨k, item, [s₁.heap.objs.size], _, st₁, μ₁, hq, Src.range (a := a) (c := c) hB.1 hitem, ?_, (fun b hb => by rw [List.mem_singleton.mp hb]; exact hfr), (fun b hb q => by rw [List.mem_singleton.mp hb] at q; exact a₁.inv.fresh (List.mem_append.mpr (.inl q))), a₁.trans g⟩
  rw [hk]
  show Heap.get? _ _ = _
  rw [push_new _ _ rfl]
  simp [rawInt]

/-- range(k) -/
theorem ASrc_range1 {x : Str} {p : Pos} {fe e : Expr} {pos : Pos} {Φ : Nat → (Nat → T) → St → Prop}
    (heq : eval (.Call fe [e] [] pos) env = do
          let f ← eval fe env
          callWith pos f [] (backTo pos (starEach [e] env)) (backToKw pos (keywordEach [] env)))
    (hst : starEach [e] env = (false, eval e env) :: starEach [] env)
    (h : AE G n env oc fe (fun fv st₁ => fv = .t (.con (.type "range")) ∧ AL G n env oc pos [e] (fun vs st₂ => ∃ b : Nat, vs = [.t (.int b)] ∧ b ≤ 1000000 ∧ Φ b (fun i => .int i) st₂) st₁) st) : ASrc G n env oc (.Name x p) (.Call fe [e] [] pos) Φ st :=
  fun A X μ s hB hI => by
    refine Call_ (wpAny_mono (h A X μ s hB hI) (fun v s₁ ⟨y, st₁, μ₁, ⟨h₁, h₂⟩, r₁, a₁⟩ => ?_) fun _ _ x => x) heq
    subst h₁
    cases r₁ with | t r₁ =>
    rw [r₁.con_inv]
    refine Pv.callWith_type1 (wpAny_mono (h₂ A X μ₁ s₁ hB a₁.inv) (fun us s₂ ⟨vs, st₂, μ₂, ⟨b, hv, hb, hq⟩, r₂, a₂⟩ => ?_) fun _ _ x => x) hst rfl
    subst hv
    obtain ⟨u, rfl, ru⟩ := r₂.one
    cases ru with | t ru =>
    obtain ⟨t, rfl⟩ := ru.int_inv
    refine call_range_1 ?_
    have g := After.grow (G := G) a₂.inv (s₂.toks + 1 + 1) (push_keep s₂.heap { cls := .type "range", data := .fields #[.int 0 s₂.toks, .int b t, .int 1 (s₂.toks + 1)] })
    refine range_src (b := b) (c := 1) hB hI ((a₁.trans a₂).trans g) (push_new _ _ rfl) (small_of (by omega) (by omega) (.inl rfl)) (k := b) ?_ (fun i _ => by simp) hq
    unfold Builtin.Range.rangeSize
    simp only [show (1 : Int) > 0 from by decide, if_true, Int.ediv_one]
    split <;> omega

/-- range(a, b) -/
theorem ASrc_range2 {x : Str} {p : Pos} {fe e e' : Expr} {pos : Pos} {Φ : Nat → (Nat → T) → St → Prop}
    (heq : eval (.Call fe [e, e'] [] pos) env = do
          let f ← eval fe env
          callWith pos f [] (backTo pos (starEach [e, e'] env)) (backToKw pos (keywordEach [] env)))
    (hst : starEach [e, e'] env = (false, eval e env) :: starEach [e'] env) (hpl : ((backTo pos (starEach [e'] env)).any fun x => x.1) = false)
    (h : AE G n env oc fe (fun fv st₁ => fv = .t (.con (.type "range")) ∧ AL G n env oc pos [e, e'] (fun vs st₂ => ∃ a b : Int, vs = [.t (.int a), .t (.int b)] ∧ (-1000000 ≤ a ∧ a ≤ 1000000) ∧ (-1000000 ≤ b ∧ b ≤ 1000000) ∧ Φ (b - a).toNat (fun i => .int (a + i)) st₂) st₁) st) : ASrc G n env oc (.Name x p) (.Call fe [e, e'] [] pos) Φ st :=
  fun A X μ s hB hI => by
    refine Call_ (wpAny_mono (h A X μ s hB hI) (fun v s₁ ⟨y, st₁, μ₁, ⟨h₁, h₂⟩, r₁, a₁⟩ => ?_) fun _ _ x => x) heq
    subst h₁
    cases r₁ with | t r₁ =>
    rw [r₁.con_inv]
    refine Pv.callWith_type1 (wpAny_mono (h₂ A X μ₁ s₁ hB a₁.inv) (fun us s₂ ⟨vs, st₂, μ₂, ⟨a, b, hv, ha, hb, hq⟩, r₂, a₂⟩ => ?_) fun _ _ x => x) hst hpl
    subst hv
    obtain ⟨u, u', rfl, ru, ru'⟩ := r₂.two
    cases ru with | t ru =>
    cases ru' with | t ru' =>
    obtain ⟨t, rfl⟩ := ru.int_inv
    obtain ⟨t', rfl⟩ := ru'.int_inv
    refine call_range_2 ?_
    have g := After.grow (G := G) a₂.inv (s₂.toks + 1) (push_keep s₂.heap { cls := .type "range", data := .fields #[.int a t, .int b t', .int 1 s₂.toks] })
    refine range_src (b := b) (c := 1) hB hI ((a₁.trans a₂).trans g) (push_new _ _ rfl) (small_of (by omega) (by omega) (.inl rfl)) (k := (b - a).toNat) ?_ (fun i _ => by simp) hq
    unfold Builtin.Range.rangeSize
    simp only [show (1 : Int) > 0 from by decide, if_true, Int.ediv_one]
    split <;> omega

theorem RVs.three {h : Heap} {Y : List Addr} {vs : List Value} {x y z : V} (r : RVs h Y μ vs [x, y, z]) : ∃ v w u, vs = [v, w, u] ∧ RV h Y μ v x ∧ RV h Y μ w y ∧ RV h Y μ u z := by
  cases r with | cons a r => obtain ⟨w, u, rfl, b, c⟩ := r.two; exact ⟨_, _, _, rfl, a, b, c⟩

/-- range(a, b, -1) -/
theorem ASrc_range3 {x : Str} {p : Pos} {fe e e' e'' : Expr} {pos : Pos} {Φ : Nat → (Nat → T) → St → Prop}
    (heq : eval (.Call fe [e, e', e''] [] pos) env = do
          let f ← eval fe env
          callWith pos f [] (backTo pos (starEach [e, e', e''] env)) (backToKw pos (keywordEach [] env)))
    (hst : starEach [e, e', e''] env = (false, eval e env) :: starEach [e', e''] env) (hpl : ((backTo pos (starEach [e', e''] env)).any fun x => x.1) = false)
    (h : AE G n env oc fe (fun fv st₁ => fv = .t (.con (.type "range")) ∧ AL G n env oc pos [e, e', e''] (fun vs st₂ => ∃ a b : Int, vs = [.t (.int a), .t (.int b), .t (.int (-1))] ∧ (-1000000 ≤ a ∧ a ≤ 1000000) ∧ (-1000000 ≤ b ∧ b ≤ 1000000) ∧ Φ (a - b).toNat (fun i => .int (a - i)) st₂) st₁) st) : ASrc G n env oc (.Name x p) (.Call fe [e, e', e''] [] pos) Φ st :=
  fun A X μ s hB hI => by
    refine Call_ (wpAny_mono (h A X μ s hB hI) (fun v s₁ ⟨y, st₁, μ₁, ⟨h₁, h₂⟩, r₁, a₁⟩ => ?_) fun _ _ x => x) heq
    subst h₁
    cases r₁ with | t r₁ =>
    rw [r₁.con_inv]
    refine Pv.callWith_type1 (wpAny_mono (h₂ A X μ₁ s₁ hB a₁.inv) (fun us s₂ ⟨vs, st₂, μ₂, ⟨a, b, hv, ha, hb, hq⟩, r₂, a₂⟩ => ?_) fun _ _ x => x) hst hpl
    subst hv
    obtain ⟨u, u', u'', rfl, ru, ru', ru''⟩ := r₂.three
    cases ru with | t ru =>
    cases ru' with | t ru' =>
    cases ru'' with | t ru'' =>
    obtain ⟨t, rfl⟩ := ru.int_inv
    obtain ⟨t', rfl⟩ := ru'.int_inv
    obtain ⟨t'', rfl⟩ := ru''.int_inv
    refine call_range_3 (by decide) ?_ (.inl ?_)
    · have g := After.grow (G := G) a₂.inv s₂.toks (push_keep s₂.heap { cls := .type "range", data := .fields #[.int a t, .int b t', .int (-1) t''] })
      refine range_src (b := b) (c := -1) hB hI ((a₁.trans a₂).trans g) (push_new _ _ rfl) (small_of (by omega) (by omega) (.inr rfl)) (k := (a - b).toNat) ?_ (fun i _ => by simp only [T.int.injEq]; omega) hq
      unfold Builtin.Range.rangeSize
      simp only [show ¬ (-1 : Int) > 0 from by decide, if_false, Int.neg_neg, Int.ediv_one]
      split <;> omega
    · unfold Builtin.divisionGoesByPylong
      have e : (if ((-1 : Int) == 0) = true then 0 else (-1 : Int).natAbs.log2 / 30 + 1) = 1 := by decide
      simp only [e]; rfl

/-- enumerate(x) -/
theorem ASrc_enum {ts : List Expr} {tk : Nat} {tp : Pos} {fe e : Expr} {pos : Pos} {Φ : Nat → (Nat → T) → St → Prop}
    (heq : eval (.Call fe [e] [] pos) env = do
          let f ← eval fe env
          callWith pos f [] (backTo pos (starEach [e] env)) (backToKw pos (keywordEach [] env)))
    (hst : starEach [e] env = (false, eval e env) :: starEach [] env)
    (h : AE G n env oc fe (fun fv st₁ => fv = .t (.con (.type "enumerate")) ∧ AL G n env oc pos [e] (fun vs st₂ => ∃ l item, vs = [.t (.lst l)] ∧ (∀ (i : Nat) x, l[i]? = some x → item i = .tup [.int i, x]) ∧ Φ l.length item st₂) st₁) st) : ASrc G n env oc (.Tuple ts tk tp) (.Call fe [e] [] pos) Φ st :=
  fun A X μ s hB hI => by
    refine Call_ (wpAny_mono (h A X μ s hB hI) (fun v s₁ ⟨y, st₁, μ₁, ⟨h₁, h₂⟩, r₁, a₁⟩ => ?_) fun _ _ x => x) heq
    subst h₁
    cases r₁ with | t r₁ =>
    rw [r₁.con_inv]
    refine Pv.callWith_type1 (wpAny_mono (h₂ A X μ₁ s₁ hB a₁.inv) (fun us s₂ ⟨vs, st₂, μ₂, ⟨l, item, hv, hit, hq⟩, r₂, a₂⟩ => ?_) fun _ _ x => x) hst rfl
    subst hv
    obtain ⟨u, rfl, ru⟩ := r₂.one
    cases ru with | t ru =>
    obtain ⟨a, vs, rfl, hL, ha, rl⟩ := ru.lst_inv
    have F0 : ∃ m, Fr {} env.locals s₂.heap m := by
      obtain ⟨m, hm⟩ := a₂.inv.ns
      exact ⟨m, hm, (fun b o e => by simp [Heap.get?] at e), Nat.zero_le _⟩
    obtain ⟨m, F0⟩ := F0
    refine enum_rows F0 hL fun h' he hi hl _ kk hne h1 h2 _ _ => ?_
    have g := After.grow (G := G) a₂.inv s₂.toks kk
    have aa := (a₁.trans a₂).trans g
    refine wpAny_pyIter_enum he ?_
    have f1 : s₂.heap.get? s₂.heap.objs.size = none := get_fresh _
    have f2 : s₂.heap.get? (s₂.heap.objs.size + 1) = none := by
      cases e : s₂.heap.get? (s₂.heap.objs.size + 1) with
      | none => rfl
      | some o => exact absurd (Heap.lt_size e) (Nat.not_lt.mpr (Nat.le_succ _))
    have fr : ∀ b ∈ [s₂.heap.objs.size + 1, s₂.heap.objs.size], s₂.heap.get? b = none := fun b hb => by
      rcases List.mem_cons.mp hb with rfl | hb
      · exact f2
      · rw [List.mem_singleton.mp hb]; exact f1
    exact ⟨_, item, [s₂.heap.objs.size + 1, s₂.heap.objs.size], _, st₂, μ₂, hq, Src.enum hB.1 hne h1 h2 hit, ⟨⟨⟨_, he⟩, hi, hl⟩, rl.carry g.step.carry, ha⟩,
      (fun b hb => (a₁.trans a₂).fresh hI (fr b hb)), (fun b hb q => a₂.inv.fresh' (fr b hb) (List.mem_append.mpr (.inl q))), aa⟩
end
end Mine

/-! X9 -/
namespace Mine

theorem cellsFrom_acc : ∀ (names : List (Str × NameKind)) (k : Nat) (acc : List (Str × Addr)), cellsFrom k names acc = cellsFrom k names [] ++ acc
  | [], _, _ => rfl
  | (x, kd) :: r, k, acc => by
    unfold cellsFrom
    split
    · rw [cellsFrom_acc r (k + 1) ((x, k) :: acc), cellsFrom_acc r (k + 1) [(x, k)], List.append_assoc]; rfl
    · exact cellsFrom_acc r k acc

theorem lookup_app {α : Type} {l k : List (Str × α)} {x : Str} : (l ++ k).lookup x = (l.lookup x).or (k.lookup x) := List.lookup_append

inductive ClOk (env : Env) : List (Str × Addr) → Prop
  | nil : ClOk env []
  | cons {x : Str} {c : Addr} {r : List (Str × Addr)} : env.cells.lookup x = some c → ClOk env r → ClOk env ((x, c) :: r)
theorem ClOk.get {env : Env} : ∀ {cl : List (Str × Addr)}, ClOk env cl → ∀ x c, cl.lookup x = some c → env.cells.lookup x = some c
  | _, .nil, _, _, e => by simp at e
  | _, .cons (x := y) h r, x, c, e => by
    rw [List.lookup_cons] at e
    cases q : x == y with
    | true => rw [q] at e; cases e; rw [beq_iff_eq.mp q]; exact h
    | false => rw [q] at e; exact r.get x c e

noncomputable abbrev cE (scope : Scope) (cl : List (Str × Addr)) (env : Env) (C : Addr) : Env := compEnvC scope (cellsFrom (C + 1) scope.names cl) C env
noncomputable abbrev cO (scope : Scope) (C : Addr) : List (Str × Addr) := cellsFrom (C + 1) scope.names []

/-- a name of the frame around that a block sees -/
structure VisN (env : Env) (scope : Scope) (cl : List (Str × Addr)) (x : Str) : Prop where
  out : env.kindOf x = some .cell ∨ env.kindOf x = some .free
  ins : (relabel scope env).names.lookup x = some .cell ∨ (relabel scope env).names.lookup x = some .free
  cd : (x == ("__classdict__" : Str)) = false
  at_ : ∀ C, (cellsFrom (C + 1) scope.names cl).lookup x = env.cells.lookup x
inductive VisAll (env : Env) (scope : Scope) (cl : List (Str × Addr)) (r : List (Str × V)) : List (Str × V) → Prop
  | nil : VisAll env scope cl r []
  | cons {x : Str} {v : V} {k : List (Str × V)} : r.lookup x = some v → VisN env scope cl x → VisAll env scope cl r k → VisAll env scope cl r ((x, v) :: k)
theorem VisAll.get {env : Env} {scope : Scope} {cl : List (Str × Addr)} {r : List (Str × V)} : ∀ {k : List (Str × V)}, VisAll env scope cl r k → ∀ x v, k.lookup x = some v → r.lookup x = some v ∧ VisN env scope cl x
  | _, .nil, _, _, e => by simp at e
  | _, .cons (x := y) h q r, x, c, e => by
    rw [List.lookup_cons] at e
    cases b : x == y with
    | true => rw [b] at e; cases e; rw [beq_iff_eq.mp b]; exact ⟨h, q⟩
    | false => rw [b] at e; exact r.get x c e

section
variable {base : Heap} {env : Env} {oc : List (Str × Addr)} {X : List Addr} {st : St} {μ : List Addr} {h : Heap}

/-- a thing that only the ground holds apart is changed -/
theorem Inv.touch {h' : Heap} {D : Addr} (I : Inv base env oc X st μ h) (hD : D ∈ X) (hs : Heap.SameBut D h h') (hl : ∃ o, h'.get? D = some o ∧ isSeq o) (hn : ∃ o, h.get? D = some o ∧ isSeq o) : Inv base env oc X st μ h' := by
  have k : ∀ b o, b ∉ [D] → h.get? b = some o → h'.get? b = some o := fun b o hb e => (hs.2 b (fun q => hb (by rw [q]; exact .head _))).trans e
  have hx := I.xs D hD
  have no : ∀ b, b ∈ ow env oc st μ → b ∉ [D] := fun b hb q => hx.1 (List.mem_singleton.mp q ▸ hb)
  have kc : Carry h (ow env oc st μ ++ X) h' (ow env oc st μ ++ X) := carry_of k fun b hb => .inl (by rw [List.mem_singleton.mp hb]; exact List.mem_append.mpr (.inr hD))
  have hcl : ∀ c v, h.IsCell c v → c ∉ [D] := fun c v ⟨o, e, hd⟩ q => by
    obtain ⟨o', e', xs, n, hd'⟩ := hn
    rw [List.mem_singleton.mp q, e'] at e; cases e
    rw [hd'] at hd; cases hd
  exact {
    kind := I.kind
    occ := I.occ
    cinj := I.cinj
    bas := fun b o e => ⟨k b o (fun q => (I.bas b o e).2.2 (List.mem_singleton.mp q ▸ hD)) (I.bas b o e).1, (I.bas b o e).2⟩
    nd := I.nd
    len := I.len
    seqs := fun a ha => by
      by_cases q : a = D
      · rw [q]; exact hl
      · obtain ⟨o, e, hs⟩ := I.seqs a ha
        exact ⟨o, k a o (fun p => q (List.mem_singleton.mp p)) e, hs⟩
    xs := fun b hb => by
      refine ⟨(I.xs b hb).1, ?_⟩
      by_cases q : b = D
      · rw [q]; obtain ⟨o, e, _⟩ := hl; exact ⟨o, e⟩
      · obtain ⟨o, e⟩ := (I.xs b hb).2
        exact ⟨o, k b o (fun p => q (List.mem_singleton.mp p)) e⟩
    ns := by
      obtain ⟨m, hm⟩ := I.ns
      exact ⟨m, hm.at' fun o e => k _ o (no _ I.loc) e⟩
    cells := fun x c hc => by
      obtain ⟨v, q⟩ := I.cells x c hc
      obtain ⟨o, e, hd⟩ := id q
      exact ⟨v, o, k c o (hcl c v q) e, hd⟩
    clive := fun x c hc => by
      obtain ⟨v, q⟩ := I.clive x c hc
      obtain ⟨o, e, hd⟩ := id q
      exact ⟨v, o, k c o (hcl c v q) e, hd⟩
    names := fun x v e => by
      obtain ⟨u, n, r⟩ := I.names x v e
      exact ⟨u, n.keep k (no _ I.loc) hcl, r.carry kc⟩
    muts := fun i l e => by
      obtain ⟨a, vs, h1, ⟨n, h2⟩, h3⟩ := I.muts i l e
      exact ⟨a, vs, h1, ⟨n, k _ _ (no _ (ow_mut e h1)) h2⟩, h3.carry kc⟩ }

/-- behind a block: the frame around stands again -/
theorem Inv.outer {h' : Heap} {env' : Env} {oc' : List (Str × Addr)} {X' W : List Addr} {st' : St} {μ' : List Addr} (I : Inv base env oc X st μ h) (J : Inv base env' oc' X' st' μ' h') (hX : ∀ b ∈ X, b ∈ X') (pre : μ <+: μ')
    (keep : ∀ b o, b ∉ alive st.H μ → b ∉ W → h.get? b = some o → h'.get? b = some o) (new : ∀ b ∈ alive st'.H μ', b ∉ alive st.H μ → h.get? b = none)
    (hW : ∀ b ∈ W, b ∉ ow env oc st μ ∧ b ∉ X ∧ base.get? b = none ∧ ∀ o, h.get? b = some o → Quiet o) : Inv base env oc X ⟨st.r, st'.H⟩ μ' h' := by
  have nal : ∀ b, b ∈ env.locals :: oc.map (·.2) → b ∉ alive st.H μ := fun b hb q => by
    have nd := I.nd
    rw [← List.cons_append] at nd
    exact (List.nodup_append.mp nd).2.2 b hb b (alive_sub b q) rfl
  have ino : ∀ b, b ∈ env.locals :: oc.map (·.2) → b ∈ ow env oc st μ := fun b hb => by
    rw [ow, ← List.cons_append]; exact List.mem_append.mpr (.inl hb)
  have nW : ∀ b, b ∈ env.locals :: oc.map (·.2) → b ∉ W := fun b hb q => (hW b q).1 (ino b hb)
  have loc : env.locals ∈ env.locals :: oc.map (·.2) := .head _
  have hw : ∀ b, b ∈ ow env oc ⟨st.r, st'.H⟩ μ' → b ∈ env.locals :: oc.map (·.2) ∨ b ∈ alive st'.H μ' := fun b hb => by
    rw [ow, ← List.cons_append] at hb; exact List.mem_append.mp hb
  have apart : ∀ b o, h.get? b = some o → b ∉ ow env oc st μ → b ∉ ow env oc ⟨st.r, st'.H⟩ μ' := fun b o e hb q => by
    rcases hw b q with q | q
    · exact hb (ino b q)
    · have := new b q (fun p => hb (by rw [ow, ← List.cons_append]; exact List.mem_append.mpr (.inr p)))
      rw [this] at e; cases e
  have keep' : ∀ b o, b ∉ ow env oc st μ → b ∉ W → h.get? b = some o → h'.get? b = some o := fun b o hb hw e => keep b o (fun p => hb (by rw [ow, ← List.cons_append]; exact List.mem_append.mpr (.inr p))) hw e
  have kc : Carry h (ow env oc st μ ++ X) h' (ow env oc ⟨st.r, st'.H⟩ μ' ++ X) := fun b o hb e hs => by
    have h1 : b ∉ ow env oc st μ := fun q => hb (List.mem_append.mpr (.inl q))
    refine ⟨keep' b o h1 (fun q => ((hW b q).2.2.2 o e).1 hs) e, fun q => ?_⟩
    rcases List.mem_append.mp q with q | q
    · exact apart b o e h1 q
    · exact hb (List.mem_append.mpr (.inr q))
  obtain ⟨m, hm⟩ := id I.ns
  have hm' : h'.Ns env.locals m := hm.at' fun o e => keep _ o (nal _ loc) (nW _ loc) e
  have cellkeep : ∀ c v, h.IsCell c v → c ∉ alive st.H μ → h'.IsCell c v := fun c v ⟨o, e, hd⟩ hc => ⟨o, keep c o hc (fun q => ((hW c q).2.2.2 o e).2 v hd) e, hd⟩
  have cellal : ∀ c v, h.IsCell c v → c ∉ alive st.H μ := fun c v ⟨o, e, hd⟩ q => by
    obtain ⟨i, l, h1, h2⟩ := alive_at q
    obtain ⟨a, vs, e', ⟨n, ho⟩, _⟩ := I.muts i l h1
    rw [h2] at e'; cases e'
    rw [ho] at e; cases e; cases hd
  exact {
    kind := I.kind
    occ := I.occ
    cinj := I.cinj
    bas := fun b o e => by
      have q := I.bas b o e
      exact ⟨keep' b o q.2.1 (fun p => by rw [(hW b p).2.2.1] at e; cases e) q.1, apart b o q.1 q.2.1, q.2.2⟩
    nd := by
      rw [← List.cons_append]
      have nd := I.nd
      rw [← List.cons_append] at nd
      refine List.nodup_append.mpr ⟨(List.nodup_append.mp nd).1, (List.nodup_append.mp (List.nodup_cons.mp J.nd).2).2.1, fun a ha b hb e => ?_⟩
      subst e
      obtain ⟨o, ho, hs⟩ := J.seqs a hb
      rcases List.mem_cons.mp ha with rfl | ha
      · obtain ⟨o', _, _, ho', hd', _⟩ := hm'
        rw [ho] at ho'; cases ho'
        obtain ⟨xs, n, q⟩ := hs
        rw [q] at hd'; cases hd'
      · obtain ⟨p, hp, rfl⟩ := List.mem_map.mp ha
        obtain ⟨v, hv⟩ := I.cells p.1 p.2 hp
        obtain ⟨o', ho', hd'⟩ := cellkeep _ v hv (cellal _ v hv)
        rw [ho] at ho'; cases ho'
        obtain ⟨xs, n, q⟩ := hs
        rw [q] at hd'; cases hd'
    len := J.len
    seqs := J.seqs
    xs := fun b hb => by
      obtain ⟨h1, o, e⟩ := I.xs b hb
      exact ⟨apart b o e h1, o, keep' b o h1 (fun q => (hW b q).2.1 hb) e⟩
    ns := ⟨m, hm'⟩
    cells := fun x c hc => by
      obtain ⟨v, hv⟩ := I.cells x c hc
      exact ⟨v, cellkeep c v hv (cellal c v hv)⟩
    clive := fun x c hc => by
      obtain ⟨v, hv⟩ := I.clive x c hc
      exact ⟨v, cellkeep c v hv (cellal c v hv)⟩
    names := fun x v e => by
      obtain ⟨u, n, r⟩ := I.names x v e
      refine ⟨u, ?_, ?_⟩
      · rcases n with ⟨a, m', hm, e⟩ | ⟨a, cd, c, e, q⟩
        · exact .inl ⟨a, m', hm.at' fun o e => keep _ o (nal _ loc) (nW _ loc) e, e⟩
        · exact .inr ⟨a, cd, c, e, cellkeep c _ q (cellal c _ q)⟩
      · cases r with
        | t r => exact .t (r.carry kc)
        | m q => exact .m (prefix_get pre q)
    muts := fun i l e => by
      obtain ⟨a, vs, h1, h2, h3⟩ := J.muts i l e
      refine ⟨a, vs, h1, h2, h3.carry fun b o hb e hs => ⟨e, fun q => ?_⟩⟩
      rcases List.mem_append.mp q with q | q
      · rcases hw b q with q | q
        · rcases List.mem_cons.mp q with rfl | q
          · obtain ⟨o', _, _, ho', hd', _⟩ := hm'
            rw [e] at ho'; cases ho'
            obtain ⟨xs, n, q⟩ := hs
            rw [q] at hd'; cases hd'
          · obtain ⟨p, hp, rfl⟩ := List.mem_map.mp q
            obtain ⟨v, hv⟩ := I.cells p.1 p.2 hp
            obtain ⟨o', ho', hd'⟩ := cellkeep _ v hv (cellal _ v hv)
            rw [e] at ho'; cases ho'
            obtain ⟨xs, n, q⟩ := hs
            rw [q] at hd'; cases hd'
        · exact hb (List.mem_append.mpr (.inl (.tail _ (List.mem_append.mpr (.inr q)))))
      · exact hb (List.mem_append.mpr (.inr (hX b q))) }
end

section
variable {G : Wd} {n : Nat} {env : Env} {oc : List (Str × Addr)} {X : List Addr} {st st' : St} {μ : List Addr} {s : Shared}

/-- the frame of a block -/
theorem newBlock_wp {A : Around} {E : Value → Shared → Prop} {M : Model} {scope : Scope} {cl : List (Str × Addr)} {Q : Env → Shared → Prop}
    (h : ∀ h', h'.Ns s.heap.objs.size (fun _ => none) → (∀ b o, s.heap.get? b = some o → h'.get? b = some o) → CellsOk h' (s.heap.objs.size + 1) (cO scope s.heap.objs.size) →
      Q { scope := scope, locals := s.heap.objs.size, globals := env.globals, cells := cellsFrom (s.heap.objs.size + 1) scope.names cl, qual := env.qual, func := none, code := env.code, frame := env.frame, builtins := env.builtins } { s with heap := h' }) :
    wpAny M A (newFunctionEnv scope env.globals cl [] env.qual none .none (some env)) Q E s := by
  simp only [newFunctionEnv, Option.isSome_some, if_true]
  refine wpAny_bind (wpAny_alloc ?_)
  refine wpAny_bind (wpAny_layCells _ (fun name kind cells => by cases hkc : kind == NameKind.cell <;> simp [hkc]) _ _ _ _ ?_)
  have ok := cellsFrom_ok scope.names (s.heap.push { cls := .type "dict", data := .dict #[] }) (s.heap.objs.size + 1) [] ⟨fun _ _ hm => (nomatch hm), List.Pairwise.nil⟩ (by rw [Heap.size_push]; exact Nat.le_refl _)
  rw [Heap.size_push] at ok
  rw [show ({ s with heap := s.heap.push { cls := .type "dict", data := .dict #[] } } : Shared).heap.objs.size = s.heap.objs.size + 1 from Heap.size_push ..]
  simp only [List.forIn_nil]
  refine wpAny_bind (wpAny_pure (wpAny_pure ?_))
  exact h _ ((Heap.Ns.new s.heap (.type "dict")).keeps (pushCells_keeps _ _)) (fun b o e => pushCells_keeps _ _ b o (Heap.get?_push_of_some _ e)) ok

theorem ge_fresh {h : Heap} {b : Addr} (hb : h.objs.size ≤ b) : h.get? b = none := by
  cases e : h.get? b with
  | none => rfl
  | some o => exact absurd (Heap.lt_size e) (Nat.not_lt.mpr hb)

/-- a block begins -/
theorem Inv.block {base : Heap} {h h' : Heap} {scope : Scope} {cl : List (Str × Addr)} {C D : Addr} {rin : List (Str × V)} (I : Inv base env oc X st μ h) (hkind : scope.kind = .function) (hcl : ClOk env cl) (hv : VisAll env scope cl st.r rin)
    (k : ∀ b o, h.get? b = some o → h'.get? b = some o) (hC : h'.Ns C fun _ => none) (hcells : CellsOk h' (C + 1) (cO scope C)) (hD : h.objs.size ≤ D) (hDC : D < C) (hDl : ∃ o, h'.get? D = some o) :
    Inv base (cE scope cl env C) (cO scope C) (D :: X) ⟨rin, st.H⟩ μ h' := by
  have hz : h.objs.size ≤ C := Nat.le_trans hD (Nat.le_of_lt hDC)
  have cge : ∀ x c, (x, c) ∈ cO scope C → C < c := fun x c hc => (hcells.empty x c hc).2
  have lt : ∀ b o, h.get? b = some o → b < D := fun b o e => Nat.lt_of_lt_of_le (Heap.lt_size e) hD
  have hw : ∀ b, b ∈ ow (cE scope cl env C) (cO scope C) ⟨rin, st.H⟩ μ → C ≤ b ∨ b ∈ alive st.H μ := fun b hb => by
    rcases List.mem_cons.mp hb with rfl | hb
    · exact .inl (Nat.le_refl _)
    · rcases List.mem_append.mp hb with hb | hb
      · obtain ⟨p, hp, rfl⟩ := List.mem_map.mp hb
        exact .inl (Nat.le_of_lt (cge _ _ hp))
      · exact .inr hb
  have nw : ∀ b o, h.get? b = some o → b ∉ alive st.H μ → b ∉ ow (cE scope cl env C) (cO scope C) ⟨rin, st.H⟩ μ := fun b o e hb q => by
    rcases hw b q with q | q
    · exact absurd (Nat.lt_trans (lt b o e) hDC) (Nat.not_lt.mpr q)
    · exact hb q
  have al : ∀ b, b ∉ ow env oc st μ → b ∉ alive st.H μ := fun b hb q => hb (.tail _ (List.mem_append.mpr (.inr q)))
  have kc : Carry h (ow env oc st μ ++ X) h' (ow (cE scope cl env C) (cO scope C) ⟨rin, st.H⟩ μ ++ (D :: X)) := fun b o hb e _ => by
    refine ⟨k b o e, fun q => ?_⟩
    rcases List.mem_append.mp q with q | q
    · exact nw b o e (al b fun p => hb (List.mem_append.mpr (.inl p))) q
    · rcases List.mem_cons.mp q with rfl | q
      · exact Nat.lt_irrefl _ (lt _ o e)
      · exact hb (List.mem_append.mpr (.inr q))
  have clv : ∀ x c, cl.lookup x = some c → c < D := fun x c e => by
    obtain ⟨v, o, ho, _⟩ := I.clive x c (hcl.get x c e)
    exact lt c o ho
  have look : ∀ x c, (cE scope cl env C).cells.lookup x = some c → (cO scope C).lookup x = some c ∨ ((cO scope C).lookup x = none ∧ cl.lookup x = some c) := fun x c e => by
    have e : (cellsFrom (C + 1) scope.names cl).lookup x = some c := e
    rw [cellsFrom_acc, lookup_app] at e
    cases q : (cO scope C).lookup x with
    | none => exact .inr ⟨rfl, by rw [show List.lookup x (cellsFrom (C + 1) scope.names []) = none from q] at e; simpa using e⟩
    | some d => exact .inl (by rw [show List.lookup x (cellsFrom (C + 1) scope.names []) = some d from q] at e; simpa using e)
  exact {
    kind := hkind
    occ := fun x c e => by
      show (cellsFrom (C + 1) scope.names cl).lookup x = some c
      rw [cellsFrom_acc, lookup_app, show List.lookup x (cellsFrom (C + 1) scope.names []) = some c from e]; rfl
    cinj := fun x y c e e' => by
      rcases look x c e with e | ⟨_, e⟩ <;> rcases look y c e' with e' | ⟨_, e'⟩
      · exact name_of_addr hcells.apart (mem_of_lookup e) (mem_of_lookup e')
      · exact absurd (Nat.lt_trans (clv y c e') hDC) (Nat.not_lt.mpr (Nat.le_of_lt (cge x c (mem_of_lookup e))))
      · exact absurd (Nat.lt_trans (clv x c e) hDC) (Nat.not_lt.mpr (Nat.le_of_lt (cge y c (mem_of_lookup e'))))
      · exact I.cinj x y c (hcl.get x c e) (hcl.get y c e')
    bas := fun b o e => by
      have q := I.bas b o e
      refine ⟨k b o q.1, nw b o q.1 (al b q.2.1), fun p => ?_⟩
      rcases List.mem_cons.mp p with rfl | p
      · exact Nat.lt_irrefl _ (lt _ o q.1)
      · exact q.2.2 p
    nd := by
      have hμ : ∀ a ∈ μ, a < D := fun a ha => by obtain ⟨o, e, _⟩ := I.seqs a ha; exact lt a o e
      refine List.nodup_cons.mpr ⟨fun q => ?_, List.nodup_append.mpr ⟨?_, (List.nodup_append.mp (List.nodup_cons.mp I.nd).2).2.1, fun a ha b hb e => ?_⟩⟩
      · rcases List.mem_append.mp q with q | q
        · obtain ⟨p, hp, e⟩ := List.mem_map.mp q
          have := cge p.1 p.2 hp
          rw [e] at this
          exact Nat.lt_irrefl _ this
        · exact Nat.lt_irrefl _ (Nat.lt_trans (hμ _ q) hDC)
      · exact List.pairwise_map.mpr hcells.apart
      · subst e
        obtain ⟨p, hp, e⟩ := List.mem_map.mp ha
        have := cge p.1 p.2 hp
        rw [e] at this
        exact Nat.lt_irrefl _ (Nat.lt_trans (Nat.lt_trans (hμ _ hb) hDC) this)
    len := I.len
    seqs := fun a ha => by obtain ⟨o, e, hs⟩ := I.seqs a ha; exact ⟨o, k a o e, hs⟩
    xs := fun b hb => by
      rcases List.mem_cons.mp hb with rfl | hb
      · refine ⟨fun q => ?_, hDl⟩
        rcases hw _ q with q | q
        · exact absurd hDC (Nat.not_lt.mpr q)
        · obtain ⟨o, e, _⟩ := I.seqs _ (alive_sub _ q)
          exact Nat.lt_irrefl _ (lt _ o e)
      · obtain ⟨h1, o, e⟩ := I.xs b hb
        exact ⟨nw b o e (al b h1), o, k b o e⟩
    ns := ⟨_, hC⟩
    cells := fun x c hc => ⟨_, (hcells.empty x c hc).1⟩
    clive := fun x c e => by
      rcases look x c e with e | ⟨_, e⟩
      · exact ⟨_, (hcells.empty x c (mem_of_lookup e)).1⟩
      · obtain ⟨v, hv⟩ := I.clive x c (hcl.get x c e)
        exact ⟨v, hv.keeps k⟩
    names := fun x v e => by
      obtain ⟨e, q⟩ := hv.get x v e
      obtain ⟨u, nm, r⟩ := I.names x v e
      refine ⟨u, ?_, ?_⟩
      · rcases nm with ⟨a, _⟩ | ⟨_, _, c, ec, hc⟩
        · rcases q.out with p | p <;> rw [a] at p <;> cases p
        · exact .inr ⟨q.ins, q.cd, c, (q.at_ C).trans ec, hc.keeps k⟩
      · cases r with
        | t r => exact .t (r.carry kc)
        | m p => exact .m p
    muts := fun i l e => by
      obtain ⟨a, vs, h1, ⟨m, h2⟩, h3⟩ := I.muts i l e
      exact ⟨a, vs, h1, ⟨m, k _ _ h2⟩, h3.carry kc⟩ }
end
end Mine

/-! X10 -/
namespace Mine

section
variable {prog : Program} {w : World} {A : Around} {R : Result → Shared → Prop} {s : Shared}
/-- the turns of a block -/
theorem compLoop_any {elt target iter : Expr} {scope : Scope} {pos : Pos} {it acc : Value} {env : Env} (I : Nat → Shared → Prop)
    (turn : ∀ n s, I n s → wpAny (model prog w) A (pyNext it) (fun r s₁ => match r with
      | none => R (.ok .next) s₁
      | some v => wpAny (model prog w) A (letOwnedTupleGo target it v) (fun _ s₁' => wpAny (model prog w) A (assign target env v) (fun _ s₂ => wpAny (model prog w) A (eval elt env) (fun x s₃ =>
          wpAny (model prog w) A (call (.builtin "list.append") [acc, x]) (fun _ s₄ => ∃ m, m < n ∧ I m s₄) (fun _ _ => False) s₃) (fun _ _ => False) s₂) (fun _ _ => False) s₁') (fun _ _ => False) s₁) (fun _ _ => False) s)
    (n : Nat) (h : I n s) : codeAny (model prog w) A (.compLoop (.ListComp elt [⟨target, iter, [], 0⟩] scope pos) 0 it acc env) R s := by
  refine codeAny_loop rfl I (fun n s hI => ?_) n h
  show wpAny _ _ ((compTurn (.ListComp elt [⟨target, iter, [], 0⟩] scope pos) 0 it acc env).onRaise (fun x => do noteFrame x env; theTreesLotGoes x)) _ _ s
  refine wpAny_noted ?_
  rw [compTurn_list1]
  refine wpAny_bind (wpAny_standAt (wpAny_bind (wpAny_mono (turn n s hI) (fun r s₁ h₁ => ?_) fun _ _ h' => h'.elim)))
  cases r with
  | none => exact wpAny_pure h₁
  | some v =>
    refine wpAny_bind (wpAny_mono h₁ (fun _ s₁' h₁' => ?_) fun _ _ h' => h'.elim)
    exact wpAny_bind (wpAny_mono h₁' (fun _ s₂ h₂ => wpAny_bind (wpAny_bind (wpAny_mono h₂ (fun x s₃ h₃ => wpAny_bind (wpAny_mono h₃
      (fun _ s₄ h₄ => wpAny_pure (wpAny_pure ⟨rfl, h₄⟩)) fun _ _ h' => h'.elim)) fun _ _ h' => h'.elim))) fun _ _ h' => h'.elim)
end

section
variable {G : Wd} {n : Nat} {env : Env} {oc : List (Str × Addr)} {X : List Addr} {st st' : St} {μ : List Addr} {s : Shared}

theorem comp_loop {A : Around} {elt tgt iter : Expr} {scope : Scope} {pos : Pos} {cl : List (Str × Addr)} {xs : List Str} {it : Value} {W : List Addr} {k : Nat} {item outs : Nat → T} {S : Nat → List Addr → Heap → Prop} {D C : Addr} {s₂ s₄ : Shared} {st₁ : St} {μ₁ : List Addr}
    {rin : List (Str × V)} {J : Nat → St → Prop} {R : Result → Shared → Prop} (hB : Bud n A) (src : Src G A W tgt it k item S)
    (I₄ : Inv G.base (cE scope cl env C) (cO scope C) (D :: X) ⟨rin, st₁.H⟩ μ₁ s₄.heap) (hs₄ : ∃ h tk, s₄ = { s₂ with heap := h, toks := tk }) (k24 : ∀ b o, s₂.heap.get? b = some o → s₄.heap.get? b = some o)
    (hS : S 0 (ow (cE scope cl env C) (cO scope C) ⟨rin, st₁.H⟩ μ₁ ++ (D :: X)) s₄.heap) (hW : ∀ b ∈ W, b ∉ ow (cE scope cl env C) (cO scope C) ⟨rin, st₁.H⟩ μ₁ ∧ b ∉ D :: X ∧ G.base.get? b = none)
    (hD : s₄.heap.PlainList D #[]) (hDf : s₂.heap.get? D = none) (hCf : ∀ b o, s₂.heap.get? b = some o → b ∉ C :: (cO scope C).map (·.2)) (hk : k ≤ 1000000) (hb : Bindables (cE scope cl env C) (cO scope C) xs)
    (hJ0 : J 0 ⟨rin, st₁.H⟩)
    (hJ : ∀ i st', i < k → J i st' → ∃ f, Tgt tgt (item i) f xs ∧ AE G n (cE scope cl env C) (cO scope C) elt (fun v st'' => ∃ st₃, freeze1 v st'' = some (outs i, st₃) ∧ J (i + 1) st₃) (f st'))
    (hR : ∀ s' st' μ' vs, J k st' → Inv G.base (cE scope cl env C) (cO scope C) (D :: X) st' μ' s'.heap → s'.heap.PlainList D vs.toArray → RTs s'.heap (ow (cE scope cl env C) (cO scope C) st' μ' ++ (D :: X)) vs ((List.range k).map outs) →
      (∃ h tk, s' = { s₂ with heap := h, toks := tk }) → (∀ b o, b ∉ alive st₁.H μ₁ → b ∉ W → s₂.heap.get? b = some o → s'.heap.get? b = some o) → (∀ b ∈ alive st'.H μ', b ∉ alive st₁.H μ₁ → s₂.heap.get? b = none) → μ₁ <+: μ' → R (.ok .next) s') :
    codeAny (model G.prog G.w) A (.compStart (.ListComp elt [⟨tgt, iter, [], 0⟩] scope pos) 0 it (.ref D) (cE scope cl env C)) R s₄ := by
  have loop : codeAny (model G.prog G.w) A (.compLoop (.ListComp elt [⟨tgt, iter, [], 0⟩] scope pos) 0 it (.ref D) (cE scope cl env C)) R s₄ := by
    refine compLoop_any (fun m s' => ∃ i st' μ' vs, i ≤ k ∧ m = k + 1 - i ∧ J i st' ∧ Inv G.base (cE scope cl env C) (cO scope C) (D :: X) st' μ' s'.heap ∧ s'.heap.PlainList D vs.toArray ∧ RTs s'.heap (ow (cE scope cl env C) (cO scope C) st' μ' ++ (D :: X)) vs ((List.range i).map outs) ∧
      (∃ h tk, s' = { s₂ with heap := h, toks := tk }) ∧ (∀ b o, b ∉ alive st₁.H μ₁ → b ∉ W → s₂.heap.get? b = some o → s'.heap.get? b = some o) ∧ (∀ b ∈ alive st'.H μ', b ∉ alive st₁.H μ₁ → s₂.heap.get? b = none) ∧ μ₁ <+: μ' ∧
      S i (ow (cE scope cl env C) (cO scope C) st' μ' ++ (D :: X)) s'.heap ∧ ∀ b ∈ W, b ∉ ow (cE scope cl env C) (cO scope C) st' μ') ?_ (k + 1)
      ⟨0, _, μ₁, [], Nat.zero_le _, rfl, hJ0, I₄, hD, .nil, hs₄, fun b o _ _ e => k24 b o e, fun b hb hn => absurd hb hn, List.prefix_refl _, hS, fun b hb => (hW b hb).1⟩
    rintro m s₅ ⟨i, st₅, μ₅, vs, hi, rfl, hJi, I₅, hp₅, hr₅, hs₅, hk₅, hn₅, hpre₅, hS₅, hW₅⟩
    have hq := src.live i _ _ hS₅
    have hDX : D ∈ D :: X := .head _
    by_cases hlt : i < k
    · refine wpAny_mono (src.next i _ s₅ hlt (fun b hb => I₅.live hb) hS₅) (fun r s₆ ⟨v, hr, h₆⟩ => ?_) fun _ _ x => x
      subst hr
      refine wpAny_mono h₆ (fun _ s₇ ⟨rv, hS₇, e₇, k₇⟩ => ?_) fun _ _ x => x
      have quietW : ∀ b ∈ W, ∀ o, s₅.heap.get? b = some o → Quiet o := fun b hb o e => by obtain ⟨o', e', q⟩ := hq b hb; rw [e] at e'; cases e'; exact q
      have I₇ : Inv G.base (cE scope cl env C) (cO scope C) (D :: X) st₅ μ₅ s₇.heap := I₅.turn k₇ fun b hb => ⟨hW₅ b hb, (hW b hb).2.1, (hW b hb).2.2, quietW b hb⟩
      have kc57 : Carry s₅.heap (ow (cE scope cl env C) (cO scope C) st₅ μ₅ ++ (D :: X)) s₇.heap (ow (cE scope cl env C) (cO scope C) st₅ μ₅ ++ (D :: X)) := carry_of k₇ fun b hb => .inr fun o e => (quietW b hb o e).1
      obtain ⟨f, ht, hbody⟩ := hJ i st₅ hlt hJi
      refine wpAny_mono (tgt_wp hB.1 ht hb I₇ rv) (fun _ s₈ a₈ => ?_) fun _ _ x => x
      refine wpAny_mono (hbody A _ μ₅ s₈ hB a₈.inv) (fun y s₉ ⟨y', st₉, μ₉, ⟨st₁₀, hf, hJ'⟩, r₉, a₉⟩ => ?_) fun _ _ x => x
      obtain ⟨I₁₀, r₁₀, sub₁₀⟩ := freeze1_ok a₉.inv r₉ hf
      have a₁₀ := (a₈.trans a₉).trans (After.sub (G := G) I₁₀ sub₁₀)
      have hl7 := src.live (i + 1) _ _ hS₇
      have Dn : D ∉ ow (cE scope cl env C) (cO scope C) st₅ μ₅ := (I₅.xs D hDX).1
      have DW : D ∉ W := fun q => (hW D q).2.1 hDX
      have hp₇ : s₇.heap.PlainList D vs.toArray := hp₅.at fun o e => k₇ D o DW e
      have hp₉ : s₉.heap.PlainList D vs.toArray := hp₇.at fun o e => a₁₀.step.keep D o Dn e
      have hr₉ := ((hr₅.carry kc57).carry a₁₀.step.carry)
      have hlen := hr₉.length
      refine wpAny_list_append_plain hp₉ (fun h' hp' hs' => ?_) (by rw [List.size_toArray, hlen, List.length_map, List.length_range]; exact Nat.le_trans (Nat.le_trans hi hk) (by decide))
      have hseq : ∃ o, s₉.heap.get? D = some o ∧ isSeq o := by obtain ⟨c, e⟩ := hp₉; exact ⟨_, e, _, _, rfl⟩
      have hseq' : ∃ o, h'.get? D = some o ∧ isSeq o := by obtain ⟨c, e⟩ := hp'; exact ⟨_, e, _, _, rfl⟩
      have kD : ∀ b o, b ∉ [D] → s₉.heap.get? b = some o → h'.get? b = some o := fun b o hb e => (hs'.2 b (fun q => hb (by rw [q]; exact .head _))).trans e
      have kc' : Carry s₉.heap (ow (cE scope cl env C) (cO scope C) st₁₀ μ₉ ++ (D :: X)) h' (ow (cE scope cl env C) (cO scope C) st₁₀ μ₉ ++ (D :: X)) := carry_of kD fun b hb => .inl (by rw [List.mem_singleton.mp hb]; exact List.mem_append.mpr (.inr hDX))
      have kW7 : ∀ b ∈ W, ∀ o, s₇.heap.get? b = some o → h'.get? b = some o := fun b hb o e => kD b o (fun q => DW (by rw [← List.mem_singleton.mp q]; exact hb)) (a₁₀.step.keep b o (hW₅ b hb) e)
      have nin : ∀ b o, s₂.heap.get? b = some o → b ∉ alive st₁.H μ₁ → b ∉ ow (cE scope cl env C) (cO scope C) st₅ μ₅ := fun b o e hb q => by
        rw [ow, ← List.cons_append] at q
        rcases List.mem_append.mp q with q | q
        · exact hCf b o e q
        · rw [hn₅ b q hb] at e; cases e
      refine ⟨k + 1 - (i + 1), by omega, i + 1, st₁₀, μ₉, vs ++ [y], hlt, rfl, hJ', I₁₀.touch hDX hs' hseq' hseq, by simpa using hp', ?_, ?_, fun b o hb hw e => ?_, fun b hb hnb => ?_, hpre₅.trans a₁₀.pre, ?_, fun b hb => ?_⟩
      · rw [List.range_succ, List.map_append]
        exact (hr₉.carry kc').append (.cons (r₁₀.carry kc') .nil)
      · obtain ⟨_, _, e1⟩ := hs₅
        obtain ⟨_, _, e2⟩ := e₇
        obtain ⟨_, _, e3⟩ := a₁₀.step.same
        exact ⟨h', s₉.toks, by rw [e3, e2, e1]⟩
      · have e5 := hk₅ b o hb hw e
        have e9 := a₁₀.step.keep b o (nin b o e hb) (k₇ b o hw e5)
        exact kD b o (fun q => by rw [List.mem_singleton.mp q, hDf] at e; cases e) e9
      · by_cases q : b ∈ ow (cE scope cl env C) (cO scope C) st₅ μ₅
        · rw [ow, ← List.cons_append] at q
          rcases List.mem_append.mp q with q | q
          · cases e : s₂.heap.get? b with
            | none => rfl
            | some o => exact absurd q (hCf b o e)
          · exact hn₅ b q hnb
        · cases e : s₂.heap.get? b with
          | none => rfl
          | some o =>
            have := a₁₀.step.new b (.tail _ (List.mem_append.mpr (.inr hb))) q
            by_cases hw : b ∈ W
            · obtain ⟨o', e', _⟩ := hl7 b hw
              rw [e'] at this; cases this
            · rw [k₇ b o hw (hk₅ b o hnb hw e)] at this; cases this
      · have e2 : s₉.heap = s₉.heap := rfl
        exact src.move _ _ _ _ _ (src.move _ _ _ _ _ hS₇ a₁₀.step.carry fun b hb o e => a₁₀.step.keep b o (hW₅ b hb) e) kc' fun b hb o e => kD b o (fun q => DW (by rw [← List.mem_singleton.mp q]; exact hb)) e
      · obtain ⟨o, e, _⟩ := hl7 b hb
        exact a₁₀.step.apart (hW₅ b hb) e
    · have : i = k := by omega
      subst this
      refine wpAny_mono (src.done _ s₅ hS₅) (fun r s₆ ⟨hr, e₆, k₆⟩ => ?_) fun _ _ x => x
      subst hr
      have quietW : ∀ b ∈ W, ∀ o, s₅.heap.get? b = some o → Quiet o := fun b hb o e => by obtain ⟨o', e', q⟩ := hq b hb; rw [e] at e'; cases e'; exact q
      have kc : Carry s₅.heap (ow (cE scope cl env C) (cO scope C) st₅ μ₅ ++ (D :: X)) s₆.heap (ow (cE scope cl env C) (cO scope C) st₅ μ₅ ++ (D :: X)) := carry_of k₆ fun b hb => .inr fun o e => (quietW b hb o e).1
      have DW : D ∉ W := fun q => (hW D q).2.1 hDX
      refine hR s₆ st₅ μ₅ vs hJi (I₅.turn k₆ fun b hb => ⟨hW₅ b hb, (hW b hb).2.1, (hW b hb).2.2, quietW b hb⟩) (hp₅.at fun o e => k₆ D o DW e) (hr₅.carry kc) ?_ (fun b o hb hw e => k₆ b o hw (hk₅ b o hb hw e)) hn₅ hpre₅
      obtain ⟨_, _, e1⟩ := hs₅
      obtain ⟨h6, t6, e2⟩ := e₆
      exact ⟨h6, t6, by rw [e2, e1]⟩
  exact codeAny_compStart_list loop (src.self 0 _ s₄ _ _ hS loop)

/-- a block as a whole, up to what is done with its list -/
theorem comp_core {A : Around} {elt tgt iter : Expr} {scope : Scope} {pos ps : Pos} {cl : List (Str × Addr)} {xs : List Str} {use : Option (Value → Sem Unit)} {Q : Value → Shared → Prop} {Ψ : Nat → (Nat → T) → St → Prop} (hB : Bud n A) (hI : Inv G.base env oc X st μ s.heap)
    (hs : ∀ x, foldedSetIterable iter env x = pure x) (hclos : closureFor scope env = pure cl) (hkind : scope.kind = .function) (hnames : ∀ x ∈ scope.names, x.2 = .local → scope.names.lookup x.1 = some .local) (hcl : ClOk env cl)
    (hb : ∀ C, Bindables (cE scope cl env C) (cO scope C) xs)
    (h : ASrc G n env oc tgt iter Ψ st)
    (hΨ : ∀ k item st₁, Ψ k item st₁ → ∃ (rin : List (Str × V)) (J : Nat → St → Prop) (outs : Nat → T), VisAll env scope cl st₁.r rin ∧ J 0 ⟨rin, st₁.H⟩ ∧ k ≤ 1000000 ∧
      (∀ i st', i < k → J i st' → ∃ f, Tgt tgt (item i) f xs ∧ ∀ C, AE G n (cE scope cl env C) (cO scope C) elt (fun v st'' => ∃ st₃, freeze1 v st'' = some (outs i, st₃) ∧ J (i + 1) st₃) (f st')) ∧
      ∀ st' μ' s' D C, J k st' → After G env oc X st μ s ⟨st₁.r, st'.H⟩ μ' s' → RT s'.heap (ow env oc ⟨st₁.r, st'.H⟩ μ' ++ X) (.ref D) (.lst ((List.range k).map outs)) → (∃ m, s'.heap.Ns C m) → C ∉ ow env oc ⟨st₁.r, st'.H⟩ μ' → s.heap.get? C = none →
        compPost (model G.prog G.w) A (fun _ _ => False) use Q (.ref D) C (.ok .next) s') :
    wpAny (model G.prog G.w) A (comprehension (.ListComp elt [⟨tgt, iter, [], 0⟩] scope pos) scope env ps (newList []) false (eval iter env) use) Q (fun _ _ => False) s := by
  refine wpAny_comprehension_free (g := ⟨tgt, iter, [], 0⟩) (gs := []) rfl hs hclos hkind hnames (wpAny_mono (h A X μ s hB hI) (fun x s₁ h₁ => wpAny_mono h₁ (fun it s₂ h₂ => ?_) fun _ _ x => x) fun _ _ x => x)
  obtain ⟨k, item, W, S, st₁, μ₁, hψ, src, hS, hWf, hWo, a₁⟩ := h₂
  obtain ⟨rin, J, outs, hvis, hJ0, hk, hJ, hfin⟩ := hΨ k item st₁ hψ
  refine wpAny_newObj_type (newBlock_wp fun h' hC hkk hcells => ?_)
  have hD : s₂.heap.get? s₂.heap.objs.size = none := get_fresh _
  generalize hD₀ : s₂.heap.objs.size = D at *
  generalize hH : s₂.heap.push { cls := .type "list", dict := none, data := .seq ([] : List Value).toArray } = H3 at *
  have hz : H3.objs.size = D + 1 := by rw [← hH, Heap.size_push, hD₀]
  dsimp only at hC hkk hcells ⊢
  rw [hz] at hC hcells ⊢
  have k23 : ∀ b o, s₂.heap.get? b = some o → H3.get? b = some o := fun b o e => by rw [← hH]; exact push_keep _ _ b o e
  have k24 : ∀ b o, s₂.heap.get? b = some o → h'.get? b = some o := fun b o e => hkk b o (k23 b o e)
  have hDl : h'.PlainList D #[] := ⟨_, hkk D _ (by rw [← hH, ← hD₀]; exact push_new _ _ rfl)⟩
  have I₁ := a₁.inv
  have I₄ := I₁.block (D := D) hkind hcl hvis k24 hC hcells (Nat.le_of_eq hD₀) (Nat.lt_succ_self _) (by obtain ⟨c, e⟩ := hDl; exact ⟨_, e⟩)
  have ltD : ∀ b o, s₂.heap.get? b = some o → b < D := fun b o e => by rw [← hD₀]; exact Heap.lt_size e
  have hCf : ∀ b o, s₂.heap.get? b = some o → b ∉ (D + 1) :: (cO scope (D + 1)).map (·.2) := fun b o e q => by
    have := ltD b o e
    rcases List.mem_cons.mp q with rfl | q
    · exact absurd this (Nat.not_lt.mpr (Nat.le_succ _))
    · obtain ⟨p, hp, rfl⟩ := List.mem_map.mp q
      have h2 : D + 1 + 1 ≤ p.2 := (hcells.empty p.1 p.2 hp).2
      exact absurd this (Nat.not_lt.mpr (Nat.le_trans (Nat.le_succ _) (Nat.le_trans (Nat.le_succ _) h2)))
  have lW := src.live 0 _ _ hS
  have hbW : ∀ b ∈ W, G.base.get? b = none := fun b hb => by
    cases q : G.base.get? b with
    | none => rfl
    | some o => have := (hI.bas b o q).1; rw [hWf b hb] at this; cases this
  have xW : ∀ b ∈ W, b ∉ X := fun b hb q => by obtain ⟨o, ho⟩ := (hI.xs b q).2; rw [hWf b hb] at ho; cases ho
  have nin : ∀ b o, s₂.heap.get? b = some o → b ∉ alive st₁.H μ₁ → b ∉ ow (cE scope cl env (D + 1)) (cO scope (D + 1)) ⟨rin, st₁.H⟩ μ₁ := fun b o e hb q => by
    rw [ow, ← List.cons_append] at q
    rcases List.mem_append.mp q with q | q
    · exact hCf b o e q
    · exact hb q
  have alo : ∀ b, b ∉ ow env oc st₁ μ₁ → b ∉ alive st₁.H μ₁ := fun b hb q => hb (.tail _ (List.mem_append.mpr (.inr q)))
  have kc : Carry s₂.heap (ow env oc st₁ μ₁ ++ X) h' (ow (cE scope cl env (D + 1)) (cO scope (D + 1)) ⟨rin, st₁.H⟩ μ₁ ++ (D :: X)) := fun b o hb e _ => by
    refine ⟨k24 b o e, fun q => ?_⟩
    rcases List.mem_append.mp q with q | q
    · exact nin b o e (alo b fun p => hb (List.mem_append.mpr (.inl p))) q
    · rcases List.mem_cons.mp q with rfl | q
      · exact Nat.lt_irrefl _ (ltD _ o e)
      · exact hb (List.mem_append.mpr (.inr q))
  have hS₄ := src.move _ _ _ _ _ hS kc fun b _ o e => k24 b o e
  refine comp_loop (s₂ := s₂) (st₁ := st₁) (J := J) (outs := outs) (xs := xs) hB src I₄ ⟨_, _, rfl⟩ k24 hS₄ (fun b hb => ?_) hDl hD hCf hk (hb _) hJ0 (fun i st' hi hj => ?_) fun s' st' μ' vs hJk I' hp hr hsame hkeep hnew hpre => ?_
  · obtain ⟨o, e, _⟩ := lW b hb
    refine ⟨nin b o e (alo b (hWo b hb)), fun q => ?_, hbW b hb⟩
    rcases List.mem_cons.mp q with rfl | q
    · exact Nat.lt_irrefl _ (ltD _ o e)
    · exact xW b hb q
  · obtain ⟨f, ht, hbody⟩ := hJ i st' hi hj
    exact ⟨f, ht, hbody _⟩
  · have quietW : ∀ b ∈ W, ∀ o, s₂.heap.get? b = some o → Quiet o := fun b hb o e => by obtain ⟨o', e', q⟩ := lW b hb; rw [e] at e'; cases e'; exact q
    have IO := I₁.outer I' (fun b hb => .tail _ hb) hpre hkeep hnew fun b hb => ⟨hWo b hb, xW b hb, hbW b hb, quietW b hb⟩
    have hwo : ∀ b, b ∈ ow env oc ⟨st₁.r, st'.H⟩ μ' → b ∈ env.locals :: oc.map (·.2) ∨ b ∈ alive st'.H μ' := fun b hb => by rw [ow, ← List.cons_append] at hb; exact List.mem_append.mp hb
    have owl : ∀ b, b ∈ env.locals :: oc.map (·.2) → b ∈ ow env oc st₁ μ₁ := fun b hb => by rw [ow, ← List.cons_append]; exact List.mem_append.mpr (.inl hb)
    have aft : After G env oc X st μ s ⟨st₁.r, st'.H⟩ μ' s' := by
      refine ⟨IO, a₁.pre.trans hpre, ?_, fun b o hb e => ?_, fun b hb hn => ?_⟩
      · obtain ⟨_, _, e1⟩ := a₁.step.same
        obtain ⟨h6, t6, e2⟩ := hsame
        exact ⟨h6, t6, by rw [e2, e1]⟩
      · refine hkeep b o (alo b (a₁.step.apart hb e)) (fun q => ?_) (a₁.step.keep b o hb e)
        rw [hWf b q] at e; cases e
      · cases e : s.heap.get? b with
        | none => rfl
        | some o =>
          have h2 := a₁.step.keep b o hn e
          have h3 := a₁.step.apart hn e
          rcases hwo b hb with q | q
          · exact absurd (owl b q) h3
          · rw [hnew b q (alo b h3)] at h2; cases h2
    have IDx := (I'.xs D (.head _)).1
    have oi : ∀ b o, s'.heap.get? b = some o → isSeq o → b ∉ ow (cE scope cl env (D + 1)) (cO scope (D + 1)) st' μ' ++ (D :: X) → b ∉ ow env oc ⟨st₁.r, st'.H⟩ μ' ++ X := fun b o e hseq hb q => by
      rcases List.mem_append.mp q with q | q
      · rcases hwo b q with q | q
        · rcases List.mem_cons.mp q with rfl | q
          · obtain ⟨m, o', _, _, ho', hd', _⟩ := IO.ns
            rw [e] at ho'; cases ho'
            obtain ⟨xs, n, q⟩ := hseq
            rw [q] at hd'; cases hd'
          · obtain ⟨p, hp, rfl⟩ := List.mem_map.mp q
            obtain ⟨v, o', ho', hd'⟩ := IO.cells p.1 p.2 hp
            rw [e] at ho'; cases ho'
            obtain ⟨xs, n, q⟩ := hseq
            rw [q] at hd'; cases hd'
        · exact hb (List.mem_append.mpr (.inl (.tail _ (List.mem_append.mpr (.inr q)))))
      · exact hb (List.mem_append.mpr (.inr (.tail _ q)))
    have Dnot : D ∉ ow env oc ⟨st₁.r, st'.H⟩ μ' ++ X := fun q => by
      rcases List.mem_append.mp q with q | q
      · rcases hwo D q with q | q
        · obtain ⟨o, e⟩ := I₁.live (List.mem_append.mpr (.inl (owl D q)))
          rw [hD] at e; cases e
        · exact IDx (.tail _ (List.mem_append.mpr (.inr q)))
      · obtain ⟨o, e⟩ := (I₁.xs D q).2
        rw [hD] at e; cases e
    have C0 : s₂.heap.get? (D + 1) = none := by
      cases e : s₂.heap.get? (D + 1) with
      | none => rfl
      | some o => exact absurd (ltD _ o e) (Nat.not_lt.mpr (Nat.le_succ _))
    refine hfin st' μ' s' D (D + 1) hJk aft (.lst hp.isList Dnot (hr.carry fun b o hb e hseq => ⟨e, oi b o e hseq hb⟩)) I'.ns (fun q => ?_) (a₁.fresh hI C0)
    rcases hwo _ q with q | q
    · obtain ⟨o, e⟩ := I₁.live (List.mem_append.mpr (.inl (owl _ q)))
      rw [C0] at e; cases e
    · have nd := I'.nd
      exact (List.nodup_cons.mp nd).1 (List.mem_append.mpr (.inr (alive_sub _ q)))
end
end Mine

/-! X11 -/
namespace Mine
section
variable {G : Wd} {n : Nat} {env : Env} {oc : List (Str × Addr)} {X : List Addr} {st st' : St} {μ : List Addr} {s : Shared}

theorem After.letC {μ' : List Addr} {s' : Shared} {C : Addr} {h' : Heap} (a : After G env oc X st μ s st' μ' s') (hI : Inv G.base env oc X st μ s.heap) (hC : ∃ m, s'.heap.Ns C m) (hn : C ∉ ow env oc st' μ') (hf : s.heap.get? C = none) (hs : Heap.SameBut C s'.heap h') :
    After G env oc X st μ s st' μ' { s' with heap := h' } := by
  refine a.turn (W := [C]) hI (fun b hb => by rw [List.mem_singleton.mp hb]; exact hf) (fun b hb => by rw [List.mem_singleton.mp hb]; exact hn) (fun b hb => ?_) ⟨h', s'.toks, rfl⟩ fun b o hb e => (hs.2 b (fun q => hb (by rw [q]; exact .head _))).trans e
  rw [List.mem_singleton.mp hb]
  obtain ⟨m, o, es, ep, ho, hd, _⟩ := hC
  exact ⟨o, ho, Quiet.dict hd⟩

theorem carry_letC {h h' : Heap} {C : Addr} {Y : List Addr} (hC : ∃ m, h.Ns C m) (hs : Heap.SameBut C h h') : Carry h Y h' Y :=
  carry_of (W := [C]) (fun b o hb e => (hs.2 b (fun q => hb (by rw [q]; exact .head _))).trans e) fun b hb => .inr fun o e => by
    rw [List.mem_singleton.mp hb] at e
    obtain ⟨m, o', es, ep, ho, hd, _⟩ := hC
    rw [ho] at e; cases e
    exact (Quiet.dict hd).1

/-- what a block asks -/
noncomputable def CompOk (G : Wd) (n : Nat) (env : Env) (elt tgt : Expr) (scope : Scope) (cl : List (Str × Addr)) (xs : List Str) (Φ : T → St → Prop) (k : Nat) (item : Nat → T) (st₁ : St) : Prop :=
  ∃ (rin : List (Str × V)) (J : Nat → St → Prop) (outs : Nat → T), VisAll env scope cl st₁.r rin ∧ J 0 ⟨rin, st₁.H⟩ ∧ k ≤ 1000000 ∧
      (∀ i st', i < k → J i st' → ∃ f, Tgt tgt (item i) f xs ∧ ∀ C, AE G n (cE scope cl env C) (cO scope C) elt (fun v st'' => ∃ st₃, freeze1 v st'' = some (outs i, st₃) ∧ J (i + 1) st₃) (f st')) ∧
      ∀ st', J k st' → Φ (.lst ((List.range k).map outs)) ⟨st₁.r, st'.H⟩

theorem AE_comp {elt tgt iter : Expr} {scope : Scope} {pos : Pos} {cl : List (Str × Addr)} {xs : List Str} {Φ : V → St → Prop} (hs : ∀ x, foldedSetIterable iter env x = pure x) (hclos : closureFor scope env = pure cl) (hkind : scope.kind = .function)
    (hnames : ∀ x ∈ scope.names, x.2 = .local → scope.names.lookup x.1 = some .local) (hcl : ClOk env cl) (hb : ∀ C, Bindables (cE scope cl env C) (cO scope C) xs)
    (h : ASrc G n env oc tgt iter (CompOk G n env elt tgt scope cl xs (fun x st' => Φ (.t x) st')) st) : AE G n env oc (.ListComp elt [⟨tgt, iter, [], 0⟩] scope pos) Φ st :=
  fun A X μ s hB hI => by
    rw [eval_ListComp]
    refine comp_core hB hI hs hclos hkind hnames hcl hb h fun k item st₁ ⟨rin, J, outs, a, b, c, d, e⟩ => ⟨rin, J, outs, a, b, c, d, fun st' μ' s' D C hJ aft r hC hn hf => ?_⟩
    obtain ⟨m, hm⟩ := id hC
    exact ⟨m, hm, fun h' hs' => ⟨_, _, _, e st' hJ, .t (r.carry (carry_letC hC hs')), aft.letC hI hC hn hf hs'⟩⟩

theorem AS_assign_comp {elt tgt iter : Expr} {scope : Scope} {pos spos : Pos} {x : Str} {px : Pos} {cl : List (Str × Addr)} {xs : List Str} {Φ : F → St → Prop} (hsw : swapsWith (.ListComp elt [⟨tgt, iter, [], 0⟩] scope pos) (some (.Name x px)) spos.line env = pure true)
    (hbx : Bindable env oc x) (hs : ∀ x, foldedSetIterable iter env x = pure x) (hclos : closureFor scope env = pure cl) (hkind : scope.kind = .function)
    (hnames : ∀ x ∈ scope.names, x.2 = .local → scope.names.lookup x.1 = some .local) (hcl : ClOk env cl) (hb : ∀ C, Bindables (cE scope cl env C) (cO scope C) xs)
    (h : ASrc G n env oc tgt iter (CompOk G n env elt tgt scope cl xs (fun y st' => Φ .next (st'.set x (.t y)))) st) : AS G n env oc (.Assign [.Name x px] (.ListComp elt [⟨tgt, iter, [], 0⟩] scope pos) spos) Φ st :=
  fun A X μ s hB hI => by
    rw [exec_Assign_Name_used _ _ _ _ hsw]
    refine wpAny_bind (wpAny_standAt (wpAny_bind ?_))
    show wpAny _ A (do let _ ← comprehension (.ListComp elt [⟨tgt, iter, [], 0⟩] scope pos) scope env _ (newList []) false (eval iter env) (some (assign (.Name x px) env))) _ _ s
    refine wpAny_bind (wpAny_mono (comp_core (use := some (assign (.Name x px) env)) (Q := fun _ s' => ∃ b st' μ', Φ b st' ∧ RF s'.heap (ow env oc st' μ' ++ X) μ' .next b ∧ After G env oc X st μ s st' μ' s') hB hI hs hclos hkind hnames hcl hb h fun k item st₁ ⟨rin, J, outs, a, b, c, d, e⟩ => ⟨rin, J, outs, a, b, c, d, fun st' μ' s' D C hJ aft r hC hn hf => ?_⟩)
      (fun _ s' hq => wpAny_pure (wpAny_pure hq)) fun _ _ x => x)
    show wpAny _ A (do standAt px; bindName env x (.ref D)) _ _ s'
    refine wpAny_bind (wpAny_standAt (wpAny_mono (bind_wp hbx aft.inv (.t r)) (fun _ s₂ a₂ => ?_) fun _ _ x => x))
    obtain ⟨m, hm⟩ := hC
    have hm2 : s₂.heap.Ns C m := hm.at' fun o e => a₂.step.keep C o hn e
    exact ⟨m, hm2, fun h' hs' => ⟨_, _, _, e st' hJ, .next, (aft.trans a₂).letC hI ⟨m, hm2⟩ (by rw [set_ow]; exact hn) hf hs'⟩⟩

/-! a def from within -/
noncomputable abbrev fE (fd : FuncData) (f L : Addr) : Env := newEnv fd.scope L fd.globals (cellsFrom (L + 1) fd.scope.names []) (fd.qualname ++ ".<locals>.") (some f) fd.code none fd.builtins
noncomputable abbrev fO (fd : FuncData) (L : Addr) : List (Str × Addr) := cellsFrom (L + 1) fd.scope.names []

noncomputable def parR : List Str → List T → List (Str × V)
  | x :: xs, y :: ys => (x, .t y) :: parR xs ys
  | _, _ => []

theorem bindL_at {kd : Str → Option NameKind} : ∀ {binds : List (Str × Value)} {m : Str → Option Value} {x : Str}, x ∉ binds.map (·.1) → bindL kd binds m x = m x
  | [], _, _, _ => rfl
  | (y, v) :: r, m, x, h => by
    simp only [List.map_cons, List.mem_cons, not_or] at h
    unfold bindL
    rw [bindL_at h.2]
    split
    · exact if_neg h.1
    · rfl
theorem bindC_at {kd : Str → Option NameKind} : ∀ {binds : List (Str × Value)} {m : Str → Option Value} {x : Str}, x ∉ binds.map (·.1) → bindC kd binds m x = m x
  | [], _, _, _ => rfl
  | (y, v) :: r, m, x, h => by
    simp only [List.map_cons, List.mem_cons, not_or] at h
    unfold bindC
    rw [bindC_at h.2]
    split
    · rfl
    · exact if_neg h.1

theorem par_names {kd : Str → Option NameKind} {h : Heap} {Y : List Addr} : ∀ {ps : List Str} {vs : List Value} {ys : List T} {m cm : Str → Option Value}, ps.Nodup → RTs h Y vs ys → vs.length = ps.length →
    ∀ x v, (parR ps ys).lookup x = some v → ∃ u, x ∈ ps ∧ RT h Y u (match v with | .t y => y | .m _ => .none) ∧ (∃ y, v = .t y) ∧ (kd x = some .local → bindL kd (ps.zip vs) m x = some u) ∧ (kd x ≠ some .local → bindC kd (ps.zip vs) cm x = some u)
  | [], _, _, _, _, _, _, _, x, v, e => by simp [parR] at e
  | p :: ps, _, _, m, cm, nd, .nil, hl, x, v, e => by simp at hl
  | p :: ps, _, _, m, cm, nd, .cons (v := u) (vs := vs) (x := y) (l := ys) a r, hl, x, v, e => by
    have hl : vs.length = ps.length := by simpa using hl
    have zf : (ps.zip vs).map (·.1) = ps := List.map_fst_zip (by omega)
    simp only [parR, List.lookup_cons] at e
    cases b : x == p with
    | true =>
      rw [b] at e; cases e
      have b := beq_iff_eq.mp b; subst b
      have nx : x ∉ (ps.zip vs).map (·.1) := by rw [zf]; exact (List.nodup_cons.mp nd).1
      refine ⟨u, .head _, a, ⟨_, rfl⟩, fun hk => ?_, fun hk => ?_⟩
      · show bindL kd ((x, u) :: ps.zip vs) m x = some u
        unfold bindL
        rw [bindL_at nx, if_pos hk, if_pos rfl]
      · show bindC kd ((x, u) :: ps.zip vs) cm x = some u
        unfold bindC
        rw [bindC_at nx, if_neg hk, if_pos rfl]
    | false =>
      rw [b] at e
      obtain ⟨u', h1, h2, h3, h4, h5⟩ := par_names (kd := kd) (m := if kd p = some .local then fun y => if y = p then some u else m y else m) (cm := if kd p = some .local then cm else fun y => if y = p then some u else cm y) (List.nodup_cons.mp nd).2 r hl x v e
      exact ⟨u', .tail _ h1, h2, h3, fun hk => h4 hk, fun hk => h5 hk⟩

theorem CS_def {f : Addr} {o : Obj} {fd : FuncData} {body : List Stmt} {ps : List Str} {args : List T} {r : T} (ho : G.base.get? f = some o) (hd : o.data = .func fd) (hbody : fd.body = .stmts body) (hclo : fd.closure = [])
    (hcd : G.base.CodeRec fd.code fd.qualname) (hlim : G.base.NoLimit) (hbind : ∀ s vs, vs.length = ps.length → BindsTo s fd ⟨vs, []⟩ (ps.zip vs)) (hps : ps.Nodup) (hlen : args.length = ps.length)
    (hkd : ∀ x ∈ ps, (fd.scope.names.lookup x = some .local ∨ fd.scope.names.lookup x = some .cell) ∧ (x == ("__classdict__" : Str)) = false) (hnd : ((cellsFrom 0 fd.scope.names []).map (·.1)).Nodup)
    (hco : fd.scope.isCoroutine = false) (hgen : fd.scope.isGenerator = false) (hk : fd.scope.kind = .function)
    (h : ∀ L, AX G n (fE fd f L) (fO fd L) body (fun g _ => g = .ret r) ⟨parR ps args, []⟩) : CS G (n + 1) f args r := by
  intro A X s vs hB hbase hX hr
  have hvl : vs.length = ps.length := by rw [hr.length, hlen]
  have kb : ∀ b o, G.base.get? b = some o → s.heap.get? b = some o := fun b o e => (hbase b o e).1
  have hroom : A.depth < recursionLimit := by have := hB.2.1; show A.depth < 1000; omega
  refine wpAny_call (codeAny_call_function hroom (kb _ _ ho) hd hco hgen hbody (hcd.keeps kb) (hbind s vs hvl _ _ _ _ ?_))
  rw [hclo]
  refine wpAny_newFunctionEnv_cells hk (fun x hx => ?_) fun env' he s' x => ?_
  · have hx' : x.1 ∈ ps := by
      have : x.1 ∈ (ps.zip vs).map (·.1) := List.mem_map.mpr ⟨x, hx, rfl⟩
      rwa [List.map_fst_zip (by omega)] at this
    rcases (hkd _ hx').1 with q | q
    · exact .inl q
    · exact .inr ⟨q, cellsFrom_some _ _ _ (.inl q)⟩
  · subst he
    have keep := x.toInCall.keep
    refine ⟨(hlim.keeps kb).keeps keep, codeAny_func ?_⟩
    have lt : ∀ b o, s.heap.get? b = some o → b < s.heap.objs.size := fun b o e => Heap.lt_size e
    have cge : ∀ y c, (y, c) ∈ fO fd s.heap.objs.size → s.heap.objs.size < c := fun y c hc => x.above y c hc
    have look : ∀ y c, (y, c) ∈ fO fd s.heap.objs.size → (fO fd s.heap.objs.size).lookup y = some c := fun y c hc =>
      lookup_of_mem_nodup (cellsFrom_names fd.scope.names 0 (s.heap.objs.size + 1) [] [] rfl ▸ hnd) hc
    have now : ∀ b, b ∈ ow (fE fd f s.heap.objs.size) (fO fd s.heap.objs.size) ⟨parR ps args, []⟩ [] → s.heap.objs.size ≤ b := fun b hb => by
      rcases List.mem_cons.mp hb with rfl | hb
      · exact Nat.le_refl _
      · rcases List.mem_append.mp hb with hb | hb
        · obtain ⟨p, hp, rfl⟩ := List.mem_map.mp hb
          exact Nat.le_of_lt (cge p.1 p.2 hp)
        · simp [alive] at hb
    have nin : ∀ b o, s.heap.get? b = some o → b ∉ ow (fE fd f s.heap.objs.size) (fO fd s.heap.objs.size) ⟨parR ps args, []⟩ [] := fun b o e q => absurd (lt b o e) (Nat.not_lt.mpr (now b q))
    have kc : Carry s.heap X s'.heap (ow (fE fd f s.heap.objs.size) (fO fd s.heap.objs.size) ⟨parR ps args, []⟩ [] ++ X) := fun b o hb e _ => ⟨keep b o e, fun q => (List.mem_append.mp q).elim (nin b o e) hb⟩
    have I : Inv G.base (fE fd f s.heap.objs.size) (fO fd s.heap.objs.size) X ⟨parR ps args, []⟩ [] s'.heap := {
      kind := hk
      occ := fun _ _ e => e
      cinj := fun y z c e e' => name_of_addr x.apart (mem_of_lookup e) (mem_of_lookup e')
      bas := fun b o e => ⟨keep b o (kb b o e), nin b o (kb b o e), (hbase b o e).2⟩
      nd := by
        rw [List.append_nil]
        refine List.nodup_cons.mpr ⟨fun q => ?_, List.pairwise_map.mpr x.apart⟩
        obtain ⟨p, hp, e⟩ := List.mem_map.mp q
        have := cge p.1 p.2 hp
        rw [e] at this
        exact Nat.lt_irrefl _ this
      len := rfl
      seqs := fun _ h => nomatch h
      xs := fun b hb => by obtain ⟨o, e⟩ := hX b hb; exact ⟨nin b o e, o, keep b o e⟩
      ns := ⟨_, x.toInCall.ns⟩
      cells := fun y c hc => ⟨_, x.cell y c (look y c hc)⟩
      clive := fun y c e => ⟨_, x.cell y c e⟩
      names := fun y v e => by
        obtain ⟨u, h1, h2, ⟨z, h3⟩, h4, h5⟩ := par_names (kd := (fE fd f s.heap.objs.size).kindOf) (m := fun _ => none) (cm := fun _ => none) hps hr hvl y v e
        subst h3
        refine ⟨u, ?_, .t (h2.carry kc)⟩
        rcases (hkd y h1).1 with q | q
        · exact .inl ⟨q, _, x.toInCall.ns, h4 q⟩
        · obtain ⟨c, hc⟩ := Option.isSome_iff_exists.mp (cellsFrom_some fd.scope.names (s.heap.objs.size + 1) [] (.inl q))
          refine .inr ⟨.inl q, (hkd y h1).2, c, hc, ?_⟩
          have := x.cell y c hc
          rw [h5 (by show fd.scope.names.lookup y ≠ _; rw [q]; decide)] at this
          exact this
      muts := fun i l e => by simp at e }
    have hB' : Bud n (A.deeper (fE fd f s.heap.objs.size)) := ⟨hB.1, by have := hB.2.1; show A.depth + 1 + n ≤ 900; omega, by have := hB.2.2; show A.units + 3 + 4 * n ≤ 9000; omega⟩
    refine wpAny_mono (h s.heap.objs.size _ X [] s' hB' I) (fun g s₂ ⟨g', st₂, μ₂, hg, rg, a₂⟩ => ?_) fun _ _ x => x.elim
    subst hg
    cases rg with
    | ret rv =>
      refine ⟨rv.carry (Carry.less fun b hb => List.mem_append.mpr (.inr hb)), ?_, fun b o e => a₂.step.keep b o (nin b o e) (keep b o e)⟩
      obtain ⟨_, _, e1⟩ := x.toInCall.same
      obtain ⟨h6, t6, e2⟩ := a₂.step.same
      exact ⟨h6, t6, by rw [e2, e1]⟩
end
end Mine

/-! X12 -/
namespace Mine
section
variable {G : Wd} {n : Nat} {env : Env} {oc : List (Str × Addr)} {st : St} {rest : List Stmt} {Φ : F → St → Prop}

/-- what stands behind a statement -/
noncomputable def thn (G : Wd) (n : Nat) (env : Env) (oc : List (Str × Addr)) (rest : List Stmt) (Φ : F → St → Prop) (f : F) (st : St) : Prop :=
  match f with
  | .next => AX G n env oc rest Φ st
  | f => Φ f st
theorem thn_next (h : AX G n env oc rest Φ st) : thn G n env oc rest Φ .next st := h
theorem thn_ret {x : T} (h : Φ (.ret x) st) : thn G n env oc rest Φ (.ret x) st := h

theorem AX_assign {x : Str} {px : Pos} {e : Expr} {pos : Pos} (hb : Bindable env oc x) (hs : swapsWith e (some (.Name x px)) pos.line env = pure false)
    (h : AE G n env oc e (fun v st₁ => AX G n env oc rest Φ (st₁.set x v)) st) : AX G n env oc (.Assign [.Name x px] e pos :: rest) Φ st := AX_cons (AS_assign hb hs h)
theorem AX_aug {x : Str} {px : Pos} {op : Operator} {e : Expr} {pos : Pos} (hb : Bindable env oc x) (ho : op = .Add ∨ op = .Sub ∨ op = .Mod ∨ op = .RShift) {i : Int} (hx : st.r.lookup x = some (.t (.int i)))
    (h : AE G n env oc e (fun v st₁ => ∃ j k, v = .t (.int j) ∧ BinI op i j k ∧ AX G n env oc rest Φ (st₁.set x (.t (.int k)))) st) : AX G n env oc (.AugAssign (.Name x px) op e pos :: rest) Φ st := AX_cons (AS_aug hb ho hx h)
theorem AX_setitem {o i : Expr} {p : Pos} {e : Expr} {pos : Pos} (hs : swapsWith e (some (.Subscript o i p)) pos.line env = pure false)
    (h : AE G n env oc e (fun v st₁ => AE G n env oc o (fun x st₂ => AE G n env oc i (fun y st₃ => ∃ z j l k, v = .t z ∧ x = .m j ∧ st₃.H[j]? = some (some l) ∧ y = .t (.int k) ∧ 0 ≤ k ∧ k < l.length ∧ k < 1000000 ∧
      AX G n env oc rest Φ ⟨st₃.r, st₃.H.set j (some (l.set k.toNat z))⟩) st₂) st₁) st) : AX G n env oc (.Assign [.Subscript o i p] e pos :: rest) Φ st := AX_cons (AS_setitem hs h)
theorem AX_append {x : Str} {px apos : Pos} {e : Expr} {p pos : Pos} {pl : Sem Bool} {j : Nat} (hx : st.r.lookup x = some (.m j))
    (hi : interactive env = false) (hsw : swapsWith (.Call (.Attribute (.Name x px) (Str.ofString "append") apos) [e] [] p) none pos.line env = pure false)
    (heq : eval (.Call (.Attribute (.Name x px) (Str.ofString "append") apos) [e] [] p) env = do
          let ov ← eval (.Name x px) env
          standAt apos.atName
          let x ← holding [ov] (getMethod ov (Str.ofString "append") pl)
          match x with
            | (f, first) => callWith p f first (backTo p (starEach [e] env)) (backToKw p (keywordEach [] env)))
    (hst : starEach [e] env = (false, eval e env) :: starEach [] env) (hd : (x == ("__debug__" : Str)) = false) (hj : ∃ l, st.H[j]? = some (some l))
    (h : AE G n env oc e (fun v st₁ => ∃ z st₂ l, freeze1 v st₁ = some (z, st₂) ∧ st₂.H[j]? = some (some l) ∧ l.length ≤ 1000000 ∧ AX G n env oc rest Φ ⟨st₂.r, st₂.H.set j (some (l ++ [z]))⟩) st) :
    AX G n env oc (.Expr (.Call (.Attribute (.Name x px) (Str.ofString "append") apos) [e] [] p) pos :: rest) Φ st := AX_cons (AS_append hx hi hsw heq hst h hj hd)
theorem AX_ret {e : Expr} {pos : Pos} (h : AE G n env oc e (fun v st₁ => ∃ y st₂, freeze1 v st₁ = some (y, st₂) ∧ Φ (.ret y) st₂) st) : AX G n env oc (.Return (some e) pos :: rest) Φ st := AX_cons (AS_ret h)
theorem AX_if {t : Expr} {xs ys : List Stmt} {pos : Pos} (h : AB G n env oc t (fun b st₁ => if b = true then AX G n env oc xs (thn G n env oc rest Φ) st₁ else AX G n env oc ys (thn G n env oc rest Φ) st₁) st) : AX G n env oc (.If t xs ys pos :: rest) Φ st :=
  AX_cons (AS_if (h.mono fun b st' q => by cases b <;> exact q))
theorem AX_tup_val {ts : List Expr} {xs : List Str} {k : Nat} {tp : Pos} {e : Expr} {pos : Pos} (hn : NamesAre ts xs) (hb : Bindables env oc xs)
    (hs : swapsWithSole [.Tuple ts k tp] e pos.line env = pure false) (hw : swappedStores [.Tuple ts k tp] e env = pure none)
    (h : AE G n env oc e (fun v st₁ => ∃ l, v = .t (.tup l) ∧ l.length = xs.length ∧ AX G n env oc rest Φ (setAll xs (l.map .t) st₁)) st) : AX G n env oc (.Assign [.Tuple ts k tp] e pos :: rest) Φ st := AX_cons (AS_tup_val hn hb hs hw h)
theorem AX_tup_disp {ts : List Expr} {xs : List Str} {k k' : Nat} {tp p : Pos} {es : List Expr} {pos : Pos} (hn : NamesAre ts xs) (hb : Bindables env oc xs)
    (hs : swapsWithSole [.Tuple ts k tp] (.Tuple es k' p) pos.line env = pure false) (hw : swappedStores [.Tuple ts k tp] (.Tuple es k' p) env = pure none)
    (h : AL G n env oc p es (fun vs st₁ => vs.length = xs.length ∧ vs.length ≤ 1000 ∧ AX G n env oc rest Φ (setAll xs vs st₁)) st) : AX G n env oc (.Assign [.Tuple ts k tp] (.Tuple es k' p) pos :: rest) Φ st := AX_cons (AS_tup_disp hn hb hs hw h)
theorem AX_tup_sw {ts : List Expr} {xs : List Str} {k k' : Nat} {tp p : Pos} {es : List Expr} {pos : Pos} (hw : swappedStores [.Tuple ts k tp] (.Tuple es k' p) env = pure (some xs)) (hb : Bindables env oc xs)
    (hs : swapsWithSole [.Tuple ts k tp] (.Tuple es k' p) pos.line env = pure false)
    (h : AL G n env oc p es (fun vs st₁ => vs.length = xs.length ∧ vs.length ≤ 1000 ∧ AX G n env oc rest Φ (setAll xs.reverse vs.reverse st₁)) st) : AX G n env oc (.Assign [.Tuple ts k tp] (.Tuple es k' p) pos :: rest) Φ st := AX_cons (AS_tup_sw hb hs hw h)
theorem AX_assign_comp {elt tgt iter : Expr} {scope : Scope} {pos spos : Pos} {x : Str} {px : Pos} {cl : List (Str × Addr)} {xs : List Str} (hsw : swapsWith (.ListComp elt [⟨tgt, iter, [], 0⟩] scope pos) (some (.Name x px)) spos.line env = pure true)
    (hbx : Bindable env oc x) (hs : ∀ x, foldedSetIterable iter env x = pure x) (hclos : closureFor scope env = pure cl) (hkind : scope.kind = .function)
    (hnames : ∀ x ∈ scope.names, x.2 = .local → scope.names.lookup x.1 = some .local) (hcl : ClOk env cl) (hb : ∀ C, Bindables (cE scope cl env C) (cO scope C) xs)
    (h : ASrc G n env oc tgt iter (CompOk G n env elt tgt scope cl xs (fun y st' => AX G n env oc rest Φ (st'.set x (.t y)))) st) : AX G n env oc (.Assign [.Name x px] (.ListComp elt [⟨tgt, iter, [], 0⟩] scope pos) spos :: rest) Φ st := AX_cons (AS_assign_comp hsw hbx hs hclos hkind hnames hcl hb h)

/-- a for by an invariant over the turn's number -/
theorem AX_for {tgt iter : Expr} {body : List Stmt} {pos : Pos} {xs : List Str} (hs : ∀ x, foldedSetIterable iter env x = pure x) (hb : Bindables env oc xs)
    (h : ASrc G n env oc tgt iter (fun k item st₁ => ∃ J : Nat → St → Prop, J 0 st₁ ∧ (∀ i st', i < k → J i st' → ∃ f, Tgt tgt (item i) f xs ∧
      AX G n env oc body (fun g st'' => match g with | .next => J (i + 1) st'' | .cont => J (i + 1) st'' | .brk => AX G n env oc rest Φ st'' | .ret r => Φ (.ret r) st'') (f st')) ∧ (∀ st', J k st' → AX G n env oc rest Φ st')) st) :
    AX G n env oc (.For tgt iter body [] pos :: rest) Φ st := by
  refine AX_cons (AS_for hs hb ?_)
  intro A X μ s hB hI
  refine wpAny_mono (h A X μ s hB hI) (fun x s₁ h₁ => wpAny_mono h₁ (fun it s₂ ⟨k, item, W, S, st₁, μ₁, ⟨J, a, b, c⟩, r⟩ => ⟨k, item, W, S, st₁, μ₁, ⟨J, a, fun i st' hi hj => ?_, c⟩, r⟩) fun _ _ x => x) fun _ _ x => x
  obtain ⟨f, ht, hx⟩ := b i st' hi hj
  exact ⟨f, ht, hx.mono fun g st'' q => by cases g <;> exact q⟩

theorem AX_while {t : Expr} {body : List Stmt} {pos : Pos} (J : Nat → St → Prop) (m : Nat) (h0 : J m st)
    (h : ∀ m st', J m st' → AB G n env oc t (fun b st₁ => if b = true then AX G n env oc body (fun g st'' => match g with | .next => ∃ m', m' < m ∧ J m' st'' | .cont => ∃ m', m' < m ∧ J m' st'' | .brk => AX G n env oc rest Φ st'' | .ret r => Φ (.ret r) st'') st₁ else AX G n env oc rest Φ st₁) st') :
    AX G n env oc (.While t body [] pos :: rest) Φ st := by
  refine AX_cons (AS_while J m h0 fun m st' hj => (h m st' hj).mono fun b st'' q => ?_)
  cases b
  · exact q
  · simp only [if_true] at q ⊢
    exact q.mono fun g st'' q => by cases g <;> exact q
end
end Mine

/-! X13 -/
namespace Mine
section
variable {base : Heap} {env : Env} {oc : List (Str × Addr)} {X : List Addr} {st : St} {μ : List Addr} {h : Heap}
theorem Inv.setMG {h' : Heap} {i : Nat} {l l' : List T} {a : Addr} {vs : List Value} (I : Inv base env oc X st μ h) (hl : st.H[i]? = some (some l)) (ha : μ[i]? = some a)
    (k0 : ∀ b o, b ≠ a → h.get? b = some o → h'.get? b = some o) (hp : h'.PlainList a vs.toArray) (r' : RTs h' (ow env oc st μ ++ X) vs l') : Inv base env oc X ⟨st.r, st.H.set i (some l')⟩ μ h' := by
  have hw : ow env oc ⟨st.r, st.H.set i (some l')⟩ μ = ow env oc st μ := by simp only [ow, alive_set hl]
  have hin : a ∈ ow env oc st μ := ow_mut hl ha
  obtain ⟨a', vs₀, ha', ⟨n₀, hp₀⟩, _⟩ := I.muts i l hl
  rw [ha] at ha'; cases ha'
  have k : ∀ b o, b ∉ [a] → h.get? b = some o → h'.get? b = some o := fun b o hb e => k0 b o (fun q => hb (by rw [q]; exact .head _)) e
  have kc : Carry h (ow env oc st μ ++ X) h' (ow env oc st μ ++ X) := carry_of k fun b hb => .inl (by rw [List.mem_singleton.mp hb]; exact List.mem_append.mpr (.inl hin))
  have nel : ∀ b, b ∉ ow env oc st μ → b ∉ [a] := fun b hb q => hb (by rw [List.mem_singleton.mp q]; exact hin)
  have hcl : ∀ c v, h.IsCell c v → c ∉ [a] := fun c v ⟨o, e, hd⟩ q => by
    rw [List.mem_singleton.mp q, hp₀] at e; cases e; cases hd
  obtain ⟨m, hns⟩ := id I.ns
  have hLa : env.locals ∉ [a] := fun q => by
    obtain ⟨o, _, _, ho, hd, _⟩ := hns
    rw [List.mem_singleton.mp q, hp₀] at ho; cases ho; cases hd
  exact {
    kind := I.kind
    occ := I.occ
    cinj := I.cinj
    bas := fun b o e => by rw [hw]; exact ⟨k b o (nel b (I.bas b o e).2.1) (I.bas b o e).1, (I.bas b o e).2⟩
    nd := I.nd
    len := by simp [I.len]
    seqs := fun b hb => by
      by_cases q : b = a
      · subst q
        obtain ⟨n, e⟩ := hp
        exact ⟨_, e, _, _, rfl⟩
      · obtain ⟨o, e, hs⟩ := I.seqs b hb
        exact ⟨o, k b o (fun p => q (List.mem_singleton.mp p)) e, hs⟩
    xs := fun b hb => by rw [hw]; exact ⟨(I.xs b hb).1, let ⟨o, e⟩ := (I.xs b hb).2; ⟨o, k b o (nel b (I.xs b hb).1) e⟩⟩
    ns := ⟨m, hns.at' fun o e => k _ o hLa e⟩
    cells := fun x c hc => by
      obtain ⟨v, q⟩ := I.cells x c hc
      obtain ⟨o, e, hd⟩ := id q
      exact ⟨v, o, k c o (hcl c v q) e, hd⟩
    clive := fun x c hc => by
      obtain ⟨v, q⟩ := I.clive x c hc
      obtain ⟨o, e, hd⟩ := id q
      exact ⟨v, o, k c o (hcl c v q) e, hd⟩
    names := fun x v e => by
      rw [hw]
      obtain ⟨u, n, r⟩ := I.names x v e
      exact ⟨u, n.keep k hLa hcl, r.carry kc⟩
    muts := fun j l'' e => by
      rw [hw]
      replace e : (st.H.set i (some l'))[j]? = some (some l'') := e
      rw [List.getElem?_set] at e
      split at e
      · rename_i q; subst q
        split at e
        · simp at e; subst e
          exact ⟨a, vs, ha, hp, r'⟩
        · cases e
      · rename_i hij
        obtain ⟨b, us, h1, ⟨n, h2⟩, h3⟩ := I.muts j l'' e
        refine ⟨b, us, h1, ⟨n, k _ _ (fun q => ?_) h2⟩, h3.carry kc⟩
        have q := List.mem_singleton.mp q; subst q
        have hnd : μ.Nodup := (List.nodup_append.mp (List.nodup_cons.mp I.nd).2).2.1
        have li : i < μ.length := (List.getElem?_eq_some_iff.mp ha).1
        have lj : j < μ.length := (List.getElem?_eq_some_iff.mp h1).1
        exact hij ((List.getElem?_inj li hnd).mp (ha.trans h1.symm)) }

end
section
variable {G : Wd} {n : Nat} {env : Env} {oc : List (Str × Addr)} {st : St}
/-- a def that changes a list of its caller -/
theorem BCall_share {f : Addr} {o : Obj} {fd : FuncData} {body : List Stmt} {p q : Str} {i : Nat} {c c' : List T} {z r : T} {Φ : V → St → Prop} (ho : G.base.get? f = some o) (hd : o.data = .func fd) (hbody : fd.body = .stmts body) (hclo : fd.closure = [])
    (hcd : G.base.CodeRec fd.code fd.qualname) (hlim : G.base.NoLimit) (hbind : ∀ s vs, vs.length = [p, q].length → BindsTo s fd ⟨vs, []⟩ ([p, q].zip vs)) (hps : [p, q].Nodup)
    (hkd : ∀ x ∈ [p, q], (fd.scope.names.lookup x = some .local ∨ fd.scope.names.lookup x = some .cell) ∧ (x == ("__classdict__" : Str)) = false) (hnd : ((cellsFrom 0 fd.scope.names []).map (·.1)).Nodup)
    (hco : fd.scope.isCoroutine = false) (hgen : fd.scope.isGenerator = false) (hk : fd.scope.kind = .function)
    (hl : st.H[i]? = some (some c)) (hfl : flat r = true)
    (h : ∀ L, AX G n (fE fd f L) (fO fd L) body (fun g st' => g = .ret r ∧ st'.H = [some c']) ⟨[(p, .m 0), (q, .t z)], [some c]⟩)
    (hΦ : Φ (.t r) ⟨st.r, st.H.set i (some c')⟩) : BCall G (n + 1) env oc (.ref f) [.m i, .t z] Φ st := by
  intro A X μ s vs hB hI hr
  obtain ⟨va, vz, rfl, ra, rz⟩ := hr.two
  cases ra with | @m a _ hμ =>
  cases rz with | t rz =>
  obtain ⟨a0, vs0, ha0, hp0, hr0⟩ := hI.muts i c hl
  rw [hμ] at ha0; cases ha0
  have hin : a ∈ ow env oc st μ := ow_mut hl hμ
  have kb : ∀ b o, G.base.get? b = some o → s.heap.get? b = some o := fun b o e => (hI.bas b o e).1
  have hroom : A.depth < recursionLimit := by have := hB.2.1; show A.depth < 1000; omega
  refine wpAny_call (codeAny_call_function hroom (kb _ _ ho) hd hco hgen hbody (hcd.keeps kb) (hbind s [.ref a, vz] rfl _ _ _ _ ?_))
  rw [hclo]
  refine wpAny_newFunctionEnv_cells hk (fun x hx => ?_) fun env' he s' x => ?_
  · have hx' : x.1 ∈ [p, q] := by
      have : x.1 ∈ ([p, q].zip [Value.ref a, vz]).map (·.1) := List.mem_map.mpr ⟨x, hx, rfl⟩
      rwa [List.map_fst_zip (by simp)] at this
    rcases (hkd _ hx').1 with q | q
    · exact .inl q
    · exact .inr ⟨q, cellsFrom_some _ _ _ (.inl q)⟩
  · subst he
    have keep := x.toInCall.keep
    refine ⟨(hlim.keeps kb).keeps keep, codeAny_func ?_⟩
    have lt : ∀ b o, s.heap.get? b = some o → b < s.heap.objs.size := fun b o e => Heap.lt_size e
    have hap : ∃ o, s.heap.get? a = some o ∧ isSeq o := by
      obtain ⟨k, e⟩ := hp0
      exact ⟨_, e, _, _, rfl⟩
    obtain ⟨oa, hoa, hsa⟩ := hap
    have cge : ∀ y c, (y, c) ∈ fO fd s.heap.objs.size → s.heap.objs.size < c := fun y c hc => x.above y c hc
    have look : ∀ y c, (y, c) ∈ fO fd s.heap.objs.size → (fO fd s.heap.objs.size).lookup y = some c := fun y c hc =>
      lookup_of_mem_nodup (cellsFrom_names fd.scope.names 0 (s.heap.objs.size + 1) [] [] rfl ▸ hnd) hc
    have hal : ∀ (st' : St) (d : List T), st'.H = [some d] → ow (fE fd f s.heap.objs.size) (fO fd s.heap.objs.size) st' [a] = s.heap.objs.size :: ((fO fd s.heap.objs.size).map (·.2) ++ [a]) := fun st' d e => by
      simp only [ow, e, alive]
      rfl
    have e0 := hal ⟨[(p, .m 0), (q, .t z)], [some c]⟩ c rfl
    have now : ∀ b, b ∈ s.heap.objs.size :: ((fO fd s.heap.objs.size).map (·.2) ++ [a]) → s.heap.objs.size ≤ b ∨ b = a := fun b hb => by
      rcases List.mem_cons.mp hb with rfl | hb
      · exact .inl (Nat.le_refl _)
      · rcases List.mem_append.mp hb with hb | hb
        · obtain ⟨p, hp, rfl⟩ := List.mem_map.mp hb
          exact .inl (Nat.le_of_lt (cge p.1 p.2 hp))
        · exact .inr (List.mem_singleton.mp hb)
    have nin : ∀ b o, b ≠ a → s.heap.get? b = some o → b ∉ s.heap.objs.size :: ((fO fd s.heap.objs.size).map (·.2) ++ [a]) := fun b o hba e q => by
      rcases now b q with q | q
      · exact absurd (lt b o e) (Nat.not_lt.mpr q)
      · exact hba q
    let X' : List Addr := (ow env oc st μ ++ X).filter fun b => b != a
    have hX' : ∀ b, b ∈ X' ↔ b ∈ ow env oc st μ ++ X ∧ b ≠ a := fun b => by simp only [X', List.mem_filter, bne_iff_ne]
    have kc : Carry s.heap (ow env oc st μ ++ X) s'.heap ((s.heap.objs.size :: ((fO fd s.heap.objs.size).map (·.2) ++ [a])) ++ X') := fun b o hb e _ => ⟨keep b o e, fun q => by
      have hba : b ≠ a := fun q => hb (by rw [q]; exact List.mem_append.mpr (.inl hin))
      rcases List.mem_append.mp q with q | q
      · exact nin b o hba e q
      · exact hb ((hX' b).mp q).1⟩
    have I : Inv G.base (fE fd f s.heap.objs.size) (fO fd s.heap.objs.size) X' ⟨[(p, .m 0), (q, .t z)], [some c]⟩ [a] s'.heap := {
      kind := hk
      occ := fun _ _ e => e
      cinj := fun y z c e e' => name_of_addr x.apart (mem_of_lookup e) (mem_of_lookup e')
      bas := fun b o e => by
        have hb := hI.bas b o e
        have hba : b ≠ a := fun q => hb.2.1 (by rw [q]; exact hin)
        rw [e0]
        exact ⟨keep b o hb.1, nin b o hba hb.1, fun q => (List.mem_append.mp ((hX' b).mp q).1).elim hb.2.1 hb.2.2⟩
      nd := by
        refine List.nodup_cons.mpr ⟨fun q => ?_, List.nodup_append.mpr ⟨List.pairwise_map.mpr x.apart, by simp, fun b hb d hd => ?_⟩⟩
        · rcases List.mem_append.mp q with q | q
          · obtain ⟨p, hp, e⟩ := List.mem_map.mp q
            have := cge p.1 p.2 hp
            rw [e] at this
            exact Nat.lt_irrefl _ this
          · have := lt a _ hoa
            rw [← List.mem_singleton.mp q] at this
            exact Nat.lt_irrefl _ this
        · obtain ⟨p, hp, e⟩ := List.mem_map.mp hb
          have h1 := cge p.1 p.2 hp
          have h2 := lt a _ hoa
          rw [List.mem_singleton.mp hd, ← e]
          exact fun r => absurd (Nat.lt_trans (r ▸ h1) h2) (Nat.lt_irrefl _)
      len := rfl
      seqs := fun b hb => by rw [List.mem_singleton.mp hb]; exact ⟨oa, keep _ _ hoa, hsa⟩
      xs := fun b hb => by
        obtain ⟨h1, h2⟩ := (hX' b).mp hb
        obtain ⟨o, e⟩ := hI.live h1
        rw [e0]
        exact ⟨nin b o h2 e, o, keep b o e⟩
      ns := ⟨_, x.toInCall.ns⟩
      cells := fun y c hc => ⟨_, x.cell y c (look y c hc)⟩
      clive := fun y c e => ⟨_, x.cell y c e⟩
      names := fun y v e => by
        rw [e0]
        have hval : ∀ w, List.lookup y (parR [p, q] [.con (.ref a), z]) = some w → ∃ u, NameAt (fE fd f s.heap.objs.size) s'.heap y u ∧ RV s.heap (ow env oc st μ ++ X) [a] u w := fun w e => by
          obtain ⟨u, h1, h2, ⟨z', h3⟩, h4, h5⟩ := par_names (kd := (fE fd f s.heap.objs.size).kindOf) (m := fun _ => none) (cm := fun _ => none) hps (.cons (.con (.ref a)) (.cons rz .nil)) rfl y w e
          subst h3
          refine ⟨u, ?_, .t h2⟩
          rcases (hkd y h1).1 with q | q
          · exact .inl ⟨q, _, x.toInCall.ns, h4 q⟩
          · obtain ⟨c, hc⟩ := Option.isSome_iff_exists.mp (cellsFrom_some fd.scope.names (s.heap.objs.size + 1) [] (.inl q))
            refine .inr ⟨.inl q, (hkd y h1).2, c, hc, ?_⟩
            have := x.cell y c hc
            rw [h5 (by show fd.scope.names.lookup y ≠ _; rw [q]; decide)] at this
            exact this
        replace e : List.lookup y [(p, V.m 0), (q, V.t z)] = some v := e
        rw [List.lookup_cons] at e
        cases b : y == p with
        | true =>
          rw [b] at e
          cases e
          obtain ⟨u, h1, h2⟩ := hval (.t (.con (.ref a))) (by simp [parR, List.lookup_cons, b])
          cases h2 with | t h2 =>
          rw [h2.con_inv] at h1
          exact ⟨_, h1, .m rfl⟩
        | false =>
          rw [b] at e
          obtain ⟨u, h1, h2⟩ := hval v (by
            rw [List.lookup_cons] at e
            cases b' : y == q with
            | true => rw [b'] at e; cases e; simp [parR, List.lookup_cons, b, b']
            | false => rw [b'] at e; simp at e)
          have hv : v = .t z := by
            rw [List.lookup_cons] at e
            cases b' : y == q with
            | true => rw [b'] at e; cases e; rfl
            | false => rw [b'] at e; simp at e
          subst hv
          cases h2 with | t h2 =>
          exact ⟨u, h1, .t (h2.carry kc)⟩
      muts := fun j l e => by
        rw [e0]
        cases j with
        | zero =>
          simp at e
          subst e
          obtain ⟨k, hk⟩ := hp0
          exact ⟨a, vs0, rfl, ⟨k, keep _ _ hk⟩, hr0.carry kc⟩
        | succ j => simp at e }
    have hB' : Bud n (A.deeper (fE fd f s.heap.objs.size)) := ⟨hB.1, by have := hB.2.1; show A.depth + 1 + n ≤ 900; omega, by have := hB.2.2; show A.units + 3 + 4 * n ≤ 9000; omega⟩
    refine wpAny_mono (h s.heap.objs.size _ X' [a] s' hB' I) (fun g s₂ ⟨g', st₂, μ₂, ⟨hg, hH⟩, rg, a₂⟩ => ?_) fun _ _ x => x.elim
    subst hg
    cases rg with
    | ret rv =>
      have hμ₂ : μ₂ = [a] := by
        obtain ⟨t, ht⟩ := a₂.pre
        have := a₂.inv.len
        rw [hH, ← ht] at this
        simp at this
        rw [← ht, this]; rfl
      subst hμ₂
      obtain ⟨a', vs', h1, h2, h3⟩ := a₂.inv.muts 0 c' (by rw [hH]; rfl)
      cases h1
      have k0 : ∀ b o, b ≠ a → s.heap.get? b = some o → s₂.heap.get? b = some o := fun b o hba e => a₂.step.keep b o (by rw [e0]; exact nin b o hba e) (keep b o e)
      have I2 := hI.setMG hl hμ k0 h2 (h3.carry (Carry.less fun b hb => by
        rw [hal st₂ c' hH]
        by_cases q : b = a
        · rw [q]; exact List.mem_append.mpr (.inl (.tail _ (List.mem_append.mpr (.inr (.head _)))))
        · exact List.mem_append.mpr (.inr ((hX' b).mpr ⟨hb, q⟩))))
      have hw : ow env oc ⟨st.r, st.H.set i (some c')⟩ μ = ow env oc st μ := by simp only [ow, alive_set hl]
      refine ⟨_, _, μ, hΦ, .t (rv.flat hfl), I2, List.prefix_refl _, ?_, fun b o hb e => k0 b o (fun q => hb (by rw [q]; exact hin)) e, fun b h1 h2 => absurd (hw ▸ h1) h2⟩
      obtain ⟨_, _, e1⟩ := x.toInCall.same
      obtain ⟨h6, t6, e2⟩ := a₂.step.same
      exact ⟨h6, t6, by rw [e2, e1]⟩
end
end Mine

/-! H2 -/
namespace Mine
noncomputable abbrev PR : Program := PySem.Challenge.rw_xm0390_01.row.prog
/-- the defs: where the run leaves each, where its code lies, its file's name with its token, its row in the text -/
noncomputable def FT : List (Addr × Addr × Str × Nat × Nat) := [(58, 57, Str.ofString "gmp.limbs", 187, 4), (65, 64, Str.ofString "gmp.limbs", 187, 5), (72, 71, Str.ofString "gmp.limbs", 187, 6), (79, 78, Str.ofString "gmp.limbs", 187, 7), (86, 85, Str.ofString "gmp.limbs", 187, 8), (93, 92, Str.ofString "gmp.limbs", 187, 9), (121, 120, Str.ofString "gmp.signed", 345, 14), (128, 127, Str.ofString "gmp.signed", 345, 15), (135, 134, Str.ofString "gmp.signed", 345, 16), (142, 141, Str.ofString "gmp.signed", 345, 17), (149, 148, Str.ofString "gmp.signed", 345, 18), (156, 155, Str.ofString "gmp.signed", 345, 19), (165, 164, Str.ofString "gmp.matrices", 401, 23), (170, 169, Str.ofString "gmp.matrices", 401, 24), (177, 176, Str.ofString "gmp.matrices", 401, 25), (182, 181, Str.ofString "gmp.matrices", 401, 26), (189, 188, Str.ofString "gmp.matrices", 401, 27), (194, 193, Str.ofString "gmp.matrices", 401, 28), (201, 200, Str.ofString "gmp.matrices", 401, 29), (208, 207, Str.ofString "gmp.school", 467, 31), (215, 214, Str.ofString "gmp.school", 467, 32), (250, 249, Str.ofString "gmp.school", 467, 37), (257, 256, Str.ofString "law_xm0390_01", 566, 39), (264, 263, Str.ofString "law_xm0390_01", 566, 40), (271, 270, Str.ofString "law_xm0390_01", 566, 41), (278, 277, Str.ofString "law_xm0390_01", 566, 42), (285, 284, Str.ofString "law_xm0390_01", 566, 43), (290, 289, Str.ofString "law_xm0390_01", 566, 44)]
/-- the names of the module, and those that it leaves to the interpreter -/
noncomputable def NT : List (Str × Option Value) := [(Str.ofString "normal", some (.ref 58)), (Str.ofString "nat_of", some (.ref 65)), (Str.ofString "compare", some (.ref 72)), (Str.ofString "add", some (.ref 79)), (Str.ofString "sub", some (.ref 86)), (Str.ofString "divrem_limb", some (.ref 93)), (Str.ofString "signed", some (.ref 121)), (Str.ofString "s_of", some (.ref 128)), (Str.ofString "s_neg", some (.ref 135)), (Str.ofString "s_add", some (.ref 142)), (Str.ofString "s_mul", some (.ref 149)), (Str.ofString "tdiv", some (.ref 156)), (Str.ofString "m_unit", some (.ref 165)), (Str.ofString "m_turned", some (.ref 170)), (Str.ofString "inner", some (.ref 177)), (Str.ofString "m_mul", some (.ref 182)), (Str.ofString "exact", some (.ref 189)), (Str.ofString "characteristic", some (.ref 194)), (Str.ofString "m_power", some (.ref 201)), (Str.ofString "mul_school", some (.ref 208)), (Str.ofString "divrem_small", some (.ref 215)), (Str.ofString "divrem_school", some (.ref 250)), (Str.ofString "_law_woven", some (.ref 257)), (Str.ofString "_law_limbs", some (.ref 264)), (Str.ofString "_law_signed", some (.ref 271)), (Str.ofString "_law_walked", some (.ref 278)), (Str.ofString "_law_fits", some (.ref 285)), (Str.ofString "law", some (.ref 290)), (Str.ofString "NOUGHT", some (.ref 158)), (Str.ofString "UNIT", some (.ref 160)), (Str.ofString "len", none), (Str.ofString "abs", none), (Str.ofString "min", none), (Str.ofString "sum", none), (Str.ofString "range", none), (Str.ofString "enumerate", none), (Str.ofString "int", none)]
/-- the two constants -/
noncomputable def CT : List (Addr × Obj) := [(157, { cls := .type "list", data := .seq #[] }), (158, { cls := .type "tuple", data := .seq #[.bool false, .ref 157] }), (159, { cls := .type "list", data := .seq #[.int 1 404] }), (160, { cls := .type "tuple", data := .seq #[.bool false, .ref 159] })]
/-- a def of the text as the run leaves it -/
noncomputable abbrev mkFd (n : Str) (ps : Arguments) (b : List Stmt) (sc : Scope) (m : Str) (t : Nat) (c : Addr) : FuncData :=
  { name := n, qualname := n, params := ps, body := .stmts b, scope := sc, globals := 3, closure := [], defaults := .none, kwdefaults := .none, pyModule := .str m t, code := .ref c }
noncomputable def fdOf (c : Addr) (m : Str) (t : Nat) : Option Stmt → Option FuncData
  | some (.FunctionDef n ps b _ _ _ sc _ _ _) => some (mkFd n ps b sc m t c)
  | _ => none
noncomputable def nmOf : Option Stmt → Option Str
  | some (.FunctionDef n _ _ _ _ _ _ _ _ _) => some n
  | _ => none
noncomputable def fnSeen (h : Heap) (f : Addr) : Option FuncData := match h.get? f with
  | some ⟨_, _, .func fd, _⟩ => some fd
  | _ => none
noncomputable def cdSeen (h : Heap) (c : Addr) : Option Str := match h.get? c with
  | some ⟨_, _, .fields vs, _⟩ => (match vs[1]? with
    | some (PySem.Value.str q _) => some q
    | _ => none)
  | _ => none
theorem fnSeen_iff {h : Heap} {f : Addr} {fd : FuncData} : fnSeen h f = some fd ↔ ∃ o, h.get? f = some o ∧ o.data = .func fd := by
  unfold fnSeen
  constructor
  · intro e
    split at e
    · rename_i q
      cases e
      exact ⟨_, q, rfl⟩
    · cases e
  · rintro ⟨⟨c, d, dt, sl⟩, q, rfl⟩
    rw [q]
theorem cdSeen_iff {h : Heap} {c : Addr} {q : Str} : cdSeen h c = some q ↔ h.CodeRec (.ref c) q := by
  unfold cdSeen
  constructor
  · intro e
    split at e
    · rename_i vs _ ho
      split at e
      · rename_i hv
        cases e
        exact ⟨_, _, vs, _, rfl, ho, rfl, hv⟩
      · cases e
    · cases e
  · rintro ⟨c', ⟨c1, d, dt, sl⟩, vs, t, e, q, rfl, hv⟩
    cases e
    rw [q]
    dsimp only
    rw [hv]
/-- what the run leaves -/
structure OK (h : Heap) : Prop where
  fn : ∀ x ∈ FT, ∀ fd, fdOf x.2.1 x.2.2.1 x.2.2.2.1 PR.main.body[x.2.2.2.2]? = some fd → fnSeen h x.1 = some fd
  cd : ∀ x ∈ FT, ∀ q, nmOf PR.main.body[x.2.2.2.2]? = some q → cdSeen h x.2.1 = some q
  ct : ∀ x ∈ CT, h.get? x.1 = some x.2
  ns : ∃ mg, h.Ns mainGlobals mg ∧ ∀ x ∈ NT, mg x.1 = x.2
theorem OK.keeps {h h' : Heap} (k : OK h) (hh : ∀ b o, h.get? b = some o → h'.get? b = some o) : OK h' := by
  refine ⟨fun x hx fd e => ?_, fun x hx q e => ?_, fun x hx => hh _ _ (k.ct x hx), ?_⟩
  · obtain ⟨o, a, b⟩ := fnSeen_iff.mp (k.fn x hx fd e)
    exact fnSeen_iff.mpr ⟨o, hh _ _ a, b⟩
  · exact cdSeen_iff.mpr ((cdSeen_iff.mp (k.cd x hx q e)).keeps hh)
  · obtain ⟨mg, ⟨o, es, ep, ho, r⟩, e⟩ := k.ns
    exact ⟨mg, ⟨o, es, ep, hh _ _ ho, r⟩, e⟩
noncomputable def hk : Hook where
  α := List (Option FuncData) × List (Option Str) × List (Option Obj) × Bool × List (Option Value)
  obs s := (FT.map fun x => fnSeen s.heap x.1, FT.map fun x => cdSeen s.heap x.2.1, CT.map fun x => s.heap.get? x.1, s.heap.isNs mainGlobals, NT.map fun x => s.heap.nsMap mainGlobals x.1)
  val _ := (FT.map fun x => fdOf x.2.1 x.2.2.1 x.2.2.2.1 PR.main.body[x.2.2.2.2]?, FT.map fun x => nmOf PR.main.body[x.2.2.2.2]?, CT.map fun x => some x.2, true, NT.map fun x => x.2)
  says _ h := OK h
  of _ s e := by
    simp only [Prod.mk.injEq, List.map_inj_left] at e
    obtain ⟨e1, e2, e3, e4, e5⟩ := e
    exact ⟨fun x hx fd q => (e1 x hx).trans q, fun x hx q r => (e2 x hx).trans r, e3, _, .of_isNs e4, e5⟩
  keeps _ _ _ k hh := k.keeps hh
theorem OK.fnAt {h : Heap} (k : OK h) {f c : Addr} {m : Str} {t i : Nat} {n : Str} {ps : Arguments} {b : List Stmt} {d : List Expr} {r : Option Expr} {tp : List TypeParam} {sc : Scope} {ts : Option Scope} {bd : Str} {pos : Pos} {j : Nat}
    (hj : FT[j]? = some (f, c, m, t, i)) (hst : PR.main.body[i]? = some (.FunctionDef n ps b d r tp sc ts bd pos)) : (∃ o, h.get? f = some o ∧ o.data = .func (mkFd n ps b sc m t c)) ∧ h.CodeRec (.ref c) n := by
  have hm := List.mem_of_getElem? hj
  have e : PR.main.body[(f, c, m, t, i).2.2.2.2]? = some (.FunctionDef n ps b d r tp sc ts bd pos) := hst
  exact ⟨fnSeen_iff.mp (k.fn _ hm _ (by rw [e]; rfl)), cdSeen_iff.mp (k.cd _ hm _ (by rw [e]; rfl))⟩
theorem OK.nsAt {h : Heap} (k : OK h) {j : Nat} {x : Str} {v : Option Value} (hj : NT[j]? = some (x, v)) : ∃ mg, h.Ns mainGlobals mg ∧ mg x = v := by
  obtain ⟨mg, a, b⟩ := k.ns
  exact ⟨mg, a, b _ (List.mem_of_getElem? hj)⟩
theorem OK.ctAt {h : Heap} (k : OK h) {j : Nat} {a : Addr} {o : Obj} (hj : CT[j]? = some (a, o)) : h.get? a = some o := k.ct _ (List.mem_of_getElem? hj)
/-- the law alone is looked at; every other name is free -/
noncomputable def pv : Program := view PR [44]
noncomputable def ls : List Str := [Str.ofString "GmpError", Str.ofString "DivisionByZero", Str.ofString "OutOfRange", Str.ofString "normal", Str.ofString "nat_of", Str.ofString "compare", Str.ofString "add", Str.ofString "sub", Str.ofString "divrem_limb", Str.ofString "shift_left", Str.ofString "shift_right", Str.ofString "bits", Str.ofString "signed", Str.ofString "s_of", Str.ofString "s_neg", Str.ofString "s_add", Str.ofString "s_mul", Str.ofString "tdiv", Str.ofString "NOUGHT", Str.ofString "UNIT", Str.ofString "m_unit", Str.ofString "m_turned", Str.ofString "inner", Str.ofString "m_mul", Str.ofString "exact", Str.ofString "characteristic", Str.ofString "m_power", Str.ofString "mul_school", Str.ofString "divrem_small", Str.ofString "guessed_limb", Str.ofString "take_away", Str.ofString "put_back", Str.ofString "divide_rows", Str.ofString "divrem_school", Str.ofString "_law_woven", Str.ofString "_law_limbs", Str.ofString "_law_signed", Str.ofString "_law_walked", Str.ofString "_law_fits"]
/-- the run of the top over a tree of objects -/
noncomputable def runT (tb : String → Option Builtin) (p : Program) (w : World) (m : Nat) (ann : Option Value) : Nat → SharedT → Thread → Option SharedT
  | 0, _, _ => none
  | n + 1, s, t => match through t with
    | true => some s
    | false => match stepOk m ann t with
      | false => none
      | true => match stepT (denote tb) p w s t with
        | some (s', t') => runT tb p w m ann n s' t'
        | none => none
theorem runT_of {tb : String → Option Builtin} {p : Program} {w : World} {m : Nat} {ann : Option Value} {r : SharedT} : ∀ (n : Nat) (s : SharedT) (t : Thread), runT tb p w m ann n s t = some r → topRun tb p w m ann n s.abs t = some r.abs := by
  intro n
  induction n with
  | zero => intro s t h; cases h
  | succ n ih =>
    intro s t h
    rw [runT] at h
    rw [topRun]
    by_cases a : through t = true
    · rw [a] at h ⊢
      cases h
      rfl
    · rw [Bool.not_eq_true] at a
      rw [a] at h ⊢
      by_cases b : stepOk m ann t = true
      · rw [b] at h ⊢
        dsimp only at h ⊢
        rcases c : stepT (denote tb) p w s t with _ | ⟨s', t'⟩
        · rw [c] at h; cases h
        · rw [c] at h
          rw [stepT_spec c]
          exact ih s' t' h
      · rw [Bool.not_eq_true] at b
        rw [b] at h
        cases h
/-- what a run over a tree shows of the run over the heap -/
theorem left_of {p q : Program} {loose : List Str} {Xt : Shared → Bool} {α : Type} {Yf : Shared → α} {Ya : World → α} {N m k : Nat} {ann : Option Value} {T : Params → BT} {H : Params → Heap} {gs : Array GenState} {d : Drawn} {mods : List Str}
    (hm : LeftO p q loose Xt Yf Ya N = ∀ w : World, (openEnds treeTable p w N).map (fun s => (openSeen q loose mods Xt true s, Yf s)) = some (openGood q loose, Ya w))
    (ht : ∀ (w : World) (s₀ : Shared), topFrom treeTable p w N s₀ = match s₀.heap.isNs mainGlobals && s₀.gens.size == 0 with
      | true => (topRun treeTable p w s₀.heap.objs.size (s₀.heap.nsMap mainGlobals "__annotations__") N s₀ (topStub p)).bind fun s₁ => (match staticsOk mods s₀.heap s₁.heap && namesBound p s₁.heap && gensDone s₁ && laidKept s₀.heap s₁.heap with
        | true => some s₁
        | false => none)
      | false => none)
    (opened : ∀ w : World, (fencedOpening treeTable p w N).map (fun s => (s.heap, s.gens, s.drawn, s.toks)) = some (H w.params, gs, d, k))
    (sizes : ∀ w : World, ((H w.params).isNs mainGlobals && gs.size == 0, (H w.params).objs.size, (H w.params).nsMap mainGlobals "__annotations__") = (true, m, ann))
    (laid : ∀ P, absHeap (T P) m (H P).life = H P)
    (runs : ∀ (w : World) (os : OsState), (runT treeTable p w m ann N ⟨T w.params, m, (H w.params).life, gs, d, k, os⟩ (topStub p)).map (fun s =>
      (staticsOk mods (H w.params) s.abs.heap && namesBound p s.abs.heap && gensDone s.abs && laidKept (H w.params) s.abs.heap,
        openSeen q loose mods Xt true s.abs, Yf s.abs)) = some (true, openGood q loose, Ya w)) : LeftO p q loose Xt Yf Ya N := by
  rw [hm]
  intro w
  obtain ⟨⟨h, gs', d', k', os⟩, e, e'⟩ := Option.map_eq_some_iff.mp (opened w)
  obtain ⟨rfl, rfl, rfl, rfl⟩ : h = H w.params ∧ gs' = gs ∧ d' = d ∧ k' = k := by simpa only [Option.some.injEq, Prod.mk.injEq] using e'
  obtain ⟨z1, z2, z3⟩ : _ ∧ _ ∧ _ := by simpa only [Prod.mk.injEq] using sizes w
  obtain ⟨s, hs, r⟩ := Option.map_eq_some_iff.mp (runs w os)
  obtain ⟨l1, l2, l3⟩ : _ ∧ _ ∧ _ := by simpa only [Prod.mk.injEq] using r
  have r := runT_of _ _ _ hs
  rw [show SharedT.abs ⟨T w.params, m, (H w.params).life, gs', d', k', os⟩ = ⟨H w.params, gs', d', k', os⟩ from congrArg (fun h => (⟨h, gs', d', k', os⟩ : Shared)) (laid w.params)] at r
  have t : topFrom treeTable p w N ⟨H w.params, gs', d', k', os⟩ = some s.abs := by
    rw [ht]
    dsimp only
    rw [z1, z2, z3, r]
    show (match staticsOk mods (H w.params) s.abs.heap && namesBound p s.abs.heap && gensDone s.abs && laidKept (H w.params) s.abs.heap with | true => some s.abs | false => none) = _
    rw [l1]
  unfold openEnds
  rw [e]
  show (topFrom treeTable p w N _).map _ = _
  rw [t]
  exact congrArg some (Prod.ext l2 l3)
/-- the run of a number of steps over a tree -/
noncomputable def goT (tb : String → Option Builtin) (p : Program) (w : World) (m : Nat) (ann : Option Value) : Nat → SharedT → Thread → Option (SharedT × Thread)
  | 0, s, t => some (s, t)
  | n + 1, s, t => match through t with
    | true => none
    | false => match stepOk m ann t with
      | false => none
      | true => match stepT (denote tb) p w s t with
        | some (s', t') => goT tb p w m ann n s' t'
        | none => none
theorem goT_run {tb : String → Option Builtin} {p : Program} {w : World} {m : Nat} {ann : Option Value} {s' : SharedT} {t' : Thread} {n : Nat} : ∀ (k : Nat) (s : SharedT) (t : Thread), goT tb p w m ann k s t = some (s', t') → runT tb p w m ann (k + n) s t = runT tb p w m ann n s' t' := by
  intro k
  induction k with
  | zero => intro s t h; cases h; rw [Nat.zero_add]
  | succ k ih =>
    intro s t h
    rw [goT] at h
    rw [show k + 1 + n = k + n + 1 by omega, runT]
    by_cases a : through t = true
    · rw [a] at h; cases h
    · rw [Bool.not_eq_true] at a
      rw [a] at h ⊢
      by_cases b : stepOk m ann t = true
      · rw [b] at h ⊢
        dsimp only at h ⊢
        rcases c : stepT (denote tb) p w s t with _ | ⟨s₂, t₂⟩
        · rw [c] at h; cases h
        · rw [c] at h
          exact ih s₂ t₂ h
      · rw [Bool.not_eq_true] at b
        rw [b] at h
        cases h
/-- a tree of a list of objects -/
noncomputable def treeL (l : List Obj) : BT := (l.foldl (fun (x : BT × Nat) o => (x.1.ins x.2 o, x.2 + 1)) (.nil, 0)).1
/-! the objects that stand behind the text's first statements (its three classes) -/
noncomputable def ob0x11 (P : Params) : Obj := { cls := Value.type "tuple", data := Data.seq #[] }
noncomputable def ob0x13 (P : Params) : Obj := { cls := Value.type "code", data := Data.fields #[Value.str (Str.ofString "<module>") 182, Value.str (Str.ofString "<module>") 183, Value.str (Str.ofString "/claim/cut.py") 184, Value.int 1 0, Value.int 0 0, Value.int 0 0, Value.int 0 0, Value.int 0 0, Value.ref 11, Value.bool false, Value.int 181 0, Value.ref 12, Value.none, Value.none, Value.none, Value.none, Value.int 185 0, Value.int 1 0, Value.str (Str.ofString "/claim/cut.py") 186] }
noncomputable def ob0x14 (P : Params) : Obj := { cls := Value.type "frame", slots := #[some (Value.ref 13), some (Value.ref 3), some (Value.ref 3), none, some (Value.str (Str.ofString "__main__") 164), none, some (Value.ref 0)] }
noncomputable def ob1x2 (P : Params) : Obj := { cls := Value.none, data := Data.dict #[{ hash := PyData.keyHash P (Str.ofString "type.__subclasses__.Exception.0"), key := Value.str (Str.ofString "type.__subclasses__.Exception.0") 205, val := Value.int 24 0 }, { hash := PyData.keyHash P (Str.ofString "type.__subclasses__.Exception.n"), key := Value.str (Str.ofString "type.__subclasses__.Exception.n") 206, val := Value.int 1 0 }] 2 }
noncomputable def ob1x15 (P : Params) : Obj := { cls := Value.type "tuple", data := Data.seq #[Value.type "Exception"] }
noncomputable def ob1x16 (P : Params) : Obj := { cls := Value.type "builtin_function_or_method", data := Data.fields #[Value.builtin "type.__prepare__", Value.type "type"] }
noncomputable def ob1x17 (P : Params) : Obj := { cls := Value.type "dict", data := Data.dict #[{ hash := PyData.keyHash P (Str.ofString "__module__"), key := Value.str (Str.ofString "__module__") 196, val := Value.str (Str.ofString "gmp.limbs") 187 }, { hash := PyData.keyHash P (Str.ofString "__qualname__"), key := Value.str (Str.ofString "__qualname__") 198, val := Value.str (Str.ofString "GmpError") 197 }, { hash := PyData.keyHash P (Str.ofString "__firstlineno__"), key := Value.str (Str.ofString "__firstlineno__") 200, val := Value.int 2 199 }, { hash := PyData.keyHash P (Str.ofString "__static_attributes__"), key := Value.str (Str.ofString "__static_attributes__") 201, val := Value.ref 22 }] 4 }
noncomputable def ob1x18 (P : Params) : Obj := { cls := Value.type "tuple", data := Data.seq #[] }
noncomputable def ob1x19 (P : Params) : Obj := { cls := Value.none, data := Data.fields #[] }
noncomputable def ob1x20 (P : Params) : Obj := { cls := Value.type "code", data := Data.fields #[Value.str (Str.ofString "GmpError") 191, Value.str (Str.ofString "GmpError") 192, Value.str (Str.ofString "/claim/cut.py") 193, Value.int 2 0, Value.int 0 0, Value.int 0 0, Value.int 0 0, Value.int 0 0, Value.ref 18, Value.bool false, Value.int 181 0, Value.ref 19, Value.none, Value.none, Value.none, Value.none, Value.int 194 0, Value.int 2 0, Value.str (Str.ofString "/claim/cut.py") 195] }
noncomputable def ob1x21 (P : Params) : Obj := { cls := Value.type "frame", slots := #[some (Value.ref 20), some (Value.ref 3), some (Value.ref 17), none, some (Value.str (Str.ofString "gmp.limbs") 187), none, some (Value.ref 0)] }
noncomputable def ob1x22 (P : Params) : Obj := { cls := Value.type "tuple", data := Data.seq #[] }
noncomputable def ob1x23 (P : Params) : Obj := { cls := Value.type "dict", data := Data.dict #[{ hash := PyData.keyHash P (Str.ofString "__module__"), key := Value.str (Str.ofString "__module__") 196, val := Value.str (Str.ofString "gmp.limbs") 187 }, { hash := PyData.keyHash P (Str.ofString "__firstlineno__"), key := Value.str (Str.ofString "__firstlineno__") 200, val := Value.int 2 199 }, { hash := PyData.keyHash P (Str.ofString "__static_attributes__"), key := Value.str (Str.ofString "__static_attributes__") 201, val := Value.ref 22 }, { hash := PyData.keyHash P (Str.ofString "__weakref__"), key := Value.str (Str.ofString "__weakref__") 203, val := Value.ref 25 }, { hash := PyData.keyHash P (Str.ofString "__doc__"), key := Value.str (Str.ofString "__doc__") 204, val := Value.none }] 3 }
noncomputable def ob1x25 (P : Params) : Obj := { cls := Value.type "getset_descriptor", data := Data.fields #[Value.str (Str.ofString "__weakref__") 202, Value.ref 24, Value.builtin "ExceptionGroup.__weakref__", Value.none] }
noncomputable def ob1x26 (P : Params) : Obj := { cls := Value.type "super", data := Data.fields #[Value.ref 24, Value.ref 24, Value.ref 24] }
noncomputable def ob1x27 (P : Params) : Obj := { cls := Value.type "builtin_function_or_method", data := Data.fields #[Value.builtin "object.__init_subclass__", Value.ref 24] }
noncomputable def ob2x28 (P : Params) : Obj := { cls := Value.type "tuple", data := Data.seq #[Value.ref 24] }
noncomputable def ob2x29 (P : Params) : Obj := { cls := Value.type "builtin_function_or_method", data := Data.fields #[Value.builtin "type.__prepare__", Value.type "type"] }
noncomputable def ob2x30 (P : Params) : Obj := { cls := Value.type "dict", data := Data.dict #[{ hash := PyData.keyHash P (Str.ofString "__module__"), key := Value.str (Str.ofString "__module__") 216, val := Value.str (Str.ofString "gmp.limbs") 187 }, { hash := PyData.keyHash P (Str.ofString "__qualname__"), key := Value.str (Str.ofString "__qualname__") 218, val := Value.str (Str.ofString "DivisionByZero") 217 }, { hash := PyData.keyHash P (Str.ofString "__firstlineno__"), key := Value.str (Str.ofString "__firstlineno__") 220, val := Value.int 4 219 }, { hash := PyData.keyHash P (Str.ofString "__static_attributes__"), key := Value.str (Str.ofString "__static_attributes__") 221, val := Value.ref 35 }] 4 }
noncomputable def ob2x31 (P : Params) : Obj := { cls := Value.type "tuple", data := Data.seq #[] }
noncomputable def ob2x32 (P : Params) : Obj := { cls := Value.none, data := Data.fields #[] }
noncomputable def ob2x33 (P : Params) : Obj := { cls := Value.type "code", data := Data.fields #[Value.str (Str.ofString "DivisionByZero") 211, Value.str (Str.ofString "DivisionByZero") 212, Value.str (Str.ofString "/claim/cut.py") 213, Value.int 4 0, Value.int 0 0, Value.int 0 0, Value.int 0 0, Value.int 0 0, Value.ref 31, Value.bool false, Value.int 181 0, Value.ref 32, Value.none, Value.none, Value.none, Value.none, Value.int 214 0, Value.int 4 0, Value.str (Str.ofString "/claim/cut.py") 215] }
noncomputable def ob2x34 (P : Params) : Obj := { cls := Value.type "frame", slots := #[some (Value.ref 33), some (Value.ref 3), some (Value.ref 30), none, some (Value.str (Str.ofString "gmp.limbs") 187), none, some (Value.ref 0)] }
noncomputable def ob2x35 (P : Params) : Obj := { cls := Value.type "tuple", data := Data.seq #[] }
noncomputable def ob2x36 (P : Params) : Obj := { cls := Value.type "dict", data := Data.dict #[{ hash := PyData.keyHash P (Str.ofString "__module__"), key := Value.str (Str.ofString "__module__") 216, val := Value.str (Str.ofString "gmp.limbs") 187 }, { hash := PyData.keyHash P (Str.ofString "__firstlineno__"), key := Value.str (Str.ofString "__firstlineno__") 220, val := Value.int 4 219 }, { hash := PyData.keyHash P (Str.ofString "__static_attributes__"), key := Value.str (Str.ofString "__static_attributes__") 221, val := Value.ref 35 }, { hash := PyData.keyHash P (Str.ofString "__doc__"), key := Value.str (Str.ofString "__doc__") 222, val := Value.none }] 2 }
noncomputable def ob2x37 (P : Params) : Obj := { cls := Value.type "type", data := Data.cls { name := Str.ofString "DivisionByZero", bases := [Value.ref 24], mro := [Value.ref 37, Value.ref 24, Value.type "Exception", Value.type "BaseException", Value.type "object"], ns := 36, qualname := Str.ofString "DivisionByZero" }, slots := #[some (Value.ref 28), none, some (Value.str (Str.ofString "DivisionByZero") 209), some (Value.str (Str.ofString "DivisionByZero") 217), some (Value.builtin "Exception.__new__"), some (Value.bool true)] }
noncomputable def ob2x38 (P : Params) : Obj := { cls := Value.type "super", data := Data.fields #[Value.ref 37, Value.ref 37, Value.ref 37] }
noncomputable def ob2x39 (P : Params) : Obj := { cls := Value.type "builtin_function_or_method", data := Data.fields #[Value.builtin "object.__init_subclass__", Value.ref 37] }
noncomputable def ob3x3 (P : Params) : Obj := { cls := Value.type "dict", data := Data.dict #[{ hash := PyData.keyHash P (Str.ofString "__name__"), key := Value.str (Str.ofString "__name__") 165, val := Value.str (Str.ofString "gmp.limbs") 187 }, { hash := PyData.keyHash P (Str.ofString "__doc__"), key := Value.str (Str.ofString "__doc__") 166, val := Value.none }, { hash := PyData.keyHash P (Str.ofString "__package__"), key := Value.str (Str.ofString "__package__") 167, val := Value.none }, { hash := PyData.keyHash P (Str.ofString "__loader__"), key := Value.str (Str.ofString "__loader__") 168, val := Value.builtin "__main__.__loader__#opaque" }, { hash := PyData.keyHash P (Str.ofString "__spec__"), key := Value.str (Str.ofString "__spec__") 169, val := Value.none }, { hash := PyData.keyHash P (Str.ofString "__annotations__"), key := Value.str (Str.ofString "__annotations__") 170, val := Value.ref 6 }, { hash := PyData.keyHash P (Str.ofString "__builtins__"), key := Value.str (Str.ofString "__builtins__") 171, val := Value.ref 4 }, { hash := PyData.keyHash P (Str.ofString "__file__"), key := Value.str (Str.ofString "__file__") 173, val := Value.str (Str.ofString "/claim/cut.py") 172 }, { hash := PyData.keyHash P (Str.ofString "__cached__"), key := Value.str (Str.ofString "__cached__") 174, val := Value.none }, { hash := PyData.keyHash P (Str.ofString "GmpError"), key := Value.str (Str.ofString "GmpError") 208, val := Value.ref 24 }, { hash := PyData.keyHash P (Str.ofString "DivisionByZero"), key := Value.str (Str.ofString "DivisionByZero") 224, val := Value.ref 37 }, { hash := PyData.keyHash P (Str.ofString "OutOfRange"), key := Value.str (Str.ofString "OutOfRange") 240, val := Value.ref 49 }] 12 }
noncomputable def ob3x12 (P : Params) : Obj := { cls := Value.none, data := Data.fields #[Value.int 2 0, Value.int 0 0, Value.ref 20, Value.int 4 0, Value.int 0 0, Value.ref 33, Value.int 6 0, Value.int 0 0, Value.ref 45] }
noncomputable def ob3x24 (P : Params) : Obj := { cls := Value.type "type", data := Data.cls { name := Str.ofString "GmpError", bases := [Value.type "Exception"], mro := [Value.ref 24, Value.type "Exception", Value.type "BaseException", Value.type "object"], ns := 23, qualname := Str.ofString "GmpError", subclasses := [Value.ref 37, Value.ref 49] }, slots := #[some (Value.ref 15), none, some (Value.str (Str.ofString "GmpError") 189), some (Value.str (Str.ofString "GmpError") 197), some (Value.builtin "Exception.__new__"), some (Value.bool true)] }
noncomputable def ob3x40 (P : Params) : Obj := { cls := Value.type "tuple", data := Data.seq #[Value.ref 24] }
noncomputable def ob3x41 (P : Params) : Obj := { cls := Value.type "builtin_function_or_method", data := Data.fields #[Value.builtin "type.__prepare__", Value.type "type"] }
noncomputable def ob3x42 (P : Params) : Obj := { cls := Value.type "dict", data := Data.dict #[{ hash := PyData.keyHash P (Str.ofString "__module__"), key := Value.str (Str.ofString "__module__") 232, val := Value.str (Str.ofString "gmp.limbs") 187 }, { hash := PyData.keyHash P (Str.ofString "__qualname__"), key := Value.str (Str.ofString "__qualname__") 234, val := Value.str (Str.ofString "OutOfRange") 233 }, { hash := PyData.keyHash P (Str.ofString "__firstlineno__"), key := Value.str (Str.ofString "__firstlineno__") 236, val := Value.int 6 235 }, { hash := PyData.keyHash P (Str.ofString "__static_attributes__"), key := Value.str (Str.ofString "__static_attributes__") 237, val := Value.ref 47 }] 4 }
noncomputable def ob3x43 (P : Params) : Obj := { cls := Value.type "tuple", data := Data.seq #[] }
noncomputable def ob3x44 (P : Params) : Obj := { cls := Value.none, data := Data.fields #[] }
noncomputable def ob3x45 (P : Params) : Obj := { cls := Value.type "code", data := Data.fields #[Value.str (Str.ofString "OutOfRange") 227, Value.str (Str.ofString "OutOfRange") 228, Value.str (Str.ofString "/claim/cut.py") 229, Value.int 6 0, Value.int 0 0, Value.int 0 0, Value.int 0 0, Value.int 0 0, Value.ref 43, Value.bool false, Value.int 181 0, Value.ref 44, Value.none, Value.none, Value.none, Value.none, Value.int 230 0, Value.int 6 0, Value.str (Str.ofString "/claim/cut.py") 231] }
noncomputable def ob3x46 (P : Params) : Obj := { cls := Value.type "frame", slots := #[some (Value.ref 45), some (Value.ref 3), some (Value.ref 42), none, some (Value.str (Str.ofString "gmp.limbs") 187), none, some (Value.ref 0)] }
noncomputable def ob3x47 (P : Params) : Obj := { cls := Value.type "tuple", data := Data.seq #[] }
noncomputable def ob3x48 (P : Params) : Obj := { cls := Value.type "dict", data := Data.dict #[{ hash := PyData.keyHash P (Str.ofString "__module__"), key := Value.str (Str.ofString "__module__") 232, val := Value.str (Str.ofString "gmp.limbs") 187 }, { hash := PyData.keyHash P (Str.ofString "__firstlineno__"), key := Value.str (Str.ofString "__firstlineno__") 236, val := Value.int 6 235 }, { hash := PyData.keyHash P (Str.ofString "__static_attributes__"), key := Value.str (Str.ofString "__static_attributes__") 237, val := Value.ref 47 }, { hash := PyData.keyHash P (Str.ofString "__doc__"), key := Value.str (Str.ofString "__doc__") 238, val := Value.none }] 2 }
noncomputable def ob3x49 (P : Params) : Obj := { cls := Value.type "type", data := Data.cls { name := Str.ofString "OutOfRange", bases := [Value.ref 24], mro := [Value.ref 49, Value.ref 24, Value.type "Exception", Value.type "BaseException", Value.type "object"], ns := 48, qualname := Str.ofString "OutOfRange" }, slots := #[some (Value.ref 40), none, some (Value.str (Str.ofString "OutOfRange") 225), some (Value.str (Str.ofString "OutOfRange") 233), some (Value.builtin "Exception.__new__"), some (Value.bool true)] }
noncomputable def ob3x50 (P : Params) : Obj := { cls := Value.type "super", data := Data.fields #[Value.ref 49, Value.ref 49, Value.ref 49] }
noncomputable def ob3x51 (P : Params) : Obj := { cls := Value.type "builtin_function_or_method", data := Data.fields #[Value.builtin "object.__init_subclass__", Value.ref 49] }
noncomputable def L3 (P : Params) : List Obj := [boot_o_0 P, boot_o_1 P, ob1x2 P, ob3x3 P, boot_o_4 P, boot_o_5 P, boot_o_6 P, boot_o_7 P, boot_o_8 P, boot_o_9 P, boot_o_10 P, ob0x11 P, ob3x12 P, ob0x13 P, ob0x14 P, ob1x15 P, ob1x16 P, ob1x17 P, ob1x18 P, ob1x19 P, ob1x20 P, ob1x21 P, ob1x22 P, ob1x23 P, ob3x24 P, ob1x25 P, ob1x26 P, ob1x27 P, ob2x28 P, ob2x29 P, ob2x30 P, ob2x31 P, ob2x32 P, ob2x33 P, ob2x34 P, ob2x35 P, ob2x36 P, ob2x37 P, ob2x38 P, ob2x39 P, ob3x40 P, ob3x41 P, ob3x42 P, ob3x43 P, ob3x44 P, ob3x45 P, ob3x46 P, ob3x47 P, ob3x48 P, ob3x49 P, ob3x50 P, ob3x51 P]
/-- the module's frame -/
noncomputable def envM : Env := { scope := PR.main.scope, locals := mainNs, globals := mainNs, cells := [], code := .ref 13, frame := some 14 }
/-- where the run stands behind some statements -/
noncomputable def thr (k : Nat) (pos : Pos) : Thread :=
  ⟨((execs ((behindTheImports PR).drop k) envM).onRaise (leaving envM)).bind fun f => (Sem.pure (Fin.done f) : Sem Fin), .body (behindTheImports PR) envM, pos, [topFrame { line := 0, col := 0, endLine := 0, endCol := 0 }]⟩
noncomputable def S0 (w : World) (os : OsState) : SharedT := ⟨treeL (boot_heap w.params).objs.toList, 11, (boot_heap w.params).life, Array.mk [], boot_drawn, boot_toks, os⟩
noncomputable def S3 (w : World) (os : OsState) : SharedT := ⟨treeL (L3 w.params), 52, (boot_heap w.params).life, Array.mk [], boot_drawn, 241, os⟩
set_option maxHeartbeats 0 in
theorem go3 (w : World) (os : OsState) : goT treeTable PR w 11 (some (.ref 6)) 643 (S0 w os) (topStub PR) = some (S3 w os, thr 4 { line := 6, col := 0, endLine := 7, endCol := 8 }) := by kernel_rfl
set_option maxHeartbeats 0 in
theorem go4 (w : World) (os : OsState) : (runT treeTable PR w 11 (some (.ref 6)) 3133 (S3 w os) (thr 4 { line := 6, col := 0, endLine := 7, endCol := 8 })).map (fun s =>
    (staticsOk [] (boot_heap w.params) s.abs.heap && namesBound PR s.abs.heap && gensDone s.abs && laidKept (boot_heap w.params) s.abs.heap,
      openSeen pv ls [] (fun s => xlAt pv [] s && recOk [] s) true s.abs, hk.obs s.abs)) = some (true, openGood pv ls, hk.val w) := by kernel_rfl
set_option maxHeartbeats 0 in
theorem laid0 (P : Params) : absHeap (treeL (boot_heap P).objs.toList) 11 (boot_heap P).life = boot_heap P := by kernel_rfl
set_option maxHeartbeats 0 in
theorem sizes (w : World) : ((boot_heap w.params).isNs mainGlobals && (Array.mk [] : Array GenState).size == 0, (boot_heap w.params).objs.size, (boot_heap w.params).nsMap mainGlobals "__annotations__") = (true, 11, some (.ref 6)) := by kernel_rfl
set_option maxHeartbeats 0 in
theorem opened : ∀ w : World, (fencedOpening treeTable PR w 3776).map (fun s => (s.heap, s.gens, s.drawn, s.toks)) = some (boot_heap w.params, Array.mk [], boot_drawn, boot_toks) :=
  boot_open (by kernel_rfl) (by decide) (fun s => by kernel_rfl)
theorem left : LeftO PR pv ls (fun s => xlAt pv [] s && recOk [] s) hk.obs hk.val 3776 := left_of (by kernel_rfl) (fun w s => by kernel_rfl) opened sizes laid0 fun w os => by
  exact (congrArg _ (goT_run (n := 3133) _ _ _ (go3 w os))).trans (go4 w os)
/-! the looks at the law's text -/
set_option maxHeartbeats 0 in
theorem look_all : looksOpen PR = true := by
  unfold looksOpen
  repeat' with_reducible refine look_both ?_ ?_
  all_goals decide +kernel
set_option maxHeartbeats 0 in
theorem part : PySem.Challenge.rw_xm0390_01.row.partSaid = true := by
  unfold OpenRow.partSaid
  repeat' (first | with_reducible exact look_all | with_reducible refine look_both ?_ ?_)
  all_goals kernel_rfl
set_option maxHeartbeats 0 in
theorem look_foot : noRoadLSs { strict := true, foot := some PySem.Challenge.rw_xm0390_01.bound', writes := PySem.Challenge.rw_xm0390_01.writes, may := PySem.Challenge.rw_xm0390_01.may } PySem.Challenge.rw_xm0390_01.footing = true := by kernel_rfl
set_option maxHeartbeats 0 in
theorem said : PySem.Challenge.rw_xm0390_01.wellSaid = true := by
  unfold OpenLaw.wellSaid OpenRow.wellSaid
  repeat' (first | with_reducible exact part | with_reducible exact look_foot | with_reducible refine look_both ?_ ?_)
  all_goals kernel_rfl
set_option maxHeartbeats 8000000 in
theorem top {d : DefRec} {kwd : List (Str × PySem.Expr)} (hdef : defOf pv PySem.Challenge.rw_xm0390_01.row.name = some (d, kwd))
    (hp : PR.theDef PySem.Challenge.rw_xm0390_01.row.name = some (d.params, d.body, d.scope)) (hkw : kwWritten? d.params.kwonlyargs d.params.kw_defaults = some kwd)
    (walk : WalkO pv ls (XL pv []) hk.says PySem.Challenge.rw_xm0390_01.row.toRowW d kwd fun f vs => PySem.call f vs) : PySem.Challenge.rw_xm0390_01.Holds := by
  w_on
  refine holds_law said fun said => ?_
  refine holds_open (q := pv) (loose := ls) (Xt := fun s => xlAt pv [] s && recOk [] s) (XP := XL pv []) (Yf := hk.obs) (Ya := hk.val) (YP := hk.says) (N := 3776) left hk.of hk.keeps (fun s e => xl_of s (Bool.and_eq_true_iff.mp e).1) XL.keeps hdef hp hkw (fun s e => recFacts_of (Bool.and_eq_true_iff.mp e).2) (by rfl) said (by decide +kernel) ⟨rfl, rfl, rfl, rfl, rfl, by decide +kernel⟩ ?_ walk
  w_witness2
end Mine

/-! P1 -/
namespace Mine
/-- the ground that the module's top leaves -/
structure E0 (w : World) (base : Heap) : Prop where
  K : OK base
  b : ∃ mb, base.Ns builtinsNs mb ∧ ∀ x : Str, x ≠ "__name__" → mb x = bootBuiltins x
  lim : base.NoLimit
noncomputable abbrev GG (w : World) (base : Heap) : Wd := ⟨PR, w, base⟩
section
variable {w : World} {base : Heap}
theorem glob_of (e0 : E0 w base) (j : Nat) {x : Str} {v : Value} (e : NT[j]? = some (x, some v)) : GlobIs (GG w base) x v := .inl (e0.K.nsAt e)
theorem glob_b (e0 : E0 w base) (j : Nat) {x : Str} {v : Value} (e : NT[j]? = some (x, none)) (hv : bootBuiltins x = some v) (hn : x ≠ "__name__") : GlobIs (GG w base) x v := by
  obtain ⟨mb, hb, h⟩ := e0.b
  exact .inr ⟨e0.K.nsAt e, mb, hb, (h x hn).trans hv⟩
theorem defs_are : (FT.all fun x => (fdOf x.2.1 x.2.2.1 x.2.2.2.1 PR.main.body[x.2.2.2.2]?).isSome) = true := by kernel_rfl
theorem callable_in (e0 : E0 w base) {f : Addr} (h : f ∈ FT.map (·.1)) : Callable (GG w base) (.ref f) := by
  obtain ⟨x, hx, rfl⟩ := List.mem_map.mp h
  obtain ⟨fd, e⟩ := Option.isSome_iff_exists.mp (List.all_eq_true.mp defs_are x hx)
  obtain ⟨o, a, b⟩ := fnSeen_iff.mp (e0.K.fn x hx fd e)
  exact .fn ⟨_, _, a, b⟩
theorem len1 {n : Nat} {P : List Value → Prop} (hn : n = 1) (h : ∀ a, P [a]) : ∀ vs : List Value, vs.length = n → P vs := by
  subst hn
  rintro (_ | ⟨a, _ | ⟨b, r⟩⟩) e <;> first | exact h _ | (exfalso; simp at e)
theorem len2 {n : Nat} {P : List Value → Prop} (hn : n = 2) (h : ∀ a b, P [a, b]) : ∀ vs : List Value, vs.length = n → P vs := by
  subst hn
  rintro (_ | ⟨a, r⟩) e
  · simp at e
  · exact len1 (P := fun r => P (a :: r)) rfl (fun b => h a b) r (by simpa using e)
theorem len3 {n : Nat} {P : List Value → Prop} (hn : n = 3) (h : ∀ a b c, P [a, b, c]) : ∀ vs : List Value, vs.length = n → P vs := by
  subst hn
  rintro (_ | ⟨a, r⟩) e
  · simp at e
  · exact len2 (P := fun r => P (a :: r)) rfl (fun b c => h a b c) r (by simpa using e)
theorem len4 {n : Nat} {P : List Value → Prop} (hn : n = 4) (h : ∀ a b c d, P [a, b, c, d]) : ∀ vs : List Value, vs.length = n → P vs := by
  subst hn
  rintro (_ | ⟨a, r⟩) e
  · simp at e
  · exact len3 (P := fun r => P (a :: r)) rfl (fun b c d => h a b c d) r (by simpa using e)
theorem len5 {n : Nat} {P : List Value → Prop} (hn : n = 5) (h : ∀ a b c d f, P [a, b, c, d, f]) : ∀ vs : List Value, vs.length = n → P vs := by
  subst hn
  rintro (_ | ⟨a, r⟩) e
  · simp at e
  · exact len4 (P := fun r => P (a :: r)) rfl (fun b c d f => h a b c d f) r (by simpa using e)
/-- a contract of a def of the text, from a run of its body -/
theorem CS_fn (e0 : E0 w base) (j : Nat) {k : Nat} {f c : Addr} {m : Str} {t i : Nat} {n : Str} {P : Arguments} {body : List Stmt} {d : List Expr} {re : Option Expr} {tp : List TypeParam} {sc : Scope} {ts : Option Scope} {bd : Str} {pos : Pos}
    {ps : List Str} {args : List T} {r : T} (hj : FT[j]? = some (f, c, m, t, i)) (hst : PR.main.body[i]? = some (.FunctionDef n P body d re tp sc ts bd pos))
    (hbind : ∀ s vs, vs.length = ps.length → BindsTo s (mkFd n P body sc m t c) ⟨vs, []⟩ (ps.zip vs)) (hps : ps.Nodup) (hlen : args.length = ps.length)
    (hkd : ∀ x ∈ ps, (sc.names.lookup x = some .local ∨ sc.names.lookup x = some .cell) ∧ (x == ("__classdict__" : Str)) = false) (hnd : ((cellsFrom 0 sc.names []).map (·.1)).Nodup)
    (hco : sc.isCoroutine = false) (hgen : sc.isGenerator = false) (hk : sc.kind = .function)
    (h : ∀ L, AX (GG w base) k (fE (mkFd n P body sc m t c) f L) (fO (mkFd n P body sc m t c) L) body (fun g _ => g = .ret r) ⟨parR ps args, []⟩) : CS (GG w base) (k + 1) f args r := by
  obtain ⟨⟨o, ho, hd⟩, hc⟩ := e0.K.fnAt hj hst
  exact CS_def ho hd rfl rfl hc e0.lim hbind hps hlen hkd hnd hco hgen hk h

theorem g_normal (e0 : E0 w base) : GlobIs (GG w base) (Str.ofString "normal") (.ref 58) := glob_of e0 0 rfl
theorem g_nat_of (e0 : E0 w base) : GlobIs (GG w base) (Str.ofString "nat_of") (.ref 65) := glob_of e0 1 rfl
theorem g_compare (e0 : E0 w base) : GlobIs (GG w base) (Str.ofString "compare") (.ref 72) := glob_of e0 2 rfl
theorem g_add (e0 : E0 w base) : GlobIs (GG w base) (Str.ofString "add") (.ref 79) := glob_of e0 3 rfl
theorem g_sub (e0 : E0 w base) : GlobIs (GG w base) (Str.ofString "sub") (.ref 86) := glob_of e0 4 rfl
theorem g_divrem_limb (e0 : E0 w base) : GlobIs (GG w base) (Str.ofString "divrem_limb") (.ref 93) := glob_of e0 5 rfl
theorem g_signed (e0 : E0 w base) : GlobIs (GG w base) (Str.ofString "signed") (.ref 121) := glob_of e0 6 rfl
theorem g_s_of (e0 : E0 w base) : GlobIs (GG w base) (Str.ofString "s_of") (.ref 128) := glob_of e0 7 rfl
theorem g_s_neg (e0 : E0 w base) : GlobIs (GG w base) (Str.ofString "s_neg") (.ref 135) := glob_of e0 8 rfl
theorem g_s_add (e0 : E0 w base) : GlobIs (GG w base) (Str.ofString "s_add") (.ref 142) := glob_of e0 9 rfl
theorem g_s_mul (e0 : E0 w base) : GlobIs (GG w base) (Str.ofString "s_mul") (.ref 149) := glob_of e0 10 rfl
theorem g_tdiv (e0 : E0 w base) : GlobIs (GG w base) (Str.ofString "tdiv") (.ref 156) := glob_of e0 11 rfl
theorem g_m_unit (e0 : E0 w base) : GlobIs (GG w base) (Str.ofString "m_unit") (.ref 165) := glob_of e0 12 rfl
theorem g_m_turned (e0 : E0 w base) : GlobIs (GG w base) (Str.ofString "m_turned") (.ref 170) := glob_of e0 13 rfl
theorem g_inner (e0 : E0 w base) : GlobIs (GG w base) (Str.ofString "inner") (.ref 177) := glob_of e0 14 rfl
theorem g_m_mul (e0 : E0 w base) : GlobIs (GG w base) (Str.ofString "m_mul") (.ref 182) := glob_of e0 15 rfl
theorem g_exact (e0 : E0 w base) : GlobIs (GG w base) (Str.ofString "exact") (.ref 189) := glob_of e0 16 rfl
theorem g_characteristic (e0 : E0 w base) : GlobIs (GG w base) (Str.ofString "characteristic") (.ref 194) := glob_of e0 17 rfl
theorem g_m_power (e0 : E0 w base) : GlobIs (GG w base) (Str.ofString "m_power") (.ref 201) := glob_of e0 18 rfl
theorem g_mul_school (e0 : E0 w base) : GlobIs (GG w base) (Str.ofString "mul_school") (.ref 208) := glob_of e0 19 rfl
theorem g_divrem_small (e0 : E0 w base) : GlobIs (GG w base) (Str.ofString "divrem_small") (.ref 215) := glob_of e0 20 rfl
theorem g_divrem_school (e0 : E0 w base) : GlobIs (GG w base) (Str.ofString "divrem_school") (.ref 250) := glob_of e0 21 rfl
theorem g_law_woven (e0 : E0 w base) : GlobIs (GG w base) (Str.ofString "_law_woven") (.ref 257) := glob_of e0 22 rfl
theorem g_law_limbs (e0 : E0 w base) : GlobIs (GG w base) (Str.ofString "_law_limbs") (.ref 264) := glob_of e0 23 rfl
theorem g_law_signed (e0 : E0 w base) : GlobIs (GG w base) (Str.ofString "_law_signed") (.ref 271) := glob_of e0 24 rfl
theorem g_law_walked (e0 : E0 w base) : GlobIs (GG w base) (Str.ofString "_law_walked") (.ref 278) := glob_of e0 25 rfl
theorem g_law_fits (e0 : E0 w base) : GlobIs (GG w base) (Str.ofString "_law_fits") (.ref 285) := glob_of e0 26 rfl
theorem g_len (e0 : E0 w base) : GlobIs (GG w base) (Str.ofString "len") (.builtin "len") := glob_b e0 30 rfl (by boot_fast) (by decide)
theorem g_abs (e0 : E0 w base) : GlobIs (GG w base) (Str.ofString "abs") (.builtin "abs") := glob_b e0 31 rfl (by boot_fast) (by decide)
theorem g_min (e0 : E0 w base) : GlobIs (GG w base) (Str.ofString "min") (.builtin "min") := glob_b e0 32 rfl (by boot_fast) (by decide)
theorem g_sum (e0 : E0 w base) : GlobIs (GG w base) (Str.ofString "sum") (.builtin "sum") := glob_b e0 33 rfl (by boot_fast) (by decide)
theorem g_range (e0 : E0 w base) : GlobIs (GG w base) (Str.ofString "range") (.type "range") := glob_b e0 34 rfl (by boot_fast) (by decide)
theorem g_enumerate (e0 : E0 w base) : GlobIs (GG w base) (Str.ofString "enumerate") (.type "enumerate") := glob_b e0 35 rfl (by boot_fast) (by decide)
theorem g_int (e0 : E0 w base) : GlobIs (GG w base) (Str.ofString "int") (.type "int") := glob_b e0 36 rfl (by boot_fast) (by decide)
end
end Mine

/-! Q1 -/
namespace Mine
/-! numbers by limbs -/
/-- noughts at the end go -/
noncomputable def trim : List Nat → List Nat
  | [] => []
  | x :: xs => match trim xs with
    | [] => if x = 0 then [] else [x]
    | y :: ys => x :: y :: ys
theorem trim_zero {xs : List Nat} (h : ∀ j, j < xs.length → xs.getD j 0 = 0) : trim xs = [] := by
  induction xs with
  | nil => rfl
  | cons x xs ih =>
    have h0 : x = 0 := h 0 (by simp)
    have := ih fun j hj => by simpa using h (j + 1) (by simpa using hj)
    simp [trim, this, h0]
theorem trim_take {xs : List Nat} {k : Nat} (hk : k ≤ xs.length) (hz : ∀ j, k ≤ j → j < xs.length → xs.getD j 0 = 0) (hn : k = 0 ∨ xs.getD (k - 1) 0 ≠ 0) : xs.take k = trim xs := by
  induction xs generalizing k with
  | nil => simp [trim]
  | cons x xs ih =>
    cases k with
    | zero => rw [trim_zero fun j hj => hz j (Nat.zero_le _) hj]; rfl
    | succ k =>
      have hn : xs.getD (k - 1) 0 ≠ 0 ∨ (k = 0 ∧ x ≠ 0) := by
        rcases hn with hn | hn
        · omega
        · cases k with
          | zero => right; simpa using hn
          | succ k => left; simpa using hn
      have := ih (k := k) (by simpa using hk) (fun j hj hj' => by simpa using hz (j + 1) (by omega) (by simpa using hj')) (by rcases hn with h | ⟨h, _⟩; exact .inr h; exact .inl h)
      rw [List.take_succ_cons, this]
      cases ht : trim xs with
      | nil =>
        rcases hn with h | ⟨rfl, hx⟩
        · exfalso
          rw [ht] at this
          have hk0 : k = 0 ∨ xs = [] := by simpa using this
          rcases hk0 with rfl | rfl
          · cases xs with
            | nil => simp at h
            | cons y ys =>
              have := hz 1 (by omega) (by simp)
              simp at h this
              exact h this
          · simp at h
        · simp [trim, ht, hx]
      | cons y ys => simp [trim, ht]

noncomputable def val (B : Nat) : List Nat → Nat
  | [] => 0
  | x :: xs => x + B * val B xs
noncomputable def dg (B n : Nat) : List Nat := if _h : n = 0 ∨ B < 2 then [] else n % B :: dg B (n / B)
termination_by n
decreasing_by exact Nat.div_lt_self (by omega) (by omega)
section
variable {B : Nat}
theorem dg_zero : dg B 0 = [] := by rw [dg]; simp
theorem dg_pos (hB : 2 ≤ B) {n : Nat} (h : 0 < n) : dg B n = n % B :: dg B (n / B) := by
  rw [dg, dif_neg (by omega)]
theorem dg_ind (hB : 2 ≤ B) {P : Nat → Prop} (h0 : P 0) (h : ∀ n, 0 < n → P (n / B) → P n) (n : Nat) : P n := by
  induction n using Nat.strongRecOn with
  | _ n ih =>
    rcases Nat.eq_zero_or_pos n with rfl | q
    · exact h0
    · exact h n q (ih _ (Nat.div_lt_self q hB))
theorem val_dg (hB : 2 ≤ B) (n : Nat) : val B (dg B n) = n := by
  induction n using dg_ind hB with
  | h0 => rw [dg_zero]; rfl
  | h n hn ih => rw [dg_pos hB hn, val, ih]; have := Nat.mod_add_div n B; omega
theorem dg_lt (hB : 2 ≤ B) (n : Nat) : ∀ x ∈ dg B n, x < B := by
  induction n using dg_ind hB with
  | h0 => intro x hx; rw [dg_zero] at hx; cases hx
  | h n hn ih =>
    rw [dg_pos hB hn]
    intro x hx
    rcases List.mem_cons.mp hx with rfl | hx
    · exact Nat.mod_lt _ (by omega)
    · exact ih x hx
theorem trim_dg (hB : 2 ≤ B) : ∀ {xs : List Nat}, (∀ x ∈ xs, x < B) → trim xs = dg B (val B xs)
  | [], _ => dg_zero.symm
  | x :: xs, h => by
    have ih := trim_dg hB (xs := xs) (fun y hy => h y (List.mem_cons_of_mem _ hy))
    have hx := h x List.mem_cons_self
    have e1 : (x + B * val B xs) % B = x := by rw [Nat.add_mul_mod_self_left, Nat.mod_eq_of_lt hx]
    have e2 : (x + B * val B xs) / B = val B xs := by rw [Nat.add_mul_div_left _ _ (by omega), Nat.div_eq_of_lt hx]; omega
    rcases Nat.eq_zero_or_pos (x + B * val B xs) with q | q
    · have hx0 : x = 0 := by omega
      have hv : val B xs = 0 := by
        rcases Nat.eq_zero_or_pos (val B xs) with r | r
        · exact r
        · have := Nat.mul_pos (show 0 < B by omega) r; omega
      rw [hv] at ih
      simp only [val]
      rw [q, trim, ih, hx0]
      simp [dg_zero]
    · simp only [val]
      rw [dg_pos hB q, e1, e2, ← ih, trim]
      cases ht : trim xs with
      | nil =>
        have hv : val B xs = 0 := by rw [ih] at ht; have := val_dg hB (val B xs); rw [ht] at this; exact this.symm
        have hx0 : ¬ x = 0 := by intro z; rw [z, hv] at q; omega
        simp [hx0]
      | cons y ys => rfl
theorem dg_get (hB : 2 ≤ B) (n : Nat) : ∀ k, (dg B n).getD k 0 = n / B ^ k % B := by
  induction n using dg_ind hB with
  | h0 => intro k; simp [dg_zero]
  | h n hn ih =>
    intro k
    rw [dg_pos hB hn]
    cases k with
    | zero => simp
    | succ k => rw [List.getD_cons_succ, ih k, Nat.div_div_eq_div_mul, Nat.pow_succ, Nat.mul_comm]
theorem dg_len (hB : 2 ≤ B) (n : Nat) : ∀ k, k < (dg B n).length ↔ 0 < n / B ^ k := by
  induction n using dg_ind hB with
  | h0 => intro k; simp [dg_zero]
  | h n hn ih =>
    intro k
    rw [dg_pos hB hn]
    cases k with
    | zero => simp; exact hn
    | succ k => rw [List.length_cons, Nat.add_lt_add_iff_right, ih k, Nat.div_div_eq_div_mul, Nat.pow_succ, Nat.mul_comm]
theorem dg_len_le (hB : 2 ≤ B) {n k : Nat} (h : n < B ^ k) : (dg B n).length ≤ k := by
  rcases Nat.lt_or_ge k (dg B n).length with q | q
  · rw [dg_len hB, Nat.div_eq_of_lt h] at q; exact absurd q (Nat.lt_irrefl _)
  · exact q
theorem dg_len_lt (hB : 2 ≤ B) (n : Nat) : n < B ^ (dg B n).length := by
  have : ¬ (dg B n).length < (dg B n).length := Nat.lt_irrefl _
  rw [dg_len hB] at this
  have hp : 0 < B ^ (dg B n).length := Nat.pow_pos (by omega)
  rcases Nat.lt_or_ge n (B ^ (dg B n).length) with q | q
  · exact q
  · exact absurd (Nat.div_pos q hp) this
theorem dg_len_small (hB : 2 ≤ B) {n k : Nat} (h : n < 2 ^ k) : (dg B n).length ≤ k := dg_len_le hB (Nat.lt_of_lt_of_le h (Nat.pow_le_pow_left hB k))
theorem dg_inj (hB : 2 ≤ B) {m n : Nat} (h : dg B m = dg B n) : m = n := by rw [← val_dg hB m, h, val_dg hB]
theorem dg_nil (hB : 2 ≤ B) {n : Nat} : (dg B n).length = 0 ↔ n = 0 := by
  constructor
  · intro h; have : dg B n = dg B 0 := by rw [dg_zero]; exact List.length_eq_zero_iff.mp h
    exact dg_inj hB this
  · rintro rfl; rw [dg_zero]; rfl
theorem dg_mono (hB : 2 ≤ B) {m n : Nat} (h : m ≤ n) : (dg B m).length ≤ (dg B n).length := dg_len_le hB (Nat.lt_of_le_of_lt h (dg_len_lt hB n))
theorem val_append (xs ys : List Nat) : val B (xs ++ ys) = val B xs + B ^ xs.length * val B ys := by
  induction xs with
  | nil => simp [val]
  | cons x xs ih => simp only [List.cons_append, val, ih, List.length_cons, Nat.pow_succ]; rw [Nat.mul_add, Nat.mul_comm (B ^ xs.length) B, Nat.mul_assoc]; omega
theorem val_rep (k : Nat) : val B (List.replicate k 0) = 0 := by
  induction k with
  | zero => rfl
  | succ k ih => simp [List.replicate_succ, val, ih]
theorem val_set {xs : List Nat} {k v : Nat} (h : k < xs.length) : val B (xs.set k v) + xs.getD k 0 * B ^ k = val B xs + v * B ^ k := by
  induction xs generalizing k with
  | nil => simp at h
  | cons x xs ih =>
    cases k with
    | zero => simp [val]; omega
    | succ k =>
      have := ih (k := k) (by simpa using h)
      simp only [List.set_cons_succ, val, List.getD_cons_succ, Nat.pow_succ]
      have e1 : ∀ a : Nat, a * (B ^ k * B) = B * (a * B ^ k) := fun a => by rw [Nat.mul_comm (B ^ k) B, ← Nat.mul_assoc, Nat.mul_comm a B, Nat.mul_assoc]
      rw [e1, e1]
      have h1 : B * (val B (xs.set k v) + xs.getD k 0 * B ^ k) = B * (val B xs + v * B ^ k) := by rw [this]
      rw [Nat.mul_add, Nat.mul_add] at h1
      omega
theorem set_lt {xs : List Nat} {k v : Nat} (h : ∀ x ∈ xs, x < B) (hv : v < B) : ∀ x ∈ xs.set k v, x < B := fun x hx => by
  rcases List.mem_or_eq_of_mem_set hx with q | q
  · exact h x q
  · omega
theorem snoc_lt {xs : List Nat} {v : Nat} (h : ∀ x ∈ xs, x < B) (hv : v < B) : ∀ x ∈ xs ++ [v], x < B := fun x hx => by
  rcases List.mem_append.mp hx with q | q
  · exact h x q
  · rw [List.mem_singleton] at q; omega
theorem rep_lt (hB : 2 ≤ B) (k : Nat) : ∀ x ∈ List.replicate k 0, x < B := fun x hx => by have := (List.mem_replicate.mp hx).2; omega
theorem getD_lt (hB : 2 ≤ B) {xs : List Nat} (h : ∀ x ∈ xs, x < B) (k : Nat) : xs.getD k 0 < B := by
  rcases Nat.lt_or_ge k xs.length with q | q
  · have e : xs.getD k 0 = xs[k] := by simp [q]
    rw [e]; exact h _ (List.getElem_mem q)
  · have e : xs.getD k 0 = 0 := by simp [q]
    omega
theorem getD_set {xs : List Nat} {k v j : Nat} (h : k < xs.length) : (xs.set k v).getD j 0 = if j = k then v else xs.getD j 0 := by
  simp only [List.getD_eq_getElem?_getD, List.getElem?_set]
  by_cases q : k = j
  · subst q; simp [h]
  · rw [if_neg q, if_neg (fun r => q r.symm)]
theorem val_lt (hB : 2 ≤ B) {xs : List Nat} (h : ∀ x ∈ xs, x < B) : val B xs < B ^ xs.length := by
  induction xs with
  | nil => simp [val]
  | cons x xs ih =>
    have h1 := h x List.mem_cons_self
    have h2 := ih fun y hy => h y (List.mem_cons_of_mem _ hy)
    have h3 : B * (val B xs + 1) ≤ B * B ^ xs.length := Nat.mul_le_mul_left B h2
    rw [List.length_cons, val, Nat.pow_succ, Nat.mul_comm (B ^ xs.length)]
    rw [Nat.mul_add] at h3
    omega
theorem div_step (n k : Nat) : n / B ^ k = n / B ^ k % B + B * (n / B ^ (k + 1)) := by
  rw [Nat.pow_succ, ← Nat.div_div_eq_div_mul]; exact (Nat.mod_add_div _ _).symm
theorem mod_step (n k : Nat) : n % B ^ (k + 1) = n % B ^ k + n / B ^ k % B * B ^ k := by
  rw [Nat.pow_succ, Nat.mod_mul, Nat.mul_comm]
end

theorem band_mask (c w : Nat) : Builtin.bitAnd (c : Int) (1 * 2 ^ ((w : Int)).toNat - 1) = ((c % 2 ^ w : Nat) : Int) := by
  have e : ((1 : Int) * 2 ^ ((w : Int)).toNat - 1) = ((2 ^ w - 1 : Nat) : Int) := by
    have : 0 < 2 ^ w := Nat.two_pow_pos w
    rw [Int.ofNat_sub (by omega)]; simp
  rw [e, bitAnd_pp (by omega) (by omega)]
  simp only [Int.toNat_natCast, Nat.and_two_pow_sub_one_eq_mod]
theorem shr_nat (c w : Nat) : (c : Int) / 2 ^ ((w : Int)).toNat = ((c / 2 ^ w : Nat) : Int) := by simp
theorem getD_rep (k j : Nat) : (List.replicate k 0).getD j 0 = 0 := by
  simp only [List.getD_eq_getElem?_getD, List.getElem?_replicate]
  split <;> rfl
theorem ndiv (a b : Nat) : (a : Int) / (b : Int) = ((a / b : Nat) : Int) := by push_cast; rfl
theorem nmod (a b : Nat) : (a : Int) % (b : Int) = ((a % b : Nat) : Int) := by push_cast; rfl
theorem one_shl (w : Nat) : (1 : Int) * 2 ^ ((w : Int)).toNat = ((2 ^ w : Nat) : Int) := by simp
theorem shl_nat (c w : Nat) : (c : Int) * 2 ^ ((w : Int)).toNat = ((c * 2 ^ w : Nat) : Int) := by simp
theorem bor_limb (r a w : Nat) (h : a < 2 ^ w) : Builtin.bitOr ((r * 2 ^ w : Nat) : Int) (a : Int) = ((r * 2 ^ w + a : Nat) : Int) := by
  rw [bitOr_and, bitAnd_pp (by omega) (by omega)]
  have : (r * 2 ^ w) &&& a = 0 := by
    apply Nat.eq_of_testBit_eq
    intro i
    rw [Nat.testBit_and, Nat.testBit_mul_two_pow, Nat.zero_testBit]
    by_cases q : w ≤ i
    · rw [Nat.testBit_lt_two_pow (Nat.lt_of_lt_of_le h (Nat.pow_le_pow_right (by omega) q)), Bool.and_false]
    · simp [q]
  simp only [Int.toNat_natCast, this]
  omega
end Mine

/-! P2 -/
namespace Mine
inductive SubR (r' : List (Str × V)) : List (Str × V) → Prop
  | nil : SubR r' []
  | cons {x : Str} {v v' : V} {r : List (Str × V)} : r'.lookup x = some v' → v = v' → SubR r' r → SubR r' ((x, v) :: r)
theorem SubR.get {r' : List (Str × V)} : ∀ {r : List (Str × V)}, SubR r' r → ∀ x v, r.lookup x = some v → r'.lookup x = some v
  | _, .nil, _, _, e => by simp at e
  | _, .cons (x := y) h q r, x, c, e => by
    rw [List.lookup_cons] at e
    cases b : x == y with
    | true => rw [b] at e; cases e; rw [beq_iff_eq.mp b, q]; exact h
    | false => rw [b] at e; exact r.get x c e
theorem SubR.le {st st' : St} (h : SubR st.r st'.r) (e : st'.H = st.H) : Le st' st := ⟨e, h.get⟩

theorem ite_dec {p : Prop} [Decidable p] {A B : Prop} (h1 : p → A) (h2 : ¬ p → B) : if decide p = true then A else B := by
  by_cases h : p
  · simp only [h, decide_true, if_true]; exact h1 h
  · simp only [h, decide_false, Bool.false_eq_true, if_false]; exact h2 h
theorem ite_beq {i j : Int} {A B : Prop} (h1 : i = j → A) (h2 : i ≠ j → B) : if (i == j) = true then A else B := by
  by_cases h : i = j
  · rw [if_pos (beq_iff_eq.mpr h)]; exact h1 h
  · rw [if_neg (fun q => h (beq_iff_eq.mp q))]; exact h2 h
theorem ite_bne {i j : Int} {A B : Prop} (h1 : i ≠ j → A) (h2 : i = j → B) : if (i != j) = true then A else B := by
  by_cases h : i = j
  · rw [if_neg (fun q => (bne_iff_ne.mp q) h)]; exact h2 h
  · rw [if_pos (bne_iff_ne.mpr h)]; exact h1 h
noncomputable def LN (xs : List Nat) : List T := xs.map fun (x : Nat) => .int (x : Int)
theorem LN_length (xs : List Nat) : (LN xs).length = xs.length := by simp [LN]
theorem LN_getN {xs : List Nat} {k : Nat} (h : k < xs.length) : (LN xs)[k]? = some (.int ((xs.getD k 0 : Nat) : Int)) := by
  simp [LN, h]
theorem LN_get {xs : List Nat} {k : Int} (h0 : 0 ≤ k) (h : k < xs.length) : (LN xs)[k.toNat]? = some (.int ((xs.getD k.toNat 0 : Nat) : Int)) := LN_getN (by omega)
theorem LN_take (xs : List Nat) (k : Nat) : (LN xs).take k = LN (xs.take k) := by simp [LN, List.map_take]
theorem LN_set (xs : List Nat) (k : Nat) (x : Nat) : (LN xs).set k (.int x) = LN (xs.set k x) := by simp [LN, List.map_set]
theorem LN_snoc (xs : List Nat) (x : Nat) : LN xs ++ [.int (x : Int)] = LN (xs ++ [x]) := by simp [LN]
theorem BCall_lenN {G : Wd} {n : Nat} {env : Env} {oc : List (Str × Addr)} {st : St} {xs : List Nat} {Φ : V → St → Prop} (hn : xs.length ≤ 1000000) (hq : Φ (.t (.int xs.length)) st) : BCall G n env oc (.builtin "len") [.t (.lst (LN xs))] Φ st :=
  BCall_len rfl (by rw [LN_length]; exact hn) (by rw [LN_length]; exact hq)

theorem AX_tup_sw2 {G : Wd} {n : Nat} {env : Env} {oc : List (Str × Addr)} {st : St} {rest : List Stmt} {Φ : F → St → Prop} {ts : List Expr} {xs : List Str} {k k' : Nat} {tp p : Pos} {es : List Expr} {pos : Pos} (_hn : NamesAre ts xs) (hw : swappedStores [.Tuple ts k tp] (.Tuple es k' p) env = pure (some xs)) (hb : Bindables env oc xs)
    (hs : swapsWithSole [.Tuple ts k tp] (.Tuple es k' p) pos.line env = pure false)
    (h : AL G n env oc p es (fun vs st₁ => vs.length = xs.length ∧ vs.length ≤ 1000 ∧ AX G n env oc rest Φ (setAll xs.reverse vs.reverse st₁)) st) : AX G n env oc (.Assign [.Tuple ts k tp] (.Tuple es k' p) pos :: rest) Φ st := AX_tup_sw hw hb hs h
theorem LN_nil : ([] : List T) = LN [] := rfl
theorem AT_same {G : Wd} {n : Nat} {env : Env} {oc : List (Str × Addr)} {st : St} {α β : Type} {t : Sem α} {R : Heap → List Addr → List Addr → α → β → Prop} {Φ : β → St → Prop} (h : AT G n env oc t R Φ st) : AT G n env oc t R Φ st := h

section
variable {G : Wd} {n : Nat} {env : Env} {oc : List (Str × Addr)} {st : St} {rest : List Stmt} {Φ : F → St → Prop}
noncomputable def FQ (G : Wd) (n : Nat) (env : Env) (oc : List (Str × Addr)) (rest : List Stmt) (Φ : F → St → Prop) (J : St → Prop) (g : F) (st : St) : Prop :=
  match g with | .next => J st | .cont => J st | .brk => AX G n env oc rest Φ st | .ret r => Φ (.ret r) st
theorem FQ_next {J : St → Prop} (h : J st) : FQ G n env oc rest Φ J .next st := h
theorem FQ_ret {J : St → Prop} {r : T} (h : Φ (.ret r) st) : FQ G n env oc rest Φ J (.ret r) st := h
/-- the turns of a for over numbers -/
noncomputable def FN (G : Wd) (n : Nat) (env : Env) (oc : List (Str × Addr)) (rest : List Stmt) (Φ : F → St → Prop) (x : Str) (body : List Stmt) (k : Nat) (item : Nat → Int) (st : St) : Prop :=
  ∃ J : Nat → St → Prop, J 0 st ∧ (∀ i st', i < k → J i st' → AX G n env oc body (FQ G n env oc rest Φ (J (i + 1))) (st'.set x (.t (.int (item i))))) ∧ (∀ st', J k st' → AX G n env oc rest Φ st')
theorem FN.ok {x : Str} {p : Pos} {body : List Stmt} {k : Nat} {item : Nat → Int} (h : FN G n env oc rest Φ x body k item st) : ∃ J : Nat → St → Prop, J 0 st ∧ (∀ i st', i < k → J i st' → ∃ f, Tgt (.Name x p) (.int (item i)) f [x] ∧
      AX G n env oc body (fun g st'' => match g with | .next => J (i + 1) st'' | .cont => J (i + 1) st'' | .brk => AX G n env oc rest Φ st'' | .ret r => Φ (.ret r) st'') (f st')) ∧ (∀ st', J k st' → AX G n env oc rest Φ st') := by
  obtain ⟨J, a, b, c⟩ := h
  exact ⟨J, a, fun i st' hi hj => ⟨_, .name, (b i st' hi hj).mono fun g st'' q => by cases g <;> exact q⟩, c⟩
theorem AX_for1 {x : Str} {p : Pos} {fe e : Expr} {pos fpos : Pos} {body : List Stmt} (hs : ∀ y, foldedSetIterable (.Call fe [e] [] pos) env y = pure y) (hb : Bindable env oc x)
    (heq : eval (.Call fe [e] [] pos) env = do
          let f ← eval fe env
          callWith pos f [] (backTo pos (starEach [e] env)) (backToKw pos (keywordEach [] env)))
    (hst : starEach [e] env = (false, eval e env) :: starEach [] env)
    (h : AE G n env oc fe (fun fv st₁ => fv = .t (.con (.type "range")) ∧ AL G n env oc pos [e] (fun vs st₂ => ∃ b : Nat, vs = [.t (.int b)] ∧ b ≤ 1000000 ∧ FN G n env oc rest Φ x body b (fun i => (i : Int)) st₂) st₁) st) : AX G n env oc (.For (.Name x p) (.Call fe [e] [] pos) body [] fpos :: rest) Φ st :=
  AX_for (xs := [x]) hs (.cons hb .nil) (ASrc_range1 heq hst (h.mono fun v st₁ ⟨q, r⟩ => ⟨q, r.mono fun vs st₂ ⟨b, q, r, t⟩ => ⟨b, q, r, t.ok⟩⟩))
theorem AX_for2 {x : Str} {p : Pos} {fe e e' : Expr} {pos fpos : Pos} {body : List Stmt} (hs : ∀ y, foldedSetIterable (.Call fe [e, e'] [] pos) env y = pure y) (hb : Bindable env oc x)
    (heq : eval (.Call fe [e, e'] [] pos) env = do
          let f ← eval fe env
          callWith pos f [] (backTo pos (starEach [e, e'] env)) (backToKw pos (keywordEach [] env)))
    (hst : starEach [e, e'] env = (false, eval e env) :: starEach [e'] env) (hpl : ((backTo pos (starEach [e'] env)).any fun x => x.1) = false)
    (h : AE G n env oc fe (fun fv st₁ => fv = .t (.con (.type "range")) ∧ AL G n env oc pos [e, e'] (fun vs st₂ => ∃ a b : Int, vs = [.t (.int a), .t (.int b)] ∧ (-1000000 ≤ a ∧ a ≤ 1000000) ∧ (-1000000 ≤ b ∧ b ≤ 1000000) ∧ FN G n env oc rest Φ x body (b - a).toNat (fun i => a + i) st₂) st₁) st) : AX G n env oc (.For (.Name x p) (.Call fe [e, e'] [] pos) body [] fpos :: rest) Φ st :=
  AX_for (xs := [x]) hs (.cons hb .nil) (ASrc_range2 heq hst hpl (h.mono fun v st₁ ⟨q, r⟩ => ⟨q, r.mono fun vs st₂ ⟨a, b, q, r, r', t⟩ => ⟨a, b, q, r, r', t.ok⟩⟩))
theorem AX_for3 {x : Str} {p : Pos} {fe e e' e'' : Expr} {pos fpos : Pos} {body : List Stmt} (hs : ∀ y, foldedSetIterable (.Call fe [e, e', e''] [] pos) env y = pure y) (hb : Bindable env oc x)
    (heq : eval (.Call fe [e, e', e''] [] pos) env = do
          let f ← eval fe env
          callWith pos f [] (backTo pos (starEach [e, e', e''] env)) (backToKw pos (keywordEach [] env)))
    (hst : starEach [e, e', e''] env = (false, eval e env) :: starEach [e', e''] env) (hpl : ((backTo pos (starEach [e', e''] env)).any fun x => x.1) = false)
    (h : AE G n env oc fe (fun fv st₁ => fv = .t (.con (.type "range")) ∧ AL G n env oc pos [e, e', e''] (fun vs st₂ => ∃ a b : Int, vs = [.t (.int a), .t (.int b), .t (.int (-1))] ∧ (-1000000 ≤ a ∧ a ≤ 1000000) ∧ (-1000000 ≤ b ∧ b ≤ 1000000) ∧ FN G n env oc rest Φ x body (a - b).toNat (fun i => a - i) st₂) st₁) st) : AX G n env oc (.For (.Name x p) (.Call fe [e, e', e''] [] pos) body [] fpos :: rest) Φ st :=
  AX_for (xs := [x]) hs (.cons hb .nil) (ASrc_range3 heq hst hpl (h.mono fun v st₁ ⟨q, r⟩ => ⟨q, r.mono fun vs st₂ ⟨a, b, q, r, r', t⟩ => ⟨a, b, q, r, r', t.ok⟩⟩))
/-- the turns of a for over a list -/
noncomputable def FL (G : Wd) (n : Nat) (env : Env) (oc : List (Str × Addr)) (rest : List Stmt) (Φ : F → St → Prop) (f : Nat → T → St → St) (body : List Stmt) (l : List T) (st : St) : Prop :=
  ∃ J : Nat → St → Prop, J 0 st ∧ (∀ i st', i < l.length → J i st' → ∃ z, l[i]? = some z ∧ AX G n env oc body (FQ G n env oc rest Φ (J (i + 1))) (f i z st')) ∧ (∀ st', J l.length st' → AX G n env oc rest Φ st')
theorem AX_forL {x : Str} {p : Pos} {e : Expr} {fpos : Pos} {body : List Stmt} (hs : ∀ y, foldedSetIterable e env y = pure y) (hb : Bindable env oc x)
    (h : AE G n env oc e (fun v st₁ => ∃ l, v = .t (.lst l) ∧ FL G n env oc rest Φ (fun _ z st => st.set x (.t z)) body l st₁) st) : AX G n env oc (.For (.Name x p) e body [] fpos :: rest) Φ st :=
  AX_for (xs := [x]) hs (.cons hb .nil) (ASrc_list (h.mono fun v st₁ ⟨l, q, J, a, b, c⟩ => ⟨l, fun i => l.getD i .none, q, fun i hi => by simp [hi], J, a, fun i st' hi hj => by
    obtain ⟨z, hz, q⟩ := b i st' hi hj
    have e : l.getD i T.none = z := by simp [List.getD_eq_getElem?_getD, hz]
    refine ⟨fun st => st.set x (.t z), by show Tgt _ (l.getD i T.none) _ _; rw [e]; exact .name, ?_⟩
    exact (q.mono fun g st2 q => by cases g <;> exact q), c⟩))
theorem AX_forE {ts : List Expr} {tk : Nat} {tp : Pos} {x y : Str} {fe e : Expr} {pos fpos : Pos} {body : List Stmt} (hn : NamesAre ts [x, y]) (hs : ∀ y, foldedSetIterable (.Call fe [e] [] pos) env y = pure y) (hb : Bindable env oc x) (hb' : Bindable env oc y)
    (heq : eval (.Call fe [e] [] pos) env = do
          let f ← eval fe env
          callWith pos f [] (backTo pos (starEach [e] env)) (backToKw pos (keywordEach [] env)))
    (hst : starEach [e] env = (false, eval e env) :: starEach [] env)
    (h : AE G n env oc fe (fun fv st₁ => fv = .t (.con (.type "enumerate")) ∧ AL G n env oc pos [e] (fun vs st₂ => ∃ l, vs = [.t (.lst l)] ∧ FL G n env oc rest Φ (fun i z st => (st.set x (.t (.int i))).set y (.t z)) body l st₂) st₁) st) : AX G n env oc (.For (.Tuple ts tk tp) (.Call fe [e] [] pos) body [] fpos :: rest) Φ st :=
  AX_for (xs := [x, y]) hs (.cons hb (.cons hb' .nil)) (ASrc_enum heq hst (h.mono fun v st₁ ⟨q, r⟩ => ⟨q, r.mono fun vs st₂ ⟨l, q, J, a, b, c⟩ => ⟨l, fun i => .tup [.int i, l.getD i .none], q, fun i z hz => by simp [List.getD_eq_getElem?_getD, hz], J, a, fun i st' hi hj => by
    obtain ⟨z, hz, q⟩ := b i st' hi hj
    have e : l.getD i T.none = z := by simp [List.getD_eq_getElem?_getD, hz]
    refine ⟨setAll [x, y] [.t (.int i), .t z], by show Tgt _ (.tup [.int i, l.getD i T.none]) _ _; rw [e]; exact .tup hn rfl, ?_⟩
    exact (q.mono fun g st2 q => by cases g <;> exact q), c⟩⟩))
end
theorem freeze_t {x : T} {st : St} : freeze1 (.t x) st = some (x, st) := rfl
theorem Le.set {st st' : St} (h : Le st st') (x : Str) (v : V) : Le (st.set x v) (st'.set x v) := ⟨h.1, fun y u e => by
  rw [show (st.set x v).r = setR x v st.r from rfl, lookup_setR] at e
  rw [show (st'.set x v).r = setR x v st'.r from rfl, lookup_setR]
  split
  · next q => rw [if_pos q] at e; exact e
  · next q => rw [if_neg q] at e; exact h.2 _ _ e⟩
theorem dg_at {B a k : Nat} (hB : 2 ≤ B) (h : k < (dg B a).length) : (LN (dg B a))[((k : Nat) : Int).toNat]? = some (.int ((a / B ^ k % B : Nat) : Int)) := by
  rw [Int.toNat_natCast, LN_getN h, dg_get hB]
theorem AX_ifM {G : Wd} {n : Nat} {env : Env} {oc : List (Str × Addr)} {st : St} {rest : List Stmt} {Φ : F → St → Prop} (Mid : St → Prop) {t : Expr} {xs ys : List Stmt} {pos : Pos}
    (h1 : AB G n env oc t (fun b st₁ => if b = true then AX G n env oc xs (fun f st' => f = .next ∧ Mid st') st₁ else AX G n env oc ys (fun f st' => f = .next ∧ Mid st') st₁) st)
    (h2 : ∀ st', Mid st' → AX G n env oc rest Φ st') : AX G n env oc (.If t xs ys pos :: rest) Φ st :=
  AX_cons ((AS_if h1).mono fun f st' ⟨e, m⟩ => by subst e; exact h2 _ m)
theorem FN_go1 {G : Wd} {n : Nat} {env : Env} {oc : List (Str × Addr)} {st : St} {rest : List Stmt} {Φ : F → St → Prop} {x : Str} {body : List Stmt} {k b : Nat} {item : Nat → Int} (h : b ≤ 1000000) (h' : FN G n env oc rest Φ x body k item st) : b ≤ 1000000 ∧ FN G n env oc rest Φ x body k item st := ⟨h, h'⟩
theorem FN_go2 {G : Wd} {n : Nat} {env : Env} {oc : List (Str × Addr)} {st : St} {rest : List Stmt} {Φ : F → St → Prop} {x : Str} {body : List Stmt} {k : Nat} {a b : Int} {item : Nat → Int} (h : -1000000 ≤ a ∧ a ≤ 1000000) (hb : -1000000 ≤ b ∧ b ≤ 1000000) (h' : FN G n env oc rest Φ x body k item st) : (-1000000 ≤ a ∧ a ≤ 1000000) ∧ (-1000000 ≤ b ∧ b ≤ 1000000) ∧ FN G n env oc rest Φ x body k item st := ⟨h, hb, h'⟩
theorem ite_AE {G : Wd} {n : Nat} {env : Env} {oc : List (Str × Addr)} {st : St} {p : Prop} [Decidable p] {x y : Expr} {Φ : V → St → Prop} (v : V) (h1 : p → AE G n env oc x (fun y st' => y = v ∧ st' = st) st) (h2 : ¬ p → AE G n env oc y (fun y st' => y = v ∧ st' = st) st) (h : Φ v st) : if decide p = true then AE G n env oc x Φ st else AE G n env oc y Φ st :=
  ite_dec (fun q => (h1 q).mono fun y st' ⟨a, b⟩ => by subst a; subst b; exact h) fun q => (h2 q).mono fun y st' ⟨a, b⟩ => by subst a; subst b; exact h
theorem LN_rep (k : Nat) : List.replicate ((k : Nat) : Int).toNat (T.int 0) = LN (List.replicate k 0) := by simp [LN]
theorem LN_setI (xs : List Nat) (k : Nat) (x : Nat) : (LN xs).set ((k : Nat) : Int).toNat (.int x) = LN (xs.set k x) := LN_set xs k x
theorem dg_at0 {B a : Nat} (hB : 2 ≤ B) (h : 0 < (dg B a).length) : (LN (dg B a))[(0 : Int).toNat]? = some (.int ((a % B : Nat) : Int)) := by
  have := dg_at hB h
  rw [Nat.pow_zero, Nat.div_one] at this
  exact this
theorem CmpT.eqB (a b : Bool) : CmpT .Eq (.bool a) (.bool b) (a == b) := by
  have : (toPy (.bool a)).eqv (toPy (.bool b)) = (a == b) := by cases a <;> cases b <;> simp [toPy, PyData.eqv]
  rw [← this]
  exact .eqT rfl rfl
theorem CmpT.neB (a b : Bool) : CmpT .NotEq (.bool a) (.bool b) (a != b) := by
  have : (toPy (.bool a)).eqv (toPy (.bool b)) = (a == b) := by cases a <;> cases b <;> simp [toPy, PyData.eqv]
  rw [show (a != b) = !(a == b) from rfl, ← this]
  exact .neT rfl rfl
section
variable {wd : World} {base : Heap}
theorem g_NOUGHT (e0 : E0 wd base) : GlobIs (GG wd base) (@"NOUGHT") (.ref 158) := glob_of e0 28 rfl
theorem g_UNIT (e0 : E0 wd base) : GlobIs (GG wd base) (@"UNIT") (.ref 160) := glob_of e0 29 rfl
noncomputable abbrev Z0 : T := .tup [.bool false, .lst []]
noncomputable abbrev Z1 : T := .tup [.bool false, .lst [.int 1]]
theorem plain_NOUGHT (e0 : E0 wd base) : Plain (GG wd base) (.ref 158) Z0 := by
  intro h X k
  have h1 := k _ _ (e0.K.ctAt (j := 1) rfl)
  have h2 := k _ _ (e0.K.ctAt (j := 0) rfl)
  refine .tup (vs := [.bool false, .ref 157]) ⟨_, h1.1, rfl, _, rfl⟩ h1.2 (.cons (.bool _) (.cons (.lst (vs := []) ⟨_, h2.1, rfl, _, rfl⟩ h2.2 .nil) .nil))
theorem plain_UNIT (e0 : E0 wd base) : Plain (GG wd base) (.ref 160) Z1 := by
  intro h X k
  have h1 := k _ _ (e0.K.ctAt (j := 3) rfl)
  have h2 := k _ _ (e0.K.ctAt (j := 2) rfl)
  refine .tup (vs := [.bool false, .ref 159]) ⟨_, h1.1, rfl, _, rfl⟩ h1.2 (.cons (.bool _) (.cons (.lst (vs := [.int 1 _]) ⟨_, h2.1, rfl, _, rfl⟩ h2.2 (.cons (.int _ _) .nil)) .nil))
theorem AE_NOUGHT (e0 : E0 wd base) {n : Nat} {env : Env} {oc : List (Str × Addr)} {st : St} {pos : Pos} {Φ : V → St → Prop} (hk : env.kindOf (@"NOUGHT") = some .globalImplicit) (hg : env.globals = mainGlobals ∧ env.builtins = builtinsNs) (h : Φ (.t Z0) st) : AE (GG wd base) n env oc (.Name (@"NOUGHT") pos) Φ st := AE_glob hk hg (g_NOUGHT e0) (plain_NOUGHT e0) h (by decide)
theorem AE_UNIT (e0 : E0 wd base) {n : Nat} {env : Env} {oc : List (Str × Addr)} {st : St} {pos : Pos} {Φ : V → St → Prop} (hk : env.kindOf (@"UNIT") = some .globalImplicit) (hg : env.globals = mainGlobals ∧ env.builtins = builtinsNs) (h : Φ (.t Z1) st) : AE (GG wd base) n env oc (.Name (@"UNIT") pos) Φ st := AE_glob hk hg (g_UNIT e0) (plain_UNIT e0) h (by decide)
end
section
variable {G : Wd} {n : Nat} {env : Env} {oc : List (Str × Addr)} {st : St} {elt : Expr} {scope : Scope} {cl : List (Str × Addr)} {Φ : T → St → Prop}
/-- a block's turns over numbers -/
noncomputable def CN (G : Wd) (n : Nat) (env : Env) (elt : Expr) (scope : Scope) (cl : List (Str × Addr)) (k : Nat) (f : Nat → St → St) (Φ : T → St → Prop) (st₁ : St) : Prop :=
  ∃ (rin : List (Str × V)) (J : Nat → St → Prop) (outs : Nat → T), VisAll env scope cl st₁.r rin ∧ J 0 ⟨rin, st₁.H⟩ ∧ k ≤ 1000000 ∧
    (∀ i st', i < k → J i st' → ∀ C, AE G n (cE scope cl env C) (cO scope C) elt (fun v st'' => ∃ st₃, freeze1 v st'' = some (outs i, st₃) ∧ J (i + 1) st₃) (f i st')) ∧
    ∀ st', J k st' → Φ (.lst ((List.range k).map outs)) ⟨st₁.r, st'.H⟩
/-- a block's turns over a list -/
noncomputable def CL (G : Wd) (n : Nat) (env : Env) (elt : Expr) (scope : Scope) (cl : List (Str × Addr)) (l : List T) (f : Nat → T → St → St) (Φ : T → St → Prop) (st₁ : St) : Prop :=
  ∃ (rin : List (Str × V)) (J : Nat → St → Prop) (outs : Nat → T), VisAll env scope cl st₁.r rin ∧ J 0 ⟨rin, st₁.H⟩ ∧ l.length ≤ 1000000 ∧
    (∀ i st', i < l.length → J i st' → ∃ z, l[i]? = some z ∧ ∀ C, AE G n (cE scope cl env C) (cO scope C) elt (fun v st'' => ∃ st₃, freeze1 v st'' = some (outs i, st₃) ∧ J (i + 1) st₃) (f i z st')) ∧
    ∀ st', J l.length st' → Φ (.lst ((List.range l.length).map outs)) ⟨st₁.r, st'.H⟩
theorem ASC_N {x : Str} {p : Pos} {fe e : Expr} {pos : Pos}
    (heq : eval (.Call fe [e] [] pos) env = do
          let f ← eval fe env
          callWith pos f [] (backTo pos (starEach [e] env)) (backToKw pos (keywordEach [] env)))
    (hst : starEach [e] env = (false, eval e env) :: starEach [] env)
    (h : AE G n env oc fe (fun fv st₁ => fv = .t (.con (.type "range")) ∧ AL G n env oc pos [e] (fun vs st₂ => ∃ b : Nat, vs = [.t (.int b)] ∧ b ≤ 1000000 ∧ CN G n env elt scope cl b (fun i st => st.set x (.t (.int i))) Φ st₂) st₁) st) : ASrc G n env oc (.Name x p) (.Call fe [e] [] pos) (CompOk G n env elt (.Name x p) scope cl [x] Φ) st :=
  ASrc_range1 heq hst (h.mono fun v st₁ ⟨q, r⟩ => ⟨q, r.mono fun vs st₂ ⟨b, q, r, rin, J, outs, h1, h2, h3, h4, h5⟩ => ⟨b, q, r, rin, J, outs, h1, h2, h3, fun i st' hi hj => ⟨_, .name, h4 i st' hi hj⟩, h5⟩⟩)
theorem ASC_L {x : Str} {p : Pos} {e : Expr}
    (h : AE G n env oc e (fun v st₁ => ∃ l, v = .t (.lst l) ∧ CL G n env elt scope cl l (fun _ z st => st.set x (.t z)) Φ st₁) st) : ASrc G n env oc (.Name x p) e (CompOk G n env elt (.Name x p) scope cl [x] Φ) st :=
  ASrc_list (h.mono fun v st₁ ⟨l, q, rin, J, outs, h1, h2, h3, h4, h5⟩ => ⟨l, fun i => l.getD i .none, q, fun i hi => by simp [hi], rin, J, outs, h1, h2, h3, fun i st' hi hj => by
    obtain ⟨z, hz, q⟩ := h4 i st' hi hj
    have e : l.getD i T.none = z := by simp [List.getD_eq_getElem?_getD, hz]
    exact ⟨fun st => st.set x (.t z), by show Tgt _ (l.getD i T.none) _ _; rw [e]; exact .name, q⟩, h5⟩)
theorem ASC_E {ts : List Expr} {tk : Nat} {tp : Pos} {x y : Str} {fe e : Expr} {pos : Pos} (hn : NamesAre ts [x, y])
    (heq : eval (.Call fe [e] [] pos) env = do
          let f ← eval fe env
          callWith pos f [] (backTo pos (starEach [e] env)) (backToKw pos (keywordEach [] env)))
    (hst : starEach [e] env = (false, eval e env) :: starEach [] env)
    (h : AE G n env oc fe (fun fv st₁ => fv = .t (.con (.type "enumerate")) ∧ AL G n env oc pos [e] (fun vs st₂ => ∃ l, vs = [.t (.lst l)] ∧ CL G n env elt scope cl l (fun i z st => (st.set x (.t (.int i))).set y (.t z)) Φ st₂) st₁) st) : ASrc G n env oc (.Tuple ts tk tp) (.Call fe [e] [] pos) (CompOk G n env elt (.Tuple ts tk tp) scope cl [x, y] Φ) st :=
  ASrc_enum heq hst (h.mono fun v st₁ ⟨q, r⟩ => ⟨q, r.mono fun vs st₂ ⟨l, q, rin, J, outs, h1, h2, h3, h4, h5⟩ => ⟨l, fun i => .tup [.int i, l.getD i .none], q, fun i z hz => by simp [List.getD_eq_getElem?_getD, hz], rin, J, outs, h1, h2, h3, fun i st' hi hj => by
    obtain ⟨z, hz, q⟩ := h4 i st' hi hj
    have e : l.getD i T.none = z := by simp [List.getD_eq_getElem?_getD, hz]
    exact ⟨setAll [x, y] [.t (.int i), .t z], by show Tgt _ (.tup [.int i, l.getD i T.none]) _ _; rw [e]; exact .tup hn rfl, q⟩, h5⟩⟩)
/-- a block that leaves nothing behind -/
theorem CN.pure {k : Nat} {f : Nat → St → St} {r : List (Str × V)} {H : List (Option (List T))} (rin : List (Str × V)) (outs : Nat → T) (hv : VisAll env scope cl r rin) (hk : k ≤ 1000000)
    (h : ∀ i C, i < k → AE G n (cE scope cl env C) (cO scope C) elt (fun v st'' => v = .t (outs i) ∧ Le ⟨rin, H⟩ st'') (f i ⟨rin, H⟩))
    (hf : ∀ i st st', Le st st' → Le (f i st) (f i st')) (hp : Φ (.lst ((List.range k).map outs)) ⟨r, H⟩) : CN G n env elt scope cl k f Φ ⟨r, H⟩ :=
  ⟨rin, fun _ st' => Le ⟨rin, H⟩ st', outs, hv, ⟨rfl, fun _ _ h => h⟩, hk, fun i st' hi hj C => ((h i C hi).weak (hf i _ _ hj)).mono fun v st'' ⟨a, b⟩ => by subst a; exact ⟨_, rfl, b⟩, fun st' hj => by rw [← hj.1]; exact hp⟩
theorem CL.pure {l : List T} {f : Nat → T → St → St} {r : List (Str × V)} {H : List (Option (List T))} (rin : List (Str × V)) (outs : Nat → T) (hv : VisAll env scope cl r rin) (hk : l.length ≤ 1000000)
    (h : ∀ i C, i < l.length → ∃ z, l[i]? = some z ∧ AE G n (cE scope cl env C) (cO scope C) elt (fun v st'' => v = .t (outs i) ∧ Le ⟨rin, H⟩ st'') (f i z ⟨rin, H⟩))
    (hf : ∀ i z st st', Le st st' → Le (f i z st) (f i z st')) (hp : Φ (.lst ((List.range l.length).map outs)) ⟨r, H⟩) : CL G n env elt scope cl l f Φ ⟨r, H⟩ :=
  ⟨rin, fun _ st' => Le ⟨rin, H⟩ st', outs, hv, ⟨rfl, fun _ _ h => h⟩, hk, fun i st' hi hj => by
    obtain ⟨z, hz, _⟩ := h i 0 hi
    refine ⟨z, hz, fun C => ?_⟩
    obtain ⟨z', hz', q⟩ := h i C hi
    rw [hz] at hz'
    cases hz'
    exact (q.weak (hf i _ _ _ hj)).mono fun v st'' ⟨a, b⟩ => by subst a; exact ⟨_, rfl, b⟩, fun st' hj => by rw [← hj.1]; exact hp⟩
theorem CN_go {k : Nat} {f : Nat → St → St} (h : k ≤ 1000000) (h' : CN G n env elt scope cl k f Φ st) : k ≤ 1000000 ∧ CN G n env elt scope cl k f Φ st := ⟨h, h'⟩
end
/-! tables -/
theorem rg_get {α : Type} {f : Nat → α} {k i : Nat} (h : i < k) : ((List.range k).map f)[i]? = some (f i) := by simp [h]
theorem rg_getI {α : Type} {f : Nat → α} {k i : Nat} (h : i < k) : ((List.range k).map f)[((i : Nat) : Int).toNat]? = some (f i) := rg_get h
theorem rg_get0 {α : Type} {f : Nat → α} {k : Nat} (h : 0 < k) : ((List.range k).map f)[(0 : Int).toNat]? = some (f 0) := rg_get h
theorem rg_len {α : Type} (f : Nat → α) (k : Nat) : ((List.range k).map f).length = k := by simp
theorem BCall_lenR {G : Wd} {n : Nat} {env : Env} {oc : List (Str × Addr)} {st : St} {f : Nat → T} {k : Nat} {Φ : V → St → Prop} (hn : k ≤ 1000000) (hq : Φ (.t (.int k)) st) : BCall G n env oc (.builtin "len") [.t (.lst ((List.range k).map f))] Φ st :=
  BCall_len rfl (by rw [rg_len]; exact hn) (by rw [rg_len]; exact hq)

set_option compiler.extract_closed false
/-! the steps of a walk -/
local macro_rules | `(tactic| walk_at "m.fn") => `(tactic| first
  | with_reducible exact .bi
  | with_reducible exact .ty
  | with_reducible exact callable_in (by assumption) (by decide))
local macro_rules | `(tactic| walk_at "m.g") => `(tactic| first
  | with_reducible exact g_normal (by assumption)
  | with_reducible exact g_nat_of (by assumption)
  | with_reducible exact g_compare (by assumption)
  | with_reducible exact g_add (by assumption)
  | with_reducible exact g_sub (by assumption)
  | with_reducible exact g_divrem_limb (by assumption)
  | with_reducible exact g_signed (by assumption)
  | with_reducible exact g_s_of (by assumption)
  | with_reducible exact g_s_neg (by assumption)
  | with_reducible exact g_s_add (by assumption)
  | with_reducible exact g_s_mul (by assumption)
  | with_reducible exact g_tdiv (by assumption)
  | with_reducible exact g_m_unit (by assumption)
  | with_reducible exact g_m_turned (by assumption)
  | with_reducible exact g_inner (by assumption)
  | with_reducible exact g_m_mul (by assumption)
  | with_reducible exact g_exact (by assumption)
  | with_reducible exact g_characteristic (by assumption)
  | with_reducible exact g_m_power (by assumption)
  | with_reducible exact g_mul_school (by assumption)
  | with_reducible exact g_divrem_small (by assumption)
  | with_reducible exact g_divrem_school (by assumption)
  | with_reducible exact g_law_woven (by assumption)
  | with_reducible exact g_law_limbs (by assumption)
  | with_reducible exact g_law_signed (by assumption)
  | with_reducible exact g_law_walked (by assumption)
  | with_reducible exact g_law_fits (by assumption)
  | with_reducible exact g_len (by assumption)
  | with_reducible exact g_abs (by assumption)
  | with_reducible exact g_min (by assumption)
  | with_reducible exact g_sum (by assumption)
  | with_reducible exact g_range (by assumption)
  | with_reducible exact g_enumerate (by assumption)
  | with_reducible exact g_int (by assumption))
local macro_rules | `(tactic| walk_at "m.b") => `(tactic| first
  | exact .inl rfl
  | exact .inr ⟨rfl, rfl, rfl⟩)
local macro_rules | `(tactic| walk_at "m.bs") => `(tactic| first
  | exact .nil
  | (refine .cons ?_ ?_; walk_at "m.b"; walk_at "m.bs"))
local macro_rules | `(tactic| walk_at "m.side") => `(tactic| first
  | omega
  | with_reducible assumption
  | decide)
local macro_rules | `(tactic| walk_at "m.vn") => `(tactic| exact ⟨(by first | exact .inl rfl | exact .inr rfl), (by first | exact .inl rfl | exact .inr rfl), rfl, fun _ => rfl⟩)
local macro_rules | `(tactic| walk_at "m.vis") => `(tactic| first
  | exact .nil
  | (refine .cons rfl ?_ ?_; walk_at "m.vn"; walk_at "m.vis"))
local macro_rules | `(tactic| walk_at "m.co") => `(tactic| first
  | exact .nil
  | (refine .cons rfl ?_; walk_at "m.co"))
local macro_rules | `(tactic| walk_at "m.cb") => `(tactic| (intro C; walk_at "m.bs"))
local macro_rules | `(tactic| walk_at "m.c") => `(tactic| first
  | ((with_reducible refine' AE_comp ?c1 ?c2 ?c3 ?c4 ?c5 ?c6 (ASC_N ?c7 ?c8 ?_)); (case c1 => exact fun _ => rfl); (case c2 => exact rfl); (case c3 => exact rfl); (case c4 => decide); (case c5 => walk_at "m.co"); (case c6 => walk_at "m.cb"); (case c7 => exact rfl); (case c8 => exact rfl))
  | ((with_reducible refine' AE_comp ?c1 ?c2 ?c3 ?c4 ?c5 ?c6 (ASC_E ?c9 ?c7 ?c8 ?_)); (case c9 => (repeat constructor)); (case c1 => exact fun _ => rfl); (case c2 => exact rfl); (case c3 => exact rfl); (case c4 => decide); (case c5 => walk_at "m.co"); (case c6 => walk_at "m.cb"); (case c7 => exact rfl); (case c8 => exact rfl))
  | ((with_reducible refine' AE_comp ?c1 ?c2 ?c3 ?c4 ?c5 ?c6 (ASC_L ?_)); (case c1 => exact fun _ => rfl); (case c2 => exact rfl); (case c3 => exact rfl); (case c4 => decide); (case c5 => walk_at "m.co"); (case c6 => walk_at "m.cb"))
  | ((with_reducible refine' AX_assign_comp ?d1 ?d2 ?c1 ?c2 ?c3 ?c4 ?c5 ?c6 (ASC_N ?c7 ?c8 ?_)); (case d1 => exact rfl); (case d2 => walk_at "m.b"); (case c1 => exact fun _ => rfl); (case c2 => exact rfl); (case c3 => exact rfl); (case c4 => decide); (case c5 => walk_at "m.co"); (case c6 => walk_at "m.cb"); (case c7 => exact rfl); (case c8 => exact rfl))
  | ((with_reducible refine' AX_assign_comp ?d1 ?d2 ?c1 ?c2 ?c3 ?c4 ?c5 ?c6 (ASC_E ?c9 ?c7 ?c8 ?_)); (case c9 => (repeat constructor)); (case d1 => exact rfl); (case d2 => walk_at "m.b"); (case c1 => exact fun _ => rfl); (case c2 => exact rfl); (case c3 => exact rfl); (case c4 => decide); (case c5 => walk_at "m.co"); (case c6 => walk_at "m.cb"); (case c7 => exact rfl); (case c8 => exact rfl))
  | ((with_reducible refine' AX_assign_comp ?d1 ?d2 ?c1 ?c2 ?c3 ?c4 ?c5 ?c6 (ASC_L ?_)); (case d1 => exact rfl); (case d2 => walk_at "m.b"); (case c1 => exact fun _ => rfl); (case c2 => exact rfl); (case c3 => exact rfl); (case c4 => decide); (case c5 => walk_at "m.co"); (case c6 => walk_at "m.cb")))
local macro_rules | `(tactic| walk_at "m.e") => `(tactic| first
  | with_reducible refine AE_int ?_
  | with_reducible refine AE_bool ?_
  | ((with_reducible refine' AE_name ?h1 ?_ (hd := ?h2)); (case h1 => exact rfl); (case h2 => exact rfl))
  | ((with_reducible refine' AE_glob ?h1 ?h2 ?h3 ?h4 ?_ (hd := ?h5)); (case h1 => exact rfl); (case h2 => exact ⟨rfl, rfl⟩); (case h3 => walk_at "m.g"); (case h4 => exact Plain.con _); (case h5 => exact rfl))
  | with_reducible refine AE_lmul (a := .List _ _) ?_
  | with_reducible refine AE_bin ?_
  | with_reducible refine AE_neg ?_
  | with_reducible refine AE_not ?_
  | with_reducible refine AE_and ?_
  | with_reducible refine AE_ifexp ?_
  | ((with_reducible refine' AE_cmp ?h1 ?_); (case h1 => exact rfl))
  | with_reducible refine AE_tuple ?_
  | with_reducible refine AE_list ?_
  | with_reducible refine AE_slice_upto ?_
  | with_reducible refine AE_slice_all ?_
  | ((with_reducible refine' AE_slice_rev ?h1 ?_); (case h1 => exact fun _ _ => rfl))
  | ((with_reducible refine' AE_index ?h1 ?_); (case h1 => exact fun _ _ => rfl))
  | ((with_reducible refine' AE_bits ?h1 ?_); (case h1 => exact rfl))
  | ((with_reducible refine' AE_call ?h1 ?h2 ?h3 ?_); (case h1 => exact rfl); (case h2 => exact rfl); (case h3 => exact rfl))
  | with_reducible refine AL_nil ?_
  | ((with_reducible refine' AL_cons ?h1 ?_); (case h1 => exact rfl))
  | ((with_reducible refine' AB_cmp ?h1 ?_); (case h1 => exact rfl))
  | with_reducible refine AB_and ?_
  | with_reducible refine AB_or ?_
  | with_reducible refine AB_not ?_
  | ((with_reducible refine' AB_value ?_ ?h1); (case h1 => exact rfl))
  | with_reducible refine BCall_lenN (by omega) ?_
  | with_reducible refine BCall_lenR (by omega) ?_
  | ((with_reducible refine' AE_NOUGHT (by assumption) ?h1 ?h2 ?_); (case h1 => exact rfl); (case h2 => exact ⟨rfl, rfl⟩))
  | ((with_reducible refine' AE_UNIT (by assumption) ?h1 ?h2 ?_); (case h1 => exact rfl); (case h2 => exact ⟨rfl, rfl⟩))
  | walk_at "m.c")
local macro_rules | `(tactic| walk_at "m.x") => `(tactic| first
  | ((with_reducible refine' AX_assign ?h1 ?h2 ?_); (case h1 => walk_at "m.b"); (case h2 => exact rfl))
  | ((with_reducible refine' AX_aug ?h1 ?h2 ?h3 ?_); (case h1 => walk_at "m.b"); (case h2 => decide); (case h3 => exact rfl))
  | ((with_reducible refine' AX_setitem ?h1 ?_); (case h1 => exact rfl))
  | ((with_reducible refine' AX_append ?h1 ?h2 ?h3 ?h4 ?h5 ?h6 ?h7 ?_); (case h1 => exact rfl); (case h2 => exact rfl); (case h3 => exact rfl); (case h4 => exact rfl); (case h5 => exact rfl); (case h6 => exact rfl); (case h7 => exact ⟨_, rfl⟩))
  | with_reducible refine AX_ret ?_
  | ((with_reducible refine' AX_for1 ?h1 ?h2 ?h3 ?h4 ?_); (case h1 => exact fun _ => rfl); (case h2 => walk_at "m.b"); (case h3 => exact rfl); (case h4 => exact rfl))
  | ((with_reducible refine' AX_for2 ?h1 ?h2 ?h3 ?h4 ?h5 ?_); (case h1 => exact fun _ => rfl); (case h2 => walk_at "m.b"); (case h3 => exact rfl); (case h4 => exact rfl); (case h5 => exact rfl))
  | ((with_reducible refine' AX_for3 ?h1 ?h2 ?h3 ?h4 ?h5 ?_); (case h1 => exact fun _ => rfl); (case h2 => walk_at "m.b"); (case h3 => exact rfl); (case h4 => exact rfl); (case h5 => exact rfl))
  | ((with_reducible refine' AX_forE ?h0 ?h1 ?h2 ?h22 ?h3 ?h4 ?_); (case h0 => (repeat constructor)); (case h1 => exact fun _ => rfl); (case h2 => walk_at "m.b"); (case h22 => walk_at "m.b"); (case h3 => exact rfl); (case h4 => exact rfl))
  | ((with_reducible refine' AX_forL ?h1 ?h2 ?_); (case h1 => exact fun _ => rfl); (case h2 => walk_at "m.b"))
  | with_reducible refine AX_if ?_
  | ((with_reducible refine' AX_tup_sw2 ?h0 ?h1 ?h2 ?h3 ?_); (case h0 => (repeat constructor)); (case h1 => exact rfl); (case h2 => walk_at "m.bs"); (case h3 => exact rfl))
  | ((with_reducible refine' AX_tup_disp ?h1 ?h2 ?h3 ?h4 ?_); (case h1 => (repeat constructor)); (case h2 => walk_at "m.bs"); (case h3 => exact rfl); (case h4 => exact rfl))
  | ((with_reducible refine' AX_tup_val ?h1 ?h2 ?h3 ?h4 ?_); (case h1 => (repeat constructor)); (case h2 => walk_at "m.bs"); (case h3 => exact rfl); (case h4 => exact rfl))
  | with_reducible refine AX_nil ?_)
local macro_rules | `(tactic| walk_at "m.q") => `(tactic| first
  | refine ⟨_, _, _, rfl, rfl, .add, ?_⟩
  | refine ⟨_, _, _, rfl, rfl, .sub, ?_⟩
  | refine ⟨_, _, _, rfl, rfl, .band, ?_⟩
  | refine ⟨_, _, _, rfl, rfl, .bor, ?_⟩
  | refine ⟨_, _, _, rfl, rfl, .mul (by walk_at "m.side"), ?_⟩
  | refine ⟨_, _, _, rfl, rfl, .mod (by walk_at "m.side"), ?_⟩
  | refine ⟨_, _, _, rfl, rfl, .shl (by walk_at "m.side") (by walk_at "m.side") (by walk_at "m.side"), ?_⟩
  | refine ⟨_, _, _, rfl, rfl, .shr (by walk_at "m.side"), ?_⟩
  | refine ⟨_, _, _, rfl, rfl, .fdiv (by walk_at "m.side") (by walk_at "m.side"), ?_⟩
  | refine ⟨_, _, _, rfl, rfl, .pow (by walk_at "m.side") (by walk_at "m.side") (by walk_at "m.side"), ?_⟩
  | refine ⟨_, _, rfl, .add, ?_⟩
  | refine ⟨_, _, rfl, .sub, ?_⟩
  | refine ⟨_, _, rfl, .mod (by walk_at "m.side"), ?_⟩
  | refine ⟨_, _, rfl, .shr (by walk_at "m.side"), ?_⟩
  | refine ⟨_, _, _, rfl, rfl, .lt, ?_⟩
  | refine ⟨_, _, _, rfl, rfl, .gt, ?_⟩
  | refine ⟨_, _, _, rfl, rfl, .eq, ?_⟩
  | refine ⟨_, _, _, rfl, rfl, .ne, ?_⟩
  | refine ⟨_, _, _, rfl, rfl, .le, ?_⟩
  | refine ⟨_, _, _, rfl, rfl, CmpT.eqB _ _, ?_⟩
  | refine ⟨_, _, _, rfl, rfl, CmpT.neB _ _, ?_⟩
  | refine ⟨_, _, rfl, Nat.le_of_ble_eq_true rfl, ?_⟩
  | refine ⟨rfl, Nat.le_of_ble_eq_true rfl, ?_⟩
  | with_reducible refine ⟨rfl, ?_⟩
  | (refine' ⟨_, rfl, ?hf, ?_⟩; (case hf => walk_at "m.fn"))
  | with_reducible refine ⟨_, rfl, ?_⟩
  | with_reducible refine ⟨_, _, rfl, ?_⟩
  | refine ⟨_, _, freeze_t, ?_⟩
  | refine ⟨_, _, _, rfl, rfl, by omega, by omega, dg_at (by with_reducible assumption) (by omega), ?_⟩
  | refine ⟨_, _, _, rfl, rfl, by omega, by omega, LN_getN (by omega), ?_⟩
  | refine ⟨_, _, _, rfl, rfl, rfl, by omega, by omega, ?_⟩
  | refine ⟨_, _, _, _, rfl, rfl, rfl, rfl, by omega, by rw [LN_length]; omega, by omega, ?_⟩
  | refine ⟨_, _, _, rfl, rfl, by decide, by decide, dg_at0 (by with_reducible assumption) (by omega), ?_⟩
  | with_reducible refine CN_go (by omega) ?_
  | refine ⟨_, _, _, rfl, rfl, by omega, by omega, rg_getI (by omega), ?_⟩
  | refine ⟨_, _, _, rfl, rfl, by decide, by decide, rg_get0 (by omega), ?_⟩
  | refine ⟨_, _, _, rfl, rfl, by decide, by decide, rfl, ?_⟩
  | with_reducible refine FN_go1 (by omega) ?_
  | with_reducible refine FN_go2 (by omega) (by omega) ?_
  | with_reducible refine FQ_next ?_
  | with_reducible refine FQ_ret ?_
  | ((fail_if_success (with_reducible refine AT_same ?_)); refine thn_next ?_)
  | ((fail_if_success (with_reducible refine AT_same ?_)); refine thn_ret ?_))
local macro_rules | `(tactic| walk_at "m") => `(tactic| first
  | walk_at "m.e"
  | walk_at "m.x"
  | walk_at "m.q")
local macro_rules | `(tactic| walk_at "m.le") => `(tactic| (refine SubR.le ?_ ?_; (repeat' first | exact SubR.nil | refine SubR.cons rfl ?_ ?_); (all_goals first | rfl | (simp only [V.t.injEq, T.int.injEq]; omega) | skip)))
section
variable {w : World} {base : Heap}
set_option maxHeartbeats 400000
theorem cs_normal (e0 : E0 w base) (xs : List Nat) (hl : xs.length ≤ 1000) : CS (GG w base) 2 58 [.lst (LN xs)] (.lst (LN (trim xs))) := by
  refine CS_fn e0 0 rfl rfl (ps := [Str.ofString "a"]) (fun s => len1 rfl fun v_a => BindsTo.of_eq rfl) (by decide) rfl ?_ (by decide) rfl rfl rfl ?_
  · decide
  intro L
  dsimp only [fE, fO, newEnv, mkFd]
  repeat walk_at "m"
  refine AX_while (fun m st' => m ≤ xs.length ∧ (∀ j, m ≤ j → j < xs.length → xs.getD j 0 = 0) ∧ Le ⟨[(Str.ofString "a", .t (.lst (LN xs))), (Str.ofString "end", .t (.int m))], []⟩ st') xs.length ⟨Nat.le_refl _, fun j h1 h2 => by omega, by walk_at "m.le"⟩ ?_
  rintro m st' ⟨hm, hz, hle⟩
  refine AT.weak ?_ hle
  repeat walk_at "m"
  refine ite_dec (fun h0 => ?_) (fun h0 => ?_)
  · repeat walk_at "m"
    have e : ((m : Int) - 1).toNat = m - 1 := by omega
    rw [e]
    refine ite_beq (fun h1 => ?_) (fun h1 => ?_)
    · repeat walk_at "m"
      refine ⟨m - 1, by omega, by omega, fun j hj hj' => ?_, by walk_at "m.le"⟩
      by_cases q : j = m - 1
      · rw [q]; omega
      · exact hz j (by omega) hj'
    · repeat walk_at "m"
      refine ⟨_, _, rfl, (fun _ h => by cases h), by rw [LN_length]; omega, rfl, by omega, ?_⟩
      repeat walk_at "m"
      rw [show ((m : Int)).toNat = m from rfl, LN_take, trim_take hm hz (.inr (fun q => h1 (by rw [q]; rfl)))]
  · repeat walk_at "m"
    refine ⟨_, _, rfl, (fun _ h => by cases h), by rw [LN_length]; omega, rfl, by omega, ?_⟩
    repeat walk_at "m"
    rw [show ((m : Int)).toNat = m from rfl, LN_take, trim_take hm hz (.inl (by omega))]
end

/-! P3 -/

noncomputable abbrev D (w a : Nat) : T := .lst (LN (dg (2 ^ w) a))
section
variable {wd : World} {base : Heap}
theorem two_pow_le {w : Nat} (h : 1 ≤ w) : 2 ≤ 2 ^ w := Nat.le_trans (by decide) (Nat.pow_le_pow_right (by decide) h)
set_option maxHeartbeats 400000
theorem cs_nat_of (e0 : E0 wd base) (w n : Nat) (hw : 3 ≤ w ∧ w ≤ 8) (hn : n < 2 ^ 200) : CS (GG wd base) 2 65 [.int n, .int w] (D w n) := by
  refine CS_fn e0 1 rfl rfl (ps := [Str.ofString "number", Str.ofString "w"]) (fun s => len2 rfl fun v_number v_w => BindsTo.of_eq rfl) (by decide) rfl ?_ (by decide) rfl rfl rfl ?_
  · decide
  intro L
  dsimp only [fE, fO, newEnv, mkFd]
  have hB : 2 ≤ 2 ^ w := two_pow_le (by omega)
  have hL := dg_len_small hB hn
  repeat walk_at "m"
  refine AX_while (fun m st' => ∃ xs, xs ++ dg (2 ^ w) m = dg (2 ^ w) n ∧ Le ⟨[(Str.ofString "number", .t (.int m)), (Str.ofString "w", .t (.int w)), (Str.ofString "found", .m 0), (Str.ofString "mask", .t (.int (1 * 2 ^ (w : Int).toNat - 1)))], [some (LN xs)]⟩ st') n ⟨[], rfl, by walk_at "m.le"⟩ ?_
  rintro m st' ⟨xs, hx, hle⟩
  refine AT.weak ?_ hle
  repeat walk_at "m"
  refine ite_dec (fun h0 => ?_) (fun h0 => ?_)
  · have hm : 0 < m := by omega
    rw [dg_pos hB hm] at hx
    have hlen := congrArg List.length hx
    simp only [List.length_append, List.length_cons] at hlen
    repeat walk_at "m"
    rw [band_mask]
    refine ⟨_, _, _, rfl, rfl, by rw [LN_length]; omega, ?_⟩
    repeat walk_at "m"
    rw [shr_nat]
    refine ⟨m / 2 ^ w, Nat.div_lt_self hm hB, xs ++ [m % 2 ^ w], by rw [List.append_assoc]; exact hx, ?_⟩
    rw [LN_snoc]
    walk_at "m.le"
  · repeat walk_at "m"
    have hm : m = 0 := by omega
    rw [hm, dg_zero, List.append_nil] at hx
    rw [hx]
end

/-! P4 -/

section
variable {wd : World} {base : Heap}
set_option maxHeartbeats 400000
noncomputable def cmpI (a b : Nat) : Int := if a < b then -1 else if b < a then 1 else 0
theorem dg_len_cmp {B a b : Nat} (hB : 2 ≤ B) (h : (dg B a).length < (dg B b).length) : a < b := by
  rcases Nat.lt_or_ge a b with q | q
  · exact q
  · exact absurd (dg_mono hB q) (by omega)
theorem top_lt {B a b j : Nat} (he : a / B ^ (j + 1) = b / B ^ (j + 1)) (h : a / B ^ j % B < b / B ^ j % B) : a < b := by
  rcases Nat.lt_or_ge a b with q | q
  · exact q
  · have h1 := Nat.div_le_div_right (c := B ^ j) q
    rw [div_step a j, div_step b j, he] at h1
    omega
theorem cs_compare (e0 : E0 wd base) (w a b : Nat) (hw : 3 ≤ w ∧ w ≤ 8) (ha : a < 2 ^ 200) (hb : b < 2 ^ 200) : CS (GG wd base) 2 72 [D w a, D w b] (.int (cmpI a b)) := by
  refine CS_fn e0 2 rfl rfl (ps := [Str.ofString "a", Str.ofString "b"]) (fun s => len2 rfl fun v_a v_b => BindsTo.of_eq rfl) (by decide) rfl ?_ (by decide) rfl rfl rfl ?_
  · decide
  intro L
  dsimp only [fE, fO, newEnv, mkFd]
  have hB : 2 ≤ 2 ^ w := two_pow_le (by omega)
  have hL := dg_len_small hB ha
  have hL' := dg_len_small hB hb
  repeat walk_at "m"
  refine ite_bne (fun h0 => ?_) (fun h0 => ?_)
  · repeat walk_at "m"
    refine ite_dec (fun h1 => ?_) (fun h1 => ?_)
    · have := dg_len_cmp hB (a := a) (b := b) (by omega)
      repeat walk_at "m"
      rw [cmpI, if_pos this]
    · have := dg_len_cmp hB (a := b) (b := a) (by omega)
      repeat walk_at "m"
      rw [cmpI, if_neg (by omega), if_pos this]
  · repeat walk_at "m"
    have hk : ((((dg (2 ^ w) a).length : Int) - 1) - -1).toNat = (dg (2 ^ w) a).length := by omega
    refine ⟨fun i st' => a / (2 ^ w) ^ ((dg (2 ^ w) a).length - i) = b / (2 ^ w) ^ ((dg (2 ^ w) a).length - i) ∧ Le ⟨[(Str.ofString "a", .t (D w a)), (Str.ofString "b", .t (D w b))], []⟩ st', ⟨?_, by walk_at "m.le"⟩, ?_, ?_⟩
    · have := dg_len_lt hB b
      rw [show (dg (2 ^ w) b).length = (dg (2 ^ w) a).length by omega] at this
      rw [Nat.sub_zero, Nat.div_eq_of_lt (dg_len_lt hB a), Nat.div_eq_of_lt this]
    · rintro i st' hi ⟨he, hle⟩
      rw [hk] at hi
      refine AT.weak ?_ (hle.set _ _)
      obtain ⟨j, hj⟩ : ∃ j, (dg (2 ^ w) a).length - i = j + 1 := ⟨(dg (2 ^ w) a).length - i - 1, by omega⟩
      have hj' : (dg (2 ^ w) a).length - (i + 1) = j := by omega
      have hjj : ((dg (2 ^ w) a).length : Int) - 1 - i = (j : Int) := by omega
      rw [hj] at he
      dsimp only []
      rw [hj', hjj]
      repeat walk_at "m"
      refine ite_bne (fun h1 => ?_) (fun h1 => ?_)
      · repeat walk_at "m"
        refine ite_dec (fun h2 => ?_) (fun h2 => ?_)
        · repeat walk_at "m"
          have := top_lt he (by omega)
          rw [cmpI, if_pos this]
        · repeat walk_at "m"
          have := top_lt he.symm (by omega)
          rw [cmpI, if_neg (by omega), if_pos this]
      · repeat walk_at "m"
        exact ⟨by rw [div_step a j, div_step b j, he]; omega, by walk_at "m.le"⟩
    · rintro st' ⟨he, hle⟩
      refine AT.weak ?_ hle
      rw [hk] at he
      rw [Nat.sub_self, Nat.pow_zero, Nat.div_one, Nat.div_one] at he
      repeat walk_at "m"
      rw [cmpI, if_neg (by omega), if_neg (by omega)]
end

/-! P5 -/

section
variable {wd : World} {base : Heap}
set_option maxHeartbeats 400000
theorem dg_some {B n : Nat} (hB : 2 ≤ B) : n / B ^ (dg B n).length = 0 := Nat.div_eq_of_lt (dg_len_lt hB n)
theorem add_step {B : Nat} (hB : 2 ≤ B) {xs : List Nat} {c a b k s : Nat} (hx : xs ++ dg B (c + a / B ^ k + b / B ^ k) = dg B s) (hq : 0 < a / B ^ k) :
    (xs ++ [(c + a / B ^ k % B + b / B ^ k % B) % B]) ++ dg B ((c + a / B ^ k % B + b / B ^ k % B) / B + a / B ^ (k + 1) + b / B ^ (k + 1)) = dg B s := by
  have hp : 0 < c + a / B ^ k + b / B ^ k := by
    generalize a / B ^ k = p at *
    generalize b / B ^ k = q at *
    omega
  have e : c + a / B ^ k + b / B ^ k = c + a / B ^ k % B + b / B ^ k % B + B * (a / B ^ (k + 1) + b / B ^ (k + 1)) := by
    have h1 := div_step (B := B) a k
    have h2 := div_step (B := B) b k
    rw [Nat.mul_add]
    omega
  rw [dg_pos hB hp, e, Nat.add_mul_mod_self_left, Nat.add_mul_div_left _ _ (show 0 < B by omega)] at hx
  rw [← hx, List.append_assoc, ← Nat.add_assoc]
  rfl
theorem cs_add (e0 : E0 wd base) (w a b : Nat) (hw : 3 ≤ w ∧ w ≤ 8) (ha : a < 2 ^ 200) (hb : b < 2 ^ 200) : CS (GG wd base) 2 79 [D w a, D w b, .int w] (D w (a + b)) := by
  have hB : 2 ≤ 2 ^ w := two_pow_le (by omega)
  have hL := dg_len_small hB ha
  have hL' := dg_len_small hB hb
  refine CS_fn e0 3 rfl rfl (ps := [Str.ofString "a", Str.ofString "b", Str.ofString "w"]) (fun s => len3 rfl fun v_a v_b v_w => BindsTo.of_eq rfl) (by decide) rfl ?_ (by decide) rfl rfl rfl ?_
  · decide
  intro L
  dsimp only [fE, fO, newEnv, mkFd]
  refine AX_ifM (fun st' => ∃ A B', (dg (2 ^ w) B').length ≤ (dg (2 ^ w) A).length ∧ A + B' = a + b ∧ A < 2 ^ 200 ∧ B' < 2 ^ 200 ∧ Le ⟨[(Str.ofString "a", .t (D w A)), (Str.ofString "b", .t (D w B')), (Str.ofString "w", .t (.int w))], []⟩ st') ?_ ?_
  · repeat walk_at "m"
    refine ite_dec (fun h1 => ?_) (fun h1 => ?_)
    · repeat walk_at "m"
      exact ⟨b, a, by omega, by omega, hb, ha, by walk_at "m.le"⟩
    · repeat walk_at "m"
      exact ⟨a, b, by omega, by omega, ha, hb, by walk_at "m.le"⟩
  clear hL hL' ha hb
  rintro st' ⟨A, B', hlen, hs, ha, hb, hle⟩
  have hL := dg_len_small hB ha
  have hL' := dg_len_small hB hb
  rw [← hs]
  have hS : (dg (2 ^ w) (A + B')).length ≤ 201 := dg_len_small hB (by omega)
  refine AT.weak ?_ hle
  clear hle
  repeat walk_at "m"
  refine ⟨fun i st' => ∃ xs c, c ≤ 1 ∧ xs ++ dg (2 ^ w) (c + A / (2 ^ w) ^ i + B' / (2 ^ w) ^ i) = dg (2 ^ w) (A + B') ∧ Le ⟨[(Str.ofString "a", .t (D w A)), (Str.ofString "b", .t (D w B')), (Str.ofString "w", .t (.int w)), (Str.ofString "found", .m 0), (Str.ofString "carry", .t (.int c)), (Str.ofString "mask", .t (.int (1 * 2 ^ (w : Int).toNat - 1)))], [some (LN xs)]⟩ st', ⟨[], 0, by omega, by simp, by walk_at "m.le"⟩, ?_, ?_⟩
  · rintro i st' hi ⟨xs, c, hc, hx, hle⟩
    refine AT.weak ?_ (hle.set _ _)
    have hp : 0 < A / (2 ^ w) ^ i := (dg_len hB A i).mp (by omega)
    have hst := add_step hB hx hp
    have hlen := congrArg List.length hx
    simp only [List.length_append] at hlen
    have hm1 := Nat.mod_lt (A / (2 ^ w) ^ i) (show 0 < 2 ^ w by omega)
    have hm2 := Nat.mod_lt (B' / (2 ^ w) ^ i) (show 0 < 2 ^ w by omega)
    dsimp only []
    repeat walk_at "m"
    have e : (c : Int) + (((A / (2 ^ w) ^ i % 2 ^ w : Nat) : Int) + ((B' / (2 ^ w) ^ i % 2 ^ w : Nat) : Int)) = ((c + A / (2 ^ w) ^ i % 2 ^ w + B' / (2 ^ w) ^ i % 2 ^ w : Nat) : Int) := by omega
    rw [e, band_mask]
    refine ⟨_, _, _, rfl, rfl, by rw [LN_length]; omega, ?_⟩
    repeat walk_at "m"
    rw [shr_nat]
    refine ⟨_, _, ?_, hst, ?_⟩
    · have : c + A / (2 ^ w) ^ i % 2 ^ w + B' / (2 ^ w) ^ i % 2 ^ w < 2 ^ w * 2 := by omega
      have := Nat.div_lt_of_lt_mul this
      omega
    · rw [LN_snoc]
      walk_at "m.le"
  · rintro st' ⟨xs, c, hc, hx, hle⟩
    refine AT.weak ?_ hle
    clear hle
    repeat walk_at "m"
    have hb0 : ∀ i, (dg (2 ^ w) B').length ≤ i → B' / (2 ^ w) ^ i = 0 := fun i hi => Nat.div_eq_of_lt (Nat.lt_of_lt_of_le (dg_len_lt hB B') (Nat.pow_le_pow_right (by omega) hi))
    refine ⟨fun i st' => ∃ xs c, c ≤ 1 ∧ xs ++ dg (2 ^ w) (c + A / (2 ^ w) ^ ((dg (2 ^ w) B').length + i) + B' / (2 ^ w) ^ ((dg (2 ^ w) B').length + i)) = dg (2 ^ w) (A + B') ∧ Le ⟨[(Str.ofString "a", .t (D w A)), (Str.ofString "b", .t (D w B')), (Str.ofString "w", .t (.int w)), (Str.ofString "found", .m 0), (Str.ofString "carry", .t (.int c)), (Str.ofString "mask", .t (.int (1 * 2 ^ (w : Int).toNat - 1)))], [some (LN xs)]⟩ st', ⟨xs, c, hc, hx, by walk_at "m.le"⟩, ?_, ?_⟩
    · clear hx hc
      rintro i st' hi ⟨xs, c, hc, hx, hle⟩
      refine AT.weak ?_ (hle.set _ _)
      have hp : 0 < A / (2 ^ w) ^ ((dg (2 ^ w) B').length + i) := (dg_len hB A _).mp (by omega)
      have hst := add_step hB hx hp
      have hlen := congrArg List.length hx
      simp only [List.length_append] at hlen
      have hm1 := Nat.mod_lt (A / (2 ^ w) ^ ((dg (2 ^ w) B').length + i)) (show 0 < 2 ^ w by omega)
      rw [hb0 _ (Nat.le_add_right _ _), Nat.zero_mod, Nat.add_zero] at hst
      have e0 : ((dg (2 ^ w) B').length : Int) + i = (((dg (2 ^ w) B').length + i : Nat) : Int) := by omega
      dsimp only []
      rw [e0]
      repeat walk_at "m"
      have e : (c : Int) + ((A / (2 ^ w) ^ ((dg (2 ^ w) B').length + i) % 2 ^ w : Nat) : Int) = ((c + A / (2 ^ w) ^ ((dg (2 ^ w) B').length + i) % 2 ^ w : Nat) : Int) := by omega
      rw [e, band_mask]
      refine ⟨_, _, _, rfl, rfl, by rw [LN_length]; omega, ?_⟩
      repeat walk_at "m"
      rw [shr_nat]
      refine ⟨_, _, ?_, hst, ?_⟩
      · have : c + A / (2 ^ w) ^ ((dg (2 ^ w) B').length + i) % 2 ^ w < 2 ^ w * 2 := by omega
        have := Nat.div_lt_of_lt_mul this
        omega
      · rw [LN_snoc]
        walk_at "m.le"
    · clear hx hc
      rintro st' ⟨xs, c, hc, hx, hle⟩
      refine AT.weak ?_ hle
      have e0 : (dg (2 ^ w) B').length + (((dg (2 ^ w) A).length : Int) - ((dg (2 ^ w) B').length : Int)).toNat = (dg (2 ^ w) A).length := by omega
      rw [e0, dg_some hB, hb0 _ hlen] at hx
      repeat walk_at "m"
      refine ite_dec (fun h1 => ?_) (fun h1 => ?_)
      · have hc1 : c = 1 := by omega
        subst hc1
        have hlen := congrArg List.length hx
        simp only [List.length_append] at hlen
        rw [dg_pos hB (by omega), Nat.mod_eq_of_lt (by omega), Nat.div_eq_of_lt (by omega), dg_zero] at hx
        repeat walk_at "m"
        refine ⟨_, _, _, rfl, rfl, by rw [LN_length]; omega, ?_⟩
        repeat walk_at "m"
        exact congrArg (fun l => F.ret (.lst l)) ((LN_snoc xs 1).trans (congrArg LN hx))
      · have hc0 : c = 0 := by omega
        subst hc0
        rw [dg_zero, List.append_nil] at hx
        repeat walk_at "m"
        rw [hx]
end

/-! P6 -/

section
variable {wd : World} {base : Heap}
set_option maxHeartbeats 400000
theorem cmpI_ge {a b : Nat} (h : b ≤ a) : 0 ≤ cmpI a b := by unfold cmpI; split; omega; split <;> omega
theorem sub_step {P v bm am br x ai bi br' B : Nat} (hv : v + bm = am + br*P) (hx : x + br + bi = ai + br' * B) : (v + P * (x + B*0)) + (bm + bi*P) = (am + ai*P) + br' * (P*B) := by grind
theorem cs_sub (e0 : E0 wd base) (w a b : Nat) (hw : 3 ≤ w ∧ w ≤ 8) (ha : a < 2 ^ 200) (hb : b ≤ a) : CS (GG wd base) 4 86 [D w a, D w b, .int w] (D w (a - b)) := by
  have hB : 2 ≤ 2 ^ w := two_pow_le (by omega)
  have hL := dg_len_small hB ha
  have hL' := dg_len_small hB (Nat.lt_of_le_of_lt hb ha)
  refine CS_fn e0 4 rfl rfl (ps := [Str.ofString "a", Str.ofString "b", Str.ofString "w"]) (fun s => len3 rfl fun v_a v_b v_w => BindsTo.of_eq rfl) (by decide) rfl ?_ (by decide) rfl rfl rfl ?_
  · decide
  intro L
  dsimp only [fE, fO, newEnv, mkFd]
  repeat walk_at "m"
  refine BCall_cs ⟨_, _, _, rfl, cs_compare e0 w a b hw ha (by omega), by decide, ?_⟩
  repeat walk_at "m"
  refine ite_dec (fun h1 => absurd h1 (by have := cmpI_ge hb; omega)) (fun h1 => ?_)
  repeat walk_at "m"
  refine ⟨fun i st' => ∃ xs br, br ≤ 1 ∧ xs.length = i ∧ (∀ x ∈ xs, x < 2 ^ w) ∧ val (2 ^ w) xs + b % (2 ^ w) ^ i = a % (2 ^ w) ^ i + br * (2 ^ w) ^ i ∧ Le ⟨[(Str.ofString "a", .t (D w a)), (Str.ofString "b", .t (D w b)), (Str.ofString "w", .t (.int w)), (Str.ofString "found", .m 0), (Str.ofString "borrow", .t (.int br)), (Str.ofString "base", .t (.int (1 * 2 ^ (w : Int).toNat)))], [some (LN xs)]⟩ st', ⟨[], 0, by omega, rfl, fun _ h => (by cases h), by simp [val, Nat.mod_one], by walk_at "m.le"⟩, ?_, ?_⟩
  · rintro i st' hi ⟨xs, br, hbr, hlen, hxs, hv, hle⟩
    refine AT.weak ?_ (hle.set _ _)
    have hm1 := Nat.mod_lt (a / (2 ^ w) ^ i) (show 0 < 2 ^ w by omega)
    have hm2 := Nat.mod_lt (b / (2 ^ w) ^ i) (show 0 < 2 ^ w by omega)
    dsimp only []
    repeat walk_at "m"
    refine ite_AE (.t (.int ((b / (2 ^ w) ^ i % 2 ^ w : Nat) : Int))) (fun h2 => ?_) (fun h2 => ?_) ?_
    · repeat walk_at "m"
      rfl
    · have hb0 : b / (2 ^ w) ^ i = 0 := Nat.div_eq_of_lt (Nat.lt_of_lt_of_le (dg_len_lt hB b) (Nat.pow_le_pow_right (by omega) (by omega)))
      rw [hb0]
      repeat walk_at "m"
      rfl
    repeat walk_at "m"
    rw [mod_step (B := 2 ^ w) a i, mod_step (B := 2 ^ w) b i, Nat.pow_succ]
    generalize ea : a / (2 ^ w) ^ i % 2 ^ w = ai at *
    generalize eb : b / (2 ^ w) ^ i % 2 ^ w = bi at *
    refine ite_dec (fun h2 => ?_) (fun h2 => ?_)
    · repeat walk_at "m"
      refine ite_dec (fun _ => ?_) (fun h3 => absurd h2 h3)
      repeat walk_at "m"
      have e : (ai : Int) - br - bi + 1 * 2 ^ ((w : Int)).toNat = ((ai + 2 ^ w - br - bi : Nat) : Int) := by rw [one_shl]; omega
      rw [e]
      refine ⟨_, _, _, rfl, rfl, by rw [LN_length]; omega, ?_⟩
      repeat walk_at "m"
      refine ⟨xs ++ [ai + 2 ^ w - br - bi], 1, by omega, by simp [hlen], snoc_lt hxs (by omega), ?_, ?_⟩
      · rw [val_append, hlen]
        simp only [val]
        exact sub_step (br' := 1) hv (by omega)
      · rw [LN_snoc]
        walk_at "m.le"
    · repeat walk_at "m"
      refine ite_dec (fun h3 => absurd h3 h2) (fun _ => ?_)
      repeat walk_at "m"
      have e : (ai : Int) - br - bi = ((ai - br - bi : Nat) : Int) := by omega
      rw [e]
      refine ⟨_, _, _, rfl, rfl, by rw [LN_length]; omega, ?_⟩
      repeat walk_at "m"
      refine ⟨xs ++ [ai - br - bi], 0, by omega, by simp [hlen], snoc_lt hxs (by omega), ?_, ?_⟩
      · rw [val_append, hlen]
        simp only [val]
        exact sub_step (br' := 0) hv (by omega)
      · rw [LN_snoc]
        walk_at "m.le"
  · rintro st' ⟨xs, br, hbr, hlen, hxs, hv, hle⟩
    refine AT.weak ?_ hle
    repeat walk_at "m"
    refine BCall_cs ⟨_, _, _, rfl, cs_normal e0 xs (by omega), by decide, ?_⟩
    repeat walk_at "m"
    have hlt := val_lt hB hxs
    rw [hlen] at hlt
    rw [Nat.mod_eq_of_lt (dg_len_lt hB a), Nat.mod_eq_of_lt (Nat.lt_of_le_of_lt hb (dg_len_lt hB a))] at hv
    have hbr0 : br = 0 := by
      rcases Nat.lt_or_ge br 1 with q | q
      · omega
      · have : br = 1 := by omega
        subst this
        omega
    subst hbr0
    rw [trim_dg hB hxs, show val (2 ^ w) xs = a - b by omega]
end

/-! P7 -/

section
variable {wd : World} {base : Heap}
set_option maxHeartbeats 400000
theorem div_step' {P V ai r B l q r' bi : Nat} (h : V * l + r * (P * B) = ai * (P * B)) (hx : q * l + r' = r * B + bi) : (V + q * P) * l + r' * P = (ai * B + bi) * P := by grind
theorem cs_divrem_limb (e0 : E0 wd base) (w a l : Nat) (hw : 3 ≤ w ∧ w ≤ 8) (ha : a < 2 ^ 200) (hl : 0 < l ∧ l < 2 ^ w) : CS (GG wd base) 4 93 [D w a, .int l, .int w] (.tup [D w (a / l), .int ((a % l : Nat) : Int)]) := by
  have hB : 2 ≤ 2 ^ w := two_pow_le (by omega)
  have hL := dg_len_small hB ha
  have hP8 : 2 ^ w ≤ 2 ^ 8 := Nat.pow_le_pow_right (by omega) hw.2
  refine CS_fn e0 5 rfl rfl (ps := [Str.ofString "a", Str.ofString "limb", Str.ofString "w"]) (fun s => len3 rfl fun v_a v_limb v_w => BindsTo.of_eq rfl) (by decide) rfl ?_ (by decide) rfl rfl rfl ?_
  · decide
  intro L
  dsimp only [fE, fO, newEnv, mkFd]
  repeat walk_at "m"
  refine ite_beq (fun h0 => absurd h0 (by omega)) (fun h0 => ?_)
  repeat walk_at "m"
  refine ⟨fun i st' => ∃ xs r, r < l ∧ xs.length = (dg (2 ^ w) a).length ∧ (∀ x ∈ xs, x < 2 ^ w) ∧ (∀ j, j < (dg (2 ^ w) a).length - i → xs.getD j 0 = 0) ∧ val (2 ^ w) xs * l + r * (2 ^ w) ^ ((dg (2 ^ w) a).length - i) = a / (2 ^ w) ^ ((dg (2 ^ w) a).length - i) * (2 ^ w) ^ ((dg (2 ^ w) a).length - i) ∧ Le ⟨[(Str.ofString "a", .t (D w a)), (Str.ofString "limb", .t (.int l)), (Str.ofString "w", .t (.int w)), (Str.ofString "found", .m 1), (Str.ofString "rest", .t (.int r))], [some [.int 0], some (LN xs)]⟩ st', ?_, ?_, ?_⟩
  · refine ⟨List.replicate (dg (2 ^ w) a).length 0, 0, by omega, by simp, rep_lt hB _, fun j hj => getD_rep _ _, ?_, ?_⟩
    · rw [val_rep, Nat.sub_zero, Nat.div_eq_of_lt (dg_len_lt hB a)]; simp
    · rw [LN_rep]
      walk_at "m.le"
  · rintro i st' hi ⟨xs, r, hr, hlen, hxs, hz, hv, hle⟩
    have hk : ((((dg (2 ^ w) a).length : Int) - 1) - -1).toNat = (dg (2 ^ w) a).length := by omega
    rw [hk] at hi
    refine AT.weak ?_ (hle.set _ _)
    obtain ⟨j, hj⟩ : ∃ j, (dg (2 ^ w) a).length - i = j + 1 := ⟨(dg (2 ^ w) a).length - i - 1, by omega⟩
    have hj' : (dg (2 ^ w) a).length - (i + 1) = j := by omega
    have hjj : ((dg (2 ^ w) a).length : Int) - 1 - i = (j : Int) := by omega
    rw [hj] at hv hz
    dsimp only []
    rw [hj', hjj]
    have hm := Nat.mod_lt (a / (2 ^ w) ^ j) (show 0 < 2 ^ w by omega)
    have hrl : r * 2 ^ w + a / (2 ^ w) ^ j % 2 ^ w < 2 ^ w * l := by
      have := Nat.mul_le_mul_right (2 ^ w) (show r + 1 ≤ l by omega)
      rw [Nat.mul_comm l, Nat.add_mul] at this
      omega
    have hq := Nat.div_lt_of_lt_mul (show r * 2 ^ w + a / (2 ^ w) ^ j % 2 ^ w < l * 2 ^ w by rw [Nat.mul_comm l]; exact hrl)
    have hlw : l < 2 ^ 64 := by omega
    repeat walk_at "m"
    rw [shl_nat, bor_limb _ _ _ hm, ndiv, nmod, LN_setI]
    refine ⟨xs.set j ((r * 2 ^ w + a / (2 ^ w) ^ j % 2 ^ w) / l), (r * 2 ^ w + a / (2 ^ w) ^ j % 2 ^ w) % l, Nat.mod_lt _ (by omega), by rw [List.length_set]; exact hlen, set_lt hxs hq, fun k hk => ?_, ?_, by walk_at "m.le"⟩
    · rw [getD_set (by omega), if_neg (by omega)]
      exact hz k (by omega)
    · have h1 := val_set (B := 2 ^ w) (xs := xs) (k := j) (v := (r * 2 ^ w + a / (2 ^ w) ^ j % 2 ^ w) / l) (by omega)
      rw [hz j (by omega), Nat.zero_mul, Nat.add_zero] at h1
      have hd := div_step (B := 2 ^ w) a j
      rw [h1]
      generalize a / (2 ^ w) ^ j % 2 ^ w = bi at hd ⊢
      rw [hd, Nat.add_comm bi, Nat.mul_comm (2 ^ w) (a / (2 ^ w) ^ (j + 1))]
      generalize a / (2 ^ w) ^ (j + 1) = ai at hv ⊢
      rw [Nat.pow_succ] at hv
      exact div_step' hv (by rw [Nat.mul_comm]; exact Nat.div_add_mod _ _)
  · rintro st' ⟨xs, r, hr, hlen, hxs, hz, hv, hle⟩
    refine AT.weak ?_ hle
    have hk : ((((dg (2 ^ w) a).length : Int) - 1) - -1).toNat = (dg (2 ^ w) a).length := by omega
    rw [hk, Nat.sub_self, Nat.pow_zero, Nat.div_one, Nat.mul_one, Nat.mul_one] at hv
    repeat walk_at "m"
    refine BCall_cs ⟨_, _, _, rfl, cs_normal e0 xs (by omega), by decide, ?_⟩
    repeat walk_at "m"
    have h1 : val (2 ^ w) xs = a / l := by
      rw [← hv, Nat.add_comm, Nat.add_mul_div_right _ _ hl.1, Nat.div_eq_of_lt hr, Nat.zero_add]
    have h2 : r = a % l := by
      rw [← hv, Nat.add_comm, Nat.add_mul_mod_self_right, Nat.mod_eq_of_lt hr]
    rw [trim_dg hB hxs, h1, h2]
end

/-! P8 -/

section
variable {wd : World} {base : Heap}
set_option maxHeartbeats 400000
theorem mul_lim {B c y ai bi : Nat} (hc : c < B) (hy : y < B) (ha : ai < B) (hb : bi < B) : c + (y + ai * bi) < B * B := by
  obtain ⟨k, rfl⟩ : ∃ k, B = k + 1 := ⟨B - 1, by omega⟩
  have := Nat.mul_le_mul (show ai ≤ k by omega) (show bi ≤ k by omega)
  have e : (k + 1) * (k + 1) = k * k + 2 * k + 1 := by grind
  omega
theorem mul_step {V V' P Pi Ps y q r c ai bi bm X B : Nat} (h1 : V' + y * P = V + r * P) (h2 : V + c * P = X + ai * bm * Pi) (ht : r + B * q = c + (y + ai * bi)) (hP : P = Pi * Ps) : V' + q * (P * B) = X + ai * (bm + bi * Ps) * Pi := by
  subst hP
  grind
theorem cs_mul (e0 : E0 wd base) (w a b : Nat) (hw : 3 ≤ w ∧ w ≤ 8) (ha : a < 2 ^ 200) (hb : b < 2 ^ 200) : CS (GG wd base) 3 208 [D w a, D w b, .int w] (D w (a * b)) := by
  have hB : 2 ≤ 2 ^ w := two_pow_le (by omega)
  have hL := dg_len_small hB ha
  have hL' := dg_len_small hB hb
  have hP8 : 2 ^ w ≤ 2 ^ 8 := Nat.pow_le_pow_right (by omega) hw.2
  refine CS_fn e0 19 rfl rfl (ps := [Str.ofString "a", Str.ofString "b", Str.ofString "w"]) (fun s => len3 rfl fun v_a v_b v_w => BindsTo.of_eq rfl) (by decide) rfl ?_ (by decide) rfl rfl rfl ?_
  · decide
  intro L
  dsimp only [fE, fO, newEnv, mkFd]
  repeat walk_at "m"
  refine ⟨fun i st' => ∃ xs, xs.length = (dg (2 ^ w) a).length + (dg (2 ^ w) b).length ∧ (∀ x ∈ xs, x < 2 ^ w) ∧ (∀ j, i + (dg (2 ^ w) b).length ≤ j → xs.getD j 0 = 0) ∧ val (2 ^ w) xs = a % (2 ^ w) ^ i * b ∧ Le ⟨[(Str.ofString "a", .t (D w a)), (Str.ofString "b", .t (D w b)), (Str.ofString "w", .t (.int w)), (Str.ofString "found", .m 1), (Str.ofString "mask", .t (.int (1 * 2 ^ (w : Int).toNat - 1)))], [some [.int 0], some (LN xs)]⟩ st', ?_, ?_, ?_⟩
  · refine ⟨List.replicate ((dg (2 ^ w) a).length + (dg (2 ^ w) b).length) 0, by simp, rep_lt hB _, fun j hj => getD_rep _ _, ?_, ?_⟩
    · rw [val_rep, Nat.pow_zero, Nat.mod_one, Nat.zero_mul]
    · rw [← Int.natCast_add, LN_rep]
      walk_at "m.le"
  · rintro i st' hi ⟨xs, hlen, hxs, hz, hv, hle⟩
    rw [LN_length] at hi
    refine ⟨_, LN_getN hi, ?_⟩
    rw [dg_get hB]
    refine AT.weak ?_ ((hle.set _ _).set _ _)
    clear hle
    have hm := Nat.mod_lt (a / (2 ^ w) ^ i) (show 0 < 2 ^ w by omega)
    generalize ea : a / (2 ^ w) ^ i % 2 ^ w = ai at *
    repeat walk_at "m"
    refine ⟨fun s st' => ∃ ys c, c < 2 ^ w ∧ ys.length = (dg (2 ^ w) a).length + (dg (2 ^ w) b).length ∧ (∀ x ∈ ys, x < 2 ^ w) ∧ (∀ j, i + (dg (2 ^ w) b).length ≤ j → ys.getD j 0 = 0) ∧ val (2 ^ w) ys + c * (2 ^ w) ^ (i + s) = a % (2 ^ w) ^ i * b + ai * (b % (2 ^ w) ^ s) * (2 ^ w) ^ i ∧ Le ⟨[(Str.ofString "a", .t (D w a)), (Str.ofString "b", .t (D w b)), (Str.ofString "w", .t (.int w)), (Str.ofString "found", .m 1), (Str.ofString "mask", .t (.int (1 * 2 ^ (w : Int).toNat - 1))), (Str.ofString "at", .t (.int i)), (Str.ofString "limb", .t (.int ai)), (Str.ofString "carry", .t (.int c))], [some [.int 0], some (LN ys)]⟩ st', ?_, ?_, ?_⟩
    · refine ⟨xs, 0, by omega, hlen, hxs, hz, ?_, by walk_at "m.le"⟩
      rw [hv, Nat.pow_zero, Nat.mod_one]; simp
    · clear hv hz hxs hlen
      rintro s st' hs ⟨ys, c, hc, hlen, hys, hz, hv, hle⟩
      rw [LN_length] at hs
      refine ⟨_, LN_getN hs, ?_⟩
      rw [dg_get hB]
      refine AT.weak ?_ ((hle.set _ _).set _ _)
      clear hle
      have hm2 := Nat.mod_lt (b / (2 ^ w) ^ s) (show 0 < 2 ^ w by omega)
      generalize eb : b / (2 ^ w) ^ s % 2 ^ w = bi at *
      repeat walk_at "m"
      have hy := getD_lt hB hys (i + s)
      have hlim := mul_lim hc hy hm hm2
      have e : ((i : Int) + (s : Int)).toNat = i + s := by omega
      rw [e]
      generalize ey : ys.getD (i + s) 0 = y at *
      have e1 : (c : Int) + ((y : Int) + (ai : Int) * (bi : Int)) = ((c + (y + ai * bi) : Nat) : Int) := by push_cast; rfl
      rw [e1, band_mask, shr_nat, LN_set]
      refine ⟨ys.set (i + s) ((c + (y + ai * bi)) % 2 ^ w), (c + (y + ai * bi)) / 2 ^ w, Nat.div_lt_of_lt_mul hlim, by rw [List.length_set]; exact hlen, set_lt hys (Nat.mod_lt _ (by omega)), fun k hk => ?_, ?_, by walk_at "m.le"⟩
      · rw [getD_set (by omega), if_neg (by omega)]
        exact hz k hk
      · have h1 := val_set (B := 2 ^ w) (xs := ys) (k := i + s) (v := (c + (y + ai * bi)) % 2 ^ w) (by omega)
        rw [ey] at h1
        rw [mod_step (B := 2 ^ w) b s, eb, show i + (s + 1) = (i + s) + 1 from rfl, Nat.pow_succ]
        exact mul_step h1 hv (Nat.mod_add_div _ _) (Nat.pow_add _ _ _)
    · clear hv hz hxs hlen
      rintro st' ⟨ys, c, hc, hlen, hys, hz, hv, hle⟩
      refine AT.weak ?_ hle
      clear hle
      repeat walk_at "m"
      rw [LN_length, Nat.mod_eq_of_lt (dg_len_lt hB b)] at hv
      have e : ((i : Int) + ((dg (2 ^ w) b).length : Int)).toNat = i + (dg (2 ^ w) b).length := by omega
      rw [e, LN_set]
      refine ⟨ys.set (i + (dg (2 ^ w) b).length) c, by rw [List.length_set]; exact hlen, set_lt hys hc, fun k hk => ?_, ?_, by walk_at "m.le"⟩
      · rw [getD_set (by omega), if_neg (by omega)]
        exact hz k (by omega)
      · have h1 := val_set (B := 2 ^ w) (xs := ys) (k := i + (dg (2 ^ w) b).length) (v := c) (by omega)
        rw [hz _ (Nat.le_refl _), Nat.zero_mul, Nat.add_zero, hv] at h1
        rw [h1, mod_step (B := 2 ^ w) a i, ea]
        grind
  · rintro st' ⟨xs, hlen, hxs, hz, hv, hle⟩
    refine AT.weak ?_ hle
    rw [LN_length, Nat.mod_eq_of_lt (dg_len_lt hB a)] at hv
    repeat walk_at "m"
    refine BCall_cs ⟨_, _, _, rfl, cs_normal e0 xs (by omega), by decide, ?_⟩
    repeat walk_at "m"
    rw [trim_dg hB hxs, hv]
end

/-! P9 -/

/-- a signed number by its limbs -/
noncomputable abbrev EZ (w : Nat) (z : Int) : T := .tup [.bool (decide (z < 0)), D w z.natAbs]
noncomputable def sg (b : Bool) (n : Nat) : Int := if b = true then -(n : Int) else n
theorem sg_neg (b : Bool) (n : Nat) : decide (sg b n < 0) = (b && decide (0 < n)) := by
  cases b
  · simp only [sg, Bool.false_eq_true, if_false, Bool.false_and, decide_eq_false_iff_not]; omega
  · simp only [sg, if_true, Bool.true_and, decide_eq_decide]; omega
theorem sg_abs (b : Bool) (n : Nat) : (sg b n).natAbs = n := by
  cases b
  · simp [sg]
  · simp [sg]
theorem EZ_sg (w : Nat) (b : Bool) (n : Nat) : EZ w (sg b n) = .tup [.bool (b && decide (0 < n)), D w n] := by
  rw [EZ, sg_neg, sg_abs]
theorem sg_not (z : Int) : sg (!decide (z < 0)) z.natAbs = -z := by
  unfold sg
  by_cases h : z < 0
  · simp only [h, decide_true, Bool.not_true, Bool.false_eq_true, if_false]; omega
  · simp only [h, decide_false, Bool.not_false, if_true]; omega
theorem sg_self (z : Int) : sg (decide (z < 0)) z.natAbs = z := by
  unfold sg
  by_cases h : z < 0
  · simp only [h, decide_true, if_true]; omega
  · simp only [h, decide_false, Bool.false_eq_true, if_false]; omega
theorem sg_add {x y : Int} (h : decide (x < 0) = decide (y < 0)) : sg (decide (x < 0)) (x.natAbs + y.natAbs) = x + y := by
  rw [decide_eq_decide] at h
  unfold sg
  by_cases q : x < 0
  · simp only [q, decide_true, if_true]; omega
  · simp only [q, decide_false, Bool.false_eq_true, if_false]; omega
theorem sg_sub {x y : Int} (h : ¬ decide (x < 0) = decide (y < 0)) (h' : y.natAbs ≤ x.natAbs) : sg (decide (x < 0)) (x.natAbs - y.natAbs) = x + y := by
  rw [decide_eq_decide] at h
  unfold sg
  by_cases q : x < 0
  · simp only [q, decide_true, if_true]; omega
  · simp only [q, decide_false, Bool.false_eq_true, if_false]; omega
theorem sg_sub' {x y : Int} (h : ¬ decide (x < 0) = decide (y < 0)) (h' : x.natAbs ≤ y.natAbs) : sg (decide (y < 0)) (y.natAbs - x.natAbs) = x + y := by
  rw [sg_sub (fun q => h q.symm) h', Int.add_comm]
theorem D_zero (w : Nat) : D w 0 = .lst [] := by rw [D, dg_zero]; rfl
theorem D_one {w n : Nat} (hB : 2 ≤ 2 ^ w) (h : 0 < n) (h' : n < 2 ^ w) : D w n = .lst [.int n] := by rw [D, dg_pos hB h, Nat.mod_eq_of_lt h', Nat.div_eq_of_lt h', dg_zero]; rfl
theorem cmpI_lt {a b : Nat} (h : cmpI a b < 0) : a < b := by
  unfold cmpI at h
  split at h
  · assumption
  · split at h <;> omega
theorem cmpI_nlt {a b : Nat} (h : ¬ cmpI a b < 0) : b ≤ a := by
  unfold cmpI at h
  split at h
  · omega
  · omega
theorem sg_zero (b : Bool) : sg b 0 = 0 := by cases b <;> rfl
theorem sg_div {q : Int} {k : Nat} (hk : 0 < k) : sg (decide (q * (k : Int) < 0) != decide ((k : Int) < 0)) q.natAbs = q := by
  have h1 : decide ((k : Int) < 0) = false := decide_eq_false (by omega)
  have h2 : decide (q * (k : Int) < 0) = decide (q < 0) := by
    rw [decide_eq_decide]
    constructor
    · intro h
      rcases Int.lt_or_le q 0 with r | r
      · exact r
      · have := Int.mul_nonneg r (show (0 : Int) ≤ k by omega); omega
    · intro h; exact Int.mul_neg_of_neg_of_pos h (by omega)
  rw [h1, h2, Bool.bne_false, sg_self]
theorem sg_mul (x y : Int) : sg (decide (x < 0) != decide (y < 0)) (x.natAbs * y.natAbs) = x * y := by
  rw [← Int.natAbs_mul]
  unfold sg
  by_cases h : x < 0 <;> by_cases h' : y < 0
  · have := Int.mul_pos_of_neg_of_neg h h'
    simp only [h, h', decide_true, bne_self_eq_false, Bool.false_eq_true, if_false]; omega
  · have := Int.mul_nonpos_of_nonpos_of_nonneg (Int.le_of_lt h) (Int.not_lt.mp h')
    simp only [h, h', decide_true, decide_false, Bool.bne_false, if_true]; omega
  · have := Int.mul_nonpos_of_nonneg_of_nonpos (Int.not_lt.mp h) (Int.le_of_lt h')
    simp only [h, h', decide_true, decide_false, Bool.bne_true, Bool.not_false, if_true]; omega
  · have := Int.mul_nonneg (Int.not_lt.mp h) (Int.not_lt.mp h')
    simp only [h, h', decide_false, bne_self_eq_false, Bool.false_eq_true, if_false]; omega
section
variable {wd : World} {base : Heap}
set_option maxHeartbeats 400000
theorem cs_signed (e0 : E0 wd base) (w n : Nat) (b : Bool) (hw : 3 ≤ w ∧ w ≤ 8) (hn : n < 2 ^ 200) : CS (GG wd base) 2 121 [.bool b, D w n] (EZ w (sg b n)) := by
  have hB : 2 ≤ 2 ^ w := two_pow_le (by omega)
  have hL := dg_len_small hB hn
  rw [EZ_sg]
  refine CS_fn e0 6 rfl rfl (ps := [Str.ofString "is_below", Str.ofString "nat"]) (fun s => len2 rfl fun v_is_below v_nat => BindsTo.of_eq rfl) (by decide) rfl ?_ (by decide) rfl rfl rfl ?_
  · decide
  intro L
  dsimp only [fE, fO, newEnv, mkFd]
  repeat walk_at "m"
  cases b
  · simp only [Bool.false_eq_true, if_false]
    repeat walk_at "m"
    rfl
  · simp only [if_true]
    repeat walk_at "m"
    have : decide ((0 : Int) < ((dg (2 ^ w) n).length : Int)) = decide (0 < n) := by
      have := dg_len hB n 0
      rw [Nat.pow_zero, Nat.div_one] at this
      rw [decide_eq_decide, ← this]
      omega
    rw [this]
    rfl
theorem cs_divrem_small (e0 : E0 wd base) (w a b : Nat) (hw : 3 ≤ w ∧ w ≤ 8) (ha : a < 2 ^ 200) (hb : 0 < b ∧ b < 2 ^ w) : CS (GG wd base) 6 215 [D w a, D w b, .int w] (.tup [D w (a / b), D w (a % b)]) := by
  have hB : 2 ≤ 2 ^ w := two_pow_le (by omega)
  have hL := dg_len_small hB ha
  have hP8 : 2 ^ w ≤ 2 ^ 8 := Nat.pow_le_pow_right (by omega) hw.2
  have hlb : 0 < (dg (2 ^ w) b).length := by rw [dg_len hB]; simpa using hb.1
  refine CS_fn e0 20 rfl rfl (ps := [Str.ofString "a", Str.ofString "b", Str.ofString "w"]) (fun s => len3 rfl fun v_a v_b v_w => BindsTo.of_eq rfl) (by decide) rfl ?_ (by decide) rfl rfl rfl ?_
  · decide
  intro L
  dsimp only [fE, fO, newEnv, mkFd]
  repeat walk_at "m"
  rw [Nat.pow_zero, Nat.div_one, Nat.mod_eq_of_lt hb.2]
  refine BCall_cs ⟨_, _, _, rfl, cs_divrem_limb e0 w a b hw ha hb, by decide, ?_⟩
  repeat walk_at "m"
  have hr := Nat.mod_lt a hb.1
  refine ite_dec (fun h => ?_) (fun h => ?_)
  · repeat walk_at "m"
    rw [D_one (n := a % b) hB (by omega) (by omega)]
  · repeat walk_at "m"
    rw [show a % b = 0 by omega, D_zero]
theorem cs_divrem_school (e0 : E0 wd base) (w a b : Nat) (hw : 3 ≤ w ∧ w ≤ 8) (ha : a < 2 ^ 200) (hb : 0 < b ∧ b < 2 ^ w) : CS (GG wd base) 8 250 [D w a, D w b, .int w] (.tup [D w (a / b), D w (a % b)]) := by
  have hB : 2 ≤ 2 ^ w := two_pow_le (by omega)
  have hL := dg_len_small hB ha
  have hP8 : 2 ^ w ≤ 2 ^ 8 := Nat.pow_le_pow_right (by omega) hw.2
  have hlb : dg (2 ^ w) b = [b] := by rw [dg_pos hB hb.1, Nat.mod_eq_of_lt hb.2, Nat.div_eq_of_lt hb.2, dg_zero]
  have hlb1 : (dg (2 ^ w) b).length = 1 := by rw [hlb]; rfl
  refine CS_fn e0 21 rfl rfl (ps := [Str.ofString "a", Str.ofString "b", Str.ofString "w"]) (fun s => len3 rfl fun v_a v_b v_w => BindsTo.of_eq rfl) (by decide) rfl ?_ (by decide) rfl rfl rfl ?_
  · decide
  intro L
  dsimp only [fE, fO, newEnv, mkFd]
  repeat walk_at "m"
  refine ite_beq (fun h => absurd h (by omega)) (fun _ => ?_)
  repeat walk_at "m"
  refine BCall_cs ⟨_, _, _, rfl, cs_compare e0 w a b hw ha (by omega), by decide, ?_⟩
  repeat walk_at "m"
  refine ite_dec (fun h => ?_) (fun h => ?_)
  · have hab := cmpI_lt h
    repeat walk_at "m"
    refine ⟨by rw [LN_length]; omega, ?_⟩
    repeat walk_at "m"
    rw [Nat.div_eq_of_lt hab, Nat.mod_eq_of_lt hab, D_zero]
  repeat walk_at "m"
  refine ite_beq (fun _ => ?_) (fun h => absurd h (by omega))
  repeat walk_at "m"
  refine BCall_cs ⟨_, _, _, rfl, cs_divrem_small e0 w a b hw ha hb, by decide, ?_⟩
  repeat walk_at "m"
  rfl
theorem cs_s_neg (e0 : E0 wd base) (w : Nat) (z : Int) (hw : 3 ≤ w ∧ w ≤ 8) (hz : z.natAbs < 2 ^ 200) : CS (GG wd base) 4 135 [EZ w z] (EZ w (-z)) := by
  refine CS_fn e0 8 rfl rfl (ps := [Str.ofString "x"]) (fun s => len1 rfl fun v_x => BindsTo.of_eq rfl) (by decide) rfl ?_ (by decide) rfl rfl rfl ?_
  · decide
  intro L
  dsimp only [fE, fO, newEnv, mkFd]
  repeat walk_at "m"
  refine BCall_cs ⟨_, _, _, rfl, cs_signed e0 w z.natAbs (!decide (z < 0)) hw hz, by decide, ?_⟩
  repeat walk_at "m"
  rw [sg_not]
theorem cs_s_mul (e0 : E0 wd base) (w : Nat) (x y : Int) (hw : 3 ≤ w ∧ w ≤ 8) (hx : x.natAbs < 2 ^ 90) (hy : y.natAbs < 2 ^ 90) : CS (GG wd base) 5 149 [EZ w x, EZ w y, .int w, .con (.ref 208)] (EZ w (x * y)) := by
  have hxy : x.natAbs * y.natAbs < 2 ^ 200 := Nat.lt_of_lt_of_le (Nat.mul_lt_mul'' hx hy) (by decide)
  refine CS_fn e0 10 rfl rfl (ps := [Str.ofString "x", Str.ofString "y", Str.ofString "w", Str.ofString "mul"]) (fun s => len4 rfl fun v_x v_y v_w v_mul => BindsTo.of_eq rfl) (by decide) rfl ?_ (by decide) rfl rfl rfl ?_
  · decide
  intro L
  dsimp only [fE, fO, newEnv, mkFd]
  repeat walk_at "m"
  refine BCall_cs ⟨_, _, _, rfl, cs_mul e0 w _ _ hw (by omega) (by omega), by decide, ?_⟩
  repeat walk_at "m"
  refine BCall_cs ⟨_, _, _, rfl, cs_signed e0 w _ _ hw hxy, by decide, ?_⟩
  repeat walk_at "m"
  rw [sg_mul]
theorem cs_tdiv (e0 : E0 wd base) (w k : Nat) (q : Int) (hw : 3 ≤ w ∧ w ≤ 8) (hk : 0 < k ∧ k < 2 ^ w) (hq : q.natAbs < 2 ^ 90) : CS (GG wd base) 10 156 [EZ w (q * k), EZ w k, .int w, .con (.ref 250)] (.tup [EZ w q, EZ w 0]) := by
  have hB : 2 ≤ 2 ^ w := two_pow_le (by omega)
  have hP8 : 2 ^ w ≤ 2 ^ 8 := Nat.pow_le_pow_right (by omega) hw.2
  have hlb : dg (2 ^ w) k = [k] := by rw [dg_pos hB hk.1, Nat.mod_eq_of_lt hk.2, Nat.div_eq_of_lt hk.2, dg_zero]
  have hlb1 : (dg (2 ^ w) ((k : Int)).natAbs).length = 1 := by rw [Int.natAbs_natCast, hlb]; rfl
  have hxy : (q * (k : Int)).natAbs < 2 ^ 200 := by
    rw [Int.natAbs_mul, Int.natAbs_natCast]
    exact Nat.lt_of_lt_of_le (Nat.mul_lt_mul'' hq (show k < 2 ^ 9 by omega)) (by decide)
  have hd : (q * (k : Int)).natAbs / ((k : Int)).natAbs = q.natAbs := by
    rw [Int.natAbs_mul, Int.natAbs_natCast, Nat.mul_div_cancel _ hk.1]
  have hm : (q * (k : Int)).natAbs % ((k : Int)).natAbs = 0 := by
    rw [Int.natAbs_mul, Int.natAbs_natCast, Nat.mul_mod_left]
  refine CS_fn e0 11 rfl rfl (ps := [Str.ofString "x", Str.ofString "y", Str.ofString "w", Str.ofString "divrem"]) (fun s => len4 rfl fun v_x v_y v_w v_divrem => BindsTo.of_eq rfl) (by decide) rfl ?_ (by decide) rfl rfl rfl ?_
  · decide
  intro L
  dsimp only [fE, fO, newEnv, mkFd]
  repeat walk_at "m"
  refine ite_beq (fun h => absurd h (by omega)) (fun _ => ?_)
  repeat walk_at "m"
  refine BCall_cs ⟨_, _, _, rfl, cs_divrem_school e0 w _ _ hw hxy hk, by decide, ?_⟩
  repeat walk_at "m"
  rw [hd, hm]
  refine BCall_cs ⟨_, _, _, rfl, cs_signed e0 w _ _ hw (by omega), by decide, ?_⟩
  repeat walk_at "m"
  refine BCall_cs ⟨_, _, _, rfl, cs_signed e0 w 0 _ hw (by omega), by decide, ?_⟩
  repeat walk_at "m"
  rw [sg_div hk.1, sg_zero]
theorem cs_exact (e0 : E0 wd base) (w k : Nat) (q : Int) (hw : 3 ≤ w ∧ w ≤ 8) (hk : 0 < k ∧ k < 2 ^ w) (hq : q.natAbs < 2 ^ 90) : CS (GG wd base) 12 189 [EZ w (q * k), EZ w k, .int w, .con (.ref 250)] (EZ w q) := by
  refine CS_fn e0 16 rfl rfl (ps := [Str.ofString "x", Str.ofString "y", Str.ofString "w", Str.ofString "divrem"]) (fun s => len4 rfl fun v_x v_y v_w v_divrem => BindsTo.of_eq rfl) (by decide) rfl ?_ (by decide) rfl rfl rfl ?_
  · decide
  intro L
  dsimp only [fE, fO, newEnv, mkFd]
  repeat walk_at "m"
  refine BCall_cs ⟨_, _, _, rfl, cs_tdiv e0 w k q hw hk hq, by decide, ?_⟩
  repeat walk_at "m"
  rfl
theorem cs_s_of (e0 : E0 wd base) (w k : Nat) (hw : 3 ≤ w ∧ w ≤ 8) (hk : k < 2 ^ 200) : CS (GG wd base) 4 128 [.int k, .int w] (EZ w k) := by
  refine CS_fn e0 7 rfl rfl (ps := [Str.ofString "number", Str.ofString "w"]) (fun s => len2 rfl fun v_number v_w => BindsTo.of_eq rfl) (by decide) rfl ?_ (by decide) rfl rfl rfl ?_
  · decide
  intro L
  dsimp only [fE, fO, newEnv, mkFd]
  repeat walk_at "m"
  refine BCall_abs ?_
  repeat walk_at "m"
  rw [if_neg (by omega)]
  refine BCall_cs ⟨_, _, _, rfl, cs_nat_of e0 w k hw hk, by decide, ?_⟩
  repeat walk_at "m"
  rfl
theorem EZ_zero (w : Nat) : EZ w 0 = Z0 := by rw [EZ, Int.natAbs_zero, D_zero]; rfl
theorem EZ_one {w : Nat} (hw : 3 ≤ w) : EZ w 1 = Z1 := by rw [EZ, show Int.natAbs 1 = 1 from rfl, D_one (two_pow_le (by omega)) (by decide) (two_pow_le (by omega))]; rfl
theorem cs_s_add (e0 : E0 wd base) (w : Nat) (x y : Int) (hw : 3 ≤ w ∧ w ≤ 8) (hx : x.natAbs < 2 ^ 190) (hy : y.natAbs < 2 ^ 190) : CS (GG wd base) 6 142 [EZ w x, EZ w y, .int w] (EZ w (x + y)) := by
  refine CS_fn e0 9 rfl rfl (ps := [Str.ofString "x", Str.ofString "y", Str.ofString "w"]) (fun s => len3 rfl fun v_x v_y v_w => BindsTo.of_eq rfl) (by decide) rfl ?_ (by decide) rfl rfl rfl ?_
  · decide
  intro L
  dsimp only [fE, fO, newEnv, mkFd]
  repeat walk_at "m"
  by_cases hs : decide (x < 0) = decide (y < 0)
  · simp only [hs, beq_self_eq_true, if_true]
    repeat walk_at "m"
    refine BCall_cs ⟨_, _, _, rfl, cs_add e0 w _ _ hw (by omega) (by omega), by decide, ?_⟩
    repeat walk_at "m"
    refine BCall_cs ⟨_, _, _, rfl, cs_signed e0 w _ _ hw (by omega), by decide, ?_⟩
    repeat walk_at "m"
    rw [sg_add hs]
  · simp only [beq_eq_false_iff_ne.mpr hs, Bool.false_eq_true, if_false]
    repeat walk_at "m"
    refine BCall_cs ⟨_, _, _, rfl, cs_compare e0 w _ _ hw (by omega) (by omega), by decide, ?_⟩
    repeat walk_at "m"
    refine ite_dec (fun h => ?_) (fun h => ?_)
    · have hab := cmpI_lt h
      repeat walk_at "m"
      refine BCall_cs ⟨_, _, _, rfl, cs_sub e0 w _ _ hw (by omega) (by omega), by decide, ?_⟩
      repeat walk_at "m"
      refine BCall_cs ⟨_, _, _, rfl, cs_signed e0 w _ _ hw (by omega), by decide, ?_⟩
      repeat walk_at "m"
      rw [sg_sub' hs (by omega)]
    · have hab := cmpI_nlt h
      repeat walk_at "m"
      refine BCall_cs ⟨_, _, _, rfl, cs_sub e0 w _ _ hw (by omega) (by omega), by decide, ?_⟩
      repeat walk_at "m"
      refine BCall_cs ⟨_, _, _, rfl, cs_signed e0 w _ _ hw (by omega), by decide, ?_⟩
      repeat walk_at "m"
      rw [sg_sub hs (by omega)]
end

/-! P10 -/
noncomputable abbrev ER (w k : Nat) (v : Nat → Int) : T := .lst ((List.range k).map fun j => EZ w (v j))
noncomputable abbrev EM (w k m : Nat) (A : Nat → Nat → Int) : T := .lst ((List.range k).map fun i => .lst ((List.range m).map fun j => EZ w (A i j)))
theorem ER_congr {w k : Nat} {u v : Nat → Int} (h : ∀ i, i < k → u i = v i) : ER w k u = ER w k v := by
  have : (List.range k).map (fun j => EZ w (u j)) = (List.range k).map (fun j => EZ w (v j)) := List.map_congr_left fun i hi => by rw [h i (List.mem_range.mp hi)]
  rw [ER, this]
theorem EM_congr {w k m : Nat} {A B : Nat → Nat → Int} (h : ∀ i j, i < k → j < m → A i j = B i j) : EM w k m A = EM w k m B := by
  have : (List.range k).map (fun i => T.lst ((List.range m).map fun j => EZ w (A i j))) = (List.range k).map (fun i => T.lst ((List.range m).map fun j => EZ w (B i j))) :=
    List.map_congr_left fun i hi => ER_congr (w := w) fun j hj => h i j (List.mem_range.mp hi) hj
  rw [EM, this]
section
variable {G : Wd} {n : Nat} {env : Env} {oc : List (Str × Addr)} {st : St}
theorem CL.pureR {elt : Expr} {scope : Scope} {cl : List (Str × Addr)} {Φ : T → St → Prop} {k : Nat} {g : Nat → T} {f : Nat → T → St → St} {r : List (Str × V)} {H : List (Option (List T))} (rin : List (Str × V)) (outs : Nat → T) (hv : VisAll env scope cl r rin) (hk : k ≤ 1000000)
    (h : ∀ i C, i < k → AE G n (cE scope cl env C) (cO scope C) elt (fun v st'' => v = .t (outs i) ∧ Le ⟨rin, H⟩ st'') (f i (g i) ⟨rin, H⟩))
    (hf : ∀ i z st st', Le st st' → Le (f i z st) (f i z st')) (hp : Φ (.lst ((List.range k).map outs)) ⟨r, H⟩) : CL G n env elt scope cl ((List.range k).map g) f Φ ⟨r, H⟩ :=
  CL.pure rin outs hv (by rw [rg_len]; exact hk) (fun i C hi => by rw [rg_len] at hi; exact ⟨g i, rg_get hi, h i C hi⟩) hf (by rw [rg_len]; exact hp)
theorem FL.ofR {rest body : List Stmt} {Φ : F → St → Prop} {k : Nat} {g : Nat → T} {f : Nat → T → St → St} (J : Nat → St → Prop) (h0 : J 0 st)
    (h : ∀ i st', i < k → J i st' → AX G n env oc body (FQ G n env oc rest Φ (J (i + 1))) (f i (g i) st')) (hd : ∀ st', J k st' → AX G n env oc rest Φ st') : FL G n env oc rest Φ f body ((List.range k).map g) st :=
  ⟨J, h0, fun i st' hi hj => by rw [rg_len] at hi; exact ⟨g i, rg_get hi, h i st' hi hj⟩, fun st' hj => hd st' (by rw [rg_len] at hj; exact hj)⟩
end

section
variable {wd : World} {base : Heap}
set_option maxHeartbeats 400000
noncomputable def mI (i j : Nat) : Int := if i = j then 1 else 0
theorem cs_m_unit (e0 : E0 wd base) (w n : Nat) (hw : 3 ≤ w ∧ w ≤ 8) (hn : n ≤ 3) : CS (GG wd base) 4 165 [.int n] (EM w n n mI) := by
  refine CS_fn e0 12 rfl rfl (ps := [Str.ofString "size"]) (fun s => len1 rfl fun v_size => BindsTo.of_eq rfl) (by decide) rfl ?_ (by decide) rfl rfl rfl ?_
  · decide
  intro L
  dsimp only [fE, fO, newEnv, mkFd]
  repeat walk_at "m"
  refine CN.pure [(Str.ofString "size", .t (.int n))] (fun i => .lst ((List.range n).map fun j => EZ w (mI i j))) (by walk_at "m.vis") (by omega) (fun i C hi => ?_) (fun _ _ _ h => h.set _ _) ?_
  · try dsimp only []
    repeat walk_at "m"
    refine CN.pure [(Str.ofString "at", .t (.int i))] (fun j => EZ w (mI i j)) (by walk_at "m.vis") (by omega) (fun j C hj => ?_) (fun _ _ _ h => h.set _ _) ?_
    · try dsimp only []
      repeat walk_at "m"
      refine ite_beq (fun h => ?_) (fun h => ?_)
      · repeat walk_at "m"
        rw [show mI i j = 1 by unfold mI; rw [if_pos (by omega)], EZ_one hw.1]
        exact ⟨rfl, by walk_at "m.le"⟩
      · repeat walk_at "m"
        rw [show mI i j = 0 by unfold mI; rw [if_neg (by omega)], EZ_zero]
        exact ⟨rfl, by walk_at "m.le"⟩
    · exact ⟨rfl, by walk_at "m.le"⟩
  · repeat walk_at "m"
    rfl
noncomputable def isum (k : Nat) (f : Nat → Int) : Int := match k with
  | 0 => 0
  | k + 1 => isum k f + f k
theorem isum_abs {f : Nat → Int} {U : Nat} : ∀ {k : Nat}, (∀ i, i < k → (f i).natAbs ≤ U) → (isum k f).natAbs ≤ k * U
  | 0, _ => by simp [isum]
  | k + 1, h => by
    have h1 := isum_abs (k := k) fun i hi => h i (by omega)
    have h2 := h k (by omega)
    rw [isum, Nat.add_mul]
    have := Int.natAbs_add_le (isum k f) (f k)
    omega
noncomputable def mmul (n : Nat) (A B : Nat → Nat → Int) (i j : Nat) : Int := isum n fun k => A i k * B k j
theorem cs_m_turned (e0 : E0 wd base) (w k m : Nat) (A : Nat → Nat → Int) (hk : 0 < k ∧ k ≤ 3) (hm : m ≤ 3) : CS (GG wd base) 4 170 [EM w k m A] (EM w m k fun i j => A j i) := by
  refine CS_fn e0 13 rfl rfl (ps := [Str.ofString "a"]) (fun s => len1 rfl fun v_a => BindsTo.of_eq rfl) (by decide) rfl ?_ (by decide) rfl rfl rfl ?_
  · decide
  intro L
  dsimp only [fE, fO, newEnv, mkFd]
  repeat walk_at "m"
  refine ite_dec (fun _ => ?_) (fun h => absurd h (by omega))
  repeat walk_at "m"
  refine CN.pure [(Str.ofString "a", .t (EM w k m A))] (fun i => .lst ((List.range k).map fun j => EZ w (A j i))) (by walk_at "m.vis") (by omega) (fun i C hi => ?_) (fun _ _ _ h => h.set _ _) ?_
  · try dsimp only []
    repeat walk_at "m"
    refine CL.pureR [(Str.ofString "at", .t (.int i))] (fun j => EZ w (A j i)) (by walk_at "m.vis") (by omega) (fun j C hj => ?_) (fun _ _ _ _ h => h.set _ _) ?_
    · try dsimp only []
      repeat walk_at "m"
      walk_at "m.le"
    · exact ⟨rfl, by walk_at "m.le"⟩
  · repeat walk_at "m"
    rfl
theorem cs_inner (e0 : E0 wd base) (w k U W : Nat) (u v : Nat → Int) (hw : 3 ≤ w ∧ w ≤ 8) (hk : k ≤ 3) (hU : U < 2 ^ 80) (hW : W < 2 ^ 80) (hu : ∀ i, i < k → (u i).natAbs ≤ U) (hv : ∀ i, i < k → (v i).natAbs ≤ W) : CS (GG wd base) 8 177 [ER w k u, ER w k v, .int w, .con (.ref 208)] (EZ w (isum k fun i => u i * v i)) := by
  refine CS_fn e0 14 rfl rfl (ps := [Str.ofString "one", Str.ofString "other", Str.ofString "w", Str.ofString "mul"]) (fun s => len4 rfl fun v_one v_other v_w v_mul => BindsTo.of_eq rfl) (by decide) rfl ?_ (by decide) rfl rfl rfl ?_
  · decide
  intro L
  dsimp only [fE, fO, newEnv, mkFd]
  repeat walk_at "m"
  have hb : ∀ i, i < k → (u i * v i).natAbs ≤ U * W := fun i hi => by rw [Int.natAbs_mul]; exact Nat.mul_le_mul (hu i hi) (hv i hi)
  have hUW : U * W < 2 ^ 160 := Nat.lt_of_lt_of_le (Nat.mul_lt_mul'' hU hW) (by decide)
  refine FL.ofR (fun i st' => Le ⟨[(Str.ofString "one", .t (ER w k u)), (Str.ofString "other", .t (ER w k v)), (Str.ofString "w", .t (.int w)), (Str.ofString "mul", .t (.con (.ref 208))), (Str.ofString "found", .t (EZ w (isum i fun i => u i * v i)))], []⟩ st') ?_ ?_ ?_
  · rw [isum, EZ_zero]
    walk_at "m.le"
  · rintro i st' hi hle
    refine AT.weak ?_ ((hle.set _ _).set _ _)
    have h1 := isum_abs (k := i) fun j hj => hb j (by omega)
    have h2 := Nat.mul_le_mul_right (U * W) (show i ≤ 3 by omega)
    have h3 := hu i hi
    have h4 := hv i hi
    have h5 := hb i hi
    try dsimp only []
    repeat walk_at "m"
    refine BCall_cs ⟨_, _, _, rfl, cs_s_mul e0 w _ _ hw (by omega) (by omega), by decide, ?_⟩
    repeat walk_at "m"
    refine BCall_cs ⟨_, _, _, rfl, cs_s_add e0 w _ _ hw (by omega) (by omega), by decide, ?_⟩
    repeat walk_at "m"
    walk_at "m.le"
  · rintro st' hle
    refine AT.weak ?_ hle
    repeat walk_at "m"
    rfl
theorem cs_m_mul (e0 : E0 wd base) (w n U W : Nat) (A B : Nat → Nat → Int) (hw : 3 ≤ w ∧ w ≤ 8) (hn : 0 < n ∧ n ≤ 3) (hU : U < 2 ^ 80) (hW : W < 2 ^ 80) (hu : ∀ i j, i < n → j < n → (A i j).natAbs ≤ U) (hv : ∀ i j, i < n → j < n → (B i j).natAbs ≤ W) : CS (GG wd base) 10 182 [EM w n n A, EM w n n B, .int w, .con (.ref 208)] (EM w n n (mmul n A B)) := by
  refine CS_fn e0 15 rfl rfl (ps := [Str.ofString "a", Str.ofString "b", Str.ofString "w", Str.ofString "mul"]) (fun s => len4 rfl fun v_a v_b v_w v_mul => BindsTo.of_eq rfl) (by decide) rfl ?_ (by decide) rfl rfl rfl ?_
  · decide
  intro L
  dsimp only [fE, fO, newEnv, mkFd]
  repeat walk_at "m"
  refine BCall_cs ⟨_, _, _, rfl, cs_m_turned e0 w n n B hn hn.2, by decide, ?_⟩
  repeat walk_at "m"
  refine CL.pureR [(Str.ofString "columns", .t (EM w n n fun i j => B j i)), (Str.ofString "w", .t (.int w)), (Str.ofString "mul", .t (.con (.ref 208)))] (fun i => .lst ((List.range n).map fun j => EZ w (mmul n A B i j))) (by walk_at "m.vis") (by omega) (fun i C hi => ?_) (fun _ _ _ _ h => h.set _ _) ?_
  · try dsimp only []
    repeat walk_at "m"
    refine CL.pureR [(Str.ofString "row", .t (ER w n (A i))), (Str.ofString "w", .t (.int w)), (Str.ofString "mul", .t (.con (.ref 208)))] (fun j => EZ w (mmul n A B i j)) (by walk_at "m.vis") (by omega) (fun j C hj => ?_) (fun _ _ _ _ h => h.set _ _) ?_
    · try dsimp only []
      repeat walk_at "m"
      refine BCall_cs ⟨_, _, _, rfl, cs_inner e0 w n U W (A i) (fun k => B k j) hw hn.2 hU hW (fun k hk => hu i k hi hk) (fun k hk => hv k j hk hj), by decide, ?_⟩
      exact ⟨rfl, by walk_at "m.le"⟩
    · exact ⟨rfl, by walk_at "m.le"⟩
  · repeat walk_at "m"
    rfl
end

/-! P11 -/

section
variable {wd : World} {base : Heap}
set_option maxHeartbeats 400000
/-! powers -/
theorem isum_congr {f g : Nat → Int} : ∀ {k : Nat}, (∀ i, i < k → f i = g i) → isum k f = isum k g
  | 0, _ => rfl
  | k + 1, h => by rw [isum, isum, isum_congr fun i hi => h i (by omega), h k (by omega)]
theorem isum_add (f g : Nat → Int) : ∀ k, isum k (fun i => f i + g i) = isum k f + isum k g
  | 0 => rfl
  | k + 1 => by simp only [isum, isum_add f g k]; omega
theorem isum_mul (f : Nat → Int) (c : Int) : ∀ k, isum k (fun i => f i * c) = isum k f * c
  | 0 => by simp [isum]
  | k + 1 => by simp only [isum, isum_mul f c k, Int.add_mul]
theorem isum_lmul (f : Nat → Int) (c : Int) : ∀ k, isum k (fun i => c * f i) = c * isum k f
  | 0 => by simp [isum]
  | k + 1 => by simp only [isum, isum_lmul f c k, Int.mul_add]
theorem isum_zero : ∀ k, isum k (fun _ => 0) = 0
  | 0 => rfl
  | k + 1 => by simp only [isum, isum_zero k]; rfl
theorem isum_swap (f : Nat → Nat → Int) (m : Nat) : ∀ k, isum k (fun i => isum m fun j => f i j) = isum m (fun j => isum k fun i => f i j)
  | 0 => by simp only [isum, isum_zero]
  | k + 1 => by simp only [isum, isum_swap f m k, ← isum_add]
theorem mmul_assoc (n : Nat) (A B C : Nat → Nat → Int) (i j : Nat) : mmul n (mmul n A B) C i j = mmul n A (mmul n B C) i j := by
  unfold mmul
  simp only [← isum_mul, ← isum_lmul]
  rw [isum_swap]
  exact isum_congr fun k _ => isum_congr fun l _ => by rw [Int.mul_assoc]
theorem isum_delta (f : Nat → Int) (j : Nat) : ∀ k, isum k (fun i => f i * mI i j) = if j < k then f j else 0
  | 0 => rfl
  | k + 1 => by
    rw [isum, isum_delta f j k]
    unfold mI
    by_cases h : k = j
    · subst h; simp
    · rw [if_neg h]
      by_cases h' : j < k
      · rw [if_pos h', if_pos (by omega)]; omega
      · rw [if_neg h', if_neg (by omega)]; omega
theorem mmul_one (n : Nat) (A : Nat → Nat → Int) {i j : Nat} (h : j < n) : mmul n A mI i j = A i j := by
  unfold mmul
  rw [isum_delta, if_pos h]
theorem mmul_congr {n : Nat} {A A' B B' : Nat → Nat → Int} {i j : Nat} (h : ∀ k, k < n → A i k = A' i k) (h' : ∀ k, k < n → B k j = B' k j) : mmul n A B i j = mmul n A' B' i j :=
  isum_congr fun k hk => by rw [h k hk, h' k hk]
noncomputable def mpw (n : Nat) (A : Nat → Nat → Int) : Nat → Nat → Nat → Int
  | 0 => mI
  | k + 1 => mmul n (mpw n A k) A
theorem mpw_add {n : Nat} (A : Nat → Nat → Int) (a i j : Nat) (hj : j < n) : ∀ b, mmul n (mpw n A a) (mpw n A b) i j = mpw n A (a + b) i j
  | 0 => mmul_one n _ hj
  | b + 1 => by
    show mmul n (mpw n A a) (mmul n (mpw n A b) A) i j = mmul n (mpw n A (a + b)) A i j
    rw [← mmul_assoc]
    exact mmul_congr (fun k hk => mpw_add A a i k hk b) fun _ _ => rfl
theorem mmul_abs {n U W : Nat} {A B : Nat → Nat → Int} {i j : Nat} (h : ∀ k, k < n → (A i k).natAbs ≤ U) (h' : ∀ k, k < n → (B k j).natAbs ≤ W) : (mmul n A B i j).natAbs ≤ n * (U * W) :=
  isum_abs fun k hk => by rw [Int.natAbs_mul]; exact Nat.mul_le_mul (h k hk) (h' k hk)
theorem mI_abs (i j : Nat) : (mI i j).natAbs ≤ 1 := by unfold mI; split <;> decide
theorem mpw_abs {n : Nat} {A : Nat → Nat → Int} (hn : n ≤ 3) (hA : ∀ i j, i < n → j < n → (A i j).natAbs ≤ 3) : ∀ k i j, i < n → j < n → (mpw n A k i j).natAbs ≤ 9 ^ k
  | 0, i, j, _, _ => mI_abs i j
  | k + 1, i, j, hi, hj => by
    have := mmul_abs (n := n) (U := 9 ^ k) (W := 3) (A := mpw n A k) (B := A) (i := i) (j := j) (fun l hl => mpw_abs hn hA k i l hi hl) fun l hl => hA l j hl hj
    have h2 := Nat.mul_le_mul_right (9 ^ k * 3) hn
    show (mmul n (mpw n A k) A i j).natAbs ≤ _
    rw [Nat.pow_succ]
    omega
theorem cs_m_power (e0 : E0 wd base) (w n m : Nat) (A : Nat → Nat → Int) (hw : 3 ≤ w ∧ w ≤ 8) (hn : 0 < n ∧ n ≤ 3) (hm : m < 8) (hA : ∀ i j, i < n → j < n → (A i j).natAbs ≤ 3) : CS (GG wd base) 14 201 [EM w n n A, .int m, .int w, .con (.ref 208)] (EM w n n (mpw n A m)) := by
  have hbl : m < 2 ^ Builtin.Int.intBits (m : Int) := by
    have := (PySem.intBits_le_iff (m := Builtin.Int.intBits (m : Int)) (x := (m : Int))).mp (Nat.le_refl _)
    simpa using this
  have hb3 : Builtin.Int.intBits (m : Int) ≤ 3 := PySem.intBits_le_iff.mpr (by simpa using hm)
  generalize hbb : Builtin.Int.intBits (m : Int) = bl at *
  have hp9 : ∀ k, k < 8 → 9 ^ k ≤ 9 ^ 7 := fun k hk => Nat.pow_le_pow_right (by decide) (by omega)
  refine CS_fn e0 18 rfl rfl (ps := [Str.ofString "a", Str.ofString "many", Str.ofString "w", Str.ofString "mul"]) (fun s => len4 rfl fun v_a v_many v_w v_mul => BindsTo.of_eq rfl) (by decide) rfl ?_ (by decide) rfl rfl rfl ?_
  · decide
  intro L
  dsimp only [fE, fO, newEnv, mkFd]
  repeat walk_at "m"
  refine BCall_cs ⟨_, _, _, rfl, cs_m_unit e0 w n hw hn.2, by decide, ?_⟩
  repeat walk_at "m"
  rw [hbb]
  repeat walk_at "m"
  have hk : ((bl : Int) - 1 - -1).toNat = bl := by omega
  refine ⟨fun i st' => Le ⟨[(Str.ofString "a", .t (EM w n n A)), (Str.ofString "many", .t (.int m)), (Str.ofString "w", .t (.int w)), (Str.ofString "mul", .t (.con (.ref 208))), (Str.ofString "found", .t (EM w n n (mpw n A (m / 2 ^ (bl - i)))))], []⟩ st', ?_, ?_, ?_⟩
  · dsimp only []
    rw [Nat.sub_zero, Nat.div_eq_of_lt hbl]
    walk_at "m.le"
  · rintro i st' hi hle
    rw [hk] at hi
    refine AT.weak ?_ (hle.set _ _)
    clear hle
    obtain ⟨j, hj⟩ : ∃ j, bl - i = j + 1 := ⟨bl - i - 1, by omega⟩
    have hj' : bl - (i + 1) = j := by omega
    have hjj : (bl : Int) - 1 - i = (j : Int) := by omega
    have hd : m / 2 ^ j = 2 * (m / 2 ^ (j + 1)) + m / 2 ^ j % 2 := by
      rw [Nat.pow_succ, ← Nat.div_div_eq_div_mul]; omega
    have hle : m / 2 ^ j ≤ m := Nat.div_le_self _ _
    try dsimp only []
    rw [hj, hj', hjj]
    generalize hp : m / 2 ^ (j + 1) = p at *
    have hbp : ∀ i j, i < n → j < n → (mpw n A p i j).natAbs ≤ 9 ^ 7 := fun i j hi hj => Nat.le_trans (mpw_abs hn.2 hA p i j hi hj) (hp9 p (by omega))
    have hbp2 : ∀ i j, i < n → j < n → (mpw n A (2 * p) i j).natAbs ≤ 9 ^ 7 := fun i j hi hj => Nat.le_trans (mpw_abs hn.2 hA _ i j hi hj) (hp9 _ (by omega))
    have hsq : EM w n n (mmul n (mpw n A p) (mpw n A p)) = EM w n n (mpw n A (2 * p)) := EM_congr fun i j hi hj => by rw [mpw_add A p i j hj p, show p + p = 2 * p by omega]
    repeat walk_at "m"
    refine BCall_cs ⟨_, _, _, rfl, cs_m_mul e0 w n (9 ^ 7) (9 ^ 7) _ _ hw hn (by decide) (by decide) hbp hbp, by decide, ?_⟩
    repeat walk_at "m"
    rw [hsq, shr_nat, bitAnd_m1]
    refine ite_beq (fun h => ?_) (fun h => ?_)
    · repeat walk_at "m"
      refine BCall_cs ⟨_, _, _, rfl, cs_m_mul e0 w n (9 ^ 7) 3 _ _ hw hn (by decide) (by decide) hbp2 hA, by decide, ?_⟩
      repeat walk_at "m"
      rw [show m / 2 ^ j = 2 * p + 1 by omega]
      walk_at "m.le"
    · repeat walk_at "m"
      rw [show m / 2 ^ j = 2 * p by omega]
      walk_at "m.le"
  · rintro st' hle
    refine AT.weak ?_ hle
    rw [hk, Nat.sub_self, Nat.pow_zero, Nat.div_one]
    repeat walk_at "m"
    rfl
end

/-! P12 -/

section
variable {wd : World} {base : Heap}
set_option maxHeartbeats 400000
/-- the run of the polynomial's making -/
structure FLeV (n : Nat) (A : Nat → Nat → Int) (M : Nat → Nat → Nat → Int) (q : Nat → Int) : Prop where
  m0 : M 0 = mI
  ms : ∀ t i j, i < n → j < n → M (t + 1) i j = mmul n A (M t) i j + (if i = j then -(q t) else 0)
  tr : ∀ t, t < n → isum n (fun i => mmul n A (M t) i i) = q t * ((t + 1 : Nat) : Int)
theorem FLeV.bound {n : Nat} {A : Nat → Nat → Int} {M : Nat → Nat → Nat → Int} {q : Nat → Int} (h : FLeV n A M q) (hn : n ≤ 3) (hA : ∀ i j, i < n → j < n → (A i j).natAbs ≤ 3) : ∀ t, t ≤ n → ∀ i j, i < n → j < n → (M t i j).natAbs ≤ 36 ^ t
  | 0, _, i, j, _, _ => by rw [h.m0]; exact mI_abs i j
  | t + 1, ht, i, j, hi, hj => by
    have hb : ∀ i j, i < n → j < n → (mmul n A (M t) i j).natAbs ≤ 9 * 36 ^ t := fun i j hi hj => by
      have h1 := mmul_abs (n := n) (U := 3) (W := 36 ^ t) (A := A) (B := M t) (i := i) (j := j) (fun k hk => hA i k hi hk) fun k hk => h.bound hn hA t (by omega) k j hk hj
      have h2 := Nat.mul_le_mul_right (3 * 36 ^ t) hn
      omega
    have h3 := isum_abs (k := n) (f := fun i => mmul n A (M t) i i) fun i hi => hb i i hi hi
    have h4 := Nat.mul_le_mul_right (9 * 36 ^ t) hn
    rw [h.tr t (by omega), Int.natAbs_mul] at h3
    have h5 : (q t).natAbs ≤ (q t).natAbs * (((t + 1 : Nat) : Int)).natAbs := Nat.le_mul_of_pos_right _ (by rw [Int.natAbs_natCast]; omega)
    have h6 := hb i j hi hj
    rw [h.ms t i j hi hj, Nat.pow_succ]
    split <;> omega
theorem FLeV.qb {n : Nat} {A : Nat → Nat → Int} {M : Nat → Nat → Nat → Int} {q : Nat → Int} (h : FLeV n A M q) (hn : n ≤ 3) (hA : ∀ i j, i < n → j < n → (A i j).natAbs ≤ 3) (t : Nat) (ht : t < n) : (q t).natAbs ≤ 27 * 36 ^ t := by
  have hb : ∀ i j, i < n → j < n → (mmul n A (M t) i j).natAbs ≤ 9 * 36 ^ t := fun i j hi hj => by
    have h1 := mmul_abs (n := n) (U := 3) (W := 36 ^ t) (A := A) (B := M t) (i := i) (j := j) (fun k hk => hA i k hi hk) fun k hk => h.bound hn hA t (by omega) k j hk hj
    have h2 := Nat.mul_le_mul_right (3 * 36 ^ t) hn
    omega
  have h3 := isum_abs (k := n) (f := fun i => mmul n A (M t) i i) fun i hi => hb i i hi hi
  have h4 := Nat.mul_le_mul_right (9 * 36 ^ t) hn
  rw [h.tr t (by omega), Int.natAbs_mul] at h3
  have h5 : (q t).natAbs ≤ (q t).natAbs * (((t + 1 : Nat) : Int)).natAbs := Nat.le_mul_of_pos_right _ (by rw [Int.natAbs_natCast]; omega)
  omega
theorem cs_characteristic (e0 : E0 wd base) (w n : Nat) (A : Nat → Nat → Int) (M : Nat → Nat → Nat → Int) (q : Nat → Int) (h : FLeV n A M q) (hw : 3 ≤ w ∧ w ≤ 8) (hn : 0 < n ∧ n ≤ 3) (hA : ∀ i j, i < n → j < n → (A i j).natAbs ≤ 3) :
    CS (GG wd base) 16 194 [EM w n n A, .int w, .con (.ref 208), .con (.ref 250)] (.lst (Z1 :: (List.range n).map fun t => EZ w (-(q t))).reverse) := by
  have hB : 2 ≤ 2 ^ w := two_pow_le (by omega)
  have hB8 : 2 ^ 3 ≤ 2 ^ w := Nat.pow_le_pow_right (by decide) hw.1
  have hp : ∀ t, t ≤ n → 36 ^ t ≤ 36 ^ 3 := fun t ht => Nat.pow_le_pow_right (by decide) (by omega)
  refine CS_fn e0 17 rfl rfl (ps := [Str.ofString "a", Str.ofString "w", Str.ofString "mul", Str.ofString "divrem"]) (fun s => len4 rfl fun v_a v_w v_mul v_divrem => BindsTo.of_eq rfl) (by decide) rfl ?_ (by decide) rfl rfl rfl ?_
  · decide
  intro L
  dsimp only [fE, fO, newEnv, mkFd]
  repeat walk_at "m"
  refine BCall_cs ⟨_, _, _, rfl, cs_m_unit e0 w n hw hn.2, by decide, ?_⟩
  repeat walk_at "m"
  have hk : ((n : Int) + 1 - 1).toNat = n := by omega
  refine ⟨fun i st' => Le ⟨[(Str.ofString "a", .t (EM w n n A)), (Str.ofString "w", .t (.int w)), (Str.ofString "mul", .t (.con (.ref 208))), (Str.ofString "divrem", .t (.con (.ref 250))), (Str.ofString "size", .t (.int n)), (Str.ofString "found", .m 0), (Str.ofString "made", .t (EM w n n (M i)))], [some (Z1 :: (List.range i).map fun t => EZ w (-(q t)))]⟩ st', ?_, ?_, ?_⟩
  · dsimp only []
    rw [h.m0]
    walk_at "m.le"
  · rintro i st' hi hle
    rw [hk] at hi
    refine AT.weak ?_ (hle.set _ _)
    clear hle
    have e1 : (1 : Int) + i = ((i + 1 : Nat) : Int) := by omega
    have hb := h.bound hn.2 hA i (by omega)
    have hp1 := hp i (by omega)
    have hqb := h.qb hn.2 hA i hi
    have hb' : ∀ a b, a < n → b < n → (mmul n A (M i) a b).natAbs ≤ 9 * 36 ^ 3 := fun a b ha hb' => by
      have h1 := mmul_abs (n := n) (U := 3) (W := 36 ^ i) (A := A) (B := M i) (i := a) (j := b) (fun k hk => hA a k ha hk) fun k hk => hb k b hk hb'
      have h2 := Nat.mul_le_mul_right (3 * 36 ^ i) hn.2
      omega
    dsimp only []
    rw [e1]
    repeat walk_at "m"
    refine BCall_cs ⟨_, _, _, rfl, cs_m_mul e0 w n 3 (36 ^ i) A (M i) hw hn (by decide) (by omega) hA hb, by decide, ?_⟩
    repeat walk_at "m"
    refine ⟨fun s st' => Le ⟨[(Str.ofString "a", .t (EM w n n A)), (Str.ofString "w", .t (.int w)), (Str.ofString "mul", .t (.con (.ref 208))), (Str.ofString "divrem", .t (.con (.ref 250))), (Str.ofString "size", .t (.int n)), (Str.ofString "found", .m 0), (Str.ofString "turn", .t (.int ((i + 1 : Nat) : Int))), (Str.ofString "led", .t (EM w n n (mmul n A (M i)))), (Str.ofString "total", .t (EZ w (isum s fun i_1 => mmul n A (M i) i_1 i_1)))], [some (Z1 :: (List.range i).map fun t => EZ w (-(q t)))]⟩ st', ?_, ?_, ?_⟩
    · dsimp only []
      rw [isum, EZ_zero]
      walk_at "m.le"
    · rintro s st' hs hle
      refine AT.weak ?_ (hle.set _ _)
      clear hle
      have h1 := isum_abs (k := s) (f := fun i_1 => mmul n A (M i) i_1 i_1) fun j hj => hb' j j (by omega) (by omega)
      have h2 := Nat.mul_le_mul_right (9 * 36 ^ 3) (show s ≤ 3 by omega)
      have h3 := hb' s s hs hs
      try dsimp only []
      repeat walk_at "m"
      refine BCall_cs ⟨_, _, _, rfl, cs_s_add e0 w _ _ hw (by omega) (by omega), by decide, ?_⟩
      repeat walk_at "m"
      walk_at "m.le"
    · rintro st' hle
      refine AT.weak ?_ hle
      clear hle
      rw [h.tr i hi]
      repeat walk_at "m"
      refine BCall_cs ⟨_, _, _, rfl, cs_s_of e0 w (i + 1) hw (by omega), by decide, ?_⟩
      repeat walk_at "m"
      refine BCall_cs ⟨_, _, _, rfl, cs_exact e0 w (i + 1) (q i) hw (by omega) (by omega), by decide, ?_⟩
      repeat walk_at "m"
      refine BCall_cs ⟨_, _, _, rfl, cs_s_neg e0 w (q i) hw (by omega), by decide, ?_⟩
      repeat walk_at "m"
      refine ⟨_, _, _, rfl, rfl, by simp; omega, ?_⟩
      rw [List.cons_append, show (List.range i).map (fun t => EZ w (-(q t))) ++ [EZ w (-(q i))] = (List.range (i + 1)).map (fun t => EZ w (-(q t))) by simp [List.range_succ]]
      repeat walk_at "m"
      refine CL.pureR [(Str.ofString "number", .t (EZ w (-(q i)))), (Str.ofString "w", .t (.int w))] (fun a => .lst ((List.range n).map fun b => EZ w (M (i + 1) a b))) (by walk_at "m.vis") (by omega) (fun a C ha => ?_) (fun _ _ _ _ h => (h.set _ _).set _ _) ?_
      · try dsimp only []
        repeat walk_at "m"
        refine CL.pureR [(Str.ofString "at", .t (.int a)), (Str.ofString "number", .t (EZ w (-(q i)))), (Str.ofString "w", .t (.int w))] (fun b => EZ w (M (i + 1) a b)) (by walk_at "m.vis") (by omega) (fun b C hbn => ?_) (fun _ _ _ _ h => (h.set _ _).set _ _) ?_
        · try dsimp only []
          have h3 := hb' a b ha hbn
          rw [h.ms i a b ha hbn]
          repeat walk_at "m"
          refine ite_beq (fun hab => ?_) (fun hab => ?_)
          · rw [if_pos (by omega)]
            repeat walk_at "m"
            refine BCall_cs ⟨_, _, _, rfl, cs_s_add e0 w _ _ hw (by omega) (by omega), by decide, ?_⟩
            exact ⟨rfl, by walk_at "m.le"⟩
          · rw [if_neg (by omega), Int.add_zero]
            repeat walk_at "m"
            walk_at "m.le"
        · exact ⟨rfl, by walk_at "m.le"⟩
      · repeat walk_at "m"
        walk_at "m.le"
  · rintro st' hle
    rw [hk] at hle
    refine AT.weak ?_ hle
    clear hle
    repeat walk_at "m"
    refine ⟨⟨_, rfl⟩, rfl, by simp; omega, ?_⟩
    repeat walk_at "m"
    rfl
end

/-! P13 -/

section
variable {wd : World} {base : Heap}
set_option maxHeartbeats 400000
theorem cs_law_limbs (e0 : E0 wd base) (w n : Nat) (hw : 3 ≤ w ∧ w ≤ 8) (hn : n < 2 ^ 200) : CS (GG wd base) 2 264 [.int n, .int w] (D w n) := by
  refine CS_fn e0 23 rfl rfl (ps := [Str.ofString "number", Str.ofString "w"]) (fun s => len2 rfl fun v_number v_w => BindsTo.of_eq rfl) (by decide) rfl ?_ (by decide) rfl rfl rfl ?_
  · decide
  intro L
  dsimp only [fE, fO, newEnv, mkFd]
  have hB : 2 ≤ 2 ^ w := two_pow_le (by omega)
  have hP8 : 2 ^ w ≤ 2 ^ 8 := Nat.pow_le_pow_right (by omega) hw.2
  have hL := dg_len_small hB hn
  have e2 : (2 : Int) ^ ((w : Int)).toNat = ((2 ^ w : Nat) : Int) := by simp
  have h0' : (0 : Int) < 2 ^ ((w : Int)).toNat := by rw [e2]; omega
  have h1' : (2 : Int) ^ ((w : Int)).toNat < 2 ^ 64 := by rw [e2]; omega
  repeat walk_at "m"
  refine AX_while (fun m st' => ∃ xs, Le ⟨[(Str.ofString "number", .t (.int m)), (Str.ofString "w", .t (.int w)), (Str.ofString "found", .m 0)], [some (LN xs)]⟩ st' ∧ xs ++ dg (2 ^ w) m = dg (2 ^ w) n) n ⟨[], by walk_at "m.le", rfl⟩ ?_
  rintro m st' ⟨xs, hle, hx⟩
  refine AT.weak ?_ hle
  repeat walk_at "m"
  refine ite_dec (fun h0 => ?_) (fun h0 => ?_)
  · have hm : 0 < m := by omega
    rw [dg_pos hB hm] at hx
    have hlen := congrArg List.length hx
    simp only [List.length_append, List.length_cons] at hlen
    repeat walk_at "m"
    rw [e2, nmod]
    refine ⟨_, _, _, rfl, rfl, by rw [LN_length]; omega, ?_⟩
    repeat walk_at "m"
    rw [e2, ndiv]
    refine ⟨m / 2 ^ w, Nat.div_lt_self hm hB, xs ++ [m % 2 ^ w], ?_, by rw [List.append_assoc]; exact hx⟩
    rw [LN_snoc]
    walk_at "m.le"
  · repeat walk_at "m"
    have hm : m = 0 := by omega
    rw [hm, dg_zero, List.append_nil] at hx
    rw [hx]
theorem cs_law_signed (e0 : E0 wd base) (w k : Nat) (hw : 3 ≤ w ∧ w ≤ 8) (hk : k < 2 ^ 200) : CS (GG wd base) 4 271 [.int k, .int w] (EZ w k) := by
  refine CS_fn e0 24 rfl rfl (ps := [Str.ofString "number", Str.ofString "w"]) (fun s => len2 rfl fun v_number v_w => BindsTo.of_eq rfl) (by decide) rfl ?_ (by decide) rfl rfl rfl ?_
  · decide
  intro L
  dsimp only [fE, fO, newEnv, mkFd]
  repeat walk_at "m"
  refine BCall_abs ?_
  repeat walk_at "m"
  rw [if_neg (by omega)]
  refine BCall_cs ⟨_, _, _, rfl, cs_law_limbs e0 w k hw hk, by decide, ?_⟩
  repeat walk_at "m"
  rfl
/-! trees that may be asked after -/
noncomputable def okT : Nat → T → Bool
  | _, .none => true
  | _, .bool _ => true
  | _, .int _ => true
  | _, .con _ => false
  | 0, .tup _ => false
  | 0, .lst _ => false
  | k + 1, .tup l => l.all (okT k)
  | k + 1, .lst l => l.all (okT k)
theorem okT_all {k : Nat} (ih : ∀ x, okT k x = true → noCon x = true ∧ (toPy x).canLay0 = true ∧ (toPy x).depth ≤ k) : ∀ l : List T, l.all (okT k) = true → noCons l = true ∧ PyData.canLayAll0 (toPys l) = true ∧ PyData.depthAll (toPys l) ≤ k
  | [], _ => ⟨rfl, rfl, Nat.zero_le _⟩
  | x :: l, h => by
    rw [List.all_cons, Bool.and_eq_true] at h
    obtain ⟨a, b, c⟩ := ih x h.1
    obtain ⟨a', b', c'⟩ := okT_all ih l h.2
    refine ⟨by simp only [noCons, a, a', Bool.and_self], by simp only [toPys, PyData.canLayAll0, b, b', Bool.and_self], ?_⟩
    simp only [toPys, PyData.depthAll]
    omega
theorem okT_ok : ∀ (k : Nat) (x : T), okT k x = true → noCon x = true ∧ (toPy x).canLay0 = true ∧ (toPy x).depth ≤ k
  | k, .none, _ => ⟨rfl, rfl, by simp [toPy, PyData.depth]⟩
  | k, .bool _, _ => ⟨rfl, rfl, by simp [toPy, PyData.depth]⟩
  | k, .int _, _ => ⟨rfl, rfl, by simp [toPy, PyData.depth]⟩
  | k, .con _, h => by cases k <;> simp [okT] at h
  | 0, .tup _, h => by simp [okT] at h
  | 0, .lst _, h => by simp [okT] at h
  | k + 1, .tup l, h => by
    obtain ⟨a, b, c⟩ := okT_all (okT_ok k) l (by simpa [okT] using h)
    exact ⟨by simpa [noCon] using a, by simpa [toPy, PyData.canLay0] using b, by simp only [toPy, PyData.depth]; omega⟩
  | k + 1, .lst l, h => by
    obtain ⟨a, b, c⟩ := okT_all (okT_ok k) l (by simpa [okT] using h)
    exact ⟨by simpa [noCon] using a, by simpa [toPy, PyData.canLay0] using b, by simp only [toPy, PyData.depth]; omega⟩
theorem okT_data {k : Nat} {x : T} (h : okT k x = true) (hk : k ≤ 64) : dataOk x = true := by
  obtain ⟨a, b, c⟩ := okT_ok k x h
  simp only [dataOk, SeqAt.shaped, a, b, Bool.true_and, decide_eq_true_eq]
  omega
theorem okT_self {k : Nat} {x : T} (h : okT k x = true) : (toPy x).eqv (toPy x) = true := SeqAt.eqv_refl _ (okT_ok k x h).2.1
theorem okT_LN (k : Nat) (xs : List Nat) : okT (k + 1) (.lst (LN xs)) = true := by
  simp only [okT, LN, List.all_map, List.all_eq_true]
  intro x _
  cases k <;> rfl
theorem okT_EZ (k w : Nat) (z : Int) : okT (k + 2) (EZ w z) = true := by
  show ([T.bool (decide (z < 0)), D w z.natAbs].all (okT (k + 1))) = true
  rw [List.all_cons, List.all_cons, List.all_nil, okT_LN k]
  rfl
theorem okT_rg {k n : Nat} {f : Nat → T} (h : ∀ i, okT k (f i) = true) : okT (k + 1) (.lst ((List.range n).map f)) = true := by
  simp only [okT, List.all_map, List.all_eq_true]
  intro x _
  exact h x
theorem okT_EM (w k m : Nat) (A : Nat → Nat → Int) : okT 4 (EM w k m A) = true := okT_rg fun i => okT_rg fun j => okT_EZ 0 w _
theorem CmpT.self {x : T} {k : Nat} (h : okT k x = true) (hk : k ≤ 64) : CmpT .Eq x x true := by
  have := CmpT.eqT (okT_data h hk) (okT_data h hk)
  rwa [okT_self h] at this
theorem CmpT.nself {x : T} {k : Nat} (h : okT k x = true) (hk : k ≤ 64) : CmpT .NotEq x x false := by
  have := CmpT.neT (okT_data h hk) (okT_data h hk)
  rwa [okT_self h] at this
/-! the law's own sums -/
theorem cs_law_fits (e0 : E0 wd base) (w n s : Nat) (p c : Nat → Int) (hw : 3 ≤ w ∧ w ≤ 8) (hn : 0 < n ∧ n ≤ 3) (hs : 0 < s ∧ s ≤ 6) (hp : ∀ i, i ≤ s → (p i).natAbs < 2 ^ 40) (hc : ∀ i, i ≤ n → (c i).natAbs < 2 ^ 40)
    (h : p s + isum (min (s - 1) n) (fun i => c (n - 1 - i) * p (s - 1 - i)) + (if s ≤ n then c (n - s) * s else 0) = 0) :
    CS (GG wd base) 8 285 [.lst ((List.range s).map fun i => EZ w (p (i + 1))), .lst ((List.range (n + 1)).map fun i => EZ w (c i)), .int s, .int n, .int w] (.bool true) := by
  refine CS_fn e0 26 rfl rfl (ps := [Str.ofString "sums", Str.ofString "told", Str.ofString "steps", Str.ofString "size", Str.ofString "w"]) (fun s => len5 rfl fun v_sums v_told v_steps v_size v_w => BindsTo.of_eq rfl) (by decide) rfl ?_ (by decide) rfl rfl rfl ?_
  · decide
  intro L
  dsimp only [fE, fO, newEnv, mkFd]
  repeat walk_at "m"
  have e1 : (s : Int) - 1 = ((s - 1 : Nat) : Int) := by omega
  rw [e1]
  repeat walk_at "m"
  rw [show s - 1 + 1 = s by omega]
  repeat walk_at "m"
  refine BCall_min ?_
  repeat walk_at "m"
  have hmin : ((if (n : Int) < (s : Int) - 1 then (n : Int) else (s : Int) - 1) + 1 - 1).toNat = min (s - 1) n := by split <;> omega
  have hcp : ∀ i j, i ≤ n → j ≤ s → (c i * p j).natAbs < 2 ^ 80 := fun i j hi hj => by
    rw [Int.natAbs_mul]
    exact Nat.lt_of_lt_of_le (Nat.mul_lt_mul'' (hc i hi) (hp j hj)) (by decide)
  have hps := hp s (Nat.le_refl _)
  refine ⟨fun i st' => Le ⟨[(Str.ofString "sums", .t (.lst ((List.range s).map fun i => EZ w (p (i + 1))))), (Str.ofString "told", .t (.lst ((List.range (n + 1)).map fun i => EZ w (c i)))), (Str.ofString "steps", .t (.int s)), (Str.ofString "size", .t (.int n)), (Str.ofString "w", .t (.int w)), (Str.ofString "found", .t (EZ w (p s + isum i (fun i => c (n - 1 - i) * p (s - 1 - i)))))], []⟩ st', ?_, ?_, ?_⟩
  · dsimp only []
    rw [isum, Int.add_zero]
    walk_at "m.le"
  · rintro i st' hi hle
    rw [hmin] at hi
    refine AT.weak ?_ (hle.set _ _)
    clear hle
    have e2 : (n : Int) - (1 + i) = ((n - 1 - i : Nat) : Int) := by omega
    have e3 : (s : Int) - 1 - (1 + i) = ((s - 2 - i : Nat) : Int) := by omega
    have h1 := isum_abs (k := i) (U := 2 ^ 80) (f := fun i => c (n - 1 - i) * p (s - 1 - i)) fun j hj => Nat.le_of_lt (hcp _ _ (by omega) (by omega))
    have h2 := Nat.mul_le_mul_right (2 ^ 80) (show i ≤ 3 by omega)
    have h3 := hcp (n - 1 - i) (s - 1 - i) (by omega) (by omega)
    have h4 := hc (n - 1 - i) (by omega)
    have h5 := hp (s - 1 - i) (by omega)
    dsimp only []
    repeat walk_at "m"
    rw [e2]
    repeat walk_at "m"
    rw [e3]
    repeat walk_at "m"
    rw [show s - 2 - i + 1 = s - 1 - i by omega]
    refine BCall_cs ⟨_, _, _, rfl, cs_s_mul e0 w _ _ hw (by omega) (by omega), by decide, ?_⟩
    repeat walk_at "m"
    refine BCall_cs ⟨_, _, _, rfl, cs_s_add e0 w _ _ hw (by omega) (by omega), by decide, ?_⟩
    repeat walk_at "m"
    rw [isum, ← Int.add_assoc]
    walk_at "m.le"
  · rintro st' hle
    refine AT.weak ?_ hle
    clear hle
    rw [hmin]
    have h1 := isum_abs (k := min (s - 1) n) (U := 2 ^ 80) (f := fun i => c (n - 1 - i) * p (s - 1 - i)) fun j hj => Nat.le_of_lt (hcp _ _ (by omega) (by omega))
    have h2 := Nat.mul_le_mul_right (2 ^ 80) (show min (s - 1) n ≤ 3 by omega)
    generalize hS : isum (min (s - 1) n) (fun i => c (n - 1 - i) * p (s - 1 - i)) = S at *
    refine AX_ifM (fun st' => Le ⟨[(Str.ofString "found", .t Z0)], []⟩ st') ?_ ?_
    · repeat walk_at "m"
      refine ite_dec (fun q => ?_) (fun q => ?_)
      · have e2 : (n : Int) - s = ((n - s : Nat) : Int) := by omega
        rw [if_pos (by omega)] at h
        have h3 := hc (n - s) (by omega)
        have h4 : (c (n - s) * (s : Int)).natAbs < 2 ^ 80 := by
          rw [Int.natAbs_mul]
          exact Nat.lt_of_lt_of_le (Nat.mul_lt_mul'' h3 (show ((s : Int)).natAbs < 2 ^ 40 by omega)) (by decide)
        repeat walk_at "m"
        rw [e2]
        repeat walk_at "m"
        refine BCall_cs ⟨_, _, _, rfl, cs_law_signed e0 w s hw (by omega), by decide, ?_⟩
        repeat walk_at "m"
        refine BCall_cs ⟨_, _, _, rfl, cs_s_mul e0 w _ _ hw (by omega) (by omega), by decide, ?_⟩
        repeat walk_at "m"
        refine BCall_cs ⟨_, _, _, rfl, cs_s_add e0 w _ _ hw (by omega) (by omega), by decide, ?_⟩
        repeat walk_at "m"
        rw [h, EZ_zero]
        walk_at "m.le"
      · rw [if_neg (by omega), Int.add_zero] at h
        repeat walk_at "m"
        rw [h, EZ_zero]
        walk_at "m.le"
    · rintro st' hle
      refine AT.weak ?_ hle
      repeat walk_at "m"
      refine ⟨_, _, true, rfl, rfl, CmpT.self (k := 2) rfl (by decide), ?_⟩
      repeat walk_at "m"
      rfl
theorem rg_set {f : Nat → Int} {n t : Nat} {x : Int} (ht : t < n) : ((List.range n).map fun j => T.int (f j)).set t (.int x) = (List.range n).map fun j => T.int (if j = t then x else f j) := by
  apply List.ext_getElem?
  intro k
  by_cases hk : k < n
  · by_cases q : t = k
    · subst q; simp [hk]
    · rw [List.getElem?_set_ne q, rg_get hk, rg_get hk, if_neg fun r => q r.symm]
  · simp [hk]
theorem rg_setI {f : Nat → Int} {n t : Nat} {x : Int} (ht : t < n) : ((List.range n).map fun j => T.int (f j)).set ((t : Nat) : Int).toNat (.int x) = (List.range n).map fun j => T.int (if j = t then x else f j) := rg_set ht
theorem walk_step {n t : Nat} (S S' : Nat → Int) (x : Int) (h : S' t = S t + x) : ((List.range n).map fun j => T.int (if j = t then (if t < t then S' t else S t) + x else if j < t then S' j else S j)) = (List.range n).map fun j => T.int (if j < t + 1 then S' j else S j) :=
  List.map_congr_left fun j _ => by
    by_cases q : j = t
    · subst q; rw [if_pos rfl, if_neg (Nat.lt_irrefl _), if_pos (Nat.lt_succ_self _), h]
    · rw [if_neg q]
      by_cases r : j < t
      · rw [if_pos r, if_pos (by omega)]
      · rw [if_neg r, if_neg (by omega)]
theorem seq_last {r : List (Str × V)} {x : Option (List T)} {K : List (Option (List T))} {l : List T} : seqOf (.m (K.length + 1)) ⟨r, x :: (K ++ [some l])⟩ = some l := by simp [seqOf]
theorem get_last {x : Option (List T)} {K : List (Option (List T))} {l : List T} : (x :: (K ++ [some l]))[K.length + 1]? = some (some l) := by simp
theorem set_last {x y z : Option (List T)} {K : List (Option (List T))} : (x :: (K ++ [y])).set (K.length + 1) z = x :: (K ++ [z]) := by simp
theorem freeze_last {r : List (Str × V)} {x : Option (List T)} {K : List (Option (List T))} {l : List T} : freeze1 (.m (K.length + 1)) ⟨r, x :: (K ++ [some l])⟩ = some (.lst l, ⟨r, x :: (K ++ [none])⟩) := by
  simp [freeze1]
theorem snoc_get {L : List (Option (List T))} {x : Option (List T)} : (L ++ [x])[L.length]? = some x := by simp
noncomputable abbrev IR (n : Nat) (g : Nat → Int) : T := .lst ((List.range n).map fun j => .int (g j))
noncomputable abbrev IM (n : Nat) (A : Nat → Nat → Int) : T := .lst ((List.range n).map fun i => .lst ((List.range n).map fun j => .int (A i j)))
theorem IR_zero (n : Nat) : List.replicate ((n : Nat) : Int).toNat (T.int 0) = (List.range n).map fun _ => T.int 0 := by
  rw [Int.toNat_natCast, List.map_const', List.length_range]
theorem cs_law_walked (e0 : E0 wd base) (n : Nat) (A B : Nat → Nat → Int) (hn : 0 < n ∧ n ≤ 3) (hB : ∀ i j, i < n → j < n → (B i j).natAbs < 2 ^ 60) :
    CS (GG wd base) 3 278 [IM n A, IM n B] (IM n (mmul n B A)) := by
  refine CS_fn e0 25 rfl rfl (ps := [Str.ofString "web", Str.ofString "ways"]) (fun s => len2 rfl fun v_web v_ways => BindsTo.of_eq rfl) (by decide) rfl ?_ (by decide) rfl rfl rfl ?_
  · decide
  intro L
  dsimp only [fE, fO, newEnv, mkFd]
  repeat walk_at "m"
  refine FL.ofR (fun i st' => ∃ K, Le ⟨[(Str.ofString "web", .t (IM n A)), (Str.ofString "ways", .t (IM n B)), (Str.ofString "found", .m 0)], some ((List.range i).map fun i => IR n (mmul n B A i)) :: K⟩ st') ⟨[], by walk_at "m.le"⟩ ?_ ?_
  · rintro i st' hi ⟨K, hle⟩
    refine AT.weak ?_ (hle.set _ _)
    clear hle
    try dsimp only []
    repeat walk_at "m"
    refine ⟨_, _, _, rfl, snoc_get, rfl, by omega, by omega, ?_⟩
    rw [IR_zero]
    repeat walk_at "m"
    generalize hfs : ((List.range i).map fun i => IR n (mmul n B A i)) = fs
    have hfl : fs.length ≤ 3 := by rw [← hfs]; simp; omega
    refine ⟨fun h st' => Le ⟨[(Str.ofString "web", .t (IM n A)), (Str.ofString "ways", .t (IM n B)), (Str.ofString "found", .m 0), (Str.ofString "row", .t (IR n (B i))), (Str.ofString "later", .m ((K ++ [some [T.int 0]]).length + 1))], some fs :: ((K ++ [some [T.int 0]]) ++ [some ((List.range n).map fun j => T.int (isum h fun k => B i k * A k j))])⟩ st', ?_, ?_, ?_⟩
    · rw [← hfs]
      walk_at "m.le"
    · generalize K ++ [some [T.int 0]] = K2
      rintro h st' hh hle
      refine AT.weak ?_ (hle.set _ _)
      clear hle
      have hBh := hB i h hi hh
      try dsimp only []
      repeat walk_at "m"
      refine ⟨fun t st' => Le ⟨[(Str.ofString "web", .t (IM n A)), (Str.ofString "ways", .t (IM n B)), (Str.ofString "found", .m 0), (Str.ofString "row", .t (IR n (B i))), (Str.ofString "here", .t (.int h)), (Str.ofString "later", .m (K2.length + 1))], some fs :: (K2 ++ [some ((List.range n).map fun j => T.int (if j < t then isum (h + 1) (fun k => B i k * A k j) else isum h fun k => B i k * A k j))])⟩ st', ?_, ?_, ?_⟩
      · simp only [Nat.not_lt_zero, if_false]
        walk_at "m.le"
      · rintro t st' ht hle
        refine AT.weak ?_ (hle.set _ _)
        clear hle
        try dsimp only []
        repeat walk_at "m"
        refine ⟨_, _, _, seq_last, rfl, by omega, by omega, rg_getI ht, ?_⟩
        repeat walk_at "m"
        refine ⟨_, _, _, _, rfl, rfl, get_last, rfl, by omega, by rw [rg_len]; omega, by omega, ?_⟩
        rw [rg_setI ht]
        have hw := walk_step (n := n) (t := t) (fun j => isum h fun k => B i k * A k j) (fun j => isum (h + 1) fun k => B i k * A k j) (B i h * A h t) rfl
        try dsimp only [] at hw
        rw [hw]
        repeat walk_at "m"
        refine SubR.le ?_ ?_
        · repeat' first | exact SubR.nil | refine SubR.cons rfl rfl ?_
        · exact set_last.symm
      · rintro st' hle
        refine AT.weak ?_ hle
        clear hle
        have hw : ((List.range n).map fun j => T.int (if j < n then isum (h + 1) (fun k => B i k * A k j) else isum h fun k => B i k * A k j)) = (List.range n).map fun j => T.int (isum (h + 1) fun k => B i k * A k j) :=
          List.map_congr_left fun j hj => by rw [if_pos (List.mem_range.mp hj)]
        rw [hw]
        repeat walk_at "m"
        walk_at "m.le"
    · generalize K ++ [some [T.int 0]] = K2
      rintro st' hle
      refine AT.weak ?_ hle
      clear hle
      repeat walk_at "m"
      refine ⟨_, _, _, freeze_last, rfl, by omega, ?_⟩
      repeat walk_at "m"
      refine ⟨K2 ++ [none], ?_⟩
      have hr : (List.range (i + 1)).map (fun i => IR n (mmul n B A i)) = fs ++ [IR n (mmul n B A i)] := by rw [← hfs]; simp [List.range_succ]
      rw [hr]
      walk_at "m.le"
  · rintro st' ⟨K, hle⟩
    refine AT.weak ?_ hle
    repeat walk_at "m"
    rfl
end

/-! Q2 -/
section
/-! the polynomial of a small table -/
noncomputable def qn (n : Nat) (A : Nat → Nat → Int) (t : Nat) : Int :=
  match n, t with
  | 1, 0 => A 0 0
  | 2, 0 => A 0 0 + A 1 1
  | 2, 1 => A 0 1 * A 1 0 - A 0 0 * A 1 1
  | 3, 0 => A 0 0 + A 1 1 + A 2 2
  | 3, 1 => A 0 1 * A 1 0 + A 0 2 * A 2 0 + A 1 2 * A 2 1 - A 0 0 * A 1 1 - A 0 0 * A 2 2 - A 1 1 * A 2 2
  | 3, 2 => A 0 0 * (A 1 1 * A 2 2 - A 1 2 * A 2 1) - A 0 1 * (A 1 0 * A 2 2 - A 1 2 * A 2 0) + A 0 2 * (A 1 0 * A 2 1 - A 1 1 * A 2 0)
  | _, _ => 0
noncomputable def Mn (n : Nat) (A : Nat → Nat → Int) : Nat → Nat → Nat → Int
  | 0 => mI
  | t + 1 => fun i j => mmul n A (Mn n A t) i j + (if i = j then -(qn n A t) else 0)
theorem fl_ev {n : Nat} (A : Nat → Nat → Int) (hn : 0 < n ∧ n ≤ 3) : FLeV n A (Mn n A) (qn n A) where
  m0 := rfl
  ms := fun _ _ _ _ _ => rfl
  tr := by
    intro t ht
    obtain rfl | rfl | rfl : n = 1 ∨ n = 2 ∨ n = 3 := by omega
    · obtain rfl : t = 0 := by omega
      simp [isum, mmul, Mn, mI, qn]
    · obtain rfl | rfl : t = 0 ∨ t = 1 := by omega
      · simp [isum, mmul, Mn, mI, qn]
      · simp [isum, mmul, Mn, mI, qn]
        grind
    · obtain rfl | rfl | rfl : t = 0 ∨ t = 1 ∨ t = 2 := by omega
      · simp [isum, mmul, Mn, mI, qn]
      · simp [isum, mmul, Mn, mI, qn]
        grind
      · simp [isum, mmul, Mn, mI, qn]
        grind
noncomputable def cn (n : Nat) (A : Nat → Nat → Int) (i : Nat) : Int := if i = n then 1 else -(qn n A (n - 1 - i))
noncomputable def ptr (n : Nat) (A : Nat → Nat → Int) (k : Nat) : Int := isum n fun i => mpw n A k i i
theorem newton_low {n s : Nat} (A : Nat → Nat → Int) (hn : 0 < n ∧ n ≤ 3) (hs : 0 < s ∧ s ≤ n) : ptr n A s + isum (min (s - 1) n) (fun i => cn n A (n - 1 - i) * ptr n A (s - 1 - i)) + (if s ≤ n then cn n A (n - s) * s else 0) = 0 := by
  obtain rfl | rfl | rfl : n = 1 ∨ n = 2 ∨ n = 3 := by omega
  · obtain rfl : s = 1 := by omega
    simp [isum, mmul, mpw, mI, qn, cn, ptr]
    try grind
  · obtain rfl | rfl : s = 1 ∨ s = 2 := by omega
    · simp [isum, mmul, mpw, mI, qn, cn, ptr]
      try grind
    · simp [isum, mmul, mpw, mI, qn, cn, ptr]
      try grind
  · obtain rfl | rfl | rfl : s = 1 ∨ s = 2 ∨ s = 3 := by omega
    · simp [isum, mmul, mpw, mI, qn, cn, ptr]
      try grind
    · simp [isum, mmul, mpw, mI, qn, cn, ptr]
      try grind
    · simp [isum, mmul, mpw, mI, qn, cn, ptr]
      try grind

end
/-! Q3 -/
section
theorem cayley {n i j : Nat} (A : Nat → Nat → Int) (hn : 0 < n ∧ n ≤ 3) (hi : i < n) (hj : j < n) : mpw n A n i j + isum n (fun t => cn n A (n - 1 - t) * mpw n A (n - 1 - t) i j) = 0 := by
  obtain rfl | rfl | rfl : n = 1 ∨ n = 2 ∨ n = 3 := by omega
  · obtain rfl : i = 0 := by omega
    obtain rfl : j = 0 := by omega
    simp [isum, mmul, mpw, mI, qn, cn]
    try grind
  · obtain rfl | rfl : i = 0 ∨ i = 1 := by omega
    all_goals obtain rfl | rfl : j = 0 ∨ j = 1 := by omega
    all_goals simp [isum, mmul, mpw, mI, qn, cn]
    all_goals grind
  · obtain rfl | rfl | rfl : i = 0 ∨ i = 1 ∨ i = 2 := by omega
    all_goals obtain rfl | rfl | rfl : j = 0 ∨ j = 1 ∨ j = 2 := by omega
    all_goals simp [isum, mmul, mpw, mI, qn, cn]
    all_goals grind
theorem ptr_add {n : Nat} (A : Nat → Nat → Int) (a r : Nat) : ptr n A (a + r) = isum n fun i => isum n fun k => mpw n A a i k * mpw n A r k i :=
  isum_congr fun i hi => (mpw_add A a i i hi r).symm
theorem newton_high {n r : Nat} (A : Nat → Nat → Int) (hn : 0 < n ∧ n ≤ 3) (hr : 0 < r) : ptr n A (n + r) + isum n (fun t => cn n A (n - 1 - t) * ptr n A (n + r - 1 - t)) = 0 := by
  have e1 : isum n (fun t => cn n A (n - 1 - t) * ptr n A (n + r - 1 - t)) = isum n fun i => isum n fun k => isum n (fun t => cn n A (n - 1 - t) * mpw n A (n - 1 - t) i k) * mpw n A r k i := by
    have h1 : isum n (fun t => cn n A (n - 1 - t) * ptr n A (n + r - 1 - t)) = isum n fun t => isum n fun i => isum n fun k => (cn n A (n - 1 - t) * mpw n A (n - 1 - t) i k) * mpw n A r k i :=
      isum_congr fun t ht => by
        rw [show n + r - 1 - t = (n - 1 - t) + r by omega, ptr_add, ← isum_lmul]
        refine isum_congr fun i _ => ?_
        rw [← isum_lmul]
        exact isum_congr fun k _ => (Int.mul_assoc _ _ _).symm
    rw [h1, isum_swap]
    refine isum_congr fun i _ => ?_
    rw [isum_swap]
    exact isum_congr fun k _ => isum_mul _ _ _
  rw [e1, ptr_add, ← isum_add, ← isum_zero n]
  refine isum_congr fun i hi => ?_
  rw [← isum_add, ← isum_zero n]
  refine isum_congr fun k hk => ?_
  rw [← Int.add_mul, cayley A hn hi hk, Int.zero_mul]
theorem newton {n s : Nat} (A : Nat → Nat → Int) (hn : 0 < n ∧ n ≤ 3) (hs : 0 < s) : ptr n A s + isum (min (s - 1) n) (fun i => cn n A (n - 1 - i) * ptr n A (s - 1 - i)) + (if s ≤ n then cn n A (n - s) * s else 0) = 0 := by
  by_cases h : s ≤ n
  · exact newton_low A hn ⟨hs, h⟩
  · obtain ⟨r, rfl⟩ : ∃ r, s = n + r := ⟨s - n, by omega⟩
    rw [if_neg h, show min (n + r - 1) n = n by omega, Int.add_zero]
    exact newton_high A hn (by omega)
theorem ptr_abs {n : Nat} {A : Nat → Nat → Int} (hn : n ≤ 3) (hA : ∀ i j, i < n → j < n → (A i j).natAbs ≤ 3) {k : Nat} (hk : k ≤ 6) : (ptr n A k).natAbs < 2 ^ 40 := by
  have h1 := isum_abs (k := n) (f := fun i => mpw n A k i i) fun i hi => mpw_abs hn hA k i i hi hi
  have h2 : 9 ^ k ≤ 9 ^ 6 := Nat.pow_le_pow_right (by decide) hk
  have h3 := Nat.mul_le_mul hn h2
  show (isum n fun i => mpw n A k i i).natAbs < _
  omega
theorem cn_abs {n : Nat} {A : Nat → Nat → Int} (hn : 0 < n ∧ n ≤ 3) (hA : ∀ i j, i < n → j < n → (A i j).natAbs ≤ 3) {i : Nat} (hi : i ≤ n) : (cn n A i).natAbs < 2 ^ 40 := by
  unfold cn
  split
  · decide
  · have h1 := (fl_ev A hn).qb hn.2 hA (n - 1 - i) (by omega)
    have h2 : 36 ^ (n - 1 - i) ≤ 36 ^ 2 := Nat.pow_le_pow_right (by decide) (by omega)
    omega
/-- what characteristic tells -/
theorem told_eq {n w : Nat} (A : Nat → Nat → Int) (hn : 0 < n ∧ n ≤ 3) (hw : 3 ≤ w) : (Z1 :: (List.range n).map fun t => EZ w (-(qn n A t))).reverse = (List.range (n + 1)).map fun i => EZ w (cn n A i) := by
  rw [← EZ_one hw]
  obtain rfl | rfl | rfl : n = 1 ∨ n = 2 ∨ n = 3 := by omega
  · rfl
  · rfl
  · rfl

end
/-! P14 -/

section
variable {wd : World} {base : Heap}
set_option maxHeartbeats 400000
/-- what the loom gives next -/
noncomputable def wov (ts : List Int) (k : Nat) (many : Int) : Int :=
  if k < ts.length then ts.getD k 0 % many else (7 * ((k : Int) + 1) + ((k : Int) + 1) / 3 + 5) % many
theorem wov_lt (ts : List Int) (k : Nat) {many : Int} (h : 0 < many) : 0 ≤ wov ts k many ∧ wov ts k many < many := by
  unfold wov
  split
  · exact ⟨Int.emod_nonneg _ (by omega), Int.emod_lt_of_pos _ h⟩
  · exact ⟨Int.emod_nonneg _ (by omega), Int.emod_lt_of_pos _ h⟩
theorem bc_woven (e0 : E0 wd base) {n : Nat} {env : Env} {oc : List (Str × Addr)} {st : St} {Φ : V → St → Prop} {i k : Nat} {ts : List Int} {many : Int} (hk : k < 1000) (hts : ts.length ≤ 1000) (hm : 0 < many)
    (hl : st.H[i]? = some (some [.int k, .lst (ts.map .int)])) (hn : 3 ≤ n)
    (hΦ : Φ (.t (.int (wov ts k many))) ⟨st.r, st.H.set i (some [.int ((k + 1 : Nat) : Int), .lst (ts.map .int)])⟩) : BCall (GG wd base) n env oc (.ref 257) [.m i, .t (.int many)] Φ st := by
  obtain ⟨n', rfl⟩ : ∃ n', n = n' + 1 := ⟨n - 1, by omega⟩
  have htl : (ts.map T.int).length = ts.length := by simp
  obtain ⟨⟨o, ho, hd⟩, hc⟩ := e0.K.fnAt (j := 22) rfl rfl
  refine BCall_share (p := Str.ofString "loom") (q := Str.ofString "many") (c := [.int k, .lst (ts.map .int)]) ho hd rfl rfl hc e0.lim (fun s => len2 rfl fun v_a v_b => BindsTo.of_eq rfl) (by decide) ?_ (by decide) rfl rfl rfl hl rfl ?_ hΦ
  · decide
  intro L
  dsimp only [fE, fO, newEnv, mkFd]
  repeat walk_at "m"
  refine ⟨_, _, _, _, rfl, rfl, rfl, rfl, by decide, by show (0 : Int) < 2; decide, by decide, ?_⟩
  repeat walk_at "m"
  refine BCall_len rfl (by rw [htl]; omega) ?_
  repeat walk_at "m"
  rw [htl]
  refine ite_dec (fun h => ?_) (fun h => ?_)
  · repeat walk_at "m"
    refine ⟨_, _, _, rfl, rfl, by omega, by omega, (by rw [show ((k : Int) + 1 - 1).toNat = k by omega, List.getElem?_map, List.getElem?_eq_getElem (show k < ts.length by omega)]; rfl), ?_⟩
    repeat walk_at "m"
    refine ⟨?_, rfl⟩
    rw [wov, if_pos (by omega), List.getD_eq_getElem?_getD, List.getElem?_eq_getElem (show k < ts.length by omega)]
    rfl
  · repeat walk_at "m"
    refine ⟨?_, rfl⟩
    rw [wov, if_neg (by omega)]
end

/-! P15 -/

section
variable {wd : World} {base : Heap}
set_option maxHeartbeats 1000000
/-- the loom's numbers -/
noncomputable def tsOf (ns : List Int) : List Int := (ns.take 12).map fun i => if i < 0 then -i else i
theorem ts_out (ms : List Int) (f : Int → Int) : (List.range (ms.map T.int).length).map (fun i => T.int (f (ms.getD i 0))) = (ms.map f).map T.int := by
  apply List.ext_getElem
  · simp
  · intro i h1 h2
    simp at h1 h2
    simp [h1]
theorem cs_law_signedZ (e0 : E0 wd base) (w : Nat) (z : Int) (hw : 3 ≤ w ∧ w ≤ 8) (h0 : 0 ≤ z) (hz : z.natAbs < 2 ^ 200) : CS (GG wd base) 4 271 [.int z, .int w] (EZ w z) := by
  obtain ⟨k, rfl⟩ := Int.eq_ofNat_of_zero_le h0
  exact cs_law_signed e0 w k hw hz
theorem sum_isum (f : Nat → Int) : ∀ n, ((List.range n).map f).sum = isum n f
  | 0 => rfl
  | n + 1 => by rw [List.range_succ, List.map_append, List.sum_append, sum_isum f n, isum]; simp
theorem isum_nn {f : Nat → Int} : ∀ {k : Nat}, (∀ i, i < k → 0 ≤ f i) → 0 ≤ isum k f
  | 0, _ => Int.le_refl 0
  | k + 1, h => Int.add_nonneg (isum_nn fun i hi => h i (by omega)) (h k (by omega))
theorem mpw_nn {n : Nat} {A : Nat → Nat → Int} (hA : ∀ i j, 0 ≤ A i j) : ∀ k i j, 0 ≤ mpw n A k i j
  | 0, i, j => by show 0 ≤ mI i j; unfold mI; split <;> decide
  | k + 1, i, j => isum_nn fun l _ => Int.mul_nonneg (mpw_nn hA k i l) (hA l j)
theorem freezes_snoc {r : List (Str × V)} {x y : Option (List T)} {K : List (Option (List T))} {l : List T} {z : T} : freezes [.t z, .m (x :: y :: K).length] ⟨r, x :: y :: (K ++ [some l])⟩ = some ([z, .lst l], ⟨r, x :: y :: (K ++ [none])⟩) := by
  simp [freezes, freeze1]
theorem cs_law (e0 : E0 wd base) (ns : List Int) (hns : ns.length ≤ 63) : CS (GG wd base) 20 290 [.lst (ns.map .int)] (.bool true) := by
  refine CS_fn e0 27 rfl rfl (ps := [Str.ofString "script"]) (fun s => len1 rfl fun v_script => BindsTo.of_eq rfl) (by decide) rfl ?_ (by decide) rfl rfl rfl ?_
  · decide
  intro L
  dsimp only [fE, fO, newEnv, mkFd]
  have htl : (tsOf ns).length ≤ 1000 := by simp [tsOf]; omega
  repeat walk_at "m"
  refine ⟨_, _, rfl, (fun _ h => by cases h), by simp; omega, rfl, by decide, ?_⟩
  rw [show (ns.map T.int).take ((12 : Int)).toNat = (ns.take 12).map T.int from (List.map_take ..).symm]
  repeat walk_at "m"
  refine CL.pure [] (fun i => .int (if (ns.take 12).getD i 0 < 0 then -(ns.take 12).getD i 0 else (ns.take 12).getD i 0)) .nil (by simp; omega) (fun i C hi => ⟨.int ((ns.take 12).getD i 0), ?_, ?_⟩) (fun _ _ _ _ h => h.set _ _) ?_
  · rw [List.length_map] at hi
    rw [List.getElem?_map, List.getElem?_eq_getElem hi, List.getD_eq_getElem?_getD, List.getElem?_eq_getElem hi]
    rfl
  · try dsimp only []
    repeat walk_at "m"
    refine BCall_int ?_
    repeat walk_at "m"
    refine BCall_abs ?_
    repeat walk_at "m"
    walk_at "m.le"
  rw [ts_out (ns.take 12) (fun i => if i < 0 then -i else i)]
  rw [show (ns.take 12).map (fun i => if i < 0 then -i else i) = tsOf ns from rfl]
  generalize tsOf ns = ts at *
  clear hns
  have hw0 := wov_lt ts 0 (many := 6) (by decide)
  have hw1 := wov_lt ts 1 (many := 3) (by decide)
  have hw2 := wov_lt ts 2 (many := 3) (by decide)
  obtain ⟨w, ew⟩ : ∃ w : Nat, 3 + wov ts 0 6 = (w : Int) := ⟨(3 + wov ts 0 6).toNat, by omega⟩
  obtain ⟨n, en⟩ : ∃ n : Nat, 1 + wov ts 1 3 = (n : Int) := ⟨(1 + wov ts 1 3).toNat, by omega⟩
  obtain ⟨b, eb⟩ : ∃ b : Nat, 1 + wov ts 2 3 = (b : Int) := ⟨(1 + wov ts 2 3).toNat, by omega⟩
  have hw : 3 ≤ w ∧ w ≤ 8 := by omega
  have hn : 0 < n ∧ n ≤ 3 := by omega
  have hb : 0 < b ∧ b ≤ 3 := by omega
  repeat walk_at "m"
  refine bc_woven e0 (k := 0) (by decide) htl (by decide) rfl (by decide) ?_
  repeat walk_at "m"
  refine bc_woven e0 (k := 1) (by decide) htl (by decide) rfl (by decide) ?_
  repeat walk_at "m"
  refine bc_woven e0 (k := 2) (by decide) htl (by decide) rfl (by decide) ?_
  repeat walk_at "m"
  rw [ew, en, eb]
  clear hw0 hw1 hw2 ew en eb
  repeat walk_at "m"
  refine ⟨[(Str.ofString "loom", .m 0), (Str.ofString "size", .t (.int n))], fun i st' => Le ⟨[(Str.ofString "loom", .m 0), (Str.ofString "size", .t (.int n))], [some [.int ((3 + i * n : Nat) : Int), .lst (ts.map .int)]]⟩ st', fun i => IR n (fun j => wov ts (3 + i * n + j) 4), by walk_at "m.vis", ?_, by omega, ?_, ?_⟩
  · dsimp only []
    rw [Nat.zero_mul]
    walk_at "m.le"
  · intro i st' hi hle C
    have hin : i * n ≤ 9 := Nat.mul_le_mul (show i ≤ 3 by omega) hn.2
    refine AT.weak ?_ (hle.set _ _)
    clear hle
    try dsimp only []
    repeat walk_at "m"
    refine ⟨[(Str.ofString "loom", .m 0)], fun j st' => Le ⟨[(Str.ofString "loom", .m 0)], [some [.int ((3 + i * n + j : Nat) : Int), .lst (ts.map .int)]]⟩ st', fun j => .int (wov ts (3 + i * n + j) 4), by walk_at "m.vis", ?_, by omega, ?_, ?_⟩
    · dsimp only []
      walk_at "m.le"
    · intro j st' hj hle C
      refine AT.weak ?_ (hle.set _ _)
      clear hle
      try dsimp only []
      repeat walk_at "m"
      refine bc_woven e0 (k := 3 + i * n + j) (by omega) htl (by decide) rfl (by decide) ?_
      refine ⟨_, rfl, by walk_at "m.le"⟩
    · intro st' hle
      rw [← hle.1]
      refine ⟨_, rfl, ?_⟩
      rw [show 3 + (i + 1) * n = 3 + i * n + n by rw [Nat.succ_mul, Nat.add_assoc]]
      walk_at "m.le"
  intro st' hle
  rw [← hle.1]
  clear hle
  refine AT.weak (st' := ⟨[(Str.ofString "w", .t (.int w)), (Str.ofString "size", .t (.int n)), (Str.ofString "beyond", .t (.int b)), (Str.ofString "web", .t (IM n fun i j => wov ts (3 + i * n + j) 4))], [some [.int ((3 + n * n : Nat) : Int), .lst (ts.map .int)]]⟩) ?_ (by walk_at "m.le")
  have hA : ∀ i j, 0 ≤ (fun i j => wov ts (3 + i * n + j) 4) i j ∧ (fun i j => wov ts (3 + i * n + j) 4) i j < 4 := fun i j => wov_lt ts _ (by decide)
  generalize (fun i j => wov ts (3 + i * n + j) 4) = A at *
  generalize [T.int ((3 + n * n : Nat) : Int), .lst (ts.map .int)] = h0
  clear htl
  have hA3 : ∀ i j, i < n → j < n → (A i j).natAbs ≤ 3 := fun i j _ _ => by have := hA i j; omega
  repeat walk_at "m"
  refine CL.pureR [(Str.ofString "w", .t (.int w))] (fun i => .lst ((List.range n).map fun j => EZ w (A i j))) (by walk_at "m.vis") (by omega) (fun i C hi => ?_) (fun _ _ _ _ h => h.set _ _) ?_
  · try dsimp only []
    repeat walk_at "m"
    refine CL.pureR [(Str.ofString "w", .t (.int w))] (fun j => EZ w (A i j)) (by walk_at "m.vis") (by omega) (fun j C hj => ?_) (fun _ _ _ _ h => h.set _ _) ?_
    · try dsimp only []
      repeat walk_at "m"
      refine BCall_cs ⟨_, _, _, rfl, cs_law_signedZ e0 w (A i j) hw (hA i j).1 (by have := hA i j; omega), by decide, ?_⟩
      exact ⟨rfl, by walk_at "m.le"⟩
    · exact ⟨rfl, by walk_at "m.le"⟩
  repeat walk_at "m"
  refine BCall_cs ⟨_, _, _, rfl, cs_characteristic e0 w n A _ _ (fl_ev A hn) hw hn hA3, by decide, ?_⟩
  rw [told_eq A hn hw.1]
  have hz : EZ w (cn n A n) = Z1 := by
    rw [cn, if_pos rfl]
    exact EZ_one hw.1
  repeat walk_at "m"
  refine ite_bne (fun h => absurd h (by omega)) (fun _ => ?_)
  repeat walk_at "m"
  rw [hz]
  refine ⟨_, _, false, rfl, rfl, CmpT.nself (x := Z1) (k := 2) rfl (by decide), ?_⟩
  repeat walk_at "m"
  refine CN.pure [(Str.ofString "size", .t (.int n))] (fun i => IR n (mI i)) (by walk_at "m.vis") (by omega) (fun i C hi => ?_) (fun _ _ _ h => h.set _ _) ?_
  · try dsimp only []
    repeat walk_at "m"
    refine CN.pure [(Str.ofString "here", .t (.int i))] (fun j => .int (mI i j)) (by walk_at "m.vis") (by omega) (fun j C hj => ?_) (fun _ _ _ h => h.set _ _) ?_
    · try dsimp only []
      repeat walk_at "m"
      refine BCall_intB ?_
      rw [show (if ((i : Int) == (j : Int)) = true then (1 : Int) else 0) = mI i j by
        unfold mI
        by_cases h : i = j
        · subst h; simp
        · rw [if_neg h, if_neg (by rw [beq_iff_eq]; omega)]]
      exact ⟨rfl, by walk_at "m.le"⟩
    · exact ⟨rfl, by walk_at "m.le"⟩
  repeat walk_at "m"
  have hpa : ∀ k, k ≤ 6 → (ptr n A k).natAbs < 2 ^ 40 := fun k hk => ptr_abs hn.2 hA3 hk
  have hca : ∀ i, i ≤ n → (cn n A i).natAbs < 2 ^ 40 := fun i hi => cn_abs hn hA3 hi
  have hp9 : ∀ k, k ≤ 6 → 9 ^ k ≤ 9 ^ 6 := fun k hk => Nat.pow_le_pow_right (by decide) hk
  have hpow : ∀ k, k ≤ 6 → ∀ i j, i < n → j < n → (mpw n A k i j).natAbs < 2 ^ 60 := fun k hk i j hi hj => by
    have h1 := mpw_abs hn.2 hA3 k i j hi hj
    have h2 := hp9 k hk
    omega
  have hpn : ∀ k i j, 0 ≤ mpw n A k i j := mpw_nn fun i j => (hA i j).1
  have hrs : ∀ k, (List.range k).map (fun k => EZ w (ptr n A (k + 1))) ++ [EZ w (ptr n A (k + 1))] = (List.range (k + 1)).map fun k => EZ w (ptr n A (k + 1)) := fun k => by simp [List.range_succ]
  have hkk : ((n : Int) + 1 - 1).toNat = n := by omega
  refine ⟨fun i st' => Le ⟨[(Str.ofString "w", .t (.int w)), (Str.ofString "size", .t (.int n)), (Str.ofString "beyond", .t (.int b)), (Str.ofString "web", .t (IM n A)), (Str.ofString "rows", .t (EM w n n A)), (Str.ofString "told", .t (.lst ((List.range (n + 1)).map fun i => EZ w (cn n A i)))), (Str.ofString "sums", .m 1), (Str.ofString "ways", .t (IM n (mpw n A i)))], [some h0, some ((List.range i).map fun k => EZ w (ptr n A (k + 1))), none]⟩ st', ?_, ?_, ?_⟩
  · dsimp only []
    walk_at "m.le"
  · rintro i st' hi hle
    rw [hkk] at hi
    refine AT.weak ?_ (hle.set _ _)
    clear hle
    have e1 : (1 : Int) + i = ((i + 1 : Nat) : Int) := by omega
    try dsimp only []
    rw [e1]
    repeat walk_at "m"
    refine BCall_cs ⟨_, _, _, rfl, cs_law_walked e0 n A (mpw n A i) hn (hpow i (by omega)), by decide, ?_⟩
    repeat walk_at "m"
    refine CN.pure [(Str.ofString "ways", .t (IM n (mpw n A (i + 1))))] (fun a => .int (mpw n A (i + 1) a a)) (by walk_at "m.vis") (by omega) (fun a C ha => ?_) (fun _ _ _ h => h.set _ _) ?_
    · try dsimp only []
      repeat walk_at "m"
      walk_at "m.le"
    repeat walk_at "m"
    refine BCall_sum (ns := (List.range n).map fun a => mpw n A (i + 1) a a) (by rw [List.map_map]; rfl) ⟨_, rfl⟩ ?_
    rw [sum_isum]
    repeat walk_at "m"
    refine BCall_cs ⟨_, _, _, rfl, cs_law_signedZ e0 w (ptr n A (i + 1)) hw (isum_nn fun a _ => hpn _ a a) (by have := hpa (i + 1) (by omega); omega), by decide, ?_⟩
    repeat walk_at "m"
    refine ⟨_, _, _, rfl, rfl, by rw [rg_len]; omega, ?_⟩
    rw [hrs]
    repeat walk_at "m"
    refine BCall_look ⟨_, _, rfl, cs_law_fits e0 w n (i + 1) (ptr n A) (cn n A) hw hn ⟨by omega, by omega⟩ (fun k hk => hpa k (by omega)) hca (newton A hn (by omega)), by decide, rfl, ?_⟩
    repeat walk_at "m"
    walk_at "m.le"
  rintro st' hle
  rw [hkk] at hle
  refine AT.weak ?_ hle
  clear hle
  repeat walk_at "m"
  refine BCall_cs ⟨_, _, _, rfl, cs_m_power e0 w n n A hw hn (by omega) hA3, by decide, ?_⟩
  repeat walk_at "m"
  refine CL.pureR [(Str.ofString "w", .t (.int w))] (fun i => .lst ((List.range n).map fun j => EZ w (mpw n A n i j))) (by walk_at "m.vis") (by omega) (fun i C hi => ?_) (fun _ _ _ _ h => h.set _ _) ?_
  · try dsimp only []
    repeat walk_at "m"
    refine CL.pureR [(Str.ofString "w", .t (.int w))] (fun j => EZ w (mpw n A n i j)) (by walk_at "m.vis") (by omega) (fun j C hj => ?_) (fun _ _ _ _ h => h.set _ _) ?_
    · try dsimp only []
      repeat walk_at "m"
      refine BCall_cs ⟨_, _, _, rfl, cs_law_signedZ e0 w (mpw n A n i j) hw (hpn _ _ _) (by have := hpow n (by omega) i j hi hj; omega), by decide, ?_⟩
      exact ⟨rfl, by walk_at "m.le"⟩
    · exact ⟨rfl, by walk_at "m.le"⟩
  repeat walk_at "m"
  refine ⟨_, _, false, rfl, rfl, CmpT.nself (okT_EM w n n (mpw n A n)) (by decide), ?_⟩
  repeat walk_at "m"
  have hk2 : ((n : Int) + b + 1 - ((n : Int) + 1)).toNat = b := by omega
  refine ⟨fun i st' => ∃ K, Le ⟨[(Str.ofString "w", .t (.int w)), (Str.ofString "size", .t (.int n)), (Str.ofString "rows", .t (EM w n n A)), (Str.ofString "told", .t (.lst ((List.range (n + 1)).map fun i => EZ w (cn n A i)))), (Str.ofString "sums", .m 1)], some h0 :: some ((List.range (n + i)).map fun k => EZ w (ptr n A (k + 1))) :: K⟩ st', ?_, ?_, ?_⟩
  · refine ⟨[none], ?_⟩
    walk_at "m.le"
  · rintro i st' hi ⟨K, hle⟩
    rw [hk2] at hi
    refine AT.weak ?_ (hle.set _ _)
    clear hle
    have e1 : (n : Int) + 1 + i = ((n + i + 1 : Nat) : Int) := by omega
    try dsimp only []
    rw [e1]
    repeat walk_at "m"
    refine BCall_cs ⟨_, _, _, rfl, cs_m_power e0 w n (n + i + 1) A hw hn (by omega) hA3, by decide, ?_⟩
    repeat walk_at "m"
    refine ⟨_, _, freezes_snoc, Nat.le_of_ble_eq_true rfl, ?_⟩
    repeat walk_at "m"
    refine ⟨fun t st' => Le ⟨[(Str.ofString "w", .t (.int w)), (Str.ofString "size", .t (.int n)), (Str.ofString "rows", .t (EM w n n A)), (Str.ofString "told", .t (.lst ((List.range (n + 1)).map fun i => EZ w (cn n A i)))), (Str.ofString "sums", .m 1), (Str.ofString "steps", .t (.int ((n + i + 1 : Nat) : Int))), (Str.ofString "led", .t (EM w n n (mpw n A (n + i + 1)))), (Str.ofString "back", .t (EZ w (isum t fun a => mpw n A (n + i + 1) a a)))], some h0 :: some ((List.range (n + i)).map fun k => EZ w (ptr n A (k + 1))) :: (K ++ [none])⟩ st', ?_, ?_, ?_⟩
    · dsimp only []
      rw [isum, EZ_zero]
      walk_at "m.le"
    · generalize K ++ [none] = K2
      rintro t st' ht hle
      refine AT.weak ?_ (hle.set _ _)
      clear hle
      have h1 := isum_abs (k := t) (U := 2 ^ 60) (f := fun a => mpw n A (n + i + 1) a a) fun a ha => Nat.le_of_lt (hpow _ (by omega) a a (by omega) (by omega))
      have h2 := Nat.mul_le_mul_right (2 ^ 60) (show t ≤ 3 by omega)
      have h3 := hpow (n + i + 1) (by omega) t t ht ht
      try dsimp only []
      repeat walk_at "m"
      refine BCall_cs ⟨_, _, _, rfl, cs_s_add e0 w _ _ hw (by omega) (by omega), by decide, ?_⟩
      repeat walk_at "m"
      walk_at "m.le"
    · generalize K ++ [none] = K2
      rintro st' hle
      refine AT.weak ?_ hle
      clear hle
      repeat walk_at "m"
      refine ⟨_, _, _, rfl, rfl, by rw [rg_len]; omega, ?_⟩
      have hr := hrs (n + i)
      rw [show EZ w (ptr n A (n + i + 1)) = EZ w (isum n fun a => mpw n A (n + i + 1) a a) from rfl] at hr
      rw [hr]
      repeat walk_at "m"
      refine BCall_look ⟨_, _, rfl, cs_law_fits e0 w n (n + i + 1) (ptr n A) (cn n A) hw hn ⟨by omega, by omega⟩ (fun k hk => hpa k (by omega)) hca (newton A hn (by omega)), by decide, rfl, ?_⟩
      repeat walk_at "m"
      refine ⟨K2, ?_⟩
      walk_at "m.le"
  · rintro st' ⟨K, hle⟩
    refine AT.weak ?_ hle
    repeat walk_at "m"
    rfl
end
end Mine

/-! E2 -/
namespace Mine

theorem law_from (hlaw : ∀ (wd : World) (base : Heap), E0 wd base → ∀ ns : List Int, ns.length ≤ 63 → CS (GG wd base) 20 290 [.lst (ns.map .int)] (.bool true))
    {w : World} {s₁ : Shared} {fa l : Addr} {vs : List Value} {ns : List Int} {mg mb : Str → Option Value} {Q : Value → Shared → Prop} {E : Value → Shared → Prop}
    (KX : OK s₁.heap) (hg : s₁.heap.Ns mainGlobals mg) (hb : s₁.heap.Ns builtinsNs mb) (hbb : ∀ x : Str, x ≠ "__name__" → mb x = bootBuiltins x) (hlim : s₁.heap.NoLimit)
    (hfa : mg (Str.ofString "law") = some (.ref fa)) (hL : s₁.heap.IsList l vs.toArray) (hI : IntsAre vs ns) (hlen : ns.length ≤ 63)
    (h : ∀ h' tk, (∀ b o, s₁.heap.get? b = some o → h'.get? b = some o) → Q (.bool true) { s₁ with heap := h', toks := tk }) :
    wpAny (model PR w) callerA (call (.ref fa) [.ref l]) Q E s₁ := by
  have e0 : E0 w s₁.heap := ⟨KX, ⟨mb, hb, hbb⟩, hlim⟩
  obtain ⟨mg', hg', e⟩ := KX.nsAt (j := 27) (x := Str.ofString "law") rfl
  rw [← hg.agree hg' _, hfa] at e
  cases e
  refine wpAny_mono (hlaw w s₁.heap e0 ns hlen callerA [] s₁ [.ref l] ⟨rfl, by decide +kernel, by decide +kernel⟩ (fun b o e => ⟨e, fun h => nomatch h⟩) (fun b h => nomatch h) (.cons (.lst hL (fun h => nomatch h) (RTs.ints hI)) .nil)) ?_ (fun _ _ h => h.elim)
  rintro v s' ⟨rv, ⟨h', tk, e⟩, k⟩
  subst e
  cases rv
  exact h h' tk k
set_option maxHeartbeats 4000000 in
theorem law_end (hlaw : ∀ (wd : World) (base : Heap), E0 wd base → ∀ ns : List Int, ns.length ≤ 63 → CS (GG wd base) 20 290 [.lst (ns.map .int)] (.bool true)) : PySem.Challenge.rw_xm0390_01.Holds := top rfl rfl rfl (by
  intro w s₀ s₁ mg mb G Y fa o pm cd doc dV kV ho hd hcd hD hmg hg args vals as hpre hlay hrd hwl hlo
  have KX : OK s₁.heap := Y
  refine Ground.open G ?_
  intro T B D TE TW
  wrow_args hpre hlay hrd hwl hlo
  rename_i ns _ _ _ _ _ _ _ l vs _ hL _ _ _ hI _ hlen _
  refine law_from hlaw KX T.g T.b T.builtins T.nolimit hmg hL hI (by omega) fun h' tk k => ?_
  refine ⟨.inl ⟨_, _, _, rfl, fun _ => rfl, .bool true, ?_, ?_⟩, ?_, rfl, ?_⟩
  · wrow_post
  · exact fun _ => ⟨.nil, fun _ ha => nomatch ha⟩
  · exact .of_keep k
  · exact .of_eq hg)
end Mine

theorem PySem.Challenge.cw_xm0390_01_holds : PySem.Challenge.rw_xm0390_01.Holds :=
  Mine.law_end fun _ _ e0 ns h => Mine.cs_law e0 ns h
