import PyProof.Rows.All
import Wide.All
import Wide.FinOn
import Open.Line
import PySem.Challenge.RW_xm0140_01
set_option Elab.async false

section
set_option autoImplicit false
set_option Elab.async false
namespace Mine
open PySem PySem.W PyProof.Rows

noncomputable def keptS : Stmt → Bool
  | .Assign [.Name x _] _ _ => !(x == ("__name__" : Str))
  | _ => true
noncomputable def view : Program := { PySem.Challenge.pw_xm0140_01 with main := { PySem.Challenge.pw_xm0140_01.main with body := PySem.Challenge.pw_xm0140_01.main.body.filter keptS } }
noncomputable def lawRec : DefRec := ((defOf view "law").get (by decide +kernel)).1
abbrev theRow : RowW := PySem.Challenge.rw_xm0140_01.row.toRowW
set_option maxRecDepth 100000 in
set_option maxHeartbeats 8000000 in
theorem left : LeftO PySem.Challenge.pw_xm0140_01 view [] (fun s => xlAt view [] s && recOk theRow.records s) (Hook.obs Hook.none) (Hook.val Hook.none) 3368 := by
  intro w
  kernel_rfl
end Mine
end

section
set_option autoImplicit false
set_option linter.unusedVariables false
namespace Mine
open PySem PySem.Calls PyProof.Rows

theorem no_some {α : Type} {x : α} {C : Prop} (h : (none : Option α) = some x) : C := by cases h
theorem no_true {C : Prop} (h : false = true) : C := by cases h
theorem some2 {α β : Type} {a a' : α} {b b' : β} (h : some (a, b) = some (a', b')) : a = a' ∧ b = b' := by
  cases h; exact ⟨rfl, rfl⟩
theorem some3 {α β γ : Type} {a a' : α} {b b' : β} {c c' : γ} (h : some (a, b, c) = some (a', b', c')) : a = a' ∧ b = b' ∧ c = c' := by
  cases h; exact ⟨rfl, rfl, rfl⟩
theorem some4 {α β γ δ : Type} {a a' : α} {b b' : β} {c c' : γ} {d d' : δ} (h : some (a, b, c, d) = some (a', b', c', d')) : a = a' ∧ b = b' ∧ c = c' ∧ d = d' := by
  cases h; exact ⟨rfl, rfl, rfl, rfl⟩

inductive D where
  | none : D
  | bool (b : Bool) : D
  | int (i : Int) (n : Nat) : D
  | str (x : Str) : D
  | rat (q : Rat) (n d : Nat) : D
  | tup (l : List D) : D
  | lst (l : List D) : D
  | rng (a b : Int) : D
  | mut (k : Nat) : D

abbrev Sto := List (Option (List D))

noncomputable def Lv (ρ : List Addr) (σ : Sto) (a : Addr) : Prop := ∃ (k : Nat) (l : List D), σ[k]? = some (some l) ∧ ρ[k]? = some a

mutual
noncomputable def Rep (h : Heap) (M : Addr → Prop) (ρ : List Addr) : D → Value → Prop
  | .none, v => v = .none
  | .bool b, v => v = .bool b
  | .int i n, v => (∃ t, v = .int i t) ∧ i.natAbs ≤ 2 ^ n
  | .str x, v => ∃ t, v = .str x t
  | .rat q n d, v => (∃ a t u, v = .ref a ∧ h.IsTuple a #[.int q.num t, .int (q.den : Int) u]) ∧ q.num.natAbs ≤ 2 ^ n ∧ q.den ≤ 2 ^ d
  | .tup l, v => ∃ a vs, v = .ref a ∧ h.IsTuple a vs.toArray ∧ Reps h M ρ l vs
  | .lst l, v => ∃ a vs, v = .ref a ∧ h.IsList a vs.toArray ∧ ¬ M a ∧ Reps h M ρ l vs
  | .rng a b, v => (∃ r t u w, v = .ref r ∧ IsRange h r a b 1 t u w) ∧ a.natAbs ≤ 2 ^ 61 ∧ b.natAbs ≤ 2 ^ 61
  | .mut k, v => ∃ a, v = .ref a ∧ ρ[k]? = some a
noncomputable def Reps (h : Heap) (M : Addr → Prop) (ρ : List Addr) : List D → List Value → Prop
  | [], vs => vs = []
  | d :: l, vs => ∃ v r, vs = v :: r ∧ Rep h M ρ d v ∧ Reps h M ρ l r
end

noncomputable def Mv (F : Addr → Prop) (ρ : List Addr) (σ : Sto) (a : Addr) : Prop := F a ∨ Lv ρ σ a

structure Inv (h₀ : Heap) (F : Addr → Prop) (h : Heap) (ρ : List Addr) (σ : Sto) : Prop where
  len : ρ.length = σ.length
  inj : ρ.Nodup
  base : ∀ b o, h₀.get? b = some o → h.get? b = some o
  new : ∀ a ∈ ρ, h₀.get? a = Option.none
  there : ∀ a ∈ ρ, ∃ o, h.get? a = some o ∧ ∃ xs n, o.data = .seq xs n
  far : ∀ a, F a → (h₀.get? a = Option.none ∧ a ∉ ρ) ∧ ∃ o, h.get? a = some o ∧ o.cls = .type "list" ∧ ∃ xs n, o.data = .seq xs n
  obj : ∀ (k : Nat) (l : List D), σ[k]? = some (some l) → ∃ a vs, ρ[k]? = some a ∧ PlainL h a vs.toArray ∧ Reps h (Mv F ρ σ) ρ l vs

noncomputable def Still (o : Obj) : Prop := (∃ xs n, o.data = .seq xs n) ∨ (o.cls = .type "range" ∧ ∃ vs, o.data = .fields vs)

structure Grows (h h' : Heap) (M M' : Addr → Prop) (ρ ρ' : List Addr) : Prop where
  keep : ∀ b o, h.get? b = some o → Still o → ¬ M b → h'.get? b = some o
  lists : ∀ a, M a → ∃ o, h.get? a = some o ∧ o.cls = .type "list"
  grow : ∀ a, M' a → M a ∨ h.get? a = Option.none
  pre : ∃ x, ρ' = ρ ++ x

theorem Grows.tuple {h h' : Heap} {M M' : Addr → Prop} {ρ ρ' : List Addr} (G : Grows h h' M M' ρ ρ') {a : Addr} {vs : Array Value} (x : h.IsTuple a vs) : h'.IsTuple a vs := by
  obtain ⟨o, ho, hc, n, hd⟩ := x
  refine ⟨o, G.keep a o ho (.inl ⟨vs, n, hd⟩) (fun hm => ?_), hc, n, hd⟩
  obtain ⟨o', ho', hc'⟩ := G.lists a hm
  rw [ho] at ho'; cases ho'
  rw [hc] at hc'; exact absurd hc' (by decide)
theorem Grows.list {h h' : Heap} {M M' : Addr → Prop} {ρ ρ' : List Addr} (G : Grows h h' M M' ρ ρ') {a : Addr} {vs : Array Value} (x : h.IsList a vs) (hm : ¬ M a) : h'.IsList a vs ∧ ¬ M' a := by
  obtain ⟨o, ho, hc, n, hd⟩ := x
  refine ⟨⟨o, G.keep a o ho (.inl ⟨vs, n, hd⟩) hm, hc, n, hd⟩, fun hm' => ?_⟩
  rcases G.grow a hm' with q | q
  · exact hm q
  · rw [ho] at q; cases q
theorem Grows.range {h h' : Heap} {M M' : Addr → Prop} {ρ ρ' : List Addr} (G : Grows h h' M M' ρ ρ') {a : Addr} {i j c : Int} {t u w : Tok} (x : IsRange h a i j c t u w) : IsRange h' a i j c t u w :=
  G.keep a _ x (.inr ⟨rfl, _, rfl⟩) fun hm => by
    obtain ⟨o', ho', hc'⟩ := G.lists a hm
    have x' : h.get? a = _ := x
    rw [x'] at ho'; cases ho'
    exact absurd (Value.type.inj hc') (by decide)

mutual
theorem Rep.mono {h h' : Heap} {M M' : Addr → Prop} {ρ ρ' : List Addr} (G : Grows h h' M M' ρ ρ') : ∀ (d : D) (v : Value), Rep h M ρ d v → Rep h' M' ρ' d v
  | .none, _, x => x
  | .bool _, _, x => x
  | .int _ _, _, x => x
  | .str _, _, x => x
  | .rat _ _ _, _, ⟨⟨a, t, u, e, x⟩, b⟩ => ⟨⟨a, t, u, e, G.tuple x⟩, b⟩
  | .tup l, _, ⟨a, vs, e, x, r⟩ => ⟨a, vs, e, G.tuple x, Reps.mono G l vs r⟩
  | .lst l, _, ⟨a, vs, e, x, m, r⟩ => ⟨a, vs, e, (G.list x m).1, (G.list x m).2, Reps.mono G l vs r⟩
  | .rng _ _, _, ⟨⟨r, t, u, w, e, x⟩, b⟩ => ⟨⟨r, t, u, w, e, G.range x⟩, b⟩
  | .mut k, _, ⟨a, e, x⟩ => ⟨a, e, by
      obtain ⟨y, rfl⟩ := G.pre
      rw [List.getElem?_append_left (List.getElem?_eq_some_iff.mp x).1]; exact x⟩
theorem Reps.mono {h h' : Heap} {M M' : Addr → Prop} {ρ ρ' : List Addr} (G : Grows h h' M M' ρ ρ') : ∀ (l : List D) (vs : List Value), Reps h M ρ l vs → Reps h' M' ρ' l vs
  | [], _, x => x
  | d :: l, _, ⟨v, r, e, x, y⟩ => ⟨v, r, e, Rep.mono G d v x, Reps.mono G l r y⟩
end

theorem Reps.length {h : Heap} {M : Addr → Prop} {ρ : List Addr} : ∀ {l : List D} {vs : List Value}, Reps h M ρ l vs → vs.length = l.length
  | [], _, x => by have x' : _ = _ := x; subst x'; rfl
  | _ :: _, _, ⟨_, _, e, _, y⟩ => by subst e; simp [Reps.length y]
theorem Reps.get {h : Heap} {M : Addr → Prop} {ρ : List Addr} : ∀ {l : List D} {vs : List Value} {k : Nat} {d : D}, Reps h M ρ l vs → l[k]? = some d → ∃ v, vs[k]? = some v ∧ Rep h M ρ d v
  | _ :: _, _, 0, _, ⟨v, r, e, x, _⟩, hk => by subst e; simp at hk; subst hk; exact ⟨v, rfl, x⟩
  | _ :: l, _, k + 1, d, ⟨v, r, e, _, y⟩, hk => by
    subst e
    obtain ⟨v', h1, h2⟩ := Reps.get (l := l) (vs := r) (k := k) (d := d) y (by simpa using hk)
    exact ⟨v', by simpa using h1, h2⟩
theorem Reps.append {h : Heap} {M : Addr → Prop} {ρ : List Addr} : ∀ {l l' : List D} {vs vs' : List Value}, Reps h M ρ l vs → Reps h M ρ l' vs' → Reps h M ρ (l ++ l') (vs ++ vs')
  | [], _, _, _, x, y => by have x' : _ = _ := x; subst x'; exact y
  | _ :: _, _, _, _, ⟨v, r, e, x, z⟩, y => by subst e; exact ⟨v, _, rfl, x, Reps.append z y⟩
theorem Reps.snoc {h : Heap} {M : Addr → Prop} {ρ : List Addr} {l : List D} {vs : List Value} {d : D} {v : Value} (x : Reps h M ρ l vs) (y : Rep h M ρ d v) : Reps h M ρ (l ++ [d]) (vs ++ [v]) :=
  Reps.append x ⟨v, [], rfl, y, rfl⟩
theorem Reps.set {h : Heap} {M : Addr → Prop} {ρ : List Addr} : ∀ {l : List D} {vs : List Value} {k : Nat} {d : D} {v : Value}, Reps h M ρ l vs → Rep h M ρ d v → Reps h M ρ (l.set k d) (vs.set k v)
  | [], _, _, _, _, x, _ => by have x' : _ = _ := x; subst x'; rfl
  | _ :: _, _, 0, _, _, ⟨v, r, e, _, z⟩, y => by subst e; exact ⟨_, _, rfl, y, z⟩
  | _ :: _, _, k + 1, _, _, ⟨v, r, e, x, z⟩, y => by subst e; exact ⟨_, _, rfl, x, Reps.set z y⟩
theorem Reps.drop {h : Heap} {M : Addr → Prop} {ρ : List Addr} : ∀ {l : List D} {vs : List Value} {k : Nat}, Reps h M ρ l vs → Reps h M ρ (l.drop k) (vs.drop k)
  | _, _, 0, x => x
  | [], _, _ + 1, x => by have x' : _ = _ := x; subst x'; rfl
  | _ :: _, _, _ + 1, ⟨_, _, e, _, z⟩ => by subst e; rw [List.drop_succ_cons, List.drop_succ_cons]; exact Reps.drop z
theorem Reps.take {h : Heap} {M : Addr → Prop} {ρ : List Addr} : ∀ {l : List D} {vs : List Value} {k : Nat}, Reps h M ρ l vs → Reps h M ρ (l.take k) (vs.take k)
  | _, _, 0, _ => by simp [Reps]
  | [], _, _ + 1, x => by have x' : _ = _ := x; subst x'; rfl
  | _ :: _, _, _ + 1, ⟨_, _, e, x, z⟩ => by subst e; exact ⟨_, _, rfl, x, Reps.take z⟩
theorem Reps.reverse {h : Heap} {M : Addr → Prop} {ρ : List Addr} : ∀ {l : List D} {vs : List Value}, Reps h M ρ l vs → Reps h M ρ l.reverse vs.reverse
  | [], _, x => by have x' : _ = _ := x; subst x'; rfl
  | _ :: _, _, ⟨_, _, e, x, z⟩ => by
    subst e
    rw [List.reverse_cons, List.reverse_cons]
    exact Reps.append (Reps.reverse z) ⟨_, [], rfl, x, rfl⟩

theorem pl_list {h : Heap} {a : Addr} {its : Array Value} (x : PlainL h a its) : h.IsList a its := let ⟨o, n, e, c, _, d⟩ := x; ⟨o, e, c, n, d⟩
theorem Inv.lists {h₀ h : Heap} {F : Addr → Prop} {ρ : List Addr} {σ : Sto} (I : Inv h₀ F h ρ σ) {a : Addr} (m : Mv F ρ σ a) : ∃ o, h.get? a = some o ∧ o.cls = .type "list" ∧ ∃ xs n, o.data = .seq xs n := by
  rcases m with m | ⟨k, l, h1, h2⟩
  · exact (I.far a m).2
  · obtain ⟨b, vs, h3, ⟨o, n, ho, hc, _, hd⟩, _⟩ := I.obj k l h1
    rw [h2] at h3; cases h3
    exact ⟨o, ho, hc, _, n, hd⟩
theorem Lv.mem {ρ : List Addr} {σ : Sto} {a : Addr} (m : Lv ρ σ a) : a ∈ ρ := by
  obtain ⟨k, l, _, h2⟩ := m
  exact List.mem_of_getElem? h2

theorem Inv.keeps {h₀ h h' : Heap} {F : Addr → Prop} {ρ : List Addr} {σ : Sto} (I : Inv h₀ F h ρ σ) (k : ∀ b o, h.get? b = some o → Still o → h'.get? b = some o)
    (base : ∀ b o, h₀.get? b = some o → h'.get? b = some o) : Inv h₀ F h' ρ σ :=
  have G : Grows h h' (Mv F ρ σ) (Mv F ρ σ) ρ ρ := ⟨fun b o e st _ => k b o e st, fun _ m => let ⟨o, h1, h2, _⟩ := I.lists m; ⟨o, h1, h2⟩, fun _ m => .inl m, ⟨[], by simp⟩⟩
  ⟨I.len, I.inj, base, I.new, fun a m => let ⟨o, h1, h2⟩ := I.there a m; ⟨o, k a o h1 (.inl h2), h2⟩, fun a m => let ⟨n, o, h1, h2, h3⟩ := I.far a m; ⟨n, o, k a o h1 (.inl h3), h2, h3⟩,
    fun j l e => let ⟨a, vs, h1, ⟨o, n, ho, hc, hdn, hd⟩, h3⟩ := I.obj j l e; ⟨a, vs, h1, ⟨o, n, k a o ho (.inl ⟨_, n, hd⟩), hc, hdn, hd⟩, Reps.mono G l vs h3⟩⟩

structure Ev (h₀ : Heap) (F : Addr → Prop) (own : Addr → Prop) (s : Shared) (ρ : List Addr) (σ : Sto) (s' : Shared) (ρ' : List Addr) (σ' : Sto) : Prop where
  same : ∃ h tk, s' = { s with heap := h, toks := tk }
  keep : ∀ b o, s.heap.get? b = some o → ¬ Lv ρ σ b → ¬ own b → s'.heap.get? b = some o
  grow : ∀ a, Lv ρ' σ' a → Lv ρ σ a ∨ s.heap.get? a = Option.none
  pre : ∃ x, ρ' = ρ ++ x
  alive : ∀ b o, s.heap.get? b = some o → ∃ o', s'.heap.get? b = some o'
  inv : Inv h₀ F s'.heap ρ' σ'

abbrev nobody : Addr → Prop := fun _ => False

section
variable {h₀ : Heap} {F own : Addr → Prop} {s s' s'' : Shared} {ρ ρ' ρ'' : List Addr} {σ σ' σ'' : Sto}
theorem Ev.refl (I : Inv h₀ F s.heap ρ σ) : Ev h₀ F own s ρ σ s ρ σ :=
  ⟨⟨_, _, rfl⟩, fun _ _ e _ _ => e, fun _ m => .inl m, ⟨[], by simp⟩, fun _ o e => ⟨o, e⟩, I⟩

theorem Ev.trans (x : Ev h₀ F own s ρ σ s' ρ' σ') (y : Ev h₀ F own s' ρ' σ' s'' ρ'' σ'') : Ev h₀ F own s ρ σ s'' ρ'' σ'' := by
  obtain ⟨⟨h1, t1, e1⟩, k1, g1, ⟨a, p1⟩, a1, _⟩ := x
  obtain ⟨⟨h2, t2, e2⟩, k2, g2, ⟨b, p2⟩, a2, I⟩ := y
  refine ⟨⟨h2, t2, by rw [e2, e1]⟩, fun b o e m n => k2 b o (k1 b o e m n) (fun m' => ?_) n, fun c m => ?_, ⟨a ++ b, by rw [p2, p1, List.append_assoc]⟩,
    fun b o e => let ⟨o', e'⟩ := a1 b o e; a2 b o' e', I⟩
  · rcases g1 b m' with q | q
    · exact m q
    · rw [e] at q; cases q
  · rcases g2 c m with q | q
    · exact g1 c q
    · right
      cases e : s.heap.get? c with
      | none => rfl
      | some o =>
        obtain ⟨o', e'⟩ := a1 c o e
        rw [e'] at q; cases q

theorem Ev.widen {own' : Addr → Prop} (x : Ev h₀ F own s ρ σ s' ρ' σ') (h : ∀ a, own a → own' a) : Ev h₀ F own' s ρ σ s' ρ' σ' :=
  ⟨x.same, fun b o e m n => x.keep b o e m fun q => n (h b q), x.grow, x.pre, x.alive, x.inv⟩
theorem Ev.fresh {own' : Addr → Prop} (x : Ev h₀ F own s ρ σ s' ρ' σ') (h : ∀ a, own a → own' a ∨ s.heap.get? a = Option.none) : Ev h₀ F own' s ρ σ s' ρ' σ' :=
  ⟨x.same, fun b o e m n => x.keep b o e m fun q => (h b q).elim n fun q => (by rw [e] at q; cases q), x.grow, x.pre, x.alive, x.inv⟩

theorem Ev.grows' (I : Inv h₀ F s.heap ρ σ) (x : Ev h₀ F own s ρ σ s' ρ' σ') (hown : ∀ b o, own b → s.heap.get? b = some o → ¬ Still o ∨ Mv F ρ σ b) :
    Grows s.heap s'.heap (Mv F ρ σ) (Mv F ρ' σ') ρ ρ' :=
  ⟨fun b o e st m => x.keep b o e (fun q => m (.inr q)) fun ob => (hown b o ob e).elim (fun n => n st) m, fun _ m => let ⟨o, h1, h2, _⟩ := I.lists m; ⟨o, h1, h2⟩,
    fun a m => m.elim (fun q => .inl (.inl q)) fun q => (x.grow a q).imp .inr id, x.pre⟩
theorem Ev.grows (I : Inv h₀ F s.heap ρ σ) (x : Ev h₀ F own s ρ σ s' ρ' σ') (hown : ∀ b o, own b → s.heap.get? b = some o → ¬ Still o) :
    Grows s.heap s'.heap (Mv F ρ σ) (Mv F ρ' σ') ρ ρ' := x.grows' I fun b o q e => .inl (hown b o q e)
theorem Ev.grows0 (I : Inv h₀ F s.heap ρ σ) (x : Ev h₀ F nobody s ρ σ s' ρ' σ') : Grows s.heap s'.heap (Mv F ρ σ) (Mv F ρ' σ') ρ ρ' := x.grows I fun _ _ q => q.elim

theorem Ev.of_keep (I : Inv h₀ F s.heap ρ σ) {h' : Heap} {tk : Tok} (k : ∀ b o, s.heap.get? b = some o → h'.get? b = some o) : Ev h₀ F own s ρ σ { s with heap := h', toks := tk } ρ σ :=
  ⟨⟨_, _, rfl⟩, fun b o e _ _ => k b o e, fun _ m => .inl m, ⟨[], by simp⟩, fun b o e => ⟨o, k b o e⟩, I.keeps (fun b o e _ => k b o e) fun b o e => k b o (I.base b o e)⟩
theorem Ev.push (I : Inv h₀ F s.heap ρ σ) (o : Obj) : Ev h₀ F own s ρ σ { s with heap := s.heap.push o } ρ σ := Ev.of_keep I (tk := s.toks) fun _ _ e => Heap.get?_push_of_some _ e
theorem Ev.tok (I : Inv h₀ F s.heap ρ σ) (tk : Tok) : Ev h₀ F own s ρ σ { s with toks := tk } ρ σ := Ev.of_keep I (h' := s.heap) fun _ _ e => e
theorem Ev.of_own (I : Inv h₀ F s.heap ρ σ) {h' : Heap} {tk : Tok} (k : ∀ b o, s.heap.get? b = some o → ¬ own b → h'.get? b = some o) (hst : ∀ b o, own b → s.heap.get? b = some o → ¬ Still o)
    (al : ∀ b o, own b → s.heap.get? b = some o → ∃ o', h'.get? b = some o') (hn : ∀ b, own b → h₀.get? b = Option.none) : Ev h₀ F own s ρ σ { s with heap := h', toks := tk } ρ σ :=
  ⟨⟨_, _, rfl⟩, fun b o e _ n => k b o e n, fun _ m => .inl m, ⟨[], by simp⟩, fun b o e => Classical.byCases (fun q : own b => al b o q e) fun q => ⟨o, k b o e q⟩,
    I.keeps (fun b o e st => k b o e fun q => hst b o q e st) fun b o e => k b o (I.base b o e) fun q => by rw [hn b q] at e; cases e⟩
end
end Mine
end

section
set_option autoImplicit false
set_option linter.unusedVariables false
namespace Mine
open PySem PySem.Calls PyProof.Rows

/-! the evaluator -/
abbrev Sc := List (Str × NameKind)
abbrev Vars := List (Str × D)
structure St where
  sto : Sto
  ds : List Bool
  dep : Nat

noncomputable def andB (a b : Bool) : Bool := match a with | true => b | false => false

inductive Fl where
  | next | cont | ret (d : D)

inductive It where
  | seq (l : List D)
  | rng (a b : Int)
  | mutI (k i : Nat)
  | enm (i : Nat) (l : List D)
  | enmM (i k : Nat)

structure FnRec where
  params : List Str
  body : List Stmt
  scope : Scope
  keep : Bool

structure Cfg where
  tab : Str → List D → Option (D × Bool)
  hk : Str → Sto → List D → Option (D × Sto × Bool)
  fns : Str → Option FnRec
  sym : List (Nat × Nat)
  mt : List (Nat × Nat)
  glob : List (Str × D)

noncomputable def hasPos (l : List (Nat × Nat)) (p : Pos) : Bool := match l with
  | [] => false
  | (a, b) :: r => cond (Nat.beq a p.line) (cond (Nat.beq b p.col) true (hasPos r p)) (hasPos r p)

noncomputable def litD (i : Int) : D := .int i (i.natAbs.log2 + 1)

noncomputable def lenD (n : Nat) : D := match n with
  | 0 => litD 0
  | 1 => litD 1
  | 2 => litD 2
  | 3 => litD 3
  | 4 => litD 4
  | 5 => litD 5
  | 6 => litD 6
  | 7 => litD 7
  | 8 => litD 8
  | 9 => litD 9
  | 10 => litD 10
  | 11 => litD 11
  | 12 => litD 12
  | 13 => litD 13
  | 14 => litD 14
  | 15 => litD 15
  | n + 16 => litD (n + 16 : Nat)
theorem lenD_eq (n : Nat) : lenD n = litD n := by unfold lenD; split <;> rfl

mutual
noncomputable def noMut : D → Bool
  | .mut _ => false
  | .tup l => noMuts l
  | .lst l => noMuts l
  | _ => true
noncomputable def noMuts : List D → Bool
  | [] => true
  | d :: l => andB (noMut d) (noMuts l)
end

noncomputable def eqDs (f : D → D → Option Bool) : List D → List D → Option Bool
  | [], [] => some true
  | [], _ :: _ => some false
  | _ :: _, [] => some false
  | a :: l, b :: m => match f a b, eqDs f l m with
    | some x, some y => some (andB x y)
    | _, _ => none
noncomputable def eqD (n : Nat) (a b : D) : Option Bool := match n with
  | 0 => none
  | n + 1 => match a, b with
    | .int i _, .int j _ => some (i == j)
    | .rat p _ _, .rat q _ _ => some (decide (p = q))
    | .tup l, .tup m => eqDs (eqD n) l m
    | .lst l, .lst m => eqDs (eqD n) l m
    | _, _ => none

noncomputable def toI (b : Bool) : Int := match b with | true => 1 | false => 0

noncomputable def binD (op : Operator) (a b : D) : Option (D × Bool) := match op with
  | .Add => (match a with
    | .int i n => (match b with
      | .int j m => some (.int (i + j) (Nat.max n m + 1), true)
      | _ => none)
    | .lst a => (match b with
      | .lst b => some (.lst (a ++ b), Nat.ble (a.length + b.length) 1000)
      | _ => none)
    | _ => none)
  | .Sub => (match a with
    | .int i n => (match b with
      | .int j m => some (.int (i - j) (Nat.max n m + 1), true)
      | _ => none)
    | .bool a => (match b with
      | .bool b => some (.int (toI a - toI b) 1, true)
      | _ => none)
    | _ => none)
  | .Mult => (match a with
    | .int i n => (match b with
      | .int j m => some (.int (i * j) (n + m), Nat.ble (n + m + 2) 134217728)
      | _ => none)
    | _ => none)
  | .FloorDiv => (match a with
    | .int i n => (match b with
      | .int j m => some (.int (i.fdiv j) n, andB (j != 0) (Nat.ble m 8999))
      | _ => none)
    | _ => none)
  | .Mod => (match a with
    | .int i _ => (match b with
      | .int j m => some (.int (i.fmod j) m, j != 0)
      | _ => none)
    | _ => none)
  | .Pow => (match a with
    | .int i n => (match b with
      | .int j _ => some (.int (i ^ j.toNat) (n * j.toNat), andB (decide (2 ≤ i)) (andB (decide (1 ≤ j)) (Nat.ble ((i.natAbs.log2 + 1) * j.toNat) 1000000)))
      | _ => none)
    | _ => none)
  | _ => none

noncomputable def cmpD : CmpOp → D → D → Option Bool
  | .Eq, .int i _, .int j _ => some (i == j)
  | .NotEq, .int i _, .int j _ => some (i != j)
  | .Lt, .int i _, .int j _ => some (decide (i < j))
  | .LtE, .int i _, .int j _ => some (decide (i ≤ j))
  | .Gt, .int i _, .int j _ => some (decide (i > j))
  | .GtE, .int i _, .int j _ => some (decide (i ≥ j))
  | .Eq, a, b => eqD 8 a b
  | .NotEq, a, b => (match eqD 8 a b with | some x => some (!x) | none => none)
  | _, _, _ => none

noncomputable def mkTup (l : List D) : D := match l with
  | [.int i n, .int j m] => cond (decide (j = 1)) (.rat (i : Rat) n 0) (cond (andB (decide (0 < j)) (Nat.beq (Nat.gcd i.natAbs j.natAbs) 1)) (.rat (mkRat i j.natAbs) n m) (.tup [.int i n, .int j m]))
  | l => .tup l

noncomputable def seqOf : D → Option (List D)
  | .tup l => some l
  | .rat q n d => some [.int q.num n, .int (q.den : Int) d]
  | _ => none

noncomputable def itemsOf (σ : Sto) : D → Option (List D)
  | .lst l => some l
  | .mut k => (σ[k]?).getD none
  | d => seqOf d

noncomputable def sumD : List D → Int → Nat → Option (Int × Nat)
  | [], i, n => some (i, n)
  | .int j m :: r, i, n => cond (Nat.ble m 40) (sumD r (i + j) (Nat.max n m + 1)) none
  | _, _, _ => none

noncomputable def bltin (σ : Sto) (f : Str) : List D → Option (D × Bool)
  | [.int i n] => cond (f == ("abs" : Str)) (some (.int (if i < 0 then -i else i) n, true)) (cond (f == ("range" : Str)) (some (.rng 0 i, Nat.ble n 61)) none)
  | [.int i n, .int j m] => cond (f == ("max" : Str)) (some (.int (if j > i then j else i) (Nat.max n m), true)) (cond (f == ("min" : Str)) (some (.int (if j < i then j else i) (Nat.max n m), true))
      (cond (f == ("range" : Str)) (some (.rng i j, andB (Nat.ble n 61) (Nat.ble m 61))) none))
  | [.lst l] => cond (f == ("len" : Str)) (some (lenD l.length, Nat.ble l.length 1000)) (cond (f == ("list" : Str)) (some (.lst l, Nat.ble l.length 1000))
      (cond (f == ("sum" : Str)) (match sumD l 0 0 with
        | some (i, n) => some (.int i n, Nat.ble l.length 1000)
        | none => none) none))
  | [.rng a b] => cond (f == ("list" : Str)) (some (.lst ((List.range (b - a).toNat).map fun (i : Nat) => litD (a + i)), Nat.ble (b - a).toNat 1000)) none
  | [.mut k] => match (σ[k]?).getD none with
    | some l => cond (f == ("len" : Str)) (some (lenD l.length, Nat.ble l.length 1000)) none
    | none => none
  | _ => none

noncomputable def isBltin (f : Str) : Bool := f == ("abs" : Str) || f == ("range" : Str) || f == ("max" : Str) || f == ("min" : Str) || f == ("len" : Str) || f == ("list" : Str) || f == ("sum" : Str)

noncomputable def setV : Vars → Str → D → Vars
  | [], x, d => [(x, d)]
  | (y, e) :: r, x, d => cond (y == x) ((x, d) :: r) ((y, e) :: setV r x d)

noncomputable def nextI (σ : Sto) : It → Option (Option (D × It))
  | .seq [] => some none
  | .seq (x :: r) => some (some (x, .seq r))
  | .rng a b => cond (decide (a < b)) (some (some (litD a, .rng (a + 1) b))) (some none)
  | .mutI k i => match (σ[k]?).getD none with
    | some l => (match l[i]? with
      | some x => some (some (x, .mutI k (i + 1)))
      | none => some none)
    | none => none
  | .enm _ [] => some none
  | .enm i (x :: r) => some (some (.tup [litD i, x], .enm (i + 1) r))
  | .enmM i k => match (σ[k]?).getD none with
    | some l => (match l[i]? with
      | some x => some (some (.tup [litD i, x], .enmM (i + 1) k))
      | none => some none)
    | none => none

noncomputable def itOf (σ : Sto) : D → Option It
  | .lst l => some (.seq l)
  | .rng a b => some (.rng a b)
  | .mut k => cond ((σ[k]?).getD none).isSome (some (.mutI k 0)) none
  | _ => none
noncomputable def enmOf (σ : Sto) : D → Option It
  | .lst l => some (.enm 0 l)
  | .mut k => cond ((σ[k]?).getD none).isSome (some (.enmM 0 k)) none
  | _ => none

noncomputable def isLocal (sc : Sc) (x : Str) : Bool := match sc.lookup x with
  | some .local => true
  | some .cell => true
  | some .free => true
  | _ => false
noncomputable def isStore (sc : Sc) (x : Str) : Bool := match sc.lookup x with
  | some .local => true
  | some .cell => true
  | _ => false
noncomputable def isGlob (sc : Sc) (x : Str) : Bool := match sc.lookup x with
  | some .globalImplicit => true
  | _ => false

noncomputable def brk (c : Cfg) (p : Pos) (b : Bool) (st : St) : Option (Bool × St × Bool) := match hasPos c.sym p with
  | true => (match st.ds with
    | d :: r => some (d, ⟨st.sto, r, st.dep⟩, b == d)
    | [] => none)
  | false => some (b, st, true)

structure Self where
  E : Sc → Vars → St → Expr → Option (D × St × Bool)
  T : Sc → Vars → St → Expr → Option (Bool × St × Bool)
  S : Sc → Vars → St → Stmt → Option (Fl × Vars × St × Bool)
  C : Sc → Vars → St → Expr → List Expr → Expr → It → List D → Option (List D × St × Bool)
  F : Sc → Vars → St → Expr → List Stmt → It → Option (Fl × Vars × St × Bool)
  W : Sc → Vars → St → Expr → List Stmt → Option (Fl × Vars × St × Bool)

noncomputable def evEs (self : Self) (sc : Sc) (vs : Vars) : St → List Expr → Option (List D × St × Bool)
  | st, [] => some ([], st, true)
  | st, .Starred .. :: _ => none
  | st, e :: es => match self.E sc vs st e with
    | some (d, st1, o1) => (match evEs self sc vs st1 es with
      | some (ds, st2, o2) => some (d :: ds, st2, andB o1 o2)
      | none => none)
    | none => none

noncomputable def evSs (self : Self) (sc : Sc) : Vars → St → List Stmt → Option (Fl × Vars × St × Bool)
  | vs, st, [] => some (.next, vs, st, true)
  | vs, st, s :: r => match self.S sc vs st s with
    | some (.next, vs1, st1, o1) => (match evSs self sc vs1 st1 r with
      | some (f, vs2, st2, o2) => some (f, vs2, st2, andB o1 o2)
      | none => none)
    | some (f, vs1, st1, o1) => some (f, vs1, st1, o1)
    | none => none

noncomputable def evTs (self : Self) (sc : Sc) (vs : Vars) : St → List Expr → Option (Bool × St × Bool)
  | st, [] => some (true, st, true)
  | st, [e] => self.T sc vs st e
  | _, _ => none

noncomputable def asg1 (self : Self) (sc : Sc) (vs : Vars) (st : St) (t : Expr) (d : D) : Option (Vars × St × Bool) := match t with
  | .Name x _ => cond (isStore sc x) (some (setV vs x d, st, true)) none
  | .Subscript o i _ => match self.E sc vs st o with
    | some (.mut k, st1, o1) => (match self.E sc vs st1 i with
      | some (.int j _, st2, o2) => (match (st2.sto[k]?).getD none with
        | some l => cond (andB (decide (0 ≤ j)) (andB (Nat.ble (j.toNat + 1) l.length) (Nat.ble l.length 1000))) (some (vs, ⟨st2.sto.set k (some (l.set j.toNat d)), st2.ds, st2.dep⟩, andB o1 o2)) none
        | none => none)
      | _ => none)
    | _ => none
  | _ => none

noncomputable def asgs (self : Self) (sc : Sc) : Vars → St → List Expr → List D → Option (Vars × St × Bool)
  | vs, st, [], [] => some (vs, st, true)
  | vs, st, t :: ts, d :: ds => match asg1 self sc vs st t d with
    | some (vs1, st1, o1) => (match asgs self sc vs1 st1 ts ds with
      | some (vs2, st2, o2) => some (vs2, st2, andB o1 o2)
      | none => none)
    | none => none
  | _, _, _, _ => none

noncomputable def asg (self : Self) (sc : Sc) (vs : Vars) (st : St) (t : Expr) (d : D) : Option (Vars × St × Bool) := match t with
  | .Tuple ts _ _ => match seqOf d with
    | some ds => asgs self sc vs st ts ds
    | none => none
  | t => asg1 self sc vs st t d

noncomputable def asgN (sc : Sc) : Vars → List Str → List D → Option Vars
  | vs, [], [] => some vs
  | vs, x :: xs, d :: ds => cond (isStore sc x) (asgN sc (setV vs x d) xs ds) none
  | _, _, _ => none

noncomputable def swNames (sc : Sc) (line : Nat) : List Expr → List Str
  | [] => []
  | .Name x p :: r => cond (andB (match sc.lookup x with | some .local => true | _ => false) (Nat.beq p.line line)) (x :: swNames sc line r) (swNames sc line r)
  | _ :: r => swNames sc line r
noncomputable def headLine : List Expr → Nat
  | [] => 0
  | e :: _ => e.pos.line
noncomputable def distinct : List Str → Bool
  | [] => true
  | x :: r => andB (!r.contains x) (distinct r)

noncomputable def swap? (sc : Sc) (ts : List Expr) (value : Expr) : Option (Option (List Str)) := match value with
  | .Tuple es _ _ =>
    let names := swNames sc (headLine ts) ts
    cond (andB (Nat.beq ts.length es.length) (andB (Nat.ble 2 ts.length) (andB (Nat.ble ts.length 3) (Nat.beq names.length ts.length))))
      (cond (andB (distinct names) (andB (!es.all (foldedForSure 8)) (andB (!es.all (constantsAlone 8)) (!es.any fun | .Starred .. => true | _ => false)))) (some (some names)) none) (some none)
  | _ => some none

mutual
noncomputable def bndM (n : Nat) : D → Bool
  | .mut k => Nat.blt k n
  | .tup l => bndMs n l
  | .lst l => bndMs n l
  | _ => true
noncomputable def bndMs (n : Nat) : List D → Bool
  | [] => true
  | d :: l => andB (bndM n d) (bndMs n l)
end
noncomputable def bndS (n : Nat) : Sto → Bool
  | [] => true
  | none :: r => bndS n r
  | some l :: r => andB (bndMs n l) (bndS n r)

mutual
noncomputable def frz (n : Nat) (σ : Sto) (d : D) : Option (D × Sto) := match n with
  | 0 => none
  | n + 1 => match d with
    | .mut k => (match (σ[k]?).getD none with
      | some l => (match frzs n (σ.set k none) l with
        | some (l', σ') => some (.lst l', σ')
        | none => none)
      | none => none)
    | .tup l => (match frzs n σ l with
      | some (l', σ') => some (.tup l', σ')
      | none => none)
    | .lst l => (match frzs n σ l with
      | some (l', σ') => some (.lst l', σ')
      | none => none)
    | d => some (d, σ)
noncomputable def frzs (n : Nat) (σ : Sto) (l : List D) : Option (List D × Sto) := match n with
  | 0 => none
  | n + 1 => match l with
    | [] => some ([], σ)
    | d :: r => (match frz n σ d with
      | some (d', σ1) => (match frzs n σ1 r with
        | some (r', σ2) => some (d' :: r', σ2)
        | none => none)
      | none => none)
end

noncomputable def isKind (k : NameKind) : Option NameKind → Bool
  | some j => decide (j = k)
  | none => false
noncomputable def sameKind : ScopeKind → ScopeKind → Bool
  | .function, .function => true
  | _, _ => false
noncomputable def clean (sc : Sc) : Bool := match sc.lookup ("__debug__" : Str), sc.lookup ("__classdict__" : Str) with
  | none, none => true
  | _, _ => false
noncomputable def fnOk (fn : FnRec) (n : Nat) : Bool := andB (clean fn.scope.names) <| andB (Nat.beq fn.params.length n) (andB (distinct fn.params) (andB (fn.params.all fun x => isStore fn.scope.names x)
  (andB (sameKind fn.scope.kind .function) (andB (!fn.scope.isGenerator) (andB (!fn.scope.isCoroutine) (fn.scope.names.all fun (n, k) => match k with | .free => false | .cell => isKind .cell (fn.scope.names.lookup n) | _ => true))))))
noncomputable def compOk (scope : Scope) (sc : Sc) : Bool := andB (clean scope.names) <| andB (sameKind scope.kind .function) (scope.names.all fun (n, k) => match k with
  | .free => andB (isKind .free (scope.names.lookup n)) (match sc.lookup n with
    | some .cell => true
    | some .free => true
    | _ => false)
  | .local => isKind .local (scope.names.lookup n)
  | .cell => isKind .cell (scope.names.lookup n)
  | _ => true)

noncomputable def retD : Fl → D
  | .ret d => d
  | _ => .none

noncomputable def runF (self : Self) (st : St) (fn : FnRec) (args : List D) : Option (D × St × Bool) :=
  match st.dep with
  | 0 => none
  | dep + 1 => cond (fnOk fn args.length)
    (match evSs self fn.scope.names (fn.params.zip args) ⟨st.sto, st.ds, dep⟩ fn.body with
    | some (f, _, st1, o1) =>
      cond fn.keep (some (retD f, ⟨st1.sto, st1.ds, dep + 1⟩, o1))
        (match frz 100 st1.sto (retD f) with
        | some (d', σ') => cond (andB (noMut d') (bndS st.sto.length (σ'.take st.sto.length))) (some (d', ⟨σ'.take st.sto.length, st1.ds, dep + 1⟩, o1)) none
        | none => none)
    | none => none) none

noncomputable def evCall (c : Cfg) (self : Self) (st : St) (f : Str) (args : List D) : Option (D × St × Bool) :=
  cond (isBltin f) (match bltin st.sto f args with
    | some (d, o) => some (d, st, o)
    | none => none)
  (match c.fns f with
  | some fn => runF self st fn args
  | none => (match c.hk f st.sto args with
    | some (d, σ', o) => some (d, ⟨σ', st.ds, st.dep⟩, o)
    | none => cond (noMuts args) (match c.tab f args with
      | some (d, o) => cond (noMut d) (some (d, st, o)) none
      | none => none) none))

noncomputable def freeVars (vs : Vars) : Sc → Vars
  | [] => []
  | (n, .free) :: r => (match vs.lookup n with
    | some d => (n, d) :: freeVars vs r
    | none => freeVars vs r)
  | _ :: r => freeVars vs r

noncomputable def noStar : Expr → Bool
  | .Starred .. => false
  | _ => true

noncomputable def evIt (self : Self) (sc : Sc) (vs : Vars) (st : St) (e : Expr) : Option (It × St × Bool) := match e with
  | .Call (.Name f _) [a] [] _ => cond (f == ("enumerate" : Str))
      (cond (andB (isGlob sc f) (noStar a)) (match self.E sc vs st a with
        | some (d, st1, o1) => (match enmOf st1.sto d with
          | some it => some (it, st1, o1)
          | none => none)
        | none => none) none)
      (match self.E sc vs st e with
        | some (d, st1, o1) => (match itOf st1.sto d with
          | some it => some (it, st1, o1)
          | none => none)
        | none => none)
  | .Set .. => none
  | e => match self.E sc vs st e with
    | some (d, st1, o1) => (match itOf st1.sto d with
      | some it => some (it, st1, o1)
      | none => none)
    | none => none

noncomputable def newLst (c : Cfg) (p : Pos) (l : List D) (st : St) (o : Bool) : Option (D × St × Bool) :=
  cond (Nat.ble l.length 1000) (cond (hasPos c.mt p) (some (.mut st.sto.length, ⟨st.sto ++ [some l], st.ds, st.dep⟩, o)) (some (.lst l, st, o))) none

noncomputable def litI : Expr → Option Int
  | .Constant (.int i) _ _ => some i
  | .UnaryOp .USub (.Constant (.int i) _ _) _ => some (-i)
  | _ => none

noncomputable def stepE (c : Cfg) (self : Self) (sc : Sc) (vs : Vars) (st : St) (e : Expr) : Option (D × St × Bool) := match e with
  | .Constant k _ _ => (match k with
    | .int i => some (litD i, st, true)
    | .bool b => some (.bool b, st, true)
    | .str x => some (.str x, st, true)
    | .none => some (.none, st, true)
    | _ => none)
  | .Name x _ => cond (isLocal sc x) (match vs.lookup x with
      | some d => some (d, st, true)
      | none => none)
    (cond (isGlob sc x) (match c.glob.lookup x with
      | some d => some (d, st, true)
      | none => none) none)
  | .UnaryOp .USub x _ => (match self.E sc vs st x with
    | some (.int i n, st1, o1) => some (.int (-i) n, st1, o1)
    | _ => none)
  | .BinOp l op r _ => (match self.E sc vs st l with
    | some (a, st1, o1) => (match self.E sc vs st1 r with
      | some (b, st2, o2) => (match binD op a b with
        | some (d, o3) => some (d, st2, andB o1 (andB o2 o3))
        | none => none)
      | none => none)
    | none => none)
  | .Compare l [op] [r] _ => (match self.E sc vs st l with
    | some (a, st1, o1) => (match self.E sc vs st1 r with
      | some (b, st2, o2) => (match cmpD op a b with
        | some x => some (.bool x, st2, andB o1 o2)
        | none => none)
      | none => none)
    | none => none)
  | .BoolOp op [l, r] _ => (match self.E sc vs st l with
    | some (.bool b, st1, o1) => (match brk c l.pos b st1 with
      | some (b', st2, o2) => (match op, b' with
        | .And, false => some (.bool false, st2, andB o1 o2)
        | .Or, true => some (.bool true, st2, andB o1 o2)
        | _, _ => (match self.E sc vs st2 r with
          | some (d, st3, o3) => some (d, st3, andB o1 (andB o2 o3))
          | none => none))
      | none => none)
    | _ => none)
  | .IfExp t a b _ => (match self.T sc vs st t with
    | some (x, st1, o1) => (match self.E sc vs st1 (cond x a b) with
      | some (d, st2, o2) => some (d, st2, andB o1 o2)
      | none => none)
    | none => none)
  | .Tuple es _ _ => (match evEs self sc vs st es with
    | some (l, st1, o1) => some (mkTup l, st1, andB o1 (Nat.ble l.length 1000))
    | none => none)
  | .List es p => (match evEs self sc vs st es with
    | some (l, st1, o1) => newLst c p l st1 o1
    | none => none)
  | .Subscript v (.Slice lo up stp _) _ => (match self.E sc vs st v with
    | some (.lst l, st1, o1) => (match lo, up, stp with
      | none, some e, none => (match self.E sc vs st1 e with
        | some (.int j n, st2, o2) => some (.lst (l.take j.toNat), st2, andB o1 (andB o2 (andB (decide (0 ≤ j)) (andB (Nat.ble n 60) (Nat.ble l.length 1000)))))
        | _ => none)
      | some e, none, none => (match self.E sc vs st1 e with
        | some (.int j n, st2, o2) => some (.lst (l.drop j.toNat), st2, andB o1 (andB o2 (andB (decide (0 ≤ j)) (andB (Nat.ble n 60) (Nat.ble l.length 1000)))))
        | _ => none)
      | none, none, some e => (match litI e with
        | some (-1) => some (.lst l.reverse, st1, andB o1 (Nat.ble l.length 1000))
        | _ => none)
      | _, _, _ => none)
    | _ => none)
  | .Subscript v i _ => (match self.E sc vs st v with
    | some (a, st1, o1) => (match self.E sc vs st1 i with
      | some (.int j n, st2, o2) => (match itemsOf st2.sto a with
        | some l => cond (decide (0 ≤ j)) (match l[j.toNat]? with
          | some d => some (d, st2, andB o1 (andB o2 (Nat.ble n 60)))
          | none => none) none
        | none => none)
      | _ => none)
    | none => none)
  | .Call (.Name f _) args [] _ => cond (isGlob sc f) (match args with
      | [] => none
      | _ => (match evEs self sc vs st args with
      | some (ds, st1, o1) => (match evCall c self st1 f ds with
        | some (d, st2, o2) => some (d, st2, andB o1 o2)
        | none => none)
      | none => none)) none
  | .Call (.Attribute (.Name x _) m ap) [a] [] cp => cond (andB (m == ("append" : Str)) (andB (Nat.beq ap.endLine cp.line) (noStar a))) (cond (isLocal sc x) (match vs.lookup x with
      | some (.mut k) => cond ((st.sto[k]?).getD none).isSome (match self.E sc vs st a with
        | some (d, st1, o1) => (match (st1.sto[k]?).getD none with
          | some l => cond (Nat.ble l.length 1000) (some (.none, ⟨st1.sto.set k (some (l ++ [d])), st1.ds, st1.dep⟩, o1)) none
          | none => none)
        | none => none) none
      | _ => none) none) none
  | .ListComp elt [⟨target, iter, ifs, 0⟩] scope p => cond (compOk scope sc) (match evIt self sc vs st iter with
    | some (it, st1, o1) => (match self.C scope.names (freeVars vs scope.names) st1 target ifs elt it [] with
      | some (l, st2, o2) => newLst c p l st2 (andB o1 o2)
      | none => none)
    | none => none) none
  | _ => none

noncomputable def stepT (c : Cfg) (self : Self) (sc : Sc) (vs : Vars) (st : St) (e : Expr) : Option (Bool × St × Bool) := match e with
  | .UnaryOp .Not x _ => (match self.T sc vs st x with
    | some (b, st1, o1) => some (!b, st1, o1)
    | none => none)
  | .BoolOp op [l, r] _ => (match self.T sc vs st l with
    | some (b, st1, o1) => (match op, b with
      | .And, false => some (false, st1, o1)
      | .Or, true => some (true, st1, o1)
      | _, _ => (match self.T sc vs st1 r with
        | some (d, st2, o2) => some (d, st2, andB o1 o2)
        | none => none))
    | _ => none)
  | .Compare l [op] [r] p => (match self.E sc vs st l with
    | some (a, st1, o1) => (match self.E sc vs st1 r with
      | some (b, st2, o2) => (match cmpD op a b with
        | some x => (match brk c p x st2 with
          | some (x', st3, o3) => some (x', st3, andB o1 (andB o2 o3))
          | none => none)
        | none => none)
      | none => none)
    | none => none)
  | .Compare .. => none
  | .BoolOp .. => none
  | .IfExp .. => none
  | .UnaryOp .. => none
  | e => (match self.E sc vs st e with
    | some (.bool b, st1, o1) => (match brk c e.pos b st1 with
      | some (b', st2, o2) => some (b', st2, andB o1 o2)
      | none => none)
    | _ => none)

noncomputable def notSD : Expr → Bool
  | .SetComp .. => false
  | .DictComp .. => false
  | _ => true

noncomputable def valE (self : Self) (sc : Sc) (vs : Vars) (st : St) (t value : Expr) : Option (D × St × Bool) := match t, value with
  | .Tuple .., .Tuple es _ _ => (match evEs self sc vs st es with
    | some (l, st1, o1) => some (.tup l, st1, andB o1 (Nat.ble l.length 1000))
    | none => none)
  | _, _ => self.E sc vs st value

noncomputable def stepS (c : Cfg) (self : Self) (sc : Sc) (vs : Vars) (st : St) (s : Stmt) : Option (Fl × Vars × St × Bool) := match s with
  | .Assign [t] value _ => (match cond (notSD value) (valE self sc vs st t value) none with
    | some (d, st1, o1) => (match t with
      | .Tuple ts _ _ => (match swap? sc ts value, seqOf d with
        | some none, some ds => (match asgs self sc vs st1 ts ds with
          | some (vs2, st2, o2) => some (.next, vs2, st2, andB o1 o2)
          | none => none)
        | some (some names), some ds => (match asgN sc vs names.reverse ds.reverse with
          | some vs2 => some (.next, vs2, st1, o1)
          | none => none)
        | _, _ => none)
      | t => (match asg1 self sc vs st1 t d with
        | some (vs2, st2, o2) => some (.next, vs2, st2, andB o1 o2)
        | none => none))
    | none => none)
  | .Expr (.Call f as ks cp) _ => (match self.E sc vs st (.Call f as ks cp) with
    | some (.none, st1, o1) => some (.next, vs, st1, o1)
    | _ => none)
  | .If t a b _ => (match self.T sc vs st t with
    | some (x, st1, o1) => (match evSs self sc vs st1 (cond x a b) with
      | some (f, vs2, st2, o2) => some (f, vs2, st2, andB o1 o2)
      | none => none)
    | none => none)
  | .Return (some e) _ => (match self.E sc vs st e with
    | some (d, st1, o1) => some (.ret d, vs, st1, o1)
    | none => none)
  | .Continue _ => some (.cont, vs, st, true)
  | .For target iter body [] _ => (match evIt self sc vs st iter with
    | some (it, st1, o1) => (match self.F sc vs st1 target body it with
      | some (f, vs2, st2, o2) => some (f, vs2, st2, andB o1 o2)
      | none => none)
    | none => none)
  | .While t body [] _ => self.W sc vs st t body
  | _ => none

noncomputable def okT (target : Expr) (it : It) : Bool := match target with
  | .Tuple .. => (match it with
    | .enm .. => true
    | .enmM .. => true
    | _ => false)
  | .Name .. => (match it with
    | .seq _ => true
    | .rng _ _ => true
    | .mutI _ _ => true
    | _ => false)
  | _ => false

noncomputable def stepC (self : Self) (sc : Sc) (vs : Vars) (st : St) (target : Expr) (ifs : List Expr) (elt : Expr) (it : It) (acc : List D) : Option (List D × St × Bool) :=
  match nextI st.sto it with
  | some none => some (acc, st, true)
  | some (some (x, it1)) => (match cond (okT target it) (asg self sc vs st target x) none with
    | some (vs1, st1, o1) => (match evTs self sc vs1 st1 ifs with
      | some (true, st2, o2) => (match self.E sc vs1 st2 elt with
        | some (d, st3, o3) => (match self.C sc vs1 st3 target ifs elt it1 (acc ++ [d]) with
          | some (r, st4, o4) => some (r, st4, andB o1 (andB o2 (andB o3 (andB o4 (Nat.ble acc.length 1000)))))
          | none => none)
        | none => none)
      | some (false, st2, o2) => (match self.C sc vs1 st2 target ifs elt it1 acc with
          | some (r, st4, o4) => some (r, st4, andB o1 (andB o2 o4))
          | none => none)
      | none => none)
    | none => none)
  | none => none

noncomputable def stepF (self : Self) (sc : Sc) (vs : Vars) (st : St) (target : Expr) (body : List Stmt) (it : It) : Option (Fl × Vars × St × Bool) :=
  match nextI st.sto it with
  | some none => some (.next, vs, st, true)
  | some (some (x, it1)) => (match cond (okT target it) (asg self sc vs st target x) none with
    | some (vs1, st1, o1) => (match evSs self sc vs1 st1 body with
      | some (.ret d, vs2, st2, o2) => some (.ret d, vs2, st2, andB o1 o2)
      | some (_, vs2, st2, o2) => (match self.F sc vs2 st2 target body it1 with
        | some (f, vs3, st3, o3) => some (f, vs3, st3, andB o1 (andB o2 o3))
        | none => none)
      | none => none)
    | none => none)
  | none => none

noncomputable def stepW (self : Self) (sc : Sc) (vs : Vars) (st : St) (t : Expr) (body : List Stmt) : Option (Fl × Vars × St × Bool) :=
  match self.T sc vs st t with
  | some (false, st1, o1) => some (.next, vs, st1, o1)
  | some (true, st1, o1) => (match evSs self sc vs st1 body with
    | some (.ret d, vs2, st2, o2) => some (.ret d, vs2, st2, andB o1 o2)
    | some (_, vs2, st2, o2) => (match self.W sc vs2 st2 t body with
      | some (f, vs3, st3, o3) => some (f, vs3, st3, andB o1 (andB o2 o3))
      | none => none)
    | none => none)
  | none => none

noncomputable def step (c : Cfg) (self : Self) : Self := ⟨stepE c self, stepT c self, stepS c self, stepC self, stepF self, stepW self⟩
noncomputable def bot : Self := ⟨fun _ _ _ _ => none, fun _ _ _ _ => none, fun _ _ _ _ => none, fun _ _ _ _ _ _ _ _ => none, fun _ _ _ _ _ _ => none, fun _ _ _ _ _ => none⟩
/-! what is handed on is laid out whole first (this says nothing; it keeps a run short where the checker reads names late) -/
mutual
noncomputable def forceD {α : Type} (k : D → α) : D → α
  | .none => k .none
  | .bool b => k (.bool b)
  | .int i n => k (.int i n)
  | .str x => k (.str x)
  | .rat q n d => k (.rat q n d)
  | .tup l => forceL (fun l => k (.tup l)) l
  | .lst l => forceL (fun l => k (.lst l)) l
  | .rng a b => k (.rng a b)
  | .mut j => k (.mut j)
noncomputable def forceL {α : Type} (k : List D → α) : List D → α
  | [] => k []
  | d :: l => forceD (fun d => forceL (fun l => k (d :: l)) l) d
end
mutual
theorem forceD_eq {α : Type} (k : D → α) : ∀ d, forceD k d = k d
  | .none => rfl
  | .bool _ => rfl
  | .int _ _ => rfl
  | .str _ => rfl
  | .rat _ _ _ => rfl
  | .tup l => forceL_eq (fun l => k (.tup l)) l
  | .lst l => forceL_eq (fun l => k (.lst l)) l
  | .rng _ _ => rfl
  | .mut _ => rfl
theorem forceL_eq {α : Type} (k : List D → α) : ∀ l, forceL k l = k l
  | [] => rfl
  | d :: l => by
    show forceD (fun d => forceL (fun l => k (d :: l)) l) d = _
    rw [forceD_eq]
    exact forceL_eq (fun l => k (d :: l)) l
end
noncomputable def forceV {α : Type} (k : Vars → α) : Vars → α
  | [] => k []
  | (x, d) :: r => forceD (fun d => forceV (fun r => k ((x, d) :: r)) r) d
theorem forceV_eq {α : Type} (k : Vars → α) : ∀ l, forceV k l = k l
  | [] => rfl
  | (x, d) :: l => by
    show forceD (fun d => forceV (fun r => k ((x, d) :: r)) l) d = _
    rw [forceD_eq]
    exact forceV_eq (fun l => k ((x, d) :: l)) l
noncomputable def forceS {α : Type} (k : Sto → α) : Sto → α
  | [] => k []
  | none :: r => forceS (fun r => k (none :: r)) r
  | some l :: r => forceL (fun l => forceS (fun r => k (some l :: r)) r) l
theorem forceS_eq {α : Type} (k : Sto → α) : ∀ l, forceS k l = k l
  | [] => rfl
  | none :: r => forceS_eq (fun r => k (none :: r)) r
  | some l :: r => by
    show forceL (fun l => forceS (fun r => k (some l :: r)) r) l = _
    rw [forceL_eq]
    exact forceS_eq (fun r => k (some l :: r)) r
noncomputable def forceSt {α : Type} (k : St → α) (st : St) : α := forceS (fun σ => k ⟨σ, st.ds, st.dep⟩) st.sto
theorem forceSt_eq {α : Type} (k : St → α) (st : St) : forceSt k st = k st := forceS_eq (fun σ => k ⟨σ, st.ds, st.dep⟩) st.sto
noncomputable def forced (s : Self) : Self := ⟨s.E, s.T, fun sc vs st t => forceV (fun vs => forceSt (fun st => s.S sc vs st t) st) vs,
  fun sc vs st target ifs elt it acc => forceV (fun vs => forceL (fun acc => forceSt (fun st => s.C sc vs st target ifs elt it acc) st) acc) vs,
  fun sc vs st target body it => forceV (fun vs => forceSt (fun st => s.F sc vs st target body it) st) vs,
  fun sc vs st t body => forceV (fun vs => forceSt (fun st => s.W sc vs st t body) st) vs⟩
theorem forced_eq (s : Self) : forced s = s := by
  unfold forced
  simp only [forceV_eq, forceSt_eq, forceL_eq]
noncomputable def ev (c : Cfg) (n : Nat) : Self := Nat.rec bot (fun _ s => step c (forced s)) n
end Mine
end

section
set_option autoImplicit false
set_option linter.unusedVariables false
namespace Mine
open PySem PySem.Calls PyProof.Rows

theorem andB_true {a b : Bool} (h : andB a b = true) : a = true ∧ b = true := by
  cases a <;> simp_all [andB]

section lvs
variable {h₀ h h' : Heap} {F own : Addr → Prop} {s s' s'' : Shared} {ρ ρ' : List Addr} {σ σ' : Sto}

theorem getD_some {k : Nat} {l : List D} (e : (σ[k]?).getD none = some l) : σ[k]? = some (some l) := by
  cases q : σ[k]? with
  | none => rw [q] at e; first | exact no_some e | cases e
  | some x => rw [q] at e; simp at e; rw [e]

theorem Lv.set {k : Nat} {l l' : List D} (e : σ[k]? = some (some l)) (a : Addr) : Lv ρ (σ.set k (some l')) a ↔ Lv ρ σ a := by
  constructor
  · rintro ⟨j, m, h1, h2⟩
    by_cases q : k = j
    · subst q; exact ⟨k, l, e, h2⟩
    · rw [List.getElem?_set_ne q] at h1; exact ⟨j, m, h1, h2⟩
  · rintro ⟨j, m, h1, h2⟩
    by_cases q : k = j
    · subst q
      exact ⟨k, l', by rw [List.getElem?_set_self (List.getElem?_eq_some_iff.mp e).1], h2⟩
    · exact ⟨j, m, by rw [List.getElem?_set_ne q]; exact h1, h2⟩
theorem Mv.set {k : Nat} {l l' : List D} (e : σ[k]? = some (some l)) : Mv F ρ (σ.set k (some l')) = Mv F ρ σ :=
  funext fun a => propext (or_congr Iff.rfl (Lv.set e a))
theorem Lv.drop {k : Nat} {a : Addr} (m : Lv ρ (σ.set k none) a) : Lv ρ σ a := by
  obtain ⟨j, l, h1, h2⟩ := m
  by_cases q : k = j
  · subst q
    by_cases hk : k < σ.length
    · rw [List.getElem?_set_self hk] at h1; cases h1
    · rw [List.getElem?_eq_none (by rw [List.length_set]; omega)] at h1; cases h1
  · rw [List.getElem?_set_ne q] at h1; exact ⟨j, l, h1, h2⟩

theorem Ev.set (I : Inv h₀ F s.heap ρ σ) {k : Nat} {l l' : List D} {a : Addr} {vs : List Value} {tk : Tok} (e : σ[k]? = some (some l)) (ea : ρ[k]? = some a)
    (hs : Heap.SameBut a s.heap h') (hl : PlainL h' a vs.toArray) (r : Reps s.heap (Mv F ρ σ) ρ l' vs) : Ev h₀ F own s ρ σ { s with heap := h', toks := tk } ρ (σ.set k (some l')) := by
  have hM := Mv.set (F := F) (ρ := ρ) (l' := l') e
  have la : Lv ρ σ a := ⟨k, l, e, ea⟩
  have off : ∀ b o, s.heap.get? b = some o → ¬ Lv ρ σ b → h'.get? b = some o := fun b o eb n => hs.extBut b o (fun q => n (q ▸ la)) eb
  have off' : ∀ b o, s.heap.get? b = some o → b ≠ a → h'.get? b = some o := fun b o eb n => hs.extBut b o n eb
  have G : Grows s.heap h' (Mv F ρ σ) (Mv F ρ (σ.set k (some l'))) ρ ρ :=
    ⟨fun b o eb _ n => off b o eb fun q => n (.inr q), fun _ m => let ⟨o, h1, h2, _⟩ := I.lists m; ⟨o, h1, h2⟩, fun b m => .inl (by rw [hM] at m; exact m), ⟨[], by simp⟩⟩
  have am : a ∈ ρ := List.mem_of_getElem? ea
  obtain ⟨oa, na, hoa, hca, hdn, hda⟩ := hl
  refine ⟨⟨_, _, rfl⟩, fun b o eb n _ => off b o eb n, fun b m => .inl ((Lv.set e b).mp m), ⟨[], by simp⟩, fun b o eb => ?_, ?_⟩
  · by_cases q : b = a
    · subst q; exact ⟨oa, hoa⟩
    · exact ⟨o, off' b o eb q⟩
  · refine ⟨by rw [List.length_set]; exact I.len, I.inj, fun b o eb => off' b o (I.base b o eb) ?_, I.new, fun b m => ?_, fun b m => ?_, fun j m ej => ?_⟩
    · rintro rfl; rw [I.new b am] at eb; cases eb
    · by_cases q : b = a
      · subst q; exact ⟨oa, hoa, _, na, hda⟩
      · obtain ⟨o, h1, h2⟩ := I.there b m
        exact ⟨o, off' b o h1 q, h2⟩
    · obtain ⟨n, o, h1, h2⟩ := I.far b m
      exact ⟨n, o, off' b o h1 (fun q => n.2 (q ▸ am)), h2⟩
    · by_cases q : k = j
      · subst q
        rw [List.getElem?_set_self (List.getElem?_eq_some_iff.mp e).1] at ej
        injection ej with ej; injection ej with ej; subst ej
        exact ⟨a, vs, ea, ⟨oa, na, hoa, hca, hdn, hda⟩, Reps.mono G _ _ r⟩
      · rw [List.getElem?_set_ne q] at ej
        obtain ⟨b, ws, h1, ⟨ob, nb, hob, hcb⟩, h3⟩ := I.obj j m ej
        have hb : b ≠ a := by
          rintro rfl
          have hk := List.getElem?_eq_some_iff.mp ea
          have hj := List.getElem?_eq_some_iff.mp h1
          exact q ((List.getElem_inj I.inj).mp (hk.2.trans hj.2.symm))
        exact ⟨b, ws, h1, ⟨ob, nb, off' b ob hob hb, hcb⟩, Reps.mono G _ _ h3⟩

theorem Ev.new (I : Inv h₀ F s.heap ρ σ) {l : List D} {vs : List Value} {a : Addr} {tk : Tok} (ha : s.heap.get? a = none) (k : ∀ b o, s.heap.get? b = some o → h'.get? b = some o)
    (hl : PlainL h' a vs.toArray) (r : Reps s.heap (Mv F ρ σ) ρ l vs) : Ev h₀ F own s ρ σ { s with heap := h', toks := tk } (ρ ++ [a]) (σ ++ [some l]) := by
  have hLv : ∀ b, Lv (ρ ++ [a]) (σ ++ [some l]) b → Lv ρ σ b ∨ b = a := by
    rintro b ⟨j, m, h1, h2⟩
    by_cases q : j < σ.length
    · rw [List.getElem?_append_left q] at h1
      rw [List.getElem?_append_left (by rw [I.len]; exact q)] at h2
      exact .inl ⟨j, m, h1, h2⟩
    · right
      have hj := (List.getElem?_eq_some_iff.mp h2).1
      rw [List.length_append, List.length_singleton, I.len] at hj
      obtain rfl : j = σ.length := by omega
      rw [List.getElem?_append_right (by rw [I.len]; exact Nat.le_refl _), I.len, Nat.sub_self] at h2
      simpa using h2.symm
  have G : Grows s.heap h' (Mv F ρ σ) (Mv F (ρ ++ [a]) (σ ++ [some l])) ρ (ρ ++ [a]) :=
    ⟨fun b o eb _ _ => k b o eb, fun _ m => let ⟨o, h1, h2, _⟩ := I.lists m; ⟨o, h1, h2⟩, fun b m => m.elim (fun q => .inl (.inl q)) fun q => (hLv b q).elim (fun q => .inl (.inr q)) fun q => .inr (q ▸ ha), ⟨[a], rfl⟩⟩
  obtain ⟨oa, na, hoa, hca, hdn, hda⟩ := hl
  have nm : a ∉ ρ := fun m => by obtain ⟨o, e, _⟩ := I.there a m; rw [ha] at e; cases e
  refine ⟨⟨_, _, rfl⟩, fun b o eb _ _ => k b o eb, fun b m => (hLv b m).imp id (fun q => by rw [q]; exact ha), ⟨[a], rfl⟩, fun b o eb => ⟨o, k b o eb⟩, ?_⟩
  refine ⟨by simp [I.len], ?_, fun b o eb => k b o (I.base b o eb), fun b m => ?_, fun b m => ?_, fun b m => ?_, fun j m ej => ?_⟩
  · rw [List.nodup_append]
    exact ⟨I.inj, by simp, fun x hx y hy e => nm (by simp at hy; subst hy; exact e ▸ hx)⟩
  · rcases List.mem_append.mp m with m | m
    · exact I.new b m
    · obtain rfl : b = a := by simpa using m
      cases e : h₀.get? b with
      | none => rfl
      | some o => rw [I.base b o e] at ha; cases ha
  · rcases List.mem_append.mp m with m | m
    · obtain ⟨o, h1, h2⟩ := I.there b m
      exact ⟨o, k b o h1, h2⟩
    · obtain rfl : b = a := by simpa using m
      exact ⟨oa, hoa, _, na, hda⟩
  · obtain ⟨n, o, h1, h2⟩ := I.far b m
    refine ⟨⟨n.1, fun q => ?_⟩, o, k b o h1, h2⟩
    rcases List.mem_append.mp q with q | q
    · exact n.2 q
    · obtain rfl : b = a := by simpa using q
      rw [ha] at h1; cases h1
  · by_cases q : j < σ.length
    · rw [List.getElem?_append_left q] at ej
      obtain ⟨b, ws, h1, ⟨ob, nb, hob, r1⟩, h3⟩ := I.obj j m ej
      exact ⟨b, ws, by rw [List.getElem?_append_left (by rw [I.len]; exact q)]; exact h1, ⟨ob, nb, k b ob hob, r1⟩, Reps.mono G _ _ h3⟩
    · have hj := (List.getElem?_eq_some_iff.mp ej).1
      rw [List.length_append, List.length_singleton] at hj
      obtain rfl : j = σ.length := by omega
      rw [List.getElem?_append_right (Nat.le_refl _), Nat.sub_self] at ej
      simp at ej; subst ej
      exact ⟨a, vs, by rw [List.getElem?_append_right (by rw [I.len]; exact Nat.le_refl _), I.len, Nat.sub_self]; rfl, ⟨oa, na, hoa, hca, hdn, hda⟩, Reps.mono G _ _ r⟩
end lvs

/-! frames -/
structure Fm (h₀ : Heap) (env : Env) (sc : Sc) (vs : Vars) (h : Heap) (M : Addr → Prop) (ρ : List Addr) : Prop where
  kind : env.scope.kind = .function
  glob : env.globals = mainGlobals
  blt : env.builtins = builtinsNs
  tidy : clean sc = true
  loc : ∀ x, sc.lookup x = some .local → env.kindOf x = some .local
  cel : ∀ x, sc.lookup x = some .cell → env.kindOf x = some .cell ∧ ∃ c ov, env.cells.lookup x = some c ∧ h.IsCell c ov ∧ (∀ d, vs.lookup x = some d → ∃ v, ov = some v ∧ Rep h M ρ d v) ∧ h₀.get? c = none
  fre : ∀ x, sc.lookup x = some .free → (env.kindOf x = some .cell ∨ env.kindOf x = some .free) ∧ ∃ c ov, env.cells.lookup x = some c ∧ h.IsCell c ov ∧ (∀ d, vs.lookup x = some d → ∃ v, ov = some v ∧ Rep h M ρ d v)
  glo : ∀ x, sc.lookup x = some .globalImplicit → env.kindOf x = some .globalImplicit
  ns : ∃ m, h.Ns env.locals m ∧ ∀ x d, vs.lookup x = some d → sc.lookup x = some .local → ∃ v, m x = some v ∧ Rep h M ρ d v
  new : h₀.get? env.locals = none
  apart : ∀ x y c, env.cells.lookup x = some c → env.cells.lookup y = some c → x = y

noncomputable def Own (env : Env) (sc : Sc) (a : Addr) : Prop := a = env.locals ∨ ∃ x, sc.lookup x = some .cell ∧ env.cells.lookup x = some a

theorem clean_debug {sc : Sc} (h : clean sc = true) {x : Str} {k : NameKind} (e : sc.lookup x = some k) : (x == ("__debug__" : Str)) = false := by
  cases q : x == ("__debug__" : Str) with
  | false => rfl
  | true =>
    have := beq_iff_eq.mp q
    subst this
    unfold clean at h
    rw [e] at h
    exact absurd h (by simp)
theorem clean_class {sc : Sc} (h : clean sc = true) {x : Str} {k : NameKind} (e : sc.lookup x = some k) : (x == ("__classdict__" : Str)) = false := by
  cases q : x == ("__classdict__" : Str) with
  | false => rfl
  | true =>
    have := beq_iff_eq.mp q
    subst this
    unfold clean at h
    rw [e] at h
    cases sc.lookup ("__debug__" : Str) <;> exact absurd h (by simp)

theorem ns_still {h : Heap} {a : Addr} {m : Str → Option Value} {o : Obj} (n : h.Ns a m) (e : h.get? a = some o) (hst : Still o) : False := by
  obtain ⟨o', es, ep, e', hd, _⟩ := n
  rw [e] at e'; cases e'
  rcases hst with ⟨xs, n, q⟩ | ⟨_, vs, q⟩ <;> (rw [hd] at q; cases q)
theorem cell_still {h : Heap} {a : Addr} {v : Option Value} {o : Obj} (n : h.IsCell a v) (e : h.get? a = some o) (hst : Still o) : False := by
  obtain ⟨o', e', hd⟩ := n
  rw [e] at e'; cases e'
  rcases hst with ⟨xs, n, q⟩ | ⟨_, vs, q⟩ <;> (rw [hd] at q; cases q)
theorem cell_not_seq {h : Heap} {a : Addr} {v : Option Value} {o : Obj} (n : h.IsCell a v) (e : h.get? a = some o) {xs : Array Value} {k : Nat} (hd : o.data = .seq xs k) : False :=
  cell_still n e (.inl ⟨xs, k, hd⟩)
theorem ns_not_seq {h : Heap} {a : Addr} {m : Str → Option Value} {o : Obj} (n : h.Ns a m) (e : h.get? a = some o) {xs : Array Value} {k : Nat} (hd : o.data = .seq xs k) : False := by
  obtain ⟨o', es, ep, e', hd', _⟩ := n
  rw [e] at e'; cases e'
  rw [hd] at hd'; cases hd'

section
variable {h₀ : Heap} {F own : Addr → Prop} {s s' : Shared} {ρ ρ' : List Addr} {σ σ' : Sto} {env : Env} {sc : Sc} {vs : Vars}

theorem Fm.own_still (f : Fm h₀ env sc vs s.heap (Mv F ρ σ) ρ) : ∀ b o, Own env sc b → s.heap.get? b = some o → ¬ Still o := by
  rintro b o (rfl | ⟨x, h1, h2⟩) e hst
  · obtain ⟨m, n, _⟩ := f.ns
    exact ns_still n e hst
  · obtain ⟨_, c, ov, q, r, _⟩ := f.cel x h1
    rw [h2] at q; cases q
    exact cell_still r e hst
theorem Fm.own_new (f : Fm h₀ env sc vs s.heap (Mv F ρ σ) ρ) : ∀ b, Own env sc b → h₀.get? b = none := by
  rintro b (rfl | ⟨x, h1, h2⟩)
  · exact f.new
  · obtain ⟨_, c, ov, q, _, _, r⟩ := f.cel x h1
    rw [h2] at q; cases q
    exact r
theorem Inv.not_ns (I : Inv h₀ F s.heap ρ σ) {a : Addr} {m : Str → Option Value} (n : s.heap.Ns a m) : ¬ Lv ρ σ a := fun q => by
  obtain ⟨o, e, _, xs, k, hd⟩ := I.lists (.inr q)
  exact ns_not_seq n e hd
theorem Inv.not_cell (I : Inv h₀ F s.heap ρ σ) {a : Addr} {v : Option Value} (n : s.heap.IsCell a v) : ¬ Lv ρ σ a := fun q => by
  obtain ⟨o, e, _, xs, k, hd⟩ := I.lists (.inr q)
  exact cell_not_seq n e hd

theorem Fm.mono (I : Inv h₀ F s.heap ρ σ) (f : Fm h₀ env sc vs s.heap (Mv F ρ σ) ρ) (x : Ev h₀ F own s ρ σ s' ρ' σ')
    (hst : ∀ b o, own b → s.heap.get? b = some o → ¬ Still o ∨ Mv F ρ σ b) (hL : ¬ own env.locals) (hC : ∀ c ov, s.heap.IsCell c ov → ¬ own c) : Fm h₀ env sc vs s'.heap (Mv F ρ' σ') ρ' := by
  have G := x.grows' I hst
  have kc : ∀ {n : Str} {c : Addr} {ov : Option Value}, env.cells.lookup n = some c → s.heap.IsCell c ov → s'.heap.IsCell c ov := fun e ⟨o, h1, h2⟩ => ⟨o, x.keep _ _ h1 (I.not_cell ⟨o, h1, h2⟩) (hC _ _ ⟨o, h1, h2⟩), h2⟩
  refine ⟨f.kind, f.glob, f.blt, f.tidy, f.loc, fun n e => ?_, fun n e => ?_, f.glo, ?_, f.new, f.apart⟩
  · obtain ⟨q, c, ov, h1, h2, h3, h4⟩ := f.cel n e
    exact ⟨q, c, ov, h1, kc h1 h2, fun d ed => let ⟨v, hv, r⟩ := h3 d ed; ⟨v, hv, Rep.mono G _ _ r⟩, h4⟩
  · obtain ⟨q, c, ov, h1, h2, h3⟩ := f.fre n e
    exact ⟨q, c, ov, h1, kc h1 h2, fun d ed => let ⟨v, hv, r⟩ := h3 d ed; ⟨v, hv, Rep.mono G _ _ r⟩⟩
  · obtain ⟨m, n, r⟩ := f.ns
    exact ⟨m, n.at' (fun o e => x.keep _ o e (I.not_ns n) hL), fun y d e1 e2 => let ⟨v, hv, q⟩ := r y d e1 e2; ⟨v, hv, Rep.mono G _ _ q⟩⟩
theorem Fm.mono0 (I : Inv h₀ F s.heap ρ σ) (f : Fm h₀ env sc vs s.heap (Mv F ρ σ) ρ) (x : Ev h₀ F nobody s ρ σ s' ρ' σ') : Fm h₀ env sc vs s'.heap (Mv F ρ' σ') ρ' :=
  f.mono I x (fun _ _ q => q.elim) (fun q => q) fun _ _ _ q => q

theorem lookup_setV {x : Str} {d : D} : ∀ {vs : Vars} {y : Str}, (setV vs x d).lookup y = if y = x then some d else vs.lookup y
  | [], y => by
    by_cases h : y = x
    · subst h; simp [setV]
    · have hb : (y == x) = false := beq_eq_false_iff_ne.mpr h
      simp [setV, List.lookup_cons, hb, h]
  | (z, e) :: r, y => by
    have ih := @lookup_setV x d r y
    unfold setV
    by_cases hz : z = x
    · subst hz
      simp only [beq_self_eq_true, cond_true]
      by_cases h : y = z
      · subst h; simp
      · have hb : (y == z) = false := beq_eq_false_iff_ne.mpr h
        simp [List.lookup_cons, hb, h]
    · have hzb : (z == x) = false := beq_eq_false_iff_ne.mpr hz
      simp only [hzb, cond_false]
      by_cases h : y = z
      · subst h
        simp [List.lookup_cons, hz]
      · have hb : (y == z) = false := beq_eq_false_iff_ne.mpr h
        simp only [List.lookup_cons, hb]
        exact ih
end

section
variable {prog : Program} {w : World} {A : Around} {E : Value → Shared → Prop} {h₀ : Heap} {F : Addr → Prop} {s : Shared} {ρ : List Addr} {σ : Sto} {env : Env} {sc : Sc} {vs : Vars}

theorem isLocal_cases {x : Str} (h : isLocal sc x = true) : sc.lookup x = some .local ∨ sc.lookup x = some .cell ∨ sc.lookup x = some .free := by
  unfold isLocal at h
  split at h <;> simp_all
theorem isStore_cases {x : Str} (h : isStore sc x = true) : sc.lookup x = some .local ∨ sc.lookup x = some .cell := by
  unfold isStore at h
  split at h <;> simp_all
theorem isGlob_case {x : Str} (h : isGlob sc x = true) : sc.lookup x = some .globalImplicit := by
  unfold isGlob at h
  split at h <;> simp_all

theorem load_var (f : Fm h₀ env sc vs s.heap (Mv F ρ σ) ρ) {x : Str} {d : D} (hl : isLocal sc x = true) (hd : vs.lookup x = some d) {Q : Value → Shared → Prop}
    (h : ∀ v, Rep s.heap (Mv F ρ σ) ρ d v → Q v s) : wpAny (model prog w) A (loadName env x) Q E s := by
  rcases isLocal_cases hl with e | e | e
  · obtain ⟨m, n, r⟩ := f.ns
    obtain ⟨v, hv, q⟩ := r x d hd e
    exact wpAny_loadName_local f.kind (f.loc x e) n hv (h v q)
  · obtain ⟨k, c, ov, h1, h2, h3, _⟩ := f.cel x e
    obtain ⟨v, rfl, q⟩ := h3 d hd
    exact wpAny_loadName_cell f.kind k h1 h2 (h v q)
  · obtain ⟨k, c, ov, h1, h2, h3⟩ := f.fre x e
    obtain ⟨v, rfl, q⟩ := h3 d hd
    rcases k with k | k
    · exact wpAny_loadName_cell f.kind k h1 h2 (h v q)
    · exact wpAny_loadName_free f.kind k h1 h2 (h v q) (clean_class f.tidy e)

theorem store_var (I : Inv h₀ F s.heap ρ σ) (f : Fm h₀ env sc vs s.heap (Mv F ρ σ) ρ) {x : Str} {d : D} {v : Value} (hl : isStore sc x = true) (hr : Rep s.heap (Mv F ρ σ) ρ d v) {Q : Unit → Shared → Prop}
    (h : ∀ s', Ev h₀ F (Own env sc) s ρ σ s' ρ σ → Fm h₀ env sc (setV vs x d) s'.heap (Mv F ρ σ) ρ → Q () s') : wpAny (model prog w) A (storeName env x v) Q E s := by
  have hp : (env.scope.kind == .class || (env.scope.kind == .module && env.locals != env.globals)) = false := by rw [f.kind]; rfl
  obtain ⟨m, n, r⟩ := f.ns
  rcases isStore_cases hl with e | e
  · refine wpAny_storeName_local (f.loc x e) n (fun h' n' hs => ?_) hp
    have X : Ev h₀ F (Own env sc) s ρ σ { s with heap := h', toks := s.toks + 1 } ρ σ :=
      Ev.of_own I (fun b o eb nb => hs.extBut b o (fun q => nb (.inl q)) eb) f.own_still (fun b o ob eb => by
        by_cases q : b = env.locals
        · subst q; obtain ⟨o', _, _, q, _⟩ := n'; exact ⟨o', q⟩
        · exact ⟨o, hs.extBut b o q eb⟩) f.own_new
    have X1 : Ev h₀ F (fun a => a = env.locals) s ρ σ { s with heap := h', toks := s.toks + 1 } ρ σ :=
      ⟨X.same, fun b o eb _ nb => hs.extBut b o nb eb, X.grow, X.pre, X.alive, X.inv⟩
    have G := X.grows I f.own_still
    refine h _ X ⟨f.kind, f.glob, f.blt, f.tidy, f.loc, fun y ey => ?_, fun y ey => ?_, f.glo, ⟨_, n', fun y d' e1 e2 => ?_⟩, f.new, f.apart⟩
    · obtain ⟨q, c, ov, h1, h2, h3, h4⟩ := f.cel y ey
      have hc : c ≠ env.locals := fun q => by subst q; obtain ⟨o, e1, e2⟩ := h2; obtain ⟨o', _, _, e3, e4, _⟩ := n; rw [e1] at e3; cases e3; rw [e2] at e4; cases e4
      refine ⟨q, c, ov, h1, h2.sameBut hs hc, fun d' e' => ?_, h4⟩
      rw [lookup_setV] at e'
      by_cases q : y = x
      · subst q; rw [e] at ey; cases ey
      · rw [if_neg q] at e'; obtain ⟨v', hv, r'⟩ := h3 d' e'; exact ⟨v', hv, Rep.mono G _ _ r'⟩
    · obtain ⟨q, c, ov, h1, h2, h3⟩ := f.fre y ey
      have hc : c ≠ env.locals := fun q => by subst q; obtain ⟨o, e1, e2⟩ := h2; obtain ⟨o', _, _, e3, e4, _⟩ := n; rw [e1] at e3; cases e3; rw [e2] at e4; cases e4
      refine ⟨q, c, ov, h1, h2.sameBut hs hc, fun d' e' => ?_⟩
      rw [lookup_setV] at e'
      by_cases q : y = x
      · subst q; rw [e] at ey; cases ey
      · rw [if_neg q] at e'; obtain ⟨v', hv, r'⟩ := h3 d' e'; exact ⟨v', hv, Rep.mono G _ _ r'⟩
    · rw [lookup_setV] at e1
      by_cases q : y = x
      · subst q; rw [if_pos rfl] at e1; cases e1; exact ⟨v, by simp, Rep.mono G _ _ hr⟩
      · rw [if_neg q] at e1; obtain ⟨v', hv, r'⟩ := r y d' e1 e2; exact ⟨v', by simp [q, hv], Rep.mono G _ _ r'⟩
  · obtain ⟨k, c, ov, h1, h2, h3, h4⟩ := f.cel x e
    refine wpAny_storeName_cell f.kind k h1 h2 fun h' c' hs => ?_
    have X : Ev h₀ F (Own env sc) s ρ σ { s with heap := h', toks := s.toks } ρ σ :=
      Ev.of_own I (fun b o eb nb => hs.extBut b o (fun q => nb (.inr ⟨x, e, q ▸ h1⟩)) eb) f.own_still (fun b o ob eb => by
        by_cases q : b = c
        · subst q; obtain ⟨o', q, _⟩ := c'; exact ⟨o', q⟩
        · exact ⟨o, hs.extBut b o q eb⟩) f.own_new
    have G := X.grows I f.own_still
    have hL : env.locals ≠ c := fun q => by subst q; obtain ⟨o, e1, e2⟩ := h2; obtain ⟨o', _, _, e3, e4, _⟩ := n; rw [e1] at e3; cases e3; rw [e2] at e4; cases e4
    have ap : ∀ y c₁, env.cells.lookup y = some c₁ → y ≠ x → c₁ ≠ c := fun y c₁ q ne e => ne (f.apart _ _ _ (e ▸ q) h1)
    refine h _ X ⟨f.kind, f.glob, f.blt, f.tidy, f.loc, fun y ey => ?_, fun y ey => ?_, f.glo, ⟨m, n.sameBut hs hL, fun y d' e1 e2 => ?_⟩, f.new, f.apart⟩
    · by_cases q : y = x
      · subst q
        exact ⟨k, c, some v, h1, c', fun d' e' => by rw [lookup_setV, if_pos rfl] at e'; cases e'; exact ⟨v, rfl, Rep.mono G _ _ hr⟩, h4⟩
      · obtain ⟨k', c₁, ov', i1, i2, i3, i4⟩ := f.cel y ey
        exact ⟨k', c₁, ov', i1, i2.sameBut hs (ap y c₁ i1 q), fun d' e' => by rw [lookup_setV, if_neg q] at e'; obtain ⟨v', hv, r'⟩ := i3 d' e'; exact ⟨v', hv, Rep.mono G _ _ r'⟩, i4⟩
    · have q : y ≠ x := fun q => by subst q; rw [e] at ey; cases ey
      obtain ⟨k', c₁, ov', i1, i2, i3⟩ := f.fre y ey
      exact ⟨k', c₁, ov', i1, i2.sameBut hs (ap y c₁ i1 q), fun d' e' => by rw [lookup_setV, if_neg q] at e'; obtain ⟨v', hv, r'⟩ := i3 d' e'; exact ⟨v', hv, Rep.mono G _ _ r'⟩⟩
    · have q : y ≠ x := fun q => by subst q; rw [e] at e2; cases e2
      rw [lookup_setV, if_neg q] at e1
      obtain ⟨v', hv, r'⟩ := r y d' e1 e2
      exact ⟨v', hv, Rep.mono G _ _ r'⟩
end
end Mine
end

section
set_option autoImplicit false
set_option linter.unusedVariables false
namespace Mine
open PySem PySem.Calls PyProof.Rows

abbrev no : Value → Shared → Prop := fun _ _ => False

structure AOk (n : Nat) (A : Around) : Prop where
  hh : A.handled = none
  dep : A.depth + n ≤ 600
  un : A.units + 10 * n ≤ 5000
theorem AOk.less {n m : Nat} {A : Around} (a : AOk n A) (h : m ≤ n) : AOk m A := ⟨a.hh, by have := a.dep; omega, by have := a.un; omega⟩
theorem AOk.room {n : Nat} {A : Around} (a : AOk n A) : A.depth < recursionLimit := by have := a.dep; unfold recursionLimit; omega
theorem AOk.line {n : Nat} {A : Around} (a : AOk n A) : A.units < cLine := by have := a.un; unfold cLine; omega
theorem AOk.deeper {n : Nat} {A : Around} (a : AOk (n + 1) A) (env : Env) : AOk n (A.deeper env) := ⟨a.hh, by have := a.dep; show A.depth + 1 + n ≤ 600; omega, by have := a.un; show A.units + 3 + 10 * n ≤ 5000; omega⟩

noncomputable def PE (h₀ : Heap) (F : Addr → Prop) (s : Shared) (ρ : List Addr) (st : St) (d : D) (st' : St) : Value → Shared → Prop := fun v s' =>
  ∃ ρ', Ev h₀ F nobody s ρ st.sto s' ρ' st'.sto ∧ Rep s'.heap (Mv F ρ' st'.sto) ρ' d v ∧ st'.dep = st.dep

theorem pow_split (a b : Nat) : 2 ^ (a + b) = 2 ^ a * 2 ^ b := Nat.pow_add 2 a b
theorem pow_le {a b : Nat} (h : a ≤ b) : 2 ^ a ≤ 2 ^ b := Nat.pow_le_pow_right (by decide) h

theorem rep_lit {h : Heap} {M : Addr → Prop} {ρ : List Addr} (i : Int) (t : Tok) : Rep h M ρ (litD i) (.int i t) :=
  ⟨⟨t, rfl⟩, by
    by_cases h0 : i.natAbs = 0
    · rw [h0]; exact Nat.zero_le _
    · exact Nat.le_of_lt Nat.lt_log2_self⟩

theorem bits_le_of {i : Int} {n : Nat} (h : i.natAbs ≤ 2 ^ n) : Builtin.Int.intBits i ≤ n + 1 := by
  unfold Builtin.Int.intBits
  split
  · exact Nat.zero_le _
  · rename_i h0
    have h0' : i.natAbs ≠ 0 := by simpa using h0
    have := (Nat.log2_lt h0').mpr (Nat.lt_of_le_of_lt h (Nat.pow_lt_pow_right (by decide) (Nat.lt_succ_self n)))
    omega
theorem log2_lt_of {i : Int} {n : Nat} (h : i.natAbs ≤ 2 ^ n) : i.natAbs.log2 ≤ n := by
  by_cases h0 : i.natAbs = 0
  · rw [h0]; simp
  · have := (Nat.log2_lt h0).mpr (Nat.lt_of_le_of_lt h (Nat.pow_lt_pow_right (by decide) (Nat.lt_succ_self n)))
    omega
theorem mulOk_of {i j : Int} {n m : Nat} (hi : i.natAbs ≤ 2 ^ n) (hj : j.natAbs ≤ 2 ^ m) (h : n + m + 2 ≤ 134217728) : IntMulOk i j := by
  have := bits_le_of hi
  have := bits_le_of hj
  unfold IntMulOk
  have : Builtin.Int.intTooBig ((Builtin.Int.intBits i : Nat) + (Builtin.Int.intBits j : Nat) : Int) = false := by
    unfold Builtin.Int.intTooBig bitsLine
    exact decide_eq_false (by have : (2 : Nat) ^ 27 = 134217728 := by decide
                              omega)
  rw [this]; simp

theorem abs_add {i j : Int} {n m : Nat} (hi : i.natAbs ≤ 2 ^ n) (hj : j.natAbs ≤ 2 ^ m) : (i + j).natAbs ≤ 2 ^ (Nat.max n m + 1) := by
  rw [Nat.pow_succ, Nat.mul_two]
  exact Nat.le_trans (Int.natAbs_add_le i j) (Nat.add_le_add (Nat.le_trans hi (pow_le (Nat.le_max_left n m))) (Nat.le_trans hj (pow_le (Nat.le_max_right n m))))
theorem abs_sub {i j : Int} {n m : Nat} (hi : i.natAbs ≤ 2 ^ n) (hj : j.natAbs ≤ 2 ^ m) : (i - j).natAbs ≤ 2 ^ (Nat.max n m + 1) := by
  rw [Int.sub_eq_add_neg]
  exact abs_add hi (by rw [Int.natAbs_neg]; exact hj)
theorem abs_mul' {i j : Int} {n m : Nat} (hi : i.natAbs ≤ 2 ^ n) (hj : j.natAbs ≤ 2 ^ m) : (i * j).natAbs ≤ 2 ^ (n + m) := by
  rw [Int.natAbs_mul, pow_split]; exact Nat.mul_le_mul hi hj
theorem abs_fmod {i j : Int} (h : j ≠ 0) : (i.fmod j).natAbs ≤ j.natAbs := by
  have pos : ∀ (i j : Int), 0 < j → (i.fmod j).natAbs ≤ j.natAbs := fun i j hj =>
    Int.ofNat_le.mp (by rw [Int.natAbs_of_nonneg (Int.fmod_nonneg_of_pos i hj), Int.natAbs_of_nonneg (Int.le_of_lt hj)]; exact Int.le_of_lt (Int.fmod_lt_of_pos i hj))
  rcases Int.lt_or_gt_of_ne h with hj | hj
  · have := pos (-i) (-j) (Int.neg_pos_of_neg hj)
    rw [Int.neg_fmod_neg, Int.natAbs_neg, Int.natAbs_neg] at this
    exact this
  · exact pos i j hj
theorem abs_fdiv {i j : Int} (h : j ≠ 0) : (i.fdiv j).natAbs ≤ i.natAbs := by
  have pos : ∀ (i j : Int), 0 < j → (i.fdiv j).natAbs ≤ i.natAbs := fun i j hj => by
    rw [Int.fdiv_eq_ediv_of_nonneg i (by omega)]
    exact Int.natAbs_ediv_le_natAbs i j
  rcases Int.lt_or_gt_of_ne h with hj | hj
  · have := pos (-i) (-j) (Int.neg_pos_of_neg hj)
    rw [Int.neg_fdiv_neg, Int.natAbs_neg] at this
    exact this
  · exact pos i j hj

section
variable {prog : Program} {w : World} {A : Around} {h₀ : Heap} {F : Addr → Prop} {s : Shared} {ρ : List Addr} {σ : Sto}

abbrev Q1 (h₀ : Heap) (F : Addr → Prop) (s : Shared) (ρ : List Addr) (σ : Sto) (d : D) : Value → Shared → Prop := fun v s' =>
  Ev h₀ F nobody s ρ σ s' ρ σ ∧ Rep s'.heap (Mv F ρ σ) ρ d v

theorem q_int (I : Inv h₀ F s.heap ρ σ) {i : Int} {n : Nat} (h : i.natAbs ≤ 2 ^ n) {t tk : Tok} : Q1 h₀ F s ρ σ (.int i n) (.int i t) { s with toks := tk } := ⟨Ev.tok I tk, ⟨t, rfl⟩, h⟩

theorem bin_ok (I : Inv h₀ F s.heap ρ σ) {op : Operator} {a b d : D} {o : Bool} {va vb : Value} (e : binD op a b = some (d, o)) (ho : o = true)
    (ra : Rep s.heap (Mv F ρ σ) ρ a va) (rb : Rep s.heap (Mv F ρ σ) ρ b vb) : wpAny (model prog w) A (binaryOp op va vb) (Q1 h₀ F s ρ σ d) no s := by
  cases op with
  | Add =>
    cases a with
    | int i n =>
      cases b with
      | int j m =>
        obtain ⟨rfl, rfl⟩ := some2 e
        obtain ⟨⟨t, rfl⟩, hi⟩ := ra; obtain ⟨⟨u, rfl⟩, hj⟩ := rb
        exact P.add_int (q_int I (abs_add hi hj))
      | _ => exact no_some e
    | lst la =>
      cases b with
      | lst lb =>
        obtain ⟨rfl, rfl⟩ := some2 e
        obtain ⟨l, xs, rfl, hl, ml, rl⟩ := ra
        obtain ⟨m, ys, rfl, hm, mm, rm⟩ := rb
        have hz := Nat.le_of_ble_eq_true ho
        have hsz : xs.length + ys.length ≤ sizeLine := by rw [rl.length, rm.length, sizeLine_eq]; omega
        obtain ⟨⟨cls, dd, data, sl⟩, ho1, hc, n, hd⟩ := id hl
        obtain ⟨⟨cls2, dd2, data2, sl2⟩, ho2, hc2, n2, hd2⟩ := id hm
        simp only at hc hd hc2 hd2
        subst hc hd hc2 hd2
        have e : xs.toArray ++ ys.toArray = (xs ++ ys).toArray := by simp
        refine concat_meets ⟨_, ho1, rfl⟩ ⟨_, ho2, rfl⟩ noFill_list_add seq_list_add PySem.F.slot_list_add PySem.F.entry_list_add (PySem.F.args_list_add_2 _ _)
          (list_addW l m xs.toArray ys.toArray n n2 dd dd2 sl sl2 (by simpa using hsz)) ⟨ho1, ho2, ?_⟩
        rw [e]
        have X : Ev h₀ F nobody s ρ σ { s with heap := s.heap.push { cls := .type "list", data := .seq (xs ++ ys).toArray } } ρ σ := Ev.push I _
        have G := X.grows0 I
        refine ⟨X, _, _, rfl, ⟨_, Heap.get?_push_size _ rfl, rfl, _, rfl⟩, fun q => ?_, Reps.mono G _ _ (Reps.append rl rm)⟩
        obtain ⟨o, h1, _⟩ := I.lists q
        exact Nat.lt_irrefl _ (Heap.lt_size h1)
      | _ => exact no_some e
    | _ => exact no_some e
  | Sub =>
    cases a with
    | int i n =>
      cases b with
      | int j m =>
        obtain ⟨rfl, rfl⟩ := some2 e
        obtain ⟨⟨t, rfl⟩, hi⟩ := ra; obtain ⟨⟨u, rfl⟩, hj⟩ := rb
        exact P.sub_int (q_int I (abs_sub hi hj))
      | _ => exact no_some e
    | bool p =>
      cases b with
      | bool q =>
        obtain ⟨rfl, rfl⟩ := some2 e
        have ra' : va = _ := ra
        have rb' : vb = _ := rb
        subst ra' rb'
        refine PyProof.Rows.sub_bool ?_
        refine ⟨Ev.tok I _, ⟨s.toks, ?_⟩, ?_⟩
        · cases p <;> cases q <;> rfl
        · cases p <;> cases q <;> decide
      | _ => exact no_some e
    | _ => exact no_some e
  | Mult =>
    cases a with
    | int i n =>
      cases b with
      | int j m =>
        obtain ⟨rfl, rfl⟩ := some2 e
        obtain ⟨⟨t, rfl⟩, hi⟩ := ra; obtain ⟨⟨u, rfl⟩, hj⟩ := rb
        exact P.mul_int (q_int I (abs_mul' hi hj)) (mulOk_of hi hj (Nat.le_of_ble_eq_true ho))
      | _ => exact no_some e
    | _ => exact no_some e
  | FloorDiv =>
    cases a with
    | int i n =>
      cases b with
      | int j m =>
        obtain ⟨rfl, rfl⟩ := some2 e
        obtain ⟨⟨t, rfl⟩, hi⟩ := ra; obtain ⟨⟨u, rfl⟩, hj⟩ := rb
        obtain ⟨o1, o2⟩ := andB_true ho
        have h0 := bne_iff_ne.mp o1
        exact PyProof.Rows.floordiv_int h0 (q_int I (Nat.le_trans (abs_fdiv h0) hi)) (.inl (PyProof.noPylong_of_log2 (by have := log2_lt_of hj; have := Nat.le_of_ble_eq_true o2; omega)))
      | _ => exact no_some e
    | _ => exact no_some e
  | Mod =>
    cases a with
    | int i n =>
      cases b with
      | int j m =>
        obtain ⟨rfl, rfl⟩ := some2 e
        obtain ⟨⟨t, rfl⟩, hi⟩ := ra; obtain ⟨⟨u, rfl⟩, hj⟩ := rb
        have h0 := bne_iff_ne.mp ho
        exact PyProof.Rows.mod_int' h0 (q_int I (Nat.le_trans (abs_fmod h0) hj))
      | _ => exact no_some e
    | _ => exact no_some e
  | Pow =>
    cases a with
    | int i n =>
      cases b with
      | int j m =>
        obtain ⟨rfl, rfl⟩ := some2 e
        obtain ⟨⟨t, rfl⟩, hi⟩ := ra; obtain ⟨⟨u, rfl⟩, hj⟩ := rb
        obtain ⟨o1, o2⟩ := andB_true ho
        obtain ⟨o2, o3⟩ := andB_true o2
        have h1 := of_decide_eq_true o1
        have h2 := of_decide_eq_true o2
        have h3 := Nat.le_of_ble_eq_true o3
        refine AutoIntOps.pow_4 (by omega) (by simp; omega) (by simp; omega) (by simp; omega) ?_ (show Q1 h₀ F s ρ σ _ _ _ from q_int I ?_)
        · unfold Builtin.Int.intTooBig bitsLine
          have hb : Builtin.Int.intBits i = i.natAbs.log2 + 1 := by unfold Builtin.Int.intBits; rw [if_neg (by simp; omega)]
          rw [hb]
          have hj' : j = (j.toNat : Int) := by omega
          have : (((i.natAbs.log2 + 1 : Nat) : Int) * j) = (((i.natAbs.log2 + 1) * j.toNat : Nat) : Int) := by rw [Int.natCast_mul, ← hj']
          rw [this]
          have h27 : (2 : Nat) ^ 27 = 134217728 := by decide
          simp only [decide_eq_true_eq]
          omega
        · rw [Int.natAbs_pow, Nat.pow_mul]
          exact Nat.pow_le_pow_left hi _
      | _ => exact no_some e
    | _ => exact no_some e
  | _ => exact no_some e
end

/-! comparisons -/
section
variable {A : Around} {s : Shared} {M : Addr → Prop} {ρ : List Addr}
open SeqAt MeetsSeq

theorem toArray_get {vs : List Value} {j : Nat} (h : j < vs.toArray.size) : vs[j]? = some vs.toArray[j] := by
  simp at h; simp [h]

noncomputable def eqAtD (f : D → D → Option Bool) (l m : List D) (j : Nat) : Bool := match l[j]?, m[j]? with
  | some a, some b => (f a b).getD false
  | _, _ => false
theorem all_range_succ (n : Nat) (f : Nat → Bool) : (List.range (n + 1)).all f = (f 0 && (List.range n).all fun i => f (i + 1)) := by
  rw [List.range_succ_eq_map, List.all_cons, List.all_map]
  rfl
theorem eqDs_len {f : D → D → Option Bool} : ∀ {l m : List D} {x : Bool}, eqDs f l m = some x → (l.length = m.length → x = (List.range l.length).all (eqAtD f l m)) ∧ (l.length ≠ m.length → x = false) ∧
    ∀ j a b, l[j]? = some a → m[j]? = some b → ∃ y, f a b = some y ∧ eqAtD f l m j = y
  | [], [], x, h => by
    simp [eqDs] at h; subst h
    exact ⟨fun _ => rfl, fun q => absurd rfl q, fun j a b e => by simp at e⟩
  | [], _ :: _, x, h => by simp [eqDs] at h; subst h; exact ⟨fun q => by simp at q, fun _ => rfl, fun j a b e => by simp at e⟩
  | _ :: _, [], x, h => by simp [eqDs] at h; subst h; exact ⟨fun q => by simp at q, fun _ => rfl, fun j a b _ e => by simp at e⟩
  | a :: l, b :: m, x, h => by
    unfold eqDs at h
    split at h
    · rename_i y z e1 e2
      injection h with h
      obtain ⟨h1, h2, h3⟩ := eqDs_len e2
      refine ⟨fun q => ?_, fun q => ?_, fun j c d ec ed => ?_⟩
      · have q' : l.length = m.length := by simpa using q
        rw [← h, List.length_cons, all_range_succ, h1 q']
        have e0 : eqAtD f (a :: l) (b :: m) 0 = y := by simp [eqAtD, e1]
        have es : (fun i => eqAtD f (a :: l) (b :: m) (i + 1)) = eqAtD f l m := by funext i; simp [eqAtD]
        rw [e0, es]
        cases y <;> simp [andB]
      · have q' : l.length ≠ m.length := by simpa using q
        rw [← h, h2 q']
        cases y <;> rfl
      · cases j with
        | zero =>
          simp at ec ed; subst ec ed
          exact ⟨y, e1, by simp [eqAtD, e1]⟩
        | succ j =>
          obtain ⟨y', h4, h5⟩ := h3 j c d (by simpa using ec) (by simpa using ed)
          exact ⟨y', h4, by rw [← h5]; simp [eqAtD]⟩
    · first | exact no_some h | cases h

theorem rat_eq (p q : Rat) : ((p.num == q.num) && ((p.den : Int) == (q.den : Int))) = decide (p = q) := by
  by_cases h : p = q
  · subst h; simp
  · rw [decide_eq_false h]
    cases e1 : p.num == q.num
    · rfl
    · cases e2 : (p.den : Int) == (q.den : Int)
      · rfl
      · exact absurd (Rat.ext (by simpa using e1) (by have := beq_iff_eq.mp e2; omega)) h

theorem range2_all (f : Nat → Bool) : (List.range 2).all f = (f 0 && f 1) := by
  rw [all_range_succ, all_range_succ]; simp

theorem eqD_same {h : Heap} : ∀ (n : Nat) (a b : D) (v : Value) (x : Bool), eqD n a b = some x → Rep h M ρ a v → Rep h M ρ b v → x = true
  | 0, _, _, _, _, e, _, _ => by simp [eqD] at e
  | n + 1, a, b, v, x, e, ra, rb => by
    have lists : ∀ (l m : List D) (vs : List Value) (x : Bool), eqDs (eqD n) l m = some x → Reps h M ρ l vs → Reps h M ρ m vs → x = true := by
      intro l
      induction l with
      | nil =>
        intro m vs x e rl rm
        have rl' : vs = [] := rl
        subst rl'
        cases m with
        | nil => simp [eqDs] at e; exact e
        | cons b m => obtain ⟨_, _, q, _⟩ := rm; cases q
      | cons a l ih =>
        intro m vs x e rl rm
        obtain ⟨v, r, rfl, ra, rl⟩ := rl
        cases m with
        | nil => have rm' : _ = _ := rm; cases rm'
        | cons b m =>
          obtain ⟨v', r', q, rb, rm⟩ := rm
          cases q
          unfold eqDs at e
          split at e
          · rename_i y z e1 e2
            injection e with e
            rw [← e, eqD_same n a b v y e1 ra rb, ih m r z e2 rl rm]
            rfl
          · first | exact no_some e | cases e
    unfold eqD at e
    split at e
    · injection e with e; subst e
      obtain ⟨⟨t, e1⟩, _⟩ := ra; obtain ⟨⟨u, e2⟩, _⟩ := rb
      rw [e1] at e2; cases e2; simp
    · injection e with e; subst e
      obtain ⟨⟨a, t, u, e1, x1⟩, _⟩ := ra; obtain ⟨⟨a', t', u', e2, x2⟩, _⟩ := rb
      rw [e1] at e2; cases e2
      obtain ⟨o, ho, _, k, hd⟩ := x1
      obtain ⟨o', ho', _, k', hd'⟩ := x2
      rw [ho] at ho'; cases ho'
      rw [hd] at hd'
      simp at hd'
      exact decide_eq_true (Rat.ext hd'.1.1.1 (by omega))
    · obtain ⟨a, vs, e1, x1, r1⟩ := ra; obtain ⟨a', vs', e2, x2, r2⟩ := rb
      rw [e1] at e2; cases e2
      obtain ⟨o, ho, _, k, hd⟩ := x1
      obtain ⟨o', ho', _, k', hd'⟩ := x2
      rw [ho] at ho'; cases ho'
      rw [hd] at hd'
      simp at hd'
      obtain ⟨rfl, _⟩ := hd'
      exact lists _ _ _ _ e r1 r2
    · obtain ⟨a, vs, e1, x1, _, r1⟩ := ra; obtain ⟨a', vs', e2, x2, _, r2⟩ := rb
      rw [e1] at e2; cases e2
      obtain ⟨o, ho, _, k, hd⟩ := x1
      obtain ⟨o', ho', _, k', hd'⟩ := x2
      rw [ho] at ho'; cases ho'
      rw [hd] at hd'
      simp at hd'
      obtain ⟨rfl, _⟩ := hd'
      exact lists _ _ _ _ e r1 r2
    · first | exact no_some e | cases e

theorem eq_items {A : Around} {n : Nat} (ih : ∀ (a b : D) (va vb : Value) (x : Bool), eqD n a b = some x → Rep s.heap M ρ a va → Rep s.heap M ρ b vb → EqAt A s va vb x)
    {l m : List D} {vs ws : List Value} (rl : Reps s.heap M ρ l vs) (rm : Reps s.heap M ρ m ws)
    (hy : ∀ j a b, l[j]? = some a → m[j]? = some b → ∃ y, eqD n a b = some y ∧ eqAtD (eqD n) l m j = y) :
    ∀ j (h1 : j < vs.toArray.size) (h2 : j < ws.toArray.size), EqAt A s vs.toArray[j] ws.toArray[j] (eqAtD (eqD n) l m j) := fun j h1 h2 => by
  have h1' : j < l.length := by rw [← rl.length]; simpa using h1
  have h2' : j < m.length := by rw [← rm.length]; simpa using h2
  obtain ⟨v, e1, r1⟩ := rl.get (d := l[j]) (List.getElem?_eq_getElem h1')
  obtain ⟨u, e2, r2⟩ := rm.get (d := m[j]) (List.getElem?_eq_getElem h2')
  obtain ⟨y, f1, f2⟩ := hy j _ _ (List.getElem?_eq_getElem h1') (List.getElem?_eq_getElem h2')
  rw [toArray_get h1] at e1; cases e1
  rw [toArray_get h2] at e2; cases e2
  rw [f2]
  exact ih _ _ _ _ _ f1 r1 r2

theorem rc_ref : ∀ (n : Nat) (A : Around) (a b : D) (va vb : Value) (x : Bool), A.units + n < cLine → eqD n a b = some x → Rep s.heap M ρ a va → Rep s.heap M ρ b vb →
    EqAt A s va vb x ∧ ((∃ l m, va = .ref l ∧ vb = .ref m) → RcAt A s va vb x ∧ RcNeAt A s va vb (!x))
  | 0, _, _, _, _, _, _, _, e, _, _ => by simp [eqD] at e
  | n + 1, A, a, b, va, vb, x, hu, e, ra, rb => by
    have e0 := e
    have ih : ∀ (a b : D) (va vb : Value) (x : Bool), eqD n a b = some x → Rep s.heap M ρ a va → Rep s.heap M ρ b vb → EqAt A.in1 s va vb x :=
      fun a b va vb x e ra rb => (rc_ref n A.in1 a b va vb x (by simp; omega) e ra rb).1
    have hu' : A.units < cLine := by omega
    have fin : ∀ (l m : Addr), va = .ref l → vb = .ref m → RcAt A s va vb x → RcNeAt A s va vb (!x) → EqAt A s va vb x ∧ ((∃ l m, va = .ref l ∧ vb = .ref m) → RcAt A s va vb x ∧ RcNeAt A s va vb (!x)) := by
      intro l m e1 e2 r1 r2
      refine ⟨?_, fun _ => ⟨r1, r2⟩⟩
      by_cases q : l = m
      · have : va = vb := by rw [e1, e2, q]
        rw [eqD_same _ _ _ _ _ e0 ra (this ▸ rb), this]
        exact EqAt.same _
      · rw [e1, e2] at r1 ⊢
        exact EqAt.of_refs q r1
    unfold eqD at e
    split at e
    · injection e with e; subst e
      obtain ⟨⟨t, rfl⟩, _⟩ := ra; obtain ⟨⟨u, rfl⟩, _⟩ := rb
      exact ⟨(EqGives.int _ _ _ _).at A s, fun ⟨_, _, q, _⟩ => by cases q⟩
    · injection e with e; subst e
      rename_i p np dp q nq dq
      obtain ⟨⟨a, t, u, rfl, x1⟩, _⟩ := ra; obtain ⟨⟨b, t', u', rfl, x2⟩, _⟩ := rb
      have he : ∀ j (h1 : j < #[Value.int p.num t, .int (p.den : Int) u].size) (h2 : j < #[Value.int q.num t', .int (q.den : Int) u'].size),
          EqAt A.in1 s #[Value.int p.num t, .int (p.den : Int) u][j] #[Value.int q.num t', .int (q.den : Int) u'][j] (if j = 0 then p.num == q.num else (p.den : Int) == (q.den : Int)) := by
        intro j h1 h2
        match j, h1 with
        | 0, _ => exact (EqGives.int _ _ _ _).at _ s
        | 1, _ => exact (EqGives.int _ _ _ _).at _ s
      have val : ((List.range (min #[Value.int p.num t, .int (p.den : Int) u].size #[Value.int q.num t', .int (q.den : Int) u'].size)).all (fun j => if j = 0 then p.num == q.num else (p.den : Int) == (q.den : Int)) &&
          #[Value.int p.num t, .int (p.den : Int) u].size == #[Value.int q.num t', .int (q.den : Int) u'].size) = decide (p = q) := by
        show ((List.range 2).all _ && true) = _
        rw [range2_all, Bool.and_true, ← rat_eq]
        rfl
      refine fin a b rfl rfl ?_ ?_
      · rw [← val]; exact RcAt.tuples x1 x2 hu' he
      · rw [← val]; exact RcNeAt.tuples x1 x2 hu' he
    · rename_i l m
      obtain ⟨a, vs, rfl, x1, r1⟩ := ra; obtain ⟨b, ws, rfl, x2, r2⟩ := rb
      obtain ⟨h1, h2, hy⟩ := eqDs_len e
      have e1 : vs.toArray.size = l.length := by rw [List.size_toArray, r1.length]
      have e2 : ws.toArray.size = m.length := by rw [List.size_toArray, r2.length]
      have val : ((List.range (min vs.toArray.size ws.toArray.size)).all (eqAtD (eqD n) l m) && vs.toArray.size == ws.toArray.size) = x := by
        by_cases q : l.length = m.length
        · rw [e1, e2, ← q, Nat.min_self, h1 q]; simp
        · rw [e1, e2, h2 q, Bool.and_eq_false_iff]; right; simpa using q
      refine fin a b rfl rfl ?_ ?_
      · rw [← val]; exact RcAt.tuples x1 x2 hu' (eq_items ih r1 r2 hy)
      · rw [← val]; exact RcNeAt.tuples x1 x2 hu' (eq_items ih r1 r2 hy)
    · rename_i l m
      obtain ⟨a, vs, rfl, x1, _, r1⟩ := ra; obtain ⟨b, ws, rfl, x2, _, r2⟩ := rb
      obtain ⟨h1, h2, hy⟩ := eqDs_len e
      have e1 : vs.toArray.size = l.length := by rw [List.size_toArray, r1.length]
      have e2 : ws.toArray.size = m.length := by rw [List.size_toArray, r2.length]
      by_cases q : l.length = m.length
      · have val : (List.range vs.toArray.size).all (eqAtD (eqD n) l m) = x := by rw [e1, h1 q]
        refine fin a b rfl rfl ?_ ?_
        · rw [← val]; exact RcAt.lists x1 x2 (by rw [e1, e2, q]) hu' (eq_items ih r1 r2 hy)
        · rw [← val]; exact RcNeAt.lists x1 x2 (by rw [e1, e2, q]) hu' (eq_items ih r1 r2 hy)
      · have hne : (vs.toArray.size != ws.toArray.size) = true := by rw [e1, e2]; simpa using q
        rw [h2 q] at fin ⊢
        refine fin a b rfl rfl ?_ ?_
        · exact RcAt.lists_lengths x1 x2 hne hu'
        · exact RcNeAt.lists_lengths x1 x2 hne hu'
    · first | exact no_some e | cases e

theorem eqD_ref {n : Nat} {a b : D} {x : Bool} {h : Heap} {va vb : Value} (e : eqD n a b = some x) (ra : Rep h M ρ a va) (rb : Rep h M ρ b vb) :
    (∃ i j n m, a = .int i n ∧ b = .int j m ∧ x = (i == j)) ∨ (∃ l m, va = .ref l ∧ vb = .ref m) := by
  cases n with
  | zero => simp [eqD] at e
  | succ n =>
    unfold eqD at e
    split at e
    · injection e with e; exact .inl ⟨_, _, _, _, rfl, rfl, e.symm⟩
    · obtain ⟨⟨a, _, _, rfl, _⟩, _⟩ := ra; obtain ⟨⟨b, _, _, rfl, _⟩, _⟩ := rb
      exact .inr ⟨_, _, rfl, rfl⟩
    · obtain ⟨a, _, rfl, _⟩ := ra; obtain ⟨b, _, rfl, _⟩ := rb
      exact .inr ⟨_, _, rfl, rfl⟩
    · obtain ⟨a, _, rfl, _⟩ := ra; obtain ⟨b, _, rfl, _⟩ := rb
      exact .inr ⟨_, _, rfl, rfl⟩
    · first | exact no_some e | cases e
end

section
variable {prog : Program} {w : World} {A : Around} {h₀ : Heap} {F : Addr → Prop} {s : Shared} {ρ : List Addr} {σ : Sto} {K : Nat}

theorem some1 {α : Type} {a b : α} (h : some a = some b) : a = b := by cases h; rfl
theorem cmpD_other {a b : D} (hi : ¬ ∃ i n j m, a = .int i n ∧ b = .int j m) : cmpD .Eq a b = eqD 8 a b ∧ cmpD .NotEq a b = (match eqD 8 a b with | some x => some (!x) | none => none) ∧
    cmpD .Lt a b = none ∧ cmpD .LtE a b = none ∧ cmpD .Gt a b = none ∧ cmpD .GtE a b = none := by
  cases a <;> first | exact ⟨rfl, rfl, rfl, rfl, rfl, rfl⟩ | (cases b <;> first | exact ⟨rfl, rfl, rfl, rfl, rfl, rfl⟩ | exact absurd ⟨_, _, _, _, rfl, rfl⟩ hi)
theorem cmp_ok (hA : AOk K A) {op : CmpOp} {a b : D} {x : Bool} {va vb : Value} (e : cmpD op a b = some x) {M : Addr → Prop}
    (ra : Rep s.heap M ρ a va) (rb : Rep s.heap M ρ b vb) {Q : Value → Shared → Prop} (h : Q (.bool x) s) : wpAny (model prog w) A (compareOp op va vb) Q no s := by
  have hu : A.units + 8 < cLine := by have := hA.un; unfold cLine; omega
  by_cases hi : ∃ i n j m, a = .int i n ∧ b = .int j m
  · obtain ⟨i, n, j, m, rfl, rfl⟩ := hi
    obtain ⟨⟨t, rfl⟩, _⟩ := ra; obtain ⟨⟨u, rfl⟩, _⟩ := rb
    cases op with
    | Eq => obtain rfl := some1 e; exact P.eq_int h
    | NotEq => obtain rfl := some1 e; exact P.ne_int h
    | Lt => obtain rfl := some1 e; exact P.lt_int h
    | LtE => obtain rfl := some1 e; exact P.le_int h
    | Gt => obtain rfl := some1 e; exact P.gt_int h
    | GtE => obtain rfl := some1 e; exact P.ge_int h
    | _ => exact no_some e
  · have ref : ∀ {y}, eqD 8 a b = some y → _ := fun {y} ey => (eqD_ref ey ra rb).resolve_left fun ⟨i, j, n, m, q1, q2, _⟩ => hi ⟨i, n, j, m, q1, q2⟩
    cases op with
    | Eq =>
      rw [(cmpD_other hi).1] at e
      exact ((rc_ref 8 A a b va vb x hu e ra rb).2 (ref e)).1 prog w no Q h
    | NotEq =>
      rw [(cmpD_other hi).2.1] at e
      cases ey : eqD 8 a b with
      | none => rw [ey] at e; exact no_some e
      | some y =>
        rw [ey] at e
        obtain rfl := some1 e
        exact ((rc_ref 8 A a b va vb y hu ey ra rb).2 (ref ey)).2 prog w no Q h
    | Lt => rw [(cmpD_other hi).2.2.1] at e; exact no_some e
    | LtE => rw [(cmpD_other hi).2.2.2.1] at e; exact no_some e
    | Gt => rw [(cmpD_other hi).2.2.2.2.1] at e; exact no_some e
    | GtE => rw [(cmpD_other hi).2.2.2.2.2] at e; exact no_some e
    | _ => exact no_some e
end
end Mine
end

section
set_option autoImplicit false
set_option linter.unusedVariables false
namespace Mine
open PySem PySem.Calls PyProof.Rows

noncomputable def bltV (f : Str) : Value := cond (f == ("range" : Str)) (.type "range") (cond (f == ("list" : Str)) (.type "list") (cond (f == ("enumerate" : Str)) (.type "enumerate")
  (cond (f == ("abs" : Str)) (.builtin "abs") (cond (f == ("max" : Str)) (.builtin "max") (cond (f == ("min" : Str)) (.builtin "min") (cond (f == ("len" : Str)) (.builtin "len") (cond (f == ("sum" : Str)) (.builtin "sum") .none)))))))
theorem bltV_abs : bltV ("abs" : Str) = .builtin "abs" := by decide +kernel
theorem bltV_max : bltV ("max" : Str) = .builtin "max" := by decide +kernel
theorem bltV_min : bltV ("min" : Str) = .builtin "min" := by decide +kernel
theorem bltV_len : bltV ("len" : Str) = .builtin "len" := by decide +kernel
theorem bltV_sum : bltV ("sum" : Str) = .builtin "sum" := by decide +kernel
theorem bltV_range : bltV ("range" : Str) = .type "range" := by decide +kernel
theorem bltV_list : bltV ("list" : Str) = .type "list" := by decide +kernel
theorem bltV_enum : bltV ("enumerate" : Str) = .type "enumerate" := by decide +kernel

theorem cond_beq {α : Type} {f g : Str} {x y : α} {z : α} (h : cond (f == g) x y = z) : (f = g ∧ x = z) ∨ y = z := by
  cases q : f == g with
  | true => rw [q] at h; exact .inl ⟨beq_iff_eq.mp q, h⟩
  | false => rw [q] at h; exact .inr h

section
variable {prog : Program} {w : World} {A : Around} {h₀ : Heap} {F : Addr → Prop} {s : Shared} {ρ : List Addr} {σ : Sto} {K : Nat}

theorem one_rep {h : Heap} {M : Addr → Prop} {ρ : List Addr} {d : D} {vs : List Value} (r : Reps h M ρ [d] vs) : ∃ v, vs = [v] ∧ Rep h M ρ d v := by
  obtain ⟨v, r, rfl, x, y⟩ := r
  have y' : r = [] := y
  subst y'
  exact ⟨v, rfl, x⟩
theorem two_rep {h : Heap} {M : Addr → Prop} {ρ : List Addr} {d e : D} {vs : List Value} (r : Reps h M ρ [d, e] vs) : ∃ v u, vs = [v, u] ∧ Rep h M ρ d v ∧ Rep h M ρ e u := by
  obtain ⟨v, r, rfl, x, y⟩ := r
  obtain ⟨u, rfl, z⟩ := one_rep y
  exact ⟨v, u, rfl, x, z⟩

theorem new_at {h : Heap} : h.get? h.objs.size = none := by
  cases e : h.get? h.objs.size with
  | none => rfl
  | some o => exact absurd (Heap.lt_size e) (Nat.lt_irrefl _)
theorem Inv.fresh (I : Inv h₀ F s.heap ρ σ) {a : Addr} (h : s.heap.get? a = none) : ¬ Mv F ρ σ a := fun q => by
  obtain ⟨o, e, _⟩ := I.lists q
  rw [h] at e; cases e

theorem rangeSize_one (a b : Int) : Builtin.Range.rangeSize a b 1 = if a < b then b - a else 0 := by
  unfold Builtin.Range.rangeSize
  by_cases h : a < b
  · simp [h]
  · simp [h]
theorem range_small {a b : Int} (ha : a.natAbs ≤ 2 ^ 61) (hb : b.natAbs ≤ 2 ^ 61) : Builtin.Range.small a b 1 = true := by
  have h61 : (2 : Nat) ^ 61 = 2305843009213693952 := by decide
  rw [h61] at ha hb
  unfold Builtin.Range.small
  rw [rangeSize_one]
  have l1 : ∀ x : Int, x.natAbs ≤ 4611686018427387904 → Builtin.Range.rangeFitsLong x = true := fun x hx => by
    unfold Builtin.Range.rangeFitsLong
    simp only [Bool.and_eq_true, decide_eq_true_eq]
    constructor <;> omega
  have l2 : Builtin.Range.rangeFitsLong (if a < b then b - a else 0) = true := l1 _ (by split <;> omega)
  rw [l1 a (by omega), l1 b (by omega), l1 1 (by omega), l2]
  simp only [Bool.and_self, Bool.true_and, Bool.or_eq_true]
  right
  rw [if_pos (by decide)]
  exact l1 _ (by omega)

theorem pow61 {n : Nat} {i : Int} (h : i.natAbs ≤ 2 ^ n) (hn : n ≤ 61) : i.natAbs ≤ 2 ^ 61 := Nat.le_trans h (pow_le hn)

theorem sumD_ok {h : Heap} {M : Addr → Prop} {ρ : List Addr} : ∀ {l : List D} {vs : List Value} {i k : Int} {n m : Nat}, sumD l i n = some (k, m) → Reps h M ρ l vs →
    ∃ xs : List (Int × Tok), vs = xs.map (fun p => Value.int p.1 p.2) ∧ k = i + (xs.map Prod.fst).sum ∧ (∀ p ∈ xs, p.1.natAbs ≤ 2 ^ 40) ∧ (i.natAbs ≤ 2 ^ n → k.natAbs ≤ 2 ^ m)
  | [], vs, i, k, n, m, e, r => by
    have r' : vs = [] := r
    subst r'
    simp [sumD] at e
    exact ⟨[], rfl, by simp [e.1], by simp, fun q => by rw [← e.1, ← e.2]; exact q⟩
  | d :: l, vs, i, k, n, m, e, r => by
    obtain ⟨v, r, rfl, x, y⟩ := r
    cases d <;> (try (simp [sumD] at e; done))
    rename_i j p
    unfold sumD at e
    cases hp : Nat.ble p 40 with
    | false => rw [hp] at e; simp at e
    | true =>
      rw [hp] at e
      obtain ⟨⟨t, rfl⟩, hj⟩ := x
      obtain ⟨xs, rfl, h2, h3, h4⟩ := sumD_ok e y
      refine ⟨(j, t) :: xs, rfl, by rw [h2]; simp [Int.add_assoc], ?_, fun q => h4 (abs_add q hj)⟩
      intro p hp'
      rcases List.mem_cons.mp hp' with rfl | hp'
      · exact Nat.le_trans hj (pow_le (Nat.le_of_ble_eq_true hp))
      · exact h3 p hp'

theorem preSum_eq (xs : List (Int × Tok)) : ∀ j, j ≤ xs.length → preSum (numAt xs.toArray) j = ((xs.map Prod.fst).take j).sum
  | 0, _ => by simp [preSum]
  | j + 1, h => by
    have hj : j < xs.length := by omega
    rw [preSum, preSum_eq xs j (by omega), List.take_add_one, List.sum_append]
    simp [numAt, hj]
theorem sum_bound (B : Nat) : ∀ (xs : List (Int × Tok)), (∀ p ∈ xs, p.1.natAbs ≤ B) → ((xs.map Prod.fst).sum).natAbs ≤ xs.length * B
  | [], _ => by simp
  | p :: r, h => by
    have h1 := h p List.mem_cons_self
    have h2 := sum_bound B r fun q hq => h q (List.mem_cons_of_mem _ hq)
    simp only [List.map_cons, List.sum_cons, List.length_cons]
    have := Int.natAbs_add_le p.1 (r.map Prod.fst).sum
    rw [Nat.succ_mul]
    omega

theorem inLong_of {x : Int} (h : x.natAbs ≤ 1000 * 2 ^ 40) : InLong x := by
  have h40 : (2 : Nat) ^ 40 = 1099511627776 := by decide
  rw [h40] at h
  unfold InLong
  constructor <;> omega

theorem reps_ints {h : Heap} {M : Addr → Prop} {ρ : List Addr} (a : Int) : ∀ (vs : List Value) (k : Nat), (∀ (j : Nat) (v : Value), vs[j]? = some v → ∃ t, v = .int (a + ((k + j : Nat) : Int)) t) →
    Reps h M ρ ((List.range' k vs.length).map fun (i : Nat) => litD (a + i)) vs
  | [], k, _ => rfl
  | v :: vs, k, e => by
    obtain ⟨t, rfl⟩ := e 0 v rfl
    refine ⟨_, vs, rfl, rep_lit _ _, reps_ints a vs (k + 1) fun j u eu => ?_⟩
    have := e (j + 1) u (by simpa using eu)
    rwa [show k + (j + 1) = k + 1 + j by omega] at this

theorem bltin_three {σ : Sto} {f : Str} {a b c : D} {r : List D} : bltin σ f (a :: b :: c :: r) = none := by
  cases a <;> first | rfl | (cases b <;> rfl)
theorem builtin_ok (hA : AOk K A) (I : Inv h₀ F s.heap ρ σ) {f : Str} {args : List D} {d : D} {o : Bool} {vals : List Value} (e : bltin σ f args = some (d, o)) (ho : o = true)
    (r : Reps s.heap (Mv F ρ σ) ρ args vals) : wpAny (model prog w) A (call (bltV f) vals) (Q1 h₀ F s ρ σ d) no s := by
  cases args with
  | nil => exact no_some e
  | cons a0 t0 =>
    cases t0 with
    | nil =>
      cases a0 with
      | int i n =>
        dsimp only [bltin] at e
        obtain ⟨v, rfl, ⟨⟨t, rfl⟩, hi⟩⟩ := one_rep r
        rcases cond_beq e with ⟨rfl, e⟩ | e
        · injection e with e; injection e with e1 e2; subst e1
          rw [bltV_abs]
          refine call_abs_int fun u tk => q_int I (by split <;> omega)
        rcases cond_beq e with ⟨rfl, e⟩ | e
        · injection e with e; injection e with e1 e2; subst e1 e2
          rw [bltV_range]
          have X : Ev h₀ F nobody s ρ σ { s with heap := s.heap.push { cls := .type "range", data := .fields #[.int 0 s.toks, .int i t, .int 1 (s.toks + 1)] }, toks := s.toks + 1 + 1 } ρ σ :=
            Ev.of_keep I fun b o eb => Heap.get?_push_of_some _ eb
          refine call_range_1 ⟨X, ⟨_, _, _, _, rfl, Heap.get?_push_size _ rfl⟩, Nat.zero_le _, pow61 hi (Nat.le_of_ble_eq_true ho)⟩
        · first | exact no_some e | cases e
      | lst l =>
        dsimp only [bltin] at e
        obtain ⟨v, rfl, a, vs, rfl, hl, hm, rl⟩ := one_rep r
        rcases cond_beq e with ⟨rfl, e⟩ | e
        · injection e with e; injection e with e1 e2; subst e1 e2
          rw [bltV_len]
          have hz := Nat.le_of_ble_eq_true ho
          have e1 : vs.toArray.size = l.length := by rw [List.size_toArray, rl.length]
          refine call_len_list hl (by rw [e1]; omega) ?_
          rw [e1]
          rw [lenD_eq]
          exact ⟨Ev.tok I _, rep_lit _ _⟩
        rcases cond_beq e with ⟨rfl, e⟩ | e
        · injection e with e; injection e with e1 e2; subst e1 e2
          rw [bltV_list]
          obtain ⟨ob, h1, h2, n, h3⟩ := hl
          refine call_list_seq a (.inl rfl) h1 h2 h3 (fun h' c' k hn => ?_) (by rw [List.size_toArray, rl.length, sizeLine_eq]; have := Nat.le_of_ble_eq_true ho; omega)
          have X : Ev h₀ F nobody s ρ σ { s with heap := h' } ρ σ := Ev.of_keep I (tk := s.toks) k
          exact ⟨X, _, vs, rfl, ⟨_, hn, rfl, _, rfl⟩, I.fresh new_at, Reps.mono (X.grows0 I) _ _ rl⟩
        rcases cond_beq e with ⟨rfl, e⟩ | e
        · split at e
          · rename_i i n es
            injection e with e; injection e with e1 e2; subst e1 e2
            rw [bltV_sum]
            obtain ⟨xs, rfl, h2, h3, h4⟩ := sumD_ok es rl
            have hlen : xs.length ≤ 1000 := by have := Nat.le_of_ble_eq_true ho; have := rl.length; simp at this; omega
            have hl' : s.heap.IsList a (intItems xs.toArray) := by
              have : intItems xs.toArray = (xs.map fun p => Value.int p.1 p.2).toArray := by simp [intItems]
              rw [this]; exact hl
            have small : ∀ j, j ≤ xs.length → InLong (preSum (numAt xs.toArray) j) := fun j hj => by
              rw [preSum_eq xs j hj, ← List.map_take]
              refine inLong_of (Nat.le_trans (sum_bound _ (xs.take j) fun p hp => h3 p (List.mem_of_mem_take hp)) (Nat.mul_le_mul_right _ ?_))
              rw [List.length_take]; omega
            refine sum_intList hA.hh hl' (fun j hj => ?_) fun h' tk t' k => ?_
            · have hj' : j < xs.length := by simpa using hj
              refine ⟨?_, small (j + 1) (by omega)⟩
              have e1 : numAt xs.toArray j = xs[j].1 := by simp [numAt, hj']
              rw [e1]
              exact inLong_of (Nat.le_trans (h3 _ (List.getElem_mem hj')) (by rw [Nat.mul_comm]; exact Nat.le_mul_of_pos_right _ (by decide)))
            · refine ⟨Ev.of_keep I k, ⟨t', ?_⟩, h4 (by decide)⟩
              rw [List.size_toArray, preSum_eq xs _ (Nat.le_refl _), List.take_of_length_le (by simp), h2, Int.zero_add]
          · first | exact no_some e | cases e
        · first | exact no_some e | cases e
      | rng a b =>
        dsimp only [bltin] at e
        obtain ⟨v, rfl, ⟨ra, t, u, w', rfl, hr⟩, ha, hb⟩ := one_rep r
        rcases cond_beq e with ⟨rfl, e⟩ | e
        · injection e with e; injection e with e1 e2; subst e1 e2
          rw [bltV_list]
          have hn : Builtin.Range.rangeSize a b 1 = ((b - a).toNat : Nat) := by rw [rangeSize_one]; split <;> omega
          have hz := Nat.le_of_ble_eq_true ho
          refine call_list_range hA.hh hr (range_small ha hb) hn (Nat.le_trans hz (by decide)) fun h' tk acc c' k hL hi => ?_
          refine ⟨Ev.of_keep I k, _, acc.toList, rfl, ⟨_, hL, rfl, c', by simp⟩, I.fresh new_at, ?_⟩
          have := reps_ints (h := h') (M := Mv F ρ σ) (ρ := ρ) a acc.toList 0 (fun j v ev => by
            have := hi.2 j v (by simpa using ev)
            simpa using this)
          rw [Array.length_toList, hi.1, ← List.range_eq_range'] at this
          exact this
        · first | exact no_some e | cases e
      | «mut» k =>
        dsimp only [bltin] at e
        obtain ⟨v, rfl, a, rfl, ea⟩ := one_rep r
        split at e
        · rename_i l el
          rcases cond_beq e with ⟨rfl, e⟩ | e
          · injection e with e; injection e with e1 e2; subst e1 e2
            rw [bltV_len]
            obtain ⟨b, vs, eb, hl, rl⟩ := I.obj k l (getD_some el)
            have hl := pl_list hl
            rw [ea] at eb; cases eb
            have hz := Nat.le_of_ble_eq_true ho
            have e1 : vs.toArray.size = l.length := by rw [List.size_toArray, rl.length]
            refine call_len_list hl (by rw [e1]; omega) ?_
            rw [e1]
            rw [lenD_eq]
            exact ⟨Ev.tok I _, rep_lit _ _⟩
          · first | exact no_some e | cases e
        · first | exact no_some e | cases e
      | _ => exact no_some e
    | cons b0 t1 =>
      cases t1 with
      | cons _ _ => exact no_some (bltin_three.symm.trans e)
      | nil =>
        cases a0 with
        | int i n =>
          cases b0 with
          | int j m =>
            dsimp only [bltin] at e
            obtain ⟨v, u, rfl, ⟨⟨t, rfl⟩, hi⟩, ⟨⟨t', rfl⟩, hj⟩⟩ := two_rep r
            have hmx : ∀ x : Int, x = i ∨ x = j → x.natAbs ≤ 2 ^ Nat.max n m := fun x q => by
              rcases q with rfl | rfl
              · exact Nat.le_trans hi (pow_le (Nat.le_max_left _ _))
              · exact Nat.le_trans hj (pow_le (Nat.le_max_right _ _))
            rcases cond_beq e with ⟨rfl, e⟩ | e
            · injection e with e; injection e with e1 e2; subst e1 e2
              rw [bltV_max]
              refine max_two_ints hA.hh fun h' tk k => ⟨Ev.of_keep I k, ?_⟩
              split
              · exact ⟨⟨_, rfl⟩, hmx _ (.inr rfl)⟩
              · exact ⟨⟨_, rfl⟩, hmx _ (.inl rfl)⟩
            rcases cond_beq e with ⟨rfl, e⟩ | e
            · injection e with e; injection e with e1 e2; subst e1 e2
              rw [bltV_min]
              refine min_two_ints hA.hh fun h' tk k => ⟨Ev.of_keep I k, ?_⟩
              split
              · exact ⟨⟨_, rfl⟩, hmx _ (.inr rfl)⟩
              · exact ⟨⟨_, rfl⟩, hmx _ (.inl rfl)⟩
            rcases cond_beq e with ⟨rfl, e⟩ | e
            · injection e with e; injection e with e1 e2; subst e1 e2
              obtain ⟨o1, o2⟩ := andB_true ho
              rw [bltV_range]
              have X : Ev h₀ F nobody s ρ σ { s with heap := s.heap.push { cls := .type "range", data := .fields #[.int i t, .int j t', .int 1 s.toks] }, toks := s.toks + 1 } ρ σ :=
                Ev.of_keep I fun b o eb => Heap.get?_push_of_some _ eb
              refine call_range_2 ⟨X, ⟨_, _, _, _, rfl, Heap.get?_push_size _ rfl⟩, pow61 hi (Nat.le_of_ble_eq_true o1), pow61 hj (Nat.le_of_ble_eq_true o2)⟩
            · first | exact no_some e | cases e
          | _ => exact no_some e
        | _ => exact no_some e
end
end Mine
end

section
set_option autoImplicit false
set_option linter.unusedVariables false
namespace Mine
open PySem PySem.Calls PyProof.Rows

noncomputable def CallSpec (prog : Program) (w : World) (h₀ : Heap) (K : Nat) (a : Addr) (args : List D) (d : D) : Prop :=
  ∀ (A : Around) (s : Shared) (F : Addr → Prop) (vals : List Value), AOk K A → Inv h₀ F s.heap [] [] → Reps s.heap (Mv F [] []) [] args vals →
    wpAny (model prog w) A (call (.ref a) vals) (Q1 h₀ F s [] [] d) no s

noncomputable def HookSpec (prog : Program) (w : World) (h₀ : Heap) (K : Nat) (a : Addr) (σ : Sto) (args : List D) (d : D) (σ' : Sto) : Prop :=
  ∀ (A : Around) (s : Shared) (F : Addr → Prop) (ρ : List Addr) (vals : List Value), AOk K A → Inv h₀ F s.heap ρ σ → Reps s.heap (Mv F ρ σ) ρ args vals →
    wpAny (model prog w) A (call (.ref a) vals) (fun v s' => ∃ ρ', Ev h₀ F nobody s ρ σ s' ρ' σ' ∧ Rep s'.heap (Mv F ρ' σ') ρ' d v) no s

structure Gd (prog : Program) (w : World) (h₀ : Heap) (c : Cfg) (K : Nat) (mg mb : Str → Option Value) : Prop where
  g : h₀.Ns mainGlobals mg
  b : h₀.Ns builtinsNs mb
  nolim : h₀.NoLimit
  glob : ∀ x d, c.glob.lookup x = some d → ∃ v, mg x = some v ∧ Rep h₀ nobody [] d v
  blt : ∀ x, (isBltin x = true ∨ x = ("enumerate" : Str)) → mg x = none ∧ mb x = some (bltV x)
  fns : ∀ f fn, c.fns f = some fn → ∃ a o params pm cd doc, mg f = some (.ref a) ∧ h₀.get? a = some o ∧ o.data = .func (docDef f params fn.body fn.scope pm cd doc) ∧ h₀.CodeRec cd f ∧
    (∀ vals : List Value, vals.length = fn.params.length → bindArgs (docDef f params fn.body fn.scope pm cd doc) ⟨vals, []⟩ = pure (fn.params.zip vals))
  hk : ∀ f σ args d σ' o, c.hk f σ args = some (d, σ', o) → o = true → ∃ a ob fd, mg f = some (.ref a) ∧ h₀.get? a = some ob ∧ ob.data = .func fd ∧ HookSpec prog w h₀ K a σ args d σ'
  tab : ∀ f args d o, c.tab f args = some (d, o) → o = true → ∃ a ob fd, mg f = some (.ref a) ∧ h₀.get? a = some ob ∧ ob.data = .func fd ∧ CallSpec prog w h₀ K a args d

structure Cx (h₀ : Heap) (K : Nat) (F : Addr → Prop) (env : Env) (A : Around) (s : Shared) (ρ : List Addr) (sc : Sc) (vs : Vars) (st : St) : Prop where
  inv : Inv h₀ F s.heap ρ st.sto
  fm : Fm h₀ env sc vs s.heap (Mv F ρ st.sto) ρ
  aok : AOk (K + st.dep) A

section
variable {prog : Program} {w : World} {h₀ : Heap} {c : Cfg} {K : Nat} {mg mb : Str → Option Value} {F : Addr → Prop} {env : Env} {A : Around} {s s' : Shared} {ρ ρ' : List Addr} {sc : Sc} {vs : Vars} {st st' : St}

theorem Cx.step (x : Cx h₀ K F env A s ρ sc vs st) (e : Ev h₀ F nobody s ρ st.sto s' ρ' st'.sto) (hd : st'.dep = st.dep) : Cx h₀ K F env A s' ρ' sc vs st' :=
  ⟨e.inv, x.fm.mono0 x.inv e, by rw [hd]; exact x.aok⟩

variable (prog w h₀ K) in
noncomputable def SoundE (E : Sc → Vars → St → Expr → Option (D × St × Bool)) : Prop := ∀ sc vs st e d st' o, E sc vs st e = some (d, st', o) → o = true → ∀ F env A s ρ, Cx h₀ K F env A s ρ sc vs st →
  wpAny (model prog w) A (eval e env) (PE h₀ F s ρ st d st') no s

noncomputable def PT (h₀ : Heap) (F : Addr → Prop) (s : Shared) (ρ : List Addr) (st : St) (b : Bool) (st' : St) : Bool → Shared → Prop := fun b' s' =>
  b' = b ∧ ∃ ρ', Ev h₀ F nobody s ρ st.sto s' ρ' st'.sto ∧ st'.dep = st.dep
variable (prog w h₀ K) in
noncomputable def SoundT (T : Sc → Vars → St → Expr → Option (Bool × St × Bool)) : Prop := ∀ sc vs st e b st' o, T sc vs st e = some (b, st', o) → o = true → ∀ F env A s ρ, Cx h₀ K F env A s ρ sc vs st →
  wpAny (model prog w) A (isTrue e env (eval e env)) (PT h₀ F s ρ st b st') no s

inductive FlRep (h : Heap) (M : Addr → Prop) (ρ : List Addr) : Fl → Flow → Prop
  | next : FlRep h M ρ .next .next
  | cont : FlRep h M ρ .cont .cont
  | ret {d v} : Rep h M ρ d v → FlRep h M ρ (.ret d) (.ret v)

noncomputable def PS (h₀ : Heap) (F : Addr → Prop) (env : Env) (own : Addr → Prop) (s : Shared) (ρ : List Addr) (sc : Sc) (st : St) (f : Fl) (vs' : Vars) (st' : St) : Flow → Shared → Prop := fun fl s' =>
  ∃ ρ', Ev h₀ F own s ρ st.sto s' ρ' st'.sto ∧ Fm h₀ env sc vs' s'.heap (Mv F ρ' st'.sto) ρ' ∧ FlRep s'.heap (Mv F ρ' st'.sto) ρ' f fl ∧ st'.dep = st.dep
variable (prog w h₀ K) in
noncomputable def SoundS (S : Sc → Vars → St → Stmt → Option (Fl × Vars × St × Bool)) : Prop := ∀ sc vs st t f vs' st' o, S sc vs st t = some (f, vs', st', o) → o = true → ∀ F env A s ρ, Cx h₀ K F env A s ρ sc vs st →
  wpAny (model prog w) A (exec t env) (PS h₀ F env (Own env sc) s ρ sc st f vs' st') no s

theorem starEach_plain {e : Expr} {rest : List Expr} (h : ∀ x p, e ≠ .Starred x p) : starEach (e :: rest) env = (false, eval e env) :: starEach rest env := by
  cases e <;> first | rfl | exact absurd rfl (h _ _)

noncomputable def PEs (h₀ : Heap) (F : Addr → Prop) (s : Shared) (ρ : List Addr) (st : St) (ds : List D) (st' : St) : List Value → Shared → Prop := fun vals s' =>
  ∃ ρ', Ev h₀ F nobody s ρ st.sto s' ρ' st'.sto ∧ Reps s'.heap (Mv F ρ' st'.sto) ρ' ds vals ∧ st'.dep = st.dep

theorem evEs_cons {self : Self} {e : Expr} {es : List Expr} {st : St} (hns : ∀ y p, e ≠ .Starred y p) : evEs self sc vs st (e :: es) = (match self.E sc vs st e with
    | some (d, st1, o1) => (match evEs self sc vs st1 es with
      | some (ds, st2, o2) => some (d :: ds, st2, andB o1 o2)
      | none => none)
    | none => none) := by
  cases e <;> first | rfl | exact absurd rfl (hns _ _)
theorem evEs_ok {self : Self} (SE : SoundE prog w h₀ K self.E) {pos : Pos} : ∀ (es : List Expr) (st : St) (ds : List D) (st' : St) (o : Bool) (s : Shared) (ρ : List Addr), evEs self sc vs st es = some (ds, st', o) → o = true →
    Cx h₀ K F env A s ρ sc vs st → wpAny (model prog w) A (spliced (backTo pos (starEach es env))) (PEs h₀ F s ρ st ds st') no s
  | [], st, ds, st', o, s, ρ, e, ho, x => by
    simp [evEs] at e
    obtain ⟨rfl, rfl, rfl⟩ := e
    exact args_nil ⟨ρ, Ev.refl x.inv, rfl, rfl⟩
  | e :: es, st, ds, st', o, s, ρ, h, ho, x => by
    have hns : ∀ y p, e ≠ .Starred y p := by rintro y p rfl; simp [evEs] at h
    have h' : (match self.E sc vs st e with
      | some (d, st1, o1) => (match evEs self sc vs st1 es with
        | some (ds, st2, o2) => some (d :: ds, st2, andB o1 o2)
        | none => none)
      | none => none) = some (ds, st', o) := by
      rw [← h]
      exact (evEs_cons hns).symm
    split at h'
    · rename_i d st1 o1 e1
      split at h'
      · rename_i ds' st2 o2 e2
        injection h' with h'
        injection h' with h1 h2; injection h2 with h2 h3
        subst h1 h2 h3
        obtain ⟨ho1, ho2⟩ := andB_true ho
        refine args_cons (wpAny_mono (SE _ _ _ _ _ _ _ e1 ho1 _ _ _ _ _ x) (fun v s₁ hv => ?_) fun _ _ q => q) (starEach_plain hns)
        obtain ⟨ρ₁, ev1, r1, d1⟩ := hv
        refine wpAny_mono (evEs_ok SE es st1 ds' st2 o2 s₁ ρ₁ e2 ho2 (x.step ev1 d1)) (fun vals s₂ hvs => ?_) fun _ _ q => q
        obtain ⟨ρ₂, ev2, r2, d2⟩ := hvs
        exact ⟨ρ₂, ev1.trans ev2, ⟨v, vals, rfl, Rep.mono (ev2.grows0 ev1.inv) _ _ r1, r2⟩, d2.trans d1⟩
      · first | exact no_some h' | cases h'
    · first | exact no_some h' | cases h'

theorem rep_tup {h : Heap} {M : Addr → Prop} {ρ : List Addr} {l : List D} {vs : List Value} {a : Addr} (ha : h.IsTuple a vs.toArray) (r : Reps h M ρ l vs) : Rep h M ρ (mkTup l) (.ref a) := by
  have plain : Rep h M ρ (.tup l) (.ref a) := ⟨a, vs, rfl, ha, r⟩
  unfold mkTup
  split
  · rename_i i n j m
    obtain ⟨v, u, rfl, ⟨⟨t, rfl⟩, hi⟩, ⟨⟨t', rfl⟩, hj⟩⟩ := two_rep r
    cases q : decide (j = 1) with
    | true =>
      have q' := of_decide_eq_true q
      subst q'
      refine ⟨⟨a, t, t', rfl, ?_⟩, ?_, ?_⟩
      · simpa using ha
      · simpa using hi
      · simp
    | false =>
      cases q2 : andB (decide (0 < j)) (Nat.beq (Nat.gcd i.natAbs j.natAbs) 1) with
      | false => exact plain
      | true =>
        obtain ⟨q3, q4⟩ := andB_true q2
        have q3 := of_decide_eq_true q3
        have q4 := Nat.eq_of_beq_eq_true q4
        have hn : (mkRat i j.natAbs).num = i := by
          rw [Rat.num_mkRat]
          simp [q4, Nat.gcd_comm]
          intro q; omega
        have hd : (mkRat i j.natAbs).den = j.natAbs := by
          rw [Rat.den_mkRat]
          simp [q4, Nat.gcd_comm]
          omega
        refine ⟨⟨a, t, t', rfl, ?_⟩, ?_, ?_⟩
        · rw [hn, hd]
          have : ((j.natAbs : Nat) : Int) = j := by omega
          rw [this]; exact ha
        · rw [hn]; exact hi
        · rw [hd]; exact hj
  · exact plain

theorem push_Q1 (I : Inv h₀ F s.heap ρ st.sto) {o : Obj} : Ev h₀ F nobody s ρ st.sto { s with heap := s.heap.push o } ρ st.sto := Ev.push I o

theorem E_const {k : Const} {n : Nat} {p : Pos} {d : D} {o : Bool} (e : (match k with
    | .int i => some (litD i, st, true)
    | .bool b => some (.bool b, st, true)
    | .str x => some (.str x, st, true)
    | .none => some (.none, st, true)
    | _ => none) = some (d, st', o)) (x : Cx h₀ K F env A s ρ sc vs st) : wpAny (model prog w) A (eval (.Constant k n p) env) (PE h₀ F s ρ st d st') no s := by
  rw [eval_Constant]
  cases k <;> simp at e
  · obtain ⟨rfl, rfl, _⟩ := e
    exact wpAny_pure ⟨ρ, Ev.refl x.inv, rfl, rfl⟩
  · obtain ⟨rfl, rfl, _⟩ := e
    exact wpAny_pure ⟨ρ, Ev.refl x.inv, rfl, rfl⟩
  · obtain ⟨rfl, rfl, _⟩ := e
    exact wpAny_mkInt ⟨ρ, Ev.tok x.inv _, rep_lit _ _, rfl⟩
  · obtain ⟨rfl, rfl, _⟩ := e
    exact wpAny_mkText ⟨ρ, Ev.tok x.inv _, ⟨_, rfl⟩, rfl⟩

theorem E_name (G : Gd prog w h₀ c K mg mb) {n : Str} {p : Pos} {d : D} {o : Bool} (e : (cond (isLocal sc n) (match vs.lookup n with
      | some d => some (d, st, true)
      | none => none)
    (cond (isGlob sc n) (match c.glob.lookup n with
      | some d => some (d, st, true)
      | none => none) none)) = some (d, st', o)) (x : Cx h₀ K F env A s ρ sc vs st) : wpAny (model prog w) A (eval (.Name n p) env) (PE h₀ F s ρ st d st') no s := by
  cases hl : isLocal sc n with
  | true =>
    rw [hl, cond_true] at e
    split at e
    · rename_i d' hd
      simp at e
      obtain ⟨rfl, rfl, _⟩ := e
      have hk : ∃ k, sc.lookup n = some k := by rcases isLocal_cases hl with q | q | q <;> exact ⟨_, q⟩
      obtain ⟨k, hk⟩ := hk
      exact wpAny_Name (load_var x.fm hl hd fun v r => ⟨ρ, Ev.refl x.inv, r, rfl⟩) (clean_debug x.fm.tidy hk)
    · first | exact no_some e | cases e
  | false =>
    rw [hl, cond_false] at e
    cases hg : isGlob sc n with
    | true =>
      rw [hg, cond_true] at e
      split at e
      · rename_i d' hd
        simp at e
        obtain ⟨rfl, rfl, _⟩ := e
        obtain ⟨v, hv, r⟩ := G.glob n d' hd
        have hk := isGlob_case hg
        refine Name_function_global x.fm.kind (x.fm.glo n hk) (loadGlobal_global (by rw [x.fm.glob]; exact G.g.keeps x.inv.base) hv ⟨ρ, Ev.refl x.inv, ?_, rfl⟩) (clean_debug x.fm.tidy hk)
        exact Rep.mono (h := h₀) (M := nobody) (ρ := []) ⟨fun b o e _ _ => x.inv.base b o e, fun _ q => q.elim, fun a m => .inr (by
          rcases m with m | m
          · exact (x.inv.far a m).1.1
          · exact x.inv.new a m.mem), ⟨ρ, by simp⟩⟩ _ _ r
      · first | exact no_some e | cases e
    | false => rw [hg] at e; first | exact no_some e | cases e
end
end Mine
end

section
set_option autoImplicit false
set_option linter.unusedVariables false
namespace Mine
open PySem PySem.Calls PyProof.Rows

section
variable {prog : Program} {w : World} {h₀ : Heap} {c : Cfg} {K : Nat} {mg mb : Str → Option Value} {F : Addr → Prop} {env : Env} {A : Around} {s s' : Shared} {ρ ρ' : List Addr} {sc : Sc} {vs : Vars} {st st' st1 st2 st3 : St}
  {self : Self} {o o1 o2 o3 : Bool} {d : D}

theorem PE.trans {s1 : Shared} {ρ1 : List Addr} {v : Value} (e : Ev h₀ F nobody s ρ st.sto s1 ρ1 st1.sto) (hd : st1.dep = st.dep) (p : PE h₀ F s1 ρ1 st1 d st2 v s') : PE h₀ F s ρ st d st2 v s' := by
  obtain ⟨ρ2, e2, r, d2⟩ := p
  exact ⟨ρ2, e.trans e2, r, d2.trans hd⟩
theorem PE.of {v : Value} {s1 : Shared} {ρ1 : List Addr} (e : Ev h₀ F nobody s ρ st.sto s1 ρ1 st1.sto) (hd : st1.dep = st.dep) (p : Q1 h₀ F s1 ρ1 st1.sto d v s') : PE h₀ F s ρ st d st1 v s' :=
  ⟨ρ1, e.trans p.1, p.2, hd⟩

theorem E_usub {e : Expr} {p : Pos} {i : Int} {n : Nat} (SE : SoundE prog w h₀ K self.E) (e1 : self.E sc vs st e = some (.int i n, st1, o1)) (ho : o1 = true) (x : Cx h₀ K F env A s ρ sc vs st) :
    wpAny (model prog w) A (eval (.UnaryOp .USub e p) env) (PE h₀ F s ρ st (.int (-i) n) st1) no s := by
  rw [arm_eval_UnaryOp]
  refine wpAny_bind (wpAny_mono (SE _ _ _ _ _ _ _ e1 ho _ _ _ _ _ x) (fun v s1 hv => ?_) fun _ _ q => q)
  obtain ⟨ρ1, ev, ⟨⟨t, rfl⟩, hi⟩, hd⟩ := hv
  exact wpAny_bind (wpAny_standAt (wpAny_holding (P.neg_int (PE.of ev hd (q_int ev.inv (by omega))))))

theorem E_bin {l r : Expr} {op : Operator} {p : Pos} {a b : D} (SE : SoundE prog w h₀ K self.E) (e1 : self.E sc vs st l = some (a, st1, o1)) (h1 : o1 = true) (e2 : self.E sc vs st1 r = some (b, st2, o2)) (h2 : o2 = true)
    (e3 : binD op a b = some (d, o3)) (h3 : o3 = true) (x : Cx h₀ K F env A s ρ sc vs st) : wpAny (model prog w) A (eval (.BinOp l op r p) env) (PE h₀ F s ρ st d st2) no s := by
  refine wpAny_BinOp (wpAny_mono (SE _ _ _ _ _ _ _ e1 h1 _ _ _ _ _ x) (fun va s1 hv => ?_) fun _ _ q => q)
  obtain ⟨ρ1, ev1, r1, d1⟩ := hv
  refine wpAny_mono (SE _ _ _ _ _ _ _ e2 h2 _ _ _ _ _ (x.step ev1 d1)) (fun vb s2 hv => ?_) fun _ _ q => q
  obtain ⟨ρ2, ev2, r2, d2⟩ := hv
  exact wpAny_mono (bin_ok ev2.inv e3 h3 (Rep.mono (ev2.grows0 ev1.inv) _ _ r1) r2) (fun v s3 q => PE.of (ev1.trans ev2) (d2.trans d1) q) fun _ _ q => q

noncomputable def notIn (op : CmpOp) : Bool := match op with | .In => false | .NotIn => false | _ => true
theorem behind_false {op : CmpOp} {e : Expr} (hm : notIn op = true) : behindInMarks op e = false := by
  unfold behindInMarks
  split
  · cases op <;> simp [notIn] at hm ⊢
  · rfl

theorem cmp_not_in {op : CmpOp} {a b : D} {x : Bool} (e : cmpD op a b = some x) : notIn op = true := by
  cases op <;> first | rfl | exact no_some e

theorem E_cmp {l r : Expr} {op : CmpOp} {p : Pos} {a b : D} {y : Bool} (SE : SoundE prog w h₀ K self.E) (e1 : self.E sc vs st l = some (a, st1, o1)) (h1 : o1 = true) (e2 : self.E sc vs st1 r = some (b, st2, o2)) (h2 : o2 = true)
    (e3 : cmpD op a b = some y) (x : Cx h₀ K F env A s ρ sc vs st) : wpAny (model prog w) A (eval (.Compare l [op] [r] p) env) (PE h₀ F s ρ st (.bool y) st2) no s := by
  refine wpAny_Compare1 (wpAny_mono (SE _ _ _ _ _ _ _ e1 h1 _ _ _ _ _ x) (fun va s1 hv => ?_) fun _ _ q => q) (behind_false (cmp_not_in e3))
  obtain ⟨ρ1, ev1, r1, d1⟩ := hv
  refine wpAny_mono (SE _ _ _ _ _ _ _ e2 h2 _ _ _ _ _ (x.step ev1 d1)) (fun vb s2 hv => ?_) fun _ _ q => q
  obtain ⟨ρ2, ev2, r2, d2⟩ := hv
  exact cmp_ok x.aok e3 (Rep.mono (ev2.grows0 ev1.inv) _ _ r1) r2 ⟨ρ2, ev1.trans ev2, rfl, d2.trans d1⟩

theorem brk_ok {p : Pos} {b b' : Bool} (e : brk c p b st = some (b', st1, o1)) (h : o1 = true) : b = b' ∧ st1.sto = st.sto ∧ st1.dep = st.dep := by
  unfold brk at e
  split at e
  · split at e
    · injection e with e; injection e with e1 e2; injection e2 with e2 e3
      subst e1 e2 e3
      exact ⟨beq_iff_eq.mp h, rfl, rfl⟩
    · first | exact no_some e | cases e
  · injection e with e; injection e with e1 e2; injection e2 with e2 e3
    subst e1 e2
    exact ⟨rfl, rfl, rfl⟩

theorem E_bool {l r : Expr} {op : BoolOp} {p : Pos} {b b' : Bool} (SE : SoundE prog w h₀ K self.E) (h1 : o1 = true) (h2 : o2 = true)
    (e3 : (match op, b' with
        | .And, false => some (.bool false, st2, andB o1 o2)
        | .Or, true => some (.bool true, st2, andB o1 o2)
        | _, _ => (match self.E sc vs st2 r with
          | some (d, st3, o3) => some (d, st3, andB o1 (andB o2 o3))
          | none => none)) = some (d, st3, o3)) (h3 : o3 = true) (e1 : self.E sc vs st l = some (.bool b, st1, o1)) (e2 : brk c l.pos b st1 = some (b', st2, o2))
    (x : Cx h₀ K F env A s ρ sc vs st) : wpAny (model prog w) A (eval (.BoolOp op [l, r] p) env) (PE h₀ F s ρ st d st3) no s := by
  rw [arm_eval_BoolOp]
  show wpAny _ A (boolOp p op [eval l env, eval r env]) _ _ _
  unfold boolOp
  refine wpAny_bind (wpAny_mono (SE _ _ _ _ _ _ _ e1 h1 _ _ _ _ _ x) (fun v s1 hv => ?_) fun _ _ q => q)
  obtain ⟨ρ1, ev1, r1, d1⟩ := hv
  have r1' : v = .bool b := r1
  subst r1'
  obtain ⟨rfl, q1, q2⟩ := brk_ok e2 h2
  refine wpAny_bind (wpAny_standAt (wpAny_bind (wpAny_holding (wpAny_truthy_bool ?_))))
  have go : ∀ (d : D), (match self.E sc vs st2 r with | some (d, st3, o3) => some (d, st3, andB o1 (andB o2 o3)) | none => none) = some (d, st3, o3) →
      wpAny (model prog w) A (eval r env) (PE h₀ F s ρ st d st3) no s1 := fun d e => by
    split at e
    · rename_i d' st3' o3' e4
      injection e with e; injection e with e5 e6; injection e6 with e6 e7
      subst e5 e6 e7
      obtain ⟨_, h4⟩ := andB_true h3
      obtain ⟨_, h5⟩ := andB_true h4
      have ev1' : Ev h₀ F nobody s ρ st.sto s1 ρ1 st2.sto := by rw [q1]; exact ev1
      exact wpAny_mono (SE _ _ _ _ _ _ _ e4 h5 _ _ _ _ _ (x.step ev1' (q2.trans d1))) (fun v s2 q => PE.trans ev1' (q2.trans d1) q) fun _ _ q => q
    · first | exact no_some e | cases e
  have ev1' : Ev h₀ F nobody s ρ st.sto s1 ρ1 st2.sto := by rw [q1]; exact ev1
  cases op <;> cases b
  · simp at e3
    obtain ⟨rfl, rfl, _⟩ := e3
    exact wpAny_pure ⟨ρ1, ev1', rfl, q2.trans d1⟩
  · exact go _ e3
  · exact go _ e3
  · simp at e3
    obtain ⟨rfl, rfl, _⟩ := e3
    exact wpAny_pure ⟨ρ1, ev1', rfl, q2.trans d1⟩

theorem E_if {t a b : Expr} {p : Pos} {y : Bool} (SE : SoundE prog w h₀ K self.E) (ST : SoundT prog w h₀ K self.T) (e1 : self.T sc vs st t = some (y, st1, o1)) (h1 : o1 = true) (e2 : self.E sc vs st1 (cond y a b) = some (d, st2, o2)) (h2 : o2 = true)
    (x : Cx h₀ K F env A s ρ sc vs st) : wpAny (model prog w) A (eval (.IfExp t a b p) env) (PE h₀ F s ρ st d st2) no s := by
  rw [arm_eval_IfExp]
  refine wpAny_bind (wpAny_mono (ST _ _ _ _ _ _ _ e1 h1 _ _ _ _ _ x) (fun y' s1 hv => ?_) fun _ _ q => q)
  obtain ⟨rfl, ρ1, ev1, d1⟩ := hv
  have := wpAny_mono (SE _ _ _ _ _ _ _ e2 h2 _ _ _ _ _ (x.step ev1 d1)) (fun v s2 q => PE.trans ev1 d1 q) fun _ _ q => q
  cases y'
  · simpa using this
  · simpa using this

theorem E_tup0 {es : List Expr} {k : Nat} {p : Pos} {l : List D} (SE : SoundE prog w h₀ K self.E) (e1 : evEs self sc vs st es = some (l, st1, o1)) (h1 : o1 = true) (h2 : Nat.ble l.length 1000 = true)
    (x : Cx h₀ K F env A s ρ sc vs st) : wpAny (model prog w) A (eval (.Tuple es k p) env) (PE h₀ F s ρ st (.tup l) st1) no s := by
  refine wpAny_Tuple_spliced (wpAny_mono (evEs_ok SE es _ _ _ _ _ _ e1 h1 x) (fun vals s1 hv => ?_) fun _ _ q => q)
  obtain ⟨ρ1, ev1, r1, d1⟩ := hv
  refine ⟨by rw [r1.length, sizeLine_eq]; have := Nat.le_of_ble_eq_true h2; omega, ρ1, ev1.trans (Ev.push ev1.inv _), ?_, d1⟩
  have G := (Ev.push (own := nobody) ev1.inv { cls := .type "tuple", data := .seq vals.toArray }).grows0 ev1.inv
  exact ⟨_, _, rfl, ⟨_, Heap.get?_push_size _ rfl, rfl, _, rfl⟩, Reps.mono G _ _ r1⟩

theorem E_tup {es : List Expr} {k : Nat} {p : Pos} {l : List D} (SE : SoundE prog w h₀ K self.E) (e1 : evEs self sc vs st es = some (l, st1, o1)) (h1 : o1 = true) (h2 : Nat.ble l.length 1000 = true)
    (x : Cx h₀ K F env A s ρ sc vs st) : wpAny (model prog w) A (eval (.Tuple es k p) env) (PE h₀ F s ρ st (mkTup l) st1) no s := by
  refine wpAny_Tuple_spliced (wpAny_mono (evEs_ok SE es _ _ _ _ _ _ e1 h1 x) (fun vals s1 hv => ?_) fun _ _ q => q)
  obtain ⟨ρ1, ev1, r1, d1⟩ := hv
  refine ⟨by rw [r1.length, sizeLine_eq]; have := Nat.le_of_ble_eq_true h2; omega, ρ1, ev1.trans (Ev.push ev1.inv _), ?_, d1⟩
  have G := (Ev.push (own := nobody) ev1.inv { cls := .type "tuple", data := .seq vals.toArray }).grows0 ev1.inv
  exact rep_tup ⟨_, Heap.get?_push_size _ rfl, rfl, _, rfl⟩ (Reps.mono G _ _ r1)

theorem list_ok {p : Pos} {l : List D} {vals : List Value} (e : newLst c p l st o1 = some (d, st', o)) (I : Inv h₀ F s.heap ρ st.sto) (r : Reps s.heap (Mv F ρ st.sto) ρ l vals) {a : Addr} {h' : Heap} {tk : Tok}
    (ha : s.heap.get? a = none) (k : ∀ b o, s.heap.get? b = some o → h'.get? b = some o) (hl : PlainL h' a vals.toArray) : PE h₀ F s ρ st d st' (.ref a) { s with heap := h', toks := tk } ∧ (o = true → o1 = true) := by
  unfold newLst at e
  cases q : Nat.ble l.length 1000 with
  | false => rw [q] at e; first | exact no_some e | cases e
  | true =>
    rw [q, cond_true] at e
    cases q2 : hasPos c.mt p with
    | true =>
      rw [q2] at e; obtain ⟨rfl, rfl, rfl⟩ := some3 e
      exact ⟨⟨ρ ++ [a], Ev.new I ha k hl r, ⟨a, rfl, by rw [← I.len]; simp⟩, rfl⟩, id⟩
    | false =>
      rw [q2] at e; obtain ⟨rfl, rfl, rfl⟩ := some3 e
      have X : Ev h₀ F nobody s ρ st.sto { s with heap := h', toks := tk } ρ st.sto := Ev.of_keep I k
      exact ⟨⟨ρ, X, ⟨a, vals, rfl, pl_list hl, I.fresh ha, Reps.mono (X.grows0 I) _ _ r⟩, rfl⟩, id⟩

theorem E_list {es : List Expr} {p : Pos} {l : List D} (SE : SoundE prog w h₀ K self.E) (e1 : evEs self sc vs st es = some (l, st1, o1)) (h : o = true) (e2 : newLst c p l st1 o1 = some (d, st', o))
    (hz : Nat.ble l.length 1000 = true) (x : Cx h₀ K F env A s ρ sc vs st) (h1 : o1 = true) : wpAny (model prog w) A (eval (.List es p) env) (PE h₀ F s ρ st d st') no s := by
  refine wpAny_List_spliced (wpAny_mono (evEs_ok SE es _ _ _ _ _ _ e1 h1 x) (fun vals s1 hv => ?_) fun _ _ q => q)
  obtain ⟨ρ1, ev1, r1, d1⟩ := hv
  refine ⟨by rw [r1.length, sizeLine_eq]; have := Nat.le_of_ble_eq_true hz; omega, PE.trans ev1 d1 ?_⟩
  exact (list_ok (tk := s1.toks) e2 ev1.inv r1 new_at (fun b o e => Heap.get?_push_of_some _ e) ⟨_, _, Heap.get?_push_size _ rfl, rfl, rfl, rfl⟩).1

theorem sub_tail {value slice : Expr} {ov iv : Value} {T id : String} {Q : Value → Shared → Prop} {E : Value → Shared → Prop} (hT : s.TypeIs ov T) (hl : typeLookup (.type T) "__getitem__" = pure (some (.builtin id)))
    (hg : wpAny (model prog w) A (getItem ov iv) Q E s) : wpAny (model prog w) A (subscriptTail value slice ov iv) Q E s := by
  have : ∃ ops, subscripted slice false ov iv = operate ops (getItem ov iv) := by
    unfold subscripted
    split <;> first | exact ⟨_, rfl⟩ | contradiction
  obtain ⟨ops, hs⟩ := this
  exact tail_any hT hl hg hs

theorem pow60 {n : Nat} {i : Int} (h : i.natAbs ≤ 2 ^ n) (hn : Nat.ble n 60 = true) (h0 : 0 ≤ i) : i < 2 ^ 63 := by
  have h1 := Nat.le_trans h (pow_le (Nat.le_of_ble_eq_true hn))
  have h60 : (2 : Nat) ^ 60 = 1152921504606846976 := by decide
  omega

theorem E_item {value slice : Expr} {p : Pos} {a : D} {j : Int} {n : Nat} {l : List D} (SE : SoundE prog w h₀ K self.E) (e1 : self.E sc vs st value = some (a, st1, o1)) (h1 : o1 = true) (e2 : self.E sc vs st1 slice = some (.int j n, st2, o2)) (h2 : o2 = true)
    (e3 : itemsOf st2.sto a = some l) (hj : decide (0 ≤ j) = true) (e4 : l[j.toNat]? = some d) (hn : Nat.ble n 60 = true) (x : Cx h₀ K F env A s ρ sc vs st) :
    wpAny (model prog w) A (eval (.Subscript value slice p) env) (PE h₀ F s ρ st d st2) no s := by
  refine Subscript_ (wpAny_mono (SE _ _ _ _ _ _ _ e1 h1 _ _ _ _ _ x) (fun va s1 hv => ?_) fun _ _ q => q)
  obtain ⟨ρ1, ev1, r1, d1⟩ := hv
  refine wpAny_mono (SE _ _ _ _ _ _ _ e2 h2 _ _ _ _ _ (x.step ev1 d1)) (fun vb s2 hv => ?_) fun _ _ q => q
  obtain ⟨ρ2, ev2, ⟨⟨t, rfl⟩, hi⟩, d2⟩ := hv
  have r1 := Rep.mono (ev2.grows0 ev1.inv) _ _ r1
  have hj := of_decide_eq_true hj
  have h63 := pow60 hi hn hj
  have fin : ∀ v, Rep s2.heap (Mv F ρ2 st2.sto) ρ2 d v → PE h₀ F s ρ st d st2 v s2 := fun v r => ⟨ρ2, ev1.trans ev2, r, d2.trans d1⟩
  have onList : ∀ (b : Addr) (ws : List Value), s2.heap.IsList b ws.toArray → Reps s2.heap (Mv F ρ2 st2.sto) ρ2 l ws → wpAny (model prog w) A (subscriptTail value slice (.ref b) (.int j t)) (PE h₀ F s ρ st d st2) no s2 := fun b ws hl rl => by
    obtain ⟨v, ev, rv⟩ := rl.get e4
    exact sub_tail hl.typeIs slot_list_getitem.lookup (wpAny_getItem_list hl hj h63 (by simpa using ev) (fin v rv))
  have onTup : ∀ (b : Addr) (ws : List Value), s2.heap.IsTuple b ws.toArray → Reps s2.heap (Mv F ρ2 st2.sto) ρ2 l ws → wpAny (model prog w) A (subscriptTail value slice (.ref b) (.int j t)) (PE h₀ F s ρ st d st2) no s2 := fun b ws hl rl => by
    obtain ⟨v, ev, rv⟩ := rl.get e4
    have hlt : j.toNat < ws.length := (List.getElem?_eq_some_iff.mp ev).1
    exact sub_tail (Heap.IsTuple.typeIs hl) slot_tuple_getitem.lookup (PyProof.Rows.getItem_tuple hl (by omega) h63 (seqIndex_of hj (by simp; omega)) (by simpa using ev) (fin v rv))
  unfold itemsOf at e3
  split at e3
  · injection e3 with e3; subst e3
    obtain ⟨b, ws, rfl, hl, _, rl⟩ := r1
    exact onList b ws hl rl
  · obtain ⟨b, rfl, eb⟩ := r1
    obtain ⟨b', ws, eb', hl, rl⟩ := ev2.inv.obj _ _ (getD_some e3)
    rw [eb] at eb'; cases eb'
    exact onList b ws (pl_list hl) rl
  · unfold seqOf at e3
    split at e3
    · injection e3 with e3; subst e3
      obtain ⟨b, ws, rfl, hl, rl⟩ := r1
      exact onTup b ws hl rl
    · injection e3 with e3; subst e3
      obtain ⟨⟨b, t1, t2, rfl, hl⟩, hb1, hb2⟩ := r1
      exact onTup b _ hl ⟨_, _, rfl, ⟨⟨_, rfl⟩, hb1⟩, _, _, rfl, ⟨⟨_, rfl⟩, by simpa using hb2⟩, rfl⟩
    · first | exact no_some e3 | cases e3
end
end Mine
end

section
set_option autoImplicit false
set_option linter.unusedVariables false
namespace Mine
open PySem PySem.Calls PyProof.Rows

section
variable {prog : Program} {w : World} {h₀ : Heap} {c : Cfg} {K : Nat} {mg mb : Str → Option Value} {F : Addr → Prop} {env : Env} {A : Around} {s s' : Shared} {ρ ρ' : List Addr} {sc : Sc} {vs : Vars} {st st' st1 st2 st3 : St}
  {self : Self} {o o1 o2 o3 : Bool} {d : D}

theorem pick_take (items : Array Value) {j : Int} (h : 0 ≤ j) : slicePick items none (some j) none = (items.toList.take j.toNat).toArray := by
  obtain ⟨k, rfl⟩ : ∃ k : Nat, j = k := ⟨j.toNat, (Int.toNat_of_nonneg h).symm⟩
  simp only [Int.toNat_natCast]
  have e : slicePick items none (some (k : Int)) none = slicePick items none (some ((min k items.size : Nat) : Int)) none := by
    have : sliceBounds none (some (k : Int)) none items.size = sliceBounds none (some ((min k items.size : Nat) : Int)) none items.size := by
      simp only [sliceBounds, Option.getD_none]
      congr 2
      simp only [show (1 : Int) > 0 by decide, if_true]
      rw [if_neg (by omega), if_neg (by omega)]
      omega
    unfold slicePick
    rw [this]
  rw [e, slicePick_upto _ _ (Nat.min_le_right _ _)]
  congr 1
  by_cases q : k ≤ items.size
  · rw [Nat.min_eq_left q]
  · rw [Nat.min_eq_right (by omega), List.take_of_length_le (by simp), List.take_of_length_le (by simp; omega)]
theorem pick_drop (items : Array Value) {j : Int} (h : 0 ≤ j) : slicePick items (some j) none none = (items.toList.drop j.toNat).toArray := by
  obtain ⟨k, rfl⟩ : ∃ k : Nat, j = k := ⟨j.toNat, (Int.toNat_of_nonneg h).symm⟩
  simp only [Int.toNat_natCast]
  have e : slicePick items (some (k : Int)) none none = slicePick items (some ((min k items.size : Nat) : Int)) none none := by
    have : sliceBounds (some (k : Int)) none none items.size = sliceBounds (some ((min k items.size : Nat) : Int)) none none items.size := by
      simp only [sliceBounds, Option.getD_none]
      congr 1
      simp only [show (1 : Int) > 0 by decide, if_true]
      rw [if_neg (by omega), if_neg (by omega)]
      omega
    unfold slicePick
    rw [this]
  rw [e, slicePick_from _ _ (Nat.min_le_right _ _)]
  congr 1
  by_cases q : k ≤ items.size
  · rw [Nat.min_eq_left q]
  · rw [Nat.min_eq_right (by omega), List.drop_of_length_le (by simp), List.drop_of_length_le (by simp; omega)]

theorem slice_end {value slice : Expr} {lo hi stp : Option Int} {vl vu vp : Value} {l l' : List D} {a : Addr} {ws ws' : List Value} (I : Inv h₀ F s.heap ρ st.sto) (hl : s.heap.IsList a ws.toArray) (r : Reps s.heap (Mv F ρ st.sto) ρ l ws)
    (hz : Nat.ble l.length 1000 = true) (pl : IsPart vl lo) (pu : IsPart vu hi) (pp : IsPart vp stp) (h0 : stp ≠ some 0) (hw : slicePick ws.toArray lo hi stp = ws'.toArray)
    (r' : Reps s.heap (Mv F ρ st.sto) ρ l' ws') :
    wpAny (model prog w) A (subscriptTail value slice (.ref a) (.ref s.heap.objs.size)) (Q1 h₀ F s ρ st.sto (.lst l')) no { s with heap := s.heap.push { cls := .type "slice", data := .fields #[vl, vu, vp] } } := by
  refine sub_tail (hl.push _).typeIs slot_list_getitem.lookup (wpAny_getItem_list_slice (hl.push _) (Heap.IsSliceOf.new ..) pl pu pp h0 ?_ (by rw [List.size_toArray, r.length, sizeLine_eq]; have := Nat.le_of_ble_eq_true hz; omega))
  rw [hw]
  have X : Ev h₀ F nobody s ρ st.sto { s with heap := (s.heap.push { cls := .type "slice", data := .fields #[vl, vu, vp] }).push { cls := .type "list", data := .seq ws'.toArray } } ρ st.sto :=
    Ev.of_keep I (tk := s.toks) fun b o e => Heap.get?_push_of_some _ (Heap.get?_push_of_some _ e)
  refine ⟨X, _, ws', rfl, ⟨_, Heap.get?_push_size _ rfl, rfl, _, rfl⟩, fun q => ?_, Reps.mono (X.grows0 I) _ _ r'⟩
  obtain ⟨ob, e, _⟩ := I.lists q
  have h1 := Heap.lt_size e
  have h2 : (s.heap.push { cls := .type "slice", data := .fields #[vl, vu, vp] }).objs.size = s.heap.objs.size + 1 := Heap.size_push ..
  have h3 : s.heap.objs.size + 1 < s.heap.objs.size := h2 ▸ h1
  omega

theorem E_take {value e : Expr} {p p' : Pos} {l : List D} {j : Int} {n : Nat} (SE : SoundE prog w h₀ K self.E) (e1 : self.E sc vs st value = some (.lst l, st1, o1)) (h1 : o1 = true) (e2 : self.E sc vs st1 e = some (.int j n, st2, o2)) (h2 : o2 = true)
    (hj : decide (0 ≤ j) = true) (hz : Nat.ble l.length 1000 = true) (x : Cx h₀ K F env A s ρ sc vs st) :
    wpAny (model prog w) A (eval (.Subscript value (.Slice none (some e) none p') p) env) (PE h₀ F s ρ st (.lst (l.take j.toNat)) st2) no s := by
  refine Subscript_ (wpAny_mono (SE _ _ _ _ _ _ _ e1 h1 _ _ _ _ _ x) (fun va s1 hv => ?_) fun _ _ q => q)
  obtain ⟨ρ1, ev1, r1, d1⟩ := hv
  refine wpAny_Slice ?_
  rw [evalPart_none, evalPart_some]
  refine wpAny_pure (wpAny_mono (SE _ _ _ _ _ _ _ e2 h2 _ _ _ _ _ (x.step ev1 d1)) (fun vb s2 hv => ?_) fun _ _ q => q)
  obtain ⟨ρ2, ev2, ⟨⟨t, rfl⟩, hi⟩, d2⟩ := hv
  refine wpAny_pure ?_
  obtain ⟨a, ws, rfl, hl, _, r⟩ := Rep.mono (ev2.grows0 ev1.inv) _ _ r1
  exact wpAny_mono (slice_end ev2.inv hl r hz .none (.int j t) .none (by simp) (pick_take _ (of_decide_eq_true hj)) (by simpa using r.take)) (fun v s3 q => PE.of (ev1.trans ev2) (d2.trans d1) q) fun _ _ q => q

theorem E_drop {value e : Expr} {p p' : Pos} {l : List D} {j : Int} {n : Nat} (SE : SoundE prog w h₀ K self.E) (e1 : self.E sc vs st value = some (.lst l, st1, o1)) (h1 : o1 = true) (e2 : self.E sc vs st1 e = some (.int j n, st2, o2)) (h2 : o2 = true)
    (hj : decide (0 ≤ j) = true) (hz : Nat.ble l.length 1000 = true) (x : Cx h₀ K F env A s ρ sc vs st) :
    wpAny (model prog w) A (eval (.Subscript value (.Slice (some e) none none p') p) env) (PE h₀ F s ρ st (.lst (l.drop j.toNat)) st2) no s := by
  refine Subscript_ (wpAny_mono (SE _ _ _ _ _ _ _ e1 h1 _ _ _ _ _ x) (fun va s1 hv => ?_) fun _ _ q => q)
  obtain ⟨ρ1, ev1, r1, d1⟩ := hv
  refine wpAny_Slice ?_
  rw [evalPart_none, evalPart_some]
  refine wpAny_mono (SE _ _ _ _ _ _ _ e2 h2 _ _ _ _ _ (x.step ev1 d1)) (fun vb s2 hv => ?_) fun _ _ q => q
  obtain ⟨ρ2, ev2, ⟨⟨t, rfl⟩, hi⟩, d2⟩ := hv
  refine wpAny_pure (wpAny_pure ?_)
  obtain ⟨a, ws, rfl, hl, _, r⟩ := Rep.mono (ev2.grows0 ev1.inv) _ _ r1
  exact wpAny_mono (slice_end ev2.inv hl r hz (.int j t) .none .none (by simp) (pick_drop _ (of_decide_eq_true hj)) (by simpa using r.drop)) (fun v s3 q => PE.of (ev1.trans ev2) (d2.trans d1) q) fun _ _ q => q

theorem litI_ok {e : Expr} {i : Int} (h : litI e = some i) {Q : Value → Shared → Prop} (hq : ∀ t tk, Q (.int i t) { s with toks := tk }) : wpAny (model prog w) A (eval e env) Q no s := by
  cases e with
  | Constant k a p =>
    cases k with
    | int j =>
      have h : some j = some i := h
      injection h with h; subst h
      exact wpAny_Constant_int (hq _ _)
    | _ => exact no_some h
  | UnaryOp op y p =>
    cases op with
    | USub =>
      cases y with
      | Constant k a q =>
        cases k with
        | int j =>
          have h : some (-j) = some i := h
          injection h with h; subst h
          rw [arm_eval_UnaryOp]
          exact wpAny_bind (wpAny_Constant_int (wpAny_bind (wpAny_standAt (wpAny_holding (P.neg_int (hq _ _))))))
        | _ => exact no_some h
      | _ => exact no_some h
    | _ => exact no_some h
  | _ => exact no_some h

theorem all_items {α : Type} : ∀ l : List α, (List.range l.length).filterMap (fun k => l[k]?) = l
  | [] => rfl
  | a :: l => by
    rw [List.length_cons, List.range_succ_eq_map, List.filterMap_cons, List.filterMap_map]
    simp only [List.getElem?_cons_zero]
    congr 1
    exact all_items l
theorem down_range (n : Nat) : sliceRange ((n : Int) - 1) (-1) (-1) = (List.range n).reverse := by
  have h1 : ¬ ((-1 : Int) > 0) := by decide
  apply List.ext_getElem
  · by_cases h : n = 0
    · subst h; rfl
    · simp only [sliceRange, h1, if_false, List.length_map, List.length_range, List.length_reverse]
      rw [if_pos (by omega), show (- -1 : Int) = 1 from rfl, Int.ediv_one]
      omega
  · intro i g1 g2
    simp only [List.length_reverse, List.length_range] at g2
    simp only [sliceRange, List.getElem_map, List.getElem_range, List.getElem_reverse, List.length_range]
    omega
theorem rev_pick (items : Array Value) : slicePick items none none (some (-1)) = items.toList.reverse.toArray := by
  have e : slicePick items none none (some (-1)) = ((sliceRange ((items.size : Int) - 1) (-1) (-1)).filterMap (fun k => items[k]?)).toArray := rfl
  rw [e, down_range, List.filterMap_reverse]
  congr 2
  have := all_items items.toList
  simpa using this

theorem E_rev {value e : Expr} {p p' : Pos} {l : List D} (SE : SoundE prog w h₀ K self.E) (e1 : self.E sc vs st value = some (.lst l, st1, o1)) (h1 : o1 = true) (e2 : litI e = some (-1))
    (hz : Nat.ble l.length 1000 = true) (x : Cx h₀ K F env A s ρ sc vs st) :
    wpAny (model prog w) A (eval (.Subscript value (.Slice none none (some e) p') p) env) (PE h₀ F s ρ st (.lst l.reverse) st1) no s := by
  refine Subscript_ (wpAny_mono (SE _ _ _ _ _ _ _ e1 h1 _ _ _ _ _ x) (fun va s1 hv => ?_) fun _ _ q => q)
  obtain ⟨ρ1, ev1, r1, d1⟩ := hv
  refine wpAny_Slice ?_
  rw [evalPart_none, evalPart_some]
  refine wpAny_pure (wpAny_pure (litI_ok e2 fun t tk => ?_))
  have ev2 : Ev h₀ F nobody s1 ρ1 st1.sto { s1 with toks := tk } ρ1 st1.sto := Ev.tok ev1.inv tk
  obtain ⟨a, ws, rfl, hl, _, r⟩ := r1
  have := slice_end (prog := prog) (w := w) (A := A) (s := { s1 with toks := tk }) (value := value) (slice := .Slice none none (some e) p') (st := st1) ev2.inv hl r hz .none .none (.int (-1) t) (by decide) (ws' := ws.reverse) (by rw [rev_pick]) r.reverse
  exact wpAny_mono this (fun v s3 q => PE.of (ev1.trans ev2) d1 q) fun _ _ q => q

/-! calls -/
theorem plain_trees {pos : Pos} : ∀ (es : List Expr) (st : St) (ds : List D) (st' : St) (o : Bool), evEs self sc vs st es = some (ds, st', o) → (backTo pos (starEach es env)).any (·.1) = false
  | [], _, _, _, _, _ => rfl
  | e :: es, st, ds, st', o, h => by
    have hns : ∀ y p, e ≠ .Starred y p := by rintro y p rfl; simp [evEs] at h
    have h' : (match self.E sc vs st e with
      | some (d, st1, o1) => (match evEs self sc vs st1 es with
        | some (ds, st2, o2) => some (d :: ds, st2, andB o1 o2)
        | none => none)
      | none => none) = some (ds, st', o) := by
      rw [← h]
      exact (evEs_cons hns).symm
    split at h'
    · split at h'
      · rename_i ds' st2 o2 e2
        rw [starEach_plain hns]
        show (false || (backTo pos (starEach es env)).any (·.1)) = false
        rw [plain_trees es _ _ _ _ e2]
        rfl
      · first | exact no_some h' | cases h'
    · first | exact no_some h' | cases h'

theorem callWith_any {pos : Pos} {f : Value} {e : Expr} {es : List Expr} {ds : List D} {Q : Value → Shared → Prop} (hf : (∃ T, f = .type T) ∨ (∃ id, f = .builtin id) ∨ (∃ a o fd, f = .ref a ∧ h₀.get? a = some o ∧ o.data = .func fd))
    (e1 : evEs self sc vs st (e :: es) = some (ds, st1, o1))
    (h : wpAny (model prog w) A (spliced (backTo pos (starEach (e :: es) env))) (fun vals s1 => (∀ b o, h₀.get? b = some o → s1.heap.get? b = some o) ∧ wpAny (model prog w) A (call f vals) Q no s1) no s) :
    wpAny (model prog w) A (callWith pos f [] (backTo pos (starEach (e :: es) env)) []) Q no s := by
  have hns : ∀ y p, e ≠ .Starred y p := by rintro y p rfl; simp [evEs] at e1
  have hp := plain_trees (env := env) (pos := pos) _ _ _ _ _ e1
  have he := starEach_plain (env := env) (rest := es) hns
  rw [he] at h hp ⊢
  rcases hf with ⟨T, rfl⟩ | ⟨id, rfl⟩ | ⟨a, ob, fd, rfl, h1, h2⟩
  · exact PySem.callWith_type hp (evalArgs_plain (wpAny_mono h (fun _ _ q => q.2) fun _ _ q => q))
  · exact callWith_builtin hp (evalArgs_plain (wpAny_mono h (fun _ _ q => q.2) fun _ _ q => q))
  · exact callWith_function (o := ob) (fd := fd) (evalArgs_plain (wpAny_mono h (fun vals s1 q => ⟨⟨q.1 _ _ h1, h2⟩, q.2⟩) fun _ _ q => q))

theorem bltV_kind {f : Str} (h : isBltin f = true) : (∃ T, bltV f = .type T) ∨ (∃ id, bltV f = .builtin id) := by
  unfold isBltin at h
  simp only [Bool.or_eq_true, beq_iff_eq] at h
  rcases h with (((((rfl | rfl) | rfl) | rfl) | rfl) | rfl) | rfl
  · exact .inr ⟨_, bltV_abs⟩
  · exact .inl ⟨_, bltV_range⟩
  · exact .inr ⟨_, bltV_max⟩
  · exact .inr ⟨_, bltV_min⟩
  · exact .inr ⟨_, bltV_len⟩
  · exact .inl ⟨_, bltV_list⟩
  · exact .inr ⟨_, bltV_sum⟩
end
end Mine
end

section
set_option autoImplicit false
set_option linter.unusedVariables false
namespace Mine
open PySem PySem.Calls PyProof.Rows

section
variable {prog : Program} {w : World} {h₀ h : Heap} {c : Cfg} {K : Nat} {mg mb : Str → Option Value} {F : Addr → Prop} {env : Env} {A : Around} {s s' : Shared} {ρ ρ' : List Addr} {σ σ' : Sto} {sc : Sc} {vs : Vars} {st st' st1 st2 st3 : St}
  {self : Self} {o o1 o2 o3 : Bool} {d : D}

mutual
theorem noMut_rep {M M' : Addr → Prop} (hM : ∀ a, M' a → M a) : ∀ (d : D) (v : Value), noMut d = true → Rep h M ρ d v → Rep h M' ρ' d v
  | .none, _, _, x => x
  | .bool _, _, _, x => x
  | .int _ _, _, _, x => x
  | .str _, _, _, x => x
  | .rat _ _ _, _, _, x => x
  | .rng _ _, _, _, x => x
  | .tup l, _, e, ⟨a, vs, q, x, r⟩ => ⟨a, vs, q, x, noMuts_reps hM l vs e r⟩
  | .lst l, _, e, ⟨a, vs, q, x, m, r⟩ => ⟨a, vs, q, x, fun y => m (hM a y), noMuts_reps hM l vs e r⟩
  | .mut k, _, e, _ => by cases e
theorem noMuts_reps {M M' : Addr → Prop} (hM : ∀ a, M' a → M a) : ∀ (l : List D) (vs : List Value), noMuts l = true → Reps h M ρ l vs → Reps h M' ρ' l vs
  | [], _, _, x => x
  | d :: l, _, e, ⟨v, r, q, x, y⟩ => ⟨v, r, q, noMut_rep hM d v (andB_true e).1 x, noMuts_reps hM l r (andB_true e).2 y⟩
end
mutual
theorem bnd_rep {M M' : Addr → Prop} (hM : ∀ a, M' a → M a) {y : List Addr} : ∀ (d : D) (v : Value), bndM ρ.length d = true → Rep h M (ρ ++ y) d v → Rep h M' ρ d v
  | .none, _, _, x => x
  | .bool _, _, _, x => x
  | .int _ _, _, _, x => x
  | .str _, _, _, x => x
  | .rat _ _ _, _, _, x => x
  | .rng _ _, _, _, x => x
  | .tup l, _, e, ⟨a, vs, q, x, r⟩ => ⟨a, vs, q, x, bnd_reps hM l vs e r⟩
  | .lst l, _, e, ⟨a, vs, q, x, m, r⟩ => ⟨a, vs, q, x, fun y => m (hM a y), bnd_reps hM l vs e r⟩
  | .mut k, _, e, ⟨a, q, x⟩ => ⟨a, q, by
      have hk : k < ρ.length := Nat.blt_eq.mp e
      rw [List.getElem?_append_left hk] at x; exact x⟩
theorem bnd_reps {M M' : Addr → Prop} (hM : ∀ a, M' a → M a) {y : List Addr} : ∀ (l : List D) (vs : List Value), bndMs ρ.length l = true → Reps h M (ρ ++ y) l vs → Reps h M' ρ l vs
  | [], _, _, x => x
  | d :: l, _, e, ⟨v, r, q, x, z⟩ => ⟨v, r, q, bnd_rep hM d v (andB_true e).1 x, bnd_reps hM l r (andB_true e).2 z⟩
end

theorem Lv.nil {a : Addr} : ¬ Lv [] [] a := fun ⟨k, l, h, _⟩ => by simp at h
theorem Mv.nil {G : Addr → Prop} {a : Addr} : Mv G [] [] a ↔ G a := ⟨fun m => m.elim id fun q => (Lv.nil q).elim, .inl⟩

theorem Inv.call (I : Inv h₀ F h ρ σ) : Inv h₀ (Mv F ρ σ) h [] [] :=
  ⟨rfl, .nil, I.base, (fun _ m => by cases m), (fun _ m => by cases m), fun a m => ⟨⟨m.elim (fun q => (I.far a q).1.1) fun q => I.new a q.mem, by simp⟩, I.lists m⟩, fun k l e => by simp at e⟩

theorem Inv.lessG (I : Inv h₀ F h ρ σ) {M' : Addr → Prop} (hM : ∀ a, M' a → Mv F ρ σ a) : Grows h h (Mv F ρ σ) M' ρ ρ :=
  ⟨fun b o e _ _ => e, fun _ m => let ⟨o, h1, h2, _⟩ := I.lists m; ⟨o, h1, h2⟩, fun a m => .inl (hM a m), ⟨[], by simp⟩⟩

theorem call_tab {a : Addr} {args : List D} {vals : List Value} (C : CallSpec prog w h₀ K a args d) (hA : AOk K A) (I : Inv h₀ F s.heap ρ σ) (r : Reps s.heap (Mv F ρ σ) ρ args vals) (hn : noMuts args = true) (hd : noMut d = true) :
    wpAny (model prog w) A (call (.ref a) vals) (Q1 h₀ F s ρ σ d) no s := by
  refine wpAny_mono (C A s (Mv F ρ σ) vals hA I.call (noMuts_reps (fun a m => Mv.nil.mp m) _ _ hn r)) (fun v s1 q => ?_) fun _ _ q => q
  obtain ⟨ev, r1⟩ := q
  obtain ⟨h', tk, rfl⟩ := ev.same
  refine ⟨Ev.of_keep I fun b o e => ev.keep b o e Lv.nil fun q => q, noMut_rep (fun a m => ?_) _ _ hd r1⟩
  exact .inl m

/-! freezing -/
theorem Inv.drop (I : Inv h₀ F h ρ σ) (k : Nat) : Inv h₀ F h ρ (σ.set k none) := by
  refine ⟨by rw [List.length_set]; exact I.len, I.inj, I.base, I.new, I.there, I.far, fun j l e => ?_⟩
  by_cases q : k = j
  · subst q
    by_cases hk : k < σ.length
    · rw [List.getElem?_set_self hk] at e; cases e
    · rw [List.getElem?_eq_none (by rw [List.length_set]; omega)] at e; cases e
  · rw [List.getElem?_set_ne q] at e
    obtain ⟨a, vs, h1, h2, h3⟩ := I.obj j l e
    exact ⟨a, vs, h1, h2, Reps.mono (I.lessG fun a m => m.imp id Lv.drop) _ _ h3⟩

theorem not_lv_drop (I : Inv h₀ F h ρ σ) {k : Nat} {a : Addr} (ea : ρ[k]? = some a) : ¬ Mv F ρ (σ.set k none) a := by
  rintro (q | ⟨j, l, h1, h2⟩)
  · exact (I.far a q).1.2 (List.mem_of_getElem? ea)
  · have hk := List.getElem?_eq_some_iff.mp ea
    have hj := List.getElem?_eq_some_iff.mp h2
    have : k = j := (List.getElem_inj I.inj).mp (hk.2.trans hj.2.symm)
    subst this
    rw [List.getElem?_set_self (by rw [← I.len]; exact hk.1)] at h1
    cases h1

mutual
theorem frz_ok : ∀ (n : Nat) (σ : Sto) (d d' : D) (σ' : Sto) (v : Value), frz n σ d = some (d', σ') → Inv h₀ F h ρ σ → Rep h (Mv F ρ σ) ρ d v →
    Inv h₀ F h ρ σ' ∧ Rep h (Mv F ρ σ') ρ d' v ∧ σ'.length = σ.length ∧ ∀ a, Lv ρ σ' a → Lv ρ σ a
  | 0, _, _, _, _, _, e, _, _ => by simp [frz] at e
  | n + 1, σ, d, d', σ', v, e, I, r => by
    unfold frz at e
    cases d with
    | «mut» k =>
      simp only at e
      split at e
      · rename_i l el
        split at e
        · rename_i l' σ'' e2
          injection e with e; injection e with e3 e4
          subst e3 e4
          obtain ⟨a, rfl, ea⟩ := r
          obtain ⟨b, ws, eb, hl, rl⟩ := I.obj k l (getD_some el)
          rw [ea] at eb; cases eb
          have r2 := Reps.mono (I.lessG (M' := Mv F ρ (σ.set k none)) fun a m => m.imp id Lv.drop) _ _ rl
          obtain ⟨I2, r3, l3, g3⟩ := frzs_ok n (σ.set k none) l l' σ'' ws e2 (I.drop k) r2
          refine ⟨I2, ⟨a, ws, rfl, pl_list hl, fun m => not_lv_drop I ea (m.imp id (g3 a)), r3⟩, by rw [l3, List.length_set], fun a m => (g3 a m).drop⟩
        · first | exact no_some e | cases e
      · first | exact no_some e | cases e
    | tup l =>
      simp only at e
      split at e
      · rename_i l' σ'' e2
        injection e with e; injection e with e3 e4
        subst e3 e4
        obtain ⟨a, ws, rfl, ht, rl⟩ := r
        obtain ⟨I2, r3, l3, g3⟩ := frzs_ok n σ l l' σ'' ws e2 I rl
        exact ⟨I2, ⟨a, ws, rfl, ht, r3⟩, l3, g3⟩
      · first | exact no_some e | cases e
    | lst l =>
      simp only at e
      split at e
      · rename_i l' σ'' e2
        injection e with e; injection e with e3 e4
        subst e3 e4
        obtain ⟨a, ws, rfl, ht, m, rl⟩ := r
        obtain ⟨I2, r3, l3, g3⟩ := frzs_ok n σ l l' σ'' ws e2 I rl
        exact ⟨I2, ⟨a, ws, rfl, ht, fun q => m (q.imp id (g3 a)), r3⟩, l3, g3⟩
      · first | exact no_some e | cases e
    | none => simp only at e; injection e with e; injection e with e3 e4; subst e3 e4; exact ⟨I, r, rfl, fun _ q => q⟩
    | bool => simp only at e; injection e with e; injection e with e3 e4; subst e3 e4; exact ⟨I, r, rfl, fun _ q => q⟩
    | int => simp only at e; injection e with e; injection e with e3 e4; subst e3 e4; exact ⟨I, r, rfl, fun _ q => q⟩
    | str => simp only at e; injection e with e; injection e with e3 e4; subst e3 e4; exact ⟨I, r, rfl, fun _ q => q⟩
    | rat => simp only at e; injection e with e; injection e with e3 e4; subst e3 e4; exact ⟨I, r, rfl, fun _ q => q⟩
    | rng => simp only at e; injection e with e; injection e with e3 e4; subst e3 e4; exact ⟨I, r, rfl, fun _ q => q⟩
theorem frzs_ok : ∀ (n : Nat) (σ : Sto) (l l' : List D) (σ' : Sto) (vs : List Value), frzs n σ l = some (l', σ') → Inv h₀ F h ρ σ → Reps h (Mv F ρ σ) ρ l vs →
    Inv h₀ F h ρ σ' ∧ Reps h (Mv F ρ σ') ρ l' vs ∧ σ'.length = σ.length ∧ ∀ a, Lv ρ σ' a → Lv ρ σ a
  | 0, _, _, _, _, _, e, _, _ => by simp [frzs] at e
  | n + 1, σ, l, l', σ', vs, e, I, r => by
    unfold frzs at e
    cases l with
    | nil => simp only at e; injection e with e; injection e with e3 e4; subst e3 e4; exact ⟨I, r, rfl, fun _ q => q⟩
    | cons d l =>
      simp only at e
      split at e
      · rename_i d' σ1 e1
        split at e
        · rename_i r' σ2 e2
          injection e with e; injection e with e3 e4
          subst e3 e4
          obtain ⟨v, ws, rfl, rd, rl⟩ := r
          obtain ⟨I1, r1, l1, g1⟩ := frz_ok n σ d d' σ1 v e1 I rd
          have rl1 := Reps.mono (I.lessG (M' := Mv F ρ σ1) fun a m => m.imp id (g1 a)) _ _ rl
          obtain ⟨I2, r2, l2, g2⟩ := frzs_ok n σ1 l r' σ2 ws e2 I1 rl1
          exact ⟨I2, ⟨v, ws, rfl, Rep.mono (I1.lessG (M' := Mv F ρ σ2) fun a m => m.imp id (g2 a)) _ _ r1, r2⟩, l2.trans l1, fun a m => g1 a (g2 a m)⟩
        · first | exact no_some e | cases e
      · first | exact no_some e | cases e
end

theorem bndS_get {n : Nat} : ∀ {σ : Sto} {k : Nat} {l : List D}, bndS n σ = true → σ[k]? = some (some l) → bndMs n l = true
  | none :: r, 0, l, e, q => by simp at q
  | none :: r, k + 1, l, e, q => bndS_get (σ := r) (k := k) e (by simpa using q)
  | some m :: r, 0, l, e, q => by simp at q; subst q; exact (andB_true e).1
  | some m :: r, k + 1, l, e, q => bndS_get (σ := r) (k := k) (andB_true e).2 (by simpa using q)

theorem Inv.cut {y : List Addr} (I : Inv h₀ F h (ρ ++ y) σ) (hb : bndS ρ.length (σ.take ρ.length) = true) : Inv h₀ F h ρ (σ.take ρ.length) := by
  have hlen : ρ.length ≤ σ.length := by rw [← I.len, List.length_append]; omega
  have hM : ∀ a, Mv F ρ (σ.take ρ.length) a → Mv F (ρ ++ y) σ a := fun a m => m.imp id fun ⟨k, l, h1, h2⟩ => by
    have hk := (List.getElem?_eq_some_iff.mp h2).1
    rw [List.getElem?_take_of_lt hk] at h1
    exact ⟨k, l, h1, by rw [List.getElem?_append_left hk]; exact h2⟩
  refine ⟨by rw [List.length_take]; omega, (List.nodup_append.mp I.inj).1, I.base, fun a m => I.new a (List.mem_append_left _ m), fun a m => I.there a (List.mem_append_left _ m), fun a m => ?_, fun k l e => ?_⟩
  · obtain ⟨⟨n1, n2⟩, q⟩ := I.far a m
    exact ⟨⟨n1, fun m => n2 (List.mem_append_left _ m)⟩, q⟩
  · have hk : k < ρ.length := by have := (List.getElem?_eq_some_iff.mp e).1; rw [List.length_take] at this; omega
    have bl := bndS_get hb e
    rw [List.getElem?_take_of_lt hk] at e
    obtain ⟨a, ws, h1, h2, h3⟩ := I.obj k l e
    rw [List.getElem?_append_left hk] at h1
    exact ⟨a, ws, h1, h2, bnd_reps hM l ws bl h3⟩
theorem Lv.cut {y : List Addr} {a : Addr} (m : Lv ρ (σ.take ρ.length) a) : Lv (ρ ++ y) σ a := by
  obtain ⟨k, l, h1, h2⟩ := m
  have hk := (List.getElem?_eq_some_iff.mp h2).1
  rw [List.getElem?_take_of_lt hk] at h1
  exact ⟨k, l, h1, by rw [List.getElem?_append_left hk]; exact h2⟩
end
end Mine
end

section
set_option autoImplicit false
set_option linter.unusedVariables false
namespace Mine
open PySem PySem.Calls PyProof.Rows

section
variable {prog : Program} {w : World} {h₀ h : Heap} {c : Cfg} {K : Nat} {mg mb : Str → Option Value} {F : Addr → Prop} {env : Env} {A : Around} {s s' : Shared} {ρ ρ' : List Addr} {σ σ' : Sto} {sc : Sc} {vs vs' : Vars} {st st' st1 st2 st3 : St}
  {self : Self} {o o1 o2 o3 : Bool} {d : D}

theorem evSs_ok (SS : SoundS prog w h₀ K self.S) : ∀ (body : List Stmt) (vs : Vars) (st : St) (f : Fl) (vs' : Vars) (st' : St) (o : Bool) (s : Shared) (ρ : List Addr), evSs self sc vs st body = some (f, vs', st', o) → o = true →
    Cx h₀ K F env A s ρ sc vs st → wpAny (model prog w) A (execs body env) (PS h₀ F env (Own env sc) s ρ sc st f vs' st') no s
  | [], vs, st, f, vs', st', o, s, ρ, e, ho, x => by
    simp [evSs] at e
    obtain ⟨rfl, rfl, rfl, _⟩ := e
    exact wpAny_execs_nil ⟨ρ, Ev.refl x.inv, x.fm, .next, rfl⟩
  | t :: r, vs, st, f, vs', st', o, s, ρ, e, ho, x => by
    have go : ∀ (f1 : Fl) (vs1 : Vars) (st1 : St) (o1 : Bool), self.S sc vs st t = some (f1, vs1, st1, o1) → f1 ≠ .next → some (f1, vs1, st1, o1) = some (f, vs', st', o) →
        wpAny (model prog w) A (execs (t :: r) env) (PS h₀ F env (Own env sc) s ρ sc st f vs' st') no s := fun f1 vs1 st1 o1 e1 hn e => by
      injection e with e; injection e with e2 e; injection e with e3 e; injection e with e4 e5
      subst e2 e3 e4 e5
      refine wpAny_execs_cons (wpAny_mono (SS _ _ _ _ _ _ _ _ e1 ho _ _ _ _ _ x) (fun fl s1 hv => ?_) fun _ _ q => q)
      obtain ⟨ρ1, ev1, fm1, r1, d1⟩ := hv
      cases r1 with
      | next => exact absurd rfl hn
      | cont => exact ⟨ρ1, ev1, fm1, .cont, d1⟩
      | ret q => exact ⟨ρ1, ev1, fm1, .ret q, d1⟩
    unfold evSs at e
    split at e
    · rename_i vs1 st1 o1 e1
      split at e
      · rename_i f2 vs2 st2 o2 e2
        injection e with e; injection e with e3 e; injection e with e4 e; injection e with e5 e6
        subst e3 e4 e5 e6
        obtain ⟨h1, h2⟩ := andB_true ho
        refine wpAny_execs_cons (wpAny_mono (SS _ _ _ _ _ _ _ _ e1 h1 _ _ _ _ _ x) (fun fl s1 hv => ?_) fun _ _ q => q)
        obtain ⟨ρ1, ev1, fm1, r1, d1⟩ := hv
        cases r1
        refine wpAny_mono (evSs_ok SS r vs1 st1 f2 vs2 st2 o2 s1 ρ1 e2 h2 ⟨ev1.inv, fm1, by rw [d1]; exact x.aok⟩) (fun fl s2 hv => ?_) fun _ _ q => q
        obtain ⟨ρ2, ev2, fm2, r2, d2⟩ := hv
        exact ⟨ρ2, ev1.trans ev2, fm2, r2, d2.trans d1⟩
      · first | exact no_some e | cases e
    · rename_i f1 vs1 st1 o1 e1 hn
      exact go _ _ _ _ hn (fun q => e1 q) e
    · first | exact no_some e | cases e

theorem cells_some : ∀ (names : List (Str × NameKind)) (k : Nat) (acc : List (Str × Addr)) (n : Str), ((n, NameKind.cell) ∈ names ∨ (acc.lookup n).isSome = true) → ((cellsFrom k names acc).lookup n).isSome = true
  | [], k, acc, n, h => by
    rcases h with h | h
    · first | exact no_some h | cases h
    · exact h
  | (m, kd) :: r, k, acc, n, h => by
    unfold cellsFrom
    cases q : kd == NameKind.cell with
    | true =>
      simp only [if_true]
      refine cells_some r (k + 1) _ n ?_
      rcases h with h | h
      · rcases List.mem_cons.mp h with h | h
        · injection h with h1 h2
          right; subst h1; simp
        · exact .inl h
      · right
        rw [List.lookup_cons]
        split
        · rfl
        · exact h
    | false =>
      simp only [Bool.false_eq_true, if_false]
      refine cells_some r k acc n ?_
      rcases h with h | h
      · rcases List.mem_cons.mp h with h | h
        · injection h with h1 h2
          subst h2; simp at q
        · exact .inl h
      · exact .inr h

theorem bindL_get {kd : Str → Option NameKind} {x : Str} (hx : kd x = some .local) : ∀ (bs : List (Str × Value)) (m : Str → Option Value), distinct (bs.map (·.1)) = true → (bindL kd bs m) x = (bs.lookup x).or (m x)
  | [], m, _ => by simp [bindL]
  | (n, v) :: r, m, hd => by
    obtain ⟨h1, h2⟩ := andB_true (show andB _ _ = true from hd)
    unfold bindL
    rw [bindL_get hx r _ h2, List.lookup_cons]
    by_cases q : x = n
    · subst q
      have : r.lookup x = none := by
        cases e : r.lookup x with
        | none => rfl
        | some u =>
          have := mem_of_lookup e
          simp at h1
          exact absurd this (h1 u)
      simp [hx, this]
    · have hb : (x == n) = false := beq_eq_false_iff_ne.mpr q
      rw [hb]
      by_cases hn : kd n = some .local
      · simp [hn, q]
      · simp [hn]
theorem bindC_get {kd : Str → Option NameKind} {x : Str} (hx : kd x ≠ some .local) : ∀ (bs : List (Str × Value)) (m : Str → Option Value), distinct (bs.map (·.1)) = true → (bindC kd bs m) x = (bs.lookup x).or (m x)
  | [], m, _ => by simp [bindC]
  | (n, v) :: r, m, hd => by
    obtain ⟨h1, h2⟩ := andB_true (show andB _ _ = true from hd)
    unfold bindC
    rw [bindC_get hx r _ h2, List.lookup_cons]
    by_cases q : x = n
    · subst q
      have : r.lookup x = none := by
        cases e : r.lookup x with
        | none => rfl
        | some u =>
          have := mem_of_lookup e
          simp at h1
          exact absurd this (h1 u)
      simp [hx, this]
    · have hb : (x == n) = false := beq_eq_false_iff_ne.mpr q
      rw [hb]
      by_cases hn : kd n = some .local
      · simp [hn]
      · simp [hn, q]

theorem zip_lookup {M : Addr → Prop} : ∀ {ps : List Str} {ds : List D} {vals : List Value} {x : Str} {d : D}, Reps h M ρ ds vals → (ps.zip ds).lookup x = some d → ∃ v, (ps.zip vals).lookup x = some v ∧ Rep h M ρ d v
  | [], _, _, _, _, _, e => by simp at e
  | p :: ps, [], _, _, _, _, e => by simp at e
  | p :: ps, d0 :: ds, _, x, d, ⟨v, r, q, a, b⟩, e => by
    subst q
    simp only [List.zip_cons_cons, List.lookup_cons] at e ⊢
    split at e
    · injection e with e; subst e; exact ⟨v, rfl, a⟩
    · exact zip_lookup b e

theorem zip_keys : ∀ {ps : List Str} {vals : List Value}, vals.length = ps.length → (ps.zip vals).map (·.1) = ps
  | [], [], _ => rfl
  | p :: ps, v :: vals, e => by simp at e; simp [zip_keys e]
  | [], _ :: _, e => by simp at e
  | _ :: _, [], e => by simp at e

theorem of_newK {a : Addr} (I : Inv h₀ F s.heap ρ σ) (ha : s.heap.objs.size ≤ a) : s.heap.get? a = none ∧ h₀.get? a = none := by
  have h1 : s.heap.get? a = none := by
    cases e : s.heap.get? a with
    | none => rfl
    | some o => exact absurd (Heap.lt_size e) (Nat.not_lt.mpr ha)
  refine ⟨h1, ?_⟩
  cases e : h₀.get? a with
  | none => rfl
  | some o => rw [I.base a o e] at h1; cases h1

noncomputable def retV : Flow → Value
  | .ret v => v
  | _ => .none

theorem call_fn (G : Gd prog w h₀ c K mg mb) (SS : SoundS prog w h₀ K self.S) {f : Str} {fn : FnRec} {args : List D} {vals : List Value} {a : Addr} {ob : Obj} {params : Arguments} {pm cd doc : Value}
    (hob : h₀.get? a = some ob) (hdat : ob.data = .func (docDef f params fn.body fn.scope pm cd doc)) (hcd : h₀.CodeRec cd f)
    (hbind : ∀ vals : List Value, vals.length = fn.params.length → bindArgs (docDef f params fn.body fn.scope pm cd doc) ⟨vals, []⟩ = pure (fn.params.zip vals))
    (e : runF self st fn args = some (d, st', o)) (ho : o = true) (hA : AOk (K + st.dep) A) (I : Inv h₀ F s.heap ρ st.sto) (r : Reps s.heap (Mv F ρ st.sto) ρ args vals) :
    wpAny (model prog w) A (call (.ref a) vals) (PE h₀ F s ρ st d st') no s := by
  unfold runF at e
  split at e
  · first | exact no_some e | cases e
  · rename_i dep hdep
    cases hfn : fnOk fn args.length with
    | false => rw [hfn] at e; first | exact no_some e | cases e
    | true =>
      rw [hfn, cond_true] at e
      unfold fnOk at hfn
      obtain ⟨k0, hfn⟩ := andB_true hfn
      obtain ⟨k1, hfn⟩ := andB_true hfn
      obtain ⟨k2, hfn⟩ := andB_true hfn
      obtain ⟨k3, hfn⟩ := andB_true hfn
      obtain ⟨k4, hfn⟩ := andB_true hfn
      obtain ⟨k5, hfn⟩ := andB_true hfn
      obtain ⟨k6, k7⟩ := andB_true hfn
      have k1 := Nat.eq_of_beq_eq_true k1
      have hlen : vals.length = fn.params.length := by rw [r.length, k1]
      have k4' : fn.scope.kind = .function := by
        cases q : fn.scope.kind <;> rw [q] at k4 <;> first | rfl | cases k4
      have k7' := List.all_eq_true.mp k7
      have k3' := List.all_eq_true.mp k3
      split at e
      · rename_i f1 vs1 st1 o1 e1
        have hK : AOk (K + dep) (A.deeper (callEnvC (docDef f params fn.body fn.scope pm cd doc) s.heap.objs.size a)) := by
          have : AOk (K + dep + 1) A := by rw [hdep] at hA; exact hA
          exact this.deeper _
        have ho1 : o1 = true := by
          cases hk : fn.keep with
          | true => rw [hk] at e; simp at e; rw [e.2.2]; exact ho
          | false =>
            rw [hk] at e; simp only [cond_false] at e
            split at e
            · rename_i d2 σ2 e2
              cases hb : andB (noMut d2) (bndS st.sto.length (σ2.take st.sto.length)) with
              | true => rw [hb] at e; simp at e; rw [e.2.2]; exact ho
              | false => rw [hb] at e; first | exact no_some e | cases e
            · first | exact no_some e | cases e
        refine wpAny_call (codeAny_call_cells (binds := fn.params.zip vals) hA.room (I.base _ _ hob) hdat (G.nolim.keeps I.base) (hcd.keeps I.base) rfl (hbind vals hlen) rfl ?_ ?_ ?_ ?_ k4')
        · intro y hy
          have hy1 : y.1 ∈ fn.params := by
            have := List.mem_map_of_mem (f := Prod.fst) hy
            rw [zip_keys hlen] at this; exact this
          rcases isStore_cases (k3' _ hy1) with q | q
          · exact .inl q
          · exact .inr ⟨q, cells_some _ _ _ _ (.inl (mem_of_lookup q))⟩
        · intro s1 x1
          have X : Ev h₀ F nobody s ρ st.sto s1 ρ st.sto := by
            obtain ⟨h1, tk, rfl⟩ := x1.toInCall.same
            exact Ev.of_keep I x1.toInCall.keep
          have G1 := X.grows0 I
          have dist : distinct ((fn.params.zip vals).map (·.1)) = true := by rw [zip_keys hlen]; exact k2
          have hr1 := Reps.mono G1 _ _ r
          have fm : Fm h₀ (callEnvC (docDef f params fn.body fn.scope pm cd doc) s.heap.objs.size a) fn.scope.names (fn.params.zip args) s1.heap (Mv F ρ st.sto) ρ := by
            refine ⟨k4', rfl, rfl, k0, fun n q => q, fun n q => ⟨q, ?_⟩, fun n q => ?_, fun n q => q, ⟨_, x1.toInCall.ns, fun n dn e1 e2 => ?_⟩, (of_newK I x1.toInCall.fresh).2, fun _ _ _ q1 q2 => name_of_addr x1.apart (mem_of_lookup q1) (mem_of_lookup q2)⟩
            · have hs := cells_some fn.scope.names (s.heap.objs.size + 1) [] n (.inl (mem_of_lookup q))
              obtain ⟨cc, hc⟩ := Option.isSome_iff_exists.mp hs
              refine ⟨cc, _, hc, x1.cell n cc hc, fun dn e1 => ?_, (of_newK I (Nat.le_of_lt (Nat.lt_of_le_of_lt x1.toInCall.fresh (x1.above n cc (mem_of_lookup hc))))).2⟩
              obtain ⟨v, hv, rv⟩ := zip_lookup hr1 e1
              exact ⟨v, by rw [bindC_get (by show fn.scope.names.lookup n ≠ _; rw [q]; decide) _ _ dist, hv]; rfl, rv⟩
            · have := k7' _ (mem_of_lookup q)
              cases this
            · obtain ⟨v, hv, rv⟩ := zip_lookup hr1 e1
              exact ⟨v, by rw [bindL_get (by exact e2) _ _ dist, hv]; rfl, rv⟩
          refine wpAny_mono (evSs_ok SS fn.body _ ⟨st.sto, st.ds, dep⟩ _ _ _ _ _ _ e1 ho1 (Cx.mk X.inv fm hK)) (fun fl s2 hv => ?_) fun _ _ q => q.elim
          obtain ⟨ρ2, ev2, _, r2, d2⟩ := hv
          have ev3 : Ev h₀ F nobody s ρ st.sto s2 ρ2 st1.sto := (X.widen fun _ q => q.elim).trans ev2 |>.fresh fun b q => .inr (by
            rcases q with rfl | ⟨n, q1, q2⟩
            · exact (of_newK I x1.toInCall.fresh).1
            · exact (of_newK I (Nat.le_of_lt (Nat.lt_of_le_of_lt x1.toInCall.fresh (x1.above n b (mem_of_lookup q2))))).1)
          have rr : Rep s2.heap (Mv F ρ2 st1.sto) ρ2 (retD f1) (retV fl) := by
            cases r2 with
            | next => rfl
            | cont => rfl
            | ret q => exact q
          show PE h₀ F s ρ st d st' (retV fl) s2
          generalize retD f1 = d1 at e rr
          generalize retV fl = v1 at rr ⊢
          cases hk : fn.keep with
          | true =>
            rw [hk] at e; simp at e
            obtain ⟨rfl, rfl, _⟩ := e
            exact ⟨ρ2, ev3, rr, hdep.symm⟩
          | false =>
            rw [hk] at e; simp only [cond_false] at e
            split at e
            · rename_i d3 σ3 e3
              cases hb : andB (noMut d3) (bndS st.sto.length (σ3.take st.sto.length)) with
              | false => rw [hb] at e; first | exact no_some e | cases e
              | true =>
                rw [hb] at e; simp at e
                obtain ⟨rfl, rfl, _⟩ := e
                obtain ⟨b1, b2⟩ := andB_true hb
                obtain ⟨I3, r3, l3, g3⟩ := frz_ok 100 st1.sto d1 _ σ3 v1 e3 ev3.inv rr
                obtain ⟨y, rfl⟩ := ev3.pre
                rw [← I.len] at b2 ⊢
                have I4 := I3.cut b2
                refine ⟨ρ, ⟨ev3.same, ev3.keep, fun b m => ev3.grow b (g3 b m.cut), ⟨[], by simp⟩, ev3.alive, I4⟩, noMut_rep (fun b m => ?_) _ _ b1 r3, hdep.symm⟩
                exact m.imp id Lv.cut
            · first | exact no_some e | cases e
        · cases q : fn.scope.isCoroutine with
          | false => exact q
          | true => rw [q] at k6; cases k6
        · cases q : fn.scope.isGenerator with
          | false => exact q
          | true => rw [q] at k5; cases k5
      · first | exact no_some e | cases e
end
end Mine
end

section
set_option autoImplicit false
set_option linter.unusedVariables false
namespace Mine
open PySem PySem.Calls PyProof.Rows

section
variable {prog : Program} {w : World} {h₀ h : Heap} {c : Cfg} {K : Nat} {mg mb : Str → Option Value} {F : Addr → Prop} {env : Env} {A : Around} {s s' : Shared} {ρ ρ' : List Addr} {σ σ' : Sto} {sc : Sc} {vs vs' : Vars} {st st' st1 st2 st3 : St}
  {self : Self} {o o1 o2 o3 : Bool} {d : D}

theorem E_call (G : Gd prog w h₀ c K mg mb) (SE : SoundE prog w h₀ K self.E) (SS : SoundS prog w h₀ K self.S) {f : Str} {np p : Pos} {e : Expr} {es : List Expr} {ds : List D} (hg : isGlob sc f = true)
    (e1 : evEs self sc vs st (e :: es) = some (ds, st1, o1)) (h1 : o1 = true) (e2 : evCall c self st1 f ds = some (d, st2, o2)) (h2 : o2 = true) (x : Cx h₀ K F env A s ρ sc vs st) :
    wpAny (model prog w) A (eval (.Call (.Name f np) (e :: es) [] p) env) (PE h₀ F s ρ st d st2) no s := by
  have hk := isGlob_case hg
  have args : ∀ (Q : Value → Shared → Prop) (fv : Value), (∀ vals s1 ρ1, Ev h₀ F nobody s ρ st.sto s1 ρ1 st1.sto → Reps s1.heap (Mv F ρ1 st1.sto) ρ1 ds vals → st1.dep = st.dep → wpAny (model prog w) A (call fv vals) Q no s1) →
      wpAny (model prog w) A (spliced (backTo p (starEach (e :: es) env))) (fun vals s1 => (∀ b o, h₀.get? b = some o → s1.heap.get? b = some o) ∧ wpAny (model prog w) A (call fv vals) Q no s1) no s := fun Q fv hq =>
    wpAny_mono (evEs_ok SE (e :: es) _ _ _ _ _ _ e1 h1 x) (fun vals s1 hv => by
      obtain ⟨ρ1, ev1, r1, d1⟩ := hv
      exact ⟨ev1.inv.base, hq vals s1 ρ1 ev1 r1 d1⟩) fun _ _ q => q
  refine Call_ ?_
  unfold evCall at e2
  cases hb : isBltin f with
  | true =>
    rw [hb, cond_true] at e2
    obtain ⟨m1, m2⟩ := G.blt f (.inl hb)
    refine Name_function_global x.fm.kind (x.fm.glo f hk) (loadGlobal_builtin (by rw [x.fm.glob]; exact G.g.keeps x.inv.base) m1 (by rw [x.fm.blt]; exact G.b.keeps x.inv.base) m2 ?_) (clean_debug x.fm.tidy hk)
    split at e2
    · rename_i d' o' e3
      injection e2 with e2; injection e2 with e4 e2; injection e2 with e5 e6
      subst e4 e5 e6
      refine callWith_any (h₀ := h₀) ((bltV_kind hb).imp id .inl) e1 (args _ _ fun vals s1 ρ1 ev1 r1 d1 => ?_)
      exact wpAny_mono (builtin_ok x.aok ev1.inv e3 h2 r1) (fun v s2 q => PE.of ev1 d1 q) fun _ _ q => q
    · first | exact no_some e2 | cases e2
  | false =>
    rw [hb, cond_false] at e2
    split at e2
    · rename_i fn hfn
      obtain ⟨a, ob, params, pm, cd, doc, g1, g2, g3, g4, g5⟩ := G.fns f fn hfn
      refine Name_function_global x.fm.kind (x.fm.glo f hk) (loadGlobal_global (by rw [x.fm.glob]; exact G.g.keeps x.inv.base) g1 ?_) (clean_debug x.fm.tidy hk)
      refine callWith_any (h₀ := h₀) (.inr (.inr ⟨a, ob, _, rfl, g2, g3⟩)) e1 (args _ _ fun vals s1 ρ1 ev1 r1 d1 => ?_)
      exact wpAny_mono (call_fn G SS g2 g3 g4 g5 e2 h2 (by rw [d1]; exact x.aok) ev1.inv r1) (fun v s2 q => PE.trans ev1 d1 q) fun _ _ q => q
    · split at e2
      · rename_i d' σ' o' e3
        obtain ⟨rfl, rfl, rfl⟩ := some3 e2
        obtain ⟨a, ob, fd, g1, g2, g3, g4⟩ := G.hk f _ ds _ _ _ e3 h2
        refine Name_function_global x.fm.kind (x.fm.glo f hk) (loadGlobal_global (by rw [x.fm.glob]; exact G.g.keeps x.inv.base) g1 ?_) (clean_debug x.fm.tidy hk)
        refine callWith_any (h₀ := h₀) (.inr (.inr ⟨a, ob, fd, rfl, g2, g3⟩)) e1 (args _ _ fun vals s1 ρ1 ev1 r1 d1 => ?_)
        refine wpAny_mono (g4 A s1 F ρ1 vals (x.aok.less (by omega)) ev1.inv r1) (fun v s2 q => ?_) fun _ _ q => q
        obtain ⟨ρ2, ev2, r2⟩ := q
        exact ⟨ρ2, ev1.trans ev2, r2, d1⟩
      · cases hn : noMuts ds with
        | false => rw [hn] at e2; first | exact no_some e2 | cases e2
        | true =>
          rw [hn, cond_true] at e2
          split at e2
          · rename_i d' o' e3
            cases hd : noMut d' with
            | false => rw [hd] at e2; first | exact no_some e2 | cases e2
            | true =>
              rw [hd] at e2; obtain ⟨rfl, rfl, rfl⟩ := some3 e2
              obtain ⟨a, ob, fd, g1, g2, g3, g4⟩ := G.tab f ds _ _ e3 h2
              refine Name_function_global x.fm.kind (x.fm.glo f hk) (loadGlobal_global (by rw [x.fm.glob]; exact G.g.keeps x.inv.base) g1 ?_) (clean_debug x.fm.tidy hk)
              refine callWith_any (h₀ := h₀) (.inr (.inr ⟨a, ob, fd, rfl, g2, g3⟩)) e1 (args _ _ fun vals s1 ρ1 ev1 r1 d1 => ?_)
              exact wpAny_mono (call_tab g4 (x.aok.less (by omega)) ev1.inv r1 hn hd) (fun v s2 q => PE.of ev1 d1 q) fun _ _ q => q
          · first | exact no_some e2 | cases e2

theorem E_append (SE : SoundE prog w h₀ K self.E) {n m : Str} {p1 ap p : Pos} {a : Expr} {k : Nat} {l : List D} (hm : (m == ("append" : Str)) = true) (hline : Nat.beq ap.endLine p.line = true) (hns : noStar a = true)
    (hl : isLocal sc n = true) (hv : vs.lookup n = some (.mut k)) (e0 : ((st.sto[k]?).getD none).isSome = true) (e1 : self.E sc vs st a = some (d, st1, o1)) (h1 : o1 = true) (e2 : (st1.sto[k]?).getD none = some l) (hz : Nat.ble l.length 1000 = true) (x : Cx h₀ K F env A s ρ sc vs st) :
    wpAny (model prog w) A (eval (.Call (.Attribute (.Name n p1) m ap) [a] [] p) env) (PE h₀ F s ρ st .none ⟨st1.sto.set k (some (l ++ [d])), st1.ds, st1.dep⟩) no s := by
  have hm := beq_iff_eq.mp hm
  subst hm
  have hns' : ∀ y q, a ≠ .Starred y q := by rintro y q rfl; cases hns
  have hk : ∃ kd, sc.lookup n = some kd := by rcases isLocal_cases hl with q | q | q <;> exact ⟨_, q⟩
  obtain ⟨kd, hk⟩ := hk
  have tr : backTo p (starEach [a] env) = [(false, eval a env)] := by
    rw [starEach_plain hns']; rfl
  refine wpAny_Call_append rfl ?_ (by simpa using Nat.eq_of_beq_eq_true hline) tr ?_
  · rw [tr]; rfl
  refine wpAny_Name (load_var x.fm hl hv fun v r => ?_) (clean_debug x.fm.tidy hk)
  obtain ⟨b, rfl, eb⟩ := r
  obtain ⟨l0, e0⟩ := Option.isSome_iff_exists.mp e0
  obtain ⟨b', ws0, eb', hl0, _⟩ := x.inv.obj k l0 (getD_some e0)
  rw [eb] at eb'; cases eb'
  refine ⟨b, _, rfl, hl0, wpAny_mono (SE _ _ _ _ _ _ _ e1 h1 _ _ _ _ _ x) (fun v s1 hv => ?_) fun _ _ q => q⟩
  obtain ⟨ρ1, ev1, r1, d1⟩ := hv
  obtain ⟨b', ws, eb', hl1, rl⟩ := ev1.inv.obj k l (getD_some e2)
  have : ρ1[k]? = some b := by
    obtain ⟨y, rfl⟩ := ev1.pre
    rw [List.getElem?_append_left (List.getElem?_eq_some_iff.mp eb).1]; exact eb
  rw [this] at eb'; cases eb'
  refine list_append_plainL hl1 (fun h' hl' hs => ?_) (by rw [List.size_toArray, rl.length, sizeLine_eq]; have := Nat.le_of_ble_eq_true hz; omega)
  have ev2 : Ev h₀ F nobody s1 ρ1 st1.sto { s1 with heap := h' } ρ1 (st1.sto.set k (some (l ++ [d]))) := Ev.set ev1.inv (tk := s1.toks) (vs := ws ++ [v]) (getD_some e2) this hs (by simpa using hl') (rl.snoc r1)
  exact ⟨ρ1, ev1.trans ev2, rfl, d1⟩
end
end Mine
end

section
set_option autoImplicit false
set_option linter.unusedVariables false
namespace Mine
open PySem PySem.Calls PyProof.Rows

section
variable {prog : Program} {w : World} {h₀ h : Heap} {c : Cfg} {K : Nat} {mg mb : Str → Option Value} {F : Addr → Prop} {env : Env} {A : Around} {s s' : Shared} {ρ ρ' : List Addr} {σ σ' : Sto} {sc : Sc} {vs vs' : Vars} {st st' st1 st2 st3 : St}
  {self : Self} {o o1 o2 o3 : Bool} {d : D} {E : Value → Shared → Prop}

theorem setItem_plain {l : Addr} {items : Array Value} {k : Int} {t : Tok} {v : Value} {Q : Unit → Shared → Prop} (hl : PlainL s.heap l items) (h0 : 0 ≤ k) (hfit : k < 2 ^ 63) (hn : k < items.size)
    (hQ : ∀ h', PlainL h' l (items.setIfInBounds k.toNat v) → Heap.SameBut l s.heap h' → Q () { s with heap := h' }) : wpAny (model prog w) A (setItem (.ref l) (.int k t) v) Q E s := by
  have hL := pl_list hl
  obtain ⟨ob, ne, ho, hc, hdn, hd⟩ := id hl
  unfold setItem
  try with_reducible refine wpAny_holding ?_
  first | refine wpAny_bind (wpAny_pure ?_) | skip
  refine wpAny_bind (wpAny_sequenceKey hL.typeIs (by decide) ?_)
  refine wpAny_bind (wpAny_callSpecial?_slot (name := Str.ofString "__setitem__") hL.typeIs slot_list_setitem (wpAny_call_entry slot_list_setitem hL.typeIs entry_list_setitem ?_ (args_list_setitem _ _ _)))
  show wpAny _ _ (Builtin.List.listSubscript? (.int k t) >>= _) _ _ s
  refine wpAny_bind (wpAny_listSubscript_int (fitsIndex_of h0 hfit) ?_)
  clear hfit
  obtain ⟨j, rfl⟩ := Int.eq_ofNat_of_zero_le h0
  have hj : j < items.size := by omega
  show wpAny _ _ ((seqItemAt l j >>= fun r => pure (r.map (j, ·))) >>= _) _ _ s
  refine wpAny_bind (wpAny_bind (wpAny_seqItemAt ho hd (wpAny_pure ?_)))
  rw [Array.getElem?_eq_getElem hj]
  show wpAny _ _ (setSeqItemAt l j v >>= _) _ _ s
  obtain ⟨n', hd'⟩ := Obj.data_mapSeq hd (·.setIfInBounds j v)
  have fin : PlainL (s.heap.update l (Obj.mapSeq (·.setIfInBounds j v))) l (items.setIfInBounds j v) := by
    refine ⟨_, n', Heap.get?_update_self _ ho (Obj.isFreed_of_seq hd'), (Obj.cls_mapSeq ..).trans hc, ?_, hd'⟩
    obtain ⟨c, d, dt, sl⟩ := ob
    cases hd
    exact hdn
  refine wpAny_bind (wpAny_setSeqItemAt ho hd ?_)
  first
    | exact wpAny_bind (wpAny_pure (wpAny_pure ⟨.none, rfl, wpAny_pure (hQ _ fin (Heap.SameBut.update ..))⟩))
    | exact wpAny_pure ⟨.none, rfl, wpAny_pure (hQ _ fin (Heap.SameBut.update ..))⟩

noncomputable def PA (h₀ : Heap) (F : Addr → Prop) (env : Env) (s : Shared) (ρ : List Addr) (sc : Sc) (st : St) (vs' : Vars) (st' : St) (s' : Shared) : Prop :=
  ∃ ρ', Ev h₀ F (Own env sc) s ρ st.sto s' ρ' st'.sto ∧ Fm h₀ env sc vs' s'.heap (Mv F ρ' st'.sto) ρ' ∧ st'.dep = st.dep

theorem asg1_ok (SE : SoundE prog w h₀ K self.E) {t : Expr} {v : Value} (e : asg1 self sc vs st t d = some (vs', st', o)) (ho : o = true) (x : Cx h₀ K F env A s ρ sc vs st) (r : Rep s.heap (Mv F ρ st.sto) ρ d v) :
    wpAny (model prog w) A (assign t env v) (fun _ s' => PA h₀ F env s ρ sc st vs' st' s') no s := by
  unfold asg1 at e
  split at e
  · rename_i n p
    cases hl : isStore sc n with
    | false => rw [hl] at e; first | exact no_some e | cases e
    | true =>
      rw [hl] at e; simp at e
      obtain ⟨rfl, rfl, _⟩ := e
      exact wpAny_assign_Name (store_var x.inv x.fm hl r fun s1 ev fm => ⟨ρ, ev, fm, rfl⟩)
  · rename_i oe ie p
    split at e
    · rename_i k st1 o1 e1
      split at e
      · rename_i j n st2 o2 e2
        split at e
        · rename_i l el
          cases hc : andB (decide (0 ≤ j)) (andB (Nat.ble (j.toNat + 1) l.length) (Nat.ble l.length 1000)) with
          | false => rw [hc] at e; first | exact no_some e | cases e
          | true =>
            rw [hc] at e; obtain ⟨rfl, rfl, rfl⟩ := some3 e
            obtain ⟨h1, h2⟩ := andB_true ho
            obtain ⟨c1, c2⟩ := andB_true hc
            obtain ⟨c2, c3⟩ := andB_true c2
            have c1 := of_decide_eq_true c1
            have c2 := Nat.le_of_ble_eq_true c2
            have c3 := Nat.le_of_ble_eq_true c3
            rw [arm_assign_Subscript]
            refine wpAny_bind (wpAny_holding (wpAny_mono (SE _ _ _ _ _ _ _ e1 h1 _ _ _ _ _ x) (fun ov s1 hv => ?_) fun _ _ q => q))
            obtain ⟨ρ1, ev1, ⟨b, rfl, eb⟩, d1⟩ := hv
            refine wpAny_bind (wpAny_holding (wpAny_mono (SE _ _ _ _ _ _ _ e2 h2 _ _ _ _ _ (x.step ev1 d1)) (fun iv s2 hv => ?_) fun _ _ q => q))
            obtain ⟨ρ2, ev2, ⟨⟨tk, rfl⟩, hj⟩, d2⟩ := hv
            have r2 := Rep.mono ((ev1.trans ev2).grows0 x.inv) _ _ r
            have eb2 : ρ2[k]? = some b := by
              obtain ⟨y, rfl⟩ := ev2.pre
              rw [List.getElem?_append_left (List.getElem?_eq_some_iff.mp eb).1]; exact eb
            obtain ⟨b', ws, eb', hl, rl⟩ := ev2.inv.obj k l (getD_some el)
            rw [eb2] at eb'; cases eb'
            have hw := rl.length
            refine wpAny_bind (wpAny_standAt (wpAny_bind (wpAny_holding (setItem_plain hl c1 (by omega) (by rw [List.size_toArray]; omega) fun h' hl' hs => ?_))))
            have ev3 : Ev h₀ F nobody s2 ρ2 st2.sto { s2 with heap := h' } ρ2 (st2.sto.set k (some (l.set j.toNat d))) :=
              Ev.set ev2.inv (tk := s2.toks) (vs := ws.set j.toNat v) (getD_some el) eb2 hs (by simpa using hl') (rl.set r2)
            have ev := (ev1.trans ev2).trans ev3
            have fin : PA h₀ F env s ρ sc st vs ⟨st2.sto.set k (some (l.set j.toNat d)), st2.ds, st2.dep⟩ { s2 with heap := h' } :=
              ⟨ρ2, ev.widen fun _ q => q.elim, x.fm.mono0 x.inv ev, d2.trans d1⟩
            exact fun Γ p hΓ => by rw [Sem.wp_release]; exact fin
        · first | exact no_some e | cases e
      · first | exact no_some e | cases e
    · first | exact no_some e | cases e
  · first | exact no_some e | cases e

theorem assignEach_plain {t : Expr} {ts : List Expr} (h : ∀ x p, t ≠ .Starred x p) : assignEach (t :: ts) env = (false, assign t env) :: assignEach ts env := by
  cases t <;> first | rfl | exact absurd rfl (h _ _)

theorem asgs_len : ∀ (ts : List Expr) (vs : Vars) (st : St) (ds : List D) (vs' : Vars) (st' : St) (o : Bool), asgs self sc vs st ts ds = some (vs', st', o) → ts.length = ds.length ∧ ∀ t ∈ ts, ∀ x p, t ≠ .Starred x p
  | [], vs, st, [], vs', st', o, e => ⟨rfl, fun t h => by cases h⟩
  | [], vs, st, _ :: _, vs', st', o, e => by simp [asgs] at e
  | _ :: _, vs, st, [], vs', st', o, e => by simp [asgs] at e
  | t :: ts, vs, st, d :: ds, vs', st', o, e => by
    unfold asgs at e
    split at e
    · rename_i vs1 st1 o1 e1
      split at e
      · rename_i vs2 st2 o2 e2
        obtain ⟨h1, h2⟩ := asgs_len ts vs1 st1 ds vs2 st2 o2 e2
        refine ⟨by simp [h1], fun u hu => ?_⟩
        rcases List.mem_cons.mp hu with rfl | hu
        · rintro y p rfl
          simp [asg1] at e1
        · exact h2 u hu
      · first | exact no_some e | cases e
    · first | exact no_some e | cases e

theorem asgs_ok (SE : SoundE prog w h₀ K self.E) : ∀ (ts : List Expr) (vs : Vars) (st : St) (ds : List D) (vs' : Vars) (st' : St) (o : Bool) (s : Shared) (ρ : List Addr) (vals : List Value), asgs self sc vs st ts ds = some (vs', st', o) → o = true →
    Cx h₀ K F env A s ρ sc vs st → Reps s.heap (Mv F ρ st.sto) ρ ds vals → wpAny (model prog w) A (assignInOrder ((assignEach ts env).map (·.2)) vals) (fun _ s' => PA h₀ F env s ρ sc st vs' st' s') no s
  | [], vs, st, [], vs', st', o, s, ρ, vals, e, ho, x, r => by
    simp [asgs] at e
    obtain ⟨rfl, rfl, _⟩ := e
    have r' : vals = [] := r
    subst r'
    exact wpAny_pure ⟨ρ, Ev.refl x.inv, x.fm, rfl⟩
  | [], vs, st, _ :: _, vs', st', o, s, ρ, vals, e, ho, x, r => by simp [asgs] at e
  | _ :: _, vs, st, [], vs', st', o, s, ρ, vals, e, ho, x, r => by simp [asgs] at e
  | t :: ts, vs, st, d :: ds, vs', st', o, s, ρ, vals, e, ho, x, r => by
    have hns := (asgs_len _ _ _ _ _ _ _ e).2 t List.mem_cons_self
    unfold asgs at e
    split at e
    · rename_i vs1 st1 o1 e1
      split at e
      · rename_i vs2 st2 o2 e2
        injection e with e; injection e with e3 e; injection e with e4 e5
        subst e3 e4 e5
        obtain ⟨h1, h2⟩ := andB_true ho
        obtain ⟨v, vals', rfl, rd, rl⟩ := r
        rw [assignEach_plain hns]
        show wpAny _ A (holding vals' (assign t env v) >>= fun _ => assignInOrder ((assignEach ts env).map (·.2)) vals') _ _ s
        refine wpAny_bind (wpAny_holding (wpAny_mono (asg1_ok SE e1 h1 x rd) (fun _ s1 hv => ?_) fun _ _ q => q))
        obtain ⟨ρ1, ev1, fm1, d1⟩ := hv
        have rl1 := Reps.mono (ev1.grows x.inv x.fm.own_still) _ _ rl
        refine wpAny_mono (asgs_ok SE ts vs1 st1 ds vs2 st2 o2 s1 ρ1 vals' e2 h2 ⟨ev1.inv, fm1, by rw [d1]; exact x.aok⟩ rl1) (fun _ s2 hv => ?_) fun _ _ q => q
        obtain ⟨ρ2, ev2, fm2, d2⟩ := hv
        exact ⟨ρ2, ev1.trans ev2, fm2, d2.trans d1⟩
      · first | exact no_some e | cases e
    · first | exact no_some e | cases e

theorem seqOf_rep {h : Heap} {M : Addr → Prop} {v : Value} {ds : List D} (e : seqOf d = some ds) (r : Rep h M ρ d v) : ∃ a ws, v = .ref a ∧ h.IsTuple a ws.toArray ∧ Reps h M ρ ds ws := by
  unfold seqOf at e
  split at e
  · injection e with e; subst e
    exact r
  · injection e with e; subst e
    obtain ⟨⟨b, t1, t2, rfl, hl⟩, hb1, hb2⟩ := r
    exact ⟨b, _, rfl, hl, _, _, rfl, ⟨⟨_, rfl⟩, hb1⟩, _, _, rfl, ⟨⟨_, rfl⟩, by simpa using hb2⟩, rfl⟩
  · first | exact no_some e | cases e

theorem star_none : ∀ (ts : List Expr), (∀ t ∈ ts, ∀ x p, t ≠ .Starred x p) → (assignEach ts env).findIdx? (·.1) = none ∧ (assignEach ts env).length = ts.length
  | [], _ => ⟨rfl, rfl⟩
  | t :: ts, h => by
    rw [assignEach_plain (h t List.mem_cons_self)]
    obtain ⟨h1, h2⟩ := star_none ts fun u hu => h u (List.mem_cons_of_mem _ hu)
    refine ⟨?_, by simp [h2]⟩
    rw [List.findIdx?_cons, h1]; rfl

theorem asgT_ok (SE : SoundE prog w h₀ K self.E) {ts : List Expr} {k : Nat} {p : Pos} {v : Value} {ds : List D} (e0 : seqOf d = some ds) (e : asgs self sc vs st ts ds = some (vs', st', o)) (ho : o = true) (x : Cx h₀ K F env A s ρ sc vs st)
    (r : Rep s.heap (Mv F ρ st.sto) ρ d v) : wpAny (model prog w) A (assign (.Tuple ts k p) env v) (fun _ s' => PA h₀ F env s ρ sc st vs' st' s') no s := by
  obtain ⟨a, ws, rfl, ht, rl⟩ := seqOf_rep e0 r
  obtain ⟨l1, l2⟩ := asgs_len _ _ _ _ _ _ _ e
  obtain ⟨s1, s2⟩ := star_none (env := env) ts l2
  refine wpAny_assign_Tuple x.aok.hh ht (by rw [s2, l1, List.size_toArray, rl.length]) s1 fun h' he => ?_
  have X : Ev h₀ F nobody s ρ st.sto { s with heap := h' } ρ st.sto := Ev.of_keep x.inv (tk := s.toks) fun b o eb => he b o (Nat.ne_of_lt (Heap.lt_size eb)) eb
  refine wpAny_mono (asgs_ok SE ts vs st ds vs' st' o { s with heap := h' } ρ ws e ho (x.step X rfl) (Reps.mono (X.grows0 x.inv) _ _ rl)) (fun _ s3 hv => ?_) fun _ _ q => q
  obtain ⟨ρ1, ev1, fm1, d1⟩ := hv
  exact ⟨ρ1, (X.widen fun _ q => q.elim).trans ev1, fm1, d1⟩

theorem asgN_ok : ∀ (ns : List Str) (vs : Vars) (ds : List D) (vs' : Vars) (s : Shared) (vals : List Value), asgN sc vs ns ds = some vs' → Cx h₀ K F env A s ρ sc vs st → Reps s.heap (Mv F ρ st.sto) ρ ds vals →
    wpAny (model prog w) A (assignInOrder (ns.map fun n => bindName env n) vals) (fun _ s' => PA h₀ F env s ρ sc st vs' st s') no s
  | [], vs, [], vs', s, vals, e, x, r => by
    simp [asgN] at e
    subst e
    have r' : vals = [] := r
    subst r'
    exact wpAny_pure ⟨ρ, Ev.refl x.inv, x.fm, rfl⟩
  | [], vs, _ :: _, vs', s, vals, e, x, r => by simp [asgN] at e
  | _ :: _, vs, [], vs', s, vals, e, x, r => by simp [asgN] at e
  | n :: ns, vs, d :: ds, vs', s, vals, e, x, r => by
    unfold asgN at e
    cases hl : isStore sc n with
    | false => rw [hl] at e; first | exact no_some e | cases e
    | true =>
      rw [hl, cond_true] at e
      obtain ⟨v, vals', rfl, rd, rl⟩ := r
      show wpAny _ A (holding vals' (bindName env n v) >>= fun _ => assignInOrder (ns.map fun n => bindName env n) vals') _ _ s
      refine wpAny_bind (wpAny_holding (wpAny_bindName (store_var x.inv x.fm hl rd fun s1 ev1 fm1 => ?_)))
      have rl1 := Reps.mono (ev1.grows x.inv x.fm.own_still) _ _ rl
      refine wpAny_mono (asgN_ok ns _ ds vs' s1 vals' e ⟨ev1.inv, fm1, x.aok⟩ rl1) (fun _ s2 hv => ?_) fun _ _ q => q
      obtain ⟨ρ2, ev2, fm2, d2⟩ := hv
      exact ⟨ρ2, ev1.trans ev2, fm2, d2⟩
end
end Mine
end

section
set_option autoImplicit false
set_option linter.unusedVariables false
namespace Mine
open PySem PySem.Calls PyProof.Rows

noncomputable def ItRep (h : Heap) (M : Addr → Prop) (ρ : List Addr) (I : Addr) (fp : List Addr) : It → Prop
  | .seq l => fp = [I] ∧ ∃ ax vs i, h.IsListIter I ax i ∧ h.IsList ax (List.toArray vs) ∧ ¬ M ax ∧ Reps h M ρ l (vs.drop i)
  | .rng a b => fp = [I] ∧ ∃ left, IsRangeIter h I a left 1 ∧ (a < b → left = b - a) ∧ (¬ a < b → left ≤ 0)
  | .mutI k i => fp = [I] ∧ ∃ ax, h.IsListIter I ax i ∧ ρ[k]? = some ax
  | .enm i l => ∃ it ax vs old, fp = [I, it] ∧ I ≠ it ∧ IsEnum h I it i old ∧ h.IsListIter it ax i ∧ h.IsList ax (List.toArray vs) ∧ ¬ M ax ∧ Reps h M ρ l (vs.drop i)
  | .enmM i k => ∃ it ax old, fp = [I, it] ∧ I ≠ it ∧ IsEnum h I it i old ∧ h.IsListIter it ax i ∧ ρ[k]? = some ax

noncomputable def Fields (h : Heap) (b : Addr) : Prop := ∃ o vs, h.get? b = some o ∧ o.data = .fields vs ∧ o.cls ≠ .type "range"

theorem listIter_fields {h : Heap} {I ax : Addr} {i : Nat} (x : h.IsListIter I ax i) : Fields h I := by
  obtain ⟨o, h1, h2, h3⟩ := x
  exact ⟨o, _, h1, h3, by rw [h2]; decide⟩
theorem enum_fields {h : Heap} {e it : Addr} {i : Int} {old : Value} (x : IsEnum h e it i old) : Fields h e := ⟨_, _, x, rfl, fun q => absurd (Value.type.inj q) (by decide)⟩

section
variable {prog : Program} {w : World} {h₀ h : Heap} {c : Cfg} {K : Nat} {mg mb : Str → Option Value} {F own : Addr → Prop} {env : Env} {A : Around} {s s' : Shared} {ρ ρ' : List Addr} {σ σ' : Sto} {sc : Sc} {vs vs' : Vars} {st st' st1 st2 st3 : St}
  {self : Self} {o o1 o2 o3 : Bool} {d : D} {I : Addr} {fp : List Addr} {it it' : It} {M : Addr → Prop}

theorem ItRep.fields (x : ItRep h M ρ I fp it) : ∀ b ∈ fp, Fields h b := by
  cases it with
  | seq l => obtain ⟨rfl, ax, vs, i, h1, _⟩ := x; intro b hb; simp at hb; subst hb; exact listIter_fields h1
  | rng a b => obtain ⟨rfl, left, h1, _⟩ := x; intro b hb; simp at hb; subst hb; exact ⟨_, _, h1, rfl, by simp⟩
  | mutI k i => obtain ⟨rfl, ax, h1, _⟩ := x; intro b hb; simp at hb; subst hb; exact listIter_fields h1
  | enm i l => obtain ⟨it, ax, vs, old, rfl, _, h1, h2, _⟩ := x; intro b hb; simp at hb; exact hb.elim (fun q => q ▸ enum_fields h1) fun q => q ▸ listIter_fields h2
  | enmM i k => obtain ⟨it, ax, old, rfl, _, h1, h2, _⟩ := x; intro b hb; simp at hb; exact hb.elim (fun q => q ▸ enum_fields h1) fun q => q ▸ listIter_fields h2

theorem Fields.still {b : Addr} {o : Obj} (x : Fields h b) (e : h.get? b = some o) : ¬ Still o := by
  obtain ⟨o', vs, e', h1, h2⟩ := x
  rw [e] at e'; cases e'
  rintro (⟨xs, n, q⟩ | ⟨q, _⟩)
  · rw [h1] at q; cases q
  · exact h2 q
theorem Fields.not_lv (I : Inv h₀ F h ρ σ) {b : Addr} (x : Fields h b) : ¬ Mv F ρ σ b := fun q => by
  obtain ⟨o, e, _, xs, n, hd⟩ := I.lists q
  exact x.still e (.inl ⟨xs, n, hd⟩)
theorem Fields.ne_ns {b a : Addr} {m : Str → Option Value} (x : Fields h b) (n : h.Ns a m) : b ≠ a := fun q => by
  subst q
  obtain ⟨o, vs, e, h1, _⟩ := x
  obtain ⟨o', es, ep, e', hd, _⟩ := n
  rw [e] at e'; cases e'; rw [h1] at hd; cases hd
theorem Fields.ne_cell {b a : Addr} {v : Option Value} (x : Fields h b) (n : h.IsCell a v) : b ≠ a := fun q => by
  subst q
  obtain ⟨o, vs, e, h1, _⟩ := x
  obtain ⟨o', e', hd⟩ := n
  rw [e] at e'; cases e'; rw [h1] at hd; cases hd

theorem Heap.IsListIter.kept {h h' : Heap} {I ax : Addr} {i : Nat} (x : h.IsListIter I ax i) (k : ∀ o, h.get? I = some o → h'.get? I = some o) : h'.IsListIter I ax i := let ⟨o, e, r⟩ := x; ⟨o, k o e, r⟩

theorem ItRep.mono {h h' : Heap} {M M' : Addr → Prop} (G : Grows h h' M M' ρ ρ') (k : ∀ b ∈ fp, ∀ o, h.get? b = some o → h'.get? b = some o) (x : ItRep h M ρ I fp it) : ItRep h' M' ρ' I fp it := by
  cases it with
  | seq l =>
    obtain ⟨rfl, ax, vs, i, h1, h2, h3, h4⟩ := x
    exact ⟨rfl, ax, vs, i, Heap.IsListIter.kept h1 (k I (by simp)), (G.list h2 h3).1, (G.list h2 h3).2, Reps.mono G _ _ h4⟩
  | rng a b =>
    obtain ⟨rfl, left, h1, h2⟩ := x
    exact ⟨rfl, left, k I (by simp) _ h1, h2⟩
  | mutI j i =>
    obtain ⟨rfl, ax, h1, h2⟩ := x
    exact ⟨rfl, ax, Heap.IsListIter.kept h1 (k I (by simp)), by
      obtain ⟨y, rfl⟩ := G.pre
      rw [List.getElem?_append_left (List.getElem?_eq_some_iff.mp h2).1]; exact h2⟩
  | enm i l =>
    obtain ⟨it, ax, vs, old, rfl, hne, h1, h2, h3, h4, h5⟩ := x
    exact ⟨it, ax, vs, old, rfl, hne, k I (by simp) _ h1, Heap.IsListIter.kept h2 (k it (by simp)), (G.list h3 h4).1, (G.list h3 h4).2, Reps.mono G _ _ h5⟩
  | enmM i j =>
    obtain ⟨it, ax, old, rfl, hne, h1, h2, h3⟩ := x
    exact ⟨it, ax, old, rfl, hne, k I (by simp) _ h1, Heap.IsListIter.kept h2 (k it (by simp)), by
      obtain ⟨y, rfl⟩ := G.pre
      rw [List.getElem?_append_left (List.getElem?_eq_some_iff.mp h3).1]; exact h3⟩

theorem ev_fp (Iv : Inv h₀ F s.heap ρ σ) {h' : Heap} {tk : Tok} (hf : ∀ b ∈ fp, Fields s.heap b) (hn : ∀ b ∈ fp, h₀.get? b = none) (k : ∀ b o, b ∉ fp → s.heap.get? b = some o → h'.get? b = some o)
    (al : ∀ b ∈ fp, ∃ o, h'.get? b = some o) : Ev h₀ F (· ∈ fp) s ρ σ { s with heap := h', toks := tk } ρ σ :=
  Ev.of_own Iv (fun b o e nb => k b o nb e) (fun b o ob e => (hf b ob).still e) (fun b o ob e => al b ob) hn

theorem let_go_name {target : Expr} {I v : Value} (ht : match target with | .Tuple .. => False | .List .. => False | _ => True) : letOwnedTupleGo target I v = pure () := by
  unfold letOwnedTupleGo
  cases target <;> first | rfl | exact ht.elim

theorem al_same {h h' : Heap} (hs : Heap.SameBut I h h') (x : Fields h' I) : ∀ b ∈ [I], ∃ o, h'.get? b = some o := fun b hb => by
  simp at hb; subst hb; obtain ⟨o, _, e, _⟩ := x; exact ⟨o, e⟩

noncomputable def PN (h₀ : Heap) (F : Addr → Prop) (fp : List Addr) (s : Shared) (ρ : List Addr) (σ : Sto) (I : Addr) (x : D) (it : It) (v : Value) (s' : Shared) : Prop :=
  Ev h₀ F (· ∈ fp) s ρ σ s' ρ σ ∧ Rep s'.heap (Mv F ρ σ) ρ x v ∧ ItRep s'.heap (Mv F ρ σ) ρ I fp it

theorem drop_head {l : List D} {x : D} {vs : List Value} {i : Nat} (r : Reps h M ρ (x :: l) (vs.drop i)) : ∃ v, vs[i]? = some v ∧ Rep h M ρ x v ∧ Reps h M ρ l (vs.drop (i + 1)) := by
  obtain ⟨v, r', e, a, b⟩ := r
  have hv : vs[i]? = some v := by
    have := congrArg (·[0]?) e
    simpa using this
  refine ⟨v, hv, a, ?_⟩
  have : vs.drop (i + 1) = r' := by
    rw [← List.drop_drop, e]; rfl
  rw [this]; exact b
theorem drop_none {vs : List Value} {i : Nat} (r : Reps h M ρ [] (vs.drop i)) : vs[i]? = none := by
  have r' : vs.drop i = [] := r
  rw [List.drop_eq_nil_iff] at r'
  exact List.getElem?_eq_none r'

theorem next_name (hA : AOk K A) (Iv : Inv h₀ F s.heap ρ σ) {x : D} {n : Str} {p : Pos} (e : nextI σ it = some (some (x, it'))) (ht : okT (.Name n p) it = true) (r : ItRep s.heap (Mv F ρ σ) ρ I fp it) (hn : ∀ b ∈ fp, h₀.get? b = none) :
    wpAny (model prog w) A (pyNext (.ref I)) (fun r s1 => ∃ v, r = some v ∧ PN h₀ F fp s ρ σ I x it' v s1) no s := by
  have hf := r.fields
  cases it with
  | seq l =>
    obtain ⟨rfl, ax, vs, i, h1, h2, h3, h4⟩ := r
    cases l with
    | nil => simp [nextI] at e
    | cons d l =>
      simp [nextI] at e
      obtain ⟨rfl, rfl⟩ := e
      obtain ⟨v, hv, rv, rl⟩ := drop_head h4
      refine wpAny_pyNext_list_item h1 h2 (by simpa using hv) fun h' hit hs => ⟨v, rfl, ?_⟩
      have X : Ev h₀ F (· ∈ [I]) s ρ σ { s with heap := h' } ρ σ := ev_fp Iv (tk := s.toks) hf hn (fun b o nb eb => hs.extBut b o (by simpa using nb) eb) (al_same hs (listIter_fields hit))
      have G := X.grows Iv fun b o ob eb => (hf b ob).still eb
      exact ⟨X, Rep.mono G _ _ rv, rfl, ax, vs, i + 1, hit, (G.list h2 h3).1, h3, Reps.mono G _ _ rl⟩
  | rng a b =>
    obtain ⟨rfl, left, h1, h2, h3⟩ := r
    cases hab : decide (a < b) with
    | false => simp [nextI, hab] at e
    | true =>
      simp [nextI, hab] at e
      obtain ⟨rfl, rfl⟩ := e
      have hlt := of_decide_eq_true hab
      have hleft := h2 hlt
      refine wpAny_pyNext_range_item h1 (by omega) fun h' hit hs => ⟨_, rfl, ?_⟩
      have X : Ev h₀ F (· ∈ [I]) s ρ σ { s with heap := h', toks := s.toks + 1 } ρ σ := ev_fp Iv hf hn (fun b o nb eb => hs.extBut b o (by simpa using nb) eb) (al_same hs ⟨_, _, hit, rfl, by simp⟩)
      exact ⟨X, rep_lit _ _, rfl, left - 1, hit, fun q => by omega, fun q => by omega⟩
  | mutI k i =>
    obtain ⟨rfl, ax, h1, h2⟩ := r
    unfold nextI at e
    simp only at e
    split at e
    · rename_i l el
      split at e
      · rename_i y ey
        simp at e
        obtain ⟨rfl, rfl⟩ := e
        obtain ⟨b, ws, eb, hl, rl⟩ := Iv.obj k l (getD_some el)
        rw [h2] at eb; cases eb
        obtain ⟨v, hv, rv⟩ := rl.get ey
        refine wpAny_pyNext_list_item h1 (pl_list hl) (by simpa using hv) fun h' hit hs => ⟨v, rfl, ?_⟩
        have X : Ev h₀ F (· ∈ [I]) s ρ σ { s with heap := h' } ρ σ := ev_fp Iv (tk := s.toks) hf hn (fun b o nb eb => hs.extBut b o (by simpa using nb) eb) (al_same hs (listIter_fields hit))
        have G := X.grows Iv fun b o ob eb => (hf b ob).still eb
        exact ⟨X, Rep.mono G _ _ rv, rfl, ax, hit, h2⟩
      · first | exact no_some e | cases e
    · first | exact no_some e | cases e
  | enm i l => cases ht
  | enmM i k => cases ht

theorem next_tuple (hA : AOk K A) (Iv : Inv h₀ F s.heap ρ σ) {x : D} {ts : List Expr} {k : Nat} {p : Pos} (e : nextI σ it = some (some (x, it'))) (ht : okT (.Tuple ts k p) it = true) (r : ItRep s.heap (Mv F ρ σ) ρ I fp it) (hn : ∀ b ∈ fp, h₀.get? b = none) :
    wpAny (model prog w) A (pyNext (.ref I)) (fun r s1 => ∃ v, r = some v ∧ wpAny (model prog w) A (letOwnedTupleGo (.Tuple ts k p) (.ref I) v) (fun _ s2 => PN h₀ F fp s ρ σ I x it' v s2) no s1) no s := by
  have hf := r.fields
  have core : ∀ (j : Nat) (it ax : Addr) (vs : List Value) (old y : Value) (dy : D), fp = [I, it] → I ≠ it → IsEnum s.heap I it j old → s.heap.IsListIter it ax j → s.heap.IsList ax vs.toArray → vs[j]? = some y → Rep s.heap (Mv F ρ σ) ρ dy y →
      wpAny (model prog w) A (pyNext (.ref I)) (fun r s1 => ∃ v, r = some v ∧ wpAny (model prog w) A (letOwnedTupleGo (.Tuple ts k p) (.ref I) v) (fun _ s2 =>
        Ev h₀ F (· ∈ fp) s ρ σ s2 ρ σ ∧ Rep s2.heap (Mv F ρ σ) ρ (.tup [litD j, dy]) v ∧ IsEnum s2.heap I it ((j : Int) + 1) y ∧ s2.heap.IsListIter it ax (j + 1)) no s1) no s := by
    intro j it ax vs old y dy hfp hne he hit hl hy ry
    refine wpAny_pyNext_enum_item he hit hl (by simpa using hy) hne fun h' he' hit' ht' hz hk => ⟨_, rfl, ?_⟩
    refine wpAny_letOwnedTupleGo_enum he' fun h'' he'' hs'' => ?_
    have n1 : s.heap.objs.size ≠ I := Nat.ne_of_gt (Heap.lt_size (h := s.heap) he)
    have keep : ∀ b o, b ∉ fp → s.heap.get? b = some o → h''.get? b = some o := fun b o nb eb => by
      rw [hfp] at nb
      simp at nb
      exact hs''.extBut b o nb.1 (hk b o nb.1 nb.2 eb)
    have hit'' : h''.IsListIter it ax (j + 1) := hit'.extBut hs''.extBut (Ne.symm hne)
    have X : Ev h₀ F (· ∈ fp) s ρ σ { s with heap := h'', toks := s.toks + 1 } ρ σ := ev_fp Iv hf hn keep (fun b hb => by
      rw [hfp] at hb
      simp at hb
      rcases hb with rfl | rfl
      · exact ⟨_, he''⟩
      · obtain ⟨o, e1, _⟩ := hit''; exact ⟨o, e1⟩)
    have G := X.grows Iv fun b o ob eb => (hf b ob).still eb
    refine ⟨X, ⟨_, [.int j s.toks, y], rfl, ⟨_, hs''.extBut _ _ n1 ht', rfl, _, rfl⟩, _, _, rfl, rep_lit _ _, _, _, rfl, Rep.mono G _ _ ry, rfl⟩, he'', hit''⟩
  cases it with
  | seq l => cases ht
  | rng a b => cases ht
  | mutI k i => cases ht
  | enm i l =>
    obtain ⟨it, ax, vs, old, rfl, hne, h1, h2, h3, h4, h5⟩ := r
    cases l with
    | nil => simp [nextI] at e
    | cons d l =>
      simp [nextI] at e
      obtain ⟨rfl, rfl⟩ := e
      obtain ⟨v, hv, rv, rl⟩ := drop_head h5
      refine wpAny_mono (core i it ax vs old v d rfl hne h1 h2 h3 hv rv) (fun r s1 hr => ?_) fun _ _ q => q
      obtain ⟨u, rfl, hr⟩ := hr
      refine ⟨u, rfl, wpAny_mono hr (fun _ s2 q => ?_) fun _ _ q => q⟩
      obtain ⟨X, ru, he, hi⟩ := q
      have G := X.grows Iv fun b o ob eb => (hf b ob).still eb
      exact ⟨X, ru, it, ax, vs, v, rfl, hne, by simpa using he, hi, (G.list h3 h4).1, h4, Reps.mono G _ _ rl⟩
  | enmM i j =>
    obtain ⟨it, ax, old, rfl, hne, h1, h2, h3⟩ := r
    unfold nextI at e
    simp only at e
    split at e
    · rename_i l el
      split at e
      · rename_i y ey
        simp at e
        obtain ⟨rfl, rfl⟩ := e
        obtain ⟨b, ws, eb, hl, rl⟩ := Iv.obj j l (getD_some el)
        rw [h3] at eb; cases eb
        obtain ⟨v, hv, rv⟩ := rl.get ey
        refine wpAny_mono (core i it ax ws old v y rfl hne h1 h2 (pl_list hl) hv rv) (fun r s1 hr => ?_) fun _ _ q => q
        obtain ⟨u, rfl, hr⟩ := hr
        refine ⟨u, rfl, wpAny_mono hr (fun _ s2 q => ?_) fun _ _ q => q⟩
        obtain ⟨X, ru, he, hi⟩ := q
        exact ⟨X, ru, it, ax, v, rfl, hne, by simpa using he, hi, h3⟩
      · first | exact no_some e | cases e
    · first | exact no_some e | cases e

structure EvD (h₀ : Heap) (F : Addr → Prop) (own : Addr → Prop) (fp : List Addr) (s : Shared) (ρ : List Addr) (σ : Sto) (s' : Shared) (ρ' : List Addr) (σ' : Sto) : Prop where
  same : ∃ h tk, s' = { s with heap := h, toks := tk }
  keep : ∀ b o, s.heap.get? b = some o → ¬ Lv ρ σ b → ¬ own b → s'.heap.get? b = some o
  grow : ∀ a, Lv ρ' σ' a → Lv ρ σ a ∨ s.heap.get? a = Option.none
  pre : ∃ x, ρ' = ρ ++ x
  alive : ∀ b o, s.heap.get? b = some o → b ∈ fp ∨ ∃ o', s'.heap.get? b = some o'
  inv : Inv h₀ F s'.heap ρ' σ'

theorem Ev.toD (x : Ev h₀ F own s ρ σ s' ρ' σ') : EvD h₀ F own fp s ρ σ s' ρ' σ' := ⟨x.same, x.keep, x.grow, x.pre, fun b o e => .inr (x.alive b o e), x.inv⟩
theorem Ev.thenD {s'' : Shared} {ρ'' : List Addr} {σ'' : Sto} (x : Ev h₀ F own s ρ σ s' ρ' σ') (y : EvD h₀ F own fp s' ρ' σ' s'' ρ'' σ'') : EvD h₀ F own fp s ρ σ s'' ρ'' σ'' := by
  obtain ⟨⟨h1, t1, e1⟩, k1, g1, ⟨a, p1⟩, a1, _⟩ := x
  obtain ⟨⟨h2, t2, e2⟩, k2, g2, ⟨b, p2⟩, a2, I⟩ := y
  refine ⟨⟨h2, t2, by rw [e2, e1]⟩, fun b o e m n => k2 b o (k1 b o e m n) (fun m' => ?_) n, fun c m => ?_, ⟨a ++ b, by rw [p2, p1, List.append_assoc]⟩,
    fun b o e => let ⟨o', e'⟩ := a1 b o e; a2 b o' e', I⟩
  · rcases g1 b m' with q | q
    · exact m q
    · rw [e] at q; cases q
  · rcases g2 c m with q | q
    · exact g1 c q
    · right
      cases e : s.heap.get? c with
      | none => rfl
      | some o =>
        obtain ⟨o', e'⟩ := a1 c o e
        rw [e'] at q; cases q
theorem EvD.close {own' : Addr → Prop} (x : EvD h₀ F own fp s ρ σ s' ρ' σ') (hw : ∀ a, own a → own' a ∨ s.heap.get? a = none) (hf : ∀ b ∈ fp, s.heap.get? b = none) : Ev h₀ F own' s ρ σ s' ρ' σ' :=
  ⟨x.same, fun b o e m n => x.keep b o e m fun q => (hw b q).elim n fun q => (by rw [e] at q; cases q), x.grow, x.pre,
    fun b o e => (x.alive b o e).elim (fun q => by rw [hf b q] at e; cases e) id, x.inv⟩

theorem EvD.grows' (I : Inv h₀ F s.heap ρ σ) (x : EvD h₀ F own fp s ρ σ s' ρ' σ') (hown : ∀ b o, own b → s.heap.get? b = some o → ¬ Still o ∨ Mv F ρ σ b) :
    Grows s.heap s'.heap (Mv F ρ σ) (Mv F ρ' σ') ρ ρ' :=
  ⟨fun b o e st m => x.keep b o e (fun q => m (.inr q)) fun ob => (hown b o ob e).elim (fun n => n st) m, fun _ m => let ⟨o, h1, h2, _⟩ := I.lists m; ⟨o, h1, h2⟩,
    fun a m => m.elim (fun q => .inl (.inl q)) fun q => (x.grow a q).imp .inr id, x.pre⟩
theorem Fm.monoD (I : Inv h₀ F s.heap ρ σ) (f : Fm h₀ env sc vs s.heap (Mv F ρ σ) ρ) (x : EvD h₀ F own fp s ρ σ s' ρ' σ')
    (hst : ∀ b o, own b → s.heap.get? b = some o → ¬ Still o ∨ Mv F ρ σ b) (hL : ¬ own env.locals) (hC : ∀ c ov, s.heap.IsCell c ov → ¬ own c) : Fm h₀ env sc vs s'.heap (Mv F ρ' σ') ρ' := by
  have G := x.grows' I hst
  have kc : ∀ {n : Str} {c : Addr} {ov : Option Value}, env.cells.lookup n = some c → s.heap.IsCell c ov → s'.heap.IsCell c ov := fun e ⟨o, h1, h2⟩ => ⟨o, x.keep _ _ h1 (I.not_cell ⟨o, h1, h2⟩) (hC _ _ ⟨o, h1, h2⟩), h2⟩
  refine ⟨f.kind, f.glob, f.blt, f.tidy, f.loc, fun n e => ?_, fun n e => ?_, f.glo, ?_, f.new, f.apart⟩
  · obtain ⟨q, c, ov, h1, h2, h3, h4⟩ := f.cel n e
    exact ⟨q, c, ov, h1, kc h1 h2, fun d ed => let ⟨v, hv, r⟩ := h3 d ed; ⟨v, hv, Rep.mono G _ _ r⟩, h4⟩
  · obtain ⟨q, c, ov, h1, h2, h3⟩ := f.fre n e
    exact ⟨q, c, ov, h1, kc h1 h2, fun d ed => let ⟨v, hv, r⟩ := h3 d ed; ⟨v, hv, Rep.mono G _ _ r⟩⟩
  · obtain ⟨m, n, r⟩ := f.ns
    exact ⟨m, n.at' (fun o e => x.keep _ o e (I.not_ns n) hL), fun y d e1 e2 => let ⟨v, hv, q⟩ := r y d e1 e2; ⟨v, hv, Rep.mono G _ _ q⟩⟩

theorem Fm.not_fp (f : Fm h₀ env sc vs s.heap (Mv F ρ σ) ρ) (hf : ∀ b ∈ fp, Fields s.heap b) : env.locals ∉ fp := fun q => by
  obtain ⟨m, n, _⟩ := f.ns
  exact (hf _ q).ne_ns n rfl
theorem fp_not_cell (hf : ∀ b ∈ fp, Fields s.heap b) : ∀ c ov, s.heap.IsCell c ov → c ∉ fp := fun c ov n q => (hf _ q).ne_cell n rfl
theorem Fm.fp_own (f : Fm h₀ env sc vs s.heap (Mv F ρ σ) ρ) (hf : ∀ b ∈ fp, Fields s.heap b) : ∀ b ∈ fp, ¬ Own env sc b := fun b m => by
  rintro (rfl | ⟨x, h1, h2⟩)
  · exact f.not_fp hf m
  · obtain ⟨_, c, ov, q, r, _⟩ := f.cel x h1
    rw [h2] at q; cases q
    exact fp_not_cell hf _ _ r m

theorem next_end (hA : AOk K A) (Iv : Inv h₀ F s.heap ρ σ) (e : nextI σ it = some none) (r : ItRep s.heap (Mv F ρ σ) ρ I fp it) (hn : ∀ b ∈ fp, h₀.get? b = none) :
    wpAny (model prog w) A (pyNext (.ref I)) (fun r s1 => r = none ∧ EvD h₀ F (· ∈ fp) fp s ρ σ s1 ρ σ) no s := by
  have hf := r.fields
  have core : ∀ J ∈ fp, ∀ h', Heap.ExtBut J s.heap h' → EvD h₀ F (· ∈ fp) fp s ρ σ { s with heap := h' } ρ σ := fun J hJ h' x =>
    have k : ∀ b o, b ∉ fp → s.heap.get? b = some o → h'.get? b = some o := fun b o nb eb => x b o (fun q => nb (q ▸ hJ)) eb
    ⟨⟨_, s.toks, rfl⟩, fun b o e _ n => k b o n e, fun _ m => .inl m, ⟨[], by simp⟩, fun b o e => Classical.byCases (fun q : b ∈ fp => .inl q) fun q => .inr ⟨o, k b o q e⟩,
      Iv.keeps (fun b o e st => k b o (fun q => (hf b q).still e st) e) fun b o e => k b o (fun q => by rw [hn b q] at e; cases e) (Iv.base b o e)⟩
  cases it with
  | seq l =>
    obtain ⟨rfl, ax, vs, i, h1, h2, h3, h4⟩ := r
    cases l with
    | cons d l => simp [nextI] at e
    | nil => exact wpAny_pyNext_list_end hA.hh h1 h2 (by simpa using drop_none h4) fun h' x => ⟨rfl, core I (by simp) h' x⟩
  | rng a b =>
    obtain ⟨rfl, left, h1, h2, h3⟩ := r
    cases hab : decide (a < b) with
    | true => simp [nextI, hab] at e
    | false => exact wpAny_pyNext_range_end hA.hh h1 (h3 (of_decide_eq_false hab)) fun h' x => ⟨rfl, core I (by simp) h' x⟩
  | mutI k i =>
    obtain ⟨rfl, ax, h1, h2⟩ := r
    unfold nextI at e
    simp only at e
    split at e
    · rename_i l el
      split at e
      · simp at e
      · rename_i ey
        obtain ⟨b, ws, eb, hl, rl⟩ := Iv.obj k l (getD_some el)
        rw [h2] at eb; cases eb
        refine wpAny_pyNext_list_end hA.hh h1 (pl_list hl) ?_ fun h' x => ⟨rfl, core I (by simp) h' x⟩
        have := rl.length
        rw [List.getElem?_eq_none_iff] at ey
        simp; omega
    · first | exact no_some e | cases e
  | enm i l =>
    obtain ⟨it, ax, vs, old, rfl, hne, h1, h2, h3, h4, h5⟩ := r
    cases l with
    | cons d l => simp [nextI] at e
    | nil => exact wpAny_pyNext_enum_end hA.hh h1 h2 h3 (by simpa using drop_none h5) fun h' x => ⟨rfl, core it (by simp) h' x⟩
  | enmM i j =>
    obtain ⟨it, ax, old, rfl, hne, h1, h2, h3⟩ := r
    unfold nextI at e
    simp only at e
    split at e
    · rename_i l el
      split at e
      · simp at e
      · rename_i ey
        obtain ⟨b, ws, eb, hl, rl⟩ := Iv.obj j l (getD_some el)
        rw [h3] at eb; cases eb
        refine wpAny_pyNext_enum_end hA.hh h1 h2 (pl_list hl) ?_ fun h' x => ⟨rfl, core it (by simp) h' x⟩
        have := rl.length
        rw [List.getElem?_eq_none_iff] at ey
        simp; omega
    · first | exact no_some e | cases e
end
end Mine
end

section
set_option autoImplicit false
set_option linter.unusedVariables false
namespace Mine
open PySem PySem.Calls PyProof.Rows

section
variable {prog : Program} {w : World} {h₀ h : Heap} {c : Cfg} {K : Nat} {mg mb : Str → Option Value} {F own : Addr → Prop} {env : Env} {A : Around} {s s' : Shared} {ρ ρ' : List Addr} {σ σ' : Sto} {sc : Sc} {vs vs' : Vars} {st st' st1 st2 st3 : St}
  {self : Self} {o o1 o2 o3 : Bool} {d : D} {I : Addr} {fp : List Addr} {it it' : It} {M : Addr → Prop}

noncomputable def PI (h₀ : Heap) (F : Addr → Prop) (s : Shared) (ρ : List Addr) (st : St) (it : It) (st1 : St) : Value → Shared → Prop := fun v s2 =>
  ∃ ρ1 I fp, v = .ref I ∧ Ev h₀ F nobody s ρ st.sto s2 ρ1 st1.sto ∧ ItRep s2.heap (Mv F ρ1 st1.sto) ρ1 I fp it ∧ (∀ b ∈ fp, h₀.get? b = none ∧ s.heap.get? b = none) ∧ st1.dep = st.dep

theorem fresh_base (Iv : Inv h₀ F s.heap ρ σ) {a : Addr} (h : s.heap.get? a = none) : h₀.get? a = none := by
  cases e : h₀.get? a with
  | none => rfl
  | some o => rw [Iv.base a o e] at h; cases h

theorem iter_plain {v : Value} (x : PE h₀ F s ρ st d st1 v s') (e : itOf st1.sto d = some it) : wpAny (model prog w) A (pyIter v) (PI h₀ F s ρ st it st1) no s' := by
  obtain ⟨ρ1, ev1, r1, d1⟩ := x
  have Iv := ev1.inv
  have fr : ∀ b ∈ [s'.heap.objs.size], h₀.get? b = none ∧ s.heap.get? b = none := fun b hb => by
    simp at hb; subst hb
    refine ⟨fresh_base Iv new_at, ?_⟩
    cases e : s.heap.get? s'.heap.objs.size with
    | none => rfl
    | some o =>
      obtain ⟨o', e'⟩ := ev1.alive _ o e
      rw [new_at] at e'; cases e'
  cases d with
  | lst l =>
    simp [itOf] at e; subst e
    obtain ⟨a, vs, rfl, hl, hm, rl⟩ := r1
    refine wpAny_pyIter_list hl ⟨ρ1, _, _, rfl, ev1.trans (Ev.push Iv _), ⟨rfl, a, vs, 0, ⟨_, Heap.get?_push_size _ rfl, rfl, rfl⟩, ?_, hm, ?_⟩, fr, d1⟩
    · obtain ⟨o, h1, h2⟩ := hl
      exact ⟨o, Heap.get?_push_of_some _ h1, h2⟩
    · exact Reps.mono ((Ev.push (own := nobody) Iv _).grows0 Iv) _ _ (by simpa using rl)
  | rng a b =>
    simp [itOf] at e; subst e
    obtain ⟨⟨r, t, u, z, rfl, hr⟩, ha, hb⟩ := r1
    refine wpAny_pyIter_range hr (range_small ha hb) ⟨ρ1, _, _, rfl, ev1.trans (Ev.push Iv _), ⟨rfl, _, Heap.get?_push_size _ rfl, fun q => ?_, fun q => ?_⟩, fr, d1⟩
    · rw [rangeSize_one, if_pos q]
    · rw [rangeSize_one, if_neg q]; exact Int.le_refl _
  | «mut» k =>
    unfold itOf at e
    simp only at e
    cases el : (st1.sto[k]?).getD none with
    | none => rw [el] at e; first | exact no_some e | cases e
    | some l =>
      rw [el] at e
      simp at e; subst e
      obtain ⟨a, rfl, hk⟩ := r1
      obtain ⟨b, ws, eb, hl, rl⟩ := Iv.obj k l (getD_some el)
      rw [hk] at eb; cases eb
      exact wpAny_pyIter_list (pl_list hl) ⟨ρ1, _, _, rfl, ev1.trans (Ev.push Iv _), ⟨rfl, a, ⟨_, Heap.get?_push_size _ rfl, rfl, rfl⟩, hk⟩, fr, d1⟩
  | _ => simp [itOf] at e

theorem enum_plain {v : Value} (x : PE h₀ F s ρ st d st1 v s') (e : enmOf st1.sto d = some it) : wpAny (model prog w) A (call (.type "enumerate") [v]) (fun u s2 => wpAny (model prog w) A (pyIter u) (PI h₀ F s ρ st it st1) no s2) no s' := by
  obtain ⟨ρ1, ev1, r1, d1⟩ := x
  have Iv := ev1.inv
  have nw : ∀ b : Nat, s'.heap.objs.size ≤ b → h₀.get? b = none ∧ s.heap.get? b = none := fun b hb => by
    have e0 : s'.heap.get? b = none := by
      cases e : s'.heap.get? b with
      | none => rfl
      | some o => exact absurd (Heap.lt_size e) (Nat.not_lt_of_ge hb)
    refine ⟨fresh_base Iv e0, ?_⟩
    cases e : s.heap.get? b with
    | none => rfl
    | some o =>
      obtain ⟨o', e'⟩ := ev1.alive _ o e
      rw [e0] at e'; cases e'
  have fr : ∀ b ∈ [s'.heap.objs.size + 1, s'.heap.objs.size], h₀.get? b = none ∧ s.heap.get? b = none := fun b hb => by
    simp at hb
    rcases hb with rfl | rfl
    · exact nw _ (Nat.le_succ _)
    · exact nw _ (Nat.le_refl _)
  have hne : s'.heap.objs.size + 1 ≠ s'.heap.objs.size := Nat.succ_ne_self _
  cases d with
  | lst l =>
    simp [enmOf] at e; subst e
    obtain ⟨a, vs, rfl, hl, hm, rl⟩ := r1
    refine call_enumerate_list hl fun h' he hi hz hk => ?_
    have X : Ev h₀ F nobody s' ρ1 st1.sto { s' with heap := h' } ρ1 st1.sto := Ev.of_keep Iv (tk := s'.toks) hk
    refine wpAny_pyIter_enum he ⟨ρ1, _, _, rfl, ev1.trans X, ⟨_, a, vs, _, rfl, hne, by simpa using he, hi, ((X.grows0 Iv).list hl hm).1, hm, ?_⟩, fr, d1⟩
    exact Reps.mono (X.grows0 Iv) _ _ (by simpa using rl)
  | «mut» k =>
    unfold enmOf at e
    simp only at e
    cases el : (st1.sto[k]?).getD none with
    | none => rw [el] at e; first | exact no_some e | cases e
    | some l =>
      rw [el] at e
      simp at e; subst e
      obtain ⟨a, rfl, hk⟩ := r1
      obtain ⟨b, ws, eb, hl, rl⟩ := Iv.obj k l (getD_some el)
      rw [hk] at eb; cases eb
      refine call_enumerate_list (pl_list hl) fun h' he hi hz hkk => ?_
      exact wpAny_pyIter_enum he ⟨ρ1, _, _, rfl, ev1.trans (Ev.of_keep Iv (tk := s'.toks) hkk), ⟨_, a, _, rfl, hne, by simpa using he, hi, hk⟩, fr, d1⟩
  | _ => simp [enmOf] at e

theorem evIt_ok (G : Gd prog w h₀ c K mg mb) (SE : SoundE prog w h₀ K self.E) {e : Expr} (h : evIt self sc vs st e = some (it, st1, o1)) (ho : o1 = true) (x : Cx h₀ K F env A s ρ sc vs st) :
    wpAny (model prog w) A (eval e env) (fun v s1 => wpAny (model prog w) A (pyIter v) (PI h₀ F s ρ st it st1) no s1) no s := by
  have plain : (match self.E sc vs st e with
        | some (d, st1, o1) => (match itOf st1.sto d with
          | some it => some (it, st1, o1)
          | none => none)
        | none => none) = some (it, st1, o1) → wpAny (model prog w) A (eval e env) (fun v s1 => wpAny (model prog w) A (pyIter v) (PI h₀ F s ρ st it st1) no s1) no s := fun h => by
    split at h
    · rename_i d st2 o2 e1
      split at h
      · rename_i it2 e2
        obtain ⟨rfl, rfl, rfl⟩ := some3 h
        exact wpAny_mono (SE _ _ _ _ _ _ _ e1 ho _ _ _ _ _ x) (fun v s1 q => iter_plain q e2) fun _ _ q => q
      · first | exact no_some h | cases h
    · first | exact no_some h | cases h
  unfold evIt at h
  split at h
  · rename_i f np a cp
    rcases cond_beq h with ⟨rfl, h⟩ | h
    · cases hc : andB (isGlob sc ("enumerate" : Str)) (noStar a) with
      | false => rw [hc] at h; first | exact no_some h | cases h
      | true =>
        rw [hc, cond_true] at h
        obtain ⟨hg, hns⟩ := andB_true hc
        split at h
        · rename_i d st2 o2 e1
          split at h
          · rename_i it2 e2
            obtain ⟨rfl, rfl, rfl⟩ := some3 h
            have hk := isGlob_case hg
            obtain ⟨m1, m2⟩ := G.blt ("enumerate" : Str) (.inr rfl)
            refine Call_ ?_
            refine Name_function_global x.fm.kind (x.fm.glo _ hk) (loadGlobal_builtin (by rw [x.fm.glob]; exact G.g.keeps x.inv.base) m1 (by rw [x.fm.blt]; exact G.b.keeps x.inv.base) m2 ?_) (clean_debug x.fm.tidy hk)
            rw [bltV_enum]
            have e3 : evEs self sc vs st [a] = some ([d], st2, andB o2 true) := by
              rw [evEs_cons (by rintro y p rfl; exact Bool.noConfusion hns), e1]; rfl
            refine callWith_any (h₀ := h₀) (.inl ⟨_, rfl⟩) e3 (wpAny_mono (evEs_ok SE [a] _ _ _ _ _ _ e3 (by rw [ho]; rfl) x) (fun vals s1 hv => ?_) fun _ _ q => q)
            obtain ⟨ρ1, ev1, r1, d1⟩ := hv
            obtain ⟨v, rfl, rv⟩ := one_rep r1
            exact ⟨ev1.inv.base, enum_plain ⟨ρ1, ev1, rv, d1⟩ e2⟩
          · first | exact no_some h | cases h
        · first | exact no_some h | cases h
    · exact plain h
  · first | exact no_some h | cases h
  · exact plain h

theorem evIt_fold {e : Expr} {r : It × St × Bool} (h : evIt self sc vs st e = some r) (x : Value) : foldedSetIterable e env x = pure x := by
  cases e <;> first | rfl | cases h
end
end Mine
end

section
set_option autoImplicit false
set_option linter.unusedVariables false
namespace Mine
open PySem PySem.Calls PyProof.Rows

theorem cells_mix : ∀ (names : List (Str × NameKind)) (acc : List (Str × Addr)) (h : Heap), (∀ x (c : Addr), acc.lookup x = some c → Nat.lt c h.objs.size) →
    (∀ x y c, acc.lookup x = some c → acc.lookup y = some c → x = y) →
    (∀ x y c, (cellsFrom h.objs.size names acc).lookup x = some c → (cellsFrom h.objs.size names acc).lookup y = some c → x = y) ∧
    (∀ x (c : Addr), (cellsFrom h.objs.size names acc).lookup x = some c → acc.lookup x = some c ∨ (Nat.le h.objs.size c ∧ (pushCells h names).IsCell c none)) ∧
    (∀ x, (x, NameKind.cell) ∉ names → (cellsFrom h.objs.size names acc).lookup x = acc.lookup x) ∧
    (∀ x, (x, NameKind.cell) ∈ names → ∃ c : Addr, (cellsFrom h.objs.size names acc).lookup x = some c ∧ Nat.le h.objs.size c)
  | [], acc, h, h1, h2 => ⟨h2, fun x c q => .inl q, fun _ _ => rfl, fun _ m => nomatch m⟩
  | (name, kind) :: r, acc, h, h1, h2 => by
    unfold cellsFrom pushCells
    cases hk : kind == NameKind.cell with
    | false =>
      simp only [Bool.false_eq_true, if_false]
      obtain ⟨a, b, c, d⟩ := cells_mix r acc h h1 h2
      have hne : ∀ x, (x, NameKind.cell) ∈ (name, kind) :: r → (x, NameKind.cell) ∈ r := fun x m => by
        rcases List.mem_cons.mp m with e | m
        · injection e with _ e; subst e; cases hk
        · exact m
      exact ⟨a, b, fun x m => c x fun q => m (List.mem_cons_of_mem _ q), fun x m => d x (hne x m)⟩
    | true =>
      simp only [if_true]
      have hsz : (h.push { cls := .type "cell", data := .cell none }).objs.size = h.objs.size + 1 := Heap.size_push ..
      have lk : ∀ x, ((name, h.objs.size) :: acc).lookup x = if x = name then some h.objs.size else acc.lookup x := fun x => by
        rw [List.lookup_cons]
        by_cases q : x = name
        · subst q; simp
        · have : (x == name) = false := by simpa using q
          rw [this, if_neg q]
      obtain ⟨a, b, c, d⟩ := cells_mix r ((name, h.objs.size) :: acc) (h.push { cls := .type "cell", data := .cell none }) (fun x c q => by
        rw [lk] at q
        rw [hsz]
        split at q
        · cases q; exact Nat.lt_succ_self _
        · exact Nat.lt_succ_of_lt (h1 x c q)) (fun x y c q1 q2 => by
        rw [lk] at q1 q2
        split at q1 <;> split at q2
        · rename_i e1 e2; rw [e1, e2]
        · cases q1; exact absurd (h1 _ _ q2) (Nat.lt_irrefl _)
        · cases q2; exact absurd (h1 _ _ q1) (Nat.lt_irrefl _)
        · exact h2 x y c q1 q2)
      rw [hsz] at a b c d
      refine ⟨a, fun x cc q => ?_, fun x m => ?_, fun x m => ?_⟩
      · rcases b x cc q with q | ⟨q1, q2⟩
        · rw [lk] at q
          split at q
          · first | exact no_some q | cases q
            exact .inr ⟨Nat.le_refl _, ⟨_, pushCells_keeps _ _ _ _ (Heap.get?_push_size _ rfl), rfl⟩⟩
          · exact .inl q
        · exact .inr ⟨Nat.le_of_succ_le q1, q2⟩
      · rw [c x fun q => m (List.mem_cons_of_mem _ q), lk, if_neg]
        rintro rfl
        exact m (List.mem_cons.mpr (.inl (by rw [beq_iff_eq.mp hk])))
      · by_cases q : (x, NameKind.cell) ∈ r
        · obtain ⟨cc, q1, q2⟩ := d x q
          exact ⟨cc, q1, Nat.le_of_succ_le q2⟩
        · rcases List.mem_cons.mp m with e | m
          · injection e with e _; subst e
            exact ⟨_, by rw [c _ q, lk, if_pos rfl], Nat.le_refl _⟩
          · exact absurd m q

theorem closure_ok {scope : Scope} {env : Env} (h : ∀ n, (n, NameKind.free) ∈ scope.names → ∃ c, env.cells.lookup n = some c) :
    ∃ cl, closureFor scope env = pure cl ∧ (∀ x c, cl.lookup x = some c → env.cells.lookup x = some c ∧ (x, NameKind.free) ∈ scope.names) ∧ ∀ x, (x, NameKind.free) ∈ scope.names → ∃ c, cl.lookup x = some c := by
  have main : ∀ (P : Str → Addr → Prop) (names : List (Str × NameKind)) (acc : List (Str × Addr)), (∀ n, (n, NameKind.free) ∈ names → ∃ c, env.cells.lookup n = some c ∧ P n c) → (∀ x c, acc.lookup x = some c → P x c) →
      ∃ cl, forIn names acc (fun (x : Str × NameKind) (cs : List (Str × Addr)) => (match x with
        | (name, kind) => if (kind == NameKind.free) = true then do let a ← cellOf env name; pure (ForInStep.yield ((name, a) :: cs)) else pure (ForInStep.yield cs) : Sem (ForInStep (List (Str × Addr))))) = (pure cl : Sem _) ∧ (∀ x c, cl.lookup x = some c → P x c) ∧
        (∀ x, (x, NameKind.free) ∈ names → ∃ c, cl.lookup x = some c) ∧ ∀ x c, acc.lookup x = some c → ∃ c, cl.lookup x = some c := by
    intro P names
    induction names with
    | nil => exact fun acc _ h2 => ⟨acc, rfl, h2, (fun x m => by cases m), fun x c q => ⟨c, q⟩⟩
    | cons y r ih =>
      intro acc h1 h2
      obtain ⟨name, kind⟩ := y
      cases hk : kind == NameKind.free with
      | false =>
        obtain ⟨cl, q1, q2, q3, q4⟩ := ih acc (fun n m => h1 n (List.mem_cons_of_mem _ m)) h2
        refine ⟨cl, ?_, q2, fun x m => ?_, q4⟩
        · rw [List.forIn_cons]
          simp only [hk, Bool.false_eq_true, if_false]
          exact q1
        · rcases List.mem_cons.mp m with e | m
          · injection e with _ e; subst e; cases hk
          · exact q3 x m
      | true =>
        obtain rfl := beq_iff_eq.mp hk
        obtain ⟨c, hc, hP⟩ := h1 name List.mem_cons_self
        have lk : ∀ x, ((name, c) :: acc).lookup x = if x = name then some c else acc.lookup x := fun x => by
          rw [List.lookup_cons]
          by_cases q : x = name
          · subst q; simp
          · have : (x == name) = false := by simpa using q
            rw [this, if_neg q]
        obtain ⟨cl, q1, q2, q3, q4⟩ := ih ((name, c) :: acc) (fun n m => h1 n (List.mem_cons_of_mem _ m)) (fun x d q => by
          rw [lk] at q
          split at q
          · rename_i e; cases q; rw [e]; exact hP
          · exact h2 x d q)
        refine ⟨cl, ?_, q2, fun x m => ?_, fun x d q => ?_⟩
        · rw [List.forIn_cons]
          simp only [hk, if_true, cellOf, hc]
          exact q1
        · rcases List.mem_cons.mp m with e | m
          · injection e with e _; subst e
            exact q4 _ c (by rw [lk, if_pos rfl])
          · exact q3 x m
        · by_cases e : x = name
          · exact q4 x c (by rw [lk, if_pos e])
          · exact q4 x d (by rw [lk, if_neg e]; exact q)
  obtain ⟨cl, q1, q2, q3, _⟩ := main (fun x c => env.cells.lookup x = some c ∧ (x, NameKind.free) ∈ scope.names) scope.names [] (fun n m => let ⟨c, hc⟩ := h n m; ⟨c, hc, hc, m⟩) fun x c q => (nomatch q)
  refine ⟨cl, ?_, q2, q3⟩
  unfold closureFor
  exact (congrArg (· >>= pure) q1).trans rfl

theorem lookup_map_kind (g : Str → NameKind → NameKind) : ∀ (names : List (Str × NameKind)) (x : Str), (names.map fun p => (p.1, g p.1 p.2)).lookup x = (names.lookup x).map (g x)
  | [], _ => rfl
  | (n, k) :: r, x => by
    rw [List.map_cons, List.lookup_cons, List.lookup_cons]
    cases hx : x == n with
    | true =>
      obtain rfl := beq_iff_eq.mp hx
      rfl
    | false => exact lookup_map_kind g r x

theorem lookup_relabel {env : Env} {scope : Scope} (x : Str) : (relabel scope env).names.lookup x =
      (scope.names.lookup x).map fun k => if (k == NameKind.free && env.scope.kind == .function && env.kindOf x == some .cell) then NameKind.cell else k := by
  rw [← lookup_map_kind fun n k => if (k == NameKind.free && env.scope.kind == .function && env.kindOf n == some .cell) then NameKind.cell else k]
  unfold relabel
  dsimp only
  congr 1
  refine List.map_congr_left fun p _ => ?_
  obtain ⟨n, k⟩ := p
  dsimp only
  split <;> rfl

theorem freeVars_get {vs : Vars} : ∀ {names : Sc} {x : Str} {d : D}, (freeVars vs names).lookup x = some d → vs.lookup x = some d ∧ (x, NameKind.free) ∈ names
  | [], _, _, h => nomatch h
  | (n, k) :: r, x, d, h => by
    have rest : (freeVars vs r).lookup x = some d → vs.lookup x = some d ∧ (x, NameKind.free) ∈ (n, k) :: r := fun h => (freeVars_get h).imp id fun q => List.mem_cons_of_mem _ q
    cases k with
    | free =>
      unfold freeVars at h
      split at h
      · rename_i d' e
        rw [List.lookup_cons] at h
        cases hx : x == n with
        | true =>
          rw [hx] at h; cases h
          obtain rfl := beq_iff_eq.mp hx
          exact ⟨e, List.mem_cons_self⟩
        | false => rw [hx] at h; exact rest h
      · exact rest h
    | _ => exact rest h

section
variable {prog : Program} {w : World} {h₀ h : Heap} {c : Cfg} {K : Nat} {mg mb : Str → Option Value} {F own : Addr → Prop} {env : Env} {A : Around} {s s' : Shared} {ρ ρ' : List Addr} {σ σ' : Sto} {sc : Sc} {vs vs' : Vars} {st st' st1 st2 st3 : St}

theorem isKind_eq {k : NameKind} {x : Option NameKind} (h : isKind k x = true) : x = some k := by
  cases x with
  | none => cases h
  | some j => exact congrArg some (of_decide_eq_true h)

structure CompSc (scope : Scope) (sc : Sc) : Prop where
  tidy : clean scope.names = true
  kind : scope.kind = .function
  fre : ∀ n, (n, NameKind.free) ∈ scope.names → scope.names.lookup n = some .free ∧ (sc.lookup n = some .cell ∨ sc.lookup n = some .free)
  loc : ∀ n, (n, NameKind.local) ∈ scope.names → scope.names.lookup n = some .local
  cel : ∀ n, (n, NameKind.cell) ∈ scope.names → scope.names.lookup n = some .cell

theorem compSc {scope : Scope} {sc : Sc} (h : compOk scope sc = true) : CompSc scope sc := by
  unfold compOk at h
  obtain ⟨h1, h⟩ := andB_true h
  obtain ⟨h2, h3⟩ := andB_true h
  have h3 := List.all_eq_true.mp h3
  refine ⟨h1, ?_, fun n m => ?_, fun n m => ?_, fun n m => ?_⟩
  · cases q : scope.kind <;> rw [q] at h2 <;> first | rfl | cases h2
  · obtain ⟨a, b⟩ := andB_true (h3 _ m)
    refine ⟨isKind_eq a, ?_⟩
    split at b
    · rename_i q; exact .inl q
    · rename_i q; exact .inr q
    · first | exact no_some b | cases b
  · exact isKind_eq (h3 _ m)
  · exact isKind_eq (h3 _ m)

theorem Fm.cells_of (f : Fm h₀ env sc vs s.heap (Mv F ρ σ) ρ) {x : Str} (h : sc.lookup x = some .cell ∨ sc.lookup x = some .free) :
    (env.kindOf x = some .cell ∨ env.kindOf x = some .free) ∧ ∃ c ov, env.cells.lookup x = some c ∧ s.heap.IsCell c ov ∧ (∀ d, vs.lookup x = some d → ∃ v, ov = some v ∧ Rep s.heap (Mv F ρ σ) ρ d v) := by
  rcases h with e | e
  · obtain ⟨k, c, ov, h1, h2, h3, _⟩ := f.cel x e
    exact ⟨.inl k, c, ov, h1, h2, h3⟩
  · exact f.fre x e

theorem comp_env (Iv : Inv h₀ F s.heap ρ σ) (fm : Fm h₀ env sc vs s.heap (Mv F ρ σ) ρ) {scope : Scope} (O : CompSc scope sc) {cl : List (Str × Addr)}
    (c1 : ∀ x c, cl.lookup x = some c → env.cells.lookup x = some c ∧ (x, NameKind.free) ∈ scope.names) (c2 : ∀ x, (x, NameKind.free) ∈ scope.names → ∃ c, cl.lookup x = some c) {Q : Env → Shared → Prop}
    (hQ : ∀ cenv s', Ev h₀ F nobody s ρ σ s' ρ σ → Fm h₀ { cenv with scope := relabel scope env } scope.names (freeVars vs scope.names) s'.heap (Mv F ρ σ) ρ →
      (∀ b, Own { cenv with scope := relabel scope env } scope.names b → s.heap.get? b = none) → Q cenv s') :
    wpAny (model prog w) A (newFunctionEnv scope env.globals cl [] env.qual none .none (some env)) Q no s := by
  simp only [newFunctionEnv, Option.isSome_some, if_true]
  refine wpAny_bind (wpAny_alloc ?_)
  refine wpAny_bind (wpAny_layCells _ (fun name kind cells => by cases hkc : kind == NameKind.cell <;> simp [hkc]) _ _ _ _ ?_)
  rw [List.forIn_nil]
  refine wpAny_bind (wpAny_pure (wpAny_pure ?_))
  have hsz : (s.heap.push { cls := .type "dict", data := .dict #[] }).objs.size = s.heap.objs.size + 1 := Heap.size_push ..
  have keep : ∀ b o, s.heap.get? b = some o → (pushCells (s.heap.push { cls := .type "dict", data := .dict #[] }) scope.names).get? b = some o := fun b o e => pushCells_keeps _ _ b o (Heap.get?_push_of_some _ e)
  have X : Ev h₀ F nobody s ρ σ { s with heap := pushCells (s.heap.push { cls := .type "dict", data := .dict #[] }) scope.names } ρ σ := Ev.of_keep Iv (tk := s.toks) keep
  have G := X.grows0 Iv
  have old : ∀ x c, cl.lookup x = some c → ∃ ov, s.heap.IsCell c ov := fun x c q => by
    obtain ⟨q1, q2⟩ := c1 x c q
    obtain ⟨_, c', ov, h1, h2, _⟩ := fm.cells_of (O.fre x q2).2
    rw [q1] at h1; cases h1
    exact ⟨ov, h2⟩
  have nw : ∀ b : Nat, s.heap.objs.size ≤ b → s.heap.get? b = none := fun b hb => by
    cases e : s.heap.get? b with
    | none => rfl
    | some o => exact absurd (Heap.lt_size e) (Nat.not_lt_of_ge hb)
  obtain ⟨inj, cs1, cs2, cs3⟩ := cells_mix scope.names cl (s.heap.push { cls := .type "dict", data := .dict #[] }) (fun x c q => by
    obtain ⟨ov, hc⟩ := old x c q
    exact Heap.lt_size (Heap.get?_push_of_some _ hc.choose_spec.1)) (fun x y c q1 q2 => fm.apart x y c (c1 x c q1).1 (c1 y c q2).1)
  rw [show ({ s with heap := s.heap.push { cls := .type "dict", data := .dict #[] } } : Shared).heap.objs.size = (s.heap.push { cls := .type "dict", data := .dict #[] }).objs.size from rfl]
  generalize hr : cellsFrom (s.heap.push { cls := .type "dict", data := .dict #[] }).objs.size scope.names cl = cells at *
  have fv : ∀ x d, (freeVars vs scope.names).lookup x = some d → vs.lookup x = some d ∧ scope.names.lookup x = some .free := fun x d e => (freeVars_get e).imp id fun q => (O.fre x q).1
  have newc : ∀ x, scope.names.lookup x = some .cell → ∃ c : Addr, cells.lookup x = some c ∧ Nat.le s.heap.objs.size c ∧ (pushCells (s.heap.push { cls := .type "dict", data := .dict #[] }) scope.names).IsCell c none := fun x e => by
    obtain ⟨c, q1, q2⟩ := cs3 x (mem_of_lookup e)
    rw [hsz] at q2
    refine ⟨c, q1, Nat.le_of_succ_le q2, ?_⟩
    rcases cs1 x c q1 with q | q
    · obtain ⟨ov, hc⟩ := old x c q
      exact absurd (Heap.lt_size hc.choose_spec.1) (Nat.not_lt_of_ge (Nat.le_of_succ_le q2))
    · exact q.2
  refine hQ _ _ X ⟨O.kind, fm.glob, fm.blt, O.tidy, fun x e => ?_, fun x e => ?_, fun x e => ?_, fun x e => ?_, ⟨fun _ => none, (Heap.Ns.new s.heap (.type "dict")).keeps (pushCells_keeps _ _), fun x d e1 e2 => ?_⟩, fresh_base Iv (nw _ (Nat.le_refl _)), inj⟩ ?_
  · show (relabel scope env).names.lookup x = _
    rw [lookup_relabel, e]; rfl
  · refine ⟨?_, ?_⟩
    · show (relabel scope env).names.lookup x = _
      rw [lookup_relabel, e]; rfl
    · obtain ⟨c, q1, q2, q3⟩ := newc x e
      exact ⟨c, none, q1, q3, (fun d e1 => by rw [(fv x d e1).2] at e; cases e), fresh_base Iv (nw c q2)⟩
  · have hm := mem_of_lookup e
    obtain ⟨c, q1⟩ := c2 x hm
    have hnc : (x, NameKind.cell) ∉ scope.names := fun q => by rw [O.cel x q] at e; cases e
    obtain ⟨k, c', ov, h1, h2, h3⟩ := fm.cells_of (O.fre x hm).2
    rw [(c1 x c q1).1] at h1; cases h1
    refine ⟨?_, c, ov, by rw [cs2 x hnc]; exact q1, h2.keeps keep, fun d e1 => ?_⟩
    · show (relabel scope env).names.lookup x = _ ∨ (relabel scope env).names.lookup x = _
      rw [lookup_relabel, e]
      simp only [Option.map_some]
      split
      · exact .inl rfl
      · exact .inr rfl
    · obtain ⟨v, hv, rv⟩ := h3 d (fv x d e1).1
      exact ⟨v, hv, Rep.mono G _ _ rv⟩
  · show (relabel scope env).names.lookup x = _
    rw [lookup_relabel, e]; rfl
  · rw [(fv x d e1).2] at e2; cases e2
  · rintro b (rfl | ⟨x, e1, e2⟩)
    · exact nw _ (Nat.le_refl _)
    · obtain ⟨c, q1, q2, _⟩ := newc x e1
      have e2 : cells.lookup x = some b := e2
      rw [q1] at e2; cases e2
      exact nw _ q2
end
end Mine
end

section
set_option autoImplicit false
set_option linter.unusedVariables false
namespace Mine
open PySem PySem.Calls PyProof.Rows

section
variable {prog : Program} {w : World} {h₀ h : Heap} {c : Cfg} {K : Nat} {mg mb : Str → Option Value} {F own : Addr → Prop} {env : Env} {A : Around} {s s' : Shared} {ρ ρ' : List Addr} {σ σ' : Sto} {sc : Sc} {vs vs' vs1 : Vars} {st st' st1 st2 st3 : St}
  {self : Self} {o o1 o2 o3 : Bool} {d : D} {I : Addr} {fp : List Addr} {it it' : It} {M : Addr → Prop}

noncomputable def PU (h₀ : Heap) (F : Addr → Prop) (env : Env) (s : Shared) (ρ : List Addr) (sc : Sc) (st : St) (I : Addr) (fp : List Addr) (it' : It) (vs1 : Vars) (st1 : St) (s3 : Shared) : Prop :=
  ∃ ρ1, Ev h₀ F (fun b => Own env sc b ∨ b ∈ fp) s ρ st.sto s3 ρ1 st1.sto ∧ Fm h₀ env sc vs1 s3.heap (Mv F ρ1 st1.sto) ρ1 ∧ ItRep s3.heap (Mv F ρ1 st1.sto) ρ1 I fp it' ∧ st1.dep = st.dep

theorem turn_ok (SE : SoundE prog w h₀ K self.E) {target : Expr} {x : D} (e : nextI st.sto it = some (some (x, it'))) (ht : okT target it = true) (e1 : asg self sc vs st target x = some (vs1, st1, o1)) (ho : o1 = true)
    (X : Cx h₀ K F env A s ρ sc vs st) (r : ItRep s.heap (Mv F ρ st.sto) ρ I fp it) (hn : ∀ b ∈ fp, h₀.get? b = none) :
    wpAny (model prog w) A (pyNext (.ref I)) (fun r s1 => ∃ v, r = some v ∧ wpAny (model prog w) A (letOwnedTupleGo target (.ref I) v) (fun _ s2 =>
      wpAny (model prog w) A (assign target env v) (fun _ s3 => PU h₀ F env s ρ sc st I fp it' vs1 st1 s3) no s2) no s1) no s := by
  have hf := r.fields
  have core : ∀ v s1, PN h₀ F fp s ρ st.sto I x it' v s1 → wpAny (model prog w) A (assign target env v) (fun _ s3 => PU h₀ F env s ρ sc st I fp it' vs1 st1 s3) no s1 := by
    rintro v s1 ⟨ev1, rv, ri⟩
    have fm1 := X.fm.mono X.inv ev1 (fun b o ob eb => .inl ((hf b ob).still eb)) (X.fm.not_fp hf) (fp_not_cell hf)
    have C1 : Cx h₀ K F env A s1 ρ sc vs st := ⟨ev1.inv, fm1, X.aok⟩
    have done : ∀ s3, PA h₀ F env s1 ρ sc st vs1 st1 s3 → PU h₀ F env s ρ sc st I fp it' vs1 st1 s3 := by
      rintro s3 ⟨ρ1, ev2, fm2, d2⟩
      have hf1 := ri.fields
      refine ⟨ρ1, (ev1.widen fun _ q => .inr q).trans (ev2.widen fun _ q => .inl q), fm2, ItRep.mono (ev2.grows ev1.inv fm1.own_still) (fun b hb o eb => ev2.keep b o eb (fun q => (hf1 b hb).not_lv ev1.inv (.inr q)) (fm1.fp_own hf1 b hb)) ri, d2⟩
    unfold asg at e1
    split at e1
    · split at e1
      · rename_i ds e2
        exact wpAny_mono (asgT_ok SE e2 e1 ho C1 rv) (fun _ s3 q => done s3 q) fun _ _ q => q
      · first | exact no_some e1 | cases e1
    · exact wpAny_mono (asg1_ok SE e1 ho C1 rv) (fun _ s3 q => done s3 q) fun _ _ q => q
  cases target with
  | Name n p =>
    refine wpAny_mono (next_name X.aok X.inv e ht r hn) (fun u s1 q => ?_) fun _ _ q => q
    obtain ⟨v, rfl, q⟩ := q
    refine ⟨v, rfl, ?_⟩
    rw [let_go_name (by trivial)]
    exact wpAny_pure (core v s1 q)
  | Tuple ts k p =>
    refine wpAny_mono (next_tuple X.aok X.inv e ht r hn) (fun u s1 q => ?_) fun _ _ q => q
    obtain ⟨v, rfl, q⟩ := q
    exact ⟨v, rfl, wpAny_mono q (fun _ s2 q => core v s2 q) fun _ _ q => q⟩
  | _ => exact no_true ht
end
end Mine
end

section
set_option autoImplicit false
set_option linter.unusedVariables false
namespace Mine
open PySem PySem.Calls PyProof.Rows

section
variable {prog : Program} {w : World} {h₀ h : Heap} {c : Cfg} {K : Nat} {mg mb : Str → Option Value} {F own : Addr → Prop} {env : Env} {A : Around} {s s' : Shared} {ρ ρ' : List Addr} {σ σ' : Sto} {sc : Sc} {vs vs' vs1 : Vars} {st st' st1 st2 st3 : St}
  {self : Self} {o o1 o2 o3 : Bool} {d : D} {I D : Addr} {fp : List Addr} {it it' : It} {M : Addr → Prop}

theorem Inv.farset {h' : Heap} (Iv : Inv h₀ F h ρ σ) (hD : F D) (hs : Heap.SameBut D h h') {xs : Array Value} (hl : PlainL h' D xs) : Inv h₀ F h' ρ σ := by
  have G : Grows h h' (Mv F ρ σ) (Mv F ρ σ) ρ ρ := ⟨fun b o e _ m => hs.extBut b o (fun q => m (.inl (q ▸ hD))) e, fun _ m => let ⟨o, h1, h2, _⟩ := Iv.lists m; ⟨o, h1, h2⟩, fun _ m => .inl m, ⟨[], by simp⟩⟩
  obtain ⟨⟨n1, n2⟩, _⟩ := Iv.far D hD
  have ne : ∀ a ∈ ρ, a ≠ D := fun a m q => n2 (q ▸ m)
  refine ⟨Iv.len, Iv.inj, fun b o e => hs.extBut b o (fun q => by rw [q, n1] at e; cases e) (Iv.base b o e), Iv.new, fun a m => ?_, fun a m => ?_, fun k l e => ?_⟩
  · obtain ⟨o, h1, h2⟩ := Iv.there a m
    exact ⟨o, hs.extBut a o (ne a m) h1, h2⟩
  · obtain ⟨n, o, h1, h2⟩ := Iv.far a m
    refine ⟨n, ?_⟩
    by_cases q : a = D
    · subst q
      obtain ⟨o', n', e1, e2, _, e3⟩ := hl
      exact ⟨o', e1, e2, _, n', e3⟩
    · exact ⟨o, hs.extBut a o q h1, h2⟩
  · obtain ⟨a, ws, e1, ⟨ob, nb, e2, r⟩, e3⟩ := Iv.obj k l e
    exact ⟨a, ws, e1, ⟨ob, nb, hs.extBut a ob (ne a (List.mem_of_getElem? e1)) e2, r⟩, Reps.mono G _ _ e3⟩

theorem ev_farset (Iv : Inv h₀ F s.heap ρ σ) (hD : F D) {h' : Heap} (hs : Heap.SameBut D s.heap h') {xs : Array Value} (hl : PlainL h' D xs) : Ev h₀ F (· = D) s ρ σ { s with heap := h' } ρ σ :=
  ⟨⟨_, s.toks, rfl⟩, fun b o e _ n => hs.extBut b o n e, fun _ m => .inl m, ⟨[], by simp⟩, fun b o e => by
    by_cases q : b = D
    · subst q; obtain ⟨o', n', e1, _⟩ := hl; exact ⟨o', e1⟩
    · exact ⟨o, hs.extBut b o q e⟩, Iv.farset hD hs hl⟩

noncomputable def PF (h₀ : Heap) (F : Addr → Prop) (env : Env) (fp : List Addr) (s : Shared) (ρ : List Addr) (sc : Sc) (st : St) (f : Fl) (vs' : Vars) (st' : St) (r : Result) (s' : Shared) : Prop :=
  ∃ fl ρ', r = .ok fl ∧ EvD h₀ F (fun b => Own env sc b ∨ b ∈ fp) fp s ρ st.sto s' ρ' st'.sto ∧ Fm h₀ env sc vs' s'.heap (Mv F ρ' st'.sto) ρ' ∧ FlRep s'.heap (Mv F ρ' st'.sto) ρ' f fl ∧ st'.dep = st.dep
noncomputable def PFin (prog : Program) (w : World) (A : Around) (R : Result → Shared → Prop) (fin : Fin) (s' : Shared) : Prop := match fin with
  | .done f => R (.ok f) s'
  | .again c' => c'.quiet = true ∧ codeAny (model prog w) A c' R s'

variable (prog w h₀ K) in
noncomputable def SoundF (FF : Sc → Vars → St → Expr → List Stmt → It → Option (Fl × Vars × St × Bool)) : Prop := ∀ sc vs st target body it f vs' st' o, FF sc vs st target body it = some (f, vs', st', o) → o = true → ∀ F env A s ρ I fp,
  Cx h₀ K F env A s ρ sc vs st → ItRep s.heap (Mv F ρ st.sto) ρ I fp it → (∀ b ∈ fp, h₀.get? b = none) →
  codeAny (model prog w) A (.forLoop target (.ref I) body [] env) (PF h₀ F env fp s ρ sc st f vs' st') s

noncomputable def goOn (target : Expr) (I : Addr) (body : List Stmt) (env : Env) : Flow → Sem Fin
  | .next | .cont => again (.forLoop target (.ref I) body [] env)
  | .brk => pure (.done .next)
  | .ret v => pure (.done (.ret v))

theorem turn_body (SE : SoundE prog w h₀ K self.E) (SS : SoundS prog w h₀ K self.S) {target : Expr} {body : List Stmt} {x : Mine.D} {R : Fin → Shared → Prop} {f2 : Fl} {vs2 : Vars} (e : nextI st.sto it = some (some (x, it'))) (ht : okT target it = true) (e1 : asg self sc vs st target x = some (vs1, st1, o1))
    (X : Cx h₀ K F env A s ρ sc vs st) (r : ItRep s.heap (Mv F ρ st.sto) ρ I fp it) (hn : ∀ b ∈ fp, h₀.get? b = none) (e2 : evSs self sc vs1 st1 body = some (f2, vs2, st2, o2)) (ho1 : o1 = true) (ho2 : o2 = true)
    (k : ∀ fl s3 ρ3, Ev h₀ F (fun b => Own env sc b ∨ b ∈ fp) s ρ st.sto s3 ρ3 st2.sto → Fm h₀ env sc vs2 s3.heap (Mv F ρ3 st2.sto) ρ3 → ItRep s3.heap (Mv F ρ3 st2.sto) ρ3 I fp it' → FlRep s3.heap (Mv F ρ3 st2.sto) ρ3 f2 fl → st2.dep = st.dep →
      wpAny (model prog w) A (goOn target I body env fl) R no s3) :
    wpAny (model prog w) A (do
      match ← (pyNext (.ref I)).onRaise (fun _ => standAt { target.pos with line := 0 }) with
      | none => again (.block [] env)
      | some v =>
        letOwnedTupleGo target (.ref I) v
        assign target env v
        match ← execs body env with
        | .next | .cont => again (.forLoop target (.ref I) body [] env)
        | .brk => pure (.done .next)
        | .ret v => pure (.done (.ret v))) R no s := by
  refine wpAny_bind (wpAny_onRaise (wpAny_mono (turn_ok SE e ht e1 ho1 X r hn) (fun u s1 hu => ?_) fun _ _ q => q.elim))
  obtain ⟨v, rfl, hu⟩ := hu
  refine wpAny_bind (wpAny_mono hu (fun _ s2 hu => wpAny_bind (wpAny_mono hu (fun _ s3 hu => ?_) fun _ _ q => q)) fun _ _ q => q)
  obtain ⟨ρ1, ev1, fm1, ri, d1⟩ := hu
  have C1 : Cx h₀ K F env A s3 ρ1 sc vs1 st1 := ⟨ev1.inv, fm1, by rw [d1]; exact X.aok⟩
  refine wpAny_bind (wpAny_mono (evSs_ok SS body _ _ _ _ _ _ _ _ e2 ho2 C1) (fun fl s4 hv => ?_) fun _ _ q => q)
  obtain ⟨ρ2, ev2, fm2, rf, d2⟩ := hv
  have hf1 := ri.fields
  have := k fl s4 ρ2 (ev1.trans (ev2.widen fun _ q => .inl q)) fm2 (ItRep.mono (ev2.grows ev1.inv fm1.own_still) (fun b hb o eb => ev2.keep b o eb (fun q => (hf1 b hb).not_lv ev1.inv (.inr q)) (fm1.fp_own hf1 b hb)) ri) rf (d2.trans d1)
  cases fl <;> exact this

theorem F_ok (SE : SoundE prog w h₀ K self.E) (SS : SoundS prog w h₀ K self.S) (SF : SoundF prog w h₀ K self.F) : SoundF prog w h₀ K (stepF self) := by
  intro sc vs st target body it f vs' st' o e ho F env A s ρ I fp X r hn
  have hf := r.fields
  refine codeAny_of_tree ?_
  show wpAny _ A ((forTurn target (.ref I) body [] env).onRaise (fun x => do noteFrame x env; theTreesLotGoes x)) (PFin prog w A (PF h₀ F env fp s ρ sc st f vs' st')) _ s
  refine wpAny_noted (wpAny_mono (E := no) ?_ (fun _ _ q => q) fun _ _ q => q.elim)
  simp only [forTurn]
  unfold stepF at e
  split at e
  · rename_i en
    simp at e
    obtain ⟨rfl, rfl, rfl, _⟩ := e
    refine wpAny_bind (wpAny_standAt (wpAny_bind (wpAny_onRaise (wpAny_mono (next_end X.aok X.inv en r hn) (fun r s1 hr => ?_) fun _ _ q => q.elim))))
    obtain ⟨rfl, ev⟩ := hr
    refine wpAny_pure ⟨rfl, codeAny_block ?_⟩
    exact wpAny_pure ⟨_, ρ, rfl, ⟨ev.same, fun b o e m n => ev.keep b o e m fun q => n (.inr q), ev.grow, ev.pre, ev.alive, ev.inv⟩,
      X.fm.monoD X.inv ev (fun b o ob eb => .inl ((hf b ob).still eb)) (X.fm.not_fp hf) (fp_not_cell hf), .next, rfl⟩
  · rename_i x it1 en
    cases ht : okT target it with
    | false => rw [ht] at e; first | exact no_some e | cases e
    | true =>
      rw [ht, cond_true] at e
      split at e
      · rename_i vs1 st1 o1 e1
        refine wpAny_bind (wpAny_standAt ?_)
        split at e
        · rename_i d vs2 st2 o2 e2
          obtain ⟨rfl, rfl, rfl, rfl⟩ := some4 e
          obtain ⟨ho1, ho2⟩ := andB_true ho
          refine turn_body SE SS en ht e1 X r hn e2 ho1 ho2 fun fl s3 ρ3 ev fm ri rf dd => ?_
          cases rf with
          | ret rv => exact wpAny_pure ⟨_, ρ3, rfl, ev.toD, fm, .ret rv, dd⟩
        · rename_i f2 vs2 st2 o2 hne e2
          have hne' : ∀ d, f2 ≠ .ret d := fun d q => hne d q
          split at e
          · rename_i f3 vs3 st3 o3 e4
            obtain ⟨rfl, rfl, rfl, rfl⟩ := some4 e
            obtain ⟨ho1, ho⟩ := andB_true ho
            obtain ⟨ho2, ho3⟩ := andB_true ho
            refine turn_body SE SS en ht e1 X r hn e2 ho1 ho2 fun fl s3 ρ3 ev fm ri rf dd => ?_
            have again_ : codeAny (model prog w) A (.forLoop target (.ref I) body [] env) (PF h₀ F env fp s ρ sc st f3 vs3 st3) s3 := by
              refine codeAny_mono (SF _ _ _ _ _ _ _ _ _ _ e4 ho3 F env A s3 ρ3 I fp ⟨ev.inv, fm, by rw [dd]; exact X.aok⟩ ri hn) fun r s4 hr => ?_
              obtain ⟨fl, ρ4, rfl, ev4, q⟩ := hr
              exact ⟨fl, ρ4, rfl, ev.thenD ev4, q.1, q.2.1, q.2.2.trans dd⟩
            cases rf with
            | next => exact wpAny_pure ⟨rfl, again_⟩
            | cont => exact wpAny_pure ⟨rfl, again_⟩
            | ret _ => exact absurd rfl (hne' _)
          · first | exact no_some e | cases e
        · first | exact no_some e | cases e
      · first | exact no_some e | cases e
  · first | exact no_some e | cases e
end
end Mine
end

section
set_option autoImplicit false
set_option linter.unusedVariables false
namespace Mine
open PySem PySem.Calls PyProof.Rows

section
variable {prog : Program} {w : World} {h₀ h : Heap} {c : Cfg} {K : Nat} {mg mb : Str → Option Value} {F own : Addr → Prop} {env : Env} {A : Around} {s s' : Shared} {ρ ρ' : List Addr} {σ σ' : Sto} {sc : Sc} {vs vs' vs1 : Vars} {st st' st1 st2 st3 : St}
  {self : Self} {o o1 o2 o3 : Bool} {d : D} {I : Addr} {fp : List Addr} {it it' : It} {M : Addr → Prop}

noncomputable def PW (h₀ : Heap) (F : Addr → Prop) (env : Env) (s : Shared) (ρ : List Addr) (sc : Sc) (st : St) (f : Fl) (vs' : Vars) (st' : St) (r : Result) (s' : Shared) : Prop :=
  ∃ fl, r = .ok fl ∧ PS h₀ F env (Own env sc) s ρ sc st f vs' st' fl s'
variable (prog w h₀ K) in
noncomputable def SoundW (W : Sc → Vars → St → Expr → List Stmt → Option (Fl × Vars × St × Bool)) : Prop := ∀ sc vs st t body f vs' st' o, W sc vs st t body = some (f, vs', st', o) → o = true → ∀ F env A s ρ,
  Cx h₀ K F env A s ρ sc vs st → codeAny (model prog w) A (.whileLoop t body [] env) (PW h₀ F env s ρ sc st f vs' st') s

theorem W_ok (ST : SoundT prog w h₀ K self.T) (SS : SoundS prog w h₀ K self.S) (SW : SoundW prog w h₀ K self.W) : SoundW prog w h₀ K (stepW self) := by
  intro sc vs st t body f vs' st' o e ho F env A s ρ X
  refine codeAny_of_tree ?_
  show wpAny _ A ((whileTurn t body [] env).onRaise (fun x => do noteFrame x env; theTreesLotGoes x)) (PFin prog w A (PW h₀ F env s ρ sc st f vs' st')) _ s
  refine wpAny_noted (wpAny_mono (E := no) ?_ (fun _ _ q => q) fun _ _ q => q.elim)
  simp only [whileTurn]
  unfold stepW at e
  split at e
  · rename_i st1 o1 e1
    obtain ⟨rfl, rfl, rfl, rfl⟩ := some4 e
    refine wpAny_bind (wpAny_mono (ST _ _ _ _ _ _ _ e1 ho _ _ _ _ _ X) (fun b s1 hb => ?_) fun _ _ q => q)
    obtain ⟨rfl, ρ1, ev1, d1⟩ := hb
    simp only [Bool.false_eq_true, if_false]
    exact wpAny_bind (wpAny_pure (wpAny_pure ⟨_, rfl, ρ1, ev1.widen fun _ q => q.elim, X.fm.mono0 X.inv ev1, .next, d1⟩))
  · rename_i st1 o1 e1
    have main : ∀ f2 vs2 st2 o2, evSs self sc vs st1 body = some (f2, vs2, st2, o2) → o1 = true → o2 = true → (∀ fl s3, PS h₀ F env (Own env sc) s ρ sc st f2 vs2 st2 fl s3 →
        wpAny (model prog w) A (match fl with
        | .next | .cont => again (.whileLoop t body [] env)
        | .brk => pure (.done .next)
        | .ret v => pure (.done (.ret v))) (PFin prog w A (PW h₀ F env s ρ sc st f vs' st')) no s3) →
        wpAny (model prog w) A (do
          if ← isTrue t env (eval t env) then
            match ← execs body env with
            | .next | .cont => again (.whileLoop t body [] env)
            | .brk => pure (.done .next)
            | .ret v => pure (.done (.ret v))
          else return .done (← execs [] env)) (PFin prog w A (PW h₀ F env s ρ sc st f vs' st')) no s := by
      intro f2 vs2 st2 o2 e2 ho1 ho2 k
      refine wpAny_bind (wpAny_mono (ST _ _ _ _ _ _ _ e1 ho1 _ _ _ _ _ X) (fun b s1 hb => ?_) fun _ _ q => q)
      obtain ⟨rfl, ρ1, ev1, d1⟩ := hb
      simp only [if_true]
      refine wpAny_bind (wpAny_mono (evSs_ok SS body _ _ _ _ _ _ _ _ e2 ho2 (X.step ev1 d1)) (fun fl s2 hv => ?_) fun _ _ q => q)
      obtain ⟨ρ2, ev2, fm2, rf, d2⟩ := hv
      exact k fl s2 ⟨ρ2, (ev1.widen fun _ q => q.elim).trans ev2, fm2, rf, d2.trans d1⟩
    split at e
    · rename_i d vs2 st2 o2 e2
      obtain ⟨rfl, rfl, rfl, rfl⟩ := some4 e
      obtain ⟨ho1, ho2⟩ := andB_true ho
      refine main _ _ _ _ e2 ho1 ho2 fun fl s3 q => ?_
      obtain ⟨ρ2, ev, fm, rf, dd⟩ := q
      cases rf with
      | ret rv => exact wpAny_pure ⟨_, rfl, ρ2, ev, fm, .ret rv, dd⟩
    · rename_i f2 vs2 st2 o2 hne e2
      split at e
      · rename_i f3 vs3 st3 o3 e4
        obtain ⟨rfl, rfl, rfl, rfl⟩ := some4 e
        obtain ⟨ho1, ho⟩ := andB_true ho
        obtain ⟨ho2, ho3⟩ := andB_true ho
        refine main _ _ _ _ e2 ho1 ho2 fun fl s3 q => ?_
        obtain ⟨ρ2, ev, fm, rf, dd⟩ := q
        have again_ : codeAny (model prog w) A (.whileLoop t body [] env) (PW h₀ F env s ρ sc st f3 vs3 st3) s3 := by
          refine codeAny_mono (SW _ _ _ _ _ _ _ _ _ e4 ho3 F env A s3 ρ2 ⟨ev.inv, fm, by rw [dd]; exact X.aok⟩) fun r s4 hr => ?_
          obtain ⟨fl, rfl, ρ4, ev4, q⟩ := hr
          exact ⟨fl, rfl, ρ4, ev.trans ev4, q.1, q.2.1, q.2.2.trans dd⟩
        cases rf with
        | next => exact wpAny_pure ⟨rfl, again_⟩
        | cont => exact wpAny_pure ⟨rfl, again_⟩
        | ret _ => exact absurd rfl fun q => hne _ q
      · first | exact no_some e | cases e
    · first | exact no_some e | cases e
  · first | exact no_some e | cases e

noncomputable def PC (h₀ : Heap) (F : Addr → Prop) (env : Env) (fp : List Addr) (L : Addr) (s : Shared) (ρ : List Addr) (sc : Sc) (st : St) (l : List D) (st' : St) (r : Result) (s' : Shared) : Prop :=
  r = .ok .next ∧ ∃ ρ' vals, EvD h₀ F (fun b => Own env sc b ∨ b ∈ fp ∨ b = L) fp s ρ st.sto s' ρ' st'.sto ∧ (∃ m, s'.heap.Ns env.locals m) ∧ PlainL s'.heap L (List.toArray vals) ∧ Reps s'.heap (Mv F ρ' st'.sto) ρ' l vals ∧ st'.dep = st.dep
variable (prog w h₀ K) in
noncomputable def SoundC (C : Sc → Vars → St → Expr → List Expr → Expr → It → List D → Option (List D × St × Bool)) : Prop := ∀ sc vs st target ifs elt it acc l st' o, C sc vs st target ifs elt it acc = some (l, st', o) → o = true → ∀ F env A s ρ I fp L vals iter scope pos,
  Cx h₀ K F env A s ρ sc vs st → F L → PlainL s.heap L (List.toArray vals) → Reps s.heap (Mv F ρ st.sto) ρ acc vals → ItRep s.heap (Mv F ρ st.sto) ρ I fp it → (∀ b ∈ fp, h₀.get? b = none) →
  codeAny (model prog w) A (.compLoop (.ListComp elt [⟨target, iter, ifs, 0⟩] scope pos) 0 (.ref I) (.ref L) env) (PC h₀ F env fp L s ρ sc st l st') s

theorem pl_at' {h h' : Heap} {L : Addr} {xs : Array Value} (x : PlainL h L xs) (k : ∀ o, h.get? L = some o → h'.get? L = some o) : PlainL h' L xs := let ⟨o, n, e, r⟩ := x; ⟨o, n, k o e, r⟩
theorem pl_ne_fields {L b : Addr} {xs : Array Value} (x : PlainL h L xs) (f : Fields h b) : L ≠ b := fun q => by
  subst q
  obtain ⟨o, vs, e, h1, _⟩ := f
  obtain ⟨o', n, e', _, _, hd⟩ := x
  rw [e] at e'; cases e'; rw [h1] at hd; cases hd
theorem pl_ne_ns {L a : Addr} {xs : Array Value} {m : Str → Option Value} (x : PlainL h L xs) (n : h.Ns a m) : L ≠ a := fun q => by
  subst q
  obtain ⟨o', k, e', _, _, hd⟩ := x
  exact ns_not_seq n e' hd
theorem pl_ne_cell {L a : Addr} {xs : Array Value} {v : Option Value} (x : PlainL h L xs) (n : h.IsCell a v) : L ≠ a := fun q => by
  subst q
  obtain ⟨o', k, e', _, _, hd⟩ := x
  exact cell_not_seq n e' hd
theorem Fm.not_L (f : Fm h₀ env sc vs s.heap (Mv F ρ σ) ρ) {L : Addr} {xs : Array Value} (x : PlainL s.heap L xs) : ¬ Own env sc L := by
  rintro (q | ⟨n, h1, h2⟩)
  · obtain ⟨m, n, _⟩ := f.ns
    exact pl_ne_ns x n q
  · obtain ⟨_, c, ov, q, r, _⟩ := f.cel n h1
    rw [h2] at q; cases q
    exact pl_ne_cell x r rfl

theorem tests_ok (ST : SoundT prog w h₀ K self.T) : ∀ {ifs : List Expr} {b : Bool}, evTs self sc vs st ifs = some (b, st1, o1) → o1 = true → Cx h₀ K F env A s ρ sc vs st →
    wpAny (model prog w) A (forIn ifs true fun c r => if r = true then do let ok ← isTrue c env (eval c env); pure (ForInStep.yield ok) else pure (ForInStep.yield r)) (PT h₀ F s ρ st b st1) no s
  | [], b, e, ho, x => by
    simp [evTs] at e
    obtain ⟨rfl, rfl, _⟩ := e
    exact wpAny_tests_nil ⟨rfl, ρ, Ev.refl x.inv, rfl⟩
  | [c], b, e, ho, x => wpAny_tests_one (ST _ _ _ _ _ _ _ e ho _ _ _ _ _ x)
  | _ :: _ :: _, b, e, ho, x => by simp [evTs] at e

theorem C_ok (SE : SoundE prog w h₀ K self.E) (ST : SoundT prog w h₀ K self.T) (SC : SoundC prog w h₀ K self.C) : SoundC prog w h₀ K (stepC self) := by
  intro sc vs st target ifs elt it acc l st' o e ho F env A s ρ I fp L vals iter scope pos X hL hl ra r hn
  have hf := r.fields
  have nL : L ∉ ρ := (X.inv.far L hL).1.2
  have pL : L ∉ fp := fun q => pl_ne_fields hl (hf L q) rfl
  refine codeAny_of_tree ?_
  show wpAny _ A ((compTurn (.ListComp elt [⟨target, iter, ifs, 0⟩] scope pos) 0 (.ref I) (.ref L) env).onRaise (fun x => do noteFrame x env; theTreesLotGoes x)) (PFin prog w A (PC h₀ F env fp L s ρ sc st l st')) _ s
  refine wpAny_noted (wpAny_mono (E := no) ?_ (fun _ _ q => q) fun _ _ q => q.elim)
  rw [compTurn_list]
  refine wpAny_bind (wpAny_standAt ?_)
  unfold stepC at e
  split at e
  · rename_i en
    simp at e
    obtain ⟨rfl, rfl, _⟩ := e
    refine wpAny_bind (wpAny_mono (next_end X.aok X.inv en r hn) (fun r s1 hr => ?_) fun _ _ q => q.elim)
    obtain ⟨rfl, ev⟩ := hr
    have fm1 := X.fm.monoD X.inv ev (fun b o ob eb => .inl ((hf b ob).still eb)) (X.fm.not_fp hf) (fp_not_cell hf)
    obtain ⟨m, hm, _⟩ := fm1.ns
    refine wpAny_pure ⟨rfl, ρ, vals, ⟨ev.same, fun b o e m n => ev.keep b o e m fun q => n (.inr (.inl q)), ev.grow, ev.pre, ev.alive, ev.inv⟩, ⟨m, hm⟩,
      pl_at' hl fun o e => ev.keep L o e (fun q => nL q.mem) pL, Reps.mono (ev.grows' X.inv fun b o ob eb => .inl ((hf b ob).still eb)) _ _ ra, rfl⟩
  · rename_i x it1 en
    cases ht : okT target it with
    | false => rw [ht] at e; first | exact no_some e | cases e
    | true =>
      rw [ht, cond_true] at e
      split at e
      · rename_i vs1 st1 o1 e1
        -- the item, the tests
        have front : ∀ b st2 o2 (k : Bool → Sem Fin), evTs self sc vs1 st1 ifs = some (b, st2, o2) → o1 = true → o2 = true →
            (∀ s4 ρ2, Ev h₀ F (fun b => Own env sc b ∨ b ∈ fp) s ρ st.sto s4 ρ2 st2.sto → Fm h₀ env sc vs1 s4.heap (Mv F ρ2 st2.sto) ρ2 → ItRep s4.heap (Mv F ρ2 st2.sto) ρ2 I fp it1 → PlainL s4.heap L vals.toArray →
              Reps s4.heap (Mv F ρ2 st2.sto) ρ2 acc vals → st2.dep = st.dep → wpAny (model prog w) A (k b) (PFin prog w A (PC h₀ F env fp L s ρ sc st l st')) no s4) →
            wpAny (model prog w) A (do
              match ← pyNext (.ref I) with
              | none => pure (.done .next)
              | some v =>
                letOwnedTupleGo target (.ref I) v
                assign target env v
                let ok ← forIn ifs true fun c r => if r = true then do let ok ← isTrue c env (eval c env); pure (ForInStep.yield ok) else pure (ForInStep.yield r)
                k ok) (PFin prog w A (PC h₀ F env fp L s ρ sc st l st')) no s := by
          intro b st2 o2 k e2 ho1 ho2 hk
          refine wpAny_bind (wpAny_mono (turn_ok SE en ht e1 ho1 X r hn) (fun u s1 hu => ?_) fun _ _ q => q.elim)
          obtain ⟨v, rfl, hu⟩ := hu
          refine wpAny_bind (wpAny_mono hu (fun _ s2 hu => wpAny_bind (wpAny_mono hu (fun _ s3 hu => ?_) fun _ _ q => q)) fun _ _ q => q)
          obtain ⟨ρ1, ev1, fm1, ri, d1⟩ := hu
          have C1 : Cx h₀ K F env A s3 ρ1 sc vs1 st1 := ⟨ev1.inv, fm1, by rw [d1]; exact X.aok⟩
          refine wpAny_bind (wpAny_mono (tests_ok ST e2 ho2 C1) (fun ok s4 hv => ?_) fun _ _ q => q)
          obtain ⟨rfl, ρ2, ev2, d2⟩ := hv
          have hf1 := ri.fields
          have ev := ev1.trans (ev2.widen (own' := fun b => Own env sc b ∨ b ∈ fp) fun _ q => q.elim)
          have hst : ∀ b o, (Own env sc b ∨ b ∈ fp) → s.heap.get? b = some o → ¬ Still o := fun b o q eb => q.elim (fun q => X.fm.own_still b o q eb) fun q => (hf b q).still eb
          exact hk s4 ρ2 ev (fm1.mono0 ev1.inv ev2) (ItRep.mono (ev2.grows0 ev1.inv) (fun b hb o eb => ev2.keep b o eb (fun q => (hf1 b hb).not_lv ev1.inv (.inr q)) fun q => q) ri)
            (pl_at' hl fun o e => ev.keep L o e (fun q => nL q.mem) fun q => q.elim (X.fm.not_L hl) pL) (Reps.mono (ev.grows X.inv hst) _ _ ra) (d2.trans d1)
        have own3 : ∀ b, (Own env sc b ∨ b ∈ fp) → (Own env sc b ∨ b ∈ fp ∨ b = L) := fun b q => q.imp id .inl
        split at e
        · rename_i st2 o2 e2
          split at e
          · rename_i d st3 o3 e3
            split at e
            · rename_i l' st4 o4 e4
              obtain ⟨rfl, rfl, rfl⟩ := some3 e
              obtain ⟨ho1, ho⟩ := andB_true ho
              obtain ⟨ho2, ho⟩ := andB_true ho
              obtain ⟨ho3, ho⟩ := andB_true ho
              obtain ⟨ho4, hz⟩ := andB_true ho
              refine front true st2 o2 (fun ok => do
                if ok then
                  (do let _ ← call (.builtin "list.append") [.ref L, ← eval elt env])
                again (.compLoop (.ListComp elt [⟨target, iter, ifs, 0⟩] scope pos) 0 (.ref I) (.ref L) env)) e2 ho1 ho2 fun s4 ρ2 ev fm ri hl4 ra4 d2 => ?_
              simp only [if_true]
              have C2 : Cx h₀ K F env A s4 ρ2 sc vs1 st2 := ⟨ev.inv, fm, by rw [d2]; exact X.aok⟩
              refine wpAny_bind (wpAny_bind (wpAny_mono (SE _ _ _ _ _ _ _ e3 ho3 _ _ _ _ _ C2) (fun v s5 hv => ?_) fun _ _ q => q))
              obtain ⟨ρ3, ev3, rv, d3⟩ := hv
              have nL2 : L ∉ ρ2 := (ev.inv.far L hL).1.2
              have hl5 := pl_at' hl4 fun o e => ev3.keep L o e (fun q => nL2 q.mem) fun q => q
              have ra5 := Reps.mono (ev3.grows0 ev.inv) _ _ ra4
              have fm5 := fm.mono0 ev.inv ev3
              have hf4 := ri.fields
              have ri5 := ItRep.mono (ev3.grows0 ev.inv) (fun b hb o eb => ev3.keep b o eb (fun q => (hf4 b hb).not_lv ev.inv (.inr q)) fun q => q) ri
              refine wpAny_bind (list_append_plainL hl5 (fun h' hl' hs => ?_) (by rw [List.size_toArray, ra5.length, sizeLine_eq]; have := Nat.le_of_ble_eq_true hz; omega))
              refine wpAny_pure (wpAny_pure ?_)
              have ev6 := ev_farset ev3.inv hL hs hl'
              have own6 : ∀ b o, b = L → s5.heap.get? b = some o → ¬ Still o ∨ Mv F ρ3 st3.sto b := fun b o q _ => .inr (.inl (q ▸ hL))
              have G6 := ev6.grows' ev3.inv own6
              have fm6 := fm5.mono ev3.inv ev6 own6 (fun q => by
                obtain ⟨m, n, _⟩ := fm5.ns
                exact pl_ne_ns hl5 n q.symm) fun c ov n q => pl_ne_cell hl5 n q.symm
              have hf5 := ri5.fields
              have ri6 := ItRep.mono G6 (fun b hb o eb => ev6.keep b o eb (fun q => (hf5 b hb).not_lv ev3.inv (.inr q)) fun q => pL (q ▸ hb)) ri5
              have evA := (ev.widen own3).trans ((ev3.widen fun _ q => q.elim).trans (ev6.widen fun b q => .inr (.inr q)))
              refine ⟨rfl, codeAny_mono (SC _ _ _ _ _ _ _ _ _ _ _ e4 ho4 F env A _ ρ3 I fp L (vals ++ [v]) iter scope pos ⟨ev6.inv, fm6, by rw [d3, d2]; exact X.aok⟩ hL (by simpa using hl') ((Reps.mono G6 _ _ ra5).snoc (Rep.mono G6 _ _ rv)) ri6 hn) fun r s7 hr => ?_⟩
              obtain ⟨rfl, ρ7, vals7, ev7, q1, q2, q3, d7⟩ := hr
              exact ⟨rfl, ρ7, vals7, evA.thenD ev7, q1, q2, q3, d7.trans (d3.trans d2)⟩
            · first | exact no_some e | cases e
          · first | exact no_some e | cases e
        · rename_i st2 o2 e2
          split at e
          · rename_i l' st4 o4 e4
            obtain ⟨rfl, rfl, rfl⟩ := some3 e
            obtain ⟨ho1, ho⟩ := andB_true ho
            obtain ⟨ho2, ho4⟩ := andB_true ho
            refine front false st2 o2 (fun ok => do
              if ok then
                (do let _ ← call (.builtin "list.append") [.ref L, ← eval elt env])
              again (.compLoop (.ListComp elt [⟨target, iter, ifs, 0⟩] scope pos) 0 (.ref I) (.ref L) env)) e2 ho1 ho2 fun s4 ρ2 ev fm ri hl4 ra4 d2 => ?_
            simp only [Bool.false_eq_true, if_false]
            refine wpAny_pure ⟨rfl, codeAny_mono (SC _ _ _ _ _ _ _ _ _ _ _ e4 ho4 F env A s4 ρ2 I fp L vals iter scope pos ⟨ev.inv, fm, by rw [d2]; exact X.aok⟩ hL hl4 ra4 ri hn) fun r s7 hr => ?_⟩
            obtain ⟨rfl, ρ7, vals7, ev7, q1, q2, q3, d7⟩ := hr
            exact ⟨rfl, ρ7, vals7, (ev.widen own3).thenD ev7, q1, q2, q3, d7.trans d2⟩
          · first | exact no_some e | cases e
        · first | exact no_some e | cases e
      · first | exact no_some e | cases e
  · first | exact no_some e | cases e
end
end Mine
end

section
set_option autoImplicit false
set_option linter.unusedVariables false
namespace Mine
open PySem PySem.Calls PyProof.Rows

noncomputable def Plus (F : Addr → Prop) (L : Addr) (a : Addr) : Prop := F a ∨ a = L

section
variable {prog : Program} {w : World} {h₀ h : Heap} {c : Cfg} {K : Nat} {mg mb : Str → Option Value} {F own : Addr → Prop} {env : Env} {A : Around} {s s' s'' : Shared} {ρ ρ' : List Addr} {σ σ' : Sto} {sc : Sc} {vs vs' vs1 : Vars} {st st' st1 st2 st3 : St}
  {self : Self} {o o1 o2 o3 : Bool} {d : D} {I L : Addr} {fp : List Addr} {it it' : It} {M : Addr → Prop}

theorem sub_grows {h : Heap} {M M' : Addr → Prop} {y : List Addr} (hM : ∀ a, M a → ∃ o, h.get? a = some o ∧ o.cls = .type "list") (hs : ∀ a, M' a → M a) : Grows h h M M' ρ (ρ ++ y) :=
  ⟨fun _ _ e _ _ => e, hM, fun a m => .inl (hs a m), ⟨y, rfl⟩⟩

theorem Inv.lists' (Iv : Inv h₀ F h ρ σ) : ∀ a, Mv F ρ σ a → ∃ o, h.get? a = some o ∧ o.cls = .type "list" := fun a m => let ⟨o, h1, h2, _⟩ := Iv.lists m; ⟨o, h1, h2⟩
theorem Inv.less (Iv : Inv h₀ (Plus F L) h ρ σ) : Inv h₀ F h ρ σ := by
  have G : Grows h h (Mv (Plus F L) ρ σ) (Mv F ρ σ) ρ (ρ ++ []) := sub_grows Iv.lists' fun a m => m.imp .inl id
  rw [List.append_nil] at G
  exact ⟨Iv.len, Iv.inj, Iv.base, Iv.new, Iv.there, fun a m => Iv.far a (.inl m), fun k l e => let ⟨a, ws, e1, e2, e3⟩ := Iv.obj k l e; ⟨a, ws, e1, e2, Reps.mono G _ _ e3⟩⟩
theorem Ev.less (x : Ev h₀ (Plus F L) own s ρ σ s' ρ' σ') : Ev h₀ F own s ρ σ s' ρ' σ' := ⟨x.same, x.keep, x.grow, x.pre, x.alive, x.inv.less⟩
theorem EvD.less (x : EvD h₀ (Plus F L) own fp s ρ σ s' ρ' σ') : EvD h₀ F own fp s ρ σ s' ρ' σ' := ⟨x.same, x.keep, x.grow, x.pre, x.alive, x.inv.less⟩

theorem Inv.more (Iv : Inv h₀ F h ρ σ) (hL : h.get? L = none) {h' : Heap} (k : ∀ b o, h.get? b = some o → h'.get? b = some o) {xs : Array Value} (hl : PlainL h' L xs) : Inv h₀ (Plus F L) h' ρ σ := by
  have G : Grows h h' (Mv F ρ σ) (Mv (Plus F L) ρ σ) ρ ρ := ⟨fun b o e _ _ => k b o e, Iv.lists', fun a m => by
    rcases m with (m | rfl) | m
    · exact .inl (.inl m)
    · exact .inr hL
    · exact .inl (.inr m), ⟨[], by simp⟩⟩
  refine ⟨Iv.len, Iv.inj, fun b o e => k b o (Iv.base b o e), Iv.new, fun a m => let ⟨o, h1, h2⟩ := Iv.there a m; ⟨o, k a o h1, h2⟩, fun a m => ?_, fun j l e => let ⟨a, ws, e1, ⟨ob, nb, e2, r⟩, e3⟩ := Iv.obj j l e; ⟨a, ws, e1, ⟨ob, nb, k a ob e2, r⟩, Reps.mono G _ _ e3⟩⟩
  rcases m with m | rfl
  · obtain ⟨n, o, h1, h2⟩ := Iv.far a m
    exact ⟨n, o, k a o h1, h2⟩
  · obtain ⟨o, n, e1, e2, _, e3⟩ := hl
    refine ⟨⟨?_, fun m => ?_⟩, o, e1, e2, _, n, e3⟩
    · cases e : h₀.get? a with
      | none => rfl
      | some o => rw [Iv.base a o e] at hL; cases hL
    · obtain ⟨o, e, _⟩ := Iv.there a m
      rw [hL] at e; cases e

theorem Inv.adopt (Iv : Inv h₀ (Plus F L) h ρ σ) (hF : ¬ F L) {l : List D} {vals : List Value} (hl : PlainL h L vals.toArray) (r : Reps h (Mv (Plus F L) ρ σ) ρ l vals) : Inv h₀ F h (ρ ++ [L]) (σ ++ [some l]) := by
  obtain ⟨⟨n1, n2⟩, _⟩ := Iv.far L (.inr rfl)
  have hLv : ∀ b, Lv (ρ ++ [L]) (σ ++ [some l]) b → Lv ρ σ b ∨ b = L := by
    rintro b ⟨j, m, h1, h2⟩
    by_cases q : j < σ.length
    · rw [List.getElem?_append_left q] at h1
      rw [List.getElem?_append_left (by rw [Iv.len]; exact q)] at h2
      exact .inl ⟨j, m, h1, h2⟩
    · right
      have hj := (List.getElem?_eq_some_iff.mp h2).1
      rw [List.length_append, List.length_singleton, Iv.len] at hj
      obtain rfl : j = σ.length := by omega
      rw [List.getElem?_append_right (by rw [Iv.len]; exact Nat.le_refl _), Iv.len, Nat.sub_self] at h2
      simpa using h2.symm
  have G : Grows h h (Mv (Plus F L) ρ σ) (Mv F (ρ ++ [L]) (σ ++ [some l])) ρ (ρ ++ [L]) := sub_grows Iv.lists' fun a m => by
    rcases m with m | m
    · exact .inl (.inl m)
    · exact (hLv a m).elim .inr fun q => .inl (.inr q)
  refine ⟨by simp [Iv.len], ?_, Iv.base, fun b m => ?_, fun b m => ?_, fun a m => ?_, fun j m ej => ?_⟩
  · rw [List.nodup_append]
    exact ⟨Iv.inj, by simp, fun x hx y hy e => n2 (by simp at hy; subst hy; exact e ▸ hx)⟩
  · rcases List.mem_append.mp m with m | m
    · exact Iv.new b m
    · obtain rfl : b = L := by simpa using m
      exact n1
  · rcases List.mem_append.mp m with m | m
    · exact Iv.there b m
    · obtain rfl : b = L := by simpa using m
      obtain ⟨o, n, e1, _, _, e3⟩ := hl
      exact ⟨o, e1, _, n, e3⟩
  · obtain ⟨⟨m1, m2⟩, q⟩ := Iv.far a (.inl m)
    refine ⟨⟨m1, fun q => ?_⟩, q⟩
    rcases List.mem_append.mp q with q | q
    · exact m2 q
    · obtain rfl : a = L := by simpa using q
      exact hF m
  · by_cases q : j < σ.length
    · rw [List.getElem?_append_left q] at ej
      obtain ⟨b, ws, e1, e2, e3⟩ := Iv.obj j m ej
      exact ⟨b, ws, by rw [List.getElem?_append_left (by rw [Iv.len]; exact q)]; exact e1, e2, Reps.mono G _ _ e3⟩
    · have hj := (List.getElem?_eq_some_iff.mp ej).1
      rw [List.length_append, List.length_singleton] at hj
      obtain rfl : j = σ.length := by omega
      rw [List.getElem?_append_right (Nat.le_refl _), Nat.sub_self] at ej
      simp at ej; subst ej
      exact ⟨L, vals, by rw [List.getElem?_append_right (by rw [Iv.len]; exact Nat.le_refl _), Iv.len, Nat.sub_self]; rfl, hl, Reps.mono G _ _ r⟩

structure CompEnd (h₀ : Heap) (F : Addr → Prop) (L : Addr) (s : Shared) (ρ : List Addr) (st : St) (l : List D) (st2 : St) (ρ2 : List Addr) (vals : List Value) (s' : Shared) : Prop where
  ev : Ev h₀ F nobody s ρ st.sto s' ρ2 st2.sto
  inv : Inv h₀ (Plus F L) s'.heap ρ2 st2.sto
  plain : PlainL s'.heap L vals.toArray
  reps : Reps s'.heap (Mv (Plus F L) ρ2 st2.sto) ρ2 l vals
  new : s.heap.get? L = none
  dep : st2.dep = st.dep

theorem CompEnd.pe (Iv : Inv h₀ F s.heap ρ st.sto) {l : List D} {ρ2 : List Addr} {vals : List Value} (x : CompEnd h₀ F L s ρ st l st2 ρ2 vals s') {p : Pos} (e : newLst c p l st2 o = some (d, st', o1)) : PE h₀ F s ρ st d st' (.ref L) s' := by
  have hF : ¬ F L := fun q => by
    obtain ⟨_, o, e, _⟩ := Iv.far L q
    rw [x.new] at e; cases e
  unfold newLst at e
  cases hz : Nat.ble l.length 1000 with
  | false => rw [hz] at e; first | exact no_some e | cases e
  | true =>
    rw [hz, cond_true] at e
    cases hp : hasPos c.mt p with
    | false =>
      rw [hp] at e; simp at e
      obtain ⟨rfl, rfl, _⟩ := e
      refine ⟨ρ2, x.ev, ⟨L, vals, rfl, pl_list x.plain, fun q => ?_, ?_⟩, x.dep⟩
      · rcases q with q | q
        · exact hF q
        · exact (x.inv.far L (.inr rfl)).1.2 q.mem
      · have G : Grows s'.heap s'.heap (Mv (Plus F L) ρ2 st2.sto) (Mv F ρ2 st2.sto) ρ2 (ρ2 ++ []) := sub_grows x.inv.lists' fun a m => m.imp .inl id
        rw [List.append_nil] at G
        exact Reps.mono G _ _ x.reps
    | true =>
      rw [hp] at e; simp at e
      obtain ⟨rfl, rfl, _⟩ := e
      refine ⟨ρ2 ++ [L], ⟨x.ev.same, x.ev.keep, fun a m => ?_, ?_, x.ev.alive, x.inv.adopt hF x.plain x.reps⟩, ⟨L, rfl, ?_⟩, x.dep⟩
      · obtain ⟨j, m', h1, h2⟩ := m
        by_cases q : j < st2.sto.length
        · rw [List.getElem?_append_left q] at h1
          rw [List.getElem?_append_left (by rw [x.inv.len]; exact q)] at h2
          exact x.ev.grow a ⟨j, m', h1, h2⟩
        · have hj := (List.getElem?_eq_some_iff.mp h2).1
          rw [List.length_append, List.length_singleton, x.inv.len] at hj
          obtain rfl : j = st2.sto.length := by omega
          rw [List.getElem?_append_right (by rw [x.inv.len]; exact Nat.le_refl _), x.inv.len, Nat.sub_self] at h2
          simp at h2; subst h2
          exact .inr x.new
      · obtain ⟨y, q⟩ := x.ev.pre
        exact ⟨y ++ [L], by rw [q, List.append_assoc]⟩
      · rw [List.getElem?_append_right (by rw [x.inv.len]; exact Nat.le_refl _), x.inv.len, Nat.sub_self]; rfl

theorem CompEnd.letGo {l : List D} {ρ2 : List Addr} {vals : List Value} (x : CompEnd h₀ F L s ρ st l st2 ρ2 vals s') {C : Addr} (hC : s.heap.get? C = none) {m : Str → Option Value} (hn : s'.heap.Ns C m) (h0 : h₀.get? C = none) {h' : Heap} (hs : Heap.SameBut C s'.heap h') :
    CompEnd h₀ F L s ρ st l st2 ρ2 vals { s' with heap := h' } := by
  have still : ∀ b o, s'.heap.get? b = some o → Still o → h'.get? b = some o := fun b o e hst => hs.extBut b o (fun q => by subst q; exact ns_still hn e hst) e
  have base : ∀ b o, h₀.get? b = some o → h'.get? b = some o := fun b o e => hs.extBut b o (fun q => by rw [q, h0] at e; cases e) (x.inv.base b o e)
  have Iv := x.inv.keeps still base
  have G : Grows s'.heap h' (Mv (Plus F L) ρ2 st2.sto) (Mv (Plus F L) ρ2 st2.sto) ρ2 ρ2 := ⟨fun b o e st _ => still b o e st, x.inv.lists', fun _ m => .inl m, ⟨[], by simp⟩⟩
  have D1 : EvD h₀ F (fun b => b = C) [C] s' ρ2 st2.sto { s' with heap := h' } ρ2 st2.sto := ⟨⟨_, s'.toks, rfl⟩, fun b o e _ n => hs.extBut b o n e, fun _ m => .inl m, ⟨[], by simp⟩, fun b o e => by
    by_cases q : b = C
    · exact .inl (by simp [q])
    · exact .inr ⟨o, hs.extBut b o q e⟩, Iv.less⟩
  refine ⟨((x.ev.widen fun _ q => q.elim).thenD D1).close (fun a q => .inr (q ▸ hC)) (fun b hb => by simp at hb; exact hb ▸ hC), Iv, ?_, Reps.mono G _ _ x.reps, x.new, x.dep⟩
  obtain ⟨o, n, e1, e2, e3, e4⟩ := x.plain
  exact ⟨o, n, still L o e1 (.inl ⟨_, n, e4⟩), e2, e3, e4⟩

theorem Fm.moves {h' : Heap} {M' : Addr → Prop} (f : Fm h₀ env sc vs h M ρ) (k : ∀ b o, h.get? b = some o → h'.get? b = some o) (G : Grows h h' M M' ρ ρ') : Fm h₀ env sc vs h' M' ρ' := by
  refine ⟨f.kind, f.glob, f.blt, f.tidy, f.loc, fun n e => ?_, fun n e => ?_, f.glo, ?_, f.new, f.apart⟩
  · obtain ⟨q, c, ov, h1, h2, h3, h4⟩ := f.cel n e
    exact ⟨q, c, ov, h1, h2.keeps k, fun d ed => let ⟨v, hv, r⟩ := h3 d ed; ⟨v, hv, Rep.mono G _ _ r⟩, h4⟩
  · obtain ⟨q, c, ov, h1, h2, h3⟩ := f.fre n e
    exact ⟨q, c, ov, h1, h2.keeps k, fun d ed => let ⟨v, hv, r⟩ := h3 d ed; ⟨v, hv, Rep.mono G _ _ r⟩⟩
  · obtain ⟨m, n, r⟩ := f.ns
    exact ⟨m, n.keeps k, fun y d e1 e2 => let ⟨v, hv, q⟩ := r y d e1 e2; ⟨v, hv, Rep.mono G _ _ q⟩⟩

theorem iter_self (r : ItRep s.heap M ρ I fp it) {Q : Value → Shared → Prop} (h : Q (.ref I) s) : wpAny (model prog w) A (pyIter (.ref I)) Q no s := by
  cases it with
  | seq l => obtain ⟨_, ax, vs, i, h1, _⟩ := r; exact wpAny_pyIter_listiter h1 h
  | rng a b => obtain ⟨_, left, h1, _⟩ := r; exact wpAny_pyIter_rangeiter h1 h
  | mutI k i => obtain ⟨_, ax, h1, _⟩ := r; exact wpAny_pyIter_listiter h1 h
  | enm i l => obtain ⟨it, ax, vs, old, _, _, h1, _⟩ := r; exact wpAny_pyIter_enum h1 h
  | enmM i k => obtain ⟨it, ax, old, _, _, h1, _⟩ := r; exact wpAny_pyIter_enum h1 h

theorem comp_run (G : Gd prog w h₀ c K mg mb) (SE : SoundE prog w h₀ K self.E) (SC : SoundC prog w h₀ K self.C) {elt target iter : Expr} {ifs : List Expr} {scope : Scope} {p pp : Pos} {l : List D} (hok : compOk scope sc = true)
    (e1 : evIt self sc vs st iter = some (it, st1, o1)) (ho1 : o1 = true) (e2 : self.C scope.names (freeVars vs scope.names) st1 target ifs elt it [] = some (l, st2, o2)) (ho2 : o2 = true) (x : Cx h₀ K F env A s ρ sc vs st)
    {use : Option (Value → Sem Unit)} {Q : Value → Shared → Prop}
    (hQ : ∀ L C s' ρ2 vals m, CompEnd h₀ F L s ρ st l st2 ρ2 vals s' → s'.heap.Ns C m → s.heap.get? C = none → h₀.get? C = none → compPost (model prog w) A no use Q (.ref L) C (.ok .next) s') :
    wpAny (model prog w) A (comprehension (.ListComp elt [⟨target, iter, ifs, 0⟩] scope p) scope env pp (newList []) false (eval iter env) use) Q no s := by
  have O := compSc hok
  obtain ⟨cl, hcl, c1, c2⟩ := closure_ok (scope := scope) (env := env) fun n m => by
    obtain ⟨_, c, ov, h1, _⟩ := x.fm.cells_of (O.fre n m).2
    exact ⟨c, h1⟩
  refine wpAny_comprehension_free rfl (evIt_fold e1) hcl O.kind (fun y hy hl => O.loc y.1 (by rw [← hl]; exact hy)) (wpAny_mono (evIt_ok G SE e1 ho1 x) (fun v s1 hv => wpAny_mono hv (fun u s2 hu => ?_) fun _ _ q => q) fun _ _ q => q)
  obtain ⟨ρ1, I, fp, rfl, ev1, ri, hfp, d1⟩ := hu
  unfold newList
  refine wpAny_newObj_type ?_
  have Iv2 := ev1.inv
  have hL2 : s2.heap.get? s2.heap.objs.size = none := new_at
  have hl3 : PlainL (s2.heap.push { cls := .type "list", dict := none, data := .seq ([] : List Value).toArray }) s2.heap.objs.size ([] : List Value).toArray := ⟨_, _, Heap.get?_push_size _ rfl, rfl, rfl, rfl⟩
  have Iv3 := Iv2.more hL2 (fun b o e => Heap.get?_push_of_some _ e) hl3
  have ev2 : Ev h₀ F nobody s2 ρ1 st1.sto { s2 with heap := s2.heap.push { cls := .type "list", dict := none, data := .seq ([] : List Value).toArray } } ρ1 st1.sto := Ev.push Iv2 _
  have G2 : Grows s2.heap (s2.heap.push { cls := .type "list", dict := none, data := .seq ([] : List Value).toArray }) (Mv F ρ1 st1.sto) (Mv (Plus F s2.heap.objs.size) ρ1 st1.sto) ρ1 ρ1 :=
    ⟨fun b o e _ _ => Heap.get?_push_of_some _ e, Iv2.lists', fun a m => by
      rcases m with (m | rfl) | m
      · exact .inl (.inl m)
      · exact .inr hL2
      · exact .inl (.inr m), ⟨[], by simp⟩⟩
  generalize hL : s2.heap.objs.size = L at *
  generalize hs3 : ({ s2 with heap := s2.heap.push { cls := .type "list", dict := none, data := .seq ([] : List Value).toArray } } : Shared) = s3 at *
  have hh3 : s3.heap = s2.heap.push { cls := .type "list", dict := none, data := .seq ([] : List Value).toArray } := by rw [← hs3]
  rw [← hh3] at hl3 Iv3 G2
  have k3 : ∀ b o, s2.heap.get? b = some o → s3.heap.get? b = some o := fun b o e => by rw [hh3]; exact Heap.get?_push_of_some _ e
  have fm3 := (x.fm.mono0 x.inv ev1).moves k3 G2
  have hLs : s.heap.get? L = none := by
    cases e : s.heap.get? L with
    | none => rfl
    | some o => obtain ⟨o', e'⟩ := ev1.alive _ o e; rw [hL2] at e'; cases e'
  have hf2 := ri.fields
  have ri3 : ItRep s3.heap (Mv (Plus F L) ρ1 st1.sto) ρ1 I fp it := ItRep.mono G2 (fun b hb o eb => k3 b o eb) ri
  refine comp_env Iv3 fm3 O c1 c2 fun cenv s4 ev4 fm4 hown => ?_
  have ri4 : ItRep s4.heap (Mv (Plus F L) ρ1 st1.sto) ρ1 I fp it := ItRep.mono (ev4.grows0 Iv3) (fun b hb o eb => ev4.keep b o eb (fun q => (ri3.fields b hb).not_lv Iv3 (.inr q)) fun q => q) ri3
  have hl4 : PlainL s4.heap L ([] : List Value).toArray := pl_at' hl3 fun o e => ev4.keep L o e (fun q => (Iv3.far L (.inr rfl)).1.2 q.mem) fun q => q
  have C4 : Cx h₀ K (Plus F L) { cenv with scope := relabel scope env } A s4 ρ1 scope.names (freeVars vs scope.names) st1 := ⟨ev4.inv, fm4, by rw [d1]; exact x.aok⟩
  have run := SC _ _ _ _ _ _ _ _ _ _ _ e2 ho2 (Plus F L) _ A s4 ρ1 I fp L [] iter scope p C4 (.inr rfl) hl4 rfl ri4 (fun b hb => (hfp b hb).1)
  have fin : ∀ r s', PC h₀ (Plus F L) { cenv with scope := relabel scope env } fp L s4 ρ1 scope.names st1 l st2 r s' → compPost (model prog w) A no use Q (.ref L) cenv.locals r s' := by
    rintro r s' ⟨rfl, ρ2, vals, evD, ⟨m, hm⟩, hl5, r5, d2⟩
    have hown' : ∀ a, Own { cenv with scope := relabel scope env } scope.names a → s.heap.get? a = none ∧ s2.heap.get? a = none := fun a q => by
      have h3 := hown a q
      have h2 : s2.heap.get? a = none := by
        cases e : s2.heap.get? a with
        | none => rfl
        | some o => rw [k3 a o e] at h3; cases h3
      refine ⟨?_, h2⟩
      cases e : s.heap.get? a with
      | none => rfl
      | some o => obtain ⟨o', e'⟩ := ev1.alive _ o e; rw [h2] at e'; cases e'
    have hC := hown' cenv.locals (.inl rfl)
    have evT := ((ev1.trans (ev2.trans ev4.less)).widen fun _ q => q.elim).thenD evD.less
    have evC : Ev h₀ F nobody s ρ st.sto s' ρ2 st2.sto := evT.close (fun a q => by
      rcases q with q | q | q
      · exact .inr (hown' a q).1
      · exact .inr (hfp a q).2
      · exact .inr (q ▸ hLs)) fun b hb => (hfp b hb).2
    exact hQ L cenv.locals s' ρ2 vals m ⟨evC, evD.inv, hl5, r5, hLs, d2.trans d1⟩ hm hC.1 (fresh_base Iv2 hC.2)
  exact codeAny_compStart_list (codeAny_mono run fin) (wpAny_mono (iter_self ri4 (Q := fun v s' => v = .ref I ∧ s' = s4) ⟨rfl, rfl⟩) (fun v s' q => by obtain ⟨rfl, rfl⟩ := q; exact codeAny_mono run fin) fun _ _ q => q.elim)

theorem E_listcomp (G : Gd prog w h₀ c K mg mb) (SE : SoundE prog w h₀ K self.E) (SC : SoundC prog w h₀ K self.C) {elt target iter : Expr} {ifs : List Expr} {scope : Scope} {p : Pos} {l : List D} (hok : compOk scope sc = true)
    (e1 : evIt self sc vs st iter = some (it, st1, o1)) (ho1 : o1 = true) (e2 : self.C scope.names (freeVars vs scope.names) st1 target ifs elt it [] = some (l, st2, o2)) (ho2 : o2 = true) (e3 : newLst c p l st2 o3 = some (d, st', o)) (x : Cx h₀ K F env A s ρ sc vs st) :
    wpAny (model prog w) A (eval (.ListComp elt [⟨target, iter, ifs, 0⟩] scope p) env) (PE h₀ F s ρ st d st') no s := by
  rw [eval_ListComp]
  refine comp_run G SE SC hok e1 ho1 e2 ho2 x (use := none) fun L C s' ρ2 vals m ce hm hC h0 => ?_
  exact ⟨m, hm, fun h' hs => (ce.letGo hC hm h0 hs).pe x.inv e3⟩
end
end Mine
end

section
set_option autoImplicit false
set_option linter.unusedVariables false
namespace Mine
open PySem PySem.Calls PyProof.Rows

section
variable {prog : Program} {w : World} {h₀ h : Heap} {c : Cfg} {K : Nat} {mg mb : Str → Option Value} {self : Self}

theorem newLst_o {p : Pos} {l : List D} {st st' : St} {o o1 : Bool} {d : D} (h : newLst c p l st o1 = some (d, st', o)) : o = o1 := by
  unfold newLst at h
  cases q : Nat.ble l.length 1000 with
  | false => rw [q] at h; exact no_some h
  | true =>
    rw [q, cond_true] at h
    cases hp : hasPos c.mt p <;> rw [hp] at h <;> simp at h <;> exact h.2.2.symm

theorem stepE_sub {sc : Sc} {vs : Vars} {st : St} {v i : Expr} {p : Pos} (hs : ¬ ∃ lo up stp q, i = .Slice lo up stp q) : stepE c self sc vs st (.Subscript v i p) = (match self.E sc vs st v with
    | some (a, st1, o1) => (match self.E sc vs st1 i with
      | some (.int j n, st2, o2) => (match itemsOf st2.sto a with
        | some l => cond (decide (0 ≤ j)) (match l[j.toNat]? with
          | some d => some (d, st2, andB o1 (andB o2 (Nat.ble n 60)))
          | none => none) none
        | none => none)
      | _ => none)
    | none => none) := by
  cases i <;> first | rfl | exact absurd ⟨_, _, _, _, rfl⟩ hs
theorem stepE_callk {sc : Sc} {vs : Vars} {st : St} {f : Expr} {args : List Expr} {k : Keyword} {ks : List Keyword} {cp : Pos} : stepE c self sc vs st (.Call f args (k :: ks) cp) = none := by
  cases f <;> first | rfl | (rename_i v _ _; cases v <;> first | rfl | (cases args <;> first | rfl | (rename_i t; cases t <;> rfl)))
theorem listcomp_one {sc : Sc} {vs : Vars} {st st' : St} {elt : Expr} {gens : List Comprehension} {scope : Scope} {p : Pos} {d : D} {o : Bool} (h : stepE c self sc vs st (.ListComp elt gens scope p) = some (d, st', o)) :
    ∃ target iter ifs, gens = [⟨target, iter, ifs, 0⟩] := by
  cases gens with
  | nil => exact no_some h
  | cons g t =>
    obtain ⟨target, iter, ifs, a⟩ := g
    cases t with
    | cons g2 t =>
      have key : stepE c self sc vs st (.ListComp elt (⟨target, iter, ifs, a⟩ :: g2 :: t) scope p) = none := by
        cases a with
        | ofNat n => cases n <;> rfl
        | negSucc n => rfl
      rw [key] at h
      exact no_some h
    | nil =>
      by_cases ha : a = 0
      · subst ha; exact ⟨_, _, _, rfl⟩
      · have key : stepE c self sc vs st (.ListComp elt [⟨target, iter, ifs, a⟩] scope p) = none := by
          cases a with
          | ofNat n => cases n with
            | zero => exact absurd rfl ha
            | succ n => rfl
          | negSucc n => rfl
        rw [key] at h
        exact no_some h
theorem E_ok (G : Gd prog w h₀ c K mg mb) (SE : SoundE prog w h₀ K self.E) (ST : SoundT prog w h₀ K self.T) (SS : SoundS prog w h₀ K self.S) (SC : SoundC prog w h₀ K self.C) : SoundE prog w h₀ K (stepE c self) := by
  intro sc vs st e d st' o h ho F env A s ρ x
  cases e with
  | Constant k k2 p => exact E_const h x
  | Name y p => exact E_name G h x
  | UnaryOp op y p =>
    cases op with
    | USub =>
      dsimp only [stepE] at h
      split at h
      · rename_i e1
        obtain ⟨rfl, rfl, rfl⟩ := some3 h
        exact E_usub SE e1 ho x
      · exact no_some h
    | _ => exact no_some h
  | BinOp l op r p =>
    dsimp only [stepE] at h
    split at h
    · rename_i e1
      split at h
      · rename_i e2
        split at h
        · rename_i e3
          obtain ⟨rfl, rfl, rfl⟩ := some3 h
          obtain ⟨h1, h2⟩ := andB_true ho
          obtain ⟨h2, h3⟩ := andB_true h2
          exact E_bin SE e1 h1 e2 h2 e3 h3 x
        · exact no_some h
      · exact no_some h
    · exact no_some h
  | Compare l ops rs p =>
    cases ops with
    | nil => exact no_some h
    | cons op t =>
      cases t with
      | cons _ _ => exact no_some h
      | nil =>
        cases rs with
        | nil => exact no_some h
        | cons r t =>
          cases t with
          | cons _ _ => exact no_some h
          | nil =>
            dsimp only [stepE] at h
            split at h
            · rename_i e1
              split at h
              · rename_i e2
                split at h
                · rename_i e3
                  obtain ⟨rfl, rfl, rfl⟩ := some3 h
                  obtain ⟨h1, h2⟩ := andB_true ho
                  exact E_cmp SE e1 h1 e2 h2 e3 x
                · exact no_some h
              · exact no_some h
            · exact no_some h
  | BoolOp op es p =>
    cases es with
    | nil => exact no_some h
    | cons l t =>
      cases t with
      | nil => exact no_some h
      | cons r t =>
        cases t with
        | cons _ _ => exact no_some h
        | nil =>
          dsimp only [stepE] at h
          split at h
          · rename_i b st1 o1 e1
            split at h
            · rename_i b' st2 o2 e2
              have hh : o1 = true ∧ o2 = true := by
                split at h
                · simp at h; obtain ⟨_, _, rfl⟩ := h; exact andB_true ho
                · simp at h; obtain ⟨_, _, rfl⟩ := h; exact andB_true ho
                · split at h
                  · simp at h; obtain ⟨_, _, rfl⟩ := h
                    obtain ⟨h1, h2⟩ := andB_true ho
                    exact ⟨h1, (andB_true h2).1⟩
                  · exact no_some h
              exact E_bool SE hh.1 hh.2 h ho e1 e2 x
            · exact no_some h
          · exact no_some h
  | IfExp t a b p =>
    dsimp only [stepE] at h
    split at h
    · rename_i e1
      split at h
      · rename_i e2
        obtain ⟨rfl, rfl, rfl⟩ := some3 h
        obtain ⟨h1, h2⟩ := andB_true ho
        exact E_if SE ST e1 h1 e2 h2 x
      · exact no_some h
    · exact no_some h
  | Tuple es k p =>
    dsimp only [stepE] at h
    split at h
    · rename_i e1
      obtain ⟨rfl, rfl, rfl⟩ := some3 h
      obtain ⟨h1, h2⟩ := andB_true ho
      exact E_tup SE e1 h1 h2 x
    · exact no_some h
  | List es p =>
    dsimp only [stepE] at h
    split at h
    · rename_i l st1 o1 e1
      have hz : Nat.ble l.length 1000 = true ∧ o = o1 := by
        unfold newLst at h
        cases q : Nat.ble l.length 1000 with
        | false => rw [q] at h; exact no_some h
        | true =>
          rw [q, cond_true] at h
          refine ⟨rfl, ?_⟩
          cases hp : hasPos c.mt p <;> rw [hp] at h <;> simp at h <;> exact h.2.2.symm
      exact E_list SE e1 ho h hz.1 x (hz.2 ▸ ho)
    · exact no_some h
  | Subscript v i p =>
    by_cases hs : ∃ lo up stp q, i = .Slice lo up stp q
    · obtain ⟨lo, up, stp, q, rfl⟩ := hs
      dsimp only [stepE] at h
      split at h
      · rename_i e1
        split at h
        · split at h
          · rename_i e2
            obtain ⟨rfl, rfl, rfl⟩ := some3 h
            obtain ⟨h1, h2⟩ := andB_true ho
            obtain ⟨h2, h3⟩ := andB_true h2
            obtain ⟨h3, h4⟩ := andB_true h3
            obtain ⟨h4, h5⟩ := andB_true h4
            exact E_take SE e1 h1 e2 h2 h3 h5 x
          · exact no_some h
        · split at h
          · rename_i e2
            obtain ⟨rfl, rfl, rfl⟩ := some3 h
            obtain ⟨h1, h2⟩ := andB_true ho
            obtain ⟨h2, h3⟩ := andB_true h2
            obtain ⟨h3, h4⟩ := andB_true h3
            obtain ⟨h4, h5⟩ := andB_true h4
            exact E_drop SE e1 h1 e2 h2 h3 h5 x
          · exact no_some h
        · split at h
          · rename_i e2
            obtain ⟨rfl, rfl, rfl⟩ := some3 h
            obtain ⟨h1, h2⟩ := andB_true ho
            exact E_rev SE e1 h1 e2 h2 x
          · exact no_some h
        · exact no_some h
      · exact no_some h
    · rw [stepE_sub hs] at h
      split at h
      · rename_i e1
        split at h
        · rename_i j n st2 o2 e2
          split at h
          · rename_i l e3
            cases hj : decide (0 ≤ j) with
            | false => rw [hj] at h; exact no_some h
            | true =>
              rw [hj, cond_true] at h
              split at h
              · rename_i e4
                obtain ⟨rfl, rfl, rfl⟩ := some3 h
                obtain ⟨h1, h2⟩ := andB_true ho
                obtain ⟨h2, h3⟩ := andB_true h2
                exact E_item SE e1 h1 e2 h2 e3 hj e4 h3 x
              · exact no_some h
          · exact no_some h
        · exact no_some h
      · exact no_some h
  | Call f args ks cp =>
    cases ks with
    | cons k ks =>
      rw [stepE_callk] at h
      exact no_some h
    | nil =>
      cases f with
      | Name f np =>
        dsimp only [stepE] at h
        cases hg : isGlob sc f with
        | false => rw [hg] at h; exact no_some h
        | true =>
          rw [hg, cond_true] at h
          cases args with
          | nil => exact no_some h
          | cons a as =>
            simp only at h
            split at h
            · rename_i e1
              split at h
              · rename_i e2
                obtain ⟨rfl, rfl, rfl⟩ := some3 h
                obtain ⟨h1, h2⟩ := andB_true ho
                exact E_call G SE SS hg e1 h1 e2 h2 x
              · exact no_some h
            · exact no_some h
      | Attribute v m ap =>
        cases v with
        | Name n p1 =>
          cases args with
          | nil => exact no_some h
          | cons a t =>
            cases t with
            | cons _ _ => exact no_some h
            | nil =>
              dsimp only [stepE] at h
              cases hc : andB (m == ("append" : Str)) (andB (Nat.beq ap.endLine cp.line) (noStar a)) with
              | false => rw [hc] at h; exact no_some h
              | true =>
                rw [hc, cond_true] at h
                obtain ⟨c1, c2⟩ := andB_true hc
                obtain ⟨c2, c3⟩ := andB_true c2
                cases hl : isLocal sc n with
                | false => rw [hl] at h; exact no_some h
                | true =>
                  rw [hl, cond_true] at h
                  split at h
                  · rename_i k hv
                    cases he : ((st.sto[k]?).getD none).isSome with
                    | false => rw [he] at h; exact no_some h
                    | true =>
                      rw [he, cond_true] at h
                      split at h
                      · rename_i d' st1 o1 e1
                        split at h
                        · rename_i l e2
                          cases hz : Nat.ble l.length 1000 with
                          | false => rw [hz] at h; exact no_some h
                          | true =>
                            rw [hz] at h
                            obtain ⟨rfl, rfl, rfl⟩ := some3 h
                            exact E_append SE c1 c2 c3 hl hv he e1 ho e2 hz x
                        · exact no_some h
                      · exact no_some h
                  · exact no_some h
        | _ => exact no_some h
      | _ => exact no_some h
  | ListComp elt gens scope p =>
    obtain ⟨target, iter, ifs, rfl⟩ := listcomp_one h
    have key : stepE c self sc vs st (.ListComp elt [⟨target, iter, ifs, 0⟩] scope p) = cond (compOk scope sc) (match evIt self sc vs st iter with
      | some (it, st1, o1) => (match self.C scope.names (freeVars vs scope.names) st1 target ifs elt it [] with
        | some (l, st2, o2) => newLst c p l st2 (andB o1 o2)
        | none => none)
      | none => none) none := rfl
    rw [key] at h
    cases hok : compOk scope sc with
    | false => rw [hok] at h; exact no_some h
    | true =>
      rw [hok, cond_true] at h
      split at h
      · rename_i e1
        split at h
        · rename_i l st2 o2 e2
          have hz : o = andB _ o2 := newLst_o h
          obtain ⟨h1, h2⟩ := andB_true (hz ▸ ho)
          exact E_listcomp G SE SC hok e1 h1 e2 h2 h x
        · exact no_some h
      · exact no_some h
  | _ => exact no_some h
end
end Mine
end

section
set_option autoImplicit false
set_option linter.unusedVariables false
namespace Mine
open PySem PySem.Calls PyProof.Rows

section
variable {prog : Program} {w : World} {h₀ h : Heap} {c : Cfg} {K : Nat} {mg mb : Str → Option Value} {self : Self} {env : Env}

noncomputable def isOther : Expr → Bool
  | .UnaryOp .. => false
  | .BoolOp .. => false
  | .IfExp .. => false
  | .Compare .. => false
  | _ => true
theorem T_kinds (e : Expr) : (∃ op x p, e = .UnaryOp op x p) ∨ (∃ op l p, e = .BoolOp op l p) ∨ (∃ l op r p, e = .Compare l op r p) ∨ (∃ t a b p, e = .IfExp t a b p) ∨ isOther e = true := by
  cases e <;> first | exact .inr (.inr (.inr (.inr rfl))) | exact .inl ⟨_, _, _, rfl⟩ | exact .inr (.inl ⟨_, _, _, rfl⟩) | exact .inr (.inr (.inl ⟨_, _, _, _, rfl⟩)) | exact .inr (.inr (.inr (.inl ⟨_, _, _, _, rfl⟩)))
theorem stepT_other {sc : Sc} {vs : Vars} {st : St} {e : Expr} (hk : isOther e = true) : stepT c self sc vs st e = (match self.E sc vs st e with
    | some (.bool b, st1, o1) => (match brk c e.pos b st1 with
      | some (b', st2, o2) => some (b', st2, andB o1 o2)
      | none => none)
    | _ => none) := by
  cases e <;> first | rfl | exact no_true hk
theorem isTrue_other {e : Expr} {whole : Sem Value} (hk : isOther e = true) : isTrue e env whole = (do let v ← whole; standAt e.pos; holding [v] (truthy v)) := by
  cases e <;> first | rfl | exact no_true hk

theorem T_ok (SE : SoundE prog w h₀ K self.E) (ST : SoundT prog w h₀ K self.T) : SoundT prog w h₀ K (stepT c self) := by
  intro sc vs st e b st' o h ho F env A s ρ x
  rcases T_kinds e with ⟨op, y, p, rfl⟩ | ⟨op, es, p, rfl⟩ | ⟨l, ops, rs, p, rfl⟩ | ⟨t, a1, a2, p, rfl⟩ | hk
  · cases op with
    | Not =>
      dsimp only [stepT] at h
      split at h
      · rename_i e1
        obtain ⟨rfl, rfl, rfl⟩ := some3 h
        refine wpAny_isTrue_Not (wpAny_mono (ST _ _ _ _ _ _ _ e1 ho _ _ _ _ _ x) (fun b' s1 hv => ?_) fun _ _ q => q)
        obtain ⟨rfl, q⟩ := hv
        exact ⟨by simp, q⟩
      · exact no_some h
    | _ => exact no_some h
  · cases es with
    | nil => exact no_some h
    | cons l t =>
      cases t with
      | nil => exact no_some h
      | cons r t =>
        cases t with
        | cons _ _ => exact no_some h
        | nil =>
          dsimp only [stepT] at h
          split at h
          · rename_i b1 st1 o1 e1
            refine wpAny_isTrue_BoolOp ?_
            have rest : ∀ o1', (match self.T sc vs st1 r with
              | some (d, st2, o2) => some (d, st2, andB o1' o2)
              | none => none) = some (b, st', o) → ∀ s1 ρ1, Ev h₀ F nobody s ρ st.sto s1 ρ1 st1.sto → st1.dep = st.dep → o1' = true ∧ wpAny (model prog w) A (isTrue r env (eval r env)) (PT h₀ F s ρ st b st') no s1 := fun o1' h s1 ρ1 ev1 d1 => by
              split at h
              · rename_i e2
                obtain ⟨rfl, rfl, rfl⟩ := some3 h
                obtain ⟨h1, h2⟩ := andB_true ho
                refine ⟨h1, wpAny_mono (ST _ _ _ _ _ _ _ e2 h2 _ _ _ _ _ (x.step ev1 d1)) (fun b' s2 hv => ?_) fun _ _ q => q⟩
                obtain ⟨rfl, ρ2, ev2, d2⟩ := hv
                exact ⟨rfl, ρ2, ev1.trans ev2, d2.trans d1⟩
              · exact no_some h
            have ho1 : o1 = true := by
              have r2 : (match self.T sc vs st1 r with
                | some (d, st2, o2) => some (d, st2, andB o1 o2)
                | none => none) = some (b, st', o) → o1 = true := fun h => by
                split at h
                · simp at h
                  obtain ⟨_, _, rfl⟩ := h
                  exact (andB_true ho).1
                · exact no_some h
              cases op <;> cases b1 <;> first | exact r2 h | (simp at h; rw [h.2.2]; exact ho)
            have one : ∀ (b2 : Bool) (s2 : Shared), PT h₀ F s ρ st b st' b2 s2 → b2 = b := fun b2 s2 q => q.1
            cases op with
            | And =>
              refine wpAny_allTrue_And_cons (wpAny_mono (ST _ _ _ _ _ _ _ e1 ho1 _ _ _ _ _ x) (fun b' s1 hv => ?_) fun _ _ q => q)
              obtain ⟨rfl, ρ1, ev1, d1⟩ := hv
              cases b' with
              | false =>
                obtain ⟨rfl, rfl, rfl⟩ := some3 h
                exact ⟨rfl, ρ1, ev1, d1⟩
              | true =>
                simp only [if_true]
                refine wpAny_allTrue_And_cons (wpAny_mono (rest o1 h s1 ρ1 ev1 d1).2 (fun b'' s2 hv => ?_) fun _ _ q => q)
                cases b'' with
                | false => exact hv
                | true => exact wpAny_allTrue_And_nil hv
            | Or =>
              rw [arm_allTrue_cons]
              refine wpAny_bind (wpAny_mono (ST _ _ _ _ _ _ _ e1 ho1 _ _ _ _ _ x) (fun b' s1 hv => ?_) fun _ _ q => q)
              obtain ⟨rfl, ρ1, ev1, d1⟩ := hv
              cases b' with
              | true =>
                obtain ⟨rfl, rfl, rfl⟩ := some3 h
                exact wpAny_pure ⟨rfl, ρ1, ev1, d1⟩
              | false =>
                show wpAny _ A (allTrue .Or [r] env) _ _ _
                rw [arm_allTrue_cons]
                refine wpAny_bind (wpAny_mono (rest o1 h s1 ρ1 ev1 d1).2 (fun b'' s2 hv => ?_) fun _ _ q => q)
                cases b'' with
                | true => exact wpAny_pure hv
                | false => exact wpAny_allTrue_Or_nil hv
          · exact no_some h
  · cases ops with
    | nil => exact no_some h
    | cons op t =>
      cases t with
      | cons _ _ => exact no_some h
      | nil =>
        cases rs with
        | nil => exact no_some h
        | cons r t =>
          cases t with
          | cons _ _ => exact no_some h
          | nil =>
            dsimp only [stepT] at h
            split at h
            · rename_i e1
              split at h
              · rename_i e2
                split at h
                · rename_i e3
                  split at h
                  · rename_i e4
                    obtain ⟨rfl, rfl, rfl⟩ := some3 h
                    obtain ⟨h1, h2⟩ := andB_true ho
                    obtain ⟨h2, h3⟩ := andB_true h2
                    obtain ⟨rfl, b1, b2⟩ := brk_ok e4 h3
                    refine wpAny_isTrue_Compare1 (wpAny_mono (SE _ _ _ _ _ _ _ e1 h1 _ _ _ _ _ x) (fun va s1 hv => ?_) fun _ _ q => q) (behind_false (cmp_not_in e3))
                    obtain ⟨ρ1, ev1, r1, d1⟩ := hv
                    refine wpAny_mono (SE _ _ _ _ _ _ _ e2 h2 _ _ _ _ _ (x.step ev1 d1)) (fun vb s2 hv => ?_) fun _ _ q => q
                    obtain ⟨ρ2, ev2, r2, d2⟩ := hv
                    exact cmp_ok x.aok e3 (Rep.mono (ev2.grows0 ev1.inv) _ _ r1) r2 (wpAny_truthy_bool ⟨rfl, ρ2, b1 ▸ ev1.trans ev2, b2.trans (d2.trans d1)⟩)
                  · exact no_some h
                · exact no_some h
              · exact no_some h
            · exact no_some h
  · exact no_some h
  · rw [stepT_other hk] at h
    split at h
    · rename_i b1 st1 o1 e1
      split at h
      · rename_i e2
        obtain ⟨rfl, rfl, rfl⟩ := some3 h
        obtain ⟨h1, h2⟩ := andB_true ho
        obtain ⟨rfl, b1, b2⟩ := brk_ok e2 h2
        refine wpAny_isTrue_value (wpAny_mono (SE _ _ _ _ _ _ _ e1 h1 _ _ _ _ _ x) (fun v s1 hv => ?_) fun _ _ q => q) (isTrue_other hk)
        obtain ⟨ρ1, ev1, r1, d1⟩ := hv
        have r1 : v = .bool _ := r1
        subst r1
        exact wpAny_truthy_bool ⟨rfl, ρ1, b1 ▸ ev1, b2.trans d1⟩
      · exact no_some h
    · exact no_some h
end
end Mine
end

section
set_option autoImplicit false
set_option linter.unusedVariables false
namespace Mine
open PySem PySem.Calls PyProof.Rows

section
variable {prog : Program} {w : World} {h₀ h : Heap} {c : Cfg} {K : Nat} {mg mb : Str → Option Value} {F own : Addr → Prop} {env : Env} {A : Around} {s s' s'' : Shared} {ρ ρ' : List Addr} {σ σ' : Sto} {sc : Sc} {vs vs' vs1 : Vars} {st st' st1 st2 st3 : St}
  {self : Self} {o o1 o2 o3 : Bool} {d : D} {M : Addr → Prop}

theorem cond_two {α : Type} {b : Bool} {u v x : α} (h : cond b u v = x) : (b = true ∧ u = x) ∨ (b = false ∧ v = x) := by
  cases b
  · exact .inr ⟨rfl, h⟩
  · exact .inl ⟨rfl, h⟩

theorem distinct_dups : ∀ {l : List Str}, distinct l = true → l.eraseDups = l
  | [], _ => rfl
  | x :: r, h => by
    unfold distinct at h
    obtain ⟨h1, h2⟩ := andB_true h
    rw [List.eraseDups_cons]
    have : r.filter (fun b => !b == x) = r := by
      rw [List.filter_eq_self]
      intro a ha
      simp at h1
      simp
      rintro rfl
      exact h1 ha
    rw [this, distinct_dups h2]

theorem real_names (f : Fm h₀ env sc vs h M ρ) (line : Nat) : ∀ (ts : List Expr), (∀ x p, Expr.Name x p ∈ ts → isStore sc x = true) →
    (ts.filterMap fun | .Name id pos => if env.kindOf id == some .local && pos.line == line then some id else none | _ => none) = swNames sc line ts
  | [], _ => rfl
  | t :: ts, hs => by
    have ih := real_names f line ts fun x p m => hs x p (List.mem_cons_of_mem _ m)
    rw [List.filterMap_cons]
    cases t with
    | Name x p =>
      have hb : (p.line == line) = Nat.beq p.line line := by
        cases q : Nat.beq p.line line with
        | true => rw [Nat.eq_of_beq_eq_true q]; simp
        | false =>
          have : p.line ≠ line := fun e => by rw [e, Nat.beq_refl] at q; cases q
          simpa using this
      simp only [swNames, hb]
      rcases isStore_cases (hs x p List.mem_cons_self) with e | e
      · rw [f.loc x e, e]
        cases q : Nat.beq p.line line with
        | true => simpa [andB] using ih
        | false => simpa [andB] using ih
      · rw [(f.cel x e).1, e]
        simpa [andB] using ih
    | _ => exact ih

noncomputable def isStar : Expr → Bool
  | .Starred .. => true
  | _ => false

theorem stores_eq (f : Fm h₀ env sc vs h M ρ) {ts es : List Expr} {k k' : Nat} {p p' : Pos} (hs : ∀ x p, Expr.Name x p ∈ ts → isStore sc x = true) :
    swappedStores [.Tuple ts k p] (.Tuple es k' p') env =
      if (!(ts.length == 2 || ts.length == 3) || es.length != ts.length) = true then pure none else
      if (es.any isStar) = true then pure none else
      if ((swNames sc (headLine ts) ts).length != ts.length || (swNames sc (headLine ts) ts).eraseDups.length != (swNames sc (headLine ts) ts).length) = true then pure none else
      if (es.all (foldedForSure 8)) = true then pure none else
      if (es.all (constantsAlone 8)) = true then unsupported "assign.tuple-of-constant-expressions:order-of-the-stores" else pure (some (swNames sc (headLine ts) ts)) := by
  have hk : (env.blockKind != .function) = false := by unfold Env.blockKind; rw [f.kind]; rfl
  have hl : ((ts.head?.map (·.pos.line)).getD 0) = headLine ts := by cases ts <;> rfl
  have rn := real_names f (headLine ts) ts hs
  have hst : (fun e : Expr => match e with | .Starred .. => true | _ => false) = isStar := by funext e; cases e <;> rfl
  unfold swappedStores
  simp only [hk, hl, Bool.or_false]
  rw [← rn, ← hst]
  rfl

theorem star_swap (es : List Expr) : (es.any fun | .Starred .. => true | _ => false) = es.any isStar := by
  congr 1

theorem stores_none {ts : List Expr} {k : Nat} {p : Pos} {value : Expr} (hne : ∀ es k p, value = .Tuple es k p → False) : swappedStores [.Tuple ts k p] value env = pure none := by
  cases value <;> first | rfl | exact absurd rfl (hne _ _ _)
theorem swap_ok (f : Fm h₀ env sc vs h M ρ) {ts : List Expr} {value : Expr} {r : Option (List Str)} {k : Nat} {p : Pos} (e : swap? sc ts value = some r) (hs : ∀ x p, Expr.Name x p ∈ ts → isStore sc x = true) :
    swappedStores [.Tuple ts k p] value env = pure r ∧ ∀ names, r = some names → names = swNames sc (headLine ts) ts ∧ names.length = ts.length := by
  unfold swap? at e
  split at e
  · rename_i es k' p'
    simp only at e
    rw [stores_eq f hs]
    generalize swNames sc (headLine ts) ts = names at *
    rcases cond_two e with ⟨c1, e⟩ | ⟨c1, e⟩
    · rcases cond_two e with ⟨c2, e⟩ | ⟨c2, e⟩
      · injection e with e; subst e
        obtain ⟨a1, c1⟩ := andB_true c1
        obtain ⟨a2, c1⟩ := andB_true c1
        obtain ⟨a3, a4⟩ := andB_true c1
        obtain ⟨b1, c2⟩ := andB_true c2
        obtain ⟨b2, c2⟩ := andB_true c2
        obtain ⟨b3, b4⟩ := andB_true c2
        have a1 := Nat.eq_of_beq_eq_true a1
        have a2 := Nat.le_of_ble_eq_true a2
        have a3 := Nat.le_of_ble_eq_true a3
        have a4 := Nat.eq_of_beq_eq_true a4
        rw [Bool.not_eq_true'] at b2 b3 b4
        have b4 : es.any isStar = false := by rw [← b4]; exact (star_swap es).symm
        have h2 : (!(ts.length == 2 || ts.length == 3) || es.length != ts.length) = false := by
          rw [a1]
          have : es.length = 2 ∨ es.length = 3 := by omega
          rcases this with q | q <;> rw [q] <;> rfl
        have h3 : (names.length != ts.length || names.eraseDups.length != names.length) = false := by rw [distinct_dups b1, a4]; simp
        rw [h2, b4, h3, b2, b3]
        exact ⟨rfl, fun n q => by injection q with q; subst q; exact ⟨rfl, a4⟩⟩
      · first | exact no_some e | cases e
    · injection e with e; subst e
      refine ⟨?_, fun n q => (nomatch q)⟩
      split
      · rfl
      · rename_i g1
        split
        · rfl
        · split
          · rfl
          · rename_i g3
            exfalso
            simp at g1 g3
            have l1 : Nat.beq ts.length es.length = true := by rw [g1.2, Nat.beq_refl]
            have l2 : Nat.ble 2 ts.length = true := by rcases Decidable.or_iff_not_imp_left.mpr g1.1 with q | q <;> rw [q] <;> rfl
            have l3 : Nat.ble ts.length 3 = true := by rcases Decidable.or_iff_not_imp_left.mpr g1.1 with q | q <;> rw [q] <;> rfl
            have l4 : Nat.beq names.length ts.length = true := by rw [g3.1, Nat.beq_refl]
            rw [l1, l2, l3, l4] at c1
            cases c1
  · rename_i hne
    injection e with e; subst e
    exact ⟨stores_none hne, fun n q => (nomatch q)⟩

theorem asgs_store : ∀ (ts : List Expr) (vs : Vars) (st : St) (ds : List D) (vs' : Vars) (st' : St) (o : Bool), asgs self sc vs st ts ds = some (vs', st', o) → ∀ x p, Expr.Name x p ∈ ts → isStore sc x = true
  | [], vs, st, [], vs', st', o, e, x, p, m => by cases m
  | [], vs, st, _ :: _, vs', st', o, e, x, p, m => by cases m
  | _ :: _, vs, st, [], vs', st', o, e, x, p, m => by simp [asgs] at e
  | t :: ts, vs, st, d :: ds, vs', st', o, e, x, p, m => by
    unfold asgs at e
    split at e
    · rename_i vs1 st1 o1 e1
      split at e
      · rename_i e2
        rcases List.mem_cons.mp m with rfl | m
        · unfold asg1 at e1
          cases q : isStore sc x with
          | true => rfl
          | false => simp only [q] at e1; cases e1
        · exact asgs_store ts _ _ _ _ _ _ e2 x p m
      · first | exact no_some e | cases e
    · first | exact no_some e | cases e

variable (prog w h₀ K) in
noncomputable def SoundU (E : Sc → Vars → St → Expr → Option (D × St × Bool)) : Prop := ∀ sc vs st e d st' o, E sc vs st e = some (d, st', o) → o = true → (∃ elt gens scope p, e = .ListComp elt gens scope p) → ∀ F env A s ρ, Cx h₀ K F env A s ρ sc vs st →
  ∀ y py, isStore sc y = true → wpAny (model prog w) A (evalThenUse e env (assign (.Name y py) env)) (fun _ s' => PA h₀ F env s ρ sc st (setV vs y d) st' s') no s

theorem U_ok (G : Gd prog w h₀ c K mg mb) (SE : SoundE prog w h₀ K self.E) (SC : SoundC prog w h₀ K self.C) : SoundU prog w h₀ K (stepE c self) := by
  rintro sc vs st e d st' o h ho ⟨elt, gens, scope, p, rfl⟩ F env A s ρ x y py hy
  obtain ⟨target, iter, ifs, rfl⟩ : ∃ target iter ifs, gens = [⟨target, iter, ifs, 0⟩] := listcomp_one h
  have key : stepE c self sc vs st (.ListComp elt [⟨target, iter, ifs, 0⟩] scope p) = cond (compOk scope sc) (match evIt self sc vs st iter with
    | some (it, st1, o1) => (match self.C scope.names (freeVars vs scope.names) st1 target ifs elt it [] with
      | some (l, st2, o2) => newLst c p l st2 (andB o1 o2)
      | none => none)
    | none => none) none := rfl
  rw [key] at h
  · rcases cond_two h with ⟨hok, h⟩ | ⟨_, h⟩
    · split at h
      · rename_i it st1 o1 e1
        split at h
        · rename_i l st2 o2 e2
          have hz := newLst_o h
          obtain ⟨h1, h2⟩ := andB_true (hz ▸ ho)
          show wpAny _ A (comprehension _ scope env _ (newList []) false (eval iter env) (some (assign (.Name y py) env)) >>= fun _ => pure ()) _ _ s
          refine wpAny_bind (wpAny_mono (comp_run (Q := fun _ s' => PA h₀ F env s ρ sc st (setV vs y d) st' s') G SE SC hok e1 h1 e2 h2 x (use := some (assign (.Name y py) env)) fun L C s' ρ2 vals m ce hm hC h0 => ?_) (fun _ s' q => wpAny_pure q) fun _ _ q => q)
          obtain ⟨ρ3, ev3, r3, d3⟩ := ce.pe x.inv h
          have fm3 := x.fm.mono0 x.inv ev3
          show wpAny _ A (assign (.Name y py) env (.ref L)) _ _ _
          refine wpAny_assign_Name (store_var ev3.inv fm3 hy r3 fun s4 ev4 fm4 => ?_)
          have nOwn : ¬ Own env sc C := by
            rintro (q | ⟨n, q1, q2⟩)
            · obtain ⟨m, n, _⟩ := x.fm.ns
              obtain ⟨o', _, _, e', _⟩ := n
              rw [← q, hC] at e'; cases e'
            · obtain ⟨_, c', ov, e1, ⟨o', e2, _⟩, _⟩ := x.fm.cel n q1
              rw [e1] at q2; cases q2
              rw [hC] at e2; cases e2
          have hm4 : s4.heap.Ns C m := hm.at' fun o e => ev4.keep C o e (ev3.inv.not_ns hm) nOwn
          refine ⟨m, hm4, fun h' hs => ?_⟩
          have I4 := ev4.inv
          have still : ∀ b o, s4.heap.get? b = some o → Still o → h'.get? b = some o := fun b o e hst => hs.extBut b o (fun q => by subst q; exact ns_still hm4 e hst) e
          have base : ∀ b o, h₀.get? b = some o → h'.get? b = some o := fun b o e => hs.extBut b o (fun q => by rw [q, h0] at e; cases e) (I4.base b o e)
          have D1 : EvD h₀ F (fun b => b = C) [C] s4 ρ3 st'.sto { s4 with heap := h' } ρ3 st'.sto := ⟨⟨_, s4.toks, rfl⟩, fun b o e _ n => hs.extBut b o n e, fun _ m => .inl m, ⟨[], by simp⟩, fun b o e => by
            by_cases q : b = C
            · exact .inl (by simp [q])
            · exact .inr ⟨o, hs.extBut b o q e⟩, I4.keeps still base⟩
          have fm5 := fm4.monoD I4 D1 (fun b o q e => .inl fun hst => by subst q; exact ns_still hm4 e hst) (fun q => by
            obtain ⟨m', n', _⟩ := x.fm.ns
            obtain ⟨o', _, _, e', _⟩ := n'
            have q : env.locals = C := q
            rw [q, hC] at e'; cases e') fun cc ov hc q => by
              subst q
              obtain ⟨o', e1, e2⟩ := hc
              obtain ⟨o2, _, _, e3, e4, _⟩ := hm4
              rw [e1] at e3; cases e3
              rw [e2] at e4; cases e4
          have total := ((ev3.widen (own' := fun b => Own env sc b ∨ b = C) fun _ q => q.elim).trans (ev4.widen fun _ q => .inl q)).thenD (fp := [C]) ⟨D1.same, fun b o e m n => D1.keep b o e m fun q => n (.inr q), D1.grow, D1.pre, D1.alive, D1.inv⟩
          exact ⟨ρ3, total.close (fun a q => q.elim .inl fun (q : a = C) => .inr (by rw [q]; exact hC)) (fun b hb => by simp at hb; exact hb ▸ hC), fm5, d3⟩
        · exact no_some h
      · exact no_some h
    · exact no_some h
end
end Mine
end

section
set_option autoImplicit false
set_option linter.unusedVariables false
namespace Mine
open PySem PySem.Calls PyProof.Rows

section
variable {prog : Program} {w : World} {h₀ h : Heap} {c : Cfg} {K : Nat} {mg mb : Str → Option Value} {F own : Addr → Prop} {env : Env} {A : Around} {s s' s'' : Shared} {ρ ρ' : List Addr} {σ σ' : Sto} {sc : Sc} {vs vs' vs1 : Vars} {st st' st1 st2 st3 : St}
  {self : Self} {o o1 o2 o3 : Bool} {d : D} {M : Addr → Prop}

theorem swaps_two {elt : Expr} {gens : List Comprehension} {scope : Scope} {q : Pos} {x : Str} {p : Pos} {line : Nat} : ∃ b, swapsWith (.ListComp elt gens scope q) (some (.Name x p)) line env = pure b := ⟨_, rfl⟩

noncomputable def isComp : Expr → Bool
  | .ListComp .. => true
  | .SetComp .. => true
  | .DictComp .. => true
  | _ => false

theorem sw_le (line : Nat) : ∀ (ts : List Expr), (swNames sc line ts).length ≤ ts.length
  | [] => Nat.le_refl _
  | t :: ts => by
    have ih := sw_le line ts
    cases t with
    | Name x p =>
      simp only [swNames]
      split
      all_goals
        cases Nat.beq p.line line <;> simp [andB] <;> omega
    | _ => exact Nat.le_succ_of_le ih
theorem sw_all (line : Nat) : ∀ (ts : List Expr), (swNames sc line ts).length = ts.length → ∀ x p, Expr.Name x p ∈ ts → isStore sc x = true
  | [], _, x, p, m => by cases m
  | t :: ts, e, x, p, m => by
    have le := sw_le (sc := sc) line ts
    cases t with
    | Name y q =>
      simp only [swNames] at e
      have key : ∀ b, (cond b (y :: swNames sc line ts) (swNames sc line ts)).length = ts.length + 1 → b = true ∧ (swNames sc line ts).length = ts.length := fun b e => by
        cases b with
        | true => exact ⟨rfl, by simpa using e⟩
        | false => simp at e; omega
      obtain ⟨c1, e'⟩ := key _ e
      have hy : isStore sc y = true := by
        have := (andB_true c1).1
        unfold isStore
        split at this
        · rename_i q; rw [q]
        · first | exact no_some this | cases this
      rcases List.mem_cons.mp m with q | m
      · cases q; exact hy
      · exact sw_all line ts e' x p m
    | _ => exact absurd (show (swNames sc line ts).length = ts.length + 1 from e) (Nat.ne_of_lt (Nat.lt_succ_of_le le))

theorem asgN_len : ∀ (ns : List Str) (vs : Vars) (ds : List D) (vs' : Vars), asgN sc vs ns ds = some vs' → ns.length = ds.length
  | [], _, [], _, _ => rfl
  | [], _, _ :: _, _, e => by simp [asgN] at e
  | _ :: _, _, [], _, e => by simp [asgN] at e
  | n :: ns, vs, d :: ds, vs', e => by
    unfold asgN at e
    rcases cond_two e with ⟨_, e⟩ | ⟨_, e⟩
    · rw [List.length_cons, List.length_cons, asgN_len ns _ ds vs' e]
    · first | exact no_some e | cases e

theorem swap_len {ts : List Expr} {value : Expr} {names : List Str} (e : swap? sc ts value = some (some names)) : (swNames sc (headLine ts) ts).length = ts.length := by
  unfold swap? at e
  split at e
  · rcases cond_two e with ⟨c1, e⟩ | ⟨c1, e⟩
    · obtain ⟨a1, c1⟩ := andB_true c1
      obtain ⟨a2, c1⟩ := andB_true c1
      obtain ⟨a3, a4⟩ := andB_true c1
      exact Nat.eq_of_beq_eq_true a4
    · first | exact no_some e | cases e
  · first | exact no_some e | cases e

theorem PA.ps {vs2 : Vars} (a : PA h₀ F env s ρ sc st vs2 st2 s') : PS h₀ F env (Own env sc) s ρ sc st .next vs2 st2 .next s' := let ⟨ρ', ev, fm, d⟩ := a; ⟨ρ', ev, fm, .next, d⟩

theorem PA.after {vs2 : Vars} {ρ1 : List Addr} {s1 : Shared} (ev : Ev h₀ F nobody s ρ st.sto s1 ρ1 st1.sto) (d1 : st1.dep = st.dep) (a : PA h₀ F env s1 ρ1 sc st1 vs2 st2 s') : PA h₀ F env s ρ sc st vs2 st2 s' :=
  let ⟨ρ', ev2, fm, d2⟩ := a; ⟨ρ', (ev.widen fun _ q => q.elim).trans ev2, fm, d2.trans d1⟩

theorem valE_ok (SE : SoundE prog w h₀ K self.E) {t value : Expr} (e : valE self sc vs st t value = some (d, st1, o1)) (ho : o1 = true) (x : Cx h₀ K F env A s ρ sc vs st) :
    wpAny (model prog w) A (eval value env) (PE h₀ F s ρ st d st1) no s := by
  unfold valE at e
  split at e
  · split at e
    · rename_i e1
      obtain ⟨rfl, rfl, rfl⟩ := some3 e
      obtain ⟨h1, h2⟩ := andB_true ho
      exact E_tup0 SE e1 h1 h2 x
    · first | exact no_some e | cases e
  · exact SE _ _ _ _ _ _ _ e ho _ _ _ _ _ x

theorem sole_tuple {ts : List Expr} {k : Nat} {p : Pos} {value : Expr} {line : Nat} : swapsWithSole [.Tuple ts k p] value line env = pure false := by cases value <;> rfl
theorem sole_sub {a i : Expr} {p : Pos} {value : Expr} {line : Nat} : swapsWith value (some (.Subscript a i p)) line env = pure false := by cases value <;> rfl
theorem valE_name {sc : Sc} {vs : Vars} {st : St} {y : Str} {py : Pos} {value : Expr} : valE self sc vs st (.Name y py) value = self.E sc vs st value := by cases value <;> rfl
theorem valE_sub {sc : Sc} {vs : Vars} {st : St} {a i : Expr} {p : Pos} {value : Expr} : valE self sc vs st (.Subscript a i p) value = self.E sc vs st value := by cases value <;> rfl
theorem comp_plain {value : Expr} {y : Str} {py : Pos} {line : Nat} (hc : isComp value = false) : swapsWith value (some (.Name y py)) line env = pure false := by
  cases value <;> first | rfl | exact no_true hc.symm
theorem comp_list {value : Expr} (hc : isComp value = true) (hsd : notSD value = true) : ∃ elt gens scope q, value = .ListComp elt gens scope q := by
  cases value <;> first | exact ⟨_, _, _, _, rfl⟩ | exact no_true hc | exact no_true hsd
theorem S_ok (G : Gd prog w h₀ c K mg mb) (SE : SoundE prog w h₀ K self.E) (SU : SoundU prog w h₀ K self.E) (ST : SoundT prog w h₀ K self.T) (SS : SoundS prog w h₀ K self.S) (SF : SoundF prog w h₀ K self.F) (SW : SoundW prog w h₀ K self.W) :
    SoundS prog w h₀ K (stepS c self) := by
  intro sc vs st t f vs' st' o h ho F env A s ρ x
  cases t with
  | Assign ts value pos =>
    cases ts with
    | nil => exact no_some h
    | cons t tt =>
      cases tt with
      | cons _ _ => exact no_some h
      | nil =>
        dsimp only [stepS] at h
        split at h
        · rename_i d st1 o1 e1
          obtain ⟨hsd, e1⟩ : notSD value = true ∧ valE self sc vs st t value = some (d, st1, o1) := by
            rcases cond_two e1 with ⟨q1, q2⟩ | ⟨_, q2⟩
            · exact ⟨q1, q2⟩
            · first | exact no_some q2 | cases q2
          split at h
          · rename_i ts k p e1
            have hsw : swapsWithSole [.Tuple ts k p] value pos.line env = pure false := sole_tuple
            split at h
            · rename_i ds es ed
              split at h
              · rename_i vs2 st2 o2 e2
                obtain ⟨rfl, rfl, rfl, rfl⟩ := some4 h
                obtain ⟨h1, h2⟩ := andB_true ho
                refine Assign_Tuple (wpAny_mono (valE_ok SE e1 h1 x) (fun v s1 hv => ?_) fun _ _ q => q) hsw (swap_ok x.fm es (asgs_store _ _ _ _ _ _ _ e2)).1
                obtain ⟨ρ1, ev1, r1, d1⟩ := hv
                exact wpAny_mono (asgT_ok SE ed e2 h2 (x.step ev1 d1) r1) (fun _ s2 q => (PA.after ev1 d1 q).ps) fun _ _ q => q
              · exact no_some h
            · rename_i names ds es ed
              split at h
              · rename_i vs2 e2
                obtain ⟨rfl, rfl, rfl, rfl⟩ := some4 h
                have hst : ∀ x p, Expr.Name x p ∈ ts → isStore sc x = true := sw_all _ _ (swap_len es)
                obtain ⟨hw, hn⟩ := swap_ok (k := k) (p := p) x.fm es hst
                refine Assign_Tuple_swapped (wpAny_mono (valE_ok SE e1 ho x) (fun v s1 hv => ?_) fun _ _ q => q) hsw hw
                obtain ⟨ρ1, ev1, r1, d1⟩ := hv
                obtain ⟨a, ws, rfl, ht, rl⟩ := seqOf_rep ed r1
                have hlen : names.length = ws.toArray.size := by
                  have := asgN_len _ _ _ _ e2
                  rw [List.size_toArray, rl.length]
                  simpa using this
                rw [hlen]
                refine wpAny_unpackItems_tuple x.aok.hh ht fun h' he => ?_
                have X : Ev h₀ F nobody s1 ρ1 st1.sto { s1 with heap := h' } ρ1 st1.sto := Ev.of_keep ev1.inv (tk := s1.toks) fun b o eb => he b o (Nat.ne_of_lt (Heap.lt_size eb)) eb
                have evX := ev1.trans X
                refine wpAny_mono (asgN_ok names.reverse vs ds.reverse vs2 { s1 with heap := h' } ws.reverse e2 (x.step evX d1) (Reps.mono (X.grows0 ev1.inv) _ _ rl).reverse) (fun _ s2 q => (PA.after evX d1 q).ps) fun _ _ q => q
              · exact no_some h
            · exact no_some h
          · split at h
            · rename_i vs2 st2 o2 e2
              obtain ⟨rfl, rfl, rfl, rfl⟩ := some4 h
              obtain ⟨h1, h2⟩ := andB_true ho
              have gen : ∀ v s1, PE h₀ F s ρ st d st1 v s1 → wpAny (model prog w) A (assign t env v) (fun _ s2 => PS h₀ F env (Own env sc) s ρ sc st .next vs2 st2 .next s2) no s1 := fun v s1 hv => by
                obtain ⟨ρ1, ev1, r1, d1⟩ := hv
                exact wpAny_mono (asg1_ok SE e2 h2 (x.step ev1 d1) r1) (fun _ s2 q => (PA.after ev1 d1 q).ps) fun _ _ q => q
              cases t with
              | Name y py =>
                have e1 : self.E sc vs st value = some (d, st1, o1) := valE_name.symm.trans e1
                have plain : swapsWith value (some (.Name y py)) pos.line env = pure false → wpAny (model prog w) A (exec (.Assign [.Name y py] value pos) env) (PS h₀ F env (Own env sc) s ρ sc st .next vs2 st2) no s := fun hs => by
                  refine wpAny_Assign_Name (wpAny_mono (SE _ _ _ _ _ _ _ e1 h1 _ _ _ _ _ x) (fun v s1 hv => ?_) fun _ _ q => q) hs
                  unfold asg1 at e2
                  rcases cond_two e2 with ⟨hy, e2⟩ | ⟨_, e2⟩
                  · simp at e2
                    obtain ⟨rfl, rfl, _⟩ := e2
                    obtain ⟨ρ1, ev1, r1, d1⟩ := hv
                    exact store_var ev1.inv (x.step ev1 d1).fm hy r1 fun s2 ev2 fm2 => ⟨ρ1, (ev1.widen fun _ q => q.elim).trans ev2, fm2, .next, d1⟩
                  · first | exact no_some e2 | cases e2
                cases hc : isComp value with
                | false => exact plain (comp_plain hc)
                | true =>
                  obtain ⟨elt, gens, scope, q, rfl⟩ := comp_list hc hsd
                  obtain ⟨b, hb⟩ := swaps_two (env := env) (elt := elt) (gens := gens) (scope := scope) (q := q) (x := y) (p := py) (line := pos.line)
                  cases b with
                  | false => exact plain hb
                  | true =>
                    unfold asg1 at e2
                    rcases cond_two e2 with ⟨hy, e2⟩ | ⟨_, e2⟩
                    · simp at e2
                      obtain ⟨rfl, rfl, _⟩ := e2
                      rw [exec_Assign_Name_used _ _ _ _ hb]
                      exact wpAny_bind (wpAny_standAt (wpAny_bind (wpAny_mono (SU _ _ _ _ _ _ _ e1 h1 ⟨_, _, _, _, rfl⟩ _ _ _ _ _ x y py hy) (fun _ s2 q => wpAny_pure q.ps) fun _ _ q => q)))
                    · first | exact no_some e2 | cases e2
              | Subscript a i p =>
                have e1 : self.E sc vs st value = some (d, st1, o1) := valE_sub.symm.trans e1
                rw [exec_Assign_Subscript _ _ _ _ _ sole_sub]
                exact wpAny_bind (wpAny_standAt (wpAny_bind (wpAny_mono (SE _ _ _ _ _ _ _ e1 h1 _ _ _ _ _ x) (fun v s1 hv => wpAny_bind (wpAny_mono (gen v s1 hv) (fun _ s2 q => wpAny_pure q) fun _ _ q => q)) fun _ _ q => q)))
              | _ => exact no_some e2
            · exact no_some h
        · exact no_some h
  | Expr e pe =>
    cases e with
    | Call f2 as ks cp =>
      dsimp only [stepS] at h
      split at h
      · rename_i e1
        obtain ⟨rfl, rfl, rfl, rfl⟩ := some4 h
        refine wpAny_Expr (wpAny_mono (SE _ _ _ _ _ _ _ e1 ho _ _ _ _ _ x) (fun v s1 hv => ?_) fun _ _ q => q) (by unfold interactive; rw [x.fm.kind]; rfl)
        obtain ⟨ρ1, ev1, r1, d1⟩ := hv
        have r1 : v = .none := r1
        subst r1
        exact ⟨ρ1, ev1.widen fun _ q => q.elim, x.fm.mono0 x.inv ev1, .next, d1⟩
      · exact no_some h
    | _ => exact no_some h
  | If t1 a b p =>
    dsimp only [stepS] at h
    split at h
    · rename_i b st1 o1 e1
      split at h
      · rename_i e2
        obtain ⟨rfl, rfl, rfl, rfl⟩ := some4 h
        obtain ⟨h1, h2⟩ := andB_true ho
        refine wpAny_If (wpAny_mono (ST _ _ _ _ _ _ _ e1 h1 _ _ _ _ _ x) (fun b' s1 hv => ?_) fun _ _ q => q)
        obtain ⟨rfl, ρ1, ev1, d1⟩ := hv
        have := wpAny_mono (evSs_ok SS _ _ _ _ _ _ _ _ _ e2 h2 (x.step ev1 d1)) (fun fl s2 (hv : PS h₀ F env (Own env sc) s1 ρ1 sc st1 _ _ _ fl s2) => (let ⟨ρ2, ev2, fm2, rf, d2⟩ := hv; ⟨ρ2, (ev1.widen fun _ q => q.elim).trans ev2, fm2, rf, d2.trans d1⟩ : PS h₀ F env (Own env sc) s ρ sc st _ _ _ fl s2)) fun _ _ q => q
        cases b' with
        | true => exact this
        | false => exact this
      · exact no_some h
    · exact no_some h
  | Return e p =>
    cases e with
    | none => exact no_some h
    | some e =>
      dsimp only [stepS] at h
      split at h
      · rename_i e1
        obtain ⟨rfl, rfl, rfl, rfl⟩ := some4 h
        refine wpAny_Return_some (wpAny_mono (SE _ _ _ _ _ _ _ e1 ho _ _ _ _ _ x) (fun v s1 hv => ?_) fun _ _ q => q)
        obtain ⟨ρ1, ev1, r1, d1⟩ := hv
        exact ⟨ρ1, ev1.widen fun _ q => q.elim, x.fm.mono0 x.inv ev1, .ret r1, d1⟩
      · exact no_some h
  | Continue p =>
    dsimp only [stepS] at h
    simp at h
    obtain ⟨rfl, rfl, rfl, _⟩ := h
    exact wpAny_Continue ⟨ρ, Ev.refl x.inv, x.fm, .cont, rfl⟩
  | For target iter body orelse p =>
    cases orelse with
    | cons _ _ => exact no_some h
    | nil =>
      dsimp only [stepS] at h
      split at h
      · rename_i it st1 o1 e1
        split at h
        · rename_i e2
          obtain ⟨rfl, rfl, rfl, rfl⟩ := some4 h
          obtain ⟨h1, h2⟩ := andB_true ho
          refine wpAny_For (wpAny_mono (evIt_ok G SE e1 h1 x) (fun v s1 hv => wpAny_mono hv (fun u s2 hu => ?_) fun _ _ q => q) fun _ _ q => q) (evIt_fold e1)
          obtain ⟨ρ1, I, fp, rfl, ev1, ri, hfp, d1⟩ := hu
          refine codeAny_mono (SF _ _ _ _ _ _ _ _ _ _ e2 h2 F env A s2 ρ1 I fp (x.step ev1 d1) ri fun b hb => (hfp b hb).1) fun r s3 hr => ?_
          obtain ⟨fl, ρ3, rfl, evD, fm3, rf, d3⟩ := hr
          exact ⟨ρ3, ((ev1.widen fun _ q => q.elim).thenD evD).close (fun a q => q.imp id fun q => (hfp a q).2) (fun b hb => (hfp b hb).2), fm3, rf, d3.trans d1⟩
        · exact no_some h
      · exact no_some h
  | While t1 body orelse p =>
    cases orelse with
    | cons _ _ => exact no_some h
    | nil =>
      dsimp only [stepS] at h
      refine wpAny_While (codeAny_mono (SW _ _ _ _ _ _ _ _ _ h ho F env A s ρ x) fun r s1 hr => ?_)
      obtain ⟨fl, rfl, q⟩ := hr
      exact q
  | _ => exact no_some h
end
end Mine
end

section
set_option autoImplicit false
set_option linter.unusedVariables false
namespace Mine
open PySem PySem.Calls PyProof.Rows

section
variable {prog : Program} {w : World} {h₀ h : Heap} {c : Cfg} {K : Nat} {mg mb : Str → Option Value}

structure Sound (prog : Program) (w : World) (h₀ : Heap) (K : Nat) (sf : Self) : Prop where
  E : SoundE prog w h₀ K sf.E
  U : SoundU prog w h₀ K sf.E
  T : SoundT prog w h₀ K sf.T
  S : SoundS prog w h₀ K sf.S
  C : SoundC prog w h₀ K sf.C
  F : SoundF prog w h₀ K sf.F
  W : SoundW prog w h₀ K sf.W

theorem sound (G : Gd prog w h₀ c K mg mb) : ∀ n, Sound prog w h₀ K (ev c n)
  | 0 => ⟨(fun _ _ _ _ _ _ _ h => by cases h), (fun _ _ _ _ _ _ _ h => by cases h), (fun _ _ _ _ _ _ _ h => by cases h), (fun _ _ _ _ _ _ _ _ h => by cases h), (fun _ _ _ _ _ _ _ _ _ _ _ h => by cases h),
    (fun _ _ _ _ _ _ _ _ _ _ h => by cases h), (fun _ _ _ _ _ _ _ _ _ h => by cases h)⟩
  | n + 1 =>
    have X : Sound prog w h₀ K (forced (ev c n)) := by rw [forced_eq]; exact sound G n
    ⟨E_ok G X.E X.T X.S X.C, U_ok G X.E X.C, T_ok X.E X.T, S_ok G X.E X.U X.T X.S X.F X.W, C_ok X.E X.T X.C, F_ok X.E X.S X.F, W_ok X.T X.S X.W⟩

theorem contract (G : Gd prog w h₀ c K mg mb) {n dep : Nat} {ds : List Bool} {f : Str} {fn : FnRec} {args : List D} {d : D} {st' : St} {a : Addr}
    (hf : c.fns f = some fn) (ha : mg f = some (.ref a)) (hk : fn.keep = false) (e : runF (ev c n) ⟨[], ds, dep⟩ fn args = some (d, st', true)) : CallSpec prog w h₀ (K + dep) a args d := by
  obtain ⟨a', ob, params, pm, cd, doc, g1, g2, g3, g4, g5⟩ := G.fns f fn hf
  rw [ha] at g1; cases g1
  intro A s F vals hA I r
  have hs : st'.sto = [] := by
    unfold runF at e
    split at e
    · first | exact no_some e | cases e
    · rcases cond_two e with ⟨_, e⟩ | ⟨_, e⟩
      · split at e
        · rw [hk, cond_false] at e
          split at e
          · rcases cond_two e with ⟨_, e⟩ | ⟨_, e⟩
            · simp at e
              rw [← e.2.1]
            · first | exact no_some e | cases e
          · first | exact no_some e | cases e
        · first | exact no_some e | cases e
      · first | exact no_some e | cases e
  refine wpAny_mono (call_fn G (sound G n).S g2 g3 g4 g5 e rfl hA I r) (fun v s1 q => ?_) fun _ _ q => q
  obtain ⟨ρ1, ev1, r1, d1⟩ := q
  rw [hs] at ev1 r1
  have : ρ1 = [] := List.eq_nil_of_length_eq_zero ev1.inv.len
  subst this
  exact ⟨ev1, r1⟩
end
end Mine
end

section
set_option autoImplicit false
set_option linter.unusedVariables false
namespace Mine
set_option Elab.async false
open PySem PySem.Calls PyProof.Rows

theorem zip_lookup_some {names : List Str} : ∀ {vals : List Value}, vals.length = names.length → ∀ n ∈ names, ((names.zip vals).lookup n).isSome = true := by
  induction names with
  | nil => intro vals _ n m; cases m
  | cons x r ih =>
    intro vals h n m
    cases vals with
    | nil => cases h
    | cons v vs =>
      rw [List.zip_cons_cons, List.lookup_cons]
      cases q : n == x with
      | true => rfl
      | false =>
        rcases List.mem_cons.mp m with e | m
        · rw [e] at q; simp at q
        · exact ih (by simpa using h) n m
theorem zip_filterMap' {ps : List (Str × Value)} : ∀ {names : List Str} {vals : List Value}, vals.length = names.length → distinct names = true → (∀ n v, (names.zip vals).lookup n = some v → ps.lookup n = some v) → names.filterMap (fun n => (ps.lookup n).map (fun v => (n, v))) = names.zip vals
  | [], [], _, _, _ => rfl
  | x :: r, v :: vs, h, hd, hp => by
    unfold distinct at hd
    obtain ⟨h1, h2⟩ := andB_true hd
    have hx : ps.lookup x = some v := hp x v (by rw [List.zip_cons_cons, List.lookup_cons_self])
    rw [List.filterMap_cons, List.zip_cons_cons, hx]
    simp only [Option.map_some]
    congr 1
    refine zip_filterMap' (names := r) (vals := vs) (by simpa using h) h2 fun n w hn => hp n w ?_
    rw [List.zip_cons_cons, List.lookup_cons]
    have : (n == x) = false := by
      cases q : n == x with
      | false => rfl
      | true =>
        have e := beq_iff_eq.mp q
        subst e
        simp at h1
        have := List.mem_map_of_mem (f := Prod.fst) (mem_of_lookup hn)
        rw [zip_keys (by simpa using h)] at this
        exact absurd this h1
    rw [this]
    exact hn

theorem bind_args {f : Str} {args : List Arg} {b : List Stmt} {s : Scope} {pm cd doc : Value} (hd : distinct (args.map (·.arg)) = true) (vals : List Value) (h : vals.length = (args.map (·.arg)).length) :
    bindArgs (docDef f ⟨[], args, none, [], [], none, []⟩ b s pm cd doc) ⟨vals, []⟩ = pure ((args.map (·.arg)).zip vals) := by
  have e1 : seqItems? .none = pure none := rfl
  have hm : ((args.map (·.arg)).filter fun n => (((args.map (·.arg)).zip vals).lookup n).isNone) = [] := by
    rw [List.filter_eq_nil_iff]
    intro n m
    have := zip_lookup_some h n m
    rw [← Option.not_isSome, this]; decide
  have hz := zip_filterMap' h hd fun _ _ q => q
  unfold bindArgs docDef
  simp only [e1, List.map_nil, List.nil_append, List.append_nil, List.forIn_nil, h]
  show (if (decide (_ > _) && true) = true then _ else _) = _
  rw [if_neg (by simp)]
  have hd0 : List.drop (((none : Option (Array Value)).getD #[]).toList.length - (args.map (·.arg)).length) ((none : Option (Array Value)).getD #[]).toList = [] := by simp
  have ht : List.take ((args.map (·.arg)).length - ([] : List Value).length) (args.map (·.arg)) = args.map (·.arg) := List.take_of_length_le (by simp)
  have hdr : List.drop ((args.map (·.arg)).length - ([] : List Value).length) (args.map (·.arg)) = [] := by simp
  dsimp only
  rw [hd0, ht, hdr, hm, if_neg (by simp)]
  rw [List.zip_nil_left, List.forIn_nil]
  show (pure (List.filterMap _ _) : Sem (List (Str × Value))) = _
  exact congrArg pure hz

abbrev P : Program := PySem.Challenge.pw_xm0140_01

noncomputable def plainArgs (p : Arguments) : Bool := match p with
  | ⟨[], _, none, [], [], none, []⟩ => true
  | _ => false

theorem plainArgs_ok {p : Arguments} (h : plainArgs p = true) : ∃ args, p = ⟨[], args, none, [], [], none, []⟩ := by
  obtain ⟨po, ar, va, ko, kd, kw, df⟩ := p
  cases po with
  | cons _ _ => exact no_true h
  | nil => cases va with
    | some _ => exact no_true h
    | none => cases ko with
      | cons _ _ => exact no_true h
      | nil => cases kd with
        | cons _ _ => exact no_true h
        | nil => cases kw with
          | some _ => exact no_true h
          | none => cases df with
            | cons _ _ => exact no_true h
            | nil => exact ⟨_, rfl⟩
noncomputable def fnOf (f : Str) : Option FnRec := match P.theDef f with
  | some (p, b, s) => cond (andB (plainArgs p) (distinct (p.args.map (·.arg)))) (some ⟨p.args.map (·.arg), b, s, f == ("copied" : Str)⟩) none
  | none => none

noncomputable def globs : List (Str × D) := [("R0", .rat 0 0 0), ("R1", .rat 1 1 0), ("MOST_BITS", litD 200000)]

structure Base (w : World) (h₀ : Heap) (mg mb : Str → Option Value) : Prop where
  g : h₀.Ns mainGlobals mg
  b : h₀.Ns builtinsNs mb
  nolim : h₀.NoLimit
  glob : ∀ x d, globs.lookup x = some d → ∃ v, mg x = some v ∧ Rep h₀ nobody [] d v
  blt : ∀ x, (isBltin x = true ∨ x = ("enumerate" : Str)) → mg x = none ∧ mb x = some (bltV x)
  fn : ∀ f p b s, P.theDef f = some (p, b, s) → plainArgs p = true → ∃ a o pm cd doc, mg f = some (.ref a) ∧ h₀.get? a = some o ∧ o.data = .func (docDef f p b s pm cd doc) ∧ h₀.CodeRec cd f

section
variable {w : World} {h₀ : Heap} {c : Cfg} {K : Nat} {mg mb : Str → Option Value}

theorem Base.fns (B : Base w h₀ mg mb) {f : Str} {fn : FnRec} (h : fnOf f = some fn) : ∃ a o params pm cd doc, mg f = some (.ref a) ∧ h₀.get? a = some o ∧ o.data = .func (docDef f params fn.body fn.scope pm cd doc) ∧ h₀.CodeRec cd f ∧
    (∀ vals : List Value, vals.length = fn.params.length → bindArgs (docDef f params fn.body fn.scope pm cd doc) ⟨vals, []⟩ = pure (fn.params.zip vals)) := by
  unfold fnOf at h
  split at h
  · rename_i p b s hd
    rcases cond_two h with ⟨hp, h⟩ | ⟨_, h⟩
    · obtain ⟨hp, hq⟩ := andB_true hp
      injection h with h; subst h
      obtain ⟨a, o, pm, cd, doc, h1, h2, h3, h4⟩ := B.fn f p b s hd hp
      refine ⟨a, o, p, pm, cd, doc, h1, h2, h3, h4, fun vals hv => ?_⟩
      obtain ⟨args, rfl⟩ := plainArgs_ok hp
      exact bind_args hq vals hv
    · first | exact no_some h | cases h
  · first | exact no_some h | cases h

noncomputable def cfg (tab : Str → List D → Option (D × Bool)) (hk : Str → Sto → List D → Option (D × Sto × Bool)) (inl : Str → Bool) (sym mt : List (Nat × Nat)) : Cfg := ⟨tab, hk, fun f => cond (inl f) (fnOf f) none, sym, mt, globs⟩

theorem Base.gd (B : Base w h₀ mg mb) {tab hk inl sym mt} (h1 : ∀ f σ args d σ' o, hk f σ args = some (d, σ', o) → o = true → ∃ a ob fd, mg f = some (.ref a) ∧ h₀.get? a = some ob ∧ ob.data = .func fd ∧ HookSpec P w h₀ K a σ args d σ')
    (h2 : ∀ f args d o, tab f args = some (d, o) → o = true → ∃ a ob fd, mg f = some (.ref a) ∧ h₀.get? a = some ob ∧ ob.data = .func fd ∧ CallSpec P w h₀ K a args d) : Gd P w h₀ (cfg tab hk inl sym mt) K mg mb :=
  ⟨B.g, B.b, B.nolim, B.glob, B.blt, (fun f fn h => by
    rcases cond_two (show cond (inl f) (fnOf f) none = some fn from h) with ⟨_, h⟩ | ⟨_, h⟩
    · exact B.fns h
    · cases h), h1, h2⟩
end
end Mine
end

section
set_option autoImplicit false
set_option linter.unusedVariables false
set_option Elab.async false
set_option maxRecDepth 100000
namespace Mine
open PySem PySem.Calls PyProof.Rows

noncomputable def noTab : Str → List D → Option (D × Bool) := fun _ _ => none
noncomputable def noHk : Str → Sto → List D → Option (D × Sto × Bool) := fun _ _ _ => none
noncomputable def only (f : Str) (g : Str) : Bool := g == f
noncomputable def theFn (f : Str) : FnRec := match fnOf f with
  | some fn => fn
  | none => ⟨[], [], default, false⟩
noncomputable def c0 : Cfg := cfg noTab noHk (only "gcd") [] []
noncomputable def sParts : Stmt → Expr × Expr × List Stmt × List Stmt × Pos
  | .If t a b p => (t, t, a, b, p)
  | .For t i b e p => (t, i, b, e, p)
  | .While t b e p => (t, t, b, e, p)
  | .Return (some e) p => (e, e, [], [], p)
  | _ => (.Constant .none 0 default, .Constant .none 0 default, [], [], default)
noncomputable def eParts : Expr → Expr × Expr × List Expr × Pos
  | .Compare l _ rs p => (l, l, rs, p)
  | .BinOp l _ r p => (l, r, [], p)
  | .Call f as _ p => (f, f, as, p)
  | .Subscript v i p => (v, i, [], p)
  | .Name x p => (.Name x p, .Name x p, [], p)
  | e => (e, e, [], default)
noncomputable def at1 (l : List Stmt) : Stmt := match l with
  | _ :: s :: _ => s
  | _ => .Pass default
noncomputable def whileOf (l : List Stmt) : Expr × List Stmt := ((sParts (at1 l)).1, (sParts (at1 l)).2.2.1)
noncomputable def gcdSc : Sc := (theFn "gcd").scope.names
noncomputable def gcdW : Expr × List Stmt := whileOf (theFn "gcd").body

theorem gcd_T (n : Nat) (st : St) (x y : Int) (k m : Nat) : (ev c0 (n + 3)).T gcdSc [("a", .int x k), ("b", .int y m)] st gcdW.1 = some (y != 0, st, true) := rfl
theorem gcd_B (n : Nat) (st : St) (x y : Int) (k m : Nat) (h : (y != 0) = true) : evSs (ev c0 (n + 5)) gcdSc [("a", .int x k), ("b", .int y m)] st gcdW.2 = some (Fl.next, ([("a", .int y m), ("b", .int (x.fmod y) m)] : Vars), st, true) := by
  have : ∃ o, evSs (ev c0 (n + 5)) gcdSc [("a", .int x k), ("b", .int y m)] st gcdW.2 = some (Fl.next, ([("a", .int y m), ("b", .int (x.fmod y) m)] : Vars), st, o) ∧ o = true := ⟨_, rfl, by rw [h]; rfl⟩
  obtain ⟨o, e, rfl⟩ := this
  exact e

theorem gcd_step (x y : Nat) (hy : y ≠ 0) : (x : Int).fmod y = ((x % y : Nat) : Int) := by
  rw [Int.fmod_eq_emod_of_nonneg _ (Int.natCast_nonneg y)]; rfl

theorem gcd_W : ∀ (f : Nat) (x y : Nat) (k m : Nat) (st : St), y + 10 ≤ f → (ev c0 f).W gcdSc [("a", .int x k), ("b", .int y m)] st gcdW.1 gcdW.2 =
    some (Fl.next, ([("a", .int (Nat.gcd x y : Nat) (if y = 0 then k else m)), ("b", .int 0 m)] : Vars), st, true)
  | 0, x, y, k, m, st, h => by omega
  | f + 1, x, y, k, m, st, h => by
    obtain ⟨g, rfl⟩ : ∃ g, f = g + 5 := ⟨f - 5, by omega⟩
    show stepW (forced (ev c0 (g + 5))) gcdSc _ st gcdW.1 gcdW.2 = _
    rw [forced_eq]
    unfold stepW
    rw [show (ev c0 (g + 5)).T gcdSc [("a", .int x k), ("b", .int y m)] st gcdW.1 = some ((y : Int) != 0, st, true) from gcd_T (g + 2) st x y k m]
    by_cases hy : y = 0
    · subst hy
      simp
    · have hb : ((y : Int) != 0) = true := by simpa using hy
      rw [hb]
      simp only
      rw [gcd_B g st x y k m hb]
      simp only
      rw [gcd_step x y hy, gcd_W (g + 5) y (x % y) m m st (by have := Nat.mod_lt x (Nat.pos_of_ne_zero hy); omega)]
      have e : Nat.gcd y (x % y) = Nat.gcd x y := by rw [Nat.gcd_comm y, ← Nat.gcd_rec, Nat.gcd_comm]
      simp [e, hy, andB]

noncomputable def nth (l : List Stmt) (n : Nat) : Stmt := match l[n]? with
  | some s => s
  | none => .Pass default
noncomputable def gcd1 : Stmt := nth (theFn "gcd").body 0
noncomputable def gcd3 : Stmt := nth (theFn "gcd").body 2
noncomputable def posOf (s : Stmt) : Pos := (sParts s).2.2.2.2
theorem gcd_body_eq : (theFn "gcd").body = [gcd1, .While gcdW.1 gcdW.2 [] (posOf (nth (theFn "gcd").body 1)), gcd3] := rfl

theorem gcd_S1 (g : Nat) (st : St) (x y : Int) (n m : Nat) : (ev c0 (g + 4)).S gcdSc [("a", .int x n), ("b", .int y m)] st gcd1 =
    some (Fl.next, ([("a", .int (if x < 0 then -x else x) n), ("b", .int (if y < 0 then -y else y) m)] : Vars), st, true) := rfl
theorem gcd_S3 (g : Nat) (st : St) (x y : Int) (n m : Nat) : (ev c0 (g + 3)).S gcdSc [("a", .int x n), ("b", .int y m)] st gcd3 = some (Fl.ret (.int x n), ([("a", .int x n), ("b", .int y m)] : Vars), st, true) := rfl
theorem abs_nat (x : Int) : (if x < 0 then -x else x) = (x.natAbs : Int) := by split <;> omega

theorem gcd_body (x y : Int) (n m : Nat) (st : St) : evSs (ev c0 (y.natAbs + 15)) gcdSc [("a", .int x n), ("b", .int y m)] st (theFn "gcd").body =
    some (Fl.ret (.int (Int.gcd x y) (if y = 0 then n else m)), ([("a", .int (Int.gcd x y) (if y = 0 then n else m)), ("b", .int 0 m)] : Vars), st, true) := by
  have h2 : ∀ vs, (ev c0 (y.natAbs + 15)).S gcdSc vs st (.While gcdW.1 gcdW.2 [] (posOf (nth (theFn "gcd").body 1))) = (ev c0 (y.natAbs + 14)).W gcdSc vs st gcdW.1 gcdW.2 := fun vs => by
    have : ∀ n, (ev c0 (n + 1)).S gcdSc vs st (.While gcdW.1 gcdW.2 [] (posOf (nth (theFn "gcd").body 1))) = (ev c0 n).W gcdSc vs st gcdW.1 gcdW.2 := fun n => by
      have : (ev c0 (n + 1)).S = stepS c0 (ev c0 n) := by
        have : ev c0 (n + 1) = step c0 (forced (ev c0 n)) := rfl
        rw [this, forced_eq]; rfl
      rw [this]; rfl
    exact this _
  rw [gcd_body_eq]
  unfold evSs
  rw [gcd_S1 (y.natAbs + 11), abs_nat, abs_nat]
  simp only
  unfold evSs
  rw [h2, gcd_W _ _ _ _ _ _ (by omega)]
  simp only
  unfold evSs
  rw [gcd_S3 (y.natAbs + 12)]
  have e : (if y.natAbs = 0 then n else m) = if y = 0 then n else m := by
    by_cases q : y = 0
    · simp [q]
    · simp [q]
  rw [e]
  rfl

theorem gcd_run (dep : Nat) (x y : Int) (n m : Nat) : ∃ g, runF (ev c0 g) ⟨[], [], dep + 1⟩ (theFn "gcd") [.int x n, .int y m] = some (.int (Int.gcd x y) (if y = 0 then n else m), ⟨[], [], dep + 1⟩, true) := by
  refine ⟨y.natAbs + 15, ?_⟩
  unfold runF
  simp only
  rw [show fnOk (theFn "gcd") [D.int x n, D.int y m].length = true from rfl, cond_true]
  have := gcd_body x y n m ⟨[], [], dep⟩
  rw [show evSs (ev c0 (y.natAbs + 15)) (theFn "gcd").scope.names ((theFn "gcd").params.zip [D.int x n, D.int y m]) ⟨[], [], dep⟩ (theFn "gcd").body = _ from this]
  rfl
end Mine
end

section
set_option autoImplicit false
set_option linter.unusedVariables false
set_option Elab.async false
set_option maxRecDepth 100000
namespace Mine
open PySem PySem.Calls PyProof.Rows

noncomputable def TabOk (w : World) (h₀ : Heap) (mg : Str → Option Value) (K : Nat) (f : Str) (args : List D) (d : D) : Prop :=
  ∃ a ob fd, mg f = some (.ref a) ∧ h₀.get? a = some ob ∧ ob.data = .func fd ∧ CallSpec P w h₀ K a args d
noncomputable def Wd (d d' : D) : Prop := ∀ h M ρ v, Rep h M ρ d v → Rep h M ρ d' v
noncomputable def Wds (l l' : List D) : Prop := ∀ h M ρ vs, Reps h M ρ l vs → Reps h M ρ l' vs

section
variable {w : World} {h₀ : Heap} {c : Cfg} {K K' : Nat} {mg mb : Str → Option Value} {f : Str} {args args' : List D} {d d' : D}

theorem TabOk.more (h : TabOk w h₀ mg K f args d) (k : K ≤ K') : TabOk w h₀ mg K' f args d :=
  let ⟨a, ob, fd, h1, h2, h3, h4⟩ := h; ⟨a, ob, fd, h1, h2, h3, fun A s F vals hA I r => h4 A s F vals (hA.less k) I r⟩
theorem TabOk.widen (h : TabOk w h₀ mg K f args d) (k : Wd d d') : TabOk w h₀ mg K f args d' :=
  let ⟨a, ob, fd, h1, h2, h3, h4⟩ := h; ⟨a, ob, fd, h1, h2, h3, fun A s F vals hA I r => wpAny_mono (h4 A s F vals hA I r) (fun v s' q => ⟨q.1, k _ _ _ _ q.2⟩) fun _ _ q => q⟩
theorem TabOk.inp (h : TabOk w h₀ mg K f args d) (k : Wds args' args) : TabOk w h₀ mg K f args' d :=
  let ⟨a, ob, fd, h1, h2, h3, h4⟩ := h; ⟨a, ob, fd, h1, h2, h3, fun A s F vals hA I r => h4 A s F vals hA I (k _ _ _ _ r)⟩

theorem Base.run (B : Base w h₀ mg mb) (G : Gd P w h₀ c K mg mb) {n dep : Nat} {ds : List Bool} {fn : FnRec} {st' : St} (hf : c.fns f = some fn) (hk : fn.keep = false) (e : runF (ev c n) ⟨[], ds, dep⟩ fn args = some (d, st', true)) :
    TabOk w h₀ mg (K + dep) f args d := by
  obtain ⟨a, ob, params, pm, cd, doc, g1, g2, g3, g4, g5⟩ := G.fns f fn hf
  exact ⟨a, ob, _, g1, g2, g3, contract G hf g1 hk e⟩

theorem wd_rat {q : Rat} {n d n' d' : Nat} (h1 : n ≤ n') (h2 : d ≤ d') : Wd (.rat q n d) (.rat q n' d') := fun h M ρ v r =>
  ⟨r.1, Nat.le_trans r.2.1 (pow_le h1), Nat.le_trans r.2.2 (pow_le h2)⟩
theorem wd_int {i : Int} {n n' : Nat} (h1 : n ≤ n') : Wd (.int i n) (.int i n') := fun h M ρ v r => ⟨r.1, Nat.le_trans r.2 (pow_le h1)⟩
theorem Wd.refl : Wd d d := fun _ _ _ _ r => r
theorem Wds.nil : Wds [] [] := fun _ _ _ _ r => r
theorem Wds.cons {l l' : List D} (a : Wd d d') (b : Wds l l') : Wds (d :: l) (d' :: l') := fun _ _ _ _ ⟨v, r, e, x, y⟩ => ⟨v, r, e, a _ _ _ _ x, b _ _ _ _ y⟩
theorem wd_lst {l l' : List D} (a : Wds l l') : Wd (.lst l) (.lst l') := fun _ _ _ _ ⟨b, vs, e, h, m, r⟩ => ⟨b, vs, e, h, m, a _ _ _ _ r⟩
theorem wd_tup {l l' : List D} (a : Wds l l') : Wd (.tup l) (.tup l') := fun _ _ _ _ ⟨b, vs, e, h, r⟩ => ⟨b, vs, e, h, a _ _ _ _ r⟩

theorem gd_noHk : ∀ (f : Str) (σ : Sto) (args : List D) (d : D) (σ' : Sto) (o : Bool), noHk f σ args = some (d, σ', o) → o = true → ∃ a ob fd, mg f = some (.ref a) ∧ h₀.get? a = some ob ∧ ob.data = .func fd ∧ HookSpec P w h₀ K a σ args d σ' :=
  fun _ _ _ _ _ _ h => by cases h

/-! gcd -/
theorem gcd_spec (B : Base w h₀ mg mb) (x y : Int) (n m : Nat) (hy : y ≠ 0) : TabOk w h₀ mg 1 "gcd" [.int x n, .int y m] (.int (Int.gcd x y) m) := by
  have G : Gd P w h₀ c0 0 mg mb := B.gd gd_noHk fun f args d o h => by cases h
  obtain ⟨g, e⟩ := gcd_run 0 x y n m
  have := B.run G (f := "gcd") (fn := theFn "gcd") rfl rfl e
  rw [if_neg hy] at this
  exact this

/-! ratios -/
noncomputable def tab1 (f : Str) : List D → Option (D × Bool)
  | [.int x n, .int y m] => cond (f == ("gcd" : Str)) (some (.int (Int.gcd x y) m, y != 0)) none
  | _ => none
noncomputable def c1 : Cfg := cfg tab1 noHk (only "rat") [(26, 7), (28, 28)] []
theorem tab1_two {f : Str} {args : List D} {r : D × Bool} (h : tab1 f args = some r) : ∃ x n y m, args = [.int x n, .int y m] := by
  cases args with
  | nil => exact no_some h
  | cons a t => cases t with
    | nil => cases a <;> exact no_some h
    | cons b u => cases u with
      | cons c v => cases a <;> first | exact no_some h | (cases b <;> exact no_some h)
      | nil => cases a <;> first | exact no_some h | (cases b <;> first | exact no_some h | exact ⟨_, _, _, _, rfl⟩)
theorem gd1 (B : Base w h₀ mg mb) : Gd P w h₀ c1 1 mg mb := B.gd gd_noHk fun f args d o h ho => by
  obtain ⟨x, n, y, m, rfl⟩ := tab1_two h
  rcases cond_two (show cond (f == ("gcd" : Str)) (some (.int (Int.gcd x y) m, y != 0)) none = some (d, o) from h) with ⟨hf, h⟩ | ⟨_, h⟩
  · obtain ⟨rfl, rfl⟩ := some2 h
    rw [beq_iff_eq.mp hf]
    exact gcd_spec B _ _ _ _ (by simpa using ho)
  · exact no_some h

theorem rat_pos (t b : Int) (n m : Nat) (h1 : 0 < b) (h2 : Nat.ble m 8999 = true) : ∃ vs, evSs (ev c1 12) (theFn "rat").scope.names [("top", .int t n), ("bottom", .int b m)] ⟨[], [false, true], 0⟩ (theFn "rat").body = some (Fl.ret (mkTup [.int (t.fdiv (Int.gcd t b)) n, .int (b.fdiv (Int.gcd t b)) m]), vs, ⟨[], [], 0⟩, true) := by
  have : ∃ o vs, evSs (ev c1 12) (theFn "rat").scope.names [("top", .int t n), ("bottom", .int b m)] ⟨[], [false, true], 0⟩ (theFn "rat").body = some (Fl.ret (mkTup [.int (t.fdiv (Int.gcd t b)) n, .int (b.fdiv (Int.gcd t b)) m]), vs, ⟨[], [], 0⟩, o) ∧ o = true := by
    refine ⟨_, _, rfl, ?_⟩
    have e1 : (b == 0) = false := by simp; omega
    have e2 : decide (b > 0) = true := by simp; omega
    have e3 : (b != 0) = true := by simp; omega
    have e4 : ((Int.gcd t b : Int) != 0) = true := by
      have : Int.gcd t b ≠ 0 := fun q => by have := (Int.gcd_eq_zero_iff.mp q).2; omega
      simpa using this
    rw [e1, e2, e3, e4, h2]
    rfl
  obtain ⟨o, vs, e, rfl⟩ := this
  exact ⟨vs, e⟩

theorem rat_neg (t b : Int) (n m : Nat) (h1 : b < 0) (h2 : Nat.ble (m + 3) 8999 = true) : ∃ vs, evSs (ev c1 12) (theFn "rat").scope.names [("top", .int t n), ("bottom", .int b m)] ⟨[], [false, false], 0⟩ (theFn "rat").body = some (Fl.ret (mkTup [.int (t.fdiv (0 - Int.gcd t b)) n, .int (b.fdiv (0 - Int.gcd t b)) m]), vs, ⟨[], [], 0⟩, true) := by
  have : ∃ o vs, evSs (ev c1 12) (theFn "rat").scope.names [("top", .int t n), ("bottom", .int b m)] ⟨[], [false, false], 0⟩ (theFn "rat").body = some (Fl.ret (mkTup [.int (t.fdiv (0 - Int.gcd t b)) n, .int (b.fdiv (0 - Int.gcd t b)) m]), vs, ⟨[], [], 0⟩, o) ∧ o = true := by
    refine ⟨_, _, rfl, ?_⟩
    have e1 : (b == 0) = false := by simp; omega
    have e2 : decide (b > 0) = false := by simp; omega
    have e3 : (b != 0) = true := by simp; omega
    have e4 : ((0 - Int.gcd t b : Int) != 0) = true := by
      have : Int.gcd t b ≠ 0 := fun q => by have := (Int.gcd_eq_zero_iff.mp q).2; omega
      simp; omega
    have e5 : Nat.ble (Nat.max 1 m + 1) 8999 = true := by
      have := Nat.le_of_ble_eq_true h2
      refine Nat.ble_eq_true_of_le ?_
      have : Nat.max 1 m ≤ m + 1 := Nat.max_le.mpr ⟨by omega, by omega⟩
      omega
    rw [e1, e2, e3, e4, show ((((Int.natAbs 0).log2 + 1).max m + 1).ble 8999) = true from e5]
    rfl
  obtain ⟨o, vs, e, rfl⟩ := this
  exact ⟨vs, e⟩

theorem mk_rat (i j : Int) (n m : Nat) (hj : 0 < j) (hc : Nat.gcd i.natAbs j.natAbs = 1) : ∃ m', mkTup [.int i n, .int j m] = .rat ((i : Rat) / (j : Rat)) n m' ∧ m' ≤ m := by
  unfold mkTup
  simp only
  cases q : decide (j = 1) with
  | true =>
    have q := of_decide_eq_true q
    subst q
    exact ⟨0, by rw [cond_true, show (i : Rat) / ((1 : Int) : Rat) = (i : Rat) by grind], Nat.zero_le _⟩
  | false =>
    have a1 : decide (0 < j) = true := by simpa using hj
    rw [cond_false, a1, hc]
    refine ⟨m, ?_, Nat.le_refl _⟩
    have : mkRat i j.natAbs = (i : Rat) / (j : Rat) := by
      rw [Rat.mkRat_eq_div]
      congr 1
      exact (Rat.intCast_natCast _).symm.trans (congrArg (fun z : Int => (z : Rat)) (show (j.natAbs : Int) = j by omega))
    rw [this]; rfl

theorem rat_spec_of (B : Base w h₀ mg mb) {t b i j g : Int} {n m : Nat} {ds : List Bool} {vs : Vars} (ht : t = g * i) (hb : b = g * j) (hg : g ≠ 0) (hg' : g.natAbs = Int.gcd t b) (hj : 0 < j)
    (e : evSs (ev c1 12) (theFn "rat").scope.names [("top", .int t n), ("bottom", .int b m)] ⟨[], ds, 0⟩ (theFn "rat").body = some (Fl.ret (mkTup [.int (t.fdiv g) n, .int (b.fdiv g) m]), vs, ⟨[], [], 0⟩, true)) :
    TabOk w h₀ mg 2 "rat" [.int t n, .int b m] (.rat ((t : Rat) / (b : Rat)) n m) := by
  have f1 : t.fdiv g = i := by rw [ht, Int.mul_fdiv_cancel_left _ hg]
  have f2 : b.fdiv g = j := by rw [hb, Int.mul_fdiv_cancel_left _ hg]
  have hc : Nat.gcd i.natAbs j.natAbs = 1 := by
    have h1 : Int.gcd t b = g.natAbs * Int.gcd i j := by rw [ht, hb, Int.gcd_mul_left]
    rw [← hg'] at h1
    have : g.natAbs ≠ 0 := by omega
    have h2 : g.natAbs * 1 = g.natAbs * Int.gcd i j := by omega
    exact (Nat.eq_of_mul_eq_mul_left (by omega) h2).symm
  obtain ⟨m', h1, h2⟩ := mk_rat i j n m hj hc
  rw [f1, f2, h1] at e
  have hq : (i : Rat) / (j : Rat) = (t : Rat) / (b : Rat) := by
    have hg2 : (g : Rat) ≠ 0 := by exact_mod_cast hg
    have hj2 : (j : Rat) ≠ 0 := by exact_mod_cast (show j ≠ 0 by omega)
    rw [ht, hb, Rat.intCast_mul, Rat.intCast_mul]
    grind
  rw [hq] at e
  have run : runF (ev c1 12) ⟨[], ds, 1⟩ (theFn "rat") [.int t n, .int b m] = some (.rat ((t : Rat) / (b : Rat)) n m', ⟨[], [], 1⟩, true) := by
    unfold runF
    simp only
    rw [show fnOk (theFn "rat") [D.int t n, D.int b m].length = true from rfl, cond_true]
    rw [show evSs (ev c1 12) (theFn "rat").scope.names ((theFn "rat").params.zip [D.int t n, D.int b m]) ⟨[], ds, 0⟩ (theFn "rat").body = _ from e]
    rfl
  exact (B.run (gd1 B) (f := "rat") (fn := theFn "rat") rfl rfl run).widen (wd_rat (Nat.le_refl _) h2)

theorem pos_of {g j b : Int} (h : b = g * j) (hg : 0 < g) (hb : 0 < b) : 0 < j := by
  refine Classical.byContradiction fun h' => ?_
  have := Int.mul_nonpos_of_nonneg_of_nonpos (Int.le_of_lt hg) (show j ≤ 0 by omega)
  omega

theorem rat_spec (B : Base w h₀ mg mb) (t b : Int) (n m : Nat) (hb : b ≠ 0) (hm : m + 3 ≤ 8999) : TabOk w h₀ mg 2 "rat" [.int t n, .int b m] (.rat ((t : Rat) / (b : Rat)) n m) := by
  have hg : Int.gcd t b ≠ 0 := fun q => hb (Int.gcd_eq_zero_iff.mp q).2
  obtain ⟨i, hi⟩ := Int.gcd_dvd_left (a := t) (b := b)
  obtain ⟨j, hj⟩ := Int.gcd_dvd_right (a := t) (b := b)
  by_cases h : 0 < b
  · obtain ⟨vs, e⟩ := rat_pos t b n m h (Nat.ble_eq_true_of_le (by omega))
    refine rat_spec_of B hi hj (by omega) (by simp) ?_ e
    have : (0 : Int) < Int.gcd t b := by omega
    exact pos_of (g := Int.gcd t b) hj (by omega) h
  · obtain ⟨vs, e⟩ := rat_neg t b n m (by omega) (Nat.ble_eq_true_of_le (by omega))
    refine rat_spec_of B (i := -i) (j := -j) (g := 0 - Int.gcd t b) (by rw [Int.zero_sub, Int.neg_mul_neg]; exact hi) (by rw [Int.zero_sub, Int.neg_mul_neg]; exact hj) (by omega) (by omega) ?_ e
    exact pos_of (g := Int.gcd t b) (b := -b) (by rw [Int.mul_neg]; exact congrArg (- ·) hj) (by omega) (by omega)
end
end Mine
end

section
set_option autoImplicit false
set_option linter.unusedVariables false
set_option Elab.async false
set_option maxRecDepth 100000
namespace Mine
open PySem PySem.Calls PyProof.Rows

section
variable {w : World} {h₀ : Heap} {c : Cfg} {K K' : Nat} {mg mb : Str → Option Value} {f : Str} {d d' : D}

noncomputable def tab2 (f : Str) : List D → Option (D × Bool)
  | [.int t n, .int b m] => cond (f == ("rat" : Str)) (some (.rat ((t : Rat) / (b : Rat)) n m, andB (b != 0) (Nat.ble (m + 3) 8999))) none
  | _ => none
noncomputable def ratOps (f : Str) : Bool := f == ("radd" : Str) || f == ("rsub" : Str) || f == ("rmul" : Str) || f == ("rdiv" : Str)
noncomputable def c2 : Cfg := cfg tab2 noHk ratOps [] []
theorem tab2_two {f : Str} {args : List D} {r : D × Bool} (h : tab2 f args = some r) : ∃ x n y m, args = [.int x n, .int y m] := by
  cases args with
  | nil => exact no_some h
  | cons a t => cases t with
    | nil => cases a <;> exact no_some h
    | cons b u => cases u with
      | cons c v => cases a <;> first | exact no_some h | (cases b <;> exact no_some h)
      | nil => cases a <;> first | exact no_some h | (cases b <;> first | exact no_some h | exact ⟨_, _, _, _, rfl⟩)
theorem gd2 (B : Base w h₀ mg mb) : Gd P w h₀ c2 2 mg mb := B.gd gd_noHk fun f args d o h ho => by
  obtain ⟨x, n, y, m, rfl⟩ := tab2_two h
  dsimp only [tab2] at h
  rcases cond_two h with ⟨hf, h⟩ | ⟨_, h⟩
  · obtain ⟨rfl, rfl⟩ := some2 h
    obtain ⟨h1, h2⟩ := andB_true ho
    rw [beq_iff_eq.mp hf]
    exact rat_spec B _ _ _ _ (by simpa using h1) (Nat.le_of_ble_eq_true h2)
  · exact no_some h

theorem run_true {c : Cfg} {g : Nat} {st : St} {fn : FnRec} {args : List D} {d : D} {st' : St} (h : ∃ o, runF (ev c g) st fn args = some (d, st', o) ∧ o = true) : runF (ev c g) st fn args = some (d, st', true) := by
  obtain ⟨o, e, rfl⟩ := h; exact e

theorem den_ne (p : Rat) : ((p.den : Int) : Rat) ≠ 0 := by
  have := p.den_pos
  exact_mod_cast (show (p.den : Int) ≠ 0 by omega)
theorem num_den (p : Rat) : p = (p.num : Rat) / ((p.den : Int) : Rat) := by
  conv => lhs; rw [← Rat.num_divInt_den p]
  rw [Rat.divInt_eq_div]

theorem radd_spec (B : Base w h₀ mg mb) (p q : Rat) (n d m e : Nat) (h1 : d + e ≤ 8000) (h2 : n + m + d + e ≤ 100000000) : TabOk w h₀ mg 3 "radd" [.rat p n d, .rat q m e] (.rat (p + q) (n + m + d + e + 1) (d + e)) := by
  have e1 : (((p.den : Int) * (q.den : Int)) != 0) = true := by
    have := p.den_pos; have := q.den_pos
    have : (p.den : Int) * (q.den : Int) ≠ 0 := Int.mul_ne_zero (by omega) (by omega)
    simpa using this
  have e2 : Nat.ble (d + e + 3) 8999 = true := Nat.ble_eq_true_of_le (by omega)
  have e3 : Nat.ble (n + e + 2) 134217728 = true := Nat.ble_eq_true_of_le (by omega)
  have e4 : Nat.ble (m + d + 2) 134217728 = true := Nat.ble_eq_true_of_le (by omega)
  have e5 : Nat.ble (d + e + 2) 134217728 = true := Nat.ble_eq_true_of_le (by omega)
  have run := run_true (c := c2) (g := 12) (st := ⟨[], [], 1⟩) (fn := theFn "radd") (args := [.rat p n d, .rat q m e]) ⟨_, rfl, by rw [e1, e2, e3, e4, e5]; rfl⟩
  have v : ((p.num * q.den + q.num * p.den : Int) : Rat) / ((p.den * q.den : Int) : Rat) = p + q := by
    conv => rhs; rw [num_den p, num_den q]
    have := den_ne p; have := den_ne q
    rw [Rat.intCast_add, Rat.intCast_mul, Rat.intCast_mul, Rat.intCast_mul]
    grind
  rw [v] at run
  exact (B.run (gd2 B) (f := "radd") (fn := theFn "radd") rfl rfl run).widen (wd_rat (by have : Nat.max (n + e) (m + d) ≤ n + m + d + e := Nat.max_le.mpr ⟨by omega, by omega⟩; omega) (Nat.le_refl _))

theorem rsub_spec (B : Base w h₀ mg mb) (p q : Rat) (n d m e : Nat) (h1 : d + e ≤ 8000) (h2 : n + m + d + e ≤ 100000000) : TabOk w h₀ mg 3 "rsub" [.rat p n d, .rat q m e] (.rat (p - q) (n + m + d + e + 1) (d + e)) := by
  have e1 : (((p.den : Int) * (q.den : Int)) != 0) = true := by
    have := p.den_pos; have := q.den_pos
    have : (p.den : Int) * (q.den : Int) ≠ 0 := Int.mul_ne_zero (by omega) (by omega)
    simpa using this
  have e2 : Nat.ble (d + e + 3) 8999 = true := Nat.ble_eq_true_of_le (by omega)
  have e3 : Nat.ble (n + e + 2) 134217728 = true := Nat.ble_eq_true_of_le (by omega)
  have e4 : Nat.ble (m + d + 2) 134217728 = true := Nat.ble_eq_true_of_le (by omega)
  have e5 : Nat.ble (d + e + 2) 134217728 = true := Nat.ble_eq_true_of_le (by omega)
  have run := run_true (c := c2) (g := 12) (st := ⟨[], [], 1⟩) (fn := theFn "rsub") (args := [.rat p n d, .rat q m e]) ⟨_, rfl, by rw [e1, e2, e3, e4, e5]; rfl⟩
  have v : ((p.num * q.den - q.num * p.den : Int) : Rat) / ((p.den * q.den : Int) : Rat) = p - q := by
    conv => rhs; rw [num_den p, num_den q]
    have := den_ne p; have := den_ne q
    rw [Rat.intCast_sub, Rat.intCast_mul, Rat.intCast_mul, Rat.intCast_mul]
    grind
  rw [v] at run
  exact (B.run (gd2 B) (f := "rsub") (fn := theFn "rsub") rfl rfl run).widen (wd_rat (by have : Nat.max (n + e) (m + d) ≤ n + m + d + e := Nat.max_le.mpr ⟨by omega, by omega⟩; omega) (Nat.le_refl _))

theorem rmul_spec (B : Base w h₀ mg mb) (p q : Rat) (n d m e : Nat) (h1 : d + e ≤ 8000) (h2 : n + m + d + e ≤ 100000000) : TabOk w h₀ mg 3 "rmul" [.rat p n d, .rat q m e] (.rat (p * q) (n + m) (d + e)) := by
  have e1 : (((p.den : Int) * (q.den : Int)) != 0) = true := by
    have := p.den_pos; have := q.den_pos
    have : (p.den : Int) * (q.den : Int) ≠ 0 := Int.mul_ne_zero (by omega) (by omega)
    simpa using this
  have e2 : Nat.ble (d + e + 3) 8999 = true := Nat.ble_eq_true_of_le (by omega)
  have e3 : Nat.ble (n + m + 2) 134217728 = true := Nat.ble_eq_true_of_le (by omega)
  have e5 : Nat.ble (d + e + 2) 134217728 = true := Nat.ble_eq_true_of_le (by omega)
  have run := run_true (c := c2) (g := 12) (st := ⟨[], [], 1⟩) (fn := theFn "rmul") (args := [.rat p n d, .rat q m e]) ⟨_, rfl, by rw [e1, e2, e3, e5]; rfl⟩
  have v : ((p.num * q.num : Int) : Rat) / ((p.den * q.den : Int) : Rat) = p * q := by
    conv => rhs; rw [num_den p, num_den q]
    have := den_ne p; have := den_ne q
    rw [Rat.intCast_mul, Rat.intCast_mul]
    grind
  rw [v] at run
  exact B.run (gd2 B) (f := "rmul") (fn := theFn "rmul") rfl rfl run

theorem rdiv_spec (B : Base w h₀ mg mb) (p q : Rat) (n d m e : Nat) (hq : q ≠ 0) (h1 : d + m ≤ 8000) (h2 : n + m + d + e ≤ 100000000) : TabOk w h₀ mg 3 "rdiv" [.rat p n d, .rat q m e] (.rat (p / q) (n + e) (d + m)) := by
  have hn : q.num ≠ 0 := fun h => hq (Rat.num_eq_zero.mp h)
  have e1 : (((p.den : Int) * q.num) != 0) = true := by
    have := p.den_pos
    have : (p.den : Int) * q.num ≠ 0 := Int.mul_ne_zero (by omega) hn
    simpa using this
  have e2 : Nat.ble (d + m + 3) 8999 = true := Nat.ble_eq_true_of_le (by omega)
  have e3 : Nat.ble (n + e + 2) 134217728 = true := Nat.ble_eq_true_of_le (by omega)
  have e5 : Nat.ble (d + m + 2) 134217728 = true := Nat.ble_eq_true_of_le (by omega)
  have run := run_true (c := c2) (g := 12) (st := ⟨[], [], 1⟩) (fn := theFn "rdiv") (args := [.rat p n d, .rat q m e]) ⟨_, rfl, by rw [e1, e2, e3, e5]; rfl⟩
  have v : ((p.num * q.den : Int) : Rat) / ((p.den * q.num : Int) : Rat) = p / q := by
    conv => rhs; rw [num_den p, num_den q]
    have := den_ne p; have := den_ne q
    have : (q.num : Rat) ≠ 0 := by exact_mod_cast hn
    rw [Rat.intCast_mul, Rat.intCast_mul]
    grind
  rw [v] at run
  exact B.run (gd2 B) (f := "rdiv") (fn := theFn "rdiv") rfl rfl run

noncomputable def ratTab (f : Str) : List D → Option (D × Bool)
  | [.rat p n d, .rat q m e] =>
    cond (f == ("radd" : Str)) (some (.rat (p + q) (n + m + d + e + 1) (d + e), andB (Nat.ble (d + e) 8000) (Nat.ble (n + m + d + e) 100000000))) <|
    cond (f == ("rsub" : Str)) (some (.rat (p - q) (n + m + d + e + 1) (d + e), andB (Nat.ble (d + e) 8000) (Nat.ble (n + m + d + e) 100000000))) <|
    cond (f == ("rmul" : Str)) (some (.rat (p * q) (n + m) (d + e), andB (Nat.ble (d + e) 8000) (Nat.ble (n + m + d + e) 100000000))) <|
    cond (f == ("rdiv" : Str)) (some (.rat (p / q) (n + e) (d + m), andB (decide (q ≠ 0)) (andB (Nat.ble (d + m) 8000) (Nat.ble (n + m + d + e) 100000000)))) none
  | _ => none

theorem ratTab_two {f : Str} {args : List D} {r : D × Bool} (h : ratTab f args = some r) : ∃ x n d y m e, args = [.rat x n d, .rat y m e] := by
  cases args with
  | nil => exact no_some h
  | cons a t => cases t with
    | nil => cases a <;> exact no_some h
    | cons b u => cases u with
      | cons c v => cases a <;> first | exact no_some h | (cases b <;> exact no_some h)
      | nil => cases a <;> first | exact no_some h | (cases b <;> first | exact no_some h | exact ⟨_, _, _, _, _, _, rfl⟩)
theorem ratTab_ok (B : Base w h₀ mg mb) {args : List D} {o : Bool} (h : ratTab f args = some (d, o)) (ho : o = true) : TabOk w h₀ mg 3 f args d := by
  obtain ⟨x, n, d1, y, m, e, rfl⟩ := ratTab_two h
  dsimp only [ratTab] at h
  rcases cond_two h with ⟨hf, h⟩ | ⟨_, h⟩
  · obtain ⟨rfl, rfl⟩ := some2 h
    obtain ⟨h1, h2⟩ := andB_true ho
    rw [beq_iff_eq.mp hf]
    exact radd_spec B _ _ _ _ _ _ (Nat.le_of_ble_eq_true h1) (Nat.le_of_ble_eq_true h2)
  rcases cond_two h with ⟨hf, h⟩ | ⟨_, h⟩
  · obtain ⟨rfl, rfl⟩ := some2 h
    obtain ⟨h1, h2⟩ := andB_true ho
    rw [beq_iff_eq.mp hf]
    exact rsub_spec B _ _ _ _ _ _ (Nat.le_of_ble_eq_true h1) (Nat.le_of_ble_eq_true h2)
  rcases cond_two h with ⟨hf, h⟩ | ⟨_, h⟩
  · obtain ⟨rfl, rfl⟩ := some2 h
    obtain ⟨h1, h2⟩ := andB_true ho
    rw [beq_iff_eq.mp hf]
    exact rmul_spec B _ _ _ _ _ _ (Nat.le_of_ble_eq_true h1) (Nat.le_of_ble_eq_true h2)
  rcases cond_two h with ⟨hf, h⟩ | ⟨_, h⟩
  · obtain ⟨rfl, rfl⟩ := some2 h
    obtain ⟨h1, h2⟩ := andB_true ho
    obtain ⟨h2, h3⟩ := andB_true h2
    rw [beq_iff_eq.mp hf]
    exact rdiv_spec B _ _ _ _ _ _ (of_decide_eq_true h1) (Nat.le_of_ble_eq_true h2) (Nat.le_of_ble_eq_true h3)
  · exact no_some h

noncomputable def c3 : Cfg := cfg ratTab noHk (fun f => !ratOps f) [] [(51, 11), (85, 32), (131, 12), (147, 12)]
theorem gd3 (B : Base w h₀ mg mb) : Gd P w h₀ c3 3 mg mb := B.gd gd_noHk fun f args d o h ho => ratTab_ok B h ho
end
end Mine
end

section
set_option autoImplicit false
set_option linter.unusedVariables false
set_option Elab.async false
set_option maxRecDepth 100000
set_option maxHeartbeats 4000000
set_option smartUnfolding false
namespace Mine
open PySem PySem.Calls PyProof.Rows

structure M3 where
  a : Rat
  b : Rat
  c : Rat
  d : Rat
  e : Rat
  f : Rat
  g : Rat
  h : Rat
  i : Rat

theorem M3.ext {X Y : M3} (h1 : X.a = Y.a) (h2 : X.b = Y.b) (h3 : X.c = Y.c) (h4 : X.d = Y.d) (h5 : X.e = Y.e) (h6 : X.f = Y.f) (h7 : X.g = Y.g) (h8 : X.h = Y.h) (h9 : X.i = Y.i) : X = Y := by
  show (⟨X.a, X.b, X.c, X.d, X.e, X.f, X.g, X.h, X.i⟩ : M3) = ⟨Y.a, Y.b, Y.c, Y.d, Y.e, Y.f, Y.g, Y.h, Y.i⟩
  rw [h1, h2, h3, h4, h5, h6, h7, h8, h9]
noncomputable def matD (A : M3) (n d : Nat) : D := .lst [.lst [.rat A.a n d, .rat A.b n d, .rat A.c n d], .lst [.rat A.d n d, .rat A.e n d, .rat A.f n d], .lst [.rat A.g n d, .rat A.h n d, .rat A.i n d]]
noncomputable def M3.mul (A B : M3) : M3 := ⟨0 + A.a * B.a + A.b * B.d + A.c * B.g, 0 + A.a * B.b + A.b * B.e + A.c * B.h, 0 + A.a * B.c + A.b * B.f + A.c * B.i,
  0 + A.d * B.a + A.e * B.d + A.f * B.g, 0 + A.d * B.b + A.e * B.e + A.f * B.h, 0 + A.d * B.c + A.e * B.f + A.f * B.i,
  0 + A.g * B.a + A.h * B.d + A.i * B.g, 0 + A.g * B.b + A.h * B.e + A.i * B.h, 0 + A.g * B.c + A.h * B.f + A.i * B.i⟩
noncomputable def M3.add (A B : M3) : M3 := ⟨A.a + B.a, A.b + B.b, A.c + B.c, A.d + B.d, A.e + B.e, A.f + B.f, A.g + B.g, A.h + B.h, A.i + B.i⟩
noncomputable def M3.scale (A : M3) (r : Rat) : M3 := ⟨A.a * r, A.b * r, A.c * r, A.d * r, A.e * r, A.f * r, A.g * r, A.h * r, A.i * r⟩
noncomputable def M3.one : M3 := ⟨1, 0, 0, 0, 1, 0, 0, 0, 1⟩

theorem andB_intro {a b : Bool} (h1 : a = true) (h2 : b = true) : andB a b = true := by rw [h1, h2]; rfl

theorem rowL {a b c : Rat} {n1 n2 n3 d1 d2 d3 n d : Nat} (a1 : n1 ≤ n) (a2 : n2 ≤ n) (a3 : n3 ≤ n) (b1 : d1 ≤ d) (b2 : d2 ≤ d) (b3 : d3 ≤ d) :
    Wd (.lst [.rat a n1 d1, .rat b n2 d2, .rat c n3 d3]) (.lst [.rat a n d, .rat b n d, .rat c n d]) :=
  wd_lst (Wds.cons (wd_rat a1 b1) (Wds.cons (wd_rat a2 b2) (Wds.cons (wd_rat a3 b3) Wds.nil)))
theorem rowW {a b c : Rat} {n1 n2 n3 d1 d2 d3 n d : Nat} (h : andB (andB (Nat.ble n1 n) (andB (Nat.ble n2 n) (Nat.ble n3 n))) (andB (Nat.ble d1 d) (andB (Nat.ble d2 d) (Nat.ble d3 d))) = true) :
    Wd (.lst [.rat a n1 d1, .rat b n2 d2, .rat c n3 d3]) (.lst [.rat a n d, .rat b n d, .rat c n d]) := by
  obtain ⟨h1, h2⟩ := andB_true h
  obtain ⟨a1, h1⟩ := andB_true h1
  obtain ⟨a2, a3⟩ := andB_true h1
  obtain ⟨b1, h2⟩ := andB_true h2
  obtain ⟨b2, b3⟩ := andB_true h2
  exact wd_lst (Wds.cons (wd_rat (Nat.le_of_ble_eq_true a1) (Nat.le_of_ble_eq_true b1)) (Wds.cons (wd_rat (Nat.le_of_ble_eq_true a2) (Nat.le_of_ble_eq_true b2)) (Wds.cons (wd_rat (Nat.le_of_ble_eq_true a3) (Nat.le_of_ble_eq_true b3)) Wds.nil)))
theorem gridW {r1 r2 r3 s1 s2 s3 : D} (h1 : Wd r1 s1) (h2 : Wd r2 s2) (h3 : Wd r3 s3) : Wd (.lst [r1, r2, r3]) (.lst [s1, s2, s3]) := wd_lst (Wds.cons h1 (Wds.cons h2 (Wds.cons h3 Wds.nil)))

section
variable {w : World} {h₀ : Heap} {c : Cfg} {K K' : Nat} {mg mb : Str → Option Value} {f : Str} {d d' : D}

theorem spec_of (B : Base w h₀ mg mb) (G : Gd P w h₀ c K mg mb) {g dep : Nat} {ds : List Bool} {fn : FnRec} {args : List D} {st' : St} (hf : c.fns f = some fn) (hk : fn.keep = false)
    (run : ∃ d1 o, runF (ev c g) ⟨[], ds, dep⟩ fn args = some (d1, st', o) ∧ o = true ∧ Wd d1 d') : TabOk w h₀ mg (K + dep) f args d' := by
  obtain ⟨d1, o, e, rfl, hw⟩ := run
  exact (B.run G hf hk e).widen hw

theorem mul_spec (B : Base w h₀ mg mb) (X Y : M3) (n d m e : Nat) (h1 : 3 * (d + e) ≤ 8000) (h2 : 3 * (n + m) + 6 * (d + e) + 3 ≤ 100000000) :
    TabOk w h₀ mg 10 "mat_mul" [matD X n d, matD Y m e] (matD (X.mul Y) (3 * (n + m) + 6 * (d + e) + 3) (3 * (d + e))) := by
  refine spec_of B (gd3 B) (g := 30) (dep := 7) (ds := []) (st' := ⟨[], [], 7⟩) (fn := theFn "mat_mul") rfl rfl ⟨_, _, rfl, ?_, ?_⟩
  · repeat' first | (with_reducible apply andB_intro) | (refine Nat.ble_eq_true_of_le ?_; omega) | rfl
  · repeat' first | apply wd_lst | apply Wds.cons | exact Wds.nil | (apply wd_rat <;> omega)
theorem add_spec (B : Base w h₀ mg mb) (X Y : M3) (n d m e : Nat) (h1 : d + e ≤ 8000) (h2 : n + m + d + e ≤ 100000000) :
    TabOk w h₀ mg 10 "mat_add" [matD X n d, matD Y m e] (matD (X.add Y) (n + m + d + e + 1) (d + e)) := by
  refine spec_of B (gd3 B) (g := 30) (dep := 7) (ds := []) (st' := ⟨[], [], 7⟩) (fn := theFn "mat_add") rfl rfl ⟨_, _, rfl, ?_, ?_⟩
  · repeat' first | (with_reducible apply andB_intro) | (refine Nat.ble_eq_true_of_le ?_; omega) | rfl
  · repeat' first | apply wd_lst | apply Wds.cons | exact Wds.nil | (apply wd_rat <;> omega)
theorem scale_spec (B : Base w h₀ mg mb) (X : M3) (r : Rat) (n d m e : Nat) (h1 : d + e ≤ 8000) (h2 : n + m + d + e ≤ 100000000) :
    TabOk w h₀ mg 10 "mat_scale" [matD X n d, .rat r m e] (matD (X.scale r) (n + m) (d + e)) := by
  refine spec_of B (gd3 B) (g := 30) (dep := 7) (ds := []) (st' := ⟨[], [], 7⟩) (fn := theFn "mat_scale") rfl rfl ⟨_, _, rfl, ?_, ?_⟩
  · repeat' first | (with_reducible apply andB_intro) | (refine Nat.ble_eq_true_of_le ?_; omega) | rfl
  · repeat' first | apply wd_lst | apply Wds.cons | exact Wds.nil | (apply wd_rat <;> omega)
theorem unit_spec (B : Base w h₀ mg mb) : TabOk w h₀ mg 10 "unit_matrix" [litD 3] (matD M3.one 1 0) := by
  refine spec_of B (gd3 B) (g := 30) (dep := 7) (ds := []) (st' := ⟨[], [], 7⟩) (fn := theFn "unit_matrix") rfl rfl ⟨_, _, rfl, ?_, ?_⟩
  · repeat' first | (with_reducible apply andB_intro) | (refine Nat.ble_eq_true_of_le ?_; omega) | rfl
  · repeat' first | apply wd_lst | apply Wds.cons | exact Wds.nil | (apply wd_rat <;> omega)
end
end Mine
end

section
set_option autoImplicit false
set_option linter.unusedVariables false
set_option Elab.async false
set_option maxHeartbeats 4000000
set_option maxRecDepth 100000
namespace Mine
open PySem PySem.Calls PyProof.Rows

/-! what a datum is, asked step by step -/
noncomputable def lstOf : D → Option (List D)
  | .lst l => some l
  | _ => none
theorem lstOf_ok {x : D} {l : List D} (h : lstOf x = some l) : x = .lst l := by
  cases x <;> first | (injection h with h; rw [h]) | cases h
noncomputable def tupOf : D → Option (List D)
  | .tup l => some l
  | _ => none
theorem tupOf_ok {x : D} {l : List D} (h : tupOf x = some l) : x = .tup l := by
  cases x <;> first | (injection h with h; rw [h]) | cases h
noncomputable def intOf : D → Option (Int × Nat)
  | .int i n => some (i, n)
  | _ => none
theorem intOf_ok {x : D} {i : Int} {n : Nat} (h : intOf x = some (i, n)) : x = .int i n := by
  cases x <;> first | (injection h with h; injection h with h1 h2; rw [h1, h2]) | cases h
noncomputable def ratOf : D → Option (Rat × Nat × Nat)
  | .rat q n d => some (q, n, d)
  | _ => none
theorem ratOf_ok {x : D} {q : Rat} {n d : Nat} (h : ratOf x = some (q, n, d)) : x = .rat q n d := by
  cases x <;> first | (injection h with h; injection h with h1 h; injection h with h2 h3; rw [h1, h2, h3]) | cases h
noncomputable def mutOf : D → Option Nat
  | .mut k => some k
  | _ => none
theorem mutOf_ok {x : D} {k : Nat} (h : mutOf x = some k) : x = .mut k := by
  cases x <;> first | (injection h with h; rw [h]) | cases h
noncomputable def one1 {α : Type} : List α → Option α
  | a :: r => (match r with
    | [] => some a
    | _ :: _ => none)
  | [] => none
theorem one1_ok {α : Type} {l : List α} {a : α} (h : one1 l = some a) : l = [a] := by
  cases l with
  | nil => cases h
  | cons b r =>
    cases r with
    | nil => injection h with h; rw [h]
    | cons _ _ => cases h
noncomputable def two {α : Type} : List α → Option (α × α)
  | a :: r => (match one1 r with
    | some b => some (a, b)
    | none => none)
  | [] => none
theorem two_ok {α : Type} {l : List α} {a b : α} (h : two l = some (a, b)) : l = [a, b] := by
  cases l with
  | nil => cases h
  | cons x r =>
    cases e : one1 r with
    | none => simp only [two, e] at h; cases h
    | some y =>
      simp only [two, e] at h
      injection h with h; injection h with h1 h2
      rw [one1_ok e, h1, h2]
noncomputable def three {α : Type} : List α → Option (α × α × α)
  | a :: r => (match two r with
    | some (b, c) => some (a, b, c)
    | none => none)
  | [] => none
theorem three_ok {α : Type} {l : List α} {a b c : α} (h : three l = some (a, b, c)) : l = [a, b, c] := by
  cases l with
  | nil => cases h
  | cons x r =>
    cases e : two r with
    | none => simp only [three, e] at h; cases h
    | some y =>
      obtain ⟨y, z⟩ := y
      simp only [three, e] at h
      injection h with h; injection h with h1 h; injection h with h2 h3
      rw [two_ok e, h1, h2, h3]
noncomputable def boxIn (l : List D) : Option (List D × Int × Nat) := match two l with
  | some (a, b) => (match lstOf a with
    | some l => (match intOf b with
      | some (x, t) => some (l, x, t)
      | none => none)
    | none => none)
  | none => none
theorem boxIn_ok {m l : List D} {x : Int} {t : Nat} (h : boxIn m = some (l, x, t)) : m = [.lst l, .int x t] := by
  unfold boxIn at h
  split at h
  · rename_i e1
    split at h
    · rename_i e2
      split at h
      · rename_i e3
        injection h with h; injection h with h1 h; injection h with h2 h3
        rw [two_ok e1, lstOf_ok e2, intOf_ok e3, h1, h2, h3]
      · first | exact no_some h | cases h
    · first | exact no_some h | cases h
  · first | exact no_some h | cases h
noncomputable def box0 (σ : Sto) (b : D) : Option (List D × Int × Nat) := match one1 σ with
  | some r => (match r with
    | some m => (match mutOf b with
      | some k => cond (Nat.beq k 0) (boxIn m) none
      | none => none)
    | none => none)
  | none => none
theorem box0_ok {σ : Sto} {b : D} {l : List D} {x : Int} {t : Nat} (h : box0 σ b = some (l, x, t)) : σ = [some [.lst l, .int x t]] ∧ b = .mut 0 := by
  unfold box0 at h
  split at h
  · rename_i e1
    split at h
    · split at h
      · rename_i e2
        rcases cond_two h with ⟨hk, h⟩ | ⟨_, h⟩
        · have hk := Nat.eq_of_beq_eq_true hk
          subst hk
          rw [one1_ok e1, mutOf_ok e2, boxIn_ok h]
          exact ⟨rfl, rfl⟩
        · first | exact no_some h | cases h
      · first | exact no_some h | cases h
    · first | exact no_some h | cases h
  · first | exact no_some h | cases h
noncomputable def ratsOf : List D → Option (List (Rat × Nat × Nat))
  | [] => some []
  | x :: r => match ratOf x with
    | some q => (match ratsOf r with
      | some l => some (q :: l)
      | none => none)
    | none => none
noncomputable def ratD (q : Rat × Nat × Nat) : D := .rat q.1 q.2.1 q.2.2
theorem ratsOf_ok : ∀ {l : List D} {r : List (Rat × Nat × Nat)}, ratsOf l = some r → l = r.map ratD
  | [], _, h => by injection h with h; subst h; rfl
  | x :: l, r, h => by
    unfold ratsOf at h
    split at h
    · rename_i e1
      split at h
      · rename_i e2
        injection h with h; subst h
        rw [ratsOf_ok e2, ratOf_ok e1]; rfl
      · first | exact no_some h | cases h
    · first | exact no_some h | cases h
noncomputable def rowOf (x : D) : Option (List (Rat × Nat × Nat)) := match lstOf x with
  | some l => ratsOf l
  | none => none
theorem rowOf_ok {x : D} {r : List (Rat × Nat × Nat)} (h : rowOf x = some r) : x = .lst (r.map ratD) := by
  unfold rowOf at h
  split at h
  · rename_i e; rw [lstOf_ok e, ratsOf_ok h]
  · first | exact no_some h | cases h
noncomputable def rowsOf : List D → Option (List (List (Rat × Nat × Nat)))
  | [] => some []
  | x :: r => match rowOf x with
    | some q => (match rowsOf r with
      | some l => some (q :: l)
      | none => none)
    | none => none
theorem rowsOf_ok : ∀ {l : List D} {r : List (List (Rat × Nat × Nat))}, rowsOf l = some r → l = r.map fun q => .lst (q.map ratD)
  | [], _, h => by injection h with h; subst h; rfl
  | x :: l, r, h => by
    unfold rowsOf at h
    split at h
    · rename_i e1
      split at h
      · rename_i e2
        injection h with h; subst h
        rw [rowsOf_ok e2, rowOf_ok e1]; rfl
      · first | exact no_some h | cases h
    · first | exact no_some h | cases h
noncomputable def gridOf (x : D) : Option (List (List (Rat × Nat × Nat))) := match lstOf x with
  | some l => rowsOf l
  | none => none
theorem gridOf_ok {x : D} {r : List (List (Rat × Nat × Nat))} (h : gridOf x = some r) : x = .lst (r.map fun q => .lst (q.map ratD)) := by
  unfold gridOf at h
  split at h
  · rename_i e; rw [lstOf_ok e, rowsOf_ok h]
  · first | exact no_some h | cases h
abbrev Tri : Type := (Rat × Rat × Rat) × (Nat × Nat × Nat) × (Nat × Nat × Nat)
noncomputable def tri (l : List (Rat × Nat × Nat)) : Option Tri := match three l with
  | some ((a, n1, d1), (b, n2, d2), (c, n3, d3)) => some ((a, b, c), (n1, n2, n3), (d1, d2, d3))
  | none => none
theorem tri_ok {l : List (Rat × Nat × Nat)} {a b c : Rat} {n1 n2 n3 d1 d2 d3 : Nat} (h : tri l = some ((a, b, c), (n1, n2, n3), (d1, d2, d3))) : l = [(a, n1, d1), (b, n2, d2), (c, n3, d3)] := by
  unfold tri at h
  split at h
  · rename_i e
    injection h with h
    simp only [Prod.mk.injEq] at h
    obtain ⟨⟨rfl, rfl, rfl⟩, ⟨rfl, rfl, rfl⟩, rfl, rfl, rfl⟩ := h
    exact three_ok e
  · first | exact no_some h | cases h
noncomputable def each3 {α β : Type} (f : α → Option β) (x : α × α × α) : Option (β × β × β) := match f x.1 with
  | some a => (match f x.2.1 with
    | some b => (match f x.2.2 with
      | some c => some (a, b, c)
      | none => none)
    | none => none)
  | none => none
theorem each3_ok {α β : Type} {f : α → Option β} {x : α × α × α} {a b c : β} (h : each3 f x = some (a, b, c)) : f x.1 = some a ∧ f x.2.1 = some b ∧ f x.2.2 = some c := by
  unfold each3 at h
  split at h
  · rename_i e1
    split at h
    · rename_i e2
      split at h
      · rename_i e3
        injection h with h; injection h with h1 h; injection h with h2 h3
        rw [e1, e2, e3, h1, h2, h3]
        exact ⟨rfl, rfl, rfl⟩
      · first | exact no_some h | cases h
    · first | exact no_some h | cases h
  · first | exact no_some h | cases h
noncomputable def trip3 {α β : Type} (f : α → Option β) (l : List α) : Option (β × β × β) := match three l with
  | some x => each3 f x
  | none => none
theorem trip3_ok {α β : Type} {f : α → Option β} {l : List α} {a b c : β} (h : trip3 f l = some (a, b, c)) : ∃ x y z, l = [x, y, z] ∧ f x = some a ∧ f y = some b ∧ f z = some c := by
  unfold trip3 at h
  split at h
  · rename_i x e
    obtain ⟨x, y, z⟩ := x
    obtain ⟨h1, h2, h3⟩ := each3_ok h
    exact ⟨x, y, z, three_ok e, h1, h2, h3⟩
  · first | exact no_some h | cases h
end Mine
end

section
set_option autoImplicit false
set_option linter.unusedVariables false
set_option Elab.async false
set_option maxRecDepth 100000
set_option maxHeartbeats 4000000
set_option smartUnfolding false
namespace Mine
open PySem PySem.Calls PyProof.Rows

section
variable {w : World} {h₀ : Heap} {c : Cfg} {K K' : Nat} {mg mb : Str → Option Value} {f : Str} {d d' : D}

noncomputable def M3.pow (X : M3) (k : Int) : M3 := if k = 0 then M3.one else if k = 1 then M3.one.mul X else if k = 2 then M3.one.mul (X.mul X) else (M3.one.mul X).mul (X.mul X)

theorem pow_spec (B : Base w h₀ mg mb) (X : M3) (k : Int) (t : Nat) (hk : 0 ≤ k) (hk3 : k ≤ 3) :
    TabOk w h₀ mg 10 "mat_power" [matD X 64 1, .int k t] (matD (X.pow k) 2048 32) := by
  have : k = 0 ∨ k = 1 ∨ k = 2 ∨ k = 3 := by omega
  rcases this with rfl | rfl | rfl | rfl
  all_goals exact spec_of B (gd3 B) (g := 40) (dep := 7) (ds := []) (st' := ⟨[], [], 7⟩) (fn := theFn "mat_power") rfl rfl ⟨_, true, rfl, rfl, gridW (rowW rfl) (rowW rfl) (rowW rfl)⟩

theorem wd_known {q q' : Rat} {n d n' d' : Nat} (h : q = q') (h1 : q'.num.natAbs ≤ 2 ^ n') (h2 : q'.den ≤ 2 ^ d') : Wd (.rat q n d) (.rat q' n' d') := fun _ _ _ _ r => by
  subst h; exact ⟨r.1, h1, h2⟩
noncomputable def known (f : Str) (args : List D) (a b c : Rat) : Bool := match runF (ev c3 40) ⟨[], [], 7⟩ (theFn f) args with
  | some (d, st, o) => (match rowOf d with
    | some l => (match tri l with
      | some ((p, q, r), _, _) => o && (st.sto.isEmpty && (st.ds.isEmpty && (decide (st.dep = 7) && (decide (p = a) && (decide (q = b) && decide (r = c))))))
      | none => false)
    | none => false)
  | none => false
theorem known_run {f : Str} {args : List D} {a b c : Rat} (h : known f args a b c = true) : ∃ n d m e k l, runF (ev c3 40) ⟨[], [], 7⟩ (theFn f) args = some (.lst [.rat a n d, .rat b m e, .rat c k l], ⟨[], [], 7⟩, true) := by
  unfold known at h
  split at h
  · rename_i d st o e0
    split at h
    · rename_i e1
      split at h
      · rename_i p q r ns ds e2
        simp only [Bool.and_eq_true, decide_eq_true_eq, List.isEmpty_iff] at h
        obtain ⟨h1, h2, h3, h4, h5, h6, h7⟩ := h
        obtain ⟨σ, dss, dep⟩ := st
        simp only at h2 h3 h4
        subst h1 h2 h3 h4 h5 h6 h7
        obtain ⟨n1, n2, n3⟩ := ns
        obtain ⟨d1, d2, d3⟩ := ds
        refine ⟨n1, d1, n2, d2, n3, d3, e0.trans ?_⟩
        rw [rowOf_ok e1, tri_ok e2]; rfl
      · first | exact no_some h | cases h
    · first | exact no_some h | cases h
  · first | exact no_some h | cases h
theorem sexp_known : known "sexp" [.lst [.rat 0 0 0, .rat 1 1 0, .rat 0 0 0]] 1 1 (1/2) = true := by decide +kernel
theorem slog_known : known "slog" [.lst [.rat 1 1 0, .rat 1 1 0, .rat 0 0 0]] 0 1 (-1/2) = true := by decide +kernel

theorem sexp_spec (B : Base w h₀ mg mb) : TabOk w h₀ mg 10 "sexp" [.lst [.rat 0 0 0, .rat 1 1 0, .rat 0 0 0]] (.lst [.rat 1 0 0, .rat 1 0 0, .rat (1/2) 0 1]) := by
  obtain ⟨n, d, m, e, k, l, h⟩ := known_run sexp_known
  exact (B.run (gd3 B) (f := "sexp") (fn := theFn "sexp") rfl rfl h).widen (wd_lst (Wds.cons (wd_known rfl (by decide +kernel) (by decide +kernel)) (Wds.cons (wd_known rfl (by decide +kernel) (by decide +kernel)) (Wds.cons (wd_known rfl (by decide +kernel) (by decide +kernel)) Wds.nil))))
theorem slog_spec (B : Base w h₀ mg mb) : TabOk w h₀ mg 10 "slog" [.lst [.rat 1 1 0, .rat 1 1 0, .rat 0 0 0]] (.lst [.rat 0 0 0, .rat 1 0 0, .rat (-1/2) 0 1]) := by
  obtain ⟨n, d, m, e, k, l, h⟩ := known_run slog_known
  exact (B.run (gd3 B) (f := "slog") (fn := theFn "slog") rfl rfl h).widen (wd_lst (Wds.cons (wd_known rfl (by decide +kernel) (by decide +kernel)) (Wds.cons (wd_known rfl (by decide +kernel) (by decide +kernel)) (Wds.cons (wd_known rfl (by decide +kernel) (by decide +kernel)) Wds.nil))))
end
end Mine
end

section
set_option autoImplicit false
set_option linter.unusedVariables false
set_option Elab.async false
set_option maxRecDepth 100000
set_option maxHeartbeats 4000000
set_option smartUnfolding false
namespace Mine
open PySem PySem.Calls PyProof.Rows

section
variable {w : World} {h₀ : Heap} {c : Cfg} {K K' : Nat} {mg mb : Str → Option Value} {f : Str} {d d' : D}

noncomputable def serTab (f : Str) (args : List D) : Option (D × Bool) := match one1 args with
  | some x => (match rowOf x with
    | some l => (match tri l with
      | some t =>
        cond (f == ("sexp" : Str)) (some (.lst [.rat 1 0 0, .rat 1 0 0, .rat (1/2) 0 1], decide (t = ((0, 1, 0), (0, 1, 0), (0, 0, 0))))) <|
        cond (f == ("slog" : Str)) (some (.lst [.rat 0 0 0, .rat 1 0 0, .rat (-1/2) 0 1], decide (t = ((1, 1, 0), (1, 1, 0), (0, 0, 0))))) none
      | none => none)
    | none => none)
  | none => none
noncomputable def isSer (f : Str) : Bool := f == ("sexp" : Str) || f == ("slog" : Str)
theorem serTab_ok (B : Base w h₀ mg mb) {args : List D} {o : Bool} (h : serTab f args = some (d, o)) (ho : o = true) : TabOk w h₀ mg 10 f args d := by
  unfold serTab at h
  split at h
  · rename_i e0
    split at h
    · rename_i e1
      split at h
      · rename_i e2
        rcases cond_two h with ⟨hf, h⟩ | ⟨_, h⟩
        · injection h with h; injection h with h3 h4
          rw [of_decide_eq_true (h4.trans ho)] at e2
          rw [one1_ok e0, rowOf_ok e1, tri_ok e2, beq_iff_eq.mp hf, ← h3]
          exact sexp_spec B
        rcases cond_two h with ⟨hf, h⟩ | ⟨_, h⟩
        · injection h with h; injection h with h3 h4
          rw [of_decide_eq_true (h4.trans ho)] at e2
          rw [one1_ok e0, rowOf_ok e1, tri_ok e2, beq_iff_eq.mp hf, ← h3]
          exact slog_spec B
        · first | exact no_some h | cases h
      · first | exact no_some h | cases h
    · first | exact no_some h | cases h
  · first | exact no_some h | cases h
noncomputable def tab3 (f : Str) (args : List D) : Option (D × Bool) := cond (isSer f) (serTab f args) (ratTab f args)
noncomputable def c4 : Cfg := cfg tab3 noHk (fun f => !(ratOps f || isSer f)) [] [(51, 11), (85, 32), (131, 12), (147, 12)]
theorem gd4 (B : Base w h₀ mg mb) : Gd P w h₀ c4 10 mg mb := B.gd gd_noHk fun f args d o h ho => by
  unfold tab3 at h
  rcases cond_two h with ⟨_, h⟩ | ⟨_, h⟩
  · exact serTab_ok B h ho
  · exact (ratTab_ok B h ho).more (by decide)

noncomputable def M3.zero : M3 := M3.one.scale 0
noncomputable def M3.poly (X : M3) (p q r : Rat) : M3 := ((((((M3.one.scale 0).mul X).add (M3.one.scale r)).mul X).add (M3.one.scale q)).mul X).add (M3.one.scale p)
noncomputable def M3.exp (X : M3) : M3 := X.poly 1 1 (1/2)

theorem poly_spec (B : Base w h₀ mg mb) (X : M3) (p q r : Rat) :
    TabOk w h₀ mg 20 "poly_of_matrix" [.lst [.rat p 0 0, .rat q 0 0, .rat r 0 1], matD X 2048 8] (matD (X.poly p q r) 262144 512) :=
  spec_of B (gd4 B) (g := 40) (dep := 10) (ds := []) (st' := ⟨[], [], 10⟩) (fn := theFn "poly_of_matrix") rfl rfl ⟨_, true, rfl, rfl, gridW (rowW rfl) (rowW rfl) (rowW rfl)⟩
end
end Mine
end

section
set_option autoImplicit false
set_option linter.unusedVariables false
set_option Elab.async false
set_option maxHeartbeats 4000000
namespace Mine
open PySem PySem.Calls PyProof.Rows

noncomputable def M3.all (p : Rat → Prop) (X : M3) : Prop := p X.a ∧ p X.b ∧ p X.c ∧ p X.d ∧ p X.e ∧ p X.f ∧ p X.g ∧ p X.h ∧ p X.i
noncomputable def bnd (n d : Nat) (q : Rat) : Prop := q.num.natAbs ≤ 2 ^ n ∧ q.den ≤ 2 ^ d

theorem int_of_bnd {n : Nat} {q : Rat} (h : bnd n 0 q) : ∃ z : Int, q = z ∧ z.natAbs ≤ 2 ^ n := by
  refine ⟨q.num, ?_, h.1⟩
  have hd : q.den = 1 := by have := q.den_pos; have := h.2; simp at this; omega
  conv => lhs; rw [num_den q]
  rw [hd]
  grind

theorem half_bnd {z : Int} {n : Nat} {q : Rat} (hz : z.natAbs ≤ 2 ^ n) (h : q = (z : Rat) / 2) : bnd n 1 q := by
  have : q = mkRat z 2 := by rw [h, Rat.mkRat_eq_div]; rfl
  subst this
  constructor
  · rw [Rat.num_mkRat]
    simp only [show (2 : Nat) ≠ 0 by decide, if_false]
    exact Nat.le_trans (Int.natAbs_ediv_le_natAbs _ _) hz
  · rw [Rat.den_mkRat]
    simp only [show (2 : Nat) ≠ 0 by decide, if_false]
    exact Nat.div_le_self _ _

theorem exp_entry {n : Nat} {e x p1 p2 p3 q1 q2 q3 : Int} (he : e.natAbs ≤ 1) (hx : x.natAbs ≤ 2 ^ n) (h1 : p1.natAbs ≤ 2 ^ n) (h2 : p2.natAbs ≤ 2 ^ n) (h3 : p3.natAbs ≤ 2 ^ n) (k1 : q1.natAbs ≤ 2 ^ n) (k2 : q2.natAbs ≤ 2 ^ n) (k3 : q3.natAbs ≤ 2 ^ n) :
    (2 * e + 2 * x + (p1 * q1 + p2 * q2 + p3 * q3)).natAbs ≤ 2 ^ (2 * n + 3) := by
  have m1 : (p1 * q1).natAbs ≤ 2 ^ n * 2 ^ n := by rw [Int.natAbs_mul]; exact Nat.mul_le_mul h1 k1
  have m2 : (p2 * q2).natAbs ≤ 2 ^ n * 2 ^ n := by rw [Int.natAbs_mul]; exact Nat.mul_le_mul h2 k2
  have m3 : (p3 * q3).natAbs ≤ 2 ^ n * 2 ^ n := by rw [Int.natAbs_mul]; exact Nat.mul_le_mul h3 k3
  have hp : 1 ≤ 2 ^ n := Nat.one_le_two_pow
  have ht : 2 ^ n ≤ 2 ^ n * 2 ^ n := Nat.le_mul_of_pos_left _ hp
  have e8 : 2 ^ (2 * n + 3) = 8 * (2 ^ n * 2 ^ n) := by rw [Nat.pow_add, Nat.two_mul, Nat.pow_add, Nat.mul_comm]
  rw [e8]
  generalize 2 ^ n * 2 ^ n = T at *
  have t1 := Int.natAbs_add_le (2 * e + 2 * x) (p1 * q1 + p2 * q2 + p3 * q3)
  have t2 := Int.natAbs_add_le (2 * e) (2 * x)
  have t3 := Int.natAbs_add_le (p1 * q1 + p2 * q2) (p3 * q3)
  have t4 := Int.natAbs_add_le (p1 * q1) (p2 * q2)
  have t5 : (2 * e).natAbs = 2 * e.natAbs := Int.natAbs_mul _ _
  have t6 : (2 * x).natAbs = 2 * x.natAbs := Int.natAbs_mul _ _
  generalize 2 ^ n = S at *
  clear e8 h1 h2 h3 k1 k2 k3
  generalize (2 * e + 2 * x + (p1 * q1 + p2 * q2 + p3 * q3)).natAbs = z1 at *
  generalize (2 * e + 2 * x).natAbs = z2 at *
  generalize (p1 * q1 + p2 * q2 + p3 * q3).natAbs = z3 at *
  generalize (p1 * q1 + p2 * q2).natAbs = z4 at *
  generalize (p1 * q1).natAbs = z5 at *
  generalize (p2 * q2).natAbs = z6 at *
  generalize (p3 * q3).natAbs = z7 at *
  generalize (2 * e).natAbs = z8 at *
  generalize (2 * x).natAbs = z9 at *
  generalize e.natAbs = z10 at *
  generalize x.natAbs = z11 at *
  omega

theorem horner1 (X : M3) (r : Rat) : (((M3.one.scale 0).mul X).add (M3.one.scale r)) = M3.one.scale r := by
  apply M3.ext <;> simp only [M3.one, M3.scale, M3.mul, M3.add] <;> grind
theorem horner2 (X : M3) (q r : Rat) : (((M3.one.scale r).mul X).add (M3.one.scale q)) = ⟨q + r * X.a, r * X.b, r * X.c, r * X.d, q + r * X.e, r * X.f, r * X.g, r * X.h, q + r * X.i⟩ := by
  apply M3.ext <;> simp only [M3.one, M3.scale, M3.mul, M3.add] <;> grind
theorem poly_eq (X : M3) (p q r : Rat) : X.poly p q r = ⟨p + q * X.a + r * (X.a * X.a + X.b * X.d + X.c * X.g), q * X.b + r * (X.a * X.b + X.b * X.e + X.c * X.h), q * X.c + r * (X.a * X.c + X.b * X.f + X.c * X.i),
    q * X.d + r * (X.d * X.a + X.e * X.d + X.f * X.g), p + q * X.e + r * (X.d * X.b + X.e * X.e + X.f * X.h), q * X.f + r * (X.d * X.c + X.e * X.f + X.f * X.i),
    q * X.g + r * (X.g * X.a + X.h * X.d + X.i * X.g), q * X.h + r * (X.g * X.b + X.h * X.e + X.i * X.h), p + q * X.i + r * (X.g * X.c + X.h * X.f + X.i * X.i)⟩ := by
  unfold M3.poly
  rw [horner1, horner2]
  apply M3.ext <;> simp only [M3.one, M3.scale, M3.mul, M3.add] <;> grind

theorem exp_bnd {X : M3} {n : Nat} (h : X.all (bnd n 0)) : X.exp.all (bnd (2 * n + 3) 1) := by
  obtain ⟨p1, p2, p3, p4, p5, p6, p7, p8, p9⟩ := h
  obtain ⟨a, ha, b1⟩ := int_of_bnd p1
  obtain ⟨b, hb, b2⟩ := int_of_bnd p2
  obtain ⟨c, hc, b3⟩ := int_of_bnd p3
  obtain ⟨d, hd, b4⟩ := int_of_bnd p4
  obtain ⟨e, he, b5⟩ := int_of_bnd p5
  obtain ⟨f, hf, b6⟩ := int_of_bnd p6
  obtain ⟨g, hg, b7⟩ := int_of_bnd p7
  obtain ⟨h, hh, b8⟩ := int_of_bnd p8
  obtain ⟨i, hi, b9⟩ := int_of_bnd p9
  obtain ⟨xa, xb, xc, xd, xe, xf, xg, xh, xi⟩ := X
  simp only at ha hb hc hd he hf hg hh hi
  subst ha hb hc hd he hf hg hh hi
  have one : (1 : Int).natAbs ≤ 1 := by decide
  have zer : (0 : Int).natAbs ≤ 1 := by decide
  refine ⟨half_bnd (exp_entry one b1 b1 b2 b3 b1 b4 b7) ?_, half_bnd (exp_entry zer b2 b1 b2 b3 b2 b5 b8) ?_, half_bnd (exp_entry zer b3 b1 b2 b3 b3 b6 b9) ?_,
    half_bnd (exp_entry zer b4 b4 b5 b6 b1 b4 b7) ?_, half_bnd (exp_entry one b5 b4 b5 b6 b2 b5 b8) ?_, half_bnd (exp_entry zer b6 b4 b5 b6 b3 b6 b9) ?_,
    half_bnd (exp_entry zer b7 b7 b8 b9 b1 b4 b7) ?_, half_bnd (exp_entry zer b8 b7 b8 b9 b2 b5 b8) ?_, half_bnd (exp_entry one b9 b7 b8 b9 b3 b6 b9) ?_⟩
  all_goals
    rw [M3.exp, poly_eq]
    simp only [Rat.intCast_add, Rat.intCast_mul]
    grind

end Mine
end

section
set_option autoImplicit false
set_option linter.unusedVariables false
set_option Elab.async false
set_option maxRecDepth 100000
set_option maxHeartbeats 4000000
set_option smartUnfolding false
namespace Mine
open PySem PySem.Calls PyProof.Rows

section
variable {w : World} {h₀ : Heap} {c : Cfg} {K K' : Nat} {mg mb : Str → Option Value} {f : Str} {d d' : D}

theorem exp_spec (B : Base w h₀ mg mb) (X : M3) : TabOk w h₀ mg 21 "_law_exp" [matD X 2048 8] (matD X.exp 262144 512) :=
  spec_of B (gd4 B) (g := 40) (dep := 11) (ds := []) (st' := ⟨[], [], 11⟩) (fn := theFn "_law_exp") rfl rfl ⟨_, true, rfl, rfl, gridW (rowW rfl) (rowW rfl) (rowW rfl)⟩

theorem rep_lst {h : Heap} {M : Addr → Prop} {ρ : List Addr} {l : List D} {v : Value} (r : Rep h M ρ (.lst l) v) : ∃ vs, Reps h M ρ l vs := by
  obtain ⟨_, vs, _, _, _, r⟩ := r
  exact ⟨vs, r⟩
theorem reps_cons {h : Heap} {M : Addr → Prop} {ρ : List Addr} {d : D} {l : List D} (r : ∃ vs, Reps h M ρ (d :: l) vs) : (∃ v, Rep h M ρ d v) ∧ ∃ vs, Reps h M ρ l vs := by
  obtain ⟨_, v, vs, _, x, y⟩ := r
  exact ⟨⟨v, x⟩, vs, y⟩
theorem rat_bnd {h : Heap} {M : Addr → Prop} {ρ : List Addr} {q : Rat} {n d : Nat} (r : ∃ v, Rep h M ρ (.rat q n d) v) : bnd n d q := by
  obtain ⟨_, _, p⟩ := r
  exact p
theorem row_bnd {h : Heap} {M : Addr → Prop} {ρ : List Addr} {a b c : Rat} {n d : Nat} (r : ∃ v, Rep h M ρ (.lst [.rat a n d, .rat b n d, .rat c n d]) v) : bnd n d a ∧ bnd n d b ∧ bnd n d c := by
  obtain ⟨_, r⟩ := r
  have r1 := reps_cons (rep_lst r)
  have r2 := reps_cons r1.2
  have r3 := reps_cons r2.2
  exact ⟨rat_bnd r1.1, rat_bnd r2.1, rat_bnd r3.1⟩
theorem rep_bnd {h : Heap} {M : Addr → Prop} {ρ : List Addr} {X : M3} {n d : Nat} {v : Value} (r : Rep h M ρ (matD X n d) v) : X.all (bnd n d) := by
  have r1 := reps_cons (rep_lst r)
  have r2 := reps_cons r1.2
  have r3 := reps_cons r2.2
  have a := row_bnd r1.1
  have b := row_bnd r2.1
  have c := row_bnd r3.1
  exact ⟨a.1, a.2.1, a.2.2, b.1, b.2.1, b.2.2, c.1, c.2.1, c.2.2⟩

theorem wd_bnd {q : Rat} {n d n' d' : Nat} (h : bnd n' d' q) : Wd (.rat q n d) (.rat q n' d') := fun _ _ _ _ r => ⟨r.1, h.1, h.2⟩
theorem wd_mat {X : M3} {n d n' d' : Nat} (h : X.all (bnd n' d')) : Wd (matD X n d) (matD X n' d') := by
  obtain ⟨p1, p2, p3, p4, p5, p6, p7, p8, p9⟩ := h
  unfold matD
  repeat' first | apply wd_lst | apply Wds.cons | exact Wds.nil | (apply wd_bnd; assumption)

theorem TabOk.of_rep {args : List D} (h : (∃ hp M ρ vs, Reps hp M ρ args vs) → TabOk w h₀ mg K f args d) (hf : ∃ fn, fnOf f = some fn) (B : Base w h₀ mg mb) : TabOk w h₀ mg K f args d := by
  by_cases q : ∃ hp M ρ vs, Reps hp M ρ args vs
  · exact h q
  · obtain ⟨fn, hf⟩ := hf
    obtain ⟨a, o, params, pm, cd, doc, h1, h2, h3, _⟩ := B.fns hf
    exact ⟨a, o, _, h1, h2, h3, fun A s F vals hA I r => absurd ⟨_, _, _, _, r⟩ q⟩

theorem exp_int (B : Base w h₀ mg mb) (X : M3) : TabOk w h₀ mg 21 "_law_exp" [matD X 16 0] (matD X.exp 35 1) := by
  refine TabOk.of_rep (fun ⟨h, M, ρ, vs, r⟩ => ?_) ⟨theFn "_law_exp", rfl⟩ B
  obtain ⟨v, rfl, r1⟩ := one_rep r
  exact ((exp_spec B X).inp (Wds.cons (gridW (rowW rfl) (rowW rfl) (rowW rfl)) Wds.nil)).widen (wd_mat (exp_bnd (rep_bnd r1)))
end
end Mine
end

section
set_option autoImplicit false
set_option linter.unusedVariables false
set_option Elab.async false
set_option maxRecDepth 100000
set_option maxHeartbeats 4000000
set_option smartUnfolding false
namespace Mine
open PySem PySem.Calls PyProof.Rows

noncomputable def ev2 (c : Cfg) (n : Nat) : Self := Nat.rec bot (fun _ s => step c s) n
theorem ev_eq (c : Cfg) : ∀ n, ev c n = ev2 c n
  | 0 => rfl
  | n + 1 => by
    show step c (forced (ev c n)) = step c (ev2 c n)
    rw [forced_eq, ev_eq c n]
theorem ev2_E (c : Cfg) (n : Nat) : (ev2 c (n + 1)).E = stepE c (ev2 c n) := rfl
theorem ev2_T (c : Cfg) (n : Nat) : (ev2 c (n + 1)).T = stepT c (ev2 c n) := rfl
theorem ev2_S (c : Cfg) (n : Nat) : (ev2 c (n + 1)).S = stepS c (ev2 c n) := rfl
theorem ev2_F (c : Cfg) (n : Nat) : (ev2 c (n + 1)).F = stepF (ev2 c n) := rfl
end Mine
end

section
set_option autoImplicit false
set_option linter.unusedVariables false
set_option linter.unusedSimpArgs false
set_option Elab.async false
set_option maxRecDepth 100000
set_option maxHeartbeats 4000000
set_option smartUnfolding false
namespace Mine
open PySem PySem.Calls PyProof.Rows

section
variable {w : World} {h₀ : Heap} {c : Cfg} {K K' : Nat} {mg mb : Str → Option Value} {f : Str} {d d' : D}

noncomputable def c5 : Cfg := cfg ratTab noHk (fun f => !ratOps f) [(88, 56), (95, 32)] [(51, 11), (85, 32)]
theorem gd5 (B : Base w h₀ mg mb) : Gd P w h₀ c5 3 mg mb := B.gd gd_noHk fun f args d o h ho => ratTab_ok B h ho
theorem dec_t {p q : Rat} (h : p ≠ q) : ((!decide (p = q)) == true) = true := by simp [h]
theorem dec_f {p q : Rat} (h : p = q) : ((!decide (p = q)) == false) = true := by simp [h]
theorem dec_n {p : Rat} (h : p ≠ 0) : decide (p ≠ 0) = true := by simp [h]
theorem dec_n' {p : Rat} (h : p = 0) : decide (p = 0) = true := by simp [h]
theorem bl (a b : Nat) : Nat.ble a b = decide (a ≤ b) := by
  cases q : Nat.ble a b with
  | true => simp [Nat.le_of_ble_eq_true q]
  | false =>
    have : ¬ a ≤ b := fun h => by rw [Nat.ble_eq_true_of_le h] at q; cases q
    simp [this]
theorem tl (b : Bool) : andB true b = b := rfl
theorem tr (b : Bool) : andB b true = b := by cases b <;> rfl
theorem lg0 : Nat.log2 0 = 0 := rfl
theorem lg1 : Nat.log2 1 = 0 := rfl
theorem lg2 : Nat.log2 2 = 1 := rfl
theorem lg3 : Nat.log2 3 = 1 := rfl
theorem lg2' : (Int.natAbs 2).log2 = 1 := rfl
theorem lg3' : (Int.natAbs 3).log2 = 1 := rfl

theorem rank_n_0 (B : Base w h₀ mg mb) (t a b c : Rat) (h0 : a ≠ 0) (h1 : b ≠ 0) (h2 : c ≠ 0) : TabOk w h₀ mg 30 "rank" [matD ⟨0, a, b, 0, 0, c, 0, 0, 0⟩ 128 2] (.int 2 2) := by
  refine spec_of B (gd5 B) (g := 60) (dep := 27) (ds := [false, false, false, true, false, false, false, false, true, false, true, false]) (st' := ⟨[], [], 27⟩) (fn := theFn "rank") rfl rfl ⟨_, _, rfl, ?_, wd_int (i := 2) (n := 2) (n' := 2) (by decide)⟩
  repeat' (with_reducible apply andB_intro)
  all_goals first | (with_reducible refine dec_t ?_; first | assumption | grind) | (with_reducible refine dec_f ?_; first | assumption | grind) | (with_reducible refine dec_n ?_; first | assumption | grind) | rfl

theorem rank_n_1 (B : Base w h₀ mg mb) (t a b c : Rat) (h0 : a ≠ 0) (h1 : b = 0) (h2 : c ≠ 0) : TabOk w h₀ mg 30 "rank" [matD ⟨0, a, b, 0, 0, c, 0, 0, 0⟩ 128 2] (.int 2 2) := by
  refine spec_of B (gd5 B) (g := 60) (dep := 27) (ds := [false, false, false, true, false, false, false, false, true, false, false, false]) (st' := ⟨[], [], 27⟩) (fn := theFn "rank") rfl rfl ⟨_, _, rfl, ?_, wd_int (i := 2) (n := 2) (n' := 2) (by decide)⟩
  repeat' (with_reducible apply andB_intro)
  all_goals first | (with_reducible refine dec_t ?_; first | assumption | grind) | (with_reducible refine dec_f ?_; first | assumption | grind) | (with_reducible refine dec_n ?_; first | assumption | grind) | rfl

theorem rank_n_2 (B : Base w h₀ mg mb) (t a b c : Rat) (h0 : a ≠ 0) (h1 : c = 0) : TabOk w h₀ mg 30 "rank" [matD ⟨0, a, b, 0, 0, c, 0, 0, 0⟩ 128 2] (.int 1 2) := by
  refine spec_of B (gd5 B) (g := 60) (dep := 27) (ds := [false, false, false, true, false, false, false, false, false, false]) (st' := ⟨[], [], 27⟩) (fn := theFn "rank") rfl rfl ⟨_, _, rfl, ?_, wd_int (i := 1) (n := 1) (n' := 2) (by decide)⟩
  repeat' (with_reducible apply andB_intro)
  all_goals first | (with_reducible refine dec_t ?_; first | assumption | grind) | (with_reducible refine dec_f ?_; first | assumption | grind) | (with_reducible refine dec_n ?_; first | assumption | grind) | rfl

theorem rank_n_3 (B : Base w h₀ mg mb) (t a b c : Rat) (h0 : a = 0) (h1 : b ≠ 0) (h2 : c ≠ 0) : TabOk w h₀ mg 30 "rank" [matD ⟨0, a, b, 0, 0, c, 0, 0, 0⟩ 128 2] (.int 1 2) := by
  refine spec_of B (gd5 B) (g := 60) (dep := 27) (ds := [false, false, false, false, false, false, true, true, false, true, false]) (st' := ⟨[], [], 27⟩) (fn := theFn "rank") rfl rfl ⟨_, _, rfl, ?_, wd_int (i := 1) (n := 1) (n' := 2) (by decide)⟩
  repeat' (with_reducible apply andB_intro)
  all_goals first | (with_reducible refine dec_t ?_; first | assumption | grind) | (with_reducible refine dec_f ?_; first | assumption | grind) | (with_reducible refine dec_n ?_; first | assumption | grind) | rfl

theorem rank_n_4 (B : Base w h₀ mg mb) (t a b c : Rat) (h0 : a = 0) (h1 : b ≠ 0) (h2 : c = 0) : TabOk w h₀ mg 30 "rank" [matD ⟨0, a, b, 0, 0, c, 0, 0, 0⟩ 128 2] (.int 1 2) := by
  refine spec_of B (gd5 B) (g := 60) (dep := 27) (ds := [false, false, false, false, false, false, true, false, false, false, false]) (st' := ⟨[], [], 27⟩) (fn := theFn "rank") rfl rfl ⟨_, _, rfl, ?_, wd_int (i := 1) (n := 1) (n' := 2) (by decide)⟩
  repeat' (with_reducible apply andB_intro)
  all_goals first | (with_reducible refine dec_t ?_; first | assumption | grind) | (with_reducible refine dec_f ?_; first | assumption | grind) | (with_reducible refine dec_n ?_; first | assumption | grind) | rfl

theorem rank_n_5 (B : Base w h₀ mg mb) (t a b c : Rat) (h0 : a = 0) (h1 : b = 0) (h2 : c ≠ 0) : TabOk w h₀ mg 30 "rank" [matD ⟨0, a, b, 0, 0, c, 0, 0, 0⟩ 128 2] (.int 1 2) := by
  refine spec_of B (gd5 B) (g := 60) (dep := 27) (ds := [false, false, false, false, false, false, false, true, false, false, false]) (st' := ⟨[], [], 27⟩) (fn := theFn "rank") rfl rfl ⟨_, _, rfl, ?_, wd_int (i := 1) (n := 1) (n' := 2) (by decide)⟩
  repeat' (with_reducible apply andB_intro)
  all_goals first | (with_reducible refine dec_t ?_; first | assumption | grind) | (with_reducible refine dec_f ?_; first | assumption | grind) | (with_reducible refine dec_n ?_; first | assumption | grind) | rfl

theorem rank_n_6 (B : Base w h₀ mg mb) (t a b c : Rat) (h0 : a = 0) (h1 : b = 0) (h2 : c = 0) : TabOk w h₀ mg 30 "rank" [matD ⟨0, a, b, 0, 0, c, 0, 0, 0⟩ 128 2] (.int 0 2) := by
  refine spec_of B (gd5 B) (g := 60) (dep := 27) (ds := [false, false, false, false, false, false, false, false, false]) (st' := ⟨[], [], 27⟩) (fn := theFn "rank") rfl rfl ⟨_, _, rfl, ?_, wd_int (i := 0) (n := 1) (n' := 2) (by decide)⟩
  repeat' (with_reducible apply andB_intro)
  all_goals first | (with_reducible refine dec_t ?_; first | assumption | grind) | (with_reducible refine dec_f ?_; first | assumption | grind) | (with_reducible refine dec_n ?_; first | assumption | grind) | rfl

theorem rank_01_0 (B : Base w h₀ mg mb) (t a b c : Rat) (h0 : t ≠ 0) (h1 : a ≠ 0) (h2 : b ≠ 0) (h3 : c ≠ 0) : TabOk w h₀ mg 30 "rank" [matD ⟨-(t * a), a, b, -(t * t * a), t * a, t * b + c, 0, 0, 0⟩ 128 2] (.int 2 2) := by
  refine spec_of B (gd5 B) (g := 60) (dep := 27) (ds := [true, true, false, true, false, false, false, true, false, true, false]) (st' := ⟨[], [], 27⟩) (fn := theFn "rank") rfl rfl ⟨_, _, rfl, ?_, wd_int (i := 2) (n := 2) (n' := 2) (by decide)⟩
  repeat' (with_reducible apply andB_intro)
  all_goals first | (with_reducible refine dec_t ?_; first | assumption | grind) | (with_reducible refine dec_f ?_; first | assumption | grind) | (with_reducible refine dec_n ?_; first | assumption | grind) | rfl

theorem rank_01_1 (B : Base w h₀ mg mb) (t a b c : Rat) (h0 : t ≠ 0) (h1 : a ≠ 0) (h2 : b = 0) (h3 : c ≠ 0) : TabOk w h₀ mg 30 "rank" [matD ⟨-(t * a), a, b, -(t * t * a), t * a, t * b + c, 0, 0, 0⟩ 128 2] (.int 2 2) := by
  refine spec_of B (gd5 B) (g := 60) (dep := 27) (ds := [true, true, false, true, false, false, false, true, false, false, false]) (st' := ⟨[], [], 27⟩) (fn := theFn "rank") rfl rfl ⟨_, _, rfl, ?_, wd_int (i := 2) (n := 2) (n' := 2) (by decide)⟩
  repeat' (with_reducible apply andB_intro)
  all_goals first | (with_reducible refine dec_t ?_; first | assumption | grind) | (with_reducible refine dec_f ?_; first | assumption | grind) | (with_reducible refine dec_n ?_; first | assumption | grind) | rfl

theorem rank_01_2 (B : Base w h₀ mg mb) (t a b c : Rat) (h0 : t ≠ 0) (h1 : a ≠ 0) (h2 : c = 0) : TabOk w h₀ mg 30 "rank" [matD ⟨-(t * a), a, b, -(t * t * a), t * a, t * b + c, 0, 0, 0⟩ 128 2] (.int 1 2) := by
  refine spec_of B (gd5 B) (g := 60) (dep := 27) (ds := [true, true, false, true, false, false, false, false, false]) (st' := ⟨[], [], 27⟩) (fn := theFn "rank") rfl rfl ⟨_, _, rfl, ?_, wd_int (i := 1) (n := 1) (n' := 2) (by decide)⟩
  repeat' (with_reducible apply andB_intro)
  all_goals first | (with_reducible refine dec_t ?_; first | assumption | grind) | (with_reducible refine dec_f ?_; first | assumption | grind) | (with_reducible refine dec_n ?_; first | assumption | grind) | rfl

theorem rank_01_3 (B : Base w h₀ mg mb) (t a b c : Rat) (h0 : t ≠ 0) (h1 : a = 0) (h2 : b ≠ 0) (h3 : t * b + c ≠ 0) : TabOk w h₀ mg 30 "rank" [matD ⟨-(t * a), a, b, -(t * t * a), t * a, t * b + c, 0, 0, 0⟩ 128 2] (.int 1 2) := by
  refine spec_of B (gd5 B) (g := 60) (dep := 27) (ds := [false, false, false, false, false, false, true, true, false, true, false]) (st' := ⟨[], [], 27⟩) (fn := theFn "rank") rfl rfl ⟨_, _, rfl, ?_, wd_int (i := 1) (n := 1) (n' := 2) (by decide)⟩
  repeat' (with_reducible apply andB_intro)
  all_goals first | (with_reducible refine dec_t ?_; first | assumption | grind) | (with_reducible refine dec_f ?_; first | assumption | grind) | (with_reducible refine dec_n ?_; first | assumption | grind) | rfl

theorem rank_01_4 (B : Base w h₀ mg mb) (t a b c : Rat) (h0 : t ≠ 0) (h1 : a = 0) (h2 : b ≠ 0) (h3 : t * b + c = 0) : TabOk w h₀ mg 30 "rank" [matD ⟨-(t * a), a, b, -(t * t * a), t * a, t * b + c, 0, 0, 0⟩ 128 2] (.int 1 2) := by
  refine spec_of B (gd5 B) (g := 60) (dep := 27) (ds := [false, false, false, false, false, false, true, false, false, false, false]) (st' := ⟨[], [], 27⟩) (fn := theFn "rank") rfl rfl ⟨_, _, rfl, ?_, wd_int (i := 1) (n := 1) (n' := 2) (by decide)⟩
  repeat' (with_reducible apply andB_intro)
  all_goals first | (with_reducible refine dec_t ?_; first | assumption | grind) | (with_reducible refine dec_f ?_; first | assumption | grind) | (with_reducible refine dec_n ?_; first | assumption | grind) | rfl

theorem rank_01_5 (B : Base w h₀ mg mb) (t a b c : Rat) (h0 : t ≠ 0) (h1 : a = 0) (h2 : b = 0) (h3 : c ≠ 0) : TabOk w h₀ mg 30 "rank" [matD ⟨-(t * a), a, b, -(t * t * a), t * a, t * b + c, 0, 0, 0⟩ 128 2] (.int 1 2) := by
  refine spec_of B (gd5 B) (g := 60) (dep := 27) (ds := [false, false, false, false, false, false, false, true, false, false, false]) (st' := ⟨[], [], 27⟩) (fn := theFn "rank") rfl rfl ⟨_, _, rfl, ?_, wd_int (i := 1) (n := 1) (n' := 2) (by decide)⟩
  repeat' (with_reducible apply andB_intro)
  all_goals first | (with_reducible refine dec_t ?_; first | assumption | grind) | (with_reducible refine dec_f ?_; first | assumption | grind) | (with_reducible refine dec_n ?_; first | assumption | grind) | rfl

theorem rank_01_6 (B : Base w h₀ mg mb) (t a b c : Rat) (h0 : t ≠ 0) (h1 : a = 0) (h2 : b = 0) (h3 : c = 0) : TabOk w h₀ mg 30 "rank" [matD ⟨-(t * a), a, b, -(t * t * a), t * a, t * b + c, 0, 0, 0⟩ 128 2] (.int 0 2) := by
  refine spec_of B (gd5 B) (g := 60) (dep := 27) (ds := [false, false, false, false, false, false, false, false, false]) (st' := ⟨[], [], 27⟩) (fn := theFn "rank") rfl rfl ⟨_, _, rfl, ?_, wd_int (i := 0) (n := 1) (n' := 2) (by decide)⟩
  repeat' (with_reducible apply andB_intro)
  all_goals first | (with_reducible refine dec_t ?_; first | assumption | grind) | (with_reducible refine dec_f ?_; first | assumption | grind) | (with_reducible refine dec_n ?_; first | assumption | grind) | rfl

theorem rank_02_0 (B : Base w h₀ mg mb) (t a b c : Rat) (h0 : t ≠ 0) (h1 : a ≠ 0) (h2 : b ≠ 0) (h3 : c ≠ 0) : TabOk w h₀ mg 30 "rank" [matD ⟨-(t * b), a, b, -(t * c), 0, c, -(t * t * b), t * a, t * b⟩ 128 2] (.int 2 2) := by
  refine spec_of B (gd5 B) (g := 60) (dep := 27) (ds := [true, true, true, true, true, true, false, true, false, false]) (st' := ⟨[], [], 27⟩) (fn := theFn "rank") rfl rfl ⟨_, _, rfl, ?_, wd_int (i := 2) (n := 2) (n' := 2) (by decide)⟩
  repeat' (with_reducible apply andB_intro)
  all_goals first | (with_reducible refine dec_t ?_; first | assumption | grind) | (with_reducible refine dec_f ?_; first | assumption | grind) | (with_reducible refine dec_n ?_; first | assumption | grind) | rfl

theorem rank_02_1 (B : Base w h₀ mg mb) (t a b c : Rat) (h0 : t ≠ 0) (h1 : a = 0) (h2 : b ≠ 0) (h3 : c ≠ 0) : TabOk w h₀ mg 30 "rank" [matD ⟨-(t * b), a, b, -(t * c), 0, c, -(t * t * b), t * a, t * b⟩ 128 2] (.int 1 2) := by
  refine spec_of B (gd5 B) (g := 60) (dep := 27) (ds := [true, true, true, true, true, false, false, false, false]) (st' := ⟨[], [], 27⟩) (fn := theFn "rank") rfl rfl ⟨_, _, rfl, ?_, wd_int (i := 1) (n := 1) (n' := 2) (by decide)⟩
  repeat' (with_reducible apply andB_intro)
  all_goals first | (with_reducible refine dec_t ?_; first | assumption | grind) | (with_reducible refine dec_f ?_; first | assumption | grind) | (with_reducible refine dec_n ?_; first | assumption | grind) | rfl

theorem rank_02_2 (B : Base w h₀ mg mb) (t a b c : Rat) (h0 : t ≠ 0) (h1 : b ≠ 0) (h2 : c = 0) : TabOk w h₀ mg 30 "rank" [matD ⟨-(t * b), a, b, -(t * c), 0, c, -(t * t * b), t * a, t * b⟩ 128 2] (.int 1 2) := by
  refine spec_of B (gd5 B) (g := 60) (dep := 27) (ds := [true, false, true, false, true, false, false, false, false]) (st' := ⟨[], [], 27⟩) (fn := theFn "rank") rfl rfl ⟨_, _, rfl, ?_, wd_int (i := 1) (n := 1) (n' := 2) (by decide)⟩
  repeat' (with_reducible apply andB_intro)
  all_goals first | (with_reducible refine dec_t ?_; first | assumption | grind) | (with_reducible refine dec_f ?_; first | assumption | grind) | (with_reducible refine dec_n ?_; first | assumption | grind) | rfl

theorem rank_02_3 (B : Base w h₀ mg mb) (t a b c : Rat) (h0 : t ≠ 0) (h1 : a ≠ 0) (h2 : b = 0) (h3 : c ≠ 0) : TabOk w h₀ mg 30 "rank" [matD ⟨-(t * b), a, b, -(t * c), 0, c, -(t * t * b), t * a, t * b⟩ 128 2] (.int 2 2) := by
  refine spec_of B (gd5 B) (g := 60) (dep := 27) (ds := [false, true, false, false, false, true, true, false, true, false]) (st' := ⟨[], [], 27⟩) (fn := theFn "rank") rfl rfl ⟨_, _, rfl, ?_, wd_int (i := 2) (n := 2) (n' := 2) (by decide)⟩
  repeat' (with_reducible apply andB_intro)
  all_goals first | (with_reducible refine dec_t ?_; first | assumption | grind) | (with_reducible refine dec_f ?_; first | assumption | grind) | (with_reducible refine dec_n ?_; first | assumption | grind) | rfl

theorem rank_02_4 (B : Base w h₀ mg mb) (t a b c : Rat) (h0 : t ≠ 0) (h1 : a = 0) (h2 : b = 0) (h3 : c ≠ 0) : TabOk w h₀ mg 30 "rank" [matD ⟨-(t * b), a, b, -(t * c), 0, c, -(t * t * b), t * a, t * b⟩ 128 2] (.int 1 2) := by
  refine spec_of B (gd5 B) (g := 60) (dep := 27) (ds := [false, true, false, false, false, false, false, false, false]) (st' := ⟨[], [], 27⟩) (fn := theFn "rank") rfl rfl ⟨_, _, rfl, ?_, wd_int (i := 1) (n := 1) (n' := 2) (by decide)⟩
  repeat' (with_reducible apply andB_intro)
  all_goals first | (with_reducible refine dec_t ?_; first | assumption | grind) | (with_reducible refine dec_f ?_; first | assumption | grind) | (with_reducible refine dec_n ?_; first | assumption | grind) | rfl

theorem rank_02_5 (B : Base w h₀ mg mb) (t a b c : Rat) (h0 : t ≠ 0) (h1 : a ≠ 0) (h2 : b = 0) (h3 : c = 0) : TabOk w h₀ mg 30 "rank" [matD ⟨-(t * b), a, b, -(t * c), 0, c, -(t * t * b), t * a, t * b⟩ 128 2] (.int 1 2) := by
  refine spec_of B (gd5 B) (g := 60) (dep := 27) (ds := [false, false, false, true, false, true, false, true, false, false]) (st' := ⟨[], [], 27⟩) (fn := theFn "rank") rfl rfl ⟨_, _, rfl, ?_, wd_int (i := 1) (n := 1) (n' := 2) (by decide)⟩
  repeat' (with_reducible apply andB_intro)
  all_goals first | (with_reducible refine dec_t ?_; first | assumption | grind) | (with_reducible refine dec_f ?_; first | assumption | grind) | (with_reducible refine dec_n ?_; first | assumption | grind) | rfl

theorem rank_02_6 (B : Base w h₀ mg mb) (t a b c : Rat) (h0 : t ≠ 0) (h1 : a = 0) (h2 : b = 0) (h3 : c = 0) : TabOk w h₀ mg 30 "rank" [matD ⟨-(t * b), a, b, -(t * c), 0, c, -(t * t * b), t * a, t * b⟩ 128 2] (.int 0 2) := by
  refine spec_of B (gd5 B) (g := 60) (dep := 27) (ds := [false, false, false, false, false, false, false, false, false]) (st' := ⟨[], [], 27⟩) (fn := theFn "rank") rfl rfl ⟨_, _, rfl, ?_, wd_int (i := 0) (n := 1) (n' := 2) (by decide)⟩
  repeat' (with_reducible apply andB_intro)
  all_goals first | (with_reducible refine dec_t ?_; first | assumption | grind) | (with_reducible refine dec_f ?_; first | assumption | grind) | (with_reducible refine dec_n ?_; first | assumption | grind) | rfl

theorem rank_12_0 (B : Base w h₀ mg mb) (t a b c : Rat) (h0 : t ≠ 0) (h1 : a - t * b ≠ 0) (h2 : a ≠ 0) (h3 : b ≠ 0) (h4 : c ≠ 0) : TabOk w h₀ mg 30 "rank" [matD ⟨0, a - t * b, b, 0, -(t * c), c, 0, -(t * t * c), t * c⟩ 128 2] (.int 2 2) := by
  refine spec_of B (gd5 B) (g := 60) (dep := 27) (ds := [false, false, false, true, true, true, true, true, true, true, true, true]) (st' := ⟨[], [], 27⟩) (fn := theFn "rank") rfl rfl ⟨_, _, rfl, ?_, wd_int (i := 2) (n := 2) (n' := 2) (by decide)⟩
  repeat' (with_reducible apply andB_intro)
  all_goals first | (with_reducible refine dec_t ?_; first | assumption | grind) | (with_reducible refine dec_f ?_; first | assumption | grind) | (with_reducible refine dec_n ?_; first | assumption | grind) | rfl

theorem rank_12_1 (B : Base w h₀ mg mb) (t a b c : Rat) (h0 : t ≠ 0) (h1 : a - t * b ≠ 0) (h2 : a ≠ 0) (h3 : b = 0) (h4 : c ≠ 0) : TabOk w h₀ mg 30 "rank" [matD ⟨0, a - t * b, b, 0, -(t * c), c, 0, -(t * t * c), t * c⟩ 128 2] (.int 2 2) := by
  refine spec_of B (gd5 B) (g := 60) (dep := 27) (ds := [false, false, false, true, true, true, true, true, true, true, false, true]) (st' := ⟨[], [], 27⟩) (fn := theFn "rank") rfl rfl ⟨_, _, rfl, ?_, wd_int (i := 2) (n := 2) (n' := 2) (by decide)⟩
  repeat' (with_reducible apply andB_intro)
  all_goals first | (with_reducible refine dec_t ?_; first | assumption | grind) | (with_reducible refine dec_f ?_; first | assumption | grind) | (with_reducible refine dec_n ?_; first | assumption | grind) | rfl

theorem rank_12_2 (B : Base w h₀ mg mb) (t a b c : Rat) (h0 : t ≠ 0) (h1 : a - t * b ≠ 0) (h2 : a = 0) (h3 : c ≠ 0) : TabOk w h₀ mg 30 "rank" [matD ⟨0, a - t * b, b, 0, -(t * c), c, 0, -(t * t * c), t * c⟩ 128 2] (.int 1 2) := by
  refine spec_of B (gd5 B) (g := 60) (dep := 27) (ds := [false, false, false, true, true, true, true, true, false, false]) (st' := ⟨[], [], 27⟩) (fn := theFn "rank") rfl rfl ⟨_, _, rfl, ?_, wd_int (i := 1) (n := 1) (n' := 2) (by decide)⟩
  repeat' (with_reducible apply andB_intro)
  all_goals first | (with_reducible refine dec_t ?_; first | assumption | grind) | (with_reducible refine dec_f ?_; first | assumption | grind) | (with_reducible refine dec_n ?_; first | assumption | grind) | rfl

theorem rank_12_3 (B : Base w h₀ mg mb) (t a b c : Rat) (h0 : t ≠ 0) (h1 : a - t * b ≠ 0) (h2 : c = 0) : TabOk w h₀ mg 30 "rank" [matD ⟨0, a - t * b, b, 0, -(t * c), c, 0, -(t * t * c), t * c⟩ 128 2] (.int 1 2) := by
  refine spec_of B (gd5 B) (g := 60) (dep := 27) (ds := [false, false, false, true, false, false, false, false, false, false]) (st' := ⟨[], [], 27⟩) (fn := theFn "rank") rfl rfl ⟨_, _, rfl, ?_, wd_int (i := 1) (n := 1) (n' := 2) (by decide)⟩
  repeat' (with_reducible apply andB_intro)
  all_goals first | (with_reducible refine dec_t ?_; first | assumption | grind) | (with_reducible refine dec_f ?_; first | assumption | grind) | (with_reducible refine dec_n ?_; first | assumption | grind) | rfl

theorem rank_12_4 (B : Base w h₀ mg mb) (t a b c : Rat) (h0 : t ≠ 0) (h1 : a - t * b = 0) (h2 : b ≠ 0) (h3 : c ≠ 0) : TabOk w h₀ mg 30 "rank" [matD ⟨0, a - t * b, b, 0, -(t * c), c, 0, -(t * t * c), t * c⟩ 128 2] (.int 2 2) := by
  refine spec_of B (gd5 B) (g := 60) (dep := 27) (ds := [false, false, false, false, true, true, false, true, true, false, true, false]) (st' := ⟨[], [], 27⟩) (fn := theFn "rank") rfl rfl ⟨_, _, rfl, ?_, wd_int (i := 2) (n := 2) (n' := 2) (by decide)⟩
  repeat' (with_reducible apply andB_intro)
  all_goals first | (with_reducible refine dec_t ?_; first | assumption | grind) | (with_reducible refine dec_f ?_; first | assumption | grind) | (with_reducible refine dec_n ?_; first | assumption | grind) | rfl

theorem rank_12_5 (B : Base w h₀ mg mb) (t a b c : Rat) (h0 : t ≠ 0) (h1 : a - t * b = 0) (h2 : b = 0) (h3 : c ≠ 0) : TabOk w h₀ mg 30 "rank" [matD ⟨0, a - t * b, b, 0, -(t * c), c, 0, -(t * t * c), t * c⟩ 128 2] (.int 1 2) := by
  refine spec_of B (gd5 B) (g := 60) (dep := 27) (ds := [false, false, false, false, true, true, false, true, false, false]) (st' := ⟨[], [], 27⟩) (fn := theFn "rank") rfl rfl ⟨_, _, rfl, ?_, wd_int (i := 1) (n := 1) (n' := 2) (by decide)⟩
  repeat' (with_reducible apply andB_intro)
  all_goals first | (with_reducible refine dec_t ?_; first | assumption | grind) | (with_reducible refine dec_f ?_; first | assumption | grind) | (with_reducible refine dec_n ?_; first | assumption | grind) | rfl

theorem rank_12_6 (B : Base w h₀ mg mb) (t a b c : Rat) (h0 : t ≠ 0) (h1 : a - t * b = 0) (h2 : b ≠ 0) (h3 : c = 0) : TabOk w h₀ mg 30 "rank" [matD ⟨0, a - t * b, b, 0, -(t * c), c, 0, -(t * t * c), t * c⟩ 128 2] (.int 1 2) := by
  refine spec_of B (gd5 B) (g := 60) (dep := 27) (ds := [false, false, false, false, false, false, true, false, false, false, false]) (st' := ⟨[], [], 27⟩) (fn := theFn "rank") rfl rfl ⟨_, _, rfl, ?_, wd_int (i := 1) (n := 1) (n' := 2) (by decide)⟩
  repeat' (with_reducible apply andB_intro)
  all_goals first | (with_reducible refine dec_t ?_; first | assumption | grind) | (with_reducible refine dec_f ?_; first | assumption | grind) | (with_reducible refine dec_n ?_; first | assumption | grind) | rfl

theorem rank_12_7 (B : Base w h₀ mg mb) (t a b c : Rat) (h0 : t ≠ 0) (h1 : a - t * b = 0) (h2 : b = 0) (h3 : c = 0) : TabOk w h₀ mg 30 "rank" [matD ⟨0, a - t * b, b, 0, -(t * c), c, 0, -(t * t * c), t * c⟩ 128 2] (.int 0 2) := by
  refine spec_of B (gd5 B) (g := 60) (dep := 27) (ds := [false, false, false, false, false, false, false, false, false]) (st' := ⟨[], [], 27⟩) (fn := theFn "rank") rfl rfl ⟨_, _, rfl, ?_, wd_int (i := 0) (n := 1) (n' := 2) (by decide)⟩
  repeat' (with_reducible apply andB_intro)
  all_goals first | (with_reducible refine dec_t ?_; first | assumption | grind) | (with_reducible refine dec_f ?_; first | assumption | grind) | (with_reducible refine dec_n ?_; first | assumption | grind) | rfl

end
end Mine
end

section
set_option autoImplicit false
set_option linter.unusedVariables false
set_option Elab.async false
set_option maxHeartbeats 4000000
namespace Mine
open PySem PySem.Calls PyProof.Rows

noncomputable def pairM (p : Nat) (t a b c : Rat) : M3 := match p with
  | 0 => ⟨-(t * a), a, b, -(t * t * a), t * a, t * b + c, 0, 0, 0⟩
  | 1 => ⟨-(t * b), a, b, -(t * c), 0, c, -(t * t * b), t * a, t * b⟩
  | _ => ⟨0, a - t * b, b, 0, -(t * c), c, 0, -(t * t * c), t * c⟩
noncomputable def rk (a b c : Rat) : Int := if a ≠ 0 ∧ c ≠ 0 then 2 else if a = 0 ∧ b = 0 ∧ c = 0 then 0 else 1

section
variable {w : World} {h₀ : Heap} {K K' : Nat} {mg mb : Str → Option Value} {f : Str} {d d' : D}

theorem pair0 (p : Nat) (a b c : Rat) : pairM p 0 a b c = ⟨0, a, b, 0, 0, c, 0, 0, 0⟩ := by
  unfold pairM
  split <;> apply M3.ext <;> simp <;> grind

theorem rank_n (B : Base w h₀ mg mb) (a b c : Rat) : TabOk w h₀ mg 30 "rank" [matD ⟨0, a, b, 0, 0, c, 0, 0, 0⟩ 128 2] (.int (rk a b c) 2) := by
  by_cases ha : a = 0 <;> by_cases hc : c = 0 <;> by_cases hb : b = 0 <;> simp only [rk, ne_eq, ha, hb, hc, not_true, not_false_eq_true, and_true, and_false, true_and, false_and, if_true, if_false, and_self]
  · subst ha hb hc; exact rank_n_6 B 0 0 0 0 rfl rfl rfl
  · subst ha hc; exact rank_n_4 B 0 0 b 0 rfl hb rfl
  · subst ha hb; exact rank_n_5 B 0 0 0 c rfl rfl hc
  · subst ha; exact rank_n_3 B 0 0 b c rfl hb hc
  · subst hb hc; exact rank_n_2 B 0 a 0 0 ha rfl
  · subst hc; exact rank_n_2 B 0 a b 0 ha rfl
  · subst hb; exact rank_n_1 B 0 a 0 c ha rfl hc
  · exact rank_n_0 B 0 a b c ha hb hc

theorem rank_pair (B : Base w h₀ mg mb) (p : Nat) (t a b c : Rat) : TabOk w h₀ mg 30 "rank" [matD (pairM p t a b c) 128 2] (.int (rk a b c) 2) := by
  by_cases ht : t = 0
  · subst ht
    rw [pair0]
    exact rank_n B a b c
  match p with
  | 0 =>
    by_cases ha : a = 0
    · by_cases hb : b = 0
      · by_cases hc : c = 0
        · rw [show rk a b c = 0 by simp [rk, ha, hb, hc]]; exact rank_01_6 B t a b c ht ha hb hc
        · rw [show rk a b c = 1 by simp [rk, ha, hb, hc]]; exact rank_01_5 B t a b c ht ha hb hc
      · rw [show rk a b c = 1 by simp [rk, ha, hb]]
        by_cases hv : t * b + c = 0
        · exact rank_01_4 B t a b c ht ha hb hv
        · exact rank_01_3 B t a b c ht ha hb hv
    · by_cases hc : c = 0
      · rw [show rk a b c = 1 by simp [rk, ha, hc]]; exact rank_01_2 B t a b c ht ha hc
      · rw [show rk a b c = 2 by simp [rk, ha, hc]]
        by_cases hb : b = 0
        · exact rank_01_1 B t a b c ht ha hb hc
        · exact rank_01_0 B t a b c ht ha hb hc
  | 1 =>
    by_cases hb : b = 0
    · by_cases hc : c = 0
      · by_cases ha : a = 0
        · rw [show rk a b c = 0 by simp [rk, ha, hb, hc]]; exact rank_02_6 B t a b c ht ha hb hc
        · rw [show rk a b c = 1 by simp [rk, ha, hc]]; exact rank_02_5 B t a b c ht ha hb hc
      · by_cases ha : a = 0
        · rw [show rk a b c = 1 by simp [rk, ha, hb, hc]]; exact rank_02_4 B t a b c ht ha hb hc
        · rw [show rk a b c = 2 by simp [rk, ha, hc]]; exact rank_02_3 B t a b c ht ha hb hc
    · by_cases hc : c = 0
      · rw [show rk a b c = 1 by simp [rk, hb, hc]]; exact rank_02_2 B t a b c ht hb hc
      · by_cases ha : a = 0
        · rw [show rk a b c = 1 by simp [rk, ha, hb]]; exact rank_02_1 B t a b c ht ha hb hc
        · rw [show rk a b c = 2 by simp [rk, ha, hc]]; exact rank_02_0 B t a b c ht ha hb hc
  | p + 2 =>
    by_cases hu : a - t * b = 0
    · by_cases hb : b = 0
      · have ha : a = 0 := by grind
        by_cases hc : c = 0
        · rw [show rk a b c = 0 by simp [rk, ha, hb, hc]]; exact rank_12_7 B t a b c ht hu hb hc
        · rw [show rk a b c = 1 by simp [rk, ha, hb, hc]]; exact rank_12_5 B t a b c ht hu hb hc
      · have ha : a ≠ 0 := by
          intro q
          have : t * b = 0 := by grind
          grind
        by_cases hc : c = 0
        · rw [show rk a b c = 1 by simp [rk, ha, hc]]; exact rank_12_6 B t a b c ht hu hb hc
        · rw [show rk a b c = 2 by simp [rk, ha, hc]]; exact rank_12_4 B t a b c ht hu hb hc
    · by_cases hc : c = 0
      · have hn : ¬ (a = 0 ∧ b = 0 ∧ c = 0) := by rintro ⟨q1, q2, _⟩; apply hu; grind
        rw [show rk a b c = 1 by rw [rk, if_neg (by simp [hc]), if_neg hn]]; exact rank_12_3 B t a b c ht hu hc
      · by_cases ha : a = 0
        · rw [show rk a b c = 1 by simp [rk, ha, hc]]; exact rank_12_2 B t a b c ht hu ha hc
        · rw [show rk a b c = 2 by simp [rk, ha, hc]]
          by_cases hb : b = 0
          · exact rank_12_1 B t a b c ht hu ha hb hc
          · exact rank_12_0 B t a b c ht hu ha hb hc
end
end Mine
end

section
set_option autoImplicit false
set_option linter.unusedVariables false
set_option Elab.async false
set_option maxHeartbeats 4000000
set_option maxRecDepth 100000
namespace Mine
open PySem PySem.Calls PyProof.Rows

noncomputable def mx : List Nat → Nat
  | [] => 0
  | n :: l => Nat.max n (mx l)
theorem mx_le {l : List Nat} {n : Nat} (h : n ∈ l) : n ≤ mx l := by
  induction l with
  | nil => cases h
  | cons a l ih =>
    rcases List.mem_cons.mp h with rfl | h
    · exact Nat.le_max_left _ _
    · exact Nat.le_trans (ih h) (Nat.le_max_right _ _)

theorem mx9_to {a b c d e f g h i N : Nat} (k : mx [a, b, c, d, e, f, g, h, i] ≤ N) : a ≤ N ∧ b ≤ N ∧ c ≤ N ∧ d ≤ N ∧ e ≤ N ∧ f ≤ N ∧ g ≤ N ∧ h ≤ N ∧ i ≤ N := by
  have m : ∀ x ∈ [a, b, c, d, e, f, g, h, i], x ≤ N := fun x hx => Nat.le_trans (mx_le hx) k
  simp only [List.forall_mem_cons] at m
  obtain ⟨m1, m2, m3, m4, m5, m6, m7, m8, m9, _⟩ := m
  exact ⟨m1, m2, m3, m4, m5, m6, m7, m8, m9⟩
theorem mx9_le (a b c d e f g h i : Nat) : a ≤ mx [a, b, c, d, e, f, g, h, i] ∧ b ≤ mx [a, b, c, d, e, f, g, h, i] ∧ c ≤ mx [a, b, c, d, e, f, g, h, i] ∧ d ≤ mx [a, b, c, d, e, f, g, h, i] ∧ e ≤ mx [a, b, c, d, e, f, g, h, i] ∧
    f ≤ mx [a, b, c, d, e, f, g, h, i] ∧ g ≤ mx [a, b, c, d, e, f, g, h, i] ∧ h ≤ mx [a, b, c, d, e, f, g, h, i] ∧ i ≤ mx [a, b, c, d, e, f, g, h, i] := mx9_to (Nat.le_refl _)
noncomputable def asMat (x : D) : Option (M3 × Nat × Nat) := match gridOf x with
  | some l => (match trip3 tri l with
    | some (((a, b, c), (n1, n2, n3), (d1, d2, d3)), ((d, e, f), (n4, n5, n6), (d4, d5, d6)), ((g, h, i), (n7, n8, n9), (d7, d8, d9))) =>
      some (⟨a, b, c, d, e, f, g, h, i⟩, mx [n1, n2, n3, n4, n5, n6, n7, n8, n9], mx [d1, d2, d3, d4, d5, d6, d7, d8, d9])
    | none => none)
  | none => none
theorem asMat_ok {x : D} {X : M3} {n d : Nat} (h : asMat x = some (X, n, d)) : Wd x (matD X n d) := by
  unfold asMat at h
  split at h
  · rename_i e0
    split at h
    · rename_i e1
      injection h with h; injection h with h1 h; injection h with h2 h3
      subst h1 h2 h3
      obtain ⟨u, v, w, rfl, e2, e3, e4⟩ := trip3_ok e1
      rw [gridOf_ok e0, tri_ok e2, tri_ok e3, tri_ok e4]
      rename_i n1 n2 n3 d1 d2 d3 _ _ _ n4 n5 n6 d4 d5 d6 _ _ _ n7 n8 n9 d7 d8 d9
      have A := mx9_le n1 n2 n3 n4 n5 n6 n7 n8 n9
      have B := mx9_le d1 d2 d3 d4 d5 d6 d7 d8 d9
      exact gridW (rowL A.1 A.2.1 A.2.2.1 B.1 B.2.1 B.2.2.1) (rowL A.2.2.2.1 A.2.2.2.2.1 A.2.2.2.2.2.1 B.2.2.2.1 B.2.2.2.2.1 B.2.2.2.2.2.1)
        (rowL A.2.2.2.2.2.2.1 A.2.2.2.2.2.2.2.1 A.2.2.2.2.2.2.2.2 B.2.2.2.2.2.2.1 B.2.2.2.2.2.2.2.1 B.2.2.2.2.2.2.2.2)
    · first | exact no_some h | cases h
  · first | exact no_some h | cases h

noncomputable def lad (n : Nat) : Option Nat :=
  cond (Nat.ble n 8) (some 8) <|
  cond (Nat.ble n 16) (some 16) <|
  cond (Nat.ble n 32) (some 32) <|
  cond (Nat.ble n 64) (some 64) <|
  cond (Nat.ble n 128) (some 128) <|
  cond (Nat.ble n 256) (some 256) <|
  cond (Nat.ble n 512) (some 512) <|
  cond (Nat.ble n 1024) (some 1024) <|
  cond (Nat.ble n 2048) (some 2048) <|
  cond (Nat.ble n 4096) (some 4096) <|
  cond (Nat.ble n 8192) (some 8192) <|
  cond (Nat.ble n 16384) (some 16384) <|
  cond (Nat.ble n 32768) (some 32768) <|
  cond (Nat.ble n 65536) (some 65536) <|
  cond (Nat.ble n 131072) (some 131072) <|
  cond (Nat.ble n 262144) (some 262144) <|
  cond (Nat.ble n 524288) (some 524288) <|
  cond (Nat.ble n 1048576) (some 1048576) <|
  cond (Nat.ble n 2097152) (some 2097152) <|
  cond (Nat.ble n 4194304) (some 4194304) <|
  cond (Nat.ble n 8388608) (some 8388608) <|
  cond (Nat.ble n 16777216) (some 16777216) <|
  cond (Nat.ble n 33554432) (some 33554432) <|
  cond (Nat.ble n 67108864) (some 67108864) <|
  none
noncomputable def ladd (n : Nat) : Option Nat :=
  cond (Nat.ble n 0) (some 0) <|
  cond (Nat.ble n 1) (some 1) <|
  cond (Nat.ble n 2) (some 2) <|
  cond (Nat.ble n 3) (some 3) <|
  cond (Nat.ble n 4) (some 4) <|
  cond (Nat.ble n 6) (some 6) <|
  cond (Nat.ble n 8) (some 8) <|
  cond (Nat.ble n 9) (some 9) <|
  cond (Nat.ble n 12) (some 12) <|
  cond (Nat.ble n 16) (some 16) <|
  cond (Nat.ble n 24) (some 24) <|
  cond (Nat.ble n 32) (some 32) <|
  cond (Nat.ble n 48) (some 48) <|
  cond (Nat.ble n 64) (some 64) <|
  cond (Nat.ble n 96) (some 96) <|
  cond (Nat.ble n 128) (some 128) <|
  cond (Nat.ble n 192) (some 192) <|
  cond (Nat.ble n 256) (some 256) <|
  cond (Nat.ble n 384) (some 384) <|
  cond (Nat.ble n 512) (some 512) <|
  cond (Nat.ble n 1024) (some 1024) <|
  cond (Nat.ble n 2048) (some 2048) <|
  cond (Nat.ble n 4096) (some 4096) <|
  cond (Nat.ble n 8000) (some 8000) <|
  none
theorem rung {n k m top : Nat} {r : Option Nat} (hk : k ≤ top) (hr : r = some m → n ≤ m ∧ m ≤ top) (h : cond (Nat.ble n k) (some k) r = some m) : n ≤ m ∧ m ≤ top := by
  rcases cond_two h with ⟨q, h⟩ | ⟨_, h⟩
  · injection h with h; subst h; exact ⟨Nat.le_of_ble_eq_true q, hk⟩
  · exact hr h
theorem lad_ok {n m : Nat} (h : lad n = some m) : n ≤ m ∧ m ≤ 67108864 := by
  unfold lad at h
  revert h
  repeat' first | refine rung (by decide) ?_ | (intro h; cases h; done)
theorem ladd_ok {n m : Nat} (h : ladd n = some m) : n ≤ m ∧ m ≤ 8000 := by
  unfold ladd at h
  revert h
  repeat' first | refine rung (by decide) ?_ | (intro h; cases h; done)
noncomputable def capMat (X : M3) (n d : Nat) (o : Bool) : Option (D × Bool) := match lad n, ladd d with
  | some N, some E => some (matD X N E, o)
  | _, _ => none
theorem wd_matD {X : M3} {n d n' d' : Nat} (h1 : n ≤ n') (h2 : d ≤ d') : Wd (matD X n d) (matD X n' d') := by
  unfold matD
  repeat' first | apply wd_lst | apply Wds.cons | exact Wds.nil | (exact wd_rat h1 h2)
theorem capMat_ok {X : M3} {n d : Nat} {o o' : Bool} {x : D} (h : capMat X n d o = some (x, o')) : Wd (matD X n d) x ∧ n ≤ 67108864 ∧ d ≤ 8000 ∧ o' = o := by
  unfold capMat at h
  split at h
  · rename_i e1 e2
    injection h with h; injection h with h3 h4; subst h3 h4
    have := lad_ok e1; have := ladd_ok e2
    exact ⟨wd_matD (by omega) (by omega), by omega, by omega, rfl⟩
  · first | exact no_some h | cases h

section
variable {w : World} {h₀ : Heap} {K K' : Nat} {mg mb : Str → Option Value} {f : Str} {d d' : D}

noncomputable def tabMul : List D → Option (D × Bool)
  | [x, y] => match asMat x, asMat y with
    | some (X, n, d), some (Y, m, e) => capMat (X.mul Y) (3 * (n + m) + 6 * (d + e) + 3) (3 * (d + e)) true
    | _, _ => none
  | _ => none
theorem tabMul_ok (B : Base w h₀ mg mb) {args : List D} {o : Bool} (h : tabMul args = some (d, o)) (ho : o = true) : TabOk w h₀ mg 40 "mat_mul" args d := by
  unfold tabMul at h
  split at h
  · split at h
    · rename_i e1 e2
      obtain ⟨hw, h1, h2, _⟩ := capMat_ok h
      exact (((mul_spec B _ _ _ _ _ _ h2 (by omega)).inp (Wds.cons (asMat_ok e1) (Wds.cons (asMat_ok e2) Wds.nil))).more (by decide)).widen hw
    · first | exact no_some h | cases h
  · first | exact no_some h | cases h
noncomputable def tabAdd : List D → Option (D × Bool)
  | [x, y] => match asMat x, asMat y with
    | some (X, n, d), some (Y, m, e) => capMat (X.add Y) (n + m + d + e + 1) (d + e) true
    | _, _ => none
  | _ => none
theorem tabAdd_ok (B : Base w h₀ mg mb) {args : List D} {o : Bool} (h : tabAdd args = some (d, o)) (ho : o = true) : TabOk w h₀ mg 40 "mat_add" args d := by
  unfold tabAdd at h
  split at h
  · split at h
    · rename_i e1 e2
      obtain ⟨hw, h1, h2, _⟩ := capMat_ok h
      exact (((add_spec B _ _ _ _ _ _ h2 (by omega)).inp (Wds.cons (asMat_ok e1) (Wds.cons (asMat_ok e2) Wds.nil))).more (by decide)).widen hw
    · first | exact no_some h | cases h
  · first | exact no_some h | cases h
noncomputable def tabScale : List D → Option (D × Bool)
  | [x, .rat r m e] => match asMat x with
    | some (X, n, d) => capMat (X.scale r) (n + m) (d + e) (andB (Nat.ble n 20000000) (andB (Nat.ble m 20000000) (Nat.ble (d + e) 8000)))
    | _ => none
  | _ => none
theorem tabScale_ok (B : Base w h₀ mg mb) {args : List D} {o : Bool} (h : tabScale args = some (d, o)) (ho : o = true) : TabOk w h₀ mg 40 "mat_scale" args d := by
  unfold tabScale at h
  split at h
  · split at h
    · rename_i e1
      obtain ⟨hw, h1, h2, rfl⟩ := capMat_ok h
      obtain ⟨k1, k2⟩ := andB_true ho
      obtain ⟨k2, k3⟩ := andB_true k2
      have k1 := Nat.le_of_ble_eq_true k1
      have k2 := Nat.le_of_ble_eq_true k2
      have k3 := Nat.le_of_ble_eq_true k3
      exact (((scale_spec B _ _ _ _ _ _ k3 (by omega)).inp (Wds.cons (asMat_ok e1) (Wds.cons Wd.refl Wds.nil))).more (by decide)).widen hw
    · first | exact no_some h | cases h
  · first | exact no_some h | cases h

noncomputable def tabPow : List D → Option (D × Bool)
  | [x, .int k t] => match asMat x with
    | some (X, n, d) => some (matD (X.pow k) 2048 32, andB (andB (Nat.ble n 64) (Nat.ble d 1)) (andB (decide (0 ≤ k)) (decide (k ≤ 3))))
    | _ => none
  | _ => none
theorem wd_as {x : D} {X : M3} {n d n' d' : Nat} (h : asMat x = some (X, n, d)) (h1 : Nat.ble n n' = true) (h2 : Nat.ble d d' = true) : Wd x (matD X n' d') :=
  fun H M ρ v r => wd_matD (Nat.le_of_ble_eq_true h1) (Nat.le_of_ble_eq_true h2) H M ρ v (asMat_ok h H M ρ v r)
theorem tabPow_ok (B : Base w h₀ mg mb) {args : List D} {o : Bool} (h : tabPow args = some (d, o)) (ho : o = true) : TabOk w h₀ mg 40 "mat_power" args d := by
  unfold tabPow at h
  split at h
  · split at h
    · rename_i e1
      injection h with h; injection h with h3 h4; subst h3 h4
      obtain ⟨k0, ho⟩ := andB_true ho
      obtain ⟨k1, k2⟩ := andB_true ho
      obtain ⟨k3, k4⟩ := andB_true k0
      exact ((pow_spec B _ _ _ (of_decide_eq_true k1) (of_decide_eq_true k2)).inp (Wds.cons (wd_as e1 k3 k4) (Wds.cons Wd.refl Wds.nil))).more (by decide)
    · first | exact no_some h | cases h
  · first | exact no_some h | cases h
noncomputable def tabUnit : List D → Option (D × Bool)
  | [.int i n] => some (matD M3.one 1 0, andB (decide (i = 3)) (decide (n = 2)))
  | _ => none
theorem tabUnit_ok (B : Base w h₀ mg mb) {args : List D} {o : Bool} (h : tabUnit args = some (d, o)) (ho : o = true) : TabOk w h₀ mg 40 "unit_matrix" args d := by
  unfold tabUnit at h
  split at h
  · injection h with h; injection h with h3 h4; subst h3 h4
    obtain ⟨h1, h2⟩ := andB_true ho
    have h1 := of_decide_eq_true h1
    have h2 := of_decide_eq_true h2
    subst h1 h2
    exact (unit_spec B).more (by decide)
  · first | exact no_some h | cases h
noncomputable def series3 (x : D) : Option ((Rat × Rat × Rat) × Bool) := match rowOf x with
  | some l => (match tri l with
    | some ((p, q, r), (n1, n2, n3), (d1, d2, d3)) => some ((p, q, r), decide (n1 = 0 ∧ d1 = 0 ∧ n2 = 0 ∧ d2 = 0 ∧ n3 = 0 ∧ d3 = 1))
    | none => none)
  | none => none
theorem series3_ok {x : D} {p q r : Rat} {o : Bool} (h : series3 x = some ((p, q, r), o)) (ho : o = true) : x = .lst [.rat p 0 0, .rat q 0 0, .rat r 0 1] := by
  unfold series3 at h
  split at h
  · rename_i e0
    split at h
    · rename_i e1
      injection h with h
      simp only [Prod.mk.injEq] at h
      obtain ⟨⟨rfl, rfl, rfl⟩, rfl⟩ := h
      obtain ⟨rfl, rfl, rfl, rfl, rfl, rfl⟩ := of_decide_eq_true ho
      rw [rowOf_ok e0, tri_ok e1]; rfl
    · first | exact no_some h | cases h
  · first | exact no_some h | cases h
noncomputable def tabPoly (args : List D) : Option (D × Bool) := match two args with
  | some (y, x) => (match series3 y with
    | some ((p, q, r), o) => (match asMat x with
      | some (X, n, d) => some (matD (X.poly p q r) 262144 512, andB (andB (Nat.ble n 2048) (Nat.ble d 8)) o)
      | none => none)
    | none => none)
  | none => none
theorem tabPoly_ok (B : Base w h₀ mg mb) {args : List D} {o : Bool} (h : tabPoly args = some (d, o)) (ho : o = true) : TabOk w h₀ mg 40 "poly_of_matrix" args d := by
  unfold tabPoly at h
  split at h
  · rename_i e0
    split at h
    · rename_i e1
      split at h
      · rename_i e2
        injection h with h; injection h with h3 h4; subst h3 h4
        obtain ⟨k0, ho⟩ := andB_true ho
        obtain ⟨k3, k4⟩ := andB_true k0
        rw [two_ok e0, series3_ok e1 ho]
        exact ((poly_spec B _ _ _ _).inp (Wds.cons Wd.refl (Wds.cons (wd_as e2 k3 k4) Wds.nil))).more (by decide)
      · first | exact no_some h | cases h
    · first | exact no_some h | cases h
  · first | exact no_some h | cases h
noncomputable def tabExp : List D → Option (D × Bool)
  | [x] => match asMat x with
    | some (X, n, d) => cond (andB (Nat.ble n 16) (Nat.ble d 0)) (some (matD X.exp 64 1, true)) (some (matD X.exp 262144 512, andB (Nat.ble n 2048) (Nat.ble d 8)))
    | _ => none
  | _ => none
theorem tabExp_ok (B : Base w h₀ mg mb) {args : List D} {o : Bool} (h : tabExp args = some (d, o)) (ho : o = true) : TabOk w h₀ mg 40 "_law_exp" args d := by
  unfold tabExp at h
  split at h
  · split at h
    · rename_i X n m e1
      rcases cond_two h with ⟨hd, h⟩ | ⟨_, h⟩
      · injection h with h; injection h with h3 h4; subst h3 h4
        obtain ⟨k1, k2⟩ := andB_true hd
        exact (((exp_int B _).inp (Wds.cons (wd_as e1 k1 k2) Wds.nil)).more (by decide)).widen (wd_matD (by decide) (by decide))
      · injection h with h; injection h with h3 h4; subst h3 h4
        obtain ⟨k1, k2⟩ := andB_true ho
        exact ((exp_spec B _).inp (Wds.cons (wd_as e1 k1 k2) Wds.nil)).more (by decide)
    · first | exact no_some h | cases h
  · first | exact no_some h | cases h
end
end Mine
end

section
set_option autoImplicit false
set_option linter.unusedVariables false
set_option Elab.async false
set_option maxHeartbeats 4000000
namespace Mine

namespace M3
theorem mul_assoc (X Y Z : M3) : (X.mul Y).mul Z = X.mul (Y.mul Z) := by apply M3.ext <;> simp only [M3.mul] <;> grind
theorem mul_add (X Y Z : M3) : X.mul (Y.add Z) = (X.mul Y).add (X.mul Z) := by apply M3.ext <;> simp only [M3.mul, M3.add] <;> grind
theorem add_mul (X Y Z : M3) : (X.add Y).mul Z = (X.mul Z).add (Y.mul Z) := by apply M3.ext <;> simp only [M3.mul, M3.add] <;> grind
theorem scale_mul (X Y : M3) (r : Rat) : (X.scale r).mul Y = (X.mul Y).scale r := by apply M3.ext <;> simp only [M3.mul, M3.scale] <;> grind
theorem mul_scale (X Y : M3) (r : Rat) : X.mul (Y.scale r) = (X.mul Y).scale r := by apply M3.ext <;> simp only [M3.mul, M3.scale] <;> grind
theorem one_mul (X : M3) : M3.one.mul X = X := by apply M3.ext <;> simp only [M3.mul, M3.one] <;> grind
theorem mul_one (X : M3) : X.mul M3.one = X := by apply M3.ext <;> simp only [M3.mul, M3.one] <;> grind
theorem zero_mul (X : M3) : M3.zero.mul X = M3.zero := by apply M3.ext <;> simp only [M3.mul, M3.zero, M3.one, M3.scale] <;> grind
theorem mul_zero (X : M3) : X.mul M3.zero = M3.zero := by apply M3.ext <;> simp only [M3.mul, M3.zero, M3.one, M3.scale] <;> grind
theorem poly_alg (X : M3) (p q r : Rat) : X.poly p q r = ((M3.one.scale p).add (X.scale q)).add ((X.mul X).scale r) := by
  rw [poly_eq]
  apply M3.ext <;> simp only [M3.mul, M3.one, M3.add, M3.scale] <;> grind
theorem scale_one (X : M3) : X.scale 1 = X := by apply M3.ext <;> simp only [M3.scale] <;> grind
theorem exp_eq (X : M3) : X.exp = (M3.one.add X).add ((X.mul X).scale (1/2)) := by
  rw [M3.exp, poly_alg, scale_one, scale_one]
noncomputable def br (X Y : M3) : M3 := (X.mul Y).add ((Y.mul X).scale (-1))
theorem zero_scale (r : Rat) : M3.zero.scale r = M3.zero := by apply M3.ext <;> simp only [M3.zero, M3.one, M3.scale] <;> grind
theorem zero_add (X : M3) : M3.zero.add X = X := by apply M3.ext <;> simp only [M3.zero, M3.one, M3.scale, M3.add] <;> grind
theorem add_zero (X : M3) : X.add M3.zero = X := by apply M3.ext <;> simp only [M3.zero, M3.one, M3.scale, M3.add] <;> grind
theorem scale_scale (X : M3) (r q : Rat) : (X.scale r).scale q = X.scale (r * q) := by apply M3.ext <;> simp only [M3.scale] <;> grind
theorem scale_add (X Y : M3) (q : Rat) : (X.add Y).scale q = (X.scale q).add (Y.scale q) := by apply M3.ext <;> simp only [M3.scale, M3.add] <;> grind

theorem cube {X : M3} (h : X.mul (X.mul X) = M3.zero) (Z : M3) : X.mul (X.mul (X.mul Z)) = M3.zero := by
  rw [← mul_assoc X X, ← mul_assoc, mul_assoc X X X, h, zero_mul]

theorem ad5 {X Y : M3} (h : X.mul (X.mul X) = M3.zero) : br X (br X (br X (br X (br X Y)))) = M3.zero := by
  simp only [br, mul_add, add_mul, scale_mul, mul_scale, mul_assoc, cube h, h, mul_zero, zero_mul, zero_scale, zero_add, add_zero, scale_scale, scale_add]
theorem hadamard {X Y : M3} (h : X.mul (X.mul X) = M3.zero) : X.exp.mul Y =
    ((((Y.add ((br X Y).scale 1)).add ((br X (br X Y)).scale (1/2))).add ((br X (br X (br X Y))).scale (1/6))).add ((br X (br X (br X (br X Y)))).scale (1/24))).mul X.exp := by
  rw [exp_eq]
  simp only [br, mul_add, add_mul, scale_mul, mul_scale, mul_assoc, cube h, h, mul_zero, zero_mul, zero_scale, zero_add, add_zero, scale_scale, scale_add, mul_one, one_mul]
  apply M3.ext <;> simp only [M3.zero, M3.one, M3.scale, M3.add] <;> grind
theorem log_of {A : M3} (h : A.mul (A.mul A) = M3.zero) : (A.exp.add (M3.one.scale (-1))).poly 0 1 (-1/2) = A := by
  rw [poly_alg, exp_eq]
  simp only [mul_add, add_mul, scale_mul, mul_scale, mul_assoc, cube h, h, mul_zero, zero_mul, zero_scale, zero_add, add_zero, scale_scale, scale_add, mul_one, one_mul]
  apply M3.ext <;> simp only [M3.zero, M3.one, M3.scale, M3.add] <;> grind
noncomputable def pl (X : M3) (a b c : Rat) : M3 := ((M3.one.scale a).add (X.scale b)).add ((X.mul X).scale c)
theorem pl_mul {X : M3} (h : X.mul (X.mul X) = M3.zero) (a b c a' b' c' : Rat) : (pl X a b c).mul (pl X a' b' c') = pl X (a * a') (a * b' + b * a') (a * c' + b * b' + c * a') := by
  simp only [pl, mul_add, add_mul, scale_mul, mul_scale, mul_assoc, cube h, h, mul_zero, zero_mul, zero_scale, zero_add, add_zero, scale_scale, scale_add, mul_one, one_mul]
  apply M3.ext <;> simp only [M3.zero, M3.one, M3.scale, M3.add] <;> grind
structure Nil3 (X Y : M3) : Prop where
  h1 : X.mul (X.mul X) = M3.zero
  h2 : X.mul (X.mul Y) = M3.zero
  h3 : X.mul (Y.mul X) = M3.zero
  h4 : X.mul (Y.mul Y) = M3.zero
  h5 : Y.mul (X.mul X) = M3.zero
  h6 : Y.mul (X.mul Y) = M3.zero
  h7 : Y.mul (Y.mul X) = M3.zero
  h8 : Y.mul (Y.mul Y) = M3.zero
theorem bch1 {X Y : M3} (h : Nil3 X Y) : X.exp.mul Y.exp = ((X.add Y).add ((br X Y).scale (1/2))).exp := by
  obtain ⟨h1, h2, h3, h4, h5, h6, h7, h8⟩ := h
  simp only [exp_eq, br, mul_add, add_mul, scale_mul, mul_scale, mul_assoc, h1, h2, h3, h4, h5, h6, h7, h8, mul_zero, zero_mul, zero_scale, zero_add, add_zero, scale_scale, scale_add, mul_one, one_mul]
  apply M3.ext <;> simp only [M3.zero, M3.one, M3.scale, M3.add] <;> grind
theorem bch2 {X Y : M3} (h : Nil3 X Y) : X.exp.mul Y.exp = (M3.one.add (br X Y)).mul (Y.exp.mul X.exp) := by
  obtain ⟨h1, h2, h3, h4, h5, h6, h7, h8⟩ := h
  simp only [exp_eq, br, mul_add, add_mul, scale_mul, mul_scale, mul_assoc, h1, h2, h3, h4, h5, h6, h7, h8, mul_zero, zero_mul, zero_scale, zero_add, add_zero, scale_scale, scale_add, mul_one, one_mul]
  apply M3.ext <;> simp only [M3.zero, M3.one, M3.scale, M3.add] <;> grind
end M3
end Mine
end

section
set_option autoImplicit false
set_option linter.unusedVariables false
set_option Elab.async false
set_option maxHeartbeats 4000000
namespace Mine

theorem pair_mul (p : Nat) (t a b c a' b' c' : Rat) : (pairM p t a b c).mul (pairM p t a' b' c') = pairM p t 0 (a * c') 0 := by
  unfold pairM
  split <;> apply M3.ext <;> simp only [M3.mul] <;> grind
theorem pair_zero (p : Nat) (t : Rat) : pairM p t 0 0 0 = M3.zero := by
  unfold pairM
  split <;> apply M3.ext <;> simp only [M3.zero, M3.one, M3.scale] <;> grind
theorem pair_nil (p : Nat) (t a b c a' b' c' a'' b'' c'' : Rat) : (pairM p t a b c).mul ((pairM p t a' b' c').mul (pairM p t a'' b'' c'')) = M3.zero := by
  rw [pair_mul, pair_mul, Rat.mul_zero, pair_zero]
theorem pair_nil3 (p : Nat) (t a b c a' b' c' : Rat) : M3.Nil3 (pairM p t a b c) (pairM p t a' b' c') := ⟨pair_nil .., pair_nil .., pair_nil .., pair_nil .., pair_nil .., pair_nil .., pair_nil .., pair_nil ..⟩
theorem pair_less (p : Nat) (t a b c : Rat) : (pairM p t a b c).exp.add (M3.one.scale (-1)) = pairM p t a (b + a * c / 2) c := by
  rw [M3.exp_eq, pair_mul]
  unfold pairM
  split <;> apply M3.ext <;> simp only [M3.one, M3.add, M3.scale] <;> grind
theorem pow_all {X : M3} (h : X.mul (X.mul X) = M3.zero) (k : Int) (h0 : 0 ≤ k) (h3 : k ≤ 3) :
    (X.exp.pow k).scale 2 = ((M3.one.add (X.scale (k : Rat))).scale 2).add ((X.mul X).scale ((k * k : Int) : Rat)) := by
  have e : X.exp = M3.pl X 1 1 (1/2) := by rw [M3.exp, M3.poly_alg]; rfl
  have key : ∀ r : Rat, (M3.pl X 1 r (r * r / 2)).scale 2 = ((M3.one.add (X.scale r)).scale 2).add ((X.mul X).scale (r * r)) := by
    intro r
    apply M3.ext <;> simp only [M3.pl, M3.one, M3.scale, M3.add] <;> grind
  have pw : X.exp.pow k = M3.pl X 1 (k : Rat) ((k : Rat) * k / 2) := by
    have one : M3.one = M3.pl X 1 0 0 := by apply M3.ext <;> simp only [M3.pl, M3.one, M3.scale, M3.add] <;> grind
    have : k = 0 ∨ k = 1 ∨ k = 2 ∨ k = 3 := by omega
    rcases this with rfl | rfl | rfl | rfl
    · show M3.one = _
      rw [one]; congr 1; decide +kernel
    · show M3.one.mul X.exp = _
      rw [M3.one_mul, e]; congr 1; decide +kernel
    · show M3.one.mul (X.exp.mul X.exp) = _
      rw [M3.one_mul, e, M3.pl_mul h]; congr 1 <;> decide +kernel
    · show (M3.one.mul X.exp).mul (X.exp.mul X.exp) = _
      rw [M3.one_mul, e, M3.pl_mul h, M3.pl_mul h]; congr 1 <;> decide +kernel
  rw [pw, key, Rat.intCast_mul]
end Mine
end

section
set_option autoImplicit false
set_option linter.unusedVariables false
set_option Elab.async false
set_option maxRecDepth 100000
set_option maxHeartbeats 4000000
set_option smartUnfolding false
namespace Mine
open PySem PySem.Calls PyProof.Rows

section
variable {w : World} {h₀ : Heap} {K K' : Nat} {mg mb : Str → Option Value} {f : Str} {d d' : D}

noncomputable def isMat (f : Str) : Bool := f == ("mat_mul" : Str) || f == ("mat_add" : Str) || f == ("mat_scale" : Str) || f == ("mat_power" : Str) || f == ("unit_matrix" : Str) || f == ("poly_of_matrix" : Str) || f == ("_law_exp" : Str)
noncomputable def matTab (f : Str) (args : List D) : Option (D × Bool) :=
  cond (f == ("mat_mul" : Str)) (tabMul args) <| cond (f == ("mat_add" : Str)) (tabAdd args) <| cond (f == ("mat_scale" : Str)) (tabScale args) <| cond (f == ("mat_power" : Str)) (tabPow args) <|
  cond (f == ("unit_matrix" : Str)) (tabUnit args) <| cond (f == ("poly_of_matrix" : Str)) (tabPoly args) <| cond (f == ("_law_exp" : Str)) (tabExp args) none
theorem matTab_ok (B : Base w h₀ mg mb) {args : List D} {o : Bool} (h : matTab f args = some (d, o)) (ho : o = true) : TabOk w h₀ mg 40 f args d := by
  unfold matTab at h
  rcases cond_two h with ⟨hf, h⟩ | ⟨_, h⟩
  · rw [beq_iff_eq.mp hf]; exact tabMul_ok B h ho
  rcases cond_two h with ⟨hf, h⟩ | ⟨_, h⟩
  · rw [beq_iff_eq.mp hf]; exact tabAdd_ok B h ho
  rcases cond_two h with ⟨hf, h⟩ | ⟨_, h⟩
  · rw [beq_iff_eq.mp hf]; exact tabScale_ok B h ho
  rcases cond_two h with ⟨hf, h⟩ | ⟨_, h⟩
  · rw [beq_iff_eq.mp hf]; exact tabPow_ok B h ho
  rcases cond_two h with ⟨hf, h⟩ | ⟨_, h⟩
  · rw [beq_iff_eq.mp hf]; exact tabUnit_ok B h ho
  rcases cond_two h with ⟨hf, h⟩ | ⟨_, h⟩
  · rw [beq_iff_eq.mp hf]; exact tabPoly_ok B h ho
  rcases cond_two h with ⟨hf, h⟩ | ⟨_, h⟩
  · rw [beq_iff_eq.mp hf]; exact tabExp_ok B h ho
  · cases h
noncomputable def c6 : Cfg := cfg matTab noHk (fun f => !(isMat f)) [(200, 7), (202, 11), (208, 7), (210, 11)] []
theorem gd6 (B : Base w h₀ mg mb) : Gd P w h₀ c6 40 mg mb := B.gd gd_noHk fun f args d o h ho => matTab_ok B h ho

theorem eta3 (X : M3) : (⟨X.a, X.b, X.c, X.d, X.e, X.f, X.g, X.h, X.i⟩ : M3) = X := rfl
theorem mx9 (n : Nat) : mx [n, n, n, n, n, n, n, n, n] = n := by simp [mx]
theorem lg4 : (Int.natAbs 4).log2 = 2 := rfl
theorem lg5 : (Int.natAbs 5).log2 = 2 := rfl
theorem neqI {b : Bool} (h : b = true) : ((!b) == false) = true := by rw [h]; rfl
theorem eqm {M N : M3} (h : M = N) : andB (andB (decide (M.a = N.a)) (andB (decide (M.b = N.b)) (andB (decide (M.c = N.c)) true))) (andB (andB (decide (M.d = N.d)) (andB (decide (M.e = N.e)) (andB (decide (M.f = N.f)) true)))
    (andB (andB (decide (M.g = N.g)) (andB (decide (M.h = N.h)) (andB (decide (M.i = N.i)) true))) true)) = true := by
  subst h; simp only [decide_true]; rfl
theorem two_spec (B : Base w h₀ mg mb) (X Y : M3) (h : M3.Nil3 X Y) : TabOk w h₀ mg 60 "_law_is_two" [matD X 16 0, matD Y 16 0] (.bool true) := by
  have c1 : ((-1 : Int) : Rat) = -1 := by decide +kernel
  have c2 : mkRat 1 (Int.natAbs 2) = 1/2 := by decide +kernel
  have e1 := M3.bch1 h
  have e2 := M3.bch2 h
  unfold M3.br at e1 e2
  refine spec_of B (gd6 B) (g := 40) (dep := 20) (ds := [false]) (st' := ⟨[], [], 20⟩) (fn := theFn "_law_is_two") rfl rfl ⟨_, _, rfl, ?_, ?_⟩
  · repeat' (with_reducible apply andB_intro)
    all_goals first
      | (with_reducible refine neqI (eqm ?_); simp only [eta3, c1, c2, ← e1]; done)
      | rfl
  · refine (show ∀ b : Bool, b = true → Wd (.bool b) (.bool true) from fun b hb => by subst hb; exact Wd.refl) _ (eqm ?_)
    simp only [eta3, c1, ← e2]
theorem any_spec (B : Base w h₀ mg mb) (X Y : M3) (h : X.mul (X.mul X) = M3.zero) : TabOk w h₀ mg 60 "_law_is_any" [matD X 16 0, matD Y 16 0] (.bool true) := by
  have c1 : ((-1 : Int) : Rat) = -1 := by decide +kernel
  have e1 := M3.ad5 (Y := Y) h
  have e2 := M3.hadamard (Y := Y) h
  unfold M3.br at e1 e2
  refine spec_of B (gd6 B) (g := 60) (dep := 20) (ds := [false]) (st' := ⟨[], [], 20⟩) (fn := theFn "_law_is_any") rfl rfl ⟨_, _, rfl, ?_, ?_⟩
  · repeat' (with_reducible apply andB_intro)
    all_goals first
      | (with_reducible refine neqI (eqm ?_); simp only [eta3, c1, e1, M3.zero]; done)
      | rfl
  · refine (show ∀ b : Bool, b = true → Wd (.bool b) (.bool true) from fun b hb => by subst hb; exact Wd.refl) _ (eqm ?_)
    have c0 : ((1 : Int) : Rat) = 1 := rfl
    have c2 : mkRat 1 (Int.natAbs (1 * 1 * (1 + 1))) = 1/2 := by decide +kernel
    have c3 : mkRat 1 (Int.natAbs (1 * 1 * (1 + 1) * (1 + 1 + 1))) = 1/6 := by decide +kernel
    have c4 : mkRat 1 (Int.natAbs (1 * 1 * (1 + 1) * (1 + 1 + 1) * (1 + 1 + 1 + 1))) = 1/24 := by decide +kernel
    simp only [eta3, c0, c1, c2, c3, c4, ← e2]
end
end Mine
end

section
set_option autoImplicit false
set_option linter.unusedVariables false
set_option linter.unusedSimpArgs false
set_option Elab.async false
set_option maxRecDepth 100000
set_option maxHeartbeats 4000000
set_option smartUnfolding false
namespace Mine
open PySem PySem.Calls PyProof.Rows

structure R6 where
  a : Rat
  b : Rat
  c : Rat
  d : Rat
  e : Rat
  f : Rat
noncomputable def rowD (r : R6) (n d : Nat) : D := .lst [.rat r.a n d, .rat r.b n d, .rat r.c n d, .rat r.d n d, .rat r.e n d, .rat r.f n d]
noncomputable def R6.div (z : R6) (l : Rat) : R6 := ⟨z.a / l, z.b / l, z.c / l, z.d / l, z.e / l, z.f / l⟩
noncomputable def R6.off (z : R6) (k : Rat) (p : R6) : R6 := ⟨z.a - k * p.a, z.b - k * p.b, z.c - k * p.c, z.d - k * p.d, z.e - k * p.e, z.f - k * p.f⟩
noncomputable def forOf (l : List Stmt) : Expr × List Stmt := ((sParts (at1 l)).1, (sParts (at1 l)).2.2.1)
noncomputable def echSc : Sc := (theFn "echelon").scope.names
noncomputable def echF : Expr × List Stmt := forOf (theFn "echelon").body
noncomputable def echSt (l : List D) (ds : List Bool) (p : List D) : St := ⟨[some l, some p], ds, 9⟩
noncomputable def V4 (A c : D) : Vars := [("a", A), ("found", .mut 0), ("pivots", .mut 1), ("column", c)]
noncomputable def V8 (A c r s l o : D) : Vars := [("a", A), ("found", .mut 0), ("pivots", .mut 1), ("column", c), ("row", r), ("spots", s), ("lead", l), ("other", o)]

structure TT where
  r : D
  s : D
  l : D
  z : D
  n0 : Nat
  d0 : Nat
  n1 : Nat
  d1 : Nat
  n2 : Nat
  d2 : Nat
noncomputable def TT.fits (x : TT) (N Q : Nat) : Prop := (x.n0 ≤ 4 * N + 4 * Q + 1 ∧ x.n1 ≤ 4 * N + 4 * Q + 1 ∧ x.n2 ≤ 4 * N + 4 * Q + 1) ∧ (x.d0 ≤ N + 3 * Q ∧ x.d1 ≤ N + 3 * Q ∧ x.d2 ≤ N + 3 * Q)
noncomputable def TurnTo (N Q : Nat) (A : D) (j : Nat) (vs : Vars) (l : List D) (ds : List Bool) (p : List D) (y0 y1 y2 : R6) (p2 : List D) : Prop :=
  ∃ (x : TT) (o : Bool), (∀ n q, evSs (ev2 c5 (n + 20)) echSc vs (echSt l (ds ++ q) p) echF.2 = some (Fl.next, V8 A (litD j) x.r x.s x.l x.z, echSt [rowD y0 x.n0 x.d0, rowD y1 x.n1 x.d1, rowD y2 x.n2 x.d2] q p2, o)) ∧ o = true ∧ x.fits N Q

section
variable {n1 d1 n0 d0 N Q : Nat}
theorem q1 (hD : N + 3 * Q ≤ 8000) (h0 : n0 ≤ N) (k0 : d0 ≤ Q) : Nat.ble (d0 + n0) 8000 = true := Nat.ble_eq_true_of_le (by omega)
theorem q2 (hD : N + 3 * Q ≤ 8000) (h0 : n0 ≤ N) (k0 : d0 ≤ Q) : Nat.ble (n0 + n0 + d0 + d0) 100000000 = true := Nat.ble_eq_true_of_le (by omega)
theorem q3 (hD : N + 3 * Q ≤ 8000) (h0 : n0 ≤ N) (k0 : d0 ≤ Q) (k1 : d1 ≤ Q) : Nat.ble (d1 + (d0 + n0)) 8000 = true := Nat.ble_eq_true_of_le (by omega)
theorem q4 (hD : N + 3 * Q ≤ 8000) (h0 : n0 ≤ N) (k0 : d0 ≤ Q) (k1 : d1 ≤ Q) (h1 : n1 ≤ N) : Nat.ble (n1 + (n0 + d0) + d1 + (d0 + n0)) 100000000 = true := Nat.ble_eq_true_of_le (by omega)
theorem q5 (hD : N + 3 * Q ≤ 8000) (h0 : n0 ≤ N) (k0 : d0 ≤ Q) (k1 : d1 ≤ Q) : Nat.ble (d1 + (d1 + (d0 + n0))) 8000 = true := Nat.ble_eq_true_of_le (by omega)
theorem q6 (hD : N + 3 * Q ≤ 8000) (h0 : n0 ≤ N) (k0 : d0 ≤ Q) (k1 : d1 ≤ Q) (h1 : n1 ≤ N) : Nat.ble (n1 + (n1 + (n0 + d0)) + d1 + (d1 + (d0 + n0))) 100000000 = true := Nat.ble_eq_true_of_le (by omega)
theorem p1 (hD : N + 3 * Q ≤ 8000) (h0 : n0 ≤ N) (k0 : d0 ≤ Q) (k1 : d1 ≤ Q) (h1 : n1 ≤ N) : n1 + (n1 + (n0 + d0)) + d1 + (d1 + (d0 + n0)) + 1 ≤ 4 * N + 4 * Q + 1 := by omega
theorem p2 (hD : N + 3 * Q ≤ 8000) (h0 : n0 ≤ N) (k0 : d0 ≤ Q) : n0 + d0 ≤ 4 * N + 4 * Q + 1 := by omega
theorem p3 (hD : N + 3 * Q ≤ 8000) (h0 : n0 ≤ N) (k0 : d0 ≤ Q) (k1 : d1 ≤ Q) : d1 + (d1 + (d0 + n0)) ≤ N + 3 * Q := by omega
theorem p4 (hD : N + 3 * Q ≤ 8000) (h0 : n0 ≤ N) (k0 : d0 ≤ Q) : d0 + n0 ≤ N + 3 * Q := by omega
theorem p5 (hD : N + 3 * Q ≤ 8000) (h0 : n0 ≤ N) : n0 ≤ 4 * N + 4 * Q + 1 := by omega
theorem p6 (hD : N + 3 * Q ≤ 8000) (k0 : d0 ≤ Q) : d0 ≤ N + 3 * Q := by omega
end

theorem t0_111 {N Q : Nat} (A r s l o : D) {x0 x1 x2 : R6} {n0 d0 n1 d1 n2 d2 : Nat} (hn : n0 ≤ N ∧ n1 ≤ N ∧ n2 ≤ N) (hd : d0 ≤ Q ∧ d1 ≤ Q ∧ d2 ≤ Q) (hN : N ≤ 8000) (hD : N + 3 * Q ≤ 8000) (h0 : x0.a ≠ 0) (h1 : x1.a ≠ 0) (h2 : x2.a ≠ 0) :
    TurnTo N Q A 0 (V4 A (litD 0)) [rowD x0 n0 d0, rowD x1 n1 d1, rowD x2 n2 d2] [true, true, true, true, true] [] (x0.div x0.a) (x1.off x1.a (x0.div x0.a)) (x2.off x2.a (x0.div x0.a)) [litD 0] := by
  obtain ⟨a0, a1, a2⟩ := hn
  obtain ⟨b0, b1, b2⟩ := hd
  refine ⟨⟨_, _, _, _, _, _, _, _, _, _⟩, _, fun _ _ => rfl, ?_, ⟨?_, ?_, ?_⟩, ?_, ?_, ?_⟩
  · repeat' (with_reducible apply andB_intro)
    all_goals first
      | (with_reducible first | exact dec_t (by assumption) | exact dec_f (by assumption) | exact dec_n (by assumption) | exact q1 hD (by assumption) (by assumption) | exact q2 hD (by assumption) (by assumption) | exact q3 hD (by assumption) (by assumption) (by assumption) | exact q4 hD (by assumption) (by assumption) (by assumption) (by assumption) | exact q5 hD (by assumption) (by assumption) (by assumption) | exact q6 hD (by assumption) (by assumption) (by assumption) (by assumption))
      | rfl
      | (refine Nat.ble_eq_true_of_le ?_; omega)
  all_goals ((try dsimp only); first | (with_reducible first | exact p1 hD (by assumption) (by assumption) (by assumption) (by assumption) | exact p2 hD (by assumption) (by assumption) | exact p3 hD (by assumption) (by assumption) (by assumption) | exact p4 hD (by assumption) (by assumption) | exact p5 hD (by assumption) | exact p6 hD (by assumption)) | omega)

theorem t0_110 {N Q : Nat} (A r s l o : D) {x0 x1 x2 : R6} {n0 d0 n1 d1 n2 d2 : Nat} (hn : n0 ≤ N ∧ n1 ≤ N ∧ n2 ≤ N) (hd : d0 ≤ Q ∧ d1 ≤ Q ∧ d2 ≤ Q) (hN : N ≤ 8000) (hD : N + 3 * Q ≤ 8000) (h0 : x0.a ≠ 0) (h1 : x1.a ≠ 0) (h2 : x2.a = 0) :
    TurnTo N Q A 0 (V4 A (litD 0)) [rowD x0 n0 d0, rowD x1 n1 d1, rowD x2 n2 d2] [true, true, false, true, false] [] (x0.div x0.a) (x1.off x1.a (x0.div x0.a)) x2 [litD 0] := by
  obtain ⟨a0, a1, a2⟩ := hn
  obtain ⟨b0, b1, b2⟩ := hd
  refine ⟨⟨_, _, _, _, _, _, _, _, _, _⟩, _, fun _ _ => rfl, ?_, ⟨?_, ?_, ?_⟩, ?_, ?_, ?_⟩
  · repeat' (with_reducible apply andB_intro)
    all_goals first
      | (with_reducible first | exact dec_t (by assumption) | exact dec_f (by assumption) | exact dec_n (by assumption) | exact q1 hD (by assumption) (by assumption) | exact q2 hD (by assumption) (by assumption) | exact q3 hD (by assumption) (by assumption) (by assumption) | exact q4 hD (by assumption) (by assumption) (by assumption) (by assumption) | exact q5 hD (by assumption) (by assumption) (by assumption) | exact q6 hD (by assumption) (by assumption) (by assumption) (by assumption))
      | rfl
      | (refine Nat.ble_eq_true_of_le ?_; omega)
  all_goals ((try dsimp only); first | (with_reducible first | exact p1 hD (by assumption) (by assumption) (by assumption) (by assumption) | exact p2 hD (by assumption) (by assumption) | exact p3 hD (by assumption) (by assumption) (by assumption) | exact p4 hD (by assumption) (by assumption) | exact p5 hD (by assumption) | exact p6 hD (by assumption)) | omega)

theorem t0_101 {N Q : Nat} (A r s l o : D) {x0 x1 x2 : R6} {n0 d0 n1 d1 n2 d2 : Nat} (hn : n0 ≤ N ∧ n1 ≤ N ∧ n2 ≤ N) (hd : d0 ≤ Q ∧ d1 ≤ Q ∧ d2 ≤ Q) (hN : N ≤ 8000) (hD : N + 3 * Q ≤ 8000) (h0 : x0.a ≠ 0) (h1 : x1.a = 0) (h2 : x2.a ≠ 0) :
    TurnTo N Q A 0 (V4 A (litD 0)) [rowD x0 n0 d0, rowD x1 n1 d1, rowD x2 n2 d2] [true, false, true, false, true] [] (x0.div x0.a) x1 (x2.off x2.a (x0.div x0.a)) [litD 0] := by
  obtain ⟨a0, a1, a2⟩ := hn
  obtain ⟨b0, b1, b2⟩ := hd
  refine ⟨⟨_, _, _, _, _, _, _, _, _, _⟩, _, fun _ _ => rfl, ?_, ⟨?_, ?_, ?_⟩, ?_, ?_, ?_⟩
  · repeat' (with_reducible apply andB_intro)
    all_goals first
      | (with_reducible first | exact dec_t (by assumption) | exact dec_f (by assumption) | exact dec_n (by assumption) | exact q1 hD (by assumption) (by assumption) | exact q2 hD (by assumption) (by assumption) | exact q3 hD (by assumption) (by assumption) (by assumption) | exact q4 hD (by assumption) (by assumption) (by assumption) (by assumption) | exact q5 hD (by assumption) (by assumption) (by assumption) | exact q6 hD (by assumption) (by assumption) (by assumption) (by assumption))
      | rfl
      | (refine Nat.ble_eq_true_of_le ?_; omega)
  all_goals ((try dsimp only); first | (with_reducible first | exact p1 hD (by assumption) (by assumption) (by assumption) (by assumption) | exact p2 hD (by assumption) (by assumption) | exact p3 hD (by assumption) (by assumption) (by assumption) | exact p4 hD (by assumption) (by assumption) | exact p5 hD (by assumption) | exact p6 hD (by assumption)) | omega)

theorem t0_100 {N Q : Nat} (A r s l o : D) {x0 x1 x2 : R6} {n0 d0 n1 d1 n2 d2 : Nat} (hn : n0 ≤ N ∧ n1 ≤ N ∧ n2 ≤ N) (hd : d0 ≤ Q ∧ d1 ≤ Q ∧ d2 ≤ Q) (hN : N ≤ 8000) (hD : N + 3 * Q ≤ 8000) (h0 : x0.a ≠ 0) (h1 : x1.a = 0) (h2 : x2.a = 0) :
    TurnTo N Q A 0 (V4 A (litD 0)) [rowD x0 n0 d0, rowD x1 n1 d1, rowD x2 n2 d2] [true, false, false, false, false] [] (x0.div x0.a) x1 x2 [litD 0] := by
  obtain ⟨a0, a1, a2⟩ := hn
  obtain ⟨b0, b1, b2⟩ := hd
  refine ⟨⟨_, _, _, _, _, _, _, _, _, _⟩, _, fun _ _ => rfl, ?_, ⟨?_, ?_, ?_⟩, ?_, ?_, ?_⟩
  · repeat' (with_reducible apply andB_intro)
    all_goals first
      | (with_reducible first | exact dec_t (by assumption) | exact dec_f (by assumption) | exact dec_n (by assumption) | exact q1 hD (by assumption) (by assumption) | exact q2 hD (by assumption) (by assumption) | exact q3 hD (by assumption) (by assumption) (by assumption) | exact q4 hD (by assumption) (by assumption) (by assumption) (by assumption) | exact q5 hD (by assumption) (by assumption) (by assumption) | exact q6 hD (by assumption) (by assumption) (by assumption) (by assumption))
      | rfl
      | (refine Nat.ble_eq_true_of_le ?_; omega)
  all_goals ((try dsimp only); first | (with_reducible first | exact p1 hD (by assumption) (by assumption) (by assumption) (by assumption) | exact p2 hD (by assumption) (by assumption) | exact p3 hD (by assumption) (by assumption) (by assumption) | exact p4 hD (by assumption) (by assumption) | exact p5 hD (by assumption) | exact p6 hD (by assumption)) | omega)

theorem t0_011 {N Q : Nat} (A r s l o : D) {x0 x1 x2 : R6} {n0 d0 n1 d1 n2 d2 : Nat} (hn : n0 ≤ N ∧ n1 ≤ N ∧ n2 ≤ N) (hd : d0 ≤ Q ∧ d1 ≤ Q ∧ d2 ≤ Q) (hN : N ≤ 8000) (hD : N + 3 * Q ≤ 8000) (h0 : x0.a = 0) (h1 : x1.a ≠ 0) (h2 : x2.a ≠ 0) :
    TurnTo N Q A 0 (V4 A (litD 0)) [rowD x0 n0 d0, rowD x1 n1 d1, rowD x2 n2 d2] [false, true, true, false, true] [] (x1.div x1.a) x0 (x2.off x2.a (x1.div x1.a)) [litD 0] := by
  obtain ⟨a0, a1, a2⟩ := hn
  obtain ⟨b0, b1, b2⟩ := hd
  refine ⟨⟨_, _, _, _, _, _, _, _, _, _⟩, _, fun _ _ => rfl, ?_, ⟨?_, ?_, ?_⟩, ?_, ?_, ?_⟩
  · repeat' (with_reducible apply andB_intro)
    all_goals first
      | (with_reducible first | exact dec_t (by assumption) | exact dec_f (by assumption) | exact dec_n (by assumption) | exact q1 hD (by assumption) (by assumption) | exact q2 hD (by assumption) (by assumption) | exact q3 hD (by assumption) (by assumption) (by assumption) | exact q4 hD (by assumption) (by assumption) (by assumption) (by assumption) | exact q5 hD (by assumption) (by assumption) (by assumption) | exact q6 hD (by assumption) (by assumption) (by assumption) (by assumption))
      | rfl
      | (refine Nat.ble_eq_true_of_le ?_; omega)
  all_goals ((try dsimp only); first | (with_reducible first | exact p1 hD (by assumption) (by assumption) (by assumption) (by assumption) | exact p2 hD (by assumption) (by assumption) | exact p3 hD (by assumption) (by assumption) (by assumption) | exact p4 hD (by assumption) (by assumption) | exact p5 hD (by assumption) | exact p6 hD (by assumption)) | omega)

theorem t0_010 {N Q : Nat} (A r s l o : D) {x0 x1 x2 : R6} {n0 d0 n1 d1 n2 d2 : Nat} (hn : n0 ≤ N ∧ n1 ≤ N ∧ n2 ≤ N) (hd : d0 ≤ Q ∧ d1 ≤ Q ∧ d2 ≤ Q) (hN : N ≤ 8000) (hD : N + 3 * Q ≤ 8000) (h0 : x0.a = 0) (h1 : x1.a ≠ 0) (h2 : x2.a = 0) :
    TurnTo N Q A 0 (V4 A (litD 0)) [rowD x0 n0 d0, rowD x1 n1 d1, rowD x2 n2 d2] [false, true, false, false, false] [] (x1.div x1.a) x0 x2 [litD 0] := by
  obtain ⟨a0, a1, a2⟩ := hn
  obtain ⟨b0, b1, b2⟩ := hd
  refine ⟨⟨_, _, _, _, _, _, _, _, _, _⟩, _, fun _ _ => rfl, ?_, ⟨?_, ?_, ?_⟩, ?_, ?_, ?_⟩
  · repeat' (with_reducible apply andB_intro)
    all_goals first
      | (with_reducible first | exact dec_t (by assumption) | exact dec_f (by assumption) | exact dec_n (by assumption) | exact q1 hD (by assumption) (by assumption) | exact q2 hD (by assumption) (by assumption) | exact q3 hD (by assumption) (by assumption) (by assumption) | exact q4 hD (by assumption) (by assumption) (by assumption) (by assumption) | exact q5 hD (by assumption) (by assumption) (by assumption) | exact q6 hD (by assumption) (by assumption) (by assumption) (by assumption))
      | rfl
      | (refine Nat.ble_eq_true_of_le ?_; omega)
  all_goals ((try dsimp only); first | (with_reducible first | exact p1 hD (by assumption) (by assumption) (by assumption) (by assumption) | exact p2 hD (by assumption) (by assumption) | exact p3 hD (by assumption) (by assumption) (by assumption) | exact p4 hD (by assumption) (by assumption) | exact p5 hD (by assumption) | exact p6 hD (by assumption)) | omega)

theorem t0_001 {N Q : Nat} (A r s l o : D) {x0 x1 x2 : R6} {n0 d0 n1 d1 n2 d2 : Nat} (hn : n0 ≤ N ∧ n1 ≤ N ∧ n2 ≤ N) (hd : d0 ≤ Q ∧ d1 ≤ Q ∧ d2 ≤ Q) (hN : N ≤ 8000) (hD : N + 3 * Q ≤ 8000) (h0 : x0.a = 0) (h1 : x1.a = 0) (h2 : x2.a ≠ 0) :
    TurnTo N Q A 0 (V4 A (litD 0)) [rowD x0 n0 d0, rowD x1 n1 d1, rowD x2 n2 d2] [false, false, true, false, false] [] (x2.div x2.a) x1 x0 [litD 0] := by
  obtain ⟨a0, a1, a2⟩ := hn
  obtain ⟨b0, b1, b2⟩ := hd
  refine ⟨⟨_, _, _, _, _, _, _, _, _, _⟩, _, fun _ _ => rfl, ?_, ⟨?_, ?_, ?_⟩, ?_, ?_, ?_⟩
  · repeat' (with_reducible apply andB_intro)
    all_goals first
      | (with_reducible first | exact dec_t (by assumption) | exact dec_f (by assumption) | exact dec_n (by assumption) | exact q1 hD (by assumption) (by assumption) | exact q2 hD (by assumption) (by assumption) | exact q3 hD (by assumption) (by assumption) (by assumption) | exact q4 hD (by assumption) (by assumption) (by assumption) (by assumption) | exact q5 hD (by assumption) (by assumption) (by assumption) | exact q6 hD (by assumption) (by assumption) (by assumption) (by assumption))
      | rfl
      | (refine Nat.ble_eq_true_of_le ?_; omega)
  all_goals ((try dsimp only); first | (with_reducible first | exact p1 hD (by assumption) (by assumption) (by assumption) (by assumption) | exact p2 hD (by assumption) (by assumption) | exact p3 hD (by assumption) (by assumption) (by assumption) | exact p4 hD (by assumption) (by assumption) | exact p5 hD (by assumption) | exact p6 hD (by assumption)) | omega)

theorem t1_111 {N Q : Nat} (A r s l o : D) {x0 x1 x2 : R6} {n0 d0 n1 d1 n2 d2 : Nat} (hn : n0 ≤ N ∧ n1 ≤ N ∧ n2 ≤ N) (hd : d0 ≤ Q ∧ d1 ≤ Q ∧ d2 ≤ Q) (hN : N ≤ 8000) (hD : N + 3 * Q ≤ 8000) (h0 : x0.b ≠ 0) (h1 : x1.b ≠ 0) (h2 : x2.b ≠ 0) :
    TurnTo N Q A 1 (V8 A (litD 1) r s l o) [rowD x0 n0 d0, rowD x1 n1 d1, rowD x2 n2 d2] [true, true, true, true] [litD 0] (x0.off x0.b (x1.div x1.b)) (x1.div x1.b) (x2.off x2.b (x1.div x1.b)) [litD 0, litD 1] := by
  obtain ⟨a0, a1, a2⟩ := hn
  obtain ⟨b0, b1, b2⟩ := hd
  refine ⟨⟨_, _, _, _, _, _, _, _, _, _⟩, _, fun _ _ => rfl, ?_, ⟨?_, ?_, ?_⟩, ?_, ?_, ?_⟩
  · repeat' (with_reducible apply andB_intro)
    all_goals first
      | (with_reducible first | exact dec_t (by assumption) | exact dec_f (by assumption) | exact dec_n (by assumption) | exact q1 hD (by assumption) (by assumption) | exact q2 hD (by assumption) (by assumption) | exact q3 hD (by assumption) (by assumption) (by assumption) | exact q4 hD (by assumption) (by assumption) (by assumption) (by assumption) | exact q5 hD (by assumption) (by assumption) (by assumption) | exact q6 hD (by assumption) (by assumption) (by assumption) (by assumption))
      | rfl
      | (refine Nat.ble_eq_true_of_le ?_; omega)
  all_goals ((try dsimp only); first | (with_reducible first | exact p1 hD (by assumption) (by assumption) (by assumption) (by assumption) | exact p2 hD (by assumption) (by assumption) | exact p3 hD (by assumption) (by assumption) (by assumption) | exact p4 hD (by assumption) (by assumption) | exact p5 hD (by assumption) | exact p6 hD (by assumption)) | omega)

theorem t1_110 {N Q : Nat} (A r s l o : D) {x0 x1 x2 : R6} {n0 d0 n1 d1 n2 d2 : Nat} (hn : n0 ≤ N ∧ n1 ≤ N ∧ n2 ≤ N) (hd : d0 ≤ Q ∧ d1 ≤ Q ∧ d2 ≤ Q) (hN : N ≤ 8000) (hD : N + 3 * Q ≤ 8000) (h0 : x0.b ≠ 0) (h1 : x1.b ≠ 0) (h2 : x2.b = 0) :
    TurnTo N Q A 1 (V8 A (litD 1) r s l o) [rowD x0 n0 d0, rowD x1 n1 d1, rowD x2 n2 d2] [true, false, true, false] [litD 0] (x0.off x0.b (x1.div x1.b)) (x1.div x1.b) x2 [litD 0, litD 1] := by
  obtain ⟨a0, a1, a2⟩ := hn
  obtain ⟨b0, b1, b2⟩ := hd
  refine ⟨⟨_, _, _, _, _, _, _, _, _, _⟩, _, fun _ _ => rfl, ?_, ⟨?_, ?_, ?_⟩, ?_, ?_, ?_⟩
  · repeat' (with_reducible apply andB_intro)
    all_goals first
      | (with_reducible first | exact dec_t (by assumption) | exact dec_f (by assumption) | exact dec_n (by assumption) | exact q1 hD (by assumption) (by assumption) | exact q2 hD (by assumption) (by assumption) | exact q3 hD (by assumption) (by assumption) (by assumption) | exact q4 hD (by assumption) (by assumption) (by assumption) (by assumption) | exact q5 hD (by assumption) (by assumption) (by assumption) | exact q6 hD (by assumption) (by assumption) (by assumption) (by assumption))
      | rfl
      | (refine Nat.ble_eq_true_of_le ?_; omega)
  all_goals ((try dsimp only); first | (with_reducible first | exact p1 hD (by assumption) (by assumption) (by assumption) (by assumption) | exact p2 hD (by assumption) (by assumption) | exact p3 hD (by assumption) (by assumption) (by assumption) | exact p4 hD (by assumption) (by assumption) | exact p5 hD (by assumption) | exact p6 hD (by assumption)) | omega)

theorem t1_101 {N Q : Nat} (A r s l o : D) {x0 x1 x2 : R6} {n0 d0 n1 d1 n2 d2 : Nat} (hn : n0 ≤ N ∧ n1 ≤ N ∧ n2 ≤ N) (hd : d0 ≤ Q ∧ d1 ≤ Q ∧ d2 ≤ Q) (hN : N ≤ 8000) (hD : N + 3 * Q ≤ 8000) (h0 : x0.b ≠ 0) (h1 : x1.b = 0) (h2 : x2.b ≠ 0) :
    TurnTo N Q A 1 (V8 A (litD 1) r s l o) [rowD x0 n0 d0, rowD x1 n1 d1, rowD x2 n2 d2] [false, true, true, false] [litD 0] (x0.off x0.b (x2.div x2.b)) (x2.div x2.b) x1 [litD 0, litD 1] := by
  obtain ⟨a0, a1, a2⟩ := hn
  obtain ⟨b0, b1, b2⟩ := hd
  refine ⟨⟨_, _, _, _, _, _, _, _, _, _⟩, _, fun _ _ => rfl, ?_, ⟨?_, ?_, ?_⟩, ?_, ?_, ?_⟩
  · repeat' (with_reducible apply andB_intro)
    all_goals first
      | (with_reducible first | exact dec_t (by assumption) | exact dec_f (by assumption) | exact dec_n (by assumption) | exact q1 hD (by assumption) (by assumption) | exact q2 hD (by assumption) (by assumption) | exact q3 hD (by assumption) (by assumption) (by assumption) | exact q4 hD (by assumption) (by assumption) (by assumption) (by assumption) | exact q5 hD (by assumption) (by assumption) (by assumption) | exact q6 hD (by assumption) (by assumption) (by assumption) (by assumption))
      | rfl
      | (refine Nat.ble_eq_true_of_le ?_; omega)
  all_goals ((try dsimp only); first | (with_reducible first | exact p1 hD (by assumption) (by assumption) (by assumption) (by assumption) | exact p2 hD (by assumption) (by assumption) | exact p3 hD (by assumption) (by assumption) (by assumption) | exact p4 hD (by assumption) (by assumption) | exact p5 hD (by assumption) | exact p6 hD (by assumption)) | omega)

theorem t1_011 {N Q : Nat} (A r s l o : D) {x0 x1 x2 : R6} {n0 d0 n1 d1 n2 d2 : Nat} (hn : n0 ≤ N ∧ n1 ≤ N ∧ n2 ≤ N) (hd : d0 ≤ Q ∧ d1 ≤ Q ∧ d2 ≤ Q) (hN : N ≤ 8000) (hD : N + 3 * Q ≤ 8000) (h0 : x0.b = 0) (h1 : x1.b ≠ 0) (h2 : x2.b ≠ 0) :
    TurnTo N Q A 1 (V8 A (litD 1) r s l o) [rowD x0 n0 d0, rowD x1 n1 d1, rowD x2 n2 d2] [true, true, false, true] [litD 0] x0 (x1.div x1.b) (x2.off x2.b (x1.div x1.b)) [litD 0, litD 1] := by
  obtain ⟨a0, a1, a2⟩ := hn
  obtain ⟨b0, b1, b2⟩ := hd
  refine ⟨⟨_, _, _, _, _, _, _, _, _, _⟩, _, fun _ _ => rfl, ?_, ⟨?_, ?_, ?_⟩, ?_, ?_, ?_⟩
  · repeat' (with_reducible apply andB_intro)
    all_goals first
      | (with_reducible first | exact dec_t (by assumption) | exact dec_f (by assumption) | exact dec_n (by assumption) | exact q1 hD (by assumption) (by assumption) | exact q2 hD (by assumption) (by assumption) | exact q3 hD (by assumption) (by assumption) (by assumption) | exact q4 hD (by assumption) (by assumption) (by assumption) (by assumption) | exact q5 hD (by assumption) (by assumption) (by assumption) | exact q6 hD (by assumption) (by assumption) (by assumption) (by assumption))
      | rfl
      | (refine Nat.ble_eq_true_of_le ?_; omega)
  all_goals ((try dsimp only); first | (with_reducible first | exact p1 hD (by assumption) (by assumption) (by assumption) (by assumption) | exact p2 hD (by assumption) (by assumption) | exact p3 hD (by assumption) (by assumption) (by assumption) | exact p4 hD (by assumption) (by assumption) | exact p5 hD (by assumption) | exact p6 hD (by assumption)) | omega)

theorem t1_010 {N Q : Nat} (A r s l o : D) {x0 x1 x2 : R6} {n0 d0 n1 d1 n2 d2 : Nat} (hn : n0 ≤ N ∧ n1 ≤ N ∧ n2 ≤ N) (hd : d0 ≤ Q ∧ d1 ≤ Q ∧ d2 ≤ Q) (hN : N ≤ 8000) (hD : N + 3 * Q ≤ 8000) (h0 : x0.b = 0) (h1 : x1.b ≠ 0) (h2 : x2.b = 0) :
    TurnTo N Q A 1 (V8 A (litD 1) r s l o) [rowD x0 n0 d0, rowD x1 n1 d1, rowD x2 n2 d2] [true, false, false, false] [litD 0] x0 (x1.div x1.b) x2 [litD 0, litD 1] := by
  obtain ⟨a0, a1, a2⟩ := hn
  obtain ⟨b0, b1, b2⟩ := hd
  refine ⟨⟨_, _, _, _, _, _, _, _, _, _⟩, _, fun _ _ => rfl, ?_, ⟨?_, ?_, ?_⟩, ?_, ?_, ?_⟩
  · repeat' (with_reducible apply andB_intro)
    all_goals first
      | (with_reducible first | exact dec_t (by assumption) | exact dec_f (by assumption) | exact dec_n (by assumption) | exact q1 hD (by assumption) (by assumption) | exact q2 hD (by assumption) (by assumption) | exact q3 hD (by assumption) (by assumption) (by assumption) | exact q4 hD (by assumption) (by assumption) (by assumption) (by assumption) | exact q5 hD (by assumption) (by assumption) (by assumption) | exact q6 hD (by assumption) (by assumption) (by assumption) (by assumption))
      | rfl
      | (refine Nat.ble_eq_true_of_le ?_; omega)
  all_goals ((try dsimp only); first | (with_reducible first | exact p1 hD (by assumption) (by assumption) (by assumption) (by assumption) | exact p2 hD (by assumption) (by assumption) | exact p3 hD (by assumption) (by assumption) (by assumption) | exact p4 hD (by assumption) (by assumption) | exact p5 hD (by assumption) | exact p6 hD (by assumption)) | omega)

theorem t1_001 {N Q : Nat} (A r s l o : D) {x0 x1 x2 : R6} {n0 d0 n1 d1 n2 d2 : Nat} (hn : n0 ≤ N ∧ n1 ≤ N ∧ n2 ≤ N) (hd : d0 ≤ Q ∧ d1 ≤ Q ∧ d2 ≤ Q) (hN : N ≤ 8000) (hD : N + 3 * Q ≤ 8000) (h0 : x0.b = 0) (h1 : x1.b = 0) (h2 : x2.b ≠ 0) :
    TurnTo N Q A 1 (V8 A (litD 1) r s l o) [rowD x0 n0 d0, rowD x1 n1 d1, rowD x2 n2 d2] [false, true, false, false] [litD 0] x0 (x2.div x2.b) x1 [litD 0, litD 1] := by
  obtain ⟨a0, a1, a2⟩ := hn
  obtain ⟨b0, b1, b2⟩ := hd
  refine ⟨⟨_, _, _, _, _, _, _, _, _, _⟩, _, fun _ _ => rfl, ?_, ⟨?_, ?_, ?_⟩, ?_, ?_, ?_⟩
  · repeat' (with_reducible apply andB_intro)
    all_goals first
      | (with_reducible first | exact dec_t (by assumption) | exact dec_f (by assumption) | exact dec_n (by assumption) | exact q1 hD (by assumption) (by assumption) | exact q2 hD (by assumption) (by assumption) | exact q3 hD (by assumption) (by assumption) (by assumption) | exact q4 hD (by assumption) (by assumption) (by assumption) (by assumption) | exact q5 hD (by assumption) (by assumption) (by assumption) | exact q6 hD (by assumption) (by assumption) (by assumption) (by assumption))
      | rfl
      | (refine Nat.ble_eq_true_of_le ?_; omega)
  all_goals ((try dsimp only); first | (with_reducible first | exact p1 hD (by assumption) (by assumption) (by assumption) (by assumption) | exact p2 hD (by assumption) (by assumption) | exact p3 hD (by assumption) (by assumption) (by assumption) | exact p4 hD (by assumption) (by assumption) | exact p5 hD (by assumption) | exact p6 hD (by assumption)) | omega)

theorem t2_111 {N Q : Nat} (A r s l o : D) {x0 x1 x2 : R6} {n0 d0 n1 d1 n2 d2 : Nat} (hn : n0 ≤ N ∧ n1 ≤ N ∧ n2 ≤ N) (hd : d0 ≤ Q ∧ d1 ≤ Q ∧ d2 ≤ Q) (hN : N ≤ 8000) (hD : N + 3 * Q ≤ 8000) (h0 : x0.c ≠ 0) (h1 : x1.c ≠ 0) (h2 : x2.c ≠ 0) :
    TurnTo N Q A 2 (V8 A (litD 2) r s l o) [rowD x0 n0 d0, rowD x1 n1 d1, rowD x2 n2 d2] [true, true, true] [litD 0, litD 1] (x0.off x0.c (x2.div x2.c)) (x1.off x1.c (x2.div x2.c)) (x2.div x2.c) [litD 0, litD 1, litD 2] := by
  obtain ⟨a0, a1, a2⟩ := hn
  obtain ⟨b0, b1, b2⟩ := hd
  refine ⟨⟨_, _, _, _, _, _, _, _, _, _⟩, _, fun _ _ => rfl, ?_, ⟨?_, ?_, ?_⟩, ?_, ?_, ?_⟩
  · repeat' (with_reducible apply andB_intro)
    all_goals first
      | (with_reducible first | exact dec_t (by assumption) | exact dec_f (by assumption) | exact dec_n (by assumption) | exact q1 hD (by assumption) (by assumption) | exact q2 hD (by assumption) (by assumption) | exact q3 hD (by assumption) (by assumption) (by assumption) | exact q4 hD (by assumption) (by assumption) (by assumption) (by assumption) | exact q5 hD (by assumption) (by assumption) (by assumption) | exact q6 hD (by assumption) (by assumption) (by assumption) (by assumption))
      | rfl
      | (refine Nat.ble_eq_true_of_le ?_; omega)
  all_goals ((try dsimp only); first | (with_reducible first | exact p1 hD (by assumption) (by assumption) (by assumption) (by assumption) | exact p2 hD (by assumption) (by assumption) | exact p3 hD (by assumption) (by assumption) (by assumption) | exact p4 hD (by assumption) (by assumption) | exact p5 hD (by assumption) | exact p6 hD (by assumption)) | omega)

theorem t2_101 {N Q : Nat} (A r s l o : D) {x0 x1 x2 : R6} {n0 d0 n1 d1 n2 d2 : Nat} (hn : n0 ≤ N ∧ n1 ≤ N ∧ n2 ≤ N) (hd : d0 ≤ Q ∧ d1 ≤ Q ∧ d2 ≤ Q) (hN : N ≤ 8000) (hD : N + 3 * Q ≤ 8000) (h0 : x0.c ≠ 0) (h1 : x1.c = 0) (h2 : x2.c ≠ 0) :
    TurnTo N Q A 2 (V8 A (litD 2) r s l o) [rowD x0 n0 d0, rowD x1 n1 d1, rowD x2 n2 d2] [true, true, false] [litD 0, litD 1] (x0.off x0.c (x2.div x2.c)) x1 (x2.div x2.c) [litD 0, litD 1, litD 2] := by
  obtain ⟨a0, a1, a2⟩ := hn
  obtain ⟨b0, b1, b2⟩ := hd
  refine ⟨⟨_, _, _, _, _, _, _, _, _, _⟩, _, fun _ _ => rfl, ?_, ⟨?_, ?_, ?_⟩, ?_, ?_, ?_⟩
  · repeat' (with_reducible apply andB_intro)
    all_goals first
      | (with_reducible first | exact dec_t (by assumption) | exact dec_f (by assumption) | exact dec_n (by assumption) | exact q1 hD (by assumption) (by assumption) | exact q2 hD (by assumption) (by assumption) | exact q3 hD (by assumption) (by assumption) (by assumption) | exact q4 hD (by assumption) (by assumption) (by assumption) (by assumption) | exact q5 hD (by assumption) (by assumption) (by assumption) | exact q6 hD (by assumption) (by assumption) (by assumption) (by assumption))
      | rfl
      | (refine Nat.ble_eq_true_of_le ?_; omega)
  all_goals ((try dsimp only); first | (with_reducible first | exact p1 hD (by assumption) (by assumption) (by assumption) (by assumption) | exact p2 hD (by assumption) (by assumption) | exact p3 hD (by assumption) (by assumption) (by assumption) | exact p4 hD (by assumption) (by assumption) | exact p5 hD (by assumption) | exact p6 hD (by assumption)) | omega)

theorem t2_011 {N Q : Nat} (A r s l o : D) {x0 x1 x2 : R6} {n0 d0 n1 d1 n2 d2 : Nat} (hn : n0 ≤ N ∧ n1 ≤ N ∧ n2 ≤ N) (hd : d0 ≤ Q ∧ d1 ≤ Q ∧ d2 ≤ Q) (hN : N ≤ 8000) (hD : N + 3 * Q ≤ 8000) (h0 : x0.c = 0) (h1 : x1.c ≠ 0) (h2 : x2.c ≠ 0) :
    TurnTo N Q A 2 (V8 A (litD 2) r s l o) [rowD x0 n0 d0, rowD x1 n1 d1, rowD x2 n2 d2] [true, false, true] [litD 0, litD 1] x0 (x1.off x1.c (x2.div x2.c)) (x2.div x2.c) [litD 0, litD 1, litD 2] := by
  obtain ⟨a0, a1, a2⟩ := hn
  obtain ⟨b0, b1, b2⟩ := hd
  refine ⟨⟨_, _, _, _, _, _, _, _, _, _⟩, _, fun _ _ => rfl, ?_, ⟨?_, ?_, ?_⟩, ?_, ?_, ?_⟩
  · repeat' (with_reducible apply andB_intro)
    all_goals first
      | (with_reducible first | exact dec_t (by assumption) | exact dec_f (by assumption) | exact dec_n (by assumption) | exact q1 hD (by assumption) (by assumption) | exact q2 hD (by assumption) (by assumption) | exact q3 hD (by assumption) (by assumption) (by assumption) | exact q4 hD (by assumption) (by assumption) (by assumption) (by assumption) | exact q5 hD (by assumption) (by assumption) (by assumption) | exact q6 hD (by assumption) (by assumption) (by assumption) (by assumption))
      | rfl
      | (refine Nat.ble_eq_true_of_le ?_; omega)
  all_goals ((try dsimp only); first | (with_reducible first | exact p1 hD (by assumption) (by assumption) (by assumption) (by assumption) | exact p2 hD (by assumption) (by assumption) | exact p3 hD (by assumption) (by assumption) (by assumption) | exact p4 hD (by assumption) (by assumption) | exact p5 hD (by assumption) | exact p6 hD (by assumption)) | omega)

theorem t2_001 {N Q : Nat} (A r s l o : D) {x0 x1 x2 : R6} {n0 d0 n1 d1 n2 d2 : Nat} (hn : n0 ≤ N ∧ n1 ≤ N ∧ n2 ≤ N) (hd : d0 ≤ Q ∧ d1 ≤ Q ∧ d2 ≤ Q) (hN : N ≤ 8000) (hD : N + 3 * Q ≤ 8000) (h0 : x0.c = 0) (h1 : x1.c = 0) (h2 : x2.c ≠ 0) :
    TurnTo N Q A 2 (V8 A (litD 2) r s l o) [rowD x0 n0 d0, rowD x1 n1 d1, rowD x2 n2 d2] [true, false, false] [litD 0, litD 1] x0 x1 (x2.div x2.c) [litD 0, litD 1, litD 2] := by
  obtain ⟨a0, a1, a2⟩ := hn
  obtain ⟨b0, b1, b2⟩ := hd
  refine ⟨⟨_, _, _, _, _, _, _, _, _, _⟩, _, fun _ _ => rfl, ?_, ⟨?_, ?_, ?_⟩, ?_, ?_, ?_⟩
  · repeat' (with_reducible apply andB_intro)
    all_goals first
      | (with_reducible first | exact dec_t (by assumption) | exact dec_f (by assumption) | exact dec_n (by assumption) | exact q1 hD (by assumption) (by assumption) | exact q2 hD (by assumption) (by assumption) | exact q3 hD (by assumption) (by assumption) (by assumption) | exact q4 hD (by assumption) (by assumption) (by assumption) (by assumption) | exact q5 hD (by assumption) (by assumption) (by assumption) | exact q6 hD (by assumption) (by assumption) (by assumption) (by assumption))
      | rfl
      | (refine Nat.ble_eq_true_of_le ?_; omega)
  all_goals ((try dsimp only); first | (with_reducible first | exact p1 hD (by assumption) (by assumption) (by assumption) (by assumption) | exact p2 hD (by assumption) (by assumption) | exact p3 hD (by assumption) (by assumption) (by assumption) | exact p4 hD (by assumption) (by assumption) | exact p5 hD (by assumption) | exact p6 hD (by assumption)) | omega)

end Mine
end

section
set_option autoImplicit false
set_option linter.unusedVariables false
set_option Elab.async false
set_option maxHeartbeats 4000000
namespace Mine

namespace R6
theorem off0 (z p : R6) {k : Rat} (h : k = 0) : z.off k p = z := by
  subst h
  cases z
  simp [R6.off, Rat.sub_eq_add_neg, Rat.add_zero]
noncomputable def Inv (E : M3) (x : R6) : Prop := x.a = x.d * E.a + x.e * E.d + x.f * E.g ∧ x.b = x.d * E.b + x.e * E.e + x.f * E.h ∧ x.c = x.d * E.c + x.e * E.f + x.f * E.i
theorem Inv.div {E : M3} {z : R6} {l : Rat} (h : Inv E z) : Inv E (z.div l) := by
  obtain ⟨h1, h2, h3⟩ := h
  refine ⟨?_, ?_, ?_⟩ <;> simp only [R6.div, h1, h2, h3, Rat.div_def] <;> grind
theorem Inv.off {E : M3} {z p : R6} {k : Rat} (h : Inv E z) (g : Inv E p) : Inv E (z.off k p) := by
  obtain ⟨h1, h2, h3⟩ := h
  obtain ⟨g1, g2, g3⟩ := g
  refine ⟨?_, ?_, ?_⟩ <;> simp only [R6.off, h1, h2, h3, g1, g2, g3] <;> grind
noncomputable def det (x y z : R6) : Rat := x.a * (y.b * z.c - y.c * z.b) - x.b * (y.a * z.c - y.c * z.a) + x.c * (y.a * z.b - y.b * z.a)
structure I0 (E : M3) (x y z : R6) : Prop where
  i0 : Inv E x
  i1 : Inv E y
  i2 : Inv E z
structure C0 (x y z : R6) : Prop where
  a0 : x.a = 1
  a1 : y.a = 0
  a2 : z.a = 0
structure C1 (x y z : R6) : Prop where
  b0 : x.b = 0
  b1 : y.b = 1
  b2 : z.b = 0
structure C2 (x y z : R6) : Prop where
  c0 : x.c = 0
  c1 : y.c = 0
  c2 : z.c = 1

theorem next0 {E : M3} {z0 z1 z2 : R6} (h : z0.a ≠ 0) (hd : det z0 z1 z2 ≠ 0) (i : I0 E z0 z1 z2) :
    I0 E (z0.div z0.a) (z1.off z1.a (z0.div z0.a)) (z2.off z2.a (z0.div z0.a)) ∧ C0 (z0.div z0.a) (z1.off z1.a (z0.div z0.a)) (z2.off z2.a (z0.div z0.a)) ∧
    (z1.off z1.a (z0.div z0.a)).b * (z2.off z2.a (z0.div z0.a)).c - (z1.off z1.a (z0.div z0.a)).c * (z2.off z2.a (z0.div z0.a)).b ≠ 0 := by
  have p : (z0.div z0.a).a = 1 := by simp only [R6.div]; grind
  refine ⟨⟨i.i0.div, i.i1.off i.i0.div, i.i2.off i.i0.div⟩, ⟨p, ?_, ?_⟩, ?_⟩
  · simp only [R6.off, p]; grind
  · simp only [R6.off, p]; grind
  · intro q
    apply hd
    simp only [R6.off, R6.div] at q
    unfold det
    grind
theorem next1 {E : M3} {z0 z1 z2 : R6} (h : z1.b ≠ 0) (hd : z1.b * z2.c - z1.c * z2.b ≠ 0) (i : I0 E z0 z1 z2) (c : C0 z0 z1 z2) :
    I0 E (z0.off z0.b (z1.div z1.b)) (z1.div z1.b) (z2.off z2.b (z1.div z1.b)) ∧ C0 (z0.off z0.b (z1.div z1.b)) (z1.div z1.b) (z2.off z2.b (z1.div z1.b)) ∧ C1 (z0.off z0.b (z1.div z1.b)) (z1.div z1.b) (z2.off z2.b (z1.div z1.b)) ∧
    (z2.off z2.b (z1.div z1.b)).c ≠ 0 := by
  have p : (z1.div z1.b).b = 1 := by simp only [R6.div]; grind
  have p0 : (z1.div z1.b).a = 0 := by simp only [R6.div, c.a1]; grind
  refine ⟨⟨i.i0.off i.i1.div, i.i1.div, i.i2.off i.i1.div⟩, ⟨?_, p0, ?_⟩, ⟨?_, p, ?_⟩, ?_⟩
  · simp only [R6.off, p0, c.a0]; grind
  · simp only [R6.off, p0, c.a2]; grind
  · simp only [R6.off, p]; grind
  · simp only [R6.off, p]; grind
  · intro q
    apply hd
    simp only [R6.off, R6.div] at q
    grind
theorem next2 {E : M3} {z0 z1 z2 : R6} (h : z2.c ≠ 0) (i : I0 E z0 z1 z2) (c : C0 z0 z1 z2) (b : C1 z0 z1 z2) :
    I0 E (z0.off z0.c (z2.div z2.c)) (z1.off z1.c (z2.div z2.c)) (z2.div z2.c) ∧ C0 (z0.off z0.c (z2.div z2.c)) (z1.off z1.c (z2.div z2.c)) (z2.div z2.c) ∧ C1 (z0.off z0.c (z2.div z2.c)) (z1.off z1.c (z2.div z2.c)) (z2.div z2.c) ∧ C2 (z0.off z0.c (z2.div z2.c)) (z1.off z1.c (z2.div z2.c)) (z2.div z2.c) := by
  have p : (z2.div z2.c).c = 1 := by simp only [R6.div]; grind
  have p0 : (z2.div z2.c).a = 0 := by simp only [R6.div, c.a2]; grind
  have p1 : (z2.div z2.c).b = 0 := by simp only [R6.div, b.b2]; grind
  refine ⟨⟨i.i0.off i.i2.div, i.i1.off i.i2.div, i.i2.div⟩, ⟨?_, ?_, p0⟩, ⟨?_, ?_, p1⟩, ⟨?_, ?_, p⟩⟩
  · simp only [R6.off, p0, c.a0]; grind
  · simp only [R6.off, p0, c.a1]; grind
  · simp only [R6.off, p1, b.b0]; grind
  · simp only [R6.off, p1, b.b1]; grind
  · simp only [R6.off, p]; grind
  · simp only [R6.off, p]; grind
theorem last {E Y : M3} {x y z : R6} (i : I0 E x y z) (c : C0 x y z) (b : C1 x y z) (d : C2 x y z) (hY : E.mul Y = M3.one) :
    x = ⟨1, 0, 0, Y.a, Y.b, Y.c⟩ ∧ y = ⟨0, 1, 0, Y.d, Y.e, Y.f⟩ ∧ z = ⟨0, 0, 1, Y.g, Y.h, Y.i⟩ := by
  obtain ⟨⟨i1, i2, i3⟩, ⟨i4, i5, i6⟩, ⟨i7, i8, i9⟩⟩ := i
  obtain ⟨a1, a2, a3⟩ := c
  obtain ⟨b1, b2, b3⟩ := b
  obtain ⟨d1, d2, d3⟩ := d
  have hR : (⟨x.d, x.e, x.f, y.d, y.e, y.f, z.d, z.e, z.f⟩ : M3).mul E = M3.one := by
    apply M3.ext <;> simp only [M3.mul, M3.one] <;> grind
  have hRY : (⟨x.d, x.e, x.f, y.d, y.e, y.f, z.d, z.e, z.f⟩ : M3) = Y := by
    rw [← M3.mul_one (⟨x.d, x.e, x.f, y.d, y.e, y.f, z.d, z.e, z.f⟩ : M3), ← hY, ← M3.mul_assoc, hR, M3.one_mul]
  subst hRY
  cases x; cases y; cases z
  simp_all
end R6
end Mine
end

section
set_option autoImplicit false
set_option linter.unusedVariables false
set_option Elab.async false
set_option maxRecDepth 100000
set_option maxHeartbeats 4000000
namespace Mine
open PySem PySem.Calls PyProof.Rows R6

theorem turn0 {N Q : Nat} {E : M3} (A : D) {x0 x1 x2 : R6} {n0 d0 n1 d1 n2 d2 : Nat} (hn : n0 ≤ N ∧ n1 ≤ N ∧ n2 ≤ N) (hd : d0 ≤ Q ∧ d1 ≤ Q ∧ d2 ≤ Q) (hN : N ≤ 8000) (hD : N + 3 * Q ≤ 8000) (hdet : det x0 x1 x2 ≠ 0) (i : I0 E x0 x1 x2) :
    ∃ ds y0 y1 y2, TurnTo N Q A 0 (V4 A (litD 0)) [rowD x0 n0 d0, rowD x1 n1 d1, rowD x2 n2 d2] ds [] y0 y1 y2 [litD 0] ∧ I0 E y0 y1 y2 ∧ C0 y0 y1 y2 ∧ y1.b * y2.c - y1.c * y2.b ≠ 0 := by
  by_cases h0 : x0.a = 0
  · by_cases h1 : x1.a = 0
    · by_cases h2 : x2.a = 0
      · exfalso; apply hdet; simp only [det, h0, h1, h2]; grind
      · exact ⟨_, _, _, _, (by rw [off0 x1 _ h1, off0 x0 _ h0]; exact t0_001 A A A A A hn hd hN hD h0 h1 h2), next0 (z0 := x2) (z1 := x1) (z2 := x0) h2 (fun q => hdet (by simp only [det] at q ⊢; grind)) ⟨i.i2, i.i1, i.i0⟩⟩
    · by_cases h2 : x2.a = 0
      · exact ⟨_, _, _, _, (by rw [off0 x0 _ h0, off0 x2 _ h2]; exact t0_010 A A A A A hn hd hN hD h0 h1 h2), next0 (z0 := x1) (z1 := x0) (z2 := x2) h1 (fun q => hdet (by simp only [det] at q ⊢; grind)) ⟨i.i1, i.i0, i.i2⟩⟩
      · exact ⟨_, _, _, _, (by rw [off0 x0 _ h0]; exact t0_011 A A A A A hn hd hN hD h0 h1 h2), next0 (z0 := x1) (z1 := x0) (z2 := x2) h1 (fun q => hdet (by simp only [det] at q ⊢; grind)) ⟨i.i1, i.i0, i.i2⟩⟩
  · by_cases h1 : x1.a = 0
    · by_cases h2 : x2.a = 0
      · exact ⟨_, _, _, _, (by rw [off0 x1 _ h1, off0 x2 _ h2]; exact t0_100 A A A A A hn hd hN hD h0 h1 h2), next0 (z0 := x0) (z1 := x1) (z2 := x2) h0 hdet ⟨i.i0, i.i1, i.i2⟩⟩
      · exact ⟨_, _, _, _, (by rw [off0 x1 _ h1]; exact t0_101 A A A A A hn hd hN hD h0 h1 h2), next0 (z0 := x0) (z1 := x1) (z2 := x2) h0 hdet ⟨i.i0, i.i1, i.i2⟩⟩
    · by_cases h2 : x2.a = 0
      · exact ⟨_, _, _, _, (by rw [off0 x2 _ h2]; exact t0_110 A A A A A hn hd hN hD h0 h1 h2), next0 (z0 := x0) (z1 := x1) (z2 := x2) h0 hdet ⟨i.i0, i.i1, i.i2⟩⟩
      · exact ⟨_, _, _, _, (by exact t0_111 A A A A A hn hd hN hD h0 h1 h2), next0 (z0 := x0) (z1 := x1) (z2 := x2) h0 hdet ⟨i.i0, i.i1, i.i2⟩⟩
theorem turn1 {N Q : Nat} {E : M3} (A r s l o : D) {x0 x1 x2 : R6} {n0 d0 n1 d1 n2 d2 : Nat} (hn : n0 ≤ N ∧ n1 ≤ N ∧ n2 ≤ N) (hd : d0 ≤ Q ∧ d1 ≤ Q ∧ d2 ≤ Q) (hN : N ≤ 8000) (hD : N + 3 * Q ≤ 8000) (hdet : x1.b * x2.c - x1.c * x2.b ≠ 0) (i : I0 E x0 x1 x2) (c : C0 x0 x1 x2) :
    ∃ ds y0 y1 y2, TurnTo N Q A 1 (V8 A (litD 1) r s l o) [rowD x0 n0 d0, rowD x1 n1 d1, rowD x2 n2 d2] ds [litD 0] y0 y1 y2 [litD 0, litD 1] ∧ I0 E y0 y1 y2 ∧ C0 y0 y1 y2 ∧ C1 y0 y1 y2 ∧ y2.c ≠ 0 := by
  by_cases h0 : x0.b = 0
  · by_cases h1 : x1.b = 0
    · by_cases h2 : x2.b = 0
      · exfalso; apply hdet; simp only [h1, h2]; grind
      · exact ⟨_, _, _, _, (by rw [off0 x0 _ h0, off0 x1 _ h1]; exact t1_001 A r s l o hn hd hN hD h0 h1 h2), next1 (z0 := x0) (z1 := x2) (z2 := x1) h2 (fun q => hdet (by grind)) ⟨i.i0, i.i2, i.i1⟩ ⟨c.a0, c.a2, c.a1⟩⟩
    · by_cases h2 : x2.b = 0
      · exact ⟨_, _, _, _, (by rw [off0 x0 _ h0, off0 x2 _ h2]; exact t1_010 A r s l o hn hd hN hD h0 h1 h2), next1 (z0 := x0) (z1 := x1) (z2 := x2) h1 hdet ⟨i.i0, i.i1, i.i2⟩ ⟨c.a0, c.a1, c.a2⟩⟩
      · exact ⟨_, _, _, _, (by rw [off0 x0 _ h0]; exact t1_011 A r s l o hn hd hN hD h0 h1 h2), next1 (z0 := x0) (z1 := x1) (z2 := x2) h1 hdet ⟨i.i0, i.i1, i.i2⟩ ⟨c.a0, c.a1, c.a2⟩⟩
  · by_cases h1 : x1.b = 0
    · by_cases h2 : x2.b = 0
      · exfalso; apply hdet; simp only [h1, h2]; grind
      · exact ⟨_, _, _, _, (by rw [off0 x1 _ h1]; exact t1_101 A r s l o hn hd hN hD h0 h1 h2), next1 (z0 := x0) (z1 := x2) (z2 := x1) h2 (fun q => hdet (by grind)) ⟨i.i0, i.i2, i.i1⟩ ⟨c.a0, c.a2, c.a1⟩⟩
    · by_cases h2 : x2.b = 0
      · exact ⟨_, _, _, _, (by rw [off0 x2 _ h2]; exact t1_110 A r s l o hn hd hN hD h0 h1 h2), next1 (z0 := x0) (z1 := x1) (z2 := x2) h1 hdet ⟨i.i0, i.i1, i.i2⟩ ⟨c.a0, c.a1, c.a2⟩⟩
      · exact ⟨_, _, _, _, (by exact t1_111 A r s l o hn hd hN hD h0 h1 h2), next1 (z0 := x0) (z1 := x1) (z2 := x2) h1 hdet ⟨i.i0, i.i1, i.i2⟩ ⟨c.a0, c.a1, c.a2⟩⟩
theorem turn2 {N Q : Nat} {E : M3} (A r s l o : D) {x0 x1 x2 : R6} {n0 d0 n1 d1 n2 d2 : Nat} (hn : n0 ≤ N ∧ n1 ≤ N ∧ n2 ≤ N) (hd : d0 ≤ Q ∧ d1 ≤ Q ∧ d2 ≤ Q) (hN : N ≤ 8000) (hD : N + 3 * Q ≤ 8000) (h2 : x2.c ≠ 0) (i : I0 E x0 x1 x2) (c : C0 x0 x1 x2) (b : C1 x0 x1 x2) :
    ∃ ds y0 y1 y2, TurnTo N Q A 2 (V8 A (litD 2) r s l o) [rowD x0 n0 d0, rowD x1 n1 d1, rowD x2 n2 d2] ds [litD 0, litD 1] y0 y1 y2 [litD 0, litD 1, litD 2] ∧ I0 E y0 y1 y2 ∧ C0 y0 y1 y2 ∧ C1 y0 y1 y2 ∧ C2 y0 y1 y2 := by
  by_cases h0 : x0.c = 0
  · by_cases h1 : x1.c = 0
    · exact ⟨_, _, _, _, (by rw [off0 x0 _ h0, off0 x1 _ h1]; exact t2_001 A r s l o hn hd hN hD h0 h1 h2), next2 (z0 := x0) (z1 := x1) (z2 := x2) h2 i c b⟩
    · exact ⟨_, _, _, _, (by rw [off0 x0 _ h0]; exact t2_011 A r s l o hn hd hN hD h0 h1 h2), next2 (z0 := x0) (z1 := x1) (z2 := x2) h2 i c b⟩
  · by_cases h1 : x1.c = 0
    · exact ⟨_, _, _, _, (by rw [off0 x1 _ h1]; exact t2_101 A r s l o hn hd hN hD h0 h1 h2), next2 (z0 := x0) (z1 := x1) (z2 := x2) h2 i c b⟩
    · exact ⟨_, _, _, _, (by exact t2_111 A r s l o hn hd hN hD h0 h1 h2), next2 (z0 := x0) (z1 := x1) (z2 := x2) h2 i c b⟩

theorem F_turn (n : Nat) (j : Int) (hj : j < 6) (vs vs1 vs2 vs3 : Vars) (st st2 st3 : St) (fl f : Fl) (hv : setV vs "column" (litD j) = vs1) (hfl : fl = .next ∨ fl = .cont)
    (h : evSs (ev2 c5 n) echSc vs1 st echF.2 = some (fl, vs2, st2, true)) (k : (ev2 c5 n).F echSc vs2 st2 echF.1 echF.2 (.rng (j + 1) 6) = some (f, vs3, st3, true)) :
    (ev2 c5 (n + 1)).F echSc vs st echF.1 echF.2 (.rng j 6) = some (f, vs3, st3, true) := by
  rw [ev2_F c5 n]
  unfold stepF
  have e1 : nextI st.sto (.rng j 6) = some (some (litD j, .rng (j + 1) 6)) := by
    show cond (decide (j < 6)) _ _ = _
    rw [decide_eq_true hj]; rfl
  rw [e1]
  have e2 : cond (okT echF.1 (.rng j 6)) (asg (ev2 c5 n) echSc vs st echF.1 (litD j)) none = some (vs1, st, true) := by
    rw [← hv]; rfl
  simp only [e2, h]
  rcases hfl with rfl | rfl
  · simp only [k]; rfl
  · simp only [k]; rfl
theorem F_end (n : Nat) (vs : Vars) (st : St) : (ev2 c5 (n + 1)).F echSc vs st echF.1 echF.2 (.rng 6 6) = some (.next, vs, st, true) := rfl
set_option smartUnfolding false in
theorem turn3 (n : Nat) (q : List Bool) (A c r s l o r0 r1 r2 : D) : evSs (ev2 c5 (n + 20)) echSc (V8 A c r s l o) (echSt [r0, r1, r2] q [litD 0, litD 1, litD 2]) echF.2 = some (Fl.cont, V8 A c (litD 3) (.lst []) l o, echSt [r0, r1, r2] q [litD 0, litD 1, litD 2], true) := rfl
end Mine
end

section
set_option autoImplicit false
set_option linter.unusedVariables false
set_option Elab.async false
set_option maxRecDepth 100000
set_option maxHeartbeats 4000000
set_option smartUnfolding false
namespace Mine
open PySem PySem.Calls PyProof.Rows R6

noncomputable def eb (n : Nat) : Stmt := nth (theFn "echelon").body n
noncomputable def iterOf (s : Stmt) : Expr × Pos := ((sParts s).2.1, (sParts s).2.2.2.2)
theorem ech_body : (theFn "echelon").body = [eb 0, .For echF.1 (iterOf (eb 1)).1 echF.2 [] (iterOf (eb 1)).2, eb 2] := rfl
noncomputable def V3 (A : D) : Vars := [("a", A), ("found", .mut 0), ("pivots", .mut 1)]
noncomputable def rows3 (x0 x1 x2 : R6) (n0 d0 n1 d1 n2 d2 : Nat) : List D := [rowD x0 n0 d0, rowD x1 n1 d1, rowD x2 n2 d2]
theorem eb0 (q : List Bool) (x0 x1 x2 : R6) (n0 d0 n1 d1 n2 d2 : Nat) : (ev2 c5 40).S echSc [("a", .lst (rows3 x0 x1 x2 n0 d0 n1 d1 n2 d2))] ⟨[], q, 9⟩ (eb 0) =
  some (Fl.next, V3 (.lst (rows3 x0 x1 x2 n0 d0 n1 d1 n2 d2)), echSt (rows3 x0 x1 x2 n0 d0 n1 d1 n2 d2) q [], true) := rfl
theorem eb1 (st : List D) (q p : List Bool) (x0 x1 x2 : R6) (n0 d0 n1 d1 n2 d2 : Nat) : evIt (ev2 c5 39) echSc (V3 (.lst (rows3 x0 x1 x2 n0 d0 n1 d1 n2 d2))) (echSt (rows3 x0 x1 x2 n0 d0 n1 d1 n2 d2) q []) (iterOf (eb 1)).1 =
  some (.rng 0 6, echSt (rows3 x0 x1 x2 n0 d0 n1 d1 n2 d2) q [], true) := rfl
theorem eb2 (A c r s l o : D) (q : List Bool) (x0 x1 x2 : R6) (n0 d0 n1 d1 n2 d2 : Nat) : (ev2 c5 40).S echSc (V8 A c r s l o) (echSt (rows3 x0 x1 x2 n0 d0 n1 d1 n2 d2) q [litD 0, litD 1, litD 2]) (eb 2) =
  some (Fl.ret (.tup [.mut 0, .mut 1]), V8 A c r s l o, echSt (rows3 x0 x1 x2 n0 d0 n1 d1 n2 d2) q [litD 0, litD 1, litD 2], true) := rfl

theorem S_for (c : Cfg) (n : Nat) (sc : Sc) (vs vs2 : Vars) (st st1 st2 : St) (t i : Expr) (b : List Stmt) (p : Pos) (it : It) (f : Fl) (h : evIt (ev2 c n) sc vs st i = some (it, st1, true)) (k : (ev2 c n).F sc vs st1 t b it = some (f, vs2, st2, true)) :
    (ev2 c (n + 1)).S sc vs st (.For t i b [] p) = some (f, vs2, st2, true) := by
  have e : (ev2 c (n + 1)).S sc vs st (.For t i b [] p) = (match evIt (ev2 c n) sc vs st i with
    | some (it, st1, o1) => (match (ev2 c n).F sc vs st1 t b it with
      | some (f, vs2, st2, o2) => some (f, vs2, st2, andB o1 o2)
      | none => none)
    | none => none) := rfl
  rw [e, h]
  simp only
  rw [k]
  rfl

theorem ech_run {E Y : M3} {w0 w1 w2 : R6} (hdet : det w0 w1 w2 ≠ 0) (i : I0 E w0 w1 w2) (hY : E.mul Y = M3.one) :
    ∃ ds n0 d0 n1 d1 n2 d2, runF (ev2 c5 40) ⟨[], ds, 10⟩ (theFn "echelon") [.lst (rows3 w0 w1 w2 64 1 64 1 64 1)] =
      some (.tup [.lst (rows3 ⟨1, 0, 0, Y.a, Y.b, Y.c⟩ ⟨0, 1, 0, Y.d, Y.e, Y.f⟩ ⟨0, 0, 1, Y.g, Y.h, Y.i⟩ n0 d0 n1 d1 n2 d2), .lst [litD 0, litD 1, litD 2]], ⟨[], [], 10⟩, true) ∧
      (n0 ≤ 7101 ∧ n1 ≤ 7101 ∧ n2 ≤ 7101) ∧ (d0 ≤ 2699 ∧ d1 ≤ 2699 ∧ d2 ≤ 2699) := by
  obtain ⟨ds0, y0, y1, y2, ⟨x, _, T0, rfl, hm, he⟩, I, C, M⟩ := turn0 (N := 64) (Q := 1) (.lst (rows3 w0 w1 w2 64 1 64 1 64 1)) (n0 := 64) (d0 := 1) (n1 := 64) (d1 := 1) (n2 := 64) (d2 := 1) (by decide) (by decide) (by decide) (by decide) hdet i
  obtain ⟨ds1, z0, z1, z2, ⟨x1, _, T1, rfl, hp, hf⟩, I1, C1, B1, M1⟩ := turn1 (N := 261) (Q := 67) (.lst (rows3 w0 w1 w2 64 1 64 1 64 1)) x.r x.s x.l x.z (n0 := x.n0) (d0 := x.d0) (n1 := x.n1) (d1 := x.d1) (n2 := x.n2) (d2 := x.d2) (by omega) (by omega) (by decide) (by decide) M I C
  obtain ⟨ds2, u0, u1, u2, ⟨x2, _, T2, rfl, hk, hg⟩, I2, C2, B2, D2⟩ := turn2 (N := 1313) (Q := 462) (.lst (rows3 w0 w1 w2 64 1 64 1 64 1)) x1.r x1.s x1.l x1.z (n0 := x1.n0) (d0 := x1.d0) (n1 := x1.n1) (d1 := x1.d1) (n2 := x1.n2) (d2 := x1.d2) (by omega) (by omega) (by decide) (by decide) M1 I1 C1 B1
  obtain ⟨rfl, rfl, rfl⟩ := last I2 C2 B2 D2 hY
  refine ⟨ds0 ++ (ds1 ++ (ds2 ++ [])), x2.n0, x2.d0, x2.n1, x2.d1, x2.n2, x2.d2, ?_, by omega, by omega⟩
  have F6 := F_turn 33 5 (by decide) (V8 (.lst (rows3 w0 w1 w2 64 1 64 1 64 1)) (litD 4) (litD 3) (.lst []) x2.l x2.z) _ _ _ _ _ _ _ _ rfl (Or.inr rfl) (turn3 13 [] _ (litD 5) _ _ _ _ (rowD ⟨1, 0, 0, Y.a, Y.b, Y.c⟩ x2.n0 x2.d0) (rowD ⟨0, 1, 0, Y.d, Y.e, Y.f⟩ x2.n1 x2.d1) (rowD ⟨0, 0, 1, Y.g, Y.h, Y.i⟩ x2.n2 x2.d2)) (F_end 32 _ _)
  have F5 := F_turn 34 4 (by decide) (V8 (.lst (rows3 w0 w1 w2 64 1 64 1 64 1)) (litD 3) (litD 3) (.lst []) x2.l x2.z) _ _ _ _ _ _ _ _ rfl (Or.inr rfl) (turn3 14 [] _ (litD 4) _ _ _ _ _ _ _) F6
  have F4 := F_turn 35 3 (by decide) (V8 (.lst (rows3 w0 w1 w2 64 1 64 1 64 1)) (litD 2) x2.r x2.s x2.l x2.z) _ _ _ _ _ _ _ _ rfl (Or.inr rfl) (turn3 15 [] _ (litD 3) _ _ _ _ _ _ _) F5
  have F3 := F_turn 36 2 (by decide) (V8 (.lst (rows3 w0 w1 w2 64 1 64 1 64 1)) (litD 1) x1.r x1.s x1.l x1.z) _ _ _ _ _ _ _ _ rfl (Or.inl rfl) (T2 16 []) F4
  have F2 := F_turn 37 1 (by decide) (V8 (.lst (rows3 w0 w1 w2 64 1 64 1 64 1)) (litD 0) x.r x.s x.l x.z) _ _ _ _ _ _ _ _ rfl (Or.inl rfl) (T1 17 (ds2 ++ [])) F3
  have F1 := F_turn 38 0 (by decide) (V3 _) _ _ _ _ _ _ _ _ rfl (Or.inl rfl) (T0 18 (ds1 ++ (ds2 ++ []))) F2
  have S : (ev2 c5 40).S echSc (V3 (.lst (rows3 w0 w1 w2 64 1 64 1 64 1))) (echSt (rows3 w0 w1 w2 64 1 64 1 64 1) (ds0 ++ (ds1 ++ (ds2 ++ []))) []) (.For echF.1 (iterOf (eb 1)).1 echF.2 [] (iterOf (eb 1)).2) =
      some (Fl.next, V8 (.lst (rows3 w0 w1 w2 64 1 64 1 64 1)) (litD 5) (litD 3) (.lst []) x2.l x2.z, echSt (rows3 ⟨1, 0, 0, Y.a, Y.b, Y.c⟩ ⟨0, 1, 0, Y.d, Y.e, Y.f⟩ ⟨0, 0, 1, Y.g, Y.h, Y.i⟩ x2.n0 x2.d0 x2.n1 x2.d1 x2.n2 x2.d2) [] [litD 0, litD 1, litD 2], true) := by
    exact S_for c5 39 _ _ _ _ _ _ _ _ _ _ _ _ (eb1 [] _ [] _ _ _ _ _ _ _ _ _) F1
  have R : evSs (ev2 c5 40) echSc [("a", .lst (rows3 w0 w1 w2 64 1 64 1 64 1))] ⟨[], ds0 ++ (ds1 ++ (ds2 ++ [])), 9⟩ (theFn "echelon").body = some (Fl.ret (.tup [.mut 0, .mut 1]), V8 (.lst (rows3 w0 w1 w2 64 1 64 1 64 1)) (litD 5) (litD 3) (.lst []) x2.l x2.z, echSt (rows3 ⟨1, 0, 0, Y.a, Y.b, Y.c⟩ ⟨0, 1, 0, Y.d, Y.e, Y.f⟩ ⟨0, 0, 1, Y.g, Y.h, Y.i⟩ x2.n0 x2.d0 x2.n1 x2.d1 x2.n2 x2.d2) [] [litD 0, litD 1, litD 2], true) := by
    rw [ech_body]
    unfold evSs
    rw [eb0]
    simp only
    unfold evSs
    rw [S]
    simp only
    unfold evSs
    rw [eb2]
    rfl
  unfold runF
  simp only
  rw [show fnOk (theFn "echelon") (List.length [D.lst (rows3 w0 w1 w2 64 1 64 1 64 1)]) = true from rfl, cond_true]
  rw [show evSs (ev2 c5 40) (theFn "echelon").scope.names ((theFn "echelon").params.zip [.lst (rows3 w0 w1 w2 64 1 64 1 64 1)]) ⟨[], ds0 ++ (ds1 ++ (ds2 ++ [])), 9⟩ (theFn "echelon").body = _ from R]
  rfl
end Mine
end

section
set_option autoImplicit false
set_option linter.unusedVariables false
set_option Elab.async false
set_option maxHeartbeats 4000000
namespace Mine
namespace M3
noncomputable def dt (X : M3) : Rat := X.a * (X.e * X.i - X.f * X.h) - X.b * (X.d * X.i - X.f * X.g) + X.c * (X.d * X.h - X.e * X.g)
theorem dt_mul (X Y : M3) : (X.mul Y).dt = X.dt * Y.dt := by
  simp only [dt, M3.mul]; grind
theorem dt_ne {X Y : M3} (h : X.mul Y = M3.one) : X.dt ≠ 0 := by
  intro q
  have := dt_mul X Y
  rw [h, q] at this
  have e : M3.one.dt = 1 := by simp only [dt, M3.one]; grind
  rw [e] at this
  grind
theorem inv_of {A : M3} (h : A.mul (A.mul A) = M3.zero) : A.exp.mul (((M3.one.scale 2).add (A.mul A)).add (A.exp.scale (-1))) = M3.one := by
  rw [exp_eq]
  simp only [mul_add, add_mul, scale_mul, mul_scale, mul_assoc, cube h, h, mul_zero, zero_mul, zero_scale, zero_add, add_zero, scale_scale, scale_add, mul_one, one_mul]
  apply M3.ext <;> simp only [M3.zero, M3.one, M3.scale, M3.add] <;> grind
noncomputable def eqM (X Y : M3) : Bool := andB (decide (X.a = Y.a)) <| andB (decide (X.b = Y.b)) <| andB (decide (X.c = Y.c)) <| andB (decide (X.d = Y.d)) <| andB (decide (X.e = Y.e)) <| andB (decide (X.f = Y.f)) <| andB (decide (X.g = Y.g)) <| andB (decide (X.h = Y.h)) (decide (X.i = Y.i))
theorem eqM_self (X : M3) : eqM X X = true := by simp [eqM, andB]
theorem eqM_ok {X Y : M3} (h : eqM X Y = true) : X = Y := by
  unfold eqM at h
  obtain ⟨h1, h⟩ := andB_true h
  obtain ⟨h2, h⟩ := andB_true h
  obtain ⟨h3, h⟩ := andB_true h
  obtain ⟨h4, h⟩ := andB_true h
  obtain ⟨h5, h⟩ := andB_true h
  obtain ⟨h6, h⟩ := andB_true h
  obtain ⟨h7, h⟩ := andB_true h
  obtain ⟨h8, h⟩ := andB_true h
  exact M3.ext (of_decide_eq_true h1) (of_decide_eq_true h2) (of_decide_eq_true h3) (of_decide_eq_true h4) (of_decide_eq_true h5) (of_decide_eq_true h6) (of_decide_eq_true h7) (of_decide_eq_true h8) (of_decide_eq_true h)
end M3
namespace R6
noncomputable def eqR (X Y : R6) : Bool := andB (decide (X.a = Y.a)) <| andB (decide (X.b = Y.b)) <| andB (decide (X.c = Y.c)) <| andB (decide (X.d = Y.d)) <| andB (decide (X.e = Y.e)) (decide (X.f = Y.f))
theorem eqR_self (X : R6) : eqR X X = true := by simp [eqR, andB]
theorem eqR_ok {X Y : R6} (h : eqR X Y = true) : X = Y := by
  unfold eqR at h
  obtain ⟨h1, h⟩ := andB_true h
  obtain ⟨h2, h⟩ := andB_true h
  obtain ⟨h3, h⟩ := andB_true h
  obtain ⟨h4, h⟩ := andB_true h
  obtain ⟨h5, h⟩ := andB_true h
  cases X; cases Y
  have := of_decide_eq_true h1
  have := of_decide_eq_true h2
  have := of_decide_eq_true h3
  have := of_decide_eq_true h4
  have := of_decide_eq_true h5
  have := of_decide_eq_true h
  simp_all
theorem det_wide {E Y : M3} (h : E.mul Y = M3.one) : det ⟨E.a, E.b, E.c, 1, 0, 0⟩ ⟨E.d, E.e, E.f, 0, 1, 0⟩ ⟨E.g, E.h, E.i, 0, 0, 1⟩ ≠ 0 := by
  intro q
  apply M3.dt_ne h
  simp only [det] at q
  simp only [M3.dt]
  grind
theorem inv_wide (E : M3) : I0 E ⟨E.a, E.b, E.c, 1, 0, 0⟩ ⟨E.d, E.e, E.f, 0, 1, 0⟩ ⟨E.g, E.h, E.i, 0, 0, 1⟩ := by
  refine ⟨⟨?_, ?_, ?_⟩, ⟨?_, ?_, ?_⟩, ⟨?_, ?_, ?_⟩⟩ <;> simp only [] <;> grind
end R6
end Mine
end

section
set_option autoImplicit false
set_option linter.unusedVariables false
set_option linter.unusedSimpArgs false
set_option Elab.async false
set_option maxRecDepth 100000
set_option maxHeartbeats 4000000
set_option smartUnfolding false
namespace Mine
open PySem PySem.Calls PyProof.Rows R6

noncomputable def six (l : List (Rat × Nat × Nat)) : Option (R6 × Nat × Nat) := match tri (l.take 3) with
  | some ((a, b, c), (n1, n2, n3), (d1, d2, d3)) => (match tri (l.drop 3) with
    | some ((d, e, f), (n4, n5, n6), (d4, d5, d6)) => some (⟨a, b, c, d, e, f⟩, mx [n1, n2, n3, n4, n5, n6], mx [d1, d2, d3, d4, d5, d6])
    | none => none)
  | none => none
theorem row6L {a b c e f g : Rat} {n1 n2 n3 n4 n5 n6 d1 d2 d3 d4 d5 d6 n d : Nat} (a1 : n1 ≤ n) (a2 : n2 ≤ n) (a3 : n3 ≤ n) (a4 : n4 ≤ n) (a5 : n5 ≤ n) (a6 : n6 ≤ n) (b1 : d1 ≤ d) (b2 : d2 ≤ d) (b3 : d3 ≤ d) (b4 : d4 ≤ d) (b5 : d5 ≤ d) (b6 : d6 ≤ d) :
    Wd (.lst [.rat a n1 d1, .rat b n2 d2, .rat c n3 d3, .rat e n4 d4, .rat f n5 d5, .rat g n6 d6]) (rowD ⟨a, b, c, e, f, g⟩ n d) :=
  wd_lst (Wds.cons (wd_rat a1 b1) (Wds.cons (wd_rat a2 b2) (Wds.cons (wd_rat a3 b3) (Wds.cons (wd_rat a4 b4) (Wds.cons (wd_rat a5 b5) (Wds.cons (wd_rat a6 b6) Wds.nil))))))
set_option smartUnfolding true in
theorem mx6_le {a b c d e f N : Nat} (h : mx [a, b, c, d, e, f] ≤ N) : a ≤ N ∧ b ≤ N ∧ c ≤ N ∧ d ≤ N ∧ e ≤ N ∧ f ≤ N := by
  have m : ∀ x ∈ [a, b, c, d, e, f], x ≤ N := fun x hx => Nat.le_trans (mx_le hx) h
  simp only [List.forall_mem_cons] at m
  obtain ⟨m1, m2, m3, m4, m5, m6, _⟩ := m
  exact ⟨m1, m2, m3, m4, m5, m6⟩
set_option smartUnfolding true in
theorem six_ok {l : List (Rat × Nat × Nat)} {x : R6} {n d N M : Nat} (h : six l = some (x, n, d)) (h1 : n ≤ N) (h2 : d ≤ M) : Wd (.lst (l.map ratD)) (rowD x N M) := by
  unfold six at h
  split at h
  · rename_i e1
    split at h
    · rename_i e2
      injection h with h; injection h with k1 h; injection h with k2 k3
      subst k1 k2 k3
      rw [← List.take_append_drop 3 l, tri_ok e1, tri_ok e2]
      have A := mx6_le h1
      have B := mx6_le h2
      exact row6L A.1 A.2.1 A.2.2.1 A.2.2.2.1 A.2.2.2.2.1 A.2.2.2.2.2 B.1 B.2.1 B.2.2.1 B.2.2.2.1 B.2.2.2.2.1 B.2.2.2.2.2
    · first | exact no_some h | cases h
  · first | exact no_some h | cases h
noncomputable def asWide (x : D) : Option (R6 × R6 × R6 × Nat × Nat) := match gridOf x with
  | some l => (match trip3 six l with
    | some ((x0, n0, d0), (x1, n1, d1), (x2, n2, d2)) => some (x0, x1, x2, mx [n0, n1, n2], mx [d0, d1, d2])
    | none => none)
  | none => none
set_option smartUnfolding true in
theorem asWide_ok {x : D} {y0 y1 y2 : R6} {n d N M : Nat} (h : asWide x = some (y0, y1, y2, n, d)) (h1 : n ≤ N) (h2 : d ≤ M) : Wd x (.lst [rowD y0 N M, rowD y1 N M, rowD y2 N M]) := by
  unfold asWide at h
  split at h
  · rename_i e0
    split at h
    · rename_i e1
      injection h with h; injection h with k1 h; injection h with k2 h; injection h with k3 h; injection h with k4 k5
      subst k1 k2 k3 k4 k5
      obtain ⟨u, v, w, rfl, e2, e3, e4⟩ := trip3_ok e1
      rw [gridOf_ok e0]
      refine wd_lst (Wds.cons (six_ok e2 ?_ ?_) (Wds.cons (six_ok e3 ?_ ?_) (Wds.cons (six_ok e4 ?_ ?_) Wds.nil)))
      · exact Nat.le_trans (mx_le (by simp)) h1
      · exact Nat.le_trans (mx_le (by simp)) h2
      · exact Nat.le_trans (mx_le (by simp)) h1
      · exact Nat.le_trans (mx_le (by simp)) h2
      · exact Nat.le_trans (mx_le (by simp)) h1
      · exact Nat.le_trans (mx_le (by simp)) h2
    · first | exact no_some h | cases h
  · first | exact no_some h | cases h
noncomputable def wideOf (E : M3) (x0 x1 x2 : R6) : Bool := andB (eqR x0 ⟨E.a, E.b, E.c, 1, 0, 0⟩) <| andB (eqR x1 ⟨E.d, E.e, E.f, 0, 1, 0⟩) (eqR x2 ⟨E.g, E.h, E.i, 0, 0, 1⟩)
noncomputable def echRes (Y : M3) : D := .tup [.lst [rowD ⟨1, 0, 0, Y.a, Y.b, Y.c⟩ 8192 4096, rowD ⟨0, 1, 0, Y.d, Y.e, Y.f⟩ 8192 4096, rowD ⟨0, 0, 1, Y.g, Y.h, Y.i⟩ 8192 4096], .lst [litD 0, litD 1, litD 2]]
noncomputable def tabEch (E Y : M3) (f : Str) : List D → Option (D × Bool)
  | [x] => cond (f == ("echelon" : Str)) (match asWide x with
    | some (x0, x1, x2, n, d) => some (echRes Y, andB (Nat.ble n 64) (andB (Nat.ble d 1) (wideOf E x0 x1 x2)))
    | none => none) none
  | _ => none

section
variable {w : World} {h₀ : Heap} {K K' : Nat} {mg mb : Str → Option Value} {f : Str} {d d' : D}
theorem wd_rowD {x : R6} {n d n' d' : Nat} (h1 : n ≤ n') (h2 : d ≤ d') : Wd (rowD x n d) (rowD x n' d') := by
  unfold rowD
  repeat' first | apply wd_lst | apply Wds.cons | exact Wds.nil | (exact wd_rat h1 h2)
theorem echelon_spec (B : Base w h₀ mg mb) {E Y : M3} (hY : E.mul Y = M3.one) :
    TabOk w h₀ mg 13 "echelon" [.lst (rows3 ⟨E.a, E.b, E.c, 1, 0, 0⟩ ⟨E.d, E.e, E.f, 0, 1, 0⟩ ⟨E.g, E.h, E.i, 0, 0, 1⟩ 64 1 64 1 64 1)] (echRes Y) := by
  obtain ⟨ds, n0, d0, n1, d1, n2, d2, e, hn, hd⟩ := ech_run (det_wide hY) (inv_wide E) hY
  rw [← ev_eq] at e
  refine (B.run (gd5 B) (f := "echelon") (fn := theFn "echelon") rfl rfl e).widen ?_
  exact wd_tup (Wds.cons (wd_lst (Wds.cons (wd_rowD (by omega) (by omega)) (Wds.cons (wd_rowD (by omega) (by omega)) (Wds.cons (wd_rowD (by omega) (by omega)) Wds.nil)))) (Wds.cons Wd.refl Wds.nil))
set_option smartUnfolding true in
theorem tabEch_ok (B : Base w h₀ mg mb) {E Y : M3} (hY : E.mul Y = M3.one) {args : List D} {o : Bool} (h : tabEch E Y f args = some (d, o)) (ho : o = true) : TabOk w h₀ mg 13 f args d := by
  unfold tabEch at h
  split at h
  · rcases cond_two h with ⟨hf, h⟩ | ⟨_, h⟩
    · split at h
      · rename_i e1
        injection h with h; injection h with h3 h4; subst h3 h4
        obtain ⟨h1, ho⟩ := andB_true ho
        obtain ⟨h2, ho⟩ := andB_true ho
        unfold wideOf at ho
        obtain ⟨h3, ho⟩ := andB_true ho
        obtain ⟨h4, ho⟩ := andB_true ho
        have h3 := eqR_ok h3; have h4 := eqR_ok h4; have h5 := eqR_ok ho
        subst h3 h4 h5
        rw [beq_iff_eq.mp hf]
        exact (echelon_spec B hY).inp (Wds.cons (asWide_ok e1 (Nat.le_of_ble_eq_true h1) (Nat.le_of_ble_eq_true h2)) Wds.nil)
      · first | exact no_some h | cases h
    · first | exact no_some h | cases h
  · first | exact no_some h | cases h
noncomputable def c8 (E Y : M3) : Cfg := cfg (tabEch E Y) noHk (fun f => !(f == ("echelon" : Str))) [] []
theorem gd8 (B : Base w h₀ mg mb) {E Y : M3} (hY : E.mul Y = M3.one) : Gd P w h₀ (c8 E Y) 13 mg mb := B.gd gd_noHk fun f args d o h ho => tabEch_ok B hY h ho
theorem inverse_spec (B : Base w h₀ mg mb) {E Y : M3} (hY : E.mul Y = M3.one) : TabOk w h₀ mg 33 "inverse" [matD E 64 1] (matD Y 8192 4096) := by
  refine spec_of B (gd8 B hY) (g := 30) (dep := 20) (ds := []) (st' := ⟨[], [], 20⟩) (fn := theFn "inverse") rfl rfl ⟨_, _, rfl, ?_, Wd.refl⟩
  have hw : wideOf E ⟨E.a, E.b, E.c, 1, 0, 0⟩ ⟨E.d, E.e, E.f, 0, 1, 0⟩ ⟨E.g, E.h, E.i, 0, 0, 1⟩ = true := by simp only [wideOf, eqR_self, tl]
  repeat' first | (with_reducible exact hw) | (with_reducible apply andB_intro)
  all_goals rfl
end
end Mine
end

section
set_option autoImplicit false
set_option linter.unusedVariables false
set_option Elab.async false
set_option maxRecDepth 100000
set_option maxHeartbeats 4000000
set_option smartUnfolding false
namespace Mine
open PySem PySem.Calls PyProof.Rows

section
variable {c : Cfg} {n : Nat} {sc : Sc} {vs vs1 : Vars} {st st1 st2 : St} {p q : Pos} {l r e : Expr} {a b d : D}
theorem X_bin {op : Operator} (h1 : (ev2 c n).E sc vs st l = some (a, st1, true)) (h2 : (ev2 c n).E sc vs st1 r = some (b, st2, true)) (h3 : binD op a b = some (d, true)) : (ev2 c (n + 1)).E sc vs st (.BinOp l op r p) = some (d, st2, true) := by
  have k : (ev2 c (n + 1)).E sc vs st (.BinOp l op r p) = (match (ev2 c n).E sc vs st l with
    | some (a, st1, o1) => (match (ev2 c n).E sc vs st1 r with
      | some (b, st2, o2) => (match binD op a b with
        | some (d, o3) => some (d, st2, andB o1 (andB o2 o3))
        | none => none)
      | none => none)
    | none => none) := rfl
  rw [k, h1]; simp only; rw [h2]; simp only; rw [h3]; rfl
theorem X_sub {L : List D} {j : Int} {m : Nat} (hr : (∃ lo up stp q, r = .Slice lo up stp q) → False) (h1 : (ev2 c n).E sc vs st l = some (a, st1, true)) (h2 : (ev2 c n).E sc vs st1 r = some (.int j m, st2, true)) (h3 : itemsOf st2.sto a = some L) (h4 : 0 ≤ j) (h5 : L[j.toNat]? = some d) (h6 : Nat.ble m 60 = true) : (ev2 c (n + 1)).E sc vs st (.Subscript l r p) = some (d, st2, true) := by
  have k : (ev2 c (n + 1)).E sc vs st (.Subscript l r p) = (match (ev2 c n).E sc vs st l with
    | some (a, st1, o1) => (match (ev2 c n).E sc vs st1 r with
      | some (.int j n, st2, o2) => (match itemsOf st2.sto a with
        | some l => cond (decide (0 ≤ j)) (match l[j.toNat]? with
          | some d => some (d, st2, andB o1 (andB o2 (Nat.ble n 60)))
          | none => none) none
        | none => none)
      | _ => none)
    | none => none) := by
    rw [ev2_E]; exact stepE_sub hr
  rw [k, h1]; simp only; rw [h2]; simp only; rw [h3]; simp only; rw [h5, decide_eq_true h4, h6]; rfl
theorem X_ret (h : (ev2 c n).E sc vs st e = some (d, st1, true)) : (ev2 c (n + 1)).S sc vs st (.Return (some e) p) = some (.ret d, vs, st1, true) := by
  have k : (ev2 c (n + 1)).S sc vs st (.Return (some e) p) = (match (ev2 c n).E sc vs st e with
    | some (d, st1, o1) => some (.ret d, vs, st1, o1)
    | none => none) := rfl
  rw [k, h]
theorem X_if {x y : List Stmt} {f : Fl} {t : Bool} (h : (ev2 c n).T sc vs st e = some (t, st1, true)) (h2 : evSs (ev2 c n) sc vs st1 (cond t x y) = some (f, vs1, st2, true)) : (ev2 c (n + 1)).S sc vs st (.If e x y p) = some (f, vs1, st2, true) := by
  have k : (ev2 c (n + 1)).S sc vs st (.If e x y p) = (match (ev2 c n).T sc vs st e with
    | some (x', st1, o1) => (match evSs (ev2 c n) sc vs st1 (cond x' x y) with
      | some (f, vs2, st2, o2) => some (f, vs2, st2, andB o1 o2)
      | none => none)
    | none => none) := rfl
  rw [k, h]; simp only; rw [h2]; rfl
theorem X_next {s : Stmt} {rs : List Stmt} {f : Fl} {vs2 : Vars} (h : (ev2 c n).S sc vs st s = some (.next, vs1, st1, true)) (h2 : evSs (ev2 c n) sc vs1 st1 rs = some (f, vs2, st2, true)) : evSs (ev2 c n) sc vs st (s :: rs) = some (f, vs2, st2, true) := by
  have k : evSs (ev2 c n) sc vs st (s :: rs) = (match (ev2 c n).S sc vs st s with
    | some (.next, vs1, st1, o1) => (match evSs (ev2 c n) sc vs1 st1 rs with
      | some (f, vs2, st2, o2) => some (f, vs2, st2, andB o1 o2)
      | none => none)
    | some (f, vs1, st1, o1) => some (f, vs1, st1, o1)
    | none => none) := rfl
  rw [k, h]; simp only; rw [h2]; rfl
theorem X_sret {s : Stmt} {rs : List Stmt} (h : (ev2 c n).S sc vs st s = some (.ret d, vs1, st1, true)) : evSs (ev2 c n) sc vs st (s :: rs) = some (.ret d, vs1, st1, true) := by
  have k : evSs (ev2 c n) sc vs st (s :: rs) = (match (ev2 c n).S sc vs st s with
    | some (.next, vs1, st1, o1) => (match evSs (ev2 c n) sc vs1 st1 rs with
      | some (f, vs2, st2, o2) => some (f, vs2, st2, andB o1 o2)
      | none => none)
    | some (f, vs1, st1, o1) => some (f, vs1, st1, o1)
    | none => none) := rfl
  rw [k, h]
theorem X_nil : evSs (ev2 c n) sc vs st [] = some (.next, vs, st, true) := rfl
end

noncomputable def tkSc : Sc := (theFn "_law_take").scope.names
noncomputable def tkB (n : Nat) : Stmt := nth (theFn "_law_take").body n
noncomputable def c7 : Cfg := cfg noTab noHk (only "_law_take") [] []
theorem tk_body : (theFn "_law_take").body = [tkB 0, tkB 1, tkB 2, tkB 3] := rfl
theorem tk_S0 (k : Nat) (l : D) (x : Int) (t : Nat) (m : Int) (mt : Nat) (dep : Nat) : (ev2 c7 20).S tkSc [("box", .mut 0), ("many", .int m mt)] ⟨[some [l, .int x t]], [], dep⟩ (tkB 0) =
  some (Fl.next, ([("box", .mut 0), ("many", .int m mt), ("spot", .int x t)] : Vars), ⟨[some [l, .int x t]], [], dep⟩, true) := rfl
theorem tk_S1 (k : Nat) (l : D) (x : Nat) (t : Nat) (m : Int) (mt : Nat) (dep : Nat) : (ev2 c7 20).S tkSc [("box", .mut 0), ("many", .int m mt), ("spot", .int x t)] ⟨[some [l, .int x t]], [], dep⟩ (tkB 1) =
  some (Fl.next, ([("box", .mut 0), ("many", .int m mt), ("spot", .int x t)] : Vars), ⟨[some [l, .int (x + 1) (Nat.max t 1 + 1)]], [], dep⟩, true) := rfl
noncomputable def ifOf (s : Stmt) : Expr × List Stmt × List Stmt := ((sParts s).1, (sParts s).2.2.1, (sParts s).2.2.2.1)
noncomputable def ifPos (s : Stmt) : Pos := (sParts s).2.2.2.2
noncomputable def tkI : Expr × List Stmt × List Stmt := ifOf (tkB 2)
theorem tk_if : tkB 2 = .If tkI.1 tkI.2.1 tkI.2.2 (ifPos (tkB 2)) := rfl
noncomputable def tkV (m : Int) (mt x t : Nat) : Vars := [("box", .mut 0), ("many", .int m mt), ("spot", .int x t)]
noncomputable def hdE : List Expr → Expr
  | e :: _ => e
  | [] => .Constant .none 0 default
noncomputable def cmpOf (e : Expr) : Expr × Expr × Pos := ((eParts e).1, hdE (eParts e).2.2.1, (eParts e).2.2.2)
theorem tkI_eq : tkI.1 = .Compare (cmpOf tkI.1).1 [.Lt] [(cmpOf tkI.1).2.1] (cmpOf tkI.1).2.2 := rfl
theorem tk_L (l : List D) (x y : Nat) (t t' : Nat) (m : Int) (mt : Nat) (st : St) : (ev2 c7 18).E tkSc (tkV m mt x t) st (cmpOf tkI.1).1 = some (.int x t, st, true) := rfl
theorem tk_R (l : List D) (x y : Nat) (t t' : Nat) (m : Int) (mt : Nat) (dep : Nat) (hz : Nat.ble l.length 1000 = true) : (ev2 c7 18).E tkSc (tkV m mt x t) ⟨[some [.lst l, .int y t']], [], dep⟩ (cmpOf tkI.1).2.1 =
    some (lenD l.length, ⟨[some [.lst l, .int y t']], [], dep⟩, true) := by
  have : ∃ o, (ev2 c7 18).E tkSc (tkV m mt x t) ⟨[some [.lst l, .int y t']], [], dep⟩ (cmpOf tkI.1).2.1 = some (lenD l.length, ⟨[some [.lst l, .int y t']], [], dep⟩, o) ∧ o = true := ⟨_, rfl, by rw [hz]; rfl⟩
  obtain ⟨o, e, rfl⟩ := this
  exact e
theorem tk_T (l : List D) (x y : Nat) (t t' : Nat) (m : Int) (mt : Nat) (dep : Nat) (hz : Nat.ble l.length 1000 = true) :
    (ev2 c7 19).T tkSc (tkV m mt x t) ⟨[some [.lst l, .int y t']], [], dep⟩ tkI.1 = some (decide (x < l.length), ⟨[some [.lst l, .int y t']], [], dep⟩, true) := by
  rw [tkI_eq]
  rw [ev2_T c7 18]
  unfold stepT
  simp only [tk_L l x y t t' m mt, tk_R l x y t t' m mt dep hz, lenD_eq]
  have : cmpD .Lt (.int x t) (litD l.length) = some (decide (x < l.length)) := by
    show some (decide ((x : Int) < (l.length : Int))) = _
    simp only [Int.ofNat_lt]
  rw [this]
  rfl
noncomputable def sttOf (s : Stmt) : Expr := (sParts s).1
noncomputable def stmPos (s : Stmt) : Pos := (sParts s).2.2.2.2
noncomputable def hdS : List Stmt → Stmt
  | s :: _ => s
  | [] => .Pass default
noncomputable def tkA : Expr := sttOf (hdS tkI.2.1)
theorem tkA_eq : tkI.2.1 = [.Return (some tkA) (stmPos (hdS tkI.2.1))] ∧ tkI.2.2 = [] := ⟨rfl, rfl⟩
noncomputable def binOf (e : Expr) : Expr × Expr × Pos := ((eParts e).1, (eParts e).2.1, (eParts e).2.2.2)
noncomputable def argOf (e : Expr) : Expr := hdE (eParts e).2.2.1
noncomputable def subOf (e : Expr) : Expr × Expr × Pos := ((eParts e).1, (eParts e).2.1, (eParts e).2.2.2)
theorem tkA_bin : tkA = .BinOp (binOf tkA).1 .Mod (binOf tkA).2.1 (binOf tkA).2.2 := rfl
noncomputable def tkG : Expr := argOf (binOf tkA).1
theorem tk_G (l : List D) (x y : Nat) (t t' : Nat) (m : Int) (mt : Nat) (dep : Nat) (d : D) (h : l[x]? = some d) (ht : Nat.ble t 60 = true) : (ev2 c7 16).E tkSc (tkV m mt x t) ⟨[some [.lst l, .int y t']], [], dep⟩ tkG = some (d, ⟨[some [.lst l, .int y t']], [], dep⟩, true) := by
  show (match l[x]? with
    | some d => some (d, _, _)
    | none => none) = _
  rw [h]
  rw [ht]
  rfl

noncomputable def nmOf (e : Expr) : Pos := (eParts e).2.2.2
noncomputable def fnEx (e : Expr) : Expr := (eParts e).1
noncomputable def clPos (e : Expr) : Pos := (eParts e).2.2.2
theorem tk_abs_eq : (binOf tkA).1 = .Call (.Name "abs" (nmOf (fnEx (binOf tkA).1))) [tkG] [] (clPos (binOf tkA).1) := rfl
theorem tk_abs (l : List D) (x y : Nat) (t t' : Nat) (m : Int) (mt : Nat) (dep : Nat) (i : Int) (n : Nat) (h : l[x]? = some (.int i n)) (ht : Nat.ble t 60 = true) : (ev2 c7 17).E tkSc (tkV m mt x t) ⟨[some [.lst l, .int y t']], [], dep⟩ (binOf tkA).1 =
    some (.int (if i < 0 then -i else i) n, ⟨[some [.lst l, .int y t']], [], dep⟩, true) := by
  rw [tk_abs_eq]
  have k : (ev2 c7 17).E tkSc (tkV m mt x t) ⟨[some [.lst l, .int y t']], [], dep⟩ (.Call (.Name "abs" (nmOf (fnEx (binOf tkA).1))) [tkG] [] (clPos (binOf tkA).1)) =
     (match evEs (ev2 c7 16) tkSc (tkV m mt x t) ⟨[some [.lst l, .int y t']], [], dep⟩ [tkG] with
      | some (ds, st1, o1) => (match evCall c7 (ev2 c7 16) st1 "abs" ds with
        | some (d, st2, o2) => some (d, st2, andB o1 o2)
        | none => none)
      | none => none) := rfl
  have k2 : evEs (ev2 c7 16) tkSc (tkV m mt x t) ⟨[some [.lst l, .int y t']], [], dep⟩ [tkG] = some ([.int i n], ⟨[some [.lst l, .int y t']], [], dep⟩, true) := by
    have k3 : evEs (ev2 c7 16) tkSc (tkV m mt x t) ⟨[some [.lst l, .int y t']], [], dep⟩ [tkG] = (match (ev2 c7 16).E tkSc (tkV m mt x t) ⟨[some [.lst l, .int y t']], [], dep⟩ tkG with
      | some (d, st1, o1) => (match evEs (ev2 c7 16) tkSc (tkV m mt x t) st1 [] with
        | some (ds, st2, o2) => some (d :: ds, st2, andB o1 o2)
        | none => none)
      | none => none) := rfl
    rw [k3, tk_G l x y t t' m mt dep _ h ht]
    rfl
  rw [k, k2]
  rfl
theorem tk_in (l : List D) (x y : Nat) (t t' : Nat) (m : Int) (mt : Nat) (dep : Nat) (i : Int) (n : Nat) (h : l[x]? = some (.int i n)) (ht : Nat.ble t 60 = true) (hm : (m != 0) = true) : (ev2 c7 18).E tkSc (tkV m mt x t) ⟨[some [.lst l, .int y t']], [], dep⟩ tkA =
    some (.int ((if i < 0 then -i else i).fmod m) mt, ⟨[some [.lst l, .int y t']], [], dep⟩, true) := by
  rw [tkA_bin]
  refine X_bin (b := .int m mt) (tk_abs l x y t t' m mt dep i n h ht) rfl ?_
  show some (D.int _ _, (m != 0)) = _
  rw [hm]
noncomputable def tkR : Expr := sttOf (tkB 3)
theorem tkR_eq : tkB 3 = .Return (some tkR) (stmPos (tkB 3)) := rfl
noncomputable def cst (x : Nat) : Int := match ([0, 1, 3, 3, 2, 4, 2, 1, 3, 4, 0, 2] : List Int)[x]? with
  | some i => i
  | none => 0
noncomputable def cstL : List D := [litD 0, litD 1, litD 3, litD 3, litD 2, litD 4, litD 2, litD 1, litD 3, litD 4, litD 0, litD 2]
noncomputable def tkQ : Expr := (binOf tkR).1
theorem tkR_bin : tkR = .BinOp tkQ .Mod (binOf tkR).2.1 (binOf tkR).2.2 := rfl
theorem tkQ_sub : tkQ = .Subscript (subOf tkQ).1 (subOf tkQ).2.1 (subOf tkQ).2.2 := rfl
theorem cst_at : ∀ r, r < 12 → cstL[r]? = some (litD (cst r))
  | 0, _ | 1, _ | 2, _ | 3, _ | 4, _ | 5, _ | 6, _ | 7, _ | 8, _ | 9, _ | 10, _ | 11, _ => rfl
  | r + 12, h => by omega
theorem tk_out (x t : Nat) (m : Int) (mt : Nat) (st : St) (hm : (m != 0) = true) : (ev2 c7 19).E tkSc (tkV m mt x t) st tkR = some (.int ((cst (x % 12)).fmod m) mt, st, true) := by
  rw [tkR_bin]
  have hmod : (x : Int).fmod 12 = ((x % 12 : Nat) : Int) := by
    rw [Int.fmod_eq_emod_of_nonneg _ (by decide)]; rfl
  have hi : (ev2 c7 17).E tkSc (tkV m mt x t) st (subOf tkQ).2.1 = some (.int ((x : Int).fmod 12) 4, st, true) := rfl
  rw [hmod] at hi
  have hq : (ev2 c7 18).E tkSc (tkV m mt x t) st tkQ = some (litD (cst (x % 12)), st, true) := by
    rw [tkQ_sub]
    refine X_sub (a := .tup cstL) (L := cstL) (m := 4) (j := ((x % 12 : Nat) : Int)) ?_ rfl hi rfl (Int.natCast_nonneg _) (cst_at _ (Nat.mod_lt _ (by decide))) rfl
    rintro ⟨_, _, _, _, h⟩
    cases h
  refine X_bin (b := .int m mt) hq rfl ?_
  show some (D.int _ _, (m != 0)) = _
  rw [hm]
noncomputable def takeD (l : List D) (x : Nat) (m : Int) : Int := match l[x]? with
  | some (.int i _) => (if i < 0 then -i else i).fmod m
  | _ => (cst (x % 12)).fmod m
noncomputable def allInt : List D → Bool
  | [] => true
  | .int _ _ :: r => allInt r
  | _ :: _ => false
theorem allInt_at : ∀ {l : List D} {x : Nat} {d : D}, allInt l = true → l[x]? = some d → ∃ i n, d = .int i n
  | [], _, _, _, h => by simp at h
  | .int i n :: r, 0, d, _, h => by simp at h; exact ⟨i, n, h.symm⟩
  | .int i n :: r, x + 1, d, a, h => allInt_at (l := r) a (by simpa using h)
  | .none :: _, _, _, a, _ => by simp [allInt] at a
  | .bool _ :: _, _, _, a, _ => by simp [allInt] at a
  | .str _ :: _, _, _, a, _ => by simp [allInt] at a
  | .rat _ _ _ :: _, _, _, a, _ => by simp [allInt] at a
  | .tup _ :: _, _, _, a, _ => by simp [allInt] at a
  | .lst _ :: _, _, _, a, _ => by simp [allInt] at a
  | .rng _ _ :: _, _, _, a, _ => by simp [allInt] at a
  | .mut _ :: _, _, _, a, _ => by simp [allInt] at a
theorem allInt_bnd : ∀ {l : List D} (k : Nat), allInt l = true → bndMs k l = true
  | [], _, _ => rfl
  | .int i n :: r, k, a => allInt_bnd (l := r) k a
  | .none :: _, _, a => by simp [allInt] at a
  | .bool _ :: _, _, a => by simp [allInt] at a
  | .str _ :: _, _, a => by simp [allInt] at a
  | .rat _ _ _ :: _, _, a => by simp [allInt] at a
  | .tup _ :: _, _, a => by simp [allInt] at a
  | .lst _ :: _, _, a => by simp [allInt] at a
  | .rng _ _ :: _, _, a => by simp [allInt] at a
  | .mut _ :: _, _, a => by simp [allInt] at a
theorem take_body (l : List D) (x t : Nat) (m : Int) (mt dep : Nat) (ha : allInt l = true) (hz : Nat.ble l.length 1000 = true) (ht : Nat.ble t 60 = true) (hm : (m != 0) = true) :
    ∃ vs, evSs (ev2 c7 20) tkSc [("box", .mut 0), ("many", .int m mt)] ⟨[some [.lst l, .int x t]], [], dep⟩ (theFn "_law_take").body = some (.ret (.int (takeD l x m) mt), vs, ⟨[some [.lst l, .int (x + 1) (Nat.max t 1 + 1)]], [], dep⟩, true) := by
  rw [tk_body]
  refine ⟨tkV m mt x t, X_next (tk_S0 0 (.lst l) x t m mt dep) (X_next (tk_S1 0 (.lst l) x t m mt dep) ?_)⟩
  have hT := tk_T l x (x + 1) t (Nat.max t 1 + 1) m mt dep hz
  by_cases h : x < l.length
  · rw [decide_eq_true h] at hT
    obtain ⟨i, n, hd⟩ := allInt_at ha (List.getElem?_eq_getElem h)
    have hl : l[x]? = some (.int i n) := by rw [List.getElem?_eq_getElem h, hd]
    have e : takeD l x m = (if i < 0 then -i else i).fmod m := by unfold takeD; rw [hl]
    rw [e]
    refine X_sret ?_
    rw [tk_if]
    refine X_if hT ?_
    rw [cond_true, tkA_eq.1]
    exact X_sret (X_ret (tk_in l x (x + 1) t (Nat.max t 1 + 1) m mt dep i n hl ht hm))
  · rw [decide_eq_false h] at hT
    have e : takeD l x m = (cst (x % 12)).fmod m := by
      unfold takeD
      rw [List.getElem?_eq_none (by omega)]
    rw [e]
    refine X_next (vs1 := tkV m mt x t) (st1 := ⟨[some [.lst l, .int (x + 1) (Nat.max t 1 + 1)]], [], dep⟩) ?_ ?_
    · rw [tk_if]
      refine X_if hT ?_
      rw [cond_false, tkA_eq.2]
      exact X_nil
    · rw [tkR_eq]
      exact X_sret (X_ret (tk_out x t m mt _ hm))
theorem take_run (l : List D) (x t : Nat) (m : Int) (mt dep : Nat) (ha : allInt l = true) (hz : Nat.ble l.length 1000 = true) (ht : Nat.ble t 60 = true) (hm : (m != 0) = true) :
    runF (ev2 c7 20) ⟨[some [.lst l, .int x t]], [], dep + 1⟩ (theFn "_law_take") [.mut 0, .int m mt] = some (.int (takeD l x m) mt, ⟨[some [.lst l, .int (x + 1) (Nat.max t 1 + 1)]], [], dep + 1⟩, true) := by
  obtain ⟨vs, h⟩ := take_body l x t m mt dep ha hz ht hm
  unfold runF
  simp only
  rw [show fnOk (theFn "_law_take") (List.length [D.mut 0, D.int m mt]) = true from rfl, cond_true]
  rw [show evSs (ev2 c7 20) (theFn "_law_take").scope.names ((theFn "_law_take").params.zip [.mut 0, .int m mt]) ⟨[some [.lst l, .int x t]], [], dep⟩ (theFn "_law_take").body = _ from h]
  simp only
  rw [show (theFn "_law_take").keep = false from rfl, cond_false]
  show (cond (andB true (bndS 1 [some [.lst l, .int (x + 1) (Nat.max t 1 + 1)]])) _ none : Option (D × St × Bool)) = _
  have : bndS 1 [some [.lst l, .int (x + 1) (Nat.max t 1 + 1)]] = true := by
    show andB (andB (bndMs 1 l) _) _ = true
    rw [allInt_bnd 1 ha]; rfl
  rw [this]
  rfl
end Mine
end

section
set_option autoImplicit false
set_option linter.unusedVariables false
set_option Elab.async false
set_option maxRecDepth 100000
set_option maxHeartbeats 4000000
namespace Mine
open PySem PySem.Calls PyProof.Rows

noncomputable def HkOk (w : World) (h₀ : Heap) (mg : Str → Option Value) (K : Nat) (f : Str) (σ : Sto) (args : List D) (d : D) (σ' : Sto) : Prop :=
  ∃ a ob fd, mg f = some (.ref a) ∧ h₀.get? a = some ob ∧ ob.data = .func fd ∧ HookSpec P w h₀ K a σ args d σ'
section
variable {w : World} {h₀ : Heap} {c : Cfg} {K K' : Nat} {mg mb : Str → Option Value} {f : Str} {args args' : List D} {d d' : D} {σ σ' : Sto}
theorem HkOk.more (h : HkOk w h₀ mg K f σ args d σ') (k : K ≤ K') : HkOk w h₀ mg K' f σ args d σ' :=
  let ⟨a, ob, fd, h1, h2, h3, h4⟩ := h; ⟨a, ob, fd, h1, h2, h3, fun A s F ρ vals hA I r => h4 A s F ρ vals (hA.less k) I r⟩
theorem HkOk.widen (h : HkOk w h₀ mg K f σ args d σ') (k : Wd d d') : HkOk w h₀ mg K f σ args d' σ' :=
  let ⟨a, ob, fd, h1, h2, h3, h4⟩ := h; ⟨a, ob, fd, h1, h2, h3, fun A s F ρ vals hA I r => wpAny_mono (h4 A s F ρ vals hA I r) (fun v s' ⟨ρ', q1, q2⟩ => ⟨ρ', q1, k _ _ _ _ q2⟩) fun _ _ q => q⟩
theorem HkOk.inp (h : HkOk w h₀ mg K f σ args d σ') (k : Wds args' args) : HkOk w h₀ mg K f σ args' d σ' :=
  let ⟨a, ob, fd, h1, h2, h3, h4⟩ := h; ⟨a, ob, fd, h1, h2, h3, fun A s F ρ vals hA I r => h4 A s F ρ vals hA I (k _ _ _ _ r)⟩
theorem Base.hook (B : Base w h₀ mg mb) (G : Gd P w h₀ c K mg mb) {n dep : Nat} {ds : List Bool} {fn : FnRec} {st' : St} (hf : c.fns f = some fn) (e : runF (ev c n) ⟨σ, ds, dep⟩ fn args = some (d, st', true)) :
    HkOk w h₀ mg (K + dep) f σ args d st'.sto := by
  obtain ⟨a, ob, params, pm, cd, doc, g1, g2, g3, g4, g5⟩ := G.fns f fn hf
  refine ⟨a, ob, _, g1, g2, g3, fun A s F ρ vals hA I r => ?_⟩
  refine wpAny_mono (call_fn G (sound G n).S g2 g3 g4 g5 e rfl hA I r) (fun v s1 q => ?_) fun _ _ q => q
  obtain ⟨ρ1, ev1, r1, d1⟩ := q
  exact ⟨ρ1, ev1, r1⟩
theorem hook_of (B : Base w h₀ mg mb) (G : Gd P w h₀ c K mg mb) {g dep : Nat} {ds : List Bool} {fn : FnRec} {σ1 σ2 : Sto} (hf : c.fns f = some fn) (hfn : fnOk fn args.length = true) (hk : fn.keep = false)
    (run : ∃ d0 vs o, evSs (ev2 c g) fn.scope.names (fn.params.zip args) ⟨σ, ds, dep⟩ fn.body = some (.ret d0, vs, ⟨σ1, [], dep⟩, o) ∧ o = true ∧ frz 100 σ1 d0 = some (d, σ2)) (hn : noMut d = true) (hb : bndS σ.length (σ2.take σ.length) = true) :
    HkOk w h₀ mg (K + (dep + 1)) f σ args d (σ2.take σ.length) := by
  obtain ⟨d0, vs, o, e, rfl, hz⟩ := run
  rw [← ev_eq] at e
  refine B.hook G (n := g) (ds := ds) (st' := ⟨σ2.take σ.length, [], dep + 1⟩) hf ?_
  unfold runF
  simp only [hfn, cond_true, e, retD, hk, cond_false, hz, hn, hb, andB]
noncomputable def getI : List Int → Nat → Option Int
  | [], _ => none
  | a :: _, 0 => some a
  | _ :: r, n + 1 => getI r n
theorem gd7 (B : Base w h₀ mg mb) : Gd P w h₀ c7 0 mg mb := B.gd gd_noHk fun f args d o h => by cases h
noncomputable def hkT (vals : List Int) (f : Str) (σ : Sto) (args : List D) : Option (D × Sto × Bool) := cond (f == ("_law_take" : Str)) (match two args with
  | some (b, y) => (match box0 σ b with
    | some (l, x, t) => (match intOf y with
      | some (m, mt) => (match getI vals x.toNat with
        | some v => some (.int v mt, [some [.lst l, .int (x + 1) (Nat.max t 1 + 1)]], andB (decide (0 ≤ x)) (andB (allInt l) (andB (Nat.ble l.length 1000) (andB (Nat.ble t 60) (andB (m != 0) (decide (takeD l x.toNat m = v)))))))
        | none => some (.int (takeD l x.toNat m) mt, [some [.lst l, .int (x + 1) (Nat.max t 1 + 1)]], andB (decide (0 ≤ x)) (andB (allInt l) (andB (Nat.ble l.length 1000) (andB (Nat.ble t 60) (m != 0))))))
      | none => none)
    | none => none)
  | none => none) none
theorem take_spec (B : Base w h₀ mg mb) (l : List D) (x : Int) (t : Nat) (m : Int) (mt : Nat) (k1 : 0 ≤ x) (k2 : allInt l = true) (k3 : Nat.ble l.length 1000 = true) (k4 : Nat.ble t 60 = true) (k5 : (m != 0) = true) :
    HkOk w h₀ mg 1 "_law_take" [some [.lst l, .int x t]] [.mut 0, .int m mt] (.int (takeD l x.toNat m) mt) [some [.lst l, .int (x + 1) (Nat.max t 1 + 1)]] := by
  obtain ⟨y, rfl⟩ : ∃ y : Nat, x = y := ⟨x.toNat, by omega⟩
  have e := take_run l y t m mt 0 k2 k3 k4 k5
  rw [← ev_eq] at e
  exact B.hook (gd7 B) (f := "_law_take") (fn := theFn "_law_take") rfl e
theorem hkT_ok (B : Base w h₀ mg mb) {vals : List Int} {o : Bool} (h : hkT vals f σ args = some (d, σ', o)) (ho : o = true) : HkOk w h₀ mg 1 f σ args d σ' := by
  unfold hkT at h
  rcases cond_two h with ⟨hf, h⟩ | ⟨_, h⟩
  · split at h
    · rename_i e1
      split at h
      · rename_i e2
        split at h
        · rename_i e3
          obtain ⟨e4, e5⟩ := box0_ok e2
          have key := take_spec (w := w) (h₀ := h₀) (mg := mg) (mb := mb) B
          split at h
          · injection h with h; injection h with h1 h; injection h with h2 h3
            obtain ⟨k1, ho⟩ := andB_true (h3.trans ho)
            obtain ⟨k2, ho⟩ := andB_true ho
            obtain ⟨k3, ho⟩ := andB_true ho
            obtain ⟨k4, ho⟩ := andB_true ho
            obtain ⟨k5, ho⟩ := andB_true ho
            rw [e4, two_ok e1, e5, intOf_ok e3, beq_iff_eq.mp hf, ← h1, ← h2, ← of_decide_eq_true ho]
            exact key _ _ _ _ _ (of_decide_eq_true k1) k2 k3 k4 k5
          · injection h with h; injection h with h1 h; injection h with h2 h3
            obtain ⟨k1, ho⟩ := andB_true (h3.trans ho)
            obtain ⟨k2, ho⟩ := andB_true ho
            obtain ⟨k3, ho⟩ := andB_true ho
            obtain ⟨k4, k5⟩ := andB_true ho
            rw [e4, two_ok e1, e5, intOf_ok e3, beq_iff_eq.mp hf, ← h1, ← h2]
            exact key _ _ _ _ _ (of_decide_eq_true k1) k2 k3 k4 k5
        · first | exact no_some h | cases h
      · first | exact no_some h | cases h
    · first | exact no_some h | cases h
  · first | exact no_some h | cases h
end
end Mine
end

section
set_option autoImplicit false
set_option linter.unusedVariables false
set_option linter.unusedSimpArgs false
set_option Elab.async false
set_option maxRecDepth 100000
set_option maxHeartbeats 4000000
namespace Mine
open PySem PySem.Calls PyProof.Rows

structure I3 where
  a : Int
  b : Int
  c : Int
  d : Int
  e : Int
  f : Int
  g : Int
  h : Int
  i : Int
noncomputable def I3.rat (R : I3) : M3 := ⟨R.a, R.b, R.c, R.d, R.e, R.f, R.g, R.h, R.i⟩
noncomputable def intI (R : I3) (n : Nat) : D := .lst [.lst [.int R.a n, .int R.b n, .int R.c n], .lst [.int R.d n, .int R.e n, .int R.f n], .lst [.int R.g n, .int R.h n, .int R.i n]]
noncomputable def I3.prod (R S : I3) : I3 := ⟨0 + R.a * S.a + R.b * S.d + R.c * S.g, 0 + R.a * S.b + R.b * S.e + R.c * S.h, 0 + R.a * S.c + R.b * S.f + R.c * S.i,
  0 + R.d * S.a + R.e * S.d + R.f * S.g, 0 + R.d * S.b + R.e * S.e + R.f * S.h, 0 + R.d * S.c + R.e * S.f + R.f * S.i,
  0 + R.g * S.a + R.h * S.d + R.i * S.g, 0 + R.g * S.b + R.h * S.e + R.i * S.h, 0 + R.g * S.c + R.h * S.f + R.i * S.i⟩
theorem I3.prod_rat (R S : I3) : (R.prod S).rat = R.rat.mul S.rat := by
  apply M3.ext <;> simp only [I3.prod, I3.rat, M3.mul, Rat.intCast_add, Rat.intCast_mul] <;> rfl
noncomputable def int3 (x : D) : Option ((Int × Nat) × (Int × Nat) × (Int × Nat)) := match lstOf x with
  | some l => trip3 intOf l
  | none => none
theorem int3_ok {x : D} {a b c : Int} {n1 n2 n3 : Nat} (h : int3 x = some ((a, n1), (b, n2), (c, n3))) : x = .lst [.int a n1, .int b n2, .int c n3] := by
  unfold int3 at h
  split at h
  · rename_i e0
    obtain ⟨u, v, w, rfl, e2, e3, e4⟩ := trip3_ok h
    rw [lstOf_ok e0, intOf_ok e2, intOf_ok e3, intOf_ok e4]
  · first | exact no_some h | cases h
noncomputable def asInts (x : D) : Option (I3 × Nat) := match lstOf x with
  | some l => (match trip3 int3 l with
    | some (((a, n1), (b, n2), (c, n3)), ((d, n4), (e, n5), (f, n6)), ((g, n7), (h, n8), (i, n9))) => some (⟨a, b, c, d, e, f, g, h, i⟩, mx [n1, n2, n3, n4, n5, n6, n7, n8, n9])
    | none => none)
  | none => none
theorem rowsW {a b c d e f g h i : Int} {n1 n2 n3 n4 n5 n6 n7 n8 n9 n : Nat} (h1 : n1 ≤ n) (h2 : n2 ≤ n) (h3 : n3 ≤ n) (h4 : n4 ≤ n) (h5 : n5 ≤ n) (h6 : n6 ≤ n) (h7 : n7 ≤ n) (h8 : n8 ≤ n) (h9 : n9 ≤ n) :
    Wd (.lst [.lst [.int a n1, .int b n2, .int c n3], .lst [.int d n4, .int e n5, .int f n6], .lst [.int g n7, .int h n8, .int i n9]]) (intI ⟨a, b, c, d, e, f, g, h, i⟩ n) :=
  wd_lst (Wds.cons (wd_lst (Wds.cons (wd_int h1) (Wds.cons (wd_int h2) (Wds.cons (wd_int h3) Wds.nil)))) (Wds.cons (wd_lst (Wds.cons (wd_int h4) (Wds.cons (wd_int h5) (Wds.cons (wd_int h6) Wds.nil)))) (Wds.cons (wd_lst (Wds.cons (wd_int h7) (Wds.cons (wd_int h8) (Wds.cons (wd_int h9) Wds.nil)))) Wds.nil)))
theorem asInts_ok {x : D} {X : I3} {n m : Nat} (h : asInts x = some (X, n)) (hm : n ≤ m) : Wd x (intI X m) := by
  unfold asInts at h
  split at h
  · rename_i e0
    split at h
    · rename_i e1
      injection h with h; injection h with h1 h2
      subst h1 h2
      obtain ⟨u, v, w, rfl, e2, e3, e4⟩ := trip3_ok e1
      rw [lstOf_ok e0, int3_ok e2, int3_ok e3, int3_ok e4]
      have A := mx9_to hm
      exact rowsW A.1 A.2.1 A.2.2.1 A.2.2.2.1 A.2.2.2.2.1 A.2.2.2.2.2.1 A.2.2.2.2.2.2.1 A.2.2.2.2.2.2.2.1 A.2.2.2.2.2.2.2.2
    · first | exact no_some h | cases h
  · first | exact no_some h | cases h

section
variable {w : World} {h₀ : Heap} {c : Cfg} {K K' : Nat} {mg mb : Str → Option Value} {f : Str} {args args' : List D} {d d' : D} {σ σ' : Sto}
noncomputable def cW : Cfg := cfg noTab noHk (only "from_whole") [] []
noncomputable def cP : Cfg := cfg noTab noHk (only "_law_product") [] []
theorem gdW (B : Base w h₀ mg mb) : Gd P w h₀ cW 0 mg mb := B.gd gd_noHk fun f args d o h => by cases h
theorem gdP (B : Base w h₀ mg mb) : Gd P w h₀ cP 0 mg mb := B.gd gd_noHk fun f args d o h => by cases h
set_option smartUnfolding false in
theorem whole_spec (B : Base w h₀ mg mb) (R : I3) (n : Nat) : TabOk w h₀ mg 10 "from_whole" [intI R n] (matD R.rat n 0) := by
  refine spec_of B (gdW B) (g := 20) (dep := 10) (ds := []) (st' := ⟨[], [], 10⟩) (fn := theFn "from_whole") rfl rfl ⟨_, true, rfl, rfl, Wd.refl⟩
set_option smartUnfolding false in
theorem prod_spec (B : Base w h₀ mg mb) (R S : I3) : TabOk w h₀ mg 10 "_law_product" [intI R 14, intI S 14] (intI (R.prod S) 32) := by
  refine spec_of B (gdP B) (g := 20) (dep := 10) (ds := []) (st' := ⟨[], [], 10⟩) (fn := theFn "_law_product") rfl rfl ⟨_, true, rfl, rfl, ?_⟩
  · unfold intI
    refine wd_lst (Wds.cons (wd_lst (Wds.cons (wd_int ?_) (Wds.cons (wd_int ?_) (Wds.cons (wd_int ?_) Wds.nil)))) (Wds.cons (wd_lst (Wds.cons (wd_int ?_) (Wds.cons (wd_int ?_) (Wds.cons (wd_int ?_) Wds.nil)))) (Wds.cons (wd_lst (Wds.cons (wd_int ?_) (Wds.cons (wd_int ?_) (Wds.cons (wd_int ?_) Wds.nil)))) Wds.nil)))
    all_goals decide
noncomputable def tabWhole : List D → Option (D × Bool)
  | [x] => match asInts x with
    | some (R, n) => cond (Nat.ble n 14) (some (matD R.rat 14 0, true)) (some (matD R.rat 32 0, Nat.ble n 32))
    | none => none
  | _ => none
theorem tabWhole_ok (B : Base w h₀ mg mb) {o : Bool} (h : tabWhole args = some (d, o)) (ho : o = true) : TabOk w h₀ mg 40 "from_whole" args d := by
  unfold tabWhole at h
  split at h
  · split at h
    · rename_i e1
      rcases cond_two h with ⟨hn, h⟩ | ⟨_, h⟩
      · injection h with h; injection h with h1 h2; subst h1 h2
        exact ((whole_spec B _ 14).inp (Wds.cons (asInts_ok e1 (Nat.le_of_ble_eq_true hn)) Wds.nil)).more (by decide)
      · injection h with h; injection h with h1 h2; subst h1 h2
        exact ((whole_spec B _ 32).inp (Wds.cons (asInts_ok e1 (Nat.le_of_ble_eq_true ho)) Wds.nil)).more (by decide)
    · first | exact no_some h | cases h
  · first | exact no_some h | cases h
noncomputable def tabProd : List D → Option (D × Bool)
  | [x, y] => match asInts x, asInts y with
    | some (R, n), some (S, m) => some (intI (R.prod S) 32, andB (Nat.ble n 14) (Nat.ble m 14))
    | _, _ => none
  | _ => none
theorem tabProd_ok (B : Base w h₀ mg mb) {o : Bool} (h : tabProd args = some (d, o)) (ho : o = true) : TabOk w h₀ mg 40 "_law_product" args d := by
  unfold tabProd at h
  split at h
  · split at h
    · rename_i e1 e2
      injection h with h; injection h with h1 h2; subst h1 h2
      obtain ⟨k1, k2⟩ := andB_true ho
      exact ((prod_spec B _ _).inp (Wds.cons (asInts_ok e1 (Nat.le_of_ble_eq_true k1)) (Wds.cons (asInts_ok e2 (Nat.le_of_ble_eq_true k2)) Wds.nil))).more (by decide)
    · first | exact no_some h | cases h
  · first | exact no_some h | cases h
end
end Mine
end

section
set_option autoImplicit false
set_option linter.unusedVariables false
set_option linter.unusedSimpArgs false
set_option Elab.async false
set_option maxRecDepth 100000
set_option maxHeartbeats 4000000
namespace Mine
open PySem PySem.Calls PyProof.Rows

theorem rk_less (a b c : Rat) : rk a (b + a * c / 2) c = rk a b c := by
  unfold rk
  by_cases ha : a = 0
  · subst ha
    rw [show b + 0 * c / 2 = b by grind]
  · by_cases hc : c = 0
    · subst hc
      rw [show b + a * 0 / 2 = b by grind]
    · simp [ha, hc]

section
variable {w : World} {h₀ : Heap} {c : Cfg} {K K' : Nat} {mg mb : Str → Option Value} {f : Str} {args args' : List D} {d d' : D} {σ σ' : Sto}

noncomputable def tabInv (E Y : M3) : List D → Option (D × Bool)
  | [x] => match asMat x with
    | some (X, n, d) => some (matD Y 8192 4096, andB (Nat.ble n 64) (andB (Nat.ble d 1) (M3.eqM X E)))
    | none => none
  | _ => none
theorem tabInv_ok (B : Base w h₀ mg mb) {E Y : M3} (hY : E.mul Y = M3.one) {o : Bool} (h : tabInv E Y args = some (d, o)) (ho : o = true) : TabOk w h₀ mg 40 "inverse" args d := by
  unfold tabInv at h
  split at h
  · split at h
    · rename_i X n d e1
      injection h with h; injection h with h1 h2; subst h1 h2
      obtain ⟨k1, ho⟩ := andB_true ho
      obtain ⟨k2, ho⟩ := andB_true ho
      have k3 := M3.eqM_ok ho
      subst k3
      exact ((inverse_spec B hY).inp (Wds.cons (fun h M ρ v r => wd_matD (Nat.le_of_ble_eq_true k1) (Nat.le_of_ble_eq_true k2) h M ρ v (asMat_ok e1 h M ρ v r)) Wds.nil)).more (by decide)
    · first | exact no_some h | cases h
  · first | exact no_some h | cases h
noncomputable def tabRank (X1 X2 : M3) (r : Int) : List D → Option (D × Bool)
  | [x] => match asMat x with
    | some (X, n, d) => some (.int r 2, andB (Nat.ble n 128) (andB (Nat.ble d 2) (M3.eqM X X1 || M3.eqM X X2)))
    | none => none
  | _ => none
theorem tabRank_ok (B : Base w h₀ mg mb) {p : Nat} {t a b e : Rat} {r : Int} {o : Bool} (hr : rk a b e = r) (h : tabRank (pairM p t a b e) (pairM p t a (b + a * e / 2) e) r args = some (d, o)) (ho : o = true) : TabOk w h₀ mg 40 "rank" args d := by
  unfold tabRank at h
  split at h
  · split at h
    · rename_i X n d e1
      injection h with h; injection h with h1 h2; subst h1 h2
      obtain ⟨k1, ho⟩ := andB_true ho
      obtain ⟨k2, ho⟩ := andB_true ho
      have hw : Wds [_] [matD X 128 2] := Wds.cons (fun h M ρ v r => wd_matD (Nat.le_of_ble_eq_true k1) (Nat.le_of_ble_eq_true k2) h M ρ v (asMat_ok e1 h M ρ v r)) Wds.nil
      rw [Bool.or_eq_true] at ho
      rcases ho with ho | ho
      · have k3 := M3.eqM_ok ho
        subst k3
        have := rank_pair B p t a b e
        rw [hr] at this
        exact (this.inp hw).more (by decide)
      · have k3 := M3.eqM_ok ho
        subst k3
        have := rank_pair B p t a (b + a * e / 2) e
        rw [rk_less, hr] at this
        exact (this.inp hw).more (by decide)
    · first | exact no_some h | cases h
  · first | exact no_some h | cases h
noncomputable def tabSlog (args : List D) : Option (D × Bool) := match one1 args with
  | some x => (match rowOf x with
    | some l => (match tri l with
      | some t => some (.lst [.rat 0 0 0, .rat 1 0 0, .rat (-1/2) 0 1], decide (t = ((1, 1, 0), (1, 1, 0), (0, 0, 0))))
      | none => none)
    | none => none)
  | none => none
theorem tabSlog_ok (B : Base w h₀ mg mb) {o : Bool} (h : tabSlog args = some (d, o)) (ho : o = true) : TabOk w h₀ mg 40 "slog" args d := by
  unfold tabSlog at h
  split at h
  · rename_i e0
    split at h
    · rename_i e1
      split at h
      · rename_i e2
        injection h with h; injection h with h1 h2
        rw [of_decide_eq_true (h2.trans ho)] at e2
        rw [one1_ok e0, rowOf_ok e1, tri_ok e2, ← h1]
        exact (slog_spec B).more (by decide)
      · first | exact no_some h | cases h
    · first | exact no_some h | cases h
  · first | exact no_some h | cases h
noncomputable def tabOne (E Y X1 X2 : M3) (r : Int) (f : Str) (args : List D) : Option (D × Bool) :=
  cond (f == ("inverse" : Str)) (tabInv E Y args) <| cond (f == ("rank" : Str)) (tabRank X1 X2 r args) <| cond (f == ("slog" : Str)) (tabSlog args) <|
  cond (f == ("from_whole" : Str)) (tabWhole args) <| cond (f == ("_law_product" : Str)) (tabProd args) (matTab f args)
noncomputable def isOne (f : Str) : Bool := f == ("inverse" : Str) || f == ("rank" : Str) || f == ("slog" : Str) || f == ("_law_take" : Str) || f == ("from_whole" : Str) || f == ("_law_product" : Str) || isMat f
noncomputable def c9 (E Y X1 X2 : M3) (r : Int) (vals : List Int) : Cfg := cfg (tabOne E Y X1 X2 r) (hkT vals) (fun f => !(isOne f)) [(185, 15), (188, 7), (190, 7), (193, 7), (195, 16), (195, 36), (195, 62)] []
theorem gd9 (B : Base w h₀ mg mb) {E Y : M3} {p : Nat} {t a b e : Rat} {r : Int} {vals : List Int} (hY : E.mul Y = M3.one) (hr : rk a b e = r) : Gd P w h₀ (c9 E Y (pairM p t a b e) (pairM p t a (b + a * e / 2) e) r vals) 40 mg mb :=
  B.gd (fun f σ args d σ' o h ho => (hkT_ok B h ho).more (by decide)) fun f args d o h ho => by
    unfold tabOne at h
    rcases cond_two h with ⟨hf, h⟩ | ⟨_, h⟩
    · rw [beq_iff_eq.mp hf]; exact tabInv_ok B hY h ho
    rcases cond_two h with ⟨hf, h⟩ | ⟨_, h⟩
    · rw [beq_iff_eq.mp hf]; exact tabRank_ok B hr h ho
    rcases cond_two h with ⟨hf, h⟩ | ⟨_, h⟩
    · rw [beq_iff_eq.mp hf]; exact tabSlog_ok B h ho
    rcases cond_two h with ⟨hf, h⟩ | ⟨_, h⟩
    · rw [beq_iff_eq.mp hf]; exact tabWhole_ok B h ho
    rcases cond_two h with ⟨hf, h⟩ | ⟨_, h⟩
    · rw [beq_iff_eq.mp hf]; exact tabProd_ok B h ho
    · exact matTab_ok B h ho

theorem num_test {q : Rat} {z : Int} (h : 2 * q = z) : ((2 * q.num != (q.den : Int) * z) == false) = true := by
  have h2 : ((q.den : Int) : Rat) ≠ 0 := by
    have := q.den_nz
    exact_mod_cast this
  have h1 : (q.num : Rat) = q * ((q.den : Int) : Rat) := by
    have := num_den q
    generalize (q.num : Rat) = n at *
    generalize ((q.den : Int) : Rat) = e at *
    grind
  have h3 : ((2 * q.num : Int) : Rat) = (((q.den : Int) * z : Int) : Rat) := by
    rw [Rat.intCast_mul, Rat.intCast_mul, ← h, h1, show ((2 : Int) : Rat) = 2 from rfl]
    generalize ((q.den : Int) : Rat) = e at *
    grind
  have h4 := Rat.intCast_inj.mp h3
  simp [h4]
end
end Mine
end

section
set_option autoImplicit false
set_option linter.unusedVariables false
set_option Elab.async false
set_option maxHeartbeats 4000000
namespace Mine

structure OneFacts (R : I3) (p : Nat) (t : Rat) (a b c k : Int) : Prop where
  hR : R.rat = pairM p t a b c
  hY : R.rat.exp.mul (((M3.one.scale 2).add (R.rat.mul R.rat)).add (R.rat.exp.scale (-1))) = M3.one
  less : R.rat.exp.add (M3.one.scale (-1)) = pairM p t a (b + a * c / 2) c
  log : (pairM p t a ((b : Rat) + a * c / 2) c).poly 0 1 (-1/2) = R.rat
  pow : (R.rat.exp.pow k).scale 2 = ((M3.one.add (R.rat.scale (k : Rat))).scale 2).add ((R.rat.mul R.rat).scale ((k * k : Int) : Rat))
  t1 : ((2 * R.rat.exp.a.num != (R.rat.exp.a.den : Int) * (2 * 1 + 2 * R.a + (R.prod R).a)) == false) = true
  t2 : ((2 * R.rat.exp.b.num != (R.rat.exp.b.den : Int) * (2 * 0 + 2 * R.b + (R.prod R).b)) == false) = true
  t3 : ((2 * R.rat.exp.c.num != (R.rat.exp.c.den : Int) * (2 * 0 + 2 * R.c + (R.prod R).c)) == false) = true
  t4 : ((2 * R.rat.exp.d.num != (R.rat.exp.d.den : Int) * (2 * 0 + 2 * R.d + (R.prod R).d)) == false) = true
  t5 : ((2 * R.rat.exp.e.num != (R.rat.exp.e.den : Int) * (2 * 1 + 2 * R.e + (R.prod R).e)) == false) = true
  t6 : ((2 * R.rat.exp.f.num != (R.rat.exp.f.den : Int) * (2 * 0 + 2 * R.f + (R.prod R).f)) == false) = true
  t7 : ((2 * R.rat.exp.g.num != (R.rat.exp.g.den : Int) * (2 * 0 + 2 * R.g + (R.prod R).g)) == false) = true
  t8 : ((2 * R.rat.exp.h.num != (R.rat.exp.h.den : Int) * (2 * 0 + 2 * R.h + (R.prod R).h)) == false) = true
  t9 : ((2 * R.rat.exp.i.num != (R.rat.exp.i.den : Int) * (2 * 1 + 2 * R.i + (R.prod R).i)) == false) = true

theorem one_facts {R : I3} {p : Nat} {t : Rat} {a b c k : Int} (hR : R.rat = pairM p t a b c) (k0 : 0 ≤ k) (k3 : k ≤ 3) : OneFacts R p t a b c k := by
  have nil : R.rat.mul (R.rat.mul R.rat) = M3.zero := by rw [hR]; exact pair_nil ..
  have c2 : ((2 : Int) : Rat) = 2 := rfl
  have c1 : ((1 : Int) : Rat) = 1 := rfl
  have c0 : ((0 : Int) : Rat) = 0 := rfl
  refine ⟨hR, M3.inv_of nil, by rw [hR]; exact pair_less .., by rw [← pair_less, ← hR]; exact M3.log_of nil, pow_all nil k k0 k3, ?_, ?_, ?_, ?_, ?_, ?_, ?_, ?_, ?_⟩
  all_goals
    apply num_test
    rw [M3.exp, poly_eq]
    simp only [I3.prod, I3.rat, Rat.intCast_add, Rat.intCast_mul, c2, c1, c0]
    grind
theorem num3_f {a b c : Int} (h : ¬(a = 0 ∧ b = 0 ∧ c = 0)) : ((andB (a == 0) (andB (b == 0) (andB (c == 0) true))) == false) = true := by
  cases q : andB (a == 0) (andB (b == 0) (andB (c == 0) true)) with
  | false => rfl
  | true =>
    obtain ⟨h1, q⟩ := andB_true q
    obtain ⟨h2, q⟩ := andB_true q
    obtain ⟨h3, _⟩ := andB_true q
    exact absurd ⟨by simpa using h1, by simpa using h2, by simpa using h3⟩ h
theorem num3_t {a b c : Int} (h : a = 0 ∧ b = 0 ∧ c = 0) : ((andB (a == 0) (andB (b == 0) (andB (c == 0) true))) == true) = true := by
  obtain ⟨rfl, rfl, rfl⟩ := h
  rfl
end Mine
end

section
set_option autoImplicit false
set_option linter.unusedVariables false
set_option linter.unusedSimpArgs false
set_option Elab.async false
set_option maxRecDepth 100000
set_option maxHeartbeats 4000000
set_option smartUnfolding false
namespace Mine
open PySem PySem.Calls PyProof.Rows

section
variable {w : World} {h₀ : Heap} {mg mb : Str → Option Value}
noncomputable def boxS (l : List D) (x : Int) (t : Nat) : Sto := [some [.lst l, .int x t]]
theorem etaI (R : I3) : (⟨R.a, R.b, R.c, R.d, R.e, R.f, R.g, R.h, R.i⟩ : I3) = R := rfl
theorem n40 : ((4 : Int) != 0) = true := rfl
theorem mx3 : Nat.max 3 16 = 16 := rfl
theorem mx17 : Nat.max 17 32 = 32 := rfl
theorem c_neg : ((-1 : Int) : Rat) = -1 := rfl
theorem c_two : ((2 : Int) : Rat) = 2 := rfl
theorem c_one : ((1 : Int) : Rat) = 1 := rfl
theorem c_zero : ((0 : Int) : Rat) = 0 := rfl
theorem orI (a : Bool) (X : M3) : (a || M3.eqM X X) = true := by rw [M3.eqM_self, Bool.or_true]

theorem one_a (B : Base w h₀ mg mb) {p : Nat} {t : Rat} {a b c k : Int} {R : I3} (H : OneFacts R p t a b c k) (hr : rk a b c = (((2 : Int)))) (q1 : a ≠ 0) (q2 : c ≠ 0) (l : List D) (tx : Nat) (ha : allInt l = true) (hl : l.length ≤ 1000) (ht : tx ≤ 60) (hk : takeD l 6 4 = k) (k0 : 0 ≤ k) (k3 : k ≤ 3) :
    HkOk w h₀ mg 61 "_law_is_one" (boxS l 6 tx) [.mut 0, .tup [.int a 4, .int b 4, .int c 4], intI R 14] (.bool true) (boxS l (6 + 1) (Nat.max tx 1 + 1)) := by
  refine HkOk.widen (hook_of B (gd9 (E := R.rat.exp) (p := p) (t := t) (a := a) (b := b) (e := c) (r := 2) (vals := [0, 0, 0, 0, 0, 0, k]) B H.hY hr) (g := 60) (dep := 20) (ds := [false, false, false, false, false, false, false, false, false, false, false, false, true, true])
    (σ1 := boxS l (6 + 1) (Nat.max tx 1 + 1)) (σ2 := boxS l (6 + 1) (Nat.max tx 1 + 1)) (fn := theFn "_law_is_one") rfl rfl rfl ⟨_, _, _, rfl, ?_, rfl⟩ rfl ?_) ?_
  rotate_left
  · show andB (andB (bndMs 1 l) _) _ = true
    rw [allInt_bnd 1 ha]; rfl
  · refine (show ∀ b : Bool, b = true → Wd (.bool b) (.bool true) from fun b hb => by subst hb; exact Wd.refl) _ ?_
    rfl
  · have hk' : takeD l (Int.toNat 6) 4 = k := hk
    have hx : (R.prod R).rat = R.rat.mul R.rat := I3.prod_rat R R
    obtain ⟨hR, hY, less, log, pow, t1, t2, t3, t4, t5, t6, t7, t8, t9⟩ := H
    have z6 : (0 : Int) ≤ 6 := by decide
    have e1 : ((a != 0) == true) = true := by simp [q1]
    have e2 : ((c != 0) == true) = true := by simp [q2]
    repeat' (with_reducible apply andB_intro)
    all_goals first
      | (with_reducible first | exact t1 | exact t2 | exact t3 | exact t4 | exact t5 | exact t6 | exact t7 | exact t8 | exact t9 | exact e1 | exact e2 | exact e1 | assumption)
      | (with_reducible refine neqI (eqm ?_); simp only [eta3, etaI, hx, c_neg, c_two, c_one, less, log, pow, ← hR]; done)
      | (with_reducible exact orI _ _)
      | (simp only [eta3, etaI, hx, c_neg, c_two, c_one, less, ← hR, hk', ha, hl, ht, k0, k3, z6, M3.eqM_self, Bool.or_true, Bool.true_or, bl, decide_true]; done)
      | rfl

theorem one_b (B : Base w h₀ mg mb) {p : Nat} {t : Rat} {a b c k : Int} {R : I3} (H : OneFacts R p t a b c k) (hr : rk a b c = (((1 : Int)))) (q1 : a ≠ 0) (q2 : c = 0) (l : List D) (tx : Nat) (ha : allInt l = true) (hl : l.length ≤ 1000) (ht : tx ≤ 60) (hk : takeD l 6 4 = k) (k0 : 0 ≤ k) (k3 : k ≤ 3) :
    HkOk w h₀ mg 61 "_law_is_one" (boxS l 6 tx) [.mut 0, .tup [.int a 4, .int b 4, .int c 4], intI R 14] (.bool true) (boxS l (6 + 1) (Nat.max tx 1 + 1)) := by
  refine HkOk.widen (hook_of B (gd9 (E := R.rat.exp) (p := p) (t := t) (a := a) (b := b) (e := c) (r := 1) (vals := [0, 0, 0, 0, 0, 0, k]) B H.hY hr) (g := 60) (dep := 20) (ds := [false, false, false, false, false, false, false, false, false, false, false, false, true, false, false])
    (σ1 := boxS l (6 + 1) (Nat.max tx 1 + 1)) (σ2 := boxS l (6 + 1) (Nat.max tx 1 + 1)) (fn := theFn "_law_is_one") rfl rfl rfl ⟨_, _, _, rfl, ?_, rfl⟩ rfl ?_) ?_
  rotate_left
  · show andB (andB (bndMs 1 l) _) _ = true
    rw [allInt_bnd 1 ha]; rfl
  · refine (show ∀ b : Bool, b = true → Wd (.bool b) (.bool true) from fun b hb => by subst hb; exact Wd.refl) _ ?_
    rfl
  · have hk' : takeD l (Int.toNat 6) 4 = k := hk
    have hx : (R.prod R).rat = R.rat.mul R.rat := I3.prod_rat R R
    obtain ⟨hR, hY, less, log, pow, t1, t2, t3, t4, t5, t6, t7, t8, t9⟩ := H
    have z6 : (0 : Int) ≤ 6 := by decide
    have e1 : ((a != 0) == true) = true := by simp [q1]
    have e2 : ((c != 0) == false) = true := by simp [q2]
    have e3 := num3_f (a := a) (b := b) (c := c) (fun h => q1 h.1)
    repeat' (with_reducible apply andB_intro)
    all_goals first
      | (with_reducible first | exact t1 | exact t2 | exact t3 | exact t4 | exact t5 | exact t6 | exact t7 | exact t8 | exact t9 | exact e1 | exact e2 | exact e3 | assumption)
      | (with_reducible refine neqI (eqm ?_); simp only [eta3, etaI, hx, c_neg, c_two, c_one, less, log, pow, ← hR]; done)
      | (with_reducible exact orI _ _)
      | (simp only [eta3, etaI, hx, c_neg, c_two, c_one, less, ← hR, hk', ha, hl, ht, k0, k3, z6, M3.eqM_self, Bool.or_true, Bool.true_or, bl, decide_true]; done)
      | rfl

theorem one_c (B : Base w h₀ mg mb) {p : Nat} {t : Rat} {a b c k : Int} {R : I3} (H : OneFacts R p t a b c k) (hr : rk a b c = (((1 : Int)))) (q1 : a = 0) (q2 : ¬(a = 0 ∧ b = 0 ∧ c = 0)) (l : List D) (tx : Nat) (ha : allInt l = true) (hl : l.length ≤ 1000) (ht : tx ≤ 60) (hk : takeD l 6 4 = k) (k0 : 0 ≤ k) (k3 : k ≤ 3) :
    HkOk w h₀ mg 61 "_law_is_one" (boxS l 6 tx) [.mut 0, .tup [.int a 4, .int b 4, .int c 4], intI R 14] (.bool true) (boxS l (6 + 1) (Nat.max tx 1 + 1)) := by
  refine HkOk.widen (hook_of B (gd9 (E := R.rat.exp) (p := p) (t := t) (a := a) (b := b) (e := c) (r := 1) (vals := [0, 0, 0, 0, 0, 0, k]) B H.hY hr) (g := 60) (dep := 20) (ds := [false, false, false, false, false, false, false, false, false, false, false, false, false, false])
    (σ1 := boxS l (6 + 1) (Nat.max tx 1 + 1)) (σ2 := boxS l (6 + 1) (Nat.max tx 1 + 1)) (fn := theFn "_law_is_one") rfl rfl rfl ⟨_, _, _, rfl, ?_, rfl⟩ rfl ?_) ?_
  rotate_left
  · show andB (andB (bndMs 1 l) _) _ = true
    rw [allInt_bnd 1 ha]; rfl
  · refine (show ∀ b : Bool, b = true → Wd (.bool b) (.bool true) from fun b hb => by subst hb; exact Wd.refl) _ ?_
    rfl
  · have hk' : takeD l (Int.toNat 6) 4 = k := hk
    have hx : (R.prod R).rat = R.rat.mul R.rat := I3.prod_rat R R
    obtain ⟨hR, hY, less, log, pow, t1, t2, t3, t4, t5, t6, t7, t8, t9⟩ := H
    have z6 : (0 : Int) ≤ 6 := by decide
    have e1 : ((a != 0) == false) = true := by simp [q1]
    have e3 := num3_f q2
    repeat' (with_reducible apply andB_intro)
    all_goals first
      | (with_reducible first | exact t1 | exact t2 | exact t3 | exact t4 | exact t5 | exact t6 | exact t7 | exact t8 | exact t9 | exact e1 | exact e1 | exact e3 | assumption)
      | (with_reducible refine neqI (eqm ?_); simp only [eta3, etaI, hx, c_neg, c_two, c_one, less, log, pow, ← hR]; done)
      | (with_reducible exact orI _ _)
      | (simp only [eta3, etaI, hx, c_neg, c_two, c_one, less, ← hR, hk', ha, hl, ht, k0, k3, z6, M3.eqM_self, Bool.or_true, Bool.true_or, bl, decide_true]; done)
      | rfl

theorem one_d (B : Base w h₀ mg mb) {p : Nat} {t : Rat} {a b c k : Int} {R : I3} (H : OneFacts R p t a b c k) (hr : rk a b c = (((0 : Int)))) (q1 : a = 0) (q2 : b = 0 ∧ c = 0) (l : List D) (tx : Nat) (ha : allInt l = true) (hl : l.length ≤ 1000) (ht : tx ≤ 60) (hk : takeD l 6 4 = k) (k0 : 0 ≤ k) (k3 : k ≤ 3) :
    HkOk w h₀ mg 61 "_law_is_one" (boxS l 6 tx) [.mut 0, .tup [.int a 4, .int b 4, .int c 4], intI R 14] (.bool true) (boxS l (6 + 1) (Nat.max tx 1 + 1)) := by
  refine HkOk.widen (hook_of B (gd9 (E := R.rat.exp) (p := p) (t := t) (a := a) (b := b) (e := c) (r := 0) (vals := [0, 0, 0, 0, 0, 0, k]) B H.hY hr) (g := 60) (dep := 20) (ds := [false, false, false, false, false, false, false, false, false, false, false, false, false, true])
    (σ1 := boxS l (6 + 1) (Nat.max tx 1 + 1)) (σ2 := boxS l (6 + 1) (Nat.max tx 1 + 1)) (fn := theFn "_law_is_one") rfl rfl rfl ⟨_, _, _, rfl, ?_, rfl⟩ rfl ?_) ?_
  rotate_left
  · show andB (andB (bndMs 1 l) _) _ = true
    rw [allInt_bnd 1 ha]; rfl
  · refine (show ∀ b : Bool, b = true → Wd (.bool b) (.bool true) from fun b hb => by subst hb; exact Wd.refl) _ ?_
    rfl
  · have hk' : takeD l (Int.toNat 6) 4 = k := hk
    have hx : (R.prod R).rat = R.rat.mul R.rat := I3.prod_rat R R
    obtain ⟨hR, hY, less, log, pow, t1, t2, t3, t4, t5, t6, t7, t8, t9⟩ := H
    have z6 : (0 : Int) ≤ 6 := by decide
    have e1 : ((a != 0) == false) = true := by simp [q1]
    have e3 := num3_t ⟨q1, q2⟩
    repeat' (with_reducible apply andB_intro)
    all_goals first
      | (with_reducible first | exact t1 | exact t2 | exact t3 | exact t4 | exact t5 | exact t6 | exact t7 | exact t8 | exact t9 | exact e1 | exact e1 | exact e3 | assumption)
      | (with_reducible refine neqI (eqm ?_); simp only [eta3, etaI, hx, c_neg, c_two, c_one, less, log, pow, ← hR]; done)
      | (with_reducible exact orI _ _)
      | (simp only [eta3, etaI, hx, c_neg, c_two, c_one, less, ← hR, hk', ha, hl, ht, k0, k3, z6, M3.eqM_self, Bool.or_true, Bool.true_or, bl, decide_true]; done)
      | rfl

end
end Mine
end

section
set_option autoImplicit false
set_option linter.unusedVariables false
set_option linter.unusedSimpArgs false
set_option Elab.async false
set_option maxRecDepth 100000
set_option maxHeartbeats 4000000
namespace Mine
open PySem PySem.Calls PyProof.Rows

theorem takeD_bnd (l : List D) (x : Nat) (m : Int) (hm : 0 < m) : 0 ≤ takeD l x m ∧ takeD l x m < m := by
  have h : ∀ i : Int, 0 ≤ i.fmod m ∧ i.fmod m < m := fun i => ⟨Int.fmod_nonneg_of_pos i hm, Int.fmod_lt_of_pos i hm⟩
  unfold takeD
  split
  · exact h _
  · exact h _
theorem zc {a : Int} : (a : Rat) = 0 ↔ a = 0 := by
  constructor
  · intro h; exact_mod_cast h
  · rintro rfl; rfl
theorem rk_two {a b c : Int} (h : a ≠ 0) (h2 : c ≠ 0) : rk a b c = 2 := by simp [rk, zc, h, h2]
theorem rk_one {a b c : Int} (h : a ≠ 0) (h2 : c = 0) : rk a b c = 1 := by simp [rk, zc, h, h2]
theorem rk_one' {a b c : Int} (h : a = 0) (h2 : ¬(a = 0 ∧ b = 0 ∧ c = 0)) : rk a b c = 1 := by
  subst h
  simp only [true_and] at h2
  simp [rk, zc, h2]
theorem rk_zero {a b c : Int} (h : a = 0) (h2 : b = 0 ∧ c = 0) : rk a b c = 0 := by
  obtain ⟨rfl, rfl⟩ := h2
  subst h
  simp [rk, zc]

section
variable {w : World} {h₀ : Heap} {c : Cfg} {K K' : Nat} {mg mb : Str → Option Value} {f : Str} {args args' : List D} {d d' : D} {σ σ' : Sto}
theorem one_spec (B : Base w h₀ mg mb) {p : Nat} {t : Rat} {a b c : Int} {R : I3} (hR : R.rat = pairM p t a b c) (l : List D) (tx : Nat) (ha : allInt l = true) (hl : l.length ≤ 1000) (ht : tx ≤ 60) :
    HkOk w h₀ mg 61 "_law_is_one" (boxS l 6 tx) [.mut 0, .tup [.int a 4, .int b 4, .int c 4], intI R 14] (.bool true) (boxS l (6 + 1) (Nat.max tx 1 + 1)) := by
  obtain ⟨k0, k3⟩ := takeD_bnd l 6 4 (by decide)
  have k3 : takeD l 6 4 ≤ 3 := by omega
  have H := one_facts hR k0 k3
  by_cases h : a = 0
  · by_cases h2 : b = 0 ∧ c = 0
    · exact one_d B H (rk_zero h h2) h h2 l tx ha hl ht rfl k0 k3
    · have h2' : ¬(a = 0 ∧ b = 0 ∧ c = 0) := fun q => h2 q.2
      exact one_c B H (rk_one' h h2') h h2' l tx ha hl ht rfl k0 k3
  · by_cases h2 : c = 0
    · exact one_b B H (rk_one h h2) h h2 l tx ha hl ht rfl k0 k3
    · exact one_a B H (rk_two h h2) h h2 l tx ha hl ht rfl k0 k3

noncomputable def movedI (p : Nat) (t a b c : Int) : I3 := match p with
  | 0 => ⟨0 - t * a, a, b, 0 + t * 0 - t * (0 + t * a), 0 + t * a, c + t * b, 0 - t * 0, 0, 0⟩
  | 1 => ⟨0 - t * b, a, b, 0 - t * c, 0, c, 0 + t * 0 - t * (0 + t * b), 0 + t * a, 0 + t * b⟩
  | _ => ⟨0, a - t * b, b, 0, 0 - t * c, c, 0 + t * 0, 0 + t * 0 - t * (0 + t * c), 0 + t * c⟩
theorem moved_rat (p : Nat) (t a b c : Int) : (movedI p t a b c).rat = pairM p t a b c := by
  have c0 : ((0 : Int) : Rat) = 0 := rfl
  unfold movedI pairM I3.rat
  split <;> apply M3.ext <;> simp only [Rat.intCast_add, Rat.intCast_mul, Rat.intCast_sub, c0] <;> grind
noncomputable def up (p : Nat) : Int := match p with | 0 => 0 | 1 => 0 | _ => 1
noncomputable def lo (p : Nat) : Int := match p with | 0 => 1 | 1 => 2 | _ => 2
noncomputable def c11 : Cfg := cfg noTab (hkT []) (only "_law_moved") [] [(168, 11), (168, 12), (168, 23), (168, 34), (169, 18)]
theorem gd11 (B : Base w h₀ mg mb) : Gd P w h₀ c11 1 mg mb := B.gd (fun f σ args d σ' o h ho => hkT_ok B h ho) fun f args d o h ho => by cases h
noncomputable def movD (p : Nat) (t : Int) (l : List D) (x : Int) : D := .tup [.tup [.int (takeD l x.toNat 5 - 2) 4, .int (takeD l (x + 1).toNat 5 - 2) 4, .int (takeD l (x + 1 + 1).toNat 5 - 2) 4], intI (movedI p t (takeD l x.toNat 5 - 2) (takeD l (x + 1).toNat 5 - 2) (takeD l (x + 1 + 1).toNat 5 - 2)) 14]
theorem nmx {a b n : Nat} (h1 : a ≤ n) (h2 : b ≤ n) : Nat.max a b ≤ n := Nat.max_le.mpr ⟨h1, h2⟩
theorem n50 : ((5 : Int) != 0) = true := rfl
theorem n30 : ((3 : Int) != 0) = true := rfl
theorem tripW {a b c : Int} {n1 n2 n3 n : Nat} (h1 : n1 ≤ n) (h2 : n2 ≤ n) (h3 : n3 ≤ n) : Wd (.tup [.int a n1, .int b n2, .int c n3]) (.tup [.int a n, .int b n, .int c n]) :=
  wd_tup (Wds.cons (wd_int h1) (Wds.cons (wd_int h2) (Wds.cons (wd_int h3) Wds.nil)))
set_option smartUnfolding false in
theorem moved_0 (B : Base w h₀ mg mb) (t : Int) (l : List D) (x : Int) (tx : Nat) (hx : 0 ≤ x) (ha : allInt l = true) (hl : l.length ≤ 1000) (ht : tx ≤ 50) :
    HkOk w h₀ mg 12 "_law_moved" (boxS l x tx) [.mut 0, .int 0 2, .int 1 2, .int t 4] (movD 0 t l x) (boxS l (x + 1 + 1 + 1) (Nat.max (Nat.max (Nat.max tx 1 + 1) 1 + 1) 1 + 1)) := by
  refine HkOk.widen (hook_of B (gd11 B) (g := 40) (dep := 10) (ds := [])
    (σ2 := some [.lst l, .int (x + 1 + 1 + 1) (Nat.max (Nat.max (Nat.max tx 1 + 1) 1 + 1) 1 + 1)] :: _) (fn := theFn "_law_moved") rfl rfl rfl ⟨_, _, _, rfl, ?_, rfl⟩ rfl ?_) ?_
  · have x1 : 0 ≤ x + 1 := by omega
    have x2 : 0 ≤ x + 1 + 1 := by omega
    have m0 : tx ≤ 60 := by omega
    have y1 : Nat.max tx 1 ≤ 50 := nmx ht (by decide)
    have m1 : Nat.max tx 1 + 1 ≤ 60 := by omega
    have y2 : Nat.max (Nat.max tx 1 + 1) 1 ≤ 51 := nmx (by omega) (by decide)
    have m2 : Nat.max (Nat.max tx 1 + 1) 1 + 1 ≤ 60 := by omega
    have dx : decide (0 ≤ x) = true := decide_eq_true hx
    have dx1 : decide (0 ≤ x + 1) = true := decide_eq_true x1
    have dx2 : decide (0 ≤ x + 1 + 1) = true := decide_eq_true x2
    have b0 := Nat.ble_eq_true_of_le m0
    have b1 := Nat.ble_eq_true_of_le m1
    have b2 := Nat.ble_eq_true_of_le m2
    have bl' := Nat.ble_eq_true_of_le hl
    repeat' (with_reducible apply andB_intro)
    all_goals first | (with_reducible assumption) | rfl
  · show andB (andB (bndMs 1 l) _) _ = true
    rw [allInt_bnd 1 ha]; rfl
  · refine wd_tup (Wds.cons (tripW ?_ ?_ ?_) (Wds.cons (rowsW ?_ ?_ ?_ ?_ ?_ ?_ ?_ ?_ ?_) Wds.nil))
    all_goals decide
set_option smartUnfolding false in
theorem moved_1 (B : Base w h₀ mg mb) (t : Int) (l : List D) (x : Int) (tx : Nat) (hx : 0 ≤ x) (ha : allInt l = true) (hl : l.length ≤ 1000) (ht : tx ≤ 50) :
    HkOk w h₀ mg 12 "_law_moved" (boxS l x tx) [.mut 0, .int 0 2, .int 2 2, .int t 4] (movD 1 t l x) (boxS l (x + 1 + 1 + 1) (Nat.max (Nat.max (Nat.max tx 1 + 1) 1 + 1) 1 + 1)) := by
  refine HkOk.widen (hook_of B (gd11 B) (g := 40) (dep := 10) (ds := [])
    (σ2 := some [.lst l, .int (x + 1 + 1 + 1) (Nat.max (Nat.max (Nat.max tx 1 + 1) 1 + 1) 1 + 1)] :: _) (fn := theFn "_law_moved") rfl rfl rfl ⟨_, _, _, rfl, ?_, rfl⟩ rfl ?_) ?_
  · have x1 : 0 ≤ x + 1 := by omega
    have x2 : 0 ≤ x + 1 + 1 := by omega
    have m0 : tx ≤ 60 := by omega
    have y1 : Nat.max tx 1 ≤ 50 := nmx ht (by decide)
    have m1 : Nat.max tx 1 + 1 ≤ 60 := by omega
    have y2 : Nat.max (Nat.max tx 1 + 1) 1 ≤ 51 := nmx (by omega) (by decide)
    have m2 : Nat.max (Nat.max tx 1 + 1) 1 + 1 ≤ 60 := by omega
    have dx : decide (0 ≤ x) = true := decide_eq_true hx
    have dx1 : decide (0 ≤ x + 1) = true := decide_eq_true x1
    have dx2 : decide (0 ≤ x + 1 + 1) = true := decide_eq_true x2
    have b0 := Nat.ble_eq_true_of_le m0
    have b1 := Nat.ble_eq_true_of_le m1
    have b2 := Nat.ble_eq_true_of_le m2
    have bl' := Nat.ble_eq_true_of_le hl
    repeat' (with_reducible apply andB_intro)
    all_goals first | (with_reducible assumption) | rfl
  · show andB (andB (bndMs 1 l) _) _ = true
    rw [allInt_bnd 1 ha]; rfl
  · refine wd_tup (Wds.cons (tripW ?_ ?_ ?_) (Wds.cons (rowsW ?_ ?_ ?_ ?_ ?_ ?_ ?_ ?_ ?_) Wds.nil))
    all_goals decide
set_option smartUnfolding false in
theorem moved_2 (B : Base w h₀ mg mb) (t : Int) (l : List D) (x : Int) (tx : Nat) (hx : 0 ≤ x) (ha : allInt l = true) (hl : l.length ≤ 1000) (ht : tx ≤ 50) :
    HkOk w h₀ mg 12 "_law_moved" (boxS l x tx) [.mut 0, .int 1 2, .int 2 2, .int t 4] (movD 2 t l x) (boxS l (x + 1 + 1 + 1) (Nat.max (Nat.max (Nat.max tx 1 + 1) 1 + 1) 1 + 1)) := by
  refine HkOk.widen (hook_of B (gd11 B) (g := 40) (dep := 10) (ds := [])
    (σ2 := some [.lst l, .int (x + 1 + 1 + 1) (Nat.max (Nat.max (Nat.max tx 1 + 1) 1 + 1) 1 + 1)] :: _) (fn := theFn "_law_moved") rfl rfl rfl ⟨_, _, _, rfl, ?_, rfl⟩ rfl ?_) ?_
  · have x1 : 0 ≤ x + 1 := by omega
    have x2 : 0 ≤ x + 1 + 1 := by omega
    have m0 : tx ≤ 60 := by omega
    have y1 : Nat.max tx 1 ≤ 50 := nmx ht (by decide)
    have m1 : Nat.max tx 1 + 1 ≤ 60 := by omega
    have y2 : Nat.max (Nat.max tx 1 + 1) 1 ≤ 51 := nmx (by omega) (by decide)
    have m2 : Nat.max (Nat.max tx 1 + 1) 1 + 1 ≤ 60 := by omega
    have dx : decide (0 ≤ x) = true := decide_eq_true hx
    have dx1 : decide (0 ≤ x + 1) = true := decide_eq_true x1
    have dx2 : decide (0 ≤ x + 1 + 1) = true := decide_eq_true x2
    have b0 := Nat.ble_eq_true_of_le m0
    have b1 := Nat.ble_eq_true_of_le m1
    have b2 := Nat.ble_eq_true_of_le m2
    have bl' := Nat.ble_eq_true_of_le hl
    repeat' (with_reducible apply andB_intro)
    all_goals first | (with_reducible assumption) | rfl
  · show andB (andB (bndMs 1 l) _) _ = true
    rw [allInt_bnd 1 ha]; rfl
  · refine wd_tup (Wds.cons (tripW ?_ ?_ ?_) (Wds.cons (rowsW ?_ ?_ ?_ ?_ ?_ ?_ ?_ ?_ ?_) Wds.nil))
    all_goals decide
end
end Mine
end

section
set_option autoImplicit false
set_option linter.unusedVariables false
set_option linter.unusedSimpArgs false
set_option Elab.async false
set_option maxRecDepth 100000
set_option maxHeartbeats 4000000
namespace Mine
open PySem PySem.Calls PyProof.Rows

section
variable {w : World} {h₀ : Heap} {c : Cfg} {K K' : Nat} {mg mb : Str → Option Value} {f : Str} {args args' : List D} {d d' : D} {σ σ' : Sto}

theorem allInt_take : ∀ {l : List D} (n : Nat), allInt l = true → allInt (l.take n) = true
  | _, 0, _ => by simp [allInt]
  | [], _ + 1, _ => by simp [allInt]
  | .int i n :: r, k + 1, a => by rw [List.take_succ_cons]; exact allInt_take (l := r) k a
  | .none :: _, _ + 1, a => by simp [allInt] at a
  | .bool _ :: _, _ + 1, a => by simp [allInt] at a
  | .str _ :: _, _ + 1, a => by simp [allInt] at a
  | .rat _ _ _ :: _, _ + 1, a => by simp [allInt] at a
  | .tup _ :: _, _ + 1, a => by simp [allInt] at a
  | .lst _ :: _, _ + 1, a => by simp [allInt] at a
  | .rng _ _ :: _, _ + 1, a => by simp [allInt] at a
  | .mut _ :: _, _ + 1, a => by simp [allInt] at a

noncomputable def holds (q : Prop) : Bool := @decide q (Classical.propDecidable q)
theorem holds_ok {q : Prop} (h : holds q = true) : q := @of_decide_eq_true q (Classical.propDecidable q) h
theorem holds_in {q : Prop} (h : q) : holds q = true := @decide_eq_true q (Classical.propDecidable q) h
theorem nil3_moved (p : Nat) (t a b c a' b' c' : Int) : M3.Nil3 (movedI p t a b c).rat (movedI p t a' b' c').rat := by
  rw [moved_rat, moved_rat]; exact pair_nil3 ..
theorem nil_moved (p : Nat) (t a b c : Int) : (movedI p t a b c).rat.mul ((movedI p t a b c).rat.mul (movedI p t a b c).rat) = M3.zero := by
  rw [moved_rat]; exact pair_nil ..
theorem pair_moved (p : Nat) (t a b c : Int) : ∃ (q : Nat) (u : Rat), (movedI p t a b c).rat = pairM q u a b c := ⟨p, t, moved_rat p t a b c⟩
theorem moved_spec (B : Base w h₀ mg mb) (p : Nat) (hp : p < 3) (t : Int) (l : List D) (x : Int) (tx : Nat) (hx : 0 ≤ x) (ha : allInt l = true) (hl : l.length ≤ 1000) (ht : tx ≤ 50) :
    HkOk w h₀ mg 12 "_law_moved" (boxS l x tx) [.mut 0, .int (up p) 2, .int (lo p) 2, .int t 4] (movD p t l x) (boxS l (x + 1 + 1 + 1) (Nat.max (Nat.max (Nat.max tx 1 + 1) 1 + 1) 1 + 1)) :=
  match p, hp with
  | 0, _ => moved_0 B t l x tx hx ha hl ht
  | 1, _ => moved_1 B t l x tx hx ha hl ht
  | 2, _ => moved_2 B t l x tx hx ha hl ht
noncomputable def hkMoved (p : Nat) (f : Str) (σ : Sto) (args : List D) : Option (D × Sto × Bool) := cond (f == ("_law_moved" : Str)) (match args with
  | b :: r => (match box0 σ b with
    | some (l, x, t) => (match trip3 intOf r with
      | some ((u, nu), (v, nv), (tm, nt)) => some (movD p tm l x, [some [.lst l, .int (x + 1 + 1 + 1) (Nat.max (Nat.max (Nat.max t 1 + 1) 1 + 1) 1 + 1)]],
          andB (decide (p < 3)) (andB (decide (u = up p)) (andB (decide (v = lo p)) (andB (decide (0 ≤ x)) (andB (Nat.ble nu 2) (andB (Nat.ble nv 2) (andB (Nat.ble nt 4) (andB (allInt l) (andB (Nat.ble l.length 1000) (Nat.ble t 50))))))))))
      | none => none)
    | none => none)
  | [] => none) none
theorem hkMoved_ok (B : Base w h₀ mg mb) {p : Nat} {o : Bool} (h : hkMoved p f σ args = some (d, σ', o)) (ho : o = true) : HkOk w h₀ mg 61 f σ args d σ' := by
  unfold hkMoved at h
  rcases cond_two h with ⟨hf, h⟩ | ⟨_, h⟩
  · split at h
    · split at h
      · rename_i e1
        split at h
        · rename_i e2
          obtain ⟨e3, e4⟩ := box0_ok e1
          obtain ⟨y1, y2, y3, e5, e6, e7, e8⟩ := trip3_ok e2
          injection h with h; injection h with h1 h; injection h with h2 h3
          obtain ⟨k0, ho⟩ := andB_true (h3.trans ho)
          obtain ⟨k1, ho⟩ := andB_true ho
          obtain ⟨k2, ho⟩ := andB_true ho
          obtain ⟨k3, ho⟩ := andB_true ho
          obtain ⟨k4, ho⟩ := andB_true ho
          obtain ⟨k5, ho⟩ := andB_true ho
          obtain ⟨k6, ho⟩ := andB_true ho
          obtain ⟨k7, ho⟩ := andB_true ho
          obtain ⟨k8, k9⟩ := andB_true ho
          rw [e3, e4, e5, ← h1, ← h2, beq_iff_eq.mp hf, intOf_ok e6, intOf_ok e7, intOf_ok e8, of_decide_eq_true k1, of_decide_eq_true k2]
          exact ((moved_spec B p (of_decide_eq_true k0) _ _ _ _ (of_decide_eq_true k3) k7 (Nat.le_of_ble_eq_true k8) (Nat.le_of_ble_eq_true k9)).inp
            (Wds.cons Wd.refl (Wds.cons (wd_int (Nat.le_of_ble_eq_true k4)) (Wds.cons (wd_int (Nat.le_of_ble_eq_true k5)) (Wds.cons (wd_int (Nat.le_of_ble_eq_true k6)) Wds.nil))))).more (by decide)
        · first | exact no_some h | cases h
      · first | exact no_some h | cases h
    · first | exact no_some h | cases h
  · first | exact no_some h | cases h
noncomputable def hkOne (f : Str) (σ : Sto) (args : List D) : Option (D × Sto × Bool) := cond (f == ("_law_is_one" : Str)) (match three args with
  | some (b, y, rows) => (match box0 σ b with
    | some (l, x, t) => (match tupOf y with
      | some ns => (match trip3 intOf ns with
        | some ((a, na), (b', nb), (c, nc)) => (match asInts rows with
          | some (R, n) => some (.bool true, [some [.lst l, .int (x + 1) (Nat.max t 1 + 1)]],
            andB (decide (x = 6)) (andB (holds (∃ (p : Nat) (t : Rat), R.rat = pairM p t a b' c)) (andB (Nat.ble n 14) (andB (Nat.ble na 4) (andB (Nat.ble nb 4) (andB (Nat.ble nc 4) (andB (allInt l) (andB (Nat.ble l.length 1000) (Nat.ble t 60)))))))))
          | none => none)
        | none => none)
      | none => none)
    | none => none)
  | none => none) none
theorem hkOne_ok (B : Base w h₀ mg mb) {o : Bool} (h : hkOne f σ args = some (d, σ', o)) (ho : o = true) : HkOk w h₀ mg 61 f σ args d σ' := by
  unfold hkOne at h
  rcases cond_two h with ⟨hf, h⟩ | ⟨_, h⟩
  · split at h
    · rename_i e0
      split at h
      · rename_i e1
        split at h
        · rename_i e2
          split at h
          · rename_i e3
            split at h
            · rename_i e4
              obtain ⟨e5, e6⟩ := box0_ok e1
              obtain ⟨y1, y2, y3, e7, e8, e9, e10⟩ := trip3_ok e3
              injection h with h; injection h with h1 h; injection h with h2 h3
              obtain ⟨k0, ho⟩ := andB_true (h3.trans ho)
              obtain ⟨k1, ho⟩ := andB_true ho
              obtain ⟨k2, ho⟩ := andB_true ho
              obtain ⟨k3, ho⟩ := andB_true ho
              obtain ⟨k4, ho⟩ := andB_true ho
              obtain ⟨k5, ho⟩ := andB_true ho
              obtain ⟨k6, ho⟩ := andB_true ho
              obtain ⟨k7, k8⟩ := andB_true ho
              obtain ⟨p, t, hR⟩ := holds_ok k1
              rw [e5, three_ok e0, e6, tupOf_ok e2, e7, ← h1, ← h2, beq_iff_eq.mp hf, intOf_ok e8, intOf_ok e9, intOf_ok e10, of_decide_eq_true k0]
              exact (one_spec B hR _ _ k6 (Nat.le_of_ble_eq_true k7) (Nat.le_of_ble_eq_true k8)).inp
                (Wds.cons Wd.refl (Wds.cons (wd_tup (Wds.cons (wd_int (Nat.le_of_ble_eq_true k3)) (Wds.cons (wd_int (Nat.le_of_ble_eq_true k4)) (Wds.cons (wd_int (Nat.le_of_ble_eq_true k5)) Wds.nil)))) (Wds.cons (asInts_ok e4 (Nat.le_of_ble_eq_true k2)) Wds.nil)))
            · first | exact no_some h | cases h
          · first | exact no_some h | cases h
        · first | exact no_some h | cases h
      · first | exact no_some h | cases h
    · first | exact no_some h | cases h
  · first | exact no_some h | cases h
noncomputable def hkLaw (vals : List Int) (p : Nat) (f : Str) (σ : Sto) (args : List D) : Option (D × Sto × Bool) :=
  cond (f == ("_law_moved" : Str)) (hkMoved p f σ args) <| cond (f == ("_law_is_one" : Str)) (hkOne f σ args) (hkT vals f σ args)
noncomputable def tabTwo : List D → Option (D × Bool)
  | [x, y] => match asMat x, asMat y with
    | some (X, n, d), some (Y, m, e) => some (.bool true, andB (Nat.ble n 16) (andB (Nat.ble m 16) (andB (Nat.ble d 0) (andB (Nat.ble e 0) (holds (M3.Nil3 X Y))))))
    | _, _ => none
  | _ => none
theorem tabTwo_ok (B : Base w h₀ mg mb) {o : Bool} (h : tabTwo args = some (d, o)) (ho : o = true) : TabOk w h₀ mg 61 "_law_is_two" args d := by
  unfold tabTwo at h
  split at h
  · split at h
    · rename_i e1 e2
      injection h with h; injection h with h1 h2; subst h1 h2
      obtain ⟨k0, ho⟩ := andB_true ho
      obtain ⟨k1, ho⟩ := andB_true ho
      obtain ⟨k2, ho⟩ := andB_true ho
      obtain ⟨k3, k4⟩ := andB_true ho
      exact ((two_spec B _ _ (holds_ok k4)).inp (Wds.cons (fun h M ρ v r => wd_matD (Nat.le_of_ble_eq_true k0) (Nat.le_of_ble_eq_true k2) h M ρ v (asMat_ok e1 h M ρ v r))
        (Wds.cons (fun h M ρ v r => wd_matD (Nat.le_of_ble_eq_true k1) (Nat.le_of_ble_eq_true k3) h M ρ v (asMat_ok e2 h M ρ v r)) Wds.nil))).more (by decide)
    · first | exact no_some h | cases h
  · first | exact no_some h | cases h
noncomputable def tabAny : List D → Option (D × Bool)
  | [x, y] => match asMat x, asMat y with
    | some (X, n, d), some (Y, m, e) => some (.bool true, andB (Nat.ble n 16) (andB (Nat.ble m 16) (andB (Nat.ble d 0) (andB (Nat.ble e 0) (holds (X.mul (X.mul X) = M3.zero))))))
    | _, _ => none
  | _ => none
theorem tabAny_ok (B : Base w h₀ mg mb) {o : Bool} (h : tabAny args = some (d, o)) (ho : o = true) : TabOk w h₀ mg 61 "_law_is_any" args d := by
  unfold tabAny at h
  split at h
  · split at h
    · rename_i e1 e2
      injection h with h; injection h with h1 h2; subst h1 h2
      obtain ⟨k0, ho⟩ := andB_true ho
      obtain ⟨k1, ho⟩ := andB_true ho
      obtain ⟨k2, ho⟩ := andB_true ho
      obtain ⟨k3, k4⟩ := andB_true ho
      exact ((any_spec B _ _ (holds_ok k4)).inp (Wds.cons (fun h M ρ v r => wd_matD (Nat.le_of_ble_eq_true k0) (Nat.le_of_ble_eq_true k2) h M ρ v (asMat_ok e1 h M ρ v r))
        (Wds.cons (fun h M ρ v r => wd_matD (Nat.le_of_ble_eq_true k1) (Nat.le_of_ble_eq_true k3) h M ρ v (asMat_ok e2 h M ρ v r)) Wds.nil))).more (by decide)
    · first | exact no_some h | cases h
  · first | exact no_some h | cases h
noncomputable def tabLaw (f : Str) (args : List D) : Option (D × Bool) :=
  cond (f == ("from_whole" : Str)) (tabWhole args) <| cond (f == ("_law_is_two" : Str)) (tabTwo args) <| cond (f == ("_law_is_any" : Str)) (tabAny args) none
noncomputable def c12 (vals : List Int) (p : Nat) : Cfg := cfg tabLaw (hkLaw vals p) (only "law") [] [(212, 10)]
theorem gd12 (B : Base w h₀ mg mb) {vals : List Int} {p : Nat} : Gd P w h₀ (c12 vals p) 61 mg mb :=
  B.gd (fun f σ args d σ' o h ho => by
    unfold hkLaw at h
    rcases cond_two h with ⟨hf, h⟩ | ⟨_, h⟩
    · exact hkMoved_ok B h ho
    rcases cond_two h with ⟨hf, h⟩ | ⟨_, h⟩
    · exact hkOne_ok B h ho
    · exact (hkT_ok B h ho).more (by decide)) fun f args d o h ho => by
    unfold tabLaw at h
    rcases cond_two h with ⟨hf, h⟩ | ⟨_, h⟩
    · rw [beq_iff_eq.mp hf]; exact (tabWhole_ok B h ho).more (by decide)
    rcases cond_two h with ⟨hf, h⟩ | ⟨_, h⟩
    · rw [beq_iff_eq.mp hf]; exact tabTwo_ok B h ho
    rcases cond_two h with ⟨hf, h⟩ | ⟨_, h⟩
    · rw [beq_iff_eq.mp hf]; exact tabAny_ok B h ho
    · first | exact no_some h | cases h
theorem spec_of2 (B : Base w h₀ mg mb) (G : Gd P w h₀ c K mg mb) {g dep : Nat} {ds : List Bool} {fn : FnRec} {args : List D} {st' : St} (hf : c.fns f = some fn) (hk : fn.keep = false)
    (run : ∃ d1 o, runF (ev2 c g) ⟨[], ds, dep⟩ fn args = some (d1, st', o) ∧ o = true ∧ Wd d1 d') : TabOk w h₀ mg (K + dep) f args d' := by
  obtain ⟨d1, o, e, rfl, hw⟩ := run
  rw [← ev_eq] at e
  exact (B.run G hf hk e).widen hw
theorem n31 : ((3 : Int) != 0) = true := rfl
theorem n41 : ((4 : Int) != 0) = true := rfl
theorem dIn {q : Prop} [Decidable q] (h : q) : decide q = true := by simp [h]

set_option smartUnfolding false in
theorem law_00 (B : Base w h₀ mg mb) (l : List D) (ha : allInt l = true) (hl : l.length ≤ 1000) (h1 : takeD (l.take 15) 0 3 = 0) (h2 : takeD (l.take 15) 1 3 = 0) : TabOk w h₀ mg 81 "law" [.lst l] (.bool true) := by
  refine spec_of2 B (gd12 B (vals := [0, 0]) (p := 0)) (g := 40) (dep := 20) (ds := []) (st' := ⟨[], [], 20⟩) (fn := theFn "law") rfl rfl ⟨_, _, rfl, ?_, Wd.refl⟩
  have g1 : takeD (l.take (Int.toNat 15)) (Int.toNat 0) 3 = 0 := h1
  have g2 : takeD (l.take (Int.toNat 15)) (Int.toNat (0 + 1)) 3 = 0 := h2
  have hta : allInt (l.take (Int.toNat 15)) = true := allInt_take _ ha
  have htl : Nat.ble (l.take (Int.toNat 15)).length 1000 = true := Nat.ble_eq_true_of_le (Nat.le_trans (List.length_take_le _ _) (by decide))
  have hl' : Nat.ble l.length 1000 = true := Nat.ble_eq_true_of_le hl
  have g3 := decide_eq_true g1
  have g4 := decide_eq_true g2
  repeat' (with_reducible apply andB_intro)
  all_goals first | (with_reducible assumption) | (with_reducible exact holds_in (pair_moved ..)) | (with_reducible exact holds_in (nil3_moved ..)) | (with_reducible exact holds_in (nil_moved ..)) | rfl

set_option smartUnfolding false in
theorem law_01 (B : Base w h₀ mg mb) (l : List D) (ha : allInt l = true) (hl : l.length ≤ 1000) (h1 : takeD (l.take 15) 0 3 = 0) (h2 : takeD (l.take 15) 1 3 = 1) : TabOk w h₀ mg 81 "law" [.lst l] (.bool true) := by
  refine spec_of2 B (gd12 B (vals := [0, 1]) (p := 1)) (g := 40) (dep := 20) (ds := []) (st' := ⟨[], [], 20⟩) (fn := theFn "law") rfl rfl ⟨_, _, rfl, ?_, Wd.refl⟩
  have g1 : takeD (l.take (Int.toNat 15)) (Int.toNat 0) 3 = 0 := h1
  have g2 : takeD (l.take (Int.toNat 15)) (Int.toNat (0 + 1)) 3 = 1 := h2
  have hta : allInt (l.take (Int.toNat 15)) = true := allInt_take _ ha
  have htl : Nat.ble (l.take (Int.toNat 15)).length 1000 = true := Nat.ble_eq_true_of_le (Nat.le_trans (List.length_take_le _ _) (by decide))
  have hl' : Nat.ble l.length 1000 = true := Nat.ble_eq_true_of_le hl
  have g3 := decide_eq_true g1
  have g4 := decide_eq_true g2
  repeat' (with_reducible apply andB_intro)
  all_goals first | (with_reducible assumption) | (with_reducible exact holds_in (pair_moved ..)) | (with_reducible exact holds_in (nil3_moved ..)) | (with_reducible exact holds_in (nil_moved ..)) | rfl

set_option smartUnfolding false in
theorem law_02 (B : Base w h₀ mg mb) (l : List D) (ha : allInt l = true) (hl : l.length ≤ 1000) (h1 : takeD (l.take 15) 0 3 = 0) (h2 : takeD (l.take 15) 1 3 = 2) : TabOk w h₀ mg 81 "law" [.lst l] (.bool true) := by
  refine spec_of2 B (gd12 B (vals := [0, 2]) (p := 2)) (g := 40) (dep := 20) (ds := []) (st' := ⟨[], [], 20⟩) (fn := theFn "law") rfl rfl ⟨_, _, rfl, ?_, Wd.refl⟩
  have g1 : takeD (l.take (Int.toNat 15)) (Int.toNat 0) 3 = 0 := h1
  have g2 : takeD (l.take (Int.toNat 15)) (Int.toNat (0 + 1)) 3 = 2 := h2
  have hta : allInt (l.take (Int.toNat 15)) = true := allInt_take _ ha
  have htl : Nat.ble (l.take (Int.toNat 15)).length 1000 = true := Nat.ble_eq_true_of_le (Nat.le_trans (List.length_take_le _ _) (by decide))
  have hl' : Nat.ble l.length 1000 = true := Nat.ble_eq_true_of_le hl
  have g3 := decide_eq_true g1
  have g4 := decide_eq_true g2
  repeat' (with_reducible apply andB_intro)
  all_goals first | (with_reducible assumption) | (with_reducible exact holds_in (pair_moved ..)) | (with_reducible exact holds_in (nil3_moved ..)) | (with_reducible exact holds_in (nil_moved ..)) | rfl

set_option smartUnfolding false in
theorem law_10 (B : Base w h₀ mg mb) (l : List D) (ha : allInt l = true) (hl : l.length ≤ 1000) (h1 : takeD (l.take 15) 0 3 = 1) (h2 : takeD (l.take 15) 1 3 = 0) : TabOk w h₀ mg 81 "law" [.lst l] (.bool true) := by
  refine spec_of2 B (gd12 B (vals := [1, 0]) (p := 0)) (g := 40) (dep := 20) (ds := []) (st' := ⟨[], [], 20⟩) (fn := theFn "law") rfl rfl ⟨_, _, rfl, ?_, Wd.refl⟩
  have g1 : takeD (l.take (Int.toNat 15)) (Int.toNat 0) 3 = 1 := h1
  have g2 : takeD (l.take (Int.toNat 15)) (Int.toNat (0 + 1)) 3 = 0 := h2
  have hta : allInt (l.take (Int.toNat 15)) = true := allInt_take _ ha
  have htl : Nat.ble (l.take (Int.toNat 15)).length 1000 = true := Nat.ble_eq_true_of_le (Nat.le_trans (List.length_take_le _ _) (by decide))
  have hl' : Nat.ble l.length 1000 = true := Nat.ble_eq_true_of_le hl
  have g3 := decide_eq_true g1
  have g4 := decide_eq_true g2
  repeat' (with_reducible apply andB_intro)
  all_goals first | (with_reducible assumption) | (with_reducible exact holds_in (pair_moved ..)) | (with_reducible exact holds_in (nil3_moved ..)) | (with_reducible exact holds_in (nil_moved ..)) | rfl

set_option smartUnfolding false in
theorem law_11 (B : Base w h₀ mg mb) (l : List D) (ha : allInt l = true) (hl : l.length ≤ 1000) (h1 : takeD (l.take 15) 0 3 = 1) (h2 : takeD (l.take 15) 1 3 = 1) : TabOk w h₀ mg 81 "law" [.lst l] (.bool true) := by
  refine spec_of2 B (gd12 B (vals := [1, 1]) (p := 1)) (g := 40) (dep := 20) (ds := []) (st' := ⟨[], [], 20⟩) (fn := theFn "law") rfl rfl ⟨_, _, rfl, ?_, Wd.refl⟩
  have g1 : takeD (l.take (Int.toNat 15)) (Int.toNat 0) 3 = 1 := h1
  have g2 : takeD (l.take (Int.toNat 15)) (Int.toNat (0 + 1)) 3 = 1 := h2
  have hta : allInt (l.take (Int.toNat 15)) = true := allInt_take _ ha
  have htl : Nat.ble (l.take (Int.toNat 15)).length 1000 = true := Nat.ble_eq_true_of_le (Nat.le_trans (List.length_take_le _ _) (by decide))
  have hl' : Nat.ble l.length 1000 = true := Nat.ble_eq_true_of_le hl
  have g3 := decide_eq_true g1
  have g4 := decide_eq_true g2
  repeat' (with_reducible apply andB_intro)
  all_goals first | (with_reducible assumption) | (with_reducible exact holds_in (pair_moved ..)) | (with_reducible exact holds_in (nil3_moved ..)) | (with_reducible exact holds_in (nil_moved ..)) | rfl

set_option smartUnfolding false in
theorem law_12 (B : Base w h₀ mg mb) (l : List D) (ha : allInt l = true) (hl : l.length ≤ 1000) (h1 : takeD (l.take 15) 0 3 = 1) (h2 : takeD (l.take 15) 1 3 = 2) : TabOk w h₀ mg 81 "law" [.lst l] (.bool true) := by
  refine spec_of2 B (gd12 B (vals := [1, 2]) (p := 2)) (g := 40) (dep := 20) (ds := []) (st' := ⟨[], [], 20⟩) (fn := theFn "law") rfl rfl ⟨_, _, rfl, ?_, Wd.refl⟩
  have g1 : takeD (l.take (Int.toNat 15)) (Int.toNat 0) 3 = 1 := h1
  have g2 : takeD (l.take (Int.toNat 15)) (Int.toNat (0 + 1)) 3 = 2 := h2
  have hta : allInt (l.take (Int.toNat 15)) = true := allInt_take _ ha
  have htl : Nat.ble (l.take (Int.toNat 15)).length 1000 = true := Nat.ble_eq_true_of_le (Nat.le_trans (List.length_take_le _ _) (by decide))
  have hl' : Nat.ble l.length 1000 = true := Nat.ble_eq_true_of_le hl
  have g3 := decide_eq_true g1
  have g4 := decide_eq_true g2
  repeat' (with_reducible apply andB_intro)
  all_goals first | (with_reducible assumption) | (with_reducible exact holds_in (pair_moved ..)) | (with_reducible exact holds_in (nil3_moved ..)) | (with_reducible exact holds_in (nil_moved ..)) | rfl

set_option smartUnfolding false in
theorem law_20 (B : Base w h₀ mg mb) (l : List D) (ha : allInt l = true) (hl : l.length ≤ 1000) (h1 : takeD (l.take 15) 0 3 = 2) (h2 : takeD (l.take 15) 1 3 = 0) : TabOk w h₀ mg 81 "law" [.lst l] (.bool true) := by
  refine spec_of2 B (gd12 B (vals := [2, 0]) (p := 0)) (g := 40) (dep := 20) (ds := []) (st' := ⟨[], [], 20⟩) (fn := theFn "law") rfl rfl ⟨_, _, rfl, ?_, Wd.refl⟩
  have g1 : takeD (l.take (Int.toNat 15)) (Int.toNat 0) 3 = 2 := h1
  have g2 : takeD (l.take (Int.toNat 15)) (Int.toNat (0 + 1)) 3 = 0 := h2
  have hta : allInt (l.take (Int.toNat 15)) = true := allInt_take _ ha
  have htl : Nat.ble (l.take (Int.toNat 15)).length 1000 = true := Nat.ble_eq_true_of_le (Nat.le_trans (List.length_take_le _ _) (by decide))
  have hl' : Nat.ble l.length 1000 = true := Nat.ble_eq_true_of_le hl
  have g3 := decide_eq_true g1
  have g4 := decide_eq_true g2
  repeat' (with_reducible apply andB_intro)
  all_goals first | (with_reducible assumption) | (with_reducible exact holds_in (pair_moved ..)) | (with_reducible exact holds_in (nil3_moved ..)) | (with_reducible exact holds_in (nil_moved ..)) | rfl

set_option smartUnfolding false in
theorem law_21 (B : Base w h₀ mg mb) (l : List D) (ha : allInt l = true) (hl : l.length ≤ 1000) (h1 : takeD (l.take 15) 0 3 = 2) (h2 : takeD (l.take 15) 1 3 = 1) : TabOk w h₀ mg 81 "law" [.lst l] (.bool true) := by
  refine spec_of2 B (gd12 B (vals := [2, 1]) (p := 1)) (g := 40) (dep := 20) (ds := []) (st' := ⟨[], [], 20⟩) (fn := theFn "law") rfl rfl ⟨_, _, rfl, ?_, Wd.refl⟩
  have g1 : takeD (l.take (Int.toNat 15)) (Int.toNat 0) 3 = 2 := h1
  have g2 : takeD (l.take (Int.toNat 15)) (Int.toNat (0 + 1)) 3 = 1 := h2
  have hta : allInt (l.take (Int.toNat 15)) = true := allInt_take _ ha
  have htl : Nat.ble (l.take (Int.toNat 15)).length 1000 = true := Nat.ble_eq_true_of_le (Nat.le_trans (List.length_take_le _ _) (by decide))
  have hl' : Nat.ble l.length 1000 = true := Nat.ble_eq_true_of_le hl
  have g3 := decide_eq_true g1
  have g4 := decide_eq_true g2
  repeat' (with_reducible apply andB_intro)
  all_goals first | (with_reducible assumption) | (with_reducible exact holds_in (pair_moved ..)) | (with_reducible exact holds_in (nil3_moved ..)) | (with_reducible exact holds_in (nil_moved ..)) | rfl

set_option smartUnfolding false in
theorem law_22 (B : Base w h₀ mg mb) (l : List D) (ha : allInt l = true) (hl : l.length ≤ 1000) (h1 : takeD (l.take 15) 0 3 = 2) (h2 : takeD (l.take 15) 1 3 = 2) : TabOk w h₀ mg 81 "law" [.lst l] (.bool true) := by
  refine spec_of2 B (gd12 B (vals := [2, 2]) (p := 2)) (g := 40) (dep := 20) (ds := []) (st' := ⟨[], [], 20⟩) (fn := theFn "law") rfl rfl ⟨_, _, rfl, ?_, Wd.refl⟩
  have g1 : takeD (l.take (Int.toNat 15)) (Int.toNat 0) 3 = 2 := h1
  have g2 : takeD (l.take (Int.toNat 15)) (Int.toNat (0 + 1)) 3 = 2 := h2
  have hta : allInt (l.take (Int.toNat 15)) = true := allInt_take _ ha
  have htl : Nat.ble (l.take (Int.toNat 15)).length 1000 = true := Nat.ble_eq_true_of_le (Nat.le_trans (List.length_take_le _ _) (by decide))
  have hl' : Nat.ble l.length 1000 = true := Nat.ble_eq_true_of_le hl
  have g3 := decide_eq_true g1
  have g4 := decide_eq_true g2
  repeat' (with_reducible apply andB_intro)
  all_goals first | (with_reducible assumption) | (with_reducible exact holds_in (pair_moved ..)) | (with_reducible exact holds_in (nil3_moved ..)) | (with_reducible exact holds_in (nil_moved ..)) | rfl

end
end Mine
end

section
set_option autoImplicit false
set_option linter.unusedVariables false
set_option Elab.async false
set_option maxRecDepth 100000
set_option maxHeartbeats 4000000
namespace Mine
open PySem PySem.W PySem.Calls PyProof.Rows

noncomputable def isDef : Stmt → Bool
  | .FunctionDef .. => true
  | _ => false
noncomputable def isFn (f : Str) : Stmt → Bool
  | .FunctionDef n .. => n == f
  | _ => false
noncomputable def pick : List Stmt → Option (Arguments × List Stmt × Scope)
  | [.FunctionDef _ args body [] _ [] scope _ _ _] => some (args, body, scope)
  | _ => none
theorem theDef_pick (r : Program) (f : Str) : r.theDef f = pick (r.main.body.filter (isFn f)) := rfl
theorem theDef_of {p q : Program} (h : p.main.body.filter isDef = q.main.body.filter isDef) (f : Str) : p.theDef f = q.theDef f := by
  have key : ∀ r : Program, r.main.body.filter (isFn f) = (r.main.body.filter isDef).filter (isFn f) := by
    intro r
    rw [List.filter_filter]
    congr 1
    funext st
    cases st <;> simp [isDef, isFn]
  rw [theDef_pick, theDef_pick, key p, key q, h]
theorem pick_one {l : List Stmt} {a : Arguments} {b : List Stmt} {s : Scope} (h : pick l = some (a, b, s)) : ∃ n ret ts bi pos, l = [.FunctionDef n a b [] ret [] s ts bi pos] := by
  cases l with
  | nil => exact no_some h
  | cons st r =>
    cases st with
    | FunctionDef n ar bd decs ret tps sc ts bi pos =>
      cases decs with
      | cons _ _ => exact no_some h
      | nil => cases tps with
        | cons _ _ => exact no_some h
        | nil => cases r with
          | cons _ _ => exact no_some h
          | nil =>
            obtain ⟨rfl, rfl, rfl⟩ := some3 h
            exact ⟨_, _, _, _, _, rfl⟩
    | _ => exact no_some h
theorem mem_recs {q : Program} {f : Str} {a : Arguments} {b : List Stmt} {s : Scope} (h : q.theDef f = some (a, b, s)) (hp : plainArgs a = true) : ∃ pos, (⟨f, a, b, s, pos⟩ : DefRec) ∈ recsOf q := by
  have h' := h
  rw [theDef_pick] at h'
  · obtain ⟨n, ret, ts, bi, pos, hfil⟩ := pick_one h'
    have hm : Stmt.FunctionDef n a b [] ret [] s ts bi pos ∈ q.main.body.filter (isFn f) := by rw [hfil]; exact List.mem_singleton.mpr rfl
    obtain ⟨hm1, hm2⟩ := List.mem_filter.mp hm
    have hn : n = f := by simpa [isFn] using hm2
    subst hn
    refine ⟨pos, List.mem_filterMap.mpr ⟨_, hm1, ?_⟩⟩
    simp only [h]
    obtain ⟨args, rfl⟩ := plainArgs_ok hp
    rfl

noncomputable def freeIn (q : Program) (x : Str) : Bool := !startupNames.contains x && !(looseW q []).contains x && !((recsOf q).map (·.name)).contains x && !((litsOf q).map (·.1)).contains x && !((clssOf q (looseW q [])).map (·.name)).contains x
noncomputable def builtNames : List Str := ["abs", "range", "max", "min", "len", "list", "sum", "enumerate"]
structure ViewOk (q : Program) : Prop where
  defs : P.main.body.filter isDef = q.main.body.filter isDef
  r0 : tupIntsOf q "R0" = some [0, 1]
  r1 : tupIntsOf q "R1" = some [1, 1]
  mb : valOf q "MOST_BITS" = some (.int 200000)
  free : builtNames.all (freeIn q) = true

theorem built_of {x : Str} (h : isBltin x = true ∨ x = ("enumerate" : Str)) : x ∈ builtNames := by
  rcases h with h | rfl
  · simp only [isBltin, Bool.or_eq_true, beq_iff_eq] at h
    simp only [builtNames, List.mem_cons]
    rcases h with (((((h | h) | h) | h) | h) | h) | h <;> simp only [h, true_or, or_true]
  · simp only [builtNames, List.mem_cons, true_or, or_true]
theorem globs_of {x : Str} {d : D} (h : globs.lookup x = some d) : (x = ("R0" : Str) ∧ d = .rat 0 0 0) ∨ (x = ("R1" : Str) ∧ d = .rat 1 1 0) ∨ (x = ("MOST_BITS" : Str) ∧ d = litD 200000) := by
  unfold globs at h
  simp only [List.lookup_cons, List.lookup_nil] at h
  split at h
  · rename_i q; injection h with h; exact .inl ⟨beq_iff_eq.mp q, h.symm⟩
  · split at h
    · rename_i q; injection h with h; exact .inr (.inl ⟨beq_iff_eq.mp q, h.symm⟩)
    · split at h
      · rename_i q; injection h with h; exact .inr (.inr ⟨beq_iff_eq.mp q, h.symm⟩)
      · first | exact no_some h | cases h
theorem ints_two {vs : List Value} {i j : Int} (h : IntsAre vs [i, j]) : ∃ t u, vs = [.int i t, .int j u] := by
  cases h with
  | cons _ t h2 =>
    cases h2 with
    | cons _ u h3 =>
      cases h3
      exact ⟨t, u, rfl⟩
theorem built_val : ∀ x ∈ builtNames, x ≠ ("__name__" : Str) ∧ bootBuiltins x = some (bltV x) := by
  intro x hx
  simp only [builtNames, List.mem_cons, List.not_mem_nil, or_false] at hx
  rcases hx with rfl | rfl | rfl | rfl | rfl | rfl | rfl | rfl <;> exact ⟨by decide +kernel, rfl⟩
theorem base_of {q : Program} {XP : (Str → Option Value) → Heap → Prop} {R : WRecords} {w : World} {s₀ : Shared} {mg mb : Str → Option Value} {h : Heap} (V : ViewOk q) (G : Ground q [] R XP w s₀ mg mb h) : Base w h mg mb where
  g := G.T.g
  b := G.T.b
  nolim := G.T.nolimit
  glob := by
    intro x d hx
    obtain ⟨hq, rfl⟩ | ⟨hq, rfl⟩ | ⟨hq, rfl⟩ := globs_of hx
    · subst hq
      obtain ⟨a, vs, h1, h2, h3⟩ := G.B.tupI _ _ V.r0
      obtain ⟨t, u, rfl⟩ := ints_two h3
      exact ⟨.ref a, h1, ⟨a, t, u, rfl, h2⟩, by decide, by decide⟩
    · subst hq
      obtain ⟨a, vs, h1, h2, h3⟩ := G.B.tupI _ _ V.r1
      obtain ⟨t, u, rfl⟩ := ints_two h3
      exact ⟨.ref a, h1, ⟨a, t, u, rfl, h2⟩, by decide, by decide⟩
    · subst hq
      obtain ⟨v, h1, h2⟩ := G.T.const _ _ V.mb
      have := h2 h
      cases this with
      | int i t => exact ⟨_, h1, rep_lit _ _⟩
  blt := by
    intro x hx
    have hm := built_of hx
    have hf := List.all_eq_true.mp V.free x hm
    simp only [freeIn, Bool.and_eq_true, Bool.not_eq_true', List.contains_eq_mem, decide_eq_false_iff_not] at hf
    obtain ⟨⟨⟨⟨h1, h2⟩, h3⟩, h4⟩, h5⟩ := hf
    refine ⟨G.T.free x h1 h2 h3 h4 h5, ?_⟩
    obtain ⟨n1, n2⟩ := built_val x hm
    rw [G.T.builtins x n1, n2]
  fn := by
    intro f p b s hd hp
    rw [theDef_of V.defs] at hd
    obtain ⟨pos, hm⟩ := mem_recs hd hp
    obtain ⟨a, o, pm, code, doc, h1, h2, h3, h4⟩ := G.T.fn _ hm
    exact ⟨a, o, pm, code, doc, h1, h2, h3, h4⟩

theorem rep_ints {h : Heap} {M : Addr → Prop} {ρ : List Addr} : ∀ {vs : List Value} {ns : List Int}, IntsAre vs ns → Reps h M ρ (ns.map litD) vs
  | _, _, .nil => rfl
  | _, _, .cons i t r => ⟨_, _, rfl, rep_lit _ _, rep_ints r⟩
theorem allInt_lit : ∀ ns : List Int, allInt (ns.map litD) = true
  | [] => rfl
  | n :: r => by
    show allInt (r.map litD) = true
    exact allInt_lit r
section
variable {w : World} {h₀ : Heap} {mg mb : Str → Option Value}
theorem law_spec (B : Base w h₀ mg mb) (l : List D) (ha : allInt l = true) (hl : l.length ≤ 1000) : TabOk w h₀ mg 81 "law" [.lst l] (.bool true) := by
  obtain ⟨f0, f1⟩ := takeD_bnd (l.take 15) 0 3 (by decide)
  obtain ⟨p0, p1⟩ := takeD_bnd (l.take 15) 1 3 (by decide)
  have hf : takeD (l.take 15) 0 3 = 0 ∨ takeD (l.take 15) 0 3 = 1 ∨ takeD (l.take 15) 0 3 = 2 := by omega
  have hp : takeD (l.take 15) 1 3 = 0 ∨ takeD (l.take 15) 1 3 = 1 ∨ takeD (l.take 15) 1 3 = 2 := by omega
  rcases hf with hf | hf | hf
  · rcases hp with hp | hp | hp
    · exact law_00 B l ha hl hf hp
    · exact law_01 B l ha hl hf hp
    · exact law_02 B l ha hl hf hp
  · rcases hp with hp | hp | hp
    · exact law_10 B l ha hl hf hp
    · exact law_11 B l ha hl hf hp
    · exact law_12 B l ha hl hf hp
  · rcases hp with hp | hp | hp
    · exact law_20 B l ha hl hf hp
    · exact law_21 B l ha hl hf hp
    · exact law_22 B l ha hl hf hp
end
theorem caller_ok : AOk 81 callerA := ⟨rfl, by decide, by decide⟩
theorem inv_nil (h : Heap) : Inv h (fun _ => False) h [] [] :=
  ⟨rfl, List.nodup_nil, fun _ _ e => e, fun a m => absurd m List.not_mem_nil, fun a m => absurd m List.not_mem_nil, fun a m => m.elim, fun k l e => by simp at e⟩
theorem walk {q : Program} {XP : (Str → Option Value) → Heap → Prop} {YP : World → Heap → Prop} {d : DefRec} (V : ViewOk q) (hn : d.name = ("law" : Str)) :
    WalkO q [] XP YP PySem.Challenge.rw_xm0140_01.row.toRowW d [] (fun f vs => call f vs) := by
  intro w s₀ s₁ mg mb G Y a o pm cd doc dV kV ho hd hcd hD hmg hg args vals as hpre hlay hrd hwl hlo
  have B := base_of V G
  wrow_args hpre hlay hrd hwl hlo
  rename_i ns _ _ _ _ _ _ _ la vs _ hL _ _ _ hI _ hc _
  obtain ⟨a', ob, fd, h1, h2, h3, spec⟩ := law_spec B (ns.map litD) (allInt_lit ns) (by rw [List.length_map]; omega)
  have ea : a' = a := by
    rw [hn] at hmg
    have := h1.symm.trans hmg
    injection this with this
    injection this
  subst ea
  refine wpAny_mono (spec callerA s₁ (fun _ => False) [.ref la] caller_ok (inv_nil _) ⟨_, _, rfl, ⟨la, vs, rfl, hL, ?_, rep_ints hI⟩, rfl⟩) (fun v s' q => ?_) fun _ _ q => q.elim
  · rintro (h | ⟨k, l, e1, e2⟩)
    · exact h
    · simp at e2
  · obtain ⟨ev1, hv⟩ := q
    have hv : v = .bool true := hv
    subst hv
    obtain ⟨h', tk, rfl⟩ := ev1.same
    refine ⟨.inl ⟨.bool true, .bool true, [], rfl, fun _ => rfl, .bool true, (by wrow_post), fun _ => ⟨.nil, fun _ m => absurd m List.not_mem_nil⟩⟩, OldK.of_keep fun b o e => ev1.keep b o e ?_ (fun q => q), rfl, AllBare.of_eq hg⟩
    rintro ⟨k, l, e1, e2⟩
    simp at e2
end Mine
end

section
open PySem PySem.W PyProof.Rows
set_option maxRecDepth 100000 in
set_option maxHeartbeats 8000000 in
theorem PySem.Challenge.cw_xm0140_01_holds : PySem.Challenge.rw_xm0140_01.Holds := by
  w_on; refine holds_law (by kernel_rfl) fun said => ?_
  refine holds_open (q := Mine.view) (d := Mine.lawRec) (kwd := []) (loose := []) (Xt := fun s => xlAt Mine.view [] s && recOk Mine.theRow.records s) (XP := XL Mine.view []) (Yf := Hook.obs Hook.none) (Ya := Hook.val Hook.none) (YP := Hook.says Hook.none) (N := 3368) Mine.left
    (Hook.of Hook.none) (Hook.keeps Hook.none) (fun s e => xl_of s (Bool.and_eq_true_iff.mp e).1) XL.keeps (by kernel_rfl) (by kernel_rfl) (by kernel_rfl) (fun s e => recFacts_of (Bool.and_eq_true_iff.mp e).2) (by rfl) (by first | assumption | decide +kernel) (by decide +kernel) ⟨rfl, rfl, rfl, rfl, rfl, by decide +kernel⟩ ?hw ?hc
  case hw => w_witness2
  case hc => exact Mine.walk ⟨by kernel_rfl, by decide +kernel, by decide +kernel, by kernel_rfl, by decide +kernel⟩ (by kernel_rfl)
end
